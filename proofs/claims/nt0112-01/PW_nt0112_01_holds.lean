import PyProof.Rows.All
import Wide.All
import OpenK.AllK
import Wide.FinOn
import KE.KTupTruth
import KE.KIsBytes
import PyProof.ListNew
import KE.KxBytes
import KE.KBytesWalk
import KE.BytesMake
import PyProof.StrBlockH
import PyProof.ListIndexNeg
import PyProof.LetGo
import PyProof.Raises
import PyProof.AutoListH
import PyProof.FactsAll.list
import OpenK.KWalk
import PyProof.TupleOfSeq
import PyProof.TupleCall
import PyProof.ListCopy
import PyProof.RangeFor
import PyProof.Rows.Range3
import PyProof.MeetsStr
import PyProof.FactsAll.str
import OpenK.KMake
import Lean
import PySem.Challenge.RW_nt0112_01
set_option Elab.async false
set_option maxRecDepth 100000
set_option linter.all false
set_option genSizeOf false
set_option genInjectivity false
section
open PySem PySem.W PyProof.Rows
namespace Mine
noncomputable def bad : Code → Bool
 | .builtin id _ => (["bytearray.__contains__", "bytearray.__mod__", "bytearray.__rmod__", "_struct.pack_into.held", "bytearray.find.held"] ++ PySem.Builtin.Bytes.decodersThatHold).contains id
 | _ => false
noncomputable def Clean (Γ : Ctx) : Prop := bad Γ.code = false ∧ ∀ x ∈ Γ.below, bad x.1 = false
noncomputable def Wk (prog : Program) (w : World) {α : Type} (Γ : Ctx) (t : Sem α) (Q : α → Shared → Prop) (s : Shared) : Prop :=
 ∀ p, Sem.wp (model prog w) Γ t (fun a _ s' => Q a s') (fun _ _ _ => False) p s
noncomputable def okR (R : Flow → Shared → Prop) (r : Result) (s : Shared) : Prop := match r with
 | .ok f => R f s
 | .error _ => False
noncomputable def Cd (prog : Program) (w : World) (Γ : Ctx) (R : Flow → Shared → Prop) (s : Shared) : Prop :=
 ∀ p, wpCode (model prog w) Γ (okR R) p s
section
variable {α β : Type} {prog : Program} {w : World} {Γ : Ctx} {A : Around} {s : Shared}
theorem Wk.of_any {t : Sem α} {Q : α → Shared → Prop} (hA : Γ.In A) (h : wpAny (model prog w) A t Q (fun _ _ => False) s) : Wk prog w Γ t Q s := fun p => h Γ p hA
theorem Wk.pure {a : α} {Q : α → Shared → Prop} (h : Q a s) : Wk prog w Γ (pure a : Sem α) Q s := fun _ => h
theorem Wk.mono {t : Sem α} {Q Q' : α → Shared → Prop} (h : Wk prog w Γ t Q s) (k : ∀ a s, Q a s → Q' a s) : Wk prog w Γ t Q' s :=
 fun p => Sem.wp_mono _ _ _ (fun a _ s => k a s) (fun _ _ _ x => x) p s (h p)
theorem Wk.bind {m : Sem α} {f : α → Sem β} {Q : β → Shared → Prop} (h : Wk prog w Γ m (fun a s' => Wk prog w Γ (f a) Q s') s) : Wk prog w Γ (m >>= f) Q s := fun p => by
 rw [Sem.wp_bind']
 exact Sem.wp_mono _ _ _ (fun a p' s' h' => h' p') (fun _ _ _ x => x) p s (h p)
theorem Wk.bind2 {m : Sem α} {f : α → Sem β} {Q : β → Shared → Prop} {P : α → Shared → Prop} (h : Wk prog w Γ m P s) (k : ∀ a s', P a s' → Wk prog w Γ (f a) Q s') : Wk prog w Γ (m >>= f) Q s := Wk.bind (h.mono k)
theorem Wk.holding {vs : List Value} {m : Sem α} {Q : α → Shared → Prop} (h : Wk prog w Γ m Q s) : Wk prog w Γ (holding vs m) Q s := fun p => by
 rw [Sem.wp_holding]; exact h p
theorem Wk.onRaise {m : Sem α} {k : Value → Sem Unit} {Q : α → Shared → Prop} (h : Wk prog w Γ m Q s) : Wk prog w Γ (m.onRaise k) Q s := fun p => by
 rw [Sem.wp_onRaise]
 exact Sem.wp_mono _ _ _ (fun _ _ _ x => x) (fun _ _ _ x => x.elim) p s (h p)
theorem Wk.standAt {q : Pos} {Q : Unit → Shared → Prop} (h : Q () s) : Wk prog w Γ (standAt q) Q s := fun _ => h
theorem Wk.rule {q : String} {Q : Unit → Shared → Prop} (h : Q () s) : Wk prog w Γ (rule q) Q s := fun _ => h
theorem Wk.point {Q : Unit → Shared → Prop} (h : Q () s) : Wk prog w Γ point Q s := fun _ => h
theorem Wk.of_eq {t t' : Sem α} {Q : α → Shared → Prop} (e : t = t') (h : Wk prog w Γ t' Q s) : Wk prog w Γ t Q s := e ▸ h
theorem Wk.runValue {c : Code} {Q : Value → Shared → Prop} (h : ∀ p, Cd prog w (Γ.enter c none p) (fun f s' => match f with | .ret v => Q v s' | _ => False) s) :
  Wk prog w Γ (runValue c) Q s := fun p => by
 rw [Sem.wp_runValue]
 refine wpCode_mono ?_ (h p p)
 intro r s' hr
 induction r with
 | error e => exact hr
 | ok f => induction f <;> exact hr
theorem Wk.call {f : Value} {args : List Value} {kw : List (Str × Value)} {Q : Value → Shared → Prop} (h : ∀ p, Cd prog w (Γ.enter (.call f ⟨args, kw⟩) none p) (fun f s' => match f with | .ret v => Q v s' | _ => False) s) :
  Wk prog w Γ (call f args kw) Q s := Wk.runValue h
theorem Wk.run {c : Code} {Q : Flow → Shared → Prop} (h : ∀ p, Cd prog w (Γ.enter c none p) Q s) : Wk prog w Γ (run c) Q s := fun p => by
 rw [Sem.wp_run]
 refine wpCode_mono ?_ (h p p)
 intro r s' hr
 induction r <;> exact hr
theorem Wk.runOwn {c : Code} {env : Env} {Q : Flow → Shared → Prop} (h : ∀ p, Cd prog w (Γ.enter c none p) Q s) : Wk prog w Γ (runOwn c env) Q s := by
 unfold PySem.runOwn
 exact Wk.onRaise (Wk.run h)
theorem Cd.mono {R R' : Flow → Shared → Prop} (h : Cd prog w Γ R s) (k : ∀ f s, R f s → R' f s) : Cd prog w Γ R' s :=
 fun p => wpCode_mono (fun r s' hr => by induction r <;> first | exact k _ _ hr | exact hr) (h p)
theorem Cd.tree {R : Flow → Shared → Prop} (h : Wk prog w Γ (denote table Γ.code) (fun fin s' => match fin with | .done f => R f s' | .again c' => c'.quiet = true ∧ Cd prog w (Γ.goto c') R s') s) : Cd prog w Γ R s := fun p => by
 rw [wpCode_iff_wp]
 refine Sem.wp_mono _ _ _ (fun fin p' s' hf => ?_) (fun _ _ _ x => x.elim) p s (h p)
 induction fin with
 | done f => exact hf
 | again c => exact ⟨hf.1, hf.2 p'⟩
end
theorem Clean.enter {Γ : Ctx} (h : Clean Γ) {c : Code} (hc : bad c = false) (p : Pos) : Clean (Γ.enter c none p) := by
 refine ⟨hc, fun x hx => ?_⟩
 rcases List.mem_cons.mp hx with rfl | hx
 ·exact h.1
 ·exact h.2 x hx
theorem Clean.goto {Γ : Ctx} (h : Clean Γ) {c : Code} (hc : bad c = false) : Clean (Γ.goto c) := ⟨hc, h.2⟩
structure Good (cl : Bool) (n : Nat) (Γ : Ctx) (A : Around) : Prop where
 isIn : Γ.In A
 depth : A.depth + n ≤ 900
 units : A.units + 8 * n ≤ 9000
 handled : A.handled = none
 clean : cl = true → Clean Γ
theorem Good.less {cl : Bool} {n m : Nat} {Γ : Ctx} {A : Around} (h : Good cl n Γ A) (hm : m ≤ n) : Good cl m Γ A := ⟨h.isIn, by have := h.depth; omega, by have := h.units; omega, h.handled, h.clean⟩
theorem mark_none (A : Around) : A.mark none = A := by cases A; rfl
theorem Good.enter {cl : Bool} {n : Nat} {Γ : Ctx} {A : Around} (h : Good cl n Γ A) {c : Code} (hw : c.weight = 0) (hu : c.cUnits = 0) (hb : bad c = false) (p : Pos) : Good cl n (Γ.enter c none p) A := by
 have z := (h.isIn.enter c none p (by intro x; cases x)).in
 rw [mark_none, show (Γ.enter c none p).code = c from rfl, Around.under_of_weight hw hu] at z
 exact ⟨z, h.depth, h.units, h.handled, fun e => (h.clean e).enter hb p⟩
theorem Good.below {cl : Bool} {n : Nat} {Γ : Ctx} {A : Around} (h : Good cl n Γ A) (c : Code) (p : Pos) : (Γ.enter c none p).Below A := by
 have z := h.isIn.enter c none p (by intro x; cases x)
 rwa [mark_none] at z
theorem units_ok {cl : Bool} {n : Nat} {Γ : Ctx} {A : Around} (h : Good cl n Γ A) : A.units < cLine := by
 have := h.units
 show A.units < 9900
 omega
section
inductive FV where
 | none | bool (b : Bool) | int (i : Int) | str (s : Str) | bytes (b : List UInt8) | barr (b : List UInt8)
 | tup (l : List FV) | list (l : List FV) | rng (a b c : Int) | inst (c : Addr) (ns : List Str) (vs : List FV)
inductive PV where
 | f (v : FV) | o (k : Nat)
inductive AO where
 | list (l : List FV) | barr (b : List UInt8) | inst (c : Addr) (ns : List Str) (vs : List PV)
noncomputable abbrev Led := List (Nat × AO)
structure St where
 loc : List (Option PV)
 led : Led
 chg : List Nat := []
 lent : List Nat := []
inductive BI where
 | len | ord | chr | int | bool | max | bytes | bytearray | tuple | list | range | isi (T : String)
inductive BM where
 | append | extend | reverse | join
inductive PE where
 | var (i : Nat)
 | gc (x : Str) (v : FV)
 | cst (c : Const)
 | bin (op : Operator) (a b : PE) (lab : Option Nat)
 | neg (a : PE) | notE (a : PE)
 | cmp (a : PE) (ops : List CmpOp) (bs : List PE)
 | andE (l : List PE) | orE (l : List PE)
 | ife (c a b : PE)
 | idx (a i : PE)
 | slc (a : PE) (lo hi : Option PE) (lab : Option Nat)
 | attr (a : PE) (x : Str)
 | lst (l : List PE) (lab : Option Nat)
 | tup (l : List PE)
 | call (f : Nat) (args : List PE) (pass keep : List Nat)
 | meth (r : PE) (f : Nat) (args : List PE) (pass keep : List Nat)
 | new (c : Nat) (args : List PE) (lab : Nat) (keep : List Nat)
 | bi (b : BI) (args : List PE) (lab : Option Nat)
 | bm (b : BM) (r : PE) (args : List PE)
 | comp (elt : PE) (it : PE) (free : List Nat) (lab : Option Nat)
inductive PS where
 | asg (i : Nat) (e : PE)
 | asgT (is : List Nat) (e : PE)
 | asgA (a : PE) (x : Str) (e : PE)
 | asgI (a i e : PE)
 | aug (i : Nat) (op : Operator) (e : PE)
 | augA (a : PE) (x : Str) (op : Operator) (e : PE)
 | ifS (c : PE) (t f : List PS)
 | whileS (n : Nat) (c : PE) (b : List PS)
 | forS (i : Nat) (e : PE) (b : List PS)
 | ret (e : PE) (gs : List Nat)
 | expr (e : PE)
 | frz (k : Nat)
 | stuck
inductive Out where
 | next | ret (v : PV)
theorem nob {p : Prop} (h : false = true) : p := nomatch h
theorem no {α : Type} {x : α} {p : Prop} (h : Option.none = some x) : p := nomatch h
theorem andk {a b : Bool} {G : Prop} (e : (a && b) = true) (k : a = true → b = true → G) : G := k (Bool.and_eq_true_iff.mp e).1 (Bool.and_eq_true_iff.mp e).2
theorem dk {c : Prop} [Decidable c] {f : c → Bool} {G : Prop} (e : (if h : c then f h else false) = true) (k : ∀ h, f h = true → G) : G := by
 by_cases h : c
 ·rw [dif_pos h] at e; exact k h e
 ·rw [dif_neg h] at e; exact absurd e Bool.false_ne_true
theorem eqk {α : Type} [BEq α] [LawfulBEq α] {a b : α} {Q : α → Prop} (e : (a == b) = true) (h : Q b) : Q a := eq_of_beq e ▸ h
theorem deck {α : Type} {a b : α} [Decidable (a = b)] {Q : α → Prop} (e : decide (a = b) = true) (h : Q b) : Q a := of_decide_eq_true e ▸ h
theorem nilk {α : Type} {l : List α} {Q : List α → Prop} (e : l.isEmpty = true) (h : Q []) : Q l := List.isEmpty_iff.mp e ▸ h
theorem not_t {b : Bool} (h : (!b) = true) : b = false := by cases b; rfl; cases h
theorem or_t {a b : Bool} {G : Prop} (h : (a || b) = true) (k : a = true → G) (k' : b = true → G) : G := (Bool.or_eq_true_iff.mp h).elim k k'
theorem bk {α β : Type} {x : Option α} {f : α → Option β} {z : β} {G : Prop} (e : x.bind f = some z) (k : ∀ a, x = some a → f a = some z → G) : G := by
 induction x with
 | none => exact no e
 | some a => exact k a rfl e
theorem mk {α β : Type} {x : Option α} {f : α → β} {z : β} {G : Prop} (e : x.map f = some z) (k : ∀ a, x = some a → f a = z → G) : G := by
 induction x with
 | none => exact no e
 | some a => exact k a rfl (Option.some.inj e)
theorem ik {α : Type} {c : Prop} [Decidable c] {x : Option α} {z : α} {G : Prop} (e : (if c then x else none) = some z) (k : c → x = some z → G) : G := by
 by_cases h : c
 ·rw [if_pos h] at e; exact k h e
 ·rw [if_neg h] at e; exact no e
theorem ite_some {α : Type} {c : Prop} [Decidable c] {a z : α} (h : (if c then some a else none) = some z) : c ∧ a = z := ik h fun hc e => ⟨hc, Option.some.inj e⟩
theorem O1 {a b c : Nat} (h : a ≤ b := by assumption) (h' : b ≤ c := by decide) : a ≤ c := Nat.le_trans h h'
theorem O2 {a b c : Nat} (h : a ≤ b := by assumption) (h' : b < c := by decide) : a < c := Nat.lt_of_le_of_lt h h'
theorem O4 {a b c : Nat} (h : a < b := by assumption) (h' : b ≤ c := by decide) : a ≤ c := Nat.le_of_lt (Nat.lt_of_lt_of_le h h')
theorem O16 {a b : Nat} (h : a < b := by assumption) : a ≤ b := Nat.le_of_lt h
theorem O8 {a b c : Nat} (h : a < b := by assumption) (h' : b < c := by assumption) : a < c := Nat.lt_trans h h'
theorem O30 {a b : Nat} (h : ¬a < b := by assumption) : b ≤ a := Nat.le_of_not_lt h
theorem O32 {a b : Nat} (h : a ≤ b := by assumption) (h' : ¬a = b := by assumption) : a < b := Nat.lt_of_le_of_ne h h'
theorem O34 {a : Nat} : ¬(a : Int) < 0 := Int.not_lt.mpr (Int.natCast_nonneg a)
theorem O35 {a : Nat} : 0 ≤ (a : Int) := Int.natCast_nonneg a
theorem O36 {a b : Nat} (h : a < b := by assumption) : (a : Int) < b := Int.ofNat_lt.mpr h
theorem O37 {a b : Nat} (h : a ≤ b := by assumption) : (a : Int) ≤ b := Int.ofNat_le.mpr h
theorem O38 {a b : Nat} (h : ¬a < b := by assumption) : ¬(a : Int) < b := fun e => h (Int.ofNat_lt.mp e)
theorem O39 {a b : Nat} (h : a ≤ b := by assumption) : ¬(b : Int) < a := fun e => Nat.not_le_of_lt (Int.ofNat_lt.mp e) h
theorem O40 {a b : Nat} (h : ¬a = b := by assumption) : ¬(a : Int) = b := fun e => h (Int.ofNat.inj e)
theorem O46 {a : Nat} : 0 < a + 1 := Nat.succ_pos a
theorem O12 {a b c : Nat} (h : a = b := by assumption) (h' : b ≤ c := by assumption) : a ≤ c := h ▸ h'
theorem O13 {a b c : Nat} (h : b = a := by assumption) (h' : b ≤ c := by assumption) : a ≤ c := h ▸ h'
theorem O14 {a b c d : Nat} (h : a = b := by assumption) (h' : b ≤ c := by assumption) (k : c ≤ d := by decide) : a ≤ d := h ▸ Nat.le_trans h' k
theorem O9 {a b c d : Nat} (h : a ≤ b := by assumption) (h' : b ≤ c := by assumption) (k : c ≤ d := by decide) : a ≤ d := Nat.le_trans h (Nat.le_trans h' k)
theorem O11 {a b c d : Nat} (h : a ≤ b := by assumption) (h' : b ≤ c := by assumption) (k : c < d := by decide) : a < d := Nat.lt_of_le_of_lt h (Nat.lt_of_le_of_lt h' k)
theorem O56 {a b c d : Nat} (h : a < b := by assumption) (h' : b ≤ c := by assumption) (k : c ≤ d := by decide) : a ≤ d := Nat.le_of_lt (Nat.lt_of_lt_of_le h (Nat.le_trans h' k))
theorem O55 {a b c d : Nat} (h : a < b := by assumption) (h' : b < c := by assumption) (k : c ≤ d := by decide) : a < d := Nat.lt_trans h (Nat.lt_of_lt_of_le h' k)
theorem O17 {a b c : Nat} (h : a + b ≤ c := by assumption) : a ≤ c := Nat.le_of_add_right_le h
theorem O18 {a b c : Nat} (h : a + b ≤ c := by assumption) : b ≤ c := Nat.le_trans (Nat.le_add_left ..) h
theorem O19 {a b c d : Nat} (h : a + b ≤ c := by assumption) (k : c ≤ d := by decide) : a ≤ d := Nat.le_trans (Nat.le_of_add_right_le h) k
theorem O20 {a b c d : Nat} (h : a + b ≤ c := by assumption) (k : c < d := by decide) : a < d := Nat.lt_of_le_of_lt (Nat.le_of_add_right_le h) k
theorem O21 {a b c d : Nat} (h : a + b ≤ c := by assumption) (k : c ≤ d := by decide) : b ≤ d := Nat.le_trans (Nat.le_trans (Nat.le_add_left ..) h) k
theorem O57 {a b c d e : Nat} (h : a + b ≤ c := by assumption) (h' : c ≤ e := by assumption) (k : e ≤ d := by decide) : a ≤ d := Nat.le_trans (Nat.le_of_add_right_le h) (Nat.le_trans h' k)
theorem O58 {a b c d e : Nat} (h : a + b ≤ c := by assumption) (h' : c ≤ e := by assumption) (k : e < d := by decide) : a < d := Nat.lt_of_le_of_lt (Nat.le_of_add_right_le h) (Nat.lt_of_le_of_lt h' k)
theorem O23 {a b k d : Nat} (h : a ≤ b := by assumption) (h' : b + k < d := by decide) : a + k < d := Nat.lt_of_le_of_lt (Nat.add_le_add_right h k) h'
theorem O24 {a b k d : Nat} (h : a ≤ b := by assumption) (h' : k + b ≤ d := by decide) : k + a ≤ d := Nat.le_trans (Nat.add_le_add_left h k) h'
theorem O25 {a k : Nat} : a + (k + 1) = a + 1 + k := (Nat.succ_add a k).symm
theorem O27 {a m : Nat} (h : a + 1 < m + 1 := by assumption) : a < m := Nat.lt_of_succ_lt_succ h
theorem O47 {a b : Nat} (h : 0 < a := by assumption) : 0 < a + b := Nat.lt_of_lt_of_le h (Nat.le_add_right ..)
theorem O48 {a b k : Nat} (h : a ≤ b := by assumption) : a ≤ b + k := Nat.le_trans h (Nat.le_add_right ..)
theorem O61 {a b : Nat} : a ≤ a + b := Nat.le_add_right ..
theorem O62 {a b : Nat} : a ≤ b + a := Nat.le_add_left ..
theorem O50 {a b c k : Nat} (h : a + (b + k) ≤ c := by assumption) : a + b + k ≤ c := Nat.add_assoc a b k ▸ h
theorem O51 {a b c k : Nat} (h : a + (b + k) ≤ c := by assumption) : a + b ≤ c := Nat.le_trans (Nat.add_le_add_left (Nat.le_add_right b k) a) h
theorem O52 {a b c : Nat} (h : a + (b + 1) ≤ c := by assumption) : a + 1 + b ≤ c := Nat.le_trans (Nat.le_of_eq (Nat.succ_add a b)) h
theorem O63 {a b c : Nat} (h : a + 1 + b ≤ c := by assumption) : a + (b + 1) ≤ c := Nat.le_trans (Nat.le_of_eq (Nat.succ_add a b).symm) h
theorem O41 {a b : Nat} {c : Int} (h : a < b := by assumption) (e : (b : Int) ≤ c := by decide) : (a : Int) < c := Int.lt_of_lt_of_le (Int.ofNat_lt.mpr h) e
theorem O42 {a b : Nat} {c : Int} (h : a ≤ b := by assumption) (e : (b : Int) ≤ c := by decide) : (a : Int) ≤ c := Int.le_trans (Int.ofNat_le.mpr h) e
theorem O66 {a b m : Nat} (h : a - b < m + 1 := by assumption) (h' : b < a := by assumption) : a - (b + 1) < m := Nat.lt_of_lt_of_le (Nat.pred_lt (Nat.ne_of_gt (Nat.sub_pos_of_lt h'))) (Nat.le_of_lt_succ h)
theorem O69 {a b : Nat} (h : a ≤ b := by assumption) : ¬b < a := Nat.not_lt_of_le h
theorem O78 {a b c : Nat} (h : a = b := by assumption) (h' : c = b := by assumption) : a = c := h.trans h'.symm
theorem O82 {a b : Nat} (h : a ≤ b := by assumption) : a + (b - a) = b := Nat.add_sub_of_le h
theorem O83 {a b : Nat} (h : a ≤ b := by assumption) : min a b = a := Nat.min_eq_left h
theorem fit {n : Nat} (h : n ≤ 1000000) : (n : Int) < 2 ^ 63 := by omega
theorem fit' {n : Nat} (h : n ≤ 1000000) : ¬ (n : Int) ≥ 2 ^ 63 := by omega
noncomputable def alt {α β : Type} (o : Option α) (k : α → β) (d : β) : β := match o with
 | some a => k a
 | none => d
theorem map_at {α β : Type} {f : α → β} {l : List α} {k : Nat} {a : α} (h : l[k]? = some a) : (l.map f)[k]? = some (f a) := by rw [List.getElem?_map, h]; rfl
theorem ak {α β : Type} {o : Option α} {k : α → Option β} {d : Option β} {z : β} {G : Prop} (e : alt o k d = some z) (h : ∀ a, o = some a → k a = some z → G) (h' : d = some z → G) : G := by
 induction o with
 | none => exact h' e
 | some a => exact h a rfl e
namespace FV
noncomputable def asN : FV → Option Unit
 | .none => some ()
 | _ => Option.none
noncomputable def asI : FV → Option Int
 | .int i => some i
 | _ => Option.none
noncomputable def asS : FV → Option Str
 | .str i => some i
 | _ => Option.none
noncomputable def asB : FV → Option (List UInt8)
 | .bytes i => some i
 | _ => Option.none
noncomputable def asL : FV → Option (List FV)
 | .list i => some i
 | _ => Option.none
noncomputable def asT : FV → Option (List FV)
 | .tup i => some i
 | _ => Option.none
theorem asN_some {x : FV} {i : Unit} (h : asN x = some i) : x = .none := by
 induction x using FV.casesOn with
 | none => rfl
 | _ => exact no h
theorem asI_some {x : FV} {i : Int} (h : asI x = some i) : x = .int i := by
 induction x using FV.casesOn with
 | int j => exact congrArg FV.int (Option.some.inj h)
 | _ => exact no h
theorem asS_some {x : FV} {i : Str} (h : asS x = some i) : x = .str i := by
 induction x using FV.casesOn with
 | str j => exact congrArg FV.str (Option.some.inj h)
 | _ => exact no h
theorem asB_some {x : FV} {i : List UInt8} (h : asB x = some i) : x = .bytes i := by
 induction x using FV.casesOn with
 | bytes j => exact congrArg FV.bytes (Option.some.inj h)
 | _ => exact no h
theorem asL_some {x : FV} {i : List FV} (h : asL x = some i) : x = .list i := by
 induction x using FV.casesOn with
 | list j => exact congrArg FV.list (Option.some.inj h)
 | _ => exact no h
theorem asT_some {x : FV} {i : List FV} (h : asT x = some i) : x = .tup i := by
 induction x using FV.casesOn with
 | tup j => exact congrArg FV.tup (Option.some.inj h)
 | _ => exact no h
noncomputable def eqB (x y : FV) : Option Bool := match x with
 | .none => (asN y).map fun _ => true
 | .int i => (asI y).map fun j => i == j
 | .str s => (asS y).map fun t => s.cps.toList == t.cps.toList
 | .bytes b => (asB y).map fun c => b == c
 | _ => Option.none
noncomputable def eqL : List FV → List FV → Option Bool
 | [], [] => some true
 | a :: l, b :: m => (eqB a b).bind fun t => (eqL l m).map fun u => t && u
 | _, _ => Option.none
noncomputable def ltB (x y : FV) : Option Bool := match x with
 | .int i => (asI y).map fun j => decide (i < j)
 | .str s => (asS y).map fun t => decide (s.cps.toList < t.cps.toList)
 | .bytes b => (asB y).map fun c => PySem.Builtin.Bytes.order b c == .lt
 | _ => Option.none
noncomputable def ltL : List FV → List FV → Option Bool
 | [], [] => some false
 | a :: l, b :: m => (eqB a b).bind fun t => if t then ltL l m else ltB a b
 | _, _ => Option.none
noncomputable def truth : FV → Option Bool
 | .none => some false
 | .bool b => some b
 | .int i => some (i != 0)
 | .str s => if s.length ≤ 1000000 then some (s.length != 0) else Option.none
 | .list l => if l.length ≤ 1000000 then some (!l.isEmpty) else Option.none
 | _ => Option.none
noncomputable def isT (T : String) : FV → Option Bool
 | .none => if T = "int" ∨ T = "str" ∨ T = "bytes" then some false else Option.none
 | .int _ => if T = "int" then some true else if T = "str" ∨ T = "bytes" then some false else Option.none
 | .str _ => if T = "str" then some true else if T = "int" ∨ T = "bytes" then some false else Option.none
 | .bytes _ => if T = "bytes" then some true else if T = "int" ∨ T = "str" then some false else Option.none
 | _ => Option.none
end FV
open FV (asN asI asS asB asL asT asN_some asI_some asS_some asB_some asL_some asT_some)
theorem eqB_inv {x y : FV} {r : Bool} (e : FV.eqB x y = some r) : (x = .none ∧ y = .none ∧ true = r) ∨ (∃ i j, x = .int i ∧ y = .int j ∧ (i == j) = r) ∨ (∃ s t, x = .str s ∧ y = .str t ∧ (s.cps.toList == t.cps.toList) = r) ∨ (∃ b c, x = .bytes b ∧ y = .bytes c ∧ (b == c) = r) := by
 induction x using FV.casesOn with
 | none => exact mk e fun _ h e => .inl ⟨rfl, asN_some h, e⟩
 | int i => exact mk e fun j h e => .inr (.inl ⟨i, j, rfl, asI_some h, e⟩)
 | str i => exact mk e fun j h e => .inr (.inr (.inl ⟨i, j, rfl, asS_some h, e⟩))
 | bytes i => exact mk e fun j h e => .inr (.inr (.inr ⟨i, j, rfl, asB_some h, e⟩))
 | _ => exact no e
theorem ltB_inv {x y : FV} {r : Bool} (e : FV.ltB x y = some r) : (∃ i j, x = .int i ∧ y = .int j ∧ decide (i < j) = r) ∨ (∃ s t, x = .str s ∧ y = .str t ∧ decide (s.cps.toList < t.cps.toList) = r) ∨ (∃ b c, x = .bytes b ∧ y = .bytes c ∧ (PySem.Builtin.Bytes.order b c == .lt) = r) := by
 induction x using FV.casesOn with
 | int i => exact mk e fun j h e => .inl ⟨i, j, rfl, asI_some h, e⟩
 | str i => exact mk e fun j h e => .inr (.inl ⟨i, j, rfl, asS_some h, e⟩)
 | bytes i => exact mk e fun j h e => .inr (.inr ⟨i, j, rfl, asB_some h, e⟩)
 | _ => exact no e
noncomputable def eqC (a b : FV) : Option Bool := alt (asL a) (fun l => (asL b).bind fun m => if l.length = m.length then FV.eqL l m else some false) (FV.eqB a b)
noncomputable def neC (a b : FV) : Option Bool := alt (asL a) (fun l => (asL b).bind fun m => if l.length = m.length then (FV.eqL l m).map not else some true) ((FV.eqB a b).map not)
noncomputable def ltC (a b : FV) : Option Bool := alt (asT a) (fun l => (asT b).bind fun m => FV.ltL l m) (FV.ltB a b)
noncomputable def intC (f : Int → Int → Bool) (a b : FV) : Option Bool := (asI a).bind fun i => (asI b).map fun j => f i j
noncomputable def leC (a b : FV) : Option Bool := alt (asS a) (fun s => (asS b).map fun t => !decide (t.cps.toList < s.cps.toList)) (intC (fun i j => decide (i ≤ j)) a b)
noncomputable def isNone (a : FV) : Bool := (asN a).isSome
noncomputable def isC (a b : FV) : Option Bool := (asN b).map fun _ => isNone a
noncomputable def inC (a b : FV) : Option Bool := (asI a).bind fun i => (asT b).bind fun l => if l.all (fun x => (asI x).isSome) then some (l.any fun x => asI x == some i) else Option.none
theorem eqC_inv {x y : FV} {r : Bool} (e : eqC x y = some r) : (∃ l m, x = .list l ∧ y = .list m ∧ (if l.length = m.length then FV.eqL l m else some false) = some r) ∨ FV.eqB x y = some r :=
 ak e (fun l h e => bk e fun m h' e => .inl ⟨l, m, asL_some h, asL_some h', e⟩) .inr
theorem neC_inv {x y : FV} {r : Bool} (e : neC x y = some r) : (∃ l m, x = .list l ∧ y = .list m ∧ (if l.length = m.length then (FV.eqL l m).map not else some true) = some r) ∨ (FV.eqB x y).map not = some r :=
 ak e (fun l h e => bk e fun m h' e => .inl ⟨l, m, asL_some h, asL_some h', e⟩) .inr
theorem ltC_inv {x y : FV} {r : Bool} (e : ltC x y = some r) : (∃ l m, x = .tup l ∧ y = .tup m ∧ FV.ltL l m = some r) ∨ FV.ltB x y = some r :=
 ak e (fun l h e => bk e fun m h' e => .inl ⟨l, m, asT_some h, asT_some h', e⟩) .inr
theorem intC_inv {f : Int → Int → Bool} {x y : FV} {r : Bool} (e : intC f x y = some r) : ∃ i j, x = .int i ∧ y = .int j ∧ f i j = r :=
 bk e fun i h e => mk e fun j h' e => ⟨i, j, asI_some h, asI_some h', e⟩
theorem leC_inv {x y : FV} {r : Bool} (e : leC x y = some r) : (∃ l m, x = .str l ∧ y = .str m ∧ (!decide (m.cps.toList < l.cps.toList)) = r) ∨ intC (fun i j => decide (i ≤ j)) x y = some r :=
 ak e (fun l h e => mk e fun m h' e => .inl ⟨l, m, asS_some h, asS_some h', e⟩) .inr
theorem isC_inv {x y : FV} {r : Bool} (e : isC x y = some r) : y = .none ∧ isNone x = r := mk e fun _ h e => ⟨asN_some h, e⟩
theorem inC_inv {x y : FV} {r : Bool} (e : inC x y = some r) : ∃ i l, x = .int i ∧ y = .tup l ∧ (if l.all (fun x => (asI x).isSome) then some (l.any fun x => asI x == some i) else Option.none) = some r :=
 bk e fun i h e => bk e fun l h' e => ⟨i, l, asI_some h, asT_some h', e⟩
noncomputable def chainCmp (op : CmpOp) (a b : FV) : Option Bool :=
 match op with
 | .Eq => eqC a b
 | .NotEq => neC a b
 | .Lt => ltC a b
 | .LtE => leC a b
 | .Gt => intC (fun i j => decide (i > j)) a b
 | .GtE => intC (fun i j => decide (i ≥ j)) a b
 | .Is => isC a b
 | .IsNot => (isC a b).map not
 | .In => inC a b
 | _ => Option.none
noncomputable def binI (op : Operator) (i j : Int) : Option FV := match op with
 | .Add => some (.int (i + j))
 | .Sub => some (.int (i - j))
 | .Mult => if decide (j.natAbs < 2 ^ 64) || decide (i.natAbs < 2 ^ 64) then some (.int (i * j)) else Option.none
 | .FloorDiv => if j ≠ 0 ∧ j.natAbs < 1073741824 then some (.int (i.fdiv j)) else Option.none
 | .Mod => if j ≠ 0 then some (.int (i.fmod j)) else Option.none
 | .Pow => if 0 ≤ j ∧ j ≤ 64 ∧ i.natAbs < 1024 then some (.int (i ^ j.toNat)) else Option.none
 | .LShift => if 0 ≤ j ∧ j ≤ 64 ∧ i.natAbs < 2 ^ 64 then some (.int (i * 2 ^ j.toNat)) else Option.none
 | .RShift => if 0 ≤ j then some (.int (i.fdiv (2 ^ j.toNat))) else Option.none
 | .BitAnd => some (.int (PySem.Builtin.bitAnd i j))
 | .BitOr => some (.int (PySem.Builtin.bitOr i j))
 | _ => Option.none
noncomputable def onAdd (op : Operator) (x : Option FV) : Option FV := match op with
 | .Add => x
 | _ => Option.none
theorem onAdd_some {op : Operator} {x : Option FV} {z : FV} (h : onAdd op x = some z) : op = .Add ∧ x = some z := by
 induction op <;> first | exact ⟨rfl, h⟩ | exact no h
noncomputable def binFV (op : Operator) (a b : FV) : Option FV := match a with
 | .int i => (match b with | .int j => binI op i j | _ => Option.none)
 | .bytes b1 => (match b with | .bytes c => onAdd op (if b1.length + c.length ≤ 1000000 then some (.bytes (b1 ++ c)) else Option.none) | _ => Option.none)
 | .str s => (match b with | .str t => onAdd op (if s.length + t.length ≤ 1000000 then some (.str (s ++ t)) else Option.none) | _ => Option.none)
 | .list l => (match b with | .list m => onAdd op (if l.length + m.length ≤ 1000000 then some (.list (l ++ m)) else Option.none) | _ => Option.none)
 | _ => Option.none
noncomputable def augFV (op : Operator) (i j : Int) : Option Int := match op with
 | .Add => some (i + j)
 | .Sub => some (i - j)
 | .RShift => if 0 ≤ j then some (i.fdiv (2 ^ j.toNat)) else Option.none
 | _ => Option.none
noncomputable def sliceOf {α : Type} (l : List α) (lo hi : Option Int) : List α :=
 let n : Int := l.length
 let at_ (i : Int) : Int := if i < 0 then max 0 (i + n) else min i n
 let a := (lo.map at_).getD 0
 let b := (hi.map at_).getD n
 (l.drop a.toNat).take (b - a).toNat
noncomputable def sliceFV (v : FV) (lo hi : Option Int) : Option FV := match v with
 | .list l => if l.length ≤ 1000000 then some (.list (sliceOf l lo hi)) else Option.none
 | .bytes b => if b.length ≤ 1000000 ∧ (sliceOf b lo hi).length ≠ b.length then some (.bytes (sliceOf b lo hi)) else Option.none
 | .str s => if s.length ≤ 1000000 then some (.str ⟨⟨sliceOf s.cps.toList lo hi⟩⟩) else Option.none
 | _ => Option.none
noncomputable def placeOf (i : Int) (n : Nat) : Option Nat := if 0 ≤ i then (if i < n then some i.toNat else Option.none) else if 0 ≤ i + n then some (i + n).toNat else Option.none
noncomputable def idxFV (v : FV) (i : Int) : Option FV := match v with
 | .list l => (placeOf i l.length).bind fun k => l[k]?
 | .tup l => (placeOf i l.length).bind fun k => l[k]?
 | .bytes b => if b.length ≤ 1000000 then (placeOf i b.length).bind fun k => (b[k]?).map fun c => .int (c.toNat : Int) else Option.none
 | .str s => (placeOf i s.cps.size).bind fun k => (s.cps[k]?).map fun c => .str ⟨#[c]⟩
 | _ => Option.none
noncomputable def rngList (a b c : Int) : Option (List FV) :=
 if (c = 1 ∨ c = 2) ∧ a.natAbs < 1000000000 ∧ b.natAbs < 1000000000 then some ((List.range (PySem.Builtin.Range.rangeSize a b c).toNat).map fun (k : Nat) => FV.int (a + (k : Int) * c)) else Option.none
noncomputable def itemsFV : FV → Option (List FV)
 | .list l => some l
 | .tup l => some l
 | .str s => some (s.cps.toList.map fun c => .str ⟨#[c]⟩)
 | .bytes b => some (b.map fun c => .int (c.toNat : Int))
 | .barr b => some (b.map fun c => .int (c.toNat : Int))
 | .rng a b c => rngList a b c
 | _ => Option.none
noncomputable def byteOf : FV → Option UInt8
 | .int i => if 0 ≤ i && i < 256 then some i.toNat.toUInt8 else Option.none
 | _ => Option.none
noncomputable def strOf : FV → Option (List Nat)
 | .str s => some s.cps.toList
 | _ => Option.none
noncomputable def oneF (f : FV → Option FV) (l : List FV) : Option FV := match l with
 | [x] => f x
 | _ => Option.none
noncomputable def lenFV (x : FV) : Option FV := match x with
 | .list l => if l.length ≤ 1000000 then some (.int l.length) else Option.none
 | .tup l => if l.length ≤ 1000000 then some (.int l.length) else Option.none
 | .str s => if s.length ≤ 1000000 then some (.int s.length) else Option.none
 | .bytes b => if b.length ≤ 1000000 then some (.int b.length) else Option.none
 | .barr b => if b.length ≤ 1000000 then some (.int b.length) else Option.none
 | _ => Option.none
noncomputable def ordFV (x : FV) : Option FV := match x with
 | .str s => (match s.cps.toList with | [c] => some (.int c) | _ => Option.none)
 | _ => Option.none
noncomputable def chrFV (x : FV) : Option FV := match x with
 | .int i => if 0 ≤ i && i < 1114112 then some (.str ⟨#[i.toNat]⟩) else Option.none
 | _ => Option.none
noncomputable def intFV (x : FV) : Option FV := match x with
 | .int i => some (.int i)
 | .bool b => some (.int (if b then 1 else 0))
 | _ => Option.none
noncomputable def boolFV (x : FV) : Option FV := match x with
 | .bool b => some (.bool b)
 | _ => Option.none
noncomputable def maxFV (x y : FV) : Option FV := match x with
 | .int i => (match y with | .int j => some (.int (if i < j then j else i)) | _ => Option.none)
 | _ => Option.none
noncomputable def bytesFV (x : FV) : Option FV := match x with
 | .list l => (l.mapM byteOf).bind fun b => if b.length ≤ 1000000 then some (.bytes b) else Option.none
 | .bytes b => some (.bytes b)
 | .barr b => if b.length ≤ 1000000 then some (.bytes b) else Option.none
 | _ => Option.none
noncomputable def tupleFV (x : FV) : Option FV := match x with
 | .list l => if l.length ≤ 1000000 then some (.tup l) else Option.none
 | .tup l => some (.tup l)
 | _ => Option.none
noncomputable def listFV (x : FV) : Option FV := match x with
 | .list l => if l.length ≤ 1000000 then some (.list l) else Option.none
 | _ => Option.none
noncomputable def rangeFV (l : List FV) : Option FV := match l with
 | [x] => (asI x).bind fun b => some (.rng 0 b 1)
 | [x, y] => (asI x).bind fun a => (asI y).bind fun b => some (.rng a b 1)
 | [x, y, z] => (asI x).bind fun a => (asI y).bind fun b => (asI z).bind fun c => if c = 1 ∨ c = 2 then some (.rng a b c) else Option.none
 | _ => Option.none
noncomputable def biFV (b : BI) (args : List FV) : Option FV := match b with
 | .len => oneF lenFV args
 | .ord => oneF ordFV args
 | .chr => oneF chrFV args
 | .int => oneF intFV args
 | .bool => oneF boolFV args
 | .max => (match args with | [x, y] => maxFV x y | _ => Option.none)
 | .bytes => oneF bytesFV args
 | .tuple => oneF tupleFV args
 | .list => oneF listFV args
 | .range => rangeFV args
 | .isi T => oneF (fun v => (v.isT T).map .bool) args
 | _ => Option.none
theorem oneF_some {f : FV → Option FV} {l : List FV} {z : FV} (h : oneF f l = some z) : ∃ x, l = [x] ∧ f x = some z := by
 match l, h with
 | [x], h => exact ⟨x, rfl, h⟩
 | [], h => exact no h
 | _ :: _ :: _, h => exact no h
noncomputable def putL (k : Nat) (o : AO) : Led → Led
 | [] => [(k, o)]
 | p :: r => if k < p.1 then (k, o) :: p :: r else if k = p.1 then (k, o) :: r else p :: putL k o r
namespace PV
noncomputable def isO (k : Nat) : PV → Bool
 | .o j => j == k
 | .f _ => false
noncomputable def sub (k : Nat) (v : FV) : PV → PV
 | .o j => if j == k then .f v else .o j
 | .f x => .f x
noncomputable def fv : PV → Option FV
 | .f v => some v
 | .o _ => Option.none
end PV
namespace AO
noncomputable def mentions (k : Nat) : AO → Bool
 | .inst _ _ vs => vs.any (PV.isO k)
 | _ => false
noncomputable def sub (k : Nat) (v : FV) : AO → AO
 | .inst c ns vs => .inst c ns (vs.map (PV.sub k v))
 | x => x
noncomputable def frozen : AO → Option FV
 | .list l => some (.list l)
 | .barr b => some (.barr b)
 | .inst c ns vs => (vs.mapM PV.fv).map (.inst c ns)
end AO
namespace St
noncomputable def look (st : St) (k : Nat) : Option AO := st.led.lookup k
noncomputable def mentioned (st : St) (k : Nat) : Bool := st.led.any (fun p => p.2.mentions k) || st.loc.any (fun o => o.any (PV.isO k))
noncomputable def fresh (st : St) (k : Nat) : Bool := (st.look k).isNone && !st.mentioned k && !st.lent.contains k
noncomputable def put (st : St) (k : Nat) (o : AO) : St := { st with led := putL k o st.led }
noncomputable def set (st : St) (i : Nat) (v : PV) : St := { st with loc := st.loc.set i (some v) }
noncomputable def freeze (st : St) (k : Nat) (r : PV) : Option (PV × St) := match st.look k with
 | some o => o.frozen.map fun v => (r.sub k v, { loc := st.loc.map (·.map (PV.sub k v)), led := (st.led.filter fun p => p.1 != k).map fun p => (p.1, p.2.sub k v), chg := k :: st.chg, lent := st.lent })
 | Option.none => some (r, st)
noncomputable def deref (st : St) : PV → Option FV
 | .f v => some v
 | .o k => match st.look k with
  | some (.list l) => some (.list l)
  | some (.barr b) => some (.barr b)
  | _ => Option.none
noncomputable def make (st : St) (lab : Option Nat) (v : FV) : Option (PV × St) := match lab with
 | Option.none => some (.f v, st)
 | some k => if st.fresh k then (match v with
   | .list l => some (.o k, st.put k (.list l))
   | .barr b => some (.o k, st.put k (.barr b))
   | _ => Option.none) else Option.none
end St
noncomputable def fieldGet (x : Str) : List Str → List PV → Option PV
 | n :: ns, v :: vs => if n == x then some v else fieldGet x ns vs
 | _, _ => Option.none
noncomputable def fieldPut (x : Str) (v : PV) : List Str → List PV → List Str × List PV
 | n :: ns, u :: us => if n == x then (n :: ns, v :: us) else ((n :: (fieldPut x v ns us).1), (u :: (fieldPut x v ns us).2))
 | _, _ => ([x], [v])
noncomputable abbrev Delta := Nat → List PV → Led → Option (PV × Led × List Nat)
noncomputable def startOk (st : St) (args : List PV) (pass : List Nat) : Bool :=
 args.all (fun | .o k => pass.contains k && (st.look k).isSome | .f _ => true) && (st.led.filter fun p => pass.contains p.1).all (fun p => match p.2 with | .inst _ _ vs => vs.all (fun v => match v with | .o k => pass.contains k && (st.look k).isSome | .f _ => true) | _ => true)
noncomputable def goneOf (pass : List Nat) (kept : Led) (chg' : List Nat) : List Nat := pass.filter fun k => (kept.lookup k).isNone || chg'.contains k
noncomputable def backOk (st : St) (pass : List Nat) (r : PV) (kept : Led) (chg' : List Nat) : Bool :=
 let rest := st.led.filter fun p => !pass.contains p.1
 let st' : St := { st with led := rest }
 (goneOf pass kept chg').all (fun k => !st'.mentioned k) && kept.all (fun p => (pass.contains p.1 && (st.look p.1).isSome) || st'.fresh p.1) && kept.all (fun p => (rest.lookup p.1).isNone) &&
  (match r with | .o k => (kept.lookup k).isSome | .f _ => true) && kept.all (fun p => match p.2 with | .inst _ _ vs => vs.all (fun v => match v with | .o k => (kept.lookup k).isSome | .f _ => true) | _ => true)
noncomputable def doCall (D : Delta) (f : Nat) (args : List PV) (pass keep : List Nat) (st : St) : Option (PV × St) :=
 if startOk st args pass then
  (D f args (st.led.filter fun p => pass.contains p.1)).bind fun q =>
   if backOk st pass q.1 (q.2.1.filter fun p => keep.contains p.1) q.2.2 then
    some (q.1, { st with led := (q.2.1.filter fun p => keep.contains p.1).foldr (fun p l => putL p.1 p.2 l) (st.led.filter fun p => !pass.contains p.1), chg := goneOf pass (q.2.1.filter fun p => keep.contains p.1) q.2.2 ++ st.chg })
   else Option.none
 else Option.none
structure Ev where
 e : PE → St → Option (PV × St)
 c : PE → St → Option (Bool × St)
 s : PS → St → Option (Out × St)
section
variable (E : Ev) (D : Delta)
noncomputable def evL : List PE → St → Option (List PV × St)
 | [], st => some ([], st)
 | a :: l, st => (E.e a st).bind fun r => (evL l r.2).bind fun q => some (r.1 :: q.1, q.2)
noncomputable def fvs : List PV → Option (List FV)
 | [] => some []
 | v :: l => (v.fv).bind fun a => (fvs l).map (a :: ·)
noncomputable def evB : List PS → St → Option (Out × St)
 | [], st => some (.next, st)
 | a :: l, st => (E.s a st).bind fun r => match r.1 with
  | .next => evB l r.2
  | .ret v => some (.ret v, r.2)
noncomputable def evAll : List PE → St → Option (Bool × St)
 | [], st => some (true, st)
 | a :: l, st => (E.c a st).bind fun r => if r.1 then evAll l r.2 else some (false, r.2)
noncomputable def evAny : List PE → St → Option (Bool × St)
 | [], st => some (false, st)
 | a :: l, st => (E.c a st).bind fun r => if r.1 then some (true, r.2) else evAny l r.2
noncomputable def evAnd : List PE → St → Option (PV × St)
 | [], _ => Option.none
 | [a], st => E.e a st
 | a :: l, st => (E.e a st).bind fun r => ((r.2.deref r.1).bind FV.truth).bind fun t => if t then evAnd l r.2 else some r
noncomputable def evOr : List PE → St → Option (PV × St)
 | [], _ => Option.none
 | [a], st => E.e a st
 | a :: l, st => (E.e a st).bind fun r => ((r.2.deref r.1).bind FV.truth).bind fun t => if t then some r else evOr l r.2
noncomputable def held (st st' : St) : PV → Bool
 | .f _ => true
 | .o k => !(st'.chg.take (st'.chg.length - st.chg.length)).contains k
noncomputable def chainEnd (ops : List CmpOp) (bs : List PE) (t : Bool) (st : St) (rest : Option (Bool × St)) : Option (Bool × St) := match ops, bs with
 | [], [] => some (t, st)
 | _, _ => if t then rest else some (false, st)
noncomputable def evChain (a : PV) : List CmpOp → List PE → St → Option (Bool × St)
 | op :: ops, b :: bs, st => (E.e b st).bind fun r => if held st r.2 a then (r.2.deref a).bind fun x => (r.2.deref r.1).bind fun y => (chainCmp op x y).bind fun t => chainEnd ops bs t r.2 (evChain r.1 ops bs r.2) else Option.none
 | _, _, _ => Option.none
noncomputable def evOpt : Option PE → St → Option (Option Int × St)
 | Option.none, st => some (Option.none, st)
 | some e, st => (E.e e st).bind fun r => match r.1 with | .f (.int i) => if decide (i.natAbs < 2 ^ 62) then some (some i, r.2) else Option.none | _ => Option.none
noncomputable def forLoop (i : Nat) (b : List PS) : List FV → St → Option (Out × St)
 | [], st => some (.next, st)
 | x :: xs, st => (evB E b (st.set i (.f x))).bind fun r => match r.1 with
  | .next => forLoop i b xs r.2
  | .ret v => some (.ret v, r.2)
noncomputable def whileLoop (c : PE) (b : List PS) : Nat → St → Option (Out × St)
 | 0, _ => Option.none
 | n + 1, st => (E.c c st).bind fun t => if t.1 then (evB E b t.2).bind fun r => match r.1 with
   | .next => whileLoop c b n r.2
   | .ret v => some (.ret v, r.2) else some (.next, t.2)
noncomputable def compLoop (elt : PE) : List FV → St → Option (List FV × St)
 | [], st => some ([], st)
 | x :: xs, st => (E.e elt (st.set 0 (.f x))).bind fun r => match r.1 with
  | .f v => (compLoop elt xs r.2).map fun q => (v :: q.1, q.2)
  | .o _ => Option.none
noncomputable def retGs : List Nat → PV → St → Option (PV × St)
 | [], v, st => some (v, st)
 | k :: ks, v, st => (st.freeze k v).bind fun r => retGs ks r.1 r.2
noncomputable def constFV : Const → Option FV
 | .none => some .none
 | .bool b => some (.bool b)
 | .int i => some (.int i)
 | .str s => some (.str s)
 | .bytes b => some (.bytes b)
 | _ => Option.none
noncomputable def bmStep (b : BM) (r : PV) (args : List FV) (st : St) : Option (PV × St) := match b, r, args with
 | .append, .o k, [v] => (match st.look k with
   | some (.list l) => if l.length ≤ 1000000 then some (.f .none, st.put k (.list (l ++ [v]))) else Option.none
   | some (.barr b) => (byteOf v).bind fun c => if b.length ≤ 1000000 then some (.f .none, st.put k (.barr (b ++ [c]))) else Option.none
   | _ => Option.none)
 | .extend, .o k, [.bytes c] => (match st.look k with
   | some (.barr b) => if b.length + c.length ≤ 1000000 then some (.f .none, st.put k (.barr (b ++ c))) else Option.none
   | _ => Option.none)
 | .extend, .o k, [.barr c] => (match st.look k with
   | some (.barr b) => if b.length + c.length ≤ 1000000 then some (.f .none, st.put k (.barr (b ++ c))) else Option.none
   | _ => Option.none)
 | .reverse, .o k, [] => (match st.look k with
   | some (.list l) => if l.length ≤ 1000000 then some (.f .none, st.put k (.list l.reverse)) else Option.none
   | _ => Option.none)
 | _, _, _ => Option.none
noncomputable def attrGet (st : St) (x : Str) : PV → Option PV
 | .f (.inst _ ns vs) => fieldGet x ns (vs.map .f)
 | .o k => match st.look k with
  | some (.inst _ ns vs) => fieldGet x ns vs
  | _ => Option.none
 | _ => Option.none
noncomputable def attrPut (st : St) (x : Str) (v : PV) : PV → Option St
 | .o k => match st.look k with
  | some (.inst c ns vs) => if ns.length ≤ 100 then some (st.put k (.inst c (fieldPut x v ns vs).1 (fieldPut x v ns vs).2)) else Option.none
  | _ => Option.none
 | _ => Option.none
noncomputable def clsOf (st : St) : PV → Option Addr
 | .f (.inst c _ _) => some c
 | .o k => match st.look k with
  | some (.inst c _ _) => some c
  | _ => Option.none
 | _ => Option.none
structure Prg where
 D : Delta
 clsAddr : Nat → Addr
 clsInit : Nat → Nat
 methOf : Addr → Nat → Bool
 bytearrays : Bool
 hasAttr : Addr → Str → Bool
 mname : Nat → Str
variable (P : Prg)
noncomputable def kindL (st : St) (v : PV) : Nat := match v with
 | .f _ => 0
 | .o k => match st.look k with
  | some (.list _) => 1
  | some (.barr _) => 2
  | some (.inst ..) => 3
  | Option.none => 4
noncomputable def freeOf (x : Str) (st : St) (v : PV) : Bool := match v with
 | .f (.inst _ ns _) => !ns.contains x
 | .o k => (match st.look k with
  | some (.inst _ ns _) => !ns.contains x
  | _ => false)
 | _ => false
noncomputable def attrOk (x : Str) (st : St) (v : PV) : Bool := match clsOf st v with
 | some c => P.hasAttr c x
 | Option.none => false
noncomputable def stepE : PE → St → Option (PV × St)
 | .var i, st => (st.loc[i]?).join.map fun v => (v, st)
 | .gc _ v, st => some (.f v, st)
 | .cst c, st => (constFV c).map fun v => (.f v, st)
 | .bin op a b lab, st => (E.e a st).bind fun r => (E.e b r.2).bind fun q => if held r.2 q.2 r.1 then (q.2.deref r.1).bind fun x => (q.2.deref q.1).bind fun y => (binFV op x y).bind fun z => (match z with
   | .list _ => q.2.make lab z
   | _ => some (.f z, q.2)) else Option.none
 | .neg a, st => (E.e a st).bind fun r => match r.1 with | .f (.int i) => some (.f (.int (-i)), r.2) | _ => Option.none
 | .notE a, st => (E.e a st).bind fun r => ((r.2.deref r.1).bind FV.truth).map fun t => (.f (.bool !t), r.2)
 | .cmp a ops bs, st => (E.e a st).bind fun r => (evChain E r.1 ops bs r.2).map fun q => (.f (.bool q.1), q.2)
 | .andE l, st => evAnd E l st
 | .orE l, st => evOr E l st
 | .ife c a b, st => (E.c c st).bind fun t => if t.1 then E.e a t.2 else E.e b t.2
 | .idx a i, st => (E.e a st).bind fun r => (E.e i r.2).bind fun q => if held r.2 q.2 r.1 then (q.2.deref r.1).bind fun x => match q.1 with
   | .f (.int i) => if decide (i.natAbs < 2 ^ 62) then (idxFV x i).map fun v => (.f v, q.2) else Option.none
   | _ => Option.none else Option.none
 | .slc a lo hi lab, st => (E.e a st).bind fun r => (evOpt E lo r.2).bind fun p => (evOpt E hi p.2).bind fun q => if held r.2 q.2 r.1 then (q.2.deref r.1).bind fun x => (sliceFV x p.1 q.1).bind fun z => (match z with
   | .list _ => q.2.make lab z
   | _ => some (.f z, q.2)) else Option.none
 | .attr a x, st => (E.e a st).bind fun r => if attrOk P x r.2 r.1 then (attrGet r.2 x r.1).map fun v => (v, r.2) else Option.none
 | .lst l lab, st => (evL E l st).bind fun r => (fvs r.1).bind fun vs => if vs.length ≤ 1000000 then r.2.make lab (.list vs) else Option.none
 | .tup l, st => (evL E l st).bind fun r => (fvs r.1).bind fun vs => if vs.length ≤ 1000000 then some (.f (.tup vs), r.2) else Option.none
 | .call f args pass keep, st => (evL E args st).bind fun r => if r.1.all (held st r.2) then doCall P.D f r.1 pass keep r.2 else Option.none
 | .meth o f args pass keep, st => (E.e o st).bind fun r => (evL E args r.2).bind fun q => if held r.2 q.2 r.1 && q.1.all (held r.2 q.2) then
   (match clsOf r.2 r.1 with
    | some c => if P.methOf c f && freeOf (P.mname f) r.2 r.1 then doCall P.D f (r.1 :: q.1) pass keep q.2 else Option.none
    | Option.none => Option.none) else Option.none
 | .new c args lab keep, st => (evL E args st).bind fun r => (fvs r.1).bind fun vs => if r.2.fresh lab then
   (doCall P.D (P.clsInit c) (.o lab :: vs.map .f) [lab] keep (r.2.put lab (.inst (P.clsAddr c) [] []))).bind fun q => (match q.1 with
    | .f .none => if held (r.2.put lab (.inst (P.clsAddr c) [] [])) q.2 (.o lab) then some (.o lab, q.2) else Option.none
    | _ => Option.none) else Option.none
 | .bi b args lab, st => (evL E args st).bind fun r => (match b, r.1 with
   | .bytearray, [] => if P.bytearrays then r.2.make lab (.barr []) else Option.none
   | .bytes, [v] => (r.2.deref v).bind fun x => (biFV .bytes [x]).map fun z => (.f z, r.2)
   | .len, [v] => (r.2.deref v).bind fun x => (biFV .len [x]).map fun z => (.f z, r.2)
   | .list, vs => (fvs vs).bind fun xs => (biFV .list xs).bind fun z => r.2.make lab z
   | b, vs => (fvs vs).bind fun xs => (biFV b xs).map fun z => (.f z, r.2))
 | .bm b o args, st => (E.e o st).bind fun r => (evL E args r.2).bind fun q => if held r.2 q.2 r.1 && (kindL r.2 r.1 == kindL q.2 r.1) then (match b, r.1, q.1 with
   | .join, .f (.str s), [v] => if s.length == 0 then (q.2.deref v).bind fun x => (match x with
     | .list l => (l.mapM strOf).bind fun ss => if (ss.flatten).length ≤ 1000000 ∧ ss.length ≤ 1000000 then some (.f (.str ⟨⟨ss.flatten⟩⟩), q.2) else Option.none
     | _ => Option.none) else Option.none
   | b, o, vs => (fvs vs).bind fun xs => (match b, o with
     | .append, .o k => (match q.2.look k with | some (.barr _) => if P.bytearrays then bmStep b o xs q.2 else Option.none | _ => bmStep b o xs q.2)
     | .extend, _ => if P.bytearrays then bmStep b o xs q.2 else Option.none
     | _, _ => bmStep b o xs q.2)) else Option.none
 | .comp elt it free lab, st => (E.e it st).bind fun r => (match r.1 with
   | .f x => (itemsFV x).bind fun xs => if xs.length ≤ 1000000 then (compLoop E elt xs { r.2 with loc := Option.none :: free.map fun j => (r.2.loc[j]?).join }).bind fun q => if q.2.chg.length == r.2.chg.length then ({ q.2 with loc := r.2.loc } : St).make lab (.list q.1) else Option.none else Option.none
   | .o _ => Option.none)
noncomputable def stepC : PE → St → Option (Bool × St)
 | .notE a, st => (E.c a st).map fun r => (!r.1, r.2)
 | .andE l, st => evAll E l st
 | .orE l, st => evAny E l st
 | .ife c a b, st => (E.c c st).bind fun t => if t.1 then E.c a t.2 else E.c b t.2
 | e, st => (E.e e st).bind fun r => ((r.2.deref r.1).bind FV.truth).map fun t => (t, r.2)
noncomputable def setAll : List Nat → List FV → St → Option St
 | [], [], st => some st
 | i :: is, v :: vs, st => setAll is vs (st.set i (.f v))
 | _, _, _ => Option.none
noncomputable def stepS : PS → St → Option (Out × St)
 | .asg i e, st => (E.e e st).map fun r => (.next, r.2.set i r.1)
 | .asgT is e, st => (E.e e st).bind fun r => (match r.1 with
   | .f (.tup l) => (setAll is l r.2).map fun st' => (.next, st')
   | _ => Option.none)
 | .asgA a x e, st => (E.e e st).bind fun r => (E.e a r.2).bind fun q => if held r.2 q.2 r.1 && attrOk P x q.2 q.1 then (attrPut q.2 x r.1 q.1).map fun st' => (.next, st') else Option.none
 | .asgI a i e, st => (E.e e st).bind fun r => (E.e a r.2).bind fun q => (E.e i q.2).bind fun p => (match r.1, q.1, p.1 with
   | .f v, .o k, .f (.int j) => if held q.2 p.2 (.o k) then (match p.2.look k with
     | some (.list l) => if 0 ≤ j && j < l.length && decide (l.length ≤ 1000000) then some (.next, p.2.put k (.list (l.set j.toNat v))) else Option.none
     | _ => Option.none) else Option.none
   | _, _, _ => Option.none)
 | .aug i op e, st => ((st.loc[i]?).join).bind fun o => (E.e e st).bind fun r => (match o, r.1 with
   | .f (.int x), .f (.int y) => (augFV op x y).map fun z => (.next, r.2.set i (.f (.int z)))
   | _, _ => Option.none)
 | .augA a x op e, st => (E.e a st).bind fun r => if attrOk P x r.2 r.1 then (attrGet r.2 x r.1).bind fun o => (E.e e r.2).bind fun q => (match o, q.1 with
   | .f (.int u), .f (.int y) => if held r.2 q.2 r.1 && attrOk P x q.2 r.1 then (augFV op u y).bind fun z => (attrPut q.2 x (.f (.int z)) r.1).map fun st' => (.next, st') else Option.none
   | _, _ => Option.none) else Option.none
 | .ifS c t f, st => (E.c c st).bind fun r => if r.1 then evB E t r.2 else evB E f r.2
 | .whileS n c b, st => whileLoop E c b n st
 | .forS i e b, st => (E.e e st).bind fun r => (match r.1 with
   | .f x => (itemsFV x).bind fun xs => forLoop E i b xs r.2
   | .o k => (match r.2.look k with
     | some (.list l) => (forLoop E i b l { r.2 with led := r.2.led.filter fun p => p.1 != k, lent := k :: r.2.lent }).bind fun q => some (q.1, { q.2.put k (.list l) with lent := r.2.lent })
     | _ => Option.none))
 | .ret e gs, st => (E.e e st).bind fun r => (retGs gs r.1 r.2).map fun q => (.ret q.1, q.2)
 | .expr e, st => (E.e e st).map fun r => (.next, r.2)
 | .frz k, st => (st.freeze k (.f .none)).map fun r => (.next, r.2)
 | .stuck, _ => Option.none
end
noncomputable def run (P : Prg) : Nat → Ev
 | 0 => ⟨fun _ _ => Option.none, fun _ _ => Option.none, fun _ _ => Option.none⟩
 | n + 1 => ⟨stepE (run P n) P, stepC (run P n), stepS (run P n) P⟩
structure Fn where
 arity : Nat
 slots : Nat
 body : List PS
noncomputable def runF (P : Prg) (fn : Fn) (args : List PV) (led : Led) : Option (PV × Led × List Nat) :=
 if args.length = fn.arity then
  (evB (run P 40) fn.body { loc := args.map some ++ List.replicate (fn.slots - fn.arity) Option.none, led := led, chg := [] }).map fun r => (match r.1 with | .next => .f .none | .ret v => v, r.2.led, r.2.chg)
 else Option.none
end
end Mine
end
section
open PySem PySem.W
namespace Mine
structure LocOk (Ev : Mine.Ev) : Prop where
 e : ∀ {x σ pv σ'}, Ev.e x σ = some (pv, σ') → σ'.loc = σ.loc
 c : ∀ {x σ b σ'}, Ev.c x σ = some (b, σ') → σ'.loc = σ.loc
noncomputable def Lo {α : Type} (l : List (Option PV)) (x : Option (α × St)) : Prop := ∀ r, x = some r → r.2.loc = l
section
variable {α γ : Type} {l : List (Option PV)}
theorem Lo.none : Lo (α := α) l Option.none := fun _ h => nomatch h
theorem Lo.ret {a : α} {st : St} (h : st.loc = l) : Lo l (some (a, st)) := fun _ e => Option.some.inj e ▸ h
theorem Lo.bind {x : Option (γ × St)} {f : γ × St → Option (α × St)} (hx : Lo l x) (hf : ∀ r : γ × St, r.2.loc = l → Lo l (f r)) : Lo l (x.bind f) := fun r e => by
 obtain ⟨a, ea, e⟩ := Option.bind_eq_some_iff.mp e
 exact hf a (hx a ea) r e
theorem Lo.bindV {x : Option γ} {f : γ → Option (α × St)} (hf : ∀ a, Lo l (f a)) : Lo l (x.bind f) := fun r e => by
 obtain ⟨a, _, e⟩ := Option.bind_eq_some_iff.mp e
 exact hf a r e
theorem Lo.map {x : Option (γ × St)} {f : γ × St → α × St} (hx : Lo l x) (hf : ∀ r : γ × St, r.2.loc = l → (f r).2.loc = l) : Lo l (x.map f) := fun r e => by
 obtain ⟨a, ea, rfl⟩ := Option.map_eq_some_iff.mp e
 exact hf a (hx a ea)
theorem Lo.mapV {x : Option γ} {f : γ → α × St} (hf : ∀ a, (f a).2.loc = l) : Lo l (x.map f) := fun r e => by
 obtain ⟨a, ea, rfl⟩ := Option.map_eq_some_iff.mp e
 exact hf a
theorem Lo.ite {c : Prop} [Decidable c] {x y : Option (α × St)} (hx : Lo l x) (hy : Lo l y) : Lo l (if c then x else y) := by
 by_cases h : c
 ·rw [if_pos h]; exact hx
 ·rw [if_neg h]; exact hy
theorem Lo.made {st : St} {lab : Option Nat} {v : FV} (h : st.loc = l) : Lo l (st.make lab v) := by
 subst h
 induction lab with
 | none => exact .ret rfl
 | some k => exact .ite (by induction v using FV.casesOn <;> first | exact .ret rfl | exact .none) .none
theorem Lo.intM {x : PV} {f : Int → Option (α × St)} (h : ∀ i, Lo l (f i)) : Lo l (match x with | .f (.int i) => f i | _ => Option.none) := by
 induction x with
 | o _ => exact .none
 | f v => induction v using FV.casesOn with
  | int i => exact h i
  | _ => exact .none
theorem Lo.oM {o : Option Addr} {f : Addr → Option (α × St)} (h : ∀ c, Lo l (f c)) : Lo l (match o with | some c => f c | Option.none => Option.none) := by
 induction o with
 | none => exact .none
 | some c => exact h c
theorem Lo.noM {x : PV} {f : Option (α × St)} (h : Lo l f) : Lo l (match x with | .f .none => f | _ => Option.none) := by
 induction x with
 | o _ => exact .none
 | f v => induction v using FV.casesOn with
  | none => exact h
  | _ => exact .none
theorem Lo.fM {x : PV} {f : FV → Option (α × St)} (h : ∀ v, Lo l (f v)) : Lo l (match x with | .f x => f x | .o _ => Option.none) := by
 induction x with
 | o _ => exact .none
 | f v => exact h v
theorem Lo.barM {x : Option AO} {f g : Option (α × St)} (h : Lo l f) (h' : Lo l g) : Lo l (match x with | some (.barr _) => f | _ => g) := by
 induction x with
 | none => exact h'
 | some a => induction a with
  | barr _ => exact h
  | _ => exact h'
theorem Lo.liM {x : FV} {f : List FV → Option (α × St)} (h : ∀ v, Lo l (f v)) : Lo l (match x with | .list l => f l | _ => Option.none) := by
 induction x using FV.casesOn with
 | list v => exact h v
 | _ => exact .none
theorem Lo.called {D : Delta} {f : Nat} {args : List PV} {pass keep : List Nat} {st : St} (h : st.loc = l) : Lo l (doCall D f args pass keep st) :=
 .ite (.bindV fun q => .ite (.ret h) .none) .none
theorem Lo.bm {b : BM} {r : PV} {args : List FV} {st : St} (h : st.loc = l) : Lo l (bmStep b r args st) := by
 induction r with
 | f _ => induction b <;> exact .none
 | o k => induction b with
  | join => exact .none
  | append => induction args using List.casesOn with
   | nil => exact .none
   | cons v t => induction t using List.casesOn with
    | cons _ _ => exact .none
    | nil =>
     dsimp only [bmStep]
     induction st.look k with
     | none => exact .none
     | some a => induction a with
      | list _ => exact .ite (.ret h) .none
      | barr _ => exact .bindV fun _ => .ite (.ret h) .none
      | inst _ _ _ => exact .none
  | reverse => induction args using List.casesOn with
   | cons _ _ => exact .none
   | nil =>
    dsimp only [bmStep]
    induction st.look k with
    | none => exact .none
    | some a => induction a with
     | list _ => exact .ite (.ret h) .none
     | _ => exact .none
  | extend => induction args using List.casesOn with
   | nil => exact .none
   | cons v t => induction t using List.casesOn with
    | cons _ _ => induction v using FV.casesOn <;> exact .none
    | nil =>
     have key : ∀ c : List UInt8, Lo l (match st.look k with | some (.barr b) => if b.length + c.length ≤ 1000000 then some (PV.f .none, st.put k (.barr (b ++ c))) else Option.none | _ => Option.none) := fun c => by
      induction st.look k with
      | none => exact .none
      | some a => induction a with
       | barr _ => exact .ite (.ret h) .none
       | _ => exact .none
     induction v using FV.casesOn with
     | bytes c => exact key c
     | barr c => exact key c
     | _ => exact .none
end
section
variable {Ev : Mine.Ev} (L : LocOk Ev)
include L
theorem Lo.e {x : PE} {st : St} {l : List (Option PV)} (h : st.loc = l) : Lo l (Ev.e x st) := fun r e => (L.e (pv := r.1) (σ' := r.2) e).trans h
theorem Lo.c {x : PE} {st : St} {l : List (Option PV)} (h : st.loc = l) : Lo l (Ev.c x st) := fun r e => (L.c (b := r.1) (σ' := r.2) e).trans h
theorem Lo.evL {es : List PE} : ∀ {st : St} {l : List (Option PV)}, st.loc = l → Lo l (evL Ev es st) := by
 induction es with
 | nil => exact fun h => .ret h
 | cons a es ih => exact fun h => .bind (.e L h) fun r hr => .bind (ih hr) fun q hq => .ret hq
theorem Lo.evAll {es : List PE} : ∀ {st : St} {l : List (Option PV)}, st.loc = l → Lo l (evAll Ev es st) := by
 induction es with
 | nil => exact fun h => .ret h
 | cons a es ih => exact fun h => .bind (.c L h) fun r hr => .ite (ih hr) (.ret hr)
theorem Lo.evAny {es : List PE} : ∀ {st : St} {l : List (Option PV)}, st.loc = l → Lo l (evAny Ev es st) := by
 induction es with
 | nil => exact fun h => .ret h
 | cons a es ih => exact fun h => .bind (.c L h) fun r hr => .ite (.ret hr) (ih hr)
theorem Lo.evOpt {o : Option PE} {st : St} {l : List (Option PV)} (h : st.loc = l) : Lo l (evOpt Ev o st) := by
 induction o with
 | none => exact .ret h
 | some e => exact .bind (.e L h) fun r hr => .intM fun _ => .ite (.ret hr) .none
theorem Lo.evAnd : ∀ {es : List PE} {st : St} {l : List (Option PV)}, st.loc = l → Lo l (evAnd Ev es st)
 | [], _, _, h => .none
 | [a], _, _, h => .e L h
 | a :: b :: es, st, l, h => .bind (.e L h) fun r hr => .bindV fun t => .ite (Lo.evAnd hr) fun _ e => Option.some.inj e ▸ hr
theorem Lo.evOr : ∀ {es : List PE} {st : St} {l : List (Option PV)}, st.loc = l → Lo l (evOr Ev es st)
 | [], _, _, h => .none
 | [a], _, _, h => .e L h
 | a :: b :: es, st, l, h => .bind (.e L h) fun r hr => .bindV fun t => .ite (fun _ e => Option.some.inj e ▸ hr) (Lo.evOr hr)
theorem Lo.chainEnd {ops : List CmpOp} {bs : List PE} {t : Bool} {st : St} {l : List (Option PV)} {x : Option (Bool × St)} (hx : Lo l x) (h : st.loc = l) : Lo l (chainEnd ops bs t st x) := by
 induction ops using List.casesOn with
 | nil => induction bs using List.casesOn with
  | nil => exact .ret h
  | cons _ _ => exact .ite hx (.ret h)
 | cons _ _ => exact .ite hx (.ret h)
theorem Lo.evChain : ∀ {ops : List CmpOp} {bs : List PE} {ra : PV} {st : St} {l : List (Option PV)}, st.loc = l → Lo l (evChain Ev ra ops bs st)
 | [], _, _, _, _, _ => .none
 | _ :: _, [], _, _, _, _ => .none
 | _ :: _, _ :: _, _, _, _, h => .bind (.e L h) fun _ hr => .ite (.bindV fun _ => .bindV fun _ => .bindV fun _ => .chainEnd L (Lo.evChain hr) hr) .none
theorem compLoop_chg {elt : PE} {xs : List FV} : ∀ {σ : St} {z}, compLoop Ev elt xs σ = some z → z.2.loc.length = σ.loc.length ∧ ∀ i, i ≠ 0 → z.2.loc[i]? = σ.loc[i]? := by
 induction xs with
 | nil => exact fun h => Option.some.inj h ▸ ⟨rfl, fun _ _ => rfl⟩
 | cons x xs ih =>
  refine fun {σ z} h => bk h fun r h1 h => ?_
  have e1 : r.2.loc = σ.loc.set 0 (some (.f x)) := L.e h1
  obtain ⟨r, σ₁⟩ := r
  induction r with
  | o k => exact no h
  | f v =>
   refine mk h fun q h2 h => ?_
   obtain ⟨a, b⟩ := ih h2
   subst h
   exact ⟨by rw [a, e1, List.length_set], fun i hi => by rw [b i hi, e1, List.getElem?_set_ne (Ne.symm hi)]⟩
theorem stepC_lo {P : Prg} {e : PE} {st : St} : Lo st.loc (stepC Ev e st) := by
 induction e using PE.casesOn with
 | notE a => exact .map (.c L rfl) fun r hr => hr
 | andE es => exact .evAll L rfl
 | orE es => exact .evAny L rfl
 | ife c a b => exact .bind (.c L rfl) fun r hr => .ite (.c L hr) (.c L hr)
 | _ => exact .bind (.e L rfl) fun r hr => .mapV fun _ => hr
theorem Lo.listy {st : St} {lab : Option Nat} {z : FV} {l : List (Option PV)} (h : st.loc = l) : Lo l (match z with | .list _ => st.make lab z | _ => some (.f z, st)) := by
 induction z using FV.casesOn <;> first | exact .made h | exact .ret h
theorem stepE_lo {P : Prg} {e : PE} {st : St} : Lo st.loc (stepE Ev P e st) := by
 generalize h₀ : st.loc = l₀
 induction e using PE.casesOn with
 | var i => exact .mapV fun _ => h₀
 | gc x v => exact .ret h₀
 | cst c => exact .mapV fun _ => h₀
 | bin op a b lab => exact .bind (.e L h₀) fun r hr => .bind (.e L hr) fun q hq => .ite (.bindV fun _ => .bindV fun _ => .bindV fun z => .listy L hq) .none
 | neg a => exact .bind (.e L h₀) fun r hr => .intM fun _ => .ret hr
 | notE a => exact .bind (.e L h₀) fun r hr => .mapV fun _ => hr
 | cmp a ops bs => exact .bind (.e L h₀) fun r hr => .map (.evChain L hr) fun q hq => hq
 | andE l => exact .evAnd L h₀
 | orE l => exact .evOr L h₀
 | ife c a b => exact .bind (.c L h₀) fun r hr => .ite (.e L hr) (.e L hr)
 | idx a i => exact .bind (.e L h₀) fun r hr => .bind (.e L hr) fun q hq => .ite (.bindV fun _ => .intM fun _ => .ite (.mapV fun _ => hq) .none) .none
 | slc a lo hi lab => exact .bind (.e L h₀) fun r hr => .bind (.evOpt L hr) fun p hp => .bind (.evOpt L hp) fun q hq => .ite (.bindV fun _ => .bindV fun z => .listy L hq) .none
 | attr a x => exact .bind (.e L h₀) fun r hr => .ite (.mapV fun _ => hr) .none
 | lst l lab => exact .bind (.evL L h₀) fun r hr => .bindV fun _ => .ite (.made hr) .none
 | tup l => exact .bind (.evL L h₀) fun r hr => .bindV fun _ => .ite (.ret hr) .none
 | call f args pass keep => exact .bind (.evL L h₀) fun r hr => .ite (.called hr) .none
 | meth o f args pass keep => exact .bind (.e L h₀) fun r hr => .bind (.evL L hr) fun q hq => .ite (.oM fun _ => .ite (.called hq) .none) .none
 | new c args lab keep =>
  exact .bind (.evL L h₀) fun r hr => .bindV fun vs => .ite (.bind (.called (show (r.2.put lab _).loc = _ from hr)) fun q hq => .noM (.ite (.ret hq) .none)) .none
 | bi b args lab =>
  refine .bind (.evL L h₀) fun r hr => ?_
  obtain ⟨vs, st⟩ := r
  have gen : ∀ b, Lo l₀ ((fvs vs).bind fun xs => (biFV b xs).map fun z => (PV.f z, st)) := fun b => .bindV fun _ => .mapV fun _ => hr
  have one : ∀ b v, Lo l₀ ((st.deref v).bind fun x => (biFV b [x]).map fun z => (PV.f z, st)) := fun b v => .bindV fun _ => .mapV fun _ => hr
  induction b with
  | bytearray => induction vs using List.casesOn with
   | nil => exact .ite (.made hr) .none
   | cons _ _ => exact gen _
  | list => exact .bindV fun _ => .bindV fun _ => .made hr
  | bytes => induction vs using List.casesOn with
   | nil => exact gen _
   | cons v t => induction t using List.casesOn with
    | nil => exact one _ v
    | cons _ _ => exact gen _
  | len => induction vs using List.casesOn with
   | nil => exact gen _
   | cons v t => induction t using List.casesOn with
    | nil => exact one _ v
    | cons _ _ => exact gen _
  | _ => exact gen _
 | bm b o args =>
  refine .bind (.e L h₀) fun r hr => .bind (.evL L hr) fun q hq => .ite ?_ .none
  obtain ⟨v, st₁⟩ := r
  obtain ⟨vs, st₂⟩ := q
  have bm : ∀ b xs, Lo l₀ (bmStep b v xs st₂) := fun b xs => .bm hq
  induction b with
  | reverse => exact .bindV fun xs => bm _ xs
  | extend => exact .bindV fun xs => .ite (bm _ xs) .none
  | append =>
   refine .bindV fun xs => ?_
   induction v with
   | f _ => exact bm _ xs
   | o k => exact Lo.barM (.ite (bm _ xs) .none) (bm _ xs)
  | join =>
   have gen : Lo l₀ ((fvs vs).bind fun xs => bmStep .join v xs st₂) := .bindV fun xs => bm _ xs
   induction v with
   | o _ => exact gen
   | f y => induction y using FV.casesOn with
    | str s => induction vs using List.casesOn with
     | nil => exact gen
     | cons v t => induction t using List.casesOn with
      | cons _ _ => exact gen
      | nil => exact .ite (.bindV fun x => Lo.liM fun _ => .bindV fun _ => .ite (.ret hq) .none) .none
    | _ => exact gen
 | comp elt it free lab => exact .bind (.e L h₀) fun r hr => .fM fun _ => .bindV fun xs => .ite (.bindV fun q => .ite (.made hr) .none) .none
end
theorem stepE_loc {Ev : Mine.Ev} (L : LocOk Ev) {P : Prg} {e : PE} {σ σ' : St} {pv} (h : stepE Ev P e σ = some (pv, σ')) : σ'.loc = σ.loc := stepE_lo L _ h
theorem stepC_loc {Ev : Mine.Ev} (L : LocOk Ev) {P : Prg} {e : PE} {σ σ' : St} {b} (h : stepC Ev e σ = some (b, σ')) : σ'.loc = σ.loc := stepC_lo (P := P) L _ h
theorem run_loc (P : Prg) (n : Nat) : LocOk (run P n) := by
 induction n with
 | zero =>
  refine LocOk.mk ?_ ?_
  ·intro x σ pv σ' h; exact no h
  ·intro x σ pv σ' h; exact no h
 | succ n ih =>
  refine LocOk.mk ?_ ?_
  ·intro x σ pv σ' h; exact stepE_loc (P := P) ih h
  ·intro x σ pv σ' h; exact stepC_loc (P := P) ih h
noncomputable def l_utf8_0 : List PS :=
 [.asg 3 (.bi .ord [(.var 2)] none),
  .ifS (.cmp (.var 3) [.Lt] [(.cst (.int 128))])
   [.expr (.bm .append (.var 1) [(.var 3)])]
   [.ifS (.cmp (.var 3) [.Lt] [(.cst (.int 2048))])
    [.expr (.bm .append (.var 1) [(.bin .BitOr (.cst (.int 192)) (.bin .RShift (.var 3) (.cst (.int 6)) none) none)]),
     .expr (.bm .append (.var 1) [(.bin .BitOr (.cst (.int 128)) (.bin .BitAnd (.var 3) (.cst (.int 63)) none) none)])]
    [.ifS (.cmp (.var 3) [.Lt] [(.cst (.int 65536))])
      [.expr (.bm .append (.var 1) [(.bin .BitOr (.cst (.int 224)) (.bin .RShift (.var 3) (.cst (.int 12)) none) none)]),
      .expr (.bm .append (.var 1) [(.bin .BitOr (.cst (.int 128)) (.bin .BitAnd (.bin .RShift (.var 3) (.cst (.int 6)) none) (.cst (.int 63)) none) none)]),
      .expr (.bm .append (.var 1) [(.bin .BitOr (.cst (.int 128)) (.bin .BitAnd (.var 3) (.cst (.int 63)) none) none)])]
      [.expr (.bm .append (.var 1) [(.bin .BitOr (.cst (.int 240)) (.bin .RShift (.var 3) (.cst (.int 18)) none) none)]),
      .expr (.bm .append (.var 1) [(.bin .BitOr (.cst (.int 128)) (.bin .BitAnd (.bin .RShift (.var 3) (.cst (.int 12)) none) (.cst (.int 63)) none) none)]),
      .expr (.bm .append (.var 1) [(.bin .BitOr (.cst (.int 128)) (.bin .BitAnd (.bin .RShift (.var 3) (.cst (.int 6)) none) (.cst (.int 63)) none) none)]),
      .expr (.bm .append (.var 1) [(.bin .BitOr (.cst (.int 128)) (.bin .BitAnd (.var 3) (.cst (.int 63)) none) none)])]]]]
noncomputable def b_utf8 : Fn := { arity := 1, slots := 4, body :=
 [.asg 1 (.bi .bytearray [] (some 10)),
  .forS 2 (.var 0) l_utf8_0,
  .ret (.bi .bytes [(.var 1)] none) []] }
noncomputable def b_lead_of : Fn := { arity := 1, slots := 1, body :=
 [.ifS (.cmp (.var 0) [.Lt] [(.cst (.int 128))])
   [.ret (.tup [(.cst (.int 0)), (.var 0), (.cst (.int 0))]) []]
   [],
  .ifS (.cmp (.cst (.int 194)) [.LtE, .Lt] [(.var 0), (.cst (.int 224))])
   [.ret (.tup [(.cst (.int 1)), (.bin .BitAnd (.var 0) (.cst (.int 31)) none), (.cst (.int 128))]) []]
   [],
  .ifS (.cmp (.cst (.int 224)) [.LtE, .Lt] [(.var 0), (.cst (.int 240))])
   [.ret (.tup [(.cst (.int 2)), (.bin .BitAnd (.var 0) (.cst (.int 15)) none), (.cst (.int 2048))]) []]
   [],
  .ifS (.cmp (.cst (.int 240)) [.LtE, .Lt] [(.var 0), (.cst (.int 245))])
   [.ret (.tup [(.cst (.int 3)), (.bin .BitAnd (.var 0) (.cst (.int 7)) none), (.cst (.int 65536))]) []]
   [],
  .ret (.cst .none) []] }
noncomputable def l_code_at_0 : List PS :=
 [.ifS (.cmp (.bin .BitAnd (.idx (.var 0) (.var 6)) (.cst (.int 192)) none) [.NotEq] [(.cst (.int 128))])
   [.ret (.cst .none) []]
   [],
  .asg 4 (.bin .BitOr (.bin .LShift (.var 4) (.cst (.int 6)) none) (.bin .BitAnd (.idx (.var 0) (.var 6)) (.cst (.int 63)) none) none)]
noncomputable def b_code_at : Fn := { arity := 3, slots := 7, body :=
 [.asgT [3, 4, 5] (.var 2),
  .ifS (.cmp (.bin .Add (.var 1) (.var 3) none) [.Gt] [(.bi .len [(.var 0)] none)])
   [.ret (.cst .none) []]
   [],
  .forS 6 (.bi .range [(.var 1), (.bin .Add (.var 1) (.var 3) none)] none) l_code_at_0,
  .ifS (.orE [(.cmp (.var 4) [.Lt] [(.var 5)]), (.cmp (.var 4) [.Gt] [(.cst (.int 1114111))])])
   [.ret (.cst .none) []]
   [],
  .ret (.var 4) []] }
noncomputable def c_text_of_0 : PE := (.cmp (.var 2) [.Lt] [(.bi .len [(.var 0)] none)])
noncomputable def l_text_of_0 : List PS :=
 [.asg 3 (.call 1 [(.idx (.var 0) (.var 2))] [] []),
  .asg 4 (.cst .none),
  .ifS (.cmp (.var 3) [.IsNot] [(.cst .none)])
   [.asg 4 (.call 2 [(.var 0), (.bin .Add (.var 2) (.cst (.int 1)) none), (.var 3)] [] [])]
   [],
  .ifS (.cmp (.var 4) [.Is] [(.cst .none)])
   [.expr (.bm .append (.var 1) [(.gc "REPLACEMENT" (.str ⟨#[65533]⟩))]),
   .aug 2 .Add (.cst (.int 1))]
   [.expr (.bm .append (.var 1) [(.bi .chr [(.var 4)] none)]),
   .aug 2 .Add (.bin .Add (.idx (.var 3) (.cst (.int 0))) (.cst (.int 1)) none)]]
noncomputable def b_text_of : Fn := { arity := 1, slots := 5, body :=
 [.asg 1 (.lst [] (some 10)),
  .asg 2 (.cst (.int 0)),
  .whileS 60 c_text_of_0 l_text_of_0,
  .ret (.bm .join (.cst (.str "")) [(.var 1)]) []] }
noncomputable def l_fold_ascii_0 : List PS :=
 [.ifS (.cmp (.cst (.str "A")) [.LtE, .LtE] [(.var 2), (.cst (.str "Z"))])
   [.expr (.bm .append (.var 1) [(.bi .chr [(.bin .Add (.bi .ord [(.var 2)] none) (.cst (.int 32)) none)] none)])]
   [.expr (.bm .append (.var 1) [(.var 2)])]]
noncomputable def b_fold_ascii : Fn := { arity := 1, slots := 3, body :=
 [.asg 1 (.lst [] (some 10)),
  .forS 2 (.var 0) l_fold_ascii_0,
  .ret (.bm .join (.cst (.str "")) [(.var 1)]) []] }
noncomputable def b_storage_class : Fn := { arity := 1, slots := 1, body :=
 [.ifS (.cmp (.var 0) [.Is] [(.cst .none)])
   [.ret (.cst (.str "null")) []]
   [],
  .ifS (.bi (.isi "int") [(.var 0)] none)
   [.ret (.cst (.str "integer")) []]
   [],
  .ifS (.bi (.isi "str") [(.var 0)] none)
   [.ret (.cst (.str "text")) []]
   [],
  .ifS (.bi (.isi "bytes") [(.var 0)] none)
   [.ret (.cst (.str "blob")) []]
   [],
  .stuck] }
noncomputable def b_is_in_range : Fn := { arity := 1, slots := 1, body :=
 [.ret (.cmp (.gc "MIN_INT" (.int (-9223372036854775808))) [.LtE, .LtE] [(.var 0), (.gc "MAX_INT" (.int (9223372036854775807)))]) []] }
noncomputable def c_collate_0 : PE := (.andE [(.cmp (.var 2) [.Gt] [(.cst (.int 0))]), (.cmp (.idx (.var 0) (.bin .Sub (.var 2) (.cst (.int 1)) none)) [.Eq] [(.cst (.str " "))])])
noncomputable def l_collate_0 : List PS :=
 [.aug 2 .Sub (.cst (.int 1))]
noncomputable def b_collate : Fn := { arity := 2, slots := 3, body :=
 [.ifS (.cmp (.var 1) [.Eq] [(.cst (.str "binary"))])
   [.ret (.var 0) []]
   [],
  .ifS (.cmp (.var 1) [.Eq] [(.cst (.str "nocase"))])
   [.ret (.call 4 [(.var 0)] [] []) []]
   [],
  .ifS (.cmp (.var 1) [.Eq] [(.cst (.str "rtrim"))])
   [.asg 2 (.bi .len [(.var 0)] none),
   .whileS 60 c_collate_0 l_collate_0,
   .ret (.slc (.var 0) none (some (.var 2)) none) []]
   [],
  .stuck] }
noncomputable def l_put_varint_0 : List PS :=
 [.expr (.bm .append (.var 2) [(.bin .BitOr (.bin .BitAnd (.var 1) (.cst (.int 127)) none) (.cst (.int 128)) none)]),
  .aug 1 .RShift (.cst (.int 7))]
noncomputable def c_put_varint_1 : PE := (.cmp (.var 1) [.Gt] [(.cst (.int 0))])
noncomputable def l_put_varint_1 : List PS :=
 [.expr (.bm .append (.var 2) [(.bin .BitOr (.bin .BitAnd (.var 1) (.cst (.int 127)) none) (.cst (.int 128)) none)]),
  .aug 1 .RShift (.cst (.int 7))]
noncomputable def b_put_varint : Fn := { arity := 1, slots := 4, body :=
 [.asg 1 (.bin .Mod (.var 0) (.gc "WORD" (.int (18446744073709551616))) none),
  .asg 2 (.lst [] (some 10)),
  .ifS (.cmp (.var 1) [.GtE] [(.bin .Pow (.cst (.int 2)) (.cst (.int 56)) none)])
   [.expr (.bm .append (.var 2) [(.bin .BitAnd (.var 1) (.cst (.int 255)) none)]),
   .aug 1 .RShift (.cst (.int 8)),
   .forS 3 (.bi .range [(.cst (.int 8))] none) l_put_varint_0]
   [.expr (.bm .append (.var 2) [(.bin .BitAnd (.var 1) (.cst (.int 127)) none)]),
   .aug 1 .RShift (.cst (.int 7)),
   .whileS 60 c_put_varint_1 l_put_varint_1],
  .expr (.bm .reverse (.var 2) []),
  .ret (.bi .bytes [(.var 2)] none) []] }
noncomputable def l_get_varint_0 : List PS :=
 [.ifS (.cmp (.var 1) [.GtE] [(.bi .len [(.var 0)] none)])
   [.stuck]
   [],
  .asg 4 (.idx (.var 0) (.var 1)),
  .aug 1 .Add (.cst (.int 1)),
  .ifS (.cmp (.var 3) [.Eq] [(.cst (.int 8))])
   [.ret (.tup [(.bin .BitOr (.bin .LShift (.var 2) (.cst (.int 8)) none) (.var 4) none), (.var 1)]) []]
   [],
  .asg 2 (.bin .BitOr (.bin .LShift (.var 2) (.cst (.int 7)) none) (.bin .BitAnd (.var 4) (.cst (.int 127)) none) none),
  .ifS (.cmp (.var 4) [.Lt] [(.cst (.int 128))])
   [.ret (.tup [(.var 2), (.var 1)]) []]
   []]
noncomputable def b_get_varint : Fn := { arity := 2, slots := 5, body :=
 [.asg 2 (.cst (.int 0)),
  .forS 3 (.bi .range [(.cst (.int 9))] none) l_get_varint_0,
  .stuck] }
noncomputable def l_put_fixed_0 : List PS :=
 [.expr (.bm .append (.var 3) [(.bin .BitAnd (.var 2) (.cst (.int 255)) none)]),
  .aug 2 .RShift (.cst (.int 8))]
noncomputable def b_put_fixed : Fn := { arity := 2, slots := 5, body :=
 [.asg 2 (.bin .Mod (.var 0) (.bin .Pow (.cst (.int 256)) (.var 1) none) none),
  .asg 3 (.lst [] (some 10)),
  .forS 4 (.bi .range [(.var 1)] none) l_put_fixed_0,
  .expr (.bm .reverse (.var 3) []),
  .ret (.bi .bytes [(.var 3)] none) []] }
noncomputable def l_get_fixed_0 : List PS :=
 [.asg 3 (.bin .BitOr (.bin .LShift (.var 3) (.cst (.int 8)) none) (.idx (.var 0) (.var 4)) none)]
noncomputable def b_get_fixed : Fn := { arity := 3, slots := 5, body :=
 [.asg 3 (.cst (.int 0)),
  .forS 4 (.bi .range [(.var 1), (.bin .Add (.var 1) (.var 2) none)] none) l_get_fixed_0,
  .ifS (.andE [(.cmp (.var 2) [.Gt] [(.cst (.int 0))]), (.cmp (.var 3) [.GtE] [(.bin .FloorDiv (.bin .Pow (.cst (.int 256)) (.var 2) none) (.cst (.int 2)) none)])])
   [.ret (.bin .Sub (.var 3) (.bin .Pow (.cst (.int 256)) (.var 2) none) none) []]
   [],
  .ret (.var 3) []] }
noncomputable def l_number_type_0 : List PS :=
 [.asg 2 (.bin .FloorDiv (.bin .Pow (.cst (.int 256)) (.idx (.gc "NUMBER_SIZES" (.tup [(.int (0)), (.int (1)), (.int (2)), (.int (3)), (.int (4)), (.int (6)), (.int (8))])) (.var 1)) none) (.cst (.int 2)) none),
  .ifS (.cmp (.neg (.var 2)) [.LtE, .Lt] [(.var 0), (.var 2)])
   [.ret (.var 1) []]
   []]
noncomputable def b_number_type : Fn := { arity := 1, slots := 3, body :=
 [.ifS (.cmp (.var 0) [.Eq] [(.cst (.int 0))])
   [.ret (.gc "ZERO_TYPE" (.int (8))) []]
   [],
  .ifS (.cmp (.var 0) [.Eq] [(.cst (.int 1))])
   [.ret (.gc "ONE_TYPE" (.int (9))) []]
   [],
  .forS 1 (.bi .range [(.cst (.int 1)), (.cst (.int 7))] none) l_number_type_0,
  .stuck] }
noncomputable def b_serial_type : Fn := { arity := 1, slots := 2, body :=
 [.asg 1 (.call 5 [(.var 0)] [] []),
  .ifS (.cmp (.var 1) [.Eq] [(.cst (.str "null"))])
   [.ret (.cst (.int 0)) []]
   [],
  .ifS (.cmp (.var 1) [.Eq] [(.cst (.str "integer"))])
   [.ret (.call 12 [(.var 0)] [] []) []]
   [],
  .ifS (.cmp (.var 1) [.Eq] [(.cst (.str "text"))])
   [.ret (.bin .Add (.gc "TEXT_TYPE" (.int (13))) (.bin .Mult (.cst (.int 2)) (.bi .len [(.call 0 [(.var 0)] [] [])] none) none) none) []]
   [],
  .ret (.bin .Add (.gc "BLOB_TYPE" (.int (12))) (.bin .Mult (.cst (.int 2)) (.bi .len [(.var 0)] none) none) none) []] }
noncomputable def b_serial_size : Fn := { arity := 1, slots := 1, body :=
 [.ifS (.cmp (.var 0) [.GtE] [(.gc "BLOB_TYPE" (.int (12)))])
   [.ret (.bin .FloorDiv (.bin .Sub (.var 0) (.gc "BLOB_TYPE" (.int (12))) none) (.cst (.int 2)) none) []]
   [],
  .ifS (.cmp (.var 0) [.In] [(.tup [(.gc "ZERO_TYPE" (.int (8))), (.gc "ONE_TYPE" (.int (9)))])])
   [.ret (.cst (.int 0)) []]
   [],
  .ifS (.cmp (.var 0) [.Lt] [(.bi .len [(.gc "NUMBER_SIZES" (.tup [(.int (0)), (.int (1)), (.int (2)), (.int (3)), (.int (4)), (.int (6)), (.int (8))]))] none)])
   [.ret (.idx (.gc "NUMBER_SIZES" (.tup [(.int (0)), (.int (1)), (.int (2)), (.int (3)), (.int (4)), (.int (6)), (.int (8))])) (.var 0)) []]
   [],
  .stuck] }
noncomputable def b_body_of : Fn := { arity := 2, slots := 2, body :=
 [.ifS (.bi (.isi "str") [(.var 0)] none)
   [.ret (.call 0 [(.var 0)] [] []) []]
   [],
  .ifS (.bi (.isi "bytes") [(.var 0)] none)
   [.ret (.var 0) []]
   [],
  .ifS (.orE [(.cmp (.var 0) [.Is] [(.cst .none)]), (.cmp (.var 1) [.In] [(.tup [(.gc "ZERO_TYPE" (.int (8))), (.gc "ONE_TYPE" (.int (9)))])])])
   [.ret (.cst (.bytes [])) []]
   [],
  .ret (.call 10 [(.var 0), (.idx (.gc "NUMBER_SIZES" (.tup [(.int (0)), (.int (1)), (.int (2)), (.int (3)), (.int (4)), (.int (6)), (.int (8))])) (.var 1))] [] []) []] }
noncomputable def b_value_of : Fn := { arity := 3, slots := 5, body :=
 [.asg 3 (.call 14 [(.var 2)] [] []),
  .ifS (.cmp (.bin .Add (.var 1) (.var 3) none) [.Gt] [(.bi .len [(.var 0)] none)])
   [.stuck]
   [],
  .ifS (.cmp (.var 2) [.Eq] [(.cst (.int 0))])
   [.ret (.cst .none) []]
   [],
  .ifS (.cmp (.var 2) [.Eq] [(.gc "ZERO_TYPE" (.int (8)))])
   [.ret (.cst (.int 0)) []]
   [],
  .ifS (.cmp (.var 2) [.Eq] [(.gc "ONE_TYPE" (.int (9)))])
   [.ret (.cst (.int 1)) []]
   [],
  .ifS (.cmp (.var 2) [.Lt] [(.gc "BLOB_TYPE" (.int (12)))])
   [.ret (.call 11 [(.var 0), (.var 1), (.var 3)] [] []) []]
   [],
  .asg 4 (.bi .bytes [(.slc (.var 0) (some (.var 1)) (some (.bin .Add (.var 1) (.var 3) none)) none)] none),
  .ifS (.cmp (.bin .Mod (.var 2) (.cst (.int 2)) none) [.Eq] [(.cst (.int 1))])
   [.ret (.call 3 [(.var 4)] [] []) []]
   [],
  .ret (.var 4) []] }
noncomputable def c_head_size_0 : PE := (.cmp (.bi .len [(.call 8 [(.bin .Add (.var 0) (.var 1) none)] [] [])] none) [.NotEq] [(.var 1)])
noncomputable def l_head_size_0 : List PS :=
 [.aug 1 .Add (.cst (.int 1))]
noncomputable def b_head_size : Fn := { arity := 1, slots := 2, body :=
 [.asg 1 (.cst (.int 1)),
  .whileS 60 c_head_size_0 l_head_size_0,
  .ret (.bin .Add (.var 0) (.var 1) none) []] }
noncomputable def l_encode_record_0 : List PS :=
 [.asg 4 (.call 13 [(.var 3)] [] []),
  .expr (.bm .extend (.var 1) [(.call 8 [(.var 4)] [] [])]),
  .expr (.bm .extend (.var 2) [(.call 15 [(.var 3), (.var 4)] [] [])])]
noncomputable def b_encode_record : Fn := { arity := 1, slots := 5, body :=
 [.asg 1 (.bi .bytearray [] (some 10)),
  .asg 2 (.bi .bytearray [] (some 11)),
  .forS 3 (.var 0) l_encode_record_0,
  .ret (.bin .Add (.bin .Add (.call 8 [(.call 17 [(.bi .len [(.var 1)] none)] [] [])] [] []) (.bi .bytes [(.var 1)] none) none) (.bi .bytes [(.var 2)] none) none) []] }
noncomputable def c_head_of_0 : PE := (.cmp (.var 2) [.Lt] [(.var 1)])
noncomputable def l_head_of_0 : List PS :=
 [.asgT [4, 2] (.call 9 [(.var 0), (.var 2)] [] []),
  .expr (.bm .append (.var 3) [(.var 4)])]
noncomputable def b_head_of : Fn := { arity := 1, slots := 5, body :=
 [.asgT [1, 2] (.call 9 [(.var 0), (.cst (.int 0))] [] []),
  .ifS (.orE [(.cmp (.var 1) [.Gt] [(.bi .len [(.var 0)] none)]), (.cmp (.var 1) [.Lt] [(.var 2)])])
   [.stuck]
   [],
  .asg 3 (.lst [] (some 10)),
  .whileS 60 c_head_of_0 l_head_of_0,
  .ifS (.cmp (.var 2) [.NotEq] [(.var 1)])
   [.stuck]
   [],
  .frz 10,
  .ret (.tup [(.var 3), (.var 1)]) []] }
noncomputable def l_decode_record_0 : List PS :=
 [.expr (.bm .append (.var 3) [(.call 16 [(.var 0), (.var 2), (.var 4)] [] [])]),
  .aug 2 .Add (.call 14 [(.var 4)] [] [])]
noncomputable def b_decode_record : Fn := { arity := 1, slots := 5, body :=
 [.asgT [1, 2] (.call 19 [(.var 0)] [] []),
  .asg 3 (.lst [] (some 10)),
  .forS 4 (.var 1) l_decode_record_0,
  .ifS (.cmp (.var 2) [.NotEq] [(.bi .len [(.var 0)] none)])
   [.stuck]
   [],
  .ret (.var 3) [10]] }
noncomputable def c_record_column_0 : PE := (.cmp (.var 3) [.Lt] [(.var 2)])
noncomputable def l_record_column_0 : List PS :=
 [.asgT [6, 3] (.call 9 [(.var 0), (.var 3)] [] []),
  .ifS (.cmp (.var 5) [.Eq] [(.var 1)])
   [.ret (.call 16 [(.var 0), (.var 4), (.var 6)] [] []) []]
   [],
  .aug 4 .Add (.call 14 [(.var 6)] [] []),
  .aug 5 .Add (.cst (.int 1))]
noncomputable def b_record_column : Fn := { arity := 2, slots := 7, body :=
 [.asgT [2, 3] (.call 9 [(.var 0), (.cst (.int 0))] [] []),
  .ifS (.orE [(.cmp (.var 2) [.Gt] [(.bi .len [(.var 0)] none)]), (.cmp (.var 2) [.Lt] [(.var 3)])])
   [.stuck]
   [],
  .asg 4 (.var 2),
  .asg 5 (.cst (.int 0)),
  .whileS 60 c_record_column_0 l_record_column_0,
  .ret (.cst .none) []] }
noncomputable def b_KeyInfo_init : Fn := { arity := 3, slots := 3, body :=
 [.ifS (.cmp (.bi .len [(.var 1)] none) [.NotEq] [(.bi .len [(.var 2)] none)])
   [.stuck]
   [],
  .asgA (.var 0) "collations" (.bi .tuple [(.var 1)] none),
  .asgA (.var 0) "descending" (.bi .tuple [(.var 2)] none)] }
noncomputable def b_KeyInfo_count : Fn := { arity := 1, slots := 1, body :=
 [.ret (.bi .len [(.attr (.var 0) "collations")] none) []] }
noncomputable def b_KeyInfo_collation : Fn := { arity := 2, slots := 2, body :=
 [.ifS (.cmp (.var 1) [.Lt] [(.bi .len [(.attr (.var 0) "collations")] none)])
   [.ret (.idx (.attr (.var 0) "collations") (.var 1)) []]
   [],
  .ret (.cst (.str "binary")) []] }
noncomputable def b_KeyInfo_is_descending : Fn := { arity := 2, slots := 2, body :=
 [.ret (.andE [(.cmp (.var 1) [.Lt] [(.bi .len [(.attr (.var 0) "descending")] none)]), (.bi .bool [(.idx (.attr (.var 0) "descending") (.var 1))] none)]) []] }
noncomputable def l_put_ended_0 : List PS :=
 [.expr (.bm .append (.var 1) [(.var 2)]),
  .ifS (.cmp (.var 2) [.Eq] [(.cst (.int 0))])
   [.expr (.bm .append (.var 1) [(.cst (.int 255))])]
   []]
noncomputable def b_put_ended : Fn := { arity := 1, slots := 3, body :=
 [.asg 1 (.bi .bytearray [] (some 10)),
  .forS 2 (.var 0) l_put_ended_0,
  .expr (.bm .append (.var 1) [(.cst (.int 0))]),
  .expr (.bm .append (.var 1) [(.cst (.int 0))]),
  .ret (.var 1) [10]] }
noncomputable def b_sort_part : Fn := { arity := 2, slots := 4, body :=
 [.asg 2 (.call 5 [(.var 0)] [] []),
  .asg 3 (.bi .bytearray [] (some 10)),
  .ifS (.cmp (.var 2) [.Eq] [(.cst (.str "null"))])
   [.expr (.bm .append (.var 3) [(.gc "NULL_TAG" (.int (1)))])]
   [.ifS (.cmp (.var 2) [.Eq] [(.cst (.str "integer"))])
    [.ifS (.notE (.call 6 [(.var 0)] [] []))
      [.stuck]
      [],
     .expr (.bm .append (.var 3) [(.gc "NUMBER_TAG" (.int (2)))]),
     .expr (.bm .extend (.var 3) [(.call 10 [(.bin .Add (.var 0) (.bin .FloorDiv (.gc "WORD" (.int (18446744073709551616))) (.cst (.int 2)) none) none), (.cst (.int 8))] [] [])])]
    [.ifS (.cmp (.var 2) [.Eq] [(.cst (.str "text"))])
      [.expr (.bm .append (.var 3) [(.gc "TEXT_TAG" (.int (3)))]),
      .expr (.bm .extend (.var 3) [(.call 26 [(.call 0 [(.call 7 [(.var 0), (.var 1)] [] [])] [] [])] [] [])])]
      [.expr (.bm .append (.var 3) [(.gc "BLOB_TAG" (.int (4)))]),
      .expr (.bm .extend (.var 3) [(.call 26 [(.var 0)] [] [])])]]],
  .ret (.var 3) [10]] }
noncomputable def l_sort_octets_0 : List PS :=
 [.expr (.bm .append (.var 2) [(.bin .Sub (.cst (.int 255)) (.var 5) none)])]
noncomputable def l_sort_octets_1 : List PS :=
 [.asg 4 (.call 27 [(.idx (.var 0) (.var 3)), (.meth (.var 1) 24 [(.var 3)] [] [])] [] []),
  .ifS (.meth (.var 1) 25 [(.var 3)] [] [])
   [.forS 5 (.var 4) l_sort_octets_0]
   [.expr (.bm .extend (.var 2) [(.var 4)])]]
noncomputable def b_sort_octets : Fn := { arity := 2, slots := 6, body :=
 [.asg 2 (.bi .bytearray [] (some 10)),
  .forS 3 (.bi .range [(.bi .len [(.var 0)] none)] none) l_sort_octets_1,
  .ret (.bi .bytes [(.var 2)] none) []] }
noncomputable def c_merged_0 : PE := (.andE [(.cmp (.var 3) [.Lt] [(.bi .len [(.var 0)] none)]), (.cmp (.var 4) [.Lt] [(.bi .len [(.var 1)] none)])])
noncomputable def l_merged_0 : List PS :=
 [.ifS (.cmp (.tup [(.idx (.idx (.var 1) (.var 4)) (.cst (.int 0))), (.idx (.idx (.var 1) (.var 4)) (.cst (.int 1)))]) [.Lt] [(.tup [(.idx (.idx (.var 0) (.var 3)) (.cst (.int 0))), (.idx (.idx (.var 0) (.var 3)) (.cst (.int 1)))])])
   [.expr (.bm .append (.var 2) [(.idx (.var 1) (.var 4))]),
   .aug 4 .Add (.cst (.int 1))]
   [.expr (.bm .append (.var 2) [(.idx (.var 0) (.var 3))]),
   .aug 3 .Add (.cst (.int 1))]]
noncomputable def b_merged : Fn := { arity := 2, slots := 5, body :=
 [.asg 2 (.lst [] (some 10)),
  .asg 3 (.cst (.int 0)),
  .asg 4 (.cst (.int 0)),
  .whileS 60 c_merged_0 l_merged_0,
  .ret (.bin .Add (.bin .Add (.var 2) (.slc (.var 0) (some (.var 3)) none none) none) (.slc (.var 1) (some (.var 4)) none none) none) []] }
noncomputable def l_merge_sorted_0 : List PS :=
 [.expr (.bm .append (.var 2) [(.call 29 [(.idx (.var 1) (.var 3)), (.idx (.var 1) (.bin .Add (.var 3) (.cst (.int 1)) none))] [] [])])]
noncomputable def c_merge_sorted_1 : PE := (.cmp (.bi .len [(.var 1)] none) [.Gt] [(.cst (.int 1))])
noncomputable def l_merge_sorted_1 : List PS :=
 [.asg 2 (.lst [] (some 10)),
  .forS 3 (.bi .range [(.cst (.int 0)), (.bin .Sub (.bi .len [(.var 1)] none) (.cst (.int 1)) none), (.cst (.int 2))] none) l_merge_sorted_0,
  .ifS (.cmp (.bin .Mod (.bi .len [(.var 1)] none) (.cst (.int 2)) none) [.Eq] [(.cst (.int 1))])
   [.expr (.bm .append (.var 2) [(.idx (.var 1) (.neg (.cst (.int 1))))])]
   [],
  .asg 1 (.var 2),
  .frz 10]
noncomputable def b_merge_sorted : Fn := { arity := 1, slots := 4, body :=
 [.asg 1 (.comp (.lst [(.var 0)] none) (.var 0) [] none),
  .whileS 60 c_merge_sorted_1 l_merge_sorted_1,
  .ret (.ife (.var 1) (.idx (.var 1) (.cst (.int 0))) (.lst [] none)) []] }
noncomputable def b_Sorter_init : Fn := { arity := 3, slots := 3, body :=
 [.asgA (.var 0) "info" (.var 1),
  .asgA (.var 0) "run_size" (.var 2),
  .asgA (.var 0) "gathered" (.lst [] (some 2)),
  .asgA (.var 0) "runs" (.lst [] (some 3)),
  .asgA (.var 0) "taken" (.cst (.int 0)),
  .asgA (.var 0) "told" (.lst [] none),
  .asgA (.var 0) "place" (.cst (.int 0))] }
noncomputable def b_Sorter_end_run : Fn := { arity := 1, slots := 1, body :=
 [.frz 2,
  .expr (.bm .append (.attr (.var 0) "runs") [(.call 30 [(.attr (.var 0) "gathered")] [] [])]),
  .asgA (.var 0) "gathered" (.lst [] (some 2))] }
noncomputable def b_Sorter_insert : Fn := { arity := 2, slots := 4, body :=
 [.asg 2 (.call 20 [(.var 1)] [] []),
  .asg 3 (.call 28 [(.slc (.var 2) none (some (.meth (.attr (.var 0) "info") 23 [] [] [])) none), (.attr (.var 0) "info")] [] []),
  .expr (.bm .append (.attr (.var 0) "gathered") [(.tup [(.var 3), (.attr (.var 0) "taken"), (.var 1)])]),
  .augA (.var 0) "taken" .Add (.cst (.int 1)),
  .ifS (.cmp (.bi .len [(.attr (.var 0) "gathered")] none) [.GtE] [(.attr (.var 0) "run_size")])
   [.expr (.meth (.var 0) 32 [] [1, 2, 3] [1, 2, 3])]
   []] }
noncomputable def b_Sorter_valid : Fn := { arity := 1, slots := 1, body :=
 [.ret (.cmp (.cst (.int 0)) [.LtE, .Lt] [(.attr (.var 0) "place"), (.bi .len [(.attr (.var 0) "told")] none)]) []] }
noncomputable def c_Sorter_first_0 : PE := (.cmp (.bi .len [(.attr (.var 0) "runs")] none) [.Gt] [(.cst (.int 1))])
noncomputable def l_Sorter_first_0 : List PS :=
 [.frz 3,
  .asgA (.var 0) "runs" (.bin .Add (.lst [(.call 29 [(.idx (.attr (.var 0) "runs") (.cst (.int 0))), (.idx (.attr (.var 0) "runs") (.cst (.int 1)))] [] [])] none) (.slc (.attr (.var 0) "runs") (some (.cst (.int 2))) none none) (some 3))]
noncomputable def b_Sorter_first : Fn := { arity := 1, slots := 1, body :=
 [.ifS (.attr (.var 0) "gathered")
   [.expr (.meth (.var 0) 32 [] [1, 2, 3] [1, 2, 3])]
   [],
  .whileS 60 c_Sorter_first_0 l_Sorter_first_0,
  .asgA (.var 0) "told" (.ife (.attr (.var 0) "runs") (.idx (.attr (.var 0) "runs") (.cst (.int 0))) (.lst [] none)),
  .asgA (.var 0) "place" (.cst (.int 0)),
  .ret (.meth (.var 0) 34 [] [1, 2, 3] [1, 2, 3]) []] }
noncomputable def b_Sorter_next : Fn := { arity := 1, slots := 1, body :=
 [.augA (.var 0) "place" .Add (.cst (.int 1)),
  .ret (.meth (.var 0) 34 [] [1, 2, 3] [1, 2, 3]) []] }
noncomputable def b_Sorter_record : Fn := { arity := 1, slots := 1, body :=
 [.ret (.idx (.idx (.attr (.var 0) "told") (.attr (.var 0) "place")) (.cst (.int 2))) []] }
noncomputable def b_Sorter_values : Fn := { arity := 1, slots := 1, body :=
 [.ret (.call 20 [(.meth (.var 0) 37 [] [1, 2, 3] [1, 2, 3])] [] []) []] }
noncomputable def b_Sorter_value : Fn := { arity := 2, slots := 2, body :=
 [.ret (.call 21 [(.meth (.var 0) 37 [] [1, 2, 3] [1, 2, 3]), (.var 1)] [] []) []] }
noncomputable def b_law_pool : Fn := { arity := 2, slots := 5, body :=
 [.asg 2 (.cst (.int 0)),
  .ifS (.cmp (.var 1) [.Lt] [(.bi .len [(.var 0)] none)])
   [.asg 2 (.idx (.var 0) (.var 1))]
   [],
  .asg 3 (.bi .max [(.bi .int [(.var 2)] none), (.bi .int [(.bin .Sub (.neg (.cst (.int 1))) (.var 2) none)] none)] none),
  .asg 4 (.bin .Mod (.bi .int [(.bin .Mult (.bin .Add (.bin .Add (.bin .Add (.bin .Mod (.bi .int [(.var 3)] none) (.cst (.int 2147483629)) none) (.bin .Mult (.bin .Mult (.cst (.int 7919)) (.var 1) none) (.var 1) none) none) (.bin .Mult (.cst (.int 31)) (.var 1) none) none) (.cst (.int 17)) none) (.cst (.int 48271)) none)] none) (.cst (.int 2147483647)) none),
  .ret (.lst [(.bin .Mult (.var 3) (.bi .int [(.cmp (.var 3) [.GtE] [(.bin .Pow (.cst (.int 10)) (.cst (.int 18)) none)])] none) none), (.var 4)] (some 0)) []] }
noncomputable def b_law_take : Fn := { arity := 2, slots := 3, body :=
 [.ifS (.cmp (.idx (.var 0) (.cst (.int 0))) [.Gt] [(.cst (.int 0))])
   [.asg 2 (.bin .Mod (.bi .int [(.idx (.var 0) (.cst (.int 0)))] none) (.var 1) none),
   .asgI (.var 0) (.cst (.int 0)) (.bin .FloorDiv (.idx (.var 0) (.cst (.int 0))) (.var 1) none),
   .ret (.var 2) []]
   [],
  .asgI (.var 0) (.cst (.int 1)) (.bin .Mod (.bi .int [(.bin .Add (.bin .Mult (.idx (.var 0) (.cst (.int 1))) (.cst (.int 39373)) none) (.cst (.int 7)) none)] none) (.cst (.int 2147483647)) none),
  .ret (.bin .Mod (.bi .int [(.bin .FloorDiv (.bin .Mod (.bi .int [(.bin .Mult (.idx (.var 0) (.cst (.int 1))) (.idx (.var 0) (.cst (.int 1))) none)] none) (.cst (.int 2147483629)) none) (.cst (.int 32)) none)] none) (.var 1) none) []] }
noncomputable def b_law_one : Fn := { arity := 2, slots := 2, body :=
 [.ret (.idx (.var 1) (.call 41 [(.var 0), (.bi .len [(.var 1)] none)] [0] [0])) []] }
noncomputable def b_law_value : Fn := { arity := 1, slots := 2, body :=
 [.asg 1 (.call 41 [(.var 0), (.cst (.int 8))] [0] [0]),
  .ifS (.cmp (.var 1) [.Eq] [(.cst (.int 0))])
   [.ret (.cst .none) []]
   [],
  .ifS (.cmp (.var 1) [.Lt] [(.cst (.int 4))])
   [.ret (.call 42 [(.var 0), (.lst [(.cst (.int 0)), (.cst (.int 1)), (.neg (.cst (.int 1))), (.cst (.int 2)), (.cst (.int 127)), (.cst (.int 128)), (.neg (.cst (.int 129))), (.cst (.int 70000)), (.bin .Pow (.cst (.int 2)) (.cst (.int 40)) none), (.neg (.bin .Pow (.cst (.int 2)) (.cst (.int 63)) none)), (.bin .Sub (.bin .Pow (.cst (.int 2)) (.cst (.int 63)) none) (.cst (.int 1)) none)] none)] [0] [0]) []]
   [],
  .ifS (.cmp (.var 1) [.Lt] [(.cst (.int 7))])
   [.ret (.call 42 [(.var 0), (.lst [(.cst (.str "")), (.cst (.str "a")), (.cst (.str "A")), (.cst (.str "ab")), (.cst (.str "Ab")), (.cst (.str "b")), (.cst (.str "a ")), (.cst (.str "a  ")), (.cst (.str " a")), (.cst (.str "B ")), (.cst (.str "b "))] none)] [0] [0]) []]
   [],
  .ret (.call 42 [(.var 0), (.lst [(.cst (.bytes [])), (.cst (.bytes [97])), (.cst (.bytes [0])), (.cst (.bytes [97, 255])), (.cst (.bytes [97, 98]))] none)] [0] [0]) []] }
noncomputable def b_law_rank : Fn := { arity := 1, slots := 1, body :=
 [.ifS (.cmp (.var 0) [.Is] [(.cst .none)])
   [.ret (.cst (.int 0)) []]
   [],
  .ifS (.bi (.isi "int") [(.var 0)] none)
   [.ret (.cst (.int 1)) []]
   [],
  .ret (.ife (.bi (.isi "str") [(.var 0)] none) (.cst (.int 2)) (.cst (.int 3))) []] }
noncomputable def l_law_folded_0 : List PS :=
 [.asg 2 (.bin .Add (.var 2) (.ife (.cmp (.cst (.str "A")) [.LtE, .LtE] [(.var 3), (.cst (.str "Z"))]) (.bi .chr [(.bin .Add (.bi .ord [(.var 3)] none) (.cst (.int 32)) none)] none) (.var 3)) none)]
noncomputable def c_law_folded_1 : PE := (.cmp (.slc (.var 0) (some (.neg (.cst (.int 1)))) none none) [.Eq] [(.cst (.str " "))])
noncomputable def l_law_folded_1 : List PS :=
 [.asg 0 (.slc (.var 0) none (some (.neg (.cst (.int 1)))) none)]
noncomputable def b_law_folded : Fn := { arity := 2, slots := 4, body :=
 [.ifS (.cmp (.var 1) [.Eq] [(.cst (.str "nocase"))])
   [.asg 2 (.cst (.str "")),
   .forS 3 (.var 0) l_law_folded_0,
   .ret (.var 2) []]
   [],
  .ifS (.cmp (.var 1) [.Eq] [(.cst (.str "rtrim"))])
   [.whileS 60 c_law_folded_1 l_law_folded_1]
   [],
  .ret (.var 0) []] }
noncomputable def b_law_sign : Fn := { arity := 3, slots := 5, body :=
 [.asgT [3, 4] (.tup [(.call 44 [(.var 0)] [] []), (.call 44 [(.var 1)] [] [])]),
  .ifS (.cmp (.var 3) [.NotEq] [(.var 4)])
   [.ret (.ife (.cmp (.var 3) [.Lt] [(.var 4)]) (.neg (.cst (.int 1))) (.cst (.int 1))) []]
   [],
  .ifS (.cmp (.var 3) [.Eq] [(.cst (.int 0))])
   [.ret (.cst (.int 0)) []]
   [],
  .ifS (.cmp (.var 3) [.Eq] [(.cst (.int 2))])
   [.asgT [0, 1] (.tup [(.call 45 [(.var 0), (.var 2)] [] []), (.call 45 [(.var 1), (.var 2)] [] [])])]
   [],
  .ifS (.cmp (.var 0) [.Eq] [(.var 1)])
   [.ret (.cst (.int 0)) []]
   [],
  .ret (.ife (.cmp (.var 0) [.Lt] [(.var 1)]) (.neg (.cst (.int 1))) (.cst (.int 1))) []] }
noncomputable def l_law_order_0 : List PS :=
 [.asg 5 (.call 46 [(.idx (.var 0) (.var 4)), (.idx (.var 1) (.var 4)), (.idx (.var 2) (.var 4))] [] []),
  .ifS (.cmp (.var 5) [.NotEq] [(.cst (.int 0))])
   [.ret (.ife (.idx (.var 3) (.var 4)) (.bin .Sub (.cst (.int 0)) (.var 5) none) (.var 5)) []]
   []]
noncomputable def b_law_order : Fn := { arity := 4, slots := 6, body :=
 [.forS 4 (.bi .range [(.bi .len [(.var 2)] none)] none) l_law_order_0,
  .ret (.cst (.int 0)) []] }
noncomputable def c_law_sorted_0 : PE := (.andE [(.cmp (.var 5) [.Gt] [(.cst (.int 0))]), (.cmp (.call 47 [(.var 4), (.idx (.var 3) (.bin .Sub (.var 5) (.cst (.int 1)) none)), (.var 1), (.var 2)] [] []) [.Lt] [(.cst (.int 0))])])
noncomputable def l_law_sorted_0 : List PS :=
 [.asg 5 (.bin .Sub (.var 5) (.cst (.int 1)) none)]
noncomputable def l_law_sorted_1 : List PS :=
 [.asg 5 (.bi .len [(.var 3)] none),
  .whileS 60 c_law_sorted_0 l_law_sorted_0,
  .asg 3 (.bin .Add (.bin .Add (.slc (.var 3) none (some (.var 5)) none) (.lst [(.var 4)] none) none) (.slc (.var 3) (some (.var 5)) none none) none)]
noncomputable def b_law_sorted : Fn := { arity := 3, slots := 6, body :=
 [.asg 3 (.lst [] none),
  .forS 4 (.var 0) l_law_sorted_1,
  .ret (.var 3) []] }
noncomputable def c_law_told_0 : PE := (.andE [(.var 2), (.cmp (.bi .len [(.var 1)] none) [.Lt] [(.cst (.int 40))])])
noncomputable def l_law_told_0 : List PS :=
 [.expr (.bm .append (.var 1) [(.meth (.var 0) 37 [] [1, 2, 3] [1, 2, 3])]),
  .asg 2 (.meth (.var 0) 36 [] [1, 2, 3] [1, 2, 3])]
noncomputable def b_law_told : Fn := { arity := 1, slots := 3, body :=
 [.asg 1 (.lst [] (some 10)),
  .asg 2 (.meth (.var 0) 35 [] [1, 2, 3] [1, 2, 3]),
  .whileS 60 c_law_told_0 l_law_told_0,
  .ret (.var 1) [10]] }
noncomputable def l_law_values_right_0 : List PS :=
 [.ifS (.cmp (.meth (.var 0) 39 [(.var 4)] [1, 2, 3] [1, 2, 3]) [.NotEq] [(.ife (.cmp (.var 4) [.Lt] [(.bi .len [(.var 3)] none)]) (.idx (.var 3) (.var 4)) (.cst .none))])
   [.ret (.cst (.bool false)) []]
   []]
noncomputable def l_law_values_right_1 : List PS :=
 [.ifS (.orE [(.notE (.var 2)), (.notE (.meth (.var 0) 34 [] [1, 2, 3] [1, 2, 3])), (.cmp (.bi .list [(.meth (.var 0) 38 [] [1, 2, 3] [1, 2, 3])] none) [.NotEq] [(.bi .list [(.var 3)] none)])])
   [.ret (.cst (.bool false)) []]
   [],
  .forS 4 (.lst [(.cst (.int 0)), (.bin .Sub (.bi .len [(.var 3)] none) (.cst (.int 1)) none), (.bi .len [(.var 3)] none)] none) l_law_values_right_0,
  .asg 2 (.meth (.var 0) 36 [] [1, 2, 3] [1, 2, 3])]
noncomputable def b_law_values_right : Fn := { arity := 2, slots := 5, body :=
 [.asg 2 (.meth (.var 0) 35 [] [1, 2, 3] [1, 2, 3]),
  .forS 3 (.var 1) l_law_values_right_1,
  .ret (.andE [(.notE (.var 2)), (.notE (.meth (.var 0) 34 [] [1, 2, 3] [1, 2, 3]))]) []] }
noncomputable def l_law_0 : List PS :=
 [.asg 9 (.comp (.call 43 [(.var 1)] [0] [0]) (.bi .range [(.bin .Add (.bi .max [(.var 2), (.cst (.int 2))] none) (.call 41 [(.var 1), (.cst (.int 2))] [0] [0]) none)] none) [1] none),
  .ifS (.andE [(.cmp (.var 7) [.NotEq] [(.lst [] none)]), (.cmp (.call 41 [(.var 1), (.cst (.int 3))] [0] [0]) [.Eq] [(.cst (.int 0))])])
   [.asg 9 (.bin .Add (.bin .Add (.slc (.call 42 [(.var 1), (.var 7)] [0, 4] [0, 4]) none (some (.var 2)) none) (.slc (.var 9) (some (.var 2)) none none) none) (.lst [(.var 8)] none) none)]
   [],
  .expr (.bm .append (.var 7) [(.var 9)]),
  .expr (.meth (.var 6) 33 [(.call 18 [(.var 9)] [] [])] [1, 2, 3] [1, 2, 3])]
noncomputable def l_law_1 : List PS :=
 [.asg 9 (.comp (.call 43 [(.var 1)] [0] [0]) (.bi .range [(.bi .max [(.var 2), (.cst (.int 2))] none)] none) [1] none),
  .expr (.bm .append (.var 7) [(.var 9)]),
  .expr (.meth (.var 6) 33 [(.call 18 [(.var 9)] [] [])] [1, 2, 3] [1, 2, 3])]
noncomputable def b_law : Fn := { arity := 1, slots := 12, body :=
 [.asg 1 (.call 40 [(.var 0), (.cst (.int 0))] [] [0]),
  .asg 2 (.bin .Add (.cst (.int 1)) (.call 41 [(.var 1), (.cst (.int 3))] [0] [0]) none),
  .asg 3 (.bi .tuple [(.comp (.call 42 [(.var 1), (.lst [(.cst (.str "binary")), (.cst (.str "binary")), (.cst (.str "nocase")), (.cst (.str "rtrim"))] none)] [0] [0]) (.bi .range [(.var 2)] none) [1] none)] none),
  .asg 4 (.bi .tuple [(.comp (.cmp (.call 41 [(.var 1), (.cst (.int 3))] [0] [0]) [.Eq] [(.cst (.int 0))]) (.bi .range [(.var 2)] none) [1] none)] none),
  .asg 5 (.new 0 [(.var 3), (.var 4)] 30 [30]),
  .frz 30,
  .asg 6 (.new 1 [(.var 5), (.bin .Add (.cst (.int 1)) (.call 41 [(.var 1), (.cst (.int 5))] [0] [0]) none)] 1 [1, 2, 3]),
  .asg 7 (.lst [] (some 4)),
  .forS 8 (.bi .range [(.call 41 [(.var 1), (.cst (.int 8))] [0] [0])] none) l_law_0,
  .asg 10 (.call 48 [(.var 7), (.var 3), (.var 4)] [4] [4]),
  .asg 11 (.comp (.call 18 [(.var 0)] [] []) (.var 10) [] none),
  .ifS (.orE [(.cmp (.call 49 [(.var 6)] [1, 2, 3] [1, 2, 3]) [.NotEq] [(.var 11)]), (.meth (.var 6) 34 [] [1, 2, 3] [1, 2, 3]), (.cmp (.call 49 [(.var 6)] [1, 2, 3] [1, 2, 3]) [.NotEq] [(.var 11)])])
   [.ret (.cst (.bool false)) []]
   [],
  .ifS (.notE (.call 50 [(.var 6), (.var 10)] [1, 2, 3] [1, 2, 3]))
   [.ret (.cst (.bool false)) []]
   [],
  .forS 8 (.bi .range [(.call 41 [(.var 1), (.cst (.int 3))] [0] [0])] none) l_law_1,
  .ret (.cmp (.call 49 [(.var 6)] [1, 2, 3] [1, 2, 3]) [.Eq] [(.comp (.call 18 [(.var 0)] [] []) (.call 48 [(.var 7), (.var 3), (.var 4)] [4] [4]) [] none)]) []] }
noncomputable def allF : List Fn := [b_utf8, b_lead_of, b_code_at, b_text_of, b_fold_ascii, b_storage_class, b_is_in_range, b_collate, b_put_varint, b_get_varint, b_put_fixed, b_get_fixed, b_number_type, b_serial_type, b_serial_size, b_body_of, b_value_of, b_head_size, b_encode_record, b_head_of, b_decode_record, b_record_column, b_KeyInfo_init, b_KeyInfo_count, b_KeyInfo_collation, b_KeyInfo_is_descending, b_put_ended, b_sort_part, b_sort_octets, b_merged, b_merge_sorted, b_Sorter_init, b_Sorter_end_run, b_Sorter_insert, b_Sorter_valid, b_Sorter_first, b_Sorter_next, b_Sorter_record, b_Sorter_values, b_Sorter_value, b_law_pool, b_law_take, b_law_one, b_law_value, b_law_rank, b_law_folded, b_law_sign, b_law_order, b_law_sorted, b_law_told, b_law_values_right, b_law]
noncomputable def attrsOf (a : Addr) : List Str := if a = 263 then [Str.ofString "collations", Str.ofString "descending"] else if a = 374 then [Str.ofString "info", Str.ofString "run_size", Str.ofString "gathered", Str.ofString "runs", Str.ofString "taken", Str.ofString "told", Str.ofString "place"] else []
noncomputable def mnameOf : Nat → Str
 | 23 => Str.ofString "count"
 | 24 => Str.ofString "collation"
 | 25 => Str.ofString "is_descending"
 | 32 => Str.ofString "end_run"
 | 33 => Str.ofString "insert"
 | 34 => Str.ofString "valid"
 | 35 => Str.ofString "first"
 | 36 => Str.ofString "next"
 | 37 => Str.ofString "record"
 | 38 => Str.ofString "values"
 | 39 => Str.ofString "value"
 | _ => Str.ofString ""
noncomputable def mkP (D : Delta) : Prg := { D := D, clsAddr := fun i => if i = 0 then 263 else 374, clsInit := fun i => if i = 0 then 22 else 31, methOf := fun a f => (a == 263 && decide (23 ≤ f) && decide (f ≤ 25)) || (a == 374 && decide (32 ≤ f) && decide (f ≤ 39)), bytearrays := true, hasAttr := fun a x => (attrsOf a).contains x, mname := mnameOf }
noncomputable def isInit (i : Nat) : Bool := i == 22 || i == 31
noncomputable def fnOf (i : Nat) : Fn := match allF[i]? with | some f => f | none => ⟨0, 0, []⟩
noncomputable def prgOf (D : Delta) (i : Nat) : Prg := { mkP D with bytearrays := !isInit i }
noncomputable def Dn : Nat → Delta
 | 0 => fun _ _ _ => none
 | i + 1 => fun f a l => if f = i then runF (prgOf (Dn i) i) (fnOf i) a l else Dn i f a l
theorem Dn_lt {f : Nat} : ∀ {i : Nat}, f < i → Dn i f = runF (prgOf (Dn f) f) (fnOf f)
 | 0, h => absurd h (Nat.not_lt_zero _)
 | i + 1, h => by
  funext a l
  show (if f = i then _ else _) = _
  by_cases hf : f = i
  ·subst hf; rw [if_pos rfl]
  ·rw [if_neg hf, Dn_lt (by omega)]
noncomputable def faddrL : List Nat := [77, 84, 98, 91, 105, 112, 119, 126, 134, 141, 148, 155, 162, 169, 176, 183, 190, 197, 204, 211, 218, 225, 239, 246, 253, 260, 274, 281, 288, 295, 300, 315, 329, 322, 350, 336, 343, 357, 364, 371, 385, 392, 399, 406, 413, 420, 427, 434, 441, 448, 455, 460]
noncomputable def faddrT (f : Nat) : Addr := (faddrL[f]?).getD 0
noncomputable def fnamesL : List (Option Str) := [some (Str.ofString "utf8"), some (Str.ofString "lead_of"), some (Str.ofString "code_at"), some (Str.ofString "text_of"), some (Str.ofString "fold_ascii"), some (Str.ofString "storage_class"), some (Str.ofString "is_in_range"), some (Str.ofString "collate"), some (Str.ofString "put_varint"), some (Str.ofString "get_varint"), some (Str.ofString "put_fixed"), some (Str.ofString "get_fixed"), some (Str.ofString "number_type"), some (Str.ofString "serial_type"), some (Str.ofString "serial_size"), some (Str.ofString "body_of"), some (Str.ofString "value_of"), some (Str.ofString "head_size"), some (Str.ofString "encode_record"), some (Str.ofString "head_of"), some (Str.ofString "decode_record"), some (Str.ofString "record_column"), none, none, none, none, some (Str.ofString "put_ended"), some (Str.ofString "sort_part"), some (Str.ofString "sort_octets"), some (Str.ofString "merged"), some (Str.ofString "merge_sorted"), none, none, none, none, none, none, none, none, none, some (Str.ofString "_law_pool"), some (Str.ofString "_law_take"), some (Str.ofString "_law_one"), some (Str.ofString "_law_value"), some (Str.ofString "_law_rank"), some (Str.ofString "_law_folded"), some (Str.ofString "_law_sign"), some (Str.ofString "_law_order"), some (Str.ofString "_law_sorted"), some (Str.ofString "_law_told"), some (Str.ofString "_law_values_right"), some (Str.ofString "law")]
noncomputable def fnameT (f : Nat) : Option Str := (fnamesL[f]?).join
noncomputable def namesL : List (List Str) := [[(Str.ofString "text"), (Str.ofString "found"), (Str.ofString "sign"), (Str.ofString "code")],
 [(Str.ofString "octet")],
 [(Str.ofString "octets"), (Str.ofString "at"), (Str.ofString "lead"), (Str.ofString "follow"), (Str.ofString "code"), (Str.ofString "least"), (Str.ofString "place")],
 [(Str.ofString "octets"), (Str.ofString "signs"), (Str.ofString "at"), (Str.ofString "lead"), (Str.ofString "code")],
 [(Str.ofString "text"), (Str.ofString "signs"), (Str.ofString "sign")],
 [(Str.ofString "v")],
 [(Str.ofString "n")],
 [(Str.ofString "text"), (Str.ofString "collation"), (Str.ofString "end")],
 [(Str.ofString "n"), (Str.ofString "rest"), (Str.ofString "found"), (Str.ofString "turn")],
 [(Str.ofString "octets"), (Str.ofString "at"), (Str.ofString "number"), (Str.ofString "turn"), (Str.ofString "octet")],
 [(Str.ofString "n"), (Str.ofString "size"), (Str.ofString "rest"), (Str.ofString "found"), (Str.ofString "turn")],
 [(Str.ofString "octets"), (Str.ofString "at"), (Str.ofString "size"), (Str.ofString "number"), (Str.ofString "place")],
 [(Str.ofString "n"), (Str.ofString "kind"), (Str.ofString "half")],
 [(Str.ofString "v"), (Str.ofString "kind")],
 [(Str.ofString "t")],
 [(Str.ofString "v"), (Str.ofString "kind")],
 [(Str.ofString "octets"), (Str.ofString "at"), (Str.ofString "kind"), (Str.ofString "size"), (Str.ofString "body")],
 [(Str.ofString "many"), (Str.ofString "own")],
 [(Str.ofString "values"), (Str.ofString "types"), (Str.ofString "bodies"), (Str.ofString "v"), (Str.ofString "kind")],
 [(Str.ofString "octets"), (Str.ofString "end"), (Str.ofString "at"), (Str.ofString "types"), (Str.ofString "kind")],
 [(Str.ofString "octets"), (Str.ofString "types"), (Str.ofString "at"), (Str.ofString "values"), (Str.ofString "kind")],
 [(Str.ofString "octets"), (Str.ofString "i"), (Str.ofString "end"), (Str.ofString "place"), (Str.ofString "at"), (Str.ofString "column"), (Str.ofString "kind")],
 [(Str.ofString "self"), (Str.ofString "collations"), (Str.ofString "descending")],
 [(Str.ofString "self")],
 [(Str.ofString "self"), (Str.ofString "place")],
 [(Str.ofString "self"), (Str.ofString "place")],
 [(Str.ofString "octets"), (Str.ofString "found"), (Str.ofString "octet")],
 [(Str.ofString "v"), (Str.ofString "collation"), (Str.ofString "kind"), (Str.ofString "found")],
 [(Str.ofString "values"), (Str.ofString "info"), (Str.ofString "found"), (Str.ofString "place"), (Str.ofString "part"), (Str.ofString "octet")],
 [(Str.ofString "left"), (Str.ofString "right"), (Str.ofString "found"), (Str.ofString "at"), (Str.ofString "to")],
 [(Str.ofString "rows"), (Str.ofString "runs"), (Str.ofString "paired"), (Str.ofString "index")],
 [(Str.ofString "self"), (Str.ofString "info"), (Str.ofString "run_size")],
 [(Str.ofString "self")],
 [(Str.ofString "self"), (Str.ofString "record"), (Str.ofString "values"), (Str.ofString "key")],
 [(Str.ofString "self")],
 [(Str.ofString "self")],
 [(Str.ofString "self")],
 [(Str.ofString "self")],
 [(Str.ofString "self")],
 [(Str.ofString "self"), (Str.ofString "index")],
 [(Str.ofString "script"), (Str.ofString "k"), (Str.ofString "cell"), (Str.ofString "big"), (Str.ofString "mixed")],
 [(Str.ofString "source"), (Str.ofString "top"), (Str.ofString "drawn")],
 [(Str.ofString "source"), (Str.ofString "things")],
 [(Str.ofString "source"), (Str.ofString "way")],
 [(Str.ofString "value")],
 [(Str.ofString "text"), (Str.ofString "collation"), (Str.ofString "lowered"), (Str.ofString "sign")],
 [(Str.ofString "one"), (Str.ofString "other"), (Str.ofString "collation"), (Str.ofString "first"), (Str.ofString "second")],
 [(Str.ofString "one"), (Str.ofString "other"), (Str.ofString "collations"), (Str.ofString "descending"), (Str.ofString "k"), (Str.ofString "sign")],
 [(Str.ofString "rows"), (Str.ofString "collations"), (Str.ofString "descending"), (Str.ofString "placed"), (Str.ofString "row"), (Str.ofString "at")],
 [(Str.ofString "sorter"), (Str.ofString "told"), (Str.ofString "going")],
 [(Str.ofString "sorter"), (Str.ofString "rows"), (Str.ofString "going"), (Str.ofString "row"), (Str.ofString "k")],
 [(Str.ofString "script"), (Str.ofString "source"), (Str.ofString "many"), (Str.ofString "collations"), (Str.ofString "descending"), (Str.ofString "info"), (Str.ofString "sorter"), (Str.ofString "rows"), (Str.ofString "turn"), (Str.ofString "row"), (Str.ofString "placed"), (Str.ofString "due")]]
noncomputable def namesT (f : Nat) : List Str := (namesL[f]?).getD []
end Mine
end
section
open PySem PySem.W PyProof.Rows
namespace Mine
inductive Own where
 | loc | cel | lab (k : Nat) | dict (k : Nat) | brw (k : Nat) | fr | froz
 deriving DecidableEq
theorem ne_idx {a b : Own} (h : (a.ctorIdx == b.ctorIdx) = false) : a ≠ b := fun e => by rw [e, beq_self_eq_true] at h; cases h
noncomputable def Own.num (a : Own) : Nat := match a with | .lab k => k | .dict k => k | .brw k => k | _ => 0
theorem own_ne {a b : Own} (h : a.num ≠ b.num) : a ≠ b := fun e => h (e ▸ rfl)
noncomputable abbrev Tab := Addr → Option (Own × Obj)
namespace Tab
noncomputable def In (T : Tab) (h : Heap) : Prop := ∀ a w o, T a = some (w, o) → h.get? a = some o
noncomputable def set (T : Tab) (a : Addr) (x : Option (Own × Obj)) : Tab := fun b => if b = a then x else T b
theorem set_self (T : Tab) (a : Addr) (x) : T.set a x a = x := by simp [set]
theorem set_ne (T : Tab) {a b : Addr} (x) (h : b ≠ a) : T.set a x b = T b := by simp [set, h]
theorem fresh {T : Tab} {h : Heap} (H : T.In h) : T h.objs.size = none := by
 cases e : T h.objs.size with
 | none => rfl
 | some p => exact absurd (Heap.lt_size (H _ _ _ e)) (Nat.lt_irrefl _)
theorem In.keep {T : Tab} {h h' : Heap} (H : T.In h) (k : ∀ a w o, T a = some (w, o) → h.get? a = some o → h'.get? a = some o) : T.In h' := fun a w o e => k a w o e (H a w o e)
theorem In.set {T : Tab} {h h' : Heap} {a : Addr} {w : Own} {o : Obj} (H : T.In h) (ho : h'.get? a = some o) (k : ∀ b o', b ≠ a → h.get? b = some o' → h'.get? b = some o') : (T.set a (some (w, o))).In h' := by
 intro b w' o' e
 by_cases hb : b = a
 ·subst hb; rw [set_self] at e; obtain ⟨rfl, rfl⟩ := Prod.mk.inj (Option.some.inj e); exact ho
 ·rw [set_ne _ _ hb] at e; exact k b o' hb (H _ _ _ e)
theorem In.drop {T : Tab} {h : Heap} {a : Addr} (H : T.In h) : (T.set a none).In h := by
 intro b w' o' e
 by_cases hb : b = a
 ·subst hb; rw [set_self] at e; exact no e
 ·rw [set_ne _ _ hb] at e; exact H _ _ _ e
theorem In.push {T : Tab} {h : Heap} {w : Own} {o : Obj} (H : T.In h) (hf : o.isFreed = false) : (T.set h.objs.size (some (w, o))).In (h.push o) :=
 H.set (Heap.get?_push_size _ hf) fun b o' _ e => Heap.get?_push_of_some _ e
end Tab
noncomputable def LObj (o : Obj) (vs : List Value) : Prop := ∃ n, o = { cls := .type "list", dict := none, data := .seq ⟨vs⟩ n, slots := #[] }
noncomputable def TObj (o : Obj) (vs : List Value) : Prop := ∃ n, o = { cls := .type "tuple", dict := none, data := .seq ⟨vs⟩ n, slots := #[] }
noncomputable def BObj (o : Obj) (b : List UInt8) : Prop := o = { cls := .type "bytearray", dict := none, data := .bytearray ⟨b⟩ 0, slots := #[] }
noncomputable def IObj (o : Obj) (c dx : Addr) : Prop := o = instObj c dx
noncomputable def RObj (o : Obj) (a b c : Int) : Prop := ∃ t u v, o = { cls := .type "range", dict := none, data := .fields #[.int a t, .int b u, .int c v], slots := #[] }
noncomputable def NsO (o : Obj) (m : Str → Option Value) : Prop := ∃ es ep, o.data = .dict es ep ∧ StrKeys es ∧ ∀ name, nsFind es name = m name
theorem ns_of {h : Heap} {a : Addr} {o : Obj} {m} (e : h.get? a = some o) (N : NsO o m) : h.Ns a m := let ⟨es, ep, r⟩ := N; ⟨o, es, ep, e, r⟩
theorem of_ns {h : Heap} {a : Addr} {m} (N : h.Ns a m) : ∃ o, h.get? a = some o ∧ NsO o m := let ⟨o, es, ep, e, r⟩ := N; ⟨o, e, es, ep, r⟩
mutual
noncomputable def VRel (T : Tab) : FV → Value → Prop
 | .none, v => v = .none
 | .bool b, v => v = .bool b
 | .int i, v => ∃ t, v = .int i t
 | .str x, v => ∃ t, v = .str x t
 | .bytes b, v => ∃ t, v = .bytes ⟨b⟩ t
 | .barr b, v => ∃ a o, v = .ref a ∧ T a = some (.froz, o) ∧ BObj o b
 | .tup l, v => ∃ a o vs, v = .ref a ∧ T a = some (.froz, o) ∧ TObj o vs ∧ VRels T l vs
 | .list l, v => ∃ a o vs, v = .ref a ∧ T a = some (.froz, o) ∧ LObj o vs ∧ VRels T l vs
 | .rng a b c, v => ∃ r o, v = .ref r ∧ T r = some (.froz, o) ∧ RObj o a b c
 | .inst c ns fs, v => ∃ a o dx es n, v = .ref a ∧ T a = some (.froz, o) ∧ IObj o c dx ∧ T dx = some (.froz, dictOf es n) ∧ ERels T fs ns es
noncomputable def VRels (T : Tab) : List FV → List Value → Prop
 | [], vs => vs = []
 | x :: l, vs => ∃ v r, vs = v :: r ∧ VRel T x v ∧ VRels T l r
noncomputable def ERels (T : Tab) : List FV → List Str → List DictEntry → Prop
 | [], ns, es => ns = [] ∧ es = []
 | x :: l, ns, es => ∃ n ns' e es', ns = n :: ns' ∧ es = e :: es' ∧ (∃ t, e.key = .str n t) ∧ VRel T x e.val ∧ ERels T l ns' es'
end
noncomputable def PRel (T : Tab) : PV → Value → Prop
 | .f x, v => VRel T x v
 | .o k, v => ∃ a o, v = .ref a ∧ (T a = some (.lab k, o) ∨ T a = some (.brw k, o))
noncomputable def PERels (T : Tab) : List PV → List Str → List DictEntry → Prop
 | [], ns, es => ns = [] ∧ es = []
 | x :: l, ns, es => ∃ n ns' e es', ns = n :: ns' ∧ es = e :: es' ∧ (∃ t, e.key = .str n t) ∧ PRel T x e.val ∧ PERels T l ns' es'
noncomputable def DRel (T : Tab) : FV → Value → Prop
 | .list l, v => ∃ a w o vs, v = .ref a ∧ T a = some (w, o) ∧ LObj o vs ∧ VRels T l vs
 | .barr b, v => ∃ a w o, v = .ref a ∧ T a = some (w, o) ∧ BObj o b
 | x, v => VRel T x v
noncomputable def ORel (T : Tab) (k : Nat) : AO → Obj → Prop
 | .list l, o => ∃ vs, LObj o vs ∧ VRels T l vs
 | .barr b, o => BObj o b
 | .inst c ns vs, o => ∃ dx es n, IObj o c dx ∧ T dx = some (.dict k, dictOf es n) ∧ PERels T vs ns es ∧ ns.Nodup
noncomputable def FMono (T T' : Tab) : Prop := ∀ a o, T a = some (.froz, o) → T' a = some (.froz, o)
noncomputable def LMono (T T' : Tab) : Prop := ∀ a k o, (T a = some (.lab k, o) ∨ T a = some (.brw k, o)) → ∃ o', T' a = some (.lab k, o') ∨ T' a = some (.brw k, o')
theorem VRel.mono {T T' : Tab} (H : FMono T T') {x : FV} : ∀ {v : Value}, VRel T x v → VRel T' x v :=
 FV.rec (motive_1 := fun x => ∀ {v}, VRel T x v → VRel T' x v) (motive_2 := fun l => (∀ {vs}, VRels T l vs → VRels T' l vs) ∧ ∀ {ns es}, ERels T l ns es → ERels T' l ns es)
  id (fun _ => id) (fun _ => id) (fun _ => id) (fun _ => id)
  (fun _ {v} h => by obtain ⟨a, o, e, t, r⟩ := h; exact ⟨a, o, e, H _ _ t, r⟩)
  (fun l ih {v} h => by obtain ⟨a, o, vs, e, t, r, q⟩ := h; exact ⟨a, o, vs, e, H _ _ t, r, ih.1 q⟩)
  (fun l ih {v} h => by obtain ⟨a, o, vs, e, t, r, q⟩ := h; exact ⟨a, o, vs, e, H _ _ t, r, ih.1 q⟩)
  (fun _ _ _ {v} h => by obtain ⟨a, o, e, t, r⟩ := h; exact ⟨a, o, e, H _ _ t, r⟩)
  (fun _ _ l ih {v} h => by obtain ⟨a, o, dx, es, n, e, t, r, t', q⟩ := h; exact ⟨a, o, dx, es, n, e, H _ _ t, r, H _ _ t', ih.2 q⟩)
  ⟨id, id⟩
  (fun _ _ hx hl => ⟨fun {vs} h => by obtain ⟨v, r, e, p, q⟩ := h; exact ⟨v, r, e, hx p, hl.1 q⟩, fun {ns es} h => by obtain ⟨n, ns', e, es', a, b, c, p, q⟩ := h; exact ⟨n, ns', e, es', a, b, c, hx p, hl.2 q⟩⟩) x
theorem VRels.mono {T T' : Tab} (H : FMono T T') {l : List FV} : ∀ {vs : List Value}, VRels T l vs → VRels T' l vs := by
 induction l with
 | nil => exact id
 | cons x l ih => intro vs h; obtain ⟨v, r, e, p, q⟩ := h; exact ⟨v, r, e, p.mono H, ih q⟩
theorem PRel.mono {T T' : Tab} (H : FMono T T') (L : LMono T T') {x : PV} {v : Value} (h : PRel T x v) : PRel T' x v := by
 induction x with
 | f _ => exact VRel.mono H h
 | o k => obtain ⟨a, o, e, t⟩ := h; exact (L a k o t).elim fun o' t' => ⟨a, o', e, t'⟩
theorem PERels.mono {T T' : Tab} (H : FMono T T') (L : LMono T T') {l : List PV} : ∀ {ns : List Str} {es : List DictEntry}, PERels T l ns es → PERels T' l ns es := by
 induction l with
 | nil => exact id
 | cons x l ih => intro ns es h; obtain ⟨n, ns', e, es', a, b, c, p, q⟩ := h; exact ⟨n, ns', e, es', a, b, c, p.mono H L, ih q⟩
theorem VRels.len {T : Tab} {l : List FV} : ∀ {vs : List Value}, VRels T l vs → vs.length = l.length := by
 induction l with
 | nil => intro vs h; rw [show vs = [] from h]; rfl
 | cons x l ih => intro vs h; obtain ⟨v, r, rfl, _, q⟩ := h; exact congrArg (· + 1) (ih q)
theorem VRels.get {T : Tab} {l : List FV} : ∀ {vs : List Value}, VRels T l vs → ∀ {i : Nat} {x : FV}, l[i]? = some x → ∃ v, vs[i]? = some v ∧ VRel T x v := by
 induction l with
 | nil => intro vs _ i x e; rw [List.getElem?_nil] at e; exact no e
 | cons y l ih =>
  intro vs h i x e
  obtain ⟨v, r, rfl, p, q⟩ := h
  induction i using Nat.casesOn with
  | zero => obtain rfl := Option.some.inj e; exact ⟨v, rfl, p⟩
  | succ i => rw [List.getElem?_cons_succ] at e ⊢; exact ih q e
theorem VRels.append {T : Tab} {l m : List FV} {us : List Value} : ∀ {vs : List Value}, VRels T l vs → VRels T m us → VRels T (l ++ m) (vs ++ us) := by
 induction l with
 | nil => intro vs h k; rw [show vs = [] from h]; exact k
 | cons x l ih => intro vs h k; obtain ⟨v, r, rfl, p, q⟩ := h; exact ⟨v, r ++ us, rfl, p, ih q k⟩
theorem VRels.one {T : Tab} {x : FV} {v : Value} (h : VRel T x v) : VRels T [x] [v] := ⟨v, [], rfl, h, rfl⟩
theorem VRels.drop {T : Tab} {l : List FV} : ∀ {vs : List Value} (n : Nat), VRels T l vs → VRels T (l.drop n) (vs.drop n) := by
 induction l with
 | nil => intro vs n h; rw [show vs = [] from h, List.drop_nil, List.drop_nil]; rfl
 | cons x l ih => intro vs n h; induction n using Nat.casesOn with
  | zero => exact h
  | succ n => obtain ⟨v, r, rfl, p, q⟩ := h; exact ih n q
theorem VRels.take {T : Tab} {l : List FV} : ∀ {vs : List Value} (n : Nat), VRels T l vs → VRels T (l.take n) (vs.take n) := by
 induction l with
 | nil => intro vs n h; rw [show vs = [] from h, List.take_nil, List.take_nil]; rfl
 | cons x l ih => intro vs n h; induction n using Nat.casesOn with
  | zero => exact rfl
  | succ n => obtain ⟨v, r, rfl, p, q⟩ := h; exact ⟨v, _, rfl, p, ih n q⟩
theorem VRels.reverse {T : Tab} {l : List FV} : ∀ {vs : List Value}, VRels T l vs → VRels T l.reverse vs.reverse := by
 induction l with
 | nil => intro vs h; rw [show vs = [] from h]; exact rfl
 | cons x l ih => intro vs h; obtain ⟨v, r, rfl, p, q⟩ := h; rw [List.reverse_cons, List.reverse_cons]; exact (ih q).append (.one p)
theorem VRels.set {T : Tab} {x : FV} {v : Value} (h : VRel T x v) {l : List FV} : ∀ {vs : List Value} (n : Nat), VRels T l vs → VRels T (l.set n x) (vs.set n v) := by
 induction l with
 | nil => intro vs n k; rw [show vs = [] from k]; exact rfl
 | cons y l ih => intro vs n k; obtain ⟨u, r, rfl, p, q⟩ := k; induction n using Nat.casesOn with
  | zero => exact ⟨v, r, rfl, h, q⟩
  | succ n => exact ⟨u, _, rfl, p, ih n q⟩
structure Cx where
 L : Addr
 names : List (Str × Option Addr)
structure LocRel (cx : Cx) (T : Tab) (loc : List (Option PV)) : Prop where
 ns : ∃ o m, T cx.L = some (.loc, o) ∧ NsO o m ∧ ∀ (i : Nat) x pv, cx.names[i]? = some (x, none) → loc[i]? = some (some pv) → ∃ v, m x = some v ∧ PRel T pv v
 cel : ∀ (i : Nat) x c, cx.names[i]? = some (x, some c) → ∃ oc cv, T c = some (.cel, oc) ∧ oc.data = .cell cv ∧ ∀ pv, loc[i]? = some (some pv) → ∃ v, cv = some v ∧ PRel T pv v
structure Cx.Ok (cx : Cx) : Prop where
 one : ∀ (i j : Nat) x c d, cx.names[i]? = some (x, c) → cx.names[j]? = some (x, d) → i = j
 cell : ∀ (i j : Nat) x y c, cx.names[i]? = some (x, some c) → cx.names[j]? = some (y, some c) → i = j
structure StRel (h₀ : Heap) (cx : Cx) (T : Tab) (σ : St) : Prop where
 base : ∀ a o, h₀.get? a = some o → T a = some (.froz, o)
 loc : LocRel cx T σ.loc
 locU : ∀ a o, T a = some (.loc, o) → a = cx.L
 celU : ∀ a o, T a = some (.cel, o) → ∃ (i : Nat) (x : Str), cx.names[i]? = some (x, some a)
 led : ∀ k ao, σ.look k = some ao → ∃ a o, T a = some (.lab k, o) ∧ ORel T k ao o
 labU : ∀ k a b o o', T a = some (.lab k, o) → T b = some (.lab k, o') → a = b
 dictU : ∀ k a b o o', T a = some (.dict k, o) → T b = some (.dict k, o') → a = b
 brwU : ∀ k a b o o', T a = some (.brw k, o) → T b = some (.brw k, o') → a = b
 live : ∀ k a o, T a = some (.lab k, o) → ∃ ao, σ.look k = some ao
 dead : ∀ k a o, T a = some (.brw k, o) → k ∈ σ.lent
 lentD : ∀ k, k ∈ σ.lent → σ.look k = none
 dicL : ∀ k a o, T a = some (.dict k, o) → ∃ c ns vs, σ.look k = some (.inst c ns vs)
structure TLe (T T' : Tab) : Prop where
 froz : FMono T T'
 fr : ∀ a o, T a = some (.fr, o) ↔ T' a = some (.fr, o)
 brw : ∀ a k o, T a = some (.brw k, o) ↔ T' a = some (.brw k, o)
theorem TLe.refl (T : Tab) : TLe T T := ⟨fun _ _ e => e, fun _ _ => .rfl, fun _ _ _ => .rfl⟩
theorem TLe.trans {T T' T'' : Tab} (a : TLe T T') (b : TLe T' T'') : TLe T T'' := ⟨fun x o e => b.froz x o (a.froz x o e), fun x o => (a.fr x o).trans (b.fr x o), fun x k o => (a.brw x k o).trans (b.brw x k o)⟩
noncomputable def LKeep (chg chg' : List Nat) (T T' : Tab) : Prop := ∃ new, chg' = new ++ chg ∧ ∀ k a o, k ∉ new → T a = some (.lab k, o) → ∃ o', T' a = some (.lab k, o')
theorem LKeep.refl (c : List Nat) (T : Tab) : LKeep c c T T := ⟨[], rfl, fun _ _ o _ e => ⟨o, e⟩⟩
theorem LKeep.same {c : List Nat} {T T' : Tab} (h : ∀ k a o, T a = some (.lab k, o) → ∃ o', T' a = some (.lab k, o')) : LKeep c c T T' := ⟨[], rfl, fun k a o _ e => h k a o e⟩
theorem LKeep.trans {c c' c'' : List Nat} {T T' T'' : Tab} (x : LKeep c c' T T') (y : LKeep c' c'' T' T'') : LKeep c c'' T T'' := by
 obtain ⟨n, rfl, hx⟩ := x
 obtain ⟨m, rfl, hy⟩ := y
 refine ⟨m ++ n, by simp, fun k a o hk e => ?_⟩
 simp only [List.mem_append, not_or] at hk
 obtain ⟨o', e'⟩ := hx k a o hk.2 e
 exact hy k a o' hk.1 e'
theorem PRel.held {T T' : Tab} {st st' : St} {x : PV} {v : Value} (L : TLe T T') (K : LKeep st.chg st'.chg T T') (h : PRel T x v) (hh : held st st' x = true) : PRel T' x v := by
 induction x with
 | f y => exact VRel.mono L.froz h
 | o k =>
  obtain ⟨a, o, e, t⟩ := h
  rcases t with t | t
  ·obtain ⟨n, hc, hk⟩ := K
   have : k ∉ n := by
    unfold Mine.held at hh
    rw [hc] at hh
    simpa using hh
   obtain ⟨o', t'⟩ := hk k a o this t
   exact ⟨a, o', e, .inl t'⟩
  ·exact ⟨a, o, e, .inr ((L.brw a k o).mp t)⟩
theorem lk {β : Type} (j : Nat) (p : Nat × β) (r : List (Nat × β)) : (p :: r).lookup j = if j = p.1 then some p.2 else r.lookup j := by
 rw [show p = (p.1, p.2) from rfl, List.lookup_cons]
 by_cases h : j = p.1
 ·rw [if_pos h, beq_iff_eq.mpr h]
 ·rw [if_neg h, beq_false_of_ne h]
theorem lookup_putL (k : Nat) (o : AO) (j : Nat) (l : Led) : (putL k o l).lookup j = if j = k then some o else l.lookup j := by
 induction l with
 | nil => exact lk j (k, o) []
 | cons p r ih =>
  show List.lookup j (if k < p.1 then (k, o) :: p :: r else if k = p.1 then (k, o) :: r else p :: putL k o r) = _
  by_cases h1 : k < p.1
  ·rw [if_pos h1]; exact lk j (k, o) _
  rw [if_neg h1]
  by_cases h2 : k = p.1
  ·rw [if_pos h2, lk, lk]
   by_cases h : j = k
   ·rw [if_pos h, if_pos h]
   ·rw [if_neg h, if_neg h, if_neg (h2 ▸ h)]
  ·rw [if_neg h2, lk, lk, ih]
   by_cases h : j = p.1
   ·rw [if_pos h, if_pos h, if_neg fun e => h2 (e.symm.trans h)]
   ·rw [if_neg h, if_neg h]
theorem St.look_put (σ : St) (k : Nat) (o : AO) (j : Nat) : (σ.put k o).look j = if j = k then some o else σ.look j := lookup_putL k o j σ.led
theorem lookup_filter (f : Nat → Bool) (k : Nat) (l : Led) : (l.filter fun p => f p.1).lookup k = if f k then l.lookup k else none := by
 induction l with
 | nil => exact (ite_self _).symm
 | cons p r ih =>
  rw [List.filter_cons]
  by_cases h : f p.1 = true
  ·rw [if_pos h, lk, lk, ih]
   by_cases e : k = p.1
   ·rw [if_pos e, if_pos (e ▸ h), if_pos e]
   ·rw [if_neg e, if_neg e]
  ·rw [if_neg h, ih, lk]
   by_cases e : k = p.1
   ·rw [if_neg (e ▸ h), if_neg (e ▸ h)]
   ·rw [if_neg e]
theorem lookup_filter_ne (k j : Nat) (l : Led) : (l.filter fun p => p.1 != k).lookup j = if j = k then none else l.lookup j := by
 rw [lookup_filter (fun q => q != k)]
 by_cases h : j = k
 ·rw [if_pos h, if_neg (by rw [h, bne_self_eq_false]; exact Bool.false_ne_true)]
 ·rw [if_neg h, if_pos (bne_iff_ne.mpr h)]
noncomputable def Ext (T T' : Tab) : Prop := ∀ a w o, T a = some (w, o) → T' a = some (w, o)
theorem Ext.f {T T' : Tab} (E : Ext T T') : FMono T T' := fun a o e => E _ _ _ e
theorem Ext.l {T T' : Tab} (E : Ext T T') : LMono T T' := fun a k o e => ⟨o, e.imp (E _ _ _) (E _ _ _)⟩
theorem ext_set {T : Tab} {a : Addr} {x} (h : T a = none) : Ext T (T.set a x) := fun b w o e => by
 rw [Tab.set_ne]; exact e
 rintro rfl; rw [h] at e; exact no e
noncomputable def nFroz : Own → Bool
 | .froz => false
 | _ => true
noncomputable def nLab (k : Nat) : Own → Bool
 | .lab j => j != k
 | _ => true
noncomputable def nDict (k : Nat) : Own → Bool
 | .dict j => j != k
 | _ => true
noncomputable def nLoc : Own → Bool
 | .loc => false
 | _ => true
noncomputable def nCel : Own → Bool
 | .cel => false
 | _ => true
structure Mv (q : Own → Bool) (T T' : Tab) : Prop where
 fwd : ∀ {b w o}, T b = some (w, o) → q w = true → T' b = some (w, o)
 back : ∀ {b w o}, T' b = some (w, o) → q w = true → T b = some (w, o)
theorem Mv.set {q : Own → Bool} {T : Tab} {a : Addr} {W : Own} {o' : Obj} (ht : T a = none ∨ ∃ o, T a = some (W, o)) (hq : q W = false) : Mv q T (T.set a (some (W, o'))) where
 fwd := fun {b w o} e h => by
  by_cases hb : b = a
  ·rw [hb] at e
   rcases ht with t | ⟨o₁, t⟩
   ·rw [t] at e; exact no e
   ·rw [show w = W from (congrArg Prod.fst (Option.some.inj (t.symm.trans e))).symm, hq] at h; exact nob h
  ·rw [Tab.set_ne _ _ hb]; exact e
 back := fun {b w o} e h => by
  by_cases hb : b = a
  ·rw [hb, Tab.set_self] at e
   rw [show w = W from (congrArg Prod.fst (Option.some.inj e)).symm, hq] at h; exact nob h
  ·rw [Tab.set_ne _ _ hb] at e; exact e
theorem LocRel.mono {cx : Cx} {T T' : Tab} {loc : List (Option PV)} (F : FMono T T') (L : LMono T T') (hL : ∀ o, T cx.L = some (.loc, o) → T' cx.L = some (.loc, o)) (hc : ∀ c o, T c = some (.cel, o) → T' c = some (.cel, o))
  (R : LocRel cx T loc) : LocRel cx T' loc where
 ns := let ⟨o, m, e, N, k⟩ := R.ns; ⟨o, m, hL o e, N, fun i x pv a b => let ⟨v, p, q⟩ := k i x pv a b; ⟨v, p, q.mono F L⟩⟩
 cel := fun i x c e => let ⟨oc, cv, a, b, k⟩ := R.cel i x c e; ⟨oc, cv, hc c oc a, b, fun pv q => let ⟨v, r, s⟩ := k pv q; ⟨v, r, s.mono F L⟩⟩
theorem ORel.mono {T T' : Tab} {k : Nat} {ao : AO} {o : Obj} (F : FMono T T') (L : LMono T T') (hd : ∀ a od, T a = some (.dict k, od) → T' a = some (.dict k, od)) (R : ORel T k ao o) : ORel T' k ao o := by
 induction ao with
 | list l => exact ⟨_, R.choose_spec.1, R.choose_spec.2.mono F⟩
 | barr b => exact R
 | inst c ns vs => obtain ⟨dx, es, n, a, b, d, e⟩ := R; exact ⟨dx, es, n, a, hd _ _ b, d.mono F L, e⟩
structure Nx (T T' : Tab) (σ σ' : St) : Prop where
 le : TLe T T'
 keep : LKeep σ.chg σ'.chg T T'
 lent : σ'.lent = σ.lent
theorem Nx.refl (T : Tab) (σ : St) : Nx T T σ σ := ⟨.refl T, .refl _ T, rfl⟩
theorem Nx.trans {T T' T'' : Tab} {a b c : St} (x : Nx T T' a b) (y : Nx T' T'' b c) : Nx T T'' a c := ⟨x.le.trans y.le, x.keep.trans y.keep, y.lent.trans x.lent⟩
theorem Nx.held {T T' : Tab} {σ σ' : St} {x : PV} {v : Value} (N : Nx T T' σ σ') (h : PRel T x v) (hh : Mine.held σ σ' x = true) : PRel T' x v := h.held N.le N.keep hh
section
variable {h₀ : Heap} {cx : Cx} {T : Tab} {σ : St}
theorem FMono.base {T' : Tab} (F : FMono T T') (S : StRel h₀ cx T σ) : ∀ a o, h₀.get? a = some o → T' a = some (.froz, o) := fun a o e => F _ _ (S.base a o e)
namespace Mv
variable {q : Own → Bool} {T' : Tab} (M : Mv q T T') (S : StRel h₀ cx T σ)
include M
theorem le (F : FMono T T') (h : q .fr = true) (h' : ∀ k, q (.brw k) = true) : TLe T T' := ⟨F, fun _ _ => ⟨fun e => M.fwd e h, fun e => M.back e h⟩, fun _ k _ => ⟨fun e => M.fwd e (h' k), fun e => M.back e (h' k)⟩⟩
include S
theorem loc (F : FMono T T') (L : LMono T T') (h : q .loc = true) (h' : q .cel = true) : LocRel cx T' σ.loc := S.loc.mono F L (fun _ e => M.fwd e h) (fun _ _ e => M.fwd e h')
theorem locU (h : q .loc = true) : ∀ a o, T' a = some (.loc, o) → a = cx.L := fun a o e => S.locU a o (M.back e h)
theorem celU (h : q .cel = true) : ∀ a o, T' a = some (.cel, o) → ∃ (i : Nat) (x : Str), cx.names[i]? = some (x, some a) := fun a o e => S.celU a o (M.back e h)
theorem led (F : FMono T T') (L : LMono T T') (h : ∀ k, q (.dict k) = true) {k : Nat} (h' : q (.lab k) = true) {ao : AO} (e : σ.look k = some ao) : ∃ a o, T' a = some (.lab k, o) ∧ ORel T' k ao o := (S.led k ao e).elim fun a t => t.elim fun o t => ⟨a, o, M.fwd t.1 h', t.2.mono F L fun _ _ e => M.fwd e (h k)⟩
theorem labU (h : ∀ k, q (.lab k) = true) : ∀ k a b o o', T' a = some (.lab k, o) → T' b = some (.lab k, o') → a = b := fun k a b o o' e e' => S.labU k a b o o' (M.back e (h k)) (M.back e' (h k))
theorem dictU (h : ∀ k, q (.dict k) = true) : ∀ k a b o o', T' a = some (.dict k, o) → T' b = some (.dict k, o') → a = b := fun k a b o o' e e' => S.dictU k a b o o' (M.back e (h k)) (M.back e' (h k))
theorem brwU (h : ∀ k, q (.brw k) = true) : ∀ k a b o o', T' a = some (.brw k, o) → T' b = some (.brw k, o') → a = b := fun k a b o o' e e' => S.brwU k a b o o' (M.back e (h k)) (M.back e' (h k))
theorem live (h : ∀ k, q (.lab k) = true) : ∀ k a o, T' a = some (.lab k, o) → ∃ ao, σ.look k = some ao := fun k a o e => S.live k a o (M.back e (h k))
theorem dead (h : ∀ k, q (.brw k) = true) : ∀ k a o, T' a = some (.brw k, o) → k ∈ σ.lent := fun k a o e => S.dead k a o (M.back e (h k))
theorem dicL (h : ∀ k, q (.dict k) = true) : ∀ k a o, T' a = some (.dict k, o) → ∃ c ns vs, σ.look k = some (.inst c ns vs) := fun k a o e => S.dicL k a o (M.back e (h k))
end Mv
theorem StRel.made (S : StRel h₀ cx T σ) {a : Addr} {o : Obj} (hn : T a = none) : StRel h₀ cx (T.set a (some (.froz, o))) σ ∧ Nx T (T.set a (some (.froz, o))) σ σ := by
 have E : Ext T (T.set a (some (.froz, o))) := ext_set hn
 have M : Mv nFroz T (T.set a (some (.froz, o))) := .set (.inl hn) rfl
 refine ⟨⟨E.f.base S, (M.loc S E.f E.l rfl rfl :), M.locU S rfl, M.celU S rfl,
  fun k ao e => M.led S E.f E.l (fun _ => rfl) rfl e,
  M.labU S fun _ => rfl, M.dictU S fun _ => rfl,
  M.brwU S fun _ => rfl, (M.live S fun _ => rfl :), (M.dead S fun _ => rfl :), S.lentD,
  (M.dicL S fun _ => rfl :)⟩, M.le E.f rfl fun _ => rfl, .same fun k b o' e => ⟨o', E _ _ _ e⟩, rfl⟩
theorem StRel.label (S : StRel h₀ cx T σ) {a : Addr} {o : Obj} {k : Nat} {ao : AO} (hn : T a = none) (hk : σ.look k = none) (hl : k ∉ σ.lent) (R : ORel (T.set a (some (.lab k, o))) k ao o) (hi : ∀ c ns vs, ao ≠ .inst c ns vs) :
  StRel h₀ cx (T.set a (some (.lab k, o))) (σ.put k ao) ∧ Nx T (T.set a (some (.lab k, o))) σ (σ.put k ao) := by
 have E : Ext T (T.set a (some (.lab k, o))) := ext_set hn
 have M : Mv (nLab k) T (T.set a (some (.lab k, o))) := .set (.inl hn) (bne_self_eq_false k)
 have only : ∀ b o', (T.set a (some (.lab k, o))) b = some (.lab k, o') → b = a := fun b o' e => by
  by_cases hb : b = a
  ·exact hb
  ·rw [Tab.set_ne _ _ hb] at e
   obtain ⟨ao, q⟩ := S.live k b o' e
   rw [hk] at q; exact no q
 refine ⟨⟨E.f.base S, (M.loc S E.f E.l rfl rfl :), M.locU S rfl, M.celU S rfl,
  fun j aj e => ?_, fun j b d o' o'' e e' => ?_, M.dictU S fun _ => rfl,
  M.brwU S fun _ => rfl, fun j b o' e => ?_, (M.dead S fun _ => rfl :), fun j hj => ?_,
  fun j b o' e => ?_⟩, M.le E.f rfl fun _ => rfl, .same fun k b o' e => ⟨o', E _ _ _ e⟩, rfl⟩
 ·rw [St.look_put] at e
  by_cases hj : j = k
  ·rw [if_pos hj] at e; obtain rfl := Option.some.inj e; subst hj; exact ⟨a, o, Tab.set_self .., R⟩
  ·rw [if_neg hj] at e
   exact M.led S E.f E.l (fun _ => rfl) (bne_iff_ne.mpr hj) e
 ·by_cases hj : j = k
  ·subst hj; rw [only _ _ e, only _ _ e']
  ·exact S.labU j b d _ _ (M.back e (bne_iff_ne.mpr hj)) (M.back e' (bne_iff_ne.mpr hj))
 ·rw [St.look_put]
  by_cases hj : j = k
  ·exact ⟨ao, by rw [if_pos hj]⟩
  ·rw [if_neg hj]; exact S.live j b o' (M.back e (bne_iff_ne.mpr hj))
 ·rw [St.look_put]
  by_cases hj' : j = k
  ·subst hj'; exact absurd hj hl
  ·rw [if_neg hj']; exact S.lentD j hj
 ·rw [St.look_put]
  obtain ⟨c, ns, vs, q⟩ := S.dicL j b o' (M.back e rfl)
  by_cases hj : j = k
  ·subst hj; rw [hk] at q; exact no q
  ·rw [if_neg hj]; exact ⟨c, ns, vs, q⟩
theorem StRel.turn (S : StRel h₀ cx T σ) {a : Addr} {o o' : Obj} {k : Nat} {ao ao' : AO} (ht : T a = some (.lab k, o)) (hk : σ.look k = some ao) (hi : ∀ c ns vs, ao ≠ .inst c ns vs) (R : ORel (T.set a (some (.lab k, o'))) k ao' o') (hi' : ∀ c ns vs, ao' ≠ .inst c ns vs) :
  StRel h₀ cx (T.set a (some (.lab k, o'))) (σ.put k ao') ∧ Nx T (T.set a (some (.lab k, o'))) σ (σ.put k ao') := by
 have M : Mv (nLab k) T (T.set a (some (.lab k, o'))) := .set (.inr ⟨_, ht⟩) (bne_self_eq_false k)
 have only : ∀ b o₁, (T.set a (some (.lab k, o'))) b = some (.lab k, o₁) → b = a := fun b o₁ e => by
  by_cases hb : b = a
  ·exact hb
  ·rw [Tab.set_ne _ _ hb] at e
   exact S.labU k b a _ _ e ht
 have fw : ∀ b j o₁, T b = some (.lab j, o₁) → ∃ o₂, (T.set a (some (.lab k, o'))) b = some (.lab j, o₂) := fun b j o₁ e => by
  by_cases hj : j = k
  ·subst hj
   have := S.labU _ _ _ _ _ e ht
   subst this
   exact ⟨o', Tab.set_self ..⟩
  ·exact ⟨o₁, M.fwd e (bne_iff_ne.mpr hj)⟩
 have F : FMono T (T.set a (some (.lab k, o'))) := fun b o₁ e => M.fwd e rfl
 have L : LMono T (T.set a (some (.lab k, o'))) := fun b j o₁ e => by
  rcases e with e | e
  ·obtain ⟨o₂, q⟩ := fw b j o₁ e; exact ⟨o₂, .inl q⟩
  ·exact ⟨o₁, .inr (M.fwd e rfl)⟩
 refine ⟨⟨F.base S, (M.loc S F L rfl rfl :), M.locU S rfl, M.celU S rfl,
  fun j aj e => ?_, fun j b d o₁ o₂ e e' => ?_, M.dictU S fun _ => rfl,
  M.brwU S fun _ => rfl, fun j b o₁ e => ?_, (M.dead S fun _ => rfl :), fun j hj => ?_,
  fun j b o₁ e => ?_⟩, M.le F rfl fun _ => rfl, .same fun k b o₁ e => fw b k o₁ e, rfl⟩
 ·rw [St.look_put] at e
  by_cases hj : j = k
  ·rw [if_pos hj] at e; obtain rfl := Option.some.inj e; subst hj; exact ⟨a, o', Tab.set_self .., R⟩
  ·rw [if_neg hj] at e
   exact M.led S F L (fun _ => rfl) (bne_iff_ne.mpr hj) e
 ·by_cases hj : j = k
  ·subst hj; rw [only _ _ e, only _ _ e']
  ·exact S.labU j b d _ _ (M.back e (bne_iff_ne.mpr hj)) (M.back e' (bne_iff_ne.mpr hj))
 ·rw [St.look_put]
  by_cases hj : j = k
  ·exact ⟨ao', by rw [if_pos hj]⟩
  ·rw [if_neg hj]; exact S.live j b o₁ (M.back e (bne_iff_ne.mpr hj))
 ·rw [St.look_put]
  have q := S.lentD j hj
  by_cases hj' : j = k
  ·subst hj'; rw [hk] at q; cases q
  ·rw [if_neg hj']; exact q
 ·rw [St.look_put]
  obtain ⟨c, ns, vs, q⟩ := S.dicL j b o₁ (M.back e rfl)
  by_cases hj : j = k
  ·subst hj; rw [hk] at q; obtain rfl := Option.some.inj q; exact absurd rfl (hi _ _ _)
  ·rw [if_neg hj]; exact ⟨c, ns, vs, q⟩
theorem setLoc_get (loc : List (Option PV)) (i j : Nat) (pv qv : PV) (h : (loc.set i (some pv))[j]? = some (some qv)) : (j = i ∧ qv = pv) ∨ (j ≠ i ∧ loc[j]? = some (some qv)) := by
 by_cases e : i = j
 ·subst e
  rw [List.getElem?_set_self'] at h
  cases q : loc[i]? with
  | none => rw [q] at h; simp at h
  | some z => rw [q] at h; simp at h; exact .inl ⟨rfl, h.symm⟩
 ·rw [List.getElem?_set_ne e] at h
  exact .inr ⟨fun x => e x.symm, h⟩
theorem StRel.bindLoc (S : StRel h₀ cx T σ) (C : cx.Ok) {i : Nat} {x : Str} {pv : PV} {v : Value} {o o' : Obj} {m : Str → Option Value} (hi : cx.names[i]? = some (x, none))
  (ho : T cx.L = some (.loc, o)) (hm : ∀ (i : Nat) x pv, cx.names[i]? = some (x, none) → σ.loc[i]? = some (some pv) → ∃ v, m x = some v ∧ PRel T pv v) (N' : NsO o' (fun y => if y = x then some v else m y)) (P : PRel T pv v) :
  StRel h₀ cx (T.set cx.L (some (.loc, o'))) (σ.set i pv) ∧ Nx T (T.set cx.L (some (.loc, o'))) σ (σ.set i pv) := by
 have M : Mv nLoc T (T.set cx.L (some (.loc, o'))) := .set (.inr ⟨_, ho⟩) rfl
 have F : FMono T (T.set cx.L (some (.loc, o'))) := fun b o₁ e => M.fwd e rfl
 have L : LMono T (T.set cx.L (some (.loc, o'))) := fun b j o₁ e => ⟨o₁, e.imp (fun e => M.fwd e rfl) (fun e => M.fwd e rfl)⟩
 refine ⟨⟨F.base S, ⟨⟨o', _, Tab.set_self .., N', fun j y qv a b => ?_⟩, fun j y c e => ?_⟩, fun b o₁ e => ?_, M.celU S rfl,
  fun j aj e => ?_, M.labU S fun _ => rfl, M.dictU S fun _ => rfl,
  M.brwU S fun _ => rfl, (M.live S fun _ => rfl :), (M.dead S fun _ => rfl :), S.lentD,
  (M.dicL S fun _ => rfl :)⟩, M.le F rfl fun _ => rfl, .same fun k b o₁ e => ⟨o₁, M.fwd e rfl⟩, rfl⟩
 ·rcases setLoc_get _ _ _ _ _ b with ⟨rfl, rfl⟩ | ⟨hj, b⟩
  ·rw [hi] at a; cases a; exact ⟨v, by simp, P.mono F L⟩
  ·obtain ⟨u, p, q⟩ := hm j y qv a b
   refine ⟨u, ?_, q.mono F L⟩
   have : y ≠ x := fun e => hj (C.one j i x none none (e ▸ a) hi)
   simp [this, p]
 ·obtain ⟨oc, cv, p, q, r⟩ := S.loc.cel j y c e
  refine ⟨oc, cv, M.fwd p rfl, q, fun qv b => ?_⟩
  rcases setLoc_get _ _ _ _ _ b with ⟨rfl, rfl⟩ | ⟨hj, b⟩
  ·rw [hi] at e; cases e
  ·obtain ⟨u, p, q⟩ := r qv b; exact ⟨u, p, q.mono F L⟩
 ·by_cases hb : b = cx.L
  ·exact hb
  ·rw [Tab.set_ne _ _ hb] at e; exact S.locU b o₁ e
 ·exact M.led S F L (fun _ => rfl) rfl e
theorem StRel.bindCel (S : StRel h₀ cx T σ) (C : cx.Ok) {i : Nat} {x : Str} {pv : PV} {v : Value} {c : Addr} {o o' : Obj} (hi : cx.names[i]? = some (x, some c)) (ho : T c = some (.cel, o)) (hd : o'.data = .cell (some v)) (P : PRel T pv v) :
  StRel h₀ cx (T.set c (some (.cel, o'))) (σ.set i pv) ∧ Nx T (T.set c (some (.cel, o'))) σ (σ.set i pv) := by
 have M : Mv nCel T (T.set c (some (.cel, o'))) := .set (.inr ⟨_, ho⟩) rfl
 have F : FMono T (T.set c (some (.cel, o'))) := fun b o₁ e => M.fwd e rfl
 have L : LMono T (T.set c (some (.cel, o'))) := fun b j o₁ e => ⟨o₁, e.imp (fun e => M.fwd e rfl) (fun e => M.fwd e rfl)⟩
 refine ⟨⟨F.base S, ⟨?_, fun j y d e => ?_⟩, M.locU S rfl, fun b o₁ e => ?_,
  fun j aj e => ?_, M.labU S fun _ => rfl, M.dictU S fun _ => rfl,
  M.brwU S fun _ => rfl, (M.live S fun _ => rfl :), (M.dead S fun _ => rfl :), S.lentD,
  (M.dicL S fun _ => rfl :)⟩, M.le F rfl fun _ => rfl, .same fun k b o₁ e => ⟨o₁, M.fwd e rfl⟩, rfl⟩
 ·obtain ⟨oL, m, p, q, r⟩ := S.loc.ns
  refine ⟨oL, m, M.fwd p rfl, q, fun j y qv a b => ?_⟩
  rcases setLoc_get _ _ _ _ _ b with ⟨rfl, rfl⟩ | ⟨hj, b⟩
  ·rw [hi] at a; cases a
  ·obtain ⟨u, p, q⟩ := r j y qv a b; exact ⟨u, p, q.mono F L⟩
 ·by_cases hdc : d = c
  ·subst hdc
   have := C.cell _ _ _ _ _ e hi
   subst this
   refine ⟨o', some v, Tab.set_self .., hd, fun qv b => ?_⟩
   rcases setLoc_get _ _ _ _ _ b with ⟨_, rfl⟩ | ⟨hj, b⟩
   ·exact ⟨v, rfl, P.mono F L⟩
   ·exact absurd rfl hj
  ·obtain ⟨oc, cv, p, q, r⟩ := S.loc.cel j y d e
   refine ⟨oc, cv, by rw [Tab.set_ne _ _ hdc]; exact p, q, fun qv b => ?_⟩
   rcases setLoc_get _ _ _ _ _ b with ⟨rfl, rfl⟩ | ⟨hj, b⟩
   ·rw [hi] at e; cases e; exact absurd rfl hdc
   ·obtain ⟨u, p, q⟩ := r qv b; exact ⟨u, p, q.mono F L⟩
 ·by_cases hb : b = c
  ·subst hb; exact ⟨i, x, hi⟩
  ·rw [Tab.set_ne _ _ hb] at e; exact S.celU b o₁ e
 ·exact M.led S F L (fun _ => rfl) rfl e
end
section
variable {h₀ : Heap} {cx : Cx} {T : Tab} {σ : St}
theorem StRel.turnDict (S : StRel h₀ cx T σ) {a dx : Addr} {k : Nat} {c : Addr} {ns ns' : List Str} {vs vs' : List PV} {es es' : List DictEntry} {n n' : Nat} (hk : σ.look k = some (.inst c ns vs))
  (ha : T a = some (.lab k, instObj c dx)) (hd : T dx = some (.dict k, dictOf es n)) (R : PERels T vs' ns' es') (hnd : ns'.Nodup) :
  StRel h₀ cx (T.set dx (some (.dict k, dictOf es' n'))) (σ.put k (.inst c ns' vs')) ∧ Nx T (T.set dx (some (.dict k, dictOf es' n'))) σ (σ.put k (.inst c ns' vs')) := by
 have fwd : ∀ b w o₁, T b = some (w, o₁) → w ≠ .dict k → (T.set dx (some (.dict k, dictOf es' n'))) b = some (w, o₁) := fun b w o₁ e hw => by
  by_cases hb : b = dx
  ·subst hb; rw [hd] at e; obtain ⟨rfl, rfl⟩ := Prod.mk.inj (Option.some.inj e); exact absurd rfl hw
  ·rwa [Tab.set_ne _ _ hb]
 have back : ∀ b w o₁, (T.set dx (some (.dict k, dictOf es' n'))) b = some (w, o₁) → w ≠ .dict k → T b = some (w, o₁) := fun b w o₁ e hw => by
  by_cases hb : b = dx
  ·subst hb; rw [Tab.set_self] at e; obtain ⟨rfl, rfl⟩ := Prod.mk.inj (Option.some.inj e); exact absurd rfl hw
  ·rwa [Tab.set_ne _ _ hb] at e
 have only : ∀ b o₁, (T.set dx (some (.dict k, dictOf es' n'))) b = some (.dict k, o₁) → b = dx := fun b o₁ e => by
  by_cases hb : b = dx
  ·exact hb
  ·rw [Tab.set_ne _ _ hb] at e
   exact S.dictU k b dx _ _ e hd
 have F : FMono T (T.set dx (some (.dict k, dictOf es' n'))) := fun b o₁ e => fwd _ _ _ e (ne_idx rfl)
 have L : LMono T (T.set dx (some (.dict k, dictOf es' n'))) := fun b j o₁ e => ⟨o₁, e.imp (fun e => fwd _ _ _ e (ne_idx rfl)) (fun e => fwd _ _ _ e (ne_idx rfl))⟩
 refine ⟨⟨fun b o₁ e => F _ _ (S.base b o₁ e), S.loc.mono F L (fun _ e => fwd _ _ _ e (ne_idx rfl)) (fun _ _ e => fwd _ _ _ e (ne_idx rfl)), fun b o₁ e => S.locU b o₁ (back _ _ _ e (ne_idx rfl)), fun b o₁ e => S.celU b o₁ (back _ _ _ e (ne_idx rfl)),
  fun j aj e => ?_, fun j b d o₁ o₂ e e' => S.labU j b d _ _ (back _ _ _ e (ne_idx rfl)) (back _ _ _ e' (ne_idx rfl)), fun j b d o₁ o₂ e e' => ?_,
  fun j b d o₁ o₂ e e' => S.brwU j b d _ _ (back _ _ _ e (ne_idx rfl)) (back _ _ _ e' (ne_idx rfl)), fun j b o₁ e => ?_, fun j b o₁ e => S.dead j b o₁ (back _ _ _ e (ne_idx rfl)), fun j hj => ?_,
  fun j b o₁ e => ?_⟩, ⟨F, fun b o₁ => ⟨fun e => fwd _ _ _ e (ne_idx rfl), fun e => back _ _ _ e (ne_idx rfl)⟩, fun b k o₁ => ⟨fun e => fwd _ _ _ e (ne_idx rfl), fun e => back _ _ _ e (ne_idx rfl)⟩⟩, .same fun k b o₁ e => ⟨o₁, fwd b _ _ e (by simp)⟩, rfl⟩
 ·rw [St.look_put] at e
  by_cases hj : j = k
  ·rw [if_pos hj] at e; obtain rfl := Option.some.inj e; subst hj; exact ⟨a, _, fwd _ _ _ ha (ne_idx rfl), dx, es', n', rfl, Tab.set_self .., R.mono F L, hnd⟩
  ·rw [if_neg hj] at e
   obtain ⟨b, o₁, x, y⟩ := S.led j aj e
   exact ⟨b, o₁, fwd _ _ _ x (ne_idx rfl), y.mono F L (fun _ _ e => fwd _ _ _ e (own_ne hj))⟩
 ·by_cases hj : j = k
  ·subst hj; rw [only _ _ e, only _ _ e']
  ·exact S.dictU j b d _ _ (back _ _ _ e (own_ne hj)) (back _ _ _ e' (own_ne hj))
 ·rw [St.look_put]
  by_cases hj : j = k
  ·exact ⟨_, by rw [if_pos hj]⟩
  ·rw [if_neg hj]; exact S.live j b o₁ (back _ _ _ e (ne_idx rfl))
 ·rw [St.look_put]
  have q := S.lentD j hj
  by_cases hj' : j = k
  ·subst hj'; rw [hk] at q; cases q
  ·rw [if_neg hj']; exact q
 ·rw [St.look_put]
  by_cases hj : j = k
  ·exact ⟨c, ns', vs', by rw [if_pos hj]⟩
  ·rw [if_neg hj]; exact S.dicL j b o₁ (back _ _ _ e (own_ne hj))
theorem StRel.labelInst (S : StRel h₀ cx T σ) {a dx : Addr} {k : Nat} {c : Addr} (hn : T a = none) (hm : T dx = none) (hne : a ≠ dx) (hk : σ.look k = none) (hl : k ∉ σ.lent) {n : Nat} :
  let T' := (T.set dx (some (.dict k, dictOf [] n))).set a (some (.lab k, instObj c dx))
  StRel h₀ cx T' (σ.put k (.inst c [] [])) ∧ Nx T T' σ (σ.put k (.inst c [] [])) := by
 intro T'
 have E : Ext T T' := fun b w o e => by
  have h1 : b ≠ a := by rintro rfl; rw [hn] at e; exact no e
  have h2 : b ≠ dx := by rintro rfl; rw [hm] at e; exact no e
  show ((T.set dx _).set a _) b = _
  rw [Tab.set_ne _ _ h1, Tab.set_ne _ _ h2]; exact e
 have back : ∀ b w o', T' b = some (w, o') → w ≠ .lab k → w ≠ .dict k → T b = some (w, o') := fun b w o' e hw hw' => by
  by_cases hb : b = a
  ·subst hb
   rw [show T' b = _ from Tab.set_self _ _ _] at e; obtain ⟨rfl, rfl⟩ := Prod.mk.inj (Option.some.inj e); exact absurd rfl hw
  ·by_cases hb2 : b = dx
   ·subst hb2
    rw [show T' b = _ from (Tab.set_ne _ _ hb).trans (Tab.set_self _ _ _)] at e; obtain ⟨rfl, rfl⟩ := Prod.mk.inj (Option.some.inj e); exact absurd rfl hw'
   ·rwa [show T' b = _ from (Tab.set_ne _ _ hb).trans (Tab.set_ne _ _ hb2)] at e
 have at_a : T' a = some (.lab k, instObj c dx) := Tab.set_self _ _ _
 have at_d : T' dx = some (.dict k, dictOf [] n) := (Tab.set_ne _ _ hne.symm).trans (Tab.set_self _ _ _)
 have only : ∀ b o', T' b = some (.lab k, o') → b = a := fun b o' e => by
  by_cases hb : b = a
  ·exact hb
  ·by_cases hb2 : b = dx
   ·subst hb2; rw [at_d] at e; cases e
   ·rw [show T' b = _ from (Tab.set_ne _ _ hb).trans (Tab.set_ne _ _ hb2)] at e
    obtain ⟨ao, q⟩ := S.live k b o' e
    rw [hk] at q; exact no q
 have onlyD : ∀ b o', T' b = some (.dict k, o') → b = dx := fun b o' e => by
  by_cases hb : b = a
  ·subst hb; rw [at_a] at e; cases e
  ·by_cases hb2 : b = dx
   ·exact hb2
   ·rw [show T' b = _ from (Tab.set_ne _ _ hb).trans (Tab.set_ne _ _ hb2)] at e
    obtain ⟨_, _, _, q⟩ := S.dicL k b o' e
    rw [hk] at q; exact no q
 refine ⟨⟨fun b o' e => E _ _ _ (S.base b o' e), S.loc.mono E.f E.l (fun _ e => E _ _ _ e) (fun _ _ e => E _ _ _ e), fun b o' e => S.locU b o' (back _ _ _ e (ne_idx rfl) (ne_idx rfl)), fun b o' e => S.celU b o' (back _ _ _ e (ne_idx rfl) (ne_idx rfl)),
  fun j aj e => ?_, fun j b d o' o'' e e' => ?_, fun j b d o' o'' e e' => ?_,
  fun j b d o' o'' e e' => S.brwU j b d _ _ (back _ _ _ e (ne_idx rfl) (ne_idx rfl)) (back _ _ _ e' (ne_idx rfl) (ne_idx rfl)), fun j b o' e => ?_, fun j b o' e => S.dead j b o' (back _ _ _ e (ne_idx rfl) (ne_idx rfl)), fun j hj => ?_,
  fun j b o' e => ?_⟩, ⟨E.f, fun b o' => ⟨E _ _ _, fun e => back _ _ _ e (ne_idx rfl) (ne_idx rfl)⟩, fun b k o' => ⟨E _ _ _, fun e => back _ _ _ e (ne_idx rfl) (ne_idx rfl)⟩⟩, .same fun k b o' e => ⟨o', E _ _ _ e⟩, rfl⟩
 ·rw [St.look_put] at e
  by_cases hj : j = k
  ·rw [if_pos hj] at e; obtain rfl := Option.some.inj e; subst hj; exact ⟨a, _, at_a, dx, [], n, rfl, at_d, ⟨rfl, rfl⟩, List.nodup_nil⟩
  ·rw [if_neg hj] at e
   obtain ⟨b, o', x, y⟩ := S.led j aj e
   exact ⟨b, o', E _ _ _ x, y.mono E.f E.l (fun _ _ e => E _ _ _ e)⟩
 ·by_cases hj : j = k
  ·subst hj; rw [only _ _ e, only _ _ e']
  ·exact S.labU j b d _ _ (back _ _ _ e (own_ne hj) (ne_idx rfl)) (back _ _ _ e' (own_ne hj) (ne_idx rfl))
 ·by_cases hj : j = k
  ·subst hj; rw [onlyD _ _ e, onlyD _ _ e']
  ·exact S.dictU j b d _ _ (back _ _ _ e (ne_idx rfl) (own_ne hj)) (back _ _ _ e' (ne_idx rfl) (own_ne hj))
 ·rw [St.look_put]
  by_cases hj : j = k
  ·exact ⟨_, by rw [if_pos hj]⟩
  ·rw [if_neg hj]; exact S.live j b o' (back _ _ _ e (own_ne hj) (ne_idx rfl))
 ·rw [St.look_put]
  by_cases hj' : j = k
  ·subst hj'; exact absurd hj hl
  ·rw [if_neg hj']; exact S.lentD j hj
 ·rw [St.look_put]
  by_cases hj : j = k
  ·exact ⟨c, [], [], by rw [if_pos hj]⟩
  ·rw [if_neg hj]; exact S.dicL j b o' (back _ _ _ e (ne_idx rfl) (own_ne hj))
noncomputable def frzT (k : Nat) (T : Tab) : Tab := fun b => (T b).map fun p => (if p.1 = .lab k ∨ p.1 = .dict k then .froz else p.1, p.2)
theorem frzT_ne {k : Nat} {T : Tab} {b : Addr} {w : Own} {o : Obj} (e : T b = some (w, o)) (h1 : w ≠ .lab k) (h2 : w ≠ .dict k) : frzT k T b = some (w, o) := by
 unfold frzT; rw [e]; simp [h1, h2]
theorem frzT_back {k : Nat} {T : Tab} {b : Addr} {w : Own} {o : Obj} (e : frzT k T b = some (w, o)) (hw : w ≠ .froz) : T b = some (w, o) ∧ w ≠ .lab k ∧ w ≠ .dict k := by
 unfold frzT at e
 cases q : T b with
 | none => rw [q] at e; exact no e
 | some p =>
  obtain ⟨w', o'⟩ := p
  rw [q] at e
  simp only [Option.map_some, Option.some.injEq, Prod.mk.injEq] at e
  obtain ⟨e, rfl⟩ := e
  by_cases h : w' = .lab k ∨ w' = .dict k
  ·rw [if_pos h] at e; exact absurd e.symm hw
  ·rw [if_neg h] at e
   subst e
   simp only [not_or] at h
   exact ⟨rfl, h.1, h.2⟩
theorem frzT_froz {k : Nat} {T : Tab} {b : Addr} {w : Own} {o : Obj} (e : T b = some (w, o)) (h : w = .lab k ∨ w = .dict k) : frzT k T b = some (.froz, o) := by
 unfold frzT; rw [e]; simp [h]
theorem frzT_F {k : Nat} {T : Tab} : FMono T (frzT k T) := fun a o e => frzT_ne e (ne_idx rfl) (ne_idx rfl)
theorem frzT_in {k : Nat} {T : Tab} {h : Heap} (H : T.In h) : (frzT k T).In h := fun a w o e => by
 unfold frzT at e
 cases q : T a with
 | none => rw [q] at e; exact no e
 | some p => rw [q] at e; simp at e; obtain ⟨_, rfl⟩ := e; exact H a p.1 p.2 q
theorem erels_of_pe {T T' : Tab} (F : FMono T T') : ∀ {vs : List PV} {fs : List FV} {ns : List Str} {es : List DictEntry}, vs.mapM PV.fv = some fs → PERels T vs ns es → ERels T' fs ns es
 | [], fs, ns, es, e, h => by
  simp at e; subst e; exact h
 | x :: vs, fs, ns, es, e, h => by
  simp only [List.mapM_cons, Option.pure_def, Option.bind_eq_bind, Option.bind_eq_some_iff, Option.some.injEq] at e
  obtain ⟨y, hy, ys, hys, rfl⟩ := e
  obtain ⟨n, ns', en, es', a, b, c, p, q⟩ := h
  induction x with
  | o j => exact no hy
  | f z => obtain rfl := Option.some.inj hy; exact ⟨n, ns', en, es', a, b, c, VRel.mono F p, erels_of_pe F hys q⟩
theorem frozen_rel {k : Nat} {a : Addr} {o : Obj} {ao : AO} {v : FV} (ha : T a = some (.lab k, o)) (R : ORel T k ao o) (e : ao.frozen = some v) : VRel (frzT k T) v (.ref a) := by
 have h1 := frzT_froz ha (.inl rfl)
 induction ao with
 | list l => obtain rfl := Option.some.inj e; obtain ⟨vs, p, q⟩ := R; exact ⟨a, o, vs, rfl, h1, p, q.mono frzT_F⟩
 | barr b => obtain rfl := Option.some.inj e; exact ⟨a, o, rfl, h1, R⟩
 | inst c ns vs =>
  simp only [AO.frozen, Option.map_eq_some_iff] at e
  obtain ⟨fs, hf, rfl⟩ := e
  obtain ⟨dx, es, n, p, q, r, nd⟩ := R
  exact ⟨a, o, dx, es, n, rfl, h1, p, frzT_froz q (.inr rfl), erels_of_pe frzT_F hf r⟩
theorem PRel.frz {k : Nat} {a : Addr} {o : Obj} {v : FV} (ha : T a = some (.lab k, o)) (hu : ∀ b o', T b = some (.lab k, o') → b = a) (hb : ∀ b o', T b ≠ some (.brw k, o')) (R : VRel (frzT k T) v (.ref a)) {x : PV} {u : Value} (h : PRel T x u) :
  PRel (frzT k T) (x.sub k v) u := by
 induction x with
 | f y => exact VRel.mono frzT_F h
 | o j =>
  obtain ⟨b, o', rfl, t⟩ := h
  unfold PV.sub
  by_cases hj : j = k
  ·subst hj
   simp only [beq_self_eq_true, if_true]
   rcases t with t | t
   ·rw [hu b o' t]; exact R
   ·exact absurd t (hb b o')
  ·have : (j == k) = false := by simpa using hj
   simp only [this]
   exact ⟨b, o', rfl, t.imp (fun t => frzT_ne t (own_ne hj) (ne_idx rfl)) (fun t => frzT_ne t (ne_idx rfl) (own_ne hj))⟩
theorem PERels.frz {k : Nat} {a : Addr} {o : Obj} {v : FV} (ha : T a = some (.lab k, o)) (hu : ∀ b o', T b = some (.lab k, o') → b = a) (hb : ∀ b o', T b ≠ some (.brw k, o')) (R : VRel (frzT k T) v (.ref a)) :
  ∀ {vs : List PV} {ns : List Str} {es : List DictEntry}, PERels T vs ns es → PERels (frzT k T) (vs.map (PV.sub k v)) ns es := by
 intro vs
 induction vs with
 | nil => exact fun h => h
 | cons p vs ih =>
  intro _ _ h
  obtain ⟨n, ns', e, es', x, y, z, p, q⟩ := h
  exact ⟨n, ns', e, es', x, y, z, p.frz ha hu hb R, ih q⟩
theorem lookup_map_sub (k : Nat) (v : FV) (j : Nat) (l : Led) : (l.map fun p => (p.1, p.2.sub k v)).lookup j = (l.lookup j).map (AO.sub k v) := by
 induction l with
 | nil => rfl
 | cons p r ih =>
  rw [List.map_cons, lk, lk, ih]
  by_cases h : j = p.1
  ·rw [if_pos h, if_pos h]; rfl
  ·rw [if_neg h, if_neg h]
theorem StRel.freeze (S : StRel h₀ cx T σ) {k : Nat} {r r' : PV} {σ' : St} {u : Value} (e : σ.freeze k r = some (r', σ')) (P : PRel T r u) :
  ∃ T', (∀ h, T.In h → T'.In h) ∧ StRel h₀ cx T' σ' ∧ Nx T T' σ σ' ∧ PRel T' r' u := by
 unfold St.freeze at e
 cases hk : σ.look k with
 | none => rw [hk] at e; obtain ⟨rfl, rfl⟩ := Prod.mk.inj (Option.some.inj e); exact ⟨T, fun _ x => x, S, .refl _ _, P⟩
 | some ao =>
  rw [hk] at e
  simp only [Option.map_eq_some_iff, Prod.mk.injEq] at e
  obtain ⟨v, hv, rfl, rfl⟩ := e
  obtain ⟨a, o, ha, R⟩ := S.led k ao hk
  have hu : ∀ b o', T b = some (.lab k, o') → b = a := fun b o' e => S.labU k b a _ _ e ha
  have hb : ∀ b o', T b ≠ some (.brw k, o') := fun b o' e => by
   have := S.lentD k (S.dead k b o' e)
   rw [hk] at this; cases this
  have V := frozen_rel ha R hv
  have lk : ∀ j, ({ loc := σ.loc.map (·.map (PV.sub k v)), led := (σ.led.filter fun p => p.1 != k).map fun p => (p.1, p.2.sub k v), chg := k :: σ.chg, lent := σ.lent } : St).look j = if j = k then none else (σ.look j).map (AO.sub k v) := fun j => by
   show List.lookup j _ = _
   rw [lookup_map_sub, lookup_filter_ne]
   split <;> rfl
  refine ⟨frzT k T, fun h => frzT_in, ⟨fun b o₁ e => frzT_F _ _ (S.base b o₁ e), ⟨?_, fun j y c e => ?_⟩, fun b o₁ e => S.locU b o₁ (frzT_back e (ne_idx rfl)).1, fun b o₁ e => S.celU b o₁ (frzT_back e (ne_idx rfl)).1,
   fun j aj e => ?_, fun j b d o₁ o₂ e e' => S.labU j b d _ _ (frzT_back e (ne_idx rfl)).1 (frzT_back e' (ne_idx rfl)).1, fun j b d o₁ o₂ e e' => S.dictU j b d _ _ (frzT_back e (ne_idx rfl)).1 (frzT_back e' (ne_idx rfl)).1,
   fun j b d o₁ o₂ e e' => S.brwU j b d _ _ (frzT_back e (ne_idx rfl)).1 (frzT_back e' (ne_idx rfl)).1, fun j b o₁ e => ?_, fun j b o₁ e => S.dead j b o₁ (frzT_back e (ne_idx rfl)).1, fun j hj => ?_, fun j b o₁ e => ?_⟩,
   ⟨⟨frzT_F, fun b o₁ => ⟨fun e => frzT_ne e (ne_idx rfl) (ne_idx rfl), fun e => (frzT_back e (ne_idx rfl)).1⟩, fun b k o₁ => ⟨fun e => frzT_ne e (ne_idx rfl) (ne_idx rfl), fun e => (frzT_back e (ne_idx rfl)).1⟩⟩, ⟨[k], rfl, fun j b o₁ hj e => ⟨o₁, frzT_ne e (own_ne fun h => hj (List.mem_singleton.mpr h)) (ne_idx rfl)⟩⟩, rfl⟩, P.frz ha hu hb V⟩
  ·obtain ⟨oL, m, p, q, r⟩ := S.loc.ns
   refine ⟨oL, m, frzT_ne p (ne_idx rfl) (ne_idx rfl), q, fun j y qv e1 e2 => ?_⟩
   simp only [List.getElem?_map, Option.map_eq_some_iff] at e2
   obtain ⟨z, hz, hz'⟩ := e2
   induction z with
   | none => simp at hz'
   | some z =>
    simp only [Option.some.injEq] at hz'
    obtain ⟨z', rfl, rfl⟩ := hz'
    obtain ⟨w, hw, pw⟩ := r j y z e1 hz
    exact ⟨w, hw, pw.frz ha hu hb V⟩
  ·obtain ⟨oc, cv, p, q, r⟩ := S.loc.cel j y c e
   refine ⟨oc, cv, frzT_ne p (ne_idx rfl) (ne_idx rfl), q, fun qv e2 => ?_⟩
   simp only [List.getElem?_map, Option.map_eq_some_iff] at e2
   obtain ⟨z, hz, hz'⟩ := e2
   induction z with
   | none => simp at hz'
   | some z =>
    simp only [Option.some.injEq] at hz'
    obtain ⟨z', rfl, rfl⟩ := hz'
    obtain ⟨w, hw, pw⟩ := r z hz
    exact ⟨w, hw, pw.frz ha hu hb V⟩
  ·rw [lk] at e
   by_cases hj : j = k
   ·rw [if_pos hj] at e; exact no e
   ·rw [if_neg hj] at e
    obtain ⟨ao', h1, rfl⟩ := Option.map_eq_some_iff.mp e
    obtain ⟨b, o₁, x, y⟩ := S.led j ao' h1
    refine ⟨b, o₁, frzT_ne x (own_ne hj) (ne_idx rfl), ?_⟩
    induction ao' with
    | list l => obtain ⟨vs, p, q⟩ := y; exact ⟨vs, p, q.mono frzT_F⟩
    | barr b => exact y
    | inst c ns vs => obtain ⟨dx, es, n, p, q, r, nd⟩ := y; exact ⟨dx, es, n, p, frzT_ne q (ne_idx rfl) (own_ne hj), r.frz ha hu hb V, nd⟩
  ·obtain ⟨t, h1, h2⟩ := frzT_back e (ne_idx rfl)
   rw [lk]
   obtain ⟨ao', q⟩ := S.live j b o₁ t
   have hj : j ≠ k := fun z => h1 (by rw [z])
   exact ⟨_, by rw [if_neg hj, q]; rfl⟩
  ·rw [lk]
   have := S.lentD j hj
   split
   ·rfl
   ·rw [this]; rfl
  ·obtain ⟨t, h1, h2⟩ := frzT_back e (ne_idx rfl)
   rw [lk]
   obtain ⟨c, ns, vs, q⟩ := S.dicL j b o₁ t
   have hj : j ≠ k := fun z => h2 (by rw [z])
   exact ⟨c, ns, _, by rw [if_neg hj, q]; rfl⟩
end
section
variable {prog : Program} {w : World} {A : Around} {E : Value → Shared → Prop} {s : Shared} {T : Tab}
theorem intOp {op : Operator} {i j : Int} {t u : Tok} {z : FV} {Q : Value → Shared → Prop} (e : binFV op (.int i) (.int j) = some z) (h : ∀ r k, VRel T z r → Q r { s with toks := k }) :
  wpAny (model prog w) A (binaryOp op (.int i t) (.int j u)) Q E s := by
 induction op with
 | Add => obtain rfl := Option.some.inj e; exact add_int (h _ _ ⟨_, rfl⟩)
 | Sub => obtain rfl := Option.some.inj e; exact sub_int (h _ _ ⟨_, rfl⟩)
 | Mult =>
  obtain ⟨hc, rfl⟩ := ite_some e
  refine mul_int (h _ _ ⟨_, rfl⟩) ?_
  simp only [Bool.or_eq_true, decide_eq_true_eq] at hc
  rcases hc with hc | hc
  ·exact IntMulOk.of_right (intBits_le hc)
  ·exact IntMulOk.of_left (intBits_le hc)
 | FloorDiv =>
  obtain ⟨hc, rfl⟩ := ite_some e
  exact floordiv_int hc.1 (h _ _ ⟨_, rfl⟩) (.inl (PyProof.noPylong_small hc.2))
 | Mod =>
  obtain ⟨hc, rfl⟩ := ite_some e
  exact mod_int' hc (h _ _ ⟨_, rfl⟩)
 | Pow =>
  obtain ⟨hc, rfl⟩ := ite_some e
  refine pow_int hc.1 ?_ (h _ _ ⟨_, rfl⟩)
  have : PySem.Builtin.Int.intBits i ≤ 10 := intBits_le (k := 10) hc.2.2
  have h2 := hc.2.1
  have h3 := hc.1
  have : (PySem.Builtin.Int.intBits i : Int) * j ≤ 10 * 64 := Int.mul_le_mul O37 h2 h3 (by decide)
  omega
 | LShift =>
  obtain ⟨hc, rfl⟩ := ite_some e
  exact lshift_int_small hc.1 (by omega) hc.2.2 (h _ _ ⟨_, rfl⟩)
 | RShift =>
  obtain ⟨hc, rfl⟩ := ite_some e
  exact rshift_int hc (h _ _ ⟨_, rfl⟩)
 | BitAnd => obtain rfl := Option.some.inj e; exact and_int (h _ _ ⟨_, rfl⟩)
 | BitOr => obtain rfl := Option.some.inj e; exact or_int (h _ _ ⟨_, rfl⟩)
 | _ => exact no e
theorem augOp {op : Operator} {i j z : Int} {t u : Tok} {Q : Value → Shared → Prop} (e : augFV op i j = some z) (h : ∀ r k, VRel T (.int z) r → Q r { s with toks := k }) :
  wpAny (model prog w) A (inplaceOp op (.int i t) (.int j u)) Q E s := by
 induction op with
 | Add => obtain rfl := Option.some.inj e; exact iadd_int (h _ _ ⟨_, rfl⟩)
 | Sub => obtain rfl := Option.some.inj e; exact isub_int (h _ _ ⟨_, rfl⟩)
 | RShift =>
  obtain ⟨hc, rfl⟩ := ite_some e
  exact irshift_int hc (h _ _ ⟨_, rfl⟩)
 | _ => exact no e
end
theorem slot_bytes_lt : Slot "bytes" (cmpInfo .Lt).2.1 "bytes.__lt__" :=
 .of (owner := "bytes") (n := "__lt__") (by rw [typeLookup_type, builtinLookup_eq_fast]; kernel_rfl) (by decide +kernel) (by decide +kernel) (by decide +kernel) (.inl (by decide +kernel)) (by rw [isSubtype_type]; kernel_rfl)
theorem entry_bytes_lt : entryFor table "bytes.__lt__" = some PySem.Builtin.«bytes.__lt__» := entryFor_of_tree (by kernel_rfl)
theorem args_bytes_lt (a b : Value) : argsOk "bytes.__lt__" ⟨[a, b], []⟩ := by
 unfold argsOk; rw [signature?_of (id := "bytes.__lt__") (n := ['_', '_', 't', 'l', '_', '_']) (o := ['s', 'e', 't', 'y', 'b']) (by kernel_rfl) PySem.W.FB.owner_bytes]; kernel_rfl
section
variable {prog : Program} {w : World} {A : Around} {E : Value → Shared → Prop} {s : Shared} {T : Tab}
theorem bytesAdd {b c : List UInt8} {t u : Tok} {Q : Value → Shared → Prop} (hz : b.length + c.length ≤ 1000000) (h : ∀ r k, VRel T (.bytes (b ++ c)) r → Q r { s with toks := k }) :
  wpAny (model prog w) A (binaryOp .Add (.bytes ⟨b⟩ t) (.bytes ⟨c⟩ u)) Q E s :=
 PySem.W.KBy.add_bytes (by simp; exact O1) fun t' k => h _ _ ⟨t', by simp⟩
theorem strAdd {x y : Str} {t u : Tok} {Q : Value → Shared → Prop} (hz : x.length + y.length ≤ 1000000) (h : ∀ r k, VRel T (.str (x ++ y)) r → Q r { s with toks := k }) :
  wpAny (model prog w) A (binaryOp .Add (.str x t) (.str y u)) Q E s := by
 exact add_str (fun t' k => h _ _ ⟨t', rfl⟩) (by rw [sizeLine_eq]; exact O1)
theorem listAdd {l b : Addr} {o o' : Obj} {vs us : List Value} {Q : Value → Shared → Prop} (ho : s.heap.get? l = some o) (ho' : s.heap.get? b = some o') (hl : LObj o vs) (hb : LObj o' us) (hz : vs.length + us.length ≤ 1000000)
  (h : Q (.ref s.heap.objs.size) { s with heap := s.heap.push { cls := .type "list", dict := none, data := .seq ⟨vs ++ us⟩ 0, slots := #[] } }) :
  wpAny (model prog w) A (binaryOp .Add (.ref l) (.ref b)) Q E s := by
 obtain ⟨n, rfl⟩ := hl
 obtain ⟨n', rfl⟩ := hb
 refine concat_meets ⟨_, ho, rfl⟩ ⟨_, ho', rfl⟩ noFill_list_add seq_list_add PySem.F.slot_list_add PySem.F.entry_list_add (PySem.F.args_list_add_2 _ _) (list_addW l b vs.toArray us.toArray n n' none none #[] #[] (by simp; rw [sizeLine_eq]; exact O1)) ⟨ho, ho', ?_⟩
 simpa using h
theorem EqGives.bytes (b c : Array UInt8) (t u : Tok) : PySem.MeetsSeq.EqGives (.bytes b t) (.bytes c u) (b.toList == c.toList) := by
 intro prog w A E s Q h
 unfold eqBool
 refine wpAny_holding ?_
 refine wpAny_ite_split (fun hab => ?_) (fun hab => ?_)
 ·have e : b = c := by have := eq_of_beq hab; injection this
  subst e
  exact wpAny_bind (wpAny_rule (wpAny_pure (by simpa using h)))
 ·exact wpAny_bind (richCompare_gives (typeIs_bytes s b t) (typeIs_bytes s c u) FB.slot_bytes_eq FB.entry_bytes_eq (FB.args_bytes_eq_2 _ _) (gives_bytes_eq b c t u) (by simp [Made.takes]) (wpAny_truthy_bool h))
theorem EqGives.none : PySem.MeetsSeq.EqGives .none .none true := fun prog w A E s Q h => (PySem.SeqAt.EqAt.same (A := A) (s := s) .none) prog w E Q h
theorem eqB_gives {x y : FV} {u v : Value} {r : Bool} (hx : VRel T x u) (hy : VRel T y v) (e : FV.eqB x y = some r) : PySem.MeetsSeq.EqGives u v r := by
 rcases eqB_inv e with ⟨rfl, rfl, rfl⟩ | ⟨i, j, rfl, rfl, rfl⟩ | ⟨i, j, rfl, rfl, rfl⟩ | ⟨i, j, rfl, rfl, rfl⟩
 ·rw [show u = .none from hx, show v = .none from hy]; exact EqGives.none
 ·obtain ⟨t, rfl⟩ := hx; obtain ⟨t', rfl⟩ := hy; exact .int _ _ _ _
 ·obtain ⟨t, rfl⟩ := hx; obtain ⟨t', rfl⟩ := hy; exact PySem.SeqRoads2.EqGives.str _ _ _ _
 ·obtain ⟨t, rfl⟩ := hx; obtain ⟨t', rfl⟩ := hy; exact EqGives.bytes _ _ _ _
theorem eqL_gives : ∀ {l m : List FV} {vs us : List Value} {r : Bool}, VRels T l vs → VRels T m us → FV.eqL l m = some r →
  ∃ e : Nat → Bool, (∀ j (h1 : j < vs.length) (h2 : j < us.length), PySem.MeetsSeq.EqGives vs[j] us[j] (e j)) ∧ (List.range vs.length).all e = r
 | [], [], vs, us, r, hl, hm, h => by
  rw [show vs = [] from hl, show us = [] from hm]
  obtain rfl := Option.some.inj h
  exact ⟨fun _ => true, fun j h1 => absurd h1 (Nat.not_lt_zero _), rfl⟩
 | [], _ :: _, _, _, _, _, _, h => by exact no h
 | _ :: _, [], _, _, _, _, _, h => by exact no h
 | a :: l, b :: m, vs, us, r, ⟨v, vs', e1, p, q⟩, ⟨u, us', e2, p', q'⟩, h => by
  subst e1 e2
  obtain ⟨t, ht, h⟩ := Option.bind_eq_some_iff.mp h
  obtain ⟨t', ht', rfl⟩ := Option.map_eq_some_iff.mp h
  obtain ⟨e, h1, h2⟩ := eqL_gives q q' ht'
  refine ⟨fun j => match j with | 0 => t | j + 1 => e j, fun j h3 h4 => ?_, ?_⟩
  ·induction j using Nat.casesOn with
   | zero => exact eqB_gives p p' ht
   | succ j => exact h1 j (by simpa using h3) (by simpa using h4)
  ·rw [List.length_cons, List.range_succ_eq_map, List.all_cons, List.all_map]
   rw [← h2]
   rfl
theorem ltB_ok {x y : FV} {u v : Value} {r : Bool} (hx : VRel T x u) (hy : VRel T y v) (e : FV.ltB x y = some r) {Q : Value → Shared → Prop} (h : Q (.bool r) s) : wpAny (model prog w) A (compareOp .Lt u v) Q E s := by
 rcases ltB_inv e with ⟨i, j, rfl, rfl, rfl⟩ | ⟨i, j, rfl, rfl, rfl⟩ | ⟨b, c, rfl, rfl, rfl⟩
 ·obtain ⟨t, rfl⟩ := hx; obtain ⟨t', rfl⟩ := hy; exact wpAny_lt_int h
 ·obtain ⟨t, rfl⟩ := hx; obtain ⟨t', rfl⟩ := hy; exact lt_str h
 ·obtain ⟨t, rfl⟩ := hx; obtain ⟨t', rfl⟩ := hy
  refine compareOp_gives (op := .Lt) (typeIs_bytes s _ t) (typeIs_bytes s _ t') slot_bytes_lt entry_bytes_lt (args_bytes_lt _ _) (m := .val (.bool (PySem.Builtin.Bytes.order b c == .lt))) ?_ (fun e => nomatch e) h
  refine .of_wp fun M A E s Q hq => ?_
  show wpAny M A (isInstance (.bytes ⟨c⟩ t') (.type "bytes") >>= fun r => _) _ E s
  refine wpAny_bind (wpAny_isInstance (typeIs_bytes s ⟨c⟩ t') F.sub_bytes_bytes ?_)
  exact wpAny_pure ⟨_, rfl, hq⟩
end
section
open PySem.SeqAt PySem.AutoSeq1 PySem.MeetsSeq
theorem tuple_lt_meets {T : Tab} (a b : Addr) {l m : List FV} {vs us : List Value} (n n2 : Nat) (hl : VRels T l vs) (hm : VRels T m us) {r : Bool} (e : FV.ltL l m = some r) :
  Meets (Builtin.«tuple.__lt__» ⟨[.ref a, .ref b], []⟩)
   (fun A R s => s.heap.get? a = some { cls := .type "tuple", dict := none, data := .seq ⟨vs⟩ n, slots := #[] } ∧ s.heap.get? b = some { cls := .type "tuple", dict := none, data := .seq ⟨us⟩ n2, slots := #[] } ∧ R (.ok (.ret (.bool r))) s) :=
 .of_wp fun prog w A R s h => by
  obtain ⟨hp, g, d, tk, os⟩ := s; obtain ⟨ha, hb, h⟩ := h
  have f2 := AutoSeq1.sub_tuple_tuple
  wp_walk using wpAny_loadPart' ha, wpAny_loadPart' hb, wpAny_forIn_list _ (fun rest b s' => b.1 = none ∧ s' = ⟨hp, g, d, tk, os⟩ ∧ ∃ l' m' vs' us', rest = vs'.zip us' ∧ VRels T l' vs' ∧ VRels T m' us' ∧ FV.ltL l' m' = some r ∧ ∃ k, vs.length = k + vs'.length ∧ us.length = k + us'.length) _
  case turn =>
   rintro ⟨y, x⟩ rest b s' ⟨hb', rfl, l', m', vs', us', hz, hl', hm', he, hsz⟩
   induction l' using List.casesOn with
   | nil => rw [show vs' = [] from hl'] at hz; cases hz
   | cons p l' =>
    obtain ⟨v, vr, rfl, pv, ql⟩ := hl'
    induction m' using List.casesOn with
    | nil => exact no he
    | cons q m' =>
     obtain ⟨u, ur, rfl, pu, qm⟩ := hm'
     have hz1 := Prod.mk.inj (List.cons.inj hz).1
     have hz2 := (List.cons.inj hz).2
     obtain ⟨rfl, rfl⟩ := hz1
     subst hz2
     refine bk he fun t ht he => ?_
     refine wpAny_bind (eqB_gives pv pu ht prog w _ _ _ _ ?_)
     induction t with
     | true =>
      rw [if_pos rfl] at he
      wp_walk
      exact ⟨rfl, rfl, l', m', vr, ur, rfl, ql, qm, he, hsz.elim fun k hk => ⟨k + 1, hk.1.trans (Nat.add_right_comm k _ 1), hk.2.trans (Nat.add_right_comm k _ 1)⟩⟩
     | false =>
      rw [if_neg Bool.false_ne_true] at he
      have key : ∀ {Q : Value → Shared → Prop} {E' : Value → Shared → Prop}, Q (.bool r) ⟨hp, g, d, tk, os⟩ → wpAny (model prog w) A.in1 (richCompare .Lt y x) Q E' ⟨hp, g, d, tk, os⟩ :=
       fun hq => ltB_ok (prog := prog) (w := w) (A := A.in1) (s := ⟨hp, g, d, tk, os⟩) pv pu he hq
      wp_walk using key
      exact ⟨_, rfl, h⟩
  case fin =>
   rintro ⟨b1, b2⟩ s' ⟨hb', rfl, l', m', vs', us', hz, hl', hm', he, hsz⟩
   simp only at hb'
   subst hb'
   wp_walk
   refine ⟨_, rfl, ?_⟩
   have : r = (decide (vs.length < us.length)) := by
    induction l' using List.casesOn with
    | nil =>
     rw [show vs' = [] from hl'] at hsz
     induction m' using List.casesOn with
     | nil =>
      rw [show us' = [] from hm'] at hsz
      obtain rfl := Option.some.inj he
      exact hsz.elim fun k hk => (decide_eq_false (by rw [hk.1, hk.2]; exact Nat.lt_irrefl _)).symm
     | cons => exact no he
    | cons p l' =>
     obtain ⟨v, vr, rfl, pv, ql⟩ := hl'
     induction m' using List.casesOn with
     | nil => exact no he
     | cons q m' =>
      obtain ⟨u, ur, rfl, pu, qm⟩ := hm'
      cases hz
   rw [this] at h
   simpa [Builtin.Tuple.tupleCompareSizes] using h
  case h =>
   exact ⟨rfl, rfl, l, m, vs, us, rfl, hl, hm, e, 0, (Nat.zero_add _).symm, (Nat.zero_add _).symm⟩
end
section
open PySem.SeqAt
section
variable {prog : Program} {w : World} {A : Around} {E : Value → Shared → Prop} {s : Shared} {T : Tab}
theorem lobj_is {h : Heap} {a : Addr} {o : Obj} {vs : List Value} (e : h.get? a = some o) (L : LObj o vs) : h.IsList a ⟨vs⟩ := by
 obtain ⟨n, rfl⟩ := L; exact ⟨_, e, rfl, n, rfl⟩
theorem tobj_is {h : Heap} {a : Addr} {o : Obj} {vs : List Value} (e : h.get? a = some o) (L : TObj o vs) : h.IsTuple a ⟨vs⟩ := by
 obtain ⟨n, rfl⟩ := L; exact ⟨_, e, rfl, n, rfl⟩
theorem tobj_tup {h : Heap} {a : Addr} {o : Obj} {vs : List Value} (e : h.get? a = some o) (L : TObj o vs) : IsTup h a ⟨vs⟩ := by
 obtain ⟨n, rfl⟩ := L; exact ⟨_, e, rfl, n, rfl⟩
theorem eqB_ok {x y : FV} {u v : Value} {r : Bool} (hx : VRel T x u) (hy : VRel T y v) (e : FV.eqB x y = some r) {Q : Value → Shared → Prop} (h : Q (.bool r) s) : wpAny (model prog w) A (compareOp .Eq u v) Q E s := by
 rcases eqB_inv e with ⟨rfl, rfl, rfl⟩ | ⟨i, j, rfl, rfl, rfl⟩ | ⟨i, j, rfl, rfl, rfl⟩ | ⟨i, j, rfl, rfl, rfl⟩
 ·rw [show u = .none from hx, show v = .none from hy]; exact EqNone.eq_none_none h
 ·obtain ⟨t, rfl⟩ := hx; obtain ⟨t', rfl⟩ := hy; exact IsLeap.wpAny_eq_int' h
 ·obtain ⟨t, rfl⟩ := hx; obtain ⟨t', rfl⟩ := hy; exact P.eq_str h
 ·obtain ⟨t, rfl⟩ := hx; obtain ⟨t', rfl⟩ := hy; exact eq_bytes h
theorem neB_ok {x y : FV} {u v : Value} {r : Bool} (hx : VRel T x u) (hy : VRel T y v) (e : FV.eqB x y = some r) {Q : Value → Shared → Prop} (h : Q (.bool !r) s) : wpAny (model prog w) A (compareOp .NotEq u v) Q E s := by
 rcases eqB_inv e with ⟨rfl, rfl, rfl⟩ | ⟨i, j, rfl, rfl, rfl⟩ | ⟨i, j, rfl, rfl, rfl⟩ | ⟨i, j, rfl, rfl, rfl⟩
 ·rw [show u = .none from hx, show v = .none from hy]; exact EqNone.ne_none_none h
 ·obtain ⟨t, rfl⟩ := hx; obtain ⟨t', rfl⟩ := hy; exact IsLeap.wpAny_ne_int h
 ·obtain ⟨t, rfl⟩ := hx; obtain ⟨t', rfl⟩ := hy; exact P.ne_str h
 ·obtain ⟨t, rfl⟩ := hx; obtain ⟨t', rfl⟩ := hy; exact ne_bytes h
theorem lists_eq (hT : T.In s.heap) (hu : A.units < cLine) {l m : List FV} {u v : Value} {r : Bool} (hx : DRel T (.list l) u) (hy : DRel T (.list m) v) (e : (if l.length = m.length then FV.eqL l m else some false) = some r) :
  RcAt A s u v r := by
 obtain ⟨a, wa, o, vs, rfl, ta, La, Ra⟩ := hx
 obtain ⟨b, wb, o', us, rfl, tb, Lb, Rb⟩ := hy
 have ia := lobj_is (hT _ _ _ ta) La
 have ib := lobj_is (hT _ _ _ tb) Lb
 by_cases hl : l.length = m.length
 ·rw [if_pos hl] at e
  obtain ⟨f, h1, rfl⟩ := eqL_gives Ra Rb e
  have := RcAt.lists (A := A) (e := f) ia ib (by simp [Ra.len, Rb.len, hl]) hu fun j a b => (h1 j a b).at _ _
  simpa using this
 ·rw [if_neg hl] at e
  obtain rfl := Option.some.inj e
  exact RcAt.lists_lengths ia ib (by simpa [Ra.len, Rb.len] using hl) hu
theorem lists_ne (hT : T.In s.heap) (hu : A.units < cLine) {l m : List FV} {u v : Value} {r : Bool} (hx : DRel T (.list l) u) (hy : DRel T (.list m) v) (e : (if l.length = m.length then (FV.eqL l m).map not else some true) = some r) :
  RcNeAt A s u v r := by
 obtain ⟨a, wa, o, vs, rfl, ta, La, Ra⟩ := hx
 obtain ⟨b, wb, o', us, rfl, tb, Lb, Rb⟩ := hy
 have ia := lobj_is (hT _ _ _ ta) La
 have ib := lobj_is (hT _ _ _ tb) Lb
 by_cases hl : l.length = m.length
 ·rw [if_pos hl] at e
  obtain ⟨r', e', rfl⟩ := Option.map_eq_some_iff.mp e
  obtain ⟨f, h1, rfl⟩ := eqL_gives Ra Rb e'
  have := RcNeAt.lists (A := A) (e := f) ia ib (by simp [Ra.len, Rb.len, hl]) hu fun j a b => (h1 j a b).at _ _
  simpa using this
 ·rw [if_neg hl] at e
  obtain rfl := Option.some.inj e
  exact RcNeAt.lists_lengths ia ib (by simpa [Ra.len, Rb.len] using hl) hu
noncomputable def vInt (i : Int) : Value → Bool
 | .int j _ => j == i
 | _ => false
theorem in_key {i : Int} {t : Tok} : ∀ {l : List FV} {vs : List Value}, VRels T l vs → l.all (fun x => (FV.asI x).isSome) = true →
   (∀ y, y ∈ vs → PySem.MeetsSeq.EqGives y (.int i t) (vInt i y)) ∧ vs.any (vInt i) = l.any fun x => FV.asI x == some i
 | [], vs, R, _ => by rw [show vs = [] from R]; exact ⟨(fun y hy => nomatch hy), rfl⟩
 | x :: l, vs, ⟨v, r', e, p, q⟩, hall => by
  rw [List.all_cons, Bool.and_eq_true] at hall
  obtain ⟨k1, k2⟩ := in_key q hall.2
  obtain ⟨j, hj⟩ := Option.isSome_iff_exists.mp hall.1
  rw [FV.asI_some hj] at p ⊢
  obtain ⟨t', rfl⟩ := p
  rw [e]
  refine ⟨fun y hy => ?_, ?_⟩
  ·rcases List.mem_cons.mp hy with h | hy
   ·rw [h]; exact .int _ _ _ _
   ·exact k1 y hy
  ·rw [List.any_cons, List.any_cons, k2]; rfl
theorem in_tup (hT : T.In s.heap) {i : Int} {l : List FV} {u v : Value} {r : Bool} (hx : VRel T (.int i) u) (hy : VRel T (.tup l) v)
  (e : (if l.all (fun x => (FV.asI x).isSome) then some (l.any fun x => FV.asI x == some i) else Option.none) = some r) {Q : Value → Shared → Prop} (h : Q (.bool r) s) : wpAny (model prog w) A (compareOp .In u v) Q E s := by
 obtain ⟨t, rfl⟩ := hx
 obtain ⟨a, o, vs, rfl, ta, ⟨n, rfl⟩, R⟩ := hy
 refine ik e fun hall e => ?_
 obtain ⟨k1, k2⟩ := in_key (i := i) (t := t) R hall
 refine PySem.SeqRoads2.in_tuple (items := ⟨vs⟩) (vInt i) (fun y hy => k1 y (Array.mem_toList_iff.mpr hy)) (hT _ _ _ ta) ?_
 rw [← Option.some.inj e, ← k2] at h
 rw [← Array.any_toList]
 exact h
theorem eqB_v {x y : FV} {u v : Value} {r : Bool} (hx : DRel T x u) (hy : DRel T y v) (e : FV.eqB x y = some r) : VRel T x u ∧ VRel T y v := by
 rcases eqB_inv e with ⟨rfl, rfl, rfl⟩ | ⟨i, j, rfl, rfl, rfl⟩ | ⟨i, j, rfl, rfl, rfl⟩ | ⟨i, j, rfl, rfl, rfl⟩ <;> exact ⟨hx, hy⟩
theorem not_none {x : FV} {u : Value} (hx : DRel T x u) : (isNone x = true ∧ u = .none) ∨ (isNone x = false ∧ plainIs u .none = true ∧ u ≠ .none) := by
 induction x using FV.casesOn with
 | none => exact .inl ⟨rfl, hx⟩
 | bool b => rw [show u = .bool b from hx]; exact .inr ⟨rfl, rfl, fun e => nomatch e⟩
 | int i => obtain ⟨t, rfl⟩ := hx; exact .inr ⟨rfl, rfl, fun e => nomatch e⟩
 | str i => obtain ⟨t, rfl⟩ := hx; exact .inr ⟨rfl, rfl, fun e => nomatch e⟩
 | bytes i => obtain ⟨t, rfl⟩ := hx; exact .inr ⟨rfl, rfl, fun e => nomatch e⟩
 | barr i => obtain ⟨a, _, _, rfl, _⟩ := hx; exact .inr ⟨rfl, rfl, fun e => nomatch e⟩
 | tup i => obtain ⟨a, _, _, rfl, _⟩ := hx; exact .inr ⟨rfl, rfl, fun e => nomatch e⟩
 | list i => obtain ⟨a, _, _, _, rfl, _⟩ := hx; exact .inr ⟨rfl, rfl, fun e => nomatch e⟩
 | rng i => obtain ⟨a, _, rfl, _⟩ := hx; exact .inr ⟨rfl, rfl, fun e => nomatch e⟩
 | inst i => obtain ⟨a, _, _, _, _, rfl, _⟩ := hx; exact .inr ⟨rfl, rfl, fun e => nomatch e⟩
theorem cmp_ok (hT : T.In s.heap) (hu : A.units < cLine) {op : CmpOp} {x y : FV} {u v : Value} {r : Bool} (hx : DRel T x u) (hy : DRel T y v) (e : chainCmp op x y = some r) {Q : Value → Shared → Prop} (h : Q (.bool r) s) :
  wpAny (model prog w) A (compareOp op u v) Q E s := by
 induction op with
 | Eq =>
  rcases eqC_inv e with ⟨l, m, rfl, rfl, e⟩ | e
  ·exact lists_eq hT hu hx hy e prog w E Q h
  ·have := eqB_v hx hy e
   exact eqB_ok this.1 this.2 e h
 | NotEq =>
  rcases neC_inv e with ⟨l, m, rfl, rfl, e⟩ | e
  ·exact lists_ne hT hu hx hy e prog w E Q h
  ·obtain ⟨r', e1, rfl⟩ := Option.map_eq_some_iff.mp e
   have := eqB_v hx hy e1
   exact neB_ok this.1 this.2 e1 h
 | Lt =>
  rcases ltC_inv e with ⟨l, m, rfl, rfl, e⟩ | e
  ·obtain ⟨a, o, vs, rfl, ta, ⟨n, rfl⟩, Ra⟩ := hx
   obtain ⟨b, o', us, rfl, tb, ⟨n', rfl⟩, Rb⟩ := hy
   show wpAny _ _ (richCompare .Lt _ _) _ _ _
   exact richCompare_meets_room (op := .Lt) ⟨_, hT _ _ _ ta, rfl⟩ ⟨_, hT _ _ _ tb, rfl⟩ F.slot_tuple_lt F.entry_tuple_lt (F.args_tuple_lt_2 _ _) (tuple_lt_meets a b n n' Ra Rb e)
    ⟨hT _ _ _ ta, hT _ _ _ tb, show Value.bool r ≠ Value.notImplemented ∧ Q (.bool r) s from ⟨(fun x => nomatch x), h⟩⟩ hu
  ·have : VRel T x u ∧ VRel T y v := by
    rcases ltB_inv e with ⟨i, j, rfl, rfl, rfl⟩ | ⟨i, j, rfl, rfl, rfl⟩ | ⟨b, c, rfl, rfl, rfl⟩ <;> exact ⟨hx, hy⟩
   exact ltB_ok this.1 this.2 e h
 | LtE =>
  rcases leC_inv e with ⟨l, m, rfl, rfl, rfl⟩ | e
  ·obtain ⟨t, rfl⟩ := hx; obtain ⟨t', rfl⟩ := hy; exact P.le_str h
  ·obtain ⟨i, j, rfl, rfl, rfl⟩ := intC_inv e
   obtain ⟨t, rfl⟩ := hx; obtain ⟨t', rfl⟩ := hy; exact P.le_int h
 | Gt => obtain ⟨i, j, rfl, rfl, rfl⟩ := intC_inv e; obtain ⟨t, rfl⟩ := hx; obtain ⟨t', rfl⟩ := hy; exact P.gt_int h
 | GtE => obtain ⟨i, j, rfl, rfl, rfl⟩ := intC_inv e; obtain ⟨t, rfl⟩ := hx; obtain ⟨t', rfl⟩ := hy; exact P.ge_int h
 | Is =>
  obtain ⟨rfl, rfl⟩ := isC_inv e
  obtain rfl : v = .none := hy
  rcases not_none hx with ⟨k, rfl⟩ | ⟨k, hp, hn⟩ <;> rw [k] at h
  ·exact wpAny_is_self rfl h
  ·exact wpAny_is_other hp hn h
 | IsNot =>
  obtain ⟨r', e1, rfl⟩ := Option.map_eq_some_iff.mp e
  obtain ⟨rfl, rfl⟩ := isC_inv e1
  obtain rfl : v = .none := hy
  rcases not_none hx with ⟨k, rfl⟩ | ⟨k, hp, hn⟩ <;> rw [k] at h
  ·exact wpAny_isNot_self rfl h
  ·exact wpAny_isNot_other hp hn h
 | In => obtain ⟨i, l, rfl, rfl, e⟩ := inC_inv e; exact in_tup hT hx hy e h
 | _ => exact no e
end
end
structure Go (h₀ : Heap) (cx : Cx) (T : Tab) (σ : St) (s : Shared) (T' : Tab) (σ' : St) (s' : Shared) : Prop where
 same : ∃ tk, s' = { s with heap := s'.heap, toks := tk }
 isIn : T'.In s'.heap
 rel : StRel h₀ cx T' σ'
 nx : Nx T T' σ σ'
theorem Go.refl {h₀ cx T σ s} (H : T.In s.heap) (S : StRel h₀ cx T σ) : Go h₀ cx T σ s T σ s := ⟨⟨s.toks, rfl⟩, H, S, .refl T σ⟩
theorem Go.trans {h₀ cx T σ s T' σ' s' T'' σ'' s''} (a : Go h₀ cx T σ s T' σ' s') (b : Go h₀ cx T' σ' s' T'' σ'' s'') : Go h₀ cx T σ s T'' σ'' s'' := by
 obtain ⟨tk, e⟩ := a.same
 obtain ⟨tk', e'⟩ := b.same
 exact ⟨⟨tk', by rw [e', e]⟩, b.isIn, b.rel, a.nx.trans b.nx⟩
theorem Go.toks {h₀ cx T σ s} (H : T.In s.heap) (S : StRel h₀ cx T σ) (k : Nat) : Go h₀ cx T σ s T σ { s with toks := k } := ⟨⟨k, rfl⟩, H, S, .refl T σ⟩
noncomputable def Aft {α : Type} (h₀ : Heap) (cx : Cx) (T : Tab) (σ : St) (s : Shared) (σ' : St) (P : Tab → α → Prop) : α → Shared → Prop :=
 fun a s' => ∃ T', Go h₀ cx T σ s T' σ' s' ∧ P T' a
structure EnvR (env : Env) (cx : Cx) : Prop where
 kind : env.scope.kind = .function
 L : env.locals = cx.L
 glob : env.globals = mainGlobals
 bi : env.builtins = builtinsNs
 loc : ∀ (i : Nat) x, cx.names[i]? = some (x, none) → env.kindOf x = some .local
 cel : ∀ (i : Nat) x c, cx.names[i]? = some (x, some c) → (env.kindOf x = some .cell ∨ env.kindOf x = some .free ∧ (x == ("__classdict__" : Str)) = false) ∧ env.cells.lookup x = some c
 ok : cx.Ok
section
variable {prog : Program} {w : World} {A : Around} {E : Value → Shared → Prop} {s : Shared} {h₀ : Heap} {cx : Cx} {T : Tab} {σ : St} {env : Env} {M : Model}
theorem ld_var (R : EnvR env cx) (H : T.In s.heap) (S : StRel h₀ cx T σ) {i : Nat} {x : Str} {co : Option Addr} {pv : PV} (hx : cx.names[i]? = some (x, co)) (hl : σ.loc[i]? = some (some pv))
  {Q : Value → Shared → Prop} (h : ∀ v, PRel T pv v → Q v s) : wpAny M A (loadName env x) Q E s := by
 induction co with
 | none =>
  obtain ⟨o, m, e, N, k⟩ := S.loc.ns
  obtain ⟨v, mv, pr⟩ := k i x pv hx hl
  refine wpAny_loadName_local R.kind (R.loc i x hx) (m := m) ?_ mv (h v pr)
  rw [R.L]
  exact ns_of (H _ _ _ e) N
 | some c =>
  obtain ⟨oc, cv, e, hd, k⟩ := S.loc.cel i x c hx
  obtain ⟨v, rfl, pr⟩ := k pv hl
  obtain ⟨h1, h2⟩ := R.cel i x c hx
  rcases h1 with h1 | h1
  ·exact wpAny_loadName_cell R.kind h1 h2 ⟨oc, H _ _ _ e, hd⟩ (h v pr)
  ·exact wpAny_loadName_free R.kind h1.1 h2 ⟨oc, H _ _ _ e, hd⟩ (h v pr) h1.2
theorem load_gi {env : Env} {x : Str} (hk : env.scope.kind = .function) (hl : env.kindOf x = some .globalImplicit) : loadName env x = loadGlobal env x := by
 obtain ⟨⟨k, _⟩, _⟩ := env
 subst hk
 unfold loadName
 rw [hl]
 rfl
theorem store_free {env : Env} {x : Str} {v : Value} (hk : env.scope.kind = .function) (hl : env.kindOf x = some .free) : storeName env x v = cellOf env x >>= fun c => cellSet c (some v) := by
 obtain ⟨⟨k, _⟩, _⟩ := env
 subst hk
 unfold storeName
 rw [hl]
 rfl
theorem st_var (R : EnvR env cx) (H : T.In s.heap) (S : StRel h₀ cx T σ) {i : Nat} {x : Str} {co : Option Addr} {pv : PV} {v : Value} (hx : cx.names[i]? = some (x, co)) (hv : PRel T pv v)
  {Q : Unit → Shared → Prop} (h : ∀ T' s', Go h₀ cx T σ s T' (σ.set i pv) s' → Q () s') : wpAny M A (bindName env x v) Q E s := by
 refine wpAny_bindName ?_
 induction co with
 | none =>
  obtain ⟨o, m, e, N, k⟩ := S.loc.ns
  refine wpAny_storeName_local (R.loc i x hx) (m := m) (by rw [R.L]; exact ns_of (H _ _ _ e) N) (fun h' hn hs => ?_) (by rw [R.kind]; rfl)
  rw [R.L] at hn hs
  obtain ⟨o', e', N'⟩ := of_ns hn
  obtain ⟨S', X⟩ := S.bindLoc R.ok hx e k N' hv
  exact h _ _ ⟨⟨_, rfl⟩, H.set e' fun b ob hb hob => (hs.2 b hb).trans hob, S', X⟩
 | some c =>
  obtain ⟨oc, cv, e, hd, k⟩ := S.loc.cel i x c hx
  obtain ⟨h1, h2⟩ := R.cel i x c hx
  have key : ∀ h', h'.IsCell c (some v) → Heap.SameBut c s.heap h' → Q () { s with heap := h' } := fun h' hc hs => by
   obtain ⟨o', e', d'⟩ := hc
   obtain ⟨S', X⟩ := S.bindCel R.ok hx e d' hv
   exact h _ _ ⟨⟨s.toks, rfl⟩, H.set e' fun b ob hb hob => (hs.2 b hb).trans hob, S', X⟩
  rcases h1 with h1 | h1
  ·exact wpAny_storeName_cell R.kind h1 h2 ⟨oc, H _ _ _ e, hd⟩ key
  ·rw [store_free R.kind h1.1]
   exact wpAny_bind (wpAny_cellOf h2 (wpAny_cellSet ⟨oc, H _ _ _ e, hd⟩ key))
structure Names (h₀ : Heap) (mg mb : Str → Option Value) : Prop where
 g : h₀.Ns mainGlobals mg
 b : h₀.Ns builtinsNs mb
theorem base_ns (H : T.In s.heap) (S : StRel h₀ cx T σ) {a : Addr} {m} (N : h₀.Ns a m) : s.heap.Ns a m := by
 obtain ⟨o, es, ep, e, r⟩ := N
 exact ⟨o, es, ep, H _ _ _ (S.base _ _ e), r⟩
theorem base_at (H : T.In s.heap) (S : StRel h₀ cx T σ) {a : Addr} {o : Obj} (e : h₀.get? a = some o) : s.heap.get? a = some o := H _ _ _ (S.base _ _ e)
theorem ld_glob {mg mb : Str → Option Value} (N : Names h₀ mg mb) (R : EnvR env cx) (H : T.In s.heap) (S : StRel h₀ cx T σ) {x : Str} {v : Value} (hk : env.kindOf x = some .globalImplicit) (hv : mg x = some v ∨ mg x = none ∧ mb x = some v)
  {Q : Value → Shared → Prop} (h : Q v s) : wpAny M A (loadName env x) Q E s := by
 rw [load_gi R.kind hk]
 rcases hv with hv | ⟨hv, hv'⟩
 ·exact Calls.loadGlobal_global (by rw [R.glob]; exact base_ns H S N.g) hv h
 ·exact Calls.loadGlobal_builtin (by rw [R.glob]; exact base_ns H S N.g) hv (by rw [R.bi]; exact base_ns H S N.b) hv' h
end
noncomputable def Grew (T T' : Tab) : Prop := ∀ h₀ cx σ, StRel h₀ cx T σ → StRel h₀ cx T' σ ∧ Nx T T' σ σ
theorem Grew.refl (T : Tab) : Grew T T := fun _ _ σ S => ⟨S, .refl T σ⟩
theorem Grew.made {T : Tab} {a : Addr} {o : Obj} (hn : T a = none) : Grew T (T.set a (some (.froz, o))) := fun h₀ cx σ S => S.made hn
noncomputable def Yields (s : Shared) (T : Tab) (z : FV) (Q : Value → Shared → Prop) : Prop := ∀ T' h' k v, T'.In h' → Grew T T' → VRel T' z v → Q v { s with heap := h', toks := k }
theorem Yields.at {s : Shared} {T : Tab} {z : FV} {Q : Value → Shared → Prop} (h : Yields s T z Q) (H : T.In s.heap) {v : Value} {k : Nat} (r : VRel T z v) : Q v { s with toks := k } := h T s.heap k v H (.refl T) r
theorem Yields.now {s : Shared} {T : Tab} {z : FV} {Q : Value → Shared → Prop} (h : Yields s T z Q) (H : T.In s.heap) {v : Value} (r : VRel T z v) : Q v s := h.at H (k := s.toks) r
theorem Yields.kept {s : Shared} {T : Tab} {z : FV} {Q : Value → Shared → Prop} (h : Yields s T z Q) (H : T.In s.heap) {h' : Heap} {k : Nat} {v : Value} (hk : ∀ b o, s.heap.get? b = some o → h'.get? b = some o) (r : VRel T z v) : Q v { s with heap := h', toks := k } :=
 h T h' k v (fun a w o e => hk a o (H a w o e)) (.refl T) r
theorem Yields.made {s : Shared} {T : Tab} {z : FV} {Q : Value → Shared → Prop} (h : Yields s T z Q) (H : T.In s.heap) {h' : Heap} {k : Nat} {a : Addr} {o : Obj} (hk : ∀ b o, s.heap.get? b = some o → h'.get? b = some o) (hn : T a = none) (ho : h'.get? a = some o)
  (r : ∀ T', FMono T T' → T' a = some (.froz, o) → VRel T' z (.ref a)) : Q (.ref a) { s with heap := h', toks := k } :=
 h (T.set a (some (.froz, o))) h' k _ (fun b w' o' e => by
  by_cases hb : b = a
  ·subst hb; rw [Tab.set_self] at e; obtain ⟨rfl, rfl⟩ := Prod.mk.inj (Option.some.inj e); exact ho
  ·rw [Tab.set_ne _ _ hb] at e; exact hk _ _ (H _ _ _ e)) (.made hn) (r _ (ext_set hn).f (Tab.set_self ..))
section
variable {prog : Program} {w : World} {A : Around} {E : Value → Shared → Prop} {s : Shared} {T : Tab}
theorem fit_line {n : Nat} (h : n ≤ 1000000) : n ≤ sizeLine := by rw [sizeLine_eq]; exact O1
theorem truth_ok (H : T.In s.heap) {x : FV} {v : Value} {b : Bool} (hx : DRel T x v) (e : FV.truth x = some b) {Q : Bool → Shared → Prop} (h : ∀ k, Q b { s with toks := k }) : wpAny (model prog w) A (truthy v) Q E s := by
 induction x using FV.casesOn with
 | none => obtain rfl := Option.some.inj e; rw [show v = .none from hx]; exact truthy_none (h s.toks)
 | bool c => obtain rfl := Option.some.inj e; rw [show v = .bool _ from hx]; exact wpAny_truthy_bool (h s.toks)
 | int i => obtain rfl := Option.some.inj e; obtain ⟨t, rfl⟩ := hx; exact P.truthy_int (h s.toks)
 | str x =>
  obtain ⟨hz, rfl⟩ := ite_some e
  obtain ⟨t, rfl⟩ := hx
  refine P.truthy_str (fit' hz) ?_
  rw [show ((x.length : Int) != 0) = (x.length != 0) by cases x.length <;> rfl]; exact h _
 | list l =>
  obtain ⟨hz, rfl⟩ := ite_some e
  obtain ⟨a, w', o, vs, rfl, ta, L, R⟩ := hx
  refine wpAny_truthy_list (lobj_is (H _ _ _ ta) L) (fit (Nat.le_trans (Nat.le_of_eq R.len) hz)) ?_
  rw [show (⟨vs⟩ : Array Value).isEmpty = l.isEmpty from by
   have := R.len
   induction l using List.casesOn <;> cases vs <;> first | rfl | exact nomatch this]; exact h _
 | _ => exact no e
theorem len_ok (H : T.In s.heap) (hu : A.units < cLine) {x z : FV} {v : Value} (hx : DRel T x v) (hb : ∀ b, x ≠ .barr b) (e : biFV .len [x] = some z) {Q : Value → Shared → Prop} (h : ∀ r k, VRel T z r → Q r { s with toks := k }) : wpAny (model prog w) A (call (.builtin "len") [v]) Q E s := by
 induction x using FV.casesOn with
 | str b => obtain ⟨hz, rfl⟩ := ite_some e; obtain ⟨t, rfl⟩ := hx; exact P.len_str (fit' hz) (h _ _ ⟨_, rfl⟩)
 | bytes b => obtain ⟨hz, rfl⟩ := ite_some e; obtain ⟨t, rfl⟩ := hx; exact PySem.W.len_bytes (b := ⟨b⟩) (Nat.le_trans hz (by decide)) (h _ _ ⟨_, rfl⟩)
 | barr b => exact absurd rfl (hb _)
 | tup l =>
  obtain ⟨hz, rfl⟩ := ite_some e
  obtain ⟨a, o, vs, rfl, ta, ⟨n, rfl⟩, R⟩ := hx
  exact Calls.call_function_entry kind_len plain_len entry_len (args_len1 _) (ktl_len (H _ _ _ ta) (fit' (Nat.le_trans (Nat.le_of_eq R.len) hz)) (h _ _ ⟨s.toks + 1, congrArg (fun n : Nat => Value.int n _) R.len⟩))
 | list l =>
  obtain ⟨hz, rfl⟩ := ite_some e
  obtain ⟨a, w', o, vs, rfl, ta, L, R⟩ := hx
  exact Calls.call_len_list (lobj_is (H _ _ _ ta) L) (fit (Nat.le_trans (Nat.le_of_eq R.len) hz)) (h _ _ ⟨s.toks + 1, congrArg (fun n : Nat => Value.int n _) R.len⟩)
 | _ => exact no e
theorem ite2 {c d : Prop} [Decidable c] [Decidable d] {a b z : Bool} {G : Prop} (e : (if c then some a else if d then some b else none) = some z) (k : c → a = z → G) (k' : d → b = z → G) : G := by
 by_cases h : c
 ·rw [if_pos h] at e; exact k h (Option.some.inj e)
 ·rw [if_neg h] at e; exact ik e fun h e => k' h (Option.some.inj e)
theorem isi_ok {T' : String} {x : FV} {v : Value} {b : Bool} (hx : VRel T x v) (e : FV.isT T' x = some b) {Q : Value → Shared → Prop} (h : ∀ k, Q (.bool b) { s with toks := k }) : wpAny (model prog w) A (call (.builtin "isinstance") [v, .type T']) Q E s := by
 induction x using FV.casesOn with
 | none =>
  obtain ⟨hT, rfl⟩ := ite_some e
  rw [show v = .none from hx]
  rcases hT with rfl | rfl | rfl
  ·exact IsiPair.NoneType_int (h _)
  ·exact IsiPair.NoneType_str (h _)
  ·exact IsiPair.NoneType_bytes (h _)
 | int i =>
  obtain ⟨t, rfl⟩ := hx
  refine ite2 e (fun hT hb => ?_) (fun hT hb => ?_)
  ·subst hT hb; exact IsiPair.int_int (h s.toks)
  ·subst hb
   rcases hT with rfl | rfl
   ·exact IsiPair.int_str (h _)
   ·exact IsiPair.int_bytes (h _)
 | str i =>
  obtain ⟨t, rfl⟩ := hx
  refine ite2 e (fun hT hb => ?_) (fun hT hb => ?_)
  ·subst hT hb; exact IsiPair.str_str (h s.toks)
  ·subst hb
   rcases hT with rfl | rfl
   ·exact IsiPair.str_int (h _)
   ·exact IsiPair.str_bytes (h _)
 | bytes yb =>
  obtain ⟨t, rfl⟩ := hx
  obtain ⟨hh, g, d, tk, os⟩ := s
  have key : ∀ {U : String}, (Value.type "bytes" == Value.type U) = false → typeOf (.type U) = pure (.type "type") → isSubtype (.type "bytes") (.type U) = pure false → b = false →
    wpAny (model prog w) A (call (.builtin "isinstance") [.bytes ⟨yb⟩ t, .type U]) Q E ⟨hh, g, d, tk, os⟩ := fun {U} h1 h2 h3 h4 =>
   call_isinstance (S := fun _ R s => R (.ok (.ret (.bool false))) { s with toks := s.toks + 1 }) (fun _ _ _ _ s hs => by
    obtain ⟨h, g, d, t, os⟩ := s
    exact isinstance_outer (isinstance_nested_false_bytes h1 h2 h3 hs)) (h4 ▸ h _)
  refine ite2 e (fun hT hb => ?_) (fun hT hb => ?_)
  ·subst hT hb; exact call_isinstance (isinstance_true (Tx := "bytes") F.isi_meta_bytes F.sub_bytes_bytes) ⟨typeIs_bytes _ _ _, h tk⟩
  ·rcases hT with rfl | rfl
   ·exact key (by decide +kernel) F.isi_meta_int F.sub_bytes_int hb.symm
   ·exact key (by decide +kernel) F.isi_meta_str F.sub_bytes_str hb.symm
 | _ => exact no e
theorem ord_ok {x : Str} {z : FV} {v : Value} (hx : VRel T (.str x) v) (e : biFV .ord [.str x] = some z) {Q : Value → Shared → Prop} (h : ∀ r k, VRel T z r → Q r { s with toks := k }) : wpAny (model prog w) A (call (.builtin "ord") [v]) Q E s := by
 obtain ⟨t, rfl⟩ := hx
 obtain ⟨⟨l⟩⟩ := x
 match l, e with
 | [c], e => obtain rfl := Option.some.inj e; exact P.ord_of_char (h _ _ ⟨_, rfl⟩)
theorem chr_ok {i : Int} {z : FV} {v : Value} (hx : VRel T (.int i) v) (e : biFV .chr [.int i] = some z) {Q : Value → Shared → Prop} (h : ∀ r k, VRel T z r → Q r { s with toks := k }) : wpAny (model prog w) A (call (.builtin "chr") [v]) Q E s := by
 obtain ⟨t, rfl⟩ := hx
 obtain ⟨hc, rfl⟩ := ite_some e
 simp only [Bool.and_eq_true, decide_eq_true_eq] at hc
 refine P.chr_of_int ?_ (h _ _ ⟨_, rfl⟩)
 simp only [Bool.or_eq_false_iff, decide_eq_false_iff_not]
 omega
theorem int_ok {x z : FV} {v : Value} (hx : VRel T x v) (e : biFV .int [x] = some z) {Q : Value → Shared → Prop} (h : ∀ r k, VRel T z r → Q r { s with toks := k }) : wpAny (model prog w) A (call (.type "int") [v]) Q E s := by
 induction x using FV.casesOn with
 | bool b => obtain rfl := Option.some.inj e; rw [show v = .bool _ from hx]; exact call_int_bool (h _ _ ⟨_, rfl⟩)
 | int i => obtain rfl := Option.some.inj e; obtain ⟨t, rfl⟩ := hx; exact call_int_int (h _ s.toks ⟨_, rfl⟩)
 | _ => exact no e
theorem bool_ok {x z : FV} {v : Value} (hx : VRel T x v) (e : biFV .bool [x] = some z) {Q : Value → Shared → Prop} (h : ∀ r k, VRel T z r → Q r { s with toks := k }) : wpAny (model prog w) A (call (.type "bool") [v]) Q E s := by
 induction x using FV.casesOn with
 | bool b => obtain rfl := Option.some.inj e; rw [show v = .bool _ from hx]; exact call_bool_bool (h _ s.toks rfl)
 | _ => exact no e
theorem max_ok (H : T.In s.heap) (hh : A.handled = none) {x y z : FV} {u v : Value} (hx : VRel T x u) (hy : VRel T y v) (e : biFV .max [x, y] = some z) {Q : Value → Shared → Prop} (h : Yields s T z Q) : wpAny (model prog w) A (call (.builtin "max") [u, v]) Q E s := by
 obtain ⟨i, rfl⟩ : ∃ i, x = .int i := by induction x using FV.casesOn <;> first | exact ⟨_, rfl⟩ | exact no e
 obtain ⟨j, rfl⟩ : ∃ j, y = .int j := by induction y using FV.casesOn <;> first | exact ⟨_, rfl⟩ | exact no e
 obtain rfl := Option.some.inj e
 obtain ⟨t, rfl⟩ := hx; obtain ⟨t', rfl⟩ := hy
 refine max_two_ints hh fun h' tk hk => h.kept H hk ?_
 by_cases hc : i < j
 ·rw [if_pos hc, if_pos (show j > i from hc)]; exact ⟨_, rfl⟩
 ·rw [if_neg hc, if_neg (show ¬ j > i from hc)]; exact ⟨_, rfl⟩
end
namespace FF
theorem slot_append : Slot "bytearray" "append" "bytearray.append" :=
 .of (owner := "bytearray") (n := "append") (by rw [typeLookup_type, builtinLookup_eq_fast]; kernel_rfl) (by decide +kernel) (by decide +kernel) (by decide +kernel) (.inr (by decide +kernel)) (by rw [isSubtype_type]; kernel_rfl)
theorem slot_extend : Slot "bytearray" "extend" "bytearray.extend" :=
 .of (owner := "bytearray") (n := "extend") (by rw [typeLookup_type, builtinLookup_eq_fast]; kernel_rfl) (by decide +kernel) (by decide +kernel) (by decide +kernel) (.inr (by decide +kernel)) (by rw [isSubtype_type]; kernel_rfl)
theorem slot_init : Slot "bytearray" "__init__" "bytearray.__init__" :=
 .of (owner := "bytearray") (n := "__init__") (by rw [typeLookup_type, builtinLookup_eq_fast]; kernel_rfl) (by decide +kernel) (by decide +kernel) (by decide +kernel) (.inl (by decide +kernel)) (by rw [isSubtype_type]; kernel_rfl)
theorem slot_len : Slot "bytearray" "__len__" "bytearray.__len__" :=
 .of (owner := "bytearray") (n := "__len__") (by rw [typeLookup_type, builtinLookup_eq_fast]; kernel_rfl) (by decide +kernel) (by decide +kernel) (by decide +kernel) (.inl (by decide +kernel)) (by rw [isSubtype_type]; kernel_rfl)
theorem slot_iter : Slot "bytearray" "__iter__" "bytearray.__iter__" :=
 .of (owner := "bytearray") (n := "__iter__") (by rw [typeLookup_type, builtinLookup_eq_fast]; kernel_rfl) (by decide +kernel) (by decide +kernel) (by decide +kernel) (.inl (by decide +kernel)) (by rw [isSubtype_type]; kernel_rfl)
theorem slot_buffer : Slot "bytearray" "__buffer__" "bytearray.__buffer__" :=
 .of (owner := "bytearray") (n := "__buffer__") (by rw [typeLookup_type, builtinLookup_eq_fast]; kernel_rfl) (by decide +kernel) (by decide +kernel) (by decide +kernel) (.inl (by decide +kernel)) (by rw [isSubtype_type]; kernel_rfl)
theorem entry_append : entryFor table "bytearray.append" = some Builtin.«bytearray.append» := entryFor_of_tree (by kernel_rfl)
theorem entry_extend : entryFor table "bytearray.extend" = some Builtin.«bytearray.extend» := entryFor_of_tree (by kernel_rfl)
theorem entry_init : entryFor table "bytearray.__init__" = some Builtin.«bytearray.__init__» := entryFor_of_tree (by kernel_rfl)
theorem entry_len : entryFor table "bytearray.__len__" = some Builtin.«bytearray.__len__» := entryFor_of_tree (by kernel_rfl)
theorem entry_iter : entryFor table "bytearray.__iter__" = some Builtin.«bytearray.__iter__» := entryFor_of_tree (by kernel_rfl)
theorem owner_bytearray : Manifest.owners.lookup (String.ofList ['y', 'a', 'r', 'r', 'a', 'e', 't', 'y', 'b'].reverse) = some Manifest.sig_bytearray := by kernel_rfl
theorem args_append (a b : Value) : argsOk "bytearray.append" ⟨[a, b], []⟩ := by
 unfold argsOk; rw [signature?_of (id := "bytearray.append") (n := ['d', 'n', 'e', 'p', 'p', 'a']) (o := ['y', 'a', 'r', 'r', 'a', 'e', 't', 'y', 'b']) (by kernel_rfl) owner_bytearray]; kernel_rfl
theorem args_extend (a b : Value) : argsOk "bytearray.extend" ⟨[a, b], []⟩ := by
 unfold argsOk; rw [signature?_of (id := "bytearray.extend") (n := ['d', 'n', 'e', 't', 'x', 'e']) (o := ['y', 'a', 'r', 'r', 'a', 'e', 't', 'y', 'b']) (by kernel_rfl) owner_bytearray]; kernel_rfl
theorem args_init (a : Value) : argsOk "bytearray.__init__" ⟨[a], []⟩ := by
 unfold argsOk; rw [signature?_of (id := "bytearray.__init__") (n := ['_', '_', 't', 'i', 'n', 'i', '_', '_']) (o := ['y', 'a', 'r', 'r', 'a', 'e', 't', 'y', 'b']) (by kernel_rfl) owner_bytearray]; kernel_rfl
theorem args_len (a : Value) : argsOk "bytearray.__len__" ⟨[a], []⟩ := by
 unfold argsOk; rw [signature?_of (id := "bytearray.__len__") (n := ['_', '_', 'n', 'e', 'l', '_', '_']) (o := ['y', 'a', 'r', 'r', 'a', 'e', 't', 'y', 'b']) (by kernel_rfl) owner_bytearray]; kernel_rfl
theorem args_iter (a : Value) : argsOk "bytearray.__iter__" ⟨[a], []⟩ := by
 unfold argsOk; rw [signature?_of (id := "bytearray.__iter__") (n := ['_', '_', 'r', 'e', 't', 'i', '_', '_']) (o := ['y', 'a', 'r', 'r', 'a', 'e', 't', 'y', 'b']) (by kernel_rfl) owner_bytearray]; kernel_rfl
theorem idx_int : typeLookup (.type "int") (Str.ofString "__index__") = pure (some (.builtin "int.__index__")) := by rw [typeLookup_type, builtinLookup_eq_fast]; kernel_rfl
theorem lk_bytes_buffer : typeLookup (.type "bytes") (Str.ofString "__buffer__") = pure (some (.builtin "bytes.__buffer__")) := by rw [typeLookup_type, builtinLookup_eq_fast]; kernel_rfl
end FF
noncomputable def fin (Q : Value → Shared → Prop) (f : Fin) (s : Shared) : Prop := ∃ v, f = .done (.ret v) ∧ Q v s
section
variable {prog : Program} {w : World} {Γ : Ctx} {A : Around} {E : Value → Shared → Prop} {s : Shared} {T : Tab} {cl : Bool} {n : Nat}
theorem Wk.ite {α : Type} {c : Prop} [Decidable c] {a b : Sem α} {Q : α → Shared → Prop} (h1 : c → Wk prog w Γ a Q s) (h2 : ¬ c → Wk prog w Γ b Q s) : Wk prog w Γ (if c then a else b) Q s := by
 by_cases h : c
 ·rw [if_pos h]; exact h1 h
 ·rw [if_neg h]; exact h2 h
theorem Cd.builtin {Γ : Ctx} {id : String} {args : Args} {b : Builtin} {R : Flow → Shared → Prop} (hc : Γ.code = .builtin id args) (hb : entryFor table id = some b)
  (h : Wk prog w Γ (b args) (fun fin s' => match fin with | .done f => R f s' | .again c' => c'.quiet = true ∧ Cd prog w (Γ.goto c') R s') s) : Cd prog w Γ R s := by
 refine Cd.tree ?_
 rw [hc]
 show Wk prog w _ (match entryFor table id with | some b => b args | none => unsupported ((withoutEnding? id "#data").getD id)) _ s
 rw [hb]
 exact h
theorem Wk.callB0 (hI : Γ.In A) (hcl : cl = true → Clean Γ) {id : String} {args : Args} {b : Builtin} {Q : Value → Shared → Prop} (hq : plainId id = true) (hb : entryFor table id = some b) (hbad : bad (.builtin id args) = false)
  (hck : ∀ (M : Model) (A : Around) (E : Value → Shared → Prop) (Q : Unit → Shared → Prop), Q () s → wpAny M A (checkBuiltinCall id args) Q E s)
  (h : ∀ Γ', Γ'.In A.in1 → (cl = true → Clean Γ') → Wk prog w Γ' (b args) (fin Q) s) : Wk prog w Γ (PySem.call (.builtin id) args.pos args.kw) Q s := by
 refine Wk.call fun p => ?_
 have hB : (Γ.enter (.call (.builtin id) args) none p).Below A := by
  have z := hI.enter (.call (.builtin id) args) none p (by intro x; exact no x)
  rwa [mark_none] at z
 refine Cd.tree ?_
 show Wk prog w _ (do checkBuiltinCall id args; again (.builtin id args)) _ s
 have h1 := hB.in
 refine Wk.bind (Wk.of_any h1 (hck _ _ _ _ (Wk.pure ⟨plainId_quiet hq _, ?_⟩)))
 have h2 := (hB.goto (.builtin id args)).in
 refine Cd.tree ?_
 show Wk prog w _ (match entryFor table id with | some b => b args | none => unsupported ((withoutEnding? id "#data").getD id)) _ s
 rw [hb]
 rw [show ((Γ.enter (.call (.builtin id) args) none p).goto (.builtin id args)).code = .builtin id args from rfl, Around.under_plainId hq] at h2
 refine Wk.mono (h _ h2 fun e => ?_) ?_
 ·exact ((hcl e).enter (c := .call (.builtin id) args) rfl p).goto hbad
 ·rintro f s' ⟨v, rfl, hv⟩
  exact hv
theorem Wk.callB (G : Good cl n Γ A) {id : String} {args : Args} {b : Builtin} {Q : Value → Shared → Prop} (hq : plainId id = true) (hb : entryFor table id = some b) (hbad : bad (.builtin id args) = false)
  (hck : ∀ (M : Model) (A : Around) (E : Value → Shared → Prop) (Q : Unit → Shared → Prop), Q () s → wpAny M A (checkBuiltinCall id args) Q E s)
  (h : ∀ Γ', Γ'.In A.in1 → (cl = true → Clean Γ') → Wk prog w Γ' (b args) (fin Q) s) : Wk prog w Γ (PySem.call (.builtin id) args.pos args.kw) Q s := Wk.callB0 G.isIn G.clean hq hb hbad hck h
theorem dite_no {α : Type} {p : Prop} [Decidable p] {a : p → α} {b : ¬p → α} {x : α} (h : ¬p) (e : b h = x) : dite p a b = x := (dif_neg h).trans e
noncomputable def expF (v : Value) (x : Code × Pos) : Bool := Builtin.Bytes.exported.match_1 (fun _ => Bool) x (fun v' _ _ _ => Builtin.Bytes.sameRef v' v) (fun v' _ _ _ => Builtin.Bytes.sameRef v' v) (fun _ v' _ _ _ => Builtin.Bytes.sameRef v' v) (fun v' _ _ _ => Builtin.Bytes.sameRef v' v)
  (fun _ _ held _ _ => held.any (Builtin.Bytes.sameRef v)) (fun id v' _ _ _ => Builtin.Bytes.sameRef v' v && Builtin.Bytes.decodersThatHold.contains id) (fun _ => false)
theorem exp_one {v : Value} {x : Code × Pos} (h : bad x.1 = false) : expF v x = false := by
 obtain ⟨c, q⟩ := x
 induction c with
 | builtin id args =>
  have hb : (["bytearray.__contains__", "bytearray.__mod__", "bytearray.__rmod__", "_struct.pack_into.held", "bytearray.find.held"] ++ PySem.Builtin.Bytes.decodersThatHold).contains id = false := h
  have hn : ∀ y, (["bytearray.__contains__", "bytearray.__mod__", "bytearray.__rmod__", "_struct.pack_into.held", "bytearray.find.held"] : List String).contains y = true → id ≠ y := fun y hy e => by
   subst e
   exact Bool.false_ne_true (hb.symm.trans (List.contains_iff_mem.mpr (List.mem_append_left _ (List.contains_iff_mem.mp hy))))
  have h3 : Builtin.Bytes.decodersThatHold.contains id = false := by
   cases e : Builtin.Bytes.decodersThatHold.contains id with
   | false => rfl
   | true => exact (hb.symm.trans (List.contains_iff_mem.mpr (List.mem_append_right _ (List.contains_iff_mem.mp e)))).symm
  obtain ⟨pos, kw⟩ := args
  unfold expF Builtin.Bytes.exported.match_1
  refine dite_no (hn "bytearray.__contains__" (by decide)) ?_
  refine dite_no (hn "bytearray.__mod__" (by decide)) ?_
  refine dite_no (hn "bytearray.__rmod__" (by decide)) ?_
  refine dite_no (hn "_struct.pack_into.held" (by decide)) ?_
  refine dite_no (hn "bytearray.find.held" (by decide)) ?_
  induction pos using List.casesOn with
  | nil => rfl
  | cons a l => show (Builtin.Bytes.sameRef a v && Builtin.Bytes.decodersThatHold.contains id) = false; rw [h3, Bool.and_false]
 | _ => rfl
theorem exported_no (C : Clean Γ) {v : Value} {Q : Bool → Shared → Prop} (h : Q false s) : Wk prog w Γ (Builtin.Bytes.exported v) Q s := fun p => by
 show Sem.wp _ Γ (Sem.bind stack fun st => pure (st.any _)) _ _ p s
 unfold stack
 rw [Sem.wp_bind, Sem.wp_stack]
 show Sem.wp _ Γ (Sem.pure ((Γ.code, p) :: Γ.below)) _ _ p s
 rw [show (Sem.pure ((Γ.code, p) :: Γ.below) : Sem _) = pure ((Γ.code, p) :: Γ.below) from rfl, Sem.wp_pure', Sem.wp_pure']
 have key : ((Γ.code, p) :: Γ.below).any (expF v) = false := List.any_eq_false.mpr fun x hx => Bool.eq_false_iff.mp (exp_one (by
  rcases List.mem_cons.mp hx with rfl | hx
  ·exact C.1
  ·exact C.2 x hx))
 rw [← key] at h
 exact h
theorem checkResize_ok (C : Clean Γ) (hA : Γ.In A) {a : Addr} {o : Obj} {b : List UInt8} {Q : Unit → Shared → Prop} (ha : s.heap.get? a = some o) (hb : BObj o b) (h : Q () s) : Wk prog w Γ (Builtin.Bytes.checkResize (.ref a)) Q s := by
 unfold Builtin.Bytes.checkResize
 have h1 : Wk prog w Γ (do return (← Builtin.Bytes.exportsOf (.ref a)) > 0 : Sem Bool) (fun r s' => r = false ∧ s' = s) s := by
  refine Wk.of_any hA ?_
  unfold Builtin.Bytes.exportsOf
  refine wpAny_bind (wpAny_bind (wpAny_load ha ?_))
  rw [hb]
  exact wpAny_pure (wpAny_pure ⟨rfl, rfl⟩)
 refine Wk.bind ?_
 refine Wk.bind (exported_no C ?_)
 refine Wk.mono h1 ?_
 rintro r s' ⟨rfl, rfl⟩
 exact Wk.pure h
theorem write_ba {a : Addr} {o : Obj} {b : List UInt8} {f : Array UInt8 → Array UInt8} {c : List UInt8} {M : Model} {Q : Unit → Shared → Prop} (ha : s.heap.get? a = some o) (hb : BObj o b) (hf : f ⟨b⟩ = ⟨c⟩) (hz : c.length ≤ sizeLine)
  (h : ∀ h' o', h'.get? a = some o' → BObj o' c → Heap.SameBut a s.heap h' → Q () { s with heap := h' }) : wpAny M A (Builtin.Bytes.write (.ref a) f) Q E s := by
 show wpAny M A (updateBytearray a f) Q E s
 unfold updateBytearray
 refine wpAny_bind (wpAny_load ha ?_)
 rw [hb]
 show wpAny M A (update a (Obj.mapBytearray f) >>= fun _ => lookBehind a) Q E s
 refine wpAny_bind (wpAny_update ha ?_)
 have e : (s.heap.update a (Obj.mapBytearray f)).get? a = some { cls := .type "bytearray", dict := none, data := .bytearray ⟨c⟩ 0, slots := #[] } := by
  rw [Heap.get?_update_self (Obj.mapBytearray f) ha (by rw [hb]; rfl), hb]
  show some ({ cls := .type "bytearray", dict := none, data := .bytearray (f ⟨b⟩) 0, slots := #[] } : Obj) = _
  rw [hf]
 refine wpAny_lookBehind (s := { s with heap := s.heap.update a (Obj.mapBytearray f) }) e ?_ (h _ _ e rfl (Heap.SameBut.update ..))
 show (if c.length > sizeLine then some "bytearray:memory" else none) = none
 rw [if_neg O69]
theorem append_ba (G : Good true n Γ A) {a : Addr} {o : Obj} {b : List UInt8} {i : Int} {t : Tok} {Q : Value → Shared → Prop} (ha : s.heap.get? a = some o) (hb : BObj o b) (hz : b.length ≤ 1000000) (h0 : 0 ≤ i) (h1 : i < 256)
  (h : ∀ h' o', h'.get? a = some o' → BObj o' (b ++ [i.toNat.toUInt8]) → Heap.SameBut a s.heap h' → Q .none { s with heap := h' }) : Wk prog w Γ (PySem.call (.builtin "bytearray.append") [.ref a, .int i t] []) Q s := by
 have hT : s.TypeIs (.ref a) "bytearray" := ⟨o, ha, by rw [hb]⟩
 refine Wk.callB G (args := ⟨[.ref a, .int i t], []⟩) FF.slot_append.plain FF.entry_append (show bad (.builtin "bytearray.append" ⟨[], []⟩) = false by decide) (fun M A E Q hq => FF.slot_append.check _ _ _ _ _ _ _ _ hT (FF.args_append _ _) hq) fun Γ' hI hC => ?_
 show Wk prog w Γ' (do
  let (self, x) ← selfAndOne "bytearray.append" ⟨[.ref a, .int i t], []⟩
  let c ← Builtin.Bytes.byteValue x
  Builtin.Bytes.checkResize self
  Builtin.Bytes.write self (·.push c)
  ret .none) _ s
 refine Wk.bind (Wk.pure (a := (Value.ref a, Value.int i t)) ?_)
 refine Wk.bind (Wk.of_any hI ?_)
 unfold Builtin.Bytes.byteValue
 refine wpAny_bind (wpAny_of_eq (rfl : asIndex (.int i t) = pure i) ?_)
 have e : (decide (i < 0) || decide (i ≥ 256)) = false := by simp only [Bool.or_eq_false_iff, decide_eq_false_iff_not]; omega
 refine wpAny_ite_split (fun hc => by rw [e] at hc; exact nob hc) (fun _ => ?_)
 refine wpAny_pure ?_
 refine Wk.bind (checkResize_ok (hC rfl) hI ha hb ?_)
 refine Wk.bind (Wk.of_any hI (write_ba ha hb (c := b ++ [i.toNat.toUInt8]) (by simp) (by rw [sizeLine_eq]; simp; exact O1) fun h' o' x y z => ?_))
 exact Wk.pure ⟨_, rfl, h h' o' x y z⟩
theorem lk_ba_release : typeLookup (.type "bytearray") (Str.ofString "__release_buffer__") = pure (some (.builtin "bytearray.__release_buffer__")) := by rw [typeLookup_type, builtinLookup_eq_fast]; kernel_rfl
theorem sub_ba : isSubtype (.type "bytearray") (.type "bytearray") = pure true := by rw [isSubtype_type]; kernel_rfl
theorem own_ba {M : Model} {a : Addr} {name id : String} {Q : Bool → Shared → Prop} (hT : s.TypeIs (.ref a) "bytearray") (hl : typeLookup (.type "bytearray") (Str.ofString name) = pure (some (.builtin id)))
  (h1 : id.endsWith ("." ++ name) = true) (h2 : id.dropRight (name.length + 1) = "bytearray") (h : Q true s) : wpAny M A (Builtin.Bytes.slotIsOwn (.ref a) name) Q E s := by
 unfold Builtin.Bytes.slotIsOwn
 refine wpAny_bind (wpAny_specialOf hT hl ?_)
 show wpAny M A (if (!id.endsWith ("." ++ name)) = true then _ else _) Q E s
 rw [h1]
 refine wpAny_ite_split (fun hc => by exact nob hc) (fun _ => ?_)
 rw [h2]
 exact wpAny_isInstance hT sub_ba h
theorem buffer_ba {M : Model} {a : Addr} {o : Obj} {b : List UInt8} {id : String} {full : Bool} {Q : Option (Array UInt8) → Shared → Prop} (ha : s.heap.get? a = some o) (hb : BObj o b) (h : Q (some ⟨b⟩) s) : wpAny M A (Builtin.Bytes.buffer? id (.ref a) full) Q E s := by
 have hT : s.TypeIs (.ref a) "bytearray" := ⟨o, ha, by rw [hb]⟩
 have own := fun (Q : Bool → Shared → Prop) (hq : Q true s) => own_ba (M := M) (A := A) (E := E) (name := "__buffer__") hT FF.slot_buffer.lookup (by decide +kernel) (by decide +kernel) hq
 have rel := fun (Q : Bool → Shared → Prop) (hq : Q true s) => own_ba (M := M) (A := A) (E := E) (name := "__release_buffer__") hT lk_ba_release (by decide +kernel) (by decide +kernel) hq
 unfold Builtin.Bytes.buffer?
 refine wpAny_bind (wpAny_specialOf hT FF.slot_buffer.lookup ?_)
 refine wpAny_bind (own _ ?_)
 refine wpAny_ite_split (fun hc => by exact nob hc) (fun _ => ?_)
 refine wpAny_bind (wpAny_specialOf hT FF.slot_buffer.lookup ?_)
 show wpAny M A (Builtin.Bytes.ownRelease (.ref a) >>= fun _ => _) Q E s
 unfold Builtin.Bytes.ownRelease
 refine wpAny_bind (wpAny_bind (rel _ (wpAny_pure ?_)))
 refine wpAny_ite_split (fun hc => by exact nob hc) (fun _ => ?_)
 unfold Builtin.Bytes.payload Builtin.Bytes.payload?
 refine wpAny_bind (wpAny_bind (wpAny_bind (wpAny_load ha ?_)))
 rw [hb]
 exact wpAny_pure (wpAny_pure (wpAny_pure h))
theorem take_ba {M : Model} {a : Addr} {o : Obj} {b : List UInt8} {id : String} {Q : Option (Array UInt8 × Option Value) → Shared → Prop} (ha : s.heap.get? a = some o) (hb : BObj o b) (h : Q (some (⟨b⟩, none)) s) : wpAny M A (Builtin.Bytes.takeBufferQuiet? id (.ref a) 0) Q E s := by
 have hT : s.TypeIs (.ref a) "bytearray" := ⟨o, ha, by rw [hb]⟩
 unfold Builtin.Bytes.takeBufferQuiet? Builtin.Bytes.takeBuffer?
 refine wpAny_bind (wpAny_attempt ?_)
 refine wpAny_bind (wpAny_specialOf hT FF.slot_buffer.lookup ?_)
 refine wpAny_bind (own_ba hT FF.slot_buffer.lookup (by decide +kernel) (by decide +kernel) ?_)
 refine wpAny_ite_split (fun hc => by exact nob hc) (fun _ => ?_)
 refine wpAny_bind (wpAny_specialOf hT FF.slot_buffer.lookup ?_)
 refine wpAny_bind (buffer_ba ha hb ?_)
 exact wpAny_pure (wpAny_pure h)
theorem take_bytes {M : Model} {b : Array UInt8} {t : Tok} {id : String} {Q : Option (Array UInt8 × Option Value) → Shared → Prop} (h : Q (some (b, none)) s) : wpAny M A (Builtin.Bytes.takeBufferQuiet? id (.bytes b t) 0) Q E s := by
 unfold Builtin.Bytes.takeBufferQuiet? Builtin.Bytes.takeBuffer?
 refine wpAny_bind (wpAny_attempt ?_)
 refine wpAny_bind (wpAny_of_eq (PySem.W.KBy.special_eq PySem.W.KBy.look_buffer) ?_)
 refine wpAny_bind (wpAny_of_eq PySem.W.KBy.own_buffer ?_)
 refine wpAny_ite_split (fun hc => by exact nob hc) (fun _ => ?_)
 refine wpAny_bind (wpAny_of_eq (PySem.W.KBy.special_eq PySem.W.KBy.look_buffer) ?_)
 show wpAny M A (Builtin.Bytes.buffer? id (.bytes b t) false >>= _) _ _ s
 refine wpAny_bind (wpAny_of_eq PySem.W.KBy.buffer_eq ?_)
 exact wpAny_pure (wpAny_pure h)
theorem extend_ba (G : Good true n Γ A) {a : Addr} {o : Obj} {b c : List UInt8} {x : Value} {Q : Value → Shared → Prop} (ha : s.heap.get? a = some o) (hb : BObj o b) (hz : b.length + c.length ≤ 1000000)
  (hx : (∃ t, x = .bytes ⟨c⟩ t) ∨ ∃ d oc, x = .ref d ∧ s.heap.get? d = some oc ∧ BObj oc c)
  (h : ∀ h' o', h'.get? a = some o' → BObj o' (b ++ c) → Heap.SameBut a s.heap h' → Q .none { s with heap := h' }) : Wk prog w Γ (PySem.call (.builtin "bytearray.extend") [.ref a, x] []) Q s := by
 have hT : s.TypeIs (.ref a) "bytearray" := ⟨o, ha, by rw [hb]⟩
 refine Wk.callB G (args := ⟨[.ref a, x], []⟩) FF.slot_extend.plain FF.entry_extend (show bad (.builtin "bytearray.extend" ⟨[], []⟩) = false by decide) (fun M A E Q hq => FF.slot_extend.check _ _ _ _ _ _ _ _ hT (FF.args_extend _ _) hq) fun Γ' hI hC => ?_
 have hsp : ∀ {M : Model} {A : Around} {E : Value → Shared → Prop} {Q : Option Value → Shared → Prop}, (∀ v, Q (some v) s) → wpAny M A (specialOf x (Str.ofString "__buffer__")) Q E s := by
  rcases hx with ⟨t, rfl⟩ | ⟨d, oc, rfl, hd, hcd⟩
  ·intro M A E Q hq; exact wpAny_of_eq (PySem.W.KBy.special_eq PySem.W.KBy.look_buffer) (hq _)
  ·intro M A E Q hq; exact wpAny_specialOf (v := .ref d) ⟨oc, hd, by rw [hcd]⟩ FF.slot_buffer.lookup (hq _)
 have htk : ∀ {M : Model} {A : Around} {E : Value → Shared → Prop} {Q : Option (Array UInt8 × Option Value) → Shared → Prop}, Q (some (⟨c⟩, none)) s → wpAny M A (Builtin.Bytes.takeBufferQuiet? "bytearray.extend" x 0) Q E s := by
  rcases hx with ⟨t, rfl⟩ | ⟨d, oc, rfl, hd, hcd⟩
  ·intro M A E Q hq; exact take_bytes hq
  ·intro M A E Q hq; exact take_ba hd hcd hq
 show Wk prog w Γ' (selfAndOne "bytearray.extend" ⟨[.ref a, x], []⟩ >>= _) _ s
 refine Wk.bind (Wk.pure (a := (Value.ref a, x)) ?_)
 refine Wk.bind (Wk.of_any hI (hsp fun v => ?_))
 refine Wk.ite (fun _ => ?_) (fun hc => absurd rfl hc)
 refine Wk.bind (Wk.rule ?_)
 refine Wk.bind (Wk.of_any hI ?_)
 unfold Builtin.Bytes.payload Builtin.Bytes.payload?
 refine wpAny_bind (wpAny_bind (wpAny_load ha ?_))
 rw [hb]
 refine wpAny_pure (wpAny_pure ?_)
 refine Wk.bind (Wk.of_any hI (htk ?_))
 refine Wk.ite (fun _ => ?_) (fun hc => absurd rfl hc)
 show Wk prog w Γ' (if (!(⟨c⟩ : Array UInt8).isEmpty) = true then (Builtin.Bytes.checkResize (.ref a) >>= fun _ => (do Builtin.Bytes.write (.ref a) (· ++ ⟨c⟩); ret .none)) else (do Builtin.Bytes.write (.ref a) (· ++ ⟨c⟩); ret .none)) _ s
 have tail : Wk prog w Γ' (do Builtin.Bytes.write (.ref a) (· ++ ⟨c⟩); ret .none) (fin Q) s := by
  refine Wk.bind (Wk.of_any hI (write_ba ha hb (c := b ++ c) (by simp) (by rw [sizeLine_eq]; simp; exact O1) fun h' o' x y z => ?_))
  exact Wk.pure ⟨_, rfl, h h' o' x y z⟩
 exact Wk.ite (fun _ => Wk.bind (checkResize_ok (hC rfl) hI ha hb tail)) (fun _ => tail)
namespace FF
theorem mro_ba : mroOf (.type "bytearray") = pure [.type "bytearray", .type "object"] := by rw [mroOf_type]; kernel_rfl
theorem lookup_ba_new : typeLookup (.type "bytearray") "__new__" = pure (some (.builtin "bytearray.__new__")) := by rw [typeLookup_type, builtinLookup_eq_fast]; kernel_rfl
theorem made_ba : Bind.madeBy (.type "bytearray") = pure (some "bytearray.__new__") := madeBy_type mro_ba lookup_ba_new (by decide +kernel)
theorem typeCall_ba : checkTypeCall "bytearray" ⟨[], []⟩ = pure () := by kernel_rfl
theorem newCall_ba : checkBuiltinCall "bytearray.__new__" ⟨[.type "bytearray"], []⟩ = pure () := by kernel_rfl
theorem entry_new : entryFor table "bytearray.__new__" = some Builtin.«list.__new__» := entryFor_alias (id' := "list.__new__") (by kernel_rfl) (by first | rfl | decide +kernel) (by decide +kernel) (by kernel_rfl)
theorem plain_new : plainId "bytearray.__new__" = true := by decide +kernel
theorem create_ba : ((Manifest.find? "bytearray").bind (·.mro.findSome? fun t => (Manifest.find? t).bind fun b => if b.noNew then some true else if b.attrs.any (·.1 == "__new__") then some false else none)).getD false = false := by decide +kernel
theorem bind_init : Builtin.Bytes.bindOptional "bytearray.__init__" "bytearray" ["source", "encoding", "errors"] [] [] = pure [none, none, none] := by kernel_rfl
set_option maxHeartbeats 4000000 in
theorem owner_new : ("bytearray.__new__".splitOn ".__new__").headD "" = "bytearray" := by simp +decide [String.splitOn, String.splitOnAux]
end FF
theorem code_ba_new {prog : Program} {w : World} {A : Around} {E : Value → Shared → Prop} {s : Shared} {Q₁ : Value → Shared → Prop}
  (h : Q₁ (.ref s.heap.objs.size) { s with heap := s.heap.push { cls := .type "bytearray", data := .bytearray #[] } }) :
  codeAny (model prog w) A (.call (.builtin "bytearray.__new__") ⟨[.type "bytearray"], []⟩) (wants Q₁ E) s := by
 refine codeAny_of_tree ?_
 show wpAny _ A.in1 (do checkBuiltinCall "bytearray.__new__" ⟨[.type "bytearray"], []⟩; again (.builtin "bytearray.__new__" ⟨[.type "bytearray"], []⟩)) _ _ s
 refine wpAny_bind (wpAny_of_eq FF.newCall_ba (wpAny_pure ⟨plainId_quiet FF.plain_new _, codeAny_builtin_stack FF.entry_new rfl fun p st => ?_⟩))
 rw [Around.under_plainId FF.plain_new _]
 have hsub := sub_ba
 have hown := FF.owner_new
 obtain ⟨hp, g, d, tk, os⟩ := s
 dsimp only
 rw [hown]
 wp_walk
 exact h
theorem init_ba {prog : Program} {w : World} {Γ : Ctx} {A : Around} {s : Shared} (hI : Γ.In A) (hC : Clean Γ) {a : Addr} {o : Obj} {b : List UInt8} {Q : Value → Shared → Prop} (ha : s.heap.get? a = some o) (hb : BObj o b)
  (h : ∀ h' o', h'.get? a = some o' → BObj o' [] → Heap.SameBut a s.heap h' → Q .none { s with heap := h' }) : Wk prog w Γ (Builtin.«bytearray.__init__» ⟨[.ref a], []⟩) (fin Q) s := by
 have hT : s.TypeIs (.ref a) "bytearray" := ⟨o, ha, by rw [hb]⟩
 show Wk prog w Γ (Builtin.Bytes.ownRelease (.ref a) >>= fun _ => _) (fin Q) s
 refine Wk.bind (Wk.of_any hI ?_)
 unfold Builtin.Bytes.ownRelease
 refine wpAny_bind (own_ba (name := "__release_buffer__") hT lk_ba_release (by decide +kernel) (by decide +kernel) (wpAny_pure ?_))
 refine Wk.ite (fun hc => by exact nob hc) (fun _ => ?_)
 show Wk prog w Γ (Builtin.Bytes.bindOptional "bytearray.__init__" "bytearray" ["source", "encoding", "errors"] [] [] >>= fun _ => _) (fin Q) s
 rw [FF.bind_init]
 refine Wk.bind (Wk.pure ?_)
 refine Wk.bind (Wk.pure ?_)
 refine Wk.bind (Wk.pure ?_)
 have h1 : Wk prog w Γ (do return (← Builtin.Bytes.exportsOf (.ref a)) > 0 : Sem Bool) (fun r s' => r = false ∧ s' = s) s := by
  refine Wk.of_any hI ?_
  unfold Builtin.Bytes.exportsOf
  refine wpAny_bind (wpAny_bind (wpAny_load ha ?_))
  rw [hb]
  exact wpAny_pure (wpAny_pure ⟨rfl, rfl⟩)
 refine Wk.bind ?_
 refine Wk.bind (exported_no hC ?_)
 refine Wk.mono h1 ?_
 rintro r s' ⟨rfl, rfl⟩
 refine Wk.ite (fun hc => by exact nob hc) (fun _ => ?_)
 refine Wk.bind (Wk.of_any hI (write_ba ha hb (c := []) rfl (Nat.zero_le _) fun h' o' x y z => ?_))
 exact Wk.bind (Wk.pure (Wk.pure ⟨_, rfl, h h' o' x y z⟩))
end
theorem new_ba {prog : Program} {w : World} {Γ : Ctx} {A : Around} {s : Shared} (hI : Γ.In A) (hC : Clean Γ) {Q : Value → Shared → Prop}
  (h : ∀ h' o', h'.get? s.heap.objs.size = some o' → BObj o' [] → (∀ b o, s.heap.get? b = some o → h'.get? b = some o) → Q (.ref s.heap.objs.size) { s with heap := h' }) : Wk prog w Γ (PySem.call (.type "bytearray") [] []) Q s := by
 refine Wk.call fun p => ?_
 have hB : (Γ.enter (.call (.type "bytearray") ⟨[], []⟩) none p).Below A := by
  have z := hI.enter (.call (.type "bytearray") ⟨[], []⟩) none p (by intro x; exact no x)
  rwa [mark_none] at z
 refine Cd.tree ?_
 show Wk prog w _ (again (.builtin "type.__call__" ⟨[.type "bytearray"], []⟩)) _ s
 refine Wk.pure ⟨Code.quiet_builtin _ (by decide +kernel), ?_⟩
 have h2 := (hB.goto (.builtin "type.__call__" ⟨[.type "bytearray"], []⟩)).in
 have hbad : bad (.builtin "type.__call__" ⟨[.type "bytearray"], []⟩) = false := by show bad (.builtin "type.__call__" ⟨[], []⟩) = false; decide +kernel
 have hC1 : Clean (Γ.enter (.call (.type "bytearray") ⟨[], []⟩) none p) := hC.enter rfl p
 have hC2 := hC1.goto (c := .builtin "type.__call__" ⟨[.type "bytearray"], []⟩) hbad
 refine Cd.builtin (id := "type.__call__") (args := ⟨[.type "bytearray"], []⟩) rfl F.entry_type_call ?_
 rw [show ((Γ.enter (.call (.type "bytearray") ⟨[], []⟩) none p).goto (.builtin "type.__call__" ⟨[.type "bytearray"], []⟩)).code = .builtin "type.__call__" ⟨[.type "bytearray"], []⟩ from rfl, Around.under_plain (weight_type_call_type "bytearray" [] []) rfl] at h2
 generalize (Γ.enter (.call (.type "bytearray") ⟨[], []⟩) none p).goto (.builtin "type.__call__" ⟨[.type "bytearray"], []⟩) = Γ' at h2 hC2 ⊢
 refine Wk.mono (Q := fin Q) ?_ (by rintro f s' ⟨v, rfl, hv⟩; exact hv)
 show Wk prog w Γ' (Builtin.«type.__call__» ⟨[.type "bytearray"], []⟩) (fin Q) s
 have hnt : (Value.type "bytearray" == Value.type "type") = false := by decide +kernel
 unfold Builtin.«type.__call__»
 show Wk prog w Γ' (if (Value.type "bytearray" == Value.type "type") = true then _ else _) _ s
 refine Wk.ite (fun hc => absurd (hnt.symm.trans hc) Bool.false_ne_true) (fun _ => ?_)
 refine Wk.ite (fun hc => absurd (FF.create_ba.symm.trans hc) Bool.false_ne_true) (fun _ => ?_)
 refine Wk.bind (Wk.of_eq FF.typeCall_ba (Wk.pure ?_))
 refine Wk.bind (Wk.of_eq FF.mro_ba (Wk.pure ?_))
 refine Wk.ite (fun hc => absurd hc (by simp)) (fun _ => ?_)
 refine Wk.bind (Wk.of_eq FF.made_ba (Wk.pure ?_))
 refine Wk.bind (Wk.pure ?_)
 refine Wk.bind2 (Wk.holding (Wk.of_any h2 (wpAny_call (code_ba_new (Q₁ := fun v s' => v = .ref s.heap.objs.size ∧ s' = { s with heap := s.heap.push { cls := .type "bytearray", data := .bytearray #[] } }) ⟨rfl, rfl⟩)))) ?_
 rintro v s' ⟨rfl, rfl⟩
 have ha : (s.heap.push { cls := .type "bytearray", data := .bytearray #[] }).get? s.heap.objs.size = some { cls := .type "bytearray", data := .bytearray #[] } := Heap.get?_push_size _ rfl
 have hT : (({ s with heap := s.heap.push { cls := .type "bytearray", data := .bytearray #[] } } : Shared)).TypeIs (.ref s.heap.objs.size) "bytearray" := ⟨_, ha, rfl⟩
 refine Wk.bind (Wk.of_any h2 (wpAny_isInstance hT sub_ba ?_))
 refine Wk.ite (fun hc => absurd hc (by simp)) (fun _ => ?_)
 refine Wk.bind (Wk.holding ?_)
 unfold callSpecial?
 refine Wk.bind (Wk.of_any h2 (wpAny_specialOf hT FF.slot_init.lookup ?_))
 refine Wk.holding ?_
 refine Wk.bind (Wk.of_eq (FF.slot_init.bind _) (Wk.pure ?_))
 refine Wk.bind2 (Wk.callB0 (cl := true) h2 (fun _ => hC2) (args := ⟨[.ref s.heap.objs.size], []⟩) (Q := fun v s' => ∃ h' o', v = .none ∧ s' = { s with heap := h' } ∧ h'.get? s.heap.objs.size = some o' ∧ BObj o' [] ∧ (∀ b o, s.heap.get? b = some o → h'.get? b = some o))
  FF.slot_init.plain FF.entry_init (show bad (.builtin "bytearray.__init__" ⟨[], []⟩) = false by decide +kernel) (fun M A E Q hq => FF.slot_init.check _ _ _ _ _ _ _ _ hT (FF.args_init _) hq) fun Γ'' hI' hC' => ?_) ?_
 ·refine init_ba hI' (hC' rfl) ha (b := []) rfl fun h' o' x y z => ⟨h', o', rfl, rfl, x, y, fun b ob e => (z.2 b (Nat.ne_of_lt (Heap.lt_size e))).trans (Heap.get?_push_of_some _ e)⟩
 ·rintro v s' ⟨h', o', rfl, rfl, x, y, z⟩
  refine Wk.pure ?_
  exact Wk.pure ⟨_, rfl, h h' o' x y z⟩
namespace FF
theorem no_bytes_ba : typeLookup (.type "bytearray") "__bytes__" = pure none := by rw [typeLookup_type, builtinLookup_eq_fast]; kernel_rfl
theorem no_index_ba : typeLookup (.type "bytearray") "__index__" = pure none := by rw [typeLookup_type, builtinLookup_eq_fast]; kernel_rfl
theorem lk_bytes_bytes : typeLookup (.type "bytes") "__bytes__" = pure (some (.builtin "bytes.__bytes__")) := by rw [typeLookup_type, builtinLookup_eq_fast]; kernel_rfl
end FF
section
variable {prog : Program} {w : World} {A : Around} {E : Value → Shared → Prop} {s : Shared} {T : Tab}
theorem new_bytes_ba {a : Addr} {o : Obj} {b : List UInt8} {Q : Value → Shared → Prop} (ha : s.heap.get? a = some o) (hb : BObj o b) (hz : b.length ≤ sizeLine) (hQ : ∀ t k, Q (.bytes ⟨b⟩ t) { s with toks := k }) :
  codeAny (model prog w) A (.call (.builtin "bytes.__new__") ⟨[.type "bytes", .ref a], []⟩) (wants Q E) s := by
 refine codeAny_of_tree ?_
 show wpAny _ A.in1 (do checkBuiltinCall "bytes.__new__" ⟨[.type "bytes", .ref a], []⟩; again (.builtin "bytes.__new__" ⟨[.type "bytes", .ref a], []⟩)) _ _ s
 refine wpAny_bind (wpAny_of_eq (F.bm_newCall _) (wpAny_pure ⟨plainId_quiet F.bm_plain _, codeAny_builtin F.bm_entry ?_⟩))
 rw [Around.under_plainId F.bm_plain _]
 have hT : s.TypeIs (.ref a) "bytearray" := ⟨o, ha, by rw [hb]⟩
 unfold Builtin.«bytes.__new__»
 refine wpAny_bind (wpAny_of_eq (a := true) rfl ?_)
 refine bm_if_false rfl ?_
 refine wpAny_bind (wpAny_of_eq F.bm_sub ?_)
 refine bm_if_false rfl ?_
 refine wpAny_bind (wpAny_of_eq (F.bm_bind _) ?_)
 refine wpAny_bind (wpAny_of_eq (a := ()) rfl ?_)
 refine wpAny_bind (wpAny_of_eq (a := ()) rfl ?_)
 refine bm_if_false rfl ?_
 refine wpAny_bind (wpAny_specialOf hT FF.no_bytes_ba ?_)
 refine wpAny_bind (wpAny_bind ?_)
 show wpAny _ _ (load a >>= _) _ _ _
 refine wpAny_bind (wpAny_load ha ?_)
 rw [hb]
 refine wpAny_pure (wpAny_pure ?_)
 refine bm_if_false rfl ?_
 refine wpAny_bind (wpAny_specialOf hT FF.no_index_ba ?_)
 refine bm_if_true rfl ?_
 first
  | show wpAny _ _ (Builtin.Bytes.buffer? "bytes.__new__" (.ref a) true >>= _) _ _ _
  | (refine wpAny_bind ?_; show wpAny _ _ (Builtin.Bytes.buffer? "bytes.__new__" (.ref a) true >>= _) _ _ _)
 refine wpAny_bind (buffer_ba ha hb ?_)
 refine wpAny_bind (wpAny_rule ?_)
 refine wpAny_bind (wpAny_mkBytes ?_ hz)
 show wpAny _ _ (if (Value.type "bytes" == Value.type "bytes") = true then _ else _) _ _ _
 refine bm_if_true (by decide) ?_
 first
  | exact wpAny_pure (hQ _ _)
  | exact wpAny_bind (wpAny_pure (wpAny_pure (hQ _ _)))
theorem new_bytes_bytes {b : Array UInt8} {t : Tok} {Q : Value → Shared → Prop} (hQ : Q (.bytes b t) s) :
  codeAny (model prog w) A (.call (.builtin "bytes.__new__") ⟨[.type "bytes", .bytes b t], []⟩) (wants Q E) s := by
 refine codeAny_of_tree ?_
 show wpAny _ A.in1 (do checkBuiltinCall "bytes.__new__" ⟨[.type "bytes", .bytes b t], []⟩; again (.builtin "bytes.__new__" ⟨[.type "bytes", .bytes b t], []⟩)) _ _ s
 refine wpAny_bind (wpAny_of_eq (F.bm_newCall _) (wpAny_pure ⟨plainId_quiet F.bm_plain _, codeAny_builtin F.bm_entry ?_⟩))
 rw [Around.under_plainId F.bm_plain _]
 unfold Builtin.«bytes.__new__»
 refine wpAny_bind (wpAny_of_eq (a := true) rfl ?_)
 refine bm_if_false rfl ?_
 refine wpAny_bind (wpAny_of_eq F.bm_sub ?_)
 refine bm_if_false rfl ?_
 refine wpAny_bind (wpAny_of_eq (F.bm_bind _) ?_)
 refine wpAny_bind (wpAny_of_eq (a := ()) rfl ?_)
 refine wpAny_bind (wpAny_of_eq (a := ()) rfl ?_)
 refine bm_if_false rfl ?_
 refine wpAny_bind (wpAny_of_eq (PySem.W.KBy.special_eq FF.lk_bytes_bytes) ?_)
 refine wpAny_bind (wpAny_rule ?_)
 refine wpAny_bind (wpAny_typeOf (typeIs_bytes s b t) ?_)
 refine bm_if_true (by decide) ?_
 show wpAny _ _ (if (Value.type "bytes" == Value.type "bytes") = true then _ else _) _ _ _
 refine bm_if_true (by decide) ?_
 first
  | exact wpAny_pure hQ
  | exact wpAny_bind (wpAny_pure (wpAny_pure hQ))
theorem call_bytes {v : Value} {Q : Value → Shared → Prop} (h : ∀ A', A'.handled = A.handled → codeAny (model prog w) A' (.call (.builtin "bytes.__new__") ⟨[.type "bytes", v], []⟩) (wants (fun obj s₁ => s₁.TypeIs obj "bytes" ∧ Q obj s₁) E) s) :
  wpAny (model prog w) A (call (.type "bytes") [v]) Q E s := by
 refine callType_codes (Q₁ := fun obj s₁ => s₁.TypeIs obj "bytes" ∧ Q obj s₁) F.bm_called (F.bm_typeCall _) F.entry_object_init (h _ rfl) fun obj s₁ h₁ => ?_
 exact ⟨h₁.1, F.args_object_init_2 obj _, object_init_meets F.bm_called.init.lookup F.bm_called.made (by decide) prog w A.in1 _ s₁ ⟨h₁.1, rfl, h₁.2⟩⟩
theorem ints_of {l : List FV} {vs : List Value} {b : List UInt8} (R : VRels T l vs) (e : l.mapM byteOf = some b) : ∃ ns : List Int, IntsAre vs ns ∧ (∀ n ∈ ns, 0 ≤ n ∧ n < 256) ∧ byteArr ns = ⟨b⟩ ∧ ns.length = b.length := by
 induction l generalizing vs b with
 | nil =>
  rw [show vs = [] from R]
  have e : some [] = some b := e
  obtain rfl := Option.some.inj e
  exact ⟨[], .nil, fun _ h => (nomatch h), rfl, rfl⟩
 | cons x l ih =>
  obtain ⟨v, r, rfl, p, q⟩ := R
  rw [List.mapM_cons] at e
  refine bk e fun c hc e => bk e fun bs hbs e => ?_
  obtain rfl := Option.some.inj e
  obtain ⟨ns, h1, h2, h3, h4⟩ := ih q hbs
  induction x using FV.casesOn with
  | int i =>
   obtain ⟨hi, rfl⟩ := ite_some hc
   obtain ⟨t, rfl⟩ := p
   refine ⟨i :: ns, .cons _ _ h1, fun n hn => ?_, congrArg (fun z : Array UInt8 => (⟨i.toNat.toUInt8 :: z.toList⟩ : Array UInt8)) h3, congrArg Nat.succ h4⟩
   rcases List.mem_cons.mp hn with rfl | hn
   ·exact andk hi fun h h' => ⟨of_decide_eq_true h, of_decide_eq_true h'⟩
   ·exact h2 n hn
  | _ => exact no hc
theorem bytes_ok (H : T.In s.heap) (hh : A.handled = none) {x z : FV} {v : Value} (hx : DRel T x v) (e : biFV .bytes [x] = some z) {Q : Value → Shared → Prop} (h : Yields s T z Q) : wpAny (model prog w) A (call (.type "bytes") [v]) Q E s := by
 induction x using FV.casesOn with
 | bytes b =>
  obtain rfl := Option.some.inj e
  obtain ⟨t, rfl⟩ := hx
  exact call_bytes fun A' _ => new_bytes_bytes ⟨typeIs_bytes _ _ _, h.now H ⟨_, rfl⟩⟩
 | barr b =>
  obtain ⟨hz, rfl⟩ := ite_some e
  obtain ⟨a, w', o, rfl, ta, B⟩ := hx
  exact call_bytes fun A' _ => new_bytes_ba (H _ _ _ ta) B (fit_line hz) fun t k => ⟨typeIs_bytes _ _ _, h.at H ⟨_, rfl⟩⟩
 | list l =>
  refine bk e fun b eb e => ?_
  obtain ⟨hz, rfl⟩ := ite_some e
  obtain ⟨a, w', o, vs, rfl, ta, L, R⟩ := hx
  obtain ⟨ns, h1, h2, h3, h4⟩ := ints_of R eb
  have hl := lobj_is (H _ _ _ ta) L
  refine call_bytes_ints (vs := vs) hl h1 h2 ?_ hh fun h' t k hk => ?_
  ·rw [h1.length, h4]; exact fit_line hz
  ·rw [h3]; exact h.kept H hk ⟨_, rfl⟩
 | _ => exact no e
end
namespace FF
theorem slot_bnext : Slot "bytearray_iterator" "__next__" "bytearray_iterator.__next__" :=
 .of (owner := "bytearray_iterator") (n := "__next__") (by rw [typeLookup_type, builtinLookup_eq_fast]; kernel_rfl) (by decide +kernel) (by decide +kernel) (by decide +kernel)
  (by first | exact .inl (by decide +kernel) | exact .inr (by decide +kernel)) (by rw [isSubtype_type]; kernel_rfl)
theorem slot_bself : Slot "bytearray_iterator" "__iter__" "bytearray_iterator.__iter__" :=
 .of (owner := "bytearray_iterator") (n := "__iter__") (by rw [typeLookup_type, builtinLookup_eq_fast]; kernel_rfl) (by decide +kernel) (by decide +kernel) (by decide +kernel)
  (by first | exact .inl (by decide +kernel) | exact .inr (by decide +kernel)) (by rw [isSubtype_type]; kernel_rfl)
theorem entry_bnext : entryFor table "bytearray_iterator.__next__" = some Builtin.«bytearray_iterator.__next__» := entryFor_of_tree (by kernel_rfl)
theorem entry_bself : entryFor table "bytearray_iterator.__iter__" = some Builtin.«dict_keyiterator.__iter__» := entryFor_alias (id' := "dict_keyiterator.__iter__") (by kernel_rfl) rfl (by decide +kernel) (by kernel_rfl)
theorem args_bnext (a : Value) : argsOk "bytearray_iterator.__next__" ⟨[a], []⟩ := by unfold argsOk; kernel_rfl
theorem args_bself (a : Value) : argsOk "bytearray_iterator.__iter__" ⟨[a], []⟩ := by unfold argsOk; kernel_rfl
end FF
noncomputable def IsBaIter (h : Heap) (I a : Addr) (i : Nat) : Prop := ∃ o, h.get? I = some o ∧ o.cls = .type "bytearray_iterator" ∧ o.data = .fields #[.ref a, .int i 0]
noncomputable def IsBa (h : Heap) (a : Addr) (b : List UInt8) : Prop := ∃ o, h.get? a = some o ∧ BObj o b
section
variable {prog : Program} {w : World} {A : Around} {E : Value → Shared → Prop} {s : Shared} {T : Tab} {b : List UInt8}
theorem pyIter_ba {a : Addr} (hb : IsBa s.heap a b) {Q : Value → Shared → Prop} (hQ : Q (.ref s.heap.objs.size) { s with heap := s.heap.push { cls := .type "bytearray_iterator", data := .fields #[.ref a, .int 0 0] } }) : wpAny (model prog w) A (pyIter (.ref a)) Q E s := by
 obtain ⟨o, ho, B⟩ := hb
 have hT : s.TypeIs (.ref a) "bytearray" := ⟨o, ho, by rw [B]⟩
 refine wpAny_pyIter_slot hT FF.slot_iter (wpAny_call_entry FF.slot_iter hT FF.entry_iter ?_ (FF.args_iter _))
 show wpAny _ _ (do ret (← newFields "bytearray_iterator" [.ref a, rawInt 0])) _ _ s
 exact wpAny_bind (wpAny_newObj_type (wpAny_pure ⟨_, rfl, "bytearray_iterator", _, ⟨_, Heap.get?_push_size _ rfl, rfl⟩, FF.slot_bnext.lookup, hQ⟩))
theorem bself {I a : Addr} {i : Nat} {Q : Value → Shared → Prop} (hit : IsBaIter s.heap I a i) (h : Q (.ref I) s) : wpAny (model prog w) A (pyIter (.ref I)) Q E s := by
 have hT : s.TypeIs (.ref I) "bytearray_iterator" := let ⟨o, ho, hc, _⟩ := hit; ⟨o, ho, hc⟩
 refine wpAny_pyIter_slot hT FF.slot_bself (wpAny_call_entry FF.slot_bself hT FF.entry_bself ?_ (FF.args_bself _))
 show wpAny _ _ (ret (.ref I)) _ _ s
 exact wpAny_pure ⟨_, rfl, "bytearray_iterator", _, hT, FF.slot_bnext.lookup, h⟩
theorem bnext_item {I a : Addr} {i : Nat} {c : UInt8} {Q : Option Value → Shared → Prop} (hit : IsBaIter s.heap I a i) (hb : IsBa s.heap a b) (hx : b[i]? = some c)
  (hQ : ∀ h', IsBaIter h' I a (i + 1) → Heap.SameBut I s.heap h' → Q (some (.int (c.toNat : Int) s.toks)) { s with heap := h', toks := s.toks + 1 }) : wpAny (model prog w) A (pyNext (.ref I)) Q E s := by
 have hT : s.TypeIs (.ref I) "bytearray_iterator" := let ⟨o, ho, hc, _⟩ := hit; ⟨o, ho, hc⟩
 obtain ⟨o, ho, hc, hd⟩ := id hit
 obtain ⟨ob, hob, B⟩ := hb
 unfold pyNext
 refine wpAny_bind (wpAny_attempt (wpAny_callSpecial?_slot (name := Str.ofString "__next__") hT FF.slot_bnext
  (wpAny_call_entry FF.slot_bnext hT FF.entry_bnext ?_ (FF.args_bnext _))))
 show wpAny _ _ (field (.ref I) 0 >>= _) _ _ s
 refine wpAny_bind (wpAny_field ho hd (x := .ref a) rfl ?_)
 refine wpAny_bind (wpAny_load hob ?_)
 rw [B]
 show wpAny _ _ (field (.ref I) 1 >>= _) _ _ s
 refine wpAny_bind (wpAny_field ho hd (x := .int i 0) rfl ?_)
 have hx' : (⟨b⟩ : Array UInt8)[i]? = some c := by simpa using hx
 simp only [Int.toNat_natCast, hx']
 refine wpAny_bind (wpAny_setField ho hd (by simp) (wpAny_bind (wpAny_mkInt (wpAny_pure ⟨_, rfl, wpAny_pure (hQ _ ?_ (Heap.SameBut.update ..))⟩))))
 exact ⟨_, Heap.get?_update_self _ ho (Obj.isFreed_of_fields (Obj.data_mapFields hd _)), (Obj.cls_mapFields ..).trans hc, by
  rw [Obj.data_mapFields hd]; simp [rawInt]⟩
theorem bnext_end {I a : Addr} {i : Nat} {Q : Option Value → Shared → Prop} (hh : A.handled = none) (hit : IsBaIter s.heap I a i) (hb : IsBa s.heap a b) (hx : b[i]? = none)
  (hQ : ∀ h', Heap.ExtBut I s.heap h' → Q none { s with heap := h' }) : wpAny (model prog w) A (pyNext (.ref I)) Q E s := by
 have hT : s.TypeIs (.ref I) "bytearray_iterator" := let ⟨o, ho, hc, _⟩ := hit; ⟨o, ho, hc⟩
 obtain ⟨o, ho, hc, hd⟩ := id hit
 obtain ⟨ob, hob, B⟩ := hb
 unfold pyNext
 refine wpAny_bind (wpAny_attempt (wpAny_callSpecial?_slot (name := Str.ofString "__next__") hT FF.slot_bnext
  (wpAny_call_entry FF.slot_bnext hT FF.entry_bnext ?_ (FF.args_bnext _))))
 show wpAny _ _ (field (.ref I) 0 >>= _) _ _ s
 refine wpAny_bind (wpAny_field ho hd (x := .ref a) rfl ?_)
 refine wpAny_bind (wpAny_load hob ?_)
 rw [B]
 show wpAny _ _ (field (.ref I) 1 >>= _) _ _ s
 refine wpAny_bind (wpAny_field ho hd (x := .int i 0) rfl ?_)
 have hx' : (⟨b⟩ : Array UInt8)[i]? = none := by simpa using hx
 simp only [Int.toNat_natCast, hx']
 refine wpAny_bind (wpAny_rule (wpAny_bind (wpAny_setField ho hd (by simp) ?_)))
 refine wpAny_bind (wpAny_letGo ?_)
 show wpAny _ _ (newExc (.type "StopIteration") [] >>= _) _ _ _
 refine wpAny_bind ?_
 simp only [newExc, newTuple]
 refine wpAny_bind (wpAny_newObj_type ?_ (by size_fits))
 refine wpAny_bind (m := firstArgMember _ _) (wpAny_of_eq (a := Value.none) (by first | rfl | (simp only [firstArgMember]; rfl)) ?_)
 refine wpAny_newObj_type ?_ (by size_fits)
 refine wpAny_bind (wpAny_handled ?_)
 rw [show A.in1.handled = none from hh]
 refine wpAny_bind (wpAny_pure (wpAny_throw ?_))
 refine wpAny_bind (wpAny_isInstance (T := "StopIteration") (b := true) ⟨_, Heap.get?_push_size _ rfl, rfl⟩ isSubtype_stop ?_)
 exact wpAny_pure (hQ _ (((Heap.SameBut.update ..).extBut.push _).push _))
end
theorem walks_ba {prog : Program} {w : World} {A : Around} (hh : A.handled = none) (I a : Addr) (hne : a ≠ I) (b : List UInt8) :
  Walks prog w A I [I, a] [I] b.length (fun i v => ∃ c u, b[i]? = some c ∧ v = .int (c.toNat : Int) u) (fun i h => IsBaIter h I a i ∧ IsBa h a b) where
 sub := fun b hb => by simp at hb; simp [hb]
 frame := fun _ _ _ st hk => let ⟨⟨o, ho, r⟩, ⟨o', ho', r'⟩⟩ := st; ⟨⟨o, hk I (by simp) o ho, r⟩, ⟨o', hk a (by simp) o' ho', r'⟩⟩
 item := fun i s Q E hi st hQ => by
  refine bnext_item st.1 st.2 (c := b[i]) (by simp [hi]) fun h' hit' hs' => ?_
  obtain ⟨o, ho, B⟩ := st.2
  exact hQ _ h' (s.toks + 1) ⟨_, _, by simp [hi], rfl⟩ ⟨hit', ⟨o, (hs'.2 a hne).trans ho, B⟩⟩ fun b o hb e => hs'.extBut b o (fun h => hb (by simp [h])) e
 done := fun s Q E st hQ => bnext_end hh st.1 st.2 (by simp) fun h' he' => hQ h' s.toks fun b o hb e => he' b o (fun h => hb (by simp [h])) e
 self := fun _ _ _ _ st hQ => bself st.1 hQ
noncomputable def stays : Own → Prop
 | .froz | .fr | .brw _ => True
 | _ => False
structure ItrOk (prog : Program) (w : World) (T : Tab) (h : Heap) (I : Addr) (xs : List FV) (fp : List Addr) (P : Nat → Value → Prop) (St : Nat → Heap → Prop) : Prop where
 walk : ∀ A : Around, A.handled = none → Walks prog w A I fp [I] xs.length P St
 st : St 0 h
 have_ : ∀ i h, St i h → ∃ o, h.get? I = some o
 fps : ∀ b ∈ fp, b ≠ I → ∃ w o, T b = some (w, o) ∧ stays w
 item : ∀ i v, P i v → ∃ x, xs[i]? = some x ∧ VRel T x v
section
variable {prog : Program} {w : World} {A : Around} {E : Value → Shared → Prop} {s : Shared} {T : Tab}
theorem fps1 {I : Addr} {P : Addr → Prop} : ∀ b ∈ [I], b ≠ I → P b := fun b hb ne => absurd (List.mem_singleton.mp hb) ne
theorem fps2 {I a : Addr} {P : Addr → Prop} (h : P a) : ∀ b ∈ [I, a], b ≠ I → P b := fun b hb ne => (List.mem_cons.mp hb).elim (fun e => absurd e ne) fun e => by rw [List.mem_singleton.mp e]; exact h
theorem sign_rel {x : Str} {T : Tab} (i : Nat) (v : Value) (h : SignAt x i v) : ∃ y, (x.cps.toList.map fun c => FV.str ⟨#[c]⟩)[i]? = some y ∧ VRel T y v := by
 obtain ⟨c, u, hc, rfl⟩ := h
 exact ⟨_, map_at (by rw [Array.getElem?_toList]; exact hc), u, rfl⟩
theorem seq_rel {l : List FV} {vs : List Value} (R : VRels T l vs) (i : Nat) (v : Value) (hv : (⟨vs⟩ : Array Value)[i]? = some v) : ∃ y, l[i]? = some y ∧ VRel T y v := by
 have h : vs[i]? = some v := by rw [← Array.getElem?_toList] at hv; exact hv
 have hi : i < l.length := R.len ▸ (List.getElem?_eq_some_iff.mp h).1
 obtain ⟨u, hu, r⟩ := R.get (List.getElem?_eq_getElem hi)
 cases hu.symm.trans h
 exact ⟨_, List.getElem?_eq_getElem hi, r⟩
theorem walks_len {I : Addr} {fp sub : List Addr} {n m : Nat} {P : Nat → Value → Prop} {St : Nat → Heap → Prop} (e : n = m) (h : Walks prog w A I fp sub n P St) : Walks prog w A I fp sub m P St := e ▸ h
theorem fresh_ne {a : Addr} {w' : Own} {o : Obj} (H : T.In s.heap) (ta : T a = some (w', o)) : a ≠ s.heap.objs.size := Nat.ne_of_lt (Heap.lt_size (H _ _ _ ta))
theorem push_keep (o : Obj) (b : Addr) (ob : Obj) (e : s.heap.get? b = some ob) : (s.heap.push o).get? b = some ob := Heap.get?_push_of_some o e
section
variable (H : T.In s.heap) {v : Value} {Q : Value → Shared → Prop}
include H
theorem iter_str {x : Str} (hx : DRel T (.str x) v) (h : ∀ I h' fp P St, (∀ b o, s.heap.get? b = some o → h'.get? b = some o) → T I = none → ItrOk prog w T h' I (x.cps.toList.map fun c => .str ⟨#[c]⟩) fp P St → Q (.ref I) { s with heap := h' }) : wpAny (model prog w) A (pyIter v) Q E s := by
 obtain ⟨t, rfl⟩ := hx
 have hn : x.cps.size = (x.cps.toList.map fun c => FV.str ⟨#[c]⟩).length := by rw [List.length_map, Array.length_toList]
 cases ha : x.cps.all (· < 128) with
 | false => exact wpAny_pyIter_wide ha (h _ _ ([s.heap.objs.size]) (SignAt x) (fun i h => h.IsStrIter s.heap.objs.size "str_iterator" x t i) (push_keep _) (Tab.fresh H) ⟨fun A' hA => walks_len hn (Walks.strWide hA s.heap.objs.size x t), ⟨_, Heap.get?_push_size _ rfl, rfl, rfl⟩, fun i h hs => hs.elim fun o ho => ⟨o, ho.1⟩, fps1, sign_rel⟩)
 | true => exact wpAny_pyIter_ascii ha (h _ _ ([s.heap.objs.size]) (SignAt x) (fun i h => h.IsStrIter s.heap.objs.size "str_ascii_iterator" x t i) (push_keep _) (Tab.fresh H) ⟨fun A' hA => walks_len hn (Walks.strAscii hA s.heap.objs.size x t), ⟨_, Heap.get?_push_size _ rfl, rfl, rfl⟩, fun i h hs => hs.elim fun o ho => ⟨o, ho.1⟩, fps1, sign_rel⟩)
theorem iter_bytes {b : List UInt8} (hx : DRel T (.bytes b) v) (h : ∀ I h' fp P St, (∀ b o, s.heap.get? b = some o → h'.get? b = some o) → T I = none → ItrOk prog w T h' I (b.map fun c => .int (c.toNat : Int)) fp P St → Q (.ref I) { s with heap := h' }) : wpAny (model prog w) A (pyIter v) Q E s := by
 obtain ⟨t, rfl⟩ := hx
 refine PySem.W.KBw.pyIter_bytes (h _ _ ([s.heap.objs.size]) (fun i v => ∃ c u, (⟨b⟩ : Array UInt8)[i]? = some c ∧ v = .int (c.toNat : Int) u) (fun i h => PySem.W.KBw.IsBytesIter h s.heap.objs.size ⟨b⟩ t i) (push_keep _) (Tab.fresh H) ⟨fun A' hA => walks_len (List.length_map ..).symm (PySem.W.KBw.walks hA s.heap.objs.size ⟨b⟩ t), ⟨_, Heap.get?_push_size _ rfl, rfl, rfl⟩, fun i h hs => hs.elim fun o ho => ⟨o, ho.1⟩, fps1, fun i v hv => ?_⟩)
 obtain ⟨c, u, hc, rfl⟩ := hv
 exact ⟨_, map_at (by rw [← Array.getElem?_toList] at hc; exact hc), u, rfl⟩
theorem iter_barr {b : List UInt8} (hx : DRel T (.barr b) v) (hs : ∀ a w o, v = .ref a → T a = some (w, o) → stays w) (h : ∀ I h' fp P St, (∀ b o, s.heap.get? b = some o → h'.get? b = some o) → T I = none → ItrOk prog w T h' I (b.map fun c => .int (c.toNat : Int)) fp P St → Q (.ref I) { s with heap := h' }) : wpAny (model prog w) A (pyIter v) Q E s := by
 obtain ⟨a, w', o, rfl, ta, B⟩ := hx
 refine pyIter_ba ⟨o, H _ _ _ ta, B⟩ (h _ _ ([s.heap.objs.size, a]) (fun i v => ∃ c u, b[i]? = some c ∧ v = .int (c.toNat : Int) u) (fun i h => IsBaIter h s.heap.objs.size a i ∧ IsBa h a b) (push_keep _) (Tab.fresh H) ⟨fun A' hA => walks_len (List.length_map ..).symm (walks_ba hA s.heap.objs.size a (fresh_ne H ta) b), ⟨⟨_, Heap.get?_push_size _ rfl, rfl, rfl⟩, o, push_keep _ _ _ (H _ _ _ ta), B⟩, fun i h hs => hs.1.elim fun o ho => ⟨o, ho.1⟩, fps2 ⟨_, _, ta, hs _ _ _ rfl ta⟩, fun i v hv => ?_⟩)
 obtain ⟨c, u, hc, rfl⟩ := hv
 exact ⟨_, map_at hc, u, rfl⟩
theorem iter_tup {l : List FV} (hx : DRel T (.tup l) v) (h : ∀ I h' fp P St, (∀ b o, s.heap.get? b = some o → h'.get? b = some o) → T I = none → ItrOk prog w T h' I l fp P St → Q (.ref I) { s with heap := h' }) : wpAny (model prog w) A (pyIter v) Q E s := by
 obtain ⟨a, o, vs, rfl, ta, L, R⟩ := hx
 have hl := tobj_is (H _ _ _ ta) L
 exact wpAny_pyIter_tuple hl (h _ _ ([s.heap.objs.size, a]) (fun i v => (⟨vs⟩ : Array Value)[i]? = some v) (fun i h => h.IsTupleIter s.heap.objs.size a i ∧ h.IsTuple a ⟨vs⟩) (push_keep _) (Tab.fresh H) ⟨fun A' hA => walks_len R.len (Walks.tuple hA s.heap.objs.size a (fresh_ne H ta) ⟨vs⟩), ⟨⟨_, Heap.get?_push_size _ rfl, rfl, rfl⟩, hl.push _⟩, fun i h hs => hs.1.elim fun o ho => ⟨o, ho.1⟩, fps2 ⟨_, _, ta, trivial⟩, seq_rel R⟩)
theorem iter_list {l : List FV} (hx : DRel T (.list l) v) (hs : ∀ a w o, v = .ref a → T a = some (w, o) → stays w) (h : ∀ I h' fp P St, (∀ b o, s.heap.get? b = some o → h'.get? b = some o) → T I = none → ItrOk prog w T h' I l fp P St → Q (.ref I) { s with heap := h' }) : wpAny (model prog w) A (pyIter v) Q E s := by
 obtain ⟨a, w', o, vs, rfl, ta, L, R⟩ := hx
 have hl := lobj_is (H _ _ _ ta) L
 exact wpAny_pyIter_list hl (h _ _ ([s.heap.objs.size, a]) (fun i v => (⟨vs⟩ : Array Value)[i]? = some v) (fun i h => h.IsListIter s.heap.objs.size a i ∧ h.IsList a ⟨vs⟩) (push_keep _) (Tab.fresh H) ⟨fun A' hA => walks_len R.len (Walks.list hA s.heap.objs.size a (fresh_ne H ta) ⟨vs⟩), ⟨⟨_, Heap.get?_push_size _ rfl, rfl, rfl⟩, hl.push _⟩, fun i h hs => hs.1.elim fun o ho => ⟨o, ho.1⟩, fps2 ⟨_, _, ta, hs _ _ _ rfl ta⟩, seq_rel R⟩)
omit H in
theorem nabs {a : Int} {n : Nat} (h : a.natAbs < n) : -(n : Int) < a ∧ a < n := by omega
omit H in
theorem rng_size {a b c : Int} (hc : c = 1 ∨ c = 2) (ha : a.natAbs < 1000000000) (hb : b.natAbs < 1000000000) : 0 ≤ Builtin.Range.rangeSize a b c ∧ Builtin.Range.rangeSize a b c < 4000000000 := by
 have h0 : 0 < c := by rcases hc with rfl | rfl <;> decide
 unfold Builtin.Range.rangeSize
 rw [if_pos h0]
 by_cases h : a < b
 ·have h1 := (nabs ha).1
  have h2 := (nabs hb).2
  have hx : 0 ≤ b - a - 1 := by omega
  have := Int.ediv_nonneg hx (Int.le_of_lt h0)
  have := Int.ediv_le_self c hx
  rw [if_pos h]
  exact ⟨by omega, by omega⟩
 ·rw [if_neg h]; decide
omit H in
theorem rng_small {a b c : Int} (hc : c = 1 ∨ c = 2) (ha : a.natAbs < 1000000000) (hb : b.natAbs < 1000000000) : Builtin.Range.small a b c = true := by
 have hs := rng_size hc ha hb
 have ha := nabs ha
 have hb := nabs hb
 have fits : ∀ {i : Int}, -4000000000 < i → i < 4000000000 → Builtin.Range.rangeFitsLong i = true := fun h h' => by
  unfold Builtin.Range.rangeFitsLong
  rw [decide_eq_true (by omega), decide_eq_true (by omega)]; rfl
 have h0 : 0 < c ∧ c < 4 := by rcases hc with rfl | rfl <;> decide
 unfold Builtin.Range.small
 rw [if_pos (show c > 0 from h0.1), fits (by omega) (by omega), fits (by omega) (by omega), fits (by omega) (by omega), fits (by omega) (by omega), fits (i := b + (c - 1)) (by omega) (by omega), Bool.or_true]
 rfl
theorem iter_rng {a b c : Int} {xs : List FV} (hx : DRel T (.rng a b c) v) (e : rngList a b c = some xs) (h : ∀ I h' fp P St, (∀ b o, s.heap.get? b = some o → h'.get? b = some o) → T I = none → ItrOk prog w T h' I xs fp P St → Q (.ref I) { s with heap := h' }) : wpAny (model prog w) A (pyIter v) Q E s := by
 refine ik e fun hc e => ?_
 obtain rfl := Option.some.inj e
 obtain ⟨r, o, rfl, ta, t, u, v, rfl⟩ := hx
 refine wpAny_pyIter_range (show IsRange s.heap r a b c t u v from H _ _ _ ta) (rng_small hc.1 hc.2.1 hc.2.2) (h _ _ ([s.heap.objs.size]) (fun i v => i < (Builtin.Range.rangeSize a b c).toNat ∧ ∃ t, v = .int (a + i * c) t) (fun i h => IsRangeIter h s.heap.objs.size (a + (i : Nat) * c) (((Builtin.Range.rangeSize a b c).toNat : Int) - (i : Nat)) c) (push_keep _) (Tab.fresh H)
  ⟨fun A' hA => walks_len ((List.length_map ..).trans List.length_range).symm ?_, ?_, fun i h ho => ⟨_, ho⟩, fps1, fun i v hv => ?_⟩)
 ·have := Walks.range (prog := prog) (w := w) hA s.heap.objs.size a c (Builtin.Range.rangeSize a b c).toNat
  exact ⟨this.sub, this.frame, fun i s Q E hi st hQ => this.item i s Q E hi st fun v h' tk p st' k => hQ v h' tk ⟨hi, p⟩ st' k, this.done, this.self⟩
 ·show (s.heap.push _).get? s.heap.objs.size = _
  rw [Heap.get?_push_size _ rfl, Int.toNat_of_nonneg (rng_size hc.1 hc.2.1 hc.2.2).1]
  simp
 ·obtain ⟨hi, t, rfl⟩ := hv
  exact ⟨_, map_at (List.getElem?_range hi), t, rfl⟩
theorem iter_ok {x : FV} {xs : List FV} (hx : DRel T x v) (hs : ∀ a w o, v = .ref a → T a = some (w, o) → stays w) (e : itemsFV x = some xs)
  (h : ∀ I h' fp P St, (∀ b o, s.heap.get? b = some o → h'.get? b = some o) → T I = none → ItrOk prog w T h' I xs fp P St → Q (.ref I) { s with heap := h' }) : wpAny (model prog w) A (pyIter v) Q E s := by
 induction x using FV.casesOn with
 | list l => obtain rfl := Option.some.inj e; exact iter_list H hx hs h
 | tup l => obtain rfl := Option.some.inj e; exact iter_tup H hx h
 | str x => obtain rfl := Option.some.inj e; exact iter_str H hx h
 | bytes b => obtain rfl := Option.some.inj e; exact iter_bytes H hx h
 | barr b => obtain rfl := Option.some.inj e; exact iter_barr H hx hs h
 | rng a b c => exact iter_rng H hx e h
 | _ => exact no e
end
end
structure Wd where
 prog : Program
 w : World
 h₀ : Heap
 cl : Bool
 m : Nat
structure Snd {α β : Type} (X : Wd) (cx : Cx) (f : St → Option (β × St)) (t : Sem α) (R : Tab → β → α → Prop) : Prop where
 of ::
 go : ∀ {σ : St} {b : β} {σ' : St}, f σ = some (b, σ') → ∀ {Γ : Ctx} {A : Around}, Good X.cl X.m Γ A → ∀ {T : Tab} {s : Shared}, T.In s.heap → StRel X.h₀ cx T σ → Wk X.prog X.w Γ t (Aft X.h₀ cx T σ s σ' (fun T' a => R T' b a)) s
theorem brw_dead {h₀ : Heap} {cx : Cx} {T : Tab} {σ : St} (S : StRel h₀ cx T σ) {k : Nat} {a : Addr} {o : Obj} {ao : AO} (t : T a = some (.brw k, o)) (e : σ.look k = some ao) : False := by
 rw [S.lentD k (S.dead k a o t)] at e; exact no e
theorem lab_at {h₀ : Heap} {cx : Cx} {T : Tab} {σ : St} (S : StRel h₀ cx T σ) {k : Nat} {v : Value} {ao : AO} (p : PRel T (.o k) v) (e : σ.look k = some ao) : ∃ a o, v = .ref a ∧ T a = some (.lab k, o) ∧ ORel T k ao o := by
 obtain ⟨a, o, rfl, t | t⟩ := p
 ·obtain ⟨a', o', t', R⟩ := S.led k ao e
  have := S.labU k a a' o o' t t'
  subst this
  rw [t] at t'; cases t'
  exact ⟨a, o, rfl, t, R⟩
 ·exact (brw_dead S t e).elim
theorem VRel.d {T : Tab} {x : FV} {v : Value} (h : VRel T x v) : DRel T x v := by
 induction x using FV.casesOn with
 | barr b => obtain ⟨a, o, e, t, r⟩ := h; exact ⟨a, _, o, e, t, r⟩
 | list l => obtain ⟨a, o, vs, e, t, r⟩ := h; exact ⟨a, _, o, vs, e, t, r⟩
 | _ => exact h
theorem deref_k {σ : St} {k : Nat} {x : FV} {G : Prop} (e : σ.deref (.o k) = some x) (h1 : ∀ l, σ.look k = some (.list l) → x = .list l → G) (h2 : ∀ b, σ.look k = some (.barr b) → x = .barr b → G) : G := by
 have key : ∀ q : Option AO, (match q with
  | some (.list l) => some (.list l)
  | some (.barr b) => some (.barr b)
  | _ => Option.none) = some x → σ.look k = q → G := fun q e hq => by
  induction q with
  | none => exact no e
  | some a => induction a with
   | list l => exact h1 l hq (Option.some.inj e).symm
   | barr l => exact h2 l hq (Option.some.inj e).symm
   | inst _ _ _ => exact no e
 exact key _ e rfl
theorem deref_rel {h₀ : Heap} {cx : Cx} {T : Tab} {σ : St} (S : StRel h₀ cx T σ) {pv : PV} {v : Value} {x : FV} (p : PRel T pv v) (e : σ.deref pv = some x) : DRel T x v := by
 induction pv with
 | f y => obtain rfl := Option.some.inj e; exact VRel.d p
 | o k =>
  refine deref_k e (fun l hl h => ?_) (fun b hb h => ?_)
  ·obtain ⟨a, o, hv, t, vs, L, R⟩ := lab_at S p hl
   exact h ▸ ⟨a, _, o, vs, hv, t, L, R⟩
  ·obtain ⟨a, o, hv, t, R⟩ := lab_at S p hb
   exact h ▸ ⟨a, _, o, hv, t, R⟩
theorem fresh_of {σ : St} {k : Nat} (e : σ.fresh k = true) : σ.look k = none ∧ k ∉ σ.lent := by
 exact andk e fun e h2 => andk e fun h1 _ => ⟨Option.isNone_iff_eq_none.mp h1, fun h => by rw [List.contains_iff_mem.mpr h] at h2; exact nob h2⟩
section
variable {h₀ : Heap} {cx : Cx} {T : Tab} {σ : St} {s : Shared}
theorem in_made (H : T.In s.heap) {h' : Heap} {a : Addr} {w : Own} {o : Obj} (hk : ∀ b ob, s.heap.get? b = some ob → h'.get? b = some ob) (ho : h'.get? a = some o) : (T.set a (some (w, o))).In h' := fun b w' o' e => by
 by_cases hb : b = a
 ·subst hb; rw [Tab.set_self] at e; obtain ⟨rfl, rfl⟩ := Prod.mk.inj (Option.some.inj e); exact ho
 ·rw [Tab.set_ne _ _ hb] at e; exact hk _ _ (H _ _ _ e)
theorem make_list (H : T.In s.heap) (S : StRel h₀ cx T σ) {l : List FV} {vs : List Value} {lab : Option Nat} {pv : PV} {σ' : St} (e : σ.make lab (.list l) = some (pv, σ')) {h' : Heap} {k : Nat} {a : Addr} {o : Obj}
  (hk : ∀ b ob, s.heap.get? b = some ob → h'.get? b = some ob) (hn : T a = none) (ho : h'.get? a = some o) (L : LObj o vs) (R : VRels T l vs) :
  ∃ T', Go h₀ cx T σ s T' σ' { s with heap := h', toks := k } ∧ PRel T' pv (.ref a) := by
 induction lab with
 | none =>
  obtain ⟨rfl, rfl⟩ := Prod.mk.inj (Option.some.inj e)
  obtain ⟨S', N⟩ := S.made (a := a) (o := o) hn
  exact ⟨_, ⟨⟨k, rfl⟩, in_made H hk ho, S', N⟩, a, o, vs, rfl, Tab.set_self .., L, R.mono (ext_set hn).f⟩
 | some j =>
  refine ik e fun hf e => ?_
  obtain ⟨rfl, rfl⟩ := Prod.mk.inj (Option.some.inj e)
  obtain ⟨S', N⟩ := S.label (a := a) (o := o) (k := j) (ao := .list l) hn (fresh_of hf).1 (fresh_of hf).2 ⟨vs, L, R.mono (ext_set hn).f⟩ (fun _ _ _ x => nomatch x)
  exact ⟨_, ⟨⟨k, rfl⟩, in_made H hk ho, S', N⟩, a, o, rfl, .inl (Tab.set_self ..)⟩
theorem make_barr (H : T.In s.heap) (S : StRel h₀ cx T σ) {b : List UInt8} {lab : Option Nat} {pv : PV} {σ' : St} (e : σ.make lab (.barr b) = some (pv, σ')) {h' : Heap} {k : Nat} {a : Addr} {o : Obj}
  (hk : ∀ b ob, s.heap.get? b = some ob → h'.get? b = some ob) (hn : T a = none) (ho : h'.get? a = some o) (L : BObj o b) :
  ∃ T', Go h₀ cx T σ s T' σ' { s with heap := h', toks := k } ∧ PRel T' pv (.ref a) := by
 induction lab with
 | none =>
  obtain ⟨rfl, rfl⟩ := Prod.mk.inj (Option.some.inj e)
  obtain ⟨S', N⟩ := S.made (a := a) (o := o) hn
  exact ⟨_, ⟨⟨k, rfl⟩, in_made H hk ho, S', N⟩, a, o, rfl, Tab.set_self .., L⟩
 | some j =>
  refine ik e fun hf e => ?_
  obtain ⟨rfl, rfl⟩ := Prod.mk.inj (Option.some.inj e)
  obtain ⟨S', N⟩ := S.label (a := a) (o := o) (k := j) (ao := .barr b) hn (fresh_of hf).1 (fresh_of hf).2 L (fun _ _ _ x => nomatch x)
  exact ⟨_, ⟨⟨k, rfl⟩, in_made H hk ho, S', N⟩, a, o, rfl, .inl (Tab.set_self ..)⟩
end
theorem Yields.go {h₀ : Heap} {cx : Cx} {T : Tab} {σ : St} {s : Shared} (S : StRel h₀ cx T σ) (z : FV) : Yields s T z (Aft h₀ cx T σ s σ (fun T' v => PRel T' (.f z) v)) := fun T' h' k v H' Gr r => by
 obtain ⟨S', N⟩ := Gr h₀ cx σ S
 exact ⟨T', ⟨⟨k, rfl⟩, H', S', N⟩, r⟩
theorem binI_int {op : Operator} {i j : Int} {z : FV} (e : binI op i j = some z) : ∀ l, z ≠ .list l := by
 have : ∃ k, z = .int k := by
  induction op with
  | Add | Sub | BitAnd | BitOr => exact ⟨_, (Option.some.inj e).symm⟩
  | Mult | FloorDiv | Mod | Pow | LShift | RShift => exact ⟨_, (ite_some e).2.symm⟩
  | _ => exact no e
 obtain ⟨k, rfl⟩ := this
 exact fun _ x => nomatch x
section
variable {prog : Program} {w : World} {A : Around} {E : Value → Shared → Prop} {s : Shared} {T : Tab}
theorem binop_ok (H : T.In s.heap) {op : Operator} {x y z : FV} {u v : Value} (hx : DRel T x u) (hy : DRel T y v) (e : binFV op x y = some z) {Q : Value → Shared → Prop}
  (h : ∀ r k, VRel T z r → (∀ l, z ≠ .list l) → Q r { s with toks := k })
  (h' : ∀ l vs h' o, z = .list l → (∀ b ob, s.heap.get? b = some ob → h'.get? b = some ob) → h'.get? s.heap.objs.size = some o → LObj o vs → VRels T l vs → Q (.ref s.heap.objs.size) { s with heap := h' }) :
  wpAny (model prog w) A (binaryOp op u v) Q E s := by
 induction x using FV.casesOn with
 | int i =>
  induction y using FV.casesOn with
  | int j =>
   obtain ⟨t, rfl⟩ := hx; obtain ⟨t', rfl⟩ := hy
   exact intOp (T := T) e fun r k hr => h r k hr (binI_int e)
  | _ => exact no e
 | bytes b =>
  induction y using FV.casesOn with
  | bytes c =>
   obtain ⟨t, rfl⟩ := hx; obtain ⟨t', rfl⟩ := hy
   obtain ⟨rfl, e⟩ := onAdd_some e
   obtain ⟨hz, rfl⟩ := ite_some e
   exact bytesAdd (T := T) hz fun r k hr => h r k hr (fun _ x => nomatch x)
  | _ => exact no e
 | str b =>
  induction y using FV.casesOn with
  | str c =>
   obtain ⟨t, rfl⟩ := hx; obtain ⟨t', rfl⟩ := hy
   obtain ⟨rfl, e⟩ := onAdd_some e
   obtain ⟨hz, rfl⟩ := ite_some e
   exact strAdd (T := T) hz fun r k hr => h r k hr (fun _ x => nomatch x)
  | _ => exact no e
 | list l =>
  induction y using FV.casesOn with
  | list m =>
   obtain ⟨rfl, e⟩ := onAdd_some e
   obtain ⟨hz, rfl⟩ := ite_some e
   obtain ⟨a, wa, oa, vs, rfl, ta, La, Ra⟩ := hx
   obtain ⟨b, wb, ob, us, rfl, tb, Lb, Rb⟩ := hy
   refine listAdd (H _ _ _ ta) (H _ _ _ tb) La Lb (by rw [Ra.len, Rb.len]; exact hz) ?_
   exact h' _ (vs ++ us) _ _ rfl (fun b ob e => Heap.get?_push_of_some _ e) (Heap.get?_push_size _ rfl) ⟨0, rfl⟩ (Ra.append Rb)
  | _ => exact no e
 | _ => exact no e
theorem neg_ok {i : Int} {v : Value} (hx : VRel T (.int i) v) {Q : Value → Shared → Prop} (h : ∀ r k, VRel T (.int (-i)) r → Q r { s with toks := k }) : wpAny (model prog w) A (unaryOp .USub v) Q E s := by
 obtain ⟨t, rfl⟩ := hx
 exact P.neg_int (h _ _ ⟨_, rfl⟩)
end
section
variable {α β γ : Type} {X : Wd} {cx : Cx} {f : St → Option (β × St)} {t : Sem α} {R : Tab → β → α → Prop} {σ : St} {r : β × St} {Γ : Ctx} {A : Around} {T : Tab} {s : Shared} {F : α → Sem γ} {Q : γ → Shared → Prop}
theorem Snd.then (h : Snd X cx f t R) (e : f σ = some r) (G : Good X.cl X.m Γ A) (H : T.In s.heap) (S : StRel X.h₀ cx T σ)
  {Q : α → Shared → Prop} (k : ∀ va s₁ T₁, Go X.h₀ cx T σ s T₁ r.2 s₁ → R T₁ r.1 va → Q va s₁) : Wk X.prog X.w Γ t Q s :=
 Wk.mono (h.go (b := r.1) (σ' := r.2) e G H S) fun va s₁ h => h.elim fun T₁ h => k va s₁ T₁ h.1 h.2
theorem Snd.bind (h : Snd X cx f t R) (e : f σ = some r) (G : Good X.cl X.m Γ A) (H : T.In s.heap) (S : StRel X.h₀ cx T σ)
  (k : ∀ va s₁ T₁, Go X.h₀ cx T σ s T₁ r.2 s₁ → R T₁ r.1 va → Wk X.prog X.w Γ (F va) Q s₁) : Wk X.prog X.w Γ (t >>= F) Q s := Wk.bind (h.then e G H S k)
theorem Snd.mk' (h : ∀ {σ : St} {r : β × St}, f σ = some r → ∀ {Γ : Ctx} {A : Around}, Good X.cl X.m Γ A → ∀ {T : Tab} {s : Shared}, T.In s.heap → StRel X.h₀ cx T σ → Wk X.prog X.w Γ t (Aft X.h₀ cx T σ s r.2 (fun T' a => R T' r.1 a)) s) : Snd X cx f t R := ⟨fun e => h e⟩
theorem Snd.after (h : Snd X cx f t R) {T₁ : Tab} {σ₁ : St} {s₁ : Shared} (e : f σ₁ = some r) (G : Good X.cl X.m Γ A) (g : Go X.h₀ cx T σ s T₁ σ₁ s₁) : Wk X.prog X.w Γ t (Aft X.h₀ cx T σ s r.2 (fun T' a => R T' r.1 a)) s₁ :=
 h.then e G g.isIn g.rel fun _ _ T₂ G₂ p => ⟨T₂, g.trans G₂, p⟩
theorem got {h₀ : Heap} {prog : Program} {w : World} {t : Sem α} {s' : Shared} {x : β × St} (e : some x = some r) (h : Wk prog w Γ t (Aft h₀ cx T σ s x.2 (fun T' a => R T' x.1 a)) s') : Wk prog w Γ t (Aft h₀ cx T σ s r.2 (fun T' a => R T' r.1 a)) s' := Option.some.inj e ▸ h
theorem gotEq {h₀ : Heap} {prog : Program} {w : World} {t : Sem α} {s' : Shared} {x : β × St} (e : x = r) (h : Wk prog w Γ t (Aft h₀ cx T σ s x.2 (fun T' a => R T' x.1 a)) s') : Wk prog w Γ t (Aft h₀ cx T σ s r.2 (fun T' a => R T' r.1 a)) s' := e ▸ h
theorem gotA {h₀ : Heap} {a : α} {s' : Shared} {x : β × St} (e : some x = some r) (h : Aft h₀ cx T σ s x.2 (fun T' a => R T' x.1 a) a s') : Aft h₀ cx T σ s r.2 (fun T' a => R T' r.1 a) a s' := Option.some.inj e ▸ h
theorem Snd.bindH {vs : List Value} (h : Snd X cx f t R) (e : f σ = some r) (G : Good X.cl X.m Γ A) (H : T.In s.heap) (S : StRel X.h₀ cx T σ)
  (k : ∀ va s₁ T₁, Go X.h₀ cx T σ s T₁ r.2 s₁ → R T₁ r.1 va → Wk X.prog X.w Γ (F va) Q s₁) : Wk X.prog X.w Γ (holding vs t >>= F) Q s := Wk.bind (Wk.holding (h.then e G H S k))
end
section
variable {X : Wd} {cx : Cx} {env : Env} {Ev : Ev} {P : Prg}
noncomputable def binEnd (lab : Option Nat) (z : FV) (st : St) : Option (PV × St) := match z with
 | .list _ => st.make lab z
 | _ => some (.f z, st)
theorem binEnd_alt {lab : Option Nat} {z : FV} {st : St} : binEnd lab z st = alt (FV.asL z) (fun l => st.make lab (.list l)) (some (.f z, st)) := by induction z using FV.casesOn <;> rfl
theorem bin_end {σ : St} {s : Shared} {T₂ : Tab} {σ₂ : St} {s₂ : Shared} {lab : Option Nat} {op : Operator} {x y z : FV} {r : PV × St} {u v : Value} {A : Around} {T : Tab} (g : Go X.h₀ cx T σ s T₂ σ₂ s₂) (hx : DRel T₂ x u) (hy : DRel T₂ y v) (ez : binFV op x y = some z) (e : binEnd lab z σ₂ = some r) :
  wpAny (model X.prog X.w) A (binaryOp op u v) (Aft X.h₀ cx T σ s r.2 (fun T' a => PRel T' r.1 a)) (fun _ _ => False) s₂ := by
 refine binop_ok g.isIn hx hy ez (fun r' k hr hz => ak (binEnd_alt.symm.trans e) (fun l hl _ => absurd (FV.asL_some hl) (hz l)) fun e => gotA (R := PRel) e ⟨T₂, g.trans (.toks g.isIn g.rel k), hr⟩) fun l vs h' o hz hk ho L R => ?_
 subst hz
 exact (make_list (s := s₂) (k := s₂.toks) (pv := r.1) (σ' := r.2) g.isIn g.rel e hk (Tab.fresh g.isIn) ho L R).elim fun T' h => ⟨T', g.trans h.1, h.2⟩
theorem snd_bin {op : Operator} {a b : PE} {lab : Option Nat} {l r : Expr} {pos : Pos} (ha : Snd X cx (Ev.e a) (eval l env) PRel) (hb : Snd X cx (Ev.e b) (eval r env) PRel) :
  Snd X cx (stepE Ev P (.bin op a b lab)) (eval (.BinOp l op r pos) env) PRel :=
 .mk' fun {σ r} e {Γ A} G {T s} H S => bk e fun ra ea e => bk e fun rb eb e => ik e fun hh e => bk e fun x ex e => bk e fun y ey e => bk e fun z ez e =>
  Wk.of_eq (eval_BinOp ..) (ha.bind ea G H S fun va s₁ T₁ G₁ pa => hb.bindH eb G G₁.isIn G₁.rel fun vb s₂ T₂ G₂ pb =>
   Wk.bind (Wk.standAt (Wk.of_any G.isIn (wpAny_operate' (bin_end (G₁.trans G₂) (deref_rel G₂.rel (G₂.nx.held pa hh) ex) (deref_rel G₂.rel pb ey) ez e)))))
end
noncomputable def RB (_ : Tab) (b : Bool) (t : Bool) : Prop := t = b
noncomputable def baseT (h : Heap) : Tab := fun a => (h.get? a).map fun o => (.froz, o)
theorem base_mono {h₀ : Heap} {cx : Cx} {T : Tab} {σ : St} (S : StRel h₀ cx T σ) : FMono (baseT h₀) T := fun a o e => by
 unfold baseT at e
 cases q : h₀.get? a with
 | none => rw [q] at e; exact no e
 | some o' => rw [q] at e; cases e; exact S.base a _ q
noncomputable def plainE (e : Expr) : Bool := !(e.ctorIdx == 7)
theorem behind_plain {e : Expr} (h : plainE e = true) (op : CmpOp) : behindInMarks op e = false := by
 have hx : false = false := rfl
 induction e using Expr.casesOn <;> first | exact nob h | exact hx
theorem marked_plain (ops : List CmpOp) : ∀ (es : List Expr) (ts : List (Sem Value)), (∀ e ∈ es, plainE e = true) → markedEach ops es ts = ts := by
 induction ops with
 | nil => intro es ts _; induction es using List.casesOn <;> cases ts <;> rfl
 | cons op ops ih =>
  intro es ts h
  induction es using List.casesOn with
  | nil => induction ops using List.casesOn <;> cases ts <;> rfl
  | cons e es =>
   induction ts using List.casesOn with
   | nil => induction ops using List.casesOn <;> cases es <;> rfl
   | cons t ts =>
    have tail : markedEach ops es ts = ts := ih es ts fun e' he => h e' (List.mem_cons_of_mem _ he)
    induction ops using List.casesOn with
    | cons _ _ => induction es using List.casesOn <;> cases ts <;> exact congrArg (t :: ·) tail
    | nil => induction es using List.casesOn with
     | cons _ _ => induction ts using List.casesOn <;> exact congrArg (t :: ·) tail
     | nil => induction ts using List.casesOn with
      | cons _ _ => exact congrArg (t :: ·) tail
      | nil =>
       show [markedBehindIn op e t] = [t]
       rw [markedBehindIn_of_false (behind_plain (h e List.mem_cons_self) op)]
inductive SndL (X : Wd) (cx : Cx) (Ev : Ev) (env : Env) : List PE → List Expr → Prop
 | nil : SndL X cx Ev env [] []
 | cons {a l e es} : plainE e = true → Snd X cx (Ev.e a) (eval e env) PRel → Snd X cx (Ev.c a) (isTrue e env (eval e env)) RB → SndL X cx Ev env l es → SndL X cx Ev env (a :: l) (e :: es)
theorem SndL.plain {X cx Ev env l es} (h : SndL X cx Ev env l es) : ∀ e ∈ es, plainE e = true := by
 induction h with
 | nil => intro e he; cases he
 | cons a _ _ _ ih => intro e he; rcases List.mem_cons.mp he with rfl | he; exact a; exact ih e he
section
variable {X : Wd} {cx : Cx} {env : Env} {Ev : Ev} {P : Prg} {pos : Pos}
theorem snd_var (R : EnvR env cx) {i : Nat} {x : Str} {co : Option Addr} (hx : cx.names[i]? = some (x, co)) (hd : (x == ("__debug__" : Str)) = false) : Snd X cx (stepE Ev P (.var i)) (eval (.Name x pos) env) PRel :=
 .mk' fun {σ r} e {Γ A} G {T s} H S => mk e fun v ev e => gotEq e <| Wk.of_eq (eval_Name env x pos hd) (Wk.bind (Wk.standAt (Wk.of_any G.isIn (ld_var R H S hx (Option.join_eq_some_iff.mp ev) fun v hv => ⟨T, .refl H S, hv⟩))))
noncomputable def GlobIs (h₀ : Heap) (mg mb : Str → Option Value) (x : Str) (v : Value) : Prop := mg x = some v ∨ mg x = none ∧ mb x = some v
theorem snd_gc {mg mb : Str → Option Value} (N : Names X.h₀ mg mb) (R : EnvR env cx) {x : Str} {v : FV} {vv : Value} (hk : env.kindOf x = some .globalImplicit) (hg : GlobIs X.h₀ mg mb x vv) (hv : VRel (baseT X.h₀) v vv) (hd : (x == ("__debug__" : Str)) = false) :
  Snd X cx (stepE Ev P (.gc x v)) (eval (.Name x pos) env) PRel :=
 .mk' fun {σ r} e {Γ A} G {T s} H S => got e (Wk.of_eq (eval_Name env x pos hd) (Wk.bind (Wk.standAt (Wk.of_any G.isIn (ld_glob N R H S hk hg ⟨T, .refl H S, hv.mono (base_mono S)⟩)))))
theorem cst_ok {c : Const} {k : Nat} {v : FV} (ev : constFV c = some v) {Γ : Ctx} {A : Around} (hA : Γ.In A) {s : Shared} {T : Tab} {Q : Value → Shared → Prop} (h : ∀ u k, VRel T v u → Q u { s with toks := k }) : Wk X.prog X.w Γ (eval (.Constant c k pos) env) Q s :=
 Wk.of_eq (eval_Constant ..) (by
  induction c with
  | none => exact Wk.pure (h _ s.toks (Option.some.inj ev ▸ rfl))
  | bool b => exact Wk.pure (h _ s.toks (Option.some.inj ev ▸ rfl))
  | int i => exact Wk.of_any hA (wpAny_mkInt (h _ _ (Option.some.inj ev ▸ ⟨_, rfl⟩)))
  | str i => exact fun _ => h _ (s.toks + 1) (Option.some.inj ev ▸ ⟨_, rfl⟩)
  | bytes i => exact fun _ => h _ (s.toks + 1) (Option.some.inj ev ▸ ⟨_, rfl⟩)
  | _ => exact no ev)
theorem snd_cst {c : Const} {k : Nat} : Snd X cx (stepE Ev P (.cst c)) (eval (.Constant c k pos) env) PRel :=
 .mk' fun {σ r} e {Γ A} G {T s} H S => mk e fun v ev e => gotEq e <| cst_ok ev G.isIn fun u k hu => ⟨T, .toks H S k, hu⟩
theorem snd_neg {a : PE} {e : Expr} (ha : Snd X cx (Ev.e a) (eval e env) PRel) : Snd X cx (stepE Ev P (.neg a)) (eval (.UnaryOp .USub e pos) env) PRel :=
 .mk' fun {σ r} e' {Γ A} G {T s} H S => bk e' fun ra ea e' => ha.bind (F := fun v => do standAt pos; holding [v] (unaryOp .USub v)) ea G H S fun va s₁ T₁ G₁ pa => by
  obtain ⟨pv, σ₁⟩ := ra
  induction pv with
  | o k => exact no e'
  | f x => induction x using FV.casesOn with
   | int i => exact got e' (Wk.bind (Wk.standAt (Wk.holding (Wk.of_any G.isIn (neg_ok (T := T₁) pa fun r k hr => ⟨T₁, G₁.trans (.toks G₁.isIn G₁.rel k), hr⟩)))))
   | _ => exact no e'
theorem snd_not {a : PE} {e : Expr} (ha : Snd X cx (Ev.e a) (eval e env) PRel) : Snd X cx (stepE Ev P (.notE a)) (eval (.UnaryOp .Not e pos) env) PRel :=
 .mk' fun {σ r} e' {Γ A} G {T s} H S => bk e' fun ra ea e' => mk e' fun t ht e' => bk ht fun x ex ht => gotEq e' <| ha.bind (F := fun v => do standAt pos; holding [v] (unaryOp .Not v)) ea G H S fun va s₁ T₁ G₁ pa =>
  Wk.bind (Wk.standAt (Wk.holding (Wk.of_any G.isIn (not_of (truth_ok G₁.isIn (deref_rel G₁.rel pa ex) ht fun k => ⟨T₁, G₁.trans (.toks G₁.isIn G₁.rel k), rfl⟩)))))
theorem snd_truth {a : PE} {e : Expr} {whole : Sem Value} (ha : Snd X cx (Ev.e a) whole PRel) (hw : isTrue e env whole = (do let v ← whole; standAt e.pos; holding [v] (truthy v))) :
  Snd X cx (fun st => (Ev.e a st).bind fun r => ((r.2.deref r.1).bind FV.truth).map fun t => (t, r.2)) (isTrue e env whole) RB :=
 .mk' fun {σ r} e' {Γ A} G {T s} H S => bk e' fun ra ea e' => mk e' fun t ht e' => bk ht fun x ex ht => gotEq e' <| Wk.of_eq hw (ha.bind ea G H S fun va s₁ T₁ G₁ pa =>
  Wk.bind (Wk.standAt (Wk.holding (Wk.of_any G.isIn (truth_ok G₁.isIn (deref_rel G₁.rel pa ex) ht fun k => ⟨T₁, G₁.trans (.toks G₁.isIn G₁.rel k), rfl⟩)))))
theorem snd_trueNot {a : PE} {e : Expr} {whole : Sem Value} (ha : Snd X cx (Ev.c a) (isTrue e env (eval e env)) RB) : Snd X cx (stepC Ev (.notE a)) (isTrue (.UnaryOp .Not e pos) env whole) RB :=
 .mk' fun {σ r} e' {Γ A} G {T s} H S => mk e' fun ra ea e' => gotEq e' <| ha.bind (F := fun b => pure !b) ea G H S fun va s₁ T₁ G₁ p => Wk.pure ⟨T₁, G₁, congrArg not p⟩
theorem Snd.ite {α β : Type} {f g : St → Option (β × St)} {t u : Sem α} {R : Tab → β → α → Prop} {σ σ₁ : St} {r : β × St} {Γ : Ctx} {A : Around} {T T₁ : Tab} {s s₁ : Shared} (ha : Snd X cx f t R) (hb : Snd X cx g u R) {b b' : Bool} (p : b' = b) (e : (if b = true then f σ₁ else g σ₁) = some r) (G : Good X.cl X.m Γ A) (g' : Go X.h₀ cx T σ s T₁ σ₁ s₁) :
  Wk X.prog X.w Γ (if b' = true then t else u) (Aft X.h₀ cx T σ s r.2 (fun T' a => R T' r.1 a)) s₁ := by
 subst p
 induction b' with
 | true => exact ha.after e G g'
 | false => exact hb.after e G g'
theorem snd_ife {c a b : PE} {et e₁ e₂ : Expr} (hc : Snd X cx (Ev.c c) (isTrue et env (eval et env)) RB) (ha : Snd X cx (Ev.e a) (eval e₁ env) PRel) (hb : Snd X cx (Ev.e b) (eval e₂ env) PRel) :
  Snd X cx (stepE Ev P (.ife c a b)) (eval (.IfExp et e₁ e₂ pos) env) PRel :=
 .mk' fun {σ r} e {Γ A} G {T s} H S => bk e fun t ec e => hc.bind (F := fun (b : Bool) => (if b = true then eval e₁ env else eval e₂ env : Sem Value)) ec G H S fun _ _ _ G₁ p => ha.ite hb p e G G₁
theorem snd_trueIfe {c a b : PE} {et e₁ e₂ : Expr} {whole : Sem Value} (hc : Snd X cx (Ev.c c) (isTrue et env (eval et env)) RB) (ha : Snd X cx (Ev.c a) (isTrue e₁ env (eval e₁ env)) RB) (hb : Snd X cx (Ev.c b) (isTrue e₂ env (eval e₂ env)) RB) :
  Snd X cx (stepC Ev (.ife c a b)) (isTrue (.IfExp et e₁ e₂ pos) env whole) RB :=
 .mk' fun {σ r} e {Γ A} G {T s} H S => bk e fun t ec e => hc.bind (F := fun (b : Bool) => (if b = true then isTrue e₁ env (eval e₁ env) else isTrue e₂ env (eval e₂ env) : Sem Bool)) ec G H S fun _ _ _ G₁ p => ha.ite hb p e G G₁
theorem snd_allTrue {l : List PE} {es : List Expr} (h : SndL X cx Ev env l es) : Snd X cx (evAll Ev l) (allTrue .And es env) RB := by
 induction h with
 | nil => exact .mk' fun {σ r} e {Γ A} G {T s} H S => got e (Wk.pure ⟨T, .refl H S, rfl⟩)
 | @cons _ _ ex es _ _ hc _ ih =>
  exact .mk' fun {σ r} e {Γ A} G {T s} H S => bk e fun t ec e =>
   hc.bind (F := fun (b : Bool) => (match BoolOp.And, b with | .And, false => pure false | .Or, true => pure true | _, _ => allTrue .And es env : Sem Bool)) ec G H S fun b s₁ T₁ G₁ p => by
    rw [show t.1 = b from p.symm] at e
    induction b with
    | true => exact ih.after e G G₁
    | false => exact got e (Wk.pure ⟨T₁, G₁, rfl⟩)
theorem snd_anyTrue {l : List PE} {es : List Expr} (h : SndL X cx Ev env l es) : Snd X cx (evAny Ev l) (allTrue .Or es env) RB := by
 induction h with
 | nil => exact .mk' fun {σ r} e {Γ A} G {T s} H S => got e (Wk.pure ⟨T, .refl H S, rfl⟩)
 | @cons _ _ ex es _ _ hc _ ih =>
  exact .mk' fun {σ r} e {Γ A} G {T s} H S => bk e fun t ec e =>
   hc.bind (F := fun (b : Bool) => (match BoolOp.Or, b with | .And, false => pure false | .Or, true => pure true | _, _ => allTrue .Or es env : Sem Bool)) ec G H S fun b s₁ T₁ G₁ p => by
    rw [show t.1 = b from p.symm] at e
    induction b with
    | false => exact ih.after e G G₁
    | true => exact got e (Wk.pure ⟨T₁, G₁, rfl⟩)
theorem snd_part {a : PE} {ex : Expr} {op : BoolOp} {g : St → Option (PV × St)} {rest : Sem Value} {d : Bool} (he : Snd X cx (Ev.e a) (eval ex env) PRel) (hr : Snd X cx g rest PRel) {F : Value → Bool → Sem Value} (h1 : ∀ v, F v d = rest) (h2 : ∀ v, F v (!d) = pure v) :
  Snd X cx (fun st => (Ev.e a st).bind fun r => ((r.2.deref r.1).bind FV.truth).bind fun t => if t = d then g r.2 else some r) (do let v ← eval ex env; standAt pos; let t ← holding [v] (truthy v); F v t) PRel :=
 .mk' fun {σ r} e {Γ A} G {T s} H S => bk e fun ra ea e => bk e fun t ht e => bk ht fun x ex ht => he.bind ea G H S fun va s₁ T₁ G₁ pa =>
  Wk.bind (Wk.standAt (Wk.bind (Wk.holding (Wk.of_any G.isIn (truth_ok G₁.isIn (deref_rel G₁.rel pa ex) ht fun k => by
   have G₂ := G₁.trans (.toks G₁.isIn G₁.rel k)
   by_cases hd : t = d
   ·rw [if_pos hd] at e
    rw [hd, h1]
    exact hr.after e G G₂
   ·rw [if_neg hd] at e
    rw [show t = !d by induction t <;> cases d <;> first | rfl | exact absurd rfl hd, h2]
    exact got e (Wk.pure ⟨T₁, G₂, pa⟩))))))
theorem snd_and {l : List PE} {es : List Expr} (h : SndL X cx Ev env l es) : Snd X cx (evAnd Ev l) (boolOp pos .And (evalEach es env)) PRel := by
 induction h with
 | nil => exact .mk' fun {σ r} e => no e
 | cons _ he _ hl ih => cases hl with
  | nil => exact he
  | @cons a' l' ex' es' _ _ _ _ => exact snd_part (op := .And) (d := true) (g := evAnd Ev (a' :: l')) (F := fun v t => match BoolOp.And, t with
   | .And, false | .Or, true => pure v
   | _, _ => boolOp pos .And (evalEach (ex' :: es') env)) he ih (fun _ => rfl) fun _ => rfl
theorem snd_or {l : List PE} {es : List Expr} (h : SndL X cx Ev env l es) : Snd X cx (evOr Ev l) (boolOp pos .Or (evalEach es env)) PRel := by
 induction h with
 | nil => exact .mk' fun {σ r} e => no e
 | cons _ he _ hl ih => cases hl with
  | nil => exact he
  | @cons a' l' ex' es' _ _ _ _ =>
   have h := snd_part (pos := pos) (op := .Or) (d := false) (g := evOr Ev (a' :: l')) (F := fun v t => match BoolOp.Or, t with
    | .And, false | .Or, true => pure v
    | _, _ => boolOp pos .Or (evalEach (ex' :: es') env)) he ih (fun _ => rfl) fun _ => rfl
   refine .mk' fun {σ r} e => h.go (b := r.1) (σ' := r.2) (Eq.trans ?_ e)
   show Option.bind _ _ = Option.bind _ _
   congr 1; funext q; congr 1; funext t
   induction t <;> rfl
end
structure SndA {α β : Type} (X : Wd) (cx : Cx) (f : PV → St → Option (β × St)) (t : Value → Sem α) (R : Tab → β → α → Prop) : Prop where
 of ::
 go : ∀ {ra : PV} {va : Value} {σ : St} {r : β × St}, f ra σ = some r → ∀ {Γ : Ctx} {A : Around}, Good X.cl X.m Γ A → ∀ {T : Tab} {s : Shared}, T.In s.heap → StRel X.h₀ cx T σ → PRel T ra va → Wk X.prog X.w Γ (t va) (Aft X.h₀ cx T σ s r.2 (fun T' a => R T' r.1 a)) s
section
variable {X : Wd} {cx : Cx} {env : Env} {Ev : Ev} {P : Prg} {pos : Pos}
theorem SndA.after {α β : Type} {f : PV → St → Option (β × St)} {t : Value → Sem α} {R : Tab → β → α → Prop} (h : SndA X cx f t R) {T T₁ : Tab} {σ σ₁ : St} {s s₁ : Shared} {ra : PV} {va : Value} {r : β × St} {Γ : Ctx} {A : Around} (e : f ra σ₁ = some r) (G : Good X.cl X.m Γ A) (g : Go X.h₀ cx T σ s T₁ σ₁ s₁) (p : PRel T₁ ra va) :
  Wk X.prog X.w Γ (t va) (Aft X.h₀ cx T σ s r.2 (fun T' a => R T' r.1 a)) s₁ :=
 Wk.mono (h.go e G g.isIn g.rel p) fun _ _ h => h.elim fun T₂ h => ⟨T₂, g.trans h.1, h.2⟩
theorem cmp_part {γ : Type} {b : PE} {ex : Expr} (hb : Snd X cx (Ev.e b) (eval ex env) PRel) {op : CmpOp} {ra : PV} {va : Value} {σ : St} {r : Bool × St} {g : PV × St → Bool → Option (Bool × St)}
  (e : ((Ev.e b σ).bind fun q => if held σ q.2 ra then (q.2.deref ra).bind fun x => (q.2.deref q.1).bind fun y => (chainCmp op x y).bind fun t => g q t else Option.none) = some r) {Γ : Ctx} {A : Around} (G : Good X.cl X.m Γ A) {T : Tab} {s : Shared} (H : T.In s.heap) (S : StRel X.h₀ cx T σ) (pa : PRel T ra va) {F : Value → Sem γ} {Q : γ → Shared → Prop}
  (k : ∀ q t vb s₁ T₁, Go X.h₀ cx T σ s T₁ q.2 s₁ → PRel T₁ q.1 vb → (∀ {Q' : Value → Shared → Prop}, Q' (.bool t) s₁ → Wk X.prog X.w Γ (operate [va, vb] (compareOp op va vb)) Q' s₁) → (∀ {Q' : Value → Shared → Prop}, Q' (.bool t) s₁ → Wk X.prog X.w Γ (holding [va, vb] (compareOp op va vb)) Q' s₁) → g q t = some r → Wk X.prog X.w Γ (F vb) Q s₁) :
  Wk X.prog X.w Γ (holding [va] (eval ex env) >>= F) Q s :=
 bk e fun q eb e => ik e fun hh e => bk e fun x ex1 e => bk e fun y ey e => bk e fun t ht e => hb.bindH eb G H S fun vb s₁ T₁ G₁ pb => k q t vb s₁ T₁ G₁ pb
  (fun h => Wk.of_any G.isIn (wpAny_operate' (cmp_ok G₁.isIn (units_ok G) (deref_rel G₁.rel (G₁.nx.held pa hh) ex1) (deref_rel G₁.rel pb ey) ht h)))
  (fun h => Wk.holding (Wk.of_any G.isIn (cmp_ok G₁.isIn (units_ok G) (deref_rel G₁.rel (G₁.nx.held pa hh) ex1) (deref_rel G₁.rel pb ey) ht h))) e
theorem cmp_more {γ : Type} {R : Tab → Bool → γ → Prop} {f : PV → St → Option (Bool × St)} {rest stop : Value → Sem γ} {v0 : γ} {b : PE} {ex : Expr} {op : CmpOp} (hb : Snd X cx (Ev.e b) (eval ex env) PRel) (rec : SndA X cx f rest R) (h0 : stop (.bool false) = pure v0) (hR : ∀ T, R T false v0) :
  SndA X cx (fun ra σ => (Ev.e b σ).bind fun q => if held σ q.2 ra then (q.2.deref ra).bind fun x => (q.2.deref q.1).bind fun y => (chainCmp op x y).bind fun t => if t then f q.1 q.2 else some (false, q.2) else Option.none)
   (fun va => do
    let rv ← holding [va] (eval ex env)
    standAt pos
    let c ← holding [va, rv] (compareOp op va rv)
    release [va, rv] [c]
    if ← holding [c, rv] (truthy c) then rest rv else stop c) R :=
 .of fun {ra va σ r} e {Γ A} G {T s} H S pa => cmp_part hb (g := fun q t => if t then f q.1 q.2 else some (false, q.2)) e G H S pa fun q t vb s₁ T₁ G₁ pb _ hc e =>
  Wk.bind (Wk.standAt (Wk.bind (hc (Wk.bind (Wk.of_any G.isIn (wpAny_release' (Wk.bind (Wk.holding (Wk.of_any G.isIn (wpAny_truthy_bool (by
   induction t with
   | true => exact rec.after e G G₁ pb
   | false =>
    show Wk _ _ _ (stop (.bool false)) _ _
    rw [h0]
    exact got e (Wk.pure ⟨T₁, G₁, hR T₁⟩))))))))))))
theorem cmp_last {γ : Type} {R : Tab → Bool → γ → Prop} {fin : Value → Value → Sem γ} {b : PE} {ex : Expr} {op : CmpOp} (hb : Snd X cx (Ev.e b) (eval ex env) PRel)
  (h : ∀ {Γ : Ctx} {A : Around} {va vb t s₁ T₁} {Q : γ → Shared → Prop}, Good X.cl X.m Γ A → (∀ {Q' : Value → Shared → Prop}, Q' (.bool t) s₁ → Wk X.prog X.w Γ (operate [va, vb] (compareOp op va vb)) Q' s₁) → (∀ v, R T₁ t v → Q v s₁) → Wk X.prog X.w Γ (fin va vb) Q s₁) :
  SndA X cx (fun ra => evChain Ev ra [op] [b]) (fun va => do let rv ← holding [va] (eval ex env); standAt pos; fin va rv) R :=
 .of fun {ra va σ r} e {Γ A} G {T s} H S pa => cmp_part hb (g := fun q t => some (t, q.2)) e G H S pa fun q t vb s₁ T₁ G₁ pb hc _ e =>
  Wk.bind (Wk.standAt (got e (h G hc fun v hv => ⟨T₁, G₁, hv⟩)))
theorem chain_ok {bs : List PE} {es : List Expr} (h : SndL X cx Ev env bs es) : ∀ (ops : List CmpOp), SndA X cx (fun ra => evChain Ev ra ops bs) (fun va => compareChain pos va ops (evalEach es env)) (fun _ t v => v = .bool t) := by
 induction h with
 | nil => exact fun ops => .of fun e => by induction ops using List.casesOn <;> exact no e
 | cons _ hb _ hl ih =>
  intro ops
  induction ops using List.casesOn with
  | nil => exact .of fun e => no e
  | cons op ops => cases hl with
   | nil => induction ops using List.casesOn with
    | nil => exact cmp_last (fin := fun va rv => operate [va, rv] (compareOp op va rv)) hb fun G hc h => hc (h _ rfl)
    | cons op' ops => exact cmp_more (rest := fun rv => compareChain pos rv (op' :: ops) (evalEach [] env)) (stop := pure) hb (ih (op' :: ops)) rfl fun _ => rfl
   | @cons _ _ ex2 es2 _ _ _ _ => induction ops using List.casesOn with
    | nil => exact cmp_more (rest := fun rv => compareChain pos rv [] (evalEach (ex2 :: es2) env)) (stop := pure) hb (ih []) rfl fun _ => rfl
    | cons op' ops => exact cmp_more (rest := fun rv => compareChain pos rv (op' :: ops) (evalEach (ex2 :: es2) env)) (stop := pure) hb (ih (op' :: ops)) rfl fun _ => rfl
theorem test_ok {bs : List PE} {es : List Expr} (h : SndL X cx Ev env bs es) : ∀ (ops : List CmpOp), SndA X cx (fun ra => evChain Ev ra ops bs) (fun va => testChain pos va ops (evalEach es env)) (fun _ t v => v = t) := by
 induction h with
 | nil => exact fun ops => .of fun e => by induction ops using List.casesOn <;> exact no e
 | cons _ hb _ hl ih =>
  intro ops
  induction ops using List.casesOn with
  | nil => exact .of fun e => no e
  | cons op ops => cases hl with
   | nil => induction ops using List.casesOn with
    | nil => exact cmp_last (fin := fun va rv => do let c ← operate [va, rv] (compareOp op va rv); holding [c] (truthy c)) hb fun G hc h => Wk.bind (hc (Wk.holding (Wk.of_any G.isIn (wpAny_truthy_bool (h _ rfl)))))
    | cons op' ops => exact cmp_more (rest := fun rv => testChain pos rv (op' :: ops) (evalEach [] env)) (stop := fun _ => pure false) hb (ih (op' :: ops)) rfl fun _ => rfl
   | @cons _ _ ex2 es2 _ _ _ _ => induction ops using List.casesOn with
    | nil => exact cmp_more (rest := fun rv => testChain pos rv [] (evalEach (ex2 :: es2) env)) (stop := fun _ => pure false) hb (ih []) rfl fun _ => rfl
    | cons op' ops => exact cmp_more (rest := fun rv => testChain pos rv (op' :: ops) (evalEach (ex2 :: es2) env)) (stop := fun _ => pure false) hb (ih (op' :: ops)) rfl fun _ => rfl
theorem snd_cmp {a : PE} {ops : List CmpOp} {bs : List PE} {l : Expr} {es : List Expr} (ha : Snd X cx (Ev.e a) (eval l env) PRel) (hb : SndL X cx Ev env bs es) :
  Snd X cx (stepE Ev P (.cmp a ops bs)) (eval (.Compare l ops es pos) env) PRel :=
 .mk' fun {σ r} e {Γ A} G {T s} H S => bk e fun ra ea e => mk e fun q et e => gotEq e <| ha.bind (F := fun va => compareChain pos va ops (markedEach ops es (evalEach es env))) ea G H S fun va s₁ T₁ G₁ pa => by
  rw [marked_plain _ _ _ hb.plain]
  exact Wk.mono ((chain_ok hb ops).after et G G₁ pa) fun v s₂ h => h.elim fun T₂ h => ⟨T₂, h.1, h.2⟩
theorem snd_trueCmp {a : PE} {ops : List CmpOp} {bs : List PE} {l : Expr} {es : List Expr} {whole : Sem Value} (ha : Snd X cx (Ev.e a) (eval l env) PRel) (hb : SndL X cx Ev env bs es) :
  Snd X cx (fun st => (stepE Ev P (.cmp a ops bs) st).bind fun r => ((r.2.deref r.1).bind FV.truth).map fun t => (t, r.2)) (isTrue (.Compare l ops es pos) env whole) RB :=
 .mk' fun {σ r} e {Γ A} G {T s} H S => bk e fun r₁ e1 e => bk e1 fun ra ea e1 => mk e1 fun q et e1 => by
  subst e1
  refine gotEq (x := q) (Option.some.inj e) ?_
  refine ha.bind (F := fun va => testChain pos va ops (markedEach ops es (evalEach es env))) ea G H S fun va s₁ T₁ G₁ pa => ?_
  rw [marked_plain _ _ _ hb.plain]
  exact (test_ok hb ops).after et G G₁ pa
end
theorem place_eq (i : Int) (n : Nat) : placeOf i n = seqIndex? i n := by
 unfold placeOf seqIndex?
 by_cases h : 0 ≤ i
 ·rw [if_pos h, if_neg (Int.not_lt.mpr h)]
  show _ = if (decide (0 ≤ i) && decide (i < (n : Int))) = true then some i.toNat else none
  rw [decide_eq_true h]
  by_cases h2 : i < n
  ·rw [if_pos h2, decide_eq_true h2]; rfl
  ·rw [if_neg h2, decide_eq_false h2]; rfl
 ·rw [if_neg h, if_pos (Int.not_le.mp h)]
  have h3 : i + (n : Int) < n := by omega
  show _ = if (decide (0 ≤ i + (n : Int)) && decide (i + (n : Int) < (n : Int))) = true then some (i + (n : Int)).toNat else none
  by_cases h2 : 0 ≤ i + n
  ·rw [if_pos h2, decide_eq_true h2, decide_eq_true h3]; rfl
  ·rw [if_neg h2, decide_eq_false h2]; rfl
theorem arr_at {α : Type} {l : List α} {k : Nat} {c : α} (h : l[k]? = some c) : (⟨l⟩ : Array α)[k]? = some c := by simpa using h
theorem clip_k (i : Int) (n : Nat) : ∃ k : Nat, k ≤ n ∧ (if i < 0 then max 0 (i + (n : Int)) else min i n) = k ∧ max 0 (min (if i < 0 then i + (n : Int) else i) n) = k := by
 by_cases h : i < 0
 ·have hx : i + (n : Int) ≤ n := by omega
  rw [if_pos h, if_pos h, Int.min_eq_left hx]
  have e : max 0 (i + (n : Int)) = ((i + (n : Int)).toNat : Int) := by rw [Int.toNat_eq_max, Int.max_comm]
  exact ⟨(i + (n : Int)).toNat, Int.toNat_le.mpr hx, e, e⟩
 ·have h0 : 0 ≤ min i (n : Int) := Int.le_min.mpr ⟨Int.not_lt.mp h, Int.natCast_nonneg n⟩
  rw [if_neg h, if_neg h, Int.max_eq_right h0]
  have e := (Int.toNat_of_nonneg h0).symm
  exact ⟨(min i (n : Int)).toNat, Int.toNat_le.mpr (Int.min_le_right ..), e, e⟩
theorem bound_k (o : Option Int) {d n : Nat} (hd : d ≤ n) : ∃ k : Nat, k ≤ n ∧ (o.map fun i => if i < 0 then max 0 (i + (n : Int)) else min i n).getD (d : Int) = k ∧ ((match o with | none => (d : Int) | some i => max 0 (min (if i < 0 then i + (n : Int) else i) (n : Int)) : Int)) = (k : Int) := by
 induction o with
 | none => exact ⟨d, hd, rfl, rfl⟩
 | some i => exact clip_k i n
theorem slice_run {α : Type} (xs : List α) (lo hi : Option Int) : ∃ a b : Nat, b ≤ xs.length ∧ sliceBounds lo hi none xs.length = ((a : Int), (b : Int), 1) ∧ sliceOf xs lo hi = (xs.drop a).take (b - a) := by
 obtain ⟨a, _, a1, a2⟩ := bound_k lo (Nat.zero_le xs.length)
 obtain ⟨b, hb, b1, b2⟩ := bound_k hi (Nat.le_refl xs.length)
 exact ⟨a, b, hb, congr (congrArg Prod.mk a2) (congrArg (fun z : Int => (z, (1 : Int))) b2), (congr (congrArg (fun (A B : Int) => (xs.drop A.toNat).take (B - A).toNat) a1) b1).trans (by show List.take ((b : Int) - a).toNat _ = _; rw [Int.toNat_sub]; rfl)⟩
theorem pick_list {α : Type} (xs : List α) (lo hi : Option Int) : (sliceRange (sliceBounds lo hi none xs.length).1 (sliceBounds lo hi none xs.length).2.1 (sliceBounds lo hi none xs.length).2.2).filterMap ((⟨xs⟩ : Array α)[·]?) = sliceOf xs lo hi := by
 obtain ⟨a, b, h1, h2, h3⟩ := slice_run xs lo hi
 rw [h2, h3]
 show (sliceRange a b 1).filterMap _ = _
 rw [sliceRange_one, pick_run]
section
variable {prog : Program} {w : World} {A : Around} {E : Value → Shared → Prop} {s : Shared} {T : Tab}
noncomputable def ItemTy (s : Shared) (v : Value) : Prop := ∃ (Ty id : String), typeLookup (.type Ty) "__getitem__" = pure (some (.builtin id)) ∧ s.TypeIs v Ty
theorem item_ok (H : T.In s.heap) {x z : FV} {v : Value} {i : Int} {u : Tok} (hx : DRel T x v) (hi : i.natAbs < 2 ^ 62) (e : idxFV x i = some z) {Q : Value → Shared → Prop} (h : ∀ r k, VRel T z r → Q r { s with toks := k }) :
  ItemTy s v ∧ wpAny (model prog w) A (getItem v (.int i u)) Q E s := by
 have lt : i < 2 ^ 63 := by omega
 have ge : -(2 ^ 63) ≤ i := by omega
 induction x using FV.casesOn with
 | str x =>
  refine bk e fun k hk e => mk e fun c hc hz => ?_
  subst hz
  obtain ⟨t, rfl⟩ := hx
  refine ⟨⟨"str", _, F.slot_str_getitem.lookup, typeIs_str _ _ _⟩, P.getItem_str (c := c) ?_ ?_ (h _ _ ⟨_, rfl⟩)⟩
  ·rw [decide_eq_false (Int.not_lt.mpr ge), decide_eq_false (Int.not_le.mpr lt)]; rfl
  ·rw [place_eq] at hk
   show (seqIndex? i x.cps.size).bind _ = _
   rw [hk]; exact hc
 | bytes b =>
  refine ik e fun hz e => bk e fun k hk e => mk e fun c hc hz => ?_
  subst hz
  obtain ⟨t, rfl⟩ := hx
  refine ⟨⟨"bytes", _, FB.slot_bytes_getitem.lookup, typeIs_bytes _ _ _⟩, getItem_gives (typeIs_bytes s _ t) (by decide) FB.slot_bytes_getitem FB.entry_bytes_getitem (FB.args_bytes_getitem_2 _ _) (gives_bytes_getitem _ i t u c ?_ ?_) (h _ _ ⟨_, rfl⟩)⟩
  ·show (decide _ && decide _) = true
   rw [decide_eq_true ge, decide_eq_true lt]; rfl
  ·rw [place_eq] at hk
   show (seqIndex? i b.length).bind _ = _
   rw [hk]; exact arr_at hc
 | tup l =>
  refine bk e fun k hk hz => ?_
  obtain ⟨a, o, vs, rfl, ta, L, R⟩ := hx
  obtain ⟨v', hv, r⟩ := R.get hz
  refine ⟨⟨"tuple", _, F.slot_tuple_getitem.lookup, (tobj_is (H _ _ _ ta) L).typeIs⟩, getItem_tuple (tobj_tup (H _ _ _ ta) L) ge lt (j := k) ?_ (x := v') (arr_at hv) (h _ s.toks r)⟩
  rw [place_eq] at hk
  rw [show (⟨vs⟩ : Array Value).size = l.length from R.len]; exact hk
 | list l =>
  refine bk e fun k hk hz => ?_
  obtain ⟨a, w', o, vs, rfl, ta, L, R⟩ := hx
  obtain ⟨v', hv, r⟩ := R.get hz
  have hl := lobj_is (H _ _ _ ta) L
  refine ⟨⟨"list", _, slot_list_getitem.lookup, hl.typeIs⟩, ?_⟩
  by_cases h0 : 0 ≤ i
  ·unfold placeOf at hk
   rw [if_pos h0] at hk
   refine ik hk fun _ hk => ?_
   obtain rfl := Option.some.inj hk
   exact wpAny_getItem_list hl h0 lt (arr_at hv) (h _ s.toks r)
  ·unfold placeOf at hk
   rw [if_neg h0] at hk
   refine ik hk fun h1 hk => ?_
   obtain rfl := Option.some.inj hk
   have hn : (⟨vs⟩ : Array Value).size = l.length := R.len
   refine wpAny_getItem_list_neg hl (Int.not_le.mp h0) ?_ ge ?_ (h _ s.toks r)
   ·rw [hn]; omega
   ·rw [hn]; exact arr_at hv
 | _ => exact no e
theorem VRels.sliceOf {l : List FV} {vs : List Value} (R : VRels T l vs) (lo hi : Option Int) : VRels T (Mine.sliceOf l lo hi) (Mine.sliceOf vs lo hi) := by
 unfold Mine.sliceOf
 simp only [R.len]
 exact (R.drop _).take _
noncomputable def partV : Option Int → Value → Prop
 | none, v => v = .none
 | some i, v => ∃ t, v = .int i t
theorem partV.is {lo : Option Int} {v : Value} (h : partV lo v) : IsPart v lo := by
 induction lo with
 | none => rw [show v = .none from h]; exact .none
 | some i => obtain ⟨t, rfl⟩ := h; exact .int i t
theorem partV.tok {lo : Option Int} {v : Value} (h : partV lo v) : ∃ l : Option (Int × Tok), lo = l.map (·.1) ∧ v = partValue l := by
 induction lo with
 | none => exact ⟨none, rfl, h⟩
 | some i => obtain ⟨t, rfl⟩ := h; exact ⟨some (i, t), rfl, rfl⟩
theorem slice_eq_str (x : Str) (lo hi : Option Int) : Txt.slice x lo hi = ⟨⟨sliceOf x.cps.toList lo hi⟩⟩ := by
 have key : (Builtin.Str.strSliceIndices lo hi 1 x.length).filterMap (x.cps[·]?) = sliceOf x.cps.toList lo hi := by
  have := pick_list x.cps.toList lo hi
  rw [← this]
  rfl
 unfold Txt.slice
 show (if ((Builtin.Str.strSliceIndices lo hi 1 x.length).length == x.length) = true then x else ⟨((Builtin.Str.strSliceIndices lo hi 1 x.length).filterMap (x.cps[·]?)).toArray⟩) = _
 by_cases hc : ((Builtin.Str.strSliceIndices lo hi 1 x.length).length == x.length) = true
 ·rw [if_pos hc]
  have hlen := eq_of_beq hc
  obtain ⟨a, b, h1, h2, h3⟩ := slice_run x.cps.toList lo hi
  rw [show Builtin.Str.strSliceIndices lo hi 1 x.length = sliceRange (sliceBounds lo hi none x.cps.toList.length).1 (sliceBounds lo hi none x.cps.toList.length).2.1 1 from rfl, h2] at hlen
  have hl : (sliceRange a b 1).length = b - a := by rw [sliceRange_one, List.length_map, List.length_range]
  have hlen : b - a = x.cps.toList.length := hl.symm.trans hlen
  have e : List.drop a x.cps.toList = x.cps.toList ∨ x.cps.toList.length = 0 := by
   rcases Nat.eq_zero_or_pos a with q | q
   ·rw [q]; exact .inl rfl
   ·exact .inr (by omega)
  rw [h3, hlen]
  rcases e with e | e
  ·rw [e, List.take_length]
  ·rw [List.length_eq_zero_iff.mp e, List.drop_nil, List.take_nil, ← List.length_eq_zero_iff.mp e]
 ·rw [if_neg hc, key]
theorem slice_ok (H : T.In s.heap) {x z : FV} {v vl vu : Value} {lo hi : Option Int} (hx : DRel T x v) (hl : partV lo vl) (hu : partV hi vu) (e : sliceFV x lo hi = some z) {sl : Addr} (hs : s.heap.IsSliceOf sl vl vu .none) {Q : Value → Shared → Prop}
  (h : ∀ r k, VRel T z r → (∀ l, z ≠ .list l) → Q r { s with toks := k })
  (h' : ∀ l vs h' o, z = .list l → (∀ b ob, s.heap.get? b = some ob → h'.get? b = some ob) → h'.get? s.heap.objs.size = some o → LObj o vs → VRels T l vs → Q (.ref s.heap.objs.size) { s with heap := h' }) :
  ItemTy s v ∧ wpAny (model prog w) A (getItem v (.ref sl)) Q E s := by
 induction x using FV.casesOn with
 | str x =>
  obtain ⟨hz, rfl⟩ := ite_some e
  obtain ⟨t, rfl⟩ := hx
  refine ⟨⟨"str", _, F.slot_str_getitem.lookup, typeIs_str _ _ _⟩, ?_⟩
  obtain ⟨l, rfl, rfl⟩ := hl.tok
  obtain ⟨u, rfl, rfl⟩ := hu.tok
  obtain ⟨o, ho, hc, hd⟩ := hs
  exact wpAny_getItem_str_slice (l := l) (u := u) (st := none) ⟨o, ho, hc, hd⟩ rfl (post_val_or_str ⟨Nat.le_trans (Txt.slice_le x _ _) (fit_line hz), fun t' k => h (.str (Txt.slice x (l.map (·.1)) (u.map (·.1))) t') k (by rw [slice_eq_str]; exact ⟨t', rfl⟩) (fun _ z => nomatch z)⟩)
 | bytes b =>
  obtain ⟨hz, rfl⟩ := ite_some e
  obtain ⟨t, rfl⟩ := hx
  refine ⟨⟨"bytes", _, FB.slot_bytes_getitem.lookup, typeIs_bytes _ _ _⟩, ?_⟩
  obtain ⟨a, c, h1, h2, h3⟩ := slice_run b lo hi
  have hw : PySem.W.KBy.whole ⟨b⟩ lo hi = false := by
   unfold PySem.W.KBy.whole
   rw [show ((⟨b⟩ : Array UInt8).size) = b.length from rfl, h2]
   refine Bool.eq_false_iff.mpr fun q => andk q fun q _ => andk q fun q qc => andk q fun qa _ => hz.2 ?_
   have qa : (a : Int) = 0 := eq_of_beq qa
   have qc : (c : Int) = b.length := eq_of_beq qc
   rw [h3, Int.ofNat.inj qa, Int.ofNat.inj qc]
   show (List.take b.length b).length = _
   rw [List.take_length]
  have hln : (sliceOf b lo hi).length ≤ b.length := by
   rw [h3]; exact Nat.le_trans (List.length_take_le' ..) (List.length_drop .. ▸ Nat.sub_le ..)
  have := PySem.W.KBy.meets_slice ⟨b⟩ t sl hl.is hu.is hw
  rw [show PySem.W.KBy.picked ⟨b⟩ lo hi = ⟨sliceOf b lo hi⟩ from congrArg List.toArray (pick_list b lo hi)] at this
  exact getItem_meets (typeIs_bytes _ _ _) (by decide) FB.slot_bytes_getitem FB.entry_bytes_getitem (FB.args_bytes_getitem_2 _ _) this ⟨hs, fit_line (Nat.le_trans hln hz.1), h _ _ ⟨_, rfl⟩ (fun _ z => nomatch z)⟩
 | list l =>
  obtain ⟨hz, rfl⟩ := ite_some e
  obtain ⟨a, w', o, vs, rfl, ta, L, R⟩ := hx
  have hL := lobj_is (H _ _ _ ta) L
  refine ⟨⟨"list", _, slot_list_getitem.lookup, hL.typeIs⟩, wpAny_getItem_list_slice hL hs hl.is hu.is .none (fun z => nomatch z) ?_ (fit_line (Nat.le_trans (Nat.le_of_eq R.len) hz))⟩
  rw [show slicePick ⟨vs⟩ lo hi none = ⟨sliceOf vs lo hi⟩ from congrArg List.toArray (pick_list vs lo hi)]
  exact h' _ _ _ _ rfl (fun b ob e => Heap.get?_push_of_some _ e) (Heap.get?_push_size _ rfl) ⟨0, rfl⟩ (R.sliceOf lo hi)
 | _ => exact no e
end
noncomputable def RVs (T : Tab) : List PV → List Value → Prop
 | [], vs => vs = []
 | p :: ps, vs => ∃ v r, vs = v :: r ∧ PRel T p v ∧ RVs T ps r
theorem RVs.fvs {T : Tab} {ps : List PV} : ∀ {vs : List Value} {l : List FV}, RVs T ps vs → fvs ps = some l → VRels T l vs := by
 induction ps with
 | nil => exact fun h e => Option.some.inj e ▸ h
 | cons p ps ih =>
  intro _ _ h e
  obtain ⟨v, r, rfl, a, b⟩ := h
  refine bk e fun x hx e => mk e fun l' hl e => ?_
  subst e
  induction p with
  | o k => exact no hx
  | f y => exact Option.some.inj hx ▸ ⟨v, r, rfl, a, ih b hl⟩
theorem RVs.length {T : Tab} {ps : List PV} : ∀ {vs : List Value}, RVs T ps vs → vs.length = ps.length := by
 induction ps with
 | nil => exact fun e => congrArg List.length e
 | cons p ps ih =>
  intro _ h
  obtain ⟨v, r, rfl, a, b⟩ := h
  exact congrArg Nat.succ (ih b)
theorem take_app {α : Type} {c m b : List α} (h : c = m ++ b) : c.take (c.length - b.length) = m := by
 rw [h, List.length_append, Nat.add_sub_cancel, List.take_left]
theorem held_later {T T' T'' : Tab} {a b c : St} (x : Nx T T' a b) (y : Nx T' T'' b c) {p : PV} (h : held a c p = true) : held b c p = true := by
 induction p with
 | f _ => rfl
 | o k =>
  obtain ⟨n, hn, _⟩ := x.keep
  obtain ⟨m, hm, _⟩ := y.keep
  have h := not_t h
  rw [take_app (m := m ++ n) (by rw [hm, hn, List.append_assoc])] at h
  have h' : m.contains k = false := Bool.eq_false_iff.mpr fun q => Bool.eq_false_iff.mp h (List.contains_iff_mem.mpr (List.mem_append_left _ (List.contains_iff_mem.mp q)))
  show (!(c.chg.take (c.chg.length - b.chg.length)).contains k) = true
  rw [take_app hm, h']; rfl
inductive Trees (X : Wd) (cx : Cx) (Ev : Ev) : List PE → List (Bool × Sem Value) → Prop
 | nil : Trees X cx Ev [] []
 | cons {a l t ts} : Snd X cx (Ev.e a) t PRel → Trees X cx Ev l ts → Trees X cx Ev (a :: l) ((false, t) :: ts)
structure SndVs (X : Wd) (cx : Cx) (f : St → Option (List PV × St)) (t : Sem (List Value)) : Prop where
 of ::
 go : ∀ {σ : St} {b : List PV} {σ' : St}, f σ = some (b, σ') → ∀ {Γ : Ctx} {A : Around}, Good X.cl X.m Γ A → ∀ {T : Tab} {s : Shared}, T.In s.heap → StRel X.h₀ cx T σ →
  Wk X.prog X.w Γ t (fun vs s' => ∃ T', Go X.h₀ cx T σ s T' σ' s' ∧ ((b.all (held σ σ') = true) → RVs T' b vs)) s
section
variable {X : Wd} {cx : Cx} {env : Env} {Ev : Ev} {P : Prg} {pos : Pos}
theorem SndVs.bind {γ : Type} {f : St → Option (List PV × St)} {t : Sem (List Value)} {F : List Value → Sem γ} {Q : γ → Shared → Prop} {σ : St} {r : List PV × St} {Γ : Ctx} {A : Around} {T : Tab} {s : Shared} (h : SndVs X cx f t) (e : f σ = some r) (G : Good X.cl X.m Γ A) (H : T.In s.heap) (S : StRel X.h₀ cx T σ)
  (k : ∀ vs s₁ T₁, Go X.h₀ cx T σ s T₁ r.2 s₁ → (r.1.all (held σ r.2) = true → RVs T₁ r.1 vs) → Wk X.prog X.w Γ (F vs) Q s₁) : Wk X.prog X.w Γ (t >>= F) Q s :=
 Wk.bind (Wk.mono (h.go (b := r.1) (σ' := r.2) e G H S) fun vs s₁ h => h.elim fun T₁ h => k vs s₁ T₁ h.1 h.2)
theorem SndVs.mk' {f : St → Option (List PV × St)} {t : Sem (List Value)} (h : ∀ {σ : St} {r : List PV × St}, f σ = some r → ∀ {Γ : Ctx} {A : Around}, Good X.cl X.m Γ A → ∀ {T : Tab} {s : Shared}, T.In s.heap → StRel X.h₀ cx T σ →
  Wk X.prog X.w Γ t (fun vs s' => ∃ T', Go X.h₀ cx T σ s T' r.2 s' ∧ ((r.1.all (held σ r.2) = true) → RVs T' r.1 vs)) s) : SndVs X cx f t := ⟨fun e => h e⟩
theorem spliced_ok : ∀ {l : List PE} {ts : List (Bool × Sem Value)}, Trees X cx Ev l ts → SndVs X cx (evL Ev l) (spliced ts)
 | _, _, .nil => .mk' fun {σ r} e {Γ A} G {T s} H S => Option.some.inj e ▸ Wk.pure ⟨T, .refl H S, fun _ => rfl⟩
 | _, _, .cons (a := a) (l := l) (t := t) (ts := ts) ha hl => .mk' fun {σ r} e {Γ A} G {T s} H S => bk e fun ra ea e => bk e fun rs es e => Option.some.inj e ▸
  ha.bind (F := fun v => (pure [v] : Sem (List Value)) >>= fun here => do return here ++ (← holding here (spliced ts))) ea G H S fun va s₁ T₁ G₁ pa =>
   Wk.bind (Wk.pure (Wk.bind (Wk.holding (Wk.mono ((spliced_ok hl).go (b := rs.1) (σ' := rs.2) es G G₁.isIn G₁.rel) fun vs s₂ h => h.elim fun T₂ h => Wk.pure ⟨T₂, G₁.trans h.1, fun hh => by
    have hh := Bool.and_eq_true_iff.mp (show (held σ rs.2 ra.1 && rs.1.all (held σ rs.2)) = true from hh)
    exact ⟨va, vs, rfl, h.1.nx.held pa (held_later G₁.nx h.1.nx hh.1), h.2 (List.all_eq_true.mpr fun p hp => held_later G₁.nx h.1.nx (List.all_eq_true.mp hh.2 p hp))⟩⟩))))
theorem held_fvs {a c : St} {ps : List PV} : ∀ {l : List FV}, fvs ps = some l → ps.all (held a c) = true := by
 induction ps with
 | nil => exact fun _ => rfl
 | cons p ps ih =>
  intro _ e
  refine bk e fun x hx e => mk e fun l' hl e => ?_
  induction p with
  | o k => exact no hx
  | f y => exact ih hl
theorem fits {T : Tab} {vs : List FV} {ws : List Value} (R : VRels T vs ws) (hz : vs.length ≤ 1000000) : ws.toArray.size ≤ sizeLine := fit_line (Nat.le_trans (Nat.le_of_eq R.len) hz)
theorem snd_lst {l : List PE} {lab : Option Nat} {es : List Expr} (ht : Trees X cx Ev l (backTo pos (starEach es env))) : Snd X cx (stepE Ev P (.lst l lab)) (eval (.List es pos) env) PRel :=
 .mk' fun {σ r} e {Γ A} G {T s} H S => bk e fun rs el e => bk e fun vs ev e => ik e fun hz e => Wk.bind (f := fun _ => do newList (← spliced (backTo pos (starEach es env)))) (Wk.standAt ((spliced_ok ht).bind el G H S fun ws s₁ T₁ G₁ ps =>
  Wk.of_any G.isIn (wpAny_newObj_type ((make_list (s := s₁) (k := s₁.toks) (pv := r.1) (σ' := r.2) G₁.isIn G₁.rel e (h' := s₁.heap.push { cls := .type "list", data := .seq ws.toArray }) (fun b ob e => Heap.get?_push_of_some _ e) (Tab.fresh G₁.isIn) (Heap.get?_push_size _ rfl) ⟨0, rfl⟩ ((ps (held_fvs ev)).fvs ev)).elim
   fun T' h => ⟨T', G₁.trans h.1, h.2⟩) (fits ((ps (held_fvs ev)).fvs ev) hz))))
theorem snd_tup {l : List PE} {es : List Expr} {k : Nat} (ht : Trees X cx Ev l (backTo pos (starEach es env))) : Snd X cx (stepE Ev P (.tup l)) (eval (.Tuple es k pos) env) PRel :=
 .mk' fun {σ r} e {Γ A} G {T s} H S => bk e fun rs el e => bk e fun vs ev e => ik e fun hz e => got e (Wk.bind (f := fun _ => do newTuple (← spliced (backTo pos (starEach es env)))) (Wk.standAt ((spliced_ok ht).bind el G H S fun ws s₁ T₁ G₁ ps =>
  Wk.of_any G.isIn (wpAny_newObj_type (by
   have R := (ps (held_fvs ev)).fvs ev
   obtain ⟨S', N⟩ := G₁.rel.made (a := s₁.heap.objs.size) (o := { cls := .type "tuple", data := .seq ws.toArray }) (Tab.fresh G₁.isIn)
   exact ⟨_, G₁.trans ⟨⟨s₁.toks, rfl⟩, in_made G₁.isIn (fun b ob e => Heap.get?_push_of_some _ e) (Heap.get?_push_size _ rfl), S', N⟩, _, _, ws, rfl, Tab.set_self .., ⟨0, rfl⟩, R.mono (ext_set (Tab.fresh G₁.isIn)).f⟩) (fits ((ps (held_fvs ev)).fvs ev) hz)))))
noncomputable def notSlice (e : Expr) : Bool := !(e.ctorIdx == 26)
theorem subscripted_plain {sl : Expr} {o i : Value} (h : notSlice sl = true) : subscripted sl false o i = operate [o, i] (getItem o i) := by
 have hx : operate [o, i] (getItem o i) = operate [o, i] (getItem o i) := rfl
 induction sl using Expr.casesOn <;> first | exact nob h | exact hx
theorem item_tail {Γ : Ctx} {A : Around} {s : Shared} {o i : Value} {value slice : Expr} {ops : List Value} {Q : Value → Shared → Prop} (hI : Γ.In A) (ht : ItemTy s o) (hs : subscripted slice false o i = operate ops (getItem o i)) (hg : wpAny (model X.prog X.w) A (getItem o i) Q (fun _ _ => False) s) :
  Wk X.prog X.w Γ (do
   let r ← subscripted slice (← getitemInPython o) o i
   letTemporaryGo value o r
   pure r) Q s := by
 obtain ⟨Ty, id, hl, hT⟩ := ht
 refine Wk.bind (Wk.of_any hI ?_)
 rw [getitemInPython_of_ne hT.not_modules]
 refine wpAny_bind (wpAny_specialOf hT hl (wpAny_pure ?_))
 rw [hs]
 refine Wk.bind (Wk.of_any hI (wpAny_operate' (wpAny_mono hg (fun r s' q => ?_) fun _ _ x => x)))
 exact Wk.bind (Wk.of_any hI (wpAny_letTemporaryGo (Wk.pure q)))
noncomputable def idxEnd (x : FV) (p : PV) (st : St) : Option (PV × St) := match p with
 | .f (.int i) => if decide (i.natAbs < 2 ^ 62) then (idxFV x i).map fun v => (.f v, st) else Option.none
 | _ => Option.none
theorem idx_k {x : FV} {p : PV} {st : St} {r : PV × St} {G : Prop} (e : idxEnd x p st = some r) (k : ∀ i v, p = .f (.int i) → i.natAbs < 2 ^ 62 → idxFV x i = some v → (PV.f v, st) = r → G) : G := by
 induction p with
 | o j => exact no e
 | f y => induction y using FV.casesOn with
  | int i => exact ik e fun h e => mk e fun v hv e => k i v rfl (of_decide_eq_true h) hv e
  | _ => exact no e
theorem snd_idx {a i : PE} {value slice : Expr} (hsl : notSlice slice = true) (ha : Snd X cx (Ev.e a) (eval value env) PRel) (hi : Snd X cx (Ev.e i) (eval slice env) PRel) : Snd X cx (stepE Ev P (.idx a i)) (eval (.Subscript value slice pos) env) PRel :=
 .mk' fun {σ r} e {Γ A} G {T s} H S => bk e fun ra ea e => bk e fun ri ei e => ik e fun hh e => bk e fun x hx e => idx_k (x := x) (p := ri.1) (st := ri.2) e fun j z hp hj hz e => gotEq e <|
  ha.bind (F := fun o => do
     let i ← holding [o] (eval slice env)
     standAt pos
     let r ← subscripted slice (← getitemInPython o) o i
     letTemporaryGo value o r
     pure r) ea G H S fun va s₁ T₁ G₁ pa => hi.bindH ei G G₁.isIn G₁.rel fun vi s₂ T₂ G₂ pi => Wk.bind (Wk.standAt (by
   rw [hp] at pi
   obtain ⟨t, rfl⟩ := pi
   obtain ⟨h1, h2⟩ := item_ok (prog := X.prog) (w := X.w) (A := A) (E := fun _ _ => False) (u := t) (Q := Aft X.h₀ cx T σ s ri.2 (fun T' v => PRel T' (.f z) v)) G₂.isIn (deref_rel G₂.rel (G₂.nx.held pa hh) hx) hj hz fun r k hr => ⟨T₂, (G₁.trans G₂).trans (.toks G₂.isIn G₂.rel k), hr⟩
   exact item_tail G.isIn h1 (subscripted_plain hsl) h2))
inductive SndO (X : Wd) (cx : Cx) (Ev : Mine.Ev) (env : Env) : Option PE → Option Expr → Prop
 | no : SndO X cx Ev env Option.none Option.none
 | yes {a e} : Snd X cx (Ev.e a) (eval e env) PRel → SndO X cx Ev env (Option.some a) (Option.some e)
theorem part_ok {o : Option PE} {e : Option Expr} (h : SndO X cx Ev env o e) : Snd X cx (evOpt Ev o) (valueOrNone (evalOpt e env)) (fun _ r v => partV r v) :=
 .mk' fun {σ r} e {Γ A} G {T s} H S => by
  induction h with
  | no => exact got (R := fun _ r v => partV r v) e (Wk.pure ⟨T, .refl H S, rfl⟩)
  | yes ha =>
   refine bk e fun ra ea e => ?_
   refine Wk.mono (ha.go (b := ra.1) (σ' := ra.2) ea G H S) fun v s' h => h.elim fun T₁ h => ?_
   obtain ⟨pv, σ₁⟩ := ra
   induction pv with
   | o k => exact no e
   | f y => induction y using FV.casesOn with
    | int i => exact ik e fun _ e => gotA (R := fun _ r v => partV r v) e (h.2.elim fun t ht => ⟨T₁, h.1, ht ▸ ⟨t, rfl⟩⟩)
    | _ => exact no e
theorem snd_slc {a : PE} {lo hi : Option PE} {lab : Option Nat} {value : Expr} {lower upper : Option Expr} {p : Pos} (ha : Snd X cx (Ev.e a) (eval value env) PRel) (hl : SndO X cx Ev env lo lower) (hu : SndO X cx Ev env hi upper) :
  Snd X cx (stepE Ev P (.slc a lo hi lab)) (eval (.Subscript value (.Slice lower upper none p) pos) env) PRel :=
 .mk' fun {σ r} e {Γ A} G {T s} H S => bk e fun ra ea e => bk e fun rl el e => bk e fun ru eu e => ik e fun hh e => bk e fun x hx e => bk e fun z hz e => by
  show Wk X.prog X.w Γ (do
   let o ← eval value env
   let i ← holding [o] (do
    let l ← valueOrNone (evalOpt lower env)
    let u ← holding [l] (valueOrNone (evalOpt upper env))
    let s ← holding [l, u] (pure .none)
    newFields "slice" [l, u, s])
   standAt pos
   let r ← subscripted (.Slice lower upper none p) (← getitemInPython o) o i
   letTemporaryGo value o r
   pure r) _ s
  exact ha.bind ea G H S fun va s₁ T₁ G₁ pa => Wk.bind (Wk.holding ((part_ok hl).bind el G G₁.isIn G₁.rel fun vl s₂ T₂ G₂ pl => (part_ok hu).bindH eu G G₂.isIn G₂.rel fun vu s₃ T₃ G₃ pu =>
    Wk.bind (Wk.holding (Wk.pure (Wk.of_any G.isIn (wpAny_newObj_type (Wk.bind (Wk.standAt (by
     have keep : ∀ b ob, s₃.heap.get? b = some ob → (s₃.heap.push { cls := .type "slice", data := .fields [vl, vu, .none].toArray }).get? b = some ob := fun b ob e => Heap.get?_push_of_some _ e
     have H₄ : T₃.In ({ s₃ with heap := s₃.heap.push { cls := .type "slice", data := .fields [vl, vu, .none].toArray } } : Shared).heap := fun b w o e => keep b o (G₃.isIn b w o e)
     have G' := G₁.trans (G₂.trans G₃)
     have G₄ : Go X.h₀ cx T σ s T₃ ru.2 { s₃ with heap := s₃.heap.push { cls := .type "slice", data := .fields [vl, vu, .none].toArray } } := by
      obtain ⟨tk, e⟩ := G'.same
      exact ⟨⟨tk, by rw [e]⟩, H₄, G'.rel, G'.nx⟩
     obtain ⟨h1, h2⟩ := slice_ok (prog := X.prog) (w := X.w) (A := A) (E := fun _ _ => False) (s := { s₃ with heap := s₃.heap.push { cls := .type "slice", data := .fields [vl, vu, .none].toArray } }) (sl := s₃.heap.objs.size)
      (Q := Aft X.h₀ cx T σ s r.2 (fun T' v => PRel T' r.1 v)) H₄ (deref_rel G₃.rel ((G₂.trans G₃).nx.held pa hh) hx) pl pu hz (Heap.IsSliceOf.new ..)
      (fun r' k hr hz => ak (binEnd_alt.symm.trans (show binEnd lab z ru.2 = some r from e)) (fun l hl _ => absurd (FV.asL_some hl) (hz l)) fun e => gotA (R := PRel) e ⟨T₃, G₄.trans (.toks H₄ G₃.rel k), hr⟩)
      (fun l vs h' o hz hk ho L R => by
       subst hz
       exact (make_list (s := { s₃ with heap := s₃.heap.push { cls := .type "slice", data := .fields [vl, vu, .none].toArray } }) (k := s₃.toks) (pv := r.1) (σ' := r.2) H₄ G₃.rel e hk (Tab.fresh H₄) ho L R).elim fun T' h => ⟨T', G₄.trans h.1, h.2⟩)
     exact item_tail G.isIn h1 rfl h2)))))))))
end
noncomputable def reOwn (pass : List Nat) : Own → Own
 | .froz => .froz
 | .lab k => if pass.contains k then .lab k else .fr
 | .dict k => if pass.contains k then .dict k else .fr
 | _ => .fr
noncomputable def reT (pass : List Nat) (T : Tab) : Tab := fun a => (T a).map fun p => (reOwn pass p.1, p.2)
theorem reT_at {pass : List Nat} {T : Tab} {a : Addr} {w : Own} {o : Obj} (e : T a = some (w, o)) : reT pass T a = some (reOwn pass w, o) := by unfold reT; rw [e]; rfl
theorem reT_from {pass : List Nat} {T : Tab} {a : Addr} {w : Own} {o : Obj} (e : reT pass T a = some (w, o)) : ∃ w', T a = some (w', o) ∧ w = reOwn pass w' := by
 unfold reT at e
 cases q : T a with
 | none => rw [q] at e; exact no e
 | some p => rw [q] at e; obtain ⟨rfl, rfl⟩ := Prod.mk.inj (Option.some.inj e); exact ⟨p.1, rfl, rfl⟩
theorem reOwn_lab {pass w k} (e : reOwn pass w = .lab k) : w = .lab k ∧ pass.contains k = true := by
 induction w with
 | lab j =>
  have e : (if pass.contains j then Own.lab j else .fr) = .lab k := e
  by_cases h : pass.contains j = true
  ·rw [if_pos h] at e; cases e; exact ⟨rfl, h⟩
  ·rw [if_neg h] at e; exact nomatch e
 | dict j =>
  have e : (if pass.contains j then Own.dict j else .fr) = .lab k := e
  by_cases h : pass.contains j = true
  ·rw [if_pos h] at e; exact nomatch e
  ·rw [if_neg h] at e; exact nomatch e
 | _ => exact nomatch e
theorem reOwn_dict {pass w k} (e : reOwn pass w = .dict k) : w = .dict k ∧ pass.contains k = true := by
 induction w with
 | dict j =>
  have e : (if pass.contains j then Own.dict j else .fr) = .dict k := e
  by_cases h : pass.contains j = true
  ·rw [if_pos h] at e; cases e; exact ⟨rfl, h⟩
  ·rw [if_neg h] at e; exact nomatch e
 | lab j =>
  have e : (if pass.contains j then Own.lab j else .fr) = .dict k := e
  by_cases h : pass.contains j = true
  ·rw [if_pos h] at e; exact nomatch e
  ·rw [if_neg h] at e; exact nomatch e
 | _ => exact nomatch e
theorem reOwn_in {pass k} (h : pass.contains k = true) : reOwn pass (.lab k) = .lab k ∧ reOwn pass (.dict k) = .dict k := ⟨if_pos h, if_pos h⟩
theorem reOwn_no {pass w} : reOwn pass w ≠ .loc ∧ reOwn pass w ≠ .cel ∧ ∀ k, reOwn pass w ≠ .brw k := by
 have key : ∀ (c : Prop) [Decidable c] (x : Own), (x ≠ .loc ∧ x ≠ .cel ∧ ∀ k, x ≠ .brw k) → (if c then x else .fr) ≠ .loc ∧ (if c then x else .fr) ≠ .cel ∧ ∀ k, (if c then x else .fr) ≠ .brw k := fun c _ x h => by
  by_cases hc : c
  ·rw [if_pos hc]; exact h
  ·rw [if_neg hc]; exact ⟨nofun, nofun, nofun⟩
 induction w with
 | lab j => exact key _ _ ⟨nofun, nofun, nofun⟩
 | dict j => exact key _ _ ⟨nofun, nofun, nofun⟩
 | _ => exact ⟨nofun, nofun, nofun⟩
theorem reT_in {pass : List Nat} {T : Tab} {h : Heap} (H : T.In h) : (reT pass T).In h := fun a w o e => let ⟨w', e', _⟩ := reT_from e; H a w' o e'
theorem reT_F {pass : List Nat} {T : Tab} : FMono T (reT pass T) := fun a o e => reT_at e
structure Start (h₀ : Heap) (T : Tab) (σ : St) (pass : List Nat) (args : List PV) : Prop where
 args : ∀ k, PV.o k ∈ args → pass.contains k = true ∧ (σ.look k).isSome = true
 flds : ∀ k c ns vs, pass.contains k = true → σ.look k = some (.inst c ns vs) → ∀ j, PV.o j ∈ vs → pass.contains j = true ∧ (σ.look j).isSome = true
theorem PRel.pass {h₀ : Heap} {cx : Cx} {T T' : Tab} {σ : St} (S : StRel h₀ cx T σ) {pass : List Nat} (E : Ext (reT pass T) T') {p : PV} {v : Value} (h : PRel T p v) (hk : ∀ k, p = .o k → pass.contains k = true ∧ (σ.look k).isSome = true) : PRel T' p v := by
 induction p with
 | f x => exact VRel.mono E.f (VRel.mono reT_F h)
 | o k =>
  obtain ⟨h1, h2⟩ := hk k rfl
  obtain ⟨ao, e⟩ := Option.isSome_iff_exists.mp h2
  obtain ⟨a, o, rfl, t, R⟩ := lab_at S h e
  refine ⟨a, o, rfl, .inl (E _ _ _ ?_)⟩
  rw [reT_at t, (reOwn_in h1).1]
theorem PERels.pass {h₀ : Heap} {cx : Cx} {T T' : Tab} {σ : St} (S : StRel h₀ cx T σ) {pass : List Nat} (E : Ext (reT pass T) T') {vs : List PV} : ∀ {ns : List Str} {es : List DictEntry}, PERels T vs ns es → (∀ k, PV.o k ∈ vs → pass.contains k = true ∧ (σ.look k).isSome = true) → PERels T' vs ns es := by
 induction vs with
 | nil => exact fun h _ => h
 | cons p vs ih =>
  intro _ _ h hk
  obtain ⟨n, ns', e, es', x, y, z, a, b⟩ := h
  exact ⟨n, ns', e, es', x, y, z, a.pass S E (fun k hp => hk k (hp ▸ .head _)), ih b fun k hp => hk k (.tail _ hp)⟩
theorem mem_lookup {x : Str} {v : Value} {l : List (Str × Value)} : (x, v) ∈ l → (∀ u, (x, u) ∈ l → u = v) → l.lookup x = some v := by
 induction l with
 | nil => exact fun h => nomatch h
 | cons p r ih =>
  intro h hu
  rw [show p = (p.1, p.2) from rfl, List.lookup_cons]
  cases hb : x == p.1 with
  | true => exact congrArg some (hu p.2 (eq_of_beq hb ▸ .head _))
  | false =>
   refine ih ((List.mem_cons.mp h).resolve_left fun e => ?_) fun u hm => hu u (.tail _ hm)
   rw [← e, beq_self_eq_true] at hb
   exact nomatch hb
theorem names_at {names : List Str} (hn : names.Nodup) {vs : List Value} {i : Nat} {x : Str} {v : Value} (hx : names[i]? = some x) (hv : vs[i]? = some v) : (names.zip vs).reverse.lookup x = some v := by
 refine mem_lookup (List.mem_reverse.mpr (List.mem_of_getElem? (List.getElem?_zip_eq_some.mpr ⟨hx, hv⟩))) fun u hu => ?_
 obtain ⟨j, hj⟩ := List.mem_iff_getElem?.mp (List.mem_reverse.mp hu)
 obtain ⟨h1, h2⟩ := List.getElem?_zip_eq_some.mp hj
 obtain rfl := (List.getElem?_inj (List.getElem?_eq_some_iff.mp hx).1 hn).mp (hx.trans h1.symm)
 exact Option.some.inj (h2.symm.trans hv)
theorem RVs.at {T : Tab} {args : List PV} : ∀ {vs : List Value} {i : Nat} {pv : PV}, RVs T args vs → args[i]? = some pv → ∃ v, vs[i]? = some v ∧ PRel T pv v := by
 induction args with
 | nil => exact fun _ h => nomatch h
 | cons p ps ih =>
  intro vs i pv R h
  obtain ⟨v, r, rfl, a, b⟩ := R
  induction i using Nat.casesOn with
  | zero => exact ⟨v, rfl, Option.some.inj h ▸ a⟩
  | succ i => have := ih (vs := r) (i := i) (pv := pv) b h; exact this
theorem loc_at {args : List PV} {slots i : Nat} {pv : PV} (h : (args.map some ++ List.replicate slots none)[i]? = some (some pv)) : args[i]? = some pv ∧ i < args.length := by
 by_cases hi : i < args.length
 ·rw [List.getElem?_append_left (by rw [List.length_map]; exact hi), List.getElem?_map] at h
  exact mk h fun a ha e => ⟨ha.trans e, hi⟩
 ·rw [List.getElem?_append_right (by rw [List.length_map]; exact Nat.le_of_not_lt hi)] at h
  exact nomatch List.eq_of_mem_replicate (List.mem_of_getElem? h)
theorem callee_start {h₀ : Heap} {cx : Cx} {T : Tab} {σ : St} {pass : List Nat} {args : List PV} {vs : List Value} (S : StRel h₀ cx T σ) (P : Start h₀ T σ pass args) {L : Addr} {oL : Obj} {names : List Str} (hn : names.Nodup) {slots : Nat} (hL : T L = none)
  (N : NsO oL (fun x => ((names.take args.length).zip vs).reverse.lookup x)) (R : RVs T args vs) :
  StRel h₀ ⟨L, names.map (·, none)⟩ ((reT pass T).set L (some (.loc, oL))) { loc := args.map some ++ List.replicate slots none, led := σ.led.filter fun p => pass.contains p.1, chg := [], lent := [] } := by
 have hL' : reT pass T L = none := by unfold reT; rw [hL]; rfl
 have E : Ext (reT pass T) ((reT pass T).set L (some (.loc, oL))) := ext_set hL'
 have back : ∀ b w o, ((reT pass T).set L (some (.loc, oL))) b = some (w, o) → w ≠ .loc → ∃ w', T b = some (w', o) ∧ w = reOwn pass w' := fun b w o e hw => by
  by_cases hb : b = L
  ·subst hb; rw [Tab.set_self] at e; obtain ⟨rfl, rfl⟩ := Prod.mk.inj (Option.some.inj e); exact absurd rfl hw
  ·rw [Tab.set_ne _ _ hb] at e; exact reT_from e
 have look : ∀ k, (St.look { loc := args.map some ++ List.replicate slots none, led := σ.led.filter fun p => pass.contains p.1, chg := [], lent := [] } k) = if pass.contains k then σ.look k else none := fun k => lookup_filter (fun k => pass.contains k) k σ.led
 refine ⟨fun a o e => E _ _ _ (reT_at (S.base a o e)), ⟨⟨oL, _, Tab.set_self .., N, fun i x pv hx hl => ?_⟩, fun i x c hx => ?_⟩, fun a o e => ?_, fun a o e => ?_, fun k ao e => ?_, fun k a b o o' e e' => ?_, fun k a b o o' e e' => ?_, fun k a b o o' e e' => ?_, fun k a o e => ?_, fun k a o e => ?_,
  fun k hk => (nomatch hk), fun k a o e => ?_⟩
 ·obtain ⟨hp, hi⟩ := loc_at hl
  rw [List.getElem?_map] at hx
  refine mk hx fun x' hx' he => ?_
  cases he
  obtain ⟨v, hv, pr⟩ := RVs.at R hp
  exact ⟨v, names_at (List.Nodup.sublist (List.take_sublist _ _) hn) (by rw [List.getElem?_take, if_pos hi]; exact hx') hv, pr.pass S E fun k hk => P.args k (by rw [← hk]; exact List.mem_of_getElem? hp)⟩
 ·rw [List.getElem?_map] at hx
  exact mk hx fun _ _ e => nomatch e
 ·by_cases hb : a = L
  ·exact hb
  ·rw [Tab.set_ne _ _ hb] at e
   obtain ⟨w', _, hw⟩ := reT_from e
   exact absurd hw.symm reOwn_no.1
 ·obtain ⟨w', _, hw⟩ := back _ _ _ e (ne_idx rfl)
  exact absurd hw.symm reOwn_no.2.1
 ·rw [look] at e
  refine ik e fun hp e => ?_
  obtain ⟨a, o, t, R'⟩ := S.led k ao e
  refine ⟨a, o, E _ _ _ (by rw [reT_at t, (reOwn_in hp).1]), ?_⟩
  induction ao with
  | list l => obtain ⟨us, p, q⟩ := R'; exact ⟨us, p, VRels.mono E.f (VRels.mono reT_F q)⟩
  | barr b => exact R'
  | inst c ns fs =>
   obtain ⟨dx, es, n, p, q, r, nd⟩ := R'
   exact ⟨dx, es, n, p, E _ _ _ (by rw [reT_at q, (reOwn_in hp).2]), r.pass S E (P.flds k c ns fs hp e), nd⟩
 ·obtain ⟨w1, e1, h1⟩ := back _ _ _ e (ne_idx rfl)
  obtain ⟨w2, e2, h2⟩ := back _ _ _ e' (ne_idx rfl)
  rw [(reOwn_lab h1.symm).1] at e1
  rw [(reOwn_lab h2.symm).1] at e2
  exact S.labU k a b _ _ e1 e2
 ·obtain ⟨w1, e1, h1⟩ := back _ _ _ e (ne_idx rfl)
  obtain ⟨w2, e2, h2⟩ := back _ _ _ e' (ne_idx rfl)
  rw [(reOwn_dict h1.symm).1] at e1
  rw [(reOwn_dict h2.symm).1] at e2
  exact S.dictU k a b _ _ e1 e2
 ·obtain ⟨w1, e1, h1⟩ := back _ _ _ e (ne_idx rfl)
  exact absurd h1.symm (reOwn_no.2.2 k)
 ·obtain ⟨w1, e1, h1⟩ := back _ _ _ e (ne_idx rfl)
  obtain ⟨h2, h3⟩ := reOwn_lab h1.symm
  rw [h2] at e1
  rw [look, if_pos h3]
  exact S.live k a o e1
 ·obtain ⟨w1, e1, h1⟩ := back _ _ _ e (ne_idx rfl)
  exact absurd h1.symm (reOwn_no.2.2 k)
 ·obtain ⟨w1, e1, h1⟩ := back _ _ _ e (ne_idx rfl)
  obtain ⟨h2, h3⟩ := reOwn_dict h1.symm
  rw [h2] at e1
  rw [look, if_pos h3]
  exact S.dicL k a o e1
theorem lookup_mem {k : Nat} {ao : AO} {l : Led} : l.lookup k = some ao → (k, ao) ∈ l := by
 induction l with
 | nil => exact fun e => nomatch e
 | cons p r ih =>
  intro e
  rw [lk] at e
  by_cases h : k = p.1
  ·rw [if_pos h] at e
   rw [h, ← Option.some.inj e]; exact .head _
  ·rw [if_neg h] at e; exact .tail _ (ih e)
theorem lookup_foldr (j : Nat) (rest : Led) (kept : Led) : (kept.foldr (fun p l => Mine.putL p.1 p.2 l) rest).lookup j = (kept.lookup j).or (rest.lookup j) := by
 induction kept with
 | nil => rfl
 | cons p r ih =>
  rw [List.foldr_cons, lookup_putL, ih, lk]
  by_cases h : j = p.1
  ·rw [if_pos h, if_pos h]; rfl
  ·rw [if_neg h, if_neg h]
structure Done (σ : St) (pass : List Nat) (r : PV) (kept : Led) (chg' : List Nat) : Prop where
 ment : ∀ k, k ∈ goneOf pass kept chg' → (∀ j ao, (j, ao) ∈ σ.led → pass.contains j = false → ao.mentions k = false) ∧ ∀ i : Nat, σ.loc[i]? ≠ some (some (PV.o k))
 from_ : ∀ k ao, kept.lookup k = some ao → (pass.contains k = true ∧ (σ.look k).isSome = true) ∨ (pass.contains k = false ∧ σ.look k = none ∨ pass.contains k = true) ∧ k ∉ σ.lent
 not : ∀ k ao, kept.lookup k = some ao → (σ.led.filter fun p => !pass.contains p.1).lookup k = none
 ret : ∀ k, r = .o k → (kept.lookup k).isSome = true
 flds : ∀ k c ns vs, kept.lookup k = some (.inst c ns vs) → ∀ j, PV.o j ∈ vs → (kept.lookup j).isSome = true
theorem start_of {h₀ : Heap} {T : Tab} {σ : St} {args : List PV} {pass : List Nat} (hs : startOk σ args pass = true) : Start h₀ T σ pass args := by
 exact andk hs fun h1 h2 => ⟨fun k hk => Bool.and_eq_true_iff.mp (List.all_eq_true.mp h1 _ hk), fun k c ns vs hp hl j hj => Bool.and_eq_true_iff.mp (List.all_eq_true.mp (List.all_eq_true.mp h2 (k, AO.inst c ns vs) (List.mem_filter.mpr ⟨lookup_mem hl, hp⟩)) _ hj)⟩
theorem any_no {α : Type} {f : α → Bool} {l : List α} (h : l.any f = false) {x : α} (hx : x ∈ l) : f x = false := Bool.eq_false_iff.mpr (List.any_eq_false.mp h x hx)
theorem or_f {a b : Bool} (h : (a || b) = false) : a = false ∧ b = false := Bool.or_eq_false_iff.mp h
theorem filt_no {σ : St} {pass : List Nat} {p : Nat × AO} (hm : p ∈ σ.led) (hp : pass.contains p.1 = false) : p ∈ σ.led.filter fun p => !pass.contains p.1 := List.mem_filter.mpr ⟨hm, by rw [hp]; rfl⟩
theorem done_of {σ : St} {pass : List Nat} {pv : PV} {kept : Led} {chg' : List Nat} (hc : backOk σ pass pv kept chg' = true) : Done σ pass pv kept chg' := by
 refine andk hc fun hc c5 => andk hc fun hc c4 => andk hc fun hc c3 => andk hc fun c1 c2 => ?_
 refine ⟨fun k hk => ?_, fun k ao hl => ?_, fun k ao hl => Option.isNone_iff_eq_none.mp (List.all_eq_true.mp c3 _ (lookup_mem hl)), fun k hk => ?_, fun k c ns vs hl j hj => List.all_eq_true.mp (List.all_eq_true.mp c5 (k, AO.inst c ns vs) (lookup_mem hl)) _ hj⟩
 ·have h := or_f (not_t (List.all_eq_true.mp c1 k hk))
  refine ⟨fun j ao hm hp => any_no h.1 (x := (j, ao)) (filt_no hm hp), fun i hi => ?_⟩
  have : (k == k) = false := any_no h.2 (List.mem_of_getElem? hi)
  rw [beq_self_eq_true] at this; exact nomatch this
 ·refine or_t (List.all_eq_true.mp c2 _ (lookup_mem hl)) (fun h => .inl (Bool.and_eq_true_iff.mp h)) fun h => .inr ?_
  obtain ⟨h1, h2⟩ := fresh_of h
  refine ⟨?_, h2⟩
  rw [show St.look { σ with led := σ.led.filter fun p => !pass.contains p.1 } k = if (!pass.contains k) then σ.look k else none from lookup_filter (fun k => !pass.contains k) k σ.led] at h1
  cases hp : pass.contains k with
  | true => exact .inr rfl
  | false => rw [hp] at h1; exact .inl ⟨rfl, h1⟩
 ·subst hk; exact c4
theorem doCall_inv {D : Delta} {f : Nat} {args : List PV} {pass keep : List Nat} {σ : St} {pv : PV} {σ' : St} (h₀ : Heap) (T : Tab) (e : doCall D f args pass keep σ = some (pv, σ')) :
  ∃ led' chg', D f args (σ.led.filter fun p => pass.contains p.1) = some (pv, led', chg') ∧ Start h₀ T σ pass args ∧ Done σ pass pv (led'.filter fun p => keep.contains p.1) chg' ∧
   σ' = { σ with led := (led'.filter fun p => keep.contains p.1).foldr (fun p l => Mine.putL p.1 p.2 l) (σ.led.filter fun p => !pass.contains p.1), chg := goneOf pass (led'.filter fun p => keep.contains p.1) chg' ++ σ.chg } :=
 ik e fun hs e => bk e fun q hD e => ik e fun hc e =>
  have e := Option.some.inj e
  ⟨q.2.1, q.2.2, (congrArg (fun z => z.1) e : q.1 = pv) ▸ hD, start_of hs, (congrArg (fun z => z.1) e : q.1 = pv) ▸ done_of hc, (congrArg (fun z => z.2) e).symm⟩
noncomputable def backT (K : Nat → Bool) (T T₂ : Tab) : Tab := fun a => match T₂ a with
 | some (.froz, o) => some (.froz, o)
 | some (.fr, _) => T a
 | some (.lab k, o) => if K k then some (.lab k, o) else none
 | some (.dict k, o) => if K k then some (.dict k, o) else none
 | _ => none
theorem PERels.up {G : Nat → Prop} {T T' : Tab} (h : ∀ p v, PRel T p v → (∀ k, p = .o k → G k) → PRel T' p v) {vs : List PV} : ∀ {ns : List Str} {es : List DictEntry}, PERels T vs ns es → (∀ k, PV.o k ∈ vs → G k) → PERels T' vs ns es := by
 induction vs with
 | nil => exact fun e _ => e
 | cons p vs ih =>
  intro _ _ e hk
  obtain ⟨n, ns', e, es', x, y, z, a, b⟩ := e
  exact ⟨n, ns', e, es', x, y, z, h _ _ a (fun k hp => hk k (hp ▸ .head _)), ih b fun k hp => hk k (.tail _ hp)⟩
set_option genSizeOf false in
set_option genInjectivity false in
structure CE where
 h₀ : Heap
 cx : Cx
 cx' : Cx
 T : Tab
 T₂ : Tab
 σ : St
 σ₁ : St
 σ₂ : St
 pass : List Nat
 keep : List Nat
 L : Addr
 oL : Obj
 r : PV
 kept : Led
 S : StRel h₀ cx T σ
 S₂ : StRel h₀ cx' T₂ σ₂
 N : Nx ((reT pass T).set L (some (.loc, oL))) T₂ σ₁ σ₂
 hL : T L = none
 hσ₁ : σ₁.chg = []
 D : Done σ pass r kept σ₂.chg
 hk : kept = σ₂.led.filter fun p => keep.contains p.1
noncomputable def plainO : Own → Bool
 | .froz | .lab _ | .dict _ => false
 | _ => true
namespace CE
variable {c : CE}
noncomputable def K (c : CE) (k : Nat) : Bool := (c.kept.lookup k).isSome
noncomputable def T₃ (c : CE) : Tab := backT c.K c.T c.T₂
noncomputable def σ₃ (c : CE) : St := { c.σ with led := c.kept.foldr (fun p l => Mine.putL p.1 p.2 l) (c.σ.led.filter fun p => !c.pass.contains p.1), chg := goneOf c.pass c.kept c.σ₂.chg ++ c.σ.chg }
theorem T₁at {a w o} (e : c.T a = some (w, o)) : ((reT c.pass c.T).set c.L (some (.loc, c.oL))) a = some (reOwn c.pass w, o) := by
 rw [Tab.set_ne _ _ (fun h => by subst h; rw [c.hL] at e; exact no e)]; exact reT_at e
theorem T₁from {a w o} (e : ((reT c.pass c.T).set c.L (some (.loc, c.oL))) a = some (w, o)) (hw : w ≠ .loc) : ∃ w', c.T a = some (w', o) ∧ w = reOwn c.pass w' := by
 by_cases hb : a = c.L
 ·subst hb; rw [Tab.set_self] at e; exact absurd (congrArg Prod.fst (Option.some.inj e)).symm hw
 ·rw [Tab.set_ne _ _ hb] at e; exact reT_from e
theorem A1 {a o} (e : c.T₂ a = some (.fr, o)) : ∃ w, c.T a = some (w, o) ∧ reOwn c.pass w = .fr :=
 (T₁from ((c.N.le.fr a o).mpr e) (fun h => nomatch h)).elim fun w h => ⟨w, h.1, h.2.symm⟩
theorem A2 {a w o} (e : c.T a = some (w, o)) (hw : reOwn c.pass w = .fr) : c.T₃ a = some (w, o) := by
 have h1 := T₁at e
 rw [hw] at h1
 have h2 := (c.N.le.fr a o).mp h1
 unfold T₃ backT; rw [h2]; exact e
theorem F₂ : FMono c.T₂ c.T₃ := fun a o e => by unfold T₃ backT; rw [e]
theorem F : FMono c.T c.T₃ := fun a o e => F₂ a o (c.N.le.froz a o (T₁at e))
theorem Alab {a k o} (e : c.T₂ a = some (.lab k, o)) (hk : c.K k = true) : c.T₃ a = some (.lab k, o) := by unfold T₃ backT; rw [e]; exact if_pos hk
theorem Adic {a k o} (e : c.T₂ a = some (.dict k, o)) (hk : c.K k = true) : c.T₃ a = some (.dict k, o) := by unfold T₃ backT; rw [e]; exact if_pos hk
inductive At (c : CE) (a : Addr) : Own → Obj → Prop
 | froz {o} : c.T₂ a = some (.froz, o) → At c a .froz o
 | fr {w o o'} : c.T₂ a = some (.fr, o') → c.T a = some (w, o) → reOwn c.pass w = .fr → At c a w o
 | lab {k o} : c.K k = true → c.T₂ a = some (.lab k, o) → At c a (.lab k) o
 | dict {k o} : c.K k = true → c.T₂ a = some (.dict k, o) → At c a (.dict k) o
theorem A4 {a w o} (e : c.T₃ a = some (w, o)) : At c a w o := by
 unfold T₃ backT at e
 cases h : c.T₂ a with
 | none => rw [h] at e; exact no e
 | some p =>
  obtain ⟨w', o'⟩ := p
  rw [h] at e
  induction w' with
  | froz => obtain ⟨rfl, rfl⟩ := Prod.mk.inj (Option.some.inj e); exact .froz h
  | fr =>
   obtain ⟨w₁, h1, h2⟩ := A1 h
   have e : c.T a = some (w, o) := e
   rw [h1] at e
   obtain ⟨rfl, rfl⟩ := Prod.mk.inj (Option.some.inj e)
   exact .fr h h1 h2
  | lab k => exact ik e fun hk e => by obtain ⟨rfl, rfl⟩ := Prod.mk.inj (Option.some.inj e); exact .lab hk h
  | dict k => exact ik e fun hk e => by obtain ⟨rfl, rfl⟩ := Prod.mk.inj (Option.some.inj e); exact .dict hk h
  | _ => exact no e
theorem at_plain {a w o} (e : c.T₃ a = some (w, o)) (hw : plainO w = true) : c.T a = some (w, o) := by
 induction A4 e with
 | fr _ h _ => exact h
 | froz _ => exact nob hw
 | lab _ _ => exact nob hw
 | dict _ _ => exact nob hw
theorem labFr {k} (h : reOwn c.pass (.lab k) = .fr) : c.pass.contains k = false := by
 cases q : c.pass.contains k with
 | false => rfl
 | true => rw [show reOwn c.pass (.lab k) = .lab k from if_pos q] at h; cases h
theorem dicFr {k} (h : reOwn c.pass (.dict k) = .fr) : c.pass.contains k = false := by
 cases q : c.pass.contains k with
 | false => rfl
 | true => rw [show reOwn c.pass (.dict k) = .dict k from if_pos q] at h; cases h
theorem frLab {k} (h : c.pass.contains k = false) : reOwn c.pass (.lab k) = .fr := if_neg (by rw [h]; exact Bool.false_ne_true)
theorem frDic {k} (h : c.pass.contains k = false) : reOwn c.pass (.dict k) = .fr := if_neg (by rw [h]; exact Bool.false_ne_true)
theorem at_lab {a k o} (e : c.T₃ a = some (.lab k, o)) : (c.T a = some (.lab k, o) ∧ c.pass.contains k = false) ∨ (c.K k = true ∧ c.T₂ a = some (.lab k, o)) := by
 cases A4 e with
 | fr _ h g => exact .inl ⟨h, labFr g⟩
 | lab hk h => exact .inr ⟨hk, h⟩
theorem at_dict {a k o} (e : c.T₃ a = some (.dict k, o)) : (c.T a = some (.dict k, o) ∧ c.pass.contains k = false) ∨ (c.K k = true ∧ c.T₂ a = some (.dict k, o)) := by
 cases A4 e with
 | fr _ h g => exact .inl ⟨h, dicFr g⟩
 | dict hk h => exact .inr ⟨hk, h⟩
theorem noBrw {a k o} (e : c.T₂ a = some (.brw k, o)) : False :=
 (T₁from ((c.N.le.brw a k o).mpr e) (fun h => nomatch h)).elim fun w h => reOwn_no.2.2 k h.2.symm
theorem kept_some {k} (e : c.K k = true) : ∃ ao, c.kept.lookup k = some ao := Option.isSome_iff_exists.mp e
theorem fromT {k ao} (e : c.kept.lookup k = some ao) (hp : c.pass.contains k = false) : c.σ.look k = none := by
 rcases c.D.from_ k ao e with h | ⟨h | h, _⟩
 ·rw [hp] at h; cases h.1
 ·exact h.2
 ·rw [hp] at h; exact nob h
theorem notBoth {k ao} (hk : c.K k = true) (hp : c.pass.contains k = false) (h : c.σ.look k = some ao) : False :=
 (kept_some hk).elim fun _ e => no ((fromT e hp).symm.trans h)
theorem stays {k a o} (e : c.T a = some (.lab k, o)) (hg : k ∉ goneOf c.pass c.kept c.σ₂.chg) : ∃ o', c.T₃ a = some (.lab k, o') := by
 cases hp : c.pass.contains k with
 | false => exact ⟨o, A2 e (frLab hp)⟩
 | true =>
  have hq : ((c.kept.lookup k).isNone || c.σ₂.chg.contains k) = false := by
   cases q : (c.kept.lookup k).isNone || c.σ₂.chg.contains k with
   | false => rfl
   | true => exact absurd (List.mem_filter.mpr ⟨List.contains_iff_mem.mp hp, q⟩) hg
  obtain ⟨h1, h2⟩ := Bool.or_eq_false_iff.mp hq
  obtain ⟨new, hn, hkp⟩ := c.N.keep
  rw [c.hσ₁, List.append_nil] at hn
  obtain ⟨o', t⟩ := hkp k a o (by rw [← hn]; intro hm; rw [List.contains_iff_mem.mpr hm] at h2; cases h2) (by rw [T₁at e, show reOwn c.pass (.lab k) = .lab k from if_pos hp])
  exact ⟨o', Alab t (by unfold K; cases q : c.kept.lookup k with
   | none => rw [q] at h1; cases h1
   | some _ => rfl)⟩
theorem up (p : PV) (v : Value) (h : PRel c.T p v) (hg : ∀ k, p = .o k → k ∉ goneOf c.pass c.kept c.σ₂.chg) : PRel c.T₃ p v := by
 induction p with
 | f x => exact VRel.mono F h
 | o k =>
  obtain ⟨a, o, e, t | t⟩ := h
  ·exact (stays t (hg k rfl)).elim fun o' t' => ⟨a, o', e, .inl t'⟩
  ·exact ⟨a, o, e, .inr (A2 t rfl)⟩
theorem dn (p : PV) (v : Value) (h : PRel c.T₂ p v) (hg : ∀ k, p = .o k → c.K k = true) : PRel c.T₃ p v := by
 induction p with
 | f x => exact VRel.mono F₂ h
 | o k =>
  obtain ⟨a, o, e, t | t⟩ := h
  ·exact ⟨a, o, e, .inl (Alab t (hg k rfl))⟩
  ·exact (noBrw t).elim
theorem look₃ (k : Nat) : c.σ₃.look k = (c.kept.lookup k).or (if (!c.pass.contains k) = true then c.σ.look k else none) :=
 (lookup_foldr k _ c.kept).trans (congrArg _ (lookup_filter (fun k => !c.pass.contains k) k c.σ.led))
theorem look_kept {k ao} (e : c.kept.lookup k = some ao) : c.σ₃.look k = some ao := by rw [look₃, e]; rfl
theorem look_rest {k} (e : c.kept.lookup k = none) (hp : c.pass.contains k = false) : c.σ₃.look k = c.σ.look k := by rw [look₃, e, hp]; rfl
theorem keptL {k ao} (e : c.kept.lookup k = some ao) : c.σ₂.look k = some ao := by
 rw [c.hk, lookup_filter (fun k => c.keep.contains k) k c.σ₂.led] at e
 exact ik e fun _ e => e
theorem K_of {k ao} (e : c.kept.lookup k = some ao) : c.K k = true := by unfold K; rw [e]; rfl
theorem keptB {k ao} (e : c.K k = true) (hl : c.σ₂.look k = some ao) : c.kept.lookup k = some ao :=
 (kept_some e).elim fun ao' h => by rw [h, ← hl, keptL h]
theorem toIn (h : Heap) (H : c.T₂.In h) : c.T₃.In h := fun a w o e => by
 induction A4 e with
 | froz h' => exact H _ _ _ h'
 | fr h' h1 _ =>
  obtain ⟨w₁, h2, _⟩ := A1 h'
  rw [h1] at h2
  obtain ⟨rfl, rfl⟩ := Prod.mk.inj (Option.some.inj h2)
  exact H _ _ _ h'
 | lab _ h' => exact H _ _ _ h'
 | dict _ h' => exact H _ _ _ h'
theorem locs : LocRel c.cx c.T₃ c.σ.loc where
 ns := by
  obtain ⟨oC, m, e, N', kk⟩ := c.S.loc.ns
  exact ⟨oC, m, A2 e rfl, N', fun i x pv hx hl => (kk i x pv hx hl).elim fun u h => ⟨u, h.1, up _ _ h.2 fun k hp hg => (c.D.ment k hg).2 i (by rw [← hp]; exact hl)⟩⟩
 cel := fun i x d e => by
  obtain ⟨oc, cv, t, dd, kk⟩ := c.S.loc.cel i x d e
  exact ⟨oc, cv, A2 t rfl, dd, fun pv hl => (kk pv hl).elim fun u h => ⟨u, h.1, up _ _ h.2 fun k hp hg => (c.D.ment k hg).2 i (by rw [← hp]; exact hl)⟩⟩
theorem leds (k : Nat) (ao : AO) (e : c.σ₃.look k = some ao) : ∃ a o, c.T₃ a = some (.lab k, o) ∧ ORel c.T₃ k ao o := by
 cases q : c.kept.lookup k with
 | some ao' =>
  rw [look_kept q] at e
  cases e
  obtain ⟨a, o, t, R'⟩ := c.S₂.led k ao (keptL q)
  refine ⟨a, o, Alab t (K_of q), ?_⟩
  induction ao with
  | list l => exact R'.elim fun us h => ⟨us, h.1, VRels.mono F₂ h.2⟩
  | barr b => exact R'
  | inst cl ns fs =>
   obtain ⟨dx, es, n, x, y, z, nd⟩ := R'
   exact ⟨dx, es, n, x, Adic y (K_of q), z.up (G := fun k => c.K k = true) dn (c.D.flds k cl ns fs q), nd⟩
 | none =>
  have hp : c.pass.contains k = false := by
   cases hp : c.pass.contains k with
   | false => rfl
   | true => rw [look₃, q, hp] at e; exact no e
  rw [look_rest q hp] at e
  obtain ⟨a, o, t, R'⟩ := c.S.led k ao e
  refine ⟨a, o, A2 t (frLab hp), ?_⟩
  induction ao with
  | list l => exact R'.elim fun us h => ⟨us, h.1, VRels.mono F h.2⟩
  | barr b => exact R'
  | inst cl ns fs =>
   obtain ⟨dx, es, n, x, y, z, nd⟩ := R'
   refine ⟨dx, es, n, x, A2 y (frDic hp), z.up (G := fun k => k ∉ goneOf c.pass c.kept c.σ₂.chg) up (fun j hj hg => ?_), nd⟩
   have := (c.D.ment j hg).1 k _ (lookup_mem e) hp
   exact absurd (beq_self_eq_true j) (List.any_eq_false.mp this _ hj)
theorem rel : StRel c.h₀ c.cx c.T₃ c.σ₃ where
 base := fun a o e => F _ _ (c.S.base a o e)
 loc := locs
 locU := fun a o e => c.S.locU a o (at_plain e rfl)
 celU := fun a o e => c.S.celU a o (at_plain e rfl)
 led := leds
 labU := fun k a b o o' e e' => by
  rcases at_lab e with ⟨h, hp⟩ | ⟨g, t⟩
  ·rcases at_lab e' with ⟨h', _⟩ | ⟨g', _⟩
   ·exact c.S.labU k a b _ _ h h'
   ·exact (c.S.live k a o h).elim fun ao hao => (notBoth g' hp hao).elim
  ·rcases at_lab e' with ⟨h', hp'⟩ | ⟨_, t'⟩
   ·exact (c.S.live k b o' h').elim fun ao hao => (notBoth g hp' hao).elim
   ·exact c.S₂.labU k a b _ _ t t'
 dictU := fun k a b o o' e e' => by
  rcases at_dict e with ⟨h, hp⟩ | ⟨g, t⟩
  ·rcases at_dict e' with ⟨h', _⟩ | ⟨g', _⟩
   ·exact c.S.dictU k a b _ _ h h'
   ·obtain ⟨cl, ns, fs, hao⟩ := c.S.dicL k a o h
    exact (notBoth g' hp hao).elim
  ·rcases at_dict e' with ⟨h', hp'⟩ | ⟨_, t'⟩
   ·obtain ⟨cl, ns, fs, hao⟩ := c.S.dicL k b o' h'
    exact (notBoth g hp' hao).elim
   ·exact c.S₂.dictU k a b _ _ t t'
 brwU := fun k a b o o' e e' => c.S.brwU k a b _ _ (at_plain e rfl) (at_plain e' rfl)
 live := fun k a o e => by
  rcases at_lab e with ⟨h, hp⟩ | ⟨g, t⟩
  ·cases q : c.kept.lookup k with
   | some x => exact ⟨x, look_kept q⟩
   | none => rw [look_rest q hp]; exact c.S.live k a o h
  ·exact (kept_some g).elim fun ao h => ⟨ao, look_kept h⟩
 dead := fun k a o e => c.S.dead k a o (at_plain e rfl)
 lentD := fun k hl => by
  have hl : k ∈ c.σ.lent := hl
  have h1 := c.S.lentD k hl
  cases q : c.kept.lookup k with
  | some ao =>
   rcases c.D.from_ k ao q with h | ⟨_, h⟩
   ·rw [h1] at h; cases h.2
   ·exact absurd hl h
  | none => rw [look₃, q, h1]; exact ite_self _
 dicL := fun k a o e => by
  rcases at_dict e with ⟨h, hp⟩ | ⟨g, t⟩
  ·obtain ⟨cl, ns, fs, hao⟩ := c.S.dicL k a o h
   cases q : c.kept.lookup k with
   | some x => rw [fromT q hp] at hao; exact no hao
   | none => exact ⟨cl, ns, fs, (look_rest q hp).trans hao⟩
  ·obtain ⟨cl, ns, fs, hao⟩ := c.S₂.dicL k a o t
   exact ⟨cl, ns, fs, look_kept (keptB g hao)⟩
theorem nx : Nx c.T c.T₃ c.σ c.σ₃ where
 le := ⟨F, fun a o => ⟨fun e => A2 e rfl, fun e => at_plain e rfl⟩, fun a k o => ⟨fun e => A2 e rfl, fun e => at_plain e rfl⟩⟩
 keep := ⟨goneOf c.pass c.kept c.σ₂.chg, rfl, fun k a o hg e => stays e hg⟩
 lent := rfl
end CE
theorem callee_end {h₀ : Heap} {cx cx' : Cx} {T T₂ : Tab} {σ σ₁ σ₂ : St} {pass keep : List Nat} {L : Addr} {oL : Obj} {r : PV} {v : Value} {kept : Led} (S : StRel h₀ cx T σ) (S₂ : StRel h₀ cx' T₂ σ₂) (N : Nx ((reT pass T).set L (some (.loc, oL))) T₂ σ₁ σ₂)
  (hL : T L = none) (hσ₁ : σ₁.chg = []) (D : Done σ pass r kept σ₂.chg) (hk : kept = σ₂.led.filter fun p => keep.contains p.1) (R : PRel T₂ r v) {σ₃ : St}
  (h₃ : σ₃ = { σ with led := kept.foldr (fun p l => Mine.putL p.1 p.2 l) (σ.led.filter fun p => !pass.contains p.1), chg := goneOf pass kept σ₂.chg ++ σ.chg }) :
  ∃ T₃, (∀ h, T₂.In h → T₃.In h) ∧ StRel h₀ cx T₃ σ₃ ∧ Nx T T₃ σ σ₃ ∧ PRel T₃ r v := by
 subst h₃
 let c : CE := ⟨h₀, cx, cx', T, T₂, σ, σ₁, σ₂, pass, keep, L, oL, r, kept, S, S₂, N, hL, hσ₁, D, hk⟩
 exact ⟨c.T₃, CE.toIn (c := c), CE.rel (c := c), CE.nx (c := c), CE.dn (c := c) r v R fun k hr => D.ret k hr⟩
structure GoodB (cl : Bool) (n : Nat) (Γ : Ctx) (A : Around) : Prop where
 below : Γ.Below A
 depth : A.depth + n ≤ 900
 units : A.units + 8 * n ≤ 9000
 handled : A.handled = none
 clean : cl = true → Clean Γ
theorem Good.enterB {cl : Bool} {n : Nat} {Γ : Ctx} {A : Around} (h : Good cl n Γ A) (c : Code) (hb : bad c = false) (p : Pos) : GoodB cl n (Γ.enter c none p) A :=
 ⟨h.below c p, h.depth, h.units, h.handled, fun e => (h.clean e).enter hb p⟩
theorem GoodB.func {cl : Bool} {n : Nat} {Γ : Ctx} {A : Around} (h : GoodB cl (n + 1) Γ A) (body : List Stmt) (env : Env) : Good cl n (Γ.goto (.func body env)) (A.deeper env) := by
 have z := (h.below.goto (.func body env)).in
 refine ⟨z, ?_, ?_, h.handled, fun e => (h.clean e).goto rfl⟩
 ·have := h.depth
  show A.depth + 1 + n ≤ 900
  exact O52
 ·have := h.units
  show A.units + 3 + 8 * n ≤ 9000
  omega
noncomputable def RFl (T : Tab) (out : Out) (fl : Flow) : Prop := match out with
 | .next => fl = .next
 | .ret pv => ∃ v, fl = .ret v ∧ PRel T pv v
structure FdF (h₀ : Heap) (a : Addr) (params : List Str) (kinds : List (Str × NameKind)) (stmts : List Stmt) (o : Obj) (fd : FuncData) : Prop where
 obj : h₀.get? a = some o
 dat : o.data = .func fd
 co : fd.scope.isCoroutine = false
 gen : fd.scope.isGenerator = false
 kind : fd.scope.kind = .function
 body : fd.body = .stmts stmts
 code : h₀.CodeRec fd.code fd.qualname
 glob : fd.globals = mainGlobals
 bi : fd.builtins = builtinsNs
 clo : fd.closure = []
 nm : fd.scope.names = kinds
 binds : ∀ (s : Shared) (vs : List Value), (∀ b o, h₀.get? b = some o → s.heap.get? b = some o) → vs.length = params.length → BindsTo s fd ⟨vs, []⟩ (params.zip vs)
structure FnIs (h₀ : Heap) (a : Addr) (params names : List Str) (kinds : List (Str × NameKind)) (stmts : List Stmt) : Prop where
 some_ : ∃ o fd, FdF h₀ a params kinds stmts o fd
 nocell : ∀ x ∈ kinds, x.2 ≠ .cell
 loc : ∀ x ∈ names, kinds.lookup x = some .local
 par : params = names.take params.length
 nodup : names.Nodup
structure EnvF (kinds : List (Str × NameKind)) (env : Env) : Prop where
 kinds : env.scope.names = kinds
 kind : env.scope.kind = .function
 glob : env.globals = mainGlobals
 bi : env.builtins = builtinsNs
theorem envR_of {kinds : List (Str × NameKind)} {names : List Str} {env : Env} {L : Addr} (h : EnvF kinds env) (hL : env.locals = L) (hl : ∀ x ∈ names, kinds.lookup x = some .local) (hn : names.Nodup) : EnvR env ⟨L, names.map (·, none)⟩ where
 kind := h.kind
 L := hL
 glob := h.glob
 bi := h.bi
 loc := fun i x hx => by
  have : x ∈ names := by
   simp only [List.getElem?_map, Option.map_eq_some_iff, Prod.mk.injEq, and_true] at hx
   obtain ⟨y, hy, rfl⟩ := hx
   exact List.mem_of_getElem? hy
  show env.scope.names.lookup x = _
  rw [h.kinds]; exact hl x this
 cel := fun i x c hx => by simp at hx
 ok := by
  refine ⟨fun i j x c d hi hj => ?_, fun i j x y c hi => ?_⟩
  ·simp only [List.getElem?_map, Option.map_eq_some_iff, Prod.mk.injEq] at hi hj
   obtain ⟨u, h1, rfl, _⟩ := hi
   obtain ⟨u', h2, rfl, _⟩ := hj
   obtain ⟨p, _⟩ := List.getElem?_eq_some_iff.mp h1
   obtain ⟨q, _⟩ := List.getElem?_eq_some_iff.mp h2
   exact (List.getElem?_inj p hn).mp (h1.trans h2.symm)
  ·simp at hi
noncomputable def BodyOk (X : Wd) (P : Prg) (fn : Fn) (names : List Str) (kinds : List (Str × NameKind)) (stmts : List Stmt) : Prop :=
 ∀ env L, EnvF kinds env → env.locals = L → Snd X ⟨L, names.map (·, none)⟩ (evB (run P 40) fn.body) (execs stmts env) RFl
noncomputable def FnOk (prog : Program) (w : World) (h₀ : Heap) (cl : Bool) (D : Delta) (f : Nat) (addr : Addr) (lvl : Nat) : Prop :=
 ∀ {cx : Cx} {T : Tab} {σ : St} {args : List PV} {pass keep : List Nat} {pv : PV} {σ' : St}, doCall D f args pass keep σ = some (pv, σ') → ∀ {Γ : Ctx} {A : Around} {vs : List Value}, Γ.code = .call (.ref addr) ⟨vs, []⟩ → GoodB cl lvl Γ A →
  ∀ {s : Shared}, T.In s.heap → StRel h₀ cx T σ → RVs T args vs → Cd prog w Γ (fun fl s' => ∃ v, fl = .ret v ∧ Aft h₀ cx T σ s σ' (fun T' v => PRel T' pv v) v s') s
theorem call_func {prog : Program} {w : World} {A : Around} {E : Value → Shared → Prop} {s : Shared} {a : Addr} {o : Obj} {fd : FuncData} {args : Args} {body : List Stmt} {Q : Fin → Shared → Prop} (ho : s.heap.get? a = some o) (hd : o.data = .func fd) (hco : fd.scope.isCoroutine = false) (hgen : fd.scope.isGenerator = false)
  (hb : fd.body = .stmts body) (hcd : s.heap.CodeRec fd.code fd.qualname)
  (h : wpAny (model prog w) A (bindArgs fd args) (fun binds s₁ => wpAny (model prog w) A (newFunctionEnv fd.scope fd.globals fd.closure binds (fd.qualname ++ ".<locals>.") (some a) fd.code none fd.builtins) (fun env s₂ => wpAny (model prog w) A enterFrame (fun _ s₃ => Q (.again (.func body env)) s₃) E s₂) E s₁) E s) :
  wpAny (model prog w) A (callAny (.ref a) args) Q E s := by
 obtain ⟨c, oc, vs, tq, hc, hoc, hdc, hq⟩ := hcd
 obtain ⟨k, d, da, sl⟩ := o
 obtain ⟨n, qn, pa, bo, sc, gl, cl, df, kd, dc, pm, an, co, ct, bi⟩ := fd
 subst hc
 subst hb
 subst hd
 refine wpAny_bind (m := load a) (wpAny_load ho ?_)
 refine wpAny_bind (m := field (.ref c) 1) (wpAny_field hoc hdc hq (wpAny_bind (wpAny_pure ?_)))
 refine wpAny_bind (wpAny_mono h (fun binds s₁ h₁ => wpAny_bind (wpAny_mono h₁ (fun env s₂ h₂ => wpAny_bind (wpAny_mono h₂ (fun _ s₃ h₃ => ?_) fun _ _ h' => h')) fun _ _ h' => h')) fun _ _ h' => h')
 have hco : sc.isCoroutine = false := hco
 have hgen : sc.isGenerator = false := hgen
 rw [hco, hgen]
 exact wpAny_pure h₃
theorem call_into {prog : Program} {w : World} {A : Around} {E : Value → Shared → Prop} {s : Shared} {h₀ : Heap} {addr : Addr} {params names : List Str} {kinds : List (Str × NameKind)} {stmts : List Stmt} {o : Obj} {fd : FuncData} {vs : List Value} {Q : Fin → Shared → Prop} (I : FnIs h₀ addr params names kinds stmts) (F : FdF h₀ addr params kinds stmts o fd)
  (base : ∀ b o, h₀.get? b = some o → s.heap.get? b = some o) (hlim : s.heap.NoLimit) (hd : A.depth + 0 < 1000) (hvl : vs.length = params.length)
  (h : ∀ c h', h'.Ns s.heap.objs.size (fun x => (params.zip vs).reverse.lookup x) → (∀ b ob, s.heap.get? b = some ob → h'.get? b = some ob) →
   Q (.again (.func stmts (newEnv fd.scope s.heap.objs.size fd.globals fd.closure (fd.qualname ++ ".<locals>.") (some addr) (.ref c) none fd.builtins))) { s with heap := h', toks := s.toks + (params.zip vs).length }) :
  wpAny (model prog w) A (callAny (.ref addr) ⟨vs, []⟩) Q E s := by
 refine F.code.elim fun c hc => hc.elim fun _ hc => hc.elim fun _ hc => hc.elim fun _ hc => call_func (base _ _ F.obj) F.dat F.co F.gen F.body (F.code.keeps base) ?_
 rw [hc.1]
 refine F.binds s vs base hvl _ _ _ _ (wpAny_newFunctionEnv (by rw [F.nm]; exact I.nocell) (fun x hx => ?_) (fun h' hns hsb => ?_) F.kind)
 ·rw [F.nm]
  have := (List.of_mem_zip (a := x.1) (b := x.2) hx).1
  rw [I.par] at this
  exact I.loc _ (List.mem_of_mem_take this)
 ·exact wpAny_enterFrame (hlim.fresh _ hsb) hd (h c h' hns fun b ob e => (hsb.2 b (Nat.ne_of_lt (Heap.lt_size e))).trans (Heap.get?_push_of_some _ e))
noncomputable def flV (fl : Flow) : Value := match fl with | .ret v => v | _ => .none
theorem func_end {prog : Program} {w : World} {Γ : Ctx} {env : Env} {stmts : List Stmt} {s : Shared} {P : Flow → Shared → Prop} {Q : Flow → Shared → Prop} (hΓ : Γ.code = .func stmts env) (ht : Wk prog w Γ (execs stmts env) P s)
  (h : ∀ fl s', P fl s' → Q (.ret (flV fl)) s') : Cd prog w Γ Q s := by
 refine Cd.tree ?_
 rw [hΓ]
 show Wk prog w Γ (do point; match ← (execs stmts env).onRaise (leaving env) with | .ret v => ret v | _ => ret .none) _ s
 refine Wk.bind (Wk.point (Wk.bind2 (Wk.onRaise ht) fun fl s' p => ?_))
 have h := h fl s' p
 induction fl <;> exact Wk.pure h
theorem fn_ok {X : Wd} {P : Prg} {D : Delta} {f : Nat} {fn : Fn} {addr : Addr} {params names : List Str} {kinds : List (Str × NameKind)} {stmts : List Stmt} (I : FnIs X.h₀ addr params names kinds stmts) (hlim : X.h₀.NoLimit) (hD : D f = runF P fn)
  (ha : params.length = fn.arity) (B : BodyOk X P fn names kinds stmts) : FnOk X.prog X.w X.h₀ X.cl D f addr (X.m + 1) := by
 intro cx T σ args pass keep pv σ' e Γ A vs hc G s H S R
 obtain ⟨led', chg', hd, hst, hdn, hσ'⟩ := doCall_inv X.h₀ T e
 rw [hD] at hd
 refine ik hd fun hlen hd => mk hd fun r hb hq => I.some_.elim fun o h => h.elim fun fd F => ?_
 have hI := G.below.in
 rw [hc, Around.under_plain rfl rfl] at hI
 refine Cd.tree ?_
 rw [hc]
 refine Wk.of_any hI (call_into I F (fun b o e => base_at H S e) (let ⟨mc, p, q⟩ := hlim; ⟨mc, base_ns H S p, q⟩) (Nat.lt_of_le_of_lt (Nat.le_trans (Nat.le_add_right A.depth (X.m + 1)) G.depth) (by decide)) (R.length.trans (hlen.trans ha.symm)) fun c h' hns keep => ⟨rfl, ?_⟩)
 obtain ⟨oL, eL, N⟩ := of_ns hns
 have fr := Tab.fresh H
 have H₁ : ((reT pass T).set s.heap.objs.size (some (.loc, oL))).In h' := fun b w ob e => by
  by_cases hb : b = s.heap.objs.size
  ·subst hb; rw [Tab.set_self] at e; obtain ⟨rfl, rfl⟩ := Prod.mk.inj (Option.some.inj e); exact eL
  ·rw [Tab.set_ne _ _ hb] at e; exact keep _ _ (reT_in H _ _ _ e)
 rw [show params = names.take args.length by rw [hlen, ← ha, ← I.par]] at N
 have S₁ := callee_start (slots := fn.slots - fn.arity) S hst I.nodup fr N R
 refine func_end rfl ((B _ _ ⟨F.nm, F.kind, F.glob, F.bi⟩ rfl).then hb (G.func stmts _) (s := { s with heap := h', toks := s.toks + (params.zip vs).length }) H₁ S₁ (fun fl s₂ T₂ G₂ p => (⟨T₂, G₂, p⟩ : Aft _ _ _ _ _ _ (fun T' fl => RFl T' r.1 fl) fl s₂))) fun fl s₂ p => ?_
 obtain ⟨T₂, G₂, hfl⟩ := p
 refine ⟨_, rfl, ?_⟩
 have h2 : r.2.led = led' := congrArg (fun z => z.2.1) hq
 have h3 : r.2.chg = chg' := congrArg (fun z => z.2.2) hq
 have hv : PRel T₂ pv (flV fl) := by
  have h1 : (match r.1 with | .next => PV.f .none | .ret v => v) = pv := congrArg (fun z => z.1) hq
  rw [← h1]
  cases hr : r.1 with
  | next => rw [hr] at hfl; subst hfl; rfl
  | ret pv' => rw [hr] at hfl; obtain ⟨v, rfl, hv⟩ := hfl; exact hv
 subst h2 h3
 obtain ⟨T₃, h1, h2, h3, h4⟩ := callee_end S G₂.rel G₂.nx fr rfl hdn rfl hv hσ'
 exact ⟨T₃, ⟨G₂.same.elim fun tk e => ⟨tk, by rw [e]⟩, h1 _ G₂.isIn, h2, h3⟩, h4⟩
section
variable {α : Type} {prog : Program} {w : World} {Γ : Ctx} {A : Around} {s : Shared}
theorem Wk.keep {vs : List Value} {m : Sem α} {Q : α → Shared → Prop} (h : Wk prog w Γ m Q s) : Wk prog w Γ (m.keep vs) Q s := fun p => by rw [Sem.wp_keep]; exact h p
noncomputable def KeepIs (f : Value) (s : Shared) : Prop := ∀ (M : Model) (A : Around) (E : Value → Shared → Prop) (Q : Keeper → Shared → Prop), Q .frame s ∧ Q .machine s → wpAny M A (keeperOf f) Q E s
theorem KeepIs.fn {a : Addr} {o : Obj} {fd : FuncData} (ho : s.heap.get? a = some o) (hd : o.data = .func fd) : KeepIs (.ref a) s := fun M A E Q h => by
 unfold keeperOf
 refine wpAny_bind (wpAny_load ho ?_)
 rw [hd]
 exact wpAny_pure h.1
theorem KeepIs.builtin {id : String} : KeepIs (.builtin id) s := fun M A E Q h => wpAny_pure h.2
theorem KeepIs.type {T : String} : KeepIs (.type T) s := fun M A E Q h => wpAny_pure h.2
theorem callWith_ok {pos : Pos} {f : Value} {first : List Value} {ts : List (Bool × Sem Value)} {Q : Value → Shared → Prop} (hI : Γ.In A) (hts : ts.any (·.1) = false)
  (h : Wk prog w Γ (spliced ts) (fun vs s' => KeepIs f s' ∧ Wk prog w Γ (PySem.call f (first ++ vs) []) Q s') s) : Wk prog w Γ (callWith pos f first ts []) Q s := by
 unfold callWith
 refine Wk.bind (Wk.holding ?_)
 have ev : Wk prog w Γ (evalArgs f true ts []) (fun a s' => a.kw = [] ∧ KeepIs f s' ∧ Wk prog w Γ (PySem.call f (first ++ a.pos) []) Q s') s := by
  have fin : ∀ (ts : List (Bool × Sem Value)), Wk prog w Γ (spliced ts) (fun vs s' => KeepIs f s' ∧ Wk prog w Γ (PySem.call f (first ++ vs) []) Q s') s → Wk prog w Γ (spliced ts >>= fun l => (pure (l, none) : Sem (List Value × Option Value)) >>= fun x => match x with
    | (pos, late) => holding (pos ++ late.toList) (
     let readLate := fun keep => match late with
      | some s => do
       if ← notIterableAtAll s then
        rule "call.star.not-iterable"
        raiseError "TypeError" s!"{← functionStr f} argument after * must be an iterable, not {← typeNameOf s}"
       holding keep (collect s)
      | none => pure pos
     (evalAll [] >>= fun ks => readLate ((([] : List Str).zip ks).map (·.2)) >>= fun ps => pure (⟨ps, ([] : List Str).zip ks⟩ : Args)))) (fun a s' => a.kw = [] ∧ KeepIs f s' ∧ Wk prog w Γ (PySem.call f (first ++ a.pos) []) Q s') s := fun ts h => by
   refine Wk.bind2 h ?_
   rintro vs s' ⟨h1, h2⟩
   refine Wk.bind (Wk.pure (Wk.holding ?_))
   exact Wk.bind (Wk.pure (Wk.bind (Wk.pure (Wk.pure ⟨rfl, h1, h2⟩))))
  induction ts using List.casesOn with
  | nil => exact fin [] h
  | cons t ts =>
   obtain ⟨b, x⟩ := t
   induction b with
   | true => exact nomatch hts
   | false => induction ts using List.casesOn <;> exact fin _ h
 refine Wk.mono ev ?_
 rintro ⟨ap, akw⟩ s' ⟨rfl, h1, h2⟩
 refine Wk.bind (Wk.standAt ?_)
 rw [hts]
 have tail : ∀ {t : Sem Value}, Wk prog w Γ t Q s' → Wk prog w Γ (t >>= fun r => holding [r] point >>= fun _ => pure r) Q s' :=
  fun ht => Wk.bind2 ht fun r s₂ hr => Wk.bind (Wk.holding (Wk.point (Wk.pure hr)))
 refine Wk.bind (Wk.of_any hI (h1 _ _ _ _ ⟨?_, ?_⟩))
 ·exact Wk.ite (fun _ => tail h2) (fun _ => tail (t := callMarked plainCall f (first ++ ap) []) (by unfold callMarked; exact Wk.keep h2))
 ·exact tail h2
end
theorem Trees.any {X : Wd} {cx : Cx} {Ev : Ev} {l : List PE} {ts : List (Bool × Sem Value)} (h : Trees X cx Ev l ts) : ts.any (·.1) = false := by
 induction h with
 | nil => rfl
 | cons _ _ ih => simp [ih]
section
variable {X : Wd} {cx : Cx} {env : Env} {Ev : Ev} {P : Prg} {pos : Pos}
theorem call_name {mg mb : Str → Option Value} (N : Names X.h₀ mg mb) (R : EnvR env cx) {x : Str} {np : Pos} {es : List Expr} {fv : Value} {Q : Value → Shared → Prop} (hk : env.kindOf x = some .globalImplicit) (hg : GlobIs X.h₀ mg mb x fv) (hd : (x == ("__debug__" : Str)) = false)
  {Γ : Ctx} {A : Around} (G : Good X.cl X.m Γ A) {T : Tab} {s : Shared} {σ : St} (H : T.In s.heap) (S : StRel X.h₀ cx T σ) {l : List PE} (ht : Trees X cx Ev l (backTo pos (starEach es env))) {rs : List PV} {σ₁ : St} (el : evL Ev l σ = some (rs, σ₁))
  (h : ∀ T₁ s₁ vs, Go X.h₀ cx T σ s T₁ σ₁ s₁ → (rs.all (held σ σ₁) = true → RVs T₁ rs vs) → KeepIs fv s₁ ∧ Wk X.prog X.w Γ (PySem.call fv vs []) Q s₁) :
  Wk X.prog X.w Γ (eval (.Call (.Name x np) es [] pos) env) Q s := by
 show Wk X.prog X.w Γ (do callWith pos (← eval (.Name x np) env) [] (backTo pos (starEach es env)) (backToKw pos (keywordEach [] env))) _ s
 rw [eval_Name env x np hd]
 refine Wk.bind (Wk.bind (Wk.standAt (Wk.of_any G.isIn (ld_glob N R H S hk hg ?_))))
 refine callWith_ok G.isIn ht.any ?_
 refine Wk.mono ((spliced_ok ht).go el G H S) ?_
 rintro vs s₁ ⟨T₁, G₁, ps⟩
 exact h T₁ s₁ vs G₁ ps
theorem fn_code {X : Wd} {D : Delta} {f : Nat} {addr : Addr} {lvl : Nat} (F : FnOk X.prog X.w X.h₀ X.cl D f addr lvl) (hl : lvl ≤ X.m) {cx : Cx} {T : Tab} {σ σ' : St} {args : List PV} {pass keep : List Nat} {pv : PV} (e : doCall D f args pass keep σ = some (pv, σ'))
  {Γ : Ctx} {A : Around} (G : Good X.cl X.m Γ A) {s : Shared} (H : T.In s.heap) (S : StRel X.h₀ cx T σ) {vs : List Value} (R : RVs T args vs) : Wk X.prog X.w Γ (PySem.call (.ref addr) vs []) (Aft X.h₀ cx T σ s σ' (fun T' v => PRel T' pv v)) s := by
 refine Wk.call fun p => ?_
 refine Cd.mono (F e rfl ((G.less hl).enterB (.call (.ref addr) ⟨vs, []⟩) rfl p) H S R) ?_
 rintro fl s' ⟨v, rfl, h⟩
 exact h
theorem snd_call {mg mb : Str → Option Value} (N : Names X.h₀ mg mb) (R : EnvR env cx) {x : Str} {np : Pos} {es : List Expr} {f : Nat} {addr : Addr} {lvl : Nat} {l : List PE} {pass keep : List Nat} (hk : env.kindOf x = some .globalImplicit) (hg : GlobIs X.h₀ mg mb x (.ref addr)) (hd : (x == ("__debug__" : Str)) = false)
  (hf : ∃ o fd, X.h₀.get? addr = some o ∧ o.data = .func fd) (F : FnOk X.prog X.w X.h₀ X.cl P.D f addr lvl) (hl : lvl ≤ X.m) (ht : Trees X cx Ev l (backTo pos (starEach es env))) :
  Snd X cx (stepE Ev P (.call f l pass keep)) (eval (.Call (.Name x np) es [] pos) env) PRel := by
 refine .of fun {σ pv σ'} e {Γ A} G {T s} H S => bk e fun r el e => ik e fun hh e => ?_
 refine call_name N R hk hg hd G H S ht el fun T₁ s₁ vs G₁ ps => ?_
 obtain ⟨o, fd, ho, hdat⟩ := hf
 exact ⟨.fn (base_at G₁.isIn G₁.rel ho) hdat, Wk.mono (fn_code F hl e G G₁.isIn G₁.rel (ps hh)) fun v s' h => h.elim fun T₂ h => ⟨T₂, G₁.trans h.1, h.2⟩⟩
end
inductive SndS (X : Wd) (cx : Cx) (Ev : Mine.Ev) (env : Env) : List PS → List Stmt → Prop
 | nil : SndS X cx Ev env [] []
 | cons {a l st sts} : Snd X cx (Ev.s a) (exec st env) RFl → SndS X cx Ev env l sts → SndS X cx Ev env (a :: l) (st :: sts)
 | frz {k l sts} : SndS X cx Ev env l sts → SndS X cx Ev env (.frz k :: l) sts
noncomputable def FrzOk (Ev : Mine.Ev) : Prop := ∀ k σ r, Ev.s (.frz k) σ = some r → (σ.freeze k (.f .none)).map (fun r => (Out.next, r.2)) = some r
noncomputable def noComp (e : Expr) : Bool := !(e.ctorIdx == 8 || (e.ctorIdx == 9 || e.ctorIdx == 10))
theorem swaps_no {e : Expr} (h : noComp e = true) (t : Option Expr) (l : Nat) (env : Env) : swapsWith e t l env = pure false := by
 have hx : (pure false : Sem Bool) = pure false := rfl
 induction e using Expr.casesOn <;> first | exact nob h | exact hx
section
variable {X : Wd} {cx : Cx} {env : Env} {Ev : Mine.Ev} {P : Prg} {pos : Pos}
theorem freeze_go {T : Tab} {σ σ' : St} {s : Shared} {k : Nat} {r r' : PV} {u : Value} (H : T.In s.heap) (S : StRel X.h₀ cx T σ) (e : σ.freeze k r = some (r', σ')) (p : PRel T r u) : ∃ T', Go X.h₀ cx T σ s T' σ' s ∧ PRel T' r' u := by
 obtain ⟨T', h1, h2, h3, h4⟩ := S.freeze e p
 exact ⟨T', ⟨⟨s.toks, rfl⟩, h1 _ H, h2, h3⟩, h4⟩
theorem execs_ok (hz : FrzOk Ev) {l : List PS} {sts : List Stmt} (h : SndS X cx Ev env l sts) : Snd X cx (evB Ev l) (execs sts env) RFl := by
 induction h with
 | nil => exact .mk' fun {σ r} e {Γ A} G {T s} H S => got e (Wk.pure ⟨T, .refl H S, rfl⟩)
 | @cons a l st sts ha _ ih =>
  refine .mk' fun {σ r} e {Γ A} G {T s} H S => bk e fun r1 ea e => ?_
  rw [execs_cons]
  refine ha.bind ea G H S fun fl s₁ T₁ G₁ hf => ?_
  obtain ⟨out, σ₁⟩ := r1
  induction out with
  | next =>
   subst hf
   exact ih.after e G G₁
  | ret pv =>
   obtain ⟨v, rfl, hv⟩ := hf
   exact got e (Wk.pure ⟨T₁, G₁, v, rfl, hv⟩)
 | @frz k l sts _ ih =>
  refine .mk' fun {σ r} e {Γ A} G {T s} H S => bk e fun r1 ea e => mk (hz k σ _ ea) fun r2 hf hq => ?_
  subst hq
  exact (freeze_go (u := .none) (r' := r2.1) (σ' := r2.2) H S hf rfl).elim fun T' h => ih.after e G h.1
theorem snd_stuck {st : Stmt} : Snd X cx (stepS Ev P .stuck) (exec st env) RFl := .of fun e => no e
theorem interactive_no (R : EnvR env cx) : interactive env = false := by
 unfold interactive
 rw [R.kind]; rfl
theorem snd_expr (R : EnvR env cx) {a : PE} {e : Expr} (hc : noComp e = true) (ha : Snd X cx (Ev.e a) (eval e env) PRel) : Snd X cx (stepS Ev P (.expr a)) (exec (.Expr e pos) env) RFl :=
 .mk' fun {σ r} e' {Γ A} G {T s} H S => mk e' fun r1 ea e' => gotEq e' (by
  show Wk X.prog X.w Γ (do
   standAt pos
   if interactive env then printExpr (eval e env)
   else if ← swapsWith e none pos.line env then do evalThenUse e env fun _ => point; pure .next
   else do dropValue e pos (← eval e env)) _ s
  rw [interactive_no R, swaps_no hc]
  exact Wk.bind (Wk.standAt (Wk.bind (Wk.pure (ha.bind ea G H S fun va s₁ T₁ G₁ pa => Wk.of_any G.isIn (wpAny_dropValue ⟨T₁, G₁, rfl⟩))))))
theorem retGs_ok {gs : List Nat} : ∀ {r r' : PV} {σ σ' : St}, retGs gs r σ = some (r', σ') → ∀ {T : Tab} {s : Shared} {u : Value}, T.In s.heap → StRel X.h₀ cx T σ → PRel T r u → ∃ T', Go X.h₀ cx T σ s T' σ' s ∧ PRel T' r' u := by
 induction gs with
 | nil => intro r r' σ σ' e T s u H S p; obtain ⟨rfl, rfl⟩ := Prod.mk.inj (Option.some.inj e); exact ⟨T, .refl H S, p⟩
 | cons k ks ih =>
  intro r r' σ σ' e T s u H S p
  exact bk e fun r1 e1 e2 => (freeze_go (r' := r1.1) (σ' := r1.2) H S e1 p).elim fun T₁ h1 => (ih e2 h1.1.isIn h1.1.rel h1.2).elim fun T₂ h2 => ⟨T₂, h1.1.trans h2.1, h2.2⟩
theorem snd_ret {a : PE} {gs : List Nat} {e : Expr} (ha : Snd X cx (Ev.e a) (eval e env) PRel) : Snd X cx (stepS Ev P (.ret a gs)) (exec (.Return (some e) pos) env) RFl :=
 .mk' fun {σ r} e' {Γ A} G {T s} H S => bk e' fun r1 ea e' => mk e' fun r2 eb e' => gotEq e' (by
  rw [exec_Return_some]
  exact Wk.bind (Wk.standAt (ha.bind ea G H S fun va s₁ T₁ G₁ pa => (retGs_ok (r' := r2.1) (σ' := r2.2) eb G₁.isIn G₁.rel pa).elim fun T₂ h => Wk.pure ⟨T₂, G₁.trans h.1, va, rfl, h.2⟩)))
theorem snd_asg (R : EnvR env cx) {i : Nat} {x : Str} {co : Option Addr} {a : PE} {e : Expr} {np : Pos} (hx : cx.names[i]? = some (x, co)) (hc : noComp e = true) (ha : Snd X cx (Ev.e a) (eval e env) PRel) :
  Snd X cx (stepS Ev P (.asg i a)) (exec (.Assign [.Name x np] e pos) env) RFl :=
 .mk' fun {σ r} e' {Γ A} G {T s} H S => mk e' fun r1 ea e' => gotEq e' (by
  rw [exec_Assign_Name env x np e pos (swaps_no hc _ _ _)]
  exact Wk.bind (Wk.standAt (ha.bind ea G H S fun va s₁ T₁ G₁ pa => Wk.bind (Wk.standAt (Wk.bind (Wk.of_any G.isIn (st_var R G₁.isIn G₁.rel hx pa fun T' s' G' => Wk.pure ⟨T', G₁.trans G', rfl⟩))))))) 
theorem snd_if (hz : FrzOk Ev) {c : PE} {t f : List PS} {test : Expr} {body orelse : List Stmt} (hc : Snd X cx (Ev.c c) (isTrue test env (eval test env)) RB) (ht : SndS X cx Ev env t body) (hf : SndS X cx Ev env f orelse) :
  Snd X cx (stepS Ev P (.ifS c t f)) (exec (.If test body orelse pos) env) RFl :=
 .mk' fun {σ r} e {Γ A} G {T s} H S => bk e fun r1 ec e => by
  rw [exec_If]
  refine Wk.bind (Wk.standAt (hc.bind ec G H S fun t' s₁ T₁ G₁ h => ?_))
  have h : t' = r1.1 := h
  subst h
  cases hb : r1.1 with
  | true => rw [hb] at e; exact (execs_ok hz ht).after e G G₁
  | false => rw [hb] at e; exact (execs_ok hz hf).after e G G₁
end
theorem Good.same {cl : Bool} {n : Nat} {Γ : Ctx} {A : Around} (h : Good cl n Γ A) {c : Code} (hc : Γ.code = c) : Good cl n (Γ.goto c) A := by subst hc; exact h
section
variable {X : Wd} {cx : Cx} {env : Env} {Ev : Mine.Ev} {P : Prg} {pos : Pos}
theorem while_ok (hz : FrzOk Ev) {c : PE} {l : List PS} {test : Expr} {body : List Stmt} (hc : Snd X cx (Ev.c c) (isTrue test env (eval test env)) RB) (hb : SndS X cx Ev env l body) (n : Nat) :
  ∀ {σ : St} {z : Out × St}, whileLoop Ev c l n σ = some z → ∀ {Γ : Ctx} {A : Around}, Good X.cl X.m Γ A → Γ.code = .whileLoop test body [] env → ∀ {T : Tab} {s : Shared}, T.In s.heap → StRel X.h₀ cx T σ →
   Cd X.prog X.w Γ (Aft X.h₀ cx T σ s z.2 (fun T' fl => RFl T' z.1 fl)) s := by
 induction n with
 | zero => exact fun e => no e
 | succ n ih =>
  refine fun {σ z} e {Γ A} G hco {T s} H S => bk e fun r ec e => Cd.tree ?_
  rw [hco]
  refine Wk.onRaise (Wk.bind2 (hc.go ec G H S) ?_)
  rintro t' s₁ ⟨T₁, G₁, ht⟩
  obtain ⟨t, σ₁⟩ := r
  cases ht
  cases t with
  | true =>
   refine bk (x := evB Ev l σ₁) e fun q eb e => Wk.bind2 ((execs_ok hz hb).go eb G G₁.isIn G₁.rel) ?_
   rintro fl s₂ ⟨T₂, G₂, hf⟩
   obtain ⟨out, σ₂⟩ := q
   induction out with
   | next =>
    subst hf
    exact Wk.pure ⟨rfl, Cd.mono (ih e (G.same hco) rfl G₂.isIn G₂.rel) fun fl s₃ h => h.elim fun T₃ h => ⟨T₃, (G₁.trans G₂).trans h.1, h.2⟩⟩
   | ret pv =>
    obtain ⟨v, rfl, hv⟩ := hf
    obtain rfl := Option.some.inj e
    exact Wk.pure ⟨T₂, G₁.trans G₂, v, rfl, hv⟩
  | false =>
   obtain rfl := Option.some.inj e
   exact Wk.bind (Wk.pure (Wk.pure ⟨T₁, G₁, rfl⟩))
theorem snd_while (hz : FrzOk Ev) {n : Nat} {c : PE} {l : List PS} {test : Expr} {body : List Stmt} (hc : Snd X cx (Ev.c c) (isTrue test env (eval test env)) RB) (hb : SndS X cx Ev env l body) :
  Snd X cx (stepS Ev P (.whileS n c l)) (exec (.While test body [] pos) env) RFl := by
 refine .of fun {σ b σ'} e {Γ A} G {T s} H S => ?_
 rw [exec_While]
 refine Wk.bind (Wk.standAt (Wk.runOwn fun p => ?_))
 exact while_ok hz hc hb n e (G.enter rfl rfl rfl p) rfl H S
theorem StRel.addFr {h₀ : Heap} {T : Tab} {σ : St} (S : StRel h₀ cx T σ) {a : Addr} {o : Obj} (hn : T a = none) : StRel h₀ cx (T.set a (some (.fr, o))) σ := by
 have E : Ext T (T.set a (some (.fr, o))) := ext_set hn
 have back : ∀ b w o', (T.set a (some (.fr, o))) b = some (w, o') → w ≠ .fr → T b = some (w, o') := fun b w o' e hw => by
  by_cases hb : b = a
  ·subst hb; rw [Tab.set_self] at e; obtain ⟨rfl, rfl⟩ := Prod.mk.inj (Option.some.inj e); exact absurd rfl hw
  ·rwa [Tab.set_ne _ _ hb] at e
 exact ⟨fun b o' e => E _ _ _ (S.base b o' e), S.loc.mono E.f E.l (fun _ e => E _ _ _ e) (fun _ _ e => E _ _ _ e), fun b o' e => S.locU b o' (back _ _ _ e (ne_idx rfl)), fun b o' e => S.celU b o' (back _ _ _ e (ne_idx rfl)),
  fun k ao e => let ⟨b, o', x, y⟩ := S.led k ao e; ⟨b, o', E _ _ _ x, y.mono E.f E.l (fun _ _ e => E _ _ _ e)⟩,
  fun k b d o' o'' e e' => S.labU k b d _ _ (back _ _ _ e (ne_idx rfl)) (back _ _ _ e' (ne_idx rfl)), fun k b d o' o'' e e' => S.dictU k b d _ _ (back _ _ _ e (ne_idx rfl)) (back _ _ _ e' (ne_idx rfl)),
  fun k b d o' o'' e e' => S.brwU k b d _ _ (back _ _ _ e (ne_idx rfl)) (back _ _ _ e' (ne_idx rfl)), fun k b o' e => S.live k b o' (back _ _ _ e (ne_idx rfl)), fun k b o' e => S.dead k b o' (back _ _ _ e (ne_idx rfl)), S.lentD,
  fun k b o' e => S.dicL k b o' (back _ _ _ e (ne_idx rfl))⟩
theorem StRel.dropFr {h₀ : Heap} {T : Tab} {σ : St} (S : StRel h₀ cx T σ) {a : Addr} {o : Obj} (hn : T a = some (.fr, o)) : StRel h₀ cx (T.set a none) σ := by
 have fwd : ∀ b w o', T b = some (w, o') → w ≠ .fr → (T.set a none) b = some (w, o') := fun b w o' e hw => by
  by_cases hb : b = a
  ·subst hb; rw [hn] at e; obtain ⟨rfl, rfl⟩ := Prod.mk.inj (Option.some.inj e); exact absurd rfl hw
  ·rwa [Tab.set_ne _ _ hb]
 have back : ∀ b w o', (T.set a none) b = some (w, o') → T b = some (w, o') := fun b w o' e => by
  by_cases hb : b = a
  ·subst hb; rw [Tab.set_self] at e; exact no e
  ·rwa [Tab.set_ne _ _ hb] at e
 have F : FMono T (T.set a none) := fun b o' e => fwd _ _ _ e (ne_idx rfl)
 have Lm : LMono T (T.set a none) := fun b k o' e => ⟨o', e.imp (fun e => fwd _ _ _ e (ne_idx rfl)) (fun e => fwd _ _ _ e (ne_idx rfl))⟩
 exact ⟨fun b o' e => F _ _ (S.base b o' e), S.loc.mono F Lm (fun _ e => fwd _ _ _ e (ne_idx rfl)) (fun _ _ e => fwd _ _ _ e (ne_idx rfl)), fun b o' e => S.locU b o' (back _ _ _ e), fun b o' e => S.celU b o' (back _ _ _ e),
  fun k ao e => let ⟨b, o', x, y⟩ := S.led k ao e; ⟨b, o', fwd _ _ _ x (ne_idx rfl), y.mono F Lm (fun _ _ e => fwd _ _ _ e (ne_idx rfl))⟩,
  fun k b d o' o'' e e' => S.labU k b d _ _ (back _ _ _ e) (back _ _ _ e'), fun k b d o' o'' e e' => S.dictU k b d _ _ (back _ _ _ e) (back _ _ _ e'),
  fun k b d o' o'' e e' => S.brwU k b d _ _ (back _ _ _ e) (back _ _ _ e'), fun k b o' e => S.live k b o' (back _ _ _ e), fun k b o' e => S.dead k b o' (back _ _ _ e), S.lentD,
  fun k b o' e => S.dicL k b o' (back _ _ _ e)⟩
end
section
variable {X : Wd} {cx : Cx} {env : Env} {Ev : Mine.Ev} {P : Prg} {pos : Pos}
theorem Go.without {h₀ : Heap} {T T' : Tab} {σ σ' : St} {s s' : Shared} {I : Addr} {o : Obj} (hn : T I = none) (G : Go h₀ cx (T.set I (some (.fr, o))) σ s T' σ' s') : T' I = some (.fr, o) ∧ Go h₀ cx T σ s (T'.set I none) σ' s' ∧ ∀ p v, PRel T' p v → PRel (T'.set I none) p v := by
 have hI : T' I = some (.fr, o) := (G.nx.le.fr I o).mp (Tab.set_self ..)
 have ne : ∀ {a w o'}, T a = some (w, o') → a ≠ I := fun e h => by subst h; rw [hn] at e; exact no e
 have up : ∀ {a w o'}, T a = some (w, o') → (T.set I (some (.fr, o))) a = some (w, o') := fun e => by rw [Tab.set_ne _ _ (ne e)]; exact e
 have dn : ∀ {a w o'}, T' a = some (w, o') → a ≠ I → (T'.set I none) a = some (w, o') := fun e h => by rw [Tab.set_ne _ _ h]; exact e
 have notI : ∀ {a w o'}, T' a = some (w, o') → w ≠ .fr → a ≠ I := fun e h h' => by subst h'; rw [hI] at e; obtain ⟨rfl, rfl⟩ := Prod.mk.inj (Option.some.inj e); exact h rfl
 have back : ∀ {a w o'}, (T'.set I none) a = some (w, o') → T' a = some (w, o') ∧ a ≠ I := fun {a w o'} e => by
  by_cases hb : a = I
  ·subst hb; rw [Tab.set_self] at e; exact no e
  ·rw [Tab.set_ne _ _ hb] at e; exact ⟨e, hb⟩
 have F : FMono T' (T'.set I none) := fun a o' e => dn e (notI e (ne_idx rfl))
 refine ⟨hI, ⟨G.same, G.isIn.drop, G.rel.dropFr hI, ⟨⟨fun a o' e => F _ _ (G.nx.le.froz _ _ (up e)), fun a o' => ⟨fun e => dn ((G.nx.le.fr a o').mp (up e)) (ne e), fun e => ?_⟩, fun a k o' => ⟨fun e => dn ((G.nx.le.brw a k o').mp (up e)) (ne e), fun e => ?_⟩⟩, ?_, G.nx.lent⟩⟩, fun p v h => h.mono F fun a k o' e => ?_⟩
 ·obtain ⟨e, h⟩ := back e
  have := (G.nx.le.fr a o').mpr e
  rwa [Tab.set_ne _ _ h] at this
 ·obtain ⟨e, h⟩ := back e
  have := (G.nx.le.brw a k o').mpr e
  rwa [Tab.set_ne _ _ h] at this
 ·obtain ⟨new, h1, h2⟩ := G.nx.keep
  refine ⟨new, h1, fun k a o' hk e => ?_⟩
  obtain ⟨o'', e'⟩ := h2 k a o' hk (up e)
  exact ⟨o'', dn e' (notI e' (ne_idx rfl))⟩
 ·exact ⟨o', e.imp (fun e => dn e (notI e (ne_idx rfl))) (fun e => dn e (notI e (ne_idx rfl)))⟩
theorem stays_le {T T' : Tab} (L : TLe T T') {b : Addr} {w : Own} {o : Obj} (e : T b = some (w, o)) (h : stays w) : T' b = some (w, o) := by
 induction w with
 | froz => exact L.froz _ _ e
 | fr => exact (L.fr _ _).mp e
 | brw k => exact (L.brw _ _ _).mp e
 | _ => exact h.elim
theorem drop_nil {α : Type} {xs : List α} {j : Nat} (h : [] = xs.drop j) (hj : j ≤ xs.length) : j = xs.length := Nat.le_antisymm hj (List.drop_eq_nil_iff.mp h.symm)
theorem drop_cons {α : Type} {xs ys : List α} {y : α} {j : Nat} (h : y :: ys = xs.drop j) : j < xs.length ∧ xs[j]? = some y ∧ ys = xs.drop (j + 1) := by
 have hj : j < xs.length := Nat.lt_of_not_le fun h' => by rw [List.drop_eq_nil_of_le h'] at h; exact nomatch h
 rw [List.drop_eq_getElem_cons hj] at h
 exact ⟨hj, (List.getElem?_eq_getElem hj).trans (congrArg some (List.cons.inj h).1.symm), (List.cons.inj h).2⟩
theorem out_of {T : Tab} {I : Addr} {h h' : Heap} (H : T.In h) (hn : T I = none) (hk : ∀ a o, a ∉ [I] → h.get? a = some o → h'.get? a = some o) : T.In h' :=
 fun a w o e => hk a o (fun q => by rw [List.mem_singleton.mp q, hn] at e; exact no e) (H a w o e)
theorem in_put {T : Tab} {h : Heap} {a : Addr} {w : Own} {o : Obj} (H : T.In h) (ho : h.get? a = some o) : (T.set a (some (w, o))).In h := fun b w' o' e => by
 by_cases hb : b = a
 ·rw [hb, Tab.set_self] at e; obtain ⟨rfl, rfl⟩ := Prod.mk.inj (Option.some.inj e); rw [hb]; exact ho
 ·rw [Tab.set_ne _ _ hb] at e; exact H _ _ _ e
theorem RFl.up {T T' : Tab} {out : Out} {fl : Flow} (h : RFl T out fl) (k : ∀ p v, PRel T p v → PRel T' p v) : RFl T' out fl := by
 induction out with
 | next => exact h
 | ret pv => exact h.elim fun v h => ⟨v, h.1, k _ _ h.2⟩
theorem Go.heap {h₀ : Heap} {cx : Cx} {T T' : Tab} {σ σ' : St} {s s' : Shared} {h' : Heap} (G : Go h₀ cx T σ { s with heap := h' } T' σ' s') : Go h₀ cx T σ s T' σ' s' :=
 ⟨G.same.elim fun tk e => ⟨tk, by rw [e]⟩, G.isIn, G.rel, G.nx⟩
theorem Go.re {h₀ : Heap} {T T' : Tab} {σ σ' : St} {s s' : Shared} {h' : Heap} {tk : Tok} (G : Go h₀ cx T σ { s with heap := h', toks := tk } T' σ' s') : Go h₀ cx T σ s T' σ' s' :=
 ⟨G.same.elim fun t e => ⟨t, by rw [e]⟩, G.isIn, G.rel, G.nx⟩
structure ForS (X : Wd) (cx : Cx) (I : Addr) (fp : List Addr) (xs : List FV) (Pi : Nat → Value → Prop) (Sti : Nat → Heap → Prop) (j : Nat) (T : Tab) (σ : St) (s : Shared) : Prop where
 H : T.In s.heap
 hn : T I = none
 S : StRel X.h₀ cx T σ
 fps : ∀ b ∈ fp, b ≠ I → ∃ w o, T b = some (w, o) ∧ stays w
 item : ∀ i v, Pi i v → ∃ y, xs[i]? = some y ∧ VRel T y v
 st : Sti j s.heap
 le : j ≤ xs.length
section
variable {i : Nat} {x : Str} {co : Option Addr} {l : List PS} {body : List Stmt} {tp : Pos} {I : Addr} {fp : List Addr} {xs : List FV} {Pi : Nat → Value → Prop} {Sti : Nat → Heap → Prop}
theorem for_body (hz : FrzOk Ev) (R : EnvR env cx) (hx : cx.names[i]? = some (x, co)) (hb : SndS X cx Ev env l body) (W : ∀ A : Around, A.handled = none → Walks X.prog X.w A I fp [I] xs.length Pi Sti) (hv : ∀ i h, Sti i h → ∃ o, h.get? I = some o)
  {j : Nat} {T : Tab} {σ : St} {s : Shared} {y : FV} {r : Out × St} {Γ : Ctx} {A : Around} (F : ForS X cx I fp xs Pi Sti j T σ s) (hj : j < xs.length) (hy : xs[j]? = some y) (e : evB Ev l (σ.set i (.f y)) = some r) (G : Good X.cl X.m Γ A)
  {v : Value} {h' : Heap} {tk : Tok} (hp : Pi j v) (st' : Sti (j + 1) h') (hk : ∀ a o, a ∉ [I] → s.heap.get? a = some o → h'.get? a = some o) {β : Type} {K : Flow → Sem β} {Q : β → Shared → Prop}
  (h : ∀ fl s₂ T₂, Go X.h₀ cx T σ s T₂ r.2 s₂ → RFl T₂ r.1 fl → ForS X cx I fp xs Pi Sti (j + 1) T₂ r.2 s₂ → Wk X.prog X.w Γ (K fl) Q s₂) :
  Wk X.prog X.w Γ (do standAt tp; bindName env x v; K (← execs body env)) Q { s with heap := h', toks := tk } := by
 have H' := out_of F.H F.hn hk
 obtain ⟨oI, hoI⟩ := hv _ _ st'
 obtain ⟨y', hy', vr⟩ := F.item j v hp
 cases hy.symm.trans hy'
 refine Wk.bind (Wk.standAt (Wk.bind (Wk.of_any G.isIn (st_var (s := { s with heap := h', toks := tk }) (pv := .f y) R (in_put H' hoI) (F.S.addFr (a := I) (o := oI) F.hn) hx (vr.mono (ext_set F.hn).f) fun T₁ s₁ G₁ => ?_))))
 refine (execs_ok hz hb).bind e G G₁.isIn G₁.rel fun fl s₂ T₂ G₂ hf => ?_
 obtain ⟨hI₂, G₃, up⟩ := (G₁.trans G₂).without F.hn
 refine h fl s₂ _ G₃.re (hf.up up) ⟨G₃.isIn, Tab.set_self .., G₃.rel, fun b hb hbI => ?_, fun i v hp => (F.item i v hp).elim fun y h => ⟨y, h.1, h.2.mono G₃.nx.le.froz⟩, (W A G.handled).frame _ _ _ st' fun b hb o ho => ?_, hj⟩
 ·obtain ⟨w, o', e', hs⟩ := F.fps b hb hbI
  exact ⟨w, o', stays_le G₃.nx.le e' hs, hs⟩
 ·by_cases hbI : b = I
  ·rw [hbI, hoI] at ho; obtain rfl := Option.some.inj ho; rw [hbI]
   exact G₂.isIn _ _ _ hI₂
  ·obtain ⟨w, o', e', hs⟩ := F.fps b hb hbI
   cases (H' _ _ _ e').symm.trans ho
   exact G₃.isIn _ _ _ (stays_le G₃.nx.le e' hs)
theorem for_ok (hz : FrzOk Ev) (R : EnvR env cx) (hx : cx.names[i]? = some (x, co)) (hb : SndS X cx Ev env l body)
  (W : ∀ A : Around, A.handled = none → Walks X.prog X.w A I fp [I] xs.length Pi Sti) (hv : ∀ i h, Sti i h → ∃ o, h.get? I = some o) {ys : List FV} :
  ∀ {j : Nat} {σ : St} {r : Out × St}, ys = xs.drop j → forLoop Ev i l ys σ = some r → ∀ {Γ : Ctx} {A : Around}, Good X.cl X.m Γ A → Γ.code = .forLoop (.Name x tp) (.ref I) body [] env → ∀ {T : Tab} {s : Shared}, ForS X cx I fp xs Pi Sti j T σ s →
   Cd X.prog X.w Γ (Aft X.h₀ cx T σ s r.2 (fun T' fl => RFl T' r.1 fl)) s := by
 induction ys with
 | nil =>
  intro j σ r hd e Γ A G hco T s F
  obtain rfl := Option.some.inj e
  have st := F.st
  rw [drop_nil hd F.le] at st
  refine Cd.tree ?_
  rw [hco]
  show Wk X.prog X.w Γ ((forTurn (.Name x tp) (.ref I) body [] env).onRaise (fun x => do noteFrame x env; theTreesLotGoes x)) _ s
  refine Wk.onRaise ?_
  unfold forTurn
  refine Wk.bind (Wk.standAt (Wk.bind (Wk.onRaise (Wk.of_any G.isIn ((W A G.handled).done _ _ _ st fun h' tk hk => Wk.pure ⟨rfl, Cd.tree ?_⟩)))))
  show Wk X.prog X.w _ (do return Fin.done (← (execs [] env).onRaise (fun x => do noteFrame x env; theTreesLotGoes x))) _ _
  exact Wk.bind (Wk.onRaise (Wk.pure (Wk.pure ⟨T, ⟨⟨tk, rfl⟩, out_of F.H F.hn hk, F.S, .refl _ _⟩, rfl⟩)))
 | cons y ys ih =>
  intro j σ r hd e Γ A G hco T s F
  have d := drop_cons hd
  refine bk e fun r1 eb e => Cd.tree ?_
  rw [hco]
  show Wk X.prog X.w Γ ((forTurn (.Name x tp) (.ref I) body [] env).onRaise (fun x => do noteFrame x env; theTreesLotGoes x)) _ s
  refine Wk.onRaise ?_
  unfold forTurn
  refine Wk.bind (Wk.standAt (Wk.bind (Wk.onRaise (Wk.of_any G.isIn ((W A G.handled).item j _ _ _ d.1 F.st fun v h' tk hp st' hk => ?_)))))
  refine Wk.bind (show Wk X.prog X.w Γ (pure ()) _ _ from Wk.pure ?_)
  refine for_body hz R hx hb W hv F d.1 d.2.1 eb G hp st' hk fun fl s₂ T₂ G₂ hf F₂ => ?_
  obtain ⟨out, σ₁⟩ := r1
  induction out with
  | next =>
   subst hf
   exact Wk.pure ⟨rfl, Cd.mono (ih d.2.2 e (G.same hco) rfl F₂) fun fl s₃ h => h.elim fun T₃ h => ⟨T₃, G₂.trans h.1, h.2⟩⟩
  | ret pv =>
   obtain ⟨u, rfl, hu⟩ := hf
   obtain rfl := Option.some.inj e
   exact Wk.pure ⟨_, G₂, u, rfl, hu⟩
end
theorem folded_plain {e : Expr} (h : plainE e = true) (env : Env) (v : Value) : foldedSetIterable e env v = pure v := by
 have hx : (pure v : Sem Value) = pure v := rfl
 induction e using Expr.casesOn <;> first | exact nob h | exact hx
end
theorem frozen_ref {T : Tab} {x : FV} {a : Addr} (h : VRel T x (.ref a)) : ∃ o, T a = some (.froz, o) := by
 induction x using FV.casesOn with
 | none => cases h
 | bool b => cases h
 | int i => obtain ⟨t, e⟩ := h; cases e
 | str i => obtain ⟨t, e⟩ := h; cases e
 | bytes i => obtain ⟨t, e⟩ := h; cases e
 | barr b => obtain ⟨a', o, e, t, _⟩ := h; cases e; exact ⟨o, t⟩
 | tup l => obtain ⟨a', o, vs, e, t, _⟩ := h; cases e; exact ⟨o, t⟩
 | list l => obtain ⟨a', o, vs, e, t, _⟩ := h; cases e; exact ⟨o, t⟩
 | rng a b c => obtain ⟨r, o, e, t, _⟩ := h; cases e; exact ⟨o, t⟩
 | inst c ns vs => obtain ⟨a', o, dx, es, n, e, t, _⟩ := h; cases e; exact ⟨o, t⟩
section
variable {h₀ : Heap} {cx : Cx} {T : Tab} {σ : St}
theorem StRel.lend (S : StRel h₀ cx T σ) {a : Addr} {o : Obj} {k : Nat} {l : List FV} (ht : T a = some (.lab k, o)) (hk : σ.look k = some (.list l)) :
  StRel h₀ cx (T.set a (some (.brw k, o))) { σ with led := σ.led.filter fun p => p.1 != k, lent := k :: σ.lent } := by
 have look : ∀ j, St.look { σ with led := σ.led.filter fun p => p.1 != k, lent := k :: σ.lent } j = if j = k then none else σ.look j := fun j => lookup_filter_ne k j σ.led
 have fwd : ∀ b w o₁, T b = some (w, o₁) → w ≠ .lab k → (T.set a (some (.brw k, o))) b = some (w, o₁) := fun b w o₁ e hw => by
  by_cases hb : b = a
  ·subst hb; rw [ht] at e; obtain ⟨rfl, rfl⟩ := Prod.mk.inj (Option.some.inj e); exact absurd rfl hw
  ·rwa [Tab.set_ne _ _ hb]
 have back : ∀ b w o₁, (T.set a (some (.brw k, o))) b = some (w, o₁) → w ≠ .brw k → T b = some (w, o₁) := fun b w o₁ e hw => by
  by_cases hb : b = a
  ·subst hb; rw [Tab.set_self] at e; obtain ⟨rfl, rfl⟩ := Prod.mk.inj (Option.some.inj e); exact absurd rfl hw
  ·rwa [Tab.set_ne _ _ hb] at e
 have noBrw : ∀ b o₁, T b ≠ some (.brw k, o₁) := fun b o₁ e => brw_dead S e hk
 have onlyB : ∀ b o₁, (T.set a (some (.brw k, o))) b = some (.brw k, o₁) → b = a := fun b o₁ e => by
  by_cases hb : b = a
  ·exact hb
  ·rw [Tab.set_ne _ _ hb] at e; exact absurd e (noBrw b o₁)
 have noLab : ∀ b o₁, (T.set a (some (.brw k, o))) b ≠ some (.lab k, o₁) := fun b o₁ e => by
  by_cases hb : b = a
  ·subst hb; rw [Tab.set_self] at e; cases e
  ·rw [Tab.set_ne _ _ hb] at e; exact hb (S.labU k b a _ _ e ht)
 have F : FMono T (T.set a (some (.brw k, o))) := fun b o₁ e => fwd _ _ _ e (ne_idx rfl)
 have Lm : LMono T (T.set a (some (.brw k, o))) := fun b j o₁ e => by
  by_cases hb : b = a
  ·subst hb
   rcases e with e | e
   ·rw [ht] at e; cases e; exact ⟨o, .inr (Tab.set_self ..)⟩
   ·rw [ht] at e; cases e
  ·exact ⟨o₁, e.imp (fun e => by rwa [Tab.set_ne _ _ hb]) (fun e => by rwa [Tab.set_ne _ _ hb])⟩
 refine ⟨fun b o₁ e => F _ _ (S.base b o₁ e), S.loc.mono F Lm (fun _ e => fwd _ _ _ e (ne_idx rfl)) (fun _ _ e => fwd _ _ _ e (ne_idx rfl)), fun b o₁ e => S.locU b o₁ (back _ _ _ e (ne_idx rfl)), fun b o₁ e => S.celU b o₁ (back _ _ _ e (ne_idx rfl)),
  fun j aj e => ?_, fun j b d o₁ o₂ e e' => S.labU j b d _ _ (back _ _ _ e (ne_idx rfl)) (back _ _ _ e' (ne_idx rfl)), fun j b d o₁ o₂ e e' => S.dictU j b d _ _ (back _ _ _ e (ne_idx rfl)) (back _ _ _ e' (ne_idx rfl)),
  fun j b d o₁ o₂ e e' => ?_, fun j b o₁ e => ?_, fun j b o₁ e => ?_, fun j hj => ?_, fun j b o₁ e => ?_⟩
 ·rw [look] at e
  split at e
  ·cases e
  ·rename_i hj
   obtain ⟨b, o₁, x, y⟩ := S.led j aj e
   exact ⟨b, o₁, fwd _ _ _ x (own_ne hj), y.mono F Lm (fun _ _ e => fwd _ _ _ e (ne_idx rfl))⟩
 ·by_cases hj : j = k
  ·subst hj; rw [onlyB _ _ e, onlyB _ _ e']
  ·exact S.brwU j b d _ _ (back _ _ _ e (own_ne hj)) (back _ _ _ e' (own_ne hj))
 ·have hj : j ≠ k := fun h => by subst h; exact noLab b o₁ e
  rw [look, if_neg hj]
  exact S.live j b o₁ (back _ _ _ e (ne_idx rfl))
 ·by_cases hj : j = k
  ·subst hj; simp
  ·exact List.mem_cons_of_mem _ (S.dead j b o₁ (back _ _ _ e (own_ne hj)))
 ·rw [look]
  split
  ·rfl
  ·rename_i h
   rcases List.mem_cons.mp hj with h' | h'
   ·exact absurd h' h
   ·exact S.lentD j h'
 ·have e' := back _ _ _ e (ne_idx rfl)
  obtain ⟨c, ns, vs, q⟩ := S.dicL j b o₁ e'
  have hj : j ≠ k := fun h => by subst h; rw [hk] at q; cases q
  exact ⟨c, ns, vs, by rw [look, if_neg hj]; exact q⟩
theorem StRel.unlend (S : StRel h₀ cx T σ) {a : Addr} {o : Obj} {k : Nat} {l : List FV} {vs : List Value} {lent : List Nat} (ht : T a = some (.brw k, o)) (hL : LObj o vs) (hR : VRels T l vs) (hl : σ.lent = k :: lent) (hkl : k ∉ lent) :
  StRel h₀ cx (T.set a (some (.lab k, o))) { σ.put k (.list l) with lent := lent } := by
 have hk : σ.look k = none := S.lentD k (by rw [hl]; simp)
 have look : ∀ j, St.look { σ.put k (.list l) with lent := lent } j = if j = k then some (.list l) else σ.look j := fun j => lookup_putL k (.list l) j σ.led
 have fwd : ∀ b w o₁, T b = some (w, o₁) → w ≠ .brw k → (T.set a (some (.lab k, o))) b = some (w, o₁) := fun b w o₁ e hw => by
  by_cases hb : b = a
  ·subst hb; rw [ht] at e; obtain ⟨rfl, rfl⟩ := Prod.mk.inj (Option.some.inj e); exact absurd rfl hw
  ·rwa [Tab.set_ne _ _ hb]
 have back : ∀ b w o₁, (T.set a (some (.lab k, o))) b = some (w, o₁) → w ≠ .lab k → T b = some (w, o₁) := fun b w o₁ e hw => by
  by_cases hb : b = a
  ·subst hb; rw [Tab.set_self] at e; obtain ⟨rfl, rfl⟩ := Prod.mk.inj (Option.some.inj e); exact absurd rfl hw
  ·rwa [Tab.set_ne _ _ hb] at e
 have noLab : ∀ b o₁, T b ≠ some (.lab k, o₁) := fun b o₁ e => by
  obtain ⟨ao, q⟩ := S.live k b o₁ e
  rw [hk] at q; cases q
 have onlyL : ∀ b o₁, (T.set a (some (.lab k, o))) b = some (.lab k, o₁) → b = a := fun b o₁ e => by
  by_cases hb : b = a
  ·exact hb
  ·rw [Tab.set_ne _ _ hb] at e; exact absurd e (noLab b o₁)
 have noBrw : ∀ b o₁, (T.set a (some (.lab k, o))) b ≠ some (.brw k, o₁) := fun b o₁ e => by
  by_cases hb : b = a
  ·subst hb; rw [Tab.set_self] at e; cases e
  ·rw [Tab.set_ne _ _ hb] at e; exact hb (S.brwU k b a _ _ e ht)
 have F : FMono T (T.set a (some (.lab k, o))) := fun b o₁ e => fwd _ _ _ e (ne_idx rfl)
 have Lm : LMono T (T.set a (some (.lab k, o))) := fun b j o₁ e => by
  by_cases hb : b = a
  ·subst hb
   rcases e with e | e
   ·rw [ht] at e; cases e
   ·rw [ht] at e; cases e; exact ⟨o, .inl (Tab.set_self ..)⟩
  ·exact ⟨o₁, e.imp (fun e => by rwa [Tab.set_ne _ _ hb]) (fun e => by rwa [Tab.set_ne _ _ hb])⟩
 refine ⟨fun b o₁ e => F _ _ (S.base b o₁ e), S.loc.mono F Lm (fun _ e => fwd _ _ _ e (ne_idx rfl)) (fun _ _ e => fwd _ _ _ e (ne_idx rfl)), fun b o₁ e => S.locU b o₁ (back _ _ _ e (ne_idx rfl)), fun b o₁ e => S.celU b o₁ (back _ _ _ e (ne_idx rfl)),
  fun j aj e => ?_, fun j b d o₁ o₂ e e' => ?_, fun j b d o₁ o₂ e e' => S.dictU j b d _ _ (back _ _ _ e (ne_idx rfl)) (back _ _ _ e' (ne_idx rfl)),
  fun j b d o₁ o₂ e e' => S.brwU j b d _ _ (back _ _ _ e (ne_idx rfl)) (back _ _ _ e' (ne_idx rfl)), fun j b o₁ e => ?_, fun j b o₁ e => ?_, fun j hj => ?_, fun j b o₁ e => ?_⟩
 ·rw [look] at e
  split at e
  ·rename_i hj; obtain rfl := Option.some.inj e; subst hj; exact ⟨a, o, Tab.set_self .., vs, hL, hR.mono F⟩
  ·rename_i hj
   obtain ⟨b, o₁, x, y⟩ := S.led j aj e
   exact ⟨b, o₁, fwd _ _ _ x (ne_idx rfl), y.mono F Lm (fun _ _ e => fwd _ _ _ e (ne_idx rfl))⟩
 ·by_cases hj : j = k
  ·subst hj; rw [onlyL _ _ e, onlyL _ _ e']
  ·exact S.labU j b d _ _ (back _ _ _ e (own_ne hj)) (back _ _ _ e' (own_ne hj))
 ·rw [look]
  split
  ·exact ⟨_, rfl⟩
  ·rename_i hj; exact S.live j b o₁ (back _ _ _ e (own_ne hj))
 ·have hj : j ≠ k := fun h => by subst h; exact noBrw b o₁ e
  have := S.dead j b o₁ (back _ _ _ e (ne_idx rfl))
  rw [hl] at this
  rcases List.mem_cons.mp this with h | h
  ·exact absurd h hj
  ·exact h
 ·have hj' : j ≠ k := fun h => by subst h; exact hkl hj
  rw [look, if_neg hj']
  exact S.lentD j (by rw [hl]; exact List.mem_cons_of_mem _ hj)
 ·have e' := back _ _ _ e (ne_idx rfl)
  obtain ⟨c, ns, vs', q⟩ := S.dicL j b o₁ e'
  have hj : j ≠ k := fun h => by subst h; rw [hk] at q; cases q
  exact ⟨c, ns, vs', by rw [look, if_neg hj]; exact q⟩
end
theorem Tab.un {T : Tab} {a c : Addr} {w w' : Own} {o o' : Obj} (e : (T.set a (some (w, o))) c = some (w', o')) (h : w' ≠ w) : c ≠ a ∧ T c = some (w', o') := by
 by_cases hc : c = a
 ·rw [hc, Tab.set_self] at e; obtain ⟨rfl, rfl⟩ := Prod.mk.inj (Option.some.inj e); exact absurd rfl h
 ·rw [Tab.set_ne _ _ hc] at e; exact ⟨hc, e⟩
theorem Tab.up {T : Tab} {a c : Addr} {p q : Option (Own × Obj)} (e : T c = q) (h : c ≠ a) : (T.set a p) c = q := (Tab.set_ne _ _ h).trans e
theorem Tab.not {T : Tab} {a c : Addr} {w w' : Own} {o o' : Obj} (t : T a = some (w, o)) (e : T c = some (w', o')) (h : w' ≠ w) : c ≠ a := fun q => by
 rw [q] at e; cases t.symm.trans e; exact h rfl
theorem unlend_go {h₀ : Heap} {cx : Cx} {T T₂ : Tab} {σ σ₂ : St} {s s₂ : Shared} {ad : Addr} {o : Obj} {k : Nat} {ll : List FV} {vs : List Value} (S : StRel h₀ cx T σ) (t : T ad = some (.lab k, o)) (hl : σ.look k = some (.list ll)) (L : LObj o vs) (Rl : VRels T ll vs)
  (G₂ : Go h₀ cx (T.set ad (some (.brw k, o))) { σ with led := σ.led.filter fun p => p.1 != k, lent := k :: σ.lent } s T₂ σ₂ s₂) : ∃ T₃, Go h₀ cx T σ s T₃ { σ₂.put k (.list ll) with lent := σ.lent } s₂ ∧ ∀ p v, PRel T₂ p v → PRel T₃ p v := by
 have tb : T₂ ad = some (.brw k, o) := (G₂.nx.le.brw _ _ _).mp (Tab.set_self ..)
 have Fm : FMono T T₂ := fun c o' e => G₂.nx.le.froz _ _ (Tab.up e (Tab.not t e (ne_idx rfl)))
 have hkl : k ∉ σ.lent := fun h => by rw [S.lentD k h] at hl; exact no hl
 have F₃ : FMono T₂ (T₂.set ad (some (.lab k, o))) := fun c o' e => Tab.up e (Tab.not tb e (ne_idx rfl))
 have L₃ : LMono T₂ (T₂.set ad (some (.lab k, o))) := fun c j o' e => by
  by_cases hc : c = ad
  ·rw [hc, tb] at e
   rcases e with e | e
   ·cases e
   ·cases e; rw [hc]; exact ⟨o, .inl (Tab.set_self ..)⟩
  ·exact ⟨o', e.imp (fun e => Tab.up e hc) (fun e => Tab.up e hc)⟩
 refine ⟨T₂.set ad (some (.lab k, o)), ⟨G₂.same, in_put G₂.isIn (G₂.isIn _ _ _ tb), G₂.rel.unlend tb L (Rl.mono Fm) G₂.nx.lent hkl, ⟨⟨fun c o' e => F₃ _ _ (Fm _ _ e), fun c o' => ⟨fun e => ?_, fun e => ?_⟩, fun c j o' => ⟨fun e => ?_, fun e => ?_⟩⟩, ?_, rfl⟩⟩, fun p v hp => hp.mono F₃ L₃⟩
 ·have hc := Tab.not t e (ne_idx rfl)
  exact Tab.up ((G₂.nx.le.fr c o').mp (Tab.up e hc)) hc
 ·have h := Tab.un e (ne_idx rfl)
  exact (Tab.un ((G₂.nx.le.fr c o').mpr h.2) (ne_idx rfl)).2
 ·have hc := Tab.not t e (ne_idx rfl)
  exact Tab.up ((G₂.nx.le.brw c j o').mp (Tab.up e hc)) hc
 ·have h := Tab.un e (ne_idx rfl)
  have := (G₂.nx.le.brw c j o').mpr h.2
  rwa [Tab.set_ne _ _ h.1] at this
 ·obtain ⟨new, hn1, hn2⟩ := G₂.nx.keep
  refine ⟨new, hn1, fun j c o' hj e => ?_⟩
  by_cases hc : c = ad
  ·rw [hc] at e; cases t.symm.trans e; rw [hc]; exact ⟨o, Tab.set_self ..⟩
  ·exact (hn2 j c o' hj (Tab.up e hc)).elim fun o'' e' => ⟨o'', Tab.up e' hc⟩
section
variable {X : Wd} {cx : Cx} {env : Env} {Ev : Mine.Ev} {P : Prg} {pos : Pos}
theorem for_run (hz : FrzOk Ev) (R : EnvR env cx) {i : Nat} {x : Str} {co : Option Addr} {l : List PS} {body : List Stmt} {tp : Pos} (hx : cx.names[i]? = some (x, co)) (hb : SndS X cx Ev env l body) {Γ : Ctx} {A : Around} (G : Good X.cl X.m Γ A) {T : Tab} {s : Shared} {σ : St} (H : T.In s.heap) (S : StRel X.h₀ cx T σ)
  {y : FV} {xs : List FV} {va : Value} {r : Out × St} (hd : DRel T y va) (hs : ∀ a w o, va = .ref a → T a = some (w, o) → stays w) (hxs : itemsFV y = some xs) (e : forLoop Ev i l xs σ = some r) {Q : Flow → Shared → Prop} (h : ∀ fl s', Aft X.h₀ cx T σ s r.2 (fun T' fl => RFl T' r.1 fl) fl s' → Q fl s') :
  Wk X.prog X.w Γ (do runOwn (.forLoop (.Name x tp) (← holding [va] (pyIter va)) body [] env) env) Q s :=
 Wk.bind (Wk.holding (Wk.of_any G.isIn (iter_ok H hd hs hxs fun I h' fp Pi Sti hk hn It => Wk.runOwn fun p =>
  Cd.mono (for_ok hz R hx hb It.walk It.have_ (j := 0) (s := { s with heap := h' }) rfl e (G.enter rfl rfl rfl p) rfl ⟨fun a w o e => hk _ _ (H a w o e), hn, S, It.fps, It.item, It.st, Nat.zero_le _⟩) fun fl s₂ ha => h fl s₂ (ha.elim fun T₂ h => ⟨T₂, h.1.heap, h.2⟩))))
theorem forO_k {σ : St} {k : Nat} {f : List FV → Option (Out × St)} {z : Out × St} {G : Prop} (e : (match σ.look k with | some (.list l) => f l | _ => Option.none) = some z) (K : ∀ l, σ.look k = some (.list l) → f l = some z → G) : G := by
 generalize hl : σ.look k = o at e
 induction o with
 | none => exact no e
 | some ao => induction ao with
  | list l => exact K l hl e
  | _ => exact no e
theorem snd_for (hz : FrzOk Ev) (R : EnvR env cx) {i : Nat} {x : Str} {co : Option Addr} {a : PE} {l : List PS} {iter : Expr} {body : List Stmt} {tp : Pos} (hp : plainE iter = true) (hx : cx.names[i]? = some (x, co)) (ha : Snd X cx (Ev.e a) (eval iter env) PRel) (hb : SndS X cx Ev env l body) :
  Snd X cx (stepS Ev P (.forS i a l)) (exec (.For (.Name x tp) iter body [] pos) env) RFl :=
 .mk' fun {σ r} e {Γ A} G {T s} H S => bk e fun r1 ea e => by
  show Wk X.prog X.w Γ (do
   standAt pos
   let x' ← foldedSetIterable iter env (← eval iter env)
   standAt iter.pos
   runOwn (.forLoop (.Name x tp) (← holding [x'] (pyIter x')) body [] env) env) _ s
  refine Wk.bind (Wk.standAt (ha.bind ea G H S fun va s₁ T₁ G₁ pa => Wk.bind (Wk.of_eq (folded_plain hp env va) (Wk.pure (Wk.bind (Wk.standAt ?_))))))
  obtain ⟨ra, σ₁⟩ := r1
  induction ra with
  | f x₀ =>
   have pa : VRel T₁ x₀ va := pa
   exact bk e fun xs hxs e => for_run hz R hx hb G G₁.isIn G₁.rel pa.d (fun a w o h1 h2 => by rw [h1] at pa; obtain ⟨o', h3⟩ := frozen_ref pa; cases h3.symm.trans h2; trivial) hxs e fun fl s' h => h.elim fun T₂ h => ⟨T₂, G₁.trans h.1, h.2⟩
  | o k =>
   refine forO_k e fun ll hl e => bk e fun r2 ef e => got e ?_
   obtain ⟨ad, o, rfl, t, vs, L, Rl⟩ := lab_at G₁.rel pa hl
   refine for_run (y := .list ll) hz R hx hb G (in_put G₁.isIn (G₁.isIn _ _ _ t)) (G₁.rel.lend t hl) ⟨ad, _, o, vs, rfl, Tab.set_self .., L, Rl.mono fun c o' e => Tab.up e (Tab.not t e (ne_idx rfl))⟩ (fun c w o' h1 h2 => ?_) rfl ef fun fl s' h => ?_
   ·cases h1
    rw [Tab.set_self] at h2; obtain ⟨rfl, rfl⟩ := Prod.mk.inj (Option.some.inj h2); trivial
   ·obtain ⟨T₂, G₂, pr⟩ := h
    obtain ⟨T₃, G₃, up⟩ := unlend_go G₁.rel t hl L Rl G₂
    exact ⟨T₃, G₁.trans G₃, pr.up up⟩
end
section
variable {prog : Program} {w : World} {A : Around} {E : Value → Shared → Prop} {s : Shared}
theorem mapSeq_lobj {o : Obj} {vs us : List Value} {f : Array Value → Array Value} (L : LObj o vs) (hf : f ⟨vs⟩ = ⟨us⟩) : LObj (Obj.mapSeq f o) us ∧ (Obj.mapSeq f o).isFreed = false := by
 obtain ⟨n, rfl⟩ := L
 constructor
 ·refine ⟨if (f ⟨vs⟩).size == (⟨vs⟩ : Array Value).size then n else n + 1, ?_⟩
  show ({ cls := .type "list", dict := none, data := .seq (f ⟨vs⟩) (if (f ⟨vs⟩).size == (⟨vs⟩ : Array Value).size then n else n + 1), slots := #[] } : Obj) = _
  rw [hf]
 ·rfl
theorem turn_list {l : Addr} {o : Obj} {vs us : List Value} {f : Array Value → Array Value} (ho : s.heap.get? l = some o) (L : LObj o vs) (hf : f ⟨vs⟩ = ⟨us⟩) :
  ∃ o', (s.heap.update l (Obj.mapSeq f)).get? l = some o' ∧ LObj o' us ∧ Heap.SameBut l s.heap (s.heap.update l (Obj.mapSeq f)) :=
 ⟨_, Heap.get?_update_self _ ho (mapSeq_lobj L hf).2, (mapSeq_lobj L hf).1, Heap.SameBut.update ..⟩
theorem append_ok {l : Addr} {o : Obj} {vs : List Value} {x : Value} {Q : Value → Shared → Prop} (ho : s.heap.get? l = some o) (L : LObj o vs) (hz : vs.length ≤ 1000000)
  (h : ∀ h' o', h'.get? l = some o' → LObj o' (vs ++ [x]) → Heap.SameBut l s.heap h' → Q .none { s with heap := h' }) : wpAny (model prog w) A (call (.builtin "list.append") [.ref l, x]) Q E s := by
 obtain ⟨o', a, b, c⟩ := turn_list (f := fun y => y.push x) (us := vs ++ [x]) ho L (by simp)
 have ho' := ho
 obtain ⟨n, rfl⟩ := L
 exact call_meets slot_list_append ⟨_, ho, rfl⟩ entry_list_append (args_list_append _ _) (AutoListH.list_append_list_val_0 l ⟨vs⟩ n x (by show vs.length ≤ _; rw [sizeLine_eq]; exact O1)) ⟨ho', h _ o' a b c⟩
theorem reverse_ok {l : Addr} {o : Obj} {vs : List Value} {Q : Value → Shared → Prop} (ho : s.heap.get? l = some o) (L : LObj o vs) (hz : vs.length ≤ 1000000)
  (h : ∀ h' o', h'.get? l = some o' → LObj o' vs.reverse → Heap.SameBut l s.heap h' → Q .none { s with heap := h' }) : wpAny (model prog w) A (call (.builtin "list.reverse") [.ref l]) Q E s := by
 obtain ⟨o', a, b, c⟩ := turn_list (f := fun y => y.reverse) (us := vs.reverse) ho L (by simp)
 have ho' := ho
 obtain ⟨n, rfl⟩ := L
 exact call_meets F.slot_list_reverse ⟨_, ho, rfl⟩ F.entry_list_reverse (F.args_list_reverse_1 _) (AutoListH.list_reverse_list_0 l ⟨vs⟩ n (by show vs.length ≤ _; rw [sizeLine_eq]; exact O1)) ⟨ho', h _ o' a b c⟩
theorem setItem_ok {l : Addr} {o : Obj} {vs : List Value} {k : Int} {t : Tok} {v : Value} {Q : Unit → Shared → Prop} (ho : s.heap.get? l = some o) (L : LObj o vs) (h0 : 0 ≤ k) (hfit : k < 2 ^ 63) (hn : k < vs.length)
  (hQ : ∀ h' o', h'.get? l = some o' → LObj o' (vs.set k.toNat v) → Heap.SameBut l s.heap h' → Q () { s with heap := h' }) : wpAny (model prog w) A (setItem (.ref l) (.int k t) v) Q E s := by
 have hl : s.heap.IsList l ⟨vs⟩ := lobj_is ho L
 have hd : ∃ ne, o.data = .seq ⟨vs⟩ ne := by obtain ⟨n, rfl⟩ := L; exact ⟨n, rfl⟩
 obtain ⟨ne, hd⟩ := hd
 unfold setItem
 try with_reducible refine wpAny_holding ?_
 first | refine wpAny_bind (wpAny_pure ?_) | skip
 refine wpAny_bind (wpAny_sequenceKey hl.typeIs (by decide) ?_)
 refine wpAny_bind (wpAny_callSpecial?_slot (name := Str.ofString "__setitem__") hl.typeIs slot_list_setitem
  (wpAny_call_entry slot_list_setitem hl.typeIs entry_list_setitem ?_ (args_list_setitem _ _ _)))
 show wpAny _ _ (Builtin.List.listSubscript? (.int k t) >>= _) _ _ s
 refine wpAny_bind (wpAny_listSubscript_int (fitsIndex_of h0 hfit) ?_)
 clear hfit
 obtain ⟨j, rfl⟩ := Int.eq_ofNat_of_zero_le h0
 obtain ⟨o', a, b, c⟩ := turn_list (f := fun y => y.setIfInBounds j v) (us := vs.set j v) ho L (by simp)
 have hj : j < vs.length := by omega
 have hx' : (⟨vs⟩ : Array Value)[j]? = some (vs[j]) := by simp [hj]
 show wpAny _ _ ((seqItemAt l j >>= fun r => pure (r.map (j, ·))) >>= _) _ _ s
 refine wpAny_bind (wpAny_bind (wpAny_seqItemAt ho hd (wpAny_pure ?_)))
 rw [hx']
 show wpAny _ _ (setSeqItemAt l j v >>= _) _ _ s
 refine wpAny_bind (wpAny_setSeqItemAt ho hd ?_)
 first
  | exact wpAny_bind (wpAny_pure (wpAny_pure ⟨.none, rfl, wpAny_pure (hQ _ o' a b c)⟩))
  | exact wpAny_pure ⟨.none, rfl, wpAny_pure (hQ _ o' a b c)⟩
end
inductive Targets (cx : Cx) : List Nat → List Expr → Prop
 | nil : Targets cx [] []
 | cons {i is x co p es} : cx.names[i]? = some (x, co) → Targets cx is es → Targets cx (i :: is) (.Name x p :: es)
section
variable {X : Wd} {cx : Cx} {env : Env} {Ev : Mine.Ev} {P : Prg} {pos : Pos}
theorem Targets.stores {cx : Cx} {is : List Nat} {es : List Expr} (h : Targets cx is es) (env : Env) : (assignEach es env).length = is.length ∧ (assignEach es env).findIdx? (·.1) = none := by
 induction h with
 | nil => exact ⟨rfl, rfl⟩
 | @cons _ _ x _ p es _ _ ih =>
  rw [show assignEach (.Name x p :: es) env = (false, assign (.Name x p) env) :: assignEach es env from rfl]
  exact ⟨congrArg (· + 1) ih.1, by rw [List.findIdx?_cons, ih.2]; rfl⟩
theorem setAll_len {is : List Nat} : ∀ {l : List FV} {σ σ' : St}, setAll is l σ = some σ' → is.length = l.length := by
 induction is with
 | nil => intro l _ _ e; induction l using List.casesOn with
  | nil => rfl
  | cons => exact no e
 | cons i is ih => intro l _ _ e; induction l using List.casesOn with
  | nil => exact no e
  | cons y l => exact congrArg (· + 1) (ih (l := l) e)
theorem swapsSole_no {e : Expr} (h : noComp e = true) (t : Expr) (l : Nat) (env : Env) : swapsWithSole [t] e l env = pure false := swaps_no h (some t) l env
theorem targets_ok (R : EnvR env cx) {is : List Nat} {es : List Expr} (ht : Targets cx is es) : ∀ (l : List FV) (vs : List Value) (σ σ' : St), setAll is l σ = some σ' → ∀ (Γ : Ctx) (A : Around), Good X.cl X.m Γ A → ∀ (T : Tab) (s : Shared), T.In s.heap → StRel X.h₀ cx T σ → VRels T l vs →
  Wk X.prog X.w Γ (assignInOrder ((assignEach es env).map (·.2)) vs) (Aft X.h₀ cx T σ s σ' (fun _ _ => True)) s := by
 induction ht with
 | nil =>
  intro l vs σ σ' e Γ A G T s H S hv
  induction l using List.casesOn with
  | nil => obtain rfl := Option.some.inj e; exact Wk.pure ⟨T, .refl H S, trivial⟩
  | cons => exact no e
 | @cons i is x _ p es hx _ ih =>
  intro l vs σ σ' e Γ A G T s H S hv
  induction l using List.casesOn with
  | nil => exact no e
  | cons y l =>
   obtain ⟨v, r, rfl, a, b⟩ := hv
   show Wk X.prog X.w Γ (do holding r (do standAt p; bindName env x v); assignInOrder ((assignEach es env).map (·.2)) r) _ s
   exact Wk.bind (Wk.holding (Wk.bind (Wk.standAt (Wk.of_any G.isIn (st_var (pv := .f y) R H S hx a fun T₁ s₁ G₁ =>
    Wk.mono (ih l r _ _ e Γ A G T₁ s₁ G₁.isIn G₁.rel (b.mono G₁.nx.le.froz)) fun u s₂ h => h.elim fun T₂ h => ⟨T₂, G₁.trans h.1, trivial⟩)))))
theorem isTup_of {T : Tab} {s : Shared} (H : T.In s.heap) {l : List FV} {v : Value} (h : VRel T (.tup l) v) : ∃ a vs, v = .ref a ∧ s.heap.IsTuple a ⟨vs⟩ ∧ VRels T l vs := by
 obtain ⟨a, o, vs, rfl, t, L, R⟩ := h
 exact ⟨a, vs, rfl, tobj_is (H _ _ _ t) L, R⟩
theorem ext_in {T : Tab} {h h' : Heap} (H : T.In h) (he : Heap.ExtBut h.objs.size h h') : T.In h' := fun a w o e => he a o (Nat.ne_of_lt (Heap.lt_size (H _ _ _ e))) (H _ _ _ e)
noncomputable def notTuple (e : Expr) : Bool := !(e.ctorIdx == 25)
theorem swapped_no {es : List Expr} {k : Nat} {tp : Pos} {e : Expr} (h : notTuple e = true) (env : Env) : swappedStores [.Tuple es k tp] e env = pure none := by
 have hx : (pure none : Sem (Option (List Str))) = pure none := rfl
 induction e using Expr.casesOn <;> first | exact nob h | exact hx
theorem int2k {β : Type} {f : Int → Int → Option β} {o q : PV} {z : β} {G : Prop} (e : (match o, q with | .f (.int u), .f (.int y) => f u y | _, _ => Option.none) = some z) (k : ∀ u y, o = .f (.int u) → q = .f (.int y) → f u y = some z → G) : G := by
 induction o with
 | o _ => exact no e
 | f x => induction x using FV.casesOn with
  | int u => induction q with
   | o _ => exact no e
   | f y => induction y using FV.casesOn with
    | int y => exact k u y rfl rfl e
    | _ => exact no e
  | _ => exact no e
theorem tupk {β : Type} {f : List FV → Option β} {o : PV} {z : β} {G : Prop} (e : (match o with | .f (.tup l) => f l | _ => Option.none) = some z) (k : ∀ l, o = .f (.tup l) → f l = some z → G) : G := by
 induction o with
 | o _ => exact no e
 | f x => induction x using FV.casesOn with
  | tup l => exact k l rfl e
  | _ => exact no e
theorem asg_one {t e : Expr} {x : Option (List Str)} {Γ : Ctx} {A : Around} {T : Tab} {s : Shared} {σ : St} {r1 : PV × St} {Q : Flow → Shared → Prop} {f : St → Option (PV × St)} (hc : noComp e = true) (hsw : swappedStores [t] e env = pure x) (ha : Snd X cx f (eval e env) PRel)
  (ea : f σ = some r1) (G : Good X.cl X.m Γ A) (H : T.In s.heap) (S : StRel X.h₀ cx T σ) (k : ∀ va s₁ T₁, Go X.h₀ cx T σ s T₁ r1.2 s₁ → PRel T₁ r1.1 va → Wk X.prog X.w Γ (assignStores env va x ((assignEach [t] env).map (·.2))) Q s₁) :
  Wk X.prog X.w Γ (exec (.Assign [t] e pos) env) Q s := by
 show Wk X.prog X.w Γ (do
  standAt pos
  if ← swapsWithSole [t] e pos.line env then do
   evalThenUse e env fun v => assignAll v ((assignEach [t] env).map (·.2))
   pure .next
  else do
   let v ← eval e env
   assignStores env v (← swappedStores [t] e env) ((assignEach [t] env).map (·.2))) _ s
 exact Wk.bind (Wk.standAt (Wk.bind (Wk.of_eq (swapsSole_no hc _ _ _) (Wk.pure (ha.bind ea G H S fun va s₁ T₁ G₁ pa => Wk.bind (Wk.of_eq hsw (Wk.pure (k va s₁ T₁ G₁ pa))))))))
theorem snd_asgT (R : EnvR env cx) {is : List Nat} {a : PE} {es : List Expr} {k : Nat} {tp : Pos} {e : Expr} (ht : Targets cx is es) (hc : noComp e = true) (hsw : swappedStores [.Tuple es k tp] e env = pure none) (ha : Snd X cx (Ev.e a) (eval e env) PRel) :
  Snd X cx (stepS Ev P (.asgT is a)) (exec (.Assign [.Tuple es k tp] e pos) env) RFl :=
 .mk' fun {σ r} e' {Γ A} G {T s} H S => bk e' fun r1 ea e' => tupk e' fun l hl e' => mk e' fun σ₂ es' e' => gotEq e' (asg_one hc hsw ha ea G H S fun va s₁ T₁ G₁ pa => by
  rw [hl] at pa
  show Wk X.prog X.w Γ (do (do standAt tp; unpack va (assignEach es env)); pure Flow.next) _ s₁
  refine Wk.bind (Wk.bind (Wk.standAt ?_))
  obtain ⟨ad, vs, rfl, ti, Rl⟩ := isTup_of G₁.isIn pa
  have hst := ht.stores env
  unfold unpack
  rw [hst.2, show (assignEach es env).length = (⟨vs⟩ : Array Value).size from hst.1.trans ((setAll_len es').trans Rl.len.symm)]
  exact Wk.bind (Wk.holding (Wk.of_any G.isIn (wpAny_unpackItems_tuple G.handled ti fun h' he =>
   Wk.mono (targets_ok R ht l vs _ _ es' Γ A G T₁ { s₁ with heap := h' } (ext_in G₁.isIn he) G₁.rel Rl) fun u s₂ h => h.elim fun T₂ h => Wk.pure ⟨T₂, G₁.trans h.1.heap, rfl⟩))))
theorem St.set_comm (σ : St) {i j : Nat} (h : i ≠ j) (a b : PV) : (σ.set i a).set j b = (σ.set j b).set i a := by
 unfold St.set
 rw [List.set_comm _ _ h]
theorem snd_asgT2 (R : EnvR env cx) {i j : Nat} {a : PE} {x y : Str} {cx1 cy : Option Addr} {px py : Pos} {k : Nat} {tp : Pos} {e : Expr} (hx : cx.names[i]? = some (x, cx1)) (hy : cx.names[j]? = some (y, cy)) (hij : i ≠ j) (hc : noComp e = true)
  (hsw : swappedStores [.Tuple [.Name x px, .Name y py] k tp] e env = pure (some [x, y])) (ha : Snd X cx (Ev.e a) (eval e env) PRel) :
  Snd X cx (stepS Ev P (.asgT [i, j] a)) (exec (.Assign [.Tuple [.Name x px, .Name y py] k tp] e pos) env) RFl :=
 .mk' fun {σ r} e' {Γ A} G {T s} H S => bk e' fun r1 ea e' => tupk e' fun l hl e' => mk e' fun σ₂ es' e' => gotEq e' (asg_one hc hsw ha ea G H S fun va s₁ T₁ G₁ pa => by
  rw [hl] at pa
  show Wk X.prog X.w Γ (do
   rule "assign.swapped-stores"
   let items ← unpackItems va 2 none
   assignInOrder ([x, y].reverse.map fun n => bindName env n) items.reverse
   pure Flow.next) _ s₁
  refine Wk.bind (Wk.rule ?_)
  obtain ⟨ad, vs, rfl, ti, Rl⟩ := isTup_of G₁.isIn pa
  have hl2 := setAll_len es'
  induction l using List.casesOn with
  | nil => exact nomatch hl2
  | cons p l => induction l using List.casesOn with
   | nil => exact nomatch hl2
   | cons q l => induction l using List.casesOn with
    | cons _ _ => exact nomatch hl2
    | nil =>
     obtain ⟨v, r, rfl, hv, r', us, rfl, hu, hus⟩ := Rl
     have hus : us = [] := hus
     subst hus
     have es' : (σ₂ : St) = (r1.2.set j (.f q)).set i (.f p) := (Option.some.inj es').symm.trans (St.set_comm _ hij _ _)
     subst es'
     refine Wk.bind (Wk.of_any G.isIn (wpAny_unpackItems_tuple (items := ⟨[v, r']⟩) G.handled ti fun h' he => ?_))
     show Wk X.prog X.w Γ (do
      (do holding [v] (bindName env y r'); (do holding [] (bindName env x v); pure ()))
      pure Flow.next) _ _
     exact Wk.bind (Wk.bind (Wk.holding (Wk.of_any G.isIn (st_var (s := { s₁ with heap := h' }) (pv := .f q) R (ext_in G₁.isIn he) G₁.rel hy hu fun T₂ s₂ G₂ =>
      Wk.bind (Wk.holding (Wk.of_any G.isIn (st_var (pv := .f p) R G₂.isIn G₂.rel hx (VRel.mono G₂.nx.le.froz hv) fun T₃ s₃ G₃ => Wk.pure (Wk.pure ⟨T₃, G₁.trans (G₂.trans G₃).heap, rfl⟩)))))))))
theorem itemk {v q j : PV} {σ : St} {z : Out × St} {st : St} {G : Prop} (e : (match v, q, j with
   | .f v, .o k, .f (.int j) => if held st σ (.o k) then (match σ.look k with
     | some (.list l) => if 0 ≤ j && j < l.length && decide (l.length ≤ 1000000) then some (Out.next, σ.put k (.list (l.set j.toNat v))) else Option.none
     | _ => Option.none) else Option.none
   | _, _, _ => Option.none) = some z) (K : ∀ v' k j' l, v = .f v' → q = .o k → j = .f (.int j') → held st σ (.o k) = true → σ.look k = some (.list l) → (0 ≤ j' && j' < l.length && decide (l.length ≤ 1000000)) = true → (Out.next, σ.put k (.list (l.set j'.toNat v'))) = z → G) : G := by
 induction v with
 | o _ => exact no e
 | f v => induction q with
  | f _ => exact no e
  | o k => induction j with
   | o _ => exact no e
   | f j => induction j using FV.casesOn with
    | int j =>
      refine ik e fun hh e => ?_
      generalize hl : σ.look k = o at e
      induction o with
      | none => exact no e
      | some ao => induction ao with
       | list l => exact ik e fun hb e => K v k j l rfl rfl rfl hh hl hb (Option.some.inj e)
       | _ => exact no e
    | _ => exact no e
theorem lt63 {j : Int} {n : Nat} (h : j < n) (h' : n ≤ 1000000) : j < 2 ^ 63 := Int.lt_of_lt_of_le h (Int.le_trans (Int.ofNat_le.mpr h') (by decide))
theorem snd_asgI {a i e : PE} {oe ie ve : Expr} {sp : Pos} (hns : notSlice ie = true) (hc : noComp ve = true) (he : Snd X cx (Ev.e e) (eval ve env) PRel) (ha : Snd X cx (Ev.e a) (eval oe env) PRel) (hi : Snd X cx (Ev.e i) (eval ie env) PRel) :
  Snd X cx (stepS Ev P (.asgI a i e)) (exec (.Assign [.Subscript oe ie sp] ve pos) env) RFl :=
 .mk' fun {σ r} e' {Γ A} G {T s} H S => bk e' fun r1 ev e' => bk e' fun r2 eo e' => bk e' fun r3 ei e' => itemk e' fun v k j l h1 h2 h3 hh hl hb e' => gotEq e' (asg_one (x := none) hc rfl he ev G H S fun vv s₁ T₁ G₁ pv => by
  rw [h1] at pv
  show Wk X.prog X.w Γ (do
   (do
    let ov ← holding [vv] (eval oe env)
    let iv ← holding [vv, ov] (eval ie env)
    standAt sp
    holding [vv, ov, iv] (setItem ov iv vv)
    release (match (generalizing := false) ie with | .Slice _ _ none _ => [iv, vv, ov] | _ => [vv, ov, iv]) [])
   pure Flow.next) _ s₁
  refine Wk.bind (ha.bindH eo G G₁.isIn G₁.rel fun vo s₂ T₂ G₂ po => hi.bindH ei G G₂.isIn G₂.rel fun vi s₃ T₃ G₃ pi => Wk.bind (Wk.standAt ?_))
  rw [h3] at pi
  rw [h2] at po
  obtain ⟨t, rfl⟩ := pi
  obtain ⟨ad, o, rfl, ta, vs, L, Rl⟩ := lab_at G₃.rel (G₃.nx.held po hh) hl
  refine andk hb fun hb hz => andk hb fun hb hn => ?_
  refine Wk.bind (Wk.holding (Wk.of_any G.isIn (setItem_ok (G₃.isIn _ _ _ ta) L (of_decide_eq_true hb) (lt63 (of_decide_eq_true hn) (of_decide_eq_true hz)) (by rw [Rl.len]; exact of_decide_eq_true hn) fun h' o' ho' L' sb => ?_)))
  have Fm : FMono T₃ (T₃.set ad (some (.lab k, o'))) := fun c oc e => by rw [Tab.set_ne _ _ fun h => by subst h; rw [ta] at e; exact nomatch e]; exact e
  have D := G₃.rel.turn (o' := o') (ao' := .list (l.set j.toNat v)) ta hl (fun _ _ _ x => nomatch x) ⟨_, L', (Rl.set (VRel.mono (G₂.trans G₃).nx.le.froz pv) _).mono Fm⟩ (fun _ _ _ x => nomatch x)
  exact Wk.of_any G.isIn (wpAny_release' (Wk.pure ⟨_, ((G₁.trans G₂).trans G₃).trans ⟨⟨s₃.toks, rfl⟩, G₃.isIn.set ho' fun b ob hb e => (sb.2 b hb).trans e, D.1, D.2⟩, rfl⟩)))
end
section
variable {X : Wd} {cx : Cx} {env : Env} {Ev : Mine.Ev} {P : Prg} {pos : Pos}
set_option maxHeartbeats 4000000 in
theorem snd_aug (R : EnvR env cx) {i : Nat} {x : Str} {co : Option Addr} {op : Operator} {a : PE} {e : Expr} {np : Pos} (hx : cx.names[i]? = some (x, co)) (ha : Snd X cx (Ev.e a) (eval e env) PRel) :
  Snd X cx (stepS Ev P (.aug i op a)) (exec (.AugAssign (.Name x np) op e pos) env) RFl :=
 .mk' fun {σ r} e' {Γ A} G {T s} H S => bk e' fun o ho e' => bk e' fun r1 ea e' => int2k (f := fun x y => (augFV op x y).map fun z => (Out.next, r1.2.set i (.f (.int z)))) e' fun u v h1 h2 e' => mk e' fun z hz e' => gotEq e' (by
  subst h1
  rw [exec_AugAssign_Name]
  refine Wk.bind (Wk.standAt (Wk.bind (Wk.of_any G.isIn (ld_var R H S hx (Option.join_eq_some_iff.mp ho) fun vo hvo => ?_))))
  obtain ⟨t, rfl⟩ := hvo
  refine ha.bindH ea G H S fun va s₁ T₁ G₁ pva => Wk.bind (Wk.standAt ?_)
  rw [h2] at pva
  obtain ⟨t', rfl⟩ := pva
  exact Wk.bind (Wk.of_any G.isIn (wpAny_operate' (augOp (T := T₁) hz fun r k hr =>
   have G₂ := G₁.trans (.toks G₁.isIn G₁.rel k)
   Wk.bind (Wk.standAt (Wk.bind (Wk.of_any G.isIn (st_var (pv := .f (.int z)) R G₂.isIn G₂.rel hx hr fun T' s' G' => Wk.pure ⟨T', G₂.trans G', rfl⟩))))))))
end
structure ClsK (K : Frag) (C : Addr) : Prop where
 get : plainGet K C "" = true
 dict : hasDictIn K C = true
 set : findIn K (.ref C) "__setattr__" = some (some (.builtin "object.__setattr__"))
 over : plainOver K C = true
noncomputable def AttrK (K : Frag) (C : Addr) (x : Str) : Prop := findIn K (.ref C) x = some none
theorem getL_cons {x n : Str} {t : Tok} {en : DictEntry} (es : List DictEntry) (hk : en.key = .str n t) : getL x (en :: es) = if (n == x) = true then some (some en.val) else getL x es := by
 have hs : en.key.isStr x = (n == x) := by rw [hk]; rfl
 have hr : en.refKey = false := by rw [DictEntry.refKey, hk]
 unfold getL
 rw [List.find?_cons, hs, List.any_cons, hr]
 cases n == x <;> rfl
theorem fieldGet_of {T : Tab} {x : Str} {vs : List PV} : ∀ {ns : List Str} {es : List DictEntry} {pv : PV}, PERels T vs ns es → fieldGet x ns vs = some pv → ∃ v, getL x es = some (some v) ∧ PRel T pv v := by
 induction vs with
 | nil =>
  intro _ _ _ h e
  rw [h.1] at e
  exact no e
 | cons p vs ih =>
  intro _ _ _ h e
  obtain ⟨n, ns', en, es', rfl, rfl, ⟨t, hk⟩, a, b⟩ := h
  have e : (if (n == x) = true then some p else fieldGet x ns' vs) = some _ := e
  rw [getL_cons es' hk]
  by_cases q : (n == x) = true
  ·rw [if_pos q] at e ⊢; exact ⟨_, rfl, Option.some.inj e ▸ a⟩
  ·rw [if_neg q] at e ⊢; exact ih b e
theorem getL_some {T : Tab} {x : Str} {vs : List PV} : ∀ {ns : List Str} {es : List DictEntry}, PERels T vs ns es → (getL x es).isSome = true := by
 induction vs with
 | nil => exact fun h => by rw [h.2]; rfl
 | cons p vs ih =>
  intro _ _ h
  obtain ⟨n, ns', en, es', rfl, rfl, ⟨t, hk⟩, a, b⟩ := h
  rw [getL_cons es' hk]
  by_cases q : (n == x) = true
  ·rw [if_pos q]; rfl
  ·rw [if_neg q]; exact ih b
theorem erels_pe {T : Tab} {vs : List FV} : ∀ {ns : List Str} {es : List DictEntry}, ERels T vs ns es → PERels T (vs.map .f) ns es := by
 induction vs with
 | nil => exact id
 | cons p vs ih =>
  intro _ _ h
  obtain ⟨n, ns', e, es', x, y, z, a, b⟩ := h
  exact ⟨n, ns', e, es', x, y, z, a, ih b⟩
theorem fieldPut_cons (x n : Str) (v u : PV) (ns : List Str) (us : List PV) : fieldPut x v (n :: ns) (u :: us) = if n == x then (n :: ns, v :: us) else ((n :: (fieldPut x v ns us).1), (u :: (fieldPut x v ns us).2)) := rfl
theorem fieldPut_of {T : Tab} {x : Str} {pv : PV} {v : Value} {hsh : Int} {t : Tok} (hv : PRel T pv v) {vs : List PV} : ∀ {ns : List Str} {es : List DictEntry}, PERels T vs ns es → PERels T (fieldPut x pv ns vs).2 (fieldPut x pv ns vs).1 (PySem.W.putL x hsh (.str x t) v es) := by
 induction vs with
 | nil =>
  intro ns es h
  rw [h.1, h.2]
  exact ⟨x, [], _, [], rfl, rfl, ⟨t, rfl⟩, hv, rfl, rfl⟩
 | cons p vs ih =>
  intro _ _ h
  obtain ⟨n, ns', en, es', rfl, rfl, ⟨t', hk⟩, a, b⟩ := h
  have hs : en.key.isStr x = (n == x) := by rw [hk]; rfl
  unfold PySem.W.putL
  rw [fieldPut_cons, hs]
  cases n == x with
  | true => exact ⟨n, ns', _, es', rfl, rfl, ⟨t', hk⟩, hv, b⟩
  | false => exact ⟨n, _, en, _, rfl, rfl, ⟨t', hk⟩, a, ih b⟩
theorem fieldPut_mem {x y : Str} {pv : PV} {ns : List Str} : ∀ {vs : List PV}, ns.length = vs.length → y ∈ (fieldPut x pv ns vs).1 → y ∈ ns ∨ y = x := by
 induction ns with
 | nil => exact fun _ h => .inr (List.mem_singleton.mp h)
 | cons n ns ih =>
  intro vs hl h
  induction vs using List.casesOn with
  | nil => exact nomatch hl
  | cons v vs =>
   rw [fieldPut_cons] at h
   by_cases q : (n == x) = true
   ·rw [if_pos q] at h; exact .inl h
   ·rw [if_neg q] at h
    refine (List.mem_cons.mp h).elim (fun e => .inl (e ▸ .head _)) fun h => (ih (Nat.succ.inj hl) h).imp (.tail _) id
theorem fieldPut_nodup {x : Str} {pv : PV} {ns : List Str} : ∀ {vs : List PV}, ns.length = vs.length → ns.Nodup → (fieldPut x pv ns vs).1.Nodup := by
 induction ns with
 | nil => exact fun _ _ => List.nodup_cons.mpr ⟨nofun, .nil⟩
 | cons n ns ih =>
  intro vs hl hn
  induction vs using List.casesOn with
  | nil => exact nomatch hl
  | cons v vs =>
   rw [fieldPut_cons]
   by_cases q : (n == x) = true
   ·rw [if_pos q]; exact hn
   ·rw [if_neg q]
    have hn := List.nodup_cons.mp hn
    exact List.nodup_cons.mpr ⟨fun hm => (fieldPut_mem (Nat.succ.inj hl) hm).elim hn.1 fun e => q (beq_iff_eq.mpr e), ih (Nat.succ.inj hl) hn.2⟩
theorem PERels.lens {T : Tab} {vs : List PV} : ∀ {ns : List Str} {es : List DictEntry}, PERels T vs ns es → ns.length = vs.length ∧ es.length = vs.length := by
 induction vs with
 | nil => exact fun h => by rw [h.1, h.2]; exact ⟨rfl, rfl⟩
 | cons p vs ih =>
  intro _ _ h
  obtain ⟨n, ns', e, es', x, y, _, _, b⟩ := h
  rw [x, y]
  exact ⟨congrArg Nat.succ (ih b).1, congrArg Nat.succ (ih b).2⟩
theorem putL_len (x : Str) (hsh : Int) (k v : Value) (es : List DictEntry) : (PySem.W.putL x hsh k v es).length ≤ es.length + 1 := by
 induction es with
 | nil => exact Nat.le_refl _
 | cons e es ih =>
  unfold PySem.W.putL
  by_cases q : e.key.isStr x = true
  ·rw [if_pos q]; exact Nat.le_succ _
  ·rw [if_neg q]; exact Nat.succ_le_succ ih
section
variable {prog : Program} {w : World} {A : Around} {E : Value → Shared → Prop} {s : Shared} {K : Frag} {C : Addr}
theorem instAt {a dx : Addr} {es : List DictEntry} {n : Nat} {h : Heap} (ha : h.get? a = some (instObj C dx)) (hd : h.get? dx = some (dictOf es n)) : InstAt h a (instObj C dx) C (some (dictOf es n)) := ⟨ha, rfl, rfl, hd⟩
theorem get_ok {T : Tab} {x : Str} (X : K.In s.heap) (k : ClsK K C) (ka : AttrK K C x) {a dx : Addr} {es : List DictEntry} {n : Nat} {vs : List PV} {ns : List Str} {pv : PV} {expr : Bool} {Q : Value → Shared → Prop} (ha : s.heap.get? a = some (instObj C dx)) (hd : s.heap.get? dx = some (dictOf es n))
  (R : PERels T vs ns es) (e : fieldGet x ns vs = some pv) (h : ∀ v k, PRel T pv v → Q v { s with toks := k }) : wpAny (model prog w) A (getAttr (.ref a) x expr) Q E s := by
 obtain ⟨v, h1, h2⟩ := fieldGet_of R e
 refine get_value X (instAt ha hd) (plainGet_of k.get).1 (findObj_own k.dict ka rfl h1) ?_ (h v _ h2)
 induction pv with
 | f y =>
  induction y using FV.casesOn with
  | none => rw [show v = .none from h2]; rfl
  | bool b => rw [show v = .bool b from h2]; rfl
  | int i => obtain ⟨t, rfl⟩ := h2; rfl
  | str i => obtain ⟨t, rfl⟩ := h2; rfl
  | bytes i => obtain ⟨t, rfl⟩ := h2; rfl
  | barr b => obtain ⟨a, o, rfl, _⟩ := h2; rfl
  | tup l => obtain ⟨a, o, vs, rfl, _⟩ := h2; rfl
  | list l => obtain ⟨a, o, vs, rfl, _⟩ := h2; rfl
  | rng a b c => obtain ⟨a, o, rfl, _⟩ := h2; rfl
  | inst c ns vs => obtain ⟨a, o, dx, es, n, rfl, _⟩ := h2; rfl
 | o j => obtain ⟨a, o, rfl, _⟩ := h2; rfl
theorem store_own {a dx : Addr} {x : Str} {tk : Tok} {es : List DictEntry} {n : Nat} {v : Value} {b : Bool} {Q : PySem.Fin → Shared → Prop} (X : K.In s.heap) (hd' : hasDictIn K C = true) (ha : s.heap.get? a = some (instObj C dx)) (hd : s.heap.get? dx = some (dictOf es n))
  (hl : (getL x es).isSome = true) (hz : es.length ≤ 1000)
  (h : ∀ h' hsh t n', h'.get? dx = some (dictOf (PySem.W.putL x hsh (.str x t) v es) n') → Heap.SameBut dx s.heap h' → Q (.done (.ret .none)) { s with heap := h', toks := s.toks + 1 }) :
  wpAny (model prog w) A (Builtin.ObjectAttr.storeInOwnDict (.ref a) (.ref C) (.str x tk) x v b) Q E s := by
 obtain ⟨cd, hc, hdd⟩ := any_some hd'
 have hput := putName_dict x (PyData.keyHash w.params x) (.str x s.toks) v es n
 have D' : (s.heap.update dx (Obj.putName x (PyData.keyHash w.params x) (.str x s.toks) v)).get? dx = some (dictOf (PySem.W.putL x (PyData.keyHash w.params x) (.str x s.toks) v es) (putN x es n)) := by
  rw [Heap.get?_update_self _ hd (by rw [hput]; rfl), hput]
 have fin := h _ _ _ _ D' (Heap.SameBut.update ..)
 refine wpAny_bind (wpAny_pure (wpAny_bind (wpAny_bind (wpAny_loadPart ha (wpAny_bind ((looks_clsIn X hc).here ?_))))))
 rw [hdd]
 refine wpAny_pure (a := some dx) (wpAny_bind (wpAny_pure (wpAny_bind ?_)))
 unfold nsSet
 refine wpAny_bind (wpAny_bind (wpAny_askSetting (wpAny_pure (wpAny_bind (wpAny_mkText (wpAny_bind (wpAny_loadPart hd ?_)))))))
 show wpAny _ _ _ _ _ _
 have c : (!es.toArray.any (·.key.isStr x) && es.toArray.any (·.refKey)) = false := by
  rw [← Array.any_toList, ← Array.any_toList]
  unfold getL at hl
  cases q : es.find? (·.key.isStr x) with
  | some en => rw [show es.toArray.toList = es from rfl, List.any_eq_true.mpr ⟨en, List.mem_of_find?_eq_some q, List.find?_some q⟩]; rfl
  | none =>
   rw [q] at hl
   by_cases z : es.any (·.refKey) = true
   ·have hl : (if es.any (·.refKey) = true then none else some none : Option (Option Value)).isSome = true := hl
    rw [if_pos z] at hl; exact nob hl
   ·rw [show es.toArray.toList = es from rfl, Bool.eq_false_iff.mpr z, Bool.and_false]
 dsimp only [dictOf]
 rw [aRefKeyMayBeTheName_at, c]
 refine wpAny_updatePart hd ?_
 refine wpAny_bind (wpAny_lookBehind D' (pastItsLine_dict (Nat.le_succ_of_le (fit_line (Nat.le_trans (putL_len x (PyData.keyHash w.params x) (.str x s.toks) v es) (Nat.le_trans (Nat.succ_le_succ hz) (by decide)))))) ?_)
 exact wpAny_pure fin
theorem set_ok {x : Str} (X : K.In s.heap) (k : ClsK K C) (ka : AttrK K C x) {a dx : Addr} {es : List DictEntry} {n : Nat} {v : Value} {Q : Unit → Shared → Prop} (ha : s.heap.get? a = some (instObj C dx)) (hd : s.heap.get? dx = some (dictOf es n))
  (hl : (getL x es).isSome = true) (hz : es.length ≤ 1000)
  (h : ∀ h' tk hsh t n', h'.get? dx = some (dictOf (PySem.W.putL x hsh (.str x t) v es) n') → Heap.SameBut dx s.heap h' → Q () { s with heap := h', toks := tk }) : wpAny (model prog w) A (setAttr (.ref a) x v) Q E s := by
 have I := instAt ha hd
 refine set_plain X I k.set ?_
 have ht : takerIn K C x = some none := by unfold takerIn; rw [ka]; rfl
 refine osa_open (s := { s with toks := s.toks + 1 }) X I k.over ht fun b => ?_
 exact store_own (s := { s with toks := s.toks + 1 }) X k.dict ha hd hl hz fun h' hsh t n' h1 h2 => h h' _ hsh t n' h1 h2
end
noncomputable def notCall (e : Expr) : Bool := !(e.ctorIdx == 16)
theorem attributeBase_plain {o : Expr} (h : notCall o = true) (attr : Str) (env : Env) (whole : Sem Value) : attributeBase o attr env whole = whole := by
 have hx : whole = whole := rfl
 induction o using Expr.casesOn <;> first | exact nob h | exact hx
structure InstAt (T : Tab) (σ : St) (h : Heap) (pv : PV) (v : Value) (c : Addr) (a dx : Addr) (es : List DictEntry) (n : Nat) (vs : List PV) (ns : List Str) : Prop where
 ref : v = .ref a
 obj : h.get? a = some (instObj c dx)
 dict : h.get? dx = some (dictOf es n)
 rel : PERels T vs ns es
 get : ∀ x, attrGet σ x pv = fieldGet x ns vs
 free : ∀ x, freeOf x σ pv = !ns.contains x
theorem look_inst {σ : St} {k : Nat} {c : Addr} {G : Prop} (hc : clsOf σ (.o k) = some c) (K : ∀ ns fs, σ.look k = some (.inst c ns fs) → G) : G := by
 dsimp only [clsOf] at hc
 generalize hl : σ.look k = o at hc
 induction o with
 | none => exact no hc
 | some ao => induction ao with
  | inst c' ns fs => obtain rfl := Option.some.inj hc; exact K ns fs hl
  | _ => exact no hc
theorem inst_at {h₀ : Heap} {cx : Cx} {T : Tab} {σ : St} {h : Heap} (H : T.In h) (S : StRel h₀ cx T σ) {pv : PV} {v : Value} {c : Addr} (p : PRel T pv v) (hc : clsOf σ pv = some c) {G : Prop} (K : ∀ a dx es n vs ns, InstAt T σ h pv v c a dx es n vs ns → G) : G := by
 induction pv with
 | f y =>
  induction y using FV.casesOn with
  | inst c' ns fs =>
   obtain rfl := Option.some.inj hc
   obtain ⟨a, _, dx, es, n, r, ta, rfl, td, R⟩ := p
   exact K a dx es n _ ns ⟨r, H _ _ _ ta, H _ _ _ td, erels_pe R, fun x => rfl, fun x => rfl⟩
  | _ => exact no hc
 | o k =>
   refine look_inst hc fun ns fs hl => ?_
   obtain ⟨a, _, r, t, dx, es, n, rfl, td, R, nd⟩ := lab_at S p hl
   exact K a dx es n fs ns ⟨r, H _ _ _ t, H _ _ _ td, R, fun x => by dsimp only [attrGet]; rw [hl], fun x => by dsimp only [freeOf]; rw [hl]⟩
structure Clss (K : Frag) (h₀ : Heap) (P : Prg) (faddr : Nat → Addr) : Prop where
 isIn : K.In h₀
 attr : ∀ c x, P.hasAttr c x = true → ClsK K c ∧ AttrK K c x
 meth : ∀ c f, P.methOf c f = true → ClsK K c ∧ findIn K (.ref c) (P.mname f) = some (some (.ref (faddr f))) ∧ typeIn K (.ref (faddr f)) = some (.type "function")
section
variable {X : Wd} {cx : Cx} {env : Env} {Ev : Mine.Ev} {P : Prg} {pos : Pos} {K : Frag} {faddr : Nat → Addr}
theorem attrOk_of {x : Str} {σ : St} {pv : PV} {G : Prop} (h : attrOk P x σ pv = true) (K : ∀ c, clsOf σ pv = some c → P.hasAttr c x = true → G) : G := by
 unfold attrOk at h
 cases hc : clsOf σ pv with
 | none => rw [hc] at h; exact absurd h Bool.false_ne_true
 | some c => rw [hc] at h; exact K c hc h
theorem K_in (CK : Clss K X.h₀ P faddr) {T : Tab} {σ : St} {s : Shared} (H : T.In s.heap) (S : StRel X.h₀ cx T σ) : K.In s.heap := CK.isIn.keeps fun b o e => base_at H S e
theorem attr_get (CK : Clss K X.h₀ P faddr) {A : Around} {E : Value → Shared → Prop} {T : Tab} {σ : St} {s : Shared} (H : T.In s.heap) (S : StRel X.h₀ cx T σ) {pv rv : PV} {v : Value} {x : Str} {ex : Bool} (p : PRel T pv v) (hk : attrOk P x σ pv = true) (e : attrGet σ x pv = some rv) {Q : Value → Shared → Prop}
  (h : ∀ u k, PRel T rv u → Q u { s with toks := k }) : wpAny (model X.prog X.w) A (getAttr v x ex) Q E s := by
 refine attrOk_of hk fun c hc hx => inst_at H S p hc fun a dx es n vs ns I => ?_
 rw [I.ref]
 exact get_ok (K_in CK H S) (CK.attr c x hx).1 (CK.attr c x hx).2 I.obj I.dict I.rel ((I.get x).symm.trans e) h
theorem attrPut_k {σ σ' : St} {x : Str} {v pv : PV} {G : Prop} (e : attrPut σ x v pv = some σ') (K : ∀ j c ns fs, pv = .o j → σ.look j = some (.inst c ns fs) → ns.length ≤ 100 → σ.put j (.inst c (fieldPut x v ns fs).1 (fieldPut x v ns fs).2) = σ' → G) : G := by
 induction pv with
 | f y => exact no e
 | o j =>
  dsimp only [attrPut] at e
  generalize hl : σ.look j = o at e
  induction o with
  | none => exact no e
  | some ao => induction ao with
   | inst c ns fs => exact ik e fun hz e => K j c ns fs rfl hl hz (Option.some.inj e)
   | _ => exact no e
theorem attr_set (CK : Clss K X.h₀ P faddr) {A : Around} {E : Value → Shared → Prop} {T : Tab} {σ σ' : St} {s : Shared} (H : T.In s.heap) (S : StRel X.h₀ cx T σ) {pv rv : PV} {v u : Value} {x : Str} (p : PRel T pv v) (pu : PRel T rv u) (hk : attrOk P x σ pv = true) (e : attrPut σ x rv pv = some σ') {Q : Unit → Shared → Prop}
  (h : ∀ T' s', Go X.h₀ cx T σ s T' σ' s' → Q () s') : wpAny (model X.prog X.w) A (setAttr v x u) Q E s := by
 refine attrPut_k e fun k c ns fs hv hl hz he => attrOk_of hk fun c' hc hx => ?_
 subst hv he
 refine look_inst hc fun ns' fs' hl' => ?_
 cases hl.symm.trans hl'
 obtain ⟨a, _, rfl, t, dx, es, n, rfl, td, R, nd⟩ := lab_at S p hl
 refine set_ok (K_in CK H S) (CK.attr c x hx).1 (CK.attr c x hx).2 (H _ _ _ t) (H _ _ _ td) (getL_some R) (Nat.le_trans (Nat.le_of_eq (R.lens.2.trans R.lens.1.symm)) (Nat.le_trans hz (by decide))) fun h' tk hsh t' n' hd' sb => ?_
 obtain ⟨S', N⟩ := S.turnDict (n' := n') hl t td (fieldPut_of (hsh := hsh) (t := t') pu R) (fieldPut_nodup R.lens.1 nd)
 exact h _ _ ⟨⟨tk, rfl⟩, H.set hd' fun b ob hb e => (sb.2 b hb).trans e, S', N⟩
theorem snd_attr (CK : Clss K X.h₀ P faddr) {a : PE} {x : Str} {value : Expr} (hn : notCall value = true) (ha : Snd X cx (Ev.e a) (eval value env) PRel) : Snd X cx (stepE Ev P (.attr a x)) (eval (.Attribute value x pos) env) PRel :=
 .mk' fun {σ r} e {Γ A} G {T s} H S => bk e fun r1 ea e => ik e fun hk e => mk e fun rv hr e => gotEq e (by
  show Wk X.prog X.w Γ (do
   let o ← attributeBase value x env (eval value env)
   standAt pos.atName
   let r ← holding [o] (getAttr o x true)
   letTemporaryGo value o r
   pure r) _ s
  rw [attributeBase_plain hn]
  exact ha.bind ea G H S fun va s₁ T₁ G₁ pa => Wk.bind (Wk.standAt (Wk.bind (Wk.holding (Wk.of_any G.isIn (attr_get CK G₁.isIn G₁.rel pa hk hr fun u k pu =>
   Wk.bind (Wk.of_any G.isIn (wpAny_letTemporaryGo (Wk.pure ⟨T₁, G₁.trans (.toks G₁.isIn G₁.rel k), pu⟩)))))))))
theorem snd_asgA (CK : Clss K X.h₀ P faddr) {a e : PE} {x : Str} {oe ve : Expr} {tp : Pos} (hc : noComp ve = true) (he : Snd X cx (Ev.e e) (eval ve env) PRel) (ha : Snd X cx (Ev.e a) (eval oe env) PRel) :
  Snd X cx (stepS Ev P (.asgA a x e)) (exec (.Assign [.Attribute oe x tp] ve pos) env) RFl :=
 .mk' fun {σ r} e {Γ A} G {T s} H S => bk e fun r1 ev e => bk e fun r2 eo e => ik e fun hh e => mk e fun σ₃ hp e => andk hh fun hh1 hh2 => gotEq e (by
  show Wk X.prog X.w Γ (do
   standAt pos
   if ← swapsWithSole [.Attribute oe x tp] ve pos.line env then do
    evalThenUse ve env fun v => assignAll v ((assignEach [.Attribute oe x tp] env).map (·.2))
    pure .next
   else do
    let v ← eval ve env
    assignStores env v (← swappedStores [.Attribute oe x tp] ve env) ((assignEach [.Attribute oe x tp] env).map (·.2))) _ s
  refine Wk.bind (Wk.standAt (Wk.bind (Wk.of_eq (swapsSole_no hc _ _ _) (Wk.pure (he.bind ev G H S fun vv s₁ T₁ G₁ pv => Wk.bind (Wk.pure (a := none) ?_))))))
  show Wk X.prog X.w Γ (do
   (do
    let ov ← holding [vv] (eval oe env)
    standAt tp.atName
    holding [vv, ov] (setAttr ov x vv)
    release [vv, ov] [])
   pure Flow.next) _ s₁
  exact Wk.bind (ha.bindH eo G G₁.isIn G₁.rel fun vo s₂ T₂ G₂ po => Wk.bind (Wk.standAt (Wk.bind (Wk.holding (Wk.of_any G.isIn (attr_set CK G₂.isIn G₂.rel po (G₂.nx.held pv hh1) hh2 hp fun T' s' G' =>
   Wk.of_any G.isIn (wpAny_release' (Wk.pure ⟨T', (G₁.trans G₂).trans G', rfl⟩)))))))))
theorem snd_augA (CK : Clss K X.h₀ P faddr) {a e : PE} {x : Str} {op : Operator} {oe ve : Expr} {tp : Pos} (he : Snd X cx (Ev.e e) (eval ve env) PRel) (ha : Snd X cx (Ev.e a) (eval oe env) PRel) :
  Snd X cx (stepS Ev P (.augA a x op e)) (exec (.AugAssign (.Attribute oe x tp) op ve pos) env) RFl :=
 .mk' fun {σ r} e {Γ A} G {T s} H S => bk e fun r1 eo e => ik e fun hk e => bk e fun old hold e => bk e fun r2 ev e => int2k e fun u v ho hv e => ik e fun hh e => bk e fun z hz e => mk e fun σ₃ hp e => andk hh fun hh1 hh2 => gotEq e (by
  show Wk X.prog X.w Γ (do
   standAt pos
   let ov ← eval oe env
   let new ← holding [ov] (do
    standAt tp.atName
    let old ← getAttr ov x true
    let v ← holding [old] (eval ve env)
    standAt pos
    operate [old, v] (inplaceOp op old v))
   standAt tp.atName
   holding [new, ov] (setAttr ov x new)
   release [new, ov] []
   pure Flow.next) _ s
  refine Wk.bind (Wk.standAt (ha.bind eo G H S fun vo s₁ T₁ G₁ po => Wk.bind (Wk.holding (Wk.bind (Wk.standAt (Wk.bind (Wk.of_any G.isIn (attr_get CK G₁.isIn G₁.rel po hk hold fun uo k puo =>
   have G₂ := G₁.trans (.toks G₁.isIn G₁.rel k)
   he.bindH ev G G₂.isIn G₂.rel fun vv s₂ T₂ G₃ pvv => Wk.bind (Wk.standAt ?_)))))))))
  rw [ho] at puo
  rw [hv] at pvv
  obtain ⟨tu, rfl⟩ := puo
  obtain ⟨tv, rfl⟩ := pvv
  exact Wk.of_any G.isIn (wpAny_operate' (augOp (T := T₂) hz fun r k' hr =>
   have G₄ := G₃.trans (.toks G₃.isIn G₃.rel k')
   Wk.bind (Wk.standAt (Wk.bind (Wk.holding (Wk.of_any G.isIn (attr_set CK (rv := .f (.int z)) G₄.isIn G₄.rel (G₄.nx.held po hh1) hr hh2 hp fun T' s' G' => Wk.bind (Wk.of_any G.isIn (wpAny_release' (Wk.pure ⟨T', (G₂.trans G₄).trans G', rfl⟩)))))))))))
theorem call_meth {o : PE} {l : List PE} {oe : Expr} {name : Str} {apos : Pos} {es : List Expr} (hn : notCall oe = true) (hpos : (apos.endLine == pos.line) = true) (hlen : es.length < 30) (ho : Snd X cx (Ev.e o) (eval oe env) PRel) (ht : Trees X cx Ev l (backTo pos (starEach es env)))
  {σ σ₁ σ₂ : St} {ro : PV} {rs : List PV} (eo : Ev.e o σ = some (ro, σ₁)) (el : evL Ev l σ₁ = some (rs, σ₂)) {Γ : Ctx} {A : Around} (G : Good X.cl X.m Γ A) {T : Tab} {s : Shared} (H : T.In s.heap) (S : StRel X.h₀ cx T σ) {Q : Value → Shared → Prop}
  (h : ∀ T₁ s₁ ov, Go X.h₀ cx T σ s T₁ σ₁ s₁ → PRel T₁ ro ov → ∃ f, (∀ (pl : Sem Bool) (Q' : Value × List Value → Shared → Prop), Q' (f, [ov]) s₁ → wpAny (model X.prog X.w) A (getMethod ov name pl) Q' (fun _ _ => False) s₁) ∧
   ∀ T₂ s₂ vs, Go X.h₀ cx T₁ σ₁ s₁ T₂ σ₂ s₂ → (rs.all (held σ₁ σ₂) = true → RVs T₂ rs vs) → KeepIs f s₂ ∧ Wk X.prog X.w Γ (PySem.call f (ov :: vs) []) Q s₂) :
  Wk X.prog X.w Γ (eval (.Call (.Attribute oe name apos) es [] pos) env) Q s := by
 show Wk X.prog X.w Γ (do
  let ov ← attributeBase oe name env (eval oe env)
  standAt apos.atName
  methodCall oe name apos pos env ov (es.length + ([] : List Keyword).length) (backTo pos (starEach es env)) (backToKw pos (keywordEach [] env))) _ s
 rw [attributeBase_plain hn]
 refine Wk.bind2 (ho.go eo G H S) ?_
 rintro ov s₁ ⟨T₁, G₁, po⟩
 refine Wk.bind (Wk.standAt ?_)
 obtain ⟨f, hf, hcall⟩ := h T₁ s₁ ov G₁ po
 have hall : ((backTo pos (starEach es env)).all (!·.1)) = true := by
  have := ht.any
  rw [List.any_eq_false] at this
  rw [List.all_eq_true]
  intro x hx
  have := this x hx
  simpa using this
 have hform : methodCallForm (es.length + ([] : List Keyword).length) (backTo pos (starEach es env)) (backToKw pos (keywordEach [] env)) = true := by
  unfold methodCallForm
  rw [hall]
  show (true && true && decide (es.length + 0 + 0 < 30)) = true
  simp [hlen]
 unfold methodCall
 rw [hform]
 refine Wk.bind (Wk.holding (Wk.of_any G.isIn (hf _ _ ?_)))
 have hp : methodCallPos true oe env apos pos = pure pos := by
  unfold methodCallPos
  rw [hpos]; rfl
 refine Wk.bind (Wk.of_eq hp (Wk.pure ?_))
 refine callWith_ok G.isIn ht.any ?_
 refine Wk.mono ((spliced_ok ht).go el G G₁.isIn G₁.rel) ?_
 rintro vs s₂ ⟨T₂, G₂, ps⟩
 exact hcall T₂ s₂ vs G₂ ps
theorem shadow_free {T : Tab} {x : Str} {vs : List PV} {ns : List Str} {es : List DictEntry} (n : Nat) (R : PERels T vs ns es) (hc : ns.contains x = false) : shadowIn (some (dictOf es n)) x = some false := by
 have key : ∀ {vs : List PV} {ns : List Str} {es : List DictEntry}, PERels T vs ns es → ns.contains x = false → getL x es = some none := by
  intro vs
  induction vs with
  | nil => exact fun h _ => by rw [h.2]; rfl
  | cons p vs ih =>
   intro _ _ h hc
   obtain ⟨n, ns', en, es', rfl, rfl, ⟨t, hk⟩, a, b⟩ := h
   have hc : (x == n || ns'.contains x) = false := hc
   rw [getL_cons es' hk, if_neg fun q => Bool.eq_false_iff.mp (or_f hc).1 (beq_iff_eq.mpr (eq_of_beq q).symm)]
   exact ih b (or_f hc).2
 show (lookIn x (dictOf es n)).map _ = _
 rw [lookIn_dict, key R hc]
 rfl
theorem clsk {β : Type} {o : Option Addr} {f : Addr → Option β} {z : β} {G : Prop} (e : (match o with | some c => f c | Option.none => Option.none) = some z) (k : ∀ c, o = some c → f c = some z → G) : G := by
 induction o with
 | none => exact no e
 | some c => exact k c rfl e
theorem snd_meth (CK : Clss K X.h₀ P faddr) {r : PE} {f : Nat} {l : List PE} {pass keep : List Nat} {lvl : Nat} {oe : Expr} {apos : Pos} {es : List Expr} (hn : notCall oe = true) (hpos : (apos.endLine == pos.line) = true) (hlen : es.length < 30)
  (hfd : ∃ o fd, X.h₀.get? (faddr f) = some o ∧ o.data = .func fd) (F : FnOk X.prog X.w X.h₀ X.cl P.D f (faddr f) lvl) (hl : lvl ≤ X.m) (ho : Snd X cx (Ev.e r) (eval oe env) PRel) (ht : Trees X cx Ev l (backTo pos (starEach es env))) :
  Snd X cx (stepE Ev P (.meth r f l pass keep)) (eval (.Call (.Attribute oe (P.mname f) apos) es [] pos) env) PRel :=
 .mk' fun {σ q} e {Γ A} G {T s} H S => bk e fun r1 eo e => bk e fun r2 el e => ik e fun hh e => andk hh fun hh1 hh2 => clsk e fun c hc e => ik e fun hm e => andk hm fun hm1 hm2 => by
  refine call_meth hn hpos hlen ho ht eo el G H S fun T₁ s₁ ov G₁ po => inst_at G₁.isIn G₁.rel po hc fun a dx es' n vs ns I => ?_
  have M := CK.meth c f hm1
  have hr := I.ref
  subst hr
  refine ⟨.ref (faddr f), fun pl Q' hq => method_fn (K_in CK G₁.isIn G₁.rel) (instAt I.obj I.dict) (plainGet_of M.1.get).1 (plainGet_of M.1.get).2 M.2.1 M.2.2 (shadow_free n I.rel (not_t ((I.free _).symm.trans hm2))) hq, fun T₂ s₂ us G₂ ps => ?_⟩
  exact hfd.elim fun o h => h.elim fun fd h => ⟨.fn (base_at G₂.isIn G₂.rel h.1) h.2, Wk.mono (fn_code F hl e G G₂.isIn G₂.rel ⟨_, _, rfl, G₂.nx.held po hh1, ps hh2⟩) fun v s₃ ⟨T₃, G₃, p⟩ => ⟨T₃, (G₁.trans G₂).trans G₃, p⟩⟩
end
section
variable {prog : Program} {w : World} {A : Around} {E : Value → Shared → Prop} {s : Shared} {T : Tab}
theorem tuple_ok (H : T.In s.heap) {x z : FV} {v : Value} (hx : VRel T x v) (e : biFV .tuple [x] = some z) {Q : Value → Shared → Prop} (h : Yields s T z Q) : wpAny (model prog w) A (call (.type "tuple") [v]) Q E s := by
 induction x using FV.casesOn with
 | tup l =>
  obtain rfl := Option.some.inj e
  obtain ⟨a, o, vs, rfl, ta, L, R⟩ := hx
  exact call_tuple_same (tobj_is (H _ _ _ ta) L) (h.now H ⟨a, o, vs, rfl, ta, L, R⟩)
 | list l =>
  obtain ⟨hz, rfl⟩ := ite_some e
  obtain ⟨a, o, vs, rfl, ta, L, R⟩ := hx
  refine call_tuple_list (lobj_is (H _ _ _ ta) L) (fun h' hk => ?_) (by show vs.length ≤ _; rw [R.len, sizeLine_eq]; exact O1)
  have H' : T.In h' := fun a w o e => hk _ _ (H a w o e)
  exact h.made H (k := s.toks) (fun b o e => Heap.get?_push_of_some _ (hk b o e)) (Tab.fresh H') (Heap.get?_push_size _ rfl) fun T' F t => ⟨_, _, vs, rfl, t, ⟨0, rfl⟩, R.mono F⟩
 | _ => exact no e
theorem list_ok (H : T.In s.heap) {x z : FV} {v : Value} (hx : VRel T x v) (e : biFV .list [x] = some z) {Q : Value → Shared → Prop}
  (h : ∀ l vs h' o, z = .list l → (∀ b ob, s.heap.get? b = some ob → h'.get? b = some ob) → h'.get? s.heap.objs.size = some o → LObj o vs → VRels T l vs → Q (.ref s.heap.objs.size) { s with heap := h' }) : wpAny (model prog w) A (call (.type "list") [v]) Q E s := by
 induction x using FV.casesOn with
 | list l =>
  obtain ⟨hz, rfl⟩ := ite_some e
  obtain ⟨a, o, vs, rfl, ta, L, R⟩ := hx
  have ho := H _ _ _ ta
  obtain ⟨n, rfl⟩ := L
  exact call_list_seq a (.inl rfl) ho rfl rfl (fun h' c' hk hn => h _ vs h' _ rfl hk hn ⟨c', rfl⟩ R) (by show vs.length ≤ _; rw [R.len, sizeLine_eq]; exact O1)
 | _ => exact no e
theorem range_ok (H : T.In s.heap) {xs : List FV} {z : FV} {vs : List Value} (hx : VRels T xs vs) (e : biFV .range xs = some z) {Q : Value → Shared → Prop} (h : Yields s T z Q) : wpAny (model prog w) A (call (.type "range") vs) Q E s := by
 match xs, e, hx with
 | [], e, _ => exact no e
 | [x], e, hx =>
  obtain ⟨i, rfl⟩ : ∃ i, x = .int i := by induction x using FV.casesOn <;> first | exact ⟨_, rfl⟩ | exact no e
  obtain rfl := Option.some.inj e
  obtain ⟨v, r, rfl, ⟨t, rfl⟩, hr⟩ := hx
  subst hr
  exact call_range_1 (h.made H (fun b o e => Heap.get?_push_of_some _ e) (Tab.fresh H) (Heap.get?_push_size _ rfl) fun T' F t' => ⟨_, _, rfl, t', _, _, _, rfl⟩)
 | [x, y], e, hx =>
  obtain ⟨i, rfl⟩ : ∃ i, x = .int i := by induction x using FV.casesOn <;> first | exact ⟨_, rfl⟩ | exact no e
  obtain ⟨j, rfl⟩ : ∃ i, y = .int i := by induction y using FV.casesOn <;> first | exact ⟨_, rfl⟩ | exact no e
  obtain rfl := Option.some.inj e
  obtain ⟨v, r, rfl, ⟨t, rfl⟩, u, r', rfl, ⟨t', rfl⟩, hr⟩ := hx
  subst hr
  exact call_range_2 (h.made H (fun b o e => Heap.get?_push_of_some _ e) (Tab.fresh H) (Heap.get?_push_size _ rfl) fun T' F t' => ⟨_, _, rfl, t', _, _, _, rfl⟩)
 | [x, y, u], e, hx =>
  obtain ⟨i, rfl⟩ : ∃ i, x = .int i := by induction x using FV.casesOn <;> first | exact ⟨_, rfl⟩ | exact no e
  obtain ⟨j, rfl⟩ : ∃ i, y = .int i := by induction y using FV.casesOn <;> first | exact ⟨_, rfl⟩ | exact no e
  obtain ⟨k, rfl⟩ : ∃ i, u = .int i := by induction u using FV.casesOn <;> first | exact ⟨_, rfl⟩ | exact no e
  obtain ⟨hc, rfl⟩ := ite_some e
  obtain ⟨v, r, rfl, ⟨t, rfl⟩, u, r', rfl, ⟨t', rfl⟩, u', r'', rfl, ⟨t'', rfl⟩, hr⟩ := hx
  subst hr
  exact call_range_3 (by omega) (h.made H (k := s.toks) (fun b o e => Heap.get?_push_of_some _ e) (Tab.fresh H) (Heap.get?_push_size _ rfl) fun T' F t' => ⟨_, _, rfl, t', _, _, _, rfl⟩) (.inl (PyProof.noPylong_small (by omega)))
 | x :: y :: u :: v :: r, e, _ => exact no e
end
noncomputable def biName : BI → Str
 | .len => Str.ofString "len" | .ord => Str.ofString "ord" | .chr => Str.ofString "chr" | .int => Str.ofString "int" | .bool => Str.ofString "bool" | .max => Str.ofString "max" | .bytes => Str.ofString "bytes" | .bytearray => Str.ofString "bytearray"
 | .tuple => Str.ofString "tuple" | .list => Str.ofString "list" | .range => Str.ofString "range" | .isi _ => Str.ofString "isinstance"
noncomputable def biVal : BI → Value
 | .len => .builtin "len" | .ord => .builtin "ord" | .chr => .builtin "chr" | .int => .type "int" | .bool => .type "bool" | .max => .builtin "max" | .bytes => .type "bytes" | .bytearray => .type "bytearray"
 | .tuple => .type "tuple" | .list => .type "list" | .range => .type "range" | .isi _ => .builtin "isinstance"
theorem bi_keep (b : BI) (s : Shared) : KeepIs (biVal b) s := by induction b <;> first | exact .builtin | exact .type
section
variable {X : Wd} {cx : Cx} {env : Env} {Ev : Mine.Ev} {P : Prg} {pos : Pos} {mg mb : Str → Option Value}
theorem call_nameG (N : Names X.h₀ mg mb) (R : EnvR env cx) {x : Str} {np : Pos} {es : List Expr} {fv : Value} {Q : Value → Shared → Prop} (hk : env.kindOf x = some .globalImplicit) (hg : GlobIs X.h₀ mg mb x fv) (hd : (x == ("__debug__" : Str)) = false)
  {Γ : Ctx} {A : Around} (G : Good X.cl X.m Γ A) {T : Tab} {s : Shared} {σ : St} (H : T.In s.heap) (S : StRel X.h₀ cx T σ) (hts : (backTo pos (starEach es env)).any (·.1) = false)
  (h : Wk X.prog X.w Γ (spliced (backTo pos (starEach es env))) (fun vs s₁ => KeepIs fv s₁ ∧ Wk X.prog X.w Γ (PySem.call fv vs []) Q s₁) s) :
  Wk X.prog X.w Γ (eval (.Call (.Name x np) es [] pos) env) Q s := by
 show Wk X.prog X.w Γ (do callWith pos (← eval (.Name x np) env) [] (backTo pos (starEach es env)) (backToKw pos (keywordEach [] env))) _ s
 rw [eval_Name env x np hd]
 refine Wk.bind (Wk.bind (Wk.standAt (Wk.of_any G.isIn (ld_glob N R H S hk hg ?_))))
 exact callWith_ok G.isIn hts h
theorem bi_fvs (N : Names X.h₀ mg mb) (R : EnvR env cx) {x : Str} {np : Pos} {es : List Expr} {fv : Value} (hk : env.kindOf x = some .globalImplicit) (hg : GlobIs X.h₀ mg mb x fv) (hd : (x == ("__debug__" : Str)) = false) (hkp : ∀ s, KeepIs fv s)
  {l : List PE} (ht : Trees X cx Ev l (backTo pos (starEach es env))) {σ σ₁ σ' : St} {rs : List PV} {xs : List FV} {pv : PV} (el : evL Ev l σ = some (rs, σ₁)) (ex : fvs rs = some xs) {Γ : Ctx} {A : Around} (G : Good X.cl X.m Γ A) {T : Tab} {s : Shared} (H : T.In s.heap) (S : StRel X.h₀ cx T σ)
  (hop : ∀ T₁ s₁ vs, T₁.In s₁.heap → StRel X.h₀ cx T₁ σ₁ → VRels T₁ xs vs → Wk X.prog X.w Γ (PySem.call fv vs []) (Aft X.h₀ cx T₁ σ₁ s₁ σ' (fun T' v => PRel T' pv v)) s₁) :
  Wk X.prog X.w Γ (eval (.Call (.Name x np) es [] pos) env) (Aft X.h₀ cx T σ s σ' (fun T' v => PRel T' pv v)) s := by
 refine call_nameG N R hk hg hd G H S ht.any ?_
 refine Wk.mono ((spliced_ok ht).go el G H S) ?_
 rintro vs s₁ ⟨T₁, G₁, ps⟩
 refine ⟨hkp _, Wk.mono (hop T₁ s₁ vs G₁.isIn G₁.rel ((ps (held_fvs ex)).fvs ex)) ?_⟩
 rintro v s₂ ⟨T₂, G₂, p⟩
 exact ⟨T₂, G₁.trans G₂, p⟩
theorem spliced_one {l : List PE} {ts : List (Bool × Sem Value)} (ht : Trees X cx Ev l ts) {σ σ₁ : St} {ra : PV} (el : evL Ev l σ = some ([ra], σ₁)) {Γ : Ctx} {A : Around} (G : Good X.cl X.m Γ A) {T : Tab} {s : Shared} (H : T.In s.heap) (S : StRel X.h₀ cx T σ) :
  Wk X.prog X.w Γ (spliced ts) (fun vs s₁ => ∃ v T₁, vs = [v] ∧ Go X.h₀ cx T σ s T₁ σ₁ s₁ ∧ PRel T₁ ra v) s := by
 cases ht with
 | nil => exact nomatch el
 | @cons a t l ts ha hl =>
  refine bk el fun r1 ea el => bk el fun rs es el => ?_
  have h1 : r1.1 :: rs.1 = [ra] := congrArg (·.1) (Option.some.inj el)
  have h2 : rs.2 = σ₁ := congrArg (·.2) (Option.some.inj el)
  cases hl with
  | cons _ _ => exact bk es fun _ _ es => bk es fun q _ es => by rw [← Option.some.inj es] at h1; exact nomatch h1
  | nil =>
   have es := Option.some.inj es
   subst es h2
   exact ha.bind (F := fun v => (pure [v] : Sem (List Value)) >>= fun here => do return here ++ (← holding here (spliced []))) ea G H S fun va s₁ T₁ G₁ pa =>
    Wk.bind (Wk.pure (Wk.bind (Wk.holding (Wk.pure (Wk.pure ⟨va, T₁, rfl, G₁, (List.cons.inj h1).1 ▸ pa⟩)))))
theorem bi_one (N : Names X.h₀ mg mb) (R : EnvR env cx) {x : Str} {np : Pos} {es : List Expr} {fv : Value} (hk : env.kindOf x = some .globalImplicit) (hg : GlobIs X.h₀ mg mb x fv) (hd : (x == ("__debug__" : Str)) = false) (hkp : ∀ s, KeepIs fv s)
  {l : List PE} (ht : Trees X cx Ev l (backTo pos (starEach es env))) {σ σ₁ σ' : St} {ra : PV} {pv : PV} (el : evL Ev l σ = some ([ra], σ₁)) {Γ : Ctx} {A : Around} (G : Good X.cl X.m Γ A) {T : Tab} {s : Shared} (H : T.In s.heap) (S : StRel X.h₀ cx T σ)
  (hop : ∀ T₁ s₁ v, T₁.In s₁.heap → StRel X.h₀ cx T₁ σ₁ → PRel T₁ ra v → Wk X.prog X.w Γ (PySem.call fv [v] []) (Aft X.h₀ cx T₁ σ₁ s₁ σ' (fun T' v => PRel T' pv v)) s₁) :
  Wk X.prog X.w Γ (eval (.Call (.Name x np) es [] pos) env) (Aft X.h₀ cx T σ s σ' (fun T' v => PRel T' pv v)) s := by
 refine call_nameG N R hk hg hd G H S ht.any (Wk.mono (spliced_one ht el G H S) fun vs s₁ h => ?_)
 obtain ⟨v, T₁, rfl, G₁, pa⟩ := h
 exact ⟨hkp _, Wk.mono (hop T₁ s₁ v G₁.isIn G₁.rel pa) fun v s₂ h => h.elim fun T₂ h => ⟨T₂, G₁.trans h.1, h.2⟩⟩
theorem toks_aft {T : Tab} {σ : St} {s : Shared} {z : FV} (H : T.In s.heap) (S : StRel X.h₀ cx T σ) : ∀ r k, VRel T z r → Aft X.h₀ cx T σ s σ (fun T' v => PRel T' (.f z) v) r { s with toks := k } := fun r k hr => ⟨T, .toks H S k, hr⟩
theorem len_barr {A : Around} {E : Value → Shared → Prop} {T : Tab} {s : Shared} (H : T.In s.heap) {b : List UInt8} {v : Value} (hx : DRel T (.barr b) v) (hz : b.length ≤ 1000000) {Q : Value → Shared → Prop} (h : ∀ r k, VRel T (.int b.length) r → Q r { s with toks := k }) : wpAny (model X.prog X.w) A (call (.builtin "len") [v]) Q E s := by
 obtain ⟨a, w', o, rfl, ta, B⟩ := hx
 have ho := H _ _ _ ta
 have hT : s.TypeIs (.ref a) "bytearray" := ⟨o, ho, by rw [B]⟩
 refine Calls.call_function_entry kind_len plain_len entry_len (args_len1 _) ?_
 unfold Builtin.«len»
 refine wpAny_bind (m := oneArg "len" _) (wpAny_pure ?_)
 refine wpAny_bind (m := callSpecial? (.ref a) (Str.ofString "__len__")) (wpAny_callSpecial?_slot (name := Str.ofString "__len__") hT FF.slot_len
  (wpAny_call_entry FF.slot_len hT FF.entry_len ?_ (FF.args_len _)))
 show wpAny _ _ (Builtin.Bytes.payload (.ref a) >>= fun b => _) _ _ s
 unfold Builtin.Bytes.payload Builtin.Bytes.payload?
 refine wpAny_bind (wpAny_bind (wpAny_bind (wpAny_load ho ?_)))
 rw [B]
 refine wpAny_pure (wpAny_pure ?_)
 refine wpAny_bind (wpAny_mkInt (wpAny_pure ⟨_, rfl, ?_⟩))
 show wpAny _ _ _ _ _ { s with toks := s.toks + 1 }
 refine wpAny_bind (wpAny_holding (wpAny_pure ?_))
 refine wpAny_bind (wpAny_letGo ?_)
 show wpAny _ _ (if ((b.length : Nat) : Int) < 0 then _ else _) _ _ _
 rw [if_neg O34]
 show wpAny _ _ (if ((b.length : Nat) : Int) ≥ 2 ^ 63 then _ else _) _ _ _
 rw [if_neg (by omega)]
 exact wpAny_bind (wpAny_mkInt (wpAny_pure ⟨_, rfl, h _ _ ⟨s.toks + 1, rfl⟩⟩))
theorem yields_aft {T : Tab} {σ : St} {s : Shared} (S : StRel X.h₀ cx T σ) (z : FV) : Yields s T z (Aft X.h₀ cx T σ s σ (fun T' v => PRel T' (.f z) v)) := Yields.go S z
noncomputable def plainBi : BI → Bool
 | .ord | .chr | .int | .bool | .max | .tuple | .range => true
 | _ => false
theorem bi_plain {b : BI} (hb : plainBi b = true) {Γ : Ctx} {A : Around} (G : Good X.cl X.m Γ A) {T : Tab} {s : Shared} {σ : St} (H : T.In s.heap) (S : StRel X.h₀ cx T σ) {xs : List FV} {z : FV} {vs : List Value} (R : VRels T xs vs) (e : biFV b xs = some z) :
  wpAny (model X.prog X.w) A (PySem.call (biVal b) vs []) (Aft X.h₀ cx T σ s σ (fun T' v => PRel T' (.f z) v)) (fun _ _ => False) s := by
 have one : ∀ {f : FV → Option FV}, oneF f xs = some z → ∃ x v, xs = [x] ∧ vs = [v] ∧ VRel T x v ∧ f x = some z := fun h => by
  obtain ⟨x, rfl, h⟩ := oneF_some h
  obtain ⟨v, r, rfl, a, h'⟩ := R
  subst h'
  exact ⟨x, v, rfl, rfl, a, h⟩
 induction b with
 | ord =>
  obtain ⟨x, v, rfl, rfl, a, h⟩ := one e
  induction x using FV.casesOn with
  | str s => exact ord_ok a e (toks_aft H S)
  | _ => exact no h
 | chr =>
  obtain ⟨x, v, rfl, rfl, a, h⟩ := one e
  induction x using FV.casesOn with
  | int s => exact chr_ok a e (toks_aft H S)
  | _ => exact no h
 | int => obtain ⟨x, v, rfl, rfl, a, h⟩ := one e; exact int_ok a e (toks_aft H S)
 | bool => obtain ⟨x, v, rfl, rfl, a, h⟩ := one e; exact bool_ok a e (toks_aft H S)
 | max =>
  match xs, e, R with
  | [x, y], e, R =>
   obtain ⟨v, r, rfl, a, v', r', rfl, a', h⟩ := R
   subst h
   exact max_ok H G.handled a a' e (yields_aft S z)
  | [], e, _ => exact no e
  | [_], e, _ => exact no e
  | _ :: _ :: _ :: _, e, _ => exact no e
 | tuple => obtain ⟨x, v, rfl, rfl, a, h⟩ := one e; exact tuple_ok H a e (yields_aft S z)
 | range => exact range_ok H R e (yields_aft S z)
 | _ => exact nob hb
end
section
variable {X : Wd} {cx : Cx} {env : Env} {Ev : Mine.Ev} {P : Prg} {pos : Pos} {mg mb : Str → Option Value}
theorem biName_dbg (b : BI) : (biName b == ("__debug__" : Str)) = false := by
 cases b
 case isi T => show (Str.ofString "isinstance" == ("__debug__" : Str)) = false; decide +kernel
 all_goals decide +kernel
theorem snd_biPlain (N : Names X.h₀ mg mb) (R : EnvR env cx) {b : BI} (hb : plainBi b = true) {l : List PE} {lab : Option Nat} {np : Pos} {es : List Expr} (hk : env.kindOf (biName b) = some .globalImplicit) (hg : GlobIs X.h₀ mg mb (biName b) (biVal b)) (ht : Trees X cx Ev l (backTo pos (starEach es env))) :
  Snd X cx (stepE Ev P (.bi b l lab)) (eval (.Call (.Name (biName b) np) es [] pos) env) PRel := by
 refine .of fun {σ pv σ'} e {Γ A} G {T s} H S => ?_
 refine bk e fun r el e => ?_
 have e : (fvs r.1).bind (fun xs => (biFV b xs).map fun z => (PV.f z, r.2)) = some (pv, σ') := by
  induction b <;> first | exact e | exact nob hb
 refine bk e fun xs ex e => mk e fun z ez e => ?_
 cases e
 exact bi_fvs N R hk hg (biName_dbg b) (bi_keep b) ht el ex G H S fun T₁ s₁ vs H₁ S₁ R₁ => Wk.of_any G.isIn (bi_plain hb G H₁ S₁ R₁ ez)
theorem snd_biLen (N : Names X.h₀ mg mb) (R : EnvR env cx) {l : List PE} {lab : Option Nat} {np : Pos} {es : List Expr} (hk : env.kindOf (biName .len) = some .globalImplicit) (hg : GlobIs X.h₀ mg mb (biName .len) (biVal .len)) (ht : Trees X cx Ev l (backTo pos (starEach es env))) :
  Snd X cx (stepE Ev P (.bi .len l lab)) (eval (.Call (.Name (biName .len) np) es [] pos) env) PRel := by
 refine .of fun {σ pv σ'} e {Γ A} G {T s} H S => ?_
 refine bk e fun q el e => ?_
 obtain ⟨rs, σ₁⟩ := q
 rcases rs with _ | ⟨r, _ | ⟨r', rs⟩⟩
 ·exact no e
 ·refine bk e fun x hx e => mk e fun z hz e => ?_
  cases e
  refine bi_one N R hk hg (biName_dbg _) (bi_keep _) ht el G H S fun T₁ s₁ v H₁ S₁ p => Wk.of_any G.isIn ?_
  have D := deref_rel S₁ p hx
  induction x using FV.casesOn with
  | barr b => obtain ⟨hl, rfl⟩ := ite_some hz; exact len_barr H₁ D hl (toks_aft H₁ S₁)
  | _ => exact len_ok H₁ (units_ok G) D (fun b h => by cases h) hz (toks_aft H₁ S₁)
 ·exact bk e fun xs h e => mk e fun z hz _ => bk h fun a _ h => mk h fun c h' h => bk h' fun b _ h' => mk h' fun d _ h' => no (show Option.none = some z from by rw [← h, ← h'] at hz; exact hz)
theorem snd_biBytes (N : Names X.h₀ mg mb) (R : EnvR env cx) {l : List PE} {lab : Option Nat} {np : Pos} {es : List Expr} (hk : env.kindOf (biName .bytes) = some .globalImplicit) (hg : GlobIs X.h₀ mg mb (biName .bytes) (biVal .bytes)) (ht : Trees X cx Ev l (backTo pos (starEach es env))) :
  Snd X cx (stepE Ev P (.bi .bytes l lab)) (eval (.Call (.Name (biName .bytes) np) es [] pos) env) PRel := by
 refine .of fun {σ pv σ'} e {Γ A} G {T s} H S => ?_
 refine bk e fun q el e => ?_
 obtain ⟨rs, σ₁⟩ := q
 rcases rs with _ | ⟨r, _ | ⟨r', rs⟩⟩
 ·exact no e
 ·refine bk e fun x hx e => mk e fun z hz e => ?_
  cases e
  exact bi_one N R hk hg (biName_dbg _) (bi_keep _) ht el G H S fun T₁ s₁ v H₁ S₁ p => Wk.of_any G.isIn (bytes_ok H₁ G.handled (deref_rel S₁ p hx) hz (yields_aft S₁ z))
 ·exact bk e fun xs h e => mk e fun z hz _ => bk h fun a _ h => mk h fun c h' h => bk h' fun b _ h' => mk h' fun d _ h' => no (show Option.none = some z from by rw [← h, ← h'] at hz; exact hz)
theorem snd_biList (N : Names X.h₀ mg mb) (R : EnvR env cx) {l : List PE} {lab : Option Nat} {np : Pos} {es : List Expr} (hk : env.kindOf (biName .list) = some .globalImplicit) (hg : GlobIs X.h₀ mg mb (biName .list) (biVal .list)) (ht : Trees X cx Ev l (backTo pos (starEach es env))) :
  Snd X cx (stepE Ev P (.bi .list l lab)) (eval (.Call (.Name (biName .list) np) es [] pos) env) PRel := by
 refine .of fun {σ pv σ'} e {Γ A} G {T s} H S => ?_
 refine bk e fun q el e => bk e fun xs ex e => bk e fun z hz e => ?_
 refine bi_fvs N R hk hg (biName_dbg _) (bi_keep _) ht el ex G H S fun T₁ s₁ vs H₁ S₁ R₁ => Wk.of_any G.isIn ?_
 rcases xs with _ | ⟨x, _ | ⟨y, r⟩⟩
 ·exact no hz
 ·obtain ⟨v, r, rfl, a, h⟩ := R₁
  subst h
  refine list_ok H₁ a hz fun ll us h' o hzl hk' ho L Rl => ?_
  subst hzl
  obtain ⟨T', G', p'⟩ := make_list (s := s₁) (k := s₁.toks) H₁ S₁ e hk' (Tab.fresh H₁) ho L Rl
  exact ⟨T', G', p'⟩
 ·exact no hz
theorem snd_biBytearray (N : Names X.h₀ mg mb) (R : EnvR env cx) (hcl : X.cl = true) {lab : Option Nat} {np : Pos} (hk : env.kindOf (biName .bytearray) = some .globalImplicit) (hg : GlobIs X.h₀ mg mb (biName .bytearray) (biVal .bytearray)) :
  Snd X cx (stepE Ev P (.bi .bytearray [] lab)) (eval (.Call (.Name (biName .bytearray) np) [] [] pos) env) PRel := by
 refine .of fun {σ pv σ'} e {Γ A} G {T s} H S => ?_
 refine ik (c := P.bytearrays = true) (x := σ.make lab (.barr [])) e fun _ e => ?_
 ·refine bi_fvs (Ev := Ev) (l := []) (rs := []) (xs := []) (σ₁ := σ) N R hk hg (biName_dbg _) (bi_keep _) .nil rfl rfl G H S fun T₁ s₁ vs H₁ S₁ R₁ => ?_
  subst R₁
  refine new_ba G.isIn (G.clean hcl) fun h' o ho B hk' => ?_
  obtain ⟨T', G', p'⟩ := make_barr (s := s₁) (k := s₁.toks) H₁ S₁ e hk' (Tab.fresh H₁) ho B
  exact ⟨T', G', p'⟩
theorem snd_isi (N : Names X.h₀ mg mb) (R : EnvR env cx) {Ty : String} {a : PE} {lab : Option Nat} {np np2 : Pos} {e0 : Expr} (hk : env.kindOf (Str.ofString "isinstance") = some .globalImplicit) (hg : GlobIs X.h₀ mg mb (Str.ofString "isinstance") (.builtin "isinstance"))
  (hk2 : env.kindOf (Str.ofString Ty) = some .globalImplicit) (hg2 : GlobIs X.h₀ mg mb (Str.ofString Ty) (.type Ty)) (hd2 : (Str.ofString Ty == ("__debug__" : Str)) = false)
  (hst : backTo pos (starEach [e0, .Name (Str.ofString Ty) np2] env) = [(false, eval e0 env), (false, eval (.Name (Str.ofString Ty) np2) env)]) (ha : Snd X cx (Ev.e a) (eval e0 env) PRel) :
  Snd X cx (stepE Ev P (.bi (.isi Ty) [a] lab)) (eval (.Call (.Name (Str.ofString "isinstance") np) [e0, .Name (Str.ofString Ty) np2] [] pos) env) PRel := by
 refine .of fun {σ pv σ'} e {Γ A} G {T s} H S => ?_
 refine bk e fun q el e => bk e fun xs ex e => mk e fun z hz e => bk el fun r ea el => ?_
 obtain rfl := Option.some.inj el
 cases e
 refine call_nameG N R hk hg (by decide +kernel) G H S (by rw [hst]; rfl) ?_
 rw [hst]
 show Wk X.prog X.w Γ (eval e0 env >>= fun v => (pure [v] : Sem (List Value)) >>= fun here => do return here ++ (← holding here (eval (.Name (Str.ofString Ty) np2) env >>= fun v => (pure [v] : Sem (List Value)) >>= fun here => do return here ++ (← holding here (spliced []))))) _ s
 refine Wk.bind2 (ha.go ea G H S) ?_
 rintro va s₁ ⟨T₁, G₁, pa⟩
 refine Wk.bind (Wk.pure (Wk.bind (Wk.holding ?_)))
 rw [eval_Name env _ np2 hd2]
 refine Wk.bind (Wk.bind (Wk.standAt (Wk.of_any G.isIn (ld_glob N R G₁.isIn G₁.rel hk2 hg2 ?_))))
 refine Wk.bind (Wk.pure (Wk.bind (Wk.holding (Wk.pure (Wk.pure (Wk.pure ⟨.builtin, ?_⟩))))))
 obtain ⟨ra, σ₂⟩ := r
 induction ra with
 | o k => exact no ex
 | f y =>
  obtain rfl := Option.some.inj ex
  obtain ⟨b, hb, rfl⟩ := Option.map_eq_some_iff.mp hz
  exact Wk.of_any G.isIn (isi_ok (T := T₁) pa hb fun k => ⟨T₁, G₁.trans (.toks G₁.isIn G₁.rel k), rfl⟩)
end
noncomputable def bmName : BM → Str
 | .append => Str.ofString "append" | .extend => Str.ofString "extend" | .reverse => Str.ofString "reverse" | .join => Str.ofString "join"
namespace FF
theorem plain_ba : PlainAttrs "bytearray" :=
 ⟨⟨"bytearray.__getattribute__", by rw [typeLookup_type, builtinLookup_eq_fast]; kernel_rfl, by decide +kernel⟩, by rw [typeLookup_type, builtinLookup_eq_fast]; kernel_rfl⟩
theorem type_append : typeOf (.builtin "bytearray.append") = pure (.type "method_descriptor") := by show builtinType _ = _; rw [builtinType_eq_fast]; kernel_rfl
theorem type_extend : typeOf (.builtin "bytearray.extend") = pure (.type "method_descriptor") := by show builtinType _ = _; rw [builtinType_eq_fast]; kernel_rfl
end FF
section
variable {X : Wd} {cx : Cx} {env : Env} {Ev : Mine.Ev} {P : Prg} {pos : Pos}
noncomputable def kindA : Option AO → Nat
 | some (.list _) => 1
 | some (.barr _) => 2
 | some (.inst ..) => 3
 | none => 4
theorem kindL_list {σ σ' : St} {k : Nat} {l : List FV} (h : (kindL σ (.o k) == kindL σ' (.o k)) = true) (hl : σ'.look k = some (.list l)) : ∃ l', σ.look k = some (.list l') := by
 have h : kindA (σ.look k) = kindA (σ'.look k) := eq_of_beq h
 rw [hl] at h
 cases q : σ.look k with
 | none => rw [q] at h; exact nomatch h
 | some a => rw [q] at h; induction a with
  | list l => exact ⟨_, rfl⟩
  | _ => exact nomatch h
theorem kindL_barr {σ σ' : St} {k : Nat} {b : List UInt8} (h : (kindL σ (.o k) == kindL σ' (.o k)) = true) (hl : σ'.look k = some (.barr b)) : ∃ b', σ.look k = some (.barr b') := by
 have h : kindA (σ.look k) = kindA (σ'.look k) := eq_of_beq h
 rw [hl] at h
 cases q : σ.look k with
 | none => rw [q] at h; exact nomatch h
 | some a => rw [q] at h; induction a with
  | barr l => exact ⟨_, rfl⟩
  | _ => exact nomatch h
theorem turned {T : Tab} {σ : St} {s : Shared} {h' : Heap} {k : Nat} {a : Addr} {o o' : Obj} {ao ao' : AO} (H : T.In s.heap) (S : StRel X.h₀ cx T σ) (t : T a = some (.lab k, o)) (hl : σ.look k = some ao) (hi : ∀ c ns vs, ao ≠ .inst c ns vs) (hi' : ∀ c ns vs, ao' ≠ .inst c ns vs)
  (R : ORel (T.set a (some (.lab k, o'))) k ao' o') (ho' : h'.get? a = some o') (sb : Heap.SameBut a s.heap h') : Aft X.h₀ cx T σ s (σ.put k ao') (fun T' v => PRel T' (.f .none) v) .none { s with heap := h' } := by
 obtain ⟨S', N⟩ := S.turn (o' := o') (ao' := ao') t hl hi R hi'
 exact ⟨_, ⟨⟨s.toks, rfl⟩, H.set ho' fun b ob hb e => (sb.2 b hb).trans e, S', N⟩, rfl⟩
theorem set_F {T : Tab} {a : Addr} {k : Nat} {o o' : Obj} (t : T a = some (.lab k, o)) : FMono T (T.set a (some (.lab k, o'))) := fun c oc e => by
 rw [Tab.set_ne]; exact e
 rintro rfl; rw [t] at e; cases e
noncomputable def bmIn (P : Prg) (b : BM) (k : Nat) (xs : List FV) (σ : St) : Option (PV × St) := match b with
 | .append => (match σ.look k with | some (.barr _) => if P.bytearrays then bmStep .append (.o k) xs σ else Option.none | _ => bmStep .append (.o k) xs σ)
 | .extend => if P.bytearrays then bmStep .extend (.o k) xs σ else Option.none
 | b => bmStep b (.o k) xs σ
theorem bm_k {b : BM} (hb : b ≠ .join) {r : PE} {l : List PE} {σ : St} {z : PV × St} {G : Prop} (e : stepE Ev P (.bm b r l) σ = some z)
  (K : ∀ r1 r2 k xs, Ev.e r σ = some r1 → evL Ev l r1.2 = some r2 → held r1.2 r2.2 r1.1 = true → (kindL r1.2 r1.1 == kindL r2.2 r1.1) = true → r1.1 = .o k → fvs r2.1 = some xs → bmIn P b k xs r2.2 = some z → G) : G :=
 bk e fun r1 eo e => bk e fun r2 el e => ik e fun hh e => andk hh fun h1 h2 => by
  obtain ⟨ro, σ₁⟩ := r1
  induction ro with
  | o k => induction b with
   | join => exact absurd rfl hb
   | append => exact bk e fun xs ex e => K _ _ k xs eo el h1 h2 rfl ex e
   | extend => exact bk e fun xs ex e => K _ _ k xs eo el h1 h2 rfl ex e
   | reverse => exact bk e fun xs ex e => K _ _ k xs eo el h1 h2 rfl ex e
  | f y => induction b with
   | join => exact absurd rfl hb
   | append => exact bk e fun xs ex e => no e
   | extend => exact bk e fun xs ex e => ik e fun _ e => no e
   | reverse => exact bk e fun xs ex e => no e
theorem app1_k {σ : St} {k : Nat} {xs : List FV} {z : PV × St} {G : Prop} (e : bmStep .append (.o k) xs σ = some z)
  (K1 : ∀ l x, σ.look k = some (.list l) → xs = [x] → l.length ≤ 1000000 → (PV.f .none, σ.put k (.list (l ++ [x]))) = z → G) (K2 : ∀ b x c, σ.look k = some (.barr b) → xs = [x] → byteOf x = some c → b.length ≤ 1000000 → (PV.f .none, σ.put k (.barr (b ++ [c]))) = z → G) : G := by
 induction xs using List.casesOn with
 | nil => exact no e
 | cons x t => induction t using List.casesOn with
  | cons _ _ => exact no e
  | nil =>
   dsimp only [bmStep] at e
   generalize hl : σ.look k = o at e
   induction o with
   | none => exact no e
   | some ao => induction ao with
    | list l => exact ik e fun h e => K1 l x hl rfl h (Option.some.inj e)
    | barr b => exact bk e fun c hc e => ik e fun h e => K2 b x c hl rfl hc h (Option.some.inj e)
    | inst _ _ _ => exact no e
theorem app_k {σ : St} {k : Nat} {xs : List FV} {z : PV × St} {G : Prop} (e : bmIn P .append k xs σ = some z)
  (K1 : ∀ l x, σ.look k = some (.list l) → xs = [x] → l.length ≤ 1000000 → (PV.f .none, σ.put k (.list (l ++ [x]))) = z → G) (K2 : ∀ b x c, σ.look k = some (.barr b) → xs = [x] → byteOf x = some c → b.length ≤ 1000000 → (PV.f .none, σ.put k (.barr (b ++ [c]))) = z → G) : G := by
 dsimp only [bmIn] at e
 generalize σ.look k = o at e
 induction o with
 | none => exact app1_k e K1 K2
 | some ao => induction ao with
  | barr b => exact ik e fun _ e => app1_k e K1 K2
  | list l => exact app1_k e K1 K2
  | inst _ _ _ => exact app1_k e K1 K2
theorem byteOf_k {x : FV} {c : UInt8} {G : Prop} (e : byteOf x = some c) (K : ∀ i, x = .int i → 0 ≤ i → i < 256 → i.toNat.toUInt8 = c → G) : G := by
 induction x using FV.casesOn with
 | int i => exact ik e fun h e => andk h fun h1 h2 => K i rfl (of_decide_eq_true h1) (of_decide_eq_true h2) (Option.some.inj e)
 | _ => exact no e
theorem own_list {T₁ T₂ : Tab} {σ₁ σ₂ : St} {s₁ s₂ : Shared} {k : Nat} {ov : Value} {l : List FV} (G₁ : Go X.h₀ cx T₁ σ₁ s₁ T₂ σ₂ s₂) (po : PRel T₁ (.o k) ov) (h : held σ₁ σ₂ (.o k) = true) (hl : σ₂.look k = some (.list l)) :
  ∃ a o vs, ov = .ref a ∧ T₂ a = some (.lab k, o) ∧ LObj o vs ∧ VRels T₂ l vs := by
 obtain ⟨a, o, e, t, vs, L, R⟩ := lab_at G₁.rel (G₁.nx.held po h) hl
 exact ⟨a, o, vs, e, t, L, R⟩
theorem one_rel {T : Tab} {x : FV} {vs : List Value} (h : VRels T [x] vs) : ∃ u, vs = [u] ∧ VRel T x u := by
 obtain ⟨u, r, rfl, hu, hr⟩ := h
 have hr : r = [] := hr
 exact ⟨u, by rw [hr], hu⟩
theorem list_meth {nm : String} {fn : Str} {r : PE} {l : List PE} {oe : Expr} {apos : Pos} {es : List Expr} (hn : notCall oe = true) (hpos : (apos.endLine == pos.line) = true) (hlen : es.length < 30) (ho : Snd X cx (Ev.e r) (eval oe env) PRel) (ht : Trees X cx Ev l (backTo pos (starEach es env)))
  {σ : St} {r1 : PV × St} {r2 : List PV × St} {k : Nat} {xs ll : List FV} (eo : Ev.e r σ = some r1) (el : evL Ev l r1.2 = some r2) (h1 : held r1.2 r2.2 r1.1 = true) (h2 : (kindL r1.2 r1.1 == kindL r2.2 r1.1) = true) (h3 : r1.1 = .o k) (ex : fvs r2.1 = some xs) (hl : r2.2.look k = some (.list ll))
  (gm : ∀ {A : Around} {E : Value → Shared → Prop} {s : Shared} {a : Addr} {o : Obj} {vs : List Value} {pl : Sem Bool} {Q : Value × List Value → Shared → Prop}, s.heap.get? a = some o → LObj o vs → Q (.builtin nm, [.ref a]) s → wpAny (model X.prog X.w) A (getMethod (.ref a) fn pl) Q E s)
  {Γ : Ctx} {A : Around} (G : Good X.cl X.m Γ A) {T : Tab} {s : Shared} (H : T.In s.heap) (S : StRel X.h₀ cx T σ) {Q : Value → Shared → Prop}
  (h : ∀ T₂ s₂ a o vs us, Go X.h₀ cx T σ s T₂ r2.2 s₂ → T₂ a = some (.lab k, o) → LObj o vs → VRels T₂ ll vs → VRels T₂ xs us → Wk X.prog X.w Γ (PySem.call (.builtin nm) (.ref a :: us) []) Q s₂) :
  Wk X.prog X.w Γ (eval (.Call (.Attribute oe fn apos) es [] pos) env) Q s := by
 refine call_meth (ro := r1.1) (σ₁ := r1.2) (rs := r2.1) (σ₂ := r2.2) hn hpos hlen ho ht eo el G H S fun T₁ s₁ ov G₁ po => ?_
 rw [h3] at po h1 h2
 obtain ⟨l₁, hl₁⟩ := kindL_list h2 hl
 obtain ⟨a, o, rfl, t, vs, L, Rl⟩ := lab_at G₁.rel po hl₁
 refine ⟨.builtin nm, fun pl Q' hq => gm (G₁.isIn _ _ _ t) L hq, fun T₂ s₂ us G₂ ps => ⟨.builtin, ?_⟩⟩
 obtain ⟨a', o', vs', ea, t', L', Rl'⟩ := own_list G₂ po h1 hl
 cases ea
 exact h T₂ s₂ a o' vs' us (G₁.trans G₂) t' L' Rl' ((ps (held_fvs ex)).fvs ex)
theorem barr_meth {nm : String} {fn : Str} {r : PE} {l : List PE} {oe : Expr} {apos : Pos} {es : List Expr} (hn : notCall oe = true) (hpos : (apos.endLine == pos.line) = true) (hlen : es.length < 30) (ho : Snd X cx (Ev.e r) (eval oe env) PRel) (ht : Trees X cx Ev l (backTo pos (starEach es env)))
  {σ : St} {r1 : PV × St} {r2 : List PV × St} {k : Nat} {xs : List FV} {bs : List UInt8} (eo : Ev.e r σ = some r1) (el : evL Ev l r1.2 = some r2) (h1 : held r1.2 r2.2 r1.1 = true) (h2 : (kindL r1.2 r1.1 == kindL r2.2 r1.1) = true) (h3 : r1.1 = .o k) (ex : fvs r2.1 = some xs) (hl : r2.2.look k = some (.barr bs))
  (gm : ∀ {A : Around} {E : Value → Shared → Prop} {s : Shared} {a : Addr} {o : Obj} {pl : Sem Bool} {Q : Value × List Value → Shared → Prop}, s.heap.get? a = some o → o.cls = .type "bytearray" → o.dict = none → Q (.builtin nm, [.ref a]) s → wpAny (model X.prog X.w) A (getMethod (.ref a) fn pl) Q E s)
  {Γ : Ctx} {A : Around} (G : Good X.cl X.m Γ A) {T : Tab} {s : Shared} (H : T.In s.heap) (S : StRel X.h₀ cx T σ) {Q : Value → Shared → Prop}
  (h : ∀ T₂ s₂ a o us, Go X.h₀ cx T σ s T₂ r2.2 s₂ → T₂ a = some (.lab k, o) → BObj o bs → VRels T₂ xs us → Wk X.prog X.w Γ (PySem.call (.builtin nm) (.ref a :: us) []) Q s₂) :
  Wk X.prog X.w Γ (eval (.Call (.Attribute oe fn apos) es [] pos) env) Q s := by
 refine call_meth (ro := r1.1) (σ₁ := r1.2) (rs := r2.1) (σ₂ := r2.2) hn hpos hlen ho ht eo el G H S fun T₁ s₁ ov G₁ po => ?_
 rw [h3] at po h1 h2
 obtain ⟨b₁, hb₁⟩ := kindL_barr h2 hl
 obtain ⟨a, o, rfl, t, B⟩ := lab_at G₁.rel po hb₁
 have B : BObj o b₁ := B
 refine ⟨.builtin nm, fun pl Q' hq => gm (G₁.isIn _ _ _ t) (by rw [B]) (by rw [B]) hq, fun T₂ s₂ us G₂ ps => ⟨.builtin, ?_⟩⟩
 obtain ⟨a', o', ea, t', B'⟩ := lab_at G₂.rel (G₂.nx.held po h1) hl
 cases ea
 exact h T₂ s₂ a o' us (G₁.trans G₂) t' B' ((ps (held_fvs ex)).fvs ex)
theorem go_turned {T T₁ : Tab} {σ σ₁ : St} {s s₁ : Shared} {h' : Heap} {k : Nat} {a : Addr} {o o' : Obj} {ao ao' : AO} {r : PV × St} (g : Go X.h₀ cx T σ s T₁ σ₁ s₁) (t : T₁ a = some (.lab k, o)) (hl : σ₁.look k = some ao) (hi : ∀ c ns vs, ao ≠ .inst c ns vs) (hi' : ∀ c ns vs, ao' ≠ .inst c ns vs)
  (R : ORel (T₁.set a (some (.lab k, o'))) k ao' o') (ho' : h'.get? a = some o') (sb : Heap.SameBut a s₁.heap h') (e : (PV.f .none, σ₁.put k ao') = r) : Aft X.h₀ cx T σ s r.2 (fun T' v => PRel T' r.1 v) .none { s₁ with heap := h' } := by
 subst e
 exact (turned g.isIn g.rel t hl hi hi' R ho' sb).elim fun T₃ h => ⟨T₃, g.trans h.1, h.2⟩
theorem snd_append (hcl : X.cl = true) {r : PE} {l : List PE} {oe : Expr} {apos : Pos} {es : List Expr} (hn : notCall oe = true) (hpos : (apos.endLine == pos.line) = true) (hlen : es.length < 30) (ho : Snd X cx (Ev.e r) (eval oe env) PRel) (ht : Trees X cx Ev l (backTo pos (starEach es env))) :
  Snd X cx (stepE Ev P (.bm .append r l)) (eval (.Call (.Attribute oe (bmName .append) apos) es [] pos) env) PRel :=
 .mk' fun {σ z} e {Γ A} G {T s} H S => bm_k (b := .append) nofun e fun r1 r2 k xs eo el h1 h2 h3 ex e => app_k e
  (fun ll x hl hx hz e => list_meth hn hpos hlen ho ht eo el h1 h2 h3 ex hl (fun ha L hq => getMethod_builtin (name := Str.ofString "append") (lobj_is ha L).typeIs PySem.F.plainAttrs_list slot_list_append type_list_append (fun a' ea => by cases ea; obtain ⟨n, rfl⟩ := L; exact ⟨_, ha, rfl⟩) hq) G H S fun T₂ s₂ a o vs us G₂ t L Rl Ru => by
   rw [hx] at Ru
   obtain ⟨u, rfl, hu⟩ := one_rel Ru
   exact Wk.of_any G.isIn (append_ok (G₂.isIn _ _ _ t) L (by rw [Rl.len]; exact hz) fun h' o'' ho'' L'' sb => go_turned (o' := o'') (ao' := .list (ll ++ [x])) G₂ t hl (fun _ _ _ z => nomatch z) (fun _ _ _ z => nomatch z) ⟨_, L'', (Rl.append (.one hu)).mono (set_F t)⟩ ho'' sb e))
  (fun bs x c hl hx hc hz e => barr_meth hn hpos hlen ho ht eo el h1 h2 h3 ex hl (fun ha hcl hd hq => getMethod_builtin (name := Str.ofString "append") ⟨_, ha, hcl⟩ FF.plain_ba FF.slot_append FF.type_append (fun a' ea => by cases ea; exact ⟨_, ha, hd⟩) hq) G H S fun T₂ s₂ a o us G₂ t B Ru => by
   rw [hx] at Ru
   obtain ⟨u, rfl, hu⟩ := one_rel Ru
   refine byteOf_k hc fun i hi i1 i2 hb => ?_
   rw [hi] at hu
   obtain ⟨tu, rfl⟩ := hu
   subst hb
   exact append_ba (hcl ▸ G) (G₂.isIn _ _ _ t) B hz i1 i2 fun h' o'' ho'' B'' sb => go_turned (o' := o'') (ao' := .barr (bs ++ [i.toNat.toUInt8])) G₂ t hl (fun _ _ _ z => nomatch z) (fun _ _ _ z => nomatch z) B'' ho'' sb e)
end
section
variable {X : Wd} {cx : Cx} {env : Env} {Ev : Mine.Ev} {P : Prg} {pos : Pos}
theorem ext_k {σ : St} {k : Nat} {xs : List FV} {z : PV × St} {G : Prop} (e : bmIn P .extend k xs σ = some z)
  (K : ∀ b c x, σ.look k = some (.barr b) → xs = [x] → (x = .bytes c ∨ x = .barr c) → b.length + c.length ≤ 1000000 → (PV.f .none, σ.put k (.barr (b ++ c))) = z → G) : G := by
 refine ik e fun _ e => ?_
 have key : ∀ c x, xs = [x] → (x = .bytes c ∨ x = .barr c) → (match σ.look k with | some (.barr b) => if b.length + c.length ≤ 1000000 then some (PV.f .none, σ.put k (.barr (b ++ c))) else Option.none | _ => Option.none) = some z → G := fun c x hx hc e => by
  generalize hl : σ.look k = o at e
  induction o with
  | none => exact no e
  | some ao => induction ao with
   | barr b => exact ik e fun h e => K b c x hl hx hc h (Option.some.inj e)
   | _ => exact no e
 induction xs using List.casesOn with
 | nil => exact no e
 | cons x t => induction t using List.casesOn with
  | cons _ _ => induction x using FV.casesOn <;> exact no e
  | nil => induction x using FV.casesOn with
   | bytes c => exact key c _ rfl (.inl rfl) e
   | barr c => exact key c _ rfl (.inr rfl) e
   | _ => exact no e
theorem rev_k {σ : St} {k : Nat} {xs : List FV} {z : PV × St} {G : Prop} (e : bmIn P .reverse k xs σ = some z)
  (K : ∀ l, σ.look k = some (.list l) → xs = [] → l.length ≤ 1000000 → (PV.f .none, σ.put k (.list l.reverse)) = z → G) : G := by
 induction xs using List.casesOn with
 | cons _ _ => exact no e
 | nil =>
  dsimp only [bmIn, bmStep] at e
  generalize hl : σ.look k = o at e
  induction o with
  | none => exact no e
  | some ao => induction ao with
   | list l => exact ik e fun h e => K l hl rfl h (Option.some.inj e)
   | _ => exact no e
theorem snd_extend (hcl : X.cl = true) {r : PE} {l : List PE} {oe : Expr} {apos : Pos} {es : List Expr} (hn : notCall oe = true) (hpos : (apos.endLine == pos.line) = true) (hlen : es.length < 30) (ho : Snd X cx (Ev.e r) (eval oe env) PRel) (ht : Trees X cx Ev l (backTo pos (starEach es env))) :
  Snd X cx (stepE Ev P (.bm .extend r l)) (eval (.Call (.Attribute oe (bmName .extend) apos) es [] pos) env) PRel :=
 .mk' fun {σ z} e {Γ A} G {T s} H S => bm_k (b := .extend) nofun e fun r1 r2 k xs eo el h1 h2 h3 ex e => ext_k e
  fun bs c x hl hx hc hz e => barr_meth hn hpos hlen ho ht eo el h1 h2 h3 ex hl (fun ha hcl hd hq => getMethod_builtin (name := Str.ofString "extend") ⟨_, ha, hcl⟩ FF.plain_ba FF.slot_extend FF.type_extend (fun a' ea => by cases ea; exact ⟨_, ha, hd⟩) hq) G H S fun T₂ s₂ a o us G₂ t B Ru => by
   rw [hx] at Ru
   obtain ⟨u, rfl, hu⟩ := one_rel Ru
   refine extend_ba (hcl ▸ G) (G₂.isIn _ _ _ t) B hz ?_ fun h' o'' ho'' B'' sb => go_turned (o' := o'') (ao' := .barr (bs ++ c)) G₂ t hl (fun _ _ _ z => nomatch z) (fun _ _ _ z => nomatch z) B'' ho'' sb e
   rcases hc with hc | hc
   ·rw [hc] at hu; exact .inl hu
   ·rw [hc] at hu
    obtain ⟨d, od, rfl, td, Bd⟩ := hu
    exact .inr ⟨d, od, rfl, G₂.isIn _ _ _ td, Bd⟩
theorem snd_reverse {r : PE} {l : List PE} {oe : Expr} {apos : Pos} {es : List Expr} (hn : notCall oe = true) (hpos : (apos.endLine == pos.line) = true) (hlen : es.length < 30) (ho : Snd X cx (Ev.e r) (eval oe env) PRel) (ht : Trees X cx Ev l (backTo pos (starEach es env))) :
  Snd X cx (stepE Ev P (.bm .reverse r l)) (eval (.Call (.Attribute oe (bmName .reverse) apos) es [] pos) env) PRel :=
 .mk' fun {σ z} e {Γ A} G {T s} H S => bm_k (b := .reverse) nofun e fun r1 r2 k xs eo el h1 h2 h3 ex e => rev_k e
  fun ll hl hx hz e => list_meth hn hpos hlen ho ht eo el h1 h2 h3 ex hl (fun ha L hq => getMethod_builtin (name := Str.ofString "reverse") (lobj_is ha L).typeIs PySem.F.plainAttrs_list PySem.F.slot_list_reverse PySem.F.type_list_reverse (fun a' ea => by cases ea; obtain ⟨n, rfl⟩ := L; exact ⟨_, ha, rfl⟩) hq) G H S fun T₂ s₂ a o vs us G₂ t L Rl Ru => by
   rw [hx] at Ru
   have Ru : us = [] := Ru
   subst Ru
   exact Wk.of_any G.isIn (reverse_ok (G₂.isIn _ _ _ t) L (by rw [Rl.len]; exact hz) fun h' o'' ho'' L'' sb => go_turned (o' := o'') (ao' := .list ll.reverse) G₂ t hl (fun _ _ _ z => nomatch z) (fun _ _ _ z => nomatch z) ⟨_, L'', Rl.reverse.mono (set_F t)⟩ ho'' sb e)
end
section
variable {X : Wd} {cx : Cx} {env : Env} {Ev : Mine.Ev} {P : Prg} {pos : Pos}
theorem call_methG {o : PE} {oe : Expr} {name : Str} {apos : Pos} {es : List Expr} (hn : notCall oe = true) (hpos : (apos.endLine == pos.line) = true) (hlen : es.length < 30) (ho : Snd X cx (Ev.e o) (eval oe env) PRel) (hts : (backTo pos (starEach es env)).any (·.1) = false)
  {σ σ₁ : St} {ro : PV} (eo : Ev.e o σ = some (ro, σ₁)) {Γ : Ctx} {A : Around} (G : Good X.cl X.m Γ A) {T : Tab} {s : Shared} (H : T.In s.heap) (S : StRel X.h₀ cx T σ) {Q : Value → Shared → Prop}
  (h : ∀ T₁ s₁ ov, Go X.h₀ cx T σ s T₁ σ₁ s₁ → PRel T₁ ro ov → ∃ f, (∀ (pl : Sem Bool) (Q' : Value × List Value → Shared → Prop), Q' (f, [ov]) s₁ → wpAny (model X.prog X.w) A (getMethod ov name pl) Q' (fun _ _ => False) s₁) ∧
   Wk X.prog X.w Γ (spliced (backTo pos (starEach es env))) (fun vs s₂ => KeepIs f s₂ ∧ Wk X.prog X.w Γ (PySem.call f (ov :: vs) []) Q s₂) s₁) :
  Wk X.prog X.w Γ (eval (.Call (.Attribute oe name apos) es [] pos) env) Q s := by
 show Wk X.prog X.w Γ (do
  let ov ← attributeBase oe name env (eval oe env)
  standAt apos.atName
  methodCall oe name apos pos env ov (es.length + ([] : List Keyword).length) (backTo pos (starEach es env)) (backToKw pos (keywordEach [] env))) _ s
 rw [attributeBase_plain hn]
 refine Wk.bind2 (ho.go eo G H S) ?_
 rintro ov s₁ ⟨T₁, G₁, po⟩
 refine Wk.bind (Wk.standAt ?_)
 obtain ⟨f, hf, hcall⟩ := h T₁ s₁ ov G₁ po
 have hall : ((backTo pos (starEach es env)).all (!·.1)) = true := by
  exact List.all_eq_true.mpr fun x hx => by rw [any_no hts hx]; rfl
 have hform : methodCallForm (es.length + ([] : List Keyword).length) (backTo pos (starEach es env)) (backToKw pos (keywordEach [] env)) = true := by
  unfold methodCallForm
  rw [hall]
  show (true && true && decide (es.length + 0 + 0 < 30)) = true
  exact decide_eq_true (p := es.length + 0 + 0 < 30) hlen
 unfold methodCall
 rw [hform]
 refine Wk.bind (Wk.holding (Wk.of_any G.isIn (hf _ _ ?_)))
 have hp : methodCallPos true oe env apos pos = pure pos := by
  unfold methodCallPos
  rw [hpos]; rfl
 refine Wk.bind (Wk.of_eq hp (Wk.pure ?_))
 exact callWith_ok G.isIn hts hcall
theorem strs_of {T : Tab} {l : List FV} : ∀ {vs : List Value} {ss : List (List Nat)}, VRels T l vs → l.mapM strOf = some ss → ∃ ps : List (Str × Tok), vs = strValues ps ∧ ps.map (fun p => p.1.cps.toList) = ss := by
 induction l with
 | nil =>
  intro vs ss R e
  have e : some [] = some ss := e
  obtain rfl := Option.some.inj e
  exact ⟨[], R, rfl⟩
 | cons x l ih =>
  intro vs ss R e
  obtain ⟨v, r, rfl, p, q⟩ := R
  rw [List.mapM_cons] at e
  refine bk e fun c hc e => bk e fun bs hbs e => ?_
  obtain ⟨ps, h1, h2⟩ := ih q hbs
  obtain rfl := Option.some.inj e
  induction x using FV.casesOn with
  | str y =>
   obtain rfl := Option.some.inj hc
   obtain ⟨t, rfl⟩ := p
   exact ⟨(y, t) :: ps, by rw [h1]; rfl, congrArg (List.cons _) h2⟩
  | _ => exact no hc
theorem glued_flat (sep : Str) (hs : sep.cps = #[]) : ∀ (l : List Str), Builtin.Str.glued sep l = ⟨⟨(l.map (·.cps.toList)).flatten⟩⟩ := by
 have key : ∀ (l : List Str) (acc : Array Nat), l.foldl (fun acc p => acc ++ sep.cps ++ p.cps) acc = ⟨acc.toList ++ (l.map (·.cps.toList)).flatten⟩ := by
  intro l
  induction l with
  | nil => intro acc; simp
  | cons x l ih =>
   intro acc
   rw [List.foldl_cons, ih, hs]
   simp
 intro l
 unfold Builtin.Str.glued
 induction l using List.casesOn with
 | nil => simp; rfl
 | cons x l =>
  have := key l x.cps
  simp only [List.drop_succ_cons, List.drop_zero, List.headD_cons]
  rw [this]
  simp
end
structure NewK (K : Frag) (C fI : Addr) : Prop where
 makes : makesIn K C = true
 init : findIn K (.ref C) "__init__" = some (some (.ref fI))
 fn : typeIn K (.ref fI) = some (.type "function")
 call : specialIn K (.ref C) "__call__" = some (some (.builtin "type.__call__"))
 cls : ∃ o cd, K.lookup C = some o ∧ o.data = .cls cd
section
variable {X : Wd} {cx : Cx} {env : Env} {Ev : Mine.Ev} {P : Prg} {pos : Pos} {mg mb : Str → Option Value} {K : Frag}
theorem KeepIs.cls {C fI : Addr} {s : Shared} (XK : K.In s.heap) (k : NewK K C fI) : KeepIs (.ref C) s := fun M A E Q h => by
 obtain ⟨o, cd, ho, hd⟩ := k.cls
 unfold keeperOf
 refine wpAny_bind (wpAny_load (XK _ _ ho) ?_)
 rw [hd]
 refine wpAny_bind ((looks_specialIn XK k.call).here ?_)
 exact wpAny_pure h.2
theorem new_code {C fI : Addr} {lvl : Nat} {f : Nat} (XK : K.In X.h₀) (k : NewK K C fI) (F : FnOk X.prog X.w X.h₀ false P.D f fI lvl) (hl : lvl + 1 ≤ X.m) {Γ : Ctx} {A : Around} (G : Good X.cl X.m Γ A) {T : Tab} {σ σ' : St} {s : Shared} (H : T.In s.heap) (S : StRel X.h₀ cx T σ) {xs : List FV} {us : List Value}
  (R : VRels T xs us) {lab : Nat} {keep : List Nat} (hfr : σ.fresh lab = true) (e : doCall P.D f (.o lab :: xs.map .f) [lab] keep (σ.put lab (.inst C [] [])) = some (.f .none, σ')) (hh : held (σ.put lab (.inst C [] [])) σ' (.o lab) = true) :
  Wk X.prog X.w Γ (PySem.call (.ref C) us []) (Aft X.h₀ cx T σ s σ' (fun T' v => PRel T' (.o lab) v)) s := by
 refine Wk.of_any G.isIn (wpAny_call ?_)
 have XK' : K.In s.heap := XK.keeps fun b o e => base_at H S e
 obtain ⟨h, g, d, t, os⟩ := s
 refine make_core (makes_of XK' k.makes) (looks_findIn XK' k.init) (fun self => bind_fn XK' self k.fn) (.inl rfl) ?_
 obtain ⟨h1, h2⟩ := fresh_of hfr
 have n1 : T (h.objs.size + 1) = none := by
  cases q : T (h.objs.size + 1) with
  | none => rfl
  | some p => exact absurd (Heap.lt_size (H _ _ _ q)) (by show ¬ h.objs.size + 1 < h.objs.size; omega)
 have n2 : T h.objs.size = none := Tab.fresh H
 have hsz : (h.push emptyDict).objs.size = h.objs.size + 1 := Heap.size_push _ _
 obtain ⟨S₂, N₂⟩ := S.labelInst (a := h.objs.size + 1) (dx := h.objs.size) (k := lab) (c := C) (n := 0) n1 n2 (Nat.succ_ne_self _) h1 h2
 have gd : ((h.push emptyDict).push (instObj C h.objs.size)).get? h.objs.size = some emptyDict := Heap.get?_push_of_some _ (Heap.get?_push_size _ rfl)
 have ga : ((h.push emptyDict).push (instObj C h.objs.size)).get? (h.objs.size + 1) = some (instObj C h.objs.size) := by rw [← hsz]; exact Heap.get?_push_size _ rfl
 have H₂ : ((T.set h.objs.size (some (.dict lab, dictOf [] 0))).set (h.objs.size + 1) (some (.lab lab, instObj C h.objs.size))).In ((h.push emptyDict).push (instObj C h.objs.size)) := fun b w o e => by
  by_cases hb : b = h.objs.size + 1
  ·subst hb; rw [Tab.set_self] at e; obtain ⟨rfl, rfl⟩ := Prod.mk.inj (Option.some.inj e); exact ga
  ·rw [Tab.set_ne _ _ hb] at e
   by_cases hb2 : b = h.objs.size
   ·subst hb2; rw [Tab.set_self] at e; obtain ⟨rfl, rfl⟩ := Prod.mk.inj (Option.some.inj e); exact gd
   ·rw [Tab.set_ne _ _ hb2] at e
    exact Heap.get?_push_of_some _ (Heap.get?_push_of_some _ (H _ _ _ e))
 have pa : PRel ((T.set h.objs.size (some (.dict lab, dictOf [] 0))).set (h.objs.size + 1) (some (.lab lab, instObj C h.objs.size))) (.o lab) (.ref (h.objs.size + 1)) := ⟨_, _, rfl, .inl (Tab.set_self ..)⟩
 have Rv : RVs ((T.set h.objs.size (some (.dict lab, dictOf [] 0))).set (h.objs.size + 1) (some (.lab lab, instObj C h.objs.size))) (.o lab :: xs.map .f) (.ref (h.objs.size + 1) :: us) := by
  refine ⟨_, _, rfl, pa, ?_⟩
  have R' := R.mono N₂.le.froz
  clear R e
  induction xs generalizing us with
  | nil => exact R'
  | cons x xs ih =>
   obtain ⟨v, r, rfl, p, q⟩ := R'
   exact ⟨v, r, rfl, p, ih q⟩
 intro Γ' p hc hB
 have hw : (Code.builtin "type.__call__" ⟨.ref C :: us, []⟩).weight = 1 := rfl
 have hu : (Code.builtin "type.__call__" ⟨.ref C :: us, []⟩).cUnits = 1 := rfl
 have GB : GoodB false lvl Γ' (A.under (.builtin "type.__call__" ⟨.ref C :: us, []⟩)) :=
  ⟨hB, by have := G.depth; show A.depth + (Code.builtin "type.__call__" ⟨.ref C :: us, []⟩).weight + lvl ≤ 900; rw [hw]; omega,
   by have := G.units; show A.units + (Code.builtin "type.__call__" ⟨.ref C :: us, []⟩).cUnits + 8 * lvl ≤ 9000; rw [hu]; omega, G.handled, fun h => nomatch h⟩
 have := F e hc GB (s := ⟨(h.push emptyDict).push (instObj C h.objs.size), g, d, t, os⟩) H₂ S₂ Rv p
 refine wpCode_mono ?_ this
 intro r s' hr
 induction r with
 | error e => exact hr.elim
 | ok fl =>
  obtain ⟨v, rfl, T₃, G₃, hv⟩ := hr
  refine ⟨hv, T₃, ⟨?_, G₃.isIn, G₃.rel, N₂.trans G₃.nx⟩, G₃.nx.held pa hh⟩
  obtain ⟨tk, e⟩ := G₃.same
  exact ⟨tk, by rw [e]⟩
end
section
variable {X : Wd} {cx : Cx} {env : Env} {Ev : Mine.Ev} {P : Prg} {pos : Pos} {mg mb : Str → Option Value} {K : Frag}
theorem join_len (sep : Str) (hs : sep.length = 0) (l : List Str) : ∀ n : Nat, l.foldl (· + ·.length + sep.length) n = n + ((l.map (·.cps.toList)).flatten).length := by
 induction l with
 | nil => exact fun n => rfl
 | cons x l ih =>
  intro n
  rw [List.foldl_cons, ih, hs, List.map_cons, List.flatten_cons, List.length_append, Nat.add_zero, Nat.add_assoc]
  rfl
theorem join_call {prog : Program} {w : World} {A : Around} {E : Value → Shared → Prop} {s : Shared} {Q : Value → Shared → Prop} {sep : Str} {t : Tok} {a : Addr} {o : Obj} {us : List Value} {T : Tab} {ll : List FV} {ss : List (List Nat)} (ho : s.heap.get? a = some o) (L : LObj o us) (Rl : VRels T ll us) (hss : ll.mapM strOf = some ss) (hs : sep.length = 0)
  (hz : ss.flatten.length ≤ 1000000) (fin : ∀ t' k, Q (.str ⟨⟨ss.flatten⟩⟩ t') { s with toks := k }) : wpAny (model prog w) A (PySem.call (.builtin "str.join") [.str sep t, .ref a] []) Q E s := by
 obtain ⟨ps, rfl, hps⟩ := strs_of Rl hss
 have hsep : sep.cps = #[] := Array.eq_empty_of_size_eq_zero hs
 have hmap : (ps.map (·.1)).map (·.cps.toList) = ss := by rw [List.map_map]; exact hps
 have hflat : Builtin.Str.glued sep (ps.map (·.1)) = ⟨⟨ss.flatten⟩⟩ := by rw [glued_flat sep hsep, hmap]
 have htl : Builtin.Str.tooLong ((ps.map (·.1)).toArray.foldl (· + ·.length + sep.length) 0) = false := by
  rw [List.foldl_toArray, join_len sep hs, hmap, Nat.zero_add]
  unfold Builtin.Str.tooLong
  rw [sizeLine_eq]
  exact decide_eq_false (Nat.not_lt.mpr (Nat.le_trans hz (by decide)))
 refine call_meets PySem.F.slot_str_join (typeIs_str _ _ _) PySem.F.entry_str_join (PySem.F.args_str_join_2 _ _) (meets_str_join_list sep t a ps htl) ⟨?_, ?_⟩
 ·have := lobj_is ho L
  simpa using this
 ·have hstr : (Made.str (Builtin.Str.glued sep (ps.map (·.1)))).post (fun v s' => wants Q E (.ok (.ret v)) s') s := by
   rw [hflat]
   exact ⟨by rw [sizeLine_eq]; exact Nat.le_trans hz (by decide), fin _ _⟩
  induction ps using List.casesOn with
  | nil => exact hstr
  | cons p ps => induction ps using List.casesOn with
   | cons _ _ => exact hstr
   | nil =>
    have e1 : p.1 = ⟨⟨ss.flatten⟩⟩ := by
     rw [← hflat]
     unfold Builtin.Str.glued
     simp
    have := fin p.2 s.toks
    rw [← e1] at this
    exact this
theorem join_k {r : PE} {l : List PE} {σ : St} {z : PV × St} {G : Prop} (e : stepE Ev P (.bm .join r l) σ = some z)
  (K : ∀ r1 r2 sep v ll ss, Ev.e r σ = some r1 → evL Ev l r1.2 = some r2 → r1.1 = .f (.str sep) → r2.1 = [v] → sep.length = 0 → r2.2.deref v = some (.list ll) → ll.mapM strOf = some ss → ss.flatten.length ≤ 1000000 → (PV.f (.str ⟨⟨ss.flatten⟩⟩), r2.2) = z → G) : G :=
 bk e fun r1 eo e => bk e fun r2 el e => ik e fun _ e => by
  obtain ⟨ro, σ₁⟩ := r1
  obtain ⟨rs, σ₂⟩ := r2
  have gen : ∀ ro' : PV, (fvs rs).bind (fun xs => bmStep .join ro' xs σ₂) = some z → G := fun ro' e => bk e fun xs _ e => no e
  induction ro with
  | o k => exact gen (.o k) e
  | f y =>
   induction y using FV.casesOn with
   | str sep => induction rs using List.casesOn with
    | nil => exact gen _ e
    | cons v t => induction t using List.casesOn with
     | cons _ _ => exact gen _ e
     | nil =>
      refine ik e fun hs e => bk e fun x hx e => ?_
      induction x using FV.casesOn with
      | list ll => exact bk e fun ss hss e => ik e fun hz e => K _ _ sep v ll ss eo el rfl rfl (eq_of_beq hs) hx hss hz.1 (Option.some.inj e)
      | _ => exact no e
   | _ => exact gen _ e
theorem snd_join {r : PE} {l : List PE} {oe : Expr} {apos : Pos} {es : List Expr} (hn : notCall oe = true) (hpos : (apos.endLine == pos.line) = true) (hlen : es.length < 30) (ho : Snd X cx (Ev.e r) (eval oe env) PRel) (ht : Trees X cx Ev l (backTo pos (starEach es env))) :
  Snd X cx (stepE Ev P (.bm .join r l)) (eval (.Call (.Attribute oe (bmName .join) apos) es [] pos) env) PRel :=
 .mk' fun {σ z} e {Γ A} G {T s} H S => join_k e fun r1 r2 sep v ll ss eo el h1 h2 hs hx hss hz e => gotEq e (call_methG (ro := r1.1) (σ₁ := r1.2) hn hpos hlen ho ht.any eo G H S fun T₁ s₁ ov G₁ po => by
  rw [h1] at po
  obtain ⟨t, rfl⟩ := po
  have el : evL Ev l r1.2 = some ([v], r2.2) := by rw [← h2]; exact el
  refine ⟨.builtin "str.join", fun pl Q' hq => getMethod_builtin (name := Str.ofString "join") (typeIs_str _ _ _) PySem.F.plainAttrs_str PySem.F.slot_str_join PySem.F.type_str_join (fun a' ea => nomatch ea) hq, Wk.mono (spliced_one ht el G G₁.isIn G₁.rel) fun vs s₂ h => ?_⟩
  obtain ⟨v', T₂, rfl, G₂, pv'⟩ := h
  obtain ⟨a, w', o, us, rfl, ta, L, Rl⟩ := deref_rel G₂.rel pv' hx
  exact ⟨.builtin, Wk.of_any G.isIn (join_call (G₂.isIn _ _ _ ta) L Rl hss hs hz fun t' k => ⟨T₂, (G₁.trans G₂).trans (.toks G₂.isIn G₂.rel k), t', rfl⟩)⟩)
theorem snd_new (N : Names X.h₀ mg mb) (R : EnvR env cx) (XK : K.In X.h₀) {c : Nat} {l : List PE} {lab : Nat} {keep : List Nat} {x : Str} {np : Pos} {es : List Expr} {fI : Addr} {lvl : Nat} (k : NewK K (P.clsAddr c) fI) (hk : env.kindOf x = some .globalImplicit) (hg : GlobIs X.h₀ mg mb x (.ref (P.clsAddr c)))
  (hd : (x == ("__debug__" : Str)) = false) (F : FnOk X.prog X.w X.h₀ false P.D (P.clsInit c) fI lvl) (hl : lvl + 1 ≤ X.m) (ht : Trees X cx Ev l (backTo pos (starEach es env))) :
  Snd X cx (stepE Ev P (.new c l lab keep)) (eval (.Call (.Name x np) es [] pos) env) PRel := by
 refine .of fun {σ pv σ'} e {Γ A} G {T s} H S => ?_
 refine bk e fun q el e => bk e fun xs ex e => ik e fun hfr e => bk e fun p hc e => ?_
 obtain ⟨rv, σ₂⟩ := p
 induction rv with
 | o _ => exact no e
 | f y => induction y using FV.casesOn with
  | none =>
   refine ik e fun hh e => ?_
   obtain ⟨rfl, rfl⟩ := Prod.mk.inj (Option.some.inj e)
   exact call_nameG N R hk hg hd G H S ht.any (Wk.mono ((spliced_ok ht).go el G H S) fun us s₁ h => h.elim fun T₁ h => ⟨KeepIs.cls (XK.keeps fun b o e => base_at h.1.isIn h.1.rel e) k,
    Wk.mono (new_code XK k F hl G h.1.isIn h.1.rel ((h.2 (held_fvs ex)).fvs ex) hfr hc hh) fun v s₂ h' => h'.elim fun T₂ h' => ⟨T₂, h.1.trans h'.1, h'.2⟩⟩)
  | _ => exact no e
end
section
variable {M : Model} {A : Around} {E : Value → Shared → Prop} {s : Shared}
theorem closure_ok {scope : Scope} {env : Env} (h : ∀ x, (x, NameKind.free) ∈ scope.names → ∃ c, env.cells.lookup x = some c) {Q : List (Str × Addr) → Shared → Prop}
  (hQ : ∀ cs, (∀ x c, (x, NameKind.free) ∈ scope.names → env.cells.lookup x = some c → cs.lookup x = some c) → Q cs s) : wpAny M A (closureFor scope env) Q E s := by
 unfold closureFor
 refine wpAny_bind (wpAny_forIn_list _ (fun rest cs s' => s' = s ∧ ∃ done, scope.names = done ++ rest ∧ ∀ x c, (x, NameKind.free) ∈ done → env.cells.lookup x = some c → cs.lookup x = some c) _ ?_ ?_ scope.names [] ⟨rfl, [], rfl, fun x c hx => nomatch hx⟩)
 ·rintro ⟨x, k⟩ rest cs s' ⟨rfl, done, hd, hc⟩
  have hd' : scope.names = (done ++ [(x, k)]) ++ rest := by rw [hd, List.append_assoc]; rfl
  by_cases hk : (k == NameKind.free) = true
  ·have hk' : k = .free := eq_of_beq hk
   subst hk'
   obtain ⟨c, hcx⟩ := h x (by rw [hd]; exact List.mem_append_right _ (.head _))
   show wpAny M A (if (NameKind.free == NameKind.free) = true then _ else _) _ _ _
   rw [if_pos hk]
   refine wpAny_bind (wpAny_cellOf hcx (wpAny_pure ⟨rfl, done ++ [(x, .free)], hd', fun y d hy hl => ?_⟩))
   rw [List.lookup_cons]
   by_cases hyx : y = x
   ·rw [hyx] at hl
    rw [hyx, beq_self_eq_true]; exact hcx.symm.trans hl
   ·rw [beq_false_of_ne hyx]
    exact hc y d ((List.mem_append.mp hy).resolve_right fun q => hyx (congrArg Prod.fst (List.mem_singleton.mp q))) hl
  ·show wpAny M A (if (k == NameKind.free) = true then _ else _) _ _ _
   rw [if_neg hk]
   refine wpAny_pure ⟨rfl, done ++ [(x, k)], hd', fun y d hy hl => ?_⟩
   exact hc y d ((List.mem_append.mp hy).resolve_right fun q => hk (beq_iff_eq.mpr (congrArg Prod.snd (List.mem_singleton.mp q)).symm)) hl
 ·rintro cs s' ⟨rfl, done, hd, hc⟩
  rw [List.append_nil] at hd
  exact wpAny_pure (hQ cs (by rw [hd]; exact hc))
end
noncomputable def inOwn (F : List Addr) (a : Addr) : Own → Own
 | .loc => .fr
 | .cel => if F.contains a then .cel else .fr
 | w => w
noncomputable def inT (F : List Addr) (T : Tab) : Tab := fun a => (T a).map fun p => (inOwn F a p.1, p.2)
theorem inT_at {F : List Addr} {T : Tab} {a : Addr} {w : Own} {o : Obj} (e : T a = some (w, o)) : inT F T a = some (inOwn F a w, o) := by unfold inT; rw [e]; rfl
theorem inT_from {F : List Addr} {T : Tab} {a : Addr} {w : Own} {o : Obj} (e : inT F T a = some (w, o)) : ∃ w', T a = some (w', o) ∧ w = inOwn F a w' := by
 unfold inT at e
 cases q : T a with
 | none => rw [q] at e; exact no e
 | some p => rw [q] at e; obtain ⟨rfl, rfl⟩ := Prod.mk.inj (Option.some.inj e); exact ⟨p.1, rfl, rfl⟩
noncomputable def keepO : Own → Bool
 | .fr | .loc | .cel => false
 | _ => true
noncomputable def sameO : Own → Bool
 | .fr | .loc => false
 | _ => true
theorem own_keep {F : List Addr} {a : Addr} {w : Own} (h : inOwn F a w = .fr) : keepO w = false := by
 induction w <;> first | rfl | exact nomatch h
theorem inOwn_eq {F a w w'} (h : w' = inOwn F a w) (h1 : keepO w' = true) : w = w' := by
 have key : ∀ c : Bool, w' = (if c = true then Own.cel else .fr) → w = w' := fun c h => by rw [h] at h1; cases c <;> exact nob h1
 induction w with
 | loc => rw [h] at h1; exact nob h1
 | cel => exact key _ h
 | _ => exact h.symm
theorem inOwn_no {F a w} : inOwn F a w ≠ .loc ∧ (inOwn F a w = .cel → F.contains a = true) := by
 have key : ∀ c : Bool, (if c = true then Own.cel else .fr) ≠ .loc ∧ ((if c = true then Own.cel else .fr) = .cel → c = true) := fun c => by
  cases c with
  | true => exact ⟨nofun, fun _ => rfl⟩
  | false => exact ⟨nofun, nofun⟩
 induction w with
 | cel => exact key _
 | _ => exact ⟨nofun, nofun⟩
theorem inT_in {F : List Addr} {T : Tab} {h : Heap} (H : T.In h) : (inT F T).In h := fun a w o e => let ⟨w', e', _⟩ := inT_from e; H a w' o e'
theorem comp_start {h₀ : Heap} {cx : Cx} {T : Tab} {σ : St} (S : StRel h₀ cx T σ) {L : Addr} {oL : Obj} {x : Str} {free : List Nat} {fn : List (Str × Addr)} (hL : T L = none) (N : NsO oL (fun _ => none))
  (hf : ∀ (i : Nat) y c, fn[i]? = some (y, c) → ∃ j, free[i]? = some j ∧ cx.names[j]? = some (y, some c)) (hlen : fn.length = free.length) :
  StRel h₀ ⟨L, (x, none) :: fn.map fun p => (p.1, some p.2)⟩ ((inT (fn.map (·.2)) T).set L (some (.loc, oL))) { σ with loc := none :: free.map fun j => (σ.loc[j]?).join } := by
 have hL' : inT (fn.map (·.2)) T L = none := by unfold inT; rw [hL]; rfl
 have E : Ext (inT (fn.map (·.2)) T) ((inT (fn.map (·.2)) T).set L (some (.loc, oL))) := ext_set hL'
 have fwd : ∀ {a w o}, T a = some (w, o) → inOwn (fn.map (·.2)) a w = w → ((inT (fn.map (·.2)) T).set L (some (.loc, oL))) a = some (w, o) := fun {a w o} e h => E _ _ _ (by rw [inT_at e, h])
 have from_ : ∀ {a w o}, ((inT (fn.map (·.2)) T).set L (some (.loc, oL))) a = some (w, o) → (a = L ∧ w = .loc) ∨ ∃ w', T a = some (w', o) ∧ w = inOwn (fn.map (·.2)) a w' := fun {a w o} e => by
  by_cases hb : a = L
  ·rw [hb, Tab.set_self] at e; exact .inl ⟨hb, (congrArg Prod.fst (Option.some.inj e)).symm⟩
  ·rw [Tab.set_ne _ _ hb] at e; exact .inr (inT_from e)
 have back : ∀ {a w o}, ((inT (fn.map (·.2)) T).set L (some (.loc, oL))) a = some (w, o) → keepO w = true → T a = some (w, o) := fun {a w o} e h =>
  (from_ e).elim (fun h' => by rw [h'.2] at h; exact nob h) fun h' => h'.elim fun w' h' => inOwn_eq h'.2 h ▸ h'.1
 have Fm : FMono T ((inT (fn.map (·.2)) T).set L (some (.loc, oL))) := fun a o e => fwd e rfl
 have Lm : LMono T ((inT (fn.map (·.2)) T).set L (some (.loc, oL))) := fun a k o e => ⟨o, e.imp (fun e => fwd e rfl) (fun e => fwd e rfl)⟩
 refine ⟨fun a o e => Fm _ _ (S.base a o e), ⟨⟨oL, _, Tab.set_self .., N, fun i y pv hx hl => ?_⟩, fun i y c hx => ?_⟩, fun a o e => ?_, fun a o e => ?_, fun k ao e => (S.led k ao e).elim fun a h => h.elim fun o h => ⟨a, o, fwd h.1 rfl, h.2.mono Fm Lm (fun _ _ e => fwd e rfl)⟩, fun k a b o o' e e' => S.labU k a b _ _ (back e rfl) (back e' rfl),
  fun k a b o o' e e' => S.dictU k a b _ _ (back e rfl) (back e' rfl), fun k a b o o' e e' => S.brwU k a b _ _ (back e rfl) (back e' rfl), fun k a o e => S.live k a o (back e rfl), fun k a o e => S.dead k a o (back e rfl), S.lentD, fun k a o e => S.dicL k a o (back e rfl)⟩
 ·induction i using Nat.casesOn with
  | zero => exact nomatch hl
  | succ i =>
   have hx : (fn.map fun p => (p.1, some p.2))[i]? = some (y, none) := hx
   rw [List.getElem?_map] at hx
   exact mk hx fun p _ e => nomatch (Prod.mk.inj e).2
 ·induction i using Nat.casesOn with
  | zero => exact nomatch (Prod.mk.inj (Option.some.inj hx)).2
  | succ i =>
   have hx : (fn.map fun p => (p.1, some p.2))[i]? = some (y, some c) := hx
   rw [List.getElem?_map] at hx
   refine mk hx fun p hp e => ?_
   have e1 := (Prod.mk.inj e).1
   have e2 := Option.some.inj (Prod.mk.inj e).2
   subst e1 e2
   obtain ⟨j, hj, hc⟩ := hf i p.1 p.2 hp
   obtain ⟨oc, cv, t, d, kk⟩ := S.loc.cel j p.1 p.2 hc
   refine ⟨oc, cv, fwd t ?_, d, fun pv hl => (kk pv ?_).elim fun v h => ⟨v, h.1, h.2.mono Fm Lm⟩⟩
   ·exact if_pos (List.contains_iff_mem.mpr (List.mem_map.mpr ⟨p, List.mem_of_getElem? hp, rfl⟩))
   ·have hl : (free.map fun j => (σ.loc[j]?).join)[i]? = some (some pv) := hl
    rw [map_at hj] at hl
    exact Option.join_eq_some_iff.mp (Option.some.inj hl)
 ·exact (from_ e).elim (·.1) fun h => h.elim fun w' h => absurd h.2.symm inOwn_no.1
 ·refine (from_ e).elim (fun h => nomatch h.2) fun h => h.elim fun w' h => ?_
  obtain ⟨p, hp, rfl⟩ := List.mem_map.mp (List.contains_iff_mem.mp (inOwn_no.2 h.2.symm))
  obtain ⟨i, hi⟩ := List.getElem?_of_mem hp
  exact ⟨i + 1, p.1, map_at (f := fun p : Str × Addr => (p.1, some p.2)) hi⟩
noncomputable def outT (T T₂ : Tab) : Tab := fun a => match T₂ a with
 | some (.fr, _) => T a
 | some (.loc, _) => none
 | y => y
set_option genSizeOf false in
set_option genInjectivity false in
structure CC where
 h₀ : Heap
 cx : Cx
 T : Tab
 T₂ : Tab
 σ : St
 σ₂ : St
 L : Addr
 oL : Obj
 x : Str
 free : List Nat
 fn : List (Str × Addr)
 S : StRel h₀ cx T σ
 hL : T L = none
 hf : ∀ (i : Nat) y c, fn[i]? = some (y, c) → ∃ j, free[i]? = some j ∧ cx.names[j]? = some (y, some c)
 ok : cx.Ok
 S₂ : StRel h₀ ⟨L, (x, none) :: fn.map fun p => (p.1, some p.2)⟩ T₂ σ₂
 N : Nx ((inT (fn.map (·.2)) T).set L (some (.loc, oL))) T₂ { σ with loc := none :: free.map fun j => (σ.loc[j]?).join } σ₂
 hloc : ∀ i, i ≠ 0 → σ₂.loc[i]? = (none :: free.map fun j => (σ.loc[j]?).join)[i]?
 hchg : σ₂.chg.length = σ.chg.length
namespace CC
variable {c : CC} {a : Addr} {w : Own} {o : Obj} {k : Nat}
noncomputable def own (c : CC) (a : Addr) (w : Own) : Own := inOwn (c.fn.map (·.2)) a w
noncomputable def M (c : CC) : Tab := (inT (c.fn.map (·.2)) c.T).set c.L (some (.loc, c.oL))
noncomputable def O (c : CC) : Tab := outT c.T c.T₂
noncomputable def σ' (c : CC) : St := { c.σ₂ with loc := c.σ.loc }
theorem neL (e : c.T a = some (w, o)) : a ≠ c.L := fun h => no (c.hL ▸ h ▸ e : none = some (w, o))
theorem inn (e : c.T a = some (w, o)) : c.M a = some (c.own a w, o) := (Tab.set_ne _ _ (neL e)).trans (inT_at e)
theorem frm (e : c.M a = some (w, o)) (h : a ≠ c.L) : ∃ w', c.T a = some (w', o) ∧ w = c.own a w' := inT_from ((Tab.set_ne _ _ h).symm.trans e)
theorem hL₂ : ∃ oL₂, c.T₂ c.L = some (.loc, oL₂) := c.S₂.loc.ns.elim fun o h => h.elim fun m h => ⟨o, h.1⟩
theorem notL (e : c.T₂ a = some (w, o)) (h : w ≠ .loc) : a ≠ c.L := fun q => c.hL₂.elim fun o' t => h (congrArg Prod.fst (Option.some.inj (e.symm.trans (q ▸ t))))
theorem keep : c.σ₂.chg = c.σ.chg ∧ ∀ k a o, c.M a = some (.lab k, o) → ∃ o', c.T₂ a = some (.lab k, o') := by
 obtain ⟨new, h1, h2⟩ := c.N.keep
 have h3 := congrArg List.length h1
 rw [List.length_append, c.hchg] at h3
 obtain rfl := List.length_eq_zero_iff.mp (Nat.add_right_cancel ((Nat.zero_add _).trans h3)).symm
 exact ⟨h1, fun k a o e => h2 k a o (fun h => nomatch h) e⟩
theorem isFr (e : c.T a = some (w, o)) (h : c.own a w = .fr) : c.O a = some (w, o) := by
 have h2 := (c.N.le.fr a o).mp (h ▸ inn e)
 unfold O outT
 rw [h2]; exact e
theorem frT (e : c.T₂ a = some (.fr, o)) : ∃ w, c.T a = some (w, o) ∧ c.own a w = .fr :=
 (frm ((c.N.le.fr a o).mpr e) (notL e nofun)).elim fun w h => ⟨w, h.1, h.2.symm⟩
theorem same (e : c.T₂ a = some (w, o)) (h : sameO w = true) : c.O a = some (w, o) := by
 unfold O outT
 rw [e]
 induction w <;> first | rfl | exact nob h
theorem back (e : c.O a = some (w, o)) : (c.T₂ a = some (w, o) ∧ sameO w = true) ∨ (c.T₂ a = some (.fr, o) ∧ c.T a = some (w, o) ∧ c.own a w = .fr) := by
 unfold O outT at e
 cases q : c.T₂ a with
 | none => rw [q] at e; exact no e
 | some p =>
  rw [q] at e
  obtain ⟨w', o'⟩ := p
  have gen : (some (w', o') = some (w, o)) → sameO w' = true → (some (w', o') = some (w, o) ∧ sameO w = true) ∨ (some (w', o') = some (.fr, o) ∧ c.T a = some (w, o) ∧ c.own a w = .fr) := fun e h => .inl ⟨e, (show w' = w from congrArg Prod.fst (Option.some.inj e)) ▸ h⟩
  induction w' with
  | fr =>
   obtain ⟨w'', h1, h2⟩ := frT q
   obtain ⟨rfl, rfl⟩ := Prod.mk.inj (Option.some.inj (h1.symm.trans e))
   exact .inr ⟨rfl, h1, h2⟩
  | loc => exact no e
  | _ => exact gen e rfl
theorem plain (e : c.O a = some (w, o)) (h : keepO w = true) : c.T₂ a = some (w, o) := (back e).elim (·.1) fun h' => by exact nob (own_keep h'.2.2 ▸ h)
theorem F₂ : FMono c.T₂ c.O := fun a o e => same e rfl
theorem L₂ : LMono c.T₂ c.O := fun a k o e => ⟨o, e.imp (fun e => same e rfl) (fun e => same e rfl)⟩
theorem F : FMono c.T c.O := fun a o e => F₂ _ _ (c.N.le.froz _ _ (inn e))
theorem Lk {k a o} (e : c.T a = some (.lab k, o)) : ∃ o', c.O a = some (.lab k, o') := (keep.2 k a o (inn e)).elim fun o' h => ⟨o', same h rfl⟩
theorem Br {k a o} (e : c.T a = some (.brw k, o)) : c.O a = some (.brw k, o) := same ((c.N.le.brw _ _ _).mp (inn e)) rfl
theorem Lm : LMono c.T c.O := fun a k o e => e.elim (fun e => (Lk e).elim fun o' h => ⟨o', .inl h⟩) fun e => ⟨o, .inr (Br e)⟩
theorem cel {i : Nat} {y : Str} {d : Addr} (hx : c.cx.names[i]? = some (y, some d)) : ∃ oc cv, c.O d = some (.cel, oc) ∧ oc.data = .cell cv ∧ ∀ pv, c.σ.loc[i]? = some (some pv) → ∃ v, cv = some v ∧ PRel c.O pv v := by
 obtain ⟨oc, cv, t, dd, kk⟩ := c.S.loc.cel i y d hx
 cases hc : (c.fn.map (·.2)).contains d with
 | false => exact ⟨oc, cv, isFr t (by show inOwn _ _ _ = _; unfold inOwn; rw [hc]; rfl), dd, fun pv hl => (kk pv hl).elim fun v h => ⟨v, h.1, h.2.mono F Lm⟩⟩
 | true =>
  obtain ⟨p, hp, rfl⟩ := List.mem_map.mp (List.contains_iff_mem.mp hc)
  obtain ⟨j, hj⟩ := List.getElem?_of_mem hp
  obtain ⟨jj, h1, h2⟩ := c.hf j p.1 p.2 hj
  obtain rfl : i = jj := c.ok.cell i jj y p.1 p.2 hx h2
  obtain ⟨oc', cv', t', d', kk'⟩ := c.S₂.loc.cel (j + 1) p.1 p.2 (map_at (f := fun p : Str × Addr => (p.1, some p.2)) hj)
  refine ⟨oc', cv', same t' rfl, d', fun pv hl => (kk' pv ?_).elim fun v h => ⟨v, h.1, h.2.mono F₂ L₂⟩⟩
  exact (c.hloc (j + 1) nofun).trans ((map_at (f := fun j => (c.σ.loc[j]?).join) h1).trans (congrArg (fun z => some (Option.join z)) hl))
theorem celU (e : c.O a = some (.cel, o)) : ∃ (i : Nat) (y : Str), c.cx.names[i]? = some (y, some a) := by
 rcases back e with ⟨h, _⟩ | ⟨_, h, _⟩
 ·obtain ⟨i, y, hy⟩ := c.S₂.celU a o h
  induction i using Nat.casesOn with
  | zero => exact nomatch hy
  | succ i =>
   have hy : (c.fn.map fun p => (p.1, some p.2))[i]? = some (y, some a) := hy
   rw [List.getElem?_map] at hy
   refine Mine.mk hy fun p hp e => (c.hf i p.1 p.2 hp).elim fun j h => ⟨j, p.1, ?_⟩
   rw [← (Option.some.inj (Prod.mk.inj e).2)]; exact h.2
 ·exact c.S.celU a o h
theorem rel : StRel c.h₀ c.cx c.O c.σ' where
 base := fun a o e => F _ _ (c.S.base a o e)
 loc := ⟨c.S.loc.ns.elim fun o h => h.elim fun m h => ⟨o, m, isFr h.1 rfl, h.2.1, fun i y pv hx hl => (h.2.2 i y pv hx hl).elim fun v q => ⟨v, q.1, q.2.mono F Lm⟩⟩, fun i y d hx => cel hx⟩
 locU := fun a o e => (back e).elim (fun h => nob h.2) fun h => c.S.locU a o h.2.1
 celU := fun a o e => celU e
 led := fun k ao e => (c.S₂.led k ao e).elim fun a h => h.elim fun o h => ⟨a, o, same h.1 rfl, h.2.mono F₂ L₂ (fun _ _ e => same e rfl)⟩
 labU := fun k a b o o' e e' => c.S₂.labU k a b _ _ (plain e rfl) (plain e' rfl)
 dictU := fun k a b o o' e e' => c.S₂.dictU k a b _ _ (plain e rfl) (plain e' rfl)
 brwU := fun k a b o o' e e' => c.S₂.brwU k a b _ _ (plain e rfl) (plain e' rfl)
 live := fun k a o e => c.S₂.live k a o (plain e rfl)
 dead := fun k a o e => c.S₂.dead k a o (plain e rfl)
 lentD := c.S₂.lentD
 dicL := fun k a o e => c.S₂.dicL k a o (plain e rfl)
theorem own_brw (h : c.own a w = .brw k) : w = .brw k := by
 have key : ∀ b : Bool, (if b = true then Own.cel else .fr) ≠ .brw k := fun b => by cases b <;> exact nofun
 induction w with
 | cel => exact absurd h (key _)
 | _ => first | exact h | exact nomatch h
theorem nx : Nx c.T c.O c.σ c.σ' where
 le := ⟨F, fun a o => ⟨fun e => isFr e rfl, fun e => (back e).elim (fun h => nob h.2) (·.2.1)⟩, fun a k o => ⟨Br, fun e => (frm ((c.N.le.brw _ _ _).mpr (plain e rfl)) (notL (plain e rfl) nofun)).elim fun w h => own_brw h.2.symm ▸ h.1⟩⟩
 keep := ⟨[], keep.1, fun k a o _ e => Lk e⟩
 lent := c.N.lent
end CC
theorem comp_end {h₀ : Heap} {cx : Cx} {T T₂ : Tab} {σ σ₂ : St} (S : StRel h₀ cx T σ) {L : Addr} {oL : Obj} {x : Str} {free : List Nat} {fn : List (Str × Addr)} (hL : T L = none)
  (hf : ∀ (i : Nat) y c, fn[i]? = some (y, c) → ∃ j, free[i]? = some j ∧ cx.names[j]? = some (y, some c)) (ok : cx.Ok)
  (S₂ : StRel h₀ ⟨L, (x, none) :: fn.map fun p => (p.1, some p.2)⟩ T₂ σ₂)
  (N : Nx ((inT (fn.map (·.2)) T).set L (some (.loc, oL))) T₂ { σ with loc := none :: free.map fun j => (σ.loc[j]?).join } σ₂)
  (hloc : ∀ i, i ≠ 0 → σ₂.loc[i]? = (none :: free.map fun j => (σ.loc[j]?).join)[i]?) (hchg : σ₂.chg.length = σ.chg.length) :
  (∀ a w o, outT T T₂ a = some (w, o) → a ≠ L ∧ ∃ w', T₂ a = some (w', o)) ∧ StRel h₀ cx (outT T T₂) { σ₂ with loc := σ.loc } ∧ Nx T (outT T T₂) σ { σ₂ with loc := σ.loc } ∧ FMono T₂ (outT T T₂) := by
 let c : CC := ⟨h₀, cx, T, T₂, σ, σ₂, L, oL, x, free, fn, S, hL, hf, ok, S₂, N, hloc, hchg⟩
 exact ⟨fun a w o e => (CC.back (c := c) e).elim (fun h => ⟨CC.notL (c := c) h.1 (fun q => by rw [q] at h; exact nob h.2), w, h.1⟩) fun h => ⟨CC.notL (c := c) h.1 nofun, _, h.1⟩, CC.rel (c := c), CC.nx (c := c), CC.F₂ (c := c)⟩
section
variable {X : Wd} {cx : Cx} {env : Env} {Ev : Mine.Ev} {P : Prg} {pos : Pos}
structure CompS (X : Wd) (cx : Cx) (I D : Addr) (fp : List Addr) (xs : List FV) (Pi : Nat → Value → Prop) (Sti : Nat → Heap → Prop) (j : Nat) (T : Tab) (σ : St) (s : Shared) (done : List FV) (vs : List Value) (oD : Obj) : Prop where
 F : ForS X cx I fp xs Pi Sti j T σ s
 hnD : T D = none
 hD : s.heap.get? D = some oD
 LD : LObj oD vs
 RD : VRels T done vs
 hvj : vs.length = j
structure CompE (X : Wd) (cx : Cx) (I D : Addr) (T : Tab) (σ : St) (s : Shared) (σ' : St) (rs : List FV) (s' : Shared) (T' : Tab) (vs : List Value) (oD : Obj) : Prop where
 go : Go X.h₀ cx T σ s T' σ' s'
 noI : T' I = none
 noD : T' D = none
 dat : s'.heap.get? D = some oD
 obj : LObj oD vs
 rel : VRels T' rs vs
noncomputable def CompP (X : Wd) (cx : Cx) (I D : Addr) (T : Tab) (σ : St) (s : Shared) (σ' : St) (rs : List FV) (fl : Flow) (s' : Shared) : Prop := fl = .next ∧ ∃ T' vs oD, CompE X cx I D T σ s σ' rs s' T' vs oD
section
variable {elt : PE} {x : Str} {px : Pos} {eltE iter : Expr} {scope : Scope} {I D : Addr} {fp : List Addr} {xs : List FV} {Pi : Nat → Value → Prop} {Sti : Nat → Heap → Prop} {j : Nat} {T : Tab} {σ : St} {s : Shared} {done : List FV} {vs : List Value} {oD : Obj}
theorem comp_elt (R : EnvR env cx) (hx : cx.names[0]? = some (x, none)) (he : Snd X cx (Ev.e elt) (eval eltE env) PRel) (hID : I ≠ D) (hDf : D ∉ fp)
  (W : ∀ A : Around, A.handled = none → Walks X.prog X.w A I fp [I] xs.length Pi Sti) (hv : ∀ i h, Sti i h → ∃ o, h.get? I = some o) (C : CompS X cx I D fp xs Pi Sti j T σ s done vs oD) (hj : j < xs.length) {y rv : FV} (hy : xs[j]? = some y) {σ₁ : St} (e : Ev.e elt (σ.set 0 (.f y)) = some (.f rv, σ₁))
  {Γ : Ctx} {A : Around} (G : Good X.cl X.m Γ A) {v : Value} {h' : Heap} {tk : Tok} (hp : Pi j v) (st' : Sti (j + 1) h') (hk : ∀ a o, a ∉ [I] → s.heap.get? a = some o → h'.get? a = some o) {β γ : Type} {K : Value → Sem β} {K₂ : β → Sem γ} {Q : γ → Shared → Prop}
  (h : ∀ u s₂, s₂.heap.get? D = some oD → (∀ h'' oD', h''.get? D = some oD' → LObj oD' (vs ++ [u]) → Heap.SameBut D s₂.heap h'' → ∃ T₂, Go X.h₀ cx T σ s T₂ σ₁ { s₂ with heap := h'' } ∧ CompS X cx I D fp xs Pi Sti (j + 1) T₂ σ₁ { s₂ with heap := h'' } (done ++ [rv]) (vs ++ [u]) oD') → Wk X.prog X.w Γ (K u) (fun b s' => Wk X.prog X.w Γ (K₂ b) Q s') s₂) :
  Wk X.prog X.w Γ ((do standAt px; bindName env x v) >>= fun _ => (eval eltE env >>= K) >>= K₂) Q { s with heap := h', toks := tk } := by
 have H' := out_of C.F.H C.F.hn hk
 have hD' : h'.get? D = some oD := hk D oD (fun q => hID (List.mem_singleton.mp q).symm) C.hD
 obtain ⟨oI, hoI⟩ := hv _ _ st'
 obtain ⟨y', hy', vr⟩ := C.F.item j v hp
 cases hy.symm.trans hy'
 have hnD₁ : (T.set I (some (.fr, oI))) D = none := Tab.up C.hnD (Ne.symm hID)
 refine Wk.bind (Wk.bind (Wk.standAt (Wk.of_any G.isIn (st_var (s := { s with heap := h', toks := tk }) (pv := .f y) R (in_put (in_put H' hoI) hD') ((C.F.S.addFr (a := I) (o := oI) C.F.hn).addFr (a := D) (o := oD) hnD₁) hx ((vr.mono (ext_set C.F.hn).f).mono (ext_set hnD₁).f) fun T₁ s₁ G₁ => ?_))))
 refine Wk.bind (he.bind e G G₁.isIn G₁.rel fun u s₂ T₂ G₂ hu => ?_)
 obtain ⟨hD₂, G₃, up₃⟩ := (G₁.trans G₂).without hnD₁
 obtain ⟨hI₂, G₄, up₄⟩ := G₃.without C.F.hn
 have nn2 : ((T₂.set D none).set I none) D = none := Tab.up (Tab.set_self ..) (Ne.symm hID)
 refine h u s₂ (G₂.isIn _ _ _ hD₂) fun h'' oD' hD'' LD' sb => ⟨_, ⟨G₄.re.same.elim fun t e => ⟨t, by rw [e]⟩, fun a w o e => ?_, G₄.rel, G₄.nx⟩, ⟨⟨fun a w o e => ?_, Tab.set_self .., G₄.rel, fun b hb hbI => ?_, fun i v hp => (C.F.item i v hp).elim fun y h => ⟨y, h.1, h.2.mono G₄.nx.le.froz⟩, ?_, hj⟩, nn2, hD'', LD', (C.RD.mono G₄.nx.le.froz).append (.one (up₄ (.f rv) _ (up₃ (.f rv) _ hu))), ?_⟩⟩
 ·exact (sb.2 a fun h => by rw [h, nn2] at e; exact no e).trans (G₄.isIn _ _ _ e)
 ·exact (sb.2 a fun h => by rw [h, nn2] at e; exact no e).trans (G₄.isIn _ _ _ e)
 ·obtain ⟨w, o', e', hs⟩ := C.F.fps b hb hbI
  exact ⟨w, o', stays_le G₄.nx.le e' hs, hs⟩
 ·refine (W A G.handled).frame _ _ _ st' fun b hb o ho => ?_
  rw [sb.2 b fun h => hDf (h ▸ hb)]
  by_cases hbI : b = I
  ·rw [hbI, hoI] at ho; obtain rfl := Option.some.inj ho; rw [hbI]
   rw [Tab.set_ne _ _ hID] at hI₂
   exact G₂.isIn _ _ _ hI₂
  ·obtain ⟨w, o', e', hs⟩ := C.F.fps b hb hbI
   cases (H' _ _ _ e').symm.trans ho
   exact G₄.isIn _ _ _ (stays_le G₄.nx.le e' hs)
 ·rw [List.length_append, C.hvj]; rfl
theorem comp_loop (R : EnvR env cx) (hx : cx.names[0]? = some (x, none)) (he : Snd X cx (Ev.e elt) (eval eltE env) PRel) (hID : I ≠ D) (hDf : D ∉ fp)
  (W : ∀ A : Around, A.handled = none → Walks X.prog X.w A I fp [I] xs.length Pi Sti) (hv : ∀ i h, Sti i h → ∃ o, h.get? I = some o) (hlen : xs.length ≤ 1000000) {ys : List FV} :
  ∀ {j : Nat} {σ : St} {r : List FV × St}, ys = xs.drop j → compLoop Ev elt ys σ = some r → ∀ {Γ : Ctx} {A : Around}, Good X.cl X.m Γ A →
   Γ.code = .compLoop (.ListComp eltE [⟨.Name x px, iter, [], 0⟩] scope pos) 0 (.ref I) (.ref D) env → ∀ {T : Tab} {s : Shared} {done : List FV} {vs : List Value} {oD : Obj}, CompS X cx I D fp xs Pi Sti j T σ s done vs oD →
   Cd X.prog X.w Γ (CompP X cx I D T σ s r.2 (done ++ r.1)) s := by
 induction ys with
 | nil =>
  intro j σ r hd e Γ A G hco T s done vs oD C
  obtain rfl := Option.some.inj e
  have st := C.F.st
  rw [drop_nil hd C.F.le] at st
  refine Cd.tree ?_
  rw [hco]
  show Wk X.prog X.w Γ ((compTurn (.ListComp eltE [⟨.Name x px, iter, [], 0⟩] scope pos) 0 (.ref I) (.ref D) env).onRaise (fun x => do noteFrame x env; theTreesLotGoes x)) _ s
  refine Wk.onRaise ?_
  rw [compTurn_list1]
  exact Wk.bind (Wk.standAt (Wk.bind (Wk.of_any G.isIn ((W A G.handled).done _ _ _ st fun h' tk hk => Wk.pure ⟨rfl, T, vs, oD, ⟨⟨tk, rfl⟩, out_of C.F.H C.F.hn hk, C.F.S, .refl _ _⟩, C.F.hn, C.hnD, hk D oD (fun q => hID (List.mem_singleton.mp q).symm) C.hD, C.LD, by rw [List.append_nil]; exact C.RD⟩))))
 | cons y ys ih =>
  intro j σ r hd e Γ A G hco T s done vs oD C
  have d := drop_cons hd
  refine bk e fun r1 eb e => ?_
  obtain ⟨u, σ₁⟩ := r1
  induction u with
  | o k => exact no e
  | f rv =>
   refine mk e fun r2 e3 e2 => Cd.tree ?_
   subst e2
   rw [hco]
   show Wk X.prog X.w Γ ((compTurn (.ListComp eltE [⟨.Name x px, iter, [], 0⟩] scope pos) 0 (.ref I) (.ref D) env).onRaise (fun x => do noteFrame x env; theTreesLotGoes x)) _ s
   refine Wk.onRaise ?_
   rw [compTurn_list1]
   refine Wk.bind (Wk.standAt (Wk.bind (Wk.of_any G.isIn ((W A G.handled).item j _ _ _ d.1 C.F.st fun v h' tk hp st' hk => ?_))))
   refine Wk.bind (show Wk X.prog X.w Γ (pure ()) _ _ from Wk.pure ?_)
   refine comp_elt R hx he hID hDf W hv C d.1 d.2.1 eb G hp st' hk fun u s₂ hgD K => Wk.bind (Wk.of_any G.isIn (append_ok hgD C.LD (by rw [C.hvj]; exact Nat.le_trans (Nat.le_of_lt d.1) hlen) fun h'' oD' hD'' LD' sb => ?_))
   obtain ⟨T₂, G₂, C₂⟩ := K h'' oD' hD'' LD' sb
   refine Wk.pure (Wk.pure ⟨rfl, Cd.mono (ih d.2.2 e3 (G.same hco) rfl C₂) fun fl s₃ h => ⟨h.1, h.2.elim fun T₃ h => h.elim fun vs' h => h.elim fun oD₃ E => ⟨T₃, vs', oD₃, G₂.trans E.go, E.noI, E.noD, E.dat, E.obj, ?_⟩⟩⟩)
   have := E.rel
   rwa [List.append_assoc] at this
end
end
structure CmpOk (cx : Cx) (scope : Scope) (x : Str) (free : List Nat) (fn : List (Str × Addr)) : Prop where
 kind : scope.kind = .function
 nocell : ∀ z ∈ scope.names, z.2 ≠ .cell
 tgt : scope.names.lookup x = some .local
 locs : ∀ z ∈ scope.names, z.2 = .local → scope.names.lookup z.1 = some .local
 len : fn.length = free.length
 at_ : ∀ (i : Nat) y c, fn[i]? = some (y, c) → ∃ j, free[i]? = some j ∧ cx.names[j]? = some (y, some c)
 fr : ∀ p ∈ fn, scope.names.lookup p.1 = some .free ∧ (p.1 == ("__classdict__" : Str)) = false
 all : ∀ z, (z, NameKind.free) ∈ scope.names → ∃ c, (z, c) ∈ fn
 nd : (fn.map (·.1)).Nodup
theorem mem_of_lookup' {α β : Type} [BEq α] [LawfulBEq α] {x : α} {v : β} : ∀ {l : List (α × β)}, l.lookup x = some v → (x, v) ∈ l
 | [], h => by exact no h
 | (y, u) :: r, h => by
  rw [List.lookup_cons] at h
  cases hb : x == y with
  | true => rw [hb] at h; obtain rfl := Option.some.inj h; have := eq_of_beq hb; subst this; simp
  | false => rw [hb] at h; exact List.mem_cons_of_mem _ (mem_of_lookup' h)
theorem lookup_relabel_free {env : Env} : ∀ {names : List (Str × NameKind)} {x : Str}, names.lookup x = some .free →
  (names.map fun (n, k) => if (k == NameKind.free && env.scope.kind == .function && env.kindOf n == some .cell) then (n, NameKind.cell) else (n, k)).lookup x = some (if (env.scope.kind == .function && env.kindOf x == some .cell) then .cell else .free)
 | [], _, h => by simp at h
 | (n, k) :: r, x, h => by
  have ih := @lookup_relabel_free env r x
  show List.lookup x ((if (k == NameKind.free && env.scope.kind == .function && env.kindOf n == some .cell) = true then (n, NameKind.cell) else (n, k)) :: _) = _
  cases hx : x == n with
  | true =>
   simp only [List.lookup_cons, hx] at h
   obtain rfl := Option.some.inj h
   have := eq_of_beq hx
   subst this
   cases hc : (env.scope.kind == .function && env.kindOf x == some .cell) <;> simp [List.lookup_cons, hc, Bool.and_assoc]
  | false =>
   simp only [List.lookup_cons, hx] at h
   by_cases hc : (k == NameKind.free && env.scope.kind == .function && env.kindOf n == some .cell) = true
   ·rw [if_pos hc]; simp only [List.lookup_cons, hx]; exact ih h
   ·rw [if_neg hc]; simp only [List.lookup_cons, hx]; exact ih h
theorem comp_env {env : Env} {cx : Cx} {scope : Scope} {x : Str} {free : List Nat} {fn cs : List (Str × Addr)} (R : EnvR env cx) (C : CmpOk cx scope x free fn) (hcs : ∀ x c, (x, NameKind.free) ∈ scope.names → env.cells.lookup x = some c → cs.lookup x = some c) (L : Addr) :
  EnvR { newEnv scope L env.globals cs env.qual none .none (some env) builtinsNs with scope := relabel scope env } ⟨L, (x, none) :: fn.map fun p => (p.1, some p.2)⟩ where
 kind := C.kind
 L := rfl
 glob := R.glob
 bi := R.bi
 loc := fun i y hy => by
  induction i using Nat.casesOn with
  | zero => simp at hy; subst hy; exact lookup_relabel_local C.tgt
  | succ i => simp at hy
 cel := fun i y c hy => by
  induction i using Nat.casesOn with
  | zero => simp at hy
  | succ i =>
   simp only [List.getElem?_cons_succ, List.getElem?_map, Option.map_eq_some_iff, Prod.mk.injEq, Option.some.injEq] at hy
   obtain ⟨p, hp, rfl, rfl⟩ := hy
   obtain ⟨j, hj, hc⟩ := C.at_ i p.1 p.2 hp
   obtain ⟨h1, h2⟩ := C.fr p (List.mem_of_getElem? hp)
   refine ⟨?_, hcs _ _ (mem_of_lookup' h1) (R.cel j _ _ hc).2⟩
   have h3 := lookup_relabel_free (env := env) h1
   show (relabel scope env).names.lookup p.1 = _ ∨ (relabel scope env).names.lookup p.1 = _ ∧ _
   unfold relabel
   rw [h3]
   split
   ·exact .inl rfl
   ·exact .inr ⟨rfl, h2⟩
 ok := by
  have tgt : ∀ p ∈ fn, p.1 ≠ x := fun p hp h => by
   have := (C.fr p hp).1
   rw [h, C.tgt] at this; cases this
  have one : ∀ (i j : Nat) p q, fn[i]? = some p → fn[j]? = some q → p.1 = q.1 → i = j := fun i j p q hi hj h => by
   have h1 : (fn.map (·.1))[i]? = some p.1 := by simp [hi]
   have h2 : (fn.map (·.1))[j]? = some p.1 := by simp [hj, h]
   obtain ⟨l1, _⟩ := List.getElem?_eq_some_iff.mp h1
   exact (List.getElem?_inj l1 C.nd).mp (h1.trans h2.symm)
  refine ⟨fun i j y c d hi hj => ?_, fun i j y z c hi hj => ?_⟩
  ·induction i using Nat.casesOn with
   | zero =>
    induction j using Nat.casesOn with
    | zero => rfl
    | succ j =>
     simp at hi hj
     obtain ⟨a, b, h1, h2, _⟩ := hj
     exact absurd (h2.trans hi.1.symm) (tgt _ (List.mem_of_getElem? h1))
   | succ i =>
    induction j using Nat.casesOn with
    | zero =>
     simp at hi hj
     obtain ⟨a, b, h1, h2, _⟩ := hi
     exact absurd (h2.trans hj.1.symm) (tgt _ (List.mem_of_getElem? h1))
    | succ j =>
     simp only [List.getElem?_cons_succ, List.getElem?_map, Option.map_eq_some_iff, Prod.mk.injEq] at hi hj
     obtain ⟨p, hp, rfl, _⟩ := hi
     obtain ⟨q, hq, hpq, _⟩ := hj
     rw [one i j p q hp hq hpq.symm]
  ·induction i using Nat.casesOn with
   | zero => simp at hi
   | succ i =>
    induction j using Nat.casesOn with
    | zero => simp at hj
    | succ j =>
     simp only [List.getElem?_cons_succ, List.getElem?_map, Option.map_eq_some_iff, Prod.mk.injEq, Option.some.injEq] at hi hj
     obtain ⟨p, hp, rfl, rfl⟩ := hi
     obtain ⟨q, hq, rfl, hpq⟩ := hj
     obtain ⟨j1, _, c1⟩ := C.at_ i p.1 p.2 hp
     obtain ⟨j2, _, c2⟩ := C.at_ j q.1 q.2 hq
     rw [hpq] at c2
     have := R.ok.cell j1 j2 _ _ _ c1 c2
     subst this
     rw [c1] at c2
     simp only [Option.some.injEq, Prod.mk.injEq] at c2
     rw [one i j p q hp hq c2.1]
theorem Wk.attempt {prog : Program} {w : World} {Γ : Ctx} {α : Type} {t : Sem α} {Q : Except Value α → Shared → Prop} {s : Shared} (h : Wk prog w Γ t (fun a => Q (.ok a)) s) : Wk prog w Γ t.attempt Q s := fun p => by
 rw [Sem.wp_attempt]
 exact Sem.wp_mono _ _ _ (fun _ _ _ x => x) (fun _ _ _ x => x.elim) p s (h p)
theorem Wk.standIf {prog : Program} {w : World} {Γ : Ctx} {α : Type} {c : Prop} [Decidable c] {pos : Pos} {k : PUnit → Sem α} {Q : α → Shared → Prop} {s : Shared} (h : Wk prog w Γ (k ()) Q s) :
  Wk prog w Γ (if c then (PySem.standAt pos >>= k) else k ()) Q s := by
 split
 ·exact Wk.bind (Wk.standAt h)
 ·exact h
section
variable {X : Wd} {cx : Cx} {env : Env} {Ev : Mine.Ev} {P : Prg} {pos : Pos}
structure Turned (X : Wd) (cx : Cx) (T : Tab) (σ : St) (s : Shared) (σ' : St) (rs : List FV) (L D : Addr) (T' : Tab) (s' : Shared) : Prop where
 go : Go X.h₀ cx T σ s T' σ' s'
 noL : T' L = none
 noD : T' D = none
 ne : D ≠ L
 ns : ∃ m, s'.heap.Ns L m
 dat : ∃ vs oD, s'.heap.get? D = some oD ∧ LObj oD vs ∧ VRels T' rs vs
theorem Turned.later {T : Tab} {σ : St} {s : Shared} {σ' : St} {rs L D T'} {s' : Shared} (h : Turned X cx T σ s σ' rs L D T' s') {h' : Heap} (hs : Heap.SameBut L s'.heap h') {m} (hn : h'.Ns L m) : Turned X cx T σ s σ' rs L D T' { s' with heap := h' } := by
 obtain ⟨tk, e⟩ := h.go.same
 refine ⟨⟨⟨tk, by rw [e]⟩, fun a w o e => ?_, h.go.rel, h.go.nx⟩, h.noL, h.noD, h.ne, ⟨_, hn⟩, ?_⟩
 ·have : a ≠ L := fun q => by subst q; rw [h.noL] at e; exact no e
  exact (hs.2 a this).trans (h.go.isIn _ _ _ e)
 ·obtain ⟨vs, oD, a, b, c⟩ := h.dat
  exact ⟨vs, oD, (hs.2 D h.ne).trans a, b, c⟩
theorem comp_core (R : EnvR env cx) {elt it : PE} {x : Str} {px : Pos} {eltE iter : Expr} {scope : Scope} {free : List Nat} {fn : List (Str × Addr)} (C : CmpOk cx scope x free fn) (hp : plainE iter = true) (hL : LocOk Ev) (ha : Snd X cx (Ev.e it) (eval iter env) PRel)
  (he : ∀ (L : Addr) (cenv : Env), EnvR cenv ⟨L, (x, none) :: fn.map fun p => (p.1, some p.2)⟩ → cenv.scope = relabel scope env → Snd X ⟨L, (x, none) :: fn.map fun p => (p.1, some p.2)⟩ (Ev.e elt) (eval eltE cenv) PRel)
  {σ σ₁ σ₂ : St} {xf : FV} {xs rs : List FV} (ei : Ev.e it σ = some (.f xf, σ₁)) (hxs : itemsFV xf = some xs) (hlen : xs.length ≤ 1000000) (hc : compLoop Ev elt xs { σ₁ with loc := none :: free.map fun j => (σ₁.loc[j]?).join } = some (rs, σ₂)) (hchg : σ₂.chg.length = σ₁.chg.length)
  {Γ : Ctx} {A : Around} (G : Good X.cl X.m Γ A) {T : Tab} {s : Shared} (H : T.In s.heap) (S : StRel X.h₀ cx T σ) {use : Option (Value → Sem Unit)} {Q : Value → Shared → Prop}
  (hQ : ∀ (cenv : Env) (D : Addr) (T' : Tab) (s' : Shared), cenv.scope.kind = .function → (∀ z, z.2 = NameKind.local → z ∈ scope.names → cenv.kindOf z.1 = some .local) → Turned X cx T σ s { σ₂ with loc := σ₁.loc } rs cenv.locals D T' s' → 
   ∀ (cellsOf : List (Str × NameKind) → List Value) (vars : List (Str × NameKind)), (∀ z ∈ vars, z.2 = NameKind.local → cenv.kindOf z.1 = some .local) → 
    (use = none → Wk X.prog X.w Γ (do holding [.ref D] (comprehension.letGo cenv cellsOf vars.reverse); pure (.ref D)) Q s') ∧
    (∀ u, use = some u → Wk X.prog X.w Γ (do rule "comprehension.stores-exchanged"; holding (cellsOf vars) (u (.ref D)); comprehension.letGo cenv cellsOf (vars.reverse.drop 1 ++ vars.reverse.take 1); pure .none) Q s')) :
  Wk X.prog X.w Γ (comprehension (.ListComp eltE [⟨.Name x px, iter, [], 0⟩] scope pos) scope env (firstIterPos [⟨.Name x px, iter, [], 0⟩] pos) (newList []) false (eval iter env) use) Q s := by
 unfold comprehension
 refine Wk.bind2 (ha.go ei G H S) ?_
 rintro va s₁ ⟨T₁, G₁, pa⟩
 have pa : VRel T₁ xf va := pa
 refine Wk.bind (Wk.standAt (Wk.bind (Wk.of_eq (folded_plain hp env va) (Wk.pure (Wk.bind (Wk.holding (Wk.of_any G.isIn (iter_ok G₁.isIn pa.d (fun a w o h1 h2 => ?_) hxs fun I h₁ fp Pi Sti hk hn It => Wk.standIf ?_)))))))) 
 ·subst h1
  obtain ⟨o', h3⟩ := frozen_ref pa
  rw [h3] at h2; obtain ⟨rfl, rfl⟩ := Prod.mk.inj (Option.some.inj h2); trivial
 have H₁ : T₁.In h₁ := fun a w o e => hk _ _ (G₁.isIn a w o e)
 refine Wk.bind (Wk.of_any G.isIn (wpAny_newObj_type ?_))
 refine Wk.bind (Wk.of_any G.isIn (closure_ok (scope := scope) (env := env) (fun z hz => ?_) fun cs hcs => ?_))
 ·obtain ⟨c, hc⟩ := C.all z hz
  obtain ⟨i, hi⟩ := List.getElem?_of_mem hc
  obtain ⟨j, _, hj⟩ := C.at_ i z c hi
  exact ⟨c, (R.cel j z c hj).2⟩
 refine Wk.bind (Wk.of_any G.isIn (wpAny_newFunctionEnv C.nocell (by intro y hy; simp at hy) (fun h₃ hns hsb => ?_) C.kind))
 dsimp only at hns hsb ⊢
 have hfr₁ := Tab.fresh H₁
 obtain ⟨oI, hoI⟩ := It.have_ _ _ It.st
 generalize hD : h₁.objs.size = D at hns hsb hfr₁ ⊢
 generalize hH2 : h₁.push { cls := .type "list", data := .seq ([] : List Value).toArray } = H2 at hns hsb ⊢
 have keep₂ : ∀ b o, h₁.get? b = some o → H2.get? b = some o := fun b o e => hH2 ▸ Heap.get?_push_of_some _ e
 have hT₂ : T₁.In H2 := fun a w o e => keep₂ _ _ (H₁ a w o e)
 have hfr₂ := Tab.fresh hT₂
 have hDL : D ≠ H2.objs.size := by rw [← hH2, Heap.size_push, hD]; exact Nat.ne_of_lt (Nat.lt_succ_self _)
 have hID : I ≠ D := by rw [← hD]; exact Nat.ne_of_lt (Heap.lt_size hoI)
 have hIL : I ≠ H2.objs.size := Nat.ne_of_lt (Heap.lt_size (keep₂ _ _ hoI))
 generalize hLL : H2.objs.size = L at hns hsb hfr₂ hDL hIL ⊢
 have keep₃ : ∀ b o, H2.get? b = some o → h₃.get? b = some o := fun b o e => (hsb.2 b (by rw [← hLL]; exact Nat.ne_of_lt (Heap.lt_size e))).trans (Heap.get?_push_of_some _ e)
 obtain ⟨oL, hoL, hNL⟩ := of_ns hns
 let T₂ : Tab := (inT (fn.map (·.2)) T₁).set L (some (.loc, oL))
 have H₃ : T₂.In h₃ := fun a w o e => by
  have e : ((inT (fn.map (·.2)) T₁).set L (some (.loc, oL))) a = some (w, o) := e
  by_cases hb : a = L
  ·subst hb; rw [Tab.set_self] at e; obtain ⟨rfl, rfl⟩ := Prod.mk.inj (Option.some.inj e); exact hoL
  ·rw [Tab.set_ne _ _ hb] at e
   exact keep₃ _ _ (keep₂ _ _ (inT_in H₁ _ _ _ e))
 have hf : ∀ (i : Nat) y c, fn[i]? = some (y, c) → ∃ j, free[i]? = some j ∧ cx.names[j]? = some (y, some c) := C.at_
 have S₃ := comp_start (x := x) (free := free) (fn := fn) G₁.rel (oL := oL) hfr₂ hNL hf C.len
 have inN : ∀ {a}, T₁ a = none → a ≠ L → T₂ a = none := fun {a} e h => by
  show ((inT (fn.map (·.2)) T₁).set L (some (.loc, oL))) a = none
  rw [Tab.set_ne _ _ h]; unfold inT; rw [e]; rfl
 have inF : FMono T₁ T₂ := fun a o e => by
  have : a ≠ L := fun h => by subst h; rw [hfr₂] at e; exact no e
  show ((inT (fn.map (·.2)) T₁).set L (some (.loc, oL))) a = _
  rw [Tab.set_ne _ _ this, inT_at e]; rfl
 let cenv : Env := { newEnv scope L env.globals cs env.qual none .none (some env) builtinsNs with scope := relabel scope env }
 have RC : EnvR cenv ⟨L, (x, none) :: fn.map fun p => (p.1, some p.2)⟩ := comp_env R C hcs L
 have hkd : cenv.scope.kind = .function := C.kind
 have hkl : ∀ z, z.2 = NameKind.local → z ∈ scope.names → cenv.kindOf z.1 = some .local := fun z h1 h2 => lookup_relabel_local (C.locs z h2 h1)
 refine Wk.holding (Wk.bind (Wk.attempt (Wk.holding (Wk.run fun p => ?_))))
 have G' := G.enter (c := .compStart (.ListComp eltE [⟨.Name x px, iter, [], 0⟩] scope pos) 0 (.ref I) (.ref D) cenv) rfl rfl rfl p
 have loop : ∀ Γ' : Ctx, Γ'.code = .compLoop (.ListComp eltE [⟨.Name x px, iter, [], 0⟩] scope pos) 0 (.ref I) (.ref D) cenv → Good X.cl X.m Γ' A → ∀ s' : Shared, s' = { s₁ with heap := h₃, toks := s₁.toks + 0 } →
   Cd X.prog X.w Γ' (fun fl s' => fl = .next ∧ ∃ T', Turned X cx T σ s { σ₂ with loc := σ₁.loc } rs L D T' s') s' := by
  rintro Γ' hc' G'' s' rfl
  refine Cd.mono (comp_loop RC (by rfl) (he L cenv RC rfl) hID (fun h => ?_) It.walk It.have_ hlen (j := 0) rfl hc G'' hc' (T := T₂) (done := []) (vs := []) (oD := { cls := .type "list", data := .seq ([] : List Value).toArray }) ⟨⟨H₃, inN hn hIL, S₃, fun b hb hbI => ?_, fun i v hv => ?_,
   (It.walk A G.handled).frame _ _ _ It.st fun b _ o ho => keep₃ _ _ (keep₂ _ _ ho), Nat.zero_le _⟩, inN hfr₁ hDL, keep₃ _ _ (by rw [← hH2, ← hD]; exact Heap.get?_push_size _ rfl), ⟨0, rfl⟩, rfl, rfl⟩) ?_
  ·obtain ⟨w, o, e, _⟩ := It.fps D h (Ne.symm hID)
   have e : T₁ D = some (w, o) := e
   rw [hfr₁] at e; exact no e
  ·obtain ⟨w, o, e, hs⟩ := It.fps b hb hbI
   have e : T₁ b = some (w, o) := e
   refine ⟨w, o, ?_, hs⟩
   have : b ≠ L := fun h => by subst h; rw [hfr₂] at e; exact no e
   show ((inT (fn.map (·.2)) T₁).set L (some (.loc, oL))) b = _
   rw [Tab.set_ne _ _ this, inT_at e]
   induction w <;> first | rfl | exact hs.elim
  ·obtain ⟨y, h1, h2⟩ := It.item i v hv
   exact ⟨y, h1, VRel.mono inF h2⟩
  ·rintro fl s' ⟨rfl, T', vs', oD', G₂, a, b, c, d, f⟩
   refine ⟨rfl, outT T₁ T', ?_⟩
   obtain ⟨l1, l2⟩ := compLoop_chg hL hc
   obtain ⟨k1, k2, k3, k4⟩ := comp_end (x := x) (free := free) (fn := fn) G₁.rel (oL := oL) hfr₂ hf R.ok G₂.rel G₂.nx (fun i hi => l2 i hi) hchg
   obtain ⟨oL', mL', hL', hN', _⟩ := G₂.rel.loc.ns
   have hL' : T' L = some (.loc, oL') := hL'
   refine ⟨G₁.trans ⟨?_, fun a w o e => ?_, k2, k3⟩, ?_, ?_, hDL, ⟨mL', ns_of (G₂.isIn _ _ _ hL') hN'⟩, vs', oD', c, d, ?_⟩
   ·obtain ⟨tk, e⟩ := G₂.same
    exact ⟨tk, by rw [e]⟩
   ·obtain ⟨_, w', e'⟩ := k1 a w o e
    exact G₂.isIn _ _ _ e'
   ·unfold outT; rw [hL']
   ·unfold outT; rw [b]
   ·exact VRels.mono k4 f
 refine Cd.mono (R := fun fl s' => fl = .next ∧ ∃ T', Turned X cx T σ s { σ₂ with loc := σ₁.loc } rs L D T' s') ?_ ?_
 ·refine Cd.tree ?_
  show Wk X.prog X.w _ ((compStart (.ListComp eltE [⟨.Name x px, iter, [], 0⟩] scope pos) 0 (.ref I) (.ref D) cenv).onRaise (fun x => do noteFrame x cenv; standAt theWindowsPlace)) _ _
  refine Wk.onRaise ?_
  unfold compStart
  show Wk X.prog X.w _ (ask >>= _) _ _
  refine Wk.bind (Wk.of_any G'.isIn (wpAny_askSetting ?_))
  have L1 := loop (((Γ.enter (.compStart (.ListComp eltE [⟨.Name x px, iter, [], 0⟩] scope pos) 0 (.ref I) (.ref D) cenv) none p)).goto (.compLoop (.ListComp eltE [⟨.Name x px, iter, [], 0⟩] scope pos) 0 (.ref I) (.ref D) cenv)) rfl (G.enter (c := .compLoop (.ListComp eltE [⟨.Name x px, iter, [], 0⟩] scope pos) 0 (.ref I) (.ref D) cenv) rfl rfl rfl p) _ rfl
  split
  ·first
    | exact Wk.bind (Wk.pure (Wk.pure (And.intro rfl L1)))
    | exact Wk.pure (And.intro rfl L1)
  ·have W0 := (It.walk A G.handled).self 0 { s₁ with heap := h₃, toks := s₁.toks + 0 } (fun v s' => v = .ref I ∧ s' = { s₁ with heap := h₃, toks := s₁.toks + 0 }) (fun _ _ => False) ((It.walk A G.handled).frame _ _ _ It.st fun b _ o ho => keep₃ _ _ (keep₂ _ _ ho)) ⟨rfl, rfl⟩
   have fin : Wk X.prog X.w (Γ.enter (.compStart (.ListComp eltE [⟨.Name x px, iter, [], 0⟩] scope pos) 0 (.ref I) (.ref D) cenv) none p) (do again (.compLoop (.ListComp eltE [⟨.Name x px, iter, [], 0⟩] scope pos) 0 (← pyIter (.ref I)) (.ref D) cenv)) (fun fin s' => match fin with | .done f => (f = .next ∧ ∃ T', Turned X cx T σ s { σ₂ with loc := σ₁.loc } rs L D T' s') | .again c' => c'.quiet = true ∧ Cd X.prog X.w ((Γ.enter (.compStart (.ListComp eltE [⟨.Name x px, iter, [], 0⟩] scope pos) 0 (.ref I) (.ref D) cenv) none p).goto c') (fun fl s' => fl = .next ∧ ∃ T', Turned X cx T σ s { σ₂ with loc := σ₁.loc } rs L D T' s') s') { s₁ with heap := h₃, toks := s₁.toks + 0 } := by
    refine Wk.bind2 (Wk.of_any G'.isIn W0) ?_
    rintro v s' ⟨rfl, rfl⟩
    exact Wk.pure (And.intro rfl L1)
   first
    | exact Wk.bind (Wk.rule (Wk.bind (Wk.standAt fin)))
    | (refine Wk.bind (Wk.rule ?_); show Wk X.prog X.w _ (standAt iter.pos >>= _) _ _; exact Wk.bind (Wk.standAt fin))
 ·rintro fl s' ⟨rfl, T', TT⟩
  obtain ⟨q1, q2⟩ := hQ cenv D T' s' hkd hkl TT _ _ (fun z hz hl => hkl z hl (List.mem_filter.mp hz).1)
  induction use with
  | none => exact q1 rfl
  | some u => exact q2 u rfl
end
section
variable {X : Wd} {cx : Cx} {env : Env} {Ev Ev' : Mine.Ev} {P P' : Prg} {pos : Pos}
theorem comp_inv {elt it : PE} {free : List Nat} {lab : Option Nat} {σ : St} {z : PV × St} {Q : Prop} (e : stepE Ev P (.comp elt it free lab) σ = some z)
  (k : ∀ xf σ₁ xs rs σ₂, Ev.e it σ = some (.f xf, σ₁) → itemsFV xf = some xs → xs.length ≤ 1000000 → compLoop Ev elt xs { σ₁ with loc := none :: free.map fun j => (σ₁.loc[j]?).join } = some (rs, σ₂) → σ₂.chg.length = σ₁.chg.length →
   ({ σ₂ with loc := σ₁.loc } : St).make lab (.list rs) = some z → Q) : Q := by
 refine bk e fun r h1 h => ?_
 obtain ⟨r, σ₁⟩ := r
 induction r with
 | o _ => exact no h
 | f xf => exact bk h fun xs hx h => ik h fun hl h => bk h fun q hq h => ik h fun hc h => k xf σ₁ xs q.1 q.2 h1 hx hl hq (eq_of_beq hc) h
theorem snd_comp (R : EnvR env cx) {elt it : PE} {x : Str} {px : Pos} {eltE iter : Expr} {scope : Scope} {free : List Nat} {fn : List (Str × Addr)} {lab : Option Nat} (C : CmpOk cx scope x free fn) (hp : plainE iter = true) (hL : LocOk Ev) (ha : Snd X cx (Ev.e it) (eval iter env) PRel)
  (he : ∀ (L : Addr) (cenv : Env), EnvR cenv ⟨L, (x, none) :: fn.map fun p => (p.1, some p.2)⟩ → cenv.scope = relabel scope env → Snd X ⟨L, (x, none) :: fn.map fun p => (p.1, some p.2)⟩ (Ev.e elt) (eval eltE cenv) PRel) :
  Snd X cx (stepE Ev P (.comp elt it free lab)) (eval (.ListComp eltE [⟨.Name x px, iter, [], 0⟩] scope pos) env) PRel := by
 refine .of fun {σ pv σ'} e {Γ A} G {T s} H S => ?_
 refine comp_inv e fun xf σ₁ xs rs σ₂ e1 e2 e3 e4 e5 e6 => ?_
 rw [eval_ListComp]
 refine comp_core R C hp hL ha he e1 e2 e3 e4 e5 G H S (use := none) fun cenv D T' s' hk hkl TT cellsOf vars hv => ⟨fun _ => ?_, fun u hu => by cases hu⟩
 obtain ⟨m, hm⟩ := TT.ns
 refine Wk.bind (Wk.holding (Wk.of_any G.isIn (wpAny_comp_letGo hk _ s' m (fun z hz hl => hv z (List.mem_reverse.mp hz) hl) hm fun h' m' hn' hs' => ?_)))
 have TT' := TT.later hs' hn'
 obtain ⟨vs, oD, a, b, c⟩ := TT'.dat
 obtain ⟨T₃, G₃, p₃⟩ := make_list (s := { s' with heap := h' }) (k := s'.toks) TT'.go.isIn TT'.go.rel e6 (h' := h') (fun b ob e => e) TT'.noD a b c
 exact Wk.pure ⟨T₃, TT'.go.trans G₃, p₃⟩
theorem snd_asgComp (R : EnvR env cx) {i : Nat} {y : Str} {co : Option Addr} {np : Pos} {elt it : PE} {x : Str} {px : Pos} {eltE iter : Expr} {scope : Scope} {free : List Nat} {fn : List (Str × Addr)} {lab : Option Nat} {cpos : Pos} (hy : cx.names[i]? = some (y, co)) (C : CmpOk cx scope x free fn) (hp : plainE iter = true) (hL : LocOk Ev')
  (hE : ∀ σ r, Ev.e (.comp elt it free lab) σ = some r → stepE Ev' P' (.comp elt it free lab) σ = some r) (ha : Snd X cx (Ev'.e it) (eval iter env) PRel)
  (he : ∀ (L : Addr) (cenv : Env), EnvR cenv ⟨L, (x, none) :: fn.map fun p => (p.1, some p.2)⟩ → cenv.scope = relabel scope env → Snd X ⟨L, (x, none) :: fn.map fun p => (p.1, some p.2)⟩ (Ev'.e elt) (eval eltE cenv) PRel) :
  Snd X cx (stepS Ev P (.asg i (.comp elt it free lab))) (exec (.Assign [.Name y np] (.ListComp eltE [⟨.Name x px, iter, [], 0⟩] scope cpos) pos) env) RFl := by
 refine .of fun {σ b σ'} e' {Γ A} G {T s} H S => ?_
 refine mk e' fun r ea e' => ?_
 obtain ⟨ra, σ₃⟩ := r
 cases e'
 have ea := hE _ _ ea
 obtain ⟨sw, hsw⟩ : ∃ b, swapsWith (.ListComp eltE [⟨.Name x px, iter, [], 0⟩] scope cpos) (some (.Name y np)) pos.line env = pure b := ⟨_, rfl⟩
 induction sw with
 | false =>
  rw [exec_Assign_Name env y np _ pos hsw]
  refine Wk.bind (Wk.standAt (Wk.bind2 ((snd_comp (P := P') R C hp hL ha he).go ea G H S) ?_))
  rintro va s₁ ⟨T₁, G₁, pa⟩
  refine Wk.bind (Wk.standAt (Wk.bind (Wk.of_any G.isIn (st_var R G₁.isIn G₁.rel hy pa fun T' s' G' => ?_))))
  exact Wk.pure ⟨T', G₁.trans G', rfl⟩
 | true =>
  refine comp_inv ea fun xf σ₁ xs rs σ₂ e1 e2 e3 e4 e5 e6 => ?_
  rw [exec_Assign_Name_used _ _ _ _ hsw]
  refine Wk.bind (Wk.standAt (Wk.bind2 (P := fun _ s' => ∃ T', Go X.h₀ cx T σ s T' (σ₃.set i ra) s') ?_ ?_))
  ·show Wk X.prog X.w Γ (do let _ ← comprehension (.ListComp eltE [⟨.Name x px, iter, [], 0⟩] scope cpos) scope env (firstIterPos [⟨.Name x px, iter, [], 0⟩] cpos) (newList []) false (eval iter env) (some (assign (.Name y np) env))) _ s
   refine Wk.bind (comp_core R C hp hL ha he e1 e2 e3 e4 e5 G H S (use := some (assign (.Name y np) env)) fun cenv D T' s' hk hkl TT cellsOf vars hv => ⟨fun hu => (by cases hu), fun u hu => ?_⟩)
   obtain rfl := Option.some.inj hu
   refine Wk.bind (Wk.rule ?_)
   obtain ⟨m, oL, es, ep, hoL, hoL'⟩ := TT.ns
   obtain ⟨vs, oD, a, b, c⟩ := TT.dat
   have S₁ := TT.go.rel.addFr (a := cenv.locals) (o := oL) TT.noL
   have H₁ : (T'.set cenv.locals (some (.fr, oL))).In s'.heap := fun z w o e => by
    by_cases hb : z = cenv.locals
    ·subst hb; rw [Tab.set_self] at e; obtain ⟨rfl, rfl⟩ := Prod.mk.inj (Option.some.inj e); exact hoL
    ·rw [Tab.set_ne _ _ hb] at e; exact TT.go.isIn _ _ _ e
   obtain ⟨T₃, G₃, p₃⟩ := make_list (s := s') (k := s'.toks) H₁ S₁ e6 (h' := s'.heap) (fun b ob e => e) (by rw [Tab.set_ne _ _ TT.ne]; exact TT.noD) a b (c.mono (ext_set TT.noL).f)
   refine Wk.bind (Wk.holding (show Wk X.prog X.w Γ (do standAt np; bindName env y (.ref D)) _ _ from Wk.bind (Wk.standAt (Wk.of_any G.isIn (st_var (s := s') R G₃.isIn G₃.rel hy p₃ fun T₄ s₄ G₄ => ?_)))))
   obtain ⟨hL₄, G₅, up⟩ := (G₃.trans G₄).without TT.noL
   have hgL : s₄.heap.get? cenv.locals = some oL := G₄.isIn _ _ _ hL₄
   refine Wk.bind (Wk.of_any G.isIn (wpAny_comp_letGo hk _ s₄ m (fun z hz hl => ?_) ⟨oL, es, ep, hgL, hoL'⟩ fun h' m' hn' hs' => ?_))
   ·rcases List.mem_append.mp hz with hz | hz
    ·exact hv z (List.mem_reverse.mp (List.mem_of_mem_drop hz)) hl
    ·exact hv z (List.mem_reverse.mp (List.mem_of_mem_take hz)) hl
   ·refine Wk.pure (Wk.pure ⟨T₄.set cenv.locals none, TT.go.trans ⟨?_, fun z w o e => ?_, G₅.rel, G₅.nx⟩⟩)
    ·obtain ⟨tk, e⟩ := G₅.same
     exact ⟨tk, by rw [e]⟩
    ·have hb : z ≠ cenv.locals := fun h => by subst h; rw [Tab.set_self] at e; cases e
     exact (hs'.2 z hb).trans (G₅.isIn _ _ _ e)
  ·rintro _ s₁ ⟨T₁, G₁⟩
   exact Wk.pure ⟨T₁, G₁, rfl⟩
end
end Mine
end
section
open PySem PySem.W PyProof.Rows
set_option genSizeOf false
set_option genInjectivity false
namespace Mine
structure MS where
 P : Prg
 m : Nat
 cl : Bool
 fname : Nat → Option Str
 cname : Nat → Option Str
 gcOk : Str → FV → Bool
structure MK where
 kinds : List (Str × NameKind)
 nms : List Str
noncomputable def dbg : Str := "__debug__"
noncomputable def MK.gi (M : MK) (x : Str) : Bool := M.kinds.lookup x == some .globalImplicit && !(x == dbg)
noncomputable def notStar (e : Expr) : Bool := !(e.ctorIdx == 22)
noncomputable def tysOk (T : String) : Bool := T == "int" || T == "str" || T == "bytes"
noncomputable def one {α : Type} (l : List α) (f : α → Bool) : Bool := List.casesOn (motive := fun _ => Bool) l false fun a t => t.isEmpty && f a
theorem one_k {α : Type} {l : List α} {f : α → Bool} {Q : List α → Prop} (h : one l f = true) (k : ∀ a, f a = true → Q [a]) : Q l := by
 induction l using List.casesOn with
 | nil => exact absurd h Bool.false_ne_true
 | cons a t => exact andk h fun h1 h2 => nilk (Q := fun t => Q (a :: t)) h1 (k a h2)
noncomputable def two {α : Type} (l : List α) (f : α → α → Bool) : Bool := List.casesOn (motive := fun _ => Bool) l false fun a t => one t (f a)
theorem two_k {α : Type} {l : List α} {f : α → α → Bool} {Q : List α → Prop} (h : two l f = true) (k : ∀ a b, f a b = true → Q [a, b]) : Q l := by
 induction l using List.casesOn with
 | nil => exact absurd h Bool.false_ne_true
 | cons a t => exact one_k (Q := fun t => Q (a :: t)) h (k a)
noncomputable def isName (e : Expr) (f : Str → Pos → Bool) : Bool := if c : e.ctorIdx = 23 then Expr.Name.elim (motive_1 := fun _ => Bool) e c f else false
theorem isName_k {e : Expr} {f : Str → Pos → Bool} {Q : Expr → Prop} (h : isName e f = true) (k : ∀ x p, f x p = true → Q (.Name x p)) : Q e :=
 dk h fun c h => Expr.Name.elim (motive_1 := fun e => (c : e.ctorIdx = 23) → Expr.Name.elim (motive_1 := fun _ => Bool) e c f = true → Q e) e c (fun x p _ => k x p) c h
noncomputable def isCst (e : Expr) (f : Const → Bool) : Bool := if c : e.ctorIdx = 19 then Expr.Constant.elim (motive_1 := fun _ => Bool) e c (fun x _ _ => f x) else false
theorem isCst_k {e : Expr} {f : Const → Bool} {Q : Expr → Prop} (h : isCst e f = true) (k : ∀ x n p, f x = true → Q (.Constant x n p)) : Q e :=
 dk h fun c h => Expr.Constant.elim (motive_1 := fun e => (c : e.ctorIdx = 19) → Expr.Constant.elim (motive_1 := fun _ => Bool) e c (fun x _ _ => f x) = true → Q e) e c (fun x n p _ => k x n p) c h
noncomputable def isBin (e : Expr) (f : Expr → Operator → Expr → Bool) : Bool := if c : e.ctorIdx = 2 then Expr.BinOp.elim (motive_1 := fun _ => Bool) e c (fun l o r _ => f l o r) else false
theorem isBin_k {e : Expr} {f : Expr → Operator → Expr → Bool} {Q : Expr → Prop} (h : isBin e f = true) (k : ∀ l o r p, f l o r = true → Q (.BinOp l o r p)) : Q e :=
 dk h fun c h => Expr.BinOp.elim (motive_1 := fun e => (c : e.ctorIdx = 2) → Expr.BinOp.elim (motive_1 := fun _ => Bool) e c (fun l o r _ => f l o r) = true → Q e) e c (fun l o r p _ => k l o r p) c h
noncomputable def isUn (e : Expr) (f : UnaryOp → Expr → Bool) : Bool := if c : e.ctorIdx = 3 then Expr.UnaryOp.elim (motive_1 := fun _ => Bool) e c (fun o x _ => f o x) else false
theorem isUn_k {e : Expr} {f : UnaryOp → Expr → Bool} {Q : Expr → Prop} (h : isUn e f = true) (k : ∀ o x p, f o x = true → Q (.UnaryOp o x p)) : Q e :=
 dk h fun c h => Expr.UnaryOp.elim (motive_1 := fun e => (c : e.ctorIdx = 3) → Expr.UnaryOp.elim (motive_1 := fun _ => Bool) e c (fun o x _ => f o x) = true → Q e) e c (fun o x p _ => k o x p) c h
noncomputable def isBool (e : Expr) (f : BoolOp → List Expr → Bool) : Bool := if c : e.ctorIdx = 0 then Expr.BoolOp.elim (motive_1 := fun _ => Bool) e c (fun o x _ => f o x) else false
theorem isBool_k {e : Expr} {f : BoolOp → List Expr → Bool} {Q : Expr → Prop} (h : isBool e f = true) (k : ∀ o x p, f o x = true → Q (.BoolOp o x p)) : Q e :=
 dk h fun c h => Expr.BoolOp.elim (motive_1 := fun e => (c : e.ctorIdx = 0) → Expr.BoolOp.elim (motive_1 := fun _ => Bool) e c (fun o x _ => f o x) = true → Q e) e c (fun o x p _ => k o x p) c h
noncomputable def isCmp (e : Expr) (f : Expr → List CmpOp → List Expr → Bool) : Bool := if c : e.ctorIdx = 15 then Expr.Compare.elim (motive_1 := fun _ => Bool) e c (fun l o r _ => f l o r) else false
theorem isCmp_k {e : Expr} {f : Expr → List CmpOp → List Expr → Bool} {Q : Expr → Prop} (h : isCmp e f = true) (k : ∀ l o r p, f l o r = true → Q (.Compare l o r p)) : Q e :=
 dk h fun c h => Expr.Compare.elim (motive_1 := fun e => (c : e.ctorIdx = 15) → Expr.Compare.elim (motive_1 := fun _ => Bool) e c (fun l o r _ => f l o r) = true → Q e) e c (fun l o r p _ => k l o r p) c h
noncomputable def isIf (e : Expr) (f : Expr → Expr → Expr → Bool) : Bool := if c : e.ctorIdx = 5 then Expr.IfExp.elim (motive_1 := fun _ => Bool) e c (fun l o r _ => f l o r) else false
theorem isIf_k {e : Expr} {f : Expr → Expr → Expr → Bool} {Q : Expr → Prop} (h : isIf e f = true) (k : ∀ l o r p, f l o r = true → Q (.IfExp l o r p)) : Q e :=
 dk h fun c h => Expr.IfExp.elim (motive_1 := fun e => (c : e.ctorIdx = 5) → Expr.IfExp.elim (motive_1 := fun _ => Bool) e c (fun l o r _ => f l o r) = true → Q e) e c (fun l o r p _ => k l o r p) c h
noncomputable def isSub (e : Expr) (f : Expr → Expr → Bool) : Bool := if c : e.ctorIdx = 21 then Expr.Subscript.elim (motive_1 := fun _ => Bool) e c (fun v s _ => f v s) else false
theorem isSub_k {e : Expr} {f : Expr → Expr → Bool} {Q : Expr → Prop} (h : isSub e f = true) (k : ∀ v s p, f v s = true → Q (.Subscript v s p)) : Q e :=
 dk h fun c h => Expr.Subscript.elim (motive_1 := fun e => (c : e.ctorIdx = 21) → Expr.Subscript.elim (motive_1 := fun _ => Bool) e c (fun v s _ => f v s) = true → Q e) e c (fun v s p _ => k v s p) c h
noncomputable def isSlc (e : Expr) (f : Option Expr → Option Expr → Option Expr → Bool) : Bool := if c : e.ctorIdx = 26 then Expr.Slice.elim (motive_1 := fun _ => Bool) e c (fun l o r _ => f l o r) else false
theorem isSlc_k {e : Expr} {f : Option Expr → Option Expr → Option Expr → Bool} {Q : Expr → Prop} (h : isSlc e f = true) (k : ∀ l o r p, f l o r = true → Q (.Slice l o r p)) : Q e :=
 dk h fun c h => Expr.Slice.elim (motive_1 := fun e => (c : e.ctorIdx = 26) → Expr.Slice.elim (motive_1 := fun _ => Bool) e c (fun l o r _ => f l o r) = true → Q e) e c (fun l o r p _ => k l o r p) c h
noncomputable def isAttr (e : Expr) (f : Expr → Str → Pos → Bool) : Bool := if c : e.ctorIdx = 20 then Expr.Attribute.elim (motive_1 := fun _ => Bool) e c f else false
theorem isAttr_k {e : Expr} {f : Expr → Str → Pos → Bool} {Q : Expr → Prop} (h : isAttr e f = true) (k : ∀ v x p, f v x p = true → Q (.Attribute v x p)) : Q e :=
 dk h fun c h => Expr.Attribute.elim (motive_1 := fun e => (c : e.ctorIdx = 20) → Expr.Attribute.elim (motive_1 := fun _ => Bool) e c f = true → Q e) e c (fun v x p _ => k v x p) c h
noncomputable def isList (e : Expr) (f : List Expr → Bool) : Bool := if c : e.ctorIdx = 24 then Expr.List.elim (motive_1 := fun _ => Bool) e c (fun l _ => f l) else false
theorem isList_k {e : Expr} {f : List Expr → Bool} {Q : Expr → Prop} (h : isList e f = true) (k : ∀ l p, f l = true → Q (.List l p)) : Q e :=
 dk h fun c h => Expr.List.elim (motive_1 := fun e => (c : e.ctorIdx = 24) → Expr.List.elim (motive_1 := fun _ => Bool) e c (fun l _ => f l) = true → Q e) e c (fun l p _ => k l p) c h
noncomputable def isTup (e : Expr) (f : List Expr → Bool) : Bool := if c : e.ctorIdx = 25 then Expr.Tuple.elim (motive_1 := fun _ => Bool) e c (fun l _ _ => f l) else false
theorem isTup_k {e : Expr} {f : List Expr → Bool} {Q : Expr → Prop} (h : isTup e f = true) (k : ∀ l n p, f l = true → Q (.Tuple l n p)) : Q e :=
 dk h fun c h => Expr.Tuple.elim (motive_1 := fun e => (c : e.ctorIdx = 25) → Expr.Tuple.elim (motive_1 := fun _ => Bool) e c (fun l _ _ => f l) = true → Q e) e c (fun l n p _ => k l n p) c h
noncomputable def isCall (e : Expr) (f : Expr → List Expr → Pos → Bool) : Bool := if c : e.ctorIdx = 16 then Expr.Call.elim (motive_1 := fun _ => Bool) e c (fun g l ks p => ks.isEmpty && f g l p) else false
theorem isCall_k {e : Expr} {f : Expr → List Expr → Pos → Bool} {Q : Expr → Prop} (h : isCall e f = true) (k : ∀ g l p, f g l p = true → Q (.Call g l [] p)) : Q e :=
 dk h fun c h => Expr.Call.elim (motive_1 := fun e => (c : e.ctorIdx = 16) → Expr.Call.elim (motive_1 := fun _ => Bool) e c (fun g l ks p => ks.isEmpty && f g l p) = true → Q e) e c
  (fun g l ks p _ h => andk h fun h1 h2 => nilk (Q := fun ks => Q (.Call g l ks p)) h1 (k g l p h2)) c h
noncomputable def nameCall (e : Expr) (f : Str → List Expr → Bool) : Bool := isCall e fun g l _ => isName g fun x _ => f x l
theorem nameCall_k {e : Expr} {f : Str → List Expr → Bool} {Q : Expr → Prop} (h : nameCall e f = true) (k : ∀ x p l pos, f x l = true → Q (.Call (.Name x p) l [] pos)) : Q e :=
 isCall_k h fun g l pos h => isName_k (Q := fun g => Q (.Call g l [] pos)) h fun x p => k x p l pos
noncomputable def attrCall (e : Expr) (f : Str → Expr → List Expr → Bool) : Bool := isCall e fun g l pos => isAttr g fun o x ap => notCall o && ap.endLine == pos.line && decide (l.length < 30) && f x o l
theorem attrCall_k {e : Expr} {f : Str → Expr → List Expr → Bool} {Q : Expr → Prop} (h : attrCall e f = true) (k : ∀ o x ap l pos, notCall o = true → (ap.endLine == pos.line) = true → l.length < 30 → f x o l = true → Q (.Call (.Attribute o x ap) l [] pos)) : Q e :=
 isCall_k h fun g l pos h => isAttr_k (Q := fun g => Q (.Call g l [] pos)) h fun o x ap h => andk h fun h h4 => andk h fun h h3 => andk h fun h1 h2 => k o x ap l pos h1 h2 (of_decide_eq_true h3) h4
noncomputable def isComp1 (e : Expr) (f : Expr → Str → Expr → Scope → Bool) : Bool := if c : e.ctorIdx = 8 then Expr.ListComp.elim (motive_1 := fun _ => Bool) e c (fun l gs sc _ => one gs fun g => isName g.target fun x _ => g.ifs.isEmpty && g.is_async == 0 && f l x g.iter sc) else false
theorem isComp1_k {e : Expr} {f : Expr → Str → Expr → Scope → Bool} {Q : Expr → Prop} (h : isComp1 e f = true) (k : ∀ l x p it sc pos, f l x it sc = true → Q (.ListComp l [⟨.Name x p, it, [], 0⟩] sc pos)) : Q e :=
 dk h fun c h => Expr.ListComp.elim (motive_1 := fun e => (c : e.ctorIdx = 8) → Expr.ListComp.elim (motive_1 := fun _ => Bool) e c (fun l gs sc _ => one gs fun g => isName g.target fun x _ => g.ifs.isEmpty && g.is_async == 0 && f l x g.iter sc) = true → Q e) e c
  (fun l gs sc pos _ h => one_k (Q := fun gs => Q (.ListComp l gs sc pos)) h fun g h => by
   cases g with
   | mk t it ifs a => exact isName_k (Q := fun t => Q (.ListComp l [⟨t, it, ifs, a⟩] sc pos)) h fun x p h => andk h fun h h3 => andk h fun h1 h2 => nilk (Q := fun t => Q (.ListComp l [⟨.Name x p, it, t, a⟩] sc pos)) h1 (eqk (Q := fun t => Q (.ListComp l [⟨.Name x p, it, [], t⟩] sc pos)) h2 (k l x p it sc pos h3))) c h
noncomputable def allM (f : PE → Expr → Bool) (l : List PE) : List Expr → Bool :=
 List.rec (motive := fun _ => List Expr → Bool) List.isEmpty (fun a _ ih es => List.casesOn (motive := fun _ => Bool) es false fun e es => f a e && ih es) l
noncomputable def optM (f : PE → Expr → Bool) (o : Option PE) (e : Option Expr) : Bool :=
 Option.casesOn (motive := fun _ => Bool) o e.isNone fun a => Option.casesOn (motive := fun _ => Bool) e false (f a)
noncomputable def cellM (kinds : List (Str × NameKind)) (scope : Scope) (y : Str) : Bool := kinds.lookup y != some .local && (scope.names.lookup y == some .free && !(y == ("__classdict__" : Str)))
noncomputable def MK.inner (M : MK) (scope : Scope) (x : Str) (free : List Nat) : MK :=
 { kinds := scope.names.map fun p => if (p.2 == NameKind.free && M.kinds.lookup p.1 == some .cell) then (p.1, NameKind.cell) else (p.1, p.2), nms := x :: free.filterMap fun j => M.nms[j]? }
noncomputable def MK.compOk (M : MK) (scope : Scope) (x : Str) (free : List Nat) : Bool :=
 scope.kind == .function && (scope.names.all (fun z => z.2 != .cell) && (scope.names.lookup x == some .local && (scope.names.all (fun z => z.2 != .local || scope.names.lookup z.1 == some .local) &&
  (free.all (fun j => (M.nms[j]?).any (cellM M.kinds scope)) &&
  (scope.names.all (fun z => z.2 != .free || (free.filterMap fun j => M.nms[j]?).contains z.1) && decide (free.filterMap fun j => M.nms[j]?).Nodup)))))
section
variable (S : MS) (r : MK → PE → Expr → Bool) (M : MK)
noncomputable def argsE (l : List PE) (es : List Expr) : Bool := allM (r M) l es && es.all notStar
noncomputable def partsM (l : List PE) (es : List Expr) : Bool := allM (r M) l es && es.all plainE
noncomputable def mBi (l : List PE) (e : Expr) (b : BI) : Bool := match b with
 | .isi T => one l fun a => nameCall e fun x es => two es fun e0 e1 => isName e1 fun y _ => x == Str.ofString "isinstance" && (M.gi x && (y == Str.ofString T && (M.gi y && (tysOk T && (notStar e0 && r M a e0)))))
 | .bytearray => l.isEmpty && nameCall e fun x es => es.isEmpty && (x == biName .bytearray && (M.gi x && S.cl))
 | b => nameCall e fun x es => x == biName b && (M.gi x && argsE r M l es)
noncomputable def mBm (b : BM) (o : PE) (l : List PE) (e : Expr) : Bool := attrCall e fun x o' es => x == bmName b && (S.cl && (r M o o' && argsE r M l es))
noncomputable def mComp (elt it : PE) (free : List Nat) (e : Expr) : Bool := isComp1 e fun eltE x iter scope => M.compOk scope x free && (plainE iter && (r M it iter && r (M.inner scope x free) elt eltE))
noncomputable def mEs (e : Expr) (pe : PE) : Bool := match pe with
 | .var i => isName e fun x _ => M.nms[i]? == some x && !(x == dbg)
 | .gc x v => isName e fun y _ => y == x && (S.gcOk x v && M.gi x)
 | .cst c => isCst e fun c' => decide (c' = c)
 | .bin op a b _ => isBin e fun l op' q => decide (op' = op) && (r M a l && r M b q)
 | .neg a => isUn e fun o x => decide (o = .USub) && r M a x
 | .notE a => isUn e fun o x => decide (o = .Not) && r M a x
 | .cmp a ops bs => isCmp e fun l ops' es => decide (ops' = ops) && (r M a l && partsM r M bs es)
 | .andE l => isBool e fun o es => decide (o = .And) && partsM r M l es
 | .orE l => isBool e fun o es => decide (o = .Or) && partsM r M l es
 | .ife c a b => isIf e fun t x y => r M c t && (r M a x && r M b y)
 | .idx a i => isSub e fun v s => notSlice s && (r M a v && r M i s)
 | .slc a lo hi _ => isSub e fun v s => isSlc s fun l u st => st.isNone && (r M a v && (optM (r M) lo l && optM (r M) hi u))
 | .attr a x => isAttr e fun v y _ => y == x && (notCall v && r M a v)
 | .lst l _ => isList e fun es => argsE r M l es
 | .tup l => isTup e fun es => argsE r M l es
 | .call f l _ _ => nameCall e fun x es => S.fname f == some x && (decide (f < S.m) && (M.gi x && argsE r M l es))
 | .meth o f l _ _ => attrCall e fun x o' es => x == S.P.mname f && (decide (f < S.m) && (r M o o' && argsE r M l es))
 | .new c l _ _ => nameCall e fun x es => S.cname c == some x && (M.gi x && argsE r M l es)
 | .bi b l _ => mBi S r M l e b
 | .bm b o l => mBm S r M b o l e
 | .comp elt it free _ => mComp r M elt it free e
end
noncomputable def mE (S : MS) (k : Nat) : MK → PE → Expr → Bool := Nat.rec (motive := fun _ => MK → PE → Expr → Bool) (fun _ _ _ => false) (fun _ r M pe e => mEs S r M e pe) k
structure MOk (cx : Cx) (env : Env) (M : MK) : Prop where
 R : EnvR env cx
 kinds : env.scope.names = M.kinds
 nms : cx.names.map (·.1) = M.nms
structure MHyp (X : Wd) (S : MS) (mg mb : Str → Option Value) (K : Frag) (faddr : Nat → Addr) : Prop where
 N : Names X.h₀ mg mb
 CK : Clss K X.h₀ S.P faddr
 cl : S.cl = true → X.cl = true
 fn : ∀ f, f < S.m → (∃ o fd, X.h₀.get? (faddr f) = some o ∧ o.data = .func fd) ∧ FnOk X.prog X.w X.h₀ X.cl S.P.D f (faddr f) X.m
 gf : ∀ f x, S.fname f = some x → GlobIs X.h₀ mg mb x (.ref (faddr f))
 gb : ∀ b, GlobIs X.h₀ mg mb (biName b) (biVal b)
 gt : ∀ T, tysOk T = true → GlobIs X.h₀ mg mb (Str.ofString T) (.type T)
 gc : ∀ x v, S.gcOk x v = true → ∃ vv, GlobIs X.h₀ mg mb x vv ∧ VRel (baseT X.h₀) v vv
 cls : ∀ c x, S.cname c = some x → GlobIs X.h₀ mg mb x (.ref (S.P.clsAddr c)) ∧ ∃ fI lvl, NewK K (S.P.clsAddr c) fI ∧ FnOk X.prog X.w X.h₀ false S.P.D (S.P.clsInit c) fI lvl ∧ lvl + 1 ≤ X.m
theorem MOk.name {cx env M} (O : MOk cx env M) {i : Nat} {x : Str} (h : M.nms[i]? = some x) : ∃ co, cx.names[i]? = some (x, co) := by
 rw [← O.nms, List.getElem?_map, Option.map_eq_some_iff] at h
 obtain ⟨⟨y, co⟩, h, rfl⟩ := h
 exact ⟨co, h⟩
theorem MOk.loc {cx env M} (O : MOk cx env M) {x : Str} {k : Option NameKind} (h : (M.kinds.lookup x == k) = true) : env.kindOf x = k := by
 show env.scope.names.lookup x = _
 rw [O.kinds]; exact eq_of_beq h
theorem MOk.gi {cx env M} (O : MOk cx env M) {x : Str} (h : M.gi x = true) : env.kindOf x = some .globalImplicit ∧ (x == ("__debug__" : Str)) = false :=
 andk h fun h1 h2 => ⟨O.loc h1, not_t h2⟩
theorem star_one {e : Expr} (env : Env) (h : notStar e = true) (es : List Expr) : starEach (e :: es) env = (false, eval e env) :: starEach es env := by
 have hx : ∀ t : Sem Value, (false, t) :: starEach es env = (false, t) :: starEach es env := fun _ => rfl
 induction e using Expr.casesOn <;> first | exact nob h | exact hx _
theorem backTo_cons {pos : Pos} {t : Sem Value} {l : List (Bool × Sem Value)} : backTo pos ((false, t) :: l) = (false, t) :: backTo pos l := rfl
theorem trees_of {X : Wd} {cx : Cx} {Ev : Ev} {env : Env} {pos : Pos} {f : PE → Expr → Bool} (H : ∀ a e, f a e = true → Snd X cx (Ev.e a) (eval e env) PRel) {l : List PE} : ∀ {es : List Expr}, allM f l es = true → es.all notStar = true → Trees X cx Ev l (backTo pos (starEach es env)) := by
 induction l with
 | nil => exact fun {es} h _ => nilk (Q := fun es => Trees X cx Ev [] (backTo pos (starEach es env))) h .nil
 | cons a l ih =>
  intro es
  induction es using List.casesOn with
  | nil => exact fun h => absurd h Bool.false_ne_true
  | cons e es =>
   intro h hs
   refine andk h fun h1 h2 => andk hs fun s1 s2 => ?_
   rw [star_one env s1, backTo_cons]
   exact .cons (H _ _ h1) (ih h2 s2)
theorem sndL_of {X : Wd} {cx : Cx} {Ev : Ev} {env : Env} {f : PE → Expr → Bool} (H : ∀ a e, f a e = true → Snd X cx (Ev.e a) (eval e env) PRel ∧ Snd X cx (Ev.c a) (isTrue e env (eval e env)) RB) {l : List PE} : ∀ {es : List Expr}, allM f l es = true → es.all plainE = true → SndL X cx Ev env l es := by
 induction l with
 | nil => exact fun {es} h _ => nilk (Q := fun es => SndL X cx Ev env [] es) h .nil
 | cons a l ih =>
  intro es
  induction es using List.casesOn with
  | nil => exact fun h => absurd h Bool.false_ne_true
  | cons e es => exact fun h hs => andk h fun h1 h2 => andk hs fun s1 s2 => .cons s1 (H _ _ h1).1 (H _ _ h1).2 (ih h2 s2)
theorem sndO_of {X : Wd} {cx : Cx} {Ev : Ev} {env : Env} {f : PE → Expr → Bool} (H : ∀ a e, f a e = true → Snd X cx (Ev.e a) (eval e env) PRel) {o : Option PE} {e : Option Expr} (h : optM f o e = true) : SndO X cx Ev env o e := by
 induction o with
 | none => induction e with
  | none => exact .no
  | some => exact absurd h Bool.false_ne_true
 | some a => induction e with
  | none => exact absurd h Bool.false_ne_true
  | some e => exact .yes (H _ _ h)
inductive Cells (cx : Cx) (M : MK) (scope : Scope) : List Nat → List (Str × Addr) → Prop
 | nil : Cells cx M scope [] []
 | cons {j : Nat} {y : Str} {c : Addr} {l fn} : cx.names[j]? = some (y, some c) → M.nms[j]? = some y → scope.names.lookup y = some .free → (y == ("__classdict__" : Str)) = false → Cells cx M scope l fn → Cells cx M scope (j :: l) ((y, c) :: fn)
section
variable {cx : Cx} {env : Env} {M : MK} {scope : Scope}
theorem Cells.len {l fn} (h : Cells cx M scope l fn) : fn.length = l.length := by
 induction h with
 | nil => rfl
 | cons _ _ _ _ _ ih => exact congrArg (· + 1) ih
theorem Cells.nms {l fn} (h : Cells cx M scope l fn) : fn.map (·.1) = l.filterMap fun j => M.nms[j]? := by
 induction h with
 | nil => rfl
 | cons _ h _ _ _ ih => rw [List.filterMap_cons_some h, ← ih]; rfl
theorem Cells.at_ {l fn} (h : Cells cx M scope l fn) : ∀ (i : Nat) y c, fn[i]? = some (y, c) → ∃ j, l[i]? = some j ∧ cx.names[j]? = some (y, some c) := by
 induction h with
 | nil => intro i y c e; rw [List.getElem?_nil] at e; exact absurd e nofun
 | cons h _ _ _ _ ih =>
  intro i y c e
  induction i using Nat.casesOn with
  | zero => obtain ⟨rfl, rfl⟩ := Prod.mk.inj (Option.some.inj e); exact ⟨_, rfl, h⟩
  | succ i => rw [List.getElem?_cons_succ] at e ⊢; exact ih i y c e
theorem Cells.fr {l fn} (h : Cells cx M scope l fn) : ∀ p ∈ fn, scope.names.lookup p.1 = some .free ∧ (p.1 == ("__classdict__" : Str)) = false := by
 induction h with
 | nil => exact fun p hp => absurd hp List.not_mem_nil
 | cons _ _ a b _ ih => exact List.forall_mem_cons.mpr ⟨⟨a, b⟩, ih⟩
theorem cells_of (O : MOk cx env M) {l : List Nat} : (l.all fun j => (M.nms[j]?).any (cellM M.kinds scope)) = true → ∃ fn, Cells cx M scope l fn := by
 induction l with
 | nil => exact fun _ => ⟨[], .nil⟩
 | cons j l ih =>
  intro h
  refine andk h fun h h2 => ?_
  obtain ⟨fn, C⟩ := ih h2
  have h : (M.nms[j]?).any (cellM M.kinds scope) = true := h
  cases hy : M.nms[j]? with
  | none => rw [hy] at h; exact absurd h Bool.false_ne_true
  | some y =>
   rw [hy] at h
   refine andk h fun h1 h => andk h fun h3 h4 => ?_
   obtain ⟨co, hco⟩ := O.name hy
   induction co with
   | none =>
    have e := O.R.loc j y hco
    rw [show env.kindOf y = M.kinds.lookup y by rw [← O.kinds]; rfl] at e
    exact absurd e (bne_iff_ne.mp h1)
   | some ad => exact ⟨_, .cons hco hy (eq_of_beq h3) (not_t h4) C⟩
theorem compOk_of (O : MOk cx env M) {x : Str} {free : List Nat} (h : M.compOk scope x free = true) : ∃ fn, CmpOk cx scope x free fn ∧ fn.map (·.1) = free.filterMap fun j => M.nms[j]? := by
 refine andk h fun h1 h => andk h fun h2 h => andk h fun h3 h => andk h fun h4 h => andk h fun h5 h => andk h fun h6 h7 => ?_
 obtain ⟨fn, C⟩ := cells_of O h5
 refine ⟨fn, ⟨eq_of_beq h1, fun z hz => bne_iff_ne.mp (List.all_eq_true.mp h2 z hz), eq_of_beq h3, fun z hz hl => or_t (List.all_eq_true.mp h4 z hz) (fun n => absurd hl (bne_iff_ne.mp n)) eq_of_beq, C.len, C.at_, C.fr, fun z hz => ?_, ?_⟩, C.nms⟩
 ·refine or_t (List.all_eq_true.mp h6 _ hz) (fun n => absurd rfl (bne_iff_ne.mp n)) fun h => ?_
  rw [← C.nms] at h
  obtain ⟨p, hp, rfl⟩ := List.mem_map.mp (List.contains_iff_mem.mp h)
  exact ⟨p.2, hp⟩
 ·rw [C.nms]; exact of_decide_eq_true h7
theorem inner_ok (O : MOk cx env M) {x : Str} {free : List Nat} {fn : List (Str × Addr)} (hn : fn.map (·.1) = free.filterMap fun j => M.nms[j]?) {L : Addr} {cenv : Env} (R : EnvR cenv ⟨L, (x, none) :: fn.map fun p => (p.1, some p.2)⟩) (hs : cenv.scope = relabel scope env) :
  MOk ⟨L, (x, none) :: fn.map fun p => (p.1, some p.2)⟩ cenv (M.inner scope x free) := by
 refine ⟨R, ?_, congrArg (x :: ·) (hn ▸ ?_)⟩
 ·rw [hs]
  refine List.map_congr_left fun p _ => ?_
  have a : (env.scope.kind == ScopeKind.function) = true := by rw [O.R.kind]; rfl
  have b : env.kindOf p.1 = M.kinds.lookup p.1 := by rw [← O.kinds]; rfl
  show (if (p.2 == NameKind.free && env.scope.kind == _ && env.kindOf p.1 == _) then _ else _) = _
  rw [a, b, Bool.and_true]
 ·rw [List.map_map]; rfl
end
theorem snd_zero {α β : Type} {X : Wd} {cx : Cx} {f : St → Option (β × St)} {t : Sem α} {R : Tab → β → α → Prop} (h : ∀ st, f st = none) : Snd X cx f t R := .of fun {st _ _} e => no ((h st).symm.trans e)
noncomputable def EOk (X : Wd) (cx : Cx) (P : Prg) (n : Nat) (env : Env) (pe : PE) (e : Expr) : Prop :=
 Snd X cx ((run P n).e pe) (eval e env) PRel ∧ Snd X cx ((run P n).c pe) (isTrue e env (eval e env)) RB
noncomputable def EUp (X : Wd) (cx : Cx) (P : Prg) (n : Nat) (env : Env) (pe : PE) (e : Expr) : Prop := EOk X cx P n env pe e → EOk X cx P (n + 1) env pe e
noncomputable def plainC (pe : PE) : Bool := match pe with
 | .notE .. | .andE .. | .orE .. | .ife .. => false
 | _ => true
theorem stepC_plain {Ev : Ev} {pe : PE} (h : plainC pe = true) : stepC Ev pe = fun st => (Ev.e pe st).bind fun r => ((r.2.deref r.1).bind FV.truth).map fun t => (t, r.2) := by
 have hx : ∀ pe, (fun st => (Ev.e pe st).bind fun r => ((r.2.deref r.1).bind FV.truth).map fun t => (t, r.2)) = fun st => (Ev.e pe st).bind fun r => ((r.2.deref r.1).bind FV.truth).map fun t => (t, r.2) := fun _ => rfl
 induction pe using PE.casesOn <;> first | exact nob h | exact hx _
theorem plain_up {X : Wd} {cx : Cx} {env : Env} {P : Prg} {n : Nat} {pe : PE} {e : Expr} (hp : plainC pe = true) (hw : isTrue e env (eval e env) = (do let v ← eval e env; standAt e.pos; holding [v] (truthy v))) (h : Snd X cx (stepE (run P n) P pe) (eval e env) PRel) : EUp X cx P n env pe e :=
 fun ih => ⟨h, by
  show Snd X cx (stepC (run P n) pe) _ _
  rw [stepC_plain hp]
  exact snd_truth ih.1 hw⟩
structure EC (X : Wd) (S : MS) (mg mb : Str → Option Value) (K : Frag) (faddr : Nat → Addr) (n k : Nat) (M : MK) (cx : Cx) (env : Env) : Prop where
 Y : MHyp X S mg mb K faddr
 O : MOk cx env M
 go : ∀ m, m ≤ n → ∀ (M : MK) (cx : Cx) (env : Env) (pe : PE) (e : Expr), MOk cx env M → mE S k M pe e = true → EOk X cx S.P m env pe e
section
variable {X : Wd} {S : MS} {mg mb : Str → Option Value} {K : Frag} {faddr : Nat → Addr} {n k : Nat} {M : MK} {cx : Cx} {env : Env} (C : EC X S mg mb K faddr n k M cx env)
include C
theorem EC.ec {pe : PE} {e : Expr} (h : mE S k M pe e = true) : EOk X cx S.P n env pe e := C.go n (Nat.le_refl n) M cx env pe e C.O h
theorem EC.e {pe : PE} {e : Expr} (h : mE S k M pe e = true) : Snd X cx ((run S.P n).e pe) (eval e env) PRel := (C.ec h).1
theorem EC.c {pe : PE} {e : Expr} (h : mE S k M pe e = true) : Snd X cx ((run S.P n).c pe) (isTrue e env (eval e env)) RB := (C.ec h).2
theorem EC.args {l : List PE} {es : List Expr} {pos : Pos} (h : argsE (mE S k) M l es = true) : Trees X cx (run S.P n) l (backTo pos (starEach es env)) := andk h (trees_of fun _ _ => C.e)
theorem EC.parts {l : List PE} {es : List Expr} (h : partsM (mE S k) M l es = true) : SndL X cx (run S.P n) env l es := andk h (sndL_of fun _ _ => C.ec)
theorem up_var {i : Nat} {e : Expr} (h : mEs S (mE S k) M e (.var i) = true) : EUp X cx S.P n env (.var i) e :=
 isName_k h fun x p h => andk h fun h1 h2 => (C.O.name (eq_of_beq h1)).elim fun _ hx => plain_up rfl rfl (snd_var C.O.R hx (not_t h2))
theorem up_gc {x : Str} {v : FV} {e : Expr} (h : mEs S (mE S k) M e (.gc x v) = true) : EUp X cx S.P n env (.gc x v) e :=
 isName_k h fun y p h => andk h fun h1 h => eqk (Q := fun y => EUp X cx S.P n env (.gc x v) (.Name y p)) h1 (andk h fun h2 h3 => (C.Y.gc _ _ h2).elim fun _ g => plain_up rfl rfl (snd_gc C.Y.N C.O.R (C.O.gi h3).1 g.1 g.2 (C.O.gi h3).2))
omit C in
theorem up_cst {c : Const} {e : Expr} (h : mEs S (mE S k) M e (.cst c) = true) : EUp X cx S.P n env (.cst c) e :=
 isCst_k h fun c' m p h => deck (Q := fun c' => EUp X cx S.P n env (.cst c) (.Constant c' m p)) h (plain_up rfl rfl snd_cst)
theorem up_bin {op : Operator} {a b : PE} {lab : Option Nat} {e : Expr} (h : mEs S (mE S k) M e (.bin op a b lab) = true) : EUp X cx S.P n env (.bin op a b lab) e :=
 isBin_k h fun l o r p h => andk h fun h1 h => deck (Q := fun o => EUp X cx S.P n env (.bin op a b lab) (.BinOp l o r p)) h1 (andk h fun h2 h3 => plain_up rfl rfl (snd_bin (C.e h2) (C.e h3)))
theorem up_neg {a : PE} {e : Expr} (h : mEs S (mE S k) M e (.neg a) = true) : EUp X cx S.P n env (.neg a) e :=
 isUn_k h fun o x p h => andk h fun h1 h2 => deck (Q := fun o => EUp X cx S.P n env (.neg a) (.UnaryOp o x p)) h1 (plain_up rfl rfl (snd_neg (C.e h2)))
theorem up_not {a : PE} {e : Expr} (h : mEs S (mE S k) M e (.notE a) = true) : EUp X cx S.P n env (.notE a) e :=
 isUn_k h fun o x p h => andk h fun h1 h2 => deck (Q := fun o => EUp X cx S.P n env (.notE a) (.UnaryOp o x p)) h1 fun _ => ⟨snd_not (P := S.P) (C.e h2), snd_trueNot (C.c h2)⟩
theorem EC.at {m : Nat} (h : m ≤ n) : EC X S mg mb K faddr m k M cx env := ⟨C.Y, C.O, fun i hi => C.go i (Nat.le_trans hi h)⟩
theorem cmp_c {a : PE} {ops : List CmpOp} {bs : List PE} {l : Expr} {es : List Expr} {p : Pos} (h1 : mE S k M a l = true) (h2 : partsM (mE S k) M bs es = true) : Snd X cx (stepC (run S.P n) (.cmp a ops bs)) (isTrue (.Compare l ops es p) env (eval (.Compare l ops es p) env)) RB := by
 rw [stepC_plain rfl]
 induction n using Nat.casesOn with
 | zero => exact snd_zero fun _ => rfl
 | succ n => exact snd_trueCmp (P := S.P) ((C.at (Nat.le_succ n)).e h1) ((C.at (Nat.le_succ n)).parts h2)
theorem up_cmp {a : PE} {ops : List CmpOp} {bs : List PE} {e : Expr} (h : mEs S (mE S k) M e (.cmp a ops bs) = true) : EUp X cx S.P n env (.cmp a ops bs) e :=
 isCmp_k h fun l o es p h => andk h fun h1 h => deck (Q := fun o => EUp X cx S.P n env (.cmp a ops bs) (.Compare l o es p)) h1 (andk h fun h2 h3 _ => ⟨snd_cmp (P := S.P) (C.e h2) (C.parts h3), cmp_c C h2 h3⟩)
theorem up_and {l : List PE} {e : Expr} (h : mEs S (mE S k) M e (.andE l) = true) : EUp X cx S.P n env (.andE l) e :=
 isBool_k h fun o es p h => andk h fun h1 h2 => deck (Q := fun o => EUp X cx S.P n env (.andE l) (.BoolOp o es p)) h1 fun _ => ⟨snd_and (C.parts h2), snd_allTrue (C.parts h2)⟩
theorem up_or {l : List PE} {e : Expr} (h : mEs S (mE S k) M e (.orE l) = true) : EUp X cx S.P n env (.orE l) e :=
 isBool_k h fun o es p h => andk h fun h1 h2 => deck (Q := fun o => EUp X cx S.P n env (.orE l) (.BoolOp o es p)) h1 fun _ => ⟨snd_or (C.parts h2), snd_anyTrue (C.parts h2)⟩
theorem up_ife {c a b : PE} {e : Expr} (h : mEs S (mE S k) M e (.ife c a b) = true) : EUp X cx S.P n env (.ife c a b) e :=
 isIf_k h fun t x y p h => andk h fun h1 h => andk h fun h2 h3 _ => ⟨snd_ife (P := S.P) (C.c h1) (C.e h2) (C.e h3), snd_trueIfe (C.c h1) (C.c h2) (C.c h3)⟩
theorem up_idx {a i : PE} {e : Expr} (h : mEs S (mE S k) M e (.idx a i) = true) : EUp X cx S.P n env (.idx a i) e :=
 isSub_k h fun v s p h => andk h fun h1 h => andk h fun h2 h3 => plain_up rfl rfl (snd_idx h1 (C.e h2) (C.e h3))
theorem up_slc {a : PE} {lo hi : Option PE} {lab : Option Nat} {e : Expr} (h : mEs S (mE S k) M e (.slc a lo hi lab) = true) : EUp X cx S.P n env (.slc a lo hi lab) e :=
 isSub_k h fun v s p h => isSlc_k (Q := fun s => EUp X cx S.P n env (.slc a lo hi lab) (.Subscript v s p)) h fun l u st q h => by
  induction st with
  | none => exact andk h fun _ h => andk h fun h1 h => andk h fun h2 h3 => plain_up rfl rfl (snd_slc (C.e h1) (sndO_of (fun _ _ => C.e) h2) (sndO_of (fun _ _ => C.e) h3))
  | some _ => exact absurd h Bool.false_ne_true
theorem up_attr {a : PE} {x : Str} {e : Expr} (h : mEs S (mE S k) M e (.attr a x) = true) : EUp X cx S.P n env (.attr a x) e :=
 isAttr_k h fun v y p h => andk h fun h1 h => eqk (Q := fun y => EUp X cx S.P n env (.attr a x) (.Attribute v y p)) h1 (andk h fun h2 h3 => plain_up rfl rfl (snd_attr C.Y.CK h2 (C.e h3)))
theorem up_lst {l : List PE} {lab : Option Nat} {e : Expr} (h : mEs S (mE S k) M e (.lst l lab) = true) : EUp X cx S.P n env (.lst l lab) e :=
 isList_k h fun es p h => plain_up rfl rfl (snd_lst (C.args h))
theorem up_tup {l : List PE} {e : Expr} (h : mEs S (mE S k) M e (.tup l) = true) : EUp X cx S.P n env (.tup l) e :=
 isTup_k h fun es m p h => plain_up rfl rfl (snd_tup (C.args h))
theorem up_call {f : Nat} {l : List PE} {pass keep : List Nat} {e : Expr} (h : mEs S (mE S k) M e (.call f l pass keep) = true) : EUp X cx S.P n env (.call f l pass keep) e :=
 nameCall_k h fun x p es pos h => andk h fun h1 h => andk h fun h2 h => andk h fun h3 h4 =>
  have F := C.Y.fn f (of_decide_eq_true h2)
  plain_up rfl rfl (snd_call C.Y.N C.O.R (C.O.gi h3).1 (C.Y.gf _ _ (eq_of_beq h1)) (C.O.gi h3).2 F.1 F.2 (Nat.le_refl _) (C.args h4))
theorem up_meth {r : PE} {f : Nat} {l : List PE} {pass keep : List Nat} {e : Expr} (h : mEs S (mE S k) M e (.meth r f l pass keep) = true) : EUp X cx S.P n env (.meth r f l pass keep) e :=
 attrCall_k h fun o x ap es pos g1 g2 g3 h => andk h fun h1 h => eqk (Q := fun x => EUp X cx S.P n env (.meth r f l pass keep) (.Call (.Attribute o x ap) es [] pos)) h1 (andk h fun h2 h => andk h fun h3 h4 =>
  have F := C.Y.fn f (of_decide_eq_true h2)
  plain_up rfl rfl (snd_meth C.Y.CK g1 g2 g3 F.1 F.2 (Nat.le_refl _) (C.e h3) (C.args h4)))
theorem up_new {c : Nat} {l : List PE} {lab : Nat} {keep : List Nat} {e : Expr} (h : mEs S (mE S k) M e (.new c l lab keep) = true) : EUp X cx S.P n env (.new c l lab keep) e :=
 nameCall_k h fun x p es pos h => andk h fun h1 h => andk h fun h3 h4 => by
  obtain ⟨g, fI, lvl, nk, F, hl⟩ := C.Y.cls _ _ (eq_of_beq h1)
  exact plain_up rfl rfl (snd_new C.Y.N C.O.R C.Y.CK.isIn nk (C.O.gi h3).1 g (C.O.gi h3).2 F hl (C.args h4))
theorem bi_gen {b : BI} {l : List PE} {lab : Option Nat} {e : Expr} (h : (nameCall e fun x es => x == biName b && (M.gi x && argsE (mE S k) M l es)) = true)
  (s : ∀ {np es pos}, M.gi (biName b) = true → Trees X cx (run S.P n) l (backTo pos (starEach es env)) → Snd X cx (stepE (run S.P n) S.P (.bi b l lab)) (eval (.Call (.Name (biName b) np) es [] pos) env) PRel) : EUp X cx S.P n env (.bi b l lab) e :=
 nameCall_k h fun x p es pos h => andk h fun h1 h => eqk (Q := fun x => EUp X cx S.P n env (.bi b l lab) (.Call (.Name x p) es [] pos)) h1 (by
  have h1 := eq_of_beq h1
  subst h1
  exact andk h fun h2 h3 => plain_up rfl rfl (s h2 (C.args h3)))
theorem bi_pl {b : BI} {l : List PE} {lab : Option Nat} {e : Expr} (hp : plainBi b = true) (h : (nameCall e fun x es => x == biName b && (M.gi x && argsE (mE S k) M l es)) = true) : EUp X cx S.P n env (.bi b l lab) e :=
 bi_gen C h fun g t => snd_biPlain C.Y.N C.O.R hp (C.O.gi g).1 (C.Y.gb _) t
theorem up_isi {T : String} {l : List PE} {lab : Option Nat} {e : Expr} (h : mBi S (mE S k) M l e (.isi T) = true) : EUp X cx S.P n env (.bi (.isi T) l lab) e :=
 one_k (Q := fun l => EUp X cx S.P n env (.bi (.isi T) l lab) e) h fun a h => nameCall_k h fun x p es pos h => two_k (Q := fun es => EUp X cx S.P n env (.bi (.isi T) [a] lab) (.Call (.Name x p) es [] pos)) h fun e0 e1 h =>
  isName_k (Q := fun e1 => EUp X cx S.P n env (.bi (.isi T) [a] lab) (.Call (.Name x p) [e0, e1] [] pos)) h fun y q h => andk h fun h1 h => andk h fun h2 h => andk h fun h3 h => andk h fun h4 h => andk h fun h5 h => andk h fun h6 h7 => by
   have h1 := eq_of_beq h1
   have h3 := eq_of_beq h3
   subst h1 h3
   exact plain_up rfl rfl (snd_isi C.Y.N C.O.R (C.O.gi h2).1 (C.Y.gb (.isi T)) (C.O.gi h4).1 (C.Y.gt T h5) (C.O.gi h4).2 (by rw [star_one env h6]; rfl) (C.e h7))
theorem up_barr {l : List PE} {lab : Option Nat} {e : Expr} (h : mBi S (mE S k) M l e .bytearray = true) : EUp X cx S.P n env (.bi .bytearray l lab) e :=
 andk h fun h1 h => nilk (Q := fun l => EUp X cx S.P n env (.bi .bytearray l lab) e) h1 (nameCall_k h fun x p es pos h => andk h fun h2 h => nilk (Q := fun es => EUp X cx S.P n env (.bi .bytearray [] lab) (.Call (.Name x p) es [] pos)) h2 (andk h fun h3 h => by
  have h3 := eq_of_beq h3
  subst h3
  exact andk h fun h4 h5 => plain_up rfl rfl (snd_biBytearray C.Y.N C.O.R (C.Y.cl h5) (C.O.gi h4).1 (C.Y.gb _))))
theorem up_bi {l : List PE} {lab : Option Nat} {e : Expr} : ∀ {b : BI}, mBi S (mE S k) M l e b = true → EUp X cx S.P n env (.bi b l lab) e
 | .len, h => bi_gen C h fun g t => snd_biLen C.Y.N C.O.R (C.O.gi g).1 (C.Y.gb _) t
 | .bytes, h => bi_gen C h fun g t => snd_biBytes C.Y.N C.O.R (C.O.gi g).1 (C.Y.gb _) t
 | .list, h => bi_gen C h fun g t => snd_biList C.Y.N C.O.R (C.O.gi g).1 (C.Y.gb _) t
 | .isi T, h => up_isi C h
 | .bytearray, h => up_barr C h
 | .ord, h => bi_pl C rfl h
 | .chr, h => bi_pl C rfl h
 | .int, h => bi_pl C rfl h
 | .bool, h => bi_pl C rfl h
 | .max, h => bi_pl C rfl h
 | .tuple, h => bi_pl C rfl h
 | .range, h => bi_pl C rfl h
omit C in
theorem bm_gen {b : BM} {o : PE} {l : List PE} {e : Expr} (h : mBm S (mE S k) M b o l e = true)
  (s : ∀ {o' ap es pos}, S.cl = true → notCall o' = true → (ap.endLine == pos.line) = true → es.length < 30 → mE S k M o o' = true → argsE (mE S k) M l es = true → Snd X cx (stepE (run S.P n) S.P (.bm b o l)) (eval (.Call (.Attribute o' (bmName b) ap) es [] pos) env) PRel) : EUp X cx S.P n env (.bm b o l) e :=
 attrCall_k h fun o' x ap es pos g1 g2 g3 h => andk h fun h1 h => eqk (Q := fun x => EUp X cx S.P n env (.bm b o l) (.Call (.Attribute o' x ap) es [] pos)) h1 (andk h fun h2 h => andk h fun h3 h4 => plain_up rfl rfl (s h2 g1 g2 g3 h3 h4))
theorem up_bm {o : PE} {l : List PE} {e : Expr} : ∀ {b : BM}, mBm S (mE S k) M b o l e = true → EUp X cx S.P n env (.bm b o l) e
 | .append, h => bm_gen h fun h2 g1 g2 g3 h3 h4 => snd_append (C.Y.cl h2) g1 g2 g3 (C.e h3) (C.args h4)
 | .extend, h => bm_gen h fun h2 g1 g2 g3 h3 h4 => snd_extend (C.Y.cl h2) g1 g2 g3 (C.e h3) (C.args h4)
 | .reverse, h => bm_gen h fun h2 g1 g2 g3 h3 h4 => snd_reverse g1 g2 g3 (C.e h3) (C.args h4)
 | .join, h => bm_gen h fun h2 g1 g2 g3 h3 h4 => snd_join g1 g2 g3 (C.e h3) (C.args h4)
theorem up_comp {elt it : PE} {free : List Nat} {lab : Option Nat} {e : Expr} (h : mComp (mE S k) M elt it free e = true) : EUp X cx S.P n env (.comp elt it free lab) e :=
 isComp1_k h fun eltE x p iter scope pos h => andk h fun h1 h => andk h fun h2 h => andk h fun h3 h4 => by
  obtain ⟨fn, D, hn⟩ := compOk_of C.O h1
  exact plain_up rfl rfl (snd_comp C.O.R D h2 (run_loc S.P n) (C.e h3) fun L cenv R hs => (C.go n (Nat.le_refl n) _ _ _ _ _ (inner_ok C.O hn R hs) h4).1)
theorem up_any {pe : PE} {e : Expr} : mEs S (mE S k) M e pe = true → EUp X cx S.P n env pe e :=
 match pe with
 | .var _ => up_var C
 | .gc .. => up_gc C
 | .cst _ => up_cst
 | .bin .. => up_bin C
 | .neg _ => up_neg C
 | .notE _ => up_not C
 | .cmp .. => up_cmp C
 | .andE _ => up_and C
 | .orE _ => up_or C
 | .ife .. => up_ife C
 | .idx .. => up_idx C
 | .slc .. => up_slc C
 | .attr .. => up_attr C
 | .lst .. => up_lst C
 | .tup _ => up_tup C
 | .call .. => up_call C
 | .meth .. => up_meth C
 | .new .. => up_new C
 | .bi _ _ _ => up_bi C
 | .bm _ _ _ => up_bm C
 | .comp .. => up_comp C
end
theorem mE_ok {X : Wd} {S : MS} {mg mb : Str → Option Value} {K : Frag} {faddr : Nat → Addr} (Y : MHyp X S mg mb K faddr) (n : Nat) : ∀ (k : Nat) (M : MK) (cx : Cx) (env : Env) (pe : PE) (e : Expr), MOk cx env M → mE S k M pe e = true → EOk X cx S.P n env pe e := by
 induction n using Nat.strongRecOn with
 | ind n ih =>
 intro k M cx env pe e O h
 induction n using Nat.casesOn with
 | zero => exact ⟨snd_zero fun _ => rfl, snd_zero fun _ => rfl⟩
 | succ n => induction k using Nat.casesOn with
  | zero => exact absurd h Bool.false_ne_true
  | succ k => exact up_any ⟨Y, O, fun m hm => ih m (Nat.lt_succ_of_le hm) k⟩ h (ih n (Nat.lt_succ_self n) (k + 1) M cx env pe e O h)
end Mine
end
section
open PySem PySem.W PyProof.Rows
namespace Mine
noncomputable def isAsg (e : Stmt) (f : Expr → Expr → Bool) : Bool := if c : e.ctorIdx = 5 then Stmt.Assign.elim (motive_2 := fun _ => Bool) e c (fun l v _ => one l fun t => f t v) else false
theorem isAsg_k {e : Stmt} {f : Expr → Expr → Bool} {Q : Stmt → Prop} (h : isAsg e f = true) (k : ∀ t v p, f t v = true → Q (.Assign [t] v p)) : Q e :=
 dk h fun c h => Stmt.Assign.elim (motive_2 := fun e => (c : e.ctorIdx = 5) → Stmt.Assign.elim (motive_2 := fun _ => Bool) e c (fun l v _ => one l fun t => f t v) = true → Q e) e c (fun l v p _ h => one_k (Q := fun l => Q (.Assign l v p)) h fun t => k t v p) c h
noncomputable def isAug (e : Stmt) (f : Expr → Operator → Expr → Bool) : Bool := if c : e.ctorIdx = 7 then Stmt.AugAssign.elim (motive_2 := fun _ => Bool) e c (fun t o v _ => f t o v) else false
theorem isAug_k {e : Stmt} {f : Expr → Operator → Expr → Bool} {Q : Stmt → Prop} (h : isAug e f = true) (k : ∀ t o v p, f t o v = true → Q (.AugAssign t o v p)) : Q e :=
 dk h fun c h => Stmt.AugAssign.elim (motive_2 := fun e => (c : e.ctorIdx = 7) → Stmt.AugAssign.elim (motive_2 := fun _ => Bool) e c (fun t o v _ => f t o v) = true → Q e) e c (fun t o v p _ => k t o v p) c h
noncomputable def isIfS (e : Stmt) (f : Expr → List Stmt → List Stmt → Bool) : Bool := if c : e.ctorIdx = 12 then Stmt.If.elim (motive_2 := fun _ => Bool) e c (fun t o v _ => f t o v) else false
theorem isIfS_k {e : Stmt} {f : Expr → List Stmt → List Stmt → Bool} {Q : Stmt → Prop} (h : isIfS e f = true) (k : ∀ t o v p, f t o v = true → Q (.If t o v p)) : Q e :=
 dk h fun c h => Stmt.If.elim (motive_2 := fun e => (c : e.ctorIdx = 12) → Stmt.If.elim (motive_2 := fun _ => Bool) e c (fun t o v _ => f t o v) = true → Q e) e c (fun t o v p _ => k t o v p) c h
noncomputable def isWhile (e : Stmt) (f : Expr → List Stmt → Bool) : Bool := if c : e.ctorIdx = 11 then Stmt.While.elim (motive_2 := fun _ => Bool) e c (fun t o v _ => v.isEmpty && f t o) else false
theorem isWhile_k {e : Stmt} {f : Expr → List Stmt → Bool} {Q : Stmt → Prop} (h : isWhile e f = true) (k : ∀ t o p, f t o = true → Q (.While t o [] p)) : Q e :=
 dk h fun c h => Stmt.While.elim (motive_2 := fun e => (c : e.ctorIdx = 11) → Stmt.While.elim (motive_2 := fun _ => Bool) e c (fun t o v _ => v.isEmpty && f t o) = true → Q e) e c (fun t o v p _ h => andk h fun h1 h2 => nilk (Q := fun v => Q (.While t o v p)) h1 (k t o p h2)) c h
noncomputable def isFor (e : Stmt) (f : Str → Expr → List Stmt → Bool) : Bool := if c : e.ctorIdx = 9 then Stmt.For.elim (motive_2 := fun _ => Bool) e c (fun t i o v _ => v.isEmpty && isName t fun x _ => f x i o) else false
theorem isFor_k {e : Stmt} {f : Str → Expr → List Stmt → Bool} {Q : Stmt → Prop} (h : isFor e f = true) (k : ∀ x q i o p, f x i o = true → Q (.For (.Name x q) i o [] p)) : Q e :=
 dk h fun c h => Stmt.For.elim (motive_2 := fun e => (c : e.ctorIdx = 9) → Stmt.For.elim (motive_2 := fun _ => Bool) e c (fun t i o v _ => v.isEmpty && isName t fun x _ => f x i o) = true → Q e) e c
  (fun t i o v p _ h => andk h fun h1 h2 => nilk (Q := fun v => Q (.For t i o v p)) h1 (isName_k (Q := fun t => Q (.For t i o [] p)) h2 fun x q => k x q i o p)) c h
noncomputable def isRet (e : Stmt) (f : Expr → Bool) : Bool := if c : e.ctorIdx = 3 then Stmt.Return.elim (motive_2 := fun _ => Bool) e c (fun o _ => o.any f) else false
theorem isRet_k {e : Stmt} {f : Expr → Bool} {Q : Stmt → Prop} (h : isRet e f = true) (k : ∀ v p, f v = true → Q (.Return (some v) p)) : Q e :=
 dk h fun c h => Stmt.Return.elim (motive_2 := fun e => (c : e.ctorIdx = 3) → Stmt.Return.elim (motive_2 := fun _ => Bool) e c (fun o _ => o.any f) = true → Q e) e c (fun o p _ h => by
  induction o with
  | none => exact absurd h Bool.false_ne_true
  | some v => exact k v p h) c h
noncomputable def isExp (e : Stmt) (f : Expr → Bool) : Bool := if c : e.ctorIdx = 24 then Stmt.Expr.elim (motive_2 := fun _ => Bool) e c (fun o _ => f o) else false
theorem isExp_k {e : Stmt} {f : Expr → Bool} {Q : Stmt → Prop} (h : isExp e f = true) (k : ∀ v p, f v = true → Q (.Expr v p)) : Q e :=
 dk h fun c h => Stmt.Expr.elim (motive_2 := fun e => (c : e.ctorIdx = 24) → Stmt.Expr.elim (motive_2 := fun _ => Bool) e c (fun o _ => f o) = true → Q e) e c (fun o p _ => k o p) c h
noncomputable def mB (f : PS → Stmt → Bool) (l : List PS) : List Stmt → Bool :=
 List.rec (motive := fun _ => List Stmt → Bool) List.isEmpty (fun a _ ih sts => if a.ctorIdx = 11 then ih sts else List.casesOn (motive := fun _ => Bool) sts false fun st sts => f a st && ih sts) l
noncomputable def tgtM (nms : List Str) (l : List Nat) : List Expr → Bool :=
 List.rec (motive := fun _ => List Expr → Bool) List.isEmpty (fun i _ ih es => List.casesOn (motive := fun _ => Bool) es false fun e es => isName e fun x _ => nms[i]? == some x && ih es) l
section
variable (S : MS) (k : Nat) (r : MK → PS → Stmt → Bool) (M : MK)
noncomputable def swapM (is : List Nat) (e : PE) (es : List Expr) (ve : Expr) (vs : List Expr) : Bool :=
 two is fun i j => two es fun ex ey => isName ex fun x px => isName ey fun y py => M.nms[i]? == some x && (M.nms[j]? == some y && (decide (i ≠ j) && (mE S k M e ve && (!(x == y) && (px.line == py.line && (M.kinds.lookup x == some .local && (M.kinds.lookup y == some .local && (vs.length == 2 && (vs.all notStar && (!(vs.all (foldedForSure 8)) && !(vs.all (constantsAlone 8))))))))))))
noncomputable def mSs (st : Stmt) (ps : PS) : Bool := match ps with
 | .asg i e => isAsg st fun t ve => isName t fun x _ => M.nms[i]? == some x && ((noComp ve || e.ctorIdx == 20) && mE S k M e ve)
 | .asgT is e => isAsg st fun t ve => isTup t fun es => (isTup ve fun vs => swapM S k M is e es ve vs) || (notTuple ve && (tgtM M.nms is es && (noComp ve && mE S k M e ve)))
 | .asgA a x e => isAsg st fun t ve => isAttr t fun oe y _ => y == x && (noComp ve && (mE S k M e ve && mE S k M a oe))
 | .asgI a i e => isAsg st fun t ve => isSub t fun oe ie => notSlice ie && (noComp ve && (mE S k M e ve && (mE S k M a oe && mE S k M i ie)))
 | .aug i op e => isAug st fun t op' ve => isName t fun x _ => M.nms[i]? == some x && (decide (op' = op) && mE S k M e ve)
 | .augA a x op e => isAug st fun t op' ve => isAttr t fun oe y _ => y == x && (decide (op' = op) && (mE S k M e ve && mE S k M a oe))
 | .ifS c t f => isIfS st fun test b o => mE S k M c test && (mB (r M) t b && mB (r M) f o)
 | .whileS _ c b => isWhile st fun test body => mE S k M c test && mB (r M) b body
 | .forS i e b => isFor st fun x iter body => M.nms[i]? == some x && (plainE iter && (mE S k M e iter && mB (r M) b body))
 | .ret e _ => isRet st fun ve => mE S k M e ve
 | .expr e => isExp st fun ve => noComp ve && mE S k M e ve
 | .frz _ => false
 | .stuck => true
end
noncomputable def mS (S : MS) (k : Nat) : MK → PS → Stmt → Bool := Nat.rec (motive := fun _ => MK → PS → Stmt → Bool) (fun _ _ _ => false) (fun k r M ps st => mSs S k r M st ps) k
theorem frz_run (P : Prg) (n : Nat) : FrzOk (run P n) := by
 induction n using Nat.casesOn with
 | zero => exact fun k σ r e => no e
 | succ n => exact fun k σ r e => e
theorem sndS_of {X : Wd} {cx : Cx} {Ev : Ev} {env : Env} {f : PS → Stmt → Bool} (H : ∀ a e, f a e = true → Snd X cx (Ev.s a) (exec e env) RFl) {l : List PS} : ∀ {sts : List Stmt}, mB f l sts = true → SndS X cx Ev env l sts := by
 induction l with
 | nil => exact fun {sts} h => nilk (Q := fun sts => SndS X cx Ev env [] sts) h .nil
 | cons a l ih =>
  intro sts h
  have h : (if a.ctorIdx = 11 then mB f l sts else List.casesOn (motive := fun _ => Bool) sts false fun st sts => f a st && mB f l sts) = true := h
  by_cases c : a.ctorIdx = 11
  ·rw [if_pos c] at h
   exact PS.frz.elim (motive_1 := fun a => SndS X cx Ev env (a :: l) sts) a c fun k => .frz (ih h)
  ·rw [if_neg c] at h
   induction sts using List.casesOn with
   | nil => exact absurd h Bool.false_ne_true
   | cons st sts => exact andk h fun h1 h2 => .cons (H _ _ h1) (ih h2)
theorem tgt_of {cx : Cx} {env : Env} {M : MK} (O : MOk cx env M) {is : List Nat} : ∀ {es : List Expr}, tgtM M.nms is es = true → Targets cx is es := by
 induction is with
 | nil => exact fun {es} h => nilk (Q := fun es => Targets cx [] es) h .nil
 | cons i is ih =>
  intro es h
  induction es using List.casesOn with
  | nil => exact absurd h Bool.false_ne_true
  | cons e es => exact isName_k (Q := fun e => Targets cx (i :: is) (e :: es)) h fun x p h => andk h fun h1 h2 => (O.name (eq_of_beq h1)).elim fun _ hx => .cons hx (ih h2)
theorem fm2 {α β : Type} {f : α → Option β} {a b : α} {x y : β} (h : f a = some x) (h' : f b = some y) : [a, b].filterMap f = [x, y] := by
 rw [List.filterMap_cons_some h, List.filterMap_cons_some h']; rfl
theorem ed2 {x y : Str} (h : (x == y) = false) : [x, y].eraseDups = [x, y] := by
 have h' : (y == x) = false := by rw [beq_eq_false_iff_ne] at h ⊢; exact fun e => h e.symm
 rw [List.eraseDups_cons, List.filter_cons_of_pos (by rw [h']; rfl)]; rfl
theorem any_star {vs : List Expr} (h : vs.all notStar = true) (f : Expr → Bool) (hf : ∀ e, notStar e = true → f e = false) : ¬ vs.any f = true := fun a => by
 obtain ⟨e, he, hv⟩ := List.any_eq_true.mp a
 rw [hf e (List.all_eq_true.mp h e he)] at hv
 exact absurd hv Bool.false_ne_true
theorem swapped_two {env : Env} {x y : Str} {px py tp vp : Pos} {k k' : Nat} {vs : List Expr} (hk : env.scope.kind = .function) (hx : env.kindOf x = some .local) (hy : env.kindOf y = some .local) (hxy : (x == y) = false) (hl : (px.line == py.line) = true) (hlen : (vs.length == 2) = true) (hst : vs.all notStar = true) (hf : vs.all (foldedForSure 8) = false) (hc : vs.all (constantsAlone 8) = false) :
  swappedStores [.Tuple [.Name x px, .Name y py] k tp] (.Tuple vs k' vp) env = pure (some [x, y]) := by
 have hb : env.blockKind = .function := by unfold Env.blockKind; rw [hk]; rfl
 have a : ∀ q : Pos, (px.line == q.line) = true → (q.line == px.line) = true := fun q h => beq_iff_eq.mpr (beq_iff_eq.mp h).symm
 refine (if_neg ?_).trans ((if_neg (any_star hst _ fun e h => ?_)).trans ?_)
 ·rw [hb, show vs.length = 2 from eq_of_beq hlen]; exact nofun
 ·have hx : false = false := rfl
  induction e using Expr.casesOn <;> first | exact nob h | exact hx
 ·dsimp only
  rw [fm2 (x := x) (y := y) ?_ ?_, ed2 hxy]
  ·refine (if_neg nofun).trans ((if_neg ?_).trans ((if_neg ?_).trans rfl))
   ·rw [hf]; exact Bool.false_ne_true
   ·rw [hc]; exact Bool.false_ne_true
  ·exact if_pos (Bool.and_eq_true_iff.mpr ⟨beq_iff_eq.mpr hx, beq_self_eq_true _⟩)
  ·exact if_pos (Bool.and_eq_true_iff.mpr ⟨beq_iff_eq.mpr hy, a py hl⟩)
noncomputable def SOk (X : Wd) (cx : Cx) (P : Prg) (n : Nat) (env : Env) (ps : PS) (st : Stmt) : Prop := Snd X cx ((run P n).s ps) (exec st env) RFl
structure SC (X : Wd) (S : MS) (mg mb : Str → Option Value) (K : Frag) (faddr : Nat → Addr) (n k : Nat) (M : MK) (cx : Cx) (env : Env) : Prop where
 Y : MHyp X S mg mb K faddr
 O : MOk cx env M
 go : ∀ (ps : PS) (st : Stmt), mS S k M ps st = true → SOk X cx S.P n env ps st
section
variable {X : Wd} {S : MS} {mg mb : Str → Option Value} {K : Frag} {faddr : Nat → Addr} {n k : Nat} {M : MK} {cx : Cx} {env : Env} (C : SC X S mg mb K faddr n k M cx env)
include C
theorem SC.e {pe : PE} {e : Expr} (h : mE S k M pe e = true) : Snd X cx ((run S.P n).e pe) (eval e env) PRel := (mE_ok C.Y n k M cx env pe e C.O h).1
theorem SC.c {pe : PE} {e : Expr} (h : mE S k M pe e = true) : Snd X cx ((run S.P n).c pe) (isTrue e env (eval e env)) RB := (mE_ok C.Y n k M cx env pe e C.O h).2
theorem SC.b {l : List PS} {sts : List Stmt} (h : mB (mS S k M) l sts = true) : SndS X cx (run S.P n) env l sts := sndS_of C.go h
theorem s_comp {i : Nat} {x : Str} {p pos : Pos} {co : Option Addr} {elt it : PE} {free : List Nat} {lab : Option Nat} {ve : Expr} (hx : cx.names[i]? = some (x, co)) (h : mE S k M (.comp elt it free lab) ve = true) : SOk X cx S.P (n + 1) env (.asg i (.comp elt it free lab)) (.Assign [.Name x p] ve pos) := by
 induction n using Nat.casesOn with
 | zero => exact snd_zero fun _ => rfl
 | succ n =>
  induction k using Nat.casesOn with
  | zero => exact absurd h Bool.false_ne_true
  | succ k =>
   have h : mComp (mE S k) M elt it free ve = true := h
   refine isComp1_k (Q := fun ve => SOk X cx S.P (n + 1 + 1) env (.asg i (.comp elt it free lab)) (.Assign [.Name x p] ve pos)) h fun eltE y q iter scope pos' h => andk h fun h1 h => andk h fun h2 h => andk h fun h3 h4 => ?_
   obtain ⟨fn, D, hn⟩ := compOk_of C.O h1
   exact snd_asgComp (P := S.P) (P' := S.P) (Ev' := run S.P n) C.O.R hx D h2 (run_loc S.P n) (fun σ r h => h) (mE_ok C.Y n k M cx env _ _ C.O h3).1 fun L cenv R hs => (mE_ok C.Y n k _ _ _ _ _ (inner_ok C.O hn R hs) h4).1
theorem s_asg {i : Nat} {e : PE} {st : Stmt} (h : mSs S k (mS S k) M st (.asg i e) = true) : SOk X cx S.P (n + 1) env (.asg i e) st :=
 isAsg_k h fun t ve pos h => isName_k (Q := fun t => SOk X cx S.P (n + 1) env (.asg i e) (.Assign [t] ve pos)) h fun x p h => andk h fun h1 h => andk h fun h2 h3 => (C.O.name (eq_of_beq h1)).elim fun co hx =>
  or_t h2 (fun h2 => snd_asg (P := S.P) C.O.R hx h2 (C.e h3)) fun h2 =>
   PE.comp.elim (motive_1 := fun e => mE S k M e ve = true → SOk X cx S.P (n + 1) env (.asg i e) (.Assign [.Name x p] ve pos)) e (eq_of_beq h2) (fun elt it free lab h => s_comp C hx h) h3
theorem s_swap {is : List Nat} {e : PE} {es vs : List Expr} {n1 n2 : Nat} {p vp pos : Pos} (h : swapM S k M is e es (.Tuple vs n2 vp) vs = true) : SOk X cx S.P (n + 1) env (.asgT is e) (.Assign [.Tuple es n1 p] (.Tuple vs n2 vp) pos) :=
 two_k (Q := fun is => SOk X cx S.P (n + 1) env (.asgT is e) (.Assign [.Tuple es n1 p] (.Tuple vs n2 vp) pos)) h fun i j h => two_k (Q := fun es => SOk X cx S.P (n + 1) env (.asgT [i, j] e) (.Assign [.Tuple es n1 p] (.Tuple vs n2 vp) pos)) h fun ex ey h =>
  isName_k (Q := fun ex => SOk X cx S.P (n + 1) env (.asgT [i, j] e) (.Assign [.Tuple [ex, ey] n1 p] (.Tuple vs n2 vp) pos)) h fun x px h => isName_k (Q := fun ey => SOk X cx S.P (n + 1) env (.asgT [i, j] e) (.Assign [.Tuple [.Name x px, ey] n1 p] (.Tuple vs n2 vp) pos)) h fun y py h =>
  andk h fun h1 h => andk h fun h2 h => andk h fun h3 h => andk h fun h4 h => andk h fun h5 h => andk h fun h6 h => andk h fun h7 h => andk h fun h8 h => andk h fun h9 h => andk h fun h10 h => andk h fun h11 h12 =>
  (C.O.name (eq_of_beq h1)).elim fun _ hx => (C.O.name (eq_of_beq h2)).elim fun _ hy => snd_asgT2 (P := S.P) C.O.R hx hy (of_decide_eq_true h3) rfl (swapped_two C.O.R.kind (C.O.loc h7) (C.O.loc h8) (not_t h5) h6 h9 h10 (not_t h11) (not_t h12)) (C.e h4)
theorem s_asgT {is : List Nat} {e : PE} {st : Stmt} (h : mSs S k (mS S k) M st (.asgT is e) = true) : SOk X cx S.P (n + 1) env (.asgT is e) st :=
 isAsg_k h fun t ve pos h => isTup_k (Q := fun t => SOk X cx S.P (n + 1) env (.asgT is e) (.Assign [t] ve pos)) h fun es n1 p h => or_t h
  (fun h => isTup_k (Q := fun v => (isTup v fun vs => swapM S k M is e es v vs) = true → SOk X cx S.P (n + 1) env (.asgT is e) (.Assign [.Tuple es n1 p] v pos)) h (fun vs n2 vp _ h => s_swap C h) h)
  (fun h => andk h fun h1 h => andk h fun h2 h => andk h fun h3 h4 => snd_asgT (P := S.P) C.O.R (tgt_of C.O h2) h3 (swapped_no h1 env) (C.e h4))
theorem s_asgA {a e : PE} {x : Str} {st : Stmt} (h : mSs S k (mS S k) M st (.asgA a x e) = true) : SOk X cx S.P (n + 1) env (.asgA a x e) st :=
 isAsg_k h fun t ve pos h => isAttr_k (Q := fun t => SOk X cx S.P (n + 1) env (.asgA a x e) (.Assign [t] ve pos)) h fun oe y p h => andk h fun h1 h => eqk (Q := fun y => SOk X cx S.P (n + 1) env (.asgA a x e) (.Assign [.Attribute oe y p] ve pos)) h1
  (andk h fun h2 h => andk h fun h3 h4 => snd_asgA C.Y.CK h2 (C.e h3) (C.e h4))
theorem s_asgI {a i e : PE} {st : Stmt} (h : mSs S k (mS S k) M st (.asgI a i e) = true) : SOk X cx S.P (n + 1) env (.asgI a i e) st :=
 isAsg_k h fun t ve pos h => isSub_k (Q := fun t => SOk X cx S.P (n + 1) env (.asgI a i e) (.Assign [t] ve pos)) h fun oe ie p h => andk h fun h1 h => andk h fun h2 h => andk h fun h3 h => andk h fun h4 h5 => snd_asgI (P := S.P) h1 h2 (C.e h3) (C.e h4) (C.e h5)
theorem s_aug {i : Nat} {op : Operator} {e : PE} {st : Stmt} (h : mSs S k (mS S k) M st (.aug i op e) = true) : SOk X cx S.P (n + 1) env (.aug i op e) st :=
 isAug_k h fun t o ve pos h => isName_k (Q := fun t => SOk X cx S.P (n + 1) env (.aug i op e) (.AugAssign t o ve pos)) h fun x p h => andk h fun h1 h => andk h fun h2 h3 => deck (Q := fun o => SOk X cx S.P (n + 1) env (.aug i op e) (.AugAssign (.Name x p) o ve pos)) h2
  ((C.O.name (eq_of_beq h1)).elim fun _ hx => snd_aug (P := S.P) C.O.R hx (C.e h3))
theorem s_augA {a e : PE} {x : Str} {op : Operator} {st : Stmt} (h : mSs S k (mS S k) M st (.augA a x op e) = true) : SOk X cx S.P (n + 1) env (.augA a x op e) st :=
 isAug_k h fun t o ve pos h => isAttr_k (Q := fun t => SOk X cx S.P (n + 1) env (.augA a x op e) (.AugAssign t o ve pos)) h fun oe y p h => andk h fun h1 h => eqk (Q := fun y => SOk X cx S.P (n + 1) env (.augA a x op e) (.AugAssign (.Attribute oe y p) o ve pos)) h1
  (andk h fun h2 h => deck (Q := fun o => SOk X cx S.P (n + 1) env (.augA a x op e) (.AugAssign (.Attribute oe x p) o ve pos)) h2 (andk h fun h3 h4 => snd_augA C.Y.CK (C.e h3) (C.e h4)))
theorem s_if {c : PE} {t f : List PS} {st : Stmt} (h : mSs S k (mS S k) M st (.ifS c t f) = true) : SOk X cx S.P (n + 1) env (.ifS c t f) st :=
 isIfS_k h fun test b o pos h => andk h fun h1 h => andk h fun h2 h3 => snd_if (P := S.P) (frz_run S.P n) (C.c h1) (C.b h2) (C.b h3)
theorem s_while {m : Nat} {c : PE} {b : List PS} {st : Stmt} (h : mSs S k (mS S k) M st (.whileS m c b) = true) : SOk X cx S.P (n + 1) env (.whileS m c b) st :=
 isWhile_k h fun test o pos h => andk h fun h1 h2 => snd_while (P := S.P) (frz_run S.P n) (C.c h1) (C.b h2)
theorem s_for {i : Nat} {e : PE} {b : List PS} {st : Stmt} (h : mSs S k (mS S k) M st (.forS i e b) = true) : SOk X cx S.P (n + 1) env (.forS i e b) st :=
 isFor_k h fun x q it o pos h => andk h fun h1 h => andk h fun h2 h => andk h fun h3 h4 => (C.O.name (eq_of_beq h1)).elim fun _ hx => snd_for (P := S.P) (frz_run S.P n) C.O.R h2 hx (C.e h3) (C.b h4)
theorem s_any {ps : PS} {st : Stmt} : mSs S k (mS S k) M st ps = true → SOk X cx S.P (n + 1) env ps st :=
 match ps with
 | .asg .. => s_asg C
 | .asgT .. => s_asgT C
 | .asgA .. => s_asgA C
 | .asgI .. => s_asgI C
 | .aug .. => s_aug C
 | .augA .. => s_augA C
 | .ifS .. => s_if C
 | .whileS .. => s_while C
 | .forS .. => s_for C
 | .ret .. => fun h => isRet_k h fun ve pos h => snd_ret (P := S.P) (C.e h)
 | .expr _ => fun h => isExp_k h fun ve pos h => andk h fun h1 h2 => snd_expr (P := S.P) C.O.R h1 (C.e h2)
 | .frz _ => fun h => absurd h Bool.false_ne_true
 | .stuck => fun _ => snd_stuck (Ev := run S.P n) (P := S.P)
end
section
variable {X : Wd} {S : MS} {mg mb : Str → Option Value} {K : Frag} {faddr : Nat → Addr}
theorem mS_ok (Y : MHyp X S mg mb K faddr) (n : Nat) : ∀ (k : Nat) (M : MK) (cx : Cx) (env : Env) (ps : PS) (st : Stmt), MOk cx env M → mS S k M ps st = true → SOk X cx S.P n env ps st := by
 induction n with
 | zero => exact fun _ _ _ _ _ _ _ _ => snd_zero fun _ => rfl
 | succ n ih =>
  intro k M cx env ps st O h
  induction k using Nat.casesOn with
  | zero => exact absurd h Bool.false_ne_true
  | succ k => exact s_any ⟨Y, O, fun ps st h => ih k M cx env ps st O h⟩ h
theorem mB_ok (Y : MHyp X S mg mb K faddr) {n k : Nat} {M : MK} {cx : Cx} {env : Env} {l : List PS} {sts : List Stmt} (O : MOk cx env M) (h : mB (mS S k M) l sts = true) : Snd X cx (evB (run S.P n) l) (execs sts env) RFl :=
 execs_ok (frz_run S.P n) (sndS_of (fun a e h => mS_ok Y n k M cx env a e O h) h)
end
end Mine
end
section
open PySem PySem.W PySem.Calls PyProof.Rows
namespace Mine
noncomputable def Γ₀ : Ctx := ⟨.builtin "claim.caller" {}, none, none, [], none⟩
theorem thread_at {prog : Program} {w : World} {t : Sem Fin} {s : Shared} {R : Result → Shared → Prop} (hreg : s.asleep)
  (h : Wk prog w Γ₀ t (fun fin s' => ∃ f, fin = .done f ∧ R (.ok f) s' ∧ leftWithCleanup s'.gens = false) s) :
  ∃ n r s' s'', runN (denote table) prog w n s ⟨t, .builtin "claim.caller" {}, default, []⟩ = .halted (outcomeOf r) s' ∧
   schedN (denote table) prog w n (.single s ⟨t, .builtin "claim.caller" {}, default, []⟩) = .halted (outcomeOf r) s' ∧ s'.forget = s''.forget ∧ R r s'' := by
 have key : Sem.wp (model prog w) Γ₀ t (Sem.finPost (model prog w) Γ₀ fun r s' => R r s' ∧ leftWithCleanup s'.gens = false) (fun e _ s' => R (.error e) s' ∧ leftWithCleanup s'.gens = false) default s :=
  Sem.wp_mono _ _ _ (fun fin p' s' h' => by obtain ⟨f, rfl, hf⟩ := h'; exact hf) (fun _ _ _ x => x.elim) _ _ (h default)
 obtain ⟨n, r, s₁, s₂, a, b, c, d⟩ := wp_halts_full (M := model prog w) (R := R) hreg key
 exact ⟨n, r, s₂, s₁, b, a, c, d⟩
noncomputable abbrev WalkAt (q : Program) (loose : List Str) (XP : (Str → Option Value) → Heap → Prop) (YP : World → Heap → Prop) (r : RowW) (d : DefRec) (kwd : List (Str × Expr)) : Prop :=
 ∀ (w : World) (s₀ s₁ : Shared) (mg mb : Str → Option Value), Ground q loose r.records XP w s₀ mg mb s₁.heap → YP w s₁.heap → ∀ (a : Addr) (o : Obj) (pm cd doc dV kV : Value), s₁.heap.get? a = some o →
  o.data = .func { docDef d.name d.params d.body d.scope pm cd doc with defaults := dV, kwdefaults := kV } → s₁.heap.CodeRec cd d.name → Dflts mg s₁.heap d.params kwd dV kV → mg d.name = some (.ref a) → s₁.gens = #[] →
  ∀ (args : List WData) (vals : List Value) (as : List Addr), r.claim.pre args = true → Laid r.records w s₀ s₁ args vals as →
   Wk r.prog w Γ₀ (PySem.call (.ref a) vals) (fun v s' => GoodWG r.claim (classAt s₀.heap) (ExcName.means s₀.heap) args s₁ (.ok (.ret v)) s') s₁
theorem PySem.W.holds_open {r : OpenRow} {q : Program} {loose : List Str} {Xt : Shared → Bool} {XP : (Str → Option Value) → Heap → Prop} {α : Type} {Yf : Shared → α} {Ya : World → α} {YP : World → Heap → Prop} {d : DefRec} {kwd : List (Str × Expr)} {N : Nat}
  (left : LeftO r.prog q loose Xt Yf Ya N) (hY : ∀ w s, Yf s = Ya w → YP w s.heap) (hYk : ∀ w h h', YP w h → (∀ b o, h.get? b = some o → h'.get? b = some o) → YP w h')
  (hX : ∀ s, Xt s = true → XP (s.heap.nsMap mainGlobals) s.heap) (hXk : ∀ mg h h', XP mg h → (∀ b o, h.get? b = some o → h'.get? b = some o) → XP mg h')
  (hdef : defOf q r.name = some (d, kwd)) (hp : r.prog.theDef r.name = some (d.params, d.body, d.scope)) (hk : kwWritten? d.params.kwonlyargs d.params.kw_defaults = some kwd) (hRf : ∀ s, Xt s = true → RecFacts r.records s.heap) (hwr : (!r.writes || r.records.isEmpty) = true)
  (k1 : r.wellSaid = true) (ok : (chainsOk q && opensWell r.prog && (frees r.toRowW && r.within.isEmpty)) = true) (hb : r.prog.bare) (hw : r.toRowW.promised)
  (walk : WalkAt q loose XP YP r.toRowW d kwd) : r.Holds := by
 simp only [Bool.and_eq_true] at ok
 obtain ⟨⟨hch, o1⟩, k5, k6⟩ := ok
 obtain ⟨hsame, hu, ha, hap, hm⟩ := frees_parts k5
 have lb := left.behind (XP := fun mg h => XP mg h ∧ RecFacts r.records h) (fun s hs => ⟨hX s hs, hRf s hs⟩) hch
 refine ⟨k1, hw, ⟨hb, o1, by show r.toRowW.makers.map _ = []; rw [hm]; rfl⟩, hw.witness, fun w => ⟨(lb w).1, fun s' hs' => Classical.byContradiction fun no₁ => ?_⟩⟩
 obtain ⟨s₀, hf, hg0, s, hT, hz, hgens, hg, G00, y⟩ := (lb w).2 s' hs'
 have RF := G00.X.2
 have G0 : Ground q loose [] XP w s (s.heap.nsMap mainGlobals) (s.heap.nsMap builtinsNs) s.heap := { G00 with X := G00.X.1 }
 have hgens : s.gens = #[] := Array.eq_empty_of_size_eq_zero (beq_iff_eq.mp hgens)
 have G : Ground q loose r.toRowW.records XP w s _ _ s.heap := RF.ground G0
 refine no₁ ⟨s₀, hf, hg0, s, hT, fun n hn => ?_, RF.1, RF.2.1, fun args hpre hlay ord hord => Classical.byContradiction fun no₂ => ?_⟩
 ·obtain rfl : n = r.name := by split at hn <;> simp_all
  exact pinned_of_view hg G0 hdef hp hk
 obtain ⟨⟨vs, s₁⟩, hlaid⟩ := Option.isSome_iff_exists.mp (layAllW_isSome (P := w.params) (ord := ord) G.has args r.toRowW.args s (pre_splitW hpre).1)
 have keeps := layAllW_keeps _ _ _ hlaid
 have hal := layAllW_rest _ _ _ hlaid
 obtain ⟨as, hrd, hin, hold⟩ := reads_layAllW hord _ _ _ hlaid hlay s₁.heap (fun _ _ e => e)
 have L : Laid r.toRowW.records w s s₁ args vs as := ⟨⟨ord, hord, hlaid⟩, hrd, hin, hold, keeps, hal.1.trans hgens, hal.2.2.1⟩
 have G₁ := G.keeps hXk keeps
 obtain ⟨a, o, pm, cd, doc, dV, kV, h1, h2, h3, h4, h5⟩ := G₁.fn hdef
 have hi := ident_freeW hu ha hap
 have hwi : r.toRowW.claim.within = [] := List.isEmpty_iff.mp k6
 have wk := walk w s s₁ _ _ G₁ (hYk _ _ _ (hY w s y) keeps) a o pm cd doc dV kV h2 h3 h4 h5 (defOf_name hdef ▸ h1) L.gens args vs as hpre L
 have hk' : s₁.heap.Ns mainGlobals _ := G₁.T.g
 obtain ⟨k, res, s₂, s₃, hrun, hsched, hfo, hcase, hos, hkp⟩ := thread_at (prog := r.prog) (w := w) (s := s₁)
  (R := fun res s' => r.toRowW.claim.Ends s args vs s₁ res s' ∧ s'.os = s.os ∧ (r.writes = true → namesKept r.prog r.keeps s.heap s'.heap ∧ ∀ x ∈ r.toRowW.records, ∀ a, classAt s.heap x.1 = some a → recordClass s'.heap a x.1 (x.2.map (·.1)) = true))
  (t := do match ← nsGet mainNs r.name with | some f => do ret (← PySem.call f vs) | none => unsupported "claim.caller:no-such-global")
  (Shared.asleep_of_life hal.2.2.2 hz)
  (Wk.bind (Wk.of_any caller_in (wpAny_nsGet hk' (by
   rw [h1]
   refine Wk.bind2 wk fun v s' g => Wk.pure ⟨_, rfl, ?_⟩
   have z := g.laid (c := r.toRowW.claim) hsame hwi hi L
   exact ⟨⟨z.1, z.2.1, fun q => ⟨namesKept_of hT hg r.keeps keeps g.2.1.old, noTable hwr q⟩⟩, leftWithCleanup_false_of_bare z.2.2⟩))))
 obtain ⟨eh, _, _, eo, _⟩ := Shared.forget_eq hfo
 have hcase := hcase.congr eh
 rw [← eh] at hkp
 rw [← eo] at hos
 have hlife : s₂.heap.life = s.heap.life := (runN_life _ _ _ hrun).trans hal.2.2.2
 refine no₂ ⟨vs, s₁, hlaid, k, _, s₂, hsched, ?_, (fun _ i x hx => by rw [hgens] at hx; simp at hx), hkp, by rw [hlife], Shared.rest_eq hos⟩
 rcases hcase with ⟨v, rfl, d1, d2, d3, d4, d5⟩ | ⟨e, ob, cls, rfl, d1, d2, d3, d4, d5⟩
 ·exact .inl ⟨v, rfl, d1, d2, d3, fun b o y _ => d4 b o y, d5⟩
 ·exact .inr ⟨e, ob, cls, rfl, d1, d2, d3, d4, fun b o y _ => d5 b o y⟩
theorem lookup_zip {α : Type} {β : Type} [BEq α] [LawfulBEq α] {l : List α} : ∀ {vs : List β}, vs.length = l.length → ∀ x ∈ l, ((l.zip vs).lookup x).isSome = true := by
 induction l with
 | nil => exact fun _ _ h => nomatch h
 | cons a l ih =>
  intro vs h x hx
  induction vs using List.casesOn with
  | nil => exact nomatch h
  | cons v vs =>
   rw [List.zip_cons_cons, List.lookup_cons]
   by_cases e : (x == a) = true
   ·rw [e]; rfl
   ·rw [Bool.eq_false_iff.mpr e]
    exact ih (Nat.succ.inj h) x ((List.mem_cons.mp hx).resolve_left fun q => e (beq_iff_eq.mpr q))
theorem fm_congr {α β : Type} {f g : α → Option β} {l : List α} (h : ∀ x ∈ l, f x = g x) : l.filterMap f = l.filterMap g := by
 induction l with
 | nil => rfl
 | cons a l ih => rw [List.filterMap_cons, List.filterMap_cons, h a (.head _), ih fun x hx => h x (.tail _ hx)]
theorem zip_again {α β : Type} [BEq α] [LawfulBEq α] {l : List α} : ∀ {vs : List β}, vs.length = l.length → l.Nodup → (l.filterMap fun n => ((l.zip vs).lookup n).map (n, ·)) = l.zip vs := by
 induction l with
 | nil => exact fun _ _ => rfl
 | cons a l ih =>
  intro vs h nd
  induction vs using List.casesOn with
  | nil => exact nomatch h
  | cons v vs =>
   have nd := List.nodup_cons.mp nd
   rw [List.zip_cons_cons, List.filterMap_cons, List.lookup_cons, beq_self_eq_true]
   refine congrArg ((a, v) :: ·) ((fm_congr fun x hx => ?_).trans (ih (Nat.succ.inj h) nd.2))
   rw [List.lookup_cons, show (x == a) = false from beq_false_of_ne fun e => nd.1 (by rw [← e]; exact hx)]
noncomputable def DfOk (h : Heap) (v : Value) : Prop := v = .none ∨ ∃ a o vs n, v = .ref a ∧ h.get? a = some o ∧ o.data = .seq vs n
theorem has_some {α β : Type} [BEq α] [LawfulBEq α] {l : List α} {vs : List β} (h : vs.length = l.length) {x : α} (hx : x ∈ l) : ¬ ((l.zip vs).lookup x).isNone = true := fun n => by
 have := lookup_zip h x hx
 rw [Option.isNone_iff_eq_none.mp n] at this
 exact nob this
theorem dflt_items {M : Model} {A : Around} {E : Value → Shared → Prop} {s : Shared} {v : Value} (hd : DfOk s.heap v) : ∃ r, ∀ (Q : Option (Array Value) → Shared → Prop), Q r s → wpAny M A (seqItems? v) Q E s := by
 rcases hd with hd | ⟨a, o, us, n, hd, ho, hs⟩
 ·rw [hd]; exact ⟨none, fun Q h => wpAny_bind (wpAny_pure (wpAny_pure h))⟩
 ·rw [hd]; exact ⟨some us, fun Q h => wpAny_seqItems ho hs h⟩
theorem wpAny_no {M : Model} {A : Around} {α : Type} {Q : α → Shared → Prop} {E : Value → Shared → Prop} {s : Shared} {c : Prop} [Decidable c] {a b : Sem α} (h : ¬ c) (k : wpAny M A b Q E s) : wpAny M A (if c then a else b) Q E s := by
 rw [if_neg h]; exact k
theorem binds_plain {s : Shared} {fd : FuncData} {vs : List Value} {params : List Str} {args : List Arg} {ds : List Expr} (hp : fd.params = ⟨[], args, none, [], [], none, ds⟩) (hpar : args.map (·.arg) = params) (nd : params.Nodup) (hv : vs.length = params.length) (hd : DfOk s.heap fd.defaults) :
  BindsTo s fd ⟨vs, []⟩ (params.zip vs) := by
 intro M A E Q hq
 obtain ⟨r, hr⟩ := dflt_items (M := M) (A := A) (E := E) hd
 cases fd
 dsimp only at hp hr
 subst hp hpar
 have hm : ∀ k, (((args.map (·.arg)).take k).filter fun n => (((args.map (·.arg)).zip vs).lookup n).isNone) = [] := fun k =>
  List.filter_eq_nil_iff.mpr fun x hx => has_some hv (List.mem_of_mem_take hx)
 have hg : ¬ (decide (vs.length > (args.map (·.arg)).length) && (none : Option Arg).isNone) = true := by rw [hv, decide_eq_false (Nat.lt_irrefl _)]; exact Bool.false_ne_true
 refine wpAny_bind (wpAny_pure (wpAny_bind (hr _ ?_)))
 refine wpAny_no hg (wpAny_no (by
  show ¬ (!(List.filter (fun n => (((args.map (·.arg)).zip vs).lookup n).isNone) (List.take _ (args.map (·.arg)))).isEmpty) = true
  rw [hm]; exact Bool.false_ne_true) ?_)
 refine wpAny_bind (wpAny_forIn_list _ (fun l b s' => (∀ p ∈ l, p.1 ∈ args.map (·.arg)) ∧ b = (args.map (·.arg)).zip vs ∧ s' = s) _ ?_ ?_ _ _ ⟨?_, rfl, rfl⟩)
 ·rintro ⟨n, d⟩ rest b s' ⟨hl, rfl, rfl⟩
  exact wpAny_no (has_some hv (hl (n, d) List.mem_cons_self)) (wpAny_pure ⟨fun p hp => hl p (List.mem_cons_of_mem _ hp), rfl, rfl⟩)
 ·rintro b s' ⟨_, rfl, rfl⟩
  refine wpAny_bind (wpAny_pure (wpAny_no Bool.false_ne_true (wpAny_pure ?_)))
  have e := zip_again hv nd
  show Q (List.filterMap _ ((args.map (·.arg)) ++ [])) _
  rw [List.append_nil]
  exact e.symm ▸ hq
 ·rintro ⟨n, d⟩ hp
  exact List.mem_of_mem_drop (List.of_mem_zip hp).1
section
open FV (asI asI_some)
theorem anyk {α : Type} {o : Option α} {f : α → Bool} {G : Prop} (e : o.any f = true) (k : ∀ a, o = some a → f a = true → G) : G := by
 induction o with
 | none => exact nob e
 | some a => exact k a rfl e
noncomputable def vI (v : Value) (f : Int → Bool) : Bool := if c : v.ctorIdx = 4 then Value.int.elim (motive := fun _ => Bool) v c (fun i _ => f i) else false
theorem vI_k {v : Value} {f : Int → Bool} {Q : Value → Prop} (h : vI v f = true) (k : ∀ i t, f i = true → Q (.int i t)) : Q v :=
 dk h fun c h => Value.int.elim (motive := fun v => (c : v.ctorIdx = 4) → Value.int.elim (motive := fun _ => Bool) v c (fun i _ => f i) = true → Q v) v c (fun i t _ => k i t) c h
noncomputable def vS (v : Value) (f : Str → Bool) : Bool := if c : v.ctorIdx = 6 then Value.str.elim (motive := fun _ => Bool) v c (fun i _ => f i) else false
theorem vS_k {v : Value} {f : Str → Bool} {Q : Value → Prop} (h : vS v f = true) (k : ∀ i t, f i = true → Q (.str i t)) : Q v :=
 dk h fun c h => Value.str.elim (motive := fun v => (c : v.ctorIdx = 6) → Value.str.elim (motive := fun _ => Bool) v c (fun i _ => f i) = true → Q v) v c (fun i t _ => k i t) c h
noncomputable def vR (v : Value) (f : Addr → Bool) : Bool := if c : v.ctorIdx = 10 then Value.ref.elim (motive := fun _ => Bool) v c f else false
theorem vR_k {v : Value} {f : Addr → Bool} {Q : Value → Prop} (h : vR v f = true) (k : ∀ i, f i = true → Q (.ref i)) : Q v :=
 dk h fun c h => Value.ref.elim (motive := fun v => (c : v.ctorIdx = 10) → Value.ref.elim (motive := fun _ => Bool) v c f = true → Q v) v c (fun i _ => k i) c h
noncomputable def dSeq (v : Data) (f : Array Value → Bool) : Bool := if c : v.ctorIdx = 2 then Data.seq.elim (motive := fun _ => Bool) v c (fun i _ => f i) else false
theorem dSeq_k {v : Data} {f : Array Value → Bool} {Q : Data → Prop} (h : dSeq v f = true) (k : ∀ i n, f i = true → Q (.seq i n)) : Q v :=
 dk h fun c h => Data.seq.elim (motive := fun v => (c : v.ctorIdx = 2) → Data.seq.elim (motive := fun _ => Bool) v c (fun i _ => f i) = true → Q v) v c (fun i t _ => k i t) c h
noncomputable def dFlds (v : Data) (f : Array Value → Bool) : Bool := if c : v.ctorIdx = 9 then Data.fields.elim (motive := fun _ => Bool) v c f else false
theorem dFlds_k {v : Data} {f : Array Value → Bool} {Q : Data → Prop} (h : dFlds v f = true) (k : ∀ i, f i = true → Q (.fields i)) : Q v :=
 dk h fun c h => Data.fields.elim (motive := fun v => (c : v.ctorIdx = 9) → Data.fields.elim (motive := fun _ => Bool) v c f = true → Q v) v c (fun i _ => k i) c h
noncomputable def dFunc (v : Data) : Option FuncData := if c : v.ctorIdx = 7 then some (Data.func.elim (motive := fun _ => FuncData) v c id) else none
theorem dFunc_some {v : Data} {fd : FuncData} (h : dFunc v = some fd) : v = .func fd := by
 unfold dFunc at h
 by_cases c : v.ctorIdx = 7
 ·rw [dif_pos c] at h
  have h := Option.some.inj h
  subst h
  exact Data.func.elim (motive := fun v => (c : v.ctorIdx = 7) → v = .func (Data.func.elim (motive := fun _ => FuncData) v c id)) v c (fun _ _ => rfl) c
 ·rw [dif_neg c] at h; exact no h
noncomputable def intsM : List FV → List Value → Bool
 | [], vs => vs.isEmpty
 | x :: l, vs => vs.head?.any fun v => (asI x).any fun i => vI v fun j => decide (j = i) && intsM l vs.tail
noncomputable def atM (K : Frag) (x : Str) (f : Value → Bool) : Bool := (nsIn K mainGlobals x).any fun o => o.any f
noncomputable def gcIn (K : Frag) (x : Str) : FV → Bool
 | .int i => atM K x fun w => vI w fun j => decide (j = i)
 | .str s => atM K x fun w => vS w fun t => decide (t = s)
 | .tup l => atM K x fun w => vR w fun a => (K.lookup a).any fun o => decide (o.cls = .type "tuple") && (o.dict.isNone && (o.slots.isEmpty && dSeq o.data fun vs => intsM l vs.toList))
 | _ => false
theorem intsM_rel {T : Tab} {l : List FV} : ∀ {vs : List Value}, intsM l vs = true → VRels T l vs := by
 induction l with
 | nil => exact fun h => List.isEmpty_iff.mp h
 | cons x l ih =>
  intro vs h
  induction vs using List.casesOn with
  | nil => exact nob h
  | cons v vs => exact anyk (o := asI x) h fun i hx h => vI_k (Q := fun v => VRels T (x :: l) (v :: vs)) h fun j t h => andk h fun h1 h2 => ⟨_, _, rfl, of_decide_eq_true h1 ▸ asI_some hx ▸ ⟨t, rfl⟩, ih h2⟩
theorem atM_k {K : Frag} {h₀ : Heap} {mg mb : Str → Option Value} (X : K.In h₀) (G : h₀.Ns mainGlobals mg) {x : Str} {f : Value → Bool} {P : Value → Prop} (h : atM K x f = true) (k : ∀ w, f w = true → P w) : ∃ vv, GlobIs h₀ mg mb x vv ∧ P vv :=
 anyk h fun o e h => anyk h fun w e' h => ⟨w, .inl (mg_of X G (by rw [e, e'])), k w h⟩
theorem gcIn_ok {K : Frag} {h₀ : Heap} {mg mb : Str → Option Value} (X : K.In h₀) (G : h₀.Ns mainGlobals mg) {x : Str} {v : FV} (h : gcIn K x v = true) : ∃ vv, GlobIs h₀ mg mb x vv ∧ VRel (baseT h₀) v vv := by
 induction v using FV.casesOn with
 | int i => exact atM_k X G h fun w h => vI_k (Q := fun w => VRel (baseT h₀) (.int i) w) h fun j t h => of_decide_eq_true h ▸ ⟨t, rfl⟩
 | str i => exact atM_k X G h fun w h => vS_k (Q := fun w => VRel (baseT h₀) (.str i) w) h fun j t h => of_decide_eq_true h ▸ ⟨t, rfl⟩
 | tup l =>
  refine atM_k X G h fun w h => vR_k (Q := fun w => VRel (baseT h₀) (.tup l) w) h fun a h => anyk h fun o ho h => andk h fun h1 h => andk h fun h2 h => andk h fun h3 h => ?_
  have h1 := of_decide_eq_true h1
  have h2 := Option.isNone_iff_eq_none.mp h2
  have h3 := Array.isEmpty_iff.mp h3
  obtain ⟨c, d, da, sl⟩ := o
  refine dSeq_k (Q := fun da => K.lookup a = some ⟨c, d, da, sl⟩ → VRel (baseT h₀) (.tup l) (.ref a)) h (fun vs n h ho => ?_) ho
  refine ⟨a, ⟨c, d, .seq vs n, sl⟩, vs.toList, rfl, ?_, ⟨n, by subst h1; subst h2; subst h3; rfl⟩, intsM_rel h⟩
  show (h₀.get? a).map _ = _
  rw [X _ _ ho]; rfl
 | _ => exact nob h
noncomputable def fnAt (K : Frag) (a : Addr) : Option FuncData := (K.lookup a).bind fun o => dFunc o.data
theorem fnAt_some {K : Frag} {h₀ : Heap} (X : K.In h₀) {a : Addr} {fd : FuncData} (h : fnAt K a = some fd) : ∃ o, h₀.get? a = some o ∧ o.data = .func fd := bk h fun o ho h => ⟨o, X _ _ ho, dFunc_some h⟩
noncomputable def stmtsOf (fd : FuncData) : List Stmt := FuncBody.casesOn (motive := fun _ => List Stmt) fd.body (fun l => l) (fun _ => [])
noncomputable def codeM (K : Frag) (fd : FuncData) : Bool := vR fd.code fun c => (K.lookup c).any fun o => dFlds o.data fun vs => vs[1]?.any fun v => vS v fun q => decide (q = fd.qualname)
noncomputable def dfM (K : Frag) (v : Value) : Bool := decide (v = .none) || vR v fun a => (K.lookup a).any fun o => dSeq o.data fun _ => true
noncomputable def argsM (p : Arguments) (params : List Str) : Bool := p.posonlyargs.isEmpty && p.vararg.isNone && p.kwonlyargs.isEmpty && p.kw_defaults.isEmpty && p.kwarg.isNone && decide (p.args.map (·.arg) = params)
noncomputable def stmtsM (fd : FuncData) : Bool := FuncBody.casesOn (motive := fun _ => Bool) fd.body (fun _ => true) (fun _ => false)
theorem stmtsM_eq {b : FuncBody} (h : FuncBody.casesOn (motive := fun _ => Bool) b (fun _ => true) (fun _ => false) = true) : b = .stmts (FuncBody.casesOn (motive := fun _ => List Stmt) b (fun l => l) (fun _ => [])) := by
 induction b with
 | stmts l => rfl
 | expr _ => exact nob h
noncomputable def fdM (K : Frag) (fd : FuncData) (params names : List Str) : Bool :=
 !fd.scope.isCoroutine && !fd.scope.isGenerator && fd.scope.kind == .function && stmtsM fd && codeM K fd && fd.globals == mainGlobals && fd.builtins == builtinsNs && fd.closure.isEmpty && argsM fd.params params && dfM K fd.defaults &&
  decide (params = names.take params.length) && decide names.Nodup
noncomputable def plainM (fd : FuncData) (names : List Str) : Bool := fd.scope.names.all (fun x => x.2 != .cell) && names.all fun x => fd.scope.names.lookup x == some .local
theorem args_eta {p : Arguments} (p1 : p.posonlyargs = []) (p2 : p.vararg = none) (p3 : p.kwonlyargs = []) (p4 : p.kw_defaults = []) (p5 : p.kwarg = none) : p = ⟨[], p.args, none, [], [], none, p.defaults⟩ := by
 cases p
 simp only at p1 p2 p3 p4 p5
 subst p1 p2 p3 p4 p5
 rfl
structure FdIs (h₀ : Heap) (a : Addr) (fd : FuncData) (params names : List Str) (stmts : List Stmt) : Prop where
 obj : ∃ o, h₀.get? a = some o ∧ o.data = .func fd
 co : fd.scope.isCoroutine = false
 gen : fd.scope.isGenerator = false
 kind : fd.scope.kind = .function
 body : fd.body = .stmts stmts
 code : h₀.CodeRec fd.code fd.qualname
 glob : fd.globals = mainGlobals
 bi : fd.builtins = builtinsNs
 clo : fd.closure = []
 binds : ∀ (s : Shared) (vs : List Value), (∀ b o, h₀.get? b = some o → s.heap.get? b = some o) → vs.length = params.length → BindsTo s fd ⟨vs, []⟩ (params.zip vs)
 par : params = names.take params.length
 nodup : names.Nodup
theorem fdIs_of {K : Frag} {h₀ : Heap} (X : K.In h₀) {a : Addr} {fd : FuncData} {params names : List Str} (hf : fnAt K a = some fd) (h : fdM K fd params names = true) : FdIs h₀ a fd params names (stmtsOf fd) := by
 refine andk h fun h h12 => andk h fun h h11 => andk h fun h h10 => andk h fun h h9 => andk h fun h h8 => andk h fun h h7 => andk h fun h h6 => andk h fun h h5 => andk h fun h h4 => andk h fun h h3 => andk h fun h1 h2 => ?_
 have h11 := of_decide_eq_true h11
 have h12 := of_decide_eq_true h12
 refine ⟨fnAt_some X hf, not_t h1, not_t h2, eq_of_beq h3, stmtsM_eq h4, ?_, eq_of_beq h6, eq_of_beq h7, List.isEmpty_iff.mp h8, fun s vs hk hv => ?_, h11, h12⟩
 ·exact vR_k (Q := fun v => h₀.CodeRec v fd.qualname) h5 fun c h => anyk h fun o ho h => by
   obtain ⟨p, d, da, sl⟩ := o
   refine dFlds_k (Q := fun da => K.lookup c = some ⟨p, d, da, sl⟩ → _) h (fun vs h ho => anyk h fun v hv h => ?_) ho
   exact vS_k (Q := fun v => vs[1]? = some v → _) h (fun q t h hv => ⟨c, _, vs, t, rfl, X _ _ ho, rfl, of_decide_eq_true h ▸ hv⟩) hv
 ·refine andk h9 fun h p6 => andk h fun h p5 => andk h fun h p4 => andk h fun h p3 => andk h fun p1 p2 => ?_
  refine binds_plain (args_eta (List.isEmpty_iff.mp p1) (Option.isNone_iff_eq_none.mp p2) (List.isEmpty_iff.mp p3) (List.isEmpty_iff.mp p4) (Option.isNone_iff_eq_none.mp p5)) (of_decide_eq_true p6) ?_ hv ?_
  ·rw [h11]; exact h12.sublist (List.take_sublist _ _)
  ·refine or_t h10 (fun h => .inl (of_decide_eq_true h)) fun h => ?_
   refine vR_k (Q := fun v => DfOk s.heap v) h fun a h => anyk h fun o ho h => ?_
   obtain ⟨p, d, da, sl⟩ := o
   exact dSeq_k (Q := fun da => K.lookup a = some ⟨p, d, da, sl⟩ → _) h (fun vs n _ ho => .inr ⟨a, _, vs, n, rfl, hk _ _ (X _ _ ho), rfl⟩) ho
theorem FdIs.fn {h₀ : Heap} {a : Addr} {fd : FuncData} {params names : List Str} {stmts : List Stmt} (I : FdIs h₀ a fd params names stmts) (h : plainM fd names = true) : FnIs h₀ a params names fd.scope.names stmts := by
 refine andk h fun h1 h2 => I.obj.elim fun o h => ?_
 exact ⟨⟨o, fd, h.1, h.2, I.co, I.gen, I.kind, I.body, I.code, I.glob, I.bi, I.clo, rfl, I.binds⟩, fun z hz => bne_iff_ne.mp (List.all_eq_true.mp h1 z hz), fun z hz => eq_of_beq (List.all_eq_true.mp h2 z hz), I.par, I.nodup⟩
end
noncomputable def cnameT (i c : Nat) : Option Str := if i = 51 then (match c with | 0 => some (Str.ofString "KeyInfo") | 1 => some (Str.ofString "Sorter") | _ => none) else none
noncomputable def msOf (K : Frag) (i : Nat) : MS := { P := prgOf (Dn i) i, m := if isInit i then 0 else i, cl := !isInit i, fname := fnameT, cname := cnameT i, gcOk := gcIn K }
noncomputable def paramsT (i : Nat) : List Str := (namesT i).take (fnOf i).arity
noncomputable def bodyM (K : Frag) (i : Nat) (fd : FuncData) : Bool := mB (mS (msOf K i) 60 ⟨fd.scope.names, namesT i⟩) (fnOf i).body (stmtsOf fd)
noncomputable def defM (K : Frag) (i : Nat) : Bool := (fnAt K (faddrT i)).any fun fd => fdM K fd (paramsT i) (namesT i) && (plainM fd (namesT i) && (decide ((paramsT i).length = (fnOf i).arity) && bodyM K i fd))
structure KHyp (K : Frag) : Prop where
 defs : ∀ i, i < 51 → defM K i = true
 glob : ∀ f x, fnameT f = some x → nsIn K mainGlobals x = some (some (.ref (faddrT f)))
 bis : ∀ b, nsIn K mainGlobals (biName b) = some none
 tys : ∀ T, tysOk T = true → nsIn K mainGlobals (Str.ofString T) = some none
 attr : ∀ c x, (attrsOf c).contains x = true → ClsK K c ∧ AttrK K c x
 meth : ∀ D c f, (mkP D).methOf c f = true → ClsK K c ∧ findIn K (.ref c) (mnameOf f) = some (some (.ref (faddrT f))) ∧ typeIn K (.ref (faddrT f)) = some (.type "function")
 cls : ∀ c x, cnameT 51 c = some x → nsIn K mainGlobals x = some (some (.ref (if c = 0 then 263 else 374))) ∧ NewK K (if c = 0 then 263 else 374) (faddrT (if c = 0 then 22 else 31))
theorem FnOk.later {prog : Program} {w : World} {h₀ : Heap} {cl cl' : Bool} {f i : Nat} {a : Addr} {l l' : Nat} (F : FnOk prog w h₀ cl (Dn (f + 1)) f a l) (hi : f < i) (hl : l ≤ l') (hc : cl = true → cl' = true) : FnOk prog w h₀ cl' (Dn i) f a l' := by
 intro cx T σ args pass keep pv σ' e Γ A vs hcode G
 have e' : doCall (Dn (f + 1)) f args pass keep σ = some (pv, σ') := by
  unfold doCall at e ⊢
  rw [Dn_lt (Nat.lt_succ_self f), ← Dn_lt hi]; exact e
 have G' : GoodB cl l Γ A := ⟨G.below, by have := G.depth; omega, by have := G.units; omega, G.handled, fun h => G.clean (hc h)⟩
 intro s H S R
 exact F e' hcode G' H S R
section
variable {prog : Program} {w : World} {h₀ : Heap} {mg mb : Str → Option Value} {K : Frag}
theorem boot_name {b : BI} : bootBuiltins (biName b) = some (biVal b) := by
 cases b
 case isi T => show bootBuiltins (Str.ofString "isinstance") = some (.builtin "isinstance"); decide +kernel
 all_goals decide +kernel
theorem boot_ty {T : String} (h : tysOk T = true) : bootBuiltins (Str.ofString T) = some (.type T) := by
 simp only [tysOk, Bool.or_eq_true, beq_iff_eq] at h
 rcases h with (rfl | rfl) | rfl <;> decide +kernel
theorem ty_name {T : String} (h : tysOk T = true) : Str.ofString T ≠ "__name__" := by
 simp only [tysOk, Bool.or_eq_true, beq_iff_eq] at h
 rcases h with (rfl | rfl) | rfl <;> decide +kernel
theorem bi_name {b : BI} : biName b ≠ "__name__" := by
 cases b
 case isi T => show Str.ofString "isinstance" ≠ "__name__"; decide +kernel
 all_goals decide +kernel
structure Base (K : Frag) (h₀ : Heap) (mg mb : Str → Option Value) : Prop where
 X : K.In h₀
 N : Names h₀ mg mb
 lim : h₀.NoLimit
 boot : ∀ x : Str, x ≠ "__name__" → mb x = bootBuiltins x
theorem cname_no {i c : Nat} (h : i ≠ 51) : cnameT i c = none := if_neg h
theorem init_le {i : Nat} : (if isInit i = true then 0 else i) ≤ i := by
 cases isInit i
 ·exact Nat.le_refl _
 ·exact Nat.zero_le _
theorem lt_init {f i : Nat} (h : f < (if isInit i = true then 0 else i)) : f < i := Nat.lt_of_lt_of_le h init_le
theorem fn_at (B : Base K h₀ mg mb) (HK : KHyp K) {f : Nat} (h : f < 51) : ∃ o fd, h₀.get? (faddrT f) = some o ∧ o.data = .func fd := anyk (HK.defs f h) fun fd hfd _ => (fnAt_some B.X hfd).elim fun o h => ⟨o, fd, h⟩
theorem mh_of (B : Base K h₀ mg mb) (HK : KHyp K) {X : Wd} (hX : X.h₀ = h₀) {i : Nat} (hcl : X.cl = !isInit i) (hm : X.m = if isInit i then 0 else i) (hf : ∀ f, f < X.m → (∃ o fd, h₀.get? (faddrT f) = some o ∧ o.data = .func fd) ∧ FnOk X.prog X.w h₀ X.cl (Dn i) f (faddrT f) X.m)
  (hc : ∀ c x, cnameT i c = some x → ∃ lvl, FnOk X.prog X.w h₀ false (Dn i) (if c = 0 then 22 else 31) (faddrT (if c = 0 then 22 else 31)) lvl ∧ lvl + 1 ≤ X.m) : MHyp X (msOf K i) mg mb K faddrT := by
 subst hX
 refine ⟨B.N, ⟨B.X, HK.attr, HK.meth (Dn i)⟩, fun h => by rw [hcl]; exact h, fun f h => hf f (by rw [hm]; exact h), fun f x h => .inl (mg_of B.X B.N.g (HK.glob f x h)), fun b => .inr ⟨mg_none_of B.X B.N.g (HK.bis b), (B.boot _ bi_name).trans boot_name⟩,
  fun T h => .inr ⟨mg_none_of B.X B.N.g (HK.tys T h), (B.boot _ (ty_name h)).trans (boot_ty h)⟩, fun x v h => gcIn_ok B.X B.N.g h, fun c x h => ?_⟩
 have h51 : i = 51 := by
  by_cases h51 : i = 51
  ·exact h51
  ·exact no (cname_no h51 ▸ h : none = some x)
 have h' : cnameT 51 c = some x := by rw [← h51]; exact h
 obtain ⟨a, b⟩ := HK.cls c x h'
 obtain ⟨lvl, F, hl⟩ := hc c x h
 exact ⟨.inl (mg_of B.X B.N.g a), _, lvl, b, F, hl⟩
theorem body_ok (B : Base K h₀ mg mb) (HK : KHyp K) {i : Nat} (hi : i < 51) (hf : ∀ f, f < (if isInit i then 0 else i) → FnOk prog w h₀ (!isInit i) (Dn i) f (faddrT f) (if isInit i then 0 else i)) :
  FnOk prog w h₀ (!isInit i) (Dn (i + 1)) i (faddrT i) ((if isInit i then 0 else i) + 1) := by
 refine anyk (HK.defs i hi) fun fd hfd h => andk h fun h1 h => andk h fun h2 h => andk h fun h3 h4 => ?_
 let X : Wd := ⟨prog, w, h₀, !isInit i, if isInit i then 0 else i⟩
 intro e
 refine fn_ok (X := X) (P := prgOf (Dn i) i) (fn := fnOf i) ((fdIs_of B.X hfd h1).fn h2) B.lim (Dn_lt (Nat.lt_succ_self i)) (of_decide_eq_true h3) (fun env L hE hL => ?_) e
 have I := (fdIs_of B.X hfd h1).fn h2
 exact mB_ok (mh_of (X := X) B HK rfl (i := i) rfl rfl (fun f h => ⟨fn_at B HK (Nat.lt_trans (lt_init h) hi), hf f h⟩) (fun c x h => no (cname_no (Nat.ne_of_lt hi) ▸ h))) (n := 40) (k := 60) (M := ⟨fd.scope.names, namesT i⟩) ⟨envR_of hE hL I.loc I.nodup, hE.kinds, by simp [Function.comp_def]⟩ h4
theorem all_ok (B : Base K h₀ mg mb) (HK : KHyp K) : ∀ f, f < 51 → FnOk prog w h₀ (!isInit f) (Dn (f + 1)) f (faddrT f) ((if isInit f then 0 else f) + 1) := by
 intro f
 induction f using Nat.strongRecOn with
 | ind f ih =>
  intro hf
  refine @body_ok prog w h₀ mg mb K B HK f hf fun g hg => ?_
  cases hi : isInit f with
  | true => rw [hi] at hg; exact absurd hg (Nat.not_lt_zero _)
  | false =>
   rw [hi] at hg
   exact @FnOk.later prog w h₀ _ _ _ _ _ _ _ (ih g hg (Nat.lt_trans hg hf)) hg (Nat.le_trans (Nat.succ_le_succ init_le) hg) (fun _ => rfl)
theorem law_mh (B : Base K h₀ mg mb) (HK : KHyp K) : MHyp ⟨prog, w, h₀, true, 51⟩ (msOf K 51) mg mb K faddrT := by
 refine mh_of B HK rfl rfl rfl (fun f h => ⟨?_, ?_⟩) fun c x h => ?_
 ·exact fn_at B HK h
 ·exact @FnOk.later prog w h₀ _ _ _ _ _ _ _ (@all_ok prog w h₀ mg mb K B HK f h) h (Nat.succ_le_of_lt (Nat.lt_of_le_of_lt init_le h)) (fun _ => rfl)
 ·have key : ∀ g, isInit g = true → g < 51 → FnOk prog w h₀ false (Dn 51) g (faddrT g) 1 := by
   intro g hg hl
   have F : FnOk prog w h₀ (!isInit g) (Dn (g + 1)) g (faddrT g) ((if isInit g then 0 else g) + 1) := @all_ok prog w h₀ mg mb K B HK g hl
   rw [hg] at F
   exact @FnOk.later prog w h₀ _ _ _ _ _ _ _ F hl (Nat.le_refl _) (fun h => h)
  refine ⟨1, ?_, by show 2 ≤ 51; decide⟩
  by_cases hc : c = 0
  ·subst hc; exact key 22 rfl (by decide)
  ·rw [if_neg hc]; exact key 31 rfl (by decide)
end
section
variable {K : Frag}
noncomputable def defsM (K : Frag) (a n : Nat) : Bool := (List.range' a n).all fun i => defM K i
noncomputable def globM (K : Frag) : Bool := (List.range 52).all fun f => match fnameT f with | none => true | some x => decide (nsIn K mainGlobals x = some (some (.ref (faddrT f))))
noncomputable def bisM (K : Frag) : Bool := ([.len, .ord, .chr, .int, .bool, .max, .bytes, .bytearray, .tuple, .list, .range, .isi ""] : List BI).all fun b => decide (nsIn K mainGlobals (biName b) = some none)
noncomputable def tysM (K : Frag) : Bool := (["int", "str", "bytes"] : List String).all fun T => decide (nsIn K mainGlobals (Str.ofString T) = some none)
noncomputable def attrM (K : Frag) (c : Addr) : Bool := (attrsOf c).all fun x => decide (findIn K (.ref c) x = some none)
noncomputable def methM (K : Frag) (c : Addr) (a n : Nat) : Bool := (List.range' a n).all fun f => decide (findIn K (.ref c) (mnameOf f) = some (some (.ref (faddrT f)))) && decide (typeIn K (.ref (faddrT f)) = some (.type "function"))
theorem mem_r {a n i : Nat} (h1 : a ≤ i) (h2 : i < a + n) : i ∈ List.range' a n := List.mem_range'_1.mpr ⟨h1, h2⟩
theorem defs_of (h1 : defsM K 0 17 = true) (h2 : defsM K 17 17 = true) (h3 : defsM K 34 17 = true) (i : Nat) (hi : i < 51) : defM K i = true := by
 by_cases a : i < 17
 ·exact List.all_eq_true.mp h1 i (mem_r (Nat.zero_le _) (by assumption))
 by_cases b : i < 34
 ·exact List.all_eq_true.mp h2 i (mem_r O30 (by assumption))
 ·exact List.all_eq_true.mp h3 i (mem_r O30 (by assumption))
theorem fname_lt {f : Nat} {x : Str} (h : fnameT f = some x) : f < 52 := by
 by_cases hl : f < 52
 ·exact hl
 ·unfold fnameT at h
  rw [List.getElem?_eq_none (by show 52 ≤ f; exact O30)] at h
  exact no h
theorem glob_of (hg : globM K = true) (f : Nat) (x : Str) (h : fnameT f = some x) : nsIn K mainGlobals x = some (some (.ref (faddrT f))) := by
 have := List.all_eq_true.mp hg f (List.mem_range.mpr (fname_lt h))
 rw [h] at this
 exact of_decide_eq_true this
theorem bis_of (h : bisM K = true) (b : BI) : nsIn K mainGlobals (biName b) = some none := by
 refine andk h fun h0 h => andk h fun h1 h => andk h fun h2 h => andk h fun h3 h => andk h fun h4 h => andk h fun h5 h => andk h fun h6 h => andk h fun h7 h => andk h fun h8 h => andk h fun h9 h => andk h fun h10 h => andk h fun h11 h => ?_
 refine of_decide_eq_true ?_
 induction b with
 | len => exact h0
 | ord => exact h1
 | chr => exact h2
 | int => exact h3
 | bool => exact h4
 | max => exact h5
 | bytes => exact h6
 | bytearray => exact h7
 | tuple => exact h8
 | list => exact h9
 | range => exact h10
 | isi T => exact h11
theorem tys_of (h : tysM K = true) (T : String) (hT : tysOk T = true) : nsIn K mainGlobals (Str.ofString T) = some none := by
 refine of_decide_eq_true (List.all_eq_true.mp h T ?_)
 unfold tysOk at hT
 rcases Bool.or_eq_true_iff.mp hT with hT | hT
 ·rcases Bool.or_eq_true_iff.mp hT with hT | hT
  ·rw [beq_iff_eq.mp hT]; exact .head _
  ·rw [beq_iff_eq.mp hT]; exact .tail _ (.head _)
 ·rw [beq_iff_eq.mp hT]; exact .tail _ (.tail _ (.head _))
theorem attr_of (k1 : ClsK K 263) (k2 : ClsK K 374) (h1 : attrM K 263 = true) (h2 : attrM K 374 = true) (c : Addr) (x : Str) (h : (attrsOf c).contains x = true) : ClsK K c ∧ AttrK K c x := by
 have hm := List.contains_iff_mem.mp h
 by_cases e1 : c = 263
 ·subst e1; exact ⟨k1, show findIn K (.ref 263) x = some none from of_decide_eq_true (List.all_eq_true.mp h1 x hm)⟩
 by_cases e2 : c = 374
 ·subst e2; exact ⟨k2, show findIn K (.ref 374) x = some none from of_decide_eq_true (List.all_eq_true.mp h2 x hm)⟩
 ·unfold attrsOf at hm
  rw [if_neg e1, if_neg e2] at hm
  cases hm
theorem meth_one {c : Addr} {a n f : Nat} (h : methM K c a n = true) (h1 : a ≤ f) (h2 : f < a + n) : findIn K (.ref c) (mnameOf f) = some (some (.ref (faddrT f))) ∧ typeIn K (.ref (faddrT f)) = some (.type "function") := by
 obtain ⟨x, y⟩ := Bool.and_eq_true_iff.mp (List.all_eq_true.mp h f (mem_r h1 h2))
 exact ⟨of_decide_eq_true x, of_decide_eq_true y⟩
theorem meth_of (k1 : ClsK K 263) (k2 : ClsK K 374) (h1 : methM K 263 23 3 = true) (h2 : methM K 374 32 8 = true) (D : Delta) (c : Addr) (f : Nat) (h : (mkP D).methOf c f = true) : ClsK K c ∧ findIn K (.ref c) (mnameOf f) = some (some (.ref (faddrT f))) ∧ typeIn K (.ref (faddrT f)) = some (.type "function") := by
 have h : ((c == 263 && decide (23 ≤ f) && decide (f ≤ 25)) || (c == 374 && decide (32 ≤ f) && decide (f ≤ 39))) = true := h
 rcases Bool.or_eq_true_iff.mp h with h | h
 ·obtain ⟨a, b⟩ := Bool.and_eq_true_iff.mp h
  obtain ⟨a, d⟩ := Bool.and_eq_true_iff.mp a
  rw [beq_iff_eq.mp a]
  exact ⟨k1, meth_one h1 (of_decide_eq_true d) (Nat.lt_succ_of_le (of_decide_eq_true b))⟩
 ·obtain ⟨a, b⟩ := Bool.and_eq_true_iff.mp h
  obtain ⟨a, d⟩ := Bool.and_eq_true_iff.mp a
  rw [beq_iff_eq.mp a]
  exact ⟨k2, meth_one h2 (of_decide_eq_true d) (Nat.lt_succ_of_le (of_decide_eq_true b))⟩
noncomputable def clsM (K : Frag) (a : Addr) : Bool := (K.lookup a).any fun o => o.data.ctorIdx == 8
theorem clsM_ok {a : Addr} (h : clsM K a = true) : ∃ o cd, K.lookup a = some o ∧ o.data = .cls cd :=
 anyk h fun o ho h => ⟨o, Data.cls.elim (motive := fun _ => ClassData) o.data (eq_of_beq h) id, ho, Data.cls.elim (motive := fun d => (c : d.ctorIdx = 8) → d = .cls (Data.cls.elim (motive := fun _ => ClassData) d c id)) o.data (eq_of_beq h) (fun _ _ => rfl) (eq_of_beq h)⟩
theorem cls_of (n1 : NewK K 263 239) (n2 : NewK K 374 315) (g1 : nsIn K mainGlobals (Str.ofString "KeyInfo") = some (some (.ref 263))) (g2 : nsIn K mainGlobals (Str.ofString "Sorter") = some (some (.ref 374))) (c : Nat) (x : Str) (h : cnameT 51 c = some x) :
  nsIn K mainGlobals x = some (some (.ref (if c = 0 then 263 else 374))) ∧ NewK K (if c = 0 then 263 else 374) (faddrT (if c = 0 then 22 else 31)) := by
 match c, h with
 | 0, h => obtain rfl := Option.some.inj h; exact ⟨g1, n1⟩
 | 1, h => obtain rfl := Option.some.inj h; exact ⟨g2, n2⟩
 | n + 2, h => exact no h
end
noncomputable def src : Str := Str.ofString "source"
theorem cellsFrom_filter : ∀ (names : List (Str × NameKind)) (n : Nat) (acc : List (Str × Addr)), cellsFrom n names acc = cellsFrom n (names.filter (·.2 == .cell)) acc
 | [], _, _ => rfl
 | (x, k) :: r, n, acc => by
  by_cases h : (k == NameKind.cell) = true
  ·rw [List.filter_cons_of_pos (by exact h)]
   unfold cellsFrom
   rw [if_pos h, if_pos h]
   exact cellsFrom_filter r _ _
  ·rw [List.filter_cons_of_neg (by exact h)]
   rw [← cellsFrom_filter r]
   conv => lhs; unfold cellsFrom
   rw [if_neg h]
noncomputable def lawM (kinds : List (Str × NameKind)) (names : List Str) : Bool :=
 decide (kinds.filter (·.2 == .cell) = [(src, .cell)]) && kinds.lookup src == some .cell && names.all fun x => x == src || kinds.lookup x == some .local
theorem good₀ : Good true 60 Γ₀ callerA where
 isIn := caller_in
 depth := by decide +kernel
 units := by decide +kernel
 handled := rfl
 clean := fun _ => ⟨by decide +kernel, fun x hx => nomatch hx⟩
section
variable {prog : Program} {w : World} {h₀ : Heap} {mg mb : Str → Option Value} {K : Frag}
noncomputable def lawCx (L c : Addr) (names : List Str) : Cx := ⟨L, names.map fun x => (x, if x = src then some c else none)⟩
theorem law_at {L c : Addr} {names : List Str} {i : Nat} {x : Str} {co : Option Addr} (h : (lawCx L c names).names[i]? = some (x, co)) : names[i]? = some x ∧ co = if x = src then some c else none := by
 have h : (names.map fun x => (x, if x = src then some c else none))[i]? = some (x, co) := h
 rw [List.getElem?_map] at h
 refine mk h fun y hy e => ?_
 have e1 := (Prod.mk.inj e).1
 have e2 := (Prod.mk.inj e).2
 subst e1
 exact ⟨hy, e2.symm⟩
theorem law_src {x : Str} {d c : Addr} (h : some d = if x = src then some c else none) : x = src ∧ d = c := by
 by_cases e : x = src
 ·rw [if_pos e] at h; exact ⟨e, Option.some.inj h⟩
 ·rw [if_neg e] at h; exact nomatch h
theorem law_env {fd : FuncData} {names : List Str} (hl : lawM fd.scope.names names = true) (hn : names.Nodup) (hk : fd.scope.kind = .function) (hg : fd.globals = mainGlobals) (hb : fd.builtins = builtinsNs) {L c : Addr} {q : Str} {f : Option Addr} {cd : Value} :
  EnvR (newEnv fd.scope L fd.globals [(src, c)] q f cd none fd.builtins) (lawCx L c names) := by
 refine andk hl fun hl h3 => andk hl fun _ h2 => ?_
 have inj : ∀ {i j : Nat} {x : Str}, names[i]? = some x → names[j]? = some x → i = j := fun {i j x} h1 h2 => (List.getElem?_inj (List.getElem?_eq_some_iff.mp h1).1 hn).mp (h1.trans h2.symm)
 refine ⟨hk, rfl, hg, hb, fun i x h => ?_, fun i x d h => ?_, fun i j x d e h h' => inj (law_at h).1 (law_at h').1, fun i j x y d h h' => ?_⟩
 ·have hx : ¬x = src := fun e => by have := (law_at h).2; rw [if_pos e] at this; exact nomatch this
  exact or_t (List.all_eq_true.mp h3 x (List.mem_of_getElem? (law_at h).1)) (fun q => absurd (eq_of_beq q) hx) eq_of_beq
 ·obtain ⟨e1, e2⟩ := law_src (law_at h).2
  subst e1 e2
  exact ⟨.inl (eq_of_beq h2), List.lookup_cons_self⟩
 ·have h1 := law_at h
  have h2 := law_at h'
  rw [(law_src h1.2).1] at h1
  rw [(law_src h2.2).1] at h2
  exact inj h1.1 h2.1
noncomputable def newO : Own → Bool
 | .cel | .loc | .froz => false
 | _ => true
theorem law_start {L c : Addr} {oL oc : Obj} {names : List Str} {x : FV} {v : Value} {p : Str} {m : Str → Option Value} {slots : Nat} (hL : h₀.get? L = none) (hc : h₀.get? c = none) (hLc : L ≠ c) (hp : names[0]? = some p) (hps : p ≠ src) (hs : src ∈ names)
  (N : NsO oL m) (hm : m p = some v) (hd : oc.data = .cell none) (hv : VRel (baseT h₀) x v) :
  StRel h₀ (lawCx L c names) (((baseT h₀).set L (some (.loc, oL))).set c (some (.cel, oc))) { loc := [PV.f x].map some ++ List.replicate slots none, led := [], chg := [], lent := [] } := by
 have bL : baseT h₀ L = none := by unfold baseT; rw [hL]; rfl
 have bc : ((baseT h₀).set L (some (.loc, oL))) c = none := by rw [Tab.set_ne _ _ (Ne.symm hLc)]; unfold baseT; rw [hc]; rfl
 have E1 := ext_set (T := baseT h₀) (a := L) (x := some (Own.loc, oL)) bL
 have E2 := ext_set (T := (baseT h₀).set L (some (.loc, oL))) (a := c) (x := some (Own.cel, oc)) bc
 have from_ : ∀ {a w o}, (((baseT h₀).set L (some (.loc, oL))).set c (some (.cel, oc))) a = some (w, o) → (a = c ∧ w = .cel) ∨ (a = L ∧ w = .loc) ∨ w = .froz := fun {a w o} e => by
  by_cases h1 : a = c
  ·rw [h1, Tab.set_self] at e; exact .inl ⟨h1, (congrArg Prod.fst (Option.some.inj e)).symm⟩
  ·rw [Tab.set_ne _ _ h1] at e
   by_cases h2 : a = L
   ·rw [h2, Tab.set_self] at e; exact .inr (.inl ⟨h2, (congrArg Prod.fst (Option.some.inj e)).symm⟩)
   ·rw [Tab.set_ne _ _ h2] at e
    exact mk (show (h₀.get? a).map _ = _ from e) fun _ _ e => .inr (.inr (congrArg Prod.fst e).symm)
 have no : ∀ {a o w} {P : Prop}, (((baseT h₀).set L (some (.loc, oL))).set c (some (.cel, oc))) a = some (w, o) → newO w = true → P := fun {a o w P} e h => by
  rcases from_ e with ⟨_, q⟩ | ⟨_, q⟩ | q <;> (rw [q] at h; exact nob h)
 have loc0 : ∀ {i : Nat} {pv}, ([PV.f x].map some ++ List.replicate slots none)[i]? = some (some pv) → i = 0 ∧ pv = .f x := fun {i pv} h => by
  obtain ⟨h, hi⟩ := loc_at h
  have hi : i < 1 := hi
  obtain rfl := Nat.lt_one_iff.mp hi
  exact ⟨rfl, (Option.some.inj h).symm⟩
 refine ⟨fun a o e => E2 _ _ _ (E1 _ _ _ (by unfold baseT; rw [e]; rfl)), ⟨⟨oL, m, E2 _ _ _ (Tab.set_self ..), N, fun i y pv hy hl => ?_⟩, fun i y d hy => ?_⟩, fun a o e => ?_, fun a o e => ?_, fun k ao e => Mine.no e, fun k a b o o' e _ => no e rfl, fun k a b o o' e _ => no e rfl,
  fun k a b o o' e _ => no e rfl, fun k a o e => no e rfl, fun k a o e => no e rfl, fun k hk => (nomatch hk), fun k a o e => no e rfl⟩
 ·obtain ⟨rfl, rfl⟩ := loc0 hl
  obtain rfl := Option.some.inj (hp.symm.trans (law_at hy).1)
  exact ⟨v, hm, VRel.mono E2.f (VRel.mono E1.f hv)⟩
 ·have hy := law_at hy
  obtain ⟨e1, e2⟩ := law_src hy.2
  subst e1 e2
  refine ⟨oc, none, Tab.set_self .., hd, fun pv hl => ?_⟩
  obtain ⟨rfl, _⟩ := loc0 hl
  exact absurd (Option.some.inj (hp.symm.trans hy.1)) hps
 ·rcases from_ e with ⟨_, h⟩ | ⟨h, _⟩ | h
  ·exact nomatch h
  ·exact h
  ·exact nomatch h
 ·rcases from_ e with ⟨h, _⟩ | ⟨_, h⟩ | h
  ·subst h
   obtain ⟨i, hi⟩ := List.mem_iff_getElem?.mp hs
   exact ⟨i, src, (map_at hi).trans (by rw [if_pos rfl])⟩
  ·exact nomatch h
  ·exact nomatch h
structure LawE (s : Shared) (fd : FuncData) (v : Value) (env : Env) (s₁ : Shared) (oL oc : Obj) (m : Str → Option Value) : Prop where
 R : EnvR env (lawCx s.heap.objs.size (s.heap.objs.size + 1) (namesT 51))
 kin : env.scope.names = fd.scope.names
 eL : s₁.heap.get? s.heap.objs.size = some oL
 N : NsO oL m
 hm : m (Str.ofString "script") = some v
 ec : s₁.heap.get? (s.heap.objs.size + 1) = some oc
 dc : oc.data = .cell none
 keep : ∀ b o, s.heap.get? b = some o → s₁.heap.get? b = some o
 same : ∃ h tk, s₁ = { s with heap := h, toks := tk }
theorem law_env_of {s s₁ : Shared} {fd : FuncData} {v : Value} {env : Env} (hR : EnvR env (lawCx s.heap.objs.size (s.heap.objs.size + 1) (namesT 51))) (hkin : env.scope.names = fd.scope.names) (hscr : fd.scope.names.lookup (Str.ofString "script") = some .local)
  (hLo : env.locals = s.heap.objs.size) (hce : env.cells = [(src, s.heap.objs.size + 1)]) (IC : InCallC s env.locals (bindL env.kindOf [(Str.ofString "script", v)] fun _ => none) env.cells (bindC env.kindOf [(Str.ofString "script", v)] fun _ => none) s₁) : ∃ oL oc m, LawE s fd v env s₁ oL oc m := by
 have hkl : env.kindOf (Str.ofString "script") = some .local := by show env.scope.names.lookup _ = _; rw [hkin]; exact hscr
 have hcell := IC.cell src (s.heap.objs.size + 1) (by rw [hce]; rfl)
 have hns := IC.toInCall.ns
 rw [hLo] at hns
 obtain ⟨oL, eL, N⟩ := of_ns hns
 rw [show bindC env.kindOf [(Str.ofString "script", v)] (fun _ => none) = fun _ => none from if_pos hkl] at hcell
 obtain ⟨oc, ec, dc⟩ := hcell
 exact ⟨oL, oc, _, hR, hkin, eL, N, (congrFun (if_pos hkl : bindL env.kindOf [(Str.ofString "script", v)] (fun _ => none) = fun y => if y = Str.ofString "script" then some v else none) _).trans (if_pos rfl), ec, dc, IC.toInCall.keep, IC.toInCall.same⟩
theorem law_into (B : Base K h₀ mg mb) {A : Around} {E : Value → Shared → Prop} {fd : FuncData} (hfd : fnAt K 460 = some fd) (h1 : fdM K fd (paramsT 51) (namesT 51) = true) (h2 : lawM fd.scope.names (namesT 51) = true) (hA : A.depth + 0 < 1000) {v : Value} {s : Shared} (hs : s.heap = h₀) {Q : Fin → Shared → Prop}
  (h : ∀ env s₁ oL oc m, LawE s fd v env s₁ oL oc m → Q (.again (.func (stmtsOf fd) env)) s₁) : wpAny (model prog w) A (callAny (.ref 460) ⟨[v], []⟩) Q E s := by
 subst hs
 have I := fdIs_of B.X hfd h1
 refine andk h2 fun c c2 => andk c fun c1 _ => I.obj.elim fun o ho => call_func ho.1 ho.2 I.co I.gen I.body I.code (I.binds s [v] (fun _ _ e => e) rfl _ _ _ _ ?_)
 rw [show (paramsT 51).zip [v] = [(Str.ofString "script", v)] from rfl, I.clo]
 have hscr : fd.scope.names.lookup (Str.ofString "script") = some .local := or_t (List.all_eq_true.mp c2 (Str.ofString "script") (by decide +kernel)) (fun h => absurd (of_decide_eq_true h) (by decide +kernel)) eq_of_beq
 refine wpAny_newFunctionEnv_cells I.kind (fun y hy => by rw [List.mem_singleton.mp hy]; exact .inl hscr) fun env he s₁ IC => ?_
 refine wpAny_enterFrame (let ⟨mc, q1, q2⟩ := B.lim; ⟨mc, q1.keeps IC.toInCall.keep, q2⟩) hA ?_
 rw [show cellsFrom (s.heap.objs.size + 1) fd.scope.names [] = [(src, s.heap.objs.size + 1)] by rw [cellsFrom_filter, of_decide_eq_true c1]; rfl] at he
 obtain ⟨oL, oc, m, F⟩ := law_env_of (fd := fd) (by rw [he]; exact law_env h2 I.nodup I.kind I.glob I.bi) (by rw [he]; rfl) hscr (by rw [he]; rfl) (by rw [he]; rfl) IC
 exact h env s₁ oL oc m F
theorem none_at {h : Heap} {a : Addr} (k : h.objs.size ≤ a) : h.get? a = none := by
 cases q : h.get? a with
 | none => rfl
 | some o => exact absurd (Heap.lt_size q) (Nat.not_lt.mpr k)
theorem law_in {s s₁ : Shared} {fd : FuncData} {v : Value} {env : Env} {oL oc : Obj} {m : Str → Option Value} (F : LawE s fd v env s₁ oL oc m) : (((baseT s.heap).set s.heap.objs.size (some (.loc, oL))).set (s.heap.objs.size + 1) (some (.cel, oc))).In s₁.heap :=
 in_put (in_put (fun b w' ob e => by
  unfold baseT at e
  cases q : s.heap.get? b with
  | none => rw [q] at e; exact no e
  | some o' => rw [q] at e; obtain ⟨rfl, rfl⟩ := Prod.mk.inj (Option.some.inj e); exact F.keep _ _ q) F.eL) F.ec
theorem law_ok (B : Base K h₀ mg mb) (HK : KHyp K) {fd : FuncData} (hfd : fnAt K 460 = some fd) (h1 : fdM K fd (paramsT 51) (namesT 51) = true) (h2 : lawM fd.scope.names (namesT 51) = true) (h3 : bodyM K 51 fd = true)
  {x : FV} {v : Value} {led : Led} {chg : List Nat} (hv : VRel (baseT h₀) x v) (hev : runF (prgOf (Dn 51) 51) (fnOf 51) [.f x] [] = some (.f (.bool true), led, chg)) {s : Shared} (hs : s.heap = h₀) :
  Wk prog w Γ₀ (PySem.call (.ref 460) [v]) (fun r s' => r = .bool true ∧ (∃ tk, s' = { s with heap := s'.heap, toks := tk }) ∧ ∀ b o, s.heap.get? b = some o → s'.heap.get? b = some o) s := by
 refine ik hev fun _ hev => mk hev fun r hb hq => Wk.call fun p => ?_
 have G : GoodB true 60 (Γ₀.enter (.call (.ref 460) ⟨[v], []⟩) none p) callerA := good₀.enterB _ rfl p
 have hI := G.below.in
 rw [show (Γ₀.enter (.call (.ref 460) ⟨[v], []⟩) none p).code = .call (.ref 460) ⟨[v], []⟩ from rfl, Around.under_plain rfl rfl] at hI
 refine Cd.tree (Wk.of_any hI (law_into B hfd h1 h2 (by decide +kernel) hs fun env s₁ oL oc m F => ⟨rfl, ?_⟩))
 subst hs
 have S₁ := law_start (h₀ := s.heap) (x := x) (v := v) (slots := (fnOf 51).slots - (fnOf 51).arity) (none_at (Nat.le_refl _)) (none_at (Nat.le_succ _)) (Nat.ne_of_lt (Nat.lt_succ_self _)) (names := namesT 51) rfl (by decide +kernel) (by decide +kernel) F.N F.hm F.dc hv
 have sound := mB_ok (X := ⟨prog, w, s.heap, true, 51⟩) (law_mh (prog := prog) (w := w) B HK) (n := 40) (k := 60) (M := ⟨fd.scope.names, namesT 51⟩) (env := env) ⟨F.R, F.kin, by simp [lawCx, Function.comp_def]⟩ h3
 refine func_end rfl (sound.then hb ((G.func (stmtsOf fd) env).less (show 51 ≤ 59 by decide)) (law_in F) S₁ (fun fl s₂ T₂ G₂ p => (⟨T₂, G₂, p⟩ : Aft _ _ _ _ _ _ (fun T' fl => RFl T' r.1 fl) fl s₂))) fun fl s₂ h => ?_
 obtain ⟨T₂, G₂, hfl⟩ := h
 have h1 : (match r.1 with | .next => PV.f .none | .ret v => v) = .f (.bool true) := congrArg (fun z => z.1) hq
 have hu : flV fl = .bool true := by
  cases hr : r.1 with
  | next => rw [hr] at h1; exact nomatch h1
  | ret pv =>
   rw [hr] at h1 hfl
   obtain ⟨u, rfl, hu⟩ := hfl
   have h1 : pv = .f (.bool true) := h1
   subst h1
   exact hu
 refine ⟨hu, ?_, fun b o e => G₂.isIn _ _ _ (G₂.rel.base b o e)⟩
 obtain ⟨tk, e⟩ := G₂.same
 obtain ⟨h', tk', e'⟩ := F.same
 exact ⟨tk, by rw [e, e']⟩
end
noncomputable def LawPure : Prop := ∀ l : List Int, l.length ≤ 63 → ∃ led chg, runF (prgOf (Dn 51) 51) (fnOf 51) [.f (.list (l.map .int))] [] = some (.f (.bool true), led, chg)
theorem has_ints : ∀ {xs : List WData}, WShape.hasItems [] xs .int = true → ∃ l : List Int, xs = l.map .int
 | [], _ => ⟨[], rfl⟩
 | x :: xs, h => by
  have h : (WShape.has [] x .int && WShape.hasItems [] xs .int) = true := h
  rw [Bool.and_eq_true] at h
  obtain ⟨l, rfl⟩ := has_ints h.2
  cases x <;> first | exact ⟨_ :: l, rfl⟩ | cases h.1
theorem well_ints {P : Params} {h : Heap} {T : Tab} : ∀ {l : List Int} {vs : List Value}, WellAll P h vs (l.map .int) → VRels T (l.map FV.int) vs
 | [], _, h => by cases h; rfl
 | i :: l, _, h => by
  cases h with
  | cons a b =>
   cases a
   exact ⟨_, _, rfl, ⟨_, rfl⟩, well_ints b⟩
noncomputable def lawFdM (K : Frag) : Bool := (fnAt K 460).any fun fd => fdM K fd (paramsT 51) (namesT 51) && (lawM fd.scope.names (namesT 51) && bodyM K 51 fd)
theorem law_args {args : List WData} (h : (PySem.Challenge.rw_nt0112_01.row.toRowW).claim.pre args = true) : ∃ l : List Int, l.length ≤ 63 ∧ args = [.list (l.map .int)] := by
 obtain ⟨h1, h2⟩ := pre_splitW h
 have h1 : WShape.hasAll [] args [.list .int] = true := h1
 obtain ⟨d, r, rfl, hd, hr⟩ := hasAllW_cons h1
 have : r = [] := by
  induction r using List.casesOn with
  | nil => rfl
  | cons => exact nob hr
 subst this
 obtain ⟨xs, rfl⟩ : ∃ xs, d = .list xs := by
  cases d <;> first | exact ⟨_, rfl⟩ | cases hd
 have hi : WShape.hasItems [] xs .int = true := by
  have : (WShape.hasItems [] xs .int || false) = true := hd
  simpa using this
 obtain ⟨l, rfl⟩ := has_ints hi
 refine ⟨l, ?_, rfl⟩
 have h2 : WTm.holds [] (.and (.not (.lt (.lit (.int 63)) (.len (.arg 0)))) (.lit (.bool true))) { args := [.list (l.map .int)] } = true := h2
 by_cases hl : l.length ≤ 63
 ·exact hl
 ·have h3 : WTm.holds [] (.and (.not (.lit (.bool (decide ((63 : Int) < ((l.map WData.int).length : Int)))))) (.lit (.bool true))) { args := [] } = true := h2
  rw [decide_eq_true (by rw [List.length_map]; omega)] at h3
  exact nob h3
theorem law_walk (H : LawPure) {K : Params → Frag} (hk : ∀ P, KHyp (K P)) (hl : ∀ P, lawFdM (K P) = true) {q : Program} {loose : List Str} {XP : (Str → Option Value) → Heap → Prop} {YP : World → Heap → Prop} {d : DefRec} {kwd : List (Str × Expr)}
  (hY : ∀ w h, YP w h → (K w.params).In h) (hd : d.name = Str.ofString "law") : WalkAt q loose XP YP PySem.Challenge.rw_nt0112_01.row.toRowW d kwd := by
 intro w s₀ s₁ mg mb G Y a o pm cd doc dV kV ho hd' hcd hD hmg hg args vals as hpre L
 have X : (K w.params).In s₁.heap := hY _ _ Y
 refine Classical.byContradiction fun no₁ => ?_
 obtain ⟨l, hll, rfl⟩ := law_args hpre
 have W := L.well
 obtain ⟨u, tl, rfl⟩ : ∃ u tl, vals = u :: tl := by
  cases W with
  | cons a b => exact ⟨_, _, rfl⟩
 cases W with
 | cons a1 b1 =>
 cases b1
 cases a1 with
 | @list al vs _ hobj hwell =>
 have B : Base (K w.params) s₁.heap mg mb := ⟨X, ⟨G.T.g, G.T.b⟩, G.T.nolimit, G.T.builtins⟩
 have ha : a = 460 := by
  have h1 : mg (Str.ofString "law") = some (.ref 460) := mg_of X G.T.g ((hk w.params).glob 51 _ rfl)
  have h2 : mg (Str.ofString "law") = some (.ref a) := hd ▸ hmg
  rw [h1] at h2
  injection h2 with h2
  injection h2 with h2
  exact h2.symm
 subst ha
 have hv : VRel (baseT s₁.heap) (.list (l.map .int)) (.ref al) := ⟨al, _, vs, rfl, by unfold baseT; rw [hobj]; rfl, ⟨0, rfl⟩, well_ints hwell⟩
 obtain ⟨led, chg, hev⟩ := H l hll
 refine anyk (hl w.params) fun fd f1 h => andk h fun f2 h => andk h fun f3 f4 => ?_
 refine no₁ (Wk.mono (law_ok (prog := _) B (hk w.params) f1 f2 f3 f4 hv hev rfl) ?_)
 rintro r s' ⟨rfl, ⟨tk, hs'⟩, hkp⟩
 refine ⟨.inl ⟨.bool true, .bool true, [], rfl, fun _ => rfl, .bool true, ?_, fun _ => ⟨.nil, fun _ h => nomatch h⟩⟩, .of_keep hkp, by rw [hs'], .of_eq (by rw [hs']; exact hg)⟩
 have e1 : WShape.has [] (.bool true) .bool = true := by rfl
 have e2 : WTm.holds [] (.eq .res (.lit (.bool true))) { args := [.list (l.map .int)], res := some (.bool true), after := [.list (l.map .int)] } = true := by
  show WTm.holds [] (.lit (.bool (same (.bool true) (.bool true)))) { args := [] } = true
  rw [show same (.bool true) (.bool true) = true by simp only [same]; rfl]; rfl
 show (WShape.has [] (.bool true) .bool && WTm.holds [] (.eq .res (.lit (.bool true))) { args := [.list (l.map .int)], res := some (.bool true), after := [.list (l.map .int)] }) = true
 rw [e1, e2]; rfl
end Mine
end
section
open PySem PySem.W
namespace Mine
noncomputable section
structure An where
 v : Option FV := none
 p : Option PV := none
 t : Option Bool := none
 b : Option UInt8 := none
 l : Option (List FV) := none
 s : Option St := none
 q : Option (PV × Led × List Nat) := none
 o : Option (Out × St) := none
 c : Option (List FV × St) := none
noncomputable abbrev Tp := List An
noncomputable abbrev Ct (α : Type) := α → St → Tp → Prop
noncomputable def aC : An := {}
noncomputable def aV (z : FV) : An := { v := some z }
noncomputable def aP (z : PV) : An := { p := some z }
noncomputable def aY : An := { t := some true }
noncomputable def aN : An := { t := some false }
noncomputable def aB (z : UInt8) : An := { b := some z }
noncomputable def aL (z : List FV) : An := { l := some z }
noncomputable def aS (z : St) : An := { s := some z }
noncomputable def aQ (z : PV × Led × List Nat) : An := { q := some z }
noncomputable def aO (z : Out × St) : An := { o := some z }
noncomputable def aK (z : List FV × St) : An := { c := some z }
noncomputable def D1 (D : Delta) (f : Nat) (args : List PV) : Option FV := (D f args []).bind fun q => q.1.fv
theorem D1_up {f j : Nat} {args : List PV} (h : f < j) : D1 (Dn j) f args = D1 (Dn (f + 1)) f args := by
 unfold D1
 rw [Dn_lt h, Dn_lt (Nat.lt_succ_self f)]
noncomputable def someP {α : Type} (x : Option α) (k : α → Prop) : Prop := match x with
 | some z => k z
 | none => False
noncomputable def whenB (b : Bool) (p : Prop) : Prop := match b with
 | true => p
 | false => False
noncomputable def ansX {α : Type} (o x : Option α) (r : Tp) (k : α → Tp → Prop) : Prop := match o with
 | some z => x = some z ∧ k z r
 | none => someP x fun z => k z r
noncomputable def askX {α : Type} (f : An → Option α) (x : Option α) (tp : Tp) (k : α → Tp → Prop) : Prop := match tp with
 | [] => False
 | a :: r => ansX (f a) x r k
noncomputable def ansB (o : Option Bool) (b : Bool) (kt kf : Prop) : Prop := match o with
 | some true => b = true ∧ kt
 | some false => b = false ∧ kf
 | none => match b with
  | true => kt
  | false => kf
noncomputable def askB (b : Bool) (tp : Tp) (kt kf : Tp → Prop) : Prop := match tp with
 | [] => False
 | a :: r => ansB a.t b (kt r) (kf r)
noncomputable def heldT (s s' : St) (v : PV) (p : Prop) : Prop := match v with
 | .f _ => p
 | .o _ => held s s' v = true ∧ p
structure TE where
 e : PE → St → Tp → Ct PV → Prop
 c : PE → St → Tp → Ct Bool → Prop
 s : PS → St → Tp → Ct Out → Prop
noncomputable def makeT (lab : Option Nat) (z : FV) (st : St) (tp : Tp) (k : Ct PV) : Prop := match lab with
 | none => k (.f z) st tp
 | some j => st.fresh j = true ∧ (match z with
  | .list l => k (.o j) (st.put j (.list l)) tp
  | .barr b => k (.o j) (st.put j (.barr b)) tp
  | _ => False)
noncomputable def listT (lab : Option Nat) (z : FV) (st : St) (tp : Tp) (k : Ct PV) : Prop := match z with
 | .list l => makeT lab (.list l) st tp k
 | z => k (.f z) st tp
noncomputable def idxG (x : FV) (v : PV) : Option FV := match v with
 | .f (.int i) => if decide (i.natAbs < 2 ^ 62) then idxFV x i else none
 | _ => none
noncomputable def asIP : PV → Option Int
 | .f (.int i) => some i
 | _ => none
noncomputable def strP : PV → Option Str
 | .f (.str i) => some i
 | _ => none
noncomputable def labP : PV → Option Nat
 | .o k => some k
 | _ => none
noncomputable def fvP : PV → Option FV
 | .f x => some x
 | _ => none
noncomputable def tupP : PV → Option (List FV)
 | .f (.tup l) => some l
 | _ => none
noncomputable def listA : Option AO → Option (List FV)
 | some (.list l) => some l
 | _ => none
noncomputable def barrA : Option AO → Option (List UInt8)
 | some (.barr l) => some l
 | _ => none
noncomputable def augG (op : Operator) (o v : PV) : Option Int := (asIP o).bind fun x => (asIP v).bind fun y => augFV op x y
noncomputable def attrG (P : Prg) (x : Str) (st : St) (v : PV) : Option PV := if attrOk P x st v then attrGet st x v else none
noncomputable def attrP (P : Prg) (x : Str) (st : St) (v w : PV) : Option St := if attrOk P x st w then attrPut st x v w else none
noncomputable def octs : FV → Option (List UInt8)
 | .bytes c => some c
 | .barr c => some c
 | _ => none
noncomputable def joinG (x : FV) : Option FV := match x with
 | .list l => (l.mapM strOf).bind fun ss => if (ss.flatten).length ≤ 1000000 ∧ ss.length ≤ 1000000 then some (.str ⟨⟨ss.flatten⟩⟩) else none
 | _ => none
noncomputable def ansL {α : Type} (o x : Option (α × St)) (u : Prop) (r : Tp) (k : Ct α) : Prop := match o with
 | some q => x = some q ∧ k q.1 q.2 r
 | none => u
noncomputable def loopT {α : Type} (f : An → Option (α × St)) (x : Option (α × St)) (u : St → Tp → Prop) (st : St) (tp : Tp) (k : Ct α) : Prop := match tp with
 | [] => False
 | a :: r => ansL (f a) x (u st r) r k
section
variable (E : TE) (R : Ev) (P : Prg)
noncomputable def tL : List PE → St → Tp → Ct (List PV) → Prop
 | [], st, tp, k => k [] st tp
 | a :: l, st, tp, k => E.e a st tp fun v st tp => tL l st tp fun vs st tp => k (v :: vs) st tp
noncomputable def tB : List PS → St → Tp → Ct Out → Prop
 | [], st, tp, k => k .next st tp
 | a :: l, st, tp, k => E.s a st tp fun o st tp => match o with
  | .next => tB l st tp k
  | .ret v => k (.ret v) st tp
noncomputable def tAll : List PE → St → Tp → Ct Bool → Prop
 | [], st, tp, k => k true st tp
 | a :: l, st, tp, k => E.c a st tp fun b st tp => askB b tp (fun tp => tAll l st tp k) (fun tp => k false st tp)
noncomputable def tAny : List PE → St → Tp → Ct Bool → Prop
 | [], st, tp, k => k false st tp
 | a :: l, st, tp, k => E.c a st tp fun b st tp => askB b tp (fun tp => k true st tp) (fun tp => tAny l st tp k)
noncomputable def cmp1T (a : PV) (op : CmpOp) (b : PE) (st : St) (tp : Tp) (k : PV → Ct Bool) : Prop :=
 E.e b st tp fun y s t => heldT st s a (someP (s.deref a) fun u => someP (s.deref y) fun w => askX An.t (chainCmp op u w) t fun z t => k y z s t)
noncomputable def chainT (a : PV) (ops : List CmpOp) (bs : List PE) (st : St) (tp : Tp) (k : Ct Bool) : Prop := match ops, bs with
 | [op], [b] => cmp1T E a op b st tp fun _ => k
 | [op, op'], [b, b'] => cmp1T E a op b st tp fun y z s t => askB z t (fun t => cmp1T E y op' b' s t fun _ => k) (fun t => k false s t)
 | _, _ => False
noncomputable def optT : Option PE → St → Tp → Ct (Option Int) → Prop
 | none, st, tp, k => k none st tp
 | some e, st, tp, k => E.e e st tp fun v st tp => someP (asIP v) fun i => decide (i.natAbs < 2 ^ 62) = true ∧ k (some i) st tp
noncomputable def tFor (i : Nat) (b : List PS) (k : Ct Out) : List FV → St → Tp → Prop
 | [], st, tp => k .next st tp
 | x :: xs, st, tp => tB E b (st.set i (.f x)) tp fun o st tp => match o with
  | .ret v => k (.ret v) st tp
  | .next => loopT An.o (forLoop R i b xs st) (fun st tp => tFor i b k xs st tp) st tp k
noncomputable def tWhile (c : PE) (b : List PS) (k : Ct Out) : Nat → St → Tp → Prop
 | 0, _, _ => False
 | m + 1, st, tp => E.c c st tp fun t st tp => askB t tp (fun tp => tB E b st tp fun o st tp => match o with
  | .ret v => k (.ret v) st tp
  | .next => loopT An.o (whileLoop R c b m st) (fun st tp => tWhile c b k m st tp) st tp k) (fun tp => k .next st tp)
noncomputable def tComp (elt : PE) : List FV → St → Tp → Ct (List FV) → Prop
 | [], st, tp, k => k [] st tp
 | x :: xs, st, tp, k => E.e elt (st.set 0 (.f x)) tp fun v st tp => someP (fvP v) fun v =>
  loopT An.c (compLoop R elt xs st) (fun st tp => tComp elt xs st tp fun vs st tp => k (v :: vs) st tp) st tp fun vs st tp => k (v :: vs) st tp
noncomputable def callP (D : Delta) (f : Nat) (vs : List PV) (pass keep : List Nat) (st : St) (tp : Tp) (k : Ct PV) : Prop :=
 startOk st vs pass = true ∧ askX An.q (D f vs (st.led.filter fun p => pass.contains p.1)) tp fun q t =>
  backOk st pass q.1 (q.2.1.filter fun p => keep.contains p.1) q.2.2 = true ∧
   k q.1 { st with led := (q.2.1.filter fun p => keep.contains p.1).foldr (fun p l => putL p.1 p.2 l) (st.led.filter fun p => !pass.contains p.1), chg := goneOf pass (q.2.1.filter fun p => keep.contains p.1) q.2.2 ++ st.chg } t
noncomputable def plainL (l : List PV) : Bool := l.all fun | .f _ => true | .o _ => false
noncomputable def callT (D : Delta) (f : Nat) (vs : List PV) (pass keep : List Nat) (st : St) (tp : Tp) (k : Ct PV) : Prop := match pass, keep with
 | [], [] => whenB (plainL vs) (askX An.v (D1 D f vs) tp fun z t => k (.f z) st t)
 | [], c :: cs => callP D f vs [] (c :: cs) st tp k
 | p :: ps, keep => callP D f vs (p :: ps) keep st tp k
noncomputable def heldL (s s' : St) : List PV → Prop → Prop
 | [], p => p
 | v :: l, p => heldT s s' v (heldL s s' l p)
noncomputable def appT (P : Prg) (v : PV) (xs : List FV) (st : St) (tp : Tp) (k : Ct PV) : Prop := match v, xs with
 | .o j, [x] => (match st.look j with
  | some (.list l) => l.length ≤ 1000000 ∧ k (.f .none) (st.put j (.list (l ++ [x]))) tp
  | some (.barr b) => whenB P.bytearrays (askX An.b (byteOf x) tp fun c tp => b.length ≤ 1000000 ∧ k (.f .none) (st.put j (.barr (b ++ [c]))) tp)
  | _ => False)
 | _, _ => False
noncomputable def extT (P : Prg) (v : PV) (xs : List FV) (st : St) (tp : Tp) (k : Ct PV) : Prop := match v, xs with
 | .o j, [x] => someP (octs x) fun c => someP (barrA (st.look j)) fun b => whenB P.bytearrays (b.length + c.length ≤ 1000000 ∧ k (.f .none) (st.put j (.barr (b ++ c))) tp)
 | _, _ => False
noncomputable def revT (v : PV) (xs : List FV) (st : St) (tp : Tp) (k : Ct PV) : Prop := match v, xs with
 | .o j, [] => someP (listA (st.look j)) fun l => l.length ≤ 1000000 ∧ k (.f .none) (st.put j (.list l.reverse)) tp
 | _, _ => False
noncomputable def bmT (b : BM) (v : PV) (vs : List PV) (st : St) (tp : Tp) (k : Ct PV) : Prop := match b with
 | .join => (match vs with
  | [w] => someP (strP v) fun s => whenB (s.length == 0) (someP (st.deref w) fun x => askX An.v (joinG x) tp fun z tp => k (.f z) st tp)
  | _ => False)
 | .append => someP (fvs vs) fun xs => appT P v xs st tp k
 | .extend => someP (fvs vs) fun xs => extT P v xs st tp k
 | .reverse => someP (fvs vs) fun xs => revT v xs st tp k
noncomputable def biT (b : BI) (lab : Option Nat) (vs : List PV) (st : St) (tp : Tp) (k : Ct PV) : Prop := match b with
 | .bytearray => (match vs with
  | [] => whenB P.bytearrays (makeT lab (.barr []) st tp k)
  | _ => False)
 | .bytes => (match vs with
  | [v] => someP (st.deref v) fun x => askX An.v (biFV .bytes [x]) tp fun z tp => k (.f z) st tp
  | _ => False)
 | .len => (match vs with
  | [v] => someP (st.deref v) fun x => askX An.v (biFV .len [x]) tp fun z tp => k (.f z) st tp
  | _ => False)
 | .list => someP (fvs vs) fun xs => askX An.v (biFV .list xs) tp fun z tp => makeT lab z st tp k
 | b => someP (fvs vs) fun xs => askX An.v (biFV b xs) tp fun z tp => k (.f z) st tp
noncomputable def noneP : PV → Bool
 | .f .none => true
 | _ => false
noncomputable def stepT (a : PE) (st : St) (tp : Tp) (k : Ct PV) : Prop := match a with
 | .var i => someP ((st.loc[i]?).join) fun v => k v st tp
 | .gc _ v => k (.f v) st tp
 | .cst c => someP (constFV c) fun v => k (.f v) st tp
 | .bin op a b lab => E.e a st tp fun x s1 t1 => E.e b s1 t1 fun y s2 t2 => heldT s1 s2 x (someP (s2.deref x) fun u => someP (s2.deref y) fun w => askX An.v (binFV op u w) t2 fun z t => listT lab z s2 t k)
 | .neg a => E.e a st tp fun v s t => someP (asIP v) fun i => k (.f (.int (-i))) s t
 | .notE a => E.e a st tp fun v s t => askX An.t ((s.deref v).bind FV.truth) t fun b t => k (.f (.bool !b)) s t
 | .cmp a ops bs => E.e a st tp fun v s t => chainT E v ops bs s t fun b s t => k (.f (.bool b)) s t
 | .andE [a, b] => E.e a st tp fun v s t => askX An.t ((s.deref v).bind FV.truth) t fun x t => askB x t (fun t => E.e b s t k) (fun t => k v s t)
 | .ife c a b => E.c c st tp fun x s t => askB x t (fun t => E.e a s t k) (fun t => E.e b s t k)
 | .idx a i => E.e a st tp fun x s1 t1 => E.e i s1 t1 fun y s2 t2 => heldT s1 s2 x (someP (s2.deref x) fun u => askX An.v (idxG u y) t2 fun z t => k (.f z) s2 t)
 | .slc a lo hi lab => E.e a st tp fun x s1 t1 => optT E lo s1 t1 fun i s2 t2 => optT E hi s2 t2 fun j s3 t3 => heldT s1 s3 x (someP (s3.deref x) fun u => askX An.v (sliceFV u i j) t3 fun z t => listT lab z s3 t k)
 | .attr a x => E.e a st tp fun v s t => askX An.p (attrG P x s v) t fun u t => k u s t
 | .lst l lab => tL E l st tp fun vs s t => someP (fvs vs) fun xs => whenB (decide (xs.length ≤ 1000000)) (makeT lab (.list xs) s t k)
 | .tup l => tL E l st tp fun vs s t => someP (fvs vs) fun xs => whenB (decide (xs.length ≤ 1000000)) (k (.f (.tup xs)) s t)
 | .call f args pass keep => tL E args st tp fun vs s t => heldL st s vs (callT P.D f vs pass keep s t k)
 | .meth o f args pass keep => E.e o st tp fun v s1 t1 => tL E args s1 t1 fun vs s2 t2 => heldL s1 s2 (v :: vs) (someP (clsOf s1 v) fun c => (P.methOf c f && freeOf (P.mname f) s1 v) = true ∧ callT P.D f (v :: vs) pass keep s2 t2 k)
 | .new c args lab keep => tL E args st tp fun vs s t => someP (fvs vs) fun xs => s.fresh lab = true ∧ callP P.D (P.clsInit c) (.o lab :: xs.map .f) [lab] keep (s.put lab (.inst (P.clsAddr c) [] [])) t fun r s2 t => whenB (noneP r) (held (s.put lab (.inst (P.clsAddr c) [] [])) s2 (.o lab) = true ∧ k (.o lab) s2 t)
 | .bi b args lab => tL E args st tp fun vs s t => biT P b lab vs s t k
 | .bm b o args => E.e o st tp fun v s1 t1 => tL E args s1 t1 fun vs s2 t2 => heldT s1 s2 v (whenB (kindL s1 v == kindL s2 v) (bmT P b v vs s2 t2 k))
 | .comp elt it free lab => E.e it st tp fun v s t => someP (fvP v) fun x => askX An.l (itemsFV x) t fun xs t => xs.length ≤ 1000000 ∧
   loopT An.c (compLoop R elt xs { s with loc := none :: free.map fun j => (s.loc[j]?).join }) (fun s' t => tComp E R elt xs s' t fun vs s2 t => (s2.chg.length == s.chg.length) = true ∧ makeT lab (.list vs) { s2 with loc := s.loc } t k)
    { s with loc := none :: free.map fun j => (s.loc[j]?).join } t fun vs s2 t => (s2.chg.length == s.chg.length) = true ∧ makeT lab (.list vs) { s2 with loc := s.loc } t k
 | _ => False
noncomputable def truT (v : PV) (st : St) (tp : Tp) (k : Ct Bool) : Prop := match v with
 | .f (.bool b) => k b st tp
 | v => askX An.t ((st.deref v).bind FV.truth) tp fun b t => k b st t
noncomputable def stepTC (a : PE) (st : St) (tp : Tp) (k : Ct Bool) : Prop := match a with
 | .notE a => E.c a st tp fun b s t => k (!b) s t
 | .andE l => tAll E l st tp k
 | .orE l => tAny E l st tp k
 | .ife c a b => E.c c st tp fun x s t => askB x t (fun t => E.c a s t k) (fun t => E.c b s t k)
 | a => E.e a st tp fun v s t => truT v s t k
noncomputable def asgIG (v o i : PV) (st : St) : Option St := (fvP v).bind fun x => (labP o).bind fun k => (asIP i).bind fun j => (listA (st.look k)).bind fun l =>
 if 0 ≤ j && j < l.length && decide (l.length ≤ 1000000) then some (st.put k (.list (l.set j.toNat x))) else none
noncomputable def stepTS (a : PS) (st : St) (tp : Tp) (k : Ct Out) : Prop := match a with
 | .asg i e => E.e e st tp fun v s t => k .next (s.set i v) t
 | .asgT is e => E.e e st tp fun v s t => someP (tupP v) fun l => someP (setAll is l s) fun s => k .next s t
 | .asgA a x e => E.e e st tp fun v s t => E.e a s t fun w s2 t => heldT s s2 v (askX An.s (attrP P x s2 v w) t fun s3 t => k .next s3 t)
 | .asgI a i e => E.e e st tp fun v s t => E.e a s t fun w s2 t => E.e i s2 t fun j s3 t => heldT s2 s3 w (someP (asgIG v w j s3) fun s4 => k .next s4 t)
 | .aug i op e => someP ((st.loc[i]?).join) fun o => E.e e st tp fun v s t => someP (augG op o v) fun z => k .next (s.set i (.f (.int z))) t
 | .augA a x op e => E.e a st tp fun r s t => askX An.p (attrG P x s r) t fun o t => E.e e s t fun v s2 t => heldT s s2 r (someP (augG op o v) fun z => askX An.s (attrP P x s2 (.f (.int z)) r) t fun s3 t => k .next s3 t)
 | .ifS c th el => E.c c st tp fun b s t => askB b t (fun t => tB E th s t k) (fun t => tB E el s t k)
 | .whileS n c b => loopT An.o (whileLoop R c b n st) (fun s t => tWhile E R c b k n s t) st tp k
 | .forS i e b => E.e e st tp fun v s t => (match v with
   | .f x => askX An.l (itemsFV x) t fun xs t => loopT An.o (forLoop R i b xs s) (fun s t => tFor E R i b k xs s t) s t k
   | .o j => someP (listA (s.look j)) fun l => loopT An.o (forLoop R i b l { s with led := s.led.filter fun p => p.1 != j, lent := j :: s.lent })
     (fun s' t => tFor E R i b (fun o s2 t => k o { s2.put j (.list l) with lent := s.lent } t) l s' t) { s with led := s.led.filter fun p => p.1 != j, lent := j :: s.lent } t fun o s2 t => k o { s2.put j (.list l) with lent := s.lent } t)
 | .ret e gs => E.e e st tp fun v s t => someP (retGs gs v s) fun q => k (.ret q.1) q.2 t
 | .expr e => E.e e st tp fun _ s t => k .next s t
 | .frz j => someP (st.freeze j (.f .none)) fun q => k .next q.2 tp
 | .stuck => False
end
noncomputable def trun (P : Prg) : Nat → TE
 | 0 => ⟨fun _ _ _ _ => False, fun _ _ _ _ => False, fun _ _ _ _ => False⟩
 | n + 1 => ⟨stepT (trun P n) (run P n) P, stepTC (trun P n), stepTS (trun P n) (run P n) P⟩
end
noncomputable def Ok {α : Type} (x : Option (α × St)) (k : Ct α) : Prop := ∃ r tp, x = some r ∧ k r.1 r.2 tp
section
variable {α β γ : Type}
theorem Ok.mk {r : α × St} {tp : Tp} {k : Ct α} (h : k r.1 r.2 tp) : Ok (some r) k := ⟨r, tp, rfl, h⟩
theorem Ok.bind {x : Option (α × St)} {f : α × St → Option (β × St)} {k : Ct α} {k2 : Ct β} (h : Ok x k) (g : ∀ r tp, k r.1 r.2 tp → Ok (f r) k2) : Ok (x.bind f) k2 := by
 obtain ⟨r, tp, rfl, h⟩ := h
 exact g r tp h
theorem Ok.map {x : Option (α × St)} {f : α × St → β × St} {k : Ct α} {k2 : Ct β} (h : Ok x k) (g : ∀ r tp, k r.1 r.2 tp → k2 (f r).1 (f r).2 tp) : Ok (x.map f) k2 := by
 obtain ⟨r, tp, rfl, h⟩ := h
 exact ⟨_, tp, rfl, g r tp h⟩
theorem someP_ok {x : Option α} {f : α → Option (β × St)} {k : α → Prop} {k2 : Ct β} (h : someP x k) (g : ∀ z, k z → Ok (f z) k2) : Ok (x.bind f) k2 := by
 induction x with
 | none => exact h.elim
 | some z => exact g z h
theorem someP_map {x : Option α} {f : α → β × St} {tp : Tp} {k : α → Prop} {k2 : Ct β} (h : someP x k) (g : ∀ z, k z → k2 (f z).1 (f z).2 tp) : Ok (x.map f) k2 := by
 induction x with
 | none => exact h.elim
 | some z => exact ⟨_, tp, rfl, g z h⟩
theorem someP_ex {x : Option α} {k : α → Prop} (h : someP x k) : ∃ z, x = some z ∧ k z := by
 induction x with
 | none => exact h.elim
 | some z => exact ⟨z, rfl, h⟩
theorem askX_ex {f : An → Option α} {x : Option α} {tp : Tp} {k : α → Tp → Prop} (h : askX f x tp k) : ∃ z r, x = some z ∧ k z r := by
 induction tp using List.casesOn with
 | nil => exact h.elim
 | cons a r =>
  have h : ansX (f a) x r k := h
  cases e : f a with
  | none =>
   rw [e] at h
   obtain ⟨z, e, h⟩ := someP_ex h
   exact ⟨z, r, e, h⟩
  | some z => rw [e] at h; exact ⟨z, r, h⟩
theorem askX_ok {p : An → Option α} {x : Option α} {tp : Tp} {f : α → Option (β × St)} {k : α → Tp → Prop} {k2 : Ct β} (h : askX p x tp k) (g : ∀ z t, k z t → Ok (f z) k2) : Ok (x.bind f) k2 := by
 obtain ⟨z, r, rfl, h1⟩ := askX_ex h
 exact g z r h1
theorem askX_map {p : An → Option α} {x : Option α} {tp : Tp} {f : α → β × St} {k : α → Tp → Prop} {k2 : Ct β} (h : askX p x tp k) (g : ∀ z t, k z t → k2 (f z).1 (f z).2 t) : Ok (x.map f) k2 := by
 obtain ⟨z, r, rfl, h1⟩ := askX_ex h
 exact ⟨_, r, rfl, g z r h1⟩
theorem askB_ok {b : Bool} {tp : Tp} {kt kf : Tp → Prop} {x y : Option (α × St)} {k : Ct α} (h0 : askB b tp kt kf) (ht : ∀ t, kt t → Ok x k) (hf : ∀ t, kf t → Ok y k) : Ok (if b = true then x else y) k := by
 induction tp using List.casesOn with
 | nil => exact h0.elim
 | cons a r =>
  have h0 : ansB a.t b (kt r) (kf r) := h0
  cases e : a.t with
  | none => rw [e] at h0; induction b with
   | true => exact ht r h0
   | false => exact hf r h0
  | some z => rw [e] at h0; induction z with
   | true => rw [if_pos h0.1]; exact ht r h0.2
   | false => rw [if_neg (by rw [h0.1]; exact Bool.false_ne_true)]; exact hf r h0.2
theorem whenB_ex {b : Bool} {p : Prop} (h : whenB b p) : b = true ∧ p := by
 induction b with
 | true => exact ⟨rfl, h⟩
 | false => exact h.elim
theorem whenB_ok {b : Bool} {p : Prop} {x y : Option (α × St)} {k : Ct α} (h : whenB b p) (g : p → Ok x k) : Ok (if b = true then x else y) k := by
 obtain ⟨rfl, h⟩ := whenB_ex h
 exact g h
theorem if_ok {b : Prop} [Decidable b] {x y : Option (α × St)} {k : Ct α} (h : b) (g : Ok x k) : Ok (if b then x else y) k := by
 rw [if_pos h]; exact g
theorem heldT_ex {s s' : St} {v : PV} {p : Prop} (h : heldT s s' v p) : held s s' v = true ∧ p := by
 induction v with
 | f x => exact ⟨rfl, h⟩
 | o k => exact h
theorem heldT_ok {s s' : St} {v : PV} {p : Prop} {x y : Option (α × St)} {k : Ct α} (h : heldT s s' v p) (g : p → Ok x k) : Ok (if held s s' v = true then x else y) k := by
 obtain ⟨e, h⟩ := heldT_ex h
 exact if_ok e (g h)
theorem heldL_ex {s s' : St} {p : Prop} : ∀ {l : List PV}, heldL s s' l p → l.all (held s s') = true ∧ p
 | [], h => ⟨rfl, h⟩
 | v :: l, h => by
  obtain ⟨e, h⟩ := heldT_ex h
  obtain ⟨e', h⟩ := heldL_ex h
  exact ⟨by rw [List.all_cons, e, e']; rfl, h⟩
theorem loopT_ok {f : An → Option (α × St)} {x : Option (α × St)} {u : St → Tp → Prop} {st : St} {tp : Tp} {k : Ct α} (h : loopT f x u st tp k) (g : ∀ t, u st t → Ok x k) : Ok x k := by
 induction tp using List.casesOn with
 | nil => exact h.elim
 | cons a r =>
  have h : ansL (f a) x (u st r) r k := h
  cases e : f a with
  | none => rw [e] at h; exact g r h
  | some q => rw [e] at h; rw [h.1]; exact .mk h.2
theorem makeT_ok {lab : Option Nat} {z : FV} {st : St} {tp : Tp} {k : Ct PV} (h : makeT lab z st tp k) : Ok (st.make lab z) k := by
 induction lab with
 | none => exact .mk h
 | some j =>
  refine if_ok h.1 ?_
  have h := h.2
  induction z using FV.casesOn with
  | list l => exact .mk h
  | barr l => exact .mk h
  | _ => exact h.elim
theorem listT_ok {lab : Option Nat} {z : FV} {st : St} {tp : Tp} {k : Ct PV} (h : listT lab z st tp k) : Ok (match z with
   | .list _ => st.make lab z
   | _ => some (.f z, st)) k := by
 induction z using FV.casesOn with
 | list l => exact makeT_ok h
 | _ => exact .mk h
end
structure TS (E : TE) (R : Ev) : Prop where
 e : ∀ {a st tp k}, E.e a st tp k → Ok (R.e a st) k
 c : ∀ {a st tp k}, E.c a st tp k → Ok (R.c a st) k
 s : ∀ {a st tp k}, E.s a st tp k → Ok (R.s a st) k
section
variable {E : TE} {R : Ev} {P : Prg} (H : TS E R)
include H
theorem tL_ok : ∀ {l : List PE} {st : St} {tp : Tp} {k : Ct (List PV)}, tL E l st tp k → Ok (evL R l st) k
 | [], _, _, _, h => .mk h
 | _ :: _, _, _, _, h => (H.e h).bind fun _ _ h => (tL_ok h).bind fun _ _ h => .mk h
theorem tB_ok : ∀ {l : List PS} {st : St} {tp : Tp} {k : Ct Out}, tB E l st tp k → Ok (evB R l st) k
 | [], _, _, _, h => .mk h
 | _ :: _, _, _, _, h => (H.s h).bind fun r _ h => match r, h with
  | (.next, _), h => tB_ok h
  | (.ret _, _), h => .mk h
theorem tAll_ok : ∀ {l : List PE} {st : St} {tp : Tp} {k : Ct Bool}, tAll E l st tp k → Ok (evAll R l st) k
 | [], _, _, _, h => .mk h
 | _ :: _, _, _, _, h => (H.c h).bind fun _ _ h => askB_ok h (fun _ h => tAll_ok h) fun _ h => .mk h
theorem tAny_ok : ∀ {l : List PE} {st : St} {tp : Tp} {k : Ct Bool}, tAny E l st tp k → Ok (evAny R l st) k
 | [], _, _, _, h => .mk h
 | _ :: _, _, _, _, h => (H.c h).bind fun _ _ h => askB_ok h (fun _ h => .mk h) fun _ h => tAny_ok h
theorem optT_ok : ∀ {o : Option PE} {st : St} {tp : Tp} {k : Ct (Option Int)}, optT E o st tp k → Ok (evOpt R o st) k
 | none, _, _, _, h => .mk h
 | some _, _, _, _, h => (H.e h).bind fun r _ h => by
  obtain ⟨v, s⟩ := r
  obtain ⟨i, e, h1, h2⟩ := someP_ex h
  induction v with
  | o k => cases e
  | f v => induction v using FV.casesOn with
   | int j => obtain rfl := Option.some.inj e; exact if_ok h1 (.mk h2)
   | _ => cases e
theorem cmp1_ok {α : Type} {a : PV} {op : CmpOp} {b : PE} {st : St} {tp : Tp} {k : PV → Ct Bool} {f : PV × St → Bool → Option (α × St)} {k2 : Ct α} (h : cmp1T E a op b st tp k) (g : ∀ r z t, k r.1 z r.2 t → Ok (f r z) k2) :
  Ok ((R.e b st).bind fun r => if held st r.2 a then (r.2.deref a).bind fun x => (r.2.deref r.1).bind fun y => (chainCmp op x y).bind fun t => f r t else none) k2 :=
 (H.e h).bind fun r _ h => heldT_ok h fun h => someP_ok h fun _ h => someP_ok h fun _ h => askX_ok h fun z t h => g r z t h
theorem chain_ok' : ∀ {a : PV} {ops : List CmpOp} {bs : List PE} {st : St} {tp : Tp} {k : Ct Bool}, chainT E a ops bs st tp k → Ok (evChain R a ops bs st) k
 | a, [op], [b], st, tp, k, h => (H.e h).bind fun r _ h => heldT_ok h fun h => someP_ok h fun _ h => someP_ok h fun _ h => askX_ok h fun _ _ h => .mk h
 | a, [op, op'], [b, b'], st, tp, k, h => cmp1_ok H (f := fun r t => if t then evChain R r.1 [op'] [b'] r.2 else some (false, r.2)) h fun r z t h => askB_ok h (fun _ h => chain_ok' (ops := [op']) (bs := [b']) h) fun _ h => .mk h
 | _, [], _, _, _, _, h => h.elim
 | _, [_], [], _, _, _, h => h.elim
 | _, [_], _ :: _ :: _, _, _, _, h => h.elim
 | _, [_, _], [], _, _, _, h => h.elim
 | _, [_, _], [_], _, _, _, h => h.elim
 | _, [_, _], _ :: _ :: _ :: _, _, _, _, h => h.elim
 | _, _ :: _ :: _ :: _, _, _, _, _, h => h.elim
theorem tFor_ok {i : Nat} {b : List PS} {k : Ct Out} : ∀ {xs : List FV} {st : St} {tp : Tp}, tFor E R i b k xs st tp → Ok (forLoop R i b xs st) k
 | [], _, _, h => .mk h
 | _ :: xs, _, _, h => (tB_ok H h).bind fun r tp h => by
  obtain ⟨o, s⟩ := r
  induction o with
  | ret v => exact .mk h
  | next => exact loopT_ok (f := An.o) (x := forLoop R i b xs s) (u := fun s t => tFor E R i b k xs s t) (st := s) (tp := tp) (k := k) h fun _ h => tFor_ok h
theorem tWhile_ok {c : PE} {b : List PS} {k : Ct Out} : ∀ {m : Nat} {st : St} {tp : Tp}, tWhile E R c b k m st tp → Ok (whileLoop R c b m st) k
 | 0, _, _, h => h.elim
 | m + 1, _, _, h => (H.c h).bind fun _ _ h => askB_ok h (fun _ h => (tB_ok H h).bind fun r tp h => by
  obtain ⟨o, s⟩ := r
  induction o with
  | ret v => exact .mk h
  | next => exact loopT_ok (f := An.o) (x := whileLoop R c b m s) (u := fun s t => tWhile E R c b k m s t) (st := s) (tp := tp) (k := k) h fun _ h => tWhile_ok h) fun _ h => .mk h
theorem tComp_ok {elt : PE} : ∀ {xs : List FV} {st : St} {tp : Tp} {k : Ct (List FV)}, tComp E R elt xs st tp k → Ok (compLoop R elt xs st) k
 | [], _, _, _, h => .mk h
 | _ :: xs, _, _, k, h => (H.e h).bind fun r tp h => by
  obtain ⟨v, s⟩ := r
  obtain ⟨w, e, h⟩ := someP_ex h
  induction v with
  | o j => cases e
  | f v =>
   cases e
   exact Ok.map (loopT_ok (f := An.c) (x := compLoop R elt xs s) (u := fun s t => tComp E R elt xs s t fun vs st tp => k (w :: vs) st tp) (st := s) (tp := tp) (k := fun vs st tp => k (w :: vs) st tp) h fun _ h => tComp_ok h) fun _ _ h => h
end
section
variable {P : Prg} {st : St} {tp : Tp}
theorem callP_ok {D : Delta} {f : Nat} {vs : List PV} {pass keep : List Nat} {k : Ct PV} (h : callP D f vs pass keep st tp k) : Ok (doCall D f vs pass keep st) k :=
 if_ok h.1 (askX_ok h.2 fun _ t h => if_ok h.1 (Ok.mk (tp := t) h.2))
theorem led_all (l : Led) : l.filter (fun p => !([] : List Nat).contains p.1) = l := by
 induction l with
 | nil => rfl
 | cons a l ih => rw [List.filter_cons_of_pos rfl, ih]
theorem call0 {D : Delta} {f : Nat} {vs : List PV} {z : FV} (hp : plainL vs = true) (h : D1 D f vs = some z) : doCall D f vs [] [] st = some (.f z, st) := by
 unfold D1 at h
 unfold doCall
 have h0 : (st.led.filter fun p => ([] : List Nat).contains p.1) = [] := List.filter_eq_nil_iff.mpr fun _ _ h => Bool.noConfusion h
 have hs : startOk st vs [] = true := by
  unfold startOk
  rw [h0]
  refine Bool.and_eq_true_iff.mpr ⟨List.all_eq_true.mpr fun p hp' => ?_, rfl⟩
  have := List.all_eq_true.mp hp p hp'
  induction p with
  | f v => rfl
  | o k => exact nob this
 rw [if_pos hs, h0]
 cases hq : D f vs [] with
 | none => rw [hq] at h; cases h
 | some q =>
  rw [hq] at h
  obtain ⟨v, led, chg⟩ := q
  have hk : (led.filter fun p => ([] : List Nat).contains p.1) = [] := List.filter_eq_nil_iff.mpr fun _ _ h => Bool.noConfusion h
  induction v with
  | o j => cases h
  | f v =>
   cases h
   show (if backOk st [] (.f z) (led.filter fun p => ([] : List Nat).contains p.1) chg = true then _ else none) = _
   rw [hk, if_pos (show backOk st [] (.f z) [] chg = true from rfl)]
   show some (PV.f z, ({ st with led := st.led.filter fun p => !([] : List Nat).contains p.1, chg := st.chg } : St)) = _
   rw [led_all]
theorem callT_ok {D : Delta} {f : Nat} {vs : List PV} : ∀ {pass keep : List Nat} {k : Ct PV}, callT D f vs pass keep st tp k → Ok (doCall D f vs pass keep st) k
 | [], [], _, h => by
  obtain ⟨e, h⟩ := whenB_ex h
  obtain ⟨z, r, e', h⟩ := askX_ex h
  rw [call0 e e']
  exact .mk h
 | [], _ :: _, _, h => callP_ok h
 | _ :: _, _, _, h => callP_ok h
theorem fvP_some {v : PV} {x : FV} (h : fvP v = some x) : v = .f x := by
 induction v with
 | f y => obtain rfl := Option.some.inj h; rfl
 | o k => cases h
theorem labP_some {v : PV} {x : Nat} (h : labP v = some x) : v = .o x := by
 induction v with
 | f y => cases h
 | o k => obtain rfl := Option.some.inj h; rfl
theorem asIP_some {v : PV} {x : Int} (h : asIP v = some x) : v = .f (.int x) := by
 induction v with
 | o k => cases h
 | f y => induction y using FV.casesOn with
  | int i => obtain rfl := Option.some.inj h; rfl
  | _ => cases h
theorem strP_some {v : PV} {x : Str} (h : strP v = some x) : v = .f (.str x) := by
 induction v with
 | o k => cases h
 | f y => induction y using FV.casesOn with
  | str i => obtain rfl := Option.some.inj h; rfl
  | _ => cases h
theorem tupP_some {v : PV} {x : List FV} (h : tupP v = some x) : v = .f (.tup x) := by
 induction v with
 | o k => cases h
 | f y => induction y using FV.casesOn with
  | tup i => obtain rfl := Option.some.inj h; rfl
  | _ => cases h
theorem listA_some {v : Option AO} {x : List FV} (h : listA v = some x) : v = some (.list x) := by
 induction v with
 | none => cases h
 | some y => induction y with
  | list i => obtain rfl := Option.some.inj h; rfl
  | _ => cases h
theorem barrA_some {v : Option AO} {x : List UInt8} (h : barrA v = some x) : v = some (.barr x) := by
 induction v with
 | none => cases h
 | some y => induction y with
  | barr i => obtain rfl := Option.some.inj h; rfl
  | _ => cases h
theorem octs_some {x : FV} {c : List UInt8} (h : octs x = some c) : x = .bytes c ∨ x = .barr c := by
 induction x using FV.casesOn with
 | bytes b => obtain rfl := Option.some.inj h; exact .inl rfl
 | barr b => obtain rfl := Option.some.inj h; exact .inr rfl
 | _ => cases h
end
section
variable {E : TE} {R : Ev} {P : Prg} {st : St} {tp : Tp} {k : Ct PV}
theorem appT_ok {v : PV} : ∀ {xs : List FV}, appT P v xs st tp k → Ok (match v with
     | .o j => (match st.look j with | some (.barr _) => if P.bytearrays then bmStep .append v xs st else Option.none | _ => bmStep .append v xs st)
     | _ => bmStep .append v xs st) k := by
 intro xs h
 induction v with
 | f y => exact h.elim
 | o j => match xs, h with
  | [], h => exact h.elim
  | _ :: _ :: _, h => exact h.elim
  | [x], h =>
   have key : ∀ o, o = st.look j → (match o with
    | some (.list l) => l.length ≤ 1000000 ∧ k (.f .none) (st.put j (.list (l ++ [x]))) tp
    | some (.barr b) => whenB P.bytearrays (askX An.b (byteOf x) tp fun c tp => b.length ≤ 1000000 ∧ k (.f .none) (st.put j (.barr (b ++ [c]))) tp)
    | _ => False) → Ok (match o with | some (.barr _) => if P.bytearrays then (match o with
   | some (.list l) => if l.length ≤ 1000000 then some (.f .none, st.put j (.list (l ++ [x]))) else Option.none
   | some (.barr b) => (byteOf x).bind fun c => if b.length ≤ 1000000 then some (.f .none, st.put j (.barr (b ++ [c]))) else Option.none
   | _ => Option.none) else Option.none | _ => (match o with
   | some (.list l) => if l.length ≤ 1000000 then some (.f .none, st.put j (.list (l ++ [x]))) else Option.none
   | some (.barr b) => (byteOf x).bind fun c => if b.length ≤ 1000000 then some (.f .none, st.put j (.barr (b ++ [c]))) else Option.none
   | _ => Option.none)) k := fun o _ h => by
    induction o with
    | none => exact h.elim
    | some ao => induction ao with
     | inst c ns vs => exact h.elim
     | list l => exact if_ok h.1 (Ok.mk (tp := tp) h.2)
     | barr b => exact whenB_ok h fun h => askX_ok h fun _ t h => if_ok h.1 (Ok.mk (tp := t) h.2)
   exact key _ rfl h
theorem extT_ok {v : PV} {xs : List FV} (h : extT P v xs st tp k) : Ok (if P.bytearrays then bmStep .extend v xs st else none) k := by
 induction v with
 | f y => exact h.elim
 | o j => match xs, h with
  | [], h => exact h.elim
  | _ :: _ :: _, h => exact h.elim
  | [x], h =>
   obtain ⟨c, e1, h1⟩ := someP_ex h
   obtain ⟨b, e2, h2⟩ := someP_ex h1
   refine whenB_ok h2 fun h => ?_
   have e2 := barrA_some e2
   have key : ∀ o : Option AO, o = some (.barr b) → Ok (match o with
    | some (.barr b) => if b.length + c.length ≤ 1000000 then some (PV.f .none, st.put j (.barr (b ++ c))) else Option.none
    | _ => Option.none) k := fun o e => by rw [e]; exact if_ok h.1 (Ok.mk (tp := tp) h.2)
   rcases octs_some e1 with rfl | rfl
   ·exact key _ e2
   ·exact key _ e2
theorem revT_ok {v : PV} {xs : List FV} (h : revT v xs st tp k) : Ok (bmStep .reverse v xs st) k := by
 induction v with
 | f y => exact h.elim
 | o j => match xs, h with
  | _ :: _, h => exact h.elim
  | [], h =>
   obtain ⟨l, e2, h1⟩ := someP_ex h
   have e2 := listA_some e2
   have key : ∀ o : Option AO, o = some (.list l) → Ok (match o with
    | some (.list l) => if l.length ≤ 1000000 then some (PV.f .none, st.put j (.list l.reverse)) else Option.none
    | _ => Option.none) k := fun o e => by rw [e]; exact if_ok h1.1 (Ok.mk (tp := tp) h1.2)
   exact key _ e2
theorem joinG_eq {x : FV} : (match x with
     | .list l => (l.mapM strOf).bind fun ss => if (ss.flatten).length ≤ 1000000 ∧ ss.length ≤ 1000000 then some (PV.f (.str ⟨⟨ss.flatten⟩⟩), st) else Option.none
     | _ => Option.none) = (joinG x).map fun z => (PV.f z, st) := by
 induction x using FV.casesOn with
 | list l =>
  show (l.mapM strOf).bind _ = ((l.mapM strOf).bind fun ss => if (ss.flatten).length ≤ 1000000 ∧ ss.length ≤ 1000000 then some (FV.str ⟨⟨ss.flatten⟩⟩) else Option.none).map _
  induction l.mapM strOf with
  | none => rfl
  | some ss => show (if _ then _ else _) = Option.map _ (if _ then _ else _); split <;> rfl
 | _ => rfl
theorem join_ok {s : Str} {w : PV} (hs : (s.length == 0) = true) (h : someP (st.deref w) fun x => askX An.v (joinG x) tp fun z tp => k (.f z) st tp) :
  Ok (if s.length == 0 then (st.deref w).bind fun x => (match x with
     | .list l => (l.mapM strOf).bind fun ss => if (ss.flatten).length ≤ 1000000 ∧ ss.length ≤ 1000000 then some (PV.f (.str ⟨⟨ss.flatten⟩⟩), st) else Option.none
     | _ => Option.none) else Option.none) k :=
 if_ok hs (someP_ok h fun x h => joinG_eq (x := x) ▸ askX_map h fun _ _ h => h)
theorem bmT_ok {b : BM} {v : PV} {vs : List PV} (h : bmT P b v vs st tp k) : Ok (match b, v, vs with
   | .join, .f (.str s), [v] => if s.length == 0 then (st.deref v).bind fun x => (match x with
     | .list l => (l.mapM strOf).bind fun ss => if (ss.flatten).length ≤ 1000000 ∧ ss.length ≤ 1000000 then some (.f (.str ⟨⟨ss.flatten⟩⟩), st) else Option.none
     | _ => Option.none) else Option.none
   | b, o, vs => (fvs vs).bind fun xs => (match b, o with
     | .append, .o k => (match st.look k with | some (.barr _) => if P.bytearrays then bmStep b o xs st else Option.none | _ => bmStep b o xs st)
     | .extend, _ => if P.bytearrays then bmStep b o xs st else Option.none
     | _, _ => bmStep b o xs st)) k := by
 induction b with
 | join => match vs, h with
  | [w], h =>
   obtain ⟨s, e, h1⟩ := someP_ex h
   obtain ⟨hs, h2⟩ := whenB_ex h1
   rw [strP_some e]
   exact join_ok hs h2
  | [], h => exact h.elim
  | _ :: _ :: _, h => exact h.elim
 | append =>
  exact someP_ok h fun xs h => by
   induction v with
   | f y => exact (show False from h).elim
   | o j => exact appT_ok (v := .o j) h
 | extend => exact someP_ok h fun xs h => extT_ok h
 | reverse => exact someP_ok h fun xs h => revT_ok h
theorem biT_ok {b : BI} {lab : Option Nat} {vs : List PV} (h : biT P b lab vs st tp k) : Ok (match b, vs with
   | .bytearray, [] => if P.bytearrays then st.make lab (.barr []) else Option.none
   | .bytes, [v] => (st.deref v).bind fun x => (biFV .bytes [x]).map fun z => (.f z, st)
   | .len, [v] => (st.deref v).bind fun x => (biFV .len [x]).map fun z => (.f z, st)
   | .list, vs => (fvs vs).bind fun xs => (biFV .list xs).bind fun z => st.make lab z
   | b, vs => (fvs vs).bind fun xs => (biFV b xs).map fun z => (.f z, st)) k := by
 have one : ∀ b, (match vs with
  | [v] => someP (st.deref v) fun x => askX An.v (biFV b [x]) tp fun z tp => k (.f z) st tp
  | _ => False) → ∃ v, vs = [v] ∧ Ok ((st.deref v).bind fun x => (biFV b [x]).map fun z => (.f z, st)) k := fun b h => by
  match vs, h with
  | [v], h => exact ⟨v, rfl, someP_ok h fun _ h => askX_map h fun _ _ h => h⟩
  | [], h => exact h.elim
  | _ :: _ :: _, h => exact h.elim
 have many : ∀ b, (someP (fvs vs) fun xs => askX An.v (biFV b xs) tp fun z tp => k (.f z) st tp) → Ok ((fvs vs).bind fun xs => (biFV b xs).map fun z => (.f z, st)) k := fun b h => someP_ok h fun _ h => askX_map h fun _ _ h => h
 induction b with
 | bytearray => match vs, h with
  | [], h => exact whenB_ok h fun h => makeT_ok h
  | _ :: _, h => exact h.elim
 | bytes => obtain ⟨v, rfl, h1⟩ := one .bytes h; exact h1
 | len => obtain ⟨v, rfl, h1⟩ := one .len h; exact h1
 | list => exact someP_ok h fun _ h => askX_ok h fun _ _ h => makeT_ok h
 | isi T => exact many (.isi T) h
 | ord => exact many .ord h
 | chr => exact many .chr h
 | int => exact many .int h
 | bool => exact many .bool h
 | max => exact many .max h
 | tuple => exact many .tuple h
 | range => exact many .range h
end
theorem augG_inv {op : Operator} {o v : PV} {z : Int} (h : augG op o v = some z) : ∃ x y, o = .f (.int x) ∧ v = .f (.int y) ∧ augFV op x y = some z := by
 obtain ⟨x, e3, h1⟩ := Option.bind_eq_some_iff.mp h
 obtain ⟨y, e4, h2⟩ := Option.bind_eq_some_iff.mp h1
 exact ⟨x, y, asIP_some e3, asIP_some e4, h2⟩
theorem truT_ok {v : PV} {st : St} {tp : Tp} {k : Ct Bool} (h : truT v st tp k) : Ok (((st.deref v).bind FV.truth).map fun t => (t, st)) k := by
 induction v with
 | o j => exact askX_map h fun _ _ h => h
 | f v => induction v using FV.casesOn with
  | bool b => exact .mk h
  | _ => exact askX_map h fun _ _ h => h
section
variable {E : TE} {R : Ev} {P : Prg} (H : TS E R)
include H
theorem stepT_ok {a : PE} {st : St} {tp : Tp} {k : Ct PV} (h : stepT E R P a st tp k) : Ok (stepE R P a st) k := by
 induction a using PE.casesOn with
 | var i => exact someP_map h fun _ h => h
 | gc x v => exact .mk h
 | cst c => exact someP_map h fun _ h => h
 | bin op a b lab => exact (H.e h).bind fun _ _ h => (H.e h).bind fun _ _ h => heldT_ok h fun h => someP_ok h fun _ h => someP_ok h fun _ h => askX_ok h fun _ _ h => listT_ok h
 | neg a =>
  exact (H.e h).bind fun r tp h => by
   obtain ⟨i, e, h1⟩ := someP_ex h
   obtain ⟨v, s⟩ := r
   cases asIP_some e
   exact .mk h1
 | notE a => exact (H.e h).bind fun _ _ h => askX_map h fun _ _ h => h
 | cmp a ops bs => exact (H.e h).bind fun _ _ h => (chain_ok' H h).map fun _ _ h => h
 | andE l => match l, h with
  | [a, b], h => exact (H.e h).bind fun r _ h => askX_ok h fun _ _ h => askB_ok h (fun _ h => H.e h) fun _ h => Ok.mk (r := r) h
  | [], h => exact h.elim
  | [_], h => exact h.elim
  | _ :: _ :: _ :: _, h => exact h.elim
 | orE l => exact (show False from h).elim
 | ife c a b => exact (H.c h).bind fun _ _ h => askB_ok h (fun _ h => H.e h) fun _ h => H.e h
 | idx a i =>
  exact (H.e h).bind fun _ _ h => (H.e h).bind fun r _ h => heldT_ok h fun h => someP_ok h fun x h => by
   obtain ⟨z, t, e, h1⟩ := askX_ex h
   obtain ⟨v, s⟩ := r
   induction v with
   | o k => cases e
   | f v => induction v using FV.casesOn with
    | int i =>
     have e : (if decide (i.natAbs < 2 ^ 62) then idxFV x i else none) = some z := e
     show Ok (if decide (i.natAbs < 2 ^ 62) then (idxFV x i).map fun v => (PV.f v, s) else none) k
     by_cases hc : decide (i.natAbs < 2 ^ 62) = true
     ·rw [if_pos hc] at e ⊢
      rw [e]
      exact .mk h1
     ·rw [if_neg hc] at e; cases e
    | _ => cases e
 | slc a lo hi lab => exact (H.e h).bind fun _ _ h => (optT_ok H h).bind fun _ _ h => (optT_ok H h).bind fun _ _ h => heldT_ok h fun h => someP_ok h fun _ h => askX_ok h fun _ _ h => listT_ok h
 | attr a x =>
  exact (H.e h).bind fun r _ h => by
   obtain ⟨z, t, e, h1⟩ := askX_ex h
   have e : (if attrOk P x r.2 r.1 then attrGet r.2 x r.1 else none) = some z := e
   by_cases hc : attrOk P x r.2 r.1 = true
   ·rw [if_pos hc] at e ⊢
    rw [e]
    exact .mk h1
   ·rw [if_neg hc] at e; cases e
 | lst l lab => exact (tL_ok H h).bind fun _ _ h => someP_ok h fun _ h => let ⟨e, h⟩ := whenB_ex h; if_ok (of_decide_eq_true e) (makeT_ok h)
 | tup l => exact (tL_ok H h).bind fun _ t h => someP_ok h fun _ h => let ⟨e, h⟩ := whenB_ex h; if_ok (of_decide_eq_true e) (Ok.mk (tp := t) h)
 | call f args pass keep => exact (tL_ok H h).bind fun _ _ h => let ⟨e, h⟩ := heldL_ex h; if_ok e (callT_ok h)
 | meth o f args pass keep =>
  exact (H.e h).bind fun r _ h => (tL_ok H h).bind fun _ _ h => by
   obtain ⟨e, h1⟩ := heldL_ex h
   obtain ⟨c, e2, h2⟩ := someP_ex h1
   refine if_ok e ?_
   rw [e2]
   exact if_ok h2.1 (callT_ok h2.2)
 | new c args lab keep =>
  exact (tL_ok H h).bind fun _ _ h => someP_ok h fun _ h => if_ok h.1 ((callP_ok h.2).bind fun r _ h => by
   obtain ⟨v, s⟩ := r
   obtain ⟨e, h1⟩ := whenB_ex h
   induction v with
   | o k => exact nob e
   | f v => induction v using FV.casesOn with
    | none => exact if_ok h1.1 (.mk h1.2)
    | _ => exact nob e)
 | bi b args lab => exact (tL_ok H h).bind fun _ _ h => biT_ok h
 | bm b o args =>
  exact (H.e h).bind fun _ _ h => (tL_ok H h).bind fun _ _ h => by
   obtain ⟨e, h1⟩ := heldT_ex h
   obtain ⟨e2, h2⟩ := whenB_ex h1
   exact if_ok (by rw [e, e2]; rfl) (bmT_ok h2)
 | comp elt it free lab =>
  exact (H.e h).bind fun r _ h => by
   obtain ⟨v, s⟩ := r
   obtain ⟨x, e, h1⟩ := someP_ex h
   cases fvP_some e
   exact askX_ok h1 fun _ _ h => if_ok h.1 ((loopT_ok h.2 fun _ h => tComp_ok H h).bind fun _ _ h => if_ok h.1 (makeT_ok h.2))
theorem stepTC_ok {a : PE} {st : St} {tp : Tp} {k : Ct Bool} (h : stepTC E a st tp k) : Ok (stepC R a st) k := by
 have any : ∀ {a}, (E.e a st tp fun v s t => truT v s t k) → Ok ((R.e a st).bind fun r => ((r.2.deref r.1).bind FV.truth).map fun t => (t, r.2)) k := fun h => (H.e h).bind fun _ _ h => truT_ok h
 induction a using PE.casesOn with
 | notE a => exact (H.c h).map fun _ _ h => h
 | andE l => exact tAll_ok H h
 | orE l => exact tAny_ok H h
 | ife c a b => exact (H.c h).bind fun _ _ h => askB_ok h (fun _ h => H.c h) fun _ h => H.c h
 | _ => exact any h
theorem stepTS_ok {a : PS} {st : St} {tp : Tp} {k : Ct Out} (h : stepTS E R P a st tp k) : Ok (stepS R P a st) k := by
 cases a with
 | asg i e => exact (H.e h).map fun _ _ h => h
 | asgT is e =>
  exact (H.e h).bind fun r t h => by
   obtain ⟨v, s⟩ := r
   obtain ⟨l, e, h1⟩ := someP_ex h
   cases tupP_some e
   exact someP_map (tp := t) h1 fun _ h => h
 | asgA a x e =>
  exact (H.e h).bind fun r _ h => (H.e h).bind fun q _ h => by
   obtain ⟨e, h1⟩ := heldT_ex h
   obtain ⟨z, t, e2, h2⟩ := askX_ex h1
   have e2 : (if attrOk P x q.2 q.1 then attrPut q.2 x r.1 q.1 else none) = some z := e2
   by_cases hc : attrOk P x q.2 q.1 = true
   ·rw [if_pos hc] at e2
    rw [e2]
    exact if_ok (by rw [e, hc]; rfl) (.mk h2)
   ·rw [if_neg hc] at e2; cases e2
 | asgI a i e =>
  exact (H.e h).bind fun r _ h => (H.e h).bind fun q _ h => (H.e h).bind fun p t h => by
   obtain ⟨v, s1⟩ := r
   obtain ⟨w, s2⟩ := q
   obtain ⟨j, s3⟩ := p
   obtain ⟨e, h1⟩ := heldT_ex h
   obtain ⟨s4, e2, h2⟩ := someP_ex h1
   obtain ⟨x, e3, e2⟩ := Option.bind_eq_some_iff.mp e2
   obtain ⟨y, e4, e2⟩ := Option.bind_eq_some_iff.mp e2
   obtain ⟨z, e5, e2⟩ := Option.bind_eq_some_iff.mp e2
   obtain ⟨l, e6, e7⟩ := Option.bind_eq_some_iff.mp e2
   cases fvP_some e3
   cases labP_some e4
   cases asIP_some e5
   have e6 := listA_some e6
   refine if_ok e ?_
   show Ok (match s3.look y with
     | some (.list l) => if 0 ≤ z && z < l.length && decide (l.length ≤ 1000000) then some (Out.next, s3.put y (.list (l.set z.toNat x))) else Option.none
     | _ => Option.none) k
   rw [e6]
   obtain ⟨hc, rfl⟩ := ite_some e7
   exact if_ok hc (Ok.mk (tp := t) h2)
 | aug i op e =>
  exact someP_ok h fun o h => (H.e h).bind fun r t h => by
   obtain ⟨v, s⟩ := r
   obtain ⟨z, e1, h2⟩ := someP_ex h
   obtain ⟨x, y, rfl, e4, e2⟩ := augG_inv e1
   have e4 : v = .f (.int y) := e4
   subst e4
   show Ok ((augFV op x y).map fun z => (Out.next, s.set i (.f (.int z)))) k
   rw [e2]
   exact Ok.mk (tp := t) h2
 | augA a x op e =>
  exact (H.e h).bind fun r _ h => by
   obtain ⟨o, t1, e1, h⟩ := askX_ex h
   have e1 : (if attrOk P x r.2 r.1 then attrGet r.2 x r.1 else none) = some o := e1
   by_cases hc : attrOk P x r.2 r.1 = true
   ·rw [if_pos hc] at e1
    refine if_ok hc ?_
    rw [e1]
    refine (H.e h).bind fun q t h => ?_
    obtain ⟨v, s⟩ := q
    obtain ⟨eh, h0⟩ := heldT_ex h
    obtain ⟨z, e3, h1⟩ := someP_ex h0
    obtain ⟨u, y, rfl, e4, e2⟩ := augG_inv e3
    have e4 : v = .f (.int y) := e4
    subst e4
    obtain ⟨s4, t4, e5, h2⟩ := askX_ex h1
    have e5 : (if attrOk P x s r.1 then attrPut s x (.f (.int z)) r.1 else none) = some s4 := e5
    by_cases hd : attrOk P x s r.1 = true
    ·rw [if_pos hd] at e5
     refine if_ok (by rw [eh, hd]; rfl) ?_
     rw [e2]
     show Ok ((attrPut s x (.f (.int z)) r.1).map fun st' => (Out.next, st')) k
     rw [e5]
     exact Ok.mk (tp := t4) h2
    ·rw [if_neg hd] at e5; cases e5
   ·rw [if_neg hc] at e1; cases e1
 | ifS c th el => exact (H.c h).bind fun _ _ h => askB_ok h (fun _ h => tB_ok H h) fun _ h => tB_ok H h
 | whileS n c b => exact loopT_ok h fun _ h => tWhile_ok H h
 | forS i e b =>
  exact (H.e h).bind fun r t h => by
   obtain ⟨v, s⟩ := r
   induction v with
   | f x => exact askX_ok h fun _ _ h => loopT_ok h fun _ h => tFor_ok H h
   | o j =>
    obtain ⟨l, e, h1⟩ := someP_ex h
    have e := listA_some e
    show Ok (match s.look j with
     | some (.list l) => (forLoop R i b l { s with led := s.led.filter fun p => p.1 != j, lent := j :: s.lent }).bind fun q => some (q.1, { q.2.put j (.list l) with lent := s.lent })
     | _ => Option.none) k
    rw [e]
    exact (loopT_ok h1 fun _ h => tFor_ok H h).bind fun _ t h => Ok.mk (tp := t) h
 | ret e gs => exact (H.e h).bind fun _ t h => someP_map (tp := t) h fun _ h => h
 | expr e => exact (H.e h).map fun _ _ h => h
 | frz j => exact someP_map (tp := tp) h fun _ h => h
 | stuck => exact (show False from h).elim
end
theorem trun_ok (P : Prg) : ∀ n, TS (trun P n) (run P n)
 | 0 => ⟨fun h => h.elim, fun h => h.elim, fun h => h.elim⟩
 | n + 1 => ⟨fun h => stepT_ok (trun_ok P n) h, fun h => stepTC_ok (trun_ok P n) h, fun h => stepTS_ok (trun_ok P n) h⟩
noncomputable section
noncomputable def endV (r : Out × St) : Option FV := match r with
 | (.next, st) => some .none
 | (.ret (.f v), st) => some v
 | (.ret (.o _), st) => none
noncomputable def endK (r : Out × St) : PV × Led × List Nat := match r with
 | (.next, st) => (.f .none, st.led, st.chg)
 | (.ret v, st) => (v, st.led, st.chg)
noncomputable def startSt (f : Nat) (args : List PV) (led : Led) : St := { loc := args.map some ++ List.replicate ((fnOf f).slots - (fnOf f).arity) Option.none, led := led, chg := [] }
noncomputable abbrev pr (f : Nat) : Prg := prgOf (Dn f) f
end
theorem tp_blk {P : Prg} {n : Nat} {b : List PS} {st st' : St} {o : Out} (tp : Tp) (h : (o, st') = (o, st') → tB (trun P n) b st tp fun o' s' _ => (o, st') = (o', s')) : evB (run P n) b st = some (o, st') := by
 obtain ⟨r, t, e, h⟩ := tB_ok (trun_ok P n) (h rfl)
 rw [e, h]
theorem tp_for {P : Prg} {n i : Nat} {b : List PS} {xs : List FV} {st st' : St} {o : Out} (tp : Tp) (h : (o, st') = (o, st') → tFor (trun P n) (run P n) i b (fun o' s' _ => (o, st') = (o', s')) xs st tp) : forLoop (run P n) i b xs st = some (o, st') := by
 obtain ⟨r, t, e, h⟩ := tFor_ok (trun_ok P n) (h rfl)
 rw [e, h]
theorem tp_forE {P : Prg} {n i : Nat} {b : List PS} {xs : List FV} {st : St} {o : Out} (tp : Tp) (h : o = o → tFor (trun P n) (run P n) i b (fun o' _ _ => o = o') xs st tp) : ∃ st', forLoop (run P n) i b xs st = some (o, st') := by
 obtain ⟨r, t, e, h⟩ := tFor_ok (trun_ok P n) (h rfl)
 rw [e, h]
 exact ⟨r.2, rfl⟩
theorem tp_while {P : Prg} {n m : Nat} {c : PE} {b : List PS} {st st' : St} {o : Out} (tp : Tp) (h : (o, st') = (o, st') → tWhile (trun P n) (run P n) c b (fun o' s' _ => (o, st') = (o', s')) m st tp) : whileLoop (run P n) c b m st = some (o, st') := by
 obtain ⟨r, t, e, h⟩ := tWhile_ok (trun_ok P n) (h rfl)
 rw [e, h]
theorem tp_whileE {P : Prg} {n m : Nat} {c : PE} {b : List PS} {st : St} {o : Out} (tp : Tp) (h : o = o → tWhile (trun P n) (run P n) c b (fun o' _ _ => o = o') m st tp) : ∃ st', whileLoop (run P n) c b m st = some (o, st') := by
 obtain ⟨r, t, e, h⟩ := tWhile_ok (trun_ok P n) (h rfl)
 rw [e, h]
 exact ⟨r.2, rfl⟩
theorem tp_comp {P : Prg} {n : Nat} {elt : PE} {xs l : List FV} {st st' : St} (tp : Tp) (h : (l, st') = (l, st') → tComp (trun P n) (run P n) elt xs st tp fun l' s' _ => (l, st') = (l', s')) : compLoop (run P n) elt xs st = some (l, st') := by
 obtain ⟨r, t, e, h⟩ := tComp_ok (trun_ok P n) (h rfl)
 rw [e, h]
theorem tp_e {P : Prg} {n : Nat} {e : PE} {st st' : St} {v : PV} (tp : Tp) (h : (v, st') = (v, st') → (trun P n).e e st tp fun v' s' _ => (v, st') = (v', s')) : (run P n).e e st = some (v, st') := by
 obtain ⟨r, t, e, h⟩ := (trun_ok P n).e (h rfl)
 rw [e, h]
theorem evB_app {E : Ev} {l2 : List PS} {r : Option (Out × St)} : ∀ {l1 : List PS} {st st1 : St}, evB E l1 st = some (.next, st1) → evB E l2 st1 = r → evB E (l1 ++ l2) st = r
 | [], st, st1, e1, e2 => by cases e1; exact e2
 | a :: l, st, st1, e1, e2 => by
  show (E.s a st).bind _ = r
  obtain ⟨q, h1, h2⟩ := Option.bind_eq_some_iff.mp (show (E.s a st).bind _ = _ from e1)
  rw [h1]
  obtain ⟨o, s⟩ := q
  induction o with
  | next => exact evB_app (l1 := l) h2 e2
  | ret v => cases h2
theorem runF_of {P : Prg} {fn : Fn} {args : List PV} {led : Led} {r : Out × St} (ha : args.length = fn.arity) (e : evB (run P 40) fn.body { loc := args.map some ++ List.replicate (fn.slots - fn.arity) Option.none, led := led, chg := [] } = some r) : runF P fn args led = some (endK r) := by
 unfold runF
 rw [if_pos ha, e]
 obtain ⟨o, s⟩ := r
 induction o <;> rfl
theorem tp_call {f j : Nat} {args : List PV} {led : Led} {q : PV × Led × List Nat} (hj : f < j) (ha : args.length = (fnOf f).arity) (tp : Tp) (h : q = q → tB (trun (pr f) 40) (fnOf f).body (startSt f args led) tp fun o' s' _ => q = endK (o', s')) : Dn j f args led = some q := by
 obtain ⟨r, t, e, h⟩ := tB_ok (trun_ok (pr f) 40) (h rfl)
 rw [Dn_lt hj, runF_of ha e, h]
theorem tp_fn {f j : Nat} {args : List PV} {v : FV} (hj : f < j) (ha : args.length = (fnOf f).arity) (tp : Tp) (h : some v = some v → tB (trun (pr f) 40) (fnOf f).body (startSt f args []) tp fun o' s' _ => some v = endV (o', s')) : D1 (Dn j) f args = some v := by
 obtain ⟨r, t, e, h⟩ := tB_ok (trun_ok (pr f) 40) (h rfl)
 unfold D1
 rw [Dn_lt hj, runF_of ha e, h]
 obtain ⟨o, s⟩ := r
 induction o with
 | next => rfl
 | ret v => induction v <;> rfl
noncomputable section
noncomputable def aVe {x : Option FV} {z : FV} (_ : x = some z) : An := aV z
noncomputable def aLe {x : Option (List FV)} {z : List FV} (_ : x = some z) : An := aL z
noncomputable def aQe {x : Option (PV × Led × List Nat)} {z : PV × Led × List Nat} (_ : x = some z) : An := aQ z
noncomputable def aOe {x : Option (Out × St)} {z : Out × St} (_ : x = some z) : An := aO z
noncomputable def aKe {x : Option (List FV × St)} {z : List FV × St} (_ : x = some z) : An := aK z
end
theorem kp {p q : Prop} (e : p = q) (h : p) : q := e.mp h
theorem aI {p q : Prop} (h : p) (k : q) : p ∧ q := ⟨h, k⟩
theorem aT : true = true := rfl
theorem aZ (n : Nat) (h : Nat.ble n 1000000 = true) : n ≤ 1000000 := Nat.le_of_ble_eq_true h
noncomputable def pool : List FV := [.none, .int 0, .int 1, .int (-1), .int 2, .int 127, .int 128, .int (-129), .int 70000, .int (2 ^ 40), .int (-2 ^ 63), .int (2 ^ 63 - 1),
 .str ⟨#[]⟩, .str ⟨#[97]⟩, .str ⟨#[65]⟩, .str ⟨#[97, 98]⟩, .str ⟨#[65, 98]⟩, .str ⟨#[98]⟩, .str ⟨#[97, 32]⟩, .str ⟨#[97, 32, 32]⟩, .str ⟨#[32, 97]⟩, .str ⟨#[66, 32]⟩, .str ⟨#[98, 32]⟩,
 .bytes [], .bytes [97], .bytes [0], .bytes [97, 255], .bytes [97, 98], .int 3, .int 4, .int 5, .int 6]
noncomputable def val (i : Nat) : FV := match pool[i]? with | some v => v | none => .none
noncomputable def colOf : Nat → FV
 | 0 => .str (Str.ofString "binary")
 | 1 => .str (Str.ofString "nocase")
 | _ => .str (Str.ofString "rtrim")
namespace FV
noncomputable def same : FV → FV → Bool
 | .none, .none => true
 | .bool a, .bool b => a == b
 | .int a, .int b => a == b
 | .str a, .str b => a.cps.toList == b.cps.toList
 | .bytes a, .bytes b => a == b
 | .barr a, .barr b => a == b
 | _, _ => false
theorem same_eq : ∀ {a b : FV}, same a b = true → a = b
 | .none, b, h => by induction b using FV.casesOn <;> first | rfl | exact nob h
 | .bool x, b, h => by induction b using FV.casesOn <;> first | (have h := eq_of_beq h; subst h; rfl) | exact nob h
 | .int x, b, h => by induction b using FV.casesOn <;> first | (have h := eq_of_beq h; subst h; rfl) | exact nob h
 | .str x, b, h => by
  cases b <;> first | cases h; done | skip
  rename_i y
  have h := eq_of_beq (show (x.cps.toList == y.cps.toList) = true from h)
  obtain ⟨⟨x⟩⟩ := x
  obtain ⟨⟨y⟩⟩ := y
  have h : x = y := h
  subst h; rfl
 | .bytes x, b, h => by induction b using FV.casesOn <;> first | (have h := eq_of_beq h; subst h; rfl) | exact nob h
 | .barr x, b, h => by induction b using FV.casesOn <;> first | (have h := eq_of_beq h; subst h; rfl) | exact nob h
 | .tup _, b, h => by induction b using FV.casesOn <;> exact nob h
 | .list _, b, h => by induction b using FV.casesOn <;> exact nob h
 | .rng .., b, h => by induction b using FV.casesOn <;> exact nob h
 | .inst .., b, h => by induction b using FV.casesOn <;> exact nob h
end FV
noncomputable def chk1 (f : Nat) (args : List FV) (v : FV) : Bool := match D1 (Dn (f + 1)) f (args.map .f) with
 | some w => FV.same w v
 | none => false
theorem chk1_ok {f j : Nat} {args : List FV} {v : FV} (h : chk1 f args v = true) (hj : f < j) : D1 (Dn j) f (args.map .f) = some v := by
 rw [D1_up hj]
 unfold chk1 at h
 split at h
 ·rename_i w e; rw [e, FV.same_eq h]
 ·exact nob h
noncomputable def rk : FV → Nat
 | .none => 0
 | .int _ => 1
 | .str _ => 2
 | _ => 3
noncomputable def foldL (c : Nat) (l : List Nat) : List Nat := match c with
 | 0 => l
 | 1 => l.map fun a => if 65 ≤ a && a ≤ 90 then a + 32 else a
 | _ => (l.reverse.dropWhile (· == 32)).reverse
noncomputable def keyV (i c : Nat) : FV := match val i with
 | .str s => .str ⟨⟨foldL c s.cps.toList⟩⟩
 | v => v
noncomputable def sgn (i j c : Nat) : Int :=
 if rk (val i) ≠ rk (val j) then (if rk (val i) < rk (val j) then -1 else 1)
 else if rk (val i) = 0 then 0
 else if FV.eqB (keyV i c) (keyV j c) = some true then 0 else if FV.ltB (keyV i c) (keyV j c) = some true then -1 else 1
noncomputable def kdT : List Nat := [0, 8, 9, 1, 1, 1, 2, 2, 3, 5, 6, 6, 13, 15, 15, 17, 17, 15, 17, 19, 17, 17, 17, 12, 14, 14, 16, 16, 1, 1, 1, 1]
noncomputable def bdT : List (List UInt8) := [[], [], [], [255], [2], [127], [0, 128], [255, 127], [1, 17, 112], [1, 0, 0, 0, 0, 0], [128, 0, 0, 0, 0, 0, 0, 0], [127, 255, 255, 255, 255, 255, 255, 255],
 [], [97], [65], [97, 98], [65, 98], [98], [97, 32], [97, 32, 32], [32, 97], [66, 32], [98, 32], [], [97], [0], [97, 255], [97, 98], [3], [4], [5], [6]]
noncomputable def u8 (n : Nat) : UInt8 := n.toUInt8
noncomputable def kd (i : Nat) : Nat := (kdT[i]?).getD 0
noncomputable def bd (i : Nat) : List UInt8 := (bdT[i]?).getD []
noncomputable def big8 (n : Nat) : List UInt8 := [(n / 2 ^ 56).toUInt8, (n / 2 ^ 48).toUInt8, (n / 2 ^ 40).toUInt8, (n / 2 ^ 32).toUInt8, (n / 2 ^ 24).toUInt8, (n / 2 ^ 16).toUInt8, (n / 2 ^ 8).toUInt8, n.toUInt8]
noncomputable def endedL : List UInt8 → List UInt8
 | [] => [0, 0]
 | b :: r => if b = 0 then 0 :: 255 :: endedL r else b :: endedL r
noncomputable def part (i c : Nat) : List UInt8 := match keyV i c with
 | .int n => 2 :: big8 ((n + 2 ^ 63).toNat)
 | .str s => 3 :: endedL (s.cps.toList.map Nat.toUInt8)
 | .bytes b => 4 :: endedL b
 | _ => [1]
theorem k_st : ((List.range 32).all fun i => chk1 13 [val i] (.int (kd i))) = true := by decide +kernel
theorem k_body : ((List.range 32).all fun i => chk1 15 [val i, .int (kd i)] (.bytes (bd i))) = true := by decide +kernel
theorem k_pv : ((List.range 32).all fun i => chk1 8 [.int i] (.bytes [u8 i])) = true := by decide +kernel
theorem k_hs : ((List.range 8).all fun i => chk1 17 [.int i] (.int (i + 1))) = true := by decide +kernel
theorem k_ss : ((List.range 32).all fun i => chk1 14 [.int (kd i)] (.int (bd i).length)) = true := by decide +kernel
theorem k_part : ((List.range 32).all fun i => (List.range 3).all fun c => chk1 27 [val i, colOf c] (.barr (part i c))) = true := by decide +kernel
theorem k_rank : ((List.range 32).all fun i => chk1 44 [val i] (.int (rk (val i)))) = true := by decide +kernel
theorem k_fold : ((List.range 11).all fun i => (List.range 3).all fun c => chk1 45 [val (12 + i), colOf c] (keyV (12 + i) c)) = true := by decide +kernel
theorem k_text : ((List.range 11).all fun i => chk1 3 [.bytes (bd (12 + i))] (val (12 + i))) = true := by decide +kernel
theorem k_kd : ((List.range 32).all fun i => decide (kd i < 32)) = true := by decide +kernel
theorem k_bd : ((List.range 32).all fun i => decide ((bd i).length ≤ 8)) = true := by decide +kernel
theorem all_at {n : Nat} {p : Nat → Bool} (h : (List.range n).all p = true) {i : Nat} (hi : i < n) : p i = true := List.all_eq_true.mp h i (List.mem_range.mpr hi)
theorem kd_lt {i : Nat} (h : i < 32) : kd i < 32 := of_decide_eq_true (all_at k_kd h)
theorem bd_le {i : Nat} (h : i < 32) : (bd i).length ≤ 8 := of_decide_eq_true (all_at k_bd h)
section
variable {i j : Nat} (hi : i < 32)
include hi
theorem s_st (hj : 13 < j) : D1 (Dn j) 13 [.f (val i)] = some (.int (kd i)) := chk1_ok (args := [val i]) (all_at k_st hi) hj
theorem s_body (hj : 15 < j) : D1 (Dn j) 15 [.f (val i), .f (.int (kd i))] = some (.bytes (bd i)) := chk1_ok (args := [val i, .int (kd i)]) (all_at k_body hi) hj
theorem s_pv (hj : 8 < j) : D1 (Dn j) 8 [.f (.int i)] = some (.bytes [u8 i]) := chk1_ok (args := [.int i]) (all_at k_pv hi) hj
theorem s_ss (hj : 14 < j) : D1 (Dn j) 14 [.f (.int (kd i))] = some (.int (bd i).length) := chk1_ok (args := [.int (kd i)]) (all_at k_ss hi) hj
theorem s_part {c : Nat} (hc : c < 3) (hj : 27 < j) : D1 (Dn j) 27 [.f (val i), .f (colOf c)] = some (.barr (part i c)) := chk1_ok (args := [val i, colOf c]) (all_at (all_at k_part hi) hc) hj
theorem s_rank (hj : 44 < j) : D1 (Dn j) 44 [.f (val i)] = some (.int (rk (val i))) := chk1_ok (args := [val i]) (all_at k_rank hi) hj
end
theorem s_hs {i j : Nat} (hi : i < 8) (hj : 17 < j) : D1 (Dn j) 17 [.f (.int i)] = some (.int (i + 1)) := chk1_ok (args := [.int i]) (all_at k_hs hi) hj
theorem s_fold {i c j : Nat} (h1 : 12 ≤ i) (h2 : i < 23) (hc : c < 3) (hj : 45 < j) : D1 (Dn j) 45 [.f (val i), .f (colOf c)] = some (keyV i c) := by
 have := all_at (all_at k_fold (i := i - 12) (by omega)) hc
 rw [show 12 + (i - 12) = i by exact O82] at this
 exact chk1_ok (args := [val i, colOf c]) this hj
theorem s_text {i j : Nat} (h1 : 12 ≤ i) (h2 : i < 23) (hj : 3 < j) : D1 (Dn j) 3 [.f (.bytes (bd i))] = some (val i) := by
 have := all_at k_text (i := i - 12) (by omega)
 rw [show 12 + (i - 12) = i by exact O82] at this
 exact chk1_ok (args := [.bytes (bd i)]) this hj
theorem lenA_ok {b : List UInt8} {n : Nat} (e : b.length = n) (h : n ≤ 1000000) : biFV .len [.barr b] = some (.int n) := by subst e; exact if_pos h
theorem lenL_ok {b : List FV} {n : Nat} (e : b.length = n) (h : n ≤ 1000000) : biFV .len [.list b] = some (.int n) := by subst e; exact if_pos h
theorem lenB_ok {b : List UInt8} {n : Nat} (e : b.length = n) (h : n ≤ 1000000) : biFV .len [.bytes b] = some (.int n) := by subst e; exact if_pos h
theorem bytesA_ok {b : List UInt8} (h : b.length ≤ 1000000) : biFV .bytes [.barr b] = some (.bytes b) := if_pos h
theorem addB_ok {b c : List UInt8} (h : b.length + c.length ≤ 1000000) : binFV .Add (.bytes b) (.bytes c) = some (.bytes (b ++ c)) := if_pos h
theorem addL_ok {b c : List FV} (h : b.length + c.length ≤ 1000000) : binFV .Add (.list b) (.list c) = some (.list (b ++ c)) := if_pos h
theorem enc_loop {a0 : Option PV} : ∀ (row : List Nat) (ts bs : List UInt8) (v0 k0 : Option PV), (∀ i ∈ row, i < 32) → ts.length + row.length ≤ 100 → bs.length + 8 * row.length ≤ 1000 →
  ∃ v1 k1, forLoop (run (pr 18) 39) 3 l_encode_record_0 (row.map val) { loc := [a0, some (.o 10), some (.o 11), v0, k0], led := [(10, .barr ts), (11, .barr bs)], chg := [], lent := [] } =
   some (.next, { loc := [a0, some (.o 10), some (.o 11), v1, k1], led := [(10, .barr (ts ++ row.map fun i => u8 (kd i))), (11, .barr (bs ++ (row.map bd).flatten))], chg := [], lent := [] }) := by
 intro row
 induction row with
 | nil => exact fun ts bs v0 k0 _ _ _ => ⟨v0, k0, by simp only [List.map_nil, List.flatten_nil, List.append_nil]; rfl⟩
 | cons i row rc =>
  intro ts bs v0 k0 h h1 h2
  have hi : i < 32 := h i (List.mem_cons_self ..)
  have hb := bd_le hi
  rw [List.length_cons] at h1 h2
  obtain ⟨v1, k1, ih⟩ := rc (ts ++ [u8 (kd i)]) (bs ++ bd i) (some (.f (val i))) (some (.f (.int (kd i)))) (fun j hj => h j (List.mem_cons_of_mem _ hj)) (by rw [List.length_append]; show ts.length + 1 + _ ≤ _; exact O52) (by rw [List.length_append]; omega)
  rw [List.append_assoc, List.append_assoc] at ih
  refine ⟨v1, k1, ?_⟩
  exact tp_for [aV _, aV _, aV _, aO _] fun fin => (aI (s_st hi (j := 18) (by decide)) <| aI (s_pv (kd_lt hi) (j := 18) (by decide)) <| aI aT <| aI ((by exact O20) : ts.length + 1 ≤ 1000000) <| aI (s_body hi (j := 18) (by decide)) <| aI aT <| aI ((by omega) : bs.length + (bd i).length ≤ 1000000) <| aI ih <| fin :)
noncomputable def enc (row : List Nat) : List UInt8 := u8 (row.length + 1) :: (row.map fun i => u8 (kd i)) ++ (row.map bd).flatten
theorem bds_le : ∀ (row : List Nat), (∀ i ∈ row, i < 32) → (row.map bd).flatten.length ≤ 8 * row.length
 | [], _ => Nat.le_refl _
 | i :: row, h => by
  have := bds_le row fun j hj => h j (List.mem_cons_of_mem _ hj)
  have := bd_le (h i (List.mem_cons_self ..))
  rw [List.map_cons, List.flatten_cons, List.length_append, List.length_cons]
  omega
theorem s_enc {j : Nat} (hj : 18 < j) {row : List Nat} (h : ∀ i ∈ row, i < 32) (hl : row.length ≤ 6) : D1 (Dn j) 18 [.f (.list (row.map val))] = some (.bytes (enc row)) := by
 obtain ⟨v1, k1, hlp⟩ := enc_loop (a0 := some (.f (.list (row.map val)))) row [] [] none none h (by simp; exact O1) (by simp; omega)
 have := bds_le row h
 have ht : (row.map fun i => u8 (kd i)).length = row.length := List.length_map ..
 exact tp_fn hj rfl [aC, aO _, aV _, aV _, aV _, aV _, aV _, aV _, aV _] fun fin => (aI aT <| aI aT <| aI hlp <| aI (lenA_ok ht O1 : biFV .len [.barr (row.map fun i => u8 (kd i))] = some (.int row.length)) <| aI (s_hs (i := row.length) (j := 18) O2 (by decide)) <| aI (s_pv (i := row.length + 1) O23 (j := 18) (by decide) : D1 (Dn 18) 8 [.f (.int ((row.length : Int) + 1))] = some (.bytes [u8 (row.length + 1)])) <| aI (bytesA_ok O14 : biFV .bytes [.barr (row.map fun i => u8 (kd i))] = some (.bytes (row.map fun i => u8 (kd i)))) <| aI (addB_ok (by show 1 + _ ≤ _; omega) : binFV .Add (.bytes [u8 (row.length + 1)]) (.bytes (row.map fun i => u8 (kd i))) = some (.bytes ([u8 (row.length + 1)] ++ row.map fun i => u8 (kd i)))) <| aI (bytesA_ok (by omega) : biFV .bytes [.barr (row.map bd).flatten] = some (.bytes (row.map bd).flatten)) <| aI (addB_ok (by rw [List.length_append]; show 1 + _ + _ ≤ _; omega) : binFV .Add (.bytes ([u8 (row.length + 1)] ++ row.map fun i => u8 (kd i))) (.bytes (row.map bd).flatten) = some (.bytes (enc row))) <| fin :)
theorem u8_nat {n : Nat} (h : n < 256) : (u8 n).toNat = n := by
 unfold u8
 show (UInt8.ofNat n).toNat = n
 simp [UInt8.toNat_ofNat', Nat.mod_eq_of_lt h]
theorem rng_nat {a s : Nat} (h : a + s < 1000000000) : itemsFV (.rng (a : Int) ((a : Int) + (s : Int)) 1) = some ((List.range' a s).map fun (k : Nat) => FV.int (k : Int)) := by
 show rngList (a : Int) ((a : Int) + (s : Int)) 1 = _
 unfold rngList
 rw [if_pos ⟨.inl rfl, by omega, by assumption⟩]
 have : (PySem.Builtin.Range.rangeSize (a : Int) ((a : Int) + (s : Int)) 1).toNat = s := by
  unfold PySem.Builtin.Range.rangeSize
  rw [if_pos (by decide)]
  split
  ·rw [Int.ediv_one]; omega
  ·omega
 rw [this, List.range'_eq_map_range, List.map_map]
 congr 1
 refine List.map_congr_left fun k _ => ?_
 simp only [Function.comp]
 congr 1
 omega
theorem rng_nat0 {s : Nat} (h : s < 1000000000) : itemsFV (.rng 0 (s : Int) 1) = some ((List.range' 0 s).map fun (k : Nat) => FV.int (k : Int)) := by
 have := rng_nat (a := 0) (s := s) (by omega)
 rwa [show ((0 : Nat) : Int) + (s : Int) = (s : Int) by omega, show ((0 : Nat) : Int) = 0 from rfl] at this
theorem or7 : ((List.range 32).all fun n => decide (PySem.Builtin.bitOr (0 * 2 ^ 7) (PySem.Builtin.bitAnd (n : Int) 127) = (n : Int))) = true := by decide +kernel
theorem idxG_ok {x : FV} {i : Int} {v : FV} (h : i.natAbs < 2 ^ 62) (e : idxFV x i = some v) : idxG x (.f (.int i)) = some v := by
 show (if decide (i.natAbs < 2 ^ 62) = true then idxFV x i else none) = _
 rw [decide_eq_true h]; exact e
theorem placeOf_nat {k n : Nat} (h : k < n) : placeOf (k : Int) n = some k := by
 unfold placeOf
 rw [if_pos (Int.natCast_nonneg k), if_pos (Int.ofNat_lt.mpr h)]; rfl
theorem idxB_ok {o : List UInt8} {p : Nat} {b : UInt8} (ho : o.length ≤ 1000000) (hp : o[p]? = some b) : idxG (.bytes o) (.f (.int p)) = some (.int (b.toNat : Int)) := by
 have hlt : p < o.length := (List.getElem?_eq_some_iff.mp hp).1
 refine idxG_ok (show p < _ by exact O9) ?_
 show (if o.length ≤ 1000000 then (placeOf p o.length).bind fun k => (o[k]?).map fun c => FV.int (c.toNat : Int) else none) = _
 rw [if_pos ho, placeOf_nat hlt]
 show (o[p]?).map _ = _
 rw [hp]; rfl
theorem idxL_ok {l : List FV} {k : Nat} {v : FV} (hk : k < 2 ^ 62) (h : l[k]? = some v) : idxG (.list l) (.f (.int k)) = some v := by
 refine idxG_ok hk ?_
 show (placeOf k l.length).bind _ = _
 rw [placeOf_nat (List.getElem?_eq_some_iff.mp h).1]; exact h
theorem s_gv {j : Nat} (hj : 9 < j) {o : List UInt8} {p n : Nat} (ho : o.length ≤ 1000000) (hp : o[p]? = some (u8 n)) (hn : n < 32) : D1 (Dn j) 9 [.f (.bytes o), .f (.int p)] = some (.tup [.int n, .int ((p : Int) + 1)]) := by
 have hlt : p < o.length := (List.getElem?_eq_some_iff.mp hp).1
 have e1 := idxB_ok ho hp
 rw [u8_nat O1] at e1
 have e4 : ((n : Int) < 128) := by exact O41
 have e5 : ¬ ((p : Int) ≥ (o.length : Int)) := by omega
 exact tp_fn hj rfl [aC, aL _, aC, aV _, aC, aN, aV _, aC, aC, aC, aC, aV _, aC, aY] fun fin => (aI ((by rfl) : itemsFV (.rng 0 9 1) = some [.int 0, .int 1, .int 2, .int 3, .int 4, .int 5, .int 6, .int 7, .int 8]) <| aI (lenB_ok (b := o) rfl ho) <| aI (decide_eq_false e5) <| aI e1 <| aI (congrArg (fun x => some (FV.int x)) (of_decide_eq_true (all_at or7 hn)) : binFV .BitOr (.int 0) (.int (PySem.Builtin.bitAnd (n : Int) 127)) = some (.int n)) <| aI (decide_eq_true e4) <| fin :)
theorem head_loop {o : List UInt8} (ho : o.length ≤ 1000000) {e : Nat} : ∀ (ks : List Nat) (m p : Nat) (ts : List FV) (k0 : Option PV), ks.length < m → (∀ (k x : Nat), ks[k]? = some x → o[p + k]? = some (u8 x) ∧ x < 32) → e = p + ks.length → ts.length + ks.length ≤ 100 →
  ∃ k1, whileLoop (run (pr 19) 39) c_head_of_0 l_head_of_0 m { loc := [some (.f (.bytes o)), some (.f (.int e)), some (.f (.int p)), some (.o 10), k0], led := [(10, .list ts)], chg := [], lent := [] } =
   some (.next, { loc := [some (.f (.bytes o)), some (.f (.int e)), some (.f (.int e)), some (.o 10), k1], led := [(10, .list (ts ++ ks.map fun (x : Nat) => FV.int x))], chg := [], lent := [] }) := by
 intro ks
 induction ks with
 | nil =>
  intro m p ts k0 hm _ he _
  induction m using Nat.casesOn with
  | zero => exact absurd hm (Nat.not_lt_zero _)
  | succ m =>
  have he : e = p := he
  subst he
  refine ⟨k0, ?_⟩
  have e1 : ¬ ((e : Int) < (e : Int)) := Int.lt_irrefl _
  rw [List.map_nil, List.append_nil]
  exact tp_while [aC, aN] fun fin => (aI (decide_eq_false e1) <| fin :)
 | cons x ks rc =>
  intro m p ts k0 hm hk he hl
  induction m using Nat.casesOn with
  | zero => exact absurd hm (Nat.not_lt_zero _)
  | succ m =>
  rw [List.length_cons] at hm he hl
  obtain ⟨h1, h2⟩ := hk 0 x rfl
  obtain ⟨k1, ih⟩ := rc m (p + 1) (ts ++ [.int x]) (some (.f (.int x))) O27 (fun k y h => by
   have := hk (k + 1) y h
   rwa [show p + (k + 1) = p + 1 + k by exact O25] at this) (by omega) (by rw [List.length_append]; show ts.length + 1 + _ ≤ _; exact O52)
  rw [List.append_assoc] at ih
  refine ⟨k1, ?_⟩
  have e1 : ((p : Int) < (e : Int)) := by omega
  exact tp_while [aC, aY, aV _, aO _] fun fin => (aI (decide_eq_true e1) <| aI (s_gv (j := 19) (by decide) ho h1 h2) <| aI aT <| aI ((by exact O19) : ts.length ≤ 1000000) <| aI ih <| fin :)
theorem enc_at0 {row : List Nat} : (enc row)[0]? = some (u8 (row.length + 1)) := rfl
theorem enc_kd {row : List Nat} {k x : Nat} (h : (row.map kd)[k]? = some x) : (enc row)[1 + k]? = some (u8 x) := by
 rw [List.getElem?_map, Option.map_eq_some_iff] at h
 obtain ⟨i, hi, rfl⟩ := h
 have hk : k < row.length := (List.getElem?_eq_some_iff.mp hi).1
 unfold enc
 rw [List.cons_append, Nat.add_comm 1 k, List.getElem?_cons_succ, List.getElem?_append_left (by rw [List.length_map]; exact hk), List.getElem?_map, hi]
 rfl
theorem enc_length {row : List Nat} : (enc row).length = row.length + 1 + (row.map bd).flatten.length := by
 unfold enc
 rw [List.length_append, List.length_cons, List.length_map]
theorem enc_len {row : List Nat} (h : ∀ i ∈ row, i < 32) (hl : row.length ≤ 6) : (enc row).length ≤ 100 := by
 have := bds_le row h
 rw [enc_length]
 omega
theorem s_head {j : Nat} (hj : 19 < j) {row : List Nat} (h : ∀ i ∈ row, i < 32) (hl : row.length ≤ 6) :
  D1 (Dn j) 19 [.f (.bytes (enc row))] = some (.tup [.list ((row.map kd).map fun (x : Nat) => FV.int x), .int (row.length + 1)]) := by
 have ho := enc_len h hl
 have hm : (row.map kd).length = row.length := List.length_map ..
 obtain ⟨k1, e2⟩ := head_loop (o := enc row) O1 (e := row.length + 1) (row.map kd) 60 1 [] none (by omega) (fun k x hx => ⟨enc_kd hx, by
  obtain ⟨i, hi, rfl⟩ := List.mem_map.mp (List.mem_of_getElem? hx)
  exact kd_lt (h i hi)⟩) (by omega) (by show 0 + _ ≤ _; omega)
 have hle : row.length + 1 ≤ (enc row).length := by rw [enc_length]; exact O61
 have e4 : ¬ (((row.length + 1 : Nat) : Int) > ((enc row).length : Int)) := by exact O39
 have e5 : ¬ (((row.length + 1 : Nat) : Int) < 0 + 1) := by exact O34
 have e6 : (((row.length + 1 : Nat) : Int) == ((row.length + 1 : Nat) : Int)) = true := beq_self_eq_true _
 exact tp_fn hj rfl [aV _, aV _, aC, aN, aC, aC, aC, aO _, aC, aN] fun fin => (aI (s_gv (j := 19) (p := 0) (n := row.length + 1) (by decide) (o := enc row) O1 enc_at0 O23) <| aI (lenB_ok (b := enc row) rfl O1) <| aI (decide_eq_false e4) <| aI aT <| aI e2 <| aI ((by rw [e6]; rfl) : (!((row.length + 1 : Nat) : Int) == ((row.length + 1 : Nat) : Int)) = false) <| fin :)
noncomputable def fixL (n : Int) : List UInt8 → Int
 | [] => n
 | b :: r => fixL (PySem.Builtin.bitOr (n * 2 ^ 8) (b.toNat : Int)) r
noncomputable def fixOk (n : Int) : List UInt8 → Bool
 | [] => true
 | b :: r => decide (n.natAbs < 2 ^ 64) && fixOk (PySem.Builtin.bitOr (n * 2 ^ 8) (b.toNat : Int)) r
noncomputable def fixV (bs : List UInt8) : Int := if fixL 0 bs ≥ (256 ^ bs.length : Int).fdiv 2 then fixL 0 bs - 256 ^ bs.length else fixL 0 bs
theorem fix_all : ((List.range 32).all fun i => (0 < kd i && kd i < 12 && kd i != 8 && kd i != 9) == (3 ≤ i && i < 12 || 28 ≤ i) && (!(3 ≤ i && i < 12 || 28 ≤ i) || (fixOk 0 (bd i) && decide (0 < (bd i).length) && FV.same (val i) (.int (fixV (bd i)))))) = true := by decide +kernel
theorem fix_loop {o : List UInt8} (ho : o.length ≤ 1000) {a1 a2 : Option PV} : ∀ (bs : List UInt8) (p : Nat) (n : Int) (v0 : Option PV), (∀ (k : Nat) (b : UInt8), bs[k]? = some b → o[p + k]? = some b) → fixOk n bs = true →
  ∃ v1, forLoop (run (pr 11) 39) 4 l_get_fixed_0 ((List.range' p bs.length).map fun (k : Nat) => FV.int (k : Int)) { loc := [some (.f (.bytes o)), a1, a2, some (.f (.int n)), v0], led := [], chg := [], lent := [] } =
   some (.next, { loc := [some (.f (.bytes o)), a1, a2, some (.f (.int (fixL n bs))), v1], led := [], chg := [], lent := [] }) := by
 intro bs
 induction bs with
 | nil => exact fun p n v0 _ _ => ⟨v0, rfl⟩
 | cons b bs rc =>
  intro p n v0 h hn
  rw [fixOk, Bool.and_eq_true, decide_eq_true_eq] at hn
  obtain ⟨h1, h2⟩ := hn
  obtain ⟨v1, ih⟩ := rc (p + 1) _ (some (.f (.int p))) (fun k c hc => by
   have := h (k + 1) c hc
   rwa [show p + (k + 1) = p + 1 + k by exact O25] at this) h2
  refine ⟨v1, ?_⟩
  exact tp_for [aV _, aV _, aC, aO _] fun fin => (aI (if_pos ⟨by decide, by decide, h1⟩ : binFV .LShift (.int n) (.int 8) = some (.int (n * 2 ^ 8))) <| aI (idxB_ok O1 (h 0 b rfl)) <| aI ih <| fin :)
theorem s_gf {j : Nat} (hj : 11 < j) {o bs : List UInt8} {p : Nat} (ho : o.length ≤ 1000) (h : ∀ (k : Nat) (b : UInt8), bs[k]? = some b → o[p + k]? = some b) (h1 : fixOk 0 bs = true) (h2 : 0 < bs.length) (h3 : bs.length ≤ 8) (hpl : p ≤ 1000) :
  D1 (Dn j) 11 [.f (.bytes o), .f (.int p), .f (.int bs.length)] = some (.int (fixV bs)) := by
 obtain ⟨v1, e1⟩ := fix_loop ho (a1 := some (.f (.int p))) (a2 := some (.f (.int bs.length))) bs p 0 none h h1
 have e2 := rng_nat (a := p) (s := bs.length) (by omega)
 have e3 : binFV .Pow (.int 256) (.int bs.length) = some (.int (256 ^ bs.length)) := if_pos ⟨by exact O35, by exact O42, by decide⟩
 have e4 : (bs.length : Int) > 0 := by exact O36
 unfold fixV
 by_cases e5 : fixL 0 bs ≥ ((256 : Int) ^ bs.length).fdiv 2
 ·rw [if_pos e5]
  exact tp_fn hj rfl [aC, aC, aL _, aO _, aC, aY, aV _, aC, aC, aY, aC, aV _, aC] fun fin => (aI e2 <| aI e1 <| aI (decide_eq_true e4) <| aI e3 <| aI (decide_eq_true e5) <| aI e3 <| fin :)
 ·rw [if_neg e5]
  exact tp_fn hj rfl [aC, aC, aL _, aO _, aC, aY, aV _, aC, aC, aN, aC] fun fin => (aI e2 <| aI e1 <| aI (decide_eq_true e4) <| aI e3 <| aI (decide_eq_false e5) <| fin :)
theorem slice_nat {α : Type} {l : List α} {a b : Nat} (hb : b ≤ l.length) (ha : a ≤ b) : sliceOf l (some (a : Int)) (some (b : Int)) = (l.drop a).take (b - a) := by
 unfold sliceOf
 have e1 : ¬ ((a : Int) < 0) := by exact O34
 have e2 : ¬ ((b : Int) < 0) := by exact O34
 have e3 : min (a : Int) (l.length : Int) = a := by omega
 have e4 : min (b : Int) (l.length : Int) = b := by omega
 simp only [Option.map_some, Option.getD_some, e1, e2, if_false, e3, e4]
 rw [Int.toNat_natCast, show ((b : Int) - (a : Int)).toNat = b - a by omega]
theorem sub_slice {o bs : List UInt8} {p : Nat} (h : ∀ (k : Nat) (b : UInt8), bs[k]? = some b → o[p + k]? = some b) (hl : p + bs.length ≤ o.length) : (o.drop p).take bs.length = bs := by
 apply List.ext_getElem?
 intro k
 by_cases hk : k < bs.length
 ·rw [List.getElem?_take_of_lt hk, List.getElem?_drop]
  have := List.getElem?_eq_getElem hk
  rw [this]
  exact h k _ this
 ·rw [List.getElem?_take_eq_none O30, List.getElem?_eq_none O30]
theorem cl_str : ((List.range 32).all fun i => !(12 ≤ i && i < 23) || (decide (13 ≤ kd i) && decide (kd i % 2 = 1))) = true := by decide +kernel
theorem cl_byt : ((List.range 32).all fun i => !(23 ≤ i && i < 28) || (decide (12 ≤ kd i) && decide (kd i % 2 = 0) && FV.same (val i) (.bytes (bd i)))) = true := by decide +kernel
theorem or_of {a b : Bool} (h : (!a || b) = true) (ha : a = true) : b = true := by
 induction a with
 | true => exact h
 | false => exact nob ha
theorem between {a b i : Nat} (h1 : a ≤ i) (h2 : i < b) : (decide (a ≤ i) && decide (i < b)) = true := by rw [decide_eq_true h1, decide_eq_true h2]; rfl
theorem eqI_no {a b : Int} (h : ¬ a = b) : (a == b) = false := beq_false_of_ne h
theorem neI_yes {a b : Int} (h : ¬ a = b) : (!(a == b)) = true := by rw [eqI_no h]; rfl
theorem fmod_nat {k : Nat} : ((k : Int)).fmod 2 = ((k % 2 : Nat) : Int) := by rw [Int.fmod_eq_emod_of_nonneg _ (by decide)]; omega
theorem sl_body {o bs : List UInt8} {p : Nat} (ho : o.length ≤ 1000) (hp : 0 < p) (h : ∀ (k : Nat) (b : UInt8), bs[k]? = some b → o[p + k]? = some b) (hl : p + bs.length ≤ o.length) :
  sliceFV (.bytes o) (some (p : Int)) (some ((p : Int) + (bs.length : Int))) = some (.bytes bs) := by
 have f6 : sliceOf o (some (p : Int)) (some ((p : Int) + (bs.length : Int))) = bs := by
  have := slice_nat (l := o) (a := p) (b := p + bs.length) (by assumption) O61
  rw [Int.natCast_add] at this
  rw [this, Nat.add_sub_cancel_left]
  exact sub_slice h hl
 show (if o.length ≤ 1000000 ∧ (sliceOf o (some (p : Int)) (some ((p : Int) + (bs.length : Int)))).length ≠ o.length then _ else none) = _
 rw [f6]
 exact if_pos ⟨by exact O1, by omega⟩
theorem inC_no {k : Nat} (h1 : ¬ (k : Int) = 8) (h2 : ¬ (k : Int) = 9) : inC (.int k) (.tup [.int 8, .int 9]) = some false := by
 show (if true = true then some ((FV.asI (.int 8) == some (k : Int)) || ((FV.asI (.int 9) == some (k : Int)) || false)) else none) = some false
 rw [if_pos rfl, show (FV.asI (.int 8) == some (k : Int)) = false from beq_eq_false_iff_ne.mpr fun e => h1 (Option.some.inj e).symm, show (FV.asI (.int 9) == some (k : Int)) = false from beq_eq_false_iff_ne.mpr fun e => h2 (Option.some.inj e).symm]; rfl
theorem s_val {j : Nat} (hj : 16 < j) {i : Nat} (hi : i < 32) {o : List UInt8} {p : Nat} (ho : o.length ≤ 1000) (hp : 0 < p) (h : ∀ (k : Nat) (b : UInt8), (bd i)[k]? = some b → o[p + k]? = some b) (hl : p + (bd i).length ≤ o.length) :
  D1 (Dn j) 16 [.f (.bytes o), .f (.int p), .f (.int (kd i))] = some (val i) := by
 have e1 := s_ss hi (j := 16) (by decide)
 have e2 := lenB_ok (b := o) rfl O1
 have e3 : ¬ ((p : Int) + ((bd i).length : Int) > (o.length : Int)) := by exact O39
 have e4 := sl_body ho hp h hl
 have e5 : biFV .bytes [.bytes (bd i)] = some (.bytes (bd i)) := rfl
 have g1 : p < 2 ^ 62 := by exact O58
 have g2 : ((p : Int) + ((bd i).length : Int)).natAbs < 2 ^ 62 := by exact O11
 by_cases h0 : i = 0
 ·subst h0
  exact tp_fn hj rfl [aV _, aC, aV _, aC, aN, aC, aC] fun fin => (aI e1 <| aI e2 <| aI (decide_eq_false e3) <| fin :)
 by_cases h1 : i = 1
 ·subst h1
  exact tp_fn hj rfl [aV _, aC, aV _, aC, aN, aC, aC, aC, aC] fun fin => (aI e1 <| aI e2 <| aI (decide_eq_false e3) <| fin :)
 by_cases h2 : i = 2
 ·subst h2
  exact tp_fn hj rfl [aV _, aC, aV _, aC, aN, aC, aC, aC, aC, aC, aC] fun fin => (aI e1 <| aI e2 <| aI (decide_eq_false e3) <| fin :)
 by_cases h3 : (12 ≤ i ∧ i < 23)
 ·have c := or_of (all_at cl_str hi) (between h3.1 h3.2)
  rw [Bool.and_eq_true, decide_eq_true_eq, decide_eq_true_eq] at c
  have f1 := eqI_no (a := kd i) (b := 0) (by omega)
  have f2 := eqI_no (a := kd i) (b := 8) (by omega)
  have f3 := eqI_no (a := kd i) (b := 9) (by omega)
  have f4 : ¬ ((kd i : Int) < 12) := by omega
  have f5 : binFV .Mod (.int (kd i)) (.int 2) = some (.int ((1 : Nat) : Int)) := by rw [← c.2, ← fmod_nat]; rfl
  exact tp_fn hj rfl [aV _, aC, aV _, aC, aN, aC, aN, aC, aN, aC, aN, aC, aN, aC, aV _, aV _, aV _, aC, aC, aV _] fun fin => (aI e1 <| aI e2 <| aI (decide_eq_false e3) <| aI f1 <| aI f2 <| aI f3 <| aI (decide_eq_false f4) <| aI (decide_eq_true g1) <| aI (decide_eq_true g2) <| aI e4 <| aI e5 <| aI f5 <| aI (s_text h3.1 h3.2 (j := 16) (by decide)) <| fin :)
 by_cases h4 : (23 ≤ i ∧ i < 28)
 ·have c := or_of (all_at cl_byt hi) (between h4.1 h4.2)
  rw [Bool.and_eq_true, Bool.and_eq_true, decide_eq_true_eq, decide_eq_true_eq] at c
  rw [FV.same_eq c.2]
  have f1 := eqI_no (a := kd i) (b := 0) (by omega)
  have f2 := eqI_no (a := kd i) (b := 8) (by omega)
  have f3 := eqI_no (a := kd i) (b := 9) (by omega)
  have f4 : ¬ ((kd i : Int) < 12) := by omega
  have f5 : binFV .Mod (.int (kd i)) (.int 2) = some (.int ((0 : Nat) : Int)) := by rw [← c.1.2, ← fmod_nat]; rfl
  exact tp_fn hj rfl [aV _, aC, aV _, aC, aN, aC, aN, aC, aN, aC, aN, aC, aN, aC, aV _, aV _, aV _, aC, aC] fun fin => (aI e1 <| aI e2 <| aI (decide_eq_false e3) <| aI f1 <| aI f2 <| aI f3 <| aI (decide_eq_false f4) <| aI (decide_eq_true g1) <| aI (decide_eq_true g2) <| aI e4 <| aI e5 <| aI f5 <| fin :)
 ·have c := all_at fix_all hi
  have hb : ((decide (3 ≤ i) && decide (i < 12)) || decide (28 ≤ i)) = true := by
   simp only [Bool.or_eq_true, Bool.and_eq_true, decide_eq_true_eq]; omega
  simp only [hb, Bool.not_true, Bool.false_or, Bool.and_eq_true, beq_iff_eq, decide_eq_true_eq, bne_iff_ne] at c
  obtain ⟨⟨⟨⟨c1, c2⟩, c3⟩, c4⟩, ⟨c5, c6⟩, c7⟩ := c
  rw [FV.same_eq c7]
  have f1 := eqI_no (a := kd i) (b := 0) (by omega)
  have f2 := eqI_no (a := kd i) (b := 8) O40
  have f3 := eqI_no (a := kd i) (b := 9) O40
  have f4 : ((kd i : Int) < 12) := by exact O36
  exact tp_fn hj rfl [aV _, aC, aV _, aC, aN, aC, aN, aC, aN, aC, aN, aC, aY, aV _] fun fin => (aI e1 <| aI e2 <| aI (decide_eq_false e3) <| aI f1 <| aI f2 <| aI f3 <| aI (decide_eq_true f4) <| aI (s_gf (j := 16) (by decide) ho h c5 c6 (bd_le hi) O57) <| fin :)
theorem dec_loop {o : List UInt8} (ho : o.length ≤ 1000) {a1 : Option PV} : ∀ (row : List Nat) (p : Nat) (ts : List FV) (k0 : Option PV), (∀ i ∈ row, i < 32) → 0 < p → (∀ (k : Nat) (b : UInt8), ((row.map bd).flatten)[k]? = some b → o[p + k]? = some b) → p + (row.map bd).flatten.length ≤ o.length → ts.length + row.length ≤ 100 →
  ∃ k1, forLoop (run (pr 20) 39) 4 l_decode_record_0 ((row.map kd).map fun (x : Nat) => FV.int x) { loc := [some (.f (.bytes o)), a1, some (.f (.int p)), some (.o 10), k0], led := [(10, .list ts)], chg := [], lent := [] } =
   some (.next, { loc := [some (.f (.bytes o)), a1, some (.f (.int (p + (row.map bd).flatten.length : Nat))), some (.o 10), k1], led := [(10, .list (ts ++ row.map val))], chg := [], lent := [] }) := by
 intro row
 induction row with
 | nil => exact fun p ts k0 _ _ _ _ _ => ⟨k0, by simp only [List.map_nil, List.append_nil]; rfl⟩
 | cons i row rc =>
  intro p ts k0 h hp hs hl ht
  have hi : i < 32 := h i (List.mem_cons_self ..)
  rw [show p + (List.map bd (i :: row)).flatten.length = p + ((bd i).length + (row.map bd).flatten.length) by rw [List.map_cons, List.flatten_cons, List.length_append]]
  rw [List.map_cons, List.flatten_cons] at hs hl
  rw [List.length_append] at hl
  rw [List.length_cons] at ht
  obtain ⟨k1, ih⟩ := rc (p + (bd i).length) (ts ++ [val i]) (some (.f (.int (kd i)))) (fun j hj => h j (List.mem_cons_of_mem _ hj)) O47 (fun k b hk => by
   have := hs ((bd i).length + k) b (by rw [List.getElem?_append_right O61, Nat.add_sub_cancel_left]; exact hk)
   rwa [← Nat.add_assoc] at this) O50 (by rw [List.length_append]; show ts.length + 1 + _ ≤ _; exact O52)
  refine ⟨k1, ?_⟩
  rw [List.append_assoc, Nat.add_assoc] at ih
  exact tp_for [aV _, aV _, aO _] fun fin => (aI (s_val (j := 20) (by decide) hi ho hp (fun k b hk => hs k b (by rw [List.getElem?_append_left (List.getElem?_eq_some_iff.mp hk).1]; exact hk)) O51) <| aI aT <| aI ((by exact O19) : ts.length ≤ 1000000) <| aI (s_ss hi (j := 20) (by decide)) <| aI ih <| fin :)
theorem enc_body {row : List Nat} {k : Nat} {b : UInt8} (h : ((row.map bd).flatten)[k]? = some b) : (enc row)[row.length + 1 + k]? = some b := by
 unfold enc
 rw [List.getElem?_append_right (by rw [List.length_cons, List.length_map]; exact O61), List.length_cons, List.length_map, Nat.add_sub_cancel_left]
 exact h
theorem s_dec {j : Nat} (hj : 20 < j) {row : List Nat} (h : ∀ i ∈ row, i < 32) (hl : row.length ≤ 6) : D1 (Dn j) 20 [.f (.bytes (enc row))] = some (.list (row.map val)) := by
 have ho := enc_len h hl
 obtain ⟨k1, e2⟩ := dec_loop (o := enc row) O1 (a1 := some (.f (.list ((row.map kd).map fun (x : Nat) => FV.int x)))) row (row.length + 1) [] none h O46 (fun k b hk => enc_body hk) (by rw [enc_length]; omega) (by show 0 + _ ≤ _; exact O24)
 rw [← enc_length] at e2
 exact tp_fn hj rfl [aV _, aC, aO _, aV _, aC, aN] fun fin => (aI (s_head (j := 20) (by decide) h hl) <| aI aT <| aI e2 <| aI (lenB_ok (b := enc row) rfl O1) <| aI ((by rw [beq_self_eq_true]; rfl) : (!(((enc row).length : Int) == ((enc row).length : Int))) = false) <| fin :)
noncomputable def colR (o : Option Nat) : Out := match o with
 | some i => .ret (.f (val i))
 | none => .next
theorem col_loop {o : List UInt8} (ho : o.length ≤ 1000) {e q : Nat} : ∀ (row : List Nat) (m pl p c : Nat) (k0 : Option PV), row.length < m → (∀ i ∈ row, i < 32) → (∀ (k x : Nat), (row.map kd)[k]? = some x → o[pl + k]? = some (u8 x) ∧ x < 32) → 0 < p →
  (∀ (k : Nat) (b : UInt8), ((row.map bd).flatten)[k]? = some b → o[p + k]? = some b) → p + (row.map bd).flatten.length ≤ o.length → e = pl + row.length → c ≤ q →
  ∃ st, whileLoop (run (pr 21) 39) c_record_column_0 l_record_column_0 m { loc := [some (.f (.bytes o)), some (.f (.int q)), some (.f (.int e)), some (.f (.int pl)), some (.f (.int p)), some (.f (.int c)), k0], led := [], chg := [], lent := [] } = some (colR (row[q - c]?), st) := by
 intro row
 induction row with
 | nil =>
  intro m pl p c k0 hm _ _ _ _ _ he _
  induction m using Nat.casesOn with
  | zero => exact absurd hm (Nat.not_lt_zero _)
  | succ m =>
  have he : e = pl := he
  subst he
  have e1 : ¬ ((e : Int) < (e : Int)) := Int.lt_irrefl _
  exact tp_whileE [aC, aN] fun fin => (aI (decide_eq_false e1) <| fin :)
 | cons i row rc =>
  intro m pl p c k0 hm h hk hp hs hl he hq
  induction m using Nat.casesOn with
  | zero => exact absurd hm (Nat.not_lt_zero _)
  | succ m =>
  have hi : i < 32 := h i (List.mem_cons_self ..)
  rw [List.map_cons] at hk
  rw [List.map_cons, List.flatten_cons] at hs hl
  rw [List.length_append] at hl
  rw [List.length_cons] at hm he
  obtain ⟨h1, h2⟩ := hk 0 (kd i) rfl
  have e1 : ((pl : Int) < (e : Int)) := by omega
  have e2 := s_gv (j := 21) (by decide) O1 h1 h2
  have e4 := s_ss hi (j := 21) (by decide)
  by_cases hc : c = q
  ·subst hc
   rw [Nat.sub_self]
   have e3 := s_val (j := 21) (by decide) hi ho hp (fun k b hk => hs k b (by rw [List.getElem?_append_left (List.getElem?_eq_some_iff.mp hk).1]; exact hk)) O51
   have e5 : ((c : Int) == (c : Int)) = true := beq_self_eq_true _
   exact tp_whileE [aC, aY, aV _, aC, aY, aV _] fun fin => (aI (decide_eq_true e1) <| aI e2 <| aI e5 <| aI e3 <| fin :)
  ·obtain ⟨st, ih⟩ := rc m (pl + 1) (p + (bd i).length) (c + 1) (some (.f (.int (kd i)))) O27 (fun j hj => h j (List.mem_cons_of_mem _ hj)) (fun k x hx => by
    have := hk (k + 1) x hx
    rwa [show pl + (k + 1) = pl + 1 + k by exact O25] at this) O47 (fun k b hk => by
    have := hs ((bd i).length + k) b (by rw [List.getElem?_append_right O61, Nat.add_sub_cancel_left]; exact hk)
    rwa [← Nat.add_assoc] at this) O50 (by omega) O32
   rw [show q - c = (q - (c + 1)) + 1 by omega, List.getElem?_cons_succ]
   have e5 := eqI_no (a := (c : Int)) (b := (q : Int)) O40
   exact tp_whileE [aC, aY, aV _, aC, aN, aV _, aO _] fun fin => (aI (decide_eq_true e1) <| aI e2 <| aI e5 <| aI e4 <| aI ih <| fin :)
noncomputable def colV (row : List Nat) (q : Nat) : FV := match row[q]? with
 | some i => val i
 | none => .none
theorem s_col {j : Nat} (hj : 21 < j) {row : List Nat} (h : ∀ i ∈ row, i < 32) (hl : row.length ≤ 6) (q : Nat) : D1 (Dn j) 21 [.f (.bytes (enc row)), .f (.int q)] = some (colV row q) := by
 have ho := enc_len h hl
 have e1 := s_gv (j := 21) (p := 0) (n := row.length + 1) (by decide) (o := enc row) O1 enc_at0 O23
 obtain ⟨st, e2⟩ := col_loop (o := enc row) O1 (e := row.length + 1) (q := q) row 60 1 (row.length + 1) 0 none O2 h (fun k x hx => ⟨enc_kd hx, by
  obtain ⟨i, hi, rfl⟩ := List.mem_map.mp (List.mem_of_getElem? hx)
  exact kd_lt (h i hi)⟩) O46 (fun k b hk => enc_body hk) (by rw [enc_length]; omega) (by omega) O62
 have e3 := lenB_ok (b := enc row) rfl O1
 have hle : row.length + 1 ≤ (enc row).length := by rw [enc_length]; exact O61
 have e5 : ¬ (((row.length + 1 : Nat) : Int) > ((enc row).length : Int)) := by exact O39
 have e6 : ¬ (((row.length + 1 : Nat) : Int) < 0 + 1) := by exact O34
 rw [Nat.sub_zero] at e2
 unfold colV
 cases hr : row[q]? with
 | none =>
  rw [hr] at e2
  have e2 : _ = some (Out.next, st) := e2
  exact tp_fn hj rfl [aV _, aV _, aC, aN, aC, aC, aC, aO _] fun fin => (aI e1 <| aI e3 <| aI (decide_eq_false e5) <| aI e2 <| fin :)
 | some i =>
  rw [hr] at e2
  have e2 : _ = some (Out.ret (.f (val i)), st) := e2
  exact tp_fn hj rfl [aV _, aV _, aC, aN, aC, aC, aC, aO _] fun fin => (aI e1 <| aI e3 <| aI (decide_eq_false e5) <| aI e2 <| fin :)
theorem lenT_ok {b : List FV} {n : Nat} (e : b.length = n) (h : n ≤ 1000000) : biFV .len [.tup b] = some (.int n) := by subst e; exact if_pos h
theorem idxT_ok {l : List FV} {k : Nat} {v : FV} (hk : k < 2 ^ 62) (h : l[k]? = some v) : idxG (.tup l) (.f (.int k)) = some v := idxL_ok hk h
noncomputable def sColl : Str := Str.ofString "collations"
noncomputable def sDesc : Str := Str.ofString "descending"
noncomputable def infoV (cs : List Nat) (ds : List Bool) : FV := .inst 263 [sColl, sDesc] [.tup (cs.map colOf), .tup (ds.map .bool)]
section
variable {cs : List Nat} {ds : List Bool} {st : St} {D : Delta} {i : Nat}
theorem i_coll : attrG (prgOf D i) (Str.ofString "collations") st (.f (infoV cs ds)) = some (.f (.tup (cs.map colOf))) := by kernel_rfl
theorem i_desc : attrG (prgOf D i) (Str.ofString "descending") st (.f (infoV cs ds)) = some (.f (.tup (ds.map .bool))) := by kernel_rfl
theorem m_info {f : Nat} (h : ((prgOf D i).methOf 263 f && !([sColl, sDesc].contains (mnameOf f))) = true) : ((prgOf D i).methOf 263 f && freeOf ((prgOf D i).mname f) st (.f (infoV cs ds))) = true := h
theorem m23 : ((prgOf D i).methOf 263 23 && freeOf ((prgOf D i).mname 23) st (.f (infoV cs ds))) = true := m_info (by kernel_rfl)
theorem m24 : ((prgOf D i).methOf 263 24 && freeOf ((prgOf D i).mname 24) st (.f (infoV cs ds))) = true := m_info (by kernel_rfl)
theorem m25 : ((prgOf D i).methOf 263 25 && freeOf ((prgOf D i).mname 25) st (.f (infoV cs ds))) = true := m_info (by kernel_rfl)
end
theorem s_count {j : Nat} (hj : 23 < j) {cs : List Nat} {ds : List Bool} (h : cs.length ≤ 3) : D1 (Dn j) 23 [.f (infoV cs ds)] = some (.int cs.length) := by
 exact tp_fn hj rfl [aP _, aV _] fun fin => (aI i_coll <| aI (lenT_ok (b := cs.map colOf) (List.length_map ..) O1) <| fin :)
theorem s_coll {j : Nat} (hj : 24 < j) {cs : List Nat} {ds : List Bool} (h : cs.length ≤ 3) {k c : Nat} (hk : cs[k]? = some c) : D1 (Dn j) 24 [.f (infoV cs ds), .f (.int k)] = some (colOf c) := by
 have hl : k < cs.length := (List.getElem?_eq_some_iff.mp hk).1
 have e2 : (k : Int) < (cs.length : Int) := Int.ofNat_lt.mpr hl
 exact tp_fn hj rfl [aP _, aV _, aC, aY, aP _, aV _] fun fin => (aI i_coll <| aI (lenT_ok (b := cs.map colOf) (List.length_map ..) O1) <| aI (decide_eq_true e2) <| aI i_coll <| aI (idxT_ok O9 (map_at (f := colOf) hk)) <| fin :)
theorem s_desc {j : Nat} (hj : 25 < j) {cs : List Nat} {ds : List Bool} (h : ds.length ≤ 3) {k : Nat} {d : Bool} (hk : ds[k]? = some d) : D1 (Dn j) 25 [.f (infoV cs ds), .f (.int k)] = some (.bool d) := by
 have hl : k < ds.length := (List.getElem?_eq_some_iff.mp hk).1
 have e2 : (k : Int) < (ds.length : Int) := Int.ofNat_lt.mpr hl
 have e3 : (decide ((k : Int) < (ds.length : Int))) = true := decide_eq_true e2
 exact tp_fn hj rfl [aP _, aV _, aC, aY, aC, aP _, aV _, aC] fun fin => (aI i_desc <| aI (lenT_ok (b := ds.map .bool) (List.length_map ..) O1) <| aI (congrArg some e3 : (some (decide ((k : Int) < (ds.length : Int)))) = some true) <| aI i_desc <| aI (idxT_ok O9 (map_at (f := FV.bool) hk)) <| fin :)
noncomputable def compl (b : UInt8) : UInt8 := ((255 - (b.toNat : Int)).toNat).toUInt8
theorem byte_compl (b : UInt8) : byteOf (.int (255 - (b.toNat : Int))) = some (compl b) := by
 have := b.toNat_lt
 exact if_pos (by rw [Bool.and_eq_true, decide_eq_true_eq, decide_eq_true_eq]; omega)
noncomputable def partD (i c : Nat) (d : Bool) : List UInt8 := if d then (part i c).map compl else part i c
noncomputable def keyB : List Nat → List Nat → List Bool → List UInt8
 | i :: r, c :: cs, d :: ds => partD i c d ++ keyB r cs ds
 | _, _, _ => []
theorem keyB_cons (i c : Nat) (d : Bool) (r cs : List Nat) (ds : List Bool) : keyB (i :: r) (c :: cs) (d :: ds) = partD i c d ++ keyB r cs ds := rfl
theorem so_inner {a0 a1 a3 a4 : Option PV} : ∀ (bs acc : List UInt8) (v0 : Option PV), acc.length + bs.length ≤ 1000 →
  ∃ v1, forLoop (run (pr 28) 37) 5 l_sort_octets_0 (bs.map fun c => FV.int (c.toNat : Int)) { loc := [a0, a1, some (.o 10), a3, a4, v0], led := [(10, .barr acc)], chg := [], lent := [] } =
   some (.next, { loc := [a0, a1, some (.o 10), a3, a4, v1], led := [(10, .barr (acc ++ bs.map compl))], chg := [], lent := [] }) := by
 intro bs
 induction bs with
 | nil => exact fun acc v0 _ => ⟨v0, by rw [List.map_nil, List.map_nil, List.append_nil]; rfl⟩
 | cons b bs rc =>
  intro acc v0 h
  rw [List.length_cons] at h
  obtain ⟨v1, ih⟩ := rc (acc ++ [compl b]) (some (.f (.int (b.toNat : Int)))) (by rw [List.length_append]; show acc.length + 1 + _ ≤ _; exact O52)
  refine ⟨v1, ?_⟩
  rw [List.append_assoc] at ih
  exact tp_for [aC, aB _, aO _] fun fin => (aI aT <| aI (byte_compl b) <| aI ((by exact O19) : acc.length ≤ 1000000) <| aI ih <| fin :)
theorem k_partlen : ((List.range 32).all fun i => (List.range 3).all fun c => decide ((part i c).length ≤ 20)) = true := by decide +kernel
theorem part_le {i c : Nat} (hi : i < 32) (hc : c < 3) : (part i c).length ≤ 20 := of_decide_eq_true (all_at (all_at k_partlen hi) hc)
theorem partD_le {i c : Nat} (d : Bool) (hi : i < 32) (hc : c < 3) : (partD i c d).length ≤ 20 := by
 induction d with
 | true => show ((part i c).map compl).length ≤ 20; rw [List.length_map]; exact part_le hi hc
 | false => exact part_le hi hc
theorem tail_at {α : Type} {a : α} {l V : List α} {k : Nat} (h : ∀ t, (a :: l)[t]? = V[k + t]?) : ∀ t, l[t]? = V[k + 1 + t]? := fun t => by
 rw [Nat.add_assoc, Nat.add_comm 1 t]; exact h (t + 1)
theorem so_loop {V CS : List Nat} {DS : List Bool} (hcl : CS.length ≤ 3) (hdl : DS.length ≤ 3) (hvl : V.length ≤ 3) : ∀ (r cs : List Nat) (ds : List Bool) (k : Nat) (acc : List UInt8) (v3 v4 v5 : Option PV), (∀ i ∈ r, i < 32) → (∀ c ∈ cs, c < 3) →
  r.length = cs.length → r.length = ds.length → (∀ t, r[t]? = V[k + t]?) → (∀ t, cs[t]? = CS[k + t]?) → (∀ t, ds[t]? = DS[k + t]?) → acc.length + 20 * r.length ≤ 200 →
  ∃ w3 w4 w5, forLoop (run (pr 28) 39) 3 l_sort_octets_1 ((List.range' k r.length).map fun (k : Nat) => FV.int (k : Int)) { loc := [some (.f (.list (V.map val))), some (.f (infoV CS DS)), some (.o 10), v3, v4, v5], led := [(10, .barr acc)], chg := [], lent := [] } =
   some (.next, { loc := [some (.f (.list (V.map val))), some (.f (infoV CS DS)), some (.o 10), w3, w4, w5], led := [(10, .barr (acc ++ keyB r cs ds))], chg := [], lent := [] }) := by
 intro r
 induction r with
 | nil => exact fun cs ds k acc v3 v4 v5 _ _ _ _ _ _ _ _ => ⟨v3, v4, v5, by rw [show keyB [] cs ds = [] from rfl, List.append_nil]; rfl⟩
 | cons i r rc =>
  intro cs ds k acc v3 v4 v5 hr hc h1 h2 hV hC hD' ha
  induction cs using List.casesOn with
  | nil => exact nomatch h1
  | cons c cs =>
  induction ds using List.casesOn with
  | nil => exact nomatch h2
  | cons d ds =>
  have hi : i < 32 := hr i (List.mem_cons_self ..)
  have hc0 : c < 3 := hc c (List.mem_cons_self ..)
  have hp := part_le hi hc0
  rw [List.length_cons] at ha
  have V0 : V[k]? = some i := (hV 0).symm
  have C0 : CS[k]? = some c := (hC 0).symm
  have D0 : DS[k]? = some d := (hD' 0).symm
  have hk : k < V.length := (List.getElem?_eq_some_iff.mp V0).1
  have hpd := partD_le d hi hc0
  have next := fun v5 => rc cs ds (k + 1) (acc ++ partD i c d) (some (.f (.int k))) (some (.f (.barr (part i c)))) v5 (fun j hj => hr j (List.mem_cons_of_mem _ hj)) (fun j hj => hc j (List.mem_cons_of_mem _ hj)) (Nat.succ.inj h1) (Nat.succ.inj h2)
    (tail_at hV) (tail_at hC) (tail_at hD') (by rw [List.length_append]; omega)
  have e1 := idxL_ok O9 (map_at (f := val) V0)
  have e2 := s_coll (j := 28) (by decide) (ds := DS) hcl C0
  have e3 := s_desc (j := 28) (by decide) (cs := CS) hdl D0
  have e4 := s_part hi hc0 (j := 28) (by decide)
  induction d with
  | true =>
   obtain ⟨v6, in1⟩ := so_inner (a0 := some (.f (.list (V.map val)))) (a1 := some (.f (infoV CS DS))) (a3 := some (.f (.int k))) (a4 := some (.f (.barr (part i c)))) (part i c) acc v5 (by omega)
   obtain ⟨w3, w4, w5, nx⟩ := next v6
   refine ⟨w3, w4, w5, ?_⟩
   rw [List.append_assoc] at nx
   exact tp_for [aV _, aV _, aV _, aV _, aC, aC, aO _, aO _] fun fin => (aI e1 <| aI m24 <| aI e2 <| aI e4 <| aI m25 <| aI e3 <| aI in1 <| aI nx <| fin :)
  | false =>
   obtain ⟨w3, w4, w5, nx⟩ := next v5
   refine ⟨w3, w4, w5, ?_⟩
   rw [List.append_assoc] at nx
   exact tp_for [aV _, aV _, aV _, aV _, aC, aO _] fun fin => (aI e1 <| aI m24 <| aI e2 <| aI e4 <| aI m25 <| aI e3 <| aI aT <| aI ((by omega) : acc.length + (part i c).length ≤ 1000000) <| aI nx <| fin :)
theorem keyB_le : ∀ {r cs : List Nat} {ds : List Bool}, (∀ i ∈ r, i < 32) → (∀ c ∈ cs, c < 3) → (keyB r cs ds).length ≤ 20 * r.length
 | [], _, _, _, _ => Nat.le_refl 0
 | _ :: _, [], _, _, _ => Nat.zero_le _
 | _ :: _, _ :: _, [], _, _ => Nat.zero_le _
 | i :: r, c :: cs, d :: ds, h1, h2 => by
  have := keyB_le (ds := ds) (fun j hj => h1 j (List.mem_cons_of_mem _ hj)) (fun j hj => h2 j (List.mem_cons_of_mem _ hj))
  have hpd := partD_le d (h1 i (List.mem_cons_self ..)) (h2 c (List.mem_cons_self ..))
  rw [keyB_cons, List.length_append, List.length_cons]
  omega
theorem s_so {j : Nat} (hj : 28 < j) {r cs : List Nat} {ds : List Bool} (hr : ∀ i ∈ r, i < 32) (hc : ∀ c ∈ cs, c < 3) (h1 : r.length = cs.length) (h2 : r.length = ds.length) (h3 : r.length ≤ 3) : D1 (Dn j) 28 [.f (.list (r.map val)), .f (infoV cs ds)] = some (.bytes (keyB r cs ds)) := by
 obtain ⟨w3, w4, w5, e1⟩ := so_loop (V := r) (CS := cs) (DS := ds) O13 O13 h3 r cs ds 0 [] none none none hr hc h1 h2 (fun t => by rw [Nat.zero_add]) (fun t => by rw [Nat.zero_add]) (fun t => by rw [Nat.zero_add]) (by show 0 + _ ≤ _; omega)
 have e4 := keyB_le (ds := ds) hr hc
 exact tp_fn hj rfl [aV _, aC, aL _, aO _, aV _] fun fin => (aI aT <| aI (lenL_ok (b := r.map val) (List.length_map ..) O1) <| aI (rng_nat0 (s := r.length) O2) <| aI e1 <| aI (bytesA_ok (b := keyB r cs ds) (by omega)) <| fin :)
structure It where
 k : List UInt8
 s : Nat
 r : List UInt8
noncomputable def iv (a : It) : FV := .tup [.bytes a.k, .int a.s, .bytes a.r]
noncomputable def ltI (a b : It) : Bool := if a.k == b.k then decide (a.s < b.s) else PySem.Builtin.Bytes.order a.k b.k == .lt
noncomputable def mergeGo (a : It) (l : List It) (f : List It → List It) : List It → List It
 | [] => a :: l
 | b :: r => if ltI b a then b :: mergeGo a l f r else a :: f (b :: r)
noncomputable def mergeL : List It → List It → List It
 | [] => fun r => r
 | a :: l => mergeGo a l (mergeL l)
theorem mergeL_cons (a b : It) (l r : List It) : mergeL (a :: l) (b :: r) = if ltI b a then b :: mergeL (a :: l) r else a :: mergeL l (b :: r) := rfl
theorem mergeL_nil (l : List It) : mergeL l [] = l := by
 induction l using List.casesOn <;> rfl
theorem mergeL_ind {P : List It → List It → Prop} (h1 : ∀ r, P [] r) (h2 : ∀ a l, P (a :: l) []) (h3 : ∀ a l b r, P (a :: l) r → P l (b :: r) → P (a :: l) (b :: r)) (l : List It) : ∀ r, P l r := by
 induction l with
 | nil => exact h1
 | cons a l ih =>
  intro r
  induction r with
  | nil => exact h2 a l
  | cons b r ih' => exact h3 a l b r ih' (ih (b :: r))
theorem ltL_it (a b : It) : chainCmp .Lt (.tup [.bytes a.k, .int a.s]) (.tup [.bytes b.k, .int b.s]) = some (ltI a b) := by
 show (if (a.k == b.k) = true then (some ((a.s : Int) == (b.s : Int))).bind (fun t => if t = true then some false else some (decide ((a.s : Int) < (b.s : Int)))) else some (PySem.Builtin.Bytes.order a.k b.k == .lt)) = _
 unfold ltI
 cases a.k == b.k with
 | true =>
  show (if ((a.s : Int) == (b.s : Int)) = true then some false else some (decide ((a.s : Int) < (b.s : Int)))) = some (decide (a.s < b.s))
  by_cases h : a.s = b.s
  ·rw [h, beq_self_eq_true, if_pos rfl, decide_eq_false (Nat.lt_irrefl _)]
  ·rw [eqI_no O40, if_neg (by decide)]
   by_cases h2 : a.s < b.s
   ·rw [decide_eq_true h2, decide_eq_true O36]
   ·rw [decide_eq_false h2, decide_eq_false O38]
 | false => rfl
theorem slice_from {α : Type} {l : List α} {a : Nat} (ha : a ≤ l.length) : sliceOf l (some (a : Int)) none = l.drop a := by
 unfold sliceOf
 have e1 : ¬ ((a : Int) < 0) := by exact O34
 have e3 : min (a : Int) (l.length : Int) = a := by omega
 simp only [Option.map_some, Option.getD_some, Option.map_none, Option.getD_none, e1, if_false, e3]
 rw [Int.toNat_natCast, show ((l.length : Int) - (a : Int)).toNat = l.length - a by omega]
 rw [List.take_of_length_le (by rw [List.length_drop]; omega)]
theorem slF_ok {l : List FV} {a : Nat} (hl : l.length ≤ 1000000) (ha : a ≤ l.length) : sliceFV (.list l) (some (a : Int)) none = some (.list (l.drop a)) := by
 show (if l.length ≤ 1000000 then some (FV.list (sliceOf l (some (a : Int)) none)) else none) = _
 rw [if_pos hl, slice_from ha]
theorem mg_loop {L R : List It} (hL : L.length ≤ 50) (hR : R.length ≤ 50) : ∀ (m at_ to : Nat) (acc : List It), (L.length - at_) + (R.length - to) < m → at_ ≤ L.length → to ≤ R.length → acc.length + (L.length - at_) + (R.length - to) ≤ 100 →
  ∃ at' to' acc', whileLoop (run (pr 29) 39) c_merged_0 l_merged_0 m { loc := [some (.f (.list (L.map iv))), some (.f (.list (R.map iv))), some (.o 10), some (.f (.int at_)), some (.f (.int to))], led := [(10, .list (acc.map iv))], chg := [], lent := [] } =
   some (.next, { loc := [some (.f (.list (L.map iv))), some (.f (.list (R.map iv))), some (.o 10), some (.f (.int (at' : Nat))), some (.f (.int (to' : Nat)))], led := [(10, .list (acc'.map iv))], chg := [], lent := [] }) ∧
   acc' ++ L.drop at' ++ R.drop to' = acc ++ mergeL (L.drop at_) (R.drop to) ∧ at' ≤ L.length ∧ to' ≤ R.length ∧ acc'.length + (L.length - at') + (R.length - to') ≤ 100 := by
 intro m
 induction m with
 | zero => exact fun _ _ _ h _ _ _ => absurd h (Nat.not_lt_zero _)
 | succ m ih =>
  intro at_ to acc hm ha ht hs
  have e1 := lenL_ok (b := L.map iv) (List.length_map ..) O1
  have e2 := lenL_ok (b := R.map iv) (List.length_map ..) O1
  by_cases h1 : at_ < L.length
  ·have c1 : (at_ : Int) < (L.length : Int) := Int.ofNat_lt.mpr h1
   by_cases h2 : to < R.length
   ·have d1 : L.drop at_ = L[at_] :: L.drop (at_ + 1) := List.drop_eq_getElem_cons h1
    have d2 : R.drop to = R[to] :: R.drop (to + 1) := List.drop_eq_getElem_cons h2
    have f1 := idxL_ok O9 (map_at (f := iv) (List.getElem?_eq_getElem h1))
    have f2 := idxL_ok O9 (map_at (f := iv) (List.getElem?_eq_getElem h2))
    have c2 : (to : Int) < (R.length : Int) := Int.ofNat_lt.mpr h2
    have g3 : (acc.map iv).length ≤ 1000000 := by rw [List.length_map]; omega
    generalize L[at_] = A at *
    generalize R[to] = B at *
    have hl := ltL_it B A
    rw [d1, d2, mergeL_cons]
    cases hlt : ltI B A with
    | true =>
     rw [hlt] at hl
     obtain ⟨at', to', acc', ih, q1, q2⟩ := ih at_ (to + 1) (acc ++ [B]) (by omega) ha (by assumption) (by rw [List.length_append]; show acc.length + 1 + _ + _ ≤ _; omega)
     refine ⟨at', to', acc', ?_, ?_, q2⟩
     ·rw [List.map_append] at ih
      exact tp_while [aV _, aC, aY, aV _, aC, aY, aC, aV _, aC, aV _, aC, aV _, aC, aV _, aC, aY, aC, aV _, aO _] fun fin => (aI e1 <| aI (decide_eq_true c1) <| aI e2 <| aI (decide_eq_true c2) <| aI f2 <| aI f2 <| aI f1 <| aI f1 <| aI hl <| aI f2 <| aI aT <| aI g3 <| aI ih <| fin :)
     ·rw [q1, d1, if_pos rfl, List.append_assoc]; rfl
    | false =>
     rw [hlt] at hl
     obtain ⟨at', to', acc', ih, q1, q2⟩ := ih (at_ + 1) to (acc ++ [A]) (by omega) (by assumption) ht (by rw [List.length_append]; show acc.length + 1 + _ + _ ≤ _; omega)
     refine ⟨at', to', acc', ?_, ?_, q2⟩
     ·rw [List.map_append] at ih
      exact tp_while [aV _, aC, aY, aV _, aC, aY, aC, aV _, aC, aV _, aC, aV _, aC, aV _, aC, aN, aC, aV _, aO _] fun fin => (aI e1 <| aI (decide_eq_true c1) <| aI e2 <| aI (decide_eq_true c2) <| aI f2 <| aI f2 <| aI f1 <| aI f1 <| aI hl <| aI f1 <| aI aT <| aI g3 <| aI ih <| fin :)
     ·rw [q1, d2, if_neg (by decide), List.append_assoc]; rfl
   ·refine ⟨at_, to, acc, ?_, ?_, ha, ht, hs⟩
    ·have c2 : ¬ (to : Int) < (R.length : Int) := by exact O38
     exact tp_while [aV _, aC, aY, aV _, aC, aN, aC] fun fin => (aI e1 <| aI (decide_eq_true c1) <| aI e2 <| aI (decide_eq_false c2) <| fin :)
    ·have : R.drop to = [] := List.drop_eq_nil_of_le O30
     rw [this, List.append_nil]
     rw [mergeL_nil]
  ·refine ⟨at_, to, acc, ?_, ?_, ha, ht, hs⟩
   ·have c1 : ¬ (at_ : Int) < (L.length : Int) := by exact O38
    exact tp_while [aV _, aC, aN, aC] fun fin => (aI e1 <| aI (decide_eq_false c1) <| fin :)
   ·have : L.drop at_ = [] := List.drop_eq_nil_of_le O30
    rw [this, List.append_nil]; rfl
theorem s_merged {j : Nat} (hj : 29 < j) {L R : List It} (hL : L.length ≤ 25) (hR : R.length ≤ 25) : D1 (Dn j) 29 [.f (.list (L.map iv)), .f (.list (R.map iv))] = some (.list ((mergeL L R).map iv)) := by
 obtain ⟨a', t', acc', e1, q1, q2, q3, q4⟩ := mg_loop (L := L) (R := R) O1 O1 60 0 0 [] (by omega) (Nat.zero_le _) (Nat.zero_le _) (by show 0 + _ + _ ≤ _; omega)
 have q1 : acc' ++ L.drop a' ++ R.drop t' = mergeL L R := q1
 have c3 : a' < 2 ^ 62 := by exact O11
 have c4 : t' < 2 ^ 62 := by exact O11
 rw [← q1, List.map_append, List.map_append, List.map_drop, List.map_drop]
 exact tp_fn hj rfl [aO _, aV _, aV _, aV _, aV _] fun fin => (aI aT <| aI e1 <| aI (decide_eq_true c3) <| aI (slF_ok (l := L.map iv) (a := a') (by rw [List.length_map]; exact O1) (by rw [List.length_map]; exact q2)) <| aI aT <| aI (addL_ok (b := acc'.map iv) (c := (L.map iv).drop a') (by rw [List.length_map, List.length_drop, List.length_map]; exact O19)) <| aI (decide_eq_true c4) <| aI (slF_ok (l := R.map iv) (a := t') (by rw [List.length_map]; exact O1) (by rw [List.length_map]; exact q3)) <| aI (addL_ok (b := acc'.map iv ++ (L.map iv).drop a') (c := (R.map iv).drop t') (by rw [List.length_append, List.length_map, List.length_drop, List.length_map, List.length_drop, List.length_map]; exact O1)) <| fin :)
noncomputable def ms5 : List It → List It
 | [a] => [a]
 | [a, b] => mergeL [a] [b]
 | [a, b, c] => mergeL (mergeL [a] [b]) [c]
 | [a, b, c, d] => mergeL (mergeL [a] [b]) (mergeL [c] [d])
 | [a, b, c, d, e] => mergeL (mergeL (mergeL [a] [b]) (mergeL [c] [d])) [e]
 | _ => []
theorem mergeL_len (l r : List It) : (mergeL l r).length = l.length + r.length := by
 refine mergeL_ind (P := fun l r => (mergeL l r).length = l.length + r.length) (fun r => (Nat.zero_add _).symm) (fun a l => rfl) (fun a l b r h h' => ?_) l r
 rw [mergeL_cons]
 by_cases c : ltI b a = true
 ·rw [if_pos c]; exact congrArg Nat.succ h
 ·rw [if_neg c]; exact (congrArg Nat.succ h').trans (Nat.succ_add l.length (r.length + 1)).symm
theorem aZ2 {n : Nat} (h : Nat.ble n 25 = true) : n ≤ 25 := Nat.le_of_ble_eq_true h
theorem m1_ok (a b : It) : D1 (Dn 30) 29 [.f (.list [iv a]), .f (.list [iv b])] = some (.list ((mergeL [a] [b]).map iv)) := s_merged (j := 30) (L := [a]) (R := [b]) (by decide) (aZ2 rfl) (aZ2 rfl)
theorem m2_ok (l : List It) (c : It) (h : l.length ≤ 25) : D1 (Dn 30) 29 [.f (.list (l.map iv)), .f (.list [iv c])] = some (.list ((mergeL l [c]).map iv)) := s_merged (j := 30) (L := l) (R := [c]) (by decide) h (aZ2 rfl)
theorem s_ms {j : Nat} (hj : 30 < j) {rows : List It} (h1 : 0 < rows.length) (h2 : rows.length ≤ 5) : D1 (Dn j) 30 [.f (.list (rows.map iv))] = some (.list ((ms5 rows).map iv)) := by
 match rows, h1, h2 with
 | [a], _, _ =>
  exact tp_fn hj rfl [aC, aC, aC, aC, aC, aC, aC, aC, aC, aC] fun fin => kp (by kernel_rfl) (aI (aZ 1 rfl) <| aI aT <| fin)
 | [a, b], _, _ =>
  have m1 := m1_ok a b
  exact tp_fn hj rfl [aC, aC, aC, aC, aC, aC, aC, aC, aC, aC, aC, aC, aC, aC, aC, aC, (aVe m1), aC, aC, aC, aC, aC, aC, aC, aC, aC, aC, aC, aC] fun fin => kp (by kernel_rfl) (aI (aZ 2 rfl) <| aI aT <| aI aT <| aI m1 <| aI aT <| aI (aZ 0 rfl) <| fin)
 | [a, b, c], _, _ =>
  have m1 := m1_ok a b
  have m2 := m2_ok (mergeL [a] [b]) c (by rw [mergeL_len]; exact aZ2 rfl)
  exact tp_fn hj rfl [aC, aC, aC, aC, aC, aC, aC, aC, aC, aC, aC, aC, aC, aC, aC, aC, aC, (aVe m1), aC, aC, aC, aC, aC, aC, aC, aC, aC, aC, aC, aC, aC, aC, aC, aC, aC, aC, (aVe m2), aC, aC, aC, aC, aC, aC, aC, aC, aC, aC, aC, aC] fun fin => kp (by kernel_rfl) (aI (aZ 3 rfl) <| aI aT <| aI aT <| aI m1 <| aI aT <| aI (aZ 0 rfl) <| aI aT <| aI (aZ 1 rfl) <| aI aT <| aI m2 <| aI aT <| aI (aZ 0 rfl) <| fin)
 | [a, b, c, d], _, _ =>
  have m1 := m1_ok a b
  have m3 := m1_ok c d
  have m2 := s_merged (j := 30) (L := mergeL [a] [b]) (R := mergeL [c] [d]) (by decide) (by rw [mergeL_len]; exact aZ2 rfl) (by rw [mergeL_len]; exact aZ2 rfl)
  exact tp_fn hj rfl [aC, aC, aC, aC, aC, aC, aC, aC, aC, aC, aC, aC, aC, aC, aC, aC, aC, aC, (aVe m1), aC, aC, aC, aC, (aVe m3), aC, aC, aC, aC, aC, aC, aC, aC, aC, aC, aC, aC, aC, aC, aC, aC, aC, (aVe m2), aC, aC, aC, aC, aC, aC, aC, aC, aC, aC, aC, aC] fun fin => kp (by kernel_rfl) (aI (aZ 4 rfl) <| aI aT <| aI aT <| aI m1 <| aI aT <| aI (aZ 0 rfl) <| aI m3 <| aI aT <| aI (aZ 1 rfl) <| aI aT <| aI m2 <| aI aT <| aI (aZ 0 rfl) <| fin)
 | [a, b, c, d, e], _, _ =>
  have m1 := m1_ok a b
  have m3 := m1_ok c d
  have m2 := s_merged (j := 30) (L := mergeL [a] [b]) (R := mergeL [c] [d]) (by decide) (by rw [mergeL_len]; exact aZ2 rfl) (by rw [mergeL_len]; exact aZ2 rfl)
  have m4 := m2_ok (mergeL (mergeL [a] [b]) (mergeL [c] [d])) e (by rw [mergeL_len, mergeL_len, mergeL_len]; exact aZ2 rfl)
  exact tp_fn hj rfl [aC, aC, aC, aC, aC, aC, aC, aC, aC, aC, aC, aC, aC, aC, aC, aC, aC, aC, aC, (aVe m1), aC, aC, aC, aC, (aVe m3), aC, aC, aC, aC, aC, aC, aC, aC, aC, aC, aC, aC, aC, aC, aC, aC, aC, aC, (aVe m2), aC, aC, aC, aC, aC, aC, aC, aC, aC, aC, aC, aC, aC, aC, aC, aC, aC, aC, (aVe m4), aC, aC, aC, aC, aC, aC, aC, aC, aC, aC, aC, aC] fun fin => kp (by kernel_rfl) (aI (aZ 5 rfl) <| aI aT <| aI aT <| aI m1 <| aI aT <| aI (aZ 0 rfl) <| aI m3 <| aI aT <| aI (aZ 1 rfl) <| aI aT <| aI (aZ 2 rfl) <| aI aT <| aI m2 <| aI aT <| aI (aZ 0 rfl) <| aI aT <| aI (aZ 1 rfl) <| aI aT <| aI m4 <| aI aT <| aI (aZ 0 rfl) <| fin)
structure So where
 cs : List Nat
 ds : List Bool
 rs : Nat
 g : List It
 runs : List (List It)
 taken : Nat
 told : List It
 place : Int
noncomputable def runV (r : List It) : FV := .list (r.map iv)
noncomputable def soN : List Str := [Str.ofString "info", Str.ofString "run_size", Str.ofString "gathered", Str.ofString "runs", Str.ofString "taken", Str.ofString "told", Str.ofString "place"]
noncomputable def soLed (s : So) : Led := [(1, .inst 374 soN [.f (infoV s.cs s.ds), .f (.int s.rs), .o 2, .o 3, .f (.int s.taken), .f (.list (s.told.map iv)), .f (.int s.place)]), (2, .list (s.g.map iv)), (3, .list (s.runs.map runV))]
section
variable {loc : List (Option PV)} {r : Led} {chg lent : List Nat} {a b c d e f g v : PV} {D : Delta} {i : Nat}
theorem ag_info : attrG (prgOf D i) (Str.ofString "info") ⟨loc, (1, .inst 374 soN [a, b, c, d, e, f, g]) :: r, chg, lent⟩ (.o 1) = some a := by kernel_rfl
theorem ag_run : attrG (prgOf D i) (Str.ofString "run_size") ⟨loc, (1, .inst 374 soN [a, b, c, d, e, f, g]) :: r, chg, lent⟩ (.o 1) = some b := by kernel_rfl
theorem ag_gath : attrG (prgOf D i) (Str.ofString "gathered") ⟨loc, (1, .inst 374 soN [a, b, c, d, e, f, g]) :: r, chg, lent⟩ (.o 1) = some c := by kernel_rfl
theorem ag_runs : attrG (prgOf D i) (Str.ofString "runs") ⟨loc, (1, .inst 374 soN [a, b, c, d, e, f, g]) :: r, chg, lent⟩ (.o 1) = some d := by kernel_rfl
theorem ag_taken : attrG (prgOf D i) (Str.ofString "taken") ⟨loc, (1, .inst 374 soN [a, b, c, d, e, f, g]) :: r, chg, lent⟩ (.o 1) = some e := by kernel_rfl
theorem ag_told : attrG (prgOf D i) (Str.ofString "told") ⟨loc, (1, .inst 374 soN [a, b, c, d, e, f, g]) :: r, chg, lent⟩ (.o 1) = some f := by kernel_rfl
theorem ag_place : attrG (prgOf D i) (Str.ofString "place") ⟨loc, (1, .inst 374 soN [a, b, c, d, e, f, g]) :: r, chg, lent⟩ (.o 1) = some g := by kernel_rfl
theorem ap_gath : attrP (prgOf D i) (Str.ofString "gathered") ⟨loc, (1, .inst 374 soN [a, b, c, d, e, f, g]) :: r, chg, lent⟩ v (.o 1) = some ⟨loc, (1, .inst 374 soN [a, b, v, d, e, f, g]) :: r, chg, lent⟩ := by kernel_rfl
theorem ap_runs : attrP (prgOf D i) (Str.ofString "runs") ⟨loc, (1, .inst 374 soN [a, b, c, d, e, f, g]) :: r, chg, lent⟩ v (.o 1) = some ⟨loc, (1, .inst 374 soN [a, b, c, v, e, f, g]) :: r, chg, lent⟩ := by kernel_rfl
theorem ap_taken : attrP (prgOf D i) (Str.ofString "taken") ⟨loc, (1, .inst 374 soN [a, b, c, d, e, f, g]) :: r, chg, lent⟩ v (.o 1) = some ⟨loc, (1, .inst 374 soN [a, b, c, d, v, f, g]) :: r, chg, lent⟩ := by kernel_rfl
theorem ap_told : attrP (prgOf D i) (Str.ofString "told") ⟨loc, (1, .inst 374 soN [a, b, c, d, e, f, g]) :: r, chg, lent⟩ v (.o 1) = some ⟨loc, (1, .inst 374 soN [a, b, c, d, e, v, g]) :: r, chg, lent⟩ := by kernel_rfl
theorem ap_place : attrP (prgOf D i) (Str.ofString "place") ⟨loc, (1, .inst 374 soN [a, b, c, d, e, f, g]) :: r, chg, lent⟩ v (.o 1) = some ⟨loc, (1, .inst 374 soN [a, b, c, d, e, f, v]) :: r, chg, lent⟩ := by kernel_rfl
theorem m_so {m : Nat} (h : ((prgOf D i).methOf 374 m && !(soN.contains (mnameOf m))) = true) : ((prgOf D i).methOf 374 m && freeOf ((prgOf D i).mname m) ⟨loc, (1, .inst 374 soN [a, b, c, d, e, f, g]) :: r, chg, lent⟩ (.o 1)) = true := h
theorem m32 : ((prgOf D i).methOf 374 32 && freeOf ((prgOf D i).mname 32) ⟨loc, (1, .inst 374 soN [a, b, c, d, e, f, g]) :: r, chg, lent⟩ (.o 1)) = true := m_so (by kernel_rfl)
theorem m34 : ((prgOf D i).methOf 374 34 && freeOf ((prgOf D i).mname 34) ⟨loc, (1, .inst 374 soN [a, b, c, d, e, f, g]) :: r, chg, lent⟩ (.o 1)) = true := m_so (by kernel_rfl)
theorem m35 : ((prgOf D i).methOf 374 35 && freeOf ((prgOf D i).mname 35) ⟨loc, (1, .inst 374 soN [a, b, c, d, e, f, g]) :: r, chg, lent⟩ (.o 1)) = true := m_so (by kernel_rfl)
theorem m37 : ((prgOf D i).methOf 374 37 && freeOf ((prgOf D i).mname 37) ⟨loc, (1, .inst 374 soN [a, b, c, d, e, f, g]) :: r, chg, lent⟩ (.o 1)) = true := m_so (by kernel_rfl)
end
noncomputable def okP (p : Int) (n : Nat) : Bool := decide (0 ≤ p) && decide (p < n)
theorem okP_yes {p : Int} {n : Nat} (h1 : 0 ≤ p) (h2 : p < n) : okP p n = true := by unfold okP; rw [decide_eq_true h1, decide_eq_true h2]; rfl
theorem okP_no1 {p : Int} {n : Nat} (h1 : ¬ 0 ≤ p) : okP p n = false := by unfold okP; rw [decide_eq_false h1]; rfl
theorem okP_no2 {p : Int} {n : Nat} (h1 : 0 ≤ p) (h2 : ¬ p < n) : okP p n = false := by unfold okP; rw [decide_eq_true h1, decide_eq_false h2]; rfl
theorem so_valid {j : Nat} (hj : 34 < j) {s : So} (h : s.told.length ≤ 1000) : Dn j 34 [.o 1] (soLed s) = some (.f (.bool (okP s.place s.told.length)), soLed s, []) := by
 have e1 := lenL_ok (b := s.told.map iv) (List.length_map ..) O1
 by_cases h1 : 0 ≤ s.place
 ·by_cases h2 : s.place < s.told.length
  ·rw [okP_yes h1 h2]
   have e4 : chainCmp .Lt (.int s.place) (.int s.told.length) = some true := congrArg some (decide_eq_true h2)
   exact tp_call hj rfl [aP _, aC, aY, aP _, aV _, aY] fun fin => (aI ag_place <| aI (decide_eq_true h1) <| aI ag_told <| aI e1 <| aI e4 <| fin :)
  ·rw [okP_no2 h1 h2]
   have e4 : chainCmp .Lt (.int s.place) (.int s.told.length) = some false := congrArg some (decide_eq_false h2)
   exact tp_call hj rfl [aP _, aC, aY, aP _, aV _, aN] fun fin => (aI ag_place <| aI (decide_eq_true h1) <| aI ag_told <| aI e1 <| aI e4 <| fin :)
 ·rw [okP_no1 h1]
  exact tp_call hj rfl [aP _, aC, aN] fun fin => (aI ag_place <| aI (decide_eq_false h1) <| fin :)
theorem so_record {j : Nat} (hj : 37 < j) {s : So} {k : Nat} {a : It} (hp : s.place = k) (hk : s.told[k]? = some a) (h : s.told.length ≤ 1000) : Dn j 37 [.o 1] (soLed s) = some (.f (.bytes a.r), soLed s, []) := by
 have hl : k < s.told.length := (List.getElem?_eq_some_iff.mp hk).1
 have e2 := idxL_ok O9 (map_at (f := iv) hk)
 rw [← hp] at e2
 exact tp_call hj rfl [aP _, aP _, aV _, aC] fun fin => (aI ag_told <| aI ag_place <| aI e2 <| fin :)
theorem so_next {j : Nat} (hj : 36 < j) {s : So} (h : s.told.length ≤ 1000) : Dn j 36 [.o 1] (soLed s) = some (.f (.bool (okP (s.place + 1) s.told.length)), soLed { s with place := s.place + 1 }, []) := by
 exact tp_call hj rfl [aP _, aS _, aQ _] fun fin => (aI ag_place <| aI aT <| aI ap_place <| aI aT <| aI m34 <| aI aT <| aI (so_valid (j := 36) (by decide) (s := { s with place := s.place + 1 }) h) <| aI aT <| fin :)
theorem so_end {j : Nat} (hj : 32 < j) {s : So} (h1 : 0 < s.g.length) (h2 : s.g.length ≤ 5) (h3 : s.runs.length ≤ 100) : Dn j 32 [.o 1] (soLed s) = some (.f .none, soLed { s with g := [], runs := s.runs ++ [ms5 s.g] }, [2]) := by
 have hm : soLed { s with g := [], runs := s.runs ++ [ms5 s.g] } = [(1, .inst 374 soN [.f (infoV s.cs s.ds), .f (.int s.rs), .o 2, .o 3, .f (.int s.taken), .f (.list (s.told.map iv)), .f (.int s.place)]), (2, .list []), (3, .list (s.runs.map runV ++ [runV (ms5 s.g)]))] := by
  unfold soLed; rw [List.map_append]; rfl
 rw [hm]
 exact tp_call hj rfl [aP _, aP _, aV _, aS _] fun fin => (aI ag_runs <| aI ag_gath <| aI (s_ms (j := 32) (by decide) h1 h2) <| aI aT <| aI ((by rw [List.length_map]; exact O1) : (s.runs.map runV).length ≤ 1000000) <| aI aT <| aI aT <| aI ap_gath <| fin :)
noncomputable def So.ins (s : So) (a : It) : So := if s.rs ≤ s.g.length + 1 then { s with g := [], runs := s.runs ++ [ms5 (s.g ++ [a])], taken := s.taken + 1 } else { s with g := s.g ++ [a], taken := s.taken + 1 }
theorem sl_to {l : List FV} {a : Nat} (hl : l.length ≤ 1000000) (ha : a ≤ l.length) : sliceFV (.list l) none (some (a : Int)) = some (.list (l.take a)) := by
 show (if l.length ≤ 1000000 then some (FV.list (sliceOf l none (some (a : Int)))) else none) = _
 rw [if_pos hl]
 unfold sliceOf
 have e1 : ¬ ((a : Int) < 0) := by exact O34
 have e3 : min (a : Int) (l.length : Int) = a := by omega
 simp only [Option.map_some, Option.getD_some, Option.map_none, Option.getD_none, e1, if_false, e3]
 rfl
theorem so_insert {j : Nat} (hj : 33 < j) {s : So} {row : List Nat} (hr : ∀ i ∈ row, i < 32) (hl : row.length ≤ 6) (hm : s.cs.length ≤ row.length) (hc : ∀ c ∈ s.cs, c < 3) (hc3 : s.cs.length ≤ 3) (hcd : s.cs.length = s.ds.length) (hrs : s.rs ≤ 5) (hg : s.g.length ≤ 4) (h3 : s.runs.length ≤ 100) :
  ∃ chg, Dn j 33 [.o 1, .f (.bytes (enc row))] (soLed s) = some (.f .none, soLed (s.ins ⟨keyB (row.take s.cs.length) s.cs s.ds, s.taken, enc row⟩), chg) ∧ ∀ k ∈ chg, k = 2 := by
 have e1 := s_dec (j := 33) (by decide) hr hl
 have e2 := s_count (j := 33) (by decide) (cs := s.cs) (ds := s.ds) hc3
 have e3 : sliceFV (.list (row.map val)) none (some (s.cs.length : Int)) = some (.list ((row.take s.cs.length).map val)) := by
  rw [sl_to (by rw [List.length_map]; exact O1) (by rw [List.length_map]; exact hm), List.map_take]
 have ht : (row.take s.cs.length).length = s.cs.length := by rw [List.length_take]; exact O83
 have e4 := s_so (j := 33) (by decide) (r := row.take s.cs.length) (cs := s.cs) (ds := s.ds) (fun i hi => hr i (List.mem_of_mem_take hi)) hc ht (ht.trans hcd) O12
 have e6 : s.cs.length < 2 ^ 62 := by exact O2
 have e7 : (s.g.map iv).length ≤ 1000000 := by rw [List.length_map]; exact O1
 have e9 : s.g.map iv ++ [FV.tup [.bytes (keyB (row.take s.cs.length) s.cs s.ds), .int s.taken, .bytes (enc row)]] = (s.g ++ [It.mk (keyB (row.take s.cs.length) s.cs s.ds) s.taken (enc row)]).map iv := by rw [List.map_append]; rfl
 have e8 : biFV .len [.list (s.g.map iv ++ [FV.tup [.bytes (keyB (row.take s.cs.length) s.cs s.ds), .int s.taken, .bytes (enc row)]])] = some (.int ((s.g.length + 1 : Nat) : Int)) := lenL_ok (by rw [List.length_append, List.length_map]; rfl) O2
 have hz : soLed { s with g := s.g ++ [⟨keyB (row.take s.cs.length) s.cs s.ds, s.taken, enc row⟩], taken := s.taken + 1 } = [(1, .inst 374 soN [.f (infoV s.cs s.ds), .f (.int s.rs), .o 2, .o 3, .f (.int (s.taken + 1 : Nat)), .f (.list (s.told.map iv)), .f (.int s.place)]), (2, .list (s.g.map iv ++ [FV.tup [.bytes (keyB (row.take s.cs.length) s.cs s.ds), .int s.taken, .bytes (enc row)]])), (3, .list (s.runs.map runV))] := by
  rw [e9]; rfl
 by_cases hc : s.rs ≤ s.g.length + 1
 ·have c1 : ((s.g.length + 1 : Nat) : Int) ≥ (s.rs : Int) := by omega
  have f1 := so_end (j := 33) (by decide) (s := { s with g := s.g ++ [⟨keyB (row.take s.cs.length) s.cs s.ds, s.taken, enc row⟩], taken := s.taken + 1 }) (by rw [List.length_append]; exact Nat.succ_pos _) (by rw [List.length_append]; show _ + 1 ≤ 5; exact O2) h3
  unfold So.ins
  rw [if_pos hc]
  refine ⟨[2], ?_, fun k hk => List.mem_singleton.mp hk⟩
  rw [hz] at f1
  exact tp_call hj rfl [aV _, aP _, aV _, aV _, aP _, aV _, aP _, aP _, aP _, aS _, aP _, aV _, aP _, aC, aY, aQ _] fun fin => (aI e1 <| aI ag_info <| aI m23 <| aI e2 <| aI (decide_eq_true e6) <| aI e3 <| aI ag_info <| aI e4 <| aI ag_gath <| aI ag_taken <| aI aT <| aI e7 <| aI ag_taken <| aI aT <| aI ap_taken <| aI ag_gath <| aI e8 <| aI ag_run <| aI (decide_eq_true c1) <| aI aT <| aI m32 <| aI aT <| aI f1 <| aI aT <| fin :)
 ·have c1 : ¬ (((s.g.length + 1 : Nat) : Int) ≥ (s.rs : Int)) := by omega
  unfold So.ins
  rw [if_neg hc]
  refine ⟨[], ?_, fun k hk => by cases hk⟩
  rw [hz]
  exact tp_call hj rfl [aV _, aP _, aV _, aV _, aP _, aV _, aP _, aP _, aP _, aS _, aP _, aV _, aP _, aC, aN] fun fin => (aI e1 <| aI ag_info <| aI m23 <| aI e2 <| aI (decide_eq_true e6) <| aI e3 <| aI ag_info <| aI e4 <| aI ag_gath <| aI ag_taken <| aI aT <| aI e7 <| aI ag_taken <| aI aT <| aI ap_taken <| aI ag_gath <| aI e8 <| aI ag_run <| aI (decide_eq_false c1) <| fin :)
theorem held_c {l1 l2 : List (Option PV)} {d1 d2 : Led} {c n1 n2 : List Nat} {k : Nat} : held ⟨l1, d1, c, n1⟩ ⟨l2, d2, c, n2⟩ (.o k) = true := by
 show (!(c.take (c.length - c.length)).contains k) = true
 rw [Nat.sub_self]; rfl
noncomputable def mergeAll : List (List It) → List It
 | [] => []
 | a :: l => l.foldl mergeL a
noncomputable def sumLen (l : List (List It)) : Nat := (l.map List.length).sum
theorem sumLen_cons (a : List It) (l : List (List It)) : sumLen (a :: l) = a.length + sumLen l := by unfold sumLen; rw [List.map_cons, List.sum_cons]
theorem mergeAll_nil : mergeAll [] = [] := rfl
noncomputable def runsOf (runs : List (List It)) : List (List It) := if runs = [] then [] else [mergeAll runs]
theorem fi_loop {A B E F G : FV} {gl : List FV} : ∀ (runs : List (List It)) (m : Nat) (chg : List Nat), runs.length ≤ m → 0 < m → sumLen runs ≤ 25 → runs.length ≤ 100 →
  ∃ c', (∀ k ∈ c', k = 3) ∧ whileLoop (run (pr 35) 39) c_Sorter_first_0 l_Sorter_first_0 m { loc := [some (.o 1)], led := [(1, .inst 374 soN [.f A, .f B, .o 2, .o 3, .f E, .f F, .f G]), (2, .list gl), (3, .list (runs.map runV))], chg := chg, lent := [] } =
   some (.next, { loc := [some (.o 1)], led := [(1, .inst 374 soN [.f A, .f B, .o 2, .o 3, .f E, .f F, .f G]), (2, .list gl), (3, .list ((runsOf runs).map runV))], chg := c' ++ chg, lent := [] }) := by
 intro runs m
 induction m generalizing runs with
 | zero => exact fun _ _ h => absurd h (Nat.lt_irrefl _)
 | succ m rc =>
  intro chg hm _ hs hl
  induction runs using List.casesOn with
  | nil => exact ⟨[], nofun, by
    rw [show runsOf [] = [] from if_pos rfl]
    exact tp_while [aP _, aC, aC, aC] fun fin => (aI ag_runs <| fin :)⟩
  | cons r1 rs =>
  induction rs using List.casesOn with
  | nil => exact ⟨[], nofun, by
    rw [show runsOf [r1] = [r1] from if_neg (List.cons_ne_nil _ _)]
    exact tp_while [aP _, aC, aC, aC] fun fin => (aI ag_runs <| fin :)⟩
  | cons r2 rs =>
  rw [List.length_cons, List.length_cons] at hm hl
  rw [sumLen_cons, sumLen_cons] at hs
  obtain ⟨c', hc, ih⟩ := rc (mergeL r1 r2 :: rs) (3 :: chg) (by rw [List.length_cons]; exact O27) (by omega) (by rw [sumLen_cons, mergeL_len]; exact O50) (by rw [List.length_cons]; exact O4)
  refine ⟨c' ++ [3], fun k h => ((List.mem_append.mp h).elim (hc k) fun h => List.mem_singleton.mp h), ?_⟩
  have e9 : (((rs.length + 2 : Nat) : Int) > 1) := by omega
  rw [show runsOf (mergeL r1 r2 :: rs) = [mergeAll (mergeL r1 r2 :: rs)] from if_neg (List.cons_ne_nil _ _)] at ih
  rw [show runsOf (r1 :: r2 :: rs) = [mergeAll (mergeL r1 r2 :: rs)] from if_neg (List.cons_ne_nil _ _), List.append_assoc]
  exact tp_while [aP _, aV _, aC, aY, aP _, aV _, aP _, aV _, aV _, aP _, aV _, aV _, aS _, aO _] fun fin => (aI ag_runs <| aI (lenL_ok (by rw [List.length_cons, List.length_cons, List.length_map]) O1 : biFV .len [.list (runV r1 :: runV r2 :: rs.map runV)] = some (.int ((rs.length + 2 : Nat) : Int))) <| aI (decide_eq_true e9) <| aI ag_runs <| aI (idxL_ok (l := runV r1 :: runV r2 :: rs.map runV) (k := 0) (by decide) rfl) <| aI ag_runs <| aI (idxL_ok (l := runV r1 :: runV r2 :: rs.map runV) (k := 1) (by decide) rfl) <| aI (s_merged (j := 35) (L := r1) (R := r2) (by decide) O17 (by omega)) <| aI ag_runs <| aI aT <| aI (slF_ok (l := runV r1 :: runV r2 :: rs.map runV) (a := 2) (by rw [List.length_cons, List.length_cons, List.length_map]; exact O1) (by rw [List.length_cons, List.length_cons]; exact O62)) <| aI (addL_ok (by rw [List.length_map]; show 1 + _ ≤ _; omega) : binFV .Add (.list [runV (mergeL r1 r2)]) (.list (rs.map runV)) = some (.list (runV (mergeL r1 r2) :: rs.map runV))) <| aI aT <| aI held_c <| aI ap_runs <| aI ih <| fin :)
noncomputable def So.all (s : So) : List (List It) := s.runs ++ (if s.g = [] then [] else [ms5 s.g])
noncomputable def So.fst (s : So) : So := { s with g := [], runs := if s.all = [] then [] else [mergeAll s.all], told := mergeAll s.all, place := 0 }
theorem mergeAll_len (l : List (List It)) : (mergeAll l).length = sumLen l := by
 have key : ∀ (l : List (List It)) (a : List It), (l.foldl mergeL a).length = a.length + sumLen l := fun l => by
  induction l with
  | nil => exact fun a => rfl
  | cons b r ih => exact fun a => (ih (mergeL a b)).trans (by rw [mergeL_len, sumLen_cons, Nat.add_assoc])
 induction l using List.casesOn with
 | nil => rfl
 | cons a l => exact (key l a).trans (sumLen_cons a l).symm
theorem truL_ok {a : FV} {l : List FV} (h : (a :: l).length ≤ 1000000) : Option.bind (some (FV.list (a :: l))) FV.truth = some true := if_pos h
theorem so_first {j : Nat} (hj : 35 < j) {s : So} (h1 : s.g.length ≤ 5) (h2 : sumLen s.all ≤ 25) (h3 : s.runs.length ≤ 50) :
  ∃ chg, (∀ k ∈ chg, k = 2 ∨ k = 3) ∧ Dn j 35 [.o 1] (soLed s) = some (.f (.bool (okP 0 (mergeAll s.all).length)), soLed s.fst, chg) := by
 obtain ⟨cs, ds, rs, g, runs, taken, told, place⟩ := s
 have hm := mergeAll_len (So.all ⟨cs, ds, rs, g, runs, taken, told, place⟩)
 have e2 := so_valid (j := 35) (by decide) (s := So.fst ⟨cs, ds, rs, g, runs, taken, told, place⟩) (by show (mergeAll _).length ≤ 1000; exact O14)
 induction g using List.casesOn with
 | nil =>
  have ha : So.all ⟨cs, ds, rs, [], runs, taken, told, place⟩ = runs := List.append_nil _
  unfold So.fst at e2 ⊢
  rw [ha] at e2 h2 ⊢
  induction runs using List.casesOn with
  | nil =>
   rw [if_pos rfl, mergeAll_nil] at e2 ⊢
   refine ⟨[], (fun k h => nomatch h), ?_⟩
   exact tp_call hj rfl [aP _, aC, aC, aC, aP _, aC, aC, aC, aP _, aC, aC, aS _, aS _, aQ _] fun fin => (aI ag_gath <| aI ag_runs <| aI ag_runs <| aI ap_told <| aI ap_place <| aI aT <| aI m34 <| aI aT <| aI e2 <| aI aT <| fin :)
  | cons r rs' =>
   obtain ⟨c', hc, e1⟩ := fi_loop (A := infoV cs ds) (B := .int rs) (E := .int taken) (F := .list (told.map iv)) (G := .int place) (gl := []) (r :: rs') 60 [] (Nat.le_trans h3 (by decide)) (by decide) h2 (Nat.le_trans h3 (by decide))
   rw [show runsOf (r :: rs') = [mergeAll (r :: rs')] from if_neg (List.cons_ne_nil _ _)] at e1
   rw [if_neg (List.cons_ne_nil _ _)] at e2 ⊢
   refine ⟨c' ++ [], (fun k h => .inr (hc k (by rw [List.append_nil] at h; exact h))), ?_⟩
   have e3 := idxL_ok (l := [runV (mergeAll (r :: rs'))]) (k := 0) (by decide) rfl
   exact tp_call hj rfl [aP _, aC, aC, aO _, aP _, aC, aC, aP _, aV _, aS _, aS _, aQ _] fun fin => (aI ag_gath <| aI e1 <| aI ag_runs <| aI ag_runs <| aI held_c <| aI e3 <| aI ap_told <| aI ap_place <| aI held_c <| aI m34 <| aI aT <| aI e2 <| aI aT <| fin :)
 | cons g0 gs =>
  have ha : So.all ⟨cs, ds, rs, g0 :: gs, runs, taken, told, place⟩ = runs ++ [ms5 (g0 :: gs)] := by unfold So.all; rw [if_neg (List.cons_ne_nil _ _)]
  have h1 : gs.length + 1 ≤ 5 := h1
  have h3 : runs.length ≤ 50 := h3
  unfold So.fst at e2 ⊢
  rw [ha] at e2 h2 ⊢
  have hl : (runs ++ [ms5 (g0 :: gs)]).length ≤ 60 := by rw [List.length_append]; show _ + 1 ≤ 60; exact O2
  obtain ⟨c', hc, e1⟩ := fi_loop (A := infoV cs ds) (B := .int rs) (E := .int taken) (F := .list (told.map iv)) (G := .int place) (gl := []) (runs ++ [ms5 (g0 :: gs)]) 60 [2] hl (by decide) h2 (Nat.le_trans hl (by decide))
  rw [show runsOf (runs ++ [ms5 (g0 :: gs)]) = [mergeAll (runs ++ [ms5 (g0 :: gs)])] from if_neg (by simp)] at e1
  rw [if_neg (by simp)] at e2 ⊢
  refine ⟨c' ++ [2], (fun k h => ((List.mem_append.mp h).elim (fun h => .inr (hc k h)) fun h => .inl (List.mem_singleton.mp h))), ?_⟩
  have e3 := idxL_ok (l := [runV (mergeAll (runs ++ [ms5 (g0 :: gs)]))]) (k := 0) (by decide) rfl
  exact tp_call hj rfl [aP _, aY, aC, aQ _, aO _, aP _, aC, aC, aP _, aV _, aS _, aS _, aQ _] fun fin => (aI ag_gath <| aI (truL_ok (a := iv g0) (l := gs.map iv) (by rw [List.length_cons, List.length_map]; exact O1)) <| aI held_c <| aI m32 <| aI aT <| aI (so_end (j := 35) (by decide) (s := ⟨cs, ds, rs, g0 :: gs, runs, taken, told, place⟩) (Nat.succ_pos _) h1 (by show runs.length ≤ 100; exact O1)) <| aI aT <| aI e1 <| aI ag_runs <| aI ag_runs <| aI held_c <| aI e3 <| aI ap_told <| aI ap_place <| aI held_c <| aI m34 <| aI aT <| aI e2 <| aI aT <| fin :)
theorem so_values {j : Nat} (hj : 38 < j) {s : So} {k : Nat} {a : It} {row : List Nat} (hp : s.place = k) (hk : s.told[k]? = some a) (h : s.told.length ≤ 1000) (ha : a.r = enc row) (hr : ∀ i ∈ row, i < 32) (hl : row.length ≤ 6) :
  Dn j 38 [.o 1] (soLed s) = some (.f (.list (row.map val)), soLed s, []) := by
 have e1 := so_record (j := 38) (by decide) hp hk h
 rw [ha] at e1
 exact tp_call hj rfl [aQ _, aV _] fun fin => (aI aT <| aI m37 <| aI aT <| aI e1 <| aI aT <| aI (s_dec (j := 38) (by decide) hr hl) <| fin :)
theorem so_value {j : Nat} (hj : 39 < j) {s : So} {k q : Nat} {a : It} {row : List Nat} (hp : s.place = k) (hk : s.told[k]? = some a) (h : s.told.length ≤ 1000) (ha : a.r = enc row) (hr : ∀ i ∈ row, i < 32) (hl : row.length ≤ 6) :
  Dn j 39 [.o 1, .f (.int q)] (soLed s) = some (.f (colV row q), soLed s, []) := by
 have e1 := so_record (j := 39) (by decide) hp hk h
 rw [ha] at e1
 exact tp_call hj rfl [aQ _, aV _] fun fin => (aI aT <| aI m37 <| aI aT <| aI e1 <| aI aT <| aI (s_col (j := 39) (by decide) hr hl q) <| fin :)
noncomputable def intOf (i : Nat) : Int := match val i with | .int z => z | _ => 0
noncomputable def strO (i : Nat) : List Nat := match val i with | .str s => s.cps.toList | _ => []
noncomputable def bytO (i : Nat) : List UInt8 := match val i with | .bytes s => s | _ => []
theorem k_int : ((List.range 32).all fun i => !(rk (val i) == 1) || FV.same (val i) (.int (intOf i))) = true := by decide +kernel
theorem k_str : ((List.range 32).all fun i => !(rk (val i) == 2) || (FV.same (val i) (.str ⟨⟨strO i⟩⟩) && decide (12 ≤ i) && decide (i < 23))) = true := by decide +kernel
theorem k_byt : ((List.range 32).all fun i => !(rk (val i) == 3) || FV.same (val i) (.bytes (bytO i))) = true := by decide +kernel
theorem k_rk : ((List.range 32).all fun i => decide (rk (val i) ≤ 3)) = true := by decide +kernel
section
variable {i c : Nat} (hi : i < 32)
include hi
theorem v_int (h : rk (val i) = 1) : val i = .int (intOf i) := FV.same_eq (or_of (all_at k_int hi) (beq_iff_eq.mpr h))
theorem v_byt (h : rk (val i) = 3) : val i = .bytes (bytO i) := FV.same_eq (or_of (all_at k_byt hi) (beq_iff_eq.mpr h))
theorem v_str0 (h : rk (val i) = 2) : (FV.same (val i) (.str ⟨⟨strO i⟩⟩) && decide (12 ≤ i) && decide (i < 23)) = true := or_of (all_at k_str hi) (beq_iff_eq.mpr h)
theorem v_str (h : rk (val i) = 2) : val i = .str ⟨⟨strO i⟩⟩ := FV.same_eq (Bool.and_eq_true_iff.mp (Bool.and_eq_true_iff.mp (v_str0 hi h)).1).1
theorem v_str1 (h : rk (val i) = 2) : 12 ≤ i := of_decide_eq_true (Bool.and_eq_true_iff.mp (Bool.and_eq_true_iff.mp (v_str0 hi h)).1).2
theorem v_str2 (h : rk (val i) = 2) : i < 23 := of_decide_eq_true (Bool.and_eq_true_iff.mp (v_str0 hi h)).2
theorem y_int (h : rk (val i) = 1) : keyV i c = .int (intOf i) := by unfold keyV; rw [v_int hi h]
theorem y_byt (h : rk (val i) = 3) : keyV i c = .bytes (bytO i) := by unfold keyV; rw [v_byt hi h]
theorem y_str (h : rk (val i) = 2) : keyV i c = .str ⟨⟨foldL c (strO i)⟩⟩ := by unfold keyV; rw [v_str hi h]
end
theorem same_kind {i k c : Nat} (hi : i < 32) (hk : k < 32) (hr : rk (val i) = rk (val k)) (h0 : rk (val i) ≠ 0) :
  ∃ be bl, chainCmp .Eq (keyV i c) (keyV k c) = some be ∧ chainCmp .Lt (keyV i c) (keyV k c) = some bl ∧ FV.eqB (keyV i c) (keyV k c) = some be ∧ FV.ltB (keyV i c) (keyV k c) = some bl := by
 have h3 : rk (val i) ≤ 3 := of_decide_eq_true (all_at k_rk hi)
 rcases (by omega : rk (val i) = 1 ∨ rk (val i) = 2 ∨ rk (val i) = 3) with h | h | h
 ·rw [y_int hi h, y_int hk (hr ▸ h)]; exact ⟨_, _, rfl, rfl, rfl, rfl⟩
 ·rw [y_str hi h, y_str hk (hr ▸ h)]; exact ⟨_, _, rfl, rfl, rfl, rfl⟩
 ·rw [y_byt hi h, y_byt hk (hr ▸ h)]; exact ⟨_, _, rfl, rfl, rfl, rfl⟩
theorem keyV_same {i c : Nat} (h : rk (val i) ≠ 2) : keyV i c = val i := by
 unfold keyV
 generalize val i = v at *
 induction v using FV.casesOn <;> first | rfl | exact absurd rfl h
theorem sgn_ne {i k c : Nat} (h : rk (val i) ≠ rk (val k)) : sgn i k c = if rk (val i) < rk (val k) then -1 else 1 := if_pos h
theorem sgn_0 {i k c : Nat} (h : rk (val i) = rk (val k)) (h0 : rk (val i) = 0) : sgn i k c = 0 := by unfold sgn; rw [if_neg (fun q => q h), if_pos h0]
theorem sgn_eq {i k c : Nat} {be bl : Bool} (h : rk (val i) = rk (val k)) (h0 : rk (val i) ≠ 0) (e : FV.eqB (keyV i c) (keyV k c) = some be) (l : FV.ltB (keyV i c) (keyV k c) = some bl) : sgn i k c = if be = true then 0 else if bl = true then -1 else 1 := by
 unfold sgn; rw [if_neg (fun q => q h), if_neg h0, e, l]
 induction be <;> cases bl <;> rfl
theorem s_sign {j : Nat} (hj : 46 < j) {i k c : Nat} (hi : i < 32) (hk : k < 32) (hc : c < 3) : D1 (Dn j) 46 [.f (val i), .f (val k), .f (colOf c)] = some (.int (sgn i k c)) := by
 have r1 := s_rank hi (j := 46) (by decide)
 have r2 := s_rank hk (j := 46) (by decide)
 by_cases hr : rk (val i) = rk (val k)
 ·rw [← hr] at r2
  have nr : (!((rk (val i) : Int) == (rk (val i) : Int))) = false := by rw [beq_self_eq_true]; rfl
  by_cases h0 : rk (val i) = 0
  ·rw [sgn_0 hr h0]
   rw [h0] at r1 r2
   exact tp_fn hj rfl [aV _, aV _, aC, aC, aC, aC] fun fin => (aI r1 <| aI r2 <| fin :)
  ·obtain ⟨be, bl, e1, e2, e3, e4⟩ := same_kind (c := c) hi hk hr h0
   rw [sgn_eq hr h0 e3 e4]
   have n0 := eqI_no (a := (rk (val i) : Int)) (b := 0) O40
   by_cases h2 : rk (val i) = 2
   ·have h2' : rk (val k) = 2 := by rw [← hr]; exact h2
    have g1 := s_fold (v_str1 hi h2) (v_str2 hi h2) hc (j := 46) (by decide)
    have g2 := s_fold (v_str1 hk h2') (v_str2 hk h2') hc (j := 46) (by decide)
    rw [h2] at r1 r2
    induction be with
    | true => exact tp_fn hj rfl [aV _, aV _, aC, aC, aC, aC, aC, aC, aV _, aV _, aY, aC] fun fin => (aI r1 <| aI r2 <| aI g1 <| aI g2 <| aI e1 <| fin :)
    | false => induction bl with
     | true => exact tp_fn hj rfl [aV _, aV _, aC, aC, aC, aC, aC, aC, aV _, aV _, aN, aC, aY, aC] fun fin => (aI r1 <| aI r2 <| aI g1 <| aI g2 <| aI e1 <| aI e2 <| fin :)
     | false => exact tp_fn hj rfl [aV _, aV _, aC, aC, aC, aC, aC, aC, aV _, aV _, aN, aC, aN, aC] fun fin => (aI r1 <| aI r2 <| aI g1 <| aI g2 <| aI e1 <| aI e2 <| fin :)
   ·have k1 := keyV_same (c := c) h2
    have k2 := keyV_same (i := k) (c := c) (by rw [← hr]; exact h2)
    rw [k1, k2] at e1 e2
    have n2 := eqI_no (a := (rk (val i) : Int)) (b := 2) O40
    induction be with
    | true => exact tp_fn hj rfl [aV _, aV _, aC, aN, aC, aN, aC, aN, aY, aC] fun fin => (aI r1 <| aI r2 <| aI nr <| aI n0 <| aI n2 <| aI e1 <| fin :)
    | false => induction bl with
     | true => exact tp_fn hj rfl [aV _, aV _, aC, aN, aC, aN, aC, aN, aN, aC, aY, aC] fun fin => (aI r1 <| aI r2 <| aI nr <| aI n0 <| aI n2 <| aI e1 <| aI e2 <| fin :)
     | false => exact tp_fn hj rfl [aV _, aV _, aC, aN, aC, aN, aC, aN, aN, aC, aN, aC] fun fin => (aI r1 <| aI r2 <| aI nr <| aI n0 <| aI n2 <| aI e1 <| aI e2 <| fin :)
 ·have nr := neI_yes (a := (rk (val i) : Int)) (b := (rk (val k) : Int)) O40
  rw [sgn_ne hr]
  by_cases hl : rk (val i) < rk (val k)
  ·have hl' : ((rk (val i) : Int) < (rk (val k) : Int)) := Int.ofNat_lt.mpr hl
   rw [if_pos hl]
   exact tp_fn hj rfl [aV _, aV _, aC, aY, aC, aY] fun fin => (aI r1 <| aI r2 <| aI nr <| aI (decide_eq_true hl') <| fin :)
  ·have hl' : ¬ ((rk (val i) : Int) < (rk (val k) : Int)) := fun q => hl (Int.ofNat_lt.mp q)
   rw [if_neg hl]
   exact tp_fn hj rfl [aV _, aV _, aC, aY, aC, aN] fun fin => (aI r1 <| aI r2 <| aI nr <| aI (decide_eq_false hl') <| fin :)
noncomputable def ordL : List Nat → List Nat → List Nat → List Bool → Int
 | i :: a, k :: b, c :: cs, d :: ds => if sgn i k c ≠ 0 then (if d then 0 - sgn i k c else sgn i k c) else ordL a b cs ds
 | _, _, _, _ => 0
theorem ordL_cons (i k c : Nat) (d : Bool) (a b cs : List Nat) (ds : List Bool) : ordL (i :: a) (k :: b) (c :: cs) (d :: ds) = if sgn i k c ≠ 0 then (if d then 0 - sgn i k c else sgn i k c) else ordL a b cs ds := rfl
noncomputable def ordO (x : Int) : Out := if x ≠ 0 then .ret (.f (.int x)) else .next
theorem tail_upto {α : Type} {a : α} {l V : List α} {k n : Nat} (h : ∀ t, t < n + 1 → (a :: l)[t]? = V[k + t]?) : ∀ t, t < n → l[t]? = V[k + 1 + t]? := fun t ht => by
 rw [Nat.add_assoc, Nat.add_comm 1 t]; exact h (t + 1) (Nat.succ_lt_succ ht)
theorem ord_loop {A B CS : List Nat} {DS : List Bool} (hcl : CS.length ≤ 3) : ∀ (a b cs : List Nat) (ds : List Bool) (k : Nat) (v4 v5 : Option PV), (∀ i ∈ a, i < 32) → (∀ i ∈ b, i < 32) → (∀ c ∈ cs, c < 3) → k + cs.length = CS.length →
  cs.length ≤ a.length → cs.length ≤ b.length → cs.length = ds.length → (∀ t, t < cs.length → a[t]? = A[k + t]?) → (∀ t, t < cs.length → b[t]? = B[k + t]?) → (∀ t, cs[t]? = CS[k + t]?) → (∀ t, ds[t]? = DS[k + t]?) →
  ∃ st, forLoop (run (pr 47) 39) 4 l_law_order_0 ((List.range' k cs.length).map fun (k : Nat) => FV.int (k : Int)) { loc := [some (.f (.list (A.map val))), some (.f (.list (B.map val))), some (.f (.tup (CS.map colOf))), some (.f (.tup (DS.map .bool))), v4, v5], led := [], chg := [], lent := [] } =
   some (ordO (ordL a b cs ds), st) := by
 intro a b cs
 induction cs generalizing a b with
 | nil => exact fun ds k v4 v5 _ _ _ _ _ _ _ _ _ _ _ => ⟨{ loc := [some (.f (.list (A.map val))), some (.f (.list (B.map val))), some (.f (.tup (CS.map colOf))), some (.f (.tup (DS.map .bool))), v4, v5], led := [], chg := [], lent := [] }, by induction a using List.casesOn <;> cases b <;> rfl⟩
 | cons c cs rc =>
  intro ds k v4 v5 ha hb hc hk l1 l2 l3 gA gB gC gD
  induction a using List.casesOn with
  | nil => exact nomatch l1
  | cons i a =>
  induction b using List.casesOn with
  | nil => exact nomatch l2
  | cons q b =>
  induction ds using List.casesOn with
  | nil => exact nomatch l3
  | cons d ds =>
  have hi : i < 32 := ha i (List.mem_cons_self ..)
  have hq : q < 32 := hb q (List.mem_cons_self ..)
  have hc0 : c < 3 := hc c (List.mem_cons_self ..)
  rw [List.length_cons] at hk
  have e1 := idxL_ok (by omega) (map_at (f := val) (gA 0 (Nat.succ_pos _)).symm)
  have e2 := idxL_ok (by omega) (map_at (f := val) (gB 0 (Nat.succ_pos _)).symm)
  have e3 := idxT_ok (by omega) (map_at (f := colOf) (gC 0).symm)
  have e4 := idxT_ok (by omega) (map_at (f := FV.bool) (gD 0).symm)
  have e6 := s_sign (j := 47) (by decide) hi hq hc0
  rw [ordL_cons]
  by_cases h0 : sgn i q c = 0
  ·rw [if_neg (fun q => q h0)]
   rw [h0] at e6
   obtain ⟨st, ih⟩ := rc a b ds (k + 1) (some (.f (.int k))) (some (.f (.int 0))) (fun j hj => ha j (List.mem_cons_of_mem _ hj)) (fun j hj => hb j (List.mem_cons_of_mem _ hj)) (fun j hj => hc j (List.mem_cons_of_mem _ hj)) (by omega) (Nat.le_of_succ_le_succ l1) (Nat.le_of_succ_le_succ l2) (Nat.succ.inj l3)
    (tail_upto gA) (tail_upto gB) (tail_at gC) (tail_at gD)
   exact tp_forE [aV _, aV _, aV _, aV _, aC, aC, aO _] fun fin => (aI e1 <| aI e2 <| aI e3 <| aI e6 <| aI ih <| fin :)
  ·rw [if_pos h0]
   have n0 := neI_yes h0
   induction d with
   | true =>
    have : ordO (if true = true then 0 - sgn i q c else sgn i q c) = .ret (.f (.int (0 - sgn i q c))) := by rw [if_pos rfl]; exact if_pos (by omega)
    rw [this]
    exact tp_forE [aV _, aV _, aV _, aV _, aC, aY, aV _, aC, aC] fun fin => (aI e1 <| aI e2 <| aI e3 <| aI e6 <| aI n0 <| aI e4 <| fin :)
   | false =>
    have : ordO (if false = true then 0 - sgn i q c else sgn i q c) = .ret (.f (.int (sgn i q c))) := by rw [if_neg (by decide)]; exact if_pos h0
    rw [this]
    exact tp_forE [aV _, aV _, aV _, aV _, aC, aY, aV _, aC] fun fin => (aI e1 <| aI e2 <| aI e3 <| aI e6 <| aI n0 <| aI e4 <| fin :)
theorem s_order {j : Nat} (hj : 47 < j) {a b cs : List Nat} {ds : List Bool} (ha : ∀ i ∈ a, i < 32) (hb : ∀ i ∈ b, i < 32) (hc : ∀ c ∈ cs, c < 3) (l1 : cs.length ≤ a.length) (l2 : cs.length ≤ b.length) (l3 : cs.length = ds.length) (l4 : cs.length ≤ 3) :
  D1 (Dn j) 47 [.f (.list (a.map val)), .f (.list (b.map val)), .f (.tup (cs.map colOf)), .f (.tup (ds.map .bool))] = some (.int (ordL a b cs ds)) := by
 obtain ⟨st, e1⟩ := ord_loop (A := a) (B := b) (CS := cs) (DS := ds) l4 a b cs ds 0 none none ha hb hc (by omega) l1 l2 l3 (fun t _ => by rw [Nat.zero_add]) (fun t _ => by rw [Nat.zero_add]) (fun t => by rw [Nat.zero_add]) (fun t => by rw [Nat.zero_add])
 have e2 := rng_nat0 (s := cs.length) O2
 have e3 := lenT_ok (b := cs.map colOf) (List.length_map ..) O1
 by_cases h0 : ordL a b cs ds = 0
 ·rw [h0] at e1 ⊢
  have e1 : _ = some (Out.next, st) := e1
  exact tp_fn hj rfl [aV _, aC, aL _, aO _] fun fin => (aI e3 <| aI e2 <| aI e1 <| fin :)
 ·rw [show ordO (ordL a b cs ds) = .ret (.f (.int (ordL a b cs ds))) from if_pos h0] at e1
  exact tp_fn hj rfl [aV _, aC, aL _, aO _] fun fin => (aI e3 <| aI e2 <| aI e1 <| fin :)
noncomputable def rowV (r : List Nat) : FV := .list (r.map val)
noncomputable def posL (cs : List Nat) (ds : List Bool) (r : List Nat) (P : List (List Nat)) : Nat → Nat
 | 0 => 0
 | k + 1 => if ordL r (P[k]?.getD []) cs ds < 0 then posL cs ds r P k else k + 1
theorem posL_le {cs ds r P} : ∀ k, posL cs ds r P k ≤ k
 | 0 => Nat.le_refl _
 | k + 1 => by
  rw [posL]
  split
  ·exact Nat.le_succ_of_le (posL_le k)
  ·exact Nat.le_refl _
noncomputable def insL (cs : List Nat) (ds : List Bool) (P : List (List Nat)) (r : List Nat) : List (List Nat) := P.take (posL cs ds r P P.length) ++ [r] ++ P.drop (posL cs ds r P P.length)
noncomputable def okRow (n : Nat) (r : List Nat) : Prop := (∀ i ∈ r, i < 32) ∧ n ≤ r.length ∧ r.length ≤ 6
theorem insL_len {cs ds P r} : (insL cs ds P r).length = P.length + 1 := by
 unfold insL
 have := posL_le (cs := cs) (ds := ds) (r := r) (P := P) P.length
 rw [List.length_append, List.length_append, List.length_take, List.length_drop]
 show _ + 1 + _ = _
 omega
theorem insL_mem {cs ds P r x} (h : x ∈ insL cs ds P r) : x = r ∨ x ∈ P := by
 unfold insL at h
 rcases List.mem_append.mp h with h | h
 ·rcases List.mem_append.mp h with h | h
  ·exact .inr (List.mem_of_mem_take h)
  ·exact .inl (List.mem_singleton.mp h)
 ·exact .inr (List.mem_of_mem_drop h)
theorem pos_loop {cs : List Nat} {ds : List Bool} (hc : ∀ c ∈ cs, c < 3) (l3 : cs.length = ds.length) (l4 : cs.length ≤ 3) {P : List (List Nat)} {r : List Nat} (hr : okRow cs.length r) (hP : ∀ p ∈ P, okRow cs.length p) {a0 : Option PV} : ∀ (at_ m : Nat), at_ < m → at_ ≤ P.length → at_ ≤ 1000 →
  whileLoop (run (pr 48) 38) c_law_sorted_0 l_law_sorted_0 m { loc := [a0, some (.f (.tup (cs.map colOf))), some (.f (.tup (ds.map .bool))), some (.f (.list (P.map rowV))), some (.f (rowV r)), some (.f (.int at_))], led := [], chg := [], lent := [4] } =
   some (.next, { loc := [a0, some (.f (.tup (cs.map colOf))), some (.f (.tup (ds.map .bool))), some (.f (.list (P.map rowV))), some (.f (rowV r)), some (.f (.int (posL cs ds r P at_)))], led := [], chg := [], lent := [4] }) := by
 intro at_
 induction at_ with
 | zero =>
  intro m hm _ _
  induction m using Nat.casesOn with
  | zero => exact absurd hm (Nat.not_lt_zero _)
  | succ m =>
  exact tp_while [aC, aC, aC] fun fin => (fin :)
 | succ k rc =>
  intro m hm hk hl
  induction m using Nat.casesOn with
  | zero => exact absurd hm (Nat.not_lt_zero _)
  | succ m =>
  have hk' : k < P.length := by assumption
  have g0 : P[k]? = some P[k] := List.getElem?_eq_getElem hk'
  have hp := hP _ (List.getElem_mem hk')
  have e1 : D1 (Dn 48) 47 [.f (rowV r), .f (rowV P[k]), .f (.tup (cs.map colOf)), .f (.tup (ds.map .bool))] = some (.int (ordL r P[k] cs ds)) := s_order (j := 48) (by decide) hr.1 hp.1 hc hr.2.1 hp.2.1 l3 l4
  have e2 := idxL_ok (l := P.map rowV) (k := k) O20 (map_at (f := rowV) g0)
  have e3 : binFV .Sub (.int ((k + 1 : Nat) : Int)) (.int 1) = some (.int k) := congrArg (fun x => some (FV.int x)) (by omega)
  have e5 : ((k + 1 : Nat) : Int) > 0 := by omega
  rw [posL, g0, Option.getD_some]
  by_cases h : ordL r P[k] cs ds < 0
  ·rw [if_pos h]
   exact tp_while [aC, aY, aV _, aV _, aV _, aC, aY, aC, aV _, aO _] fun fin => (aI (decide_eq_true e5) <| aI e3 <| aI e2 <| aI e1 <| aI (decide_eq_true h) <| aI e3 <| aI (rc m O27 O16 O16) <| fin :)
  ·rw [if_neg h]
   exact tp_while [aC, aY, aV _, aV _, aV _, aC, aN, aC] fun fin => (aI (decide_eq_true e5) <| aI e3 <| aI e2 <| aI e1 <| aI (decide_eq_false h) <| fin :)
theorem srt_loop {cs : List Nat} {ds : List Bool} (hc : ∀ c ∈ cs, c < 3) (l3 : cs.length = ds.length) (l4 : cs.length ≤ 3) {a0 : Option PV} : ∀ (rows P : List (List Nat)) (v4 v5 : Option PV), (∀ p ∈ rows, okRow cs.length p) → (∀ p ∈ P, okRow cs.length p) → rows.length + P.length ≤ 50 →
  ∃ w4 w5, forLoop (run (pr 48) 39) 4 l_law_sorted_1 (rows.map rowV) { loc := [a0, some (.f (.tup (cs.map colOf))), some (.f (.tup (ds.map .bool))), some (.f (.list (P.map rowV))), v4, v5], led := [], chg := [], lent := [4] } =
   some (.next, { loc := [a0, some (.f (.tup (cs.map colOf))), some (.f (.tup (ds.map .bool))), some (.f (.list ((rows.foldl (insL cs ds) P).map rowV))), w4, w5], led := [], chg := [], lent := [4] }) := by
 intro rows
 induction rows with
 | nil => exact fun P v4 v5 _ _ _ => ⟨v4, v5, rfl⟩
 | cons r rows rc =>
  intro P v4 v5 hr hP hl
  rw [List.length_cons] at hl
  obtain ⟨w4, w5, ih⟩ := rc (insL cs ds P r) (some (.f (rowV r))) (some (.f (.int (posL cs ds r P P.length)))) (fun p hp => hr p (List.mem_cons_of_mem _ hp)) (fun p hp => (insL_mem hp).elim (fun h => h ▸ hr r (List.mem_cons_self ..)) (hP p)) (by rw [insL_len]; exact O63)
  refine ⟨w4, w5, ?_⟩
  have hle := posL_le (cs := cs) (ds := ds) (r := r) (P := P) P.length
  have hlm : (P.map rowV).length = P.length := List.length_map ..
  have e5 : posL cs ds r P P.length < 2 ^ 62 := by omega
  have h2 : ((P.map rowV).take (posL cs ds r P P.length)).length = posL cs ds r P P.length := by rw [List.length_take]; omega
  rw [show (insL cs ds P r).map rowV = (P.map rowV).take (posL cs ds r P P.length) ++ [rowV r] ++ (P.map rowV).drop (posL cs ds r P P.length) by
   unfold insL; rw [List.map_append, List.map_append, List.map_take, List.map_drop]; rfl] at ih
  rw [List.foldl_cons]
  exact tp_for [aV _, aO _, aV _, aV _, aV _, aV _, aO _] fun fin => (aI (lenL_ok (b := P.map rowV) (List.length_map ..) O21) <| aI (pos_loop hc l3 l4 (hr r (List.mem_cons_self ..)) hP (a0 := a0) P.length 60 (by omega) (Nat.le_refl _) O21) <| aI (decide_eq_true e5) <| aI (sl_to (l := P.map rowV) (a := posL cs ds r P P.length) (by omega) (by omega)) <| aI (addL_ok (b := (P.map rowV).take (posL cs ds r P P.length)) (c := [rowV r]) (by rw [h2]; show _ + 1 ≤ _; omega)) <| aI (decide_eq_true e5) <| aI (slF_ok (l := P.map rowV) (a := posL cs ds r P P.length) (by omega) (by omega)) <| aI (addL_ok (b := (P.map rowV).take (posL cs ds r P P.length) ++ [rowV r]) (c := (P.map rowV).drop (posL cs ds r P P.length)) (by rw [List.length_append, h2, List.length_drop]; show _ + 1 + _ ≤ _; omega)) <| aI ih <| fin :)
noncomputable def sortL (cs : List Nat) (ds : List Bool) (rows : List (List Nat)) : List (List Nat) := rows.foldl (insL cs ds) []
theorem s_sorted {j : Nat} (hj : 48 < j) {cs : List Nat} {ds : List Bool} (hc : ∀ c ∈ cs, c < 3) (l3 : cs.length = ds.length) (l4 : cs.length ≤ 3) {rows : List (List Nat)} (hr : ∀ p ∈ rows, okRow cs.length p) (hl : rows.length ≤ 50) :
  Dn j 48 [.o 4, .f (.tup (cs.map colOf)), .f (.tup (ds.map .bool))] [(4, .list (rows.map rowV))] = some (.f (.list ((sortL cs ds rows).map rowV)), [(4, .list (rows.map rowV))], []) := by
 obtain ⟨w4, w5, e1⟩ := srt_loop hc l3 l4 (a0 := some (.o 4)) rows [] none none hr (fun p hp => nomatch hp) (by show _ + 0 ≤ 50; assumption)
 exact tp_call hj rfl [aO _] fun fin => (aI e1 <| fin :)
noncomputable def goneS (s : So) (chg : List Nat) : List Nat := goneOf [1, 2, 3] ((soLed s).filter fun p => [1, 2, 3].contains p.1) chg
theorem goneS_mem {s : So} {chg : List Nat} (hc : chg.contains 1 = false) {k : Nat} (h : k ∈ goneS s chg) : k = 2 ∨ k = 3 := by
 unfold goneS goneOf at h
 obtain ⟨h1, h2⟩ := List.mem_filter.mp h
 rcases List.mem_cons.mp h1 with rfl | h1
 ·exact absurd (hc.symm.trans h2) (by decide)
 ·rcases List.mem_cons.mp h1 with rfl | h1
  ·exact .inl rfl
  ·exact .inr (List.mem_singleton.mp h1)
theorem back_all {s : So} {chg : List Nat} {st : St} (hc : chg.contains 1 = false) (h2 : st.mentioned 2 = false) (h3 : st.mentioned 3 = false) : ((goneS s chg).all fun k => !st.mentioned k) = true :=
 List.all_eq_true.mpr fun k hk => by
  rcases goneS_mem hc hk with rfl | rfl
  ·rw [h2]; rfl
  ·rw [h3]; rfl
theorem and4 {a b c d e : Bool} (h : a = true) (h2 : b = true) (h3 : c = true) (h4 : d = true) (h5 : e = true) : (a && b && c && d && e) = true := by rw [h, h2, h3, h4, h5]; rfl
theorem no1_of {l : List Nat} (h : ∀ k ∈ l, k ≠ 1) : l.contains 1 = false := by
 cases e : l.contains 1 with
 | false => rfl
 | true => exact absurd rfl (h 1 (List.contains_iff_mem.mp e))
theorem no_cut (c : List Nat) (k : Nat) : (!(c.take (c.length - c.length)).contains k) = true := by rw [Nat.sub_self]; rfl
theorem n36 : (!(soN.contains (mnameOf 36))) = true := by kernel_rfl
noncomputable def recV (a : It) : FV := .bytes a.r
theorem okP_t {k n : Nat} (h : k < n) : okP (k : Int) n = true := okP_yes (Int.natCast_nonneg _) (Int.ofNat_lt.mpr h)
theorem okP_f {k n : Nat} (h : ¬ k < n) : okP (k : Int) n = false := okP_no2 (Int.natCast_nonneg _) (fun q => h (Int.ofNat_lt.mp q))
theorem told_loop {s : So} (hn : s.told.length ≤ 30) {chg : List Nat} : ∀ (m k : Nat) (acc : List FV), s.told.length - k < m → k ≤ s.told.length → acc.length = k →
  whileLoop (run (pr 49) 39) c_law_told_0 l_law_told_0 m { loc := [some (.o 1), some (.o 10), some (.f (.bool (okP k s.told.length)))], led := soLed { s with place := k } ++ [(10, .list acc)], chg := chg, lent := [] } =
   some (.next, { loc := [some (.o 1), some (.o 10), some (.f (.bool false))], led := soLed { s with place := s.told.length } ++ [(10, .list (acc ++ (s.told.drop k).map recV))], chg := chg, lent := [] }) := by
 intro m
 induction m with
 | zero => exact fun _ _ h _ _ => absurd h (Nat.not_lt_zero _)
 | succ m rc =>
  intro k acc hm hk ha
  by_cases h : k < s.told.length
  ·have ih := rc (k + 1) (acc ++ [recV s.told[k]]) O66 (by assumption) (by rw [List.length_append, ha]; rfl)
   have g0 : s.told[k]? = some s.told[k] := List.getElem?_eq_getElem h
   have e1 : Dn 49 37 [.o 1] (soLed { s with place := k }) = _ := so_record (j := 49) (s := { s with place := k }) (by decide) rfl g0 (by show s.told.length ≤ 1000; exact O1)
   have e2 : Dn 49 36 [.o 1] (soLed { s with place := k }) = _ := so_next (j := 49) (s := { s with place := k }) (by decide) (by show s.told.length ≤ 1000; exact O1)
   have e3 : (okP (k : Int) s.told.length) = true := okP_t h
   have e4 : acc.length ≤ 1000000 := by omega
   have e6 := lenL_ok ha O13
   have e5 : (k : Int) < 40 := by omega
   have d1 : s.told.drop k = s.told[k] :: s.told.drop (k + 1) := List.drop_eq_getElem_cons h
   rw [List.append_assoc] at ih
   rw [d1, e3]
   have n1 := no_cut chg 1
   have n10 := no_cut chg 10
   exact tp_while [aC, (aVe e6), aC, aY, aC, (aQe e1), (aQe e2), (aOe ih)] fun fin => kp (by kernel_rfl) (aI e6 <| aI (decide_eq_true e5) <| aI n1 <| aI aT <| aI aT <| aI e1 <| aI aT <| aI n10 <| aI e4 <| aI n1 <| aI aT <| aI aT <| aI e2 <| aI aT <| aI ih <| fin)
  ·have hk' : k = s.told.length := by omega
   rw [okP_f h, hk', List.drop_length, List.map_nil, List.append_nil]
   exact tp_while [aC, aC] fun fin => (fin :)
theorem s_told {j : Nat} (hj : 49 < j) {s : So} (h1 : s.g.length ≤ 5) (h2 : sumLen s.all ≤ 25) (h3 : s.runs.length ≤ 50) :
  ∃ chg, chg.contains 1 = false ∧ Dn j 49 [.o 1] (soLed s) = some (.f (.list ((mergeAll s.all).map recV)), soLed { s.fst with place := (mergeAll s.all).length }, chg) := by
 obtain ⟨chg, hc, e1⟩ := so_first (j := 49) (by decide) h1 h2 h3
 have hm := mergeAll_len s.all
 have hc1 : chg.contains 1 = false := no1_of fun k hk => by rcases hc k hk with rfl | rfl <;> decide
 have bk : backOk { loc := [some (.o 1), some (.o 10), none], led := soLed s ++ [(10, .list [])], chg := [], lent := [] } [1, 2, 3] (.f (.bool (okP 0 (mergeAll s.all).length))) ((soLed s.fst).filter fun p => [1, 2, 3].contains p.1) chg = true :=
  and4 (back_all (s := s.fst) (st := { loc := [some (.o 1), some (.o 10), none], led := [(10, .list [])], chg := [], lent := [] }) hc1 rfl rfl) rfl rfl rfl rfl
 refine ⟨10 :: (goneS s.fst chg ++ []), no1_of fun k hk => ?_, ?_⟩
 ·rcases List.mem_cons.mp hk with rfl | hk
  ·decide
  ·rw [List.append_nil] at hk
   rcases goneS_mem hc1 hk with rfl | rfl <;> decide
 ·exact tp_call hj rfl [aQ _, aO _] fun fin => (aI aT <| aI held_c <| aI m35 <| aI aT <| aI e1 <| aI bk <| aI (told_loop (s := s.fst) (by show (mergeAll s.all).length ≤ 30; exact O14) (chg := goneS s.fst chg ++ []) 60 0 [] (by show (mergeAll s.all).length - 0 < 60; omega) (Nat.zero_le _) rfl) <| fin :)
theorem n34 : (!(soN.contains (mnameOf 34))) = true := by kernel_rfl
theorem n38 : (!(soN.contains (mnameOf 38))) = true := by kernel_rfl
theorem n39 : (!(soN.contains (mnameOf 39))) = true := by kernel_rfl
theorem k_self : ((List.range 32).all fun i => (match chainCmp .NotEq (val i) (val i) with | some b => !b | none => false) && (match FV.eqB (val i) (val i) with | some b => b | none => false)) = true := by decide +kernel
theorem ne_val {i : Nat} (h : i < 32) : chainCmp .NotEq (val i) (val i) = some false := by
 have := (Bool.and_eq_true_iff.mp (all_at k_self h)).1
 cases e : chainCmp .NotEq (val i) (val i) with
 | none => rw [e] at this; exact nob this
 | some b => rw [e] at this; induction b <;> first | rfl | cases this
theorem eqB_val {i : Nat} (h : i < 32) : FV.eqB (val i) (val i) = some true := by
 have := (Bool.and_eq_true_iff.mp (all_at k_self h)).2
 cases e : FV.eqB (val i) (val i) with
 | none => rw [e] at this; exact nob this
 | some b => rw [e] at this; induction b <;> first | rfl | cases this
theorem eqL_row : ∀ {r : List Nat}, (∀ i ∈ r, i < 32) → FV.eqL (r.map val) (r.map val) = some true
 | [], _ => rfl
 | i :: r, h => by
  show (FV.eqB (val i) (val i)).bind (fun t => (FV.eqL (r.map val) (r.map val)).map fun u => t && u) = _
  rw [eqB_val (h i (List.mem_cons_self ..)), eqL_row fun u hu => h u (List.mem_cons_of_mem _ hu)]; rfl
theorem ne_row {r : List Nat} (h : ∀ i ∈ r, i < 32) : chainCmp .NotEq (.list (r.map val)) (.list (r.map val)) = some false := by
 show (if (r.map val).length = (r.map val).length then (FV.eqL _ _).map not else some true) = _
 rw [if_pos rfl, eqL_row h]; rfl
theorem listL_ok {l : List FV} (h : l.length ≤ 1000000) : biFV .list [.list l] = some (.list l) := if_pos h
theorem vr_loop {s : So} (hn : s.told.length ≤ 30) {a1 : Option PV} {chg : List Nat} : ∀ (rs : List (List Nat)) (t : Nat) (v3 v4 : Option PV), t + rs.length = s.told.length → (∀ (k : Nat) (r : List Nat), rs[k]? = some r → ∃ a, s.told[t + k]? = some a ∧ a.r = enc r ∧ okRow 1 r) →
  ∃ w3 w4, forLoop (run (pr 50) 39) 3 l_law_values_right_1 (rs.map rowV) { loc := [some (.o 1), a1, some (.f (.bool (okP t s.told.length))), v3, v4], led := soLed { s with place := t }, chg := chg, lent := [] } =
   some (.next, { loc := [some (.o 1), a1, some (.f (.bool false)), w3, w4], led := soLed { s with place := s.told.length }, chg := chg, lent := [] }) := by
 intro rs
 induction rs with
 | nil =>
  intro t v3 v4 ht _
  have ht : t = s.told.length := ht
  exact ⟨v3, v4, by rw [ht, okP_f (Nat.lt_irrefl _)]; rfl⟩
 | cons r rs rc =>
  intro t v3 v4 ht h
  rw [List.length_cons] at ht
  obtain ⟨a, ha, hr, hok1, hok2, hok3⟩ := h 0 r rfl
  rw [Nat.add_zero] at ha
  have hlt : t < s.told.length := (List.getElem?_eq_some_iff.mp ha).1
  have hn1 : s.told.length ≤ 1000 := by exact O1
  obtain ⟨w3, w4, ih⟩ := rc (t + 1) (some (.f (rowV r))) (some (.f (.int r.length))) (by omega) (fun k q hk => by
   have := h (k + 1) q hk
   rwa [show t + (k + 1) = t + 1 + k by exact O25] at this)
  refine ⟨w3, w4, ?_⟩
  have hl0 : 0 < r.length := hok2
  have hl1 : r.length - 1 < r.length := by omega
  have e1 : Dn 50 34 [.o 1] (soLed { s with place := t }) = some (.f (.bool (okP t s.told.length)), soLed { s with place := t }, []) := so_valid (j := 50) (s := { s with place := t }) (by decide) hn1
  rw [okP_t hlt] at e1 ⊢
  have e2 : Dn 50 38 [.o 1] (soLed { s with place := t }) = some (.f (.list (r.map val)), soLed { s with place := t }, []) := so_values (j := 50) (s := { s with place := t }) (by decide) rfl ha hn1 hr hok1 hok3
  have e3 : ∀ q : Nat, Dn 50 39 [.o 1, .f (.int q)] (soLed { s with place := t }) = some (.f (colV r q), soLed { s with place := t }, []) := fun q => so_value (j := 50) (q := q) (s := { s with place := t }) (by decide) rfl ha hn1 hr hok1 hok3
  have e4 : Dn 50 36 [.o 1] (soLed { s with place := t }) = some (.f (.bool (okP (t + 1 : Nat) s.told.length)), soLed { s with place := (t + 1 : Nat) }, []) := so_next (j := 50) (s := { s with place := t }) (by decide) hn1
  have q0 := e3 0
  have q1 := e3 (r.length - 1)
  have q2 := e3 r.length
  rw [show colV r 0 = val r[0] by unfold colV; rw [List.getElem?_eq_getElem hl0]] at q0
  rw [show colV r (r.length - 1) = val r[r.length - 1] by unfold colV; rw [List.getElem?_eq_getElem hl1]] at q1
  rw [show colV r r.length = .none by unfold colV; rw [List.getElem?_eq_none (Nat.le_refl _)]] at q2
  have i0 := idxL_ok (l := r.map val) (k := 0) (by decide) (map_at (f := val) (List.getElem?_eq_getElem hl0))
  have i1 := idxL_ok (l := r.map val) (k := r.length - 1) O9 (map_at (f := val) (List.getElem?_eq_getElem hl1))
  have f1 := listL_ok (l := r.map val) (by rw [List.length_map]; exact O1)
  have f2 := lenL_ok (b := r.map val) (List.length_map ..) O1
  have f3 : binFV .Sub (.int r.length) (.int 1) = some (.int (r.length - 1 : Nat)) := congrArg (fun x => some (FV.int x)) (by omega)
  have c2 : ((0 : Nat) : Int) < (r.length : Int) := Int.ofNat_lt.mpr hl0
  have c3 : ((r.length - 1 : Nat) : Int) < (r.length : Int) := Int.ofNat_lt.mpr hl1
  have c4 : ¬ ((r.length : Int) < (r.length : Int)) := Int.lt_irrefl _
  have n1 := no_cut chg 1
  exact tp_for [aC, (aQe e1), aC, (aQe e2), (aVe f1), (aVe f1), aN, aC, aC, (aVe f2), (aVe f3), (aVe f2), aC, aC, (aQe q0), (aVe f2), aC, aY, (aVe i0), aN, aC, aC, (aQe q1), (aVe f2), aC, aY, (aVe i1), aN, aC, aC, (aQe q2), (aVe f2), aC, aN, aN, aC, aC, (aQe e4), (aOe ih)] fun fin => kp (by kernel_rfl) (aI n1 <| aI n34 <| aI aT <| aI e1 <| aI aT <| aI n1 <| aI n38 <| aI aT <| aI e2 <| aI aT <| aI f1 <| aI f1 <| aI (ne_row hok1) <| aI f2 <| aI f3 <| aI f2 <| aI n1 <| aI n39 <| aI aT <| aI q0 <| aI aT <| aI f2 <| aI (decide_eq_true c2) <| aI i0 <| aI (ne_val (hok1 _ (List.getElem_mem hl0))) <| aI n1 <| aI n39 <| aI aT <| aI q1 <| aI aT <| aI f2 <| aI (decide_eq_true c3) <| aI i1 <| aI (ne_val (hok1 _ (List.getElem_mem hl1))) <| aI n1 <| aI n39 <| aI aT <| aI q2 <| aI aT <| aI f2 <| aI (decide_eq_false c4) <| aI (rfl : chainCmp .NotEq FV.none FV.none = some false) <| aI n1 <| aI n36 <| aI aT <| aI e4 <| aI aT <| aI ih <| fin)
theorem s_vr {j : Nat} (hj : 50 < j) {s : So} (h1 : s.g.length ≤ 5) (h2 : sumLen s.all ≤ 25) (h3 : s.runs.length ≤ 50) {rows : List (List Nat)} (hl : rows.length = (mergeAll s.all).length) (hr : ∀ (k : Nat) (r : List Nat), rows[k]? = some r → ∃ a, (mergeAll s.all)[k]? = some a ∧ a.r = enc r ∧ okRow 1 r) :
  ∃ chg, chg.contains 1 = false ∧ Dn j 50 [.o 1, .f (.list (rows.map rowV))] (soLed s) = some (.f (.bool true), soLed { s.fst with place := (mergeAll s.all).length }, chg) := by
 obtain ⟨chg, hc, e1⟩ := so_first (j := 50) (by decide) h1 h2 h3
 have hm := mergeAll_len s.all
 have hc1 : chg.contains 1 = false := no1_of fun k hk => by rcases hc k hk with rfl | rfl <;> decide
 obtain ⟨w3, w4, e3⟩ := vr_loop (s := s.fst) (by show (mergeAll s.all).length ≤ 30; exact O14) (a1 := some (.f (.list (rows.map rowV)))) (chg := goneS s.fst chg ++ []) rows 0 none none (by rw [Nat.zero_add]; exact hl) (fun k r hk => by rw [Nat.zero_add]; exact hr k r hk)
 have bk : backOk { loc := [some (.o 1), some (.f (.list (rows.map rowV))), none, none, none], led := soLed s, chg := [], lent := [] } [1, 2, 3] (.f (.bool (okP 0 (mergeAll s.all).length))) ((soLed s.fst).filter fun p => [1, 2, 3].contains p.1) chg = true :=
  and4 (back_all (s := s.fst) (st := { loc := [some (.o 1), some (.f (.list (rows.map rowV))), none, none, none], led := [], chg := [], lent := [] }) hc1 rfl rfl) rfl rfl rfl rfl
 have e5 : Dn 50 34 [.o 1] (soLed { s.fst with place := (mergeAll s.all).length }) = some (.f (.bool (okP (mergeAll s.all).length (mergeAll s.all).length)), soLed { s.fst with place := (mergeAll s.all).length }, []) := so_valid (j := 50) (s := { s.fst with place := (mergeAll s.all).length }) (by decide) (by show (mergeAll s.all).length ≤ 1000; exact O14)
 rw [okP_f (Nat.lt_irrefl _)] at e5
 refine ⟨goneS s.fst chg ++ [], no1_of fun k hk => ?_, ?_⟩
 ·rw [List.append_nil] at hk
  rcases goneS_mem hc1 hk with rfl | rfl <;> decide
 ·have n1 := no_cut (goneS s.fst chg ++ []) 1
  exact tp_call hj rfl [aQ _, aC, aO _, aC, aC, aC, aQ _, aC] fun fin => (aI held_c <| aI m35 <| aI aT <| aI e1 <| aI bk <| aI e3 <| aI held_c <| aI m34 <| aI aT <| aI e5 <| aI aT <| fin :)
noncomputable def srcV (a b : Int) : List FV := [.int a, .int b]
noncomputable def OkSrc (a b : Int) : Prop := 0 ≤ a ∧ 0 ≤ b ∧ b < 2147483647
theorem fm_nn (a : Int) {m : Int} (h : 0 < m) : 0 ≤ a.fmod m ∧ a.fmod m < m := ⟨Int.fmod_nonneg_of_pos a h, Int.fmod_lt_of_pos a h⟩
theorem fd_nn {a m : Int} (ha : 0 ≤ a) (h : 0 < m) : 0 ≤ a.fdiv m := Int.fdiv_nonneg ha (Int.le_of_lt h)
theorem mod_ok {a m : Int} (h : m ≠ 0) : binFV .Mod (.int a) (.int m) = some (.int (a.fmod m)) := if_pos h
theorem fdiv_ok {a m : Int} (h : m ≠ 0 ∧ m.natAbs < 1073741824) : binFV .FloorDiv (.int a) (.int m) = some (.int (a.fdiv m)) := if_pos h
theorem mul_ok {a m : Int} (h : m.natAbs < 2 ^ 64) : binFV .Mult (.int a) (.int m) = some (.int (a * m)) := if_pos (by rw [decide_eq_true h]; rfl)
theorem toNat_lt {x : Int} {n : Nat} (h : 0 ≤ x ∧ x < n) : ∃ d : Nat, d < n ∧ x = d := ⟨x.toNat, by omega, by omega⟩
theorem s_take {j : Nat} (hj : 41 < j) {a b : Int} (ho : OkSrc a b) {top : Nat} (h0 : 0 < top) (h1 : top < 1000) :
  ∃ (d : Nat) (a' b' : Int), d < top ∧ OkSrc a' b' ∧ Dn j 41 [.o 0, .f (.int top)] [(0, .list (srcV a b))] = some (.f (.int d), [(0, .list (srcV a' b'))], []) := by
 obtain ⟨ha, hb, hb'⟩ := ho
 have t0 : (0 : Int) < top := Int.ofNat_lt.mpr h0
 have tn : (top : Int) ≠ 0 := Int.ne_of_gt t0
 have tm : (top : Int) ≠ 0 ∧ (top : Int).natAbs < 1073741824 := ⟨tn, by exact O1⟩
 by_cases hp : a > 0
 ·obtain ⟨d, hd, he⟩ := toNat_lt (fm_nn a t0)
  have e1 := mod_ok (a := a) tn
  have e2 := fdiv_ok (a := a) tm
  rw [he] at e1
  refine ⟨d, a.fdiv top, b, hd, ⟨fd_nn ha t0, hb, hb'⟩, ?_⟩
  exact tp_call hj rfl [aC, aC, aY, aC, aC, aV _, aC, aV _] fun fin => (aI aT <| aI (decide_eq_true hp) <| aI aT <| aI e1 <| aI aT <| aI e2 <| aI aT <| fin :)
 ·have e1 := mul_ok (a := b) (m := 39373) (by decide)
  have e2 := mod_ok (a := b * 39373 + 7) (m := 2147483647) (by decide)
  have g1 := fm_nn (b * 39373 + 7) (m := 2147483647) (by decide)
  generalize (b * 39373 + 7).fmod 2147483647 = q at *
  have e6 := mod_ok (a := ((q * q).fmod 2147483629).fdiv 32) tn
  obtain ⟨d, hd, he⟩ := toNat_lt (fm_nn (((q * q).fmod 2147483629).fdiv 32) t0)
  rw [he] at e6
  refine ⟨d, a, q, hd, ⟨ha, g1.1, g1.2⟩, ?_⟩
  exact tp_call hj rfl [aC, aC, aN, aC, aV _, aC, aC, aV _, aC, aC, aV _, aC, aV _, aV _, aC, aV _] fun fin => (aI aT <| aI (decide_eq_false hp) <| aI aT <| aI e1 <| aI e2 <| aI aT <| aI aT <| aI aT <| aI (mul_ok (a := q) (m := q) (by omega)) <| aI (mod_ok (a := q * q) (m := 2147483629) (by decide)) <| aI (fdiv_ok (a := (q * q).fmod 2147483629) (m := 32) (by decide)) <| aI e6 <| fin :)
theorem s_one {j : Nat} (hj : 42 < j) {a b : Int} (ho : OkSrc a b) {things : List FV} (h0 : 0 < things.length) (h1 : things.length < 1000) :
  ∃ (x : FV) (a' b' : Int), x ∈ things ∧ OkSrc a' b' ∧ Dn j 42 [.o 0, .f (.list things)] [(0, .list (srcV a b))] = some (.f x, [(0, .list (srcV a' b'))], []) := by
 obtain ⟨d, a', b', hd, ho', e1⟩ := s_take (j := 42) (by decide) ho h0 h1
 refine ⟨things[d], a', b', List.getElem_mem _, ho', ?_⟩
 exact tp_call hj rfl [aV _, aQ _, aV _] fun fin => (aI (lenL_ok (b := things) rfl O4) <| aI aT <| aI aT <| aI e1 <| aI aT <| aI (idxL_ok (l := things) (k := d) O55 (List.getElem?_eq_getElem hd)) <| fin :)
theorem s_oneR {j : Nat} (hj : 42 < j) {a b : Int} (ho : OkSrc a b) {things : List FV} (h0 : 0 < things.length) (h1 : things.length < 1000) :
  ∃ (x : FV) (a' b' : Int), x ∈ things ∧ OkSrc a' b' ∧ Dn j 42 [.o 0, .o 4] [(0, .list (srcV a b)), (4, .list things)] = some (.f x, [(0, .list (srcV a' b')), (4, .list things)], []) := by
 obtain ⟨d, a', b', hd, ho', e1⟩ := s_take (j := 42) (by decide) ho h0 h1
 refine ⟨things[d], a', b', List.getElem_mem _, ho', ?_⟩
 exact tp_call hj rfl [aV _, aQ _, aV _] fun fin => (aI (lenL_ok (b := things) rfl O4) <| aI aT <| aI aT <| aI e1 <| aI aT <| aI aT <| aI (idxL_ok (l := things) (k := d) O55 (List.getElem?_eq_getElem hd)) <| fin :)
theorem in_pool (l : List FV) (h : (l.all fun x => (List.range 32).any fun i => FV.same x (val i)) = true) {x : FV} (hx : x ∈ l) : ∃ i, i < 32 ∧ x = val i := by
 have := List.all_eq_true.mp h x hx
 obtain ⟨i, hi, hs⟩ := List.any_eq_true.mp this
 exact ⟨i, List.mem_range.mp hi, FV.same_eq hs⟩
noncomputable def ints11 : List FV := [.int 0, .int 1, .int (-1), .int 2, .int 127, .int 128, .int (-129), .int 70000, .int (2 ^ 40), .int (-2 ^ 63), .int (2 ^ 63 - 1)]
noncomputable def strs11 : List FV := [.str (Str.ofString ""), .str (Str.ofString "a"), .str (Str.ofString "A"), .str (Str.ofString "ab"), .str (Str.ofString "Ab"), .str (Str.ofString "b"), .str (Str.ofString "a "), .str (Str.ofString "a  "), .str (Str.ofString " a"), .str (Str.ofString "B "), .str (Str.ofString "b ")]
noncomputable def byts5 : List FV := [.bytes [], .bytes [97], .bytes [0], .bytes [97, 255], .bytes [97, 98]]
theorem p_ints : (ints11.all fun x => (List.range 32).any fun i => FV.same x (val i)) = true := by decide +kernel
theorem p_strs : (strs11.all fun x => (List.range 32).any fun i => FV.same x (val i)) = true := by decide +kernel
theorem p_byts : (byts5.all fun x => (List.range 32).any fun i => FV.same x (val i)) = true := by decide +kernel
theorem s_value {j : Nat} (hj : 43 < j) {a b : Int} (ho : OkSrc a b) :
  ∃ (i : Nat) (a' b' : Int), i < 32 ∧ OkSrc a' b' ∧ Dn j 43 [.o 0] [(0, .list (srcV a b))] = some (.f (val i), [(0, .list (srcV a' b'))], []) := by
 obtain ⟨d, a', b', hd, ho', e1⟩ := s_take (j := 43) (by decide) ho (top := 8) (by decide) (by decide)
 by_cases h0 : d = 0
 ·subst h0
  refine ⟨0, a', b', by decide, ho', ?_⟩
  exact tp_call hj rfl [aQ _, aC, aC] fun fin => (aI aT <| aI aT <| aI e1 <| aI aT <| fin :)
 have n0 := eqI_no (a := (d : Int)) (b := 0) O40
 by_cases h4 : d < 4
 ·have n4 : (d : Int) < 4 := by exact O36
  obtain ⟨x, a2, b2, hx, ho2, e2⟩ := s_one (j := 43) (by decide) ho' (things := ints11) (by decide) (by decide)
  obtain ⟨i, hi, rfl⟩ := in_pool _ p_ints hx
  refine ⟨i, a2, b2, hi, ho2, ?_⟩
  exact tp_call hj rfl [(aQe e1), aC, aN, aC, aY, aC, aC, aC, aC, (aQe e2)] fun fin => kp (by kernel_rfl) (aI aT <| aI aT <| aI e1 <| aI aT <| aI n0 <| aI (decide_eq_true n4) <| aI aT <| aI aT <| aI e2 <| aI aT <| fin)
 have n4 : ¬ ((d : Int) < 4) := by exact O38
 by_cases h7 : d < 7
 ·have n7 : (d : Int) < 7 := by exact O36
  obtain ⟨x, a2, b2, hx, ho2, e2⟩ := s_one (j := 43) (by decide) ho' (things := strs11) (by decide) (by decide)
  obtain ⟨i, hi, rfl⟩ := in_pool _ p_strs hx
  refine ⟨i, a2, b2, hi, ho2, ?_⟩
  exact tp_call hj rfl [(aQe e1), aC, aN, aC, aN, aC, aY, (aQe e2)] fun fin => kp (by kernel_rfl) (aI aT <| aI aT <| aI e1 <| aI aT <| aI n0 <| aI (decide_eq_false n4) <| aI (decide_eq_true n7) <| aI aT <| aI aT <| aI e2 <| aI aT <| fin)
 ·have n7 : ¬ ((d : Int) < 7) := by exact O38
  obtain ⟨x, a2, b2, hx, ho2, e2⟩ := s_one (j := 43) (by decide) ho' (things := byts5) (by decide) (by decide)
  obtain ⟨i, hi, rfl⟩ := in_pool _ p_byts hx
  refine ⟨i, a2, b2, hi, ho2, ?_⟩
  exact tp_call hj rfl [(aQe e1), aC, aN, aC, aN, aC, aN, (aQe e2)] fun fin => kp (by kernel_rfl) (aI aT <| aI aT <| aI e1 <| aI aT <| aI n0 <| aI (decide_eq_false n4) <| aI (decide_eq_false n7) <| aI aT <| aI aT <| aI e2 <| aI aT <| fin)
theorem bit_le (b : Bool) : ((if b = true then 1 else 0 : Int)).natAbs < 2 ^ 64 := by induction b <;> decide
theorem bit_nn {x : Int} (h : 0 ≤ x) (b : Bool) : 0 ≤ x * (if b = true then 1 else 0 : Int) := by induction b <;> simp [h]
theorem s_pool {j : Nat} (hj : 40 < j) {l : List Int} (hl : l.length ≤ 63) : ∃ a b, OkSrc a b ∧ Dn j 40 [.f (.list (l.map .int)), .f (.int 0)] [] = some (.o 0, [(0, .list (srcV a b))], []) := by
 have fin : ∀ (big : Int), 0 ≤ big → OkSrc (big * (if decide (big ≥ 10 ^ 18) = true then 1 else 0)) (((big.fmod 2147483629 + 7919 * 0 * 0 + 31 * 0 + 17) * 48271).fmod 2147483647) := fun big hb =>
  ⟨bit_nn hb _, fm_nn _ (by decide)⟩
 have e2 := fun big => mul_ok (a := big) (bit_le (decide (big ≥ 10 ^ 18)))
 induction l using List.casesOn with
 | nil =>
  refine ⟨_, _, fin 0 (by decide), ?_⟩
  exact tp_call hj rfl [aC, aC, aC, aC, aC, aC, aC, aC, aC, aC, aC, aC, aC, aC, aC, aC, aC, aC, aC, aC, aC, aC] fun fin => (aI aT <| fin :)
 | cons x l =>
  have hx : (0 : Int) ≤ if x < -1 - x then -1 - x else x := by split <;> omega
  have c2 : (0 : Int) < ((l.length + 1 : Nat) : Int) := by omega
  refine ⟨_, _, fin _ hx, ?_⟩
  exact tp_call hj rfl [aV _, aC, aY, aV _, aC, aC, aC, aC, aC, aC, aC, aC, aC, aC, aC, aC, aC, aC, aC, aC, aC, aC, aV _] fun fin => (aI (lenL_ok (b := (x :: l).map .int) (n := l.length + 1) (List.length_map ..) (by rw [List.length_cons] at hl; exact O1)) <| aI (decide_eq_true c2) <| aI (idxL_ok (l := (x :: l).map .int) (k := 0) (by decide) rfl) <| aI (e2 (if x < -1 - x then -1 - x else x)) <| aI aT <| fin :)
noncomputable abbrev ordB := PySem.Builtin.Bytes.order
theorem ordB_cons {x y : UInt8} {xs ys : List UInt8} : ordB (x :: xs) (y :: ys) = if x < y then .lt else if x > y then .gt else ordB xs ys := by
 simp only [ordB]
 rw [PySem.Builtin.Bytes.order]
theorem u8_tri (x y : UInt8) : x < y ∨ x = y ∨ y < x := by
 rcases Nat.lt_trichotomy x.toNat y.toNat with h | h | h
 ·exact .inl (UInt8.lt_iff_toNat_lt.mpr h)
 ·exact .inr (.inl (UInt8.toNat_inj.mp h))
 ·exact .inr (.inr (UInt8.lt_iff_toNat_lt.mpr h))
theorem u8_irr (x : UInt8) : ¬ x < x := fun h => Nat.lt_irrefl _ (UInt8.lt_iff_toNat_lt.mp h)
theorem u8_tr {x y z : UInt8} (h : x < y) (h' : y < z) : x < z := UInt8.lt_iff_toNat_lt.mpr (Nat.lt_trans (UInt8.lt_iff_toNat_lt.mp h) (UInt8.lt_iff_toNat_lt.mp h'))
theorem ordB_self : ∀ (a : List UInt8), ordB a a = .eq
 | [] => rfl
 | x :: a => by rw [ordB_cons, if_neg (u8_irr x), if_neg (u8_irr x), ordB_self a]
theorem ordB_eq : ∀ {a b : List UInt8}, ordB a b = .eq → a = b
 | [], [], _ => rfl
 | [], _ :: _, h => by cases h
 | _ :: _, [], h => by cases h
 | x :: a, y :: b, h => by
  rw [ordB_cons] at h
  split at h
  ·cases h
  ·split at h
   ·cases h
   ·rename_i h1 h2
    have : x = y := by
     rcases u8_tri x y with h | h | h
     ·exact absurd h h1
     ·exact h
     ·exact absurd h h2
    rw [this, ordB_eq h]
theorem ordB_gt : ∀ {a b : List UInt8}, ordB a b = .gt → ordB b a = .lt
 | [], [], h => by cases h
 | [], _ :: _, h => by cases h
 | _ :: _, [], _ => rfl
 | x :: a, y :: b, h => by
  rw [ordB_cons] at h ⊢
  split at h
  ·cases h
  ·split at h
   ·rename_i h2; rw [if_pos h2]
   ·rename_i h1 h2
    rw [if_neg h2, if_neg h1]
    exact ordB_gt h
theorem ordB_tr : ∀ {a b c : List UInt8}, ordB a b = .lt → ordB b c = .lt → ordB a c = .lt
 | [], [], _, h, _ => by cases h
 | [], _ :: _, [], _, h => by cases h
 | [], _ :: _, _ :: _, _, _ => rfl
 | _ :: _, [], _, h, _ => by cases h
 | _ :: _, _ :: _, [], _, h => by cases h
 | x :: a, y :: b, z :: c, h, h' => by
  rw [ordB_cons] at h h' ⊢
  by_cases h1 : x < y
  ·by_cases h2 : y < z
   ·rw [if_pos (u8_tr h1 h2)]
   ·rw [if_neg h2] at h'
    split at h'
    ·cases h'
    ·rename_i h3
     have : y = z := by
      rcases u8_tri y z with h | h | h
      ·exact absurd h h2
      ·exact h
      ·exact absurd h h3
     subst this
     rw [if_pos h1]
  ·rw [if_neg h1] at h
   split at h
   ·cases h
   ·rename_i h3
    have : x = y := by
     rcases u8_tri x y with h | h | h
     ·exact absurd h h1
     ·exact h
     ·exact absurd h h3
    subst this
    split at h'
    ·rename_i h2; rw [if_pos h2]
    ·rename_i h2
     split at h'
     ·cases h'
     ·rename_i h4
      rw [if_neg h2, if_neg h4]
      exact ordB_tr h h'
theorem ltI_tr {a b c : It} (h : ltI a b = true) (h' : ltI b c = true) : ltI a c = true := by
 unfold ltI at h h' ⊢
 by_cases e1 : a.k = b.k
 ·by_cases e2 : b.k = c.k
  ·simp [e1, e2] at h h' ⊢; exact O8
  ·rw [e1]; simp [e1, e2] at h h' ⊢; exact h'
 ·by_cases e2 : b.k = c.k
  ·rw [e2] at e1 h; simp [e1] at h ⊢; exact h
  ·simp [e1, e2] at h h'
   have ht := ordB_tr (a := a.k) h h'
   have ne : a.k ≠ c.k := fun e => by rw [e, ordB_self] at ht; cases ht
   simp [ne]; exact ht
theorem ltI_tot {a b : It} (hs : a.s ≠ b.s) (h : ltI a b = false) : ltI b a = true := by
 unfold ltI at h ⊢
 by_cases e1 : a.k = b.k
 ·simp [e1] at h ⊢; omega
 ·simp [e1, Ne.symm e1] at h ⊢
  have : ordB a.k b.k = .gt := by
   cases q : ordB a.k b.k with
   | lt => exact absurd q h
   | eq => exact absurd (ordB_eq q) e1
   | gt => rfl
  exact ordB_gt this
theorem ltI_irr (a : It) : ltI a a = false := by unfold ltI; simp
noncomputable def Srt (l : List It) : Prop := l.Pairwise fun a b => ltI a b = true
theorem mergeL_perm (l r : List It) : (mergeL l r).Perm (l ++ r) := by
 refine mergeL_ind (P := fun l r => (mergeL l r).Perm (l ++ r)) (fun r => .refl _) (fun a l => by rw [List.append_nil]; exact .refl _) (fun a l b r h h' => ?_) l r
 rw [mergeL_cons]
 by_cases c : ltI b a = true
 ·rw [if_pos c]; exact (List.Perm.cons b h).trans List.perm_middle.symm
 ·rw [if_neg c]; exact List.Perm.cons a h'
theorem mergeL_srt (l r : List It) : Srt l → Srt r → (∀ a ∈ l, ∀ b ∈ r, a.s ≠ b.s) → Srt (mergeL l r) := by
 refine mergeL_ind (P := fun l r => Srt l → Srt r → (∀ a ∈ l, ∀ b ∈ r, a.s ≠ b.s) → Srt (mergeL l r)) (fun r _ h _ => h) (fun a l h _ _ => h) (fun a l b r h h' h1 h2 hd => ?_) l r
 have h1' := List.pairwise_cons.mp h1
 have h2' := List.pairwise_cons.mp h2
 rw [mergeL_cons]
 by_cases c : ltI b a = true
 ·rw [if_pos c]
  refine List.pairwise_cons.mpr ⟨fun x hx => ?_, h h1 h2'.2 fun x hx y hy => hd x hx y (.tail _ hy)⟩
  rcases List.mem_append.mp ((mergeL_perm (a :: l) r).mem_iff.mp hx) with hx | hx
  ·rcases List.mem_cons.mp hx with rfl | hx
   ·exact c
   ·exact ltI_tr c (h1'.1 x hx)
  ·exact h2'.1 x hx
 ·rw [if_neg c]
  have hab : ltI a b = true := ltI_tot (a := b) (b := a) (fun e => hd a (.head _) b (.head _) e.symm) (Bool.eq_false_iff.mpr c)
  refine List.pairwise_cons.mpr ⟨fun x hx => ?_, h' h1'.2 h2 fun x hx y hy => hd x (.tail _ hx) y hy⟩
  rcases List.mem_append.mp ((mergeL_perm l (b :: r)).mem_iff.mp hx) with hx | hx
  ·exact h1'.1 x hx
  ·rcases List.mem_cons.mp hx with rfl | hx
   ·exact hab
   ·exact ltI_tr hab (h2'.1 x hx)
noncomputable def Dst (l : List It) : Prop := l.Pairwise fun a b => a.s ≠ b.s
theorem dst_perm {l m : List It} (h : l.Perm m) (d : Dst l) : Dst m := (h.pairwise_iff (fun h => Ne.symm h)).mp d
theorem dst_app {l m : List It} (d : Dst (l ++ m)) : Dst l ∧ Dst m ∧ ∀ a ∈ l, ∀ b ∈ m, a.s ≠ b.s := List.pairwise_append.mp d
theorem merge_ok {l r l' r' : List It} (hl : l.Perm l') (hr : r.Perm r') (sl : Srt l) (sr : Srt r) (d : Dst (l' ++ r')) : (mergeL l r).Perm (l' ++ r') ∧ Srt (mergeL l r) := by
 obtain ⟨_, _, h⟩ := dst_app d
 exact ⟨(mergeL_perm l r).trans (hl.append hr), mergeL_srt l r sl sr fun a ha b hb => h a (hl.mem_iff.mp ha) b (hr.mem_iff.mp hb)⟩
theorem srt1 (a : It) : Srt [a] := List.pairwise_singleton _ _
theorem ms5_ok {l : List It} (h1 : 0 < l.length) (h2 : l.length ≤ 5) (d : Dst l) : (ms5 l).Perm l ∧ Srt (ms5 l) := by
 match l, h1, h2, d with
 | [a], _, _, _ => exact ⟨.refl _, srt1 a⟩
 | [a, b], _, _, d => exact merge_ok (l' := [a]) (r' := [b]) (.refl _) (.refl _) (srt1 a) (srt1 b) d
 | [a, b, c], _, _, d =>
  obtain ⟨p, s⟩ := merge_ok (l' := [a]) (r' := [b]) (.refl _) (.refl _) (srt1 a) (srt1 b) (dst_app (l := [a, b]) (m := [c]) d).1
  exact merge_ok (l' := [a, b]) (r' := [c]) p (.refl _) s (srt1 c) d
 | [a, b, c, e], _, _, d =>
  obtain ⟨p, s⟩ := merge_ok (l' := [a]) (r' := [b]) (.refl _) (.refl _) (srt1 a) (srt1 b) (dst_app (l := [a, b]) (m := [c, e]) d).1
  obtain ⟨p2, s2⟩ := merge_ok (l' := [c]) (r' := [e]) (.refl _) (.refl _) (srt1 c) (srt1 e) (dst_app (l := [a, b]) (m := [c, e]) d).2.1
  exact merge_ok (l' := [a, b]) (r' := [c, e]) p p2 s s2 d
 | [a, b, c, e, f], _, _, d =>
  have d4 := (dst_app (l := [a, b, c, e]) (m := [f]) d).1
  obtain ⟨p, s⟩ := merge_ok (l' := [a]) (r' := [b]) (.refl _) (.refl _) (srt1 a) (srt1 b) (dst_app (l := [a, b]) (m := [c, e]) d4).1
  obtain ⟨p2, s2⟩ := merge_ok (l' := [c]) (r' := [e]) (.refl _) (.refl _) (srt1 c) (srt1 e) (dst_app (l := [a, b]) (m := [c, e]) d4).2.1
  obtain ⟨p3, s3⟩ := merge_ok (l' := [a, b]) (r' := [c, e]) p p2 s s2 d4
  exact merge_ok (l' := [a, b, c, e]) (r' := [f]) p3 (.refl _) s3 (srt1 f) d
theorem mergeAll_ok {l : List (List It)} (h : ∀ r ∈ l, Srt r) (d : Dst l.flatten) : (mergeAll l).Perm l.flatten ∧ Srt (mergeAll l) := by
 have key : ∀ (l : List (List It)) (a : List It), Srt a → (∀ r ∈ l, Srt r) → Dst (a ++ l.flatten) → (l.foldl mergeL a).Perm (a ++ l.flatten) ∧ Srt (l.foldl mergeL a) := fun l => by
  induction l with
  | nil => exact fun a h _ _ => ⟨by rw [List.flatten_nil, List.append_nil]; exact .refl _, h⟩
  | cons b r ih =>
   intro a ha h d
   obtain ⟨p, s⟩ := merge_ok (.refl a) (.refl b) ha (h b (.head _)) (dst_app (show Dst ((a ++ b) ++ r.flatten) by rw [List.append_assoc]; exact d)).1
   have pp : (mergeL a b ++ r.flatten).Perm (a ++ (b :: r).flatten) := by
    rw [List.flatten_cons, ← List.append_assoc]
    exact p.append_right _
   obtain ⟨p2, s2⟩ := ih (mergeL a b) s (fun x hx => h x (.tail _ hx)) (dst_perm pp.symm d)
   exact ⟨p2.trans pp, s2⟩
 induction l using List.casesOn with
 | nil => exact ⟨.refl _, List.Pairwise.nil⟩
 | cons a l => exact key l a (h a (.head _)) (fun r hr => h r (.tail _ hr)) d
theorem srt_uniq {l m : List It} (p : l.Perm m) (sl : Srt l) (sm : Srt m) : l = m := by
 refine p.eq_of_pairwise (fun a b _ _ h1 h2 => ?_) sl sm
 have := ltI_tr h1 h2
 rw [ltI_irr] at this
 exact nob this
noncomputable def lessAt : List UInt8 → List UInt8 → Bool
 | a :: l, b :: m => if a = b then lessAt l m else decide (a < b)
 | _, _ => false
noncomputable def partCmp (i k c : Nat) : Bool := let A := part i c; let B := part k c; let s := sgn i k c
 (s == 0 && A == B) || (s == -1 && lessAt A B) || (s == 1 && lessAt B A)
theorem k_cmp0 : ((List.range 32).all fun i => (List.range 32).all fun k => partCmp i k 0) = true := by decide +kernel
theorem k_cmp1 : ((List.range 32).all fun i => (List.range 32).all fun k => partCmp i k 1) = true := by decide +kernel
theorem k_cmp2 : ((List.range 32).all fun i => (List.range 32).all fun k => partCmp i k 2) = true := by decide +kernel
theorem part_cmp {i k c : Nat} (hi : i < 32) (hk : k < 32) (hc : c < 3) : (sgn i k c = 0 ∧ part i c = part k c) ∨ (sgn i k c = -1 ∧ lessAt (part i c) (part k c) = true) ∨ (sgn i k c = 1 ∧ lessAt (part k c) (part i c) = true) := by
 have h : partCmp i k c = true := by
  match c, hc with
  | 0, _ => exact all_at (all_at k_cmp0 hi) hk
  | 1, _ => exact all_at (all_at k_cmp1 hi) hk
  | 2, _ => exact all_at (all_at k_cmp2 hi) hk
 simp only [partCmp, Bool.or_eq_true, Bool.and_eq_true, beq_iff_eq] at h
 rcases h with (h | h) | h
 ·exact .inl h
 ·exact .inr (.inl h)
 ·exact .inr (.inr h)
theorem lessAt_cons (a b : UInt8) (l m : List UInt8) : lessAt (a :: l) (b :: m) = if a = b then lessAt l m else decide (a < b) := rfl
theorem lessAt_ord {A : List UInt8} : ∀ {B X Y : List UInt8}, lessAt A B = true → ordB (A ++ X) (B ++ Y) = .lt := by
 induction A with
 | nil => exact fun h => nob h
 | cons a A ih =>
  intro B X Y h
  induction B using List.casesOn with
  | nil => exact nob h
  | cons b B =>
   rw [List.cons_append, List.cons_append, ordB_cons]
   rw [lessAt_cons] at h
   by_cases e : a = b
   ·rw [if_pos e] at h
    rw [e, if_neg (u8_irr b), if_neg (u8_irr b)]
    exact ih h
   ·rw [if_neg e] at h; rw [if_pos (of_decide_eq_true h)]
theorem ordB_app {A X Y : List UInt8} : ordB (A ++ X) (A ++ Y) = ordB X Y := by
 induction A with
 | nil => rfl
 | cons a A ih => rw [List.cons_append, List.cons_append, ordB_cons, if_neg (u8_irr a), if_neg (u8_irr a), ih]
theorem compl_nat (a : UInt8) : (compl a).toNat = 255 - a.toNat := by
 have := a.toNat_lt
 unfold compl
 show (UInt8.ofNat _).toNat = _
 rw [UInt8.toNat_ofNat', Nat.mod_eq_of_lt (by omega)]
 omega
theorem compl_lt {a b : UInt8} (h : a < b) : compl b < compl a := by
 rw [UInt8.lt_iff_toNat_lt] at h ⊢
 rw [compl_nat, compl_nat]
 have := a.toNat_lt
 have := b.toNat_lt
 omega
theorem lessAt_compl {A : List UInt8} : ∀ {B : List UInt8}, lessAt A B = true → lessAt (B.map compl) (A.map compl) = true := by
 induction A with
 | nil => exact fun h => nob h
 | cons a A ih =>
  intro B h
  induction B using List.casesOn with
  | nil => exact nob h
  | cons b B =>
   rw [lessAt_cons] at h
   rw [List.map_cons, List.map_cons, lessAt_cons]
   by_cases e : a = b
   ·rw [if_pos e] at h; rw [if_pos (congrArg compl e.symm)]; exact ih h
   ·rw [if_neg e] at h
    have hl := compl_lt (of_decide_eq_true h)
    rw [if_neg (fun e => u8_irr (compl a) (by rw [e] at hl; exact hl))]
    exact decide_eq_true hl
theorem key_cmp {cs : List Nat} : ∀ {a b : List Nat} {ds : List Bool}, (∀ i ∈ a, i < 32) → (∀ i ∈ b, i < 32) → (∀ c ∈ cs, c < 3) → cs.length ≤ a.length → cs.length ≤ b.length → cs.length = ds.length →
  (ordL a b cs ds = 0 ∧ keyB a cs ds = keyB b cs ds) ∨ (ordL a b cs ds < 0 ∧ ordB (keyB a cs ds) (keyB b cs ds) = .lt) ∨ (0 < ordL a b cs ds ∧ ordB (keyB b cs ds) (keyB a cs ds) = .lt) := by
 induction cs with
 | nil =>
  refine fun {a b ds} _ _ _ _ _ _ => .inl ⟨?_, ?_⟩
  ·induction a using List.casesOn <;> induction b using List.casesOn <;> rfl
  ·induction a using List.casesOn <;> induction b using List.casesOn <;> rfl
 | cons c cs ih =>
  intro a b ds ha hb hc l1 l2 l3
  induction a using List.casesOn with
  | nil => exact nomatch l1
  | cons i a =>
  induction b using List.casesOn with
  | nil => exact nomatch l2
  | cons k b =>
  induction ds using List.casesOn with
  | nil => exact nomatch l3
  | cons d ds =>
  have ih := ih (a := a) (b := b) (ds := ds) (fun j hj => ha j (.tail _ hj)) (fun j hj => hb j (.tail _ hj)) (fun j hj => hc j (.tail _ hj)) (Nat.le_of_succ_le_succ l1) (Nat.le_of_succ_le_succ l2) (Nat.succ.inj l3)
  rw [ordL_cons, keyB_cons, keyB_cons]
  rcases part_cmp (ha i (.head _)) (hb k (.head _)) (hc c (.head _)) with ⟨h1, h2⟩ | ⟨h1, h2⟩ | ⟨h1, h2⟩
  ·rw [if_neg (fun q => q h1), show partD i c d = partD k c d by unfold partD; rw [h2], ordB_app, ordB_app]
   exact ih.imp (fun h => ⟨h.1, by rw [h.2]⟩) id
  ·rw [if_pos (by rw [h1]; decide), h1]
   induction d with
   | true => exact .inr (.inr ⟨by decide, lessAt_ord (lessAt_compl h2)⟩)
   | false => exact .inr (.inl ⟨by decide, lessAt_ord h2⟩)
  ·rw [if_pos (by rw [h1]; decide), h1]
   induction d with
   | true => exact .inr (.inl ⟨by decide, lessAt_ord (lessAt_compl h2)⟩)
   | false => exact .inr (.inr ⟨by decide, lessAt_ord h2⟩)
theorem keyB_take {r : List Nat} : ∀ {cs : List Nat} {ds : List Bool}, keyB (r.take cs.length) cs ds = keyB r cs ds := by
 induction r with
 | nil => intro cs ds; rw [List.take_nil]
 | cons i r ih =>
  intro cs ds
  induction cs using List.casesOn with
  | nil => rfl
  | cons c cs =>
   induction ds using List.casesOn with
   | nil => rfl
   | cons d ds => rw [List.length_cons, List.take_succ_cons, keyB_cons, keyB_cons, ih]
noncomputable def itOf (cs : List Nat) (ds : List Bool) (p : List Nat × Nat) : It := ⟨keyB p.1 cs ds, p.2, enc p.1⟩
section
variable {cs : List Nat} {ds : List Bool}
theorem it_lt {p q : List Nat × Nat} (hc : ∀ c ∈ cs, c < 3) (l3 : cs.length = ds.length) (hp : okRow cs.length p.1) (hq : okRow cs.length q.1) (hs : q.2 < p.2) : (ordL p.1 q.1 cs ds < 0 → ltI (itOf cs ds p) (itOf cs ds q) = true) ∧ (¬ ordL p.1 q.1 cs ds < 0 → ltI (itOf cs ds q) (itOf cs ds p) = true) := by
 have h := key_cmp hp.1 hq.1 hc hp.2.1 hq.2.1 l3
 unfold ltI itOf
 rcases h with ⟨x, y⟩ | ⟨x, y⟩ | ⟨x, y⟩
 ·refine ⟨fun h => by omega, fun _ => ?_⟩
  simp [y]; assumption
 ·refine ⟨fun _ => ?_, fun h => absurd x h⟩
  have : keyB p.1 cs ds ≠ keyB q.1 cs ds := fun e => by rw [e, ordB_self] at y; cases y
  simp [this]; exact y
 ·refine ⟨fun h => by omega, fun _ => ?_⟩
  have : keyB q.1 cs ds ≠ keyB p.1 cs ds := fun e => by rw [e, ordB_self] at y; cases y
  simp [this]; exact y
theorem pos_spec {r : List Nat} {P : List (List Nat)} : ∀ k, k ≤ P.length → (∀ j, posL cs ds r P k ≤ j → j < k → ∀ p, P[j]? = some p → ordL r p cs ds < 0) ∧ (0 < posL cs ds r P k → ∀ p, P[posL cs ds r P k - 1]? = some p → ¬ ordL r p cs ds < 0)
 | 0, _ => ⟨fun j _ h => absurd h (Nat.not_lt_zero _), fun h => absurd h (Nat.lt_irrefl _)⟩
 | k + 1, hk => by
  obtain ⟨ih1, ih2⟩ := pos_spec (r := r) (P := P) k O16
  rw [posL]
  split
  ·rename_i h
   refine ⟨fun j h1 h2 p hp => ?_, ih2⟩
   by_cases hj : j = k
   ·subst hj; rw [hp] at h; exact h
   ·exact ih1 j h1 (by omega) p hp
  ·rename_i h
   refine ⟨fun j h1 h2 => by omega, fun _ p hp => ?_⟩
   rw [Nat.add_sub_cancel] at hp
   rw [hp] at h
   exact h
structure Tg (cs : List Nat) (ds : List Bool) (P : List (List Nat)) (n : Nat) (rows : List (List Nat)) (Q : List (List Nat × Nat)) : Prop where
 fst : Q.map (·.1) = P
 srt : Srt (Q.map (itOf cs ds))
 perm : Q.Perm (rows.zipIdx)
theorem tg_ins (hc : ∀ c ∈ cs, c < 3) (l3 : cs.length = ds.length) {P : List (List Nat)} {n : Nat} {rows : List (List Nat)} {Q : List (List Nat × Nat)} (h : Tg cs ds P n rows Q) {r : List Nat} (hr : okRow cs.length r) (hR : ∀ p ∈ rows, okRow cs.length p) :
  ∃ Q', Tg cs ds (insL cs ds P r) n (rows ++ [r]) Q' := by
 have hlen : Q.length = P.length := by rw [← h.fst, List.length_map]
 have hq : ∀ q ∈ Q, okRow cs.length q.1 ∧ q.2 < rows.length := fun q hq => by
  have := h.perm.mem_iff.mp hq
  obtain ⟨i, hi⟩ := List.mem_iff_getElem?.mp this
  rw [List.getElem?_zipIdx, Option.map_eq_some_iff] at hi
  obtain ⟨x, hx, rfl⟩ := hi
  have := (List.getElem?_eq_some_iff.mp hx).1
  exact ⟨hR x (List.mem_of_getElem? hx), by simpa using this⟩
 obtain ⟨s1, s2⟩ := pos_spec (cs := cs) (ds := ds) (r := r) (P := P) P.length (Nat.le_refl _)
 have hpl := posL_le (cs := cs) (ds := ds) (r := r) (P := P) P.length
 refine ⟨Q.take (posL cs ds r P P.length) ++ [(r, rows.length)] ++ Q.drop (posL cs ds r P P.length), ?_, ?_, ?_⟩
 ·unfold insL
  rw [List.map_append, List.map_append, List.map_take, List.map_drop, h.fst]
  rfl
 ·generalize hk : posL cs ds r P P.length = k at *
  have hsp : Srt ((Q.take k ++ Q.drop k).map (itOf cs ds)) := by rw [List.take_append_drop]; exact h.srt
  rw [List.map_append] at hsp
  obtain ⟨sa, sb, sab⟩ := List.pairwise_append.mp hsp
  have ltB : ∀ q ∈ Q.drop k, ltI (itOf cs ds (r, rows.length)) (itOf cs ds q) = true := fun q hq' => by
   obtain ⟨j, hj⟩ := List.mem_iff_getElem?.mp hq'
   rw [List.getElem?_drop] at hj
   obtain ⟨ho, ht⟩ := hq q (List.mem_of_mem_drop hq')
   have hP : P[k + j]? = some q.1 := by rw [← h.fst, List.getElem?_map, hj]; rfl
   exact (it_lt hc l3 (p := (r, rows.length)) hr ho ht).1 (s1 (k + j) O61 (List.getElem?_eq_some_iff.mp hP).1 q.1 hP)
  have ltA : ∀ q ∈ Q.take k, ltI (itOf cs ds q) (itOf cs ds (r, rows.length)) = true := fun q hq' => by
   obtain ⟨j, hj⟩ := List.mem_iff_getElem?.mp hq'
   have hjk : j < k := by
    have := (List.getElem?_eq_some_iff.mp hj).1
    rw [List.length_take] at this
    omega
   rw [List.getElem?_take_of_lt hjk] at hj
   have hk0 : k - 1 < Q.length := by omega
   have hlast : Q[k - 1]? = some Q[k - 1] := List.getElem?_eq_getElem hk0
   have hP : P[k - 1]? = some Q[k - 1].1 := by rw [← h.fst, List.getElem?_map, hlast]; rfl
   obtain ⟨ho, ht⟩ := hq Q[k - 1] (List.getElem_mem _)
   have hl := (it_lt hc l3 (p := (r, rows.length)) hr ho ht).2 (s2 O18 _ hP)
   by_cases he : j = k - 1
   ·subst he
    rw [hlast] at hj
    obtain rfl := Option.some.inj hj
    exact hl
   ·have hji : j < Q.length := (List.getElem?_eq_some_iff.mp hj).1
    have hqe : Q[j] = q := (List.getElem?_eq_some_iff.mp hj).2
    have := List.pairwise_iff_getElem.mp h.srt j (k - 1) (by simpa using hji) (by simpa using hk0) (by omega)
    rw [List.getElem_map, List.getElem_map, hqe] at this
    exact ltI_tr this hl
  rw [List.map_append, List.map_append]
  refine List.pairwise_append.mpr ⟨List.pairwise_append.mpr ⟨sa, srt1 _, fun x hx y hy => ?_⟩, sb, fun x hx y hy => ?_⟩
  ·obtain ⟨q, hq', rfl⟩ := List.mem_map.mp hx
   have hy : y = itOf cs ds (r, rows.length) := by simpa using hy
   subst hy
   exact ltA q hq'
  ·rcases List.mem_append.mp hx with hx | hx
   ·exact sab x hx y hy
   ·have hx : x = itOf cs ds (r, rows.length) := by simpa using hx
    subst hx
    obtain ⟨q, hq', rfl⟩ := List.mem_map.mp hy
    exact ltB q hq'
 ·rw [List.zipIdx_append]
  have e : [r].zipIdx (0 + rows.length) = [(r, rows.length)] := by simp
  rw [e]
  have p1 : (Q.take (posL cs ds r P P.length) ++ [(r, rows.length)] ++ Q.drop (posL cs ds r P P.length)).Perm (Q ++ [(r, rows.length)]) := by
   rw [List.append_assoc]
   conv => rhs; rw [← List.take_append_drop (posL cs ds r P P.length) Q, List.append_assoc]
   exact List.Perm.append_left _ List.perm_append_comm
  exact p1.trans (h.perm.append_right _)
theorem tg_sort (hc : ∀ c ∈ cs, c < 3) (l3 : cs.length = ds.length) : ∀ (rest rows P : List (List Nat)) (Q : List (List Nat × Nat)), (∀ p ∈ rows, okRow cs.length p) → (∀ p ∈ rest, okRow cs.length p) → Tg cs ds P 0 rows Q →
  ∃ Q', Tg cs ds (rest.foldl (insL cs ds) P) 0 (rows ++ rest) Q'
 | [], rows, P, Q, _, _, h => ⟨Q, by rw [List.append_nil]; exact h⟩
 | r :: rest, rows, P, Q, h1, h2, h => by
  obtain ⟨Q', h'⟩ := tg_ins hc l3 h (h2 r (by simp)) h1
  obtain ⟨Q'', h''⟩ := tg_sort hc l3 rest (rows ++ [r]) _ Q' (fun p hp => by
   rcases List.mem_append.mp hp with hp | hp
   ·exact h1 p hp
   ·have : p = r := by simpa using hp
    rw [this]; exact h2 r (by simp)) (fun p hp => h2 p (List.mem_cons_of_mem _ hp)) h'
  exact ⟨Q'', by rw [List.foldl_cons]; simpa using h''⟩
noncomputable def itsOf (cs : List Nat) (ds : List Bool) (rows : List (List Nat)) : List It := rows.zipIdx.map (itOf cs ds)
theorem its_dst (rows : List (List Nat)) : Dst (itsOf cs ds rows) := by
 unfold Dst itsOf
 rw [List.pairwise_map, List.pairwise_iff_getElem]
 intro i j hi hj hij
 simp only [List.getElem_zipIdx, itOf]
 omega
theorem sorted_is (hc : ∀ c ∈ cs, c < 3) (l3 : cs.length = ds.length) {rows : List (List Nat)} (hr : ∀ p ∈ rows, okRow cs.length p) {M : List It} (hp : M.Perm (itsOf cs ds rows)) (hs : Srt M) :
  ∃ Q : List (List Nat × Nat), Q.map (·.1) = sortL cs ds rows ∧ M = Q.map (itOf cs ds) := by
 obtain ⟨Q, h⟩ := tg_sort hc l3 rows [] [] [] (fun _ h => nomatch h) hr ⟨rfl, List.Pairwise.nil, .refl _⟩
 refine ⟨Q, h.fst, srt_uniq (hp.trans ?_) hs h.srt⟩
 rw [List.nil_append] at h
 exact (h.perm.map _).symm
end
structure Inv (cs : List Nat) (ds : List Bool) (rs : Nat) (R : List (List Nat)) (s : So) : Prop where
 eC : s.cs = cs
 eD : s.ds = ds
 eR : s.rs = rs
 eT : s.taken = R.length
 gl : s.g.length < rs
 perm : (s.runs.flatten ++ s.g).Perm (itsOf cs ds R)
 srt : ∀ r ∈ s.runs, Srt r
 rl : s.runs.length ≤ R.length
section
variable {cs : List Nat} {ds : List Bool} {rs : Nat} {R : List (List Nat)} {s : So}
theorem its_snoc {r : List Nat} : itsOf cs ds (R ++ [r]) = itsOf cs ds R ++ [itOf cs ds (r, R.length)] := by
 unfold itsOf
 rw [List.zipIdx_append, List.map_append]
 simp
theorem its_len : (itsOf cs ds R).length = R.length := by unfold itsOf; simp
theorem inv_ins (h : Inv cs ds rs R s) (h5 : rs ≤ 5) {r : List Nat} : Inv cs ds rs (R ++ [r]) (s.ins ⟨keyB (r.take s.cs.length) s.cs s.ds, s.taken, enc r⟩) := by
 have ha : (⟨keyB (r.take s.cs.length) s.cs s.ds, s.taken, enc r⟩ : It) = itOf cs ds (r, R.length) := by
  unfold itOf; rw [keyB_take, h.eC, h.eD, h.eT]
 rw [ha]
 have hg := h.gl
 have hrs := h.eR
 have hr := h.rl
 unfold So.ins
 by_cases hc : s.rs ≤ s.g.length + 1
 ·rw [if_pos hc]
  have d : Dst (s.runs.flatten ++ (s.g ++ [itOf cs ds (r, R.length)])) := by
   refine dst_perm ?_ (its_dst (cs := cs) (ds := ds) (R ++ [r]))
   rw [its_snoc, ← List.append_assoc]
   exact (h.perm.append_right _).symm
  obtain ⟨p, sr⟩ := ms5_ok (l := s.g ++ [itOf cs ds (r, R.length)]) (by simp) (by simp; omega) (dst_app d).2.1
  refine ⟨h.eC, h.eD, h.eR, by simp [h.eT], by show 0 < rs; exact O18, ?_, fun x hx => ?_, by simp; assumption⟩
  ·show ((s.runs ++ [ms5 (s.g ++ [itOf cs ds (r, R.length)])]).flatten ++ []).Perm _
   rw [List.append_nil, List.flatten_append, its_snoc]
   simp only [List.flatten_cons, List.flatten_nil, List.append_nil]
   refine (p.append_left _).trans ?_
   rw [← List.append_assoc]
   exact h.perm.append_right _
  ·rcases List.mem_append.mp hx with hx | hx
   ·exact h.srt x hx
   ·have : x = ms5 (s.g ++ [itOf cs ds (r, R.length)]) := by simpa using hx
    rw [this]; exact sr
 ·rw [if_neg hc]
  refine ⟨h.eC, h.eD, h.eR, by simp [h.eT], by simp; omega, ?_, h.srt, by simp; exact O48⟩
  show (s.runs.flatten ++ (s.g ++ [itOf cs ds (r, R.length)])).Perm _
  rw [its_snoc, ← List.append_assoc]
  exact h.perm.append_right _
theorem sum_flat : ∀ (l : List (List It)), sumLen l = l.flatten.length
 | [] => rfl
 | a :: l => by
  have := sum_flat l
  simp only [sumLen, List.map_cons, List.sum_cons, List.flatten_cons, List.length_append] at this ⊢
  rw [← this]
theorem inv_all (h : Inv cs ds rs R s) (h5 : rs ≤ 5) : (∀ r ∈ s.all, Srt r) ∧ s.all.flatten.Perm (itsOf cs ds R) := by
 unfold So.all
 by_cases hg : s.g = []
 ·rw [if_pos hg, List.append_nil]
  refine ⟨h.srt, ?_⟩
  have := h.perm
  rw [hg, List.append_nil] at this
  exact this
 ·rw [if_neg hg]
  have hp : 0 < s.g.length := by
   cases q : s.g with
   | nil => exact absurd q hg
   | cons => simp
  have d : Dst (s.runs.flatten ++ s.g) := dst_perm h.perm.symm (its_dst R)
  have hl := h.gl
  obtain ⟨p, sr⟩ := ms5_ok hp O56 (dst_app d).2.1
  refine ⟨fun x hx => ?_, ?_⟩
  ·rcases List.mem_append.mp hx with hx | hx
   ·exact h.srt x hx
   ·have : x = ms5 s.g := by simpa using hx
    rw [this]; exact sr
  ·rw [List.flatten_append]
   simp only [List.flatten_cons, List.flatten_nil, List.append_nil]
   exact (p.append_left _).trans h.perm
theorem inv_merge (h : Inv cs ds rs R s) (h5 : rs ≤ 5) : (mergeAll s.all).Perm (itsOf cs ds R) ∧ Srt (mergeAll s.all) := by
 obtain ⟨h1, h2⟩ := inv_all h h5
 obtain ⟨p, q⟩ := mergeAll_ok h1 (dst_perm h2.symm (its_dst R))
 exact ⟨p.trans h2, q⟩
theorem inv_len (h : Inv cs ds rs R s) (h5 : rs ≤ 5) : (mergeAll s.all).length = R.length := by
 rw [(inv_merge h h5).1.length_eq, its_len]
theorem inv_sum (h : Inv cs ds rs R s) (h5 : rs ≤ 5) : sumLen s.all = R.length := by
 rw [sum_flat, (inv_all h h5).2.length_eq, its_len]
theorem inv_fst (h : Inv cs ds rs R s) (h5 : rs ≤ 5) (h0 : 0 < rs) {p : Int} : Inv cs ds rs R { s.fst with place := p } := by
 obtain ⟨m1, m2⟩ := inv_merge h h5
 refine ⟨h.eC, h.eD, h.eR, h.eT, h0, ?_, fun x hx => ?_, ?_⟩
 ·show ((if s.all = [] then [] else [mergeAll s.all]).flatten ++ []).Perm _
  rw [List.append_nil]
  by_cases ha : s.all = []
  ·rw [if_pos ha]
   rw [ha, mergeAll_nil] at m1
   exact m1
  ·rw [if_neg ha]
   simpa using m1
 ·have hx : x ∈ (if s.all = [] then [] else [mergeAll s.all]) := hx
  split at hx
  ·cases hx
  ·have : x = mergeAll s.all := by simpa using hx
   rw [this]; exact m2
 ·show (if s.all = [] then [] else [mergeAll s.all]).length ≤ R.length
  by_cases ha : s.all = []
  ·rw [if_pos ha]; simp
  ·rw [if_neg ha]
   have := h.perm.length_eq
   rw [its_len] at this
   have hl := inv_len h h5
   show 1 ≤ R.length
   by_cases hR : R.length = 0
   ·exfalso
    apply ha
    have hr := h.rl
    have e1 : s.runs = [] := by
     cases q : s.runs with
     | nil => rfl
     | cons a l => rw [q] at hr; simp at hr; omega
    have e2 : s.g = [] := by
     cases q : s.g with
     | nil => rfl
     | cons a l => rw [q] at this; simp at this; omega
    unfold So.all; rw [e1, e2]; rfl
   ·omega
theorem told_is (h : Inv cs ds rs R s) (h5 : rs ≤ 5) (hc : ∀ c ∈ cs, c < 3) (l3 : cs.length = ds.length) (hr : ∀ p ∈ R, okRow cs.length p) : (mergeAll s.all).map recV = (sortL cs ds R).map (fun r => FV.bytes (enc r)) ∧
  ∀ (k : Nat) (r : List Nat), (sortL cs ds R)[k]? = some r → ∃ a, (mergeAll s.all)[k]? = some a ∧ a.r = enc r := by
 obtain ⟨m1, m2⟩ := inv_merge h h5
 obtain ⟨Q, q1, q2⟩ := sorted_is hc l3 hr m1 m2
 rw [q2, ← q1]
 refine ⟨by rw [List.map_map, List.map_map]; rfl, fun k r hk => ?_⟩
 rw [List.getElem?_map, Option.map_eq_some_iff] at hk
 obtain ⟨q, hq, rfl⟩ := hk
 exact ⟨itOf cs ds q, by rw [List.getElem?_map, hq]; rfl, rfl⟩
theorem sort_mem {rows : List (List Nat)} {x : List Nat} (hx : x ∈ sortL cs ds rows) : x ∈ rows := by
 have key : ∀ (rows P : List (List Nat)) , x ∈ rows.foldl (insL cs ds) P → x ∈ rows ∨ x ∈ P := by
  intro rows
  induction rows with
  | nil => intro P h; exact .inr h
  | cons r rows ih =>
   intro P h
   rcases ih _ h with h | h
   ·exact .inl (List.mem_cons_of_mem _ h)
   ·rcases insL_mem h with h | h
    ·exact .inl (by rw [h]; simp)
    ·exact .inr h
 rcases key rows [] hx with h | h
 ·exact h
 ·cases h
theorem sort_len {rows : List (List Nat)} : (sortL cs ds rows).length = rows.length := by
 have key : ∀ (rows P : List (List Nat)), (rows.foldl (insL cs ds) P).length = rows.length + P.length := by
  intro rows
  induction rows with
  | nil => intro P; simp
  | cons r rows ih =>
   intro P
   rw [List.foldl_cons, ih, insL_len]
   simp; exact O25
 have := key rows []
 simpa [sortL] using this
end
theorem comp_gen {E : Ev} {elt : PE} {Q : FV → Prop} {rest : Led} {chg lent : List Nat}
  (h : ∀ (x : FV) (a b : Int), OkSrc a b → ∃ (v : FV) (a' b' : Int), Q v ∧ OkSrc a' b' ∧ E.e elt { loc := [some (.f x), some (.o 0)], led := (0, .list (srcV a b)) :: rest, chg := chg, lent := lent } = some (.f v, { loc := [some (.f x), some (.o 0)], led := (0, .list (srcV a' b')) :: rest, chg := chg, lent := lent })) :
  ∀ (xs : List FV) (x0 : Option PV) (a b : Int), OkSrc a b → ∃ (vs : List FV) (a' b' : Int) (x1 : Option PV), vs.length = xs.length ∧ (∀ v ∈ vs, Q v) ∧ OkSrc a' b' ∧
   compLoop E elt xs { loc := [x0, some (.o 0)], led := (0, .list (srcV a b)) :: rest, chg := chg, lent := lent } = some (vs, { loc := [x1, some (.o 0)], led := (0, .list (srcV a' b')) :: rest, chg := chg, lent := lent })
 | [], x0, a, b, ho => ⟨[], a, b, x0, rfl, fun _ h => (nomatch h), ho, rfl⟩
 | x :: xs, x0, a, b, ho => by
  obtain ⟨v, a1, b1, hv, o1, e1⟩ := h x a b ho
  obtain ⟨vs, a2, b2, x1, hl, hq, o2, e2⟩ := comp_gen h xs (some (.f x)) a1 b1 o1
  refine ⟨v :: vs, a2, b2, x1, congrArg (· + 1) hl, fun u hu => ?_, o2, ?_⟩
  ·rcases List.mem_cons.mp hu with rfl | hu
   ·exact hv
   ·exact hq u hu
  ·show Option.bind (E.e elt { loc := [some (.f x), some (.o 0)], led := (0, .list (srcV a b)) :: rest, chg := chg, lent := lent }) _ = _
   rw [e1]
   show Option.map _ (compLoop E elt xs { loc := [some (.f x), some (.o 0)], led := (0, .list (srcV a1 b1)) :: rest, chg := chg, lent := lent }) = _
   rw [e2]
   rfl
theorem vals_of {vs : List FV} (h : ∀ v ∈ vs, ∃ i, i < 32 ∧ v = val i) : ∃ r : List Nat, vs = r.map val ∧ (∀ i ∈ r, i < 32) := by
 induction vs with
 | nil => exact ⟨[], rfl, fun _ h => nomatch h⟩
 | cons v vs ih =>
  obtain ⟨i, hi, rfl⟩ := h v (List.mem_cons_self ..)
  obtain ⟨r, rfl, hr⟩ := ih fun u hu => h u (List.mem_cons_of_mem _ hu)
  exact ⟨i :: r, rfl, fun j hj => (List.mem_cons.mp hj).elim (fun e => e ▸ hi) (hr j)⟩
theorem cols_of {vs : List FV} (h : ∀ v ∈ vs, ∃ i, i < 3 ∧ v = colOf i) : ∃ r : List Nat, vs = r.map colOf ∧ (∀ i ∈ r, i < 3) := by
 induction vs with
 | nil => exact ⟨[], rfl, fun _ h => nomatch h⟩
 | cons v vs ih =>
  obtain ⟨i, hi, rfl⟩ := h v (List.mem_cons_self ..)
  obtain ⟨r, rfl, hr⟩ := ih fun u hu => h u (List.mem_cons_of_mem _ hu)
  exact ⟨i :: r, rfl, fun j hj => (List.mem_cons.mp hj).elim (fun e => e ▸ hi) (hr j)⟩
theorem bools_of {vs : List FV} (h : ∀ v ∈ vs, ∃ b, v = .bool b) : ∃ r : List Bool, vs = r.map .bool := by
 induction vs with
 | nil => exact ⟨[], rfl⟩
 | cons v vs ih =>
  obtain ⟨i, rfl⟩ := h v (List.mem_cons_self ..)
  obtain ⟨r, rfl⟩ := ih fun u hu => h u (List.mem_cons_of_mem _ hu)
  exact ⟨i :: r, rfl⟩
theorem comp_vals {s : So} {R : List FV} {chg : List Nat} (xs : List FV) {a b : Int} (ho : OkSrc a b) : ∃ (r : List Nat) (a' b' : Int) (x1 : Option PV), r.length = xs.length ∧ (∀ i ∈ r, i < 32) ∧ OkSrc a' b' ∧
  compLoop (run (pr 51) 37) (.call 43 [(.var 1)] [0] [0]) xs { loc := [none, some (.o 0)], led := (0, .list (srcV a b)) :: (soLed s ++ [(4, .list R)]), chg := chg, lent := [] } = some (r.map val, { loc := [x1, some (.o 0)], led := (0, .list (srcV a' b')) :: (soLed s ++ [(4, .list R)]), chg := chg, lent := [] }) := by
 obtain ⟨vs, a', b', x1, hl, hq, ho', e⟩ := comp_gen (E := run (pr 51) 37) (elt := .call 43 [(.var 1)] [0] [0]) (Q := fun v => ∃ i, i < 32 ∧ v = val i) (rest := soLed s ++ [(4, .list R)]) (chg := chg) (lent := []) (fun x a b ho => by
  obtain ⟨i, a', b', hi, ho', e1⟩ := s_value (j := 51) (by decide) ho
  refine ⟨val i, a', b', ⟨i, hi, rfl⟩, ho', ?_⟩
  exact tp_e [(aQe e1)] fun fin => kp (by kernel_rfl) (aI (no_cut chg 0) <| aI aT <| aI e1 <| aI aT <| fin)) xs none a b ho
 obtain ⟨r, rfl, hr⟩ := vals_of hq
 exact ⟨r, a', b', x1, by rw [List.length_map] at hl; exact hl, hr, ho', e⟩
theorem comp_cols (xs : List FV) {a b : Int} (ho : OkSrc a b) : ∃ (cs : List Nat) (a' b' : Int) (x1 : Option PV), cs.length = xs.length ∧ (∀ c ∈ cs, c < 3) ∧ OkSrc a' b' ∧
  compLoop (run (pr 51) 37) (.call 42 [(.var 1), (.lst [(.cst (.str (Str.ofString "binary"))), (.cst (.str (Str.ofString "binary"))), (.cst (.str (Str.ofString "nocase"))), (.cst (.str (Str.ofString "rtrim")))] none)] [0] [0]) xs { loc := [none, some (.o 0)], led := [(0, .list (srcV a b))], chg := [], lent := [] } = some (cs.map colOf, { loc := [x1, some (.o 0)], led := [(0, .list (srcV a' b'))], chg := [], lent := [] }) := by
 obtain ⟨vs, a', b', x1, hl, hq, ho', e⟩ := comp_gen (E := run (pr 51) 37) (elt := .call 42 [(.var 1), (.lst [(.cst (.str (Str.ofString "binary"))), (.cst (.str (Str.ofString "binary"))), (.cst (.str (Str.ofString "nocase"))), (.cst (.str (Str.ofString "rtrim")))] none)] [0] [0]) (Q := fun v => ∃ i, i < 3 ∧ v = colOf i) (rest := []) (chg := []) (lent := []) (fun x a b ho => by
  obtain ⟨y, a', b', hy, ho', e1⟩ := s_one (j := 51) (by decide) ho (things := [.str (Str.ofString "binary"), .str (Str.ofString "binary"), .str (Str.ofString "nocase"), .str (Str.ofString "rtrim")]) (by simp) (by simp)
  refine ⟨y, a', b', ?_, ho', ?_⟩
  ·simp only [List.mem_cons, List.not_mem_nil, or_false] at hy
   rcases hy with rfl | rfl | rfl | rfl
   ·exact ⟨0, by decide, rfl⟩
   ·exact ⟨0, by decide, rfl⟩
   ·exact ⟨1, by decide, rfl⟩
   ·exact ⟨2, by decide, rfl⟩
  ·exact tp_e [aQ _] fun fin => (aI aT <| aI aT <| aI e1 <| aI aT <| fin :)) xs none a b ho
 obtain ⟨r, rfl, hr⟩ := cols_of hq
 exact ⟨r, a', b', x1, by rw [List.length_map] at hl; exact hl, hr, ho', e⟩
theorem comp_desc (xs : List FV) {a b : Int} (ho : OkSrc a b) : ∃ (ds : List Bool) (a' b' : Int) (x1 : Option PV), ds.length = xs.length ∧ OkSrc a' b' ∧
  compLoop (run (pr 51) 37) (.cmp (.call 41 [(.var 1), (.cst (.int 3))] [0] [0]) [.Eq] [(.cst (.int 0))]) xs { loc := [none, some (.o 0)], led := [(0, .list (srcV a b))], chg := [], lent := [] } = some (ds.map .bool, { loc := [x1, some (.o 0)], led := [(0, .list (srcV a' b'))], chg := [], lent := [] }) := by
 obtain ⟨vs, a', b', x1, hl, hq, ho', e⟩ := comp_gen (E := run (pr 51) 37) (elt := .cmp (.call 41 [(.var 1), (.cst (.int 3))] [0] [0]) [.Eq] [(.cst (.int 0))]) (Q := fun v => ∃ b, v = .bool b) (rest := []) (chg := []) (lent := []) (fun x a b ho => by
  obtain ⟨d, a', b', hd, ho', e1⟩ := s_take (j := 51) (by decide) ho (top := 3) (by decide) (by decide)
  refine ⟨.bool ((d : Int) == 0), a', b', ⟨_, rfl⟩, ho', ?_⟩
  exact tp_e [aQ _, aC] fun fin => (aI aT <| aI aT <| aI e1 <| aI aT <| fin :)) xs none a b ho
 obtain ⟨r, rfl⟩ := bools_of hq
 exact ⟨r, a', b', x1, by rw [List.length_map] at hl; exact hl, ho', e⟩
noncomputable def gv (x : Option FV) : Option PV := x.map PV.f
theorem gv_o {x : Option FV} {k : Nat} : (gv x).any (PV.isO k) = false := by induction x <;> rfl
noncomputable def lawSt (sc : FV) (n : Nat) (cs : List Nat) (ds : List Bool) (a b : Int) (s : So) (R : List (List Nat)) (v8 v9 v10 v11 : Option FV) (chg : List Nat) : St :=
 { loc := [some (.f sc), some (.o 0), some (.f (.int n)), some (.f (.tup (cs.map colOf))), some (.f (.tup (ds.map .bool))), some (.f (infoV cs ds)), some (.o 1), some (.o 4), gv v8, gv v9, gv v10, gv v11], led := (0, .list (srcV a b)) :: (soLed s ++ [(4, .list (R.map rowV))]), chg := chg, lent := [] }
noncomputable def lawTail : List PS := [.expr (.bm .append (.var 7) [(.var 9)]), .expr (.meth (.var 6) 33 [(.call 18 [(.var 9)] [] [])] [1, 2, 3] [1, 2, 3])]
structure Cols (n : Nat) (cs : List Nat) (ds : List Bool) (rs : Nat) : Prop where
 n1 : 1 ≤ n
 n3 : n ≤ 3
 cl : cs.length = n
 dl : ds.length = n
 c3 : ∀ c ∈ cs, c < 3
 r1 : 1 ≤ rs
 r5 : rs ≤ 5
section
variable {n rs : Nat} {cs : List Nat} {ds : List Bool} {sc : FV}
theorem law_ment {a b : Int} {s : So} {R : List (List Nat)} {v8 v9 v10 v11 : Option FV} {chg : List Nat} {k : Nat} (h : ∀ x, (gv x).any (PV.isO k) = false) (h0 : (0 == k) = false) (h1 : (1 == k) = false) (h4 : (4 == k) = false) :
  (St.mentioned { lawSt sc n cs ds a b s R v8 v9 v10 v11 chg with led := [(0, .list (srcV a b)), (4, .list (R.map rowV))] } k) = false := by
 show (false || false || false || (false || (0 == k || (false || (false || (false || (false || (1 == k || (4 == k || ((gv v8).any (PV.isO k) || ((gv v9).any (PV.isO k) || ((gv v10).any (PV.isO k) || ((gv v11).any (PV.isO k) || false))))))))))))) = false
 rw [h, h, h, h, h0, h1, h4]; rfl
theorem law_back {a b : Int} {s s' : So} {R : List (List Nat)} {v8 v9 v10 v11 : Option FV} {chg ch : List Nat} {v : FV} (hc : ch.contains 1 = false) :
  backOk (lawSt sc n cs ds a b s R v8 v9 v10 v11 chg) [1, 2, 3] (.f v) ((soLed s').filter fun p => [1, 2, 3].contains p.1) ch = true :=
 and4 (back_all (s := s') (st := { lawSt sc n cs ds a b s R v8 v9 v10 v11 chg with led := [(0, .list (srcV a b)), (4, .list (R.map rowV))] }) hc (law_ment (fun _ => gv_o) rfl rfl rfl) (law_ment (fun _ => gv_o) rfl rfl rfl)) rfl rfl rfl rfl
theorem n33 : (!(soN.contains (mnameOf 33))) = true := by kernel_rfl
theorem step_ins (C : Cols n cs ds rs) {a b : Int} {s : So} {R : List (List Nat)} {r : List Nat} {v8 v10 v11 : Option FV} {chg : List Nat} (I : Inv cs ds rs R s) (hR : R.length ≤ 20) (hr : okRow n r) :
  ∃ s' chg', Inv cs ds rs (R ++ [r]) s' ∧ evB (run (pr 51) 39) lawTail (lawSt sc n cs ds a b s R v8 (some (rowV r)) v10 v11 chg) = some (.next, lawSt sc n cs ds a b s' (R ++ [r]) v8 (some (rowV r)) v10 v11 chg') := by
 have hg := I.gl
 have r1 := C.r1
 have r5 := C.r5
 have hl := I.rl
 obtain ⟨ch, e1, hch⟩ := so_insert (j := 51) (by decide) (s := s) (row := r) hr.1 hr.2.2 (by rw [I.eC, C.cl]; exact hr.2.1) (by rw [I.eC]; exact C.c3) (by rw [I.eC, C.cl]; exact C.n3) (by rw [I.eC, I.eD, C.cl, C.dl]) (by rw [I.eR]; exact r5) (by omega) O9
 have hc1 : ch.contains 1 = false := no1_of fun k hk => by rw [hch k hk]; decide
 have e2 : D1 (Dn 51) 18 [.f (rowV r)] = some (.bytes (enc r)) := s_enc (j := 51) (by decide) hr.1 hr.2.2
 have I' := inv_ins I r5 (r := r)
 generalize s.ins ⟨keyB (r.take s.cs.length) s.cs s.ds, s.taken, enc r⟩ = s2 at *
 have bk := law_back (sc := sc) (n := n) (cs := cs) (ds := ds) (a := a) (b := b) (s := s) (s' := s2) (R := R ++ [r]) (v8 := v8) (v9 := some (rowV r)) (v10 := v10) (v11 := v11) (chg := chg) (v := .none) hc1
 refine ⟨_, goneS s2 ch ++ chg, I', ?_⟩
 unfold lawSt at bk ⊢
 rw [List.map_append] at bk ⊢
 exact tp_blk [(aVe e2), (aQe e1)] fun fin => kp (by kernel_rfl) (aI (no_cut chg 4) <| aI ((by rw [List.length_map]; exact O1) : (R.map rowV).length ≤ 1000000) <| aI e2 <| aI (no_cut chg 1) <| aI n33 <| aI aT <| aI e1 <| aI bk <| fin)
theorem turn_val {t : Nat} (h : t < 7) : ∃ i, i < 32 ∧ FV.int t = val i := by
 match t, h with
 | 0, _ => exact ⟨1, by decide, rfl⟩
 | 1, _ => exact ⟨2, by decide, rfl⟩
 | 2, _ => exact ⟨4, by decide, rfl⟩
 | 3, _ => exact ⟨28, by decide, rfl⟩
 | 4, _ => exact ⟨29, by decide, rfl⟩
 | 5, _ => exact ⟨30, by decide, rfl⟩
 | 6, _ => exact ⟨31, by decide, rfl⟩
theorem ne_nil1 {x : FV} {l : List FV} : chainCmp .NotEq (.list (x :: l)) (.list []) = some true := by
 show (if (x :: l).length = ([] : List FV).length then (FV.eqL (x :: l) []).map not else some true) = _
 exact if_neg fun h => Nat.noConfusion h
theorem max2 {n : Nat} : biFV .max [.int n, .int 2] = some (.int ((max n 2 : Nat) : Int)) := congrArg (fun x => some (FV.int x)) (by split <;> omega)
noncomputable def lawHead : List PS := [.asg 9 (.comp (.call 43 [(.var 1)] [0] [0]) (.bi .range [(.bin .Add (.bi .max [(.var 2), (.cst (.int 2))] none) (.call 41 [(.var 1), (.cst (.int 2))] [0] [0]) none)] none) [1] none),
  .ifS (.andE [(.cmp (.var 7) [.NotEq] [(.lst [] none)]), (.cmp (.call 41 [(.var 1), (.cst (.int 3))] [0] [0]) [.Eq] [(.cst (.int 0))])])
   [.asg 9 (.bin .Add (.bin .Add (.slc (.call 42 [(.var 1), (.var 7)] [0, 4] [0, 4]) none (some (.var 2)) none) (.slc (.var 9) (some (.var 2)) none none) none) (.lst [(.var 8)] none) none)]
   []]
theorem step0 (C : Cols n cs ds rs) {a b : Int} (ho : OkSrc a b) {s : So} {R : List (List Nat)} {v9 v10 v11 : Option FV} {chg : List Nat} (I : Inv cs ds rs R s) (hR : R.length ≤ 20) (hok : ∀ p ∈ R, okRow n p) {t : Nat} (ht : t < 7) :
  ∃ r a' b' s' chg', okRow n r ∧ OkSrc a' b' ∧ Inv cs ds rs (R ++ [r]) s' ∧ evB (run (pr 51) 39) l_law_0 (lawSt sc n cs ds a b s R (some (.int t)) v9 v10 v11 chg) = some (.next, lawSt sc n cs ds a' b' s' (R ++ [r]) (some (.int t)) (some (rowV r)) v10 v11 chg') := by
 have n1 := C.n1
 have n3 := C.n3
 obtain ⟨d, a1, b1, hd, o1, e1⟩ := s_take (j := 51) (by decide) ho (top := 2) (by decide) (by decide)
 obtain ⟨r0, a2, b2, x1, hl, hv, o2, e2⟩ := comp_vals (s := s) (R := R.map rowV) (chg := chg) ((List.range' 0 (max n 2 + d)).map fun (k : Nat) => FV.int (k : Int)) o1
 rw [List.length_map, List.length_range'] at hl
 have hr0 : okRow n r0 := ⟨hv, by omega, by omega⟩
 have e3 := rng_nat0 (s := max n 2 + d) (by omega)
 have c1 : ((List.range' 0 (max n 2 + d)).map fun (k : Nat) => FV.int (k : Int)).length ≤ 1000000 := by rw [List.length_map, List.length_range']; omega
 have em := max2 (n := n)
 have k0 := no_cut chg 0
 have k4 := no_cut chg 4
 have kl : (chg.length == chg.length) = true := beq_self_eq_true _
 suffices H : ∃ r a' b', okRow n r ∧ OkSrc a' b' ∧ evB (run (pr 51) 39) lawHead (lawSt sc n cs ds a b s R (some (.int t)) v9 v10 v11 chg) = some (.next, lawSt sc n cs ds a' b' s R (some (.int t)) (some (rowV r)) v10 v11 chg) by
  obtain ⟨r, a', b', h1, h2, h3⟩ := H
  obtain ⟨s', chg', I', e4⟩ := step_ins (sc := sc) C (a := a') (b := b') (r := r) (v8 := some (.int t)) (v10 := v10) (v11 := v11) (chg := chg) I hR h1
  exact ⟨r, a', b', s', chg', h1, h2, I', evB_app (l1 := lawHead) h3 e4⟩
 induction R using List.casesOn with
 | nil =>
  refine ⟨r0, a2, b2, hr0, o2, ?_⟩
  unfold lawSt
  exact tp_blk [(aVe em), (aQe e1), aC, aC, (aLe e3), (aKe e2), aC, aC, aC] fun fin => kp (by kernel_rfl) (aI em <| aI k0 <| aI aT <| aI e1 <| aI aT <| aI e3 <| aI c1 <| aI e2 <| aI kl <| aI k4 <| fin)
 | cons p R =>
  obtain ⟨d3, a3, b3, hd3, o3, e5⟩ := s_take (j := 51) (by decide) o2 (top := 3) (by decide) (by decide)
  have e7 := ne_nil1 (x := rowV p) (l := R.map rowV)
  by_cases h3 : d3 = 0
  ·subst h3
   obtain ⟨x, a4, b4, hx, o4, e6⟩ := s_oneR (j := 51) (by decide) o3 (things := (p :: R).map rowV) (Nat.succ_pos _) (by rw [List.length_map]; exact O2)
   obtain ⟨rr, hrr, rfl⟩ := List.mem_map.mp hx
   obtain ⟨p1, p2, p3⟩ := hok rr hrr
   obtain ⟨ti, hti, htv⟩ := turn_val ht
   have l1 : (rr.take n).length = n := by rw [List.length_take]; exact O83
   have l2 : (r0.drop n).length = r0.length - n := List.length_drop
   have hnew : okRow n (rr.take n ++ r0.drop n ++ [ti]) := by
    refine ⟨fun i hi => ?_, ?_, ?_⟩
    ·rcases List.mem_append.mp hi with hi | hi
     ·rcases List.mem_append.mp hi with hi | hi
      ·exact p1 i (List.mem_of_mem_take hi)
      ·exact hv i (List.mem_of_mem_drop hi)
     ·rw [List.mem_singleton.mp hi]; exact hti
    ·rw [List.length_append, List.length_append, l1]; omega
    ·rw [List.length_append, List.length_append, l1, l2]; show _ + _ + 1 ≤ 6; omega
   refine ⟨_, a4, b4, hnew, o4, ?_⟩
   have f1 := sl_to (l := rr.map val) (a := n) (by rw [List.length_map]; exact O1) (by rw [List.length_map]; assumption)
   have f2 := slF_ok (l := r0.map val) (a := n) (by rw [List.length_map]; omega) (by rw [List.length_map]; omega)
   rw [← List.map_take] at f1
   rw [← List.map_drop] at f2
   have f3 := addL_ok (b := (rr.take n).map val) (c := (r0.drop n).map val) (by rw [List.length_map, List.length_map, l1, l2]; omega)
   have f4 := addL_ok (b := (rr.take n).map val ++ (r0.drop n).map val) (c := [FV.int t]) (by rw [List.length_append, List.length_map, List.length_map, l1, l2]; show _ + _ + 1 ≤ _; omega)
   have hz : rowV (rr.take n ++ r0.drop n ++ [ti]) = .list ((rr.take n).map val ++ (r0.drop n).map val ++ [FV.int t]) := by rw [htv]; unfold rowV; rw [List.map_append, List.map_append]; rfl
   have c3 : n < 2 ^ 62 := by exact O11
   rw [hz]
   unfold lawSt
   exact tp_blk [(aVe em), (aQe e1), aC, aC, (aLe e3), (aKe e2), aY, aC, (aQe e5), aC, aC, aC, (aQe e6), (aVe f1), (aVe f2), (aVe f3), (aVe f4)] fun fin => kp (by kernel_rfl) (aI em <| aI k0 <| aI aT <| aI e1 <| aI aT <| aI e3 <| aI c1 <| aI e2 <| aI kl <| aI k4 <| aI e7 <| aI k0 <| aI aT <| aI e5 <| aI aT <| aI k0 <| aI k4 <| aI aT <| aI e6 <| aI aT <| aI (decide_eq_true c3) <| aI f1 <| aI (decide_eq_true c3) <| aI f2 <| aI f3 <| aI f4 <| fin)
  ·have h3' := eqI_no (a := (d3 : Int)) (b := 0) O40
   refine ⟨r0, a3, b3, hr0, o3, ?_⟩
   unfold lawSt
   exact tp_blk [(aVe em), (aQe e1), aC, aC, (aLe e3), (aKe e2), aY, aC, (aQe e5), aC, aN, aC] fun fin => kp (by kernel_rfl) (aI em <| aI k0 <| aI aT <| aI e1 <| aI aT <| aI e3 <| aI c1 <| aI e2 <| aI kl <| aI k4 <| aI e7 <| aI k0 <| aI aT <| aI e5 <| aI aT <| aI h3' <| fin)
end
section
variable {n rs : Nat} {cs : List Nat} {ds : List Bool} {sc : FV}
theorem snoc_ok {R : List (List Nat)} {r : List Nat} (hok : ∀ p ∈ R, okRow n p) (hr : okRow n r) : ∀ p ∈ R ++ [r], okRow n p := fun p hp => by
 rcases List.mem_append.mp hp with hp | hp
 ·exact hok p hp
 ·rw [List.mem_singleton.mp hp]; exact hr
theorem loop0 (C : Cols n cs ds rs) : ∀ (m : Nat) {a b : Int} {s : So} {R : List (List Nat)} {v8 v9 v10 v11 : Option FV} {chg : List Nat}, OkSrc a b → Inv cs ds rs R s → (∀ p ∈ R, okRow n p) → R.length + m ≤ 7 →
  ∃ R' a' b' s' v8' v9' chg', OkSrc a' b' ∧ Inv cs ds rs R' s' ∧ (∀ p ∈ R', okRow n p) ∧ R'.length ≤ 7 ∧ forLoop (run (pr 51) 39) 8 l_law_0 ((List.range' R.length m).map fun (k : Nat) => FV.int (k : Int)) (lawSt sc n cs ds a b s R v8 v9 v10 v11 chg) = some (.next, lawSt sc n cs ds a' b' s' R' v8' v9' v10 v11 chg') := by
 intro m
 induction m with
 | zero => intro a b s R v8 v9 v10 v11 chg ho I hok hl; exact ⟨R, a, b, s, v8, v9, chg, ho, I, hok, hl, rfl⟩
 | succ m rc =>
  intro a b s R v8 v9 v10 v11 chg ho I hok hl
  obtain ⟨r, a1, b1, s1, c1, hr, o1, I1, e1⟩ := step0 (sc := sc) (v9 := v9) (v10 := v10) (v11 := v11) (chg := chg) C ho I O19 hok (t := R.length) (by omega)
  have hR : (R ++ [r]).length = R.length + 1 := List.length_append
  obtain ⟨R', a', b', s', v8', v9', chg', o', I', hok', hl', e2⟩ := rc (v8 := some (.int R.length)) (v9 := some (rowV r)) (v10 := v10) (v11 := v11) (chg := c1) o1 I1 (snoc_ok hok hr) (by omega)
  refine ⟨R', a', b', s', v8', v9', chg', o', I', hok', hl', ?_⟩
  rw [hR] at e2
  show Option.bind (evB (run (pr 51) 39) l_law_0 (lawSt sc n cs ds a b s R (some (.int R.length)) v9 v10 v11 chg)) _ = _
  rw [e1]
  exact e2
noncomputable def lawHead1 : List PS := [.asg 9 (.comp (.call 43 [(.var 1)] [0] [0]) (.bi .range [(.bi .max [(.var 2), (.cst (.int 2))] none)] none) [1] none)]
theorem step1 (C : Cols n cs ds rs) {a b : Int} (ho : OkSrc a b) {s : So} {R : List (List Nat)} {v8 : FV} {v9 v10 v11 : Option FV} {chg : List Nat} (I : Inv cs ds rs R s) (hR : R.length ≤ 20) :
  ∃ r a' b' s' chg', okRow n r ∧ OkSrc a' b' ∧ Inv cs ds rs (R ++ [r]) s' ∧ evB (run (pr 51) 39) l_law_1 (lawSt sc n cs ds a b s R (some v8) v9 v10 v11 chg) = some (.next, lawSt sc n cs ds a' b' s' (R ++ [r]) (some v8) (some (rowV r)) v10 v11 chg') := by
 have n1 := C.n1
 have n3 := C.n3
 obtain ⟨r0, a2, b2, x1, hl, hv, o2, e2⟩ := comp_vals (s := s) (R := R.map rowV) (chg := chg) ((List.range' 0 (max n 2)).map fun (k : Nat) => FV.int (k : Int)) ho
 rw [List.length_map, List.length_range'] at hl
 have hr0 : okRow n r0 := ⟨hv, by omega, by omega⟩
 have e3 := rng_nat0 (s := max n 2) (by omega)
 have em := max2 (n := n)
 obtain ⟨s', chg', I', e4⟩ := step_ins (sc := sc) C (a := a2) (b := b2) (r := r0) (v8 := some v8) (v10 := v10) (v11 := v11) (chg := chg) I hR hr0
 refine ⟨r0, a2, b2, s', chg', hr0, o2, I', evB_app (l1 := lawHead1) ?_ e4⟩
 unfold lawSt
 exact tp_blk [(aVe em), aC, (aLe e3), (aKe e2)] fun fin => kp (by kernel_rfl) (aI em <| aI e3 <| aI ((by rw [List.length_map, List.length_range']; omega) : ((List.range' 0 (max n 2)).map fun (k : Nat) => FV.int (k : Int)).length ≤ 1000000) <| aI e2 <| aI (beq_self_eq_true _ : (chg.length == chg.length) = true) <| fin)
theorem loop1 (C : Cols n cs ds rs) : ∀ (xs : List FV) {a b : Int} {s : So} {R : List (List Nat)} {v8 v9 v10 v11 : Option FV} {chg : List Nat}, OkSrc a b → Inv cs ds rs R s → (∀ p ∈ R, okRow n p) → R.length + xs.length ≤ 20 →
  ∃ R' a' b' s' v8' v9' chg', OkSrc a' b' ∧ Inv cs ds rs R' s' ∧ (∀ p ∈ R', okRow n p) ∧ R'.length ≤ 20 ∧ forLoop (run (pr 51) 39) 8 l_law_1 xs (lawSt sc n cs ds a b s R v8 v9 v10 v11 chg) = some (.next, lawSt sc n cs ds a' b' s' R' v8' v9' v10 v11 chg') := by
 intro xs
 induction xs with
 | nil => intro a b s R v8 v9 v10 v11 chg ho I hok hl; exact ⟨R, a, b, s, v8, v9, chg, ho, I, hok, hl, rfl⟩
 | cons x xs rc =>
  intro a b s R v8 v9 v10 v11 chg ho I hok hl
  rw [List.length_cons] at hl
  obtain ⟨r, a1, b1, s1, c1, hr, o1, I1, e1⟩ := step1 (sc := sc) (v8 := x) (v9 := v9) (v10 := v10) (v11 := v11) (chg := chg) C ho I O17
  have hR : (R ++ [r]).length = R.length + 1 := List.length_append
  obtain ⟨R', a', b', s', v8', v9', chg', o', I', hok', hl', e2⟩ := rc (v8 := some x) (v9 := some (rowV r)) (v10 := v10) (v11 := v11) (chg := c1) o1 I1 (snoc_ok hok hr) (by omega)
  refine ⟨R', a', b', s', v8', v9', chg', o', I', hok', hl', ?_⟩
  show Option.bind (evB (run (pr 51) 39) l_law_1 (lawSt sc n cs ds a b s R (some x) v9 v10 v11 chg)) _ = _
  rw [e1]
  exact e2
noncomputable def encV (r : List Nat) : FV := .bytes (enc r)
theorem comp_enc {m : Nat} {led : Led} {chg lent : List Nat} : ∀ (rows : List (List Nat)) (x0 : Option PV), (∀ r ∈ rows, (∀ i ∈ r, i < 32) ∧ r.length ≤ 6) →
  ∃ x1, compLoop (run (pr 51) (m + 3)) (.call 18 [(.var 0)] [] []) (rows.map rowV) ⟨[x0], led, chg, lent⟩ = some (rows.map encV, ⟨[x1], led, chg, lent⟩)
 | [], x0, _ => ⟨x0, rfl⟩
 | r :: rows, x0, h => by
  obtain ⟨x1, ih⟩ := comp_enc (m := m) (led := led) (chg := chg) (lent := lent) rows (some (.f (rowV r))) fun q hq => h q (List.mem_cons_of_mem _ hq)
  obtain ⟨h1, h2⟩ := h r (List.mem_cons_self ..)
  refine ⟨x1, ?_⟩
  exact tp_comp [aV _, aK _] fun fin => (aI (s_enc (j := 51) (by decide) h1 h2 : D1 (Dn 51) 18 [.f (rowV r)] = some (encV r)) <| aI ih <| fin :)
theorem eqL_enc : ∀ {rows : List (List Nat)}, FV.eqL (rows.map encV) (rows.map encV) = some true
 | [] => rfl
 | r :: rows => by
  show (some (enc r == enc r)).bind (fun t => (FV.eqL (rows.map encV) (rows.map encV)).map fun u => t && u) = _
  rw [beq_self_eq_true, eqL_enc]; rfl
theorem eq_enc {rows : List (List Nat)} : chainCmp .Eq (.list (rows.map encV)) (.list (rows.map encV)) = some true := by
 show (if (rows.map encV).length = (rows.map encV).length then FV.eqL _ _ else some false) = _
 rw [if_pos rfl, eqL_enc]
theorem ne_enc {rows : List (List Nat)} : chainCmp .NotEq (.list (rows.map encV)) (.list (rows.map encV)) = some false := by
 show (if (rows.map encV).length = (rows.map encV).length then (FV.eqL _ _).map not else some true) = _
 rw [if_pos rfl, eqL_enc]; rfl
theorem srt_ok {R : List (List Nat)} (hok : ∀ p ∈ R, okRow n p) : ∀ r ∈ sortL cs ds R, (∀ i ∈ r, i < 32) ∧ r.length ≤ 6 := fun r hr => by
 have := hok r (sort_mem hr)
 exact ⟨this.1, this.2.2⟩
theorem l_told (C : Cols n cs ds rs) {s : So} {R : List (List Nat)} (I : Inv cs ds rs R s) (hR : R.length ≤ 20) (hok : ∀ p ∈ R, okRow n p) : ∃ s2 ch, Inv cs ds rs R s2 ∧ ch.contains 1 = false ∧
  Dn 51 49 [.o 1] (soLed s) = some (.f (.list ((sortL cs ds R).map encV)), soLed s2, ch) ∧ Dn 51 34 [.o 1] (soLed s2) = some (.f (.bool false), soLed s2, []) := by
 have hg := I.gl
 have r5 := C.r5
 have hl := I.rl
 have hm := inv_len I r5
 have hs := inv_sum I r5
 obtain ⟨ch, hc1, e1⟩ := s_told (j := 51) (by decide) (s := s) O56 O14 O9
 have e0 : (mergeAll s.all).map recV = (sortL cs ds R).map encV := (told_is I r5 C.c3 (by rw [C.cl, C.dl]) (by rw [C.cl]; exact hok)).1
 rw [e0] at e1
 refine ⟨_, ch, inv_fst I r5 C.r1 (p := ((mergeAll s.all).length : Int)), hc1, e1, ?_⟩
 have e2 := so_valid (j := 51) (by decide) (s := { s.fst with place := ((mergeAll s.all).length : Int) }) (by show (mergeAll s.all).length ≤ 1000; exact O14)
 rw [show okP ({ s.fst with place := ((mergeAll s.all).length : Int) } : So).place ({ s.fst with place := ((mergeAll s.all).length : Int) } : So).told.length = false from okP_f (Nat.lt_irrefl _)] at e2
 exact e2
theorem l_vr (C : Cols n cs ds rs) {s : So} {R : List (List Nat)} (I : Inv cs ds rs R s) (hR : R.length ≤ 20) (hok : ∀ p ∈ R, okRow n p) : ∃ s2 ch, Inv cs ds rs R s2 ∧ ch.contains 1 = false ∧
  Dn 51 50 [.o 1, .f (.list ((sortL cs ds R).map rowV))] (soLed s) = some (.f (.bool true), soLed s2, ch) := by
 have hg := I.gl
 have r5 := C.r5
 have hl := I.rl
 have hok' : ∀ p ∈ R, okRow cs.length p := by rw [C.cl]; exact hok
 obtain ⟨t1, t2⟩ := told_is I r5 C.c3 (by rw [C.cl, C.dl]) hok'
 obtain ⟨ch, hc1, e1⟩ := s_vr (j := 51) (by decide) (s := s) O56 (by rw [inv_sum I r5]; exact O1) O9 (rows := sortL cs ds R) (by rw [sort_len, inv_len I r5]) (fun k r hk => by
  obtain ⟨x, hx, hr⟩ := t2 k r hk
  have := hok r (sort_mem (List.mem_of_getElem? hk))
  exact ⟨x, hx, hr, this.1, Nat.le_trans C.n1 this.2.1, this.2.2⟩)
 exact ⟨_, ch, inv_fst I r5 C.r1 (p := ((mergeAll s.all).length : Int)), hc1, e1⟩
theorem l_sorted (C : Cols n cs ds rs) {R : List (List Nat)} (hR : R.length ≤ 20) (hok : ∀ p ∈ R, okRow n p) : Dn 51 48 [.o 4, .f (.tup (cs.map colOf)), .f (.tup (ds.map .bool))] [(4, .list (R.map rowV))] = some (.f (.list ((sortL cs ds R).map rowV)), [(4, .list (R.map rowV))], []) :=
 s_sorted (j := 51) (by decide) C.c3 (by rw [C.cl, C.dl]) (by rw [C.cl]; exact C.n3) (rows := R) (by rw [C.cl]; exact hok) O1
end
section
variable {loc : List (Option PV)} {r : Led} {chg lent : List Nat} {u v : PV} {D : Delta} {i : Nat}
theorem kp1 : attrP (prgOf D i) (Str.ofString "collations") ⟨loc, (30, .inst 263 [] []) :: r, chg, lent⟩ v (.o 30) = some ⟨loc, (30, .inst 263 [sColl] [v]) :: r, chg, lent⟩ := by kernel_rfl
theorem kp2 : attrP (prgOf D i) (Str.ofString "descending") ⟨loc, (30, .inst 263 [sColl] [u]) :: r, chg, lent⟩ v (.o 30) = some ⟨loc, (30, .inst 263 [sColl, sDesc] [u, v]) :: r, chg, lent⟩ := by kernel_rfl
end
theorem tupL_ok {l : List FV} (h : l.length ≤ 1000000) : biFV .tuple [.list l] = some (.tup l) := if_pos h
theorem s_kinit {j : Nat} (hj : 22 < j) {cs : List Nat} {ds : List Bool} (h1 : cs.length = ds.length) (h2 : cs.length ≤ 3) : Dn j 22 [.o 30, .f (.tup (cs.map colOf)), .f (.tup (ds.map .bool))] [(30, .inst 263 [] [])] =
  some (.f .none, [(30, .inst 263 [sColl, sDesc] [.f (.tup (cs.map colOf)), .f (.tup (ds.map .bool))])], []) := by
 exact tp_call hj rfl [aV _, aV _, aC, aN, aC, aS _, aC, aS _] fun fin => (aI (lenT_ok (b := cs.map colOf) (n := cs.length) (List.length_map ..) O1) <| aI (lenT_ok (b := ds.map .bool) (n := cs.length) (by rw [List.length_map, h1]) O1) <| aI ((by rw [beq_self_eq_true]; rfl) : (!((cs.length : Int) == (cs.length : Int))) = false) <| aI kp1 <| aI kp2 <| fin :)
noncomputable def so0 (cs : List Nat) (ds : List Bool) (rs : Nat) : So := ⟨cs, ds, rs, [], [], 0, [], 0⟩
theorem s_sinit {j : Nat} (hj : 31 < j) {cs : List Nat} {ds : List Bool} {rs : Nat} : Dn j 31 [.o 1, .f (infoV cs ds), .f (.int rs)] [(1, .inst 374 [] [])] = some (.f .none, soLed (so0 cs ds rs), []) := by
 rw [Dn_lt hj]
 kernel_rfl
theorem inv0 {cs : List Nat} {ds : List Bool} {rs : Nat} (h : 1 ≤ rs) : Inv cs ds rs [] (so0 cs ds rs) :=
 ⟨rfl, rfl, rfl, rfl, h, .refl _, fun _ h => (nomatch h), Nat.le_refl _⟩
noncomputable def lawA : List PS := [.asg 1 (.call 40 [(.var 0), (.cst (.int 0))] [] [0]),
  .asg 2 (.bin .Add (.cst (.int 1)) (.call 41 [(.var 1), (.cst (.int 3))] [0] [0]) none),
  .asg 3 (.bi .tuple [(.comp (.call 42 [(.var 1), (.lst [(.cst (.str (Str.ofString "binary"))), (.cst (.str (Str.ofString "binary"))), (.cst (.str (Str.ofString "nocase"))), (.cst (.str (Str.ofString "rtrim")))] none)] [0] [0]) (.bi .range [(.var 2)] none) [1] none)] none),
  .asg 4 (.bi .tuple [(.comp (.cmp (.call 41 [(.var 1), (.cst (.int 3))] [0] [0]) [.Eq] [(.cst (.int 0))]) (.bi .range [(.var 2)] none) [1] none)] none),
  .asg 5 (.new 0 [(.var 3), (.var 4)] 30 [30]),
  .frz 30,
  .asg 6 (.new 1 [(.var 5), (.bin .Add (.cst (.int 1)) (.call 41 [(.var 1), (.cst (.int 5))] [0] [0]) none)] 1 [1, 2, 3]),
  .asg 7 (.lst [] (some 4))]
noncomputable def lawB : List PS := [.forS 8 (.bi .range [(.call 41 [(.var 1), (.cst (.int 8))] [0] [0])] none) l_law_0]
noncomputable def lawC : List PS := [.asg 10 (.call 48 [(.var 7), (.var 3), (.var 4)] [4] [4]), .asg 11 (.comp (.call 18 [(.var 0)] [] []) (.var 10) [] none),
  .ifS (.orE [(.cmp (.call 49 [(.var 6)] [1, 2, 3] [1, 2, 3]) [.NotEq] [(.var 11)]), (.meth (.var 6) 34 [] [1, 2, 3] [1, 2, 3]), (.cmp (.call 49 [(.var 6)] [1, 2, 3] [1, 2, 3]) [.NotEq] [(.var 11)])])
   [.ret (.cst (.bool false)) []] []]
noncomputable def lawD : List PS := [.ifS (.notE (.call 50 [(.var 6), (.var 10)] [1, 2, 3] [1, 2, 3])) [.ret (.cst (.bool false)) []] []]
noncomputable def lawE : List PS := [.forS 8 (.bi .range [(.call 41 [(.var 1), (.cst (.int 3))] [0] [0])] none) l_law_1]
noncomputable def lawF : List PS := [.ret (.cmp (.call 49 [(.var 6)] [1, 2, 3] [1, 2, 3]) [.Eq] [(.comp (.call 18 [(.var 0)] [] []) (.call 48 [(.var 7), (.var 3), (.var 4)] [4] [4]) [] none)]) []]
section
variable {n rs : Nat} {cs : List Nat} {ds : List Bool} {sc : FV} {a b : Int} {s : So} {R : List (List Nat)} {v8 v9 v10 v11 : Option FV} {chg : List Nat}
theorem b_F (C : Cols n cs ds rs) (I : Inv cs ds rs R s) (hR : R.length ≤ 20) (hok : ∀ p ∈ R, okRow n p) : ∃ st, evB (run (pr 51) 40) lawF (lawSt sc n cs ds a b s R v8 v9 v10 v11 chg) = some (.ret (.f (.bool true)), st) := by
 obtain ⟨s2, ch, I2, hc, e1, _⟩ := l_told C I hR hok
 have e2 := l_sorted C hR hok
 have bk := law_back (sc := sc) (n := n) (cs := cs) (ds := ds) (a := a) (b := b) (s := s) (s' := s2) (R := R) (v8 := v8) (v9 := v9) (v10 := v10) (v11 := v11) (chg := chg) (v := .list ((sortL cs ds R).map encV)) hc
 obtain ⟨x1, e3⟩ := comp_enc (m := 34) (led := (lawSt sc n cs ds a b s2 R v8 v9 v10 v11 []).led) (chg := goneS s2 ch ++ chg) (lent := []) (sortL cs ds R) none (srt_ok hok)
 refine ⟨lawSt sc n cs ds a b s2 R v8 v9 v10 v11 (goneS s2 ch ++ chg), ?_⟩
 unfold lawSt at bk e3 ⊢
 exact tp_blk [(aQe e1), (aQe e2), aC, (aKe e3), aY] fun fin => kp (by kernel_rfl) (aI (no_cut chg 1) <| aI aT <| aI e1 <| aI bk <| aI (no_cut (goneS s2 ch ++ chg) 4) <| aI aT <| aI e2 <| aI aT <| aI ((by rw [List.length_map, sort_len]; exact O1) : ((sortL cs ds R).map rowV).length ≤ 1000000) <| aI e3 <| aI (beq_self_eq_true _ : ((goneS s2 ch ++ chg).length == (goneS s2 ch ++ chg).length) = true) <| aI (eq_enc (rows := sortL cs ds R)) <| fin)
theorem b_E (C : Cols n cs ds rs) (ho : OkSrc a b) (I : Inv cs ds rs R s) (hR : R.length ≤ 7) (hok : ∀ p ∈ R, okRow n p) : ∃ R' a' b' s' v8' v9' chg', Inv cs ds rs R' s' ∧ (∀ p ∈ R', okRow n p) ∧ R'.length ≤ 20 ∧
  evB (run (pr 51) 40) lawE (lawSt sc n cs ds a b s R v8 v9 v10 v11 chg) = some (.next, lawSt sc n cs ds a' b' s' R' v8' v9' v10 v11 chg') := by
 obtain ⟨d, a1, b1, hd, o1, e1⟩ := s_take (j := 51) (by decide) ho (top := 3) (by decide) (by decide)
 have e2 := rng_nat0 (s := d) O1
 obtain ⟨R', a', b', s', v8', v9', c', o', I', hok', hl', e3⟩ := loop1 (sc := sc) C ((List.range' 0 d).map fun (k : Nat) => FV.int (k : Int)) (v8 := v8) (v9 := v9) (v10 := v10) (v11 := v11) (chg := chg) o1 I hok (by rw [List.length_map, List.length_range']; omega)
 refine ⟨R', a', b', s', v8', v9', c', I', hok', hl', ?_⟩
 unfold lawSt at e3 ⊢
 exact tp_blk [(aQe e1), aC, (aLe e2), (aOe e3)] fun fin => kp (by kernel_rfl) (aI (no_cut chg 0) <| aI aT <| aI e1 <| aI aT <| aI e2 <| aI e3 <| fin)
theorem b_D (C : Cols n cs ds rs) (I : Inv cs ds rs R s) (hR : R.length ≤ 7) (hok : ∀ p ∈ R, okRow n p) : ∃ s' chg', Inv cs ds rs R s' ∧
  evB (run (pr 51) 40) lawD (lawSt sc n cs ds a b s R v8 v9 (some (.list ((sortL cs ds R).map rowV))) v11 chg) = some (.next, lawSt sc n cs ds a b s' R v8 v9 (some (.list ((sortL cs ds R).map rowV))) v11 chg') := by
 obtain ⟨s2, ch, I2, hc, e1⟩ := l_vr C I O1 hok
 have bk := law_back (sc := sc) (n := n) (cs := cs) (ds := ds) (a := a) (b := b) (s := s) (s' := s2) (R := R) (v8 := v8) (v9 := v9) (v10 := some (.list ((sortL cs ds R).map rowV))) (v11 := v11) (chg := chg) (v := .bool true) hc
 refine ⟨s2, goneS s2 ch ++ chg, I2, ?_⟩
 unfold lawSt at bk ⊢
 exact tp_blk [(aQe e1), aC] fun fin => kp (by kernel_rfl) (aI (no_cut chg 1) <| aI aT <| aI e1 <| aI bk <| fin)
theorem b_C (C : Cols n cs ds rs) (I : Inv cs ds rs R s) (hR : R.length ≤ 7) (hok : ∀ p ∈ R, okRow n p) : ∃ s' v11' chg', Inv cs ds rs R s' ∧
  evB (run (pr 51) 40) lawC (lawSt sc n cs ds a b s R v8 v9 v10 v11 chg) = some (.next, lawSt sc n cs ds a b s' R v8 v9 (some (.list ((sortL cs ds R).map rowV))) v11' chg') := by
 have e1 := l_sorted C O1 hok
 obtain ⟨x1, e2⟩ := comp_enc (m := 35) (led := (lawSt sc n cs ds a b s R v8 v9 v10 v11 []).led) (chg := chg) (lent := []) (sortL cs ds R) none (srt_ok hok)
 obtain ⟨s2, ch, I2, hc, e3, e4⟩ := l_told C I O1 hok
 obtain ⟨s3, ch3, I3, hc3, e5, _⟩ := l_told C I2 O1 hok
 have bk := law_back (sc := sc) (n := n) (cs := cs) (ds := ds) (a := a) (b := b) (s := s) (s' := s2) (R := R) (v8 := v8) (v9 := v9) (v10 := some (.list ((sortL cs ds R).map rowV))) (v11 := some (.list ((sortL cs ds R).map encV))) (chg := chg) (v := .list ((sortL cs ds R).map encV)) hc
 have bk3 := law_back (sc := sc) (n := n) (cs := cs) (ds := ds) (a := a) (b := b) (s := s2) (s' := s3) (R := R) (v8 := v8) (v9 := v9) (v10 := some (.list ((sortL cs ds R).map rowV))) (v11 := some (.list ((sortL cs ds R).map encV))) (chg := goneS s2 ch ++ chg) (v := .list ((sortL cs ds R).map encV)) hc3
 have e6 := ne_enc (rows := sortL cs ds R)
 have j1 := no_cut (goneS s2 ch ++ chg) 1
 refine ⟨s3, some (.list ((sortL cs ds R).map encV)), goneS s3 ch3 ++ (goneS s2 ch ++ chg), I3, ?_⟩
 unfold lawSt at bk bk3 e2 ⊢
 exact tp_blk [(aQe e1), aC, (aKe e2), (aQe e3), aN, aC, (aQe e4), aC, (aQe e5), aN, aC, aC] fun fin => kp (by kernel_rfl) (aI (no_cut chg 4) <| aI aT <| aI e1 <| aI aT <| aI ((by rw [List.length_map, sort_len]; exact O1) : ((sortL cs ds R).map rowV).length ≤ 1000000) <| aI e2 <| aI (beq_self_eq_true _ : (chg.length == chg.length) = true) <| aI (no_cut chg 1) <| aI aT <| aI e3 <| aI bk <| aI e6 <| aI j1 <| aI n34 <| aI aT <| aI e4 <| aI aT <| aI j1 <| aI aT <| aI e5 <| aI bk3 <| aI e6 <| fin)
theorem b_B (C : Cols n cs ds rs) (ho : OkSrc a b) (I : Inv cs ds rs [] s) : ∃ R' a' b' s' v8' v9' chg', OkSrc a' b' ∧ Inv cs ds rs R' s' ∧ (∀ p ∈ R', okRow n p) ∧ R'.length ≤ 7 ∧
  evB (run (pr 51) 40) lawB (lawSt sc n cs ds a b s [] v8 v9 v10 v11 chg) = some (.next, lawSt sc n cs ds a' b' s' R' v8' v9' v10 v11 chg') := by
 obtain ⟨d, a1, b1, hd, o1, e1⟩ := s_take (j := 51) (by decide) ho (top := 8) (by decide) (by decide)
 have e2 := rng_nat0 (s := d) O1
 obtain ⟨R', a', b', s', v8', v9', c', o', I', hok', hl', e3⟩ := loop0 (sc := sc) C d (v8 := v8) (v9 := v9) (v10 := v10) (v11 := v11) (chg := chg) o1 I (fun p hp => nomatch hp) (by show 0 + _ ≤ 7; omega)
 refine ⟨R', a', b', s', v8', v9', c', o', I', hok', hl', ?_⟩
 rw [List.length_nil] at e3
 unfold lawSt at e3 ⊢
 exact tp_blk [(aQe e1), aC, (aLe e2), (aOe e3)] fun fin => kp (by kernel_rfl) (aI (no_cut chg 0) <| aI aT <| aI e1 <| aI aT <| aI e2 <| aI e3 <| fin)
end
theorem law_pure : ∀ l : List Int, l.length ≤ 63 → ∃ led chg, runF (prgOf (Dn 51) 51) (fnOf 51) [.f (.list (l.map .int))] [] = some (.f (.bool true), led, chg) := by
 intro l hl
 obtain ⟨a0, b0, o0, e0⟩ := s_pool (j := 51) (by decide) hl
 obtain ⟨d1, a1, b1, hd1, o1, e1⟩ := s_take (j := 51) (by decide) o0 (top := 3) (by decide) (by decide)
 have r1 := rng_nat0 (s := 1 + d1) (by omega)
 have c0 : ((List.range' 0 (1 + d1)).map fun (k : Nat) => FV.int (k : Int)).length ≤ 1000000 := by rw [List.length_map, List.length_range']; omega
 obtain ⟨cs, a2, b2, x1, hcl, hc3, o2, e2⟩ := comp_cols ((List.range' 0 (1 + d1)).map fun (k : Nat) => FV.int (k : Int)) o1
 obtain ⟨ds, a3, b3, x2, hdl, o3, e3⟩ := comp_desc ((List.range' 0 (1 + d1)).map fun (k : Nat) => FV.int (k : Int)) o2
 rw [List.length_map, List.length_range'] at hcl hdl
 have e4 := s_kinit (j := 51) (by decide) (cs := cs) (ds := ds) O78 (by omega)
 obtain ⟨d2, a4, b4, hd2, o4, e5⟩ := s_take (j := 51) (by decide) o3 (top := 5) (by decide) (by decide)
 have e6 := s_sinit (j := 51) (by decide) (cs := cs) (ds := ds) (rs := 1 + d2)
 have C : Cols (1 + d1) cs ds (1 + d2) := ⟨by exact O61, by omega, hcl, hdl, hc3, by exact O61, by omega⟩
 have c1 := tupL_ok (l := cs.map colOf) (by rw [List.length_map]; omega)
 have c2 := tupL_ok (l := ds.map .bool) (by rw [List.length_map]; omega)
 have hA : evB (run (pr 51) 40) lawA (startSt 51 [.f (.list (l.map .int))] []) = some (.next, lawSt (.list (l.map .int)) (1 + d1) cs ds a4 b4 (so0 cs ds (1 + d2)) [] none none none none [30]) := by
  exact tp_blk [(aQe e0), (aQe e1), aC, aC, (aLe r1), (aKe e2), (aVe c1), aC, (aLe r1), (aKe e3), (aVe c2), (aQe e4), (aQe e5), aC, (aQe e6)] fun fin => kp (by kernel_rfl) (aI aT <| aI e0 <| aI aT <| aI aT <| aI aT <| aI e1 <| aI aT <| aI r1 <| aI c0 <| aI e2 <| aI aT <| aI c1 <| aI r1 <| aI c0 <| aI e3 <| aI aT <| aI c2 <| aI aT <| aI aT <| aI e4 <| aI aT <| aI aT <| aI aT <| aI aT <| aI e5 <| aI aT <| aI aT <| aI aT <| aI e6 <| aI aT <| aI aT <| aI aT <| fin)
 obtain ⟨R, a5, b5, s5, v8, v9, ch5, o5, I5, hok, hR, hB⟩ := b_B (sc := .list (l.map .int)) (v8 := none) (v9 := none) (v10 := none) (v11 := none) (chg := [30]) C o4 (inv0 (cs := cs) (ds := ds) C.r1)
 obtain ⟨s6, v11, ch6, I6, hC⟩ := b_C (sc := .list (l.map .int)) (a := a5) (b := b5) (v8 := v8) (v9 := v9) (v10 := none) (v11 := none) (chg := ch5) C I5 hR hok
 obtain ⟨s7, ch7, I7, hD⟩ := b_D (sc := .list (l.map .int)) (a := a5) (b := b5) (v8 := v8) (v9 := v9) (v11 := v11) (chg := ch6) C I6 hR hok
 obtain ⟨R', a8, b8, s8, v8', v9', ch8, I8, hok', hR', hE⟩ := b_E (sc := .list (l.map .int)) (v8 := v8) (v9 := v9) (v10 := some (.list ((sortL cs ds R).map rowV))) (v11 := v11) (chg := ch7) C o5 I7 hR hok
 obtain ⟨st, hF⟩ := b_F (sc := .list (l.map .int)) (a := a8) (b := b8) (v8 := v8') (v9 := v9') (v10 := some (.list ((sortL cs ds R).map rowV))) (v11 := v11) (chg := ch8) C I8 hR' hok'
 exact ⟨_, _, runF_of (fn := fnOf 51) rfl (evB_app (l1 := lawA) hA (evB_app (l1 := lawB) hB (evB_app (l1 := lawC) hC (evB_app (l1 := lawD) hD (evB_app (l1 := lawE) hE hF)))))⟩
end Mine
end
section
open PySem PySem.W PySem.Calls PyProof.Rows
namespace Mine
theorem top.tw17486766287000646611 : True := trivial
theorem top.tw13326734554550294991 : True := trivial
theorem top.tw16821654228018055803 : True := trivial
theorem top.tw3474246075231452896 : True := trivial
theorem top.tw9951221954081769418 : True := trivial
theorem top.tw9108098604805947806 : True := trivial
theorem top.tw6370870915552960936 : True := trivial
theorem top.tw9768079942903668216 : True := trivial
theorem top.tw4321519831107876412 : True := trivial
theorem top.tw8973803690348224638 : True := trivial
theorem top.tw10797620697341660853 : True := trivial
theorem top.tw634140439597932539 : True := trivial
theorem top.tw6761616313442571491 : True := trivial
theorem top.tw7855079511596107753 : True := trivial
theorem top.tw14372152842798730730 : True := trivial
theorem top.tw2758071753971750899 : True := trivial
theorem top.tw13706816188851595723 : True := trivial
theorem top.tw9195894827357321740 : True := trivial
theorem top.tw7386116660499605909 : True := trivial
theorem top.tw5868845118606482295 : True := trivial
theorem top.tw5972265886074215480 : True := trivial
theorem top.tw15362295582089109014 : True := trivial
theorem top.tw2988451766255067171 : True := trivial
theorem top.tw2007660962349395123 : True := trivial
theorem top.tw13160728816969591200 : True := trivial
theorem top.tw3855276242980373810 : True := trivial
theorem top.tw14762295962024373759 : True := trivial
theorem top.tw517144808224063464 : True := trivial
theorem top.tw12385144161495827662 : True := trivial
theorem top.tw10187264123177260123 : True := trivial
theorem top.tw2683898200743741643 : True := trivial
theorem top.tw10448899703829047738 : True := trivial
theorem top.tw9843447840031818808 : True := trivial
theorem top.tw12216891806147817523 : True := trivial
theorem top.tw3195968871104189447 : True := trivial
theorem top.tw14697636140705633519 : True := trivial
theorem top.tw7414872774492366064 : True := trivial
theorem top.tw339143206060000330 : True := trivial
theorem top.tw16204670001084760307 : True := trivial
theorem top.tw8472579005086612782 : True := trivial
theorem top.tw9442318146202087700 : True := trivial
theorem top.tw2741389259953327712 : True := trivial
theorem top.tw8140125068956082859 : True := trivial
theorem top.tw8107780213005350392 : True := trivial
theorem top.tw3584897518013459382 : True := trivial
theorem top.tw5889316905344633881 : True := trivial
theorem top.tw6820031018915271472 : True := trivial
theorem top.tw9229161468869434483 : True := trivial
theorem top.tw3712731000106771831 : True := trivial
theorem top.tw12958502747184954254 : True := trivial
theorem top.tw15918733279669447828 : True := trivial
theorem top.tw370947364307004932 : True := trivial
theorem top.tw1483126911874232274 : True := trivial
theorem top.tw10648311167861321448 : True := trivial
theorem top.tw10864713392326063847 : True := trivial
theorem top.tw8810280945414196856 : True := trivial
theorem top.tw7600245330811189008 : True := trivial
theorem top.tw10617020205504526918 : True := trivial
theorem top.tw594810645892935528 : True := trivial
theorem top.tw6756868429301003459 : True := trivial
theorem top.tw427420600052151026 : True := trivial
theorem top.tw12094960947251128927 : True := trivial
theorem top.tw15169761463676818070 : True := trivial
theorem top.tw8523463495250067690 : True := trivial
theorem top.tw5860347150701562758 : True := trivial
theorem top.tw12787338502077490372 : True := trivial
theorem top.tw3261557481417251176 : True := trivial
theorem top.tw5635023394480961331 : True := trivial
theorem top.tw17428532607074087071 : True := trivial
theorem top.tw11536330283829923712 : True := trivial
theorem top.tw1088946173253831356 : True := trivial
theorem top.tw14597223018079223185 : True := trivial
theorem top.tw15299407806266782574 : True := trivial
theorem top.tw9165953624949470791 : True := trivial
theorem top.tw7297446738713254254 : True := trivial
theorem top.tw2867133514656366558 : True := trivial
theorem top.tw14987219478266130788 : True := trivial
theorem top.tw11443710868159068359 : True := trivial
theorem top.tw8987113709696297574 : True := trivial
theorem top.tw2443449257678562572 : True := trivial
theorem top.tw11199710921928265848 : True := trivial
theorem top.tw2555065506035805374 : True := trivial
theorem top.tw12318557346453588183 : True := trivial
theorem top.tw8657480035899644758 : True := trivial
theorem top.tw14747140909534839006 : True := trivial
theorem top.tw18186074749648716422 : True := trivial
theorem top.tw6883741973766446791 : True := trivial
theorem top.tw10996937224433265937 : True := trivial
theorem top.tw16420938139371093754 : True := trivial
theorem top.tw7786608210978119480 : True := trivial
theorem top.tw12376051458212225564 : True := trivial
theorem top.tw10567129059001840431 : True := trivial
theorem top.tw12317137736924338119 : True := trivial
theorem top.tw14502225709538309166 : True := trivial
theorem top.tw8813761850579938390 : True := trivial
theorem top.tw12540527436937284434 : True := trivial
theorem top.tw16054190913257422852 : True := trivial
theorem top.tw12166907935582030026 : True := trivial
theorem top.tw17089494485692210459 : True := trivial
theorem top.tw9919435345466941130 : True := trivial
theorem top.tw15860264024139754761 : True := trivial
theorem top.tw12643491718579748851 : True := trivial
theorem top.tw7652560490529028683 : True := trivial
theorem top.tw9759319705405543751 : True := trivial
theorem top.tw16273406610938067001 : True := trivial
theorem top.tw16196420915677631385 : True := trivial
theorem top.tw6042063481754889096 : True := trivial
theorem top.tw18371284783138465269 : True := trivial
theorem top.tw13889484949932952446 : True := trivial
theorem top.tw13303987763403120937 : True := trivial
theorem top.tw13983857475226248213 : True := trivial
theorem top.tw8025738503920905074 : True := trivial
theorem top.tw15095372191486117680 : True := trivial
theorem top.tw1139600151236580504 : True := trivial
theorem top.tw10101883266178500549 : True := trivial
theorem top.tw6859976401760118174 : True := trivial
theorem top.tw10548783162686979305 : True := trivial
theorem top.tw1736530178072539846 : True := trivial
theorem top.tw2813407560741378457 : True := trivial
theorem top.tw105208000716104510 : True := trivial
theorem top.tw4940147422707163885 : True := trivial
theorem top.tw11546936639936008217 : True := trivial
theorem top.tw3561193834555079511 : True := trivial
theorem top.tw5278709424875269971 : True := trivial
theorem top.tw17886615442053742456 : True := trivial
theorem top.tw15740088241188596515 : True := trivial
theorem top.tw11279390925490393535 : True := trivial
theorem top.tw6189502492464219833 : True := trivial
theorem top.tw15254643099363442306 : True := trivial
theorem top.tw3315250197877816394 : True := trivial
theorem top.tw16541100652227675460 : True := trivial
theorem top.tw2218668502564051296 : True := trivial
theorem top.tw9259421805112917234 : True := trivial
theorem top.tw5155950481276406077 : True := trivial
theorem top.tw6240723676877644813 : True := trivial
theorem top.tw18086089286151905521 : True := trivial
theorem top.tw9335426496214029073 : True := trivial
theorem top.tw11199532085631943738 : True := trivial
theorem top.tw10195997230039290492 : True := trivial
theorem top.tw1732150942055357024 : True := trivial
theorem top.tw6885214360128481674 : True := trivial
theorem top.tw6749217079512962374 : True := trivial
theorem top.tw2812155379371279736 : True := trivial
theorem top.tw2249405535684624136 : True := trivial
theorem top.tw18164388396756303480 : True := trivial
theorem top.tw4186445540838780016 : True := trivial
theorem top.tw4076138812419527698 : True := trivial
theorem top.tw2732273902793177162 : True := trivial
theorem top.tw17046948494117081484 : True := trivial
theorem top.tw10090393231696489298 : True := trivial
theorem top.tw5597187220613765494 : True := trivial
theorem top.tw14917401599646851644 : True := trivial
theorem top.tw9800703332001039478 : True := trivial
theorem top.tw4859757453598101857 : True := trivial
theorem top.tw10404823597219466188 : True := trivial
theorem top.tw3254097082911018636 : True := trivial
theorem top.tw9614876229902214918 : True := trivial
theorem top.tw620129878449983639 : True := trivial
theorem top.tw2847958352784047137 : True := trivial
theorem top.tw2057334267981633021 : True := trivial
theorem top.tw2581206410525282061 : True := trivial
theorem top.tw17795014544551873601 : True := trivial
theorem top.tw16900427199656544559 : True := trivial
theorem top.tw5221569119214977344 : True := trivial
theorem top.tw18237780215024852062 : True := trivial
theorem top.tw14441281891607691402 : True := trivial
theorem top.tw17565814175750979855 : True := trivial
theorem top.tw2145171640123136144 : True := trivial
theorem top.tw7990429038631628895 : True := trivial
theorem top.tw9601329371697537090 : True := trivial
theorem top.tw10809530336115266500 : True := trivial
theorem top.tw4655869559712951663 : True := trivial
theorem top.tw11960245374511038805 : True := trivial
theorem top.tw16352630495959832749 : True := trivial
theorem top.tw2462062305354472974 : True := trivial
theorem top.tw227720230686144328 : True := trivial
theorem top.tw9382581127745807760 : True := trivial
theorem top.tw6624316729101989866 : True := trivial
theorem top.tw11459358961799972967 : True := trivial
theorem top.tw14402358008270493973 : True := trivial
theorem top.tw11613256710310857696 : True := trivial
theorem top.tw14789260269991461300 : True := trivial
theorem top.tw2835187731363253809 : True := trivial
theorem top.tw13799840507378627052 : True := trivial
theorem top.tw16453443671601555132 : True := trivial
theorem top.tw6664487174759623829 : True := trivial
theorem top.tw8311017846404947139 : True := trivial
theorem top.tw15503665604740900718 : True := trivial
theorem top.tw14168018189251442112 : True := trivial
theorem top.tw6438537300738474071 : True := trivial
theorem top.tw7671549972530922468 : True := trivial
theorem top.tw708234853630380328 : True := trivial
theorem top.tw9874905121527432817 : True := trivial
theorem top.tw15058813355848621054 : True := trivial
theorem top.tw1585457916280141200 : True := trivial
theorem top.tw14142502885225118848 : True := trivial
theorem top.tw13420762306968818387 : True := trivial
theorem top.tw11240886729373846589 : True := trivial
theorem top.tw501154541418245514 : True := trivial
theorem top.tw4526881389914513428 : True := trivial
theorem top.tw5058314954733539658 : True := trivial
theorem top.tw16869712714098612864 : True := trivial
theorem top.tw13090165191389475591 : True := trivial
theorem top.tw13928562000808390012 : True := trivial
theorem top.tw17620759639134147866 : True := trivial
theorem top.tw5476889619067714990 : True := trivial
theorem top.tw216529984938456764 : True := trivial
theorem top.tw14724332232928298890 : True := trivial
theorem top.tw8237333600419904120 : True := trivial
theorem top.tw17342085116792181814 : True := trivial
theorem top.tw2126296398998916975 : True := trivial
theorem top.tw6431110157172167083 : True := trivial
theorem top.tw4551080515912023512 : True := trivial
theorem top.tw12483720753089274532 : True := trivial
theorem top.tw8249843702205669984 : True := trivial
theorem top.tw15286249088069653756 : True := trivial
theorem top.tw12080426169559351053 : True := trivial
theorem top.tw14263998999751124003 : True := trivial
theorem top.tw1676862907878916244 : True := trivial
theorem top.tw15092371282622821202 : True := trivial
theorem top.tw16759092144687519636 : True := trivial
theorem top.tw3422688185749166683 : True := trivial
theorem top.tw15245507539482535896 : True := trivial
theorem top.tw10936122117785486979 : True := trivial
theorem top.tw14826035006057030972 : True := trivial
theorem top.tw12342655685612074800 : True := trivial
theorem top.tw10783980745131425670 : True := trivial
theorem top.tw10006222313960134694 : True := trivial
theorem top.tw2377541652452675900 : True := trivial
theorem top.tw14901070454687303710 : True := trivial
theorem top.tw7847650389618582240 : True := trivial
theorem top.tw18064794426631996164 : True := trivial
theorem top.tw14435140724418575476 : True := trivial
theorem top.tw1149218181149386328 : True := trivial
theorem top.tw12425085872883035938 : True := trivial
theorem top.tw8435561252592420358 : True := trivial
theorem top.tw8204474986945543665 : True := trivial
theorem top.tw1068965626710143233 : True := trivial
theorem top.tw13359135706311490777 : True := trivial
theorem top.tw8212240652046128837 : True := trivial
theorem top.tw10801874191123338550 : True := trivial
theorem top.tw13272337422414781067 : True := trivial
theorem top.tw649594095290182367 : True := trivial
theorem top.tw8729362747519067210 : True := trivial
theorem top.tw7313339093194340965 : True := trivial
theorem top.tw5225916559131626549 : True := trivial
theorem top.tw8735323631387419056 : True := trivial
theorem top.tw1124271682379634556 : True := trivial
theorem top.tw5225153198818245361 : True := trivial
theorem top.tw1195175773429642966 : True := trivial
theorem top.tw14371913498598963198 : True := trivial
theorem top.tw6333448901615975916 : True := trivial
theorem top.tw16439428074185983240 : True := trivial
theorem top.tw13345470168829271861 : True := trivial
theorem top.tw453181688931711583 : True := trivial
theorem top.tw16719718919923625709 : True := trivial
theorem top.tw1754339480302792767 : True := trivial
theorem top.tw6211089042160764376 : True := trivial
theorem top.tw908825868028484722 : True := trivial
theorem top.tw1869187583165140508 : True := trivial
theorem top.tw2665807947273092163 : True := trivial
theorem top.tw11334350811105764591 : True := trivial
theorem top.tw14754175374989220469 : True := trivial
theorem top.tw6127594578889010139 : True := trivial
theorem top.tw16908367333471869533 : True := trivial
theorem top.tw8598144960395782539 : True := trivial
theorem top.tw14374289702345001990 : True := trivial
theorem top.tw2506305409684761478 : True := trivial
theorem top.tw427269002284569659 : True := trivial
theorem top.tw9366391650621772374 : True := trivial
theorem top.tw775762912060472103 : True := trivial
theorem top.tw18177719399980262173 : True := trivial
theorem top.tw14823308797102314842 : True := trivial
theorem top.tw14632489290957082403 : True := trivial
theorem top.tw2464713573024523455 : True := trivial
theorem top.tw16885616592811714743 : True := trivial
theorem top.tw16878204669230926818 : True := trivial
theorem top.tw3976154599441133093 : True := trivial
set_option Elab.async true
set_option maxHeartbeats 8000000 in
theorem top : PySem.Challenge.rw_nt0112_01.Holds := by
 w_on
 o_law
 k_head
 case hw => w_witness2
 exact law_walk law_pure (fun P => ⟨defs_of (by kernel_rfl) (by kernel_rfl) (by kernel_rfl), glob_of (by kernel_rfl), bis_of (by kernel_rfl), tys_of (by kernel_rfl),
  attr_of ⟨by kernel_rfl, by kernel_rfl, by kernel_rfl, by kernel_rfl⟩ ⟨by kernel_rfl, by kernel_rfl, by kernel_rfl, by kernel_rfl⟩ (by kernel_rfl) (by kernel_rfl),
  meth_of ⟨by kernel_rfl, by kernel_rfl, by kernel_rfl, by kernel_rfl⟩ ⟨by kernel_rfl, by kernel_rfl, by kernel_rfl, by kernel_rfl⟩ (by kernel_rfl) (by kernel_rfl),
  cls_of ⟨by kernel_rfl, by kernel_rfl, by kernel_rfl, by kernel_rfl, clsM_ok (by kernel_rfl)⟩ ⟨by kernel_rfl, by kernel_rfl, by kernel_rfl, by kernel_rfl, clsM_ok (by kernel_rfl)⟩ (by kernel_rfl) (by kernel_rfl)⟩) (fun P => by kernel_rfl) (fun w h Y => kIn_of Y) (by kernel_rfl)
end Mine
set_option Elab.async false
end
open PySem PySem.W PyProof.Rows
theorem PySem.Challenge.cw_nt0112_01_holds : PySem.Challenge.rw_nt0112_01.Holds := by
  exact Mine.top
