import PyProof.Rows.All
import Wide.All
import OpenK.AllK
import Wide.FinOn
import HandS.ForMost
import HandS.Gcd
import HandS.Wide
import HandS.WideBits
import HandS.IsInst
import HandS.Exc
import HandS.Defaults
import HandS.HeadHook1
import HandS.HeadHook2
import HandS.RaiseMore
import PyProof.ReprLen
import HandS.Head0
import HandS.Head1
import HandS.Head2
import HandS.Head3
import KE.KStateDown
import PySem.Challenge.RW_surelyheld_k10_whole_fractions_reckoned
set_option Elab.async false
set_option linter.all false
set_option maxRecDepth 100000
set_option maxHeartbeats 4000000
/-! DLCore: data level predicate transformers (own work): data D, slots, store; readings of expressions and statements over data. -/
namespace DL
open PySem PySem.Spec PyProof.Rows L2
/-- data as a def sees it: lst, tup never change; own k is a list that may change, its items stand in the store at k; wl a list that is only read (the script) -/
inductive Ty where
  | int | bool | str | list | tuple | dict | none
  deriving DecidableEq
def Ty.name : Ty → String
  | .int => "int" | .bool => "bool" | .str => "str" | .list => "list" | .tuple => "tuple" | .dict => "dict" | .none => "NoneType"
inductive D where
  | non | bl (b : Bool) | int (i : Int) | str (x : Str) | ty (n : Ty)
  | tup (xs : List D) | lst (xs : List D) | wl (xs : List D) | emp | own (k : Nat)
abbrev Sl := List (Option D)
abbrev Sto := List (Option (List D))
/-- an exception: the name of its class, what its dict holds -/
structure DX where
  cls : Str
  fs : List (Str × D)
abbrev DK := D → Sto → Prop
abbrev DXK := DX → Sto → Prop
abbrev DTE := Sl → Sto → DK → DXK → Prop
abbrev DTA := Sl → Sto → (List D → Sto → Prop) → DXK → Prop
abbrev DTT := Sl → Sto → (Bool → Sto → Prop) → DXK → Prop
structure DEnd where
  nx : Sl → Sto → Prop
  rt : DK
  xs : DXK
  bk : Sl → Sto → Prop := fun _ _ => False
  ct : Sl → Sto → Prop := fun _ _ => False
abbrev DTS := DEnd → Sl → Sto → Prop
abbrev DTG := D → Sl → Sto → (Sl → Sto → Prop) → Prop
abbrev DTI := Sl → Sto → (List D → Sto → Prop) → DXK → Prop
abbrev DSp := List D → Sto → DK → DXK → Prop
/-- what an operation on data gives -/
inductive Res where
  | no | ok (d : D) | side (C : Prop) (d : D) | exc (x : DX)
def ap : Res → (D → Prop) → (DX → Prop) → Prop
  | .no, _, _ => False
  | .ok d, Q, _ => Q d
  | .side C d, Q, _ => C ∧ Q d
  | .exc x, _, E => E x
theorem ap_mono {r : Res} {Q Q' : D → Prop} {E E' : DX → Prop} (h : ∀ d, Q d → Q' d) (hx : ∀ x, E x → E' x) (q : ap r Q E) : ap r Q' E' := by
  cases r with
  | no => exact q
  | ok d => exact h _ q
  | side C d => exact ⟨q.1, h _ q.2⟩
  | exc x => exact hx _ q
def look : Sl → Nat → Option D
  | [], _ => none
  | o :: _, 0 => o
  | _ :: r, n + 1 => look r n
def put : Sl → Nat → Option D → Sl
  | [], _, _ => []
  | _ :: r, 0, d => d :: r
  | o :: r, n + 1, d => o :: put r n d
def wiped : Sl → List Nat → Sl
  | s, [] => s
  | s, i :: r => put (wiped s r) i none
/-! ### expressions -/
def dC (d : D) : DTE := fun _ M Q _ => Q d M
def dVar (i : Nat) : DTE := fun s M Q _ => match look s i with
  | some d => Q d M
  | none => False
def dBin (f : Sto → D → D → Res) (ta tb : DTE) : DTE := fun s M Q E => ta s M (fun x M1 => tb s M1 (fun y M2 => ap (f M2 x y) (fun d => Q d M2) fun _ => False) E) E
def dUn (f : Sto → D → Res) (ta : DTE) : DTE := fun s M Q E => ta s M (fun x M1 => ap (f M1 x) (fun d => Q d M1) fun _ => False) E
def dNil : DTA := fun _ M Q _ => Q [] M
def dCons (ta : DTE) (tr : DTA) : DTA := fun s M Q E => ta s M (fun x M1 => tr s M1 (fun xs M2 => Q (x :: xs) M2) E) E
def dFn (f : Sto → List D → Res) (ta : DTA) : DTE := fun s M Q E => ta s M (fun xs M1 => ap (f M1 xs) (fun d => Q d M1) fun _ => False) E
def dTup (ta : DTA) : DTE := fun s M Q E => ta s M (fun xs M1 => xs.length ≤ sizeLine ∧ Q (.tup xs) M1) E
def dLst (ta : DTA) : DTE := fun s M Q E => ta s M (fun xs M1 => xs.length ≤ sizeLine ∧ Q (.lst xs) M1) E
/-- a new list that may change -/
def dLstO (ta : DTA) : DTE := fun s M Q E => ta s M (fun xs M1 => xs.length ≤ sizeLine ∧ Q (.own M1.length) (M1 ++ [some xs])) E
def dCall (sp : DSp) (ta : DTA) : DTE := fun s M Q E => ta s M (fun xs M1 => sp xs M1 Q E) E
/-- with keywords: g puts positional and keyword values in the parameters' order -/
def dCallK (n m : Nat) (sp : DSp) (g : List D → List D → List D) (ta tk : DTA) : DTE := fun s M Q E => ta s M (fun xs M1 => tk s M1 (fun ys M2 => xs.length = n ∧ ys.length = m ∧ sp (g xs ys) M2 Q E) E) E
/-! ### tests -/
def dT (t : DTE) : DTT := fun s M Q E => t s M (fun d M1 => match d with
  | .bl b => Q b M1
  | _ => False) E
def dAnd (t u : DTT) : DTT := fun s M Q E => t s M (fun b M1 => if b = true then u s M1 Q E else Q false M1) E
def dOr (t u : DTT) : DTT := fun s M Q E => t s M (fun b M1 => if b = true then Q true M1 else u s M1 Q E) E
def dNot (t : DTT) : DTT := fun s M Q E => t s M (fun b M1 => Q (!b) M1) E
def dAndV (t u : DTE) : DTE := fun s M Q E => t s M (fun d M1 => match d with
  | .bl b => if b = true then u s M1 Q E else Q (.bl false) M1
  | _ => False) E
def dOrV (t u : DTE) : DTE := fun s M Q E => t s M (fun d M1 => match d with
  | .bl b => if b = true then Q (.bl true) M1 else u s M1 Q E
  | _ => False) E
def dNotV (t : DTE) : DTE := fun s M Q E => t s M (fun d M1 => match d with
  | .bl b => Q (.bl (!b)) M1
  | _ => False) E
def dIfE (c : DTT) (t u : DTE) : DTE := fun s M Q E => c s M (fun b M1 => if b = true then t s M1 Q E else u s M1 Q E) E
/-- a chain of two comparisons -/
def dChain (f g : Sto → D → D → Res) (ta tb tc : DTE) : DTE := fun s M Q E => ta s M (fun x M1 => tb s M1 (fun y M2 => ap (f M2 x y) (fun d => match d with
  | .bl b => if b = true then tc s M2 (fun z M3 => ap (g M3 y z) (fun d => Q d M3) fun _ => False) E else Q (.bl false) M2
  | _ => False) fun _ => False) E) E
/-! ### targets -/
def gN (i : Nat) : DTG := fun d s M Q => Q (put s i (some d)) M
def gNilD (ds : List D) (s : Sl) (M : Sto) (Q : Sl → Sto → Prop) : Prop := match ds with
  | [] => Q s M
  | _ => False
abbrev DTGs := List D → Sl → Sto → (Sl → Sto → Prop) → Prop
def gsNil : DTGs := fun ds s M Q => match ds with
  | [] => Q s M
  | _ => False
def gsCons (g : DTG) (gs : DTGs) : DTGs := fun ds s M Q => match ds with
  | d :: r => g d s M fun s1 M1 => gs r s1 M1 Q
  | _ => False
def gT (n : Nat) (gs : DTGs) : DTG := fun d s M Q => match d with
  | .tup xs => xs.length = n ∧ gs xs s M Q
  | _ => False
/-! ### statements -/
def dSeq (t u : DTS) : DTS := fun D s M => t { D with nx := u D } s M
def dNext : DTS := fun D s M => D.nx s M
def dAsg (t : DTE) (g : DTG) : DTS := fun D s M => t s M (fun d M1 => g d s M1 D.nx) D.xs
def dRet (t : DTE) : DTS := fun D s M => t s M D.rt D.xs
def dRetN : DTS := fun D _ M => D.rt .non M
def dIf (c : DTT) (t u : DTS) : DTS := fun D s M => c s M (fun b M1 => if b = true then t D s M1 else u D s M1) D.xs
def dDrop (t : DTE) : DTS := fun D s M => t s M (fun _ M1 => D.nx s M1) D.xs
def dNever : DTS := fun _ _ _ => False
def dPar (i j : Nat) (ta : DTA) : DTS := fun D s M => ta s M (fun ds M1 => match ds with
  | [x, y] => D.nx (put (put s i (some x)) j (some y)) M1
  | _ => False) D.xs
def forD (g : DTG) (tb : DTS) : List D → DTS
  | [], D, s, M => D.nx s M
  | x :: r, D, s, M => g x s M fun s1 M1 => tb { D with nx := forD g tb r D, ct := forD g tb r D, bk := D.nx } s1 M1
def dFor (ti : DTI) (g : DTG) (tb : DTS) : DTS := fun D s M => ti s M (fun xs M1 => forD g tb xs D s M1) D.xs
def dWhile (c : DTT) (tb : DTS) : DTS := fun D s M => ∃ W : Nat → Sl → Sto → Prop, (∃ m, W m s M) ∧ ∀ m s M, W m s M →
  c s M (fun b M1 => if b = true then tb { D with nx := fun s' M' => ∃ m', m' < m ∧ W m' s' M', ct := fun s' M' => ∃ m', m' < m ∧ W m' s' M', bk := D.nx } s M1 else D.nx s M1) D.xs
/-- the comprehension's turns -/
def compD (g : DTG) (tt : DTT) (te : DTE) : List D → Sl → Sto → (List D → Sto → Prop) → DXK → Prop
  | [], _, M, Q, _ => Q [] M
  | x :: r, s, M, Q, E => g x s M fun s1 M1 => tt s1 M1 (fun b M2 => if b = true then te s1 M2 (fun y M3 => compD g tt te r s M3 (fun ys M4 => Q (y :: ys) M4) E) E else compD g tt te r s M2 Q E) E
def dComp (ti : DTI) (g : DTG) (tt : DTT) (te : DTE) (vs : List Nat) : DTE := fun s M Q E => ti s M (fun xs M1 => compD g tt te xs (wiped s vs) M1 (fun ys M2 => Q (.lst ys) M2) fun _ _ => False) E
def dYes : DTT := fun _ M Q _ => Q true M
/-! ### what is walked -/
def items : D → Option (List D)
  | .tup xs | .lst xs | .wl xs => some xs
  | _ => none
def dIt (t : DTE) : DTI := fun s M Q E => t s M (fun d M1 => match items d with
  | some xs => Q xs M1
  | none => False) E
/-! ### freezing a list that may change -/
def frzO (k : Nat) (ds : List D) : Option D → Option D
  | some (.own j) => if j = k then some (.lst ds) else some (.own j)
  | o => o
def frzS (k : Nat) (ds : List D) (s : Sl) : Sl := s.map (frzO k ds)
def dFrz (i : Nat) : DTS := fun D s M => match look s i with
  | some (.own k) => (match M[k]? with
    | some (some ds) => D.nx (frzS k ds s) (M.set k none)
    | _ => False)
  | _ => False
/-! ### items, stores -/
def atD {α : Type} (xs : List α) : Int → Option α
  | .ofNat n => xs[n]?
  | .negSucc n => if n < xs.length then xs[xs.length - (n + 1)]? else none
def ixD (n : Nat) : Int → Option Nat
  | .ofNat j => if j < n then some j else none
  | .negSucc j => if j < n then some (n - (j + 1)) else none
/-- o[i] = .. -/
def gIx (to ti : DTE) : DTG := fun d s M Q => to s M (fun x M1 => ti s M1 (fun y M2 => match x, y with
  | .own k, .int i => (match M2[k]? with
    | some (some ds) => (match ixD ds.length i with
      | some j => Q s (M2.set k (some (ds.set j d)))
      | none => False)
    | _ => False)
  | _, _ => False) fun _ _ => False) fun _ _ => False
def opt (o : Option D) : Res := match o with
  | some d => .ok d
  | none => .no
def fIx : Sto → D → D → Res
  | _, .tup xs, .int i => opt (atD xs i)
  | _, .lst xs, .int i => opt (atD xs i)
  | _, .wl xs, .int i => opt (atD xs i)
  | M, .own k, .int i => (match M[k]? with
    | some (some ds) => opt (atD ds i)
    | _ => .no)
  | _, .str z, .int i => (match atI z.cps.toList i with
    | some c => .side (z.length ≤ sizeLine) (.str ⟨#[c]⟩)
    | none => .no)
  | _, _, _ => .no
/-! ### a def's entry -/
def dstart (n : Nat) (ds : List D) : Sl := ds.map some ++ List.replicate (n - ds.length) none
/-- a def's promise that gives a value and changes nothing -/
def pureSp (f : List D → Res) : DSp := fun ds M Q E => ap (f ds) (fun d => Q d M) fun x => E x M
/-- a promise by what must stand and what stands behind -/
def relSp (pre : List D → Sto → Prop) (post : List D → Sto → D → Sto → Prop) : DSp := fun ds M Q _ => pre ds M ∧ ∀ d M', post ds M d M' → Q d M'
/-! ### monotony -/
def MonoE (t : DTE) : Prop := ∀ s M Q Q' E E', (∀ d M', Q d M' → Q' d M') → (∀ x M', E x M' → E' x M') → t s M Q E → t s M Q' E'
def MonoA (t : DTA) : Prop := ∀ s M Q Q' E E', (∀ d M', Q d M' → Q' d M') → (∀ x M', E x M' → E' x M') → t s M Q E → t s M Q' E'
def MonoT (t : DTT) : Prop := ∀ s M Q Q' E E', (∀ d M', Q d M' → Q' d M') → (∀ x M', E x M' → E' x M') → t s M Q E → t s M Q' E'
def MonoI (t : DTI) : Prop := ∀ s M Q Q' E E', (∀ d M', Q d M' → Q' d M') → (∀ x M', E x M' → E' x M') → t s M Q E → t s M Q' E'
def MonoG (g : DTG) : Prop := ∀ d s M Q Q', (∀ s' M', Q s' M' → Q' s' M') → g d s M Q → g d s M Q'
def MonoGs (g : DTGs) : Prop := ∀ d s M Q Q', (∀ s' M', Q s' M' → Q' s' M') → g d s M Q → g d s M Q'
structure DEnd.Le (D D' : DEnd) : Prop where
  nx : ∀ s M, D.nx s M → D'.nx s M
  rt : ∀ d M, D.rt d M → D'.rt d M
  xs : ∀ x M, D.xs x M → D'.xs x M
  bk : ∀ s M, D.bk s M → D'.bk s M
  ct : ∀ s M, D.ct s M → D'.ct s M
def MonoS (t : DTS) : Prop := ∀ D D' s M, DEnd.Le D D' → t D s M → t D' s M
def MonoSp (sp : DSp) : Prop := ∀ ds M Q Q' E E', (∀ d M', Q d M' → Q' d M') → (∀ x M', E x M' → E' x M') → sp ds M Q E → sp ds M Q' E'
theorem mono_C {d} : MonoE (dC d) := fun _ _ _ _ _ _ h _ q => h _ _ q
theorem mono_Var {i} : MonoE (dVar i) := fun s M Q Q' E E' h _ q => by
  unfold dVar at q ⊢
  cases e : look s i with
  | none => rw [e] at q; exact q
  | some d => rw [e] at q; exact h _ _ q
section
variable {ta tb tc : DTE} {tr : DTA} {tk : DTA} {c u : DTT}
theorem mono_Bin {f} (ha : MonoE ta) (hb : MonoE tb) : MonoE (dBin f ta tb) := fun s M Q Q' E E' h hx q =>
  ha s M _ _ _ _ (fun x M1 q1 => hb s M1 _ _ _ _ (fun y M2 q2 => ap_mono (fun d => h d M2) (fun _ z => z) q2) hx q1) hx q
theorem mono_Un {f} (ha : MonoE ta) : MonoE (dUn f ta) := fun s M Q Q' E E' h hx q =>
  ha s M _ _ _ _ (fun x M1 q1 => ap_mono (fun d => h d M1) (fun _ z => z) q1) hx q
theorem mono_Nil : MonoA dNil := fun _ _ _ _ _ _ h _ q => h _ _ q
theorem mono_Cons (ha : MonoE ta) (hr : MonoA tr) : MonoA (dCons ta tr) := fun s M Q Q' E E' h hx q =>
  ha s M _ _ _ _ (fun x M1 q1 => hr s M1 _ _ _ _ (fun y M2 q2 => h _ _ q2) hx q1) hx q
theorem mono_Fn {f} (ha : MonoA tr) : MonoE (dFn f tr) := fun s M Q Q' E E' h hx q =>
  ha s M _ _ _ _ (fun x M1 q1 => ap_mono (fun d => h d M1) (fun _ z => z) q1) hx q
theorem mono_Tup (ha : MonoA tr) : MonoE (dTup tr) := fun s M Q Q' E E' h hx q =>
  ha s M _ _ _ _ (fun x M1 q1 => ⟨q1.1, h _ _ q1.2⟩) hx q
theorem mono_Lst (ha : MonoA tr) : MonoE (dLst tr) := fun s M Q Q' E E' h hx q =>
  ha s M _ _ _ _ (fun x M1 q1 => ⟨q1.1, h _ _ q1.2⟩) hx q
theorem mono_LstO (ha : MonoA tr) : MonoE (dLstO tr) := fun s M Q Q' E E' h hx q =>
  ha s M _ _ _ _ (fun x M1 q1 => ⟨q1.1, h _ _ q1.2⟩) hx q
theorem mono_Call {sp} (hs : MonoSp sp) (ha : MonoA tr) : MonoE (dCall sp tr) := fun s M Q Q' E E' h hx q =>
  ha s M _ _ _ _ (fun x M1 q1 => hs _ _ _ _ _ _ h hx q1) hx q
theorem mono_CallK {n m sp g} (hs : MonoSp sp) (ha : MonoA tr) (hk : MonoA tk) : MonoE (dCallK n m sp g tr tk) := fun s M Q Q' E E' h hx q =>
  ha s M _ _ _ _ (fun x M1 q1 => hk s M1 _ _ _ _ (fun y M2 q2 => ⟨q2.1, q2.2.1, hs _ _ _ _ _ _ h hx q2.2.2⟩) hx q1) hx q
theorem mono_T (ha : MonoE ta) : MonoT (dT ta) := fun s M Q Q' E E' h hx q =>
  ha s M _ _ _ _ (fun x M1 q1 => by
    cases x <;> first | exact q1 | exact h _ _ q1) hx q
theorem mono_And (ha : MonoT c) (hb : MonoT u) : MonoT (dAnd c u) := fun s M Q Q' E E' h hx q =>
  ha s M _ _ _ _ (fun x M1 q1 => by
    cases x with
    | true => exact hb _ _ _ _ _ _ h hx q1
    | false => exact h _ _ q1) hx q
theorem mono_Or (ha : MonoT c) (hb : MonoT u) : MonoT (dOr c u) := fun s M Q Q' E E' h hx q =>
  ha s M _ _ _ _ (fun x M1 q1 => by
    cases x with
    | false => exact hb _ _ _ _ _ _ h hx q1
    | true => exact h _ _ q1) hx q
theorem mono_Not (ha : MonoT c) : MonoT (dNot c) := fun s M Q Q' E E' h hx q => ha s M _ _ _ _ (fun x M1 q1 => h _ _ q1) hx q
theorem mono_AndV (ha : MonoE ta) (hb : MonoE tb) : MonoE (dAndV ta tb) := fun s M Q Q' E E' h hx q =>
  ha s M _ _ _ _ (fun x M1 q1 => by
    cases x with
    | bl b => cases b with
      | true => exact hb _ _ _ _ _ _ h hx q1
      | false => exact h _ _ q1
    | _ => exact q1) hx q
theorem mono_OrV (ha : MonoE ta) (hb : MonoE tb) : MonoE (dOrV ta tb) := fun s M Q Q' E E' h hx q =>
  ha s M _ _ _ _ (fun x M1 q1 => by
    cases x with
    | bl b => cases b with
      | false => exact hb _ _ _ _ _ _ h hx q1
      | true => exact h _ _ q1
    | _ => exact q1) hx q
theorem mono_NotV (ha : MonoE ta) : MonoE (dNotV ta) := fun s M Q Q' E E' h hx q =>
  ha s M _ _ _ _ (fun x M1 q1 => by
    cases x with
    | bl b => exact h _ _ q1
    | _ => exact q1) hx q
theorem mono_IfE (hc : MonoT c) (ha : MonoE ta) (hb : MonoE tb) : MonoE (dIfE c ta tb) := fun s M Q Q' E E' h hx q =>
  hc s M _ _ _ _ (fun x M1 q1 => by
    cases x with
    | true => exact ha _ _ _ _ _ _ h hx q1
    | false => exact hb _ _ _ _ _ _ h hx q1) hx q
theorem mono_Chain {f g} (ha : MonoE ta) (hb : MonoE tb) (hc : MonoE tc) : MonoE (dChain f g ta tb tc) := fun s M Q Q' E E' h hx q =>
  ha s M _ _ _ _ (fun x M1 q1 => hb s M1 _ _ _ _ (fun y M2 q2 => ap_mono (fun d q3 => by
    cases d with
    | bl b => cases b with
      | true => exact hc _ _ _ _ _ _ (fun z M3 q4 => ap_mono (fun d => h d M3) (fun _ z => z) q4) hx q3
      | false => exact h _ _ q3
    | _ => exact q3) (fun _ z => z) q2) hx q1) hx q
theorem mono_It (ha : MonoE ta) : MonoI (dIt ta) := fun s M Q Q' E E' h hx q =>
  ha s M _ _ _ _ (fun x M1 q1 => by
    cases e : items x with
    | none => simp only [e] at q1
    | some xs => simp only [e] at q1 ⊢; exact h _ _ q1) hx q
theorem mono_Yes : MonoT dYes := fun _ _ _ _ _ _ h _ q => h _ _ q
end
theorem mono_gN {i} : MonoG (gN i) := fun _ _ _ _ _ h q => h _ _ q
theorem mono_gsNil : MonoGs gsNil := fun d s M Q Q' h q => by
  cases d with
  | nil => exact h _ _ q
  | cons _ _ => exact q
theorem mono_gsCons {g gs} (hg : MonoG g) (hr : MonoGs gs) : MonoGs (gsCons g gs) := fun d s M Q Q' h q => by
  cases d with
  | nil => exact q
  | cons x r => exact hg _ _ _ _ _ (fun s1 M1 q1 => hr _ _ _ _ _ h q1) q
theorem mono_gT {n gs} (hr : MonoGs gs) : MonoG (gT n gs) := fun d s M Q Q' h q => by
  cases d with
  | tup xs => exact ⟨q.1, hr _ _ _ _ _ h q.2⟩
  | _ => exact q
section
variable {t u : DTS} {ta te : DTE} {tr : DTA} {c tt : DTT} {g : DTG} {ti : DTI}
theorem mono_Seq (ha : MonoS t) (hb : MonoS u) : MonoS (dSeq t u) := fun D D' s M h q =>
  ha { D with nx := u D } { D' with nx := u D' } s M ⟨fun s M q1 => hb _ _ _ _ h q1, h.rt, h.xs, h.bk, h.ct⟩ q
theorem mono_Next : MonoS dNext := fun D D' s M h q => h.nx _ _ q
theorem mono_Asg (ha : MonoE ta) (hg : MonoG g) : MonoS (dAsg ta g) := fun D D' s M h q =>
  ha s M _ _ _ _ (fun d M1 q1 => hg _ _ _ _ _ h.nx q1) h.xs q
theorem mono_Ret (ha : MonoE ta) : MonoS (dRet ta) := fun D D' s M h q => ha s M _ _ _ _ h.rt h.xs q
theorem mono_RetN : MonoS dRetN := fun D D' s M h q => h.rt _ _ q
theorem mono_If (hc : MonoT c) (ha : MonoS t) (hb : MonoS u) : MonoS (dIf c t u) := fun D D' s M h q =>
  hc s M _ _ _ _ (fun b M1 q1 => by
    cases b with
    | true => exact ha _ _ _ _ h q1
    | false => exact hb _ _ _ _ h q1) h.xs q
theorem mono_Drop (ha : MonoE ta) : MonoS (dDrop ta) := fun D D' s M h q => ha s M _ _ _ _ (fun d M1 q1 => h.nx _ _ q1) h.xs q
theorem mono_Never : MonoS dNever := fun D D' s M h q => q
theorem mono_Par {i j} (ha : MonoA tr) : MonoS (dPar i j tr) := fun D D' s M h q => ha s M _ _ _ _ (fun d M1 q1 => by
  match d, q1 with
  | [x, y], q1 => exact h.nx _ _ q1) h.xs q
theorem mono_forD (hg : MonoG g) (ht : MonoS t) : ∀ xs, MonoS (forD g t xs)
  | [] => fun D D' s M h q => h.nx _ _ q
  | x :: r => fun D D' s M h q => hg _ _ _ _ _ (fun s1 M1 q1 => ht { D with nx := forD g t r D, ct := forD g t r D, bk := D.nx } { D' with nx := forD g t r D', ct := forD g t r D', bk := D'.nx } s1 M1
      ⟨fun s M z => mono_forD hg ht r D D' s M h z, h.rt, h.xs, h.nx, fun s M z => mono_forD hg ht r D D' s M h z⟩ q1) q
theorem mono_For (hi : MonoI ti) (hg : MonoG g) (ht : MonoS t) : MonoS (dFor ti g t) := fun D D' s M h q =>
  hi s M _ _ _ _ (fun xs M1 q1 => mono_forD hg ht xs _ _ _ _ h q1) h.xs q
theorem mono_While (hc : MonoT c) (ht : MonoS t) : MonoS (dWhile c t) := fun D D' s M h ⟨W, w0, q⟩ => ⟨W, w0, fun m s M w =>
  hc s M _ _ _ _ (fun b M1 q1 => by
    cases b with
    | true => exact ht { D with nx := fun s' M' => ∃ m', m' < m ∧ W m' s' M', ct := fun s' M' => ∃ m', m' < m ∧ W m' s' M', bk := D.nx } { D' with nx := fun s' M' => ∃ m', m' < m ∧ W m' s' M', ct := fun s' M' => ∃ m', m' < m ∧ W m' s' M', bk := D'.nx } _ _ ⟨fun _ _ z => z, h.rt, h.xs, h.nx, fun _ _ z => z⟩ q1
    | false => exact h.nx _ _ q1) h.xs (q m s M w)⟩
theorem mono_compD (hg : MonoG g) (htt : MonoT tt) (hte : MonoE te) : ∀ (xs : List D) s M Q Q' E E', (∀ d M', Q d M' → Q' d M') → (∀ x M', E x M' → E' x M') → compD g tt te xs s M Q E → compD g tt te xs s M Q' E'
  | [], s, M, Q, Q', E, E', h, hx, q => h _ _ q
  | x :: r, s, M, Q, Q', E, E', h, hx, q => hg _ _ _ _ _ (fun s1 M1 q1 => htt _ _ _ _ _ _ (fun b M2 q2 => by
      cases b with
      | true => exact hte _ _ _ _ _ _ (fun y M3 q3 => mono_compD hg htt hte r _ _ _ _ _ _ (fun ys M4 q4 => h _ _ q4) hx q3) hx q2
      | false => exact mono_compD hg htt hte r _ _ _ _ _ _ h hx q2) hx q1) q
theorem mono_Comp {vs} (hi : MonoI ti) (hg : MonoG g) (htt : MonoT tt) (hte : MonoE te) : MonoE (dComp ti g tt te vs) := fun s M Q Q' E E' h hx q =>
  hi s M _ _ _ _ (fun xs M1 q1 => mono_compD hg htt hte xs _ _ _ _ _ _ (fun ys M2 q2 => h _ _ q2) (fun _ _ z => z) q1) hx q
theorem mono_Frz {i} : MonoS (dFrz i) := fun D D' s M h q => by
  unfold dFrz at q ⊢
  split
  · split
    · simp_all
      exact h.nx _ _ q
    · simp_all
  · simp_all
end
theorem mono_pureSp {f} : MonoSp (pureSp f) := fun ds M Q Q' E E' h hx q => ap_mono (fun d => h d M) (fun x => hx x M) q
theorem mono_relSp {pre post} : MonoSp (relSp pre post) := fun ds M Q Q' E E' h hx q => ⟨q.1, fun d M' z => h _ _ (q.2 d M' z)⟩
end DL
namespace DL
open PySem PySem.Spec PyProof.Rows L2
theorem mono_gIx {to ti : DTE} (h1 : MonoE to) (h2 : MonoE ti) : MonoG (gIx to ti) := fun d s M Q Q' h q =>
  h1 s M _ _ _ _ (fun x M1 q1 => h2 s M1 _ _ _ _ (fun y M2 q2 => by
    cases x with
    | own k => cases y with
      | int i =>
        dsimp only at q2 ⊢
        cases e : M2[k]? with
        | none => rw [e] at q2; exact q2
        | some o =>
          rw [e] at q2
          cases o with
          | none => exact q2
          | some ds =>
            dsimp only at q2 ⊢
            cases e2 : ixD ds.length i with
            | none => rw [e2] at q2; exact q2
            | some j => rw [e2] at q2; exact h _ _ q2
      | _ => exact q2
    | _ => exact q2) (fun _ _ z => z) q1) (fun _ _ z => z) q
end DL
/-! DLSound: the data level readings over the hand layer (own work). -/
namespace DL
open PySem PySem.Spec PyProof.Rows L2
/-- what stands still: G the part of the heap that never changes any more, ad where the lists that may change stand, F what others keep in the heap -/
structure Wld where
  G : Hp
  ad : List Addr
  F : Hp
structure Wle (W W' : Wld) : Prop where
  g : Same W.G W'.G
  a : W.ad <+: W'.ad
  f : W'.F = W.F
theorem Wle.refl (W : Wld) : Wle W W := ⟨Same.refl _, List.prefix_refl _, rfl⟩
theorem Wle.trans {W W1 W2 : Wld} (a : Wle W W1) (b : Wle W1 W2) : Wle W W2 := ⟨a.g.trans b.g, a.a.trans b.a, b.f.trans a.f⟩
/-- the same whatever others keep -/
structure Wlf (W W' : Wld) : Prop where
  g : Same W.G W'.G
  a : W.ad <+: W'.ad
theorem Wle.lf {W W' : Wld} (h : Wle W W') : Wlf W W' := ⟨h.g, h.a⟩
theorem Wlf.trans {W W1 W2 : Wld} (a : Wlf W W1) (b : Wlf W1 W2) : Wlf W W2 := ⟨a.g.trans b.g, a.a.trans b.a⟩
theorem Wlf.at {W W' : Wld} (h : Wlf W W') {k : Nat} {a : Addr} (e : W.ad[k]? = some a) : W'.ad[k]? = some a := by
  obtain ⟨t, ht⟩ := h.a
  rw [← ht]
  rw [List.getElem?_append_left]
  · exact e
  · exact (List.getElem?_eq_some_iff.mp e).1
theorem Wle.at {W W' : Wld} (h : Wle W W') {k : Nat} {a : Addr} (e : W.ad[k]? = some a) : W'.ad[k]? = some a := by
  obtain ⟨t, ht⟩ := h.a
  rw [← ht]
  rw [List.getElem?_append_left]
  · exact e
  · exact (List.getElem?_eq_some_iff.mp e).1
theorem Same.seqT {K : PySem.W.Frag} {H H' : Hp} {a : Addr} {xs : List V} (e : Same H H') (h : SqT K H a xs) : SqT K H' a xs := by
  rcases h with (h | ⟨o, h⟩) | h
  · exact .inl (.inl (e _ _ h))
  · exact .inl (.inr ⟨o, e _ _ h⟩)
  · exact .inr h
section
variable (K : PySem.W.Frag) (W : Wld)
mutual
def DatR : D → V → Prop
  | .non, v => v = .non
  | .bl b, v => v = .bl b
  | .int i, v => v = .int i
  | .str x, v => v = .str x
  | .ty n, v => v = .ty n.name
  | .tup ds, v => ∃ a vs, v = .ref a ∧ SqT K W.G a vs ∧ ds.length ≤ sizeLine ∧ DatL ds vs
  | .lst ds, v => ∃ a vs, v = .ref a ∧ W.G a = some (.lst vs) ∧ ds.length ≤ sizeLine ∧ DatL ds vs
  | .wl ds, v => ∃ a vs, v = .ref a ∧ SqL K W.G a vs ∧ ds.length ≤ sizeLine ∧ DatL ds vs
  | .emp, v => ∃ a, v = .ref a ∧ W.G a = some (.dK [])
  | .own k, v => ∃ a, v = .ref a ∧ W.ad[k]? = some a
def DatL : List D → List V → Prop
  | [], vs => vs = []
  | d :: ds, vs => ∃ v r, vs = v :: r ∧ DatR d v ∧ DatL ds r
end
end
section
variable {K : PySem.W.Frag} {W W' : Wld}
mutual
theorem DatR.lf (h : Wlf W W') : ∀ (d : D) (v : V), DatR K W d v → DatR K W' d v
  | .non, _, q => q
  | .bl _, _, q => q
  | .int _, _, q => q
  | .str _, _, q => q
  | .ty _, _, q => q
  | .tup ds, v, q => by
    simp only [DatR] at q ⊢
    obtain ⟨a, vs, e, h1, h2, h3⟩ := q
    exact ⟨a, vs, e, Same.seqT h.g h1, h2, DatL.lf h ds vs h3⟩
  | .lst ds, v, q => by
    simp only [DatR] at q ⊢
    obtain ⟨a, vs, e, h1, h2, h3⟩ := q
    exact ⟨a, vs, e, h.g _ _ h1, h2, DatL.lf h ds vs h3⟩
  | .wl ds, v, q => by
    simp only [DatR] at q ⊢
    obtain ⟨a, vs, e, h1, h2, h3⟩ := q
    exact ⟨a, vs, e, Same.seq h.g h1, h2, DatL.lf h ds vs h3⟩
  | .emp, v, q => by
    simp only [DatR] at q ⊢
    obtain ⟨a, e, h1⟩ := q
    exact ⟨a, e, h.g _ _ h1⟩
  | .own k, v, q => by
    simp only [DatR] at q ⊢
    obtain ⟨a, e, h1⟩ := q
    exact ⟨a, e, h.at h1⟩
theorem DatL.lf (h : Wlf W W') : ∀ (ds : List D) (vs : List V), DatL K W ds vs → DatL K W' ds vs
  | [], _, q => q
  | d :: ds, vs, q => by
    simp only [DatL] at q ⊢
    obtain ⟨v, r, e, h1, h2⟩ := q
    exact ⟨v, r, e, DatR.lf h d v h1, DatL.lf h ds r h2⟩
end
theorem DatR.mono (h : Wle W W') (d : D) (v : V) (q : DatR K W d v) : DatR K W' d v := DatR.lf h.lf d v q
theorem DatL.mono (h : Wle W W') (ds : List D) (vs : List V) (q : DatL K W ds vs) : DatL K W' ds vs := DatL.lf h.lf ds vs q
theorem DatL.nil : DatL K W [] [] := by simp only [DatL]
theorem DatL.cons {d : D} {ds : List D} {v : V} {vs : List V} (h : DatR K W d v) (t : DatL K W ds vs) : DatL K W (d :: ds) (v :: vs) := by
  simp only [DatL]
  exact ⟨v, vs, rfl, h, t⟩
theorem DatL.inv {d : D} {ds : List D} {vs : List V} (q : DatL K W (d :: ds) vs) : ∃ v r, vs = v :: r ∧ DatR K W d v ∧ DatL K W ds r := by
  simpa only [DatL] using q
theorem DatL.inv0 {vs : List V} (q : DatL K W [] vs) : vs = [] := by simpa only [DatL] using q
theorem DatL.len : ∀ {ds : List D} {vs : List V}, DatL K W ds vs → vs.length = ds.length
  | [], vs, q => by rw [DatL.inv0 q]; rfl
  | d :: ds, vs, q => by
    obtain ⟨v, r, rfl, _, h⟩ := DatL.inv q
    simp [DatL.len h]
theorem DatL.get : ∀ {ds : List D} {vs : List V}, DatL K W ds vs → ∀ {i : Nat} {d : D}, ds[i]? = some d → ∃ v, vs[i]? = some v ∧ DatR K W d v
  | [], vs, q, i, d, e => by simp at e
  | x :: ds, vs, q, 0, d, e => by
    obtain ⟨v, r, rfl, h, _⟩ := DatL.inv q
    simp at e
    subst e
    exact ⟨v, rfl, h⟩
  | x :: ds, vs, q, i + 1, d, e => by
    obtain ⟨v, r, rfl, _, h⟩ := DatL.inv q
    obtain ⟨w, e1, e2⟩ := DatL.get h (i := i) (d := d) (by simpa using e)
    exact ⟨w, by simpa using e1, e2⟩
theorem DatL.app : ∀ {ds es : List D} {vs ws : List V}, DatL K W ds vs → DatL K W es ws → DatL K W (ds ++ es) (vs ++ ws)
  | [], es, vs, ws, q, p => by rw [DatL.inv0 q]; exact p
  | d :: ds, es, vs, ws, q, p => by
    obtain ⟨v, r, rfl, h, t⟩ := DatL.inv q
    exact DatL.cons h (DatL.app t p)
theorem DatL.snoc {ds : List D} {vs : List V} {d : D} {v : V} (q : DatL K W ds vs) (h : DatR K W d v) : DatL K W (ds ++ [d]) (vs ++ [v]) := q.app (.cons h .nil)
theorem DatL.set : ∀ {ds : List D} {vs : List V} {d : D} {v : V} (j : Nat), DatL K W ds vs → DatR K W d v → DatL K W (ds.set j d) (vs.set j v)
  | [], vs, d, v, j, q, p => by rw [DatL.inv0 q]; exact .nil
  | x :: ds, vs, d, v, 0, q, p => by
    obtain ⟨y, r, rfl, h, t⟩ := DatL.inv q
    exact .cons p t
  | x :: ds, vs, d, v, j + 1, q, p => by
    obtain ⟨y, r, rfl, h, t⟩ := DatL.inv q
    exact .cons h (DatL.set j t p)
theorem DatL.drop : ∀ {ds : List D} {vs : List V} (n : Nat), DatL K W ds vs → DatL K W (ds.drop n) (vs.drop n)
  | ds, vs, 0, q => q
  | [], vs, n + 1, q => by rw [DatL.inv0 q]; exact .nil
  | x :: ds, vs, n + 1, q => by
    obtain ⟨y, r, rfl, h, t⟩ := DatL.inv q
    exact DatL.drop n t
theorem DatL.take : ∀ {ds : List D} {vs : List V} (n : Nat), DatL K W ds vs → DatL K W (ds.take n) (vs.take n)
  | ds, vs, 0, q => by simp only [List.take_zero]; exact .nil
  | [], vs, n + 1, q => by rw [DatL.inv0 q]; exact .nil
  | x :: ds, vs, n + 1, q => by
    obtain ⟨y, r, rfl, h, t⟩ := DatL.inv q
    exact .cons h (DatL.take n t)
theorem DatL.rev : ∀ {ds : List D} {vs : List V}, DatL K W ds vs → DatL K W ds.reverse vs.reverse
  | [], vs, q => by rw [DatL.inv0 q]; exact .nil
  | x :: ds, vs, q => by
    obtain ⟨y, r, rfl, h, t⟩ := DatL.inv q
    rw [List.reverse_cons, List.reverse_cons]
    exact (DatL.rev t).snoc h
end
/-- the heap: G within it; at ad the lists of the store -/
structure RelH (K : PySem.W.Frag) (W : Wld) (M : Sto) (H : Hp) : Prop where
  sub : Same W.G H
  len : W.ad.length = M.length
  nd : W.ad.Nodup
  own : ∀ (k : Nat) (ds : List D), M[k]? = some (some ds) → ∃ a vs, W.ad[k]? = some a ∧ W.G a = none ∧ H a = some (.lst vs) ∧ DatL K W ds vs ∧ W.F a = none
  dead : ∀ (k : Nat) (a : Addr), M[k]? = some none → W.ad[k]? = some a → W.G a ≠ none
  frm : Same W.F H
  dis : ∀ a, W.F a ≠ none → W.G a = none
structure RelS (K : PySem.W.Frag) (W : Wld) (s : Sl) (σ : L2.St) : Prop where
  len : s.length = σ.length
  get : ∀ i d, look s i = some d → ∃ v, σ[i]? = some (some v) ∧ DatR K W d v
theorem RelS.mono {K : PySem.W.Frag} {W W' : Wld} {s : Sl} {σ : L2.St} (h : Wle W W') (r : RelS K W s σ) : RelS K W' s σ :=
  ⟨r.len, fun i d e => let ⟨v, e1, e2⟩ := r.get i d e; ⟨v, e1, DatR.mono h d v e2⟩⟩
section
theorem look_put : ∀ (s : Sl) (i j : Nat) (o : Option D), look (put s i o) j = if j = i ∧ i < s.length then o else look s j
  | [], i, j, o => by simp [put, look]
  | x :: r, 0, 0, o => by simp [put, look]
  | x :: r, 0, j + 1, o => by simp [put, look]
  | x :: r, i + 1, 0, o => by simp [put, look]
  | x :: r, i + 1, j + 1, o => by
    simp only [put, look, look_put r i j o, List.length_cons]
    by_cases h : j = i ∧ i < r.length
    · rw [if_pos h, if_pos ⟨by omega, by omega⟩]
    · rw [if_neg h, if_neg (by omega)]
theorem put_len : ∀ (s : Sl) (i : Nat) (o : Option D), (put s i o).length = s.length
  | [], i, o => rfl
  | x :: r, 0, o => rfl
  | x :: r, i + 1, o => by simp [put, put_len r i o]
theorem RelS.put {K : PySem.W.Frag} {W : Wld} {s : Sl} {σ : L2.St} (r : RelS K W s σ) {i : Nat} {d : D} {v : V} (h : DatR K W d v) : RelS K W (DL.put s i (some d)) (σ.set i (some v)) := by
  refine ⟨by rw [put_len, List.length_set]; exact r.len, fun j e q => ?_⟩
  rw [look_put] at q
  split at q
  · rename_i c
    cases q
    refine ⟨v, ?_, h⟩
    rw [c.1, List.getElem?_set_self]
    rw [← r.len]; exact c.2
  · rename_i c
    obtain ⟨w, e1, e2⟩ := r.get j e q
    refine ⟨w, ?_, e2⟩
    rw [List.getElem?_set_ne]
    · exact e1
    · rintro rfl
      refine c ⟨rfl, ?_⟩
      rw [r.len]
      exact (List.getElem?_eq_some_iff.mp e1).1
theorem RelS.putN {K : PySem.W.Frag} {W : Wld} {s : Sl} {σ : L2.St} (r : RelS K W s σ) {i : Nat} : RelS K W (DL.put s i none) (σ.set i none) := by
  refine ⟨by rw [put_len, List.length_set]; exact r.len, fun j e q => ?_⟩
  rw [look_put] at q
  split at q
  · cases q
  · rename_i c
    obtain ⟨w, e1, e2⟩ := r.get j e q
    refine ⟨w, ?_, e2⟩
    rw [List.getElem?_set_ne]
    · exact e1
    · rintro rfl
      refine c ⟨rfl, ?_⟩
      rw [r.len]
      exact (List.getElem?_eq_some_iff.mp e1).1
end
/-! ### lifting to the hand layer's readings -/
def ExcR (K : PySem.W.Frag) (mg : Str → Option Value) (W : Wld) (H : Hp) (x : DX) (c : Value) (od : Option Addr) : Prop :=
  ∃ C, mg x.cls = some (.ref C) ∧ c = .ref C ∧ ((x.fs = [] ∧ od = none) ∨ ∃ dx fvs, od = some dx ∧ H dx = some (.xd fvs) ∧ fvs.map (·.1) = x.fs.map (·.1) ∧ DatL K W (x.fs.map (·.2)) (fvs.map (·.2)))
def QL (K : PySem.W.Frag) (W : Wld) (Q : VK) : DK := fun d M' => ∀ W' v H', Wle W W' → RelH K W' M' H' → DatR K W' d v → Q v H'
def QA (K : PySem.W.Frag) (W : Wld) (Q : List V → Hp → Prop) : List D → Sto → Prop := fun ds M' => ∀ W' vs H', Wle W W' → RelH K W' M' H' → DatL K W' ds vs → Q vs H'
def QT (K : PySem.W.Frag) (W : Wld) (Q : Bool → Hp → Prop) : Bool → Sto → Prop := fun b M' => ∀ W' H', Wle W W' → RelH K W' M' H' → Q b H'
def QS (K : PySem.W.Frag) (W : Wld) (Q : L2.St → Hp → Prop) : Sl → Sto → Prop := fun s' M' => ∀ W' σ' H', Wle W W' → RelH K W' M' H' → RelS K W' s' σ' → Q σ' H'
def XL (K : PySem.W.Frag) (mg : Str → Option Value) (E : XK) (W : Wld) : DXK := fun x M' => ∀ W' H' c od, Wle W W' → RelH K W' M' H' → ExcR K mg W' H' x c od → E c od H'
theorem QL.up {K : PySem.W.Frag} {W W' : Wld} {Q : VK} (h : Wle W W') {d : D} {M : Sto} (q : QL K W Q d M) : QL K W' Q d M := fun W2 v H2 l => q W2 v H2 (h.trans l)
theorem QA.up {K : PySem.W.Frag} {W W' : Wld} {Q : List V → Hp → Prop} (h : Wle W W') {d : List D} {M : Sto} (q : QA K W Q d M) : QA K W' Q d M := fun W2 v H2 l => q W2 v H2 (h.trans l)
theorem QT.up {K : PySem.W.Frag} {W W' : Wld} {Q : Bool → Hp → Prop} (h : Wle W W') {d : Bool} {M : Sto} (q : QT K W Q d M) : QT K W' Q d M := fun W2 H2 l => q W2 H2 (h.trans l)
theorem QS.up {K : PySem.W.Frag} {W W' : Wld} {Q : L2.St → Hp → Prop} (h : Wle W W') {s : Sl} {M : Sto} (q : QS K W Q s M) : QS K W' Q s M := fun W2 v H2 l => q W2 v H2 (h.trans l)
theorem XL.up {K : PySem.W.Frag} {mg : Str → Option Value} {E : XK} {W W' : Wld} (h : Wle W W') {x : DX} {M : Sto} (q : XL K mg E W x M) : XL K mg E W' x M := fun W2 H2 c od l => q W2 H2 c od (h.trans l)
/-- σ' is σ but at vs -/
structure Agr (vs : List Nat) (σ σ' : L2.St) : Prop where
  len : σ'.length = σ.length
  out : ∀ j, j ∉ vs → σ'[j]? = σ[j]?
def lE (K : PySem.W.Frag) (mg : Str → Option Value) (E : XK) (t : DTE) : TE := fun σ H Q => ∃ W s M, RelH K W M H ∧ RelS K W s σ ∧ t s M (QL K W Q) (XL K mg E W)
def lA (K : PySem.W.Frag) (mg : Str → Option Value) (E : XK) (t : DTA) : TA := fun σ H Q => ∃ W s M, RelH K W M H ∧ RelS K W s σ ∧ t s M (QA K W Q) (XL K mg E W)
def lT (K : PySem.W.Frag) (mg : Str → Option Value) (E : XK) (t : DTT) : TT := fun σ H Q => ∃ W s M, RelH K W M H ∧ RelS K W s σ ∧ t s M (QT K W Q) (XL K mg E W)
def lD (K : PySem.W.Frag) (mg : Str → Option Value) (E : XK) (W : Wld) (D : Ends) : DEnd := { nx := QS K W D.nx, rt := QL K W D.rt, xs := XL K mg E W, bk := QS K W D.bk, ct := QS K W D.ct }
def lS (K : PySem.W.Frag) (mg : Str → Option Value) (E : XK) (t : DTS) : TS := fun D σ H => ∃ W s M, RelH K W M H ∧ RelS K W s σ ∧ t (lD K mg E W D) s M
def lG (K : PySem.W.Frag) (vs : List Nat) (g : DTG) : TG := fun v σ H Q => ∃ W s M d, RelH K W M H ∧ RelS K W s σ ∧ DatR K W d v ∧ g d s M (fun s' M' => ∀ W' σ' H', Wle W W' → RelH K W' M' H' → RelS K W' s' σ' → Agr vs σ σ' → Q σ' H')
def lGs (K : PySem.W.Frag) (vs : List Nat) (g : DTGs) : TGs := fun xs σ H Q => ∃ W s M ds, RelH K W M H ∧ RelS K W s σ ∧ DatL K W ds xs ∧ g ds s M (fun s' M' => ∀ W' σ' H', Wle W W' → RelH K W' M' H' → RelS K W' s' σ' → Agr vs σ σ' → Q σ' H')
/-- the walk J yields the items xs, from the world W on -/
structure Walks (K : PySem.W.Frag) (W : Wld) (J : It) (xs : List D) : Prop where
  le : xs.length ≤ sizeLine
  stop : ∀ i W1 M1 H1, Wlf W W1 → RelH K W1 M1 H1 → xs.length ≤ i → J.stop i H1
  go : ∀ i W1 M1 H1, Wlf W W1 → RelH K W1 M1 H1 → i < xs.length → J.go i H1
  yld : ∀ i W1 M1 H1 d x H2, Wlf W W1 → RelH K W1 M1 H1 → xs[i]? = some d → J.yld i H1 x H2 → ∃ W2, Wle W1 W2 ∧ RelH K W2 M1 H2 ∧ DatR K W2 d x
def lI (K : PySem.W.Frag) (mg : Str → Option Value) (E : XK) (t : DTI) : TI := fun σ H R => ∃ W s M, RelH K W M H ∧ RelS K W s σ ∧ t s M (fun xs M' => ∀ W' H' J, Wle W W' → RelH K W' M' H' → Walks K W' J xs → R J H') (XL K mg E W)
def lSp (K : PySem.W.Frag) (mg : Str → Option Value) (sp : DSp) : Sp := fun vs H Q E => ∃ W M ds, RelH K W M H ∧ DatL K W ds vs ∧ sp ds M (QL K W Q) (XL K mg E W)
/-! ### weakening of the layer's judgements -/
section
variable {X : Cx}
theorem pe_w {e : Expr} {t t' : TE} (h : PE X e t) (q : ∀ σ H Q, t' σ H Q → t σ H Q) : PE X e t' := ⟨fun pins s σ H Q I z => h.run pins s σ H Q I (q _ _ _ z)⟩
theorem pa_w {e : List Expr} {t t' : TA} (h : PA X e t) (q : ∀ σ H Q, t' σ H Q → t σ H Q) : PA X e t' := ⟨fun pos pins s σ H Q I z => h.run pos pins s σ H Q I (q _ _ _ z)⟩
theorem pk_w {e : List Keyword} {t t' : TA} (h : PK X e t) (q : ∀ σ H Q, t' σ H Q → t σ H Q) : PK X e t' := ⟨fun pos pins s σ H Q I z => h.run pos pins s σ H Q I (q _ _ _ z)⟩
theorem pt_w {e : Expr} {t t' : TT} (h : PT X e t) (q : ∀ σ H Q, t' σ H Q → t σ H Q) : PT X e t' := ⟨fun pins s σ H Q I z => h.run pins s σ H Q I (q _ _ _ z)⟩
theorem pw_w {e : Expr} {t t' : TT} (h : PW X e t) (q : ∀ σ H Q, t' σ H Q → t σ H Q) : PW X e t' := ⟨fun wh pins s σ H Q I z => h.run wh pins s σ H Q I (q _ _ _ z)⟩
theorem ps_w {e : Stmt} {t t' : TS} (h : PS X e t) (q : ∀ D σ H, t' D σ H → t D σ H) : PS X e t' := ⟨fun pins s σ H D I z => h.run pins s σ H D I (q _ _ _ z)⟩
theorem pss_w {e : List Stmt} {t t' : TS} (h : PSs X e t) (q : ∀ D σ H, t' D σ H → t D σ H) : PSs X e t' := ⟨fun pins s σ H D I z => h.run pins s σ H D I (q _ _ _ z)⟩
theorem pg_w {e : Expr} {t t' : TG} (h : PG X e t) (q : ∀ v σ H Q, t' v σ H Q → t v σ H Q) : PG X e t' := ⟨fun pins s σ H v u Q I r z => h.run pins s σ H v u Q I r (q _ _ _ _ z)⟩
theorem pgs_w {e : List Expr} {t t' : TGs} (h : PGs X e t) (q : ∀ v σ H Q, t' v σ H Q → t v σ H Q) : PGs X e t' := ⟨fun pins s σ H v u Q I r z => h.run pins s σ H v u Q I r (q _ _ _ _ z)⟩
theorem pi_w {tg e : Expr} {t t' : TI} (h : PI X tg e t) (q : ∀ σ H R, t' σ H R → t σ H R) : PI X tg e t' := ⟨fun pins s σ H R I z => h.run pins s σ H R I (q _ _ _ z)⟩
end
/-! ### the judgements over data -/
structure DE (X : Cx) (E : XK) (e : Expr) (t : DTE) : Prop where
  run : PE X e (lE X.K X.mg E t)
  mono : MonoE t
structure DA (X : Cx) (E : XK) (e : List Expr) (t : DTA) : Prop where
  run : PA X e (lA X.K X.mg E t)
  mono : MonoA t
structure DKw (X : Cx) (E : XK) (e : List Keyword) (t : DTA) : Prop where
  run : PK X e (lA X.K X.mg E t)
  mono : MonoA t
structure DT (X : Cx) (E : XK) (e : Expr) (t : DTT) : Prop where
  run : PT X e (lT X.K X.mg E t)
  mono : MonoT t
structure DW (X : Cx) (E : XK) (e : Expr) (t : DTT) : Prop where
  run : PW X e (lT X.K X.mg E t)
  mono : MonoT t
structure DSt (X : Cx) (E : XK) (e : Stmt) (t : DTS) : Prop where
  run : PS X e (lS X.K X.mg E t)
  mono : MonoS t
structure DSs (X : Cx) (E : XK) (e : List Stmt) (t : DTS) : Prop where
  run : PSs X e (lS X.K X.mg E t)
  mono : MonoS t
structure DGt (X : Cx) (e : Expr) (vs : List Nat) (g : DTG) : Prop where
  run : PG X e (lG X.K vs g)
  mono : MonoG g
structure DGs (X : Cx) (e : List Expr) (vs : List Nat) (g : DTGs) : Prop where
  run : PGs X e (lGs X.K vs g)
  mono : MonoGs g
structure DIt (X : Cx) (E : XK) (tg e : Expr) (t : DTI) : Prop where
  run : PI X tg e (lI X.K X.mg E t)
  mono : MonoI t
/-! ### what an operation owes -/
def Res.Has (r : Res) (d : D) : Prop := r = .ok d ∨ ∃ C : Prop, C ∧ r = .side C d
theorem ap_has {r : Res} {Q : D → Prop} (h : ap r Q fun _ => False) : ∃ d, r.Has d ∧ Q d := by
  cases r with
  | no => exact h.elim
  | ok d => exact ⟨d, .inl rfl, h⟩
  | side C d => exact ⟨d, .inr ⟨C, h.1, rfl⟩, h.2⟩
  | exc x => exact h.elim
def OpS (K : PySem.W.Frag) (f : Sto → D → D → Res) (r : R2) : Prop := ∀ (W : Wld) (M : Sto) (H : Hp) (x y d : D) (vx vy : V) (Q : VK), RelH K W M H → DatR K W x vx → DatR K W y vy → (f M x y).Has d → QL K W Q d M → r vx vy H Q
def UnS (K : PySem.W.Frag) (f : Sto → D → Res) (r : V → Hp → VK → Prop) : Prop := ∀ (W : Wld) (M : Sto) (H : Hp) (x d : D) (vx : V) (Q : VK), RelH K W M H → DatR K W x vx → (f M x).Has d → QL K W Q d M → r vx H Q
def FnS (K : PySem.W.Frag) (f : Sto → List D → Res) (r : List V → Hp → VK → Prop) : Prop := ∀ (W : Wld) (M : Sto) (H : Hp) (xs : List D) (d : D) (vs : List V) (Q : VK), RelH K W M H → DatL K W xs vs → (f M xs).Has d → QL K W Q d M → r vs H Q
section
variable {X : Cx} {E : XK} {a b c e : Expr} {es rest : List Expr} {ta tb tc te : DTE} {t tr tk : DTA} {pos p : Pos} {f g : Sto → D → D → Res} {r r' : R2}
theorem de_c {d : D} {v : V} (h : PE X e (tC v)) (hd : ∀ W, DatR X.K W d v) : DE X E e (dC d) where
  run := pe_w h fun σ H Q ⟨W, s, M, rh, rs, q⟩ => q W v H (Wle.refl W) rh (hd W)
  mono := mono_C
theorem de_int {i j} : DE X E (.Constant (.int i) j pos) (dC (.int i)) := de_c pe_int fun _ => by simp only [DatR]
theorem de_bl {i j} : DE X E (.Constant (.bool i) j pos) (dC (.bl i)) := de_c pe_bl fun _ => by simp only [DatR]
theorem de_non {j} : DE X E (.Constant .none j pos) (dC .non) := de_c pe_non fun _ => by simp only [DatR]
theorem de_str {i j} : DE X E (.Constant (.str i) j pos) (dC (.str i)) := de_c pe_str fun _ => by simp only [DatR]
theorem dvar_run {i : Nat} {σ : L2.St} {H : Hp} {Q : VK} (h : lE X.K X.mg E (dVar i) σ H Q) : tVar i σ H Q := by
  obtain ⟨W, s, M, rh, rs, q⟩ := h
  unfold dVar at q
  cases e : look s i with
  | none => rw [e] at q; exact q.elim
  | some d =>
    rw [e] at q
    obtain ⟨v, e1, e2⟩ := rs.get i d e
    exact ⟨v, e1, q W v H (Wle.refl W) rh e2⟩
theorem dv (i : Nat) {x : Str} {pos : Pos} (hN : X.N[i]? = some x := by rfl) (hv : Vis X.env.scope x := by first | exact Or.inl rfl | exact Or.inr (Or.inl rfl) | exact Or.inr (Or.inr rfl)) (hd : (x == ("__debug__" : Str)) = false := by decide)
    (hcd : (x == ("__classdict__" : Str)) = false := by decide) : DE X E (.Name x pos) (dVar i) where
  run := pe_w (pe_var hN hv hd hcd) fun _ _ _ h => dvar_run h
  mono := mono_Var
/-- a constant of the module -/
theorem de_glob {x : Str} {v : V} {u : Value} {d : D} (hg : Gl X x) (hm : X.mg x = some u) (r : RelV v u) (hd : ∀ W, DatR X.K W d v) (hdb : (x == ("__debug__" : Str)) = false := by decide) : DE X E (.Name x pos) (dC d) := de_c (pe_glob hg hm r hdb) hd
theorem bin_run (hs : OpS X.K f r) (ma : MonoE ta) (mb : MonoE tb) {σ : L2.St} {H : Hp} {Q : VK} (h : lE X.K X.mg E (dBin f ta tb) σ H Q) : tOp r (lE X.K X.mg E ta) (lE X.K X.mg E tb) σ H Q := by
  obtain ⟨W, s, M, rh, rs, h⟩ := h
  refine ⟨W, s, M, rh, rs, ma _ _ _ _ _ _ (fun x M1 h1 => ?_) (fun _ _ z => z) h⟩
  intro W1 v1 H1 l1 rh1 d1
  refine ⟨W1, s, M1, rh1, rs.mono l1, mb _ _ _ _ _ _ (fun y M2 h2 => ?_) (fun _ _ z => z.up l1) h1⟩
  intro W2 v2 H2 l2 rh2 d2
  obtain ⟨d, hd, q⟩ := ap_has h2
  exact hs W2 M2 H2 x y d v1 v2 Q rh2 (DatR.mono l2 _ _ d1) d2 hd (q.up (l1.trans l2))
theorem de_bin {op : Operator} (ho : OpR X (binaryOp op) r) (hs : OpS X.K f r) (ha : DE X E a ta) (hb : DE X E b tb) : DE X E (.BinOp a op b pos) (dBin f ta tb) where
  run := pe_w (pe_op ho ha.run hb.run) fun _ _ _ h => bin_run hs ha.mono hb.mono h
  mono := mono_Bin ha.mono hb.mono
theorem de_cmp {op : CmpOp} (ho : OpR X (compareOp op) r) (hs : OpS X.K f r) (ha : DE X E a ta) (hb : DE X E b tb) (hm : behindInMarks op b = false) : DE X E (.Compare a [op] [b] pos) (dBin f ta tb) where
  run := pe_w (pe_cmpR ho ha.run hb.run hm) fun _ _ _ h => bin_run hs ha.mono hb.mono h
  mono := mono_Bin ha.mono hb.mono
theorem de_ix (ho : IxR X r) (hs : OpS X.K f r) (ha : DE X E a ta) (hb : DE X E b tb) (hp : PlainIx b := by exact fun _ _ => rfl) : DE X E (.Subscript a b pos) (dBin f ta tb) where
  run := pe_w (pe_ix ho ha.run hb.run hp) fun _ _ _ h => bin_run hs ha.mono hb.mono h
  mono := mono_Bin ha.mono hb.mono
theorem de_un {op : UnaryOp} {f : Sto → D → Res} {r : V → Hp → VK → Prop} (ho : UnR X (unaryOp op) r) (hs : UnS X.K f r) (ha : DE X E a ta) : DE X E (.UnaryOp op a pos) (dUn f ta) where
  run := pe_w (pe_un ho ha.run) fun σ H Q ⟨W, s, M, rh, rs, h⟩ => by
    refine ⟨W, s, M, rh, rs, ha.mono _ _ _ _ _ _ (fun x M1 h1 => ?_) (fun _ _ z => z) h⟩
    intro W1 v1 H1 l1 rh1 d1
    obtain ⟨d, hd, q⟩ := ap_has h1
    exact hs W1 M1 H1 x d v1 Q rh1 d1 hd (q.up l1)
  mono := mono_Un ha.mono
theorem da_nil : DA X E [] dNil where
  run := pa_w pa_nil fun σ H Q ⟨W, s, M, rh, rs, q⟩ => q W [] H (Wle.refl W) rh .nil
  mono := mono_Nil
theorem cons_run (ma : MonoE te) (mr : MonoA tr) {σ : L2.St} {H : Hp} {Q : List V → Hp → Prop} (h : lA X.K X.mg E (dCons te tr) σ H Q) : tCons (lE X.K X.mg E te) (lA X.K X.mg E tr) σ H Q := by
  obtain ⟨W, s, M, rh, rs, h⟩ := h
  refine ⟨W, s, M, rh, rs, ma _ _ _ _ _ _ (fun x M1 h1 => ?_) (fun _ _ z => z) h⟩
  intro W1 v1 H1 l1 rh1 d1
  refine ⟨W1, s, M1, rh1, rs.mono l1, mr _ _ _ _ _ _ (fun ys M2 h2 => ?_) (fun _ _ z => z.up l1) h1⟩
  intro W2 vs2 H2 l2 rh2 d2
  exact h2 W2 (v1 :: vs2) H2 (l1.trans l2) rh2 (.cons (DatR.mono l2 _ _ d1) d2)
theorem da_cons (ha : DE X E e te) (hr : DA X E es tr) (hs : starEach (e :: es) X.env = (false, eval e X.env) :: starEach es X.env := by rfl) : DA X E (e :: es) (dCons te tr) where
  run := pa_w (pa_cons ha.run hr.run hs) fun _ _ _ h => cons_run ha.mono hr.mono h
  mono := mono_Cons ha.mono hr.mono
theorem dk_nil : DKw X E [] dNil where
  run := pk_w pk_nil fun σ H Q ⟨W, s, M, rh, rs, q⟩ => q W [] H (Wle.refl W) rh .nil
  mono := mono_Nil
theorem dk_cons {nm : Option Str} {kpos : Pos} {kws : List Keyword} (ha : DE X E e te) (hr : DKw X E kws tr) : DKw X E (⟨nm, e, kpos⟩ :: kws) (dCons te tr) where
  run := pk_w (pk_cons ha.run hr.run) fun _ _ _ h => cons_run ha.mono hr.mono h
  mono := mono_Cons ha.mono hr.mono
/-- a new object that never changes -/
theorem RelH.add {K : PySem.W.Frag} {W : Wld} {M : Sto} {H : Hp} {p : Addr} {o : HO} (r : RelH K W M H) (np : H p = none) : Wle W ⟨upd W.G p o, W.ad, W.F⟩ ∧ RelH K ⟨upd W.G p o, W.ad, W.F⟩ M (upd H p o) := by
  have gp : W.G p = none := r.sub.free np
  have l : Wle W ⟨upd W.G p o, W.ad, W.F⟩ := ⟨fun b u e => by
    show upd W.G p o b = _
    rw [upd_ne (ne_of_none e gp)]; exact e, List.prefix_refl _, rfl⟩
  refine ⟨l, fun b u e => ?_, r.len, r.nd, fun k ds e => ?_, fun k a e ea => ?_, fun b u e => ?_, fun a ha => ?_⟩
  · have e : upd W.G p o b = some u := e
    by_cases h : b = p
    · subst h; rw [upd_same] at e ⊢; exact e
    · rw [upd_ne h] at e ⊢; exact r.sub _ _ e
  · obtain ⟨a, vs, e1, e2, e3, e4, e5⟩ := r.own k ds e
    have na : a ≠ p := ne_of_none e3 np
    refine ⟨a, vs, e1, ?_, ?_, DatL.mono l _ _ e4, e5⟩
    · show upd W.G p o a = none
      rw [upd_ne na]; exact e2
    · rw [upd_ne na]; exact e3
  · show upd W.G p o a ≠ none
    have z := r.dead k a e ea
    rw [upd_ne]
    · exact z
    · rintro rfl
      exact z gp
  · rw [upd_ne (ne_of_none (r.frm _ _ e) np)]
    exact r.frm _ _ e
  · show upd W.G p o a = none
    rw [upd_ne]
    · exact r.dis a ha
    · rintro rfl
      exact ha (r.frm.free np)
theorem RelH.fresh {K : PySem.W.Frag} {W : Wld} {M : Sto} {H : Hp} {p : Addr} (r : RelH K W M H) (np : H p = none) : p ∉ W.ad := fun hp => by
  obtain ⟨k, hk, e⟩ := List.getElem_of_mem hp
  have hk2 : k < M.length := by rw [← r.len]; exact hk
  have ea : W.ad[k]? = some p := by rw [List.getElem?_eq_getElem hk, e]
  cases q : M[k] with
  | none =>
    have eM : M[k]? = some none := by rw [List.getElem?_eq_getElem hk2, q]
    exact r.dead k p eM ea (r.sub.free np)
  | some ds =>
    have eM : M[k]? = some (some ds) := by rw [List.getElem?_eq_getElem hk2, q]
    obtain ⟨a, vs, e1, _, e3, _, _⟩ := r.own k ds eM
    rw [ea] at e1
    cases e1
    rw [np] at e3
    cases e3
/-- a new list that may change -/
theorem RelH.new {K : PySem.W.Frag} {W : Wld} {M : Sto} {H : Hp} {p : Addr} {ds : List D} {vs : List V} (r : RelH K W M H) (np : H p = none) (d : DatL K W ds vs) :
    Wle W ⟨W.G, W.ad ++ [p], W.F⟩ ∧ RelH K ⟨W.G, W.ad ++ [p], W.F⟩ (M ++ [some ds]) (upd H p (.lst vs)) ∧ DatR K ⟨W.G, W.ad ++ [p], W.F⟩ (.own M.length) (.ref p) := by
  have gp : W.G p = none := r.sub.free np
  have l : Wle W ⟨W.G, W.ad ++ [p], W.F⟩ := ⟨Same.refl _, List.prefix_append _ _, rfl⟩
  have pn := r.fresh np
  have ep : (W.ad ++ [p])[M.length]? = some p := by rw [← r.len]; simp
  refine ⟨l, ⟨fun b u e => ?_, by simp [r.len], ?_, fun k es e => ?_, fun k a e ea => ?_, fun b u e => by rw [upd_ne (ne_of_none (r.frm _ _ e) np)]; exact r.frm _ _ e, r.dis⟩, by simp only [DatR]; exact ⟨p, rfl, ep⟩⟩
  · rw [upd_ne]
    · exact r.sub _ _ e
    · rintro rfl
      have e : W.G b = some u := e
      rw [gp] at e; cases e
  · show (W.ad ++ [p]).Nodup
    rw [List.nodup_append]
    refine ⟨r.nd, by simp, fun a ha b hb => ?_⟩
    rintro rfl
    simp at hb
    subst hb
    exact pn ha
  · by_cases hk : k < M.length
    · rw [List.getElem?_append_left hk] at e
      obtain ⟨a, ws, e1, e2, e3, e4, e5⟩ := r.own k es e
      refine ⟨a, ws, l.at e1, e2, ?_, DatL.mono l _ _ e4, e5⟩
      rw [upd_ne (ne_of_none e3 np)]; exact e3
    · have hk2 : k = M.length := by
        have := (List.getElem?_eq_some_iff.mp e).1
        simp at this
        omega
      subst hk2
      simp at e
      subst e
      exact ⟨p, vs, ep, gp, upd_same, DatL.mono l _ _ d, r.frm.free np⟩
  · have hk : k < M.length := by
      have h1 := (List.getElem?_eq_some_iff.mp e).1
      simp at h1
      rcases Nat.lt_or_ge k M.length with h | h
      · exact h
      · have : k = M.length := by omega
        subst this
        simp at e
    rw [List.getElem?_append_left hk] at e
    have ea2 : W.ad[k]? = some a := by
      have ea : (W.ad ++ [p])[k]? = some a := ea
      rw [List.getElem?_append_left (by rw [r.len]; exact hk)] at ea
      exact ea
    exact r.dead k a e ea2
theorem de_tup {x1} (h : DA X E es t) : DE X E (.Tuple es x1 pos) (dTup t) where
  run := pe_w (pe_tup h.run) fun σ H Q ⟨W, s, M, rh, rs, q⟩ => by
    refine ⟨W, s, M, rh, rs, h.mono _ _ _ _ _ _ (fun ds M1 h1 => ?_) (fun _ _ z => z) q⟩
    intro W1 vs H1 l1 rh1 d1
    refine ⟨by rw [d1.len]; exact h1.1, fun p np => ?_⟩
    obtain ⟨l2, rh2⟩ := rh1.add (o := .tup vs) np
    refine h1.2 _ (.ref p) _ (l1.trans l2) rh2 ?_
    simp only [DatR]
    exact ⟨p, vs, rfl, .inl (.inl upd_same), h1.1, DatL.mono l2 _ _ d1⟩
  mono := mono_Tup h.mono
theorem de_lst (h : DA X E es t) : DE X E (.List es pos) (dLst t) where
  run := pe_w (pe_lst h.run) fun σ H Q ⟨W, s, M, rh, rs, q⟩ => by
    refine ⟨W, s, M, rh, rs, h.mono _ _ _ _ _ _ (fun ds M1 h1 => ?_) (fun _ _ z => z) q⟩
    intro W1 vs H1 l1 rh1 d1
    refine ⟨by rw [d1.len]; exact h1.1, fun p np => ?_⟩
    obtain ⟨l2, rh2⟩ := rh1.add (o := .lst vs) np
    refine h1.2 _ (.ref p) _ (l1.trans l2) rh2 ?_
    simp only [DatR]
    exact ⟨p, vs, rfl, upd_same, h1.1, DatL.mono l2 _ _ d1⟩
  mono := mono_Lst h.mono
theorem de_lstO (h : DA X E es t) : DE X E (.List es pos) (dLstO t) where
  run := pe_w (pe_lst h.run) fun σ H Q ⟨W, s, M, rh, rs, q⟩ => by
    refine ⟨W, s, M, rh, rs, h.mono _ _ _ _ _ _ (fun ds M1 h1 => ?_) (fun _ _ z => z) q⟩
    intro W1 vs H1 l1 rh1 d1
    refine ⟨by rw [d1.len]; exact h1.1, fun p np => ?_⟩
    obtain ⟨l2, rh2, d2⟩ := rh1.new np d1
    exact h1.2 _ (.ref p) _ (l1.trans l2) rh2 d2
  mono := mono_LstO h.mono
/-! ### tests -/
theorem tB_run (m : MonoE te) {σ : L2.St} {H : Hp} {Q : Bool → Hp → Prop} (h : lT X.K X.mg E (dT te) σ H Q) : tB (lE X.K X.mg E te) σ H Q := by
  obtain ⟨W, s, M, rh, rs, q⟩ := h
  refine ⟨W, s, M, rh, rs, m _ _ _ _ _ _ (fun d M1 h1 => ?_) (fun _ _ z => z) q⟩
  intro W1 v H1 l1 rh1 d1
  cases d with
  | bl b =>
    simp only [DatR] at d1
    exact ⟨b, d1, h1 W1 H1 l1 rh1⟩
  | _ => exact h1.elim
theorem dt_val (h : DE X E e te) (he : ∀ whole, isTrue e X.env whole = (do let v ← whole; standAt e.pos; holding [v] (truthy v)) := by intro _; rfl) : DT X E e (dT te) where
  run := pt_w (pt_val h.run he) fun _ _ _ h1 => tB_run h.mono h1
  mono := mono_T h.mono
theorem dt_cmp {op : CmpOp} (ho : OpR X (compareOp op) r) (hs : OpS X.K f r) (ha : DE X E a ta) (hb : DE X E b tb) (hm : behindInMarks op b = false) : DT X E (.Compare a [op] [b] pos) (dT (dBin f ta tb)) where
  run := pt_w (pt_cmpR ho ha.run hb.run hm) fun σ H Q h1 => by
    obtain ⟨W, s, M, rh, rs, q⟩ := h1
    refine bin_run hs ha.mono hb.mono (Q := fun x H' => ∃ k, x = .bl k ∧ Q k H') ⟨W, s, M, rh, rs, (mono_Bin ha.mono hb.mono) _ _ _ _ _ _ (fun d M1 h2 => ?_) (fun _ _ z => z) q⟩
    intro W1 v H1 l1 rh1 d1
    cases d with
    | bl b =>
      simp only [DatR] at d1
      exact ⟨b, d1, h2 W1 H1 l1 rh1⟩
    | _ => exact h2.elim
  mono := mono_T (mono_Bin ha.mono hb.mono)
theorem dw_and1 {tA : DTT} (h : DT X E a tA) : DW X E (.BoolOp .And [a] pos) tA := ⟨pw_and1 h.run, h.mono⟩
theorem dw_or1 {tA : DTT} (h : DT X E a tA) : DW X E (.BoolOp .Or [a] pos) tA := ⟨pw_or1 h.run, h.mono⟩
theorem dw_and {tA tB' : DTT} (ha : DT X E a tA) (hb : DW X E (.BoolOp .And (b :: rest) pos) tB') : DW X E (.BoolOp .And (a :: b :: rest) pos) (dAnd tA tB') where
  run := pw_w (pw_and ha.run hb.run) fun σ H Q ⟨W, s, M, rh, rs, q⟩ => by
    refine ⟨W, s, M, rh, rs, ha.mono _ _ _ _ _ _ (fun d M1 h1 => ?_) (fun _ _ z => z) q⟩
    intro W1 H1 l1 rh1
    cases d with
    | true => exact ⟨W1, s, M1, rh1, rs.mono l1, hb.mono _ _ _ _ _ _ (fun d M1 z => z.up l1) (fun _ _ z => z.up l1) h1⟩
    | false => exact h1 W1 H1 l1 rh1
  mono := mono_And ha.mono hb.mono
theorem dw_or {tA tB' : DTT} (ha : DT X E a tA) (hb : DW X E (.BoolOp .Or (b :: rest) pos) tB') : DW X E (.BoolOp .Or (a :: b :: rest) pos) (dOr tA tB') where
  run := pw_w (pw_or ha.run hb.run) fun σ H Q ⟨W, s, M, rh, rs, q⟩ => by
    refine ⟨W, s, M, rh, rs, ha.mono _ _ _ _ _ _ (fun d M1 h1 => ?_) (fun _ _ z => z) q⟩
    intro W1 H1 l1 rh1
    cases d with
    | false => exact ⟨W1, s, M1, rh1, rs.mono l1, hb.mono _ _ _ _ _ _ (fun d M1 z => z.up l1) (fun _ _ z => z.up l1) h1⟩
    | true => exact h1 W1 H1 l1 rh1
  mono := mono_Or ha.mono hb.mono
theorem DW.pt {tA : DTT} (h : DW X E e tA) : DT X E e tA := ⟨h.run.pt, h.mono⟩
theorem dt_not {tA : DTT} (h : DT X E a tA) : DT X E (.UnaryOp .Not a pos) (dNot tA) where
  run := pt_w (pt_not h.run) fun σ H Q ⟨W, s, M, rh, rs, q⟩ => ⟨W, s, M, rh, rs, h.mono _ _ _ _ _ _ (fun d M1 h1 => h1) (fun _ _ z => z) q⟩
  mono := mono_Not h.mono
theorem de_one {op} (h : DE X E a ta) : DE X E (.BoolOp op [a] pos) ta := ⟨pe_one h.run, h.mono⟩
theorem de_and (ha : DE X E a ta) (hb : DE X E (.BoolOp .And (b :: rest) pos) tb) : DE X E (.BoolOp .And (a :: b :: rest) pos) (dAndV ta tb) where
  run := pe_w (pe_and ha.run hb.run) fun σ H Q ⟨W, s, M, rh, rs, q⟩ => by
    refine ⟨W, s, M, rh, rs, ha.mono _ _ _ _ _ _ (fun d M1 h1 => ?_) (fun _ _ z => z) q⟩
    intro W1 v H1 l1 rh1 d1
    cases d with
    | bl k =>
      simp only [DatR] at d1
      refine ⟨k, d1, ?_⟩
      cases k with
      | true => exact ⟨W1, s, M1, rh1, rs.mono l1, hb.mono _ _ _ _ _ _ (fun d M1 z => z.up l1) (fun _ _ z => z.up l1) h1⟩
      | false => exact h1 W1 _ H1 l1 rh1 (by simp only [DatR])
    | _ => exact h1.elim
  mono := mono_AndV ha.mono hb.mono
theorem de_or (ha : DE X E a ta) (hb : DE X E (.BoolOp .Or (b :: rest) pos) tb) : DE X E (.BoolOp .Or (a :: b :: rest) pos) (dOrV ta tb) where
  run := pe_w (pe_or ha.run hb.run) fun σ H Q ⟨W, s, M, rh, rs, q⟩ => by
    refine ⟨W, s, M, rh, rs, ha.mono _ _ _ _ _ _ (fun d M1 h1 => ?_) (fun _ _ z => z) q⟩
    intro W1 v H1 l1 rh1 d1
    cases d with
    | bl k =>
      simp only [DatR] at d1
      refine ⟨k, d1, ?_⟩
      cases k with
      | false => exact ⟨W1, s, M1, rh1, rs.mono l1, hb.mono _ _ _ _ _ _ (fun d M1 z => z.up l1) (fun _ _ z => z.up l1) h1⟩
      | true => exact h1 W1 _ H1 l1 rh1 (by simp only [DatR])
    | _ => exact h1.elim
  mono := mono_OrV ha.mono hb.mono
theorem de_not (ha : DE X E a ta) : DE X E (.UnaryOp .Not a pos) (dNotV ta) where
  run := pe_w (pe_not ha.run) fun σ H Q ⟨W, s, M, rh, rs, q⟩ => by
    refine ⟨W, s, M, rh, rs, ha.mono _ _ _ _ _ _ (fun d M1 h1 => ?_) (fun _ _ z => z) q⟩
    intro W1 v H1 l1 rh1 d1
    cases d with
    | bl k =>
      simp only [DatR] at d1
      exact ⟨k, d1, h1 W1 _ H1 l1 rh1 (by simp only [DatR])⟩
    | _ => exact h1.elim
  mono := mono_NotV ha.mono
theorem de_if {tC : DTT} (hc : DT X E c tC) (ha : DE X E a ta) (hb : DE X E b tb) : DE X E (.IfExp c a b pos) (dIfE tC ta tb) where
  run := pe_w (pe_ifExp hc.run ha.run hb.run) fun σ H Q ⟨W, s, M, rh, rs, q⟩ => by
    refine ⟨W, s, M, rh, rs, hc.mono _ _ _ _ _ _ (fun d M1 h1 => ?_) (fun _ _ z => z) q⟩
    intro W1 H1 l1 rh1
    cases d with
    | true => exact ⟨W1, s, M1, rh1, rs.mono l1, ha.mono _ _ _ _ _ _ (fun d M1 z => z.up l1) (fun _ _ z => z.up l1) h1⟩
    | false => exact ⟨W1, s, M1, rh1, rs.mono l1, hb.mono _ _ _ _ _ _ (fun d M1 z => z.up l1) (fun _ _ z => z.up l1) h1⟩
  mono := mono_IfE hc.mono ha.mono hb.mono
theorem chain_run (hs : OpS X.K f r) (hs' : OpS X.K g r') (ma : MonoE ta) (mb : MonoE tb) (mc : MonoE tc) {σ : L2.St} {H : Hp} {Q : VK} (h : lE X.K X.mg E (dChain f g ta tb tc) σ H Q) :
    lE X.K X.mg E ta σ H fun x H1 => lE X.K X.mg E tb σ H1 fun y H2 => r x y H2 fun z H3 => ∃ k, z = .bl k ∧ if k = true then lE X.K X.mg E tc σ H3 fun u H4 => r' y u H4 Q else Q (.bl false) H3 := by
  obtain ⟨W, s, M, rh, rs, h⟩ := h
  refine ⟨W, s, M, rh, rs, ma _ _ _ _ _ _ (fun x M1 h1 => ?_) (fun _ _ z => z) h⟩
  intro W1 v1 H1 l1 rh1 d1
  refine ⟨W1, s, M1, rh1, rs.mono l1, mb _ _ _ _ _ _ (fun y M2 h2 => ?_) (fun _ _ z => z.up l1) h1⟩
  intro W2 v2 H2 l2 rh2 d2
  obtain ⟨d, hd, q⟩ := ap_has h2
  refine hs W2 M2 H2 x y d v1 v2 _ rh2 (DatR.mono l2 _ _ d1) d2 hd ?_
  intro W3 v3 H3 l3 rh3 d3
  cases d with
  | bl k =>
    simp only [DatR] at d3
    refine ⟨k, d3, ?_⟩
    have l13 := (l1.trans l2).trans l3
    cases k with
    | true =>
      refine ⟨W3, s, M2, rh3, rs.mono l13, mc _ _ _ _ _ _ (fun z M4 h4 => ?_) (fun _ _ z => z.up l13) q⟩
      intro W4 v4 H4 l4 rh4 d4
      obtain ⟨d', hd', q'⟩ := ap_has h4
      exact hs' W4 M4 H4 y z d' v2 v4 Q rh4 (DatR.mono (l3.trans l4) _ _ d2) d4 hd' (q'.up (l13.trans l4))
    | false => exact q W3 _ H3 l13 rh3 (by simp only [DatR])
  | _ => exact q.elim
end
end DL
/-! DLSound2: chains, calls, statements, loops, comprehensions, defs (own work). -/
namespace DL
open PySem PySem.Spec PyProof.Rows L2
section
variable {X : Cx} {E : XK} {a b c e : Expr} {es rest : List Expr} {ta tb tc te : DTE} {t tr tk : DTA} {pos p : Pos} {f g : Sto → D → D → Res} {r r' : R2}
theorem de_chain {op op' : CmpOp} (ho : OpR X (compareOp op) r) (hs : OpS X.K f r) (ho' : OpR X (compareOp op') r') (hs' : OpS X.K g r') (ha : DE X E a ta) (hb : DE X E b tb) (hc : DE X E c tc)
    (hm : lastMarks [op, op'] [b, c] = false := by with_unfolding_all rfl) : DE X E (.Compare a [op, op'] [b, c] pos) (dChain f g ta tb tc) where
  run := pe_w (pe_chain ho ho' ha.run hb.run hc.run hm) fun _ _ _ h => chain_run hs hs' ha.mono hb.mono hc.mono h
  mono := mono_Chain ha.mono hb.mono hc.mono
theorem dt_chain {op op' : CmpOp} (ho : OpR X (compareOp op) r) (hs : OpS X.K f r) (ho' : OpR X (compareOp op') r') (hs' : OpS X.K g r') (ha : DE X E a ta) (hb : DE X E b tb) (hc : DE X E c tc)
    (hm : lastMarks [op, op'] [b, c] = false := by with_unfolding_all rfl) : DT X E (.Compare a [op, op'] [b, c] pos) (dT (dChain f g ta tb tc)) where
  run := pt_w (pt_chain ho ho' ha.run hb.run hc.run hm) fun σ H Q h1 => by
    obtain ⟨W, s, M, rh, rs, q⟩ := h1
    refine chain_run hs hs' ha.mono hb.mono hc.mono (Q := fun x H' => ∃ k, x = .bl k ∧ Q k H') ⟨W, s, M, rh, rs, (mono_Chain ha.mono hb.mono hc.mono) _ _ _ _ _ _ (fun d M1 h2 => ?_) (fun _ _ z => z) q⟩
    intro W1 v H1 l1 rh1 d1
    cases d with
    | bl b =>
      simp only [DatR] at d1
      exact ⟨b, d1, h2 W1 H1 l1 rh1⟩
    | _ => exact h2.elim
  mono := mono_T (mono_Chain ha.mono hb.mono hc.mono)
/-! ### calls -/
theorem fn_run {f : Sto → List D → Res} {r : List V → Hp → VK → Prop} (hs : FnS X.K f r) (ma : MonoA t) {σ : L2.St} {H : Hp} {Q : VK} (h : lE X.K X.mg E (dFn f t) σ H Q) : tCB r (lA X.K X.mg E t) σ H Q := by
  obtain ⟨W, s, M, rh, rs, q⟩ := h
  refine ⟨W, s, M, rh, rs, ma _ _ _ _ _ _ (fun xs M1 h1 => ?_) (fun _ _ z => z) q⟩
  intro W1 vs H1 l1 rh1 d1
  obtain ⟨d, hd, q⟩ := ap_has h1
  exact hs W1 M1 H1 xs d vs Q rh1 d1 hd (q.up l1)
theorem de_callB {x : Str} {id : String} {f : Sto → List D → Res} {r : List V → Hp → VK → Prop} (hc : CallR X (.builtin id) r) (hs : FnS X.K f r) (hg : Gl X x) (hm : X.mg x = none) (hv : bootBuiltins x = some (.builtin id)) (ha : DA X E (e :: es) t) (hn : x ≠ "__name__" := by decide) (hdb : (x == ("__debug__" : Str)) = false := by decide)
    (he : starEach (e :: es) X.env = (false, eval e X.env) :: starEach es X.env := by rfl) (hpl : (backTo pos (starEach es X.env)).any (·.1) = false := by rfl) : DE X E (.Call (.Name x p) (e :: es) [] pos) (dFn f t) where
  run := pe_w (pe_callB hc hg hm hv ha.run hn hdb he hpl) fun _ _ _ h => fn_run hs ha.mono h
  mono := mono_Fn ha.mono
theorem de_callTy {x : Str} {T : String} {f : Sto → List D → Res} {r : List V → Hp → VK → Prop} (hc : CallR X (.type T) r) (hs : FnS X.K f r) (hg : Gl X x) (hm : X.mg x = none) (hv : bootBuiltins x = some (.type T)) (ha : DA X E (e :: es) t) (hn : x ≠ "__name__" := by decide) (hdb : (x == ("__debug__" : Str)) = false := by decide)
    (he : starEach (e :: es) X.env = (false, eval e X.env) :: starEach es X.env := by rfl) (hpl : (backTo pos (starEach es X.env)).any (·.1) = false := by rfl) : DE X E (.Call (.Name x p) (e :: es) [] pos) (dFn f t) where
  run := pe_w (pe_callTy hc hg hm hv ha.run hn hdb he hpl) fun _ _ _ h => fn_run hs ha.mono h
  mono := mono_Fn ha.mono
/-- f(e, ..) where the module's name f stands for a built-in function (from math import gcd) -/
theorem de_callG {x : Str} {id : String} {f : Sto → List D → Res} {r : List V → Hp → VK → Prop} (hc : CallR X (.builtin id) r) (hs : FnS X.K f r) (hg : Gl X x) (hm : X.mg x = some (.builtin id)) (ha : DA X E (e :: es) t) (hdb : (x == ("__debug__" : Str)) = false := by decide)
    (he : starEach (e :: es) X.env = (false, eval e X.env) :: starEach es X.env := by rfl) (hpl : (backTo pos (starEach es X.env)).any (·.1) = false := by rfl) : DE X E (.Call (.Name x p) (e :: es) [] pos) (dFn f t) where
  run := pe_w (pe_callBfun hc hg hm ha.run hdb he hpl) fun _ _ _ h => fn_run hs ha.mono h
  mono := mono_Fn ha.mono
theorem call_run {sp : DSp} (ms : MonoSp sp) (ma : MonoA t) {σ : L2.St} {H : Hp} {Q : VK} (h : lE X.K X.mg E (dCall sp t) σ H Q) : tCall (lSp X.K X.mg sp) [] E (lA X.K X.mg E t) σ H Q := by
  obtain ⟨W, s, M, rh, rs, q⟩ := h
  refine ⟨W, s, M, rh, rs, ma _ _ _ _ _ _ (fun xs M1 h1 => ?_) (fun _ _ z => z) q⟩
  intro W1 vs H1 l1 rh1 d1
  rw [List.append_nil]
  exact ⟨W1, M1, xs, rh1, d1, ms _ _ _ _ _ _ (fun d M1 z => z.up l1) (fun _ _ z => z.up l1) h1⟩
theorem de_call {CX : CXT} {k : Nat} {f : Addr} {fd : FuncData} {ps : List Str} {sp : DSp} {x : Str} (F : FnOk X.prog X.w X.K X.mg X.base CX k f fd ps (lSp X.K X.mg sp)) (ms : MonoSp sp) (hr : Room k X.A) (hg : Gl X x) (hm : X.mg x = some (.ref f)) (hk : PySem.W.keepIn X.K (.ref f) = true) (hb : Binds X.K fd ps []) (hx : Passes CX X E)
    (ha : DA X E (e :: es) t) (hdb : (x == ("__debug__" : Str)) = false := by decide) (he : starEach (e :: es) X.env = (false, eval e X.env) :: starEach es X.env := by rfl) (hpl : (backTo pos (starEach es X.env)).any (·.1) = false := by rfl) :
    DE X E (.Call (.Name x p) (e :: es) [] pos) (dCall sp t) where
  run := pe_w (pe_call F hr hg hm hk hb .nil hx ha.run hdb he hpl) fun _ _ _ h => call_run ms ha.mono h
  mono := mono_Call ms ha.mono
/-! ### keywords -/
theorem run_fnN' {CX : CXT} {k n : Nat} {f : Addr} {fd : FuncData} {ps ks : List Str} {sp : Sp} {g : List Value → List Value → List Value} {gV : List V → List V → List V}
    {pins : List (Addr × Obj)} {σ : L2.St} {H : Hp} {s : Shared} {Q : VK} {ws : List Value} {zs : List V} (F : FnOk X.prog X.w X.K X.mg X.base CX k f fd ps sp) (hr : Room k X.A) (hb : KBn X.K fd ps 0 ks g gV) (hx : Passes CX X E)
    (I : Inv X pins σ H s) (rz : Vals zs ws) (l2 : zs.length = ks.length) (h : sp (gV [] zs) H Q E) : wpAny (model X.prog X.w) X.A (call (.ref f) [] (ks.zip ws)) (EP X pins σ Q) X.xe s :=
  run_fnN F hr hb hx I .nil rz rfl l2 h
/-- f(k = v, ..) -/
theorem pe_callN0 {CX : CXT} {k : Nat} {f : Addr} {fd : FuncData} {ps ks : List Str} {sp : Sp} {x : Str} {kws : List Keyword} {tk : TA} {g : List Value → List Value → List Value} {gV : List V → List V → List V}
    (F : FnOk X.prog X.w X.K X.mg X.base CX k f fd ps sp) (hr : Room k X.A) (hg : Gl X x) (hm : X.mg x = some (.ref f)) (hk : PySem.W.keepIn X.K (.ref f) = true) (hb : KBn X.K fd ps 0 ks g gV) (hx : Passes CX X E)
    (hkw : PK X kws tk) (hall : (backToKw pos (keywordEach kws X.env)).all (·.1.isSome) = true := by rfl) (hks : (backToKw pos (keywordEach kws X.env)).filterMap (·.1) = ks := by rfl)
    (hdb : (x == ("__debug__" : Str)) = false := by decide)
    (hpl : ((backTo pos (starEach [] X.env)).any (·.1) || (backToKw pos (keywordEach kws X.env)).any (·.1.isNone)) = false := by rfl) :
    PE X (.Call (.Name x p) [] kws pos) (tCallN 0 ks.length sp gV E tNil tk) := by
  refine ⟨fun pins s σ H Q I h => ?_⟩
  refine wpAny_Call_Name_kw (ld_glob I hg hm ?_ hdb)
  refine PySem.W.callWith_KW0 (h₀ := X.base) I.ok.mod.kin hk hall ?_ hpl
  refine thn (hkw.run pos pins s σ H _ I h) fun ws s2 ⟨zs, H2, I2, rz, l1, l2, q2⟩ => ⟨I2.kIn, ?_⟩
  rw [hks]
  exact run_fnN F hr hb hx I2 .nil rz rfl l2 q2
/-- the same order of places for values and for data -/
structure Puts (g : List Value → List Value → List Value) (gV : List V → List V → List V) (gD : List D → List D → List D) : Prop where
  dat : ∀ {K : PySem.W.Frag} {W : Wld} {ds es : List D} {vs ws : List V}, DatL K W ds vs → DatL K W es ws → DatL K W (gD ds es) (gV vs ws)
theorem callN_run {sp : DSp} {n m : Nat} {g : List Value → List Value → List Value} {gV : List V → List V → List V} {gD : List D → List D → List D} (pg : Puts g gV gD) (ms : MonoSp sp) (ma : MonoA t) (mk : MonoA tk) {σ : L2.St} {H : Hp} {Q : VK}
    (h : lE X.K X.mg E (dCallK n m sp gD t tk) σ H Q) : tCallN n m (lSp X.K X.mg sp) gV E (lA X.K X.mg E t) (lA X.K X.mg E tk) σ H Q := by
  obtain ⟨W, s, M, rh, rs, q⟩ := h
  refine ⟨W, s, M, rh, rs, ma _ _ _ _ _ _ (fun xs M1 h1 => ?_) (fun _ _ z => z) q⟩
  intro W1 vs H1 l1 rh1 d1
  refine ⟨W1, s, M1, rh1, rs.mono l1, mk _ _ _ _ _ _ (fun ys M2 h2 => ?_) (fun _ _ z => z.up l1) h1⟩
  intro W2 ws H2 l2 rh2 d2
  refine ⟨by rw [d1.len]; exact h2.1, by rw [d2.len]; exact h2.2.1, W2, M2, _, rh2, pg.dat (DatL.mono l2 _ _ d1) d2, ms _ _ _ _ _ _ (fun d M1 z => z.up (l1.trans l2)) (fun _ _ z => z.up (l1.trans l2)) h2.2.2⟩
theorem de_callN {CX : CXT} {k n m : Nat} {f : Addr} {fd : FuncData} {ps ks : List Str} {sp : DSp} {x : Str} {kws : List Keyword} {g : List Value → List Value → List Value} {gV : List V → List V → List V} {gD : List D → List D → List D}
    (F : FnOk X.prog X.w X.K X.mg X.base CX k f fd ps (lSp X.K X.mg sp)) (ms : MonoSp sp) (hr : Room k X.A) (hg : Gl X x) (hm : X.mg x = some (.ref f)) (hk : PySem.W.keepIn X.K (.ref f) = true) (hb : KBn X.K fd ps n ks g gV) (pg : Puts g gV gD) (hx : Passes CX X E)
    (ha : DA X E (e :: es) t) (hkw : DKw X E kws tk) (hl : ks.length = m := by rfl) (hall : (backToKw pos (keywordEach kws X.env)).all (·.1.isSome) = true := by rfl) (hks : (backToKw pos (keywordEach kws X.env)).filterMap (·.1) = ks := by rfl)
    (hdb : (x == ("__debug__" : Str)) = false := by decide) (he : starEach (e :: es) X.env = (false, eval e X.env) :: starEach es X.env := by rfl)
    (hpl : ((backTo pos (starEach (e :: es) X.env)).any (·.1) || (backToKw pos (keywordEach kws X.env)).any (·.1.isNone)) = false := by rfl) :
    DE X E (.Call (.Name x p) (e :: es) kws pos) (dCallK n m sp gD t tk) where
  run := by
    subst hl
    exact pe_w (pe_callN F hr hg hm hk hb hx ha.run hkw.run hall hks hdb he hpl) fun _ _ _ h => callN_run pg ms ha.mono hkw.mono h
  mono := mono_CallK ms ha.mono hkw.mono
theorem de_callN0 {CX : CXT} {k m : Nat} {f : Addr} {fd : FuncData} {ps ks : List Str} {sp : DSp} {x : Str} {kws : List Keyword} {g : List Value → List Value → List Value} {gV : List V → List V → List V} {gD : List D → List D → List D}
    (F : FnOk X.prog X.w X.K X.mg X.base CX k f fd ps (lSp X.K X.mg sp)) (ms : MonoSp sp) (hr : Room k X.A) (hg : Gl X x) (hm : X.mg x = some (.ref f)) (hk : PySem.W.keepIn X.K (.ref f) = true) (hb : KBn X.K fd ps 0 ks g gV) (pg : Puts g gV gD) (hx : Passes CX X E)
    (hkw : DKw X E kws tk) (hl : ks.length = m := by rfl) (hall : (backToKw pos (keywordEach kws X.env)).all (·.1.isSome) = true := by rfl) (hks : (backToKw pos (keywordEach kws X.env)).filterMap (·.1) = ks := by rfl)
    (hdb : (x == ("__debug__" : Str)) = false := by decide)
    (hpl : ((backTo pos (starEach [] X.env)).any (·.1) || (backToKw pos (keywordEach kws X.env)).any (·.1.isNone)) = false := by rfl) :
    DE X E (.Call (.Name x p) [] kws pos) (dCallK 0 m sp gD dNil tk) where
  run := by
    subst hl
    exact pe_w (pe_callN0 F hr hg hm hk hb hx hkw.run hall hks hdb hpl) fun σ H Q h => by
      obtain ⟨W, s, M, rh, rs, q⟩ := callN_run (X := X) (E := E) (Q := Q) pg ms mono_Nil hkw.mono h
      exact q W [] H (Wle.refl W) rh .nil
  mono := mono_CallK ms mono_Nil hkw.mono
/-! ### targets -/
theorem Agr.set {σ : L2.St} {i : Nat} {x : Option V} : Agr [i] σ (σ.set i x) := ⟨by simp, fun j hj => by
  rw [List.getElem?_set_ne]
  rintro rfl
  exact hj (by simp)⟩
theorem Agr.refl {vs : List Nat} {σ : L2.St} : Agr vs σ σ := ⟨rfl, fun _ _ => rfl⟩
theorem Agr.trans {vs ws us : List Nat} {σ σ1 σ2 : L2.St} (a : Agr vs σ σ1) (b : Agr ws σ1 σ2) (h1 : ∀ i ∈ vs, i ∈ us) (h2 : ∀ i ∈ ws, i ∈ us) : Agr us σ σ2 :=
  ⟨b.len.trans a.len, fun j hj => (b.out j fun z => hj (h2 j z)).trans (a.out j fun z => hj (h1 j z))⟩
theorem wipe_get {σ : L2.St} : ∀ (vs : List Nat) (j : Nat), (wipe σ vs)[j]? = if j ∈ vs then (σ[j]?).map (fun _ => none) else σ[j]?
  | [], j => by simp [wipe]
  | v :: vs, j => by
    unfold wipe
    by_cases h : j = v
    · subst h
      rw [if_pos (by simp), List.getElem?_set]
      simp only [if_true, wipe_length]
      by_cases hl : j < σ.length
      · rw [if_pos hl, List.getElem?_eq_getElem hl]; rfl
      · rw [if_neg hl, List.getElem?_eq_none (by omega)]; rfl
    · rw [List.getElem?_set_ne (Ne.symm h), wipe_get vs j]
      by_cases h2 : j ∈ vs
      · rw [if_pos h2, if_pos (by simp [h2])]
      · rw [if_neg h2, if_neg (by simp [h, h2])]
theorem Agr.wipe {vs us : List Nat} {σ σ' : L2.St} (a : Agr vs σ σ') (h : ∀ i ∈ vs, i ∈ us) : L2.wipe σ' us = L2.wipe σ us := by
  apply List.ext_getElem?
  intro j
  rw [wipe_get, wipe_get]
  by_cases hj : j ∈ us
  · rw [if_pos hj, if_pos hj]
    by_cases hl : j < σ.length
    · rw [List.getElem?_eq_getElem hl, List.getElem?_eq_getElem (by rw [a.len]; exact hl)]; rfl
    · rw [List.getElem?_eq_none (show σ'.length ≤ j by rw [a.len]; omega), List.getElem?_eq_none (show σ.length ≤ j by omega)]
  · rw [if_neg hj, if_neg hj]
    exact a.out j fun z => hj (h j z)
theorem wipe_wipe {σ : L2.St} {us : List Nat} : L2.wipe (L2.wipe σ us) us = L2.wipe σ us := by
  apply List.ext_getElem?
  intro j
  rw [wipe_get, wipe_get]
  by_cases hj : j ∈ us
  · rw [if_pos hj, if_pos hj, Option.map_map]; rfl
  · rw [if_neg hj, if_neg hj]
theorem RelS.wiped {K : PySem.W.Frag} {W : Wld} {s : Sl} {σ : L2.St} (r : RelS K W s σ) : ∀ vs, RelS K W (DL.wiped s vs) (L2.wipe σ vs)
  | [] => r
  | v :: vs => by
    unfold DL.wiped L2.wipe
    exact (RelS.wiped r vs).putN
theorem dg_name {i : Nat} {x : Str} (hN : X.N.Nodup) (hi : X.N[i]? = some x) (hx : Loc X.env.scope x) (hf : X.fn x = true ∨ X.env.scope.names.lookup x = some .local := by first | exact .inl rfl | exact .inr rfl | assumption) : DGt X (.Name x pos) [i] (gN i) where
  run := pg_w (pg_name hN hi hx hf) fun v σ H Q ⟨W, s, M, d, rh, rs, hd, q⟩ => q W _ H (Wle.refl W) rh (rs.put hd) Agr.set
  mono := mono_gN
theorem dgs_nil : DGs X [] [] gsNil where
  run := pgs_w pgs_nil fun xs σ H Q ⟨W, s, M, ds, rh, rs, hd, q⟩ => by
    cases ds with
    | nil => exact ⟨DatL.inv0 hd, q W σ H (Wle.refl W) rh rs Agr.refl⟩
    | cons _ _ => exact q.elim
  mono := mono_gsNil
theorem dgs_cons {vs ws : List Nat} {g : DTG} {gs : DTGs} (h1 : DGt X e vs g) (h2 : DGs X es ws gs) (hs : (assignEach (e :: es) X.env).map (·.2) = assign e X.env :: (assignEach es X.env).map (·.2) := by rfl) : DGs X (e :: es) (vs ++ ws) (gsCons g gs) where
  run := pgs_w (pgs_cons h1.run h2.run hs) fun xs σ H Q ⟨W, s, M, ds, rh, rs, hd, q⟩ => by
    cases ds with
    | nil => exact q.elim
    | cons d ds =>
      obtain ⟨v, r, rfl, hd1, hd2⟩ := hd.inv
      refine ⟨v, r, rfl, W, s, M, d, rh, rs, hd1, h1.mono _ _ _ _ _ (fun s1 M1 q1 => ?_) q⟩
      intro W1 σ1 H1 l1 rh1 rs1 a1
      refine ⟨W1, s1, M1, ds, rh1, rs1, DatL.mono l1 _ _ hd2, h2.mono _ _ _ _ _ (fun s2 M2 q2 => ?_) q1⟩
      intro W2 σ2 H2 l2 rh2 rs2 a2
      exact q2 W2 σ2 H2 (l1.trans l2) rh2 rs2 (a1.trans a2 (fun i hi => List.mem_append_left _ hi) fun i hi => List.mem_append_right _ hi)
  mono := mono_gsCons h1.mono h2.mono
theorem dg_tup {k n : Nat} {vs : List Nat} {gs : DTGs} (hc : X.calm = true) (h : DGs X es vs gs) (hn : (assignEach es X.env).length = n := by rfl) (hst : (assignEach es X.env).findIdx? (·.1) = none := by rfl) : DGt X (.Tuple es k pos) vs (gT n gs) where
  run := pg_w (pg_tup hc h.run hn hst) fun v σ H Q ⟨W, s, M, d, rh, rs, hd, q⟩ => by
    cases d with
    | tup ds =>
      simp only [DatR] at hd
      obtain ⟨a, xs, rfl, h1, h2, h3⟩ := hd
      have hst : SqT X.K H a xs := Same.seqT rh.sub h1
      exact ⟨a, xs, rfl, hst, by rw [h3.len]; exact q.1, W, s, M, ds, rh, rs, h3, q.2⟩
    | _ => exact q.elim
  mono := mono_gT h.mono
/-- an item of a list that may change is stored -/
theorem ixD_ok {n : Nat} {i : Int} {j : Nat} (h : ixD n i = some j) : ixN n i = some j ∧ j < n := by
  unfold ixD at h
  unfold ixN
  cases i with
  | ofNat m =>
    dsimp only at h
    split at h
    · cases h
      rename_i hm
      refine ⟨?_, hm⟩
      rw [if_pos (show (0 : Int) ≤ Int.ofNat j from Int.natCast_nonneg j), if_pos (show Int.ofNat j < (n : Int) from Int.ofNat_lt.mpr hm)]
      rfl
    · cases h
  | negSucc m =>
    dsimp only at h
    split at h
    · cases h
      rename_i hm
      refine ⟨?_, by omega⟩
      rw [if_neg (by omega), if_pos (by omega)]
      congr 1
      omega
    · cases h
theorem RelH.updK {K : PySem.W.Frag} {W : Wld} {M : Sto} {H : Hp} {k : Nat} {a : Addr} {ds es : List D} {vs : List V} (r : RelH K W M H) (e : M[k]? = some (some ds)) (ea : W.ad[k]? = some a) (d : DatL K W es vs) :
    RelH K W (M.set k (some es)) (upd H a (.lst vs)) := by
  obtain ⟨b, ws, e1, e2, e3, e4, e5⟩ := r.own k ds e
  rw [ea] at e1
  cases e1
  refine ⟨fun c u z => ?_, by simp [r.len], r.nd, fun j fs z => ?_, fun j b z zb => ?_, fun c u z => ?_, r.dis⟩
  · rw [upd_ne]
    · exact r.sub _ _ z
    · rintro rfl
      rw [e2] at z; cases z
  · by_cases hj : j = k
    · subst hj
      have hl : j < M.length := (List.getElem?_eq_some_iff.mp e).1
      rw [List.getElem?_set_self hl] at z
      cases z
      exact ⟨a, vs, ea, e2, upd_same, d, e5⟩
    · rw [List.getElem?_set_ne (Ne.symm hj)] at z
      obtain ⟨b, ws', f1, f2, f3, f4, f5⟩ := r.own j fs z
      refine ⟨b, ws', f1, f2, ?_, f4, f5⟩
      rw [upd_ne]
      · exact f3
      · rintro rfl
        exact hj (nd_ix r.nd f1 ea)
  · have hj : j ≠ k := by
      rintro rfl
      have hl : j < M.length := (List.getElem?_eq_some_iff.mp e).1
      rw [List.getElem?_set_self hl] at z
      cases z
    rw [List.getElem?_set_ne (Ne.symm hj)] at z
    exact r.dead j b z zb
  · rw [upd_ne]
    · exact r.frm _ _ z
    · rintro rfl
      rw [e5] at z; cases z
theorem dg_ix {o i : Expr} {to ti : DTE} (ho : DE X E0 o to) (hi : DE X E0 i ti)
    (ha : ∀ v, assign (.Subscript o i pos) X.env v = (do
      let ov ← holding [v] (eval o X.env)
      let iv ← holding [v, ov] (eval i X.env)
      standAt pos
      holding [v, ov, iv] (setItem ov iv v)
      release [v, ov, iv] []) := by intro _; rfl) : DGt X (.Subscript o i pos) [] (gIx to ti) where
  run := pg_w (pg_sub ho.run hi.run set_list ha) fun v σ H Q ⟨W, s, M, d, rh, rs, hd, q⟩ => by
    refine ⟨W, s, M, rh, rs, ho.mono _ _ _ _ _ _ (fun x M1 h1 => ?_) (fun _ _ z => z.elim) q⟩
    intro W1 v1 H1 l1 rh1 d1
    refine ⟨W1, s, M1, rh1, rs.mono l1, hi.mono _ _ _ _ _ _ (fun y M2 h2 => ?_) (fun _ _ z => z.elim) h1⟩
    intro W2 v2 H2 l2 rh2 d2
    cases x with
    | own k => cases y with
      | int i =>
        dsimp only at h2
        cases e : M2[k]? with
        | none => rw [e] at h2; exact h2.elim
        | some oo =>
          rw [e] at h2
          cases oo with
          | none => exact h2.elim
          | some ds =>
            dsimp only at h2
            cases e2 : ixD ds.length i with
            | none => rw [e2] at h2; exact h2.elim
            | some j =>
              rw [e2] at h2
              have d1' := DatR.mono l2 _ _ d1
              simp only [DatR] at d1' d2
              obtain ⟨p, rfl, ep⟩ := d1'
              obtain ⟨a, vs, f1, f2, f3, f4, f5⟩ := rh2.own k ds e
              rw [ep] at f1
              cases f1
              have l12 := l1.trans l2
              refine ⟨p, vs, i, j, rfl, d2, f3, by rw [f4.len]; exact (ixD_ok e2).1, ?_⟩
              exact h2 W2 σ _ l12 (rh2.updK e ep (f4.set j (DatR.mono l12 _ _ hd))) (rs.mono l12) Agr.refl
      | _ => exact h2.elim
    | _ => exact h2.elim
  mono := mono_gIx ho.mono hi.mono
/-! ### statements -/
variable {st : Stmt} {sts : List Stmt} {t u : DTS}
theorem lD_up {W W' : Wld} {D : Ends} (h : Wle W W') : DEnd.Le (lD X.K X.mg E W D) (lD X.K X.mg E W' D) := ⟨fun _ _ z => z.up h, fun _ _ z => z.up h, fun _ _ z => z.up h, fun _ _ z => z.up h, fun _ _ z => z.up h⟩
theorem dss_nil : DSs X E [] dNext where
  run := pss_w pss_nil fun D σ H ⟨W, s, M, rh, rs, q⟩ => q W σ H (Wle.refl W) rh rs
  mono := mono_Next
theorem dss_cons (h1 : DSt X E st t) (h2 : DSs X E sts u) : DSs X E (st :: sts) (dSeq t u) where
  run := pss_w (pss_cons h1.run h2.run) fun D σ H ⟨W, s, M, rh, rs, q⟩ => by
    refine ⟨W, s, M, rh, rs, h1.mono { lD X.K X.mg E W D with nx := u (lD X.K X.mg E W D) } (lD X.K X.mg E W { D with nx := lS X.K X.mg E u D }) s M ⟨fun s1 M1 q1 => ?_, fun _ _ z => z, fun _ _ z => z, fun _ _ z => z, fun _ _ z => z⟩ q⟩
    intro W1 σ1 H1 l1 rh1 rs1
    exact ⟨W1, s1, M1, rh1, rs1, h2.mono _ _ _ _ (lD_up l1) q1⟩
  mono := mono_Seq h1.mono h2.mono
theorem dss_one (h1 : DSt X E st t) : DSs X E [st] t := ⟨pss_one h1.run, h1.mono⟩
theorem ds_never : DSt X E st dNever := ⟨ps_w ps_never fun D σ H ⟨W, s, M, rh, rs, q⟩ => q, mono_Never⟩
theorem asg_run {vs : List Nat} {g : DTG} {G : TG} (hG : ∀ v σ H Q, lG X.K vs g v σ H Q → G v σ H Q) (me : MonoE te) (mg : MonoG g) {D : Ends} {σ : L2.St} {H : Hp} (h : lS X.K X.mg E (dAsg te g) D σ H) : tAsg (lE X.K X.mg E te) G D σ H := by
  obtain ⟨W, s, M, rh, rs, q⟩ := h
  refine ⟨W, s, M, rh, rs, me _ _ _ _ _ _ (fun d M1 h1 => ?_) (fun _ _ z => z) q⟩
  intro W1 v H1 l1 rh1 d1
  exact hG _ _ _ _ ⟨W1, s, M1, d, rh1, rs.mono l1, d1, mg _ _ _ _ _ (fun s2 M2 q2 W2 σ2 H2 l2 rh2 rs2 _ => q2 W2 σ2 H2 (l1.trans l2) rh2 rs2) h1⟩
theorem ds_asg {tg : Expr} {vs : List Nat} {g : DTG} (he : DE X E e te) (hg : DGt X tg vs g) (hs : swapsWithSole [tg] e pos.line X.env = pure false := by rfl) (hw : swappedStores [tg] e X.env = pure none := by rfl)
    (h1 : (assignEach [tg] X.env).map (·.2) = [assign tg X.env] := by rfl) : DSt X E (.Assign [tg] e pos) (dAsg te g) where
  run := ps_w (ps_asg he.run hg.run hs hw h1) fun _ _ _ h => asg_run (fun _ _ _ _ z => z) he.mono hg.mono h
  mono := mono_Asg he.mono hg.mono
theorem gn_lift {i : Nat} : ∀ v σ H Q, lG X.K [i] (gN i) v σ H Q → gName i v σ H Q := fun v σ H Q ⟨W, s, M, d, rh, rs, hd, q⟩ => q W _ H (Wle.refl W) rh (rs.put hd) Agr.set
theorem ds_set {i : Nat} {x : Str} {pos' : Pos} (hN : X.N.Nodup) (hi : X.N[i]? = some x) (hx : Loc X.env.scope x) (he : DE X E e te) (hs : swapsWith e (some (.Name x pos')) pos.line X.env = pure false := by rfl) (hf : X.fn x = true ∨ X.env.scope.names.lookup x = some .local := by first | exact .inl rfl | exact .inr rfl | assumption) :
    DSt X E (.Assign [.Name x pos'] e pos) (dAsg te (gN i)) where
  run := ps_w (ps_set hN hi hx he.run hs hf) fun _ _ _ h => asg_run gn_lift he.mono mono_gN h
  mono := mono_Asg he.mono mono_gN
theorem ds_par {i j : Nat} {x y : Str} {a b : Expr} {ta : DTA} {px py pt : Pos} {kt k2 pt2} (hc : X.calm = true) (hN : X.N.Nodup) (hi : X.N[i]? = some x) (hj : X.N[j]? = some y) (hij : i ≠ j)
    (hx : X.env.scope.names.lookup x = some .local) (hy : X.env.scope.names.lookup y = some .local) (ha : DA X E [a, b] ta)
    (hw : swappedStores [.Tuple [.Name x px, .Name y py] kt pt] (.Tuple [a, b] k2 pt2) X.env = pure (some [x, y]))
    (hs : swapsWithSole [.Tuple [.Name x px, .Name y py] kt pt] (.Tuple [a, b] k2 pt2) pos.line X.env = pure false := by rfl) :
    DSt X E (.Assign [.Tuple [.Name x px, .Name y py] kt pt] (.Tuple [a, b] k2 pt2) pos) (dPar i j ta) where
  run := ps_w (ps_par hc hN hi hj hij hx hy ha.run hw hs) fun D σ H ⟨W, s, M, rh, rs, q⟩ => by
    refine ⟨W, s, M, rh, rs, ha.mono _ _ _ _ _ _ (fun ds M1 h1 => ?_) (fun _ _ z => z) q⟩
    intro W1 vs H1 l1 rh1 d1
    match ds, h1, d1 with
    | [d, d'], h1, d1 =>
      obtain ⟨v, r, rfl, e1, d2⟩ := d1.inv
      obtain ⟨w, r', rfl, e2, d3⟩ := d2.inv
      cases d3.inv0
      exact ⟨v, w, rfl, h1 W1 _ H1 l1 rh1 (((rs.mono l1).put e1).put e2)⟩
  mono := mono_Par ha.mono
theorem ds_ret (he : DE X E e te) : DSt X E (.Return (some e) pos) (dRet te) where
  run := ps_w (ps_ret he.run) fun D σ H ⟨W, s, M, rh, rs, q⟩ => ⟨W, s, M, rh, rs, q⟩
  mono := mono_Ret he.mono
theorem ds_retN : DSt X E (.Return none pos) dRetN where
  run := ps_w ps_retN fun D σ H ⟨W, s, M, rh, rs, q⟩ => q W .non H (Wle.refl W) rh (by simp only [DatR])
  mono := mono_RetN
theorem ds_pass : DSt X E (.Pass pos) dNext where
  run := ps_w ps_pass fun D σ H ⟨W, s, M, rh, rs, q⟩ => q W σ H (Wle.refl W) rh rs
  mono := mono_Next
theorem ds_doc {x j pos'} : DSt X E (.Expr (.Constant (.str x) j pos) pos') dNext where
  run := ps_w ps_doc fun D σ H ⟨W, s, M, rh, rs, q⟩ => q W σ H (Wle.refl W) rh rs
  mono := mono_Next
theorem ds_expr (he : DE X E e te) (hs : swapsWith e none pos.line X.env = pure false := by rfl) : DSt X E (.Expr e pos) (dDrop te) where
  run := ps_w (ps_expr he.run hs) fun D σ H ⟨W, s, M, rh, rs, q⟩ => by
    refine ⟨W, s, M, rh, rs, he.mono _ _ _ _ _ _ (fun d M1 h1 => ?_) (fun _ _ z => z) q⟩
    intro W1 v H1 l1 rh1 d1
    exact h1 W1 σ H1 l1 rh1 (rs.mono l1)
  mono := mono_Drop he.mono
theorem ds_if {c : Expr} {tC : DTT} {xs ys : List Stmt} (hc : DT X E c tC) (ha : DSs X E xs t) (hb : DSs X E ys u) : DSt X E (.If c xs ys pos) (dIf tC t u) where
  run := ps_w (ps_if hc.run ha.run hb.run) fun D σ H ⟨W, s, M, rh, rs, q⟩ => by
    refine ⟨W, s, M, rh, rs, hc.mono _ _ _ _ _ _ (fun d M1 h1 => ?_) (fun _ _ z => z) q⟩
    intro W1 H1 l1 rh1
    cases d with
    | true => exact ⟨W1, s, M1, rh1, rs.mono l1, ha.mono _ _ _ _ (lD_up l1) h1⟩
    | false => exact ⟨W1, s, M1, rh1, rs.mono l1, hb.mono _ _ _ _ (lD_up l1) h1⟩
  mono := mono_If hc.mono ha.mono hb.mono
theorem ds_while {c : Expr} {tC : DTT} {xs : List Stmt} (hp : PassesOwn (model X.prog X.w) X.A X.env X.xe) (hc : DT X E c tC) (hb : DSs X E xs t) : DSt X E (.While c xs [] pos) (dWhile tC t) where
  run := ps_w (ps_while hp hc.run hb.run) fun D σ H ⟨W, s, M, rh, rs, Wi, ⟨m, w0⟩, turn⟩ => by
    refine ⟨fun m σ H => ∃ W1 s M, Wle W W1 ∧ RelH X.K W1 M H ∧ RelS X.K W1 s σ ∧ Wi m s M, ⟨m, W, s, M, Wle.refl W, rh, rs, w0⟩, ?_⟩
    rintro m σ1 H1 ⟨W1, s1, M1, l1, rh1, rs1, w1⟩
    refine ⟨W1, s1, M1, rh1, rs1, hc.mono _ _ _ _ _ _ (fun b M2 h2 => ?_) (fun _ _ z => z.up l1) (turn m s1 M1 w1)⟩
    intro W2 H2 l2 rh2
    have l12 := l1.trans l2
    cases b with
    | true =>
      refine ⟨fun σ' H' => ∃ m', m' < m ∧ ∃ W1 s M, Wle W W1 ∧ RelH X.K W1 M H' ∧ RelS X.K W1 s σ' ∧ Wi m' s M, fun _ _ z => z, W2, s1, M2, rh2, rs1.mono l2,
        hb.mono { lD X.K X.mg E W D with nx := fun s' M' => ∃ m', m' < m ∧ Wi m' s' M', ct := fun s' M' => ∃ m', m' < m ∧ Wi m' s' M', bk := QS X.K W D.nx } _ _ _ ⟨?_, fun _ _ z => QL.up l12 z, fun _ _ z => XL.up l12 z, fun _ _ z => QS.up l12 z, ?_⟩ h2⟩
      · rintro s' M' ⟨m', hm, w'⟩ W3 σ3 H3 l3 rh3 rs3
        exact ⟨m', hm, W3, s', M', l12.trans l3, rh3, rs3, w'⟩
      · rintro s' M' ⟨m', hm, w'⟩ W3 σ3 H3 l3 rh3 rs3
        exact ⟨m', hm, W3, s', M', l12.trans l3, rh3, rs3, w'⟩
    | false => exact h2 W2 σ1 H2 l12 rh2 (rs1.mono l2)
  mono := mono_While hc.mono hb.mono
/-! ### for -/
theorem ds_for {tg iter : Expr} {body : List Stmt} {ti : DTI} {vs : List Nat} {g : DTG} (hp : PassesOwn (model X.prog X.w) X.A X.env X.xe) (hc : X.calm = true) (hi : DIt X E tg iter ti) (hg : DGt X tg vs g) (hb : DSs X E body t)
    (hs : ∀ x, foldedSetIterable iter X.env x = pure x := by intro _; rfl) : DSt X E (.For tg iter body [] pos) (dFor ti g t) where
  run := ps_w (ps_for hp hc hi.run hg.run hb.run hs) fun D σ H ⟨W, s, M, rh, rs, q⟩ => by
    refine ⟨W, s, M, rh, rs, hi.mono _ _ _ _ _ _ (fun xs M1 h1 => ?_) (fun _ _ z => z) q⟩
    intro W1 H1 J l1 rh1 wk
    refine ⟨fun i m σ H => m = xs.length - i ∧ i ≤ xs.length ∧ ∃ W2 s M, Wle W1 W2 ∧ RelH X.K W2 M H ∧ RelS X.K W2 s σ ∧ forD g t (xs.drop i) (lD X.K X.mg E W D) s M,
      ⟨_, rfl, Nat.zero_le _, W1, s, M1, Wle.refl W1, rh1, rs.mono l1, by rw [List.drop_zero]; exact h1⟩, ?_⟩
    rintro i m σ2 H2 ⟨rfl, hil, W2, s2, M2, l2, rh2, rs2, q2⟩
    by_cases hlt : i < xs.length
    · refine .inr ⟨wk.go i W2 M2 H2 l2.lf rh2 hlt, fun σ H => ∃ W2 s M, Wle W1 W2 ∧ RelH X.K W2 M H ∧ RelS X.K W2 s σ ∧ forD g t (xs.drop (i + 1)) (lD X.K X.mg E W D) s M, ?_, ?_⟩
      · rintro σ' H' z
        exact ⟨xs.length - (i + 1), by omega, rfl, hlt, z⟩
      · intro x H3 y
        rw [List.drop_eq_getElem_cons hlt] at q2
        obtain ⟨W3, l3, rh3, d3⟩ := wk.yld i W2 M2 H2 xs[i] x H3 l2.lf rh2 (List.getElem?_eq_getElem hlt) y
        refine ⟨W3, s2, M2, xs[i], rh3, rs2.mono l3, d3, hg.mono _ _ _ _ _ (fun s4 M4 q4 => ?_) q2⟩
        intro W4 σ4 H4 l4 rh4 rs4 _
        have l14 := (l2.trans l3).trans l4
        have lW4 := l1.trans l14
        refine ⟨W4, s4, M4, rh4, rs4, hb.mono { lD X.K X.mg E W D with nx := forD g t (xs.drop (i + 1)) (lD X.K X.mg E W D), ct := forD g t (xs.drop (i + 1)) (lD X.K X.mg E W D), bk := QS X.K W D.nx } _ _ _ ⟨fun s5 M5 q5 => ?_, fun _ _ z => QL.up lW4 z, fun _ _ z => XL.up lW4 z, fun _ _ z => QS.up lW4 z, fun s5 M5 q5 => ?_⟩ q4⟩
        · intro W5 σ5 H5 l5 rh5 rs5
          exact ⟨W5, s5, M5, l14.trans l5, rh5, rs5, q5⟩
        · intro W5 σ5 H5 l5 rh5 rs5
          exact ⟨W5, s5, M5, l14.trans l5, rh5, rs5, q5⟩
    · have e : i = xs.length := by omega
      subst e
      rw [List.drop_length] at q2
      exact .inl ⟨wk.stop _ W2 M2 H2 l2.lf rh2 (Nat.le_refl _), q2 W2 σ2 H2 (l1.trans l2) rh2 rs2⟩
  mono := mono_For hi.mono hg.mono hb.mono
/-! ### comprehensions -/
structure DTs (X : Cx) (E : XK) (ifs : List Expr) (t : DTT) : Prop where
  run : PTs X ifs (lT X.K X.mg E t)
  mono : MonoT t
theorem dts_nil : DTs X E [] dYes where
  run := ⟨fun pins s σ H Q I h => by
    obtain ⟨W, sl, M, rh, rs, q⟩ := h
    exact pts_nil.run pins s σ H Q I (q W H (Wle.refl W) rh)⟩
  mono := mono_Yes
theorem dts_one {c : Expr} {tC : DTT} (h : DT X E c tC) : DTs X E [c] tC := ⟨pts_one h.run, h.mono⟩
mutual
theorem DatR.frm {K : PySem.W.Frag} {G : Hp} {ad : List Addr} {F F' : Hp} : ∀ (d : D) (v : V), DatR K ⟨G, ad, F⟩ d v → DatR K ⟨G, ad, F'⟩ d v
  | .non, _, q => q
  | .bl _, _, q => q
  | .int _, _, q => q
  | .str _, _, q => q
  | .ty _, _, q => q
  | .tup ds, v, q => by
    simp only [DatR] at q ⊢
    obtain ⟨a, vs, e, h1, h2, h3⟩ := q
    exact ⟨a, vs, e, h1, h2, DatL.frm ds vs h3⟩
  | .lst ds, v, q => by
    simp only [DatR] at q ⊢
    obtain ⟨a, vs, e, h1, h2, h3⟩ := q
    exact ⟨a, vs, e, h1, h2, DatL.frm ds vs h3⟩
  | .wl ds, v, q => by
    simp only [DatR] at q ⊢
    obtain ⟨a, vs, e, h1, h2, h3⟩ := q
    exact ⟨a, vs, e, h1, h2, DatL.frm ds vs h3⟩
  | .emp, v, q => by
    simp only [DatR] at q ⊢
    exact q
  | .own k, v, q => by
    simp only [DatR] at q ⊢
    exact q
theorem DatL.frm {K : PySem.W.Frag} {G : Hp} {ad : List Addr} {F F' : Hp} : ∀ (ds : List D) (vs : List V), DatL K ⟨G, ad, F⟩ ds vs → DatL K ⟨G, ad, F'⟩ ds vs
  | [], _, q => q
  | d :: ds, vs, q => by
    simp only [DatL] at q ⊢
    obtain ⟨v, r, e, h1, h2⟩ := q
    exact ⟨v, r, e, DatR.frm d v h1, DatL.frm ds r h2⟩
end
theorem RelS.frm {K : PySem.W.Frag} {G : Hp} {ad : List Addr} {F F' : Hp} {s : Sl} {σ : L2.St} (r : RelS K ⟨G, ad, F⟩ s σ) : RelS K ⟨G, ad, F'⟩ s σ :=
  ⟨r.len, fun i d e => let ⟨v, e1, e2⟩ := r.get i d e; ⟨v, e1, DatR.frm d v e2⟩⟩
theorem Wlf.fr {W : Wld} {F : Hp} : Wlf W ⟨W.G, W.ad, F⟩ := ⟨Same.refl _, List.prefix_refl _⟩
theorem RelH.inF {K : PySem.W.Frag} {W : Wld} {M : Sto} {H : Hp} {p : Addr} {o : HO} (r : RelH K W M H) (h : H p = some o) (g : W.G p = none) (n : p ∉ W.ad) : RelH K ⟨W.G, W.ad, upd W.F p o⟩ M H := by
  refine ⟨r.sub, r.len, r.nd, fun k ds e => ?_, r.dead, fun b u e => ?_, fun a ha => ?_⟩
  · obtain ⟨a, vs, e1, e2, e3, e4, e5⟩ := r.own k ds e
    refine ⟨a, vs, e1, e2, e3, DatL.lf (W := W) Wlf.fr _ _ e4, ?_⟩
    show upd W.F p o a = none
    rw [upd_ne]
    · exact e5
    · rintro rfl
      exact n (List.mem_of_getElem? e1)
  · have e : upd W.F p o b = some u := e
    by_cases hb : b = p
    · subst hb
      rw [upd_same] at e
      cases e
      exact h
    · rw [upd_ne hb] at e
      exact r.frm _ _ e
  · have ha : upd W.F p o a ≠ none := ha
    by_cases hb : a = p
    · subst hb
      exact g
    · rw [upd_ne hb] at ha
      exact r.dis a ha
theorem RelH.outF {K : PySem.W.Frag} {W : Wld} {F : Hp} {M : Sto} {H : Hp} {p : Addr} {o : HO} (r : RelH K W M H) (e : W.F = upd F p o) (f : F p = none) : RelH K ⟨W.G, W.ad, F⟩ M H ∧ H p = some o ∧ W.G p = none ∧ p ∉ W.ad := by
  have fp : W.F p = some o := by rw [e]; exact upd_same
  have g : W.G p = none := r.dis p (by rw [fp]; simp)
  have n : p ∉ W.ad := fun hp => by
    obtain ⟨k, hk, z⟩ := List.getElem_of_mem hp
    have hk2 : k < M.length := by rw [← r.len]; exact hk
    have ea : W.ad[k]? = some p := by rw [List.getElem?_eq_getElem hk, z]
    cases q : M[k] with
    | none =>
      have eM : M[k]? = some none := by rw [List.getElem?_eq_getElem hk2, q]
      exact r.dead k p eM ea g
    | some ds =>
      have eM : M[k]? = some (some ds) := by rw [List.getElem?_eq_getElem hk2, q]
      obtain ⟨a, vs, e1, _, e3, _, e5⟩ := r.own k ds eM
      rw [ea] at e1
      cases e1
      rw [fp] at e5
      cases e5
  have sub : ∀ a u, F a = some u → W.F a = some u := fun a u z => by
    rw [e, upd_ne]
    · exact z
    · rintro rfl
      rw [f] at z; cases z
  refine ⟨⟨r.sub, r.len, r.nd, fun k ds z => ?_, r.dead, fun b u z => r.frm _ _ (sub b u z), fun a ha => ?_⟩, r.frm _ _ fp, g, n⟩
  · obtain ⟨a, vs, e1, e2, e3, e4, e5⟩ := r.own k ds z
    refine ⟨a, vs, e1, e2, e3, DatL.lf (W := W) Wlf.fr _ _ e4, ?_⟩
    show F a = none
    cases q : F a with
    | none => rfl
    | some u =>
      rw [sub a u q] at e5
      cases e5
  · refine r.dis a fun z => ha ?_
    show F a = none
    cases q : F a with
    | none => rfl
    | some u =>
      rw [sub a u q] at z
      cases z
theorem RelH.updX {K : PySem.W.Frag} {W : Wld} {M : Sto} {H : Hp} {p : Addr} {o : HO} (r : RelH K W M H) (g : W.G p = none) (n : p ∉ W.ad) (f : W.F p = none) : RelH K W M (upd H p o) := by
  refine ⟨fun b u e => ?_, r.len, r.nd, fun k ds e => ?_, r.dead, fun b u e => ?_, r.dis⟩
  · rw [upd_ne]
    · exact r.sub _ _ e
    · rintro rfl
      rw [g] at e; cases e
  · obtain ⟨a, vs, e1, e2, e3, e4, e5⟩ := r.own k ds e
    refine ⟨a, vs, e1, e2, ?_, e4, e5⟩
    rw [upd_ne]
    · exact e3
    · rintro rfl
      exact n (List.mem_of_getElem? e1)
  · rw [upd_ne]
    · exact r.frm _ _ e
    · rintro rfl
      rw [f] at e; cases e
theorem look_wiped : ∀ (s : Sl) (vs : List Nat) (j : Nat) (d : D), look (wiped s vs) j = some d → look s j = some d
  | s, [], j, d, h => h
  | s, i :: r, j, d, h => by
    unfold wiped at h
    rw [look_put] at h
    split at h
    · cases h
    · exact look_wiped s r j d h
/-- what the turns of a comprehension know: the list so far at D -/
def CompI (K : PySem.W.Frag) (mg : Str → Option Value) (g : DTG) (tt : DTT) (te : DTE) (xs : List D) (W : Wld) (s : Sl) (σ : L2.St) (vs : List Nat) (Q : List D → Sto → Prop) (Dd : Addr) (i : Nat) (H : Hp) : Prop :=
  ∃ W1 M acc as, Wle W W1 ∧ RelH K W1 M H ∧ DatL K W1 as acc ∧ as.length ≤ i ∧ H Dd = some (.lst acc) ∧ W1.G Dd = none ∧ W1.F Dd = none ∧ Dd ∉ W1.ad ∧ compD g tt te (xs.drop i) (wiped s vs) M (fun ys M' => Q (as ++ ys) M') fun _ _ => False
theorem comp_run {ti : DTI} {vs ws : List Nat} {g : DTG} {tt : DTT} {te : DTE} (mi : MonoI ti) (mg : MonoG g) (mt : MonoT tt) (me : MonoE te) (hw : ∀ i ∈ ws, i ∈ vs) {σ : L2.St} {H : Hp} {Q : VK} (h : lE X.K X.mg E (dComp ti g tt te vs) σ H Q) :
    tLc (lI X.K X.mg E ti) (lG X.K ws g) (lT X.K X.mg E0 tt) (lE X.K X.mg E0 te) vs σ H Q := by
  obtain ⟨W, s, M, rh, rs, h⟩ := h
  refine ⟨W, s, M, rh, rs, mi _ _ _ _ _ _ (fun xs M1 h1 => ?_) (fun _ _ z => z) h⟩
  intro W1 H1 J l1 rh1 wk Dd nD
  -- the turns
  refine ⟨fun i m H => m = xs.length - i ∧ i ≤ xs.length ∧ CompI X.K X.mg g tt te xs W1 s σ vs (fun ys M2 => QL X.K W Q (.lst ys) M2) Dd i H, ⟨_, rfl, Nat.zero_le _, ?_⟩, ?_⟩
  · have gD : W1.G Dd = none := rh1.sub.free nD
    have fD : W1.F Dd = none := rh1.frm.free nD
    have aD := rh1.fresh nD
    refine ⟨W1, M1, [], [], Wle.refl W1, ?_, .nil, Nat.le_refl _, upd_same, gD, fD, aD, ?_⟩
    · refine ⟨fun b u e => ?_, rh1.len, rh1.nd, fun k ds e => ?_, rh1.dead, fun b u e => ?_, rh1.dis⟩
      · rw [upd_ne (ne_of_none (rh1.sub _ _ e) nD)]
        exact rh1.sub _ _ e
      · obtain ⟨a, zs, e1, e2, e3, e4, e5⟩ := rh1.own k ds e
        refine ⟨a, zs, e1, e2, ?_, e4, e5⟩
        rw [upd_ne (ne_of_none e3 nD)]
        exact e3
      · rw [upd_ne (ne_of_none (rh1.frm _ _ e) nD)]
        exact rh1.frm _ _ e
    · rw [List.drop_zero]
      exact h1
  · rintro i m H2 ⟨rfl, hil, W2, M2, acc, as, l2, rh2, dA, hA, hD, gD, fD, aD, q2⟩
    by_cases hlt : i < xs.length
    · refine .inr ⟨wk.go i W2 M2 H2 l2.lf rh2 hlt, fun H => CompI X.K X.mg g tt te xs W1 s σ vs (fun ys M2 => QL X.K W Q (.lst ys) M2) Dd (i + 1) H, ?_, ?_⟩
      · intro H' z
        exact ⟨xs.length - (i + 1), by omega, rfl, hlt, z⟩
      · intro x H3 y
        rw [List.drop_eq_getElem_cons hlt] at q2
        have rh2F := rh2.inF hD gD aD
        obtain ⟨W3, l3, rh3, d3⟩ := wk.yld i ⟨W2.G, W2.ad, upd W2.F Dd (.lst acc)⟩ M2 H2 xs[i] x H3 (l2.lf.trans ⟨Same.refl _, List.prefix_refl _⟩) rh2F (List.getElem?_eq_getElem hlt) y
        have l03 : Wlf W W3 := (l1.trans l2).lf.trans ((⟨Same.refl _, List.prefix_refl _⟩ : Wlf W2 ⟨W2.G, W2.ad, upd W2.F Dd (.lst acc)⟩).trans l3.lf)
        have rs3 : RelS X.K W3 s σ := ⟨rs.len, fun i d e => let ⟨v, e1, e2⟩ := rs.get i d e; ⟨v, e1, DatR.lf l03 d v e2⟩⟩
        refine ⟨W3, wiped s vs, M2, xs[i], rh3, rs3.wiped vs, d3, mg _ _ _ _ _ (fun s4 M4 q4 => ?_) q2⟩
        intro W4 σ4 H4 l4 rh4 rs4 a4
        refine ⟨(a4.wipe hw).trans wipe_wipe, W4, s4, M4, rh4, rs4, mt _ _ _ _ _ _ (fun b M5 q5 => ?_) (fun _ _ z => z.elim) q4⟩
        intro W5 H5 l5 rh5
        have l35 := (l3.trans l4).trans l5
        cases b with
        | true =>
          refine ⟨W5, s4, M5, rh5, rs4.mono l5, me _ _ _ _ _ _ (fun y M6 q6 => ?_) (fun _ _ z => z.elim) q5⟩
          intro W6 v6 H6 l6 rh6 d6
          have l36 := l35.trans l6
          obtain ⟨rh7, hD7, gD7, aD7⟩ := rh6.outF l36.f fD
          have l17 : Wle W1 ⟨W6.G, W6.ad, W2.F⟩ := ⟨l2.g.trans l36.g, l2.a.trans l36.a, l2.f⟩
          refine ⟨acc, hD7, by rw [dA.len]; exact Nat.lt_of_lt_of_le (Nat.lt_of_le_of_lt hA hlt) wk.le, ?_⟩
          refine ⟨⟨W6.G, W6.ad, W2.F⟩, M6, acc ++ [v6], as ++ [y], l17, rh7.updX gD7 aD7 fD, ?_, ?_, upd_same, gD7, fD, aD7, ?_⟩
          · refine DatL.snoc ?_ (DatR.lf (W := W6) Wlf.fr _ _ d6)
            exact DatL.lf (W := W2) (W' := ⟨W6.G, W6.ad, W2.F⟩) ⟨l36.g, l36.a⟩ _ _ dA
          · rw [List.length_append]
            exact Nat.add_le_add_right hA 1
          · have q6 : compD g tt te (List.drop (i + 1) xs) (wiped s vs) M6 (fun ys M4 => QL X.K W Q (.lst (as ++ (y :: ys))) M4) fun _ _ => False := q6
            have e : (fun (ys : List D) M4 => QL X.K W Q (.lst (as ++ (y :: ys))) M4) = fun ys M4 => QL X.K W Q (.lst ((as ++ [y]) ++ ys)) M4 := by
              funext ys M4
              rw [List.append_assoc]
              rfl
            rw [e] at q6
            exact q6
        | false =>
          obtain ⟨rh7, hD7, gD7, aD7⟩ := rh5.outF l35.f fD
          have l17 : Wle W1 ⟨W5.G, W5.ad, W2.F⟩ := ⟨l2.g.trans l35.g, l2.a.trans l35.a, l2.f⟩
          refine ⟨⟨W5.G, W5.ad, W2.F⟩, M5, acc, as, l17, rh7, DatL.lf (W := W2) (W' := ⟨W5.G, W5.ad, W2.F⟩) ⟨l35.g, l35.a⟩ _ _ dA, Nat.le_succ_of_le hA, hD7, gD7, fD, aD7, q5⟩
    · have e : i = xs.length := by omega
      subst e
      rw [List.drop_length] at q2
      refine .inl ⟨wk.stop _ W2 M2 H2 l2.lf rh2 (Nat.le_refl _), ?_⟩
      have q2 : QL X.K W Q (.lst (as ++ [])) M2 := q2
      rw [List.append_nil] at q2
      -- the list is frozen
      have sG : Same W2.G (upd W2.G Dd (.lst acc)) := fun b u e => by
        rw [upd_ne (ne_of_none e gD)]
        exact e
      have l2' : Wle W2 ⟨upd W2.G Dd (.lst acc), W2.ad, W2.F⟩ := ⟨sG, List.prefix_refl _, rfl⟩
      refine q2 ⟨upd W2.G Dd (.lst acc), W2.ad, W2.F⟩ (.ref Dd) H2 ((l1.trans l2).trans l2') ⟨fun b u e => ?_, rh2.len, rh2.nd, fun k ds e => ?_, fun k a e ea => ?_, rh2.frm, fun a ha => ?_⟩ ?_
      · have e : upd W2.G Dd (.lst acc) b = some u := e
        by_cases hb : b = Dd
        · subst hb
          rw [upd_same] at e
          cases e
          exact hD
        · rw [upd_ne hb] at e
          exact rh2.sub _ _ e
      · obtain ⟨a, zs, e1, e2, e3, e4, e5⟩ := rh2.own k ds e
        refine ⟨a, zs, e1, ?_, e3, DatL.mono l2' _ _ e4, e5⟩
        show upd W2.G Dd (.lst acc) a = none
        rw [upd_ne]
        · exact e2
        · rintro rfl
          exact aD (List.mem_of_getElem? e1)
      · show upd W2.G Dd (.lst acc) a ≠ none
        rw [upd_ne]
        · exact rh2.dead k a e ea
        · rintro rfl
          exact aD (List.mem_of_getElem? ea)
      · show upd W2.G Dd (.lst acc) a = none
        rw [upd_ne]
        · exact rh2.dis a ha
        · rintro rfl
          exact ha fD
      · simp only [DatR]
        exact ⟨Dd, acc, rfl, upd_same, Nat.le_trans hA wk.le, DatL.mono l2' _ _ dA⟩
end
end DL
/-! DLSound3: comprehensions, what is walked, freezing, defs (own work). -/
namespace DL
open PySem PySem.Spec PyProof.Rows L2
section
variable {X : Cx} {E : XK} {a b c e : Expr} {es rest : List Expr} {ta tb tc te : DTE} {pos p : Pos}
theorem de_comp {elt tg iter : Expr} {ifs : List Expr} {scope : Scope} {own : List (Str × Nat)} {ws us : List Nat} {ti : DTI} {g : DTG} {tt : DTT} (hc : X.calm = true) (hN : X.N.Nodup) (hi : DIt X E tg iter ti) (ok : BlkOk X.N X.env.scope scope own)
    (hg : ∀ (s : Shared) (H : Hp) (C : Addr) (cl : List (Str × Addr)) (fp : List Addr), DGt (X.blk s H scope (compEnvC scope cl C X.env) fp) tg ws g) (ht : ∀ (s : Shared) (H : Hp) (C : Addr) (cl : List (Str × Addr)) (fp : List Addr), DTs (X.blk s H scope (compEnvC scope cl C X.env) fp) E0 ifs tt)
    (he : ∀ (s : Shared) (H : Hp) (C : Addr) (cl : List (Str × Addr)) (fp : List Addr), DE (X.blk s H scope (compEnvC scope cl C X.env) fp) E0 elt te) (mg : MonoG g) (mt : MonoT tt) (me : MonoE te) (hv : own.map (·.2) = us := by rfl) (hw : ∀ i ∈ ws, i ∈ us := by decide)
    (hs : ∀ x, foldedSetIterable iter X.env x = pure x := by intro _; rfl) :
    DE X E (.ListComp elt [⟨tg, iter, ifs, 0⟩] scope pos) (dComp ti g tt te us) where
  run := by
    subst hv
    exact pe_w (pe_lc hc hN hi.run ok (fun s H C cl fp => (hg s H C cl fp).run) (fun s H C cl fp => (ht s H C cl fp).run) (fun s H C cl fp => (he s H C cl fp).run) hs) fun _ _ _ h => comp_run hi.mono mg mt me hw h
  mono := mono_Comp hi.mono mg mt me
theorem ds_setComp {i : Nat} {y : Str} {py : Pos} {elt tg iter : Expr} {ifs : List Expr} {scope : Scope} {own : List (Str × Nat)} {ws us : List Nat} {spos : Pos} {ti : DTI} {g : DTG} {tt : DTT} (hc : X.calm = true) (hN : X.N.Nodup) (hy : X.N[i]? = some y) (hyl : X.env.scope.names.lookup y = some .local)
    (hsw : swapsWith (.ListComp elt [⟨tg, iter, ifs, 0⟩] scope pos) (some (.Name y py)) spos.line X.env = pure true) (hi : DIt X E tg iter ti) (ok : BlkOk X.N X.env.scope scope own)
    (hg : ∀ (s : Shared) (H : Hp) (C : Addr) (cl : List (Str × Addr)) (fp : List Addr), DGt (X.blk s H scope (compEnvC scope cl C X.env) fp) tg ws g) (ht : ∀ (s : Shared) (H : Hp) (C : Addr) (cl : List (Str × Addr)) (fp : List Addr), DTs (X.blk s H scope (compEnvC scope cl C X.env) fp) E0 ifs tt)
    (he : ∀ (s : Shared) (H : Hp) (C : Addr) (cl : List (Str × Addr)) (fp : List Addr), DE (X.blk s H scope (compEnvC scope cl C X.env) fp) E0 elt te) (mg : MonoG g) (mt : MonoT tt) (me : MonoE te) (hv : own.map (·.2) = us := by rfl) (hw : ∀ i ∈ ws, i ∈ us := by decide)
    (hs : ∀ x, foldedSetIterable iter X.env x = pure x := by intro _; rfl) :
    DSt X E (.Assign [.Name y py] (.ListComp elt [⟨tg, iter, ifs, 0⟩] scope pos) spos) (dAsg (dComp ti g tt te us) (gN i)) where
  run := by
    subst hv
    refine ps_w (ps_setLc (wi := lI X.K X.mg E ti) (g := lG X.K ws g) (tt := lT X.K X.mg E0 tt) (te := lE X.K X.mg E0 te) hc hN hy hyl hsw hi.run ok (fun s H C cl fp => (hg s H C cl fp).run) (fun s H C cl fp => (ht s H C cl fp).run) (fun s H C cl fp => (he s H C cl fp).run) hs) fun D σ H h => ?_
    obtain ⟨W, s, M, rh, rs, q⟩ := h
    refine comp_run hi.mono mg mt me hw (Q := fun x H1 => gName i x σ H1 D.nx) ⟨W, s, M, rh, rs, (mono_Comp hi.mono mg mt me) _ _ _ _ _ _ (fun d M1 h1 => ?_) (fun _ _ z => z) q⟩
    intro W1 v H1 l1 rh1 d1
    exact h1 W1 _ H1 l1 rh1 ((rs.mono l1).put d1)
  mono := mono_Asg (mono_Comp hi.mono mg mt me) mono_gN
/-! ### what is walked -/
theorem walks_of {K : PySem.W.Frag} {W : Wld} {J : It} {xs : List D} {vs : List V} (dl : DatL K W xs vs) (le : xs.length ≤ sizeLine) (st : ∀ i W1 M1 H1, Wlf W W1 → RelH K W1 M1 H1 → vs.length ≤ i → J.stop i H1)
    (go : ∀ i W1 M1 H1, Wlf W W1 → RelH K W1 M1 H1 → i < vs.length → J.go i H1) (yl : ∀ i W1 M1 H1 x H2, Wlf W W1 → RelH K W1 M1 H1 → J.yld i H1 x H2 → H2 = H1 ∧ vs[i]? = some x) : Walks K W J xs :=
  ⟨le, fun i W1 M1 H1 l r h => st i W1 M1 H1 l r (by rw [dl.len]; exact h), fun i W1 M1 H1 l r h => go i W1 M1 H1 l r (by rw [dl.len]; exact h), fun i W1 M1 H1 d x H2 l r e y => by
    obtain ⟨e2, e3⟩ := yl i W1 M1 H1 x H2 l r y
    subst e2
    obtain ⟨v, e4, e5⟩ := dl.get e
    rw [e3] at e4
    cases e4
    exact ⟨W1, Wle.refl W1, r, DatR.lf l _ _ e5⟩⟩
theorem walks_list {K : PySem.W.Frag} {W : Wld} {a : Addr} {xs : List D} {vs : List V} (h : SqL K W.G a vs) (dl : DatL K W xs vs) (le : xs.length ≤ sizeLine) : Walks K W (Itl K a) xs := by
  have at1 : ∀ {W1 M1 H1}, Wlf W W1 → RelH K W1 M1 H1 → SqL K H1 a vs := fun l r => Same.seq r.sub (Same.seq l.g h)
  refine walks_of dl le (fun i W1 M1 H1 l r hi => ⟨vs, at1 l r, hi⟩) (fun i W1 M1 H1 l r hi => ⟨vs, vs[i], at1 l r, List.getElem?_eq_getElem hi⟩) fun i W1 M1 H1 x H2 l r y => ?_
  obtain ⟨e, y⟩ := y
  exact ⟨e, y vs (at1 l r)⟩
theorem walks_tup {K : PySem.W.Frag} {W : Wld} {a : Addr} {xs : List D} {vs : List V} (h : SqT K W.G a vs) (dl : DatL K W xs vs) (le : xs.length ≤ sizeLine) : Walks K W (Itt K a) xs := by
  have at1 : ∀ {W1 M1 H1}, Wlf W W1 → RelH K W1 M1 H1 → SqT K H1 a vs := fun l r => Same.seqT r.sub (Same.seqT l.g h)
  refine walks_of dl le (fun i W1 M1 H1 l r hi => ⟨vs, at1 l r, hi⟩) (fun i W1 M1 H1 l r hi => ⟨vs, vs[i], at1 l r, List.getElem?_eq_getElem hi⟩) fun i W1 M1 H1 x H2 l r y => ?_
  obtain ⟨e, y⟩ := y
  exact ⟨e, y vs (at1 l r)⟩
/-- for x in xs, xs a list -/
def dItL (t : DTE) : DTI := fun s M Q E => t s M (fun d M1 => match d with
  | .lst xs | .wl xs => Q xs M1
  | _ => False) E
/-- for x in t, t a tuple -/
def dItT (t : DTE) : DTI := fun s M Q E => t s M (fun d M1 => match d with
  | .tup xs => Q xs M1
  | _ => False) E
theorem mono_ItL (ha : MonoE ta) : MonoI (dItL ta) := fun s M Q Q' E E' h hx q =>
  ha s M _ _ _ _ (fun x M1 q1 => by
    cases x <;> first | exact q1 | exact h _ _ q1) hx q
theorem mono_ItT (ha : MonoE ta) : MonoI (dItT ta) := fun s M Q Q' E E' h hx q =>
  ha s M _ _ _ _ (fun x M1 q1 => by
    cases x <;> first | exact q1 | exact h _ _ q1) hx q
theorem di_list {tg l : Expr} (h : DE X E l ta) : DIt X E tg l (dItL ta) where
  run := pi_w (pi_list h.run) fun σ H R ⟨W, s, M, rh, rs, q⟩ => by
    refine ⟨W, s, M, rh, rs, h.mono _ _ _ _ _ _ (fun d M1 h1 => ?_) (fun _ _ z => z) q⟩
    intro W1 v H1 l1 rh1 d1
    cases d with
    | lst xs =>
      simp only [DatR] at d1
      obtain ⟨a, vs, rfl, e1, e2, e3⟩ := d1
      have sl : SqL X.K W1.G a vs := .inl (.inl e1)
      exact ⟨a, rfl, ⟨vs, Same.seq rh1.sub sl⟩, h1 W1 H1 _ l1 rh1 (walks_list sl e3 e2)⟩
    | wl xs =>
      simp only [DatR] at d1
      obtain ⟨a, vs, rfl, sl, e2, e3⟩ := d1
      exact ⟨a, rfl, ⟨vs, Same.seq rh1.sub sl⟩, h1 W1 H1 _ l1 rh1 (walks_list sl e3 e2)⟩
    | _ => exact h1.elim
  mono := mono_ItL h.mono
theorem di_tup {tg l : Expr} (h : DE X E l ta) : DIt X E tg l (dItT ta) where
  run := pi_w (pi_tup h.run) fun σ H R ⟨W, s, M, rh, rs, q⟩ => by
    refine ⟨W, s, M, rh, rs, h.mono _ _ _ _ _ _ (fun d M1 h1 => ?_) (fun _ _ z => z) q⟩
    intro W1 v H1 l1 rh1 d1
    cases d with
    | tup xs =>
      simp only [DatR] at d1
      obtain ⟨a, vs, rfl, sl, e2, e3⟩ := d1
      exact ⟨a, rfl, ⟨vs, Same.seqT rh1.sub sl⟩, h1 W1 H1 _ l1 rh1 (walks_tup sl e3 e2)⟩
    | _ => exact h1.elim
  mono := mono_ItT h.mono
/-- the ints from lo on, n of them -/
def intsD (lo : Int) (n : Nat) : List D := (List.range n).map fun (i : Nat) => .int (lo + (i : Int))
theorem walks_range {K : PySem.W.Frag} {W : Wld} {lo : Int} {n : Nat} (h : n ≤ sizeLine) : Walks K W (Itr lo n) (intsD lo n) where
  le := by simp [intsD]; exact h
  stop := fun i W1 M1 H1 l r hi => by
    have : (intsD lo n).length = n := by simp [intsD]
    rw [this] at hi
    exact hi
  go := fun i W1 M1 H1 l r hi => by
    have : (intsD lo n).length = n := by simp [intsD]
    rw [this] at hi
    exact hi
  yld := fun i W1 M1 H1 d x H2 l r e y => by
    obtain ⟨rfl, rfl⟩ := y
    refine ⟨W1, Wle.refl W1, r, ?_⟩
    unfold intsD at e
    rw [List.getElem?_map] at e
    cases q : (List.range n)[i]? with
    | none => rw [q] at e; cases e
    | some j =>
      rw [q] at e
      have hj : j = i := by
        have := (List.getElem?_eq_some_iff.mp q)
        obtain ⟨h1, h2⟩ := this
        simp at h2
        exact h2.symm
      subst hj
      cases e
      simp only [DatR]
def dRng1 (t : DTA) : DTI := fun s M Q E => t s M (fun ds M1 => match ds with
  | [.int j] => (-(2 ^ 62) ≤ j ∧ j < 2 ^ 62 ∧ j.toNat ≤ sizeLine) ∧ Q (intsD 0 j.toNat) M1
  | _ => False) E
def dRng2 (t : DTA) : DTI := fun s M Q E => t s M (fun ds M1 => match ds with
  | [.int i, .int j] => ((-(2 ^ 62) ≤ i ∧ i < 2 ^ 62 ∧ -(2 ^ 62) ≤ j ∧ j < 2 ^ 62) ∧ (j - i).toNat ≤ sizeLine) ∧ Q (intsD i (j - i).toNat) M1
  | _ => False) E
theorem mono_Rng1 {t : DTA} (ha : MonoA t) : MonoI (dRng1 t) := fun s M Q Q' E E' h hx q =>
  ha s M _ _ _ _ (fun x M1 q1 => by
    match x, q1 with
    | [.int j], q1 => exact ⟨q1.1, h _ _ q1.2⟩) hx q
theorem mono_Rng2 {t : DTA} (ha : MonoA t) : MonoI (dRng2 t) := fun s M Q Q' E E' h hx q =>
  ha s M _ _ _ _ (fun x M1 q1 => by
    match x, q1 with
    | [.int i, .int j], q1 => exact ⟨q1.1, h _ _ q1.2⟩) hx q
theorem di_range1 {tg a : Expr} {t : DTA} (hg : Gl X "range") (hm : X.mg "range" = none) (ha : DA X E [a] t) (hs : starEach [a] X.env = [(false, eval a X.env)] := by rfl) : DIt X E tg (.Call (.Name "range" p) [a] [] pos) (dRng1 t) where
  run := pi_w (pi_range1 hg hm ha.run hs) fun σ H R ⟨W, s, M, rh, rs, q⟩ => by
    refine ⟨W, s, M, rh, rs, ha.mono _ _ _ _ _ _ (fun ds M1 h1 => ?_) (fun _ _ z => z) q⟩
    intro W1 vs H1 l1 rh1 d1
    match ds, h1, d1 with
    | [.int j], h1, d1 =>
      obtain ⟨v, r, rfl, e1, d2⟩ := d1.inv
      cases d2.inv0
      simp only [DatR] at e1
      subst e1
      exact ⟨j, rfl, h1.1.1, h1.1.2.1, h1.2 W1 H1 _ l1 rh1 (walks_range h1.1.2.2)⟩
  mono := mono_Rng1 ha.mono
theorem di_range2 {tg a b : Expr} {t : DTA} (hg : Gl X "range") (hm : X.mg "range" = none) (ha : DA X E [a, b] t) (hs : starEach [a, b] X.env = [(false, eval a X.env), (false, eval b X.env)] := by rfl) (hs2 : starEach [b] X.env = [(false, eval b X.env)] := by rfl) : DIt X E tg (.Call (.Name "range" p) [a, b] [] pos) (dRng2 t) where
  run := pi_w (pi_range2 hg hm ha.run hs hs2) fun σ H R ⟨W, s, M, rh, rs, q⟩ => by
    refine ⟨W, s, M, rh, rs, ha.mono _ _ _ _ _ _ (fun ds M1 h1 => ?_) (fun _ _ z => z) q⟩
    intro W1 vs H1 l1 rh1 d1
    match ds, h1, d1 with
    | [.int i, .int j], h1, d1 =>
      obtain ⟨v, r, rfl, e1, d2⟩ := d1.inv
      obtain ⟨w, r', rfl, e2, d3⟩ := d2.inv
      cases d3.inv0
      simp only [DatR] at e1 e2
      subst e1 e2
      exact ⟨i, j, rfl, h1.1.1, h1.2 W1 H1 _ l1 rh1 (walks_range h1.1.2)⟩
  mono := mono_Rng2 ha.mono
/-! ### freezing -/
theorem look_map (f : Option D → Option D) (hf : f none = none) : ∀ (s : Sl) (i : Nat), look (s.map f) i = f (look s i)
  | [], i => by simp [look, hf]
  | x :: r, 0 => by simp [look]
  | x :: r, i + 1 => by simp only [List.map_cons, look]; exact look_map f hf r i
theorem RelH.frz {K : PySem.W.Frag} {W : Wld} {M : Sto} {H : Hp} {k : Nat} {ds : List D} (r : RelH K W M H) (e : M[k]? = some (some ds)) (le : ds.length ≤ sizeLine) : ∃ a vs, W.ad[k]? = some a ∧ Wle W ⟨upd W.G a (.lst vs), W.ad, W.F⟩ ∧ RelH K ⟨upd W.G a (.lst vs), W.ad, W.F⟩ (M.set k none) H ∧ DatR K ⟨upd W.G a (.lst vs), W.ad, W.F⟩ (.lst ds) (.ref a) := by
  obtain ⟨a, vs, e1, e2, e3, e4, e5⟩ := r.own k ds e
  have hk : k < M.length := (List.getElem?_eq_some_iff.mp e).1
  have l : Wle W ⟨upd W.G a (.lst vs), W.ad, W.F⟩ := ⟨fun b u z => by
    show upd W.G a (.lst vs) b = some u
    rw [upd_ne (ne_of_none z e2)]
    exact z, List.prefix_refl _, rfl⟩
  refine ⟨a, vs, e1, l, ⟨fun b u z => ?_, by simp [r.len], r.nd, fun j es z => ?_, fun j b z zb => ?_, r.frm, fun b hb => ?_⟩, ?_⟩
  · have z : upd W.G a (.lst vs) b = some u := z
    by_cases hb : b = a
    · subst hb
      rw [upd_same] at z
      cases z
      exact e3
    · rw [upd_ne hb] at z
      exact r.sub _ _ z
  · have hj : j ≠ k := by
      rintro rfl
      rw [List.getElem?_set_self hk] at z
      cases z
    rw [List.getElem?_set_ne (Ne.symm hj)] at z
    obtain ⟨b, ws, f1, f2, f3, f4, f5⟩ := r.own j es z
    refine ⟨b, ws, f1, ?_, f3, DatL.mono l _ _ f4, f5⟩
    show upd W.G a (.lst vs) b = none
    rw [upd_ne]
    · exact f2
    · rintro rfl
      exact hj (nd_ix r.nd f1 e1)
  · show upd W.G a (.lst vs) b ≠ none
    by_cases hb : b = a
    · subst hb
      rw [upd_same]
      simp
    · rw [upd_ne hb]
      have hj : j ≠ k := by
        rintro rfl
        have zb : W.ad[j]? = some b := zb
        rw [e1] at zb
        cases zb
        exact hb rfl
      rw [List.getElem?_set_ne (Ne.symm hj)] at z
      exact r.dead j b z zb
  · show upd W.G a (.lst vs) b = none
    rw [upd_ne]
    · exact r.dis b hb
    · rintro rfl
      exact hb e5
  · simp only [DatR]
    exact ⟨a, vs, rfl, upd_same, le, DatL.mono l _ _ e4⟩
/-- a list that changed so far and doesn't any more -/
def dFrzS (i : Nat) : DTS := fun D s M => match look s i with
  | some (.own k) => (match M[k]? with
    | some (some ds) => ds.length ≤ sizeLine ∧ D.nx (frzS k ds s) (M.set k none)
    | _ => False)
  | _ => False
theorem mono_FrzS {i} : MonoS (dFrzS i) := fun D D' s M h q => by
  unfold dFrzS at q ⊢
  cases e : look s i with
  | none => simp only [e] at q
  | some d =>
    simp only [e] at q ⊢
    cases d with
    | own k =>
      dsimp only at q ⊢
      cases e2 : M[k]? with
      | none => simp only [e2] at q
      | some o =>
        cases o with
        | none => simp only [e2] at q
        | some ds =>
          simp only [e2] at q ⊢
          exact ⟨q.1, h.nx _ _ q.2⟩
    | _ => exact q
theorem frz_run {i : Nat} {D : Ends} {σ : L2.St} {H : Hp} {t : DTS} (mt : MonoS t) (h : lS X.K X.mg E (dSeq (dFrzS i) t) D σ H) : lS X.K X.mg E t D σ H := by
  obtain ⟨W, s, M, rh, rs, q⟩ := h
  unfold dSeq dFrzS at q
  dsimp only at q
  cases e : look s i with
  | none => simp only [e] at q
  | some d =>
    simp only [e] at q
    cases d with
    | own k =>
      dsimp only at q
      cases e2 : M[k]? with
      | none => simp only [e2] at q
      | some o =>
        cases o with
        | none => simp only [e2] at q
        | some ds =>
          simp only [e2] at q
          obtain ⟨a, vs, e1, l, rh2, dR⟩ := rh.frz e2 q.1
          refine ⟨_, _, _, rh2, ⟨by simp [frzS, rs.len], fun j d z => ?_⟩, mt _ _ _ _ (lD_up l) q.2⟩
          unfold frzS at z
          rw [look_map _ rfl] at z
          cases q2 : look s j with
          | none => rw [q2] at z; cases z
          | some d0 =>
            rw [q2] at z
            obtain ⟨v, f1, f2⟩ := rs.get j d0 q2
            refine ⟨v, f1, ?_⟩
            have keep : ∀ d1, frzO k ds (some d0) = some d1 → (∀ j, d0 ≠ .own j) → d1 = d0 := fun d1 z hn => by
              cases d0 <;> first | exact (Option.some.inj z).symm | exact absurd rfl (hn _)
            cases d0 with
            | own j' =>
              have z : (if j' = k then some (DL.D.lst ds) else some (DL.D.own j')) = some d := z
              by_cases hj : j' = k
              · subst hj
                rw [if_pos rfl] at z
                cases z
                simp only [DatR] at f2
                obtain ⟨b, rfl, f3⟩ := f2
                rw [e1] at f3
                cases f3
                exact dR
              · rw [if_neg hj] at z
                cases z
                exact DatR.mono l _ _ f2
            | _ =>
              rw [keep _ z (by intro j; simp)]
              exact DatR.mono l _ _ f2
    | _ => exact q.elim
theorem dss_frz (i : Nat) {sts : List Stmt} {t : DTS} (h : DSs X E sts t) : DSs X E sts (dSeq (dFrzS i) t) := ⟨pss_w h.run fun _ _ _ z => frz_run h.mono z, mono_Seq mono_FrzS h.mono⟩
end
/-! ### a def keeps its promise -/
section
variable {P : Program} {w : World} {K : PySem.W.Frag} {mg : Str → Option Value} {base : Heap} {x qual : Str} {params : Arguments} {body : List Stmt} {scope : Scope} {f : Addr} {fd : FuncData}
theorem relS_start {W : Wld} {N : List Str} {ds : List D} {vs : List V} (h : DatL K W ds vs) (hl : vs.length ≤ N.length) : RelS K W (dstart N.length ds) (start N vs) := by
  have el : (dstart N.length ds).length = (start N vs).length := by
    unfold dstart L2.start
    simp [h.len]
  refine ⟨el, fun i d e => ?_⟩
  have look_get : ∀ (s : Sl) (i : Nat) (d : D), look s i = some d → s[i]? = some (some d) := by
    intro s
    induction s with
    | nil => intro i d e; simp [look] at e
    | cons o r ih =>
      intro i d e
      cases i with
      | zero => simp [look] at e; simp [e]
      | succ j => simp only [look] at e; simpa using ih j d e
  have e := look_get _ _ _ e
  unfold dstart at e
  have hi : i < ds.length := by
    rcases Nat.lt_or_ge i ds.length with h1 | h1
    · exact h1
    · rw [List.getElem?_append_right (by simpa using h1)] at e
      rw [List.getElem?_replicate] at e
      split at e <;> cases e
  rw [List.getElem?_append_left (by simpa using hi), List.getElem?_map] at e
  cases q : ds[i]? with
  | none => rw [q] at e; cases e
  | some d0 =>
    rw [q] at e
    cases e
    obtain ⟨v, e1, e2⟩ := h.get q
    refine ⟨v, ?_, e2⟩
    unfold L2.start
    rw [List.getElem?_append_left (by simpa [h.len] using hi), List.getElem?_map, e1]
    rfl
/-- THE RULE for a def that lets nothing out -/
theorem dfn {N ps : List Str} {k : Nat} {sp : DSp} {t : DTS} (F : FunD K x qual params body scope [] [] f fd) (S : FnScope N ps scope) (len : ∀ ds M Q E, sp ds M Q E → ds.length = ps.length)
    (hbody : ∀ (cdv : Value) (A : Around) (outer : List Env) (s : Shared) (H : Hp) (E : XK), Room k (A.deeper (envOfC qual scope s.heap.objs.size f cdv)) → DSs ((cxOf CX0 P w K mg base N qual scope f cdv A outer s H E).nox) E0 body t)
    (vc : ∀ ds M Q E, sp ds M Q E → t { nx := fun _ M' => Q .non M', rt := Q, xs := E } (dstart N.length ds) M)
    (nx : ∀ ds M Q E, sp ds M Q E → sp ds M Q fun _ _ => False) : FnOk P w K mg base CX0 (k + 1) f fd ps (lSp K mg sp) := by
  refine F.ok S (fun vs H Q E h => ?_) (fun cdv A outer s H vs Q E hr h => ?_)
  · obtain ⟨W, M, ds, rh, dl, h⟩ := h
    rw [dl.len]
    exact len _ _ _ _ h
  · obtain ⟨W, M, ds, rh, dl, h⟩ := h
    have hb := hbody cdv A outer s H E hr
    refine ⟨_, PSs.nox hb.run, W, dstart N.length ds, M, rh, relS_start dl ?_, hb.mono { nx := fun _ M' => QL K W Q .non M', rt := QL K W Q, xs := fun _ _ => False } _ _ _ ⟨fun s' M' q W' σ' H' l rh' rs' => ?_, fun _ _ z => z, fun _ _ z => False.elim z, fun _ _ z => False.elim z, fun _ _ z => False.elim z⟩ (vc _ _ _ _ (nx _ _ _ _ h))⟩
    · have hp : ps.length ≤ N.length := by
        have := congrArg List.length S.pre
        rw [List.length_take] at this
        omega
      rw [dl.len, len _ _ _ _ h]
      exact hp
    · exact q W' .non H' l rh' (by simp only [DatR])
end
end DL
/-! DLFn: a def's promise where no repr is under way (guards empty), its calls, a law's end (own work). -/
namespace DL
open PySem PySem.Spec PyProof.Rows L2
/-- as the layer's promise of a def, for calls that stand in no repr -/
structure FnG (P : Program) (w : World) (K : PySem.W.Frag) (mg : Str → Option Value) (base : Heap) (CX : CXT) (k : Nat) (f : Addr) (fd : FuncData) (ps : List Str) (sp : Sp) : Prop where
  size : ∀ vs H Q E, sp vs H Q E → vs.length = ps.length
  does : ∀ (A : Around) (outer : List Env) (s : Shared) (H : Hp) (args : Args) (us : List Value) (vs : List V) (Q : VK) (E : XK),
    A.guards = some [] → Room k A → Env0 P w K mg base A outer s H → BindsTo s fd args (ps.zip us) → Vals vs us → sp vs H Q E →
      codeAny (model P w) A (.call (.ref f) args) (CR CX outer P w H s Q E) s
theorem guards_in {A : Around} {env : Env} (h : A.guards = some []) : (A.deeper env).guards = some [] := h
section
variable {X : Cx} {CX : CXT} {k n : Nat} {f : Addr} {fd : FuncData} {ps ks : List Str} {sp : Sp} {E : XK} {x : Str} {p pos : Pos} {e : Expr} {es : List Expr} {kws : List Keyword} {t tk : TA}
  {g : List Value → List Value → List Value} {gV : List V → List V → List V}
theorem FnG.end_ {pins : List (Addr × Obj)} {σ : L2.St} {H : Hp} {s s' : Shared} {Q : VK} {r : Result} (I : Inv X pins σ H s) (hx : Passes CX X E) (hq : CR CX X.stack X.prog X.w H s Q E r s') :
    callEnd (EP X pins σ Q) X.xe r s' := by
  cases r with
  | error z => exact hx pins σ H s z s' I hq
  | ok fl => cases fl with
    | ret u => exact I.after hq
    | _ => exact hq.elim
theorem FnG.call {pins : List (Addr × Obj)} {σ : L2.St} {H : Hp} {s : Shared} {Q : VK} {us : List Value} {vs : List V} (F : FnG X.prog X.w X.K X.mg X.base CX k f fd ps sp) (gd : X.A.guards = some []) (hr : Room k X.A) (hb : Binds X.K fd ps [])
    (hx : Passes CX X E) (I : Inv X pins σ H s) (r : Vals vs us) (h : sp vs H Q E) : wpAny (model X.prog X.w) X.A (PySem.call (.ref f) us) (EP X pins σ Q) X.xe s := by
  have hl : (us ++ []).length = ps.length := by
    rw [List.append_nil, ← r.length]
    exact F.size _ _ _ _ h
  have hb2 := hb s us I.kIn hl
  rw [List.append_nil] at hb2
  exact wpAny_call (codeAny_mono (F.does X.A X.stack s H ⟨us, []⟩ us vs Q E gd hr I.env0 hb2 r h) fun r s' hq => FnG.end_ I hx hq)
theorem FnG.callK {pins : List (Addr × Obj)} {σ : L2.St} {H : Hp} {s : Shared} {Q : VK} {us ws : List Value} {vs zs : List V} (F : FnG X.prog X.w X.K X.mg X.base CX k f fd ps sp) (gd : X.A.guards = some []) (hr : Room k X.A)
    (hb : KBn X.K fd ps n ks g gV) (hx : Passes CX X E) (I : Inv X pins σ H s) (r : Vals vs us) (rz : Vals zs ws) (l1 : vs.length = n) (l2 : zs.length = ks.length) (h : sp (gV vs zs) H Q E) :
    wpAny (model X.prog X.w) X.A (PySem.call (.ref f) us (ks.zip ws)) (EP X pins σ Q) X.xe s := by
  have rr := hb.rel r rz
  have lu : us.length = n := by rw [← r.length]; exact l1
  have lw : ws.length = ks.length := by rw [← rz.length]; exact l2
  exact wpAny_call (codeAny_mono (F.does X.A X.stack s H ⟨us, ks.zip ws⟩ (g us ws) (gV vs zs) Q E gd hr I.env0 (hb.to s us ws I.kIn lu lw) rr h) fun r s' hq => FnG.end_ I hx hq)
theorem pg_call (F : FnG X.prog X.w X.K X.mg X.base CX k f fd ps sp) (gd : X.A.guards = some []) (hr : Room k X.A) (hg : Gl X x) (hm : X.mg x = some (.ref f)) (hk : PySem.W.keepIn X.K (.ref f) = true) (hb : Binds X.K fd ps []) (hx : Passes CX X E)
    (ha : PA X (e :: es) t) (hdb : (x == ("__debug__" : Str)) = false) (he : starEach (e :: es) X.env = (false, eval e X.env) :: starEach es X.env) (hpl : (backTo pos (starEach es X.env)).any (·.1) = false) :
    PE X (.Call (.Name x p) (e :: es) [] pos) (fun σ H Q => t σ H fun vs H1 => sp vs H1 Q E) := by
  constructor
  intro pins s σ H Q I h
  have go : wpAny (model X.prog X.w) X.A (spliced (backTo pos (starEach (e :: es) X.env))) (fun us s1 => X.K.In s1.heap ∧ wpAny (model X.prog X.w) X.A (PySem.call (.ref f) us) (EP X pins σ Q) X.xe s1) X.xe s :=
    thn (ha.run pos pins s σ H _ I h) fun us s1 z => by
      obtain ⟨vs, H1, I1, r, q⟩ := z
      exact ⟨I1.kIn, FnG.call F gd hr hb hx I1 r q⟩
  exact wpAny_Call_Name_kw (ld_glob I hg hm (PySem.W.callWith_K (h₀ := X.base) I.ok.mod.kin hk go he hpl) hdb)
theorem pg_call0 (F : FnG X.prog X.w X.K X.mg X.base CX k f fd ps sp) (gd : X.A.guards = some []) (hr : Room k X.A) (hg : Gl X x) (hm : X.mg x = some (.ref f)) (hk : PySem.W.keepIn X.K (.ref f) = true) (hb : Binds X.K fd ps []) (hx : Passes CX X E)
    (hdb : (x == ("__debug__" : Str)) = false) : PE X (.Call (.Name x p) [] [] pos) (fun σ H Q => sp [] H Q E) := by
  constructor
  intro pins s σ H Q I h
  exact wpAny_Call_Name_kw (ld_glob I hg hm (PySem.W.callWith_K0 I.kIn hk (FnG.call (us := []) F gd hr hb hx I .nil h)) hdb)
theorem pg_callK (F : FnG X.prog X.w X.K X.mg X.base CX k f fd ps sp) (gd : X.A.guards = some []) (hr : Room k X.A) (hg : Gl X x) (hm : X.mg x = some (.ref f)) (hk : PySem.W.keepIn X.K (.ref f) = true) (hb : KBn X.K fd ps n ks g gV) (hx : Passes CX X E)
    (ha : PA X (e :: es) t) (hkw : PK X kws tk) (hall : (backToKw pos (keywordEach kws X.env)).all (·.1.isSome) = true) (hks : (backToKw pos (keywordEach kws X.env)).filterMap (·.1) = ks)
    (hdb : (x == ("__debug__" : Str)) = false) (he : starEach (e :: es) X.env = (false, eval e X.env) :: starEach es X.env)
    (hpl : ((backTo pos (starEach (e :: es) X.env)).any (·.1) || (backToKw pos (keywordEach kws X.env)).any (·.1.isNone)) = false) :
    PE X (.Call (.Name x p) (e :: es) kws pos) (tCallN n ks.length sp gV E t tk) := by
  constructor
  intro pins s σ H Q I h
  refine wpAny_Call_Name_kw (ld_glob I hg hm (PySem.W.callWith_KW (h₀ := X.base) I.ok.mod.kin hk hall (thn (ha.run pos pins s σ H _ I h) ?_) hpl he) hdb)
  intro us s1 z
  obtain ⟨vs, H1, I1, r, q⟩ := z
  refine thn (hkw.run pos pins s1 σ H1 _ I1 q) ?_
  intro ws s2 z
  obtain ⟨zs, H2, I2, rz, l1, l2, q2⟩ := z
  refine ⟨I2.kIn, ?_⟩
  rw [hks]
  exact FnG.callK F gd hr hb hx I2 r rz l1 l2 q2
theorem pg_callK0 (F : FnG X.prog X.w X.K X.mg X.base CX k f fd ps sp) (gd : X.A.guards = some []) (hr : Room k X.A) (hg : Gl X x) (hm : X.mg x = some (.ref f)) (hk : PySem.W.keepIn X.K (.ref f) = true) (hb : KBn X.K fd ps 0 ks g gV) (hx : Passes CX X E)
    (hkw : PK X kws tk) (hall : (backToKw pos (keywordEach kws X.env)).all (·.1.isSome) = true) (hks : (backToKw pos (keywordEach kws X.env)).filterMap (·.1) = ks)
    (hdb : (x == ("__debug__" : Str)) = false) (hpl : ((backTo pos (starEach [] X.env)).any (·.1) || (backToKw pos (keywordEach kws X.env)).any (·.1.isNone)) = false) :
    PE X (.Call (.Name x p) [] kws pos) (tCallN 0 ks.length sp gV E tNil tk) := by
  constructor
  intro pins s σ H Q I h
  refine wpAny_Call_Name_kw (ld_glob I hg hm (PySem.W.callWith_KW0 (h₀ := X.base) I.ok.mod.kin hk hall (thn (hkw.run pos pins s σ H _ I h) ?_) hpl) hdb)
  intro ws s2 z
  obtain ⟨zs, H2, I2, rz, l1, l2, q2⟩ := z
  refine ⟨I2.kIn, ?_⟩
  rw [hks]
  exact FnG.callK F gd hr hb hx I2 .nil rz rfl l2 q2
end
/-! ### over data -/
section
variable {X : Cx} {E : XK} {CX : CXT} {k n m : Nat} {f : Addr} {fd : FuncData} {ps ks : List Str} {sp : DSp} {x : Str} {p pos : Pos} {e : Expr} {es : List Expr} {kws : List Keyword} {t tk : DTA}
  {g : List Value → List Value → List Value} {gV : List V → List V → List V} {gD : List D → List D → List D}
theorem dg_call (F : FnG X.prog X.w X.K X.mg X.base CX k f fd ps (lSp X.K X.mg sp)) (ms : MonoSp sp) (gd : X.A.guards = some []) (hr : Room k X.A) (hg : Gl X x) (hm : X.mg x = some (.ref f)) (hk : PySem.W.keepIn X.K (.ref f) = true) (hb : Binds X.K fd ps []) (hx : Passes CX X E)
    (ha : DA X E (e :: es) t) (hdb : (x == ("__debug__" : Str)) = false := by decide) (he : starEach (e :: es) X.env = (false, eval e X.env) :: starEach es X.env := by rfl) (hpl : (backTo pos (starEach es X.env)).any (·.1) = false := by rfl) :
    DE X E (.Call (.Name x p) (e :: es) [] pos) (dCall sp t) where
  run := pe_w (pg_call F gd hr hg hm hk hb hx ha.run hdb he hpl) fun σ H Q h => by
    obtain ⟨W, s, M, rh, rs, q⟩ := h
    refine ⟨W, s, M, rh, rs, ha.mono _ _ _ _ _ _ ?_ (fun _ _ z => z) q⟩
    intro xs M1 h1 W1 vs H1 l1 rh1 d1
    exact ⟨W1, M1, xs, rh1, d1, ms _ _ _ _ _ _ (fun d M1 z => z.up l1) (fun _ _ z => z.up l1) h1⟩
  mono := mono_Call ms ha.mono
theorem dg_call0 (F : FnG X.prog X.w X.K X.mg X.base CX k f fd ps (lSp X.K X.mg sp)) (ms : MonoSp sp) (gd : X.A.guards = some []) (hr : Room k X.A) (hg : Gl X x) (hm : X.mg x = some (.ref f)) (hk : PySem.W.keepIn X.K (.ref f) = true) (hb : Binds X.K fd ps []) (hx : Passes CX X E)
    (hdb : (x == ("__debug__" : Str)) = false := by decide) : DE X E (.Call (.Name x p) [] [] pos) (dCall sp dNil) where
  run := pe_w (pg_call0 F gd hr hg hm hk hb hx hdb) fun σ H Q h => by
    obtain ⟨W, s, M, rh, rs, q⟩ := h
    exact ⟨W, M, [], rh, .nil, q⟩
  mono := mono_Call ms mono_Nil
theorem dg_callK (F : FnG X.prog X.w X.K X.mg X.base CX k f fd ps (lSp X.K X.mg sp)) (ms : MonoSp sp) (gd : X.A.guards = some []) (hr : Room k X.A) (hg : Gl X x) (hm : X.mg x = some (.ref f)) (hk : PySem.W.keepIn X.K (.ref f) = true) (hb : KBn X.K fd ps n ks g gV) (pg : Puts g gV gD) (hx : Passes CX X E)
    (ha : DA X E (e :: es) t) (hkw : DKw X E kws tk) (hl : ks.length = m := by rfl) (hall : (backToKw pos (keywordEach kws X.env)).all (·.1.isSome) = true := by rfl) (hks : (backToKw pos (keywordEach kws X.env)).filterMap (·.1) = ks := by rfl)
    (hdb : (x == ("__debug__" : Str)) = false := by decide) (he : starEach (e :: es) X.env = (false, eval e X.env) :: starEach es X.env := by rfl)
    (hpl : ((backTo pos (starEach (e :: es) X.env)).any (·.1) || (backToKw pos (keywordEach kws X.env)).any (·.1.isNone)) = false := by rfl) :
    DE X E (.Call (.Name x p) (e :: es) kws pos) (dCallK n m sp gD t tk) where
  run := by
    subst hl
    exact pe_w (pg_callK F gd hr hg hm hk hb hx ha.run hkw.run hall hks hdb he hpl) fun _ _ _ h => callN_run pg ms ha.mono hkw.mono h
  mono := mono_CallK ms ha.mono hkw.mono
theorem dg_callK0 (F : FnG X.prog X.w X.K X.mg X.base CX k f fd ps (lSp X.K X.mg sp)) (ms : MonoSp sp) (gd : X.A.guards = some []) (hr : Room k X.A) (hg : Gl X x) (hm : X.mg x = some (.ref f)) (hk : PySem.W.keepIn X.K (.ref f) = true) (hb : KBn X.K fd ps 0 ks g gV) (pg : Puts g gV gD) (hx : Passes CX X E)
    (hkw : DKw X E kws tk) (hl : ks.length = m := by rfl) (hall : (backToKw pos (keywordEach kws X.env)).all (·.1.isSome) = true := by rfl) (hks : (backToKw pos (keywordEach kws X.env)).filterMap (·.1) = ks := by rfl)
    (hdb : (x == ("__debug__" : Str)) = false := by decide)
    (hpl : ((backTo pos (starEach [] X.env)).any (·.1) || (backToKw pos (keywordEach kws X.env)).any (·.1.isNone)) = false := by rfl) :
    DE X E (.Call (.Name x p) [] kws pos) (dCallK 0 m sp gD dNil tk) where
  run := by
    subst hl
    exact pe_w (pg_callK0 F gd hr hg hm hk hb hx hkw.run hall hks hdb hpl) fun σ H Q h => by
      obtain ⟨W, s, M, rh, rs, q⟩ := callN_run (X := X) (E := E) (Q := Q) pg ms mono_Nil hkw.mono h
      exact q W [] H (Wle.refl W) rh .nil
  mono := mono_CallK ms mono_Nil hkw.mono
end
/-! ### a def keeps its promise -/
section
variable {P : Program} {w : World} {K : PySem.W.Frag} {mg : Str → Option Value} {base : Heap} {x qual : Str} {params : Arguments} {body : List Stmt} {scope : Scope} {f : Addr} {fd : FuncData}
theorem FunD.okG {CX : CXT} {dvs : List V} {kws : List (Str × V)} {N ps : List Str} {k : Nat} {sp : Sp} (F : FunD K x qual params body scope dvs kws f fd) (S : FnScope N ps scope) (len : ∀ vs H Q E, sp vs H Q E → vs.length = ps.length)
    (hbody : ∀ (cdv : Value) (A : Around) (outer : List Env) (s : Shared) (H : Hp) (vs : List V) (Q : VK) (E : XK), A.guards = some [] → Room k (A.deeper (envOfC qual scope s.heap.objs.size f cdv)) → sp vs H Q E →
      ∃ t, PSs (cxOf CX P w K mg base N qual scope f cdv A outer s H E) body t ∧ t { nx := fun _ H' => Q .non H', rt := Q } (L2.start N vs) H) : FnG P w K mg base CX (k + 1) f fd ps sp := by
  obtain ⟨oc, od, dV, kV, doc, pm, an, cdv, ct, osl, rfl, lk, hcd, _, _⟩ := F.ex
  constructor
  · exact len
  · intro A outer s H args us vs Q E gd hr e0 hb r hsp
    have keep : ∀ b o, base.get? b = some o → s.heap.get? b = some o := fun b o z => (e0.bs b o z).1
    have KX : K.In s.heap := e0.mod.kin.keeps keep
    have names : ∀ y ∈ ps.zip us, scope.names.lookup y.1 = some .local ∨ (scope.names.lookup y.1 = some .cell ∧ ((cellsFrom (s.heap.objs.size + 1) scope.names []).lookup y.1).isSome = true) := by
      intro y hy
      rcases S.par y.1 (List.of_mem_zip (show (y.1, y.2) ∈ ps.zip us from hy)).1 with q | q
      · exact Or.inl q
      · exact Or.inr ⟨q, PySem.W.cellsFrom_some _ _ _ (Or.inl q)⟩
    have enter := hb (model P w) A
    refine codeAny_call_function hr.depth (KX _ _ lk) rfl S.co S.gen rfl (PySem.W.codeRec_of KX hcd) (hb _ _ _ _ (wpAny_newFunctionEnv_cells S.kind names ?_))
    intro env he s1 x1
    subst he
    refine ⟨(e0.mod.nolimit.keeps keep).keeps x1.toInCall.keep, codeAny_func ?_⟩
    obtain ⟨t, ht, hq⟩ := hbody cdv A outer s H vs Q E gd (hr.deeper _) hsp
    have I := inv_start (CX := CX) (E := E) (cd := cdv) S hr.hd e0 (len _ _ _ _ hsp) r x1
    refine wpAny_mono (ht.run [] s1 _ H _ I hq) ?_ fun e s' z => z
    intro fl s' z
    cases fl with
    | ret u =>
      obtain ⟨v, σ', H', J, rv, q⟩ := z
      exact ⟨v, H', J.os, J.bare, J.base, J.hok, rv, q⟩
    | next =>
      obtain ⟨σ', H', J, q⟩ := z
      exact ⟨.non, H', J.os, J.bare, J.base, J.hok, rfl, q⟩
    | brk =>
      obtain ⟨_, _, _, q⟩ := z
      exact q.elim
    | cont =>
      obtain ⟨_, _, _, q⟩ := z
      exact q.elim
/-- THE RULE for a def that lets nothing out -/
theorem dfnG {N ps : List Str} {k : Nat} {sp : DSp} {t : DTS} (F : FunD K x qual params body scope [] [] f fd) (S : FnScope N ps scope) (len : ∀ ds M Q E, sp ds M Q E → ds.length = ps.length)
    (hbody : ∀ (cdv : Value) (A : Around) (outer : List Env) (s : Shared) (H : Hp) (E : XK), A.guards = some [] → Room k (A.deeper (envOfC qual scope s.heap.objs.size f cdv)) → DSs ((cxOf CX0 P w K mg base N qual scope f cdv A outer s H E).nox) E0 body t)
    (vc : ∀ ds M Q E, sp ds M Q E → t { nx := fun _ M' => Q .non M', rt := Q, xs := E } (dstart N.length ds) M)
    (nx : ∀ ds M Q E, sp ds M Q E → sp ds M Q fun _ _ => False) : FnG P w K mg base CX0 (k + 1) f fd ps (lSp K mg sp) := by
  refine FunD.okG F S (fun vs H Q E h => ?_) (fun cdv A outer s H vs Q E gd hr h => ?_)
  · obtain ⟨W, M, ds, rh, dl, h⟩ := h
    rw [dl.len]
    exact len _ _ _ _ h
  · obtain ⟨W, M, ds, rh, dl, h⟩ := h
    have hb := hbody cdv A outer s H E gd hr
    have hp : ps.length ≤ N.length := by
      have z := congrArg List.length S.pre
      rw [List.length_take] at z
      omega
    have hl : vs.length ≤ N.length := by
      rw [dl.len, len _ _ _ _ h]
      exact hp
    refine ⟨_, PSs.nox hb.run, W, dstart N.length ds, M, rh, relS_start dl hl, ?_⟩
    refine hb.mono { nx := fun _ M' => QL K W Q .non M', rt := QL K W Q, xs := fun _ _ => False } _ _ _ ?_ (vc _ _ _ _ (nx _ _ _ _ h))
    exact ⟨fun s' M' q W' σ' H' l rh' rs' => q W' .non H' l rh' (by simp only [DatR]), fun _ _ z => z, fun _ _ z => False.elim z, fun _ _ z => False.elim z, fun _ _ z => False.elim z⟩
end
/-! ### a law's end -/
theorem lawG {P : Program} {w : World} {K : PySem.W.Frag} {mg mb : Str → Option Value} {k : Nat} {fa a : Addr} {fd : FuncData} {x : Str} {sp : Sp} {s₁ : Shared} {vs : List Value} {ns : List Int}
    (KX : K.In s₁.heap) (hns : s₁.heap.Ns mainGlobals mg) (hb : s₁.heap.Ns builtinsNs mb) (hbb : ∀ x : Str, x ≠ "__name__" → mb x = bootBuiltins x) (hlim : s₁.heap.NoLimit) (hg : s₁.gens = #[])
    (ha : s₁.heap.get? a = some { cls := .type "list", data := .seq vs.toArray }) (hi : IntsAre vs ns) (hl : ns.length ≤ sizeLine) (hr : Room k callerA)
    (F : ∀ base : Heap, K.In base → base.Ns mainGlobals mg → FnG P w K mg base CX0 k fa fd [x] sp) (hbind : ∀ (s : Shared) (u : Value), BindsTo s fd ⟨[u], []⟩ [(x, u)])
    (hsp : ∀ H : Hp, SqL K H a (ns.map V.int) → sp [.ref a] H (fun v _ => v = .bl true) fun _ _ _ => False) :
    codeAny (model P w) callerA (.call (.ref fa) ⟨[.ref a], []⟩) (fun r s' => r = .ok (.ret (.bool true)) ∧ OldK s₁.heap s'.heap ∧ s'.os = s₁.os ∧ AllBare s'.gens) s₁ := by
  have rv : Vals (ns.map V.int) vs := vals_of_ints hi
  have lenV : vs.length = ns.length := by
    have z := rv.length
    rw [List.length_map] at z
    exact z.symm
  have main : ∀ H : Hp, (∀ b, H b = none ∨ ∃ o xs, H b = some (.frz o (.lst xs))) → SqL K H a (ns.map V.int) → HOk P w H s₁.heap → (∀ b, H b ≠ none → b = a) → (H a ≠ none → K.lookup a = none) →
      codeAny (model P w) callerA (.call (.ref fa) ⟨[.ref a], []⟩) (fun r s' => r = .ok (.ret (.bool true)) ∧ OldK s₁.heap s'.heap ∧ s'.os = s₁.os ∧ AllBare s'.gens) s₁ := by
    intro H only hS hok only1 hK
    have dictFree : ∀ {b : Addr} {o : Obj} {es : Array DictEntry} {ep : Nat}, s₁.heap.get? b = some o → o.data = .dict es ep → H b = none := by
      intro b o es ep e d
      cases q : H b with
      | none => rfl
      | some u =>
        exfalso
        have hb1 : b = a := only1 b (by simp [q])
        rw [hb1, ha] at e
        have e2 := Option.some.inj e
        rw [← e2] at d
        cases d
    have ns2 : ∀ {b : Addr} {m : Str → Option Value}, s₁.heap.Ns b m → (hidT s₁.heap H).Ns b m := by
      intro b m z
      obtain ⟨o, es, ep, e, d, r⟩ := z
      exact ⟨o, es, ep, hidT_get e (dictFree e d), d, r⟩
    have K2 : K.In (hidT s₁.heap H) := by
      intro b o e
      refine hidT_get (KX b o e) ?_
      cases q : H b with
      | none => rfl
      | some u =>
        exfalso
        have hb1 : b = a := only1 b (by simp [q])
        rw [hb1] at q e
        rw [hK (by simp [q])] at e
        cases e
    have md : Mod K mg (hidT s₁.heap H) := by
      obtain ⟨mc, h1, h2⟩ := hlim
      exact ⟨K2, ns2 hns, ⟨mb, ns2 hb, hbb⟩, ⟨mc, ns2 h1, h2⟩⟩
    have env : Env0 P w K mg (hidT s₁.heap H) callerA [] s₁ H := by
      refine ⟨rfl, md, fun b o e => of_hidT e, Nat.le_of_eq (hidT_size _ _), trivial, ?_, hok, .of_eq hg⟩
      intro b hb
      simp [frs] at hb
    have go := (F _ K2 (ns2 hns)).does callerA [] s₁ H ⟨[.ref a], []⟩ [.ref a] [.ref a] _ _ rfl hr env (hbind s₁ (.ref a)) (.cons rfl .nil) (hsp H hS)
    refine codeAny_mono go ?_
    intro r s' z
    cases r with
    | error e => exact z.elim
    | ok fl => cases fl with
      | ret u =>
        obtain ⟨v, H', os, bare, un, hok', r', q⟩ := z
        have q : v = .bl true := q
        rw [q] at r'
        have r' : u = Value.bool true := r'
        rw [r']
        refine ⟨rfl, OldK.of_keep ?_, os, bare⟩
        intro b o e
        rcases only b with n | ⟨ob, xs, y⟩
        · exact un.keep b o e n (by simp [frs]) (by simp)
        · have y2 := un.frzs b ob _ y
          have e1 := (hok b _ y).1
          have e2 := (hok' b _ y2).1
          rw [e] at e1
          cases e1
          exact e2
      | _ => exact z.elim
  cases hk : K.lookup a with
  | some o =>
    have e := KX a o hk
    rw [ha] at e
    have e := (Option.some.inj e).symm
    refine main (fun _ => none) (fun _ => Or.inl rfl) (Or.inr ⟨o, vs.toArray, _, hk, by rw [e], by rw [e], by rw [e], by rw [List.size_toArray, lenV]; exact hl, by simpa using rv⟩) ?_ ?_ ?_
    · intro b u z
      cases z
    · intro b z
      exact absurd rfl z
    · intro z
      exact absurd rfl z
  | none =>
    refine main (fun b => if b = a then some (.frz { cls := .type "list", data := .seq vs.toArray } (.lst (ns.map V.int))) else none) ?_ (Or.inl (Or.inr ⟨_, if_pos rfl⟩)) ?_ ?_ fun _ => hk
    · intro b
      by_cases h : b = a
      · exact Or.inr ⟨_, _, if_pos h⟩
      · exact Or.inl (if_neg h)
    · intro b u z
      dsimp only at z
      by_cases h : b = a
      · rw [if_pos h] at z
        cases z
        rw [h]
        exact ⟨ha, by rw [List.length_map]; exact hl, vs, _, rv, ha⟩
      · rw [if_neg h] at z
        cases z
    · intro b z
      by_cases h : b = a
      · exact h
      · exact absurd (if_neg h) z
theorem walkG {l : PySem.W.OpenLaw} {n k : Nat} {q : Program} {loose : List Str} {XP : (Str → Option Value) → Heap → Prop} {YP : World → Heap → Prop} {d : DefRec} {x : Str}
    (hn : l.most = some n) (hn2 : n ≤ sizeLine) (hdf : d.params.defaults = []) (hr : Room k callerA)
    (F : ∀ (w : World) (mg : Str → Option Value) (fa : Addr) (h : Heap), YP w h → h.Ns mainGlobals mg → mg d.name = some (.ref fa) →
      ∃ (K : PySem.W.Frag) (fd : FuncData) (sp : Sp), K.In h ∧ (∀ (s : Shared) (u : Value), BindsTo s fd ⟨[u], []⟩ [(x, u)]) ∧
        (∀ (H : Hp) (a : Addr) (ns : List Int), ns.length ≤ n → SqL K H a (ns.map V.int) → sp [.ref a] H (fun v _ => v = .bl true) fun _ _ _ => False) ∧
        ∀ base : Heap, K.In base → base.Ns mainGlobals mg → FnG l.prog w K mg base CX0 k fa fd [x] sp) :
    PySem.W.WalkO q loose XP YP l.row.toRowW d [] (fun f vs => PySem.call f vs) := by
  refine Att.attach_call hn hdf ?_
  intro w s₀ s₁ mg mb fa o pm cd doc a vs ns G Y ho hd hcd hmg hobj hints hlen hg
  obtain ⟨K, fd, sp, KX, hb, hsp, hF⟩ := F w mg fa _ Y G.T.g hmg
  exact lawG KX G.T.g G.T.b G.T.builtins G.T.nolimit hg hobj hints (Nat.le_trans hlen hn2) hr hF hb fun H hS => hsp H a ns hlen hS
end DL
/-! DLOps: operations on data and what the layer's rules make of them (own work). -/
namespace DL
open PySem PySem.Spec PyProof.Rows L2
/-! ### the operations -/
def fAdd : Sto → D → D → Res
  | _, .int i, .int j => .ok (.int (i + j))
  | _, .str a, .str b => .side (a.length + b.length ≤ sizeLine) (.str (a ++ b))
  | _, .tup a, .tup b => .side (a ≠ [] ∧ a.length + b.length ≤ sizeLine) (.tup (a ++ b))
  | _, .lst a, .lst b => .side (a.length + b.length ≤ sizeLine) (.lst (a ++ b))
  | _, _, _ => .no
def fSub : Sto → D → D → Res
  | _, .int i, .int j => .ok (.int (i - j))
  | _, _, _ => .no
/-- both below 2 ^ 60,000,000 -/
def sz (i : Int) : Prop := (Builtin.Int.intBits i : Int) ≤ 67108864
def fMul : Sto → D → D → Res
  | _, .int i, .int j => .side (sz i ∧ sz j) (.int (i * j))
  | _, .lst a, .int k => .side (k < 2 ^ 63 ∧ -(2 ^ 63) ≤ k ∧ a.length * k.toNat ≤ sizeLine) (.lst (List.replicate k.toNat a).flatten)
  | _, _, _ => .no
def cDiv (j : Int) : Prop := j ≠ 0 ∧ j.natAbs.log2 < 9000
def fDiv : Sto → D → D → Res
  | _, .int i, .int j => .side (cDiv j) (.int (i.fdiv j))
  | _, _, _ => .no
def fMod : Sto → D → D → Res
  | _, .int i, .int j => .side (j ≠ 0) (.int (i.fmod j))
  | _, _, _ => .no
def fPow : Sto → D → D → Res
  | _, .int i, .int j => .side (0 ≤ j ∧ j ≤ 1000000 ∧ i.natAbs < 2 ^ 64) (.int (i ^ j.toNat))
  | _, _, _ => .no
def fLt : Sto → D → D → Res
  | _, .int i, .int j => .ok (.bl (decide (i < j)))
  | _, _, _ => .no
def fLe : Sto → D → D → Res
  | _, .int i, .int j => .ok (.bl (decide (i ≤ j)))
  | _, _, _ => .no
def fGt : Sto → D → D → Res
  | _, .int i, .int j => .ok (.bl (decide (j < i)))
  | _, _, _ => .no
def fGe : Sto → D → D → Res
  | _, .int i, .int j => .ok (.bl (decide (j ≤ i)))
  | _, _, _ => .no
def fNeg : Sto → D → Res
  | _, .int i => .ok (.int (-i))
  | _, _ => .no
def fIsN : Sto → D → D → Res
  | _, .non, .non => .ok (.bl true)
  | _, _, .non => .ok (.bl false)
  | _, _, _ => .no
def fNotN : Sto → D → D → Res
  | _, .non, .non => .ok (.bl false)
  | _, _, .non => .ok (.bl true)
  | _, _, _ => .no
/-! ### data without lists that may change: as the library's data -/
mutual
def toPy : D → PyData
  | .non => .none
  | .bl b => .bool b
  | .int i => .int i
  | .str x => .str x
  | .ty _ => .none
  | .tup xs => .tuple (toPyL xs)
  | .lst xs => .list (toPyL xs)
  | .wl xs => .list (toPyL xs)
  | .emp => .none
  | .own _ => .none
def toPyL : List D → List PyData
  | [] => []
  | x :: r => toPy x :: toPyL r
end
mutual
/-- texts of written signs, no list that may change, no type, no dict -/
def plain : D → Bool
  | .non | .bl _ | .int _ => true
  | .str x => PyData.strOk x
  | .tup xs | .lst xs => plainL xs
  | _ => false
def plainL : List D → Bool
  | [] => true
  | x :: r => plain x && plainL r
end
mutual
def deqv : D → D → Bool
  | .non, .non => true
  | .bl a, .bl b => a == b
  | .bl a, .int j => (if a then 1 else 0) == j
  | .int i, .bl b => i == (if b then 1 else 0)
  | .int i, .int j => i == j
  | .str x, .str y => x == y
  | .lst xs, .lst ys => deqvL xs ys
  | .tup xs, .tup ys => deqvL xs ys
  | _, _ => false
def deqvL : List D → List D → Bool
  | [], [] => true
  | x :: xs, y :: ys => deqv x y && deqvL xs ys
  | _, _ => false
end
mutual
def deep : D → Nat
  | .tup xs | .lst xs | .wl xs => deepL xs + 1
  | _ => 0
def deepL : List D → Nat
  | [] => 0
  | x :: r => max (deep x) (deepL r)
end
/-- comparable by == -/
def shp (d : D) : Bool := plain d && decide (deep d ≤ 60)
/-- a list that may change stands for its items -/
def res (M : Sto) : D → D
  | .own k => (match M[k]? with
    | some (some ds) => .lst ds
    | _ => .own k)
  | d => d
/-- two ints, two texts, two truth values -/
def scD : D → D → Option Bool
  | .int i, .int j => some (decide (i = j))
  | .str i, .str j => some (decide (i = j))
  | .bl i, .bl j => some (decide (i = j))
  | _, _ => none
def fEq : Sto → D → D → Res := fun M x y => match scD x y with
  | some b => .ok (.bl b)
  | none => .side (shp (res M x) = true ∧ shp (res M y) = true) (.bl (deqv (res M x) (res M y)))
def fNe : Sto → D → D → Res := fun M x y => match scD x y with
  | some b => .ok (.bl (!b))
  | none => .side (shp (res M x) = true ∧ shp (res M y) = true) (.bl (!deqv (res M x) (res M y)))
theorem toPyL_eq : ∀ xs, toPyL xs = xs.map toPy
  | [] => by simp [toPyL]
  | x :: r => by simp [toPyL, toPyL_eq r]
mutual
theorem deqv_eq : ∀ a b : D, plain a = true → plain b = true → deqv a b = PyData.eqv (toPy a) (toPy b)
  | .tup xs, b, ha, hb => by
    cases b with
    | tup ys => simp only [deqv, toPy, PyData.eqv]; exact deqvL_eq xs ys (by simpa [plain] using ha) (by simpa [plain] using hb)
    | _ => first | (simp [plain] at hb; done) | simp [deqv, toPy, PyData.eqv]
  | .lst xs, b, ha, hb => by
    cases b with
    | lst ys => simp only [deqv, toPy, PyData.eqv]; exact deqvL_eq xs ys (by simpa [plain] using ha) (by simpa [plain] using hb)
    | _ => first | (simp [plain] at hb; done) | simp [deqv, toPy, PyData.eqv]
  | .non, b, ha, hb => by cases b <;> first | (simp [plain] at hb; done) | simp [deqv, toPy, PyData.eqv]
  | .bl _, b, ha, hb => by cases b <;> first | (simp [plain] at hb; done) | simp [deqv, toPy, PyData.eqv]
  | .int _, b, ha, hb => by cases b <;> first | (simp [plain] at hb; done) | simp [deqv, toPy, PyData.eqv]
  | .str _, b, ha, hb => by cases b <;> first | (simp [plain] at hb; done) | simp [deqv, toPy, PyData.eqv]
  | .ty _, b, ha, hb => by simp [plain] at ha
  | .wl _, b, ha, hb => by simp [plain] at ha
  | .emp, b, ha, hb => by simp [plain] at ha
  | .own _, b, ha, hb => by simp [plain] at ha
theorem deqvL_eq : ∀ xs ys : List D, plainL xs = true → plainL ys = true → deqvL xs ys = PyData.eqvAll (toPyL xs) (toPyL ys)
  | [], [], _, _ => by simp [deqvL, toPyL, PyData.eqvAll]
  | [], _ :: _, _, _ => by simp [deqvL, toPyL, PyData.eqvAll]
  | _ :: _, [], _, _ => by simp [deqvL, toPyL, PyData.eqvAll]
  | x :: xs, y :: ys, ha, hb => by
    simp only [plainL, Bool.and_eq_true] at ha hb
    simp only [deqvL, toPyL, PyData.eqvAll]
    rw [deqv_eq x y ha.1 hb.1, deqvL_eq xs ys ha.2 hb.2]
end
mutual
theorem depth_toPy : ∀ d, PyData.depth (toPy d) ≤ deep d
  | .tup xs => by simp only [toPy, PyData.depth, deep]; have := depth_toPyL xs; omega
  | .lst xs => by simp only [toPy, PyData.depth, deep]; have := depth_toPyL xs; omega
  | .wl xs => by simp only [toPy, PyData.depth, deep]; have := depth_toPyL xs; omega
  | .non => by simp [toPy, PyData.depth]
  | .bl _ => by simp [toPy, PyData.depth]
  | .int _ => by simp [toPy, PyData.depth]
  | .str _ => by simp [toPy, PyData.depth]
  | .ty _ => by simp [toPy, PyData.depth]
  | .emp => by simp [toPy, PyData.depth]
  | .own _ => by simp [toPy, PyData.depth]
theorem depth_toPyL : ∀ ds, PyData.depthAll (toPyL ds) ≤ deepL ds
  | [] => by simp [toPyL, PyData.depthAll]
  | x :: r => by
    simp only [toPyL, PyData.depthAll, deepL]
    have h1 := depth_toPy x
    have h2 := depth_toPyL r
    omega
end
mutual
theorem can_toPy : ∀ d, plain d = true → PyData.canLay0 (toPy d) = true
  | .tup xs, h => by simp only [toPy, PyData.canLay0]; exact can_toPyL xs (by simpa [plain] using h)
  | .lst xs, h => by simp only [toPy, PyData.canLay0]; exact can_toPyL xs (by simpa [plain] using h)
  | .wl xs, h => by simp [plain] at h
  | .non, h => by simp [toPy, PyData.canLay0]
  | .bl _, h => by simp [toPy, PyData.canLay0]
  | .int _, h => by simp [toPy, PyData.canLay0]
  | .str _, h => by simpa [toPy, PyData.canLay0, plain] using h
  | .ty _, h => by simp [plain] at h
  | .emp, h => by simp [plain] at h
  | .own _, h => by simp [plain] at h
theorem can_toPyL : ∀ ds, plainL ds = true → PyData.canLayAll0 (toPyL ds) = true
  | [], _ => by simp [toPyL, PyData.canLayAll0]
  | x :: r, h => by
    simp only [plainL, Bool.and_eq_true] at h
    simp only [toPyL, PyData.canLayAll0, can_toPy x h.1, can_toPyL r h.2, Bool.and_self]
end
theorem shaped_of {d : D} (h : shp d = true) : SeqAt.shaped (toPy d) = true := by
  unfold shp at h
  rw [Bool.and_eq_true] at h
  have h2 := of_decide_eq_true h.2
  unfold SeqAt.shaped
  rw [can_toPy d h.1, Bool.true_and]
  exact decide_eq_true (Nat.le_trans (depth_toPy d) (by omega))
section
variable {K : PySem.W.Frag} {W : Wld} {M : Sto} {H : Hp}
mutual
theorem dp_of (hs : Same W.G H) : ∀ (d : D) (v : V), plain d = true → DatR K W d v → Dp K H v (toPy d)
  | .non, v, _, h => by simp only [DatR] at h; rw [h]; exact .non
  | .bl b, v, _, h => by simp only [DatR] at h; rw [h]; exact .bl b
  | .int b, v, _, h => by simp only [DatR] at h; rw [h]; exact .int b
  | .str b, v, _, h => by simp only [DatR] at h; rw [h]; exact .str b
  | .tup xs, v, p, h => by
    simp only [DatR] at h
    obtain ⟨a, vs, rfl, h1, _, h3⟩ := h
    simp only [toPy]
    exact .tup (Same.seqT hs h1) (dpL_of hs xs vs (by simpa [plain] using p) h3)
  | .lst xs, v, p, h => by
    simp only [DatR] at h
    obtain ⟨a, vs, rfl, h1, _, h3⟩ := h
    simp only [toPy]
    exact .lst (.inl (.inl (hs _ _ h1))) (dpL_of hs xs vs (by simpa [plain] using p) h3)
  | .ty _, v, p, h => by simp [plain] at p
  | .wl _, v, p, h => by simp [plain] at p
  | .emp, v, p, h => by simp [plain] at p
  | .own _, v, p, h => by simp [plain] at p
theorem dpL_of (hs : Same W.G H) : ∀ (ds : List D) (vs : List V), plainL ds = true → DatL K W ds vs → DpAll K H vs (toPyL ds)
  | [], vs, _, h => by rw [DatL.inv0 h]; simp only [toPyL]; exact .nil
  | d :: ds, vs, p, h => by
    obtain ⟨v, r, rfl, h1, h2⟩ := DatL.inv h
    simp only [plainL, Bool.and_eq_true] at p
    simp only [toPyL]
    exact .cons (dp_of hs d v p.1 h1) (dpL_of hs ds r p.2 h2)
end
/-- a resolved thing, read in the heap -/
theorem dp_res (r : RelH K W M H) {d : D} {v : V} (p : plain (res M d) = true) (h : DatR K W d v) : Dp K H v (toPy (res M d)) := by
  cases d with
  | own k =>
    simp only [res] at p ⊢
    cases e : M[k]? with
    | none => rw [e] at p; simp [plain] at p
    | some o =>
      rw [e] at p
      cases o with
      | none => simp [plain] at p
      | some ds =>
        simp only [DatR] at h
        obtain ⟨a, rfl, ea⟩ := h
        obtain ⟨b, vs, e1, _, e3, e4, _⟩ := r.own k ds e
        rw [ea] at e1
        cases e1
        simp only [toPy]
        exact .lst (.inl (.inl e3)) (dpL_of r.sub ds vs (by simpa [plain] using p) e4)
  | _ => exact dp_of r.sub _ _ p h
end
/-! ### what the layer's rules make of them -/
section
variable {K : PySem.W.Frag}
theorem has_ok {d e : D} (h : (Res.ok e).Has d) : d = e := by
  rcases h with h | ⟨C, _, h⟩ <;> cases h
  rfl
theorem has_side {C : Prop} {d e : D} (h : (Res.side C e).Has d) : C ∧ d = e := by
  rcases h with h | ⟨C', c, h⟩ <;> cases h
  exact ⟨c, rfl⟩
theorem has_no {d : D} (h : Res.no.Has d) : False := by
  rcases h with h | ⟨C', c, h⟩ <;> cases h
theorem ql_self {W : Wld} {M : Sto} {H : Hp} {d : D} {v : V} {Q : VK} (q : QL K W Q d M) (r : RelH K W M H) (h : DatR K W d v) : Q v H := q W v H (Wle.refl W) r h
theorem dat_int {W : Wld} {i : Int} {v : V} (h : DatR K W (.int i) v) : v = .int i := by simpa only [DatR] using h
theorem dat_bl {W : Wld} {i : Bool} {v : V} (h : DatR K W (.bl i) v) : v = .bl i := by simpa only [DatR] using h
theorem dat_str {W : Wld} {i : Str} {v : V} (h : DatR K W (.str i) v) : v = .str i := by simpa only [DatR] using h
theorem dat_non {W : Wld} {v : V} (h : DatR K W .non v) : v = .non := by simpa only [DatR] using h
theorem datI {W : Wld} {i : Int} : DatR K W (.int i) (.int i) := by simp only [DatR]
theorem datB {W : Wld} {i : Bool} : DatR K W (.bl i) (.bl i) := by simp only [DatR]
theorem datS {W : Wld} {i : Str} : DatR K W (.str i) (.str i) := by simp only [DatR]
/-- a new tuple, a new list -/
theorem ql_tup {W : Wld} {M : Sto} {H : Hp} {ds : List D} {vs : List V} {Q : VK} (q : QL K W Q (.tup ds) M) (r : RelH K W M H) (h : DatL K W ds vs) (z : ds.length ≤ sizeLine) {p : Addr} (np : H p = none) : Q (.ref p) (upd H p (.tup vs)) := by
  obtain ⟨l, r2⟩ := r.add (o := .tup vs) np
  refine q _ _ _ l r2 ?_
  simp only [DatR]
  exact ⟨p, vs, rfl, .inl (.inl upd_same), z, DatL.mono l _ _ h⟩
theorem ql_lst {W : Wld} {M : Sto} {H : Hp} {ds : List D} {vs : List V} {Q : VK} (q : QL K W Q (.lst ds) M) (r : RelH K W M H) (h : DatL K W ds vs) (z : ds.length ≤ sizeLine) {p : Addr} (np : H p = none) : Q (.ref p) (upd H p (.lst vs)) := by
  obtain ⟨l, r2⟩ := r.add (o := .lst vs) np
  refine q _ _ _ l r2 ?_
  simp only [DatR]
  exact ⟨p, vs, rfl, upd_same, z, DatL.mono l _ _ h⟩
def rAdd4 (K : PySem.W.Frag) : R2 := fun x y H Q => (rI0 fun i j => .int (i + j)) x y H Q ∨ (fun x y H Q => ∃ i j, x = .str i ∧ y = .str j ∧ i.length + j.length ≤ sizeLine ∧ Q (.str (i ++ j)) H) x y H Q ∨ rCatT K x y H Q ∨ rCat x y H Q
theorem o_add {X : Cx} : OpR X (binaryOp .Add) (rAdd4 X.K) := op_add.or (op_add_str.or (op_catT.or op_cat))
theorem s_add : OpS K fAdd (rAdd4 K) := by
  intro W M H x y d vx vy Q r hx hy h q
  cases x <;> cases y <;> first | exact (has_no h).elim | skip
  · cases dat_int hx; cases dat_int hy
    have e := has_ok h
    subst e
    exact .inl ⟨_, _, rfl, rfl, ql_self q r datI⟩
  · cases dat_str hx; cases dat_str hy
    obtain ⟨c, e⟩ := has_side h
    subst e
    exact .inr (.inl ⟨_, _, rfl, rfl, c, ql_self q r datS⟩)
  · rename_i xs ys
    obtain ⟨⟨c1, c2⟩, e⟩ := has_side h
    subst e
    simp only [DatR] at hx hy
    obtain ⟨a, vs, rfl, h1, _, h3⟩ := hx
    obtain ⟨b, ws, rfl, g1, _, g3⟩ := hy
    refine .inr (.inr (.inl ⟨a, b, vs, ws, rfl, rfl, Same.seqT r.sub h1, Same.seqT r.sub g1, ?_, by rw [h3.len, g3.len]; exact c2, fun e => ?_, fun _ p np => ql_tup q r (h3.app g3) (by rw [List.length_append]; exact c2) np⟩))
    · intro e
      subst e
      cases xs with
      | nil => exact c1 rfl
      | cons _ _ => obtain ⟨_, _, e, _⟩ := h3.inv; cases e
    · subst e
      cases ys with
      | nil =>
        rw [List.append_nil] at q
        refine ql_self q r ?_
        simp only [DatR]
        exact ⟨a, vs, rfl, h1, by simpa using c2, h3⟩
      | cons _ _ => obtain ⟨_, _, e, _⟩ := g3.inv; cases e
  · rename_i xs ys
    obtain ⟨c2, e⟩ := has_side h
    subst e
    simp only [DatR] at hx hy
    obtain ⟨a, vs, rfl, h1, _, h3⟩ := hx
    obtain ⟨b, ws, rfl, g1, _, g3⟩ := hy
    exact .inr (.inr (.inr ⟨a, b, vs, ws, rfl, rfl, r.sub _ _ h1, r.sub _ _ g1, by rw [h3.len, g3.len]; exact c2, fun p np => ql_lst q r (h3.app g3) (by rw [List.length_append]; exact c2) np⟩))
theorem s_int0 {g : Int → Int → V} {gD : Int → Int → D} {f : Sto → D → D → Res} (hf : ∀ M x y d, (f M x y).Has d → ∃ i j, x = .int i ∧ y = .int j ∧ d = gD i j) (hg : ∀ W i j, DatR K W (gD i j) (g i j)) : OpS K f (rI0 g) := by
  intro W M H x y d vx vy Q r hx hy h q
  obtain ⟨i, j, rfl, rfl, rfl⟩ := hf M x y d h
  cases dat_int hx; cases dat_int hy
  exact ⟨i, j, rfl, rfl, ql_self q r (hg W i j)⟩
theorem s_intC {C : Int → Int → Prop} {g : Int → Int → V} {gD : Int → Int → D} {f : Sto → D → D → Res} (hf : ∀ M x y d, (f M x y).Has d → ∃ i j, x = .int i ∧ y = .int j ∧ C i j ∧ d = gD i j) (hg : ∀ W i j, DatR K W (gD i j) (g i j)) : OpS K f (rI C g) := by
  intro W M H x y d vx vy Q r hx hy h q
  obtain ⟨i, j, rfl, rfl, c, rfl⟩ := hf M x y d h
  cases dat_int hx; cases dat_int hy
  exact ⟨i, j, rfl, rfl, c, ql_self q r (hg W i j)⟩
theorem s_sub : OpS K fSub (rI0 fun i j => .int (i - j)) := s_int0 (gD := fun i j => .int (i - j)) (fun M x y d h => by
  cases x <;> cases y <;> first | exact (has_no h).elim | exact ⟨_, _, rfl, rfl, has_ok h⟩) fun _ _ _ => datI
theorem s_lt : OpS K fLt (rI0 fun i j => .bl (decide (i < j))) := s_int0 (gD := fun i j => .bl (decide (i < j))) (fun M x y d h => by
  cases x <;> cases y <;> first | exact (has_no h).elim | exact ⟨_, _, rfl, rfl, has_ok h⟩) fun _ _ _ => datB
theorem s_le : OpS K fLe (rI0 fun i j => .bl (decide (i ≤ j))) := s_int0 (gD := fun i j => .bl (decide (i ≤ j))) (fun M x y d h => by
  cases x <;> cases y <;> first | exact (has_no h).elim | exact ⟨_, _, rfl, rfl, has_ok h⟩) fun _ _ _ => datB
theorem s_gt : OpS K fGt (rI0 fun i j => .bl (decide (j < i))) := s_int0 (gD := fun i j => .bl (decide (j < i))) (fun M x y d h => by
  cases x <;> cases y <;> first | exact (has_no h).elim | exact ⟨_, _, rfl, rfl, has_ok h⟩) fun _ _ _ => datB
theorem s_ge : OpS K fGe (rI0 fun i j => .bl (decide (j ≤ i))) := s_int0 (gD := fun i j => .bl (decide (j ≤ i))) (fun M x y d h => by
  cases x <;> cases y <;> first | exact (has_no h).elim | exact ⟨_, _, rfl, rfl, has_ok h⟩) fun _ _ _ => datB
def rMul2 : R2 := fun x y H Q => rI CMulX (fun i j => .int (i * j)) x y H Q ∨ rRep x y H Q
theorem o_mul {X : Cx} : OpR X (binaryOp .Mult) rMul2 := op_mulX.or op_rep
theorem DatL.repeat {W : Wld} {ds : List D} {vs : List V} (h : DatL K W ds vs) : ∀ n, DatL K W (List.replicate n ds).flatten (List.replicate n vs).flatten
  | 0 => by simp only [List.replicate_zero, List.flatten_nil]; exact .nil
  | n + 1 => by
    rw [List.replicate_succ, List.replicate_succ, List.flatten_cons, List.flatten_cons]
    exact h.app (DatL.repeat h n)
theorem len_repeat {α : Type} (l : List α) : ∀ n, (List.replicate n l).flatten.length = n * l.length
  | 0 => by simp
  | n + 1 => by rw [List.replicate_succ, List.flatten_cons, List.length_append, len_repeat l n, Nat.succ_mul]; omega
theorem s_mul : OpS K fMul rMul2 := by
  intro W M H x y d vx vy Q r hx hy h q
  cases x <;> cases y <;> first | exact (has_no h).elim | skip
  · cases dat_int hx; cases dat_int hy
    obtain ⟨⟨c1, c2⟩, e⟩ := has_side h
    subst e
    refine .inl ⟨_, _, rfl, rfl, ?_, ql_self q r datI⟩
    unfold CMulX
    unfold sz at c1 c2
    omega
  · cases dat_int hy
    obtain ⟨⟨c1, c2, c3⟩, e⟩ := has_side h
    subst e
    simp only [DatR] at hx
    obtain ⟨a, vs, rfl, h1, _, h3⟩ := hx
    exact .inr ⟨a, _, vs, rfl, rfl, r.sub _ _ h1, c2, c1, by rw [h3.len]; exact c3, fun p np => ql_lst q r (h3.repeat _) (by rw [len_repeat, Nat.mul_comm]; exact c3) np⟩
theorem o_div {X : Cx} : OpR X (binaryOp .FloorDiv) (rI (fun _ j => cDiv j) fun i j => .int (i.fdiv j)) := opI fun i j t u Q E s hc q => floordiv_int hc.1 q (.inl (PyProof.noPylong_of_log2 hc.2))
theorem s_div : OpS K fDiv (rI (fun _ j => cDiv j) fun i j => .int (i.fdiv j)) := s_intC (gD := fun i j => .int (i.fdiv j)) (fun M x y d h => by
  cases x <;> cases y <;> first | exact (has_no h).elim | exact ⟨_, _, rfl, rfl, has_side h⟩) fun _ _ _ => datI
theorem s_mod : OpS K fMod (rI (fun _ j => j ≠ 0) fun i j => .int (i.fmod j)) := s_intC (gD := fun i j => .int (i.fmod j)) (fun M x y d h => by
  cases x <;> cases y <;> first | exact (has_no h).elim | exact ⟨_, _, rfl, rfl, has_side h⟩) fun _ _ _ => datI
theorem s_pow : OpS K fPow (rI CPow fun i j => .int (i ^ j.toNat)) := s_intC (gD := fun i j => .int (i ^ j.toNat)) (fun M x y d h => by
  cases x <;> cases y <;> first | exact (has_no h).elim | exact ⟨_, _, rfl, rfl, has_side h⟩) fun _ _ _ => datI
theorem s_neg : UnS K fNeg (rU fun i => .int (-i)) := by
  intro W M H x d vx Q r hx h q
  cases x <;> first | exact (has_no h).elim | skip
  cases dat_int hx
  have e := has_ok h
  subst e
  exact ⟨_, rfl, ql_self q r datI⟩
theorem sc_dec {W : Wld} {x y : D} {vx vy : V} {b : Bool} (h : scD x y = some b) (hx : DatR K W x vx) (hy : DatR K W y vy) : scal vx vy = true ∧ decide (vx = vy) = b := by
  cases x <;> cases y <;> simp only [scD] at h <;> first | (cases h; done) | skip
  · cases dat_bl hx; cases dat_bl hy; cases h
    exact ⟨rfl, decide_eq_decide.mpr ⟨fun z => by cases z; rfl, fun z => by rw [z]⟩⟩
  · cases dat_int hx; cases dat_int hy; cases h
    exact ⟨rfl, decide_eq_decide.mpr ⟨fun z => by cases z; rfl, fun z => by rw [z]⟩⟩
  · cases dat_str hx; cases dat_str hy; cases h
    exact ⟨rfl, decide_eq_decide.mpr ⟨fun z => by cases z; rfl, fun z => by rw [z]⟩⟩
def rEq2 (K : PySem.W.Frag) : R2 := fun x y H Q => rEq x y H Q ∨ rEqD K x y H Q
def rNe2 (K : PySem.W.Frag) : R2 := fun x y H Q => rNe x y H Q ∨ rNeD K x y H Q
theorem o_eq {X : Cx} (hu : X.A.units + 64 < cLine) : OpR X (compareOp .Eq) (rEq2 X.K) := op_eq.or (op_eqD hu)
theorem o_ne {X : Cx} (hu : X.A.units + 64 < cLine) : OpR X (compareOp .NotEq) (rNe2 X.K) := op_ne.or (op_neD hu)
theorem s_eq : OpS K fEq (rEq2 K) := by
  intro W M H x y d vx vy Q r hx hy h q
  unfold fEq at h
  cases sc : scD x y with
  | some b =>
    rw [sc] at h
    rw [has_ok h] at q
    obtain ⟨e1, e2⟩ := sc_dec sc hx hy
    refine .inl ⟨e1, ?_⟩
    rw [e2]
    exact ql_self q r datB
  | none =>
    rw [sc] at h
    obtain ⟨⟨c1, c2⟩, e⟩ := has_side h
    subst e
    have p1 : plain (res M x) = true := by unfold shp at c1; rw [Bool.and_eq_true] at c1; exact c1.1
    have p2 : plain (res M y) = true := by unfold shp at c2; rw [Bool.and_eq_true] at c2; exact c2.1
    refine .inr ⟨toPy (res M x), toPy (res M y), dp_res r p1 hx, dp_res r p2 hy, shaped_of c1, shaped_of c2, ?_⟩
    rw [← deqv_eq _ _ p1 p2]
    exact ql_self q r datB
theorem s_ne : OpS K fNe (rNe2 K) := by
  intro W M H x y d vx vy Q r hx hy h q
  unfold fNe at h
  cases sc : scD x y with
  | some b =>
    rw [sc] at h
    rw [has_ok h] at q
    obtain ⟨e1, e2⟩ := sc_dec sc hx hy
    refine .inl ⟨e1, ?_⟩
    rw [e2]
    exact ql_self q r datB
  | none =>
    rw [sc] at h
    obtain ⟨⟨c1, c2⟩, e⟩ := has_side h
    subst e
    have p1 : plain (res M x) = true := by unfold shp at c1; rw [Bool.and_eq_true] at c1; exact c1.1
    have p2 : plain (res M y) = true := by unfold shp at c2; rw [Bool.and_eq_true] at c2; exact c2.1
    refine .inr ⟨toPy (res M x), toPy (res M y), dp_res r p1 hx, dp_res r p2 hy, shaped_of c1, shaped_of c2, ?_⟩
    rw [← deqv_eq _ _ p1 p2]
    exact ql_self q r datB
def isNon : D → Bool
  | .non => true
  | _ => false
theorem dat_none_iff {W : Wld} {d : D} {v : V} (h : DatR K W d v) : decide (v = V.non) = isNon d := by
  cases d <;> simp only [DatR] at h
  case non => rw [h]; rfl
  case bl => rw [h]; rfl
  case int => rw [h]; rfl
  case str => rw [h]; rfl
  case ty => rw [h]; rfl
  case tup => obtain ⟨a, vs, rfl, _⟩ := h; rfl
  case lst => obtain ⟨a, vs, rfl, _⟩ := h; rfl
  case wl => obtain ⟨a, vs, rfl, _⟩ := h; rfl
  case emp => obtain ⟨a, rfl, _⟩ := h; rfl
  case own => obtain ⟨a, rfl, _⟩ := h; rfl
theorem s_isN : OpS K fIsN (fun x y H Q => y = .non ∧ Q (.bl (decide (x = .non))) H) := by
  intro W M H x y d vx vy Q r hx hy h q
  have hy2 : y = .non := by cases x <;> cases y <;> first | exact (has_no h).elim | rfl
  subst hy2
  cases dat_non hy
  refine ⟨rfl, ?_⟩
  rw [dat_none_iff hx]
  cases x <;> (have e := has_ok h; subst e; exact ql_self q r datB)
theorem s_notN : OpS K fNotN (fun x y H Q => y = .non ∧ Q (.bl (!decide (x = .non))) H) := by
  intro W M H x y d vx vy Q r hx hy h q
  have hy2 : y = .non := by cases x <;> cases y <;> first | exact (has_no h).elim | rfl
  subst hy2
  cases dat_non hy
  refine ⟨rfl, ?_⟩
  rw [dat_none_iff hx]
  cases x <;> (have e := has_ok h; subst e; exact ql_self q r datB)
end
end DL
/-! DLOps2: items, built-in functions over data (own work). -/
namespace DL
open PySem PySem.Spec PyProof.Rows L2
theorem atD_atI {α : Type} (xs : List α) (i : Int) : atD xs i = atI xs i := by
  unfold atD atI ixN
  cases i with
  | ofNat n =>
    rw [if_pos (show (0 : Int) ≤ Int.ofNat n from Int.natCast_nonneg n)]
    by_cases h : n < xs.length
    · rw [if_pos (show Int.ofNat n < (xs.length : Int) from Int.ofNat_lt.mpr h)]
      rfl
    · rw [if_neg (show ¬ Int.ofNat n < (xs.length : Int) from fun z => h (Int.ofNat_lt.mp z))]
      simp only [Option.bind_none]
      exact List.getElem?_eq_none (by omega)
  | negSucc n =>
    rw [if_neg (by omega)]
    show (if n < xs.length then xs[xs.length - (n + 1)]? else none) = _
    by_cases h : n < xs.length
    · rw [if_pos h, if_pos (by omega)]
      show _ = xs[(Int.negSucc n + (xs.length : Int)).toNat]?
      congr 1
      omega
    · rw [if_neg h, if_neg (by omega)]
      rfl
theorem atI_dat {K : PySem.W.Frag} {W : Wld} {ds : List D} {vs : List V} (h : DatL K W ds vs) {i : Int} {d : D} (e : atD ds i = some d) : ∃ v, atI vs i = some v ∧ DatR K W d v := by
  rw [atD_atI] at e
  unfold atI at e ⊢
  rw [h.len]
  cases q : ixN ds.length i with
  | none => rw [q] at e; cases e
  | some j =>
    rw [q] at e
    exact h.get e
theorem opt_has {o : Option D} {d : D} (h : (opt o).Has d) : o = some d := by
  cases o with
  | none => exact (has_no h).elim
  | some e => rw [has_ok h]
section
variable {K : PySem.W.Frag}
theorem s_ix : OpS K fIx (rIx K) := by
  intro W M H x y d vx vy Q r hx hy h q
  cases x <;> cases y <;> first | exact (has_no h).elim | skip
  case str.int z i =>
    cases dat_str hx; cases dat_int hy
    unfold fIx at h
    dsimp only at h
    cases e : atI z.cps.toList i with
    | none => rw [e] at h; exact (has_no h).elim
    | some c =>
      rw [e] at h
      obtain ⟨c1, e2⟩ := has_side h
      subst e2
      exact .inr (.inr ⟨z, i, c, rfl, rfl, c1, e, ql_self q r datS⟩)
  case tup.int xs i =>
    cases dat_int hy
    simp only [DatR] at hx
    obtain ⟨a, vs, rfl, h1, _, h3⟩ := hx
    obtain ⟨v, e1, e2⟩ := atI_dat h3 (opt_has h)
    exact .inr (.inl ⟨a, vs, i, v, rfl, rfl, Same.seqT r.sub h1, e1, ql_self q r e2⟩)
  case lst.int xs i =>
    cases dat_int hy
    simp only [DatR] at hx
    obtain ⟨a, vs, rfl, h1, _, h3⟩ := hx
    obtain ⟨v, e1, e2⟩ := atI_dat h3 (opt_has h)
    exact .inl ⟨a, vs, i, v, rfl, rfl, .inl (.inl (r.sub _ _ h1)), e1, ql_self q r e2⟩
  case wl.int xs i =>
    cases dat_int hy
    simp only [DatR] at hx
    obtain ⟨a, vs, rfl, h1, _, h3⟩ := hx
    obtain ⟨v, e1, e2⟩ := atI_dat h3 (opt_has h)
    exact .inl ⟨a, vs, i, v, rfl, rfl, Same.seq r.sub h1, e1, ql_self q r e2⟩
  case own.int k i =>
    cases dat_int hy
    unfold fIx at h
    dsimp only at h
    cases e : M[k]? with
    | none => rw [e] at h; exact (has_no h).elim
    | some o =>
      rw [e] at h
      cases o with
      | none => exact (has_no h).elim
      | some ds =>
        simp only [DatR] at hx
        obtain ⟨a, rfl, ea⟩ := hx
        obtain ⟨b, vs, f1, _, f3, f4, _⟩ := r.own k ds e
        rw [ea] at f1
        cases f1
        obtain ⟨v, e1, e2⟩ := atI_dat f4 (opt_has h)
        exact .inl ⟨a, vs, i, v, rfl, rfl, .inl (.inl f3), e1, ql_self q r e2⟩
/-! ### built-in functions -/
def fAbs : Sto → List D → Res
  | _, [.int i] => .ok (.int (if i < 0 then -i else i))
  | _, _ => .no
def fMax2 : Sto → List D → Res
  | _, [.int i, .int j] => .ok (.int (if j > i then j else i))
  | _, _ => .no
def fMin2 : Sto → List D → Res
  | _, [.int i, .int j] => .ok (.int (if j < i then j else i))
  | _, _ => .no
def fInt1 : Sto → List D → Res
  | _, [.int i] => .ok (.int i)
  | _, [.bl b] => .ok (.int (if b then 1 else 0))
  | _, _ => .no
def fGcd : Sto → List D → Res
  | _, [.int i, .int j] => .ok (.int ((Nat.gcd i.natAbs j.natAbs : Nat) : Int))
  | _, _ => .no
def fStrI : Sto → List D → Res
  | _, [.int i] => .side (i.natAbs.log2 < 1920) (.str (toString i))
  | _, _ => .no
def fDivmod : Sto → List D → Res
  | _, [.int i, .int j] => .side (cDiv j) (.tup [.int (i.fdiv j), .int (i.fmod j)])
  | _, _ => .no
def fLen : Sto → List D → Res
  | _, [.tup xs] => .ok (.int (xs.length : Nat))
  | _, [.lst xs] => .ok (.int (xs.length : Nat))
  | _, [.wl xs] => .ok (.int (xs.length : Nat))
  | M, [.own k] => (match M[k]? with
    | some (some ds) => .ok (.int (ds.length : Nat))
    | _ => .no)
  | _, [.str x] => .side (x.length ≤ sizeLine) (.int (x.length : Nat))
  | _, _ => .no
def bools : List D → Option (List Bool)
  | [] => some []
  | .bl b :: r => (bools r).map (b :: ·)
  | _ :: _ => none
def fAll : Sto → List D → Res
  | _, [.lst xs] => (match bools xs with
    | some bs => .ok (.bl (bs.all id))
    | none => .no)
  | _, _ => .no
def fAny : Sto → List D → Res
  | _, [.lst xs] => (match bools xs with
    | some bs => .ok (.bl (bs.any id))
    | none => .no)
  | _, _ => .no
theorem datL1 {W : Wld} {d : D} {vs : List V} (h : DatL K W [d] vs) : ∃ v, vs = [v] ∧ DatR K W d v := by
  obtain ⟨v, r, rfl, h1, h2⟩ := h.inv
  cases h2.inv0
  exact ⟨v, rfl, h1⟩
theorem datL2 {W : Wld} {d e : D} {vs : List V} (h : DatL K W [d, e] vs) : ∃ v w, vs = [v, w] ∧ DatR K W d v ∧ DatR K W e w := by
  obtain ⟨v, r, rfl, h1, h2⟩ := h.inv
  obtain ⟨w, rfl, h3⟩ := datL1 h2
  exact ⟨v, w, rfl, h1, h3⟩
theorem s_int1 {f : Sto → List D → Res} {C : Int → Prop} {gD : Int → D} {g : Int → V} (hf : ∀ M xs d, (f M xs).Has d → ∃ i, xs = [.int i] ∧ C i ∧ d = gD i) (hg : ∀ W i, DatR K W (gD i) (g i)) : FnS K f (fun xs H Q => ∃ i, xs = [.int i] ∧ C i ∧ Q (g i) H) := by
  intro W M H xs d vs Q rh dl hd q
  obtain ⟨i, rfl, c, rfl⟩ := hf M xs d hd
  obtain ⟨v, rfl, h1⟩ := datL1 dl
  cases dat_int h1
  exact ⟨i, rfl, c, ql_self q rh (hg W i)⟩
theorem s_int2 {f : Sto → List D → Res} {gD : Int → Int → D} {g : Int → Int → V} (hf : ∀ M xs d, (f M xs).Has d → ∃ i j, xs = [.int i, .int j] ∧ d = gD i j) (hg : ∀ W i j, DatR K W (gD i j) (g i j)) : FnS K f (fun xs H Q => ∃ i j, xs = [.int i, .int j] ∧ Q (g i j) H) := by
  intro W M H xs d vs Q rh dl hd q
  obtain ⟨i, j, rfl, rfl⟩ := hf M xs d hd
  obtain ⟨v, w, rfl, h1, h2⟩ := datL2 dl
  cases dat_int h1; cases dat_int h2
  exact ⟨i, j, rfl, ql_self q rh (hg W i j)⟩
theorem one_int {f : Sto → List D → Res} {g : Int → Res} (h1 : ∀ M i, f M [.int i] = g i) (h2 : ∀ M xs, (∀ i, xs ≠ [.int i]) → f M xs = .no) (M : Sto) (xs : List D) (d : D) (hd : (f M xs).Has d) : ∃ i, xs = [.int i] ∧ (g i).Has d := by
  by_cases c : ∃ i, xs = [.int i]
  · obtain ⟨i, rfl⟩ := c
    rw [h1] at hd
    exact ⟨i, rfl, hd⟩
  · rw [h2 M xs fun i z => c ⟨i, z⟩] at hd
    exact (has_no hd).elim
theorem two_int {f : Sto → List D → Res} {g : Int → Int → Res} (h1 : ∀ M i j, f M [.int i, .int j] = g i j) (h2 : ∀ M xs, (∀ i j, xs ≠ [.int i, .int j]) → f M xs = .no) (M : Sto) (xs : List D) (d : D) (hd : (f M xs).Has d) : ∃ i j, xs = [.int i, .int j] ∧ (g i j).Has d := by
  by_cases c : ∃ i j, xs = [.int i, .int j]
  · obtain ⟨i, j, rfl⟩ := c
    rw [h1] at hd
    exact ⟨i, j, rfl, hd⟩
  · rw [h2 M xs fun i j z => c ⟨i, j, z⟩] at hd
    exact (has_no hd).elim
theorem s_abs : FnS K fAbs (fun xs H Q => ∃ i, xs = [.int i] ∧ Q (.int (if i < 0 then -i else i)) H) := by
  intro W M H xs d vs Q rh dl hd q
  obtain ⟨i, rfl, hd⟩ := one_int (f := fAbs) (fun _ _ => rfl) (fun M xs h => by unfold fAbs; split <;> first | rfl | exact absurd rfl (h _)) M xs d hd
  obtain ⟨v, rfl, h1⟩ := datL1 dl
  cases dat_int h1
  rw [has_ok hd] at q
  exact ⟨i, rfl, ql_self q rh datI⟩
theorem s_strI : FnS K fStrI (fun xs H Q => ∃ i, xs = [.int i] ∧ i.natAbs.log2 < 1920 ∧ Q (.str (toString i)) H) := by
  intro W M H xs d vs Q rh dl hd q
  obtain ⟨i, rfl, hd⟩ := one_int (f := fStrI) (fun _ _ => rfl) (fun M xs h => by unfold fStrI; split <;> first | rfl | exact absurd rfl (h _)) M xs d hd
  obtain ⟨v, rfl, h1⟩ := datL1 dl
  cases dat_int h1
  obtain ⟨c, e⟩ := has_side hd
  rw [e] at q
  exact ⟨i, rfl, c, ql_self q rh datS⟩
theorem s_int1c : FnS K fInt1 (fun xs H Q => (∃ i, xs = [.int i] ∧ Q (.int i) H) ∨ ∃ k, xs = [.bl k] ∧ Q (.int (if k then 1 else 0)) H) := by
  intro W M H xs d vs Q rh dl hd q
  unfold fInt1 at hd
  split at hd
  · obtain ⟨v, rfl, h1⟩ := datL1 dl
    cases dat_int h1
    rw [has_ok hd] at q
    exact .inl ⟨_, rfl, ql_self q rh datI⟩
  · obtain ⟨v, rfl, h1⟩ := datL1 dl
    cases dat_bl h1
    rw [has_ok hd] at q
    exact .inr ⟨_, rfl, ql_self q rh datI⟩
  · exact (has_no hd).elim
theorem s_max2 : FnS K fMax2 (fun xs H Q => ∃ i j, xs = [.int i, .int j] ∧ Q (.int (if j > i then j else i)) H) := by
  refine s_int2 (gD := fun i j => .int (if j > i then j else i)) (fun M xs d hd => ?_) fun _ _ _ => datI
  obtain ⟨i, j, e, hd⟩ := two_int (f := fMax2) (fun _ _ _ => rfl) (fun M xs h => by unfold fMax2; split <;> first | rfl | exact absurd rfl (h _ _)) M xs d hd
  exact ⟨i, j, e, has_ok hd⟩
theorem s_min2 : FnS K fMin2 (fun xs H Q => ∃ i j, xs = [.int i, .int j] ∧ Q (.int (if j < i then j else i)) H) := by
  refine s_int2 (gD := fun i j => .int (if j < i then j else i)) (fun M xs d hd => ?_) fun _ _ _ => datI
  obtain ⟨i, j, e, hd⟩ := two_int (f := fMin2) (fun _ _ _ => rfl) (fun M xs h => by unfold fMin2; split <;> first | rfl | exact absurd rfl (h _ _)) M xs d hd
  exact ⟨i, j, e, has_ok hd⟩
theorem s_gcd : FnS K fGcd rGcd := by
  refine s_int2 (gD := fun i j => .int ((Nat.gcd i.natAbs j.natAbs : Nat) : Int)) (g := fun i j => .int ((Nat.gcd i.natAbs j.natAbs : Nat) : Int)) (fun M xs d hd => ?_) fun _ _ _ => datI
  obtain ⟨i, j, e, hd⟩ := two_int (f := fGcd) (fun _ _ _ => rfl) (fun M xs h => by unfold fGcd; split <;> first | rfl | exact absurd rfl (h _ _)) M xs d hd
  exact ⟨i, j, e, has_ok hd⟩
def rDivmod : List V → Hp → VK → Prop := fun xs H Q => ∃ i j, xs = [.int i, .int j] ∧ cDiv j ∧ ∀ p, H p = none → Q (.ref p) (upd H p (.tup [.int (i.fdiv j), .int (i.fmod j)]))
theorem c_divmod {X : Cx} : CallR X (.builtin "divmod") rDivmod := by
  intro pins s σ H xs us Q I r h
  obtain ⟨i, j, rfl, c, q⟩ := h
  obtain ⟨u, w, rfl, ⟨t, rfl⟩, ⟨t', rfl⟩⟩ := vals2 r
  refine divmod_int c.1 ?_ (.inl (PyProof.noPylong_of_log2 c.2))
  have hn : H s.heap.objs.size = none := I.hok.fresh (Nat.le_refl _)
  have ok : ObjOk X.prog X.w (upd H s.heap.objs.size (.tup [.int (i.fdiv j), .int (i.fmod j)])) (s.heap.push { cls := .type "tuple", data := .seq #[.int (i.fdiv j) s.toks, .int (i.fmod j) (s.toks + 1)] }) s.heap.objs.size (.tup [.int (i.fdiv j), .int (i.fmod j)]) := by
    refine ⟨?_, [.int (i.fdiv j) s.toks, .int (i.fmod j) (s.toks + 1)], .cons ⟨_, rfl⟩ (.cons ⟨_, rfl⟩ .nil), _, Heap.get?_push_size s.heap rfl, rfl, 0, rfl⟩
    simp only [List.length_cons, List.length_nil]
    rw [sizeLine_eq]
    decide
  exact ⟨.ref s.heap.objs.size, _, I.laid (fun b o e => Heap.get?_push_of_some _ e) (Nat.le_refl _) ok, rfl, q _ hn⟩
theorem s_divmod : FnS K fDivmod rDivmod := by
  intro W M H xs d vs Q rh dl hd q
  obtain ⟨i, j, rfl, hd⟩ := two_int (f := fDivmod) (fun _ _ _ => rfl) (fun M xs h => by unfold fDivmod; split <;> first | rfl | exact absurd rfl (h _ _)) M xs d hd
  obtain ⟨v, w, rfl, h1, h2⟩ := datL2 dl
  cases dat_int h1; cases dat_int h2
  obtain ⟨c, e⟩ := has_side hd
  rw [e] at q
  exact ⟨i, j, rfl, c, fun p np => ql_tup q rh (.cons datI (.cons datI .nil)) (by simp only [List.length_cons, List.length_nil]; rw [sizeLine_eq]; decide) np⟩
theorem s_len : FnS K fLen (fun xs H Q => ∃ x n, xs = [x] ∧ LenV K x H n ∧ Q (.int n) H) := by
  intro W M H xs d vs Q rh dl hd q
  unfold fLen at hd
  split at hd
  · obtain ⟨v, rfl, h1⟩ := datL1 dl
    simp only [DatR] at h1
    obtain ⟨a, ws, rfl, h1, _, h3⟩ := h1
    rw [has_ok hd] at q
    exact ⟨_, _, rfl, .inr ⟨ws, Same.seqT rh.sub h1, h3.len.symm⟩, ql_self q rh datI⟩
  · obtain ⟨v, rfl, h1⟩ := datL1 dl
    simp only [DatR] at h1
    obtain ⟨a, ws, rfl, h1, _, h3⟩ := h1
    rw [has_ok hd] at q
    exact ⟨_, _, rfl, .inl ⟨ws, .inl (.inl (rh.sub _ _ h1)), h3.len.symm⟩, ql_self q rh datI⟩
  · obtain ⟨v, rfl, h1⟩ := datL1 dl
    simp only [DatR] at h1
    obtain ⟨a, ws, rfl, h1, _, h3⟩ := h1
    rw [has_ok hd] at q
    exact ⟨_, _, rfl, .inl ⟨ws, Same.seq rh.sub h1, h3.len.symm⟩, ql_self q rh datI⟩
  · rename_i k
    obtain ⟨v, rfl, h1⟩ := datL1 dl
    simp only [DatR] at h1
    obtain ⟨a, rfl, ea⟩ := h1
    cases e : M[k]? with
    | none => rw [e] at hd; exact (has_no hd).elim
    | some o =>
      rw [e] at hd
      cases o with
      | none => exact (has_no hd).elim
      | some ds =>
        obtain ⟨b, ws, f1, _, f3, f4, _⟩ := rh.own k ds e
        rw [ea] at f1
        cases f1
        rw [has_ok hd] at q
        exact ⟨_, _, rfl, .inl ⟨ws, .inl (.inl f3), f4.len.symm⟩, ql_self q rh datI⟩
  · obtain ⟨v, rfl, h1⟩ := datL1 dl
    cases dat_str h1
    obtain ⟨c, e⟩ := has_side hd
    rw [e] at q
    exact ⟨_, _, rfl, ⟨c, rfl⟩, ql_self q rh datI⟩
  · exact (has_no hd).elim
theorem bools_dat {W : Wld} : ∀ {ds : List D} {vs : List V} {bs : List Bool}, bools ds = some bs → DatL K W ds vs → vs = bs.map V.bl
  | [], vs, bs, e, h => by
    simp [bools] at e
    subst e
    rw [h.inv0]
    rfl
  | d :: ds, vs, bs, e, h => by
    obtain ⟨v, r, rfl, h1, h2⟩ := h.inv
    cases d with
    | bl b =>
      simp only [bools] at e
      cases q : bools ds with
      | none => rw [q] at e; cases e
      | some cs =>
        rw [q] at e
        cases e
        rw [dat_bl h1, bools_dat q h2]
        rfl
    | _ => simp [bools] at e
theorem s_all : FnS K fAll (rAll K) := by
  intro W M H xs d vs Q rh dl hd q
  unfold fAll at hd
  split at hd
  · rename_i ds
    obtain ⟨v, rfl, h1⟩ := datL1 dl
    simp only [DatR] at h1
    obtain ⟨a, ws, rfl, h1, _, h3⟩ := h1
    cases e : bools ds with
    | none => rw [e] at hd; exact (has_no hd).elim
    | some bs =>
      rw [e] at hd
      rw [has_ok hd] at q
      have ew := bools_dat e h3
      subst ew
      exact ⟨a, bs, rfl, .inl (.inl (rh.sub _ _ h1)), ql_self q rh datB⟩
  · exact (has_no hd).elim
theorem s_any : FnS K fAny (rAny K) := by
  intro W M H xs d vs Q rh dl hd q
  unfold fAny at hd
  split at hd
  · rename_i ds
    obtain ⟨v, rfl, h1⟩ := datL1 dl
    simp only [DatR] at h1
    obtain ⟨a, ws, rfl, h1, _, h3⟩ := h1
    cases e : bools ds with
    | none => rw [e] at hd; exact (has_no hd).elim
    | some bs =>
      rw [e] at hd
      rw [has_ok hd] at q
      have ew := bools_dat e h3
      subst ew
      exact ⟨a, bs, rfl, .inl (.inl (rh.sub _ _ h1)), ql_self q rh datB⟩
  · exact (has_no hd).elim
/-! ### isinstance -/
def tyD (M : Sto) : D → Option Ty
  | .non => some .none
  | .bl _ => some .bool
  | .int _ => some .int
  | .str _ => some .str
  | .tup _ => some .tuple
  | .lst _ | .wl _ => some .list
  | .own k => (match M[k]? with
    | some (some _) => some .list
    | _ => none)
  | .emp => some .dict
  | .ty _ => none
def subT : Ty → Ty → Bool
  | .bool, .int => true
  | .int, .int => true
  | .bool, .bool => true
  | .str, .str => true
  | .list, .list => true
  | .tuple, .tuple => true
  | .dict, .dict => true
  | _, _ => false
def okT : Ty → Bool
  | .none => false
  | _ => true
def fIsi : Sto → List D → Res
  | M, [d, .ty c] => (match tyD M d with
    | some t => .side (okT c = true) (.bl (subT t c))
    | none => .no)
  | M, [d, .tup [.ty c, .ty c']] => (match tyD M d with
    | some t => .side (okT c = true ∧ okT c' = true) (.bl (subT t c || subT t c'))
    | none => .no)
  | _, _ => .no
theorem kit_sub {t c : Ty} (h : okT c = true) : kitB t.name c.name = some (subT t c) := by
  cases t <;> cases c <;> first | (simp [okT] at h; done) | decide +kernel
theorem tyx {W : Wld} {M : Sto} {H : Hp} (r : RelH K W M H) {d : D} {v : V} {t : Ty} (h : DatR K W d v) (e : tyD M d = some t) : TyX K H v (.type t.name) := by
  cases d with
  | non => cases e; rw [dat_non h]; exact .base .non
  | bl b => cases e; rw [dat_bl h]; exact .base (.bl b)
  | int b => cases e; rw [dat_int h]; exact .base (.int b)
  | str b => cases e; rw [dat_str h]; exact .base (.str b)
  | ty b => cases e
  | tup xs =>
    cases e
    simp only [DatR] at h
    obtain ⟨a, vs, rfl, h1, _⟩ := h
    rcases Same.seqT r.sub h1 with (h1 | ⟨o, h1⟩) | ⟨o, its, n, h1, h2, _⟩
    · exact .base (.tup h1)
    · exact .fTuple h1
    · exact .kTuple h1 h2
  | lst xs =>
    cases e
    simp only [DatR] at h
    obtain ⟨a, vs, rfl, h1, _⟩ := h
    exact .base (.lst (r.sub _ _ h1))
  | wl xs =>
    cases e
    simp only [DatR] at h
    obtain ⟨a, vs, rfl, h1, _⟩ := h
    rcases Same.seq r.sub h1 with (h1 | ⟨o, h1⟩) | ⟨o, its, n, h1, h2, _⟩
    · exact .base (.lst h1)
    · exact .base (.frz h1)
    · exact .kList h1 h2
  | emp =>
    cases e
    simp only [DatR] at h
    obtain ⟨a, rfl, h1⟩ := h
    exact .base (.dK (r.sub _ _ h1))
  | own k =>
    simp only [tyD] at e
    simp only [DatR] at h
    obtain ⟨a, rfl, ea⟩ := h
    cases ek : M[k]? with
    | none => rw [ek] at e; cases e
    | some o =>
      rw [ek] at e
      cases o with
      | none => cases e
      | some ds =>
        cases e
        obtain ⟨b, vs, f1, _, f3, _⟩ := r.own k ds ek
        rw [ea] at f1
        cases f1
        exact .base (.lst f3)
/-- isinstance(x, t), t any tuple of classes -/
def rIsiS (K : PySem.W.Frag) : List V → Hp → VK → Prop := fun xs H Q => ∃ (x : V) (tp : Addr) (cs : List V) (t : Value) (us : List Value) (b : Bool), xs = [x, .ref tp] ∧ SqT K H tp cs ∧ Paired ClsV cs us ∧ TyX K H x t ∧ PySem.W.kitAny K t us = some b ∧ Q (.bl b) H
theorem c_isiS {X : Cx} : CallR X (.builtin "isinstance") (rIsiS X.K) := by
  intro pins s σ H xs us Q I r h
  obtain ⟨x, tp, cs, t, ws, b, rfl, hT, kc, ty, e, q⟩ := h
  obtain ⟨u1, u2, rfl, r1, r2⟩ := vals2 r
  have r2 : u2 = Value.ref tp := r2
  subst r2
  obtain ⟨P, Z, pz, hx⟩ := kit_of I r1 ty
  obtain ⟨its, rv, ⟨o, h1, h2, n, h3⟩, _⟩ := I.tuple hT
  have e3 : its = ws := ClsV.all kc rv
  subst e3
  cases o with
  | mk oc od dt sl =>
    simp only at h2 h3
    subst h2 h3
    exact PySem.W.kia_tup Z I.kIn pz h1 e hx fun tk => ⟨.bl b, H, I.tok tk, rfl, q⟩
def rIsi2 (K : PySem.W.Frag) : List V → Hp → VK → Prop := fun xs H Q => rIsi K xs H Q ∨ rIsiS K xs H Q
theorem c_isi {X : Cx} : CallR X (.builtin "isinstance") (rIsi2 X.K) := call_isi.or c_isiS
theorem s_isi : FnS K fIsi (rIsi2 K) := by
  intro W M H xs d vs Q rh dl hd q
  unfold fIsi at hd
  split at hd
  · rename_i x c
    obtain ⟨v, w, rfl, h1, h2⟩ := datL2 dl
    simp only [DatR] at h2
    subst h2
    cases e : tyD M x with
    | none => rw [e] at hd; exact (has_no hd).elim
    | some t =>
      rw [e] at hd
      obtain ⟨c1, e2⟩ := has_side hd
      rw [e2] at q
      exact .inl ⟨v, _, _, _, _, rfl, .ty _, tyx rh h1 e, kit_ty (kit_sub c1), ql_self q rh datB⟩
  · rename_i x c c'
    obtain ⟨v, w, rfl, h1, h2⟩ := datL2 dl
    cases e : tyD M x with
    | none => rw [e] at hd; exact (has_no hd).elim
    | some t =>
      rw [e] at hd
      obtain ⟨⟨c1, c2⟩, e2⟩ := has_side hd
      rw [e2] at q
      have e3 : DatR K W (.tup [.ty c, .ty c']) w := h2
      simp only [DatR] at e3
      obtain ⟨a, ws, rfl, h3, _, h4⟩ := e3
      obtain ⟨w1, w2, rfl, h5, h6⟩ := datL2 h4
      simp only [DatR] at h5 h6
      subst h5 h6
      have kk : PySem.W.kitAny K (.type t.name) [.type c.name, .type c'.name] = some (subT t c || subT t c') := by
        refine kitAny_cons (kit_ty (kit_sub c1)) (fun z => ?_) (fun z => by rw [z]; rfl)
        refine kitAny_cons (kit_ty (kit_sub c2)) (fun z2 => by rw [z, z2]; rfl) (fun z2 => by rw [z, z2]; rfl)
      exact .inr ⟨v, a, _, _, _, _, rfl, Same.seqT rh.sub h3, .cons (.ty _) (.cons (.ty _) .nil), tyx rh h1 e, kk, ql_self q rh datB⟩
  · exact (has_no hd).elim
/-! ### repr -/
/-- what repr writes has its room -/
def shows (d : D) : Prop := PyData.showable (toPy d) = true ∧ (PyData.shown (toPy d)).length ≤ sizeLine
def textD (d : D) : Str := PyData.shown (toPy d)
def fRepr : Sto → List D → Res
  | M, [x] => .side (shp (res M x) = true ∧ shows (res M x)) (.str (textD (res M x)))
  | _, _ => .no
def rRepr (K : PySem.W.Frag) : List V → Hp → VK → Prop := fun vs H Q => ∃ v d, vs = [v] ∧ Dp K H v d ∧ d.showable = true ∧ d.shown.length ≤ sizeLine ∧ d.hasDict = false ∧ d.depth ≤ 60 ∧ Q (.str d.shown) H
theorem c_repr {X : Cx} (gd : X.A.guards = some []) (hu : X.A.units + 64 < cLine) : CallR X (.builtin "repr") (rRepr X.K) := by
  intro pins s σ H xs us Q I r h
  obtain ⟨v, d, rfl, hd, h1, h2, h3, h4, q⟩ := h
  obtain ⟨u, rfl, rv⟩ := vals1 r
  obtain ⟨as, rd⟩ := Dp.reads I d v u hd rv
  have fin : ∀ tk t', EP X pins σ Q (.str d.shown tk) { s with toks := t' } := fun tk t' => ⟨.str d.shown, H, I.tok t', ⟨tk, rfl⟩, q⟩
  cases hd with
  | non =>
    have rv : u = Value.none := rv
    subst rv
    exact P.repr_of_none (by simpa only [PyData.shown] using fin _ _)
  | bl b =>
    have rv : u = Value.bool b := rv
    subst rv
    exact P.repr_of_bool (by simpa only [PyData.shown] using fin _ _)
  | int i =>
    obtain ⟨t, rfl⟩ := rv
    exact P.repr_of_int (by simpa [PyData.showable] using h1) (by simpa only [PyData.shown] using fin _ _)
  | str x =>
    obtain ⟨t, rfl⟩ := rv
    exact P.repr_of_str (by simpa only [PyData.shown] using fin _ _) (by simpa only [PyData.shown] using h2)
  | lst ha hb =>
    have rv := rv
    cases rv
    exact repr_of_reads' rd h1 (PyData.noDict_hsm h3) gd (by omega) (fun _ _ z => z) (fun h' tk t' kp => ⟨.str _, H, I.kept kp, ⟨tk, rfl⟩, q⟩) h2
  | tup ha hb =>
    have rv := rv
    cases rv
    exact repr_of_reads' rd h1 (PyData.noDict_hsm h3) gd (by omega) (fun _ _ z => z) (fun h' tk t' kp => ⟨.str _, H, I.kept kp, ⟨tk, rfl⟩, q⟩) h2
mutual
theorem nodict : ∀ d, plain d = true → (toPy d).hasDict = false
  | .tup xs, h => by simp only [toPy, PyData.hasDict]; exact nodictL xs (by simpa [plain] using h)
  | .lst xs, h => by simp only [toPy, PyData.hasDict]; exact nodictL xs (by simpa [plain] using h)
  | .non, h => by simp [toPy, PyData.hasDict]
  | .bl _, h => by simp [toPy, PyData.hasDict]
  | .int _, h => by simp [toPy, PyData.hasDict]
  | .str _, h => by simp [toPy, PyData.hasDict]
  | .ty _, h => by simp [plain] at h
  | .wl _, h => by simp [plain] at h
  | .emp, h => by simp [plain] at h
  | .own _, h => by simp [plain] at h
theorem nodictL : ∀ ds, plainL ds = true → PyData.hasDictAll (toPyL ds) = false
  | [], _ => by simp [toPyL, PyData.hasDictAll]
  | x :: r, h => by
    simp only [plainL, Bool.and_eq_true] at h
    simp only [toPyL, PyData.hasDictAll, nodict x h.1, nodictL r h.2, Bool.or_self]
end
theorem s_repr : FnS K fRepr (rRepr K) := by
  intro W M H xs d vs Q rh dl hd q
  unfold fRepr at hd
  split at hd
  · rename_i x
    obtain ⟨v, rfl, h1⟩ := datL1 dl
    obtain ⟨⟨c1, c2⟩, e⟩ := has_side hd
    rw [e] at q
    have p1 : plain (res M x) = true := by unfold shp at c1; rw [Bool.and_eq_true] at c1; exact c1.1
    have p2 : deep (res M x) ≤ 60 := by unfold shp at c1; rw [Bool.and_eq_true] at c1; exact of_decide_eq_true c1.2
    exact ⟨v, toPy (res M x), rfl, dp_res rh p1 h1, c2.1, c2.2, nodict _ p1, Nat.le_trans (depth_toPy _) p2, ql_self q rh datS⟩
  · exact (has_no hd).elim
end
/-! ### the room of a repr -/
mutual
/-- every int in it is below 2 ^ 1900 -/
def smallD : D → Prop
  | .int i => i.natAbs < 2 ^ 1900
  | .tup xs => smallL xs
  | .lst xs => smallL xs
  | _ => True
def smallL : List D → Prop
  | [] => True
  | x :: r => smallD x ∧ smallL r
end
mutual
def costD : D → Nat
  | .int _ => 1905
  | .str x => 10 * x.length + 10
  | .tup xs => costL xs + 3
  | .lst xs => costL xs + 3
  | _ => 10
def costL : List D → Nat
  | [] => 0
  | x :: r => costD x + 2 + costL r
end
theorem log2_small {i : Int} (h : i.natAbs < 2 ^ 1900) : i.natAbs.log2 < 1900 := by
  by_cases h0 : i.natAbs = 0
  · rw [h0]
    exact (show Nat.log2 0 < 1900 by decide +kernel)
  · exact (Nat.log2_lt h0).mpr h
mutual
theorem show_len : ∀ d, plain d = true → smallD d → PyData.showable (toPy d) = true ∧ (PyData.shown (toPy d)).length ≤ costD d
  | .non, _, _ => ⟨by simp only [toPy, PyData.showable], by
    have e : (PyData.shown (toPy .non)).length = 4 := rfl
    rw [e]
    simp only [costD]
    omega⟩
  | .bl b, _, _ => ⟨by simp only [toPy, PyData.showable], by
    have e : (PyData.shown (toPy (.bl b))).length ≤ 5 := by cases b <;> decide
    simp only [costD]
    omega⟩
  | .int i, _, h => by
    simp only [smallD] at h
    have l := log2_small h
    refine ⟨by simp only [toPy, PyData.showable]; exact decide_eq_true (by omega), ?_⟩
    have e := int_text_length_le (k := 1900) (by decide) l
    simp only [toPy, PyData.shown, costD]
    rw [PySem.ofString_length]
    omega
  | .str x, p, _ => by
    refine ⟨by simp only [toPy, PyData.showable], ?_⟩
    simp only [toPy, PyData.shown, costD]
    have q : PyData.strOk x = true := by simpa [plain] using p
    have hx : ∀ c ∈ x.cps.toList, c < 16 ^ 8 := by
      intro c hc
      unfold PyData.strOk at q
      rw [Array.all_eq_true'] at q
      have z := q c (Array.mem_toList_iff.mp hc)
      have z := of_decide_eq_true z
      omega
    have e := StrLaws.reprText_len x hx
    omega
  | .tup xs, p, h => by
    have z := show_lenL xs (by simpa [plain] using p) (by simpa only [smallD] using h)
    refine ⟨by simp only [toPy, PyData.showable]; exact z.1, ?_⟩
    simp only [toPy, PyData.shown, costD]
    have e := tupleText_len_le (PyData.shownAll (toPyL xs))
    have z2 := z.2
    omega
  | .lst xs, p, h => by
    have z := show_lenL xs (by simpa [plain] using p) (by simpa only [smallD] using h)
    refine ⟨by simp only [toPy, PyData.showable]; exact z.1, ?_⟩
    simp only [toPy, PyData.shown, costD]
    have e := listText_len_le (PyData.shownAll (toPyL xs))
    have z2 := z.2
    omega
  | .ty _, p, _ => by simp [plain] at p
  | .wl _, p, _ => by simp [plain] at p
  | .emp, p, _ => by simp [plain] at p
  | .own _, p, _ => by simp [plain] at p
theorem show_lenL : ∀ ds, plainL ds = true → smallL ds → PyData.showableAll (toPyL ds) = true ∧ ((PyData.shownAll (toPyL ds)).map (·.length)).sum + 2 * (PyData.shownAll (toPyL ds)).length ≤ costL ds
  | [], _, _ => ⟨by simp only [toPyL, PyData.showableAll], by simp [toPyL, PyData.shownAll, costL]⟩
  | x :: r, p, h => by
    simp only [plainL, Bool.and_eq_true] at p
    simp only [smallL] at h
    have z1 := show_len x p.1 h.1
    have z2 := show_lenL r p.2 h.2
    refine ⟨by simp only [toPyL, PyData.showableAll, z1.1, z2.1, Bool.and_self], ?_⟩
    have e1 := z1.2
    have e2 := z2.2
    simp only [toPyL, PyData.shownAll, List.map_cons, List.sum_cons, List.length_cons, costL]
    omega
end
theorem shows_of {d : D} (p : shp d = true) (h : smallD d) (c : costD d ≤ 16000000) : shows d := by
  have q : plain d = true := by
    unfold shp at p
    rw [Bool.and_eq_true] at p
    exact p.1
  have z := show_len d q h
  refine ⟨z.1, Nat.le_trans z.2 (Nat.le_trans c ?_)⟩
  rw [sizeLine_eq]
  decide
end DL
/-! DLRules: short rules for printed derivations (own work). -/
namespace DL
open PySem PySem.Spec PyProof.Rows L2
/-- what any promise over data owes: as many values as parameters, monotone, nothing raised -/
structure SpOk (n : Nat) (sp : DSp) : Prop where
  len : ∀ ds M Q E, sp ds M Q E → ds.length = n
  ms : MonoSp sp
  nx : ∀ ds M Q E, sp ds M Q E → sp ds M Q fun _ _ => False
/-- the def's object stands in the written part -/
def DefAt (K : PySem.W.Frag) (f : Addr) (fd : FuncData) : Prop := ∃ (oc : Value) (od : Option Addr) (osl : Array (Option Value)), K.lookup f = some ⟨oc, od, .func fd, osl⟩
theorem FunD.at_ {K : PySem.W.Frag} {x qual : Str} {params : Arguments} {body : List Stmt} {scope : Scope} {dvs : List V} {kws : List (Str × V)} {f : Addr} {fd : FuncData} (F : FunD K x qual params body scope dvs kws f fd) : DefAt K f fd := by
  obtain ⟨oc, od, dV, kV, doc, pm, an, cdv, ct, osl, e, lk, _⟩ := F.ex
  exact ⟨oc, od, osl, lk⟩
theorem DefAt.same {K : PySem.W.Frag} {f : Addr} {fd fd' : FuncData} (h : DefAt K f fd) (h' : DefAt K f fd') : fd = fd' := by
  obtain ⟨_, _, _, e⟩ := h
  obtain ⟨_, _, _, e'⟩ := h'
  rw [e] at e'
  cases e'
  rfl
/-- a def that is known by its name: what it promises over data -/
structure Kn (P : Program) (w : World) (K : PySem.W.Frag) (mg : Str → Option Value) (base : Heap) (k : Nat) (x : Str) (ps : List Str) (sp : DSp) : Prop where
  ex : ∃ f fd, FnG P w K mg base CX0 k f fd ps (lSp K mg sp) ∧ mg x = some (.ref f) ∧ PySem.W.keepIn K (.ref f) = true ∧ Binds K fd ps [] ∧ DefAt K f fd
  ms : MonoSp sp
/-- .. called with n values by place and the keywords ks -/
structure KnK (P : Program) (w : World) (K : PySem.W.Frag) (mg : Str → Option Value) (base : Heap) (k : Nat) (x : Str) (n : Nat) (ks : List Str) (gD : List D → List D → List D) (sp : DSp) : Prop where
  ex : ∃ f fd ps, ∃ (g : List Value → List Value → List Value) (gV : List V → List V → List V), FnG P w K mg base CX0 k f fd ps (lSp K mg sp) ∧ mg x = some (.ref f) ∧ PySem.W.keepIn K (.ref f) = true ∧ KBn K fd ps n ks g gV ∧ Puts g gV gD
  ms : MonoSp sp
section
variable {X : Cx} {E : XK} {k n m : Nat} {x : Str} {ps ks : List Str} {sp : DSp} {p pos : Pos} {e : Expr} {es : List Expr} {kws : List Keyword} {t tk : DTA} {gD : List D → List D → List D}
theorem passN {X : Cx} : Passes CX0 X E0 := fun _ _ _ _ _ _ _ h => h.elim
theorem dk_call (F : Kn X.prog X.w X.K X.mg X.base k x ps sp) (gd : X.A.guards = some []) (hr : Room k X.A) (hg : Gl X x) (ha : DA X E0 (e :: es) t) (hdb : (x == ("__debug__" : Str)) = false := by decide)
    (he : starEach (e :: es) X.env = (false, eval e X.env) :: starEach es X.env := by rfl) (hpl : (backTo pos (starEach es X.env)).any (·.1) = false := by rfl) : DE X E0 (.Call (.Name x p) (e :: es) [] pos) (dCall sp t) := by
  obtain ⟨f, fd, F1, hm, hk, hb, _⟩ := F.ex
  exact dg_call F1 F.ms gd hr hg hm hk hb passN ha hdb he hpl
theorem dk_call0 (F : Kn X.prog X.w X.K X.mg X.base k x ps sp) (gd : X.A.guards = some []) (hr : Room k X.A) (hg : Gl X x) (hdb : (x == ("__debug__" : Str)) = false := by decide) : DE X E0 (.Call (.Name x p) [] [] pos) (dCall sp dNil) := by
  obtain ⟨f, fd, F1, hm, hk, hb, _⟩ := F.ex
  exact dg_call0 F1 F.ms gd hr hg hm hk hb passN hdb
theorem dk_callK (F : KnK X.prog X.w X.K X.mg X.base k x n ks gD sp) (gd : X.A.guards = some []) (hr : Room k X.A) (hg : Gl X x) (ha : DA X E0 (e :: es) t) (hkw : DKw X E0 kws tk)
    (hl : ks.length = m := by rfl) (hall : (backToKw pos (keywordEach kws X.env)).all (·.1.isSome) = true := by rfl) (hks : (backToKw pos (keywordEach kws X.env)).filterMap (·.1) = ks := by rfl)
    (hdb : (x == ("__debug__" : Str)) = false := by decide) (he : starEach (e :: es) X.env = (false, eval e X.env) :: starEach es X.env := by rfl)
    (hpl : ((backTo pos (starEach (e :: es) X.env)).any (·.1) || (backToKw pos (keywordEach kws X.env)).any (·.1.isNone)) = false := by rfl) : DE X E0 (.Call (.Name x p) (e :: es) kws pos) (dCallK n m sp gD t tk) := by
  obtain ⟨f, fd, ps, g, gV, F1, hm, hk, hb, pg⟩ := F.ex
  exact dg_callK F1 F.ms gd hr hg hm hk hb pg passN ha hkw hl hall hks hdb he hpl
theorem dk_callK0 (F : KnK X.prog X.w X.K X.mg X.base k x 0 ks gD sp) (gd : X.A.guards = some []) (hr : Room k X.A) (hg : Gl X x) (hkw : DKw X E0 kws tk)
    (hl : ks.length = m := by rfl) (hall : (backToKw pos (keywordEach kws X.env)).all (·.1.isSome) = true := by rfl) (hks : (backToKw pos (keywordEach kws X.env)).filterMap (·.1) = ks := by rfl)
    (hdb : (x == ("__debug__" : Str)) = false := by decide)
    (hpl : ((backTo pos (starEach [] X.env)).any (·.1) || (backToKw pos (keywordEach kws X.env)).any (·.1.isNone)) = false := by rfl) : DE X E0 (.Call (.Name x p) [] kws pos) (dCallK 0 m sp gD dNil tk) := by
  obtain ⟨f, fd, ps, g, gV, F1, hm, hk, hb, pg⟩ := F.ex
  exact dg_callK0 F1 F.ms gd hr hg hm hk hb pg passN hkw hl hall hks hdb hpl
/-- a built-in type as a value -/
theorem de_ty (c : Ty) {x : Str} (hg : Gl X x) (hm : X.mg x = none) (hv : bootBuiltins x = some (.type c.name)) (hn : x ≠ "__name__" := by decide) (hd : (x == ("__debug__" : Str)) = false := by decide) : DE X E (.Name x pos) (dC (.ty c)) :=
  de_c (pe_bltn (v := .ty c.name) hg hm hv rfl hn hd) fun W => by simp only [DatR]
/-- an empty dict -/
theorem de_emp : DE X E (.Dict [] [] pos) (dC .emp) where
  run := pe_w pe_dnewK fun σ H Q h => by
    obtain ⟨W, s, M, rh, rs, q⟩ := h
    intro p np
    obtain ⟨l, r2⟩ := rh.add (o := .dK []) np
    refine q _ _ _ l r2 ?_
    simp only [DatR]
    exact ⟨p, rfl, upd_same⟩
  mono := mono_C
/-- an iterable that is a list or a tuple -/
theorem di_seq {tg l : Expr} {ta : DTE} (h : DE X E l ta) : DIt X E tg l (dIt ta) where
  run := by
    constructor
    intro pins s σ H R I hw
    have h0 : lE X.K X.mg E ta σ H fun x H1 => ∃ a, x = .ref a ∧ ((∃ xs, SqL X.K H1 a xs) ∧ R (Itl X.K a) H1 ∨ (∃ xs, SqT X.K H1 a xs) ∧ R (Itt X.K a) H1) := by
      obtain ⟨W, sl, M, rh, rs, q⟩ := hw
      refine ⟨W, sl, M, rh, rs, h.mono _ _ _ _ _ _ ?_ (fun _ _ z => z) q⟩
      intro d M1 h1 W1 v H1 l1 rh1 d1
      cases d with
      | lst xs =>
        simp only [DatR] at d1
        obtain ⟨a, vs, rfl, e1, e2, e3⟩ := d1
        have sl : SqL X.K W1.G a vs := .inl (.inl e1)
        exact ⟨a, rfl, .inl ⟨⟨vs, Same.seq rh1.sub sl⟩, h1 W1 H1 _ l1 rh1 (walks_list sl e3 e2)⟩⟩
      | wl xs =>
        simp only [DatR] at d1
        obtain ⟨a, vs, rfl, sl, e2, e3⟩ := d1
        exact ⟨a, rfl, .inl ⟨⟨vs, Same.seq rh1.sub sl⟩, h1 W1 H1 _ l1 rh1 (walks_list sl e3 e2)⟩⟩
      | tup xs =>
        simp only [DatR] at d1
        obtain ⟨a, vs, rfl, sl, e2, e3⟩ := d1
        exact ⟨a, rfl, .inr ⟨⟨vs, Same.seqT rh1.sub sl⟩, h1 W1 H1 _ l1 rh1 (walks_tup sl e3 e2)⟩⟩
      | _ => exact h1.elim
    refine thn (h.run.run pins s σ H _ I h0) ?_
    intro v s1 z
    obtain ⟨x, H1, I1, r1, a, rfl, z⟩ := z
    have r1 : v = .ref a := r1
    subst r1
    have at0 : ∀ b ∈ [s1.heap.objs.size], FpOk X pins H1 b := by
      intro b hb
      have e : b = s1.heap.objs.size := by simpa using hb
      subst e
      exact I1.fpOk (Nat.le_refl _) (I1.hok.fresh (Nat.le_refl _))
    rcases z with ⟨⟨xs, hq⟩, q⟩ | ⟨⟨xs, hq⟩, q⟩
    · obtain ⟨its, rv, pl, hz⟩ := I1.list hq
      exact wpAny_pyIter_list pl.isList ⟨_, [s1.heap.objs.size], _, _, H1, rfl, I1.kept (t' := s1.toks) (fun b o e => Heap.get?_push_of_some _ e), turn_list a _, ⟨_, Heap.get?_push_size _ rfl, rfl, rfl⟩, at0, q⟩
    · obtain ⟨its, rv, pl, hz⟩ := I1.tuple hq
      exact wpAny_pyIter_tuple (show s1.heap.IsTuple a its.toArray from pl) ⟨_, [s1.heap.objs.size], _, _, H1, rfl, I1.kept (t' := s1.toks) (fun b o e => Heap.get?_push_of_some _ e), turn_tuple a _, ⟨_, Heap.get?_push_size _ rfl, rfl, rfl⟩, at0, q⟩
  mono := mono_It h.mono
end
/-! ### how keywords bind where nothing is left out -/
section
variable {K : PySem.W.Frag} {x qual : Str} {params : Arguments} {body : List Stmt} {scope : Scope} {kws : List (Str × V)} {f : Addr} {fd : FuncData} {ps : List Str}
theorem kbn_of (F : FunD K x qual params body scope [] kws f fd) (n : Nat) (ks : List Str) (g : List Value → List Value → List Value) (gV : List V → List V → List V)
    (hg : ∀ {vs : List V} {us : List Value} {zs : List V} {ws : List Value}, Vals vs us → Vals zs ws → Vals (gV vs zs) (g us ws))
    (h : ∀ (kV doc pm : Value) (an : Option Addr) (cdv ct : Value) (us ws : List Value), us.length = n → ws.length = ks.length → bindArgs (PySem.W.fnOf x qual params body scope .none kV doc pm an cdv ct) ⟨us, ks.zip ws⟩ = pure (ps.zip (g us ws))) : KBn K fd ps n ks g gV := by
  obtain ⟨oc, od, dV, kV, doc, pm, an, cdv, ct, osl, rfl, lk, hcd, hD, hK⟩ := F.ex
  rcases hD with ⟨_, rfl⟩ | ⟨e, _⟩
  · exact ⟨fun s us ws _ l1 l2 => .of_eq (h kV doc pm an cdv ct us ws l1 l2), hg⟩
  · exact absurd rfl e
/-- the values in the order of the places is: is[i] < n a place of the first list, else of the second -/
def order {α : Type} (n : Nat) (is : List Nat) (us ws : List α) : List α := is.filterMap fun i => if i < n then us[i]? else ws[i - n]?
theorem order_vals {n : Nat} {vs : List V} {us : List Value} {zs : List V} {ws : List Value} (r : Vals vs us) (q : Vals zs ws) : ∀ is, Vals (order n is vs zs) (order n is us ws)
  | [] => .nil
  | i :: is => by
    have ih := order_vals (n := n) r q is
    unfold order at ih ⊢
    rw [List.filterMap_cons, List.filterMap_cons]
    by_cases h : i < n
    · rw [if_pos h, if_pos h]
      cases e : vs[i]? with
      | none =>
        rw [r.none_of e]
        exact ih
      | some v =>
        obtain ⟨u, e2, rv⟩ := r.get e
        rw [e2]
        exact .cons rv ih
    · rw [if_neg h, if_neg h]
      cases e : zs[i - n]? with
      | none =>
        rw [q.none_of e]
        exact ih
      | some v =>
        obtain ⟨u, e2, rv⟩ := q.get e
        rw [e2]
        exact .cons rv ih
theorem order_dat {K : PySem.W.Frag} {W : Wld} {n : Nat} {ds es : List D} {vs ws : List V} (r : DatL K W ds vs) (q : DatL K W es ws) : ∀ is, DatL K W (order n is ds es) (order n is vs ws)
  | [] => .nil
  | i :: is => by
    have ih := order_dat (n := n) r q is
    unfold order at ih ⊢
    rw [List.filterMap_cons, List.filterMap_cons]
    by_cases h : i < n
    · rw [if_pos h, if_pos h]
      cases e : ds[i]? with
      | none =>
        rw [List.getElem?_eq_none (by rw [r.len]; exact List.getElem?_eq_none_iff.mp e)]
        exact ih
      | some v =>
        obtain ⟨u, e2, rv⟩ := r.get e
        rw [e2]
        exact .cons rv ih
    · rw [if_neg h, if_neg h]
      cases e : es[i - n]? with
      | none =>
        rw [List.getElem?_eq_none (by rw [q.len]; exact List.getElem?_eq_none_iff.mp e)]
        exact ih
      | some v =>
        obtain ⟨u, e2, rv⟩ := q.get e
        rw [e2]
        exact .cons rv ih
theorem puts_order (n : Nat) (is : List Nat) : Puts (fun us ws => order n is us ws) (fun us ws => order n is us ws) (fun us ws => order n is us ws) := ⟨fun r q => order_dat r q is⟩
end
end DL
/-! DLHead: facts of the top by names, a law's end (own work). -/
namespace DL
open PySem PySem.Spec PyProof.Rows L2
/-- what is looked at behind the top: the layer's facts and further ones -/
abbrev AlX : Type := He.AlD × Bool
def obsX (fa : List He.Fa) (fn : List He.DefD) (bx : List (PySem.W.Frag → Bool)) (K : PySem.W.Frag) : AlX := (He.obsD fa fn K, bx.all fun f => f K)
def SaysX (fa : List He.Fa) (fn : List He.DefD) (bx : List (PySem.W.Frag → Bool)) (K : PySem.W.Frag) : Prop := obsX fa fn bx K = (He.valD fn, true)
def obsXG (n : Nat) (fa : List He.Fa) (fn : List He.DefD) (bx : List (PySem.W.Frag → Bool)) (g : Addr → Option Obj) : AlX := obsX fa fn bx (He.frG g (He.asD g n))
def hookX (n : Nat) (fa : List He.Fa) (fn : List He.DefD) (bx : List (PySem.W.Frag → Bool)) : PySem.W.Hook where
  α := AlX
  obs := fun s => obsXG n fa fn bx s.heap.get?
  val := fun _ => (He.valD fn, true)
  says := fun _ h => ∃ K : PySem.W.Frag, K.In h ∧ SaysX fa fn bx K
  of := fun _ _ e => ⟨_, He.frG_in, e⟩
  keeps := fun _ _ _ z k => let ⟨K, hK, c⟩ := z; ⟨K, PySem.W.Frag.In.keeps hK k, c⟩
theorem obsXG_eq {n : Nat} {fa : List He.Fa} {fn : List He.DefD} {bx : List (PySem.W.Frag → Bool)} {g : Addr → Option Obj} {s : Shared} (h : ∀ a, g a = s.heap.get? a) : obsXG n fa fn bx g = (hookX n fa fn bx).obs s := by
  have e : g = s.heap.get? := funext h
  subst e
  rfl
section
variable {fa : List He.Fa} {fn : List He.DefD} {bx : List (PySem.W.Frag → Bool)} {K : PySem.W.Frag}
theorem SaysX.d (c : SaysX fa fn bx K) : He.SaysD fa fn K := congrArg (fun z : AlX => z.1) c
theorem SaysX.b (c : SaysX fa fn bx K) (i : Nat) {f : PySem.W.Frag → Bool} (h : bx[i]? = some f) : f K = true := by
  have e : (bx.all fun f => f K) = true := congrArg (fun z : AlX => z.2) c
  exact List.all_eq_true.mp e f (List.mem_of_getElem? h)
/-- a module's tuple -/
theorem dat_tupB {x : Str} {vs : List He.Dv} {ds : List D} {W : Wld} (h : He.tupB K x vs = true) (hl : ds.length ≤ 1000) (hd : DatL K W ds (vs.map (He.Dv.v K))) : DatR K W (.tup ds) (.ref (He.ga K x)) := by
  simp only [DatR]
  exact ⟨_, _, rfl, He.tupB_ok h W.G, Nat.le_of_lt (small1000 hl), hd⟩
end
theorem datL_ints {K : PySem.W.Frag} {W : Wld} : ∀ ns : List Int, DatL K W (ns.map D.int) (ns.map V.int)
  | [] => .nil
  | n :: r => .cons datI (datL_ints r)
/-- the law's def, over data: the script is only read -/
theorem law_end {P : Program} {w : World} {K : PySem.W.Frag} {mg : Str → Option Value} {h : Heap} {k : Nat} {x : Str} {st : Stmt} {sp : DSp} (KX : K.In h)
    (hd : ∃ fd, FunD K "law" "law" (defArgs st) (defBody st) (defScope st) [] [] (He.ga K "law") fd) (hm : mg "law" = some (.ref (He.ga K "law")))
    (F : ∀ base : Heap, Kn P w K mg base k "law" [x] sp)
    (hb : ∀ (kV doc pm : Value) (an : Option Addr) (cdv ct : Value) (us : List Value), us.length = 1 → bindArgs (PySem.W.fnOf "law" "law" (defArgs st) (defBody st) (defScope st) .none kV doc pm an cdv ct) ⟨us, []⟩ = pure ([x].zip us))
    (hs : ∀ (ns : List Int) (M : Sto) (Q : DK) (E : DXK), ns.length ≤ 63 → (∀ M', Q (.bl true) M') → sp [.wl (ns.map D.int)] M Q E) :
    ∃ (K' : PySem.W.Frag) (fd : FuncData) (sp' : Sp), K'.In h ∧ (∀ (s : Shared) (u : Value), BindsTo s fd ⟨[u], []⟩ [(x, u)]) ∧
        (∀ (H : Hp) (a : Addr) (ns : List Int), ns.length ≤ 63 → SqL K' H a (ns.map V.int) → sp' [.ref a] H (fun v _ => v = .bl true) fun _ _ _ => False) ∧
        ∀ base : Heap, K'.In base → base.Ns mainGlobals mg → FnG P w K' mg base CX0 k (He.ga K "law") fd [x] sp' := by
  obtain ⟨fd, F0⟩ := hd
  have bd := FunD.bindsA (ps := [x]) F0 hb
  refine ⟨K, fd, lSp K mg sp, KX, fun s v => bd s [v] rfl, ?_, ?_⟩
  · intro H a ns hl hS
    refine ⟨⟨H, [], fun _ => none⟩, [], [.wl (ns.map D.int)], ⟨Same.refl _, rfl, List.nodup_nil, ?_, ?_, ?_, ?_⟩, ?_, hs ns _ _ _ hl ?_⟩
    · intro j ds e
      simp at e
    · intro j a e
      simp at e
    · intro b u e
      cases e
    · intro b e
      exact absurd rfl e
    · refine .cons ?_ .nil
      simp only [DatR]
      exact ⟨a, ns.map V.int, rfl, hS, by rw [List.length_map, sizeLine_eq]; omega, datL_ints ns⟩
    · intro M' W' v H' l r d
      exact dat_bl d
  · intro base hK hN
    obtain ⟨f, fd2, G, hm2, hk2, hb2, at2⟩ := (F base).ex
    rw [hm] at hm2
    cases hm2
    cases at2.same (FunD.at_ F0)
    exact G
end DL
/-! DLEval: the readings step by step from the head: each lemma by rfl; what comes behind is named, never opened ahead of its turn (own work). -/
namespace DL
open PySem
def kR (Q : DK) (M : Sto) : D → Prop := fun d => Q d M
def kF : DX → Prop := fun _ => False
def kF2 : DXK := fun _ _ => False
def kX (E : DXK) (M : Sto) : DX → Prop := fun x => E x M
def kB2 (f : Sto → D → D → Res) (x : D) (Q : DK) : DK := fun y M2 => ap (f M2 x y) (kR Q M2) kF
def kB1 (f : Sto → D → D → Res) (tb : DTE) (s : Sl) (Q : DK) (E : DXK) : DK := fun x M1 => tb s M1 (kB2 f x Q) E
def kU (f : Sto → D → Res) (Q : DK) : DK := fun x M1 => ap (f M1 x) (kR Q M1) kF
def kC2 (x : D) (Q : List D → Sto → Prop) : List D → Sto → Prop := fun xs M2 => Q (x :: xs) M2
def kC1 (tr : DTA) (s : Sl) (Q : List D → Sto → Prop) (E : DXK) : DK := fun x M1 => tr s M1 (kC2 x Q) E
def kFn (f : Sto → List D → Res) (Q : DK) : List D → Sto → Prop := fun xs M1 => ap (f M1 xs) (kR Q M1) kF
def kTup (Q : DK) : List D → Sto → Prop := fun xs M1 => xs.length ≤ sizeLine ∧ Q (.tup xs) M1
def kLst (Q : DK) : List D → Sto → Prop := fun xs M1 => xs.length ≤ sizeLine ∧ Q (.lst xs) M1
def kLstO (Q : DK) : List D → Sto → Prop := fun xs M1 => xs.length ≤ sizeLine ∧ Q (.own M1.length) (M1 ++ [some xs])
def kCall (sp : DSp) (Q : DK) (E : DXK) : List D → Sto → Prop := fun xs M1 => sp xs M1 Q E
def kK2 (n m : Nat) (sp : DSp) (g : List D → List D → List D) (xs : List D) (Q : DK) (E : DXK) : List D → Sto → Prop := fun ys M2 => xs.length = n ∧ ys.length = m ∧ sp (g xs ys) M2 Q E
def kK1 (n m : Nat) (sp : DSp) (g : List D → List D → List D) (tk : DTA) (s : Sl) (Q : DK) (E : DXK) : List D → Sto → Prop := fun xs M1 => tk s M1 (kK2 n m sp g xs Q E) E
def kBool (Q : Bool → Sto → Prop) : DK := fun d M1 => match d with
  | .bl b => Q b M1
  | _ => False
def kAnd (u : DTT) (s : Sl) (Q : Bool → Sto → Prop) (E : DXK) : Bool → Sto → Prop := fun b M1 => if b = true then u s M1 Q E else Q false M1
def kOr (u : DTT) (s : Sl) (Q : Bool → Sto → Prop) (E : DXK) : Bool → Sto → Prop := fun b M1 => if b = true then Q true M1 else u s M1 Q E
def kNot (Q : Bool → Sto → Prop) : Bool → Sto → Prop := fun b M1 => Q (!b) M1
def kAndV (u : DTE) (s : Sl) (Q : DK) (E : DXK) : DK := fun d M1 => match d with
  | .bl b => if b = true then u s M1 Q E else Q (.bl false) M1
  | _ => False
def kOrV (u : DTE) (s : Sl) (Q : DK) (E : DXK) : DK := fun d M1 => match d with
  | .bl b => if b = true then Q (.bl true) M1 else u s M1 Q E
  | _ => False
def kNotV (Q : DK) : DK := fun d M1 => match d with
  | .bl b => Q (.bl (!b)) M1
  | _ => False
def kIfE (t u : DTE) (s : Sl) (Q : DK) (E : DXK) : Bool → Sto → Prop := fun b M1 => if b = true then t s M1 Q E else u s M1 Q E
def kCh4 (g : Sto → D → D → Res) (y : D) (Q : DK) : DK := fun z M3 => ap (g M3 y z) (kR Q M3) kF
def kCh3 (g : Sto → D → D → Res) (y : D) (tc : DTE) (s : Sl) (M2 : Sto) (Q : DK) (E : DXK) : D → Prop := fun d => match d with
  | .bl b => if b = true then tc s M2 (kCh4 g y Q) E else Q (.bl false) M2
  | _ => False
def kCh2 (f g : Sto → D → D → Res) (x : D) (tc : DTE) (s : Sl) (Q : DK) (E : DXK) : DK := fun y M2 => ap (f M2 x y) (kCh3 g y tc s M2 Q E) kF
def kCh1 (f g : Sto → D → D → Res) (tb tc : DTE) (s : Sl) (Q : DK) (E : DXK) : DK := fun x M1 => tb s M1 (kCh2 f g x tc s Q E) E
def kAsg (g : DTG) (s : Sl) (nx : Sl → Sto → Prop) : DK := fun d M1 => g d s M1 nx
def kIf (t u : DTS) (D0 : DEnd) (s : Sl) : Bool → Sto → Prop := fun b M1 => if b = true then t D0 s M1 else u D0 s M1
def kDrop (s : Sl) (nx : Sl → Sto → Prop) : DK := fun _ M1 => nx s M1
def kPar (i j : Nat) (s : Sl) (nx : Sl → Sto → Prop) : List D → Sto → Prop := fun ds M1 => match ds with
  | [x, y] => nx (put (put s i (some x)) j (some y)) M1
  | _ => False
def kFor (g : DTG) (tb : DTS) (D0 : DEnd) (s : Sl) : List D → Sto → Prop := fun xs M1 => forD g tb xs D0 s M1
def kForB (g : DTG) (tb : DTS) (r : List D) (D0 : DEnd) : Sl → Sto → Prop := fun s1 M1 => tb { D0 with nx := forD g tb r D0, ct := forD g tb r D0, bk := D0.nx } s1 M1
def kIt (Q : List D → Sto → Prop) : DK := fun d M1 => match items d with
  | some xs => Q xs M1
  | none => False
def kRng1 (Q : List D → Sto → Prop) : List D → Sto → Prop := fun ds M1 => match ds with
  | [.int j] => (-(2 ^ 62) ≤ j ∧ j < 2 ^ 62 ∧ j.toNat ≤ sizeLine) ∧ Q (intsD 0 j.toNat) M1
  | _ => False
def kRng2 (Q : List D → Sto → Prop) : List D → Sto → Prop := fun ds M1 => match ds with
  | [.int i, .int j] => ((-(2 ^ 62) ≤ i ∧ i < 2 ^ 62 ∧ -(2 ^ 62) ≤ j ∧ j < 2 ^ 62) ∧ (j - i).toNat ≤ sizeLine) ∧ Q (intsD i (j - i).toNat) M1
  | _ => False
def kComp (g : DTG) (tt : DTT) (te : DTE) (vs : List Nat) (s : Sl) (Q : DK) : List D → Sto → Prop := fun xs M1 => compD g tt te xs (wiped s vs) M1 (fun ys M2 => Q (.lst ys) M2) kF2
def kGs (gs : DTGs) (r : List D) (nx : Sl → Sto → Prop) : Sl → Sto → Prop := fun s1 M1 => gs r s1 M1 nx
def kIx2 (d : D) (s : Sl) (nx : Sl → Sto → Prop) (x : D) : DK := fun y M2 => match x, y with
  | .own k, .int i => (match M2[k]? with
    | some (some ds) => (match ixD ds.length i with
      | some j => nx s (M2.set k (some (ds.set j d)))
      | none => False)
    | _ => False)
  | _, _ => False
def kIx1 (ti : DTE) (d : D) (s : Sl) (nx : Sl → Sto → Prop) : DK := fun x M1 => ti s M1 (kIx2 d s nx x) kF2
def seqNx (u : DTS) (D0 : DEnd) : Sl → Sto → Prop := fun s M => u D0 s M
section
variable {t u : DTS} {D0 : DEnd} {s : Sl} {M M1 : Sto} {Q : DK} {QA : List D → Sto → Prop} {QB : Bool → Sto → Prop} {E : DXK} {ta tb tc : DTE} {tr tk : DTA} {c c2 : DTT} {g : DTG} {gs : DTGs} {nx : Sl → Sto → Prop} {ti : DTI}
theorem e_Seq : dSeq t u D0 s M = t ⟨seqNx u D0, D0.rt, D0.xs, D0.bk, D0.ct⟩ s M := rfl
theorem e_seqNx : seqNx u D0 s M = u D0 s M := rfl
theorem e_Next : dNext D0 s M = D0.nx s M := rfl
theorem e_Asg : dAsg ta g D0 s M = ta s M (kAsg g s D0.nx) D0.xs := rfl
theorem e_kAsg {d} : kAsg g s nx d M = g d s M nx := rfl
theorem e_Ret : dRet ta D0 s M = ta s M D0.rt D0.xs := rfl
theorem e_RetN : dRetN D0 s M = D0.rt .non M := rfl
theorem e_If : dIf c t u D0 s M = c s M (kIf t u D0 s) D0.xs := rfl
theorem e_kIfT : kIf t u D0 s true M = t D0 s M := rfl
theorem e_kIfF : kIf t u D0 s false M = u D0 s M := rfl
theorem e_kIf {b : Bool} : kIf t u D0 s b M = ((b = true → t D0 s M) ∧ (b = false → u D0 s M)) := by
  cases b
  · exact propext ⟨fun h => ⟨fun z => (by cases z), fun _ => h⟩, fun h => h.2 rfl⟩
  · exact propext ⟨fun h => ⟨fun _ => h, fun z => (by cases z)⟩, fun h => h.1 rfl⟩
theorem e_Drop : dDrop ta D0 s M = ta s M (kDrop s D0.nx) D0.xs := rfl
theorem e_kDrop {d} : kDrop s nx d M = nx s M := rfl
theorem e_Par {i j} : dPar i j tr D0 s M = tr s M (kPar i j s D0.nx) D0.xs := rfl
theorem e_kPar {i j x y} : kPar i j s nx [x, y] M = nx (put (put s i (some x)) j (some y)) M := rfl
theorem e_For : dFor ti g t D0 s M = ti s M (kFor g t D0 s) D0.xs := rfl
theorem e_kFor {xs} : kFor g t D0 s xs M = forD g t xs D0 s M := rfl
theorem e_for0 : forD g t [] D0 s M = D0.nx s M := rfl
theorem e_for1 {x r} : forD g t (x :: r) D0 s M = g x s M (kForB g t r D0) := rfl
theorem e_kForB {r} : kForB g t r D0 s M = t ⟨forD g t r D0, D0.rt, D0.xs, D0.nx, forD g t r D0⟩ s M := rfl
theorem e_C {d} : dC d s M Q E = Q d M := rfl
def kVar (Q : DK) (M : Sto) : Option D → Prop
  | some d => Q d M
  | none => False
theorem e_Var {i} : dVar i s M Q E = kVar Q M (look s i) := by
  unfold dVar kVar
  cases look s i <;> rfl
theorem e_kVar {d} : kVar Q M (some d) = Q d M := rfl
theorem e_Bin {f} : dBin f ta tb s M Q E = ta s M (kB1 f tb s Q E) E := rfl
theorem e_kB1 {f x} : kB1 f tb s Q E x M = tb s M (kB2 f x Q) E := rfl
theorem e_kB2 {f x y} : kB2 f x Q y M = ap (f M x y) (kR Q M) kF := rfl
theorem e_kR {d} : kR Q M d = Q d M := rfl
theorem e_kF {x} : kF x = False := rfl
theorem e_kF2 {x} : kF2 x M = False := rfl
theorem e_kX {x} : kX E M x = E x M := rfl
theorem e_Un {f} : dUn f ta s M Q E = ta s M (kU f Q) E := rfl
theorem e_kU {f x} : kU f Q x M = ap (f M x) (kR Q M) kF := rfl
theorem e_Nil : dNil s M QA E = QA [] M := rfl
theorem e_Cons : dCons ta tr s M QA E = ta s M (kC1 tr s QA E) E := rfl
theorem e_kC1 {x} : kC1 tr s QA E x M = tr s M (kC2 x QA) E := rfl
theorem e_kC2 {x xs} : kC2 x QA xs M = QA (x :: xs) M := rfl
theorem e_Fn {f} : dFn f tr s M Q E = tr s M (kFn f Q) E := rfl
theorem e_kFn {f xs} : kFn f Q xs M = ap (f M xs) (kR Q M) kF := rfl
theorem e_Tup : dTup tr s M Q E = tr s M (kTup Q) E := rfl
theorem e_Lst : dLst tr s M Q E = tr s M (kLst Q) E := rfl
theorem e_LstO : dLstO tr s M Q E = tr s M (kLstO Q) E := rfl
theorem small_line {n : Nat} (h : n ≤ 1000) : (n ≤ sizeLine) = True := eq_true (Nat.le_of_lt (L2.small1000 h))
theorem e_kTup {xs} : kTup Q xs M = (xs.length ≤ sizeLine ∧ Q (.tup xs) M) := rfl
theorem e_kLst {xs} : kLst Q xs M = (xs.length ≤ sizeLine ∧ Q (.lst xs) M) := rfl
theorem e_kLstO {xs} : kLstO Q xs M = (xs.length ≤ sizeLine ∧ Q (.own M.length) (M ++ [some xs])) := rfl
theorem e_Call {sp} : dCall sp tr s M Q E = tr s M (kCall sp Q E) E := rfl
theorem e_kCall {sp xs} : kCall sp Q E xs M = sp xs M Q E := rfl
theorem e_CallK {n m sp g'} : dCallK n m sp g' tr tk s M Q E = tr s M (kK1 n m sp g' tk s Q E) E := rfl
theorem e_kK1 {n m sp g' xs} : kK1 n m sp g' tk s Q E xs M = tk s M (kK2 n m sp g' xs Q E) E := rfl
theorem e_kK2 {n m sp g' xs ys} : kK2 n m sp g' xs Q E ys M = (xs.length = n ∧ ys.length = m ∧ sp (g' xs ys) M Q E) := rfl
theorem e_T : dT ta s M QB E = ta s M (kBool QB) E := rfl
theorem e_kBool {b} : kBool QB (.bl b) M = QB b M := rfl
theorem e_And : dAnd c c2 s M QB E = c s M (kAnd c2 s QB E) E := rfl
theorem e_kAndT : kAnd c2 s QB E true M = c2 s M QB E := rfl
theorem e_kAndF : kAnd c2 s QB E false M = QB false M := rfl
theorem e_kAnd {b : Bool} : kAnd c2 s QB E b M = ((b = true → c2 s M QB E) ∧ (b = false → QB false M)) := by
  cases b
  · exact propext ⟨fun h => ⟨fun z => (by cases z), fun _ => h⟩, fun h => h.2 rfl⟩
  · exact propext ⟨fun h => ⟨fun _ => h, fun z => (by cases z)⟩, fun h => h.1 rfl⟩
theorem e_Or : dOr c c2 s M QB E = c s M (kOr c2 s QB E) E := rfl
theorem e_kOrT : kOr c2 s QB E true M = QB true M := rfl
theorem e_kOrF : kOr c2 s QB E false M = c2 s M QB E := rfl
theorem e_kOr {b : Bool} : kOr c2 s QB E b M = ((b = true → QB true M) ∧ (b = false → c2 s M QB E)) := by
  cases b
  · exact propext ⟨fun h => ⟨fun z => (by cases z), fun _ => h⟩, fun h => h.2 rfl⟩
  · exact propext ⟨fun h => ⟨fun _ => h, fun z => (by cases z)⟩, fun h => h.1 rfl⟩
theorem e_Not : dNot c s M QB E = c s M (kNot QB) E := rfl
theorem e_kNot {b} : kNot QB b M = QB (!b) M := rfl
theorem e_AndV : dAndV ta tb s M Q E = ta s M (kAndV tb s Q E) E := rfl
theorem e_kAndVT : kAndV tb s Q E (.bl true) M = tb s M Q E := rfl
theorem e_kAndVF : kAndV tb s Q E (.bl false) M = Q (.bl false) M := rfl
theorem e_kAndV {b : Bool} : kAndV tb s Q E (.bl b) M = ((b = true → tb s M Q E) ∧ (b = false → Q (.bl false) M)) := by
  cases b
  · exact propext ⟨fun h => ⟨fun z => (by cases z), fun _ => h⟩, fun h => h.2 rfl⟩
  · exact propext ⟨fun h => ⟨fun _ => h, fun z => (by cases z)⟩, fun h => h.1 rfl⟩
theorem e_OrV : dOrV ta tb s M Q E = ta s M (kOrV tb s Q E) E := rfl
theorem e_kOrVT : kOrV tb s Q E (.bl true) M = Q (.bl true) M := rfl
theorem e_kOrVF : kOrV tb s Q E (.bl false) M = tb s M Q E := rfl
theorem e_kOrV {b : Bool} : kOrV tb s Q E (.bl b) M = ((b = true → Q (.bl true) M) ∧ (b = false → tb s M Q E)) := by
  cases b
  · exact propext ⟨fun h => ⟨fun z => (by cases z), fun _ => h⟩, fun h => h.2 rfl⟩
  · exact propext ⟨fun h => ⟨fun _ => h, fun z => (by cases z)⟩, fun h => h.1 rfl⟩
theorem e_NotV : dNotV ta s M Q E = ta s M (kNotV Q) E := rfl
theorem e_kNotV {b} : kNotV Q (.bl b) M = Q (.bl (!b)) M := rfl
theorem e_IfE : dIfE c ta tb s M Q E = c s M (kIfE ta tb s Q E) E := rfl
theorem e_kIfET : kIfE ta tb s Q E true M = ta s M Q E := rfl
theorem e_kIfEF : kIfE ta tb s Q E false M = tb s M Q E := rfl
theorem e_kIfE {b : Bool} : kIfE ta tb s Q E b M = ((b = true → ta s M Q E) ∧ (b = false → tb s M Q E)) := by
  cases b
  · exact propext ⟨fun h => ⟨fun z => (by cases z), fun _ => h⟩, fun h => h.2 rfl⟩
  · exact propext ⟨fun h => ⟨fun _ => h, fun z => (by cases z)⟩, fun h => h.1 rfl⟩
theorem e_Chain {f g'} : dChain f g' ta tb tc s M Q E = ta s M (kCh1 f g' tb tc s Q E) E := rfl
theorem e_kCh1 {f g' x} : kCh1 f g' tb tc s Q E x M = tb s M (kCh2 f g' x tc s Q E) E := rfl
theorem e_kCh2 {f g' x y} : kCh2 f g' x tc s Q E y M = ap (f M x y) (kCh3 g' y tc s M Q E) kF := rfl
theorem e_kCh3T {g' y} : kCh3 g' y tc s M Q E (.bl true) = tc s M (kCh4 g' y Q) E := rfl
theorem e_kCh3F {g' y} : kCh3 g' y tc s M Q E (.bl false) = Q (.bl false) M := rfl
theorem e_kCh3 {g' y} {b : Bool} : kCh3 g' y tc s M Q E (.bl b) = ((b = true → tc s M (kCh4 g' y Q) E) ∧ (b = false → Q (.bl false) M)) := by
  cases b
  · exact propext ⟨fun h => ⟨fun z => (by cases z), fun _ => h⟩, fun h => h.2 rfl⟩
  · exact propext ⟨fun h => ⟨fun _ => h, fun z => (by cases z)⟩, fun h => h.1 rfl⟩
theorem e_kCh4 {g' y z} : kCh4 g' y Q z M = ap (g' M y z) (kR Q M) kF := rfl
theorem e_gN {i d} : gN i d s M nx = nx (put s i (some d)) M := rfl
theorem e_gT {n xs} : gT n gs (.tup xs) s M nx = (xs.length = n ∧ gs xs s M nx) := rfl
theorem e_gsNil : gsNil [] s M nx = nx s M := rfl
theorem e_gsCons {d r} : gsCons g gs (d :: r) s M nx = g d s M (kGs gs r nx) := rfl
theorem e_kGs {r} : kGs gs r nx s M = gs r s M nx := rfl
theorem e_gIx {d} : gIx ta tb d s M nx = ta s M (kIx1 tb d s nx) kF2 := rfl
theorem e_kIx1 {d x} : kIx1 tb d s nx x M = tb s M (kIx2 d s nx x) kF2 := rfl
def kIx3 (d : D) (s : Sl) (nx : Sl → Sto → Prop) (k : Nat) (i : Int) (M2 : Sto) : Option (Option (List D)) → Prop
  | some (some ds) => (match ixD ds.length i with
      | some j => nx s (M2.set k (some (ds.set j d)))
      | none => False)
  | _ => False
theorem e_kIx2 {d k i} : kIx2 d s nx (.own k) (.int i) M = kIx3 d s nx k i M (M[k]?) := by
  unfold kIx2 kIx3
  rfl
theorem e_It : dIt ta s M QA E = ta s M (kIt QA) E := rfl
theorem e_kItT {xs} : kIt QA (.tup xs) M = QA xs M := rfl
theorem e_kItL {xs} : kIt QA (.lst xs) M = QA xs M := rfl
theorem e_kItW {xs} : kIt QA (.wl xs) M = QA xs M := rfl
theorem e_Rng1 : dRng1 tr s M QA E = tr s M (kRng1 QA) E := rfl
theorem e_kRng1 {j} : kRng1 QA [.int j] M = ((-(2 ^ 62) ≤ j ∧ j < 2 ^ 62 ∧ j.toNat ≤ sizeLine) ∧ QA (intsD 0 j.toNat) M) := rfl
theorem e_Rng2 : dRng2 tr s M QA E = tr s M (kRng2 QA) E := rfl
theorem e_kRng2 {i j} : kRng2 QA [.int i, .int j] M = (((-(2 ^ 62) ≤ i ∧ i < 2 ^ 62 ∧ -(2 ^ 62) ≤ j ∧ j < 2 ^ 62) ∧ (j - i).toNat ≤ sizeLine) ∧ QA (intsD i (j - i).toNat) M) := rfl
theorem e_Comp {tt te vs} : dComp ti g tt te vs s M Q E = ti s M (kComp g tt te vs s Q) E := rfl
theorem e_kComp {tt te vs xs} : kComp g tt te vs s Q xs M = compD g tt te xs (wiped s vs) M (fun ys M2 => Q (.lst ys) M2) kF2 := rfl
theorem e_Yes : dYes s M QB E = QB true M := rfl
theorem e_ap1 {d} {R : D → Prop} {F : DX → Prop} : ap (.ok d) R F = R d := rfl
theorem e_ap2 {C d} {R : D → Prop} {F : DX → Prop} : ap (.side C d) R F = (C ∧ R d) := rfl
theorem e_ap3 {x} {R : D → Prop} {F : DX → Prop} : ap (.exc x) R F = F x := rfl
theorem e_ap4 {R : D → Prop} {F : DX → Prop} : ap .no R F = False := rfl
theorem e_pureSp {f ds} : pureSp f ds M Q E = ap (f ds) (kR Q M) (kX E M) := rfl
theorem e_look0 {o r} : look (o :: r) 0 = o := rfl
theorem e_look1 {o r n} : look (o :: r) (n + 1) = look r n := rfl
theorem e_put0 {o r d} : put (o :: r) 0 d = d :: r := rfl
theorem e_put1 {o r n d} : put (o :: r) (n + 1) d = o :: put r n d := rfl
theorem e_wiped0 : wiped s [] = s := rfl
theorem e_wiped1 {i r} : wiped s (i :: r) = put (wiped s r) i none := rfl
end
end DL
/-! Fra: fractions of the program are rationals in least terms (own work). -/
namespace DL
open PySem
/-- a fraction as the program has it -/
def frq (q : Rat) : D := .tup [.int q.num, .int (q.den : Int)]
def asQ : D → Option Rat
  | .tup [.int n, .int d] => if 1 ≤ d ∧ Nat.gcd n.natAbs d.natAbs = 1 then some (Rat.divInt n d) else none
  | _ => none
theorem asQ_frq (q : Rat) : asQ (frq q) = some q := by
  unfold asQ frq
  have h1 : (1 : Int) ≤ (q.den : Int) := by have := q.den_pos; omega
  have h2 : Nat.gcd q.num.natAbs ((q.den : Int)).natAbs = 1 := by
    have := q.reduced
    simpa [Nat.Coprime] using this
  show (if 1 ≤ (q.den : Int) ∧ Nat.gcd q.num.natAbs ((q.den : Int)).natAbs = 1 then some (Rat.divInt q.num (q.den : Int)) else none) = some q
  rw [if_pos ⟨h1, h2⟩, Rat.divInt_ofNat, Rat.mkRat_self]
theorem asQ_some {d : D} {q : Rat} (h : asQ d = some q) : d = frq q := by
  unfold asQ at h
  split at h
  · rename_i n m
    split at h
    · rename_i c
      cases h
      unfold frq
      have hm : m ≠ 0 := by omega
      have hg : (m.gcd n) = 1 := by
        show Nat.gcd m.natAbs n.natAbs = 1
        rw [Nat.gcd_comm]
        exact c.2
      have e1 : (Rat.divInt n m).num = n := by
        rw [Rat.num_divInt, hg, Int.sign_eq_one_of_pos (by omega)]
        simp
      have e2 : ((Rat.divInt n m).den : Int) = m := by
        rw [Rat.den_divInt, if_neg hm, hg]
        simp
        omega
      rw [e1, e2]
    · cases h
  · cases h
theorem frq_inj {a b : Rat} (h : frq a = frq b) : a = b := by
  have h1 := asQ_frq a
  rw [h, asQ_frq] at h1
  exact (Option.some.inj h1).symm
/-- the sign's gcd, as the program reckons it -/
def sgd (n d : Int) : Int := if d < 0 then 0 - ((Nat.gcd n.natAbs d.natAbs : Nat) : Int) else ((Nat.gcd n.natAbs d.natAbs : Nat) : Int)
theorem fdiv_of_dvd {a b : Int} (h : b ∣ a) : a.fdiv b = a / b := by
  by_cases h0 : b = 0
  · subst h0; simp
  · obtain ⟨c, rfl⟩ := h
    rw [Int.mul_fdiv_cancel_left _ h0, Int.mul_ediv_cancel_left _ h0]
theorem divq_num {n d : Int} (h : d ≠ 0) : n.fdiv (sgd n d) = (Rat.divInt n d).num := by
  have g0 : (d.gcd n : Nat) ≠ 0 := by
    intro z
    have := Int.gcd_eq_zero_iff.mp z
    exact h this.1
  have eg : (Nat.gcd n.natAbs d.natAbs : Nat) = d.gcd n := Nat.gcd_comm _ _
  have hd : ((d.gcd n : Nat) : Int) ∣ n := Int.gcd_dvd_right ..
  rw [Rat.num_divInt]
  unfold sgd
  rw [eg]
  split
  · rename_i c
    rw [Int.sign_eq_neg_one_of_neg c]
    have : (0 - ((d.gcd n : Nat) : Int)) = -((d.gcd n : Nat) : Int) := by omega
    rw [this, fdiv_of_dvd (Int.neg_dvd.mpr hd), Int.ediv_neg]
    obtain ⟨k, hk⟩ := hd
    have hz : ((d.gcd n : Nat) : Int) ≠ 0 := by omega
    generalize ((d.gcd n : Nat) : Int) = g at *
    subst hk
    rw [Int.mul_ediv_cancel_left _ hz]
    have : -1 * (g * k) = g * (-k) := by
      rw [Int.mul_neg, Int.neg_mul, Int.one_mul]
    rw [this, Int.mul_ediv_cancel_left _ hz]
  · rename_i c
    rw [Int.sign_eq_one_of_pos (by omega), Int.one_mul]
    exact fdiv_of_dvd hd
theorem divq_den {n d : Int} (h : d ≠ 0) : d.fdiv (sgd n d) = ((Rat.divInt n d).den : Int) := by
  have g0 : (d.gcd n : Nat) ≠ 0 := by
    intro z
    have := Int.gcd_eq_zero_iff.mp z
    exact h this.1
  have eg : (Nat.gcd n.natAbs d.natAbs : Nat) = d.gcd n := Nat.gcd_comm _ _
  have hd : ((d.gcd n : Nat) : Int) ∣ d := Int.gcd_dvd_left ..
  rw [Rat.den_divInt, if_neg h]
  unfold sgd
  rw [eg]
  have hz : ((d.gcd n : Nat) : Int) ≠ 0 := by omega
  split
  · rename_i c
    have : (0 - ((d.gcd n : Nat) : Int)) = -((d.gcd n : Nat) : Int) := by omega
    rw [this, fdiv_of_dvd (Int.neg_dvd.mpr hd), Int.ediv_neg, Int.natCast_ediv]
    have e : ((d.natAbs : Nat) : Int) = -d := by omega
    rw [e, Int.neg_ediv_of_dvd hd]
  · rename_i c
    rw [fdiv_of_dvd hd, Int.natCast_ediv]
    have e : ((d.natAbs : Nat) : Int) = d := by omega
    rw [e]
theorem frq_div {n d : Int} (h : d ≠ 0) : (D.tup [.int (n.fdiv (sgd n d)), .int (d.fdiv (sgd n d))]) = frq (Rat.divInt n d) := by
  unfold frq
  rw [divq_num h, divq_den h]
/-! ### sizes -/
def qb (k : Nat) (q : Rat) : Prop := q.num.natAbs < 2 ^ k ∧ q.den < 2 ^ k
def ib (k : Nat) (i : Int) : Prop := i.natAbs < 2 ^ k
theorem qb.mono {k m : Nat} {q : Rat} (h : qb k q) (l : k ≤ m) : qb m q :=
  ⟨Nat.lt_of_lt_of_le h.1 (Nat.pow_le_pow_right (by decide) l), Nat.lt_of_lt_of_le h.2 (Nat.pow_le_pow_right (by decide) l)⟩
theorem ib.mono {k m : Nat} {i : Int} (h : ib k i) (l : k ≤ m) : ib m i := Nat.lt_of_lt_of_le h (Nat.pow_le_pow_right (by decide) l)
theorem ib.mul {k m : Nat} {i j : Int} (h : ib k i) (h2 : ib m j) : ib (k + m) (i * j) := by
  unfold ib at *
  rw [Int.natAbs_mul, Nat.pow_add]
  exact Nat.mul_lt_mul'' h h2
theorem ib.add {k m : Nat} {i j : Int} (h : ib k i) (h2 : ib k j) (l : k < m) : ib m (i + j) := by
  unfold ib at *
  have h3 : 2 ^ (k + 1) ≤ 2 ^ m := Nat.pow_le_pow_right (by decide) l
  rw [Nat.pow_succ] at h3
  have := Int.natAbs_add_le i j
  omega
theorem ib.sub {k m : Nat} {i j : Int} (h : ib k i) (h2 : ib k j) (l : k < m) : ib m (i - j) := by
  unfold ib at *
  have h3 : 2 ^ (k + 1) ≤ 2 ^ m := Nat.pow_le_pow_right (by decide) l
  rw [Nat.pow_succ] at h3
  have := Int.natAbs_sub_le i j
  omega
theorem qb.num {k : Nat} {q : Rat} (h : qb k q) : ib k q.num := h.1
theorem qb.den {k : Nat} {q : Rat} (h : qb k q) : ib k (q.den : Int) := h.2
theorem qb_div {k : Nat} {n d : Int} (hn : ib k n) (hd : ib k d) (h1 : 1 ≤ k) : qb k (Rat.divInt n d) := by
  by_cases h : d = 0
  · subst h
    rw [Rat.divInt_zero]
    have : 1 < 2 ^ k := Nat.one_lt_two_pow (by omega)
    exact ⟨by show 0 < 2 ^ k; omega, this⟩
  · have g0 : 0 < (d.gcd n : Nat) := by
      rcases Nat.eq_zero_or_pos (d.gcd n) with z | z
      · exact absurd (Int.gcd_eq_zero_iff.mp z).1 h
      · exact z
    refine ⟨?_, ?_⟩
    · rw [Rat.num_divInt]
      have : (d.sign * n / ((d.gcd n : Nat) : Int)).natAbs ≤ n.natAbs := by
        have hd1 : ((d.gcd n : Nat) : Int) ∣ d.sign * n := Int.dvd_trans (Int.gcd_dvd_right ..) (Int.dvd_mul_left ..)
        rw [Int.natAbs_ediv_of_dvd hd1, Int.natAbs_mul, Int.natAbs_natCast]
        have : d.sign.natAbs = 1 := by
          rw [Int.natAbs_sign, if_neg h]
        rw [this, Nat.one_mul]
        exact Nat.div_le_self _ _
      exact Nat.lt_of_le_of_lt this hn
    · rw [Rat.den_divInt, if_neg h]
      exact Nat.lt_of_le_of_lt (Nat.div_le_self _ _) hd
/-! ### what is reckoned -/
theorem denI {q : Rat} : (q.den : Int) ≠ 0 := by
  have := q.den_nz
  omega
theorem denP {q : Rat} : (0 : Int) < (q.den : Int) := by
  have := q.den_pos
  omega
theorem q_self (q : Rat) : Rat.divInt q.num (q.den : Int) = q := by rw [Rat.divInt_ofNat, Rat.mkRat_self]
theorem q_add (a b : Rat) : Rat.divInt (a.num * (b.den : Int) + b.num * (a.den : Int)) ((a.den : Int) * (b.den : Int)) = a + b := by
  rw [← Rat.divInt_add_divInt _ _ denI denI, q_self, q_self]
theorem q_sub (a b : Rat) : Rat.divInt (a.num * (b.den : Int) - b.num * (a.den : Int)) ((a.den : Int) * (b.den : Int)) = a - b := by
  rw [← Rat.divInt_sub_divInt _ _ denI denI, q_self, q_self]
theorem q_mul (a b : Rat) : Rat.divInt (a.num * b.num) ((a.den : Int) * (b.den : Int)) = a * b := by
  rw [← Rat.divInt_mul_divInt, q_self, q_self]
theorem q_div (a b : Rat) : Rat.divInt (a.num * (b.den : Int)) ((a.den : Int) * b.num) = a / b := by
  rw [Rat.div_def, ← Rat.divInt_mul_divInt, q_self]
  congr 1
  rw [Rat.inv_def]
theorem q_lt (a b : Rat) : decide (a.num * (b.den : Int) < b.num * (a.den : Int)) = decide (a < b) := decide_eq_decide.mpr (Rat.lt_iff a b).symm
theorem q_int (n : Int) : Rat.divInt n 1 = (n : Rat) := by
  rw [Rat.divInt_eq_div]
  grind
theorem num_ne {q : Rat} : (q.num = 0) = (q = 0) := propext Rat.num_eq_zero
theorem q_floor (q : Rat) : q.num.fdiv (q.den : Int) = q.floor := by
  rw [Rat.floor_def]
  rw [Int.fdiv_eq_ediv_of_nonneg _ (Int.le_of_lt denP)]
end DL
/-! FraS: what the defs about fractions promise; draws from a pot (own work). -/
namespace DL
open PySem
/-! ### promises of one value -/
theorem spok_pure {n : Nat} {f : List D → Res} (hl : ∀ ds, f ds = .no ∨ ds.length = n) (hx : ∀ ds x, f ds ≠ .exc x) : SpOk n (pureSp f) where
  len := fun ds M Q E h => by
    rcases hl ds with e | e
    · unfold pureSp at h
      rw [e] at h
      exact h.elim
    · exact e
  ms := mono_pureSp
  nx := fun ds M Q E h => by
    unfold pureSp at h ⊢
    cases e : f ds with
    | no => rw [e] at h; exact h.elim
    | ok d => rw [e] at h; exact h
    | side C d => rw [e] at h; exact h
    | exc x => exact absurd e (hx ds x)
/-- one fraction, two fractions -/
def q1 (g : Rat → Prop × D) : List D → Res
  | [x] => (match asQ x with
    | some a => .side (g a).1 (g a).2
    | none => .no)
  | _ => .no
def q2 (g : Rat → Rat → Prop × D) : List D → Res
  | [x, y] => (match asQ x, asQ y with
    | some a, some b => .side (g a b).1 (g a b).2
    | _, _ => .no)
  | _ => .no
theorem q1_frq {g a} : q1 g [frq a] = .side (g a).1 (g a).2 := by
  unfold q1
  simp only [asQ_frq]
theorem q2_frq {g a b} : q2 g [frq a, frq b] = .side (g a b).1 (g a b).2 := by
  unfold q2
  simp only [asQ_frq]
theorem q1_inv {g ds} {M : Sto} {Q : DK} {E : DXK} (h : pureSp (q1 g) ds M Q E) : ∃ a, ds = [frq a] ∧ (g a).1 ∧ Q (g a).2 M := by
  unfold pureSp at h
  match ds, h with
  | [x], h =>
    cases e : asQ x with
    | none => simp only [q1, e] at h; exact h.elim
    | some a => simp only [q1, e] at h; exact ⟨a, by rw [asQ_some e], h.1, h.2⟩
  | [], h => exact h.elim
  | _ :: _ :: _, h => exact h.elim
theorem q2_inv {g ds} {M : Sto} {Q : DK} {E : DXK} (h : pureSp (q2 g) ds M Q E) : ∃ a b, ds = [frq a, frq b] ∧ (g a b).1 ∧ Q (g a b).2 M := by
  unfold pureSp at h
  match ds, h with
  | [x, y], h =>
    cases e : asQ x with
    | none => simp only [q2, e] at h; exact h.elim
    | some a =>
      cases e2 : asQ y with
      | none => simp only [q2, e, e2] at h; exact h.elim
      | some b => simp only [q2, e, e2] at h; exact ⟨a, b, by rw [asQ_some e, asQ_some e2], h.1, h.2⟩
  | [], h => exact h.elim
  | [_], h => exact h.elim
  | _ :: _ :: _ :: _, h => exact h.elim
theorem k_q1 {g} : SpOk 1 (pureSp (q1 g)) := spok_pure (fun ds => by
  unfold q1
  split
  · exact .inr rfl
  · exact .inl rfl) (fun ds x => by
  unfold q1
  split
  · split <;> simp
  · simp)
theorem k_q2 {g} : SpOk 2 (pureSp (q2 g)) := spok_pure (fun ds => by
  unfold q2
  split
  · exact .inr rfl
  · exact .inl rfl) (fun ds x => by
  unfold q2
  split
  · split <;> simp
  · simp)
/-- one int, two ints -/
def i1 (g : Int → Prop × D) : List D → Res
  | [.int a] => .side (g a).1 (g a).2
  | _ => .no
def i2 (g : Int → Int → Prop × D) : List D → Res
  | [.int a, .int b] => .side (g a b).1 (g a b).2
  | _ => .no
theorem i2_inv {g ds} {M : Sto} {Q : DK} {E : DXK} (h : pureSp (i2 g) ds M Q E) : ∃ a b, ds = [.int a, .int b] ∧ (g a b).1 ∧ Q (g a b).2 M := by
  unfold pureSp i2 at h
  split at h
  · exact ⟨_, _, rfl, h.1, h.2⟩
  · exact h.elim
theorem k_i2 {g} : SpOk 2 (pureSp (i2 g)) := spok_pure (fun ds => by
  unfold i2
  split
  · exact .inr rfl
  · exact .inl rfl) (fun ds x => by
  unfold i2
  split <;> simp)
/-- any one value -/
def d1 (g : D → Prop × D) : List D → Res
  | [x] => .side (g x).1 (g x).2
  | _ => .no
theorem d1_inv {g ds} {M : Sto} {Q : DK} {E : DXK} (h : pureSp (d1 g) ds M Q E) : ∃ a, ds = [a] ∧ (g a).1 ∧ Q (g a).2 M := by
  unfold pureSp d1 at h
  split at h
  · exact ⟨_, rfl, h.1, h.2⟩
  · exact h.elim
theorem k_d1 {g} : SpOk 1 (pureSp (d1 g)) := spok_pure (fun ds => by
  unfold d1
  split
  · exact .inr rfl
  · exact .inl rfl) (fun ds x => by
  unfold d1
  split <;> simp)
/-! ### looks at values -/
/-- not a type, not a list that may change -/
def isV : D → Bool
  | .ty _ | .own _ => false
  | _ => true
def isI : D → Bool
  | .int _ => true
  | _ => false
def sp_is_integer : DSp := pureSp (d1 fun d => (isV d = true, .bl (isI d)))
def sp_fraction : DSp := pureSp (i2 fun a b => (b ≠ 0 ∧ ib 8500 a ∧ ib 8500 b, frq (Rat.divInt a b)))
def sp_lower : DSp := pureSp (q2 fun a b => (qb 4000 a ∧ qb 4000 b, .bl (decide (a < b))))
def sp_added : DSp := pureSp (q2 fun a b => (qb 4000 a ∧ qb 4000 b, frq (a + b)))
def sp_taken : DSp := pureSp (q2 fun a b => (qb 4000 a ∧ qb 4000 b, frq (a - b)))
def sp_scaled : DSp := pureSp (q2 fun a b => (qb 4000 a ∧ qb 4000 b, frq (a * b)))
def sp_parted : DSp := pureSp (q2 fun a b => (b ≠ 0 ∧ qb 4000 a ∧ qb 4000 b, frq (a / b)))
def sp_floor_of : DSp := pureSp (q1 fun a => (qb 4000 a, .int a.floor))
def sp_ceiling_of : DSp := pureSp (q1 fun a => (qb 4000 a, .int (-(-a).floor)))
/-- a value that can be looked at: pairs with values within -/
def lookable : D → Prop
  | .ty _ => False
  | .own _ => False
  | .tup [x, y] => isV x = true ∧ isV y = true
  | _ => True
def sp_is_fraction : DSp := pureSp (d1 fun d => (lookable d, .bl (asQ d).isSome))
def sp_want_fraction : DSp := pureSp (q1 fun a => (True, frq a))
def sp_made : DSp := sp_fraction
def sp_is_less : DSp := sp_lower
def sp_plus : DSp := sp_added
def sp_minus : DSp := sp_taken
def sp_times : DSp := sp_scaled
def sp_over : DSp := sp_parted
def sp_floor : DSp := sp_floor_of
def sp_ceiling : DSp := sp_ceiling_of
theorem k_is_integer : SpOk 1 sp_is_integer := k_d1
theorem k_fraction : SpOk 2 sp_fraction := k_i2
theorem k_lower : SpOk 2 sp_lower := k_q2
theorem k_added : SpOk 2 sp_added := k_q2
theorem k_taken : SpOk 2 sp_taken := k_q2
theorem k_scaled : SpOk 2 sp_scaled := k_q2
theorem k_parted : SpOk 2 sp_parted := k_q2
theorem k_floor_of : SpOk 1 sp_floor_of := k_q1
theorem k_ceiling_of : SpOk 1 sp_ceiling_of := k_q1
theorem k_is_fraction : SpOk 1 sp_is_fraction := k_d1
theorem k_want_fraction : SpOk 1 sp_want_fraction := k_q1
theorem k_made : SpOk 2 sp_made := k_i2
theorem k_is_less : SpOk 2 sp_is_less := k_q2
theorem k_plus : SpOk 2 sp_plus := k_q2
theorem k_minus : SpOk 2 sp_minus := k_q2
theorem k_times : SpOk 2 sp_times := k_q2
theorem k_over : SpOk 2 sp_over := k_q2
theorem k_floor : SpOk 1 sp_floor := k_q1
theorem k_ceiling : SpOk 1 sp_ceiling := k_q1
/-! ### draws -/
/-- a pot at p: two ints that are not below nought, the second one below 2 ^ 32 -/
def Pot (M : Sto) (p : Nat) : Prop := ∃ a b : Int, M[p]? = some (some [.int a, .int b]) ∧ 0 ≤ a ∧ 0 ≤ b ∧ b < 2 ^ 32
/-- all lists but the one at p are as they were -/
structure Fram (p : Nat) (M M' : Sto) : Prop where
  len : M'.length = M.length
  out : ∀ j, j ≠ p → M'[j]? = M[j]?
theorem Fram.refl {p M} : Fram p M M := ⟨rfl, fun _ _ => rfl⟩
theorem Fram.trans {p M M1 M2} (a : Fram p M M1) (b : Fram p M1 M2) : Fram p M M2 := ⟨b.len.trans a.len, fun j h => (b.out j h).trans (a.out j h)⟩
def sp__law_pot : DSp := fun ds M Q _ => match ds with
  | [.wl xs, .int k] => (xs.length ≤ 63 ∧ (∃ ns : List Int, xs = ns.map D.int) ∧ 0 ≤ k ∧ k ≤ 100) ∧ ∀ a b : Int, 0 ≤ a → 0 ≤ b → b < 2 ^ 32 → Q (.own M.length) (M ++ [some [.int a, .int b]])
  | _ => False
def sp__law_draw : DSp := fun ds M Q _ => match ds with
  | [.own p, .int many] => (Pot M p ∧ 1 ≤ many ∧ ib 4000 many) ∧ ∀ (r : Int) M', 0 ≤ r → r < many → Pot M' p → Fram p M M' → Q (.int r) M'
  | _ => False
def sp__law_pick : DSp := fun ds M Q _ => match ds with
  | [.own p, .lst xs] => (Pot M p ∧ 1 ≤ xs.length ∧ xs.length ≤ 100000) ∧ ∀ d M', d ∈ xs → Pot M' p → Fram p M M' → Q d M'
  | _ => False
theorem k__law_pot : SpOk 2 sp__law_pot where
  len := fun ds M Q E h => by
    unfold sp__law_pot at h
    split at h
    · rfl
    · exact h.elim
  ms := fun ds M Q Q' E E' hq hx h => by
    unfold sp__law_pot at h ⊢
    split at h
    · exact ⟨h.1, fun a b h1 h2 h3 => hq _ _ (h.2 a b h1 h2 h3)⟩
    · exact h.elim
  nx := fun ds M Q E h => h
theorem k__law_draw : SpOk 2 sp__law_draw where
  len := fun ds M Q E h => by
    unfold sp__law_draw at h
    split at h
    · rfl
    · exact h.elim
  ms := fun ds M Q Q' E E' hq hx h => by
    unfold sp__law_draw at h ⊢
    split at h
    · exact ⟨h.1, fun r M' h1 h2 h3 h4 => hq _ _ (h.2 r M' h1 h2 h3 h4)⟩
    · exact h.elim
  nx := fun ds M Q E h => h
theorem k__law_pick : SpOk 2 sp__law_pick where
  len := fun ds M Q E h => by
    unfold sp__law_pick at h
    split at h
    · rfl
    · exact h.elim
  ms := fun ds M Q Q' E E' hq hx h => by
    unfold sp__law_pick at h ⊢
    split at h
    · exact ⟨h.1, fun d M' h1 h2 h3 => hq _ _ (h.2 d M' h1 h2 h3)⟩
    · exact h.elim
  nx := fun ds M Q E h => h
/-! ### the law's own fractions -/
def sp__law_gcd : DSp := pureSp (i2 fun a b => (True, .int ((Nat.gcd a.natAbs b.natAbs : Nat) : Int)))
def sp__law_made : DSp := sp_fraction
def sp__law_lower : DSp := sp_lower
def sp__law_plus : DSp := sp_added
def sp__law_minus : DSp := sp_taken
def sp__law_times : DSp := sp_scaled
def sp__law_over : DSp := sp_parted
def sp__law_floor : DSp := sp_floor_of
def sp__law_some : DSp := fun ds M Q _ => match ds with
  | [.own p] => Pot M p ∧ ∀ (q : Rat) M', qb 42 q → Pot M' p → Fram p M M' → Q (frq q) M'
  | _ => False
theorem k__law_gcd : SpOk 2 sp__law_gcd := k_i2
theorem k__law_made : SpOk 2 sp__law_made := k_i2
theorem k__law_lower : SpOk 2 sp__law_lower := k_q2
theorem k__law_plus : SpOk 2 sp__law_plus := k_q2
theorem k__law_minus : SpOk 2 sp__law_minus := k_q2
theorem k__law_times : SpOk 2 sp__law_times := k_q2
theorem k__law_over : SpOk 2 sp__law_over := k_q2
theorem k__law_floor : SpOk 1 sp__law_floor := k_q1
theorem k__law_some : SpOk 1 sp__law_some where
  len := fun ds M Q E h => by
    unfold sp__law_some at h
    split at h
    · rfl
    · exact h.elim
  ms := fun ds M Q Q' E E' hq hx h => by
    unfold sp__law_some at h ⊢
    split at h
    · exact ⟨h.1, fun r M' h1 h2 h3 => hq _ _ (h.2 r M' h1 h2 h3)⟩
    · exact h.elim
  nx := fun ds M Q E h => h
end DL
/-! DLStep: the operations case by case, each by rfl (own work). -/
namespace DL
open PySem
section
variable {M : Sto} {i j : Int} {a b : List D} {x y : Str} {d : D} {k : Nat}
theorem x_add : fAdd M (.int i) (.int j) = .ok (.int (i + j)) := rfl
theorem x_addS : fAdd M (.str x) (.str y) = .side (x.length + y.length ≤ sizeLine) (.str (x ++ y)) := rfl
theorem x_addT : fAdd M (.tup a) (.tup b) = .side (a ≠ [] ∧ a.length + b.length ≤ sizeLine) (.tup (a ++ b)) := rfl
theorem x_addL : fAdd M (.lst a) (.lst b) = .side (a.length + b.length ≤ sizeLine) (.lst (a ++ b)) := rfl
theorem x_sub : fSub M (.int i) (.int j) = .ok (.int (i - j)) := rfl
theorem x_mul : fMul M (.int i) (.int j) = .side (sz i ∧ sz j) (.int (i * j)) := rfl
theorem x_mulL : fMul M (.lst a) (.int i) = .side (i < 2 ^ 63 ∧ -(2 ^ 63) ≤ i ∧ a.length * i.toNat ≤ sizeLine) (.lst (List.replicate i.toNat a).flatten) := rfl
theorem x_div : fDiv M (.int i) (.int j) = .side (cDiv j) (.int (i.fdiv j)) := rfl
theorem x_mod : fMod M (.int i) (.int j) = .side (j ≠ 0) (.int (i.fmod j)) := rfl
theorem x_pow : fPow M (.int i) (.int j) = .side (0 ≤ j ∧ j ≤ 1000000 ∧ i.natAbs < 2 ^ 64) (.int (i ^ j.toNat)) := rfl
theorem x_lt : fLt M (.int i) (.int j) = .ok (.bl (decide (i < j))) := rfl
theorem x_le : fLe M (.int i) (.int j) = .ok (.bl (decide (i ≤ j))) := rfl
theorem x_gt : fGt M (.int i) (.int j) = .ok (.bl (decide (j < i))) := rfl
theorem x_ge : fGe M (.int i) (.int j) = .ok (.bl (decide (j ≤ i))) := rfl
theorem x_neg : fNeg M (.int i) = .ok (.int (-i)) := rfl
theorem x_isN0 : fIsN M .non .non = .ok (.bl true) := rfl
theorem x_notN0 : fNotN M .non .non = .ok (.bl false) := rfl
theorem x_isN1 (h : d ≠ .non) : fIsN M d .non = .ok (.bl false) := by
  cases d <;> first | rfl | exact absurd rfl h
theorem x_notN1 (h : d ≠ .non) : fNotN M d .non = .ok (.bl true) := by
  cases d <;> first | rfl | exact absurd rfl h
theorem x_ixT : fIx M (.tup a) (.int i) = opt (atD a i) := rfl
theorem x_ixL : fIx M (.lst a) (.int i) = opt (atD a i) := rfl
theorem x_ixW : fIx M (.wl a) (.int i) = opt (atD a i) := rfl
theorem x_ixO (h : M[k]? = some (some a)) : fIx M (.own k) (.int i) = opt (atD a i) := by
  unfold fIx
  simp only [h]
theorem x_opt1 : opt (some d) = .ok d := rfl
theorem x_opt0 : opt none = .no := rfl
variable {α : Type} {p q r s : α} {l : List α}
theorem x_at0 : atD (p :: l) 0 = some p := rfl
theorem x_at1 : atD (p :: q :: l) 1 = some q := rfl
theorem x_at2 : atD (p :: q :: r :: l) 2 = some r := rfl
theorem x_at3 : atD (p :: q :: r :: s :: l) 3 = some s := rfl
theorem x_atN {n : Nat} (h : n < l.length) : atD l (n : Int) = some l[n] := List.getElem?_eq_getElem h
theorem x_abs : fAbs M [.int i] = .ok (.int (if i < 0 then -i else i)) := rfl
theorem x_max2 : fMax2 M [.int i, .int j] = .ok (.int (if j > i then j else i)) := rfl
theorem x_min2 : fMin2 M [.int i, .int j] = .ok (.int (if j < i then j else i)) := rfl
theorem x_int1 : fInt1 M [.int i] = .ok (.int i) := rfl
theorem x_gcd : fGcd M [.int i, .int j] = .ok (.int ((Nat.gcd i.natAbs j.natAbs : Nat) : Int)) := rfl
theorem x_strI : fStrI M [.int i] = .side (i.natAbs.log2 < 1920) (.str (toString i)) := rfl
theorem x_divmod : fDivmod M [.int i, .int j] = .side (cDiv j) (.tup [.int (i.fdiv j), .int (i.fmod j)]) := rfl
theorem x_lenT : fLen M [.tup a] = .ok (.int (a.length : Nat)) := rfl
theorem x_lenL : fLen M [.lst a] = .ok (.int (a.length : Nat)) := rfl
theorem x_lenW : fLen M [.wl a] = .ok (.int (a.length : Nat)) := rfl
theorem x_lenO (h : M[k]? = some (some a)) : fLen M [.own k] = .ok (.int (a.length : Nat)) := by
  unfold fLen
  simp only [h]
def isiR (c : Ty) : Option Ty → Res
  | some t => .side (okT c = true) (.bl (subT t c))
  | none => .no
theorem x_isi {c : Ty} : fIsi M [d, .ty c] = isiR c (tyD M d) := by
  show (match tyD M d with
    | some t => Res.side (okT c = true) (.bl (subT t c))
    | none => Res.no) = _
  cases tyD M d <;> rfl
theorem x_isiR {c t : Ty} : isiR c (some t) = .side (okT c = true) (.bl (subT t c)) := rfl
theorem y_non : tyD M .non = some .none := rfl
theorem y_bl {b} : tyD M (.bl b) = some .bool := rfl
theorem y_int : tyD M (.int i) = some .int := rfl
theorem y_str : tyD M (.str x) = some .str := rfl
theorem y_tup : tyD M (.tup a) = some .tuple := rfl
theorem y_lst : tyD M (.lst a) = some .list := rfl
theorem y_wl : tyD M (.wl a) = some .list := rfl
theorem y_emp : tyD M .emp = some .dict := rfl
theorem y_own (h : M[k]? = some (some a)) : tyD M (.own k) = some .list := by
  unfold tyD
  simp only [h]
def allR : Option (List Bool) → Res
  | some bs => .ok (.bl (bs.all id))
  | none => .no
theorem x_all : fAll M [.lst a] = allR (bools a) := by
  show (match bools a with
    | some bs => Res.ok (.bl (bs.all id))
    | none => Res.no) = _
  cases bools a <;> rfl
theorem x_allR {bs} : allR (some bs) = .ok (.bl (bs.all id)) := rfl
theorem x_bools0 : bools [] = some [] := rfl
theorem e_never {D0 : DEnd} {s : Sl} : dNever D0 s M = False := rfl
theorem rat0 : ((0 : Int) : Rat) = 0 := rfl
theorem rat1 : ((1 : Int) : Rat) = 1 := rfl
end
theorem bools_all : ∀ {xs : List D}, (∀ d ∈ xs, d = .bl true) → bools xs = some (List.replicate xs.length true)
  | [], _ => rfl
  | x :: r, h => by
    rw [h x (List.mem_cons_self ..)]
    have z := bools_all (xs := r) (fun d m => h d (List.mem_cons_of_mem _ m))
    simp only [bools, z]
    rfl
theorem all_true {M : Sto} {xs : List D} (h : ∀ d ∈ xs, d = .bl true) : fAll M [.lst xs] = .ok (.bl true) := by
  rw [x_all, bools_all h, x_allR]
  simp
end DL
/-! FraL: fractions under the operations; calls opened; sizes (own work). -/
namespace DL
open PySem
theorem ix_num {M q} : fIx M (frq q) (.int 0) = .ok (.int q.num) := by
  unfold frq fIx
  rfl
theorem ix_den {M q} : fIx M (frq q) (.int 1) = .ok (.int (q.den : Int)) := by
  unfold frq fIx
  rfl
theorem len_frq {M q} : fLen M [frq q] = .ok (.int 2) := rfl
theorem ty_frq {M q} : tyD M (frq q) = some .tuple := rfl
theorem res_frq {M q} : res M (frq q) = frq q := rfl
theorem res_lst {M xs} : res M (.lst xs) = .lst xs := rfl
theorem res_tup {M xs} : res M (.tup xs) = .tup xs := rfl
theorem sc_frq {q d} : scD (frq q) d = none := rfl
theorem sc_frq2 {q d} : scD d (frq q) = none := by
  unfold frq
  cases d <;> rfl
theorem sc_int {i j : Int} : scD (.int i) (.int j) = some (decide (i = j)) := rfl
theorem sc_str {i j : Str} : scD (.str i) (.str j) = some (decide (i = j)) := rfl
theorem sc_bl {i j : Bool} : scD (.bl i) (.bl j) = some (decide (i = j)) := rfl
theorem shp_frq {q} : shp (frq q) = true := rfl
theorem frq_int (n : Int) : (D.tup [.int n, .int 1]) = frq (n : Rat) := by
  rw [← q_int, ← frq_div (by decide)]
  unfold sgd
  simp
theorem frq_nought : (D.tup [.int 0, .int 1]) = frq 0 := frq_int 0
theorem num_int (n : Int) : ((n : Rat)).num = n := rfl
theorem eqv_frq {a b : Rat} : deqv (frq a) (frq b) = decide (a = b) := by
  unfold frq
  simp only [deqv, deqvL]
  by_cases h : a = b
  · subst h
    simp
  · rw [decide_eq_false h]
    cases e1 : (a.num == b.num)
    · rfl
    · cases e2 : ((a.den : Int) == (b.den : Int))
      · rfl
      · exact absurd (Rat.ext (eq_of_beq e1) (by have := eq_of_beq e2; omega)) h
theorem fEq_sc {M x y b} (h : scD x y = some b) : fEq M x y = .ok (.bl b) := by
  unfold fEq
  rw [h]
theorem fNe_sc {M x y b} (h : scD x y = some b) : fNe M x y = .ok (.bl (!b)) := by
  unfold fNe
  rw [h]
theorem eq_ii {M i j} : fEq M (.int i) (.int j) = .ok (.bl (decide (i = j))) := rfl
theorem ne_ii {M i j} : fNe M (.int i) (.int j) = .ok (.bl (!decide (i = j))) := rfl
theorem eq_ss {M i j} : fEq M (.str i) (.str j) = .ok (.bl (decide (i = j))) := rfl
theorem ne_ss {M i j} : fNe M (.str i) (.str j) = .ok (.bl (!decide (i = j))) := rfl
theorem eq_ff {M a b} : fEq M (frq a) (frq b) = .side (shp (frq a) = true ∧ shp (frq b) = true) (.bl (decide (a = b))) := by
  rw [← eqv_frq]
  rfl
theorem ne_ff {M a b} : fNe M (frq a) (frq b) = .side (shp (frq a) = true ∧ shp (frq b) = true) (.bl (!decide (a = b))) := by
  rw [← eqv_frq]
  rfl
theorem rep_lst {M xs} : fRepr M [.lst xs] = .side (shp (.lst xs) = true ∧ shows (.lst xs)) (.str (textD (.lst xs))) := rfl
/-! ### sizes -/
theorem sz_ib {k i} (h : ib k i) (l : k ≤ 60000000) : sz i := by
  have z := (intBits_le_iff (m := 60000000)).mpr (h.mono l)
  unfold sz
  omega
theorem ib_cDiv {k j} (h : ib k j) (h0 : j ≠ 0) (l : k ≤ 9000) : cDiv j := ⟨h0, (Nat.log2_lt (by omega)).mpr (h.mono l)⟩
theorem ib_one : ib 1 1 := by
  unfold ib
  decide
theorem ib_den {k q} (h : qb k q) : ib k (q.den : Int) := h.2
theorem ib_of {k : Nat} {i : Int} (h1 : -(2 ^ k : Nat) < i) (h2 : i < (2 ^ k : Nat)) : ib k i := by
  unfold ib
  omega
theorem m8 {i j : Int} (h1 : ib 4000 i) (h2 : ib 4000 j) : ib 8100 (i * j) := (h1.mul h2).mono (by decide)
theorem m9 {i j : Int} (h1 : ib 4000 i) (h2 : ib 4000 j) : ib 8500 (i * j) := (h1.mul h2).mono (by decide)
theorem a9 {i j : Int} (h1 : ib 8100 i) (h2 : ib 8100 j) : ib 8500 (i + j) := h1.add h2 (by decide)
theorem s9 {i j : Int} (h1 : ib 8100 i) (h2 : ib 8100 j) : ib 8500 (i - j) := h1.sub h2 (by decide)
theorem sz4 {i : Int} (h : ib 4000 i) : sz i := sz_ib h (by decide)
theorem sz8 {i : Int} (h : ib 8500 i) : sz i := sz_ib h (by decide)
theorem qb_add {k m p : Nat} {a b : Rat} (h1 : qb k a) (h2 : qb m b) (l : k + m + 1 ≤ p) : qb p (a + b) := by
  rw [← q_add]
  refine qb_div ?_ ?_ (by omega)
  · have x := (h1.num.mul h2.den)
    have y := (h2.num.mul h1.den)
    rw [Nat.add_comm m k] at y
    exact (x.add y (Nat.lt_succ_self _)).mono l
  · exact (h1.den.mul h2.den).mono (by omega)
theorem qb_sub {k m p : Nat} {a b : Rat} (h1 : qb k a) (h2 : qb m b) (l : k + m + 1 ≤ p) : qb p (a - b) := by
  rw [← q_sub]
  refine qb_div ?_ ?_ (by omega)
  · have x := (h1.num.mul h2.den)
    have y := (h2.num.mul h1.den)
    rw [Nat.add_comm m k] at y
    exact (x.sub y (Nat.lt_succ_self _)).mono l
  · exact (h1.den.mul h2.den).mono (by omega)
theorem qb_mul {k m p : Nat} {a b : Rat} (h1 : qb k a) (h2 : qb m b) (l : k + m + 1 ≤ p) : qb p (a * b) := by
  rw [← q_mul]
  exact qb_div ((h1.num.mul h2.num).mono (by omega)) ((h1.den.mul h2.den).mono (by omega)) (by omega)
theorem qb_quo {k m p : Nat} {a b : Rat} (h1 : qb k a) (h2 : qb m b) (l : k + m + 1 ≤ p) : qb p (a / b) := by
  rw [← q_div]
  exact qb_div ((h1.num.mul h2.den).mono (by omega)) ((h1.den.mul h2.num).mono (by omega)) (by omega)
theorem qb_int {k : Nat} {i : Int} (h : ib k i) (l : 1 ≤ k) : qb k (i : Rat) := by
  rw [← q_int]
  exact qb_div h (ib_one.mono l) l
theorem qb_zero {k : Nat} (l : 1 ≤ k) : qb k (0 : Rat) := qb_int (i := 0) (Nat.two_pow_pos k) l
theorem ib_floor {k : Nat} {q : Rat} (h : qb k q) : ib (k + 1) q.floor := by
  rw [← q_floor]
  have h1 := h.num
  unfold ib at *
  have h2 : (q.num.fdiv (q.den : Int)).natAbs ≤ q.num.natAbs + 1 := by
    have hd := q.den_pos
    rw [Int.fdiv_eq_ediv_of_nonneg _ (Int.le_of_lt denP)]
    rcases Int.lt_or_le q.num 0 with c | c
    · have u : q.num ≤ q.num / (q.den : Int) := by
        rw [Int.le_ediv_iff_mul_le denP]
        have := denP (q := q)
        have e : (1 : Int) ≤ (q.den : Int) := by omega
        have f : q.num * (q.den : Int) ≤ q.num * 1 := Int.mul_le_mul_of_nonpos_left (by omega) e
        omega
      have v : q.num / (q.den : Int) < 0 := Int.ediv_neg_of_neg_of_pos c denP
      omega
    · have u : q.num / (q.den : Int) ≤ q.num := Int.ediv_le_self _ c
      have v : 0 ≤ q.num / (q.den : Int) := Int.ediv_nonneg c (Int.le_of_lt denP)
      omega
  rw [Nat.pow_succ]
  omega
/-! ### calls -/
section
variable {M : Sto} {Q : DK} {E : DXK} {a b : Rat} {i j : Int} {d : D}
theorem u_fraction : sp_fraction [.int i, .int j] M Q E = ((j ≠ 0 ∧ ib 8500 i ∧ ib 8500 j) ∧ Q (frq (Rat.divInt i j)) M) := rfl
theorem u_made : sp_made [.int i, .int j] M Q E = ((j ≠ 0 ∧ ib 8500 i ∧ ib 8500 j) ∧ Q (frq (Rat.divInt i j)) M) := rfl
theorem u__law_made : sp__law_made [.int i, .int j] M Q E = ((j ≠ 0 ∧ ib 8500 i ∧ ib 8500 j) ∧ Q (frq (Rat.divInt i j)) M) := rfl
theorem u__law_gcd : sp__law_gcd [.int i, .int j] M Q E = (True ∧ Q (.int ((Nat.gcd i.natAbs j.natAbs : Nat) : Int)) M) := rfl
theorem u_q2 {g} : pureSp (q2 g) [frq a, frq b] M Q E = ((g a b).1 ∧ Q (g a b).2 M) := by
  unfold pureSp
  rw [q2_frq]
  rfl
theorem u_q1 {g} : pureSp (q1 g) [frq a] M Q E = ((g a).1 ∧ Q (g a).2 M) := by
  unfold pureSp
  rw [q1_frq]
  rfl
theorem u_lower : sp_lower [frq a, frq b] M Q E = ((qb 4000 a ∧ qb 4000 b) ∧ Q (.bl (decide (a < b))) M) := u_q2
theorem u_added : sp_added [frq a, frq b] M Q E = ((qb 4000 a ∧ qb 4000 b) ∧ Q (frq (a + b)) M) := u_q2
theorem u_taken : sp_taken [frq a, frq b] M Q E = ((qb 4000 a ∧ qb 4000 b) ∧ Q (frq (a - b)) M) := u_q2
theorem u_scaled : sp_scaled [frq a, frq b] M Q E = ((qb 4000 a ∧ qb 4000 b) ∧ Q (frq (a * b)) M) := u_q2
theorem u_parted : sp_parted [frq a, frq b] M Q E = ((b ≠ 0 ∧ qb 4000 a ∧ qb 4000 b) ∧ Q (frq (a / b)) M) := u_q2
theorem u_floor_of : sp_floor_of [frq a] M Q E = (qb 4000 a ∧ Q (.int a.floor) M) := u_q1
theorem u_ceiling_of : sp_ceiling_of [frq a] M Q E = (qb 4000 a ∧ Q (.int (-(-a).floor)) M) := u_q1
theorem u_want_fraction : sp_want_fraction [frq a] M Q E = (True ∧ Q (frq a) M) := u_q1
theorem u_is_integer : sp_is_integer [d] M Q E = (isV d = true ∧ Q (.bl (isI d)) M) := rfl
theorem u_is_fraction : sp_is_fraction [d] M Q E = (lookable d ∧ Q (.bl (asQ d).isSome) M) := rfl
theorem look_frq : lookable (frq a) := ⟨rfl, rfl⟩
theorem u_is_fractionF : sp_is_fraction [frq a] M Q E = Q (.bl true) M := by
  rw [u_is_fraction, asQ_frq]
  exact propext ⟨fun h => h.2, fun h => ⟨look_frq, h⟩⟩
theorem u_is_less : sp_is_less [frq a, frq b] M Q E = ((qb 4000 a ∧ qb 4000 b) ∧ Q (.bl (decide (a < b))) M) := u_q2
theorem u_plus : sp_plus [frq a, frq b] M Q E = ((qb 4000 a ∧ qb 4000 b) ∧ Q (frq (a + b)) M) := u_q2
theorem u_minus : sp_minus [frq a, frq b] M Q E = ((qb 4000 a ∧ qb 4000 b) ∧ Q (frq (a - b)) M) := u_q2
theorem u_times : sp_times [frq a, frq b] M Q E = ((qb 4000 a ∧ qb 4000 b) ∧ Q (frq (a * b)) M) := u_q2
theorem u_over : sp_over [frq a, frq b] M Q E = ((b ≠ 0 ∧ qb 4000 a ∧ qb 4000 b) ∧ Q (frq (a / b)) M) := u_q2
theorem u_floor : sp_floor [frq a] M Q E = (qb 4000 a ∧ Q (.int a.floor) M) := u_q1
theorem u_ceiling : sp_ceiling [frq a] M Q E = (qb 4000 a ∧ Q (.int (-(-a).floor)) M) := u_q1
theorem u__law_lower : sp__law_lower [frq a, frq b] M Q E = ((qb 4000 a ∧ qb 4000 b) ∧ Q (.bl (decide (a < b))) M) := u_q2
theorem u__law_plus : sp__law_plus [frq a, frq b] M Q E = ((qb 4000 a ∧ qb 4000 b) ∧ Q (frq (a + b)) M) := u_q2
theorem u__law_minus : sp__law_minus [frq a, frq b] M Q E = ((qb 4000 a ∧ qb 4000 b) ∧ Q (frq (a - b)) M) := u_q2
theorem u__law_times : sp__law_times [frq a, frq b] M Q E = ((qb 4000 a ∧ qb 4000 b) ∧ Q (frq (a * b)) M) := u_q2
theorem u__law_over : sp__law_over [frq a, frq b] M Q E = ((b ≠ 0 ∧ qb 4000 a ∧ qb 4000 b) ∧ Q (frq (a / b)) M) := u_q2
theorem u__law_floor : sp__law_floor [frq a] M Q E = (qb 4000 a ∧ Q (.int a.floor) M) := u_q1
end
end DL
/-! K10S: what the law's own defs promise (own work). -/
namespace DL
open PySem
/-- true, and the pot at the first argument stays a pot -/
def potTrue : DSp := fun ds M Q _ => match ds with
  | [.own p] => Pot M p ∧ ∀ M', Pot M' p → Fram p M M' → Q (.bl true) M'
  | _ => False
theorem k_potTrue : SpOk 1 potTrue where
  len := fun ds M Q E h => by
    unfold potTrue at h
    split at h
    · rfl
    · exact h.elim
  ms := fun ds M Q Q' E E' hq hx h => by
    unfold potTrue at h ⊢
    split at h
    · exact ⟨h.1, fun M' h2 h3 => hq _ _ (h.2 M' h2 h3)⟩
    · exact h.elim
  nx := fun ds M Q E h => h
/-- the same, with a value beside the pot -/
def potTrue2 (C : D → Prop) : DSp := fun ds M Q _ => match ds with
  | [.own p, d] => (Pot M p ∧ C d) ∧ ∀ M', Pot M' p → Fram p M M' → Q (.bl true) M'
  | _ => False
theorem k_potTrue2 {C} : SpOk 2 (potTrue2 C) where
  len := fun ds M Q E h => by
    unfold potTrue2 at h
    split at h
    · rfl
    · exact h.elim
  ms := fun ds M Q Q' E E' hq hx h => by
    unfold potTrue2 at h ⊢
    split at h
    · exact ⟨h.1, fun M' h2 h3 => hq _ _ (h.2 M' h2 h3)⟩
    · exact h.elim
  nx := fun ds M Q E h => h
def sp__law_is_one : DSp := pureSp (d1 fun d => (lookable d, .bl (asQ d).isSome))
def sp__law_two_right : DSp := pureSp (q2 fun a b => (qb 100 a ∧ qb 100 b, .bl true))
def sp__law_one_right : DSp := pureSp (q1 fun a => (qb 1000 a, .bl true))
def sp__law_made_right : DSp := potTrue
def sp__law_great_right : DSp := potTrue
def sp__law_right : DSp := potTrue
def sp__law_values_right : DSp := potTrue2 fun d => ∃ q, d = frq q ∧ qb 100 q
/-- the law: true, whatever the script -/
def lawTrue : DSp := fun ds _ Q _ => match ds with
  | [.wl xs] => (xs.length ≤ 63 ∧ ∃ ns : List Int, xs = ns.map D.int) ∧ ∀ M', Q (.bl true) M'
  | _ => False
theorem k_lawTrue : SpOk 1 lawTrue where
  len := fun ds M Q E h => by
    unfold lawTrue at h
    split at h
    · rfl
    · exact h.elim
  ms := fun ds M Q Q' E E' hq hx h => by
    unfold lawTrue at h ⊢
    split at h
    · exact ⟨h.1, fun M' => hq _ _ (h.2 M')⟩
    · exact h.elim
  nx := fun ds M Q E h => h
def sp_law : DSp := lawTrue
theorem k__law_is_one : SpOk 1 sp__law_is_one := k_d1
theorem k__law_two_right : SpOk 2 sp__law_two_right := k_q2
theorem k__law_one_right : SpOk 1 sp__law_one_right := k_q1
theorem k__law_made_right : SpOk 1 sp__law_made_right := k_potTrue
theorem k__law_great_right : SpOk 1 sp__law_great_right := k_potTrue
theorem k__law_right : SpOk 1 sp__law_right := k_potTrue
theorem k__law_values_right : SpOk 2 sp__law_values_right := k_potTrue2
theorem k_law : SpOk 1 sp_law := k_lawTrue
section
variable {M : Sto} {Q : DK} {E : DXK} {a b : Rat} {i j : Int} {d : D} {p : Nat}
theorem u__law_is_one : sp__law_is_one [d] M Q E = (lookable d ∧ Q (.bl (asQ d).isSome) M) := rfl
theorem u__law_is_oneF : sp__law_is_one [frq a] M Q E = Q (.bl true) M := by
  rw [u__law_is_one, asQ_frq]
  exact propext ⟨fun h => h.2, fun h => ⟨look_frq, h⟩⟩
theorem u__law_two_right : sp__law_two_right [frq a, frq b] M Q E = ((qb 100 a ∧ qb 100 b) ∧ Q (.bl true) M) := u_q2
theorem u__law_one_right : sp__law_one_right [frq a] M Q E = (qb 1000 a ∧ Q (.bl true) M) := u_q1
theorem u__law_values_right : sp__law_values_right [.own p, d] M Q E = ((Pot M p ∧ ∃ q, d = frq q ∧ qb 100 q) ∧ ∀ M', Pot M' p → Fram p M M' → Q (.bl true) M') := rfl
theorem u__law_made_right : sp__law_made_right [.own p] M Q E = (Pot M p ∧ ∀ M', Pot M' p → Fram p M M' → Q (.bl true) M') := rfl
theorem u__law_great_right : sp__law_great_right [.own p] M Q E = (Pot M p ∧ ∀ M', Pot M' p → Fram p M M' → Q (.bl true) M') := rfl
theorem u__law_right : sp__law_right [.own p] M Q E = (Pot M p ∧ ∀ M', Pot M' p → Fram p M M' → Q (.bl true) M') := rfl
theorem u_potTrue : potTrue [.own p] M Q E = (Pot M p ∧ ∀ M', Pot M' p → Fram p M M' → Q (.bl true) M') := rfl
end
end DL
/-! FraR: loops by an invariant; stores; ints (own work). -/
namespace DL
open PySem
theorem forD_of {g : DTG} {tb : DTS} {D0 : DEnd} (I : Sl → Sto → Prop) : ∀ (xs : List D) (s : Sl) (M : Sto), I s M →
    (∀ x, x ∈ xs → ∀ s M, I s M → ∀ nx : Sl → Sto → Prop, (∀ s' M', I s' M' → nx s' M') → g x s M (fun s1 M1 => tb ⟨nx, D0.rt, D0.xs, D0.nx, nx⟩ s1 M1)) →
    (∀ s M, I s M → D0.nx s M) → forD g tb xs D0 s M
  | [], s, M, h0, _, he => he s M h0
  | x :: r, s, M, h0, hs, he => hs x (List.mem_cons_self ..) s M h0 _ (fun s' M' h => forD_of I r s' M' h (fun y m => hs y (List.mem_cons_of_mem _ m)) he)
theorem compD_of {g : DTG} {te : DTE} {s : Sl} {E : DXK} (I : Sto → Prop) (P : D → Prop) : ∀ (xs : List D) (M : Sto) (Q : List D → Sto → Prop), I M →
    (∀ x, x ∈ xs → ∀ M, I M → ∀ R : DK, (∀ y M', P y → I M' → R y M') → g x s M (fun s1 M1 => te s1 M1 R E)) →
    (∀ ys M', (∀ y, y ∈ ys → P y) → ys.length = xs.length → I M' → Q ys M') → compD g dYes te xs s M Q E
  | [], M, Q, h0, _, he => he [] M (fun _ m => nomatch m) rfl h0
  | x :: r, M, Q, h0, hs, he => by
    refine hs x (List.mem_cons_self ..) M h0 _ ?_
    intro y M' py hi
    exact compD_of I P r M' _ hi (fun z m => hs z (List.mem_cons_of_mem _ m)) (fun ys M2 h1 h2 h3 => he (y :: ys) M2 (fun z m => by
      rcases List.mem_cons.mp m with e | e
      · rw [e]; exact py
      · exact h1 z e) (by simp [h2]) h3)
theorem nat0 : ((0 : Nat) : Int) = 0 := rfl
theorem nat1 : ((1 : Nat) : Int) = 1 := rfl
theorem ord1 {x : D} : order 0 [0] [] [x] = [x] := rfl
theorem ord2 {x y : D} : order 0 [1, 0] [] [x, y] = [y, x] := rfl
theorem small_frq {q : Rat} (h : qb 1900 q) : smallD (frq q) := ⟨h.1, h.2, trivial⟩
theorem rep2 {x : D} : (List.replicate 2 [x]).flatten = [x, x] := rfl
theorem n10 : (Int.natAbs 10 < 2 ^ 64) = True := eq_true (by decide)
theorem ib_lit {k : Nat} {i : Int} (h : i.natAbs < 2 ^ 200) (l : 200 ≤ k) : ib k i := ib.mono (k := 200) h l
theorem sz_lit {i : Int} (h : i.natAbs < 2 ^ 200) : sz i := sz_ib (k := 200) h (by decide)
theorem u__law_draw {p : Nat} {many : Int} {M : Sto} {Q : DK} {E : DXK} : sp__law_draw [.own p, .int many] M Q E = ((Pot M p ∧ 1 ≤ many ∧ ib 4000 many) ∧ ∀ (r : Int) M', 0 ≤ r → r < many → Pot M' p → Fram p M M' → Q (.int r) M') := rfl
theorem u__law_pick {p : Nat} {xs : List D} {M : Sto} {Q : DK} {E : DXK} : sp__law_pick [.own p, .lst xs] M Q E = ((Pot M p ∧ 1 ≤ xs.length ∧ xs.length ≤ 100000) ∧ ∀ d M', d ∈ xs → Pot M' p → Fram p M M' → Q d M') := rfl
theorem q_ne {n d : Int} (hn : n ≠ 0) (hd : d ≠ 0) : Rat.divInt n d ≠ 0 := by
  intro z
  rw [Rat.divInt_eq_div] at z
  have hd' : (d : Rat) ≠ 0 := fun c => hd (by have := Rat.intCast_inj.mp (show (d : Rat) = ((0 : Int) : Rat) from c); exact this)
  have e := Rat.div_mul_cancel (a := (n : Rat)) hd'
  rw [z, Rat.zero_mul] at e
  exact hn (Rat.intCast_inj.mp (show (n : Rat) = ((0 : Int) : Rat) from e.symm))
theorem qm1 {n : Int} : Rat.divInt n (-1) = ((0 - n : Int) : Rat) := by
  rw [← q_int, show (0 : Int) - n = -n by omega]
  exact Rat.divInt_neg' n 1
theorem u__law_some {p : Nat} {M : Sto} {Q : DK} {E : DXK} : sp__law_some [.own p] M Q E = (Pot M p ∧ ∀ (q : Rat) M', qb 42 q → Pot M' p → Fram p M M' → Q (frq q) M') := rfl
theorem forD_ofN {g : DTG} {tb : DTS} {D0 : DEnd} (I : Nat → Sl → Sto → Prop) : ∀ (xs : List D) (n N : Nat) (s : Sl) (M : Sto), n + xs.length = N → I n s M →
    (∀ x, x ∈ xs → ∀ k s M, k < N → I k s M → ∀ nx : Sl → Sto → Prop, (∀ s' M', I (k + 1) s' M' → nx s' M') → g x s M (fun s1 M1 => tb ⟨nx, D0.rt, D0.xs, D0.nx, nx⟩ s1 M1)) →
    (∀ s M, I N s M → D0.nx s M) → forD g tb xs D0 s M
  | [], n, N, s, M, e, h0, _, he => he s M (by rw [← e]; exact h0)
  | x :: r, n, N, s, M, e, h0, hs, he => hs x (List.mem_cons_self ..) n s M (by simp only [List.length_cons] at e; omega) h0 _ (fun s' M' h => forD_ofN I r (n + 1) N s' M' (by simp only [List.length_cons] at e; omega) h (fun y m => hs y (List.mem_cons_of_mem _ m)) he)
theorem mem_ints {n : Nat} {a : Int} {d : D} (h : d ∈ intsD a n) : ∃ i, d = .int i ∧ a ≤ i ∧ i < a + n := by
  unfold intsD at h
  simp only [List.mem_map, List.mem_range] at h
  obtain ⟨k, hk, rfl⟩ := h
  exact ⟨_, rfl, by omega, by omega⟩
theorem len_ints {n : Nat} {a : Int} : (intsD a n).length = n := by
  unfold intsD
  simp
theorem bl_shows {a b : Bool} : shp (.lst [.bl a, .bl b]) = true ∧ shows (.lst [.bl a, .bl b]) := ⟨rfl, shows_of rfl ⟨trivial, trivial, trivial⟩ (Nat.le_of_ble_eq_true rfl)⟩
theorem pot_new {M : Sto} {a b : Int} (h1 : 0 ≤ a) (h2 : 0 ≤ b) (h3 : b < 2 ^ 32) : Pot (M ++ [some [.int a, .int b]]) M.length := ⟨a, b, by simp, h1, h2, h3⟩
theorem nat2 : ((2 : Nat) : Int) = 2 := rfl
def ixO (i : Int) : Option (Option (List D)) → Res
  | some (some ds) => opt (atD ds i)
  | _ => .no
theorem x_ixOw {M : Sto} {k : Nat} {i : Int} : fIx M (.own k) (.int i) = ixO i (M[k]?) := by
  show (match M[k]? with
    | some (some ds) => opt (atD ds i)
    | _ => .no) = _
  rcases M[k]? with - | (- | ds) <;> rfl
theorem x_ixOr {i : Int} {ds : List D} : ixO i (some (some ds)) = opt (atD ds i) := rfl
def lenO : Option (Option (List D)) → Res
  | some (some ds) => .ok (.int (ds.length : Nat))
  | _ => .no
theorem x_lenOw {M : Sto} {k : Nat} : fLen M [.own k] = lenO (M[k]?) := by
  show (match M[k]? with
    | some (some ds) => Res.ok (.int (ds.length : Nat))
    | _ => .no) = _
  rcases M[k]? with - | (- | ds) <;> rfl
theorem x_lenOr {ds : List D} : lenO (some (some ds)) = .ok (.int (ds.length : Nat)) := rfl
theorem e_ix30 {M : Sto} {d x y : D} {s : Sl} {nx : Sl → Sto → Prop} {k : Nat} : kIx3 d s nx k 0 M (some (some [x, y])) = nx s (M.set k (some [d, y])) := rfl
theorem e_ix31 {M : Sto} {d x y : D} {s : Sl} {nx : Sl → Sto → Prop} {k : Nat} : kIx3 d s nx k 1 M (some (some [x, y])) = nx s (M.set k (some [x, d])) := rfl
theorem set_at {M : Sto} {p : Nat} {o v : Option (List D)} (h : M[p]? = some o) : (M.set p v)[p]? = some v := by
  have : p < M.length := (List.getElem?_eq_some_iff.mp h).1
  simp [this]
theorem fram_set {M : Sto} {p : Nat} {v} : Fram p M (M.set p v) := ⟨List.length_set, fun j h => List.getElem?_set_ne (Ne.symm h)⟩
theorem floor_le {q : Rat} : q.floor.natAbs ≤ q.num.natAbs := by
  rw [← q_floor]
  have hd := q.den_pos
  rw [Int.fdiv_eq_ediv_of_nonneg _ (Int.le_of_lt denP)]
  rcases Int.lt_or_le q.num 0 with c | c
  · have u : q.num ≤ q.num / (q.den : Int) := by
      rw [Int.le_ediv_iff_mul_le denP]
      have := denP (q := q)
      have e : (1 : Int) ≤ (q.den : Int) := by omega
      have f : q.num * (q.den : Int) ≤ q.num * 1 := Int.mul_le_mul_of_nonpos_left (by omega) e
      omega
    have v : q.num / (q.den : Int) < 0 := Int.ediv_neg_of_neg_of_pos c denP
    omega
  · have u : q.num / (q.den : Int) ≤ q.num := Int.ediv_le_self _ c
    have v : 0 ≤ q.num / (q.den : Int) := Int.ediv_nonneg c (Int.le_of_lt denP)
    omega
theorem lt_int {a : Rat} {m : Int} : a < (m : Rat) ↔ a.floor < m := by
  rw [← Int.not_le, Rat.le_floor_iff]
  exact Rat.not_le.symm
theorem ceil_eq (a : Rat) : 0 - (0 - a.num).fdiv (a.den : Int) = -(-a).floor := by
  rw [← q_floor, Rat.neg_num, Rat.neg_den]
  have e : 0 - a.num = -a.num := by omega
  rw [e]
  omega
theorem high_eq (a : Rat) : (if a = (a.floor : Rat) then a.floor else a.floor + 1) = -(-a).floor := by
  have h1 : ((a.floor : Int) : Rat) ≤ a := Rat.le_floor_iff.mp (Int.le_refl _)
  have h2 : a < ((a.floor + 1 : Int) : Rat) := lt_int.mpr (by omega)
  have key : ∀ n : Int, n ≤ (-a).floor ↔ a ≤ ((-n : Int) : Rat) := by
    intro n
    rw [Rat.le_floor_iff, Rat.intCast_neg]
    grind
  split
  · rename_i c
    have u := (key (-a.floor)).mpr (by rw [Int.neg_neg, ← c]; exact Rat.le_refl)
    have v : ¬ (-a.floor + 1 ≤ (-a).floor) := by
      intro z
      have z := (key _).mp z
      rw [c, Rat.floor_intCast] at z
      have := Rat.intCast_le_intCast.mp z
      omega
    omega
  · rename_i c
    have u := (key (-(a.floor + 1))).mpr (by rw [Int.neg_neg]; exact Rat.le_of_lt h2)
    have v : ¬ (-a.floor ≤ (-a).floor) := by
      intro z
      have z := (key _).mp z
      rw [Int.neg_neg] at z
      exact c (Rat.le_antisymm z h1)
    omega
theorem u_is_integerI {M : Sto} {Q : DK} {E : DXK} {i : Int} : sp_is_integer [.int i] M Q E = Q (.bl true) M := by
  rw [u_is_integer]
  exact propext ⟨fun h => h.2, fun h => ⟨rfl, h⟩⟩
theorem gcd_fmod (x y : Int) : Nat.gcd y.natAbs (x.fmod y).natAbs = Nat.gcd x.natAbs y.natAbs := by
  show Int.gcd y (x.fmod y) = Int.gcd x y
  rw [Int.fmod_def, Int.gcd_comm x y]
  have e : x - y * x.fdiv y = x + y * (-(x.fdiv y)) := by rw [Int.mul_neg]; omega
  rw [e]
  exact Int.gcd_add_mul_left_right ..
theorem fmod_lt_abs (x : Int) {y : Int} (h : y ≠ 0) : (x.fmod y).natAbs < y.natAbs := by
  rcases Int.lt_or_lt_of_ne h with c | c
  · have e := Int.neg_fmod_neg x y
    have h1 := Int.fmod_nonneg_of_pos (-x) (b := -y) (by omega)
    have h2 := Int.fmod_lt_of_pos (-x) (b := -y) (by omega)
    omega
  · have h1 := Int.fmod_nonneg_of_pos x c
    have h2 := Int.fmod_lt_of_pos x c
    omega
theorem sz_small {i : Int} (h : i.natAbs < 2 ^ 64) : sz i := sz_ib (k := 64) h (by decide)
theorem isI_cases (d : D) : (∃ i, d = .int i) ∨ isI d = false := by
  cases d <;> first | exact .inl ⟨_, rfl⟩ | exact .inr rfl
theorem asQ_no1 {x y : D} (h : isI x = false) : asQ (.tup [x, y]) = none := by
  cases x <;> first | rfl | cases h
theorem asQ_no2 {x y : D} (h : isI y = false) : asQ (.tup [x, y]) = none := by
  cases x <;> cases y <;> first | rfl | cases h
theorem asQ_ii {n d : Int} : (asQ (.tup [.int n, .int d])).isSome = (decide (1 ≤ d) && decide (Nat.gcd n.natAbs d.natAbs = 1)) := by
  unfold asQ
  by_cases h1 : 1 ≤ d <;> by_cases h2 : Nat.gcd n.natAbs d.natAbs = 1 <;> simp [h1, h2]
theorem l_isint {i : Nat} {s : Sl} {d : D} {M : Sto} {Q : DK} {E : DXK} (h : look s i = some d) (hv : isV d = true) : dAndV (dFn fIsi (dCons (dVar i) (dCons (dC (.ty .int)) dNil))) (dNotV (dFn fIsi (dCons (dVar i) (dCons (dC (.ty .bool)) dNil)))) s M Q E = Q (.bl (isI d)) M := by
  have e : ∀ R : DK, dVar i s M R E = R d M := fun R => by rw [e_Var, h]; rfl
  simp only [e_AndV, e_Fn, e_Cons, e]
  cases d <;> first | (cases hv; done) | (simp only [e_kC1, e_kC2, e_Cons, e_Nil, e_C, e_kFn, x_isi, y_non, y_bl, y_int, y_str, y_tup, y_lst, y_wl, y_emp, x_isiR, e_ap2, okT, subT, e_kR, e_kAndVT, e_kAndVF, e_NotV, e_Fn, e, e_kNotV, true_and, isI, Bool.not_false, Bool.not_true])
end DL
/-! readings of the defs over data; printed by gen.py -/
namespace K10
open PySem DL
abbrev c_NOUGHT : D := .tup [.int 0, .int 1]
def t__law_pot : DTS := (dSeq (dAsg (dIfE (dT (dBin fLt (dVar 1) (dFn fLen (dCons (dVar 0) dNil)))) (dFn fAbs (dCons (dBin fIx (dVar 0) (dVar 1)) dNil)) (dBin fAdd (dBin fMul (dC (.int 1201)) (dVar 1)) (dC (.int 901)))) (gN 2)) (dRet (dLstO (dCons (dFn fMax2 (dCons (dC (.int 0)) (dCons (dBin fSub (dVar 2) (dBin fPow (dC (.int 10)) (dC (.int 18)))) dNil))) (dCons (dBin fAdd (dBin fMod (dFn fInt1 (dCons (dBin fAdd (dBin fAdd (dBin fMul (dBin fMod (dFn fInt1 (dCons (dVar 2) dNil)) (dC (.int 2147483549))) (dC (.int 40692))) (dBin fMul (dC (.int 1201)) (dVar 1))) (dC (.int 901))) dNil)) (dC (.int 2147483563))) (dC (.int 1))) dNil)))))
def t__law_gcd : DTS := (dSeq (dWhile (dT (dBin fNe (dVar 1) (dC (.int 0)))) (dPar 0 1 (dCons (dVar 1) (dCons (dBin fMod (dFn fInt1 (dCons (dVar 0) dNil)) (dVar 1)) dNil)))) (dRet (dFn fAbs (dCons (dVar 0) dNil))))
def t__law_made : DTS := (dSeq (dAsg (dCall sp__law_gcd (dCons (dVar 0) (dCons (dVar 1) dNil))) (gN 2)) (dSeq (dAsg (dIfE (dT (dBin fGt (dVar 1) (dC (.int 0)))) (dVar 2) (dBin fSub (dC (.int 0)) (dVar 2))) (gN 2)) (dRet (dTup (dCons (dBin fDiv (dVar 0) (dVar 2)) (dCons (dBin fDiv (dVar 1) (dVar 2)) dNil))))))
def t__law_draw : DTS := (dSeq (dIf (dT (dBin fGt (dBin fIx (dVar 0) (dC (.int 0))) (dC (.int 0)))) (dSeq (dAsg (dFn fDivmod (dCons (dBin fIx (dVar 0) (dC (.int 0))) (dCons (dVar 1) dNil))) (gT 2 (gsCons (gIx (dVar 0) (dC (.int 0))) (gsCons (gN 2) gsNil)))) (dRet (dVar 2))) dNext) (dSeq (dAsg (dBin fMod (dFn fInt1 (dCons (dBin fAdd (dBin fMul (dBin fIx (dVar 0) (dC (.int 1))) (dC (.int 40014))) (dC (.int 1201))) dNil)) (dC (.int 2147483587))) (gIx (dVar 0) (dC (.int 1)))) (dRet (dBin fMod (dFn fInt1 (dCons (dBin fDiv (dBin fMod (dFn fInt1 (dCons (dBin fMul (dBin fIx (dVar 0) (dC (.int 1))) (dBin fIx (dVar 0) (dC (.int 1)))) dNil)) (dC (.int 2147483549))) (dC (.int 17))) dNil)) (dVar 1)))))
def t__law_pick : DTS := (dRet (dBin fIx (dVar 1) (dCall sp__law_draw (dCons (dVar 0) (dCons (dFn fLen (dCons (dVar 1) dNil)) dNil)))))
def t__law_some : DTS := (dSeq (dAsg (dCall sp__law_draw (dCons (dVar 0) (dCons (dC (.int 12)) dNil))) (gN 1)) (dSeq (dIf (dT (dBin fEq (dVar 1) (dC (.int 0)))) (dRet (dCall sp__law_made (dCons (dBin fSub (dCall sp__law_draw (dCons (dVar 0) (dCons (dBin fMul (dC (.int 2)) (dBin fPow (dC (.int 10)) (dC (.int 12)))) dNil))) (dBin fPow (dC (.int 10)) (dC (.int 12)))) (dCons (dBin fAdd (dC (.int 1)) (dCall sp__law_draw (dCons (dVar 0) (dCons (dBin fPow (dC (.int 10)) (dC (.int 12))) dNil)))) dNil)))) dNext) (dRet (dCall sp__law_made (dCons (dBin fSub (dCall sp__law_draw (dCons (dVar 0) (dCons (dC (.int 81)) dNil))) (dC (.int 40))) (dCons (dIfE (dT (dBin fLt (dVar 1) (dC (.int 5)))) (dBin fAdd (dC (.int 1)) (dCall sp__law_draw (dCons (dVar 0) (dCons (dC (.int 12)) dNil)))) (dCall sp__law_pick (dCons (dVar 0) (dCons (dLst (dCons (dC (.int 1)) (dCons (dC (.int 2)) (dCons (dC (.int 4)) dNil)))) dNil)))) dNil))))))
def t_is_integer : DTS := (dRet (dAndV (dFn fIsi (dCons (dVar 0) (dCons (dC (.ty .int)) dNil))) (dNotV (dFn fIsi (dCons (dVar 0) (dCons (dC (.ty .bool)) dNil))))))
def t_is_fraction : DTS := (dSeq (dIf (dOr (dNot (dT (dFn fIsi (dCons (dVar 0) (dCons (dC (.ty .tuple)) dNil))))) (dOr (dT (dBin fNe (dFn fLen (dCons (dVar 0) dNil)) (dC (.int 2)))) (dOr (dNot (dT (dCall sp_is_integer (dCons (dBin fIx (dVar 0) (dC (.int 0))) dNil)))) (dNot (dT (dCall sp_is_integer (dCons (dBin fIx (dVar 0) (dC (.int 1))) dNil))))))) (dRet (dC (.bl false))) dNext) (dRet (dAndV (dBin fGe (dBin fIx (dVar 0) (dC (.int 1))) (dC (.int 1))) (dBin fEq (dFn fGcd (dCons (dBin fIx (dVar 0) (dC (.int 0))) (dCons (dBin fIx (dVar 0) (dC (.int 1))) dNil))) (dC (.int 1))))))
def t_want_fraction : DTS := (dSeq (dIf (dNot (dT (dCall sp_is_fraction (dCons (dVar 0) dNil)))) dNever dNext) (dRet (dVar 0)))
def t_fraction : DTS := (dSeq (dAsg (dFn fGcd (dCons (dVar 0) (dCons (dVar 1) dNil))) (gN 2)) (dSeq (dIf (dT (dBin fLt (dVar 1) (dC (.int 0)))) (dAsg (dBin fSub (dC (.int 0)) (dVar 2)) (gN 2)) dNext) (dRet (dTup (dCons (dBin fDiv (dVar 0) (dVar 2)) (dCons (dBin fDiv (dVar 1) (dVar 2)) dNil))))))
def t_added : DTS := (dRet (dCall sp_fraction (dCons (dBin fAdd (dBin fMul (dBin fIx (dVar 0) (dC (.int 0))) (dBin fIx (dVar 1) (dC (.int 1)))) (dBin fMul (dBin fIx (dVar 1) (dC (.int 0))) (dBin fIx (dVar 0) (dC (.int 1))))) (dCons (dBin fMul (dBin fIx (dVar 0) (dC (.int 1))) (dBin fIx (dVar 1) (dC (.int 1)))) dNil))))
def t_plus : DTS := (dRet (dCall sp_added (dCons (dCall sp_want_fraction (dCons (dVar 0) dNil)) (dCons (dCall sp_want_fraction (dCons (dVar 1) dNil)) dNil))))
def t__law_lower : DTS := (dRet (dBin fLt (dBin fMul (dBin fIx (dVar 0) (dC (.int 0))) (dBin fIx (dVar 1) (dC (.int 1)))) (dBin fMul (dBin fIx (dVar 1) (dC (.int 0))) (dBin fIx (dVar 0) (dC (.int 1))))))
def t__law_floor : DTS := (dSeq (dPar 1 2 (dCons (dBin fSub (dBin fSub (dC (.int 0)) (dFn fAbs (dCons (dBin fIx (dVar 0) (dC (.int 0))) dNil))) (dC (.int 1))) (dCons (dBin fAdd (dFn fAbs (dCons (dBin fIx (dVar 0) (dC (.int 0))) dNil)) (dC (.int 1))) dNil))) (dSeq (dWhile (dT (dBin fGt (dBin fSub (dVar 2) (dVar 1)) (dC (.int 1)))) (dSeq (dAsg (dBin fDiv (dBin fAdd (dVar 1) (dVar 2)) (dC (.int 2))) (gN 3)) (dAsg (dIfE (dNot (dT (dCall sp__law_lower (dCons (dVar 0) (dCons (dTup (dCons (dVar 3) (dCons (dC (.int 1)) dNil))) dNil))))) (dTup (dCons (dVar 3) (dCons (dVar 2) dNil))) (dTup (dCons (dVar 1) (dCons (dVar 3) dNil)))) (gT 2 (gsCons (gN 1) (gsCons (gN 2) gsNil)))))) (dRet (dVar 1))))
def t_ceiling_of : DTS := (dRet (dBin fSub (dC (.int 0)) (dBin fDiv (dBin fSub (dC (.int 0)) (dBin fIx (dVar 0) (dC (.int 0)))) (dBin fIx (dVar 0) (dC (.int 1))))))
def t_ceiling : DTS := (dRet (dCall sp_ceiling_of (dCons (dCall sp_want_fraction (dCons (dVar 0) dNil)) dNil)))
def t_floor_of : DTS := (dRet (dBin fDiv (dBin fIx (dVar 0) (dC (.int 0))) (dBin fIx (dVar 0) (dC (.int 1)))))
def t_floor : DTS := (dRet (dCall sp_floor_of (dCons (dCall sp_want_fraction (dCons (dVar 0) dNil)) dNil)))
def t__law_one_right : DTS := (dSeq (dAsg (dCall sp__law_floor (dCons (dVar 0) dNil)) (gN 1)) (dSeq (dAsg (dIfE (dT (dBin fEq (dVar 0) (dTup (dCons (dVar 1) (dCons (dC (.int 1)) dNil))))) (dVar 1) (dBin fAdd (dVar 1) (dC (.int 1)))) (gN 2)) (dRet (dBin fEq (dFn fRepr (dCons (dLst (dCons (dCall sp_floor (dCons (dVar 0) dNil)) (dCons (dCall sp_ceiling (dCons (dVar 0) dNil)) (dCons (dCallK 0 1 sp_floor (fun us ws => order 0 [0] us ws) dNil (dCons (dVar 0) dNil)) (dCons (dCallK 0 1 sp_ceiling (fun us ws => order 0 [0] us ws) dNil (dCons (dVar 0) dNil)) (dCons (dCall sp_is_fraction (dCons (dVar 0) dNil)) dNil)))))) dNil)) (dFn fRepr (dCons (dLst (dCons (dVar 1) (dCons (dVar 2) (dCons (dVar 1) (dCons (dVar 2) (dCons (dC (.bl true)) dNil)))))) dNil))))))
def t__law_is_one : DTS := (dSeq (dIf (dOr (dNot (dT (dFn fIsi (dCons (dVar 0) (dCons (dC (.ty .tuple)) dNil))))) (dT (dBin fNe (dFn fLen (dCons (dVar 0) dNil)) (dC (.int 2))))) (dRet (dC (.bl false))) dNext) (dSeq (dIf (dNot (dT (dFn fAll (dCons (dComp (dIt (dVar 0)) (gN 1) dYes (dAndV (dFn fIsi (dCons (dVar 1) (dCons (dC (.ty .int)) dNil))) (dNotV (dFn fIsi (dCons (dVar 1) (dCons (dC (.ty .bool)) dNil))))) [1]) dNil)))) (dRet (dC (.bl false))) dNext) (dRet (dAndV (dBin fGt (dBin fIx (dVar 0) (dC (.int 1))) (dC (.int 0))) (dBin fEq (dCall sp__law_gcd (dCons (dBin fIx (dVar 0) (dC (.int 0))) (dCons (dBin fIx (dVar 0) (dC (.int 1))) dNil))) (dC (.int 1)))))))
def t__law_values_right : DTS := (dSeq (dAsg (dLst (dCons (dC .non) (dCons (dC (.int 0)) (dCons (dBin fIx (dVar 1) (dC (.int 0))) (dCons (dLst (dCons (dBin fIx (dVar 1) (dC (.int 0))) (dCons (dBin fIx (dVar 1) (dC (.int 1))) dNil))) (dCons (dBin fAdd (dVar 1) (dTup (dCons (dC (.int 1)) dNil))) (dCons (dTup (dCons (dBin fIx (dVar 1) (dC (.int 0))) dNil)) (dCons (dTup (dCons (dBin fIx (dVar 1) (dC (.int 0))) (dCons (dC (.int 0)) dNil))) (dCons (dTup (dCons (dBin fIx (dVar 1) (dC (.int 0))) (dCons (dBin fSub (dC (.int 0)) (dBin fIx (dVar 1) (dC (.int 1)))) dNil))) (dCons (dTup (dCons (dC (.bl true)) (dCons (dC (.int 1)) dNil))) (dCons (dTup (dCons (dC (.int 1)) (dCons (dC (.bl true)) dNil))) (dCons (dC (.str "1/2")) (dCons (dTup (dCons (dTup (dCons (dC (.int 1)) (dCons (dC (.int 2)) dNil))) (dCons (dC (.int 1)) dNil))) dNil))))))))))))) (gN 2)) (dSeq (dAsg (dBin fAdd (dVar 2) (dLst (dCons (dTup (dCons (dBin fMul (dBin fIx (dVar 1) (dC (.int 0))) (dC (.int 2))) (dCons (dBin fMul (dBin fIx (dVar 1) (dC (.int 1))) (dC (.int 2))) dNil))) (dCons (dTup (dCons (dC (.int 0)) (dCons (dC (.int 1)) dNil))) (dCons (dTup (dCons (dC (.int 0)) (dCons (dC (.int 2)) dNil))) (dCons (dTup (dCons (dBin fSub (dC (.int 0)) (dBin fIx (dVar 1) (dC (.int 0)))) (dCons (dBin fIx (dVar 1) (dC (.int 1))) dNil))) (dCons (dTup (dCons (dFn fStrI (dCons (dBin fIx (dVar 1) (dC (.int 0))) dNil)) (dCons (dBin fIx (dVar 1) (dC (.int 1))) dNil))) (dCons (dC .emp) dNil)))))))) (gN 2)) (dSeq (dFor (dIt (dLst (dCons (dCall sp__law_pick (dCons (dVar 0) (dCons (dVar 2) dNil))) (dCons (dCall sp__law_pick (dCons (dVar 0) (dCons (dVar 2) dNil))) (dCons (dCall sp__law_pick (dCons (dVar 0) (dCons (dVar 2) dNil))) dNil))))) (gN 3) (dIf (dT (dBin fNe (dFn fRepr (dCons (dLst (dCons (dCall sp_is_fraction (dCons (dVar 3) dNil)) (dCons (dCallK 0 1 sp_is_fraction (fun us ws => order 0 [0] us ws) dNil (dCons (dVar 3) dNil)) dNil))) dNil)) (dFn fRepr (dCons (dBin fMul (dLst (dCons (dCall sp__law_is_one (dCons (dVar 3) dNil)) dNil)) (dC (.int 2))) dNil)))) (dRet (dC (.bl false))) dNext)) (dRet (dC (.bl true))))))
def t_scaled : DTS := (dRet (dCall sp_fraction (dCons (dBin fMul (dBin fIx (dVar 0) (dC (.int 0))) (dBin fIx (dVar 1) (dC (.int 0)))) (dCons (dBin fMul (dBin fIx (dVar 0) (dC (.int 1))) (dBin fIx (dVar 1) (dC (.int 1)))) dNil))))
def t_times : DTS := (dRet (dCall sp_scaled (dCons (dCall sp_want_fraction (dCons (dVar 0) dNil)) (dCons (dCall sp_want_fraction (dCons (dVar 1) dNil)) dNil))))
def t__law_over : DTS := (dRet (dCall sp__law_made (dCons (dBin fMul (dBin fIx (dVar 0) (dC (.int 0))) (dBin fIx (dVar 1) (dC (.int 1)))) (dCons (dBin fMul (dBin fIx (dVar 0) (dC (.int 1))) (dBin fIx (dVar 1) (dC (.int 0)))) dNil))))
def t_taken : DTS := (dRet (dCall sp_fraction (dCons (dBin fSub (dBin fMul (dBin fIx (dVar 0) (dC (.int 0))) (dBin fIx (dVar 1) (dC (.int 1)))) (dBin fMul (dBin fIx (dVar 1) (dC (.int 0))) (dBin fIx (dVar 0) (dC (.int 1))))) (dCons (dBin fMul (dBin fIx (dVar 0) (dC (.int 1))) (dBin fIx (dVar 1) (dC (.int 1)))) dNil))))
def t_minus : DTS := (dRet (dCall sp_taken (dCons (dCall sp_want_fraction (dCons (dVar 0) dNil)) (dCons (dCall sp_want_fraction (dCons (dVar 1) dNil)) dNil))))
def t__law_times : DTS := (dRet (dCall sp__law_made (dCons (dBin fMul (dBin fIx (dVar 0) (dC (.int 0))) (dBin fIx (dVar 1) (dC (.int 0)))) (dCons (dBin fMul (dBin fIx (dVar 0) (dC (.int 1))) (dBin fIx (dVar 1) (dC (.int 1)))) dNil))))
def t__law_plus : DTS := (dRet (dCall sp__law_made (dCons (dBin fAdd (dBin fMul (dBin fIx (dVar 0) (dC (.int 0))) (dBin fIx (dVar 1) (dC (.int 1)))) (dBin fMul (dBin fIx (dVar 1) (dC (.int 0))) (dBin fIx (dVar 0) (dC (.int 1))))) (dCons (dBin fMul (dBin fIx (dVar 0) (dC (.int 1))) (dBin fIx (dVar 1) (dC (.int 1)))) dNil))))
def t_lower : DTS := (dRet (dBin fLt (dBin fMul (dBin fIx (dVar 0) (dC (.int 0))) (dBin fIx (dVar 1) (dC (.int 1)))) (dBin fMul (dBin fIx (dVar 1) (dC (.int 0))) (dBin fIx (dVar 0) (dC (.int 1))))))
def t_is_less : DTS := (dRet (dCall sp_lower (dCons (dCall sp_want_fraction (dCons (dVar 0) dNil)) (dCons (dCall sp_want_fraction (dCons (dVar 1) dNil)) dNil))))
def t_parted : DTS := (dRet (dCall sp_fraction (dCons (dBin fMul (dBin fIx (dVar 0) (dC (.int 0))) (dBin fIx (dVar 1) (dC (.int 1)))) (dCons (dBin fMul (dBin fIx (dVar 0) (dC (.int 1))) (dBin fIx (dVar 1) (dC (.int 0)))) dNil))))
def t_over : DTS := (dSeq (dDrop (dCall sp_want_fraction (dCons (dVar 0) dNil))) (dSeq (dDrop (dCall sp_want_fraction (dCons (dVar 1) dNil))) (dSeq (dIf (dT (dBin fEq (dVar 1) (dC c_NOUGHT))) dNever dNext) (dRet (dCall sp_parted (dCons (dVar 0) (dCons (dVar 1) dNil)))))))
def t__law_minus : DTS := (dRet (dCall sp__law_made (dCons (dBin fSub (dBin fMul (dBin fIx (dVar 0) (dC (.int 0))) (dBin fIx (dVar 1) (dC (.int 1)))) (dBin fMul (dBin fIx (dVar 1) (dC (.int 0))) (dBin fIx (dVar 0) (dC (.int 1))))) (dCons (dBin fMul (dBin fIx (dVar 0) (dC (.int 1))) (dBin fIx (dVar 1) (dC (.int 1)))) dNil))))
def t__law_two_right : DTS := (dSeq (dAsg (dLst (dCons (dCall sp_plus (dCons (dVar 0) (dCons (dVar 1) dNil))) (dCons (dCall sp_minus (dCons (dVar 0) (dCons (dVar 1) dNil))) (dCons (dCall sp_times (dCons (dVar 0) (dCons (dVar 1) dNil))) (dCons (dCall sp_is_less (dCons (dVar 0) (dCons (dVar 1) dNil))) dNil))))) (gN 2)) (dSeq (dIf (dT (dBin fNe (dFn fRepr (dCons (dVar 2) dNil)) (dFn fRepr (dCons (dLst (dCons (dCall sp__law_plus (dCons (dVar 0) (dCons (dVar 1) dNil))) (dCons (dCall sp__law_minus (dCons (dVar 0) (dCons (dVar 1) dNil))) (dCons (dCall sp__law_times (dCons (dVar 0) (dCons (dVar 1) dNil))) (dCons (dCall sp__law_lower (dCons (dVar 0) (dCons (dVar 1) dNil))) dNil))))) dNil)))) (dRet (dC (.bl false))) dNext) (dSeq (dAsg (dLst (dCons (dCallK 0 2 sp_plus (fun us ws => order 0 [1, 0] us ws) dNil (dCons (dVar 1) (dCons (dVar 0) dNil))) (dCons (dCallK 0 2 sp_minus (fun us ws => order 0 [1, 0] us ws) dNil (dCons (dVar 1) (dCons (dVar 0) dNil))) (dCons (dCallK 0 2 sp_times (fun us ws => order 0 [1, 0] us ws) dNil (dCons (dVar 1) (dCons (dVar 0) dNil))) (dCons (dCallK 0 2 sp_is_less (fun us ws => order 0 [1, 0] us ws) dNil (dCons (dVar 1) (dCons (dVar 0) dNil))) dNil))))) (gN 3)) (dSeq (dIf (dOr (dT (dBin fNe (dFn fRepr (dCons (dVar 3) dNil)) (dFn fRepr (dCons (dVar 2) dNil)))) (dOr (dT (dBin fNe (dCall sp_plus (dCons (dCall sp_minus (dCons (dVar 0) (dCons (dVar 1) dNil))) (dCons (dVar 1) dNil))) (dVar 0))) (dT (dBin fNe (dCall sp_minus (dCons (dVar 0) (dCons (dVar 0) dNil))) (dTup (dCons (dC (.int 0)) (dCons (dC (.int 1)) dNil))))))) (dRet (dC (.bl false))) dNext) (dSeq (dIf (dT (dBin fEq (dBin fIx (dVar 1) (dC (.int 0))) (dC (.int 0)))) (dRet (dC (.bl true))) dNext) (dRet (dAndV (dBin fEq (dFn fRepr (dCons (dLst (dCons (dCall sp_over (dCons (dVar 0) (dCons (dVar 1) dNil))) (dCons (dCallK 0 2 sp_over (fun us ws => order 0 [1, 0] us ws) dNil (dCons (dVar 1) (dCons (dVar 0) dNil))) dNil))) dNil)) (dFn fRepr (dCons (dBin fMul (dLst (dCons (dCall sp__law_over (dCons (dVar 0) (dCons (dVar 1) dNil))) dNil)) (dC (.int 2))) dNil))) (dBin fEq (dCall sp_times (dCons (dCall sp_over (dCons (dVar 0) (dCons (dVar 1) dNil))) (dCons (dVar 1) dNil))) (dVar 0)))))))))
def t__law_great_right : DTS := (dSeq (dAsg (dCall sp__law_made (dCons (dBin fSub (dCall sp__law_draw (dCons (dVar 0) (dCons (dBin fMul (dC (.int 2)) (dBin fPow (dC (.int 10)) (dC (.int 30)))) dNil))) (dBin fPow (dC (.int 10)) (dC (.int 30)))) (dCons (dBin fAdd (dC (.int 1)) (dCall sp__law_draw (dCons (dVar 0) (dCons (dBin fPow (dC (.int 10)) (dC (.int 30))) dNil)))) dNil))) (gN 1)) (dSeq (dAsg (dCall sp__law_made (dCons (dBin fAdd (dC (.int 1)) (dCall sp__law_draw (dCons (dVar 0) (dCons (dBin fPow (dC (.int 10)) (dC (.int 30))) dNil)))) (dCons (dBin fAdd (dC (.int 1)) (dCall sp__law_draw (dCons (dVar 0) (dCons (dBin fPow (dC (.int 10)) (dC (.int 30))) dNil)))) dNil))) (gN 2)) (dSeq (dAsg (dLst (dCons (dCall sp_plus (dCons (dVar 1) (dCons (dVar 2) dNil))) (dCons (dCall sp_minus (dCons (dVar 1) (dCons (dVar 2) dNil))) (dCons (dCall sp_times (dCons (dVar 1) (dCons (dVar 2) dNil))) (dCons (dCall sp_over (dCons (dVar 1) (dCons (dVar 2) dNil))) (dCons (dCall sp_is_less (dCons (dVar 1) (dCons (dVar 2) dNil))) (dCons (dCall sp_is_less (dCons (dVar 2) (dCons (dVar 1) dNil))) dNil))))))) (gN 3)) (dSeq (dAsg (dLst (dCons (dCall sp__law_plus (dCons (dVar 1) (dCons (dVar 2) dNil))) (dCons (dCall sp__law_minus (dCons (dVar 1) (dCons (dVar 2) dNil))) (dCons (dCall sp__law_times (dCons (dVar 1) (dCons (dVar 2) dNil))) (dCons (dCall sp__law_over (dCons (dVar 1) (dCons (dVar 2) dNil))) (dCons (dCall sp__law_lower (dCons (dVar 1) (dCons (dVar 2) dNil))) (dCons (dCall sp__law_lower (dCons (dVar 2) (dCons (dVar 1) dNil))) dNil))))))) (gN 4)) (dRet (dAndV (dBin fEq (dFn fRepr (dCons (dVar 3) dNil)) (dFn fRepr (dCons (dVar 4) dNil))) (dAndV (dCall sp__law_one_right (dCons (dVar 1) dNil)) (dCall sp__law_one_right (dCons (dVar 2) dNil)))))))))
def t_made : DTS := (dSeq (dIf (dNot (dT (dCall sp_is_integer (dCons (dVar 0) dNil)))) dNever dNext) (dSeq (dIf (dOr (dNot (dT (dCall sp_is_integer (dCons (dVar 1) dNil)))) (dT (dBin fEq (dVar 1) (dC (.int 0))))) dNever dNext) (dRet (dCall sp_fraction (dCons (dVar 0) (dCons (dVar 1) dNil))))))
def t__law_made_right : DTS := (dSeq (dAsg (dCall sp__law_pick (dCons (dVar 0) (dCons (dLst (dCons (dC (.int 20)) (dCons (dC (.int 400)) (dCons (dBin fPow (dC (.int 10)) (dC (.int 30))) dNil)))) dNil))) (gN 1)) (dSeq (dPar 2 3 (dCons (dBin fSub (dCall sp__law_draw (dCons (dVar 0) (dCons (dBin fMul (dC (.int 2)) (dVar 1)) dNil))) (dVar 1)) (dCons (dBin fSub (dCall sp__law_draw (dCons (dVar 0) (dCons (dBin fMul (dC (.int 2)) (dVar 1)) dNil))) (dVar 1)) dNil))) (dSeq (dAsg (dIfE (dT (dBin fNe (dVar 3) (dC (.int 0)))) (dVar 3) (dBin fSub (dC (.int 0)) (dC (.int 7)))) (gN 3)) (dSeq (dAsg (dCall sp__law_made (dCons (dVar 2) (dCons (dVar 3) dNil))) (gN 4)) (dSeq (dAsg (dLst (dCons (dCall sp_made (dCons (dVar 2) (dCons (dVar 3) dNil))) (dCons (dCallK 0 2 sp_made (fun us ws => order 0 [1, 0] us ws) dNil (dCons (dVar 3) (dCons (dVar 2) dNil))) (dCons (dCall sp_made (dCons (dVar 2) (dCons (dC (.int 1)) dNil))) (dCons (dCall sp_made (dCons (dVar 2) (dCons (dBin fSub (dC (.int 0)) (dC (.int 1))) dNil))) dNil))))) (gN 5)) (dRet (dAndV (dBin fEq (dFn fRepr (dCons (dVar 5) dNil)) (dFn fRepr (dCons (dLst (dCons (dVar 4) (dCons (dVar 4) (dCons (dTup (dCons (dVar 2) (dCons (dC (.int 1)) dNil))) (dCons (dTup (dCons (dBin fSub (dC (.int 0)) (dVar 2)) (dCons (dC (.int 1)) dNil))) dNil))))) dNil))) (dCall sp__law_is_one (dCons (dVar 4) dNil)))))))))
def t__law_right : DTS := (dSeq (dAsg (dLst (dCons (dCall sp__law_some (dCons (dVar 0) dNil)) (dCons (dCall sp__law_some (dCons (dVar 0) dNil)) (dCons (dTup (dCons (dC (.int 0)) (dCons (dC (.int 1)) dNil))) (dCons (dCall sp__law_some (dCons (dVar 0) dNil)) dNil))))) (gN 1)) (dSeq (dFor (dIt (dVar 1)) (gN 2) (dSeq (dIf (dOr (dNot (dT (dCall sp__law_one_right (dCons (dVar 2) dNil)))) (dNot (dT (dCall sp__law_values_right (dCons (dVar 0) (dCons (dVar 2) dNil)))))) (dRet (dC (.bl false))) dNext) (dIf (dNot (dT (dFn fAll (dCons (dComp (dIt (dVar 1)) (gN 7) dYes (dCall sp__law_two_right (dCons (dVar 2) (dCons (dVar 7) dNil))) [7]) dNil)))) (dRet (dC (.bl false))) dNext))) (dSeq (dAsg (dTup (dCons (dTup (dCons (dC (.int 0)) (dCons (dC (.int 1)) dNil))) (dCons (dTup (dCons (dC (.int 0)) (dCons (dC (.int 1)) dNil))) dNil))) (gT 2 (gsCons (gN 3) (gsCons (gN 4) gsNil)))) (dSeq (dFor (dRng1 (dCons (dC (.int 8)) dNil)) (gN 5) (dSeq (dAsg (dIfE (dT (dBin fLt (dVar 5) (dC (.int 2)))) (dCall sp__law_some (dCons (dVar 0) dNil)) (dCall sp__law_made (dCons (dBin fSub (dCall sp__law_draw (dCons (dVar 0) (dCons (dC (.int 81)) dNil))) (dC (.int 40))) (dCons (dBin fAdd (dC (.int 1)) (dCall sp__law_draw (dCons (dVar 0) (dCons (dC (.int 12)) dNil)))) dNil)))) (gN 6)) (dPar 3 4 (dCons (dCall sp_plus (dCons (dVar 3) (dCons (dVar 6) dNil))) (dCons (dCall sp__law_plus (dCons (dVar 4) (dCons (dVar 6) dNil))) dNil))))) (dRet (dAndV (dBin fEq (dVar 3) (dVar 4)) (dAndV (dCall sp__law_made_right (dCons (dVar 0) dNil)) (dCall sp__law_great_right (dCons (dVar 0) dNil)))))))))
def t_law : DTS := (dRet (dFn fAll (dCons (dComp (dRng1 (dCons (dFn fMax2 (dCons (dC (.int 1)) (dCons (dFn fMin2 (dCons (dC (.int 4)) (dCons (dFn fLen (dCons (dVar 0) dNil)) dNil))) dNil))) dNil)) (gN 1) dYes (dCall sp__law_right (dCons (dCall sp__law_pot (dCons (dVar 0) (dCons (dVar 1) dNil))) dNil)) [1]) dNil)))
end K10

namespace K10
open PySem DL
local macro_rules | `(tactic| walk_at "dl") => `(tactic| simp (config := { decide := false, implicitDefEqProofs := false }) only [e_Seq, e_seqNx, e_Next, e_Asg, e_kAsg, e_Ret, e_RetN, e_If, e_kIfT, e_kIfF, e_kIf, e_Drop, e_kDrop, e_Par, e_kPar, e_For, e_kFor, e_C, e_Var, e_kVar, e_Bin, e_kB1, e_kB2, e_kR, e_kF, e_kF2, e_kX, e_Un, e_kU, e_Nil, e_Cons, e_kC1, e_kC2, e_Fn, e_kFn, e_Tup, e_Lst, e_LstO, e_kTup, e_kLst, e_kLstO, e_Call, e_kCall, e_CallK, e_kK1, e_kK2, e_T, e_kBool, e_And, e_kAndT, e_kAndF, e_kAnd, e_Or, e_kOrT, e_kOrF, e_kOr, e_Not, e_kNot, e_AndV, e_kAndVT, e_kAndVF, e_kAndV, e_OrV, e_kOrVT, e_kOrVF, e_kOrV, e_NotV, e_kNotV, e_IfE, e_kIfET, e_kIfEF, e_kIfE, e_Chain, e_kCh1, e_kCh2, e_kCh3T, e_kCh3F, e_kCh3, e_kCh4, e_gN, e_gT, e_gsNil, e_gsCons, e_kGs, e_gIx, e_kIx1, e_kIx2, e_It, e_kItT, e_kItL, e_kItW, e_Rng1, e_kRng1, e_Rng2, e_kRng2, e_Comp, e_kComp, e_Yes, e_ap1, e_ap2, e_ap3, e_ap4, e_pureSp, e_look0, e_look1, e_put0, e_put1, e_wiped0, e_wiped1, ix_num, ix_den, len_frq, ty_frq, res_frq, res_lst, eq_ii, ne_ii, eq_ss, ne_ss, eq_ff, ne_ff, shp_frq, frq_int, rep_lst, u_fraction, u_made, u__law_made, u__law_gcd, u_lower, u_added, u_taken, u_scaled, u_parted, u_floor_of, u_ceiling_of, u_want_fraction, u_is_integerI, u_is_fractionF, u_is_less, u_plus, u_minus, u_times, u_over, u_floor, u_ceiling, u__law_lower, u__law_plus, u__law_minus, u__law_times, u__law_over, u__law_floor, q_add, q_sub, q_mul, q_div, q_lt, q_floor, num_int, x_add, x_addS, x_addT, x_addL, x_sub, x_mul, x_mulL, x_div, x_mod, x_pow, x_lt, x_le, x_gt, x_ge, x_neg, x_isN0, x_notN0, x_ixT, x_ixL, x_ixW, x_opt1, x_opt0, x_at0, x_at1, x_at2, x_at3, x_abs, x_max2, x_min2, x_int1, x_gcd, x_strI, x_divmod, x_lenT, x_lenL, x_lenW, x_isi, x_isiR, y_non, y_bl, y_int, y_str, y_tup, y_lst, y_wl, y_emp, subT, okT, e_never, rat0, rat1, decide_eq_true_eq, decide_eq_false_iff_not, Bool.not_true, Bool.not_false, Bool.not_eq_true', Bool.not_eq_false', decide_true, decide_false, eq_self, true_and, and_true, and_self, true_implies, false_implies, reduceCtorEq, List.length_cons, List.length_nil, Nat.zero_add, Nat.reduceAdd, Nat.reduceLeDiff, Nat.reduceLT, Nat.reduceEqDiff, Int.reduceLT, Int.reduceLE, Int.reduceEq, Int.reduceNe, Int.reduceToNat, Int.reduceNeg, Int.reduceAdd, Int.reduceSub, Int.reduceMul, reduceIte, ne_eq, Int.cast_ofNat_Int, nat0, nat1, nat2, x_ixOw, x_ixOr, x_lenOw, x_lenOr, e_kIx2, e_ix30, e_ix31, ord1, ord2, rep2, n10, u__law_some, u__law_values_right, u__law_made_right, u__law_great_right, q_int, qm1, u__law_draw, u__law_pick, sizeLine_eq, imp_false, not_true_eq_false, not_false_eq_true, u__law_is_oneF, u__law_two_right, u__law_one_right])
local macro_rules | `(tactic| walk_at "ib") => `(tactic| repeat' first | assumption | (with_reducible exact qb.num ‹_›) | (with_reducible exact ib_den ‹_›) | (with_reducible exact denI) | with_reducible apply And.intro | with_reducible apply a9 | with_reducible apply s9 | with_reducible apply m8 | with_reducible apply m9 | with_reducible apply sz4)
theorem vc__law_pot : ∀ ds M Q E, sp__law_pot ds M Q E → t__law_pot { nx := fun _ M' => Q .non M', rt := Q, xs := E } (dstart 3 ds) M := by
  intro ds M Q E h
  unfold sp__law_pot at h
  split at h
  · rename_i xs k
    obtain ⟨⟨h1, ⟨ns, rfl⟩, h3, h4⟩, hQ⟩ := h
    change t__law_pot _ [some (.wl (ns.map D.int)), some (.int k), none] M
    obtain ⟨n, rfl⟩ : ∃ n : Nat, k = (n : Int) := ⟨k.toNat, by omega⟩
    have fin : ∀ cell : Int, (sz (cell.fmod 2147483549) ∧ sz 40692) ∧ (sz 1201 ∧ sz (n : Int)) ∧
        Q (D.own (List.length M)) (M ++ [some [D.int (if cell - 10 ^ 18 > 0 then cell - 10 ^ 18 else 0), D.int ((cell.fmod 2147483549 * 40692 + 1201 * (n : Int) + 901).fmod 2147483563 + 1)]]) := by
      intro cell
      have z1 := Int.fmod_nonneg_of_pos cell (b := 2147483549) (by decide)
      have z2 := Int.fmod_lt_of_pos cell (b := 2147483549) (by decide)
      have z3 := Int.fmod_nonneg_of_pos (cell.fmod 2147483549 * 40692 + 1201 * (n : Int) + 901) (b := 2147483563) (by decide)
      have z4 := Int.fmod_lt_of_pos (cell.fmod 2147483549 * 40692 + 1201 * (n : Int) + 901) (b := 2147483563) (by decide)
      exact ⟨⟨sz_small (by omega), sz_small (by decide)⟩, ⟨sz_small (by decide), sz_small (by omega)⟩, hQ _ _ (by split <;> omega) (by omega) (by omega)⟩
    unfold t__law_pot
    walk_at "dl"
    have hlen : (ns.map D.int).length = ns.length := List.length_map ..
    simp only [hlen]
    refine ⟨fun c => ?_, fun c => ?_⟩
    · have hat : atD (ns.map D.int) (n : Int) = some (D.int (ns[n]'(by omega))) := by
        rw [x_atN (show n < (ns.map D.int).length by omega), List.getElem_map]
      simp only [hat]
      walk_at "dl"
      generalize (if ns[n] < 0 then -ns[n] else ns[n]) = cell
      exact fin cell
    · exact ⟨⟨sz_small (by decide), sz_small (by omega)⟩, fin _⟩
  · exact h.elim
theorem vc__law_gcd : ∀ ds M Q E, sp__law_gcd ds M Q E → t__law_gcd { nx := fun _ M' => Q .non M', rt := Q, xs := E } (dstart 2 ds) M := by
  intro ds M Q E h
  obtain ⟨a, b, rfl, -, hQ⟩ := i2_inv h
  change t__law_gcd _ [some (.int a), some (.int b)] M
  dsimp only at hQ
  unfold t__law_gcd
  walk_at "dl"
  refine ⟨fun m s M' => ∃ x y : Int, s = [some (.int x), some (.int y)] ∧ M' = M ∧ Nat.gcd x.natAbs y.natAbs = Nat.gcd a.natAbs b.natAbs ∧ m = y.natAbs, ⟨b.natAbs, a, b, rfl, rfl, rfl, rfl⟩, ?_⟩
  intro m s M' hw
  obtain ⟨x, y, rfl, rfl, hg, rfl⟩ := hw
  walk_at "dl"
  by_cases c : y = 0
  · rw [if_neg (fun z => z c)]
    subst c
    have e : (if x < 0 then -x else x) = ((Nat.gcd a.natAbs b.natAbs : Nat) : Int) := by
      rw [← hg]
      simp only [Int.natAbs_zero, Nat.gcd_zero_right]
      split <;> omega
    rw [e]
    exact hQ
  · rw [if_pos c]
    refine ⟨c, _, ?_, y, x.fmod y, rfl, ?_, rfl⟩
    · exact fmod_lt_abs x c
    · rw [gcd_fmod]
      exact hg
theorem vc__law_made : ∀ ds M Q E, sp__law_made ds M Q E → t__law_made { nx := fun _ M' => Q .non M', rt := Q, xs := E } (dstart 3 ds) M := by
  intro ds M Q E h
  obtain ⟨a, b, rfl, ⟨h0, ha, hb⟩, hQ⟩ := i2_inv h
  change t__law_made _ [some (.int a), some (.int b), none] M
  dsimp only at hQ
  have g0 : 0 < (Nat.gcd a.natAbs b.natAbs) := Nat.gcd_pos_of_pos_right _ (by omega)
  have g1 : (Nat.gcd a.natAbs b.natAbs) ≤ b.natAbs := Nat.gcd_le_right _ (by omega)
  have c1 : cDiv ((Nat.gcd a.natAbs b.natAbs : Nat) : Int) := ib_cDiv (k := 8500) (by unfold ib at *; omega) (by omega) (by decide)
  have c2 : cDiv (0 - ((Nat.gcd a.natAbs b.natAbs : Nat) : Int)) := ib_cDiv (k := 8500) (by unfold ib at *; omega) (by omega) (by decide)
  rw [← frq_div (n := a) h0] at hQ
  unfold sgd at hQ
  unfold t__law_made
  walk_at "dl"
  refine ⟨fun c => ⟨c1, c1, ?_⟩, fun c => ⟨c2, c2, ?_⟩⟩
  · rw [if_neg (by omega)] at hQ
    exact hQ
  · rw [if_pos (by omega)] at hQ
    exact hQ
theorem vc__law_draw : ∀ ds M Q E, sp__law_draw ds M Q E → t__law_draw { nx := fun _ M' => Q .non M', rt := Q, xs := E } (dstart 3 ds) M := by
  intro ds M Q E h
  unfold sp__law_draw at h
  split at h
  · rename_i p many
    obtain ⟨⟨⟨a, b, hp, h1, h2, h3⟩, h4, h5⟩, hQ⟩ := h
    change t__law_draw _ [some (.own p), some (.int many), none] M
    unfold t__law_draw
    repeat (first | simp only [set_at hp, hp] | walk_at "dl")
    refine ⟨fun c => ?_, fun c => ?_⟩
    · refine ⟨ib_cDiv h5 (by omega) (by decide), ?_⟩
      refine hQ _ _ (Int.fmod_nonneg_of_pos _ (by omega)) (Int.fmod_lt_of_pos _ (by omega)) ⟨_, b, set_at hp, ?_, h2, h3⟩ fram_set
      exact Int.fdiv_nonneg h1 (by omega)
    · have z1 := Int.fmod_nonneg_of_pos (b * 40014 + 1201) (b := 2147483587) (by decide)
      have z2 := Int.fmod_lt_of_pos (b * 40014 + 1201) (b := 2147483587) (by decide)
      have s1 : sz ((b * 40014 + 1201).fmod 2147483587) := sz_small (by omega)
      refine ⟨⟨sz_small (by omega), sz_small (by decide)⟩, s1, ⟨by decide, by decide⟩, by omega, ?_⟩
      exact hQ _ _ (Int.fmod_nonneg_of_pos _ (by omega)) (Int.fmod_lt_of_pos _ (by omega)) ⟨_, _, set_at hp, h1, z1, by omega⟩ fram_set
  · exact h.elim
theorem vc__law_pick : ∀ ds M Q E, sp__law_pick ds M Q E → t__law_pick { nx := fun _ M' => Q .non M', rt := Q, xs := E } (dstart 2 ds) M := by
  intro ds M Q E h
  unfold sp__law_pick at h
  split at h
  · rename_i p xs
    obtain ⟨⟨hp, h1, h2⟩, hQ⟩ := h
    change t__law_pick _ [some (.own p), some (.lst xs)] M
    unfold t__law_pick
    walk_at "dl"
    refine ⟨⟨hp, by omega, ?_⟩, ?_⟩
    · unfold ib
      have : 2 ^ 17 ≤ 2 ^ 4000 := Nat.pow_le_pow_right (by decide) (by decide)
      omega
    intro r M' r1 r2 hp' hf
    obtain ⟨n, rfl⟩ : ∃ n : Nat, r = (n : Int) := ⟨r.toNat, by omega⟩
    rw [x_atN (show n < xs.length by omega), x_opt1, e_ap1]
    exact hQ _ _ (List.getElem_mem _) hp' hf
  · exact h.elim
theorem vc__law_some : ∀ ds M Q E, sp__law_some ds M Q E → t__law_some { nx := fun _ M' => Q .non M', rt := Q, xs := E } (dstart 2 ds) M := by
  intro ds M Q E h
  unfold sp__law_some at h
  split at h
  · rename_i p
    obtain ⟨hp, hQ⟩ := h
    change t__law_some _ [some (.own p), none] M
    unfold t__law_some
    walk_at "dl"
    refine ⟨⟨hp, ib_lit (by decide) (by decide)⟩, fun r M1 r0 r1 p1 f1 => ⟨fun c => ?_, fun c => ?_⟩⟩
    · refine ⟨⟨sz_lit (by decide), sz_lit (by decide)⟩, ⟨p1, by decide, ib_lit (by decide) (by decide)⟩, fun r2 M2 a0 a1 p2 f2 => ⟨⟨p2, by decide, ib_lit (by decide) (by decide)⟩, fun r3 M3 b0 b1 p3 f3 => ?_⟩⟩
      have i1 : ib 42 (r2 - 10 ^ 12) := by
        unfold ib
        omega
      have i2 : ib 42 (1 + r3) := by
        unfold ib
        omega
      exact ⟨⟨by omega, i1.mono (by decide), i2.mono (by decide)⟩, hQ _ _ (qb_div i1 i2 (by decide)) p3 (f1.trans (f2.trans f3))⟩
    · refine ⟨⟨p1, ib_lit (by decide) (by decide)⟩, fun r2 M2 a0 a1 p2 f2 => ⟨fun c2 => ⟨⟨p2, ib_lit (by decide) (by decide)⟩, fun r3 M3 b0 b1 p3 f3 => ?_⟩, fun c2 => ?_⟩⟩
      · have i1 : ib 42 (r2 - 40) := by
          unfold ib
          omega
        have i2 : ib 42 (1 + r3) := by
          unfold ib
          omega
        exact ⟨⟨by omega, i1.mono (by decide), i2.mono (by decide)⟩, hQ _ _ (qb_div i1 i2 (by decide)) p3 (f1.trans (f2.trans f3))⟩
      · refine ⟨p2, fun d M3 hd p3 f3 => ?_⟩
        obtain ⟨e, rfl, e1, e2⟩ : ∃ e : Int, d = .int e ∧ 1 ≤ e ∧ e ≤ 4 := by
          simp only [List.mem_cons, List.not_mem_nil, or_false] at hd
          rcases hd with rfl | rfl | rfl <;> exact ⟨_, rfl, by decide, by decide⟩
        walk_at "dl"
        have i1 : ib 42 (r2 - 40) := by
          unfold ib
          omega
        have i2 : ib 42 e := by
          unfold ib
          omega
        exact ⟨⟨by omega, i1.mono (by decide), i2.mono (by decide)⟩, hQ _ _ (qb_div i1 i2 (by decide)) p3 (f1.trans (f2.trans f3))⟩
  · exact h.elim
theorem vc_is_integer : ∀ ds M Q E, sp_is_integer ds M Q E → t_is_integer { nx := fun _ M' => Q .non M', rt := Q, xs := E } (dstart 1 ds) M := by
  intro ds M Q E h
  obtain ⟨d, rfl, h0, hQ⟩ := d1_inv h
  change t_is_integer _ [some d] M
  dsimp only at hQ h0
  unfold t_is_integer
  cases d <;> first | (cases h0; done) | (walk_at "dl"; exact hQ)
theorem vc_is_fraction : ∀ ds M Q E, sp_is_fraction ds M Q E → t_is_fraction { nx := fun _ M' => Q .non M', rt := Q, xs := E } (dstart 1 ds) M := by
  intro ds M Q E h
  obtain ⟨d, rfl, h0, hQ⟩ := d1_inv h
  change t_is_fraction _ [some d] M
  dsimp only at hQ h0
  unfold t_is_fraction
  match d, h0, hQ with
  | .tup [x, y], h0, hQ =>
    rcases isI_cases x with ⟨i, rfl⟩ | hx
    · rcases isI_cases y with ⟨j, rfl⟩ | hy
      · walk_at "dl"
        rw [asQ_ii] at hQ
        refine ⟨fun c => ?_, fun c => ?_⟩
        · rw [decide_eq_true c, Bool.true_and] at hQ
          rw [show decide (((i.natAbs.gcd j.natAbs : Nat) : Int) = 1) = decide (i.natAbs.gcd j.natAbs = 1) from decide_eq_decide.mpr (by omega)]
          exact hQ
        · rw [decide_eq_false c, Bool.false_and] at hQ
          exact hQ
      · walk_at "dl"
        simp only [u_is_integer, h0.2, hy]
        walk_at "dl"
        rw [asQ_no2 hy] at hQ
        exact hQ
    · walk_at "dl"
      simp only [u_is_integer, h0.1, hx]
      walk_at "dl"
      rw [asQ_no1 hx] at hQ
      exact hQ
  | .tup [], h0, hQ => walk_at "dl"; exact hQ
  | .tup [u], h0, hQ => walk_at "dl"; exact (show Q (D.bl (asQ (.tup [u])).isSome) M = Q (D.bl false) M by cases u <;> rfl) ▸ hQ
  | .tup (u :: v :: w :: r), h0, hQ =>
    walk_at "dl"
    have e : (asQ (.tup (u :: v :: w :: r))).isSome = false := by cases u <;> cases v <;> rfl
    rw [e] at hQ
    exact ⟨fun _ => hQ, fun c => absurd c (by omega)⟩
  | .non, h0, hQ => walk_at "dl"; exact hQ
  | .bl _, h0, hQ => walk_at "dl"; exact hQ
  | .int _, h0, hQ => walk_at "dl"; exact hQ
  | .str _, h0, hQ => walk_at "dl"; exact hQ
  | .lst _, h0, hQ => walk_at "dl"; exact hQ
  | .wl _, h0, hQ => walk_at "dl"; exact hQ
  | .emp, h0, hQ => walk_at "dl"; exact hQ
theorem vc_want_fraction : ∀ ds M Q E, sp_want_fraction ds M Q E → t_want_fraction { nx := fun _ M' => Q .non M', rt := Q, xs := E } (dstart 1 ds) M := by
  intro ds M Q E h
  obtain ⟨a, rfl, -, hQ⟩ := q1_inv h
  change t_want_fraction _ [some (frq a)] M
  unfold t_want_fraction
  walk_at "dl"
  exact hQ
theorem vc_fraction : ∀ ds M Q E, sp_fraction ds M Q E → t_fraction { nx := fun _ M' => Q .non M', rt := Q, xs := E } (dstart 3 ds) M := by
  intro ds M Q E h
  obtain ⟨a, b, rfl, ⟨h0, ha, hb⟩, hQ⟩ := i2_inv h
  change t_fraction _ [some (.int a), some (.int b), none] M
  dsimp only at hQ
  have g0 : 0 < (Nat.gcd a.natAbs b.natAbs) := Nat.gcd_pos_of_pos_right _ (by omega)
  have g1 : (Nat.gcd a.natAbs b.natAbs) ≤ b.natAbs := Nat.gcd_le_right _ (by omega)
  have c1 : cDiv ((Nat.gcd a.natAbs b.natAbs : Nat) : Int) := ib_cDiv (k := 8500) (by unfold ib at *; omega) (by omega) (by decide)
  have c2 : cDiv (0 - ((Nat.gcd a.natAbs b.natAbs : Nat) : Int)) := ib_cDiv (k := 8500) (by unfold ib at *; omega) (by omega) (by decide)
  rw [← frq_div (n := a) h0] at hQ
  unfold sgd at hQ
  unfold t_fraction
  walk_at "dl"
  refine ⟨fun c => ⟨c2, c2, ?_⟩, fun c => ⟨c1, c1, ?_⟩⟩
  · rw [if_pos c] at hQ
    exact hQ
  · rw [if_neg c] at hQ
    exact hQ
theorem vc_added : ∀ ds M Q E, sp_added ds M Q E → t_added { nx := fun _ M' => Q .non M', rt := Q, xs := E } (dstart 2 ds) M := by
  intro ds M Q E h
  obtain ⟨a, b, rfl, ⟨ha, hb⟩, hQ⟩ := q2_inv h
  change t_added _ [some (frq a), some (frq b)] M
  unfold t_added
  walk_at "dl"
  refine ⟨?_, ?_, ?_, ⟨Int.mul_ne_zero denI denI, ?_, ?_⟩, hQ⟩ <;> walk_at "ib"
theorem vc_plus : ∀ ds M Q E, sp_plus ds M Q E → t_plus { nx := fun _ M' => Q .non M', rt := Q, xs := E } (dstart 2 ds) M := by
  intro ds M Q E h
  obtain ⟨a, b, rfl, hab, hQ⟩ := q2_inv h
  change t_plus _ [some (frq a), some (frq b)] M
  unfold t_plus
  walk_at "dl"
  exact ⟨hab, hQ⟩
theorem vc__law_lower : ∀ ds M Q E, sp__law_lower ds M Q E → t__law_lower { nx := fun _ M' => Q .non M', rt := Q, xs := E } (dstart 2 ds) M := by
  intro ds M Q E h
  obtain ⟨a, b, rfl, ⟨ha, hb⟩, hQ⟩ := q2_inv h
  change t__law_lower _ [some (frq a), some (frq b)] M
  unfold t__law_lower
  walk_at "dl"
  exact ⟨⟨sz4 ha.num, sz4 (ib_den hb)⟩, ⟨sz4 hb.num, sz4 (ib_den ha)⟩, hQ⟩
theorem vc__law_floor : ∀ ds M Q E, sp__law_floor ds M Q E → t__law_floor { nx := fun _ M' => Q .non M', rt := Q, xs := E } (dstart 4 ds) M := by
  intro ds M Q E h
  obtain ⟨a, rfl, ha, hQ⟩ := q1_inv h
  change t__law_floor _ [some (frq a), none, none, none] M
  dsimp only at hQ ha
  have hf := floor_le (q := a)
  have hn := ha.num
  unfold t__law_floor
  walk_at "dl"
  refine ⟨fun m s M' => ∃ (lo hi : Int) (o : Option D), s = [some (frq a), some (.int lo), some (.int hi), o] ∧ M' = M ∧ lo ≤ a.floor ∧ a.floor < hi ∧ lo.natAbs ≤ a.num.natAbs + 1 ∧ hi.natAbs ≤ a.num.natAbs + 1 ∧ m = (hi - lo).toNat, ⟨_, _, _, _, rfl, rfl, ?_, ?_, ?_, ?_, rfl⟩, ?_⟩
  · split <;> omega
  · split <;> omega
  · split <;> omega
  · split <;> omega
  intro m s M' hw
  obtain ⟨lo, hi, o, rfl, rfl, h1, h2, h3, h4, rfl⟩ := hw
  walk_at "dl"
  by_cases c : 1 < hi - lo
  · rw [if_pos c]
    have hm : (lo + hi).fdiv 2 = (lo + hi) / 2 := Int.fdiv_eq_ediv_of_nonneg _ (by decide)
    rw [hm]
    have b1 : lo < (lo + hi) / 2 := by omega
    have b2 : (lo + hi) / 2 < hi := by omega
    have hi4 : ib 4000 ((lo + hi) / 2) := by
      unfold ib at *
      omega
    refine ⟨⟨by decide, by decide⟩, ⟨ha, qb_int hi4 (by decide)⟩, ?_, ?_⟩
    · intro g
      have g' : ¬ a.floor < (lo + hi) / 2 := fun z => g (lt_int.mpr z)
      exact ⟨_, by omega, _, _, _, rfl, by omega, by omega, by omega, by omega, rfl⟩
    · intro g
      have g' : a.floor < (lo + hi) / 2 := lt_int.mp (by first | exact g | exact Classical.not_not.mp g)
      exact ⟨_, by omega, _, _, _, rfl, by omega, by omega, by omega, by omega, rfl⟩
  · rw [if_neg c]
    have e : lo = a.floor := by omega
    rw [e]
    exact hQ
theorem vc_ceiling_of : ∀ ds M Q E, sp_ceiling_of ds M Q E → t_ceiling_of { nx := fun _ M' => Q .non M', rt := Q, xs := E } (dstart 1 ds) M := by
  intro ds M Q E h
  obtain ⟨a, rfl, ha, hQ⟩ := q1_inv h
  change t_ceiling_of _ [some (frq a)] M
  unfold t_ceiling_of
  walk_at "dl"
  rw [ceil_eq]
  exact ⟨ib_cDiv (ib_den ha) denI (by decide), hQ⟩
theorem vc_ceiling : ∀ ds M Q E, sp_ceiling ds M Q E → t_ceiling { nx := fun _ M' => Q .non M', rt := Q, xs := E } (dstart 1 ds) M := by
  intro ds M Q E h
  obtain ⟨a, rfl, ha, hQ⟩ := q1_inv h
  change t_ceiling _ [some (frq a)] M
  unfold t_ceiling
  walk_at "dl"
  exact ⟨ha, hQ⟩
theorem vc_floor_of : ∀ ds M Q E, sp_floor_of ds M Q E → t_floor_of { nx := fun _ M' => Q .non M', rt := Q, xs := E } (dstart 1 ds) M := by
  intro ds M Q E h
  obtain ⟨a, rfl, ha, hQ⟩ := q1_inv h
  change t_floor_of _ [some (frq a)] M
  unfold t_floor_of
  walk_at "dl"
  exact ⟨ib_cDiv (ib_den ha) denI (by decide), hQ⟩
theorem vc_floor : ∀ ds M Q E, sp_floor ds M Q E → t_floor { nx := fun _ M' => Q .non M', rt := Q, xs := E } (dstart 1 ds) M := by
  intro ds M Q E h
  obtain ⟨a, rfl, ha, hQ⟩ := q1_inv h
  change t_floor _ [some (frq a)] M
  unfold t_floor
  walk_at "dl"
  exact ⟨ha, hQ⟩
theorem vc__law_one_right : ∀ ds M Q E, sp__law_one_right ds M Q E → t__law_one_right { nx := fun _ M' => Q .non M', rt := Q, xs := E } (dstart 3 ds) M := by
  intro ds M Q E h
  obtain ⟨a, rfl, ha, hQ⟩ := q1_inv h
  change t__law_one_right _ [some (frq a), none, none] M
  dsimp only at hQ ha
  have h4 : qb 4000 a := ha.mono (by decide)
  have hh := high_eq a
  have f1 : ib 1900 a.floor := (ib_floor ha).mono (by decide)
  have f2 : ib 1900 (-(-a).floor) := by
    have z : qb 1000 (-a) := ⟨by rw [Rat.neg_num, Int.natAbs_neg]; exact ha.1, by rw [Rat.neg_den]; exact ha.2⟩
    have z := (ib_floor z).mono (show 1001 ≤ 1900 by decide)
    unfold ib at *
    omega
  have hs : shp (D.lst [D.int a.floor, D.int (-(-a).floor), D.int a.floor, D.int (-(-a).floor), D.bl true]) = true ∧ shows (D.lst [D.int a.floor, D.int (-(-a).floor), D.int a.floor, D.int (-(-a).floor), D.bl true]) := ⟨rfl, shows_of rfl ⟨f1, f2, f1, f2, trivial, trivial⟩ (Nat.le_of_ble_eq_true rfl)⟩
  unfold t__law_one_right
  walk_at "dl"
  refine ⟨h4, fun c => ?_, fun c => ?_⟩
  · rw [if_pos c] at hh
    rw [← hh] at hs ⊢
    simp only [h4, hs, true_and, decide_true]
    exact hQ
  · rw [if_neg c] at hh
    rw [← hh] at hs ⊢
    simp only [h4, hs, true_and, decide_true]
    exact hQ
theorem vc__law_is_one : ∀ ds M Q E, sp__law_is_one ds M Q E → t__law_is_one { nx := fun _ M' => Q .non M', rt := Q, xs := E } (dstart 2 ds) M := by
  intro ds M Q E h
  obtain ⟨d, rfl, h0, hQ⟩ := d1_inv h
  change t__law_is_one _ [some d, none] M
  dsimp only at hQ h0
  unfold t__law_is_one
  match d, h0, hQ with
  | .tup [x, y], h0, hQ =>
    walk_at "dl"
    simp only [compD, e_gN, e_Yes, e_put0, e_put1, reduceIte]
    rw [l_isint rfl h0.1, l_isint rfl h0.2]
    rw [x_all]
    simp only [bools, Option.map_some, x_allR, List.all_cons, List.all_nil, Bool.and_true, id]
    rcases isI_cases x with ⟨i, rfl⟩ | hx
    · rcases isI_cases y with ⟨j, rfl⟩ | hy
      · simp only [isI, Bool.and_self]
        walk_at "dl"
        rw [asQ_ii] at hQ
        refine ⟨fun c => ?_, fun c => ?_⟩
        · rw [decide_eq_true (show (1 : Int) ≤ j by omega), Bool.true_and] at hQ
          rw [show decide (((i.natAbs.gcd j.natAbs : Nat) : Int) = 1) = decide (i.natAbs.gcd j.natAbs = 1) from decide_eq_decide.mpr (by omega)]
          exact hQ
        · rw [decide_eq_false (show ¬ (1 : Int) ≤ j by omega), Bool.false_and] at hQ
          exact hQ
      · simp only [hy, Bool.and_false]
        walk_at "dl"
        rw [asQ_no2 hy] at hQ
        exact hQ
    · simp only [hx, Bool.false_and]
      walk_at "dl"
      rw [asQ_no1 hx] at hQ
      exact hQ
  | .tup [], h0, hQ => walk_at "dl"; exact hQ
  | .tup [u], h0, hQ => walk_at "dl"; exact (show Q (D.bl (asQ (.tup [u])).isSome) M = Q (D.bl false) M by cases u <;> rfl) ▸ hQ
  | .tup (u :: v :: w :: r), h0, hQ =>
    walk_at "dl"
    have e : (asQ (.tup (u :: v :: w :: r))).isSome = false := by cases u <;> cases v <;> rfl
    rw [e] at hQ
    exact ⟨fun _ => hQ, fun c => absurd c (by omega)⟩
  | .non, h0, hQ => walk_at "dl"; exact hQ
  | .bl _, h0, hQ => walk_at "dl"; exact hQ
  | .int _, h0, hQ => walk_at "dl"; exact hQ
  | .str _, h0, hQ => walk_at "dl"; exact hQ
  | .lst _, h0, hQ => walk_at "dl"; exact hQ
  | .wl _, h0, hQ => walk_at "dl"; exact hQ
  | .emp, h0, hQ => walk_at "dl"; exact hQ
theorem vc__law_values_right : ∀ ds M Q E, sp__law_values_right ds M Q E → t__law_values_right { nx := fun _ M' => Q .non M', rt := Q, xs := E } (dstart 4 ds) M := by
  intro ds M Q E h
  unfold sp__law_values_right potTrue2 at h
  split at h
  · rename_i p d
    obtain ⟨⟨hp, q, rfl, hq⟩, hQ⟩ := h
    change t__law_values_right _ [some (.own p), some (frq q), none, none] M
    have ex : ∀ M, fAdd M (frq q) (.tup [.int 1]) = .side ([D.int q.num, D.int q.den] ≠ [] ∧ [D.int q.num, D.int q.den].length + 1 ≤ sizeLine) (.tup [.int q.num, .int q.den, .int 1]) := fun M => rfl
    have sn : sz q.num := sz_ib hq.num (by decide)
    have sd : sz (q.den : Int) := sz_ib hq.den (by decide)
    have sl : q.num.natAbs.log2 < 1920 := by
      by_cases z : q.num.natAbs = 0
      · rw [z]
        decide
      · exact (Nat.log2_lt z).mpr (hq.num.mono (by decide))
    unfold t__law_values_right
    obtain ⟨txt, htxt⟩ : ∃ t, t = D.str "1/2" := ⟨_, rfl⟩
    rw [← htxt]
    walk_at "dl"
    simp only [ex]
    walk_at "dl"
    refine ⟨⟨sn, sz_small (by decide)⟩, ⟨sd, sz_small (by decide)⟩, sl, ⟨hp, Nat.le_of_ble_eq_true rfl, Nat.le_of_ble_eq_true rfl⟩, fun d1 M1 m1 p1 f1 => ⟨⟨p1, Nat.le_of_ble_eq_true rfl, Nat.le_of_ble_eq_true rfl⟩, fun d2 M2 m2 p2 f2 => ⟨⟨p2, Nat.le_of_ble_eq_true rfl, Nat.le_of_ble_eq_true rfl⟩, fun d3 M3 m3 p3 f3 => ?_⟩⟩⟩
    subst htxt
    have l1 : lookable d1 := by
      simp only [List.mem_append, List.mem_cons, List.not_mem_nil, or_false] at m1
      rcases m1 with (rfl | rfl | rfl | rfl | rfl | rfl | rfl | rfl | rfl | rfl | rfl | rfl) | (rfl | rfl | rfl | rfl | rfl | rfl) <;> first | exact trivial | exact ⟨rfl, rfl⟩
    have l2 : lookable d2 := by
      simp only [List.mem_append, List.mem_cons, List.not_mem_nil, or_false] at m2
      rcases m2 with (rfl | rfl | rfl | rfl | rfl | rfl | rfl | rfl | rfl | rfl | rfl | rfl) | (rfl | rfl | rfl | rfl | rfl | rfl) <;> first | exact trivial | exact ⟨rfl, rfl⟩
    have l3 : lookable d3 := by
      simp only [List.mem_append, List.mem_cons, List.not_mem_nil, or_false] at m3
      rcases m3 with (rfl | rfl | rfl | rfl | rfl | rfl | rfl | rfl | rfl | rfl | rfl | rfl) | (rfl | rfl | rfl | rfl | rfl | rfl) <;> first | exact trivial | exact ⟨rfl, rfl⟩
    refine forD_of (fun s M' => (∃ a b c o, s = [a, b, c, o]) ∧ M' = M3) _ _ _ ⟨⟨_, _, _, _, rfl⟩, rfl⟩ ?_ ?_
    · intro x hx s M' hi nx hnx
      obtain ⟨⟨a, b, c, o, rfl⟩, rfl⟩ := hi
      have lk : lookable x := by
        simp only [List.mem_cons, List.not_mem_nil, or_false] at hx
        rcases hx with rfl | rfl | rfl <;> assumption
      walk_at "dl"
      simp only [u_is_fraction, u__law_is_one, lk, true_and]
      walk_at "dl"
      simp only [u_is_fraction, u__law_is_one, lk, true_and]
      walk_at "dl"
      simp only [u_is_fraction, u__law_is_one, lk, true_and]
      walk_at "dl"
      simp only [bl_shows, true_and]
      exact ⟨by decide, hnx _ _ ⟨⟨_, _, _, _, rfl⟩, rfl⟩⟩
    · intro s M' hi
      obtain ⟨⟨a, b, c, o, rfl⟩, rfl⟩ := hi
      walk_at "dl"
      exact hQ _ p3 (f1.trans (f2.trans f3))
  · exact h.elim
theorem vc_scaled : ∀ ds M Q E, sp_scaled ds M Q E → t_scaled { nx := fun _ M' => Q .non M', rt := Q, xs := E } (dstart 2 ds) M := by
  intro ds M Q E h
  obtain ⟨a, b, rfl, ⟨ha, hb⟩, hQ⟩ := q2_inv h
  change t_scaled _ [some (frq a), some (frq b)] M
  unfold t_scaled
  walk_at "dl"
  refine ⟨?_, ?_, ⟨Int.mul_ne_zero denI denI, ?_, ?_⟩, hQ⟩ <;> walk_at "ib"
theorem vc_times : ∀ ds M Q E, sp_times ds M Q E → t_times { nx := fun _ M' => Q .non M', rt := Q, xs := E } (dstart 2 ds) M := by
  intro ds M Q E h
  obtain ⟨a, b, rfl, hab, hQ⟩ := q2_inv h
  change t_times _ [some (frq a), some (frq b)] M
  unfold t_times
  walk_at "dl"
  exact ⟨hab, hQ⟩
theorem vc__law_over : ∀ ds M Q E, sp__law_over ds M Q E → t__law_over { nx := fun _ M' => Q .non M', rt := Q, xs := E } (dstart 2 ds) M := by
  intro ds M Q E h
  obtain ⟨a, b, rfl, ⟨h0, ha, hb⟩, hQ⟩ := q2_inv h
  change t__law_over _ [some (frq a), some (frq b)] M
  unfold t__law_over
  walk_at "dl"
  refine ⟨?_, ?_, ⟨Int.mul_ne_zero denI (fun z => h0 (Rat.num_eq_zero.mp z)), ?_, ?_⟩, hQ⟩ <;> walk_at "ib"
theorem vc_taken : ∀ ds M Q E, sp_taken ds M Q E → t_taken { nx := fun _ M' => Q .non M', rt := Q, xs := E } (dstart 2 ds) M := by
  intro ds M Q E h
  obtain ⟨a, b, rfl, ⟨ha, hb⟩, hQ⟩ := q2_inv h
  change t_taken _ [some (frq a), some (frq b)] M
  unfold t_taken
  walk_at "dl"
  refine ⟨?_, ?_, ?_, ⟨Int.mul_ne_zero denI denI, ?_, ?_⟩, hQ⟩ <;> walk_at "ib"
theorem vc_minus : ∀ ds M Q E, sp_minus ds M Q E → t_minus { nx := fun _ M' => Q .non M', rt := Q, xs := E } (dstart 2 ds) M := by
  intro ds M Q E h
  obtain ⟨a, b, rfl, hab, hQ⟩ := q2_inv h
  change t_minus _ [some (frq a), some (frq b)] M
  unfold t_minus
  walk_at "dl"
  exact ⟨hab, hQ⟩
theorem vc__law_times : ∀ ds M Q E, sp__law_times ds M Q E → t__law_times { nx := fun _ M' => Q .non M', rt := Q, xs := E } (dstart 2 ds) M := by
  intro ds M Q E h
  obtain ⟨a, b, rfl, ⟨ha, hb⟩, hQ⟩ := q2_inv h
  change t__law_times _ [some (frq a), some (frq b)] M
  unfold t__law_times
  walk_at "dl"
  refine ⟨?_, ?_, ⟨Int.mul_ne_zero denI denI, ?_, ?_⟩, hQ⟩ <;> walk_at "ib"
theorem vc__law_plus : ∀ ds M Q E, sp__law_plus ds M Q E → t__law_plus { nx := fun _ M' => Q .non M', rt := Q, xs := E } (dstart 2 ds) M := by
  intro ds M Q E h
  obtain ⟨a, b, rfl, ⟨ha, hb⟩, hQ⟩ := q2_inv h
  change t__law_plus _ [some (frq a), some (frq b)] M
  unfold t__law_plus
  walk_at "dl"
  refine ⟨?_, ?_, ?_, ⟨Int.mul_ne_zero denI denI, ?_, ?_⟩, hQ⟩ <;> walk_at "ib"
theorem vc_lower : ∀ ds M Q E, sp_lower ds M Q E → t_lower { nx := fun _ M' => Q .non M', rt := Q, xs := E } (dstart 2 ds) M := by
  intro ds M Q E h
  obtain ⟨a, b, rfl, ⟨ha, hb⟩, hQ⟩ := q2_inv h
  change t_lower _ [some (frq a), some (frq b)] M
  unfold t_lower
  walk_at "dl"
  exact ⟨⟨sz4 ha.num, sz4 (ib_den hb)⟩, ⟨sz4 hb.num, sz4 (ib_den ha)⟩, hQ⟩
theorem vc_is_less : ∀ ds M Q E, sp_is_less ds M Q E → t_is_less { nx := fun _ M' => Q .non M', rt := Q, xs := E } (dstart 2 ds) M := by
  intro ds M Q E h
  obtain ⟨a, b, rfl, hab, hQ⟩ := q2_inv h
  change t_is_less _ [some (frq a), some (frq b)] M
  unfold t_is_less
  walk_at "dl"
  exact ⟨hab, hQ⟩
theorem vc_parted : ∀ ds M Q E, sp_parted ds M Q E → t_parted { nx := fun _ M' => Q .non M', rt := Q, xs := E } (dstart 2 ds) M := by
  intro ds M Q E h
  obtain ⟨a, b, rfl, ⟨h0, ha, hb⟩, hQ⟩ := q2_inv h
  change t_parted _ [some (frq a), some (frq b)] M
  unfold t_parted
  walk_at "dl"
  refine ⟨?_, ?_, ⟨Int.mul_ne_zero denI (fun z => h0 (Rat.num_eq_zero.mp z)), ?_, ?_⟩, hQ⟩ <;> walk_at "ib"
theorem vc_over : ∀ ds M Q E, sp_over ds M Q E → t_over { nx := fun _ M' => Q .non M', rt := Q, xs := E } (dstart 2 ds) M := by
  intro ds M Q E h
  obtain ⟨a, b, rfl, ⟨h0, hab⟩, hQ⟩ := q2_inv h
  change t_over _ [some (frq a), some (frq b)] M
  unfold t_over c_NOUGHT
  walk_at "dl"
  exact ⟨h0, fun _ => ⟨⟨h0, hab⟩, hQ⟩⟩
theorem vc__law_minus : ∀ ds M Q E, sp__law_minus ds M Q E → t__law_minus { nx := fun _ M' => Q .non M', rt := Q, xs := E } (dstart 2 ds) M := by
  intro ds M Q E h
  obtain ⟨a, b, rfl, ⟨ha, hb⟩, hQ⟩ := q2_inv h
  change t__law_minus _ [some (frq a), some (frq b)] M
  unfold t__law_minus
  walk_at "dl"
  refine ⟨?_, ?_, ?_, ⟨Int.mul_ne_zero denI denI, ?_, ?_⟩, hQ⟩ <;> walk_at "ib"
theorem vc__law_two_right : ∀ ds M Q E, sp__law_two_right ds M Q E → t__law_two_right { nx := fun _ M' => Q .non M', rt := Q, xs := E } (dstart 4 ds) M := by
  intro ds M Q E h
  obtain ⟨a, b, rfl, ⟨ha, hb⟩, hQ⟩ := q2_inv h
  change t__law_two_right _ [some (frq a), some (frq b), none, none] M
  dsimp only at hQ
  have a4 : qb 4000 a := ha.mono (by decide)
  have b4 : qb 4000 b := hb.mono (by decide)
  have s1 : shp (D.lst [frq (a + b), frq (a - b), frq (a * b), D.bl (decide (a < b))]) = true ∧ shows (D.lst [frq (a + b), frq (a - b), frq (a * b), D.bl (decide (a < b))]) := ⟨rfl, shows_of rfl ⟨small_frq (qb_add ha hb (by decide)), small_frq (qb_sub ha hb (by decide)), small_frq (qb_mul ha hb (by decide)), trivial, trivial⟩ (Nat.le_of_ble_eq_true rfl)⟩
  have s2 : shp (D.lst [frq (a / b), frq (a / b)]) = true ∧ shows (D.lst [frq (a / b), frq (a / b)]) := ⟨rfl, shows_of rfl ⟨small_frq (qb_quo ha hb (by decide)), small_frq (qb_quo ha hb (by decide)), trivial⟩ (Nat.le_of_ble_eq_true rfl)⟩
  have e1 : a - b + b = a := by grind
  have e2 : a - a = 0 := by grind
  have d4 : qb 4000 (a - b) := qb_sub ha hb (by decide)
  have q4 : qb 4000 (a / b) := qb_quo ha hb (by decide)
  unfold t__law_two_right
  walk_at "dl"
  simp only [a4, b4, s1, s2, e1, e2, d4, q4, true_and, and_true, not_true_eq_false, false_implies, true_implies, num_ne]
  refine ⟨fun _ => hQ, fun c => ⟨c, c, c, by decide, c, ?_⟩⟩
  rw [Rat.div_mul_cancel c, decide_eq_true rfl]
  exact hQ
theorem vc__law_great_right : ∀ ds M Q E, sp__law_great_right ds M Q E → t__law_great_right { nx := fun _ M' => Q .non M', rt := Q, xs := E } (dstart 5 ds) M := by
  intro ds M Q E h
  unfold sp__law_great_right potTrue at h
  split at h
  · rename_i p
    obtain ⟨hp, hQ⟩ := h
    change t__law_great_right _ [some (.own p), none, none, none, none] M
    unfold t__law_great_right
    walk_at "dl"
    refine ⟨⟨sz_lit (by decide), sz_lit (by decide)⟩, ⟨hp, by decide, ib_lit (by decide) (by decide)⟩, fun r1 M1 a0 a1 p1 f1 => ⟨⟨p1, by decide, ib_lit (by decide) (by decide)⟩, fun r2 M2 b0 b1 p2 f2 => ?_⟩⟩
    have i1 : ib 102 (r1 - 10 ^ 30) := by
      unfold ib
      omega
    have i2 : ib 102 (1 + r2) := by
      unfold ib
      omega
    refine ⟨⟨by omega, i1.mono (by decide), i2.mono (by decide)⟩, ⟨p2, by decide, ib_lit (by decide) (by decide)⟩, fun r3 M3 c0 c1 p3 f3 => ⟨⟨p3, by decide, ib_lit (by decide) (by decide)⟩, fun r4 M4 d0 d1 p4 f4 => ?_⟩⟩
    have i3 : ib 102 (1 + r3) := by
      unfold ib
      omega
    have i4 : ib 102 (1 + r4) := by
      unfold ib
      omega
    refine ⟨⟨by omega, i3.mono (by decide), i4.mono (by decide)⟩, ?_⟩
    have hb0 : ¬ Rat.divInt (1 + r3) (1 + r4) = 0 := fun z => by
      exact q_ne (by omega) (by omega) z
    have ha := qb_div i1 i2 (by decide)
    have hb := qb_div i3 i4 (by decide)
    generalize Rat.divInt (r1 - 10 ^ 30) (1 + r2) = a at ha ⊢
    generalize Rat.divInt (1 + r3) (1 + r4) = b at hb hb0 ⊢
    have a4 : qb 4000 a := ha.mono (by decide)
    have b4 : qb 4000 b := hb.mono (by decide)
    have a1k : qb 1000 a := ha.mono (by decide)
    have b1k : qb 1000 b := hb.mono (by decide)
    have s1 : shp (D.lst [frq (a + b), frq (a - b), frq (a * b), frq (a / b), D.bl (decide (a < b)), D.bl (decide (b < a))]) = true ∧ shows (D.lst [frq (a + b), frq (a - b), frq (a * b), frq (a / b), D.bl (decide (a < b)), D.bl (decide (b < a))]) := ⟨rfl, shows_of rfl ⟨small_frq (qb_add ha hb (by decide)), small_frq (qb_sub ha hb (by decide)), small_frq (qb_mul ha hb (by decide)), small_frq (qb_quo ha hb (by decide)), trivial, trivial, trivial⟩ (Nat.le_of_ble_eq_true rfl)⟩
    simp only [a4, b4, hb0, a1k, b1k, s1, true_and, not_false_eq_true]
    exact hQ _ p4 (f1.trans (f2.trans (f3.trans f4)))
  · exact h.elim
theorem vc_made : ∀ ds M Q E, sp_made ds M Q E → t_made { nx := fun _ M' => Q .non M', rt := Q, xs := E } (dstart 2 ds) M := by
  intro ds M Q E h
  obtain ⟨a, b, rfl, ⟨h0, ha, hb⟩, hQ⟩ := i2_inv h
  change t_made _ [some (.int a), some (.int b)] M
  unfold t_made
  walk_at "dl"
  exact ⟨h0, fun _ => ⟨⟨h0, ha, hb⟩, hQ⟩⟩
theorem vc__law_made_right : ∀ ds M Q E, sp__law_made_right ds M Q E → t__law_made_right { nx := fun _ M' => Q .non M', rt := Q, xs := E } (dstart 6 ds) M := by
  intro ds M Q E h
  unfold sp__law_made_right potTrue at h
  split at h
  · rename_i p
    obtain ⟨hp, hQ⟩ := h
    change t__law_made_right _ [some (.own p), none, none, none, none, none] M
    unfold t__law_made_right
    walk_at "dl"
    refine ⟨hp, fun d M1 hd p1 f1 => ?_⟩
    obtain ⟨top, rfl, t1, t2⟩ : ∃ top : Int, d = .int top ∧ 1 ≤ top ∧ top ≤ 10 ^ 30 := by
      simp only [List.mem_cons, List.not_mem_nil, or_false] at hd
      rcases hd with rfl | rfl | rfl <;> exact ⟨_, rfl, by decide, by decide⟩
    have st : sz top := sz_lit (by omega)
    have it : ib 4000 (2 * top) := ib_lit (by omega) (by decide)
    have key : ∀ n d : Int, ib 120 n → ib 120 d → shp (D.lst [frq (Rat.divInt n d), frq (Rat.divInt n d), frq (n : Rat), frq ((0 - n : Int) : Rat)]) = true ∧ shows (D.lst [frq (Rat.divInt n d), frq (Rat.divInt n d), frq (n : Rat), frq ((0 - n : Int) : Rat)]) := by
      intro n d hn hd
      have z := small_frq ((qb_div hn hd (by decide)).mono (show 120 ≤ 1900 by decide))
      have u := small_frq ((qb_int hn (by decide)).mono (show 120 ≤ 1900 by decide))
      have hm : ib 120 (0 - n) := by
        unfold ib at *
        omega
      have w := small_frq ((qb_int hm (by decide)).mono (show 120 ≤ 1900 by decide))
      exact ⟨rfl, shows_of rfl ⟨z, z, u, w, trivial⟩ (Nat.le_of_ble_eq_true rfl)⟩
    have s7 : ib 120 (-7) := by
      unfold ib
      decide
    have l1 : ib 8500 1 := ib_one.mono (by decide)
    have l2 : ib 8500 (-1) := ib_one.mono (by decide)
    walk_at "dl"
    refine ⟨⟨sz_small (by decide), st⟩, ⟨p1, by omega, it⟩, fun r M2 a0 a1 p2 f2 => ⟨⟨sz_small (by decide), st⟩, ⟨p2, by omega, it⟩, fun q M3 b0 b1 p3 f3 => ?_⟩⟩
    have hn : ib 120 (r - top) := by
      unfold ib
      omega
    have hd : ib 120 (q - top) := by
      unfold ib
      omega
    have hn8 : ib 8500 (r - top) := hn.mono (by decide)
    have hd8 : ib 8500 (q - top) := hd.mono (by decide)
    have s78 : ib 8500 (-7) := s7.mono (by decide)
    have fin := hQ M3 p3 (f1.trans (f2.trans f3))
    refine ⟨fun c => ?_, fun c => ?_⟩
    · have k := key _ _ hn hd
      simp only [hn8, hd8, c, l1, l2, k, fin, not_false_eq_true, true_and, and_true, and_self]
    · have k := key _ _ hn s7
      simp only [hn8, s78, l1, l2, k, fin, not_false_eq_true, true_and, and_true, and_self]
  · exact h.elim
theorem vc__law_right : ∀ ds M Q E, sp__law_right ds M Q E → t__law_right { nx := fun _ M' => Q .non M', rt := Q, xs := E } (dstart 8 ds) M := by
  intro ds M Q E h
  unfold sp__law_right potTrue at h
  split at h
  · rename_i p
    obtain ⟨hp, hQ⟩ := h
    change t__law_right _ [some (.own p), none, none, none, none, none, none, none] M
    unfold t__law_right
    walk_at "dl"
    refine ⟨hp, fun q1 M1 k1 p1 f1 => ⟨p1, fun q2 M2 k2 p2 f2 => ⟨p2, fun q3 M3 k3 p3 f3 => ?_⟩⟩⟩
    have hL : ∀ x, x ∈ [frq q1, frq q2, frq 0, frq q3] → ∃ q, x = frq q ∧ qb 100 q := by
      intro x hx
      simp only [List.mem_cons, List.not_mem_nil, or_false] at hx
      rcases hx with rfl | rfl | rfl | rfl
      · exact ⟨_, rfl, k1.mono (by decide)⟩
      · exact ⟨_, rfl, k2.mono (by decide)⟩
      · exact ⟨_, rfl, qb_zero (by decide)⟩
      · exact ⟨_, rfl, k3.mono (by decide)⟩
    generalize [frq q1, frq q2, frq 0, frq q3] = L at hL ⊢
    refine forD_of (fun s M' => (∃ o, s = [some (.own p), some (.lst L), o, none, none, none, none, none]) ∧ Pot M' p ∧ Fram p M M') _ _ _ ⟨⟨_, rfl⟩, p3, f1.trans (f2.trans f3)⟩ ?_ ?_
    · intro x hx s M' hi nx hnx
      obtain ⟨⟨o, rfl⟩, p4, f4⟩ := hi
      obtain ⟨a, rfl, ha⟩ := hL x hx
      walk_at "dl"
      refine ⟨ha.mono (by decide), ⟨p4, a, rfl, ha⟩, fun M4 p5 f5 => ?_⟩
      refine compD_of (fun M' => M' = M4) (fun d => d = .bl true) _ _ _ rfl ?_ ?_
      · intro x hx M' hm R hR
        subst hm
        obtain ⟨b, rfl, hb⟩ := hL x hx
        walk_at "dl"
        exact ⟨⟨ha, hb⟩, hR _ _ rfl rfl⟩
      · intro ys M' hy hl hm
        subst hm
        rw [all_true hy]
        walk_at "dl"
        exact hnx _ _ ⟨⟨_, rfl⟩, p5, f4.trans f5⟩
    · intro s M' hi
      obtain ⟨⟨o, rfl⟩, p4, f4⟩ := hi
      walk_at "dl"
      refine ⟨by decide, ?_⟩
      refine forD_ofN (fun k s M' => (∃ w o5 o6, s = [some (.own p), some (.lst L), o, some (frq w), some (frq w), o5, o6, none] ∧ qb (50 * k + 50) w) ∧ Pot M' p ∧ Fram p M M') _ 0 8 _ _ rfl ⟨⟨0, none, none, rfl, qb_zero (by decide)⟩, p4, f4⟩ ?_ ?_
      · intro x hx k s M5 hk hi nx hnx
        obtain ⟨⟨w, o5, o6, rfl, hw⟩, p5, f5⟩ := hi
        obtain ⟨i, rfl, -, -⟩ := mem_ints hx
        have w4 : qb 4000 w := hw.mono (by omega)
        walk_at "dl"
        refine ⟨fun c => ⟨p5, fun u M6 hu p6 f6 => ?_⟩, fun c => ⟨⟨p5, ib_lit (by decide) (by decide)⟩, fun r1 M6 a0 a1 p6 f6 => ⟨⟨p6, ib_lit (by decide) (by decide)⟩, fun r2 M7 b0 b1 p7 f7 => ?_⟩⟩⟩
        · exact ⟨⟨w4, hu.mono (by decide)⟩, ⟨w4, hu.mono (by decide)⟩, hnx _ _ ⟨⟨_, _, _, rfl, qb_add hw hu (by omega)⟩, p6, f5.trans f6⟩⟩
        · have i1 : ib 42 (r1 - 40) := by
            unfold ib
            omega
          have i2 : ib 42 (1 + r2) := by
            unfold ib
            omega
          have hu := qb_div i1 i2 (by decide)
          exact ⟨⟨by omega, i1.mono (by decide), i2.mono (by decide)⟩, ⟨w4, hu.mono (by decide)⟩, ⟨w4, hu.mono (by decide)⟩, hnx _ _ ⟨⟨_, _, _, rfl, qb_add hw hu (by omega)⟩, p7, f5.trans (f6.trans f7)⟩⟩
      · intro s M5 hi
        obtain ⟨⟨w, o5, o6, rfl, hw⟩, p5, f5⟩ := hi
        walk_at "dl"
        exact ⟨p5, fun M6 p6 f6 => ⟨p6, fun M7 p7 f7 => hQ _ p7 (f5.trans (f6.trans f7))⟩⟩
  · exact h.elim
theorem vc_law : ∀ ds M Q E, sp_law ds M Q E → t_law { nx := fun _ M' => Q .non M', rt := Q, xs := E } (dstart 2 ds) M := by
  intro ds M Q E h
  unfold sp_law lawTrue at h
  split at h
  · rename_i xs
    obtain ⟨⟨hl, ns, rfl⟩, hQ⟩ := h
    change t_law _ [some (.wl (ns.map D.int)), none] M
    unfold t_law
    walk_at "dl"
    generalize hm : (if (if ↑(List.map D.int ns).length < (4 : Int) then (↑(List.map D.int ns).length : Int) else 4) > 1 then if ↑(List.map D.int ns).length < (4 : Int) then (↑(List.map D.int ns).length : Int) else 4 else 1) = m
    have hm1 : 1 ≤ m ∧ m ≤ 4 := by
      rw [← hm]
      split <;> (try split) <;> omega
    refine ⟨⟨by omega, by omega, by omega⟩, ?_⟩
    refine compD_of (fun _ => True) (fun d => d = .bl true) _ _ _ trivial ?_ ?_
    · intro x hx M' _ R hR
      obtain ⟨i, rfl, h1, h2⟩ := mem_ints hx
      walk_at "dl"
      refine ⟨⟨hl, ⟨ns, rfl⟩, by omega, by omega⟩, fun a b h1 h2 h3 => ?_⟩
      walk_at "dl"
      rw [u__law_right]
      exact ⟨pot_new h1 h2 h3, fun M2 _ _ => hR _ _ rfl trivial⟩
    · intro ys M' hy _ _
      rw [all_true hy]
      walk_at "dl"
      exact hQ _
  · exact h.elim
theorem law_here : ∀ (ns : List Int) (M : Sto) (Q : DK) (E : DXK), ns.length ≤ 63 → (∀ M', Q (.bl true) M') → sp_law [.wl (ns.map D.int)] M Q E := by
  intro ns M Q E h hQ
  exact ⟨⟨by rw [List.length_map]; exact h, ns, rfl⟩, hQ⟩
end K10
/-! derivations; printed by gen.py -/
namespace K10
open PySem PySem.Spec PyProof.Rows L2 DL
def top (i : Nat) : Stmt := PySem.Challenge.pw_surelyheld_k10_whole_fractions_reckoned.main.body.getD i (.Pass ⟨0, 0, 0, 0⟩)
abbrev s__law_pot : Stmt := top 30
abbrev N__law_pot : List Str := ["script", "k", "cell"]
theorem sc__law_pot : FnScope N__law_pot ["script", "k"] (defScope s__law_pot) := ⟨rfl, rfl, rfl, by decide +kernel, rfl, by decide +kernel, by decide +kernel⟩
abbrev s__law_gcd : Stmt := top 33
abbrev N__law_gcd : List Str := ["one", "other"]
theorem sc__law_gcd : FnScope N__law_gcd ["one", "other"] (defScope s__law_gcd) := ⟨rfl, rfl, rfl, by decide +kernel, rfl, by decide +kernel, by decide +kernel⟩
abbrev s__law_made : Stmt := top 34
abbrev N__law_made : List Str := ["above", "below", "whole"]
theorem sc__law_made : FnScope N__law_made ["above", "below"] (defScope s__law_made) := ⟨rfl, rfl, rfl, by decide +kernel, rfl, by decide +kernel, by decide +kernel⟩
abbrev s__law_draw : Stmt := top 31
abbrev N__law_draw : List Str := ["pot", "many", "digit"]
theorem sc__law_draw : FnScope N__law_draw ["pot", "many"] (defScope s__law_draw) := ⟨rfl, rfl, rfl, by decide +kernel, rfl, by decide +kernel, by decide +kernel⟩
abbrev s__law_pick : Stmt := top 32
abbrev N__law_pick : List Str := ["pot", "some"]
theorem sc__law_pick : FnScope N__law_pick ["pot", "some"] (defScope s__law_pick) := ⟨rfl, rfl, rfl, by decide +kernel, rfl, by decide +kernel, by decide +kernel⟩
abbrev s__law_some : Stmt := top 42
abbrev N__law_some : List Str := ["pot", "way"]
theorem sc__law_some : FnScope N__law_some ["pot"] (defScope s__law_some) := ⟨rfl, rfl, rfl, by decide +kernel, rfl, by decide +kernel, by decide +kernel⟩
abbrev s_is_integer : Stmt := top 8
abbrev N_is_integer : List Str := ["value"]
theorem sc_is_integer : FnScope N_is_integer ["value"] (defScope s_is_integer) := ⟨rfl, rfl, rfl, by decide +kernel, rfl, by decide +kernel, by decide +kernel⟩
abbrev s_is_fraction : Stmt := top 19
abbrev N_is_fraction : List Str := ["value"]
theorem sc_is_fraction : FnScope N_is_fraction ["value"] (defScope s_is_fraction) := ⟨rfl, rfl, rfl, by decide +kernel, rfl, by decide +kernel, by decide +kernel⟩
abbrev s_want_fraction : Stmt := top 20
abbrev N_want_fraction : List Str := ["value"]
theorem sc_want_fraction : FnScope N_want_fraction ["value"] (defScope s_want_fraction) := ⟨rfl, rfl, rfl, by decide +kernel, rfl, by decide +kernel, by decide +kernel⟩
abbrev s_fraction : Stmt := top 11
abbrev N_fraction : List Str := ["above", "below", "shared"]
theorem sc_fraction : FnScope N_fraction ["above", "below"] (defScope s_fraction) := ⟨rfl, rfl, rfl, by decide +kernel, rfl, by decide +kernel, by decide +kernel⟩
abbrev s_added : Stmt := top 13
abbrev N_added : List Str := ["a", "b"]
theorem sc_added : FnScope N_added ["a", "b"] (defScope s_added) := ⟨rfl, rfl, rfl, by decide +kernel, rfl, by decide +kernel, by decide +kernel⟩
abbrev s_plus : Stmt := top 23
abbrev N_plus : List Str := ["a", "b"]
theorem sc_plus : FnScope N_plus ["a", "b"] (defScope s_plus) := ⟨rfl, rfl, rfl, by decide +kernel, rfl, by decide +kernel, by decide +kernel⟩
abbrev s__law_lower : Stmt := top 35
abbrev N__law_lower : List Str := ["a", "b"]
theorem sc__law_lower : FnScope N__law_lower ["a", "b"] (defScope s__law_lower) := ⟨rfl, rfl, rfl, by decide +kernel, rfl, by decide +kernel, by decide +kernel⟩
abbrev s__law_floor : Stmt := top 43
abbrev N__law_floor : List Str := ["a", "low", "high", "mid"]
theorem sc__law_floor : FnScope N__law_floor ["a"] (defScope s__law_floor) := ⟨rfl, rfl, rfl, by decide +kernel, rfl, by decide +kernel, by decide +kernel⟩
abbrev s_ceiling_of : Stmt := top 18
abbrev N_ceiling_of : List Str := ["a"]
theorem sc_ceiling_of : FnScope N_ceiling_of ["a"] (defScope s_ceiling_of) := ⟨rfl, rfl, rfl, by decide +kernel, rfl, by decide +kernel, by decide +kernel⟩
abbrev s_ceiling : Stmt := top 28
abbrev N_ceiling : List Str := ["a"]
theorem sc_ceiling : FnScope N_ceiling ["a"] (defScope s_ceiling) := ⟨rfl, rfl, rfl, by decide +kernel, rfl, by decide +kernel, by decide +kernel⟩
abbrev s_floor_of : Stmt := top 17
abbrev N_floor_of : List Str := ["a"]
theorem sc_floor_of : FnScope N_floor_of ["a"] (defScope s_floor_of) := ⟨rfl, rfl, rfl, by decide +kernel, rfl, by decide +kernel, by decide +kernel⟩
abbrev s_floor : Stmt := top 27
abbrev N_floor : List Str := ["a"]
theorem sc_floor : FnScope N_floor ["a"] (defScope s_floor) := ⟨rfl, rfl, rfl, by decide +kernel, rfl, by decide +kernel, by decide +kernel⟩
abbrev s__law_one_right : Stmt := top 46
abbrev N__law_one_right : List Str := ["a", "low", "high"]
theorem sc__law_one_right : FnScope N__law_one_right ["a"] (defScope s__law_one_right) := ⟨rfl, rfl, rfl, by decide +kernel, rfl, by decide +kernel, by decide +kernel⟩
abbrev s__law_is_one : Stmt := top 44
abbrev N__law_is_one : List Str := ["value", "one"]
theorem sc__law_is_one : FnScope N__law_is_one ["value"] (defScope s__law_is_one) := ⟨rfl, rfl, rfl, by decide +kernel, rfl, by decide +kernel, by decide +kernel⟩
abbrev s__law_values_right : Stmt := top 48
abbrev N__law_values_right : List Str := ["pot", "a", "some", "value"]
theorem sc__law_values_right : FnScope N__law_values_right ["pot", "a"] (defScope s__law_values_right) := ⟨rfl, rfl, rfl, by decide +kernel, rfl, by decide +kernel, by decide +kernel⟩
abbrev s_scaled : Stmt := top 15
abbrev N_scaled : List Str := ["a", "b"]
theorem sc_scaled : FnScope N_scaled ["a", "b"] (defScope s_scaled) := ⟨rfl, rfl, rfl, by decide +kernel, rfl, by decide +kernel, by decide +kernel⟩
abbrev s_times : Stmt := top 25
abbrev N_times : List Str := ["a", "b"]
theorem sc_times : FnScope N_times ["a", "b"] (defScope s_times) := ⟨rfl, rfl, rfl, by decide +kernel, rfl, by decide +kernel, by decide +kernel⟩
abbrev s__law_over : Stmt := top 39
abbrev N__law_over : List Str := ["a", "b"]
theorem sc__law_over : FnScope N__law_over ["a", "b"] (defScope s__law_over) := ⟨rfl, rfl, rfl, by decide +kernel, rfl, by decide +kernel, by decide +kernel⟩
abbrev s_taken : Stmt := top 14
abbrev N_taken : List Str := ["a", "b"]
theorem sc_taken : FnScope N_taken ["a", "b"] (defScope s_taken) := ⟨rfl, rfl, rfl, by decide +kernel, rfl, by decide +kernel, by decide +kernel⟩
abbrev s_minus : Stmt := top 24
abbrev N_minus : List Str := ["a", "b"]
theorem sc_minus : FnScope N_minus ["a", "b"] (defScope s_minus) := ⟨rfl, rfl, rfl, by decide +kernel, rfl, by decide +kernel, by decide +kernel⟩
abbrev s__law_times : Stmt := top 38
abbrev N__law_times : List Str := ["a", "b"]
theorem sc__law_times : FnScope N__law_times ["a", "b"] (defScope s__law_times) := ⟨rfl, rfl, rfl, by decide +kernel, rfl, by decide +kernel, by decide +kernel⟩
abbrev s__law_plus : Stmt := top 36
abbrev N__law_plus : List Str := ["a", "b"]
theorem sc__law_plus : FnScope N__law_plus ["a", "b"] (defScope s__law_plus) := ⟨rfl, rfl, rfl, by decide +kernel, rfl, by decide +kernel, by decide +kernel⟩
abbrev s_lower : Stmt := top 12
abbrev N_lower : List Str := ["a", "b"]
theorem sc_lower : FnScope N_lower ["a", "b"] (defScope s_lower) := ⟨rfl, rfl, rfl, by decide +kernel, rfl, by decide +kernel, by decide +kernel⟩
abbrev s_is_less : Stmt := top 22
abbrev N_is_less : List Str := ["a", "b"]
theorem sc_is_less : FnScope N_is_less ["a", "b"] (defScope s_is_less) := ⟨rfl, rfl, rfl, by decide +kernel, rfl, by decide +kernel, by decide +kernel⟩
abbrev s_parted : Stmt := top 16
abbrev N_parted : List Str := ["a", "b"]
theorem sc_parted : FnScope N_parted ["a", "b"] (defScope s_parted) := ⟨rfl, rfl, rfl, by decide +kernel, rfl, by decide +kernel, by decide +kernel⟩
abbrev s_over : Stmt := top 26
abbrev N_over : List Str := ["a", "b"]
theorem sc_over : FnScope N_over ["a", "b"] (defScope s_over) := ⟨rfl, rfl, rfl, by decide +kernel, rfl, by decide +kernel, by decide +kernel⟩
abbrev s__law_minus : Stmt := top 37
abbrev N__law_minus : List Str := ["a", "b"]
theorem sc__law_minus : FnScope N__law_minus ["a", "b"] (defScope s__law_minus) := ⟨rfl, rfl, rfl, by decide +kernel, rfl, by decide +kernel, by decide +kernel⟩
abbrev s__law_two_right : Stmt := top 45
abbrev N__law_two_right : List Str := ["a", "b", "told", "late"]
theorem sc__law_two_right : FnScope N__law_two_right ["a", "b"] (defScope s__law_two_right) := ⟨rfl, rfl, rfl, by decide +kernel, rfl, by decide +kernel, by decide +kernel⟩
abbrev s__law_great_right : Stmt := top 49
abbrev N__law_great_right : List Str := ["pot", "a", "b", "told", "due"]
theorem sc__law_great_right : FnScope N__law_great_right ["pot"] (defScope s__law_great_right) := ⟨rfl, rfl, rfl, by decide +kernel, rfl, by decide +kernel, by decide +kernel⟩
abbrev s_made : Stmt := top 21
abbrev N_made : List Str := ["above", "below"]
theorem sc_made : FnScope N_made ["above", "below"] (defScope s_made) := ⟨rfl, rfl, rfl, by decide +kernel, rfl, by decide +kernel, by decide +kernel⟩
abbrev s__law_made_right : Stmt := top 47
abbrev N__law_made_right : List Str := ["pot", "top", "above", "below", "due", "told"]
theorem sc__law_made_right : FnScope N__law_made_right ["pot"] (defScope s__law_made_right) := ⟨rfl, rfl, rfl, by decide +kernel, rfl, by decide +kernel, by decide +kernel⟩
abbrev s__law_right : Stmt := top 50
abbrev N__law_right : List Str := ["pot", "some", "a", "whole", "due", "turn", "one", "b"]
theorem sc__law_right : FnScope N__law_right ["pot"] (defScope s__law_right) := ⟨rfl, rfl, rfl, by decide +kernel, rfl, by decide +kernel, by decide +kernel⟩
abbrev s_law : Stmt := top 51
abbrev N_law : List Str := ["script", "k"]
theorem sc_law : FnScope N_law ["script"] (defScope s_law) := ⟨rfl, rfl, rfl, by decide +kernel, rfl, by decide +kernel, by decide +kernel⟩
abbrev FnP (K : PySem.W.Frag) (x : Str) (st : Stmt) (fd : FuncData) : Prop := FunD K x x (defArgs st) (defBody st) (defScope st) [] [] (He.ga K x) fd
structure Tx (K : PySem.W.Frag) (mg : Str → Option Value) : Prop where
  d__law_pot : ∃ fd, FnP K "_law_pot" s__law_pot fd
  g__law_pot : mg "_law_pot" = some (.ref (He.ga K "_law_pot"))
  d__law_gcd : ∃ fd, FnP K "_law_gcd" s__law_gcd fd
  g__law_gcd : mg "_law_gcd" = some (.ref (He.ga K "_law_gcd"))
  d__law_made : ∃ fd, FnP K "_law_made" s__law_made fd
  g__law_made : mg "_law_made" = some (.ref (He.ga K "_law_made"))
  d__law_draw : ∃ fd, FnP K "_law_draw" s__law_draw fd
  g__law_draw : mg "_law_draw" = some (.ref (He.ga K "_law_draw"))
  d__law_pick : ∃ fd, FnP K "_law_pick" s__law_pick fd
  g__law_pick : mg "_law_pick" = some (.ref (He.ga K "_law_pick"))
  d__law_some : ∃ fd, FnP K "_law_some" s__law_some fd
  g__law_some : mg "_law_some" = some (.ref (He.ga K "_law_some"))
  d_is_integer : ∃ fd, FnP K "is_integer" s_is_integer fd
  g_is_integer : mg "is_integer" = some (.ref (He.ga K "is_integer"))
  d_is_fraction : ∃ fd, FnP K "is_fraction" s_is_fraction fd
  g_is_fraction : mg "is_fraction" = some (.ref (He.ga K "is_fraction"))
  d_want_fraction : ∃ fd, FnP K "want_fraction" s_want_fraction fd
  g_want_fraction : mg "want_fraction" = some (.ref (He.ga K "want_fraction"))
  d_fraction : ∃ fd, FnP K "fraction" s_fraction fd
  g_fraction : mg "fraction" = some (.ref (He.ga K "fraction"))
  d_added : ∃ fd, FnP K "added" s_added fd
  g_added : mg "added" = some (.ref (He.ga K "added"))
  d_plus : ∃ fd, FnP K "plus" s_plus fd
  g_plus : mg "plus" = some (.ref (He.ga K "plus"))
  d__law_lower : ∃ fd, FnP K "_law_lower" s__law_lower fd
  g__law_lower : mg "_law_lower" = some (.ref (He.ga K "_law_lower"))
  d__law_floor : ∃ fd, FnP K "_law_floor" s__law_floor fd
  g__law_floor : mg "_law_floor" = some (.ref (He.ga K "_law_floor"))
  d_ceiling_of : ∃ fd, FnP K "ceiling_of" s_ceiling_of fd
  g_ceiling_of : mg "ceiling_of" = some (.ref (He.ga K "ceiling_of"))
  d_ceiling : ∃ fd, FnP K "ceiling" s_ceiling fd
  g_ceiling : mg "ceiling" = some (.ref (He.ga K "ceiling"))
  d_floor_of : ∃ fd, FnP K "floor_of" s_floor_of fd
  g_floor_of : mg "floor_of" = some (.ref (He.ga K "floor_of"))
  d_floor : ∃ fd, FnP K "floor" s_floor fd
  g_floor : mg "floor" = some (.ref (He.ga K "floor"))
  d__law_one_right : ∃ fd, FnP K "_law_one_right" s__law_one_right fd
  g__law_one_right : mg "_law_one_right" = some (.ref (He.ga K "_law_one_right"))
  d__law_is_one : ∃ fd, FnP K "_law_is_one" s__law_is_one fd
  g__law_is_one : mg "_law_is_one" = some (.ref (He.ga K "_law_is_one"))
  d__law_values_right : ∃ fd, FnP K "_law_values_right" s__law_values_right fd
  g__law_values_right : mg "_law_values_right" = some (.ref (He.ga K "_law_values_right"))
  d_scaled : ∃ fd, FnP K "scaled" s_scaled fd
  g_scaled : mg "scaled" = some (.ref (He.ga K "scaled"))
  d_times : ∃ fd, FnP K "times" s_times fd
  g_times : mg "times" = some (.ref (He.ga K "times"))
  d__law_over : ∃ fd, FnP K "_law_over" s__law_over fd
  g__law_over : mg "_law_over" = some (.ref (He.ga K "_law_over"))
  d_taken : ∃ fd, FnP K "taken" s_taken fd
  g_taken : mg "taken" = some (.ref (He.ga K "taken"))
  d_minus : ∃ fd, FnP K "minus" s_minus fd
  g_minus : mg "minus" = some (.ref (He.ga K "minus"))
  d__law_times : ∃ fd, FnP K "_law_times" s__law_times fd
  g__law_times : mg "_law_times" = some (.ref (He.ga K "_law_times"))
  d__law_plus : ∃ fd, FnP K "_law_plus" s__law_plus fd
  g__law_plus : mg "_law_plus" = some (.ref (He.ga K "_law_plus"))
  d_lower : ∃ fd, FnP K "lower" s_lower fd
  g_lower : mg "lower" = some (.ref (He.ga K "lower"))
  d_is_less : ∃ fd, FnP K "is_less" s_is_less fd
  g_is_less : mg "is_less" = some (.ref (He.ga K "is_less"))
  d_parted : ∃ fd, FnP K "parted" s_parted fd
  g_parted : mg "parted" = some (.ref (He.ga K "parted"))
  d_over : ∃ fd, FnP K "over" s_over fd
  g_over : mg "over" = some (.ref (He.ga K "over"))
  d__law_minus : ∃ fd, FnP K "_law_minus" s__law_minus fd
  g__law_minus : mg "_law_minus" = some (.ref (He.ga K "_law_minus"))
  d__law_two_right : ∃ fd, FnP K "_law_two_right" s__law_two_right fd
  g__law_two_right : mg "_law_two_right" = some (.ref (He.ga K "_law_two_right"))
  d__law_great_right : ∃ fd, FnP K "_law_great_right" s__law_great_right fd
  g__law_great_right : mg "_law_great_right" = some (.ref (He.ga K "_law_great_right"))
  d_made : ∃ fd, FnP K "made" s_made fd
  g_made : mg "made" = some (.ref (He.ga K "made"))
  d__law_made_right : ∃ fd, FnP K "_law_made_right" s__law_made_right fd
  g__law_made_right : mg "_law_made_right" = some (.ref (He.ga K "_law_made_right"))
  d__law_right : ∃ fd, FnP K "_law_right" s__law_right fd
  g__law_right : mg "_law_right" = some (.ref (He.ga K "_law_right"))
  d_law : ∃ fd, FnP K "law" s_law fd
  g_law : mg "law" = some (.ref (He.ga K "law"))
  n_abs : mg "abs" = none
  n_all : mg "all" = none
  n_bool : mg "bool" = none
  n_divmod : mg "divmod" = none
  n_int : mg "int" = none
  n_isinstance : mg "isinstance" = none
  n_len : mg "len" = none
  n_max : mg "max" = none
  n_min : mg "min" = none
  n_range : mg "range" = none
  n_repr : mg "repr" = none
  n_str : mg "str" = none
  n_tuple : mg "tuple" = none
  g_NOUGHT : mg "NOUGHT" = some (.ref (He.ga K "NOUGHT"))
  d_NOUGHT : ∀ W, DatR K W c_NOUGHT (.ref (He.ga K "NOUGHT"))
  g_gcd : mg "gcd" = some (.builtin "math.gcd")
variable {P : Program} {w : World} {K : PySem.W.Frag} {mg : Str → Option Value} {base : Heap}
theorem Tx.r_NOUGHT (T : Tx K mg) : RelV (.ref (He.ga K "NOUGHT")) (.ref (He.ga K "NOUGHT")) := rfl
theorem ok__law_pot (T : Tx K mg)  : Kn P w K mg base 1 "_law_pot" ["script", "k"] sp__law_pot := by
  obtain ⟨fd, F⟩ := T.d__law_pot
  have nd := sc__law_pot.nd
  have G : FnG P w K mg base CX0 (0 + 1) (He.ga K "_law_pot") fd ["script", "k"] (lSp K mg sp__law_pot) := dfnG (t := t__law_pot) F sc__law_pot k__law_pot.len (fun cdv A outer s H E gd hr =>
    (dss_cons (ds_set (i := 2) nd rfl (by first | exact Or.inl rfl | exact Or.inr rfl) (de_if (dt_cmp op_lt s_lt (dv 1) (de_callB call_len s_len (by rfl) T.n_len (by decide +kernel) (da_cons (dv 0) da_nil)) (nomark _)) (de_callB call_abs s_abs (by rfl) T.n_abs (by decide +kernel) (da_cons (de_ix ix_seq s_ix (dv 0) (dv 1)) da_nil)) (de_bin o_add s_add (de_bin o_mul s_mul de_int (dv 1)) de_int))) (dss_one (ds_ret (de_lstO (da_cons (de_callB (call_max2 rfl) s_max2 (by rfl) T.n_max (by decide +kernel) (da_cons de_int (da_cons (de_bin op_sub s_sub (dv 2) (de_bin op_pow s_pow de_int de_int)) da_nil))) (da_cons (de_bin o_add s_add (de_bin op_modN s_mod (de_callTy call_int1 s_int1c (by rfl) T.n_int (by decide +kernel) (da_cons (de_bin o_add s_add (de_bin o_add s_add (de_bin o_mul s_mul (de_bin op_modN s_mod (de_callTy call_int1 s_int1c (by rfl) T.n_int (by decide +kernel) (da_cons (dv 2) da_nil)) de_int) de_int) (de_bin o_mul s_mul de_int (dv 1))) de_int) da_nil)) de_int) de_int) da_nil))))))) vc__law_pot k__law_pot.nx
  exact ⟨⟨_, fd, G, T.g__law_pot, F.kp, F.bindsN (ps := ["script", "k"]) (fun _ _ _ _ _ _ us hl => match us, hl with | [_, _], _ => rfl), FunD.at_ F⟩, k__law_pot.ms⟩
theorem ok__law_gcd (T : Tx K mg)  : Kn P w K mg base 1 "_law_gcd" ["one", "other"] sp__law_gcd := by
  obtain ⟨fd, F⟩ := T.d__law_gcd
  have nd := sc__law_gcd.nd
  have G : FnG P w K mg base CX0 (0 + 1) (He.ga K "_law_gcd") fd ["one", "other"] (lSp K mg sp__law_gcd) := dfnG (t := t__law_gcd) F sc__law_gcd k__law_gcd.len (fun cdv A outer s H E gd hr =>
    (dss_cons (ds_while PassesOwn.never (dt_cmp (o_ne hr.units) s_ne (dv 1) de_int (nomark _)) (dss_one (ds_par (i := 0) (j := 1) rfl nd rfl rfl (by decide) rfl rfl (da_cons (dv 1) (da_cons (de_bin op_modN s_mod (de_callTy call_int1 s_int1c (by rfl) T.n_int (by decide +kernel) (da_cons (dv 0) da_nil)) (dv 1)) da_nil)) (by rfl)))) (dss_one (ds_ret (de_callB call_abs s_abs (by rfl) T.n_abs (by decide +kernel) (da_cons (dv 0) da_nil)))))) vc__law_gcd k__law_gcd.nx
  exact ⟨⟨_, fd, G, T.g__law_gcd, F.kp, F.bindsN (ps := ["one", "other"]) (fun _ _ _ _ _ _ us hl => match us, hl with | [_, _], _ => rfl), FunD.at_ F⟩, k__law_gcd.ms⟩
theorem ok__law_made (T : Tx K mg) (F__law_gcd : Kn P w K mg base 1 "_law_gcd" ["one", "other"] sp__law_gcd) : Kn P w K mg base 2 "_law_made" ["above", "below"] sp__law_made := by
  obtain ⟨fd, F⟩ := T.d__law_made
  have nd := sc__law_made.nd
  have G : FnG P w K mg base CX0 (1 + 1) (He.ga K "_law_made") fd ["above", "below"] (lSp K mg sp__law_made) := dfnG (t := t__law_made) F sc__law_made k__law_made.len (fun cdv A outer s H E gd hr =>
    (dss_cons (ds_set (i := 2) nd rfl (by first | exact Or.inl rfl | exact Or.inr rfl) (dk_call F__law_gcd (guards_in gd) (hr.mono (by decide)) rfl (da_cons (dv 0) (da_cons (dv 1) da_nil)))) (dss_cons (ds_set (i := 2) nd rfl (by first | exact Or.inl rfl | exact Or.inr rfl) (de_if (dt_cmp op_gt s_gt (dv 1) de_int (nomark _)) (dv 2) (de_bin op_sub s_sub de_int (dv 2)))) (dss_one (ds_ret (de_tup (da_cons (de_bin o_div s_div (dv 0) (dv 2)) (da_cons (de_bin o_div s_div (dv 1) (dv 2)) da_nil)))))))) vc__law_made k__law_made.nx
  exact ⟨⟨_, fd, G, T.g__law_made, F.kp, F.bindsN (ps := ["above", "below"]) (fun _ _ _ _ _ _ us hl => match us, hl with | [_, _], _ => rfl), FunD.at_ F⟩, k__law_made.ms⟩
theorem ok__law_draw (T : Tx K mg)  : Kn P w K mg base 1 "_law_draw" ["pot", "many"] sp__law_draw := by
  obtain ⟨fd, F⟩ := T.d__law_draw
  have nd := sc__law_draw.nd
  have G : FnG P w K mg base CX0 (0 + 1) (He.ga K "_law_draw") fd ["pot", "many"] (lSp K mg sp__law_draw) := dfnG (t := t__law_draw) F sc__law_draw k__law_draw.len (fun cdv A outer s H E gd hr =>
    (dss_cons (ds_if (dt_cmp op_gt s_gt (de_ix ix_seq s_ix (dv 0) de_int) de_int (nomark _)) (dss_cons (ds_asg (de_callB c_divmod s_divmod (by rfl) T.n_divmod (by decide +kernel) (da_cons (de_ix ix_seq s_ix (dv 0) de_int) (da_cons (dv 1) da_nil))) (dg_tup rfl (dgs_cons (dg_ix (dv 0) de_int) (dgs_cons (dg_name (i := 2) nd rfl (by first | exact Or.inl rfl | exact Or.inr rfl)) dgs_nil)))) (dss_one (ds_ret (dv 2)))) dss_nil) (dss_cons (ds_asg (de_bin op_modN s_mod (de_callTy call_int1 s_int1c (by rfl) T.n_int (by decide +kernel) (da_cons (de_bin o_add s_add (de_bin o_mul s_mul (de_ix ix_seq s_ix (dv 0) de_int) de_int) de_int) da_nil)) de_int) (dg_ix (dv 0) de_int)) (dss_one (ds_ret (de_bin op_modN s_mod (de_callTy call_int1 s_int1c (by rfl) T.n_int (by decide +kernel) (da_cons (de_bin o_div s_div (de_bin op_modN s_mod (de_callTy call_int1 s_int1c (by rfl) T.n_int (by decide +kernel) (da_cons (de_bin o_mul s_mul (de_ix ix_seq s_ix (dv 0) de_int) (de_ix ix_seq s_ix (dv 0) de_int)) da_nil)) de_int) de_int) da_nil)) (dv 1))))))) vc__law_draw k__law_draw.nx
  exact ⟨⟨_, fd, G, T.g__law_draw, F.kp, F.bindsN (ps := ["pot", "many"]) (fun _ _ _ _ _ _ us hl => match us, hl with | [_, _], _ => rfl), FunD.at_ F⟩, k__law_draw.ms⟩
theorem ok__law_pick (T : Tx K mg) (F__law_draw : Kn P w K mg base 1 "_law_draw" ["pot", "many"] sp__law_draw) : Kn P w K mg base 2 "_law_pick" ["pot", "some"] sp__law_pick := by
  obtain ⟨fd, F⟩ := T.d__law_pick
  have nd := sc__law_pick.nd
  have G : FnG P w K mg base CX0 (1 + 1) (He.ga K "_law_pick") fd ["pot", "some"] (lSp K mg sp__law_pick) := dfnG (t := t__law_pick) F sc__law_pick k__law_pick.len (fun cdv A outer s H E gd hr =>
    (dss_one (ds_ret (de_ix ix_seq s_ix (dv 1) (dk_call F__law_draw (guards_in gd) (hr.mono (by decide)) rfl (da_cons (dv 0) (da_cons (de_callB call_len s_len (by rfl) T.n_len (by decide +kernel) (da_cons (dv 1) da_nil)) da_nil))))))) vc__law_pick k__law_pick.nx
  exact ⟨⟨_, fd, G, T.g__law_pick, F.kp, F.bindsN (ps := ["pot", "some"]) (fun _ _ _ _ _ _ us hl => match us, hl with | [_, _], _ => rfl), FunD.at_ F⟩, k__law_pick.ms⟩
theorem ok__law_some (T : Tx K mg) (F__law_made : Kn P w K mg base 2 "_law_made" ["above", "below"] sp__law_made) (F__law_draw : Kn P w K mg base 1 "_law_draw" ["pot", "many"] sp__law_draw) (F__law_pick : Kn P w K mg base 2 "_law_pick" ["pot", "some"] sp__law_pick) : Kn P w K mg base 3 "_law_some" ["pot"] sp__law_some := by
  obtain ⟨fd, F⟩ := T.d__law_some
  have nd := sc__law_some.nd
  have G : FnG P w K mg base CX0 (2 + 1) (He.ga K "_law_some") fd ["pot"] (lSp K mg sp__law_some) := dfnG (t := t__law_some) F sc__law_some k__law_some.len (fun cdv A outer s H E gd hr =>
    (dss_cons (ds_set (i := 1) nd rfl (by first | exact Or.inl rfl | exact Or.inr rfl) (dk_call F__law_draw (guards_in gd) (hr.mono (by decide)) rfl (da_cons (dv 0) (da_cons de_int da_nil)))) (dss_cons (ds_if (dt_cmp (o_eq hr.units) s_eq (dv 1) de_int (nomark _)) (dss_one (ds_ret (dk_call F__law_made (guards_in gd) (hr.mono (by decide)) rfl (da_cons (de_bin op_sub s_sub (dk_call F__law_draw (guards_in gd) (hr.mono (by decide)) rfl (da_cons (dv 0) (da_cons (de_bin o_mul s_mul de_int (de_bin op_pow s_pow de_int de_int)) da_nil))) (de_bin op_pow s_pow de_int de_int)) (da_cons (de_bin o_add s_add de_int (dk_call F__law_draw (guards_in gd) (hr.mono (by decide)) rfl (da_cons (dv 0) (da_cons (de_bin op_pow s_pow de_int de_int) da_nil)))) da_nil))))) dss_nil) (dss_one (ds_ret (dk_call F__law_made (guards_in gd) (hr.mono (by decide)) rfl (da_cons (de_bin op_sub s_sub (dk_call F__law_draw (guards_in gd) (hr.mono (by decide)) rfl (da_cons (dv 0) (da_cons de_int da_nil))) de_int) (da_cons (de_if (dt_cmp op_lt s_lt (dv 1) de_int (nomark _)) (de_bin o_add s_add de_int (dk_call F__law_draw (guards_in gd) (hr.mono (by decide)) rfl (da_cons (dv 0) (da_cons de_int da_nil)))) (dk_call F__law_pick (guards_in gd) (hr.mono (by decide)) rfl (da_cons (dv 0) (da_cons (de_lst (da_cons de_int (da_cons de_int (da_cons de_int da_nil)))) da_nil)))) da_nil)))))))) vc__law_some k__law_some.nx
  exact ⟨⟨_, fd, G, T.g__law_some, F.kp, F.bindsN (ps := ["pot"]) (fun _ _ _ _ _ _ us hl => match us, hl with | [_], _ => rfl), FunD.at_ F⟩, k__law_some.ms⟩
theorem ok_is_integer (T : Tx K mg)  : Kn P w K mg base 1 "is_integer" ["value"] sp_is_integer := by
  obtain ⟨fd, F⟩ := T.d_is_integer
  have nd := sc_is_integer.nd
  have G : FnG P w K mg base CX0 (0 + 1) (He.ga K "is_integer") fd ["value"] (lSp K mg sp_is_integer) := dfnG (t := t_is_integer) F sc_is_integer k_is_integer.len (fun cdv A outer s H E gd hr =>
    (dss_one (ds_ret (de_and (de_callB c_isi s_isi (by rfl) T.n_isinstance (by decide +kernel) (da_cons (dv 0) (da_cons (de_ty .int (by rfl) T.n_int (by decide +kernel)) da_nil))) (de_one (de_not (de_callB c_isi s_isi (by rfl) T.n_isinstance (by decide +kernel) (da_cons (dv 0) (da_cons (de_ty .bool (by rfl) T.n_bool (by decide +kernel)) da_nil))))))))) vc_is_integer k_is_integer.nx
  exact ⟨⟨_, fd, G, T.g_is_integer, F.kp, F.bindsN (ps := ["value"]) (fun _ _ _ _ _ _ us hl => match us, hl with | [_], _ => rfl), FunD.at_ F⟩, k_is_integer.ms⟩
theorem ok_is_fraction (T : Tx K mg) (F_is_integer : Kn P w K mg base 1 "is_integer" ["value"] sp_is_integer) : Kn P w K mg base 2 "is_fraction" ["value"] sp_is_fraction ∧ KnK P w K mg base 2 "is_fraction" 0 ["value"] (fun us ws => order 0 [0] us ws) sp_is_fraction := by
  obtain ⟨fd, F⟩ := T.d_is_fraction
  have nd := sc_is_fraction.nd
  have G : FnG P w K mg base CX0 (1 + 1) (He.ga K "is_fraction") fd ["value"] (lSp K mg sp_is_fraction) := dfnG (t := t_is_fraction) F sc_is_fraction k_is_fraction.len (fun cdv A outer s H E gd hr =>
    (dss_cons (ds_if (DW.pt (dw_or (dt_not (dt_val (de_callB c_isi s_isi (by rfl) T.n_isinstance (by decide +kernel) (da_cons (dv 0) (da_cons (de_ty .tuple (by rfl) T.n_tuple (by decide +kernel)) da_nil))))) (dw_or (dt_cmp (o_ne hr.units) s_ne (de_callB call_len s_len (by rfl) T.n_len (by decide +kernel) (da_cons (dv 0) da_nil)) de_int (nomark _)) (dw_or (dt_not (dt_val (dk_call F_is_integer (guards_in gd) (hr.mono (by decide)) rfl (da_cons (de_ix ix_seq s_ix (dv 0) de_int) da_nil)))) (dw_or1 (dt_not (dt_val (dk_call F_is_integer (guards_in gd) (hr.mono (by decide)) rfl (da_cons (de_ix ix_seq s_ix (dv 0) de_int) da_nil))))))))) (dss_one (ds_ret de_bl)) dss_nil) (dss_one (ds_ret (de_and (de_cmp op_ge s_ge (de_ix ix_seq s_ix (dv 0) de_int) de_int (nomark _)) (de_one (de_cmp (o_eq hr.units) s_eq (de_callG cr_gcd s_gcd (by rfl) T.g_gcd (da_cons (de_ix ix_seq s_ix (dv 0) de_int) (da_cons (de_ix ix_seq s_ix (dv 0) de_int) da_nil))) de_int (nomark _)))))))) vc_is_fraction k_is_fraction.nx
  refine ⟨⟨⟨_, fd, G, T.g_is_fraction, F.kp, F.bindsN (ps := ["value"]) (fun _ _ _ _ _ _ us hl => match us, hl with | [_], _ => rfl), FunD.at_ F⟩, k_is_fraction.ms⟩, ?_⟩
  · exact ⟨⟨_, fd, _, _, _, G, T.g_is_fraction, F.kp, kbn_of F 0 ["value"] _ _ (fun r q => order_vals r q _) (fun _ _ _ _ _ _ us ws l1 l2 => match us, ws, l1, l2 with | [], [_], _, _ => rfl), puts_order _ _⟩, k_is_fraction.ms⟩
theorem ok_want_fraction (T : Tx K mg) (F_is_fraction : Kn P w K mg base 2 "is_fraction" ["value"] sp_is_fraction) : Kn P w K mg base 3 "want_fraction" ["value"] sp_want_fraction := by
  obtain ⟨fd, F⟩ := T.d_want_fraction
  have nd := sc_want_fraction.nd
  have G : FnG P w K mg base CX0 (2 + 1) (He.ga K "want_fraction") fd ["value"] (lSp K mg sp_want_fraction) := dfnG (t := t_want_fraction) F sc_want_fraction k_want_fraction.len (fun cdv A outer s H E gd hr =>
    (dss_cons (ds_if (dt_not (dt_val (dk_call F_is_fraction (guards_in gd) (hr.mono (by decide)) rfl (da_cons (dv 0) da_nil)))) (dss_one ds_never) dss_nil) (dss_one (ds_ret (dv 0))))) vc_want_fraction k_want_fraction.nx
  exact ⟨⟨_, fd, G, T.g_want_fraction, F.kp, F.bindsN (ps := ["value"]) (fun _ _ _ _ _ _ us hl => match us, hl with | [_], _ => rfl), FunD.at_ F⟩, k_want_fraction.ms⟩
theorem ok_fraction (T : Tx K mg)  : Kn P w K mg base 1 "fraction" ["above", "below"] sp_fraction := by
  obtain ⟨fd, F⟩ := T.d_fraction
  have nd := sc_fraction.nd
  have G : FnG P w K mg base CX0 (0 + 1) (He.ga K "fraction") fd ["above", "below"] (lSp K mg sp_fraction) := dfnG (t := t_fraction) F sc_fraction k_fraction.len (fun cdv A outer s H E gd hr =>
    (dss_cons (ds_set (i := 2) nd rfl (by first | exact Or.inl rfl | exact Or.inr rfl) (de_callG cr_gcd s_gcd (by rfl) T.g_gcd (da_cons (dv 0) (da_cons (dv 1) da_nil)))) (dss_cons (ds_if (dt_cmp op_lt s_lt (dv 1) de_int (nomark _)) (dss_one (ds_set (i := 2) nd rfl (by first | exact Or.inl rfl | exact Or.inr rfl) (de_bin op_sub s_sub de_int (dv 2)))) dss_nil) (dss_one (ds_ret (de_tup (da_cons (de_bin o_div s_div (dv 0) (dv 2)) (da_cons (de_bin o_div s_div (dv 1) (dv 2)) da_nil)))))))) vc_fraction k_fraction.nx
  exact ⟨⟨_, fd, G, T.g_fraction, F.kp, F.bindsN (ps := ["above", "below"]) (fun _ _ _ _ _ _ us hl => match us, hl with | [_, _], _ => rfl), FunD.at_ F⟩, k_fraction.ms⟩
theorem ok_added (T : Tx K mg) (F_fraction : Kn P w K mg base 1 "fraction" ["above", "below"] sp_fraction) : Kn P w K mg base 2 "added" ["a", "b"] sp_added := by
  obtain ⟨fd, F⟩ := T.d_added
  have nd := sc_added.nd
  have G : FnG P w K mg base CX0 (1 + 1) (He.ga K "added") fd ["a", "b"] (lSp K mg sp_added) := dfnG (t := t_added) F sc_added k_added.len (fun cdv A outer s H E gd hr =>
    (dss_one (ds_ret (dk_call F_fraction (guards_in gd) (hr.mono (by decide)) rfl (da_cons (de_bin o_add s_add (de_bin o_mul s_mul (de_ix ix_seq s_ix (dv 0) de_int) (de_ix ix_seq s_ix (dv 1) de_int)) (de_bin o_mul s_mul (de_ix ix_seq s_ix (dv 1) de_int) (de_ix ix_seq s_ix (dv 0) de_int))) (da_cons (de_bin o_mul s_mul (de_ix ix_seq s_ix (dv 0) de_int) (de_ix ix_seq s_ix (dv 1) de_int)) da_nil)))))) vc_added k_added.nx
  exact ⟨⟨_, fd, G, T.g_added, F.kp, F.bindsN (ps := ["a", "b"]) (fun _ _ _ _ _ _ us hl => match us, hl with | [_, _], _ => rfl), FunD.at_ F⟩, k_added.ms⟩
theorem ok_plus (T : Tx K mg) (F_added : Kn P w K mg base 2 "added" ["a", "b"] sp_added) (F_want_fraction : Kn P w K mg base 3 "want_fraction" ["value"] sp_want_fraction) : Kn P w K mg base 4 "plus" ["a", "b"] sp_plus ∧ KnK P w K mg base 4 "plus" 0 ["b", "a"] (fun us ws => order 0 [1, 0] us ws) sp_plus := by
  obtain ⟨fd, F⟩ := T.d_plus
  have nd := sc_plus.nd
  have G : FnG P w K mg base CX0 (3 + 1) (He.ga K "plus") fd ["a", "b"] (lSp K mg sp_plus) := dfnG (t := t_plus) F sc_plus k_plus.len (fun cdv A outer s H E gd hr =>
    (dss_one (ds_ret (dk_call F_added (guards_in gd) (hr.mono (by decide)) rfl (da_cons (dk_call F_want_fraction (guards_in gd) (hr.mono (by decide)) rfl (da_cons (dv 0) da_nil)) (da_cons (dk_call F_want_fraction (guards_in gd) (hr.mono (by decide)) rfl (da_cons (dv 1) da_nil)) da_nil)))))) vc_plus k_plus.nx
  refine ⟨⟨⟨_, fd, G, T.g_plus, F.kp, F.bindsN (ps := ["a", "b"]) (fun _ _ _ _ _ _ us hl => match us, hl with | [_, _], _ => rfl), FunD.at_ F⟩, k_plus.ms⟩, ?_⟩
  · exact ⟨⟨_, fd, _, _, _, G, T.g_plus, F.kp, kbn_of F 0 ["b", "a"] _ _ (fun r q => order_vals r q _) (fun _ _ _ _ _ _ us ws l1 l2 => match us, ws, l1, l2 with | [], [_, _], _, _ => rfl), puts_order _ _⟩, k_plus.ms⟩
theorem ok__law_lower (T : Tx K mg)  : Kn P w K mg base 1 "_law_lower" ["a", "b"] sp__law_lower := by
  obtain ⟨fd, F⟩ := T.d__law_lower
  have nd := sc__law_lower.nd
  have G : FnG P w K mg base CX0 (0 + 1) (He.ga K "_law_lower") fd ["a", "b"] (lSp K mg sp__law_lower) := dfnG (t := t__law_lower) F sc__law_lower k__law_lower.len (fun cdv A outer s H E gd hr =>
    (dss_one (ds_ret (de_cmp op_lt s_lt (de_bin o_mul s_mul (de_ix ix_seq s_ix (dv 0) de_int) (de_ix ix_seq s_ix (dv 1) de_int)) (de_bin o_mul s_mul (de_ix ix_seq s_ix (dv 1) de_int) (de_ix ix_seq s_ix (dv 0) de_int)) (nomark _))))) vc__law_lower k__law_lower.nx
  exact ⟨⟨_, fd, G, T.g__law_lower, F.kp, F.bindsN (ps := ["a", "b"]) (fun _ _ _ _ _ _ us hl => match us, hl with | [_, _], _ => rfl), FunD.at_ F⟩, k__law_lower.ms⟩
theorem ok__law_floor (T : Tx K mg) (F__law_lower : Kn P w K mg base 1 "_law_lower" ["a", "b"] sp__law_lower) : Kn P w K mg base 2 "_law_floor" ["a"] sp__law_floor := by
  obtain ⟨fd, F⟩ := T.d__law_floor
  have nd := sc__law_floor.nd
  have G : FnG P w K mg base CX0 (1 + 1) (He.ga K "_law_floor") fd ["a"] (lSp K mg sp__law_floor) := dfnG (t := t__law_floor) F sc__law_floor k__law_floor.len (fun cdv A outer s H E gd hr =>
    (dss_cons (ds_par (i := 1) (j := 2) rfl nd rfl rfl (by decide) rfl rfl (da_cons (de_bin op_sub s_sub (de_bin op_sub s_sub de_int (de_callB call_abs s_abs (by rfl) T.n_abs (by decide +kernel) (da_cons (de_ix ix_seq s_ix (dv 0) de_int) da_nil))) de_int) (da_cons (de_bin o_add s_add (de_callB call_abs s_abs (by rfl) T.n_abs (by decide +kernel) (da_cons (de_ix ix_seq s_ix (dv 0) de_int) da_nil)) de_int) da_nil)) (by rfl)) (dss_cons (ds_while PassesOwn.never (dt_cmp op_gt s_gt (de_bin op_sub s_sub (dv 2) (dv 1)) de_int (nomark _)) (dss_cons (ds_set (i := 3) nd rfl (by first | exact Or.inl rfl | exact Or.inr rfl) (de_bin o_div s_div (de_bin o_add s_add (dv 1) (dv 2)) de_int)) (dss_one (ds_asg (de_if (dt_not (dt_val (dk_call F__law_lower (guards_in gd) (hr.mono (by decide)) rfl (da_cons (dv 0) (da_cons (de_tup (da_cons (dv 3) (da_cons de_int da_nil))) da_nil))))) (de_tup (da_cons (dv 3) (da_cons (dv 2) da_nil))) (de_tup (da_cons (dv 1) (da_cons (dv 3) da_nil)))) (dg_tup rfl (dgs_cons (dg_name (i := 1) nd rfl (by first | exact Or.inl rfl | exact Or.inr rfl)) (dgs_cons (dg_name (i := 2) nd rfl (by first | exact Or.inl rfl | exact Or.inr rfl)) dgs_nil))))))) (dss_one (ds_ret (dv 1)))))) vc__law_floor k__law_floor.nx
  exact ⟨⟨_, fd, G, T.g__law_floor, F.kp, F.bindsN (ps := ["a"]) (fun _ _ _ _ _ _ us hl => match us, hl with | [_], _ => rfl), FunD.at_ F⟩, k__law_floor.ms⟩
theorem ok_ceiling_of (T : Tx K mg)  : Kn P w K mg base 1 "ceiling_of" ["a"] sp_ceiling_of := by
  obtain ⟨fd, F⟩ := T.d_ceiling_of
  have nd := sc_ceiling_of.nd
  have G : FnG P w K mg base CX0 (0 + 1) (He.ga K "ceiling_of") fd ["a"] (lSp K mg sp_ceiling_of) := dfnG (t := t_ceiling_of) F sc_ceiling_of k_ceiling_of.len (fun cdv A outer s H E gd hr =>
    (dss_one (ds_ret (de_bin op_sub s_sub de_int (de_bin o_div s_div (de_bin op_sub s_sub de_int (de_ix ix_seq s_ix (dv 0) de_int)) (de_ix ix_seq s_ix (dv 0) de_int)))))) vc_ceiling_of k_ceiling_of.nx
  exact ⟨⟨_, fd, G, T.g_ceiling_of, F.kp, F.bindsN (ps := ["a"]) (fun _ _ _ _ _ _ us hl => match us, hl with | [_], _ => rfl), FunD.at_ F⟩, k_ceiling_of.ms⟩
theorem ok_ceiling (T : Tx K mg) (F_ceiling_of : Kn P w K mg base 1 "ceiling_of" ["a"] sp_ceiling_of) (F_want_fraction : Kn P w K mg base 3 "want_fraction" ["value"] sp_want_fraction) : Kn P w K mg base 4 "ceiling" ["a"] sp_ceiling ∧ KnK P w K mg base 4 "ceiling" 0 ["a"] (fun us ws => order 0 [0] us ws) sp_ceiling := by
  obtain ⟨fd, F⟩ := T.d_ceiling
  have nd := sc_ceiling.nd
  have G : FnG P w K mg base CX0 (3 + 1) (He.ga K "ceiling") fd ["a"] (lSp K mg sp_ceiling) := dfnG (t := t_ceiling) F sc_ceiling k_ceiling.len (fun cdv A outer s H E gd hr =>
    (dss_one (ds_ret (dk_call F_ceiling_of (guards_in gd) (hr.mono (by decide)) rfl (da_cons (dk_call F_want_fraction (guards_in gd) (hr.mono (by decide)) rfl (da_cons (dv 0) da_nil)) da_nil))))) vc_ceiling k_ceiling.nx
  refine ⟨⟨⟨_, fd, G, T.g_ceiling, F.kp, F.bindsN (ps := ["a"]) (fun _ _ _ _ _ _ us hl => match us, hl with | [_], _ => rfl), FunD.at_ F⟩, k_ceiling.ms⟩, ?_⟩
  · exact ⟨⟨_, fd, _, _, _, G, T.g_ceiling, F.kp, kbn_of F 0 ["a"] _ _ (fun r q => order_vals r q _) (fun _ _ _ _ _ _ us ws l1 l2 => match us, ws, l1, l2 with | [], [_], _, _ => rfl), puts_order _ _⟩, k_ceiling.ms⟩
theorem ok_floor_of (T : Tx K mg)  : Kn P w K mg base 1 "floor_of" ["a"] sp_floor_of := by
  obtain ⟨fd, F⟩ := T.d_floor_of
  have nd := sc_floor_of.nd
  have G : FnG P w K mg base CX0 (0 + 1) (He.ga K "floor_of") fd ["a"] (lSp K mg sp_floor_of) := dfnG (t := t_floor_of) F sc_floor_of k_floor_of.len (fun cdv A outer s H E gd hr =>
    (dss_one (ds_ret (de_bin o_div s_div (de_ix ix_seq s_ix (dv 0) de_int) (de_ix ix_seq s_ix (dv 0) de_int))))) vc_floor_of k_floor_of.nx
  exact ⟨⟨_, fd, G, T.g_floor_of, F.kp, F.bindsN (ps := ["a"]) (fun _ _ _ _ _ _ us hl => match us, hl with | [_], _ => rfl), FunD.at_ F⟩, k_floor_of.ms⟩
theorem ok_floor (T : Tx K mg) (F_floor_of : Kn P w K mg base 1 "floor_of" ["a"] sp_floor_of) (F_want_fraction : Kn P w K mg base 3 "want_fraction" ["value"] sp_want_fraction) : Kn P w K mg base 4 "floor" ["a"] sp_floor ∧ KnK P w K mg base 4 "floor" 0 ["a"] (fun us ws => order 0 [0] us ws) sp_floor := by
  obtain ⟨fd, F⟩ := T.d_floor
  have nd := sc_floor.nd
  have G : FnG P w K mg base CX0 (3 + 1) (He.ga K "floor") fd ["a"] (lSp K mg sp_floor) := dfnG (t := t_floor) F sc_floor k_floor.len (fun cdv A outer s H E gd hr =>
    (dss_one (ds_ret (dk_call F_floor_of (guards_in gd) (hr.mono (by decide)) rfl (da_cons (dk_call F_want_fraction (guards_in gd) (hr.mono (by decide)) rfl (da_cons (dv 0) da_nil)) da_nil))))) vc_floor k_floor.nx
  refine ⟨⟨⟨_, fd, G, T.g_floor, F.kp, F.bindsN (ps := ["a"]) (fun _ _ _ _ _ _ us hl => match us, hl with | [_], _ => rfl), FunD.at_ F⟩, k_floor.ms⟩, ?_⟩
  · exact ⟨⟨_, fd, _, _, _, G, T.g_floor, F.kp, kbn_of F 0 ["a"] _ _ (fun r q => order_vals r q _) (fun _ _ _ _ _ _ us ws l1 l2 => match us, ws, l1, l2 with | [], [_], _, _ => rfl), puts_order _ _⟩, k_floor.ms⟩
theorem ok__law_one_right (T : Tx K mg) (F_floor : Kn P w K mg base 4 "floor" ["a"] sp_floor) (F_ceiling : Kn P w K mg base 4 "ceiling" ["a"] sp_ceiling) (F_is_fraction : Kn P w K mg base 2 "is_fraction" ["value"] sp_is_fraction) (F__law_floor : Kn P w K mg base 2 "_law_floor" ["a"] sp__law_floor) (W_floor_0_a : KnK P w K mg base 4 "floor" 0 ["a"] (fun us ws => order 0 [0] us ws) sp_floor) (W_ceiling_0_a : KnK P w K mg base 4 "ceiling" 0 ["a"] (fun us ws => order 0 [0] us ws) sp_ceiling) : Kn P w K mg base 5 "_law_one_right" ["a"] sp__law_one_right := by
  obtain ⟨fd, F⟩ := T.d__law_one_right
  have nd := sc__law_one_right.nd
  have G : FnG P w K mg base CX0 (4 + 1) (He.ga K "_law_one_right") fd ["a"] (lSp K mg sp__law_one_right) := dfnG (t := t__law_one_right) F sc__law_one_right k__law_one_right.len (fun cdv A outer s H E gd hr =>
    (dss_cons (ds_set (i := 1) nd rfl (by first | exact Or.inl rfl | exact Or.inr rfl) (dk_call F__law_floor (guards_in gd) (hr.mono (by decide)) rfl (da_cons (dv 0) da_nil))) (dss_cons (ds_set (i := 2) nd rfl (by first | exact Or.inl rfl | exact Or.inr rfl) (de_if (dt_cmp (o_eq hr.units) s_eq (dv 0) (de_tup (da_cons (dv 1) (da_cons de_int da_nil))) (nomark _)) (dv 1) (de_bin o_add s_add (dv 1) de_int))) (dss_one (ds_ret (de_cmp (o_eq hr.units) s_eq (de_callB (c_repr gd hr.units) s_repr (by rfl) T.n_repr (by decide +kernel) (da_cons (de_lst (da_cons (dk_call F_floor (guards_in gd) (hr.mono (by decide)) rfl (da_cons (dv 0) da_nil)) (da_cons (dk_call F_ceiling (guards_in gd) (hr.mono (by decide)) rfl (da_cons (dv 0) da_nil)) (da_cons (dk_callK0 W_floor_0_a (guards_in gd) (hr.mono (by decide)) rfl (dk_cons (dv 0) dk_nil)) (da_cons (dk_callK0 W_ceiling_0_a (guards_in gd) (hr.mono (by decide)) rfl (dk_cons (dv 0) dk_nil)) (da_cons (dk_call F_is_fraction (guards_in gd) (hr.mono (by decide)) rfl (da_cons (dv 0) da_nil)) da_nil)))))) da_nil)) (de_callB (c_repr gd hr.units) s_repr (by rfl) T.n_repr (by decide +kernel) (da_cons (de_lst (da_cons (dv 1) (da_cons (dv 2) (da_cons (dv 1) (da_cons (dv 2) (da_cons de_bl da_nil)))))) da_nil)) (nomark _))))))) vc__law_one_right k__law_one_right.nx
  exact ⟨⟨_, fd, G, T.g__law_one_right, F.kp, F.bindsN (ps := ["a"]) (fun _ _ _ _ _ _ us hl => match us, hl with | [_], _ => rfl), FunD.at_ F⟩, k__law_one_right.ms⟩
theorem ok__law_is_one (T : Tx K mg) (F__law_gcd : Kn P w K mg base 1 "_law_gcd" ["one", "other"] sp__law_gcd) : Kn P w K mg base 2 "_law_is_one" ["value"] sp__law_is_one := by
  obtain ⟨fd, F⟩ := T.d__law_is_one
  have nd := sc__law_is_one.nd
  have G : FnG P w K mg base CX0 (1 + 1) (He.ga K "_law_is_one") fd ["value"] (lSp K mg sp__law_is_one) := dfnG (t := t__law_is_one) F sc__law_is_one k__law_is_one.len (fun cdv A outer s H E gd hr =>
    (dss_cons (ds_if (DW.pt (dw_or (dt_not (dt_val (de_callB c_isi s_isi (by rfl) T.n_isinstance (by decide +kernel) (da_cons (dv 0) (da_cons (de_ty .tuple (by rfl) T.n_tuple (by decide +kernel)) da_nil))))) (dw_or1 (dt_cmp (o_ne hr.units) s_ne (de_callB call_len s_len (by rfl) T.n_len (by decide +kernel) (da_cons (dv 0) da_nil)) de_int (nomark _))))) (dss_one (ds_ret de_bl)) dss_nil) (dss_cons (ds_if (dt_not (dt_val (de_callB (cr_all rfl) s_all (by rfl) T.n_all (by decide +kernel) (da_cons (de_comp rfl nd (di_seq (dv 0)) (blkOk_by (own := [("one", 1)]) (N := N__law_is_one) (sc := defScope s__law_is_one) (by decide +kernel)) (fun _ _ _ _ _ => (dg_name (i := 1) nd rfl (by first | exact Or.inl rfl | exact Or.inr rfl))) (fun _ _ _ _ _ => dts_nil) (fun _ _ _ _ _ => (de_and (de_callB c_isi s_isi (by rfl) T.n_isinstance (by decide +kernel) (da_cons (dv 1) (da_cons (de_ty .int (by rfl) T.n_int (by decide +kernel)) da_nil))) (de_one (de_not (de_callB c_isi s_isi (by rfl) T.n_isinstance (by decide +kernel) (da_cons (dv 1) (da_cons (de_ty .bool (by rfl) T.n_bool (by decide +kernel)) da_nil))))))) mono_gN mono_Yes (mono_AndV (mono_Fn (mono_Cons mono_Var (mono_Cons mono_C mono_Nil))) (mono_NotV (mono_Fn (mono_Cons mono_Var (mono_Cons mono_C mono_Nil)))))) da_nil)))) (dss_one (ds_ret de_bl)) dss_nil) (dss_one (ds_ret (de_and (de_cmp op_gt s_gt (de_ix ix_seq s_ix (dv 0) de_int) de_int (nomark _)) (de_one (de_cmp (o_eq hr.units) s_eq (dk_call F__law_gcd (guards_in gd) (hr.mono (by decide)) rfl (da_cons (de_ix ix_seq s_ix (dv 0) de_int) (da_cons (de_ix ix_seq s_ix (dv 0) de_int) da_nil))) de_int (nomark _))))))))) vc__law_is_one k__law_is_one.nx
  exact ⟨⟨_, fd, G, T.g__law_is_one, F.kp, F.bindsN (ps := ["value"]) (fun _ _ _ _ _ _ us hl => match us, hl with | [_], _ => rfl), FunD.at_ F⟩, k__law_is_one.ms⟩
theorem ok__law_values_right (T : Tx K mg) (F__law_pick : Kn P w K mg base 2 "_law_pick" ["pot", "some"] sp__law_pick) (F_is_fraction : Kn P w K mg base 2 "is_fraction" ["value"] sp_is_fraction) (F__law_is_one : Kn P w K mg base 2 "_law_is_one" ["value"] sp__law_is_one) (W_is_fraction_0_value : KnK P w K mg base 2 "is_fraction" 0 ["value"] (fun us ws => order 0 [0] us ws) sp_is_fraction) : Kn P w K mg base 3 "_law_values_right" ["pot", "a"] sp__law_values_right := by
  obtain ⟨fd, F⟩ := T.d__law_values_right
  have nd := sc__law_values_right.nd
  have G : FnG P w K mg base CX0 (2 + 1) (He.ga K "_law_values_right") fd ["pot", "a"] (lSp K mg sp__law_values_right) := dfnG (t := t__law_values_right) F sc__law_values_right k__law_values_right.len (fun cdv A outer s H E gd hr =>
    (dss_cons (ds_set (i := 2) nd rfl (by first | exact Or.inl rfl | exact Or.inr rfl) (de_lst (da_cons de_non (da_cons de_int (da_cons (de_ix ix_seq s_ix (dv 1) de_int) (da_cons (de_lst (da_cons (de_ix ix_seq s_ix (dv 1) de_int) (da_cons (de_ix ix_seq s_ix (dv 1) de_int) da_nil))) (da_cons (de_bin o_add s_add (dv 1) (de_tup (da_cons de_int da_nil))) (da_cons (de_tup (da_cons (de_ix ix_seq s_ix (dv 1) de_int) da_nil)) (da_cons (de_tup (da_cons (de_ix ix_seq s_ix (dv 1) de_int) (da_cons de_int da_nil))) (da_cons (de_tup (da_cons (de_ix ix_seq s_ix (dv 1) de_int) (da_cons (de_bin op_sub s_sub de_int (de_ix ix_seq s_ix (dv 1) de_int)) da_nil))) (da_cons (de_tup (da_cons de_bl (da_cons de_int da_nil))) (da_cons (de_tup (da_cons de_int (da_cons de_bl da_nil))) (da_cons de_str (da_cons (de_tup (da_cons (de_tup (da_cons de_int (da_cons de_int da_nil))) (da_cons de_int da_nil))) da_nil)))))))))))))) (dss_cons (ds_set (i := 2) nd rfl (by first | exact Or.inl rfl | exact Or.inr rfl) (de_bin o_add s_add (dv 2) (de_lst (da_cons (de_tup (da_cons (de_bin o_mul s_mul (de_ix ix_seq s_ix (dv 1) de_int) de_int) (da_cons (de_bin o_mul s_mul (de_ix ix_seq s_ix (dv 1) de_int) de_int) da_nil))) (da_cons (de_tup (da_cons de_int (da_cons de_int da_nil))) (da_cons (de_tup (da_cons de_int (da_cons de_int da_nil))) (da_cons (de_tup (da_cons (de_bin op_sub s_sub de_int (de_ix ix_seq s_ix (dv 1) de_int)) (da_cons (de_ix ix_seq s_ix (dv 1) de_int) da_nil))) (da_cons (de_tup (da_cons (de_callTy call_str_int s_strI (by rfl) T.n_str (by decide +kernel) (da_cons (de_ix ix_seq s_ix (dv 1) de_int) da_nil)) (da_cons (de_ix ix_seq s_ix (dv 1) de_int) da_nil))) (da_cons de_emp da_nil))))))))) (dss_cons (ds_for PassesOwn.never rfl (di_seq (de_lst (da_cons (dk_call F__law_pick (guards_in gd) (hr.mono (by decide)) rfl (da_cons (dv 0) (da_cons (dv 2) da_nil))) (da_cons (dk_call F__law_pick (guards_in gd) (hr.mono (by decide)) rfl (da_cons (dv 0) (da_cons (dv 2) da_nil))) (da_cons (dk_call F__law_pick (guards_in gd) (hr.mono (by decide)) rfl (da_cons (dv 0) (da_cons (dv 2) da_nil))) da_nil))))) (dg_name (i := 3) nd rfl (by first | exact Or.inl rfl | exact Or.inr rfl)) (dss_one (ds_if (dt_cmp (o_ne hr.units) s_ne (de_callB (c_repr gd hr.units) s_repr (by rfl) T.n_repr (by decide +kernel) (da_cons (de_lst (da_cons (dk_call F_is_fraction (guards_in gd) (hr.mono (by decide)) rfl (da_cons (dv 3) da_nil)) (da_cons (dk_callK0 W_is_fraction_0_value (guards_in gd) (hr.mono (by decide)) rfl (dk_cons (dv 3) dk_nil)) da_nil))) da_nil)) (de_callB (c_repr gd hr.units) s_repr (by rfl) T.n_repr (by decide +kernel) (da_cons (de_bin o_mul s_mul (de_lst (da_cons (dk_call F__law_is_one (guards_in gd) (hr.mono (by decide)) rfl (da_cons (dv 3) da_nil)) da_nil)) de_int) da_nil)) (nomark _)) (dss_one (ds_ret de_bl)) dss_nil))) (dss_one (ds_ret de_bl)))))) vc__law_values_right k__law_values_right.nx
  exact ⟨⟨_, fd, G, T.g__law_values_right, F.kp, F.bindsN (ps := ["pot", "a"]) (fun _ _ _ _ _ _ us hl => match us, hl with | [_, _], _ => rfl), FunD.at_ F⟩, k__law_values_right.ms⟩
theorem ok_scaled (T : Tx K mg) (F_fraction : Kn P w K mg base 1 "fraction" ["above", "below"] sp_fraction) : Kn P w K mg base 2 "scaled" ["a", "b"] sp_scaled := by
  obtain ⟨fd, F⟩ := T.d_scaled
  have nd := sc_scaled.nd
  have G : FnG P w K mg base CX0 (1 + 1) (He.ga K "scaled") fd ["a", "b"] (lSp K mg sp_scaled) := dfnG (t := t_scaled) F sc_scaled k_scaled.len (fun cdv A outer s H E gd hr =>
    (dss_one (ds_ret (dk_call F_fraction (guards_in gd) (hr.mono (by decide)) rfl (da_cons (de_bin o_mul s_mul (de_ix ix_seq s_ix (dv 0) de_int) (de_ix ix_seq s_ix (dv 1) de_int)) (da_cons (de_bin o_mul s_mul (de_ix ix_seq s_ix (dv 0) de_int) (de_ix ix_seq s_ix (dv 1) de_int)) da_nil)))))) vc_scaled k_scaled.nx
  exact ⟨⟨_, fd, G, T.g_scaled, F.kp, F.bindsN (ps := ["a", "b"]) (fun _ _ _ _ _ _ us hl => match us, hl with | [_, _], _ => rfl), FunD.at_ F⟩, k_scaled.ms⟩
theorem ok_times (T : Tx K mg) (F_scaled : Kn P w K mg base 2 "scaled" ["a", "b"] sp_scaled) (F_want_fraction : Kn P w K mg base 3 "want_fraction" ["value"] sp_want_fraction) : Kn P w K mg base 4 "times" ["a", "b"] sp_times ∧ KnK P w K mg base 4 "times" 0 ["b", "a"] (fun us ws => order 0 [1, 0] us ws) sp_times := by
  obtain ⟨fd, F⟩ := T.d_times
  have nd := sc_times.nd
  have G : FnG P w K mg base CX0 (3 + 1) (He.ga K "times") fd ["a", "b"] (lSp K mg sp_times) := dfnG (t := t_times) F sc_times k_times.len (fun cdv A outer s H E gd hr =>
    (dss_one (ds_ret (dk_call F_scaled (guards_in gd) (hr.mono (by decide)) rfl (da_cons (dk_call F_want_fraction (guards_in gd) (hr.mono (by decide)) rfl (da_cons (dv 0) da_nil)) (da_cons (dk_call F_want_fraction (guards_in gd) (hr.mono (by decide)) rfl (da_cons (dv 1) da_nil)) da_nil)))))) vc_times k_times.nx
  refine ⟨⟨⟨_, fd, G, T.g_times, F.kp, F.bindsN (ps := ["a", "b"]) (fun _ _ _ _ _ _ us hl => match us, hl with | [_, _], _ => rfl), FunD.at_ F⟩, k_times.ms⟩, ?_⟩
  · exact ⟨⟨_, fd, _, _, _, G, T.g_times, F.kp, kbn_of F 0 ["b", "a"] _ _ (fun r q => order_vals r q _) (fun _ _ _ _ _ _ us ws l1 l2 => match us, ws, l1, l2 with | [], [_, _], _, _ => rfl), puts_order _ _⟩, k_times.ms⟩
theorem ok__law_over (T : Tx K mg) (F__law_made : Kn P w K mg base 2 "_law_made" ["above", "below"] sp__law_made) : Kn P w K mg base 3 "_law_over" ["a", "b"] sp__law_over := by
  obtain ⟨fd, F⟩ := T.d__law_over
  have nd := sc__law_over.nd
  have G : FnG P w K mg base CX0 (2 + 1) (He.ga K "_law_over") fd ["a", "b"] (lSp K mg sp__law_over) := dfnG (t := t__law_over) F sc__law_over k__law_over.len (fun cdv A outer s H E gd hr =>
    (dss_one (ds_ret (dk_call F__law_made (guards_in gd) (hr.mono (by decide)) rfl (da_cons (de_bin o_mul s_mul (de_ix ix_seq s_ix (dv 0) de_int) (de_ix ix_seq s_ix (dv 1) de_int)) (da_cons (de_bin o_mul s_mul (de_ix ix_seq s_ix (dv 0) de_int) (de_ix ix_seq s_ix (dv 1) de_int)) da_nil)))))) vc__law_over k__law_over.nx
  exact ⟨⟨_, fd, G, T.g__law_over, F.kp, F.bindsN (ps := ["a", "b"]) (fun _ _ _ _ _ _ us hl => match us, hl with | [_, _], _ => rfl), FunD.at_ F⟩, k__law_over.ms⟩
theorem ok_taken (T : Tx K mg) (F_fraction : Kn P w K mg base 1 "fraction" ["above", "below"] sp_fraction) : Kn P w K mg base 2 "taken" ["a", "b"] sp_taken := by
  obtain ⟨fd, F⟩ := T.d_taken
  have nd := sc_taken.nd
  have G : FnG P w K mg base CX0 (1 + 1) (He.ga K "taken") fd ["a", "b"] (lSp K mg sp_taken) := dfnG (t := t_taken) F sc_taken k_taken.len (fun cdv A outer s H E gd hr =>
    (dss_one (ds_ret (dk_call F_fraction (guards_in gd) (hr.mono (by decide)) rfl (da_cons (de_bin op_sub s_sub (de_bin o_mul s_mul (de_ix ix_seq s_ix (dv 0) de_int) (de_ix ix_seq s_ix (dv 1) de_int)) (de_bin o_mul s_mul (de_ix ix_seq s_ix (dv 1) de_int) (de_ix ix_seq s_ix (dv 0) de_int))) (da_cons (de_bin o_mul s_mul (de_ix ix_seq s_ix (dv 0) de_int) (de_ix ix_seq s_ix (dv 1) de_int)) da_nil)))))) vc_taken k_taken.nx
  exact ⟨⟨_, fd, G, T.g_taken, F.kp, F.bindsN (ps := ["a", "b"]) (fun _ _ _ _ _ _ us hl => match us, hl with | [_, _], _ => rfl), FunD.at_ F⟩, k_taken.ms⟩
theorem ok_minus (T : Tx K mg) (F_taken : Kn P w K mg base 2 "taken" ["a", "b"] sp_taken) (F_want_fraction : Kn P w K mg base 3 "want_fraction" ["value"] sp_want_fraction) : Kn P w K mg base 4 "minus" ["a", "b"] sp_minus ∧ KnK P w K mg base 4 "minus" 0 ["b", "a"] (fun us ws => order 0 [1, 0] us ws) sp_minus := by
  obtain ⟨fd, F⟩ := T.d_minus
  have nd := sc_minus.nd
  have G : FnG P w K mg base CX0 (3 + 1) (He.ga K "minus") fd ["a", "b"] (lSp K mg sp_minus) := dfnG (t := t_minus) F sc_minus k_minus.len (fun cdv A outer s H E gd hr =>
    (dss_one (ds_ret (dk_call F_taken (guards_in gd) (hr.mono (by decide)) rfl (da_cons (dk_call F_want_fraction (guards_in gd) (hr.mono (by decide)) rfl (da_cons (dv 0) da_nil)) (da_cons (dk_call F_want_fraction (guards_in gd) (hr.mono (by decide)) rfl (da_cons (dv 1) da_nil)) da_nil)))))) vc_minus k_minus.nx
  refine ⟨⟨⟨_, fd, G, T.g_minus, F.kp, F.bindsN (ps := ["a", "b"]) (fun _ _ _ _ _ _ us hl => match us, hl with | [_, _], _ => rfl), FunD.at_ F⟩, k_minus.ms⟩, ?_⟩
  · exact ⟨⟨_, fd, _, _, _, G, T.g_minus, F.kp, kbn_of F 0 ["b", "a"] _ _ (fun r q => order_vals r q _) (fun _ _ _ _ _ _ us ws l1 l2 => match us, ws, l1, l2 with | [], [_, _], _, _ => rfl), puts_order _ _⟩, k_minus.ms⟩
theorem ok__law_times (T : Tx K mg) (F__law_made : Kn P w K mg base 2 "_law_made" ["above", "below"] sp__law_made) : Kn P w K mg base 3 "_law_times" ["a", "b"] sp__law_times := by
  obtain ⟨fd, F⟩ := T.d__law_times
  have nd := sc__law_times.nd
  have G : FnG P w K mg base CX0 (2 + 1) (He.ga K "_law_times") fd ["a", "b"] (lSp K mg sp__law_times) := dfnG (t := t__law_times) F sc__law_times k__law_times.len (fun cdv A outer s H E gd hr =>
    (dss_one (ds_ret (dk_call F__law_made (guards_in gd) (hr.mono (by decide)) rfl (da_cons (de_bin o_mul s_mul (de_ix ix_seq s_ix (dv 0) de_int) (de_ix ix_seq s_ix (dv 1) de_int)) (da_cons (de_bin o_mul s_mul (de_ix ix_seq s_ix (dv 0) de_int) (de_ix ix_seq s_ix (dv 1) de_int)) da_nil)))))) vc__law_times k__law_times.nx
  exact ⟨⟨_, fd, G, T.g__law_times, F.kp, F.bindsN (ps := ["a", "b"]) (fun _ _ _ _ _ _ us hl => match us, hl with | [_, _], _ => rfl), FunD.at_ F⟩, k__law_times.ms⟩
theorem ok__law_plus (T : Tx K mg) (F__law_made : Kn P w K mg base 2 "_law_made" ["above", "below"] sp__law_made) : Kn P w K mg base 3 "_law_plus" ["a", "b"] sp__law_plus := by
  obtain ⟨fd, F⟩ := T.d__law_plus
  have nd := sc__law_plus.nd
  have G : FnG P w K mg base CX0 (2 + 1) (He.ga K "_law_plus") fd ["a", "b"] (lSp K mg sp__law_plus) := dfnG (t := t__law_plus) F sc__law_plus k__law_plus.len (fun cdv A outer s H E gd hr =>
    (dss_one (ds_ret (dk_call F__law_made (guards_in gd) (hr.mono (by decide)) rfl (da_cons (de_bin o_add s_add (de_bin o_mul s_mul (de_ix ix_seq s_ix (dv 0) de_int) (de_ix ix_seq s_ix (dv 1) de_int)) (de_bin o_mul s_mul (de_ix ix_seq s_ix (dv 1) de_int) (de_ix ix_seq s_ix (dv 0) de_int))) (da_cons (de_bin o_mul s_mul (de_ix ix_seq s_ix (dv 0) de_int) (de_ix ix_seq s_ix (dv 1) de_int)) da_nil)))))) vc__law_plus k__law_plus.nx
  exact ⟨⟨_, fd, G, T.g__law_plus, F.kp, F.bindsN (ps := ["a", "b"]) (fun _ _ _ _ _ _ us hl => match us, hl with | [_, _], _ => rfl), FunD.at_ F⟩, k__law_plus.ms⟩
theorem ok_lower (T : Tx K mg)  : Kn P w K mg base 1 "lower" ["a", "b"] sp_lower := by
  obtain ⟨fd, F⟩ := T.d_lower
  have nd := sc_lower.nd
  have G : FnG P w K mg base CX0 (0 + 1) (He.ga K "lower") fd ["a", "b"] (lSp K mg sp_lower) := dfnG (t := t_lower) F sc_lower k_lower.len (fun cdv A outer s H E gd hr =>
    (dss_one (ds_ret (de_cmp op_lt s_lt (de_bin o_mul s_mul (de_ix ix_seq s_ix (dv 0) de_int) (de_ix ix_seq s_ix (dv 1) de_int)) (de_bin o_mul s_mul (de_ix ix_seq s_ix (dv 1) de_int) (de_ix ix_seq s_ix (dv 0) de_int)) (nomark _))))) vc_lower k_lower.nx
  exact ⟨⟨_, fd, G, T.g_lower, F.kp, F.bindsN (ps := ["a", "b"]) (fun _ _ _ _ _ _ us hl => match us, hl with | [_, _], _ => rfl), FunD.at_ F⟩, k_lower.ms⟩
theorem ok_is_less (T : Tx K mg) (F_lower : Kn P w K mg base 1 "lower" ["a", "b"] sp_lower) (F_want_fraction : Kn P w K mg base 3 "want_fraction" ["value"] sp_want_fraction) : Kn P w K mg base 4 "is_less" ["a", "b"] sp_is_less ∧ KnK P w K mg base 4 "is_less" 0 ["b", "a"] (fun us ws => order 0 [1, 0] us ws) sp_is_less := by
  obtain ⟨fd, F⟩ := T.d_is_less
  have nd := sc_is_less.nd
  have G : FnG P w K mg base CX0 (3 + 1) (He.ga K "is_less") fd ["a", "b"] (lSp K mg sp_is_less) := dfnG (t := t_is_less) F sc_is_less k_is_less.len (fun cdv A outer s H E gd hr =>
    (dss_one (ds_ret (dk_call F_lower (guards_in gd) (hr.mono (by decide)) rfl (da_cons (dk_call F_want_fraction (guards_in gd) (hr.mono (by decide)) rfl (da_cons (dv 0) da_nil)) (da_cons (dk_call F_want_fraction (guards_in gd) (hr.mono (by decide)) rfl (da_cons (dv 1) da_nil)) da_nil)))))) vc_is_less k_is_less.nx
  refine ⟨⟨⟨_, fd, G, T.g_is_less, F.kp, F.bindsN (ps := ["a", "b"]) (fun _ _ _ _ _ _ us hl => match us, hl with | [_, _], _ => rfl), FunD.at_ F⟩, k_is_less.ms⟩, ?_⟩
  · exact ⟨⟨_, fd, _, _, _, G, T.g_is_less, F.kp, kbn_of F 0 ["b", "a"] _ _ (fun r q => order_vals r q _) (fun _ _ _ _ _ _ us ws l1 l2 => match us, ws, l1, l2 with | [], [_, _], _, _ => rfl), puts_order _ _⟩, k_is_less.ms⟩
theorem ok_parted (T : Tx K mg) (F_fraction : Kn P w K mg base 1 "fraction" ["above", "below"] sp_fraction) : Kn P w K mg base 2 "parted" ["a", "b"] sp_parted := by
  obtain ⟨fd, F⟩ := T.d_parted
  have nd := sc_parted.nd
  have G : FnG P w K mg base CX0 (1 + 1) (He.ga K "parted") fd ["a", "b"] (lSp K mg sp_parted) := dfnG (t := t_parted) F sc_parted k_parted.len (fun cdv A outer s H E gd hr =>
    (dss_one (ds_ret (dk_call F_fraction (guards_in gd) (hr.mono (by decide)) rfl (da_cons (de_bin o_mul s_mul (de_ix ix_seq s_ix (dv 0) de_int) (de_ix ix_seq s_ix (dv 1) de_int)) (da_cons (de_bin o_mul s_mul (de_ix ix_seq s_ix (dv 0) de_int) (de_ix ix_seq s_ix (dv 1) de_int)) da_nil)))))) vc_parted k_parted.nx
  exact ⟨⟨_, fd, G, T.g_parted, F.kp, F.bindsN (ps := ["a", "b"]) (fun _ _ _ _ _ _ us hl => match us, hl with | [_, _], _ => rfl), FunD.at_ F⟩, k_parted.ms⟩
theorem ok_over (T : Tx K mg) (F_parted : Kn P w K mg base 2 "parted" ["a", "b"] sp_parted) (F_want_fraction : Kn P w K mg base 3 "want_fraction" ["value"] sp_want_fraction) : Kn P w K mg base 4 "over" ["a", "b"] sp_over ∧ KnK P w K mg base 4 "over" 0 ["b", "a"] (fun us ws => order 0 [1, 0] us ws) sp_over := by
  obtain ⟨fd, F⟩ := T.d_over
  have nd := sc_over.nd
  have G : FnG P w K mg base CX0 (3 + 1) (He.ga K "over") fd ["a", "b"] (lSp K mg sp_over) := dfnG (t := t_over) F sc_over k_over.len (fun cdv A outer s H E gd hr =>
    (dss_cons (ds_expr (dk_call F_want_fraction (guards_in gd) (hr.mono (by decide)) rfl (da_cons (dv 0) da_nil))) (dss_cons (ds_expr (dk_call F_want_fraction (guards_in gd) (hr.mono (by decide)) rfl (da_cons (dv 1) da_nil))) (dss_cons (ds_if (dt_cmp (o_eq hr.units) s_eq (dv 1) (de_glob (by rfl) T.g_NOUGHT T.r_NOUGHT T.d_NOUGHT) (nomark _)) (dss_one ds_never) dss_nil) (dss_one (ds_ret (dk_call F_parted (guards_in gd) (hr.mono (by decide)) rfl (da_cons (dv 0) (da_cons (dv 1) da_nil))))))))) vc_over k_over.nx
  refine ⟨⟨⟨_, fd, G, T.g_over, F.kp, F.bindsN (ps := ["a", "b"]) (fun _ _ _ _ _ _ us hl => match us, hl with | [_, _], _ => rfl), FunD.at_ F⟩, k_over.ms⟩, ?_⟩
  · exact ⟨⟨_, fd, _, _, _, G, T.g_over, F.kp, kbn_of F 0 ["b", "a"] _ _ (fun r q => order_vals r q _) (fun _ _ _ _ _ _ us ws l1 l2 => match us, ws, l1, l2 with | [], [_, _], _, _ => rfl), puts_order _ _⟩, k_over.ms⟩
theorem ok__law_minus (T : Tx K mg) (F__law_made : Kn P w K mg base 2 "_law_made" ["above", "below"] sp__law_made) : Kn P w K mg base 3 "_law_minus" ["a", "b"] sp__law_minus := by
  obtain ⟨fd, F⟩ := T.d__law_minus
  have nd := sc__law_minus.nd
  have G : FnG P w K mg base CX0 (2 + 1) (He.ga K "_law_minus") fd ["a", "b"] (lSp K mg sp__law_minus) := dfnG (t := t__law_minus) F sc__law_minus k__law_minus.len (fun cdv A outer s H E gd hr =>
    (dss_one (ds_ret (dk_call F__law_made (guards_in gd) (hr.mono (by decide)) rfl (da_cons (de_bin op_sub s_sub (de_bin o_mul s_mul (de_ix ix_seq s_ix (dv 0) de_int) (de_ix ix_seq s_ix (dv 1) de_int)) (de_bin o_mul s_mul (de_ix ix_seq s_ix (dv 1) de_int) (de_ix ix_seq s_ix (dv 0) de_int))) (da_cons (de_bin o_mul s_mul (de_ix ix_seq s_ix (dv 0) de_int) (de_ix ix_seq s_ix (dv 1) de_int)) da_nil)))))) vc__law_minus k__law_minus.nx
  exact ⟨⟨_, fd, G, T.g__law_minus, F.kp, F.bindsN (ps := ["a", "b"]) (fun _ _ _ _ _ _ us hl => match us, hl with | [_, _], _ => rfl), FunD.at_ F⟩, k__law_minus.ms⟩
theorem ok__law_two_right (T : Tx K mg) (F_over : Kn P w K mg base 4 "over" ["a", "b"] sp_over) (F__law_over : Kn P w K mg base 3 "_law_over" ["a", "b"] sp__law_over) (F_times : Kn P w K mg base 4 "times" ["a", "b"] sp_times) (F_plus : Kn P w K mg base 4 "plus" ["a", "b"] sp_plus) (F_minus : Kn P w K mg base 4 "minus" ["a", "b"] sp_minus) (F_is_less : Kn P w K mg base 4 "is_less" ["a", "b"] sp_is_less) (F__law_plus : Kn P w K mg base 3 "_law_plus" ["a", "b"] sp__law_plus) (F__law_minus : Kn P w K mg base 3 "_law_minus" ["a", "b"] sp__law_minus) (F__law_times : Kn P w K mg base 3 "_law_times" ["a", "b"] sp__law_times) (F__law_lower : Kn P w K mg base 1 "_law_lower" ["a", "b"] sp__law_lower) (W_over_0_b_a : KnK P w K mg base 4 "over" 0 ["b", "a"] (fun us ws => order 0 [1, 0] us ws) sp_over) (W_plus_0_b_a : KnK P w K mg base 4 "plus" 0 ["b", "a"] (fun us ws => order 0 [1, 0] us ws) sp_plus) (W_minus_0_b_a : KnK P w K mg base 4 "minus" 0 ["b", "a"] (fun us ws => order 0 [1, 0] us ws) sp_minus) (W_times_0_b_a : KnK P w K mg base 4 "times" 0 ["b", "a"] (fun us ws => order 0 [1, 0] us ws) sp_times) (W_is_less_0_b_a : KnK P w K mg base 4 "is_less" 0 ["b", "a"] (fun us ws => order 0 [1, 0] us ws) sp_is_less) : Kn P w K mg base 5 "_law_two_right" ["a", "b"] sp__law_two_right := by
  obtain ⟨fd, F⟩ := T.d__law_two_right
  have nd := sc__law_two_right.nd
  have G : FnG P w K mg base CX0 (4 + 1) (He.ga K "_law_two_right") fd ["a", "b"] (lSp K mg sp__law_two_right) := dfnG (t := t__law_two_right) F sc__law_two_right k__law_two_right.len (fun cdv A outer s H E gd hr =>
    (dss_cons (ds_set (i := 2) nd rfl (by first | exact Or.inl rfl | exact Or.inr rfl) (de_lst (da_cons (dk_call F_plus (guards_in gd) (hr.mono (by decide)) rfl (da_cons (dv 0) (da_cons (dv 1) da_nil))) (da_cons (dk_call F_minus (guards_in gd) (hr.mono (by decide)) rfl (da_cons (dv 0) (da_cons (dv 1) da_nil))) (da_cons (dk_call F_times (guards_in gd) (hr.mono (by decide)) rfl (da_cons (dv 0) (da_cons (dv 1) da_nil))) (da_cons (dk_call F_is_less (guards_in gd) (hr.mono (by decide)) rfl (da_cons (dv 0) (da_cons (dv 1) da_nil))) da_nil)))))) (dss_cons (ds_if (dt_cmp (o_ne hr.units) s_ne (de_callB (c_repr gd hr.units) s_repr (by rfl) T.n_repr (by decide +kernel) (da_cons (dv 2) da_nil)) (de_callB (c_repr gd hr.units) s_repr (by rfl) T.n_repr (by decide +kernel) (da_cons (de_lst (da_cons (dk_call F__law_plus (guards_in gd) (hr.mono (by decide)) rfl (da_cons (dv 0) (da_cons (dv 1) da_nil))) (da_cons (dk_call F__law_minus (guards_in gd) (hr.mono (by decide)) rfl (da_cons (dv 0) (da_cons (dv 1) da_nil))) (da_cons (dk_call F__law_times (guards_in gd) (hr.mono (by decide)) rfl (da_cons (dv 0) (da_cons (dv 1) da_nil))) (da_cons (dk_call F__law_lower (guards_in gd) (hr.mono (by decide)) rfl (da_cons (dv 0) (da_cons (dv 1) da_nil))) da_nil))))) da_nil)) (nomark _)) (dss_one (ds_ret de_bl)) dss_nil) (dss_cons (ds_set (i := 3) nd rfl (by first | exact Or.inl rfl | exact Or.inr rfl) (de_lst (da_cons (dk_callK0 W_plus_0_b_a (guards_in gd) (hr.mono (by decide)) rfl (dk_cons (dv 1) (dk_cons (dv 0) dk_nil))) (da_cons (dk_callK0 W_minus_0_b_a (guards_in gd) (hr.mono (by decide)) rfl (dk_cons (dv 1) (dk_cons (dv 0) dk_nil))) (da_cons (dk_callK0 W_times_0_b_a (guards_in gd) (hr.mono (by decide)) rfl (dk_cons (dv 1) (dk_cons (dv 0) dk_nil))) (da_cons (dk_callK0 W_is_less_0_b_a (guards_in gd) (hr.mono (by decide)) rfl (dk_cons (dv 1) (dk_cons (dv 0) dk_nil))) da_nil)))))) (dss_cons (ds_if (DW.pt (dw_or (dt_cmp (o_ne hr.units) s_ne (de_callB (c_repr gd hr.units) s_repr (by rfl) T.n_repr (by decide +kernel) (da_cons (dv 3) da_nil)) (de_callB (c_repr gd hr.units) s_repr (by rfl) T.n_repr (by decide +kernel) (da_cons (dv 2) da_nil)) (nomark _)) (dw_or (dt_cmp (o_ne hr.units) s_ne (dk_call F_plus (guards_in gd) (hr.mono (by decide)) rfl (da_cons (dk_call F_minus (guards_in gd) (hr.mono (by decide)) rfl (da_cons (dv 0) (da_cons (dv 1) da_nil))) (da_cons (dv 1) da_nil))) (dv 0) (nomark _)) (dw_or1 (dt_cmp (o_ne hr.units) s_ne (dk_call F_minus (guards_in gd) (hr.mono (by decide)) rfl (da_cons (dv 0) (da_cons (dv 0) da_nil))) (de_tup (da_cons de_int (da_cons de_int da_nil))) (nomark _)))))) (dss_one (ds_ret de_bl)) dss_nil) (dss_cons (ds_if (dt_cmp (o_eq hr.units) s_eq (de_ix ix_seq s_ix (dv 1) de_int) de_int (nomark _)) (dss_one (ds_ret de_bl)) dss_nil) (dss_one (ds_ret (de_and (de_cmp (o_eq hr.units) s_eq (de_callB (c_repr gd hr.units) s_repr (by rfl) T.n_repr (by decide +kernel) (da_cons (de_lst (da_cons (dk_call F_over (guards_in gd) (hr.mono (by decide)) rfl (da_cons (dv 0) (da_cons (dv 1) da_nil))) (da_cons (dk_callK0 W_over_0_b_a (guards_in gd) (hr.mono (by decide)) rfl (dk_cons (dv 1) (dk_cons (dv 0) dk_nil))) da_nil))) da_nil)) (de_callB (c_repr gd hr.units) s_repr (by rfl) T.n_repr (by decide +kernel) (da_cons (de_bin o_mul s_mul (de_lst (da_cons (dk_call F__law_over (guards_in gd) (hr.mono (by decide)) rfl (da_cons (dv 0) (da_cons (dv 1) da_nil))) da_nil)) de_int) da_nil)) (nomark _)) (de_one (de_cmp (o_eq hr.units) s_eq (dk_call F_times (guards_in gd) (hr.mono (by decide)) rfl (da_cons (dk_call F_over (guards_in gd) (hr.mono (by decide)) rfl (da_cons (dv 0) (da_cons (dv 1) da_nil))) (da_cons (dv 1) da_nil))) (dv 0) (nomark _)))))))))))) vc__law_two_right k__law_two_right.nx
  exact ⟨⟨_, fd, G, T.g__law_two_right, F.kp, F.bindsN (ps := ["a", "b"]) (fun _ _ _ _ _ _ us hl => match us, hl with | [_, _], _ => rfl), FunD.at_ F⟩, k__law_two_right.ms⟩
theorem ok__law_great_right (T : Tx K mg) (F__law_one_right : Kn P w K mg base 5 "_law_one_right" ["a"] sp__law_one_right) (F__law_plus : Kn P w K mg base 3 "_law_plus" ["a", "b"] sp__law_plus) (F__law_minus : Kn P w K mg base 3 "_law_minus" ["a", "b"] sp__law_minus) (F__law_times : Kn P w K mg base 3 "_law_times" ["a", "b"] sp__law_times) (F__law_over : Kn P w K mg base 3 "_law_over" ["a", "b"] sp__law_over) (F__law_lower : Kn P w K mg base 1 "_law_lower" ["a", "b"] sp__law_lower) (F_plus : Kn P w K mg base 4 "plus" ["a", "b"] sp_plus) (F_minus : Kn P w K mg base 4 "minus" ["a", "b"] sp_minus) (F_times : Kn P w K mg base 4 "times" ["a", "b"] sp_times) (F_over : Kn P w K mg base 4 "over" ["a", "b"] sp_over) (F_is_less : Kn P w K mg base 4 "is_less" ["a", "b"] sp_is_less) (F__law_made : Kn P w K mg base 2 "_law_made" ["above", "below"] sp__law_made) (F__law_draw : Kn P w K mg base 1 "_law_draw" ["pot", "many"] sp__law_draw) : Kn P w K mg base 6 "_law_great_right" ["pot"] sp__law_great_right := by
  obtain ⟨fd, F⟩ := T.d__law_great_right
  have nd := sc__law_great_right.nd
  have G : FnG P w K mg base CX0 (5 + 1) (He.ga K "_law_great_right") fd ["pot"] (lSp K mg sp__law_great_right) := dfnG (t := t__law_great_right) F sc__law_great_right k__law_great_right.len (fun cdv A outer s H E gd hr =>
    (dss_cons (ds_set (i := 1) nd rfl (by first | exact Or.inl rfl | exact Or.inr rfl) (dk_call F__law_made (guards_in gd) (hr.mono (by decide)) rfl (da_cons (de_bin op_sub s_sub (dk_call F__law_draw (guards_in gd) (hr.mono (by decide)) rfl (da_cons (dv 0) (da_cons (de_bin o_mul s_mul de_int (de_bin op_pow s_pow de_int de_int)) da_nil))) (de_bin op_pow s_pow de_int de_int)) (da_cons (de_bin o_add s_add de_int (dk_call F__law_draw (guards_in gd) (hr.mono (by decide)) rfl (da_cons (dv 0) (da_cons (de_bin op_pow s_pow de_int de_int) da_nil)))) da_nil)))) (dss_cons (ds_set (i := 2) nd rfl (by first | exact Or.inl rfl | exact Or.inr rfl) (dk_call F__law_made (guards_in gd) (hr.mono (by decide)) rfl (da_cons (de_bin o_add s_add de_int (dk_call F__law_draw (guards_in gd) (hr.mono (by decide)) rfl (da_cons (dv 0) (da_cons (de_bin op_pow s_pow de_int de_int) da_nil)))) (da_cons (de_bin o_add s_add de_int (dk_call F__law_draw (guards_in gd) (hr.mono (by decide)) rfl (da_cons (dv 0) (da_cons (de_bin op_pow s_pow de_int de_int) da_nil)))) da_nil)))) (dss_cons (ds_set (i := 3) nd rfl (by first | exact Or.inl rfl | exact Or.inr rfl) (de_lst (da_cons (dk_call F_plus (guards_in gd) (hr.mono (by decide)) rfl (da_cons (dv 1) (da_cons (dv 2) da_nil))) (da_cons (dk_call F_minus (guards_in gd) (hr.mono (by decide)) rfl (da_cons (dv 1) (da_cons (dv 2) da_nil))) (da_cons (dk_call F_times (guards_in gd) (hr.mono (by decide)) rfl (da_cons (dv 1) (da_cons (dv 2) da_nil))) (da_cons (dk_call F_over (guards_in gd) (hr.mono (by decide)) rfl (da_cons (dv 1) (da_cons (dv 2) da_nil))) (da_cons (dk_call F_is_less (guards_in gd) (hr.mono (by decide)) rfl (da_cons (dv 1) (da_cons (dv 2) da_nil))) (da_cons (dk_call F_is_less (guards_in gd) (hr.mono (by decide)) rfl (da_cons (dv 2) (da_cons (dv 1) da_nil))) da_nil)))))))) (dss_cons (ds_set (i := 4) nd rfl (by first | exact Or.inl rfl | exact Or.inr rfl) (de_lst (da_cons (dk_call F__law_plus (guards_in gd) (hr.mono (by decide)) rfl (da_cons (dv 1) (da_cons (dv 2) da_nil))) (da_cons (dk_call F__law_minus (guards_in gd) (hr.mono (by decide)) rfl (da_cons (dv 1) (da_cons (dv 2) da_nil))) (da_cons (dk_call F__law_times (guards_in gd) (hr.mono (by decide)) rfl (da_cons (dv 1) (da_cons (dv 2) da_nil))) (da_cons (dk_call F__law_over (guards_in gd) (hr.mono (by decide)) rfl (da_cons (dv 1) (da_cons (dv 2) da_nil))) (da_cons (dk_call F__law_lower (guards_in gd) (hr.mono (by decide)) rfl (da_cons (dv 1) (da_cons (dv 2) da_nil))) (da_cons (dk_call F__law_lower (guards_in gd) (hr.mono (by decide)) rfl (da_cons (dv 2) (da_cons (dv 1) da_nil))) da_nil)))))))) (dss_one (ds_ret (de_and (de_cmp (o_eq hr.units) s_eq (de_callB (c_repr gd hr.units) s_repr (by rfl) T.n_repr (by decide +kernel) (da_cons (dv 3) da_nil)) (de_callB (c_repr gd hr.units) s_repr (by rfl) T.n_repr (by decide +kernel) (da_cons (dv 4) da_nil)) (nomark _)) (de_and (dk_call F__law_one_right (guards_in gd) (hr.mono (by decide)) rfl (da_cons (dv 1) da_nil)) (de_one (dk_call F__law_one_right (guards_in gd) (hr.mono (by decide)) rfl (da_cons (dv 2) da_nil)))))))))))) vc__law_great_right k__law_great_right.nx
  exact ⟨⟨_, fd, G, T.g__law_great_right, F.kp, F.bindsN (ps := ["pot"]) (fun _ _ _ _ _ _ us hl => match us, hl with | [_], _ => rfl), FunD.at_ F⟩, k__law_great_right.ms⟩
theorem ok_made (T : Tx K mg) (F_fraction : Kn P w K mg base 1 "fraction" ["above", "below"] sp_fraction) (F_is_integer : Kn P w K mg base 1 "is_integer" ["value"] sp_is_integer) : Kn P w K mg base 2 "made" ["above", "below"] sp_made ∧ KnK P w K mg base 2 "made" 0 ["below", "above"] (fun us ws => order 0 [1, 0] us ws) sp_made := by
  obtain ⟨fd, F⟩ := T.d_made
  have nd := sc_made.nd
  have G : FnG P w K mg base CX0 (1 + 1) (He.ga K "made") fd ["above", "below"] (lSp K mg sp_made) := dfnG (t := t_made) F sc_made k_made.len (fun cdv A outer s H E gd hr =>
    (dss_cons (ds_if (dt_not (dt_val (dk_call F_is_integer (guards_in gd) (hr.mono (by decide)) rfl (da_cons (dv 0) da_nil)))) (dss_one ds_never) dss_nil) (dss_cons (ds_if (DW.pt (dw_or (dt_not (dt_val (dk_call F_is_integer (guards_in gd) (hr.mono (by decide)) rfl (da_cons (dv 1) da_nil)))) (dw_or1 (dt_cmp (o_eq hr.units) s_eq (dv 1) de_int (nomark _))))) (dss_one ds_never) dss_nil) (dss_one (ds_ret (dk_call F_fraction (guards_in gd) (hr.mono (by decide)) rfl (da_cons (dv 0) (da_cons (dv 1) da_nil)))))))) vc_made k_made.nx
  refine ⟨⟨⟨_, fd, G, T.g_made, F.kp, F.bindsN (ps := ["above", "below"]) (fun _ _ _ _ _ _ us hl => match us, hl with | [_, _], _ => rfl), FunD.at_ F⟩, k_made.ms⟩, ?_⟩
  · exact ⟨⟨_, fd, _, _, _, G, T.g_made, F.kp, kbn_of F 0 ["below", "above"] _ _ (fun r q => order_vals r q _) (fun _ _ _ _ _ _ us ws l1 l2 => match us, ws, l1, l2 with | [], [_, _], _, _ => rfl), puts_order _ _⟩, k_made.ms⟩
theorem ok__law_made_right (T : Tx K mg) (F__law_is_one : Kn P w K mg base 2 "_law_is_one" ["value"] sp__law_is_one) (F_made : Kn P w K mg base 2 "made" ["above", "below"] sp_made) (F__law_made : Kn P w K mg base 2 "_law_made" ["above", "below"] sp__law_made) (F__law_draw : Kn P w K mg base 1 "_law_draw" ["pot", "many"] sp__law_draw) (F__law_pick : Kn P w K mg base 2 "_law_pick" ["pot", "some"] sp__law_pick) (W_made_0_below_above : KnK P w K mg base 2 "made" 0 ["below", "above"] (fun us ws => order 0 [1, 0] us ws) sp_made) : Kn P w K mg base 3 "_law_made_right" ["pot"] sp__law_made_right := by
  obtain ⟨fd, F⟩ := T.d__law_made_right
  have nd := sc__law_made_right.nd
  have G : FnG P w K mg base CX0 (2 + 1) (He.ga K "_law_made_right") fd ["pot"] (lSp K mg sp__law_made_right) := dfnG (t := t__law_made_right) F sc__law_made_right k__law_made_right.len (fun cdv A outer s H E gd hr =>
    (dss_cons (ds_set (i := 1) nd rfl (by first | exact Or.inl rfl | exact Or.inr rfl) (dk_call F__law_pick (guards_in gd) (hr.mono (by decide)) rfl (da_cons (dv 0) (da_cons (de_lst (da_cons de_int (da_cons de_int (da_cons (de_bin op_pow s_pow de_int de_int) da_nil)))) da_nil)))) (dss_cons (ds_par (i := 2) (j := 3) rfl nd rfl rfl (by decide) rfl rfl (da_cons (de_bin op_sub s_sub (dk_call F__law_draw (guards_in gd) (hr.mono (by decide)) rfl (da_cons (dv 0) (da_cons (de_bin o_mul s_mul de_int (dv 1)) da_nil))) (dv 1)) (da_cons (de_bin op_sub s_sub (dk_call F__law_draw (guards_in gd) (hr.mono (by decide)) rfl (da_cons (dv 0) (da_cons (de_bin o_mul s_mul de_int (dv 1)) da_nil))) (dv 1)) da_nil)) (by rfl)) (dss_cons (ds_set (i := 3) nd rfl (by first | exact Or.inl rfl | exact Or.inr rfl) (de_if (dt_cmp (o_ne hr.units) s_ne (dv 3) de_int (nomark _)) (dv 3) (de_bin op_sub s_sub de_int de_int))) (dss_cons (ds_set (i := 4) nd rfl (by first | exact Or.inl rfl | exact Or.inr rfl) (dk_call F__law_made (guards_in gd) (hr.mono (by decide)) rfl (da_cons (dv 2) (da_cons (dv 3) da_nil)))) (dss_cons (ds_set (i := 5) nd rfl (by first | exact Or.inl rfl | exact Or.inr rfl) (de_lst (da_cons (dk_call F_made (guards_in gd) (hr.mono (by decide)) rfl (da_cons (dv 2) (da_cons (dv 3) da_nil))) (da_cons (dk_callK0 W_made_0_below_above (guards_in gd) (hr.mono (by decide)) rfl (dk_cons (dv 3) (dk_cons (dv 2) dk_nil))) (da_cons (dk_call F_made (guards_in gd) (hr.mono (by decide)) rfl (da_cons (dv 2) (da_cons de_int da_nil))) (da_cons (dk_call F_made (guards_in gd) (hr.mono (by decide)) rfl (da_cons (dv 2) (da_cons (de_bin op_sub s_sub de_int de_int) da_nil))) da_nil)))))) (dss_one (ds_ret (de_and (de_cmp (o_eq hr.units) s_eq (de_callB (c_repr gd hr.units) s_repr (by rfl) T.n_repr (by decide +kernel) (da_cons (dv 5) da_nil)) (de_callB (c_repr gd hr.units) s_repr (by rfl) T.n_repr (by decide +kernel) (da_cons (de_lst (da_cons (dv 4) (da_cons (dv 4) (da_cons (de_tup (da_cons (dv 2) (da_cons de_int da_nil))) (da_cons (de_tup (da_cons (de_bin op_sub s_sub de_int (dv 2)) (da_cons de_int da_nil))) da_nil))))) da_nil)) (nomark _)) (de_one (dk_call F__law_is_one (guards_in gd) (hr.mono (by decide)) rfl (da_cons (dv 4) da_nil)))))))))))) vc__law_made_right k__law_made_right.nx
  exact ⟨⟨_, fd, G, T.g__law_made_right, F.kp, F.bindsN (ps := ["pot"]) (fun _ _ _ _ _ _ us hl => match us, hl with | [_], _ => rfl), FunD.at_ F⟩, k__law_made_right.ms⟩
theorem ok__law_right (T : Tx K mg) (F__law_made_right : Kn P w K mg base 3 "_law_made_right" ["pot"] sp__law_made_right) (F__law_great_right : Kn P w K mg base 6 "_law_great_right" ["pot"] sp__law_great_right) (F_plus : Kn P w K mg base 4 "plus" ["a", "b"] sp_plus) (F__law_plus : Kn P w K mg base 3 "_law_plus" ["a", "b"] sp__law_plus) (F__law_some : Kn P w K mg base 3 "_law_some" ["pot"] sp__law_some) (F__law_made : Kn P w K mg base 2 "_law_made" ["above", "below"] sp__law_made) (F__law_draw : Kn P w K mg base 1 "_law_draw" ["pot", "many"] sp__law_draw) (F__law_two_right : Kn P w K mg base 5 "_law_two_right" ["a", "b"] sp__law_two_right) (F__law_one_right : Kn P w K mg base 5 "_law_one_right" ["a"] sp__law_one_right) (F__law_values_right : Kn P w K mg base 3 "_law_values_right" ["pot", "a"] sp__law_values_right) : Kn P w K mg base 7 "_law_right" ["pot"] sp__law_right := by
  obtain ⟨fd, F⟩ := T.d__law_right
  have nd := sc__law_right.nd
  have G : FnG P w K mg base CX0 (6 + 1) (He.ga K "_law_right") fd ["pot"] (lSp K mg sp__law_right) := dfnG (t := t__law_right) F sc__law_right k__law_right.len (fun cdv A outer s H E gd hr =>
    (dss_cons (ds_set (i := 1) nd rfl (by first | exact Or.inl rfl | exact Or.inr rfl) (de_lst (da_cons (dk_call F__law_some (guards_in gd) (hr.mono (by decide)) rfl (da_cons (dv 0) da_nil)) (da_cons (dk_call F__law_some (guards_in gd) (hr.mono (by decide)) rfl (da_cons (dv 0) da_nil)) (da_cons (de_tup (da_cons de_int (da_cons de_int da_nil))) (da_cons (dk_call F__law_some (guards_in gd) (hr.mono (by decide)) rfl (da_cons (dv 0) da_nil)) da_nil)))))) (dss_cons (ds_for PassesOwn.never rfl (di_seq (dv 1)) (dg_name (i := 2) nd rfl (by first | exact Or.inl rfl | exact Or.inr rfl)) (dss_cons (ds_if (DW.pt (dw_or (dt_not (dt_val (dk_call F__law_one_right (guards_in gd) (hr.mono (by decide)) rfl (da_cons (dv 2) da_nil)))) (dw_or1 (dt_not (dt_val (dk_call F__law_values_right (guards_in gd) (hr.mono (by decide)) rfl (da_cons (dv 0) (da_cons (dv 2) da_nil)))))))) (dss_one (ds_ret de_bl)) dss_nil) (dss_one (ds_if (dt_not (dt_val (de_callB (cr_all rfl) s_all (by rfl) T.n_all (by decide +kernel) (da_cons (de_comp rfl nd (di_seq (dv 1)) (blkOk_by (own := [("b", 7)]) (N := N__law_right) (sc := defScope s__law_right) (by decide +kernel)) (fun _ _ _ _ _ => (dg_name (i := 7) nd rfl (by first | exact Or.inl rfl | exact Or.inr rfl))) (fun _ _ _ _ _ => dts_nil) (fun _ _ _ _ _ => (dk_call F__law_two_right (guards_in gd) (hr.mono (by decide)) rfl (da_cons (dv 2) (da_cons (dv 7) da_nil)))) mono_gN mono_Yes (mono_Call F__law_two_right.ms (mono_Cons mono_Var (mono_Cons mono_Var mono_Nil)))) da_nil)))) (dss_one (ds_ret de_bl)) dss_nil)))) (dss_cons (ds_asg (de_tup (da_cons (de_tup (da_cons de_int (da_cons de_int da_nil))) (da_cons (de_tup (da_cons de_int (da_cons de_int da_nil))) da_nil))) (dg_tup rfl (dgs_cons (dg_name (i := 3) nd rfl (by first | exact Or.inl rfl | exact Or.inr rfl)) (dgs_cons (dg_name (i := 4) nd rfl (by first | exact Or.inl rfl | exact Or.inr rfl)) dgs_nil)))) (dss_cons (ds_for PassesOwn.never rfl (di_range1 (by rfl) T.n_range (da_cons de_int da_nil)) (dg_name (i := 5) nd rfl (by first | exact Or.inl rfl | exact Or.inr rfl)) (dss_cons (ds_set (i := 6) nd rfl (by first | exact Or.inl rfl | exact Or.inr rfl) (de_if (dt_cmp op_lt s_lt (dv 5) de_int (nomark _)) (dk_call F__law_some (guards_in gd) (hr.mono (by decide)) rfl (da_cons (dv 0) da_nil)) (dk_call F__law_made (guards_in gd) (hr.mono (by decide)) rfl (da_cons (de_bin op_sub s_sub (dk_call F__law_draw (guards_in gd) (hr.mono (by decide)) rfl (da_cons (dv 0) (da_cons de_int da_nil))) de_int) (da_cons (de_bin o_add s_add de_int (dk_call F__law_draw (guards_in gd) (hr.mono (by decide)) rfl (da_cons (dv 0) (da_cons de_int da_nil)))) da_nil))))) (dss_one (ds_par (i := 3) (j := 4) rfl nd rfl rfl (by decide) rfl rfl (da_cons (dk_call F_plus (guards_in gd) (hr.mono (by decide)) rfl (da_cons (dv 3) (da_cons (dv 6) da_nil))) (da_cons (dk_call F__law_plus (guards_in gd) (hr.mono (by decide)) rfl (da_cons (dv 4) (da_cons (dv 6) da_nil))) da_nil)) (by rfl))))) (dss_one (ds_ret (de_and (de_cmp (o_eq hr.units) s_eq (dv 3) (dv 4) (nomark _)) (de_and (dk_call F__law_made_right (guards_in gd) (hr.mono (by decide)) rfl (da_cons (dv 0) da_nil)) (de_one (dk_call F__law_great_right (guards_in gd) (hr.mono (by decide)) rfl (da_cons (dv 0) da_nil)))))))))))) vc__law_right k__law_right.nx
  exact ⟨⟨_, fd, G, T.g__law_right, F.kp, F.bindsN (ps := ["pot"]) (fun _ _ _ _ _ _ us hl => match us, hl with | [_], _ => rfl), FunD.at_ F⟩, k__law_right.ms⟩
theorem ok_law (T : Tx K mg) (F__law_right : Kn P w K mg base 7 "_law_right" ["pot"] sp__law_right) (F__law_pot : Kn P w K mg base 1 "_law_pot" ["script", "k"] sp__law_pot) : Kn P w K mg base 8 "law" ["script"] sp_law := by
  obtain ⟨fd, F⟩ := T.d_law
  have nd := sc_law.nd
  have G : FnG P w K mg base CX0 (7 + 1) (He.ga K "law") fd ["script"] (lSp K mg sp_law) := dfnG (t := t_law) F sc_law k_law.len (fun cdv A outer s H E gd hr =>
    (dss_one (ds_ret (de_callB (cr_all rfl) s_all (by rfl) T.n_all (by decide +kernel) (da_cons (de_comp rfl nd (di_range1 (by rfl) T.n_range (da_cons (de_callB (call_max2 rfl) s_max2 (by rfl) T.n_max (by decide +kernel) (da_cons de_int (da_cons (de_callB (call_min2 rfl) s_min2 (by rfl) T.n_min (by decide +kernel) (da_cons de_int (da_cons (de_callB call_len s_len (by rfl) T.n_len (by decide +kernel) (da_cons (dv 0) da_nil)) da_nil))) da_nil))) da_nil)) (blkOk_by (own := [("k", 1)]) (N := N_law) (sc := defScope s_law) (by decide +kernel)) (fun _ _ _ _ _ => (dg_name (i := 1) nd rfl (by first | exact Or.inl rfl | exact Or.inr rfl))) (fun _ _ _ _ _ => dts_nil) (fun _ _ _ _ _ => (dk_call F__law_right (guards_in gd) (hr.mono (by decide)) rfl (da_cons (dk_call F__law_pot (guards_in gd) (hr.mono (by decide)) rfl (da_cons (dv 0) (da_cons (dv 1) da_nil))) da_nil))) mono_gN mono_Yes (mono_Call F__law_right.ms (mono_Cons (mono_Call F__law_pot.ms (mono_Cons mono_Var (mono_Cons mono_Var mono_Nil))) mono_Nil))) da_nil))))) vc_law k_law.nx
  exact ⟨⟨_, fd, G, T.g_law, F.kp, F.bindsN (ps := ["script"]) (fun _ _ _ _ _ _ us hl => match us, hl with | [_], _ => rfl), FunD.at_ F⟩, k_law.ms⟩
end K10

/-! the head; printed by gen.py -/
namespace K10
open PySem PySem.Spec PyProof.Rows L2 DL
section
variable {P : Program} {w : World} {K : PySem.W.Frag} {mg : Str → Option Value} {base : Heap}
theorem ok_all (T : Tx K mg) : Kn P w K mg base 8 "law" ["script"] sp_law := by
  have F__law_pot := ok__law_pot (P := P) (w := w) (base := base) T 
  have F__law_gcd := ok__law_gcd (P := P) (w := w) (base := base) T 
  have F__law_made := ok__law_made (P := P) (w := w) (base := base) T F__law_gcd
  have F__law_draw := ok__law_draw (P := P) (w := w) (base := base) T 
  have F__law_pick := ok__law_pick (P := P) (w := w) (base := base) T F__law_draw
  have F__law_some := ok__law_some (P := P) (w := w) (base := base) T F__law_made F__law_draw F__law_pick
  have F_is_integer := ok_is_integer (P := P) (w := w) (base := base) T 
  obtain ⟨F_is_fraction, W_is_fraction_0_value⟩ := ok_is_fraction (P := P) (w := w) (base := base) T F_is_integer
  have F_want_fraction := ok_want_fraction (P := P) (w := w) (base := base) T F_is_fraction
  have F_fraction := ok_fraction (P := P) (w := w) (base := base) T 
  have F_added := ok_added (P := P) (w := w) (base := base) T F_fraction
  obtain ⟨F_plus, W_plus_0_b_a⟩ := ok_plus (P := P) (w := w) (base := base) T F_added F_want_fraction
  have F__law_lower := ok__law_lower (P := P) (w := w) (base := base) T 
  have F__law_floor := ok__law_floor (P := P) (w := w) (base := base) T F__law_lower
  have F_ceiling_of := ok_ceiling_of (P := P) (w := w) (base := base) T 
  obtain ⟨F_ceiling, W_ceiling_0_a⟩ := ok_ceiling (P := P) (w := w) (base := base) T F_ceiling_of F_want_fraction
  have F_floor_of := ok_floor_of (P := P) (w := w) (base := base) T 
  obtain ⟨F_floor, W_floor_0_a⟩ := ok_floor (P := P) (w := w) (base := base) T F_floor_of F_want_fraction
  have F__law_one_right := ok__law_one_right (P := P) (w := w) (base := base) T F_floor F_ceiling F_is_fraction F__law_floor W_floor_0_a W_ceiling_0_a
  have F__law_is_one := ok__law_is_one (P := P) (w := w) (base := base) T F__law_gcd
  have F__law_values_right := ok__law_values_right (P := P) (w := w) (base := base) T F__law_pick F_is_fraction F__law_is_one W_is_fraction_0_value
  have F_scaled := ok_scaled (P := P) (w := w) (base := base) T F_fraction
  obtain ⟨F_times, W_times_0_b_a⟩ := ok_times (P := P) (w := w) (base := base) T F_scaled F_want_fraction
  have F__law_over := ok__law_over (P := P) (w := w) (base := base) T F__law_made
  have F_taken := ok_taken (P := P) (w := w) (base := base) T F_fraction
  obtain ⟨F_minus, W_minus_0_b_a⟩ := ok_minus (P := P) (w := w) (base := base) T F_taken F_want_fraction
  have F__law_times := ok__law_times (P := P) (w := w) (base := base) T F__law_made
  have F__law_plus := ok__law_plus (P := P) (w := w) (base := base) T F__law_made
  have F_lower := ok_lower (P := P) (w := w) (base := base) T 
  obtain ⟨F_is_less, W_is_less_0_b_a⟩ := ok_is_less (P := P) (w := w) (base := base) T F_lower F_want_fraction
  have F_parted := ok_parted (P := P) (w := w) (base := base) T F_fraction
  obtain ⟨F_over, W_over_0_b_a⟩ := ok_over (P := P) (w := w) (base := base) T F_parted F_want_fraction
  have F__law_minus := ok__law_minus (P := P) (w := w) (base := base) T F__law_made
  have F__law_two_right := ok__law_two_right (P := P) (w := w) (base := base) T F_over F__law_over F_times F_plus F_minus F_is_less F__law_plus F__law_minus F__law_times F__law_lower W_over_0_b_a W_plus_0_b_a W_minus_0_b_a W_times_0_b_a W_is_less_0_b_a
  have F__law_great_right := ok__law_great_right (P := P) (w := w) (base := base) T F__law_one_right F__law_plus F__law_minus F__law_times F__law_over F__law_lower F_plus F_minus F_times F_over F_is_less F__law_made F__law_draw
  obtain ⟨F_made, W_made_0_below_above⟩ := ok_made (P := P) (w := w) (base := base) T F_fraction F_is_integer
  have F__law_made_right := ok__law_made_right (P := P) (w := w) (base := base) T F__law_is_one F_made F__law_made F__law_draw F__law_pick W_made_0_below_above
  have F__law_right := ok__law_right (P := P) (w := w) (base := base) T F__law_made_right F__law_great_right F_plus F__law_plus F__law_some F__law_made F__law_draw F__law_two_right F__law_one_right F__law_values_right
  have F_law := ok_law (P := P) (w := w) (base := base) T F__law_right F__law_pot
  exact F_law
end
def dd__law_pot : He.DefD := ⟨("_law_pot", none), "_law_pot", "_law_pot", defArgs s__law_pot, defBody s__law_pot, defScope s__law_pot, [], []⟩
def dd__law_gcd : He.DefD := ⟨("_law_gcd", none), "_law_gcd", "_law_gcd", defArgs s__law_gcd, defBody s__law_gcd, defScope s__law_gcd, [], []⟩
def dd__law_made : He.DefD := ⟨("_law_made", none), "_law_made", "_law_made", defArgs s__law_made, defBody s__law_made, defScope s__law_made, [], []⟩
def dd__law_draw : He.DefD := ⟨("_law_draw", none), "_law_draw", "_law_draw", defArgs s__law_draw, defBody s__law_draw, defScope s__law_draw, [], []⟩
def dd__law_pick : He.DefD := ⟨("_law_pick", none), "_law_pick", "_law_pick", defArgs s__law_pick, defBody s__law_pick, defScope s__law_pick, [], []⟩
def dd__law_some : He.DefD := ⟨("_law_some", none), "_law_some", "_law_some", defArgs s__law_some, defBody s__law_some, defScope s__law_some, [], []⟩
def dd_is_integer : He.DefD := ⟨("is_integer", none), "is_integer", "is_integer", defArgs s_is_integer, defBody s_is_integer, defScope s_is_integer, [], []⟩
def dd_is_fraction : He.DefD := ⟨("is_fraction", none), "is_fraction", "is_fraction", defArgs s_is_fraction, defBody s_is_fraction, defScope s_is_fraction, [], []⟩
def dd_want_fraction : He.DefD := ⟨("want_fraction", none), "want_fraction", "want_fraction", defArgs s_want_fraction, defBody s_want_fraction, defScope s_want_fraction, [], []⟩
def dd_fraction : He.DefD := ⟨("fraction", none), "fraction", "fraction", defArgs s_fraction, defBody s_fraction, defScope s_fraction, [], []⟩
def dd_added : He.DefD := ⟨("added", none), "added", "added", defArgs s_added, defBody s_added, defScope s_added, [], []⟩
def dd_plus : He.DefD := ⟨("plus", none), "plus", "plus", defArgs s_plus, defBody s_plus, defScope s_plus, [], []⟩
def dd__law_lower : He.DefD := ⟨("_law_lower", none), "_law_lower", "_law_lower", defArgs s__law_lower, defBody s__law_lower, defScope s__law_lower, [], []⟩
def dd__law_floor : He.DefD := ⟨("_law_floor", none), "_law_floor", "_law_floor", defArgs s__law_floor, defBody s__law_floor, defScope s__law_floor, [], []⟩
def dd_ceiling_of : He.DefD := ⟨("ceiling_of", none), "ceiling_of", "ceiling_of", defArgs s_ceiling_of, defBody s_ceiling_of, defScope s_ceiling_of, [], []⟩
def dd_ceiling : He.DefD := ⟨("ceiling", none), "ceiling", "ceiling", defArgs s_ceiling, defBody s_ceiling, defScope s_ceiling, [], []⟩
def dd_floor_of : He.DefD := ⟨("floor_of", none), "floor_of", "floor_of", defArgs s_floor_of, defBody s_floor_of, defScope s_floor_of, [], []⟩
def dd_floor : He.DefD := ⟨("floor", none), "floor", "floor", defArgs s_floor, defBody s_floor, defScope s_floor, [], []⟩
def dd__law_one_right : He.DefD := ⟨("_law_one_right", none), "_law_one_right", "_law_one_right", defArgs s__law_one_right, defBody s__law_one_right, defScope s__law_one_right, [], []⟩
def dd__law_is_one : He.DefD := ⟨("_law_is_one", none), "_law_is_one", "_law_is_one", defArgs s__law_is_one, defBody s__law_is_one, defScope s__law_is_one, [], []⟩
def dd__law_values_right : He.DefD := ⟨("_law_values_right", none), "_law_values_right", "_law_values_right", defArgs s__law_values_right, defBody s__law_values_right, defScope s__law_values_right, [], []⟩
def dd_scaled : He.DefD := ⟨("scaled", none), "scaled", "scaled", defArgs s_scaled, defBody s_scaled, defScope s_scaled, [], []⟩
def dd_times : He.DefD := ⟨("times", none), "times", "times", defArgs s_times, defBody s_times, defScope s_times, [], []⟩
def dd__law_over : He.DefD := ⟨("_law_over", none), "_law_over", "_law_over", defArgs s__law_over, defBody s__law_over, defScope s__law_over, [], []⟩
def dd_taken : He.DefD := ⟨("taken", none), "taken", "taken", defArgs s_taken, defBody s_taken, defScope s_taken, [], []⟩
def dd_minus : He.DefD := ⟨("minus", none), "minus", "minus", defArgs s_minus, defBody s_minus, defScope s_minus, [], []⟩
def dd__law_times : He.DefD := ⟨("_law_times", none), "_law_times", "_law_times", defArgs s__law_times, defBody s__law_times, defScope s__law_times, [], []⟩
def dd__law_plus : He.DefD := ⟨("_law_plus", none), "_law_plus", "_law_plus", defArgs s__law_plus, defBody s__law_plus, defScope s__law_plus, [], []⟩
def dd_lower : He.DefD := ⟨("lower", none), "lower", "lower", defArgs s_lower, defBody s_lower, defScope s_lower, [], []⟩
def dd_is_less : He.DefD := ⟨("is_less", none), "is_less", "is_less", defArgs s_is_less, defBody s_is_less, defScope s_is_less, [], []⟩
def dd_parted : He.DefD := ⟨("parted", none), "parted", "parted", defArgs s_parted, defBody s_parted, defScope s_parted, [], []⟩
def dd_over : He.DefD := ⟨("over", none), "over", "over", defArgs s_over, defBody s_over, defScope s_over, [], []⟩
def dd__law_minus : He.DefD := ⟨("_law_minus", none), "_law_minus", "_law_minus", defArgs s__law_minus, defBody s__law_minus, defScope s__law_minus, [], []⟩
def dd__law_two_right : He.DefD := ⟨("_law_two_right", none), "_law_two_right", "_law_two_right", defArgs s__law_two_right, defBody s__law_two_right, defScope s__law_two_right, [], []⟩
def dd__law_great_right : He.DefD := ⟨("_law_great_right", none), "_law_great_right", "_law_great_right", defArgs s__law_great_right, defBody s__law_great_right, defScope s__law_great_right, [], []⟩
def dd_made : He.DefD := ⟨("made", none), "made", "made", defArgs s_made, defBody s_made, defScope s_made, [], []⟩
def dd__law_made_right : He.DefD := ⟨("_law_made_right", none), "_law_made_right", "_law_made_right", defArgs s__law_made_right, defBody s__law_made_right, defScope s__law_made_right, [], []⟩
def dd__law_right : He.DefD := ⟨("_law_right", none), "_law_right", "_law_right", defArgs s__law_right, defBody s__law_right, defScope s__law_right, [], []⟩
def dd_law : He.DefD := ⟨("law", none), "law", "law", defArgs s_law, defBody s_law, defScope s_law, [], []⟩
def fn : List He.DefD := [dd__law_pot, dd__law_gcd, dd__law_made, dd__law_draw, dd__law_pick, dd__law_some, dd_is_integer, dd_is_fraction, dd_want_fraction, dd_fraction, dd_added, dd_plus, dd__law_lower, dd__law_floor, dd_ceiling_of, dd_ceiling, dd_floor_of, dd_floor, dd__law_one_right, dd__law_is_one, dd__law_values_right, dd_scaled, dd_times, dd__law_over, dd_taken, dd_minus, dd__law_times, dd__law_plus, dd_lower, dd_is_less, dd_parted, dd_over, dd__law_minus, dd__law_two_right, dd__law_great_right, dd_made, dd__law_made_right, dd__law_right, dd_law]
def fa : List He.Fa := [.glo "_law_pot", .glo "_law_gcd", .glo "_law_made", .glo "_law_draw", .glo "_law_pick", .glo "_law_some", .glo "is_integer", .glo "is_fraction", .glo "want_fraction", .glo "fraction", .glo "added", .glo "plus", .glo "_law_lower", .glo "_law_floor", .glo "ceiling_of", .glo "ceiling", .glo "floor_of", .glo "floor", .glo "_law_one_right", .glo "_law_is_one", .glo "_law_values_right", .glo "scaled", .glo "times", .glo "_law_over", .glo "taken", .glo "minus", .glo "_law_times", .glo "_law_plus", .glo "lower", .glo "is_less", .glo "parted", .glo "over", .glo "_law_minus", .glo "_law_two_right", .glo "_law_great_right", .glo "made", .glo "_law_made_right", .glo "_law_right", .glo "law", .free "abs", .free "all", .free "bool", .free "divmod", .free "int", .free "isinstance", .free "len", .free "max", .free "min", .free "range", .free "repr", .free "str", .free "tuple", .glo "NOUGHT"]
def bx : List (PySem.W.Frag → Bool) := [fun K => He.tupB K "NOUGHT" [.int 0, .int 1], fun K => He.eqO (PySem.W.nsIn K mainGlobals "gcd") (some (some (.builtin "math.gcd")))]
def loose0 : List Str := ["HeldError", "StateError", "InvalidFraction", "InvalidNumber", "DividedByNought", "is_integer", "NOUGHT", "fraction", "lower", "added"]
def loose1 : List Str := ["taken", "scaled", "parted", "floor_of", "ceiling_of", "is_fraction", "want_fraction", "made", "is_less", "plus"]
def loose2 : List Str := ["minus", "times", "over", "floor", "ceiling", "_law_pot", "_law_draw", "_law_pick", "_law_gcd", "_law_made"]
def loose3 : List Str := ["_law_lower", "_law_plus", "_law_minus", "_law_times", "_law_over", "_law_least", "_law_greatest", "_law_some", "_law_floor", "_law_is_one"]
def loose4 : List Str := ["_law_two_right", "_law_one_right", "_law_made_right", "_law_values_right", "_law_great_right", "_law_right"]
abbrev loose : List Str := loose0 ++ loose1 ++ loose2 ++ loose3 ++ loose4
abbrev R : PySem.W.OpenRow := PySem.W.OpenLaw.row PySem.Challenge.rw_surelyheld_k10_whole_fractions_reckoned
abbrev hk : PySem.W.Hook := hookX 4 fa fn bx
def ob (s : PySem.W.SharedT) : AlX := obsXG 4 fa fn bx (HandSHeadRun.getT s)
theorem ob_eq (s : PySem.W.SharedT) : ob s = hk.obs s.abs := obsXG_eq (HandSHeadRun.getT_eq s)
theorem run (w : World) : HandSHeadRun.RunEqI R (PySem.W.view R.prog [0, 51]) hk ob 4000 loose w := by
  unfold HandSHeadRun.RunEqI
  kernel_rfl
theorem facts {K : PySem.W.Frag} {h : Heap} {mg : Str → Option Value} (X : K.In h) (G : h.Ns mainGlobals mg) (c : SaysX fa fn bx K) : Tx K mg where
  d__law_pot := by
    obtain ⟨fd, F⟩ := c.d.def_ 0 (d := dd__law_pot) rfl
    exact ⟨fd, F⟩
  g__law_pot := He.glo_ok X G (c.d.fact 0 (f := .glo "_law_pot") rfl)
  d__law_gcd := by
    obtain ⟨fd, F⟩ := c.d.def_ 1 (d := dd__law_gcd) rfl
    exact ⟨fd, F⟩
  g__law_gcd := He.glo_ok X G (c.d.fact 1 (f := .glo "_law_gcd") rfl)
  d__law_made := by
    obtain ⟨fd, F⟩ := c.d.def_ 2 (d := dd__law_made) rfl
    exact ⟨fd, F⟩
  g__law_made := He.glo_ok X G (c.d.fact 2 (f := .glo "_law_made") rfl)
  d__law_draw := by
    obtain ⟨fd, F⟩ := c.d.def_ 3 (d := dd__law_draw) rfl
    exact ⟨fd, F⟩
  g__law_draw := He.glo_ok X G (c.d.fact 3 (f := .glo "_law_draw") rfl)
  d__law_pick := by
    obtain ⟨fd, F⟩ := c.d.def_ 4 (d := dd__law_pick) rfl
    exact ⟨fd, F⟩
  g__law_pick := He.glo_ok X G (c.d.fact 4 (f := .glo "_law_pick") rfl)
  d__law_some := by
    obtain ⟨fd, F⟩ := c.d.def_ 5 (d := dd__law_some) rfl
    exact ⟨fd, F⟩
  g__law_some := He.glo_ok X G (c.d.fact 5 (f := .glo "_law_some") rfl)
  d_is_integer := by
    obtain ⟨fd, F⟩ := c.d.def_ 6 (d := dd_is_integer) rfl
    exact ⟨fd, F⟩
  g_is_integer := He.glo_ok X G (c.d.fact 6 (f := .glo "is_integer") rfl)
  d_is_fraction := by
    obtain ⟨fd, F⟩ := c.d.def_ 7 (d := dd_is_fraction) rfl
    exact ⟨fd, F⟩
  g_is_fraction := He.glo_ok X G (c.d.fact 7 (f := .glo "is_fraction") rfl)
  d_want_fraction := by
    obtain ⟨fd, F⟩ := c.d.def_ 8 (d := dd_want_fraction) rfl
    exact ⟨fd, F⟩
  g_want_fraction := He.glo_ok X G (c.d.fact 8 (f := .glo "want_fraction") rfl)
  d_fraction := by
    obtain ⟨fd, F⟩ := c.d.def_ 9 (d := dd_fraction) rfl
    exact ⟨fd, F⟩
  g_fraction := He.glo_ok X G (c.d.fact 9 (f := .glo "fraction") rfl)
  d_added := by
    obtain ⟨fd, F⟩ := c.d.def_ 10 (d := dd_added) rfl
    exact ⟨fd, F⟩
  g_added := He.glo_ok X G (c.d.fact 10 (f := .glo "added") rfl)
  d_plus := by
    obtain ⟨fd, F⟩ := c.d.def_ 11 (d := dd_plus) rfl
    exact ⟨fd, F⟩
  g_plus := He.glo_ok X G (c.d.fact 11 (f := .glo "plus") rfl)
  d__law_lower := by
    obtain ⟨fd, F⟩ := c.d.def_ 12 (d := dd__law_lower) rfl
    exact ⟨fd, F⟩
  g__law_lower := He.glo_ok X G (c.d.fact 12 (f := .glo "_law_lower") rfl)
  d__law_floor := by
    obtain ⟨fd, F⟩ := c.d.def_ 13 (d := dd__law_floor) rfl
    exact ⟨fd, F⟩
  g__law_floor := He.glo_ok X G (c.d.fact 13 (f := .glo "_law_floor") rfl)
  d_ceiling_of := by
    obtain ⟨fd, F⟩ := c.d.def_ 14 (d := dd_ceiling_of) rfl
    exact ⟨fd, F⟩
  g_ceiling_of := He.glo_ok X G (c.d.fact 14 (f := .glo "ceiling_of") rfl)
  d_ceiling := by
    obtain ⟨fd, F⟩ := c.d.def_ 15 (d := dd_ceiling) rfl
    exact ⟨fd, F⟩
  g_ceiling := He.glo_ok X G (c.d.fact 15 (f := .glo "ceiling") rfl)
  d_floor_of := by
    obtain ⟨fd, F⟩ := c.d.def_ 16 (d := dd_floor_of) rfl
    exact ⟨fd, F⟩
  g_floor_of := He.glo_ok X G (c.d.fact 16 (f := .glo "floor_of") rfl)
  d_floor := by
    obtain ⟨fd, F⟩ := c.d.def_ 17 (d := dd_floor) rfl
    exact ⟨fd, F⟩
  g_floor := He.glo_ok X G (c.d.fact 17 (f := .glo "floor") rfl)
  d__law_one_right := by
    obtain ⟨fd, F⟩ := c.d.def_ 18 (d := dd__law_one_right) rfl
    exact ⟨fd, F⟩
  g__law_one_right := He.glo_ok X G (c.d.fact 18 (f := .glo "_law_one_right") rfl)
  d__law_is_one := by
    obtain ⟨fd, F⟩ := c.d.def_ 19 (d := dd__law_is_one) rfl
    exact ⟨fd, F⟩
  g__law_is_one := He.glo_ok X G (c.d.fact 19 (f := .glo "_law_is_one") rfl)
  d__law_values_right := by
    obtain ⟨fd, F⟩ := c.d.def_ 20 (d := dd__law_values_right) rfl
    exact ⟨fd, F⟩
  g__law_values_right := He.glo_ok X G (c.d.fact 20 (f := .glo "_law_values_right") rfl)
  d_scaled := by
    obtain ⟨fd, F⟩ := c.d.def_ 21 (d := dd_scaled) rfl
    exact ⟨fd, F⟩
  g_scaled := He.glo_ok X G (c.d.fact 21 (f := .glo "scaled") rfl)
  d_times := by
    obtain ⟨fd, F⟩ := c.d.def_ 22 (d := dd_times) rfl
    exact ⟨fd, F⟩
  g_times := He.glo_ok X G (c.d.fact 22 (f := .glo "times") rfl)
  d__law_over := by
    obtain ⟨fd, F⟩ := c.d.def_ 23 (d := dd__law_over) rfl
    exact ⟨fd, F⟩
  g__law_over := He.glo_ok X G (c.d.fact 23 (f := .glo "_law_over") rfl)
  d_taken := by
    obtain ⟨fd, F⟩ := c.d.def_ 24 (d := dd_taken) rfl
    exact ⟨fd, F⟩
  g_taken := He.glo_ok X G (c.d.fact 24 (f := .glo "taken") rfl)
  d_minus := by
    obtain ⟨fd, F⟩ := c.d.def_ 25 (d := dd_minus) rfl
    exact ⟨fd, F⟩
  g_minus := He.glo_ok X G (c.d.fact 25 (f := .glo "minus") rfl)
  d__law_times := by
    obtain ⟨fd, F⟩ := c.d.def_ 26 (d := dd__law_times) rfl
    exact ⟨fd, F⟩
  g__law_times := He.glo_ok X G (c.d.fact 26 (f := .glo "_law_times") rfl)
  d__law_plus := by
    obtain ⟨fd, F⟩ := c.d.def_ 27 (d := dd__law_plus) rfl
    exact ⟨fd, F⟩
  g__law_plus := He.glo_ok X G (c.d.fact 27 (f := .glo "_law_plus") rfl)
  d_lower := by
    obtain ⟨fd, F⟩ := c.d.def_ 28 (d := dd_lower) rfl
    exact ⟨fd, F⟩
  g_lower := He.glo_ok X G (c.d.fact 28 (f := .glo "lower") rfl)
  d_is_less := by
    obtain ⟨fd, F⟩ := c.d.def_ 29 (d := dd_is_less) rfl
    exact ⟨fd, F⟩
  g_is_less := He.glo_ok X G (c.d.fact 29 (f := .glo "is_less") rfl)
  d_parted := by
    obtain ⟨fd, F⟩ := c.d.def_ 30 (d := dd_parted) rfl
    exact ⟨fd, F⟩
  g_parted := He.glo_ok X G (c.d.fact 30 (f := .glo "parted") rfl)
  d_over := by
    obtain ⟨fd, F⟩ := c.d.def_ 31 (d := dd_over) rfl
    exact ⟨fd, F⟩
  g_over := He.glo_ok X G (c.d.fact 31 (f := .glo "over") rfl)
  d__law_minus := by
    obtain ⟨fd, F⟩ := c.d.def_ 32 (d := dd__law_minus) rfl
    exact ⟨fd, F⟩
  g__law_minus := He.glo_ok X G (c.d.fact 32 (f := .glo "_law_minus") rfl)
  d__law_two_right := by
    obtain ⟨fd, F⟩ := c.d.def_ 33 (d := dd__law_two_right) rfl
    exact ⟨fd, F⟩
  g__law_two_right := He.glo_ok X G (c.d.fact 33 (f := .glo "_law_two_right") rfl)
  d__law_great_right := by
    obtain ⟨fd, F⟩ := c.d.def_ 34 (d := dd__law_great_right) rfl
    exact ⟨fd, F⟩
  g__law_great_right := He.glo_ok X G (c.d.fact 34 (f := .glo "_law_great_right") rfl)
  d_made := by
    obtain ⟨fd, F⟩ := c.d.def_ 35 (d := dd_made) rfl
    exact ⟨fd, F⟩
  g_made := He.glo_ok X G (c.d.fact 35 (f := .glo "made") rfl)
  d__law_made_right := by
    obtain ⟨fd, F⟩ := c.d.def_ 36 (d := dd__law_made_right) rfl
    exact ⟨fd, F⟩
  g__law_made_right := He.glo_ok X G (c.d.fact 36 (f := .glo "_law_made_right") rfl)
  d__law_right := by
    obtain ⟨fd, F⟩ := c.d.def_ 37 (d := dd__law_right) rfl
    exact ⟨fd, F⟩
  g__law_right := He.glo_ok X G (c.d.fact 37 (f := .glo "_law_right") rfl)
  d_law := by
    obtain ⟨fd, F⟩ := c.d.def_ 38 (d := dd_law) rfl
    exact ⟨fd, F⟩
  g_law := He.glo_ok X G (c.d.fact 38 (f := .glo "law") rfl)
  n_abs := He.free_ok X G (c.d.fact 39 (f := .free "abs") rfl)
  n_all := He.free_ok X G (c.d.fact 40 (f := .free "all") rfl)
  n_bool := He.free_ok X G (c.d.fact 41 (f := .free "bool") rfl)
  n_divmod := He.free_ok X G (c.d.fact 42 (f := .free "divmod") rfl)
  n_int := He.free_ok X G (c.d.fact 43 (f := .free "int") rfl)
  n_isinstance := He.free_ok X G (c.d.fact 44 (f := .free "isinstance") rfl)
  n_len := He.free_ok X G (c.d.fact 45 (f := .free "len") rfl)
  n_max := He.free_ok X G (c.d.fact 46 (f := .free "max") rfl)
  n_min := He.free_ok X G (c.d.fact 47 (f := .free "min") rfl)
  n_range := He.free_ok X G (c.d.fact 48 (f := .free "range") rfl)
  n_repr := He.free_ok X G (c.d.fact 49 (f := .free "repr") rfl)
  n_str := He.free_ok X G (c.d.fact 50 (f := .free "str") rfl)
  n_tuple := He.free_ok X G (c.d.fact 51 (f := .free "tuple") rfl)
  g_NOUGHT := He.glo_ok X G (c.d.fact 52 (f := .glo "NOUGHT") rfl)
  d_NOUGHT := fun W => dat_tupB (c.b 0 rfl) (by decide) (.cons datI (.cons datI .nil))
  g_gcd := PySem.W.mg_of X G (He.eqO_ok (c.b 1 rfl))
end K10
open PySem PySem.W PySem.Calls PyProof.Rows in
set_option maxHeartbeats 0 in
theorem PySem.Challenge.cw_surelyheld_k10_whole_fractions_reckoned_holds : PySem.Challenge.rw_surelyheld_k10_whole_fractions_reckoned.Holds := by
  w_on; o_law
  refine HandSHeadRun.head_imp (r := OpenLaw.row PySem.Challenge.rw_surelyheld_k10_whole_fractions_reckoned) (q := view (OpenLaw.row PySem.Challenge.rw_surelyheld_k10_whole_fractions_reckoned).prog [0, 51]) (H := K10.hk) (ob := K10.ob) (M := 4000) (loose := K10.loose) (d := HandSHeadRun.topDef (OpenLaw.row PySem.Challenge.rw_surelyheld_k10_whole_fractions_reckoned).prog 51) (kwd := []) K10.ob_eq
    K10.run (by kernel_rfl) (by kernel_rfl) (by kernel_rfl) (by rfl) (by first | assumption | decide +kernel) (by decide +kernel) ⟨rfl, rfl, rfl, rfl, rfl, by decide +kernel⟩ ?hw ?hc
  case hw => w_witness2
  case hc =>
    refine DL.walkG (l := PySem.Challenge.rw_surelyheld_k10_whole_fractions_reckoned) (n := 63) (k := 8) (x := "script") rfl (by decide) (by kernel_rfl) ⟨rfl, by decide, by decide⟩ ?_
    intro w mg fa h Y G hmg0
    obtain ⟨K, KX, c⟩ := Y
    have hmg : mg ("law" : PySem.Str) = some (.ref fa) := by
      have e : (HandSHeadRun.topDef (OpenLaw.row PySem.Challenge.rw_surelyheld_k10_whole_fractions_reckoned).prog 51).name = ("law" : PySem.Str) := by kernel_rfl
      rw [← e]
      exact hmg0
    have T := K10.facts KX G c
    have e := hmg.symm.trans T.g_law
    cases e
    exact DL.law_end KX T.d_law T.g_law (fun base => K10.ok_all (P := (PySem.Challenge.rw_surelyheld_k10_whole_fractions_reckoned).prog) (w := w) (base := base) T) (fun _ _ _ _ _ _ us hl => match us, hl with | [_], _ => rfl) K10.law_here
#print axioms PySem.Challenge.cw_surelyheld_k10_whole_fractions_reckoned_holds
