import PyProof.Rows.All
import Wide.All
import OpenK.AllK
import Wide.FinOn
import HandS.ForMost
import HandS.Gcd
import HandS.Wide
import HandS.WideBits
import HandS.IsInst
import HandS.Exc
import HandS.Defaults
import HandS.HeadHook1
import HandS.HeadHook2
import HandS.RaiseMore
import PyProof.ReprLen
import HandS.Head0
import HandS.Head1
import HandS.Head2
import HandS.Head3
import KE.KStateDown
import HandS.Zip
import HandS.TupAny
import HandS.Style
import HandS.More
import HandS.TupLe
import HandS.TryOnly
import PySem.Challenge.RW_surelyheld_k11_whole_simplest_fractions
set_option Elab.async false
set_option linter.all false
set_option maxRecDepth 100000
set_option maxHeartbeats 4000000
/-! DLCore: data level predicate transformers (own work): data D, slots, store; readings of expressions and statements over data. -/
namespace DL
open PySem PySem.Spec PyProof.Rows L2
/-- data as a def sees it: lst, tup never change; own k is a list that may change, its items stand in the store at k; wl a list that is only read (the script) -/
inductive Ty where
  | int | bool | str | list | tuple | dict | none
  deriving DecidableEq
def Ty.name : Ty → String
  | .int => "int" | .bool => "bool" | .str => "str" | .list => "list" | .tuple => "tuple" | .dict => "dict" | .none => "NoneType"
inductive D where
  | non | bl (b : Bool) | int (i : Int) | str (x : Str) | ty (n : Ty)
  | tup (xs : List D) | lst (xs : List D) | wl (xs : List D) | emp | own (k : Nat)
abbrev Sl := List (Option D)
abbrev Sto := List (Option (List D))
/-- an exception: the name of its class, what its dict holds -/
structure DX where
  cls : Str
  fs : List (Str × D)
abbrev DK := D → Sto → Prop
abbrev DXK := DX → Sto → Prop
abbrev DTE := Sl → Sto → DK → DXK → Prop
abbrev DTA := Sl → Sto → (List D → Sto → Prop) → DXK → Prop
abbrev DTT := Sl → Sto → (Bool → Sto → Prop) → DXK → Prop
structure DEnd where
  nx : Sl → Sto → Prop
  rt : DK
  xs : DXK
  bk : Sl → Sto → Prop := fun _ _ => False
  ct : Sl → Sto → Prop := fun _ _ => False
abbrev DTS := DEnd → Sl → Sto → Prop
abbrev DTG := D → Sl → Sto → (Sl → Sto → Prop) → Prop
abbrev DTI := Sl → Sto → (List D → Sto → Prop) → DXK → Prop
abbrev DSp := List D → Sto → DK → DXK → Prop
/-- what an operation on data gives -/
inductive Res where
  | no | ok (d : D) | side (C : Prop) (d : D) | exc (x : DX)
def ap : Res → (D → Prop) → (DX → Prop) → Prop
  | .no, _, _ => False
  | .ok d, Q, _ => Q d
  | .side C d, Q, _ => C ∧ Q d
  | .exc x, _, E => E x
theorem ap_mono {r : Res} {Q Q' : D → Prop} {E E' : DX → Prop} (h : ∀ d, Q d → Q' d) (hx : ∀ x, E x → E' x) (q : ap r Q E) : ap r Q' E' := by
  cases r with
  | no => exact q
  | ok d => exact h _ q
  | side C d => exact ⟨q.1, h _ q.2⟩
  | exc x => exact hx _ q
def look : Sl → Nat → Option D
  | [], _ => none
  | o :: _, 0 => o
  | _ :: r, n + 1 => look r n
def put : Sl → Nat → Option D → Sl
  | [], _, _ => []
  | _ :: r, 0, d => d :: r
  | o :: r, n + 1, d => o :: put r n d
def wiped : Sl → List Nat → Sl
  | s, [] => s
  | s, i :: r => put (wiped s r) i none
/-! ### expressions -/
def dC (d : D) : DTE := fun _ M Q _ => Q d M
def dVar (i : Nat) : DTE := fun s M Q _ => match look s i with
  | some d => Q d M
  | none => False
def dBin (f : Sto → D → D → Res) (ta tb : DTE) : DTE := fun s M Q E => ta s M (fun x M1 => tb s M1 (fun y M2 => ap (f M2 x y) (fun d => Q d M2) fun _ => False) E) E
def dUn (f : Sto → D → Res) (ta : DTE) : DTE := fun s M Q E => ta s M (fun x M1 => ap (f M1 x) (fun d => Q d M1) fun _ => False) E
def dNil : DTA := fun _ M Q _ => Q [] M
def dCons (ta : DTE) (tr : DTA) : DTA := fun s M Q E => ta s M (fun x M1 => tr s M1 (fun xs M2 => Q (x :: xs) M2) E) E
def dFn (f : Sto → List D → Res) (ta : DTA) : DTE := fun s M Q E => ta s M (fun xs M1 => ap (f M1 xs) (fun d => Q d M1) fun _ => False) E
def dTup (ta : DTA) : DTE := fun s M Q E => ta s M (fun xs M1 => xs.length ≤ sizeLine ∧ Q (.tup xs) M1) E
def dLst (ta : DTA) : DTE := fun s M Q E => ta s M (fun xs M1 => xs.length ≤ sizeLine ∧ Q (.lst xs) M1) E
/-- a new list that may change -/
def dLstO (ta : DTA) : DTE := fun s M Q E => ta s M (fun xs M1 => xs.length ≤ sizeLine ∧ Q (.own M1.length) (M1 ++ [some xs])) E
def dCall (sp : DSp) (ta : DTA) : DTE := fun s M Q E => ta s M (fun xs M1 => sp xs M1 Q E) E
/-- with keywords: g puts positional and keyword values in the parameters' order -/
def dCallK (n m : Nat) (sp : DSp) (g : List D → List D → List D) (ta tk : DTA) : DTE := fun s M Q E => ta s M (fun xs M1 => tk s M1 (fun ys M2 => xs.length = n ∧ ys.length = m ∧ sp (g xs ys) M2 Q E) E) E
/-! ### tests -/
def dT (t : DTE) : DTT := fun s M Q E => t s M (fun d M1 => match d with
  | .bl b => Q b M1
  | _ => False) E
def dAnd (t u : DTT) : DTT := fun s M Q E => t s M (fun b M1 => if b = true then u s M1 Q E else Q false M1) E
def dOr (t u : DTT) : DTT := fun s M Q E => t s M (fun b M1 => if b = true then Q true M1 else u s M1 Q E) E
def dNot (t : DTT) : DTT := fun s M Q E => t s M (fun b M1 => Q (!b) M1) E
def dAndV (t u : DTE) : DTE := fun s M Q E => t s M (fun d M1 => match d with
  | .bl b => if b = true then u s M1 Q E else Q (.bl false) M1
  | _ => False) E
def dOrV (t u : DTE) : DTE := fun s M Q E => t s M (fun d M1 => match d with
  | .bl b => if b = true then Q (.bl true) M1 else u s M1 Q E
  | _ => False) E
def dNotV (t : DTE) : DTE := fun s M Q E => t s M (fun d M1 => match d with
  | .bl b => Q (.bl (!b)) M1
  | _ => False) E
def dIfE (c : DTT) (t u : DTE) : DTE := fun s M Q E => c s M (fun b M1 => if b = true then t s M1 Q E else u s M1 Q E) E
/-- a chain of two comparisons -/
def dChain (f g : Sto → D → D → Res) (ta tb tc : DTE) : DTE := fun s M Q E => ta s M (fun x M1 => tb s M1 (fun y M2 => ap (f M2 x y) (fun d => match d with
  | .bl b => if b = true then tc s M2 (fun z M3 => ap (g M3 y z) (fun d => Q d M3) fun _ => False) E else Q (.bl false) M2
  | _ => False) fun _ => False) E) E
/-! ### targets -/
def gN (i : Nat) : DTG := fun d s M Q => Q (put s i (some d)) M
def gNilD (ds : List D) (s : Sl) (M : Sto) (Q : Sl → Sto → Prop) : Prop := match ds with
  | [] => Q s M
  | _ => False
abbrev DTGs := List D → Sl → Sto → (Sl → Sto → Prop) → Prop
def gsNil : DTGs := fun ds s M Q => match ds with
  | [] => Q s M
  | _ => False
def gsCons (g : DTG) (gs : DTGs) : DTGs := fun ds s M Q => match ds with
  | d :: r => g d s M fun s1 M1 => gs r s1 M1 Q
  | _ => False
def gT (n : Nat) (gs : DTGs) : DTG := fun d s M Q => match d with
  | .tup xs => xs.length = n ∧ gs xs s M Q
  | _ => False
/-! ### statements -/
def dSeq (t u : DTS) : DTS := fun D s M => t { D with nx := u D } s M
def dNext : DTS := fun D s M => D.nx s M
def dAsg (t : DTE) (g : DTG) : DTS := fun D s M => t s M (fun d M1 => g d s M1 D.nx) D.xs
def dRet (t : DTE) : DTS := fun D s M => t s M D.rt D.xs
def dRetN : DTS := fun D _ M => D.rt .non M
def dIf (c : DTT) (t u : DTS) : DTS := fun D s M => c s M (fun b M1 => if b = true then t D s M1 else u D s M1) D.xs
def dDrop (t : DTE) : DTS := fun D s M => t s M (fun _ M1 => D.nx s M1) D.xs
def dNever : DTS := fun _ _ _ => False
def dPar (i j : Nat) (ta : DTA) : DTS := fun D s M => ta s M (fun ds M1 => match ds with
  | [x, y] => D.nx (put (put s i (some x)) j (some y)) M1
  | _ => False) D.xs
def forD (g : DTG) (tb : DTS) : List D → DTS
  | [], D, s, M => D.nx s M
  | x :: r, D, s, M => g x s M fun s1 M1 => tb { D with nx := forD g tb r D, ct := forD g tb r D, bk := D.nx } s1 M1
def dFor (ti : DTI) (g : DTG) (tb : DTS) : DTS := fun D s M => ti s M (fun xs M1 => forD g tb xs D s M1) D.xs
def dWhile (c : DTT) (tb : DTS) : DTS := fun D s M => ∃ W : Nat → Sl → Sto → Prop, (∃ m, W m s M) ∧ ∀ m s M, W m s M →
  c s M (fun b M1 => if b = true then tb { D with nx := fun s' M' => ∃ m', m' < m ∧ W m' s' M', ct := fun s' M' => ∃ m', m' < m ∧ W m' s' M', bk := D.nx } s M1 else D.nx s M1) D.xs
/-- the comprehension's turns -/
def compD (g : DTG) (tt : DTT) (te : DTE) : List D → Sl → Sto → (List D → Sto → Prop) → DXK → Prop
  | [], _, M, Q, _ => Q [] M
  | x :: r, s, M, Q, E => g x s M fun s1 M1 => tt s1 M1 (fun b M2 => if b = true then te s1 M2 (fun y M3 => compD g tt te r s M3 (fun ys M4 => Q (y :: ys) M4) E) E else compD g tt te r s M2 Q E) E
def dComp (ti : DTI) (g : DTG) (tt : DTT) (te : DTE) (vs : List Nat) : DTE := fun s M Q E => ti s M (fun xs M1 => compD g tt te xs (wiped s vs) M1 (fun ys M2 => Q (.lst ys) M2) fun _ _ => False) E
def dYes : DTT := fun _ M Q _ => Q true M
/-! ### what is walked -/
def items : D → Option (List D)
  | .tup xs | .lst xs | .wl xs => some xs
  | _ => none
def dIt (t : DTE) : DTI := fun s M Q E => t s M (fun d M1 => match items d with
  | some xs => Q xs M1
  | none => False) E
/-! ### freezing a list that may change -/
def frzO (k : Nat) (ds : List D) : Option D → Option D
  | some (.own j) => if j = k then some (.lst ds) else some (.own j)
  | o => o
def frzS (k : Nat) (ds : List D) (s : Sl) : Sl := s.map (frzO k ds)
def dFrz (i : Nat) : DTS := fun D s M => match look s i with
  | some (.own k) => (match M[k]? with
    | some (some ds) => D.nx (frzS k ds s) (M.set k none)
    | _ => False)
  | _ => False
/-! ### items, stores -/
def atD {α : Type} (xs : List α) : Int → Option α
  | .ofNat n => xs[n]?
  | .negSucc n => if n < xs.length then xs[xs.length - (n + 1)]? else none
def ixD (n : Nat) : Int → Option Nat
  | .ofNat j => if j < n then some j else none
  | .negSucc j => if j < n then some (n - (j + 1)) else none
/-- o[i] = .. -/
def gIx (to ti : DTE) : DTG := fun d s M Q => to s M (fun x M1 => ti s M1 (fun y M2 => match x, y with
  | .own k, .int i => (match M2[k]? with
    | some (some ds) => (match ixD ds.length i with
      | some j => Q s (M2.set k (some (ds.set j d)))
      | none => False)
    | _ => False)
  | _, _ => False) fun _ _ => False) fun _ _ => False
def opt (o : Option D) : Res := match o with
  | some d => .ok d
  | none => .no
def fIx : Sto → D → D → Res
  | _, .tup xs, .int i => opt (atD xs i)
  | _, .lst xs, .int i => opt (atD xs i)
  | _, .wl xs, .int i => opt (atD xs i)
  | M, .own k, .int i => (match M[k]? with
    | some (some ds) => opt (atD ds i)
    | _ => .no)
  | _, .str z, .int i => (match atI z.cps.toList i with
    | some c => .side (z.length ≤ sizeLine) (.str ⟨#[c]⟩)
    | none => .no)
  | _, _, _ => .no
/-! ### a def's entry -/
def dstart (n : Nat) (ds : List D) : Sl := ds.map some ++ List.replicate (n - ds.length) none
/-- a def's promise that gives a value and changes nothing -/
def pureSp (f : List D → Res) : DSp := fun ds M Q E => ap (f ds) (fun d => Q d M) fun x => E x M
/-- a promise by what must stand and what stands behind -/
def relSp (pre : List D → Sto → Prop) (post : List D → Sto → D → Sto → Prop) : DSp := fun ds M Q _ => pre ds M ∧ ∀ d M', post ds M d M' → Q d M'
/-! ### monotony -/
def MonoE (t : DTE) : Prop := ∀ s M Q Q' E E', (∀ d M', Q d M' → Q' d M') → (∀ x M', E x M' → E' x M') → t s M Q E → t s M Q' E'
def MonoA (t : DTA) : Prop := ∀ s M Q Q' E E', (∀ d M', Q d M' → Q' d M') → (∀ x M', E x M' → E' x M') → t s M Q E → t s M Q' E'
def MonoT (t : DTT) : Prop := ∀ s M Q Q' E E', (∀ d M', Q d M' → Q' d M') → (∀ x M', E x M' → E' x M') → t s M Q E → t s M Q' E'
def MonoI (t : DTI) : Prop := ∀ s M Q Q' E E', (∀ d M', Q d M' → Q' d M') → (∀ x M', E x M' → E' x M') → t s M Q E → t s M Q' E'
def MonoG (g : DTG) : Prop := ∀ d s M Q Q', (∀ s' M', Q s' M' → Q' s' M') → g d s M Q → g d s M Q'
def MonoGs (g : DTGs) : Prop := ∀ d s M Q Q', (∀ s' M', Q s' M' → Q' s' M') → g d s M Q → g d s M Q'
structure DEnd.Le (D D' : DEnd) : Prop where
  nx : ∀ s M, D.nx s M → D'.nx s M
  rt : ∀ d M, D.rt d M → D'.rt d M
  xs : ∀ x M, D.xs x M → D'.xs x M
  bk : ∀ s M, D.bk s M → D'.bk s M
  ct : ∀ s M, D.ct s M → D'.ct s M
def MonoS (t : DTS) : Prop := ∀ D D' s M, DEnd.Le D D' → t D s M → t D' s M
def MonoSp (sp : DSp) : Prop := ∀ ds M Q Q' E E', (∀ d M', Q d M' → Q' d M') → (∀ x M', E x M' → E' x M') → sp ds M Q E → sp ds M Q' E'
theorem mono_C {d} : MonoE (dC d) := fun _ _ _ _ _ _ h _ q => h _ _ q
theorem mono_Var {i} : MonoE (dVar i) := fun s M Q Q' E E' h _ q => by
  unfold dVar at q ⊢
  cases e : look s i with
  | none => rw [e] at q; exact q
  | some d => rw [e] at q; exact h _ _ q
section
variable {ta tb tc : DTE} {tr : DTA} {tk : DTA} {c u : DTT}
theorem mono_Bin {f} (ha : MonoE ta) (hb : MonoE tb) : MonoE (dBin f ta tb) := fun s M Q Q' E E' h hx q =>
  ha s M _ _ _ _ (fun x M1 q1 => hb s M1 _ _ _ _ (fun y M2 q2 => ap_mono (fun d => h d M2) (fun _ z => z) q2) hx q1) hx q
theorem mono_Un {f} (ha : MonoE ta) : MonoE (dUn f ta) := fun s M Q Q' E E' h hx q =>
  ha s M _ _ _ _ (fun x M1 q1 => ap_mono (fun d => h d M1) (fun _ z => z) q1) hx q
theorem mono_Nil : MonoA dNil := fun _ _ _ _ _ _ h _ q => h _ _ q
theorem mono_Cons (ha : MonoE ta) (hr : MonoA tr) : MonoA (dCons ta tr) := fun s M Q Q' E E' h hx q =>
  ha s M _ _ _ _ (fun x M1 q1 => hr s M1 _ _ _ _ (fun y M2 q2 => h _ _ q2) hx q1) hx q
theorem mono_Fn {f} (ha : MonoA tr) : MonoE (dFn f tr) := fun s M Q Q' E E' h hx q =>
  ha s M _ _ _ _ (fun x M1 q1 => ap_mono (fun d => h d M1) (fun _ z => z) q1) hx q
theorem mono_Tup (ha : MonoA tr) : MonoE (dTup tr) := fun s M Q Q' E E' h hx q =>
  ha s M _ _ _ _ (fun x M1 q1 => ⟨q1.1, h _ _ q1.2⟩) hx q
theorem mono_Lst (ha : MonoA tr) : MonoE (dLst tr) := fun s M Q Q' E E' h hx q =>
  ha s M _ _ _ _ (fun x M1 q1 => ⟨q1.1, h _ _ q1.2⟩) hx q
theorem mono_LstO (ha : MonoA tr) : MonoE (dLstO tr) := fun s M Q Q' E E' h hx q =>
  ha s M _ _ _ _ (fun x M1 q1 => ⟨q1.1, h _ _ q1.2⟩) hx q
theorem mono_Call {sp} (hs : MonoSp sp) (ha : MonoA tr) : MonoE (dCall sp tr) := fun s M Q Q' E E' h hx q =>
  ha s M _ _ _ _ (fun x M1 q1 => hs _ _ _ _ _ _ h hx q1) hx q
theorem mono_CallK {n m sp g} (hs : MonoSp sp) (ha : MonoA tr) (hk : MonoA tk) : MonoE (dCallK n m sp g tr tk) := fun s M Q Q' E E' h hx q =>
  ha s M _ _ _ _ (fun x M1 q1 => hk s M1 _ _ _ _ (fun y M2 q2 => ⟨q2.1, q2.2.1, hs _ _ _ _ _ _ h hx q2.2.2⟩) hx q1) hx q
theorem mono_T (ha : MonoE ta) : MonoT (dT ta) := fun s M Q Q' E E' h hx q =>
  ha s M _ _ _ _ (fun x M1 q1 => by
    cases x <;> first | exact q1 | exact h _ _ q1) hx q
theorem mono_And (ha : MonoT c) (hb : MonoT u) : MonoT (dAnd c u) := fun s M Q Q' E E' h hx q =>
  ha s M _ _ _ _ (fun x M1 q1 => by
    cases x with
    | true => exact hb _ _ _ _ _ _ h hx q1
    | false => exact h _ _ q1) hx q
theorem mono_Or (ha : MonoT c) (hb : MonoT u) : MonoT (dOr c u) := fun s M Q Q' E E' h hx q =>
  ha s M _ _ _ _ (fun x M1 q1 => by
    cases x with
    | false => exact hb _ _ _ _ _ _ h hx q1
    | true => exact h _ _ q1) hx q
theorem mono_Not (ha : MonoT c) : MonoT (dNot c) := fun s M Q Q' E E' h hx q => ha s M _ _ _ _ (fun x M1 q1 => h _ _ q1) hx q
theorem mono_AndV (ha : MonoE ta) (hb : MonoE tb) : MonoE (dAndV ta tb) := fun s M Q Q' E E' h hx q =>
  ha s M _ _ _ _ (fun x M1 q1 => by
    cases x with
    | bl b => cases b with
      | true => exact hb _ _ _ _ _ _ h hx q1
      | false => exact h _ _ q1
    | _ => exact q1) hx q
theorem mono_OrV (ha : MonoE ta) (hb : MonoE tb) : MonoE (dOrV ta tb) := fun s M Q Q' E E' h hx q =>
  ha s M _ _ _ _ (fun x M1 q1 => by
    cases x with
    | bl b => cases b with
      | false => exact hb _ _ _ _ _ _ h hx q1
      | true => exact h _ _ q1
    | _ => exact q1) hx q
theorem mono_NotV (ha : MonoE ta) : MonoE (dNotV ta) := fun s M Q Q' E E' h hx q =>
  ha s M _ _ _ _ (fun x M1 q1 => by
    cases x with
    | bl b => exact h _ _ q1
    | _ => exact q1) hx q
theorem mono_IfE (hc : MonoT c) (ha : MonoE ta) (hb : MonoE tb) : MonoE (dIfE c ta tb) := fun s M Q Q' E E' h hx q =>
  hc s M _ _ _ _ (fun x M1 q1 => by
    cases x with
    | true => exact ha _ _ _ _ _ _ h hx q1
    | false => exact hb _ _ _ _ _ _ h hx q1) hx q
theorem mono_Chain {f g} (ha : MonoE ta) (hb : MonoE tb) (hc : MonoE tc) : MonoE (dChain f g ta tb tc) := fun s M Q Q' E E' h hx q =>
  ha s M _ _ _ _ (fun x M1 q1 => hb s M1 _ _ _ _ (fun y M2 q2 => ap_mono (fun d q3 => by
    cases d with
    | bl b => cases b with
      | true => exact hc _ _ _ _ _ _ (fun z M3 q4 => ap_mono (fun d => h d M3) (fun _ z => z) q4) hx q3
      | false => exact h _ _ q3
    | _ => exact q3) (fun _ z => z) q2) hx q1) hx q
theorem mono_It (ha : MonoE ta) : MonoI (dIt ta) := fun s M Q Q' E E' h hx q =>
  ha s M _ _ _ _ (fun x M1 q1 => by
    cases e : items x with
    | none => simp only [e] at q1
    | some xs => simp only [e] at q1 ⊢; exact h _ _ q1) hx q
theorem mono_Yes : MonoT dYes := fun _ _ _ _ _ _ h _ q => h _ _ q
end
theorem mono_gN {i} : MonoG (gN i) := fun _ _ _ _ _ h q => h _ _ q
theorem mono_gsNil : MonoGs gsNil := fun d s M Q Q' h q => by
  cases d with
  | nil => exact h _ _ q
  | cons _ _ => exact q
theorem mono_gsCons {g gs} (hg : MonoG g) (hr : MonoGs gs) : MonoGs (gsCons g gs) := fun d s M Q Q' h q => by
  cases d with
  | nil => exact q
  | cons x r => exact hg _ _ _ _ _ (fun s1 M1 q1 => hr _ _ _ _ _ h q1) q
theorem mono_gT {n gs} (hr : MonoGs gs) : MonoG (gT n gs) := fun d s M Q Q' h q => by
  cases d with
  | tup xs => exact ⟨q.1, hr _ _ _ _ _ h q.2⟩
  | _ => exact q
section
variable {t u : DTS} {ta te : DTE} {tr : DTA} {c tt : DTT} {g : DTG} {ti : DTI}
theorem mono_Seq (ha : MonoS t) (hb : MonoS u) : MonoS (dSeq t u) := fun D D' s M h q =>
  ha { D with nx := u D } { D' with nx := u D' } s M ⟨fun s M q1 => hb _ _ _ _ h q1, h.rt, h.xs, h.bk, h.ct⟩ q
theorem mono_Next : MonoS dNext := fun D D' s M h q => h.nx _ _ q
theorem mono_Asg (ha : MonoE ta) (hg : MonoG g) : MonoS (dAsg ta g) := fun D D' s M h q =>
  ha s M _ _ _ _ (fun d M1 q1 => hg _ _ _ _ _ h.nx q1) h.xs q
theorem mono_Ret (ha : MonoE ta) : MonoS (dRet ta) := fun D D' s M h q => ha s M _ _ _ _ h.rt h.xs q
theorem mono_RetN : MonoS dRetN := fun D D' s M h q => h.rt _ _ q
theorem mono_If (hc : MonoT c) (ha : MonoS t) (hb : MonoS u) : MonoS (dIf c t u) := fun D D' s M h q =>
  hc s M _ _ _ _ (fun b M1 q1 => by
    cases b with
    | true => exact ha _ _ _ _ h q1
    | false => exact hb _ _ _ _ h q1) h.xs q
theorem mono_Drop (ha : MonoE ta) : MonoS (dDrop ta) := fun D D' s M h q => ha s M _ _ _ _ (fun d M1 q1 => h.nx _ _ q1) h.xs q
theorem mono_Never : MonoS dNever := fun D D' s M h q => q
theorem mono_Par {i j} (ha : MonoA tr) : MonoS (dPar i j tr) := fun D D' s M h q => ha s M _ _ _ _ (fun d M1 q1 => by
  match d, q1 with
  | [x, y], q1 => exact h.nx _ _ q1) h.xs q
theorem mono_forD (hg : MonoG g) (ht : MonoS t) : ∀ xs, MonoS (forD g t xs)
  | [] => fun D D' s M h q => h.nx _ _ q
  | x :: r => fun D D' s M h q => hg _ _ _ _ _ (fun s1 M1 q1 => ht { D with nx := forD g t r D, ct := forD g t r D, bk := D.nx } { D' with nx := forD g t r D', ct := forD g t r D', bk := D'.nx } s1 M1
      ⟨fun s M z => mono_forD hg ht r D D' s M h z, h.rt, h.xs, h.nx, fun s M z => mono_forD hg ht r D D' s M h z⟩ q1) q
theorem mono_For (hi : MonoI ti) (hg : MonoG g) (ht : MonoS t) : MonoS (dFor ti g t) := fun D D' s M h q =>
  hi s M _ _ _ _ (fun xs M1 q1 => mono_forD hg ht xs _ _ _ _ h q1) h.xs q
theorem mono_While (hc : MonoT c) (ht : MonoS t) : MonoS (dWhile c t) := fun D D' s M h ⟨W, w0, q⟩ => ⟨W, w0, fun m s M w =>
  hc s M _ _ _ _ (fun b M1 q1 => by
    cases b with
    | true => exact ht { D with nx := fun s' M' => ∃ m', m' < m ∧ W m' s' M', ct := fun s' M' => ∃ m', m' < m ∧ W m' s' M', bk := D.nx } { D' with nx := fun s' M' => ∃ m', m' < m ∧ W m' s' M', ct := fun s' M' => ∃ m', m' < m ∧ W m' s' M', bk := D'.nx } _ _ ⟨fun _ _ z => z, h.rt, h.xs, h.nx, fun _ _ z => z⟩ q1
    | false => exact h.nx _ _ q1) h.xs (q m s M w)⟩
theorem mono_compD (hg : MonoG g) (htt : MonoT tt) (hte : MonoE te) : ∀ (xs : List D) s M Q Q' E E', (∀ d M', Q d M' → Q' d M') → (∀ x M', E x M' → E' x M') → compD g tt te xs s M Q E → compD g tt te xs s M Q' E'
  | [], s, M, Q, Q', E, E', h, hx, q => h _ _ q
  | x :: r, s, M, Q, Q', E, E', h, hx, q => hg _ _ _ _ _ (fun s1 M1 q1 => htt _ _ _ _ _ _ (fun b M2 q2 => by
      cases b with
      | true => exact hte _ _ _ _ _ _ (fun y M3 q3 => mono_compD hg htt hte r _ _ _ _ _ _ (fun ys M4 q4 => h _ _ q4) hx q3) hx q2
      | false => exact mono_compD hg htt hte r _ _ _ _ _ _ h hx q2) hx q1) q
theorem mono_Comp {vs} (hi : MonoI ti) (hg : MonoG g) (htt : MonoT tt) (hte : MonoE te) : MonoE (dComp ti g tt te vs) := fun s M Q Q' E E' h hx q =>
  hi s M _ _ _ _ (fun xs M1 q1 => mono_compD hg htt hte xs _ _ _ _ _ _ (fun ys M2 q2 => h _ _ q2) (fun _ _ z => z) q1) hx q
theorem mono_Frz {i} : MonoS (dFrz i) := fun D D' s M h q => by
  unfold dFrz at q ⊢
  split
  · split
    · simp_all
      exact h.nx _ _ q
    · simp_all
  · simp_all
end
theorem mono_pureSp {f} : MonoSp (pureSp f) := fun ds M Q Q' E E' h hx q => ap_mono (fun d => h d M) (fun x => hx x M) q
theorem mono_relSp {pre post} : MonoSp (relSp pre post) := fun ds M Q Q' E E' h hx q => ⟨q.1, fun d M' z => h _ _ (q.2 d M' z)⟩
end DL
namespace DL
open PySem PySem.Spec PyProof.Rows L2
theorem mono_gIx {to ti : DTE} (h1 : MonoE to) (h2 : MonoE ti) : MonoG (gIx to ti) := fun d s M Q Q' h q =>
  h1 s M _ _ _ _ (fun x M1 q1 => h2 s M1 _ _ _ _ (fun y M2 q2 => by
    cases x with
    | own k => cases y with
      | int i =>
        dsimp only at q2 ⊢
        cases e : M2[k]? with
        | none => rw [e] at q2; exact q2
        | some o =>
          rw [e] at q2
          cases o with
          | none => exact q2
          | some ds =>
            dsimp only at q2 ⊢
            cases e2 : ixD ds.length i with
            | none => rw [e2] at q2; exact q2
            | some j => rw [e2] at q2; exact h _ _ q2
      | _ => exact q2
    | _ => exact q2) (fun _ _ z => z) q1) (fun _ _ z => z) q
end DL
/-! DLSound: the data level readings over the hand layer (own work). -/
namespace DL
open PySem PySem.Spec PyProof.Rows L2
/-- what stands still: G the part of the heap that never changes any more, ad where the lists that may change stand, F what others keep in the heap -/
structure Wld where
  G : Hp
  ad : List Addr
  F : Hp
structure Wle (W W' : Wld) : Prop where
  g : Same W.G W'.G
  a : W.ad <+: W'.ad
  f : W'.F = W.F
theorem Wle.refl (W : Wld) : Wle W W := ⟨Same.refl _, List.prefix_refl _, rfl⟩
theorem Wle.trans {W W1 W2 : Wld} (a : Wle W W1) (b : Wle W1 W2) : Wle W W2 := ⟨a.g.trans b.g, a.a.trans b.a, b.f.trans a.f⟩
/-- the same whatever others keep -/
structure Wlf (W W' : Wld) : Prop where
  g : Same W.G W'.G
  a : W.ad <+: W'.ad
theorem Wle.lf {W W' : Wld} (h : Wle W W') : Wlf W W' := ⟨h.g, h.a⟩
theorem Wlf.trans {W W1 W2 : Wld} (a : Wlf W W1) (b : Wlf W1 W2) : Wlf W W2 := ⟨a.g.trans b.g, a.a.trans b.a⟩
theorem Wlf.at {W W' : Wld} (h : Wlf W W') {k : Nat} {a : Addr} (e : W.ad[k]? = some a) : W'.ad[k]? = some a := by
  obtain ⟨t, ht⟩ := h.a
  rw [← ht]
  rw [List.getElem?_append_left]
  · exact e
  · exact (List.getElem?_eq_some_iff.mp e).1
theorem Wle.at {W W' : Wld} (h : Wle W W') {k : Nat} {a : Addr} (e : W.ad[k]? = some a) : W'.ad[k]? = some a := by
  obtain ⟨t, ht⟩ := h.a
  rw [← ht]
  rw [List.getElem?_append_left]
  · exact e
  · exact (List.getElem?_eq_some_iff.mp e).1
theorem Same.seqT {K : PySem.W.Frag} {H H' : Hp} {a : Addr} {xs : List V} (e : Same H H') (h : SqT K H a xs) : SqT K H' a xs := by
  rcases h with (h | ⟨o, h⟩) | h
  · exact .inl (.inl (e _ _ h))
  · exact .inl (.inr ⟨o, e _ _ h⟩)
  · exact .inr h
section
variable (K : PySem.W.Frag) (W : Wld)
mutual
def DatR : D → V → Prop
  | .non, v => v = .non
  | .bl b, v => v = .bl b
  | .int i, v => v = .int i
  | .str x, v => v = .str x
  | .ty n, v => v = .ty n.name
  | .tup ds, v => ∃ a vs, v = .ref a ∧ SqT K W.G a vs ∧ ds.length ≤ sizeLine ∧ DatL ds vs
  | .lst ds, v => ∃ a vs, v = .ref a ∧ W.G a = some (.lst vs) ∧ ds.length ≤ sizeLine ∧ DatL ds vs
  | .wl ds, v => ∃ a vs, v = .ref a ∧ SqL K W.G a vs ∧ ds.length ≤ sizeLine ∧ DatL ds vs
  | .emp, v => ∃ a, v = .ref a ∧ W.G a = some (.dK [])
  | .own k, v => ∃ a, v = .ref a ∧ W.ad[k]? = some a
def DatL : List D → List V → Prop
  | [], vs => vs = []
  | d :: ds, vs => ∃ v r, vs = v :: r ∧ DatR d v ∧ DatL ds r
end
end
section
variable {K : PySem.W.Frag} {W W' : Wld}
mutual
theorem DatR.lf (h : Wlf W W') : ∀ (d : D) (v : V), DatR K W d v → DatR K W' d v
  | .non, _, q => q
  | .bl _, _, q => q
  | .int _, _, q => q
  | .str _, _, q => q
  | .ty _, _, q => q
  | .tup ds, v, q => by
    simp only [DatR] at q ⊢
    obtain ⟨a, vs, e, h1, h2, h3⟩ := q
    exact ⟨a, vs, e, Same.seqT h.g h1, h2, DatL.lf h ds vs h3⟩
  | .lst ds, v, q => by
    simp only [DatR] at q ⊢
    obtain ⟨a, vs, e, h1, h2, h3⟩ := q
    exact ⟨a, vs, e, h.g _ _ h1, h2, DatL.lf h ds vs h3⟩
  | .wl ds, v, q => by
    simp only [DatR] at q ⊢
    obtain ⟨a, vs, e, h1, h2, h3⟩ := q
    exact ⟨a, vs, e, Same.seq h.g h1, h2, DatL.lf h ds vs h3⟩
  | .emp, v, q => by
    simp only [DatR] at q ⊢
    obtain ⟨a, e, h1⟩ := q
    exact ⟨a, e, h.g _ _ h1⟩
  | .own k, v, q => by
    simp only [DatR] at q ⊢
    obtain ⟨a, e, h1⟩ := q
    exact ⟨a, e, h.at h1⟩
theorem DatL.lf (h : Wlf W W') : ∀ (ds : List D) (vs : List V), DatL K W ds vs → DatL K W' ds vs
  | [], _, q => q
  | d :: ds, vs, q => by
    simp only [DatL] at q ⊢
    obtain ⟨v, r, e, h1, h2⟩ := q
    exact ⟨v, r, e, DatR.lf h d v h1, DatL.lf h ds r h2⟩
end
theorem DatR.mono (h : Wle W W') (d : D) (v : V) (q : DatR K W d v) : DatR K W' d v := DatR.lf h.lf d v q
theorem DatL.mono (h : Wle W W') (ds : List D) (vs : List V) (q : DatL K W ds vs) : DatL K W' ds vs := DatL.lf h.lf ds vs q
theorem DatL.nil : DatL K W [] [] := by simp only [DatL]
theorem DatL.cons {d : D} {ds : List D} {v : V} {vs : List V} (h : DatR K W d v) (t : DatL K W ds vs) : DatL K W (d :: ds) (v :: vs) := by
  simp only [DatL]
  exact ⟨v, vs, rfl, h, t⟩
theorem DatL.inv {d : D} {ds : List D} {vs : List V} (q : DatL K W (d :: ds) vs) : ∃ v r, vs = v :: r ∧ DatR K W d v ∧ DatL K W ds r := by
  simpa only [DatL] using q
theorem DatL.inv0 {vs : List V} (q : DatL K W [] vs) : vs = [] := by simpa only [DatL] using q
theorem DatL.len : ∀ {ds : List D} {vs : List V}, DatL K W ds vs → vs.length = ds.length
  | [], vs, q => by rw [DatL.inv0 q]; rfl
  | d :: ds, vs, q => by
    obtain ⟨v, r, rfl, _, h⟩ := DatL.inv q
    simp [DatL.len h]
theorem DatL.get : ∀ {ds : List D} {vs : List V}, DatL K W ds vs → ∀ {i : Nat} {d : D}, ds[i]? = some d → ∃ v, vs[i]? = some v ∧ DatR K W d v
  | [], vs, q, i, d, e => by simp at e
  | x :: ds, vs, q, 0, d, e => by
    obtain ⟨v, r, rfl, h, _⟩ := DatL.inv q
    simp at e
    subst e
    exact ⟨v, rfl, h⟩
  | x :: ds, vs, q, i + 1, d, e => by
    obtain ⟨v, r, rfl, _, h⟩ := DatL.inv q
    obtain ⟨w, e1, e2⟩ := DatL.get h (i := i) (d := d) (by simpa using e)
    exact ⟨w, by simpa using e1, e2⟩
theorem DatL.app : ∀ {ds es : List D} {vs ws : List V}, DatL K W ds vs → DatL K W es ws → DatL K W (ds ++ es) (vs ++ ws)
  | [], es, vs, ws, q, p => by rw [DatL.inv0 q]; exact p
  | d :: ds, es, vs, ws, q, p => by
    obtain ⟨v, r, rfl, h, t⟩ := DatL.inv q
    exact DatL.cons h (DatL.app t p)
theorem DatL.snoc {ds : List D} {vs : List V} {d : D} {v : V} (q : DatL K W ds vs) (h : DatR K W d v) : DatL K W (ds ++ [d]) (vs ++ [v]) := q.app (.cons h .nil)
theorem DatL.set : ∀ {ds : List D} {vs : List V} {d : D} {v : V} (j : Nat), DatL K W ds vs → DatR K W d v → DatL K W (ds.set j d) (vs.set j v)
  | [], vs, d, v, j, q, p => by rw [DatL.inv0 q]; exact .nil
  | x :: ds, vs, d, v, 0, q, p => by
    obtain ⟨y, r, rfl, h, t⟩ := DatL.inv q
    exact .cons p t
  | x :: ds, vs, d, v, j + 1, q, p => by
    obtain ⟨y, r, rfl, h, t⟩ := DatL.inv q
    exact .cons h (DatL.set j t p)
theorem DatL.drop : ∀ {ds : List D} {vs : List V} (n : Nat), DatL K W ds vs → DatL K W (ds.drop n) (vs.drop n)
  | ds, vs, 0, q => q
  | [], vs, n + 1, q => by rw [DatL.inv0 q]; exact .nil
  | x :: ds, vs, n + 1, q => by
    obtain ⟨y, r, rfl, h, t⟩ := DatL.inv q
    exact DatL.drop n t
theorem DatL.take : ∀ {ds : List D} {vs : List V} (n : Nat), DatL K W ds vs → DatL K W (ds.take n) (vs.take n)
  | ds, vs, 0, q => by simp only [List.take_zero]; exact .nil
  | [], vs, n + 1, q => by rw [DatL.inv0 q]; exact .nil
  | x :: ds, vs, n + 1, q => by
    obtain ⟨y, r, rfl, h, t⟩ := DatL.inv q
    exact .cons h (DatL.take n t)
theorem DatL.rev : ∀ {ds : List D} {vs : List V}, DatL K W ds vs → DatL K W ds.reverse vs.reverse
  | [], vs, q => by rw [DatL.inv0 q]; exact .nil
  | x :: ds, vs, q => by
    obtain ⟨y, r, rfl, h, t⟩ := DatL.inv q
    rw [List.reverse_cons, List.reverse_cons]
    exact (DatL.rev t).snoc h
end
/-- the heap: G within it; at ad the lists of the store -/
structure RelH (K : PySem.W.Frag) (W : Wld) (M : Sto) (H : Hp) : Prop where
  sub : Same W.G H
  len : W.ad.length = M.length
  nd : W.ad.Nodup
  own : ∀ (k : Nat) (ds : List D), M[k]? = some (some ds) → ∃ a vs, W.ad[k]? = some a ∧ W.G a = none ∧ H a = some (.lst vs) ∧ DatL K W ds vs ∧ W.F a = none
  dead : ∀ (k : Nat) (a : Addr), M[k]? = some none → W.ad[k]? = some a → W.G a ≠ none
  frm : Same W.F H
  dis : ∀ a, W.F a ≠ none → W.G a = none
structure RelS (K : PySem.W.Frag) (W : Wld) (s : Sl) (σ : L2.St) : Prop where
  len : s.length = σ.length
  get : ∀ i d, look s i = some d → ∃ v, σ[i]? = some (some v) ∧ DatR K W d v
theorem RelS.mono {K : PySem.W.Frag} {W W' : Wld} {s : Sl} {σ : L2.St} (h : Wle W W') (r : RelS K W s σ) : RelS K W' s σ :=
  ⟨r.len, fun i d e => let ⟨v, e1, e2⟩ := r.get i d e; ⟨v, e1, DatR.mono h d v e2⟩⟩
section
theorem look_put : ∀ (s : Sl) (i j : Nat) (o : Option D), look (put s i o) j = if j = i ∧ i < s.length then o else look s j
  | [], i, j, o => by simp [put, look]
  | x :: r, 0, 0, o => by simp [put, look]
  | x :: r, 0, j + 1, o => by simp [put, look]
  | x :: r, i + 1, 0, o => by simp [put, look]
  | x :: r, i + 1, j + 1, o => by
    simp only [put, look, look_put r i j o, List.length_cons]
    by_cases h : j = i ∧ i < r.length
    · rw [if_pos h, if_pos ⟨by omega, by omega⟩]
    · rw [if_neg h, if_neg (by omega)]
theorem put_len : ∀ (s : Sl) (i : Nat) (o : Option D), (put s i o).length = s.length
  | [], i, o => rfl
  | x :: r, 0, o => rfl
  | x :: r, i + 1, o => by simp [put, put_len r i o]
theorem RelS.put {K : PySem.W.Frag} {W : Wld} {s : Sl} {σ : L2.St} (r : RelS K W s σ) {i : Nat} {d : D} {v : V} (h : DatR K W d v) : RelS K W (DL.put s i (some d)) (σ.set i (some v)) := by
  refine ⟨by rw [put_len, List.length_set]; exact r.len, fun j e q => ?_⟩
  rw [look_put] at q
  split at q
  · rename_i c
    cases q
    refine ⟨v, ?_, h⟩
    rw [c.1, List.getElem?_set_self]
    rw [← r.len]; exact c.2
  · rename_i c
    obtain ⟨w, e1, e2⟩ := r.get j e q
    refine ⟨w, ?_, e2⟩
    rw [List.getElem?_set_ne]
    · exact e1
    · rintro rfl
      refine c ⟨rfl, ?_⟩
      rw [r.len]
      exact (List.getElem?_eq_some_iff.mp e1).1
theorem RelS.putN {K : PySem.W.Frag} {W : Wld} {s : Sl} {σ : L2.St} (r : RelS K W s σ) {i : Nat} : RelS K W (DL.put s i none) (σ.set i none) := by
  refine ⟨by rw [put_len, List.length_set]; exact r.len, fun j e q => ?_⟩
  rw [look_put] at q
  split at q
  · cases q
  · rename_i c
    obtain ⟨w, e1, e2⟩ := r.get j e q
    refine ⟨w, ?_, e2⟩
    rw [List.getElem?_set_ne]
    · exact e1
    · rintro rfl
      refine c ⟨rfl, ?_⟩
      rw [r.len]
      exact (List.getElem?_eq_some_iff.mp e1).1
end
/-! ### lifting to the hand layer's readings -/
def ExcR (K : PySem.W.Frag) (mg : Str → Option Value) (W : Wld) (H : Hp) (x : DX) (c : Value) (od : Option Addr) : Prop :=
  ∃ C, mg x.cls = some (.ref C) ∧ c = .ref C ∧ ((x.fs = [] ∧ od = none) ∨ ∃ dx fvs, od = some dx ∧ H dx = some (.xd fvs) ∧ fvs.map (·.1) = x.fs.map (·.1) ∧ DatL K W (x.fs.map (·.2)) (fvs.map (·.2)))
def QL (K : PySem.W.Frag) (W : Wld) (Q : VK) : DK := fun d M' => ∀ W' v H', Wle W W' → RelH K W' M' H' → DatR K W' d v → Q v H'
def QA (K : PySem.W.Frag) (W : Wld) (Q : List V → Hp → Prop) : List D → Sto → Prop := fun ds M' => ∀ W' vs H', Wle W W' → RelH K W' M' H' → DatL K W' ds vs → Q vs H'
def QT (K : PySem.W.Frag) (W : Wld) (Q : Bool → Hp → Prop) : Bool → Sto → Prop := fun b M' => ∀ W' H', Wle W W' → RelH K W' M' H' → Q b H'
def QS (K : PySem.W.Frag) (W : Wld) (Q : L2.St → Hp → Prop) : Sl → Sto → Prop := fun s' M' => ∀ W' σ' H', Wle W W' → RelH K W' M' H' → RelS K W' s' σ' → Q σ' H'
def XL (K : PySem.W.Frag) (mg : Str → Option Value) (E : XK) (W : Wld) : DXK := fun x M' => ∀ W' H' c od, Wle W W' → RelH K W' M' H' → ExcR K mg W' H' x c od → E c od H'
theorem QL.up {K : PySem.W.Frag} {W W' : Wld} {Q : VK} (h : Wle W W') {d : D} {M : Sto} (q : QL K W Q d M) : QL K W' Q d M := fun W2 v H2 l => q W2 v H2 (h.trans l)
theorem QA.up {K : PySem.W.Frag} {W W' : Wld} {Q : List V → Hp → Prop} (h : Wle W W') {d : List D} {M : Sto} (q : QA K W Q d M) : QA K W' Q d M := fun W2 v H2 l => q W2 v H2 (h.trans l)
theorem QT.up {K : PySem.W.Frag} {W W' : Wld} {Q : Bool → Hp → Prop} (h : Wle W W') {d : Bool} {M : Sto} (q : QT K W Q d M) : QT K W' Q d M := fun W2 H2 l => q W2 H2 (h.trans l)
theorem QS.up {K : PySem.W.Frag} {W W' : Wld} {Q : L2.St → Hp → Prop} (h : Wle W W') {s : Sl} {M : Sto} (q : QS K W Q s M) : QS K W' Q s M := fun W2 v H2 l => q W2 v H2 (h.trans l)
theorem XL.up {K : PySem.W.Frag} {mg : Str → Option Value} {E : XK} {W W' : Wld} (h : Wle W W') {x : DX} {M : Sto} (q : XL K mg E W x M) : XL K mg E W' x M := fun W2 H2 c od l => q W2 H2 c od (h.trans l)
/-- σ' is σ but at vs -/
structure Agr (vs : List Nat) (σ σ' : L2.St) : Prop where
  len : σ'.length = σ.length
  out : ∀ j, j ∉ vs → σ'[j]? = σ[j]?
def lE (K : PySem.W.Frag) (mg : Str → Option Value) (E : XK) (t : DTE) : TE := fun σ H Q => ∃ W s M, RelH K W M H ∧ RelS K W s σ ∧ t s M (QL K W Q) (XL K mg E W)
def lA (K : PySem.W.Frag) (mg : Str → Option Value) (E : XK) (t : DTA) : TA := fun σ H Q => ∃ W s M, RelH K W M H ∧ RelS K W s σ ∧ t s M (QA K W Q) (XL K mg E W)
def lT (K : PySem.W.Frag) (mg : Str → Option Value) (E : XK) (t : DTT) : TT := fun σ H Q => ∃ W s M, RelH K W M H ∧ RelS K W s σ ∧ t s M (QT K W Q) (XL K mg E W)
def lD (K : PySem.W.Frag) (mg : Str → Option Value) (E : XK) (W : Wld) (D : Ends) : DEnd := { nx := QS K W D.nx, rt := QL K W D.rt, xs := XL K mg E W, bk := QS K W D.bk, ct := QS K W D.ct }
def lS (K : PySem.W.Frag) (mg : Str → Option Value) (E : XK) (t : DTS) : TS := fun D σ H => ∃ W s M, RelH K W M H ∧ RelS K W s σ ∧ t (lD K mg E W D) s M
def lG (K : PySem.W.Frag) (vs : List Nat) (g : DTG) : TG := fun v σ H Q => ∃ W s M d, RelH K W M H ∧ RelS K W s σ ∧ DatR K W d v ∧ g d s M (fun s' M' => ∀ W' σ' H', Wle W W' → RelH K W' M' H' → RelS K W' s' σ' → Agr vs σ σ' → Q σ' H')
def lGs (K : PySem.W.Frag) (vs : List Nat) (g : DTGs) : TGs := fun xs σ H Q => ∃ W s M ds, RelH K W M H ∧ RelS K W s σ ∧ DatL K W ds xs ∧ g ds s M (fun s' M' => ∀ W' σ' H', Wle W W' → RelH K W' M' H' → RelS K W' s' σ' → Agr vs σ σ' → Q σ' H')
/-- the walk J yields the items xs, from the world W on -/
structure Walks (K : PySem.W.Frag) (W : Wld) (J : It) (xs : List D) : Prop where
  le : xs.length ≤ sizeLine
  stop : ∀ i W1 M1 H1, Wlf W W1 → RelH K W1 M1 H1 → xs.length ≤ i → J.stop i H1
  go : ∀ i W1 M1 H1, Wlf W W1 → RelH K W1 M1 H1 → i < xs.length → J.go i H1
  yld : ∀ i W1 M1 H1 d x H2, Wlf W W1 → RelH K W1 M1 H1 → xs[i]? = some d → J.yld i H1 x H2 → ∃ W2, Wle W1 W2 ∧ RelH K W2 M1 H2 ∧ DatR K W2 d x
def lI (K : PySem.W.Frag) (mg : Str → Option Value) (E : XK) (t : DTI) : TI := fun σ H R => ∃ W s M, RelH K W M H ∧ RelS K W s σ ∧ t s M (fun xs M' => ∀ W' H' J, Wle W W' → RelH K W' M' H' → Walks K W' J xs → R J H') (XL K mg E W)
def lSp (K : PySem.W.Frag) (mg : Str → Option Value) (sp : DSp) : Sp := fun vs H Q E => ∃ W M ds, RelH K W M H ∧ DatL K W ds vs ∧ sp ds M (QL K W Q) (XL K mg E W)
/-! ### weakening of the layer's judgements -/
section
variable {X : Cx}
theorem pe_w {e : Expr} {t t' : TE} (h : PE X e t) (q : ∀ σ H Q, t' σ H Q → t σ H Q) : PE X e t' := ⟨fun pins s σ H Q I z => h.run pins s σ H Q I (q _ _ _ z)⟩
theorem pa_w {e : List Expr} {t t' : TA} (h : PA X e t) (q : ∀ σ H Q, t' σ H Q → t σ H Q) : PA X e t' := ⟨fun pos pins s σ H Q I z => h.run pos pins s σ H Q I (q _ _ _ z)⟩
theorem pk_w {e : List Keyword} {t t' : TA} (h : PK X e t) (q : ∀ σ H Q, t' σ H Q → t σ H Q) : PK X e t' := ⟨fun pos pins s σ H Q I z => h.run pos pins s σ H Q I (q _ _ _ z)⟩
theorem pt_w {e : Expr} {t t' : TT} (h : PT X e t) (q : ∀ σ H Q, t' σ H Q → t σ H Q) : PT X e t' := ⟨fun pins s σ H Q I z => h.run pins s σ H Q I (q _ _ _ z)⟩
theorem pw_w {e : Expr} {t t' : TT} (h : PW X e t) (q : ∀ σ H Q, t' σ H Q → t σ H Q) : PW X e t' := ⟨fun wh pins s σ H Q I z => h.run wh pins s σ H Q I (q _ _ _ z)⟩
theorem ps_w {e : Stmt} {t t' : TS} (h : PS X e t) (q : ∀ D σ H, t' D σ H → t D σ H) : PS X e t' := ⟨fun pins s σ H D I z => h.run pins s σ H D I (q _ _ _ z)⟩
theorem pss_w {e : List Stmt} {t t' : TS} (h : PSs X e t) (q : ∀ D σ H, t' D σ H → t D σ H) : PSs X e t' := ⟨fun pins s σ H D I z => h.run pins s σ H D I (q _ _ _ z)⟩
theorem pg_w {e : Expr} {t t' : TG} (h : PG X e t) (q : ∀ v σ H Q, t' v σ H Q → t v σ H Q) : PG X e t' := ⟨fun pins s σ H v u Q I r z => h.run pins s σ H v u Q I r (q _ _ _ _ z)⟩
theorem pgs_w {e : List Expr} {t t' : TGs} (h : PGs X e t) (q : ∀ v σ H Q, t' v σ H Q → t v σ H Q) : PGs X e t' := ⟨fun pins s σ H v u Q I r z => h.run pins s σ H v u Q I r (q _ _ _ _ z)⟩
theorem pi_w {tg e : Expr} {t t' : TI} (h : PI X tg e t) (q : ∀ σ H R, t' σ H R → t σ H R) : PI X tg e t' := ⟨fun pins s σ H R I z => h.run pins s σ H R I (q _ _ _ z)⟩
end
/-! ### the judgements over data -/
structure DE (X : Cx) (E : XK) (e : Expr) (t : DTE) : Prop where
  run : PE X e (lE X.K X.mg E t)
  mono : MonoE t
structure DA (X : Cx) (E : XK) (e : List Expr) (t : DTA) : Prop where
  run : PA X e (lA X.K X.mg E t)
  mono : MonoA t
structure DKw (X : Cx) (E : XK) (e : List Keyword) (t : DTA) : Prop where
  run : PK X e (lA X.K X.mg E t)
  mono : MonoA t
structure DT (X : Cx) (E : XK) (e : Expr) (t : DTT) : Prop where
  run : PT X e (lT X.K X.mg E t)
  mono : MonoT t
structure DW (X : Cx) (E : XK) (e : Expr) (t : DTT) : Prop where
  run : PW X e (lT X.K X.mg E t)
  mono : MonoT t
structure DSt (X : Cx) (E : XK) (e : Stmt) (t : DTS) : Prop where
  run : PS X e (lS X.K X.mg E t)
  mono : MonoS t
structure DSs (X : Cx) (E : XK) (e : List Stmt) (t : DTS) : Prop where
  run : PSs X e (lS X.K X.mg E t)
  mono : MonoS t
structure DGt (X : Cx) (e : Expr) (vs : List Nat) (g : DTG) : Prop where
  run : PG X e (lG X.K vs g)
  mono : MonoG g
structure DGs (X : Cx) (e : List Expr) (vs : List Nat) (g : DTGs) : Prop where
  run : PGs X e (lGs X.K vs g)
  mono : MonoGs g
structure DIt (X : Cx) (E : XK) (tg e : Expr) (t : DTI) : Prop where
  run : PI X tg e (lI X.K X.mg E t)
  mono : MonoI t
/-! ### what an operation owes -/
def Res.Has (r : Res) (d : D) : Prop := r = .ok d ∨ ∃ C : Prop, C ∧ r = .side C d
theorem ap_has {r : Res} {Q : D → Prop} (h : ap r Q fun _ => False) : ∃ d, r.Has d ∧ Q d := by
  cases r with
  | no => exact h.elim
  | ok d => exact ⟨d, .inl rfl, h⟩
  | side C d => exact ⟨d, .inr ⟨C, h.1, rfl⟩, h.2⟩
  | exc x => exact h.elim
def OpS (K : PySem.W.Frag) (f : Sto → D → D → Res) (r : R2) : Prop := ∀ (W : Wld) (M : Sto) (H : Hp) (x y d : D) (vx vy : V) (Q : VK), RelH K W M H → DatR K W x vx → DatR K W y vy → (f M x y).Has d → QL K W Q d M → r vx vy H Q
def UnS (K : PySem.W.Frag) (f : Sto → D → Res) (r : V → Hp → VK → Prop) : Prop := ∀ (W : Wld) (M : Sto) (H : Hp) (x d : D) (vx : V) (Q : VK), RelH K W M H → DatR K W x vx → (f M x).Has d → QL K W Q d M → r vx H Q
def FnS (K : PySem.W.Frag) (f : Sto → List D → Res) (r : List V → Hp → VK → Prop) : Prop := ∀ (W : Wld) (M : Sto) (H : Hp) (xs : List D) (d : D) (vs : List V) (Q : VK), RelH K W M H → DatL K W xs vs → (f M xs).Has d → QL K W Q d M → r vs H Q
section
variable {X : Cx} {E : XK} {a b c e : Expr} {es rest : List Expr} {ta tb tc te : DTE} {t tr tk : DTA} {pos p : Pos} {f g : Sto → D → D → Res} {r r' : R2}
theorem de_c {d : D} {v : V} (h : PE X e (tC v)) (hd : ∀ W, DatR X.K W d v) : DE X E e (dC d) where
  run := pe_w h fun σ H Q ⟨W, s, M, rh, rs, q⟩ => q W v H (Wle.refl W) rh (hd W)
  mono := mono_C
theorem de_int {i j} : DE X E (.Constant (.int i) j pos) (dC (.int i)) := de_c pe_int fun _ => by simp only [DatR]
theorem de_bl {i j} : DE X E (.Constant (.bool i) j pos) (dC (.bl i)) := de_c pe_bl fun _ => by simp only [DatR]
theorem de_non {j} : DE X E (.Constant .none j pos) (dC .non) := de_c pe_non fun _ => by simp only [DatR]
theorem de_str {i j} : DE X E (.Constant (.str i) j pos) (dC (.str i)) := de_c pe_str fun _ => by simp only [DatR]
theorem dvar_run {i : Nat} {σ : L2.St} {H : Hp} {Q : VK} (h : lE X.K X.mg E (dVar i) σ H Q) : tVar i σ H Q := by
  obtain ⟨W, s, M, rh, rs, q⟩ := h
  unfold dVar at q
  cases e : look s i with
  | none => rw [e] at q; exact q.elim
  | some d =>
    rw [e] at q
    obtain ⟨v, e1, e2⟩ := rs.get i d e
    exact ⟨v, e1, q W v H (Wle.refl W) rh e2⟩
theorem dv (i : Nat) {x : Str} {pos : Pos} (hN : X.N[i]? = some x := by rfl) (hv : Vis X.env.scope x := by first | exact Or.inl rfl | exact Or.inr (Or.inl rfl) | exact Or.inr (Or.inr rfl)) (hd : (x == ("__debug__" : Str)) = false := by decide)
    (hcd : (x == ("__classdict__" : Str)) = false := by decide) : DE X E (.Name x pos) (dVar i) where
  run := pe_w (pe_var hN hv hd hcd) fun _ _ _ h => dvar_run h
  mono := mono_Var
/-- a constant of the module -/
theorem de_glob {x : Str} {v : V} {u : Value} {d : D} (hg : Gl X x) (hm : X.mg x = some u) (r : RelV v u) (hd : ∀ W, DatR X.K W d v) (hdb : (x == ("__debug__" : Str)) = false := by decide) : DE X E (.Name x pos) (dC d) := de_c (pe_glob hg hm r hdb) hd
theorem bin_run (hs : OpS X.K f r) (ma : MonoE ta) (mb : MonoE tb) {σ : L2.St} {H : Hp} {Q : VK} (h : lE X.K X.mg E (dBin f ta tb) σ H Q) : tOp r (lE X.K X.mg E ta) (lE X.K X.mg E tb) σ H Q := by
  obtain ⟨W, s, M, rh, rs, h⟩ := h
  refine ⟨W, s, M, rh, rs, ma _ _ _ _ _ _ (fun x M1 h1 => ?_) (fun _ _ z => z) h⟩
  intro W1 v1 H1 l1 rh1 d1
  refine ⟨W1, s, M1, rh1, rs.mono l1, mb _ _ _ _ _ _ (fun y M2 h2 => ?_) (fun _ _ z => z.up l1) h1⟩
  intro W2 v2 H2 l2 rh2 d2
  obtain ⟨d, hd, q⟩ := ap_has h2
  exact hs W2 M2 H2 x y d v1 v2 Q rh2 (DatR.mono l2 _ _ d1) d2 hd (q.up (l1.trans l2))
theorem de_bin {op : Operator} (ho : OpR X (binaryOp op) r) (hs : OpS X.K f r) (ha : DE X E a ta) (hb : DE X E b tb) : DE X E (.BinOp a op b pos) (dBin f ta tb) where
  run := pe_w (pe_op ho ha.run hb.run) fun _ _ _ h => bin_run hs ha.mono hb.mono h
  mono := mono_Bin ha.mono hb.mono
theorem de_cmp {op : CmpOp} (ho : OpR X (compareOp op) r) (hs : OpS X.K f r) (ha : DE X E a ta) (hb : DE X E b tb) (hm : behindInMarks op b = false) : DE X E (.Compare a [op] [b] pos) (dBin f ta tb) where
  run := pe_w (pe_cmpR ho ha.run hb.run hm) fun _ _ _ h => bin_run hs ha.mono hb.mono h
  mono := mono_Bin ha.mono hb.mono
theorem de_ix (ho : IxR X r) (hs : OpS X.K f r) (ha : DE X E a ta) (hb : DE X E b tb) (hp : PlainIx b := by exact fun _ _ => rfl) : DE X E (.Subscript a b pos) (dBin f ta tb) where
  run := pe_w (pe_ix ho ha.run hb.run hp) fun _ _ _ h => bin_run hs ha.mono hb.mono h
  mono := mono_Bin ha.mono hb.mono
theorem de_un {op : UnaryOp} {f : Sto → D → Res} {r : V → Hp → VK → Prop} (ho : UnR X (unaryOp op) r) (hs : UnS X.K f r) (ha : DE X E a ta) : DE X E (.UnaryOp op a pos) (dUn f ta) where
  run := pe_w (pe_un ho ha.run) fun σ H Q ⟨W, s, M, rh, rs, h⟩ => by
    refine ⟨W, s, M, rh, rs, ha.mono _ _ _ _ _ _ (fun x M1 h1 => ?_) (fun _ _ z => z) h⟩
    intro W1 v1 H1 l1 rh1 d1
    obtain ⟨d, hd, q⟩ := ap_has h1
    exact hs W1 M1 H1 x d v1 Q rh1 d1 hd (q.up l1)
  mono := mono_Un ha.mono
theorem da_nil : DA X E [] dNil where
  run := pa_w pa_nil fun σ H Q ⟨W, s, M, rh, rs, q⟩ => q W [] H (Wle.refl W) rh .nil
  mono := mono_Nil
theorem cons_run (ma : MonoE te) (mr : MonoA tr) {σ : L2.St} {H : Hp} {Q : List V → Hp → Prop} (h : lA X.K X.mg E (dCons te tr) σ H Q) : tCons (lE X.K X.mg E te) (lA X.K X.mg E tr) σ H Q := by
  obtain ⟨W, s, M, rh, rs, h⟩ := h
  refine ⟨W, s, M, rh, rs, ma _ _ _ _ _ _ (fun x M1 h1 => ?_) (fun _ _ z => z) h⟩
  intro W1 v1 H1 l1 rh1 d1
  refine ⟨W1, s, M1, rh1, rs.mono l1, mr _ _ _ _ _ _ (fun ys M2 h2 => ?_) (fun _ _ z => z.up l1) h1⟩
  intro W2 vs2 H2 l2 rh2 d2
  exact h2 W2 (v1 :: vs2) H2 (l1.trans l2) rh2 (.cons (DatR.mono l2 _ _ d1) d2)
theorem da_cons (ha : DE X E e te) (hr : DA X E es tr) (hs : starEach (e :: es) X.env = (false, eval e X.env) :: starEach es X.env := by rfl) : DA X E (e :: es) (dCons te tr) where
  run := pa_w (pa_cons ha.run hr.run hs) fun _ _ _ h => cons_run ha.mono hr.mono h
  mono := mono_Cons ha.mono hr.mono
theorem dk_nil : DKw X E [] dNil where
  run := pk_w pk_nil fun σ H Q ⟨W, s, M, rh, rs, q⟩ => q W [] H (Wle.refl W) rh .nil
  mono := mono_Nil
theorem dk_cons {nm : Option Str} {kpos : Pos} {kws : List Keyword} (ha : DE X E e te) (hr : DKw X E kws tr) : DKw X E (⟨nm, e, kpos⟩ :: kws) (dCons te tr) where
  run := pk_w (pk_cons ha.run hr.run) fun _ _ _ h => cons_run ha.mono hr.mono h
  mono := mono_Cons ha.mono hr.mono
/-- a new object that never changes -/
theorem RelH.add {K : PySem.W.Frag} {W : Wld} {M : Sto} {H : Hp} {p : Addr} {o : HO} (r : RelH K W M H) (np : H p = none) : Wle W ⟨upd W.G p o, W.ad, W.F⟩ ∧ RelH K ⟨upd W.G p o, W.ad, W.F⟩ M (upd H p o) := by
  have gp : W.G p = none := r.sub.free np
  have l : Wle W ⟨upd W.G p o, W.ad, W.F⟩ := ⟨fun b u e => by
    show upd W.G p o b = _
    rw [upd_ne (ne_of_none e gp)]; exact e, List.prefix_refl _, rfl⟩
  refine ⟨l, fun b u e => ?_, r.len, r.nd, fun k ds e => ?_, fun k a e ea => ?_, fun b u e => ?_, fun a ha => ?_⟩
  · have e : upd W.G p o b = some u := e
    by_cases h : b = p
    · subst h; rw [upd_same] at e ⊢; exact e
    · rw [upd_ne h] at e ⊢; exact r.sub _ _ e
  · obtain ⟨a, vs, e1, e2, e3, e4, e5⟩ := r.own k ds e
    have na : a ≠ p := ne_of_none e3 np
    refine ⟨a, vs, e1, ?_, ?_, DatL.mono l _ _ e4, e5⟩
    · show upd W.G p o a = none
      rw [upd_ne na]; exact e2
    · rw [upd_ne na]; exact e3
  · show upd W.G p o a ≠ none
    have z := r.dead k a e ea
    rw [upd_ne]
    · exact z
    · rintro rfl
      exact z gp
  · rw [upd_ne (ne_of_none (r.frm _ _ e) np)]
    exact r.frm _ _ e
  · show upd W.G p o a = none
    rw [upd_ne]
    · exact r.dis a ha
    · rintro rfl
      exact ha (r.frm.free np)
theorem RelH.fresh {K : PySem.W.Frag} {W : Wld} {M : Sto} {H : Hp} {p : Addr} (r : RelH K W M H) (np : H p = none) : p ∉ W.ad := fun hp => by
  obtain ⟨k, hk, e⟩ := List.getElem_of_mem hp
  have hk2 : k < M.length := by rw [← r.len]; exact hk
  have ea : W.ad[k]? = some p := by rw [List.getElem?_eq_getElem hk, e]
  cases q : M[k] with
  | none =>
    have eM : M[k]? = some none := by rw [List.getElem?_eq_getElem hk2, q]
    exact r.dead k p eM ea (r.sub.free np)
  | some ds =>
    have eM : M[k]? = some (some ds) := by rw [List.getElem?_eq_getElem hk2, q]
    obtain ⟨a, vs, e1, _, e3, _, _⟩ := r.own k ds eM
    rw [ea] at e1
    cases e1
    rw [np] at e3
    cases e3
/-- a new list that may change -/
theorem RelH.new {K : PySem.W.Frag} {W : Wld} {M : Sto} {H : Hp} {p : Addr} {ds : List D} {vs : List V} (r : RelH K W M H) (np : H p = none) (d : DatL K W ds vs) :
    Wle W ⟨W.G, W.ad ++ [p], W.F⟩ ∧ RelH K ⟨W.G, W.ad ++ [p], W.F⟩ (M ++ [some ds]) (upd H p (.lst vs)) ∧ DatR K ⟨W.G, W.ad ++ [p], W.F⟩ (.own M.length) (.ref p) := by
  have gp : W.G p = none := r.sub.free np
  have l : Wle W ⟨W.G, W.ad ++ [p], W.F⟩ := ⟨Same.refl _, List.prefix_append _ _, rfl⟩
  have pn := r.fresh np
  have ep : (W.ad ++ [p])[M.length]? = some p := by rw [← r.len]; simp
  refine ⟨l, ⟨fun b u e => ?_, by simp [r.len], ?_, fun k es e => ?_, fun k a e ea => ?_, fun b u e => by rw [upd_ne (ne_of_none (r.frm _ _ e) np)]; exact r.frm _ _ e, r.dis⟩, by simp only [DatR]; exact ⟨p, rfl, ep⟩⟩
  · rw [upd_ne]
    · exact r.sub _ _ e
    · rintro rfl
      have e : W.G b = some u := e
      rw [gp] at e; cases e
  · show (W.ad ++ [p]).Nodup
    rw [List.nodup_append]
    refine ⟨r.nd, by simp, fun a ha b hb => ?_⟩
    rintro rfl
    simp at hb
    subst hb
    exact pn ha
  · by_cases hk : k < M.length
    · rw [List.getElem?_append_left hk] at e
      obtain ⟨a, ws, e1, e2, e3, e4, e5⟩ := r.own k es e
      refine ⟨a, ws, l.at e1, e2, ?_, DatL.mono l _ _ e4, e5⟩
      rw [upd_ne (ne_of_none e3 np)]; exact e3
    · have hk2 : k = M.length := by
        have := (List.getElem?_eq_some_iff.mp e).1
        simp at this
        omega
      subst hk2
      simp at e
      subst e
      exact ⟨p, vs, ep, gp, upd_same, DatL.mono l _ _ d, r.frm.free np⟩
  · have hk : k < M.length := by
      have h1 := (List.getElem?_eq_some_iff.mp e).1
      simp at h1
      rcases Nat.lt_or_ge k M.length with h | h
      · exact h
      · have : k = M.length := by omega
        subst this
        simp at e
    rw [List.getElem?_append_left hk] at e
    have ea2 : W.ad[k]? = some a := by
      have ea : (W.ad ++ [p])[k]? = some a := ea
      rw [List.getElem?_append_left (by rw [r.len]; exact hk)] at ea
      exact ea
    exact r.dead k a e ea2
theorem de_tup {x1} (h : DA X E es t) : DE X E (.Tuple es x1 pos) (dTup t) where
  run := pe_w (pe_tup h.run) fun σ H Q ⟨W, s, M, rh, rs, q⟩ => by
    refine ⟨W, s, M, rh, rs, h.mono _ _ _ _ _ _ (fun ds M1 h1 => ?_) (fun _ _ z => z) q⟩
    intro W1 vs H1 l1 rh1 d1
    refine ⟨by rw [d1.len]; exact h1.1, fun p np => ?_⟩
    obtain ⟨l2, rh2⟩ := rh1.add (o := .tup vs) np
    refine h1.2 _ (.ref p) _ (l1.trans l2) rh2 ?_
    simp only [DatR]
    exact ⟨p, vs, rfl, .inl (.inl upd_same), h1.1, DatL.mono l2 _ _ d1⟩
  mono := mono_Tup h.mono
theorem de_lst (h : DA X E es t) : DE X E (.List es pos) (dLst t) where
  run := pe_w (pe_lst h.run) fun σ H Q ⟨W, s, M, rh, rs, q⟩ => by
    refine ⟨W, s, M, rh, rs, h.mono _ _ _ _ _ _ (fun ds M1 h1 => ?_) (fun _ _ z => z) q⟩
    intro W1 vs H1 l1 rh1 d1
    refine ⟨by rw [d1.len]; exact h1.1, fun p np => ?_⟩
    obtain ⟨l2, rh2⟩ := rh1.add (o := .lst vs) np
    refine h1.2 _ (.ref p) _ (l1.trans l2) rh2 ?_
    simp only [DatR]
    exact ⟨p, vs, rfl, upd_same, h1.1, DatL.mono l2 _ _ d1⟩
  mono := mono_Lst h.mono
theorem de_lstO (h : DA X E es t) : DE X E (.List es pos) (dLstO t) where
  run := pe_w (pe_lst h.run) fun σ H Q ⟨W, s, M, rh, rs, q⟩ => by
    refine ⟨W, s, M, rh, rs, h.mono _ _ _ _ _ _ (fun ds M1 h1 => ?_) (fun _ _ z => z) q⟩
    intro W1 vs H1 l1 rh1 d1
    refine ⟨by rw [d1.len]; exact h1.1, fun p np => ?_⟩
    obtain ⟨l2, rh2, d2⟩ := rh1.new np d1
    exact h1.2 _ (.ref p) _ (l1.trans l2) rh2 d2
  mono := mono_LstO h.mono
/-! ### tests -/
theorem tB_run (m : MonoE te) {σ : L2.St} {H : Hp} {Q : Bool → Hp → Prop} (h : lT X.K X.mg E (dT te) σ H Q) : tB (lE X.K X.mg E te) σ H Q := by
  obtain ⟨W, s, M, rh, rs, q⟩ := h
  refine ⟨W, s, M, rh, rs, m _ _ _ _ _ _ (fun d M1 h1 => ?_) (fun _ _ z => z) q⟩
  intro W1 v H1 l1 rh1 d1
  cases d with
  | bl b =>
    simp only [DatR] at d1
    exact ⟨b, d1, h1 W1 H1 l1 rh1⟩
  | _ => exact h1.elim
theorem dt_val (h : DE X E e te) (he : ∀ whole, isTrue e X.env whole = (do let v ← whole; standAt e.pos; holding [v] (truthy v)) := by intro _; rfl) : DT X E e (dT te) where
  run := pt_w (pt_val h.run he) fun _ _ _ h1 => tB_run h.mono h1
  mono := mono_T h.mono
theorem dt_cmp {op : CmpOp} (ho : OpR X (compareOp op) r) (hs : OpS X.K f r) (ha : DE X E a ta) (hb : DE X E b tb) (hm : behindInMarks op b = false) : DT X E (.Compare a [op] [b] pos) (dT (dBin f ta tb)) where
  run := pt_w (pt_cmpR ho ha.run hb.run hm) fun σ H Q h1 => by
    obtain ⟨W, s, M, rh, rs, q⟩ := h1
    refine bin_run hs ha.mono hb.mono (Q := fun x H' => ∃ k, x = .bl k ∧ Q k H') ⟨W, s, M, rh, rs, (mono_Bin ha.mono hb.mono) _ _ _ _ _ _ (fun d M1 h2 => ?_) (fun _ _ z => z) q⟩
    intro W1 v H1 l1 rh1 d1
    cases d with
    | bl b =>
      simp only [DatR] at d1
      exact ⟨b, d1, h2 W1 H1 l1 rh1⟩
    | _ => exact h2.elim
  mono := mono_T (mono_Bin ha.mono hb.mono)
theorem dw_and1 {tA : DTT} (h : DT X E a tA) : DW X E (.BoolOp .And [a] pos) tA := ⟨pw_and1 h.run, h.mono⟩
theorem dw_or1 {tA : DTT} (h : DT X E a tA) : DW X E (.BoolOp .Or [a] pos) tA := ⟨pw_or1 h.run, h.mono⟩
theorem dw_and {tA tB' : DTT} (ha : DT X E a tA) (hb : DW X E (.BoolOp .And (b :: rest) pos) tB') : DW X E (.BoolOp .And (a :: b :: rest) pos) (dAnd tA tB') where
  run := pw_w (pw_and ha.run hb.run) fun σ H Q ⟨W, s, M, rh, rs, q⟩ => by
    refine ⟨W, s, M, rh, rs, ha.mono _ _ _ _ _ _ (fun d M1 h1 => ?_) (fun _ _ z => z) q⟩
    intro W1 H1 l1 rh1
    cases d with
    | true => exact ⟨W1, s, M1, rh1, rs.mono l1, hb.mono _ _ _ _ _ _ (fun d M1 z => z.up l1) (fun _ _ z => z.up l1) h1⟩
    | false => exact h1 W1 H1 l1 rh1
  mono := mono_And ha.mono hb.mono
theorem dw_or {tA tB' : DTT} (ha : DT X E a tA) (hb : DW X E (.BoolOp .Or (b :: rest) pos) tB') : DW X E (.BoolOp .Or (a :: b :: rest) pos) (dOr tA tB') where
  run := pw_w (pw_or ha.run hb.run) fun σ H Q ⟨W, s, M, rh, rs, q⟩ => by
    refine ⟨W, s, M, rh, rs, ha.mono _ _ _ _ _ _ (fun d M1 h1 => ?_) (fun _ _ z => z) q⟩
    intro W1 H1 l1 rh1
    cases d with
    | false => exact ⟨W1, s, M1, rh1, rs.mono l1, hb.mono _ _ _ _ _ _ (fun d M1 z => z.up l1) (fun _ _ z => z.up l1) h1⟩
    | true => exact h1 W1 H1 l1 rh1
  mono := mono_Or ha.mono hb.mono
theorem DW.pt {tA : DTT} (h : DW X E e tA) : DT X E e tA := ⟨h.run.pt, h.mono⟩
theorem dt_not {tA : DTT} (h : DT X E a tA) : DT X E (.UnaryOp .Not a pos) (dNot tA) where
  run := pt_w (pt_not h.run) fun σ H Q ⟨W, s, M, rh, rs, q⟩ => ⟨W, s, M, rh, rs, h.mono _ _ _ _ _ _ (fun d M1 h1 => h1) (fun _ _ z => z) q⟩
  mono := mono_Not h.mono
theorem de_one {op} (h : DE X E a ta) : DE X E (.BoolOp op [a] pos) ta := ⟨pe_one h.run, h.mono⟩
theorem de_and (ha : DE X E a ta) (hb : DE X E (.BoolOp .And (b :: rest) pos) tb) : DE X E (.BoolOp .And (a :: b :: rest) pos) (dAndV ta tb) where
  run := pe_w (pe_and ha.run hb.run) fun σ H Q ⟨W, s, M, rh, rs, q⟩ => by
    refine ⟨W, s, M, rh, rs, ha.mono _ _ _ _ _ _ (fun d M1 h1 => ?_) (fun _ _ z => z) q⟩
    intro W1 v H1 l1 rh1 d1
    cases d with
    | bl k =>
      simp only [DatR] at d1
      refine ⟨k, d1, ?_⟩
      cases k with
      | true => exact ⟨W1, s, M1, rh1, rs.mono l1, hb.mono _ _ _ _ _ _ (fun d M1 z => z.up l1) (fun _ _ z => z.up l1) h1⟩
      | false => exact h1 W1 _ H1 l1 rh1 (by simp only [DatR])
    | _ => exact h1.elim
  mono := mono_AndV ha.mono hb.mono
theorem de_or (ha : DE X E a ta) (hb : DE X E (.BoolOp .Or (b :: rest) pos) tb) : DE X E (.BoolOp .Or (a :: b :: rest) pos) (dOrV ta tb) where
  run := pe_w (pe_or ha.run hb.run) fun σ H Q ⟨W, s, M, rh, rs, q⟩ => by
    refine ⟨W, s, M, rh, rs, ha.mono _ _ _ _ _ _ (fun d M1 h1 => ?_) (fun _ _ z => z) q⟩
    intro W1 v H1 l1 rh1 d1
    cases d with
    | bl k =>
      simp only [DatR] at d1
      refine ⟨k, d1, ?_⟩
      cases k with
      | false => exact ⟨W1, s, M1, rh1, rs.mono l1, hb.mono _ _ _ _ _ _ (fun d M1 z => z.up l1) (fun _ _ z => z.up l1) h1⟩
      | true => exact h1 W1 _ H1 l1 rh1 (by simp only [DatR])
    | _ => exact h1.elim
  mono := mono_OrV ha.mono hb.mono
theorem de_not (ha : DE X E a ta) : DE X E (.UnaryOp .Not a pos) (dNotV ta) where
  run := pe_w (pe_not ha.run) fun σ H Q ⟨W, s, M, rh, rs, q⟩ => by
    refine ⟨W, s, M, rh, rs, ha.mono _ _ _ _ _ _ (fun d M1 h1 => ?_) (fun _ _ z => z) q⟩
    intro W1 v H1 l1 rh1 d1
    cases d with
    | bl k =>
      simp only [DatR] at d1
      exact ⟨k, d1, h1 W1 _ H1 l1 rh1 (by simp only [DatR])⟩
    | _ => exact h1.elim
  mono := mono_NotV ha.mono
theorem de_if {tC : DTT} (hc : DT X E c tC) (ha : DE X E a ta) (hb : DE X E b tb) : DE X E (.IfExp c a b pos) (dIfE tC ta tb) where
  run := pe_w (pe_ifExp hc.run ha.run hb.run) fun σ H Q ⟨W, s, M, rh, rs, q⟩ => by
    refine ⟨W, s, M, rh, rs, hc.mono _ _ _ _ _ _ (fun d M1 h1 => ?_) (fun _ _ z => z) q⟩
    intro W1 H1 l1 rh1
    cases d with
    | true => exact ⟨W1, s, M1, rh1, rs.mono l1, ha.mono _ _ _ _ _ _ (fun d M1 z => z.up l1) (fun _ _ z => z.up l1) h1⟩
    | false => exact ⟨W1, s, M1, rh1, rs.mono l1, hb.mono _ _ _ _ _ _ (fun d M1 z => z.up l1) (fun _ _ z => z.up l1) h1⟩
  mono := mono_IfE hc.mono ha.mono hb.mono
theorem chain_run (hs : OpS X.K f r) (hs' : OpS X.K g r') (ma : MonoE ta) (mb : MonoE tb) (mc : MonoE tc) {σ : L2.St} {H : Hp} {Q : VK} (h : lE X.K X.mg E (dChain f g ta tb tc) σ H Q) :
    lE X.K X.mg E ta σ H fun x H1 => lE X.K X.mg E tb σ H1 fun y H2 => r x y H2 fun z H3 => ∃ k, z = .bl k ∧ if k = true then lE X.K X.mg E tc σ H3 fun u H4 => r' y u H4 Q else Q (.bl false) H3 := by
  obtain ⟨W, s, M, rh, rs, h⟩ := h
  refine ⟨W, s, M, rh, rs, ma _ _ _ _ _ _ (fun x M1 h1 => ?_) (fun _ _ z => z) h⟩
  intro W1 v1 H1 l1 rh1 d1
  refine ⟨W1, s, M1, rh1, rs.mono l1, mb _ _ _ _ _ _ (fun y M2 h2 => ?_) (fun _ _ z => z.up l1) h1⟩
  intro W2 v2 H2 l2 rh2 d2
  obtain ⟨d, hd, q⟩ := ap_has h2
  refine hs W2 M2 H2 x y d v1 v2 _ rh2 (DatR.mono l2 _ _ d1) d2 hd ?_
  intro W3 v3 H3 l3 rh3 d3
  cases d with
  | bl k =>
    simp only [DatR] at d3
    refine ⟨k, d3, ?_⟩
    have l13 := (l1.trans l2).trans l3
    cases k with
    | true =>
      refine ⟨W3, s, M2, rh3, rs.mono l13, mc _ _ _ _ _ _ (fun z M4 h4 => ?_) (fun _ _ z => z.up l13) q⟩
      intro W4 v4 H4 l4 rh4 d4
      obtain ⟨d', hd', q'⟩ := ap_has h4
      exact hs' W4 M4 H4 y z d' v2 v4 Q rh4 (DatR.mono (l3.trans l4) _ _ d2) d4 hd' (q'.up (l13.trans l4))
    | false => exact q W3 _ H3 l13 rh3 (by simp only [DatR])
  | _ => exact q.elim
end
end DL
/-! DLSound2: chains, calls, statements, loops, comprehensions, defs (own work). -/
namespace DL
open PySem PySem.Spec PyProof.Rows L2
section
variable {X : Cx} {E : XK} {a b c e : Expr} {es rest : List Expr} {ta tb tc te : DTE} {t tr tk : DTA} {pos p : Pos} {f g : Sto → D → D → Res} {r r' : R2}
theorem de_chain {op op' : CmpOp} (ho : OpR X (compareOp op) r) (hs : OpS X.K f r) (ho' : OpR X (compareOp op') r') (hs' : OpS X.K g r') (ha : DE X E a ta) (hb : DE X E b tb) (hc : DE X E c tc)
    (hm : lastMarks [op, op'] [b, c] = false := by with_unfolding_all rfl) : DE X E (.Compare a [op, op'] [b, c] pos) (dChain f g ta tb tc) where
  run := pe_w (pe_chain ho ho' ha.run hb.run hc.run hm) fun _ _ _ h => chain_run hs hs' ha.mono hb.mono hc.mono h
  mono := mono_Chain ha.mono hb.mono hc.mono
theorem dt_chain {op op' : CmpOp} (ho : OpR X (compareOp op) r) (hs : OpS X.K f r) (ho' : OpR X (compareOp op') r') (hs' : OpS X.K g r') (ha : DE X E a ta) (hb : DE X E b tb) (hc : DE X E c tc)
    (hm : lastMarks [op, op'] [b, c] = false := by with_unfolding_all rfl) : DT X E (.Compare a [op, op'] [b, c] pos) (dT (dChain f g ta tb tc)) where
  run := pt_w (pt_chain ho ho' ha.run hb.run hc.run hm) fun σ H Q h1 => by
    obtain ⟨W, s, M, rh, rs, q⟩ := h1
    refine chain_run hs hs' ha.mono hb.mono hc.mono (Q := fun x H' => ∃ k, x = .bl k ∧ Q k H') ⟨W, s, M, rh, rs, (mono_Chain ha.mono hb.mono hc.mono) _ _ _ _ _ _ (fun d M1 h2 => ?_) (fun _ _ z => z) q⟩
    intro W1 v H1 l1 rh1 d1
    cases d with
    | bl b =>
      simp only [DatR] at d1
      exact ⟨b, d1, h2 W1 H1 l1 rh1⟩
    | _ => exact h2.elim
  mono := mono_T (mono_Chain ha.mono hb.mono hc.mono)
/-! ### calls -/
theorem fn_run {f : Sto → List D → Res} {r : List V → Hp → VK → Prop} (hs : FnS X.K f r) (ma : MonoA t) {σ : L2.St} {H : Hp} {Q : VK} (h : lE X.K X.mg E (dFn f t) σ H Q) : tCB r (lA X.K X.mg E t) σ H Q := by
  obtain ⟨W, s, M, rh, rs, q⟩ := h
  refine ⟨W, s, M, rh, rs, ma _ _ _ _ _ _ (fun xs M1 h1 => ?_) (fun _ _ z => z) q⟩
  intro W1 vs H1 l1 rh1 d1
  obtain ⟨d, hd, q⟩ := ap_has h1
  exact hs W1 M1 H1 xs d vs Q rh1 d1 hd (q.up l1)
theorem de_callB {x : Str} {id : String} {f : Sto → List D → Res} {r : List V → Hp → VK → Prop} (hc : CallR X (.builtin id) r) (hs : FnS X.K f r) (hg : Gl X x) (hm : X.mg x = none) (hv : bootBuiltins x = some (.builtin id)) (ha : DA X E (e :: es) t) (hn : x ≠ "__name__" := by decide) (hdb : (x == ("__debug__" : Str)) = false := by decide)
    (he : starEach (e :: es) X.env = (false, eval e X.env) :: starEach es X.env := by rfl) (hpl : (backTo pos (starEach es X.env)).any (·.1) = false := by rfl) : DE X E (.Call (.Name x p) (e :: es) [] pos) (dFn f t) where
  run := pe_w (pe_callB hc hg hm hv ha.run hn hdb he hpl) fun _ _ _ h => fn_run hs ha.mono h
  mono := mono_Fn ha.mono
theorem de_callTy {x : Str} {T : String} {f : Sto → List D → Res} {r : List V → Hp → VK → Prop} (hc : CallR X (.type T) r) (hs : FnS X.K f r) (hg : Gl X x) (hm : X.mg x = none) (hv : bootBuiltins x = some (.type T)) (ha : DA X E (e :: es) t) (hn : x ≠ "__name__" := by decide) (hdb : (x == ("__debug__" : Str)) = false := by decide)
    (he : starEach (e :: es) X.env = (false, eval e X.env) :: starEach es X.env := by rfl) (hpl : (backTo pos (starEach es X.env)).any (·.1) = false := by rfl) : DE X E (.Call (.Name x p) (e :: es) [] pos) (dFn f t) where
  run := pe_w (pe_callTy hc hg hm hv ha.run hn hdb he hpl) fun _ _ _ h => fn_run hs ha.mono h
  mono := mono_Fn ha.mono
/-- f(e, ..) where the module's name f stands for a built-in function (from math import gcd) -/
theorem de_callG {x : Str} {id : String} {f : Sto → List D → Res} {r : List V → Hp → VK → Prop} (hc : CallR X (.builtin id) r) (hs : FnS X.K f r) (hg : Gl X x) (hm : X.mg x = some (.builtin id)) (ha : DA X E (e :: es) t) (hdb : (x == ("__debug__" : Str)) = false := by decide)
    (he : starEach (e :: es) X.env = (false, eval e X.env) :: starEach es X.env := by rfl) (hpl : (backTo pos (starEach es X.env)).any (·.1) = false := by rfl) : DE X E (.Call (.Name x p) (e :: es) [] pos) (dFn f t) where
  run := pe_w (pe_callBfun hc hg hm ha.run hdb he hpl) fun _ _ _ h => fn_run hs ha.mono h
  mono := mono_Fn ha.mono
theorem call_run {sp : DSp} (ms : MonoSp sp) (ma : MonoA t) {σ : L2.St} {H : Hp} {Q : VK} (h : lE X.K X.mg E (dCall sp t) σ H Q) : tCall (lSp X.K X.mg sp) [] E (lA X.K X.mg E t) σ H Q := by
  obtain ⟨W, s, M, rh, rs, q⟩ := h
  refine ⟨W, s, M, rh, rs, ma _ _ _ _ _ _ (fun xs M1 h1 => ?_) (fun _ _ z => z) q⟩
  intro W1 vs H1 l1 rh1 d1
  rw [List.append_nil]
  exact ⟨W1, M1, xs, rh1, d1, ms _ _ _ _ _ _ (fun d M1 z => z.up l1) (fun _ _ z => z.up l1) h1⟩
theorem de_call {CX : CXT} {k : Nat} {f : Addr} {fd : FuncData} {ps : List Str} {sp : DSp} {x : Str} (F : FnOk X.prog X.w X.K X.mg X.base CX k f fd ps (lSp X.K X.mg sp)) (ms : MonoSp sp) (hr : Room k X.A) (hg : Gl X x) (hm : X.mg x = some (.ref f)) (hk : PySem.W.keepIn X.K (.ref f) = true) (hb : Binds X.K fd ps []) (hx : Passes CX X E)
    (ha : DA X E (e :: es) t) (hdb : (x == ("__debug__" : Str)) = false := by decide) (he : starEach (e :: es) X.env = (false, eval e X.env) :: starEach es X.env := by rfl) (hpl : (backTo pos (starEach es X.env)).any (·.1) = false := by rfl) :
    DE X E (.Call (.Name x p) (e :: es) [] pos) (dCall sp t) where
  run := pe_w (pe_call F hr hg hm hk hb .nil hx ha.run hdb he hpl) fun _ _ _ h => call_run ms ha.mono h
  mono := mono_Call ms ha.mono
/-! ### keywords -/
theorem run_fnN' {CX : CXT} {k n : Nat} {f : Addr} {fd : FuncData} {ps ks : List Str} {sp : Sp} {g : List Value → List Value → List Value} {gV : List V → List V → List V}
    {pins : List (Addr × Obj)} {σ : L2.St} {H : Hp} {s : Shared} {Q : VK} {ws : List Value} {zs : List V} (F : FnOk X.prog X.w X.K X.mg X.base CX k f fd ps sp) (hr : Room k X.A) (hb : KBn X.K fd ps 0 ks g gV) (hx : Passes CX X E)
    (I : Inv X pins σ H s) (rz : Vals zs ws) (l2 : zs.length = ks.length) (h : sp (gV [] zs) H Q E) : wpAny (model X.prog X.w) X.A (call (.ref f) [] (ks.zip ws)) (EP X pins σ Q) X.xe s :=
  run_fnN F hr hb hx I .nil rz rfl l2 h
/-- f(k = v, ..) -/
theorem pe_callN0 {CX : CXT} {k : Nat} {f : Addr} {fd : FuncData} {ps ks : List Str} {sp : Sp} {x : Str} {kws : List Keyword} {tk : TA} {g : List Value → List Value → List Value} {gV : List V → List V → List V}
    (F : FnOk X.prog X.w X.K X.mg X.base CX k f fd ps sp) (hr : Room k X.A) (hg : Gl X x) (hm : X.mg x = some (.ref f)) (hk : PySem.W.keepIn X.K (.ref f) = true) (hb : KBn X.K fd ps 0 ks g gV) (hx : Passes CX X E)
    (hkw : PK X kws tk) (hall : (backToKw pos (keywordEach kws X.env)).all (·.1.isSome) = true := by rfl) (hks : (backToKw pos (keywordEach kws X.env)).filterMap (·.1) = ks := by rfl)
    (hdb : (x == ("__debug__" : Str)) = false := by decide)
    (hpl : ((backTo pos (starEach [] X.env)).any (·.1) || (backToKw pos (keywordEach kws X.env)).any (·.1.isNone)) = false := by rfl) :
    PE X (.Call (.Name x p) [] kws pos) (tCallN 0 ks.length sp gV E tNil tk) := by
  refine ⟨fun pins s σ H Q I h => ?_⟩
  refine wpAny_Call_Name_kw (ld_glob I hg hm ?_ hdb)
  refine PySem.W.callWith_KW0 (h₀ := X.base) I.ok.mod.kin hk hall ?_ hpl
  refine thn (hkw.run pos pins s σ H _ I h) fun ws s2 ⟨zs, H2, I2, rz, l1, l2, q2⟩ => ⟨I2.kIn, ?_⟩
  rw [hks]
  exact run_fnN F hr hb hx I2 .nil rz rfl l2 q2
/-- the same order of places for values and for data -/
structure Puts (g : List Value → List Value → List Value) (gV : List V → List V → List V) (gD : List D → List D → List D) : Prop where
  dat : ∀ {K : PySem.W.Frag} {W : Wld} {ds es : List D} {vs ws : List V}, DatL K W ds vs → DatL K W es ws → DatL K W (gD ds es) (gV vs ws)
theorem callN_run {sp : DSp} {n m : Nat} {g : List Value → List Value → List Value} {gV : List V → List V → List V} {gD : List D → List D → List D} (pg : Puts g gV gD) (ms : MonoSp sp) (ma : MonoA t) (mk : MonoA tk) {σ : L2.St} {H : Hp} {Q : VK}
    (h : lE X.K X.mg E (dCallK n m sp gD t tk) σ H Q) : tCallN n m (lSp X.K X.mg sp) gV E (lA X.K X.mg E t) (lA X.K X.mg E tk) σ H Q := by
  obtain ⟨W, s, M, rh, rs, q⟩ := h
  refine ⟨W, s, M, rh, rs, ma _ _ _ _ _ _ (fun xs M1 h1 => ?_) (fun _ _ z => z) q⟩
  intro W1 vs H1 l1 rh1 d1
  refine ⟨W1, s, M1, rh1, rs.mono l1, mk _ _ _ _ _ _ (fun ys M2 h2 => ?_) (fun _ _ z => z.up l1) h1⟩
  intro W2 ws H2 l2 rh2 d2
  refine ⟨by rw [d1.len]; exact h2.1, by rw [d2.len]; exact h2.2.1, W2, M2, _, rh2, pg.dat (DatL.mono l2 _ _ d1) d2, ms _ _ _ _ _ _ (fun d M1 z => z.up (l1.trans l2)) (fun _ _ z => z.up (l1.trans l2)) h2.2.2⟩
theorem de_callN {CX : CXT} {k n m : Nat} {f : Addr} {fd : FuncData} {ps ks : List Str} {sp : DSp} {x : Str} {kws : List Keyword} {g : List Value → List Value → List Value} {gV : List V → List V → List V} {gD : List D → List D → List D}
    (F : FnOk X.prog X.w X.K X.mg X.base CX k f fd ps (lSp X.K X.mg sp)) (ms : MonoSp sp) (hr : Room k X.A) (hg : Gl X x) (hm : X.mg x = some (.ref f)) (hk : PySem.W.keepIn X.K (.ref f) = true) (hb : KBn X.K fd ps n ks g gV) (pg : Puts g gV gD) (hx : Passes CX X E)
    (ha : DA X E (e :: es) t) (hkw : DKw X E kws tk) (hl : ks.length = m := by rfl) (hall : (backToKw pos (keywordEach kws X.env)).all (·.1.isSome) = true := by rfl) (hks : (backToKw pos (keywordEach kws X.env)).filterMap (·.1) = ks := by rfl)
    (hdb : (x == ("__debug__" : Str)) = false := by decide) (he : starEach (e :: es) X.env = (false, eval e X.env) :: starEach es X.env := by rfl)
    (hpl : ((backTo pos (starEach (e :: es) X.env)).any (·.1) || (backToKw pos (keywordEach kws X.env)).any (·.1.isNone)) = false := by rfl) :
    DE X E (.Call (.Name x p) (e :: es) kws pos) (dCallK n m sp gD t tk) where
  run := by
    subst hl
    exact pe_w (pe_callN F hr hg hm hk hb hx ha.run hkw.run hall hks hdb he hpl) fun _ _ _ h => callN_run pg ms ha.mono hkw.mono h
  mono := mono_CallK ms ha.mono hkw.mono
theorem de_callN0 {CX : CXT} {k m : Nat} {f : Addr} {fd : FuncData} {ps ks : List Str} {sp : DSp} {x : Str} {kws : List Keyword} {g : List Value → List Value → List Value} {gV : List V → List V → List V} {gD : List D → List D → List D}
    (F : FnOk X.prog X.w X.K X.mg X.base CX k f fd ps (lSp X.K X.mg sp)) (ms : MonoSp sp) (hr : Room k X.A) (hg : Gl X x) (hm : X.mg x = some (.ref f)) (hk : PySem.W.keepIn X.K (.ref f) = true) (hb : KBn X.K fd ps 0 ks g gV) (pg : Puts g gV gD) (hx : Passes CX X E)
    (hkw : DKw X E kws tk) (hl : ks.length = m := by rfl) (hall : (backToKw pos (keywordEach kws X.env)).all (·.1.isSome) = true := by rfl) (hks : (backToKw pos (keywordEach kws X.env)).filterMap (·.1) = ks := by rfl)
    (hdb : (x == ("__debug__" : Str)) = false := by decide)
    (hpl : ((backTo pos (starEach [] X.env)).any (·.1) || (backToKw pos (keywordEach kws X.env)).any (·.1.isNone)) = false := by rfl) :
    DE X E (.Call (.Name x p) [] kws pos) (dCallK 0 m sp gD dNil tk) where
  run := by
    subst hl
    exact pe_w (pe_callN0 F hr hg hm hk hb hx hkw.run hall hks hdb hpl) fun σ H Q h => by
      obtain ⟨W, s, M, rh, rs, q⟩ := callN_run (X := X) (E := E) (Q := Q) pg ms mono_Nil hkw.mono h
      exact q W [] H (Wle.refl W) rh .nil
  mono := mono_CallK ms mono_Nil hkw.mono
/-! ### targets -/
theorem Agr.set {σ : L2.St} {i : Nat} {x : Option V} : Agr [i] σ (σ.set i x) := ⟨by simp, fun j hj => by
  rw [List.getElem?_set_ne]
  rintro rfl
  exact hj (by simp)⟩
theorem Agr.refl {vs : List Nat} {σ : L2.St} : Agr vs σ σ := ⟨rfl, fun _ _ => rfl⟩
theorem Agr.trans {vs ws us : List Nat} {σ σ1 σ2 : L2.St} (a : Agr vs σ σ1) (b : Agr ws σ1 σ2) (h1 : ∀ i ∈ vs, i ∈ us) (h2 : ∀ i ∈ ws, i ∈ us) : Agr us σ σ2 :=
  ⟨b.len.trans a.len, fun j hj => (b.out j fun z => hj (h2 j z)).trans (a.out j fun z => hj (h1 j z))⟩
theorem wipe_get {σ : L2.St} : ∀ (vs : List Nat) (j : Nat), (wipe σ vs)[j]? = if j ∈ vs then (σ[j]?).map (fun _ => none) else σ[j]?
  | [], j => by simp [wipe]
  | v :: vs, j => by
    unfold wipe
    by_cases h : j = v
    · subst h
      rw [if_pos (by simp), List.getElem?_set]
      simp only [if_true, wipe_length]
      by_cases hl : j < σ.length
      · rw [if_pos hl, List.getElem?_eq_getElem hl]; rfl
      · rw [if_neg hl, List.getElem?_eq_none (by omega)]; rfl
    · rw [List.getElem?_set_ne (Ne.symm h), wipe_get vs j]
      by_cases h2 : j ∈ vs
      · rw [if_pos h2, if_pos (by simp [h2])]
      · rw [if_neg h2, if_neg (by simp [h, h2])]
theorem Agr.wipe {vs us : List Nat} {σ σ' : L2.St} (a : Agr vs σ σ') (h : ∀ i ∈ vs, i ∈ us) : L2.wipe σ' us = L2.wipe σ us := by
  apply List.ext_getElem?
  intro j
  rw [wipe_get, wipe_get]
  by_cases hj : j ∈ us
  · rw [if_pos hj, if_pos hj]
    by_cases hl : j < σ.length
    · rw [List.getElem?_eq_getElem hl, List.getElem?_eq_getElem (by rw [a.len]; exact hl)]; rfl
    · rw [List.getElem?_eq_none (show σ'.length ≤ j by rw [a.len]; omega), List.getElem?_eq_none (show σ.length ≤ j by omega)]
  · rw [if_neg hj, if_neg hj]
    exact a.out j fun z => hj (h j z)
theorem wipe_wipe {σ : L2.St} {us : List Nat} : L2.wipe (L2.wipe σ us) us = L2.wipe σ us := by
  apply List.ext_getElem?
  intro j
  rw [wipe_get, wipe_get]
  by_cases hj : j ∈ us
  · rw [if_pos hj, if_pos hj, Option.map_map]; rfl
  · rw [if_neg hj, if_neg hj]
theorem RelS.wiped {K : PySem.W.Frag} {W : Wld} {s : Sl} {σ : L2.St} (r : RelS K W s σ) : ∀ vs, RelS K W (DL.wiped s vs) (L2.wipe σ vs)
  | [] => r
  | v :: vs => by
    unfold DL.wiped L2.wipe
    exact (RelS.wiped r vs).putN
theorem dg_name {i : Nat} {x : Str} (hN : X.N.Nodup) (hi : X.N[i]? = some x) (hx : Loc X.env.scope x) (hf : X.fn x = true ∨ X.env.scope.names.lookup x = some .local := by first | exact .inl rfl | exact .inr rfl | assumption) : DGt X (.Name x pos) [i] (gN i) where
  run := pg_w (pg_name hN hi hx hf) fun v σ H Q ⟨W, s, M, d, rh, rs, hd, q⟩ => q W _ H (Wle.refl W) rh (rs.put hd) Agr.set
  mono := mono_gN
theorem dgs_nil : DGs X [] [] gsNil where
  run := pgs_w pgs_nil fun xs σ H Q ⟨W, s, M, ds, rh, rs, hd, q⟩ => by
    cases ds with
    | nil => exact ⟨DatL.inv0 hd, q W σ H (Wle.refl W) rh rs Agr.refl⟩
    | cons _ _ => exact q.elim
  mono := mono_gsNil
theorem dgs_cons {vs ws : List Nat} {g : DTG} {gs : DTGs} (h1 : DGt X e vs g) (h2 : DGs X es ws gs) (hs : (assignEach (e :: es) X.env).map (·.2) = assign e X.env :: (assignEach es X.env).map (·.2) := by rfl) : DGs X (e :: es) (vs ++ ws) (gsCons g gs) where
  run := pgs_w (pgs_cons h1.run h2.run hs) fun xs σ H Q ⟨W, s, M, ds, rh, rs, hd, q⟩ => by
    cases ds with
    | nil => exact q.elim
    | cons d ds =>
      obtain ⟨v, r, rfl, hd1, hd2⟩ := hd.inv
      refine ⟨v, r, rfl, W, s, M, d, rh, rs, hd1, h1.mono _ _ _ _ _ (fun s1 M1 q1 => ?_) q⟩
      intro W1 σ1 H1 l1 rh1 rs1 a1
      refine ⟨W1, s1, M1, ds, rh1, rs1, DatL.mono l1 _ _ hd2, h2.mono _ _ _ _ _ (fun s2 M2 q2 => ?_) q1⟩
      intro W2 σ2 H2 l2 rh2 rs2 a2
      exact q2 W2 σ2 H2 (l1.trans l2) rh2 rs2 (a1.trans a2 (fun i hi => List.mem_append_left _ hi) fun i hi => List.mem_append_right _ hi)
  mono := mono_gsCons h1.mono h2.mono
theorem dg_tup {k n : Nat} {vs : List Nat} {gs : DTGs} (hc : X.calm = true) (h : DGs X es vs gs) (hn : (assignEach es X.env).length = n := by rfl) (hst : (assignEach es X.env).findIdx? (·.1) = none := by rfl) : DGt X (.Tuple es k pos) vs (gT n gs) where
  run := pg_w (pg_tup hc h.run hn hst) fun v σ H Q ⟨W, s, M, d, rh, rs, hd, q⟩ => by
    cases d with
    | tup ds =>
      simp only [DatR] at hd
      obtain ⟨a, xs, rfl, h1, h2, h3⟩ := hd
      have hst : SqT X.K H a xs := Same.seqT rh.sub h1
      exact ⟨a, xs, rfl, hst, by rw [h3.len]; exact q.1, W, s, M, ds, rh, rs, h3, q.2⟩
    | _ => exact q.elim
  mono := mono_gT h.mono
/-- an item of a list that may change is stored -/
theorem ixD_ok {n : Nat} {i : Int} {j : Nat} (h : ixD n i = some j) : ixN n i = some j ∧ j < n := by
  unfold ixD at h
  unfold ixN
  cases i with
  | ofNat m =>
    dsimp only at h
    split at h
    · cases h
      rename_i hm
      refine ⟨?_, hm⟩
      rw [if_pos (show (0 : Int) ≤ Int.ofNat j from Int.natCast_nonneg j), if_pos (show Int.ofNat j < (n : Int) from Int.ofNat_lt.mpr hm)]
      rfl
    · cases h
  | negSucc m =>
    dsimp only at h
    split at h
    · cases h
      rename_i hm
      refine ⟨?_, by omega⟩
      rw [if_neg (by omega), if_pos (by omega)]
      congr 1
      omega
    · cases h
theorem RelH.updK {K : PySem.W.Frag} {W : Wld} {M : Sto} {H : Hp} {k : Nat} {a : Addr} {ds es : List D} {vs : List V} (r : RelH K W M H) (e : M[k]? = some (some ds)) (ea : W.ad[k]? = some a) (d : DatL K W es vs) :
    RelH K W (M.set k (some es)) (upd H a (.lst vs)) := by
  obtain ⟨b, ws, e1, e2, e3, e4, e5⟩ := r.own k ds e
  rw [ea] at e1
  cases e1
  refine ⟨fun c u z => ?_, by simp [r.len], r.nd, fun j fs z => ?_, fun j b z zb => ?_, fun c u z => ?_, r.dis⟩
  · rw [upd_ne]
    · exact r.sub _ _ z
    · rintro rfl
      rw [e2] at z; cases z
  · by_cases hj : j = k
    · subst hj
      have hl : j < M.length := (List.getElem?_eq_some_iff.mp e).1
      rw [List.getElem?_set_self hl] at z
      cases z
      exact ⟨a, vs, ea, e2, upd_same, d, e5⟩
    · rw [List.getElem?_set_ne (Ne.symm hj)] at z
      obtain ⟨b, ws', f1, f2, f3, f4, f5⟩ := r.own j fs z
      refine ⟨b, ws', f1, f2, ?_, f4, f5⟩
      rw [upd_ne]
      · exact f3
      · rintro rfl
        exact hj (nd_ix r.nd f1 ea)
  · have hj : j ≠ k := by
      rintro rfl
      have hl : j < M.length := (List.getElem?_eq_some_iff.mp e).1
      rw [List.getElem?_set_self hl] at z
      cases z
    rw [List.getElem?_set_ne (Ne.symm hj)] at z
    exact r.dead j b z zb
  · rw [upd_ne]
    · exact r.frm _ _ z
    · rintro rfl
      rw [e5] at z; cases z
theorem dg_ix {o i : Expr} {to ti : DTE} (ho : DE X E0 o to) (hi : DE X E0 i ti)
    (ha : ∀ v, assign (.Subscript o i pos) X.env v = (do
      let ov ← holding [v] (eval o X.env)
      let iv ← holding [v, ov] (eval i X.env)
      standAt pos
      holding [v, ov, iv] (setItem ov iv v)
      release [v, ov, iv] []) := by intro _; rfl) : DGt X (.Subscript o i pos) [] (gIx to ti) where
  run := pg_w (pg_sub ho.run hi.run set_list ha) fun v σ H Q ⟨W, s, M, d, rh, rs, hd, q⟩ => by
    refine ⟨W, s, M, rh, rs, ho.mono _ _ _ _ _ _ (fun x M1 h1 => ?_) (fun _ _ z => z.elim) q⟩
    intro W1 v1 H1 l1 rh1 d1
    refine ⟨W1, s, M1, rh1, rs.mono l1, hi.mono _ _ _ _ _ _ (fun y M2 h2 => ?_) (fun _ _ z => z.elim) h1⟩
    intro W2 v2 H2 l2 rh2 d2
    cases x with
    | own k => cases y with
      | int i =>
        dsimp only at h2
        cases e : M2[k]? with
        | none => rw [e] at h2; exact h2.elim
        | some oo =>
          rw [e] at h2
          cases oo with
          | none => exact h2.elim
          | some ds =>
            dsimp only at h2
            cases e2 : ixD ds.length i with
            | none => rw [e2] at h2; exact h2.elim
            | some j =>
              rw [e2] at h2
              have d1' := DatR.mono l2 _ _ d1
              simp only [DatR] at d1' d2
              obtain ⟨p, rfl, ep⟩ := d1'
              obtain ⟨a, vs, f1, f2, f3, f4, f5⟩ := rh2.own k ds e
              rw [ep] at f1
              cases f1
              have l12 := l1.trans l2
              refine ⟨p, vs, i, j, rfl, d2, f3, by rw [f4.len]; exact (ixD_ok e2).1, ?_⟩
              exact h2 W2 σ _ l12 (rh2.updK e ep (f4.set j (DatR.mono l12 _ _ hd))) (rs.mono l12) Agr.refl
      | _ => exact h2.elim
    | _ => exact h2.elim
  mono := mono_gIx ho.mono hi.mono
/-! ### statements -/
variable {st : Stmt} {sts : List Stmt} {t u : DTS}
theorem lD_up {W W' : Wld} {D : Ends} (h : Wle W W') : DEnd.Le (lD X.K X.mg E W D) (lD X.K X.mg E W' D) := ⟨fun _ _ z => z.up h, fun _ _ z => z.up h, fun _ _ z => z.up h, fun _ _ z => z.up h, fun _ _ z => z.up h⟩
theorem dss_nil : DSs X E [] dNext where
  run := pss_w pss_nil fun D σ H ⟨W, s, M, rh, rs, q⟩ => q W σ H (Wle.refl W) rh rs
  mono := mono_Next
theorem dss_cons (h1 : DSt X E st t) (h2 : DSs X E sts u) : DSs X E (st :: sts) (dSeq t u) where
  run := pss_w (pss_cons h1.run h2.run) fun D σ H ⟨W, s, M, rh, rs, q⟩ => by
    refine ⟨W, s, M, rh, rs, h1.mono { lD X.K X.mg E W D with nx := u (lD X.K X.mg E W D) } (lD X.K X.mg E W { D with nx := lS X.K X.mg E u D }) s M ⟨fun s1 M1 q1 => ?_, fun _ _ z => z, fun _ _ z => z, fun _ _ z => z, fun _ _ z => z⟩ q⟩
    intro W1 σ1 H1 l1 rh1 rs1
    exact ⟨W1, s1, M1, rh1, rs1, h2.mono _ _ _ _ (lD_up l1) q1⟩
  mono := mono_Seq h1.mono h2.mono
theorem dss_one (h1 : DSt X E st t) : DSs X E [st] t := ⟨pss_one h1.run, h1.mono⟩
theorem ds_never : DSt X E st dNever := ⟨ps_w ps_never fun D σ H ⟨W, s, M, rh, rs, q⟩ => q, mono_Never⟩
theorem asg_run {vs : List Nat} {g : DTG} {G : TG} (hG : ∀ v σ H Q, lG X.K vs g v σ H Q → G v σ H Q) (me : MonoE te) (mg : MonoG g) {D : Ends} {σ : L2.St} {H : Hp} (h : lS X.K X.mg E (dAsg te g) D σ H) : tAsg (lE X.K X.mg E te) G D σ H := by
  obtain ⟨W, s, M, rh, rs, q⟩ := h
  refine ⟨W, s, M, rh, rs, me _ _ _ _ _ _ (fun d M1 h1 => ?_) (fun _ _ z => z) q⟩
  intro W1 v H1 l1 rh1 d1
  exact hG _ _ _ _ ⟨W1, s, M1, d, rh1, rs.mono l1, d1, mg _ _ _ _ _ (fun s2 M2 q2 W2 σ2 H2 l2 rh2 rs2 _ => q2 W2 σ2 H2 (l1.trans l2) rh2 rs2) h1⟩
theorem ds_asg {tg : Expr} {vs : List Nat} {g : DTG} (he : DE X E e te) (hg : DGt X tg vs g) (hs : swapsWithSole [tg] e pos.line X.env = pure false := by rfl) (hw : swappedStores [tg] e X.env = pure none := by rfl)
    (h1 : (assignEach [tg] X.env).map (·.2) = [assign tg X.env] := by rfl) : DSt X E (.Assign [tg] e pos) (dAsg te g) where
  run := ps_w (ps_asg he.run hg.run hs hw h1) fun _ _ _ h => asg_run (fun _ _ _ _ z => z) he.mono hg.mono h
  mono := mono_Asg he.mono hg.mono
theorem gn_lift {i : Nat} : ∀ v σ H Q, lG X.K [i] (gN i) v σ H Q → gName i v σ H Q := fun v σ H Q ⟨W, s, M, d, rh, rs, hd, q⟩ => q W _ H (Wle.refl W) rh (rs.put hd) Agr.set
theorem ds_set {i : Nat} {x : Str} {pos' : Pos} (hN : X.N.Nodup) (hi : X.N[i]? = some x) (hx : Loc X.env.scope x) (he : DE X E e te) (hs : swapsWith e (some (.Name x pos')) pos.line X.env = pure false := by rfl) (hf : X.fn x = true ∨ X.env.scope.names.lookup x = some .local := by first | exact .inl rfl | exact .inr rfl | assumption) :
    DSt X E (.Assign [.Name x pos'] e pos) (dAsg te (gN i)) where
  run := ps_w (ps_set hN hi hx he.run hs hf) fun _ _ _ h => asg_run gn_lift he.mono mono_gN h
  mono := mono_Asg he.mono mono_gN
theorem ds_par {i j : Nat} {x y : Str} {a b : Expr} {ta : DTA} {px py pt : Pos} {kt k2 pt2} (hc : X.calm = true) (hN : X.N.Nodup) (hi : X.N[i]? = some x) (hj : X.N[j]? = some y) (hij : i ≠ j)
    (hx : X.env.scope.names.lookup x = some .local) (hy : X.env.scope.names.lookup y = some .local) (ha : DA X E [a, b] ta)
    (hw : swappedStores [.Tuple [.Name x px, .Name y py] kt pt] (.Tuple [a, b] k2 pt2) X.env = pure (some [x, y]))
    (hs : swapsWithSole [.Tuple [.Name x px, .Name y py] kt pt] (.Tuple [a, b] k2 pt2) pos.line X.env = pure false := by rfl) :
    DSt X E (.Assign [.Tuple [.Name x px, .Name y py] kt pt] (.Tuple [a, b] k2 pt2) pos) (dPar i j ta) where
  run := ps_w (ps_par hc hN hi hj hij hx hy ha.run hw hs) fun D σ H ⟨W, s, M, rh, rs, q⟩ => by
    refine ⟨W, s, M, rh, rs, ha.mono _ _ _ _ _ _ (fun ds M1 h1 => ?_) (fun _ _ z => z) q⟩
    intro W1 vs H1 l1 rh1 d1
    match ds, h1, d1 with
    | [d, d'], h1, d1 =>
      obtain ⟨v, r, rfl, e1, d2⟩ := d1.inv
      obtain ⟨w, r', rfl, e2, d3⟩ := d2.inv
      cases d3.inv0
      exact ⟨v, w, rfl, h1 W1 _ H1 l1 rh1 (((rs.mono l1).put e1).put e2)⟩
  mono := mono_Par ha.mono
theorem ds_ret (he : DE X E e te) : DSt X E (.Return (some e) pos) (dRet te) where
  run := ps_w (ps_ret he.run) fun D σ H ⟨W, s, M, rh, rs, q⟩ => ⟨W, s, M, rh, rs, q⟩
  mono := mono_Ret he.mono
theorem ds_retN : DSt X E (.Return none pos) dRetN where
  run := ps_w ps_retN fun D σ H ⟨W, s, M, rh, rs, q⟩ => q W .non H (Wle.refl W) rh (by simp only [DatR])
  mono := mono_RetN
theorem ds_pass : DSt X E (.Pass pos) dNext where
  run := ps_w ps_pass fun D σ H ⟨W, s, M, rh, rs, q⟩ => q W σ H (Wle.refl W) rh rs
  mono := mono_Next
theorem ds_doc {x j pos'} : DSt X E (.Expr (.Constant (.str x) j pos) pos') dNext where
  run := ps_w ps_doc fun D σ H ⟨W, s, M, rh, rs, q⟩ => q W σ H (Wle.refl W) rh rs
  mono := mono_Next
theorem ds_expr (he : DE X E e te) (hs : swapsWith e none pos.line X.env = pure false := by rfl) : DSt X E (.Expr e pos) (dDrop te) where
  run := ps_w (ps_expr he.run hs) fun D σ H ⟨W, s, M, rh, rs, q⟩ => by
    refine ⟨W, s, M, rh, rs, he.mono _ _ _ _ _ _ (fun d M1 h1 => ?_) (fun _ _ z => z) q⟩
    intro W1 v H1 l1 rh1 d1
    exact h1 W1 σ H1 l1 rh1 (rs.mono l1)
  mono := mono_Drop he.mono
theorem ds_if {c : Expr} {tC : DTT} {xs ys : List Stmt} (hc : DT X E c tC) (ha : DSs X E xs t) (hb : DSs X E ys u) : DSt X E (.If c xs ys pos) (dIf tC t u) where
  run := ps_w (ps_if hc.run ha.run hb.run) fun D σ H ⟨W, s, M, rh, rs, q⟩ => by
    refine ⟨W, s, M, rh, rs, hc.mono _ _ _ _ _ _ (fun d M1 h1 => ?_) (fun _ _ z => z) q⟩
    intro W1 H1 l1 rh1
    cases d with
    | true => exact ⟨W1, s, M1, rh1, rs.mono l1, ha.mono _ _ _ _ (lD_up l1) h1⟩
    | false => exact ⟨W1, s, M1, rh1, rs.mono l1, hb.mono _ _ _ _ (lD_up l1) h1⟩
  mono := mono_If hc.mono ha.mono hb.mono
theorem ds_while {c : Expr} {tC : DTT} {xs : List Stmt} (hp : PassesOwn (model X.prog X.w) X.A X.env X.xe) (hc : DT X E c tC) (hb : DSs X E xs t) : DSt X E (.While c xs [] pos) (dWhile tC t) where
  run := ps_w (ps_while hp hc.run hb.run) fun D σ H ⟨W, s, M, rh, rs, Wi, ⟨m, w0⟩, turn⟩ => by
    refine ⟨fun m σ H => ∃ W1 s M, Wle W W1 ∧ RelH X.K W1 M H ∧ RelS X.K W1 s σ ∧ Wi m s M, ⟨m, W, s, M, Wle.refl W, rh, rs, w0⟩, ?_⟩
    rintro m σ1 H1 ⟨W1, s1, M1, l1, rh1, rs1, w1⟩
    refine ⟨W1, s1, M1, rh1, rs1, hc.mono _ _ _ _ _ _ (fun b M2 h2 => ?_) (fun _ _ z => z.up l1) (turn m s1 M1 w1)⟩
    intro W2 H2 l2 rh2
    have l12 := l1.trans l2
    cases b with
    | true =>
      refine ⟨fun σ' H' => ∃ m', m' < m ∧ ∃ W1 s M, Wle W W1 ∧ RelH X.K W1 M H' ∧ RelS X.K W1 s σ' ∧ Wi m' s M, fun _ _ z => z, W2, s1, M2, rh2, rs1.mono l2,
        hb.mono { lD X.K X.mg E W D with nx := fun s' M' => ∃ m', m' < m ∧ Wi m' s' M', ct := fun s' M' => ∃ m', m' < m ∧ Wi m' s' M', bk := QS X.K W D.nx } _ _ _ ⟨?_, fun _ _ z => QL.up l12 z, fun _ _ z => XL.up l12 z, fun _ _ z => QS.up l12 z, ?_⟩ h2⟩
      · rintro s' M' ⟨m', hm, w'⟩ W3 σ3 H3 l3 rh3 rs3
        exact ⟨m', hm, W3, s', M', l12.trans l3, rh3, rs3, w'⟩
      · rintro s' M' ⟨m', hm, w'⟩ W3 σ3 H3 l3 rh3 rs3
        exact ⟨m', hm, W3, s', M', l12.trans l3, rh3, rs3, w'⟩
    | false => exact h2 W2 σ1 H2 l12 rh2 (rs1.mono l2)
  mono := mono_While hc.mono hb.mono
/-! ### for -/
theorem ds_for {tg iter : Expr} {body : List Stmt} {ti : DTI} {vs : List Nat} {g : DTG} (hp : PassesOwn (model X.prog X.w) X.A X.env X.xe) (hc : X.calm = true) (hi : DIt X E tg iter ti) (hg : DGt X tg vs g) (hb : DSs X E body t)
    (hs : ∀ x, foldedSetIterable iter X.env x = pure x := by intro _; rfl) : DSt X E (.For tg iter body [] pos) (dFor ti g t) where
  run := ps_w (ps_for hp hc hi.run hg.run hb.run hs) fun D σ H ⟨W, s, M, rh, rs, q⟩ => by
    refine ⟨W, s, M, rh, rs, hi.mono _ _ _ _ _ _ (fun xs M1 h1 => ?_) (fun _ _ z => z) q⟩
    intro W1 H1 J l1 rh1 wk
    refine ⟨fun i m σ H => m = xs.length - i ∧ i ≤ xs.length ∧ ∃ W2 s M, Wle W1 W2 ∧ RelH X.K W2 M H ∧ RelS X.K W2 s σ ∧ forD g t (xs.drop i) (lD X.K X.mg E W D) s M,
      ⟨_, rfl, Nat.zero_le _, W1, s, M1, Wle.refl W1, rh1, rs.mono l1, by rw [List.drop_zero]; exact h1⟩, ?_⟩
    rintro i m σ2 H2 ⟨rfl, hil, W2, s2, M2, l2, rh2, rs2, q2⟩
    by_cases hlt : i < xs.length
    · refine .inr ⟨wk.go i W2 M2 H2 l2.lf rh2 hlt, fun σ H => ∃ W2 s M, Wle W1 W2 ∧ RelH X.K W2 M H ∧ RelS X.K W2 s σ ∧ forD g t (xs.drop (i + 1)) (lD X.K X.mg E W D) s M, ?_, ?_⟩
      · rintro σ' H' z
        exact ⟨xs.length - (i + 1), by omega, rfl, hlt, z⟩
      · intro x H3 y
        rw [List.drop_eq_getElem_cons hlt] at q2
        obtain ⟨W3, l3, rh3, d3⟩ := wk.yld i W2 M2 H2 xs[i] x H3 l2.lf rh2 (List.getElem?_eq_getElem hlt) y
        refine ⟨W3, s2, M2, xs[i], rh3, rs2.mono l3, d3, hg.mono _ _ _ _ _ (fun s4 M4 q4 => ?_) q2⟩
        intro W4 σ4 H4 l4 rh4 rs4 _
        have l14 := (l2.trans l3).trans l4
        have lW4 := l1.trans l14
        refine ⟨W4, s4, M4, rh4, rs4, hb.mono { lD X.K X.mg E W D with nx := forD g t (xs.drop (i + 1)) (lD X.K X.mg E W D), ct := forD g t (xs.drop (i + 1)) (lD X.K X.mg E W D), bk := QS X.K W D.nx } _ _ _ ⟨fun s5 M5 q5 => ?_, fun _ _ z => QL.up lW4 z, fun _ _ z => XL.up lW4 z, fun _ _ z => QS.up lW4 z, fun s5 M5 q5 => ?_⟩ q4⟩
        · intro W5 σ5 H5 l5 rh5 rs5
          exact ⟨W5, s5, M5, l14.trans l5, rh5, rs5, q5⟩
        · intro W5 σ5 H5 l5 rh5 rs5
          exact ⟨W5, s5, M5, l14.trans l5, rh5, rs5, q5⟩
    · have e : i = xs.length := by omega
      subst e
      rw [List.drop_length] at q2
      exact .inl ⟨wk.stop _ W2 M2 H2 l2.lf rh2 (Nat.le_refl _), q2 W2 σ2 H2 (l1.trans l2) rh2 rs2⟩
  mono := mono_For hi.mono hg.mono hb.mono
/-! ### comprehensions -/
structure DTs (X : Cx) (E : XK) (ifs : List Expr) (t : DTT) : Prop where
  run : PTs X ifs (lT X.K X.mg E t)
  mono : MonoT t
theorem dts_nil : DTs X E [] dYes where
  run := ⟨fun pins s σ H Q I h => by
    obtain ⟨W, sl, M, rh, rs, q⟩ := h
    exact pts_nil.run pins s σ H Q I (q W H (Wle.refl W) rh)⟩
  mono := mono_Yes
theorem dts_one {c : Expr} {tC : DTT} (h : DT X E c tC) : DTs X E [c] tC := ⟨pts_one h.run, h.mono⟩
mutual
theorem DatR.frm {K : PySem.W.Frag} {G : Hp} {ad : List Addr} {F F' : Hp} : ∀ (d : D) (v : V), DatR K ⟨G, ad, F⟩ d v → DatR K ⟨G, ad, F'⟩ d v
  | .non, _, q => q
  | .bl _, _, q => q
  | .int _, _, q => q
  | .str _, _, q => q
  | .ty _, _, q => q
  | .tup ds, v, q => by
    simp only [DatR] at q ⊢
    obtain ⟨a, vs, e, h1, h2, h3⟩ := q
    exact ⟨a, vs, e, h1, h2, DatL.frm ds vs h3⟩
  | .lst ds, v, q => by
    simp only [DatR] at q ⊢
    obtain ⟨a, vs, e, h1, h2, h3⟩ := q
    exact ⟨a, vs, e, h1, h2, DatL.frm ds vs h3⟩
  | .wl ds, v, q => by
    simp only [DatR] at q ⊢
    obtain ⟨a, vs, e, h1, h2, h3⟩ := q
    exact ⟨a, vs, e, h1, h2, DatL.frm ds vs h3⟩
  | .emp, v, q => by
    simp only [DatR] at q ⊢
    exact q
  | .own k, v, q => by
    simp only [DatR] at q ⊢
    exact q
theorem DatL.frm {K : PySem.W.Frag} {G : Hp} {ad : List Addr} {F F' : Hp} : ∀ (ds : List D) (vs : List V), DatL K ⟨G, ad, F⟩ ds vs → DatL K ⟨G, ad, F'⟩ ds vs
  | [], _, q => q
  | d :: ds, vs, q => by
    simp only [DatL] at q ⊢
    obtain ⟨v, r, e, h1, h2⟩ := q
    exact ⟨v, r, e, DatR.frm d v h1, DatL.frm ds r h2⟩
end
theorem RelS.frm {K : PySem.W.Frag} {G : Hp} {ad : List Addr} {F F' : Hp} {s : Sl} {σ : L2.St} (r : RelS K ⟨G, ad, F⟩ s σ) : RelS K ⟨G, ad, F'⟩ s σ :=
  ⟨r.len, fun i d e => let ⟨v, e1, e2⟩ := r.get i d e; ⟨v, e1, DatR.frm d v e2⟩⟩
theorem Wlf.fr {W : Wld} {F : Hp} : Wlf W ⟨W.G, W.ad, F⟩ := ⟨Same.refl _, List.prefix_refl _⟩
theorem RelH.inF {K : PySem.W.Frag} {W : Wld} {M : Sto} {H : Hp} {p : Addr} {o : HO} (r : RelH K W M H) (h : H p = some o) (g : W.G p = none) (n : p ∉ W.ad) : RelH K ⟨W.G, W.ad, upd W.F p o⟩ M H := by
  refine ⟨r.sub, r.len, r.nd, fun k ds e => ?_, r.dead, fun b u e => ?_, fun a ha => ?_⟩
  · obtain ⟨a, vs, e1, e2, e3, e4, e5⟩ := r.own k ds e
    refine ⟨a, vs, e1, e2, e3, DatL.lf (W := W) Wlf.fr _ _ e4, ?_⟩
    show upd W.F p o a = none
    rw [upd_ne]
    · exact e5
    · rintro rfl
      exact n (List.mem_of_getElem? e1)
  · have e : upd W.F p o b = some u := e
    by_cases hb : b = p
    · subst hb
      rw [upd_same] at e
      cases e
      exact h
    · rw [upd_ne hb] at e
      exact r.frm _ _ e
  · have ha : upd W.F p o a ≠ none := ha
    by_cases hb : a = p
    · subst hb
      exact g
    · rw [upd_ne hb] at ha
      exact r.dis a ha
theorem RelH.outF {K : PySem.W.Frag} {W : Wld} {F : Hp} {M : Sto} {H : Hp} {p : Addr} {o : HO} (r : RelH K W M H) (e : W.F = upd F p o) (f : F p = none) : RelH K ⟨W.G, W.ad, F⟩ M H ∧ H p = some o ∧ W.G p = none ∧ p ∉ W.ad := by
  have fp : W.F p = some o := by rw [e]; exact upd_same
  have g : W.G p = none := r.dis p (by rw [fp]; simp)
  have n : p ∉ W.ad := fun hp => by
    obtain ⟨k, hk, z⟩ := List.getElem_of_mem hp
    have hk2 : k < M.length := by rw [← r.len]; exact hk
    have ea : W.ad[k]? = some p := by rw [List.getElem?_eq_getElem hk, z]
    cases q : M[k] with
    | none =>
      have eM : M[k]? = some none := by rw [List.getElem?_eq_getElem hk2, q]
      exact r.dead k p eM ea g
    | some ds =>
      have eM : M[k]? = some (some ds) := by rw [List.getElem?_eq_getElem hk2, q]
      obtain ⟨a, vs, e1, _, e3, _, e5⟩ := r.own k ds eM
      rw [ea] at e1
      cases e1
      rw [fp] at e5
      cases e5
  have sub : ∀ a u, F a = some u → W.F a = some u := fun a u z => by
    rw [e, upd_ne]
    · exact z
    · rintro rfl
      rw [f] at z; cases z
  refine ⟨⟨r.sub, r.len, r.nd, fun k ds z => ?_, r.dead, fun b u z => r.frm _ _ (sub b u z), fun a ha => ?_⟩, r.frm _ _ fp, g, n⟩
  · obtain ⟨a, vs, e1, e2, e3, e4, e5⟩ := r.own k ds z
    refine ⟨a, vs, e1, e2, e3, DatL.lf (W := W) Wlf.fr _ _ e4, ?_⟩
    show F a = none
    cases q : F a with
    | none => rfl
    | some u =>
      rw [sub a u q] at e5
      cases e5
  · refine r.dis a fun z => ha ?_
    show F a = none
    cases q : F a with
    | none => rfl
    | some u =>
      rw [sub a u q] at z
      cases z
theorem RelH.updX {K : PySem.W.Frag} {W : Wld} {M : Sto} {H : Hp} {p : Addr} {o : HO} (r : RelH K W M H) (g : W.G p = none) (n : p ∉ W.ad) (f : W.F p = none) : RelH K W M (upd H p o) := by
  refine ⟨fun b u e => ?_, r.len, r.nd, fun k ds e => ?_, r.dead, fun b u e => ?_, r.dis⟩
  · rw [upd_ne]
    · exact r.sub _ _ e
    · rintro rfl
      rw [g] at e; cases e
  · obtain ⟨a, vs, e1, e2, e3, e4, e5⟩ := r.own k ds e
    refine ⟨a, vs, e1, e2, ?_, e4, e5⟩
    rw [upd_ne]
    · exact e3
    · rintro rfl
      exact n (List.mem_of_getElem? e1)
  · rw [upd_ne]
    · exact r.frm _ _ e
    · rintro rfl
      rw [f] at e; cases e
theorem look_wiped : ∀ (s : Sl) (vs : List Nat) (j : Nat) (d : D), look (wiped s vs) j = some d → look s j = some d
  | s, [], j, d, h => h
  | s, i :: r, j, d, h => by
    unfold wiped at h
    rw [look_put] at h
    split at h
    · cases h
    · exact look_wiped s r j d h
/-- what the turns of a comprehension know: the list so far at D -/
def CompI (K : PySem.W.Frag) (mg : Str → Option Value) (g : DTG) (tt : DTT) (te : DTE) (xs : List D) (W : Wld) (s : Sl) (σ : L2.St) (vs : List Nat) (Q : List D → Sto → Prop) (Dd : Addr) (i : Nat) (H : Hp) : Prop :=
  ∃ W1 M acc as, Wle W W1 ∧ RelH K W1 M H ∧ DatL K W1 as acc ∧ as.length ≤ i ∧ H Dd = some (.lst acc) ∧ W1.G Dd = none ∧ W1.F Dd = none ∧ Dd ∉ W1.ad ∧ compD g tt te (xs.drop i) (wiped s vs) M (fun ys M' => Q (as ++ ys) M') fun _ _ => False
theorem comp_run {ti : DTI} {vs ws : List Nat} {g : DTG} {tt : DTT} {te : DTE} (mi : MonoI ti) (mg : MonoG g) (mt : MonoT tt) (me : MonoE te) (hw : ∀ i ∈ ws, i ∈ vs) {σ : L2.St} {H : Hp} {Q : VK} (h : lE X.K X.mg E (dComp ti g tt te vs) σ H Q) :
    tLc (lI X.K X.mg E ti) (lG X.K ws g) (lT X.K X.mg E0 tt) (lE X.K X.mg E0 te) vs σ H Q := by
  obtain ⟨W, s, M, rh, rs, h⟩ := h
  refine ⟨W, s, M, rh, rs, mi _ _ _ _ _ _ (fun xs M1 h1 => ?_) (fun _ _ z => z) h⟩
  intro W1 H1 J l1 rh1 wk Dd nD
  -- the turns
  refine ⟨fun i m H => m = xs.length - i ∧ i ≤ xs.length ∧ CompI X.K X.mg g tt te xs W1 s σ vs (fun ys M2 => QL X.K W Q (.lst ys) M2) Dd i H, ⟨_, rfl, Nat.zero_le _, ?_⟩, ?_⟩
  · have gD : W1.G Dd = none := rh1.sub.free nD
    have fD : W1.F Dd = none := rh1.frm.free nD
    have aD := rh1.fresh nD
    refine ⟨W1, M1, [], [], Wle.refl W1, ?_, .nil, Nat.le_refl _, upd_same, gD, fD, aD, ?_⟩
    · refine ⟨fun b u e => ?_, rh1.len, rh1.nd, fun k ds e => ?_, rh1.dead, fun b u e => ?_, rh1.dis⟩
      · rw [upd_ne (ne_of_none (rh1.sub _ _ e) nD)]
        exact rh1.sub _ _ e
      · obtain ⟨a, zs, e1, e2, e3, e4, e5⟩ := rh1.own k ds e
        refine ⟨a, zs, e1, e2, ?_, e4, e5⟩
        rw [upd_ne (ne_of_none e3 nD)]
        exact e3
      · rw [upd_ne (ne_of_none (rh1.frm _ _ e) nD)]
        exact rh1.frm _ _ e
    · rw [List.drop_zero]
      exact h1
  · rintro i m H2 ⟨rfl, hil, W2, M2, acc, as, l2, rh2, dA, hA, hD, gD, fD, aD, q2⟩
    by_cases hlt : i < xs.length
    · refine .inr ⟨wk.go i W2 M2 H2 l2.lf rh2 hlt, fun H => CompI X.K X.mg g tt te xs W1 s σ vs (fun ys M2 => QL X.K W Q (.lst ys) M2) Dd (i + 1) H, ?_, ?_⟩
      · intro H' z
        exact ⟨xs.length - (i + 1), by omega, rfl, hlt, z⟩
      · intro x H3 y
        rw [List.drop_eq_getElem_cons hlt] at q2
        have rh2F := rh2.inF hD gD aD
        obtain ⟨W3, l3, rh3, d3⟩ := wk.yld i ⟨W2.G, W2.ad, upd W2.F Dd (.lst acc)⟩ M2 H2 xs[i] x H3 (l2.lf.trans ⟨Same.refl _, List.prefix_refl _⟩) rh2F (List.getElem?_eq_getElem hlt) y
        have l03 : Wlf W W3 := (l1.trans l2).lf.trans ((⟨Same.refl _, List.prefix_refl _⟩ : Wlf W2 ⟨W2.G, W2.ad, upd W2.F Dd (.lst acc)⟩).trans l3.lf)
        have rs3 : RelS X.K W3 s σ := ⟨rs.len, fun i d e => let ⟨v, e1, e2⟩ := rs.get i d e; ⟨v, e1, DatR.lf l03 d v e2⟩⟩
        refine ⟨W3, wiped s vs, M2, xs[i], rh3, rs3.wiped vs, d3, mg _ _ _ _ _ (fun s4 M4 q4 => ?_) q2⟩
        intro W4 σ4 H4 l4 rh4 rs4 a4
        refine ⟨(a4.wipe hw).trans wipe_wipe, W4, s4, M4, rh4, rs4, mt _ _ _ _ _ _ (fun b M5 q5 => ?_) (fun _ _ z => z.elim) q4⟩
        intro W5 H5 l5 rh5
        have l35 := (l3.trans l4).trans l5
        cases b with
        | true =>
          refine ⟨W5, s4, M5, rh5, rs4.mono l5, me _ _ _ _ _ _ (fun y M6 q6 => ?_) (fun _ _ z => z.elim) q5⟩
          intro W6 v6 H6 l6 rh6 d6
          have l36 := l35.trans l6
          obtain ⟨rh7, hD7, gD7, aD7⟩ := rh6.outF l36.f fD
          have l17 : Wle W1 ⟨W6.G, W6.ad, W2.F⟩ := ⟨l2.g.trans l36.g, l2.a.trans l36.a, l2.f⟩
          refine ⟨acc, hD7, by rw [dA.len]; exact Nat.lt_of_lt_of_le (Nat.lt_of_le_of_lt hA hlt) wk.le, ?_⟩
          refine ⟨⟨W6.G, W6.ad, W2.F⟩, M6, acc ++ [v6], as ++ [y], l17, rh7.updX gD7 aD7 fD, ?_, ?_, upd_same, gD7, fD, aD7, ?_⟩
          · refine DatL.snoc ?_ (DatR.lf (W := W6) Wlf.fr _ _ d6)
            exact DatL.lf (W := W2) (W' := ⟨W6.G, W6.ad, W2.F⟩) ⟨l36.g, l36.a⟩ _ _ dA
          · rw [List.length_append]
            exact Nat.add_le_add_right hA 1
          · have q6 : compD g tt te (List.drop (i + 1) xs) (wiped s vs) M6 (fun ys M4 => QL X.K W Q (.lst (as ++ (y :: ys))) M4) fun _ _ => False := q6
            have e : (fun (ys : List D) M4 => QL X.K W Q (.lst (as ++ (y :: ys))) M4) = fun ys M4 => QL X.K W Q (.lst ((as ++ [y]) ++ ys)) M4 := by
              funext ys M4
              rw [List.append_assoc]
              rfl
            rw [e] at q6
            exact q6
        | false =>
          obtain ⟨rh7, hD7, gD7, aD7⟩ := rh5.outF l35.f fD
          have l17 : Wle W1 ⟨W5.G, W5.ad, W2.F⟩ := ⟨l2.g.trans l35.g, l2.a.trans l35.a, l2.f⟩
          refine ⟨⟨W5.G, W5.ad, W2.F⟩, M5, acc, as, l17, rh7, DatL.lf (W := W2) (W' := ⟨W5.G, W5.ad, W2.F⟩) ⟨l35.g, l35.a⟩ _ _ dA, Nat.le_succ_of_le hA, hD7, gD7, fD, aD7, q5⟩
    · have e : i = xs.length := by omega
      subst e
      rw [List.drop_length] at q2
      refine .inl ⟨wk.stop _ W2 M2 H2 l2.lf rh2 (Nat.le_refl _), ?_⟩
      have q2 : QL X.K W Q (.lst (as ++ [])) M2 := q2
      rw [List.append_nil] at q2
      -- the list is frozen
      have sG : Same W2.G (upd W2.G Dd (.lst acc)) := fun b u e => by
        rw [upd_ne (ne_of_none e gD)]
        exact e
      have l2' : Wle W2 ⟨upd W2.G Dd (.lst acc), W2.ad, W2.F⟩ := ⟨sG, List.prefix_refl _, rfl⟩
      refine q2 ⟨upd W2.G Dd (.lst acc), W2.ad, W2.F⟩ (.ref Dd) H2 ((l1.trans l2).trans l2') ⟨fun b u e => ?_, rh2.len, rh2.nd, fun k ds e => ?_, fun k a e ea => ?_, rh2.frm, fun a ha => ?_⟩ ?_
      · have e : upd W2.G Dd (.lst acc) b = some u := e
        by_cases hb : b = Dd
        · subst hb
          rw [upd_same] at e
          cases e
          exact hD
        · rw [upd_ne hb] at e
          exact rh2.sub _ _ e
      · obtain ⟨a, zs, e1, e2, e3, e4, e5⟩ := rh2.own k ds e
        refine ⟨a, zs, e1, ?_, e3, DatL.mono l2' _ _ e4, e5⟩
        show upd W2.G Dd (.lst acc) a = none
        rw [upd_ne]
        · exact e2
        · rintro rfl
          exact aD (List.mem_of_getElem? e1)
      · show upd W2.G Dd (.lst acc) a ≠ none
        rw [upd_ne]
        · exact rh2.dead k a e ea
        · rintro rfl
          exact aD (List.mem_of_getElem? ea)
      · show upd W2.G Dd (.lst acc) a = none
        rw [upd_ne]
        · exact rh2.dis a ha
        · rintro rfl
          exact ha fD
      · simp only [DatR]
        exact ⟨Dd, acc, rfl, upd_same, Nat.le_trans hA wk.le, DatL.mono l2' _ _ dA⟩
end
end DL
/-! DLSound3: comprehensions, what is walked, freezing, defs (own work). -/
namespace DL
open PySem PySem.Spec PyProof.Rows L2
section
variable {X : Cx} {E : XK} {a b c e : Expr} {es rest : List Expr} {ta tb tc te : DTE} {pos p : Pos}
theorem de_comp {elt tg iter : Expr} {ifs : List Expr} {scope : Scope} {own : List (Str × Nat)} {ws us : List Nat} {ti : DTI} {g : DTG} {tt : DTT} (hc : X.calm = true) (hN : X.N.Nodup) (hi : DIt X E tg iter ti) (ok : BlkOk X.N X.env.scope scope own)
    (hg : ∀ (s : Shared) (H : Hp) (C : Addr) (cl : List (Str × Addr)) (fp : List Addr), DGt (X.blk s H scope (compEnvC scope cl C X.env) fp) tg ws g) (ht : ∀ (s : Shared) (H : Hp) (C : Addr) (cl : List (Str × Addr)) (fp : List Addr), DTs (X.blk s H scope (compEnvC scope cl C X.env) fp) E0 ifs tt)
    (he : ∀ (s : Shared) (H : Hp) (C : Addr) (cl : List (Str × Addr)) (fp : List Addr), DE (X.blk s H scope (compEnvC scope cl C X.env) fp) E0 elt te) (mg : MonoG g) (mt : MonoT tt) (me : MonoE te) (hv : own.map (·.2) = us := by rfl) (hw : ∀ i ∈ ws, i ∈ us := by decide)
    (hs : ∀ x, foldedSetIterable iter X.env x = pure x := by intro _; rfl) :
    DE X E (.ListComp elt [⟨tg, iter, ifs, 0⟩] scope pos) (dComp ti g tt te us) where
  run := by
    subst hv
    exact pe_w (pe_lc hc hN hi.run ok (fun s H C cl fp => (hg s H C cl fp).run) (fun s H C cl fp => (ht s H C cl fp).run) (fun s H C cl fp => (he s H C cl fp).run) hs) fun _ _ _ h => comp_run hi.mono mg mt me hw h
  mono := mono_Comp hi.mono mg mt me
theorem ds_setComp {i : Nat} {y : Str} {py : Pos} {elt tg iter : Expr} {ifs : List Expr} {scope : Scope} {own : List (Str × Nat)} {ws us : List Nat} {spos : Pos} {ti : DTI} {g : DTG} {tt : DTT} (hc : X.calm = true) (hN : X.N.Nodup) (hy : X.N[i]? = some y) (hyl : X.env.scope.names.lookup y = some .local)
    (hsw : swapsWith (.ListComp elt [⟨tg, iter, ifs, 0⟩] scope pos) (some (.Name y py)) spos.line X.env = pure true) (hi : DIt X E tg iter ti) (ok : BlkOk X.N X.env.scope scope own)
    (hg : ∀ (s : Shared) (H : Hp) (C : Addr) (cl : List (Str × Addr)) (fp : List Addr), DGt (X.blk s H scope (compEnvC scope cl C X.env) fp) tg ws g) (ht : ∀ (s : Shared) (H : Hp) (C : Addr) (cl : List (Str × Addr)) (fp : List Addr), DTs (X.blk s H scope (compEnvC scope cl C X.env) fp) E0 ifs tt)
    (he : ∀ (s : Shared) (H : Hp) (C : Addr) (cl : List (Str × Addr)) (fp : List Addr), DE (X.blk s H scope (compEnvC scope cl C X.env) fp) E0 elt te) (mg : MonoG g) (mt : MonoT tt) (me : MonoE te) (hv : own.map (·.2) = us := by rfl) (hw : ∀ i ∈ ws, i ∈ us := by decide)
    (hs : ∀ x, foldedSetIterable iter X.env x = pure x := by intro _; rfl) :
    DSt X E (.Assign [.Name y py] (.ListComp elt [⟨tg, iter, ifs, 0⟩] scope pos) spos) (dAsg (dComp ti g tt te us) (gN i)) where
  run := by
    subst hv
    refine ps_w (ps_setLc (wi := lI X.K X.mg E ti) (g := lG X.K ws g) (tt := lT X.K X.mg E0 tt) (te := lE X.K X.mg E0 te) hc hN hy hyl hsw hi.run ok (fun s H C cl fp => (hg s H C cl fp).run) (fun s H C cl fp => (ht s H C cl fp).run) (fun s H C cl fp => (he s H C cl fp).run) hs) fun D σ H h => ?_
    obtain ⟨W, s, M, rh, rs, q⟩ := h
    refine comp_run hi.mono mg mt me hw (Q := fun x H1 => gName i x σ H1 D.nx) ⟨W, s, M, rh, rs, (mono_Comp hi.mono mg mt me) _ _ _ _ _ _ (fun d M1 h1 => ?_) (fun _ _ z => z) q⟩
    intro W1 v H1 l1 rh1 d1
    exact h1 W1 _ H1 l1 rh1 ((rs.mono l1).put d1)
  mono := mono_Asg (mono_Comp hi.mono mg mt me) mono_gN
/-! ### what is walked -/
theorem walks_of {K : PySem.W.Frag} {W : Wld} {J : It} {xs : List D} {vs : List V} (dl : DatL K W xs vs) (le : xs.length ≤ sizeLine) (st : ∀ i W1 M1 H1, Wlf W W1 → RelH K W1 M1 H1 → vs.length ≤ i → J.stop i H1)
    (go : ∀ i W1 M1 H1, Wlf W W1 → RelH K W1 M1 H1 → i < vs.length → J.go i H1) (yl : ∀ i W1 M1 H1 x H2, Wlf W W1 → RelH K W1 M1 H1 → J.yld i H1 x H2 → H2 = H1 ∧ vs[i]? = some x) : Walks K W J xs :=
  ⟨le, fun i W1 M1 H1 l r h => st i W1 M1 H1 l r (by rw [dl.len]; exact h), fun i W1 M1 H1 l r h => go i W1 M1 H1 l r (by rw [dl.len]; exact h), fun i W1 M1 H1 d x H2 l r e y => by
    obtain ⟨e2, e3⟩ := yl i W1 M1 H1 x H2 l r y
    subst e2
    obtain ⟨v, e4, e5⟩ := dl.get e
    rw [e3] at e4
    cases e4
    exact ⟨W1, Wle.refl W1, r, DatR.lf l _ _ e5⟩⟩
theorem walks_list {K : PySem.W.Frag} {W : Wld} {a : Addr} {xs : List D} {vs : List V} (h : SqL K W.G a vs) (dl : DatL K W xs vs) (le : xs.length ≤ sizeLine) : Walks K W (Itl K a) xs := by
  have at1 : ∀ {W1 M1 H1}, Wlf W W1 → RelH K W1 M1 H1 → SqL K H1 a vs := fun l r => Same.seq r.sub (Same.seq l.g h)
  refine walks_of dl le (fun i W1 M1 H1 l r hi => ⟨vs, at1 l r, hi⟩) (fun i W1 M1 H1 l r hi => ⟨vs, vs[i], at1 l r, List.getElem?_eq_getElem hi⟩) fun i W1 M1 H1 x H2 l r y => ?_
  obtain ⟨e, y⟩ := y
  exact ⟨e, y vs (at1 l r)⟩
theorem walks_tup {K : PySem.W.Frag} {W : Wld} {a : Addr} {xs : List D} {vs : List V} (h : SqT K W.G a vs) (dl : DatL K W xs vs) (le : xs.length ≤ sizeLine) : Walks K W (Itt K a) xs := by
  have at1 : ∀ {W1 M1 H1}, Wlf W W1 → RelH K W1 M1 H1 → SqT K H1 a vs := fun l r => Same.seqT r.sub (Same.seqT l.g h)
  refine walks_of dl le (fun i W1 M1 H1 l r hi => ⟨vs, at1 l r, hi⟩) (fun i W1 M1 H1 l r hi => ⟨vs, vs[i], at1 l r, List.getElem?_eq_getElem hi⟩) fun i W1 M1 H1 x H2 l r y => ?_
  obtain ⟨e, y⟩ := y
  exact ⟨e, y vs (at1 l r)⟩
/-- for x in xs, xs a list -/
def dItL (t : DTE) : DTI := fun s M Q E => t s M (fun d M1 => match d with
  | .lst xs | .wl xs => Q xs M1
  | _ => False) E
/-- for x in t, t a tuple -/
def dItT (t : DTE) : DTI := fun s M Q E => t s M (fun d M1 => match d with
  | .tup xs => Q xs M1
  | _ => False) E
theorem mono_ItL (ha : MonoE ta) : MonoI (dItL ta) := fun s M Q Q' E E' h hx q =>
  ha s M _ _ _ _ (fun x M1 q1 => by
    cases x <;> first | exact q1 | exact h _ _ q1) hx q
theorem mono_ItT (ha : MonoE ta) : MonoI (dItT ta) := fun s M Q Q' E E' h hx q =>
  ha s M _ _ _ _ (fun x M1 q1 => by
    cases x <;> first | exact q1 | exact h _ _ q1) hx q
theorem di_list {tg l : Expr} (h : DE X E l ta) : DIt X E tg l (dItL ta) where
  run := pi_w (pi_list h.run) fun σ H R ⟨W, s, M, rh, rs, q⟩ => by
    refine ⟨W, s, M, rh, rs, h.mono _ _ _ _ _ _ (fun d M1 h1 => ?_) (fun _ _ z => z) q⟩
    intro W1 v H1 l1 rh1 d1
    cases d with
    | lst xs =>
      simp only [DatR] at d1
      obtain ⟨a, vs, rfl, e1, e2, e3⟩ := d1
      have sl : SqL X.K W1.G a vs := .inl (.inl e1)
      exact ⟨a, rfl, ⟨vs, Same.seq rh1.sub sl⟩, h1 W1 H1 _ l1 rh1 (walks_list sl e3 e2)⟩
    | wl xs =>
      simp only [DatR] at d1
      obtain ⟨a, vs, rfl, sl, e2, e3⟩ := d1
      exact ⟨a, rfl, ⟨vs, Same.seq rh1.sub sl⟩, h1 W1 H1 _ l1 rh1 (walks_list sl e3 e2)⟩
    | _ => exact h1.elim
  mono := mono_ItL h.mono
theorem di_tup {tg l : Expr} (h : DE X E l ta) : DIt X E tg l (dItT ta) where
  run := pi_w (pi_tup h.run) fun σ H R ⟨W, s, M, rh, rs, q⟩ => by
    refine ⟨W, s, M, rh, rs, h.mono _ _ _ _ _ _ (fun d M1 h1 => ?_) (fun _ _ z => z) q⟩
    intro W1 v H1 l1 rh1 d1
    cases d with
    | tup xs =>
      simp only [DatR] at d1
      obtain ⟨a, vs, rfl, sl, e2, e3⟩ := d1
      exact ⟨a, rfl, ⟨vs, Same.seqT rh1.sub sl⟩, h1 W1 H1 _ l1 rh1 (walks_tup sl e3 e2)⟩
    | _ => exact h1.elim
  mono := mono_ItT h.mono
/-- the ints from lo on, n of them -/
def intsD (lo : Int) (n : Nat) : List D := (List.range n).map fun (i : Nat) => .int (lo + (i : Int))
theorem walks_range {K : PySem.W.Frag} {W : Wld} {lo : Int} {n : Nat} (h : n ≤ sizeLine) : Walks K W (Itr lo n) (intsD lo n) where
  le := by simp [intsD]; exact h
  stop := fun i W1 M1 H1 l r hi => by
    have : (intsD lo n).length = n := by simp [intsD]
    rw [this] at hi
    exact hi
  go := fun i W1 M1 H1 l r hi => by
    have : (intsD lo n).length = n := by simp [intsD]
    rw [this] at hi
    exact hi
  yld := fun i W1 M1 H1 d x H2 l r e y => by
    obtain ⟨rfl, rfl⟩ := y
    refine ⟨W1, Wle.refl W1, r, ?_⟩
    unfold intsD at e
    rw [List.getElem?_map] at e
    cases q : (List.range n)[i]? with
    | none => rw [q] at e; cases e
    | some j =>
      rw [q] at e
      have hj : j = i := by
        have := (List.getElem?_eq_some_iff.mp q)
        obtain ⟨h1, h2⟩ := this
        simp at h2
        exact h2.symm
      subst hj
      cases e
      simp only [DatR]
def dRng1 (t : DTA) : DTI := fun s M Q E => t s M (fun ds M1 => match ds with
  | [.int j] => (-(2 ^ 62) ≤ j ∧ j < 2 ^ 62 ∧ j.toNat ≤ sizeLine) ∧ Q (intsD 0 j.toNat) M1
  | _ => False) E
def dRng2 (t : DTA) : DTI := fun s M Q E => t s M (fun ds M1 => match ds with
  | [.int i, .int j] => ((-(2 ^ 62) ≤ i ∧ i < 2 ^ 62 ∧ -(2 ^ 62) ≤ j ∧ j < 2 ^ 62) ∧ (j - i).toNat ≤ sizeLine) ∧ Q (intsD i (j - i).toNat) M1
  | _ => False) E
theorem mono_Rng1 {t : DTA} (ha : MonoA t) : MonoI (dRng1 t) := fun s M Q Q' E E' h hx q =>
  ha s M _ _ _ _ (fun x M1 q1 => by
    match x, q1 with
    | [.int j], q1 => exact ⟨q1.1, h _ _ q1.2⟩) hx q
theorem mono_Rng2 {t : DTA} (ha : MonoA t) : MonoI (dRng2 t) := fun s M Q Q' E E' h hx q =>
  ha s M _ _ _ _ (fun x M1 q1 => by
    match x, q1 with
    | [.int i, .int j], q1 => exact ⟨q1.1, h _ _ q1.2⟩) hx q
theorem di_range1 {tg a : Expr} {t : DTA} (hg : Gl X "range") (hm : X.mg "range" = none) (ha : DA X E [a] t) (hs : starEach [a] X.env = [(false, eval a X.env)] := by rfl) : DIt X E tg (.Call (.Name "range" p) [a] [] pos) (dRng1 t) where
  run := pi_w (pi_range1 hg hm ha.run hs) fun σ H R ⟨W, s, M, rh, rs, q⟩ => by
    refine ⟨W, s, M, rh, rs, ha.mono _ _ _ _ _ _ (fun ds M1 h1 => ?_) (fun _ _ z => z) q⟩
    intro W1 vs H1 l1 rh1 d1
    match ds, h1, d1 with
    | [.int j], h1, d1 =>
      obtain ⟨v, r, rfl, e1, d2⟩ := d1.inv
      cases d2.inv0
      simp only [DatR] at e1
      subst e1
      exact ⟨j, rfl, h1.1.1, h1.1.2.1, h1.2 W1 H1 _ l1 rh1 (walks_range h1.1.2.2)⟩
  mono := mono_Rng1 ha.mono
theorem di_range2 {tg a b : Expr} {t : DTA} (hg : Gl X "range") (hm : X.mg "range" = none) (ha : DA X E [a, b] t) (hs : starEach [a, b] X.env = [(false, eval a X.env), (false, eval b X.env)] := by rfl) (hs2 : starEach [b] X.env = [(false, eval b X.env)] := by rfl) : DIt X E tg (.Call (.Name "range" p) [a, b] [] pos) (dRng2 t) where
  run := pi_w (pi_range2 hg hm ha.run hs hs2) fun σ H R ⟨W, s, M, rh, rs, q⟩ => by
    refine ⟨W, s, M, rh, rs, ha.mono _ _ _ _ _ _ (fun ds M1 h1 => ?_) (fun _ _ z => z) q⟩
    intro W1 vs H1 l1 rh1 d1
    match ds, h1, d1 with
    | [.int i, .int j], h1, d1 =>
      obtain ⟨v, r, rfl, e1, d2⟩ := d1.inv
      obtain ⟨w, r', rfl, e2, d3⟩ := d2.inv
      cases d3.inv0
      simp only [DatR] at e1 e2
      subst e1 e2
      exact ⟨i, j, rfl, h1.1.1, h1.2 W1 H1 _ l1 rh1 (walks_range h1.1.2)⟩
  mono := mono_Rng2 ha.mono
/-! ### freezing -/
theorem look_map (f : Option D → Option D) (hf : f none = none) : ∀ (s : Sl) (i : Nat), look (s.map f) i = f (look s i)
  | [], i => by simp [look, hf]
  | x :: r, 0 => by simp [look]
  | x :: r, i + 1 => by simp only [List.map_cons, look]; exact look_map f hf r i
theorem RelH.frz {K : PySem.W.Frag} {W : Wld} {M : Sto} {H : Hp} {k : Nat} {ds : List D} (r : RelH K W M H) (e : M[k]? = some (some ds)) (le : ds.length ≤ sizeLine) : ∃ a vs, W.ad[k]? = some a ∧ Wle W ⟨upd W.G a (.lst vs), W.ad, W.F⟩ ∧ RelH K ⟨upd W.G a (.lst vs), W.ad, W.F⟩ (M.set k none) H ∧ DatR K ⟨upd W.G a (.lst vs), W.ad, W.F⟩ (.lst ds) (.ref a) := by
  obtain ⟨a, vs, e1, e2, e3, e4, e5⟩ := r.own k ds e
  have hk : k < M.length := (List.getElem?_eq_some_iff.mp e).1
  have l : Wle W ⟨upd W.G a (.lst vs), W.ad, W.F⟩ := ⟨fun b u z => by
    show upd W.G a (.lst vs) b = some u
    rw [upd_ne (ne_of_none z e2)]
    exact z, List.prefix_refl _, rfl⟩
  refine ⟨a, vs, e1, l, ⟨fun b u z => ?_, by simp [r.len], r.nd, fun j es z => ?_, fun j b z zb => ?_, r.frm, fun b hb => ?_⟩, ?_⟩
  · have z : upd W.G a (.lst vs) b = some u := z
    by_cases hb : b = a
    · subst hb
      rw [upd_same] at z
      cases z
      exact e3
    · rw [upd_ne hb] at z
      exact r.sub _ _ z
  · have hj : j ≠ k := by
      rintro rfl
      rw [List.getElem?_set_self hk] at z
      cases z
    rw [List.getElem?_set_ne (Ne.symm hj)] at z
    obtain ⟨b, ws, f1, f2, f3, f4, f5⟩ := r.own j es z
    refine ⟨b, ws, f1, ?_, f3, DatL.mono l _ _ f4, f5⟩
    show upd W.G a (.lst vs) b = none
    rw [upd_ne]
    · exact f2
    · rintro rfl
      exact hj (nd_ix r.nd f1 e1)
  · show upd W.G a (.lst vs) b ≠ none
    by_cases hb : b = a
    · subst hb
      rw [upd_same]
      simp
    · rw [upd_ne hb]
      have hj : j ≠ k := by
        rintro rfl
        have zb : W.ad[j]? = some b := zb
        rw [e1] at zb
        cases zb
        exact hb rfl
      rw [List.getElem?_set_ne (Ne.symm hj)] at z
      exact r.dead j b z zb
  · show upd W.G a (.lst vs) b = none
    rw [upd_ne]
    · exact r.dis b hb
    · rintro rfl
      exact hb e5
  · simp only [DatR]
    exact ⟨a, vs, rfl, upd_same, le, DatL.mono l _ _ e4⟩
/-- a list that changed so far and doesn't any more -/
def dFrzS (i : Nat) : DTS := fun D s M => match look s i with
  | some (.own k) => (match M[k]? with
    | some (some ds) => ds.length ≤ sizeLine ∧ D.nx (frzS k ds s) (M.set k none)
    | _ => False)
  | _ => False
theorem mono_FrzS {i} : MonoS (dFrzS i) := fun D D' s M h q => by
  unfold dFrzS at q ⊢
  cases e : look s i with
  | none => simp only [e] at q
  | some d =>
    simp only [e] at q ⊢
    cases d with
    | own k =>
      dsimp only at q ⊢
      cases e2 : M[k]? with
      | none => simp only [e2] at q
      | some o =>
        cases o with
        | none => simp only [e2] at q
        | some ds =>
          simp only [e2] at q ⊢
          exact ⟨q.1, h.nx _ _ q.2⟩
    | _ => exact q
theorem frz_run {i : Nat} {D : Ends} {σ : L2.St} {H : Hp} {t : DTS} (mt : MonoS t) (h : lS X.K X.mg E (dSeq (dFrzS i) t) D σ H) : lS X.K X.mg E t D σ H := by
  obtain ⟨W, s, M, rh, rs, q⟩ := h
  unfold dSeq dFrzS at q
  dsimp only at q
  cases e : look s i with
  | none => simp only [e] at q
  | some d =>
    simp only [e] at q
    cases d with
    | own k =>
      dsimp only at q
      cases e2 : M[k]? with
      | none => simp only [e2] at q
      | some o =>
        cases o with
        | none => simp only [e2] at q
        | some ds =>
          simp only [e2] at q
          obtain ⟨a, vs, e1, l, rh2, dR⟩ := rh.frz e2 q.1
          refine ⟨_, _, _, rh2, ⟨by simp [frzS, rs.len], fun j d z => ?_⟩, mt _ _ _ _ (lD_up l) q.2⟩
          unfold frzS at z
          rw [look_map _ rfl] at z
          cases q2 : look s j with
          | none => rw [q2] at z; cases z
          | some d0 =>
            rw [q2] at z
            obtain ⟨v, f1, f2⟩ := rs.get j d0 q2
            refine ⟨v, f1, ?_⟩
            have keep : ∀ d1, frzO k ds (some d0) = some d1 → (∀ j, d0 ≠ .own j) → d1 = d0 := fun d1 z hn => by
              cases d0 <;> first | exact (Option.some.inj z).symm | exact absurd rfl (hn _)
            cases d0 with
            | own j' =>
              have z : (if j' = k then some (DL.D.lst ds) else some (DL.D.own j')) = some d := z
              by_cases hj : j' = k
              · subst hj
                rw [if_pos rfl] at z
                cases z
                simp only [DatR] at f2
                obtain ⟨b, rfl, f3⟩ := f2
                rw [e1] at f3
                cases f3
                exact dR
              · rw [if_neg hj] at z
                cases z
                exact DatR.mono l _ _ f2
            | _ =>
              rw [keep _ z (by intro j; simp)]
              exact DatR.mono l _ _ f2
    | _ => exact q.elim
theorem dss_frz (i : Nat) {sts : List Stmt} {t : DTS} (h : DSs X E sts t) : DSs X E sts (dSeq (dFrzS i) t) := ⟨pss_w h.run fun _ _ _ z => frz_run h.mono z, mono_Seq mono_FrzS h.mono⟩
end
/-! ### a def keeps its promise -/
section
variable {P : Program} {w : World} {K : PySem.W.Frag} {mg : Str → Option Value} {base : Heap} {x qual : Str} {params : Arguments} {body : List Stmt} {scope : Scope} {f : Addr} {fd : FuncData}
theorem relS_start {W : Wld} {N : List Str} {ds : List D} {vs : List V} (h : DatL K W ds vs) (hl : vs.length ≤ N.length) : RelS K W (dstart N.length ds) (start N vs) := by
  have el : (dstart N.length ds).length = (start N vs).length := by
    unfold dstart L2.start
    simp [h.len]
  refine ⟨el, fun i d e => ?_⟩
  have look_get : ∀ (s : Sl) (i : Nat) (d : D), look s i = some d → s[i]? = some (some d) := by
    intro s
    induction s with
    | nil => intro i d e; simp [look] at e
    | cons o r ih =>
      intro i d e
      cases i with
      | zero => simp [look] at e; simp [e]
      | succ j => simp only [look] at e; simpa using ih j d e
  have e := look_get _ _ _ e
  unfold dstart at e
  have hi : i < ds.length := by
    rcases Nat.lt_or_ge i ds.length with h1 | h1
    · exact h1
    · rw [List.getElem?_append_right (by simpa using h1)] at e
      rw [List.getElem?_replicate] at e
      split at e <;> cases e
  rw [List.getElem?_append_left (by simpa using hi), List.getElem?_map] at e
  cases q : ds[i]? with
  | none => rw [q] at e; cases e
  | some d0 =>
    rw [q] at e
    cases e
    obtain ⟨v, e1, e2⟩ := h.get q
    refine ⟨v, ?_, e2⟩
    unfold L2.start
    rw [List.getElem?_append_left (by simpa [h.len] using hi), List.getElem?_map, e1]
    rfl
/-- THE RULE for a def that lets nothing out -/
theorem dfn {N ps : List Str} {k : Nat} {sp : DSp} {t : DTS} (F : FunD K x qual params body scope [] [] f fd) (S : FnScope N ps scope) (len : ∀ ds M Q E, sp ds M Q E → ds.length = ps.length)
    (hbody : ∀ (cdv : Value) (A : Around) (outer : List Env) (s : Shared) (H : Hp) (E : XK), Room k (A.deeper (envOfC qual scope s.heap.objs.size f cdv)) → DSs ((cxOf CX0 P w K mg base N qual scope f cdv A outer s H E).nox) E0 body t)
    (vc : ∀ ds M Q E, sp ds M Q E → t { nx := fun _ M' => Q .non M', rt := Q, xs := E } (dstart N.length ds) M)
    (nx : ∀ ds M Q E, sp ds M Q E → sp ds M Q fun _ _ => False) : FnOk P w K mg base CX0 (k + 1) f fd ps (lSp K mg sp) := by
  refine F.ok S (fun vs H Q E h => ?_) (fun cdv A outer s H vs Q E hr h => ?_)
  · obtain ⟨W, M, ds, rh, dl, h⟩ := h
    rw [dl.len]
    exact len _ _ _ _ h
  · obtain ⟨W, M, ds, rh, dl, h⟩ := h
    have hb := hbody cdv A outer s H E hr
    refine ⟨_, PSs.nox hb.run, W, dstart N.length ds, M, rh, relS_start dl ?_, hb.mono { nx := fun _ M' => QL K W Q .non M', rt := QL K W Q, xs := fun _ _ => False } _ _ _ ⟨fun s' M' q W' σ' H' l rh' rs' => ?_, fun _ _ z => z, fun _ _ z => False.elim z, fun _ _ z => False.elim z, fun _ _ z => False.elim z⟩ (vc _ _ _ _ (nx _ _ _ _ h))⟩
    · have hp : ps.length ≤ N.length := by
        have := congrArg List.length S.pre
        rw [List.length_take] at this
        omega
      rw [dl.len, len _ _ _ _ h]
      exact hp
    · exact q W' .non H' l rh' (by simp only [DatR])
end
end DL
/-! DLFn: a def's promise where no repr is under way (guards empty), its calls, a law's end (own work). -/
namespace DL
open PySem PySem.Spec PyProof.Rows L2
/-- as the layer's promise of a def, for calls that stand in no repr -/
structure FnG (P : Program) (w : World) (K : PySem.W.Frag) (mg : Str → Option Value) (base : Heap) (CX : CXT) (k : Nat) (f : Addr) (fd : FuncData) (ps : List Str) (sp : Sp) : Prop where
  size : ∀ vs H Q E, sp vs H Q E → vs.length = ps.length
  does : ∀ (A : Around) (outer : List Env) (s : Shared) (H : Hp) (args : Args) (us : List Value) (vs : List V) (Q : VK) (E : XK),
    A.guards = some [] → Room k A → Env0 P w K mg base A outer s H → BindsTo s fd args (ps.zip us) → Vals vs us → sp vs H Q E →
      codeAny (model P w) A (.call (.ref f) args) (CR CX outer P w H s Q E) s
theorem guards_in {A : Around} {env : Env} (h : A.guards = some []) : (A.deeper env).guards = some [] := h
section
variable {X : Cx} {CX : CXT} {k n : Nat} {f : Addr} {fd : FuncData} {ps ks : List Str} {sp : Sp} {E : XK} {x : Str} {p pos : Pos} {e : Expr} {es : List Expr} {kws : List Keyword} {t tk : TA}
  {g : List Value → List Value → List Value} {gV : List V → List V → List V}
theorem FnG.end_ {pins : List (Addr × Obj)} {σ : L2.St} {H : Hp} {s s' : Shared} {Q : VK} {r : Result} (I : Inv X pins σ H s) (hx : Passes CX X E) (hq : CR CX X.stack X.prog X.w H s Q E r s') :
    callEnd (EP X pins σ Q) X.xe r s' := by
  cases r with
  | error z => exact hx pins σ H s z s' I hq
  | ok fl => cases fl with
    | ret u => exact I.after hq
    | _ => exact hq.elim
theorem FnG.call {pins : List (Addr × Obj)} {σ : L2.St} {H : Hp} {s : Shared} {Q : VK} {us : List Value} {vs : List V} (F : FnG X.prog X.w X.K X.mg X.base CX k f fd ps sp) (gd : X.A.guards = some []) (hr : Room k X.A) (hb : Binds X.K fd ps [])
    (hx : Passes CX X E) (I : Inv X pins σ H s) (r : Vals vs us) (h : sp vs H Q E) : wpAny (model X.prog X.w) X.A (PySem.call (.ref f) us) (EP X pins σ Q) X.xe s := by
  have hl : (us ++ []).length = ps.length := by
    rw [List.append_nil, ← r.length]
    exact F.size _ _ _ _ h
  have hb2 := hb s us I.kIn hl
  rw [List.append_nil] at hb2
  exact wpAny_call (codeAny_mono (F.does X.A X.stack s H ⟨us, []⟩ us vs Q E gd hr I.env0 hb2 r h) fun r s' hq => FnG.end_ I hx hq)
theorem FnG.callK {pins : List (Addr × Obj)} {σ : L2.St} {H : Hp} {s : Shared} {Q : VK} {us ws : List Value} {vs zs : List V} (F : FnG X.prog X.w X.K X.mg X.base CX k f fd ps sp) (gd : X.A.guards = some []) (hr : Room k X.A)
    (hb : KBn X.K fd ps n ks g gV) (hx : Passes CX X E) (I : Inv X pins σ H s) (r : Vals vs us) (rz : Vals zs ws) (l1 : vs.length = n) (l2 : zs.length = ks.length) (h : sp (gV vs zs) H Q E) :
    wpAny (model X.prog X.w) X.A (PySem.call (.ref f) us (ks.zip ws)) (EP X pins σ Q) X.xe s := by
  have rr := hb.rel r rz
  have lu : us.length = n := by rw [← r.length]; exact l1
  have lw : ws.length = ks.length := by rw [← rz.length]; exact l2
  exact wpAny_call (codeAny_mono (F.does X.A X.stack s H ⟨us, ks.zip ws⟩ (g us ws) (gV vs zs) Q E gd hr I.env0 (hb.to s us ws I.kIn lu lw) rr h) fun r s' hq => FnG.end_ I hx hq)
theorem pg_call (F : FnG X.prog X.w X.K X.mg X.base CX k f fd ps sp) (gd : X.A.guards = some []) (hr : Room k X.A) (hg : Gl X x) (hm : X.mg x = some (.ref f)) (hk : PySem.W.keepIn X.K (.ref f) = true) (hb : Binds X.K fd ps []) (hx : Passes CX X E)
    (ha : PA X (e :: es) t) (hdb : (x == ("__debug__" : Str)) = false) (he : starEach (e :: es) X.env = (false, eval e X.env) :: starEach es X.env) (hpl : (backTo pos (starEach es X.env)).any (·.1) = false) :
    PE X (.Call (.Name x p) (e :: es) [] pos) (fun σ H Q => t σ H fun vs H1 => sp vs H1 Q E) := by
  constructor
  intro pins s σ H Q I h
  have go : wpAny (model X.prog X.w) X.A (spliced (backTo pos (starEach (e :: es) X.env))) (fun us s1 => X.K.In s1.heap ∧ wpAny (model X.prog X.w) X.A (PySem.call (.ref f) us) (EP X pins σ Q) X.xe s1) X.xe s :=
    thn (ha.run pos pins s σ H _ I h) fun us s1 z => by
      obtain ⟨vs, H1, I1, r, q⟩ := z
      exact ⟨I1.kIn, FnG.call F gd hr hb hx I1 r q⟩
  exact wpAny_Call_Name_kw (ld_glob I hg hm (PySem.W.callWith_K (h₀ := X.base) I.ok.mod.kin hk go he hpl) hdb)
theorem pg_call0 (F : FnG X.prog X.w X.K X.mg X.base CX k f fd ps sp) (gd : X.A.guards = some []) (hr : Room k X.A) (hg : Gl X x) (hm : X.mg x = some (.ref f)) (hk : PySem.W.keepIn X.K (.ref f) = true) (hb : Binds X.K fd ps []) (hx : Passes CX X E)
    (hdb : (x == ("__debug__" : Str)) = false) : PE X (.Call (.Name x p) [] [] pos) (fun σ H Q => sp [] H Q E) := by
  constructor
  intro pins s σ H Q I h
  exact wpAny_Call_Name_kw (ld_glob I hg hm (PySem.W.callWith_K0 I.kIn hk (FnG.call (us := []) F gd hr hb hx I .nil h)) hdb)
theorem pg_callK (F : FnG X.prog X.w X.K X.mg X.base CX k f fd ps sp) (gd : X.A.guards = some []) (hr : Room k X.A) (hg : Gl X x) (hm : X.mg x = some (.ref f)) (hk : PySem.W.keepIn X.K (.ref f) = true) (hb : KBn X.K fd ps n ks g gV) (hx : Passes CX X E)
    (ha : PA X (e :: es) t) (hkw : PK X kws tk) (hall : (backToKw pos (keywordEach kws X.env)).all (·.1.isSome) = true) (hks : (backToKw pos (keywordEach kws X.env)).filterMap (·.1) = ks)
    (hdb : (x == ("__debug__" : Str)) = false) (he : starEach (e :: es) X.env = (false, eval e X.env) :: starEach es X.env)
    (hpl : ((backTo pos (starEach (e :: es) X.env)).any (·.1) || (backToKw pos (keywordEach kws X.env)).any (·.1.isNone)) = false) :
    PE X (.Call (.Name x p) (e :: es) kws pos) (tCallN n ks.length sp gV E t tk) := by
  constructor
  intro pins s σ H Q I h
  refine wpAny_Call_Name_kw (ld_glob I hg hm (PySem.W.callWith_KW (h₀ := X.base) I.ok.mod.kin hk hall (thn (ha.run pos pins s σ H _ I h) ?_) hpl he) hdb)
  intro us s1 z
  obtain ⟨vs, H1, I1, r, q⟩ := z
  refine thn (hkw.run pos pins s1 σ H1 _ I1 q) ?_
  intro ws s2 z
  obtain ⟨zs, H2, I2, rz, l1, l2, q2⟩ := z
  refine ⟨I2.kIn, ?_⟩
  rw [hks]
  exact FnG.callK F gd hr hb hx I2 r rz l1 l2 q2
theorem pg_callK0 (F : FnG X.prog X.w X.K X.mg X.base CX k f fd ps sp) (gd : X.A.guards = some []) (hr : Room k X.A) (hg : Gl X x) (hm : X.mg x = some (.ref f)) (hk : PySem.W.keepIn X.K (.ref f) = true) (hb : KBn X.K fd ps 0 ks g gV) (hx : Passes CX X E)
    (hkw : PK X kws tk) (hall : (backToKw pos (keywordEach kws X.env)).all (·.1.isSome) = true) (hks : (backToKw pos (keywordEach kws X.env)).filterMap (·.1) = ks)
    (hdb : (x == ("__debug__" : Str)) = false) (hpl : ((backTo pos (starEach [] X.env)).any (·.1) || (backToKw pos (keywordEach kws X.env)).any (·.1.isNone)) = false) :
    PE X (.Call (.Name x p) [] kws pos) (tCallN 0 ks.length sp gV E tNil tk) := by
  constructor
  intro pins s σ H Q I h
  refine wpAny_Call_Name_kw (ld_glob I hg hm (PySem.W.callWith_KW0 (h₀ := X.base) I.ok.mod.kin hk hall (thn (hkw.run pos pins s σ H _ I h) ?_) hpl) hdb)
  intro ws s2 z
  obtain ⟨zs, H2, I2, rz, l1, l2, q2⟩ := z
  refine ⟨I2.kIn, ?_⟩
  rw [hks]
  exact FnG.callK F gd hr hb hx I2 .nil rz rfl l2 q2
end
/-! ### over data -/
section
variable {X : Cx} {E : XK} {CX : CXT} {k n m : Nat} {f : Addr} {fd : FuncData} {ps ks : List Str} {sp : DSp} {x : Str} {p pos : Pos} {e : Expr} {es : List Expr} {kws : List Keyword} {t tk : DTA}
  {g : List Value → List Value → List Value} {gV : List V → List V → List V} {gD : List D → List D → List D}
theorem dg_call (F : FnG X.prog X.w X.K X.mg X.base CX k f fd ps (lSp X.K X.mg sp)) (ms : MonoSp sp) (gd : X.A.guards = some []) (hr : Room k X.A) (hg : Gl X x) (hm : X.mg x = some (.ref f)) (hk : PySem.W.keepIn X.K (.ref f) = true) (hb : Binds X.K fd ps []) (hx : Passes CX X E)
    (ha : DA X E (e :: es) t) (hdb : (x == ("__debug__" : Str)) = false := by decide) (he : starEach (e :: es) X.env = (false, eval e X.env) :: starEach es X.env := by rfl) (hpl : (backTo pos (starEach es X.env)).any (·.1) = false := by rfl) :
    DE X E (.Call (.Name x p) (e :: es) [] pos) (dCall sp t) where
  run := pe_w (pg_call F gd hr hg hm hk hb hx ha.run hdb he hpl) fun σ H Q h => by
    obtain ⟨W, s, M, rh, rs, q⟩ := h
    refine ⟨W, s, M, rh, rs, ha.mono _ _ _ _ _ _ ?_ (fun _ _ z => z) q⟩
    intro xs M1 h1 W1 vs H1 l1 rh1 d1
    exact ⟨W1, M1, xs, rh1, d1, ms _ _ _ _ _ _ (fun d M1 z => z.up l1) (fun _ _ z => z.up l1) h1⟩
  mono := mono_Call ms ha.mono
theorem dg_call0 (F : FnG X.prog X.w X.K X.mg X.base CX k f fd ps (lSp X.K X.mg sp)) (ms : MonoSp sp) (gd : X.A.guards = some []) (hr : Room k X.A) (hg : Gl X x) (hm : X.mg x = some (.ref f)) (hk : PySem.W.keepIn X.K (.ref f) = true) (hb : Binds X.K fd ps []) (hx : Passes CX X E)
    (hdb : (x == ("__debug__" : Str)) = false := by decide) : DE X E (.Call (.Name x p) [] [] pos) (dCall sp dNil) where
  run := pe_w (pg_call0 F gd hr hg hm hk hb hx hdb) fun σ H Q h => by
    obtain ⟨W, s, M, rh, rs, q⟩ := h
    exact ⟨W, M, [], rh, .nil, q⟩
  mono := mono_Call ms mono_Nil
theorem dg_callK (F : FnG X.prog X.w X.K X.mg X.base CX k f fd ps (lSp X.K X.mg sp)) (ms : MonoSp sp) (gd : X.A.guards = some []) (hr : Room k X.A) (hg : Gl X x) (hm : X.mg x = some (.ref f)) (hk : PySem.W.keepIn X.K (.ref f) = true) (hb : KBn X.K fd ps n ks g gV) (pg : Puts g gV gD) (hx : Passes CX X E)
    (ha : DA X E (e :: es) t) (hkw : DKw X E kws tk) (hl : ks.length = m := by rfl) (hall : (backToKw pos (keywordEach kws X.env)).all (·.1.isSome) = true := by rfl) (hks : (backToKw pos (keywordEach kws X.env)).filterMap (·.1) = ks := by rfl)
    (hdb : (x == ("__debug__" : Str)) = false := by decide) (he : starEach (e :: es) X.env = (false, eval e X.env) :: starEach es X.env := by rfl)
    (hpl : ((backTo pos (starEach (e :: es) X.env)).any (·.1) || (backToKw pos (keywordEach kws X.env)).any (·.1.isNone)) = false := by rfl) :
    DE X E (.Call (.Name x p) (e :: es) kws pos) (dCallK n m sp gD t tk) where
  run := by
    subst hl
    exact pe_w (pg_callK F gd hr hg hm hk hb hx ha.run hkw.run hall hks hdb he hpl) fun _ _ _ h => callN_run pg ms ha.mono hkw.mono h
  mono := mono_CallK ms ha.mono hkw.mono
theorem dg_callK0 (F : FnG X.prog X.w X.K X.mg X.base CX k f fd ps (lSp X.K X.mg sp)) (ms : MonoSp sp) (gd : X.A.guards = some []) (hr : Room k X.A) (hg : Gl X x) (hm : X.mg x = some (.ref f)) (hk : PySem.W.keepIn X.K (.ref f) = true) (hb : KBn X.K fd ps 0 ks g gV) (pg : Puts g gV gD) (hx : Passes CX X E)
    (hkw : DKw X E kws tk) (hl : ks.length = m := by rfl) (hall : (backToKw pos (keywordEach kws X.env)).all (·.1.isSome) = true := by rfl) (hks : (backToKw pos (keywordEach kws X.env)).filterMap (·.1) = ks := by rfl)
    (hdb : (x == ("__debug__" : Str)) = false := by decide)
    (hpl : ((backTo pos (starEach [] X.env)).any (·.1) || (backToKw pos (keywordEach kws X.env)).any (·.1.isNone)) = false := by rfl) :
    DE X E (.Call (.Name x p) [] kws pos) (dCallK 0 m sp gD dNil tk) where
  run := by
    subst hl
    exact pe_w (pg_callK0 F gd hr hg hm hk hb hx hkw.run hall hks hdb hpl) fun σ H Q h => by
      obtain ⟨W, s, M, rh, rs, q⟩ := callN_run (X := X) (E := E) (Q := Q) pg ms mono_Nil hkw.mono h
      exact q W [] H (Wle.refl W) rh .nil
  mono := mono_CallK ms mono_Nil hkw.mono
end
/-! ### a def keeps its promise -/
section
variable {P : Program} {w : World} {K : PySem.W.Frag} {mg : Str → Option Value} {base : Heap} {x qual : Str} {params : Arguments} {body : List Stmt} {scope : Scope} {f : Addr} {fd : FuncData}
theorem FunD.okG {CX : CXT} {dvs : List V} {kws : List (Str × V)} {N ps : List Str} {k : Nat} {sp : Sp} (F : FunD K x qual params body scope dvs kws f fd) (S : FnScope N ps scope) (len : ∀ vs H Q E, sp vs H Q E → vs.length = ps.length)
    (hbody : ∀ (cdv : Value) (A : Around) (outer : List Env) (s : Shared) (H : Hp) (vs : List V) (Q : VK) (E : XK), A.guards = some [] → Room k (A.deeper (envOfC qual scope s.heap.objs.size f cdv)) → sp vs H Q E →
      ∃ t, PSs (cxOf CX P w K mg base N qual scope f cdv A outer s H E) body t ∧ t { nx := fun _ H' => Q .non H', rt := Q } (L2.start N vs) H) : FnG P w K mg base CX (k + 1) f fd ps sp := by
  obtain ⟨oc, od, dV, kV, doc, pm, an, cdv, ct, osl, rfl, lk, hcd, _, _⟩ := F.ex
  constructor
  · exact len
  · intro A outer s H args us vs Q E gd hr e0 hb r hsp
    have keep : ∀ b o, base.get? b = some o → s.heap.get? b = some o := fun b o z => (e0.bs b o z).1
    have KX : K.In s.heap := e0.mod.kin.keeps keep
    have names : ∀ y ∈ ps.zip us, scope.names.lookup y.1 = some .local ∨ (scope.names.lookup y.1 = some .cell ∧ ((cellsFrom (s.heap.objs.size + 1) scope.names []).lookup y.1).isSome = true) := by
      intro y hy
      rcases S.par y.1 (List.of_mem_zip (show (y.1, y.2) ∈ ps.zip us from hy)).1 with q | q
      · exact Or.inl q
      · exact Or.inr ⟨q, PySem.W.cellsFrom_some _ _ _ (Or.inl q)⟩
    have enter := hb (model P w) A
    refine codeAny_call_function hr.depth (KX _ _ lk) rfl S.co S.gen rfl (PySem.W.codeRec_of KX hcd) (hb _ _ _ _ (wpAny_newFunctionEnv_cells S.kind names ?_))
    intro env he s1 x1
    subst he
    refine ⟨(e0.mod.nolimit.keeps keep).keeps x1.toInCall.keep, codeAny_func ?_⟩
    obtain ⟨t, ht, hq⟩ := hbody cdv A outer s H vs Q E gd (hr.deeper _) hsp
    have I := inv_start (CX := CX) (E := E) (cd := cdv) S hr.hd e0 (len _ _ _ _ hsp) r x1
    refine wpAny_mono (ht.run [] s1 _ H _ I hq) ?_ fun e s' z => z
    intro fl s' z
    cases fl with
    | ret u =>
      obtain ⟨v, σ', H', J, rv, q⟩ := z
      exact ⟨v, H', J.os, J.bare, J.base, J.hok, rv, q⟩
    | next =>
      obtain ⟨σ', H', J, q⟩ := z
      exact ⟨.non, H', J.os, J.bare, J.base, J.hok, rfl, q⟩
    | brk =>
      obtain ⟨_, _, _, q⟩ := z
      exact q.elim
    | cont =>
      obtain ⟨_, _, _, q⟩ := z
      exact q.elim
/-- THE RULE for a def that lets nothing out -/
theorem dfnG {N ps : List Str} {k : Nat} {sp : DSp} {t : DTS} (F : FunD K x qual params body scope [] [] f fd) (S : FnScope N ps scope) (len : ∀ ds M Q E, sp ds M Q E → ds.length = ps.length)
    (hbody : ∀ (cdv : Value) (A : Around) (outer : List Env) (s : Shared) (H : Hp) (E : XK), A.guards = some [] → Room k (A.deeper (envOfC qual scope s.heap.objs.size f cdv)) → DSs ((cxOf CX0 P w K mg base N qual scope f cdv A outer s H E).nox) E0 body t)
    (vc : ∀ ds M Q E, sp ds M Q E → t { nx := fun _ M' => Q .non M', rt := Q, xs := E } (dstart N.length ds) M)
    (nx : ∀ ds M Q E, sp ds M Q E → sp ds M Q fun _ _ => False) : FnG P w K mg base CX0 (k + 1) f fd ps (lSp K mg sp) := by
  refine FunD.okG F S (fun vs H Q E h => ?_) (fun cdv A outer s H vs Q E gd hr h => ?_)
  · obtain ⟨W, M, ds, rh, dl, h⟩ := h
    rw [dl.len]
    exact len _ _ _ _ h
  · obtain ⟨W, M, ds, rh, dl, h⟩ := h
    have hb := hbody cdv A outer s H E gd hr
    have hp : ps.length ≤ N.length := by
      have z := congrArg List.length S.pre
      rw [List.length_take] at z
      omega
    have hl : vs.length ≤ N.length := by
      rw [dl.len, len _ _ _ _ h]
      exact hp
    refine ⟨_, PSs.nox hb.run, W, dstart N.length ds, M, rh, relS_start dl hl, ?_⟩
    refine hb.mono { nx := fun _ M' => QL K W Q .non M', rt := QL K W Q, xs := fun _ _ => False } _ _ _ ?_ (vc _ _ _ _ (nx _ _ _ _ h))
    exact ⟨fun s' M' q W' σ' H' l rh' rs' => q W' .non H' l rh' (by simp only [DatR]), fun _ _ z => z, fun _ _ z => False.elim z, fun _ _ z => False.elim z, fun _ _ z => False.elim z⟩
end
/-! ### a law's end -/
theorem lawG {P : Program} {w : World} {K : PySem.W.Frag} {mg mb : Str → Option Value} {k : Nat} {fa a : Addr} {fd : FuncData} {x : Str} {sp : Sp} {s₁ : Shared} {vs : List Value} {ns : List Int}
    (KX : K.In s₁.heap) (hns : s₁.heap.Ns mainGlobals mg) (hb : s₁.heap.Ns builtinsNs mb) (hbb : ∀ x : Str, x ≠ "__name__" → mb x = bootBuiltins x) (hlim : s₁.heap.NoLimit) (hg : s₁.gens = #[])
    (ha : s₁.heap.get? a = some { cls := .type "list", data := .seq vs.toArray }) (hi : IntsAre vs ns) (hl : ns.length ≤ sizeLine) (hr : Room k callerA)
    (F : ∀ base : Heap, K.In base → base.Ns mainGlobals mg → FnG P w K mg base CX0 k fa fd [x] sp) (hbind : ∀ (s : Shared) (u : Value), BindsTo s fd ⟨[u], []⟩ [(x, u)])
    (hsp : ∀ H : Hp, SqL K H a (ns.map V.int) → sp [.ref a] H (fun v _ => v = .bl true) fun _ _ _ => False) :
    codeAny (model P w) callerA (.call (.ref fa) ⟨[.ref a], []⟩) (fun r s' => r = .ok (.ret (.bool true)) ∧ OldK s₁.heap s'.heap ∧ s'.os = s₁.os ∧ AllBare s'.gens) s₁ := by
  have rv : Vals (ns.map V.int) vs := vals_of_ints hi
  have lenV : vs.length = ns.length := by
    have z := rv.length
    rw [List.length_map] at z
    exact z.symm
  have main : ∀ H : Hp, (∀ b, H b = none ∨ ∃ o xs, H b = some (.frz o (.lst xs))) → SqL K H a (ns.map V.int) → HOk P w H s₁.heap → (∀ b, H b ≠ none → b = a) → (H a ≠ none → K.lookup a = none) →
      codeAny (model P w) callerA (.call (.ref fa) ⟨[.ref a], []⟩) (fun r s' => r = .ok (.ret (.bool true)) ∧ OldK s₁.heap s'.heap ∧ s'.os = s₁.os ∧ AllBare s'.gens) s₁ := by
    intro H only hS hok only1 hK
    have dictFree : ∀ {b : Addr} {o : Obj} {es : Array DictEntry} {ep : Nat}, s₁.heap.get? b = some o → o.data = .dict es ep → H b = none := by
      intro b o es ep e d
      cases q : H b with
      | none => rfl
      | some u =>
        exfalso
        have hb1 : b = a := only1 b (by simp [q])
        rw [hb1, ha] at e
        have e2 := Option.some.inj e
        rw [← e2] at d
        cases d
    have ns2 : ∀ {b : Addr} {m : Str → Option Value}, s₁.heap.Ns b m → (hidT s₁.heap H).Ns b m := by
      intro b m z
      obtain ⟨o, es, ep, e, d, r⟩ := z
      exact ⟨o, es, ep, hidT_get e (dictFree e d), d, r⟩
    have K2 : K.In (hidT s₁.heap H) := by
      intro b o e
      refine hidT_get (KX b o e) ?_
      cases q : H b with
      | none => rfl
      | some u =>
        exfalso
        have hb1 : b = a := only1 b (by simp [q])
        rw [hb1] at q e
        rw [hK (by simp [q])] at e
        cases e
    have md : Mod K mg (hidT s₁.heap H) := by
      obtain ⟨mc, h1, h2⟩ := hlim
      exact ⟨K2, ns2 hns, ⟨mb, ns2 hb, hbb⟩, ⟨mc, ns2 h1, h2⟩⟩
    have env : Env0 P w K mg (hidT s₁.heap H) callerA [] s₁ H := by
      refine ⟨rfl, md, fun b o e => of_hidT e, Nat.le_of_eq (hidT_size _ _), trivial, ?_, hok, .of_eq hg⟩
      intro b hb
      simp [frs] at hb
    have go := (F _ K2 (ns2 hns)).does callerA [] s₁ H ⟨[.ref a], []⟩ [.ref a] [.ref a] _ _ rfl hr env (hbind s₁ (.ref a)) (.cons rfl .nil) (hsp H hS)
    refine codeAny_mono go ?_
    intro r s' z
    cases r with
    | error e => exact z.elim
    | ok fl => cases fl with
      | ret u =>
        obtain ⟨v, H', os, bare, un, hok', r', q⟩ := z
        have q : v = .bl true := q
        rw [q] at r'
        have r' : u = Value.bool true := r'
        rw [r']
        refine ⟨rfl, OldK.of_keep ?_, os, bare⟩
        intro b o e
        rcases only b with n | ⟨ob, xs, y⟩
        · exact un.keep b o e n (by simp [frs]) (by simp)
        · have y2 := un.frzs b ob _ y
          have e1 := (hok b _ y).1
          have e2 := (hok' b _ y2).1
          rw [e] at e1
          cases e1
          exact e2
      | _ => exact z.elim
  cases hk : K.lookup a with
  | some o =>
    have e := KX a o hk
    rw [ha] at e
    have e := (Option.some.inj e).symm
    refine main (fun _ => none) (fun _ => Or.inl rfl) (Or.inr ⟨o, vs.toArray, _, hk, by rw [e], by rw [e], by rw [e], by rw [List.size_toArray, lenV]; exact hl, by simpa using rv⟩) ?_ ?_ ?_
    · intro b u z
      cases z
    · intro b z
      exact absurd rfl z
    · intro z
      exact absurd rfl z
  | none =>
    refine main (fun b => if b = a then some (.frz { cls := .type "list", data := .seq vs.toArray } (.lst (ns.map V.int))) else none) ?_ (Or.inl (Or.inr ⟨_, if_pos rfl⟩)) ?_ ?_ fun _ => hk
    · intro b
      by_cases h : b = a
      · exact Or.inr ⟨_, _, if_pos h⟩
      · exact Or.inl (if_neg h)
    · intro b u z
      dsimp only at z
      by_cases h : b = a
      · rw [if_pos h] at z
        cases z
        rw [h]
        exact ⟨ha, by rw [List.length_map]; exact hl, vs, _, rv, ha⟩
      · rw [if_neg h] at z
        cases z
    · intro b z
      by_cases h : b = a
      · exact h
      · exact absurd (if_neg h) z
theorem walkG {l : PySem.W.OpenLaw} {n k : Nat} {q : Program} {loose : List Str} {XP : (Str → Option Value) → Heap → Prop} {YP : World → Heap → Prop} {d : DefRec} {x : Str}
    (hn : l.most = some n) (hn2 : n ≤ sizeLine) (hdf : d.params.defaults = []) (hr : Room k callerA)
    (F : ∀ (w : World) (mg : Str → Option Value) (fa : Addr) (h : Heap), YP w h → h.Ns mainGlobals mg → mg d.name = some (.ref fa) →
      ∃ (K : PySem.W.Frag) (fd : FuncData) (sp : Sp), K.In h ∧ (∀ (s : Shared) (u : Value), BindsTo s fd ⟨[u], []⟩ [(x, u)]) ∧
        (∀ (H : Hp) (a : Addr) (ns : List Int), ns.length ≤ n → SqL K H a (ns.map V.int) → sp [.ref a] H (fun v _ => v = .bl true) fun _ _ _ => False) ∧
        ∀ base : Heap, K.In base → base.Ns mainGlobals mg → FnG l.prog w K mg base CX0 k fa fd [x] sp) :
    PySem.W.WalkO q loose XP YP l.row.toRowW d [] (fun f vs => PySem.call f vs) := by
  refine Att.attach_call hn hdf ?_
  intro w s₀ s₁ mg mb fa o pm cd doc a vs ns G Y ho hd hcd hmg hobj hints hlen hg
  obtain ⟨K, fd, sp, KX, hb, hsp, hF⟩ := F w mg fa _ Y G.T.g hmg
  exact lawG KX G.T.g G.T.b G.T.builtins G.T.nolimit hg hobj hints (Nat.le_trans hlen hn2) hr hF hb fun H hS => hsp H a ns hlen hS
end DL
/-! DLOps: operations on data and what the layer's rules make of them (own work). -/
namespace DL
open PySem PySem.Spec PyProof.Rows L2
/-! ### the operations -/
def fAdd : Sto → D → D → Res
  | _, .int i, .int j => .ok (.int (i + j))
  | _, .str a, .str b => .side (a.length + b.length ≤ sizeLine) (.str (a ++ b))
  | _, .tup a, .tup b => .side (a ≠ [] ∧ a.length + b.length ≤ sizeLine) (.tup (a ++ b))
  | _, .lst a, .lst b => .side (a.length + b.length ≤ sizeLine) (.lst (a ++ b))
  | _, _, _ => .no
def fSub : Sto → D → D → Res
  | _, .int i, .int j => .ok (.int (i - j))
  | _, _, _ => .no
/-- both below 2 ^ 60,000,000 -/
def sz (i : Int) : Prop := (Builtin.Int.intBits i : Int) ≤ 67108864
def fMul : Sto → D → D → Res
  | _, .int i, .int j => .side (sz i ∧ sz j) (.int (i * j))
  | _, .lst a, .int k => .side (k < 2 ^ 63 ∧ -(2 ^ 63) ≤ k ∧ a.length * k.toNat ≤ sizeLine) (.lst (List.replicate k.toNat a).flatten)
  | _, _, _ => .no
def cDiv (j : Int) : Prop := j ≠ 0 ∧ j.natAbs.log2 < 9000
def fDiv : Sto → D → D → Res
  | _, .int i, .int j => .side (cDiv j) (.int (i.fdiv j))
  | _, _, _ => .no
def fMod : Sto → D → D → Res
  | _, .int i, .int j => .side (j ≠ 0) (.int (i.fmod j))
  | _, _, _ => .no
def fPow : Sto → D → D → Res
  | _, .int i, .int j => .side (0 ≤ j ∧ j ≤ 1000000 ∧ i.natAbs < 2 ^ 64) (.int (i ^ j.toNat))
  | _, _, _ => .no
def fLt : Sto → D → D → Res
  | _, .int i, .int j => .ok (.bl (decide (i < j)))
  | _, _, _ => .no
def fLe : Sto → D → D → Res
  | _, .int i, .int j => .ok (.bl (decide (i ≤ j)))
  | _, _, _ => .no
def fGt : Sto → D → D → Res
  | _, .int i, .int j => .ok (.bl (decide (j < i)))
  | _, _, _ => .no
def fGe : Sto → D → D → Res
  | _, .int i, .int j => .ok (.bl (decide (j ≤ i)))
  | _, _, _ => .no
def fNeg : Sto → D → Res
  | _, .int i => .ok (.int (-i))
  | _, _ => .no
def fIsN : Sto → D → D → Res
  | _, .non, .non => .ok (.bl true)
  | _, _, .non => .ok (.bl false)
  | _, _, _ => .no
def fNotN : Sto → D → D → Res
  | _, .non, .non => .ok (.bl false)
  | _, _, .non => .ok (.bl true)
  | _, _, _ => .no
/-! ### data without lists that may change: as the library's data -/
mutual
def toPy : D → PyData
  | .non => .none
  | .bl b => .bool b
  | .int i => .int i
  | .str x => .str x
  | .ty _ => .none
  | .tup xs => .tuple (toPyL xs)
  | .lst xs => .list (toPyL xs)
  | .wl xs => .list (toPyL xs)
  | .emp => .none
  | .own _ => .none
def toPyL : List D → List PyData
  | [] => []
  | x :: r => toPy x :: toPyL r
end
mutual
/-- texts of written signs, no list that may change, no type, no dict -/
def plain : D → Bool
  | .non | .bl _ | .int _ => true
  | .str x => PyData.strOk x
  | .tup xs | .lst xs => plainL xs
  | _ => false
def plainL : List D → Bool
  | [] => true
  | x :: r => plain x && plainL r
end
mutual
def deqv : D → D → Bool
  | .non, .non => true
  | .bl a, .bl b => a == b
  | .bl a, .int j => (if a then 1 else 0) == j
  | .int i, .bl b => i == (if b then 1 else 0)
  | .int i, .int j => i == j
  | .str x, .str y => x == y
  | .lst xs, .lst ys => deqvL xs ys
  | .tup xs, .tup ys => deqvL xs ys
  | _, _ => false
def deqvL : List D → List D → Bool
  | [], [] => true
  | x :: xs, y :: ys => deqv x y && deqvL xs ys
  | _, _ => false
end
mutual
def deep : D → Nat
  | .tup xs | .lst xs | .wl xs => deepL xs + 1
  | _ => 0
def deepL : List D → Nat
  | [] => 0
  | x :: r => max (deep x) (deepL r)
end
/-- comparable by == -/
def shp (d : D) : Bool := plain d && decide (deep d ≤ 60)
/-- a list that may change stands for its items -/
def res (M : Sto) : D → D
  | .own k => (match M[k]? with
    | some (some ds) => .lst ds
    | _ => .own k)
  | d => d
/-- two ints, two texts, two truth values -/
def scD : D → D → Option Bool
  | .int i, .int j => some (decide (i = j))
  | .str i, .str j => some (decide (i = j))
  | .bl i, .bl j => some (decide (i = j))
  | _, _ => none
def fEq : Sto → D → D → Res := fun M x y => match scD x y with
  | some b => .ok (.bl b)
  | none => .side (shp (res M x) = true ∧ shp (res M y) = true) (.bl (deqv (res M x) (res M y)))
def fNe : Sto → D → D → Res := fun M x y => match scD x y with
  | some b => .ok (.bl (!b))
  | none => .side (shp (res M x) = true ∧ shp (res M y) = true) (.bl (!deqv (res M x) (res M y)))
theorem toPyL_eq : ∀ xs, toPyL xs = xs.map toPy
  | [] => by simp [toPyL]
  | x :: r => by simp [toPyL, toPyL_eq r]
mutual
theorem deqv_eq : ∀ a b : D, plain a = true → plain b = true → deqv a b = PyData.eqv (toPy a) (toPy b)
  | .tup xs, b, ha, hb => by
    cases b with
    | tup ys => simp only [deqv, toPy, PyData.eqv]; exact deqvL_eq xs ys (by simpa [plain] using ha) (by simpa [plain] using hb)
    | _ => first | (simp [plain] at hb; done) | simp [deqv, toPy, PyData.eqv]
  | .lst xs, b, ha, hb => by
    cases b with
    | lst ys => simp only [deqv, toPy, PyData.eqv]; exact deqvL_eq xs ys (by simpa [plain] using ha) (by simpa [plain] using hb)
    | _ => first | (simp [plain] at hb; done) | simp [deqv, toPy, PyData.eqv]
  | .non, b, ha, hb => by cases b <;> first | (simp [plain] at hb; done) | simp [deqv, toPy, PyData.eqv]
  | .bl _, b, ha, hb => by cases b <;> first | (simp [plain] at hb; done) | simp [deqv, toPy, PyData.eqv]
  | .int _, b, ha, hb => by cases b <;> first | (simp [plain] at hb; done) | simp [deqv, toPy, PyData.eqv]
  | .str _, b, ha, hb => by cases b <;> first | (simp [plain] at hb; done) | simp [deqv, toPy, PyData.eqv]
  | .ty _, b, ha, hb => by simp [plain] at ha
  | .wl _, b, ha, hb => by simp [plain] at ha
  | .emp, b, ha, hb => by simp [plain] at ha
  | .own _, b, ha, hb => by simp [plain] at ha
theorem deqvL_eq : ∀ xs ys : List D, plainL xs = true → plainL ys = true → deqvL xs ys = PyData.eqvAll (toPyL xs) (toPyL ys)
  | [], [], _, _ => by simp [deqvL, toPyL, PyData.eqvAll]
  | [], _ :: _, _, _ => by simp [deqvL, toPyL, PyData.eqvAll]
  | _ :: _, [], _, _ => by simp [deqvL, toPyL, PyData.eqvAll]
  | x :: xs, y :: ys, ha, hb => by
    simp only [plainL, Bool.and_eq_true] at ha hb
    simp only [deqvL, toPyL, PyData.eqvAll]
    rw [deqv_eq x y ha.1 hb.1, deqvL_eq xs ys ha.2 hb.2]
end
mutual
theorem depth_toPy : ∀ d, PyData.depth (toPy d) ≤ deep d
  | .tup xs => by simp only [toPy, PyData.depth, deep]; have := depth_toPyL xs; omega
  | .lst xs => by simp only [toPy, PyData.depth, deep]; have := depth_toPyL xs; omega
  | .wl xs => by simp only [toPy, PyData.depth, deep]; have := depth_toPyL xs; omega
  | .non => by simp [toPy, PyData.depth]
  | .bl _ => by simp [toPy, PyData.depth]
  | .int _ => by simp [toPy, PyData.depth]
  | .str _ => by simp [toPy, PyData.depth]
  | .ty _ => by simp [toPy, PyData.depth]
  | .emp => by simp [toPy, PyData.depth]
  | .own _ => by simp [toPy, PyData.depth]
theorem depth_toPyL : ∀ ds, PyData.depthAll (toPyL ds) ≤ deepL ds
  | [] => by simp [toPyL, PyData.depthAll]
  | x :: r => by
    simp only [toPyL, PyData.depthAll, deepL]
    have h1 := depth_toPy x
    have h2 := depth_toPyL r
    omega
end
mutual
theorem can_toPy : ∀ d, plain d = true → PyData.canLay0 (toPy d) = true
  | .tup xs, h => by simp only [toPy, PyData.canLay0]; exact can_toPyL xs (by simpa [plain] using h)
  | .lst xs, h => by simp only [toPy, PyData.canLay0]; exact can_toPyL xs (by simpa [plain] using h)
  | .wl xs, h => by simp [plain] at h
  | .non, h => by simp [toPy, PyData.canLay0]
  | .bl _, h => by simp [toPy, PyData.canLay0]
  | .int _, h => by simp [toPy, PyData.canLay0]
  | .str _, h => by simpa [toPy, PyData.canLay0, plain] using h
  | .ty _, h => by simp [plain] at h
  | .emp, h => by simp [plain] at h
  | .own _, h => by simp [plain] at h
theorem can_toPyL : ∀ ds, plainL ds = true → PyData.canLayAll0 (toPyL ds) = true
  | [], _ => by simp [toPyL, PyData.canLayAll0]
  | x :: r, h => by
    simp only [plainL, Bool.and_eq_true] at h
    simp only [toPyL, PyData.canLayAll0, can_toPy x h.1, can_toPyL r h.2, Bool.and_self]
end
theorem shaped_of {d : D} (h : shp d = true) : SeqAt.shaped (toPy d) = true := by
  unfold shp at h
  rw [Bool.and_eq_true] at h
  have h2 := of_decide_eq_true h.2
  unfold SeqAt.shaped
  rw [can_toPy d h.1, Bool.true_and]
  exact decide_eq_true (Nat.le_trans (depth_toPy d) (by omega))
section
variable {K : PySem.W.Frag} {W : Wld} {M : Sto} {H : Hp}
mutual
theorem dp_of (hs : Same W.G H) : ∀ (d : D) (v : V), plain d = true → DatR K W d v → Dp K H v (toPy d)
  | .non, v, _, h => by simp only [DatR] at h; rw [h]; exact .non
  | .bl b, v, _, h => by simp only [DatR] at h; rw [h]; exact .bl b
  | .int b, v, _, h => by simp only [DatR] at h; rw [h]; exact .int b
  | .str b, v, _, h => by simp only [DatR] at h; rw [h]; exact .str b
  | .tup xs, v, p, h => by
    simp only [DatR] at h
    obtain ⟨a, vs, rfl, h1, _, h3⟩ := h
    simp only [toPy]
    exact .tup (Same.seqT hs h1) (dpL_of hs xs vs (by simpa [plain] using p) h3)
  | .lst xs, v, p, h => by
    simp only [DatR] at h
    obtain ⟨a, vs, rfl, h1, _, h3⟩ := h
    simp only [toPy]
    exact .lst (.inl (.inl (hs _ _ h1))) (dpL_of hs xs vs (by simpa [plain] using p) h3)
  | .ty _, v, p, h => by simp [plain] at p
  | .wl _, v, p, h => by simp [plain] at p
  | .emp, v, p, h => by simp [plain] at p
  | .own _, v, p, h => by simp [plain] at p
theorem dpL_of (hs : Same W.G H) : ∀ (ds : List D) (vs : List V), plainL ds = true → DatL K W ds vs → DpAll K H vs (toPyL ds)
  | [], vs, _, h => by rw [DatL.inv0 h]; simp only [toPyL]; exact .nil
  | d :: ds, vs, p, h => by
    obtain ⟨v, r, rfl, h1, h2⟩ := DatL.inv h
    simp only [plainL, Bool.and_eq_true] at p
    simp only [toPyL]
    exact .cons (dp_of hs d v p.1 h1) (dpL_of hs ds r p.2 h2)
end
/-- a resolved thing, read in the heap -/
theorem dp_res (r : RelH K W M H) {d : D} {v : V} (p : plain (res M d) = true) (h : DatR K W d v) : Dp K H v (toPy (res M d)) := by
  cases d with
  | own k =>
    simp only [res] at p ⊢
    cases e : M[k]? with
    | none => rw [e] at p; simp [plain] at p
    | some o =>
      rw [e] at p
      cases o with
      | none => simp [plain] at p
      | some ds =>
        simp only [DatR] at h
        obtain ⟨a, rfl, ea⟩ := h
        obtain ⟨b, vs, e1, _, e3, e4, _⟩ := r.own k ds e
        rw [ea] at e1
        cases e1
        simp only [toPy]
        exact .lst (.inl (.inl e3)) (dpL_of r.sub ds vs (by simpa [plain] using p) e4)
  | _ => exact dp_of r.sub _ _ p h
end
/-! ### what the layer's rules make of them -/
section
variable {K : PySem.W.Frag}
theorem has_ok {d e : D} (h : (Res.ok e).Has d) : d = e := by
  rcases h with h | ⟨C, _, h⟩ <;> cases h
  rfl
theorem has_side {C : Prop} {d e : D} (h : (Res.side C e).Has d) : C ∧ d = e := by
  rcases h with h | ⟨C', c, h⟩ <;> cases h
  exact ⟨c, rfl⟩
theorem has_no {d : D} (h : Res.no.Has d) : False := by
  rcases h with h | ⟨C', c, h⟩ <;> cases h
theorem ql_self {W : Wld} {M : Sto} {H : Hp} {d : D} {v : V} {Q : VK} (q : QL K W Q d M) (r : RelH K W M H) (h : DatR K W d v) : Q v H := q W v H (Wle.refl W) r h
theorem dat_int {W : Wld} {i : Int} {v : V} (h : DatR K W (.int i) v) : v = .int i := by simpa only [DatR] using h
theorem dat_bl {W : Wld} {i : Bool} {v : V} (h : DatR K W (.bl i) v) : v = .bl i := by simpa only [DatR] using h
theorem dat_str {W : Wld} {i : Str} {v : V} (h : DatR K W (.str i) v) : v = .str i := by simpa only [DatR] using h
theorem dat_non {W : Wld} {v : V} (h : DatR K W .non v) : v = .non := by simpa only [DatR] using h
theorem datI {W : Wld} {i : Int} : DatR K W (.int i) (.int i) := by simp only [DatR]
theorem datB {W : Wld} {i : Bool} : DatR K W (.bl i) (.bl i) := by simp only [DatR]
theorem datS {W : Wld} {i : Str} : DatR K W (.str i) (.str i) := by simp only [DatR]
/-- a new tuple, a new list -/
theorem ql_tup {W : Wld} {M : Sto} {H : Hp} {ds : List D} {vs : List V} {Q : VK} (q : QL K W Q (.tup ds) M) (r : RelH K W M H) (h : DatL K W ds vs) (z : ds.length ≤ sizeLine) {p : Addr} (np : H p = none) : Q (.ref p) (upd H p (.tup vs)) := by
  obtain ⟨l, r2⟩ := r.add (o := .tup vs) np
  refine q _ _ _ l r2 ?_
  simp only [DatR]
  exact ⟨p, vs, rfl, .inl (.inl upd_same), z, DatL.mono l _ _ h⟩
theorem ql_lst {W : Wld} {M : Sto} {H : Hp} {ds : List D} {vs : List V} {Q : VK} (q : QL K W Q (.lst ds) M) (r : RelH K W M H) (h : DatL K W ds vs) (z : ds.length ≤ sizeLine) {p : Addr} (np : H p = none) : Q (.ref p) (upd H p (.lst vs)) := by
  obtain ⟨l, r2⟩ := r.add (o := .lst vs) np
  refine q _ _ _ l r2 ?_
  simp only [DatR]
  exact ⟨p, vs, rfl, upd_same, z, DatL.mono l _ _ h⟩
def rAdd4 (K : PySem.W.Frag) : R2 := fun x y H Q => (rI0 fun i j => .int (i + j)) x y H Q ∨ (fun x y H Q => ∃ i j, x = .str i ∧ y = .str j ∧ i.length + j.length ≤ sizeLine ∧ Q (.str (i ++ j)) H) x y H Q ∨ rCatT K x y H Q ∨ rCat x y H Q
theorem o_add {X : Cx} : OpR X (binaryOp .Add) (rAdd4 X.K) := op_add.or (op_add_str.or (op_catT.or op_cat))
theorem s_add : OpS K fAdd (rAdd4 K) := by
  intro W M H x y d vx vy Q r hx hy h q
  cases x <;> cases y <;> first | exact (has_no h).elim | skip
  · cases dat_int hx; cases dat_int hy
    have e := has_ok h
    subst e
    exact .inl ⟨_, _, rfl, rfl, ql_self q r datI⟩
  · cases dat_str hx; cases dat_str hy
    obtain ⟨c, e⟩ := has_side h
    subst e
    exact .inr (.inl ⟨_, _, rfl, rfl, c, ql_self q r datS⟩)
  · rename_i xs ys
    obtain ⟨⟨c1, c2⟩, e⟩ := has_side h
    subst e
    simp only [DatR] at hx hy
    obtain ⟨a, vs, rfl, h1, _, h3⟩ := hx
    obtain ⟨b, ws, rfl, g1, _, g3⟩ := hy
    refine .inr (.inr (.inl ⟨a, b, vs, ws, rfl, rfl, Same.seqT r.sub h1, Same.seqT r.sub g1, ?_, by rw [h3.len, g3.len]; exact c2, fun e => ?_, fun _ p np => ql_tup q r (h3.app g3) (by rw [List.length_append]; exact c2) np⟩))
    · intro e
      subst e
      cases xs with
      | nil => exact c1 rfl
      | cons _ _ => obtain ⟨_, _, e, _⟩ := h3.inv; cases e
    · subst e
      cases ys with
      | nil =>
        rw [List.append_nil] at q
        refine ql_self q r ?_
        simp only [DatR]
        exact ⟨a, vs, rfl, h1, by simpa using c2, h3⟩
      | cons _ _ => obtain ⟨_, _, e, _⟩ := g3.inv; cases e
  · rename_i xs ys
    obtain ⟨c2, e⟩ := has_side h
    subst e
    simp only [DatR] at hx hy
    obtain ⟨a, vs, rfl, h1, _, h3⟩ := hx
    obtain ⟨b, ws, rfl, g1, _, g3⟩ := hy
    exact .inr (.inr (.inr ⟨a, b, vs, ws, rfl, rfl, r.sub _ _ h1, r.sub _ _ g1, by rw [h3.len, g3.len]; exact c2, fun p np => ql_lst q r (h3.app g3) (by rw [List.length_append]; exact c2) np⟩))
theorem s_int0 {g : Int → Int → V} {gD : Int → Int → D} {f : Sto → D → D → Res} (hf : ∀ M x y d, (f M x y).Has d → ∃ i j, x = .int i ∧ y = .int j ∧ d = gD i j) (hg : ∀ W i j, DatR K W (gD i j) (g i j)) : OpS K f (rI0 g) := by
  intro W M H x y d vx vy Q r hx hy h q
  obtain ⟨i, j, rfl, rfl, rfl⟩ := hf M x y d h
  cases dat_int hx; cases dat_int hy
  exact ⟨i, j, rfl, rfl, ql_self q r (hg W i j)⟩
theorem s_intC {C : Int → Int → Prop} {g : Int → Int → V} {gD : Int → Int → D} {f : Sto → D → D → Res} (hf : ∀ M x y d, (f M x y).Has d → ∃ i j, x = .int i ∧ y = .int j ∧ C i j ∧ d = gD i j) (hg : ∀ W i j, DatR K W (gD i j) (g i j)) : OpS K f (rI C g) := by
  intro W M H x y d vx vy Q r hx hy h q
  obtain ⟨i, j, rfl, rfl, c, rfl⟩ := hf M x y d h
  cases dat_int hx; cases dat_int hy
  exact ⟨i, j, rfl, rfl, c, ql_self q r (hg W i j)⟩
theorem s_sub : OpS K fSub (rI0 fun i j => .int (i - j)) := s_int0 (gD := fun i j => .int (i - j)) (fun M x y d h => by
  cases x <;> cases y <;> first | exact (has_no h).elim | exact ⟨_, _, rfl, rfl, has_ok h⟩) fun _ _ _ => datI
theorem s_lt : OpS K fLt (rI0 fun i j => .bl (decide (i < j))) := s_int0 (gD := fun i j => .bl (decide (i < j))) (fun M x y d h => by
  cases x <;> cases y <;> first | exact (has_no h).elim | exact ⟨_, _, rfl, rfl, has_ok h⟩) fun _ _ _ => datB
theorem s_le : OpS K fLe (rI0 fun i j => .bl (decide (i ≤ j))) := s_int0 (gD := fun i j => .bl (decide (i ≤ j))) (fun M x y d h => by
  cases x <;> cases y <;> first | exact (has_no h).elim | exact ⟨_, _, rfl, rfl, has_ok h⟩) fun _ _ _ => datB
theorem s_gt : OpS K fGt (rI0 fun i j => .bl (decide (j < i))) := s_int0 (gD := fun i j => .bl (decide (j < i))) (fun M x y d h => by
  cases x <;> cases y <;> first | exact (has_no h).elim | exact ⟨_, _, rfl, rfl, has_ok h⟩) fun _ _ _ => datB
theorem s_ge : OpS K fGe (rI0 fun i j => .bl (decide (j ≤ i))) := s_int0 (gD := fun i j => .bl (decide (j ≤ i))) (fun M x y d h => by
  cases x <;> cases y <;> first | exact (has_no h).elim | exact ⟨_, _, rfl, rfl, has_ok h⟩) fun _ _ _ => datB
def rMul2 : R2 := fun x y H Q => rI CMulX (fun i j => .int (i * j)) x y H Q ∨ rRep x y H Q
theorem o_mul {X : Cx} : OpR X (binaryOp .Mult) rMul2 := op_mulX.or op_rep
theorem DatL.repeat {W : Wld} {ds : List D} {vs : List V} (h : DatL K W ds vs) : ∀ n, DatL K W (List.replicate n ds).flatten (List.replicate n vs).flatten
  | 0 => by simp only [List.replicate_zero, List.flatten_nil]; exact .nil
  | n + 1 => by
    rw [List.replicate_succ, List.replicate_succ, List.flatten_cons, List.flatten_cons]
    exact h.app (DatL.repeat h n)
theorem len_repeat {α : Type} (l : List α) : ∀ n, (List.replicate n l).flatten.length = n * l.length
  | 0 => by simp
  | n + 1 => by rw [List.replicate_succ, List.flatten_cons, List.length_append, len_repeat l n, Nat.succ_mul]; omega
theorem s_mul : OpS K fMul rMul2 := by
  intro W M H x y d vx vy Q r hx hy h q
  cases x <;> cases y <;> first | exact (has_no h).elim | skip
  · cases dat_int hx; cases dat_int hy
    obtain ⟨⟨c1, c2⟩, e⟩ := has_side h
    subst e
    refine .inl ⟨_, _, rfl, rfl, ?_, ql_self q r datI⟩
    unfold CMulX
    unfold sz at c1 c2
    omega
  · cases dat_int hy
    obtain ⟨⟨c1, c2, c3⟩, e⟩ := has_side h
    subst e
    simp only [DatR] at hx
    obtain ⟨a, vs, rfl, h1, _, h3⟩ := hx
    exact .inr ⟨a, _, vs, rfl, rfl, r.sub _ _ h1, c2, c1, by rw [h3.len]; exact c3, fun p np => ql_lst q r (h3.repeat _) (by rw [len_repeat, Nat.mul_comm]; exact c3) np⟩
theorem o_div {X : Cx} : OpR X (binaryOp .FloorDiv) (rI (fun _ j => cDiv j) fun i j => .int (i.fdiv j)) := opI fun i j t u Q E s hc q => floordiv_int hc.1 q (.inl (PyProof.noPylong_of_log2 hc.2))
theorem s_div : OpS K fDiv (rI (fun _ j => cDiv j) fun i j => .int (i.fdiv j)) := s_intC (gD := fun i j => .int (i.fdiv j)) (fun M x y d h => by
  cases x <;> cases y <;> first | exact (has_no h).elim | exact ⟨_, _, rfl, rfl, has_side h⟩) fun _ _ _ => datI
theorem s_mod : OpS K fMod (rI (fun _ j => j ≠ 0) fun i j => .int (i.fmod j)) := s_intC (gD := fun i j => .int (i.fmod j)) (fun M x y d h => by
  cases x <;> cases y <;> first | exact (has_no h).elim | exact ⟨_, _, rfl, rfl, has_side h⟩) fun _ _ _ => datI
theorem s_pow : OpS K fPow (rI CPow fun i j => .int (i ^ j.toNat)) := s_intC (gD := fun i j => .int (i ^ j.toNat)) (fun M x y d h => by
  cases x <;> cases y <;> first | exact (has_no h).elim | exact ⟨_, _, rfl, rfl, has_side h⟩) fun _ _ _ => datI
theorem s_neg : UnS K fNeg (rU fun i => .int (-i)) := by
  intro W M H x d vx Q r hx h q
  cases x <;> first | exact (has_no h).elim | skip
  cases dat_int hx
  have e := has_ok h
  subst e
  exact ⟨_, rfl, ql_self q r datI⟩
theorem sc_dec {W : Wld} {x y : D} {vx vy : V} {b : Bool} (h : scD x y = some b) (hx : DatR K W x vx) (hy : DatR K W y vy) : scal vx vy = true ∧ decide (vx = vy) = b := by
  cases x <;> cases y <;> simp only [scD] at h <;> first | (cases h; done) | skip
  · cases dat_bl hx; cases dat_bl hy; cases h
    exact ⟨rfl, decide_eq_decide.mpr ⟨fun z => by cases z; rfl, fun z => by rw [z]⟩⟩
  · cases dat_int hx; cases dat_int hy; cases h
    exact ⟨rfl, decide_eq_decide.mpr ⟨fun z => by cases z; rfl, fun z => by rw [z]⟩⟩
  · cases dat_str hx; cases dat_str hy; cases h
    exact ⟨rfl, decide_eq_decide.mpr ⟨fun z => by cases z; rfl, fun z => by rw [z]⟩⟩
def rEq2 (K : PySem.W.Frag) : R2 := fun x y H Q => rEq x y H Q ∨ rEqD K x y H Q
def rNe2 (K : PySem.W.Frag) : R2 := fun x y H Q => rNe x y H Q ∨ rNeD K x y H Q
theorem o_eq {X : Cx} (hu : X.A.units + 64 < cLine) : OpR X (compareOp .Eq) (rEq2 X.K) := op_eq.or (op_eqD hu)
theorem o_ne {X : Cx} (hu : X.A.units + 64 < cLine) : OpR X (compareOp .NotEq) (rNe2 X.K) := op_ne.or (op_neD hu)
theorem s_eq : OpS K fEq (rEq2 K) := by
  intro W M H x y d vx vy Q r hx hy h q
  unfold fEq at h
  cases sc : scD x y with
  | some b =>
    rw [sc] at h
    rw [has_ok h] at q
    obtain ⟨e1, e2⟩ := sc_dec sc hx hy
    refine .inl ⟨e1, ?_⟩
    rw [e2]
    exact ql_self q r datB
  | none =>
    rw [sc] at h
    obtain ⟨⟨c1, c2⟩, e⟩ := has_side h
    subst e
    have p1 : plain (res M x) = true := by unfold shp at c1; rw [Bool.and_eq_true] at c1; exact c1.1
    have p2 : plain (res M y) = true := by unfold shp at c2; rw [Bool.and_eq_true] at c2; exact c2.1
    refine .inr ⟨toPy (res M x), toPy (res M y), dp_res r p1 hx, dp_res r p2 hy, shaped_of c1, shaped_of c2, ?_⟩
    rw [← deqv_eq _ _ p1 p2]
    exact ql_self q r datB
theorem s_ne : OpS K fNe (rNe2 K) := by
  intro W M H x y d vx vy Q r hx hy h q
  unfold fNe at h
  cases sc : scD x y with
  | some b =>
    rw [sc] at h
    rw [has_ok h] at q
    obtain ⟨e1, e2⟩ := sc_dec sc hx hy
    refine .inl ⟨e1, ?_⟩
    rw [e2]
    exact ql_self q r datB
  | none =>
    rw [sc] at h
    obtain ⟨⟨c1, c2⟩, e⟩ := has_side h
    subst e
    have p1 : plain (res M x) = true := by unfold shp at c1; rw [Bool.and_eq_true] at c1; exact c1.1
    have p2 : plain (res M y) = true := by unfold shp at c2; rw [Bool.and_eq_true] at c2; exact c2.1
    refine .inr ⟨toPy (res M x), toPy (res M y), dp_res r p1 hx, dp_res r p2 hy, shaped_of c1, shaped_of c2, ?_⟩
    rw [← deqv_eq _ _ p1 p2]
    exact ql_self q r datB
def isNon : D → Bool
  | .non => true
  | _ => false
theorem dat_none_iff {W : Wld} {d : D} {v : V} (h : DatR K W d v) : decide (v = V.non) = isNon d := by
  cases d <;> simp only [DatR] at h
  case non => rw [h]; rfl
  case bl => rw [h]; rfl
  case int => rw [h]; rfl
  case str => rw [h]; rfl
  case ty => rw [h]; rfl
  case tup => obtain ⟨a, vs, rfl, _⟩ := h; rfl
  case lst => obtain ⟨a, vs, rfl, _⟩ := h; rfl
  case wl => obtain ⟨a, vs, rfl, _⟩ := h; rfl
  case emp => obtain ⟨a, rfl, _⟩ := h; rfl
  case own => obtain ⟨a, rfl, _⟩ := h; rfl
theorem s_isN : OpS K fIsN (fun x y H Q => y = .non ∧ Q (.bl (decide (x = .non))) H) := by
  intro W M H x y d vx vy Q r hx hy h q
  have hy2 : y = .non := by cases x <;> cases y <;> first | exact (has_no h).elim | rfl
  subst hy2
  cases dat_non hy
  refine ⟨rfl, ?_⟩
  rw [dat_none_iff hx]
  cases x <;> (have e := has_ok h; subst e; exact ql_self q r datB)
theorem s_notN : OpS K fNotN (fun x y H Q => y = .non ∧ Q (.bl (!decide (x = .non))) H) := by
  intro W M H x y d vx vy Q r hx hy h q
  have hy2 : y = .non := by cases x <;> cases y <;> first | exact (has_no h).elim | rfl
  subst hy2
  cases dat_non hy
  refine ⟨rfl, ?_⟩
  rw [dat_none_iff hx]
  cases x <;> (have e := has_ok h; subst e; exact ql_self q r datB)
end
end DL
/-! DLOps2: items, built-in functions over data (own work). -/
namespace DL
open PySem PySem.Spec PyProof.Rows L2
theorem atD_atI {α : Type} (xs : List α) (i : Int) : atD xs i = atI xs i := by
  unfold atD atI ixN
  cases i with
  | ofNat n =>
    rw [if_pos (show (0 : Int) ≤ Int.ofNat n from Int.natCast_nonneg n)]
    by_cases h : n < xs.length
    · rw [if_pos (show Int.ofNat n < (xs.length : Int) from Int.ofNat_lt.mpr h)]
      rfl
    · rw [if_neg (show ¬ Int.ofNat n < (xs.length : Int) from fun z => h (Int.ofNat_lt.mp z))]
      simp only [Option.bind_none]
      exact List.getElem?_eq_none (by omega)
  | negSucc n =>
    rw [if_neg (by omega)]
    show (if n < xs.length then xs[xs.length - (n + 1)]? else none) = _
    by_cases h : n < xs.length
    · rw [if_pos h, if_pos (by omega)]
      show _ = xs[(Int.negSucc n + (xs.length : Int)).toNat]?
      congr 1
      omega
    · rw [if_neg h, if_neg (by omega)]
      rfl
theorem atI_dat {K : PySem.W.Frag} {W : Wld} {ds : List D} {vs : List V} (h : DatL K W ds vs) {i : Int} {d : D} (e : atD ds i = some d) : ∃ v, atI vs i = some v ∧ DatR K W d v := by
  rw [atD_atI] at e
  unfold atI at e ⊢
  rw [h.len]
  cases q : ixN ds.length i with
  | none => rw [q] at e; cases e
  | some j =>
    rw [q] at e
    exact h.get e
theorem opt_has {o : Option D} {d : D} (h : (opt o).Has d) : o = some d := by
  cases o with
  | none => exact (has_no h).elim
  | some e => rw [has_ok h]
section
variable {K : PySem.W.Frag}
theorem s_ix : OpS K fIx (rIx K) := by
  intro W M H x y d vx vy Q r hx hy h q
  cases x <;> cases y <;> first | exact (has_no h).elim | skip
  case str.int z i =>
    cases dat_str hx; cases dat_int hy
    unfold fIx at h
    dsimp only at h
    cases e : atI z.cps.toList i with
    | none => rw [e] at h; exact (has_no h).elim
    | some c =>
      rw [e] at h
      obtain ⟨c1, e2⟩ := has_side h
      subst e2
      exact .inr (.inr ⟨z, i, c, rfl, rfl, c1, e, ql_self q r datS⟩)
  case tup.int xs i =>
    cases dat_int hy
    simp only [DatR] at hx
    obtain ⟨a, vs, rfl, h1, _, h3⟩ := hx
    obtain ⟨v, e1, e2⟩ := atI_dat h3 (opt_has h)
    exact .inr (.inl ⟨a, vs, i, v, rfl, rfl, Same.seqT r.sub h1, e1, ql_self q r e2⟩)
  case lst.int xs i =>
    cases dat_int hy
    simp only [DatR] at hx
    obtain ⟨a, vs, rfl, h1, _, h3⟩ := hx
    obtain ⟨v, e1, e2⟩ := atI_dat h3 (opt_has h)
    exact .inl ⟨a, vs, i, v, rfl, rfl, .inl (.inl (r.sub _ _ h1)), e1, ql_self q r e2⟩
  case wl.int xs i =>
    cases dat_int hy
    simp only [DatR] at hx
    obtain ⟨a, vs, rfl, h1, _, h3⟩ := hx
    obtain ⟨v, e1, e2⟩ := atI_dat h3 (opt_has h)
    exact .inl ⟨a, vs, i, v, rfl, rfl, Same.seq r.sub h1, e1, ql_self q r e2⟩
  case own.int k i =>
    cases dat_int hy
    unfold fIx at h
    dsimp only at h
    cases e : M[k]? with
    | none => rw [e] at h; exact (has_no h).elim
    | some o =>
      rw [e] at h
      cases o with
      | none => exact (has_no h).elim
      | some ds =>
        simp only [DatR] at hx
        obtain ⟨a, rfl, ea⟩ := hx
        obtain ⟨b, vs, f1, _, f3, f4, _⟩ := r.own k ds e
        rw [ea] at f1
        cases f1
        obtain ⟨v, e1, e2⟩ := atI_dat f4 (opt_has h)
        exact .inl ⟨a, vs, i, v, rfl, rfl, .inl (.inl f3), e1, ql_self q r e2⟩
/-! ### built-in functions -/
def fAbs : Sto → List D → Res
  | _, [.int i] => .ok (.int (if i < 0 then -i else i))
  | _, _ => .no
def fMax2 : Sto → List D → Res
  | _, [.int i, .int j] => .ok (.int (if j > i then j else i))
  | _, _ => .no
def fMin2 : Sto → List D → Res
  | _, [.int i, .int j] => .ok (.int (if j < i then j else i))
  | _, _ => .no
def fInt1 : Sto → List D → Res
  | _, [.int i] => .ok (.int i)
  | _, [.bl b] => .ok (.int (if b then 1 else 0))
  | _, _ => .no
def fGcd : Sto → List D → Res
  | _, [.int i, .int j] => .ok (.int ((Nat.gcd i.natAbs j.natAbs : Nat) : Int))
  | _, _ => .no
def fStrI : Sto → List D → Res
  | _, [.int i] => .side (i.natAbs.log2 < 1920) (.str (toString i))
  | _, _ => .no
def fDivmod : Sto → List D → Res
  | _, [.int i, .int j] => .side (cDiv j) (.tup [.int (i.fdiv j), .int (i.fmod j)])
  | _, _ => .no
def fLen : Sto → List D → Res
  | _, [.tup xs] => .ok (.int (xs.length : Nat))
  | _, [.lst xs] => .ok (.int (xs.length : Nat))
  | _, [.wl xs] => .ok (.int (xs.length : Nat))
  | M, [.own k] => (match M[k]? with
    | some (some ds) => .ok (.int (ds.length : Nat))
    | _ => .no)
  | _, [.str x] => .side (x.length ≤ sizeLine) (.int (x.length : Nat))
  | _, _ => .no
def bools : List D → Option (List Bool)
  | [] => some []
  | .bl b :: r => (bools r).map (b :: ·)
  | _ :: _ => none
def fAll : Sto → List D → Res
  | _, [.lst xs] => (match bools xs with
    | some bs => .ok (.bl (bs.all id))
    | none => .no)
  | _, _ => .no
def fAny : Sto → List D → Res
  | _, [.lst xs] => (match bools xs with
    | some bs => .ok (.bl (bs.any id))
    | none => .no)
  | _, _ => .no
theorem datL1 {W : Wld} {d : D} {vs : List V} (h : DatL K W [d] vs) : ∃ v, vs = [v] ∧ DatR K W d v := by
  obtain ⟨v, r, rfl, h1, h2⟩ := h.inv
  cases h2.inv0
  exact ⟨v, rfl, h1⟩
theorem datL2 {W : Wld} {d e : D} {vs : List V} (h : DatL K W [d, e] vs) : ∃ v w, vs = [v, w] ∧ DatR K W d v ∧ DatR K W e w := by
  obtain ⟨v, r, rfl, h1, h2⟩ := h.inv
  obtain ⟨w, rfl, h3⟩ := datL1 h2
  exact ⟨v, w, rfl, h1, h3⟩
theorem s_int1 {f : Sto → List D → Res} {C : Int → Prop} {gD : Int → D} {g : Int → V} (hf : ∀ M xs d, (f M xs).Has d → ∃ i, xs = [.int i] ∧ C i ∧ d = gD i) (hg : ∀ W i, DatR K W (gD i) (g i)) : FnS K f (fun xs H Q => ∃ i, xs = [.int i] ∧ C i ∧ Q (g i) H) := by
  intro W M H xs d vs Q rh dl hd q
  obtain ⟨i, rfl, c, rfl⟩ := hf M xs d hd
  obtain ⟨v, rfl, h1⟩ := datL1 dl
  cases dat_int h1
  exact ⟨i, rfl, c, ql_self q rh (hg W i)⟩
theorem s_int2 {f : Sto → List D → Res} {gD : Int → Int → D} {g : Int → Int → V} (hf : ∀ M xs d, (f M xs).Has d → ∃ i j, xs = [.int i, .int j] ∧ d = gD i j) (hg : ∀ W i j, DatR K W (gD i j) (g i j)) : FnS K f (fun xs H Q => ∃ i j, xs = [.int i, .int j] ∧ Q (g i j) H) := by
  intro W M H xs d vs Q rh dl hd q
  obtain ⟨i, j, rfl, rfl⟩ := hf M xs d hd
  obtain ⟨v, w, rfl, h1, h2⟩ := datL2 dl
  cases dat_int h1; cases dat_int h2
  exact ⟨i, j, rfl, ql_self q rh (hg W i j)⟩
theorem one_int {f : Sto → List D → Res} {g : Int → Res} (h1 : ∀ M i, f M [.int i] = g i) (h2 : ∀ M xs, (∀ i, xs ≠ [.int i]) → f M xs = .no) (M : Sto) (xs : List D) (d : D) (hd : (f M xs).Has d) : ∃ i, xs = [.int i] ∧ (g i).Has d := by
  by_cases c : ∃ i, xs = [.int i]
  · obtain ⟨i, rfl⟩ := c
    rw [h1] at hd
    exact ⟨i, rfl, hd⟩
  · rw [h2 M xs fun i z => c ⟨i, z⟩] at hd
    exact (has_no hd).elim
theorem two_int {f : Sto → List D → Res} {g : Int → Int → Res} (h1 : ∀ M i j, f M [.int i, .int j] = g i j) (h2 : ∀ M xs, (∀ i j, xs ≠ [.int i, .int j]) → f M xs = .no) (M : Sto) (xs : List D) (d : D) (hd : (f M xs).Has d) : ∃ i j, xs = [.int i, .int j] ∧ (g i j).Has d := by
  by_cases c : ∃ i j, xs = [.int i, .int j]
  · obtain ⟨i, j, rfl⟩ := c
    rw [h1] at hd
    exact ⟨i, j, rfl, hd⟩
  · rw [h2 M xs fun i j z => c ⟨i, j, z⟩] at hd
    exact (has_no hd).elim
theorem s_abs : FnS K fAbs (fun xs H Q => ∃ i, xs = [.int i] ∧ Q (.int (if i < 0 then -i else i)) H) := by
  intro W M H xs d vs Q rh dl hd q
  obtain ⟨i, rfl, hd⟩ := one_int (f := fAbs) (fun _ _ => rfl) (fun M xs h => by unfold fAbs; split <;> first | rfl | exact absurd rfl (h _)) M xs d hd
  obtain ⟨v, rfl, h1⟩ := datL1 dl
  cases dat_int h1
  rw [has_ok hd] at q
  exact ⟨i, rfl, ql_self q rh datI⟩
theorem s_strI : FnS K fStrI (fun xs H Q => ∃ i, xs = [.int i] ∧ i.natAbs.log2 < 1920 ∧ Q (.str (toString i)) H) := by
  intro W M H xs d vs Q rh dl hd q
  obtain ⟨i, rfl, hd⟩ := one_int (f := fStrI) (fun _ _ => rfl) (fun M xs h => by unfold fStrI; split <;> first | rfl | exact absurd rfl (h _)) M xs d hd
  obtain ⟨v, rfl, h1⟩ := datL1 dl
  cases dat_int h1
  obtain ⟨c, e⟩ := has_side hd
  rw [e] at q
  exact ⟨i, rfl, c, ql_self q rh datS⟩
theorem s_int1c : FnS K fInt1 (fun xs H Q => (∃ i, xs = [.int i] ∧ Q (.int i) H) ∨ ∃ k, xs = [.bl k] ∧ Q (.int (if k then 1 else 0)) H) := by
  intro W M H xs d vs Q rh dl hd q
  unfold fInt1 at hd
  split at hd
  · obtain ⟨v, rfl, h1⟩ := datL1 dl
    cases dat_int h1
    rw [has_ok hd] at q
    exact .inl ⟨_, rfl, ql_self q rh datI⟩
  · obtain ⟨v, rfl, h1⟩ := datL1 dl
    cases dat_bl h1
    rw [has_ok hd] at q
    exact .inr ⟨_, rfl, ql_self q rh datI⟩
  · exact (has_no hd).elim
theorem s_max2 : FnS K fMax2 (fun xs H Q => ∃ i j, xs = [.int i, .int j] ∧ Q (.int (if j > i then j else i)) H) := by
  refine s_int2 (gD := fun i j => .int (if j > i then j else i)) (fun M xs d hd => ?_) fun _ _ _ => datI
  obtain ⟨i, j, e, hd⟩ := two_int (f := fMax2) (fun _ _ _ => rfl) (fun M xs h => by unfold fMax2; split <;> first | rfl | exact absurd rfl (h _ _)) M xs d hd
  exact ⟨i, j, e, has_ok hd⟩
theorem s_min2 : FnS K fMin2 (fun xs H Q => ∃ i j, xs = [.int i, .int j] ∧ Q (.int (if j < i then j else i)) H) := by
  refine s_int2 (gD := fun i j => .int (if j < i then j else i)) (fun M xs d hd => ?_) fun _ _ _ => datI
  obtain ⟨i, j, e, hd⟩ := two_int (f := fMin2) (fun _ _ _ => rfl) (fun M xs h => by unfold fMin2; split <;> first | rfl | exact absurd rfl (h _ _)) M xs d hd
  exact ⟨i, j, e, has_ok hd⟩
theorem s_gcd : FnS K fGcd rGcd := by
  refine s_int2 (gD := fun i j => .int ((Nat.gcd i.natAbs j.natAbs : Nat) : Int)) (g := fun i j => .int ((Nat.gcd i.natAbs j.natAbs : Nat) : Int)) (fun M xs d hd => ?_) fun _ _ _ => datI
  obtain ⟨i, j, e, hd⟩ := two_int (f := fGcd) (fun _ _ _ => rfl) (fun M xs h => by unfold fGcd; split <;> first | rfl | exact absurd rfl (h _ _)) M xs d hd
  exact ⟨i, j, e, has_ok hd⟩
def rDivmod : List V → Hp → VK → Prop := fun xs H Q => ∃ i j, xs = [.int i, .int j] ∧ cDiv j ∧ ∀ p, H p = none → Q (.ref p) (upd H p (.tup [.int (i.fdiv j), .int (i.fmod j)]))
theorem c_divmod {X : Cx} : CallR X (.builtin "divmod") rDivmod := by
  intro pins s σ H xs us Q I r h
  obtain ⟨i, j, rfl, c, q⟩ := h
  obtain ⟨u, w, rfl, ⟨t, rfl⟩, ⟨t', rfl⟩⟩ := vals2 r
  refine divmod_int c.1 ?_ (.inl (PyProof.noPylong_of_log2 c.2))
  have hn : H s.heap.objs.size = none := I.hok.fresh (Nat.le_refl _)
  have ok : ObjOk X.prog X.w (upd H s.heap.objs.size (.tup [.int (i.fdiv j), .int (i.fmod j)])) (s.heap.push { cls := .type "tuple", data := .seq #[.int (i.fdiv j) s.toks, .int (i.fmod j) (s.toks + 1)] }) s.heap.objs.size (.tup [.int (i.fdiv j), .int (i.fmod j)]) := by
    refine ⟨?_, [.int (i.fdiv j) s.toks, .int (i.fmod j) (s.toks + 1)], .cons ⟨_, rfl⟩ (.cons ⟨_, rfl⟩ .nil), _, Heap.get?_push_size s.heap rfl, rfl, 0, rfl⟩
    simp only [List.length_cons, List.length_nil]
    rw [sizeLine_eq]
    decide
  exact ⟨.ref s.heap.objs.size, _, I.laid (fun b o e => Heap.get?_push_of_some _ e) (Nat.le_refl _) ok, rfl, q _ hn⟩
theorem s_divmod : FnS K fDivmod rDivmod := by
  intro W M H xs d vs Q rh dl hd q
  obtain ⟨i, j, rfl, hd⟩ := two_int (f := fDivmod) (fun _ _ _ => rfl) (fun M xs h => by unfold fDivmod; split <;> first | rfl | exact absurd rfl (h _ _)) M xs d hd
  obtain ⟨v, w, rfl, h1, h2⟩ := datL2 dl
  cases dat_int h1; cases dat_int h2
  obtain ⟨c, e⟩ := has_side hd
  rw [e] at q
  exact ⟨i, j, rfl, c, fun p np => ql_tup q rh (.cons datI (.cons datI .nil)) (by simp only [List.length_cons, List.length_nil]; rw [sizeLine_eq]; decide) np⟩
theorem s_len : FnS K fLen (fun xs H Q => ∃ x n, xs = [x] ∧ LenV K x H n ∧ Q (.int n) H) := by
  intro W M H xs d vs Q rh dl hd q
  unfold fLen at hd
  split at hd
  · obtain ⟨v, rfl, h1⟩ := datL1 dl
    simp only [DatR] at h1
    obtain ⟨a, ws, rfl, h1, _, h3⟩ := h1
    rw [has_ok hd] at q
    exact ⟨_, _, rfl, .inr ⟨ws, Same.seqT rh.sub h1, h3.len.symm⟩, ql_self q rh datI⟩
  · obtain ⟨v, rfl, h1⟩ := datL1 dl
    simp only [DatR] at h1
    obtain ⟨a, ws, rfl, h1, _, h3⟩ := h1
    rw [has_ok hd] at q
    exact ⟨_, _, rfl, .inl ⟨ws, .inl (.inl (rh.sub _ _ h1)), h3.len.symm⟩, ql_self q rh datI⟩
  · obtain ⟨v, rfl, h1⟩ := datL1 dl
    simp only [DatR] at h1
    obtain ⟨a, ws, rfl, h1, _, h3⟩ := h1
    rw [has_ok hd] at q
    exact ⟨_, _, rfl, .inl ⟨ws, Same.seq rh.sub h1, h3.len.symm⟩, ql_self q rh datI⟩
  · rename_i k
    obtain ⟨v, rfl, h1⟩ := datL1 dl
    simp only [DatR] at h1
    obtain ⟨a, rfl, ea⟩ := h1
    cases e : M[k]? with
    | none => rw [e] at hd; exact (has_no hd).elim
    | some o =>
      rw [e] at hd
      cases o with
      | none => exact (has_no hd).elim
      | some ds =>
        obtain ⟨b, ws, f1, _, f3, f4, _⟩ := rh.own k ds e
        rw [ea] at f1
        cases f1
        rw [has_ok hd] at q
        exact ⟨_, _, rfl, .inl ⟨ws, .inl (.inl f3), f4.len.symm⟩, ql_self q rh datI⟩
  · obtain ⟨v, rfl, h1⟩ := datL1 dl
    cases dat_str h1
    obtain ⟨c, e⟩ := has_side hd
    rw [e] at q
    exact ⟨_, _, rfl, ⟨c, rfl⟩, ql_self q rh datI⟩
  · exact (has_no hd).elim
theorem bools_dat {W : Wld} : ∀ {ds : List D} {vs : List V} {bs : List Bool}, bools ds = some bs → DatL K W ds vs → vs = bs.map V.bl
  | [], vs, bs, e, h => by
    simp [bools] at e
    subst e
    rw [h.inv0]
    rfl
  | d :: ds, vs, bs, e, h => by
    obtain ⟨v, r, rfl, h1, h2⟩ := h.inv
    cases d with
    | bl b =>
      simp only [bools] at e
      cases q : bools ds with
      | none => rw [q] at e; cases e
      | some cs =>
        rw [q] at e
        cases e
        rw [dat_bl h1, bools_dat q h2]
        rfl
    | _ => simp [bools] at e
theorem s_all : FnS K fAll (rAll K) := by
  intro W M H xs d vs Q rh dl hd q
  unfold fAll at hd
  split at hd
  · rename_i ds
    obtain ⟨v, rfl, h1⟩ := datL1 dl
    simp only [DatR] at h1
    obtain ⟨a, ws, rfl, h1, _, h3⟩ := h1
    cases e : bools ds with
    | none => rw [e] at hd; exact (has_no hd).elim
    | some bs =>
      rw [e] at hd
      rw [has_ok hd] at q
      have ew := bools_dat e h3
      subst ew
      exact ⟨a, bs, rfl, .inl (.inl (rh.sub _ _ h1)), ql_self q rh datB⟩
  · exact (has_no hd).elim
theorem s_any : FnS K fAny (rAny K) := by
  intro W M H xs d vs Q rh dl hd q
  unfold fAny at hd
  split at hd
  · rename_i ds
    obtain ⟨v, rfl, h1⟩ := datL1 dl
    simp only [DatR] at h1
    obtain ⟨a, ws, rfl, h1, _, h3⟩ := h1
    cases e : bools ds with
    | none => rw [e] at hd; exact (has_no hd).elim
    | some bs =>
      rw [e] at hd
      rw [has_ok hd] at q
      have ew := bools_dat e h3
      subst ew
      exact ⟨a, bs, rfl, .inl (.inl (rh.sub _ _ h1)), ql_self q rh datB⟩
  · exact (has_no hd).elim
/-! ### isinstance -/
def tyD (M : Sto) : D → Option Ty
  | .non => some .none
  | .bl _ => some .bool
  | .int _ => some .int
  | .str _ => some .str
  | .tup _ => some .tuple
  | .lst _ | .wl _ => some .list
  | .own k => (match M[k]? with
    | some (some _) => some .list
    | _ => none)
  | .emp => some .dict
  | .ty _ => none
def subT : Ty → Ty → Bool
  | .bool, .int => true
  | .int, .int => true
  | .bool, .bool => true
  | .str, .str => true
  | .list, .list => true
  | .tuple, .tuple => true
  | .dict, .dict => true
  | _, _ => false
def okT : Ty → Bool
  | .none => false
  | _ => true
def fIsi : Sto → List D → Res
  | M, [d, .ty c] => (match tyD M d with
    | some t => .side (okT c = true) (.bl (subT t c))
    | none => .no)
  | M, [d, .tup [.ty c, .ty c']] => (match tyD M d with
    | some t => .side (okT c = true ∧ okT c' = true) (.bl (subT t c || subT t c'))
    | none => .no)
  | _, _ => .no
theorem kit_sub {t c : Ty} (h : okT c = true) : kitB t.name c.name = some (subT t c) := by
  cases t <;> cases c <;> first | (simp [okT] at h; done) | decide +kernel
theorem tyx {W : Wld} {M : Sto} {H : Hp} (r : RelH K W M H) {d : D} {v : V} {t : Ty} (h : DatR K W d v) (e : tyD M d = some t) : TyX K H v (.type t.name) := by
  cases d with
  | non => cases e; rw [dat_non h]; exact .base .non
  | bl b => cases e; rw [dat_bl h]; exact .base (.bl b)
  | int b => cases e; rw [dat_int h]; exact .base (.int b)
  | str b => cases e; rw [dat_str h]; exact .base (.str b)
  | ty b => cases e
  | tup xs =>
    cases e
    simp only [DatR] at h
    obtain ⟨a, vs, rfl, h1, _⟩ := h
    rcases Same.seqT r.sub h1 with (h1 | ⟨o, h1⟩) | ⟨o, its, n, h1, h2, _⟩
    · exact .base (.tup h1)
    · exact .fTuple h1
    · exact .kTuple h1 h2
  | lst xs =>
    cases e
    simp only [DatR] at h
    obtain ⟨a, vs, rfl, h1, _⟩ := h
    exact .base (.lst (r.sub _ _ h1))
  | wl xs =>
    cases e
    simp only [DatR] at h
    obtain ⟨a, vs, rfl, h1, _⟩ := h
    rcases Same.seq r.sub h1 with (h1 | ⟨o, h1⟩) | ⟨o, its, n, h1, h2, _⟩
    · exact .base (.lst h1)
    · exact .base (.frz h1)
    · exact .kList h1 h2
  | emp =>
    cases e
    simp only [DatR] at h
    obtain ⟨a, rfl, h1⟩ := h
    exact .base (.dK (r.sub _ _ h1))
  | own k =>
    simp only [tyD] at e
    simp only [DatR] at h
    obtain ⟨a, rfl, ea⟩ := h
    cases ek : M[k]? with
    | none => rw [ek] at e; cases e
    | some o =>
      rw [ek] at e
      cases o with
      | none => cases e
      | some ds =>
        cases e
        obtain ⟨b, vs, f1, _, f3, _⟩ := r.own k ds ek
        rw [ea] at f1
        cases f1
        exact .base (.lst f3)
/-- isinstance(x, t), t any tuple of classes -/
def rIsiS (K : PySem.W.Frag) : List V → Hp → VK → Prop := fun xs H Q => ∃ (x : V) (tp : Addr) (cs : List V) (t : Value) (us : List Value) (b : Bool), xs = [x, .ref tp] ∧ SqT K H tp cs ∧ Paired ClsV cs us ∧ TyX K H x t ∧ PySem.W.kitAny K t us = some b ∧ Q (.bl b) H
theorem c_isiS {X : Cx} : CallR X (.builtin "isinstance") (rIsiS X.K) := by
  intro pins s σ H xs us Q I r h
  obtain ⟨x, tp, cs, t, ws, b, rfl, hT, kc, ty, e, q⟩ := h
  obtain ⟨u1, u2, rfl, r1, r2⟩ := vals2 r
  have r2 : u2 = Value.ref tp := r2
  subst r2
  obtain ⟨P, Z, pz, hx⟩ := kit_of I r1 ty
  obtain ⟨its, rv, ⟨o, h1, h2, n, h3⟩, _⟩ := I.tuple hT
  have e3 : its = ws := ClsV.all kc rv
  subst e3
  cases o with
  | mk oc od dt sl =>
    simp only at h2 h3
    subst h2 h3
    exact PySem.W.kia_tup Z I.kIn pz h1 e hx fun tk => ⟨.bl b, H, I.tok tk, rfl, q⟩
def rIsi2 (K : PySem.W.Frag) : List V → Hp → VK → Prop := fun xs H Q => rIsi K xs H Q ∨ rIsiS K xs H Q
theorem c_isi {X : Cx} : CallR X (.builtin "isinstance") (rIsi2 X.K) := call_isi.or c_isiS
theorem s_isi : FnS K fIsi (rIsi2 K) := by
  intro W M H xs d vs Q rh dl hd q
  unfold fIsi at hd
  split at hd
  · rename_i x c
    obtain ⟨v, w, rfl, h1, h2⟩ := datL2 dl
    simp only [DatR] at h2
    subst h2
    cases e : tyD M x with
    | none => rw [e] at hd; exact (has_no hd).elim
    | some t =>
      rw [e] at hd
      obtain ⟨c1, e2⟩ := has_side hd
      rw [e2] at q
      exact .inl ⟨v, _, _, _, _, rfl, .ty _, tyx rh h1 e, kit_ty (kit_sub c1), ql_self q rh datB⟩
  · rename_i x c c'
    obtain ⟨v, w, rfl, h1, h2⟩ := datL2 dl
    cases e : tyD M x with
    | none => rw [e] at hd; exact (has_no hd).elim
    | some t =>
      rw [e] at hd
      obtain ⟨⟨c1, c2⟩, e2⟩ := has_side hd
      rw [e2] at q
      have e3 : DatR K W (.tup [.ty c, .ty c']) w := h2
      simp only [DatR] at e3
      obtain ⟨a, ws, rfl, h3, _, h4⟩ := e3
      obtain ⟨w1, w2, rfl, h5, h6⟩ := datL2 h4
      simp only [DatR] at h5 h6
      subst h5 h6
      have kk : PySem.W.kitAny K (.type t.name) [.type c.name, .type c'.name] = some (subT t c || subT t c') := by
        refine kitAny_cons (kit_ty (kit_sub c1)) (fun z => ?_) (fun z => by rw [z]; rfl)
        refine kitAny_cons (kit_ty (kit_sub c2)) (fun z2 => by rw [z, z2]; rfl) (fun z2 => by rw [z, z2]; rfl)
      exact .inr ⟨v, a, _, _, _, _, rfl, Same.seqT rh.sub h3, .cons (.ty _) (.cons (.ty _) .nil), tyx rh h1 e, kk, ql_self q rh datB⟩
  · exact (has_no hd).elim
/-! ### repr -/
/-- what repr writes has its room -/
def shows (d : D) : Prop := PyData.showable (toPy d) = true ∧ (PyData.shown (toPy d)).length ≤ sizeLine
def textD (d : D) : Str := PyData.shown (toPy d)
def fRepr : Sto → List D → Res
  | M, [x] => .side (shp (res M x) = true ∧ shows (res M x)) (.str (textD (res M x)))
  | _, _ => .no
def rRepr (K : PySem.W.Frag) : List V → Hp → VK → Prop := fun vs H Q => ∃ v d, vs = [v] ∧ Dp K H v d ∧ d.showable = true ∧ d.shown.length ≤ sizeLine ∧ d.hasDict = false ∧ d.depth ≤ 60 ∧ Q (.str d.shown) H
theorem c_repr {X : Cx} (gd : X.A.guards = some []) (hu : X.A.units + 64 < cLine) : CallR X (.builtin "repr") (rRepr X.K) := by
  intro pins s σ H xs us Q I r h
  obtain ⟨v, d, rfl, hd, h1, h2, h3, h4, q⟩ := h
  obtain ⟨u, rfl, rv⟩ := vals1 r
  obtain ⟨as, rd⟩ := Dp.reads I d v u hd rv
  have fin : ∀ tk t', EP X pins σ Q (.str d.shown tk) { s with toks := t' } := fun tk t' => ⟨.str d.shown, H, I.tok t', ⟨tk, rfl⟩, q⟩
  cases hd with
  | non =>
    have rv : u = Value.none := rv
    subst rv
    exact P.repr_of_none (by simpa only [PyData.shown] using fin _ _)
  | bl b =>
    have rv : u = Value.bool b := rv
    subst rv
    exact P.repr_of_bool (by simpa only [PyData.shown] using fin _ _)
  | int i =>
    obtain ⟨t, rfl⟩ := rv
    exact P.repr_of_int (by simpa [PyData.showable] using h1) (by simpa only [PyData.shown] using fin _ _)
  | str x =>
    obtain ⟨t, rfl⟩ := rv
    exact P.repr_of_str (by simpa only [PyData.shown] using fin _ _) (by simpa only [PyData.shown] using h2)
  | lst ha hb =>
    have rv := rv
    cases rv
    exact repr_of_reads' rd h1 (PyData.noDict_hsm h3) gd (by omega) (fun _ _ z => z) (fun h' tk t' kp => ⟨.str _, H, I.kept kp, ⟨tk, rfl⟩, q⟩) h2
  | tup ha hb =>
    have rv := rv
    cases rv
    exact repr_of_reads' rd h1 (PyData.noDict_hsm h3) gd (by omega) (fun _ _ z => z) (fun h' tk t' kp => ⟨.str _, H, I.kept kp, ⟨tk, rfl⟩, q⟩) h2
mutual
theorem nodict : ∀ d, plain d = true → (toPy d).hasDict = false
  | .tup xs, h => by simp only [toPy, PyData.hasDict]; exact nodictL xs (by simpa [plain] using h)
  | .lst xs, h => by simp only [toPy, PyData.hasDict]; exact nodictL xs (by simpa [plain] using h)
  | .non, h => by simp [toPy, PyData.hasDict]
  | .bl _, h => by simp [toPy, PyData.hasDict]
  | .int _, h => by simp [toPy, PyData.hasDict]
  | .str _, h => by simp [toPy, PyData.hasDict]
  | .ty _, h => by simp [plain] at h
  | .wl _, h => by simp [plain] at h
  | .emp, h => by simp [plain] at h
  | .own _, h => by simp [plain] at h
theorem nodictL : ∀ ds, plainL ds = true → PyData.hasDictAll (toPyL ds) = false
  | [], _ => by simp [toPyL, PyData.hasDictAll]
  | x :: r, h => by
    simp only [plainL, Bool.and_eq_true] at h
    simp only [toPyL, PyData.hasDictAll, nodict x h.1, nodictL r h.2, Bool.or_self]
end
theorem s_repr : FnS K fRepr (rRepr K) := by
  intro W M H xs d vs Q rh dl hd q
  unfold fRepr at hd
  split at hd
  · rename_i x
    obtain ⟨v, rfl, h1⟩ := datL1 dl
    obtain ⟨⟨c1, c2⟩, e⟩ := has_side hd
    rw [e] at q
    have p1 : plain (res M x) = true := by unfold shp at c1; rw [Bool.and_eq_true] at c1; exact c1.1
    have p2 : deep (res M x) ≤ 60 := by unfold shp at c1; rw [Bool.and_eq_true] at c1; exact of_decide_eq_true c1.2
    exact ⟨v, toPy (res M x), rfl, dp_res rh p1 h1, c2.1, c2.2, nodict _ p1, Nat.le_trans (depth_toPy _) p2, ql_self q rh datS⟩
  · exact (has_no hd).elim
end
/-! ### the room of a repr -/
mutual
/-- every int in it is below 2 ^ 1900 -/
def smallD : D → Prop
  | .int i => i.natAbs < 2 ^ 1900
  | .tup xs => smallL xs
  | .lst xs => smallL xs
  | _ => True
def smallL : List D → Prop
  | [] => True
  | x :: r => smallD x ∧ smallL r
end
mutual
def costD : D → Nat
  | .int _ => 1905
  | .str x => 10 * x.length + 10
  | .tup xs => costL xs + 3
  | .lst xs => costL xs + 3
  | _ => 10
def costL : List D → Nat
  | [] => 0
  | x :: r => costD x + 2 + costL r
end
theorem log2_small {i : Int} (h : i.natAbs < 2 ^ 1900) : i.natAbs.log2 < 1900 := by
  by_cases h0 : i.natAbs = 0
  · rw [h0]
    exact (show Nat.log2 0 < 1900 by decide +kernel)
  · exact (Nat.log2_lt h0).mpr h
mutual
theorem show_len : ∀ d, plain d = true → smallD d → PyData.showable (toPy d) = true ∧ (PyData.shown (toPy d)).length ≤ costD d
  | .non, _, _ => ⟨by simp only [toPy, PyData.showable], by
    have e : (PyData.shown (toPy .non)).length = 4 := rfl
    rw [e]
    simp only [costD]
    omega⟩
  | .bl b, _, _ => ⟨by simp only [toPy, PyData.showable], by
    have e : (PyData.shown (toPy (.bl b))).length ≤ 5 := by cases b <;> decide
    simp only [costD]
    omega⟩
  | .int i, _, h => by
    simp only [smallD] at h
    have l := log2_small h
    refine ⟨by simp only [toPy, PyData.showable]; exact decide_eq_true (by omega), ?_⟩
    have e := int_text_length_le (k := 1900) (by decide) l
    simp only [toPy, PyData.shown, costD]
    rw [PySem.ofString_length]
    omega
  | .str x, p, _ => by
    refine ⟨by simp only [toPy, PyData.showable], ?_⟩
    simp only [toPy, PyData.shown, costD]
    have q : PyData.strOk x = true := by simpa [plain] using p
    have hx : ∀ c ∈ x.cps.toList, c < 16 ^ 8 := by
      intro c hc
      unfold PyData.strOk at q
      rw [Array.all_eq_true'] at q
      have z := q c (Array.mem_toList_iff.mp hc)
      have z := of_decide_eq_true z
      omega
    have e := StrLaws.reprText_len x hx
    omega
  | .tup xs, p, h => by
    have z := show_lenL xs (by simpa [plain] using p) (by simpa only [smallD] using h)
    refine ⟨by simp only [toPy, PyData.showable]; exact z.1, ?_⟩
    simp only [toPy, PyData.shown, costD]
    have e := tupleText_len_le (PyData.shownAll (toPyL xs))
    have z2 := z.2
    omega
  | .lst xs, p, h => by
    have z := show_lenL xs (by simpa [plain] using p) (by simpa only [smallD] using h)
    refine ⟨by simp only [toPy, PyData.showable]; exact z.1, ?_⟩
    simp only [toPy, PyData.shown, costD]
    have e := listText_len_le (PyData.shownAll (toPyL xs))
    have z2 := z.2
    omega
  | .ty _, p, _ => by simp [plain] at p
  | .wl _, p, _ => by simp [plain] at p
  | .emp, p, _ => by simp [plain] at p
  | .own _, p, _ => by simp [plain] at p
theorem show_lenL : ∀ ds, plainL ds = true → smallL ds → PyData.showableAll (toPyL ds) = true ∧ ((PyData.shownAll (toPyL ds)).map (·.length)).sum + 2 * (PyData.shownAll (toPyL ds)).length ≤ costL ds
  | [], _, _ => ⟨by simp only [toPyL, PyData.showableAll], by simp [toPyL, PyData.shownAll, costL]⟩
  | x :: r, p, h => by
    simp only [plainL, Bool.and_eq_true] at p
    simp only [smallL] at h
    have z1 := show_len x p.1 h.1
    have z2 := show_lenL r p.2 h.2
    refine ⟨by simp only [toPyL, PyData.showableAll, z1.1, z2.1, Bool.and_self], ?_⟩
    have e1 := z1.2
    have e2 := z2.2
    simp only [toPyL, PyData.shownAll, List.map_cons, List.sum_cons, List.length_cons, costL]
    omega
end
theorem shows_of {d : D} (p : shp d = true) (h : smallD d) (c : costD d ≤ 16000000) : shows d := by
  have q : plain d = true := by
    unfold shp at p
    rw [Bool.and_eq_true] at p
    exact p.1
  have z := show_len d q h
  refine ⟨z.1, Nat.le_trans z.2 (Nat.le_trans c ?_)⟩
  rw [sizeLine_eq]
  decide
end DL
/-! DLRules: short rules for printed derivations (own work). -/
namespace DL
open PySem PySem.Spec PyProof.Rows L2
/-- what any promise over data owes: as many values as parameters, monotone, nothing raised -/
structure SpOk (n : Nat) (sp : DSp) : Prop where
  len : ∀ ds M Q E, sp ds M Q E → ds.length = n
  ms : MonoSp sp
  nx : ∀ ds M Q E, sp ds M Q E → sp ds M Q fun _ _ => False
/-- the def's object stands in the written part -/
def DefAt (K : PySem.W.Frag) (f : Addr) (fd : FuncData) : Prop := ∃ (oc : Value) (od : Option Addr) (osl : Array (Option Value)), K.lookup f = some ⟨oc, od, .func fd, osl⟩
theorem FunD.at_ {K : PySem.W.Frag} {x qual : Str} {params : Arguments} {body : List Stmt} {scope : Scope} {dvs : List V} {kws : List (Str × V)} {f : Addr} {fd : FuncData} (F : FunD K x qual params body scope dvs kws f fd) : DefAt K f fd := by
  obtain ⟨oc, od, dV, kV, doc, pm, an, cdv, ct, osl, e, lk, _⟩ := F.ex
  exact ⟨oc, od, osl, lk⟩
theorem DefAt.same {K : PySem.W.Frag} {f : Addr} {fd fd' : FuncData} (h : DefAt K f fd) (h' : DefAt K f fd') : fd = fd' := by
  obtain ⟨_, _, _, e⟩ := h
  obtain ⟨_, _, _, e'⟩ := h'
  rw [e] at e'
  cases e'
  rfl
/-- a def that is known by its name: what it promises over data -/
structure Kn (P : Program) (w : World) (K : PySem.W.Frag) (mg : Str → Option Value) (base : Heap) (k : Nat) (x : Str) (ps : List Str) (sp : DSp) : Prop where
  ex : ∃ f fd, FnG P w K mg base CX0 k f fd ps (lSp K mg sp) ∧ mg x = some (.ref f) ∧ PySem.W.keepIn K (.ref f) = true ∧ Binds K fd ps [] ∧ DefAt K f fd
  ms : MonoSp sp
/-- .. called with n values by place and the keywords ks -/
structure KnK (P : Program) (w : World) (K : PySem.W.Frag) (mg : Str → Option Value) (base : Heap) (k : Nat) (x : Str) (n : Nat) (ks : List Str) (gD : List D → List D → List D) (sp : DSp) : Prop where
  ex : ∃ f fd ps, ∃ (g : List Value → List Value → List Value) (gV : List V → List V → List V), FnG P w K mg base CX0 k f fd ps (lSp K mg sp) ∧ mg x = some (.ref f) ∧ PySem.W.keepIn K (.ref f) = true ∧ KBn K fd ps n ks g gV ∧ Puts g gV gD
  ms : MonoSp sp
section
variable {X : Cx} {E : XK} {k n m : Nat} {x : Str} {ps ks : List Str} {sp : DSp} {p pos : Pos} {e : Expr} {es : List Expr} {kws : List Keyword} {t tk : DTA} {gD : List D → List D → List D}
theorem passN {X : Cx} : Passes CX0 X E0 := fun _ _ _ _ _ _ _ h => h.elim
theorem dk_call (F : Kn X.prog X.w X.K X.mg X.base k x ps sp) (gd : X.A.guards = some []) (hr : Room k X.A) (hg : Gl X x) (ha : DA X E0 (e :: es) t) (hdb : (x == ("__debug__" : Str)) = false := by decide)
    (he : starEach (e :: es) X.env = (false, eval e X.env) :: starEach es X.env := by rfl) (hpl : (backTo pos (starEach es X.env)).any (·.1) = false := by rfl) : DE X E0 (.Call (.Name x p) (e :: es) [] pos) (dCall sp t) := by
  obtain ⟨f, fd, F1, hm, hk, hb, _⟩ := F.ex
  exact dg_call F1 F.ms gd hr hg hm hk hb passN ha hdb he hpl
theorem dk_call0 (F : Kn X.prog X.w X.K X.mg X.base k x ps sp) (gd : X.A.guards = some []) (hr : Room k X.A) (hg : Gl X x) (hdb : (x == ("__debug__" : Str)) = false := by decide) : DE X E0 (.Call (.Name x p) [] [] pos) (dCall sp dNil) := by
  obtain ⟨f, fd, F1, hm, hk, hb, _⟩ := F.ex
  exact dg_call0 F1 F.ms gd hr hg hm hk hb passN hdb
theorem dk_callK (F : KnK X.prog X.w X.K X.mg X.base k x n ks gD sp) (gd : X.A.guards = some []) (hr : Room k X.A) (hg : Gl X x) (ha : DA X E0 (e :: es) t) (hkw : DKw X E0 kws tk)
    (hl : ks.length = m := by rfl) (hall : (backToKw pos (keywordEach kws X.env)).all (·.1.isSome) = true := by rfl) (hks : (backToKw pos (keywordEach kws X.env)).filterMap (·.1) = ks := by rfl)
    (hdb : (x == ("__debug__" : Str)) = false := by decide) (he : starEach (e :: es) X.env = (false, eval e X.env) :: starEach es X.env := by rfl)
    (hpl : ((backTo pos (starEach (e :: es) X.env)).any (·.1) || (backToKw pos (keywordEach kws X.env)).any (·.1.isNone)) = false := by rfl) : DE X E0 (.Call (.Name x p) (e :: es) kws pos) (dCallK n m sp gD t tk) := by
  obtain ⟨f, fd, ps, g, gV, F1, hm, hk, hb, pg⟩ := F.ex
  exact dg_callK F1 F.ms gd hr hg hm hk hb pg passN ha hkw hl hall hks hdb he hpl
theorem dk_callK0 (F : KnK X.prog X.w X.K X.mg X.base k x 0 ks gD sp) (gd : X.A.guards = some []) (hr : Room k X.A) (hg : Gl X x) (hkw : DKw X E0 kws tk)
    (hl : ks.length = m := by rfl) (hall : (backToKw pos (keywordEach kws X.env)).all (·.1.isSome) = true := by rfl) (hks : (backToKw pos (keywordEach kws X.env)).filterMap (·.1) = ks := by rfl)
    (hdb : (x == ("__debug__" : Str)) = false := by decide)
    (hpl : ((backTo pos (starEach [] X.env)).any (·.1) || (backToKw pos (keywordEach kws X.env)).any (·.1.isNone)) = false := by rfl) : DE X E0 (.Call (.Name x p) [] kws pos) (dCallK 0 m sp gD dNil tk) := by
  obtain ⟨f, fd, ps, g, gV, F1, hm, hk, hb, pg⟩ := F.ex
  exact dg_callK0 F1 F.ms gd hr hg hm hk hb pg passN hkw hl hall hks hdb hpl
/-- a built-in type as a value -/
theorem de_ty (c : Ty) {x : Str} (hg : Gl X x) (hm : X.mg x = none) (hv : bootBuiltins x = some (.type c.name)) (hn : x ≠ "__name__" := by decide) (hd : (x == ("__debug__" : Str)) = false := by decide) : DE X E (.Name x pos) (dC (.ty c)) :=
  de_c (pe_bltn (v := .ty c.name) hg hm hv rfl hn hd) fun W => by simp only [DatR]
/-- an empty dict -/
theorem de_emp : DE X E (.Dict [] [] pos) (dC .emp) where
  run := pe_w pe_dnewK fun σ H Q h => by
    obtain ⟨W, s, M, rh, rs, q⟩ := h
    intro p np
    obtain ⟨l, r2⟩ := rh.add (o := .dK []) np
    refine q _ _ _ l r2 ?_
    simp only [DatR]
    exact ⟨p, rfl, upd_same⟩
  mono := mono_C
/-- an iterable that is a list or a tuple -/
theorem di_seq {tg l : Expr} {ta : DTE} (h : DE X E l ta) : DIt X E tg l (dIt ta) where
  run := by
    constructor
    intro pins s σ H R I hw
    have h0 : lE X.K X.mg E ta σ H fun x H1 => ∃ a, x = .ref a ∧ ((∃ xs, SqL X.K H1 a xs) ∧ R (Itl X.K a) H1 ∨ (∃ xs, SqT X.K H1 a xs) ∧ R (Itt X.K a) H1) := by
      obtain ⟨W, sl, M, rh, rs, q⟩ := hw
      refine ⟨W, sl, M, rh, rs, h.mono _ _ _ _ _ _ ?_ (fun _ _ z => z) q⟩
      intro d M1 h1 W1 v H1 l1 rh1 d1
      cases d with
      | lst xs =>
        simp only [DatR] at d1
        obtain ⟨a, vs, rfl, e1, e2, e3⟩ := d1
        have sl : SqL X.K W1.G a vs := .inl (.inl e1)
        exact ⟨a, rfl, .inl ⟨⟨vs, Same.seq rh1.sub sl⟩, h1 W1 H1 _ l1 rh1 (walks_list sl e3 e2)⟩⟩
      | wl xs =>
        simp only [DatR] at d1
        obtain ⟨a, vs, rfl, sl, e2, e3⟩ := d1
        exact ⟨a, rfl, .inl ⟨⟨vs, Same.seq rh1.sub sl⟩, h1 W1 H1 _ l1 rh1 (walks_list sl e3 e2)⟩⟩
      | tup xs =>
        simp only [DatR] at d1
        obtain ⟨a, vs, rfl, sl, e2, e3⟩ := d1
        exact ⟨a, rfl, .inr ⟨⟨vs, Same.seqT rh1.sub sl⟩, h1 W1 H1 _ l1 rh1 (walks_tup sl e3 e2)⟩⟩
      | _ => exact h1.elim
    refine thn (h.run.run pins s σ H _ I h0) ?_
    intro v s1 z
    obtain ⟨x, H1, I1, r1, a, rfl, z⟩ := z
    have r1 : v = .ref a := r1
    subst r1
    have at0 : ∀ b ∈ [s1.heap.objs.size], FpOk X pins H1 b := by
      intro b hb
      have e : b = s1.heap.objs.size := by simpa using hb
      subst e
      exact I1.fpOk (Nat.le_refl _) (I1.hok.fresh (Nat.le_refl _))
    rcases z with ⟨⟨xs, hq⟩, q⟩ | ⟨⟨xs, hq⟩, q⟩
    · obtain ⟨its, rv, pl, hz⟩ := I1.list hq
      exact wpAny_pyIter_list pl.isList ⟨_, [s1.heap.objs.size], _, _, H1, rfl, I1.kept (t' := s1.toks) (fun b o e => Heap.get?_push_of_some _ e), turn_list a _, ⟨_, Heap.get?_push_size _ rfl, rfl, rfl⟩, at0, q⟩
    · obtain ⟨its, rv, pl, hz⟩ := I1.tuple hq
      exact wpAny_pyIter_tuple (show s1.heap.IsTuple a its.toArray from pl) ⟨_, [s1.heap.objs.size], _, _, H1, rfl, I1.kept (t' := s1.toks) (fun b o e => Heap.get?_push_of_some _ e), turn_tuple a _, ⟨_, Heap.get?_push_size _ rfl, rfl, rfl⟩, at0, q⟩
  mono := mono_It h.mono
end
/-! ### how keywords bind where nothing is left out -/
section
variable {K : PySem.W.Frag} {x qual : Str} {params : Arguments} {body : List Stmt} {scope : Scope} {kws : List (Str × V)} {f : Addr} {fd : FuncData} {ps : List Str}
theorem kbn_of (F : FunD K x qual params body scope [] kws f fd) (n : Nat) (ks : List Str) (g : List Value → List Value → List Value) (gV : List V → List V → List V)
    (hg : ∀ {vs : List V} {us : List Value} {zs : List V} {ws : List Value}, Vals vs us → Vals zs ws → Vals (gV vs zs) (g us ws))
    (h : ∀ (kV doc pm : Value) (an : Option Addr) (cdv ct : Value) (us ws : List Value), us.length = n → ws.length = ks.length → bindArgs (PySem.W.fnOf x qual params body scope .none kV doc pm an cdv ct) ⟨us, ks.zip ws⟩ = pure (ps.zip (g us ws))) : KBn K fd ps n ks g gV := by
  obtain ⟨oc, od, dV, kV, doc, pm, an, cdv, ct, osl, rfl, lk, hcd, hD, hK⟩ := F.ex
  rcases hD with ⟨_, rfl⟩ | ⟨e, _⟩
  · exact ⟨fun s us ws _ l1 l2 => .of_eq (h kV doc pm an cdv ct us ws l1 l2), hg⟩
  · exact absurd rfl e
/-- the values in the order of the places is: is[i] < n a place of the first list, else of the second -/
def order {α : Type} (n : Nat) (is : List Nat) (us ws : List α) : List α := is.filterMap fun i => if i < n then us[i]? else ws[i - n]?
theorem order_vals {n : Nat} {vs : List V} {us : List Value} {zs : List V} {ws : List Value} (r : Vals vs us) (q : Vals zs ws) : ∀ is, Vals (order n is vs zs) (order n is us ws)
  | [] => .nil
  | i :: is => by
    have ih := order_vals (n := n) r q is
    unfold order at ih ⊢
    rw [List.filterMap_cons, List.filterMap_cons]
    by_cases h : i < n
    · rw [if_pos h, if_pos h]
      cases e : vs[i]? with
      | none =>
        rw [r.none_of e]
        exact ih
      | some v =>
        obtain ⟨u, e2, rv⟩ := r.get e
        rw [e2]
        exact .cons rv ih
    · rw [if_neg h, if_neg h]
      cases e : zs[i - n]? with
      | none =>
        rw [q.none_of e]
        exact ih
      | some v =>
        obtain ⟨u, e2, rv⟩ := q.get e
        rw [e2]
        exact .cons rv ih
theorem order_dat {K : PySem.W.Frag} {W : Wld} {n : Nat} {ds es : List D} {vs ws : List V} (r : DatL K W ds vs) (q : DatL K W es ws) : ∀ is, DatL K W (order n is ds es) (order n is vs ws)
  | [] => .nil
  | i :: is => by
    have ih := order_dat (n := n) r q is
    unfold order at ih ⊢
    rw [List.filterMap_cons, List.filterMap_cons]
    by_cases h : i < n
    · rw [if_pos h, if_pos h]
      cases e : ds[i]? with
      | none =>
        rw [List.getElem?_eq_none (by rw [r.len]; exact List.getElem?_eq_none_iff.mp e)]
        exact ih
      | some v =>
        obtain ⟨u, e2, rv⟩ := r.get e
        rw [e2]
        exact .cons rv ih
    · rw [if_neg h, if_neg h]
      cases e : es[i - n]? with
      | none =>
        rw [List.getElem?_eq_none (by rw [q.len]; exact List.getElem?_eq_none_iff.mp e)]
        exact ih
      | some v =>
        obtain ⟨u, e2, rv⟩ := q.get e
        rw [e2]
        exact .cons rv ih
theorem puts_order (n : Nat) (is : List Nat) : Puts (fun us ws => order n is us ws) (fun us ws => order n is us ws) (fun us ws => order n is us ws) := ⟨fun r q => order_dat r q is⟩
end
end DL
/-! DLHead: facts of the top by names, a law's end (own work). -/
namespace DL
open PySem PySem.Spec PyProof.Rows L2
/-- what is looked at behind the top: the layer's facts and further ones -/
abbrev AlX : Type := He.AlD × Bool
def obsX (fa : List He.Fa) (fn : List He.DefD) (bx : List (PySem.W.Frag → Bool)) (K : PySem.W.Frag) : AlX := (He.obsD fa fn K, bx.all fun f => f K)
def SaysX (fa : List He.Fa) (fn : List He.DefD) (bx : List (PySem.W.Frag → Bool)) (K : PySem.W.Frag) : Prop := obsX fa fn bx K = (He.valD fn, true)
def obsXG (n : Nat) (fa : List He.Fa) (fn : List He.DefD) (bx : List (PySem.W.Frag → Bool)) (g : Addr → Option Obj) : AlX := obsX fa fn bx (He.frG g (He.asD g n))
def hookX (n : Nat) (fa : List He.Fa) (fn : List He.DefD) (bx : List (PySem.W.Frag → Bool)) : PySem.W.Hook where
  α := AlX
  obs := fun s => obsXG n fa fn bx s.heap.get?
  val := fun _ => (He.valD fn, true)
  says := fun _ h => ∃ K : PySem.W.Frag, K.In h ∧ SaysX fa fn bx K
  of := fun _ _ e => ⟨_, He.frG_in, e⟩
  keeps := fun _ _ _ z k => let ⟨K, hK, c⟩ := z; ⟨K, PySem.W.Frag.In.keeps hK k, c⟩
theorem obsXG_eq {n : Nat} {fa : List He.Fa} {fn : List He.DefD} {bx : List (PySem.W.Frag → Bool)} {g : Addr → Option Obj} {s : Shared} (h : ∀ a, g a = s.heap.get? a) : obsXG n fa fn bx g = (hookX n fa fn bx).obs s := by
  have e : g = s.heap.get? := funext h
  subst e
  rfl
section
variable {fa : List He.Fa} {fn : List He.DefD} {bx : List (PySem.W.Frag → Bool)} {K : PySem.W.Frag}
theorem SaysX.d (c : SaysX fa fn bx K) : He.SaysD fa fn K := congrArg (fun z : AlX => z.1) c
theorem SaysX.b (c : SaysX fa fn bx K) (i : Nat) {f : PySem.W.Frag → Bool} (h : bx[i]? = some f) : f K = true := by
  have e : (bx.all fun f => f K) = true := congrArg (fun z : AlX => z.2) c
  exact List.all_eq_true.mp e f (List.mem_of_getElem? h)
/-- a module's tuple -/
theorem dat_tupB {x : Str} {vs : List He.Dv} {ds : List D} {W : Wld} (h : He.tupB K x vs = true) (hl : ds.length ≤ 1000) (hd : DatL K W ds (vs.map (He.Dv.v K))) : DatR K W (.tup ds) (.ref (He.ga K x)) := by
  simp only [DatR]
  exact ⟨_, _, rfl, He.tupB_ok h W.G, Nat.le_of_lt (small1000 hl), hd⟩
end
theorem datL_ints {K : PySem.W.Frag} {W : Wld} : ∀ ns : List Int, DatL K W (ns.map D.int) (ns.map V.int)
  | [] => .nil
  | n :: r => .cons datI (datL_ints r)
/-- the law's def, over data: the script is only read -/
theorem law_end {P : Program} {w : World} {K : PySem.W.Frag} {mg : Str → Option Value} {h : Heap} {k : Nat} {x : Str} {st : Stmt} {sp : DSp} (KX : K.In h)
    (hd : ∃ fd, FunD K "law" "law" (defArgs st) (defBody st) (defScope st) [] [] (He.ga K "law") fd) (hm : mg "law" = some (.ref (He.ga K "law")))
    (F : ∀ base : Heap, Kn P w K mg base k "law" [x] sp)
    (hb : ∀ (kV doc pm : Value) (an : Option Addr) (cdv ct : Value) (us : List Value), us.length = 1 → bindArgs (PySem.W.fnOf "law" "law" (defArgs st) (defBody st) (defScope st) .none kV doc pm an cdv ct) ⟨us, []⟩ = pure ([x].zip us))
    (hs : ∀ (ns : List Int) (M : Sto) (Q : DK) (E : DXK), ns.length ≤ 63 → (∀ M', Q (.bl true) M') → sp [.wl (ns.map D.int)] M Q E) :
    ∃ (K' : PySem.W.Frag) (fd : FuncData) (sp' : Sp), K'.In h ∧ (∀ (s : Shared) (u : Value), BindsTo s fd ⟨[u], []⟩ [(x, u)]) ∧
        (∀ (H : Hp) (a : Addr) (ns : List Int), ns.length ≤ 63 → SqL K' H a (ns.map V.int) → sp' [.ref a] H (fun v _ => v = .bl true) fun _ _ _ => False) ∧
        ∀ base : Heap, K'.In base → base.Ns mainGlobals mg → FnG P w K' mg base CX0 k (He.ga K "law") fd [x] sp' := by
  obtain ⟨fd, F0⟩ := hd
  have bd := FunD.bindsA (ps := [x]) F0 hb
  refine ⟨K, fd, lSp K mg sp, KX, fun s v => bd s [v] rfl, ?_, ?_⟩
  · intro H a ns hl hS
    refine ⟨⟨H, [], fun _ => none⟩, [], [.wl (ns.map D.int)], ⟨Same.refl _, rfl, List.nodup_nil, ?_, ?_, ?_, ?_⟩, ?_, hs ns _ _ _ hl ?_⟩
    · intro j ds e
      simp at e
    · intro j a e
      simp at e
    · intro b u e
      cases e
    · intro b e
      exact absurd rfl e
    · refine .cons ?_ .nil
      simp only [DatR]
      exact ⟨a, ns.map V.int, rfl, hS, by rw [List.length_map, sizeLine_eq]; omega, datL_ints ns⟩
    · intro M' W' v H' l r d
      exact dat_bl d
  · intro base hK hN
    obtain ⟨f, fd2, G, hm2, hk2, hb2, at2⟩ := (F base).ex
    rw [hm] at hm2
    cases hm2
    cases at2.same (FunD.at_ F0)
    exact G
end DL
/-! DLEval: the readings step by step from the head: each lemma by rfl; what comes behind is named, never opened ahead of its turn (own work). -/
namespace DL
open PySem
def kR (Q : DK) (M : Sto) : D → Prop := fun d => Q d M
def kF : DX → Prop := fun _ => False
def kF2 : DXK := fun _ _ => False
def kX (E : DXK) (M : Sto) : DX → Prop := fun x => E x M
def kB2 (f : Sto → D → D → Res) (x : D) (Q : DK) : DK := fun y M2 => ap (f M2 x y) (kR Q M2) kF
def kB1 (f : Sto → D → D → Res) (tb : DTE) (s : Sl) (Q : DK) (E : DXK) : DK := fun x M1 => tb s M1 (kB2 f x Q) E
def kU (f : Sto → D → Res) (Q : DK) : DK := fun x M1 => ap (f M1 x) (kR Q M1) kF
def kC2 (x : D) (Q : List D → Sto → Prop) : List D → Sto → Prop := fun xs M2 => Q (x :: xs) M2
def kC1 (tr : DTA) (s : Sl) (Q : List D → Sto → Prop) (E : DXK) : DK := fun x M1 => tr s M1 (kC2 x Q) E
def kFn (f : Sto → List D → Res) (Q : DK) : List D → Sto → Prop := fun xs M1 => ap (f M1 xs) (kR Q M1) kF
def kTup (Q : DK) : List D → Sto → Prop := fun xs M1 => xs.length ≤ sizeLine ∧ Q (.tup xs) M1
def kLst (Q : DK) : List D → Sto → Prop := fun xs M1 => xs.length ≤ sizeLine ∧ Q (.lst xs) M1
def kLstO (Q : DK) : List D → Sto → Prop := fun xs M1 => xs.length ≤ sizeLine ∧ Q (.own M1.length) (M1 ++ [some xs])
def kCall (sp : DSp) (Q : DK) (E : DXK) : List D → Sto → Prop := fun xs M1 => sp xs M1 Q E
def kK2 (n m : Nat) (sp : DSp) (g : List D → List D → List D) (xs : List D) (Q : DK) (E : DXK) : List D → Sto → Prop := fun ys M2 => xs.length = n ∧ ys.length = m ∧ sp (g xs ys) M2 Q E
def kK1 (n m : Nat) (sp : DSp) (g : List D → List D → List D) (tk : DTA) (s : Sl) (Q : DK) (E : DXK) : List D → Sto → Prop := fun xs M1 => tk s M1 (kK2 n m sp g xs Q E) E
def kBool (Q : Bool → Sto → Prop) : DK := fun d M1 => match d with
  | .bl b => Q b M1
  | _ => False
def kAnd (u : DTT) (s : Sl) (Q : Bool → Sto → Prop) (E : DXK) : Bool → Sto → Prop := fun b M1 => if b = true then u s M1 Q E else Q false M1
def kOr (u : DTT) (s : Sl) (Q : Bool → Sto → Prop) (E : DXK) : Bool → Sto → Prop := fun b M1 => if b = true then Q true M1 else u s M1 Q E
def kNot (Q : Bool → Sto → Prop) : Bool → Sto → Prop := fun b M1 => Q (!b) M1
def kAndV (u : DTE) (s : Sl) (Q : DK) (E : DXK) : DK := fun d M1 => match d with
  | .bl b => if b = true then u s M1 Q E else Q (.bl false) M1
  | _ => False
def kOrV (u : DTE) (s : Sl) (Q : DK) (E : DXK) : DK := fun d M1 => match d with
  | .bl b => if b = true then Q (.bl true) M1 else u s M1 Q E
  | _ => False
def kNotV (Q : DK) : DK := fun d M1 => match d with
  | .bl b => Q (.bl (!b)) M1
  | _ => False
def kIfE (t u : DTE) (s : Sl) (Q : DK) (E : DXK) : Bool → Sto → Prop := fun b M1 => if b = true then t s M1 Q E else u s M1 Q E
def kCh4 (g : Sto → D → D → Res) (y : D) (Q : DK) : DK := fun z M3 => ap (g M3 y z) (kR Q M3) kF
def kCh3 (g : Sto → D → D → Res) (y : D) (tc : DTE) (s : Sl) (M2 : Sto) (Q : DK) (E : DXK) : D → Prop := fun d => match d with
  | .bl b => if b = true then tc s M2 (kCh4 g y Q) E else Q (.bl false) M2
  | _ => False
def kCh2 (f g : Sto → D → D → Res) (x : D) (tc : DTE) (s : Sl) (Q : DK) (E : DXK) : DK := fun y M2 => ap (f M2 x y) (kCh3 g y tc s M2 Q E) kF
def kCh1 (f g : Sto → D → D → Res) (tb tc : DTE) (s : Sl) (Q : DK) (E : DXK) : DK := fun x M1 => tb s M1 (kCh2 f g x tc s Q E) E
def kAsg (g : DTG) (s : Sl) (nx : Sl → Sto → Prop) : DK := fun d M1 => g d s M1 nx
def kIf (t u : DTS) (D0 : DEnd) (s : Sl) : Bool → Sto → Prop := fun b M1 => if b = true then t D0 s M1 else u D0 s M1
def kDrop (s : Sl) (nx : Sl → Sto → Prop) : DK := fun _ M1 => nx s M1
def kPar (i j : Nat) (s : Sl) (nx : Sl → Sto → Prop) : List D → Sto → Prop := fun ds M1 => match ds with
  | [x, y] => nx (put (put s i (some x)) j (some y)) M1
  | _ => False
def kFor (g : DTG) (tb : DTS) (D0 : DEnd) (s : Sl) : List D → Sto → Prop := fun xs M1 => forD g tb xs D0 s M1
def kForB (g : DTG) (tb : DTS) (r : List D) (D0 : DEnd) : Sl → Sto → Prop := fun s1 M1 => tb { D0 with nx := forD g tb r D0, ct := forD g tb r D0, bk := D0.nx } s1 M1
def kIt (Q : List D → Sto → Prop) : DK := fun d M1 => match items d with
  | some xs => Q xs M1
  | none => False
def kRng1 (Q : List D → Sto → Prop) : List D → Sto → Prop := fun ds M1 => match ds with
  | [.int j] => (-(2 ^ 62) ≤ j ∧ j < 2 ^ 62 ∧ j.toNat ≤ sizeLine) ∧ Q (intsD 0 j.toNat) M1
  | _ => False
def kRng2 (Q : List D → Sto → Prop) : List D → Sto → Prop := fun ds M1 => match ds with
  | [.int i, .int j] => ((-(2 ^ 62) ≤ i ∧ i < 2 ^ 62 ∧ -(2 ^ 62) ≤ j ∧ j < 2 ^ 62) ∧ (j - i).toNat ≤ sizeLine) ∧ Q (intsD i (j - i).toNat) M1
  | _ => False
def kComp (g : DTG) (tt : DTT) (te : DTE) (vs : List Nat) (s : Sl) (Q : DK) : List D → Sto → Prop := fun xs M1 => compD g tt te xs (wiped s vs) M1 (fun ys M2 => Q (.lst ys) M2) kF2
def kGs (gs : DTGs) (r : List D) (nx : Sl → Sto → Prop) : Sl → Sto → Prop := fun s1 M1 => gs r s1 M1 nx
def kIx2 (d : D) (s : Sl) (nx : Sl → Sto → Prop) (x : D) : DK := fun y M2 => match x, y with
  | .own k, .int i => (match M2[k]? with
    | some (some ds) => (match ixD ds.length i with
      | some j => nx s (M2.set k (some (ds.set j d)))
      | none => False)
    | _ => False)
  | _, _ => False
def kIx1 (ti : DTE) (d : D) (s : Sl) (nx : Sl → Sto → Prop) : DK := fun x M1 => ti s M1 (kIx2 d s nx x) kF2
def seqNx (u : DTS) (D0 : DEnd) : Sl → Sto → Prop := fun s M => u D0 s M
section
variable {t u : DTS} {D0 : DEnd} {s : Sl} {M M1 : Sto} {Q : DK} {QA : List D → Sto → Prop} {QB : Bool → Sto → Prop} {E : DXK} {ta tb tc : DTE} {tr tk : DTA} {c c2 : DTT} {g : DTG} {gs : DTGs} {nx : Sl → Sto → Prop} {ti : DTI}
theorem e_Seq : dSeq t u D0 s M = t ⟨seqNx u D0, D0.rt, D0.xs, D0.bk, D0.ct⟩ s M := rfl
theorem e_seqNx : seqNx u D0 s M = u D0 s M := rfl
theorem e_Next : dNext D0 s M = D0.nx s M := rfl
theorem e_Asg : dAsg ta g D0 s M = ta s M (kAsg g s D0.nx) D0.xs := rfl
theorem e_kAsg {d} : kAsg g s nx d M = g d s M nx := rfl
theorem e_Ret : dRet ta D0 s M = ta s M D0.rt D0.xs := rfl
theorem e_RetN : dRetN D0 s M = D0.rt .non M := rfl
theorem e_If : dIf c t u D0 s M = c s M (kIf t u D0 s) D0.xs := rfl
theorem e_kIfT : kIf t u D0 s true M = t D0 s M := rfl
theorem e_kIfF : kIf t u D0 s false M = u D0 s M := rfl
theorem e_kIf {b : Bool} : kIf t u D0 s b M = ((b = true → t D0 s M) ∧ (b = false → u D0 s M)) := by
  cases b
  · exact propext ⟨fun h => ⟨fun z => (by cases z), fun _ => h⟩, fun h => h.2 rfl⟩
  · exact propext ⟨fun h => ⟨fun _ => h, fun z => (by cases z)⟩, fun h => h.1 rfl⟩
theorem e_Drop : dDrop ta D0 s M = ta s M (kDrop s D0.nx) D0.xs := rfl
theorem e_kDrop {d} : kDrop s nx d M = nx s M := rfl
theorem e_Par {i j} : dPar i j tr D0 s M = tr s M (kPar i j s D0.nx) D0.xs := rfl
theorem e_kPar {i j x y} : kPar i j s nx [x, y] M = nx (put (put s i (some x)) j (some y)) M := rfl
theorem e_For : dFor ti g t D0 s M = ti s M (kFor g t D0 s) D0.xs := rfl
theorem e_kFor {xs} : kFor g t D0 s xs M = forD g t xs D0 s M := rfl
theorem e_for0 : forD g t [] D0 s M = D0.nx s M := rfl
theorem e_for1 {x r} : forD g t (x :: r) D0 s M = g x s M (kForB g t r D0) := rfl
theorem e_kForB {r} : kForB g t r D0 s M = t ⟨forD g t r D0, D0.rt, D0.xs, D0.nx, forD g t r D0⟩ s M := rfl
theorem e_C {d} : dC d s M Q E = Q d M := rfl
def kVar (Q : DK) (M : Sto) : Option D → Prop
  | some d => Q d M
  | none => False
theorem e_Var {i} : dVar i s M Q E = kVar Q M (look s i) := by
  unfold dVar kVar
  cases look s i <;> rfl
theorem e_kVar {d} : kVar Q M (some d) = Q d M := rfl
theorem e_Bin {f} : dBin f ta tb s M Q E = ta s M (kB1 f tb s Q E) E := rfl
theorem e_kB1 {f x} : kB1 f tb s Q E x M = tb s M (kB2 f x Q) E := rfl
theorem e_kB2 {f x y} : kB2 f x Q y M = ap (f M x y) (kR Q M) kF := rfl
theorem e_kR {d} : kR Q M d = Q d M := rfl
theorem e_kF {x} : kF x = False := rfl
theorem e_kF2 {x} : kF2 x M = False := rfl
theorem e_kX {x} : kX E M x = E x M := rfl
theorem e_Un {f} : dUn f ta s M Q E = ta s M (kU f Q) E := rfl
theorem e_kU {f x} : kU f Q x M = ap (f M x) (kR Q M) kF := rfl
theorem e_Nil : dNil s M QA E = QA [] M := rfl
theorem e_Cons : dCons ta tr s M QA E = ta s M (kC1 tr s QA E) E := rfl
theorem e_kC1 {x} : kC1 tr s QA E x M = tr s M (kC2 x QA) E := rfl
theorem e_kC2 {x xs} : kC2 x QA xs M = QA (x :: xs) M := rfl
theorem e_Fn {f} : dFn f tr s M Q E = tr s M (kFn f Q) E := rfl
theorem e_kFn {f xs} : kFn f Q xs M = ap (f M xs) (kR Q M) kF := rfl
theorem e_Tup : dTup tr s M Q E = tr s M (kTup Q) E := rfl
theorem e_Lst : dLst tr s M Q E = tr s M (kLst Q) E := rfl
theorem e_LstO : dLstO tr s M Q E = tr s M (kLstO Q) E := rfl
theorem small_line {n : Nat} (h : n ≤ 1000) : (n ≤ sizeLine) = True := eq_true (Nat.le_of_lt (L2.small1000 h))
theorem e_kTup {xs} : kTup Q xs M = (xs.length ≤ sizeLine ∧ Q (.tup xs) M) := rfl
theorem e_kLst {xs} : kLst Q xs M = (xs.length ≤ sizeLine ∧ Q (.lst xs) M) := rfl
theorem e_kLstO {xs} : kLstO Q xs M = (xs.length ≤ sizeLine ∧ Q (.own M.length) (M ++ [some xs])) := rfl
theorem e_Call {sp} : dCall sp tr s M Q E = tr s M (kCall sp Q E) E := rfl
theorem e_kCall {sp xs} : kCall sp Q E xs M = sp xs M Q E := rfl
theorem e_CallK {n m sp g'} : dCallK n m sp g' tr tk s M Q E = tr s M (kK1 n m sp g' tk s Q E) E := rfl
theorem e_kK1 {n m sp g' xs} : kK1 n m sp g' tk s Q E xs M = tk s M (kK2 n m sp g' xs Q E) E := rfl
theorem e_kK2 {n m sp g' xs ys} : kK2 n m sp g' xs Q E ys M = (xs.length = n ∧ ys.length = m ∧ sp (g' xs ys) M Q E) := rfl
theorem e_T : dT ta s M QB E = ta s M (kBool QB) E := rfl
theorem e_kBool {b} : kBool QB (.bl b) M = QB b M := rfl
theorem e_And : dAnd c c2 s M QB E = c s M (kAnd c2 s QB E) E := rfl
theorem e_kAndT : kAnd c2 s QB E true M = c2 s M QB E := rfl
theorem e_kAndF : kAnd c2 s QB E false M = QB false M := rfl
theorem e_kAnd {b : Bool} : kAnd c2 s QB E b M = ((b = true → c2 s M QB E) ∧ (b = false → QB false M)) := by
  cases b
  · exact propext ⟨fun h => ⟨fun z => (by cases z), fun _ => h⟩, fun h => h.2 rfl⟩
  · exact propext ⟨fun h => ⟨fun _ => h, fun z => (by cases z)⟩, fun h => h.1 rfl⟩
theorem e_Or : dOr c c2 s M QB E = c s M (kOr c2 s QB E) E := rfl
theorem e_kOrT : kOr c2 s QB E true M = QB true M := rfl
theorem e_kOrF : kOr c2 s QB E false M = c2 s M QB E := rfl
theorem e_kOr {b : Bool} : kOr c2 s QB E b M = ((b = true → QB true M) ∧ (b = false → c2 s M QB E)) := by
  cases b
  · exact propext ⟨fun h => ⟨fun z => (by cases z), fun _ => h⟩, fun h => h.2 rfl⟩
  · exact propext ⟨fun h => ⟨fun _ => h, fun z => (by cases z)⟩, fun h => h.1 rfl⟩
theorem e_Not : dNot c s M QB E = c s M (kNot QB) E := rfl
theorem e_kNot {b} : kNot QB b M = QB (!b) M := rfl
theorem e_AndV : dAndV ta tb s M Q E = ta s M (kAndV tb s Q E) E := rfl
theorem e_kAndVT : kAndV tb s Q E (.bl true) M = tb s M Q E := rfl
theorem e_kAndVF : kAndV tb s Q E (.bl false) M = Q (.bl false) M := rfl
theorem e_kAndV {b : Bool} : kAndV tb s Q E (.bl b) M = ((b = true → tb s M Q E) ∧ (b = false → Q (.bl false) M)) := by
  cases b
  · exact propext ⟨fun h => ⟨fun z => (by cases z), fun _ => h⟩, fun h => h.2 rfl⟩
  · exact propext ⟨fun h => ⟨fun _ => h, fun z => (by cases z)⟩, fun h => h.1 rfl⟩
theorem e_OrV : dOrV ta tb s M Q E = ta s M (kOrV tb s Q E) E := rfl
theorem e_kOrVT : kOrV tb s Q E (.bl true) M = Q (.bl true) M := rfl
theorem e_kOrVF : kOrV tb s Q E (.bl false) M = tb s M Q E := rfl
theorem e_kOrV {b : Bool} : kOrV tb s Q E (.bl b) M = ((b = true → Q (.bl true) M) ∧ (b = false → tb s M Q E)) := by
  cases b
  · exact propext ⟨fun h => ⟨fun z => (by cases z), fun _ => h⟩, fun h => h.2 rfl⟩
  · exact propext ⟨fun h => ⟨fun _ => h, fun z => (by cases z)⟩, fun h => h.1 rfl⟩
theorem e_NotV : dNotV ta s M Q E = ta s M (kNotV Q) E := rfl
theorem e_kNotV {b} : kNotV Q (.bl b) M = Q (.bl (!b)) M := rfl
theorem e_IfE : dIfE c ta tb s M Q E = c s M (kIfE ta tb s Q E) E := rfl
theorem e_kIfET : kIfE ta tb s Q E true M = ta s M Q E := rfl
theorem e_kIfEF : kIfE ta tb s Q E false M = tb s M Q E := rfl
theorem e_kIfE {b : Bool} : kIfE ta tb s Q E b M = ((b = true → ta s M Q E) ∧ (b = false → tb s M Q E)) := by
  cases b
  · exact propext ⟨fun h => ⟨fun z => (by cases z), fun _ => h⟩, fun h => h.2 rfl⟩
  · exact propext ⟨fun h => ⟨fun _ => h, fun z => (by cases z)⟩, fun h => h.1 rfl⟩
theorem e_Chain {f g'} : dChain f g' ta tb tc s M Q E = ta s M (kCh1 f g' tb tc s Q E) E := rfl
theorem e_kCh1 {f g' x} : kCh1 f g' tb tc s Q E x M = tb s M (kCh2 f g' x tc s Q E) E := rfl
theorem e_kCh2 {f g' x y} : kCh2 f g' x tc s Q E y M = ap (f M x y) (kCh3 g' y tc s M Q E) kF := rfl
theorem e_kCh3T {g' y} : kCh3 g' y tc s M Q E (.bl true) = tc s M (kCh4 g' y Q) E := rfl
theorem e_kCh3F {g' y} : kCh3 g' y tc s M Q E (.bl false) = Q (.bl false) M := rfl
theorem e_kCh3 {g' y} {b : Bool} : kCh3 g' y tc s M Q E (.bl b) = ((b = true → tc s M (kCh4 g' y Q) E) ∧ (b = false → Q (.bl false) M)) := by
  cases b
  · exact propext ⟨fun h => ⟨fun z => (by cases z), fun _ => h⟩, fun h => h.2 rfl⟩
  · exact propext ⟨fun h => ⟨fun _ => h, fun z => (by cases z)⟩, fun h => h.1 rfl⟩
theorem e_kCh4 {g' y z} : kCh4 g' y Q z M = ap (g' M y z) (kR Q M) kF := rfl
theorem e_gN {i d} : gN i d s M nx = nx (put s i (some d)) M := rfl
theorem e_gT {n xs} : gT n gs (.tup xs) s M nx = (xs.length = n ∧ gs xs s M nx) := rfl
theorem e_gsNil : gsNil [] s M nx = nx s M := rfl
theorem e_gsCons {d r} : gsCons g gs (d :: r) s M nx = g d s M (kGs gs r nx) := rfl
theorem e_kGs {r} : kGs gs r nx s M = gs r s M nx := rfl
theorem e_gIx {d} : gIx ta tb d s M nx = ta s M (kIx1 tb d s nx) kF2 := rfl
theorem e_kIx1 {d x} : kIx1 tb d s nx x M = tb s M (kIx2 d s nx x) kF2 := rfl
def kIx3 (d : D) (s : Sl) (nx : Sl → Sto → Prop) (k : Nat) (i : Int) (M2 : Sto) : Option (Option (List D)) → Prop
  | some (some ds) => (match ixD ds.length i with
      | some j => nx s (M2.set k (some (ds.set j d)))
      | none => False)
  | _ => False
theorem e_kIx2 {d k i} : kIx2 d s nx (.own k) (.int i) M = kIx3 d s nx k i M (M[k]?) := by
  unfold kIx2 kIx3
  rfl
theorem e_It : dIt ta s M QA E = ta s M (kIt QA) E := rfl
theorem e_kItT {xs} : kIt QA (.tup xs) M = QA xs M := rfl
theorem e_kItL {xs} : kIt QA (.lst xs) M = QA xs M := rfl
theorem e_kItW {xs} : kIt QA (.wl xs) M = QA xs M := rfl
theorem e_Rng1 : dRng1 tr s M QA E = tr s M (kRng1 QA) E := rfl
theorem e_kRng1 {j} : kRng1 QA [.int j] M = ((-(2 ^ 62) ≤ j ∧ j < 2 ^ 62 ∧ j.toNat ≤ sizeLine) ∧ QA (intsD 0 j.toNat) M) := rfl
theorem e_Rng2 : dRng2 tr s M QA E = tr s M (kRng2 QA) E := rfl
theorem e_kRng2 {i j} : kRng2 QA [.int i, .int j] M = (((-(2 ^ 62) ≤ i ∧ i < 2 ^ 62 ∧ -(2 ^ 62) ≤ j ∧ j < 2 ^ 62) ∧ (j - i).toNat ≤ sizeLine) ∧ QA (intsD i (j - i).toNat) M) := rfl
theorem e_Comp {tt te vs} : dComp ti g tt te vs s M Q E = ti s M (kComp g tt te vs s Q) E := rfl
theorem e_kComp {tt te vs xs} : kComp g tt te vs s Q xs M = compD g tt te xs (wiped s vs) M (fun ys M2 => Q (.lst ys) M2) kF2 := rfl
theorem e_Yes : dYes s M QB E = QB true M := rfl
theorem e_ap1 {d} {R : D → Prop} {F : DX → Prop} : ap (.ok d) R F = R d := rfl
theorem e_ap2 {C d} {R : D → Prop} {F : DX → Prop} : ap (.side C d) R F = (C ∧ R d) := rfl
theorem e_ap3 {x} {R : D → Prop} {F : DX → Prop} : ap (.exc x) R F = F x := rfl
theorem e_ap4 {R : D → Prop} {F : DX → Prop} : ap .no R F = False := rfl
theorem e_pureSp {f ds} : pureSp f ds M Q E = ap (f ds) (kR Q M) (kX E M) := rfl
theorem e_look0 {o r} : look (o :: r) 0 = o := rfl
theorem e_look1 {o r n} : look (o :: r) (n + 1) = look r n := rfl
theorem e_put0 {o r d} : put (o :: r) 0 d = d :: r := rfl
theorem e_put1 {o r n d} : put (o :: r) (n + 1) d = o :: put r n d := rfl
theorem e_wiped0 : wiped s [] = s := rfl
theorem e_wiped1 {i r} : wiped s (i :: r) = put (wiped s r) i none := rfl
end
end DL
/-! Fra: fractions of the program are rationals in least terms (own work). -/
namespace DL
open PySem
/-- a fraction as the program has it -/
def frq (q : Rat) : D := .tup [.int q.num, .int (q.den : Int)]
def asQ : D → Option Rat
  | .tup [.int n, .int d] => if 1 ≤ d ∧ Nat.gcd n.natAbs d.natAbs = 1 then some (Rat.divInt n d) else none
  | _ => none
theorem asQ_frq (q : Rat) : asQ (frq q) = some q := by
  unfold asQ frq
  have h1 : (1 : Int) ≤ (q.den : Int) := by have := q.den_pos; omega
  have h2 : Nat.gcd q.num.natAbs ((q.den : Int)).natAbs = 1 := by
    have := q.reduced
    simpa [Nat.Coprime] using this
  show (if 1 ≤ (q.den : Int) ∧ Nat.gcd q.num.natAbs ((q.den : Int)).natAbs = 1 then some (Rat.divInt q.num (q.den : Int)) else none) = some q
  rw [if_pos ⟨h1, h2⟩, Rat.divInt_ofNat, Rat.mkRat_self]
theorem asQ_some {d : D} {q : Rat} (h : asQ d = some q) : d = frq q := by
  unfold asQ at h
  split at h
  · rename_i n m
    split at h
    · rename_i c
      cases h
      unfold frq
      have hm : m ≠ 0 := by omega
      have hg : (m.gcd n) = 1 := by
        show Nat.gcd m.natAbs n.natAbs = 1
        rw [Nat.gcd_comm]
        exact c.2
      have e1 : (Rat.divInt n m).num = n := by
        rw [Rat.num_divInt, hg, Int.sign_eq_one_of_pos (by omega)]
        simp
      have e2 : ((Rat.divInt n m).den : Int) = m := by
        rw [Rat.den_divInt, if_neg hm, hg]
        simp
        omega
      rw [e1, e2]
    · cases h
  · cases h
theorem frq_inj {a b : Rat} (h : frq a = frq b) : a = b := by
  have h1 := asQ_frq a
  rw [h, asQ_frq] at h1
  exact (Option.some.inj h1).symm
/-- the sign's gcd, as the program reckons it -/
def sgd (n d : Int) : Int := if d < 0 then 0 - ((Nat.gcd n.natAbs d.natAbs : Nat) : Int) else ((Nat.gcd n.natAbs d.natAbs : Nat) : Int)
theorem fdiv_of_dvd {a b : Int} (h : b ∣ a) : a.fdiv b = a / b := by
  by_cases h0 : b = 0
  · subst h0; simp
  · obtain ⟨c, rfl⟩ := h
    rw [Int.mul_fdiv_cancel_left _ h0, Int.mul_ediv_cancel_left _ h0]
theorem divq_num {n d : Int} (h : d ≠ 0) : n.fdiv (sgd n d) = (Rat.divInt n d).num := by
  have g0 : (d.gcd n : Nat) ≠ 0 := by
    intro z
    have := Int.gcd_eq_zero_iff.mp z
    exact h this.1
  have eg : (Nat.gcd n.natAbs d.natAbs : Nat) = d.gcd n := Nat.gcd_comm _ _
  have hd : ((d.gcd n : Nat) : Int) ∣ n := Int.gcd_dvd_right ..
  rw [Rat.num_divInt]
  unfold sgd
  rw [eg]
  split
  · rename_i c
    rw [Int.sign_eq_neg_one_of_neg c]
    have : (0 - ((d.gcd n : Nat) : Int)) = -((d.gcd n : Nat) : Int) := by omega
    rw [this, fdiv_of_dvd (Int.neg_dvd.mpr hd), Int.ediv_neg]
    obtain ⟨k, hk⟩ := hd
    have hz : ((d.gcd n : Nat) : Int) ≠ 0 := by omega
    generalize ((d.gcd n : Nat) : Int) = g at *
    subst hk
    rw [Int.mul_ediv_cancel_left _ hz]
    have : -1 * (g * k) = g * (-k) := by
      rw [Int.mul_neg, Int.neg_mul, Int.one_mul]
    rw [this, Int.mul_ediv_cancel_left _ hz]
  · rename_i c
    rw [Int.sign_eq_one_of_pos (by omega), Int.one_mul]
    exact fdiv_of_dvd hd
theorem divq_den {n d : Int} (h : d ≠ 0) : d.fdiv (sgd n d) = ((Rat.divInt n d).den : Int) := by
  have g0 : (d.gcd n : Nat) ≠ 0 := by
    intro z
    have := Int.gcd_eq_zero_iff.mp z
    exact h this.1
  have eg : (Nat.gcd n.natAbs d.natAbs : Nat) = d.gcd n := Nat.gcd_comm _ _
  have hd : ((d.gcd n : Nat) : Int) ∣ d := Int.gcd_dvd_left ..
  rw [Rat.den_divInt, if_neg h]
  unfold sgd
  rw [eg]
  have hz : ((d.gcd n : Nat) : Int) ≠ 0 := by omega
  split
  · rename_i c
    have : (0 - ((d.gcd n : Nat) : Int)) = -((d.gcd n : Nat) : Int) := by omega
    rw [this, fdiv_of_dvd (Int.neg_dvd.mpr hd), Int.ediv_neg, Int.natCast_ediv]
    have e : ((d.natAbs : Nat) : Int) = -d := by omega
    rw [e, Int.neg_ediv_of_dvd hd]
  · rename_i c
    rw [fdiv_of_dvd hd, Int.natCast_ediv]
    have e : ((d.natAbs : Nat) : Int) = d := by omega
    rw [e]
theorem frq_div {n d : Int} (h : d ≠ 0) : (D.tup [.int (n.fdiv (sgd n d)), .int (d.fdiv (sgd n d))]) = frq (Rat.divInt n d) := by
  unfold frq
  rw [divq_num h, divq_den h]
/-! ### sizes -/
def qb (k : Nat) (q : Rat) : Prop := q.num.natAbs < 2 ^ k ∧ q.den < 2 ^ k
def ib (k : Nat) (i : Int) : Prop := i.natAbs < 2 ^ k
theorem qb.mono {k m : Nat} {q : Rat} (h : qb k q) (l : k ≤ m) : qb m q :=
  ⟨Nat.lt_of_lt_of_le h.1 (Nat.pow_le_pow_right (by decide) l), Nat.lt_of_lt_of_le h.2 (Nat.pow_le_pow_right (by decide) l)⟩
theorem ib.mono {k m : Nat} {i : Int} (h : ib k i) (l : k ≤ m) : ib m i := Nat.lt_of_lt_of_le h (Nat.pow_le_pow_right (by decide) l)
theorem ib.mul {k m : Nat} {i j : Int} (h : ib k i) (h2 : ib m j) : ib (k + m) (i * j) := by
  unfold ib at *
  rw [Int.natAbs_mul, Nat.pow_add]
  exact Nat.mul_lt_mul'' h h2
theorem ib.add {k m : Nat} {i j : Int} (h : ib k i) (h2 : ib k j) (l : k < m) : ib m (i + j) := by
  unfold ib at *
  have h3 : 2 ^ (k + 1) ≤ 2 ^ m := Nat.pow_le_pow_right (by decide) l
  rw [Nat.pow_succ] at h3
  have := Int.natAbs_add_le i j
  omega
theorem ib.sub {k m : Nat} {i j : Int} (h : ib k i) (h2 : ib k j) (l : k < m) : ib m (i - j) := by
  unfold ib at *
  have h3 : 2 ^ (k + 1) ≤ 2 ^ m := Nat.pow_le_pow_right (by decide) l
  rw [Nat.pow_succ] at h3
  have := Int.natAbs_sub_le i j
  omega
theorem qb.num {k : Nat} {q : Rat} (h : qb k q) : ib k q.num := h.1
theorem qb.den {k : Nat} {q : Rat} (h : qb k q) : ib k (q.den : Int) := h.2
theorem qb_div {k : Nat} {n d : Int} (hn : ib k n) (hd : ib k d) (h1 : 1 ≤ k) : qb k (Rat.divInt n d) := by
  by_cases h : d = 0
  · subst h
    rw [Rat.divInt_zero]
    have : 1 < 2 ^ k := Nat.one_lt_two_pow (by omega)
    exact ⟨by show 0 < 2 ^ k; omega, this⟩
  · have g0 : 0 < (d.gcd n : Nat) := by
      rcases Nat.eq_zero_or_pos (d.gcd n) with z | z
      · exact absurd (Int.gcd_eq_zero_iff.mp z).1 h
      · exact z
    refine ⟨?_, ?_⟩
    · rw [Rat.num_divInt]
      have : (d.sign * n / ((d.gcd n : Nat) : Int)).natAbs ≤ n.natAbs := by
        have hd1 : ((d.gcd n : Nat) : Int) ∣ d.sign * n := Int.dvd_trans (Int.gcd_dvd_right ..) (Int.dvd_mul_left ..)
        rw [Int.natAbs_ediv_of_dvd hd1, Int.natAbs_mul, Int.natAbs_natCast]
        have : d.sign.natAbs = 1 := by
          rw [Int.natAbs_sign, if_neg h]
        rw [this, Nat.one_mul]
        exact Nat.div_le_self _ _
      exact Nat.lt_of_le_of_lt this hn
    · rw [Rat.den_divInt, if_neg h]
      exact Nat.lt_of_le_of_lt (Nat.div_le_self _ _) hd
/-! ### what is reckoned -/
theorem denI {q : Rat} : (q.den : Int) ≠ 0 := by
  have := q.den_nz
  omega
theorem denP {q : Rat} : (0 : Int) < (q.den : Int) := by
  have := q.den_pos
  omega
theorem q_self (q : Rat) : Rat.divInt q.num (q.den : Int) = q := by rw [Rat.divInt_ofNat, Rat.mkRat_self]
theorem q_add (a b : Rat) : Rat.divInt (a.num * (b.den : Int) + b.num * (a.den : Int)) ((a.den : Int) * (b.den : Int)) = a + b := by
  rw [← Rat.divInt_add_divInt _ _ denI denI, q_self, q_self]
theorem q_sub (a b : Rat) : Rat.divInt (a.num * (b.den : Int) - b.num * (a.den : Int)) ((a.den : Int) * (b.den : Int)) = a - b := by
  rw [← Rat.divInt_sub_divInt _ _ denI denI, q_self, q_self]
theorem q_mul (a b : Rat) : Rat.divInt (a.num * b.num) ((a.den : Int) * (b.den : Int)) = a * b := by
  rw [← Rat.divInt_mul_divInt, q_self, q_self]
theorem q_div (a b : Rat) : Rat.divInt (a.num * (b.den : Int)) ((a.den : Int) * b.num) = a / b := by
  rw [Rat.div_def, ← Rat.divInt_mul_divInt, q_self]
  congr 1
  rw [Rat.inv_def]
theorem q_lt (a b : Rat) : decide (a.num * (b.den : Int) < b.num * (a.den : Int)) = decide (a < b) := decide_eq_decide.mpr (Rat.lt_iff a b).symm
theorem q_int (n : Int) : Rat.divInt n 1 = (n : Rat) := by
  rw [Rat.divInt_eq_div]
  grind
theorem num_ne {q : Rat} : (q.num = 0) = (q = 0) := propext Rat.num_eq_zero
theorem q_floor (q : Rat) : q.num.fdiv (q.den : Int) = q.floor := by
  rw [Rat.floor_def]
  rw [Int.fdiv_eq_ediv_of_nonneg _ (Int.le_of_lt denP)]
end DL
/-! FraS: what the defs about fractions promise; draws from a pot (own work). -/
namespace DL
open PySem
/-! ### promises of one value -/
theorem spok_pure {n : Nat} {f : List D → Res} (hl : ∀ ds, f ds = .no ∨ ds.length = n) (hx : ∀ ds x, f ds ≠ .exc x) : SpOk n (pureSp f) where
  len := fun ds M Q E h => by
    rcases hl ds with e | e
    · unfold pureSp at h
      rw [e] at h
      exact h.elim
    · exact e
  ms := mono_pureSp
  nx := fun ds M Q E h => by
    unfold pureSp at h ⊢
    cases e : f ds with
    | no => rw [e] at h; exact h.elim
    | ok d => rw [e] at h; exact h
    | side C d => rw [e] at h; exact h
    | exc x => exact absurd e (hx ds x)
/-- one fraction, two fractions -/
def q1 (g : Rat → Prop × D) : List D → Res
  | [x] => (match asQ x with
    | some a => .side (g a).1 (g a).2
    | none => .no)
  | _ => .no
def q2 (g : Rat → Rat → Prop × D) : List D → Res
  | [x, y] => (match asQ x, asQ y with
    | some a, some b => .side (g a b).1 (g a b).2
    | _, _ => .no)
  | _ => .no
theorem q1_frq {g a} : q1 g [frq a] = .side (g a).1 (g a).2 := by
  unfold q1
  simp only [asQ_frq]
theorem q2_frq {g a b} : q2 g [frq a, frq b] = .side (g a b).1 (g a b).2 := by
  unfold q2
  simp only [asQ_frq]
theorem q1_inv {g ds} {M : Sto} {Q : DK} {E : DXK} (h : pureSp (q1 g) ds M Q E) : ∃ a, ds = [frq a] ∧ (g a).1 ∧ Q (g a).2 M := by
  unfold pureSp at h
  match ds, h with
  | [x], h =>
    cases e : asQ x with
    | none => simp only [q1, e] at h; exact h.elim
    | some a => simp only [q1, e] at h; exact ⟨a, by rw [asQ_some e], h.1, h.2⟩
  | [], h => exact h.elim
  | _ :: _ :: _, h => exact h.elim
theorem q2_inv {g ds} {M : Sto} {Q : DK} {E : DXK} (h : pureSp (q2 g) ds M Q E) : ∃ a b, ds = [frq a, frq b] ∧ (g a b).1 ∧ Q (g a b).2 M := by
  unfold pureSp at h
  match ds, h with
  | [x, y], h =>
    cases e : asQ x with
    | none => simp only [q2, e] at h; exact h.elim
    | some a =>
      cases e2 : asQ y with
      | none => simp only [q2, e, e2] at h; exact h.elim
      | some b => simp only [q2, e, e2] at h; exact ⟨a, b, by rw [asQ_some e, asQ_some e2], h.1, h.2⟩
  | [], h => exact h.elim
  | [_], h => exact h.elim
  | _ :: _ :: _ :: _, h => exact h.elim
theorem k_q1 {g} : SpOk 1 (pureSp (q1 g)) := spok_pure (fun ds => by
  unfold q1
  split
  · exact .inr rfl
  · exact .inl rfl) (fun ds x => by
  unfold q1
  split
  · split <;> simp
  · simp)
theorem k_q2 {g} : SpOk 2 (pureSp (q2 g)) := spok_pure (fun ds => by
  unfold q2
  split
  · exact .inr rfl
  · exact .inl rfl) (fun ds x => by
  unfold q2
  split
  · split <;> simp
  · simp)
/-- one int, two ints -/
def i1 (g : Int → Prop × D) : List D → Res
  | [.int a] => .side (g a).1 (g a).2
  | _ => .no
def i2 (g : Int → Int → Prop × D) : List D → Res
  | [.int a, .int b] => .side (g a b).1 (g a b).2
  | _ => .no
theorem i2_inv {g ds} {M : Sto} {Q : DK} {E : DXK} (h : pureSp (i2 g) ds M Q E) : ∃ a b, ds = [.int a, .int b] ∧ (g a b).1 ∧ Q (g a b).2 M := by
  unfold pureSp i2 at h
  split at h
  · exact ⟨_, _, rfl, h.1, h.2⟩
  · exact h.elim
theorem k_i2 {g} : SpOk 2 (pureSp (i2 g)) := spok_pure (fun ds => by
  unfold i2
  split
  · exact .inr rfl
  · exact .inl rfl) (fun ds x => by
  unfold i2
  split <;> simp)
/-- any one value -/
def d1 (g : D → Prop × D) : List D → Res
  | [x] => .side (g x).1 (g x).2
  | _ => .no
theorem d1_inv {g ds} {M : Sto} {Q : DK} {E : DXK} (h : pureSp (d1 g) ds M Q E) : ∃ a, ds = [a] ∧ (g a).1 ∧ Q (g a).2 M := by
  unfold pureSp d1 at h
  split at h
  · exact ⟨_, rfl, h.1, h.2⟩
  · exact h.elim
theorem k_d1 {g} : SpOk 1 (pureSp (d1 g)) := spok_pure (fun ds => by
  unfold d1
  split
  · exact .inr rfl
  · exact .inl rfl) (fun ds x => by
  unfold d1
  split <;> simp)
/-! ### looks at values -/
/-- not a type, not a list that may change -/
def isV : D → Bool
  | .ty _ | .own _ => false
  | _ => true
def isI : D → Bool
  | .int _ => true
  | _ => false
def sp_is_integer : DSp := pureSp (d1 fun d => (isV d = true, .bl (isI d)))
def sp_fraction : DSp := pureSp (i2 fun a b => (b ≠ 0 ∧ ib 8500 a ∧ ib 8500 b, frq (Rat.divInt a b)))
def sp_lower : DSp := pureSp (q2 fun a b => (qb 4000 a ∧ qb 4000 b, .bl (decide (a < b))))
def sp_added : DSp := pureSp (q2 fun a b => (qb 4000 a ∧ qb 4000 b, frq (a + b)))
def sp_taken : DSp := pureSp (q2 fun a b => (qb 4000 a ∧ qb 4000 b, frq (a - b)))
def sp_scaled : DSp := pureSp (q2 fun a b => (qb 4000 a ∧ qb 4000 b, frq (a * b)))
def sp_parted : DSp := pureSp (q2 fun a b => (b ≠ 0 ∧ qb 4000 a ∧ qb 4000 b, frq (a / b)))
def sp_floor_of : DSp := pureSp (q1 fun a => (qb 4000 a, .int a.floor))
def sp_ceiling_of : DSp := pureSp (q1 fun a => (qb 4000 a, .int (-(-a).floor)))
/-- a value that can be looked at: pairs with values within -/
def lookable : D → Prop
  | .ty _ => False
  | .own _ => False
  | .tup [x, y] => isV x = true ∧ isV y = true
  | _ => True
def sp_is_fraction : DSp := pureSp (d1 fun d => (lookable d, .bl (asQ d).isSome))
def sp_want_fraction : DSp := pureSp (q1 fun a => (True, frq a))
def sp_made : DSp := sp_fraction
def sp_is_less : DSp := sp_lower
def sp_plus : DSp := sp_added
def sp_minus : DSp := sp_taken
def sp_times : DSp := sp_scaled
def sp_over : DSp := sp_parted
def sp_floor : DSp := sp_floor_of
def sp_ceiling : DSp := sp_ceiling_of
theorem k_is_integer : SpOk 1 sp_is_integer := k_d1
theorem k_fraction : SpOk 2 sp_fraction := k_i2
theorem k_lower : SpOk 2 sp_lower := k_q2
theorem k_added : SpOk 2 sp_added := k_q2
theorem k_taken : SpOk 2 sp_taken := k_q2
theorem k_scaled : SpOk 2 sp_scaled := k_q2
theorem k_parted : SpOk 2 sp_parted := k_q2
theorem k_floor_of : SpOk 1 sp_floor_of := k_q1
theorem k_ceiling_of : SpOk 1 sp_ceiling_of := k_q1
theorem k_is_fraction : SpOk 1 sp_is_fraction := k_d1
theorem k_want_fraction : SpOk 1 sp_want_fraction := k_q1
theorem k_made : SpOk 2 sp_made := k_i2
theorem k_is_less : SpOk 2 sp_is_less := k_q2
theorem k_plus : SpOk 2 sp_plus := k_q2
theorem k_minus : SpOk 2 sp_minus := k_q2
theorem k_times : SpOk 2 sp_times := k_q2
theorem k_over : SpOk 2 sp_over := k_q2
theorem k_floor : SpOk 1 sp_floor := k_q1
theorem k_ceiling : SpOk 1 sp_ceiling := k_q1
/-! ### draws -/
/-- a pot at p: two ints that are not below nought, the second one below 2 ^ 32 -/
def Pot (M : Sto) (p : Nat) : Prop := ∃ a b : Int, M[p]? = some (some [.int a, .int b]) ∧ 0 ≤ a ∧ 0 ≤ b ∧ b < 2 ^ 32
/-- all lists but the one at p are as they were -/
structure Fram (p : Nat) (M M' : Sto) : Prop where
  len : M'.length = M.length
  out : ∀ j, j ≠ p → M'[j]? = M[j]?
theorem Fram.refl {p M} : Fram p M M := ⟨rfl, fun _ _ => rfl⟩
theorem Fram.trans {p M M1 M2} (a : Fram p M M1) (b : Fram p M1 M2) : Fram p M M2 := ⟨b.len.trans a.len, fun j h => (b.out j h).trans (a.out j h)⟩
def sp__law_pot : DSp := fun ds M Q _ => match ds with
  | [.wl xs, .int k] => (xs.length ≤ 63 ∧ (∃ ns : List Int, xs = ns.map D.int) ∧ 0 ≤ k ∧ k ≤ 100) ∧ ∀ a b : Int, 0 ≤ a → 0 ≤ b → b < 2 ^ 32 → Q (.own M.length) (M ++ [some [.int a, .int b]])
  | _ => False
def sp__law_draw : DSp := fun ds M Q _ => match ds with
  | [.own p, .int many] => (Pot M p ∧ 1 ≤ many ∧ ib 4000 many) ∧ ∀ (r : Int) M', 0 ≤ r → r < many → Pot M' p → Fram p M M' → Q (.int r) M'
  | _ => False
def sp__law_pick : DSp := fun ds M Q _ => match ds with
  | [.own p, .lst xs] => (Pot M p ∧ 1 ≤ xs.length ∧ xs.length ≤ 100000) ∧ ∀ d M', d ∈ xs → Pot M' p → Fram p M M' → Q d M'
  | _ => False
theorem k__law_pot : SpOk 2 sp__law_pot where
  len := fun ds M Q E h => by
    unfold sp__law_pot at h
    split at h
    · rfl
    · exact h.elim
  ms := fun ds M Q Q' E E' hq hx h => by
    unfold sp__law_pot at h ⊢
    split at h
    · exact ⟨h.1, fun a b h1 h2 h3 => hq _ _ (h.2 a b h1 h2 h3)⟩
    · exact h.elim
  nx := fun ds M Q E h => h
theorem k__law_draw : SpOk 2 sp__law_draw where
  len := fun ds M Q E h => by
    unfold sp__law_draw at h
    split at h
    · rfl
    · exact h.elim
  ms := fun ds M Q Q' E E' hq hx h => by
    unfold sp__law_draw at h ⊢
    split at h
    · exact ⟨h.1, fun r M' h1 h2 h3 h4 => hq _ _ (h.2 r M' h1 h2 h3 h4)⟩
    · exact h.elim
  nx := fun ds M Q E h => h
theorem k__law_pick : SpOk 2 sp__law_pick where
  len := fun ds M Q E h => by
    unfold sp__law_pick at h
    split at h
    · rfl
    · exact h.elim
  ms := fun ds M Q Q' E E' hq hx h => by
    unfold sp__law_pick at h ⊢
    split at h
    · exact ⟨h.1, fun d M' h1 h2 h3 => hq _ _ (h.2 d M' h1 h2 h3)⟩
    · exact h.elim
  nx := fun ds M Q E h => h
/-! ### the law's own fractions -/
def sp__law_gcd : DSp := pureSp (i2 fun a b => (True, .int ((Nat.gcd a.natAbs b.natAbs : Nat) : Int)))
def sp__law_made : DSp := sp_fraction
def sp__law_lower : DSp := sp_lower
def sp__law_plus : DSp := sp_added
def sp__law_minus : DSp := sp_taken
def sp__law_times : DSp := sp_scaled
def sp__law_over : DSp := sp_parted
def sp__law_floor : DSp := sp_floor_of
def sp__law_some : DSp := fun ds M Q _ => match ds with
  | [.own p] => Pot M p ∧ ∀ (q : Rat) M', qb 42 q → Pot M' p → Fram p M M' → Q (frq q) M'
  | _ => False
theorem k__law_gcd : SpOk 2 sp__law_gcd := k_i2
theorem k__law_made : SpOk 2 sp__law_made := k_i2
theorem k__law_lower : SpOk 2 sp__law_lower := k_q2
theorem k__law_plus : SpOk 2 sp__law_plus := k_q2
theorem k__law_minus : SpOk 2 sp__law_minus := k_q2
theorem k__law_times : SpOk 2 sp__law_times := k_q2
theorem k__law_over : SpOk 2 sp__law_over := k_q2
theorem k__law_floor : SpOk 1 sp__law_floor := k_q1
theorem k__law_some : SpOk 1 sp__law_some where
  len := fun ds M Q E h => by
    unfold sp__law_some at h
    split at h
    · rfl
    · exact h.elim
  ms := fun ds M Q Q' E E' hq hx h => by
    unfold sp__law_some at h ⊢
    split at h
    · exact ⟨h.1, fun r M' h1 h2 h3 => hq _ _ (h.2 r M' h1 h2 h3)⟩
    · exact h.elim
  nx := fun ds M Q E h => h
end DL
/-! DLStep: the operations case by case, each by rfl (own work). -/
namespace DL
open PySem
section
variable {M : Sto} {i j : Int} {a b : List D} {x y : Str} {d : D} {k : Nat}
theorem x_add : fAdd M (.int i) (.int j) = .ok (.int (i + j)) := rfl
theorem x_addS : fAdd M (.str x) (.str y) = .side (x.length + y.length ≤ sizeLine) (.str (x ++ y)) := rfl
theorem x_addT : fAdd M (.tup a) (.tup b) = .side (a ≠ [] ∧ a.length + b.length ≤ sizeLine) (.tup (a ++ b)) := rfl
theorem x_addL : fAdd M (.lst a) (.lst b) = .side (a.length + b.length ≤ sizeLine) (.lst (a ++ b)) := rfl
theorem x_sub : fSub M (.int i) (.int j) = .ok (.int (i - j)) := rfl
theorem x_mul : fMul M (.int i) (.int j) = .side (sz i ∧ sz j) (.int (i * j)) := rfl
theorem x_mulL : fMul M (.lst a) (.int i) = .side (i < 2 ^ 63 ∧ -(2 ^ 63) ≤ i ∧ a.length * i.toNat ≤ sizeLine) (.lst (List.replicate i.toNat a).flatten) := rfl
theorem x_div : fDiv M (.int i) (.int j) = .side (cDiv j) (.int (i.fdiv j)) := rfl
theorem x_mod : fMod M (.int i) (.int j) = .side (j ≠ 0) (.int (i.fmod j)) := rfl
theorem x_pow : fPow M (.int i) (.int j) = .side (0 ≤ j ∧ j ≤ 1000000 ∧ i.natAbs < 2 ^ 64) (.int (i ^ j.toNat)) := rfl
theorem x_lt : fLt M (.int i) (.int j) = .ok (.bl (decide (i < j))) := rfl
theorem x_le : fLe M (.int i) (.int j) = .ok (.bl (decide (i ≤ j))) := rfl
theorem x_gt : fGt M (.int i) (.int j) = .ok (.bl (decide (j < i))) := rfl
theorem x_ge : fGe M (.int i) (.int j) = .ok (.bl (decide (j ≤ i))) := rfl
theorem x_neg : fNeg M (.int i) = .ok (.int (-i)) := rfl
theorem x_isN0 : fIsN M .non .non = .ok (.bl true) := rfl
theorem x_notN0 : fNotN M .non .non = .ok (.bl false) := rfl
theorem x_isN1 (h : d ≠ .non) : fIsN M d .non = .ok (.bl false) := by
  cases d <;> first | rfl | exact absurd rfl h
theorem x_notN1 (h : d ≠ .non) : fNotN M d .non = .ok (.bl true) := by
  cases d <;> first | rfl | exact absurd rfl h
theorem x_ixT : fIx M (.tup a) (.int i) = opt (atD a i) := rfl
theorem x_ixL : fIx M (.lst a) (.int i) = opt (atD a i) := rfl
theorem x_ixW : fIx M (.wl a) (.int i) = opt (atD a i) := rfl
theorem x_ixO (h : M[k]? = some (some a)) : fIx M (.own k) (.int i) = opt (atD a i) := by
  unfold fIx
  simp only [h]
theorem x_opt1 : opt (some d) = .ok d := rfl
theorem x_opt0 : opt none = .no := rfl
variable {α : Type} {p q r s : α} {l : List α}
theorem x_at0 : atD (p :: l) 0 = some p := rfl
theorem x_at1 : atD (p :: q :: l) 1 = some q := rfl
theorem x_at2 : atD (p :: q :: r :: l) 2 = some r := rfl
theorem x_at3 : atD (p :: q :: r :: s :: l) 3 = some s := rfl
theorem x_atN {n : Nat} (h : n < l.length) : atD l (n : Int) = some l[n] := List.getElem?_eq_getElem h
theorem x_abs : fAbs M [.int i] = .ok (.int (if i < 0 then -i else i)) := rfl
theorem x_max2 : fMax2 M [.int i, .int j] = .ok (.int (if j > i then j else i)) := rfl
theorem x_min2 : fMin2 M [.int i, .int j] = .ok (.int (if j < i then j else i)) := rfl
theorem x_int1 : fInt1 M [.int i] = .ok (.int i) := rfl
theorem x_gcd : fGcd M [.int i, .int j] = .ok (.int ((Nat.gcd i.natAbs j.natAbs : Nat) : Int)) := rfl
theorem x_strI : fStrI M [.int i] = .side (i.natAbs.log2 < 1920) (.str (toString i)) := rfl
theorem x_divmod : fDivmod M [.int i, .int j] = .side (cDiv j) (.tup [.int (i.fdiv j), .int (i.fmod j)]) := rfl
theorem x_lenT : fLen M [.tup a] = .ok (.int (a.length : Nat)) := rfl
theorem x_lenL : fLen M [.lst a] = .ok (.int (a.length : Nat)) := rfl
theorem x_lenW : fLen M [.wl a] = .ok (.int (a.length : Nat)) := rfl
theorem x_lenO (h : M[k]? = some (some a)) : fLen M [.own k] = .ok (.int (a.length : Nat)) := by
  unfold fLen
  simp only [h]
def isiR (c : Ty) : Option Ty → Res
  | some t => .side (okT c = true) (.bl (subT t c))
  | none => .no
theorem x_isi {c : Ty} : fIsi M [d, .ty c] = isiR c (tyD M d) := by
  show (match tyD M d with
    | some t => Res.side (okT c = true) (.bl (subT t c))
    | none => Res.no) = _
  cases tyD M d <;> rfl
theorem x_isiR {c t : Ty} : isiR c (some t) = .side (okT c = true) (.bl (subT t c)) := rfl
theorem y_non : tyD M .non = some .none := rfl
theorem y_bl {b} : tyD M (.bl b) = some .bool := rfl
theorem y_int : tyD M (.int i) = some .int := rfl
theorem y_str : tyD M (.str x) = some .str := rfl
theorem y_tup : tyD M (.tup a) = some .tuple := rfl
theorem y_lst : tyD M (.lst a) = some .list := rfl
theorem y_wl : tyD M (.wl a) = some .list := rfl
theorem y_emp : tyD M .emp = some .dict := rfl
theorem y_own (h : M[k]? = some (some a)) : tyD M (.own k) = some .list := by
  unfold tyD
  simp only [h]
def allR : Option (List Bool) → Res
  | some bs => .ok (.bl (bs.all id))
  | none => .no
theorem x_all : fAll M [.lst a] = allR (bools a) := by
  show (match bools a with
    | some bs => Res.ok (.bl (bs.all id))
    | none => Res.no) = _
  cases bools a <;> rfl
theorem x_allR {bs} : allR (some bs) = .ok (.bl (bs.all id)) := rfl
theorem x_bools0 : bools [] = some [] := rfl
theorem e_never {D0 : DEnd} {s : Sl} : dNever D0 s M = False := rfl
theorem rat0 : ((0 : Int) : Rat) = 0 := rfl
theorem rat1 : ((1 : Int) : Rat) = 1 := rfl
end
theorem bools_all : ∀ {xs : List D}, (∀ d ∈ xs, d = .bl true) → bools xs = some (List.replicate xs.length true)
  | [], _ => rfl
  | x :: r, h => by
    rw [h x (List.mem_cons_self ..)]
    have z := bools_all (xs := r) (fun d m => h d (List.mem_cons_of_mem _ m))
    simp only [bools, z]
    rfl
theorem all_true {M : Sto} {xs : List D} (h : ∀ d ∈ xs, d = .bl true) : fAll M [.lst xs] = .ok (.bl true) := by
  rw [x_all, bools_all h, x_allR]
  simp
end DL
/-! FraL: fractions under the operations; calls opened; sizes (own work). -/
namespace DL
open PySem
theorem ix_num {M q} : fIx M (frq q) (.int 0) = .ok (.int q.num) := by
  unfold frq fIx
  rfl
theorem ix_den {M q} : fIx M (frq q) (.int 1) = .ok (.int (q.den : Int)) := by
  unfold frq fIx
  rfl
theorem len_frq {M q} : fLen M [frq q] = .ok (.int 2) := rfl
theorem ty_frq {M q} : tyD M (frq q) = some .tuple := rfl
theorem res_frq {M q} : res M (frq q) = frq q := rfl
theorem res_lst {M xs} : res M (.lst xs) = .lst xs := rfl
theorem res_tup {M xs} : res M (.tup xs) = .tup xs := rfl
theorem sc_frq {q d} : scD (frq q) d = none := rfl
theorem sc_frq2 {q d} : scD d (frq q) = none := by
  unfold frq
  cases d <;> rfl
theorem sc_int {i j : Int} : scD (.int i) (.int j) = some (decide (i = j)) := rfl
theorem sc_str {i j : Str} : scD (.str i) (.str j) = some (decide (i = j)) := rfl
theorem sc_bl {i j : Bool} : scD (.bl i) (.bl j) = some (decide (i = j)) := rfl
theorem shp_frq {q} : shp (frq q) = true := rfl
theorem frq_int (n : Int) : (D.tup [.int n, .int 1]) = frq (n : Rat) := by
  rw [← q_int, ← frq_div (by decide)]
  unfold sgd
  simp
theorem frq_nought : (D.tup [.int 0, .int 1]) = frq 0 := frq_int 0
theorem num_int (n : Int) : ((n : Rat)).num = n := rfl
theorem eqv_frq {a b : Rat} : deqv (frq a) (frq b) = decide (a = b) := by
  unfold frq
  simp only [deqv, deqvL]
  by_cases h : a = b
  · subst h
    simp
  · rw [decide_eq_false h]
    cases e1 : (a.num == b.num)
    · rfl
    · cases e2 : ((a.den : Int) == (b.den : Int))
      · rfl
      · exact absurd (Rat.ext (eq_of_beq e1) (by have := eq_of_beq e2; omega)) h
theorem fEq_sc {M x y b} (h : scD x y = some b) : fEq M x y = .ok (.bl b) := by
  unfold fEq
  rw [h]
theorem fNe_sc {M x y b} (h : scD x y = some b) : fNe M x y = .ok (.bl (!b)) := by
  unfold fNe
  rw [h]
theorem eq_ii {M i j} : fEq M (.int i) (.int j) = .ok (.bl (decide (i = j))) := rfl
theorem ne_ii {M i j} : fNe M (.int i) (.int j) = .ok (.bl (!decide (i = j))) := rfl
theorem eq_ss {M i j} : fEq M (.str i) (.str j) = .ok (.bl (decide (i = j))) := rfl
theorem ne_ss {M i j} : fNe M (.str i) (.str j) = .ok (.bl (!decide (i = j))) := rfl
theorem eq_ff {M a b} : fEq M (frq a) (frq b) = .side (shp (frq a) = true ∧ shp (frq b) = true) (.bl (decide (a = b))) := by
  rw [← eqv_frq]
  rfl
theorem ne_ff {M a b} : fNe M (frq a) (frq b) = .side (shp (frq a) = true ∧ shp (frq b) = true) (.bl (!decide (a = b))) := by
  rw [← eqv_frq]
  rfl
theorem rep_lst {M xs} : fRepr M [.lst xs] = .side (shp (.lst xs) = true ∧ shows (.lst xs)) (.str (textD (.lst xs))) := rfl
/-! ### sizes -/
theorem sz_ib {k i} (h : ib k i) (l : k ≤ 60000000) : sz i := by
  have z := (intBits_le_iff (m := 60000000)).mpr (h.mono l)
  unfold sz
  omega
theorem ib_cDiv {k j} (h : ib k j) (h0 : j ≠ 0) (l : k ≤ 9000) : cDiv j := ⟨h0, (Nat.log2_lt (by omega)).mpr (h.mono l)⟩
theorem ib_one : ib 1 1 := by
  unfold ib
  decide
theorem ib_den {k q} (h : qb k q) : ib k (q.den : Int) := h.2
theorem ib_of {k : Nat} {i : Int} (h1 : -(2 ^ k : Nat) < i) (h2 : i < (2 ^ k : Nat)) : ib k i := by
  unfold ib
  omega
theorem m8 {i j : Int} (h1 : ib 4000 i) (h2 : ib 4000 j) : ib 8100 (i * j) := (h1.mul h2).mono (by decide)
theorem m9 {i j : Int} (h1 : ib 4000 i) (h2 : ib 4000 j) : ib 8500 (i * j) := (h1.mul h2).mono (by decide)
theorem a9 {i j : Int} (h1 : ib 8100 i) (h2 : ib 8100 j) : ib 8500 (i + j) := h1.add h2 (by decide)
theorem s9 {i j : Int} (h1 : ib 8100 i) (h2 : ib 8100 j) : ib 8500 (i - j) := h1.sub h2 (by decide)
theorem sz4 {i : Int} (h : ib 4000 i) : sz i := sz_ib h (by decide)
theorem sz8 {i : Int} (h : ib 8500 i) : sz i := sz_ib h (by decide)
theorem qb_add {k m p : Nat} {a b : Rat} (h1 : qb k a) (h2 : qb m b) (l : k + m + 1 ≤ p) : qb p (a + b) := by
  rw [← q_add]
  refine qb_div ?_ ?_ (by omega)
  · have x := (h1.num.mul h2.den)
    have y := (h2.num.mul h1.den)
    rw [Nat.add_comm m k] at y
    exact (x.add y (Nat.lt_succ_self _)).mono l
  · exact (h1.den.mul h2.den).mono (by omega)
theorem qb_sub {k m p : Nat} {a b : Rat} (h1 : qb k a) (h2 : qb m b) (l : k + m + 1 ≤ p) : qb p (a - b) := by
  rw [← q_sub]
  refine qb_div ?_ ?_ (by omega)
  · have x := (h1.num.mul h2.den)
    have y := (h2.num.mul h1.den)
    rw [Nat.add_comm m k] at y
    exact (x.sub y (Nat.lt_succ_self _)).mono l
  · exact (h1.den.mul h2.den).mono (by omega)
theorem qb_mul {k m p : Nat} {a b : Rat} (h1 : qb k a) (h2 : qb m b) (l : k + m + 1 ≤ p) : qb p (a * b) := by
  rw [← q_mul]
  exact qb_div ((h1.num.mul h2.num).mono (by omega)) ((h1.den.mul h2.den).mono (by omega)) (by omega)
theorem qb_quo {k m p : Nat} {a b : Rat} (h1 : qb k a) (h2 : qb m b) (l : k + m + 1 ≤ p) : qb p (a / b) := by
  rw [← q_div]
  exact qb_div ((h1.num.mul h2.den).mono (by omega)) ((h1.den.mul h2.num).mono (by omega)) (by omega)
theorem qb_int {k : Nat} {i : Int} (h : ib k i) (l : 1 ≤ k) : qb k (i : Rat) := by
  rw [← q_int]
  exact qb_div h (ib_one.mono l) l
theorem qb_zero {k : Nat} (l : 1 ≤ k) : qb k (0 : Rat) := qb_int (i := 0) (Nat.two_pow_pos k) l
theorem ib_floor {k : Nat} {q : Rat} (h : qb k q) : ib (k + 1) q.floor := by
  rw [← q_floor]
  have h1 := h.num
  unfold ib at *
  have h2 : (q.num.fdiv (q.den : Int)).natAbs ≤ q.num.natAbs + 1 := by
    have hd := q.den_pos
    rw [Int.fdiv_eq_ediv_of_nonneg _ (Int.le_of_lt denP)]
    rcases Int.lt_or_le q.num 0 with c | c
    · have u : q.num ≤ q.num / (q.den : Int) := by
        rw [Int.le_ediv_iff_mul_le denP]
        have := denP (q := q)
        have e : (1 : Int) ≤ (q.den : Int) := by omega
        have f : q.num * (q.den : Int) ≤ q.num * 1 := Int.mul_le_mul_of_nonpos_left (by omega) e
        omega
      have v : q.num / (q.den : Int) < 0 := Int.ediv_neg_of_neg_of_pos c denP
      omega
    · have u : q.num / (q.den : Int) ≤ q.num := Int.ediv_le_self _ c
      have v : 0 ≤ q.num / (q.den : Int) := Int.ediv_nonneg c (Int.le_of_lt denP)
      omega
  rw [Nat.pow_succ]
  omega
/-! ### calls -/
section
variable {M : Sto} {Q : DK} {E : DXK} {a b : Rat} {i j : Int} {d : D}
theorem u_fraction : sp_fraction [.int i, .int j] M Q E = ((j ≠ 0 ∧ ib 8500 i ∧ ib 8500 j) ∧ Q (frq (Rat.divInt i j)) M) := rfl
theorem u_made : sp_made [.int i, .int j] M Q E = ((j ≠ 0 ∧ ib 8500 i ∧ ib 8500 j) ∧ Q (frq (Rat.divInt i j)) M) := rfl
theorem u__law_made : sp__law_made [.int i, .int j] M Q E = ((j ≠ 0 ∧ ib 8500 i ∧ ib 8500 j) ∧ Q (frq (Rat.divInt i j)) M) := rfl
theorem u__law_gcd : sp__law_gcd [.int i, .int j] M Q E = (True ∧ Q (.int ((Nat.gcd i.natAbs j.natAbs : Nat) : Int)) M) := rfl
theorem u_q2 {g} : pureSp (q2 g) [frq a, frq b] M Q E = ((g a b).1 ∧ Q (g a b).2 M) := by
  unfold pureSp
  rw [q2_frq]
  rfl
theorem u_q1 {g} : pureSp (q1 g) [frq a] M Q E = ((g a).1 ∧ Q (g a).2 M) := by
  unfold pureSp
  rw [q1_frq]
  rfl
theorem u_lower : sp_lower [frq a, frq b] M Q E = ((qb 4000 a ∧ qb 4000 b) ∧ Q (.bl (decide (a < b))) M) := u_q2
theorem u_added : sp_added [frq a, frq b] M Q E = ((qb 4000 a ∧ qb 4000 b) ∧ Q (frq (a + b)) M) := u_q2
theorem u_taken : sp_taken [frq a, frq b] M Q E = ((qb 4000 a ∧ qb 4000 b) ∧ Q (frq (a - b)) M) := u_q2
theorem u_scaled : sp_scaled [frq a, frq b] M Q E = ((qb 4000 a ∧ qb 4000 b) ∧ Q (frq (a * b)) M) := u_q2
theorem u_parted : sp_parted [frq a, frq b] M Q E = ((b ≠ 0 ∧ qb 4000 a ∧ qb 4000 b) ∧ Q (frq (a / b)) M) := u_q2
theorem u_floor_of : sp_floor_of [frq a] M Q E = (qb 4000 a ∧ Q (.int a.floor) M) := u_q1
theorem u_ceiling_of : sp_ceiling_of [frq a] M Q E = (qb 4000 a ∧ Q (.int (-(-a).floor)) M) := u_q1
theorem u_want_fraction : sp_want_fraction [frq a] M Q E = (True ∧ Q (frq a) M) := u_q1
theorem u_is_integer : sp_is_integer [d] M Q E = (isV d = true ∧ Q (.bl (isI d)) M) := rfl
theorem u_is_fraction : sp_is_fraction [d] M Q E = (lookable d ∧ Q (.bl (asQ d).isSome) M) := rfl
theorem look_frq : lookable (frq a) := ⟨rfl, rfl⟩
theorem u_is_fractionF : sp_is_fraction [frq a] M Q E = Q (.bl true) M := by
  rw [u_is_fraction, asQ_frq]
  exact propext ⟨fun h => h.2, fun h => ⟨look_frq, h⟩⟩
theorem u_is_less : sp_is_less [frq a, frq b] M Q E = ((qb 4000 a ∧ qb 4000 b) ∧ Q (.bl (decide (a < b))) M) := u_q2
theorem u_plus : sp_plus [frq a, frq b] M Q E = ((qb 4000 a ∧ qb 4000 b) ∧ Q (frq (a + b)) M) := u_q2
theorem u_minus : sp_minus [frq a, frq b] M Q E = ((qb 4000 a ∧ qb 4000 b) ∧ Q (frq (a - b)) M) := u_q2
theorem u_times : sp_times [frq a, frq b] M Q E = ((qb 4000 a ∧ qb 4000 b) ∧ Q (frq (a * b)) M) := u_q2
theorem u_over : sp_over [frq a, frq b] M Q E = ((b ≠ 0 ∧ qb 4000 a ∧ qb 4000 b) ∧ Q (frq (a / b)) M) := u_q2
theorem u_floor : sp_floor [frq a] M Q E = (qb 4000 a ∧ Q (.int a.floor) M) := u_q1
theorem u_ceiling : sp_ceiling [frq a] M Q E = (qb 4000 a ∧ Q (.int (-(-a).floor)) M) := u_q1
theorem u__law_lower : sp__law_lower [frq a, frq b] M Q E = ((qb 4000 a ∧ qb 4000 b) ∧ Q (.bl (decide (a < b))) M) := u_q2
theorem u__law_plus : sp__law_plus [frq a, frq b] M Q E = ((qb 4000 a ∧ qb 4000 b) ∧ Q (frq (a + b)) M) := u_q2
theorem u__law_minus : sp__law_minus [frq a, frq b] M Q E = ((qb 4000 a ∧ qb 4000 b) ∧ Q (frq (a - b)) M) := u_q2
theorem u__law_times : sp__law_times [frq a, frq b] M Q E = ((qb 4000 a ∧ qb 4000 b) ∧ Q (frq (a * b)) M) := u_q2
theorem u__law_over : sp__law_over [frq a, frq b] M Q E = ((b ≠ 0 ∧ qb 4000 a ∧ qb 4000 b) ∧ Q (frq (a / b)) M) := u_q2
theorem u__law_floor : sp__law_floor [frq a] M Q E = (qb 4000 a ∧ Q (.int a.floor) M) := u_q1
end
end DL
/-! FraR: loops by an invariant; stores; ints (own work). -/
namespace DL
open PySem
theorem forD_of {g : DTG} {tb : DTS} {D0 : DEnd} (I : Sl → Sto → Prop) : ∀ (xs : List D) (s : Sl) (M : Sto), I s M →
    (∀ x, x ∈ xs → ∀ s M, I s M → ∀ nx : Sl → Sto → Prop, (∀ s' M', I s' M' → nx s' M') → g x s M (fun s1 M1 => tb ⟨nx, D0.rt, D0.xs, D0.nx, nx⟩ s1 M1)) →
    (∀ s M, I s M → D0.nx s M) → forD g tb xs D0 s M
  | [], s, M, h0, _, he => he s M h0
  | x :: r, s, M, h0, hs, he => hs x (List.mem_cons_self ..) s M h0 _ (fun s' M' h => forD_of I r s' M' h (fun y m => hs y (List.mem_cons_of_mem _ m)) he)
theorem compD_of {g : DTG} {te : DTE} {s : Sl} {E : DXK} (I : Sto → Prop) (P : D → Prop) : ∀ (xs : List D) (M : Sto) (Q : List D → Sto → Prop), I M →
    (∀ x, x ∈ xs → ∀ M, I M → ∀ R : DK, (∀ y M', P y → I M' → R y M') → g x s M (fun s1 M1 => te s1 M1 R E)) →
    (∀ ys M', (∀ y, y ∈ ys → P y) → ys.length = xs.length → I M' → Q ys M') → compD g dYes te xs s M Q E
  | [], M, Q, h0, _, he => he [] M (fun _ m => nomatch m) rfl h0
  | x :: r, M, Q, h0, hs, he => by
    refine hs x (List.mem_cons_self ..) M h0 _ ?_
    intro y M' py hi
    exact compD_of I P r M' _ hi (fun z m => hs z (List.mem_cons_of_mem _ m)) (fun ys M2 h1 h2 h3 => he (y :: ys) M2 (fun z m => by
      rcases List.mem_cons.mp m with e | e
      · rw [e]; exact py
      · exact h1 z e) (by simp [h2]) h3)
theorem nat0 : ((0 : Nat) : Int) = 0 := rfl
theorem nat1 : ((1 : Nat) : Int) = 1 := rfl
theorem ord1 {x : D} : order 0 [0] [] [x] = [x] := rfl
theorem ord2 {x y : D} : order 0 [1, 0] [] [x, y] = [y, x] := rfl
theorem small_frq {q : Rat} (h : qb 1900 q) : smallD (frq q) := ⟨h.1, h.2, trivial⟩
theorem rep2 {x : D} : (List.replicate 2 [x]).flatten = [x, x] := rfl
theorem n10 : (Int.natAbs 10 < 2 ^ 64) = True := eq_true (by decide)
theorem ib_lit {k : Nat} {i : Int} (h : i.natAbs < 2 ^ 200) (l : 200 ≤ k) : ib k i := ib.mono (k := 200) h l
theorem sz_lit {i : Int} (h : i.natAbs < 2 ^ 200) : sz i := sz_ib (k := 200) h (by decide)
theorem u__law_draw {p : Nat} {many : Int} {M : Sto} {Q : DK} {E : DXK} : sp__law_draw [.own p, .int many] M Q E = ((Pot M p ∧ 1 ≤ many ∧ ib 4000 many) ∧ ∀ (r : Int) M', 0 ≤ r → r < many → Pot M' p → Fram p M M' → Q (.int r) M') := rfl
theorem u__law_pick {p : Nat} {xs : List D} {M : Sto} {Q : DK} {E : DXK} : sp__law_pick [.own p, .lst xs] M Q E = ((Pot M p ∧ 1 ≤ xs.length ∧ xs.length ≤ 100000) ∧ ∀ d M', d ∈ xs → Pot M' p → Fram p M M' → Q d M') := rfl
theorem q_ne {n d : Int} (hn : n ≠ 0) (hd : d ≠ 0) : Rat.divInt n d ≠ 0 := by
  intro z
  rw [Rat.divInt_eq_div] at z
  have hd' : (d : Rat) ≠ 0 := fun c => hd (by have := Rat.intCast_inj.mp (show (d : Rat) = ((0 : Int) : Rat) from c); exact this)
  have e := Rat.div_mul_cancel (a := (n : Rat)) hd'
  rw [z, Rat.zero_mul] at e
  exact hn (Rat.intCast_inj.mp (show (n : Rat) = ((0 : Int) : Rat) from e.symm))
theorem qm1 {n : Int} : Rat.divInt n (-1) = ((0 - n : Int) : Rat) := by
  rw [← q_int, show (0 : Int) - n = -n by omega]
  exact Rat.divInt_neg' n 1
theorem u__law_some {p : Nat} {M : Sto} {Q : DK} {E : DXK} : sp__law_some [.own p] M Q E = (Pot M p ∧ ∀ (q : Rat) M', qb 42 q → Pot M' p → Fram p M M' → Q (frq q) M') := rfl
theorem forD_ofN {g : DTG} {tb : DTS} {D0 : DEnd} (I : Nat → Sl → Sto → Prop) : ∀ (xs : List D) (n N : Nat) (s : Sl) (M : Sto), n + xs.length = N → I n s M →
    (∀ x, x ∈ xs → ∀ k s M, k < N → I k s M → ∀ nx : Sl → Sto → Prop, (∀ s' M', I (k + 1) s' M' → nx s' M') → g x s M (fun s1 M1 => tb ⟨nx, D0.rt, D0.xs, D0.nx, nx⟩ s1 M1)) →
    (∀ s M, I N s M → D0.nx s M) → forD g tb xs D0 s M
  | [], n, N, s, M, e, h0, _, he => he s M (by rw [← e]; exact h0)
  | x :: r, n, N, s, M, e, h0, hs, he => hs x (List.mem_cons_self ..) n s M (by simp only [List.length_cons] at e; omega) h0 _ (fun s' M' h => forD_ofN I r (n + 1) N s' M' (by simp only [List.length_cons] at e; omega) h (fun y m => hs y (List.mem_cons_of_mem _ m)) he)
theorem mem_ints {n : Nat} {a : Int} {d : D} (h : d ∈ intsD a n) : ∃ i, d = .int i ∧ a ≤ i ∧ i < a + n := by
  unfold intsD at h
  simp only [List.mem_map, List.mem_range] at h
  obtain ⟨k, hk, rfl⟩ := h
  exact ⟨_, rfl, by omega, by omega⟩
theorem len_ints {n : Nat} {a : Int} : (intsD a n).length = n := by
  unfold intsD
  simp
theorem bl_shows {a b : Bool} : shp (.lst [.bl a, .bl b]) = true ∧ shows (.lst [.bl a, .bl b]) := ⟨rfl, shows_of rfl ⟨trivial, trivial, trivial⟩ (Nat.le_of_ble_eq_true rfl)⟩
theorem pot_new {M : Sto} {a b : Int} (h1 : 0 ≤ a) (h2 : 0 ≤ b) (h3 : b < 2 ^ 32) : Pot (M ++ [some [.int a, .int b]]) M.length := ⟨a, b, by simp, h1, h2, h3⟩
theorem nat2 : ((2 : Nat) : Int) = 2 := rfl
def ixO (i : Int) : Option (Option (List D)) → Res
  | some (some ds) => opt (atD ds i)
  | _ => .no
theorem x_ixOw {M : Sto} {k : Nat} {i : Int} : fIx M (.own k) (.int i) = ixO i (M[k]?) := by
  show (match M[k]? with
    | some (some ds) => opt (atD ds i)
    | _ => .no) = _
  rcases M[k]? with - | (- | ds) <;> rfl
theorem x_ixOr {i : Int} {ds : List D} : ixO i (some (some ds)) = opt (atD ds i) := rfl
def lenO : Option (Option (List D)) → Res
  | some (some ds) => .ok (.int (ds.length : Nat))
  | _ => .no
theorem x_lenOw {M : Sto} {k : Nat} : fLen M [.own k] = lenO (M[k]?) := by
  show (match M[k]? with
    | some (some ds) => Res.ok (.int (ds.length : Nat))
    | _ => .no) = _
  rcases M[k]? with - | (- | ds) <;> rfl
theorem x_lenOr {ds : List D} : lenO (some (some ds)) = .ok (.int (ds.length : Nat)) := rfl
theorem e_ix30 {M : Sto} {d x y : D} {s : Sl} {nx : Sl → Sto → Prop} {k : Nat} : kIx3 d s nx k 0 M (some (some [x, y])) = nx s (M.set k (some [d, y])) := rfl
theorem e_ix31 {M : Sto} {d x y : D} {s : Sl} {nx : Sl → Sto → Prop} {k : Nat} : kIx3 d s nx k 1 M (some (some [x, y])) = nx s (M.set k (some [x, d])) := rfl
theorem set_at {M : Sto} {p : Nat} {o v : Option (List D)} (h : M[p]? = some o) : (M.set p v)[p]? = some v := by
  have : p < M.length := (List.getElem?_eq_some_iff.mp h).1
  simp [this]
theorem fram_set {M : Sto} {p : Nat} {v} : Fram p M (M.set p v) := ⟨List.length_set, fun j h => List.getElem?_set_ne (Ne.symm h)⟩
theorem floor_le {q : Rat} : q.floor.natAbs ≤ q.num.natAbs := by
  rw [← q_floor]
  have hd := q.den_pos
  rw [Int.fdiv_eq_ediv_of_nonneg _ (Int.le_of_lt denP)]
  rcases Int.lt_or_le q.num 0 with c | c
  · have u : q.num ≤ q.num / (q.den : Int) := by
      rw [Int.le_ediv_iff_mul_le denP]
      have := denP (q := q)
      have e : (1 : Int) ≤ (q.den : Int) := by omega
      have f : q.num * (q.den : Int) ≤ q.num * 1 := Int.mul_le_mul_of_nonpos_left (by omega) e
      omega
    have v : q.num / (q.den : Int) < 0 := Int.ediv_neg_of_neg_of_pos c denP
    omega
  · have u : q.num / (q.den : Int) ≤ q.num := Int.ediv_le_self _ c
    have v : 0 ≤ q.num / (q.den : Int) := Int.ediv_nonneg c (Int.le_of_lt denP)
    omega
theorem lt_int {a : Rat} {m : Int} : a < (m : Rat) ↔ a.floor < m := by
  rw [← Int.not_le, Rat.le_floor_iff]
  exact Rat.not_le.symm
theorem ceil_eq (a : Rat) : 0 - (0 - a.num).fdiv (a.den : Int) = -(-a).floor := by
  rw [← q_floor, Rat.neg_num, Rat.neg_den]
  have e : 0 - a.num = -a.num := by omega
  rw [e]
  omega
theorem high_eq (a : Rat) : (if a = (a.floor : Rat) then a.floor else a.floor + 1) = -(-a).floor := by
  have h1 : ((a.floor : Int) : Rat) ≤ a := Rat.le_floor_iff.mp (Int.le_refl _)
  have h2 : a < ((a.floor + 1 : Int) : Rat) := lt_int.mpr (by omega)
  have key : ∀ n : Int, n ≤ (-a).floor ↔ a ≤ ((-n : Int) : Rat) := by
    intro n
    rw [Rat.le_floor_iff, Rat.intCast_neg]
    grind
  split
  · rename_i c
    have u := (key (-a.floor)).mpr (by rw [Int.neg_neg, ← c]; exact Rat.le_refl)
    have v : ¬ (-a.floor + 1 ≤ (-a).floor) := by
      intro z
      have z := (key _).mp z
      rw [c, Rat.floor_intCast] at z
      have := Rat.intCast_le_intCast.mp z
      omega
    omega
  · rename_i c
    have u := (key (-(a.floor + 1))).mpr (by rw [Int.neg_neg]; exact Rat.le_of_lt h2)
    have v : ¬ (-a.floor ≤ (-a).floor) := by
      intro z
      have z := (key _).mp z
      rw [Int.neg_neg] at z
      exact c (Rat.le_antisymm z h1)
    omega
theorem u_is_integerI {M : Sto} {Q : DK} {E : DXK} {i : Int} : sp_is_integer [.int i] M Q E = Q (.bl true) M := by
  rw [u_is_integer]
  exact propext ⟨fun h => h.2, fun h => ⟨rfl, h⟩⟩
theorem gcd_fmod (x y : Int) : Nat.gcd y.natAbs (x.fmod y).natAbs = Nat.gcd x.natAbs y.natAbs := by
  show Int.gcd y (x.fmod y) = Int.gcd x y
  rw [Int.fmod_def, Int.gcd_comm x y]
  have e : x - y * x.fdiv y = x + y * (-(x.fdiv y)) := by rw [Int.mul_neg]; omega
  rw [e]
  exact Int.gcd_add_mul_left_right ..
theorem fmod_lt_abs (x : Int) {y : Int} (h : y ≠ 0) : (x.fmod y).natAbs < y.natAbs := by
  rcases Int.lt_or_lt_of_ne h with c | c
  · have e := Int.neg_fmod_neg x y
    have h1 := Int.fmod_nonneg_of_pos (-x) (b := -y) (by omega)
    have h2 := Int.fmod_lt_of_pos (-x) (b := -y) (by omega)
    omega
  · have h1 := Int.fmod_nonneg_of_pos x c
    have h2 := Int.fmod_lt_of_pos x c
    omega
theorem sz_small {i : Int} (h : i.natAbs < 2 ^ 64) : sz i := sz_ib (k := 64) h (by decide)
theorem isI_cases (d : D) : (∃ i, d = .int i) ∨ isI d = false := by
  cases d <;> first | exact .inl ⟨_, rfl⟩ | exact .inr rfl
theorem asQ_no1 {x y : D} (h : isI x = false) : asQ (.tup [x, y]) = none := by
  cases x <;> first | rfl | cases h
theorem asQ_no2 {x y : D} (h : isI y = false) : asQ (.tup [x, y]) = none := by
  cases x <;> cases y <;> first | rfl | cases h
theorem asQ_ii {n d : Int} : (asQ (.tup [.int n, .int d])).isSome = (decide (1 ≤ d) && decide (Nat.gcd n.natAbs d.natAbs = 1)) := by
  unfold asQ
  by_cases h1 : 1 ≤ d <;> by_cases h2 : Nat.gcd n.natAbs d.natAbs = 1 <;> simp [h1, h2]
theorem l_isint {i : Nat} {s : Sl} {d : D} {M : Sto} {Q : DK} {E : DXK} (h : look s i = some d) (hv : isV d = true) : dAndV (dFn fIsi (dCons (dVar i) (dCons (dC (.ty .int)) dNil))) (dNotV (dFn fIsi (dCons (dVar i) (dCons (dC (.ty .bool)) dNil)))) s M Q E = Q (.bl (isI d)) M := by
  have e : ∀ R : DK, dVar i s M R E = R d M := fun R => by rw [e_Var, h]; rfl
  simp only [e_AndV, e_Fn, e_Cons, e]
  cases d <;> first | (cases hv; done) | (simp only [e_kC1, e_kC2, e_Cons, e_Nil, e_C, e_kFn, x_isi, y_non, y_bl, y_int, y_str, y_tup, y_lst, y_wl, y_emp, x_isiR, e_ap2, okT, subT, e_kR, e_kAndVT, e_kAndVF, e_NotV, e_Fn, e, e_kNotV, true_and, isI, Bool.not_false, Bool.not_true])
end DL
/-! DLList: lists that are made, kept to change or let stand; their methods; slices; what is walked in pairs (own work). -/
namespace DL
open PySem PySem.Spec PyProof.Rows L2
/-! ### a new list at p -/
def Frs (K : PySem.W.Frag) (W : Wld) (M : Sto) (H : Hp) (p : Addr) (xs : List D) : Prop := ∃ vs H0, RelH K W M H0 ∧ H0 p = none ∧ H = upd H0 p (.lst vs) ∧ xs.length ≤ sizeLine ∧ DatL K W xs vs
section
variable {K : PySem.W.Frag} {W : Wld} {M : Sto} {H : Hp} {p : Addr} {xs : List D} {vs : List V}
theorem Frs.mk (r : RelH K W M H) (np : H p = none) (le : xs.length ≤ sizeLine) (d : DatL K W xs vs) : Frs K W M (upd H p (.lst vs)) p xs := ⟨vs, H, r, np, rfl, le, d⟩
theorem Frs.frz (f : Frs K W M H p xs) : ∃ W', Wle W W' ∧ RelH K W' M H ∧ DatR K W' (.lst xs) (.ref p) := by
  obtain ⟨vs, H0, r, np, rfl, le, d⟩ := f
  obtain ⟨l, r2⟩ := r.add (o := .lst vs) np
  refine ⟨_, l, r2, ?_⟩
  simp only [DatR]
  exact ⟨p, vs, rfl, upd_same, le, DatL.mono l _ _ d⟩
theorem Frs.own (f : Frs K W M H p xs) : ∃ W', Wle W W' ∧ RelH K W' (M ++ [some xs]) H ∧ DatR K W' (.own M.length) (.ref p) := by
  obtain ⟨vs, H0, r, np, rfl, le, d⟩ := f
  exact ⟨_, r.new np d⟩
def remH (H : Hp) (p : Addr) : Hp := fun b => if b = p then none else H b
theorem remH_ne {b : Addr} (h : b ≠ p) : remH H p b = H b := by
  unfold remH
  rw [if_neg h]
theorem Frs.of (r : RelH K W M H) (h : H p = some (.lst vs)) (g : W.G p = none) (a : p ∉ W.ad) (f : W.F p = none) (le : xs.length ≤ sizeLine) (d : DatL K W xs vs) : Frs K W M H p xs := by
  refine ⟨vs, remH H p, ⟨fun b u e => ?_, r.len, r.nd, fun k ds e => ?_, r.dead, fun b u e => ?_, r.dis⟩, if_pos rfl, ?_, le, d⟩
  · rw [remH_ne (ne_of_none e g)]
    exact r.sub _ _ e
  · obtain ⟨b, ws, e1, e2, e3, e4, e5⟩ := r.own k ds e
    refine ⟨b, ws, e1, e2, ?_, e4, e5⟩
    rw [remH_ne]
    · exact e3
    · rintro rfl
      exact a (List.mem_of_getElem? e1)
  · rw [remH_ne (ne_of_none e f)]
    exact r.frm _ _ e
  · funext b
    by_cases hb : b = p
    · subst hb
      rw [upd_same, h]
    · rw [upd_ne hb, remH_ne hb]
end
def QF (K : PySem.W.Frag) (W : Wld) (Q : VK) : List D → Sto → Prop := fun xs M' => ∀ W' p H', Wle W W' → Frs K W' M' H' p xs → Q (.ref p) H'
theorem QF.up {K : PySem.W.Frag} {W W' : Wld} {Q : VK} (h : Wle W W') {xs : List D} {M : Sto} (q : QF K W Q xs M) : QF K W' Q xs M := fun W2 p H2 l => q W2 p H2 (h.trans l)
def lF (K : PySem.W.Frag) (mg : Str → Option Value) (E : XK) (t : DTI) : TE := fun σ H Q => ∃ W s M, RelH K W M H ∧ RelS K W s σ ∧ t s M (QF K W Q) (XL K mg E W)
/-- e makes a new list -/
structure DF (X : Cx) (E : XK) (e : Expr) (t : DTI) : Prop where
  run : PE X e (lF X.K X.mg E t)
  mono : MonoI t
/-- let it stand; keep it to change -/
def dFz (t : DTI) : DTE := fun s M Q E => t s M (fun xs M1 => Q (.lst xs) M1) E
def dOw (t : DTI) : DTE := fun s M Q E => t s M (fun xs M1 => Q (.own M1.length) (M1 ++ [some xs])) E
theorem mono_Fz {t : DTI} (h : MonoI t) : MonoE (dFz t) := fun s M Q Q' E E' hq hx z => h s M _ _ _ _ (fun xs M1 q => hq _ _ q) hx z
theorem mono_Ow {t : DTI} (h : MonoI t) : MonoE (dOw t) := fun s M Q Q' E E' hq hx z => h s M _ _ _ _ (fun xs M1 q => hq _ _ q) hx z
section
variable {X : Cx} {E : XK} {a b c e : Expr} {es rest : List Expr} {ta tb tc te : DTE} {t : DTI} {tr : DTA} {pos p : Pos}
theorem de_frz (h : DF X E e t) : DE X E e (dFz t) where
  run := pe_w h.run fun σ H Q ⟨W, s, M, rh, rs, q⟩ => ⟨W, s, M, rh, rs, h.mono _ _ _ _ _ _ (fun xs M1 q W' p H' l f => by
    obtain ⟨W2, l2, r2, d2⟩ := f.frz
    exact q W2 (.ref p) H' (l.trans l2) r2 d2) (fun _ _ z => z) q⟩
  mono := mono_Fz h.mono
theorem de_own (h : DF X E e t) : DE X E e (dOw t) where
  run := pe_w h.run fun σ H Q ⟨W, s, M, rh, rs, q⟩ => ⟨W, s, M, rh, rs, h.mono _ _ _ _ _ _ (fun xs M1 q W' p H' l f => by
    obtain ⟨W2, l2, r2, d2⟩ := f.own
    exact q W2 (.ref p) H' (l.trans l2) r2 d2) (fun _ _ z => z) q⟩
  mono := mono_Ow h.mono
/-- [a, b, ..] -/
def dFL (t : DTA) : DTI := fun s M Q E => t s M (fun ds M1 => ds.length ≤ sizeLine ∧ Q ds M1) E
theorem mono_FL {t : DTA} (h : MonoA t) : MonoI (dFL t) := fun s M Q Q' E E' hq hx z => h s M _ _ _ _ (fun xs M1 q => ⟨q.1, hq _ _ q.2⟩) hx z
theorem df_lst (h : DA X E es tr) : DF X E (.List es pos) (dFL tr) where
  run := pe_w (pe_lst h.run) fun σ H Q ⟨W, s, M, rh, rs, q⟩ => by
    refine ⟨W, s, M, rh, rs, h.mono _ _ _ _ _ _ (fun ds M1 h1 => ?_) (fun _ _ z => z) q⟩
    intro W1 vs H1 l1 rh1 d1
    exact ⟨by rw [d1.len]; exact h1.1, fun p np => h1.2 W1 p _ l1 (Frs.mk rh1 np h1.1 d1)⟩
  mono := mono_FL h.mono
/-! ### lists out of lists -/
def apL : Res → (List D → Prop) → Prop
  | .ok (.lst xs), Q => Q xs
  | .side C (.lst xs), Q => C ∧ Q xs
  | _, _ => False
theorem apL_has {r : Res} {Q : List D → Prop} (h : apL r Q) : ∃ xs, r.Has (.lst xs) ∧ Q xs := by
  unfold apL at h
  split at h
  · exact ⟨_, .inl rfl, h⟩
  · exact ⟨_, .inr ⟨_, h.1, rfl⟩, h.2⟩
  · exact h.elim
theorem apL_mono {r : Res} {Q Q' : List D → Prop} (h : apL r Q) (m : ∀ xs, Q xs → Q' xs) : apL r Q' := by
  unfold apL at h ⊢
  split at h
  · exact m _ h
  · exact ⟨h.1, m _ h.2⟩
  · exact h.elim
def OpSF (K : PySem.W.Frag) (f : Sto → D → D → Res) (r : R2) : Prop := ∀ (W : Wld) (M : Sto) (H : Hp) (x y : D) (xs : List D) (vx vy : V) (Q : VK), RelH K W M H → DatR K W x vx → DatR K W y vy → (f M x y).Has (.lst xs) → QF K W Q xs M → r vx vy H Q
def FnSF (K : PySem.W.Frag) (f : Sto → List D → Res) (r : List V → Hp → VK → Prop) : Prop := ∀ (W : Wld) (M : Sto) (H : Hp) (xs ys : List D) (vs : List V) (Q : VK), RelH K W M H → DatL K W xs vs → (f M xs).Has (.lst ys) → QF K W Q ys M → r vs H Q
def dFBin (f : Sto → D → D → Res) (ta tb : DTE) : DTI := fun s M Q E => ta s M (fun x M1 => tb s M1 (fun y M2 => apL (f M2 x y) fun xs => Q xs M2) E) E
theorem mono_FBin {f} (ha : MonoE ta) (hb : MonoE tb) : MonoI (dFBin f ta tb) := fun s M Q Q' E E' hq hx z =>
  ha s M _ _ _ _ (fun x M1 q => hb s M1 _ _ _ _ (fun y M2 q => apL_mono q fun xs q => hq _ _ q) hx q) hx z
theorem df_bin {op : Operator} {f : Sto → D → D → Res} {r : R2} (ho : OpR X (binaryOp op) r) (hs : OpSF X.K f r) (ha : DE X E a ta) (hb : DE X E b tb) : DF X E (.BinOp a op b pos) (dFBin f ta tb) where
  run := pe_w (pe_op ho ha.run hb.run) fun σ H Q ⟨W, s, M, rh, rs, h⟩ => by
    refine ⟨W, s, M, rh, rs, ha.mono _ _ _ _ _ _ (fun x M1 h1 => ?_) (fun _ _ z => z) h⟩
    intro W1 v1 H1 l1 rh1 d1
    refine ⟨W1, s, M1, rh1, rs.mono l1, hb.mono _ _ _ _ _ _ (fun y M2 h2 => ?_) (fun _ _ z => z.up l1) h1⟩
    intro W2 v2 H2 l2 rh2 d2
    obtain ⟨xs, hd, q⟩ := apL_has h2
    exact hs W2 M2 H2 x y xs v1 v2 Q rh2 (DatR.mono l2 _ _ d1) d2 hd (q.up (l1.trans l2))
  mono := mono_FBin ha.mono hb.mono
def dFFn (f : Sto → List D → Res) (tr : DTA) : DTI := fun s M Q E => tr s M (fun xs M1 => apL (f M1 xs) fun ys => Q ys M1) E
theorem mono_FFn {f} (h : MonoA tr) : MonoI (dFFn f tr) := fun s M Q Q' E E' hq hx z => h s M _ _ _ _ (fun x M1 q => apL_mono q fun xs q => hq _ _ q) hx z
theorem ffn_run {f : Sto → List D → Res} {r : List V → Hp → VK → Prop} (hs : FnSF X.K f r) (ma : MonoA tr) {σ : L2.St} {H : Hp} {Q : VK} (h : lF X.K X.mg E (dFFn f tr) σ H Q) : tCB r (lA X.K X.mg E tr) σ H Q := by
  obtain ⟨W, s, M, rh, rs, q⟩ := h
  refine ⟨W, s, M, rh, rs, ma _ _ _ _ _ _ (fun xs M1 h1 => ?_) (fun _ _ z => z) q⟩
  intro W1 vs H1 l1 rh1 d1
  obtain ⟨ys, hd, q⟩ := apL_has h1
  exact hs W1 M1 H1 xs ys vs Q rh1 d1 hd (q.up l1)
theorem df_callTy {x : Str} {T : String} {f : Sto → List D → Res} {r : List V → Hp → VK → Prop} (hc : CallR X (.type T) r) (hs : FnSF X.K f r) (hg : Gl X x) (hm : X.mg x = none) (hv : bootBuiltins x = some (.type T)) (ha : DA X E (e :: es) tr) (hn : x ≠ "__name__" := by decide) (hdb : (x == ("__debug__" : Str)) = false := by decide)
    (he : starEach (e :: es) X.env = (false, eval e X.env) :: starEach es X.env := by rfl) (hpl : (backTo pos (starEach es X.env)).any (·.1) = false := by rfl) : DF X E (.Call (.Name x p) (e :: es) [] pos) (dFFn f tr) where
  run := pe_w (pe_callTy hc hg hm hv ha.run hn hdb he hpl) fun _ _ _ h => ffn_run hs ha.mono h
  mono := mono_FFn ha.mono
theorem df_callB {x : Str} {id : String} {f : Sto → List D → Res} {r : List V → Hp → VK → Prop} (hc : CallR X (.builtin id) r) (hs : FnSF X.K f r) (hg : Gl X x) (hm : X.mg x = none) (hv : bootBuiltins x = some (.builtin id)) (ha : DA X E (e :: es) tr) (hn : x ≠ "__name__" := by decide) (hdb : (x == ("__debug__" : Str)) = false := by decide)
    (he : starEach (e :: es) X.env = (false, eval e X.env) :: starEach es X.env := by rfl) (hpl : (backTo pos (starEach es X.env)).any (·.1) = false := by rfl) : DF X E (.Call (.Name x p) (e :: es) [] pos) (dFFn f tr) where
  run := pe_w (pe_callB hc hg hm hv ha.run hn hdb he hpl) fun _ _ _ h => ffn_run hs ha.mono h
  mono := mono_FFn ha.mono
/-- the items of a list, also of one that may change -/
theorem lst_of {K : PySem.W.Frag} {W : Wld} {M : Sto} {H : Hp} {x : D} {v : V} {xs : List D} (r : RelH K W M H) (h : DatR K W x v) (e : res M x = .lst xs) : ∃ l vs, v = .ref l ∧ H l = some (.lst vs) ∧ DatL K W xs vs := by
  cases x with
  | lst ys =>
    have e : D.lst ys = .lst xs := e
    cases e
    simp only [DatR] at h
    obtain ⟨a, vs, rfl, h1, _, h3⟩ := h
    exact ⟨a, vs, rfl, r.sub _ _ h1, h3⟩
  | own k =>
    unfold res at e
    dsimp only at e
    split at e
    · rename_i ds hk
      cases e
      simp only [DatR] at h
      obtain ⟨a, rfl, h1⟩ := h
      obtain ⟨b, vs, e1, _, e3, e4, _⟩ := r.own k _ hk
      rw [h1] at e1
      cases e1
      exact ⟨a, vs, rfl, e3, e4⟩
    · cases e
  | _ => cases e
def fAddL : Sto → D → D → Res := fun M x y => match res M x, res M y with
  | .lst a, .lst b => .side (a.length + b.length ≤ sizeLine) (.lst (a ++ b))
  | _, _ => .no
theorem s_addL {K : PySem.W.Frag} : OpSF K fAddL rCat := by
  intro W M H x y xs vx vy Q r hx hy h q
  unfold fAddL at h
  split at h
  · rename_i as bs ea eb
    obtain ⟨c, e⟩ := has_side h
    cases e
    obtain ⟨l, vs, rfl, h1, h2⟩ := lst_of r hx ea
    obtain ⟨b, ws, rfl, g1, g2⟩ := lst_of r hy eb
    exact ⟨l, b, vs, ws, rfl, rfl, h1, g1, by rw [h2.len, g2.len]; exact c, fun p np => q W p _ (Wle.refl W) (Frs.mk r np (by rw [List.length_append]; exact c) (h2.app g2))⟩
  · exact (has_no h).elim
/-- list(x) of a list or a tuple -/
def fList : Sto → List D → Res
  | M, [x] => (match res M x with
    | .lst a => .side (a.length ≤ sizeLine) (.lst a)
    | .tup a => .ok (.lst a)
    | .wl a => .ok (.lst a)
    | _ => .no)
  | _, _ => .no
theorem s_list {K : PySem.W.Frag} : FnSF K fList (fun xs H Q => ∃ p ys, xs = [.ref p] ∧ (SqL K H p ys ∨ SqT K H p ys) ∧ ∀ l, H l = none → Q (.ref l) (upd H l (.lst ys))) := by
  intro W M H xs ys vs Q r hx h q
  unfold fList at h
  split at h
  · rename_i x
    obtain ⟨v, rfl, hv⟩ := datL1 hx
    split at h
    · rename_i as ea
      obtain ⟨c, e⟩ := has_side h
      cases e
      obtain ⟨l, ws, rfl, h1, h2⟩ := lst_of r hv ea
      exact ⟨l, ws, rfl, .inl (SqL.of h1), fun p np => q W p _ (Wle.refl W) (Frs.mk r np c h2)⟩
    · rename_i as ea
      have e := has_ok h
      cases e
      have ex : x = .tup ys := by
        cases x with
        | tup b => exact ea
        | own k =>
          unfold res at ea
          dsimp only at ea
          split at ea <;> cases ea
        | _ => cases ea
      subst ex
      simp only [DatR] at hv
      obtain ⟨a, ws, rfl, h1, h2, h3⟩ := hv
      exact ⟨a, ws, rfl, .inr (Same.seqT r.sub h1), fun p np => q W p _ (Wle.refl W) (Frs.mk r np h2 h3)⟩
    · rename_i as ea
      have e := has_ok h
      cases e
      have ex : x = .wl ys := by
        cases x with
        | wl b => exact ea
        | own k =>
          unfold res at ea
          dsimp only at ea
          split at ea <;> cases ea
        | _ => cases ea
      subst ex
      simp only [DatR] at hv
      obtain ⟨a, ws, rfl, h1, h2, h3⟩ := hv
      exact ⟨a, ws, rfl, .inl (Same.seq r.sub h1), fun p np => q W p _ (Wle.refl W) (Frs.mk r np h2 h3)⟩
    · exact (has_no h).elim
  · exact (has_no h).elim
/-- tuple(x) of a list or a tuple -/
def fTuple : Sto → List D → Res
  | M, [x] => (match res M x with
    | .lst a => .side (a.length ≤ sizeLine) (.tup a)
    | .tup a => .ok (.tup a)
    | _ => .no)
  | _, _ => .no
theorem s_tuple {K : PySem.W.Frag} : FnS K fTuple (fun xs H Q => ∃ p ys, xs = [.ref p] ∧ ((SqL K H p ys ∧ ∀ l, H l = none → Q (.ref l) (upd H l (.tup ys))) ∨ (SqT K H p ys ∧ Q (.ref p) H))) := by
  intro W M H xs d vs Q r hx h q
  unfold fTuple at h
  split at h
  · rename_i x
    obtain ⟨v, rfl, hv⟩ := datL1 hx
    split at h
    · rename_i as ea
      obtain ⟨c, e⟩ := has_side h
      cases e
      obtain ⟨l, ws, rfl, h1, h2⟩ := lst_of r hv ea
      exact ⟨l, ws, rfl, .inl ⟨SqL.of h1, fun p np => ql_tup q r h2 c np⟩⟩
    · rename_i as ea
      have e := has_ok h
      cases e
      have ex : x = .tup as := by
        cases x with
        | tup b => exact ea
        | own k =>
          unfold res at ea
          dsimp only at ea
          split at ea <;> cases ea
        | _ => cases ea
      subst ex
      have hv2 := hv
      simp only [DatR] at hv2
      obtain ⟨a, ws, rfl, h1, h2, h3⟩ := hv2
      exact ⟨a, ws, rfl, .inr ⟨Same.seqT r.sub h1, ql_self q r hv⟩⟩
    · exact (has_no h).elim
  · exact (has_no h).elim
end
end DL
/-! DLList2: comprehensions as new lists; methods of lists; slices; zip, enumerate (own work). -/
namespace DL
open PySem PySem.Spec PyProof.Rows L2
section
variable {X : Cx} {E : XK} {a b c e : Expr} {es rest : List Expr} {ta tb tc te to tl th : DTE} {t : DTI} {tr : DTA} {pos p p2 : Pos}
/-! ### a comprehension as a new list -/
def dFC (ti : DTI) (g : DTG) (tt : DTT) (te : DTE) (vs : List Nat) : DTI := fun s M Q E => ti s M (fun xs M1 => compD g tt te xs (wiped s vs) M1 Q fun _ _ => False) E
theorem mono_FC {ti : DTI} {g : DTG} {tt : DTT} {te : DTE} {vs} (hi : MonoI ti) (hg : MonoG g) (htt : MonoT tt) (hte : MonoE te) : MonoI (dFC ti g tt te vs) := fun s M Q Q' E E' h hx q =>
  hi s M _ _ _ _ (fun xs M1 q1 => mono_compD hg htt hte xs _ _ _ _ _ _ (fun ys M2 q2 => h _ _ q2) (fun _ _ z => z) q1) hx q
def CompF (K : PySem.W.Frag) (g : DTG) (tt : DTT) (te : DTE) (xs : List D) (W : Wld) (s : Sl) (vs : List Nat) (Q : List D → Sto → Prop) (Dd : Addr) (i : Nat) (H : Hp) : Prop :=
  ∃ W1 M acc as, Wle W W1 ∧ RelH K W1 M H ∧ DatL K W1 as acc ∧ as.length ≤ i ∧ H Dd = some (.lst acc) ∧ W1.G Dd = none ∧ W1.F Dd = none ∧ Dd ∉ W1.ad ∧ compD g tt te (xs.drop i) (wiped s vs) M (fun ys M' => Q (as ++ ys) M') fun _ _ => False
theorem compF_run {ti : DTI} {vs ws : List Nat} {g : DTG} {tt : DTT} {te : DTE} (mi : MonoI ti) (mg : MonoG g) (mt : MonoT tt) (me : MonoE te) (hw : ∀ i ∈ ws, i ∈ vs) {σ : L2.St} {H : Hp} {Q : VK} (h : lF X.K X.mg E (dFC ti g tt te vs) σ H Q) :
    tLc (lI X.K X.mg E ti) (lG X.K ws g) (lT X.K X.mg E0 tt) (lE X.K X.mg E0 te) vs σ H Q := by
  obtain ⟨W, s, M, rh, rs, h⟩ := h
  refine ⟨W, s, M, rh, rs, mi _ _ _ _ _ _ (fun xs M1 h1 => ?_) (fun _ _ z => z) h⟩
  intro W1 H1 J l1 rh1 wk Dd nD
  refine ⟨fun i m H => m = xs.length - i ∧ i ≤ xs.length ∧ CompF X.K g tt te xs W1 s vs (fun ys M2 => QF X.K W Q ys M2) Dd i H, ⟨_, rfl, Nat.zero_le _, ?_⟩, ?_⟩
  · have gD : W1.G Dd = none := rh1.sub.free nD
    have fD : W1.F Dd = none := rh1.frm.free nD
    have aD := rh1.fresh nD
    refine ⟨W1, M1, [], [], Wle.refl W1, ?_, .nil, Nat.le_refl _, upd_same, gD, fD, aD, ?_⟩
    · refine ⟨fun b u e => ?_, rh1.len, rh1.nd, fun k ds e => ?_, rh1.dead, fun b u e => ?_, rh1.dis⟩
      · rw [upd_ne (ne_of_none (rh1.sub _ _ e) nD)]
        exact rh1.sub _ _ e
      · obtain ⟨a, zs, e1, e2, e3, e4, e5⟩ := rh1.own k ds e
        refine ⟨a, zs, e1, e2, ?_, e4, e5⟩
        rw [upd_ne (ne_of_none e3 nD)]
        exact e3
      · rw [upd_ne (ne_of_none (rh1.frm _ _ e) nD)]
        exact rh1.frm _ _ e
    · rw [List.drop_zero]
      exact h1
  · rintro i m H2 ⟨rfl, hil, W2, M2, acc, as, l2, rh2, dA, hA, hD, gD, fD, aD, q2⟩
    by_cases hlt : i < xs.length
    · refine .inr ⟨wk.go i W2 M2 H2 l2.lf rh2 hlt, fun H => CompF X.K g tt te xs W1 s vs (fun ys M2 => QF X.K W Q ys M2) Dd (i + 1) H, ?_, ?_⟩
      · intro H' z
        exact ⟨xs.length - (i + 1), by omega, rfl, hlt, z⟩
      · intro x H3 y
        rw [List.drop_eq_getElem_cons hlt] at q2
        have rh2F := rh2.inF hD gD aD
        obtain ⟨W3, l3, rh3, d3⟩ := wk.yld i ⟨W2.G, W2.ad, upd W2.F Dd (.lst acc)⟩ M2 H2 xs[i] x H3 (l2.lf.trans ⟨Same.refl _, List.prefix_refl _⟩) rh2F (List.getElem?_eq_getElem hlt) y
        have l03 : Wlf W W3 := (l1.trans l2).lf.trans ((⟨Same.refl _, List.prefix_refl _⟩ : Wlf W2 ⟨W2.G, W2.ad, upd W2.F Dd (.lst acc)⟩).trans l3.lf)
        have rs3 : RelS X.K W3 s σ := ⟨rs.len, fun i d e => let ⟨v, e1, e2⟩ := rs.get i d e; ⟨v, e1, DatR.lf l03 d v e2⟩⟩
        refine ⟨W3, wiped s vs, M2, xs[i], rh3, rs3.wiped vs, d3, mg _ _ _ _ _ (fun s4 M4 q4 => ?_) q2⟩
        intro W4 σ4 H4 l4 rh4 rs4 a4
        refine ⟨(a4.wipe hw).trans wipe_wipe, W4, s4, M4, rh4, rs4, mt _ _ _ _ _ _ (fun b M5 q5 => ?_) (fun _ _ z => z.elim) q4⟩
        intro W5 H5 l5 rh5
        have l35 := (l3.trans l4).trans l5
        cases b with
        | true =>
          refine ⟨W5, s4, M5, rh5, rs4.mono l5, me _ _ _ _ _ _ (fun y M6 q6 => ?_) (fun _ _ z => z.elim) q5⟩
          intro W6 v6 H6 l6 rh6 d6
          have l36 := l35.trans l6
          obtain ⟨rh7, hD7, gD7, aD7⟩ := rh6.outF l36.f fD
          have l17 : Wle W1 ⟨W6.G, W6.ad, W2.F⟩ := ⟨l2.g.trans l36.g, l2.a.trans l36.a, l2.f⟩
          refine ⟨acc, hD7, by rw [dA.len]; exact Nat.lt_of_lt_of_le (Nat.lt_of_le_of_lt hA hlt) wk.le, ?_⟩
          refine ⟨⟨W6.G, W6.ad, W2.F⟩, M6, acc ++ [v6], as ++ [y], l17, rh7.updX gD7 aD7 fD, ?_, ?_, upd_same, gD7, fD, aD7, ?_⟩
          · refine DatL.snoc ?_ (DatR.lf (W := W6) Wlf.fr _ _ d6)
            exact DatL.lf (W := W2) (W' := ⟨W6.G, W6.ad, W2.F⟩) ⟨l36.g, l36.a⟩ _ _ dA
          · rw [List.length_append]
            exact Nat.add_le_add_right hA 1
          · have q6 : compD g tt te (List.drop (i + 1) xs) (wiped s vs) M6 (fun ys M4 => QF X.K W Q (as ++ (y :: ys)) M4) fun _ _ => False := q6
            have e : (fun (ys : List D) M4 => QF X.K W Q (as ++ (y :: ys)) M4) = fun ys M4 => QF X.K W Q ((as ++ [y]) ++ ys) M4 := by
              funext ys M4
              rw [List.append_assoc]
              rfl
            rw [e] at q6
            exact q6
        | false =>
          obtain ⟨rh7, hD7, gD7, aD7⟩ := rh5.outF l35.f fD
          have l17 : Wle W1 ⟨W5.G, W5.ad, W2.F⟩ := ⟨l2.g.trans l35.g, l2.a.trans l35.a, l2.f⟩
          refine ⟨⟨W5.G, W5.ad, W2.F⟩, M5, acc, as, l17, rh7, DatL.lf (W := W2) (W' := ⟨W5.G, W5.ad, W2.F⟩) ⟨l35.g, l35.a⟩ _ _ dA, Nat.le_succ_of_le hA, hD7, gD7, fD, aD7, q5⟩
    · have e : i = xs.length := by omega
      subst e
      rw [List.drop_length] at q2
      refine .inl ⟨wk.stop _ W2 M2 H2 l2.lf rh2 (Nat.le_refl _), ?_⟩
      have q2 : QF X.K W Q (as ++ []) M2 := q2
      rw [List.append_nil] at q2
      exact q2 W2 Dd H2 (l1.trans l2) (Frs.of rh2 hD gD aD fD (Nat.le_trans hA wk.le) dA)
theorem df_comp {elt tg iter : Expr} {ifs : List Expr} {scope : Scope} {own : List (Str × Nat)} {ws us : List Nat} {ti : DTI} {g : DTG} {tt : DTT} (hc : X.calm = true) (hN : X.N.Nodup) (hi : DIt X E tg iter ti) (ok : BlkOk X.N X.env.scope scope own)
    (hg : ∀ (s : Shared) (H : Hp) (C : Addr) (cl : List (Str × Addr)) (fp : List Addr), DGt (X.blk s H scope (compEnvC scope cl C X.env) fp) tg ws g) (ht : ∀ (s : Shared) (H : Hp) (C : Addr) (cl : List (Str × Addr)) (fp : List Addr), DTs (X.blk s H scope (compEnvC scope cl C X.env) fp) E0 ifs tt)
    (he : ∀ (s : Shared) (H : Hp) (C : Addr) (cl : List (Str × Addr)) (fp : List Addr), DE (X.blk s H scope (compEnvC scope cl C X.env) fp) E0 elt te) (mg : MonoG g) (mt : MonoT tt) (me : MonoE te) (hv : own.map (·.2) = us := by rfl) (hw : ∀ i ∈ ws, i ∈ us := by decide)
    (hs : ∀ x, foldedSetIterable iter X.env x = pure x := by intro _; rfl) :
    DF X E (.ListComp elt [⟨tg, iter, ifs, 0⟩] scope pos) (dFC ti g tt te us) where
  run := by
    subst hv
    exact pe_w (pe_lc hc hN hi.run ok (fun s H C cl fp => (hg s H C cl fp).run) (fun s H C cl fp => (ht s H C cl fp).run) (fun s H C cl fp => (he s H C cl fp).run) hs) fun _ _ _ h => compF_run hi.mono mg mt me hw h
  mono := mono_FC hi.mono mg mt me
/-- y = [.. for ..], the list kept to change -/
theorem ds_setCompO {i : Nat} {y : Str} {py : Pos} {elt tg iter : Expr} {ifs : List Expr} {scope : Scope} {own : List (Str × Nat)} {ws us : List Nat} {spos : Pos} {ti : DTI} {g : DTG} {tt : DTT} (hc : X.calm = true) (hN : X.N.Nodup) (hy : X.N[i]? = some y) (hyl : X.env.scope.names.lookup y = some .local)
    (hsw : swapsWith (.ListComp elt [⟨tg, iter, ifs, 0⟩] scope pos) (some (.Name y py)) spos.line X.env = pure true) (hi : DIt X E tg iter ti) (ok : BlkOk X.N X.env.scope scope own)
    (hg : ∀ (s : Shared) (H : Hp) (C : Addr) (cl : List (Str × Addr)) (fp : List Addr), DGt (X.blk s H scope (compEnvC scope cl C X.env) fp) tg ws g) (ht : ∀ (s : Shared) (H : Hp) (C : Addr) (cl : List (Str × Addr)) (fp : List Addr), DTs (X.blk s H scope (compEnvC scope cl C X.env) fp) E0 ifs tt)
    (he : ∀ (s : Shared) (H : Hp) (C : Addr) (cl : List (Str × Addr)) (fp : List Addr), DE (X.blk s H scope (compEnvC scope cl C X.env) fp) E0 elt te) (mg : MonoG g) (mt : MonoT tt) (me : MonoE te) (hv : own.map (·.2) = us := by rfl) (hw : ∀ i ∈ ws, i ∈ us := by decide)
    (hs : ∀ x, foldedSetIterable iter X.env x = pure x := by intro _; rfl) :
    DSt X E (.Assign [.Name y py] (.ListComp elt [⟨tg, iter, ifs, 0⟩] scope pos) spos) (dAsg (dOw (dFC ti g tt te us)) (gN i)) where
  run := by
    subst hv
    refine ps_w (ps_setLc (wi := lI X.K X.mg E ti) (g := lG X.K ws g) (tt := lT X.K X.mg E0 tt) (te := lE X.K X.mg E0 te) hc hN hy hyl hsw hi.run ok (fun s H C cl fp => (hg s H C cl fp).run) (fun s H C cl fp => (ht s H C cl fp).run) (fun s H C cl fp => (he s H C cl fp).run) hs) fun D σ H h => ?_
    obtain ⟨W, s, M, rh, rs, q⟩ := h
    refine compF_run hi.mono mg mt me hw (Q := fun x H1 => gName i x σ H1 D.nx) ⟨W, s, M, rh, rs, (mono_FC hi.mono mg mt me) _ _ _ _ _ _ (fun xs M1 h1 => ?_) (fun _ _ z => z) q⟩
    intro W1 v H1 l1 f1
    obtain ⟨W2, l2, r2, d2⟩ := f1.own
    exact h1 W2 _ H1 (l1.trans l2) r2 ((rs.mono (l1.trans l2)).put d2)
  mono := mono_Asg (mono_Ow (mono_FC hi.mono mg mt me)) mono_gN
/-! ### methods of lists that may change -/
abbrev MF := Sto → List D → List D → Option (Prop × List D × D)
def MthS (K : PySem.W.Frag) (f : MF) (r : V → List V → Hp → VK → Prop) : Prop := ∀ (W : Wld) (M : Sto) (H : Hp) (l : Addr) (ds xs ds' : List D) (vs ws : List V) (C : Prop) (d : D) (Q : VK), RelH K W M H → H l = some (.lst vs) → DatL K W ds vs → DatL K W xs ws →
  f M ds xs = some (C, ds', d) → C → (∀ v vs', DatL K W ds' vs' → DatR K W d v → Q v (upd H l (.lst vs'))) → r (.ref l) ws H Q
def mthO (f : MF) (k : Nat) (xs : List D) (Q : DK) (M2 : Sto) : Option (Option (List D)) → Prop
  | some (some ds) => (match f M2 ds xs with
    | some (C, ds', d) => C ∧ Q d (M2.set k (some ds'))
    | none => False)
  | _ => False
def mthP (tr : DTA) (f : MF) (s : Sl) (Q : DK) (E : DXK) (k : Nat) (M1 : Sto) : Option (Option (List D)) → Prop
  | some (some _) => tr s M1 (fun xs M2 => mthO f k xs Q M2 (M2[k]?)) E
  | _ => False
def kMth (tr : DTA) (f : MF) (s : Sl) (Q : DK) (E : DXK) : DK := fun x M1 => match x with
  | .own k => mthP tr f s Q E k M1 (M1[k]?)
  | _ => False
def dMth (f : MF) (to : DTE) (tr : DTA) : DTE := fun s M Q E => to s M (kMth tr f s Q E) E
theorem mono_Mth {f : MF} (ho : MonoE to) (hr : MonoA tr) : MonoE (dMth f to tr) := fun s M Q Q' E E' hq hx z => ho s M _ _ _ _ (fun x M1 q => by
  cases x with
  | own k =>
    change mthP tr f s Q E k M1 (M1[k]?) at q
    change mthP tr f s Q' E' k M1 (M1[k]?)
    rcases e : M1[k]? with - | (- | ds)
    · rw [e] at q; exact q
    · rw [e] at q; exact q
    · rw [e] at q
      refine hr _ _ _ _ _ _ (fun xs M2 q2 => ?_) hx q
      rcases e2 : M2[k]? with - | (- | ds2)
      · rw [e2] at q2; exact q2
      · rw [e2] at q2; exact q2
      · rw [e2] at q2
        unfold mthO at q2 ⊢
        dsimp only at q2 ⊢
        split at q2
        · rename_i C ds' d e3
          exact ⟨q2.1, hq _ _ q2.2⟩
        · exact q2
  | _ => exact q) hx z
theorem mth_run {f : MF} {r : V → List V → Hp → VK → Prop} (hs : MthS X.K f r) (ho : MonoE to) (hr : MonoA tr) {σ : L2.St} {H : Hp} {Q : VK} (h : lE X.K X.mg E (dMth f to tr) σ H Q) : tBM X.K "list" r (lE X.K X.mg E to) (lA X.K X.mg E tr) σ H Q := by
  obtain ⟨W, s, M, rh, rs, h⟩ := h
  refine ⟨W, s, M, rh, rs, ho _ _ _ _ _ _ (fun x M1 h1 => ?_) (fun _ _ z => z) h⟩
  intro W1 v1 H1 l1 rh1 d1
  cases x with
  | own k =>
    have h1 : mthP tr f s (QL X.K W Q) (XL X.K X.mg E W) k M1 (M1[k]?) := h1
    rcases e : M1[k]? with - | (- | ds)
    · rw [e] at h1; exact h1.elim
    · rw [e] at h1; exact h1.elim
    · rw [e] at h1
      simp only [DatR] at d1
      obtain ⟨a, rfl, ea⟩ := d1
      obtain ⟨b, vs, f1, _, f3, f4, _⟩ := rh1.own k ds e
      rw [ea] at f1
      cases f1
      refine ⟨.inl ⟨rfl, _, SqL.of f3⟩, W1, s, M1, rh1, rs.mono l1, hr _ _ _ _ _ _ (fun xs M2 q2 => ?_) (fun _ _ z => z.up l1) h1⟩
      intro W2 ws H2 l2 rh2 d2
      rcases e2 : M2[k]? with - | (- | ds2)
      · rw [e2] at q2; exact q2.elim
      · rw [e2] at q2; exact q2.elim
      · rw [e2] at q2
        unfold mthO at q2
        dsimp only at q2
        split at q2
        · rename_i C ds' d e3
          obtain ⟨b, vs2, g1, _, g3, g4, _⟩ := rh2.own k ds2 e2
          have ea2 := l2.at ea
          rw [ea2] at g1
          cases g1
          refine hs W2 M2 H2 a ds2 xs ds' vs2 ws C d Q rh2 g3 g4 d2 e3 q2.1 fun v vs' dl dv => ?_
          exact q2.2 W2 v _ (l1.trans l2) (rh2.updK e2 ea2 dl) dv
        · exact q2.elim
  | _ => exact h1.elim
theorem de_mth {o : Expr} {name : Str} {apos cpos : Pos} {id : String} {f : MF} {r : V → List V → Hp → VK → Prop} (slot : Slot "list" name id) (hty : typeOf (.builtin id) = pure (.type "method_descriptor")) (hm : MtR X id r) (hs : MthS X.K f r) (ho : DE X E o to) (ha : DA X E (e :: es) tr)
    (hbase : attributeBase o name X.env (eval o X.env) = eval o X.env := by rfl)
    (hfew : ((backTo cpos (starEach (e :: es) X.env)).all (fun x => !x.1) && (backToKw cpos (keywordEach [] X.env)).all (fun x => x.1.isSome)
      && decide ((e :: es).length + ([] : List Keyword).length + (if ([] : List Keyword).isEmpty then 0 else 1) < 30)) = true := by rfl)
    (hline : (apos.endLine == cpos.line) = true := by rfl) (hst : starEach (e :: es) X.env = (false, eval e X.env) :: starEach es X.env := by rfl) (hplain : (backTo cpos (starEach es X.env)).any (·.1) = false := by rfl) :
    DE X E (.Call (.Attribute o name apos) (e :: es) [] cpos) (dMth f to tr) where
  run := pe_w (pe_bm PySem.F.plainAttrs_list slot hty hm ho.run ha.run hbase hfew hline hst hplain) fun _ _ _ h => mth_run hs ho.mono ha.mono h
  mono := mono_Mth ho.mono ha.mono
theorem de_mth0 {o : Expr} {name : Str} {apos cpos : Pos} {id : String} {f : MF} {r : V → List V → Hp → VK → Prop} (slot : Slot "list" name id) (hty : typeOf (.builtin id) = pure (.type "method_descriptor")) (hm : MtR X id r) (hs : MthS X.K f r) (ho : DE X E o to)
    (hbase : attributeBase o name X.env (eval o X.env) = eval o X.env := by rfl) (hline : (apos.endLine == cpos.line) = true := by rfl) :
    DE X E (.Call (.Attribute o name apos) [] [] cpos) (dMth f to dNil) where
  run := pe_w (pe_bm0 PySem.F.plainAttrs_list slot hty hm ho.run hbase hline) fun σ H Q h => by
    obtain ⟨W, s, M, rh, rs, q⟩ := mth_run (tr := dNil) hs ho.mono mono_Nil h
    refine ⟨W, s, M, rh, rs, ho.mono _ _ _ _ _ _ (fun d M1 z W1 v H1 l1 r1 d1 => ?_) (fun _ _ z => z) q⟩
    obtain ⟨ty, W2, s2, M2, r2, rs2, q2⟩ := z W1 v H1 l1 r1 d1
    exact ⟨ty, q2 W2 [] H1 (Wle.refl W2) r2 .nil⟩
  mono := mono_Mth ho.mono mono_Nil
def fApp : MF := fun _ ds xs => match xs with
  | [d] => some (ds.length < sizeLine, ds ++ [d], .non)
  | _ => none
def fExt : MF := fun M ds xs => match xs with
  | [y] => (match res M y with
    | .lst zs => some (ds.length + zs.length ≤ sizeLine, ds ++ zs, .non)
    | _ => none)
  | _ => none
def fIns : MF := fun _ ds xs => match xs with
  | [.int i, d] => some (ds.length < sizeLine ∧ 0 ≤ i ∧ i < 2 ^ 63, ds.take i.toNat ++ [d] ++ ds.drop i.toNat, .non)
  | _ => none
def fPop : MF := fun _ ds xs => match xs with
  | [] => (match ds[ds.length - 1]? with
    | some d => some (True, ds.dropLast, d)
    | none => none)
  | _ => none
def fPopAt : MF := fun _ ds xs => match xs with
  | [.int i] => (match seqIndex? i ds.length with
    | some k => (match ds[k]? with
      | some d => some (-(2 ^ 63) ≤ i ∧ i < 2 ^ 63, ds.eraseIdx k, d)
      | none => none)
    | none => none)
  | _ => none
theorem s_app {K : PySem.W.Frag} : MthS K fApp rAppend := by
  intro W M H l ds xs ds' vs ws C d Q r hl h1 h2 e c q
  unfold fApp at e
  split at e
  · cases e
    obtain ⟨w, rfl, hw⟩ := datL1 h2
    exact ⟨l, vs, w, rfl, rfl, hl, by rw [h1.len]; exact c, q _ _ (h1.snoc hw) (by simp only [DatR])⟩
  · cases e
theorem s_ext {K : PySem.W.Frag} : MthS K fExt rExtend := by
  intro W M H l ds xs ds' vs ws C d Q r hl h1 h2 e c q
  unfold fExt at e
  split at e
  · split at e
    · rename_i y zs ez
      cases e
      obtain ⟨w, rfl, hw⟩ := datL1 h2
      obtain ⟨b, us, rfl, hb, h3⟩ := lst_of r hw ez
      exact ⟨l, b, vs, us, rfl, rfl, hl, hb, by rw [h1.len, h3.len]; exact c, q _ _ (h1.app h3) (by simp only [DatR])⟩
    · cases e
  · cases e
theorem DatL.dropLast {K : PySem.W.Frag} {W : Wld} {ds : List D} {vs : List V} (h : DatL K W ds vs) : DatL K W ds.dropLast vs.dropLast := by
  rw [List.dropLast_eq_take, List.dropLast_eq_take, h.len]
  exact h.take _
theorem DatL.erase {K : PySem.W.Frag} {W : Wld} {ds : List D} {vs : List V} (h : DatL K W ds vs) (k : Nat) : DatL K W (ds.eraseIdx k) (vs.eraseIdx k) := by
  rw [List.eraseIdx_eq_take_drop_succ, List.eraseIdx_eq_take_drop_succ]
  exact (h.take k).app (h.drop (k + 1))
theorem s_ins {K : PySem.W.Frag} : MthS K fIns (fun x vs H Q => ∃ (l : Addr) (xs : List V) (i : Int) (y : V), x = .ref l ∧ vs = [.int i, y] ∧ H l = some (.lst xs) ∧ xs.length < sizeLine ∧ 0 ≤ i ∧ i < 2 ^ 63 ∧
    Q .non (upd H l (.lst (xs.take i.toNat ++ [y] ++ xs.drop i.toNat)))) := by
  intro W M H l ds xs ds' vs ws C d Q r hl h1 h2 e c q
  unfold fIns at e
  split at e
  · rename_i i y
    cases e
    obtain ⟨v, w, rfl, hv, hw⟩ := datL2 h2
    cases dat_int hv
    exact ⟨l, vs, i, w, rfl, rfl, hl, by rw [h1.len]; exact c.1, c.2.1, c.2.2, q _ _ (((h1.take _).snoc hw).app (h1.drop _)) (by simp only [DatR])⟩
  · cases e
theorem s_pop {K : PySem.W.Frag} : MthS K fPop rPop := by
  intro W M H l ds xs ds' vs ws C d Q r hl h1 h2 e c q
  unfold fPop at e
  split at e
  · split at e
    · rename_i y ey
      cases e
      cases h2.inv0
      obtain ⟨v, ev, hv⟩ := h1.get ey
      exact ⟨l, vs, v, rfl, rfl, hl, by rw [h1.len]; exact ev, q _ _ h1.dropLast hv⟩
    · cases e
  · cases e
theorem s_popAt {K : PySem.W.Frag} : MthS K fPopAt rPopAt := by
  intro W M H l ds xs ds' vs ws C d Q r hl h1 h2 e c q
  unfold fPopAt at e
  split at e
  · rename_i i
    split at e
    · rename_i k ek
      split at e
      · rename_i y ey
        cases e
        obtain ⟨w, rfl, hw⟩ := datL1 h2
        cases dat_int hw
        obtain ⟨v, ev, hv⟩ := h1.get ey
        exact ⟨l, vs, i, k, v, rfl, rfl, hl, c.1, c.2, by rw [h1.len]; exact ek, ev, q _ _ (h1.erase k) hv⟩
      · cases e
    · cases e
  · cases e
/-! ### slices -/
def cutD {α : Type} (xs : List α) (lo hi : Option Int) : List α := (xs.drop (HT.sIx xs.length 0 lo)).take (HT.sIx xs.length xs.length hi - HT.sIx xs.length 0 lo)
theorem DatL.cut {K : PySem.W.Frag} {W : Wld} {ds : List D} {vs : List V} (h : DatL K W ds vs) (lo hi : Option Int) : DatL K W (cutD ds lo hi) (cutV vs lo hi) := by
  unfold cutD cutV
  rw [h.len]
  exact (h.drop _).take _
abbrev DTO := Sl → Sto → (Option Int → Sto → Prop) → DXK → Prop
def MonoO (t : DTO) : Prop := ∀ s M Q Q' E E', (∀ d M', Q d M' → Q' d M') → (∀ x M', E x M' → E' x M') → t s M Q E → t s M Q' E'
def oNo : DTO := fun _ M Q _ => Q none M
def kInt (Q : Option Int → Sto → Prop) : DK := fun x M1 => match x with
  | .int i => Q (some i) M1
  | _ => False
def oSo (t : DTE) : DTO := fun s M Q E => t s M (kInt Q) E
def QO (K : PySem.W.Frag) (W : Wld) (Q : Option Int → Hp → Prop) : Option Int → Sto → Prop := fun o M' => ∀ W' H', Wle W W' → RelH K W' M' H' → Q o H'
theorem QO.up {K : PySem.W.Frag} {W W' : Wld} {Q : Option Int → Hp → Prop} (h : Wle W W') {d : Option Int} {M : Sto} (q : QO K W Q d M) : QO K W' Q d M := fun W2 H2 l => q W2 H2 (h.trans l)
def lO (K : PySem.W.Frag) (mg : Str → Option Value) (E : XK) (t : DTO) : TO := fun σ H Q => ∃ W s M, RelH K W M H ∧ RelS K W s σ ∧ t s M (QO K W Q) (XL K mg E W)
structure DO (X : Cx) (E : XK) (e : Option Expr) (t : DTO) : Prop where
  run : PO X e (lO X.K X.mg E t)
  mono : MonoO t
theorem do_none : DO X E none oNo where
  run := ⟨fun pins s σ H Q I ⟨W, sl, M, rh, rs, q⟩ => po_none.run pins s σ H Q I (q W H (Wle.refl W) rh)⟩
  mono := fun s M Q Q' E E' h _ q => h _ _ q
theorem mono_oSo (h : MonoE ta) : MonoO (oSo ta) := fun s M Q Q' E E' hq hx z => h s M _ _ _ _ (fun d M1 q => by
  cases d with
  | int i => exact hq _ _ q
  | _ => exact q) hx z
theorem do_some (h : DE X E e ta) : DO X E (some e) (oSo ta) where
  run := ⟨fun pins s σ H Q I ⟨W, sl, M, rh, rs, q⟩ => (po_some h.run).run pins s σ H Q I ⟨W, sl, M, rh, rs, h.mono _ _ _ _ _ _ (fun d M1 q W1 v H1 l1 r1 d1 => by
    cases d with
    | int i =>
      cases dat_int d1
      exact ⟨i, rfl, q W1 H1 l1 r1⟩
    | _ => exact q.elim) (fun _ _ z => z) q⟩⟩
  mono := mono_oSo h.mono
def kSl3 (x : D) (l : Option Int) (Q : List D → Sto → Prop) : Option Int → Sto → Prop := fun u M3 => match res M3 x with
  | .lst xs => xs.length ≤ sizeLine ∧ Q (cutD xs l u) M3
  | _ => False
def kSl2 (th : DTO) (x : D) (s : Sl) (Q : List D → Sto → Prop) (E : DXK) : Option Int → Sto → Prop := fun l M2 => th s M2 (kSl3 x l Q) E
def kSl1 (tl th : DTO) (s : Sl) (Q : List D → Sto → Prop) (E : DXK) : DK := fun x M1 => tl s M1 (kSl2 th x s Q E) E
def dFSl (te : DTE) (tl th : DTO) : DTI := fun s M Q E => te s M (kSl1 tl th s Q E) E
theorem mono_FSl {tl th : DTO} (h1 : MonoE te) (h2 : MonoO tl) (h3 : MonoO th) : MonoI (dFSl te tl th) := fun s M Q Q' E E' hq hx z =>
  h1 s M _ _ _ _ (fun x M1 q => h2 s M1 _ _ _ _ (fun l M2 q => h3 s M2 _ _ _ _ (fun u M3 q => by
    unfold kSl3 at q ⊢
    split at q
    · exact ⟨q.1, hq _ _ q.2⟩
    · exact q) hx q) hx q) hx z
theorem cutD_len {α : Type} (xs : List α) (lo hi : Option Int) : (cutD xs lo hi).length ≤ xs.length := by
  unfold cutD
  rw [List.length_take, List.length_drop]
  omega
theorem df_slice {lo hi : Option Expr} {tl th : DTO} (h1 : DE X E e te) (h2 : DO X E lo tl) (h3 : DO X E hi th) : DF X E (.Subscript e (.Slice lo hi none p2) pos) (dFSl te tl th) where
  run := pe_w (pe_slice sl_list h1.run h2.run h3.run) fun σ H Q ⟨W, s, M, rh, rs, h⟩ => by
    refine ⟨W, s, M, rh, rs, h1.mono _ _ _ _ _ _ (fun x M1 q1 => ?_) (fun _ _ z => z) h⟩
    intro W1 v1 H1 l1 rh1 d1
    refine ⟨W1, s, M1, rh1, rs.mono l1, h2.mono _ _ _ _ _ _ (fun l M2 q2 => ?_) (fun _ _ z => z.up l1) q1⟩
    intro W2 H2 l2 rh2
    refine ⟨W2, s, M2, rh2, (rs.mono l1).mono l2, h3.mono _ _ _ _ _ _ (fun u M3 q3 => ?_) (fun _ _ z => z.up (l1.trans l2)) q2⟩
    intro W3 H3 l3 rh3
    unfold kSl3 at q3
    split at q3
    · rename_i xs ex
      obtain ⟨a, vs, rfl, f1, f2⟩ := lst_of rh3 (DatR.mono l3 _ _ (DatR.mono l2 _ _ d1)) ex
      exact ⟨a, vs, rfl, SqL.of f1, fun p np => q3.2 W3 p _ ((l1.trans l2).trans l3) (Frs.mk rh3 np (Nat.le_trans (cutD_len _ _ _) q3.1) (f2.cut l u))⟩
    · exact q3.elim
  mono := mono_FSl h1.mono h2.mono h3.mono
/-- xs[::-1] -/
def kRev (Q : List D → Sto → Prop) : DK := fun x M1 => match res M1 x with
  | .lst xs => xs.length ≤ sizeLine ∧ Q xs.reverse M1
  | _ => False
def dFRev (te : DTE) : DTI := fun s M Q E => te s M (kRev Q) E
theorem mono_FRev (h1 : MonoE te) : MonoI (dFRev te) := fun s M Q Q' E E' hq hx z =>
  h1 s M _ _ _ _ (fun x M1 q => by
    unfold kRev at q ⊢
    split at q
    · exact ⟨q.1, hq _ _ q.2⟩
    · exact q) hx z
theorem df_rev {k : Nat} {p1 p2 p3 : Pos} (h1 : DE X E e te) : DF X E (.Subscript e (.Slice none none (some (.UnaryOp .USub (.Constant (.int 1) k p1) p2)) p3) pos) (dFRev te) where
  run := pe_w (pe_revL h1.run) fun σ H Q ⟨W, s, M, rh, rs, h⟩ => by
    refine ⟨W, s, M, rh, rs, h1.mono _ _ _ _ _ _ (fun x M1 q1 => ?_) (fun _ _ z => z) h⟩
    intro W1 v1 H1 l1 rh1 d1
    unfold kRev at q1
    split at q1
    · rename_i xs ex
      obtain ⟨a, vs, rfl, f1, f2⟩ := lst_of rh1 d1 ex
      exact ⟨a, vs, rfl, SqL.of f1, fun p np => q1.2 W1 p _ l1 (Frs.mk rh1 np (by simpa using q1.1) f2.rev)⟩
    · exact q1.elim
  mono := mono_FRev h1.mono
/-! ### pairs -/
def zipD (xs ys : List D) : List D := List.zipWith (fun x y => D.tup [x, y]) xs ys
def enumD (n : Nat) : List D → List D
  | [] => []
  | x :: r => .tup [.int (n : Nat), x] :: enumD (n + 1) r
theorem enumD_len : ∀ (xs : List D) (n : Nat), (enumD n xs).length = xs.length
  | [], _ => rfl
  | x :: r, n => by
    show (enumD (n + 1) r).length + 1 = r.length + 1
    rw [enumD_len r]
theorem enumD_get : ∀ (xs : List D) (n i : Nat), (enumD n xs)[i]? = (xs[i]?).map fun x => .tup [.int ((n + i : Nat) : Int), x]
  | [], _, _ => rfl
  | x :: r, n, 0 => rfl
  | x :: r, n, i + 1 => by
    show (enumD (n + 1) r)[i]? = (r[i]?).map _
    rw [enumD_get r]
    have e : n + 1 + i = n + (i + 1) := by omega
    rw [e]
theorem zipD_len (xs ys : List D) : (zipD xs ys).length = min xs.length ys.length := List.length_zipWith
theorem zipD_get {xs ys : List D} {i : Nat} {d : D} (h : (zipD xs ys)[i]? = some d) : ∃ x y, xs[i]? = some x ∧ ys[i]? = some y ∧ d = .tup [x, y] := by
  unfold zipD at h
  rw [List.getElem?_zipWith] at h
  split at h
  · cases h
    rename_i x y e1 e2
    exact ⟨x, y, e1, e2, rfl⟩
  · cases h
/-- a new pair -/
theorem pair_new {K : PySem.W.Frag} {W1 : Wld} {M : Sto} {H : Hp} {p : Addr} {x y : D} {v w : V} (r : RelH K W1 M H) (np : H p = none) (h1 : DatR K W1 x v) (h2 : DatR K W1 y w) : ∃ W2, Wle W1 W2 ∧ RelH K W2 M (upd H p (.tup [v, w])) ∧ DatR K W2 (.tup [x, y]) (.ref p) := by
  obtain ⟨l, r2⟩ := r.add (o := .tup [v, w]) np
  refine ⟨_, l, r2, ?_⟩
  simp only [DatR]
  exact ⟨p, [v, w], rfl, .inl (.inl upd_same), by rw [sizeLine_eq]; show 2 ≤ _; omega, DatL.mono l _ _ (.cons h1 (.cons h2 .nil))⟩
theorem zip_walk {K : PySem.W.Frag} {W : Wld} {J : It} {xs ys : List D} {vs ws : List V} (dx : DatL K W xs vs) (dy : DatL K W ys ws) (le : xs.length ≤ sizeLine)
    (st : ∀ i W1 M1 H1, Wlf W W1 → RelH K W1 M1 H1 → vs.length ≤ i ∨ ws.length ≤ i → J.stop i H1)
    (go : ∀ i W1 M1 H1, Wlf W W1 → RelH K W1 M1 H1 → i < vs.length → i < ws.length → J.go i H1)
    (yl : ∀ i W1 M1 H1 x H2, Wlf W W1 → RelH K W1 M1 H1 → J.yld i H1 x H2 → ∃ T v w, x = .ref T ∧ H1 T = none ∧ H2 = upd H1 T (.tup [v, w]) ∧ vs[i]? = some v ∧ ws[i]? = some w) : Walks K W J (zipD xs ys) where
  le := by
    rw [zipD_len]
    omega
  stop := fun i W1 M1 H1 l r h => st i W1 M1 H1 l r (by
    rw [zipD_len] at h
    rw [dx.len, dy.len]
    omega)
  go := fun i W1 M1 H1 l r h => by
    rw [zipD_len] at h
    exact go i W1 M1 H1 l r (by rw [dx.len]; omega) (by rw [dy.len]; omega)
  yld := fun i W1 M1 H1 d x H2 l r e y => by
    obtain ⟨T, v, w, rfl, nT, rfl, e1, e2⟩ := yl i W1 M1 H1 x H2 l r y
    obtain ⟨x, y, f1, f2, rfl⟩ := zipD_get e
    obtain ⟨v', g1, g2⟩ := dx.get f1
    obtain ⟨w', g3, g4⟩ := dy.get f2
    rw [e1] at g1
    rw [e2] at g3
    cases g1
    cases g3
    exact pair_new r nT (DatR.lf l _ _ g2) (DatR.lf l _ _ g4)
def kZip (Q : List D → Sto → Prop) : List D → Sto → Prop := fun ds M1 => match ds with
  | [.lst xs, .lst ys] => Q (zipD xs ys) M1
  | [.tup xs, .tup ys] => Q (zipD xs ys) M1
  | _ => False
def dZip (tr : DTA) : DTI := fun s M Q E => tr s M (kZip Q) E
theorem mono_Zip (h : MonoA tr) : MonoI (dZip tr) := fun s M Q Q' E E' hq hx z => h s M _ _ _ _ (fun ds M1 q => by
  unfold kZip at q ⊢
  split at q
  · exact hq _ _ q
  · exact hq _ _ q
  · exact q) hx z
theorem di_zip {tpos : Pos} {elts : List Expr} {kk : Nat} {e2 : Expr} (hg : Gl X "zip") (hm : X.mg "zip" = none) (ha : DA X E [e, e2] tr)
    (hs : starEach [e, e2] X.env = (false, eval e X.env) :: starEach [e2] X.env := by rfl) (hpl : (backTo pos (starEach [e2] X.env)).any (·.1) = false := by rfl) :
    DIt X E (.Tuple elts kk tpos) (.Call (.Name "zip" p) [e, e2] [] pos) (dZip tr) where
  run := pi_w (RZ.pi_zipA hg hm ha.run hs hpl) fun σ H R ⟨W, s, M, rh, rs, q⟩ => by
    refine ⟨W, s, M, rh, rs, ha.mono _ _ _ _ _ _ (fun ds M1 h1 => ?_) (fun _ _ z => z) q⟩
    intro W1 vs H1 l1 rh1 d1
    unfold kZip at h1
    split at h1
    · rename_i xs ys
      obtain ⟨v, w, rfl, h2, h3⟩ := datL2 d1
      simp only [DatR] at h2 h3
      obtain ⟨a, us, rfl, f1, f2, f3⟩ := h2
      obtain ⟨b, ws, rfl, g1, g2, g3⟩ := h3
      have sa : ∀ {W2 M2 H2}, Wlf W1 W2 → RelH X.K W2 M2 H2 → SqL X.K H2 a us := fun l r => SqL.of (r.sub _ _ (l.g _ _ f1))
      have sb : ∀ {W2 M2 H2}, Wlf W1 W2 → RelH X.K W2 M2 H2 → SqL X.K H2 b ws := fun l r => SqL.of (r.sub _ _ (l.g _ _ g1))
      refine ⟨a, b, us, ws, rfl, .inl ⟨sa (Wle.refl W1).lf rh1, sb (Wle.refl W1).lf rh1, h1 W1 H1 _ l1 rh1 (zip_walk f3 g3 f2 ?_ ?_ ?_)⟩⟩
      · exact fun i W2 M2 H2 l r h => ⟨us, ws, sa l r, sb l r, h⟩
      · exact fun i W2 M2 H2 l r h h' => ⟨us, ws, us[i], ws[i], sa l r, sb l r, List.getElem?_eq_getElem h, List.getElem?_eq_getElem h'⟩
      · intro i W2 M2 H2 x H3 l r ⟨T, u, w, e1, e2, e3, e4, e5⟩
        exact ⟨T, u, w, e1, e2, e3, e4 _ (sa l r), e5 _ (sb l r)⟩
    · rename_i xs ys
      obtain ⟨v, w, rfl, h2, h3⟩ := datL2 d1
      simp only [DatR] at h2 h3
      obtain ⟨a, us, rfl, f1, f2, f3⟩ := h2
      obtain ⟨b, ws, rfl, g1, g2, g3⟩ := h3
      have sa : ∀ {W2 M2 H2}, Wlf W1 W2 → RelH X.K W2 M2 H2 → SqT X.K H2 a us := fun l r => Same.seqT r.sub (Same.seqT l.g f1)
      have sb : ∀ {W2 M2 H2}, Wlf W1 W2 → RelH X.K W2 M2 H2 → SqT X.K H2 b ws := fun l r => Same.seqT r.sub (Same.seqT l.g g1)
      refine ⟨a, b, us, ws, rfl, .inr ⟨sa (Wle.refl W1).lf rh1, sb (Wle.refl W1).lf rh1, h1 W1 H1 _ l1 rh1 (zip_walk f3 g3 f2 ?_ ?_ ?_)⟩⟩
      · exact fun i W2 M2 H2 l r h => ⟨us, ws, sa l r, sb l r, h⟩
      · exact fun i W2 M2 H2 l r h h' => ⟨us, ws, us[i], ws[i], sa l r, sb l r, List.getElem?_eq_getElem h, List.getElem?_eq_getElem h'⟩
      · intro i W2 M2 H2 x H3 l r ⟨T, u, w, e1, e2, e3, e4, e5⟩
        exact ⟨T, u, w, e1, e2, e3, e4 _ (sa l r), e5 _ (sb l r)⟩
    · exact h1.elim
  mono := mono_Zip ha.mono
def kEnum (Q : List D → Sto → Prop) : List D → Sto → Prop := fun ds M1 => match ds with
  | [.lst xs] => Q (enumD 0 xs) M1
  | _ => False
def dEnum (tr : DTA) : DTI := fun s M Q E => tr s M (kEnum Q) E
theorem mono_Enum (h : MonoA tr) : MonoI (dEnum tr) := fun s M Q Q' E E' hq hx z => h s M _ _ _ _ (fun ds M1 q => by
  unfold kEnum at q ⊢
  split at q
  · exact hq _ _ q
  · exact q) hx z
theorem di_enum {tpos : Pos} {elts : List Expr} {kk : Nat} (hg : Gl X "enumerate") (hm : X.mg "enumerate" = none) (ha : DA X E [e] tr) (hs : starEach [e] X.env = [(false, eval e X.env)] := by rfl) :
    DIt X E (.Tuple elts kk tpos) (.Call (.Name "enumerate" p) [e] [] pos) (dEnum tr) where
  run := pi_w (pi_enum hg hm ha.run hs) fun σ H R ⟨W, s, M, rh, rs, q⟩ => by
    refine ⟨W, s, M, rh, rs, ha.mono _ _ _ _ _ _ (fun ds M1 h1 => ?_) (fun _ _ z => z) q⟩
    intro W1 vs H1 l1 rh1 d1
    unfold kEnum at h1
    split at h1
    · rename_i xs
      obtain ⟨v, rfl, h2⟩ := datL1 d1
      simp only [DatR] at h2
      obtain ⟨a, us, rfl, f1, f2, f3⟩ := h2
      have sa : ∀ {W2 M2 H2}, Wlf W1 W2 → RelH X.K W2 M2 H2 → SqL X.K H2 a us := fun l r => SqL.of (r.sub _ _ (l.g _ _ f1))
      refine ⟨a, us, rfl, sa (Wle.refl W1).lf rh1, h1 W1 H1 _ l1 rh1 ⟨by rw [enumD_len]; exact f2, ?_, ?_, ?_⟩⟩
      · exact fun i W2 M2 H2 l r h => ⟨us, sa l r, by rw [enumD_len] at h; rw [f3.len]; exact h⟩
      · intro i W2 M2 H2 l r h
        rw [enumD_len, ← f3.len] at h
        exact ⟨us, us[i], sa l r, List.getElem?_eq_getElem h⟩
      · intro i W2 M2 H2 d x H3 l r e ⟨T, u, e1, e2, e3, e4⟩
        subst e1 e3
        rw [enumD_get] at e
        rcases ex : xs[i]? with - | x
        · rw [ex] at e; cases e
        · rw [ex] at e
          cases e
          obtain ⟨v, g1, g2⟩ := f3.get ex
          rw [e4 _ (sa l r)] at g1
          cases g1
          rw [Nat.zero_add]
          exact pair_new r e2 (by simp only [DatR]) (DatR.lf l _ _ g2)
    · exact h1.elim
  mono := mono_Enum ha.mono
end
end DL
/-! DLList3: int constants of the module; evaluation of what DLList, DLList2 brought (own work). -/
namespace DL
open PySem PySem.Spec PyProof.Rows L2
theorem mono_oNo : MonoO oNo := fun s M Q Q' E E' h _ q => h _ _ q
theorem de_globI {X : Cx} {E : XK} {x : Str} {i : Int} {pos : Pos} (hg : Gl X x) (hm : ∃ t, X.mg x = some (.int i t)) (hdb : (x == ("__debug__" : Str)) = false := by decide) : DE X E (.Name x pos) (dC (.int i)) := by
  obtain ⟨t, ht⟩ := hm
  exact de_c (v := .int i) (pe_glob hg ht (show RelV (.int i) (.int i t) from ⟨t, rfl⟩) hdb) fun _ => by simp only [DatR]
def kFz (Q : DK) : List D → Sto → Prop := fun xs M1 => Q (.lst xs) M1
def kOw (Q : DK) : List D → Sto → Prop := fun xs M1 => Q (.own M1.length) (M1 ++ [some xs])
def kFL (Q : List D → Sto → Prop) : List D → Sto → Prop := fun ds M1 => ds.length ≤ sizeLine ∧ Q ds M1
def kFB2 (f : Sto → D → D → Res) (x : D) (Q : List D → Sto → Prop) : DK := fun y M2 => apL (f M2 x y) fun xs => Q xs M2
def kFB1 (f : Sto → D → D → Res) (tb : DTE) (s : Sl) (Q : List D → Sto → Prop) (E : DXK) : DK := fun x M1 => tb s M1 (kFB2 f x Q) E
def kFFn (f : Sto → List D → Res) (Q : List D → Sto → Prop) : List D → Sto → Prop := fun xs M1 => apL (f M1 xs) fun ys => Q ys M1
def kFC (g : DTG) (tt : DTT) (te : DTE) (vs : List Nat) (s : Sl) (Q : List D → Sto → Prop) : List D → Sto → Prop := fun xs M1 => compD g tt te xs (wiped s vs) M1 Q fun _ _ => False
section
variable {t u : DTS} {D0 : DEnd} {s : Sl} {M M1 : Sto} {Q : DK} {QA : List D → Sto → Prop} {E : DXK} {ta tb te to : DTE} {tr : DTA} {ti : DTI} {tl th : DTO} {g : DTG} {tt : DTT} {d x y : D} {xs ys a b : List D} {k : Nat} {i : Int} {f : Sto → D → D → Res} {fn : Sto → List D → Res} {mf : MF}
theorem e_Fz : dFz ti s M Q E = ti s M (kFz Q) E := rfl
theorem e_kFz : kFz Q xs M = Q (.lst xs) M := rfl
theorem e_Ow : dOw ti s M Q E = ti s M (kOw Q) E := rfl
theorem e_kOw : kOw Q xs M = Q (.own M.length) (M ++ [some xs]) := rfl
theorem e_FL : dFL tr s M QA E = tr s M (kFL QA) E := rfl
theorem e_kFL : kFL QA xs M = (xs.length ≤ sizeLine ∧ QA xs M) := rfl
theorem e_FBin : dFBin f ta tb s M QA E = ta s M (kFB1 f tb s QA E) E := rfl
theorem e_kFB1 : kFB1 f tb s QA E x M = tb s M (kFB2 f x QA) E := rfl
theorem e_kFB2 : kFB2 f x QA y M = apL (f M x y) fun xs => QA xs M := rfl
theorem e_FFn : dFFn fn tr s M QA E = tr s M (kFFn fn QA) E := rfl
theorem e_kFFn : kFFn fn QA xs M = apL (fn M xs) fun ys => QA ys M := rfl
theorem e_FC {vs} : dFC ti g tt te vs s M QA E = ti s M (kFC g tt te vs s QA) E := rfl
theorem e_kFC {vs} : kFC g tt te vs s QA xs M = compD g tt te xs (wiped s vs) M QA fun _ _ => False := rfl
theorem e_apL1 {R : List D → Prop} : apL (.ok (.lst xs)) R = R xs := rfl
theorem e_apL2 {C} {R : List D → Prop} : apL (.side C (.lst xs)) R = (C ∧ R xs) := rfl
theorem e_Mth : dMth mf to tr s M Q E = to s M (kMth tr mf s Q E) E := rfl
theorem e_kMth : kMth tr mf s Q E (.own k) M = mthP tr mf s Q E k M (M[k]?) := rfl
def kMthO (mf : MF) (k : Nat) (Q : DK) : List D → Sto → Prop := fun xs M2 => mthO mf k xs Q M2 (M2[k]?)
theorem e_mthP : mthP tr mf s Q E k M (some (some a)) = tr s M (kMthO mf k Q) E := rfl
theorem e_kMthO : kMthO mf k Q xs M = mthO mf k xs Q M (M[k]?) := rfl
def mthR (k : Nat) (Q : DK) (M2 : Sto) : Option (Prop × List D × D) → Prop
  | some (C, ds', d) => C ∧ Q d (M2.set k (some ds'))
  | none => False
theorem e_mthO : mthO mf k xs Q M (some (some a)) = mthR k Q M (mf M a xs) := by
  show (match mf M a xs with
    | some (C, ds', d) => C ∧ Q d (M.set k (some ds'))
    | none => False) = _
  rcases mf M a xs with - | ⟨C, ds', d⟩ <;> rfl
theorem e_mthR {C : Prop} : mthR k Q M (some (C, a, d)) = (C ∧ Q d (M.set k (some a))) := rfl
theorem x_app : fApp M a [d] = some (a.length < sizeLine, a ++ [d], .non) := rfl
theorem x_ins : fIns M a [.int i, d] = some (a.length < sizeLine ∧ 0 ≤ i ∧ i < 2 ^ 63, a.take i.toNat ++ [d] ++ a.drop i.toNat, .non) := rfl
def extR (a : List D) : D → Option (Prop × List D × D)
  | .lst zs => some (a.length + zs.length ≤ sizeLine, a ++ zs, .non)
  | _ => none
theorem x_ext : fExt M a [d] = extR a (res M d) := by
  show (match res M d with
    | .lst zs => some (a.length + zs.length ≤ sizeLine, a ++ zs, D.non)
    | _ => none) = _
  cases res M d <;> rfl
theorem x_extR : extR a (.lst b) = some (a.length + b.length ≤ sizeLine, a ++ b, .non) := rfl
def resO (k : Nat) : Option (Option (List D)) → D
  | some (some ds) => .lst ds
  | _ => .own k
theorem x_resO : res M (.own k) = resO k (M[k]?) := by
  show (match M[k]? with
    | some (some ds) => D.lst ds
    | _ => .own k) = _
  rfl
theorem x_resR : resO k (some (some a)) = .lst a := rfl
theorem x_resL : res M (.lst a) = .lst a := rfl
theorem x_resT : res M (.tup a) = .tup a := rfl
def addLR : D → D → Res
  | .lst a, .lst b => .side (a.length + b.length ≤ sizeLine) (.lst (a ++ b))
  | _, _ => .no
theorem x_addLL : fAddL M x y = addLR (res M x) (res M y) := rfl
theorem x_addLR : addLR (.lst a) (.lst b) = .side (a.length + b.length ≤ sizeLine) (.lst (a ++ b)) := rfl
theorem x_listL : fList M [.lst a] = .side (a.length ≤ sizeLine) (.lst a) := rfl
theorem x_listT : fList M [.tup a] = .ok (.lst a) := rfl
theorem x_tupleL : fTuple M [.lst a] = .side (a.length ≤ sizeLine) (.tup a) := rfl
theorem x_tupleT : fTuple M [.tup a] = .ok (.tup a) := rfl
theorem e_FSl : dFSl te tl th s M QA E = te s M (kSl1 tl th s QA E) E := rfl
theorem e_kSl1 : kSl1 tl th s QA E x M = tl s M (kSl2 th x s QA E) E := rfl
theorem e_kSl2 {l} : kSl2 th x s QA E l M = th s M (kSl3 x l QA) E := rfl
def slR (l u : Option Int) (QA : List D → Sto → Prop) (M : Sto) : D → Prop
  | .lst xs => xs.length ≤ sizeLine ∧ QA (cutD xs l u) M
  | _ => False
theorem e_kSl3 {l u} : kSl3 x l QA u M = slR l u QA M (res M x) := rfl
theorem e_slR {l u} : slR l u QA M (.lst xs) = (xs.length ≤ sizeLine ∧ QA (cutD xs l u) M) := rfl
variable {QI : Option Int → Sto → Prop}
theorem e_oNo : oNo s M QI E = QI none M := rfl
theorem e_oSo : oSo ta s M QI E = ta s M (kInt QI) E := rfl
theorem e_kInt : kInt QI (.int i) M = QI (some i) M := rfl
theorem e_FRev : dFRev te s M QA E = te s M (kRev QA) E := rfl
def revR (QA : List D → Sto → Prop) (M : Sto) : D → Prop
  | .lst xs => xs.length ≤ sizeLine ∧ QA xs.reverse M
  | _ => False
theorem e_kRev : kRev QA x M = revR QA M (res M x) := rfl
theorem e_revR : revR QA M (.lst xs) = (xs.length ≤ sizeLine ∧ QA xs.reverse M) := rfl
theorem e_Zip : dZip tr s M QA E = tr s M (kZip QA) E := rfl
theorem e_kZipL : kZip QA [.lst xs, .lst ys] M = QA (zipD xs ys) M := rfl
theorem e_kZipT : kZip QA [.tup xs, .tup ys] M = QA (zipD xs ys) M := rfl
theorem e_Enum : dEnum tr s M QA E = tr s M (kEnum QA) E := rfl
theorem e_kEnum : kEnum QA [.lst xs] M = QA (enumD 0 xs) M := rfl
def frzP (D0 : DEnd) (s : Sl) (M : Sto) (k : Nat) : Option (Option (List D)) → Prop
  | some (some ds) => ds.length ≤ sizeLine ∧ D0.nx (frzS k ds s) (M.set k none)
  | _ => False
def frzL (D0 : DEnd) (s : Sl) (M : Sto) : Option D → Prop
  | some (.own k) => frzP D0 s M k (M[k]?)
  | _ => False
theorem e_FrzS {j : Nat} : dFrzS j D0 s M = frzL D0 s M (look s j) := by
  unfold dFrzS frzL frzP
  rfl
theorem e_frzL : frzL D0 s M (some (.own k)) = frzP D0 s M k (M[k]?) := rfl
theorem e_frzP : frzP D0 s M k (some (some a)) = (a.length ≤ sizeLine ∧ D0.nx (frzS k a s) (M.set k none)) := rfl
theorem x_isi2 {c c' : Ty} {t : Ty} (h : tyD M d = some t) : fIsi M [d, .tup [.ty c, .ty c']] = .side (okT c = true ∧ okT c' = true) (.bl (subT t c || subT t c')) := by
  show (match tyD M d with
    | some t => Res.side (okT c = true ∧ okT c' = true) (.bl (subT t c || subT t c'))
    | none => .no) = _
  rw [h]
end
/-- what a comprehension gives that changes nothing but I -/
theorem compD_filter {g : DTG} {tt : DTT} {te : DTE} {s : Sl} {E : DXK} (I : Sto → Prop) (p : D → Bool) (f : D → D) : ∀ (xs : List D) (M : Sto) (Q : List D → Sto → Prop), I M →
    (∀ x, x ∈ xs → ∀ M, I M → ∀ R : List D → Sto → Prop, ∀ K : Sto → Prop, (p x = true → ∀ M', I M' → R [f x] M') → (p x = false → ∀ M', I M' → K M') → g x s M (fun s1 M1 => tt s1 M1 (fun b M2 => if b = true then te s1 M2 (fun y M3 => R [y] M3) E else K M2) E)) →
    (∀ M', I M' → Q ((xs.filter p).map f) M') → compD g tt te xs s M Q E
  | [], M, Q, h0, _, he => he M h0
  | x :: r, M, Q, h0, hs, he => by
    refine hs x (List.mem_cons_self ..) M h0 (fun ys M3 => match ys with | [y] => compD g tt te r s M3 (fun ys M4 => Q (y :: ys) M4) E | _ => False) _ (fun hp M' hi => ?_) (fun hp M' hi => ?_)
    · refine compD_filter I p f r M' _ hi (fun z m => hs z (List.mem_cons_of_mem _ m)) (fun M2 h2 => ?_)
      have := he M2 h2
      rw [List.filter_cons, if_pos hp] at this
      exact this
    · refine compD_filter I p f r M' _ hi (fun z m => hs z (List.mem_cons_of_mem _ m)) (fun M2 h2 => ?_)
      have := he M2 h2
      rw [List.filter_cons, if_neg (by rw [hp]; decide)] at this
      exact this
theorem seq_cut {t u : DTS} {D0 : DEnd} {s : Sl} {M : Sto} (P : Sl → Sto → Prop) (h1 : ∀ K : Sl → Sto → Prop, (∀ s' M', P s' M' → K s' M') → t ⟨K, D0.rt, D0.xs, D0.bk, D0.ct⟩ s M) (h2 : ∀ s' M', P s' M' → u D0 s' M') : dSeq t u D0 s M := h1 _ h2
theorem zip_mem {xs ys : List D} {x : D} (h : x ∈ zipD xs ys) : ∃ a b, x = .tup [a, b] ∧ a ∈ xs ∧ b ∈ ys := by
  obtain ⟨i, hi⟩ := List.mem_iff_getElem?.mp h
  obtain ⟨a, b, h1, h2, h3⟩ := zipD_get hi
  exact ⟨a, b, h3, List.mem_of_getElem? h1, List.mem_of_getElem? h2⟩
theorem cut_mem {α : Type} {xs : List α} {lo hi : Option Int} {x : α} (h : x ∈ cutD xs lo hi) : x ∈ xs := List.mem_of_mem_drop (List.mem_of_mem_take h)
/-! a, b, c = (x, y, z) -/
def kPar3 (i j l : Nat) (s : Sl) (nx : Sl → Sto → Prop) : List D → Sto → Prop := fun ds M1 => match ds with
  | [x, y, z] => nx (put (put (put s i (some x)) j (some y)) l (some z)) M1
  | _ => False
def dPar3 (i j l : Nat) (ta : DTA) : DTS := fun D s M => ta s M (kPar3 i j l s D.nx) D.xs
theorem mono_Par3 {i j l : Nat} {ta : DTA} (ha : MonoA ta) : MonoS (dPar3 i j l ta) := fun D D' s M h q => ha _ _ _ _ _ _ (fun ds M1 z => by
  unfold kPar3 at z ⊢
  split at z
  · exact h.nx _ _ z
  · exact z) h.xs q
theorem ds_par3 {X : Cx} {E : XK} {i j l : Nat} {x y z : Str} {a b c : Expr} {ta : DTA} {px py pz pt pos : Pos} {kt k2 pt2} (hc : X.calm = true) (hN : X.N.Nodup) (hi : X.N[i]? = some x) (hj : X.N[j]? = some y) (hl : X.N[l]? = some z) (hij : i ≠ j) (hil : i ≠ l) (hjl : j ≠ l)
    (hx : X.env.scope.names.lookup x = some .local) (hy : X.env.scope.names.lookup y = some .local) (hz : X.env.scope.names.lookup z = some .local) (ha : DA X E [a, b, c] ta)
    (hw : swappedStores [.Tuple [.Name x px, .Name y py, .Name z pz] kt pt] (.Tuple [a, b, c] k2 pt2) X.env = pure (some [x, y, z]))
    (hs : swapsWithSole [.Tuple [.Name x px, .Name y py, .Name z pz] kt pt] (.Tuple [a, b, c] k2 pt2) pos.line X.env = pure false := by rfl) :
    DSt X E (.Assign [.Tuple [.Name x px, .Name y py, .Name z pz] kt pt] (.Tuple [a, b, c] k2 pt2) pos) (dPar3 i j l ta) where
  run := ps_w (ps_par3 hc hN hi hj hl hij hil hjl hx hy hz ha.run hw hs) fun D σ H ⟨W, s, M, rh, rs, q⟩ => by
    refine ⟨W, s, M, rh, rs, ha.mono _ _ _ _ _ _ (fun ds M1 h1 => ?_) (fun _ _ z => z) q⟩
    intro W1 vs H1 l1 rh1 d1
    unfold kPar3 at h1
    split at h1
    · rename_i d d' d''
      obtain ⟨v, r, rfl, e1, d2⟩ := d1.inv
      obtain ⟨w, r', rfl, e2, d3⟩ := d2.inv
      obtain ⟨u, r'', rfl, e3, d4⟩ := d3.inv
      cases d4.inv0
      exact ⟨v, w, u, rfl, h1 W1 _ H1 l1 rh1 ((((rs.mono l1).put e1).put e2).put e3)⟩
    · exact h1.elim
  mono := mono_Par3 ha.mono
theorem e_Par3 {i j l : Nat} {tr : DTA} {D0 : DEnd} {s : Sl} {M : Sto} : dPar3 i j l tr D0 s M = tr s M (kPar3 i j l s D0.nx) D0.xs := rfl
theorem e_kPar3 {i j l : Nat} {s : Sl} {nx : Sl → Sto → Prop} {M : Sto} {x y z : D} : kPar3 i j l s nx [x, y, z] M = nx (put (put (put s i (some x)) j (some y)) l (some z)) M := rfl
end DL
/-! DLMore: is of truth values; a list unpacked into names (own work). -/
namespace DL
open PySem PySem.Spec PyProof.Rows L2
/-! ### is of two truth values -/
def fIsB : Sto → D → D → Res
  | _, .bl a, .bl b => .ok (.bl (decide (a = b)))
  | _, _, _ => .no
def fNotB : Sto → D → D → Res
  | _, .bl a, .bl b => .ok (.bl (!decide (a = b)))
  | _, _, _ => .no
section
variable {K : PySem.W.Frag}
theorem s_isB : OpS K fIsB (fun x y H Q => ∃ a b, x = .bl a ∧ y = .bl b ∧ Q (.bl (decide (a = b))) H) := by
  intro W M H x y d vx vy Q r hx hy h q
  cases x <;> cases y <;> first | exact (has_no h).elim | skip
  cases dat_bl hx; cases dat_bl hy
  rw [has_ok h] at q
  exact ⟨_, _, rfl, rfl, ql_self q r datB⟩
theorem s_notB : OpS K fNotB (fun x y H Q => ∃ a b, x = .bl a ∧ y = .bl b ∧ Q (.bl (!decide (a = b))) H) := by
  intro W M H x y d vx vy Q r hx hy h q
  cases x <;> cases y <;> first | exact (has_no h).elim | skip
  cases dat_bl hx; cases dat_bl hy
  rw [has_ok h] at q
  exact ⟨_, _, rfl, rfl, ql_self q r datB⟩
end
theorem x_isB {M : Sto} {a b : Bool} : fIsB M (.bl a) (.bl b) = .ok (.bl (decide (a = b))) := rfl
theorem x_notB {M : Sto} {a b : Bool} : fNotB M (.bl a) (.bl b) = .ok (.bl (!decide (a = b))) := rfl
/-! ### a, b, .. = a list -/
def gL (n : Nat) (gs : DTGs) : DTG := fun d s M Q => match d with
  | .lst xs => xs.length = n ∧ gs xs s M Q
  | _ => False
theorem mono_gL {n gs} (hr : MonoGs gs) : MonoG (gL n gs) := fun d s M Q Q' h q => by
  cases d with
  | lst xs => exact ⟨q.1, hr _ _ _ _ _ h q.2⟩
  | _ => exact q
theorem dg_lst {X : Cx} {es : List Expr} {pos : Pos} {k n : Nat} {vs : List Nat} {gs : DTGs} (hc : X.calm = true) (h : DGs X es vs gs) (hn : (assignEach es X.env).length = n := by rfl) (hst : (assignEach es X.env).findIdx? (·.1) = none := by rfl) : DGt X (.Tuple es k pos) vs (gL n gs) where
  run := pg_w (pg_lst hc h.run hn hst) fun v σ H Q ⟨W, s, M, d, rh, rs, hd, q⟩ => by
    cases d with
    | lst ds =>
      simp only [DatR] at hd
      obtain ⟨a, xs, rfl, h1, h2, h3⟩ := hd
      exact ⟨a, xs, rfl, SqL.of (rh.sub _ _ h1), by rw [h3.len]; exact q.1, W, s, M, ds, rh, rs, h3, q.2⟩
    | _ => exact q.elim
  mono := mono_gL h.mono
theorem e_gL {n : Nat} {gs : DTGs} {xs : List D} {s : Sl} {M : Sto} {nx : Sl → Sto → Prop} : gL n gs (.lst xs) s M nx = (xs.length = n ∧ gs xs s M nx) := rfl
end DL
namespace DL
theorem ints_succ {a : Int} {n : Nat} : intsD a (n + 1) = .int a :: intsD (a + 1) n := by
  unfold intsD
  rw [List.range_succ_eq_map, List.map_cons, List.map_map]
  congr 1
  · simp
  · refine List.map_congr_left fun i _ => ?_
    simp only [Function.comp]
    congr 1
    omega
end DL
/-! DLClo: lists that a def made for itself are forgotten where it ends (own work). -/
namespace DL
open PySem PySem.Spec PyProof.Rows L2
mutual
/-- names no list that may change -/
def noOwn : D → Bool
  | .own _ => false
  | .tup xs | .lst xs | .wl xs => noOwnL xs
  | _ => true
def noOwnL : List D → Bool
  | [] => true
  | x :: r => noOwn x && noOwnL r
end
/-- what holds of the value with the lists that stood at the entry, those that came put aside -/
def clo (M : Sto) (Q : DK) : DK := fun d M' => Q d M' ∨ ∃ M1 N : Sto, M' = M1 ++ N ∧ M1.length = M.length ∧ noOwn d = true ∧ (∀ (k : Nat) (ds : List D), M1[k]? = some (some ds) → M[k]? = some (some ds) ∨ noOwnL ds = true) ∧ Q d M1
theorem clo_self {M M' : Sto} {Q : DK} {d : D} (h : Q d M') : clo M Q d M' := .inl h
theorem clo_pure {M N : Sto} {Q : DK} {d : D} (hd : noOwn d = true) (h : Q d M) : clo M Q d (M ++ N) := .inr ⟨M, N, rfl, rfl, hd, fun _ _ e => .inl e, h⟩
/-- one list of the entry has changed -/
theorem clo_one {M M' : Sto} {Q : DK} {d : D} {p : Nat} {ds : List D} (hd : noOwn d = true) (l : M.length ≤ M'.length) (o : ∀ j, j < M.length → j ≠ p → M'[j]? = M[j]?) (hp : M'[p]? = some (some ds)) (hn : noOwnL ds = true) (h : Q d (M'.take M.length)) : clo M Q d M' := by
  refine .inr ⟨M'.take M.length, M'.drop M.length, (List.take_append_drop ..).symm, by rw [List.length_take]; omega, hd, fun k es e => ?_, h⟩
  have hk : k < M.length := by
    have := (List.getElem?_eq_some_iff.mp e).1
    rw [List.length_take] at this
    omega
  rw [List.getElem?_take, if_pos hk] at e
  by_cases c : k = p
  · subst c
    rw [hp] at e
    cases e
    exact .inr hn
  · rw [o k hk c] at e
    exact .inl e
section
variable {K : PySem.W.Frag} {W W' : Wld}
mutual
theorem DatR.noOwn {G : Hp} {ad ad' : List Addr} {F F' : Hp} : ∀ (d : D) (v : V), noOwn d = true → DatR K ⟨G, ad, F⟩ d v → DatR K ⟨G, ad', F'⟩ d v
  | .non, _, _, q => q
  | .bl _, _, _, q => q
  | .int _, _, _, q => q
  | .str _, _, _, q => q
  | .ty _, _, _, q => q
  | .tup ds, v, n, q => by
    simp only [DatR] at q ⊢
    obtain ⟨a, vs, e, h1, h2, h3⟩ := q
    exact ⟨a, vs, e, h1, h2, DatL.noOwn ds vs (by simpa [DL.noOwn] using n) h3⟩
  | .lst ds, v, n, q => by
    simp only [DatR] at q ⊢
    obtain ⟨a, vs, e, h1, h2, h3⟩ := q
    exact ⟨a, vs, e, h1, h2, DatL.noOwn ds vs (by simpa [DL.noOwn] using n) h3⟩
  | .wl ds, v, n, q => by
    simp only [DatR] at q ⊢
    obtain ⟨a, vs, e, h1, h2, h3⟩ := q
    exact ⟨a, vs, e, h1, h2, DatL.noOwn ds vs (by simpa [DL.noOwn] using n) h3⟩
  | .emp, v, _, q => by
    simp only [DatR] at q ⊢
    exact q
  | .own k, v, n, q => by simp [DL.noOwn] at n
theorem DatL.noOwn {G : Hp} {ad ad' : List Addr} {F F' : Hp} : ∀ (ds : List D) (vs : List V), noOwnL ds = true → DatL K ⟨G, ad, F⟩ ds vs → DatL K ⟨G, ad', F'⟩ ds vs
  | [], _, _, q => q
  | d :: ds, vs, n, q => by
    simp only [DatL] at q ⊢
    simp only [DL.noOwnL, Bool.and_eq_true] at n
    obtain ⟨v, r, e, h1, h2⟩ := q
    exact ⟨v, r, e, DatR.noOwn d v n.1 h1, DatL.noOwn ds r n.2 h2⟩
end
mutual
/-- what stood at the entry names lists of the entry alone -/
theorem DatR.back (h : Wle W W') : ∀ (d : D) (v v0 : V), DatR K W d v0 → DatR K W' d v → DatR K ⟨W'.G, W.ad, W'.F⟩ d v
  | .non, _, _, _, q => q
  | .bl _, _, _, _, q => q
  | .int _, _, _, _, q => q
  | .str _, _, _, _, q => q
  | .ty _, _, _, _, q => q
  | .tup ds, v, v0, p, q => by
    simp only [DatR] at p q ⊢
    obtain ⟨a, vs, e, h1, h2, h3⟩ := q
    obtain ⟨_, vs0, _, _, _, p3⟩ := p
    exact ⟨a, vs, e, h1, h2, DatL.back h ds vs vs0 p3 h3⟩
  | .lst ds, v, v0, p, q => by
    simp only [DatR] at p q ⊢
    obtain ⟨a, vs, e, h1, h2, h3⟩ := q
    obtain ⟨_, vs0, _, _, _, p3⟩ := p
    exact ⟨a, vs, e, h1, h2, DatL.back h ds vs vs0 p3 h3⟩
  | .wl ds, v, v0, p, q => by
    simp only [DatR] at p q ⊢
    obtain ⟨a, vs, e, h1, h2, h3⟩ := q
    obtain ⟨_, vs0, _, _, _, p3⟩ := p
    exact ⟨a, vs, e, h1, h2, DatL.back h ds vs vs0 p3 h3⟩
  | .emp, v, _, _, q => by
    simp only [DatR] at q ⊢
    exact q
  | .own k, v, v0, p, q => by
    simp only [DatR] at p q ⊢
    obtain ⟨a, e, h1⟩ := q
    obtain ⟨b, _, p1⟩ := p
    have z := h.at p1
    rw [h1] at z
    cases z
    exact ⟨_, e, p1⟩
theorem DatL.back (h : Wle W W') : ∀ (ds : List D) (vs vs0 : List V), DatL K W ds vs0 → DatL K W' ds vs → DatL K ⟨W'.G, W.ad, W'.F⟩ ds vs
  | [], _, _, _, q => q
  | d :: ds, vs, vs0, p, q => by
    simp only [DatL] at p q ⊢
    obtain ⟨v, r, e, h1, h2⟩ := q
    obtain ⟨v0, r0, _, p1, p2⟩ := p
    exact ⟨v, r, e, DatR.back h d v v0 p1 h1, DatL.back h ds r r0 p2 h2⟩
end
theorem clo_ql {M : Sto} {H : Hp} {Q : VK} (r0 : RelH K W M H) {d : D} {M' : Sto} (h : clo M (QL K W Q) d M') : QL K W Q d M' := by
  rcases h with h | ⟨M1, N, rfl, hl, hn, hc, h⟩
  · exact h
  intro W' v H' l rh dv
  have lad : W.ad.length = M.length := r0.len
  refine h ⟨W'.G, W.ad, W'.F⟩ v H' ⟨l.g, List.prefix_refl _, l.f⟩ ⟨rh.sub, by rw [hl]; exact lad, r0.nd, fun k ds e => ?_, fun k a e ea => ?_, rh.frm, rh.dis⟩ (DatR.noOwn (G := W'.G) (ad := W'.ad) (F := W'.F) d v hn dv)
  · have hk : k < M1.length := (List.getElem?_eq_some_iff.mp e).1
    obtain ⟨a, vs, e1, e2, e3, e4, e5⟩ := rh.own k ds (by rw [List.getElem?_append_left hk]; exact e)
    have ea : W.ad[k]? = some a := by
      have hk2 : k < W.ad.length := by omega
      have z := l.at (List.getElem?_eq_getElem hk2)
      rw [e1] at z
      rw [List.getElem?_eq_getElem hk2, z]
    refine ⟨a, vs, ea, e2, e3, ?_, e5⟩
    rcases hc k ds e with c | c
    · obtain ⟨_, vs0, _, _, _, p, _⟩ := r0.own k ds c
      exact DatL.back l ds vs vs0 p e4
    · exact DatL.noOwn (G := W'.G) (ad := W'.ad) (F := W'.F) ds vs c e4
  · have ea : W.ad[k]? = some a := ea
    have hk : k < M1.length := (List.getElem?_eq_some_iff.mp e).1
    exact rh.dead k a (by rw [List.getElem?_append_left hk]; exact e) (l.at ea)
end
section
variable {P : Program} {w : World} {K : PySem.W.Frag} {mg : Str → Option Value} {base : Heap} {x qual : Str} {params : Arguments} {body : List Stmt} {scope : Scope} {f : Addr} {fd : FuncData}
/-- a def whose own lists are forgotten -/
theorem dfnC {N ps : List Str} {k : Nat} {sp : DSp} {t : DTS} (F : FunD K x qual params body scope [] [] f fd) (S : FnScope N ps scope) (len : ∀ ds M Q E, sp ds M Q E → ds.length = ps.length)
    (hbody : ∀ (cdv : Value) (A : Around) (outer : List Env) (s : Shared) (H : Hp) (E : XK), A.guards = some [] → Room k (A.deeper (envOfC qual scope s.heap.objs.size f cdv)) → DSs ((cxOf CX0 P w K mg base N qual scope f cdv A outer s H E).nox) E0 body t)
    (vc : ∀ ds M Q E, sp ds M Q E → t { nx := fun _ M' => clo M Q .non M', rt := clo M Q, xs := E } (dstart N.length ds) M)
    (nx : ∀ ds M Q E, sp ds M Q E → sp ds M Q fun _ _ => False) : FnG P w K mg base CX0 (k + 1) f fd ps (lSp K mg sp) := by
  refine FunD.okG F S (fun vs H Q E h => ?_) (fun cdv A outer s H vs Q E gd hr h => ?_)
  · obtain ⟨W, M, ds, rh, dl, h⟩ := h
    rw [dl.len]
    exact len _ _ _ _ h
  · obtain ⟨W, M, ds, rh, dl, h⟩ := h
    have hb := hbody cdv A outer s H E gd hr
    have hp : ps.length ≤ N.length := by
      have z := congrArg List.length S.pre
      rw [List.length_take] at z
      omega
    have hl : vs.length ≤ N.length := by
      rw [dl.len, len _ _ _ _ h]
      exact hp
    refine ⟨_, PSs.nox hb.run, W, dstart N.length ds, M, rh, relS_start dl hl, ?_⟩
    refine hb.mono { nx := fun _ M' => clo M (QL K W Q) .non M', rt := clo M (QL K W Q), xs := fun _ _ => False } _ _ _ ?_ (vc _ _ _ _ (nx _ _ _ _ h))
    exact ⟨fun s' M' q W' σ' H' l rh' rs' => clo_ql rh q W' .non H' l rh' (by simp only [DatR]), fun _ _ z => clo_ql rh z, fun _ _ z => False.elim z, fun _ _ z => False.elim z, fun _ _ z => False.elim z⟩
end
end DL
/-! LawS: promises about a pot, of a law (own work). -/
namespace DL
open PySem
/-- true, and the pot at the first argument stays a pot -/
def potTrue : DSp := fun ds M Q _ => match ds with
  | [.own p] => Pot M p ∧ ∀ M', Pot M' p → Fram p M M' → Q (.bl true) M'
  | _ => False
theorem k_potTrue : SpOk 1 potTrue where
  len := fun ds M Q E h => by
    unfold potTrue at h
    split at h
    · rfl
    · exact h.elim
  ms := fun ds M Q Q' E E' hq hx h => by
    unfold potTrue at h ⊢
    split at h
    · exact ⟨h.1, fun M' h2 h3 => hq _ _ (h.2 M' h2 h3)⟩
    · exact h.elim
  nx := fun ds M Q E h => h
/-- the same, with a value beside the pot -/
def potTrue2 (C : D → Prop) : DSp := fun ds M Q _ => match ds with
  | [.own p, d] => (Pot M p ∧ C d) ∧ ∀ M', Pot M' p → Fram p M M' → Q (.bl true) M'
  | _ => False
theorem k_potTrue2 {C} : SpOk 2 (potTrue2 C) where
  len := fun ds M Q E h => by
    unfold potTrue2 at h
    split at h
    · rfl
    · exact h.elim
  ms := fun ds M Q Q' E E' hq hx h => by
    unfold potTrue2 at h ⊢
    split at h
    · exact ⟨h.1, fun M' h2 h3 => hq _ _ (h.2 M' h2 h3)⟩
    · exact h.elim
  nx := fun ds M Q E h => h
/-- the law: true, whatever the script -/
def lawTrue : DSp := fun ds _ Q _ => match ds with
  | [.wl xs] => (xs.length ≤ 63 ∧ ∃ ns : List Int, xs = ns.map D.int) ∧ ∀ M', Q (.bl true) M'
  | _ => False
theorem k_lawTrue : SpOk 1 lawTrue where
  len := fun ds M Q E h => by
    unfold lawTrue at h
    split at h
    · rfl
    · exact h.elim
  ms := fun ds M Q Q' E E' hq hx h => by
    unfold lawTrue at h ⊢
    split at h
    · exact ⟨h.1, fun M' => hq _ _ (h.2 M')⟩
    · exact h.elim
  nx := fun ds M Q E h => h
def sp_law : DSp := lawTrue
theorem k_law : SpOk 1 sp_law := k_lawTrue
end DL
/-! StrS: what the defs about stretches promise (own work). -/
namespace DL
open PySem
/-- a promise by an encoding of the arguments -/
def spX {α : Type} (enc : α → List D) (C : α → Prop) (R : α → D) : DSp := fun ds M Q _ => ∃ u, ds = enc u ∧ C u ∧ Q (R u) M
theorem spX_eq {α : Type} {enc : α → List D} {C : α → Prop} {R : α → D} (inj : ∀ u v, enc u = enc v → u = v) {u : α} {M Q E} : spX enc C R (enc u) M Q E = (C u ∧ Q (R u) M) :=
  propext ⟨fun ⟨v, e, h⟩ => by rw [inj _ _ e]; exact h, fun h => ⟨u, rfl, h⟩⟩
theorem k_spX {α : Type} {n : Nat} {enc : α → List D} {C : α → Prop} {R : α → D} (hl : ∀ u, (enc u).length = n) : SpOk n (spX enc C R) where
  len := fun ds M Q E ⟨u, e, h⟩ => by rw [e, hl]
  ms := fun ds M Q Q' E E' hq hx ⟨u, e, h1, h2⟩ => ⟨u, e, h1, hq _ _ h2⟩
  nx := fun ds M Q E h => h
/-- a stretch -/
abbrev Str2 := Rat × Rat
def stP (p : Str2) : D := .tup [frq p.1, frq p.2]
theorem stP_inj {p q : Str2} (h : stP p = stP q) : p = q := by
  unfold stP at h
  injection h with h
  injection h with h1 h
  injection h with h2 h
  exact Prod.ext (frq_inj h1) (frq_inj h2)
theorem map_inj {α : Type} {f : α → D} (inj : ∀ a b, f a = f b → a = b) : ∀ {xs ys : List α}, xs.map f = ys.map f → xs = ys
  | [], [], _ => rfl
  | [], _ :: _, h => nomatch h
  | _ :: _, [], h => nomatch h
  | x :: xs, y :: ys, h => by
    rw [List.map_cons, List.map_cons] at h
    injection h with h1 h2
    rw [inj _ _ h1, map_inj inj h2]
def okS (p : Str2) : Prop := p.1 ≤ p.2
instance (p : Str2) : Decidable (okS p) := inferInstanceAs (Decidable (p.1 ≤ p.2))
def sb (k : Nat) (p : Str2) : Prop := qb k p.1 ∧ qb k p.2
theorem sb.mono {k m : Nat} {p : Str2} (h : sb k p) (l : k ≤ m) : sb m p := ⟨h.1.mono l, h.2.mono l⟩
def optS : Option Str2 → D
  | some p => stP p
  | none => .non
def liesB (p q : Str2) : Bool := !decide (p.1 < q.1) && !decide (q.2 < p.2)
def cutS (p q : Str2) : Option Str2 :=
  let l := if p.1 < q.1 then q.1 else p.1
  let h := if q.2 < p.2 then q.2 else p.2
  if h < l then none else some (l, h)
def wideS (p : Str2) (a : Rat) : Option Str2 := if p.2 + a < p.1 - a then none else some (p.1 - a, p.2 + a)
def movedS (p : Str2) (f : Rat) (y : Str2) : Str2 := (f * p.1 + y.1, f * p.2 + y.2)
def backS (g : Str2) (f : Rat) (y : Str2) : Option Str2 := if (g.2 - y.2) / f < (g.1 - y.1) / f then none else some ((g.1 - y.1) / f, (g.2 - y.2) / f)
def beforeS (g : Str2) (f : Rat) (y l : Str2) : Option Str2 := if f = 0 then (if liesB y g = true then some l else none) else (match backS g f y with
  | none => none
  | some b => cutS b l)
def leastQ : List Rat → Rat
  | [] => 0
  | q :: r => (q :: r).foldl (fun f o => if o < f then o else f) q
def greatQ : List Rat → Rat
  | [] => 0
  | q :: r => (q :: r).foldl (fun f o => if f < o then o else f) q
/-! encodings -/
def e1 (p : Str2) : List D := [stP p]
def e2 (p : Str2 × Str2) : List D := [stP p.1, stP p.2]
def eQ (p : Str2 × Rat) : List D := [stP p.1, frq p.2]
def e3 (p : Str2 × Rat × Str2) : List D := [stP p.1, frq p.2.1, stP p.2.2]
def e4 (p : Str2 × Rat × Str2 × Str2) : List D := [stP p.1, frq p.2.1, stP p.2.2.1, stP p.2.2.2]
def eL (qs : List Rat) : List D := [.lst (qs.map frq)]
def eS (ps : List Str2) : List D := [.lst (ps.map stP)]
def eF (q : Rat) : List D := [frq q]
theorem i1e : ∀ u v, e1 u = e1 v → u = v := fun u v h => by
  injection h with h _
  exact stP_inj h
theorem i2e : ∀ u v, e2 u = e2 v → u = v := fun u v h => by
  injection h with h h2
  injection h2 with h2 _
  exact Prod.ext (stP_inj h) (stP_inj h2)
theorem iQe : ∀ u v, eQ u = eQ v → u = v := fun u v h => by
  injection h with h h2
  injection h2 with h2 _
  exact Prod.ext (stP_inj h) (frq_inj h2)
theorem i3e : ∀ u v, e3 u = e3 v → u = v := fun u v h => by
  injection h with h h2
  injection h2 with h2 h3
  injection h3 with h3 _
  exact Prod.ext (stP_inj h) (Prod.ext (frq_inj h2) (stP_inj h3))
theorem i4e : ∀ u v, e4 u = e4 v → u = v := fun u v h => by
  injection h with h h2
  injection h2 with h2 h3
  injection h3 with h3 h4
  injection h4 with h4 _
  exact Prod.ext (stP_inj h) (Prod.ext (frq_inj h2) (Prod.ext (stP_inj h3) (stP_inj h4)))
theorem iLe : ∀ u v, eL u = eL v → u = v := fun u v h => by
  injection h with h _
  injection h with h
  exact map_inj (fun _ _ => frq_inj) h
theorem iSe : ∀ u v, eS u = eS v → u = v := fun u v h => by
  injection h with h _
  injection h with h
  exact map_inj (fun _ _ => stP_inj) h
theorem iFe : ∀ u v, eF u = eF v → u = v := fun u v h => by
  injection h with h _
  exact frq_inj h
/-! promises -/
def sp_is_list : DSp := fun ds M Q _ => (∃ xs, ds = [.lst xs] ∨ ds = [.tup xs]) ∧ Q (.bl true) M
theorem k_is_list : SpOk 1 sp_is_list where
  len := fun ds M Q E h => by
    obtain ⟨⟨xs, rfl | rfl⟩, _⟩ := h <;> rfl
  ms := fun ds M Q Q' E E' hq hx h => ⟨h.1, hq _ _ h.2⟩
  nx := fun ds M Q E h => h
def sp_least_of : DSp := spX eL (fun qs => qs ≠ [] ∧ ∀ q ∈ qs, qb 4000 q) (fun qs => frq (leastQ qs))
def sp_greatest_of : DSp := spX eL (fun qs => qs ≠ [] ∧ ∀ q ∈ qs, qb 4000 q) (fun qs => frq (greatQ qs))
def sp__law_least : DSp := sp_least_of
def sp__law_greatest : DSp := sp_greatest_of
def sp_is_stretch : DSp := spX e1 (fun p => okS p ∧ sb 4000 p) (fun _ => .bl true)
def sp_want_stretch : DSp := spX e1 (fun p => okS p ∧ sb 4000 p) (fun p => stP p)
def sp_want_factor : DSp := spX eF (fun q => 0 ≤ q) (fun q => frq q)
def sp_want_stretches : DSp := fun ds M Q _ => ∃ (ps : List Str2) (i : Int), (ds = [.lst (ps.map stP), .int i] ∨ ds = [.tup (ps.map stP), .int i]) ∧ (i ≤ ps.length ∧ ps.length ≤ 600 ∧ ∀ p ∈ ps, okS p ∧ sb 4000 p) ∧ Q (.lst (ps.map stP)) M
theorem k_want_stretches : SpOk 2 sp_want_stretches where
  len := fun ds M Q E ⟨ps, i, e, _⟩ => by rcases e with rfl | rfl <;> rfl
  ms := fun ds M Q Q' E E' hq hx ⟨ps, i, e, c, q⟩ => ⟨ps, i, e, c, hq _ _ q⟩
  nx := fun ds M Q E h => h
def sp_lies_in : DSp := spX e2 (fun p => sb 4000 p.1 ∧ sb 4000 p.2) (fun p => .bl (liesB p.1 p.2))
def sp__law_lies : DSp := sp_lies_in
def sp_cut_two : DSp := spX e2 (fun p => sb 4000 p.1 ∧ sb 4000 p.2) (fun p => optS (cutS p.1 p.2))
def sp__law_cut : DSp := sp_cut_two
def sp_hull_of : DSp := spX eS (fun ps => ps ≠ [] ∧ ps.length ≤ 600 ∧ ∀ p ∈ ps, sb 4000 p) (fun ps => stP (leastQ (ps.map (·.1)), greatQ (ps.map (·.2))))
def sp_widened_by : DSp := spX eQ (fun p => sb 1900 p.1 ∧ qb 1900 p.2) (fun p => optS (wideS p.1 p.2))
def sp__law_wide : DSp := sp_widened_by
def sp_moved_stretch : DSp := spX e3 (fun p => sb 1000 p.1 ∧ qb 1000 p.2.1 ∧ sb 1000 p.2.2) (fun p => stP (movedS p.1 p.2.1 p.2.2))
def sp__law_moved : DSp := sp_moved_stretch
def sp_back_of : DSp := spX e3 (fun p => p.2.1 ≠ 0 ∧ sb 1000 p.1 ∧ qb 900 p.2.1 ∧ sb 1000 p.2.2) (fun p => optS (backS p.1 p.2.1 p.2.2))
def sp_before_stretch : DSp := spX e4 (fun p => sb 1000 p.1 ∧ qb 900 p.2.1 ∧ sb 1000 p.2.2.1 ∧ sb 1000 p.2.2.2) (fun p => optS (beforeS p.1 p.2.1 p.2.2.1 p.2.2.2))
def sp_is_in : DSp := spX eQ (fun p => okS p.1 ∧ sb 4000 p.1 ∧ qb 4000 p.2) (fun p => .bl (!decide (p.2 < p.1.1) && !decide (p.1.2 < p.2)))
def sp_lies_within : DSp := spX e2 (fun p => (okS p.1 ∧ sb 4000 p.1) ∧ okS p.2 ∧ sb 4000 p.2) (fun p => .bl (liesB p.1 p.2))
def sp_cut : DSp := spX e2 (fun p => (okS p.1 ∧ sb 4000 p.1) ∧ okS p.2 ∧ sb 4000 p.2) (fun p => optS (cutS p.1 p.2))
def sp_hull : DSp := fun ds M Q _ => ∃ ps : List Str2, (ds = [.lst (ps.map stP)] ∨ ds = [.tup (ps.map stP)]) ∧ (ps ≠ [] ∧ ps.length ≤ 600 ∧ ∀ p ∈ ps, okS p ∧ sb 4000 p) ∧ Q (stP (leastQ (ps.map (·.1)), greatQ (ps.map (·.2)))) M
theorem k_hull : SpOk 1 sp_hull where
  len := fun ds M Q E ⟨ps, e, _⟩ => by rcases e with rfl | rfl <;> rfl
  ms := fun ds M Q Q' E E' hq hx ⟨ps, e, c, q⟩ => ⟨ps, e, c, hq _ _ q⟩
  nx := fun ds M Q E h => h
def sp_width : DSp := spX e1 (fun p => okS p ∧ sb 4000 p) (fun p => frq (p.2 - p.1))
def sp_widened : DSp := spX eQ (fun p => okS p.1 ∧ sb 1900 p.1 ∧ qb 1900 p.2) (fun p => optS (wideS p.1 p.2))
def sp_moved : DSp := spX e3 (fun p => okS p.1 ∧ 0 ≤ p.2.1 ∧ okS p.2.2 ∧ sb 1000 p.1 ∧ qb 1000 p.2.1 ∧ sb 1000 p.2.2) (fun p => stP (movedS p.1 p.2.1 p.2.2))
def sp_before : DSp := spX e4 (fun p => (okS p.1 ∧ 0 ≤ p.2.1 ∧ okS p.2.2.1 ∧ okS p.2.2.2) ∧ sb 1000 p.1 ∧ qb 900 p.2.1 ∧ sb 1000 p.2.2.1 ∧ sb 1000 p.2.2.2) (fun p => optS (beforeS p.1 p.2.1 p.2.2.1 p.2.2.2))
theorem k_least_of : SpOk 1 sp_least_of := k_spX fun _ => rfl
theorem k_greatest_of : SpOk 1 sp_greatest_of := k_spX fun _ => rfl
theorem k__law_least : SpOk 1 sp__law_least := k_least_of
theorem k__law_greatest : SpOk 1 sp__law_greatest := k_greatest_of
theorem k_is_stretch : SpOk 1 sp_is_stretch := k_spX fun _ => rfl
theorem k_want_stretch : SpOk 1 sp_want_stretch := k_spX fun _ => rfl
theorem k_want_factor : SpOk 1 sp_want_factor := k_spX fun _ => rfl
theorem k_lies_in : SpOk 2 sp_lies_in := k_spX fun _ => rfl
theorem k__law_lies : SpOk 2 sp__law_lies := k_lies_in
theorem k_cut_two : SpOk 2 sp_cut_two := k_spX fun _ => rfl
theorem k__law_cut : SpOk 2 sp__law_cut := k_cut_two
theorem k_hull_of : SpOk 1 sp_hull_of := k_spX fun _ => rfl
theorem k_widened_by : SpOk 2 sp_widened_by := k_spX fun _ => rfl
theorem k__law_wide : SpOk 2 sp__law_wide := k_widened_by
theorem k_moved_stretch : SpOk 3 sp_moved_stretch := k_spX fun _ => rfl
theorem k__law_moved : SpOk 3 sp__law_moved := k_moved_stretch
theorem k_back_of : SpOk 3 sp_back_of := k_spX fun _ => rfl
theorem k_before_stretch : SpOk 4 sp_before_stretch := k_spX fun _ => rfl
theorem k_is_in : SpOk 2 sp_is_in := k_spX fun _ => rfl
theorem k_lies_within : SpOk 2 sp_lies_within := k_spX fun _ => rfl
theorem k_cut : SpOk 2 sp_cut := k_spX fun _ => rfl
theorem k_width : SpOk 1 sp_width := k_spX fun _ => rfl
theorem k_widened : SpOk 2 sp_widened := k_spX fun _ => rfl
theorem k_moved : SpOk 3 sp_moved := k_spX fun _ => rfl
theorem k_before : SpOk 4 sp_before := k_spX fun _ => rfl
/-! drawn stretches -/
def sp__law_stretch : DSp := fun ds M Q _ => match ds with
  | [.own p] => Pot M p ∧ ∀ (q : Str2) M', okS q → sb 42 q → Pot M' p → Fram p M M' → Q (stP q) M'
  | _ => False
theorem k__law_stretch : SpOk 1 sp__law_stretch where
  len := fun ds M Q E h => by
    unfold sp__law_stretch at h
    split at h
    · rfl
    · exact h.elim
  ms := fun ds M Q Q' E E' hq hx h => by
    unfold sp__law_stretch at h ⊢
    split at h
    · exact ⟨h.1, fun r M' h1 h2 h3 h4 => hq _ _ (h.2 r M' h1 h2 h3 h4)⟩
    · exact h.elim
  nx := fun ds M Q E h => h
section
variable {M : Sto} {Q : DK} {E : DXK} {p q y l : Str2} {a b f : Rat} {n : Nat} {qs : List Rat} {ps : List Str2}
theorem u_least_of : sp_least_of [.lst (qs.map frq)] M Q E = ((qs ≠ [] ∧ ∀ q ∈ qs, qb 4000 q) ∧ Q (frq (leastQ qs)) M) := spX_eq iLe
theorem u_greatest_of : sp_greatest_of [.lst (qs.map frq)] M Q E = ((qs ≠ [] ∧ ∀ q ∈ qs, qb 4000 q) ∧ Q (frq (greatQ qs)) M) := spX_eq iLe
theorem u__law_least : sp__law_least [.lst (qs.map frq)] M Q E = ((qs ≠ [] ∧ ∀ q ∈ qs, qb 4000 q) ∧ Q (frq (leastQ qs)) M) := spX_eq (E := E) iLe
theorem u__law_greatest : sp__law_greatest [.lst (qs.map frq)] M Q E = ((qs ≠ [] ∧ ∀ q ∈ qs, qb 4000 q) ∧ Q (frq (greatQ qs)) M) := spX_eq (E := E) iLe
theorem u_is_stretch : sp_is_stretch [stP p] M Q E = ((okS p ∧ sb 4000 p) ∧ Q (.bl true) M) := spX_eq i1e
theorem u_want_stretch : sp_want_stretch [stP p] M Q E = ((okS p ∧ sb 4000 p) ∧ Q (stP p) M) := spX_eq i1e
theorem u_want_factor : sp_want_factor [frq a] M Q E = (0 ≤ a ∧ Q (frq a) M) := spX_eq iFe
theorem u_lies_in : sp_lies_in [stP p, stP q] M Q E = ((sb 4000 p ∧ sb 4000 q) ∧ Q (.bl (liesB p q)) M) := spX_eq i2e (u := (p, q))
theorem u__law_lies : sp__law_lies [stP p, stP q] M Q E = ((sb 4000 p ∧ sb 4000 q) ∧ Q (.bl (liesB p q)) M) := spX_eq (E := E) i2e (u := (p, q))
theorem u_cut_two : sp_cut_two [stP p, stP q] M Q E = ((sb 4000 p ∧ sb 4000 q) ∧ Q (optS (cutS p q)) M) := spX_eq i2e (u := (p, q))
theorem u__law_cut : sp__law_cut [stP p, stP q] M Q E = ((sb 4000 p ∧ sb 4000 q) ∧ Q (optS (cutS p q)) M) := spX_eq (E := E) i2e (u := (p, q))
theorem u_hull_of : sp_hull_of [.lst (ps.map stP)] M Q E = ((ps ≠ [] ∧ ps.length ≤ 600 ∧ ∀ p ∈ ps, sb 4000 p) ∧ Q (stP (leastQ (ps.map (·.1)), greatQ (ps.map (·.2)))) M) := spX_eq iSe
theorem u_widened_by : sp_widened_by [stP p, frq a] M Q E = ((sb 1900 p ∧ qb 1900 a) ∧ Q (optS (wideS p a)) M) := spX_eq iQe (u := (p, a))
theorem u__law_wide : sp__law_wide [stP p, frq a] M Q E = ((sb 1900 p ∧ qb 1900 a) ∧ Q (optS (wideS p a)) M) := spX_eq (E := E) iQe (u := (p, a))
theorem u_moved_stretch : sp_moved_stretch [stP p, frq f, stP y] M Q E = ((sb 1000 p ∧ qb 1000 f ∧ sb 1000 y) ∧ Q (stP (movedS p f y)) M) := spX_eq i3e (u := (p, f, y))
theorem u__law_moved : sp__law_moved [stP p, frq f, stP y] M Q E = ((sb 1000 p ∧ qb 1000 f ∧ sb 1000 y) ∧ Q (stP (movedS p f y)) M) := spX_eq (E := E) i3e (u := (p, f, y))
theorem u_back_of : sp_back_of [stP p, frq f, stP y] M Q E = ((f ≠ 0 ∧ sb 1000 p ∧ qb 900 f ∧ sb 1000 y) ∧ Q (optS (backS p f y)) M) := spX_eq i3e (u := (p, f, y))
theorem u_before_stretch : sp_before_stretch [stP p, frq f, stP y, stP l] M Q E = ((sb 1000 p ∧ qb 900 f ∧ sb 1000 y ∧ sb 1000 l) ∧ Q (optS (beforeS p f y l)) M) := spX_eq i4e (u := (p, f, y, l))
theorem u_is_in : sp_is_in [stP p, frq a] M Q E = ((okS p ∧ sb 4000 p ∧ qb 4000 a) ∧ Q (.bl (!decide (a < p.1) && !decide (p.2 < a))) M) := spX_eq iQe (u := (p, a))
theorem u_lies_within : sp_lies_within [stP p, stP q] M Q E = (((okS p ∧ sb 4000 p) ∧ okS q ∧ sb 4000 q) ∧ Q (.bl (liesB p q)) M) := spX_eq i2e (u := (p, q))
theorem u_cut : sp_cut [stP p, stP q] M Q E = (((okS p ∧ sb 4000 p) ∧ okS q ∧ sb 4000 q) ∧ Q (optS (cutS p q)) M) := spX_eq i2e (u := (p, q))
theorem u_width : sp_width [stP p] M Q E = ((okS p ∧ sb 4000 p) ∧ Q (frq (p.2 - p.1)) M) := spX_eq i1e
theorem u_widened : sp_widened [stP p, frq a] M Q E = ((okS p ∧ sb 1900 p ∧ qb 1900 a) ∧ Q (optS (wideS p a)) M) := spX_eq iQe (u := (p, a))
theorem u_moved : sp_moved [stP p, frq f, stP y] M Q E = ((okS p ∧ 0 ≤ f ∧ okS y ∧ sb 1000 p ∧ qb 1000 f ∧ sb 1000 y) ∧ Q (stP (movedS p f y)) M) := spX_eq i3e (u := (p, f, y))
theorem u_before : sp_before [stP p, frq f, stP y, stP l] M Q E = (((okS p ∧ 0 ≤ f ∧ okS y ∧ okS l) ∧ sb 1000 p ∧ qb 900 f ∧ sb 1000 y ∧ sb 1000 l) ∧ Q (optS (beforeS p f y l)) M) := spX_eq i4e (u := (p, f, y, l))
theorem u__law_stretch : sp__law_stretch [.own n] M Q E = (Pot M n ∧ ∀ (q : Str2) M', okS q → sb 42 q → Pot M' n → Fram n M M' → Q (stP q) M') := rfl
theorem ix_st0 : fIx M (stP p) (.int 0) = .ok (frq p.1) := rfl
theorem ix_st1 : fIx M (stP p) (.int 1) = .ok (frq p.2) := rfl
theorem len_st : fLen M [stP p] = .ok (.int 2) := rfl
theorem ty_st : tyD M (stP p) = some .tuple := rfl
theorem st_mk : D.tup [frq a, frq b] = stP (a, b) := rfl
theorem shp_st : shp (stP p) = true := rfl
theorem small_st (h : sb 1900 p) : smallD (stP p) := ⟨small_frq h.1, small_frq h.2, trivial⟩
theorem e_gTst {n : Nat} {gs : DTGs} {s : Sl} {nx : Sl → Sto → Prop} : gT n gs (stP p) s M nx = (2 = n ∧ gs [frq p.1, frq p.2] s M nx) := rfl
theorem opt_some : optS (some p) = stP p := rfl
theorem opt_none : optS none = .non := rfl
end
theorem least2 {a b : Rat} : leastQ [a, b] = if b < a then b else a := by
  unfold leastQ
  simp only [List.foldl_cons, List.foldl_nil, Rat.lt_irrefl, if_false, ite_self]
theorem great2 {a b : Rat} : greatQ [a, b] = if a < b then b else a := by
  unfold greatQ
  simp only [List.foldl_cons, List.foldl_nil, Rat.lt_irrefl, if_false, ite_self]
theorem two_all {a b : Rat} : ([a, b] ≠ [] ∧ ∀ q ∈ [a, b], qb 4000 q) = (qb 4000 a ∧ qb 4000 b) := propext ⟨fun h => ⟨h.2 a (by simp), h.2 b (by simp)⟩, fun h => ⟨by simp, fun q m => by
  simp only [List.mem_cons, List.not_mem_nil, or_false] at m
  rcases m with rfl | rfl
  · exact h.1
  · exact h.2⟩⟩
theorem u__law_least2 {a b : Rat} {M Q E} : sp__law_least [.lst [frq a, frq b]] M Q E = ((qb 4000 a ∧ qb 4000 b) ∧ Q (frq (if b < a then b else a)) M) := by
  rw [← least2, ← two_all]
  exact u__law_least (qs := [a, b])
theorem u__law_greatest2 {a b : Rat} {M Q E} : sp__law_greatest [.lst [frq a, frq b]] M Q E = ((qb 4000 a ∧ qb 4000 b) ∧ Q (frq (if a < b then b else a)) M) := by
  rw [← great2, ← two_all]
  exact u__law_greatest (qs := [a, b])
theorem compD_map {α : Type} {g : DTG} {te : DTE} {s : Sl} {E : DXK} {M : Sto} (enc f : α → D) : ∀ (l : List α) (Q : List D → Sto → Prop), (∀ a, a ∈ l → ∀ R : DK, R (f a) M → g (enc a) s M (fun s1 M1 => te s1 M1 R E)) → Q (l.map f) M → compD g dYes te (l.map enc) s M Q E
  | [], Q, _, h => h
  | a :: l, Q, h, hq => h a (List.mem_cons_self ..) _ (compD_map enc f l _ (fun b m => h b (List.mem_cons_of_mem _ m)) hq)
theorem leq_mem : ∀ (l : List Rat) (f : Rat), l.foldl (fun f o => if o < f then o else f) f = f ∨ l.foldl (fun f o => if o < f then o else f) f ∈ l
  | [], f => .inl rfl
  | a :: l, f => by
    rw [List.foldl_cons]
    rcases leq_mem l (if a < f then a else f) with h | h
    · rw [h]
      split
      · exact .inr (List.mem_cons_self ..)
      · exact .inl rfl
    · exact .inr (List.mem_cons_of_mem _ h)
theorem geq_mem : ∀ (l : List Rat) (f : Rat), l.foldl (fun f o => if f < o then o else f) f = f ∨ l.foldl (fun f o => if f < o then o else f) f ∈ l
  | [], f => .inl rfl
  | a :: l, f => by
    rw [List.foldl_cons]
    rcases geq_mem l (if f < a then a else f) with h | h
    · rw [h]
      split
      · exact .inr (List.mem_cons_self ..)
      · exact .inl rfl
    · exact .inr (List.mem_cons_of_mem _ h)
theorem leastQ_mem {l : List Rat} (h : l ≠ []) : leastQ l ∈ l := by
  cases l with
  | nil => exact absurd rfl h
  | cons q r =>
    rcases leq_mem (q :: r) q with e | e
    · show (q :: r).foldl _ q ∈ _
      rw [e]
      exact List.mem_cons_self ..
    · exact e
theorem greatQ_mem {l : List Rat} (h : l ≠ []) : greatQ l ∈ l := by
  cases l with
  | nil => exact absurd rfl h
  | cons q r =>
    rcases geq_mem (q :: r) q with e | e
    · show (q :: r).foldl _ q ∈ _
      rw [e]
      exact List.mem_cons_self ..
    · exact e
theorem sc_opt {o : Option Str2} {d : D} : scD (optS o) d = none := by
  cases o <;> rfl
theorem res_opt {o : Option Str2} {M} : res M (optS o) = optS o := by
  cases o <;> rfl
theorem shp_opt {o : Option Str2} : shp (optS o) = true := by
  cases o <;> rfl
theorem eqv_st {p q : Str2} : deqv (stP p) (stP q) = decide (p = q) := by
  show (deqv (frq p.1) (frq q.1) && (deqv (frq p.2) (frq q.2) && true)) = _
  rw [eqv_frq, eqv_frq, Bool.and_true]
  by_cases h1 : p.1 = q.1 <;> by_cases h2 : p.2 = q.2 <;> simp [h1, h2, Prod.ext_iff]
theorem eqv_opt {a b : Option Str2} : deqv (optS a) (optS b) = decide (a = b) := by
  cases a with
  | none => cases b <;> rfl
  | some p =>
    cases b with
    | none => rfl
    | some q =>
      show deqv (stP p) (stP q) = _
      rw [eqv_st]
      simp
theorem eq_oo {M} {a b : Option Str2} : fEq M (optS a) (optS b) = .side (shp (optS a) = true ∧ shp (optS b) = true) (.bl (decide (a = b))) := by
  unfold fEq
  rw [sc_opt, res_opt, res_opt, eqv_opt]
theorem ne_oo {M} {a b : Option Str2} : fNe M (optS a) (optS b) = .side (shp (optS a) = true ∧ shp (optS b) = true) (.bl (!decide (a = b))) := by
  unfold fNe
  rw [sc_opt, res_opt, res_opt, eqv_opt]
theorem isN_opt {M} {o : Option Str2} : fIsN M (optS o) .non = .ok (.bl o.isNone) := by
  cases o <;> rfl
theorem notN_opt {M} {o : Option Str2} : fNotN M (optS o) .non = .ok (.bl o.isSome) := by
  cases o <;> rfl
theorem small_opt {o : Option Str2} (h : ∀ p, o = some p → sb 1900 p) : smallD (optS o) := by
  cases o with
  | none => exact trivial
  | some p => exact small_st (h p rfl)
theorem cost_opt {o : Option Str2} : costD (optS o) ≤ 8000 := by
  cases o <;> exact Nat.le_of_ble_eq_true rfl
theorem list_st {M} {p : Str2} : fList M [stP p] = .ok (.lst [frq p.1, frq p.2]) := rfl
theorem fFB_st {p : Str2} : stP (p.1, p.2) = stP p := rfl
/-- all items are such -/
theorem map_of {C : Str2 → Prop} : ∀ {ys : List D}, (∀ y ∈ ys, ∃ q, y = stP q ∧ C q) → ∃ ps : List Str2, ys = ps.map stP ∧ ∀ q ∈ ps, C q
  | [], _ => ⟨[], rfl, fun _ m => nomatch m⟩
  | y :: r, h => by
    obtain ⟨q, rfl, hq⟩ := h y (List.mem_cons_self ..)
    obtain ⟨ps, rfl, hp⟩ := map_of (ys := r) fun z m => h z (List.mem_cons_of_mem _ m)
    exact ⟨q :: ps, rfl, fun z m => by
      rcases List.mem_cons.mp m with e | e
      · rw [e]; exact hq
      · exact hp z e⟩
theorem mapq_of {C : Rat → Prop} : ∀ {ys : List D}, (∀ y ∈ ys, ∃ q, y = frq q ∧ C q) → ∃ ps : List Rat, ys = ps.map frq ∧ ∀ q ∈ ps, C q
  | [], _ => ⟨[], rfl, fun _ m => nomatch m⟩
  | y :: r, h => by
    obtain ⟨q, rfl, hq⟩ := h y (List.mem_cons_self ..)
    obtain ⟨ps, rfl, hp⟩ := mapq_of (ys := r) fun z m => h z (List.mem_cons_of_mem _ m)
    exact ⟨q :: ps, rfl, fun z m => by
      rcases List.mem_cons.mp m with e | e
      · rw [e]; exact hq
      · exact hp z e⟩
theorem compD_filt {α : Type} {g : DTG} {tt : DTT} {te : DTE} {s : Sl} {E : DXK} {M : Sto} (enc f : α → D) (c : α → Bool) : ∀ (l : List α) (Q : List D → Sto → Prop),
    (∀ a, a ∈ l → ∀ (R : DK) (K : Sto → Prop), (c a = true → R (f a) M) → (c a = false → K M) → g (enc a) s M (fun s1 M1 => tt s1 M1 (fun b M2 => if b = true then te s1 M2 R E else K M2) E)) →
    Q ((l.filter c).map f) M → compD g tt te (l.map enc) s M Q E
  | [], Q, _, h => h
  | a :: l, Q, h, hq => by
    refine h a (List.mem_cons_self ..) _ (fun M2 => compD g tt te (l.map enc) s M2 Q E) (fun hc => ?_) (fun hc => ?_)
    · refine compD_filt enc f c l _ (fun b m => h b (List.mem_cons_of_mem _ m)) ?_
      rw [List.filter_cons, if_pos hc] at hq
      exact hq
    · refine compD_filt enc f c l _ (fun b m => h b (List.mem_cons_of_mem _ m)) ?_
      rw [List.filter_cons, if_neg (by rw [hc]; decide)] at hq
      exact hq
theorem cutS_comm (p q : Str2) : cutS p q = cutS q p := by
  unfold cutS
  dsimp only
  have e1 : (if p.1 < q.1 then q.1 else p.1) = if q.1 < p.1 then p.1 else q.1 := by
    split <;> split <;> grind
  have e2 : (if q.2 < p.2 then q.2 else p.2) = if p.2 < q.2 then p.2 else q.2 := by
    split <;> split <;> grind
  rw [e1, e2]
theorem cutS_sb {p q r : Str2} {k : Nat} (hp : sb k p) (hq : sb k q) (h : cutS p q = some r) : sb k r := by
  have h1 : qb k (if p.1 < q.1 then q.1 else p.1) := by
    split
    · exact hq.1
    · exact hp.1
  have h2 : qb k (if q.2 < p.2 then q.2 else p.2) := by
    split
    · exact hq.2
    · exact hp.2
  unfold cutS at h
  dsimp only at h
  generalize (if p.1 < q.1 then q.1 else p.1) = l at *
  generalize (if q.2 < p.2 then q.2 else p.2) = u at *
  by_cases c : u < l
  · rw [if_pos c] at h
    cases h
  · rw [if_neg c] at h
    cases h
    exact ⟨h1, h2⟩
theorem divInt_nn {n d : Int} (h1 : 0 ≤ n) (h2 : 0 < d) : 0 ≤ Rat.divInt n d := Rat.divInt_nonneg h1 (Int.le_of_lt h2)
theorem u_hullL {ps : List Str2} {M Q E} : sp_hull [.lst (ps.map stP)] M Q E = ((ps ≠ [] ∧ ps.length ≤ 600 ∧ ∀ p ∈ ps, okS p ∧ sb 4000 p) ∧ Q (stP (leastQ (ps.map (·.1)), greatQ (ps.map (·.2)))) M) := by
  refine propext ⟨fun h => ?_, fun h => ⟨ps, .inl rfl, h.1, h.2⟩⟩
  obtain ⟨u, e, c, h⟩ := h
  rcases e with e | e
  · have e2 := iSe ps u e
    rw [e2]
    exact ⟨c, h⟩
  · injection e with e _
    cases e
theorem u_hullT {ps : List Str2} {M Q E} : sp_hull [.tup (ps.map stP)] M Q E = ((ps ≠ [] ∧ ps.length ≤ 600 ∧ ∀ p ∈ ps, okS p ∧ sb 4000 p) ∧ Q (stP (leastQ (ps.map (·.1)), greatQ (ps.map (·.2)))) M) := by
  refine propext ⟨fun h => ?_, fun h => ⟨ps, .inr rfl, h.1, h.2⟩⟩
  obtain ⟨u, e, c, h⟩ := h
  rcases e with e | e
  · injection e with e _
    cases e
  · have e2 : ps = u := by
      injection e with e _
      injection e with e
      exact map_inj (fun _ _ => stP_inj) e
    rw [e2]
    exact ⟨c, h⟩
theorem u_hull1 {p : Str2} {M Q E} : sp_hull [.lst [stP p]] M Q E = ((okS p ∧ sb 4000 p) ∧ Q (stP p) M) := by
  have e1 : leastQ [p.1] = p.1 := by
    unfold leastQ
    simp only [List.foldl_cons, List.foldl_nil, ite_self]
  have e2 : greatQ [p.2] = p.2 := by
    unfold greatQ
    simp only [List.foldl_cons, List.foldl_nil, ite_self]
  have z := u_hullL (ps := [p]) (M := M) (Q := Q) (E := E)
  simp only [List.map_cons, List.map_nil, e1, e2] at z
  rw [z]
  exact propext ⟨fun h => ⟨h.1.2.2 p (by simp), h.2⟩, fun h => ⟨⟨by simp, by simp, fun q m => by
    simp only [List.mem_cons, List.not_mem_nil, or_false] at m
    rw [m]
    exact h.1⟩, h.2⟩⟩
theorem cw_shows (b : Bool) (c w : Option Str2) (m : Rat) (hc : smallD (optS c)) (hw : smallD (optS w)) (hm : smallD (frq m)) : shp (D.lst [D.lst [D.bl b, optS c, optS w, frq m], D.lst [D.bl b, optS c, optS w, frq m]]) = true ∧ shows (D.lst [D.lst [D.bl b, optS c, optS w, frq m], D.lst [D.bl b, optS c, optS w, frq m]]) := by
  have pc : ∀ o : Option Str2, plain (optS o) = true ∧ deep (optS o) ≤ 3 := fun o => by
    cases o with
    | none => exact ⟨rfl, by simp only [optS, deep]; decide⟩
    | some p => exact ⟨rfl, by simp only [optS, stP, frq, deep, deepL]; decide⟩
  have pm : plain (frq m) = true ∧ deep (frq m) ≤ 3 := ⟨rfl, by simp only [frq, deep, deepL]; decide⟩
  have h1 : shp (D.lst [D.lst [D.bl b, optS c, optS w, frq m], D.lst [D.bl b, optS c, optS w, frq m]]) = true := by
    have d1 := (pc c).2
    have d2 := (pc w).2
    have d3 := pm.2
    unfold shp
    rw [Bool.and_eq_true]
    refine ⟨?_, decide_eq_true ?_⟩
    · simp only [DL.plain, plainL, (pc c).1, (pc w).1, pm.1, Bool.and_self]
    · simp only [deep, deepL]
      omega
  refine ⟨h1, shows_of h1 ?_ ?_⟩
  · simp only [smallD, smallL, hc, hw, hm, and_self]
  · have e1 := cost_opt (o := c)
    have e2 := cost_opt (o := w)
    have e3 : costD (frq m) ≤ 4000 := by
      simp only [frq, costD, costL]
      omega
    simp only [costD, costL]
    omega
theorem st3_shows {a b c : Str2} (h1 : sb 1900 a) (h2 : sb 1900 b) (h3 : sb 1900 c) : shp (D.lst [stP a, stP b, stP c]) = true ∧ shows (D.lst [stP a, stP b, stP c]) := by
  have e : shp (D.lst [stP a, stP b, stP c]) = true := by
    unfold shp
    rw [Bool.and_eq_true]
    exact ⟨rfl, decide_eq_true (by simp only [stP, frq, deep, deepL]; decide)⟩
  refine ⟨e, shows_of e ⟨small_st h1, small_st h2, small_st h3, trivial⟩ ?_⟩
  simp only [stP, frq, costD, costL]
  omega
end DL
/-! StrM: stretches, what is cut and moved, in plain numbers (own work). -/
namespace DL
open PySem
theorem lies_iff {p q : Str2} : liesB p q = true ↔ q.1 ≤ p.1 ∧ p.2 ≤ q.2 := by
  unfold liesB
  rw [Bool.and_eq_true, Bool.not_eq_true', Bool.not_eq_true', decide_eq_false_iff_not, decide_eq_false_iff_not, Rat.not_lt, Rat.not_lt]
theorem div_le {x f q : Rat} (h : 0 < f) : x / f ≤ q ↔ x ≤ f * q := by
  have hf : f ≠ 0 := fun z => by rw [z] at h; exact absurd h (by decide)
  have e : x / f * f = x := Rat.div_mul_cancel hf
  constructor
  · intro z
    have := Rat.mul_le_mul_of_nonneg_left z (Rat.le_of_lt h)
    rw [Rat.mul_comm f (x / f), e] at this
    exact this
  · intro z
    refine Rat.le_of_mul_le_mul_left (c := f) ?_ h
    rw [Rat.mul_comm f (x / f), e]
    exact z
theorem le_div {x f q : Rat} (h : 0 < f) : q ≤ x / f ↔ f * q ≤ x := by
  have hf : f ≠ 0 := fun z => by rw [z] at h; exact absurd h (by decide)
  have e : x / f * f = x := Rat.div_mul_cancel hf
  constructor
  · intro z
    have := Rat.mul_le_mul_of_nonneg_left z (Rat.le_of_lt h)
    rw [Rat.mul_comm f (x / f), e] at this
    exact this
  · intro z
    refine Rat.le_of_mul_le_mul_left (c := f) ?_ h
    rw [Rat.mul_comm f (x / f), e]
    exact z
theorem cut_some {a b r : Str2} (h : cutS a b = some r) : okS r ∧ liesB r a = true ∧ liesB r b = true := by
  unfold cutS at h
  dsimp only at h
  by_cases c1 : a.1 < b.1 <;> by_cases c2 : b.2 < a.2 <;> simp only [c1, c2, if_true, if_false] at h
  all_goals
    split at h
    · cases h
    · rename_i c3
      cases h
      rw [lies_iff, lies_iff]
      unfold okS
      refine ⟨?_, ?_, ?_⟩ <;> grind
theorem cut_lies {a b q : Str2} (o : okS q) : (liesB q a = true ∧ liesB q b = true) ↔ ∃ r, cutS a b = some r ∧ liesB q r = true := by
  unfold cutS okS at *
  dsimp only
  rw [lies_iff, lies_iff]
  by_cases c1 : a.1 < b.1 <;> by_cases c2 : b.2 < a.2 <;> simp only [c1, c2, if_true, if_false]
  all_goals
    split
    · rename_i c3
      constructor
      · intro z
        exfalso
        grind
      · rintro ⟨r, h, _⟩
        cases h
    · rename_i c3
      constructor
      · intro z
        refine ⟨_, rfl, ?_⟩
        rw [lies_iff]
        dsimp only
        grind
      · rintro ⟨r, h, h2⟩
        cases h
        rw [lies_iff] at h2
        dsimp only at h2
        grind
theorem moved_lies {g q y : Str2} {f : Rat} (hf : 0 < f) : liesB (movedS q f y) g = true ↔ liesB q ((g.1 - y.1) / f, (g.2 - y.2) / f) = true := by
  rw [lies_iff, lies_iff]
  unfold movedS
  dsimp only
  rw [div_le hf, le_div hf]
  constructor
  · rintro ⟨h1, h2⟩
    exact ⟨by grind, by grind⟩
  · rintro ⟨h1, h2⟩
    exact ⟨by grind, by grind⟩
theorem back_lies {g q y : Str2} {f : Rat} (hf : 0 < f) (o : okS q) : liesB (movedS q f y) g = true ↔ ∃ r, backS g f y = some r ∧ liesB q r = true := by
  rw [moved_lies hf]
  unfold backS okS at *
  split
  · rename_i c
    constructor
    · intro z
      rw [lies_iff] at z
      dsimp only at z
      exfalso
      grind
    · rintro ⟨r, h, _⟩
      cases h
  · constructor
    · intro z
      exact ⟨_, rfl, z⟩
    · rintro ⟨r, h, h2⟩
      cases h
      exact h2
theorem before_lies {g q y l : Str2} {f : Rat} (hf : 0 ≤ f) (o : okS q) (hl : liesB q l = true) : liesB (movedS q f y) g = true ↔ ∃ t, beforeS g f y l = some t ∧ liesB q t = true := by
  unfold beforeS
  by_cases c : f = 0
  · subst c
    rw [if_pos rfl]
    have e : movedS q 0 y = y := by
      unfold movedS
      rw [Rat.zero_mul, Rat.zero_mul, Rat.zero_add, Rat.zero_add]
    rw [e]
    split
    · rename_i h
      exact ⟨fun _ => ⟨l, rfl, hl⟩, fun _ => h⟩
    · rename_i h
      exact ⟨fun z => absurd z h, fun ⟨t, z, _⟩ => (by cases z)⟩
  · rw [if_neg c]
    have hp : 0 < f := Rat.lt_of_le_of_ne hf (Ne.symm c)
    rw [back_lies hp o]
    cases e : backS g f y with
    | none => exact ⟨fun ⟨r, z, _⟩ => (by cases z), fun ⟨r, z, _⟩ => (by cases z)⟩
    | some b =>
      dsimp only
      rw [← cut_lies o]
      exact ⟨fun ⟨r, z, h⟩ => (by cases z; exact ⟨h, hl⟩), fun h => ⟨b, rfl, h.1⟩⟩
theorem before_some {g y l t : Str2} {f : Rat} (hf : 0 ≤ f) (ol : okS l) (h : beforeS g f y l = some t) : okS t ∧ liesB t l = true ∧ liesB (movedS t f y) g = true := by
  have refl : ∀ p : Str2, liesB p p = true := fun p => lies_iff.mpr ⟨Rat.le_refl, Rat.le_refl⟩
  have key : okS t ∧ liesB t l = true := by
    unfold beforeS at h
    split at h
    · split at h
      · cases h
        exact ⟨ol, refl _⟩
      · cases h
    · split at h
      · cases h
      · have := cut_some h
        exact ⟨this.1, this.2.2⟩
  exact ⟨key.1, key.2, (before_lies hf key.1 key.2).mpr ⟨t, h, refl t⟩⟩
theorem ord3 {x y z : D} : order 0 [2, 1, 0] [] [x, y, z] = [z, y, x] := rfl
theorem ord4 {x y z w : D} : order 0 [3, 2, 1, 0] [] [x, y, z, w] = [w, z, y, x] := rfl
theorem ne_bb {M : Sto} {i j : Bool} : fNe M (.bl i) (.bl j) = .ok (.bl (!decide (i = j))) := rfl
end DL
set_option maxHeartbeats 400000
/-! SimM: simplest fractions, in plain numbers (own work). -/
namespace DL
/-- q is the simplest in [l, h] -/
def Simp (l h q : Rat) : Prop := l ≤ q ∧ q ≤ h ∧ ∀ r : Rat, l ≤ r → r ≤ h → q.den < r.den ∨ (q.den = r.den ∧ q.num.natAbs ≤ r.num.natAbs)
theorem Simp.uniq {l h q r : Rat} (a : Simp l h q) (b : Simp l h r) : q = r := by
  have h1 := a.2.2 r b.1 b.2.1
  have h2 := b.2.2 q a.1 a.2.1
  have hd : q.den = r.den := by omega
  have hn : q.num.natAbs = r.num.natAbs := by omega
  rcases Int.natAbs_eq_natAbs_iff.mp hn with e | e
  · exact Rat.ext e hd
  · have en : q = -r := Rat.ext (by rw [Rat.neg_num]; exact e) (by rw [Rat.neg_den]; exact hd)
    have z : l ≤ 0 ∧ 0 ≤ h := by
      have := a.1
      have := a.2.1
      have := b.1
      have := b.2.1
      subst en
      constructor <;> grind
    have h3 := a.2.2 0 z.1 z.2
    have h4 : q.num.natAbs ≤ 0 ∨ q.den < 1 := by
      rcases h3 with c | c
      · exact .inr c
      · exact .inl c.2
    have hp := q.den_pos
    have q0 : q.num = 0 := by omega
    have r0 : r.num = 0 := by omega
    exact (Rat.num_eq_zero.mp q0).trans (Rat.num_eq_zero.mp r0).symm
/-- of a stretch above nought: den and num least at once -/
def SimP (l h q : Rat) : Prop := l ≤ q ∧ q ≤ h ∧ ∀ r : Rat, l ≤ r → r ≤ h → q.den ≤ r.den ∧ q.num ≤ r.num
theorem SimP.simp {l h q : Rat} (l0 : 0 < l) (a : SimP l h q) : Simp l h q := by
  refine ⟨a.1, a.2.1, fun r h1 h2 => ?_⟩
  have z := a.2.2 r h1 h2
  have q0 : 0 ≤ q.num := Rat.num_nonneg.mpr (Rat.le_trans (Rat.le_of_lt l0) a.1)
  omega
theorem Simp.neg {l h q : Rat} (a : Simp l h q) : Simp (-h) (-l) (-q) := by
  have h1 := a.1
  have h2 := a.2.1
  refine ⟨by grind, by grind, fun r r1 r2 => ?_⟩
  have z := a.2.2 (-r) (by grind) (by grind)
  rw [Rat.neg_den, Rat.neg_num, Int.natAbs_neg] at *
  exact z
theorem Simp.zero {l h : Rat} (a : l ≤ 0) (b : 0 ≤ h) : Simp l h 0 := by
  refine ⟨a, b, fun r _ _ => ?_⟩
  have := r.den_pos
  have e1 : (0 : Rat).den = 1 := rfl
  have e2 : (0 : Rat).num = 0 := rfl
  rw [e1, e2]
  omega
theorem mul_den (r : Rat) : r * ((r.den : Int) : Rat) = (r.num : Rat) := by
  have h : ((r.den : Int) : Rat) ≠ 0 := fun z => by
    have := Rat.intCast_inj.mp (show ((r.den : Int) : Rat) = ((0 : Int) : Rat) from z)
    have := r.den_pos
    omega
  have e := Rat.div_mul_cancel (a := (r.num : Rat)) h
  rw [← Rat.divInt_eq_div, q_self] at e
  exact e
theorem SimP.base {l h : Rat} (l0 : 0 < l) (c : ((-(-l).floor : Int) : Rat) ≤ h) : SimP l h ((-(-l).floor : Int) : Rat) := by
  have e1 : l ≤ ((-(-l).floor : Int) : Rat) := by
    have : (((-l).floor : Int) : Rat) ≤ -l := Rat.le_floor_iff.mp (Int.le_refl _)
    rw [Rat.intCast_neg]
    grind
  refine ⟨e1, c, fun r r1 r2 => ⟨by rw [Rat.den_intCast]; exact r.den_pos, ?_⟩⟩
  rw [num_int]
  have rp : (0 : Rat) < r := by grind
  have e2 : r ≤ ((r.num : Int) : Rat) := by
    have h1 := mul_den r
    have h2 : (1 : Rat) ≤ ((r.den : Int) : Rat) := by
      have := r.den_pos
      exact Rat.intCast_le_intCast.mpr (show (1 : Int) ≤ (r.den : Int) by omega)
    have h3 := Rat.mul_le_mul_of_nonneg_left h2 (Rat.le_of_lt rp)
    rw [h1, Rat.mul_one] at h3
    exact h3
  have e3 : -r.num ≤ (-l).floor := by
    rw [Rat.le_floor_iff, Rat.intCast_neg]
    grind
  omega
/-- one step of the walk: r to 1 / (r - w) -/
theorem swap_num {q r : Rat} {w : Int} (h0 : 0 < r) (e : q = (w : Rat) + 1 / r) : q.den = r.num.natAbs ∧ q.num = w * r.num + (r.den : Int) := by
  have rn : 0 < r.num := by
    have h1 : 0 ≤ r.num := Rat.num_nonneg.mpr (Rat.le_of_lt h0)
    have h2 : r.num ≠ 0 := fun z => by
      rw [Rat.num_eq_zero.mp z] at h0
      exact absurd h0 Rat.lt_irrefl
    omega
  have hq : q = Rat.divInt (w * r.num + (r.den : Int)) r.num := by
    rw [Rat.divInt_eq_div, e, Rat.intCast_add, Rat.intCast_mul]
    have h := mul_den r
    have hn : (r.num : Rat) ≠ 0 := fun z => by
      have := Rat.intCast_inj.mp (show (r.num : Rat) = ((0 : Int) : Rat) from z)
      omega
    have hr : r ≠ 0 := fun z => by
      rw [z] at h0
      exact absurd h0 Rat.lt_irrefl
    grind
  have cop : Nat.gcd (w * r.num + (r.den : Int)).natAbs r.num.natAbs = 1 := by
    have h := r.reduced
    have : Int.gcd r.num (w * r.num + (r.den : Int)) = Int.gcd r.num (r.den : Int) := by
      rw [Int.add_comm, Int.mul_comm]
      exact Int.gcd_add_mul_left_right ..
    rw [Nat.gcd_comm]
    show Int.gcd r.num (w * r.num + (r.den : Int)) = 1
    rw [this]
    simpa [Int.gcd, Nat.Coprime] using h
  have z := asQ_some (d := .tup [.int (w * r.num + (r.den : Int)), .int r.num]) (q := q) (by
    unfold asQ
    dsimp only
    rw [if_pos ⟨by omega, cop⟩, hq])
  unfold frq at z
  injection z with z
  injection z with z1 z
  injection z with z2 z
  injection z1 with z1
  injection z2 with z2
  exact ⟨by omega, z1.symm⟩
theorem inv_le {a b : Rat} (h : 0 < a) (l : a ≤ b) : 1 / b ≤ 1 / a := by
  have hb : 0 < b := by grind
  rw [div_le hb]
  have e : b * (1 / a) = b / a := by grind
  rw [e, le_div h, Rat.mul_one]
  exact l
theorem SimP.step {l h q : Rat} {w : Int} (w0 : 0 ≤ w) (h1 : (w : Rat) < l) (lh : l ≤ h) (a : SimP (1 / (h - (w : Rat))) (1 / (l - (w : Rat))) q) : SimP l h ((w : Rat) + 1 / q) := by
  have p1 : 0 < l - (w : Rat) := by grind
  have p2 : 0 < h - (w : Rat) := by grind
  have i2 : 0 < 1 / (h - (w : Rat)) := by
    rw [Rat.div_def, Rat.one_mul]
    exact Rat.inv_pos.mpr p2
  have q0 : 0 < q := by
    have := a.1
    grind
  have inv_inv : ∀ x : Rat, 0 < x → 1 / (1 / x) = x := fun x hx => by grind
  have m1 := inv_le i2 a.1
  have m2 := inv_le q0 a.2.1
  rw [inv_inv _ p2] at m1
  rw [inv_inv _ p1] at m2
  refine ⟨by grind, by grind, fun r r1 r2 => ?_⟩
  have pr : 0 < r - (w : Rat) := by grind
  have ir : 0 < 1 / (r - (w : Rat)) := by
    rw [Rat.div_def, Rat.one_mul]
    exact Rat.inv_pos.mpr pr
  have z := a.2.2 (1 / (r - (w : Rat))) (inv_le pr (by grind)) (inv_le p1 (by grind))
  have s1 := swap_num (q := (w : Rat) + 1 / q) (w := w) q0 rfl
  have s2 := swap_num (q := r) (w := w) ir (by rw [inv_inv _ pr]; grind)
  have n1 : 0 ≤ q.num := Rat.num_nonneg.mpr (Rat.le_of_lt q0)
  have n2 : 0 ≤ (1 / (r - (w : Rat))).num := Rat.num_nonneg.mpr (Rat.le_of_lt ir)
  refine ⟨by omega, ?_⟩
  rw [s1.2, s2.2]
  have := Int.mul_le_mul_of_nonneg_left z.2 w0
  omega
/-- the law's own look, below by below: has a below a whole number of it -/
def hasB (l h : Rat) (b : Int) : Prop := -(-(l * (b : Rat))).floor ≤ (h * (b : Rat)).floor
theorem hasB_of {l h r : Rat} (r1 : l ≤ r) (r2 : r ≤ h) : hasB l h (r.den : Int) ∧ -(-(l * ((r.den : Int) : Rat))).floor ≤ r.num := by
  have dp : (0 : Rat) ≤ ((r.den : Int) : Rat) := Rat.intCast_le_intCast.mpr (show (0 : Int) ≤ (r.den : Int) by omega)
  have e := mul_den r
  have u1 := Rat.mul_le_mul_of_nonneg_right r1 dp
  have u2 := Rat.mul_le_mul_of_nonneg_right r2 dp
  rw [e] at u1 u2
  have f1 : -r.num ≤ (-(l * ((r.den : Int) : Rat))).floor := by
    rw [Rat.le_floor_iff, Rat.intCast_neg]
    grind
  have f2 : r.num ≤ (h * ((r.den : Int) : Rat)).floor := Rat.le_floor_iff.mpr u2
  unfold hasB
  exact ⟨by omega, by omega⟩
theorem SimP.due {l h q : Rat} (s : SimP l h q) {b : Int} (hb : 1 ≤ b) (has : hasB l h b) (min : ∀ c : Int, 1 ≤ c → c < b → ¬ hasB l h c) : Rat.divInt (-(-(l * (b : Rat))).floor) b = q := by
  have bp : (0 : Rat) < (b : Rat) := Rat.intCast_lt_intCast.mpr (show (0 : Int) < b by omega)
  have hq := hasB_of s.1 s.2.1
  have dq : b ≤ (q.den : Int) := by
    rcases Int.lt_or_le (q.den : Int) b with c | c
    · have := q.den_pos
      exact absurd hq.1 (min _ (by omega) c)
    · exact c
  generalize hn : -(-(l * (b : Rat))).floor = n at has ⊢
  have n1 : l * (b : Rat) ≤ (n : Rat) := by
    have : (((-(l * (b : Rat))).floor : Int) : Rat) ≤ -(l * (b : Rat)) := Rat.le_floor_iff.mp (Int.le_refl _)
    rw [← hn, Rat.intCast_neg]
    grind
  have n2 : (n : Rat) ≤ h * (b : Rat) := by
    unfold hasB at has
    rw [hn] at has
    exact Rat.le_floor_iff.mp has
  have er : Rat.divInt n b = (n : Rat) / (b : Rat) := Rat.divInt_eq_div ..
  have r1 : l ≤ Rat.divInt n b := by
    rw [er, le_div bp, Rat.mul_comm]
    exact n1
  have r2 : Rat.divInt n b ≤ h := by
    rw [er, div_le bp, Rat.mul_comm]
    exact n2
  have z := s.2.2 _ r1 r2
  have rd : (Rat.divInt n b).den ≤ b.natAbs := by
    rw [Rat.den_divInt, if_neg (by omega)]
    exact Nat.div_le_self _ _
  have e1 : ((Rat.divInt n b).den : Int) = b := by omega
  have e2 : (q.den : Int) = b := by omega
  have e3 : (Rat.divInt n b).num = n := by
    have m := mul_den (Rat.divInt n b)
    rw [e1, er, Rat.div_mul_cancel (fun c => by rw [c] at bp; exact absurd bp Rat.lt_irrefl)] at m
    have m2 := Rat.intCast_inj.mp m
    rw [er]
    exact m2.symm
  have e4 := hq.2
  rw [e2, hn] at e4
  exact Rat.ext (by omega) (by omega)
theorem apart {a b : Rat} (h : a < b) : 1 ≤ (b - a) * (((a.den : Int) : Rat) * ((b.den : Int) : Rat)) := by
  have e1 := mul_den a
  have e2 := mul_den b
  have e : (b - a) * (((a.den : Int) : Rat) * ((b.den : Int) : Rat)) = ((b.num * (a.den : Int) - a.num * (b.den : Int) : Int) : Rat) := by
    rw [Rat.intCast_sub, Rat.intCast_mul, Rat.intCast_mul]
    rw [← e1, ← e2]
    grind
  rw [e]
  have i := (Rat.lt_iff a b).mp h
  exact Rat.intCast_le_intCast.mpr (show (1 : Int) ≤ b.num * (a.den : Int) - a.num * (b.den : Int) by omega)
theorem Simp.narrow {l h q : Rat} (h1 : l ≤ q) (h2 : q ≤ h) (e1 : (q - l) * (((q.den : Int) : Rat) * ((q.den : Int) : Rat)) < 1) (e2 : (h - q) * (((q.den : Int) : Rat) * ((q.den : Int) : Rat)) < 1) : Simp l h q := by
  refine ⟨h1, h2, fun r r1 r2 => ?_⟩
  by_cases c : q.den < r.den
  · exact .inl c
  have dq : (0 : Rat) ≤ ((q.den : Int) : Rat) := Rat.intCast_le_intCast.mpr (show (0 : Int) ≤ (q.den : Int) by omega)
  have dd : ((r.den : Int) : Rat) ≤ ((q.den : Int) : Rat) := Rat.intCast_le_intCast.mpr (by omega)
  have m1 : ((r.den : Int) : Rat) * ((q.den : Int) : Rat) ≤ ((q.den : Int) : Rat) * ((q.den : Int) : Rat) := Rat.mul_le_mul_of_nonneg_right dd dq
  have tri : r < q ∨ r = q ∨ q < r := by grind
  rcases tri with k | k | k
  · exfalso
    have a := apart k
    have m2 := Rat.mul_le_mul_of_nonneg_left m1 (c := q - r) (by grind)
    have m3 : (q - r) * (((q.den : Int) : Rat) * ((q.den : Int) : Rat)) ≤ (q - l) * (((q.den : Int) : Rat) * ((q.den : Int) : Rat)) := Rat.mul_le_mul_of_nonneg_right (by grind) (Rat.mul_nonneg dq dq)
    grind
  · rw [k]
    exact .inr ⟨rfl, Nat.le_refl _⟩
  · exfalso
    have a := apart k
    rw [Rat.mul_comm ((q.den : Int) : Rat) ((r.den : Int) : Rat)] at a
    have m2 := Rat.mul_le_mul_of_nonneg_left m1 (c := r - q) (by grind)
    have m3 : (r - q) * (((q.den : Int) : Rat) * ((q.den : Int) : Rat)) ≤ (h - q) * (((q.den : Int) : Rat) * ((q.den : Int) : Rat)) := Rat.mul_le_mul_of_nonneg_right (by grind) (Rat.mul_nonneg dq dq)
    grind
end DL
set_option maxHeartbeats 400000
/-! SimW: the walk to the simplest fraction, in plain numbers (own work). -/
namespace DL
theorem rat_or (a b : Rat) : a < b ∨ b ≤ a := by
  by_cases c : a < b
  · exact .inl c
  · exact .inr (Rat.not_lt.mp c)
theorem rlt1 {a b c : Rat} (h : a ≤ b) (k : b < c) : a < c := by grind
theorem rlt2 {a b c : Rat} (h : a < b) (k : b ≤ c) : a < c := by grind
theorem swap_div {q : Rat} {w : Int} (h0 : 0 < q) : Rat.divInt (w * q.num + (q.den : Int)) q.num = (w : Rat) + 1 / q := by
  rw [Rat.divInt_eq_div, Rat.intCast_add, Rat.intCast_mul]
  have h := mul_den q
  have hr : q ≠ 0 := fun z => by
    rw [z] at h0
    exact absurd h0 Rat.lt_irrefl
  have hn : (q.num : Rat) ≠ 0 := fun z => by
    have := Rat.intCast_inj.mp (show (q.num : Rat) = ((0 : Int) : Rat) from z)
    exact hr (Rat.num_eq_zero.mp this)
  grind
theorem sub_pos {a b : Rat} (h : a < b) : 0 < b - a := by grind
theorem inv_pos1 {a : Rat} (h : 0 < a) : 0 < 1 / a := by
  rw [Rat.div_def, Rat.one_mul]
  exact Rat.inv_pos.mpr h
theorem inv_inv1 {x : Rat} (hx : 0 < x) : 1 / (1 / x) = x := by grind
/-- what one turn makes of an end -/
theorem turn_num {r : Rat} {w : Int} (h1 : (w : Rat) < r) : (1 / (r - (w : Rat))).num = (r.den : Int) ∧ ((1 / (r - (w : Rat))).den : Int) = r.num - w * (r.den : Int) := by
  have p := sub_pos h1
  have i := inv_pos1 p
  have z := swap_num (q := r) (w := w) i (by rw [inv_inv1 p]; grind)
  have n : 0 ≤ (1 / (r - (w : Rat))).num := Rat.num_nonneg.mpr (Rat.le_of_lt i)
  have e : (1 / (r - (w : Rat))).num = (r.den : Int) := by omega
  refine ⟨e, ?_⟩
  rw [e] at z
  omega
theorem below_num {r : Rat} {w : Int} (h2 : r < (w : Rat) + 1) : r.num - w * (r.den : Int) < (r.den : Int) := by
  have e : (w : Rat) + 1 = ((w + 1 : Int) : Rat) := by rw [Rat.intCast_add]; rfl
  rw [e, Rat.lt_iff, num_int, Rat.den_intCast] at h2
  have h3 : (w + 1) * (r.den : Int) = w * (r.den : Int) + (r.den : Int) := by rw [Int.add_mul, Int.one_mul]
  omega
theorem turn_qb {k : Nat} {r : Rat} {w : Int} (h : qb k r) (h1 : (w : Rat) < r) (h2 : r < (w : Rat) + 1) : qb k (1 / (r - (w : Rat))) := by
  have z := turn_num h1
  have b := below_num h2
  have d := h.2
  have dp := (1 / (r - (w : Rat))).den_pos
  refine ⟨?_, ?_⟩
  · rw [z.1]
    exact d
  · have : ((1 / (r - (w : Rat))).den : Int) < (r.den : Int) := by omega
    omega
/-- above one -/
theorem turn_one {r : Rat} {w : Int} (h1 : (w : Rat) < r) (h2 : r < (w : Rat) + 1) : 1 < 1 / (r - (w : Rat)) := by
  have p := sub_pos h1
  have q : r - (w : Rat) < 1 := by grind
  have e : (1 / (r - (w : Rat))) * (r - (w : Rat)) = 1 := by grind
  have i := inv_pos1 p
  rcases rat_or 1 (1 / (r - (w : Rat))) with c | c
  · exact c
  · exfalso
    have m := Rat.mul_le_mul_of_nonneg_right c (Rat.le_of_lt p)
    rw [e, Rat.one_mul] at m
    grind
/-- the size that halves -/
def pz (r : Rat) : Nat := r.num.natAbs * r.den
theorem pz_first {r : Rat} {w : Int} (r0 : 0 < r) (w0 : 0 ≤ w) (h1 : (w : Rat) < r) : pz (1 / (r - (w : Rat))) ≤ pz r := by
  have z := turn_num h1
  unfold pz
  rw [z.1, Nat.mul_comm r.num.natAbs]
  refine Nat.mul_le_mul (by omega) ?_
  have n : 0 ≤ r.num := Rat.num_nonneg.mpr (Rat.le_of_lt r0)
  have m : 0 ≤ w * (r.den : Int) := Int.mul_nonneg w0 (by omega)
  omega
theorem num_gt {r : Rat} (h : 1 < r) : (r.den : Int) < r.num := by
  have h := (Rat.lt_iff 1 r).mp h
  have e1 : (1 : Rat).num = 1 := rfl
  have e2 : (1 : Rat).den = 1 := rfl
  rw [e1, e2] at h
  omega
theorem pz_half {r : Rat} {w : Int} (r1 : 1 < r) (h1 : (w : Rat) < r) (h2 : r < (w : Rat) + 1) : 2 * pz (1 / (r - (w : Rat))) ≤ pz r := by
  have z := turn_num h1
  have b := below_num h2
  have g := num_gt r1
  have dp := r.den_pos
  have w1 : 1 ≤ w := by
    rcases Int.lt_or_le w 1 with c | c
    · exfalso
      have m : w * (r.den : Int) ≤ 0 * (r.den : Int) := Int.mul_le_mul_of_nonneg_right (by omega) (by omega)
      omega
    · exact c
  have m : 1 * (r.den : Int) ≤ w * (r.den : Int) := Int.mul_le_mul_of_nonneg_right w1 (by omega)
  have k : 2 * (1 / (r - (w : Rat))).den ≤ r.num.natAbs := by omega
  have e : (1 / (r - (w : Rat))).num.natAbs = r.den := by omega
  unfold pz
  rw [e, Nat.mul_comm r.num.natAbs, ← Nat.mul_assoc, Nat.mul_comm 2, Nat.mul_assoc]
  exact Nat.mul_le_mul_left _ k
/-- no whole number in between: what the walk puts aside -/
theorem no_whole {l h : Rat} (l0 : 0 < l) (lh : l ≤ h) (c : h.floor < -(-l).floor) : 0 ≤ l.floor ∧ ((l.floor : Int) : Rat) < l ∧ h < ((l.floor : Int) : Rat) + 1 := by
  have f1 : ((l.floor : Int) : Rat) ≤ l := Rat.le_floor_iff.mp (Int.le_refl _)
  have f0 : 0 ≤ l.floor := Rat.le_floor_iff.mpr (Rat.le_of_lt l0)
  have f2 : l < ((l.floor + 1 : Int) : Rat) := lt_int.mpr (by omega)
  have f3 : -(l.floor + 1) ≤ (-l).floor := by
    rw [Rat.le_floor_iff, Rat.intCast_neg]
    grind
  have f4 : h < ((l.floor + 1 : Int) : Rat) := lt_int.mpr (by omega)
  refine ⟨f0, ?_, by rw [Rat.intCast_add] at f4; exact f4⟩
  rcases rat_or ((l.floor : Int) : Rat) l with z | z
  · exact z
  · exfalso
    have g1 : l.floor ≤ h.floor := Rat.le_floor_iff.mpr (Rat.le_trans f1 lh)
    have g2 : -l.floor ≤ (-l).floor := by
      rw [Rat.le_floor_iff, Rat.intCast_neg]
      grind
    omega
/-- what has been put aside from l0, h0 on -/
inductive Chn (l0 h0 : Rat) (k : Nat) : List Int → Rat → Rat → Prop
  | nil : Chn l0 h0 k [] l0 h0
  | snoc {ws l h w} : Chn l0 h0 k ws l h → 0 ≤ w → ib k w → (w : Rat) < l → l ≤ h → h < (w : Rat) + 1 → qb k l → qb k h → Chn l0 h0 k (ws ++ [w]) (1 / (h - (w : Rat))) (1 / (l - (w : Rat)))
/-- how many there can be -/
def cnt (k n : Nat) (r : Rat) : Prop := n = 0 ∨ (1 < r ∧ pz r * 2 ^ (n - 1) ≤ 2 ^ (2 * k))
theorem pz_qb {k : Nat} {r : Rat} (h : qb k r) : pz r ≤ 2 ^ (2 * k) := by
  unfold pz
  rw [Nat.two_mul, Nat.pow_add]
  exact Nat.mul_le_mul (Nat.le_of_lt h.1) (Nat.le_of_lt h.2)
theorem cnt_step {k n : Nat} {r : Rat} {w : Int} (r0 : 0 < r) (w0 : 0 ≤ w) (c : cnt k n r) (h : qb k r) (h1 : (w : Rat) < r) (h2 : r < (w : Rat) + 1) : cnt k (n + 1) (1 / (r - (w : Rat))) := by
  refine .inr ⟨turn_one h1 h2, ?_⟩
  rw [Nat.add_sub_cancel]
  rcases c with c | c
  · subst c
    rw [Nat.pow_zero, Nat.mul_one]
    exact Nat.le_trans (pz_first r0 w0 h1) (pz_qb h)
  · rcases n with - | n
    · rw [Nat.pow_zero, Nat.mul_one]
      exact Nat.le_trans (pz_first r0 w0 h1) (pz_qb h)
    · have z := pz_half c.1 h1 h2
      have y := c.2
      rw [Nat.add_sub_cancel] at y
      refine Nat.le_trans ?_ y
      rw [Nat.pow_succ, Nat.mul_comm _ 2, ← Nat.mul_assoc, Nat.mul_comm _ 2]
      exact Nat.mul_le_mul_right _ z
theorem cnt_le {k n : Nat} {r : Rat} (c : cnt k n r) : n ≤ 2 * k + 1 := by
  rcases c with c | c
  · omega
  · have p : 1 ≤ pz r := by
      unfold pz
      have g := num_gt c.1
      have d := r.den_pos
      exact Nat.mul_pos (by omega) d
    have z : 2 ^ (n - 1) ≤ 2 ^ (2 * k) := Nat.le_trans (Nat.le_trans (by omega) (Nat.mul_le_mul_right (2 ^ (n - 1)) p)) c.2
    have := (Nat.pow_le_pow_iff_right (by decide : 1 < 2)).mp z
    omega
theorem SimP.qb {k : Nat} {l h q : Rat} (s : SimP l h q) (l0 : 0 < l) (lh : l ≤ h) (b : qb k l) : qb k q := by
  have z := s.2.2 l Rat.le_refl lh
  have n0 : 0 ≤ q.num := Rat.num_nonneg.mpr (Rat.le_trans (Rat.le_of_lt l0) s.1)
  exact ⟨by have := b.1; omega, by have := b.2; omega⟩
/-- the law's own look: a whole number n of it, least in size -/
theorem Simp.look {l h : Rat} {b n : Int} (hb : 1 ≤ b) (n1 : l * (b : Rat) ≤ (n : Rat)) (n2 : (n : Rat) ≤ h * (b : Rat)) (least : ∀ m : Int, l * (b : Rat) ≤ (m : Rat) → (m : Rat) ≤ h * (b : Rat) → n.natAbs ≤ m.natAbs)
    (min : ∀ c : Int, 1 ≤ c → c < b → ¬ hasB l h c) : Simp l h (Rat.divInt n b) := by
  have bp : (0 : Rat) < (b : Rat) := Rat.intCast_lt_intCast.mpr (show (0 : Int) < b by omega)
  have er : Rat.divInt n b = (n : Rat) / (b : Rat) := Rat.divInt_eq_div ..
  have r1 : l ≤ Rat.divInt n b := by
    rw [er, le_div bp, Rat.mul_comm]
    exact n1
  have r2 : Rat.divInt n b ≤ h := by
    rw [er, div_le bp, Rat.mul_comm]
    exact n2
  have dq : ∀ r : Rat, l ≤ r → r ≤ h → b ≤ (r.den : Int) := fun r a c => by
    have hq := hasB_of a c
    rcases Int.lt_or_le (r.den : Int) b with z | z
    · have := r.den_pos
      exact absurd hq.1 (min _ (by omega) z)
    · exact z
  have rd : (Rat.divInt n b).den ≤ b.natAbs := by
    rw [Rat.den_divInt, if_neg (by omega)]
    exact Nat.div_le_self _ _
  have e1 : ((Rat.divInt n b).den : Int) = b := by
    have := dq _ r1 r2
    omega
  have e3 : (Rat.divInt n b).num = n := by
    have m := mul_den (Rat.divInt n b)
    rw [e1, er, Rat.div_mul_cancel (fun c => by rw [c] at bp; exact absurd bp Rat.lt_irrefl)] at m
    have m2 := Rat.intCast_inj.mp m
    rw [er]
    exact m2.symm
  refine ⟨r1, r2, fun r a c => ?_⟩
  have d := dq r a c
  rcases Int.lt_or_eq_of_le d with z | z
  · exact .inl (by omega)
  · refine .inr ⟨by omega, ?_⟩
    rw [e3]
    have e := mul_den r
    refine least r.num ?_ ?_
    · rw [← e, ← z]
      exact Rat.mul_le_mul_of_nonneg_right a (Rat.le_of_lt bp)
    · rw [← e, ← z]
      exact Rat.mul_le_mul_of_nonneg_right c (Rat.le_of_lt bp)
/-- floors of what is not in least terms -/
theorem fdiv_floor (n : Int) {d : Int} (h : 0 < d) : n.fdiv d = (Rat.divInt n d).floor := by
  have dp : (0 : Rat) < (d : Rat) := Rat.intCast_lt_intCast.mpr h
  rw [Int.fdiv_eq_ediv_of_nonneg _ (Int.le_of_lt h), Rat.divInt_eq_div]
  have key : ∀ m : Int, m ≤ n / d ↔ m ≤ ((n : Rat) / (d : Rat)).floor := fun m => by
    rw [Int.le_ediv_iff_mul_le h, Rat.le_floor_iff, le_div dp, Rat.mul_comm, ← Rat.intCast_mul, Rat.intCast_le_intCast]
  have a := (key (n / d)).mp (Int.le_refl _)
  have b := (key _).mpr (Int.le_refl ((n : Rat) / (d : Rat)).floor)
  omega
theorem mul_floor (a : Rat) (b : Int) : (a.num * b).fdiv (a.den : Int) = (a * (b : Rat)).floor := by
  rw [fdiv_floor _ denP]
  congr 1
  rw [Rat.divInt_eq_div, Rat.intCast_mul]
  have h := mul_den a
  have hn : ((a.den : Int) : Rat) ≠ 0 := fun z => by
    have := Rat.intCast_inj.mp (show ((a.den : Int) : Rat) = ((0 : Int) : Rat) from z)
    exact denI this
  grind
theorem mul_ceil (a : Rat) (b : Int) : 0 - (0 - a.num * b).fdiv (a.den : Int) = -(-(a * (b : Rat))).floor := by
  have z := mul_floor (-a) b
  rw [Rat.neg_num, Rat.neg_den, Rat.neg_mul, Int.neg_mul] at z
  have e : 0 - a.num * b = -(a.num * b) := by omega
  rw [e, z]
  omega
theorem ceil_le {x : Rat} {m : Int} : -(-x).floor ≤ m ↔ x ≤ (m : Rat) := by
  have : -m ≤ (-x).floor ↔ x ≤ (m : Rat) := by
    rw [Rat.le_floor_iff, Rat.intCast_neg]
    grind
  rw [← this]
  omega
/-- the look's three ways -/
theorem Simp.looked {l h : Rat} {b : Int} (hb : 1 ≤ b) (has : -(-(l * (b : Rat))).floor ≤ (h * (b : Rat)).floor) (min : ∀ c : Int, 1 ≤ c → c < b → ¬ hasB l h c) :
    Simp l h (Rat.divInt (if 0 < -(-(l * (b : Rat))).floor then -(-(l * (b : Rat))).floor else if (h * (b : Rat)).floor < 0 then (h * (b : Rat)).floor else 0) b) := by
  have low : ∀ m : Int, l * (b : Rat) ≤ (m : Rat) → -(-(l * (b : Rat))).floor ≤ m := fun m z => ceil_le.mpr z
  have high : ∀ m : Int, (m : Rat) ≤ h * (b : Rat) → m ≤ (h * (b : Rat)).floor := fun m z => Rat.le_floor_iff.mpr z
  have low' : ∀ m : Int, -(-(l * (b : Rat))).floor ≤ m → l * (b : Rat) ≤ (m : Rat) := fun m z => ceil_le.mp z
  have high' : ∀ m : Int, m ≤ (h * (b : Rat)).floor → (m : Rat) ≤ h * (b : Rat) := fun m z => Rat.le_floor_iff.mp z
  generalize -(-(l * (b : Rat))).floor = f at *
  generalize (h * (b : Rat)).floor = g at *
  split
  · rename_i c
    exact Simp.look hb (low' _ (Int.le_refl _)) (high' _ has) (fun m m1 m2 => by have := low m m1; omega) min
  · split
    · rename_i c c2
      exact Simp.look hb (low' _ has) (high' _ (Int.le_refl _)) (fun m m1 m2 => by have := high m m2; omega) min
    · exact Simp.look hb (low' _ (by omega)) (high' _ (by omega)) (fun m m1 m2 => by simp) min
theorem near_lt {r e : Int} (h0 : 0 ≤ r) (h1 : r < e) (he : 0 < e) : 0 ≤ Rat.divInt r (e * 3600) ∧ Rat.divInt r (e * 3600) * 3600 < 1 := by
  have ep : (0 : Rat) < ((e * 3600 : Int) : Rat) := Rat.intCast_lt_intCast.mpr (show (0 : Int) < e * 3600 by omega)
  have e0 : (0 : Rat) < (e : Rat) := Rat.intCast_lt_intCast.mpr he
  refine ⟨divInt_nn h0 (by omega), ?_⟩
  rw [Rat.divInt_eq_div, Rat.intCast_mul]
  have h2 : (r : Rat) < (e : Rat) := Rat.intCast_lt_intCast.mpr h1
  have e2 : (r : Rat) / ((e : Rat) * ((3600 : Int) : Rat)) * 3600 = (r : Rat) / (e : Rat) := by
    have : ((3600 : Int) : Rat) = 3600 := rfl
    rw [this]
    grind
  rw [e2]
  rcases rat_or ((r : Rat) / (e : Rat)) 1 with c | c
  · exact c
  · rw [le_div e0, Rat.mul_one] at c
    grind
theorem den_sq {q : Rat} {k : Nat} (h : q.den ≤ k) : ((q.den : Int) : Rat) * ((q.den : Int) : Rat) ≤ ((k * k : Nat) : Rat) := by
  rw [← Rat.intCast_mul]
  have : (q.den : Int) * (q.den : Int) ≤ ((k * k : Nat) : Int) := by
    have := Nat.mul_le_mul h h
    omega
  exact Rat.intCast_le_intCast.mpr this
theorem near_sq {q u : Rat} (h : q.den ≤ 59) (u0 : 0 ≤ u) (u1 : u * 3600 < 1) : u * (((q.den : Int) : Rat) * ((q.den : Int) : Rat)) < 1 := by
  have z := Rat.mul_le_mul_of_nonneg_left (den_sq h) u0
  have e : ((59 * 59 : Nat) : Rat) = 3481 := rfl
  rw [e] at z
  grind
theorem far_lt {n : Int} (h : 4 * 10 ^ 10 ≤ n) : 0 ≤ Rat.divInt 1 n ∧ Rat.divInt 1 n * 40000000000 ≤ 1 := by
  have np : (0 : Rat) < (n : Rat) := Rat.intCast_lt_intCast.mpr (show (0 : Int) < n by omega)
  refine ⟨divInt_nn (by decide) (by omega), ?_⟩
  rw [Rat.divInt_eq_div]
  have h2 : ((40000000000 : Int) : Rat) ≤ (n : Rat) := Rat.intCast_le_intCast.mpr (by omega)
  have e1 : ((1 : Int) : Rat) / (n : Rat) * 40000000000 = 40000000000 / (n : Rat) := by
    have : ((1 : Int) : Rat) = 1 := rfl
    rw [this]
    grind
  rw [e1, div_le np, Rat.mul_one]
  exact h2
theorem far_sq {q u : Rat} (h : q.den ≤ 100059) (u0 : 0 ≤ u) (u1 : u * 40000000000 ≤ 1) : u * (((q.den : Int) : Rat) * ((q.den : Int) : Rat)) < 1 := by
  have z := Rat.mul_le_mul_of_nonneg_left (den_sq h) u0
  have e : ((100059 * 100059 : Nat) : Rat) = 10011803481 := rfl
  rw [e] at z
  grind
theorem Simp.point {p q : Rat} (s : Simp p p q) : q = p := Rat.le_antisymm s.2.1 s.1
end DL
/-! K11S: what the defs about simplest fractions promise (own work). -/
namespace DL
open PySem
/-- the simplest of a stretch of some kind -/
def spSim (C : Str2 → Prop) : DSp := fun ds M Q _ => ∃ p : Str2, ds = [stP p] ∧ (okS p ∧ sb 1800 p ∧ C p) ∧ ∀ q, Simp p.1 p.2 q → qb 1800 q → Q (frq q) M
theorem k_spSim {C} : SpOk 1 (spSim C) where
  len := fun ds M Q E ⟨p, e, _⟩ => by rw [e]; rfl
  ms := fun ds M Q Q' E E' hq hx ⟨p, e, c, h⟩ => ⟨p, e, c, fun q h1 h2 => hq _ _ (h q h1 h2)⟩
  nx := fun ds M Q E h => h
theorem u_spSim {C : Str2 → Prop} {p : Str2} {M : Sto} {Q : DK} {E : DXK} : spSim C [stP p] M Q E = ((okS p ∧ sb 1800 p ∧ C p) ∧ ∀ q, Simp p.1 p.2 q → qb 1800 q → Q (frq q) M) :=
  propext ⟨fun ⟨r, e, h⟩ => by rw [i1e p r e]; exact h, fun h => ⟨p, rfl, h⟩⟩
def sp_simplest_below__0 : DSp := fun _ _ _ _ => False
theorem k_simplest_below__0 : SpOk 1 sp_simplest_below__0 where
  len := fun ds M Q E h => h.elim
  ms := fun ds M Q Q' E E' hq hx h => h
  nx := fun ds M Q E h => h
def sp_simplest_of__0 : DSp := spSim fun p => 0 < p.1
def sp_simplest_below : DSp := spSim fun p => p.2 < 0
def sp_simplest_of : DSp := spSim fun _ => True
def sp_simplest : DSp := spSim fun _ => True
def sp__law_due : DSp := fun ds M Q _ => ∃ p : Str2, ds = [stP p] ∧ (okS p ∧ sb 1000 p ∧ ∃ r : Rat, p.1 ≤ r ∧ r ≤ p.2 ∧ r.den ≤ 9000) ∧ ∀ q, Simp p.1 p.2 q → qb 1800 q → Q (frq q) M
theorem k_simplest_of__0 : SpOk 1 sp_simplest_of__0 := k_spSim
theorem k_simplest_below : SpOk 1 sp_simplest_below := k_spSim
theorem k_simplest_of : SpOk 1 sp_simplest_of := k_spSim
theorem k_simplest : SpOk 1 sp_simplest := k_spSim
theorem k__law_due : SpOk 1 sp__law_due where
  len := fun ds M Q E ⟨p, e, _⟩ => by rw [e]; rfl
  ms := fun ds M Q Q' E E' hq hx ⟨p, e, c, h⟩ => ⟨p, e, c, fun q h1 h2 => hq _ _ (h q h1 h2)⟩
  nx := fun ds M Q E h => h
def sp__law_drawn_right : DSp := potTrue
def sp__law_narrow_right : DSp := potTrue
def sp__law_great_right : DSp := potTrue
theorem k__law_drawn_right : SpOk 1 sp__law_drawn_right := k_potTrue
theorem k__law_narrow_right : SpOk 1 sp__law_narrow_right := k_potTrue
theorem k__law_great_right : SpOk 1 sp__law_great_right := k_potTrue
section
variable {M : Sto} {Q : DK} {E : DXK} {p : Str2} {n : Nat} {d : D}
theorem u_simplest_below__0 : sp_simplest_below__0 [d] M Q E = False := rfl
theorem u_simplest_of__0 : sp_simplest_of__0 [stP p] M Q E = ((okS p ∧ sb 1800 p ∧ 0 < p.1) ∧ ∀ q, Simp p.1 p.2 q → qb 1800 q → Q (frq q) M) := u_spSim
theorem u_simplest_below : sp_simplest_below [stP p] M Q E = ((okS p ∧ sb 1800 p ∧ p.2 < 0) ∧ ∀ q, Simp p.1 p.2 q → qb 1800 q → Q (frq q) M) := u_spSim
theorem u_simplest_of : sp_simplest_of [stP p] M Q E = ((okS p ∧ sb 1800 p ∧ True) ∧ ∀ q, Simp p.1 p.2 q → qb 1800 q → Q (frq q) M) := u_spSim
theorem u_simplest : sp_simplest [stP p] M Q E = ((okS p ∧ sb 1800 p ∧ True) ∧ ∀ q, Simp p.1 p.2 q → qb 1800 q → Q (frq q) M) := u_spSim
theorem u__law_due : sp__law_due [stP p] M Q E = ((okS p ∧ sb 1000 p ∧ ∃ r : Rat, p.1 ≤ r ∧ r ≤ p.2 ∧ r.den ≤ 9000) ∧ ∀ q, Simp p.1 p.2 q → qb 1800 q → Q (frq q) M) :=
  propext ⟨fun ⟨r, e, h⟩ => by rw [i1e p r e]; exact h, fun h => ⟨p, rfl, h⟩⟩
theorem u__law_drawn_right : sp__law_drawn_right [.own n] M Q E = (Pot M n ∧ ∀ M', Pot M' n → Fram n M M' → Q (.bl true) M') := rfl
theorem u__law_narrow_right : sp__law_narrow_right [.own n] M Q E = (Pot M n ∧ ∀ M', Pot M' n → Fram n M M' → Q (.bl true) M') := rfl
theorem u__law_great_right : sp__law_great_right [.own n] M Q E = (Pot M n ∧ ∀ M', Pot M' n → Fram n M M' → Q (.bl true) M') := rfl
end
theorem isN_frq {M : Sto} {q : Rat} : fIsN M (frq q) .non = .ok (.bl false) := rfl
/-- mirrored -/
theorem frq_neg (a : Rat) : D.tup [.int (0 - a.num), .int (a.den : Int)] = frq (-a) := by
  unfold frq
  rw [Rat.neg_num, Rat.neg_den]
  have e : 0 - a.num = -a.num := by omega
  rw [e]
theorem qb_neg {k : Nat} {a : Rat} (h : qb k a) : qb k (-a) := by
  unfold qb at *
  rw [Rat.neg_num, Rat.neg_den, Int.natAbs_neg]
  exact h
theorem rep_frq {M : Sto} {q : Rat} : fRepr M [frq q] = .side (shp (frq q) = true ∧ shows (frq q)) (.str (textD (frq q))) := rfl
theorem frq_shows {q : Rat} (h : qb 1900 q) : shp (frq q) = true ∧ shows (frq q) := ⟨rfl, shows_of rfl (small_frq h) (by simp only [frq, costD, costL]; omega)⟩
theorem frq2_shows {a b : Rat} (h : qb 1900 a) (h2 : qb 1900 b) : shp (D.lst [frq a, frq b]) = true ∧ shows (D.lst [frq a, frq b]) := by
  have e : shp (D.lst [frq a, frq b]) = true := by
    unfold shp
    rw [Bool.and_eq_true]
    exact ⟨rfl, decide_eq_true (by simp only [frq, deep, deepL]; decide)⟩
  refine ⟨e, shows_of e ⟨small_frq h, small_frq h2, trivial⟩ ?_⟩
  simp only [frq, costD, costL]
  omega
theorem frq3_shows {a b c : Rat} (h : qb 1900 a) (h2 : qb 1900 b) (h3 : qb 1900 c) : shp (D.lst [frq a, frq b, frq c]) = true ∧ shows (D.lst [frq a, frq b, frq c]) := by
  have e : shp (D.lst [frq a, frq b, frq c]) = true := by
    unfold shp
    rw [Bool.and_eq_true]
    exact ⟨rfl, decide_eq_true (by simp only [frq, deep, deepL]; decide)⟩
  refine ⟨e, shows_of e ⟨small_frq h, small_frq h2, small_frq h3, trivial⟩ ?_⟩
  simp only [frq, costD, costL]
  omega
theorem frq_one {n : Int} (h : 0 < n) : D.tup [.int 1, .int n] = frq (Rat.divInt 1 n) := by
  have z := asQ_some (d := .tup [.int 1, .int n]) (q := Rat.divInt 1 n) (by
    unfold asQ
    dsimp only
    rw [if_pos ⟨by omega, by
      show Nat.gcd (1 : Int).natAbs n.natAbs = 1
      exact Nat.gcd_one_left _⟩])
  exact z
end DL
/-! readings of the defs over data; printed by gen.py -/
namespace K11
open PySem DL
abbrev c_NOUGHT : D := .tup [.int 0, .int 1]
def t__law_draw : DTS := (dSeq (dIf (dT (dBin fGt (dBin fIx (dVar 0) (dC (.int 0))) (dC (.int 0)))) (dSeq (dAsg (dFn fDivmod (dCons (dBin fIx (dVar 0) (dC (.int 0))) (dCons (dVar 1) dNil))) (gT 2 (gsCons (gIx (dVar 0) (dC (.int 0))) (gsCons (gN 2) gsNil)))) (dRet (dVar 2))) dNext) (dSeq (dAsg (dBin fMod (dFn fInt1 (dCons (dBin fAdd (dBin fMul (dBin fIx (dVar 0) (dC (.int 1))) (dC (.int 40014))) (dC (.int 1213))) dNil)) (dC (.int 2147483587))) (gIx (dVar 0) (dC (.int 1)))) (dRet (dBin fMod (dFn fInt1 (dCons (dBin fDiv (dBin fMod (dFn fInt1 (dCons (dBin fMul (dBin fIx (dVar 0) (dC (.int 1))) (dBin fIx (dVar 0) (dC (.int 1)))) dNil)) (dC (.int 2147483549))) (dC (.int 17))) dNil)) (dVar 1)))))
def t__law_gcd : DTS := (dSeq (dWhile (dT (dBin fNe (dVar 1) (dC (.int 0)))) (dPar 0 1 (dCons (dVar 1) (dCons (dBin fMod (dFn fInt1 (dCons (dVar 0) dNil)) (dVar 1)) dNil)))) (dRet (dFn fAbs (dCons (dVar 0) dNil))))
def t__law_made : DTS := (dSeq (dAsg (dCall sp__law_gcd (dCons (dVar 0) (dCons (dVar 1) dNil))) (gN 2)) (dSeq (dAsg (dIfE (dT (dBin fGt (dVar 1) (dC (.int 0)))) (dVar 2) (dBin fSub (dC (.int 0)) (dVar 2))) (gN 2)) (dRet (dTup (dCons (dBin fDiv (dVar 0) (dVar 2)) (dCons (dBin fDiv (dVar 1) (dVar 2)) dNil))))))
def t__law_due : DTS := (dSeq (dAsg (dVar 0) (gT 2 (gsCons (gN 1) (gsCons (gN 2) gsNil)))) (dSeq (dFor (dRng2 (dCons (dC (.int 1)) (dCons (dBin fPow (dC (.int 10)) (dC (.int 4))) dNil))) (gN 3) (dSeq (dAsg (dBin fSub (dC (.int 0)) (dBin fDiv (dBin fSub (dC (.int 0)) (dBin fMul (dBin fIx (dVar 1) (dC (.int 0))) (dVar 3))) (dBin fIx (dVar 1) (dC (.int 1))))) (gN 4)) (dSeq (dAsg (dBin fDiv (dBin fMul (dBin fIx (dVar 2) (dC (.int 0))) (dVar 3)) (dBin fIx (dVar 2) (dC (.int 1)))) (gN 5)) (dIf (dT (dBin fLe (dVar 4) (dVar 5))) (dSeq (dAsg (dIfE (dT (dBin fGt (dVar 4) (dC (.int 0)))) (dVar 4) (dIfE (dT (dBin fLt (dVar 5) (dC (.int 0)))) (dVar 5) (dC (.int 0)))) (gN 6)) (dRet (dCall sp__law_made (dCons (dVar 6) (dCons (dVar 3) dNil))))) dNext)))) (dRet (dC .non))))
def t__law_lower : DTS := (dRet (dBin fLt (dBin fMul (dBin fIx (dVar 0) (dC (.int 0))) (dBin fIx (dVar 1) (dC (.int 1)))) (dBin fMul (dBin fIx (dVar 1) (dC (.int 0))) (dBin fIx (dVar 0) (dC (.int 1))))))
def t__law_plus : DTS := (dRet (dCall sp__law_made (dCons (dBin fAdd (dBin fMul (dBin fIx (dVar 0) (dC (.int 0))) (dBin fIx (dVar 1) (dC (.int 1)))) (dBin fMul (dBin fIx (dVar 1) (dC (.int 0))) (dBin fIx (dVar 0) (dC (.int 1))))) (dCons (dBin fMul (dBin fIx (dVar 0) (dC (.int 1))) (dBin fIx (dVar 1) (dC (.int 1)))) dNil))))
def t_lower : DTS := (dRet (dBin fLt (dBin fMul (dBin fIx (dVar 0) (dC (.int 0))) (dBin fIx (dVar 1) (dC (.int 1)))) (dBin fMul (dBin fIx (dVar 1) (dC (.int 0))) (dBin fIx (dVar 0) (dC (.int 1))))))
def t_is_integer : DTS := (dRet (dAndV (dFn fIsi (dCons (dVar 0) (dCons (dC (.ty .int)) dNil))) (dNotV (dFn fIsi (dCons (dVar 0) (dCons (dC (.ty .bool)) dNil))))))
def t_is_fraction : DTS := (dSeq (dIf (dOr (dNot (dT (dFn fIsi (dCons (dVar 0) (dCons (dC (.ty .tuple)) dNil))))) (dOr (dT (dBin fNe (dFn fLen (dCons (dVar 0) dNil)) (dC (.int 2)))) (dOr (dNot (dT (dCall sp_is_integer (dCons (dBin fIx (dVar 0) (dC (.int 0))) dNil)))) (dNot (dT (dCall sp_is_integer (dCons (dBin fIx (dVar 0) (dC (.int 1))) dNil))))))) (dRet (dC (.bl false))) dNext) (dRet (dAndV (dBin fGe (dBin fIx (dVar 0) (dC (.int 1))) (dC (.int 1))) (dBin fEq (dFn fGcd (dCons (dBin fIx (dVar 0) (dC (.int 0))) (dCons (dBin fIx (dVar 0) (dC (.int 1))) dNil))) (dC (.int 1))))))
def t_want_fraction : DTS := (dSeq (dIf (dNot (dT (dCall sp_is_fraction (dCons (dVar 0) dNil)))) dNever dNext) (dRet (dVar 0)))
def t_is_stretch : DTS := (dSeq (dIf (dOr (dNot (dT (dFn fIsi (dCons (dVar 0) (dCons (dC (.ty .tuple)) dNil))))) (dOr (dT (dBin fNe (dFn fLen (dCons (dVar 0) dNil)) (dC (.int 2)))) (dOr (dNot (dT (dCall sp_is_fraction (dCons (dBin fIx (dVar 0) (dC (.int 0))) dNil)))) (dNot (dT (dCall sp_is_fraction (dCons (dBin fIx (dVar 0) (dC (.int 1))) dNil))))))) (dRet (dC (.bl false))) dNext) (dRet (dNotV (dCall sp_lower (dCons (dBin fIx (dVar 0) (dC (.int 1))) (dCons (dBin fIx (dVar 0) (dC (.int 0))) dNil))))))
def t_want_stretch : DTS := (dSeq (dIf (dNot (dT (dCall sp_is_stretch (dCons (dVar 0) dNil)))) dNever dNext) (dRet (dVar 0)))
def t_is_in : DTS := (dSeq (dDrop (dCall sp_want_stretch (dCons (dVar 0) dNil))) (dSeq (dDrop (dCall sp_want_fraction (dCons (dVar 1) dNil))) (dRet (dAndV (dNotV (dCall sp_lower (dCons (dVar 1) (dCons (dBin fIx (dVar 0) (dC (.int 0))) dNil)))) (dNotV (dCall sp_lower (dCons (dBin fIx (dVar 0) (dC (.int 1))) (dCons (dVar 1) dNil))))))))
def t_ceiling_of : DTS := (dRet (dBin fSub (dC (.int 0)) (dBin fDiv (dBin fSub (dC (.int 0)) (dBin fIx (dVar 0) (dC (.int 0)))) (dBin fIx (dVar 0) (dC (.int 1))))))
def t_floor_of : DTS := (dRet (dBin fDiv (dBin fIx (dVar 0) (dC (.int 0))) (dBin fIx (dVar 0) (dC (.int 1)))))
def t_fraction : DTS := (dSeq (dAsg (dFn fGcd (dCons (dVar 0) (dCons (dVar 1) dNil))) (gN 2)) (dSeq (dIf (dT (dBin fLt (dVar 1) (dC (.int 0)))) (dAsg (dBin fSub (dC (.int 0)) (dVar 2)) (gN 2)) dNext) (dRet (dTup (dCons (dBin fDiv (dVar 0) (dVar 2)) (dCons (dBin fDiv (dVar 1) (dVar 2)) dNil))))))
def t_parted : DTS := (dRet (dCall sp_fraction (dCons (dBin fMul (dBin fIx (dVar 0) (dC (.int 0))) (dBin fIx (dVar 1) (dC (.int 1)))) (dCons (dBin fMul (dBin fIx (dVar 0) (dC (.int 1))) (dBin fIx (dVar 1) (dC (.int 0)))) dNil))))
def t_simplest_below__0 : DTS := (dSeq dNever dNever)
def t_taken : DTS := (dRet (dCall sp_fraction (dCons (dBin fSub (dBin fMul (dBin fIx (dVar 0) (dC (.int 0))) (dBin fIx (dVar 1) (dC (.int 1)))) (dBin fMul (dBin fIx (dVar 1) (dC (.int 0))) (dBin fIx (dVar 0) (dC (.int 1))))) (dCons (dBin fMul (dBin fIx (dVar 0) (dC (.int 1))) (dBin fIx (dVar 1) (dC (.int 1)))) dNil))))
def t_simplest_of__0 : DTS := (dSeq (dAsg (dVar 0) (gT 2 (gsCons (gN 1) (gsCons (gN 2) gsNil)))) (dSeq (dIf (dNot (dT (dCall sp_lower (dCons (dC c_NOUGHT) (dCons (dVar 1) dNil))))) (dRet (dIfE (dNot (dT (dCall sp_lower (dCons (dVar 2) (dCons (dC c_NOUGHT) dNil))))) (dC c_NOUGHT) (dCall sp_simplest_below__0 (dCons (dVar 0) dNil)))) dNext) (dSeq (dAsg (dLstO dNil) (gN 3)) (dSeq (dWhile (dT (dBin fGt (dCall sp_ceiling_of (dCons (dVar 1) dNil)) (dCall sp_floor_of (dCons (dVar 2) dNil)))) (dSeq (dAsg (dCall sp_floor_of (dCons (dVar 1) dNil)) (gN 4)) (dSeq (dDrop (dMth fApp (dVar 3) (dCons (dVar 4) dNil))) (dPar 1 2 (dCons (dCall sp_parted (dCons (dTup (dCons (dC (.int 1)) (dCons (dC (.int 1)) dNil))) (dCons (dCall sp_taken (dCons (dVar 2) (dCons (dTup (dCons (dVar 4) (dCons (dC (.int 1)) dNil))) dNil))) dNil))) (dCons (dCall sp_parted (dCons (dTup (dCons (dC (.int 1)) (dCons (dC (.int 1)) dNil))) (dCons (dCall sp_taken (dCons (dVar 1) (dCons (dTup (dCons (dVar 4) (dCons (dC (.int 1)) dNil))) dNil))) dNil))) dNil)))))) (dSeq (dAsg (dTup (dCons (dCall sp_ceiling_of (dCons (dVar 1) dNil)) (dCons (dC (.int 1)) dNil))) (gN 5)) (dSeq (dFor (dIt (dFz (dFRev (dVar 3)))) (gN 4) (dAsg (dCall sp_fraction (dCons (dBin fAdd (dBin fMul (dVar 4) (dBin fIx (dVar 5) (dC (.int 0)))) (dBin fIx (dVar 5) (dC (.int 1)))) (dCons (dBin fIx (dVar 5) (dC (.int 0))) dNil))) (gN 5))) (dRet (dVar 5))))))))
def t_simplest_below : DTS := (dSeq (dAsg (dCall sp_simplest_of__0 (dCons (dTup (dCons (dTup (dCons (dBin fSub (dC (.int 0)) (dBin fIx (dBin fIx (dVar 0) (dC (.int 1))) (dC (.int 0)))) (dCons (dBin fIx (dBin fIx (dVar 0) (dC (.int 1))) (dC (.int 1))) dNil))) (dCons (dTup (dCons (dBin fSub (dC (.int 0)) (dBin fIx (dBin fIx (dVar 0) (dC (.int 0))) (dC (.int 0)))) (dCons (dBin fIx (dBin fIx (dVar 0) (dC (.int 0))) (dC (.int 1))) dNil))) dNil))) dNil)) (gN 1)) (dRet (dTup (dCons (dBin fSub (dC (.int 0)) (dBin fIx (dVar 1) (dC (.int 0)))) (dCons (dBin fIx (dVar 1) (dC (.int 1))) dNil)))))
def t_simplest_of : DTS := (dSeq (dAsg (dVar 0) (gT 2 (gsCons (gN 1) (gsCons (gN 2) gsNil)))) (dSeq (dIf (dNot (dT (dCall sp_lower (dCons (dC c_NOUGHT) (dCons (dVar 1) dNil))))) (dRet (dIfE (dNot (dT (dCall sp_lower (dCons (dVar 2) (dCons (dC c_NOUGHT) dNil))))) (dC c_NOUGHT) (dCall sp_simplest_below (dCons (dVar 0) dNil)))) dNext) (dSeq (dAsg (dLstO dNil) (gN 3)) (dSeq (dWhile (dT (dBin fGt (dCall sp_ceiling_of (dCons (dVar 1) dNil)) (dCall sp_floor_of (dCons (dVar 2) dNil)))) (dSeq (dAsg (dCall sp_floor_of (dCons (dVar 1) dNil)) (gN 4)) (dSeq (dDrop (dMth fApp (dVar 3) (dCons (dVar 4) dNil))) (dPar 1 2 (dCons (dCall sp_parted (dCons (dTup (dCons (dC (.int 1)) (dCons (dC (.int 1)) dNil))) (dCons (dCall sp_taken (dCons (dVar 2) (dCons (dTup (dCons (dVar 4) (dCons (dC (.int 1)) dNil))) dNil))) dNil))) (dCons (dCall sp_parted (dCons (dTup (dCons (dC (.int 1)) (dCons (dC (.int 1)) dNil))) (dCons (dCall sp_taken (dCons (dVar 1) (dCons (dTup (dCons (dVar 4) (dCons (dC (.int 1)) dNil))) dNil))) dNil))) dNil)))))) (dSeq (dAsg (dTup (dCons (dCall sp_ceiling_of (dCons (dVar 1) dNil)) (dCons (dC (.int 1)) dNil))) (gN 5)) (dSeq (dFor (dIt (dFz (dFRev (dVar 3)))) (gN 4) (dAsg (dCall sp_fraction (dCons (dBin fAdd (dBin fMul (dVar 4) (dBin fIx (dVar 5) (dC (.int 0)))) (dBin fIx (dVar 5) (dC (.int 1)))) (dCons (dBin fIx (dVar 5) (dC (.int 0))) dNil))) (gN 5))) (dRet (dVar 5))))))))
def t_simplest : DTS := (dRet (dCall sp_simplest_of (dCons (dCall sp_want_stretch (dCons (dVar 0) dNil)) dNil)))
def t__law_drawn_right : DTS := (dSeq (dAsg (dComp (dRng1 (dCons (dC (.int 2)) dNil)) (gN 6) dYes (dCall sp__law_made (dCons (dBin fSub (dCall sp__law_draw (dCons (dVar 0) (dCons (dC (.int 161)) dNil))) (dC (.int 80))) (dCons (dBin fAdd (dC (.int 1)) (dCall sp__law_draw (dCons (dVar 0) (dCons (dC (.int 40)) dNil)))) dNil))) [6]) (gL 2 (gsCons (gN 1) (gsCons (gN 2) gsNil)))) (dSeq (dAsg (dIfE (dT (dBin fEq (dCall sp__law_draw (dCons (dVar 0) (dCons (dC (.int 3)) dNil))) (dC (.int 0)))) (dCall sp__law_plus (dCons (dVar 1) (dCons (dCall sp__law_made (dCons (dC (.int 1)) (dCons (dBin fAdd (dC (.int 1)) (dCall sp__law_draw (dCons (dVar 0) (dCons (dC (.int 900)) dNil)))) dNil))) dNil))) (dVar 2)) (gN 2)) (dSeq (dAsg (dIfE (dT (dBin fEq (dCall sp__law_draw (dCons (dVar 0) (dCons (dC (.int 9)) dNil))) (dC (.int 0)))) (dVar 1) (dVar 2)) (gN 2)) (dSeq (dAsg (dIfE (dT (dCall sp__law_lower (dCons (dVar 2) (dCons (dVar 1) dNil)))) (dTup (dCons (dVar 2) (dCons (dVar 1) dNil))) (dTup (dCons (dVar 1) (dCons (dVar 2) dNil)))) (gN 3)) (dSeq (dAsg (dCall sp__law_due (dCons (dVar 3) dNil)) (gN 4)) (dSeq (dAsg (dTup (dCons (dTup (dCons (dBin fSub (dC (.int 0)) (dBin fIx (dBin fIx (dVar 3) (dC (.int 1))) (dC (.int 0)))) (dCons (dBin fIx (dBin fIx (dVar 3) (dC (.int 1))) (dC (.int 1))) dNil))) (dCons (dTup (dCons (dBin fSub (dC (.int 0)) (dBin fIx (dBin fIx (dVar 3) (dC (.int 0))) (dC (.int 0)))) (dCons (dBin fIx (dBin fIx (dVar 3) (dC (.int 0))) (dC (.int 1))) dNil))) dNil))) (gN 5)) (dSeq (dIf (dOr (dT (dBin fIsN (dVar 4) (dC .non))) (dT (dBin fNotB (dCall sp_is_in (dCons (dVar 3) (dCons (dVar 4) dNil))) (dC (.bl true))))) (dRet (dC (.bl false))) dNext) (dRet (dBin fEq (dFn fRepr (dCons (dLst (dCons (dCall sp_simplest (dCons (dVar 3) dNil)) (dCons (dCallK 0 1 sp_simplest (fun us ws => order 0 [0] us ws) dNil (dCons (dVar 3) dNil)) (dCons (dCall sp_simplest (dCons (dVar 5) dNil)) dNil)))) dNil)) (dFn fRepr (dCons (dLst (dCons (dVar 4) (dCons (dVar 4) (dCons (dTup (dCons (dBin fSub (dC (.int 0)) (dBin fIx (dVar 4) (dC (.int 0)))) (dCons (dBin fIx (dVar 4) (dC (.int 1))) dNil))) dNil)))) dNil)))))))))))
def t__law_minus : DTS := (dRet (dCall sp__law_made (dCons (dBin fSub (dBin fMul (dBin fIx (dVar 0) (dC (.int 0))) (dBin fIx (dVar 1) (dC (.int 1)))) (dBin fMul (dBin fIx (dVar 1) (dC (.int 0))) (dBin fIx (dVar 0) (dC (.int 1))))) (dCons (dBin fMul (dBin fIx (dVar 0) (dC (.int 1))) (dBin fIx (dVar 1) (dC (.int 1)))) dNil))))
def t__law_pick : DTS := (dRet (dBin fIx (dVar 1) (dCall sp__law_draw (dCons (dVar 0) (dCons (dFn fLen (dCons (dVar 1) dNil)) dNil)))))
def t__law_some : DTS := (dSeq (dAsg (dCall sp__law_draw (dCons (dVar 0) (dCons (dC (.int 12)) dNil))) (gN 1)) (dSeq (dIf (dT (dBin fEq (dVar 1) (dC (.int 0)))) (dRet (dCall sp__law_made (dCons (dBin fSub (dCall sp__law_draw (dCons (dVar 0) (dCons (dBin fMul (dC (.int 2)) (dBin fPow (dC (.int 10)) (dC (.int 12)))) dNil))) (dBin fPow (dC (.int 10)) (dC (.int 12)))) (dCons (dBin fAdd (dC (.int 1)) (dCall sp__law_draw (dCons (dVar 0) (dCons (dBin fPow (dC (.int 10)) (dC (.int 12))) dNil)))) dNil)))) dNext) (dRet (dCall sp__law_made (dCons (dBin fSub (dCall sp__law_draw (dCons (dVar 0) (dCons (dC (.int 81)) dNil))) (dC (.int 40))) (dCons (dIfE (dT (dBin fLt (dVar 1) (dC (.int 5)))) (dBin fAdd (dC (.int 1)) (dCall sp__law_draw (dCons (dVar 0) (dCons (dC (.int 12)) dNil)))) (dCall sp__law_pick (dCons (dVar 0) (dCons (dLst (dCons (dC (.int 1)) (dCons (dC (.int 2)) (dCons (dC (.int 4)) dNil)))) dNil)))) dNil))))))
def t__law_great_right : DTS := (dSeq (dAsg (dBin fAdd (dC (.int 60)) (dCall sp__law_draw (dCons (dVar 0) (dCons (dBin fPow (dC (.int 10)) (dC (.int 5))) dNil)))) (gN 1)) (dSeq (dPar 2 3 (dCons (dCall sp__law_made (dCons (dBin fSub (dCall sp__law_draw (dCons (dVar 0) (dCons (dBin fMul (dC (.int 2)) (dBin fPow (dC (.int 10)) (dC (.int 9)))) dNil))) (dBin fPow (dC (.int 10)) (dC (.int 9)))) (dCons (dVar 1) dNil))) (dCons (dCall sp__law_some (dCons (dVar 0) dNil)) dNil))) (dSeq (dPar 4 5 (dCons (dTup (dCons (dC (.int 1)) (dCons (dBin fAdd (dBin fMul (dC (.int 4)) (dBin fPow (dC (.int 10)) (dC (.int 10)))) (dCall sp__law_draw (dCons (dVar 0) (dCons (dBin fPow (dC (.int 10)) (dC (.int 12))) dNil)))) dNil))) (dCons (dTup (dCons (dC (.int 1)) (dCons (dBin fAdd (dBin fMul (dC (.int 4)) (dBin fPow (dC (.int 10)) (dC (.int 10)))) (dCall sp__law_draw (dCons (dVar 0) (dCons (dBin fPow (dC (.int 10)) (dC (.int 12))) dNil)))) dNil))) dNil))) (dSeq (dAsg (dTup (dCons (dCall sp__law_minus (dCons (dVar 2) (dCons (dVar 4) dNil))) (dCons (dCall sp__law_plus (dCons (dVar 2) (dCons (dVar 5) dNil))) dNil))) (gN 6)) (dRet (dBin fEq (dFn fRepr (dCons (dLst (dCons (dCall sp_simplest (dCons (dVar 6) dNil)) (dCons (dCall sp_simplest (dCons (dTup (dCons (dVar 3) (dCons (dVar 3) dNil))) dNil)) dNil))) dNil)) (dFn fRepr (dCons (dLst (dCons (dVar 2) (dCons (dVar 3) dNil))) dNil))))))))
def t__law_narrow_right : DTS := (dSeq (dAsg (dBin fAdd (dC (.int 2)) (dCall sp__law_draw (dCons (dVar 0) (dCons (dC (.int 58)) dNil)))) (gN 1)) (dSeq (dAsg (dBin fSub (dCall sp__law_draw (dCons (dVar 0) (dCons (dBin fMul (dC (.int 2)) (dBin fPow (dC (.int 10)) (dC (.int 6)))) dNil))) (dBin fPow (dC (.int 10)) (dC (.int 6)))) (gN 2)) (dSeq (dAsg (dCall sp__law_made (dCons (dVar 2) (dCons (dVar 1) dNil))) (gN 3)) (dSeq (dAsg (dCall sp__law_pick (dCons (dVar 0) (dCons (dLst (dCons (dC (.int 4000)) (dCons (dBin fPow (dC (.int 10)) (dC (.int 9))) (dCons (dBin fPow (dC (.int 10)) (dC (.int 15))) dNil)))) dNil))) (gN 4)) (dSeq (dPar 5 6 (dCons (dCall sp__law_made (dCons (dCall sp__law_draw (dCons (dVar 0) (dCons (dVar 4) dNil))) (dCons (dBin fMul (dVar 4) (dC (.int 3600))) dNil))) (dCons (dCall sp__law_made (dCons (dCall sp__law_draw (dCons (dVar 0) (dCons (dVar 4) dNil))) (dCons (dBin fMul (dVar 4) (dC (.int 3600))) dNil))) dNil))) (dSeq (dAsg (dTup (dCons (dCall sp__law_minus (dCons (dVar 3) (dCons (dVar 5) dNil))) (dCons (dCall sp__law_plus (dCons (dVar 3) (dCons (dVar 6) dNil))) dNil))) (gN 7)) (dRet (dBin fEq (dFn fRepr (dCons (dCall sp_simplest (dCons (dVar 7) dNil)) dNil)) (dFn fRepr (dCons (dVar 3) dNil))))))))))
def t__law_pot : DTS := (dSeq (dAsg (dIfE (dT (dBin fLt (dVar 1) (dFn fLen (dCons (dVar 0) dNil)))) (dFn fAbs (dCons (dBin fIx (dVar 0) (dVar 1)) dNil)) (dBin fAdd (dBin fMul (dC (.int 1213)) (dVar 1)) (dC (.int 913)))) (gN 2)) (dRet (dLstO (dCons (dFn fMax2 (dCons (dC (.int 0)) (dCons (dBin fSub (dVar 2) (dBin fPow (dC (.int 10)) (dC (.int 18)))) dNil))) (dCons (dBin fAdd (dBin fMod (dFn fInt1 (dCons (dBin fAdd (dBin fAdd (dBin fMul (dBin fMod (dFn fInt1 (dCons (dVar 2) dNil)) (dC (.int 2147483549))) (dC (.int 40692))) (dBin fMul (dC (.int 1213)) (dVar 1))) (dC (.int 913))) dNil)) (dC (.int 2147483563))) (dC (.int 1))) dNil)))))
def t_law : DTS := (dSeq (dFor (dRng1 (dCons (dFn fMax2 (dCons (dC (.int 1)) (dCons (dFn fMin2 (dCons (dC (.int 4)) (dCons (dFn fLen (dCons (dVar 0) dNil)) dNil))) dNil))) dNil)) (gN 1) (dSeq (dAsg (dCall sp__law_pot (dCons (dVar 0) (dCons (dVar 1) dNil))) (gN 2)) (dIf (dOr (dNot (dT (dFn fAll (dCons (dComp (dRng1 (dCons (dC (.int 3)) dNil)) (gN 3) dYes (dCall sp__law_drawn_right (dCons (dVar 2) dNil)) [3]) dNil)))) (dOr (dNot (dT (dCall sp__law_narrow_right (dCons (dVar 2) dNil)))) (dNot (dT (dCall sp__law_great_right (dCons (dVar 2) dNil)))))) (dRet (dC (.bl false))) dNext))) (dRet (dC (.bl true))))
end K11

namespace K11
open PySem DL
local macro_rules | `(tactic| walk_at "dl") => `(tactic| simp (config := { decide := false, implicitDefEqProofs := false }) only [e_Seq, e_seqNx, e_Next, e_Asg, e_kAsg, e_Ret, e_RetN, e_If, e_kIfT, e_kIfF, e_kIf, e_Drop, e_kDrop, e_Par, e_kPar, e_For, e_kFor, e_C, e_Var, e_kVar, e_Bin, e_kB1, e_kB2, e_kR, e_kF, e_kF2, e_kX, e_Un, e_kU, e_Nil, e_Cons, e_kC1, e_kC2, e_Fn, e_kFn, e_Tup, e_Lst, e_LstO, e_kTup, e_kLst, e_kLstO, e_Call, e_kCall, e_CallK, e_kK1, e_kK2, e_T, e_kBool, e_And, e_kAndT, e_kAndF, e_kAnd, e_Or, e_kOrT, e_kOrF, e_kOr, e_Not, e_kNot, e_AndV, e_kAndVT, e_kAndVF, e_kAndV, e_OrV, e_kOrVT, e_kOrVF, e_kOrV, e_NotV, e_kNotV, e_IfE, e_kIfET, e_kIfEF, e_kIfE, e_Chain, e_kCh1, e_kCh2, e_kCh3T, e_kCh3F, e_kCh3, e_kCh4, e_gN, e_gT, e_gsNil, e_gsCons, e_kGs, e_gIx, e_kIx1, e_kIx2, e_It, e_kItT, e_kItL, e_kItW, e_Rng1, e_kRng1, e_Rng2, e_kRng2, e_Comp, e_kComp, e_Yes, e_ap1, e_ap2, e_ap3, e_ap4, e_pureSp, e_look0, e_look1, e_put0, e_put1, e_wiped0, e_wiped1, ix_num, ix_den, len_frq, ty_frq, res_frq, res_lst, eq_ii, ne_ii, eq_ss, ne_ss, eq_ff, ne_ff, e_kForB, shp_frq, frq_int, rep_lst, u_fraction, u_made, u__law_made, u__law_gcd, u_lower, u_added, u_taken, u_scaled, u_parted, u_floor_of, u_ceiling_of, u_want_fraction, u_is_integerI, u_is_fractionF, u_is_less, u_plus, u_minus, u_times, u_over, u_floor, u_ceiling, u__law_lower, u__law_plus, u__law_minus, u__law_times, u__law_over, u__law_floor, q_add, q_sub, q_mul, q_div, q_lt, q_floor, num_int, x_add, x_addS, x_addT, x_addL, x_sub, x_mul, x_mulL, x_div, x_mod, x_pow, x_lt, x_le, x_gt, x_ge, x_neg, x_isN0, x_notN0, x_ixT, x_ixL, x_ixW, x_opt1, x_opt0, x_at0, x_at1, x_at2, x_at3, x_abs, x_max2, x_min2, x_int1, x_gcd, x_strI, x_divmod, x_lenT, x_lenL, x_lenW, x_isi, x_isiR, y_non, y_bl, y_int, y_str, y_tup, y_lst, y_wl, y_emp, subT, okT, e_never, rat0, rat1, decide_eq_true_eq, decide_eq_false_iff_not, Bool.not_true, Bool.not_false, Bool.not_eq_true', Bool.not_eq_false', decide_true, decide_false, eq_self, true_and, and_true, and_self, true_implies, false_implies, reduceCtorEq, List.length_cons, List.length_nil, Nat.zero_add, Nat.reduceAdd, Nat.reduceLeDiff, Nat.reduceLT, Nat.reduceEqDiff, Int.reduceLT, Int.reduceLE, Int.reduceEq, Int.reduceNe, Int.reduceToNat, Int.reduceNeg, Int.reduceAdd, Int.reduceSub, Int.reduceMul, reduceIte, ne_eq, Int.cast_ofNat_Int, nat0, nat1, nat2, x_ixOw, x_ixOr, x_lenOw, x_lenOr, e_kIx2, e_ix30, e_ix31, ord1, ord2, ord3, ord4, rep2, n10, u__law_some, q_int, qm1, u__law_draw, u__law_pick, sizeLine_eq, imp_false, not_true_eq_false, not_false_eq_true, e_Par3, e_kPar3, e_Fz, e_kFz, e_Ow, e_kOw, e_FL, e_kFL, e_FBin, e_kFB1, e_kFB2, e_FFn, e_kFFn, e_FC, e_kFC, e_apL1, e_apL2, e_Mth, e_kMth, e_mthP, e_kMthO, e_mthO, e_mthR, x_app, x_ins, x_ext, x_extR, x_resO, x_resR, x_resL, x_resT, x_addLL, x_addLR, x_listL, x_listT, x_tupleL, x_tupleT, e_FSl, e_kSl1, e_kSl2, e_kSl3, e_slR, e_oNo, e_oSo, e_kInt, e_FRev, e_kRev, e_revR, e_Zip, e_kZipL, e_kZipT, e_Enum, e_kEnum, e_FrzS, e_frzL, e_frzP, u_is_stretch, u_want_stretch, u_want_factor, u_lies_in, u__law_lies, u_cut_two, u__law_cut, u_widened_by, u__law_wide, u_moved_stretch, u__law_moved, u_back_of, u_before_stretch, u_is_in, u_lies_within, u_cut, u_width, u_widened, u_moved, u_before, u__law_stretch, u_hullL, u_hullT, u_hull1, u__law_least2, u__law_greatest2, ix_st0, ix_st1, len_st, ty_st, st_mk, e_gTst, opt_some, eq_oo, ne_oo, isN_opt, notN_opt, list_st, e_gL, x_isB, x_notB, u_simplest_below__0, u_simplest_of__0, u_simplest_below, u_simplest_of, u_simplest, u__law_due, u__law_drawn_right, u__law_narrow_right, u__law_great_right, rep_frq, isN_frq])
local macro_rules | `(tactic| walk_at "ib") => `(tactic| repeat' first | assumption | (with_reducible exact qb.num ‹_›) | (with_reducible exact ib_den ‹_›) | (with_reducible exact denI) | with_reducible apply And.intro | with_reducible apply a9 | with_reducible apply s9 | with_reducible apply m8 | with_reducible apply m9 | with_reducible apply sz4)
theorem vc__law_draw : ∀ ds M Q E, sp__law_draw ds M Q E → t__law_draw { nx := fun _ M' => Q .non M', rt := Q, xs := E } (dstart 3 ds) M := by
  intro ds M Q E h
  unfold sp__law_draw at h
  split at h
  · rename_i p many
    obtain ⟨⟨⟨a, b, hp, h1, h2, h3⟩, h4, h5⟩, hQ⟩ := h
    change t__law_draw _ [some (.own p), some (.int many), none] M
    unfold t__law_draw
    repeat (first | simp only [set_at hp, hp] | walk_at "dl")
    refine ⟨fun c => ?_, fun c => ?_⟩
    · refine ⟨ib_cDiv h5 (by omega) (by decide), ?_⟩
      refine hQ _ _ (Int.fmod_nonneg_of_pos _ (by omega)) (Int.fmod_lt_of_pos _ (by omega)) ⟨_, b, set_at hp, ?_, h2, h3⟩ fram_set
      exact Int.fdiv_nonneg h1 (by omega)
    · have z1 := Int.fmod_nonneg_of_pos (b * 40014 + 1213) (b := 2147483587) (by decide)
      have z2 := Int.fmod_lt_of_pos (b * 40014 + 1213) (b := 2147483587) (by decide)
      have s1 : sz ((b * 40014 + 1213).fmod 2147483587) := sz_small (by omega)
      refine ⟨⟨sz_small (by omega), sz_small (by decide)⟩, s1, ⟨by decide, by decide⟩, by omega, ?_⟩
      exact hQ _ _ (Int.fmod_nonneg_of_pos _ (by omega)) (Int.fmod_lt_of_pos _ (by omega)) ⟨_, _, set_at hp, h1, z1, by omega⟩ fram_set
  · exact h.elim
theorem vc__law_gcd : ∀ ds M Q E, sp__law_gcd ds M Q E → t__law_gcd { nx := fun _ M' => Q .non M', rt := Q, xs := E } (dstart 2 ds) M := by
  intro ds M Q E h
  obtain ⟨a, b, rfl, -, hQ⟩ := i2_inv h
  change t__law_gcd _ [some (.int a), some (.int b)] M
  dsimp only at hQ
  unfold t__law_gcd
  walk_at "dl"
  refine ⟨fun m s M' => ∃ x y : Int, s = [some (.int x), some (.int y)] ∧ M' = M ∧ Nat.gcd x.natAbs y.natAbs = Nat.gcd a.natAbs b.natAbs ∧ m = y.natAbs, ⟨b.natAbs, a, b, rfl, rfl, rfl, rfl⟩, ?_⟩
  intro m s M' hw
  obtain ⟨x, y, rfl, rfl, hg, rfl⟩ := hw
  walk_at "dl"
  by_cases c : y = 0
  · rw [if_neg (fun z => z c)]
    subst c
    have e : (if x < 0 then -x else x) = ((Nat.gcd a.natAbs b.natAbs : Nat) : Int) := by
      rw [← hg]
      simp only [Int.natAbs_zero, Nat.gcd_zero_right]
      split <;> omega
    rw [e]
    exact hQ
  · rw [if_pos c]
    refine ⟨c, _, ?_, y, x.fmod y, rfl, ?_, rfl⟩
    · exact fmod_lt_abs x c
    · rw [gcd_fmod]
      exact hg
theorem vc__law_made : ∀ ds M Q E, sp__law_made ds M Q E → t__law_made { nx := fun _ M' => Q .non M', rt := Q, xs := E } (dstart 3 ds) M := by
  intro ds M Q E h
  obtain ⟨a, b, rfl, ⟨h0, ha, hb⟩, hQ⟩ := i2_inv h
  change t__law_made _ [some (.int a), some (.int b), none] M
  dsimp only at hQ
  have g0 : 0 < (Nat.gcd a.natAbs b.natAbs) := Nat.gcd_pos_of_pos_right _ (by omega)
  have g1 : (Nat.gcd a.natAbs b.natAbs) ≤ b.natAbs := Nat.gcd_le_right _ (by omega)
  have c1 : cDiv ((Nat.gcd a.natAbs b.natAbs : Nat) : Int) := ib_cDiv (k := 8500) (by unfold ib at *; omega) (by omega) (by decide)
  have c2 : cDiv (0 - ((Nat.gcd a.natAbs b.natAbs : Nat) : Int)) := ib_cDiv (k := 8500) (by unfold ib at *; omega) (by omega) (by decide)
  rw [← frq_div (n := a) h0] at hQ
  unfold sgd at hQ
  unfold t__law_made
  walk_at "dl"
  refine ⟨fun c => ⟨c1, c1, ?_⟩, fun c => ⟨c2, c2, ?_⟩⟩
  · rw [if_neg (by omega)] at hQ
    exact hQ
  · rw [if_pos (by omega)] at hQ
    exact hQ
theorem vc__law_due : ∀ ds M Q E, sp__law_due ds M Q E → t__law_due { nx := fun _ M' => Q .non M', rt := Q, xs := E } (dstart 7 ds) M := by
  rintro _ M Q E ⟨⟨l, h⟩, rfl, ⟨o, ⟨k1, k2⟩, r, r1, r2, r3⟩, hQ⟩
  change t__law_due _ [some (stP (l, h)), none, none, none, none, none, none] M
  dsimp only at k1 k2 hQ r1 r2
  unfold t__law_due
  walk_at "dl"
  refine ⟨⟨⟨by decide, by decide, by decide, by decide⟩, by decide⟩, ?_⟩
  have key : ∀ (n : Nat) (b : Int) (s3 s4 s5 : Option D), 1 ≤ b → b + n = 10000 → (∀ c : Int, 1 ≤ c → c < b → ¬ hasB l h c) → forD (gN 3) (dSeq (dAsg (dBin fSub (dC (.int 0)) (dBin fDiv (dBin fSub (dC (.int 0)) (dBin fMul (dBin fIx (dVar 1) (dC (.int 0))) (dVar 3))) (dBin fIx (dVar 1) (dC (.int 1))))) (gN 4)) (dSeq (dAsg (dBin fDiv (dBin fMul (dBin fIx (dVar 2) (dC (.int 0))) (dVar 3)) (dBin fIx (dVar 2) (dC (.int 1)))) (gN 5)) (dIf (dT (dBin fLe (dVar 4) (dVar 5))) (dSeq (dAsg (dIfE (dT (dBin fGt (dVar 4) (dC (.int 0)))) (dVar 4) (dIfE (dT (dBin fLt (dVar 5) (dC (.int 0)))) (dVar 5) (dC (.int 0)))) (gN 6)) (dRet (dCall sp__law_made (dCons (dVar 6) (dCons (dVar 3) dNil))))) dNext))) (intsD b n)
      { nx := seqNx (dRet (dC D.non)) { nx := fun x M' => Q D.non M', rt := Q, xs := E }, rt := Q, xs := E } [some (stP (l, h)), some (frq l), some (frq h), s3, s4, s5, none] M := by
    intro n
    induction n with
    | zero =>
      intro b s3 s4 s5 b1 bn min
      exfalso
      have := r.den_pos
      exact min (r.den : Int) (by omega) (by omega) (hasB_of r1 r2).1
    | succ n ih =>
      intro b s3 s4 s5 b1 bn min
      have bb : ib 20 b := by
        unfold ib
        omega
      rw [ints_succ, e_for1]
      walk_at "dl"
      rw [mul_ceil, mul_floor]
      refine ⟨⟨sz_ib k1.num (by decide), sz_ib bb (by decide)⟩, ib_cDiv k1.den denI (by decide), ⟨sz_ib k2.num (by decide), sz_ib bb (by decide)⟩, ib_cDiv k2.den denI (by decide), fun c => ?_, fun c => ?_⟩
      · have lk := Simp.looked b1 c min
        have i1 : ib 1200 (-(-(l * (b : Rat))).floor) := by
          have := (qb_mul k1 (qb_int bb (by decide)) (p := 1100) (by decide))
          have z := ib_floor (qb_neg this)
          unfold ib at *
          rw [Int.natAbs_neg]
          exact Nat.lt_of_lt_of_le z (Nat.pow_le_pow_right (by decide) (by decide))
        have i2 : ib 1200 ((h * (b : Rat)).floor) := (ib_floor (qb_mul k2 (qb_int bb (by decide)) (p := 1100) (by decide))).mono (by decide)
        generalize -(-(l * (b : Rat))).floor = f at *
        generalize (h * (b : Rat)).floor = g at *
        refine ⟨fun c2 => ⟨⟨by omega, i1.mono (by decide), bb.mono (by decide)⟩, ?_⟩, fun c2 => ⟨fun c3 => ⟨⟨by omega, i2.mono (by decide), bb.mono (by decide)⟩, ?_⟩, fun c3 => ⟨⟨by omega, ib_lit (by decide) (by decide), bb.mono (by decide)⟩, ?_⟩⟩⟩
        · rw [if_pos c2] at lk
          exact hQ _ lk (qb_div (i1.mono (by decide)) (bb.mono (by decide)) (by decide))
        · rw [if_neg (by omega), if_pos c3] at lk
          exact hQ _ lk (qb_div (i2.mono (by decide)) (bb.mono (by decide)) (by decide))
        · rw [if_neg (by omega), if_neg (by omega)] at lk
          exact hQ _ lk (qb_div (ib_lit (by decide) (by decide)) (bb.mono (by decide)) (by decide))
      · refine ih (b + 1) _ _ _ (by omega) (by omega) fun c' c1 c2 => ?_
        by_cases e : c' = b
        · subst e
          exact c
        · exact min c' c1 (by omega)
  exact key 9999 1 none none none (by decide) (by decide) (fun c c1 c2 => by omega)
theorem vc__law_lower : ∀ ds M Q E, sp__law_lower ds M Q E → t__law_lower { nx := fun _ M' => Q .non M', rt := Q, xs := E } (dstart 2 ds) M := by
  intro ds M Q E h
  obtain ⟨a, b, rfl, ⟨ha, hb⟩, hQ⟩ := q2_inv h
  change t__law_lower _ [some (frq a), some (frq b)] M
  unfold t__law_lower
  walk_at "dl"
  exact ⟨⟨sz4 ha.num, sz4 (ib_den hb)⟩, ⟨sz4 hb.num, sz4 (ib_den ha)⟩, hQ⟩
theorem vc__law_plus : ∀ ds M Q E, sp__law_plus ds M Q E → t__law_plus { nx := fun _ M' => Q .non M', rt := Q, xs := E } (dstart 2 ds) M := by
  intro ds M Q E h
  obtain ⟨a, b, rfl, ⟨ha, hb⟩, hQ⟩ := q2_inv h
  change t__law_plus _ [some (frq a), some (frq b)] M
  unfold t__law_plus
  walk_at "dl"
  refine ⟨?_, ?_, ?_, ⟨Int.mul_ne_zero denI denI, ?_, ?_⟩, hQ⟩ <;> walk_at "ib"
theorem vc_lower : ∀ ds M Q E, sp_lower ds M Q E → t_lower { nx := fun _ M' => Q .non M', rt := Q, xs := E } (dstart 2 ds) M := by
  intro ds M Q E h
  obtain ⟨a, b, rfl, ⟨ha, hb⟩, hQ⟩ := q2_inv h
  change t_lower _ [some (frq a), some (frq b)] M
  unfold t_lower
  walk_at "dl"
  exact ⟨⟨sz4 ha.num, sz4 (ib_den hb)⟩, ⟨sz4 hb.num, sz4 (ib_den ha)⟩, hQ⟩
theorem vc_is_integer : ∀ ds M Q E, sp_is_integer ds M Q E → t_is_integer { nx := fun _ M' => Q .non M', rt := Q, xs := E } (dstart 1 ds) M := by
  intro ds M Q E h
  obtain ⟨d, rfl, h0, hQ⟩ := d1_inv h
  change t_is_integer _ [some d] M
  dsimp only at hQ h0
  unfold t_is_integer
  cases d <;> first | (cases h0; done) | (walk_at "dl"; exact hQ)
theorem vc_is_fraction : ∀ ds M Q E, sp_is_fraction ds M Q E → t_is_fraction { nx := fun _ M' => Q .non M', rt := Q, xs := E } (dstart 1 ds) M := by
  intro ds M Q E h
  obtain ⟨d, rfl, h0, hQ⟩ := d1_inv h
  change t_is_fraction _ [some d] M
  dsimp only at hQ h0
  unfold t_is_fraction
  match d, h0, hQ with
  | .tup [x, y], h0, hQ =>
    rcases isI_cases x with ⟨i, rfl⟩ | hx
    · rcases isI_cases y with ⟨j, rfl⟩ | hy
      · walk_at "dl"
        rw [asQ_ii] at hQ
        refine ⟨fun c => ?_, fun c => ?_⟩
        · rw [decide_eq_true c, Bool.true_and] at hQ
          rw [show decide (((i.natAbs.gcd j.natAbs : Nat) : Int) = 1) = decide (i.natAbs.gcd j.natAbs = 1) from decide_eq_decide.mpr (by omega)]
          exact hQ
        · rw [decide_eq_false c, Bool.false_and] at hQ
          exact hQ
      · walk_at "dl"
        simp only [u_is_integer, h0.2, hy]
        walk_at "dl"
        rw [asQ_no2 hy] at hQ
        exact hQ
    · walk_at "dl"
      simp only [u_is_integer, h0.1, hx]
      walk_at "dl"
      rw [asQ_no1 hx] at hQ
      exact hQ
  | .tup [], h0, hQ => walk_at "dl"; exact hQ
  | .tup [u], h0, hQ => walk_at "dl"; exact (show Q (D.bl (asQ (.tup [u])).isSome) M = Q (D.bl false) M by cases u <;> rfl) ▸ hQ
  | .tup (u :: v :: w :: r), h0, hQ =>
    walk_at "dl"
    have e : (asQ (.tup (u :: v :: w :: r))).isSome = false := by cases u <;> cases v <;> rfl
    rw [e] at hQ
    exact ⟨fun _ => hQ, fun c => absurd c (by omega)⟩
  | .non, h0, hQ => walk_at "dl"; exact hQ
  | .bl _, h0, hQ => walk_at "dl"; exact hQ
  | .int _, h0, hQ => walk_at "dl"; exact hQ
  | .str _, h0, hQ => walk_at "dl"; exact hQ
  | .lst _, h0, hQ => walk_at "dl"; exact hQ
  | .wl _, h0, hQ => walk_at "dl"; exact hQ
  | .emp, h0, hQ => walk_at "dl"; exact hQ
theorem vc_want_fraction : ∀ ds M Q E, sp_want_fraction ds M Q E → t_want_fraction { nx := fun _ M' => Q .non M', rt := Q, xs := E } (dstart 1 ds) M := by
  intro ds M Q E h
  obtain ⟨a, rfl, -, hQ⟩ := q1_inv h
  change t_want_fraction _ [some (frq a)] M
  unfold t_want_fraction
  walk_at "dl"
  exact hQ
theorem vc_is_stretch : ∀ ds M Q E, sp_is_stretch ds M Q E → t_is_stretch { nx := fun _ M' => Q .non M', rt := Q, xs := E } (dstart 1 ds) M := by
  rintro _ M Q E ⟨p, rfl, ⟨hp, hq⟩, hQ⟩
  change t_is_stretch _ [some (stP p)] M
  unfold t_is_stretch
  walk_at "dl"
  rw [decide_eq_false (Rat.not_lt.mpr hp)]
  exact ⟨⟨hq.2, hq.1⟩, hQ⟩
theorem vc_want_stretch : ∀ ds M Q E, sp_want_stretch ds M Q E → t_want_stretch { nx := fun _ M' => Q .non M', rt := Q, xs := E } (dstart 1 ds) M := by
  rintro _ M Q E ⟨p, rfl, hp, hQ⟩
  change t_want_stretch _ [some (stP p)] M
  unfold t_want_stretch
  walk_at "dl"
  exact ⟨hp, hQ⟩
theorem vc_is_in : ∀ ds M Q E, sp_is_in ds M Q E → t_is_in { nx := fun _ M' => Q .non M', rt := Q, xs := E } (dstart 2 ds) M := by
  rintro _ M Q E ⟨⟨p, a⟩, rfl, ⟨ho, hp, ha⟩, hQ⟩
  change t_is_in _ [some (stP p), some (frq a)] M
  dsimp only at ho hp ha hQ
  unfold t_is_in
  walk_at "dl"
  refine ⟨⟨ho, hp⟩, ⟨ha, hp.1⟩, fun c => ⟨⟨hp.2, ha⟩, ?_⟩, fun c => ?_⟩
  · rw [decide_eq_false c] at hQ
    exact hQ
  · rw [decide_eq_true c] at hQ
    exact hQ
theorem vc_ceiling_of : ∀ ds M Q E, sp_ceiling_of ds M Q E → t_ceiling_of { nx := fun _ M' => Q .non M', rt := Q, xs := E } (dstart 1 ds) M := by
  intro ds M Q E h
  obtain ⟨a, rfl, ha, hQ⟩ := q1_inv h
  change t_ceiling_of _ [some (frq a)] M
  unfold t_ceiling_of
  walk_at "dl"
  rw [ceil_eq]
  exact ⟨ib_cDiv (ib_den ha) denI (by decide), hQ⟩
theorem vc_floor_of : ∀ ds M Q E, sp_floor_of ds M Q E → t_floor_of { nx := fun _ M' => Q .non M', rt := Q, xs := E } (dstart 1 ds) M := by
  intro ds M Q E h
  obtain ⟨a, rfl, ha, hQ⟩ := q1_inv h
  change t_floor_of _ [some (frq a)] M
  unfold t_floor_of
  walk_at "dl"
  exact ⟨ib_cDiv (ib_den ha) denI (by decide), hQ⟩
theorem vc_fraction : ∀ ds M Q E, sp_fraction ds M Q E → t_fraction { nx := fun _ M' => Q .non M', rt := Q, xs := E } (dstart 3 ds) M := by
  intro ds M Q E h
  obtain ⟨a, b, rfl, ⟨h0, ha, hb⟩, hQ⟩ := i2_inv h
  change t_fraction _ [some (.int a), some (.int b), none] M
  dsimp only at hQ
  have g0 : 0 < (Nat.gcd a.natAbs b.natAbs) := Nat.gcd_pos_of_pos_right _ (by omega)
  have g1 : (Nat.gcd a.natAbs b.natAbs) ≤ b.natAbs := Nat.gcd_le_right _ (by omega)
  have c1 : cDiv ((Nat.gcd a.natAbs b.natAbs : Nat) : Int) := ib_cDiv (k := 8500) (by unfold ib at *; omega) (by omega) (by decide)
  have c2 : cDiv (0 - ((Nat.gcd a.natAbs b.natAbs : Nat) : Int)) := ib_cDiv (k := 8500) (by unfold ib at *; omega) (by omega) (by decide)
  rw [← frq_div (n := a) h0] at hQ
  unfold sgd at hQ
  unfold t_fraction
  walk_at "dl"
  refine ⟨fun c => ⟨c2, c2, ?_⟩, fun c => ⟨c1, c1, ?_⟩⟩
  · rw [if_pos c] at hQ
    exact hQ
  · rw [if_neg c] at hQ
    exact hQ
theorem vc_parted : ∀ ds M Q E, sp_parted ds M Q E → t_parted { nx := fun _ M' => Q .non M', rt := Q, xs := E } (dstart 2 ds) M := by
  intro ds M Q E h
  obtain ⟨a, b, rfl, ⟨h0, ha, hb⟩, hQ⟩ := q2_inv h
  change t_parted _ [some (frq a), some (frq b)] M
  unfold t_parted
  walk_at "dl"
  refine ⟨?_, ?_, ⟨Int.mul_ne_zero denI (fun z => h0 (Rat.num_eq_zero.mp z)), ?_, ?_⟩, hQ⟩ <;> walk_at "ib"
theorem vc_simplest_below__0 : ∀ ds M Q E, sp_simplest_below__0 ds M Q E → t_simplest_below__0 { nx := fun _ M' => Q .non M', rt := Q, xs := E } (dstart 2 ds) M := by
  intro ds M Q E h
  exact h.elim
theorem vc_taken : ∀ ds M Q E, sp_taken ds M Q E → t_taken { nx := fun _ M' => Q .non M', rt := Q, xs := E } (dstart 2 ds) M := by
  intro ds M Q E h
  obtain ⟨a, b, rfl, ⟨ha, hb⟩, hQ⟩ := q2_inv h
  change t_taken _ [some (frq a), some (frq b)] M
  unfold t_taken
  walk_at "dl"
  refine ⟨?_, ?_, ?_, ⟨Int.mul_ne_zero denI denI, ?_, ?_⟩, hQ⟩ <;> walk_at "ib"
def fbody : DTS := (dAsg (dCall sp_fraction (dCons (dBin fAdd (dBin fMul (dVar 4) (dBin fIx (dVar 5) (dC (.int 0)))) (dBin fIx (dVar 5) (dC (.int 1)))) (dCons (dBin fIx (dVar 5) (dC (.int 0))) dNil))) (gN 5))
def stail : DTS := (dSeq (dAsg (dLstO dNil) (gN 3)) (dSeq (dWhile (dT (dBin fGt (dCall sp_ceiling_of (dCons (dVar 1) dNil)) (dCall sp_floor_of (dCons (dVar 2) dNil)))) (dSeq (dAsg (dCall sp_floor_of (dCons (dVar 1) dNil)) (gN 4)) (dSeq (dDrop (dMth fApp (dVar 3) (dCons (dVar 4) dNil))) (dPar 1 2 (dCons (dCall sp_parted (dCons (dTup (dCons (dC (.int 1)) (dCons (dC (.int 1)) dNil))) (dCons (dCall sp_taken (dCons (dVar 2) (dCons (dTup (dCons (dVar 4) (dCons (dC (.int 1)) dNil))) dNil))) dNil))) (dCons (dCall sp_parted (dCons (dTup (dCons (dC (.int 1)) (dCons (dC (.int 1)) dNil))) (dCons (dCall sp_taken (dCons (dVar 1) (dCons (dTup (dCons (dVar 4) (dCons (dC (.int 1)) dNil))) dNil))) dNil))) dNil)))))) (dSeq (dAsg (dTup (dCons (dCall sp_ceiling_of (dCons (dVar 1) dNil)) (dCons (dC (.int 1)) dNil))) (gN 5)) (dSeq (dFor (dIt (dFz (dFRev (dVar 3)))) (gN 4) (dAsg (dCall sp_fraction (dCons (dBin fAdd (dBin fMul (dVar 4) (dBin fIx (dVar 5) (dC (.int 0)))) (dBin fIx (dVar 5) (dC (.int 1)))) (dCons (dBin fIx (dVar 5) (dC (.int 0))) dNil))) (gN 5))) (dRet (dVar 5))))))
theorem back_walk {l0 h0 : Rat} (p0 : 0 < l0) (q0 : l0 ≤ h0) {D0 : DEnd} {M : Sto} {s0 s1 s2 s3 : Option D} : ∀ (ws : List Int) (l h : Rat), Chn l0 h0 1800 ws l h → ∀ (q : Rat) (s4 : Option D), 0 < l → l ≤ h → qb 1800 l → SimP l h q →
    (∀ (q : Rat) (s4 : Option D), SimP l0 h0 q → D0.nx [s0, s1, s2, s3, s4, some (frq q)] M) → forD (gN 4) fbody (ws.reverse.map D.int) D0 [s0, s1, s2, s3, s4, some (frq q)] M := by
  intro ws l h c
  induction c with
  | nil =>
    intro q s4 lp lh _ s hn
    exact hn q s4 s
  | @snoc ws l h w c w0 wb h1 lh h2 ql qh ih =>
    intro q s4 lp lh2 qb' s hn
    have l0' : 0 < l := rlt1 (Rat.intCast_le_intCast.mpr w0) h1
    have qq := s.qb lp lh2 qb'
    have qp : 0 < q := rlt2 lp s.1
    have qn : 0 < q.num := by
      have a : 0 ≤ q.num := Rat.num_nonneg.mpr (Rat.le_of_lt qp)
      have b : q.num ≠ 0 := fun z => by
        rw [Rat.num_eq_zero.mp z] at qp
        exact absurd qp Rat.lt_irrefl
      omega
    rw [List.reverse_append, List.reverse_singleton, List.singleton_append, List.map_cons, e_for1]
    unfold fbody
    walk_at "dl"
    rw [swap_div qp]
    refine ⟨⟨sz_ib wb (by decide), sz_ib qq.num (by decide)⟩, ⟨by omega, ?_, qq.num.mono (by decide)⟩, ?_⟩
    · have m := wb.mul qq.num
      exact (m.add (qq.den.mono (by decide)) (Nat.lt_succ_self _)).mono (by decide)
    · exact ih _ _ l0' lh ql (SimP.step w0 h1 lh s) hn
theorem walk_simplest {l h : Rat} {Q : DK} {E : DXK} {M : Sto} {nx : Sl → Sto → Prop} {st : D} (l0 : 0 < l) (lh : l ≤ h) (ql : qb 1800 l) (qh : qb 1800 h) (hQ : ∀ q, Simp l h q → qb 1800 q → Q (frq q) M) :
    stail { nx := nx, rt := clo M Q, xs := E } [some st, some (frq l), some (frq h), none, none, none] M := by
  unfold stail
  walk_at "dl"
  refine ⟨fun m s M' => ∃ (l' h' : Rat) (ws : List Int) (i4 : Option D), s = [some st, some (frq l'), some (frq h'), some (.own M.length), i4, none] ∧ M' = M ++ [some (ws.map D.int)] ∧ Chn l h 1800 ws l' h' ∧ (0 < l' ∧ l' ≤ h' ∧ qb 1800 l' ∧ qb 1800 h') ∧ cnt 1800 ws.length l' ∧ cnt 1800 ws.length h' ∧ m = l'.den + h'.den,
    ⟨_, l, h, [], none, rfl, rfl, .nil, ⟨l0, lh, ql, qh⟩, .inl rfl, .inl rfl, rfl⟩, ?_⟩
  rintro m s M' ⟨l', h', ws, i4, rfl, rfl, c, ⟨p1, p2, p3, p4⟩, c1, c2, rfl⟩
  have hk : (M ++ [some (ws.map D.int)])[M.length]? = some (some (ws.map D.int)) := by simp
  have wl := cnt_le c1
  walk_at "dl"
  refine ⟨p3.mono (by decide), p4.mono (by decide), ?_⟩
  by_cases cc : h'.floor < -(-l').floor
  · rw [if_pos cc]
    obtain ⟨w0, w1, w2⟩ := no_whole p1 p2 cc
    have t1 := turn_qb p3 w1 (rlt1 p2 w2)
    have t2 := turn_qb p4 (rlt2 w1 p2) w2
    have n1 := turn_num w1
    have n2 := turn_num (rlt2 w1 p2)
    have b1 := below_num (rlt1 p2 w2)
    have b2 := below_num w2
    have wb : ib 1800 l'.floor := Nat.lt_of_le_of_lt floor_le p3.1
    have ne1 : l' - (l'.floor : Rat) ≠ 0 := fun z => by
      have := sub_pos w1
      rw [z] at this
      exact absurd this Rat.lt_irrefl
    have ne2 : h' - (l'.floor : Rat) ≠ 0 := fun z => by
      have := sub_pos (rlt2 w1 p2)
      rw [z] at this
      exact absurd this Rat.lt_irrefl
    have g1 : qb 4000 (l' - (l'.floor : Rat)) := qb_sub p3 (qb_int wb (by decide)) (by decide)
    have g2 : qb 4000 (h' - (l'.floor : Rat)) := qb_sub p4 (qb_int wb (by decide)) (by decide)
    have g3 : qb 4000 (l'.floor : Rat) := (qb_int wb (by decide)).mono (by decide)
    have one : qb 4000 (1 : Rat) := qb_int (i := 1) (ib_one.mono (by decide)) (by decide)
    have i1 := inv_pos1 (sub_pos (rlt2 w1 p2))
    repeat (first | simp only [hk] | walk_at "dl")
    rw [List.length_map]
    refine ⟨p3.mono (by decide), by omega, ⟨p4.mono (by decide), g3⟩, ⟨ne2, one, g2⟩, ⟨p3.mono (by decide), g3⟩, ⟨ne1, one, g1⟩, _, ?_, 1 / (h' - (l'.floor : Rat)), 1 / (l' - (l'.floor : Rat)), ws ++ [l'.floor], _, rfl, ?_, c.snoc w0 wb w1 p2 w2 p3 p4, ⟨i1, inv_le (sub_pos w1) (by grind), t2, t1⟩, ?_, ?_, rfl⟩
    · omega
    · rw [List.map_append]
      simp
    · rw [List.length_append]
      exact cnt_step (rlt2 p1 p2) w0 c2 p4 (rlt2 w1 p2) w2
    · rw [List.length_append]
      exact cnt_step p1 w0 c1 p3 w1 (rlt1 p2 w2)
  · rw [if_neg cc]
    have cl : ((-(-l').floor : Int) : Rat) ≤ h' := Rat.le_floor_iff.mp (by omega)
    have bs := SimP.base p1 cl
    repeat (first | simp only [hk] | walk_at "dl")
    rw [List.length_map]
    refine ⟨p3.mono (by decide), by omega, ?_⟩
    rw [← List.map_reverse]
    refine back_walk l0 lh ws l' h' c _ _ p1 p2 p3 bs fun q s4 s => ?_
    walk_at "dl"
    exact clo_pure rfl (hQ q (s.simp l0) (s.qb l0 lh ql))
theorem vc_simplest_of__0 : ∀ ds M Q E, sp_simplest_of__0 ds M Q E → t_simplest_of__0 { nx := fun _ M' => clo M Q .non M', rt := clo M Q, xs := E } (dstart 6 ds) M := by
  rintro _ M Q E ⟨⟨l, h⟩, rfl, ⟨o, ⟨k1, k2⟩, c⟩, hQ⟩
  change t_simplest_of__0 _ [some (stP (l, h)), none, none, none, none, none] M
  have e : t_simplest_of__0 = (dSeq (dAsg (dVar 0) (gT 2 (gsCons (gN 1) (gsCons (gN 2) gsNil)))) (dSeq (dIf (dNot (dT (dCall sp_lower (dCons (dC c_NOUGHT) (dCons (dVar 1) dNil))))) (dRet (dIfE (dNot (dT (dCall sp_lower (dCons (dVar 2) (dCons (dC c_NOUGHT) dNil))))) (dC c_NOUGHT) (dCall sp_simplest_below__0 (dCons (dVar 0) dNil)))) dNext) stail)) := rfl
  rw [e]
  unfold c_NOUGHT
  dsimp only at k1 k2 c hQ
  walk_at "dl"
  exact ⟨⟨qb_zero (by decide), k1.mono (by decide)⟩, fun z => absurd c z, fun _ => walk_simplest c o k1 k2 hQ⟩
theorem vc_simplest_below : ∀ ds M Q E, sp_simplest_below ds M Q E → t_simplest_below { nx := fun _ M' => Q .non M', rt := Q, xs := E } (dstart 2 ds) M := by
  rintro _ M Q E ⟨⟨l, h⟩, rfl, ⟨o, ⟨k1, k2⟩, c⟩, hQ⟩
  change t_simplest_below _ [some (stP (l, h)), none] M
  unfold t_simplest_below
  dsimp only at k1 k2 c hQ
  walk_at "dl"
  simp only [frq_neg]
  walk_at "dl"
  refine ⟨⟨?_, ⟨qb_neg k2, qb_neg k1⟩, by grind⟩, fun q s b => ?_⟩
  · unfold okS at o ⊢
    dsimp only at o ⊢
    grind
  simp only [frq_neg]
  refine hQ _ ?_ (qb_neg b)
  have z := s.neg
  rw [Rat.neg_neg, Rat.neg_neg] at z
  exact z
theorem vc_simplest_of : ∀ ds M Q E, sp_simplest_of ds M Q E → t_simplest_of { nx := fun _ M' => clo M Q .non M', rt := clo M Q, xs := E } (dstart 6 ds) M := by
  rintro _ M Q E ⟨⟨l, h⟩, rfl, ⟨o, ⟨k1, k2⟩, -⟩, hQ⟩
  change t_simplest_of _ [some (stP (l, h)), none, none, none, none, none] M
  have e : t_simplest_of = (dSeq (dAsg (dVar 0) (gT 2 (gsCons (gN 1) (gsCons (gN 2) gsNil)))) (dSeq (dIf (dNot (dT (dCall sp_lower (dCons (dC c_NOUGHT) (dCons (dVar 1) dNil))))) (dRet (dIfE (dNot (dT (dCall sp_lower (dCons (dVar 2) (dCons (dC c_NOUGHT) dNil))))) (dC c_NOUGHT) (dCall sp_simplest_below (dCons (dVar 0) dNil)))) dNext) stail)) := rfl
  rw [e]
  unfold c_NOUGHT
  dsimp only at k1 k2 hQ
  have z0 : qb 4000 (0 : Rat) := qb_zero (by decide)
  walk_at "dl"
  refine ⟨⟨z0, k1.mono (by decide)⟩, fun c => ?_, fun c => ?_⟩
  · refine ⟨⟨k2.mono (by decide), z0⟩, fun c2 => ?_, fun c2 => ?_⟩
    · refine clo_self (hQ 0 (Simp.zero ?_ ?_) (qb_zero (by decide)))
      · exact Rat.not_lt.mp c
      · exact Rat.not_lt.mp c2
    · exact ⟨⟨o, ⟨k1, k2⟩, c2⟩, fun q s b => clo_self (hQ q s b)⟩
  · exact walk_simplest c o k1 k2 hQ
theorem vc_simplest : ∀ ds M Q E, sp_simplest ds M Q E → t_simplest { nx := fun _ M' => Q .non M', rt := Q, xs := E } (dstart 1 ds) M := by
  rintro _ M Q E ⟨p, rfl, ⟨o, k, -⟩, hQ⟩
  change t_simplest _ [some (stP p)] M
  unfold t_simplest
  walk_at "dl"
  exact ⟨⟨o, k.mono (by decide)⟩, ⟨o, k⟩, hQ⟩
theorem vc__law_drawn_right : ∀ ds M Q E, sp__law_drawn_right ds M Q E → t__law_drawn_right { nx := fun _ M' => Q .non M', rt := Q, xs := E } (dstart 7 ds) M := by
  intro ds M Q E h
  unfold sp__law_drawn_right potTrue at h
  split at h
  · rename_i p
    obtain ⟨hp, hQ⟩ := h
    change t__law_drawn_right _ [some (.own p), none, none, none, none, none, none] M
    unfold t__law_drawn_right
    refine seq_cut (fun s' M' => ∃ a b : Rat, s' = [some (.own p), some (frq a), some (frq b), none, none, none, none] ∧ (qb 20 a ∧ a.den ≤ 40) ∧ (qb 20 b ∧ b.den ≤ 40) ∧ Pot M' p ∧ Fram p M M') ?_ ?_
    · intro K hK
      walk_at "dl"
      refine ⟨⟨by decide, by decide⟩, ?_⟩
      refine compD_of (fun M' => Pot M' p ∧ Fram p M M') (fun d => ∃ q, d = frq q ∧ (qb 20 q ∧ q.den ≤ 40)) _ _ _ ⟨hp, Fram.refl⟩ ?_ ?_
      · intro x hx M' hm R hR
        obtain ⟨pp, ff⟩ := hm
        walk_at "dl"
        refine ⟨⟨pp, ib_lit (by decide) (by decide)⟩, fun r1 M1 a0 a1 p1 f1 => ⟨⟨p1, ib_lit (by decide) (by decide)⟩, fun r2 M2 b0 b1 p2 f2 => ?_⟩⟩
        have i1 : ib 20 (r1 - 80) := by
          unfold ib
          omega
        have i2 : ib 20 (1 + r2) := by
          unfold ib
          omega
        refine ⟨⟨by omega, i1.mono (by decide), i2.mono (by decide)⟩, hR _ _ ⟨_, rfl, qb_div i1 i2 (by decide), ?_⟩ ⟨p2, ff.trans (f1.trans f2)⟩⟩
        rw [Rat.den_divInt, if_neg (by omega)]
        exact Nat.le_trans (Nat.div_le_self _ _) (by omega)
      · intro ys M' hy hl hm
        obtain ⟨pp, ff⟩ := hm
        rw [len_ints] at hl
        match ys, hl, hy with
        | [y1, y2], _, hy =>
          obtain ⟨a, rfl, ha⟩ := hy y1 (by simp)
          obtain ⟨b, rfl, hb⟩ := hy y2 (by simp)
          walk_at "dl"
          exact hK _ _ ⟨a, b, rfl, ha, hb, pp, ff⟩
    rintro _ M1 ⟨a, b, rfl, ⟨qa, da⟩, ⟨qb', db⟩, p1, f1⟩
    refine seq_cut (fun s' M' => ∃ b : Rat, s' = [some (.own p), some (frq a), some (frq b), none, none, none, none] ∧ qb 60 b ∧ Pot M' p ∧ Fram p M M') ?_ ?_
    · intro K hK
      walk_at "dl"
      refine ⟨⟨p1, ib_lit (by decide) (by decide)⟩, fun r M2 r0 r1 p2 f2 => ⟨fun c => ⟨⟨p2, ib_lit (by decide) (by decide)⟩, fun r' M3 c0 c1 p3 f3 => ?_⟩, fun c => hK _ _ ⟨b, rfl, qb'.mono (by decide), p2, f1.trans f2⟩⟩⟩
      have i2 : ib 20 (1 + r') := by
        unfold ib
        omega
      have q2 : qb 20 (Rat.divInt 1 (1 + r')) := qb_div (ib_one.mono (by decide)) i2 (by decide)
      exact ⟨⟨by omega, ib_lit (by decide) (by decide), i2.mono (by decide)⟩, ⟨qa.mono (by decide), q2.mono (by decide)⟩, hK _ _ ⟨_, rfl, qb_add qa q2 (by decide), p3, f1.trans (f2.trans f3)⟩⟩
    rintro _ M2 ⟨b, rfl, qb2, p2, f2⟩
    have qa2 : qb 60 a := qa.mono (by decide)
    refine seq_cut (fun s' M' => ∃ b : Rat, s' = [some (.own p), some (frq a), some (frq b), none, none, none, none] ∧ qb 60 b ∧ Pot M' p ∧ Fram p M M') ?_ ?_
    · intro K hK
      walk_at "dl"
      exact ⟨⟨p2, ib_lit (by decide) (by decide)⟩, fun r M3 r0 r1 p3 f3 => ⟨fun c => hK _ _ ⟨a, rfl, qa2, p3, f2.trans f3⟩, fun c => hK _ _ ⟨b, rfl, qb2, p3, f2.trans f3⟩⟩⟩
    rintro _ M3 ⟨b, rfl, qb3, p3, f3⟩
    refine seq_cut (fun s' M' => M' = M3 ∧ ∃ u : Str2, s' = [some (.own p), some (frq a), some (frq b), some (stP u), none, none, none] ∧ okS u ∧ sb 60 u ∧ u.1 ≤ a ∧ a ≤ u.2) ?_ ?_
    · intro K hK
      walk_at "dl"
      refine ⟨⟨qb3.mono (by decide), qa.mono (by decide)⟩, fun c => ?_, fun c => ?_⟩
      · exact hK _ _ ⟨rfl, (b, a), rfl, Rat.le_of_lt c, ⟨qb3, qa2⟩, Rat.le_of_lt c, Rat.le_refl⟩
      · exact hK _ _ ⟨rfl, (a, b), rfl, Rat.not_lt.mp c, ⟨qa2, qb3⟩, Rat.le_refl, Rat.not_lt.mp c⟩
    rintro _ _ ⟨rfl, ⟨l, h⟩, rfl, o, ⟨kl, kh⟩, ul, uh⟩
    dsimp only at kl kh ul uh
    walk_at "dl"
    refine ⟨⟨o, ⟨kl.mono (by decide), kh.mono (by decide)⟩, a, ul, uh, by omega⟩, fun q s q1 => ?_⟩
    simp only [frq_neg]
    walk_at "dl"
    have s1 := s.1
    have s2 := s.2.1
    rw [decide_eq_false (Rat.not_lt.mpr s1), decide_eq_false (Rat.not_lt.mpr s2)]
    simp only [Bool.not_false, Bool.and_self, decide_true, not_true_eq_false, false_implies, true_and, true_implies, frq_neg]
    have o2 : okS (-h, -l) := by
      unfold okS at o ⊢
      dsimp only at o ⊢
      grind
    have kk : sb 1800 (l, h) := ⟨kl.mono (by decide), kh.mono (by decide)⟩
    have kn : sb 1800 (-h, -l) := ⟨qb_neg (kh.mono (by decide)), qb_neg (kl.mono (by decide))⟩
    refine ⟨⟨o, ⟨kl.mono (by decide), kh.mono (by decide)⟩, q1.mono (by decide)⟩, ⟨o, kk⟩, fun q' s' _ => ⟨⟨o, kk⟩, fun q'' s'' _ => ⟨⟨o2, kn⟩, fun r sr _ => ?_⟩⟩⟩
    cases s.uniq s'
    cases s.uniq s''
    cases sr.uniq s.neg
    rw [decide_eq_true rfl]
    have sh := frq3_shows (a := q) (b := q) (c := -q) (q1.mono (by decide)) (q1.mono (by decide)) (qb_neg (q1.mono (by decide)))
    exact ⟨sh, sh, hQ _ p3 f3⟩
  · exact h.elim
theorem vc__law_minus : ∀ ds M Q E, sp__law_minus ds M Q E → t__law_minus { nx := fun _ M' => Q .non M', rt := Q, xs := E } (dstart 2 ds) M := by
  intro ds M Q E h
  obtain ⟨a, b, rfl, ⟨ha, hb⟩, hQ⟩ := q2_inv h
  change t__law_minus _ [some (frq a), some (frq b)] M
  unfold t__law_minus
  walk_at "dl"
  refine ⟨?_, ?_, ?_, ⟨Int.mul_ne_zero denI denI, ?_, ?_⟩, hQ⟩ <;> walk_at "ib"
theorem vc__law_pick : ∀ ds M Q E, sp__law_pick ds M Q E → t__law_pick { nx := fun _ M' => Q .non M', rt := Q, xs := E } (dstart 2 ds) M := by
  intro ds M Q E h
  unfold sp__law_pick at h
  split at h
  · rename_i p xs
    obtain ⟨⟨hp, h1, h2⟩, hQ⟩ := h
    change t__law_pick _ [some (.own p), some (.lst xs)] M
    unfold t__law_pick
    walk_at "dl"
    refine ⟨⟨hp, by omega, ?_⟩, ?_⟩
    · unfold ib
      have : 2 ^ 17 ≤ 2 ^ 4000 := Nat.pow_le_pow_right (by decide) (by decide)
      omega
    intro r M' r1 r2 hp' hf
    obtain ⟨n, rfl⟩ : ∃ n : Nat, r = (n : Int) := ⟨r.toNat, by omega⟩
    rw [x_atN (show n < xs.length by omega), x_opt1, e_ap1]
    exact hQ _ _ (List.getElem_mem _) hp' hf
  · exact h.elim
theorem vc__law_some : ∀ ds M Q E, sp__law_some ds M Q E → t__law_some { nx := fun _ M' => Q .non M', rt := Q, xs := E } (dstart 2 ds) M := by
  intro ds M Q E h
  unfold sp__law_some at h
  split at h
  · rename_i p
    obtain ⟨hp, hQ⟩ := h
    change t__law_some _ [some (.own p), none] M
    unfold t__law_some
    walk_at "dl"
    refine ⟨⟨hp, ib_lit (by decide) (by decide)⟩, fun r M1 r0 r1 p1 f1 => ⟨fun c => ?_, fun c => ?_⟩⟩
    · refine ⟨⟨sz_lit (by decide), sz_lit (by decide)⟩, ⟨p1, by decide, ib_lit (by decide) (by decide)⟩, fun r2 M2 a0 a1 p2 f2 => ⟨⟨p2, by decide, ib_lit (by decide) (by decide)⟩, fun r3 M3 b0 b1 p3 f3 => ?_⟩⟩
      have i1 : ib 42 (r2 - 10 ^ 12) := by
        unfold ib
        omega
      have i2 : ib 42 (1 + r3) := by
        unfold ib
        omega
      exact ⟨⟨by omega, i1.mono (by decide), i2.mono (by decide)⟩, hQ _ _ (qb_div i1 i2 (by decide)) p3 (f1.trans (f2.trans f3))⟩
    · refine ⟨⟨p1, ib_lit (by decide) (by decide)⟩, fun r2 M2 a0 a1 p2 f2 => ⟨fun c2 => ⟨⟨p2, ib_lit (by decide) (by decide)⟩, fun r3 M3 b0 b1 p3 f3 => ?_⟩, fun c2 => ?_⟩⟩
      · have i1 : ib 42 (r2 - 40) := by
          unfold ib
          omega
        have i2 : ib 42 (1 + r3) := by
          unfold ib
          omega
        exact ⟨⟨by omega, i1.mono (by decide), i2.mono (by decide)⟩, hQ _ _ (qb_div i1 i2 (by decide)) p3 (f1.trans (f2.trans f3))⟩
      · refine ⟨p2, fun d M3 hd p3 f3 => ?_⟩
        obtain ⟨e, rfl, e1, e2⟩ : ∃ e : Int, d = .int e ∧ 1 ≤ e ∧ e ≤ 4 := by
          simp only [List.mem_cons, List.not_mem_nil, or_false] at hd
          rcases hd with rfl | rfl | rfl <;> exact ⟨_, rfl, by decide, by decide⟩
        walk_at "dl"
        have i1 : ib 42 (r2 - 40) := by
          unfold ib
          omega
        have i2 : ib 42 e := by
          unfold ib
          omega
        exact ⟨⟨by omega, i1.mono (by decide), i2.mono (by decide)⟩, hQ _ _ (qb_div i1 i2 (by decide)) p3 (f1.trans (f2.trans f3))⟩
  · exact h.elim
theorem vc__law_great_right : ∀ ds M Q E, sp__law_great_right ds M Q E → t__law_great_right { nx := fun _ M' => Q .non M', rt := Q, xs := E } (dstart 7 ds) M := by
  intro ds M Q E h
  unfold sp__law_great_right potTrue at h
  split at h
  · rename_i p
    obtain ⟨hp, hQ⟩ := h
    change t__law_great_right _ [some (.own p), none, none, none, none, none, none] M
    unfold t__law_great_right
    walk_at "dl"
    refine ⟨⟨hp, by decide, ib_lit (by decide) (by decide)⟩, fun r1 M1 a0 a1 p1 f1 => ⟨⟨sz_lit (by decide), sz_lit (by decide)⟩, ⟨p1, by decide, ib_lit (by decide) (by decide)⟩, fun r2 M2 b0 b1 p2 f2 => ?_⟩⟩
    have i1 : ib 40 (r2 - 10 ^ 9) := by
      unfold ib
      omega
    have i2 : ib 40 (60 + r1) := by
      unfold ib
      omega
    refine ⟨⟨by omega, i1.mono (by decide), i2.mono (by decide)⟩, p2, fun pt M3 hpt p3 f3 => ⟨⟨sz_lit (by decide), sz_lit (by decide)⟩, ⟨p3, by decide, ib_lit (by decide) (by decide)⟩, fun r4 M4 c0 c1 p4 f4 => ⟨⟨sz_lit (by decide), sz_lit (by decide)⟩, ⟨p4, by decide, ib_lit (by decide) (by decide)⟩, fun r5 M5 d0 d1 p5 f5 => ?_⟩⟩⟩
    have j4 : ib 50 (4 * 10 ^ 10 + r4) := by
      unfold ib
      omega
    have j5 : ib 50 (4 * 10 ^ 10 + r5) := by
      unfold ib
      omega
    rw [frq_one (n := 4 * 10 ^ 10 + r4) (by omega), frq_one (n := 4 * 10 ^ 10 + r5) (by omega)]
    have dq : (Rat.divInt (r2 - 10 ^ 9) (60 + r1)).den ≤ 100059 := by
      rw [Rat.den_divInt, if_neg (by omega)]
      exact Nat.le_trans (Nat.div_le_self _ _) (by omega)
    have dqb := qb_div i1 i2 (by decide)
    have n4 := far_lt (n := 4 * 10 ^ 10 + r4) (by omega)
    have n5 := far_lt (n := 4 * 10 ^ 10 + r5) (by omega)
    have q4 := qb_div (k := 50) (ib_one.mono (by decide)) j4 (by decide)
    have q5 := qb_div (k := 50) (ib_one.mono (by decide)) j5 (by decide)
    generalize Rat.divInt (r2 - 10 ^ 9) (60 + r1) = q at *
    generalize Rat.divInt 1 (4 * 10 ^ 10 + r4) = u at *
    generalize Rat.divInt 1 (4 * 10 ^ 10 + r5) = v at *
    have sm : Simp (q - u) (q + v) q := by
      refine Simp.narrow (by grind) (by grind) ?_ ?_
      · rw [show q - (q - u) = u by grind]
        exact far_sq dq n4.1 n4.2
      · rw [show q + v - q = v by grind]
        exact far_sq dq n5.1 n5.2
    walk_at "dl"
    refine ⟨⟨dqb.mono (by decide), q4.mono (by decide)⟩, ⟨dqb.mono (by decide), q5.mono (by decide)⟩, ⟨?_, qb_sub dqb q4 (by decide), qb_add dqb q5 (by decide)⟩, fun q' s' _ => ⟨⟨Rat.le_refl, hpt.mono (by decide), hpt.mono (by decide)⟩, fun r' sr _ => ?_⟩⟩
    · unfold okS
      dsimp only
      exact Rat.le_trans sm.1 sm.2.1
    cases sm.uniq s'
    cases sr.point
    rw [decide_eq_true rfl]
    have sh := frq2_shows (a := q) (b := pt) (dqb.mono (by decide)) (hpt.mono (by decide))
    exact ⟨sh, sh, hQ _ p5 (f1.trans (f2.trans (f3.trans (f4.trans f5))))⟩
  · exact h.elim
theorem vc__law_narrow_right : ∀ ds M Q E, sp__law_narrow_right ds M Q E → t__law_narrow_right { nx := fun _ M' => Q .non M', rt := Q, xs := E } (dstart 8 ds) M := by
  intro ds M Q E h
  unfold sp__law_narrow_right potTrue at h
  split at h
  · rename_i p
    obtain ⟨hp, hQ⟩ := h
    change t__law_narrow_right _ [some (.own p), none, none, none, none, none, none, none] M
    unfold t__law_narrow_right
    walk_at "dl"
    refine ⟨⟨hp, ib_lit (by decide) (by decide)⟩, fun r1 M1 a0 a1 p1 f1 => ⟨⟨sz_lit (by decide), sz_lit (by decide)⟩, ⟨p1, by decide, ib_lit (by decide) (by decide)⟩, fun r2 M2 b0 b1 p2 f2 => ?_⟩⟩
    have i1 : ib 30 (r2 - 10 ^ 6) := by
      unfold ib
      omega
    have i2 : ib 30 (2 + r1) := by
      unfold ib
      omega
    refine ⟨⟨by omega, i1.mono (by decide), i2.mono (by decide)⟩, p2, fun d M3 hd p3 f3 => ?_⟩
    obtain ⟨e, rfl, e1, e2⟩ : ∃ e : Int, d = .int e ∧ 1 ≤ e ∧ e ≤ 10 ^ 15 := by
      simp only [List.mem_cons, List.not_mem_nil, or_false] at hd
      rcases hd with rfl | rfl | rfl <;> exact ⟨_, rfl, by decide, by decide⟩
    have ie : ib 60 e := by
      unfold ib
      omega
    have ie2 : ib 80 (e * 3600) := by
      unfold ib
      omega
    walk_at "dl"
    refine ⟨⟨p3, e1, ie.mono (by decide)⟩, fun r4 M4 c0 c1 p4 f4 => ⟨⟨sz_ib ie (by decide), sz_small (by decide)⟩, ⟨by omega, ?_, ie2.mono (by decide)⟩, ⟨p4, e1, ie.mono (by decide)⟩, fun r5 M5 d0 d1 p5 f5 => ⟨⟨sz_ib ie (by decide), sz_small (by decide)⟩, ⟨by omega, ?_, ie2.mono (by decide)⟩, ?_⟩⟩⟩
    · unfold ib
      omega
    · unfold ib
      omega
    have j4 : ib 80 r4 := by
      unfold ib
      omega
    have j5 : ib 80 r5 := by
      unfold ib
      omega
    have dq : (Rat.divInt (r2 - 10 ^ 6) (2 + r1)).den ≤ 59 := by
      rw [Rat.den_divInt, if_neg (by omega)]
      exact Nat.le_trans (Nat.div_le_self _ _) (by omega)
    have dqb := qb_div i1 i2 (by decide)
    have n4 := near_lt c0 c1 (by omega : 0 < e)
    have n5 := near_lt d0 d1 (by omega : 0 < e)
    have q4 := qb_div j4 ie2 (by decide)
    have q5 := qb_div j5 ie2 (by decide)
    generalize Rat.divInt (r2 - 10 ^ 6) (2 + r1) = q at *
    generalize Rat.divInt r4 (e * 3600) = u at *
    generalize Rat.divInt r5 (e * 3600) = v at *
    have sm : Simp (q - u) (q + v) q := by
      refine Simp.narrow (by grind) (by grind) ?_ ?_
      · rw [show q - (q - u) = u by grind]
        exact near_sq dq n4.1 n4.2
      · rw [show q + v - q = v by grind]
        exact near_sq dq n5.1 n5.2
    refine ⟨⟨dqb.mono (by decide), q4.mono (by decide)⟩, ⟨dqb.mono (by decide), q5.mono (by decide)⟩, ⟨?_, qb_sub dqb q4 (by decide), qb_add dqb q5 (by decide)⟩, fun q' s' _ => ?_⟩
    · unfold okS
      dsimp only
      exact Rat.le_trans sm.1 sm.2.1
    cases sm.uniq s'
    rw [decide_eq_true rfl]
    have sh := frq_shows (q := q) (dqb.mono (by decide))
    exact ⟨sh.2, sh.2, hQ _ p5 (f1.trans (f2.trans (f3.trans (f4.trans f5))))⟩
  · exact h.elim
theorem vc__law_pot : ∀ ds M Q E, sp__law_pot ds M Q E → t__law_pot { nx := fun _ M' => Q .non M', rt := Q, xs := E } (dstart 3 ds) M := by
  intro ds M Q E h
  unfold sp__law_pot at h
  split at h
  · rename_i xs k
    obtain ⟨⟨h1, ⟨ns, rfl⟩, h3, h4⟩, hQ⟩ := h
    change t__law_pot _ [some (.wl (ns.map D.int)), some (.int k), none] M
    obtain ⟨n, rfl⟩ : ∃ n : Nat, k = (n : Int) := ⟨k.toNat, by omega⟩
    have fin : ∀ cell : Int, (sz (cell.fmod 2147483549) ∧ sz 40692) ∧ (sz 1213 ∧ sz (n : Int)) ∧
        Q (D.own (List.length M)) (M ++ [some [D.int (if cell - 10 ^ 18 > 0 then cell - 10 ^ 18 else 0), D.int ((cell.fmod 2147483549 * 40692 + 1213 * (n : Int) + 913).fmod 2147483563 + 1)]]) := by
      intro cell
      have z1 := Int.fmod_nonneg_of_pos cell (b := 2147483549) (by decide)
      have z2 := Int.fmod_lt_of_pos cell (b := 2147483549) (by decide)
      have z3 := Int.fmod_nonneg_of_pos (cell.fmod 2147483549 * 40692 + 1213 * (n : Int) + 913) (b := 2147483563) (by decide)
      have z4 := Int.fmod_lt_of_pos (cell.fmod 2147483549 * 40692 + 1213 * (n : Int) + 913) (b := 2147483563) (by decide)
      exact ⟨⟨sz_small (by omega), sz_small (by decide)⟩, ⟨sz_small (by decide), sz_small (by omega)⟩, hQ _ _ (by split <;> omega) (by omega) (by omega)⟩
    unfold t__law_pot
    walk_at "dl"
    have hlen : (ns.map D.int).length = ns.length := List.length_map ..
    simp only [hlen]
    refine ⟨fun c => ?_, fun c => ?_⟩
    · have hat : atD (ns.map D.int) (n : Int) = some (D.int (ns[n]'(by omega))) := by
        rw [x_atN (show n < (ns.map D.int).length by omega), List.getElem_map]
      simp only [hat]
      walk_at "dl"
      generalize (if ns[n] < 0 then -ns[n] else ns[n]) = cell
      exact fin cell
    · exact ⟨⟨sz_small (by decide), sz_small (by omega)⟩, fin _⟩
  · exact h.elim
theorem vc_law : ∀ ds M Q E, sp_law ds M Q E → t_law { nx := fun _ M' => Q .non M', rt := Q, xs := E } (dstart 4 ds) M := by
  intro ds M Q E h
  unfold sp_law lawTrue at h
  split at h
  · rename_i xs
    obtain ⟨⟨hl, ns, rfl⟩, hQ⟩ := h
    change t_law _ [some (.wl (ns.map D.int)), none, none, none] M
    unfold t_law
    walk_at "dl"
    generalize hm : (if (if ↑(List.map D.int ns).length < (4 : Int) then (↑(List.map D.int ns).length : Int) else 4) > 1 then if ↑(List.map D.int ns).length < (4 : Int) then (↑(List.map D.int ns).length : Int) else 4 else 1) = m
    have hm1 : 1 ≤ m ∧ m ≤ 4 := by
      rw [← hm]
      split <;> (try split) <;> omega
    refine ⟨⟨by omega, by omega, by omega⟩, ?_⟩
    refine forD_of (fun s _ => ∃ a b c, s = [some (.wl (ns.map D.int)), a, b, c]) _ _ _ ⟨_, _, _, rfl⟩ ?_ ?_
    · intro x hx s M1 hi nx hnx
      obtain ⟨a, b, c, rfl⟩ := hi
      obtain ⟨i, rfl, h1, h2⟩ := mem_ints hx
      walk_at "dl"
      refine ⟨⟨hl, ⟨ns, rfl⟩, by omega, by omega⟩, fun a b h1 h2 h3 => ?_⟩
      walk_at "dl"
      refine ⟨⟨by decide, by decide⟩, ?_⟩
      refine compD_of (fun M' => Pot M' M1.length) (fun d => d = .bl true) _ _ _ (pot_new h1 h2 h3) ?_ ?_
      · intro x hx M' hp R hR
        walk_at "dl"
        exact ⟨hp, fun M3 p3 _ => hR _ _ rfl p3⟩
      · intro ys M' hy _ hp
        rw [all_true hy]
        walk_at "dl"
        exact ⟨hp, fun M3 p3 _ => ⟨p3, fun M4 p4 _ => hnx _ _ ⟨_, _, _, rfl⟩⟩⟩
    · intro s M1 hi
      walk_at "dl"
      exact hQ _
  · exact h.elim
theorem law_here : ∀ (ns : List Int) (M : Sto) (Q : DK) (E : DXK), ns.length ≤ 63 → (∀ M', Q (.bl true) M') → sp_law [.wl (ns.map D.int)] M Q E := by
  intro ns M Q E h hQ
  exact ⟨⟨by rw [List.length_map]; exact h, ns, rfl⟩, hQ⟩
end K11
/-! derivations; printed by gen.py -/
namespace K11
open PySem PySem.Spec PyProof.Rows L2 DL
def top (i : Nat) : Stmt := PySem.Challenge.pw_surelyheld_k11_whole_simplest_fractions.main.body.getD i (.Pass ⟨0, 0, 0, 0⟩)
abbrev s__law_draw : Stmt := top 26
abbrev N__law_draw : List Str := ["pot", "many", "digit"]
theorem sc__law_draw : FnScope N__law_draw ["pot", "many"] (defScope s__law_draw) := ⟨rfl, rfl, rfl, by decide +kernel, rfl, by decide +kernel, by decide +kernel⟩
abbrev s__law_gcd : Stmt := top 28
abbrev N__law_gcd : List Str := ["one", "other"]
theorem sc__law_gcd : FnScope N__law_gcd ["one", "other"] (defScope s__law_gcd) := ⟨rfl, rfl, rfl, by decide +kernel, rfl, by decide +kernel, by decide +kernel⟩
abbrev s__law_made : Stmt := top 29
abbrev N__law_made : List Str := ["above", "below", "whole"]
theorem sc__law_made : FnScope N__law_made ["above", "below"] (defScope s__law_made) := ⟨rfl, rfl, rfl, by decide +kernel, rfl, by decide +kernel, by decide +kernel⟩
abbrev s__law_due : Stmt := top 40
abbrev N__law_due : List Str := ["stretch", "low", "high", "below", "first", "last", "above"]
theorem sc__law_due : FnScope N__law_due ["stretch"] (defScope s__law_due) := ⟨rfl, rfl, rfl, by decide +kernel, rfl, by decide +kernel, by decide +kernel⟩
abbrev s__law_lower : Stmt := top 30
abbrev N__law_lower : List Str := ["a", "b"]
theorem sc__law_lower : FnScope N__law_lower ["a", "b"] (defScope s__law_lower) := ⟨rfl, rfl, rfl, by decide +kernel, rfl, by decide +kernel, by decide +kernel⟩
abbrev s__law_plus : Stmt := top 31
abbrev N__law_plus : List Str := ["a", "b"]
theorem sc__law_plus : FnScope N__law_plus ["a", "b"] (defScope s__law_plus) := ⟨rfl, rfl, rfl, by decide +kernel, rfl, by decide +kernel, by decide +kernel⟩
abbrev s_lower : Stmt := top 10
abbrev N_lower : List Str := ["a", "b"]
theorem sc_lower : FnScope N_lower ["a", "b"] (defScope s_lower) := ⟨rfl, rfl, rfl, by decide +kernel, rfl, by decide +kernel, by decide +kernel⟩
abbrev s_is_integer : Stmt := top 6
abbrev N_is_integer : List Str := ["value"]
theorem sc_is_integer : FnScope N_is_integer ["value"] (defScope s_is_integer) := ⟨rfl, rfl, rfl, by decide +kernel, rfl, by decide +kernel, by decide +kernel⟩
abbrev s_is_fraction : Stmt := top 15
abbrev N_is_fraction : List Str := ["value"]
theorem sc_is_fraction : FnScope N_is_fraction ["value"] (defScope s_is_fraction) := ⟨rfl, rfl, rfl, by decide +kernel, rfl, by decide +kernel, by decide +kernel⟩
abbrev s_want_fraction : Stmt := top 16
abbrev N_want_fraction : List Str := ["value"]
theorem sc_want_fraction : FnScope N_want_fraction ["value"] (defScope s_want_fraction) := ⟨rfl, rfl, rfl, by decide +kernel, rfl, by decide +kernel, by decide +kernel⟩
abbrev s_is_stretch : Stmt := top 18
abbrev N_is_stretch : List Str := ["value"]
theorem sc_is_stretch : FnScope N_is_stretch ["value"] (defScope s_is_stretch) := ⟨rfl, rfl, rfl, by decide +kernel, rfl, by decide +kernel, by decide +kernel⟩
abbrev s_want_stretch : Stmt := top 19
abbrev N_want_stretch : List Str := ["value"]
theorem sc_want_stretch : FnScope N_want_stretch ["value"] (defScope s_want_stretch) := ⟨rfl, rfl, rfl, by decide +kernel, rfl, by decide +kernel, by decide +kernel⟩
abbrev s_is_in : Stmt := top 22
abbrev N_is_in : List Str := ["stretch", "a"]
theorem sc_is_in : FnScope N_is_in ["stretch", "a"] (defScope s_is_in) := ⟨rfl, rfl, rfl, by decide +kernel, rfl, by decide +kernel, by decide +kernel⟩
abbrev s_ceiling_of : Stmt := top 14
abbrev N_ceiling_of : List Str := ["a"]
theorem sc_ceiling_of : FnScope N_ceiling_of ["a"] (defScope s_ceiling_of) := ⟨rfl, rfl, rfl, by decide +kernel, rfl, by decide +kernel, by decide +kernel⟩
abbrev s_floor_of : Stmt := top 13
abbrev N_floor_of : List Str := ["a"]
theorem sc_floor_of : FnScope N_floor_of ["a"] (defScope s_floor_of) := ⟨rfl, rfl, rfl, by decide +kernel, rfl, by decide +kernel, by decide +kernel⟩
abbrev s_fraction : Stmt := top 9
abbrev N_fraction : List Str := ["above", "below", "shared"]
theorem sc_fraction : FnScope N_fraction ["above", "below"] (defScope s_fraction) := ⟨rfl, rfl, rfl, by decide +kernel, rfl, by decide +kernel, by decide +kernel⟩
abbrev s_parted : Stmt := top 12
abbrev N_parted : List Str := ["a", "b"]
theorem sc_parted : FnScope N_parted ["a", "b"] (defScope s_parted) := ⟨rfl, rfl, rfl, by decide +kernel, rfl, by decide +kernel, by decide +kernel⟩
abbrev s_taken : Stmt := top 11
abbrev N_taken : List Str := ["a", "b"]
theorem sc_taken : FnScope N_taken ["a", "b"] (defScope s_taken) := ⟨rfl, rfl, rfl, by decide +kernel, rfl, by decide +kernel, by decide +kernel⟩
abbrev s_simplest_below : Stmt := top 21
abbrev N_simplest_below : List Str := ["stretch", "found"]
theorem sc_simplest_below : FnScope N_simplest_below ["stretch"] (defScope s_simplest_below) := ⟨rfl, rfl, rfl, by decide +kernel, rfl, by decide +kernel, by decide +kernel⟩
abbrev s_simplest_of : Stmt := top 20
abbrev N_simplest_of : List Str := ["stretch", "low", "high", "parts", "whole", "found"]
theorem sc_simplest_of : FnScope N_simplest_of ["stretch"] (defScope s_simplest_of) := ⟨rfl, rfl, rfl, by decide +kernel, rfl, by decide +kernel, by decide +kernel⟩
abbrev s_simplest : Stmt := top 23
abbrev N_simplest : List Str := ["stretch"]
theorem sc_simplest : FnScope N_simplest ["stretch"] (defScope s_simplest) := ⟨rfl, rfl, rfl, by decide +kernel, rfl, by decide +kernel, by decide +kernel⟩
abbrev s__law_drawn_right : Stmt := top 41
abbrev N__law_drawn_right : List Str := ["pot", "one", "other", "stretch", "due", "far", "turn"]
theorem sc__law_drawn_right : FnScope N__law_drawn_right ["pot"] (defScope s__law_drawn_right) := ⟨rfl, rfl, rfl, by decide +kernel, rfl, by decide +kernel, by decide +kernel⟩
abbrev s__law_minus : Stmt := top 32
abbrev N__law_minus : List Str := ["a", "b"]
theorem sc__law_minus : FnScope N__law_minus ["a", "b"] (defScope s__law_minus) := ⟨rfl, rfl, rfl, by decide +kernel, rfl, by decide +kernel, by decide +kernel⟩
abbrev s__law_pick : Stmt := top 27
abbrev N__law_pick : List Str := ["pot", "some"]
theorem sc__law_pick : FnScope N__law_pick ["pot", "some"] (defScope s__law_pick) := ⟨rfl, rfl, rfl, by decide +kernel, rfl, by decide +kernel, by decide +kernel⟩
abbrev s__law_some : Stmt := top 37
abbrev N__law_some : List Str := ["pot", "way"]
theorem sc__law_some : FnScope N__law_some ["pot"] (defScope s__law_some) := ⟨rfl, rfl, rfl, by decide +kernel, rfl, by decide +kernel, by decide +kernel⟩
abbrev s__law_great_right : Stmt := top 43
abbrev N__law_great_right : List Str := ["pot", "below", "due", "point", "near", "far", "stretch"]
theorem sc__law_great_right : FnScope N__law_great_right ["pot"] (defScope s__law_great_right) := ⟨rfl, rfl, rfl, by decide +kernel, rfl, by decide +kernel, by decide +kernel⟩
abbrev s__law_narrow_right : Stmt := top 42
abbrev N__law_narrow_right : List Str := ["pot", "below", "above", "due", "parts", "near", "far", "stretch"]
theorem sc__law_narrow_right : FnScope N__law_narrow_right ["pot"] (defScope s__law_narrow_right) := ⟨rfl, rfl, rfl, by decide +kernel, rfl, by decide +kernel, by decide +kernel⟩
abbrev s__law_pot : Stmt := top 25
abbrev N__law_pot : List Str := ["script", "k", "cell"]
theorem sc__law_pot : FnScope N__law_pot ["script", "k"] (defScope s__law_pot) := ⟨rfl, rfl, rfl, by decide +kernel, rfl, by decide +kernel, by decide +kernel⟩
abbrev s_law : Stmt := top 44
abbrev N_law : List Str := ["script", "k", "pot", "turn"]
theorem sc_law : FnScope N_law ["script"] (defScope s_law) := ⟨rfl, rfl, rfl, by decide +kernel, rfl, by decide +kernel, by decide +kernel⟩
abbrev FnP (K : PySem.W.Frag) (x : Str) (st : Stmt) (fd : FuncData) : Prop := FunD K x x (defArgs st) (defBody st) (defScope st) [] [] (He.ga K x) fd
structure Tx (K : PySem.W.Frag) (mg : Str → Option Value) : Prop where
  d__law_draw : ∃ fd, FnP K "_law_draw" s__law_draw fd
  g__law_draw : mg "_law_draw" = some (.ref (He.ga K "_law_draw"))
  d__law_gcd : ∃ fd, FnP K "_law_gcd" s__law_gcd fd
  g__law_gcd : mg "_law_gcd" = some (.ref (He.ga K "_law_gcd"))
  d__law_made : ∃ fd, FnP K "_law_made" s__law_made fd
  g__law_made : mg "_law_made" = some (.ref (He.ga K "_law_made"))
  d__law_due : ∃ fd, FnP K "_law_due" s__law_due fd
  g__law_due : mg "_law_due" = some (.ref (He.ga K "_law_due"))
  d__law_lower : ∃ fd, FnP K "_law_lower" s__law_lower fd
  g__law_lower : mg "_law_lower" = some (.ref (He.ga K "_law_lower"))
  d__law_plus : ∃ fd, FnP K "_law_plus" s__law_plus fd
  g__law_plus : mg "_law_plus" = some (.ref (He.ga K "_law_plus"))
  d_lower : ∃ fd, FnP K "lower" s_lower fd
  g_lower : mg "lower" = some (.ref (He.ga K "lower"))
  d_is_integer : ∃ fd, FnP K "is_integer" s_is_integer fd
  g_is_integer : mg "is_integer" = some (.ref (He.ga K "is_integer"))
  d_is_fraction : ∃ fd, FnP K "is_fraction" s_is_fraction fd
  g_is_fraction : mg "is_fraction" = some (.ref (He.ga K "is_fraction"))
  d_want_fraction : ∃ fd, FnP K "want_fraction" s_want_fraction fd
  g_want_fraction : mg "want_fraction" = some (.ref (He.ga K "want_fraction"))
  d_is_stretch : ∃ fd, FnP K "is_stretch" s_is_stretch fd
  g_is_stretch : mg "is_stretch" = some (.ref (He.ga K "is_stretch"))
  d_want_stretch : ∃ fd, FnP K "want_stretch" s_want_stretch fd
  g_want_stretch : mg "want_stretch" = some (.ref (He.ga K "want_stretch"))
  d_is_in : ∃ fd, FnP K "is_in" s_is_in fd
  g_is_in : mg "is_in" = some (.ref (He.ga K "is_in"))
  d_ceiling_of : ∃ fd, FnP K "ceiling_of" s_ceiling_of fd
  g_ceiling_of : mg "ceiling_of" = some (.ref (He.ga K "ceiling_of"))
  d_floor_of : ∃ fd, FnP K "floor_of" s_floor_of fd
  g_floor_of : mg "floor_of" = some (.ref (He.ga K "floor_of"))
  d_fraction : ∃ fd, FnP K "fraction" s_fraction fd
  g_fraction : mg "fraction" = some (.ref (He.ga K "fraction"))
  d_parted : ∃ fd, FnP K "parted" s_parted fd
  g_parted : mg "parted" = some (.ref (He.ga K "parted"))
  d_taken : ∃ fd, FnP K "taken" s_taken fd
  g_taken : mg "taken" = some (.ref (He.ga K "taken"))
  d_simplest_below : ∃ fd, FnP K "simplest_below" s_simplest_below fd
  g_simplest_below : mg "simplest_below" = some (.ref (He.ga K "simplest_below"))
  d_simplest_of : ∃ fd, FnP K "simplest_of" s_simplest_of fd
  g_simplest_of : mg "simplest_of" = some (.ref (He.ga K "simplest_of"))
  d_simplest : ∃ fd, FnP K "simplest" s_simplest fd
  g_simplest : mg "simplest" = some (.ref (He.ga K "simplest"))
  d__law_drawn_right : ∃ fd, FnP K "_law_drawn_right" s__law_drawn_right fd
  g__law_drawn_right : mg "_law_drawn_right" = some (.ref (He.ga K "_law_drawn_right"))
  d__law_minus : ∃ fd, FnP K "_law_minus" s__law_minus fd
  g__law_minus : mg "_law_minus" = some (.ref (He.ga K "_law_minus"))
  d__law_pick : ∃ fd, FnP K "_law_pick" s__law_pick fd
  g__law_pick : mg "_law_pick" = some (.ref (He.ga K "_law_pick"))
  d__law_some : ∃ fd, FnP K "_law_some" s__law_some fd
  g__law_some : mg "_law_some" = some (.ref (He.ga K "_law_some"))
  d__law_great_right : ∃ fd, FnP K "_law_great_right" s__law_great_right fd
  g__law_great_right : mg "_law_great_right" = some (.ref (He.ga K "_law_great_right"))
  d__law_narrow_right : ∃ fd, FnP K "_law_narrow_right" s__law_narrow_right fd
  g__law_narrow_right : mg "_law_narrow_right" = some (.ref (He.ga K "_law_narrow_right"))
  d__law_pot : ∃ fd, FnP K "_law_pot" s__law_pot fd
  g__law_pot : mg "_law_pot" = some (.ref (He.ga K "_law_pot"))
  d_law : ∃ fd, FnP K "law" s_law fd
  g_law : mg "law" = some (.ref (He.ga K "law"))
  n_abs : mg "abs" = none
  n_all : mg "all" = none
  n_bool : mg "bool" = none
  n_divmod : mg "divmod" = none
  n_int : mg "int" = none
  n_isinstance : mg "isinstance" = none
  n_len : mg "len" = none
  n_max : mg "max" = none
  n_min : mg "min" = none
  n_range : mg "range" = none
  n_repr : mg "repr" = none
  n_tuple : mg "tuple" = none
  g_NOUGHT : mg "NOUGHT" = some (.ref (He.ga K "NOUGHT"))
  d_NOUGHT : ∀ W, DatR K W c_NOUGHT (.ref (He.ga K "NOUGHT"))
  g_gcd : mg "gcd" = some (.builtin "math.gcd")
variable {P : Program} {w : World} {K : PySem.W.Frag} {mg : Str → Option Value} {base : Heap}
theorem Tx.r_NOUGHT (T : Tx K mg) : RelV (.ref (He.ga K "NOUGHT")) (.ref (He.ga K "NOUGHT")) := rfl
theorem ok__law_draw (T : Tx K mg)  : Kn P w K mg base 1 "_law_draw" ["pot", "many"] sp__law_draw := by
  obtain ⟨fd, F⟩ := T.d__law_draw
  have nd := sc__law_draw.nd
  have G : FnG P w K mg base CX0 (0 + 1) (He.ga K "_law_draw") fd ["pot", "many"] (lSp K mg sp__law_draw) := dfnG (t := t__law_draw) F sc__law_draw k__law_draw.len (fun cdv A outer s H E gd hr =>
    (dss_cons (ds_if (dt_cmp op_gt s_gt (de_ix ix_seq s_ix (dv 0) de_int) de_int (nomark _)) (dss_cons (ds_asg (de_callB c_divmod s_divmod (by rfl) T.n_divmod (by decide +kernel) (da_cons (de_ix ix_seq s_ix (dv 0) de_int) (da_cons (dv 1) da_nil))) (dg_tup rfl (dgs_cons (dg_ix (dv 0) de_int) (dgs_cons (dg_name (i := 2) nd rfl (by first | exact Or.inl rfl | exact Or.inr rfl)) dgs_nil)))) (dss_one (ds_ret (dv 2)))) dss_nil) (dss_cons (ds_asg (de_bin op_modN s_mod (de_callTy call_int1 s_int1c (by rfl) T.n_int (by decide +kernel) (da_cons (de_bin o_add s_add (de_bin o_mul s_mul (de_ix ix_seq s_ix (dv 0) de_int) de_int) de_int) da_nil)) de_int) (dg_ix (dv 0) de_int)) (dss_one (ds_ret (de_bin op_modN s_mod (de_callTy call_int1 s_int1c (by rfl) T.n_int (by decide +kernel) (da_cons (de_bin o_div s_div (de_bin op_modN s_mod (de_callTy call_int1 s_int1c (by rfl) T.n_int (by decide +kernel) (da_cons (de_bin o_mul s_mul (de_ix ix_seq s_ix (dv 0) de_int) (de_ix ix_seq s_ix (dv 0) de_int)) da_nil)) de_int) de_int) da_nil)) (dv 1))))))) vc__law_draw k__law_draw.nx
  exact ⟨⟨_, fd, G, T.g__law_draw, F.kp, F.bindsN (ps := ["pot", "many"]) (fun _ _ _ _ _ _ us hl => match us, hl with | [_, _], _ => rfl), FunD.at_ F⟩, k__law_draw.ms⟩
theorem ok__law_gcd (T : Tx K mg)  : Kn P w K mg base 1 "_law_gcd" ["one", "other"] sp__law_gcd := by
  obtain ⟨fd, F⟩ := T.d__law_gcd
  have nd := sc__law_gcd.nd
  have G : FnG P w K mg base CX0 (0 + 1) (He.ga K "_law_gcd") fd ["one", "other"] (lSp K mg sp__law_gcd) := dfnG (t := t__law_gcd) F sc__law_gcd k__law_gcd.len (fun cdv A outer s H E gd hr =>
    (dss_cons (ds_while PassesOwn.never (dt_cmp (o_ne hr.units) s_ne (dv 1) de_int (nomark _)) (dss_one (ds_par (i := 0) (j := 1) rfl nd rfl rfl (by decide) rfl rfl (da_cons (dv 1) (da_cons (de_bin op_modN s_mod (de_callTy call_int1 s_int1c (by rfl) T.n_int (by decide +kernel) (da_cons (dv 0) da_nil)) (dv 1)) da_nil)) (by rfl)))) (dss_one (ds_ret (de_callB call_abs s_abs (by rfl) T.n_abs (by decide +kernel) (da_cons (dv 0) da_nil)))))) vc__law_gcd k__law_gcd.nx
  exact ⟨⟨_, fd, G, T.g__law_gcd, F.kp, F.bindsN (ps := ["one", "other"]) (fun _ _ _ _ _ _ us hl => match us, hl with | [_, _], _ => rfl), FunD.at_ F⟩, k__law_gcd.ms⟩
theorem ok__law_made (T : Tx K mg) (F__law_gcd : Kn P w K mg base 1 "_law_gcd" ["one", "other"] sp__law_gcd) : Kn P w K mg base 2 "_law_made" ["above", "below"] sp__law_made := by
  obtain ⟨fd, F⟩ := T.d__law_made
  have nd := sc__law_made.nd
  have G : FnG P w K mg base CX0 (1 + 1) (He.ga K "_law_made") fd ["above", "below"] (lSp K mg sp__law_made) := dfnG (t := t__law_made) F sc__law_made k__law_made.len (fun cdv A outer s H E gd hr =>
    (dss_cons (ds_set (i := 2) nd rfl (by first | exact Or.inl rfl | exact Or.inr rfl) (dk_call F__law_gcd (guards_in gd) (hr.mono (by decide)) rfl (da_cons (dv 0) (da_cons (dv 1) da_nil)))) (dss_cons (ds_set (i := 2) nd rfl (by first | exact Or.inl rfl | exact Or.inr rfl) (de_if (dt_cmp op_gt s_gt (dv 1) de_int (nomark _)) (dv 2) (de_bin op_sub s_sub de_int (dv 2)))) (dss_one (ds_ret (de_tup (da_cons (de_bin o_div s_div (dv 0) (dv 2)) (da_cons (de_bin o_div s_div (dv 1) (dv 2)) da_nil)))))))) vc__law_made k__law_made.nx
  exact ⟨⟨_, fd, G, T.g__law_made, F.kp, F.bindsN (ps := ["above", "below"]) (fun _ _ _ _ _ _ us hl => match us, hl with | [_, _], _ => rfl), FunD.at_ F⟩, k__law_made.ms⟩
theorem ok__law_due (T : Tx K mg) (F__law_made : Kn P w K mg base 2 "_law_made" ["above", "below"] sp__law_made) : Kn P w K mg base 3 "_law_due" ["stretch"] sp__law_due := by
  obtain ⟨fd, F⟩ := T.d__law_due
  have nd := sc__law_due.nd
  have G : FnG P w K mg base CX0 (2 + 1) (He.ga K "_law_due") fd ["stretch"] (lSp K mg sp__law_due) := dfnG (t := t__law_due) F sc__law_due k__law_due.len (fun cdv A outer s H E gd hr =>
    (dss_cons (ds_asg (dv 0) (dg_tup rfl (dgs_cons (dg_name (i := 1) nd rfl (by first | exact Or.inl rfl | exact Or.inr rfl)) (dgs_cons (dg_name (i := 2) nd rfl (by first | exact Or.inl rfl | exact Or.inr rfl)) dgs_nil)))) (dss_cons (ds_for PassesOwn.never rfl (di_range2 (by rfl) T.n_range (da_cons de_int (da_cons (de_bin op_pow s_pow de_int de_int) da_nil))) (dg_name (i := 3) nd rfl (by first | exact Or.inl rfl | exact Or.inr rfl)) (dss_cons (ds_set (i := 4) nd rfl (by first | exact Or.inl rfl | exact Or.inr rfl) (de_bin op_sub s_sub de_int (de_bin o_div s_div (de_bin op_sub s_sub de_int (de_bin o_mul s_mul (de_ix ix_seq s_ix (dv 1) de_int) (dv 3))) (de_ix ix_seq s_ix (dv 1) de_int)))) (dss_cons (ds_set (i := 5) nd rfl (by first | exact Or.inl rfl | exact Or.inr rfl) (de_bin o_div s_div (de_bin o_mul s_mul (de_ix ix_seq s_ix (dv 2) de_int) (dv 3)) (de_ix ix_seq s_ix (dv 2) de_int))) (dss_one (ds_if (dt_cmp op_le s_le (dv 4) (dv 5) (nomark _)) (dss_cons (ds_set (i := 6) nd rfl (by first | exact Or.inl rfl | exact Or.inr rfl) (de_if (dt_cmp op_gt s_gt (dv 4) de_int (nomark _)) (dv 4) (de_if (dt_cmp op_lt s_lt (dv 5) de_int (nomark _)) (dv 5) de_int))) (dss_one (ds_ret (dk_call F__law_made (guards_in gd) (hr.mono (by decide)) rfl (da_cons (dv 6) (da_cons (dv 3) da_nil)))))) dss_nil))))) (dss_one (ds_ret de_non))))) vc__law_due k__law_due.nx
  exact ⟨⟨_, fd, G, T.g__law_due, F.kp, F.bindsN (ps := ["stretch"]) (fun _ _ _ _ _ _ us hl => match us, hl with | [_], _ => rfl), FunD.at_ F⟩, k__law_due.ms⟩
theorem ok__law_lower (T : Tx K mg)  : Kn P w K mg base 1 "_law_lower" ["a", "b"] sp__law_lower := by
  obtain ⟨fd, F⟩ := T.d__law_lower
  have nd := sc__law_lower.nd
  have G : FnG P w K mg base CX0 (0 + 1) (He.ga K "_law_lower") fd ["a", "b"] (lSp K mg sp__law_lower) := dfnG (t := t__law_lower) F sc__law_lower k__law_lower.len (fun cdv A outer s H E gd hr =>
    (dss_one (ds_ret (de_cmp op_lt s_lt (de_bin o_mul s_mul (de_ix ix_seq s_ix (dv 0) de_int) (de_ix ix_seq s_ix (dv 1) de_int)) (de_bin o_mul s_mul (de_ix ix_seq s_ix (dv 1) de_int) (de_ix ix_seq s_ix (dv 0) de_int)) (nomark _))))) vc__law_lower k__law_lower.nx
  exact ⟨⟨_, fd, G, T.g__law_lower, F.kp, F.bindsN (ps := ["a", "b"]) (fun _ _ _ _ _ _ us hl => match us, hl with | [_, _], _ => rfl), FunD.at_ F⟩, k__law_lower.ms⟩
theorem ok__law_plus (T : Tx K mg) (F__law_made : Kn P w K mg base 2 "_law_made" ["above", "below"] sp__law_made) : Kn P w K mg base 3 "_law_plus" ["a", "b"] sp__law_plus := by
  obtain ⟨fd, F⟩ := T.d__law_plus
  have nd := sc__law_plus.nd
  have G : FnG P w K mg base CX0 (2 + 1) (He.ga K "_law_plus") fd ["a", "b"] (lSp K mg sp__law_plus) := dfnG (t := t__law_plus) F sc__law_plus k__law_plus.len (fun cdv A outer s H E gd hr =>
    (dss_one (ds_ret (dk_call F__law_made (guards_in gd) (hr.mono (by decide)) rfl (da_cons (de_bin o_add s_add (de_bin o_mul s_mul (de_ix ix_seq s_ix (dv 0) de_int) (de_ix ix_seq s_ix (dv 1) de_int)) (de_bin o_mul s_mul (de_ix ix_seq s_ix (dv 1) de_int) (de_ix ix_seq s_ix (dv 0) de_int))) (da_cons (de_bin o_mul s_mul (de_ix ix_seq s_ix (dv 0) de_int) (de_ix ix_seq s_ix (dv 1) de_int)) da_nil)))))) vc__law_plus k__law_plus.nx
  exact ⟨⟨_, fd, G, T.g__law_plus, F.kp, F.bindsN (ps := ["a", "b"]) (fun _ _ _ _ _ _ us hl => match us, hl with | [_, _], _ => rfl), FunD.at_ F⟩, k__law_plus.ms⟩
theorem ok_lower (T : Tx K mg)  : Kn P w K mg base 1 "lower" ["a", "b"] sp_lower := by
  obtain ⟨fd, F⟩ := T.d_lower
  have nd := sc_lower.nd
  have G : FnG P w K mg base CX0 (0 + 1) (He.ga K "lower") fd ["a", "b"] (lSp K mg sp_lower) := dfnG (t := t_lower) F sc_lower k_lower.len (fun cdv A outer s H E gd hr =>
    (dss_one (ds_ret (de_cmp op_lt s_lt (de_bin o_mul s_mul (de_ix ix_seq s_ix (dv 0) de_int) (de_ix ix_seq s_ix (dv 1) de_int)) (de_bin o_mul s_mul (de_ix ix_seq s_ix (dv 1) de_int) (de_ix ix_seq s_ix (dv 0) de_int)) (nomark _))))) vc_lower k_lower.nx
  exact ⟨⟨_, fd, G, T.g_lower, F.kp, F.bindsN (ps := ["a", "b"]) (fun _ _ _ _ _ _ us hl => match us, hl with | [_, _], _ => rfl), FunD.at_ F⟩, k_lower.ms⟩
theorem ok_is_integer (T : Tx K mg)  : Kn P w K mg base 1 "is_integer" ["value"] sp_is_integer := by
  obtain ⟨fd, F⟩ := T.d_is_integer
  have nd := sc_is_integer.nd
  have G : FnG P w K mg base CX0 (0 + 1) (He.ga K "is_integer") fd ["value"] (lSp K mg sp_is_integer) := dfnG (t := t_is_integer) F sc_is_integer k_is_integer.len (fun cdv A outer s H E gd hr =>
    (dss_one (ds_ret (de_and (de_callB c_isi s_isi (by rfl) T.n_isinstance (by decide +kernel) (da_cons (dv 0) (da_cons (de_ty .int (by rfl) T.n_int (by decide +kernel)) da_nil))) (de_one (de_not (de_callB c_isi s_isi (by rfl) T.n_isinstance (by decide +kernel) (da_cons (dv 0) (da_cons (de_ty .bool (by rfl) T.n_bool (by decide +kernel)) da_nil))))))))) vc_is_integer k_is_integer.nx
  exact ⟨⟨_, fd, G, T.g_is_integer, F.kp, F.bindsN (ps := ["value"]) (fun _ _ _ _ _ _ us hl => match us, hl with | [_], _ => rfl), FunD.at_ F⟩, k_is_integer.ms⟩
theorem ok_is_fraction (T : Tx K mg) (F_is_integer : Kn P w K mg base 1 "is_integer" ["value"] sp_is_integer) : Kn P w K mg base 2 "is_fraction" ["value"] sp_is_fraction := by
  obtain ⟨fd, F⟩ := T.d_is_fraction
  have nd := sc_is_fraction.nd
  have G : FnG P w K mg base CX0 (1 + 1) (He.ga K "is_fraction") fd ["value"] (lSp K mg sp_is_fraction) := dfnG (t := t_is_fraction) F sc_is_fraction k_is_fraction.len (fun cdv A outer s H E gd hr =>
    (dss_cons (ds_if (DW.pt (dw_or (dt_not (dt_val (de_callB c_isi s_isi (by rfl) T.n_isinstance (by decide +kernel) (da_cons (dv 0) (da_cons (de_ty .tuple (by rfl) T.n_tuple (by decide +kernel)) da_nil))))) (dw_or (dt_cmp (o_ne hr.units) s_ne (de_callB call_len s_len (by rfl) T.n_len (by decide +kernel) (da_cons (dv 0) da_nil)) de_int (nomark _)) (dw_or (dt_not (dt_val (dk_call F_is_integer (guards_in gd) (hr.mono (by decide)) rfl (da_cons (de_ix ix_seq s_ix (dv 0) de_int) da_nil)))) (dw_or1 (dt_not (dt_val (dk_call F_is_integer (guards_in gd) (hr.mono (by decide)) rfl (da_cons (de_ix ix_seq s_ix (dv 0) de_int) da_nil))))))))) (dss_one (ds_ret de_bl)) dss_nil) (dss_one (ds_ret (de_and (de_cmp op_ge s_ge (de_ix ix_seq s_ix (dv 0) de_int) de_int (nomark _)) (de_one (de_cmp (o_eq hr.units) s_eq (de_callG cr_gcd s_gcd (by rfl) T.g_gcd (da_cons (de_ix ix_seq s_ix (dv 0) de_int) (da_cons (de_ix ix_seq s_ix (dv 0) de_int) da_nil))) de_int (nomark _)))))))) vc_is_fraction k_is_fraction.nx
  exact ⟨⟨_, fd, G, T.g_is_fraction, F.kp, F.bindsN (ps := ["value"]) (fun _ _ _ _ _ _ us hl => match us, hl with | [_], _ => rfl), FunD.at_ F⟩, k_is_fraction.ms⟩
theorem ok_want_fraction (T : Tx K mg) (F_is_fraction : Kn P w K mg base 2 "is_fraction" ["value"] sp_is_fraction) : Kn P w K mg base 3 "want_fraction" ["value"] sp_want_fraction := by
  obtain ⟨fd, F⟩ := T.d_want_fraction
  have nd := sc_want_fraction.nd
  have G : FnG P w K mg base CX0 (2 + 1) (He.ga K "want_fraction") fd ["value"] (lSp K mg sp_want_fraction) := dfnG (t := t_want_fraction) F sc_want_fraction k_want_fraction.len (fun cdv A outer s H E gd hr =>
    (dss_cons (ds_if (dt_not (dt_val (dk_call F_is_fraction (guards_in gd) (hr.mono (by decide)) rfl (da_cons (dv 0) da_nil)))) (dss_one ds_never) dss_nil) (dss_one (ds_ret (dv 0))))) vc_want_fraction k_want_fraction.nx
  exact ⟨⟨_, fd, G, T.g_want_fraction, F.kp, F.bindsN (ps := ["value"]) (fun _ _ _ _ _ _ us hl => match us, hl with | [_], _ => rfl), FunD.at_ F⟩, k_want_fraction.ms⟩
theorem ok_is_stretch (T : Tx K mg) (F_lower : Kn P w K mg base 1 "lower" ["a", "b"] sp_lower) (F_is_fraction : Kn P w K mg base 2 "is_fraction" ["value"] sp_is_fraction) : Kn P w K mg base 3 "is_stretch" ["value"] sp_is_stretch := by
  obtain ⟨fd, F⟩ := T.d_is_stretch
  have nd := sc_is_stretch.nd
  have G : FnG P w K mg base CX0 (2 + 1) (He.ga K "is_stretch") fd ["value"] (lSp K mg sp_is_stretch) := dfnG (t := t_is_stretch) F sc_is_stretch k_is_stretch.len (fun cdv A outer s H E gd hr =>
    (dss_cons (ds_if (DW.pt (dw_or (dt_not (dt_val (de_callB c_isi s_isi (by rfl) T.n_isinstance (by decide +kernel) (da_cons (dv 0) (da_cons (de_ty .tuple (by rfl) T.n_tuple (by decide +kernel)) da_nil))))) (dw_or (dt_cmp (o_ne hr.units) s_ne (de_callB call_len s_len (by rfl) T.n_len (by decide +kernel) (da_cons (dv 0) da_nil)) de_int (nomark _)) (dw_or (dt_not (dt_val (dk_call F_is_fraction (guards_in gd) (hr.mono (by decide)) rfl (da_cons (de_ix ix_seq s_ix (dv 0) de_int) da_nil)))) (dw_or1 (dt_not (dt_val (dk_call F_is_fraction (guards_in gd) (hr.mono (by decide)) rfl (da_cons (de_ix ix_seq s_ix (dv 0) de_int) da_nil))))))))) (dss_one (ds_ret de_bl)) dss_nil) (dss_one (ds_ret (de_not (dk_call F_lower (guards_in gd) (hr.mono (by decide)) rfl (da_cons (de_ix ix_seq s_ix (dv 0) de_int) (da_cons (de_ix ix_seq s_ix (dv 0) de_int) da_nil)))))))) vc_is_stretch k_is_stretch.nx
  exact ⟨⟨_, fd, G, T.g_is_stretch, F.kp, F.bindsN (ps := ["value"]) (fun _ _ _ _ _ _ us hl => match us, hl with | [_], _ => rfl), FunD.at_ F⟩, k_is_stretch.ms⟩
theorem ok_want_stretch (T : Tx K mg) (F_is_stretch : Kn P w K mg base 3 "is_stretch" ["value"] sp_is_stretch) : Kn P w K mg base 4 "want_stretch" ["value"] sp_want_stretch := by
  obtain ⟨fd, F⟩ := T.d_want_stretch
  have nd := sc_want_stretch.nd
  have G : FnG P w K mg base CX0 (3 + 1) (He.ga K "want_stretch") fd ["value"] (lSp K mg sp_want_stretch) := dfnG (t := t_want_stretch) F sc_want_stretch k_want_stretch.len (fun cdv A outer s H E gd hr =>
    (dss_cons (ds_if (dt_not (dt_val (dk_call F_is_stretch (guards_in gd) (hr.mono (by decide)) rfl (da_cons (dv 0) da_nil)))) (dss_one ds_never) dss_nil) (dss_one (ds_ret (dv 0))))) vc_want_stretch k_want_stretch.nx
  exact ⟨⟨_, fd, G, T.g_want_stretch, F.kp, F.bindsN (ps := ["value"]) (fun _ _ _ _ _ _ us hl => match us, hl with | [_], _ => rfl), FunD.at_ F⟩, k_want_stretch.ms⟩
theorem ok_is_in (T : Tx K mg) (F_lower : Kn P w K mg base 1 "lower" ["a", "b"] sp_lower) (F_want_fraction : Kn P w K mg base 3 "want_fraction" ["value"] sp_want_fraction) (F_want_stretch : Kn P w K mg base 4 "want_stretch" ["value"] sp_want_stretch) : Kn P w K mg base 5 "is_in" ["stretch", "a"] sp_is_in := by
  obtain ⟨fd, F⟩ := T.d_is_in
  have nd := sc_is_in.nd
  have G : FnG P w K mg base CX0 (4 + 1) (He.ga K "is_in") fd ["stretch", "a"] (lSp K mg sp_is_in) := dfnG (t := t_is_in) F sc_is_in k_is_in.len (fun cdv A outer s H E gd hr =>
    (dss_cons (ds_expr (dk_call F_want_stretch (guards_in gd) (hr.mono (by decide)) rfl (da_cons (dv 0) da_nil))) (dss_cons (ds_expr (dk_call F_want_fraction (guards_in gd) (hr.mono (by decide)) rfl (da_cons (dv 1) da_nil))) (dss_one (ds_ret (de_and (de_not (dk_call F_lower (guards_in gd) (hr.mono (by decide)) rfl (da_cons (dv 1) (da_cons (de_ix ix_seq s_ix (dv 0) de_int) da_nil)))) (de_one (de_not (dk_call F_lower (guards_in gd) (hr.mono (by decide)) rfl (da_cons (de_ix ix_seq s_ix (dv 0) de_int) (da_cons (dv 1) da_nil))))))))))) vc_is_in k_is_in.nx
  exact ⟨⟨_, fd, G, T.g_is_in, F.kp, F.bindsN (ps := ["stretch", "a"]) (fun _ _ _ _ _ _ us hl => match us, hl with | [_, _], _ => rfl), FunD.at_ F⟩, k_is_in.ms⟩
theorem ok_ceiling_of (T : Tx K mg)  : Kn P w K mg base 1 "ceiling_of" ["a"] sp_ceiling_of := by
  obtain ⟨fd, F⟩ := T.d_ceiling_of
  have nd := sc_ceiling_of.nd
  have G : FnG P w K mg base CX0 (0 + 1) (He.ga K "ceiling_of") fd ["a"] (lSp K mg sp_ceiling_of) := dfnG (t := t_ceiling_of) F sc_ceiling_of k_ceiling_of.len (fun cdv A outer s H E gd hr =>
    (dss_one (ds_ret (de_bin op_sub s_sub de_int (de_bin o_div s_div (de_bin op_sub s_sub de_int (de_ix ix_seq s_ix (dv 0) de_int)) (de_ix ix_seq s_ix (dv 0) de_int)))))) vc_ceiling_of k_ceiling_of.nx
  exact ⟨⟨_, fd, G, T.g_ceiling_of, F.kp, F.bindsN (ps := ["a"]) (fun _ _ _ _ _ _ us hl => match us, hl with | [_], _ => rfl), FunD.at_ F⟩, k_ceiling_of.ms⟩
theorem ok_floor_of (T : Tx K mg)  : Kn P w K mg base 1 "floor_of" ["a"] sp_floor_of := by
  obtain ⟨fd, F⟩ := T.d_floor_of
  have nd := sc_floor_of.nd
  have G : FnG P w K mg base CX0 (0 + 1) (He.ga K "floor_of") fd ["a"] (lSp K mg sp_floor_of) := dfnG (t := t_floor_of) F sc_floor_of k_floor_of.len (fun cdv A outer s H E gd hr =>
    (dss_one (ds_ret (de_bin o_div s_div (de_ix ix_seq s_ix (dv 0) de_int) (de_ix ix_seq s_ix (dv 0) de_int))))) vc_floor_of k_floor_of.nx
  exact ⟨⟨_, fd, G, T.g_floor_of, F.kp, F.bindsN (ps := ["a"]) (fun _ _ _ _ _ _ us hl => match us, hl with | [_], _ => rfl), FunD.at_ F⟩, k_floor_of.ms⟩
theorem ok_fraction (T : Tx K mg)  : Kn P w K mg base 1 "fraction" ["above", "below"] sp_fraction := by
  obtain ⟨fd, F⟩ := T.d_fraction
  have nd := sc_fraction.nd
  have G : FnG P w K mg base CX0 (0 + 1) (He.ga K "fraction") fd ["above", "below"] (lSp K mg sp_fraction) := dfnG (t := t_fraction) F sc_fraction k_fraction.len (fun cdv A outer s H E gd hr =>
    (dss_cons (ds_set (i := 2) nd rfl (by first | exact Or.inl rfl | exact Or.inr rfl) (de_callG cr_gcd s_gcd (by rfl) T.g_gcd (da_cons (dv 0) (da_cons (dv 1) da_nil)))) (dss_cons (ds_if (dt_cmp op_lt s_lt (dv 1) de_int (nomark _)) (dss_one (ds_set (i := 2) nd rfl (by first | exact Or.inl rfl | exact Or.inr rfl) (de_bin op_sub s_sub de_int (dv 2)))) dss_nil) (dss_one (ds_ret (de_tup (da_cons (de_bin o_div s_div (dv 0) (dv 2)) (da_cons (de_bin o_div s_div (dv 1) (dv 2)) da_nil)))))))) vc_fraction k_fraction.nx
  exact ⟨⟨_, fd, G, T.g_fraction, F.kp, F.bindsN (ps := ["above", "below"]) (fun _ _ _ _ _ _ us hl => match us, hl with | [_, _], _ => rfl), FunD.at_ F⟩, k_fraction.ms⟩
theorem ok_parted (T : Tx K mg) (F_fraction : Kn P w K mg base 1 "fraction" ["above", "below"] sp_fraction) : Kn P w K mg base 2 "parted" ["a", "b"] sp_parted := by
  obtain ⟨fd, F⟩ := T.d_parted
  have nd := sc_parted.nd
  have G : FnG P w K mg base CX0 (1 + 1) (He.ga K "parted") fd ["a", "b"] (lSp K mg sp_parted) := dfnG (t := t_parted) F sc_parted k_parted.len (fun cdv A outer s H E gd hr =>
    (dss_one (ds_ret (dk_call F_fraction (guards_in gd) (hr.mono (by decide)) rfl (da_cons (de_bin o_mul s_mul (de_ix ix_seq s_ix (dv 0) de_int) (de_ix ix_seq s_ix (dv 1) de_int)) (da_cons (de_bin o_mul s_mul (de_ix ix_seq s_ix (dv 0) de_int) (de_ix ix_seq s_ix (dv 1) de_int)) da_nil)))))) vc_parted k_parted.nx
  exact ⟨⟨_, fd, G, T.g_parted, F.kp, F.bindsN (ps := ["a", "b"]) (fun _ _ _ _ _ _ us hl => match us, hl with | [_, _], _ => rfl), FunD.at_ F⟩, k_parted.ms⟩
theorem ok_simplest_below__0 (T : Tx K mg)  : Kn P w K mg base 1 "simplest_below" ["stretch"] sp_simplest_below__0 := by
  obtain ⟨fd, F⟩ := T.d_simplest_below
  have nd := sc_simplest_below.nd
  have G : FnG P w K mg base CX0 (0 + 1) (He.ga K "simplest_below") fd ["stretch"] (lSp K mg sp_simplest_below__0) := dfnG (t := t_simplest_below__0) F sc_simplest_below k_simplest_below__0.len (fun cdv A outer s H E gd hr =>
    (dss_cons ds_never (dss_one ds_never))) vc_simplest_below__0 k_simplest_below__0.nx
  exact ⟨⟨_, fd, G, T.g_simplest_below, F.kp, F.bindsN (ps := ["stretch"]) (fun _ _ _ _ _ _ us hl => match us, hl with | [_], _ => rfl), FunD.at_ F⟩, k_simplest_below__0.ms⟩
theorem ok_taken (T : Tx K mg) (F_fraction : Kn P w K mg base 1 "fraction" ["above", "below"] sp_fraction) : Kn P w K mg base 2 "taken" ["a", "b"] sp_taken := by
  obtain ⟨fd, F⟩ := T.d_taken
  have nd := sc_taken.nd
  have G : FnG P w K mg base CX0 (1 + 1) (He.ga K "taken") fd ["a", "b"] (lSp K mg sp_taken) := dfnG (t := t_taken) F sc_taken k_taken.len (fun cdv A outer s H E gd hr =>
    (dss_one (ds_ret (dk_call F_fraction (guards_in gd) (hr.mono (by decide)) rfl (da_cons (de_bin op_sub s_sub (de_bin o_mul s_mul (de_ix ix_seq s_ix (dv 0) de_int) (de_ix ix_seq s_ix (dv 1) de_int)) (de_bin o_mul s_mul (de_ix ix_seq s_ix (dv 1) de_int) (de_ix ix_seq s_ix (dv 0) de_int))) (da_cons (de_bin o_mul s_mul (de_ix ix_seq s_ix (dv 0) de_int) (de_ix ix_seq s_ix (dv 1) de_int)) da_nil)))))) vc_taken k_taken.nx
  exact ⟨⟨_, fd, G, T.g_taken, F.kp, F.bindsN (ps := ["a", "b"]) (fun _ _ _ _ _ _ us hl => match us, hl with | [_, _], _ => rfl), FunD.at_ F⟩, k_taken.ms⟩
theorem ok_simplest_of__0 (T : Tx K mg) (F_fraction : Kn P w K mg base 1 "fraction" ["above", "below"] sp_fraction) (F_ceiling_of : Kn P w K mg base 1 "ceiling_of" ["a"] sp_ceiling_of) (F_floor_of : Kn P w K mg base 1 "floor_of" ["a"] sp_floor_of) (F_parted : Kn P w K mg base 2 "parted" ["a", "b"] sp_parted) (F_taken : Kn P w K mg base 2 "taken" ["a", "b"] sp_taken) (F_lower : Kn P w K mg base 1 "lower" ["a", "b"] sp_lower) (F_simplest_below__0 : Kn P w K mg base 1 "simplest_below" ["stretch"] sp_simplest_below__0) : Kn P w K mg base 3 "simplest_of" ["stretch"] sp_simplest_of__0 := by
  obtain ⟨fd, F⟩ := T.d_simplest_of
  have nd := sc_simplest_of.nd
  have G : FnG P w K mg base CX0 (2 + 1) (He.ga K "simplest_of") fd ["stretch"] (lSp K mg sp_simplest_of__0) := dfnC (t := t_simplest_of__0) F sc_simplest_of k_simplest_of__0.len (fun cdv A outer s H E gd hr =>
    (dss_cons (ds_asg (dv 0) (dg_tup rfl (dgs_cons (dg_name (i := 1) nd rfl (by first | exact Or.inl rfl | exact Or.inr rfl)) (dgs_cons (dg_name (i := 2) nd rfl (by first | exact Or.inl rfl | exact Or.inr rfl)) dgs_nil)))) (dss_cons (ds_if (dt_not (dt_val (dk_call F_lower (guards_in gd) (hr.mono (by decide)) rfl (da_cons (de_glob (by rfl) T.g_NOUGHT T.r_NOUGHT T.d_NOUGHT) (da_cons (dv 1) da_nil))))) (dss_one (ds_ret (de_if (dt_not (dt_val (dk_call F_lower (guards_in gd) (hr.mono (by decide)) rfl (da_cons (dv 2) (da_cons (de_glob (by rfl) T.g_NOUGHT T.r_NOUGHT T.d_NOUGHT) da_nil))))) (de_glob (by rfl) T.g_NOUGHT T.r_NOUGHT T.d_NOUGHT) (dk_call F_simplest_below__0 (guards_in gd) (hr.mono (by decide)) rfl (da_cons (dv 0) da_nil))))) dss_nil) (dss_cons (ds_set (i := 3) nd rfl (by first | exact Or.inl rfl | exact Or.inr rfl) (de_lstO da_nil)) (dss_cons (ds_while PassesOwn.never (dt_cmp op_gt s_gt (dk_call F_ceiling_of (guards_in gd) (hr.mono (by decide)) rfl (da_cons (dv 1) da_nil)) (dk_call F_floor_of (guards_in gd) (hr.mono (by decide)) rfl (da_cons (dv 2) da_nil)) (nomark _)) (dss_cons (ds_set (i := 4) nd rfl (by first | exact Or.inl rfl | exact Or.inr rfl) (dk_call F_floor_of (guards_in gd) (hr.mono (by decide)) rfl (da_cons (dv 1) da_nil))) (dss_cons (ds_expr (de_mth PySem.F.slot_list_append PySem.F.type_list_append mt_append s_app (dv 3) (da_cons (dv 4) da_nil))) (dss_one (ds_par (i := 1) (j := 2) rfl nd rfl rfl (by decide) rfl rfl (da_cons (dk_call F_parted (guards_in gd) (hr.mono (by decide)) rfl (da_cons (de_tup (da_cons de_int (da_cons de_int da_nil))) (da_cons (dk_call F_taken (guards_in gd) (hr.mono (by decide)) rfl (da_cons (dv 2) (da_cons (de_tup (da_cons (dv 4) (da_cons de_int da_nil))) da_nil))) da_nil))) (da_cons (dk_call F_parted (guards_in gd) (hr.mono (by decide)) rfl (da_cons (de_tup (da_cons de_int (da_cons de_int da_nil))) (da_cons (dk_call F_taken (guards_in gd) (hr.mono (by decide)) rfl (da_cons (dv 1) (da_cons (de_tup (da_cons (dv 4) (da_cons de_int da_nil))) da_nil))) da_nil))) da_nil)) (by rfl)))))) (dss_cons (ds_set (i := 5) nd rfl (by first | exact Or.inl rfl | exact Or.inr rfl) (de_tup (da_cons (dk_call F_ceiling_of (guards_in gd) (hr.mono (by decide)) rfl (da_cons (dv 1) da_nil)) (da_cons de_int da_nil)))) (dss_cons (ds_for PassesOwn.never rfl (di_seq (de_frz (df_rev (dv 3)))) (dg_name (i := 4) nd rfl (by first | exact Or.inl rfl | exact Or.inr rfl)) (dss_one (ds_set (i := 5) nd rfl (by first | exact Or.inl rfl | exact Or.inr rfl) (dk_call F_fraction (guards_in gd) (hr.mono (by decide)) rfl (da_cons (de_bin o_add s_add (de_bin o_mul s_mul (dv 4) (de_ix ix_seq s_ix (dv 5) de_int)) (de_ix ix_seq s_ix (dv 5) de_int)) (da_cons (de_ix ix_seq s_ix (dv 5) de_int) da_nil)))))) (dss_one (ds_ret (dv 5)))))))))) vc_simplest_of__0 k_simplest_of__0.nx
  exact ⟨⟨_, fd, G, T.g_simplest_of, F.kp, F.bindsN (ps := ["stretch"]) (fun _ _ _ _ _ _ us hl => match us, hl with | [_], _ => rfl), FunD.at_ F⟩, k_simplest_of__0.ms⟩
theorem ok_simplest_below (T : Tx K mg) (F_simplest_of__0 : Kn P w K mg base 3 "simplest_of" ["stretch"] sp_simplest_of__0) : Kn P w K mg base 4 "simplest_below" ["stretch"] sp_simplest_below := by
  obtain ⟨fd, F⟩ := T.d_simplest_below
  have nd := sc_simplest_below.nd
  have G : FnG P w K mg base CX0 (3 + 1) (He.ga K "simplest_below") fd ["stretch"] (lSp K mg sp_simplest_below) := dfnG (t := t_simplest_below) F sc_simplest_below k_simplest_below.len (fun cdv A outer s H E gd hr =>
    (dss_cons (ds_set (i := 1) nd rfl (by first | exact Or.inl rfl | exact Or.inr rfl) (dk_call F_simplest_of__0 (guards_in gd) (hr.mono (by decide)) rfl (da_cons (de_tup (da_cons (de_tup (da_cons (de_bin op_sub s_sub de_int (de_ix ix_seq s_ix (de_ix ix_seq s_ix (dv 0) de_int) de_int)) (da_cons (de_ix ix_seq s_ix (de_ix ix_seq s_ix (dv 0) de_int) de_int) da_nil))) (da_cons (de_tup (da_cons (de_bin op_sub s_sub de_int (de_ix ix_seq s_ix (de_ix ix_seq s_ix (dv 0) de_int) de_int)) (da_cons (de_ix ix_seq s_ix (de_ix ix_seq s_ix (dv 0) de_int) de_int) da_nil))) da_nil))) da_nil))) (dss_one (ds_ret (de_tup (da_cons (de_bin op_sub s_sub de_int (de_ix ix_seq s_ix (dv 1) de_int)) (da_cons (de_ix ix_seq s_ix (dv 1) de_int) da_nil))))))) vc_simplest_below k_simplest_below.nx
  exact ⟨⟨_, fd, G, T.g_simplest_below, F.kp, F.bindsN (ps := ["stretch"]) (fun _ _ _ _ _ _ us hl => match us, hl with | [_], _ => rfl), FunD.at_ F⟩, k_simplest_below.ms⟩
theorem ok_simplest_of (T : Tx K mg) (F_fraction : Kn P w K mg base 1 "fraction" ["above", "below"] sp_fraction) (F_ceiling_of : Kn P w K mg base 1 "ceiling_of" ["a"] sp_ceiling_of) (F_floor_of : Kn P w K mg base 1 "floor_of" ["a"] sp_floor_of) (F_parted : Kn P w K mg base 2 "parted" ["a", "b"] sp_parted) (F_taken : Kn P w K mg base 2 "taken" ["a", "b"] sp_taken) (F_lower : Kn P w K mg base 1 "lower" ["a", "b"] sp_lower) (F_simplest_below : Kn P w K mg base 4 "simplest_below" ["stretch"] sp_simplest_below) : Kn P w K mg base 5 "simplest_of" ["stretch"] sp_simplest_of := by
  obtain ⟨fd, F⟩ := T.d_simplest_of
  have nd := sc_simplest_of.nd
  have G : FnG P w K mg base CX0 (4 + 1) (He.ga K "simplest_of") fd ["stretch"] (lSp K mg sp_simplest_of) := dfnC (t := t_simplest_of) F sc_simplest_of k_simplest_of.len (fun cdv A outer s H E gd hr =>
    (dss_cons (ds_asg (dv 0) (dg_tup rfl (dgs_cons (dg_name (i := 1) nd rfl (by first | exact Or.inl rfl | exact Or.inr rfl)) (dgs_cons (dg_name (i := 2) nd rfl (by first | exact Or.inl rfl | exact Or.inr rfl)) dgs_nil)))) (dss_cons (ds_if (dt_not (dt_val (dk_call F_lower (guards_in gd) (hr.mono (by decide)) rfl (da_cons (de_glob (by rfl) T.g_NOUGHT T.r_NOUGHT T.d_NOUGHT) (da_cons (dv 1) da_nil))))) (dss_one (ds_ret (de_if (dt_not (dt_val (dk_call F_lower (guards_in gd) (hr.mono (by decide)) rfl (da_cons (dv 2) (da_cons (de_glob (by rfl) T.g_NOUGHT T.r_NOUGHT T.d_NOUGHT) da_nil))))) (de_glob (by rfl) T.g_NOUGHT T.r_NOUGHT T.d_NOUGHT) (dk_call F_simplest_below (guards_in gd) (hr.mono (by decide)) rfl (da_cons (dv 0) da_nil))))) dss_nil) (dss_cons (ds_set (i := 3) nd rfl (by first | exact Or.inl rfl | exact Or.inr rfl) (de_lstO da_nil)) (dss_cons (ds_while PassesOwn.never (dt_cmp op_gt s_gt (dk_call F_ceiling_of (guards_in gd) (hr.mono (by decide)) rfl (da_cons (dv 1) da_nil)) (dk_call F_floor_of (guards_in gd) (hr.mono (by decide)) rfl (da_cons (dv 2) da_nil)) (nomark _)) (dss_cons (ds_set (i := 4) nd rfl (by first | exact Or.inl rfl | exact Or.inr rfl) (dk_call F_floor_of (guards_in gd) (hr.mono (by decide)) rfl (da_cons (dv 1) da_nil))) (dss_cons (ds_expr (de_mth PySem.F.slot_list_append PySem.F.type_list_append mt_append s_app (dv 3) (da_cons (dv 4) da_nil))) (dss_one (ds_par (i := 1) (j := 2) rfl nd rfl rfl (by decide) rfl rfl (da_cons (dk_call F_parted (guards_in gd) (hr.mono (by decide)) rfl (da_cons (de_tup (da_cons de_int (da_cons de_int da_nil))) (da_cons (dk_call F_taken (guards_in gd) (hr.mono (by decide)) rfl (da_cons (dv 2) (da_cons (de_tup (da_cons (dv 4) (da_cons de_int da_nil))) da_nil))) da_nil))) (da_cons (dk_call F_parted (guards_in gd) (hr.mono (by decide)) rfl (da_cons (de_tup (da_cons de_int (da_cons de_int da_nil))) (da_cons (dk_call F_taken (guards_in gd) (hr.mono (by decide)) rfl (da_cons (dv 1) (da_cons (de_tup (da_cons (dv 4) (da_cons de_int da_nil))) da_nil))) da_nil))) da_nil)) (by rfl)))))) (dss_cons (ds_set (i := 5) nd rfl (by first | exact Or.inl rfl | exact Or.inr rfl) (de_tup (da_cons (dk_call F_ceiling_of (guards_in gd) (hr.mono (by decide)) rfl (da_cons (dv 1) da_nil)) (da_cons de_int da_nil)))) (dss_cons (ds_for PassesOwn.never rfl (di_seq (de_frz (df_rev (dv 3)))) (dg_name (i := 4) nd rfl (by first | exact Or.inl rfl | exact Or.inr rfl)) (dss_one (ds_set (i := 5) nd rfl (by first | exact Or.inl rfl | exact Or.inr rfl) (dk_call F_fraction (guards_in gd) (hr.mono (by decide)) rfl (da_cons (de_bin o_add s_add (de_bin o_mul s_mul (dv 4) (de_ix ix_seq s_ix (dv 5) de_int)) (de_ix ix_seq s_ix (dv 5) de_int)) (da_cons (de_ix ix_seq s_ix (dv 5) de_int) da_nil)))))) (dss_one (ds_ret (dv 5)))))))))) vc_simplest_of k_simplest_of.nx
  exact ⟨⟨_, fd, G, T.g_simplest_of, F.kp, F.bindsN (ps := ["stretch"]) (fun _ _ _ _ _ _ us hl => match us, hl with | [_], _ => rfl), FunD.at_ F⟩, k_simplest_of.ms⟩
theorem ok_simplest (T : Tx K mg) (F_simplest_of : Kn P w K mg base 5 "simplest_of" ["stretch"] sp_simplest_of) (F_want_stretch : Kn P w K mg base 4 "want_stretch" ["value"] sp_want_stretch) : Kn P w K mg base 6 "simplest" ["stretch"] sp_simplest ∧ KnK P w K mg base 6 "simplest" 0 ["stretch"] (fun us ws => order 0 [0] us ws) sp_simplest := by
  obtain ⟨fd, F⟩ := T.d_simplest
  have nd := sc_simplest.nd
  have G : FnG P w K mg base CX0 (5 + 1) (He.ga K "simplest") fd ["stretch"] (lSp K mg sp_simplest) := dfnG (t := t_simplest) F sc_simplest k_simplest.len (fun cdv A outer s H E gd hr =>
    (dss_one (ds_ret (dk_call F_simplest_of (guards_in gd) (hr.mono (by decide)) rfl (da_cons (dk_call F_want_stretch (guards_in gd) (hr.mono (by decide)) rfl (da_cons (dv 0) da_nil)) da_nil))))) vc_simplest k_simplest.nx
  refine ⟨⟨⟨_, fd, G, T.g_simplest, F.kp, F.bindsN (ps := ["stretch"]) (fun _ _ _ _ _ _ us hl => match us, hl with | [_], _ => rfl), FunD.at_ F⟩, k_simplest.ms⟩, ?_⟩
  · exact ⟨⟨_, fd, _, _, _, G, T.g_simplest, F.kp, kbn_of F 0 ["stretch"] _ _ (fun r q => order_vals r q _) (fun _ _ _ _ _ _ us ws l1 l2 => match us, ws, l1, l2 with | [], [_], _, _ => rfl), puts_order _ _⟩, k_simplest.ms⟩
theorem ok__law_drawn_right (T : Tx K mg) (F_simplest : Kn P w K mg base 6 "simplest" ["stretch"] sp_simplest) (F_is_in : Kn P w K mg base 5 "is_in" ["stretch", "a"] sp_is_in) (F__law_due : Kn P w K mg base 3 "_law_due" ["stretch"] sp__law_due) (F__law_lower : Kn P w K mg base 1 "_law_lower" ["a", "b"] sp__law_lower) (F__law_draw : Kn P w K mg base 1 "_law_draw" ["pot", "many"] sp__law_draw) (F__law_plus : Kn P w K mg base 3 "_law_plus" ["a", "b"] sp__law_plus) (F__law_made : Kn P w K mg base 2 "_law_made" ["above", "below"] sp__law_made) (W_simplest_0_stretch : KnK P w K mg base 6 "simplest" 0 ["stretch"] (fun us ws => order 0 [0] us ws) sp_simplest) : Kn P w K mg base 7 "_law_drawn_right" ["pot"] sp__law_drawn_right := by
  obtain ⟨fd, F⟩ := T.d__law_drawn_right
  have nd := sc__law_drawn_right.nd
  have G : FnG P w K mg base CX0 (6 + 1) (He.ga K "_law_drawn_right") fd ["pot"] (lSp K mg sp__law_drawn_right) := dfnG (t := t__law_drawn_right) F sc__law_drawn_right k__law_drawn_right.len (fun cdv A outer s H E gd hr =>
    (dss_cons (ds_asg (de_comp rfl nd (di_range1 (by rfl) T.n_range (da_cons de_int da_nil)) (blkOk_by (own := [("turn", 6)]) (N := N__law_drawn_right) (sc := defScope s__law_drawn_right) (by decide +kernel)) (fun _ _ _ _ _ => (dg_name (i := 6) nd rfl (by first | exact Or.inl rfl | exact Or.inr rfl))) (fun _ _ _ _ _ => dts_nil) (fun _ _ _ _ _ => (dk_call F__law_made (guards_in gd) (hr.mono (by decide)) rfl (da_cons (de_bin op_sub s_sub (dk_call F__law_draw (guards_in gd) (hr.mono (by decide)) rfl (da_cons (dv 0) (da_cons de_int da_nil))) de_int) (da_cons (de_bin o_add s_add de_int (dk_call F__law_draw (guards_in gd) (hr.mono (by decide)) rfl (da_cons (dv 0) (da_cons de_int da_nil)))) da_nil)))) mono_gN mono_Yes (mono_Call F__law_made.ms (mono_Cons (mono_Bin (mono_Call F__law_draw.ms (mono_Cons mono_Var (mono_Cons mono_C mono_Nil))) mono_C) (mono_Cons (mono_Bin mono_C (mono_Call F__law_draw.ms (mono_Cons mono_Var (mono_Cons mono_C mono_Nil)))) mono_Nil)))) (dg_lst rfl (dgs_cons (dg_name (i := 1) nd rfl (by first | exact Or.inl rfl | exact Or.inr rfl)) (dgs_cons (dg_name (i := 2) nd rfl (by first | exact Or.inl rfl | exact Or.inr rfl)) dgs_nil)))) (dss_cons (ds_set (i := 2) nd rfl (by first | exact Or.inl rfl | exact Or.inr rfl) (de_if (dt_cmp (o_eq hr.units) s_eq (dk_call F__law_draw (guards_in gd) (hr.mono (by decide)) rfl (da_cons (dv 0) (da_cons de_int da_nil))) de_int (nomark _)) (dk_call F__law_plus (guards_in gd) (hr.mono (by decide)) rfl (da_cons (dv 1) (da_cons (dk_call F__law_made (guards_in gd) (hr.mono (by decide)) rfl (da_cons de_int (da_cons (de_bin o_add s_add de_int (dk_call F__law_draw (guards_in gd) (hr.mono (by decide)) rfl (da_cons (dv 0) (da_cons de_int da_nil)))) da_nil))) da_nil))) (dv 2))) (dss_cons (ds_set (i := 2) nd rfl (by first | exact Or.inl rfl | exact Or.inr rfl) (de_if (dt_cmp (o_eq hr.units) s_eq (dk_call F__law_draw (guards_in gd) (hr.mono (by decide)) rfl (da_cons (dv 0) (da_cons de_int da_nil))) de_int (nomark _)) (dv 1) (dv 2))) (dss_cons (ds_set (i := 3) nd rfl (by first | exact Or.inl rfl | exact Or.inr rfl) (de_if (dt_val (dk_call F__law_lower (guards_in gd) (hr.mono (by decide)) rfl (da_cons (dv 2) (da_cons (dv 1) da_nil)))) (de_tup (da_cons (dv 2) (da_cons (dv 1) da_nil))) (de_tup (da_cons (dv 1) (da_cons (dv 2) da_nil))))) (dss_cons (ds_set (i := 4) nd rfl (by first | exact Or.inl rfl | exact Or.inr rfl) (dk_call F__law_due (guards_in gd) (hr.mono (by decide)) rfl (da_cons (dv 3) da_nil))) (dss_cons (ds_set (i := 5) nd rfl (by first | exact Or.inl rfl | exact Or.inr rfl) (de_tup (da_cons (de_tup (da_cons (de_bin op_sub s_sub de_int (de_ix ix_seq s_ix (de_ix ix_seq s_ix (dv 3) de_int) de_int)) (da_cons (de_ix ix_seq s_ix (de_ix ix_seq s_ix (dv 3) de_int) de_int) da_nil))) (da_cons (de_tup (da_cons (de_bin op_sub s_sub de_int (de_ix ix_seq s_ix (de_ix ix_seq s_ix (dv 3) de_int) de_int)) (da_cons (de_ix ix_seq s_ix (de_ix ix_seq s_ix (dv 3) de_int) de_int) da_nil))) da_nil)))) (dss_cons (ds_if (DW.pt (dw_or (dt_cmp op_isN s_isN (dv 4) de_non (nomark _)) (dw_or1 (dt_cmp op_isnot_bl s_notB (dk_call F_is_in (guards_in gd) (hr.mono (by decide)) rfl (da_cons (dv 3) (da_cons (dv 4) da_nil))) de_bl (nomark _))))) (dss_one (ds_ret de_bl)) dss_nil) (dss_one (ds_ret (de_cmp (o_eq hr.units) s_eq (de_callB (c_repr gd hr.units) s_repr (by rfl) T.n_repr (by decide +kernel) (da_cons (de_lst (da_cons (dk_call F_simplest (guards_in gd) (hr.mono (by decide)) rfl (da_cons (dv 3) da_nil)) (da_cons (dk_callK0 W_simplest_0_stretch (guards_in gd) (hr.mono (by decide)) rfl (dk_cons (dv 3) dk_nil)) (da_cons (dk_call F_simplest (guards_in gd) (hr.mono (by decide)) rfl (da_cons (dv 5) da_nil)) da_nil)))) da_nil)) (de_callB (c_repr gd hr.units) s_repr (by rfl) T.n_repr (by decide +kernel) (da_cons (de_lst (da_cons (dv 4) (da_cons (dv 4) (da_cons (de_tup (da_cons (de_bin op_sub s_sub de_int (de_ix ix_seq s_ix (dv 4) de_int)) (da_cons (de_ix ix_seq s_ix (dv 4) de_int) da_nil))) da_nil)))) da_nil)) (nomark _)))))))))))) vc__law_drawn_right k__law_drawn_right.nx
  exact ⟨⟨_, fd, G, T.g__law_drawn_right, F.kp, F.bindsN (ps := ["pot"]) (fun _ _ _ _ _ _ us hl => match us, hl with | [_], _ => rfl), FunD.at_ F⟩, k__law_drawn_right.ms⟩
theorem ok__law_minus (T : Tx K mg) (F__law_made : Kn P w K mg base 2 "_law_made" ["above", "below"] sp__law_made) : Kn P w K mg base 3 "_law_minus" ["a", "b"] sp__law_minus := by
  obtain ⟨fd, F⟩ := T.d__law_minus
  have nd := sc__law_minus.nd
  have G : FnG P w K mg base CX0 (2 + 1) (He.ga K "_law_minus") fd ["a", "b"] (lSp K mg sp__law_minus) := dfnG (t := t__law_minus) F sc__law_minus k__law_minus.len (fun cdv A outer s H E gd hr =>
    (dss_one (ds_ret (dk_call F__law_made (guards_in gd) (hr.mono (by decide)) rfl (da_cons (de_bin op_sub s_sub (de_bin o_mul s_mul (de_ix ix_seq s_ix (dv 0) de_int) (de_ix ix_seq s_ix (dv 1) de_int)) (de_bin o_mul s_mul (de_ix ix_seq s_ix (dv 1) de_int) (de_ix ix_seq s_ix (dv 0) de_int))) (da_cons (de_bin o_mul s_mul (de_ix ix_seq s_ix (dv 0) de_int) (de_ix ix_seq s_ix (dv 1) de_int)) da_nil)))))) vc__law_minus k__law_minus.nx
  exact ⟨⟨_, fd, G, T.g__law_minus, F.kp, F.bindsN (ps := ["a", "b"]) (fun _ _ _ _ _ _ us hl => match us, hl with | [_, _], _ => rfl), FunD.at_ F⟩, k__law_minus.ms⟩
theorem ok__law_pick (T : Tx K mg) (F__law_draw : Kn P w K mg base 1 "_law_draw" ["pot", "many"] sp__law_draw) : Kn P w K mg base 2 "_law_pick" ["pot", "some"] sp__law_pick := by
  obtain ⟨fd, F⟩ := T.d__law_pick
  have nd := sc__law_pick.nd
  have G : FnG P w K mg base CX0 (1 + 1) (He.ga K "_law_pick") fd ["pot", "some"] (lSp K mg sp__law_pick) := dfnG (t := t__law_pick) F sc__law_pick k__law_pick.len (fun cdv A outer s H E gd hr =>
    (dss_one (ds_ret (de_ix ix_seq s_ix (dv 1) (dk_call F__law_draw (guards_in gd) (hr.mono (by decide)) rfl (da_cons (dv 0) (da_cons (de_callB call_len s_len (by rfl) T.n_len (by decide +kernel) (da_cons (dv 1) da_nil)) da_nil))))))) vc__law_pick k__law_pick.nx
  exact ⟨⟨_, fd, G, T.g__law_pick, F.kp, F.bindsN (ps := ["pot", "some"]) (fun _ _ _ _ _ _ us hl => match us, hl with | [_, _], _ => rfl), FunD.at_ F⟩, k__law_pick.ms⟩
theorem ok__law_some (T : Tx K mg) (F__law_made : Kn P w K mg base 2 "_law_made" ["above", "below"] sp__law_made) (F__law_draw : Kn P w K mg base 1 "_law_draw" ["pot", "many"] sp__law_draw) (F__law_pick : Kn P w K mg base 2 "_law_pick" ["pot", "some"] sp__law_pick) : Kn P w K mg base 3 "_law_some" ["pot"] sp__law_some := by
  obtain ⟨fd, F⟩ := T.d__law_some
  have nd := sc__law_some.nd
  have G : FnG P w K mg base CX0 (2 + 1) (He.ga K "_law_some") fd ["pot"] (lSp K mg sp__law_some) := dfnG (t := t__law_some) F sc__law_some k__law_some.len (fun cdv A outer s H E gd hr =>
    (dss_cons (ds_set (i := 1) nd rfl (by first | exact Or.inl rfl | exact Or.inr rfl) (dk_call F__law_draw (guards_in gd) (hr.mono (by decide)) rfl (da_cons (dv 0) (da_cons de_int da_nil)))) (dss_cons (ds_if (dt_cmp (o_eq hr.units) s_eq (dv 1) de_int (nomark _)) (dss_one (ds_ret (dk_call F__law_made (guards_in gd) (hr.mono (by decide)) rfl (da_cons (de_bin op_sub s_sub (dk_call F__law_draw (guards_in gd) (hr.mono (by decide)) rfl (da_cons (dv 0) (da_cons (de_bin o_mul s_mul de_int (de_bin op_pow s_pow de_int de_int)) da_nil))) (de_bin op_pow s_pow de_int de_int)) (da_cons (de_bin o_add s_add de_int (dk_call F__law_draw (guards_in gd) (hr.mono (by decide)) rfl (da_cons (dv 0) (da_cons (de_bin op_pow s_pow de_int de_int) da_nil)))) da_nil))))) dss_nil) (dss_one (ds_ret (dk_call F__law_made (guards_in gd) (hr.mono (by decide)) rfl (da_cons (de_bin op_sub s_sub (dk_call F__law_draw (guards_in gd) (hr.mono (by decide)) rfl (da_cons (dv 0) (da_cons de_int da_nil))) de_int) (da_cons (de_if (dt_cmp op_lt s_lt (dv 1) de_int (nomark _)) (de_bin o_add s_add de_int (dk_call F__law_draw (guards_in gd) (hr.mono (by decide)) rfl (da_cons (dv 0) (da_cons de_int da_nil)))) (dk_call F__law_pick (guards_in gd) (hr.mono (by decide)) rfl (da_cons (dv 0) (da_cons (de_lst (da_cons de_int (da_cons de_int (da_cons de_int da_nil)))) da_nil)))) da_nil)))))))) vc__law_some k__law_some.nx
  exact ⟨⟨_, fd, G, T.g__law_some, F.kp, F.bindsN (ps := ["pot"]) (fun _ _ _ _ _ _ us hl => match us, hl with | [_], _ => rfl), FunD.at_ F⟩, k__law_some.ms⟩
theorem ok__law_great_right (T : Tx K mg) (F_simplest : Kn P w K mg base 6 "simplest" ["stretch"] sp_simplest) (F__law_minus : Kn P w K mg base 3 "_law_minus" ["a", "b"] sp__law_minus) (F__law_plus : Kn P w K mg base 3 "_law_plus" ["a", "b"] sp__law_plus) (F__law_draw : Kn P w K mg base 1 "_law_draw" ["pot", "many"] sp__law_draw) (F__law_made : Kn P w K mg base 2 "_law_made" ["above", "below"] sp__law_made) (F__law_some : Kn P w K mg base 3 "_law_some" ["pot"] sp__law_some) : Kn P w K mg base 7 "_law_great_right" ["pot"] sp__law_great_right := by
  obtain ⟨fd, F⟩ := T.d__law_great_right
  have nd := sc__law_great_right.nd
  have G : FnG P w K mg base CX0 (6 + 1) (He.ga K "_law_great_right") fd ["pot"] (lSp K mg sp__law_great_right) := dfnG (t := t__law_great_right) F sc__law_great_right k__law_great_right.len (fun cdv A outer s H E gd hr =>
    (dss_cons (ds_set (i := 1) nd rfl (by first | exact Or.inl rfl | exact Or.inr rfl) (de_bin o_add s_add de_int (dk_call F__law_draw (guards_in gd) (hr.mono (by decide)) rfl (da_cons (dv 0) (da_cons (de_bin op_pow s_pow de_int de_int) da_nil))))) (dss_cons (ds_par (i := 2) (j := 3) rfl nd rfl rfl (by decide) rfl rfl (da_cons (dk_call F__law_made (guards_in gd) (hr.mono (by decide)) rfl (da_cons (de_bin op_sub s_sub (dk_call F__law_draw (guards_in gd) (hr.mono (by decide)) rfl (da_cons (dv 0) (da_cons (de_bin o_mul s_mul de_int (de_bin op_pow s_pow de_int de_int)) da_nil))) (de_bin op_pow s_pow de_int de_int)) (da_cons (dv 1) da_nil))) (da_cons (dk_call F__law_some (guards_in gd) (hr.mono (by decide)) rfl (da_cons (dv 0) da_nil)) da_nil)) (by rfl)) (dss_cons (ds_par (i := 4) (j := 5) rfl nd rfl rfl (by decide) rfl rfl (da_cons (de_tup (da_cons de_int (da_cons (de_bin o_add s_add (de_bin o_mul s_mul de_int (de_bin op_pow s_pow de_int de_int)) (dk_call F__law_draw (guards_in gd) (hr.mono (by decide)) rfl (da_cons (dv 0) (da_cons (de_bin op_pow s_pow de_int de_int) da_nil)))) da_nil))) (da_cons (de_tup (da_cons de_int (da_cons (de_bin o_add s_add (de_bin o_mul s_mul de_int (de_bin op_pow s_pow de_int de_int)) (dk_call F__law_draw (guards_in gd) (hr.mono (by decide)) rfl (da_cons (dv 0) (da_cons (de_bin op_pow s_pow de_int de_int) da_nil)))) da_nil))) da_nil)) (by rfl)) (dss_cons (ds_set (i := 6) nd rfl (by first | exact Or.inl rfl | exact Or.inr rfl) (de_tup (da_cons (dk_call F__law_minus (guards_in gd) (hr.mono (by decide)) rfl (da_cons (dv 2) (da_cons (dv 4) da_nil))) (da_cons (dk_call F__law_plus (guards_in gd) (hr.mono (by decide)) rfl (da_cons (dv 2) (da_cons (dv 5) da_nil))) da_nil)))) (dss_one (ds_ret (de_cmp (o_eq hr.units) s_eq (de_callB (c_repr gd hr.units) s_repr (by rfl) T.n_repr (by decide +kernel) (da_cons (de_lst (da_cons (dk_call F_simplest (guards_in gd) (hr.mono (by decide)) rfl (da_cons (dv 6) da_nil)) (da_cons (dk_call F_simplest (guards_in gd) (hr.mono (by decide)) rfl (da_cons (de_tup (da_cons (dv 3) (da_cons (dv 3) da_nil))) da_nil)) da_nil))) da_nil)) (de_callB (c_repr gd hr.units) s_repr (by rfl) T.n_repr (by decide +kernel) (da_cons (de_lst (da_cons (dv 2) (da_cons (dv 3) da_nil))) da_nil)) (nomark _))))))))) vc__law_great_right k__law_great_right.nx
  exact ⟨⟨_, fd, G, T.g__law_great_right, F.kp, F.bindsN (ps := ["pot"]) (fun _ _ _ _ _ _ us hl => match us, hl with | [_], _ => rfl), FunD.at_ F⟩, k__law_great_right.ms⟩
theorem ok__law_narrow_right (T : Tx K mg) (F_simplest : Kn P w K mg base 6 "simplest" ["stretch"] sp_simplest) (F__law_minus : Kn P w K mg base 3 "_law_minus" ["a", "b"] sp__law_minus) (F__law_plus : Kn P w K mg base 3 "_law_plus" ["a", "b"] sp__law_plus) (F__law_made : Kn P w K mg base 2 "_law_made" ["above", "below"] sp__law_made) (F__law_draw : Kn P w K mg base 1 "_law_draw" ["pot", "many"] sp__law_draw) (F__law_pick : Kn P w K mg base 2 "_law_pick" ["pot", "some"] sp__law_pick) : Kn P w K mg base 7 "_law_narrow_right" ["pot"] sp__law_narrow_right := by
  obtain ⟨fd, F⟩ := T.d__law_narrow_right
  have nd := sc__law_narrow_right.nd
  have G : FnG P w K mg base CX0 (6 + 1) (He.ga K "_law_narrow_right") fd ["pot"] (lSp K mg sp__law_narrow_right) := dfnG (t := t__law_narrow_right) F sc__law_narrow_right k__law_narrow_right.len (fun cdv A outer s H E gd hr =>
    (dss_cons (ds_set (i := 1) nd rfl (by first | exact Or.inl rfl | exact Or.inr rfl) (de_bin o_add s_add de_int (dk_call F__law_draw (guards_in gd) (hr.mono (by decide)) rfl (da_cons (dv 0) (da_cons de_int da_nil))))) (dss_cons (ds_set (i := 2) nd rfl (by first | exact Or.inl rfl | exact Or.inr rfl) (de_bin op_sub s_sub (dk_call F__law_draw (guards_in gd) (hr.mono (by decide)) rfl (da_cons (dv 0) (da_cons (de_bin o_mul s_mul de_int (de_bin op_pow s_pow de_int de_int)) da_nil))) (de_bin op_pow s_pow de_int de_int))) (dss_cons (ds_set (i := 3) nd rfl (by first | exact Or.inl rfl | exact Or.inr rfl) (dk_call F__law_made (guards_in gd) (hr.mono (by decide)) rfl (da_cons (dv 2) (da_cons (dv 1) da_nil)))) (dss_cons (ds_set (i := 4) nd rfl (by first | exact Or.inl rfl | exact Or.inr rfl) (dk_call F__law_pick (guards_in gd) (hr.mono (by decide)) rfl (da_cons (dv 0) (da_cons (de_lst (da_cons de_int (da_cons (de_bin op_pow s_pow de_int de_int) (da_cons (de_bin op_pow s_pow de_int de_int) da_nil)))) da_nil)))) (dss_cons (ds_par (i := 5) (j := 6) rfl nd rfl rfl (by decide) rfl rfl (da_cons (dk_call F__law_made (guards_in gd) (hr.mono (by decide)) rfl (da_cons (dk_call F__law_draw (guards_in gd) (hr.mono (by decide)) rfl (da_cons (dv 0) (da_cons (dv 4) da_nil))) (da_cons (de_bin o_mul s_mul (dv 4) de_int) da_nil))) (da_cons (dk_call F__law_made (guards_in gd) (hr.mono (by decide)) rfl (da_cons (dk_call F__law_draw (guards_in gd) (hr.mono (by decide)) rfl (da_cons (dv 0) (da_cons (dv 4) da_nil))) (da_cons (de_bin o_mul s_mul (dv 4) de_int) da_nil))) da_nil)) (by rfl)) (dss_cons (ds_set (i := 7) nd rfl (by first | exact Or.inl rfl | exact Or.inr rfl) (de_tup (da_cons (dk_call F__law_minus (guards_in gd) (hr.mono (by decide)) rfl (da_cons (dv 3) (da_cons (dv 5) da_nil))) (da_cons (dk_call F__law_plus (guards_in gd) (hr.mono (by decide)) rfl (da_cons (dv 3) (da_cons (dv 6) da_nil))) da_nil)))) (dss_one (ds_ret (de_cmp (o_eq hr.units) s_eq (de_callB (c_repr gd hr.units) s_repr (by rfl) T.n_repr (by decide +kernel) (da_cons (dk_call F_simplest (guards_in gd) (hr.mono (by decide)) rfl (da_cons (dv 7) da_nil)) da_nil)) (de_callB (c_repr gd hr.units) s_repr (by rfl) T.n_repr (by decide +kernel) (da_cons (dv 3) da_nil)) (nomark _))))))))))) vc__law_narrow_right k__law_narrow_right.nx
  exact ⟨⟨_, fd, G, T.g__law_narrow_right, F.kp, F.bindsN (ps := ["pot"]) (fun _ _ _ _ _ _ us hl => match us, hl with | [_], _ => rfl), FunD.at_ F⟩, k__law_narrow_right.ms⟩
theorem ok__law_pot (T : Tx K mg)  : Kn P w K mg base 1 "_law_pot" ["script", "k"] sp__law_pot := by
  obtain ⟨fd, F⟩ := T.d__law_pot
  have nd := sc__law_pot.nd
  have G : FnG P w K mg base CX0 (0 + 1) (He.ga K "_law_pot") fd ["script", "k"] (lSp K mg sp__law_pot) := dfnG (t := t__law_pot) F sc__law_pot k__law_pot.len (fun cdv A outer s H E gd hr =>
    (dss_cons (ds_set (i := 2) nd rfl (by first | exact Or.inl rfl | exact Or.inr rfl) (de_if (dt_cmp op_lt s_lt (dv 1) (de_callB call_len s_len (by rfl) T.n_len (by decide +kernel) (da_cons (dv 0) da_nil)) (nomark _)) (de_callB call_abs s_abs (by rfl) T.n_abs (by decide +kernel) (da_cons (de_ix ix_seq s_ix (dv 0) (dv 1)) da_nil)) (de_bin o_add s_add (de_bin o_mul s_mul de_int (dv 1)) de_int))) (dss_one (ds_ret (de_lstO (da_cons (de_callB (call_max2 rfl) s_max2 (by rfl) T.n_max (by decide +kernel) (da_cons de_int (da_cons (de_bin op_sub s_sub (dv 2) (de_bin op_pow s_pow de_int de_int)) da_nil))) (da_cons (de_bin o_add s_add (de_bin op_modN s_mod (de_callTy call_int1 s_int1c (by rfl) T.n_int (by decide +kernel) (da_cons (de_bin o_add s_add (de_bin o_add s_add (de_bin o_mul s_mul (de_bin op_modN s_mod (de_callTy call_int1 s_int1c (by rfl) T.n_int (by decide +kernel) (da_cons (dv 2) da_nil)) de_int) de_int) (de_bin o_mul s_mul de_int (dv 1))) de_int) da_nil)) de_int) de_int) da_nil))))))) vc__law_pot k__law_pot.nx
  exact ⟨⟨_, fd, G, T.g__law_pot, F.kp, F.bindsN (ps := ["script", "k"]) (fun _ _ _ _ _ _ us hl => match us, hl with | [_, _], _ => rfl), FunD.at_ F⟩, k__law_pot.ms⟩
theorem ok_law (T : Tx K mg) (F__law_drawn_right : Kn P w K mg base 7 "_law_drawn_right" ["pot"] sp__law_drawn_right) (F__law_narrow_right : Kn P w K mg base 7 "_law_narrow_right" ["pot"] sp__law_narrow_right) (F__law_great_right : Kn P w K mg base 7 "_law_great_right" ["pot"] sp__law_great_right) (F__law_pot : Kn P w K mg base 1 "_law_pot" ["script", "k"] sp__law_pot) : Kn P w K mg base 8 "law" ["script"] sp_law := by
  obtain ⟨fd, F⟩ := T.d_law
  have nd := sc_law.nd
  have G : FnG P w K mg base CX0 (7 + 1) (He.ga K "law") fd ["script"] (lSp K mg sp_law) := dfnG (t := t_law) F sc_law k_law.len (fun cdv A outer s H E gd hr =>
    (dss_cons (ds_for PassesOwn.never rfl (di_range1 (by rfl) T.n_range (da_cons (de_callB (call_max2 rfl) s_max2 (by rfl) T.n_max (by decide +kernel) (da_cons de_int (da_cons (de_callB (call_min2 rfl) s_min2 (by rfl) T.n_min (by decide +kernel) (da_cons de_int (da_cons (de_callB call_len s_len (by rfl) T.n_len (by decide +kernel) (da_cons (dv 0) da_nil)) da_nil))) da_nil))) da_nil)) (dg_name (i := 1) nd rfl (by first | exact Or.inl rfl | exact Or.inr rfl)) (dss_cons (ds_set (i := 2) nd rfl (by first | exact Or.inl rfl | exact Or.inr rfl) (dk_call F__law_pot (guards_in gd) (hr.mono (by decide)) rfl (da_cons (dv 0) (da_cons (dv 1) da_nil)))) (dss_one (ds_if (DW.pt (dw_or (dt_not (dt_val (de_callB (cr_all rfl) s_all (by rfl) T.n_all (by decide +kernel) (da_cons (de_comp rfl nd (di_range1 (by rfl) T.n_range (da_cons de_int da_nil)) (blkOk_by (own := [("turn", 3)]) (N := N_law) (sc := defScope s_law) (by decide +kernel)) (fun _ _ _ _ _ => (dg_name (i := 3) nd rfl (by first | exact Or.inl rfl | exact Or.inr rfl))) (fun _ _ _ _ _ => dts_nil) (fun _ _ _ _ _ => (dk_call F__law_drawn_right (guards_in gd) (hr.mono (by decide)) rfl (da_cons (dv 2) da_nil))) mono_gN mono_Yes (mono_Call F__law_drawn_right.ms (mono_Cons mono_Var mono_Nil))) da_nil)))) (dw_or (dt_not (dt_val (dk_call F__law_narrow_right (guards_in gd) (hr.mono (by decide)) rfl (da_cons (dv 2) da_nil)))) (dw_or1 (dt_not (dt_val (dk_call F__law_great_right (guards_in gd) (hr.mono (by decide)) rfl (da_cons (dv 2) da_nil)))))))) (dss_one (ds_ret de_bl)) dss_nil)))) (dss_one (ds_ret de_bl)))) vc_law k_law.nx
  exact ⟨⟨_, fd, G, T.g_law, F.kp, F.bindsN (ps := ["script"]) (fun _ _ _ _ _ _ us hl => match us, hl with | [_], _ => rfl), FunD.at_ F⟩, k_law.ms⟩
end K11

/-! the head; printed by gen.py -/
namespace K11
open PySem PySem.Spec PyProof.Rows L2 DL
section
variable {P : Program} {w : World} {K : PySem.W.Frag} {mg : Str → Option Value} {base : Heap}
theorem ok_all (T : Tx K mg) : Kn P w K mg base 8 "law" ["script"] sp_law := by
  have F__law_draw := ok__law_draw (P := P) (w := w) (base := base) T 
  have F__law_gcd := ok__law_gcd (P := P) (w := w) (base := base) T 
  have F__law_made := ok__law_made (P := P) (w := w) (base := base) T F__law_gcd
  have F__law_due := ok__law_due (P := P) (w := w) (base := base) T F__law_made
  have F__law_lower := ok__law_lower (P := P) (w := w) (base := base) T 
  have F__law_plus := ok__law_plus (P := P) (w := w) (base := base) T F__law_made
  have F_lower := ok_lower (P := P) (w := w) (base := base) T 
  have F_is_integer := ok_is_integer (P := P) (w := w) (base := base) T 
  have F_is_fraction := ok_is_fraction (P := P) (w := w) (base := base) T F_is_integer
  have F_want_fraction := ok_want_fraction (P := P) (w := w) (base := base) T F_is_fraction
  have F_is_stretch := ok_is_stretch (P := P) (w := w) (base := base) T F_lower F_is_fraction
  have F_want_stretch := ok_want_stretch (P := P) (w := w) (base := base) T F_is_stretch
  have F_is_in := ok_is_in (P := P) (w := w) (base := base) T F_lower F_want_fraction F_want_stretch
  have F_ceiling_of := ok_ceiling_of (P := P) (w := w) (base := base) T 
  have F_floor_of := ok_floor_of (P := P) (w := w) (base := base) T 
  have F_fraction := ok_fraction (P := P) (w := w) (base := base) T 
  have F_parted := ok_parted (P := P) (w := w) (base := base) T F_fraction
  have F_simplest_below__0 := ok_simplest_below__0 (P := P) (w := w) (base := base) T 
  have F_taken := ok_taken (P := P) (w := w) (base := base) T F_fraction
  have F_simplest_of__0 := ok_simplest_of__0 (P := P) (w := w) (base := base) T F_fraction F_ceiling_of F_floor_of F_parted F_taken F_lower F_simplest_below__0
  have F_simplest_below := ok_simplest_below (P := P) (w := w) (base := base) T F_simplest_of__0
  have F_simplest_of := ok_simplest_of (P := P) (w := w) (base := base) T F_fraction F_ceiling_of F_floor_of F_parted F_taken F_lower F_simplest_below
  obtain ⟨F_simplest, W_simplest_0_stretch⟩ := ok_simplest (P := P) (w := w) (base := base) T F_simplest_of F_want_stretch
  have F__law_drawn_right := ok__law_drawn_right (P := P) (w := w) (base := base) T F_simplest F_is_in F__law_due F__law_lower F__law_draw F__law_plus F__law_made W_simplest_0_stretch
  have F__law_minus := ok__law_minus (P := P) (w := w) (base := base) T F__law_made
  have F__law_pick := ok__law_pick (P := P) (w := w) (base := base) T F__law_draw
  have F__law_some := ok__law_some (P := P) (w := w) (base := base) T F__law_made F__law_draw F__law_pick
  have F__law_great_right := ok__law_great_right (P := P) (w := w) (base := base) T F_simplest F__law_minus F__law_plus F__law_draw F__law_made F__law_some
  have F__law_narrow_right := ok__law_narrow_right (P := P) (w := w) (base := base) T F_simplest F__law_minus F__law_plus F__law_made F__law_draw F__law_pick
  have F__law_pot := ok__law_pot (P := P) (w := w) (base := base) T 
  have F_law := ok_law (P := P) (w := w) (base := base) T F__law_drawn_right F__law_narrow_right F__law_great_right F__law_pot
  exact F_law
end
def dd__law_draw : He.DefD := ⟨("_law_draw", none), "_law_draw", "_law_draw", defArgs s__law_draw, defBody s__law_draw, defScope s__law_draw, [], []⟩
def dd__law_gcd : He.DefD := ⟨("_law_gcd", none), "_law_gcd", "_law_gcd", defArgs s__law_gcd, defBody s__law_gcd, defScope s__law_gcd, [], []⟩
def dd__law_made : He.DefD := ⟨("_law_made", none), "_law_made", "_law_made", defArgs s__law_made, defBody s__law_made, defScope s__law_made, [], []⟩
def dd__law_due : He.DefD := ⟨("_law_due", none), "_law_due", "_law_due", defArgs s__law_due, defBody s__law_due, defScope s__law_due, [], []⟩
def dd__law_lower : He.DefD := ⟨("_law_lower", none), "_law_lower", "_law_lower", defArgs s__law_lower, defBody s__law_lower, defScope s__law_lower, [], []⟩
def dd__law_plus : He.DefD := ⟨("_law_plus", none), "_law_plus", "_law_plus", defArgs s__law_plus, defBody s__law_plus, defScope s__law_plus, [], []⟩
def dd_lower : He.DefD := ⟨("lower", none), "lower", "lower", defArgs s_lower, defBody s_lower, defScope s_lower, [], []⟩
def dd_is_integer : He.DefD := ⟨("is_integer", none), "is_integer", "is_integer", defArgs s_is_integer, defBody s_is_integer, defScope s_is_integer, [], []⟩
def dd_is_fraction : He.DefD := ⟨("is_fraction", none), "is_fraction", "is_fraction", defArgs s_is_fraction, defBody s_is_fraction, defScope s_is_fraction, [], []⟩
def dd_want_fraction : He.DefD := ⟨("want_fraction", none), "want_fraction", "want_fraction", defArgs s_want_fraction, defBody s_want_fraction, defScope s_want_fraction, [], []⟩
def dd_is_stretch : He.DefD := ⟨("is_stretch", none), "is_stretch", "is_stretch", defArgs s_is_stretch, defBody s_is_stretch, defScope s_is_stretch, [], []⟩
def dd_want_stretch : He.DefD := ⟨("want_stretch", none), "want_stretch", "want_stretch", defArgs s_want_stretch, defBody s_want_stretch, defScope s_want_stretch, [], []⟩
def dd_is_in : He.DefD := ⟨("is_in", none), "is_in", "is_in", defArgs s_is_in, defBody s_is_in, defScope s_is_in, [], []⟩
def dd_ceiling_of : He.DefD := ⟨("ceiling_of", none), "ceiling_of", "ceiling_of", defArgs s_ceiling_of, defBody s_ceiling_of, defScope s_ceiling_of, [], []⟩
def dd_floor_of : He.DefD := ⟨("floor_of", none), "floor_of", "floor_of", defArgs s_floor_of, defBody s_floor_of, defScope s_floor_of, [], []⟩
def dd_fraction : He.DefD := ⟨("fraction", none), "fraction", "fraction", defArgs s_fraction, defBody s_fraction, defScope s_fraction, [], []⟩
def dd_parted : He.DefD := ⟨("parted", none), "parted", "parted", defArgs s_parted, defBody s_parted, defScope s_parted, [], []⟩
def dd_taken : He.DefD := ⟨("taken", none), "taken", "taken", defArgs s_taken, defBody s_taken, defScope s_taken, [], []⟩
def dd_simplest_below : He.DefD := ⟨("simplest_below", none), "simplest_below", "simplest_below", defArgs s_simplest_below, defBody s_simplest_below, defScope s_simplest_below, [], []⟩
def dd_simplest_of : He.DefD := ⟨("simplest_of", none), "simplest_of", "simplest_of", defArgs s_simplest_of, defBody s_simplest_of, defScope s_simplest_of, [], []⟩
def dd_simplest : He.DefD := ⟨("simplest", none), "simplest", "simplest", defArgs s_simplest, defBody s_simplest, defScope s_simplest, [], []⟩
def dd__law_drawn_right : He.DefD := ⟨("_law_drawn_right", none), "_law_drawn_right", "_law_drawn_right", defArgs s__law_drawn_right, defBody s__law_drawn_right, defScope s__law_drawn_right, [], []⟩
def dd__law_minus : He.DefD := ⟨("_law_minus", none), "_law_minus", "_law_minus", defArgs s__law_minus, defBody s__law_minus, defScope s__law_minus, [], []⟩
def dd__law_pick : He.DefD := ⟨("_law_pick", none), "_law_pick", "_law_pick", defArgs s__law_pick, defBody s__law_pick, defScope s__law_pick, [], []⟩
def dd__law_some : He.DefD := ⟨("_law_some", none), "_law_some", "_law_some", defArgs s__law_some, defBody s__law_some, defScope s__law_some, [], []⟩
def dd__law_great_right : He.DefD := ⟨("_law_great_right", none), "_law_great_right", "_law_great_right", defArgs s__law_great_right, defBody s__law_great_right, defScope s__law_great_right, [], []⟩
def dd__law_narrow_right : He.DefD := ⟨("_law_narrow_right", none), "_law_narrow_right", "_law_narrow_right", defArgs s__law_narrow_right, defBody s__law_narrow_right, defScope s__law_narrow_right, [], []⟩
def dd__law_pot : He.DefD := ⟨("_law_pot", none), "_law_pot", "_law_pot", defArgs s__law_pot, defBody s__law_pot, defScope s__law_pot, [], []⟩
def dd_law : He.DefD := ⟨("law", none), "law", "law", defArgs s_law, defBody s_law, defScope s_law, [], []⟩
def fn : List He.DefD := [dd__law_draw, dd__law_gcd, dd__law_made, dd__law_due, dd__law_lower, dd__law_plus, dd_lower, dd_is_integer, dd_is_fraction, dd_want_fraction, dd_is_stretch, dd_want_stretch, dd_is_in, dd_ceiling_of, dd_floor_of, dd_fraction, dd_parted, dd_taken, dd_simplest_below, dd_simplest_of, dd_simplest, dd__law_drawn_right, dd__law_minus, dd__law_pick, dd__law_some, dd__law_great_right, dd__law_narrow_right, dd__law_pot, dd_law]
def fa : List He.Fa := [.glo "_law_draw", .glo "_law_gcd", .glo "_law_made", .glo "_law_due", .glo "_law_lower", .glo "_law_plus", .glo "lower", .glo "is_integer", .glo "is_fraction", .glo "want_fraction", .glo "is_stretch", .glo "want_stretch", .glo "is_in", .glo "ceiling_of", .glo "floor_of", .glo "fraction", .glo "parted", .glo "taken", .glo "simplest_below", .glo "simplest_of", .glo "simplest", .glo "_law_drawn_right", .glo "_law_minus", .glo "_law_pick", .glo "_law_some", .glo "_law_great_right", .glo "_law_narrow_right", .glo "_law_pot", .glo "law", .free "abs", .free "all", .free "bool", .free "divmod", .free "int", .free "isinstance", .free "len", .free "max", .free "min", .free "range", .free "repr", .free "tuple", .glo "NOUGHT"]
def bx : List (PySem.W.Frag → Bool) := [fun K => He.tupB K "NOUGHT" [.int 0, .int 1], fun K => He.eqO (PySem.W.nsIn K mainGlobals "gcd") (some (some (.builtin "math.gcd")))]
def loose0 : List Str := ["HeldError", "InvalidFraction", "InvalidStretch", "is_integer", "NOUGHT", "fraction", "lower", "taken", "parted", "floor_of"]
def loose1 : List Str := ["ceiling_of", "is_fraction", "want_fraction", "is_stretch", "want_stretch", "simplest_of", "simplest_below", "is_in", "simplest", "_law_pot"]
def loose2 : List Str := ["_law_draw", "_law_pick", "_law_gcd", "_law_made", "_law_lower", "_law_plus", "_law_minus", "_law_times", "_law_over", "_law_least"]
def loose3 : List Str := ["_law_greatest", "_law_some", "_law_stretch", "_law_lies", "_law_due", "_law_drawn_right", "_law_narrow_right", "_law_great_right"]
abbrev loose : List Str := loose0 ++ loose1 ++ loose2 ++ loose3
abbrev R : PySem.W.OpenRow := PySem.W.OpenLaw.row PySem.Challenge.rw_surelyheld_k11_whole_simplest_fractions
abbrev hk : PySem.W.Hook := hookX 4 fa fn bx
def ob (s : PySem.W.SharedT) : AlX := obsXG 4 fa fn bx (HandSHeadRun.getT s)
theorem ob_eq (s : PySem.W.SharedT) : ob s = hk.obs s.abs := obsXG_eq (HandSHeadRun.getT_eq s)
theorem run (w : World) : HandSHeadRun.RunEqI R (PySem.W.view R.prog [0, 44]) hk ob 4000 loose w := by
  unfold HandSHeadRun.RunEqI
  kernel_rfl
theorem facts {K : PySem.W.Frag} {h : Heap} {mg : Str → Option Value} (X : K.In h) (G : h.Ns mainGlobals mg) (c : SaysX fa fn bx K) : Tx K mg where
  d__law_draw := by
    obtain ⟨fd, F⟩ := c.d.def_ 0 (d := dd__law_draw) rfl
    exact ⟨fd, F⟩
  g__law_draw := He.glo_ok X G (c.d.fact 0 (f := .glo "_law_draw") rfl)
  d__law_gcd := by
    obtain ⟨fd, F⟩ := c.d.def_ 1 (d := dd__law_gcd) rfl
    exact ⟨fd, F⟩
  g__law_gcd := He.glo_ok X G (c.d.fact 1 (f := .glo "_law_gcd") rfl)
  d__law_made := by
    obtain ⟨fd, F⟩ := c.d.def_ 2 (d := dd__law_made) rfl
    exact ⟨fd, F⟩
  g__law_made := He.glo_ok X G (c.d.fact 2 (f := .glo "_law_made") rfl)
  d__law_due := by
    obtain ⟨fd, F⟩ := c.d.def_ 3 (d := dd__law_due) rfl
    exact ⟨fd, F⟩
  g__law_due := He.glo_ok X G (c.d.fact 3 (f := .glo "_law_due") rfl)
  d__law_lower := by
    obtain ⟨fd, F⟩ := c.d.def_ 4 (d := dd__law_lower) rfl
    exact ⟨fd, F⟩
  g__law_lower := He.glo_ok X G (c.d.fact 4 (f := .glo "_law_lower") rfl)
  d__law_plus := by
    obtain ⟨fd, F⟩ := c.d.def_ 5 (d := dd__law_plus) rfl
    exact ⟨fd, F⟩
  g__law_plus := He.glo_ok X G (c.d.fact 5 (f := .glo "_law_plus") rfl)
  d_lower := by
    obtain ⟨fd, F⟩ := c.d.def_ 6 (d := dd_lower) rfl
    exact ⟨fd, F⟩
  g_lower := He.glo_ok X G (c.d.fact 6 (f := .glo "lower") rfl)
  d_is_integer := by
    obtain ⟨fd, F⟩ := c.d.def_ 7 (d := dd_is_integer) rfl
    exact ⟨fd, F⟩
  g_is_integer := He.glo_ok X G (c.d.fact 7 (f := .glo "is_integer") rfl)
  d_is_fraction := by
    obtain ⟨fd, F⟩ := c.d.def_ 8 (d := dd_is_fraction) rfl
    exact ⟨fd, F⟩
  g_is_fraction := He.glo_ok X G (c.d.fact 8 (f := .glo "is_fraction") rfl)
  d_want_fraction := by
    obtain ⟨fd, F⟩ := c.d.def_ 9 (d := dd_want_fraction) rfl
    exact ⟨fd, F⟩
  g_want_fraction := He.glo_ok X G (c.d.fact 9 (f := .glo "want_fraction") rfl)
  d_is_stretch := by
    obtain ⟨fd, F⟩ := c.d.def_ 10 (d := dd_is_stretch) rfl
    exact ⟨fd, F⟩
  g_is_stretch := He.glo_ok X G (c.d.fact 10 (f := .glo "is_stretch") rfl)
  d_want_stretch := by
    obtain ⟨fd, F⟩ := c.d.def_ 11 (d := dd_want_stretch) rfl
    exact ⟨fd, F⟩
  g_want_stretch := He.glo_ok X G (c.d.fact 11 (f := .glo "want_stretch") rfl)
  d_is_in := by
    obtain ⟨fd, F⟩ := c.d.def_ 12 (d := dd_is_in) rfl
    exact ⟨fd, F⟩
  g_is_in := He.glo_ok X G (c.d.fact 12 (f := .glo "is_in") rfl)
  d_ceiling_of := by
    obtain ⟨fd, F⟩ := c.d.def_ 13 (d := dd_ceiling_of) rfl
    exact ⟨fd, F⟩
  g_ceiling_of := He.glo_ok X G (c.d.fact 13 (f := .glo "ceiling_of") rfl)
  d_floor_of := by
    obtain ⟨fd, F⟩ := c.d.def_ 14 (d := dd_floor_of) rfl
    exact ⟨fd, F⟩
  g_floor_of := He.glo_ok X G (c.d.fact 14 (f := .glo "floor_of") rfl)
  d_fraction := by
    obtain ⟨fd, F⟩ := c.d.def_ 15 (d := dd_fraction) rfl
    exact ⟨fd, F⟩
  g_fraction := He.glo_ok X G (c.d.fact 15 (f := .glo "fraction") rfl)
  d_parted := by
    obtain ⟨fd, F⟩ := c.d.def_ 16 (d := dd_parted) rfl
    exact ⟨fd, F⟩
  g_parted := He.glo_ok X G (c.d.fact 16 (f := .glo "parted") rfl)
  d_taken := by
    obtain ⟨fd, F⟩ := c.d.def_ 17 (d := dd_taken) rfl
    exact ⟨fd, F⟩
  g_taken := He.glo_ok X G (c.d.fact 17 (f := .glo "taken") rfl)
  d_simplest_below := by
    obtain ⟨fd, F⟩ := c.d.def_ 18 (d := dd_simplest_below) rfl
    exact ⟨fd, F⟩
  g_simplest_below := He.glo_ok X G (c.d.fact 18 (f := .glo "simplest_below") rfl)
  d_simplest_of := by
    obtain ⟨fd, F⟩ := c.d.def_ 19 (d := dd_simplest_of) rfl
    exact ⟨fd, F⟩
  g_simplest_of := He.glo_ok X G (c.d.fact 19 (f := .glo "simplest_of") rfl)
  d_simplest := by
    obtain ⟨fd, F⟩ := c.d.def_ 20 (d := dd_simplest) rfl
    exact ⟨fd, F⟩
  g_simplest := He.glo_ok X G (c.d.fact 20 (f := .glo "simplest") rfl)
  d__law_drawn_right := by
    obtain ⟨fd, F⟩ := c.d.def_ 21 (d := dd__law_drawn_right) rfl
    exact ⟨fd, F⟩
  g__law_drawn_right := He.glo_ok X G (c.d.fact 21 (f := .glo "_law_drawn_right") rfl)
  d__law_minus := by
    obtain ⟨fd, F⟩ := c.d.def_ 22 (d := dd__law_minus) rfl
    exact ⟨fd, F⟩
  g__law_minus := He.glo_ok X G (c.d.fact 22 (f := .glo "_law_minus") rfl)
  d__law_pick := by
    obtain ⟨fd, F⟩ := c.d.def_ 23 (d := dd__law_pick) rfl
    exact ⟨fd, F⟩
  g__law_pick := He.glo_ok X G (c.d.fact 23 (f := .glo "_law_pick") rfl)
  d__law_some := by
    obtain ⟨fd, F⟩ := c.d.def_ 24 (d := dd__law_some) rfl
    exact ⟨fd, F⟩
  g__law_some := He.glo_ok X G (c.d.fact 24 (f := .glo "_law_some") rfl)
  d__law_great_right := by
    obtain ⟨fd, F⟩ := c.d.def_ 25 (d := dd__law_great_right) rfl
    exact ⟨fd, F⟩
  g__law_great_right := He.glo_ok X G (c.d.fact 25 (f := .glo "_law_great_right") rfl)
  d__law_narrow_right := by
    obtain ⟨fd, F⟩ := c.d.def_ 26 (d := dd__law_narrow_right) rfl
    exact ⟨fd, F⟩
  g__law_narrow_right := He.glo_ok X G (c.d.fact 26 (f := .glo "_law_narrow_right") rfl)
  d__law_pot := by
    obtain ⟨fd, F⟩ := c.d.def_ 27 (d := dd__law_pot) rfl
    exact ⟨fd, F⟩
  g__law_pot := He.glo_ok X G (c.d.fact 27 (f := .glo "_law_pot") rfl)
  d_law := by
    obtain ⟨fd, F⟩ := c.d.def_ 28 (d := dd_law) rfl
    exact ⟨fd, F⟩
  g_law := He.glo_ok X G (c.d.fact 28 (f := .glo "law") rfl)
  n_abs := He.free_ok X G (c.d.fact 29 (f := .free "abs") rfl)
  n_all := He.free_ok X G (c.d.fact 30 (f := .free "all") rfl)
  n_bool := He.free_ok X G (c.d.fact 31 (f := .free "bool") rfl)
  n_divmod := He.free_ok X G (c.d.fact 32 (f := .free "divmod") rfl)
  n_int := He.free_ok X G (c.d.fact 33 (f := .free "int") rfl)
  n_isinstance := He.free_ok X G (c.d.fact 34 (f := .free "isinstance") rfl)
  n_len := He.free_ok X G (c.d.fact 35 (f := .free "len") rfl)
  n_max := He.free_ok X G (c.d.fact 36 (f := .free "max") rfl)
  n_min := He.free_ok X G (c.d.fact 37 (f := .free "min") rfl)
  n_range := He.free_ok X G (c.d.fact 38 (f := .free "range") rfl)
  n_repr := He.free_ok X G (c.d.fact 39 (f := .free "repr") rfl)
  n_tuple := He.free_ok X G (c.d.fact 40 (f := .free "tuple") rfl)
  g_NOUGHT := He.glo_ok X G (c.d.fact 41 (f := .glo "NOUGHT") rfl)
  d_NOUGHT := fun W => dat_tupB (c.b 0 rfl) (by decide) (.cons datI (.cons datI .nil))
  g_gcd := PySem.W.mg_of X G (He.eqO_ok (c.b 1 rfl))
end K11
open PySem PySem.W PySem.Calls PyProof.Rows in
set_option maxHeartbeats 0 in
theorem PySem.Challenge.cw_surelyheld_k11_whole_simplest_fractions_holds : PySem.Challenge.rw_surelyheld_k11_whole_simplest_fractions.Holds := by
  w_on; o_law
  refine HandSHeadRun.head_imp (r := OpenLaw.row PySem.Challenge.rw_surelyheld_k11_whole_simplest_fractions) (q := view (OpenLaw.row PySem.Challenge.rw_surelyheld_k11_whole_simplest_fractions).prog [0, 44]) (H := K11.hk) (ob := K11.ob) (M := 4000) (loose := K11.loose) (d := HandSHeadRun.topDef (OpenLaw.row PySem.Challenge.rw_surelyheld_k11_whole_simplest_fractions).prog 44) (kwd := []) K11.ob_eq
    K11.run (by kernel_rfl) (by kernel_rfl) (by kernel_rfl) (by rfl) (by first | assumption | decide +kernel) (by decide +kernel) ⟨rfl, rfl, rfl, rfl, rfl, by decide +kernel⟩ ?hw ?hc
  case hw => w_witness2
  case hc =>
    refine DL.walkG (l := PySem.Challenge.rw_surelyheld_k11_whole_simplest_fractions) (n := 63) (k := 8) (x := "script") rfl (by decide) (by kernel_rfl) ⟨rfl, by decide, by decide⟩ ?_
    intro w mg fa h Y G hmg0
    obtain ⟨K, KX, c⟩ := Y
    have hmg : mg ("law" : PySem.Str) = some (.ref fa) := by
      have e : (HandSHeadRun.topDef (OpenLaw.row PySem.Challenge.rw_surelyheld_k11_whole_simplest_fractions).prog 44).name = ("law" : PySem.Str) := by kernel_rfl
      rw [← e]
      exact hmg0
    have T := K11.facts KX G c
    have e := hmg.symm.trans T.g_law
    cases e
    exact DL.law_end KX T.d_law T.g_law (fun base => K11.ok_all (P := (PySem.Challenge.rw_surelyheld_k11_whole_simplest_fractions).prog) (w := w) (base := base) T) (fun _ _ _ _ _ _ us hl => match us, hl with | [_], _ => rfl) K11.law_here
#print axioms PySem.Challenge.cw_surelyheld_k11_whole_simplest_fractions_holds
