import PyProof.Rows.All
import Wide.All
import OpenK.AllK
import Wide.FinOn
import HandS.ForMost
import HandS.Exc
import HandS.ExcOwn
import HandS.TryOnly
import HandS.WordsExc
import HandS.CallSlots
import HandS.IsInst
import HandS.DictComp
import HandS.Style
import HandS.Flow
import HandS.Defaults
import KE.KExcInit
import KE.KExcMake
import KE.KExcPX
import KE.KExcIs
import KE.KIsAll
import HandS.ExcInit
import HandS.ExcValue
import HandS.HeadHook1
import HandS.Ends
import HandS.EndBits
import HandS.Head0
import HandS.Head1
import HandS.Head2
import HandS.HeadHook2
import HandS.HeadEnd
import KE.KStateDown
import PySem.Challenge.RW_anyshape_k16_errors_and_their_classes
set_option Elab.async false
set_option linter.all false
set_option maxRecDepth 100000
set_option maxHeartbeats 4000000
/-! E1: the reading of a piece of Python is COMPUTED from its syntax (wp), by fuel; one theorem (sound) says that each computed reading is a right one. What operators, built-ins, defs, methods mean is an oracle Γ, told apart. -/
namespace AS
open PySem PySem.Spec PyProof.Rows L2
abbrev St := L2.St

/-! ### readings that say nothing -/
def nE : TE := fun _ _ _ => False
def nT : TT := fun _ _ _ => False
def nA : TA := fun _ _ _ => False
def nS : TS := fun _ _ _ => False
def nG : TG := fun _ _ _ _ => False
def nGs : TGs := fun _ _ _ _ => False
def nI : TI := fun _ _ _ => False
section
variable {X : Cx}
theorem pe_n {e : Expr} : PE X e nE := ⟨fun _ _ _ _ _ _ h => h.elim⟩
theorem pt_n {e : Expr} : PT X e nT := ⟨fun _ _ _ _ _ _ h => h.elim⟩
theorem pa_n {es : List Expr} : PA X es nA := ⟨fun _ _ _ _ _ _ _ h => h.elim⟩
theorem ps_n {s : Stmt} : PS X s nS := ⟨fun _ _ _ _ _ _ h => h.elim⟩
theorem pss_n {s : List Stmt} : PSs X s nS := ⟨fun _ _ _ _ _ _ h => h.elim⟩
theorem pg_n {e : Expr} : PG X e nG := ⟨fun _ _ _ _ _ _ _ _ _ h => h.elim⟩
theorem pgs_n {es : List Expr} : PGs X es nGs := ⟨fun _ _ _ _ _ _ _ _ _ h => h.elim⟩
theorem pi_n {tg e : Expr} : PI X tg e nI := ⟨fun _ _ _ _ _ _ h => h.elim⟩
theorem pe_imp {e : Expr} {t t' : TE} (h : PE X e t) (hi : ∀ σ H Q, t' σ H Q → t σ H Q) : PE X e t' := ⟨fun pins s σ H Q I q => h.run pins s σ H Q I (hi σ H Q q)⟩
theorem pt_imp {e : Expr} {t t' : TT} (h : PT X e t) (hi : ∀ σ H Q, t' σ H Q → t σ H Q) : PT X e t' := ⟨fun pins s σ H Q I q => h.run pins s σ H Q I (hi σ H Q q)⟩
theorem ps_imp {e : Stmt} {t t' : TS} (h : PS X e t) (hi : ∀ D σ H, t' D σ H → t D σ H) : PS X e t' := ⟨fun pins s σ H D I q => h.run pins s σ H D I (hi D σ H q)⟩
def oE (t u : TE) : TE := fun σ H Q => t σ H Q ∨ u σ H Q
theorem pe_or {e : Expr} {t u : TE} (h : PE X e t) (k : PE X e u) : PE X e (oE t u) := ⟨fun pins s σ H Q I q => q.elim (h.run pins s σ H Q I) (k.run pins s σ H Q I)⟩
def oS (t u : TS) : TS := fun D σ H => t D σ H ∨ u D σ H
theorem ps_or {e : Stmt} {t u : TS} (h : PS X e t) (k : PS X e u) : PS X e (oS t u) := ⟨fun pins s σ H D I q => q.elim (h.run pins s σ H D I) (k.run pins s σ H D I)⟩
def oI (t u : TI) : TI := fun σ H R => t σ H R ∨ u σ H R
theorem pi_or {tg e : Expr} {t u : TI} (h : PI X tg e t) (k : PI X tg e u) : PI X tg e (oI t u) := ⟨fun pins s σ H R I q => q.elim (h.run pins s σ H R I) (k.run pins s σ H R I)⟩
def oG (t u : TG) : TG := fun v σ H Q => t v σ H Q ∨ u v σ H Q
theorem pg_or {e : Expr} {t u : TG} (h : PG X e t) (k : PG X e u) : PG X e (oG t u) := ⟨fun pins s σ H v w Q I r q => q.elim (h.run pins s σ H v w Q I r) (k.run pins s σ H v w Q I r)⟩
end

/-! ### syntax -/
def plainA : Expr → Bool
  | .Starred _ _ => false
  | _ => true
def isComp : Expr → Bool
  | .ListComp _ _ _ _ => true
  | .SetComp _ _ _ _ => true
  | .DictComp _ _ _ _ _ => true
  | _ => false
def isTest : Expr → Bool
  | .UnaryOp .Not _ _ => true
  | .BoolOp _ _ _ => true
  | .IfExp _ _ _ _ => true
  | .Compare _ _ _ _ => true
  | _ => false
def isSet : Expr → Bool
  | .Set _ _ _ => true
  | _ => false
/-- super() ahead of an attribute -/
def isSup : Expr → Bool
  | .Call (.Name _ _) [] [] _ => true
  | _ => false
theorem star_one {env : Env} {e : Expr} {es : List Expr} (h : plainA e = true) : starEach (e :: es) env = (false, eval e env) :: starEach es env := by
  cases e <;> first | rfl | cases h
theorem star_all {env : Env} {pos : Pos} : ∀ {es : List Expr}, es.all plainA = true → (backTo pos (starEach es env)).any (·.1) = false
  | [], _ => rfl
  | e :: es, h => by
    obtain ⟨h1, h2⟩ := Bool.and_eq_true_iff.mp (show (plainA e && es.all plainA) = true from h)
    rw [star_one h1]
    exact star_all h2
theorem swap_no {env : Env} {e : Expr} {t : Option Expr} {l : Nat} (h : isComp e = false) : swapsWith e t l env = pure false := by
  cases e <;> first | rfl | cases h
theorem swap_att {env : Env} {e o : Expr} {f : Str} {p : Pos} {l : Nat} : swapsWith e (some (.Attribute o f p)) l env = pure false := by
  cases e <;> rfl
theorem truth_no {env : Env} {e : Expr} (h : isTest e = false) (whole : Sem Value) : isTrue e env whole = (do let v ← whole; standAt e.pos; holding [v] (truthy v)) := by
  cases e with
  | UnaryOp op a p => cases op <;> first | rfl | cases h
  | _ => first | rfl | cases h
theorem fold_no {env : Env} {e : Expr} (h : isSet e = false) (x : Value) : foldedSetIterable e env x = pure x := by
  cases e <;> first | rfl | cases h
theorem sup_no {env : Env} {e : Expr} {f : Str} {w : Sem Value} (h : isSup e = false) : attributeBase e f env w = w := by
  cases e with
  | Call g as ks p =>
    cases g with
    | Name x q =>
      cases as with
      | nil =>
        cases ks with
        | nil => cases h
        | cons _ _ => rfl
      | cons _ _ => rfl
    | _ => rfl
  | _ => rfl

/-! ### names -/
def slotOf : List Str → Str → Option Nat
  | [], _ => none
  | y :: r, x => if y = x then some 0 else (slotOf r x).map (· + 1)
theorem slotOf_at : ∀ {N : List Str} {x : Str} {i : Nat}, slotOf N x = some i → N[i]? = some x
  | [], _, _, h => by cases h
  | y :: r, x, i, h => by
    unfold slotOf at h
    split at h
    · rename_i e
      cases h
      rw [e]
      rfl
    · cases q : slotOf r x with
      | none => rw [q] at h; cases h
      | some j =>
        rw [q] at h
        cases h
        exact slotOf_at (N := r) q
def visB (sc : Scope) (x : Str) : Bool := match sc.names.lookup x with
  | some .local => true
  | some .cell => true
  | some .free => true
  | _ => false
def locB (sc : Scope) (x : Str) : Bool := match sc.names.lookup x with
  | some .local => true
  | some .cell => true
  | _ => false
def gloB (sc : Scope) (x : Str) : Bool := match sc.names.lookup x with
  | some .globalImplicit => true
  | _ => false
theorem visB_ok {sc : Scope} {x : Str} (h : visB sc x = true) : Vis sc x := by
  unfold visB at h
  split at h <;> first | exact .inl (by assumption) | exact .inr (.inl (by assumption)) | exact .inr (.inr (by assumption)) | cases h
theorem locB_ok {sc : Scope} {x : Str} (h : locB sc x = true) : Loc sc x := by
  unfold locB at h
  split at h <;> first | exact .inl (by assumption) | exact .inr (by assumption) | cases h
theorem gloB_ok {sc : Scope} {x : Str} (h : gloB sc x = true) : sc.names.lookup x = some .globalImplicit := by
  unfold gloB at h
  split at h <;> first | assumption | cases h
def badName (x : Str) : Bool := x == ("__debug__" : Str) || x == ("__classdict__" : Str) || x == ("__name__" : Str)
theorem badName_no {x : Str} (h : badName x = false) : (x == ("__debug__" : Str)) = false ∧ (x == ("__classdict__" : Str)) = false ∧ x ≠ "__name__" := by
  unfold badName at h
  simp only [Bool.or_eq_false_iff] at h
  exact ⟨h.1.1, h.1.2, beq_eq_false_iff_ne.mp h.2⟩
/-- what stands in a slot -/
def sl : St → Nat → Option V
  | [], _ => none
  | v :: _, 0 => v
  | _ :: r, i + 1 => sl r i
theorem sl_at : ∀ {σ : St} {i : Nat} {v : V}, sl σ i = some v → σ[i]? = some (some v)
  | [], _, _, h => by cases h
  | w :: r, 0, v, h => by
    have e : w = some v := h
    rw [e]
    rfl
  | w :: r, i + 1, v, h => by
    have e : sl r i = some v := h
    have q := sl_at e
    simpa using q
/-- the name in slot i -/
def tNm (i : Nat) : TE := fun σ H Q => match sl σ i with
  | some v => Q v H
  | none => False
theorem tNm_var {i : Nat} {σ : St} {H : Hp} {Q : VK} (h : tNm i σ H Q) : tVar i σ H Q := by
  unfold tNm at h
  cases e : sl σ i with
  | none => rw [e] at h; exact h.elim
  | some v => rw [e] at h; exact ⟨v, sl_at e, h⟩

/-! ### the oracle -/
/-- a promise of a call with keywords: the values by places, those of the keywords in the order written -/
abbrev SpK := List V → List V → Hp → VK → XK → Prop
structure Ora where
  bin : Operator → Option R2
  un : UnaryOp → Option (V → Hp → VK → Prop)
  cmp : CmpOp → Option R2
  tru : V → Hp → (Bool → Hp → Prop) → Prop
  glo : Str → Option V
  blt : Str → Bool
  fn : Str → Option Sp
  fnK : Str → List Str → Option SpK
  mt : Str → Option Sp
  att : Str → Option (V → Hp → VK → XK → Prop)
  idx : R2
  sli : V → Option Int → Option Int → Hp → VK → Prop
  put : TSet
  sat : Str → Option (V → V → Hp → (Hp → Prop) → Prop)
/-- o.f = v, by values -/
def SatR (X : Cx) (f : Str) (r : V → V → Hp → (Hp → Prop) → Prop) : Prop := ∀ (pins : List (Addr × Obj)) (s : Shared) (σ : St) (H : Hp) (x y : V) (ov u : Value) (Q : Hp → Prop), Inv X pins σ H s → RelV x ov → RelV y u → r x y H Q →
  wpAny (model X.prog X.w) X.A (setAttr ov f u) (fun _ s' => ∃ H', Inv X pins σ H' s' ∧ Q H') X.xe s
/-- f(..): the arguments, then the promise; what is raised is wished for at these slots -/
def tCl (sp : Sp) (W : WX) (t : TA) : TE := fun σ H Q => t σ H fun vs H1 => sp vs H1 Q fun c d H' => W c d σ H'
/-- f(.., k = ..) -/
def tClK (sp : SpK) (W : WX) (t tk : TA) : TE := fun σ H Q => t σ H fun vs H1 => tk σ H1 fun zs H2 => sp vs zs H2 Q fun c d H' => W c d σ H'
/-- o.m(..) -/
def tMt (sp : Sp) (W : WX) (to : TE) (t : TA) : TE := fun σ H Q => to σ H fun x H1 => t σ H1 fun vs H2 => sp (x :: vs) H2 Q fun c d H' => W c d σ H'
/-- o.f -/
def tAtt (r : V → Hp → VK → XK → Prop) (W : WX) (to : TE) : TE := fun σ H Q => to σ H fun x H1 => r x H1 Q fun c d H' => W c d σ H'
structure OraOk (Γ : Ora) (X : Cx) (W : WX) : Prop where
  bin : ∀ op r, Γ.bin op = some r → OpR X (binaryOp op) r
  un : ∀ op r, Γ.un op = some r → UnR X (unaryOp op) r
  cmp : ∀ op r, Γ.cmp op = some r → OpR X (compareOp op) r
  tru : TruR X Γ.tru
  glo : ∀ x v, Γ.glo x = some v → ∃ u, RelV v u ∧ (X.mg x = some u ∨ (X.mg x = none ∧ bootBuiltins x = some u))
  blt : ∀ x, Γ.blt x = true → X.mg x = none
  fn : ∀ f sp, Γ.fn f = some sp → ∀ (es : List Expr) (t : TA) (p pos : Pos), Gl X f → badName f = false → es.all plainA = true → PA X es t → PE X (.Call (.Name f p) es [] pos) (tCl sp W t)
  fnK : ∀ f ks sp, Γ.fnK f ks = some sp → ∀ (es : List Expr) (kws : List Keyword) (t tk : TA) (p pos : Pos), Gl X f → badName f = false → es.all plainA = true → kws.map (·.arg) = ks.map some → PA X es t → PK X kws tk → PE X (.Call (.Name f p) es kws pos) (tClK sp W t tk)
  mt : ∀ m sp, Γ.mt m = some sp → ∀ (o : Expr) (es : List Expr) (to : TE) (t : TA) (p pos : Pos), isSup o = false → es.all plainA = true → (p.endLine == pos.line) = true → PE X o to → PA X es t → PE X (.Call (.Attribute o m p) es [] pos) (tMt sp W to t)
  att : ∀ f r, Γ.att f = some r → ∀ (o : Expr) (to : TE) (p : Pos), isSup o = false → PE X o to → PE X (.Attribute o f p) (tAtt r W to)
  idx : IxR X Γ.idx
  sli : SlR X Γ.sli
  put : PSet X Γ.put
  sat : ∀ f r, Γ.sat f = some r → SatR X f r
end AS

set_option Elab.async false
set_option linter.all false
set_option maxRecDepth 100000
set_option maxHeartbeats 4000000
namespace AS
open PySem PySem.Spec PyProof.Rows L2

/-! ### the readings, by syntax -/
/-- where a piece of syntax stands: the scope, calm (no exception is handled), which names may be stored, what is wished of exceptions -/
structure Ctx where
  sc : Scope
  c : Bool
  fn : Str → Bool
  W : WX
structure WP where
  E : Expr → TE
  T : Expr → TT
  G : Expr → TG
  I : Expr → Expr → TI
  S : Stmt → TS
def argsT (f : Expr → TE) : List Expr → TA
  | [] => tNil
  | e :: es => if plainA e = true then tCons (f e) (argsT f es) else nA
def kwsT (f : Expr → TE) : List Keyword → TA
  | [] => tNil
  | ⟨_, e, _⟩ :: es => tCons (f e) (kwsT f es)
def blkT (f : Stmt → TS) : List Stmt → TS
  | [] => tNext
  | [s] => f s
  | s :: r => tSeq (f s) (blkT f r)
def andT (f : Expr → TT) : List Expr → TT
  | [] => nT
  | [a] => f a
  | a :: r => tAnd (f a) (andT f r)
def orT (f : Expr → TT) : List Expr → TT
  | [] => nT
  | [a] => f a
  | a :: r => tOr (f a) (orT f r)
/-- a or b, a and b as values, by truth -/
abbrev Tr := V → Hp → (Bool → Hp → Prop) → Prop
def tOrG (tr : Tr) (ta tb : TE) : TE := fun σ H Q => ta σ H fun x H1 => tr x H1 fun k H2 => if k = true then Q x H2 else tb σ H2 Q
def tAndG (tr : Tr) (ta tb : TE) : TE := fun σ H Q => ta σ H fun x H1 => tr x H1 fun k H2 => if k = true then tb σ H2 Q else Q x H2
def boolE (tr : Tr) (f : Expr → TE) (op : BoolOp) : List Expr → TE
  | [] => nE
  | [a] => f a
  | a :: r => (match op with | .And => tAndG tr (f a) (boolE tr f op r) | .Or => tOrG tr (f a) (boolE tr f op r))
def tNotG (tr : Tr) (ta : TE) : TE := fun σ H Q => ta σ H fun x H1 => tr x H1 fun k H2 => Q (.bl (!k)) H2
/-- a value's truth as a test -/
def tTru (tr : Tr) (ta : TE) : TT := fun σ H Q => ta σ H fun x H1 => tr x H1 Q
def tIfT (t a b : TT) : TT := fun σ H Q => t σ H fun c H1 => if c = true then a σ H1 Q else b σ H1 Q
def partT (f : Expr → TE) : Option Expr → TO
  | none => tNoPart
  | some e => tPart (f e)
def isSl : Expr → Bool
  | .Slice _ _ none _ => true
  | _ => false
def targsG (f : Expr → TG) : List Expr → TGs
  | [] => gNil
  | e :: es => if plainA e = true then gCons (f e) (targsG f es) else nGs
/-- a comprehension's own names and their slots -/
def ownOf (N : List Str) (scope : Scope) : List (Str × Nat) := scope.names.filterMap fun y => match y.2 with
  | .local => (slotOf N y.1).map fun i => (y.1, i)
  | .cell => (slotOf N y.1).map fun i => (y.1, i)
  | _ => none
/-- nothing is raised -/
def w0 : WX := fun _ _ _ _ => False
def ctxC (x : Ctx) (scope : Scope) : Ctx := ⟨relS scope x.sc, x.c, fun y => scope.names.lookup y == some .cell, w0⟩
def testsT (f : Expr → TT) : List Expr → TT
  | [] => tYes
  | [c] => f c
  | _ => nT
def stoB (x : Ctx) (y : Str) : Bool := match x.sc.names.lookup y with
  | some .local => true
  | some .cell => x.fn y
  | _ => false
def nameE (Γ : Ora) (N : List Str) (x : Ctx) (y : Str) : TE := if badName y = true then nE else if visB x.sc y = true then (match slotOf N y with
    | some i => tNm i
    | none => nE) else if gloB x.sc y = true then (match Γ.glo y with
      | some v => tC v
      | none => nE) else nE
def constE : Const → TE
  | .int i => tC (.int i)
  | .bool b => tC (.bl b)
  | .none => tC .non
  | .str z => tC (.str z)
  | _ => nE
def lcE (K : PySem.W.Frag) (N : List Str) (x : Ctx) (p q : WP) (elt : Expr) (gs : List Comprehension) (scope : Scope) : TE := match gs with
  | [⟨tg, iter, ifs, a⟩] => if (a == 0 && (x.c && (blkC N x.sc scope (ownOf N scope) && !isSet iter))) = true then tLc (p.I tg iter) (q.G tg) (testsT q.T ifs) (q.E elt) ((ownOf N scope).map (·.2)) else nE
  | _ => nE
def pairsT (f : Expr → TE) : List (Option Expr) → List Expr → Option (List (TE × TE))
  | [], [] => some []
  | some k :: ks, v :: vs => (pairsT f ks vs).map ((f k, f v) :: ·)
  | _, _ => none
def dictE (f : Expr → TE) (ks : List (Option Expr)) (vs : List Expr) : TE := match ks, vs with
  | [], [] => tDNewK
  | ks, vs => (match pairsT f ks vs with
    | some trs => if Nat.ble ks.length 15 = true then tDisp trs else nE
    | none => nE)
/-- the readings of one step, by those of the parts -/
def stepE (Γ : Bool → Ora) (K : PySem.W.Frag) (N : List Str) (pr : Ctx → WP) (x : Ctx) : Expr → TE
  | .Name y _ => nameE (Γ x.c) N x y
  | .Constant c _ _ => constE c
  | .BinOp a op b _ => (match (Γ x.c).bin op with
    | some r => tOp r ((pr x).E a) ((pr x).E b)
    | none => nE)
  | .UnaryOp op a _ => (match op with
    | .Not => tNotG (Γ x.c).tru ((pr x).E a)
    | op => (match (Γ x.c).un op with
      | some r => tUn r ((pr x).E a)
      | none => nE))
  | .BoolOp op vs _ => boolE (Γ x.c).tru (pr x).E op vs
  | .Compare a ops bs _ => (match ops, bs with
    | [op], [b] => (match (Γ x.c).cmp op with
      | some r => if behindInMarks op b = true then nE else tOp r ((pr x).E a) ((pr x).E b)
      | none => nE)
    | [op, op'], [b, c] => (match (Γ x.c).cmp op, (Γ x.c).cmp op' with
      | some r, some r' => if lastMarks [op, op'] [b, c] = true then nE else tChain r r' ((pr x).E a) ((pr x).E b) ((pr x).E c)
      | _, _ => nE)
    | _, _ => nE)
  | .IfExp c a b _ => tIf ((pr x).T c) ((pr x).E a) ((pr x).E b)
  | .Tuple es _ _ => tTup (argsT (pr x).E es)
  | .List es _ => tLst (argsT (pr x).E es)
  | .Attribute o f _ => if isSup o = true then nE else (match (Γ x.c).att f with
    | some r => tAtt r x.W ((pr x).E o)
    | none => nE)
  | .Subscript a i _ => (match i with
    | .Slice lo hi st _ => (match st with
      | none => L2.tSl (Γ x.c).sli ((pr x).E a) (partT (pr x).E lo) (partT (pr x).E hi)
      | some _ => nE)
    | i => tOp (Γ x.c).idx ((pr x).E a) ((pr x).E i))
  | .Call g as ks p => (match g with
    | .Name f _ => if (gloB x.sc f && (!badName f && as.all plainA)) = true then (match ks with
        | [] => (match (Γ x.c).fn f with
          | some sp => tCl sp x.W (argsT (pr x).E as)
          | none => nE)
        | ks => (match (Γ x.c).fnK f (ks.filterMap (·.arg)) with
          | some sp => if ks.all (·.arg.isSome) = true then tClK sp x.W (argsT (pr x).E as) (kwsT (pr x).E ks) else nE
          | none => nE)) else nE
    | .Attribute o m q => if (!isSup o && (as.all plainA && q.endLine == p.line)) = true then (match ks with
        | [] => (match (Γ x.c).mt m with
          | some sp => tMt sp x.W ((pr x).E o) (argsT (pr x).E as)
          | none => nE)
        | _ => nE) else nE
    | _ => nE)
  | .Dict ks vs _ => dictE (pr x).E ks vs
  | .ListComp elt gs scope _ => lcE K N x (pr x) (pr (ctxC x scope)) elt gs scope
  | _ => nE
def stepT (Γ : Bool → Ora) (K : PySem.W.Frag) (N : List Str) (pr : Ctx → WP) (x : Ctx) : Expr → TT
  | .UnaryOp .Not a _ => tNot ((pr x).T a)
  | .BoolOp .And vs _ => andT (pr x).T vs
  | .BoolOp .Or vs _ => orT (pr x).T vs
  | .IfExp c a b _ => tIfT ((pr x).T c) ((pr x).T a) ((pr x).T b)
  | .Compare a ops bs _ => (match ops, bs with
    | [op], [b] => (match (Γ x.c).cmp op with
      | some r => if behindInMarks op b = true then nT else tTest (tOp r ((pr x).E a) ((pr x).E b))
      | none => nT)
    | [op, op'], [b, c] => (match (Γ x.c).cmp op, (Γ x.c).cmp op' with
      | some r, some r' => if lastMarks [op, op'] [b, c] = true then nT else tTest (tChain r r' ((pr x).E a) ((pr x).E b) ((pr x).E c))
      | _, _ => nT)
    | _, _ => nT)
  | e => tTru (Γ x.c).tru (stepE Γ K N pr x e)
def stepG (Γ : Bool → Ora) (K : PySem.W.Frag) (N : List Str) (pr : Ctx → WP) (x : Ctx) : Expr → TG
  | .Name y _ => if stoB x y = true then (match slotOf N y with
    | some i => gName i
    | none => nG) else nG
  | .Tuple es _ _ => if (x.c && es.all plainA) = true then oG (gTup K es.length (targsG (pr x).G es)) (gLst K es.length (targsG (pr x).G es)) else nG
  | .Subscript o i _ => if isSl i = true then nG else gSub ((pr x).E o) ((pr x).E i) (Γ x.c).put
  | _ => nG
def isTupT : Expr → Bool
  | .Tuple _ _ _ => true
  | _ => false
/-- what is walked: by a call's name, else by the value: a list, a tuple, a text's signs -/
def iAny (K : PySem.W.Frag) (te : TE) : TI := oI (iList K te) (oI (iTup K te) (iStr te))
def stepI (Γ : Bool → Ora) (K : PySem.W.Frag) (N : List Str) (pr : Ctx → WP) (x : Ctx) (tg : Expr) (it : Expr) : TI := match it with
  | .Call (.Name f _) as [] _ => if (gloB x.sc f && (Γ x.c).blt f && as.all plainA) = true then
      (if f = "range" then (match as with
        | [_] => iRng1 (argsT (pr x).E as)
        | [_, _] => iRng2 (argsT (pr x).E as)
        | _ => nI)
      else if f = "enumerate" then (match as with
        | [_] => if isTupT tg = true then iEnum K (argsT (pr x).E as) else nI
        | _ => nI)
      else if f = "zip" then (match as with
        | [_, _] => if isTupT tg = true then iZip K (argsT (pr x).E as) else nI
        | _ => nI)
      else iAny K ((pr x).E it)) else iAny K ((pr x).E it)
  | it => iAny K ((pr x).E it)
/-- which stores of (a, b, ..) = (x, y, ..) go from the right: the model's own look, over the scope alone; none: the model has no word -/
def swB (sc : Scope) (ts vs : List Expr) : Option (Option (List Str)) :=
  if (!(ts.length == 2 || ts.length == 3) || vs.length != ts.length || (if sc.kind.isAnnotationScope = true then ScopeKind.function else sc.kind) != .function) = true then some none
  else if (vs.any fun | .Starred .. => true | _ => false) = true then some none
  else
    let line := (ts.head?.map (·.pos.line)).getD 0
    let names := ts.filterMap fun
      | .Name id pos => if (sc.names.lookup id == some .local && pos.line == line) = true then some id else none
      | _ => none
    if (names.length != ts.length || names.eraseDups.length != names.length) = true then some none
    else if vs.all (foldedForSure 8) = true then some none
    else if vs.all (constantsAlone 8) = true then none
    else some (some names)
def locL (sc : Scope) (y : Str) : Bool := match sc.names.lookup y with
  | some .local => true
  | _ => false
def isTup2 (tg e : Expr) : Bool := match tg, e with
  | .Tuple _ _ _, .Tuple _ _ _ => true
  | .List _ _, .Tuple _ _ _ => true
  | _, _ => false
def parS (N : List Str) (pr : Ctx → WP) (x : Ctx) (ts vs : List Expr) : TS := match ts, vs with
  | [.Name y _, .Name z _], [a, b] => if (x.c && (locL x.sc y && locL x.sc z) && decide (swB x.sc ts vs = some (some [y, z]))) = true then (match slotOf N y, slotOf N z with
      | some i, some j => if i = j then nS else tPar i j (argsT (pr x).E [a, b])
      | _, _ => nS) else nS
  | [.Name y _, .Name z _, .Name u _], [a, b, c] => if (x.c && (locL x.sc y && (locL x.sc z && locL x.sc u)) && decide (swB x.sc ts vs = some (some [y, z, u]))) = true then (match slotOf N y, slotOf N z, slotOf N u with
      | some i, some j, some l => if (decide (i = j) || (decide (i = l) || decide (j = l))) = true then nS else tPar3 i j l (argsT (pr x).E [a, b, c])
      | _, _, _ => nS) else nS
  | _, _ => nS
/-- target = e, none of them a comprehension given to a name -/
def asgP (N : List Str) (pr : Ctx → WP) (x : Ctx) (tg e : Expr) : TS :=
  if isComp e = true then nS else match tg, e with
  | .Tuple ts _ _, .Tuple vs _ _ => if swB x.sc ts vs = some none then tAsg ((pr x).E e) ((pr x).G tg) else parS N pr x ts vs
  | .List _ _, .Tuple _ _ _ => nS
  | tg, e => if plainA tg = true then tAsg ((pr x).E e) ((pr x).G tg) else nS
def asgC (K : PySem.W.Frag) (N : List Str) (pr : Ctx → WP) (x : Ctx) (y : Str) (py : Pos) (elt : Expr) (gs : List Comprehension) (scope : Scope) (p : Pos) : TS :=
  if (py.line == p.line && (locL x.sc y && (decide (x.sc.kind = .function) && !(scope.names.any fun (n, k) => n == y && (k == .local || k == .cell))))) = true then (match slotOf N y, gs with
    | some i, [_] => tAsg (lcE K N x (pr x) (pr (ctxC x scope)) elt gs scope) (gName i)
    | _, _ => nS) else nS
/-- o.f = e -/
def tSat (r : V → V → Hp → (Hp → Prop) → Prop) (te to : TE) : TS := fun D σ H => te σ H fun y H1 => to σ H1 fun x H2 => r x y H2 fun H3 => D.nx σ H3
def asgA (Γ : Bool → Ora) (pr : Ctx → WP) (x : Ctx) (o : Expr) (f : Str) (e : Expr) : TS := match (Γ x.c).sat f with
  | some r => tSat r ((pr x).E e) ((pr x).E o)
  | none => nS
def asgS (Γ : Bool → Ora) (K : PySem.W.Frag) (N : List Str) (pr : Ctx → WP) (x : Ctx) (tg e : Expr) : TS := match tg, e with
  | .Name y py, .ListComp elt gs scope p => asgC K N pr x y py elt gs scope p
  | .Attribute o f _, e => asgA Γ pr x o f e
  | tg, e => asgP N pr x tg e
def stepS (Γ : Bool → Ora) (K : PySem.W.Frag) (N : List Str) (pr : Ctx → WP) (x : Ctx) : Stmt → TS
  | .Pass _ => tNext
  | .Break _ => tBreak
  | .Continue _ => tCont
  | .Return none _ => tRetN
  | .Return (some e) _ => tRet ((pr x).E e)
  | .Expr e _ => if isComp e = true then nS else tDrop ((pr x).E e)
  | .If c a b _ => tIfS ((pr x).T c) (blkT (pr x).S a) (blkT (pr x).S b)
  | .While c b o _ => (match o with
    | [] => tWhile ((pr x).T c) (blkT (pr x).S b)
    | _ => nS)
  | .For tg it b o _ => (match o with
    | [] => if (x.c && !isSet it) = true then tFor ((pr x).I tg it) ((pr x).G tg) (blkT (pr x).S b) else nS
    | _ => nS)
  | .Assign tgs e _ => (match tgs with
    | [tg] => asgS Γ K N pr x tg e
    | _ => nS)
  | _ => nS
def stepW (Γ : Bool → Ora) (K : PySem.W.Frag) (N : List Str) (pr : Ctx → WP) (x : Ctx) : WP := ⟨stepE Γ K N pr x, stepT Γ K N pr x, stepG Γ K N pr x, stepI Γ K N pr x, stepS Γ K N pr x⟩
def wp (Γ : Bool → Ora) (K : PySem.W.Frag) (N : List Str) : Nat → Ctx → WP
  | 0, _ => ⟨fun _ => nE, fun _ => nT, fun _ => nG, fun _ _ => nI, fun _ => nS⟩
  | n + 1, x => stepW Γ K N (wp Γ K N n) x
end AS

set_option Elab.async false
set_option linter.all false
set_option maxRecDepth 100000
set_option maxHeartbeats 4000000
namespace AS
open PySem PySem.Spec PyProof.Rows L2

structure Sys where
  P : Program
  w : World
  K : PySem.W.Frag
  mg : Str → Option Value
  base : Heap
/-- the context X is one of the system S, stands at x, has room for k calls; no repr is running around it -/
structure Like (S : Sys) (k : Nat) (N : List Str) (X : Cx) (x : Ctx) : Prop where
  hP : X.prog = S.P
  hw : X.w = S.w
  hK : X.K = S.K
  hm : X.mg = S.mg
  hb : X.base = S.base
  sc : X.env.scope = x.sc
  hN : X.N = N
  nd : N.Nodup
  calm : x.c = true → X.calm = true
  fn : ∀ y, x.fn y = true → X.fn y = true
  gd : X.A.guards = some []
  dp : X.A.depth + 3 * k + 5 < recursionLimit
  un : X.A.units + 16 * k + 200 < cLine
  tk : Takes X x.W
  po : PassesOwn (model X.prog X.w) X.A X.env X.xe
theorem Like.blk {S : Sys} {k : Nat} {N : List Str} {X : Cx} {x : Ctx} (L : Like S k N X x) (s : Shared) (H : Hp) (scope : Scope) (cl : List (Str × Addr)) (C : Addr) (fp : List Addr) :
    Like S k N (X.blk s H scope (compEnvC scope cl C X.env) fp) (ctxC x scope) :=
  ⟨L.hP, L.hw, L.hK, L.hm, L.hb, by show relS scope X.env.scope = relS scope x.sc; rw [L.sc], L.hN, L.nd, L.calm, fun _ h => h, L.gd, L.dp, L.un, takes0, PassesOwn.never⟩
/-- what is to be known of the oracle -/
def Sound (Γ : Bool → Ora) (S : Sys) (k : Nat) (N : List Str) : Prop := ∀ X x, Like S k N X x → OraOk (Γ x.c) X x.W
/-- each reading is right -/
structure Right (X : Cx) (p : WP) : Prop where
  E : ∀ e, PE X e (p.E e)
  T : ∀ e, PT X e (p.T e)
  G : ∀ e, PG X e (p.G e)
  I : ∀ tg e, PI X tg e (p.I tg e)
  S : ∀ s, PS X s (p.S s)
section
variable {X : Cx} {f : Expr → TE}
theorem pa_args (h : ∀ e, PE X e (f e)) : ∀ es, PA X es (argsT f es)
  | [] => pa_nil
  | e :: es => by
    unfold argsT
    split
    · exact pa_cons (h e) (pa_args h es) (star_one (by assumption))
    · exact pa_n
theorem pk_args (h : ∀ e, PE X e (f e)) : ∀ es, PK X es (kwsT f es)
  | [] => pk_nil
  | ⟨_, e, _⟩ :: es => pk_cons (h e) (pk_args h es)
theorem pss_blk {g : Stmt → TS} (h : ∀ s, PS X s (g s)) : ∀ ss, PSs X ss (blkT g ss)
  | [] => pss_nil
  | [s] => pss_one (h s)
  | s :: t :: r => pss_cons (h s) (pss_blk h (t :: r))
theorem pw_all {g : Expr → TT} {p : Pos} (h : ∀ e, PT X e (g e)) : ∀ es : List Expr, es ≠ [] → PW X (.BoolOp .And es p) (andT g es)
  | [], n => absurd rfl n
  | [a], _ => pw_and1 (h a)
  | a :: b :: r, _ => pw_and (h a) (pw_all h (b :: r) (by simp))
theorem pw_any {g : Expr → TT} {p : Pos} (h : ∀ e, PT X e (g e)) : ∀ es : List Expr, es ≠ [] → PW X (.BoolOp .Or es p) (orT g es)
  | [], n => absurd rfl n
  | [a], _ => pw_or1 (h a)
  | a :: b :: r, _ => pw_or (h a) (pw_any h (b :: r) (by simp))
theorem pe_orG {tr : Tr} {a b : Expr} {ta tb : TE} {rest : List Expr} {pos : Pos} (ht : TruR X tr) (ha : PE X a ta) (hb : PE X (.BoolOp .Or (b :: rest) pos) tb) : PE X (.BoolOp .Or (a :: b :: rest) pos) (tOrG tr ta tb) := by
  refine ⟨fun pins s σ H Q I h => ?_⟩
  refine BoolOp_or (thn (ha.run pins s σ H _ I h) fun v s1 ⟨x, H1, I1, r1, q1⟩ => ?_)
  refine thn (ht pins s1 σ H1 x v _ I1 r1 q1) fun c s2 ⟨H2, I2, q2⟩ => ?_
  cases c with
  | true => exact ⟨x, H2, I2, r1, q2⟩
  | false => exact hb.run pins s2 σ H2 Q I2 q2
theorem pe_andG {tr : Tr} {a b : Expr} {ta tb : TE} {rest : List Expr} {pos : Pos} (ht : TruR X tr) (ha : PE X a ta) (hb : PE X (.BoolOp .And (b :: rest) pos) tb) : PE X (.BoolOp .And (a :: b :: rest) pos) (tAndG tr ta tb) := by
  refine ⟨fun pins s σ H Q I h => ?_⟩
  refine BoolOp_and (thn (ha.run pins s σ H _ I h) fun v s1 ⟨x, H1, I1, r1, q1⟩ => ?_)
  refine thn (ht pins s1 σ H1 x v _ I1 r1 q1) fun c s2 ⟨H2, I2, q2⟩ => ?_
  cases c with
  | true => exact hb.run pins s2 σ H2 Q I2 q2
  | false => exact ⟨x, H2, I2, r1, q2⟩
theorem pe_bool {tr : Tr} {op : BoolOp} {p : Pos} (ht : TruR X tr) (h : ∀ e, PE X e (f e)) : ∀ es : List Expr, PE X (.BoolOp op es p) (boolE tr f op es)
  | [] => pe_n
  | [a] => pe_one (h a)
  | a :: b :: r => by
    cases op with
    | And => exact pe_andG ht (h a) (pe_bool ht h (b :: r))
    | Or => exact pe_orG ht (h a) (pe_bool ht h (b :: r))
theorem pe_notG {tr : Tr} {a : Expr} {ta : TE} {pos : Pos} (ht : TruR X tr) (ha : PE X a ta) : PE X (.UnaryOp .Not a pos) (tNotG tr ta) := by
  refine ⟨fun pins s σ H Q I h => ?_⟩
  refine UnaryOp_ (thn (ha.run pins s σ H _ I h) fun v s1 ⟨x, H1, I1, r1, q1⟩ => ?_)
  exact not_of (thn (ht pins s1 σ H1 x v _ I1 r1 q1) fun c s2 ⟨H2, I2, q2⟩ => ⟨.bl (!c), H2, I2, rfl, q2⟩)
theorem pt_tru {tr : Tr} {a : Expr} {ta : TE} (ht : TruR X tr) (ha : PE X a ta) (he : isTest a = false) : PT X a (tTru tr ta) := by
  refine ⟨fun pins s σ H Q I h => ?_⟩
  exact isTrue_plain (thn (ha.run pins s σ H _ I h) fun v s1 ⟨x, H1, I1, r1, q1⟩ => ht pins s1 σ H1 x v Q I1 r1 q1) (truth_no he _)
theorem pt_ifT {c a b : Expr} {tc ta tb : TT} {pos : Pos} (hc : PT X c tc) (ha : PT X a ta) (hb : PT X b tb) : PT X (.IfExp c a b pos) (tIfT tc ta tb) := by
  refine ⟨fun pins s σ H Q I h => ?_⟩
  show wpAny _ _ (isTrue c X.env (eval c X.env) >>= fun t => if t = true then isTrue a X.env (eval a X.env) else isTrue b X.env (eval b X.env)) _ _ _
  refine wpAny_bind (thn (hc.run pins s σ H _ I h) fun k s1 ⟨H1, I1, q1⟩ => ?_)
  cases k with
  | true => exact ha.run pins s1 σ H1 Q I1 q1
  | false => exact hb.run pins s1 σ H1 Q I1 q1
theorem po_part (h : ∀ e, PE X e (f e)) : ∀ o, PO X o (partT f o)
  | none => po_none
  | some e => po_some (h e)
theorem plainIx_of {i : Expr} (h : isSl i = false) : PlainIx i := by
  intro o v
  cases i with
  | Slice lo hi st p =>
    cases st with
    | none => cases h
    | some _ => rfl
  | _ => rfl
theorem pgs_all {g : Expr → TG} (h : ∀ e, PG X e (g e)) : ∀ es, PGs X es (targsG g es)
  | [] => pgs_nil
  | e :: es => by
    unfold targsG
    split
    · rename_i hp
      exact pgs_cons (h e) (pgs_all h es) (by cases e <;> first | rfl | cases hp)
    · exact pgs_n
theorem asgE_len {env : Env} : ∀ es : List Expr, (assignEach es env).length = es.length
  | [] => rfl
  | e :: es => by
    have q := asgE_len (env := env) es
    cases e <;> (show (assignEach es env).length + 1 = es.length + 1; rw [q])
theorem asgE_none {env : Env} : ∀ es : List Expr, es.all plainA = true → (assignEach es env).findIdx? (·.1) = none
  | [], _ => rfl
  | e :: es, h => by
    obtain ⟨h1, h2⟩ := Bool.and_eq_true_iff.mp (show (plainA e && es.all plainA) = true from h)
    have q := asgE_none (env := env) es h2
    have e1 : assignEach (e :: es) env = (false, assign e env) :: assignEach es env := by cases e <;> first | rfl | cases h1
    rw [e1, List.findIdx?_cons, q]
    rfl
end
theorem pps_all {X : Cx} {f : Expr → TE} {p : Pos} (h : ∀ e, PE X e (f e)) : ∀ {ks : List (Option Expr)} {vs : List Expr} {trs : List (TE × TE)}, pairsT f ks vs = some trs → PPs X p ks vs trs ∧ ks.all (·.isSome) = true ∧ ks.length = vs.length
  | [], [], trs, e => by
    cases e
    exact ⟨pps_nil, rfl, rfl⟩
  | [], _ :: _, trs, e => by cases e
  | none :: _, _, trs, e => by cases e
  | some k :: ks, [], trs, e => by cases e
  | some k :: ks, v :: vs, trs, e => by
    have e : (pairsT f ks vs).map ((f k, f v) :: ·) = some trs := e
    cases q : pairsT f ks vs with
    | none => rw [q] at e; cases e
    | some r =>
      rw [q] at e
      cases e
      obtain ⟨h1, h2, h3⟩ := pps_all h q
      exact ⟨pps_cons (h k) (h v) h1, h2, by rw [List.length_cons, List.length_cons, h3]⟩
theorem sw_aux {c1 c2 c3 c4 c5 : Prop} [Decidable c1] [Decidable c2] [Decidable c3] [Decidable c4] [Decidable c5] {n : List Str} {r : Option (List Str)} {bad : Sem (Option (List Str))}
    (h : (if c1 then some none else if c2 then some none else if c3 then some none else if c4 then some none else if c5 then none else some (some n)) = some r) :
    (if c1 then pure none else if c2 then pure none else if c3 then pure none else if c4 then pure none else if c5 then bad else pure (some n)) = (pure r : Sem (Option (List Str))) := by
  by_cases h1 : c1
  · rw [if_pos h1] at h ⊢; cases h; rfl
  rw [if_neg h1] at h ⊢
  by_cases h2 : c2
  · rw [if_pos h2] at h ⊢; cases h; rfl
  rw [if_neg h2] at h ⊢
  by_cases h3 : c3
  · rw [if_pos h3] at h ⊢; cases h; rfl
  rw [if_neg h3] at h ⊢
  by_cases h4 : c4
  · rw [if_pos h4] at h ⊢; cases h; rfl
  rw [if_neg h4] at h ⊢
  by_cases h5 : c5
  · rw [if_pos h5] at h; cases h
  rw [if_neg h5] at h ⊢
  cases h
  rfl
theorem swB_ok {env : Env} {ts vs : List Expr} {r : Option (List Str)} {k k2 : Nat} {p p2 : Pos} (h : swB env.scope ts vs = some r) : swappedStores [.Tuple ts k p] (.Tuple vs k2 p2) env = pure r := by
  unfold swB at h
  unfold swappedStores
  exact sw_aux h
end AS

set_option Elab.async false
set_option linter.all false
set_option maxRecDepth 100000
set_option maxHeartbeats 4000000
namespace AS
open PySem PySem.Spec PyProof.Rows L2
section
variable {Γ : Bool → Ora} {S : Sys} {k : Nat} {N : List Str} {X : Cx} {x : Ctx} {pr : Ctx → WP}
theorem b2 {a b : Bool} (h : (a && b) = true) : a = true ∧ b = true := Bool.and_eq_true_iff.mp h
theorem nt {a : Bool} (h : (!a) = true) : a = false := by cases a <;> first | rfl | cases h
theorem r_name (L : Like S k N X x) (O : OraOk (Γ x.c) X x.W) (y : Str) (p : Pos) : PE X (.Name y p) (nameE (Γ x.c) N x y) := by
  unfold nameE
  split
  · exact pe_n
  · rename_i hb
    obtain ⟨hd, hcd, hnm⟩ := badName_no (x := y) (by simpa using hb)
    split
    · rename_i hv
      split
      · rename_i i hi
        refine pe_imp (pe_var (X := X) (i := i) ?_ ?_ hd hcd) fun _ _ _ h => tNm_var h
        · rw [L.hN]; exact slotOf_at hi
        · rw [L.sc]; exact visB_ok hv
      · exact pe_n
    · split
      · rename_i hg
        split
        · rename_i v hv
          obtain ⟨u, r, hu⟩ := O.glo y v hv
          have g : Gl X y := by
            show X.env.scope.names.lookup y = _
            rw [L.sc]; exact gloB_ok hg
          rcases hu with hu | ⟨hu, hbt⟩
          · exact pe_glob g hu r hd
          · exact pe_bltn g hu hbt r hnm hd
        · exact pe_n
      · exact pe_n
theorem r_const (c : Const) (j : Nat) (p : Pos) : PE X (.Constant c j p) (constE c) := by
  cases c with
  | int i => exact pe_int
  | bool b => exact pe_bl
  | none => exact pe_non
  | str z => exact pe_str
  | _ => exact pe_n
theorem r_tests {q : WP} (h : ∀ e, PT X e (q.T e)) : ∀ ifs, PTs X ifs (testsT q.T ifs)
  | [] => pts_nil
  | [c] => pts_one (h c)
  | _ :: _ :: _ => ⟨fun _ _ _ _ _ _ h => (show False from h).elim⟩
theorem r_lc (L : Like S k N X x) (hp : ∀ X' x', Like S k N X' x' → Right X' (pr x')) (elt : Expr) (gs : List Comprehension) (scope : Scope) (p : Pos) : PE X (.ListComp elt gs scope p) (lcE S.K N x (pr x) (pr (ctxC x scope)) elt gs scope) := by
  unfold lcE
  split
  · rename_i tg iter ifs a
    split
    · rename_i h
      obtain ⟨h1, h2⟩ := b2 h
      obtain ⟨h3, h4⟩ := b2 h2
      obtain ⟨h5, h6⟩ := b2 h4
      have ha : a = 0 := by simpa using h1
      subst ha
      refine pe_lc (L.calm h3) (by rw [L.hN]; exact L.nd) ((hp X x L).I tg iter) ?_ (fun s H C cl fp => (hp _ _ (L.blk s H scope cl C fp)).G tg) (fun s H C cl fp => r_tests (hp _ _ (L.blk s H scope cl C fp)).T ifs)
        (fun s H C cl fp => (hp _ _ (L.blk s H scope cl C fp)).E elt) (fold_no (nt h6))
      rw [L.hN, L.sc]
      exact blkOk_by h5
    · exact pe_n
  · exact pe_n
theorem r_dict {f : Expr → TE} (h : ∀ e, PE X e (f e)) (ks : List (Option Expr)) (vs : List Expr) (p : Pos) : PE X (.Dict ks vs p) (dictE f ks vs) := by
  unfold dictE
  split
  · exact pe_dnewK
  · rename_i hn
    split
    · rename_i trs ht
      split
      · rename_i hb
        obtain ⟨h1, h2, h3⟩ := pps_all (p := p) h ht
        refine pe_disp h1 h2 h3 (fun z => ?_) (Nat.le_of_ble_eq_true hb)
        subst z
        cases vs with
        | nil => exact hn rfl rfl
        | cons _ _ => cases h3
      · exact pe_n
    · exact pe_n
theorem kws_some : ∀ {ks : List Keyword}, ks.all (·.arg.isSome) = true → ks.map (·.arg) = (ks.filterMap (·.arg)).map some
  | [], _ => rfl
  | ⟨a, e, q⟩ :: ks, h => by
    obtain ⟨h1, h2⟩ := b2 (show (a.isSome && ks.all (·.arg.isSome)) = true from h)
    cases a with
    | none => cases h1
    | some a =>
      have i := kws_some h2
      show some a :: ks.map (·.arg) = some a :: (ks.filterMap (·.arg)).map some
      rw [i]
theorem r_call (L : Like S k N X x) (O : OraOk (Γ x.c) X x.W) (R : Right X (pr x)) (g : Expr) (as : List Expr) (ks : List Keyword) (p : Pos) : PE X (.Call g as ks p) (stepE Γ S.K N pr x (.Call g as ks p)) := by
  cases g with
  | Name f q =>
    show PE X (.Call (.Name f q) as ks p) (if (gloB x.sc f && (!badName f && as.all plainA)) = true then _ else nE)
    split
    · rename_i h
      obtain ⟨h1, h2⟩ := b2 h
      obtain ⟨h3, h4⟩ := b2 h2
      have gl : Gl X f := by
        show X.env.scope.names.lookup f = _
        rw [L.sc]; exact gloB_ok h1
      cases ks with
      | nil =>
        show PE X _ (match (Γ x.c).fn f with | some sp => tCl sp x.W (argsT (pr x).E as) | none => nE)
        split
        · rename_i sp hs
          exact O.fn f sp hs as _ q p gl (nt h3) h4 (pa_args R.E as)
        · exact pe_n
      | cons k1 kr =>
        show PE X _ (match (Γ x.c).fnK f ((k1 :: kr).filterMap (·.arg)) with | some sp => if (k1 :: kr).all (·.arg.isSome) = true then tClK sp x.W (argsT (pr x).E as) (kwsT (pr x).E (k1 :: kr)) else nE | none => nE)
        split
        · rename_i sp hs
          split
          · rename_i hk
            exact O.fnK f _ sp hs as (k1 :: kr) _ _ q p gl (nt h3) h4 (kws_some hk) (pa_args R.E as) (pk_args R.E (k1 :: kr))
          · exact pe_n
        · exact pe_n
    · exact pe_n
  | Attribute o m q =>
    show PE X (.Call (.Attribute o m q) as ks p) (if (!isSup o && (as.all plainA && q.endLine == p.line)) = true then _ else nE)
    split
    · rename_i h
      obtain ⟨h1, h2⟩ := b2 h
      obtain ⟨h3, h4⟩ := b2 h2
      cases ks with
      | nil =>
        show PE X _ (match (Γ x.c).mt m with | some sp => tMt sp x.W ((pr x).E o) (argsT (pr x).E as) | none => nE)
        split
        · rename_i sp hs
          exact O.mt m sp hs o as _ _ q p (nt h1) h3 h4 (R.E o) (pa_args R.E as)
        · exact pe_n
      | cons k1 kr => exact pe_n
    · exact pe_n
  | _ => exact pe_n
theorem r_E (L : Like S k N X x) (O : OraOk (Γ x.c) X x.W) (hp : ∀ X' x', Like S k N X' x' → Right X' (pr x')) (e : Expr) : PE X e (stepE Γ S.K N pr x e) := by
  have R := hp X x L
  cases e with
  | Name y p => exact r_name L O y p
  | Constant c j p => exact r_const c j p
  | BinOp a op b p =>
    show PE X _ (match (Γ x.c).bin op with | some r => tOp r ((pr x).E a) ((pr x).E b) | none => nE)
    split
    · rename_i r hr
      exact pe_op (O.bin op r hr) (R.E a) (R.E b)
    · exact pe_n
  | UnaryOp op a p =>
    cases op with
    | Not => exact pe_notG O.tru (R.E a)
    | _ =>
      show PE X _ (match (Γ x.c).un _ with | some r => tUn r ((pr x).E a) | none => nE)
      split
      · rename_i r hr
        exact pe_un (O.un _ r hr) (R.E a)
      · exact pe_n
  | BoolOp op vs p => exact pe_bool O.tru R.E vs
  | Compare a ops bs p =>
    match ops, bs with
    | [op], [b] =>
      show PE X _ (match (Γ x.c).cmp op with | some r => if behindInMarks op b = true then nE else tOp r ((pr x).E a) ((pr x).E b) | none => nE)
      split
      · rename_i r hr
        split
        · exact pe_n
        · rename_i hm
          exact pe_cmpR (O.cmp op r hr) (R.E a) (R.E b) (by simpa using hm)
      · exact pe_n
    | [op, op'], [b, c] =>
      show PE X _ (match (Γ x.c).cmp op, (Γ x.c).cmp op' with | some r, some r' => if lastMarks [op, op'] [b, c] = true then nE else tChain r r' ((pr x).E a) ((pr x).E b) ((pr x).E c) | _, _ => nE)
      split
      · rename_i r r' hr hr'
        split
        · exact pe_n
        · rename_i hm
          exact pe_chain (O.cmp op r hr) (O.cmp op' r' hr') (R.E a) (R.E b) (R.E c) (by simpa using hm)
      · exact pe_n
    | [], _ => exact pe_n
    | [_], [] => exact pe_n
    | [_], _ :: _ :: _ => exact pe_n
    | [_, _], [] => exact pe_n
    | [_, _], [_] => exact pe_n
    | [_, _], _ :: _ :: _ :: _ => exact pe_n
    | _ :: _ :: _ :: _, _ => exact pe_n
  | IfExp c a b p => exact pe_ifExp (R.T c) (R.E a) (R.E b)
  | Tuple es j p => exact pe_tup (pa_args R.E es)
  | List es p => exact pe_lst (pa_args R.E es)
  | Attribute o f p =>
    show PE X _ (if isSup o = true then nE else (match (Γ x.c).att f with | some r => tAtt r x.W ((pr x).E o) | none => nE))
    split
    · exact pe_n
    · rename_i h
      split
      · rename_i r hr
        exact O.att f r hr o _ p (by simpa using h) (R.E o)
      · exact pe_n
  | Subscript a i p =>
    cases i with
    | Slice lo hi st q =>
      cases st with
      | none => exact pe_slice O.sli (R.E a) (po_part R.E lo) (po_part R.E hi)
      | some _ => exact pe_n
    | _ => exact pe_ix O.idx (R.E a) (R.E _) (plainIx_of rfl)
  | Call g as ks p => exact r_call L O R g as ks p
  | ListComp elt gs scope p => exact r_lc L hp elt gs scope p
  | Dict ks vs p => exact r_dict R.E ks vs p
  | _ => exact pe_n
theorem r_T (L : Like S k N X x) (O : OraOk (Γ x.c) X x.W) (hp : ∀ X' x', Like S k N X' x' → Right X' (pr x')) (e : Expr) : PT X e (stepT Γ S.K N pr x e) := by
  have R := hp X x L
  have E := r_E L O hp
  cases e with
  | UnaryOp op a p =>
    cases op with
    | Not => exact pt_not (R.T a)
    | _ => exact pt_tru O.tru (E _) rfl
  | BoolOp op vs p =>
    cases op with
    | And =>
      show PT X _ (andT (pr x).T vs)
      cases vs with
      | nil => exact pt_n
      | cons a r => exact (pw_all R.T (a :: r) (by simp)).pt
    | Or =>
      show PT X _ (orT (pr x).T vs)
      cases vs with
      | nil => exact pt_n
      | cons a r => exact (pw_any R.T (a :: r) (by simp)).pt
  | IfExp c a b p => exact pt_ifT (R.T c) (R.T a) (R.T b)
  | Compare a ops bs p =>
    match ops, bs with
    | [op], [b] =>
      show PT X _ (match (Γ x.c).cmp op with | some r => if behindInMarks op b = true then nT else tTest (tOp r ((pr x).E a) ((pr x).E b)) | none => nT)
      split
      · rename_i r hr
        split
        · exact pt_n
        · rename_i hm
          exact pt_cmpR (O.cmp op r hr) (R.E a) (R.E b) (by simpa using hm)
      · exact pt_n
    | [op, op'], [b, c] =>
      show PT X _ (match (Γ x.c).cmp op, (Γ x.c).cmp op' with | some r, some r' => if lastMarks [op, op'] [b, c] = true then nT else tTest (tChain r r' ((pr x).E a) ((pr x).E b) ((pr x).E c)) | _, _ => nT)
      split
      · rename_i r r' hr hr'
        split
        · exact pt_n
        · rename_i hm
          exact pt_chain (O.cmp op r hr) (O.cmp op' r' hr') (R.E a) (R.E b) (R.E c) (by simpa using hm)
      · exact pt_n
    | [], _ => exact pt_n
    | [_], [] => exact pt_n
    | [_], _ :: _ :: _ => exact pt_n
    | [_, _], [] => exact pt_n
    | [_, _], [_] => exact pt_n
    | [_, _], _ :: _ :: _ :: _ => exact pt_n
    | _ :: _ :: _ :: _, _ => exact pt_n
  | _ => exact pt_tru O.tru (E _) rfl
theorem r_sto (L : Like S k N X x) {y : Str} (h : stoB x y = true) : Loc X.env.scope y ∧ (X.fn y = true ∨ X.env.scope.names.lookup y = some .local) := by
  unfold stoB at h
  rw [L.sc]
  split at h
  · rename_i e
    exact ⟨.inl e, .inr e⟩
  · rename_i e
    exact ⟨.inr e, .inl (L.fn y h)⟩
  · cases h
theorem r_G (L : Like S k N X x) (O : OraOk (Γ x.c) X x.W) (hp : ∀ X' x', Like S k N X' x' → Right X' (pr x')) (e : Expr) : PG X e (stepG Γ S.K N pr x e) := by
  have R := hp X x L
  cases e with
  | Name y p =>
    show PG X _ (if stoB x y = true then (match slotOf N y with | some i => gName i | none => nG) else nG)
    split
    · rename_i h
      obtain ⟨h1, h2⟩ := r_sto L h
      split
      · rename_i i hi
        exact pg_name (by rw [L.hN]; exact L.nd) (by rw [L.hN]; exact slotOf_at hi) h1 h2
      · exact pg_n
    · exact pg_n
  | Tuple es j p =>
    show PG X _ (if (x.c && es.all plainA) = true then oG (gTup S.K es.length (targsG (pr x).G es)) (gLst S.K es.length (targsG (pr x).G es)) else nG)
    split
    · rename_i h
      obtain ⟨h1, h2⟩ := b2 h
      rw [← L.hK]
      exact pg_or (pg_tup (L.calm h1) (pgs_all R.G es) (asgE_len es) (asgE_none es h2)) (pg_lst (L.calm h1) (pgs_all R.G es) (asgE_len es) (asgE_none es h2))
    · exact pg_n
  | Subscript o i p =>
    show PG X _ (if isSl i = true then nG else gSub ((pr x).E o) ((pr x).E i) (Γ x.c).put)
    split
    · exact pg_n
    · rename_i hsl
      refine pg_sub (R.E o) (R.E i) O.put fun v => ?_
      cases i with
      | Slice lo hi st q =>
        cases st with
        | none => exact absurd rfl hsl
        | some _ => rfl
      | _ => rfl
  | _ => exact pg_n
theorem r_any (L : Like S k N X x) {tg e : Expr} {te : TE} (h : PE X e te) : PI X tg e (iAny S.K te) := by
  unfold iAny
  rw [← L.hK]
  exact pi_or (pi_list h) (pi_or (pi_tup h) (pi_str h))
theorem r_I (L : Like S k N X x) (O : OraOk (Γ x.c) X x.W) (hp : ∀ X' x', Like S k N X' x' → Right X' (pr x')) (tg e : Expr) : PI X tg e (stepI Γ S.K N pr x tg e) := by
  have R := hp X x L
  unfold stepI
  split
  · rename_i f q as p
    split
    · rename_i h
      obtain ⟨h0, h3⟩ := b2 h
      obtain ⟨h1, h2⟩ := b2 h0
      have gl : Gl X f := by
        show X.env.scope.names.lookup f = _
        rw [L.sc]; exact gloB_ok h1
      have hm := O.blt f h2
      split
      · rename_i ef
        subst ef
        split
        · rename_i a
          exact pi_range1 gl hm (pa_args R.E [a]) (star_one (b2 h3).1)
        · rename_i a b
          exact pi_range2 gl hm (pa_args R.E [a, b]) ((star_one (b2 h3).1).trans (by rw [star_one (b2 (b2 h3).2).1]; rfl)) (star_one (b2 (b2 h3).2).1)
        · exact pi_n
      · split
        · rename_i ef
          subst ef
          split
          · rename_i a
            split
            · rename_i ht
              cases tg with
              | Tuple elts kk tp =>
                rw [← L.hK]
                exact pi_enum gl hm (pa_args R.E [a]) (star_one (b2 h3).1)
              | _ => cases ht
            · exact pi_n
          · exact pi_n
        · split
          · rename_i ef
            subst ef
            split
            · rename_i a b
              split
              · rename_i ht
                cases tg with
                | Tuple elts kk tp =>
                  rw [← L.hK]
                  exact pi_zip gl hm (pa_args R.E [a, b]) (star_one (b2 h3).1) (star_all (b2 h3).2)
                | _ => cases ht
              · exact pi_n
            · exact pi_n
          · exact r_any L (R.E _)
    · exact r_any L (R.E _)
  · exact r_any L (R.E _)
end
end AS

set_option Elab.async false
set_option linter.all false
set_option maxRecDepth 100000
set_option maxHeartbeats 4000000
namespace AS
open PySem PySem.Spec PyProof.Rows L2
section
variable {Γ : Bool → Ora} {S : Sys} {k : Nat} {N : List Str} {X : Cx} {x : Ctx} {pr : Ctx → WP}
theorem locL_ok (L : Like S k N X x) {y : Str} (h : locL x.sc y = true) : X.env.scope.names.lookup y = some .local := by
  unfold locL at h
  rw [L.sc]
  split at h
  · assumption
  · cases h
theorem r_asg (L : Like S k N X x) (R : Right X (pr x)) {tg e : Expr} {p : Pos} (hc : isComp e = false) (hw : swappedStores [tg] e X.env = pure none) (ht : plainA tg = true) : PS X (.Assign [tg] e p) (tAsg ((pr x).E e) ((pr x).G tg)) :=
  ps_asg (R.E e) (R.G tg) (swap_no hc) hw (by cases tg <;> first | rfl | cases ht)
theorem r_par (L : Like S k N X x) (R : Right X (pr x)) (ts vs : List Expr) (kt k2 : Nat) (pt p2 p : Pos) : PS X (.Assign [.Tuple ts kt pt] (.Tuple vs k2 p2) p) (parS N pr x ts vs) := by
  unfold parS
  split
  · rename_i y py z pz a b
    split
    · rename_i h
      obtain ⟨h0, h1⟩ := b2 h
      obtain ⟨h2, h3⟩ := b2 h0
      obtain ⟨h4, h5⟩ := b2 h3
      have hs := of_decide_eq_true h1
      split
      · rename_i i j hi hj
        split
        · exact ps_n
        · rename_i hij
          exact ps_par (L.calm h2) (by rw [L.hN]; exact L.nd) (by rw [L.hN]; exact slotOf_at hi) (by rw [L.hN]; exact slotOf_at hj) hij (locL_ok L h4) (locL_ok L h5) (pa_args R.E [a, b]) (swB_ok (by rw [L.sc]; exact hs)) rfl
      · exact ps_n
    · exact ps_n
  · rename_i y py z pz u pu a b c
    split
    · rename_i h
      obtain ⟨h0, h1⟩ := b2 h
      obtain ⟨h2, h3⟩ := b2 h0
      obtain ⟨h4, h5⟩ := b2 h3
      obtain ⟨h6, h7⟩ := b2 h5
      have hs := of_decide_eq_true h1
      split
      · rename_i i j l hi hj hl
        split
        · exact ps_n
        · rename_i hd
          simp only [Bool.or_eq_true, decide_eq_true_eq, not_or] at hd
          exact ps_par3 (L.calm h2) (by rw [L.hN]; exact L.nd) (by rw [L.hN]; exact slotOf_at hi) (by rw [L.hN]; exact slotOf_at hj) (by rw [L.hN]; exact slotOf_at hl) hd.1 hd.2.1 hd.2.2 (locL_ok L h4) (locL_ok L h6) (locL_ok L h7)
            (pa_args R.E [a, b, c]) (swB_ok (by rw [L.sc]; exact hs)) rfl
      · exact ps_n
    · exact ps_n
  · exact ps_n
theorem r_asgP (L : Like S k N X x) (R : Right X (pr x)) (tg e : Expr) (p : Pos) : PS X (.Assign [tg] e p) (asgP N pr x tg e) := by
  unfold asgP
  split
  · exact ps_n
  · rename_i hc
    have hc : isComp e = false := by simpa using hc
    split
    · split
      · rename_i hs
        exact r_asg L R hc (swB_ok (by rw [L.sc]; exact hs)) rfl
      · exact r_par L R _ _ _ _ _ _ p
    · exact ps_n
    · rename_i h1 h2
      split
      · rename_i ht
        refine r_asg L R hc ?_ ht
        cases tg with
        | Tuple ts kt pt =>
          cases e with
          | Tuple vs k2 p2 => exact (h1 _ _ _ _ _ _ rfl rfl).elim
          | _ => rfl
        | List ts pt =>
          cases e with
          | Tuple vs k2 p2 => exact (h2 _ _ _ _ _ rfl rfl).elim
          | _ => rfl
        | _ => cases e <;> rfl
      · exact ps_n
theorem r_asgC (L : Like S k N X x) (hp : ∀ X' x', Like S k N X' x' → Right X' (pr x')) (y : Str) (py : Pos) (elt : Expr) (gs : List Comprehension) (scope : Scope) (p q : Pos) :
    PS X (.Assign [.Name y py] (.ListComp elt gs scope p) q) (asgC S.K N pr x y py elt gs scope p) := by
  unfold asgC
  split
  · rename_i h
    obtain ⟨h1, h2⟩ := b2 h
    obtain ⟨h3, h4⟩ := b2 h2
    obtain ⟨h5, h6⟩ := b2 h4
    split
    · rename_i i g hi
      obtain ⟨tg, iter, ifs, a⟩ := g
      unfold lcE
      show PS X _ (tAsg (if (a == 0 && (x.c && (blkC N x.sc scope (ownOf N scope) && !isSet iter))) = true then _ else nE) (gName i))
      split
      · rename_i hh
        obtain ⟨g1, g2⟩ := b2 hh
        obtain ⟨g3, g4⟩ := b2 g2
        obtain ⟨g5, g6⟩ := b2 g4
        have ha : a = 0 := by simpa using g1
        subst ha
        refine ps_setLc (L.calm g3) (by rw [L.hN]; exact L.nd) (by rw [L.hN]; exact slotOf_at hi) (locL_ok L h3) (sw_true (by rw [L.sc]; exact of_decide_eq_true h5) (locL_ok L h3) h1 (nt h6)) ((hp X x L).I tg iter) ?_
          (fun s H C cl fp => (hp _ _ (L.blk s H scope cl C fp)).G tg) (fun s H C cl fp => r_tests (hp _ _ (L.blk s H scope cl C fp)).T ifs) (fun s H C cl fp => (hp _ _ (L.blk s H scope cl C fp)).E elt) (fold_no (nt g6))
        rw [L.hN, L.sc]
        exact blkOk_by g5
      · exact ⟨fun _ _ _ _ _ _ h => (show False from h).elim⟩
    · exact ps_n
  · exact ps_n
theorem r_asgA (L : Like S k N X x) (O : OraOk (Γ x.c) X x.W) (R : Right X (pr x)) (o e : Expr) (f : Str) (q p : Pos) : PS X (.Assign [.Attribute o f q] e p) (asgA Γ pr x o f e) := by
  unfold asgA
  split
  · rename_i r hr
    refine ⟨fun pins s σ H D I h => ?_⟩
    refine plainObj_wpAny_Assign_Attribute (thn ((R.E e).run pins s σ H _ I h) fun u s1 ⟨y, H1, I1, ry, q1⟩ => thn ((R.E o).run pins s1 σ H1 _ I1 q1) fun ov s2 ⟨v, H2, I2, rx, q2⟩ => ?_) swap_att
    exact thn (O.sat f r hr pins s2 σ H2 v y ov u _ I2 rx ry q2) fun _ s3 ⟨H3, I3, q3⟩ => ⟨σ, H3, I3, q3⟩
  · exact ps_n
theorem r_S (L : Like S k N X x) (O : OraOk (Γ x.c) X x.W) (hp : ∀ X' x', Like S k N X' x' → Right X' (pr x')) (s : Stmt) : PS X s (stepS Γ S.K N pr x s) := by
  have R := hp X x L
  cases s with
  | Pass p => exact ps_pass
  | Break p => exact ps_break
  | Continue p => exact ps_continue
  | Return v p =>
    cases v with
    | none => exact ps_retN
    | some e => exact ps_ret (R.E e)
  | Expr e p =>
    show PS X _ (if isComp e = true then nS else tDrop ((pr x).E e))
    split
    · exact ps_n
    · rename_i h
      exact ps_expr (R.E e) (swap_no (by simpa using h))
  | If c a b p => exact ps_if (R.T c) (pss_blk R.S a) (pss_blk R.S b)
  | While c b o p =>
    cases o with
    | nil => exact ps_while L.po (R.T c) (pss_blk R.S b)
    | cons _ _ => exact ps_n
  | For tg it b o p =>
    cases o with
    | nil =>
      show PS X _ (if (x.c && !isSet it) = true then tFor ((pr x).I tg it) ((pr x).G tg) (blkT (pr x).S b) else nS)
      split
      · rename_i h
        obtain ⟨h1, h2⟩ := b2 h
        exact ps_for L.po (L.calm h1) (R.I tg it) (R.G tg) (pss_blk R.S b) (fold_no (nt h2))
      · exact ps_n
    | cons _ _ => exact ps_n
  | Assign tgs e p =>
    match tgs with
    | [] => exact ps_n
    | _ :: _ :: _ => exact ps_n
    | [tg] =>
      show PS X _ (asgS Γ S.K N pr x tg e)
      unfold asgS
      split
      · exact r_asgC L hp _ _ _ _ _ _ p
      · exact r_asgA L O R _ _ _ _ p
      · exact r_asgP L R _ _ p
  | _ => exact ps_n
/-- each computed reading is right -/
theorem right (hΓ : Sound Γ S k N) : ∀ (n : Nat) (X : Cx) (x : Ctx), Like S k N X x → Right X (wp Γ S.K N n x)
  | 0, _, _, _ => ⟨fun _ => pe_n, fun _ => pt_n, fun _ => pg_n, fun _ _ => pi_n, fun _ => ps_n⟩
  | n + 1, X, x, L => ⟨r_E L (hΓ X x L) (right hΓ n), r_T L (hΓ X x L) (right hΓ n), r_G L (hΓ X x L) (right hΓ n), r_I L (hΓ X x L) (right hΓ n), r_S L (hΓ X x L) (right hΓ n)⟩
end

/-! ### defs -/
structure RoomG (k : Nat) (A : Around) : Prop where
  r : Room k A
  g : A.guards = some []
/-- the function at f, called with arguments that are bound to ps, keeps its promise, by at most k levels; no repr runs around -/
def FnB (S : Sys) (k : Nat) (f : Addr) (fd : FuncData) (ps : List Str) (sp : Sp) : Prop := ∀ (A : Around) (outer : List Env) (s : Shared) (H : Hp) (args : Args) (us : List Value) (vs : List V) (Q : VK) (E : XK), RoomG k A → Env0 S.P S.w S.K S.mg S.base A outer s H → BindsTo s fd args (ps.zip us) → Vals vs us → sp vs H Q E →
  codeAny (model S.P S.w) A (.call (.ref f) args) (CR (L2.CX S.P S.w) outer S.P S.w H s Q E) s
/-- .. by places -/
def FnG (S : Sys) (k : Nat) (f : Addr) (sp : Sp) : Prop := ∀ (A : Around) (outer : List Env) (s : Shared) (H : Hp) (us : List Value) (vs : List V) (Q : VK) (E : XK), RoomG k A → Env0 S.P S.w S.K S.mg S.base A outer s H → Vals vs us → sp vs H Q E →
  codeAny (model S.P S.w) A (.call (.ref f) ⟨us, []⟩) (CR (L2.CX S.P S.w) outer S.P S.w H s Q E) s
theorem FnG.mono {S : Sys} {j k : Nat} {f : Addr} {sp : Sp} (F : FnG S j f sp) (h : j ≤ k) : FnG S k f sp := fun A outer s H us vs Q E r => F A outer s H us vs Q E ⟨r.r.mono h, r.g⟩
theorem FnB.mono {S : Sys} {j k : Nat} {f : Addr} {fd : FuncData} {ps : List Str} {sp : Sp} (F : FnB S j f fd ps sp) (h : j ≤ k) : FnB S k f fd ps sp := fun A outer s H args us vs Q E r => F A outer s H args us vs Q E ⟨r.r.mono h, r.g⟩
theorem FnB.pos {S : Sys} {k : Nat} {f : Addr} {fd : FuncData} {ps : List Str} {sp : Sp} (F : FnB S k f fd ps sp) (hb : ∀ (s : Shared) (us : List Value), us.length = ps.length → BindsTo s fd ⟨us, []⟩ (ps.zip us)) (len : ∀ vs H Q E, sp vs H Q E → vs.length = ps.length) : FnG S k f sp :=
  fun A outer s H us vs Q E r e0 rv h => F A outer s H ⟨us, []⟩ us vs Q E r e0 (hb s us (rv.length.symm.trans (len _ _ _ _ h))) rv h
/-- what a def's caller wishes -/
def wD (E : XK) : WX := fun c d _ H => E c d H
/-- the def's own context -/
def ctxD (sc : Scope) (E : XK) : Ctx := ⟨sc, true, fun _ => true, wD E⟩
theorem like_def {S : Sys} {k : Nat} {N : List Str} {qual : Str} {scope : Scope} {f : Addr} {cdv : Value} {A : Around} {outer : List Env} {s : Shared} {H : Hp} {E : XK} (nd : N.Nodup) (r : RoomG (k + 1) A) :
    Like S k N (cxOf (L2.CX S.P S.w) S.P S.w S.K S.mg S.base N qual scope f cdv A outer s H E) (ctxD scope E) := by
  have rd := r.r.deeper (envOfC qual scope s.heap.objs.size f cdv)
  exact ⟨rfl, rfl, rfl, rfl, rfl, rfl, rfl, nd, fun _ => rfl, fun _ _ => rfl, r.g, rd.dp, rd.un, takes_of rfl rfl rfl rfl, passes_of rfl⟩
/-- THE RULE for a def of the text: its computed reading holds -/
theorem fn_def {Γ : Bool → Ora} {S : Sys} {k n : Nat} {f : Addr} {fd : FuncData} {x qual : Str} {params : Arguments} {body : List Stmt} {scope : Scope} {N ps : List Str} {sp : Sp} (F : FunD S.K x qual params body scope [] [] f fd) (Sc : FnScope N ps scope)
    (hΓ : Sound Γ S k N) (len : ∀ vs H Q E, sp vs H Q E → vs.length = ps.length)
    (body_ok : ∀ vs H Q E, sp vs H Q E → blkT (wp Γ S.K N n (ctxD scope E)).S body { nx := fun _ H' => Q .non H', rt := Q } (start N vs) H) : FnB S (k + 1) f fd ps sp := by
  intro A outer s H args us vs Q E hr e0 hb rv hsp
  obtain ⟨oc, od, dV, kV, doc, pm, an, cdv, ct, osl, rfl, lk, hcd, _⟩ := F.1
  have hl := len _ _ _ _ hsp
  have KX : S.K.In s.heap := e0.mod.kin.keeps fun b o e => (e0.bs b o e).1
  have hk : ∀ y ∈ ps.zip us, scope.names.lookup y.1 = some .local ∨ (scope.names.lookup y.1 = some .cell ∧ ((cellsFrom (s.heap.objs.size + 1) scope.names []).lookup y.1).isSome = true) := by
    rintro ⟨n, v⟩ hy
    exact (Sc.par n (List.of_mem_zip hy).1).imp (fun q => q) fun q => ⟨q, PySem.W.cellsFrom_some _ _ _ (.inl q)⟩
  have hul : us.length = ps.length := rv.length.symm.trans hl
  refine codeAny_call_function hr.r.depth (KX _ _ lk) rfl Sc.co Sc.gen rfl (PySem.W.codeRec_of KX hcd) (hb _ _ _ _ ?_)
  refine wpAny_newFunctionEnv_cells Sc.kind hk fun env he s1 ic => ?_
  subst he
  refine ⟨(e0.mod.nolimit.keeps fun b o e => (e0.bs b o e).1).keeps ic.toInCall.keep, codeAny_func ?_⟩
  have L := like_def (S := S) (k := k) (qual := qual) (scope := scope) (f := f) (cdv := cdv) (outer := outer) (s := s) (H := H) (E := E) Sc.nd hr
  have R := right hΓ n _ _ L
  have I := inv_start (CX := L2.CX S.P S.w) (E := E) Sc hr.r.hd e0 hl rv ic
  refine wpAny_mono ((pss_blk R.S body).run [] s1 (start N vs) H _ I (body_ok vs H Q E hsp)) (fun fl s' hs => ?_) fun e s' hs => hs
  cases fl with
  | ret u =>
    obtain ⟨v, σ', H', J, rv', q⟩ := hs
    exact ⟨v, H', J.os, J.bare, J.base, J.hok, rv', q⟩
  | next =>
    obtain ⟨σ', H', J, q⟩ := hs
    exact ⟨.non, H', J.os, J.bare, J.base, J.hok, rfl, q⟩
  | brk =>
    obtain ⟨_, _, _, q⟩ := hs
    exact False.elim q
  | cont =>
    obtain ⟨_, _, _, q⟩ := hs
    exact False.elim q
end AS

set_option Elab.async false
set_option linter.all false
set_option maxRecDepth 100000
set_option maxHeartbeats 4000000
namespace AS
open PySem PySem.Spec PyProof.Rows L2

/-! ### data of any depth, dicts among it -/
mutual
inductive Dt (K : PySem.W.Frag) (H : Hp) : V → PyData → Prop
  | non : Dt K H .non .none
  | bl (b : Bool) : Dt K H (.bl b) (.bool b)
  | int (i : Int) : Dt K H (.int i) (.int i)
  | str (x : Str) : Dt K H (.str x) (.str x)
  | lst {a : Addr} {xs : List V} {ds : List PyData} : SqL K H a xs → Dts K H xs ds → Dt K H (.ref a) (.list ds)
  | tup {a : Addr} {xs : List V} {ds : List PyData} : SqT K H a xs → Dts K H xs ds → Dt K H (.ref a) (.tuple ds)
  | dic {a : Addr} {kvs : List (Key × V)} {es : List (PyData × PyData)} : Rd H a (.dK kvs) → Dts K H (kvs.map fun p => kV p.1) (es.map (·.1)) → Dts K H (kvs.map (·.2)) (es.map (·.2)) → Dt K H (.ref a) (.dict es)
inductive Dts (K : PySem.W.Frag) (H : Hp) : List V → List PyData → Prop
  | nil : Dts K H [] []
  | cons {v : V} {vs : List V} {d : PyData} {ds : List PyData} : Dt K H v d → Dts K H vs ds → Dts K H (v :: vs) (d :: ds)
end
/-- sys.modules stands in the written part, a dict -/
def SmOk (K : PySem.W.Frag) : Prop := ∃ o, K.lookup sysModules = some o ∧ o.cls = .type "dict"
section
variable {X : Cx} {pins : List (Addr × Obj)} {σ : St} {H : Hp} {s : Shared}
theorem keys_vals {P : Program} {w : World} : ∀ {es : List DictEntry} {vs : List (Key × Value)} {kvs : List (Key × V)}, Pairs (mixKind P w) es vs → KV kvs vs → Vals (kvs.map fun p => kV p.1) (es.map (·.key)) ∧ Vals (kvs.map (·.2)) (es.map (·.val))
  | _, _, _, .nil, .nil => ⟨.nil, .nil⟩
  | _, _, _, .cons hk hv pr, .cons r t => by
    obtain ⟨h1, h2⟩ := keys_vals pr t
    refine ⟨.cons ?_ h1, .cons ?_ h2⟩
    · dsimp only
      rw [r.1]
      exact relV_key hk
    · dsimp only
      rw [hv]
      exact r.2
mutual
theorem Dt.reads (I : Inv X pins σ H s) (sm : SmOk X.K) : ∀ {v : V} {d : PyData} {u : Value}, Dt X.K H v d → RelV v u → ∃ as, Reads s.heap u d as ∧ sysModules ∉ as
  | _, _, _, .non, r => by
    cases r
    exact ⟨_, Reads.none, by simp⟩
  | _, _, _, .bl b, r => by
    cases r
    exact ⟨_, Reads.bool b, by simp⟩
  | _, _, _, .int i, r => by
    obtain ⟨t, rfl⟩ := r
    exact ⟨_, Reads.int i t, by simp⟩
  | _, _, _, .str x, r => by
    obtain ⟨t, rfl⟩ := r
    exact ⟨_, Reads.str x t, by simp⟩
  | _, _, _, .lst hs ha, r => by
    cases r
    obtain ⟨its, rv, ⟨o, n, ho, hc, _, hd⟩, _⟩ := I.list hs
    obtain ⟨as, hr, hn⟩ := Dts.reads I sm ha rv
    refine ⟨_, Reads.list ho hc hd hr, fun hm => ?_⟩
    rcases List.mem_cons.mp hm with e | hm
    · obtain ⟨o', e', c'⟩ := sm
      rw [← e, I.kIn _ _ e'] at ho
      cases ho
      rw [hc] at c'
      exact absurd c' (by decide +kernel)
    · exact hn hm
  | _, _, _, .tup hs ha, r => by
    cases r
    obtain ⟨its, rv, ⟨o, ho, hc, n, hd⟩, _⟩ := I.tuple hs
    obtain ⟨as, hr, hn⟩ := Dts.reads I sm ha rv
    exact ⟨_, Reads.tuple ho hc hd hr, hn⟩
  | _, _, _, .dic hs hk hv, r => by
    cases r
    obtain ⟨_, nsm, vs, kv, o, es, ep, ho, hx, hd, _, pr, _⟩ := hs.ok I.hok
    obtain ⟨r1, r2⟩ := keys_vals pr kv
    obtain ⟨as, h1, n1⟩ := Dts.reads I sm hk r1
    obtain ⟨bs, h2, n2⟩ := Dts.reads I sm hv r2
    refine ⟨_, Reads.dict ho hx.1 hd h1 h2, fun hm => ?_⟩
    rcases List.mem_append.mp hm with hm | hm
    · rcases List.mem_cons.mp hm with e | hm
      · rw [← e] at nsm
        simp at nsm
      · exact n1 hm
    · exact n2 hm
theorem Dts.reads (I : Inv X pins σ H s) (sm : SmOk X.K) : ∀ {vs : List V} {ds : List PyData} {us : List Value}, Dts X.K H vs ds → Vals vs us → ∃ as, ReadsAll s.heap us ds as ∧ sysModules ∉ as
  | _, _, _, .nil, r => by
    cases r
    exact ⟨_, ReadsAll.nil, by simp⟩
  | _, _, _, .cons h1 h2, r => by
    cases r with
    | cons r1 r2 =>
      obtain ⟨as, q1, n1⟩ := Dt.reads I sm h1 r1
      obtain ⟨bs, q2, n2⟩ := Dts.reads I sm h2 r2
      exact ⟨_, ReadsAll.cons q1 q2, fun hm => (List.mem_append.mp hm).elim n1 n2⟩
end
/-- repr(x) -/
def rRepr (K : PySem.W.Frag) : List V → Hp → VK → Prop := fun xs H Q => ∃ v d, xs = [v] ∧ Dt K H v d ∧ d.showable = true ∧ d.depth ≤ 100 ∧ d.shown.length ≤ sizeLine ∧ Q (.str d.shown) H
theorem call_reprD (sm : SmOk X.K) (gd : X.A.guards = some []) (un : X.A.units + 200 < cLine) : CallR X (.builtin "repr") (rRepr X.K) := by
  intro pins s σ H xs us Q I r h
  obtain ⟨v, d, rfl, hd, hs, hdp, hz, q⟩ := h
  obtain ⟨u, rfl, ru⟩ := vals1 r
  have fin : ∀ (z : Str) (t : Tok), z = d.shown → ∀ (h' : Heap) (tk : Nat), (∀ b o, s.heap.get? b = some o → h'.get? b = some o) → EP X pins σ Q (.str z t) { s with heap := h', toks := tk } := fun z t e h' tk k => ⟨.str z, H, I.kept k, ⟨t, rfl⟩, by rw [e]; exact q⟩
  cases hd with
  | non =>
    cases ru
    exact PySem.P.repr_of_none (fin _ _ (by simp only [PyData.shown]) s.heap _ fun _ _ e => e)
  | bl b =>
    cases ru
    exact PySem.P.repr_of_bool (fin _ _ (by simp only [PyData.shown]) s.heap _ fun _ _ e => e)
  | int i =>
    obtain ⟨t, rfl⟩ := ru
    exact PySem.P.repr_of_int (by simpa [PyData.showable] using hs) (fin _ _ (by simp only [PyData.shown]) s.heap _ fun _ _ e => e)
  | str x =>
    obtain ⟨t, rfl⟩ := ru
    have e : (PyData.str x).shown = reprText x := by simp only [PyData.shown]
    rw [e] at hz
    exact PySem.P.repr_of_str (fin _ _ e.symm s.heap _ fun _ _ e => e) hz
  | lst hl hd' =>
    cases ru
    obtain ⟨as, rd, n⟩ := Dt.reads (d := _) I sm (.lst hl hd') rfl
    exact repr_of_reads' rd hs (fun _ => n) gd (by omega) (fun _ _ e => e) (fun h' u tk k => fin _ u rfl h' tk k) hz
  | tup hl hd' =>
    cases ru
    obtain ⟨as, rd, n⟩ := Dt.reads (d := _) I sm (.tup hl hd') rfl
    exact repr_of_reads' rd hs (fun _ => n) gd (by omega) (fun _ _ e => e) (fun h' u tk k => fin _ u rfl h' tk k) hz
  | dic hl hk hv =>
    cases ru
    obtain ⟨as, rd, n⟩ := Dt.reads (d := _) I sm (.dic hl hk hv) rfl
    exact repr_of_reads' rd hs (fun _ => n) gd (by omega) (fun _ _ e => e) (fun h' u tk k => fin _ u rfl h' tk k) hz
end

/-! ### entries of the oracle -/
/-- f(..) is read by sp -/
def CallE (S : Sys) (k : Nat) (f : Str) (sp : Sp) : Prop := ∀ (N : List Str) (X : Cx) (x : Ctx), Like S k N X x → x.c = true → ∀ (es : List Expr) (t : TA) (p pos : Pos), Gl X f → badName f = false → es.all plainA = true → PA X es t → PE X (.Call (.Name f p) es [] pos) (tCl sp x.W t)
def CallKE (S : Sys) (k : Nat) (f : Str) (ks : List Str) (sp : SpK) : Prop := ∀ (N : List Str) (X : Cx) (x : Ctx), Like S k N X x → x.c = true → ∀ (es : List Expr) (kws : List Keyword) (t tk : TA) (p pos : Pos), Gl X f → badName f = false → es.all plainA = true → kws.map (·.arg) = ks.map some → PA X es t → PK X kws tk →
  PE X (.Call (.Name f p) es kws pos) (tClK sp x.W t tk)
def MtE (S : Sys) (k : Nat) (m : Str) (sp : Sp) : Prop := ∀ (N : List Str) (X : Cx) (x : Ctx), Like S k N X x → x.c = true → ∀ (o : Expr) (es : List Expr) (to : TE) (t : TA) (p pos : Pos), isSup o = false → es.all plainA = true → (p.endLine == pos.line) = true → PE X o to → PA X es t → PE X (.Call (.Attribute o m p) es [] pos) (tMt sp x.W to t)
def AttE (S : Sys) (k : Nat) (f : Str) (r : V → Hp → VK → XK → Prop) : Prop := ∀ (N : List Str) (X : Cx) (x : Ctx), Like S k N X x → x.c = true → ∀ (o : Expr) (to : TE) (p : Pos), isSup o = false → PE X o to → PE X (.Attribute o f p) (tAtt r x.W to)
def SatE (S : Sys) (k : Nat) (f : Str) (r : V → V → Hp → (Hp → Prop) → Prop) : Prop := ∀ (N : List Str) (X : Cx) (x : Ctx), Like S k N X x → x.c = true → SatR X f r
/-- a table by names -/
def TabOk {α : Type} (P : Str → α → Prop) (tab : List (Str × α)) : Prop := ∀ f sp, tab.lookup f = some sp → P f sp
theorem tab_nil {α : Type} {P : Str → α → Prop} : TabOk P [] := fun _ _ h => by cases h
theorem tab_cons {α : Type} {P : Str → α → Prop} {tab : List (Str × α)} {f : Str} {a : α} (h : P f a) (t : TabOk P tab) : TabOk P ((f, a) :: tab) := fun g b e => by
  by_cases q : g = f
  · subst q
    rw [List.lookup_cons, beq_self_eq_true] at e
    cases e
    exact h
  · rw [List.lookup_cons, beq_eq_false_iff_ne.mpr q] at e
    exact t g b e
theorem tab_append {α : Type} {P : Str → α → Prop} {t1 t2 : List (Str × α)} (h1 : TabOk P t1) (h2 : TabOk P t2) : TabOk P (t1 ++ t2) := fun g b e => by
  rw [List.lookup_append] at e
  cases q : t1.lookup g with
  | none => rw [q] at e; exact h2 g b e
  | some c =>
    rw [q] at e
    have e : c = b := Option.some.inj e
    rw [← e]
    exact h1 g c q
end AS

set_option Elab.async false
set_option linter.all false
set_option maxRecDepth 100000
set_option maxHeartbeats 4000000
namespace AS
open PySem PySem.Spec PyProof.Rows L2

/-! ### operators -/
def addR (K : PySem.W.Frag) : R2 := fun x y H Q => match x with
  | .int i => (match y with
    | .int j => Q (.int (i + j)) H
    | _ => False)
  | .str a => (match y with
    | .str b => a.length + b.length ≤ sizeLine ∧ Q (.str (a ++ b)) H
    | _ => False)
  | .ref _ => rCat x y H Q ∨ rCatT K x y H Q
  | _ => False
def i2R (f : Int → Int → V) (C : Int → Int → Prop) : R2 := fun x y H Q => match x with
  | .int i => (match y with
    | .int j => C i j ∧ Q (f i j) H
    | _ => False)
  | _ => False
/-- ints, no condition -/
def i0R (f : Int → Int → V) : R2 := fun x y H Q => match x with
  | .int i => (match y with
    | .int j => Q (f i j) H
    | _ => False)
  | _ => False
def mulR : R2 := fun x y H Q => match x with
  | .int i => (match y with
    | .int j => CMul i j ∧ Q (.int (i * j)) H
    | _ => False)
  | .ref _ => rRep x y H Q
  | _ => False
def negR : V → Hp → VK → Prop := fun x H Q => match x with
  | .int i => Q (.int (-i)) H
  | _ => False
/-- == by data -/
@[irreducible] def eqR (K : PySem.W.Frag) : R2 := fun x y H Q => rEq x y H Q ∨ rEqD K x y H Q
@[irreducible] def neR (K : PySem.W.Frag) : R2 := fun x y H Q => rNe x y H Q ∨ rNeD K x y H Q
def truG (K : PySem.W.Frag) : V → Hp → (Bool → Hp → Prop) → Prop := fun x H Q => match x with
  | .bl b => Q b H
  | .non => Q false H
  | .int i => Q (i != 0) H
  | x => ∃ k, TruV K x H k ∧ Q k H
section
variable {X : Cx}
theorem op_addR : OpR X (binaryOp .Add) (addR X.K) := by
  intro pins s σ H x y v u Q I rx ry h
  cases x with
  | int i =>
    cases y with
    | int j => exact op_add pins s σ H _ _ v u Q I rx ry ⟨i, j, rfl, rfl, h⟩
    | _ => exact (show False from h).elim
  | str a =>
    cases y with
    | str b => exact op_add_str pins s σ H _ _ v u Q I rx ry ⟨a, b, rfl, rfl, h.1, h.2⟩
    | _ => exact (show False from h).elim
  | ref a => exact (op_cat.or op_catT) pins s σ H _ _ v u Q I rx ry h
  | _ => exact (show False from h).elim
theorem op_i2R {f : Int → Int → V} {C : Int → Int → Prop} {g : Value → Value → Sem Value} (o : OpR X g (rI C f)) : OpR X g (i2R f C) := by
  intro pins s σ H x y v u Q I rx ry h
  cases x with
  | int i =>
    cases y with
    | int j => exact o pins s σ H _ _ v u Q I rx ry ⟨i, j, rfl, rfl, h.1, h.2⟩
    | _ => exact (show False from h).elim
  | _ => exact (show False from h).elim
theorem op_i0R {f : Int → Int → V} {g : Value → Value → Sem Value} (o : OpR X g (rI0 f)) : OpR X g (i0R f) := by
  intro pins s σ H x y v u Q I rx ry h
  cases x with
  | int i =>
    cases y with
    | int j => exact o pins s σ H _ _ v u Q I rx ry ⟨i, j, rfl, rfl, h⟩
    | _ => exact (show False from h).elim
  | _ => exact (show False from h).elim
theorem op_mulR : OpR X (binaryOp .Mult) mulR := by
  intro pins s σ H x y v u Q I rx ry h
  cases x with
  | int i =>
    cases y with
    | int j => exact op_mul pins s σ H _ _ v u Q I rx ry ⟨i, j, rfl, rfl, h.1, h.2⟩
    | _ => exact (show False from h).elim
  | ref a => exact op_rep pins s σ H _ _ v u Q I rx ry h
  | _ => exact (show False from h).elim
theorem un_negR : UnR X (unaryOp .USub) negR := by
  intro pins s σ H x v Q I rx h
  cases x with
  | int i => exact un_neg pins s σ H _ v Q I rx ⟨i, rfl, h⟩
  | _ => exact (show False from h).elim
theorem tru_G : TruR X (truG X.K) := by
  intro pins s σ H x v Q I rx h
  refine tru_ok pins s σ H x v Q I rx ?_
  cases x with
  | bl b => exact ⟨b, rfl, h⟩
  | non => exact ⟨false, rfl, h⟩
  | int i => exact ⟨_, rfl, h⟩
  | _ => exact h
end
def subR : R2 := i0R fun i j => .int (i - j)
def fdivR : R2 := i2R (fun i j => .int (i / j)) CDiv
def modR : R2 := i2R (fun i j => .int (i % j)) fun _ j => 0 < j
def powR : R2 := i2R (fun i j => .int (i ^ j.toNat)) CPow
def ltR : R2 := i0R fun i j => .bl (decide (i < j))
def leR : R2 := i0R fun i j => .bl (decide (i ≤ j))
def gtR : R2 := i0R fun i j => .bl (decide (j < i))
def geR : R2 := i0R fun i j => .bl (decide (j ≤ i))
/-- the operators' part of every oracle -/
def binT (K : PySem.W.Frag) : Operator → Option R2
  | .Add => some (addR K)
  | .Sub => some subR
  | .Mult => some mulR
  | .FloorDiv => some fdivR
  | .Mod => some modR
  | .Pow => some powR
  | _ => none
def unT : UnaryOp → Option (V → Hp → VK → Prop)
  | .USub => some negR
  | _ => none
@[irreducible] def isR : R2 := fun x y H Q => (y = .non ∧ Q (.bl (decide (x = .non))) H) ∨ rIsB x y H Q
@[irreducible] def notR : R2 := fun x y H Q => (y = .non ∧ Q (.bl (!decide (x = .non))) H) ∨ rNotB x y H Q
def cmpT (K : PySem.W.Frag) : CmpOp → Option R2
  | .Eq => some (eqR K)
  | .NotEq => some (neR K)
  | .Lt => some ltR
  | .LtE => some leR
  | .Gt => some gtR
  | .GtE => some geR
  | .Is => some isR
  | .IsNot => some notR
  | _ => none
@[irreducible] def sliT (K : PySem.W.Frag) : V → Option Int → Option Int → Hp → VK → Prop := fun x lo hi H Q => match x with
  | .str _ => rSlS x lo hi H Q
  | _ => rSlL K x lo hi H Q ∨ rSlT K x lo hi H Q
/-- o[i]: a list, a tuple, a text -/
@[irreducible] def idxT (K : PySem.W.Frag) : R2 := rIx K
section
variable {X : Cx}
theorem binT_ok (K : PySem.W.Frag) (hK : X.K = K) (hu : X.A.units + 65 < cLine) : ∀ op r, binT K op = some r → OpR X (binaryOp op) r := by
  subst hK
  intro op r h
  match op, h with
  | .Add, h => cases h; exact op_addR
  | .Sub, h => cases h; exact op_i0R op_sub
  | .Mult, h => cases h; exact op_mulR
  | .FloorDiv, h => cases h; exact op_i2R op_fdiv
  | .Mod, h => cases h; exact op_i2R op_mod
  | .Pow, h => cases h; exact op_i2R op_pow
theorem unT_ok : ∀ op r, unT op = some r → UnR X (unaryOp op) r := by
  intro op r h
  match op, h with
  | .USub, h => cases h; exact un_negR
theorem cmpT_ok (K : PySem.W.Frag) (hK : X.K = K) (hu : X.A.units + 65 < cLine) : ∀ op r, cmpT K op = some r → OpR X (compareOp op) r := by
  subst hK
  intro op r h
  match op, h with
  | .Eq, h => cases h; unfold eqR; exact op_eq.or (op_eqD (by omega))
  | .NotEq, h => cases h; unfold neR; exact op_ne.or (op_neD (by omega))
  | .Lt, h => cases h; exact op_i0R op_lt
  | .LtE, h => cases h; exact op_i0R op_le
  | .Gt, h => cases h; exact op_i0R op_gt
  | .GtE, h => cases h; exact op_i0R op_ge
  | .Is, h => cases h; unfold isR; exact op_isN.or op_isBl
  | .IsNot, h => cases h; unfold notR; exact op_notN.or op_notBl
theorem sliT_ok (K : PySem.W.Frag) (hK : X.K = K) : SlR X (sliT K) := by
  subst hK
  unfold sliT
  intro pins s σ H x v vl vu lo hi sl Q I rx hs pl pu h
  cases x with
  | str z => exact sl_str pins s σ H _ v vl vu lo hi sl Q I rx hs pl pu h
  | _ => exact (sl_list.or sl_tup) pins s σ H _ v vl vu lo hi sl Q I rx hs pl pu h
end
end AS

set_option Elab.async false
set_option linter.all false
set_option maxRecDepth 100000
set_option maxHeartbeats 4000000
namespace AS
open PySem PySem.Spec PyProof.Rows L2

section
variable {S : Sys} {k : Nat} {N : List Str} {X : Cx} {x : Ctx}
theorem Like.roomG (L : Like S k N X x) (hc : x.c = true) {pins : List (Addr × Obj)} {σ : St} {H : Hp} {s : Shared} (I : Inv X pins σ H s) {j : Nat} (hj : j ≤ k) : RoomG j X.A := by
  have h1 := L.dp
  have h2 := L.un
  exact ⟨⟨I.ok.hd (L.calm hc), by omega, by omega⟩, L.gd⟩
theorem Like.env0 (L : Like S k N X x) {pins : List (Addr × Obj)} {σ : St} {H : Hp} {s : Shared} (I : Inv X pins σ H s) : Env0 S.P S.w S.K S.mg S.base X.A X.stack s H := by
  have e := I.env0
  rw [L.hP, L.hw, L.hK, L.hm, L.hb] at e
  exact e
/-- behind a call: the value, or an exception that is wished for at these slots -/
theorem Like.back (L : Like S k N X x) {pins : List (Addr × Obj)} {σ : St} {H : Hp} {s : Shared} {Q : VK} (I : Inv X pins σ H s) {r : Result} {s' : Shared} (h : CR (L2.CX S.P S.w) X.stack S.P S.w H s Q (fun c d H' => x.W c d σ H') r s') :
    match r with
    | .ok (.ret u) => EP X pins σ Q u s'
    | .ok _ => False
    | .error e => X.xe e s' := by
  rw [← L.hP, ← L.hw] at h
  cases r with
  | error e => exact L.tk e s' (XE.of_call (W := x.W) I (fun _ _ _ q => q) h)
  | ok fl =>
    cases fl with
    | ret u => exact I.after h
    | _ => exact h
theorem run_fnG {j : Nat} {f : Addr} {sp : Sp} (L : Like S k N X x) (hc : x.c = true) (F : FnG S j f sp) (hj : j ≤ k) {pins : List (Addr × Obj)} {σ : St} {H : Hp} {s : Shared} {Q : VK} {us : List Value} {vs : List V} (I : Inv X pins σ H s) (r : Vals vs us) (h : sp vs H Q fun c d H' => x.W c d σ H') :
    wpAny (model X.prog X.w) X.A (call (.ref f) us) (EP X pins σ Q) X.xe s := by
  have q := F X.A X.stack s H us vs Q _ (L.roomG hc I hj) (L.env0 I) r h
  rw [← L.hP, ← L.hw] at q
  refine wpAny_call (codeAny_mono q fun r s' hq => ?_)
  rw [L.hP, L.hw] at hq
  have z := L.back I hq
  cases r with
  | error e => exact z
  | ok fl =>
    cases fl with
    | ret u => exact z
    | _ => exact z.elim
/-- f(..), f a def of the text -/
theorem ent_fn {j : Nat} {f : Addr} {n : Str} {sp : Sp} (F : FnG S j f sp) (hj : j ≤ k) (hm : S.mg n = some (.ref f)) (hk : PySem.W.keepIn S.K (.ref f) = true) : CallE S k n sp := by
  intro N X x L hc es t p pos hg hb hpl ha
  have hm' : X.mg n = some (.ref f) := by rw [L.hm]; exact hm
  have hk' : PySem.W.keepIn X.K (.ref f) = true := by rw [L.hK]; exact hk
  refine ⟨fun pins s σ H Q I h => ?_⟩
  refine wpAny_Call_Name_kw (ld_glob I hg hm' ?_ (badName_no hb).1)
  cases es with
  | nil =>
    refine PySem.W.callWith_K0 I.kIn hk' ?_
    show wpAny _ _ (call (.ref f) []) _ _ _
    have h0 := (ha.run pos pins s σ H _ I h)
    have h1 : wpAny (model X.prog X.w) X.A (spliced (backTo pos (starEach [] X.env)) >>= fun us => call (.ref f) us) (EP X pins σ Q) X.xe s :=
      wpAny_bind (thn h0 fun us s1 ⟨vs, H1, I1, r, q⟩ => run_fnG L hc F hj I1 r q)
    exact h1
  | cons e es =>
    obtain ⟨h1, h2⟩ := b2 (show (plainA e && es.all plainA) = true from hpl)
    refine PySem.W.callWith_K (h₀ := X.base) I.ok.mod.kin hk' (thn (ha.run pos pins s σ H _ I h) fun us s1 ⟨vs, H1, I1, r, q⟩ => ⟨I1.kIn, ?_⟩) (star_one h1) (star_all h2)
    exact run_fnG L hc F hj I1 r q
/-- a built-in function -/
theorem ent_blt {n : Str} {id : String} {r : List V → Hp → VK → Prop} (hr : ∀ (N : List Str) (X : Cx) (x : Ctx), Like S k N X x → x.c = true → CallR X (.builtin id) r) (hm : S.mg n = none) (hv : bootBuiltins n = some (.builtin id)) :
    CallE S k n fun vs H Q _ => r vs H Q := by
  intro N X x L hc es t p pos hg hb hpl ha
  have hm' : X.mg n = none := by rw [L.hm]; exact hm
  cases es with
  | nil =>
    refine ⟨fun pins s σ H Q I h => ?_⟩
    refine wpAny_Call_Name_kw (ld_blt I hg hm' hv ?_ (badName_no hb).2.2 (badName_no hb).1)
    refine Calls.callWith_builtin rfl (evalArgs_nil3 ?_)
    have h1 : wpAny (model X.prog X.w) X.A (spliced (backTo pos (starEach [] X.env)) >>= fun us => call (.builtin id) us) (EP X pins σ Q) X.xe s :=
      wpAny_bind (thn (ha.run pos pins s σ H _ I h) fun us s1 ⟨vs, H1, I1, rv, q⟩ => hr N X x L hc pins s1 σ H1 vs us Q I1 rv q)
    exact h1
  | cons e es =>
    obtain ⟨h1, h2⟩ := b2 (show (plainA e && es.all plainA) = true from hpl)
    exact pe_callB (hr N X x L hc) hg hm' hv ha (badName_no hb).2.2 (badName_no hb).1 (star_one h1) (star_all h2)
/-- a built-in class -/
theorem ent_typ {n : Str} {T : String} {r : List V → Hp → VK → Prop} (hr : ∀ (N : List Str) (X : Cx) (x : Ctx), Like S k N X x → x.c = true → CallR X (.type T) r) (hm : S.mg n = none) (hv : bootBuiltins n = some (.type T)) :
    CallE S k n fun vs H Q _ => r vs H Q := by
  intro N X x L hc es t p pos hg hb hpl ha
  have hm' : X.mg n = none := by rw [L.hm]; exact hm
  cases es with
  | nil =>
    refine ⟨fun pins s σ H Q I h => ?_⟩
    refine wpAny_Call_Name_kw (ld_blt I hg hm' hv ?_ (badName_no hb).2.2 (badName_no hb).1)
    refine PyProof.Rows.callWith_type0 ?_
    have h1 : wpAny (model X.prog X.w) X.A (spliced (backTo pos (starEach [] X.env)) >>= fun us => call (.type T) us) (EP X pins σ Q) X.xe s :=
      wpAny_bind (thn (ha.run pos pins s σ H _ I h) fun us s1 ⟨vs, H1, I1, rv, q⟩ => hr N X x L hc pins s1 σ H1 vs us Q I1 rv q)
    exact h1
  | cons e es =>
    obtain ⟨h1, h2⟩ := b2 (show (plainA e && es.all plainA) = true from hpl)
    exact pe_callTy (hr N X x L hc) hg hm' hv ha (badName_no hb).2.2 (badName_no hb).1 (star_one h1) (star_all h2)

/-! ### the built-ins -/
def rLenG (K : PySem.W.Frag) : List V → Hp → VK → Prop := fun xs H Q => ∃ x n, xs = [x] ∧ LenV K x H n ∧ Q (.int n) H
def rAbs : List V → Hp → VK → Prop := fun xs H Q => ∃ i, xs = [.int i] ∧ Q (.int (if i < 0 then -i else i)) H
def rMax2 : List V → Hp → VK → Prop := fun xs H Q => ∃ i j, xs = [.int i, .int j] ∧ Q (.int (if j > i then j else i)) H
def rMin2 : List V → Hp → VK → Prop := fun xs H Q => ∃ i j, xs = [.int i, .int j] ∧ Q (.int (if j < i then j else i)) H
def rInt1 : List V → Hp → VK → Prop := fun xs H Q => (∃ i, xs = [.int i] ∧ Q (.int i) H) ∨ ∃ b, xs = [.bl b] ∧ Q (.int (if b then 1 else 0)) H
def rDivmod : List V → Hp → VK → Prop := fun xs H Q => ∃ i j, xs = [.int i, .int j] ∧ CDiv i j ∧ ∀ p, H p = none → Q (.ref p) (upd H p (.tup [.int (i / j), .int (i % j)]))
theorem ent_len (hm : S.mg "len" = none) : CallE S k "len" fun vs H Q _ => rLenG S.K vs H Q := ent_blt (fun N X x L _ => by rw [← L.hK]; exact call_len) hm PySem.boot_len
theorem ent_abs (hm : S.mg "abs" = none) : CallE S k "abs" fun vs H Q _ => rAbs vs H Q := ent_blt (fun N X x L _ => call_abs) hm (by decide +kernel)
theorem ent_max (hm : S.mg "max" = none) : CallE S k "max" fun vs H Q _ => rMax2 vs H Q := ent_blt (fun N X x L hc => call_max2 (L.calm hc)) hm (by decide +kernel)
theorem ent_min (hm : S.mg "min" = none) : CallE S k "min" fun vs H Q _ => rMin2 vs H Q := ent_blt (fun N X x L hc => call_min2 (L.calm hc)) hm (by decide +kernel)
theorem ent_int (hm : S.mg "int" = none) : CallE S k "int" fun vs H Q _ => rInt1 vs H Q := ent_typ (fun N X x L hc => call_int1) hm (by decide +kernel)
theorem ent_divmod (hm : S.mg "divmod" = none) : CallE S k "divmod" fun vs H Q _ => rDivmod vs H Q := ent_blt (fun N X x L hc => call_divmod) hm (by decide +kernel)
theorem ent_all (hm : S.mg "all" = none) : CallE S k "all" fun vs H Q _ => rAll S.K vs H Q := ent_blt (fun N X x L hc => by rw [← L.hK]; exact cr_all (L.calm hc)) hm (by decide +kernel)
theorem ent_repr (hm : S.mg "repr" = none) (sm : SmOk S.K) : CallE S k "repr" fun vs H Q _ => rRepr S.K vs H Q := ent_blt (fun N X x L hc => by
  have h2 := L.un
  rw [← L.hK] at sm ⊢
  exact call_reprD sm L.gd (by omega)) hm (by decide +kernel)
end

/-! ### the oracle of a program -/
structure Tabs where
  glo : List (Str × V)
  blt : List Str
  fn : List (Str × Sp)
  fnK : List ((Str × List Str) × SpK)
  mt : List (Str × Sp)
  att : List (Str × (V → Hp → VK → XK → Prop))
  sat : List (Str × (V → V → Hp → (Hp → Prop) → Prop))
def oraOf (K : PySem.W.Frag) (T : Tabs) : Bool → Ora := fun c =>
  { bin := binT K, un := unT, cmp := cmpT K, tru := truG K, glo := fun x => T.glo.lookup x, blt := fun x => T.blt.contains x, fn := fun f => if c = true then T.fn.lookup f else none, fnK := fun f ks => if c = true then T.fnK.lookup (f, ks) else none,
    mt := fun m => if c = true then T.mt.lookup m else none, att := fun f => if c = true then T.att.lookup f else none, idx := idxT K, sli := sliT K, put := rSetL, sat := fun f => if c = true then T.sat.lookup f else none }
structure TabsOk (S : Sys) (k : Nat) (T : Tabs) : Prop where
  glo : TabOk (fun x v => ∃ u, RelV v u ∧ (S.mg x = some u ∨ (S.mg x = none ∧ bootBuiltins x = some u))) T.glo
  blt : ∀ x ∈ T.blt, S.mg x = none
  fn : TabOk (CallE S k) T.fn
  fnK : ∀ f ks sp, T.fnK.lookup (f, ks) = some sp → CallKE S k f ks sp
  mt : TabOk (MtE S k) T.mt
  att : TabOk (AttE S k) T.att
  sat : TabOk (SatE S k) T.sat
theorem ite_none {α : Type} {c : Bool} {a : Option α} {b : α} (h : (if c = true then a else none) = some b) : c = true ∧ a = some b := by
  cases c with
  | true => exact ⟨rfl, h⟩
  | false => cases h
theorem ora_ok {S : Sys} {k : Nat} {N : List Str} {T : Tabs} (h : TabsOk S k T) : Sound (oraOf S.K T) S k N := by
  intro X x L
  have h2 := L.un
  refine ⟨binT_ok S.K L.hK (by omega), unT_ok, cmpT_ok S.K L.hK (by omega), ?_, fun y v e => ?_, fun y e => ?_, fun f sp e es t p pos hg hb hpl ha => ?_, fun f ks sp e es kws t tk p pos hg hb hpl hks ha hk => ?_, fun m sp e o es to t p pos h1 h2 h3 ho ha => ?_,
    fun f r e o to p h1 ho => ?_, ?_, sliT_ok S.K L.hK, set_list, fun f r e => ?_⟩
  · show TruR X (truG S.K)
    rw [← L.hK]
    exact tru_G
  · rw [L.hm]
    exact h.glo y v e
  · rw [L.hm]
    exact h.blt y (List.contains_iff_mem.mp e)
  · obtain ⟨hc, e⟩ := ite_none e
    exact h.fn f sp e N X x L hc es t p pos hg hb hpl ha
  · obtain ⟨hc, e⟩ := ite_none e
    exact h.fnK f ks sp e N X x L hc es kws t tk p pos hg hb hpl hks ha hk
  · obtain ⟨hc, e⟩ := ite_none e
    exact h.mt m sp e N X x L hc o es to t p pos h1 h2 h3 ho ha
  · obtain ⟨hc, e⟩ := ite_none e
    exact h.att f r e N X x L hc o to p h1 ho
  · show IxR X (idxT S.K)
    unfold idxT
    rw [← L.hK]
    exact ix_seq
  · obtain ⟨hc, e⟩ := ite_none e
    exact h.sat f r e N X x L hc
end AS

set_option Elab.async false
set_option linter.all false
set_option maxRecDepth 100000
set_option maxHeartbeats 4000000
/-! X1: exceptions of the program's own classes made by a call with keywords. -/
namespace AS
open PySem PySem.W
section
variable {prog : Program} {w : World} {A : Around} {E : Value → Shared → Prop} {R : Result → Shared → Prop} {h : Heap} {g : Array GenState} {d : Drawn} {t : Nat} {os : OsState}
variable {nm q : Str} {C N : Addr} {bs bm bmB : List Value} {hdct : Bool} {sn : List Str} {sub : List Value} {ab : Bool} {col : Option Bool} {dd : Option Addr} {k0 k1 k2 k3 k5 : Option Value} {B newId initId : String} {rest : List Value} {kw : List (Str × Value)}
theorem chk_new (F : ExcBaseFacts B newId initId bmB) (hT : ∀ X : String, bm.contains (.type X) = bmB.contains (.type X)) {Q : Unit → Shared → Prop}
    (hC : h.get? C = some (excClassObj nm q C N bs bm hdct sn sub ab col dd k0 k1 k2 k3 k5 newId)) (hq : Q () ⟨h, g, d, t, os⟩) : wpAny (model prog w) A (checkBuiltinCall newId ⟨.ref C :: rest, kw⟩) Q E ⟨h, g, d, t, os⟩ := by
  have c1 : (Value.ref C :: bm).contains (.type B) = true := by rw [List.contains_cons, hT, F.hasB, Bool.or_true]
  have c2 := F.noStar
  simp only [checkBuiltinCall, F.newKind, F.newSplit, F.newRow]
  repeat (first | refine wpAny_loadPart_at hC ?_ | (refine wpAny_isSubtype_exc hC ?_; rw [c1]) | refine wpAny_staticBase_exc hC ?_ | refine wpAny_madeBy_exc hC ?_ | simp only [bne_self_eq_false, Bool.false_eq_true, if_false] | wp_step)
  exact hq
theorem new_kw (F : ExcBaseFacts B newId initId bmB) (hT : ∀ X : String, bm.contains (.type X) = bmB.contains (.type X)) (hC : h.get? C = some (excClassObj nm q C N bs bm hdct sn sub ab col dd k0 k1 k2 k3 k5 newId)) (hz : rest.length ≤ sizeLine)
    (hq : R (.ok (.ret (.ref (h.objs.size + 1)))) ⟨(h.push (kdv_tup rest)).push (excObj C h.objs.size none .none), g, d, t, os⟩) :
    codeAny (model prog w) A (.builtin newId ⟨.ref C :: rest, kw⟩) R ⟨h, g, d, t, os⟩ := by
  have e0 := F.ends
  have c1 : (Value.ref C :: bm).contains (.type B) = true := by rw [List.contains_cons, hT, F.hasB, Bool.or_true]
  have c2 : (Value.ref C :: bm).contains (.type "AttributeError") = false := by rw [List.contains_cons, hT, F.noAttr]; rfl
  have c3 : (Value.ref C :: bm).contains (.type "NameError") = false := by rw [List.contains_cons, hT, F.noName]; rfl
  refine codeAny_builtinAt F.entry ?_
  unfold Builtin.«BaseException.__new__»
  refine wpAt_bind ?_
  show wpAt _ _ _ (stack >>= _) _ _ _
  refine wpAt_bind (wpAt_stack fun p below => wpAt_of_wpAny ?_)
  wp_walk
  refine wpAt_of_wpAny ?_
  rw [F.owner]
  repeat (first | with_reducible refine wpAny_madeHere_exc F.canon hC ?_ | with_reducible refine wpAny_loadPart_at hC ?_ | (with_reducible refine wpAny_isSubtype_exc hC ?_; first | rw [c1] | rw [c2] | rw [c3]) | wp_step)
  show R _ _
  rw [Heap.size_push]
  exact hq
theorem tcall_kw (F : ExcBaseFacts B newId initId bmB) (hT : ∀ X : String, bm.contains (.type X) = bmB.contains (.type X)) {fI : Addr} {Q : Fin → Shared → Prop}
    (hC : h.get? C = some (excClassObj nm q C N bs bm hdct sn sub ab col dd k0 k1 k2 k3 k5 newId)) (hi : Looks (model prog w) h (typeLookup (.ref C) "__init__") (some (.ref fI))) (hb : ∀ self, Looks (model prog w) h (bindSpecial (.ref fI) self) (.ref fI, [self])) (hz : rest.length ≤ sizeLine)
    (hq : codeAny (model prog w) A (.call (.ref fI) ⟨.ref (h.objs.size + 1) :: rest, kw⟩)
      (fun r s' => match r with | .ok (.ret v) => v = .none ∧ Q (.done (.ret (.ref (h.objs.size + 1)))) s' | .ok _ => False | .error e => E e s') ⟨(h.push (kdv_tup rest)).push (excObj C h.objs.size none .none), g, d, t, os⟩) :
    wpAny (model prog w) A (Builtin.«type.__call__» ⟨.ref C :: rest, kw⟩) Q E ⟨h, g, d, t, os⟩ := by
  repeat (first | with_reducible refine wpAny_loadPart_at hC ?_ | with_reducible refine wpAny_madeBy_exc hC ?_ | wp_step)
  refine codeAny_call_builtin_code (Code.quiet_builtin _ F.quiet) (chk_new F hT hC ?_)
  refine new_kw F hT hC hz ?_
  show wpAny _ _ _ _ _ _
  have kp : ∀ b o, h.get? b = some o → ((h.push (kdv_tup rest)).push (excObj C h.objs.size none .none)).get? b = some o := fun b o e => Heap.get?_push_of_some _ (Heap.get?_push_of_some _ e)
  have hC1 := kp _ _ hC
  have hg : ((h.push (kdv_tup rest)).push (excObj C h.objs.size none .none)).get? (h.objs.size + 1) = some (excObj C h.objs.size none .none) := by heap_get
  have cc : (Value.ref C :: bm).contains (.ref C) = true := by simp
  have i1 := hi.keeps kp
  have b1 := (hb (.ref (h.objs.size + 1))).keeps kp
  unfold isInstance
  repeat (first | with_reducible refine wpAny_loadPart_at hg ?_ | (with_reducible refine wpAny_isSubtype_exc hC1 ?_; rw [cc]) | wp_step)
  show wpAny _ _ (typeLookup (.ref C) _) _ _ _
  refine i1.at ?_
  refine wpAny_holding (wpAny_bind (b1.at ?_))
  refine wpAny_bind (wpAny_call (codeAny_mono hq fun r s' z => ?_))
  rcases r with e | (v | _ | _ | _) <;> first | exact z | exact z.elim | skip
  obtain ⟨rfl, z⟩ := z
  first
    | exact wpAny_pure (wpAny_pure z)
    | (wp_walk; exact z)
/-- C(.., k = ..): a new exception, then its own __init__ -/
theorem make_exc (F : ExcBaseFacts B newId initId bmB) (hT : ∀ X : String, bm.contains (.type X) = bmB.contains (.type X)) {fI : Addr}
    (hC : h.get? C = some (excClassObj nm q C N bs bm hdct sn sub ab col dd k0 k1 k2 k3 k5 newId)) (hi : Looks (model prog w) h (typeLookup (.ref C) "__init__") (some (.ref fI))) (hb : ∀ self, Looks (model prog w) h (bindSpecial (.ref fI) self) (.ref fI, [self])) (hz : rest.length ≤ sizeLine)
    (hq : codeAny (model prog w) (A.under (.builtin "type.__call__" ⟨.ref C :: rest, kw⟩)) (.call (.ref fI) ⟨.ref (h.objs.size + 1) :: rest, kw⟩) (InitBack (h.objs.size + 1) R) ⟨(h.push (kdv_tup rest)).push (excObj C h.objs.size none .none), g, d, t, os⟩) :
    codeAny (model prog w) A (.call (.ref C) ⟨rest, kw⟩) R ⟨h, g, d, t, os⟩ := by
  have f1 := tc_lookup
  have f2 := tc_bind (.ref C)
  have hTy : (⟨h, g, d, t, os⟩ : Shared).TypeIs (.ref C) "type" := ⟨_, hC, rfl⟩
  refine codeAny_of_tree ?_
  show wpAny _ _ (callAny (.ref C) _) _ _ _
  repeat (any_goals (first | assumption | with_reducible refine wpAny_loadPart_at hC ?_ | wp_step))
  refine ⟨rfl, ?_⟩
  refine codeAny_call_builtin_at (Code.quiet_builtin _ (by decide +kernel)) entry_typeCall (wpAny_check_type_call_sub hC (tcall_kw F hT hC hi hb hz ?_))
  refine codeAny_mono hq fun r s' z => ?_
  rcases r with e | (v | _ | _ | _) <;> exact z
end
end AS

set_option Elab.async false
set_option linter.all false
set_option maxRecDepth 100000
set_option maxHeartbeats 4000000
/-! X2: exceptions of the program's own classes as values: over four built-in bases, with fields. -/
namespace AS
open PySem PySem.Spec PyProof.Rows L2

inductive Bk where
  | ve | lk | rt | ar
  deriving DecidableEq
def Bk.B : Bk → String
  | .ve => "ValueError"
  | .lk => "LookupError"
  | .rt => "RuntimeError"
  | .ar => "ArithmeticError"
def Bk.newId : Bk → String
  | .ve => "ValueError.__new__"
  | .lk => "LookupError.__new__"
  | .rt => "RuntimeError.__new__"
  | .ar => "ArithmeticError.__new__"
def Bk.initId : Bk → String
  | .ve => "ValueError.__init__"
  | .lk => "LookupError.__init__"
  | .rt => "RuntimeError.__init__"
  | .ar => "ArithmeticError.__init__"
def Bk.mro (b : Bk) : List Value := [.type b.B, .type "Exception", .type "BaseException", .type "object"]
theorem Bk.fb : ∀ b : Bk, ExcBaseFacts b.B b.newId b.initId b.mro
  | .ve => PySem.F.excBase_ValueError
  | .lk => PySem.F.excBase_LookupError
  | .rt => PySem.F.excBase_RuntimeError
  | .ar => PySem.F.excBase_ArithmeticError
theorem Bk.sf : ∀ b : Bk, StoreFacts b.B b.mro "object.__setattr__" "object"
  | .ve => PySem.F.store_ValueError
  | .lk => PySem.F.store_LookupError
  | .rt => PySem.F.store_RuntimeError
  | .ar => PySem.F.store_ArithmeticError
/-- what the written part says of an exception's class -/
structure ExcC (K : PySem.W.Frag) (C : Addr) (b : Bk) : Prop where
  ini : PySem.W.excInitIn K C b.mro b.newId = true
  ovr : PySem.W.excOver K C b.mro = true
  hd : PySem.W.hasDictIn K C = true
  kp : PySem.W.keepIn K (.ref C) = true
  sa : PySem.W.findIn K (.ref C) "__setattr__" = some (some (.builtin "object.__setattr__"))
  ga : PySem.W.findIn K (.ref C) "__getattribute__" = some (some (.builtin "BaseException.__getattribute__"))
  gt : PySem.W.findIn K (.ref C) "__getattr__" = some none
  sb : PySem.W.subIn K (.ref C) (.type "BaseException") = some true
  ty : PySem.W.typeIn K (.ref C) = some (.type "type")
  cl : PySem.W.findIn K (.ref C) "__class__" = some (some (.builtin "object.__class__"))
  cg : PySem.W.specialIn K (.builtin "object.__class__") "__get__" = some (some (.builtin "getset_descriptor.__get__"))
  ct : PySem.W.takesIn K (.builtin "object.__class__") = some true
  mo : PySem.W.mroIn K C (.type "object") = some true
  is : (PySem.W.clsIn K C).isSome = true
def excB (K : PySem.W.Frag) (C : Addr) (b : Bk) : Bool := PySem.W.excInitIn K C b.mro b.newId && (PySem.W.excOver K C b.mro && (PySem.W.hasDictIn K C && (PySem.W.keepIn K (.ref C) && (decide (PySem.W.findIn K (.ref C) "__setattr__" = some (some (.builtin "object.__setattr__"))) &&
  (decide (PySem.W.findIn K (.ref C) "__getattribute__" = some (some (.builtin "BaseException.__getattribute__"))) && (decide (PySem.W.findIn K (.ref C) "__getattr__" = some none) && (decide (PySem.W.subIn K (.ref C) (.type "BaseException") = some true) &&
  (decide (PySem.W.typeIn K (.ref C) = some (.type "type")) && (decide (PySem.W.findIn K (.ref C) "__class__" = some (some (.builtin "object.__class__"))) && (decide (PySem.W.specialIn K (.builtin "object.__class__") "__get__" = some (some (.builtin "getset_descriptor.__get__"))) &&
  (decide (PySem.W.takesIn K (.builtin "object.__class__") = some true) && (decide (PySem.W.mroIn K C (.type "object") = some true) && (PySem.W.clsIn K C).isSome))))))))))))
theorem excB_ok {K : PySem.W.Frag} {C : Addr} {b : Bk} (h : excB K C b = true) : ExcC K C b := by
  unfold excB at h
  simp only [Bool.and_eq_true, decide_eq_true_eq] at h
  obtain ⟨h1, h2, h3, h4, h5, h6, h7, h8, h9, h10, h11, h12, h13, h14⟩ := h
  exact ⟨h1, h2, h3, h4, h5, h6, h7, h8, h9, h10, h11, h12, h13, h14⟩

section
variable {prog : Program} {w : World} {A : Around} {R : Result → Shared → Prop} {hp : Heap} {g : Array GenState} {d : Drawn} {t : Nat} {os : OsState}
/-- the first field of a fresh exception -/
theorem store_first {K : PySem.W.Frag} {b : Bk} {C x t1 : Addr} {name : Str} {tk : Tok} {v : Value} (T : ExcC K C b) (X : K.In hp) (hx : hp.get? x = some (PySem.W.excObj C t1 none .none)) (ha : PySem.W.findIn K (.ref C) name = some none)
    (hq : ∀ h' tk' dx, (∀ b o, b ≠ x → hp.get? b = some o → h'.get? b = some o) → hp.objs.size ≤ dx → dx ≠ x → h'.get? x = some (PySem.W.excObj C t1 (some dx) .none) → h'.Ns1 dx (fun y => if y = name then some v else none) → R (.ok (.ret .none)) ⟨h', g, d, tk', os⟩) :
    codeAny (model prog w) A (.call (.builtin "object.__setattr__") ⟨[.ref x, .str name tk, v], []⟩) R ⟨hp, g, d, t, os⟩ := by
  have hxs : x ≠ hp.objs.size := Nat.ne_of_lt (Heap.lt_size hx)
  refine PySem.W.osa_openX (s := ⟨hp, g, d, t, os⟩) (od := none) b.sf X ⟨hx, rfl, rfl, trivial⟩ T.ovr (NoAttr.taker (show NoAttr K C name from ha)) fun bb => ?_
  obtain ⟨cd, hc, hd'⟩ := PySem.W.any_some T.hd
  refine wpAny_bind (wpAny_pure (wpAny_bind (PySem.W.instanceDict_exc (s := ⟨hp, g, d, t, os⟩) hx (PySem.W.looks_clsIn X hc) hd' ?_)))
  show wpAny _ _ (PySem.Builtin.ObjectAttr.storeInDict hp.objs.size (.str name tk) name v) _ _ _
  refine HandSPX.store_in_new ?_ ?_
  · exact ⟨_, #[], _, (Heap.get?_update_ne _ _ _ _ hxs.symm).trans (Heap.get?_push_at rfl rfl), rfl, fun e he => absurd he (by simp), fun _ => rfl⟩
  · intro h' tk' hn' hs
    have hx1 : (hp.push (PySem.W.dictOf [] 0)).get? x = some (PySem.W.excObj C t1 none .none) := Heap.get?_push_of_some _ hx
    refine hq h' tk' hp.objs.size (fun b o hb ho => ?_) (Nat.le_refl _) hxs.symm ?_ hn'
    · exact (hs.2 b (Nat.ne_of_lt (Heap.lt_size ho))).trans ((Heap.get?_update_ne _ _ _ _ hb).trans (Heap.get?_push_of_some _ ho))
    · exact (hs.2 x hxs).trans (Heap.get?_update_self _ hx1 rfl)
/-- a further field -/
theorem store_next {K : PySem.W.Frag} {b : Bk} {C x t1 dx : Addr} {name : Str} {tk : Tok} {v : Value} {m0 : Str → Option Value} {nl : List Str} (T : ExcC K C b) (X : K.In hp) (hx : hp.get? x = some (PySem.W.excObj C t1 (some dx) .none)) (hns : hp.Ns1 dx m0) (hw : Within m0 nl) (hz : nl.length ≤ 1000) (ha : PySem.W.findIn K (.ref C) name = some none)
    (hq : ∀ h' tk', (∀ b o, b ≠ dx → hp.get? b = some o → h'.get? b = some o) → h'.Ns1 dx (fun y => if y = name then some v else m0 y) → R (.ok (.ret .none)) ⟨h', g, d, tk', os⟩) :
    codeAny (model prog w) A (.call (.builtin "object.__setattr__") ⟨[.ref x, .str name tk, v], []⟩) R ⟨hp, g, d, t, os⟩ := by
  obtain ⟨oD, esD, epD, hoD, hdD, _⟩ := hns.count hw
  refine PySem.W.osa_openX (s := ⟨hp, g, d, t, os⟩) (od := some oD) b.sf X ⟨hx, rfl, rfl, hoD⟩ T.ovr (NoAttr.taker (show NoAttr K C name from ha)) fun bb => ?_
  obtain ⟨cd, hc, hd'⟩ := PySem.W.any_some T.hd
  refine wpAny_bind (wpAny_pure (wpAny_bind (wpAny_bind (wpAny_loadPart hx (wpAny_bind ((PySem.W.looks_clsIn X hc).here (s := ⟨hp, g, d, t, os⟩) ?_))))))
  rw [hd']
  refine wpAny_pure (a := some dx) ?_
  exact PySem.OEX.store_in_old hns hw hz fun h' tk' hn' hs => hq h' tk' (fun b o hb ho => (hs.2 b hb).trans ho) hn'
end
end AS

set_option Elab.async false
set_option linter.all false
set_option maxRecDepth 100000
set_option maxHeartbeats 4000000
namespace AS
open PySem PySem.Spec PyProof.Rows L2
section
variable {X : Cx} {pins : List (Addr × Obj)} {σ : St} {H : Hp} {s : Shared} {a C dx t1 : Addr} {f : Str} {y : V} {u : Value} {fs : List (Str × V)} {b : Bk}
/-- a fresh exception gets its dict -/
theorem Inv.exFirst {h' : Heap} {tk : Nat} (I : Inv X pins σ H s) (e : H a = some (exo a C none)) (ry : RelV y u) (k : ∀ b o, b ≠ a → s.heap.get? b = some o → h'.get? b = some o) (dn : s.heap.objs.size ≤ dx) (ne : dx ≠ a)
    (hx : h'.get? a = some (PySem.W.excObj C t1 (some dx) .none)) (hn : h'.Ns1 dx (fun z => if z = f then some u else none)) : Inv X pins σ (upd (upd H dx (exd dx [(f, y)])) a (exo a C (some dx))) { s with heap := h', toks := tk } := by
  have hnd : H dx = none := I.hok.fresh dn
  have na : ∀ {b : Addr}, H b = none → b ≠ a := fun {b} n z => by rw [z, e] at n; cases n
  have old : ∀ {b : Addr} {o : HO}, H b = some o → b ≠ a → upd (upd H dx (exd dx [(f, y)])) a (exo a C (some dx)) b = some o := fun {b o} q z => by
    rw [upd_ne z, upd_ne (ne_of_none q hnd)]
    exact q
  refine I.un ⟨fun b o q n _ _ => k b o (na n) q, fun b o q n _ _ => ⟨o.slots, k b o (na n) q⟩, fun b o q n _ => ?_, fun b o q _ => ?_, fun b xs q => old q (at_ne e q exo_tup), fun b o v q => old q (at_ne e q exo_frz), fun b ps q => ⟨#[], by rw [old q (at_ne e q exo_tbl)]; simp⟩⟩ fun b o q => ?_
  · rw [upd_ne (na n), upd_ne (Nat.ne_of_lt (Nat.lt_of_lt_of_le (Heap.lt_size q) dn))]
    exact n
  · by_cases hb : b = a
    · exact ⟨_, by rw [hb]; exact hx⟩
    · exact ⟨o, k b o hb q⟩
  · by_cases hb : b = a
    · subst hb
      rw [upd_same] at q
      cases q
      exact exo_ok hx
    · rw [upd_ne hb] at q
      by_cases hd : b = dx
      · subst hd
        rw [upd_same] at q
        cases q
        exact exd_ok hn (relO_put (fs := []) ry fun g => True.intro)
      · rw [upd_ne hd] at q
        refine (I.hok b o q).stay (fun c v hc z => k c v ?_ z) (fun c hc => old hc (at_ne e hc exo_own)) fun c xs hc => old hc (at_ne e hc exo_tup)
        rcases hc with hc | hc
        · rw [hc]; exact hb
        · exact at_ne e hc exo_own
/-- x.f = y on an exception -/
def rSatX (K : PySem.W.Frag) (f : Str) : V → V → Hp → (Hp → Prop) → Prop := fun x y H Q => ∃ (a C : Addr) (b : Bk), x = .ref a ∧ ExcC K C b ∧ PySem.W.findIn K (.ref C) f = some none ∧
  ((H a = some (exo a C none) ∧ ∀ dx, H dx = none → dx ≠ a → Q (upd (upd H dx (exd dx [(f, y)])) a (exo a C (some dx)))) ∨
    ∃ (dx : Addr) (fs : List (Str × V)), H a = some (exo a C (some dx)) ∧ H dx = some (exd dx fs) ∧ fs.length ≤ 900 ∧ Q (upd H dx (exd dx ((f, y) :: fs))))
theorem sat_exc : SatR X f (rSatX X.K f) := by
  intro pins s σ H x y ov u Q I rx ry h
  obtain ⟨a, C, b, rfl, T, hno, h⟩ := h
  cases rx
  rcases h with ⟨e, q⟩ | ⟨dx, fs, e, ed, hl, q⟩
  · obtain ⟨t1, ho⟩ := exo_at I.hok e
    obtain ⟨hp, g, d, t, os⟩ := s
    refine PySem.W.set_plain I.kIn (ox := PySem.W.excObj C t1 none .none) (od := none) ⟨ho, rfl, rfl, trivial⟩ T.sa ?_
    exact store_first T I.kIn ho hno fun h' tk' dx k dn ne hx hn => ⟨_, Inv.exFirst I e ry k dn ne hx hn, q dx (I.hok.fresh dn) ne⟩
  · obtain ⟨t1, ho⟩ := exo_at I.hok e
    obtain ⟨mA, hns, rel⟩ := exd_at I.hok ed
    have hw := within_of rel
    obtain ⟨hp, g, d, t, os⟩ := s
    obtain ⟨oD, _, _, hoD, _, _⟩ := hns.count hw
    refine PySem.W.set_plain I.kIn (ox := PySem.W.excObj C t1 (some dx) .none) (od := some oD) ⟨ho, rfl, rfl, hoD⟩ T.sa ?_
    refine store_next T I.kIn ho hns hw (by rw [List.length_map]; omega) hno fun h' tk' k hn => ?_
    have hd : ∃ o, h'.get? dx = some o := by
      obtain ⟨o, _, _, e', _⟩ := hn
      exact ⟨o, e'⟩
    exact ⟨_, I.write (t' := tk') (x := dx) (e := dx) (o := exd dx ((f, y) :: fs)) (by rw [ed]; exact True.intro) (.inl rfl) k hd (exd_ok hn (relO_put ry rel)), q⟩
/-- x.f of an exception -/
@[irreducible] def rAttX (K : PySem.W.Frag) (f : Str) : V → Hp → VK → XK → Prop := fun x H Q _ => ∃ (a C d : Addr) (b : Bk) (fs : List (Str × V)) (v : V), x = .ref a ∧ ExcC K C b ∧ PySem.W.findIn K (.ref C) f = some none ∧ H a = some (exo a C (some d)) ∧ H d = some (exd d fs) ∧ fs.lookup f = some v ∧ Q v H
theorem att_exc {o : Expr} {to : TE} {p : Pos} {W : WX} (hs : isSup o = false) (ho : PE X o to) : PE X (.Attribute o f p) (tAtt (rAttX X.K f) W to) := by
  refine ⟨fun pins s σ H Q I h => ?_⟩
  refine attr_of (sup_no hs) (thn (ho.run pins s σ H _ I h) fun u s1 hh => ?_)
  obtain ⟨x, H1, I1, rx, hh⟩ := hh
  unfold rAttX at hh
  obtain ⟨a, C, d, b, fs, v, rfl, T, hno, ea, ed, hl, q⟩ := hh
  obtain rfl : u = Value.ref a := rx
  obtain ⟨t1, hoA⟩ := exo_at I1.hok ea
  obtain ⟨mA, hns, rel⟩ := exd_at I1.hok ed
  obtain ⟨od, hod, hlk⟩ := lookIn_ns hns
  obtain ⟨w, hw, rw'⟩ := RelO.some_of (v := v) (o := mA f) (by rw [← hl]; exact rel f)
  exact HandSPX.exc_get I1.kIn (ox := PySem.W.excObj C t1 (some d) .none) ⟨hoA, rfl, rfl, hod⟩ T.ga T.gt T.sb (PySem.W.findObj_own T.hd hno rfl (by rw [hlk, hw])) (handed_of rw') ⟨v, H1, I1.tok _, rw', q⟩
/-- isinstance(x, C): plain things, or an exception -/
def rIsiG (K : PySem.W.Frag) : List V → Hp → VK → Prop := fun xs H Q => rIsi K xs H Q ∨ ∃ (a C : Addr) (d : Option Addr) (b : Bk) (c : V) (u : Value) (r : Bool), xs = [.ref a, c] ∧ ExcC K C b ∧ H a = some (exo a C d) ∧ ClsV c u ∧ PySem.W.kitOne K (.ref C) u = some r ∧
  (∀ d', d = some d' → ∃ fs, H d' = some (exd d' fs)) ∧ Q (.bl r) H
theorem call_isiG : CallR X (.builtin "isinstance") (rIsiG X.K) := by
  intro pins s σ H xs us Q I r h
  rcases h with h | ⟨a, C, d, b, c, u, r1, rfl, T, ea, kc, hk, hd, q⟩
  · exact call_isi pins s σ H xs us Q I r h
  · obtain ⟨u1, u2, rfl, ra, rc⟩ := vals2 r
    cases ra
    have e2 := kc.eq rc
    subst e2
    obtain ⟨t1, hoA⟩ := exo_at I.hok ea
    have fin : ∀ od, PySem.W.InstAt s.heap a (PySem.W.excObj C t1 d .none) C od → wpAny (model X.prog X.w) X.A (call (.builtin "isinstance") [.ref a, u2]) (EP X pins σ Q) X.xe s := fun od J =>
      PySem.W.kia_one (PySem.W.kitx_exc (x := a) (ox := PySem.W.excObj C t1 d .none) (od := od) T.is T.ga T.gt T.sb T.cl T.cg T.ct T.mo) I.kIn J hk (fun z => nomatch z) fun tk => ⟨.bl r1, H, I.tok tk, rfl, q⟩
    cases d with
    | none => exact fin none ⟨hoA, rfl, rfl, trivial⟩
    | some d' =>
      obtain ⟨fs, ed⟩ := hd d' rfl
      obtain ⟨mA, hns, rel⟩ := exd_at I.hok ed
      obtain ⟨od, hod, _⟩ := lookIn_ns hns
      exact fin (some od) ⟨hoA, rfl, rfl, hod⟩
end

/-! ### C(..) -/
/-- a new exception, then its __init__ -/
def mkX (C : Addr) (sp : Sp) : Sp := fun vs H Q E => vs.length ≤ 1000 ∧ ∀ a, H a = none → sp (.ref a :: vs) (upd H a (exo a C none)) (fun v H2 => v = .non ∧ Q (.ref a) H2) E
section
variable {S : Sys} {k : Nat} {N : List Str} {X : Cx} {x : Ctx}
theorem run_mkX {b : Bk} {C fI : Addr} {fd : FuncData} {ps : List Str} {sp : Sp} {j : Nat} {rest : List Value} {kw : List (Str × Value)} {us : List Value} {vs : List V} {pins : List (Addr × Obj)} {σ : St} {H : Hp} {s : Shared} {Q : VK} (L : Like S k N X x) (hc : x.c = true) (T : ExcC S.K C b)
    (F : FnB S j fI fd ps sp) (hj : j + 1 ≤ k) (hi : PySem.W.findIn S.K (.ref C) "__init__" = some (some (.ref fI))) (ht : PySem.W.typeIn S.K (.ref fI) = some (.type "function")) (hb : ∀ (s : Shared) (e : Value), BindsTo s fd ⟨e :: rest, kw⟩ (ps.zip (e :: us))) (hz : rest.length ≤ 1000)
    (I : Inv X pins σ H s) (r : Vals vs us) (h : mkX C sp vs H Q fun c d H' => x.W c d σ H') : wpAny (model X.prog X.w) X.A (call (.ref C) rest kw) (EP X pins σ Q) X.xe s := by
  obtain ⟨hp, g, d, t, os⟩ := s
  have KX : S.K.In hp := by
    have q := I.kIn
    rw [L.hK] at q
    exact q
  obtain ⟨nm, Na, qn, bs, bm, hdct, sn, sub, ab, col, dd, k0, k1, k2, k3, k5, hC, hT⟩ := PySem.W.excInit_of KX T.ini
  have kp : ∀ b o, hp.get? b = some o → ((hp.push (PySem.W.kdv_tup rest)).push (PySem.W.excObj C hp.objs.size none .none)).get? b = some o := fun b o e => Heap.get?_push_of_some _ (Heap.get?_push_of_some _ e)
  have hg : ((hp.push (PySem.W.kdv_tup rest)).push (PySem.W.excObj C hp.objs.size none .none)).get? (hp.objs.size + 1) = some (PySem.W.excObj C hp.objs.size none .none) := by heap_get
  have hn : H (hp.objs.size + 1) = none := I.hok.fresh (Nat.le_succ _)
  have J : Inv X pins σ (upd H (hp.objs.size + 1) (exo (hp.objs.size + 1) C none)) ⟨(hp.push (PySem.W.kdv_tup rest)).push (PySem.W.excObj C hp.objs.size none .none), g, d, t, os⟩ :=
    I.laid (t' := t) kp (Nat.le_succ _) (exo_ok hg)
  have hq := h.2 (hp.objs.size + 1) hn
  have rm := L.roomG hc I hj
  refine wpAny_call (make_exc b.fb hT hC (PySem.W.looks_findIn KX hi) (fun self => PySem.W.bind_fn KX self ht) (Nat.le_trans hz (by rw [sizeLine_eq]; omega)) ?_)
  have run := F (X.A.under (.builtin "type.__call__" ⟨.ref C :: rest, kw⟩)) X.stack _ _ ⟨.ref (hp.objs.size + 1) :: rest, kw⟩ (.ref (hp.objs.size + 1) :: us) (.ref (hp.objs.size + 1) :: vs) _ _ ⟨rm.r.make C rest kw, ?_⟩ ((L.env0 J).make C rest kw) (hb _ _) (.cons rfl r) hq
  · rw [← L.hP, ← L.hw] at run
    refine codeAny_mono run fun r s' z => ?_
    rw [L.hP, L.hw] at z
    have z2 := L.back J z
    cases r with
    | error e => exact z2
    | ok fl =>
      cases fl with
      | ret u =>
        obtain ⟨v, H', I3, rv, ev, q3⟩ := z2
        subst ev
        exact ⟨rv, ⟨V.ref (hp.objs.size + 1), H', I3, rfl, q3⟩⟩
      | _ => exact z2.elim
  · have e := rm.g
    first | exact e | (simpa [Around.under, Code.guards, Code.isGuard, guardIds, pushGuards] using e)
end
end AS

set_option Elab.async false
set_option linter.all false
set_option maxRecDepth 100000
set_option maxHeartbeats 4000000
namespace AS
open PySem PySem.Spec PyProof.Rows L2
section
variable {S : Sys} {k : Nat}
/-- C(e, ..) by places -/
theorem ent_mkX {b : Bk} {C fI : Addr} {n : Str} {fd : FuncData} {ps : List Str} {sp : Sp} {j : Nat} (T : ExcC S.K C b) (F : FnB S j fI fd ps sp) (hj : j + 1 ≤ k) (hm : S.mg n = some (.ref C)) (hi : PySem.W.findIn S.K (.ref C) "__init__" = some (some (.ref fI))) (ht : PySem.W.typeIn S.K (.ref fI) = some (.type "function"))
    (hb : ∀ (s : Shared) (e : Value) (us : List Value), us.length + 1 = ps.length → BindsTo s fd ⟨e :: us, []⟩ (ps.zip (e :: us))) (len : ∀ vs H Q E, sp vs H Q E → vs.length = ps.length) : CallE S k n (mkX C sp) := by
  intro N X x L hc es t p pos hg hbn hpl ha
  have hm' : X.mg n = some (.ref C) := by rw [L.hm]; exact hm
  have hk' : PySem.W.keepIn X.K (.ref C) = true := by rw [L.hK]; exact T.kp
  have go : ∀ {pins : List (Addr × Obj)} {σ : St} {H : Hp} {s : Shared} {Q : VK} {us : List Value} {vs : List V}, Inv X pins σ H s → Vals vs us → mkX C sp vs H Q (fun c d H' => x.W c d σ H') → wpAny (model X.prog X.w) X.A (call (.ref C) us) (EP X pins σ Q) X.xe s := by
    intro pins σ H s Q us vs I r h
    have l : vs.length + 1 = ps.length := by
      have q := len _ _ _ _ (h.2 s.heap.objs.size (I.hok.fresh (Nat.le_refl _)))
      simpa using q
    have lu := r.length
    exact run_mkX (kw := []) L hc T F hj hi ht (fun s e => hb s e us (by omega)) (by have := h.1; omega) I r h
  refine ⟨fun pins s σ H Q I h => ?_⟩
  refine wpAny_Call_Name_kw (ld_glob I hg hm' ?_ (badName_no hbn).1)
  cases es with
  | nil =>
    refine PySem.W.callWith_K0 I.kIn hk' ?_
    have h1 : wpAny (model X.prog X.w) X.A (spliced (backTo pos (starEach [] X.env)) >>= fun us => call (.ref C) us) (EP X pins σ Q) X.xe s :=
      wpAny_bind (thn (ha.run pos pins s σ H _ I h) fun us s1 ⟨vs, H1, I1, r, q⟩ => go I1 r q)
    exact h1
  | cons e es =>
    obtain ⟨h1, h2⟩ := b2 (show (plainA e && es.all plainA) = true from hpl)
    exact PySem.W.callWith_K (h₀ := X.base) I.ok.mod.kin hk' (thn (ha.run pos pins s σ H _ I h) fun us s1 ⟨vs, H1, I1, r, q⟩ => ⟨I1.kIn, go I1 r q⟩) (star_one h1) (star_all h2)
theorem kws_ok {env : Env} {pos : Pos} : ∀ {kws : List Keyword} {ks : List Str}, kws.map (·.arg) = ks.map some → (backToKw pos (keywordEach kws env)).all (·.1.isSome) = true ∧ (backToKw pos (keywordEach kws env)).filterMap (·.1) = ks ∧ (backToKw pos (keywordEach kws env)).any (·.1.isNone) = false
  | [], [], _ => ⟨rfl, rfl, rfl⟩
  | [], _ :: _, h => by cases h
  | _ :: _, [], h => by cases h
  | ⟨a, e, q⟩ :: kws, y :: ks, h => by
    have h' : a :: kws.map (·.arg) = some y :: ks.map some := h
    injection h' with h1 h2
    subst h1
    obtain ⟨i1, i2, i3⟩ := kws_ok (env := env) (pos := pos) h2
    refine ⟨?_, ?_, ?_⟩
    · show (true && (backToKw pos (keywordEach kws env)).all (·.1.isSome)) = true
      rw [i1]; rfl
    · show y :: (backToKw pos (keywordEach kws env)).filterMap (·.1) = y :: ks
      rw [i2]
    · show (false || (backToKw pos (keywordEach kws env)).any (·.1.isNone)) = false
      rw [i3]; rfl
/-- C(f = e, ..): the keywords ks in this order, put into the parameters' order by arr -/
theorem ent_mkXK {b : Bk} {C fI : Addr} {n : Str} {fd : FuncData} {ps ks : List Str} {sp : Sp} {j : Nat} (arr : {α : Type} → List α → List α) (T : ExcC S.K C b) (F : FnB S j fI fd ps sp) (hj : j + 1 ≤ k) (hm : S.mg n = some (.ref C)) (hi : PySem.W.findIn S.K (.ref C) "__init__" = some (some (.ref fI))) (ht : PySem.W.typeIn S.K (.ref fI) = some (.type "function"))
    (hb : ∀ (s : Shared) (e : Value) (ws : List Value), ws.length = ks.length → BindsTo s fd ⟨[e], ks.zip ws⟩ (ps.zip (e :: arr ws))) (hv : ∀ (zs : List V) (ws : List Value), Vals zs ws → zs.length = ks.length → Vals (arr zs) (arr ws)) :
    CallKE S k n ks (fun vs zs H Q E => vs = [] ∧ zs.length = ks.length ∧ mkX C sp (arr zs) H Q E) := by
  intro N X x L hc es kws t tk p pos hg hbn hpl hks ha hkw
  have hm' : X.mg n = some (.ref C) := by rw [L.hm]; exact hm
  have hk' : PySem.W.keepIn X.K (.ref C) = true := by rw [L.hK]; exact T.kp
  obtain ⟨k1, k2, k3⟩ := kws_ok (env := X.env) (pos := pos) hks
  have kl : ∀ {pins : List (Addr × Obj)} {σ : St} {H : Hp} {s : Shared} {R : List V → Hp → Prop}, Inv X pins σ H s → tk σ H R → wpAny (model X.prog X.w) X.A (evalAll ((backToKw pos (keywordEach kws X.env)).map (·.2))) (AP X pins σ R) X.xe s := fun {pins σ H s R} I h => hkw.run pos pins s σ H R I h
  have go : ∀ {pins : List (Addr × Obj)} {σ : St} {H : Hp} {s : Shared} {Q : VK} {ws : List Value} {zs : List V}, Inv X pins σ H s → Vals zs ws → zs.length = ks.length → mkX C sp (arr zs) H Q (fun c d H' => x.W c d σ H') → wpAny (model X.prog X.w) X.A (call (.ref C) [] (ks.zip ws)) (EP X pins σ Q) X.xe s := by
    intro pins σ H s Q ws zs I r hl h
    have lu := r.length
    exact run_mkX (rest := []) (us := arr ws) L hc T F hj hi ht (fun s e => hb s e ws (by omega)) (by simp) I (hv zs ws r hl) h
  refine ⟨fun pins s σ H Q I h => ?_⟩
  refine wpAny_Call_Name_kw (ld_glob I hg hm' ?_ (badName_no hbn).1)
  have nx : ∀ {us : List Value}, Vals [] us → us = [] := fun {us} r => by cases r; rfl
  cases es with
  | nil =>
    refine PySem.W.callWith_KW0 (h₀ := X.base) I.ok.mod.kin hk' k1 ?_ (by rw [k3]; rfl)
    have h1 : wpAny (model X.prog X.w) X.A (spliced (backTo pos (starEach [] X.env)) >>= fun _ => evalAll ((backToKw pos (keywordEach kws X.env)).map (·.2))) (fun ws s2 => X.K.In s2.heap ∧ wpAny (model X.prog X.w) X.A (call (.ref C) [] (ks.zip ws)) (EP X pins σ Q) X.xe s2) X.xe s := by
      refine wpAny_bind (thn (ha.run pos pins s σ H _ I h) fun us s1 ⟨vs, H1, I1, r, q⟩ => ?_)
      exact thn (kl I1 q) fun ws s2 ⟨zs, H2, I2, rz, _, hl, q2⟩ => ⟨I2.kIn, go I2 rz hl q2⟩
    rw [k2]
    exact h1
  | cons e es =>
    obtain ⟨h1, h2⟩ := b2 (show (plainA e && es.all plainA) = true from hpl)
    refine PySem.W.callWith_KW (h₀ := X.base) I.ok.mod.kin hk' k1 (thn (ha.run pos pins s σ H _ I h) fun us s1 ⟨vs, H1, I1, r, q⟩ => ?_) (by rw [k3, star_all hpl]; rfl) (star_one h1)
    refine thn (kl I1 q) fun ws s2 ⟨zs, H2, I2, rz, ev, hl, q2⟩ => ⟨I2.kIn, ?_⟩
    subst ev
    rw [k2, nx r]
    exact go I2 rz hl q2
end
end AS

set_option Elab.async false
set_option linter.all false
set_option maxRecDepth 100000
set_option maxHeartbeats 4000000
/-! L1: what all laws share: the drawn numbers (_law_rng, _law_draw, _law_choice). -/
namespace AS
open PySem PySem.Spec PyProof.Rows L2

/-! ### intro rules of the leaves -/
section
variable {K : PySem.W.Frag} {H : Hp} {Q : VK}
theorem idx_lst {a : Addr} {xs : List V} {i : Int} {v : V} (h : SqL K H a xs) (hv : atI xs i = some v) (q : Q v H) : idxT K (.ref a) (.int i) H Q := by unfold idxT; exact .inl ⟨a, xs, i, v, rfl, rfl, h, hv, q⟩
theorem idx_tup {a : Addr} {xs : List V} {i : Int} {v : V} (h : SqT K H a xs) (hv : atI xs i = some v) (q : Q v H) : idxT K (.ref a) (.int i) H Q := by unfold idxT; exact .inr (.inl ⟨a, xs, i, v, rfl, rfl, h, hv, q⟩)
theorem idx_str {z : Str} {i : Int} {c : Nat} (h : z.length ≤ sizeLine) (hv : atI z.cps.toList i = some c) (q : Q (.str ⟨#[c]⟩) H) : idxT K (.str z) (.int i) H Q := by unfold idxT; exact .inr (.inr ⟨z, i, c, rfl, rfl, h, hv, q⟩)
theorem eq_sc {x y : V} (h : scal x y = true) (q : Q (.bl (decide (x = y))) H) : eqR K x y H Q := by unfold eqR; exact .inl ⟨h, q⟩
theorem ne_sc {x y : V} (h : scal x y = true) (q : Q (.bl (!decide (x = y))) H) : neR K x y H Q := by unfold neR; exact .inl ⟨h, q⟩
end
/-- all but r is kept -/
def Mod1 (r : Addr) (H H' : Hp) : Prop := ∀ b o, b ≠ r → H b = some o → H' b = some o
theorem Mod1.refl {r : Addr} {H : Hp} : Mod1 r H H := fun _ _ _ e => e
theorem Mod1.trans {r : Addr} {H H1 H2 : Hp} (a : Mod1 r H H1) (b : Mod1 r H1 H2) : Mod1 r H H2 := fun c o n e => b c o n (a c o n e)
theorem Mod1.put {r : Addr} {H H1 : Hp} {o : HO} (a : Mod1 r H H1) : Mod1 r H (upd H1 r o) := fun c u n e => by rw [upd_ne n]; exact a c u n e
theorem Mod1.new {r p : Addr} {H H1 : Hp} {o : HO} (a : Mod1 r H H1) (hp : H1 p = none) : Mod1 r H (upd H1 p o) := fun c u n e => by
  have q := a c u n e
  rw [upd_ne (ne_of_none q hp)]
  exact q
theorem Mod1.sqL {r a : Addr} {K : PySem.W.Frag} {H H' : Hp} {xs : List V} (m : Mod1 r H H') (n : a ≠ r) (h : SqL K H a xs) : SqL K H' a xs := by
  rcases h with (h | ⟨o, h⟩) | h
  · exact .inl (.inl (m _ _ n h))
  · exact .inl (.inr ⟨o, m _ _ n h⟩)
  · exact .inr h
/-- a drawer of numbers at r -/
def RngAt (H : Hp) (r : Addr) : Prop := ∃ n m : Int, H r = some (.lst [.int n, .int m]) ∧ 0 ≤ n ∧ 0 ≤ m ∧ m < 2147483564
def sp_draw : Sp := fun vs H Q _ => ∃ (r : Addr) (m : Int), vs = [.ref r, .int m] ∧ RngAt H r ∧ 0 < m ∧ m < 1073741824 ∧ ∀ (d : Int) (H' : Hp), 0 ≤ d → d < m → RngAt H' r → Mod1 r H H' → Q (.int d) H'
abbrev spDivmod : Sp := fun vs H Q _ => rDivmod vs H Q
abbrev spInt : Sp := fun vs H Q _ => rInt1 vs H Q
def t_draw (K : PySem.W.Frag) (E : XK) : TS :=
  (tSeq (tIfS (tTest (tOp gtR (tOp (idxT K) (tNm 0) (tC (.int 0))) (tC (.int 0)))) (tSeq (tAsg (tCl spDivmod (wD E) (tCons (tOp (idxT K) (tNm 0) (tC (.int 0))) (tCons (tNm 1) tNil))) (oG (gTup K 2 (gCons (gSub (tNm 0) (tC (.int 0)) rSetL) (gCons (gName 2) gNil))) (gLst K 2 (gCons (gSub (tNm 0) (tC (.int 0)) rSetL) (gCons (gName 2) gNil))))) (tRet (tNm 2))) tNext) (tSeq (tAsg (tOp modR (tCl spInt (wD E) (tCons (tOp (addR K) (tOp mulR (tOp (idxT K) (tNm 0) (tC (.int 1))) (tC (.int 40693))) (tC (.int 27017))) tNil)) (tC (.int 2147483563))) (gSub (tNm 0) (tC (.int 1)) rSetL)) (tRet (tOp modR (tOp fdivR (tOp modR (tCl spInt (wD E) (tCons (tOp mulR (tOp (idxT K) (tNm 0) (tC (.int 1))) (tOp (idxT K) (tNm 0) (tC (.int 1)))) tNil)) (tC (.int 2147483477))) (tC (.int 17))) (tNm 1)))))
theorem draw_tail (K : PySem.W.Frag) (E : XK) (r : Addr) (m n0 x1 : Int) (H : Hp) (Q : VK) (hm0 : 0 < m) (h0 : 0 ≤ n0) (x0 : 0 ≤ x1) (x2 : x1 < 2147483563) (k : ∀ (d : Int) (H' : Hp), 0 ≤ d → d < m → RngAt H' r → Mod1 r H H' → Q (.int d) H') :
    (tRet (tOp modR (tOp fdivR (tOp modR (tCl spInt (wD E) (tCons (tOp mulR (tOp (idxT K) (tNm 0) (tC (.int 1))) (tOp (idxT K) (tNm 0) (tC (.int 1)))) tNil)) (tC (.int 2147483477))) (tC (.int 17))) (tNm 1))) { nx := fun _ H' => Q .non H', rt := Q } [some (.ref r), some (.int m), none] (upd H r (.lst [.int n0, .int x1])) := by
  refine idx_lst (SqL.of upd_same) (v := .int x1) rfl ?_
  refine idx_lst (SqL.of upd_same) (v := .int x1) rfl ?_
  refine ⟨.inl ⟨by omega, by omega⟩, ?_⟩
  refine .inl ⟨_, rfl, ?_⟩
  refine ⟨(by show (0 : Int) < 2147483477; decide), ?_⟩
  refine ⟨⟨by decide, by decide⟩, ?_⟩
  refine ⟨hm0, ?_⟩
  exact k _ _ (Int.emod_nonneg _ (by omega)) (Int.emod_lt_of_pos _ hm0) ⟨n0, x1, upd_same, h0, x0, by omega⟩ Mod1.refl.put
theorem pure_draw (K : PySem.W.Frag) (vs : List V) (H : Hp) (Q : VK) (E : XK) (h : sp_draw vs H Q E) : t_draw K E { nx := fun _ H' => Q .non H', rt := Q } (start ["_law_rng_here", "_law_many", "_law_digit"] vs) H := by
  obtain ⟨r, m, rfl, ⟨n0, n1, hr, h0, h1, h2⟩, hm0, hm1, k⟩ := h
  refine idx_lst (SqL.of hr) (v := .int n0) rfl ?_
  refine ⟨_, rfl, ?_⟩
  by_cases c : (0 : Int) < n0
  · rw [decide_eq_true c]
    refine iteT ?_
    refine idx_lst (SqL.of hr) (v := .int n0) rfl ?_
    refine ⟨n0, m, rfl, ⟨hm0, hm1⟩, fun p hp => ?_⟩
    have npr : r ≠ p := ne_of_none hr hp
    refine .inl ⟨p, _, rfl, SqT.of upd_same, rfl, _, _, rfl, ?_⟩
    refine ⟨r, [.int n0, .int n1], 0, 0, rfl, rfl, ?_, rfl, ?_⟩
    · rw [upd_ne npr]; exact hr
    · refine ⟨_, _, rfl, rfl, ?_⟩
      show Q (.int (n0 % m)) _
      refine k _ _ (Int.emod_nonneg _ (by omega)) (Int.emod_lt_of_pos _ hm0) ⟨n0 / m, n1, upd_same, Int.ediv_nonneg h0 (by omega), h1, h2⟩ ?_
      exact (Mod1.refl.new hp).put
  · rw [decide_eq_false c]
    refine iteF ?_
    refine idx_lst (SqL.of hr) (v := .int n1) rfl ?_
    refine ⟨.inr ⟨by decide, by decide⟩, ?_⟩
    refine .inl ⟨_, rfl, ?_⟩
    refine ⟨(by show (0 : Int) < 2147483563; decide), ?_⟩
    refine ⟨r, [.int n0, .int n1], 1, 1, rfl, rfl, hr, rfl, ?_⟩
    exact draw_tail K E r m n0 _ H Q hm0 h0 (Int.emod_nonneg _ (by decide)) (Int.emod_lt_of_pos _ (by decide)) (k · · · · · ·)

/-! ### _law_rng -/
abbrev spLen (K : PySem.W.Frag) : Sp := fun vs H Q _ => rLenG K vs H Q
abbrev spMax : Sp := fun vs H Q _ => rMax2 vs H Q
abbrev spMin : Sp := fun vs H Q _ => rMin2 vs H Q
abbrev spAbs : Sp := fun vs H Q _ => rAbs vs H Q
def sp_rng (K : PySem.W.Frag) : Sp := fun vs H Q _ => ∃ (a : Addr) (i : Nat) (ns : List Int), vs = [.ref a, .int i] ∧ i < 1000 ∧ SqL K H a (ns.map V.int) ∧ ∀ (p : Addr) (o : HO), H p = none → RngAt (upd H p o) p → Q (.ref p) (upd H p o)
def t_rng (K : PySem.W.Frag) (E : XK) : TS :=
  (tSeq (tAsg (tOp (addR K) (tOp mulR (tC (.int 17)) (tNm 1)) (tC (.int 5))) (gName 2)) (tSeq (tIfS (tTest (tOp ltR (tNm 1) (tCl (spLen K) (wD E) (tCons (tNm 0) tNil)))) (tAsg (tOp (idxT K) (tNm 0) (tNm 1)) (gName 2)) tNext) (tRet (tLst (tCons (tCl spMax (wD E) (tCons (tC (.int 0)) (tCons (tOp subR (tCl spAbs (wD E) (tCons (tNm 2) tNil)) (tOp powR (tC (.int 10)) (tC (.int 18)))) tNil))) (tCons (tOp (addR K) (tOp modR (tOp mulR (tCl spInt (wD E) (tCons (tOp (addR K) (tOp modR (tCl spInt (wD E) (tCons (tCl spAbs (wD E) (tCons (tNm 2) tNil)) tNil)) (tC (.int 2147483549))) (tC (.int 1))) tNil)) (tOp powR (tOp (addR K) (tOp mulR (tC (.int 2)) (tNm 1)) (tC (.int 7))) (tC (.int 3)))) (tC (.int 2147483489))) (tC (.int 1))) tNil))))))
theorem atI_nat' {α : Type} {xs : List α} {i : Nat} {v : α} (h : xs[i]? = some v) : atI xs (i : Int) = some v := atI_nat h
theorem rng_tail (K : PySem.W.Frag) (E : XK) (a : Addr) (i : Nat) (c : Int) (H : Hp) (Q : VK) (hi : i < 1000) (k : ∀ (p : Addr) (o : HO), H p = none → RngAt (upd H p o) p → Q (.ref p) (upd H p o)) :
    (tLst (tCons (tCl spMax (wD E) (tCons (tC (.int 0)) (tCons (tOp subR (tCl spAbs (wD E) (tCons (tNm 2) tNil)) (tOp powR (tC (.int 10)) (tC (.int 18)))) tNil))) (tCons (tOp (addR K) (tOp modR (tOp mulR (tCl spInt (wD E) (tCons (tOp (addR K) (tOp modR (tCl spInt (wD E) (tCons (tCl spAbs (wD E) (tCons (tNm 2) tNil)) tNil)) (tC (.int 2147483549))) (tC (.int 1))) tNil)) (tOp powR (tOp (addR K) (tOp mulR (tC (.int 2)) (tNm 1)) (tC (.int 7))) (tC (.int 3)))) (tC (.int 2147483489))) (tC (.int 1))) tNil))) [some (.ref a), some (.int i), some (.int c)] H Q := by
  refine ⟨c, rfl, ?_⟩
  refine ⟨⟨by decide, by decide, by decide⟩, ?_⟩
  refine ⟨0, _, rfl, ?_⟩
  refine ⟨c, rfl, ?_⟩
  refine .inl ⟨_, rfl, ?_⟩
  refine ⟨(by show (0 : Int) < 2147483549; decide), ?_⟩
  refine .inl ⟨_, rfl, ?_⟩
  refine ⟨.inl ⟨by decide, by decide⟩, ?_⟩
  refine ⟨⟨by decide, by decide, by omega⟩, ?_⟩
  generalize hx : (if c < 0 then -c else c) % 2147483549 + 1 = x
  have x0 : 0 ≤ x := by rw [← hx]; have := Int.emod_nonneg (if c < 0 then -c else c) (show (2147483549 : Int) ≠ 0 by decide); omega
  have x1 : x ≤ 2147483549 := by rw [← hx]; have := Int.emod_lt_of_pos (if c < 0 then -c else c) (show (0 : Int) < 2147483549 by decide); omega
  refine ⟨.inl ⟨by omega, by omega⟩, ?_⟩
  refine ⟨(by show (0 : Int) < 2147483489; decide), ?_⟩
  refine ⟨by show 2 ≤ sizeLine; decide, fun p hp => ?_⟩
  refine k p _ hp ⟨_, _, upd_same, ?_, ?_, ?_⟩
  · split <;> omega
  · have := Int.emod_nonneg (x * (2 * (i : Int) + 7) ^ Int.toNat 3) (show (2147483489 : Int) ≠ 0 by decide)
    omega
  · have := Int.emod_lt_of_pos (x * (2 * (i : Int) + 7) ^ Int.toNat 3) (show (0 : Int) < 2147483489 by decide)
    omega
theorem pure_rng (K : PySem.W.Frag) (vs : List V) (H : Hp) (Q : VK) (E : XK) (h : sp_rng K vs H Q E) : t_rng K E { nx := fun _ H' => Q .non H', rt := Q } (start ["_law_script", "_law_k", "_law_cell"] vs) H := by
  obtain ⟨a, i, ns, rfl, hi, hS, k⟩ := h
  refine ⟨.inl ⟨by decide, by decide⟩, ?_⟩
  refine ⟨_, _, rfl, .inl ⟨_, hS, rfl⟩, ?_⟩
  refine ⟨_, rfl, ?_⟩
  rw [List.length_map]
  by_cases c : (i : Int) < (ns.length : Int)
  · rw [decide_eq_true c]
    refine iteT ?_
    have l : i < ns.length := by omega
    refine idx_lst hS (v := .int ns[i]) (atI_nat (by rw [List.getElem?_map, List.getElem?_eq_getElem l]; rfl)) ?_
    exact rng_tail K E a i ns[i] H Q hi k
  · rw [decide_eq_false c]
    refine iteF ?_
    exact rng_tail K E a i _ H Q hi k

/-! ### _law_choice -/
def sp_choice (K : PySem.W.Frag) : Sp := fun vs H Q _ => ∃ (r : Addr) (w : V), vs = [.ref r, w] ∧ RngAt H r ∧
  ((∃ (l : Addr) (xs : List V), w = .ref l ∧ l ≠ r ∧ SqL K H l xs ∧ xs ≠ [] ∧ xs.length < 1073741824 ∧ ∀ (i : Nat) (v : V) (H' : Hp), xs[i]? = some v → RngAt H' r → Mod1 r H H' → Q v H') ∨
    ∃ z : Str, w = .str z ∧ z.length ≤ sizeLine ∧ 0 < z.length ∧ ∀ (i : Nat) (c : Nat) (H' : Hp), z.cps.toList[i]? = some c → RngAt H' r → Mod1 r H H' → Q (.str ⟨#[c]⟩) H')
def t_choice (K : PySem.W.Frag) (E : XK) : TS := (tRet (tOp (idxT K) (tNm 1) (tCl sp_draw (wD E) (tCons (tNm 0) (tCons (tCl (spLen K) (wD E) (tCons (tNm 1) tNil)) tNil)))))
theorem sl_lt : sizeLine < 1073741824 := by rw [sizeLine_eq]; decide
theorem pure_choice (K : PySem.W.Frag) (vs : List V) (H : Hp) (Q : VK) (E : XK) (h : sp_choice K vs H Q E) : t_choice K E { nx := fun _ H' => Q .non H', rt := Q } (start ["_law_rng_here", "_law_some"] vs) H := by
  obtain ⟨r, w, rfl, hr, h⟩ := h
  rcases h with ⟨l, xs, rfl, nl, hS, hn, hz, k⟩ | ⟨z, rfl, hz, h0, k⟩
  · refine ⟨_, _, rfl, .inl ⟨_, hS, rfl⟩, ?_⟩
    have pos : 0 < xs.length := List.length_pos_iff.mpr hn
    refine ⟨r, _, rfl, hr, by omega, by omega, fun d H' d0 d1 hr' m => ?_⟩
    obtain ⟨j, rfl⟩ : ∃ j : Nat, d = (j : Int) := ⟨d.toNat, by omega⟩
    have hj : j < xs.length := by omega
    refine idx_lst (m.sqL nl hS) (v := xs[j]) (atI_nat (List.getElem?_eq_getElem hj)) ?_
    exact k j _ H' (List.getElem?_eq_getElem hj) hr' m
  · refine ⟨_, _, rfl, ⟨hz, rfl⟩, ?_⟩
    have sl := sl_lt
    refine ⟨r, _, rfl, hr, by omega, by omega, fun d H' d0 d1 hr' m => ?_⟩
    obtain ⟨j, rfl⟩ : ∃ j : Nat, d = (j : Int) := ⟨d.toNat, by omega⟩
    have hj : j < z.cps.toList.length := by
      have e : z.cps.toList.length = z.length := by simp [Str.length]
      omega
    refine idx_str hz (c := z.cps.toList[j]) (atI_nat (List.getElem?_eq_getElem hj)) ?_
    exact k j _ H' (List.getElem?_eq_getElem hj) hr' m
end AS

set_option Elab.async false
set_option linter.all false
set_option maxRecDepth 100000
set_option maxHeartbeats 4000000
/-! M1: heaps that grow, loops and comprehensions by invariants, data that is shown. -/
namespace AS
open PySem PySem.Spec PyProof.Rows L2

/-! ### a heap grows -/
def Ext (H H' : Hp) : Prop := ∀ b o, H b = some o → H' b = some o
theorem Ext.refl {H : Hp} : Ext H H := fun _ _ e => e
theorem Ext.trans {H H1 H2 : Hp} (a : Ext H H1) (b : Ext H1 H2) : Ext H H2 := fun c o e => b c o (a c o e)
theorem Ext.new {H H1 : Hp} {p : Addr} {o : HO} (a : Ext H H1) (hp : H1 p = none) : Ext H (upd H1 p o) := fun c u e => by
  have q := a c u e
  rw [upd_ne (ne_of_none q hp)]
  exact q
/-- writing at a place that the old heap does not know -/
theorem Ext.put {H H1 : Hp} {p : Addr} {o : HO} (a : Ext H H1) (hp : H p = none) : Ext H (upd H1 p o) := fun c u e => by
  rw [upd_ne (ne_of_none e hp)]
  exact a c u e
theorem Ext.none {H H' : Hp} {p : Addr} (a : Ext H H') (h : H' p = none) : H p = none := by
  cases e : H p with
  | none => rfl
  | some o => rw [a p o e] at h; cases h
theorem Ext.rd {H H' : Hp} {a : Addr} {u : HO} (x : Ext H H') (h : Rd H a u) : Rd H' a u := h.imp (x a _) fun ⟨o, q⟩ => ⟨o, x a _ q⟩
theorem Ext.sqL {K : PySem.W.Frag} {H H' : Hp} {a : Addr} {xs : List V} (x : Ext H H') (h : SqL K H a xs) : SqL K H' a xs := h.imp x.rd fun q => q
theorem Ext.sqT {K : PySem.W.Frag} {H H' : Hp} {a : Addr} {xs : List V} (x : Ext H H') (h : SqT K H a xs) : SqT K H' a xs := h.imp x.rd fun q => q
mutual
theorem Dt.ext {K : PySem.W.Frag} {H H' : Hp} (x : Ext H H') : ∀ {v : V} {d : PyData}, Dt K H v d → Dt K H' v d
  | _, _, .non => .non
  | _, _, .bl b => .bl b
  | _, _, .int i => .int i
  | _, _, .str z => .str z
  | _, _, .lst h t => .lst (x.sqL h) (Dts.ext x t)
  | _, _, .tup h t => .tup (x.sqT h) (Dts.ext x t)
  | _, _, .dic h t u => .dic (x.rd h) (Dts.ext x t) (Dts.ext x u)
theorem Dts.ext {K : PySem.W.Frag} {H H' : Hp} (x : Ext H H') : ∀ {v : List V} {d : List PyData}, Dts K H v d → Dts K H' v d
  | _, _, .nil => .nil
  | _, _, .cons h t => .cons (Dt.ext x h) (Dts.ext x t)
end
/-- a heap without one place -/
def wo (r : Addr) (H : Hp) : Hp := fun b => if b = r then none else H b
theorem wo_ext {r : Addr} {H : Hp} : Ext (wo r H) H := fun b o e => by
  unfold wo at e
  split at e
  · cases e
  · exact e
theorem wo_at {r b : Addr} {H : Hp} (h : b ≠ r) : wo r H b = H b := if_neg h
theorem Mod1.wo {r : Addr} {H H' : Hp} (m : Mod1 r H H') : Ext (AS.wo r H) (AS.wo r H') := fun b o e => by
  have hb : b ≠ r := fun z => by rw [z] at e; unfold AS.wo at e; rw [if_pos rfl] at e; cases e
  rw [wo_at hb] at e ⊢
  exact m b o hb e
theorem Ext.wo {r : Addr} {H H' : Hp} (x : Ext H H') : Ext (AS.wo r H) (AS.wo r H') := Mod1.wo fun b o _ e => x b o e
theorem Ext.mod1 {r : Addr} {H H' : Hp} (x : Ext H H') : Mod1 r H H' := fun b o _ e => x b o e

/-! ### steps of readings -/
section
variable {te ta tb : TE} {t : TA} {g : TG} {s u : TS} {D : Ends} {σ : St} {H : Hp} {Q : VK} {v : V}
theorem asg_i (h : te σ H fun x H1 => g x σ H1 (u D)) : tSeq (tAsg te g) u D σ H := h
theorem seq_i (h : s { D with nx := u D } σ H) : tSeq s u D σ H := h
theorem name_i {i : Nat} {R : St → Hp → Prop} (h : R (σ.set i (some v)) H) : gName i v σ H R := h
theorem ret_i (h : te σ H D.rt) : tRet te D σ H := h
theorem cl_i {sp : Sp} {W : WX} (h : t σ H fun vs H1 => sp vs H1 Q fun c d H' => W c d σ H') : tCl sp W t σ H Q := h
theorem cons_i {R : List V → Hp → Prop} (h : te σ H fun x H1 => t σ H1 fun xs H2 => R (x :: xs) H2) : tCons te t σ H R := h
theorem nil_i {R : List V → Hp → Prop} (h : R [] H) : tNil σ H R := h
theorem op_i {r : R2} (h : ta σ H fun x H1 => tb σ H1 fun y H2 => r x y H2 Q) : tOp r ta tb σ H Q := h
theorem lst_i (h : t σ H fun xs H1 => xs.length ≤ sizeLine ∧ ∀ p, H1 p = none → Q (.ref p) (upd H1 p (.lst xs))) : tLst t σ H Q := h
theorem nm_i {i : Nat} (e : sl σ i = some v) (q : Q v H) : tNm i σ H Q := by
  unfold tNm
  rw [e]
  exact q
theorem c_i (q : Q v H) : tC v σ H Q := q
theorem ifS_i {c : TT} (h : c σ H fun b H1 => if b = true then s D σ H1 else u D σ H1) : tIfS c s u D σ H := h
theorem test_i {R : Bool → Hp → Prop} (h : te σ H fun x H' => ∃ k, x = .bl k ∧ R k H') : tTest te σ H R := h
theorem or_i {c d : TT} {R : Bool → Hp → Prop} (h : c σ H fun b H1 => if b = true then R true H1 else d σ H1 R) : tOr c d σ H R := h
theorem and_i {c d : TT} {R : Bool → Hp → Prop} (h : c σ H fun b H1 => if b = true then d σ H1 R else R false H1) : tAnd c d σ H R := h
theorem not_i {c : TT} {R : Bool → Hp → Prop} (h : c σ H fun b H1 => R (!b) H1) : tNot c σ H R := h
theorem tru_i {tr : Tr} {R : Bool → Hp → Prop} (h : te σ H fun x H1 => tr x H1 R) : tTru tr te σ H R := h
theorem andG_i {tr : Tr} (h : ta σ H fun x H1 => tr x H1 fun k H2 => if k = true then tb σ H2 Q else Q x H2) : tAndG tr ta tb σ H Q := h
theorem orG_i {tr : Tr} (h : ta σ H fun x H1 => tr x H1 fun k H2 => if k = true then Q x H2 else tb σ H2 Q) : tOrG tr ta tb σ H Q := h
theorem notG_i {tr : Tr} (h : ta σ H fun x H1 => tr x H1 fun k H2 => Q (.bl (!k)) H2) : tNotG tr ta σ H Q := h
theorem tru_bl {K : PySem.W.Frag} {b : Bool} {R : Bool → Hp → Prop} (h : R b H) : truG K (.bl b) H R := h
theorem un_i {r : V → Hp → VK → Prop} (h : ta σ H fun x H1 => r x H1 Q) : tUn r ta σ H Q := h
theorem par_i {i j : Nat} (h : t σ H fun vs H1 => ∃ v w, vs = [v, w] ∧ D.nx ((σ.set i (some v)).set j (some w)) H1) : tPar i j t D σ H := h
theorem par3_i {i j l : Nat} (h : t σ H fun vs H1 => ∃ u v w, vs = [u, v, w] ∧ D.nx (((σ.set i (some u)).set j (some v)).set l (some w)) H1) : tPar3 i j l t D σ H := h
theorem tup_i (h : t σ H fun xs H1 => xs.length ≤ sizeLine ∧ ∀ p, H1 p = none → Q (.ref p) (upd H1 p (.tup xs))) : tTup t σ H Q := h
theorem next_i (h : D.nx σ H) : tNext D σ H := h
theorem att_i {r : V → Hp → VK → XK → Prop} {W : WX} (h : te σ H fun x H1 => r x H1 Q fun c d H' => W c d σ H') : tAtt r W te σ H Q := h
end

/-! ### loops -/
section
variable {J : It} {g : TG} {tb : TS} {D : Ends} {σ : St} {H : Hp}
theorem for_by (n : Nat) (P : Nat → St → Hp → Prop) (h0 : P 0 σ H)
    (go : ∀ i σ H, i < n → P i σ H → J.go i H ∧ ∀ x H', J.yld i H x H' → g x σ H' fun σ2 H2 => tb { D with nx := P (i + 1), ct := P (i + 1), bk := D.nx } σ2 H2) (stop : ∀ σ H, P n σ H → J.stop n H ∧ D.nx σ H) :
    ∃ W : Nat → Nat → St → Hp → Prop, (∃ m, W 0 m σ H) ∧ ∀ i m σ H, W i m σ H →
      (J.stop i H ∧ D.nx σ H) ∨ (J.go i H ∧ ∃ N : St → Hp → Prop, (∀ σ' H', N σ' H' → ∃ m', m' < m ∧ W (i + 1) m' σ' H') ∧ ∀ x H', J.yld i H x H' → g x σ H' fun σ2 H2 => tb { D with nx := N, ct := N, bk := D.nx } σ2 H2) := by
  refine ⟨fun i m σ H => i ≤ n ∧ m = n - i ∧ P i σ H, ⟨n, Nat.zero_le _, rfl, h0⟩, fun i m σ H ⟨hi, hm, hp⟩ => ?_⟩
  by_cases e : i = n
  · subst e
    exact .inl (stop σ H hp)
  · have lt : i < n := by omega
    obtain ⟨h1, h2⟩ := go i σ H lt hp
    exact .inr ⟨h1, P (i + 1), fun σ' H' q => ⟨n - (i + 1), by omega, by omega, rfl, q⟩, h2⟩
end
section
variable {K : PySem.W.Frag} {g : TG} {tb : TS} {D : Ends} {σ : St} {H : Hp} {a : Addr} {xs : List V}
theorem sqL_det {xs ys : List V} (h : SqL K H a xs) (i : Nat) (x : V) (q : ∀ ys, SqL K H a ys → ys[i]? = some x) : xs[i]? = some x := q xs h
/-- for .. in l: the list stays as it is -/
theorem for_lst (P : Nat → St → Hp → Prop) (hS : ∀ i σ H, P i σ H → SqL K H a xs) (h0 : P 0 σ H)
    (go : ∀ i x σ H, xs[i]? = some x → P i σ H → g x σ H fun σ2 H2 => tb { D with nx := P (i + 1), ct := P (i + 1), bk := D.nx } σ2 H2) (stop : ∀ σ H, P xs.length σ H → D.nx σ H) :
    ∃ W : Nat → Nat → St → Hp → Prop, (∃ m, W 0 m σ H) ∧ ∀ i m σ H, W i m σ H →
      ((Itl K a).stop i H ∧ D.nx σ H) ∨ ((Itl K a).go i H ∧ ∃ N : St → Hp → Prop, (∀ σ' H', N σ' H' → ∃ m', m' < m ∧ W (i + 1) m' σ' H') ∧ ∀ x H', (Itl K a).yld i H x H' → g x σ H' fun σ2 H2 => tb { D with nx := N, ct := N, bk := D.nx } σ2 H2) := by
  refine for_by xs.length P h0 (fun i σ H hi hp => ⟨⟨xs, xs[i], hS i σ H hp, List.getElem?_eq_getElem hi⟩, fun x H' q => ?_⟩) fun σ H hp => ⟨⟨xs, hS _ σ H hp, Nat.le_refl _⟩, stop σ H hp⟩
  obtain ⟨rfl, q⟩ := q
  exact go i x σ H' (q xs (hS i σ H' hp)) hp
/-- for i, x in enumerate(l) -/
theorem for_enum (P : Nat → St → Hp → Prop) (hS : ∀ i σ H, P i σ H → SqL K H a xs) (h0 : P 0 σ H)
    (go : ∀ i x T σ H, xs[i]? = some x → H T = none → P i σ H → g (.ref T) σ (upd H T (.tup [.int (i : Nat), x])) fun σ2 H2 => tb { D with nx := P (i + 1), ct := P (i + 1), bk := D.nx } σ2 H2) (stop : ∀ σ H, P xs.length σ H → D.nx σ H) :
    ∃ W : Nat → Nat → St → Hp → Prop, (∃ m, W 0 m σ H) ∧ ∀ i m σ H, W i m σ H →
      ((Ite K a).stop i H ∧ D.nx σ H) ∨ ((Ite K a).go i H ∧ ∃ N : St → Hp → Prop, (∀ σ' H', N σ' H' → ∃ m', m' < m ∧ W (i + 1) m' σ' H') ∧ ∀ x H', (Ite K a).yld i H x H' → g x σ H' fun σ2 H2 => tb { D with nx := N, ct := N, bk := D.nx } σ2 H2) := by
  refine for_by xs.length P h0 (fun i σ H hi hp => ⟨⟨xs, xs[i], hS i σ H hp, List.getElem?_eq_getElem hi⟩, fun x H' q => ?_⟩) fun σ H hp => ⟨⟨xs, hS _ σ H hp, Nat.le_refl _⟩, stop σ H hp⟩
  obtain ⟨T, y, rfl, hT, rfl, q⟩ := q
  exact go i y T σ H (q xs (hS i σ H hp)) hT hp
/-- for i in range -/
theorem for_rng {lo : Int} {n : Nat} (P : Nat → St → Hp → Prop) (h0 : P 0 σ H)
    (go : ∀ i σ H, i < n → P i σ H → g (.int (lo + i)) σ H fun σ2 H2 => tb { D with nx := P (i + 1), ct := P (i + 1), bk := D.nx } σ2 H2) (stop : ∀ σ H, P n σ H → D.nx σ H) :
    ∃ W : Nat → Nat → St → Hp → Prop, (∃ m, W 0 m σ H) ∧ ∀ i m σ H, W i m σ H →
      ((Itr lo n).stop i H ∧ D.nx σ H) ∨ ((Itr lo n).go i H ∧ ∃ N : St → Hp → Prop, (∀ σ' H', N σ' H' → ∃ m', m' < m ∧ W (i + 1) m' σ' H') ∧ ∀ x H', (Itr lo n).yld i H x H' → g x σ H' fun σ2 H2 => tb { D with nx := N, ct := N, bk := D.nx } σ2 H2) := by
  refine for_by n P h0 (fun i σ H hi hp => ⟨hi, fun x H' q => ?_⟩) fun σ H hp => ⟨Nat.le_refl _, stop σ H hp⟩
  obtain ⟨rfl, rfl⟩ := q
  exact go i σ H' hi hp
end

/-! ### comprehensions -/
section
variable {J : It} {g : TG} {tt : TT} {te : TE} {vs : List Nat} {σ : St} {H1 : Hp} {Q : VK}
/-- what tLc asks behind its iterator -/
def LcGo (J : It) (g : TG) (tt : TT) (te : TE) (vs : List Nat) (σ : St) (H1 : Hp) (Q : VK) : Prop := ∀ D, H1 D = none → ∃ W : Nat → Nat → Hp → Prop, (∃ m, W 0 m (upd H1 D (.lst []))) ∧ ∀ i m H, W i m H →
  (J.stop i H ∧ Q (.ref D) H) ∨ (J.go i H ∧ ∃ Nx : Hp → Prop, (∀ H', Nx H' → ∃ m', m' < m ∧ W (i + 1) m' H') ∧ ∀ x H', J.yld i H x H' → g x (wipe σ vs) H' fun σ2 H2 => wipe σ2 vs = wipe σ vs ∧ tt σ2 H2 fun b H3 =>
    if b = true then te σ2 H3 fun y H4 => ∃ acc, H4 D = some (.lst acc) ∧ acc.length < sizeLine ∧ Nx (upd H4 D (.lst (acc ++ [y]))) else Nx H3)
theorem lc1_i {ta : TA} {H : Hp} (h : ta σ H fun us H1 => ∃ j : Int, us = [.int j] ∧ -(2 ^ 62) ≤ j ∧ j < 2 ^ 62 ∧ LcGo (Itr 0 j.toNat) g tt te vs σ H1 Q) : tLc (iRng1 ta) g tt te vs σ H Q := h
theorem lcL_i {K : PySem.W.Frag} {tl : TE} {H : Hp} (h : tl σ H fun x H1 => ∃ a, x = .ref a ∧ (∃ xs, SqL K H1 a xs) ∧ LcGo (Itl K a) g tt te vs σ H1 Q) : tLc (iAny K tl) g tt te vs σ H Q := .inl h
theorem lc_by (n : Nat) (P : Addr → Nat → List V → Hp → Prop) (h0 : ∀ D, H1 D = none → P D 0 [] (upd H1 D (.lst [])))
    (go : ∀ D i acc H, H1 D = none → i < n → H D = some (.lst acc) → P D i acc H → J.go i H ∧ ∀ x H', J.yld i H x H' → g x (wipe σ vs) H' fun σ2 H2 => wipe σ2 vs = wipe σ vs ∧ tt σ2 H2 fun b H3 =>
      if b = true then te σ2 H3 fun y H4 => ∃ acc', H4 D = some (.lst acc') ∧ acc'.length < sizeLine ∧ P D (i + 1) (acc' ++ [y]) (upd H4 D (.lst (acc' ++ [y]))) else ∃ acc', H3 D = some (.lst acc') ∧ P D (i + 1) acc' H3)
    (stop : ∀ D acc H, H1 D = none → H D = some (.lst acc) → P D n acc H → J.stop n H ∧ Q (.ref D) H) (mg : ∀ (x : V) (σ : St) (H : Hp) (A B : St → Hp → Prop), (∀ σ H, A σ H → B σ H) → g x σ H A → g x σ H B) (mt : ∀ (σ : St) (H : Hp) (A B : Bool → Hp → Prop), (∀ b H, A b H → B b H) → tt σ H A → tt σ H B)
    (me : ∀ (σ : St) (H : Hp) (A B : VK), (∀ v H, A v H → B v H) → te σ H A → te σ H B) : LcGo J g tt te vs σ H1 Q := by
  intro D hD
  refine ⟨fun i m H => i ≤ n ∧ m = n - i ∧ ∃ acc, H D = some (.lst acc) ∧ P D i acc H, ⟨n, Nat.zero_le _, rfl, [], upd_same, h0 D hD⟩, fun i m H ⟨hi, hm, acc, ha, hp⟩ => ?_⟩
  by_cases e : i = n
  · subst e
    exact .inl (stop D acc H hD ha hp)
  · have lt : i < n := by omega
    obtain ⟨h1, h2⟩ := go D i acc H hD lt ha hp
    refine .inr ⟨h1, fun H' => ∃ acc, H' D = some (.lst acc) ∧ P D (i + 1) acc H', fun H' q => ⟨n - (i + 1), by omega, by omega, rfl, q⟩, fun x H' q => ?_⟩
    refine mg _ _ _ _ _ (fun σ2 H2 z => ⟨z.1, mt _ _ _ _ (fun b H3 y => ?_) z.2⟩) (h2 x H' q)
    cases b with
    | true =>
      refine (if_pos rfl).symm ▸ ?_
      exact me _ _ _ _ (fun v H4 ⟨acc', e1, e2, e3⟩ => ⟨acc', e1, e2, _, upd_same, e3⟩) ((if_pos rfl).symm ▸ y : te σ2 H3 _)
    | false => exact y
end
theorem wipe_one {σ : St} {v : Nat} {x : V} : wipe ((wipe σ [v]).set v (some x)) [v] = wipe σ [v] := by
  show (((σ.set v none).set v (some x)).set v none) = σ.set v none
  rw [List.set_set, List.set_set]
section
variable {K : PySem.W.Frag} {te : TE} {v : Nat} {σ : St} {H1 : Hp} {Q : VK}
/-- [e for v in range]: the values are known ahead; the heap grows -/
theorem lc_rng {lo : Int} {n : Nat} (ys : List V) (hl : ys.length = n) (hz : n ≤ sizeLine) (el : ∀ (i : Nat) (y : V) (H : Hp) (R : VK), ys[i]? = some y → Ext H1 H → (∀ H', Ext H H' → R y H') → te ((wipe σ [v]).set v (some (.int (lo + i)))) H R)
    (q : ∀ (D : Addr) (H : Hp), Ext H1 H → H1 D = none → H D = some (.lst ys) → Q (.ref D) H) : LcGo (Itr lo n) (gName v) tYes te [v] σ H1 Q := by
  intro D hD
  refine ⟨fun i m H => i ≤ n ∧ m = n - i ∧ Ext H1 H ∧ H D = some (.lst (ys.take i)), ⟨n, Nat.zero_le _, rfl, Ext.refl.new hD, upd_same⟩, fun i m H ⟨hi, hm, hx, ha⟩ => ?_⟩
  by_cases e : i = n
  · subst e
    refine .inl ⟨Nat.le_refl _, q D H hx hD ?_⟩
    rw [ha, ← hl, List.take_length]
  · have lt : i < n := by omega
    refine .inr ⟨lt, fun H' => Ext H1 H' ∧ H' D = some (.lst (ys.take (i + 1))), fun H' q => ⟨n - (i + 1), by omega, by omega, rfl, q.1, q.2⟩, fun x H' q => ?_⟩
    obtain ⟨rfl, rfl⟩ := q
    refine ⟨wipe_one, ?_⟩
    refine el i ys[i] H' _ (List.getElem?_eq_getElem (by omega)) hx fun H4 x4 => ⟨ys.take i, x4 _ _ ha, by rw [List.length_take]; omega, (hx.trans x4).put hD, ?_⟩
    rw [upd_same, List.take_succ, List.getElem?_eq_getElem (by omega : i < ys.length)]
    rfl
/-- [e for v in l] -/
theorem lc_lst {a : Addr} {xs : List V} (ys : List V) (hl : ys.length = xs.length) (hz : xs.length ≤ sizeLine) (hS : SqL K H1 a xs) (el : ∀ (i : Nat) (x y : V) (H : Hp) (R : VK), xs[i]? = some x → ys[i]? = some y → Ext H1 H → (∀ H', Ext H H' → R y H') → te ((wipe σ [v]).set v (some x)) H R)
    (q : ∀ (D : Addr) (H : Hp), Ext H1 H → H1 D = none → H D = some (.lst ys) → Q (.ref D) H) : LcGo (Itl K a) (gName v) tYes te [v] σ H1 Q := by
  intro D hD
  refine ⟨fun i m H => i ≤ xs.length ∧ m = xs.length - i ∧ Ext H1 H ∧ H D = some (.lst (ys.take i)), ⟨xs.length, Nat.zero_le _, rfl, Ext.refl.new hD, upd_same⟩, fun i m H ⟨hi, hm, hx, ha⟩ => ?_⟩
  by_cases e : i = xs.length
  · subst e
    refine .inl ⟨⟨xs, hx.sqL hS, Nat.le_refl _⟩, q D H hx hD ?_⟩
    rw [ha, ← hl, List.take_length]
  · have lt : i < xs.length := by omega
    refine .inr ⟨⟨xs, xs[i], hx.sqL hS, List.getElem?_eq_getElem lt⟩, fun H' => Ext H1 H' ∧ H' D = some (.lst (ys.take (i + 1))), fun H' q => ⟨xs.length - (i + 1), by omega, by omega, rfl, q.1, q.2⟩, fun x H' q => ?_⟩
    obtain ⟨rfl, q⟩ := q
    refine ⟨wipe_one, ?_⟩
    refine el i x ys[i] H' _ (q xs (hx.sqL hS)) (List.getElem?_eq_getElem (by omega)) hx fun H4 x4 => ⟨ys.take i, x4 _ _ ha, by rw [List.length_take]; omega, (hx.trans x4).put hD, ?_⟩
    rw [upd_same, List.take_succ, List.getElem?_eq_getElem (by omega : i < ys.length)]
    rfl
end

/-! ### data that can be shown -/
def Shw (d : PyData) (n B : Nat) : Prop := d.showable = true ∧ d.depth ≤ n ∧ d.shown.length ≤ B
theorem showAll_of : ∀ {ds : List PyData}, (∀ d ∈ ds, d.showable = true) → PyData.showableAll ds = true
  | [], _ => rfl
  | d :: ds, h => by
    show (d.showable && PyData.showableAll ds) = true
    rw [h d List.mem_cons_self, showAll_of fun e he => h e (List.mem_cons_of_mem _ he)]
    rfl
theorem depthAll_of {n : Nat} : ∀ {ds : List PyData}, (∀ d ∈ ds, d.depth ≤ n) → PyData.depthAll ds ≤ n
  | [], _ => Nat.zero_le _
  | d :: ds, h => Nat.max_le.mpr ⟨h d List.mem_cons_self, depthAll_of fun e he => h e (List.mem_cons_of_mem _ he)⟩
theorem sum_le {B : Nat} : ∀ {ns : List Nat}, (∀ n ∈ ns, n ≤ B) → ns.sum ≤ B * ns.length
  | [], _ => Nat.zero_le _
  | n :: ns, h => by
    have h1 := h n List.mem_cons_self
    have h2 := sum_le fun e he => h e (List.mem_cons_of_mem _ he)
    rw [List.sum_cons, List.length_cons, Nat.mul_succ]
    omega
theorem Shw.list {ds : List PyData} {n B : Nat} (h : ∀ d ∈ ds, Shw d n B) : Shw (.list ds) (n + 1) ((B + 2) * ds.length + 3) := by
  refine ⟨showAll_of fun d hd => (h d hd).1, Nat.succ_le_succ (depthAll_of fun d hd => (h d hd).2.1), ?_⟩
  have e : (PyData.list ds).shown = listText (PyData.shownAll ds) := by simp only [PyData.shown]
  rw [e, shownAll_eq_map]
  refine Nat.le_trans (listText_len_le _) ?_
  have s := sum_le (B := B) (ns := (ds.map PyData.shown).map (·.length)) fun n hn => by
    obtain ⟨t, ht, rfl⟩ := List.mem_map.mp hn
    obtain ⟨d, hd, rfl⟩ := List.mem_map.mp ht
    exact (h d hd).2.2
  simp only [List.length_map] at s ⊢
  have e2 : (B + 2) * ds.length = B * ds.length + 2 * ds.length := Nat.add_mul _ _ _
  omega
theorem Shw.mono {d : PyData} {n m B C : Nat} (h : Shw d n B) (h1 : n ≤ m) (h2 : B ≤ C) : Shw d m C := ⟨h.1, Nat.le_trans h.2.1 h1, Nat.le_trans h.2.2 h2⟩
theorem repr_ok {K : PySem.W.Frag} {H : Hp} {Q : VK} {v : V} {d : PyData} {n B : Nat} (h : Dt K H v d) (s : Shw d n B) (hn : n ≤ 100) (hB : B ≤ sizeLine) (q : Q (.str d.shown) H) : rRepr K [v] H Q := ⟨v, d, rfl, h, s.1, Nat.le_trans s.2.1 hn, Nat.le_trans s.2.2 hB, q⟩
end AS

set_option Elab.async false
set_option linter.all false
set_option maxRecDepth 100000
set_option maxHeartbeats 4000000
/-! X5: own exceptions made, by their fields. -/
namespace AS
open PySem PySem.Spec PyProof.Rows L2

/-- a reading of arguments, closed under weaker wishes -/
def tUp (t : TA) : TA := fun σ H R => ∃ R' : List V → Hp → Prop, t σ H R' ∧ ∀ vs H, R' vs H → R vs H
theorem pa_up {X : Cx} {es : List Expr} {t : TA} (h : PA X es t) : PA X es (tUp t) := ⟨fun pos pins s σ H R I ⟨R', q, i⟩ => wpAny_mono (h.run pos pins s σ H R' I q) (fun us s' ⟨vs, H', J, r, z⟩ => ⟨vs, H', J, r, i vs H' z⟩) fun _ _ x => x⟩
theorem pk_up {X : Cx} {es : List Keyword} {t : TA} (h : PK X es t) : PK X es (tUp t) := ⟨fun pos pins s σ H R I ⟨R', q, i⟩ => wpAny_mono (h.run pos pins s σ H R' I q) (fun us s' ⟨vs, H', J, r, z⟩ => ⟨vs, H', J, r, i vs H' z⟩) fun _ _ x => x⟩
theorem CallE.imp {S : Sys} {k : Nat} {n : Str} {sp sp' : Sp} (h : CallE S k n sp) (i : ∀ vs H Q E, sp' vs H Q E → sp vs H Q E) : CallE S k n sp' := fun N X x L hc es t p pos hg hb hpl ha =>
  pe_imp (h N X x L hc es (tUp t) p pos hg hb hpl (pa_up ha)) fun σ H Q q => ⟨_, q, fun vs H1 z => i vs H1 Q _ z⟩
theorem CallKE.imp {S : Sys} {k : Nat} {n : Str} {ks : List Str} {sp sp' : SpK} (h : CallKE S k n ks sp) (i : ∀ vs zs H Q E, sp' vs zs H Q E → sp vs zs H Q E) : CallKE S k n ks sp' := fun N X x L hc es kws t tk p pos hg hb hpl hks ha hk =>
  pe_imp (h N X x L hc es kws (tUp t) (tUp tk) p pos hg hb hpl hks (pa_up ha) (pk_up hk)) fun σ H Q q => ⟨_, q, fun vs H1 z => ⟨_, z, fun zs H2 z => i vs zs H2 Q _ z⟩⟩
/-- an exception at a: its class, its fields -/
def IsX (H : Hp) (a C : Addr) (l : List (Str × V)) : Prop := (l = [] ∧ H a = some (exo a C none)) ∨ ∃ (d : Addr) (gs : List (Str × V)), H a = some (exo a C (some d)) ∧ H d = some (exd d gs) ∧ ∀ p ∈ l, gs.lookup p.1 = some p.2
theorem IsX.ext {H H' : Hp} {a C : Addr} {l : List (Str × V)} (x : Ext H H') (h : IsX H a C l) : IsX H' a C l := by
  rcases h with ⟨e, h⟩ | ⟨d, gs, h1, h2, h3⟩
  · exact .inl ⟨e, x _ _ h⟩
  · exact .inr ⟨d, gs, x _ _ h1, x _ _ h2, h3⟩
/-- self.f = v, one behind the other -/
def putsX (K : PySem.W.Frag) (x : V) : List (Str × V) → Hp → (Hp → Prop) → Prop
  | [], H, Q => Q H
  | (f, v) :: r, H, Q => rSatX K f x v H fun H' => putsX K x r H' Q
def sp_init (K : PySem.W.Frag) (fs : List Str) : Sp := fun vs H Q _ => ∃ x us, vs = x :: us ∧ us.length = fs.length ∧ putsX K x (fs.zip us) H fun H' => Q .non H'
/-- C(..) gives a new exception with these fields -/
def sp_mk (C : Addr) (fs : List Str) : Sp := fun vs H Q _ => vs.length = fs.length ∧ ∀ (a : Addr) (H' : Hp), H a = none → Ext H H' → IsX H' a C (fs.zip vs) → Q (.ref a) H'
section
variable {K : PySem.W.Frag} {C a : Addr} {b : Bk} {H : Hp}
theorem puts_more (T : ExcC K C b) {d : Addr} (hd : H d = none) {Q : Hp → Prop} : ∀ (l : List (Str × V)) (H1 : Hp) (gs : List (Str × V)), Ext H H1 → H1 a = some (exo a C (some d)) → a ≠ d → H1 d = some (exd d gs) → gs.length + l.length ≤ 900 → (∀ p ∈ l, PySem.W.findIn K (.ref C) p.1 = some none) → (l.map (·.1)).Nodup →
    (∀ (H' : Hp) (gs' : List (Str × V)), Ext H H' → H' a = some (exo a C (some d)) → H' d = some (exd d gs') → (∀ p ∈ l, gs'.lookup p.1 = some p.2) → (∀ q v, q ∉ l.map (·.1) → gs.lookup q = some v → gs'.lookup q = some v) → Q H') → putsX K (.ref a) l H1 Q
  | [], H1, gs, x, h1, ne, h2, hz, hn, nd, k => k H1 gs x h1 h2 (fun p hp => nomatch hp) fun q v _ e => e
  | (f, v) :: r, H1, gs, x, h1, ne, h2, hz, hn, nd, k => by
    obtain ⟨n1, n2⟩ := List.nodup_cons.mp nd
    refine ⟨a, C, b, rfl, T, hn _ List.mem_cons_self, .inr ⟨d, gs, h1, h2, by simp only [List.length_cons] at hz; omega, ?_⟩⟩
    refine puts_more T hd r _ ((f, v) :: gs) (x.put hd) (by rw [upd_ne ne]; exact h1) ne upd_same (by simp only [List.length_cons] at hz ⊢; omega) (fun p hp => hn p (List.mem_cons_of_mem _ hp)) n2 fun H' gs' x' e1 e2 e3 e4 => ?_
    refine k H' gs' x' e1 e2 (fun p hp => ?_) fun q w hq e => ?_
    · rcases List.mem_cons.mp hp with rfl | hp
      · exact e4 f v n1 (by rw [List.lookup_cons, beq_self_eq_true])
      · exact e3 p hp
    · have hq' : q ≠ f ∧ q ∉ r.map (·.1) := by
        have z : q ∉ f :: r.map (·.1) := hq
        exact ⟨fun y => z (by rw [y]; exact List.mem_cons_self), fun y => z (List.mem_cons_of_mem _ y)⟩
      exact e4 q w hq'.2 (by rw [List.lookup_cons, beq_eq_false_iff_ne.mpr hq'.1]; exact e)
theorem puts_all (T : ExcC K C b) (ha : H a = none) {Q : Hp → Prop} {l : List (Str × V)} (hz : l.length ≤ 900) (hn : ∀ p ∈ l, PySem.W.findIn K (.ref C) p.1 = some none) (nd : (l.map (·.1)).Nodup) (k : ∀ H' : Hp, Ext H H' → IsX H' a C l → Q H') : putsX K (.ref a) l (upd H a (exo a C none)) Q := by
  cases l with
  | nil => exact k _ (Ext.refl.new ha) (.inl ⟨rfl, upd_same⟩)
  | cons p r =>
    obtain ⟨f, v⟩ := p
    obtain ⟨n1, n2⟩ := List.nodup_cons.mp nd
    refine ⟨a, C, b, rfl, T, hn _ List.mem_cons_self, .inl ⟨upd_same, fun d hd nda => ?_⟩⟩
    rw [upd_ne nda] at hd
    refine puts_more T hd r _ [(f, v)] (((Ext.refl.new ha).put hd).put ha) upd_same (fun z => nda z.symm) (by rw [upd_ne nda]; exact upd_same) (by simp only [List.length_cons, List.length_nil] at hz ⊢; omega) (fun p hp => hn p (List.mem_cons_of_mem _ hp)) n2 fun H' gs' x' e1 e2 e3 e4 => ?_
    refine k H' x' (.inr ⟨d, gs', e1, e2, fun p hp => ?_⟩)
    rcases List.mem_cons.mp hp with rfl | hp
    · exact e4 f v n1 (by rw [List.lookup_cons, beq_self_eq_true])
    · exact e3 p hp
/-- the promise of the call, by that of __init__ -/
theorem mk_of {fs : List Str} (T : ExcC K C b) (hz : fs.length ≤ 900) (hn : ∀ f ∈ fs, PySem.W.findIn K (.ref C) f = some none) (nd : fs.Nodup) {vs : List V} {H : Hp} {Q : VK} {E : XK} (h : sp_mk C fs vs H Q E) : mkX C (sp_init K fs) vs H Q E := by
  obtain ⟨hl, h⟩ := h
  refine ⟨by omega, fun a ha => ⟨.ref a, vs, rfl, hl, ?_⟩⟩
  have em : (fs.zip vs).map (·.1) = fs := List.map_fst_zip (by omega)
  refine puts_all T ha (by rw [List.length_zip]; omega) (fun p hp => hn _ (List.of_mem_zip hp).1) (by rw [em]; exact nd) fun H' x' i => ⟨rfl, h a H' ha x' i⟩
end

/-! ### the class as the text has it -/
structure XC where
  nm : Str
  b : Bk
  fs : List Str
  deriving DecidableEq
def XC.C (x : XC) (K : PySem.W.Frag) : Addr := He.ga K x.nm
def XC.I (x : XC) (K : PySem.W.Frag) : Addr := He.ma K (x.C K) "__init__"
def XC.ok (K : PySem.W.Frag) (x : XC) : Bool := excB K (x.C K) x.b && (He.eqO (PySem.W.nsIn K mainGlobals x.nm) (some (some (.ref (x.C K)))) && (He.eqO (PySem.W.findIn K (.ref (x.C K)) "__init__") (some (some (.ref (x.I K)))) && (decide (PySem.W.typeIn K (.ref (x.I K)) = some (.type "function")) &&
  x.fs.all fun f => He.eqO (PySem.W.findIn K (.ref (x.C K)) f) (some none))))
/-- a class without an __init__ of its own -/
def XC.ok0 (K : PySem.W.Frag) (x : XC) : Bool := excB K (x.C K) x.b && (He.eqO (PySem.W.nsIn K mainGlobals x.nm) (some (some (.ref (x.C K)))) && PySem.W.excIn K (x.C K) x.b.mro x.b.newId)
structure XOk (K : PySem.W.Frag) (x : XC) : Prop where
  T : ExcC K (x.C K) x.b
  ns : PySem.W.nsIn K mainGlobals x.nm = some (some (.ref (x.C K)))
  hi : PySem.W.findIn K (.ref (x.C K)) "__init__" = some (some (.ref (x.I K)))
  ht : PySem.W.typeIn K (.ref (x.I K)) = some (.type "function")
  no : ∀ f ∈ x.fs, PySem.W.findIn K (.ref (x.C K)) f = some none
theorem XC.ok_of {K : PySem.W.Frag} {x : XC} (h : x.ok K = true) : XOk K x := by
  obtain ⟨h1, h⟩ := b2 h
  obtain ⟨h2, h⟩ := b2 h
  obtain ⟨h3, h⟩ := b2 h
  obtain ⟨h4, h⟩ := b2 h
  exact ⟨excB_ok h1, He.eqO_ok h2, He.eqO_ok h3, of_decide_eq_true h4, fun f hf => He.eqO_ok (List.all_eq_true.mp h f hf)⟩

section
variable {S : Sys} {k : Nat}
/-- C(e, ..) -/
theorem ent_xc {x : XC} {fd : FuncData} {j : Nat} (X : XOk S.K x) (F : FnB S j (x.I S.K) fd ("self" :: x.fs) (sp_init S.K x.fs)) (hj : j + 1 ≤ k) (hm : S.mg x.nm = some (.ref (x.C S.K))) (nd : x.fs.Nodup) (hz : x.fs.length ≤ 900)
    (hb : ∀ (s : Shared) (us : List Value), us.length = ("self" :: x.fs : List Str).length → BindsTo s fd ⟨us, []⟩ (("self" :: x.fs : List Str).zip us)) : CallE S k x.nm (sp_mk (x.C S.K) x.fs) :=
  (ent_mkX (ps := "self" :: x.fs) X.T F hj hm X.hi X.ht (fun s e us hl => hb s (e :: us) (by simpa using hl)) fun vs H Q E ⟨y, us, e, hl, _⟩ => by rw [e]; simp [hl]).imp fun vs H Q E h => mk_of X.T hz X.no nd h
def sp_mkK (C : Addr) (fs : List Str) (arr : List V → List V) : SpK := fun vs zs H Q E => vs = [] ∧ zs.length = fs.length ∧ sp_mk C fs (arr zs) H Q E
/-- C(f = e, ..) -/
theorem ent_xcK {x : XC} {fd : FuncData} {j : Nat} {ks : List Str} (arr : {α : Type} → List α → List α) (X : XOk S.K x) (F : FnB S j (x.I S.K) fd ("self" :: x.fs) (sp_init S.K x.fs)) (hj : j + 1 ≤ k) (hm : S.mg x.nm = some (.ref (x.C S.K))) (nd : x.fs.Nodup) (hz : x.fs.length ≤ 900) (hk : ks.length = x.fs.length)
    (hb : ∀ (s : Shared) (e : Value) (ws : List Value), ws.length = ks.length → BindsTo s fd ⟨[e], ks.zip ws⟩ (("self" :: x.fs : List Str).zip (e :: arr ws))) (hv : ∀ (zs : List V) (ws : List Value), Vals zs ws → zs.length = ks.length → Vals (arr zs) (arr ws)) : CallKE S k x.nm ks (sp_mkK (x.C S.K) x.fs arr) :=
  (ent_mkXK (ps := "self" :: x.fs) arr X.T F hj hm X.hi X.ht hb hv).imp fun vs zs H Q E h => ⟨h.1, by rw [hk]; exact h.2.1, mk_of X.T hz X.no nd h.2.2⟩
/-- C(), no __init__ of its own -/
theorem ent_xc0 {x : XC} (T : ExcC S.K (x.C S.K) x.b) (q : PySem.W.excIn S.K (x.C S.K) x.b.mro x.b.newId = true) (hm : S.mg x.nm = some (.ref (x.C S.K))) : CallE S k x.nm (sp_mk (x.C S.K) []) := by
  intro N X y L hc es t p pos hg hbn hpl ha
  have hm' : X.mg x.nm = some (.ref (x.C S.K)) := by rw [L.hm]; exact hm
  have hk' : PySem.W.keepIn X.K (.ref (x.C S.K)) = true := by rw [L.hK]; exact T.kp
  have q' : PySem.W.excIn X.K (x.C S.K) x.b.mro x.b.newId = true := by rw [L.hK]; exact q
  have go : ∀ {pins : List (Addr × Obj)} {σ : St} {H : Hp} {s : Shared} {Q : VK} {E : XK} {us : List Value} {vs : List V}, Inv X pins σ H s → Vals vs us → sp_mk (x.C S.K) [] vs H Q E → wpAny (model X.prog X.w) X.A (call (.ref (x.C S.K)) us) (EP X pins σ Q) X.xe s := by
    intro pins σ H s Q E us vs I r h
    obtain ⟨hl, h⟩ := h
    have ev : vs = [] := List.eq_nil_of_length_eq_zero hl
    subst ev
    cases r
    obtain ⟨hp, g, d, t, os⟩ := s
    obtain ⟨bm, N, nm, qn, bs, hdct, sn, sub, ab, col, dd, k0, k1, k2, k3, k5, mN, hC, hN, hni, T⟩ := exc_obj I.kIn q'
    refine wpAny_call_exc_subT x.b.fb T hC hN hni (fun h' a hm => ?_) (by show 0 ≤ sizeLine; omega)
    have hn : H a = none := I.hok.gone hm.new
    obtain ⟨t1, ht, _, _⟩ := hm.there
    exact ⟨.ref a, upd H a (exo a (x.C S.K) none), I.laidN hm.keeps hm.new hn (exo_ok ht), rfl, h a _ hn (Ext.refl.new hn) (.inl ⟨rfl, upd_same⟩)⟩
  refine ⟨fun pins s σ H Q I h => ?_⟩
  refine wpAny_Call_Name_kw (ld_glob I hg hm' ?_ (badName_no hbn).1)
  cases es with
  | nil =>
    refine PySem.W.callWith_K0 I.kIn hk' ?_
    have h1 : wpAny (model X.prog X.w) X.A (spliced (backTo pos (starEach [] X.env)) >>= fun us => call (.ref (x.C S.K)) us) (EP X pins σ Q) X.xe s :=
      wpAny_bind (thn (ha.run pos pins s σ H _ I h) fun us s1 ⟨vs, H1, I1, r, q⟩ => go I1 r q)
    exact h1
  | cons e es =>
    obtain ⟨h1, h2⟩ := b2 (show (plainA e && es.all plainA) = true from hpl)
    exact PySem.W.callWith_K (h₀ := X.base) I.ok.mod.kin hk' (thn (ha.run pos pins s σ H _ I h) fun us s1 ⟨vs, H1, I1, r, q⟩ => ⟨I1.kIn, go I1 r q⟩) (star_one h1) (star_all h2)
end
end AS

set_option Elab.async false
set_option linter.all false
set_option maxRecDepth 100000
set_option maxHeartbeats 4000000
/-! H1: a law's head and end over the engine: one Bool check of the written part, the defs' function objects, sys.modules among it. -/
namespace AS
open PySem PySem.Spec PyProof.Rows L2

/-! ### the hook -/
/-- what an object names, as far as a proof looks: a def's code, defaults and cells, a class's own names, a dict's values, an instance's fields -/
def kidsA (o : Obj) : List Addr := match o.data with
  | .func fd => He.refV fd.code ++ (He.refV fd.defaults ++ (He.refV fd.kwdefaults ++ fd.closure.map (·.2)))
  | .cls cd => [cd.ns]
  | .dict es _ => es.toList.flatMap fun e => He.refV e.val
  | .seq its _ => its.toList.flatMap He.refV
  | .cell (some v) => He.refV v
  | .fields vs => (match o.cls with
    | .none => []
    | .type "code" => []
    | _ => vs.toList.flatMap He.refV)
  | _ => []
def kinA (o : Obj) : List Addr := match o.dict with
  | some d => d :: kidsA o
  | none => kidsA o
def stepA (g : Addr → Option Obj) (as : List Addr) : List Addr := as.flatMap fun a => match g a with
  | some o => kinA o
  | none => []
def levA (g : Addr → Option Obj) : Nat → List Addr → List Addr
  | 0, _ => []
  | n + 1, as => stepA g as ++ levA g n (stepA g as)
def partA (n : Nat) (g : Addr → Option Obj) : PySem.W.Frag := He.frG g (sysModules :: mainGlobals :: levA g n [mainGlobals])
/-! the same, step by step, each number a number -/
def frAs {α : Type} : List Nat → (List Nat → α) → α
  | [], k => k []
  | a :: r, k => HandSHeadRun.frNat a fun a => frAs r fun r => k (a :: r)
theorem frAs_eq {α : Type} : ∀ (l : List Nat) (k : List Nat → α), frAs l k = k l
  | [], _ => rfl
  | a :: r, k => by
    show HandSHeadRun.frNat a (fun a => frAs r fun r => k (a :: r)) = k (a :: r)
    rw [HandSHeadRun.frNat_eq, frAs_eq r]
def frLev {α : Type} (g : Addr → Option Obj) : Nat → List Addr → (List Addr → α) → α
  | 0, _, k => k []
  | n + 1, as, k => frAs (stepA g as) fun s => frLev g n s fun r => k (s ++ r)
theorem frLev_eq {α : Type} (g : Addr → Option Obj) : ∀ (n : Nat) (as : List Addr) (k : List Addr → α), frLev g n as k = k (levA g n as)
  | 0, _, _ => rfl
  | n + 1, as, k => by
    show frAs (stepA g as) (fun s => frLev g n s fun r => k (s ++ r)) = k (stepA g as ++ levA g n (stepA g as))
    rw [frAs_eq, frLev_eq g n]
def frO {α : Type} (g : Addr → Option Obj) : List Addr → (PySem.W.Frag → α) → α
  | [], k => k []
  | a :: r, k => (match g a with
    | some ⟨c, d, dt, sl⟩ => frO g r fun K => k ((a, ⟨c, d, dt, sl⟩) :: K)
    | none => frO g r k)
theorem frO_eq {α : Type} (g : Addr → Option Obj) : ∀ (as : List Addr) (k : PySem.W.Frag → α), frO g as k = k (He.frG g as)
  | [], _ => rfl
  | a :: r, k => by
    unfold frO He.frG
    cases e : g a with
    | none =>
      rw [List.filterMap_cons, e]
      exact frO_eq g r k
    | some o =>
      obtain ⟨c, d, dt, sl⟩ := o
      rw [List.filterMap_cons, e]
      exact frO_eq g r fun K => k ((a, ⟨c, d, dt, sl⟩) :: K)
abbrev AlA : Type := Bool × List He.FnW
def seenA (chk : PySem.W.Frag → Bool) (fn : List He.DefD) (K : PySem.W.Frag) : AlA := (chk K && fn.all fun d => d.ok K, fn.map fun d => He.fnW K d.at_)
def SaysA (chk : PySem.W.Frag → Bool) (fn : List He.DefD) (K : PySem.W.Frag) : Prop := seenA chk fn K = (true, fn.map He.DefD.val)
def hookA (n : Nat) (chk : PySem.W.Frag → Bool) (fn : List He.DefD) : PySem.W.Hook where
  α := AlA
  obs := fun s => seenA chk fn (partA n s.heap.get?)
  val := fun _ => (true, fn.map He.DefD.val)
  says := fun _ h => ∃ K : PySem.W.Frag, K.In h ∧ SaysA chk fn K
  of := fun _ _ e => ⟨_, He.frG_in, e⟩
  keeps := fun _ _ _ ⟨K, hK, c⟩ k => ⟨K, PySem.W.Frag.In.keeps hK k, c⟩
def obA (n : Nat) (chk : PySem.W.Frag → Bool) (fn : List He.DefD) (s : PySem.W.SharedT) : AlA := frLev (HandSHeadRun.getT s) n [mainGlobals] fun as => frAs as fun as => frO (HandSHeadRun.getT s) (sysModules :: mainGlobals :: as) fun K => seenA chk fn K
theorem obA_eq (n : Nat) (chk : PySem.W.Frag → Bool) (fn : List He.DefD) (s : PySem.W.SharedT) : obA n chk fn s = (hookA n chk fn).obs s.abs := by
  have e : HandSHeadRun.getT s = s.abs.heap.get? := funext (HandSHeadRun.getT_eq s)
  unfold obA
  rw [e, frLev_eq, frAs_eq, frO_eq]
  rfl
section
variable {chk : PySem.W.Frag → Bool} {fn : List He.DefD} {K : PySem.W.Frag}
theorem SaysA.holds (c : SaysA chk fn K) : chk K = true := (b2 (congrArg (fun z : AlA => z.1) c)).1
theorem SaysA.def_ (c : SaysA chk fn K) (i : Nat) {d : He.DefD} (h : fn[i]? = some d) : ∃ fd, FunD K d.name d.qual d.params d.body d.scope (d.dvs K) (d.kws K) (He.fAd K d.at_) fd := by
  have c2 := (b2 (congrArg (fun z : AlA => z.1) c)).2
  have e : fn.map (fun d => He.fnW K d.at_) = fn.map He.DefD.val := congrArg (fun z : AlA => z.2) c
  have e2 := congrArg (fun l => l[i]?) e
  simp only [List.getElem?_map, h] at e2
  exact He.DefD.funD (Option.some.inj e2) (List.all_eq_true.mp c2 d (List.mem_of_getElem? h))
end

/-! ### the end -/
section
variable {P : Program} {w : World} {K : PySem.W.Frag} {mg mb : Str → Option Value} {k : Nat} {fa a : Addr} {sp : Sp} {s₁ : Shared} {vs : List Value} {ns : List Int}
/-- the law's call over a tracked heap that holds at most the script -/
theorem end_core (KX : K.In s₁.heap) (hns : s₁.heap.Ns mainGlobals mg) (hb : s₁.heap.Ns builtinsNs mb) (hbb : ∀ x : Str, x ≠ "__name__" → mb x = bootBuiltins x) (hlim : s₁.heap.NoLimit) (hg : s₁.gens = #[])
    (ha : s₁.heap.get? a = some { cls := .type "list", data := .seq vs.toArray }) (hr : RoomG k callerA) (F : ∀ base : Heap, FnG ⟨P, w, K, mg, base⟩ k fa sp) {H : Hp} (hO : Only H) (hok : HOk P w H s₁.heap) (hA : ∀ b, b ≠ a → H b = none) (hK : H a = none ∨ K.lookup a = none)
    (hsp : sp [.ref a] H (fun v _ => v = .bl true) fun _ _ _ => False) :
    codeAny (model P w) callerA (.call (.ref fa) ⟨[.ref a], []⟩) (fun r s' => r = .ok (.ret (.bool true)) ∧ OldK s₁.heap s'.heap ∧ s'.os = s₁.os ∧ AllBare s'.gens) s₁ := by
  have far : ∀ {b : Addr} {o : Obj}, s₁.heap.get? b = some o → (∀ its n, o.data ≠ .seq its n) → H b = none := fun {b o} e d => by
    refine hA b fun z => ?_
    rw [z, ha] at e
    exact d vs.toArray _ (congrArg Obj.data (Option.some.inj e)).symm
  have ns : ∀ {b : Addr} {m : Str → Option Value}, s₁.heap.Ns b m → (hidT s₁.heap H).Ns b m := fun {b m} q => by
    obtain ⟨o, es, ep, e, d, r⟩ := q
    exact ⟨o, es, ep, hidT_get e (far e fun its n z => by rw [d] at z; cases z), d, r⟩
  have kin : K.In (hidT s₁.heap H) := fun b o e => hidT_get (KX b o e) (by
    by_cases z : b = a
    · rw [z] at e ⊢
      exact hK.elim (fun q => q) fun q => by rw [q] at e; cases e
    · exact hA b z)
  obtain ⟨mc, l1, l2⟩ := hlim
  have e0 : Env0 P w K mg (hidT s₁.heap H) callerA [] s₁ H := ⟨rfl, ⟨kin, ns hns, ⟨mb, ns hb, hbb⟩, ⟨mc, ns l1, l2⟩⟩, fun b o e => of_hidT e, Nat.le_of_eq (hidT_size _ _), trivial, fun b hb => absurd (show b ∈ ([] : List Addr) from hb) (by simp), hok, .of_eq hg⟩
  refine codeAny_mono (F _ callerA [] s₁ H [.ref a] [.ref a] _ _ hr e0 (.cons rfl .nil) hsp) fun r s' h => ?_
  cases r with
  | error e =>
    have z : L2.CX P w [] H s₁ (fun _ _ _ => False) e s' := h
    obtain ⟨_, _, _, _, _, _, _, _, _, _, _, _, z⟩ := z
    exact False.elim z
  | ok fl =>
    cases fl with
    | ret u =>
      obtain ⟨v, H', os, bare, un, hok', r', q⟩ := h
      have q : v = .bl true := q
      subst q
      obtain rfl : u = Value.bool true := r'
      refine ⟨rfl, OldK.of_keep fun b o e => ?_, os, bare⟩
      rcases hO b with z | ⟨ob, xs, z⟩
      · exact un.keep b o e z (fun q => absurd (show b ∈ ([] : List Addr) from q) (by simp)) (by simp)
      · rw [(hok b _ z).1] at e
        rw [← e]
        exact (hok' b _ (un.frzs b ob _ z)).1
    | _ => exact False.elim h
theorem end_call (KX : K.In s₁.heap) (hns : s₁.heap.Ns mainGlobals mg) (hb : s₁.heap.Ns builtinsNs mb) (hbb : ∀ x : Str, x ≠ "__name__" → mb x = bootBuiltins x) (hlim : s₁.heap.NoLimit) (hg : s₁.gens = #[])
    (ha : s₁.heap.get? a = some { cls := .type "list", data := .seq vs.toArray }) (hi : IntsAre vs ns) (hl : ns.length ≤ sizeLine) (hr : RoomG k callerA) (F : ∀ base : Heap, FnG ⟨P, w, K, mg, base⟩ k fa sp)
    (hsp : ∀ H : Hp, SqL K H a (ns.map V.int) → sp [.ref a] H (fun v _ => v = .bl true) fun _ _ _ => False) :
    codeAny (model P w) callerA (.call (.ref fa) ⟨[.ref a], []⟩) (fun r s' => r = .ok (.ret (.bool true)) ∧ OldK s₁.heap s'.heap ∧ s'.os = s₁.os ∧ AllBare s'.gens) s₁ := by
  have rv := vals_ints hi
  cases hk : K.lookup a with
  | some o =>
    have e := KX a o hk
    rw [ha] at e
    cases e
    refine end_core KX hns hb hbb hlim hg ha hr F (H := fun _ => none) (fun _ => .inl rfl) (fun b u z => nomatch (show (none : Option HO) = some u from z)) (fun _ _ => rfl) (.inl rfl) (hsp _ ?_)
    exact .inr ⟨_, vs.toArray, _, hk, rfl, rfl, rfl, by rw [List.size_toArray, hi.length]; exact hl, by simpa using rv⟩
  | none =>
    have at_ : ∀ b, (if b = a then some (HO.frz { cls := .type "list", data := .seq vs.toArray } (.lst (ns.map V.int))) else none) = none ∨ b = a := fun b => by
      by_cases z : b = a
      · exact .inr z
      · exact .inl (if_neg z)
    refine end_core KX hns hb hbb hlim hg ha hr F (H := fun b => if b = a then some (.frz { cls := .type "list", data := .seq vs.toArray } (.lst (ns.map V.int))) else none) (fun b => ?_) (fun b u z => ?_) (fun b z => if_neg z) (.inr hk) (hsp _ (.inl (.inr ⟨_, if_pos rfl⟩)))
    · rcases at_ b with q | q
      · exact .inl q
      · exact .inr ⟨_, _, if_pos q⟩
    · rcases at_ b with q | q
      · have z := q.symm.trans z
        cases z
      · have z := (if_pos q).symm.trans z
        cases z
        subst q
        exact ⟨ha, by rw [List.length_map]; exact hl, vs, _, rv, ha⟩
end
/-- the law, by the promise of its def -/
theorem walk_G {l : PySem.W.OpenLaw} {n k : Nat} {q : Program} {loose : List Str} {XP : (Str → Option Value) → Heap → Prop} {YP : World → Heap → Prop} {d : DefRec} (hn : l.most = some n) (hn2 : n ≤ sizeLine) (hdf : d.params.defaults = []) (hr : RoomG k callerA)
    (F : ∀ (w : World) (mg : Str → Option Value) (fa : Addr) (h : Heap), YP w h → h.Ns mainGlobals mg → mg d.name = some (.ref fa) → ∃ (K : PySem.W.Frag) (sp : Sp), K.In h ∧
        (∀ (H : Hp) (a : Addr) (ns : List Int), ns.length ≤ n → (∀ k ∈ ns, Builtin.Int.intBits k ≤ 1048576) → SqL K H a (ns.map V.int) → sp [.ref a] H (fun v _ => v = .bl true) fun _ _ _ => False) ∧ ∀ base : Heap, FnG ⟨l.prog, w, K, mg, base⟩ k fa sp) :
    PySem.W.WalkO q loose XP YP l.row.toRowW d [] (fun f vs => PySem.call f vs) := by
  refine Att.attach_callB hn hdf fun w s₀ s₁ mg mb fa o pm cd doc a vs ns G Y ho hd hcd hmg hobj hints hlen hbits hg => ?_
  obtain ⟨K, sp, KX, hsp, hF⟩ := F w mg fa _ Y G.T.g hmg
  exact end_call KX G.T.g G.T.b G.T.builtins G.T.nolimit hg hobj hints (Nat.le_trans hlen hn2) hr hF fun H hS => hsp H a ns hlen hbits hS
end AS

set_option Elab.async false
set_option linter.all false
set_option maxRecDepth 100000
set_option maxHeartbeats 4000000
/-! D1: a def of the text and its promise, in few words. -/
namespace AS
open PySem PySem.Spec PyProof.Rows L2
theorem binds_by {K : PySem.W.Frag} {x qual : Str} {params : Arguments} {body : List Stmt} {scope : Scope} {kws : List (Str × V)} {f : Addr} {fd : FuncData} (F : FunD K x qual params body scope [] kws f fd) {args : Args} {bs : List (Str × Value)}
    (h : ∀ (kV doc pm : Value) (an : Option Addr) (cdv ct : Value), bindArgs (PySem.W.fnOf x qual params body scope .none kV doc pm an cdv ct) args = pure bs) (s : Shared) : BindsTo s fd args bs := by
  obtain ⟨oc, od, dV, kV, doc, pm, an, cdv, ct, osl, rfl, lk, hcd, hD, hK⟩ := F.ex
  rcases hD with ⟨_, rfl⟩ | ⟨e, _⟩
  · exact .of_eq (h kV doc pm an cdv ct)
  · exact absurd rfl e
/-- a def as the text has it, at the place where it stands -/
abbrev FnAt (K : PySem.W.Frag) (at_ : Str × Option Str) (x qual : Str) (st : Stmt) (fd : FuncData) : Prop := FunD K x qual (defArgs st) (defBody st) (defScope st) [] [] (He.fAd K at_) fd
/-- the def keeps its promise: its reading, computed, is t; t holds -/
theorem fn_by {S : Sys} {k n : Nat} {at_ : Str × Option Str} {fd : FuncData} {x qual : Str} {st : Stmt} {N ps : List Str} {sp : Sp} {T : PySem.W.Frag → Tabs} {t : PySem.W.Frag → XK → TS} (F : FnAt S.K at_ x qual st fd) (Sc : FnScope N ps (defScope st)) (hT : TabsOk S k (T S.K)) (len : ∀ vs H Q E, sp vs H Q E → vs.length = ps.length)
    (red : ∀ (K : PySem.W.Frag) (E : XK), blkT (wp (oraOf K (T K)) K N n (ctxD (defScope st) E)).S (defBody st) = t K E) (pure : ∀ vs H Q E, sp vs H Q E → t S.K E { nx := fun _ H' => Q .non H', rt := Q } (start N vs) H) : FnB S (k + 1) (He.fAd S.K at_) fd ps sp :=
  fn_def (Γ := oraOf S.K (T S.K)) (n := n) F Sc (ora_ok hT) len fun vs H Q E h => by
    rw [red S.K E]
    exact pure vs H Q E h
/-- a global def called by places -/
theorem ent_def {S : Sys} {j k : Nat} {x qual : Str} {st : Stmt} {fd : FuncData} {ps : List Str} {sp : Sp} (F : FnAt S.K (x, none) x qual st fd) (B : FnB S j (He.fAd S.K (x, none)) fd ps sp) (hj : j ≤ k) (hm : S.mg x = some (.ref (He.fAd S.K (x, none)))) (len : ∀ vs H Q E, sp vs H Q E → vs.length = ps.length)
    (hb : ∀ (kV doc pm : Value) (an : Option Addr) (cdv ct : Value) (us : List Value), us.length = ps.length → bindArgs (PySem.W.fnOf x qual (defArgs st) (defBody st) (defScope st) .none kV doc pm an cdv ct) ⟨us, []⟩ = pure (ps.zip us)) : CallE S k x sp :=
  ent_fn (B.pos (fun s us hl => binds_by F (fun kV doc pm an cdv ct => hb kV doc pm an cdv ct us hl) s) len) hj hm F.2
/-- .. as a promise of its own -/
theorem fn_pos {S : Sys} {j : Nat} {at_ : Str × Option Str} {x qual : Str} {st : Stmt} {fd : FuncData} {ps : List Str} {sp : Sp} (F : FnAt S.K at_ x qual st fd) (B : FnB S j (He.fAd S.K at_) fd ps sp) (len : ∀ vs H Q E, sp vs H Q E → vs.length = ps.length)
    (hb : ∀ (kV doc pm : Value) (an : Option Addr) (cdv ct : Value) (us : List Value), us.length = ps.length → bindArgs (PySem.W.fnOf x qual (defArgs st) (defBody st) (defScope st) .none kV doc pm an cdv ct) ⟨us, []⟩ = pure (ps.zip us)) : FnG S j (He.fAd S.K at_) sp :=
  B.pos (fun s us hl => binds_by F (fun kV doc pm an cdv ct => hb kV doc pm an cdv ct us hl) s) len
end AS

set_option Elab.async false
set_option linter.all false
set_option maxRecDepth 100000
set_option maxHeartbeats 4000000
/-! M2: lists that are built piece by piece: x = x + [..]; x = x + [.. for ..]. -/
namespace AS
open PySem PySem.Spec PyProof.Rows L2
section
variable {α : Type}
inductive All2 (R : V → α → Prop) : List V → List α → Prop
  | nil : All2 R [] []
  | cons {v : V} {vs : List V} {a : α} {as : List α} : R v a → All2 R vs as → All2 R (v :: vs) (a :: as)
theorem All2.imp {R R' : V → α → Prop} (i : ∀ v a, R v a → R' v a) : ∀ {vs : List V} {as : List α}, All2 R vs as → All2 R' vs as
  | _, _, .nil => .nil
  | _, _, .cons h t => .cons (i _ _ h) (t.imp i)
theorem All2.app {R : V → α → Prop} : ∀ {vs ws : List V} {as bs : List α}, All2 R vs as → All2 R ws bs → All2 R (vs ++ ws) (as ++ bs)
  | _, _, _, _, .nil, k => k
  | _, _, _, _, .cons h t, k => .cons h (t.app k)
theorem All2.len {R : V → α → Prop} : ∀ {vs : List V} {as : List α}, All2 R vs as → vs.length = as.length
  | _, _, .nil => rfl
  | _, _, .cons _ t => congrArg (· + 1) t.len
theorem All2.at_ {R : V → α → Prop} : ∀ {vs : List V} {as : List α} {i : Nat} {a : α}, All2 R vs as → as[i]? = some a → ∃ v, vs[i]? = some v ∧ R v a
  | _, _, 0, _, .cons h t, e => by
    cases e
    exact ⟨_, rfl, h⟩
  | _, _, i + 1, _, .cons h t, e => by
    have e' := e
    rw [List.getElem?_cons_succ] at e'
    obtain ⟨v, q, r⟩ := t.at_ e'
    exact ⟨v, by rw [List.getElem?_cons_succ]; exact q, r⟩
  | _, _, _, _, .nil, e => by simp at e
theorem All2.of_at {R : V → α → Prop} : ∀ {vs : List V} {as : List α} {i : Nat} {v : V}, All2 R vs as → vs[i]? = some v → ∃ a, as[i]? = some a ∧ R v a
  | _, _, 0, _, .cons h t, e => by
    cases e
    exact ⟨_, rfl, h⟩
  | _, _, i + 1, _, .cons h t, e => by
    have e' := e
    rw [List.getElem?_cons_succ] at e'
    obtain ⟨v, q, r⟩ := t.of_at e'
    exact ⟨v, by rw [List.getElem?_cons_succ]; exact q, r⟩
  | _, _, _, _, .nil, e => by simp at e
theorem All2.eq_map {f : α → V} : ∀ {vs : List V} {as : List α}, All2 (fun v a => v = f a) vs as → vs = as.map f
  | _, _, .nil => rfl
  | _, _, .cons h t => by rw [h, t.eq_map]; rfl
theorem All2.of_map {R : V → α → Prop} {β : Type} {f : β → V} {g : β → α} : ∀ {bs : List β}, (∀ b ∈ bs, R (f b) (g b)) → All2 R (bs.map f) (bs.map g)
  | [], _ => .nil
  | b :: bs, h => .cons (h b List.mem_cons_self) (All2.of_map fun c hc => h c (List.mem_cons_of_mem _ hc))
theorem All2.rep {R : V → α → Prop} {v : V} {a : α} (h : R v a) : ∀ n : Nat, All2 R (List.replicate n v) (List.replicate n a)
  | 0 => .nil
  | n + 1 => .cons h (All2.rep h n)
end
theorem All2.dts {K : PySem.W.Frag} {H : Hp} : ∀ {vs : List V} {ds : List PyData}, All2 (Dt K H) vs ds → Dts K H vs ds
  | _, _, .nil => .nil
  | _, _, .cons h t => .cons h t.dts
theorem Dts.at_ {K : PySem.W.Frag} {H : Hp} : ∀ {vs : List V} {ds : List PyData} {i : Nat} {v : V}, Dts K H vs ds → vs[i]? = some v → ∃ d, ds[i]? = some d ∧ Dt K H v d
  | _, _, 0, _, .cons h t, e => by
    cases e
    exact ⟨_, rfl, h⟩
  | _, _, i + 1, _, .cons h t, e => by
    have e' := e
    rw [List.getElem?_cons_succ] at e'
    obtain ⟨v, q, r⟩ := t.at_ e'
    exact ⟨v, by rw [List.getElem?_cons_succ]; exact q, r⟩
  | _, _, _, _, .nil, e => by simp at e
theorem sl_set : ∀ {σ : St} {i : Nat} {v : V}, i < σ.length → sl (σ.set i (some v)) i = some v
  | [], _, _, h => absurd h (Nat.not_lt_zero _)
  | _ :: _, 0, _, _ => rfl
  | _ :: r, i + 1, v, h => by
    show sl (r.set i (some v)) i = some v
    exact sl_set (Nat.lt_of_succ_lt_succ h)
theorem tNm_at {σ : St} {i : Nat} {v : V} {H : Hp} {Q : VK} (e : sl σ i = some v) (q : Q v H) : tNm i σ H Q := by
  unfold tNm
  rw [e]
  exact q
section
variable {α : Type} {Ax : Hp → V → α → Prop} {K : PySem.W.Frag} {σ : St} {H : Hp} {as : List α}
/-- arguments that give values in the relation -/
def GvA (Ax : Hp → V → α → Prop) (c : TA) (σ : St) (H : Hp) (as : List α) : Prop := ∀ k : List V → Hp → Prop, (∀ vs H', Ext H H' → All2 (Ax H') vs as → k vs H') → c σ H k
/-- an expression that gives a new list of such values -/
def GvL (Ax : Hp → V → α → Prop) (te : TE) (σ : St) (H : Hp) (as : List α) : Prop := ∀ Q : VK, (∀ p vs H', Ext H H' → H' p = some (.lst vs) → All2 (Ax H') vs as → Q (.ref p) H') → te σ H Q
theorem gvA_nil : GvA Ax tNil σ H [] := fun k q => q [] H Ext.refl .nil
theorem gvA_cons {te : TE} {t : TA} {a : α} (up : ∀ {H H' : Hp} {v : V} {a : α}, Ext H H' → Ax H v a → Ax H' v a) (h : ∀ Q : VK, (∀ v H', Ext H H' → Ax H' v a → Q v H') → te σ H Q) (ht : ∀ H', Ext H H' → GvA Ax t σ H' as) : GvA Ax (tCons te t) σ H (a :: as) := fun k q =>
  h _ fun v H1 x1 r1 => ht H1 x1 _ fun vs H2 x2 r2 => q (v :: vs) H2 (x1.trans x2) (.cons (up x2 r1) r2)
theorem gvL_lst {c : TA} (h : GvA Ax c σ H as) (hz : as.length ≤ sizeLine) (up : ∀ {H H' : Hp} {v : V} {a : α}, Ext H H' → Ax H v a → Ax H' v a) : GvL Ax (tLst c) σ H as := fun Q q =>
  h _ fun vs H1 x1 r => ⟨by rw [r.len]; exact hz, fun p hp => q p vs _ (x1.new hp) upd_same (r.imp fun v a => up (Ext.refl.new hp))⟩
/-- x = x + .., .. -/
def tCat (K : PySem.W.Frag) (i : Nat) : List TE → TS → TS
  | [], last => last
  | c :: r, last => tSeq (tAsg (tOp (addR K) (tNm i) c) (gName i)) (tCat K i r last)
theorem cat_one {i : Nat} {c : TE} {p : Addr} {es : List V} {as0 : List α} {Q : VK} (up : ∀ {H H' : Hp} {v : V} {a : α}, Ext H H' → Ax H v a → Ax H' v a) (e : sl σ i = some (.ref p)) (hp : H p = some (.lst es)) (r : All2 (Ax H) es as0) (hz : as0.length + as.length ≤ sizeLine) (g : GvL Ax c σ H as)
    (q : ∀ p' H' vs, Ext H H' → H' p' = some (.lst vs) → All2 (Ax H') vs (as0 ++ as) → Q (.ref p') H') : tOp (addR K) (tNm i) c σ H Q := by
  refine tNm_at e ?_
  refine g _ fun b zs H1 x1 hb rb => ?_
  refine .inl ⟨p, b, es, zs, rfl, rfl, x1 _ _ hp, hb, by rw [r.len, rb.len]; exact hz, fun p' hp' => ?_⟩
  exact q p' _ (es ++ zs) (x1.new hp') upd_same ((r.imp fun v a => up (x1.new hp')).app (rb.imp fun v a => up (Ext.refl.new hp')))
theorem cat_ok {i : Nat} {last : TS} {D : Ends} {H0 : Hp} (up : ∀ {H H' : Hp} {v : V} {a : α}, Ext H H' → Ax H v a → Ax H' v a) (hi : i < σ.length) : ∀ (cs : List (TE × List α)) (p : Addr) (H : Hp) (es : List V) (as0 : List α), Ext H0 H → H p = some (.lst es) → All2 (Ax H) es as0 →
    (∀ c ∈ cs, ∀ p H', Ext H0 H' → GvL Ax c.1 (σ.set i (some (.ref p))) H' c.2) → as0.length + (cs.flatMap (·.2)).length ≤ sizeLine →
    (∀ p' H' vs, Ext H0 H' → H' p' = some (.lst vs) → All2 (Ax H') vs (as0 ++ cs.flatMap (·.2)) → last D (σ.set i (some (.ref p'))) H') → tCat K i (cs.map (·.1)) last D (σ.set i (some (.ref p))) H
  | [], p, H, es, as0, x, hp, r, _, _, k => k p H es x hp (by simpa using r)
  | (c, as) :: cs, p, H, es, as0, x, hp, r, g, hz, k => by
    have e2 : (((c, as) :: cs).flatMap (·.2)) = as ++ cs.flatMap (·.2) := by simp
    rw [e2] at hz k
    rw [List.length_append] at hz
    refine cat_one (Ax := Ax) (as := as) (p := p) up (sl_set hi) hp r (by omega) (g _ List.mem_cons_self p H x) fun p' H' vs x' hp' r' => ?_
    show tCat K i (cs.map (·.1)) last D ((σ.set i (some (.ref p))).set i (some (.ref p'))) H'
    rw [List.set_set]
    refine cat_ok up hi cs p' H' vs (as0 ++ as) (x.trans x') hp' r' (fun c hc => g c (List.mem_cons_of_mem _ hc)) (by rw [List.length_append]; omega) fun p2 H2 vs2 x2 hp2 r2 => ?_
    exact k p2 H2 vs2 x2 hp2 (by rw [← List.append_assoc]; exact r2)
/-- a list of pieces as arguments -/
def lstA : List TE → TA
  | [] => tNil
  | t :: r => tCons t (lstA r)
theorem gvA_all (up : ∀ {H H' : Hp} {v : V} {a : α}, Ext H H' → Ax H v a → Ax H' v a) {H0 : Hp} : ∀ (ts : List (TE × α)) (H : Hp), Ext H0 H → (∀ t ∈ ts, ∀ H', Ext H0 H' → ∀ Q : VK, (∀ v H'', Ext H' H'' → Ax H'' v t.2 → Q v H'') → t.1 σ H' Q) → GvA Ax (lstA (ts.map (·.1))) σ H (ts.map (·.2))
  | [], _, _, _ => gvA_nil
  | t :: ts, H, x, h => gvA_cons up (fun Q q => h t List.mem_cons_self H x Q q) fun H' x' => gvA_all up ts H' (x.trans x') fun u hu => h u (List.mem_cons_of_mem _ hu)
end
/-- [e for v in l], the values known up to the relation that asks nothing of the heap -/
theorem gvL_lc {K : PySem.W.Frag} {te tl : TE} {v : Nat} {σ : St} {H : Hp} {α : Type} {Ax : Hp → V → α → Prop} {as : List α} (xs ys : List V) (hl : ys.length = xs.length) (hz : xs.length ≤ sizeLine)
    (htl : ∀ Q : VK, (∀ a H', Ext H H' → SqL K H' a xs → Q (.ref a) H') → tl σ H Q)
    (el : ∀ (i : Nat) (x y : V) (H' : Hp) (R : VK), xs[i]? = some x → ys[i]? = some y → Ext H H' → (∀ H'', Ext H' H'' → R y H'') → te ((wipe σ [v]).set v (some x)) H' R)
    (hr : ∀ H', Ext H H' → All2 (Ax H') ys as) : GvL Ax (tLc (iAny K tl) (gName v) tYes te [v]) σ H as := fun Q q =>
  .inl (htl _ fun a H1 x1 hS => ⟨a, rfl, ⟨xs, hS⟩, lc_lst ys hl hz hS (fun i x y H' R ex ey x' k => el i x y H' R ex ey (x1.trans x') k) fun D H' x' hD hy => q D ys H' (x1.trans x') hy (hr H' (x1.trans x'))⟩)
end AS

set_option Elab.async false
set_option linter.all false
set_option maxRecDepth 100000
set_option maxHeartbeats 4000000
/-! X6: __init__ of own exceptions: self.f = f, .. -/
namespace AS
open PySem PySem.Spec PyProof.Rows L2
def t_init (K : PySem.W.Frag) : Nat → List Str → TS
  | _, [] => tNext
  | i, [f] => tSat (rSatX K f) (tNm i) (tNm 0)
  | i, f :: g :: r => tSeq (tSat (rSatX K f) (tNm i) (tNm 0)) (t_init K (i + 1) (g :: r))
def tabs_init (fs : List Str) (K : PySem.W.Frag) : Tabs := ⟨[], [], [], [], [], [], fs.map fun f => (f, rSatX K f)⟩
theorem tabs_init_ok {S : Sys} (k : Nat) (fs : List Str) : TabsOk S k (tabs_init fs S.K) := by
  refine ⟨tab_nil, (fun x h => nomatch h), tab_nil, (fun f ks sp h => by cases h), tab_nil, tab_nil, ?_⟩
  show TabOk (SatE S k) (fs.map fun f => (f, rSatX S.K f))
  induction fs with
  | nil => exact tab_nil
  | cons f r ih => exact tab_cons (fun N X x L _ => by rw [← L.hK]; exact sat_exc) ih
theorem pure_init (K : PySem.W.Frag) (fs : List Str) (h3 : fs.length ≤ 3) (h0 : fs ≠ []) (vs : List V) (H : Hp) (Q : VK) (E : XK) (h : sp_init K fs vs H Q E) : t_init K 1 fs { nx := fun _ H' => Q .non H', rt := Q } (start ("self" :: fs) vs) H := by
  obtain ⟨x, us, rfl, hl, h⟩ := h
  match fs, us, hl, h with
  | [], _, _, _ => exact (h0 rfl).elim
  | [f], [u], _, h => exact h
  | [f, g], [u, v], _, h => exact h
  | [f, g, e], [u, v, w], _, h => exact h
  | _ :: _ :: _ :: _ :: _, _, _, _ => exact absurd h3 (by simp)
/-- the class's __init__ keeps its promise, and how its arguments are bound -/
def InitOk (S : Sys) (x : XC) : Prop := ∃ fd, FnB S 1 (x.I S.K) fd ("self" :: x.fs) (sp_init S.K x.fs) ∧ (∀ (s : Shared) (us : List Value), us.length = ("self" :: x.fs : List Str).length → BindsTo s fd ⟨us, []⟩ (("self" :: x.fs : List Str).zip us)) ∧
  ∀ (s : Shared) (e : Value) (ws : List Value), ws.length = x.fs.reverse.length → BindsTo s fd ⟨[e], x.fs.reverse.zip ws⟩ (("self" :: x.fs : List Str).zip (e :: ws.reverse))
theorem init_ok {S : Sys} {x : XC} {st : Stmt} {q : Str} (h3 : x.fs.length ≤ 3) (h0 : x.fs ≠ []) (h : ∃ fd, FnAt S.K (x.nm, some "__init__") "__init__" q st fd) (Sc : FnScope ("self" :: x.fs) ("self" :: x.fs) (defScope st))
    (red : ∀ (K : PySem.W.Frag) (E : XK), blkT (wp (oraOf K (tabs_init x.fs K)) K ("self" :: x.fs) 40 (ctxD (defScope st) E)).S (defBody st) = t_init K 1 x.fs)
    (hb : ∀ (kV doc pm : Value) (an : Option Addr) (cdv ct : Value) (us : List Value), us.length = ("self" :: x.fs : List Str).length → bindArgs (PySem.W.fnOf "__init__" q (defArgs st) (defBody st) (defScope st) .none kV doc pm an cdv ct) ⟨us, []⟩ = pure (("self" :: x.fs : List Str).zip us))
    (hk : ∀ (kV doc pm : Value) (an : Option Addr) (cdv ct : Value) (e : Value) (ws : List Value), ws.length = x.fs.reverse.length → bindArgs (PySem.W.fnOf "__init__" q (defArgs st) (defBody st) (defScope st) .none kV doc pm an cdv ct) ⟨[e], x.fs.reverse.zip ws⟩ = pure (("self" :: x.fs : List Str).zip (e :: ws.reverse))) : InitOk S x := by
  obtain ⟨fd, F⟩ := h
  refine ⟨fd, fn_by (T := tabs_init x.fs) (t := fun K _ => t_init K 1 x.fs) (n := 40) F Sc (tabs_init_ok 0 x.fs) (fun vs H Q E ⟨y, us, e, hl, _⟩ => by rw [e]; simp [hl]) red fun vs H Q E h => pure_init S.K x.fs h3 h0 vs H Q E h, fun s us hl => binds_by F (fun kV doc pm an cdv ct => hb kV doc pm an cdv ct us hl) s, fun s e ws hl => binds_by F (fun kV doc pm an cdv ct => hk kV doc pm an cdv ct e ws hl) s⟩
theorem vals_rev : ∀ {zs : List V} {ws : List Value}, Vals zs ws → Vals zs.reverse ws.reverse := fun {zs ws} h => by
  have app : ∀ {a c : List V} {b d : List Value}, Vals a b → Vals c d → Vals (a ++ c) (b ++ d) := by
    intro a c b d h1 h2
    induction h1 with
    | nil => exact h2
    | cons h _ ih => exact .cons h ih
  induction h with
  | nil => exact .nil
  | cons h _ ih =>
    rw [List.reverse_cons, List.reverse_cons]
    exact app ih (.cons h .nil)
section
variable {S : Sys} {k : Nat} {x : XC}
theorem xc_pos (hk : 2 ≤ k) (X : XOk S.K x) (I : InitOk S x) (hm : S.mg x.nm = some (.ref (x.C S.K))) (nd : x.fs.Nodup) (hz : x.fs.length ≤ 900) : CallE S k x.nm (sp_mk (x.C S.K) x.fs) := by
  obtain ⟨fd, F, hb, _⟩ := I
  exact ent_xc X F (by omega) hm nd hz hb
theorem xc_kw (hk : 2 ≤ k) (X : XOk S.K x) (I : InitOk S x) (hm : S.mg x.nm = some (.ref (x.C S.K))) (nd : x.fs.Nodup) (hz : x.fs.length ≤ 900) : CallKE S k x.nm x.fs.reverse (sp_mkK (x.C S.K) x.fs List.reverse) := by
  obtain ⟨fd, F, _, hb⟩ := I
  exact ent_xcK (fun l => l.reverse) X F (by omega) hm nd hz (by simp) hb fun zs ws r _ => vals_rev r
end
end AS

set_option Elab.async false
set_option linter.all false
set_option maxRecDepth 100000
set_option maxHeartbeats 4000000
namespace AS.K16
open PySem PySem.Spec PyProof.Rows L2
abbrev prg : Program := PySem.Challenge.pw_anyshape_k16_errors_and_their_classes
def top (i : Nat) : Stmt := prg.main.body.getD i (.Pass ⟨0, 0, 0, 0⟩)
/-! ### the classes -/
def x_UnknownArray : XC := ⟨"UnknownArray", .lk, ["name"]⟩
def x_UnknownName : XC := ⟨"UnknownName", .lk, ["name"]⟩
def x_UnknownFact : XC := ⟨"UnknownFact", .lk, ["value"]⟩
def x_DoesNotRun : XC := ⟨"DoesNotRun", .rt, ["line"]⟩
def x_BrokenFact : XC := ⟨"BrokenFact", .rt, ["position"]⟩
def x_NotWhole : XC := ⟨"NotWhole", .rt, ["size"]⟩
def x_CannotCut : XC := ⟨"CannotCut", .rt, ["cut", "other"]⟩
def x_IsCrossed : XC := ⟨"IsCrossed", .rt, ["line", "cut", "other"]⟩
def x_NothingToUndo : XC := ⟨"NothingToUndo", .rt, []⟩
def x_CommandFailed : XC := ⟨"CommandFailed", .rt, ["position", "results"]⟩
def x_TooMany : XC := ⟨"TooMany", .ar, ["kind", "limit"]⟩
def x_InvalidName : XC := ⟨"InvalidName", .ve, ["value"]⟩
def x_InvalidNames : XC := ⟨"InvalidNames", .ve, ["position"]⟩
def x_InvalidSize : XC := ⟨"InvalidSize", .ve, ["value"]⟩
def x_InvalidSizes : XC := ⟨"InvalidSizes", .ve, ["position"]⟩
def x_InvalidCount : XC := ⟨"InvalidCount", .ve, ["value"]⟩
def x_InvalidNumber : XC := ⟨"InvalidNumber", .ve, ["value"]⟩
def x_InvalidNumbers : XC := ⟨"InvalidNumbers", .ve, ["value"]⟩
def x_InvalidPoint : XC := ⟨"InvalidPoint", .ve, ["value"]⟩
def x_InvalidPoints : XC := ⟨"InvalidPoints", .ve, ["position"]⟩
def x_InvalidText : XC := ⟨"InvalidText", .ve, ["line"]⟩
def x_InvalidFacts : XC := ⟨"InvalidFacts", .ve, ["position"]⟩
def x_InvalidGoal : XC := ⟨"InvalidGoal", .ve, ["value"]⟩
def x_InvalidCone : XC := ⟨"InvalidCone", .ve, ["value"]⟩
def x_InvalidInputs : XC := ⟨"InvalidInputs", .ve, ["position"]⟩
def x_InvalidLine : XC := ⟨"InvalidLine", .ve, ["position"]⟩
def x_InvalidProgram : XC := ⟨"InvalidProgram", .ve, ["value"]⟩
def x_InvalidTerm : XC := ⟨"InvalidTerm", .ve, ["value"]⟩
def x_InvalidTerms : XC := ⟨"InvalidTerms", .ve, ["position"]⟩
def x_InvalidWord : XC := ⟨"InvalidWord", .ve, ["value"]⟩
def x_InvalidPosition : XC := ⟨"InvalidPosition", .ve, ["value"]⟩
def x_InvalidPositions : XC := ⟨"InvalidPositions", .ve, ["value"]⟩
def x_InvalidIndex : XC := ⟨"InvalidIndex", .ve, ["value"]⟩
def x_InvalidContents : XC := ⟨"InvalidContents", .ve, ["name"]⟩
def x_InvalidMeanings : XC := ⟨"InvalidMeanings", .ve, ["letter"]⟩
def x_InvalidDigits : XC := ⟨"InvalidDigits", .ve, ["position"]⟩
def x_OtherInputs : XC := ⟨"OtherInputs", .ve, ["position"]⟩
def x_InvalidAnswer : XC := ⟨"InvalidAnswer", .ve, ["value"]⟩
def x_InvalidQuestion : XC := ⟨"InvalidQuestion", .ve, ["value"]⟩
def x_InvalidCommand : XC := ⟨"InvalidCommand", .ve, ["value"]⟩
/-- the classes in the order in which they are made, and which of a, b, c each takes -/
def xs : List (XC × List Nat) := [(x_InvalidName, [0]), (x_InvalidNames, [0]), (x_InvalidSize, [0]), (x_InvalidSizes, [0]), (x_InvalidCount, [0]), (x_InvalidNumber, [0]), (x_InvalidNumbers, [0]), (x_InvalidPoint, [0]), (x_InvalidPoints, [0]), (x_InvalidText, [0]), (x_InvalidFacts, [0]), (x_InvalidGoal, [0]), (x_InvalidCone, [0]), (x_InvalidInputs, [0]), (x_InvalidLine, [0]), (x_InvalidProgram, [0]), (x_InvalidTerm, [0]), (x_InvalidTerms, [0]), (x_InvalidWord, [0]), (x_InvalidPosition, [0]), (x_InvalidPositions, [0]), (x_InvalidIndex, [0]), (x_InvalidContents, [0]), (x_InvalidMeanings, [0]), (x_InvalidDigits, [0]), (x_OtherInputs, [0]), (x_InvalidAnswer, [0]), (x_InvalidQuestion, [0]), (x_InvalidCommand, [0]), (x_UnknownArray, [0]), (x_UnknownName, [0]), (x_UnknownFact, [0]), (x_DoesNotRun, [0]), (x_BrokenFact, [0]), (x_NotWhole, [0]), (x_CannotCut, [0, 1]), (x_IsCrossed, [0, 1, 2]), (x_NothingToUndo, []), (x_CommandFailed, [0, 1]), (x_TooMany, [0, 1])]
def xi : List XC := [x_InvalidName, x_InvalidNames, x_InvalidSize, x_InvalidSizes, x_InvalidCount, x_InvalidNumber, x_InvalidNumbers, x_InvalidPoint, x_InvalidPoints, x_InvalidText, x_InvalidFacts, x_InvalidGoal, x_InvalidCone, x_InvalidInputs, x_InvalidLine, x_InvalidProgram, x_InvalidTerm, x_InvalidTerms, x_InvalidWord, x_InvalidPosition, x_InvalidPositions, x_InvalidIndex, x_InvalidContents, x_InvalidMeanings, x_InvalidDigits, x_OtherInputs, x_InvalidAnswer, x_InvalidQuestion, x_InvalidCommand, x_UnknownArray, x_UnknownName, x_UnknownFact, x_DoesNotRun, x_BrokenFact, x_NotWhole, x_CannotCut, x_IsCrossed, x_CommandFailed, x_TooMany]

theorem i_InvalidName {S : Sys} (h : ∃ fd, FnAt S.K ("InvalidName", some "__init__") "__init__" "InvalidName.__init__" (inClass (top 17) 0) fd) : InitOk S x_InvalidName :=
  init_ok (x := x_InvalidName) (by decide) (by decide) h ⟨rfl, rfl, rfl, by decide +kernel, rfl, by decide +kernel, by decide +kernel⟩ (fun K E => by kernel_rfl) (fun _ _ _ _ _ _ us hl => match us, hl with | [_, _], _ => rfl) fun _ _ _ _ _ _ e ws hl => match ws, hl with | [_], _ => rfl
theorem i_InvalidNames {S : Sys} (h : ∃ fd, FnAt S.K ("InvalidNames", some "__init__") "__init__" "InvalidNames.__init__" (inClass (top 18) 0) fd) : InitOk S x_InvalidNames :=
  init_ok (x := x_InvalidNames) (by decide) (by decide) h ⟨rfl, rfl, rfl, by decide +kernel, rfl, by decide +kernel, by decide +kernel⟩ (fun K E => by kernel_rfl) (fun _ _ _ _ _ _ us hl => match us, hl with | [_, _], _ => rfl) fun _ _ _ _ _ _ e ws hl => match ws, hl with | [_], _ => rfl
theorem i_InvalidSize {S : Sys} (h : ∃ fd, FnAt S.K ("InvalidSize", some "__init__") "__init__" "InvalidSize.__init__" (inClass (top 19) 0) fd) : InitOk S x_InvalidSize :=
  init_ok (x := x_InvalidSize) (by decide) (by decide) h ⟨rfl, rfl, rfl, by decide +kernel, rfl, by decide +kernel, by decide +kernel⟩ (fun K E => by kernel_rfl) (fun _ _ _ _ _ _ us hl => match us, hl with | [_, _], _ => rfl) fun _ _ _ _ _ _ e ws hl => match ws, hl with | [_], _ => rfl
theorem i_InvalidSizes {S : Sys} (h : ∃ fd, FnAt S.K ("InvalidSizes", some "__init__") "__init__" "InvalidSizes.__init__" (inClass (top 20) 0) fd) : InitOk S x_InvalidSizes :=
  init_ok (x := x_InvalidSizes) (by decide) (by decide) h ⟨rfl, rfl, rfl, by decide +kernel, rfl, by decide +kernel, by decide +kernel⟩ (fun K E => by kernel_rfl) (fun _ _ _ _ _ _ us hl => match us, hl with | [_, _], _ => rfl) fun _ _ _ _ _ _ e ws hl => match ws, hl with | [_], _ => rfl
theorem i_InvalidCount {S : Sys} (h : ∃ fd, FnAt S.K ("InvalidCount", some "__init__") "__init__" "InvalidCount.__init__" (inClass (top 21) 0) fd) : InitOk S x_InvalidCount :=
  init_ok (x := x_InvalidCount) (by decide) (by decide) h ⟨rfl, rfl, rfl, by decide +kernel, rfl, by decide +kernel, by decide +kernel⟩ (fun K E => by kernel_rfl) (fun _ _ _ _ _ _ us hl => match us, hl with | [_, _], _ => rfl) fun _ _ _ _ _ _ e ws hl => match ws, hl with | [_], _ => rfl
theorem i_InvalidNumber {S : Sys} (h : ∃ fd, FnAt S.K ("InvalidNumber", some "__init__") "__init__" "InvalidNumber.__init__" (inClass (top 22) 0) fd) : InitOk S x_InvalidNumber :=
  init_ok (x := x_InvalidNumber) (by decide) (by decide) h ⟨rfl, rfl, rfl, by decide +kernel, rfl, by decide +kernel, by decide +kernel⟩ (fun K E => by kernel_rfl) (fun _ _ _ _ _ _ us hl => match us, hl with | [_, _], _ => rfl) fun _ _ _ _ _ _ e ws hl => match ws, hl with | [_], _ => rfl
theorem i_InvalidNumbers {S : Sys} (h : ∃ fd, FnAt S.K ("InvalidNumbers", some "__init__") "__init__" "InvalidNumbers.__init__" (inClass (top 23) 0) fd) : InitOk S x_InvalidNumbers :=
  init_ok (x := x_InvalidNumbers) (by decide) (by decide) h ⟨rfl, rfl, rfl, by decide +kernel, rfl, by decide +kernel, by decide +kernel⟩ (fun K E => by kernel_rfl) (fun _ _ _ _ _ _ us hl => match us, hl with | [_, _], _ => rfl) fun _ _ _ _ _ _ e ws hl => match ws, hl with | [_], _ => rfl
theorem i_InvalidPoint {S : Sys} (h : ∃ fd, FnAt S.K ("InvalidPoint", some "__init__") "__init__" "InvalidPoint.__init__" (inClass (top 24) 0) fd) : InitOk S x_InvalidPoint :=
  init_ok (x := x_InvalidPoint) (by decide) (by decide) h ⟨rfl, rfl, rfl, by decide +kernel, rfl, by decide +kernel, by decide +kernel⟩ (fun K E => by kernel_rfl) (fun _ _ _ _ _ _ us hl => match us, hl with | [_, _], _ => rfl) fun _ _ _ _ _ _ e ws hl => match ws, hl with | [_], _ => rfl
theorem i_InvalidPoints {S : Sys} (h : ∃ fd, FnAt S.K ("InvalidPoints", some "__init__") "__init__" "InvalidPoints.__init__" (inClass (top 25) 0) fd) : InitOk S x_InvalidPoints :=
  init_ok (x := x_InvalidPoints) (by decide) (by decide) h ⟨rfl, rfl, rfl, by decide +kernel, rfl, by decide +kernel, by decide +kernel⟩ (fun K E => by kernel_rfl) (fun _ _ _ _ _ _ us hl => match us, hl with | [_, _], _ => rfl) fun _ _ _ _ _ _ e ws hl => match ws, hl with | [_], _ => rfl
theorem i_InvalidText {S : Sys} (h : ∃ fd, FnAt S.K ("InvalidText", some "__init__") "__init__" "InvalidText.__init__" (inClass (top 26) 0) fd) : InitOk S x_InvalidText :=
  init_ok (x := x_InvalidText) (by decide) (by decide) h ⟨rfl, rfl, rfl, by decide +kernel, rfl, by decide +kernel, by decide +kernel⟩ (fun K E => by kernel_rfl) (fun _ _ _ _ _ _ us hl => match us, hl with | [_, _], _ => rfl) fun _ _ _ _ _ _ e ws hl => match ws, hl with | [_], _ => rfl
theorem i_InvalidFacts {S : Sys} (h : ∃ fd, FnAt S.K ("InvalidFacts", some "__init__") "__init__" "InvalidFacts.__init__" (inClass (top 27) 0) fd) : InitOk S x_InvalidFacts :=
  init_ok (x := x_InvalidFacts) (by decide) (by decide) h ⟨rfl, rfl, rfl, by decide +kernel, rfl, by decide +kernel, by decide +kernel⟩ (fun K E => by kernel_rfl) (fun _ _ _ _ _ _ us hl => match us, hl with | [_, _], _ => rfl) fun _ _ _ _ _ _ e ws hl => match ws, hl with | [_], _ => rfl
theorem i_InvalidGoal {S : Sys} (h : ∃ fd, FnAt S.K ("InvalidGoal", some "__init__") "__init__" "InvalidGoal.__init__" (inClass (top 28) 0) fd) : InitOk S x_InvalidGoal :=
  init_ok (x := x_InvalidGoal) (by decide) (by decide) h ⟨rfl, rfl, rfl, by decide +kernel, rfl, by decide +kernel, by decide +kernel⟩ (fun K E => by kernel_rfl) (fun _ _ _ _ _ _ us hl => match us, hl with | [_, _], _ => rfl) fun _ _ _ _ _ _ e ws hl => match ws, hl with | [_], _ => rfl
theorem i_InvalidCone {S : Sys} (h : ∃ fd, FnAt S.K ("InvalidCone", some "__init__") "__init__" "InvalidCone.__init__" (inClass (top 29) 0) fd) : InitOk S x_InvalidCone :=
  init_ok (x := x_InvalidCone) (by decide) (by decide) h ⟨rfl, rfl, rfl, by decide +kernel, rfl, by decide +kernel, by decide +kernel⟩ (fun K E => by kernel_rfl) (fun _ _ _ _ _ _ us hl => match us, hl with | [_, _], _ => rfl) fun _ _ _ _ _ _ e ws hl => match ws, hl with | [_], _ => rfl
theorem i_InvalidInputs {S : Sys} (h : ∃ fd, FnAt S.K ("InvalidInputs", some "__init__") "__init__" "InvalidInputs.__init__" (inClass (top 30) 0) fd) : InitOk S x_InvalidInputs :=
  init_ok (x := x_InvalidInputs) (by decide) (by decide) h ⟨rfl, rfl, rfl, by decide +kernel, rfl, by decide +kernel, by decide +kernel⟩ (fun K E => by kernel_rfl) (fun _ _ _ _ _ _ us hl => match us, hl with | [_, _], _ => rfl) fun _ _ _ _ _ _ e ws hl => match ws, hl with | [_], _ => rfl
theorem i_InvalidLine {S : Sys} (h : ∃ fd, FnAt S.K ("InvalidLine", some "__init__") "__init__" "InvalidLine.__init__" (inClass (top 31) 0) fd) : InitOk S x_InvalidLine :=
  init_ok (x := x_InvalidLine) (by decide) (by decide) h ⟨rfl, rfl, rfl, by decide +kernel, rfl, by decide +kernel, by decide +kernel⟩ (fun K E => by kernel_rfl) (fun _ _ _ _ _ _ us hl => match us, hl with | [_, _], _ => rfl) fun _ _ _ _ _ _ e ws hl => match ws, hl with | [_], _ => rfl
theorem i_InvalidProgram {S : Sys} (h : ∃ fd, FnAt S.K ("InvalidProgram", some "__init__") "__init__" "InvalidProgram.__init__" (inClass (top 32) 0) fd) : InitOk S x_InvalidProgram :=
  init_ok (x := x_InvalidProgram) (by decide) (by decide) h ⟨rfl, rfl, rfl, by decide +kernel, rfl, by decide +kernel, by decide +kernel⟩ (fun K E => by kernel_rfl) (fun _ _ _ _ _ _ us hl => match us, hl with | [_, _], _ => rfl) fun _ _ _ _ _ _ e ws hl => match ws, hl with | [_], _ => rfl
theorem i_InvalidTerm {S : Sys} (h : ∃ fd, FnAt S.K ("InvalidTerm", some "__init__") "__init__" "InvalidTerm.__init__" (inClass (top 33) 0) fd) : InitOk S x_InvalidTerm :=
  init_ok (x := x_InvalidTerm) (by decide) (by decide) h ⟨rfl, rfl, rfl, by decide +kernel, rfl, by decide +kernel, by decide +kernel⟩ (fun K E => by kernel_rfl) (fun _ _ _ _ _ _ us hl => match us, hl with | [_, _], _ => rfl) fun _ _ _ _ _ _ e ws hl => match ws, hl with | [_], _ => rfl
theorem i_InvalidTerms {S : Sys} (h : ∃ fd, FnAt S.K ("InvalidTerms", some "__init__") "__init__" "InvalidTerms.__init__" (inClass (top 34) 0) fd) : InitOk S x_InvalidTerms :=
  init_ok (x := x_InvalidTerms) (by decide) (by decide) h ⟨rfl, rfl, rfl, by decide +kernel, rfl, by decide +kernel, by decide +kernel⟩ (fun K E => by kernel_rfl) (fun _ _ _ _ _ _ us hl => match us, hl with | [_, _], _ => rfl) fun _ _ _ _ _ _ e ws hl => match ws, hl with | [_], _ => rfl
theorem i_InvalidWord {S : Sys} (h : ∃ fd, FnAt S.K ("InvalidWord", some "__init__") "__init__" "InvalidWord.__init__" (inClass (top 35) 0) fd) : InitOk S x_InvalidWord :=
  init_ok (x := x_InvalidWord) (by decide) (by decide) h ⟨rfl, rfl, rfl, by decide +kernel, rfl, by decide +kernel, by decide +kernel⟩ (fun K E => by kernel_rfl) (fun _ _ _ _ _ _ us hl => match us, hl with | [_, _], _ => rfl) fun _ _ _ _ _ _ e ws hl => match ws, hl with | [_], _ => rfl
theorem i_InvalidPosition {S : Sys} (h : ∃ fd, FnAt S.K ("InvalidPosition", some "__init__") "__init__" "InvalidPosition.__init__" (inClass (top 36) 0) fd) : InitOk S x_InvalidPosition :=
  init_ok (x := x_InvalidPosition) (by decide) (by decide) h ⟨rfl, rfl, rfl, by decide +kernel, rfl, by decide +kernel, by decide +kernel⟩ (fun K E => by kernel_rfl) (fun _ _ _ _ _ _ us hl => match us, hl with | [_, _], _ => rfl) fun _ _ _ _ _ _ e ws hl => match ws, hl with | [_], _ => rfl
theorem i_InvalidPositions {S : Sys} (h : ∃ fd, FnAt S.K ("InvalidPositions", some "__init__") "__init__" "InvalidPositions.__init__" (inClass (top 37) 0) fd) : InitOk S x_InvalidPositions :=
  init_ok (x := x_InvalidPositions) (by decide) (by decide) h ⟨rfl, rfl, rfl, by decide +kernel, rfl, by decide +kernel, by decide +kernel⟩ (fun K E => by kernel_rfl) (fun _ _ _ _ _ _ us hl => match us, hl with | [_, _], _ => rfl) fun _ _ _ _ _ _ e ws hl => match ws, hl with | [_], _ => rfl
theorem i_InvalidIndex {S : Sys} (h : ∃ fd, FnAt S.K ("InvalidIndex", some "__init__") "__init__" "InvalidIndex.__init__" (inClass (top 38) 0) fd) : InitOk S x_InvalidIndex :=
  init_ok (x := x_InvalidIndex) (by decide) (by decide) h ⟨rfl, rfl, rfl, by decide +kernel, rfl, by decide +kernel, by decide +kernel⟩ (fun K E => by kernel_rfl) (fun _ _ _ _ _ _ us hl => match us, hl with | [_, _], _ => rfl) fun _ _ _ _ _ _ e ws hl => match ws, hl with | [_], _ => rfl
theorem i_InvalidContents {S : Sys} (h : ∃ fd, FnAt S.K ("InvalidContents", some "__init__") "__init__" "InvalidContents.__init__" (inClass (top 39) 0) fd) : InitOk S x_InvalidContents :=
  init_ok (x := x_InvalidContents) (by decide) (by decide) h ⟨rfl, rfl, rfl, by decide +kernel, rfl, by decide +kernel, by decide +kernel⟩ (fun K E => by kernel_rfl) (fun _ _ _ _ _ _ us hl => match us, hl with | [_, _], _ => rfl) fun _ _ _ _ _ _ e ws hl => match ws, hl with | [_], _ => rfl
theorem i_InvalidMeanings {S : Sys} (h : ∃ fd, FnAt S.K ("InvalidMeanings", some "__init__") "__init__" "InvalidMeanings.__init__" (inClass (top 40) 0) fd) : InitOk S x_InvalidMeanings :=
  init_ok (x := x_InvalidMeanings) (by decide) (by decide) h ⟨rfl, rfl, rfl, by decide +kernel, rfl, by decide +kernel, by decide +kernel⟩ (fun K E => by kernel_rfl) (fun _ _ _ _ _ _ us hl => match us, hl with | [_, _], _ => rfl) fun _ _ _ _ _ _ e ws hl => match ws, hl with | [_], _ => rfl
theorem i_InvalidDigits {S : Sys} (h : ∃ fd, FnAt S.K ("InvalidDigits", some "__init__") "__init__" "InvalidDigits.__init__" (inClass (top 41) 0) fd) : InitOk S x_InvalidDigits :=
  init_ok (x := x_InvalidDigits) (by decide) (by decide) h ⟨rfl, rfl, rfl, by decide +kernel, rfl, by decide +kernel, by decide +kernel⟩ (fun K E => by kernel_rfl) (fun _ _ _ _ _ _ us hl => match us, hl with | [_, _], _ => rfl) fun _ _ _ _ _ _ e ws hl => match ws, hl with | [_], _ => rfl
theorem i_OtherInputs {S : Sys} (h : ∃ fd, FnAt S.K ("OtherInputs", some "__init__") "__init__" "OtherInputs.__init__" (inClass (top 42) 0) fd) : InitOk S x_OtherInputs :=
  init_ok (x := x_OtherInputs) (by decide) (by decide) h ⟨rfl, rfl, rfl, by decide +kernel, rfl, by decide +kernel, by decide +kernel⟩ (fun K E => by kernel_rfl) (fun _ _ _ _ _ _ us hl => match us, hl with | [_, _], _ => rfl) fun _ _ _ _ _ _ e ws hl => match ws, hl with | [_], _ => rfl
theorem i_InvalidAnswer {S : Sys} (h : ∃ fd, FnAt S.K ("InvalidAnswer", some "__init__") "__init__" "InvalidAnswer.__init__" (inClass (top 43) 0) fd) : InitOk S x_InvalidAnswer :=
  init_ok (x := x_InvalidAnswer) (by decide) (by decide) h ⟨rfl, rfl, rfl, by decide +kernel, rfl, by decide +kernel, by decide +kernel⟩ (fun K E => by kernel_rfl) (fun _ _ _ _ _ _ us hl => match us, hl with | [_, _], _ => rfl) fun _ _ _ _ _ _ e ws hl => match ws, hl with | [_], _ => rfl
theorem i_InvalidQuestion {S : Sys} (h : ∃ fd, FnAt S.K ("InvalidQuestion", some "__init__") "__init__" "InvalidQuestion.__init__" (inClass (top 44) 0) fd) : InitOk S x_InvalidQuestion :=
  init_ok (x := x_InvalidQuestion) (by decide) (by decide) h ⟨rfl, rfl, rfl, by decide +kernel, rfl, by decide +kernel, by decide +kernel⟩ (fun K E => by kernel_rfl) (fun _ _ _ _ _ _ us hl => match us, hl with | [_, _], _ => rfl) fun _ _ _ _ _ _ e ws hl => match ws, hl with | [_], _ => rfl
theorem i_InvalidCommand {S : Sys} (h : ∃ fd, FnAt S.K ("InvalidCommand", some "__init__") "__init__" "InvalidCommand.__init__" (inClass (top 45) 0) fd) : InitOk S x_InvalidCommand :=
  init_ok (x := x_InvalidCommand) (by decide) (by decide) h ⟨rfl, rfl, rfl, by decide +kernel, rfl, by decide +kernel, by decide +kernel⟩ (fun K E => by kernel_rfl) (fun _ _ _ _ _ _ us hl => match us, hl with | [_, _], _ => rfl) fun _ _ _ _ _ _ e ws hl => match ws, hl with | [_], _ => rfl
theorem i_UnknownArray {S : Sys} (h : ∃ fd, FnAt S.K ("UnknownArray", some "__init__") "__init__" "UnknownArray.__init__" (inClass (top 2) 0) fd) : InitOk S x_UnknownArray :=
  init_ok (x := x_UnknownArray) (by decide) (by decide) h ⟨rfl, rfl, rfl, by decide +kernel, rfl, by decide +kernel, by decide +kernel⟩ (fun K E => by kernel_rfl) (fun _ _ _ _ _ _ us hl => match us, hl with | [_, _], _ => rfl) fun _ _ _ _ _ _ e ws hl => match ws, hl with | [_], _ => rfl
theorem i_UnknownName {S : Sys} (h : ∃ fd, FnAt S.K ("UnknownName", some "__init__") "__init__" "UnknownName.__init__" (inClass (top 3) 0) fd) : InitOk S x_UnknownName :=
  init_ok (x := x_UnknownName) (by decide) (by decide) h ⟨rfl, rfl, rfl, by decide +kernel, rfl, by decide +kernel, by decide +kernel⟩ (fun K E => by kernel_rfl) (fun _ _ _ _ _ _ us hl => match us, hl with | [_, _], _ => rfl) fun _ _ _ _ _ _ e ws hl => match ws, hl with | [_], _ => rfl
theorem i_UnknownFact {S : Sys} (h : ∃ fd, FnAt S.K ("UnknownFact", some "__init__") "__init__" "UnknownFact.__init__" (inClass (top 4) 0) fd) : InitOk S x_UnknownFact :=
  init_ok (x := x_UnknownFact) (by decide) (by decide) h ⟨rfl, rfl, rfl, by decide +kernel, rfl, by decide +kernel, by decide +kernel⟩ (fun K E => by kernel_rfl) (fun _ _ _ _ _ _ us hl => match us, hl with | [_, _], _ => rfl) fun _ _ _ _ _ _ e ws hl => match ws, hl with | [_], _ => rfl
theorem i_DoesNotRun {S : Sys} (h : ∃ fd, FnAt S.K ("DoesNotRun", some "__init__") "__init__" "DoesNotRun.__init__" (inClass (top 6) 0) fd) : InitOk S x_DoesNotRun :=
  init_ok (x := x_DoesNotRun) (by decide) (by decide) h ⟨rfl, rfl, rfl, by decide +kernel, rfl, by decide +kernel, by decide +kernel⟩ (fun K E => by kernel_rfl) (fun _ _ _ _ _ _ us hl => match us, hl with | [_, _], _ => rfl) fun _ _ _ _ _ _ e ws hl => match ws, hl with | [_], _ => rfl
theorem i_BrokenFact {S : Sys} (h : ∃ fd, FnAt S.K ("BrokenFact", some "__init__") "__init__" "BrokenFact.__init__" (inClass (top 7) 0) fd) : InitOk S x_BrokenFact :=
  init_ok (x := x_BrokenFact) (by decide) (by decide) h ⟨rfl, rfl, rfl, by decide +kernel, rfl, by decide +kernel, by decide +kernel⟩ (fun K E => by kernel_rfl) (fun _ _ _ _ _ _ us hl => match us, hl with | [_, _], _ => rfl) fun _ _ _ _ _ _ e ws hl => match ws, hl with | [_], _ => rfl
theorem i_NotWhole {S : Sys} (h : ∃ fd, FnAt S.K ("NotWhole", some "__init__") "__init__" "NotWhole.__init__" (inClass (top 8) 0) fd) : InitOk S x_NotWhole :=
  init_ok (x := x_NotWhole) (by decide) (by decide) h ⟨rfl, rfl, rfl, by decide +kernel, rfl, by decide +kernel, by decide +kernel⟩ (fun K E => by kernel_rfl) (fun _ _ _ _ _ _ us hl => match us, hl with | [_, _], _ => rfl) fun _ _ _ _ _ _ e ws hl => match ws, hl with | [_], _ => rfl
theorem i_CannotCut {S : Sys} (h : ∃ fd, FnAt S.K ("CannotCut", some "__init__") "__init__" "CannotCut.__init__" (inClass (top 9) 0) fd) : InitOk S x_CannotCut :=
  init_ok (x := x_CannotCut) (by decide) (by decide) h ⟨rfl, rfl, rfl, by decide +kernel, rfl, by decide +kernel, by decide +kernel⟩ (fun K E => by kernel_rfl) (fun _ _ _ _ _ _ us hl => match us, hl with | [_, _, _], _ => rfl) fun _ _ _ _ _ _ e ws hl => match ws, hl with | [_, _], _ => rfl
theorem i_IsCrossed {S : Sys} (h : ∃ fd, FnAt S.K ("IsCrossed", some "__init__") "__init__" "IsCrossed.__init__" (inClass (top 10) 0) fd) : InitOk S x_IsCrossed :=
  init_ok (x := x_IsCrossed) (by decide) (by decide) h ⟨rfl, rfl, rfl, by decide +kernel, rfl, by decide +kernel, by decide +kernel⟩ (fun K E => by kernel_rfl) (fun _ _ _ _ _ _ us hl => match us, hl with | [_, _, _, _], _ => rfl) fun _ _ _ _ _ _ e ws hl => match ws, hl with | [_, _, _], _ => rfl
theorem i_CommandFailed {S : Sys} (h : ∃ fd, FnAt S.K ("CommandFailed", some "__init__") "__init__" "CommandFailed.__init__" (inClass (top 12) 0) fd) : InitOk S x_CommandFailed :=
  init_ok (x := x_CommandFailed) (by decide) (by decide) h ⟨rfl, rfl, rfl, by decide +kernel, rfl, by decide +kernel, by decide +kernel⟩ (fun K E => by kernel_rfl) (fun _ _ _ _ _ _ us hl => match us, hl with | [_, _, _], _ => rfl) fun _ _ _ _ _ _ e ws hl => match ws, hl with | [_, _], _ => rfl
theorem i_TooMany {S : Sys} (h : ∃ fd, FnAt S.K ("TooMany", some "__init__") "__init__" "TooMany.__init__" (inClass (top 14) 0) fd) : InitOk S x_TooMany :=
  init_ok (x := x_TooMany) (by decide) (by decide) h ⟨rfl, rfl, rfl, by decide +kernel, rfl, by decide +kernel, by decide +kernel⟩ (fun K E => by kernel_rfl) (fun _ _ _ _ _ _ us hl => match us, hl with | [_, _, _], _ => rfl) fun _ _ _ _ _ _ e ws hl => match ws, hl with | [_, _], _ => rfl
end AS.K16

set_option Elab.async false
set_option linter.all false
set_option maxRecDepth 100000
set_option maxHeartbeats 4000000
/-! K16B: what the defs of k16 do: readings, promises, and that the readings keep them. -/
namespace AS.K16
open PySem PySem.Spec PyProof.Rows L2
/-! ### the pieces in which the lists are built -/
def pl0 : List (XC × List Nat) := [(x_InvalidName, [0]), (x_InvalidNames, [0]), (x_InvalidSize, [0]), (x_InvalidSizes, [0]), (x_InvalidCount, [0])]
def pls : List (List (XC × List Nat)) := [[(x_InvalidNumber, [0]), (x_InvalidNumbers, [0]), (x_InvalidPoint, [0]), (x_InvalidPoints, [0]), (x_InvalidText, [0])],
  [(x_InvalidFacts, [0]), (x_InvalidGoal, [0]), (x_InvalidCone, [0]), (x_InvalidInputs, [0]), (x_InvalidLine, [0])],
  [(x_InvalidProgram, [0]), (x_InvalidTerm, [0]), (x_InvalidTerms, [0]), (x_InvalidWord, [0]), (x_InvalidPosition, [0])],
  [(x_InvalidPositions, [0]), (x_InvalidIndex, [0]), (x_InvalidContents, [0]), (x_InvalidMeanings, [0])],
  [(x_InvalidDigits, [0]), (x_OtherInputs, [0]), (x_InvalidAnswer, [0]), (x_InvalidQuestion, [0]), (x_InvalidCommand, [0])],
  [(x_UnknownArray, [0]), (x_UnknownName, [0]), (x_UnknownFact, [0]), (x_DoesNotRun, [0]), (x_BrokenFact, [0]), (x_NotWhole, [0])],
  [(x_CannotCut, [0, 1]), (x_IsCrossed, [0, 1, 2]), (x_NothingToUndo, []), (x_CommandFailed, [0, 1]), (x_TooMany, [0, 1])]]
def nd0 : List (XC × List Nat) := [(x_InvalidName, [0]), (x_InvalidNames, [0]), (x_InvalidSize, [0])]
def nds : List (List (XC × List Nat)) := [[(x_InvalidSizes, [0]), (x_InvalidCount, [0]), (x_InvalidNumber, [0])],
  [(x_InvalidNumbers, [0]), (x_InvalidPoint, [0]), (x_InvalidPoints, [0])],
  [(x_InvalidText, [0]), (x_InvalidFacts, [0]), (x_InvalidGoal, [0]), (x_InvalidCone, [0])],
  [(x_InvalidInputs, [0]), (x_InvalidLine, [0]), (x_InvalidProgram, [0])],
  [(x_InvalidTerm, [0]), (x_InvalidTerms, [0]), (x_InvalidWord, [0])],
  [(x_InvalidPosition, [0]), (x_InvalidPositions, [0]), (x_InvalidIndex, [0])],
  [(x_InvalidContents, [0]), (x_InvalidMeanings, [0]), (x_InvalidDigits, [0])],
  [(x_OtherInputs, [0]), (x_InvalidAnswer, [0]), (x_InvalidQuestion, [0])],
  [(x_InvalidCommand, [0]), (x_UnknownArray, [0]), (x_UnknownName, [0]), (x_UnknownFact, [0])],
  [(x_DoesNotRun, [0]), (x_BrokenFact, [0]), (x_NotWhole, [0]), (x_CannotCut, [0, 1])],
  [(x_IsCrossed, [0, 1, 2]), (x_NothingToUndo, []), (x_CommandFailed, [0, 1])],
  [(x_TooMany, [0, 1])]]
def tr0 (K : PySem.W.Frag) : List V := [.ref (He.ga K "InvalidName"), .ref (He.ga K "InvalidNames"), .ref (He.ga K "InvalidSize")]
def trs (K : PySem.W.Frag) : List (List V) := [[.ref (He.ga K "InvalidSizes"), .ref (He.ga K "InvalidCount")],
  [.ref (He.ga K "InvalidNumber"), .ref (He.ga K "InvalidNumbers")],
  [.ref (He.ga K "InvalidPoint"), .ref (He.ga K "InvalidPoints")],
  [.ref (He.ga K "InvalidText"), .ref (He.ga K "InvalidFacts"), .ref (He.ga K "InvalidGoal")],
  [.ref (He.ga K "InvalidCone"), .ref (He.ga K "InvalidInputs")],
  [.ref (He.ga K "InvalidLine"), .ref (He.ga K "InvalidProgram")],
  [.ref (He.ga K "InvalidTerm"), .ref (He.ga K "InvalidTerms"), .ref (He.ga K "InvalidWord")],
  [.ref (He.ga K "InvalidPosition"), .ref (He.ga K "InvalidPositions")],
  [.ref (He.ga K "InvalidIndex"), .ref (He.ga K "InvalidContents")],
  [.ref (He.ga K "InvalidMeanings"), .ref (He.ga K "InvalidDigits")],
  [.ref (He.ga K "OtherInputs"), .ref (He.ga K "InvalidAnswer")],
  [.ref (He.ga K "InvalidQuestion"), .ref (He.ga K "InvalidCommand")],
  [.ref (He.ga K "UnknownArray"), .ref (He.ga K "UnknownName"), .ref (He.ga K "UnknownFact")],
  [.ref (He.ga K "DoesNotRun"), .ref (He.ga K "BrokenFact"), .ref (He.ga K "NotWhole")],
  [.ref (He.ga K "CannotCut"), .ref (He.ga K "IsCrossed"), .ref (He.ga K "NothingToUndo")],
  [.ref (He.ga K "CommandFailed"), .ref (He.ga K "TooMany")],
  [.ref (He.ga K "AnyshapeError"), .ref (He.ga K "MissingError")],
  [.ref (He.ga K "StateError"), .ref (He.ga K "LimitError")],
  [.ty "ValueError", .ty "LookupError"]]
def trl (K : PySem.W.Frag) : List V := [.ty "RuntimeError", .ty "ArithmeticError"]
def own : List Str := (["InvalidName", "InvalidNames", "InvalidSize", "InvalidSizes", "InvalidCount", "InvalidNumber", "InvalidNumbers", "InvalidPoint", "InvalidPoints", "InvalidText", "InvalidFacts", "InvalidGoal", "InvalidCone", "InvalidInputs", "InvalidLine", "InvalidProgram", "InvalidTerm", "InvalidTerms", "InvalidWord", "InvalidPosition", "InvalidPositions", "InvalidIndex", "InvalidContents", "InvalidMeanings", "InvalidDigits", "OtherInputs", "InvalidAnswer", "InvalidQuestion", "InvalidCommand", "UnknownArray", "UnknownName", "UnknownFact", "DoesNotRun", "BrokenFact", "NotWhole", "CannotCut", "IsCrossed", "NothingToUndo", "CommandFailed", "TooMany", "AnyshapeError", "MissingError", "StateError", "LimitError"] : List String).map Str.ofString
theorem pl_eq : pl0 ++ pls.flatten = xs := by kernel_rfl
theorem nd_eq : nd0 ++ nds.flatten = xs := by kernel_rfl
def cvV (K : PySem.W.Frag) : List V := tr0 K ++ (trs K).flatten ++ trl K
def toU : V → Value
  | .ref a => .ref a
  | .ty n => .type n
  | _ => .none
/-- the class that is asked of is one -/
def isCls : V → Bool
  | .ref _ => true
  | .ty _ => true
  | _ => false
theorem clsV_of {c : V} (h : isCls c = true) : ClsV c (toU c) := by
  cases c <;> first | exact ClsV.own _ | exact ClsV.ty _ | cases h
def fam (k : Nat) : Nat := (if 28 < k then 1 else 0) + (if 31 < k then 1 else 0) + (if 38 < k then 1 else 0)
def rowB (k : Nat) : List Bool := (List.range 40).map (· == k) ++ ((List.range 4).map (· == fam k) ++ (List.range 4).map (· == fam k))
/-- what the head tells of the classes -/
structure KF (K : PySem.W.Frag) : Prop where
  ex : ∀ p ∈ xs, ExcC K (p.1.C K) p.1.b
  no : ∀ p ∈ xs, ∀ f ∈ p.1.fs, PySem.W.findIn K (.ref (p.1.C K)) f = some none
  is : ∀ k p, xs[k]? = some p → (cvV K).map (fun c => PySem.W.kitOne K (.ref (p.1.C K)) (toU c)) = (rowB k).map some

/-! ### made exceptions -/
def nmA : List Nat → TA
  | [] => tNil
  | i :: r => tCons (tNm i) (nmA r)
def vAt (a b c : V) : Nat → V
  | 0 => a
  | 1 => b
  | _ => c
def spc (K : PySem.W.Frag) (a b c : V) (it : XC × List Nat) : Addr × List (Str × V) := (it.1.C K, it.1.fs.zip (it.2.map (vAt a b c)))
def AxX (H : Hp) (v : V) (s : Addr × List (Str × V)) : Prop := ∃ e, v = .ref e ∧ IsX H e s.1 s.2
theorem AxX.up {H H' : Hp} {v : V} {s : Addr × List (Str × V)} (x : Ext H H') (h : AxX H v s) : AxX H' v s := by
  obtain ⟨e, h1, h2⟩ := h
  exact ⟨e, h1, h2.ext x⟩
/-- the slots 0, 1, 2 hold a, b, c -/
def Abc (a b c : V) (σ : St) : Prop := ∀ i, i < 3 → sl σ i = some (vAt a b c i)
theorem nmA_ok {a b c : V} {σ : St} {H : Hp} (hs : Abc a b c σ) : ∀ {ix : List Nat} {R : List V → Hp → Prop}, (∀ i ∈ ix, i < 3) → R (ix.map (vAt a b c)) H → nmA ix σ H R
  | [], R, _, q => q
  | i :: r, R, h, q => by
    show tNm i σ H fun x H1 => nmA r σ H1 fun ws H2 => R (x :: ws) H2
    exact tNm_at (hs i (h i List.mem_cons_self)) (nmA_ok hs (fun j hj => h j (List.mem_cons_of_mem _ hj)) q)
def mkP (K : PySem.W.Frag) (E : XK) (it : XC × List Nat) : TE := tCl (sp_mk (it.1.C K) it.1.fs) (wD E) (nmA it.2)
def mkW (K : PySem.W.Frag) (E : XK) (it : XC × List Nat) : TE := match it.2 with
  | [] => tCl (sp_mk (it.1.C K) it.1.fs) (wD E) tNil
  | i :: r => tClK (sp_mkK (it.1.C K) it.1.fs List.reverse) (wD E) tNil (nmA (i :: r).reverse)
theorem xs_fit : (xs.all fun it => it.2.length == it.1.fs.length && it.2.all (· < 3)) = true := by decide +kernel
theorem fit {it : XC × List Nat} (h : it ∈ xs) : it.2.length = it.1.fs.length ∧ ∀ i ∈ it.2, i < 3 := by
  obtain ⟨h1, h2⟩ := b2 (List.all_eq_true.mp xs_fit it h)
  exact ⟨by simpa using h1, fun i hi => by simpa using List.all_eq_true.mp h2 i hi⟩
/-- a piece that makes the exception it -/
def Makes (K : PySem.W.Frag) (a b c : V) (mk : XC × List Nat → TE) : Prop := ∀ it ∈ xs, ∀ (σ : St) (H : Hp), Abc a b c σ → ∀ Q : VK, (∀ v H', Ext H H' → AxX H' v (spc K a b c it) → Q v H') → mk it σ H Q
theorem mkP_ok {K : PySem.W.Frag} {E : XK} {a b c : V} : Makes K a b c (mkP K E) := fun it hi σ H hs Q q => by
  obtain ⟨f1, f2⟩ := fit hi
  refine nmA_ok hs f2 ⟨by rw [List.length_map]; exact f1, fun e H' _ x i => q _ H' x ⟨e, rfl, i⟩⟩
theorem mkW_ok {K : PySem.W.Frag} {E : XK} {a b c : V} : Makes K a b c (mkW K E) := fun it hi σ H hs Q q => by
  obtain ⟨f1, f2⟩ := fit hi
  obtain ⟨x, ix⟩ := it
  cases ix with
  | nil => exact ⟨f1, fun e' H' _ x i => q _ H' x ⟨e', rfl, i⟩⟩
  | cons j r =>
    show nmA (j :: r).reverse σ H fun zs H2 => sp_mkK (x.C K) x.fs List.reverse [] zs H2 Q _
    refine nmA_ok hs (fun i hi => f2 i (List.mem_reverse.mp hi)) ⟨rfl, ?_, ?_⟩
    · rw [List.length_map, List.length_reverse]; exact f1
    · rw [← List.map_reverse, List.reverse_reverse]
      exact ⟨by rw [List.length_map]; exact f1, fun e' H' _ x i => q _ H' x ⟨e', rfl, i⟩⟩
def t_make (K : PySem.W.Frag) (mk : XC × List Nat → TE) (c0 : List (XC × List Nat)) (cs : List (List (XC × List Nat))) : TS :=
  tSeq (tAsg (tLst (lstA (c0.map mk))) (gName 3)) (tCat K 3 (cs.map fun c => tLst (lstA (c.map mk))) (tRet (tNm 3)))
def sp_placed (K : PySem.W.Frag) : Sp := fun vs H Q _ => ∃ a b c, vs = [a, b, c] ∧ ∀ m es H', Ext H H' → H' m = some (.lst es) → All2 (AxX H') es (xs.map (spc K a b c)) → Q (.ref m) H'
theorem small : 100 ≤ sizeLine := by rw [sizeLine_eq]; decide
theorem gv_mk {K : PySem.W.Frag} {a b c : V} {mk : XC × List Nat → TE} (hm : Makes K a b c mk) {σ : St} {H : Hp} (hs : Abc a b c σ) {l : List (XC × List Nat)} (hl : ∀ it ∈ l, it ∈ xs) (hz : l.length ≤ 40) : GvL AxX (tLst (lstA (l.map mk))) σ H (l.map (spc K a b c)) := by
  have h := gvA_all (Ax := AxX) (σ := σ) (H0 := H) AxX.up (l.map fun it => (mk it, spc K a b c it)) H Ext.refl fun t ht H' x Q q => by
    obtain ⟨it, hi, rfl⟩ := List.mem_map.mp ht
    exact hm it (hl it hi) σ H' hs Q q
  rw [List.map_map, List.map_map] at h
  have sm := small
  exact gvL_lst h (by rw [List.length_map]; omega) AxX.up
theorem len_fl {α : Type} {l : List α} : ∀ {cs : List (List α)}, l ∈ cs → l.length ≤ cs.flatten.length
  | c :: cs, h => by
    rw [List.flatten_cons, List.length_append]
    rcases List.mem_cons.mp h with rfl | h
    · omega
    · have := len_fl h
      omega
theorem pure_make (K : PySem.W.Frag) (mk : V → V → V → XC × List Nat → TE) (c0 : List (XC × List Nat)) (cs : List (List (XC × List Nat))) (he : c0 ++ cs.flatten = xs) {E : XK} {m : XC × List Nat → TE} (hm : ∀ a b c, Makes K a b c m) (vs : List V) (H : Hp) (Q : VK) (h : sp_placed K vs H Q E) (N : List Str) (hN : ∀ a b c : V, start N [a, b, c] = [some a, some b, some c, none]) :
    t_make K m c0 cs { nx := fun _ H' => Q .non H', rt := Q } (start N vs) H := by
  obtain ⟨a, b, c, rfl, k⟩ := h
  rw [hN]
  have mem0 : ∀ it ∈ c0, it ∈ xs := fun it hi => by rw [← he]; exact List.mem_append_left _ hi
  have mem1 : ∀ l ∈ cs, ∀ it ∈ l, it ∈ xs := fun l hl it hi => by rw [← he]; exact List.mem_append_right _ (List.mem_flatten.mpr ⟨l, hl, hi⟩)
  have len : c0.length + cs.flatten.length = 40 := by rw [← List.length_append, he]; decide +kernel
  have abc : ∀ w : Option V, Abc a b c [some a, some b, some c, w] := fun w i hi => match i, hi with
    | 0, _ => rfl
    | 1, _ => rfl
    | 2, _ => rfl
  show tLst (lstA (c0.map m)) [some a, some b, some c, none] H fun v H1 => tCat K 3 (cs.map fun c => tLst (lstA (c.map m))) (tRet (tNm 3)) { nx := fun _ H' => Q .non H', rt := Q } ([some a, some b, some c, none].set 3 (some v)) H1
  refine gv_mk (hm a b c) (abc none) mem0 (by omega) _ fun p es H1 x1 hp r => ?_
  have sm := small
  have fl : ((cs.map fun l => ((tLst (lstA (l.map m)) : TE), l.map (spc K a b c))).flatMap (·.2)) = (cs.flatten).map (spc K a b c) := by
    rw [List.flatMap_map, List.map_flatten, List.flatMap_def]
  have h := cat_ok (K := K) (Ax := AxX) (σ := [some a, some b, some c, none]) (i := 3) (last := tRet (tNm 3)) (D := { nx := fun _ H' => Q .non H', rt := Q }) (H0 := H) AxX.up (by show 3 < 4; decide) (cs.map fun l => ((tLst (lstA (l.map m)) : TE), l.map (spc K a b c))) p H1 es (c0.map (spc K a b c)) x1 hp r
    (fun q hq p' H' x' => by
      obtain ⟨l, hl, rfl⟩ := List.mem_map.mp hq
      have ll := len_fl hl
      exact gv_mk (hm a b c) (abc _) (mem1 l hl) (by omega)) (by rw [fl, List.length_map, List.length_map]; omega) (fun p' H' es' x' hp' r' => ?_)
  · rw [List.map_map] at h
    exact h
  · rw [fl, ← List.map_append, he] at r'
    exact k p' es' H' x' hp' r'
end AS.K16

set_option Elab.async false
set_option linter.all false
set_option maxRecDepth 100000
set_option maxHeartbeats 400000
namespace AS.K16
open PySem PySem.Spec PyProof.Rows L2
abbrev spIsi (K : PySem.W.Frag) : Sp := fun vs H Q _ => rIsiG K vs H Q
abbrev spRepr (K : PySem.W.Frag) : Sp := fun vs H Q _ => rRepr K vs H Q
abbrev spAll (K : PySem.W.Frag) : Sp := fun vs H Q _ => rAll K vs H Q

/-! ### _law_truths -/
def isT (K : PySem.W.Frag) (E : XK) (c : V) : TE := tCl (spIsi K) (wD E) (tCons (tNm 0) (tCons (tC c) tNil))
def t_truths (K : PySem.W.Frag) (E : XK) : TS := tSeq (tAsg (tLst (lstA ((tr0 K).map (isT K E)))) (gName 1)) (tCat K 1 ((trs K).map fun c => tLst (lstA (c.map (isT K E)))) (tRet (tOp (addR K) (tNm 1) (tLst (lstA ((trl K).map (isT K E)))))))
def sp_truths (K : PySem.W.Frag) : Sp := fun vs H Q _ => ∃ e k it l, vs = [.ref e] ∧ xs[k]? = some it ∧ IsX H e (it.1.C K) l ∧ ∀ p H', Ext H H' → H' p = some (.lst ((rowB k).map V.bl)) → Q (.ref p) H'
theorem cls_all (K : PySem.W.Frag) : (cvV K).all isCls = true := by kernel_rfl
def AxB (_ : Hp) (v : V) (b : Bool) : Prop := v = .bl b
theorem AxB.up {H H' : Hp} {v : V} {b : Bool} (_ : Ext H H') (h : AxB H v b) : AxB H' v b := h
theorem map_some {α β : Type} {f : α → Option β} {d : β} : ∀ {cs : List α} {bs : List β}, cs.map f = bs.map some → cs.map (fun c => (f c).getD d) = bs ∧ ∀ c ∈ cs, f c = some ((f c).getD d)
  | [], [], _ => ⟨rfl, fun c h => nomatch h⟩
  | [], _ :: _, h => by cases h
  | _ :: _, [], h => by cases h
  | c :: cs, b :: bs, h => by
    injection h with h1 h2
    obtain ⟨i1, i2⟩ := map_some (f := f) (d := d) h2
    refine ⟨by rw [List.map_cons, i1, h1]; rfl, fun y hy => ?_⟩
    rcases List.mem_cons.mp hy with rfl | hy
    · rw [h1]; rfl
    · exact i2 y hy
theorem gv_is {K : PySem.W.Frag} {E : XK} {σ : St} {H : Hp} {g : V → Bool} {l : List V} (hz : l.length ≤ 48) (h : ∀ c ∈ l, ∀ (H' : Hp) (Q : VK), Ext H H' → Q (.bl (g c)) H' → isT K E c σ H' Q) : GvL AxB (tLst (lstA (l.map (isT K E)))) σ H (l.map g) := by
  have k := gvA_all (Ax := AxB) (σ := σ) (H0 := H) AxB.up (l.map fun c => (isT K E c, g c)) H Ext.refl fun t ht H' x Q q => by
    obtain ⟨c, hc, rfl⟩ := List.mem_map.mp ht
    exact h c hc H' Q x (q _ H' Ext.refl rfl)
  rw [List.map_map, List.map_map] at k
  have sm := small
  exact gvL_lst k (by rw [List.length_map]; omega) AxB.up
theorem pure_truths (K : PySem.W.Frag) (F : KF K) (vs : List V) (H : Hp) (Q : VK) (E : XK) (h : sp_truths K vs H Q E) : t_truths K E { nx := fun _ H' => Q .non H', rt := Q } (start ["_law_made", "_law_found"] vs) H := by
  obtain ⟨e, k, it, l, rfl, hk, hx, q⟩ := h
  have hi : it ∈ xs := List.mem_of_getElem? hk
  obtain ⟨g1, g2⟩ := map_some (d := false) (F.is k it hk)
  generalize hg : (fun c => (PySem.W.kitOne K (.ref (it.1.C K)) (toU c)).getD false) = g at g1
  have g2' : ∀ c ∈ cvV K, PySem.W.kitOne K (.ref (it.1.C K)) (toU c) = some (g c) := fun c hc => by rw [← hg]; exact g2 c hc
  have one : ∀ (w : Option V) (H' : Hp), Ext H H' → ∀ c ∈ cvV K, ∀ (H'' : Hp) (R : VK), Ext H' H'' → R (.bl (g c)) H'' → isT K E c [some (.ref e), w] H'' R := by
    intro w H' x' c hc H'' R x'' r
    have hx'' := hx.ext (x'.trans x'')
    have cl := clsV_of (List.all_eq_true.mp (cls_all K) c hc)
    refine .inr ?_
    rcases hx'' with ⟨_, e1⟩ | ⟨d, gs, e1, e2, _⟩
    · exact ⟨e, it.1.C K, none, it.1.b, c, toU c, g c, rfl, F.ex it hi, e1, cl, g2' c hc, (fun d' z => nomatch z), r⟩
    · exact ⟨e, it.1.C K, some d, it.1.b, c, toU c, g c, rfl, F.ex it hi, e1, cl, g2' c hc, (fun d' z => by cases z; exact ⟨gs, e2⟩), r⟩
  have m0 : ∀ c ∈ tr0 K, c ∈ cvV K := fun c hc => List.mem_append_left _ (List.mem_append_left _ hc)
  have m1 : ∀ l ∈ trs K, ∀ c ∈ l, c ∈ cvV K := fun l hl c hc => List.mem_append_left _ (List.mem_append_right _ (List.mem_flatten.mpr ⟨l, hl, hc⟩))
  have m2 : ∀ c ∈ trl K, c ∈ cvV K := fun c hc => List.mem_append_right _ hc
  have sm := small
  have ln : (cvV K).length = 48 := by kernel_rfl
  have ln2 : (tr0 K).length + (trs K).flatten.length + (trl K).length = 48 := by rw [← List.length_append, ← List.length_append]; exact ln
  have e0 : start ["_law_made", "_law_found"] [V.ref e] = [some (.ref e), none] := rfl
  rw [e0]
  unfold t_truths
  refine asg_i ?_
  refine gv_is (g := g) (by omega) (fun c hc => one none H Ext.refl c (m0 c hc)) _ fun p es H1 x1 hp r => ?_
  refine name_i ?_
  have fl : (((trs K).map fun l => ((tLst (lstA (l.map (isT K E))) : TE), l.map g)).flatMap (·.2)) = ((trs K).flatten).map g := by
    rw [List.flatMap_map, List.map_flatten, List.flatMap_def]
  have h := cat_ok (K := K) (Ax := AxB) (σ := [some (.ref e), none]) (i := 1) (last := tRet (tOp (addR K) (tNm 1) (tLst (lstA ((trl K).map (isT K E)))))) (D := { nx := fun _ H' => Q .non H', rt := Q }) (H0 := H) AxB.up (by show 1 < 2; decide) ((trs K).map fun l => ((tLst (lstA (l.map (isT K E))) : TE), l.map g)) p H1 es ((tr0 K).map g) x1 hp r
    (fun q hq p' H' x' => by
      obtain ⟨l, hl, rfl⟩ := List.mem_map.mp hq
      have ll := len_fl hl
      exact gv_is (by omega) fun c hc => one _ H' x' c (m1 l hl c hc)) (by rw [fl, List.length_map, List.length_map]; omega) (fun p' H' es' x' hp' r' => ?_)
  · rw [List.map_map] at h
    exact h
  · rw [fl, ← List.map_append] at r'
    refine ret_i ?_
    refine cat_one (Ax := AxB) (as := (trl K).map g) AxB.up rfl hp' r' (by rw [List.length_map, List.length_map, List.length_append]; omega) (gv_is (by omega) fun c hc => one _ H' x' c (m2 c hc)) fun p2 H2 vs2 x2 hp2 r2 => ?_
    rw [← List.map_append] at r2
    have e2 : vs2 = (rowB k).map V.bl := by
      rw [← g1]
      exact r2.eq_map
    rw [e2] at hp2
    exact q p2 H2 (x'.trans x2) hp2

/-! ### _law_fields -/
def AxD (K : PySem.W.Frag) (H : Hp) (v : V) (d : PyData) : Prop := Dt K H v d
theorem AxD.up {K : PySem.W.Frag} {H H' : Hp} {v : V} {d : PyData} (x : Ext H H') (h : AxD K H v d) : AxD K H' v d := Dt.ext x h
def atT (K : PySem.W.Frag) (W : WX) (f : Str) (te : TE) : TE := tAtt (rAttX K f) W te
def lcF (K : PySem.W.Frag) (f : Str) (ix : List Nat) : TE := tLc (iAny K (tLst (lstA (ix.map fun i => tC (.int (i : Nat)))))) (gName 3) tYes (tAtt (rAttX K f) w0 (tOp (idxT K) (tNm 0) (tNm 3))) [3]
def prF (K : PySem.W.Frag) (E : XK) (i : Nat) (f g : Str) : TE := tLst (tCons (tLst (tCons (tAtt (rAttX K f) (wD E) (tOp (idxT K) (tNm 0) (tC (.int (i : Nat))))) (tCons (tAtt (rAttX K g) (wD E) (tOp (idxT K) (tNm 0) (tC (.int (i : Nat))))) tNil))) tNil)
def t_fields3 (K : PySem.W.Frag) (E : XK) : TS := tRet (tOp (addR K) (tNm 1) (tLst (tCons (tLst (tCons (tAtt (rAttX K "line") (wD E) (tNm 2)) (tCons (tAtt (rAttX K "cut") (wD E) (tNm 2)) (tCons (tAtt (rAttX K "other") (wD E) (tNm 2)) tNil)))) tNil)))
def t_fields2 (K : PySem.W.Frag) (E : XK) : TS := tSeq (tAsg (tOp (idxT K) (tNm 0) (tC (.int 36))) (gName 2)) (t_fields3 K E)
def t_fields (K : PySem.W.Frag) (E : XK) : TS := tSeq (tAsg (lcF K "value" [0, 2, 4, 5, 6, 7, 11, 12, 15, 16, 18, 19, 20, 21, 26, 27, 28, 31]) (gName 1)) (tCat K 1 [lcF K "position" [1, 3, 8, 10, 13, 14, 17, 24, 25, 33], lcF K "line" [9, 32], lcF K "name" [22, 29, 30], lcF K "letter" [23], lcF K "size" [34], prF K E 35 "cut" "other", prF K E 38 "position" "results", prF K E 39 "kind" "limit"] (t_fields2 K E))
def dueD (da db dc : PyData) : List PyData := List.replicate 35 da ++ List.replicate 3 (.list [da, db]) ++ [.list [da, db, dc]]
def sp_fields (K : PySem.W.Frag) : Sp := fun vs H Q _ => ∃ m es a b c da db dc, vs = [.ref m] ∧ H m = some (.lst es) ∧ All2 (AxX H) es (xs.map (spc K a b c)) ∧ Dt K H a da ∧ Dt K H b db ∧ Dt K H c dc ∧ ∀ p H', Ext H H' → Dt K H' (.ref p) (.list (dueD da db dc)) → Q (.ref p) H'
theorem ex_at {K : PySem.W.Frag} {H : Hp} {es : List V} {a b c : V} (r : All2 (AxX H) es (xs.map (spc K a b c))) {i : Nat} {it : XC × List Nat} (h : xs[i]? = some it) : ∃ e, es[i]? = some (.ref e) ∧ IsX H e (it.1.C K) (it.1.fs.zip (it.2.map (vAt a b c))) := by
  obtain ⟨v, e1, e, rfl, hx⟩ := r.at_ (i := i) (a := spc K a b c it) (by rw [List.getElem?_map, h]; rfl)
  exact ⟨e, e1, hx⟩
theorem att_of {K : PySem.W.Frag} (F : KF K) {it : XC × List Nat} (hi : it ∈ xs) {H : Hp} {e : Addr} {l : List (Str × V)} {f : Str} {v : V} (hx : IsX H e (it.1.C K) l) (hp : (f, v) ∈ l) (hf : f ∈ it.1.fs) {Q : VK} {E : XK} (q : Q v H) : rAttX K f (.ref e) H Q E := by
  rcases hx with ⟨z, _⟩ | ⟨d, gs, e1, e2, e3⟩
  · rw [z] at hp
    cases hp
  · unfold rAttX
    exact ⟨e, it.1.C K, d, it.1.b, gs, v, rfl, F.ex it hi, F.no it hi f hf, e1, e2, e3 _ hp, q⟩
/-- the field f is the one field of these -/
def onlyB (f : Str) (ix : List Nat) : Bool := ix.all fun i => match xs[i]? with
  | some it => it.1.fs == [f] && it.2 == [0]
  | none => false
theorem only_of {f : Str} {ix : List Nat} (h : onlyB f ix = true) {i : Nat} (hi : i ∈ ix) : ∃ it, xs[i]? = some it ∧ it.1.fs = [f] ∧ it.2 = [0] := by
  have z := List.all_eq_true.mp h i hi
  cases q : xs[i]? with
  | none => rw [q] at z; cases z
  | some it =>
    rw [q] at z
    obtain ⟨z1, z2⟩ := b2 z
    exact ⟨it, rfl, by simpa using z1, by simpa using z2⟩
theorem consts_ok {σ : St} {H : Hp} : ∀ {ix : List Nat} {R : List V → Hp → Prop}, R (ix.map fun i => V.int (i : Nat)) H → lstA (ix.map fun i => tC (.int (i : Nat))) σ H R
  | [], _, q => q
  | i :: r, R, q => by
    show lstA (r.map fun i => tC (.int (i : Nat))) σ H fun vs H' => R (.int (i : Nat) :: vs) H'
    exact consts_ok q
theorem gv_lcF {K : PySem.W.Frag} (F : KF K) {f : Str} {ix : List Nat} (ho : onlyB f ix = true) (hz : ix.length ≤ 40) {m : Addr} {w u : Option V} {H : Hp} {es : List V} {a b c : V} {da : PyData} (hm : H m = some (.lst es)) (r : All2 (AxX H) es (xs.map (spc K a b c))) (ha : Dt K H a da) :
    GvL (AxD K) (lcF K f ix) [some (.ref m), w, u, none] H (List.replicate ix.length da) := by
  have sm := small
  refine gvL_lc (ix.map fun i => V.int (i : Nat)) (List.replicate ix.length a) (by rw [List.length_replicate, List.length_map]) (by rw [List.length_map]; omega) (fun Q q => ?_) (fun i x y H' R hx hy x' k => ?_) fun H' x' => All2.rep (Dt.ext x' ha) _
  · refine consts_ok ⟨by rw [List.length_map]; omega, fun p hp => q p _ (Ext.refl.new hp) (SqL.of upd_same)⟩
  · rw [List.getElem?_map] at hx
    cases q : ix[i]? with
    | none => rw [q] at hx; cases hx
    | some j =>
      rw [q] at hx
      have hx : V.int (j : Nat) = x := Option.some.inj hx
      subst hx
      have hy : a = y := by
        have z := List.eq_of_mem_replicate (List.mem_of_getElem? hy)
        exact z.symm
      subst hy
      obtain ⟨it, e1, e2, e3⟩ := only_of ho (List.mem_of_getElem? q)
      obtain ⟨e, h1, h2⟩ := ex_at (r.imp fun v s => AxX.up x') e1
      refine idx_lst (SqL.of (x' _ _ hm)) (v := .ref e) (atI_nat h1) ?_
      rw [e2, e3] at h2
      exact att_of F (List.mem_of_getElem? e1) h2 List.mem_cons_self (by rw [e2]; exact List.mem_cons_self) (k H' Ext.refl)
theorem gv_prF {K : PySem.W.Frag} (F : KF K) {E : XK} {i : Nat} {f g : Str} {it : XC × List Nat} (e1 : xs[i]? = some it) (e2 : it.1.fs = [f, g]) (e3 : it.2 = [0, 1]) {m : Addr} {w u z : Option V} {H : Hp} {es : List V} {a b c : V} {da db : PyData} (hm : H m = some (.lst es)) (r : All2 (AxX H) es (xs.map (spc K a b c))) (ha : Dt K H a da) (hb : Dt K H b db) :
    GvL (AxD K) (prF K E i f g) [some (.ref m), w, u, z] H [.list [da, db]] := fun Q q => by
  have sm := small
  obtain ⟨e, h1, h2⟩ := ex_at r e1
  have hi := List.mem_of_getElem? e1
  rw [e2, e3] at h2
  refine idx_lst (SqL.of hm) (v := .ref e) (atI_nat h1) ?_
  refine att_of F hi h2 List.mem_cons_self (by rw [e2]; exact List.mem_cons_self) ?_
  refine idx_lst (SqL.of hm) (v := .ref e) (atI_nat h1) ?_
  refine att_of F hi h2 (List.mem_cons_of_mem _ List.mem_cons_self) (by rw [e2]; exact List.mem_cons_of_mem _ List.mem_cons_self) ?_
  refine ⟨by show 2 ≤ sizeLine; omega, fun p hp => ?_⟩
  refine ⟨by show 1 ≤ sizeLine; omega, fun p' hp' => ?_⟩
  have x1 : Ext H (upd H p (.lst [vAt a b c 0, vAt a b c 1])) := Ext.refl.new hp
  have x2 := x1.new (o := .lst [.ref p]) hp'
  refine q p' _ _ x2 upd_same (.cons (.lst (SqL.of (xs := [a, b]) ?_) (.cons (Dt.ext x2 ha) (.cons (Dt.ext x2 hb) .nil))) .nil)
  have y : Ext (upd H p (.lst [vAt a b c 0, vAt a b c 1])) (upd (upd H p (.lst [vAt a b c 0, vAt a b c 1])) p' (.lst [.ref p])) := Ext.refl.new hp'
  exact y _ _ upd_same
theorem fields_end {K : PySem.W.Frag} (F : KF K) {E : XK} {H : Hp} {Q : VK} {m p' : Addr} {es vs' : List V} {a b c : V} {da db dc : PyData} {as0 : List PyData} (hm : H m = some (.lst es)) (r : All2 (AxX H) es (xs.map (spc K a b c))) (ha : Dt K H a da) (hb : Dt K H b db) (hc : Dt K H c dc) (hp' : H p' = some (.lst vs')) (r' : All2 (AxD K H) vs' as0) (hz : as0.length ≤ 50)
    (k : ∀ p H', Ext H H' → Dt K H' (.ref p) (.list (as0 ++ [.list [da, db, dc]])) → Q (.ref p) H') : t_fields2 K E { nx := fun _ H' => Q .non H', rt := Q } [some (.ref m), some (.ref p'), none, none] H := by
  have sm := small
  obtain ⟨e, h1, h2⟩ := ex_at r (i := 36) (it := (x_IsCrossed, [0, 1, 2])) rfl
  have hi : ((x_IsCrossed, [0, 1, 2]) : XC × List Nat) ∈ xs := List.mem_of_getElem? (i := 36) rfl
  have h3 : IsX H e (x_IsCrossed.C K) [("line", a), ("cut", b), ("other", c)] := h2
  unfold t_fields2
  refine asg_i ?_
  refine op_i (nm_i rfl (c_i ?_))
  refine idx_lst (SqL.of hm) (v := .ref e) (atI_nat (j := 36) h1) ?_
  refine name_i ?_
  unfold t_fields3
  refine ret_i ?_
  show tOp (addR K) (tNm 1) (tLst (tCons (tLst (tCons (tAtt (rAttX K "line") (wD E) (tNm 2)) (tCons (tAtt (rAttX K "cut") (wD E) (tNm 2)) (tCons (tAtt (rAttX K "other") (wD E) (tNm 2)) tNil)))) tNil)) [some (.ref m), some (.ref p'), some (.ref e), none] H Q
  refine cat_one (Ax := AxD K) (as := [.list [da, db, dc]]) (p := p') AxD.up rfl hp' r' (by show as0.length + 1 ≤ sizeLine; omega) (fun Q q => ?_) fun p2 H2 vs2 x2 hp2 r2 => ?_
  · refine att_of F hi h3 (f := "line") (v := a) List.mem_cons_self List.mem_cons_self ?_
    refine att_of F hi h3 (f := "cut") (v := b) (List.mem_cons_of_mem _ List.mem_cons_self) (List.mem_cons_of_mem _ List.mem_cons_self) ?_
    refine att_of F hi h3 (f := "other") (v := c) (List.mem_cons_of_mem _ (List.mem_cons_of_mem _ List.mem_cons_self)) (List.mem_cons_of_mem _ (List.mem_cons_of_mem _ List.mem_cons_self)) ?_
    refine ⟨by show 3 ≤ sizeLine; omega, fun p3 hp3 => ?_⟩
    refine ⟨by show 1 ≤ sizeLine; omega, fun p4 hp4 => ?_⟩
    have x1 : Ext H (upd H p3 (.lst [a, b, c])) := Ext.refl.new hp3
    have y : Ext (upd H p3 (.lst [a, b, c])) (upd (upd H p3 (.lst [a, b, c])) p4 (.lst [.ref p3])) := Ext.refl.new hp4
    have x2 := x1.trans y
    exact q p4 _ _ x2 upd_same (.cons (.lst (SqL.of (xs := [a, b, c]) (y _ _ upd_same)) (.cons (Dt.ext x2 ha) (.cons (Dt.ext x2 hb) (.cons (Dt.ext x2 hc) .nil)))) .nil)
  · exact k p2 H2 x2 (.lst (SqL.of hp2) (All2.dts r2))
def fcs (K : PySem.W.Frag) (E : XK) (da db : PyData) : List (TE × List PyData) := [(lcF K "position" [1, 3, 8, 10, 13, 14, 17, 24, 25, 33], List.replicate 10 da), (lcF K "line" [9, 32], List.replicate 2 da), (lcF K "name" [22, 29, 30], List.replicate 3 da), (lcF K "letter" [23], List.replicate 1 da), (lcF K "size" [34], List.replicate 1 da), (prF K E 35 "cut" "other", [.list [da, db]]), (prF K E 38 "position" "results", [.list [da, db]]), (prF K E 39 "kind" "limit", [.list [da, db]])]
theorem fcs_sum (K : PySem.W.Frag) (E : XK) (da db dc : PyData) : (List.replicate 18 da ++ (fcs K E da db).flatMap (·.2)) ++ [.list [da, db, dc]] = dueD da db dc := by kernel_rfl
theorem fcs_len (K : PySem.W.Frag) (E : XK) (da db : PyData) : ((fcs K E da db).flatMap (·.2)).length = 20 := by kernel_rfl
theorem pure_fields (K : PySem.W.Frag) (F : KF K) (vs : List V) (H : Hp) (Q : VK) (E : XK) (h : sp_fields K vs H Q E) : t_fields K E { nx := fun _ H' => Q .non H', rt := Q } (start ["_law_made", "_law_found", "_law_last", "_law_at"] vs) H := by
  obtain ⟨m, es, a, b, c, da, db, dc, rfl, hm, r, ha, hb, hc, k⟩ := h
  have sm := small
  have e0 : start ["_law_made", "_law_found", "_law_last", "_law_at"] [V.ref m] = [some (.ref m), none, none, none] := rfl
  rw [e0]
  unfold t_fields
  refine asg_i ?_
  refine gv_lcF F (by decide +kernel) (by decide) hm r ha _ fun p ws H1 x1 hp r1 => ?_
  refine name_i ?_
  have e1 : [lcF K "position" [1, 3, 8, 10, 13, 14, 17, 24, 25, 33], lcF K "line" [9, 32], lcF K "name" [22, 29, 30], lcF K "letter" [23], lcF K "size" [34], prF K E 35 "cut" "other", prF K E 38 "position" "results", prF K E 39 "kind" "limit"] = (fcs K E da db).map (·.1) := rfl
  rw [e1]
  have r1 : All2 (AxD K H1) ws (List.replicate 18 da) := r1
  refine cat_ok (K := K) (Ax := AxD K) (σ := [some (.ref m), none, none, none]) (i := 1) (H0 := H) AxD.up (by show 1 < 4; decide) (fcs K E da db) p H1 ws (List.replicate 18 da) x1 hp r1 ?_ ?_ ?_
  · intro q hq p' H' x'
    have hm' := x' _ _ hm
    have r' : All2 (AxX H') es (xs.map (spc K a b c)) := r.imp fun v s => AxX.up x'
    have ha' := Dt.ext x' ha
    have hb' := Dt.ext x' hb
    unfold fcs at hq
    simp only [List.mem_cons, List.not_mem_nil, or_false] at hq
    rcases hq with rfl | rfl | rfl | rfl | rfl | rfl | rfl | rfl
    · exact gv_lcF F (by decide +kernel) (by decide) hm' r' ha'
    · exact gv_lcF F (by decide +kernel) (by decide) hm' r' ha'
    · exact gv_lcF F (by decide +kernel) (by decide) hm' r' ha'
    · exact gv_lcF F (by decide +kernel) (by decide) hm' r' ha'
    · exact gv_lcF F (by decide +kernel) (by decide) hm' r' ha'
    · exact gv_prF F (it := (x_CannotCut, [0, 1])) rfl rfl rfl hm' r' ha' hb'
    · exact gv_prF F (it := (x_CommandFailed, [0, 1])) rfl rfl rfl hm' r' ha' hb'
    · exact gv_prF F (it := (x_TooMany, [0, 1])) rfl rfl rfl hm' r' ha' hb'
  · rw [fcs_len, List.length_replicate]
    omega
  · intro p' H' vs' x' hp' r'
    refine fields_end F (x' _ _ hm) (r.imp fun v s => AxX.up x') (Dt.ext x' ha) (Dt.ext x' hb) (Dt.ext x' hc) hp' r' (by rw [List.length_append, fcs_len, List.length_replicate]; decide) fun p2 H2 x2 d => ?_
    rw [fcs_sum] at d
    exact k p2 H2 (x'.trans x2) d
end AS.K16

set_option Elab.async false
set_option linter.all false
set_option maxRecDepth 100000
set_option maxHeartbeats 400000
namespace AS.K16
open PySem PySem.Spec PyProof.Rows L2

/-! ### _law_thing -/
def things : List PyData := [.none, .bool true, .int 0, .int (-1), .int (10 ^ 20), .str "", .str "ab", .tuple [], .tuple [.int 1, .list [.int 2]], .list [.int 1], .dict [(.str "a", .int 1)], .list [.none], .bool false, .int 1]
def t_thingL : TE := (tLst (tCons (tC .non) (tCons (tC (.bl true)) (tCons (tC (.int 0)) (tCons (tUn negR (tC (.int 1))) (tCons (tOp powR (tC (.int 10)) (tC (.int 20))) (tCons (tC (.str "")) (tCons (tC (.str "ab")) (tCons (tTup tNil) (tCons (tTup (tCons (tC (.int 1)) (tCons (tLst (tCons (tC (.int 2)) tNil)) tNil))) (tCons (tLst (tCons (tC (.int 1)) tNil)) (tCons (tDisp [((tC (.str "a")), (tC (.int 1)))]) (tCons (tLst (tCons (tC .non) tNil)) (tCons (tC (.bl false)) (tCons (tC (.int 1)) tNil)))))))))))))))
def t_thing (K : PySem.W.Frag) (E : XK) : TS := (tRet (tCl (sp_choice K) (wD E) (tCons (tNm 0) (tCons t_thingL tNil))))
def sp_thing (K : PySem.W.Frag) : Sp := fun vs H Q _ => ∃ r, vs = [.ref r] ∧ RngAt H r ∧ ∀ v d H', d ∈ things → Dt K (wo r H') v d → Mod1 r H H' → RngAt H' r → Q v H'
theorem wo_new {r p : Addr} {H : Hp} {o : HO} (hr : ∃ u, H r = some u) (hp : H p = none) : wo r (upd H p o) p = some o := by
  have n : p ≠ r := fun z => by
    obtain ⟨u, e⟩ := hr
    rw [← z, hp] at e
    cases e
  rw [wo_at n]
  exact upd_same
theorem thingL_ok (K : PySem.W.Frag) (r : Addr) (H : Hp) (Q : VK) (hr : ∃ u, H r = some u) (k : ∀ l H' xs, l ≠ r → Ext H H' → H' l = some (.lst xs) → Dts K (wo r H') xs things → Q (.ref l) H') : t_thingL [some (.ref r)] H Q := by
  have sm := small
  obtain ⟨u, hr⟩ := hr
  refine ⟨⟨by decide, by decide, by decide⟩, ?_⟩
  refine ⟨by show 0 ≤ sizeLine; omega, fun p1 h1 => ?_⟩
  refine ⟨by show 1 ≤ sizeLine; omega, fun p2 h2 => ?_⟩
  refine ⟨by show 2 ≤ sizeLine; omega, fun p3 h3 => ?_⟩
  refine ⟨by show 1 ≤ sizeLine; omega, fun p4 h4 => ?_⟩
  refine fun p5 h5 => ?_
  refine ⟨upd_same, [(.inr "a", .int 1)], rfl, by decide, ?_⟩
  generalize hX1 : upd H p1 (.tup []) = X1 at *
  have x1 : Ext H X1 := by rw [← hX1]; exact Ext.refl.new h1
  have f1 : X1 p1 = some (.tup []) := by rw [← hX1]; exact upd_same
  generalize hX2 : upd X1 p2 (.lst [.int 2]) = X2 at *
  have x2 : Ext X1 X2 := by rw [← hX2]; exact Ext.refl.new h2
  have f2 : X2 p2 = some (.lst [.int 2]) := by rw [← hX2]; exact upd_same
  generalize hX3 : upd X2 p3 (.tup [.int 1, .ref p2]) = X3 at *
  have x3 : Ext X2 X3 := by rw [← hX3]; exact Ext.refl.new h3
  have f3 : X3 p3 = some (.tup [.int 1, .ref p2]) := by rw [← hX3]; exact upd_same
  generalize hX4 : upd X3 p4 (.lst [.int 1]) = X4 at *
  have x4 : Ext X3 X4 := by rw [← hX4]; exact Ext.refl.new h4
  have f4 : X4 p4 = some (.lst [.int 1]) := by rw [← hX4]; exact upd_same
  have em : mergeK [] [((.inr "a" : Key), V.int 1)] = [((.inr "a" : Key), V.int 1)] := by rfl
  rw [em]
  generalize hX5 : upd (upd X4 p5 (.dK [])) p5 (.dK [((.inr "a" : Key), V.int 1)]) = X5 at *
  have x5 : Ext X4 X5 := by rw [← hX5]; exact (Ext.refl.new h5).put h5
  have f5 : X5 p5 = some (.dK [((.inr "a" : Key), V.int 1)]) := by rw [← hX5]; exact upd_same
  refine ⟨by show 1 ≤ sizeLine; omega, fun p6 h6 => ?_⟩
  generalize hX6 : upd X5 p6 (.lst [.non]) = X6 at *
  have x6 : Ext X5 X6 := by rw [← hX6]; exact Ext.refl.new h6
  have f6 : X6 p6 = some (.lst [.non]) := by rw [← hX6]; exact upd_same
  refine ⟨by show 14 ≤ sizeLine; omega, fun p7 h7 => ?_⟩
  have n7 : p7 ≠ r := fun z => by
    have e := x6 _ _ (x5 _ _ (x4 _ _ (x3 _ _ (x2 _ _ (x1 _ _ hr)))))
    rw [← z, h7] at e
    cases e
  refine k p7 _ _ n7 ((x1.trans (x2.trans (x3.trans (x4.trans (x5.trans x6))))).new h7) upd_same ?_
  generalize hX7 : upd X6 p7 _ = X7
  have x7 : Ext X6 X7 := by rw [← hX7]; exact Ext.refl.new h7
  have y6 := x7
  have y5 := x6.trans y6
  have y4 := x5.trans y5
  have y3 := x4.trans y4
  have y2 := x3.trans y3
  have y1 := x2.trans y2
  have ne : ∀ {X : Hp} {p : Addr}, Ext H X → X p = none → p ≠ r := fun {X p} x e z => by
    have q := x _ _ hr
    rw [← z, e] at q
    cases q
  have w1 : wo r X7 p1 = some (.tup []) := by rw [wo_at (ne Ext.refl h1)]; exact y1 _ _ f1
  have w2 : wo r X7 p2 = some (.lst [.int 2]) := by rw [wo_at (ne x1 h2)]; exact y2 _ _ f2
  have w3 : wo r X7 p3 = some (.tup [.int 1, .ref p2]) := by rw [wo_at (ne (x1.trans x2) h3)]; exact y3 _ _ f3
  have w4 : wo r X7 p4 = some (.lst [.int 1]) := by rw [wo_at (ne (x1.trans (x2.trans x3)) h4)]; exact y4 _ _ f4
  have w5 : wo r X7 p5 = some (.dK [((.inr "a" : Key), V.int 1)]) := by rw [wo_at (ne (x1.trans (x2.trans (x3.trans x4))) h5)]; exact y5 _ _ f5
  have w6 : wo r X7 p6 = some (.lst [.non]) := by rw [wo_at (ne (x1.trans (x2.trans (x3.trans (x4.trans x5)))) h6)]; exact y6 _ _ f6
  refine .cons .non (.cons (.bl true) (.cons (.int 0) (.cons (.int (-1)) (.cons (.int _) (.cons (.str "") (.cons (.str "ab") (.cons (.tup (SqT.of w1) .nil) (.cons (.tup (SqT.of w3) (.cons (.int 1) (.cons (.lst (SqL.of w2) (.cons (.int 2) .nil)) .nil)))
    (.cons (.lst (SqL.of w4) (.cons (.int 1) .nil)) (.cons (.dic (Rd.of w5) (.cons (.str "a") .nil) (.cons (.int 1) .nil)) (.cons (.lst (SqL.of w6) (.cons .non .nil)) (.cons (.bl false) (.cons (.int 1) .nil)))))))))))))
theorem pure_thing (K : PySem.W.Frag) (vs : List V) (H : Hp) (Q : VK) (E : XK) (h : sp_thing K vs H Q E) : t_thing K E { nx := fun _ H' => Q .non H', rt := Q } (start ["_law_rng_here"] vs) H := by
  obtain ⟨r, rfl, hr, k⟩ := h
  have e0 : start ["_law_rng_here"] [V.ref r] = [some (.ref r)] := rfl
  rw [e0]
  unfold t_thing
  refine ret_i (cl_i (cons_i (nm_i rfl (cons_i ?_))))
  obtain ⟨n0, n1, hr0, hr1⟩ := hr
  refine thingL_ok K r H _ ⟨_, hr0⟩ fun l H' xs nl x hl d => ?_
  refine nil_i ?_
  refine ⟨r, .ref l, rfl, ⟨n0, n1, x _ _ hr0, hr1⟩, .inl ⟨l, xs, rfl, nl, SqL.of hl, ?_, ?_, fun i v H2 hv r2 m2 => ?_⟩⟩
  · intro z
    rw [z] at d
    cases d
  · have len : ∀ {vs : List V} {ds : List PyData} {X : Hp}, Dts K X vs ds → vs.length = ds.length := fun {vs ds X} h => by
      induction vs generalizing ds with
      | nil => cases h; rfl
      | cons v vs ih => cases h with | cons _ t => exact congrArg (· + 1) (ih t)
    rw [len d]
    decide
  · obtain ⟨dd, hd, hv'⟩ := d.at_ hv
    exact k v dd H2 (List.mem_of_getElem? hd) (Dt.ext m2.wo hv') (Mod1.trans x.mod1 m2) r2
end AS.K16

set_option Elab.async false
set_option linter.all false
set_option maxRecDepth 100000
set_option maxHeartbeats 400000
namespace AS.K16
open PySem PySem.Spec PyProof.Rows L2
theorem small2 : 10000 ≤ sizeLine := by rw [sizeLine_eq]; decide
/-! ### _law_made_right -/
def bodyR (K : PySem.W.Frag) (E : XK) : TS := (tIfS (tTest (tOp (neR K) (tCl (sp_truths K) (wD E) (tCons (tNm 5) tNil)) (tNm 7))) (tRet (tC (.bl false))) tNext)
def dueT (K : PySem.W.Frag) : TE := (tOp (addR K) (tLc (iRng1 (tCons (tC (.int 40)) tNil)) (gName 8) tYes (tOp (eqR K) (tNm 8) (tNm 4)) [8]) (tOp mulR (tLc (iRng1 (tCons (tC (.int 4)) tNil)) (gName 8) tYes (tOp (eqR K) (tNm 8) (tNm 6)) [8]) (tC (.int 2))))
def famT (K : PySem.W.Frag) (E : XK) : TE := (tOp (addR K) (tOp (addR K) (tCl spInt (wD E) (tCons (tOp gtR (tNm 4) (tC (.int 28))) tNil)) (tCl spInt (wD E) (tCons (tOp gtR (tNm 4) (tC (.int 31))) tNil))) (tCl spInt (wD E) (tCons (tOp gtR (tNm 4) (tC (.int 38))) tNil)))
def loopR (K : PySem.W.Frag) (E : XK) : TS := (tFor (iEnum K (tCons (tNm 0) tNil)) (oG (gTup K 2 (gCons (gName 4) (gCons (gName 5) gNil))) (gLst K 2 (gCons (gName 4) (gCons (gName 5) gNil)))) (tSeq (tAsg (famT K E) (gName 6)) (tSeq (tAsg (dueT K) (gName 7)) (bodyR K E))))
def lastR (K : PySem.W.Frag) (E : XK) : TS := (tRet (tOp (eqR K) (tCl (spLen K) (wD E) (tCons (tNm 0) tNil)) (tC (.int 40))))
def wantT (K : PySem.W.Frag) : TE := (tOp (addR K) (tOp (addR K) (tOp mulR (tLst (tCons (tNm 1) tNil)) (tC (.int 35))) (tOp mulR (tLst (tCons (tLst (tCons (tNm 1) (tCons (tNm 2) tNil))) tNil)) (tC (.int 3)))) (tLst (tCons (tLst (tCons (tNm 1) (tCons (tNm 2) (tCons (tNm 3) tNil)))) tNil)))
def t_made_right (K : PySem.W.Frag) (E : XK) : TS := (tSeq (tIfS (tTest (tOp (neR K) (tCl (spRepr K) (wD E) (tCons (tCl (sp_fields K) (wD E) (tCons (tNm 0) tNil)) tNil)) (tCl (spRepr K) (wD E) (tCons (wantT K) tNil)))) (tRet (tC (.bl false))) tNext) (tSeq (loopR K E) (lastR K E)))
/-- the made list: the exceptions of a, b, c -/
structure Made (K : PySem.W.Frag) (H : Hp) (m : Addr) (a b c : V) : Prop where
  ex : ∃ es, H m = some (.lst es) ∧ All2 (AxX H) es (xs.map (spc K a b c))
theorem Made.up {K : PySem.W.Frag} {H H' : Hp} {m : Addr} {a b c : V} (x : Ext H H') (h : Made K H m a b c) : Made K H' m a b c := by
  obtain ⟨es, h1, h2⟩ := h.ex
  exact ⟨es, x _ _ h1, h2.imp fun v s => AxX.up x⟩
/-- data that may be shown -/
def DtS (K : PySem.W.Frag) (H : Hp) (v : V) (d : PyData) : Prop := Dt K H v d ∧ Shw d 3 40
def sp_made_right (K : PySem.W.Frag) : Sp := fun vs H Q _ => ∃ m a b c da db dc, vs = [.ref m, a, b, c] ∧ Made K H m a b c ∧ DtS K H a da ∧ DtS K H b db ∧ DtS K H c dc ∧ ∀ H', Ext H H' → Q (.bl true) H'
theorem dueD_shw {da db dc : PyData} (ha : Shw da 3 40) (hb : Shw db 3 40) (hc : Shw dc 3 40) : Shw (.list (dueD da db dc)) 5 6000 := by
  have l2 : Shw (.list [da, db]) 4 129 := by
    refine (Shw.list (ds := [da, db]) (n := 3) (B := 40) fun d hd => ?_).mono (by decide) (by show (40 + 2) * 2 + 3 ≤ 129; decide)
    simp only [List.mem_cons, List.not_mem_nil, or_false] at hd
    rcases hd with rfl | rfl <;> assumption
  have l3 : Shw (.list [da, db, dc]) 4 129 := by
    refine (Shw.list (ds := [da, db, dc]) (n := 3) (B := 40) fun d hd => ?_).mono (by decide) (by show (40 + 2) * 3 + 3 ≤ 129; decide)
    simp only [List.mem_cons, List.not_mem_nil, or_false] at hd
    rcases hd with rfl | rfl | rfl <;> assumption
  refine (Shw.list (ds := dueD da db dc) (n := 4) (B := 129) fun d hd => ?_).mono (by decide) (by show (129 + 2) * 39 + 3 ≤ 6000; decide)
  unfold dueD at hd
  rcases List.mem_append.mp hd with hd | hd
  · rcases List.mem_append.mp hd with hd | hd
    · rw [List.eq_of_mem_replicate hd]; exact ha.mono (by decide) (by decide)
    · rw [List.eq_of_mem_replicate hd]; exact l2
  · rw [List.mem_singleton.mp hd]; exact l3
theorem want_ok {K : PySem.W.Frag} {H : Hp} {Q : VK} {m : Addr} {a b c : V} {da db dc : PyData} {w4 w5 w6 w7 w8 : Option V} (ha : Dt K H a da) (hb : Dt K H b db) (hc : Dt K H c dc) (k : ∀ p H', Ext H H' → Dt K H' (.ref p) (.list (dueD da db dc)) → Q (.ref p) H') : wantT K [some (.ref m), some a, some b, some c, w4, w5, w6, w7, w8] H Q := by
  have sm := small
  refine op_i (op_i (op_i (lst_i (cons_i (nm_i rfl (nil_i ⟨by show 1 ≤ sizeLine; omega, fun p1 h1 => c_i ?_⟩))))))
  refine ⟨p1, 35, [a], rfl, rfl, upd_same, by decide, by decide, by show 1 * 35 ≤ sizeLine; omega, fun p2 h2 => ?_⟩
  refine op_i (lst_i (cons_i (lst_i (cons_i (nm_i rfl (cons_i (nm_i rfl (nil_i ⟨by show 2 ≤ sizeLine; omega, fun p3 h3 => nil_i ⟨by show 1 ≤ sizeLine; omega, fun p4 h4 => c_i ?_⟩⟩))))))))
  refine ⟨p4, 3, [.ref p3], rfl, rfl, upd_same, by decide, by decide, by show 1 * 3 ≤ sizeLine; omega, fun p5 h5 => ?_⟩
  generalize hX1 : upd H p1 (.lst [a]) = X1 at *
  have x1 : Ext H X1 := by rw [← hX1]; exact Ext.refl.new h1
  generalize hX2 : upd X1 p2 _ = X2 at *
  have x2 : Ext X1 X2 := by rw [← hX2]; exact Ext.refl.new h2
  have f2 : X2 p2 = some (.lst (List.replicate 35 a)) := by rw [← hX2]; exact upd_same
  generalize hX3 : upd X2 p3 (.lst [a, b]) = X3 at *
  have x3 : Ext X2 X3 := by rw [← hX3]; exact Ext.refl.new h3
  have f3 : X3 p3 = some (.lst [a, b]) := by rw [← hX3]; exact upd_same
  generalize hX4 : upd X3 p4 (.lst [.ref p3]) = X4 at *
  have x4 : Ext X3 X4 := by rw [← hX4]; exact Ext.refl.new h4
  generalize hX5 : upd X4 p5 _ = X5 at *
  have x5 : Ext X4 X5 := by rw [← hX5]; exact Ext.refl.new h5
  have f5 : X5 p5 = some (.lst (List.replicate 3 (.ref p3))) := by rw [← hX5]; exact upd_same
  have y3 := x4.trans x5
  have y2 := x3.trans y3
  refine .inl ⟨p2, p5, _, _, rfl, rfl, y2 _ _ f2, f5, by rw [List.length_replicate, List.length_replicate]; omega, fun p6 h6 => ?_⟩
  refine lst_i (cons_i (lst_i (cons_i (nm_i rfl (cons_i (nm_i rfl (cons_i (nm_i rfl (nil_i ⟨by show 3 ≤ sizeLine; omega, fun p7 h7 => nil_i ⟨by show 1 ≤ sizeLine; omega, fun p8 h8 => ?_⟩⟩)))))))))
  generalize hX6 : upd X5 p6 _ = X6 at *
  have x6 : Ext X5 X6 := by rw [← hX6]; exact Ext.refl.new h6
  have f6 : X6 p6 = some (.lst (List.replicate 35 a ++ List.replicate 3 (.ref p3))) := by rw [← hX6]; exact upd_same
  generalize hX7 : upd X6 p7 (.lst [a, b, c]) = X7 at *
  have x7 : Ext X6 X7 := by rw [← hX7]; exact Ext.refl.new h7
  have f7 : X7 p7 = some (.lst [a, b, c]) := by rw [← hX7]; exact upd_same
  generalize hX8 : upd X7 p8 (.lst [.ref p7]) = X8 at *
  have x8 : Ext X7 X8 := by rw [← hX8]; exact Ext.refl.new h8
  have f8 : X8 p8 = some (.lst [.ref p7]) := by rw [← hX8]; exact upd_same
  refine .inl ⟨p6, p8, _, _, rfl, rfl, (x7.trans x8) _ _ f6, f8, by rw [List.length_append, List.length_replicate, List.length_replicate]; show 35 + 3 + 1 ≤ sizeLine; omega, fun p9 h9 => ?_⟩
  have x9 : Ext X8 (upd X8 p9 (.lst (List.replicate 35 a ++ List.replicate 3 (.ref p3) ++ [.ref p7]))) := Ext.refl.new h9
  have xx : Ext H (upd X8 p9 (.lst (List.replicate 35 a ++ List.replicate 3 (.ref p3) ++ [.ref p7]))) := x1.trans (x2.trans (y2.trans (x6.trans (x7.trans (x8.trans x9)))))
  have ha' := Dt.ext xx ha
  have hb' := Dt.ext xx hb
  have hc' := Dt.ext xx hc
  have l2 : Dt K (upd X8 p9 (.lst (List.replicate 35 a ++ List.replicate 3 (.ref p3) ++ [.ref p7]))) (.ref p3) (.list [da, db]) := .lst (SqL.of ((y3.trans (x6.trans (x7.trans (x8.trans x9)))) _ _ f3)) (.cons ha' (.cons hb' .nil))
  have l3 : Dt K (upd X8 p9 (.lst (List.replicate 35 a ++ List.replicate 3 (.ref p3) ++ [.ref p7]))) (.ref p7) (.list [da, db, dc]) := .lst (SqL.of ((x8.trans x9) _ _ f7)) (.cons ha' (.cons hb' (.cons hc' .nil)))
  exact k p9 _ xx (.lst (SqL.of upd_same) (All2.dts (((All2.rep ha' 35).app (All2.rep l2 3)).app (.cons l3 .nil))))
/-! the loop -/
theorem dec_nat {i j : Nat} : decide (V.int (0 + (i : Int)) = V.int (j : Nat)) = (i == j) := by
  by_cases h : i = j
  · subst h
    rw [beq_self_eq_true]
    exact decide_eq_true (by rw [Int.zero_add])
  · rw [beq_eq_false_iff_ne.mpr h]
    exact decide_eq_false fun z => h (by injection z with z; omega)
theorem lc_eq {K : PySem.W.Frag} {n j : Nat} {s : Nat} {σ : St} {H : Hp} {Q : VK} (hz : n ≤ 40) (h8 : ∀ x : V, sl ((wipe σ [8]).set 8 (some x)) 8 = some x) (hs : ∀ x : V, sl ((wipe σ [8]).set 8 (some x)) s = some (.int (j : Nat))) (hn : ((n : Nat) : Int) < 2 ^ 62)
    (q : ∀ D H', Ext H H' → H' D = some (.lst (((List.range n).map (· == j)).map V.bl)) → Q (.ref D) H') : tLc (iRng1 (tCons (tC (.int (n : Nat))) tNil)) (gName 8) tYes (tOp (eqR K) (tNm 8) (tNm s)) [8] σ H Q := by
  have sm := small
  refine ⟨((n : Nat) : Int), rfl, by omega, hn, ?_⟩
  show LcGo (Itr 0 ((n : Nat) : Int).toNat) (gName 8) tYes (tOp (eqR K) (tNm 8) (tNm s)) [8] σ H Q
  rw [Int.toNat_natCast]
  refine lc_rng (((List.range n).map (· == j)).map V.bl) (by simp) (by omega) (fun i y H' R hy x' k => ?_) fun D H' x' _ hD => q D H' x' hD
  refine op_i (nm_i (h8 _) (nm_i (hs _) ?_))
  refine eq_sc rfl ?_
  rw [dec_nat]
  have hy2 : y = .bl (i == j) := by
    rw [List.getElem?_map, List.getElem?_map] at hy
    cases e : (List.range n)[i]? with
    | none => rw [e] at hy; cases hy
    | some i' =>
      have ei : i' = i := by
        have z := List.getElem?_eq_some_iff.mp e
        obtain ⟨h1, h2⟩ := z
        rw [List.getElem_range] at h2
        exact h2.symm
      rw [e, ei] at hy
      exact (Option.some.inj hy).symm
  rw [← hy2]
  exact k H' Ext.refl
theorem fam_ok {K : PySem.W.Frag} {E : XK} {σ : St} {H : Hp} {Q : VK} {i : Nat} (h4 : sl σ 4 = some (.int (i : Nat))) (q : Q (.int (fam i : Nat)) H) : famT K E σ H Q := by
  have one : ∀ (n : Nat) (R : VK), R (.int ((if n < i then 1 else 0 : Nat) : Int)) H → tCl spInt (wD E) (tCons (tOp gtR (tNm 4) (tC (.int (n : Nat)))) tNil) σ H R := fun n R r => by
    refine cl_i (cons_i (op_i (nm_i h4 (c_i ?_))))
    refine .inr ⟨decide ((n : Int) < (i : Int)), rfl, ?_⟩
    by_cases h : n < i
    · rw [if_pos h] at r
      rw [decide_eq_true (by omega)]
      exact r
    · rw [if_neg h] at r
      rw [decide_eq_false (by omega)]
      exact r
  refine op_i (op_i (one 28 _ (one 31 _ ?_)))
  refine one 38 _ ?_
  have e : (((if 28 < i then 1 else 0 : Nat) : Int) + ((if 31 < i then 1 else 0 : Nat) : Int)) + ((if 38 < i then 1 else 0 : Nat) : Int) = ((fam i : Nat) : Int) := by
    unfold fam
    push_cast
    rfl
  show Q (.int _) H
  rw [e]
  exact q
theorem due_ok {K : PySem.W.Frag} {H : Hp} {Q : VK} {i : Nat} {w0 w1 w2 w3 w5 w7 : Option V} (q : ∀ D H', Ext H H' → H' D = some (.lst ((rowB i).map V.bl)) → Q (.ref D) H') : dueT K [w0, w1, w2, w3, some (.int (i : Nat)), w5, some (.int (fam i : Nat)), w7, none] H Q := by
  have sm := small
  refine op_i ?_
  refine lc_eq (n := 40) (j := i) (s := 4) (by decide) (fun _ => rfl) (fun _ => rfl) (by decide) fun D1 H1 x1 h1 => ?_
  refine op_i ?_
  refine lc_eq (n := 4) (j := fam i) (s := 6) (by decide) (fun _ => rfl) (fun _ => rfl) (by decide) fun D2 H2 x2 h2 => c_i ?_
  refine ⟨D2, 2, _, rfl, rfl, h2, by decide, by decide, by simp; omega, fun p hp => ?_⟩
  have x3 : Ext H2 (upd H2 p (.lst (List.replicate 2 (((List.range 4).map (· == fam i)).map V.bl)).flatten)) := Ext.refl.new hp
  refine .inl ⟨D1, p, _, _, rfl, rfl, (x2.trans x3) _ _ h1, upd_same, by simp; omega, fun p' hp' => ?_⟩
  refine q p' _ ((x1.trans (x2.trans x3)).new hp') ?_
  rw [upd_same]
  unfold rowB
  rw [List.map_append, List.map_append]
  have e : (List.replicate 2 (((List.range 4).map (· == fam i)).map V.bl)).flatten = ((List.range 4).map (· == fam i)).map V.bl ++ ((List.range 4).map (· == fam i)).map V.bl := by
    simp [List.replicate]
  exact congrArg (fun z => some (HO.lst (((List.range 40).map (· == i)).map V.bl ++ z))) e
end AS.K16

set_option Elab.async false
set_option linter.all false
set_option maxRecDepth 100000
set_option maxHeartbeats 400000
namespace AS.K16
open PySem PySem.Spec PyProof.Rows L2
theorem dp_bools {K : PySem.W.Frag} {H : Hp} : ∀ bs : List Bool, DpAll K H (bs.map V.bl) (bs.map PyData.bool)
  | [] => .nil
  | b :: bs => .cons (.bl b) (dp_bools bs)
theorem lay_bools : ∀ bs : List Bool, PyData.canLayAll0 (bs.map PyData.bool) = true
  | [] => rfl
  | b :: bs => lay_bools bs
theorem depth_bools : ∀ bs : List Bool, PyData.depthAll (bs.map PyData.bool) = 0
  | [] => rfl
  | b :: bs => by
    show max 0 (PyData.depthAll (bs.map PyData.bool)) = 0
    rw [depth_bools bs]
    rfl
theorem shaped_bools (bs : List Bool) : SeqAt.shaped (.list (bs.map PyData.bool)) = true := by
  unfold SeqAt.shaped
  have h1 : PyData.canLay0 (.list (bs.map PyData.bool)) = true := lay_bools bs
  have h2 : PyData.depth (.list (bs.map PyData.bool)) = 1 := by
    show PyData.depthAll (bs.map PyData.bool) + 1 = 1
    rw [depth_bools]
  rw [h1, h2]
  rfl
theorem ne_bools {K : PySem.W.Frag} {H : Hp} {Q : VK} {a b : Addr} {bs : List Bool} (ha : H a = some (.lst (bs.map V.bl))) (hb : H b = some (.lst (bs.map V.bl))) (q : Q (.bl false) H) : neR K (.ref a) (.ref b) H Q := by
  unfold neR
  refine .inr ⟨.list (bs.map PyData.bool), .list (bs.map PyData.bool), .lst (SqL.of ha) (dp_bools bs), .lst (SqL.of hb) (dp_bools bs), shaped_bools bs, shaped_bools bs, ?_⟩
  rw [SeqAt.eqv_refl (.list (bs.map PyData.bool)) (show PyData.canLay0 (.list (bs.map PyData.bool)) = true from lay_bools bs)]
  exact q
theorem body_ok {K : PySem.W.Frag} (F : KF K) {E : XK} {H : Hp} {D : Ends} {σ : St} {i : Nat} {it : XC × List Nat} {e due : Addr} {l : List (Str × V)} (h5 : sl σ 5 = some (.ref e)) (h7 : sl σ 7 = some (.ref due)) (hi : xs[i]? = some it) (hx : IsX H e (it.1.C K) l) (hd : H due = some (.lst ((rowB i).map V.bl)))
    (k : ∀ H', Ext H H' → D.nx σ H') : bodyR K E D σ H := by
  unfold bodyR
  refine ifS_i (test_i ?_)
  refine op_i (cl_i (cons_i (nm_i h5 (nil_i ?_))))
  refine ⟨e, i, it, l, rfl, hi, hx, fun p H' x' hp => nm_i h7 (ne_bools hp (x' _ _ hd) ⟨false, rfl, iteF (k H' x')⟩)⟩
def PL (K : PySem.W.Frag) (H0 : Hp) (m : Addr) (a b c : V) (_ : Nat) (σ : St) (H : Hp) : Prop := Ext H0 H ∧ ∃ w4 w5 w6 w7, σ = [some (.ref m), some a, some b, some c, w4, w5, w6, w7, none]
theorem loop_ok {K : PySem.W.Frag} (F : KF K) {E : XK} {H : Hp} {D : Ends} {m : Addr} {a b c : V} (M : Made K H m a b c) (k : ∀ σ H', PL K H m a b c 40 σ H' → D.nx σ H') : loopR K E D [some (.ref m), some a, some b, some c, none, none, none, none, none] H := by
  have sm := small
  obtain ⟨es, hm, r⟩ := M.ex
  have len : es.length = 40 := by
    rw [r.len, List.length_map]
    decide +kernel
  unfold loopR
  refine ⟨m, es, rfl, SqL.of hm, ?_⟩
  refine for_enum (xs := es) (PL K H m a b c) (fun i σ H' h => SqL.of (h.1 _ _ hm)) ⟨Ext.refl, _, _, _, _, rfl⟩ (fun i x T σ H' hx hT h => ?_) fun σ H' h => k σ H' (by rw [len] at h; exact h)
  obtain ⟨x', w4, w5, w6, w7, rfl⟩ := h
  obtain ⟨sp, hs, e, rfl, hX⟩ := r.of_at hx
  rw [List.getElem?_map] at hs
  cases hi : xs[i]? with
  | none => rw [hi] at hs; cases hs
  | some it =>
    rw [hi] at hs
    have hs : spc K a b c it = sp := Option.some.inj hs
    subst hs
    have xT : Ext H' (upd H' T (.tup [.int (i : Nat), .ref e])) := Ext.refl.new hT
    refine .inl ⟨T, _, rfl, SqT.of upd_same, rfl, _, _, rfl, ?_⟩
    refine name_i ⟨_, _, rfl, name_i ⟨rfl, ?_⟩⟩
    refine asg_i (fam_ok (i := i) rfl (name_i ?_))
    refine asg_i ?_
    show dueT K [some (.ref m), some a, some b, some c, some (.int (i : Nat)), some (.ref e), some (.int (fam i : Nat)), w7, none] (upd H' T (.tup [.int (i : Nat), .ref e])) _
    refine due_ok fun due H2 x2 hd => name_i ?_
    refine body_ok F (i := i) (it := it) (e := e) (due := due) rfl rfl hi (hX.ext (x'.trans (xT.trans x2))) hd fun H3 x3 => ?_
    exact ⟨x'.trans (xT.trans (x2.trans x3)), _, _, _, _, rfl⟩
theorem pure_made_right (K : PySem.W.Frag) (F : KF K) (vs : List V) (H : Hp) (Q : VK) (E : XK) (h : sp_made_right K vs H Q E) : t_made_right K E { nx := fun _ H' => Q .non H', rt := Q } (start ["_law_made", "_law_a", "_law_b", "_law_c", "_law_k", "_law_error", "_law_family", "_law_due", "_law_at"] vs) H := by
  obtain ⟨m, a, b, c, da, db, dc, rfl, M, ⟨ha, sa⟩, ⟨hb, sb⟩, ⟨hc, sc⟩, k⟩ := h
  have sm := small
  have sm2 := small2
  have e0 : start ["_law_made", "_law_a", "_law_b", "_law_c", "_law_k", "_law_error", "_law_family", "_law_due", "_law_at"] [V.ref m, a, b, c] = [some (.ref m), some a, some b, some c, none, none, none, none, none] := rfl
  rw [e0]
  unfold t_made_right
  refine seq_i ?_
  refine ifS_i (test_i ?_)
  obtain ⟨es, hm, r⟩ := M.ex
  refine op_i (cl_i (cons_i (cl_i (cons_i (nm_i rfl (nil_i ?_))))))
  refine ⟨m, es, a, b, c, da, db, dc, rfl, hm, r, ha, hb, hc, fun p H1 x1 d1 => nil_i ?_⟩
  refine repr_ok d1 (dueD_shw sa sb sc) (by decide) (by omega) ?_
  refine cl_i (cons_i (want_ok (Dt.ext x1 ha) (Dt.ext x1 hb) (Dt.ext x1 hc) fun p2 H2 x2 d2 => nil_i ?_))
  refine repr_ok d2 (dueD_shw sa sb sc) (by decide) (by omega) ?_
  refine ne_sc rfl ?_
  rw [decide_eq_true rfl]
  refine ⟨false, rfl, iteF ?_⟩
  refine seq_i ?_
  refine loop_ok F (M.up (x1.trans x2)) fun σ H3 h3 => ?_
  obtain ⟨x3, w4, w5, w6, w7, rfl⟩ := h3
  show lastR K E { nx := fun _ H' => Q .non H', rt := Q } [some (.ref m), some a, some b, some c, w4, w5, w6, w7, none] H3
  unfold lastR
  refine ret_i (op_i (cl_i (cons_i (nm_i rfl (nil_i ?_)))))
  have len : es.length = 40 := by
    rw [r.len, List.length_map]
    decide +kernel
  refine ⟨_, 40, rfl, .inl ⟨_, SqL.of ((x1.trans (x2.trans x3)) _ _ hm), len.symm⟩, c_i (eq_sc rfl ?_)⟩
  exact k H3 (x1.trans (x2.trans x3))

/-! ### _law_right -/
theorem things_shw : ∀ d ∈ things, Shw d 3 40 := by
  intro d hd
  have h : (things.all fun d => d.showable && (decide (d.depth ≤ 3) && decide (d.shown.length ≤ 40))) = true := by decide +kernel
  obtain ⟨h1, h2⟩ := b2 (List.all_eq_true.mp h d hd)
  obtain ⟨h3, h4⟩ := b2 h2
  exact ⟨h1, of_decide_eq_true h3, of_decide_eq_true h4⟩
def mk1 (K : PySem.W.Frag) (E : XK) (i : Nat) (a b c : Nat) : TE := (tCl (sp_made_right K) (wD E) (tCons (tNm i) (tCons (tNm a) (tCons (tNm b) (tCons (tNm c) tNil)))))
def rp3 (K : PySem.W.Frag) (E : XK) : TE := (tCl (spRepr K) (wD E) (tCons (tLst (tCons (tNm 2) (tCons (tNm 3) (tCons (tNm 4) tNil)))) tNil))
def t_right3 (K : PySem.W.Frag) (E : XK) : TS := (tSeq (tAsg (tCl (sp_placed K) (wD E) (tCons (tNm 4) (tCons (tNm 2) (tCons (tNm 3) tNil)))) (gName 1)) (tRet (tAndG (truG K) (mk1 K E 1 4 2 3) (tAndG (truG K) (mk1 K E 6 2 3 4) (tOp (eqR K) (rp3 K E) (tNm 5))))))
def t_right2 (K : PySem.W.Frag) (E : XK) : TS := (tSeq (tIfS (tOr (tNot (tTru (truG K) (mk1 K E 6 2 3 4))) (tNot (tTru (truG K) (tCl (sp_made_right K) (wD E) (tCons (tCl (sp_placed K) (wD E) (tCons (tNm 2) (tCons (tNm 3) (tCons (tNm 4) tNil)))) (tCons (tNm 2) (tCons (tNm 3) (tCons (tNm 4) tNil)))))))) (tRet (tC (.bl false))) tNext) (t_right3 K E))
def t_right (K : PySem.W.Frag) (E : XK) : TS := (tSeq (tPar3 2 3 4 (tCons (tCl (sp_thing K) (wD E) (tCons (tNm 0) tNil)) (tCons (tCl (sp_thing K) (wD E) (tCons (tNm 0) tNil)) (tCons (tCl (sp_thing K) (wD E) (tCons (tNm 0) tNil)) tNil)))) (tSeq (tPar 5 6 (tCons (rp3 K E) (tCons (tCl (sp_placed K) (wD E) (tCons (tNm 2) (tCons (tNm 3) (tCons (tNm 4) tNil)))) tNil))) (t_right2 K E)))
def sp_right (K : PySem.W.Frag) : Sp := fun vs H Q _ => ∃ r, vs = [.ref r] ∧ RngAt H r ∧ ∀ H', Mod1 r H H' → Q (.bl true) H'
theorem rp3_ok {K : PySem.W.Frag} {E : XK} {σ : St} {H : Hp} {Q : VK} {a b c : V} {da db dc : PyData} (h2 : sl σ 2 = some a) (h3 : sl σ 3 = some b) (h4 : sl σ 4 = some c) (ha : DtS K H a da) (hb : DtS K H b db) (hc : DtS K H c dc) (q : ∀ H', Ext H H' → Q (.str (PyData.list [da, db, dc]).shown) H') : rp3 K E σ H Q := by
  have sm := small
  have sm2 := small2
  refine cl_i (cons_i (lst_i (cons_i (nm_i h2 (cons_i (nm_i h3 (cons_i (nm_i h4 (nil_i ⟨by show 3 ≤ sizeLine; omega, fun p hp => nil_i ?_⟩)))))))))
  have x : Ext H (upd H p (.lst [a, b, c])) := Ext.refl.new hp
  have l3 : Shw (.list [da, db, dc]) 4 129 := by
    refine (Shw.list (ds := [da, db, dc]) (n := 3) (B := 40) fun d hd => ?_).mono (by decide) (by show (40 + 2) * 3 + 3 ≤ 129; decide)
    simp only [List.mem_cons, List.not_mem_nil, or_false] at hd
    rcases hd with rfl | rfl | rfl
    · exact ha.2
    · exact hb.2
    · exact hc.2
  exact repr_ok (.lst (SqL.of upd_same) (.cons (Dt.ext x ha.1) (.cons (Dt.ext x hb.1) (.cons (Dt.ext x hc.1) .nil)))) l3 (by decide) (by omega) (q _ x)
theorem DtS.up {K : PySem.W.Frag} {H H' : Hp} {v : V} {d : PyData} (x : Ext H H') (h : DtS K H v d) : DtS K H' v d := ⟨Dt.ext x h.1, h.2⟩
theorem right3_ok {K : PySem.W.Frag} {E : XK} {H : Hp} {Q : VK} {r pl : Addr} {a b c : V} {da db dc : PyData} {w1 : Option V} (M : Made K H pl a b c) (ha : DtS K H a da) (hb : DtS K H b db) (hc : DtS K H c dc) (k : ∀ H', Ext H H' → Q (.bl true) H') :
    t_right3 K E { nx := fun _ H' => Q .non H', rt := Q } [some (.ref r), w1, some a, some b, some c, some (.str (PyData.list [da, db, dc]).shown), some (.ref pl)] H := by
  unfold t_right3
  refine asg_i (cl_i (cons_i (nm_i rfl (cons_i (nm_i rfl (cons_i (nm_i rfl (nil_i ?_))))))))
  refine ⟨c, a, b, rfl, fun m es H1 x1 hm r1 => name_i (ret_i ?_)⟩
  refine andG_i ?_
  refine cl_i (cons_i (nm_i rfl (cons_i (nm_i rfl (cons_i (nm_i rfl (cons_i (nm_i rfl (nil_i ?_)))))))))
  refine ⟨m, c, a, b, dc, da, db, rfl, ⟨es, hm, r1⟩, hc.up x1, ha.up x1, hb.up x1, fun H2 x2 => ?_⟩
  refine tru_bl (iteT ?_)
  refine andG_i ?_
  refine cl_i (cons_i (nm_i rfl (cons_i (nm_i rfl (cons_i (nm_i rfl (cons_i (nm_i rfl (nil_i ?_)))))))))
  refine ⟨pl, a, b, c, da, db, dc, rfl, M.up (x1.trans x2), ha.up (x1.trans x2), hb.up (x1.trans x2), hc.up (x1.trans x2), fun H3 x3 => ?_⟩
  refine tru_bl (iteT ?_)
  have xx := x1.trans (x2.trans x3)
  refine op_i (rp3_ok rfl rfl rfl (ha.up xx) (hb.up xx) (hc.up xx) fun H4 x4 => nm_i rfl (eq_sc rfl ?_))
  rw [decide_eq_true rfl]
  exact k H4 (xx.trans x4)
theorem right2_ok {K : PySem.W.Frag} {E : XK} {H : Hp} {Q : VK} {r pl : Addr} {a b c : V} {da db dc : PyData} {w1 : Option V} (M : Made K H pl a b c) (ha : DtS K H a da) (hb : DtS K H b db) (hc : DtS K H c dc) (k : ∀ H', Ext H H' → Q (.bl true) H') :
    t_right2 K E { nx := fun _ H' => Q .non H', rt := Q } [some (.ref r), w1, some a, some b, some c, some (.str (PyData.list [da, db, dc]).shown), some (.ref pl)] H := by
  unfold t_right2
  refine seq_i (ifS_i (or_i (not_i (tru_i ?_))))
  refine cl_i (cons_i (nm_i rfl (cons_i (nm_i rfl (cons_i (nm_i rfl (cons_i (nm_i rfl (nil_i ?_)))))))))
  refine ⟨pl, a, b, c, da, db, dc, rfl, M, ha, hb, hc, fun H1 x1 => ?_⟩
  refine tru_bl (iteF ?_)
  refine not_i (tru_i (cl_i (cons_i (cl_i (cons_i (nm_i rfl (cons_i (nm_i rfl (cons_i (nm_i rfl (nil_i ?_)))))))))))
  refine ⟨a, b, c, rfl, fun m es H2 x2 hm r2 => cons_i (nm_i rfl (cons_i (nm_i rfl (cons_i (nm_i rfl (nil_i ?_))))))⟩
  have x12 := x1.trans x2
  refine ⟨m, a, b, c, da, db, dc, rfl, ⟨es, hm, r2⟩, ha.up x12, hb.up x12, hc.up x12, fun H3 x3 => ?_⟩
  refine tru_bl (iteF ?_)
  have xx := x12.trans x3
  exact right3_ok (M.up xx) (ha.up xx) (hb.up xx) (hc.up xx) fun H4 x4 => k H4 (xx.trans x4)
theorem pure_right (K : PySem.W.Frag) (vs : List V) (H : Hp) (Q : VK) (E : XK) (h : sp_right K vs H Q E) : t_right K E { nx := fun _ H' => Q .non H', rt := Q } (start ["_law_rng_here", "_law_further", "_law_a", "_law_b", "_law_c", "_law_kept", "_law_placed_here"] vs) H := by
  obtain ⟨r, rfl, hr, k⟩ := h
  have e0 : start ["_law_rng_here", "_law_further", "_law_a", "_law_b", "_law_c", "_law_kept", "_law_placed_here"] [V.ref r] = [some (.ref r), none, none, none, none, none, none] := rfl
  rw [e0]
  unfold t_right
  refine seq_i (par3_i ?_)
  refine cons_i (cl_i (cons_i (nm_i rfl (nil_i ?_))))
  refine ⟨r, rfl, hr, fun a da H1 ia ta m1 r1 => ?_⟩
  refine cons_i (cl_i (cons_i (nm_i rfl (nil_i ?_))))
  refine ⟨r, rfl, r1, fun b db H2 ib tb m2 r2 => ?_⟩
  refine cons_i (cl_i (cons_i (nm_i rfl (nil_i ?_))))
  refine ⟨r, rfl, r2, fun c dc H3 ic tc m3 r3 => nil_i ⟨a, b, c, rfl, ?_⟩⟩
  have ha : DtS K H3 a da := ⟨Dt.ext wo_ext (Dt.ext (m2.trans m3).wo ta), things_shw da ia⟩
  have hb : DtS K H3 b db := ⟨Dt.ext wo_ext (Dt.ext m3.wo tb), things_shw db ib⟩
  have hc : DtS K H3 c dc := ⟨Dt.ext wo_ext tc, things_shw dc ic⟩
  dsimp only
  refine seq_i (par_i ?_)
  refine cons_i (rp3_ok rfl rfl rfl ha hb hc fun H4 x4 => cons_i (cl_i (cons_i (nm_i rfl (cons_i (nm_i rfl (cons_i (nm_i rfl (nil_i ?_)))))))))
  refine ⟨a, b, c, rfl, fun m es H5 x5 hm r5 => nil_i ⟨_, _, rfl, ?_⟩⟩
  have xx := x4.trans x5
  exact right2_ok ⟨es, hm, r5⟩ (ha.up xx) (hb.up xx) (hc.up xx) fun H6 x6 => k H6 (((m1.trans m2).trans m3).trans (xx.trans x6).mod1)

/-! ### law -/
def t_law (K : PySem.W.Frag) (E : XK) : TS := (tRet (tCl (spAll K) (wD E) (tCons (tLc (iRng1 (tCons (tCl spMax (wD E) (tCons (tC (.int 1)) (tCons (tCl spMin (wD E) (tCons (tC (.int 4)) (tCons (tCl (spLen K) (wD E) (tCons (tNm 0) tNil)) tNil))) tNil))) tNil)) (gName 1) tYes (tCl (sp_right K) AS.w0 (tCons (tCl (sp_rng K) AS.w0 (tCons (tNm 0) (tCons (tNm 1) tNil))) tNil)) [1]) tNil)))
def sp_law (K : PySem.W.Frag) : Sp := fun vs H Q _ => ∃ (a : Addr) (ns : List Int), vs = [.ref a] ∧ SqL K H a (ns.map V.int) ∧ ∀ H', Q (.bl true) H'
theorem pure_law (K : PySem.W.Frag) (vs : List V) (H : Hp) (Q : VK) (E : XK) (h : sp_law K vs H Q E) : t_law K E { nx := fun _ H' => Q .non H', rt := Q } (start ["_law_script", "_law_k"] vs) H := by
  obtain ⟨a, ns, rfl, hS, k⟩ := h
  have sm := small
  have e0 : start ["_law_script", "_law_k"] [V.ref a] = [some (.ref a), none] := rfl
  rw [e0]
  unfold t_law
  refine ret_i (cl_i (cons_i (lc1_i ?_)))
  refine cons_i (cl_i (cons_i (c_i (cons_i (cl_i (cons_i (c_i (cons_i (cl_i (cons_i (nm_i rfl (nil_i ?_))))))))))))
  refine ⟨_, (ns.map V.int).length, rfl, .inl ⟨_, hS, rfl⟩, nil_i ⟨4, _, rfl, nil_i ⟨1, _, rfl, nil_i ?_⟩⟩⟩
  generalize hz : (if (if (((ns.map V.int).length : Nat) : Int) < 4 then (((ns.map V.int).length : Nat) : Int) else 4) > 1 then (if (((ns.map V.int).length : Nat) : Int) < 4 then (((ns.map V.int).length : Nat) : Int) else 4) else 1) = z
  have hz4 : z ≤ 4 ∧ 1 ≤ z := by rw [← hz]; split <;> split <;> omega
  refine ⟨z, rfl, by omega, by omega, ?_⟩
  refine lc_rng (List.replicate z.toNat (.bl true)) (by rw [List.length_replicate]) (by omega) (fun i y H' R hy x' kk => ?_) fun D H' x' _ hD => nil_i ?_
  · have ey : y = .bl true := List.eq_of_mem_replicate (List.mem_of_getElem? hy)
    have hi : i < z.toNat := by
      have q := (List.getElem?_eq_some_iff.mp hy).1
      rwa [List.length_replicate] at q
    subst ey
    refine cl_i (cons_i (cl_i (cons_i (nm_i rfl (cons_i (nm_i rfl (nil_i ?_)))))))
    refine ⟨a, i, ns, by rw [Int.zero_add], by omega, x'.sqL hS, fun p o hp hr => nil_i ?_⟩
    refine ⟨p, rfl, hr, fun H2 m2 => kk H2 fun b u e => ?_⟩
    have nb : b ≠ p := ne_of_none e hp
    exact m2 b u nb (by rw [upd_ne nb]; exact e)
  · refine ⟨D, List.replicate z.toNat true, rfl, by rw [List.map_replicate]; exact SqL.of hD, ?_⟩
    have e : (List.replicate z.toNat true).all id = true := by simp
    rw [e]
    exact k H'
end AS.K16

set_option Elab.async false
set_option linter.all false
set_option maxRecDepth 100000
set_option maxHeartbeats 4000000
namespace AS.K16
open PySem PySem.Spec PyProof.Rows L2
abbrev sR : Stmt := top 47
abbrev sD : Stmt := top 48
abbrev sC : Stmt := top 49
abbrev sT : Stmt := top 50
abbrev sP : Stmt := top 51
abbrev sN : Stmt := top 52
abbrev sF : Stmt := top 53
abbrev sI : Stmt := top 54
abbrev sM : Stmt := top 55
abbrev sG : Stmt := top 56
abbrev sL : Stmt := top 57
def nR : List Str := ["_law_script", "_law_k", "_law_cell"]
def nD : List Str := ["_law_rng_here", "_law_many", "_law_digit"]
def nC : List Str := ["_law_rng_here", "_law_some"]
def nT : List Str := ["_law_rng_here"]
def nP : List Str := ["_law_a", "_law_b", "_law_c", "_law_found"]
def nF : List Str := ["_law_made", "_law_found", "_law_last", "_law_at"]
def nI : List Str := ["_law_made", "_law_found"]
def nM : List Str := ["_law_made", "_law_a", "_law_b", "_law_c", "_law_k", "_law_error", "_law_family", "_law_due", "_law_at"]
def nG : List Str := ["_law_rng_here", "_law_further", "_law_a", "_law_b", "_law_c", "_law_kept", "_law_placed_here"]
def nL : List Str := ["_law_script", "_law_k"]
def aR (K : PySem.W.Frag) : Tabs := ⟨[], [], [("len", spLen K), ("max", spMax), ("abs", spAbs), ("int", spInt)], [], [], [], []⟩
def aD (K : PySem.W.Frag) : Tabs := ⟨[], [], [("divmod", spDivmod), ("int", spInt)], [], [], [], []⟩
def aC (K : PySem.W.Frag) : Tabs := ⟨[], [], [("_law_draw", sp_draw), ("len", spLen K)], [], [], [], []⟩
def aT (K : PySem.W.Frag) : Tabs := ⟨[], [], [("_law_choice", sp_choice K)], [], [], [], []⟩
def mkE (K : PySem.W.Frag) (p : XC × List Nat) : Str × Sp := (p.1.nm, sp_mk (p.1.C K) p.1.fs)
def mkEK (K : PySem.W.Frag) (x : XC) : (Str × List Str) × SpK := ((x.nm, x.fs.reverse), sp_mkK (x.C K) x.fs List.reverse)
def aP (K : PySem.W.Frag) : Tabs := ⟨[], [], xs.map (mkE K), [], [], [], []⟩
def aN (K : PySem.W.Frag) : Tabs := ⟨[], [], [("NothingToUndo", sp_mk (x_NothingToUndo.C K) [])], xi.map (mkEK K), [], [], []⟩
def flds : List Str := ["value", "position", "line", "name", "letter", "size", "cut", "other", "results", "kind", "limit"]
def aF (K : PySem.W.Frag) : Tabs := ⟨[], [], [], [], [], flds.map fun f => (f, rAttX K f), []⟩
def blts : List String := ["ValueError", "LookupError", "RuntimeError", "ArithmeticError"]
def aI (K : PySem.W.Frag) : Tabs := ⟨own.map (fun n => (n, .ref (He.ga K n))) ++ blts.map (fun n => (Str.ofString n, .ty n)), [], [("isinstance", spIsi K)], [], [], [], []⟩
def aM (K : PySem.W.Frag) : Tabs := ⟨[], ["enumerate", "range"], [("repr", spRepr K), ("_law_fields", sp_fields K), ("int", spInt), ("_law_truths", sp_truths K), ("len", spLen K)], [], [], [], []⟩
def aG (K : PySem.W.Frag) : Tabs := ⟨[], [], [("_law_thing", sp_thing K), ("repr", spRepr K), ("_law_placed", sp_placed K), ("_law_made_right", sp_made_right K), ("_law_named", sp_placed K)], [], [], [], []⟩
def aL (K : PySem.W.Frag) : Tabs := ⟨[], ["range"], [("all", spAll K), ("max", spMax), ("min", spMin), ("len", spLen K), ("_law_right", sp_right K), ("_law_rng", sp_rng K)], [], [], [], []⟩
theorem redR (K : PySem.W.Frag) (E : XK) : blkT (wp (oraOf K (aR K)) K nR 40 (ctxD (defScope sR) E)).S (defBody sR) = t_rng K E := by kernel_rfl
theorem redD (K : PySem.W.Frag) (E : XK) : blkT (wp (oraOf K (aD K)) K nD 40 (ctxD (defScope sD) E)).S (defBody sD) = t_draw K E := by kernel_rfl
theorem redC (K : PySem.W.Frag) (E : XK) : blkT (wp (oraOf K (aC K)) K nC 40 (ctxD (defScope sC) E)).S (defBody sC) = t_choice K E := by kernel_rfl
theorem redT (K : PySem.W.Frag) (E : XK) : blkT (wp (oraOf K (aT K)) K nT 40 (ctxD (defScope sT) E)).S (defBody sT) = t_thing K E := by kernel_rfl
theorem redP (K : PySem.W.Frag) (E : XK) : blkT (wp (oraOf K (aP K)) K nP 40 (ctxD (defScope sP) E)).S (defBody sP) = t_make K (mkP K E) pl0 pls := by kernel_rfl
theorem redN (K : PySem.W.Frag) (E : XK) : blkT (wp (oraOf K (aN K)) K nP 40 (ctxD (defScope sN) E)).S (defBody sN) = t_make K (mkW K E) nd0 nds := by kernel_rfl
theorem redF (K : PySem.W.Frag) (E : XK) : blkT (wp (oraOf K (aF K)) K nF 40 (ctxD (defScope sF) E)).S (defBody sF) = t_fields K E := by kernel_rfl
theorem redI (K : PySem.W.Frag) (E : XK) : blkT (wp (oraOf K (aI K)) K nI 40 (ctxD (defScope sI) E)).S (defBody sI) = t_truths K E := by kernel_rfl
theorem redM (K : PySem.W.Frag) (E : XK) : blkT (wp (oraOf K (aM K)) K nM 40 (ctxD (defScope sM) E)).S (defBody sM) = t_made_right K E := by kernel_rfl
theorem redG (K : PySem.W.Frag) (E : XK) : blkT (wp (oraOf K (aG K)) K nG 40 (ctxD (defScope sG) E)).S (defBody sG) = t_right K E := by kernel_rfl
theorem redL (K : PySem.W.Frag) (E : XK) : blkT (wp (oraOf K (aL K)) K nL 40 (ctxD (defScope sL) E)).S (defBody sL) = t_law K E := by kernel_rfl
theorem scR : FnScope nR ["_law_script", "_law_k"] (defScope sR) := ⟨rfl, rfl, rfl, by decide +kernel, rfl, by decide +kernel, by decide +kernel⟩
theorem scD : FnScope nD ["_law_rng_here", "_law_many"] (defScope sD) := ⟨rfl, rfl, rfl, by decide +kernel, rfl, by decide +kernel, by decide +kernel⟩
theorem scC : FnScope nC ["_law_rng_here", "_law_some"] (defScope sC) := ⟨rfl, rfl, rfl, by decide +kernel, rfl, by decide +kernel, by decide +kernel⟩
theorem scT : FnScope nT ["_law_rng_here"] (defScope sT) := ⟨rfl, rfl, rfl, by decide +kernel, rfl, by decide +kernel, by decide +kernel⟩
theorem scP : FnScope nP ["_law_a", "_law_b", "_law_c"] (defScope sP) := ⟨rfl, rfl, rfl, by decide +kernel, rfl, by decide +kernel, by decide +kernel⟩
theorem scN : FnScope nP ["_law_a", "_law_b", "_law_c"] (defScope sN) := ⟨rfl, rfl, rfl, by decide +kernel, rfl, by decide +kernel, by decide +kernel⟩
theorem scF : FnScope nF ["_law_made"] (defScope sF) := ⟨rfl, rfl, rfl, by decide +kernel, rfl, by decide +kernel, by decide +kernel⟩
theorem scI : FnScope nI ["_law_made"] (defScope sI) := ⟨rfl, rfl, rfl, by decide +kernel, rfl, by decide +kernel, by decide +kernel⟩
theorem scM : FnScope nM ["_law_made", "_law_a", "_law_b", "_law_c"] (defScope sM) := ⟨rfl, rfl, rfl, by decide +kernel, rfl, by decide +kernel, by decide +kernel⟩
theorem scG : FnScope nG ["_law_rng_here"] (defScope sG) := ⟨rfl, rfl, rfl, by decide +kernel, rfl, by decide +kernel, by decide +kernel⟩
theorem scL : FnScope nL ["_law_script"] (defScope sL) := ⟨rfl, rfl, rfl, by decide +kernel, rfl, by decide +kernel, by decide +kernel⟩
end AS.K16

set_option Elab.async false
set_option linter.all false
set_option maxRecDepth 100000
set_option maxHeartbeats 4000000
namespace AS.K16
open PySem PySem.Spec PyProof.Rows L2
def frees : List Str := (["len", "max", "min", "abs", "int", "divmod", "all", "repr", "isinstance", "range", "enumerate", "ValueError", "LookupError", "RuntimeError", "ArithmeticError"] : List String).map Str.ofString
def fnms : List Str := (["_law_rng", "_law_draw", "_law_choice", "_law_thing", "_law_placed", "_law_named", "_law_fields", "_law_truths", "_law_made_right", "_law_right", "law"] : List String).map Str.ofString
abbrev FnT (K : PySem.W.Frag) (x : Str) (st : Stmt) : Prop := ∃ fd, FnAt K (x, none) x x st fd
/-- what is known of the program: by names, the classes, the defs -/
structure G (S : Sys) : Prop where
  kf : KF S.K
  sm : SmOk S.K
  xo : ∀ x ∈ xi, XOk S.K x
  x0 : PySem.W.excIn S.K (x_NothingToUndo.C S.K) x_NothingToUndo.b.mro x_NothingToUndo.b.newId = true
  mgx : ∀ p ∈ xs, S.mg p.1.nm = some (.ref (p.1.C S.K))
  mgo : ∀ n ∈ own, S.mg n = some (.ref (He.ga S.K n))
  fr : ∀ n ∈ frees, S.mg n = none
  mgf : ∀ n ∈ fnms, S.mg n = some (.ref (He.fAd S.K (n, none)))
  ini : ∀ x ∈ xi, InitOk S x
  R : FnT S.K "_law_rng" sR
  D : FnT S.K "_law_draw" sD
  C : FnT S.K "_law_choice" sC
  T : FnT S.K "_law_thing" sT
  P : FnT S.K "_law_placed" sP
  N : FnT S.K "_law_named" sN
  F : FnT S.K "_law_fields" sF
  I : FnT S.K "_law_truths" sI
  M : FnT S.K "_law_made_right" sM
  Gr : FnT S.K "_law_right" sG
  L : FnT S.K "law" sL
section
variable {S : Sys} (g : G S)
include g
theorem fr (n : String) (h : frees.contains (Str.ofString n) = true := by decide +kernel) : S.mg (Str.ofString n) = none := g.fr _ (List.contains_iff_mem.mp h)
theorem mf (n : String) (h : fnms.contains (Str.ofString n) = true := by decide +kernel) : S.mg (Str.ofString n) = some (.ref (He.fAd S.K (Str.ofString n, none))) := g.mgf _ (List.contains_iff_mem.mp h)
theorem noK {k : Nat} : ∀ f ks sp, ([] : List ((Str × List Str) × SpK)).lookup (f, ks) = some sp → CallKE S k f ks sp := fun _ _ _ h => by cases h
theorem noB : ∀ x ∈ ([] : List Str), S.mg x = none := fun _ h => nomatch h
theorem tabs_fn {k : Nat} {fn : List (Str × Sp)} (h : TabOk (CallE S k) fn) : TabsOk S k ⟨[], [], fn, [], [], [], []⟩ := ⟨tab_nil, noB g, h, noK g, tab_nil, tab_nil, tab_nil⟩
theorem eRng {k : Nat} (hk : 1 ≤ k) : CallE S k "_law_rng" (sp_rng S.K) := by
  obtain ⟨fd, F⟩ := g.R
  have len : ∀ vs H Q E, sp_rng S.K vs H Q E → vs.length = (["_law_script", "_law_k"] : List Str).length := fun vs H Q E ⟨_, _, _, e, _⟩ => by rw [e]; rfl
  have B := fn_by (k := 0) (T := aR) (n := 40) F scR (tabs_fn g (tab_cons (ent_len (fr g "len")) (tab_cons (ent_max (fr g "max")) (tab_cons (ent_abs (fr g "abs")) (tab_cons (ent_int (fr g "int")) tab_nil))))) len redR fun vs H Q E h => pure_rng S.K vs H Q E h
  exact ent_def F B hk (mf g "_law_rng") len fun _ _ _ _ _ _ us hl => match us, hl with | [_, _], _ => rfl
theorem eDraw {k : Nat} (hk : 1 ≤ k) : CallE S k "_law_draw" sp_draw := by
  obtain ⟨fd, F⟩ := g.D
  have len : ∀ vs H Q E, sp_draw vs H Q E → vs.length = (["_law_rng_here", "_law_many"] : List Str).length := fun vs H Q E ⟨_, _, e, _⟩ => by rw [e]; rfl
  have B := fn_by (k := 0) (T := aD) (n := 40) F scD (tabs_fn g (tab_cons (ent_divmod (fr g "divmod")) (tab_cons (ent_int (fr g "int")) tab_nil))) len redD fun vs H Q E h => pure_draw S.K vs H Q E h
  exact ent_def F B hk (mf g "_law_draw") len fun _ _ _ _ _ _ us hl => match us, hl with | [_, _], _ => rfl
theorem eChoice {k : Nat} (hk : 2 ≤ k) : CallE S k "_law_choice" (sp_choice S.K) := by
  obtain ⟨fd, F⟩ := g.C
  have len : ∀ vs H Q E, sp_choice S.K vs H Q E → vs.length = (["_law_rng_here", "_law_some"] : List Str).length := fun vs H Q E ⟨_, _, e, _⟩ => by rw [e]; rfl
  have B := fn_by (k := 1) (T := aC) (n := 40) F scC (tabs_fn g (tab_cons (eDraw g (Nat.le_refl _)) (tab_cons (ent_len (fr g "len")) tab_nil))) len redC fun vs H Q E h => pure_choice S.K vs H Q E h
  exact ent_def F B hk (mf g "_law_choice") len fun _ _ _ _ _ _ us hl => match us, hl with | [_, _], _ => rfl
theorem eThing {k : Nat} (hk : 3 ≤ k) : CallE S k "_law_thing" (sp_thing S.K) := by
  obtain ⟨fd, F⟩ := g.T
  have len : ∀ vs H Q E, sp_thing S.K vs H Q E → vs.length = (["_law_rng_here"] : List Str).length := fun vs H Q E ⟨_, e, _⟩ => by rw [e]; rfl
  have B := fn_by (k := 2) (T := aT) (n := 40) F scT (tabs_fn g (tab_cons (eChoice g (Nat.le_refl _)) tab_nil)) len redT fun vs H Q E h => pure_thing S.K vs H Q E h
  exact ent_def F B hk (mf g "_law_thing") len fun _ _ _ _ _ _ us hl => match us, hl with | [_], _ => rfl
omit g in
theorem xs_split : ∀ p ∈ xs, p.1 ∈ xi ∨ p = (x_NothingToUndo, []) := fun p hp => by
  have h : (xs.all fun p => decide (p.1 ∈ xi) || decide (p = (x_NothingToUndo, []))) = true := by decide +kernel
  have q := List.all_eq_true.mp h p hp
  simpa using q
omit g in
theorem xi_fit : ∀ x ∈ xi, x.fs.Nodup ∧ x.fs.length ≤ 900 := fun x hx => by
  have h : (xi.all fun x => decide x.fs.Nodup && decide (x.fs.length ≤ 900)) = true := by decide +kernel
  have q := List.all_eq_true.mp h x hx
  simpa using q
theorem mgi : ∀ x ∈ xi, S.mg x.nm = some (.ref (x.C S.K)) := fun x hx => by
  have h : (xi.all fun x => decide (x ∈ xs.map (·.1))) = true := by decide +kernel
  have q := of_decide_eq_true (List.all_eq_true.mp h x hx)
  obtain ⟨p, hp, rfl⟩ := List.mem_map.mp q
  exact g.mgx p hp
theorem eMk {k : Nat} (hk : 2 ≤ k) : TabOk (CallE S k) (xs.map (mkE S.K)) := by
  have one : ∀ p ∈ xs, CallE S k p.1.nm (sp_mk (p.1.C S.K) p.1.fs) := fun p hp => by
    rcases xs_split p hp with h | rfl
    · exact xc_pos hk (g.xo _ h) (g.ini _ h) (mgi g _ h) (xi_fit _ h).1 (xi_fit _ h).2
    · exact ent_xc0 (x := x_NothingToUndo) (g.kf.ex _ hp) g.x0 (g.mgx _ hp)
  revert one
  generalize xs = l
  intro one
  induction l with
  | nil => exact tab_nil
  | cons p l ih => exact tab_cons (one p List.mem_cons_self) (ih fun q hq => one q (List.mem_cons_of_mem _ hq))
theorem eMkK {k : Nat} (hk : 2 ≤ k) : ∀ f ks sp, (xi.map (mkEK S.K)).lookup (f, ks) = some sp → CallKE S k f ks sp := by
  have one : ∀ x ∈ xi, CallKE S k x.nm x.fs.reverse (sp_mkK (x.C S.K) x.fs List.reverse) := fun x h => xc_kw hk (g.xo _ h) (g.ini _ h) (mgi g _ h) (xi_fit _ h).1 (xi_fit _ h).2
  revert one
  generalize xi = l
  intro one
  induction l with
  | nil => intro f ks sp h; cases h
  | cons x l ih =>
    intro f ks sp h
    rw [List.map_cons] at h
    unfold mkEK at h
    rw [List.lookup_cons] at h
    by_cases q : (f, ks) = (x.nm, x.fs.reverse)
    · rw [q, beq_self_eq_true] at h
      cases h
      injection q with q1 q2
      rw [q1, q2]
      exact one x List.mem_cons_self
    · rw [beq_eq_false_iff_ne.mpr q] at h
      exact ih (fun y hy => one y (List.mem_cons_of_mem _ hy)) f ks sp h
theorem ePlaced {k : Nat} (hk : 3 ≤ k) : CallE S k "_law_placed" (sp_placed S.K) := by
  obtain ⟨fd, F⟩ := g.P
  have len : ∀ vs H Q E, sp_placed S.K vs H Q E → vs.length = (["_law_a", "_law_b", "_law_c"] : List Str).length := fun vs H Q E ⟨_, _, _, e, _⟩ => by rw [e]; rfl
  have B := fn_by (k := 2) (T := aP) (n := 40) (t := fun K E => t_make K (mkP K E) pl0 pls) F scP (tabs_fn g (eMk g (Nat.le_refl _))) len redP fun vs H Q E h => pure_make S.K (fun _ _ _ => mkP S.K E) pl0 pls pl_eq (fun a b c => mkP_ok) vs H Q h nP fun _ _ _ => rfl
  exact ent_def F B hk (mf g "_law_placed") len fun _ _ _ _ _ _ us hl => match us, hl with | [_, _, _], _ => rfl
theorem eNamed {k : Nat} (hk : 3 ≤ k) : CallE S k "_law_named" (sp_placed S.K) := by
  obtain ⟨fd, F⟩ := g.N
  have len : ∀ vs H Q E, sp_placed S.K vs H Q E → vs.length = (["_law_a", "_law_b", "_law_c"] : List Str).length := fun vs H Q E ⟨_, _, _, e, _⟩ => by rw [e]; rfl
  have x0 : CallE S 2 "NothingToUndo" (sp_mk (x_NothingToUndo.C S.K) []) := ent_xc0 (x := x_NothingToUndo) (g.kf.ex (x_NothingToUndo, []) (by decide +kernel)) g.x0 (g.mgx (x_NothingToUndo, []) (by decide +kernel))
  have B := fn_by (k := 2) (T := aN) (n := 40) (t := fun K E => t_make K (mkW K E) nd0 nds) F scN ⟨tab_nil, noB g, tab_cons x0 tab_nil, eMkK g (Nat.le_refl _), tab_nil, tab_nil, tab_nil⟩ len redN fun vs H Q E h => pure_make S.K (fun _ _ _ => mkW S.K E) nd0 nds nd_eq (fun a b c => mkW_ok) vs H Q h nP fun _ _ _ => rfl
  exact ent_def F B hk (mf g "_law_named") len fun _ _ _ _ _ _ us hl => match us, hl with | [_, _, _], _ => rfl
omit g in
theorem tab_map {α : Type} {P : Str → α → Prop} {f : Str → α} : ∀ {l : List Str}, (∀ n ∈ l, P n (f n)) → TabOk P (l.map fun n => (n, f n))
  | [], _ => tab_nil
  | n :: l, h => tab_cons (h n List.mem_cons_self) (tab_map fun m hm => h m (List.mem_cons_of_mem _ hm))
theorem eFields {k : Nat} (hk : 1 ≤ k) : CallE S k "_law_fields" (sp_fields S.K) := by
  obtain ⟨fd, F⟩ := g.F
  have len : ∀ vs H Q E, sp_fields S.K vs H Q E → vs.length = (["_law_made"] : List Str).length := fun vs H Q E ⟨_, _, _, _, _, _, _, _, e, _⟩ => by rw [e]; rfl
  have B := fn_by (k := 0) (T := aF) (n := 40) F scF ⟨tab_nil, noB g, tab_nil, noK g, tab_nil, tab_map fun f _ N X x L _ o to p hs ho => by rw [← L.hK]; exact att_exc hs ho, tab_nil⟩ len redF fun vs H Q E h => pure_fields S.K g.kf vs H Q E h
  exact ent_def F B hk (mf g "_law_fields") len fun _ _ _ _ _ _ us hl => match us, hl with | [_], _ => rfl
theorem eTruths {k : Nat} (hk : 1 ≤ k) : CallE S k "_law_truths" (sp_truths S.K) := by
  obtain ⟨fd, F⟩ := g.I
  have len : ∀ vs H Q E, sp_truths S.K vs H Q E → vs.length = (["_law_made"] : List Str).length := fun vs H Q E ⟨_, _, _, _, e, _⟩ => by rw [e]; rfl
  have glo : TabOk (fun x v => ∃ u, RelV v u ∧ (S.mg x = some u ∨ (S.mg x = none ∧ bootBuiltins x = some u))) (aI S.K).glo := by
    refine tab_append (tab_map (f := fun n => V.ref (He.ga S.K n)) fun n hn => ⟨_, rfl, .inl (g.mgo n hn)⟩) ?_
    refine tab_cons ⟨_, rfl, .inr ⟨fr g "ValueError", by decide +kernel⟩⟩ (tab_cons ⟨_, rfl, .inr ⟨fr g "LookupError", by decide +kernel⟩⟩ (tab_cons ⟨_, rfl, .inr ⟨fr g "RuntimeError", by decide +kernel⟩⟩ (tab_cons ⟨_, rfl, .inr ⟨fr g "ArithmeticError", by decide +kernel⟩⟩ tab_nil)))
  have B := fn_by (k := 0) (T := aI) (n := 40) F scI ⟨glo, noB g, tab_cons (ent_blt (fun N X x L hc => by rw [← L.hK]; exact call_isiG) (fr g "isinstance") (by decide +kernel)) tab_nil, noK g, tab_nil, tab_nil, tab_nil⟩ len redI fun vs H Q E h => pure_truths S.K g.kf vs H Q E h
  exact ent_def F B hk (mf g "_law_truths") len fun _ _ _ _ _ _ us hl => match us, hl with | [_], _ => rfl
theorem eMade {k : Nat} (hk : 2 ≤ k) : CallE S k "_law_made_right" (sp_made_right S.K) := by
  obtain ⟨fd, F⟩ := g.M
  have len : ∀ vs H Q E, sp_made_right S.K vs H Q E → vs.length = (["_law_made", "_law_a", "_law_b", "_law_c"] : List Str).length := fun vs H Q E ⟨_, _, _, _, _, _, _, e, _⟩ => by rw [e]; rfl
  have nb : ∀ x ∈ (["enumerate", "range"] : List Str), S.mg x = none := fun x hx => by
    rcases List.mem_cons.mp hx with rfl | hx
    · exact fr g "enumerate"
    · rcases List.mem_cons.mp hx with rfl | hx
      · exact fr g "range"
      · cases hx
  have B := fn_by (k := 1) (T := aM) (n := 40) F scM ⟨tab_nil, nb, tab_cons (ent_repr (fr g "repr") g.sm) (tab_cons (eFields g (Nat.le_refl _)) (tab_cons (ent_int (fr g "int")) (tab_cons (eTruths g (Nat.le_refl _)) (tab_cons (ent_len (fr g "len")) tab_nil)))), noK g, tab_nil, tab_nil, tab_nil⟩ len redM fun vs H Q E h => pure_made_right S.K g.kf vs H Q E h
  exact ent_def F B hk (mf g "_law_made_right") len fun _ _ _ _ _ _ us hl => match us, hl with | [_, _, _, _], _ => rfl
theorem eRight {k : Nat} (hk : 4 ≤ k) : CallE S k "_law_right" (sp_right S.K) := by
  obtain ⟨fd, F⟩ := g.Gr
  have len : ∀ vs H Q E, sp_right S.K vs H Q E → vs.length = (["_law_rng_here"] : List Str).length := fun vs H Q E ⟨_, e, _⟩ => by rw [e]; rfl
  have B := fn_by (k := 3) (T := aG) (n := 40) F scG (tabs_fn g (tab_cons (eThing g (Nat.le_refl _)) (tab_cons (ent_repr (fr g "repr") g.sm) (tab_cons (ePlaced g (Nat.le_refl _)) (tab_cons (eMade g (by decide)) (tab_cons (eNamed g (Nat.le_refl _)) tab_nil)))))) len redG fun vs H Q E h => pure_right S.K vs H Q E h
  exact ent_def F B hk (mf g "_law_right") len fun _ _ _ _ _ _ us hl => match us, hl with | [_], _ => rfl
theorem law_fn : FnG S 5 (He.fAd S.K ("law", none)) (sp_law S.K) := by
  obtain ⟨fd, F⟩ := g.L
  have len : ∀ vs H Q E, sp_law S.K vs H Q E → vs.length = (["_law_script"] : List Str).length := fun vs H Q E ⟨_, _, e, _⟩ => by rw [e]; rfl
  have nb : ∀ x ∈ (["range"] : List Str), S.mg x = none := fun x hx => by
    rcases List.mem_cons.mp hx with rfl | hx
    · exact fr g "range"
    · cases hx
  have B := fn_by (k := 4) (T := aL) (n := 40) F scL ⟨tab_nil, nb, tab_cons (ent_all (fr g "all")) (tab_cons (ent_max (fr g "max")) (tab_cons (ent_min (fr g "min")) (tab_cons (ent_len (fr g "len")) (tab_cons (eRight g (Nat.le_refl _)) (tab_cons (eRng g (by decide)) tab_nil))))), noK g, tab_nil, tab_nil, tab_nil⟩ len redL fun vs H Q E h => pure_law S.K vs H Q E h
  exact fn_pos F B len fun _ _ _ _ _ _ us hl => match us, hl with | [_], _ => rfl
end
end AS.K16

set_option Elab.async false
set_option linter.all false
set_option maxRecDepth 100000
set_option maxHeartbeats 0
namespace AS.K16
open PySem PySem.Spec PyProof.Rows L2
def gloB (K : PySem.W.Frag) (n : Str) : Bool := He.eqO (PySem.W.nsIn K mainGlobals n) (some (some (.ref (He.ga K n))))
def freeB (K : PySem.W.Frag) (n : Str) : Bool := He.eqO (PySem.W.nsIn K mainGlobals n) (some none)
def smB (K : PySem.W.Frag) : Bool := match K.lookup sysModules with
  | some o => decide (o.cls = .type "dict")
  | none => false
/-- the class that is asked of is one; its own part -/
def askB (K : PySem.W.Frag) : V → Bool
  | .ref C => (PySem.W.clsIn K C).isSome && PySem.W.typeIn K (.ref C) == some (.type "type")
  | .ty n => PySem.W.kitMeta n
  | _ => false
def mroB (K : PySem.W.Frag) (C : Addr) (vs : List Value) (bs : List Bool) : Bool := match PySem.W.clsIn K C with
  | some cd => !cd.mro.isEmpty && (cd.mro.contains (.ref C) && decide (vs.map (fun u => cd.mro.contains u) = bs))
  | none => false
def frVs {α : Type} : List V → (List Value → α) → α
  | [], k => k []
  | .ref a :: r, k => HandSHeadRun.frNat a fun a => frVs r fun r => k (.ref a :: r)
  | v :: r, k => frVs r fun r => k (toU v :: r)
theorem frVs_eq {α : Type} : ∀ (l : List V) (k : List Value → α), frVs l k = k (l.map toU)
  | [], _ => rfl
  | v :: r, k => by
    cases v <;> first | exact frVs_eq r _ | skip
    rename_i a
    show HandSHeadRun.frNat a (fun a => frVs r fun r => k (.ref a :: r)) = k (.ref a :: r.map toU)
    rw [HandSHeadRun.frNat_eq, frVs_eq r]
def isB (K : PySem.W.Frag) : Bool := (cvV K).all (askB K) && frVs (cvV K) fun us => (List.range 40).all fun k => match xs[k]? with
  | some p => HandSHeadRun.frNat (p.1.C K) fun C => mroB K C us (rowB k)
  | none => true
theorem is_of {K : PySem.W.Frag} (h : isB K = true) {k : Nat} {p : XC × List Nat} (hk : xs[k]? = some p) (hl : k < 40) : (cvV K).map (fun c => PySem.W.kitOne K (.ref (p.1.C K)) (toU c)) = (rowB k).map some := by
  obtain ⟨h1, h2⟩ := b2 h
  rw [frVs_eq] at h2
  have q := List.all_eq_true.mp h2 k (List.mem_range.mpr hl)
  rw [hk] at q
  have q : HandSHeadRun.frNat (p.1.C K) (fun C => mroB K C ((cvV K).map toU) (rowB k)) = true := q
  rw [HandSHeadRun.frNat_eq] at q
  unfold mroB at q
  cases e : PySem.W.clsIn K (p.1.C K) with
  | none => rw [e] at q; cases q
  | some cd =>
    rw [e] at q
    obtain ⟨q1, q⟩ := b2 q
    obtain ⟨q2, q3⟩ := b2 q
    have q3 := of_decide_eq_true q3
    rw [← q3, List.map_map, List.map_map]
    refine List.map_congr_left fun c hc => ?_
    have a := List.all_eq_true.mp h1 c hc
    show PySem.W.kitOne K (.ref (p.1.C K)) (toU c) = some (cd.mro.contains (toU c))
    have sub : ∀ u : Value, PySem.W.subIn K (.ref (p.1.C K)) u = some (cd.mro.contains u) := fun u => by
      show (PySem.W.clsIn K (p.1.C K)).bind (fun cd => if cd.mro.isEmpty = true then none else some (cd.mro.contains u)) = some (cd.mro.contains u)
      rw [e]
      show (if cd.mro.isEmpty = true then none else some (cd.mro.contains u)) = some (cd.mro.contains u)
      have ne : cd.mro.isEmpty = false := by simpa using q1
      rw [ne]
      rfl
    unfold PySem.W.kitOne
    split
    · rename_i z
      rw [← beq_iff_eq.mp z, q2]
    · cases c with
      | ref C =>
        show (if ((PySem.W.clsIn K C).isSome && PySem.W.typeIn K (.ref C) == some (.type "type")) = true then PySem.W.subIn K (.ref (p.1.C K)) (.ref C) else none) = _
        rw [if_pos (show ((PySem.W.clsIn K C).isSome && PySem.W.typeIn K (.ref C) == some (.type "type")) = true from a)]
        exact sub _
      | ty n =>
        show (if PySem.W.kitMeta n = true then PySem.W.subIn K (.ref (p.1.C K)) (.type n) else none) = _
        rw [if_pos (show PySem.W.kitMeta n = true from a)]
        exact sub _
      | _ => cases a
def chk (K : PySem.W.Frag) : Bool := xi.all (XC.ok K) && (x_NothingToUndo.ok0 K && (own.all (gloB K) && (frees.all (freeB K) && (fnms.all (gloB K) && (smB K && isB K)))))
def dI (c : String) (i : Nat) : He.DefD := ⟨(Str.ofString c, some "__init__"), "__init__", Str.ofString (c ++ ".__init__"), defArgs (inClass (top i) 0), defBody (inClass (top i) 0), defScope (inClass (top i) 0), [], []⟩
def dT (n : String) (st : Stmt) : He.DefD := ⟨(Str.ofString n, none), Str.ofString n, Str.ofString n, defArgs st, defBody st, defScope st, [], []⟩
def fns : List He.DefD := [dT "_law_rng" sR, dT "_law_draw" sD, dT "_law_choice" sC, dT "_law_thing" sT, dT "_law_placed" sP, dT "_law_named" sN, dT "_law_fields" sF, dT "_law_truths" sI, dT "_law_made_right" sM, dT "_law_right" sG, dT "law" sL, dI "InvalidName" 17, dI "InvalidNames" 18, dI "InvalidSize" 19, dI "InvalidSizes" 20, dI "InvalidCount" 21, dI "InvalidNumber" 22, dI "InvalidNumbers" 23, dI "InvalidPoint" 24, dI "InvalidPoints" 25, dI "InvalidText" 26, dI "InvalidFacts" 27, dI "InvalidGoal" 28, dI "InvalidCone" 29, dI "InvalidInputs" 30, dI "InvalidLine" 31, dI "InvalidProgram" 32, dI "InvalidTerm" 33, dI "InvalidTerms" 34, dI "InvalidWord" 35, dI "InvalidPosition" 36, dI "InvalidPositions" 37, dI "InvalidIndex" 38, dI "InvalidContents" 39, dI "InvalidMeanings" 40, dI "InvalidDigits" 41, dI "OtherInputs" 42, dI "InvalidAnswer" 43, dI "InvalidQuestion" 44, dI "InvalidCommand" 45, dI "UnknownArray" 2, dI "UnknownName" 3, dI "UnknownFact" 4, dI "DoesNotRun" 6, dI "BrokenFact" 7, dI "NotWhole" 8, dI "CannotCut" 9, dI "IsCrossed" 10, dI "CommandFailed" 12, dI "TooMany" 14]
theorem all_cons {α : Type} {P : α → Prop} {x : α} {l : List α} (h : P x) (t : ∀ y ∈ l, P y) : ∀ y ∈ x :: l, P y := fun y hy => (List.mem_cons.mp hy).elim (fun e => e ▸ h) (t y)
theorem all_nil {α : Type} {P : α → Prop} : ∀ y ∈ ([] : List α), P y := fun _ h => nomatch h
theorem facts {P : Program} {w : World} {K : PySem.W.Frag} {h base : Heap} {mg : Str → Option Value} (X : K.In h) (N : h.Ns mainGlobals mg) (c : SaysA chk fns K) : G ⟨P, w, K, mg, base⟩ := by
  obtain ⟨c1, q⟩ := b2 c.holds
  obtain ⟨c2, q⟩ := b2 q
  obtain ⟨c3, q⟩ := b2 q
  obtain ⟨c4, q⟩ := b2 q
  obtain ⟨c5, q⟩ := b2 q
  obtain ⟨c6, c7⟩ := b2 q
  obtain ⟨z1, q⟩ := b2 c2
  obtain ⟨z2, z3⟩ := b2 q
  have xo : ∀ x ∈ xi, XOk K x := fun x hx => XC.ok_of (List.all_eq_true.mp c1 x hx)
  have glo : ∀ {n : Str}, gloB K n = true → mg n = some (.ref (He.ga K n)) := fun e => PySem.W.mg_of X N (He.eqO_ok e)
  refine ⟨⟨fun p hp => ?_, fun p hp f hf => ?_, fun k p hk => ?_⟩, ?_, xo, z3, fun p hp => ?_, fun n hn => glo (List.all_eq_true.mp c3 n hn), fun n hn => PySem.W.mg_none_of X N (He.eqO_ok (List.all_eq_true.mp c4 n hn)), fun n hn => glo (List.all_eq_true.mp c5 n hn), ?_, c.def_ 0 rfl, c.def_ 1 rfl, c.def_ 2 rfl, c.def_ 3 rfl, c.def_ 4 rfl, c.def_ 5 rfl, c.def_ 6 rfl, c.def_ 7 rfl, c.def_ 8 rfl, c.def_ 9 rfl, c.def_ 10 rfl⟩
  · rcases xs_split p hp with e | rfl
    · exact (xo _ e).T
    · exact excB_ok z1
  · rcases xs_split p hp with e | rfl
    · exact (xo _ e).no f hf
    · cases hf
  · have hl : k < 40 := by
      have q := (List.getElem?_eq_some_iff.mp hk).1
      exact q
    exact is_of c7 hk hl
  · unfold smB at c6
    cases e : K.lookup sysModules with
    | none => rw [e] at c6; cases c6
    | some o =>
      rw [e] at c6
      exact ⟨o, e, of_decide_eq_true c6⟩
  · rcases xs_split p hp with e | rfl
    · exact PySem.W.mg_of X N (xo _ e).ns
    · exact PySem.W.mg_of X N (He.eqO_ok z2)
  · exact all_cons (i_InvalidName (c.def_ 11 rfl)) (all_cons (i_InvalidNames (c.def_ 12 rfl)) (all_cons (i_InvalidSize (c.def_ 13 rfl)) (all_cons (i_InvalidSizes (c.def_ 14 rfl)) (all_cons (i_InvalidCount (c.def_ 15 rfl)) (all_cons (i_InvalidNumber (c.def_ 16 rfl)) (all_cons (i_InvalidNumbers (c.def_ 17 rfl)) (all_cons (i_InvalidPoint (c.def_ 18 rfl)) (all_cons (i_InvalidPoints (c.def_ 19 rfl)) (all_cons (i_InvalidText (c.def_ 20 rfl)) (all_cons (i_InvalidFacts (c.def_ 21 rfl)) (all_cons (i_InvalidGoal (c.def_ 22 rfl)) (all_cons (i_InvalidCone (c.def_ 23 rfl)) (all_cons (i_InvalidInputs (c.def_ 24 rfl)) (all_cons (i_InvalidLine (c.def_ 25 rfl)) (all_cons (i_InvalidProgram (c.def_ 26 rfl)) (all_cons (i_InvalidTerm (c.def_ 27 rfl)) (all_cons (i_InvalidTerms (c.def_ 28 rfl)) (all_cons (i_InvalidWord (c.def_ 29 rfl)) (all_cons (i_InvalidPosition (c.def_ 30 rfl)) (all_cons (i_InvalidPositions (c.def_ 31 rfl)) (all_cons (i_InvalidIndex (c.def_ 32 rfl)) (all_cons (i_InvalidContents (c.def_ 33 rfl)) (all_cons (i_InvalidMeanings (c.def_ 34 rfl)) (all_cons (i_InvalidDigits (c.def_ 35 rfl)) (all_cons (i_OtherInputs (c.def_ 36 rfl)) (all_cons (i_InvalidAnswer (c.def_ 37 rfl)) (all_cons (i_InvalidQuestion (c.def_ 38 rfl)) (all_cons (i_InvalidCommand (c.def_ 39 rfl)) (all_cons (i_UnknownArray (c.def_ 40 rfl)) (all_cons (i_UnknownName (c.def_ 41 rfl)) (all_cons (i_UnknownFact (c.def_ 42 rfl)) (all_cons (i_DoesNotRun (c.def_ 43 rfl)) (all_cons (i_BrokenFact (c.def_ 44 rfl)) (all_cons (i_NotWhole (c.def_ 45 rfl)) (all_cons (i_CannotCut (c.def_ 46 rfl)) (all_cons (i_IsCrossed (c.def_ 47 rfl)) (all_cons (i_CommandFailed (c.def_ 48 rfl)) (all_cons (i_TooMany (c.def_ 49 rfl)) (all_nil)))))))))))))))))))))))))))))))))))))))
abbrev RW : PySem.W.OpenRow := PySem.W.OpenLaw.row PySem.Challenge.rw_anyshape_k16_errors_and_their_classes
def loose : List Str := (["MissingError", "UnknownArray", "UnknownName", "UnknownFact", "StateError", "DoesNotRun", "BrokenFact", "NotWhole", "CannotCut", "IsCrossed", "NothingToUndo", "CommandFailed", "LimitError", "TooMany", "AnyshapeError", "InvalidName", "InvalidNames", "InvalidSize", "InvalidSizes", "InvalidCount", "InvalidNumber", "InvalidNumbers", "InvalidPoint", "InvalidPoints", "InvalidText", "InvalidFacts", "InvalidGoal", "InvalidCone", "InvalidInputs", "InvalidLine", "InvalidProgram", "InvalidTerm", "InvalidTerms", "InvalidWord", "InvalidPosition", "InvalidPositions", "InvalidIndex", "InvalidContents", "InvalidMeanings", "InvalidDigits", "OtherInputs", "InvalidAnswer", "InvalidQuestion", "InvalidCommand", "_law_rng", "_law_draw", "_law_choice", "_law_thing", "_law_placed", "_law_named", "_law_fields", "_law_truths", "_law_made_right", "_law_right"] : List String).map Str.ofString
theorem run (w : World) : HandSHeadRun.RunEq RW (PySem.W.view RW.prog [57]) (hookA 4 chk fns) (obA 4 chk fns) 20000 loose w := by
  intro os
  kernel_rfl
end AS.K16
open PySem PySem.W PySem.Calls PyProof.Rows
theorem PySem.Challenge.cw_anyshape_k16_errors_and_their_classes_holds : PySem.Challenge.rw_anyshape_k16_errors_and_their_classes.Holds := by
  w_on; o_law
  refine HandSHeadRun.head_any (r := AS.K16.RW) (q := view AS.K16.RW.prog [57]) (H := AS.hookA 4 AS.K16.chk AS.K16.fns) (ob := AS.obA 4 AS.K16.chk AS.K16.fns) (M := 20000) (loose := AS.K16.loose) (d := HandSHeadRun.topDef AS.K16.RW.prog 57) (kwd := []) (AS.obA_eq 4 AS.K16.chk AS.K16.fns)
    (by kernel_rfl) (fun s => by kernel_rfl) AS.K16.run (by kernel_rfl) (by kernel_rfl) (by kernel_rfl) (by rfl) (by first | assumption | decide +kernel) (by decide +kernel) ⟨rfl, rfl, rfl, rfl, rfl, by decide +kernel⟩ ?hw ?hc
  case hw => w_witness2
  case hc =>
    refine AS.walk_G (l := PySem.Challenge.rw_anyshape_k16_errors_and_their_classes) (n := 63) (k := 5) rfl (by decide) (by kernel_rfl) ⟨⟨rfl, by decide, by decide⟩, rfl⟩ ?F
    intro w mg fa h Y N hmg0
    obtain ⟨K, KX, c⟩ := Y
    have hmg : mg ("law" : PySem.Str) = some (.ref fa) := by
      have e : (HandSHeadRun.topDef AS.K16.RW.prog 57).name = ("law" : PySem.Str) := by kernel_rfl
      rw [← e]
      exact hmg0
    have g : ∀ base : Heap, AS.K16.G ⟨PySem.Challenge.rw_anyshape_k16_errors_and_their_classes.prog, w, K, mg, base⟩ := fun base => AS.K16.facts KX N c
    have e := hmg.symm.trans (AS.K16.mf (g h) "law")
    cases e
    exact ⟨K, AS.K16.sp_law K, KX, fun H a ns _ _ hS => ⟨a, ns, rfl, hS, fun _ => rfl⟩, fun base => AS.K16.law_fn (g base)⟩

