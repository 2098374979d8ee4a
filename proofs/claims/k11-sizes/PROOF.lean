import PyProof.Rows.All
import Wide.All
import OpenK.AllK
import Wide.FinOn
import HandS.ForMost
import HandS.ListItems
import HandS.Conv
import KE.KDictList
import HandS.Exc
import HandS.ExcOwn
import HandS.TryOnly
import HandS.WordsExc
import HandS.CallSlots
import HandS.IsInst
import HandS.DictComp
import HandS.Style
import HandS.Flow
import HandS.Defaults
import HandS.FStr
import HandS.Steps
import HandS.Deep
import KE.KExcInit
import KE.KExcMake
import KE.KExcPX
import KE.KExcIs
import KE.KIsAll
import HandS.ExcInit
import HandS.ExcValue
import HandS.HeadHook1
import HandS.Property
import HandS.SlotsOwn
import HandS.ClsMeth
import HandS.Star
import HandS.More
import HandS.Text
import HandS.RaiseMore
import KE.KCallOwn
import OpenK.KOps
import HandS.Ends
import HandS.EndBits
import HandS.Head0
import HandS.Head1
import HandS.Head2
import HandS.HeadHook2
import PyProof.InstNe
import KE.KParD
import PyProof.Rows.SortStr
import PyProof.StrLawsRepr
import HandS.HeadEnd
import KE.KStateDown
import PySem.Challenge.RW_anyshape_k11_sizes_by_dicts
set_option Elab.async false
set_option linter.all false
set_option maxRecDepth 100000
set_option maxHeartbeats 4000000
/-! E0: list(d.items()), list(d.values()), list(d), of a dict that may be locked. -/
namespace AS
open PySem PySem.Spec PyProof.Rows L2
def rItemsR : V → Hp → VK → Prop := fun x H Q => ∃ (d : Addr) (kvs : List (Key × V)), x = .ref d ∧ Rd H d (.dK kvs) ∧
  ∀ (H' : Hp) (p : Addr) (ts : List Addr), (∀ b o, H b = some o → H' b = some o) → H p = none → (∀ t ∈ ts, H t = none) → p ∉ ts → H' p = some (.lst (ts.map V.ref)) → Paired (fun (t : Addr) (q : Key × V) => H' t = some (.tup [kV q.1, q.2])) ts kvs → Q (.ref p) H'
def tListI (te : TE) : TE := fun σ H Q => te σ H fun x H1 => rItemsR x H1 Q
def rValsR : V → Hp → VK → Prop := fun x H Q => ∃ (d : Addr) (kvs : List (Key × V)), x = .ref d ∧ Rd H d (.dK kvs) ∧ ∀ p, H p = none → Q (.ref p) (upd H p (.lst (kvs.map (·.2))))
def tListV (te : TE) : TE := fun σ H Q => te σ H fun x H1 => rValsR x H1 Q
section
variable {X : Cx} {e : Expr} {te : TE} {p apos cpos pos : Pos}
theorem pe_listI (hc : X.calm = true) (he : PE X e te) (hg : Gl X "list") (hm : X.mg "list" = none) (hbase : attributeBase e "items" X.env (eval e X.env) = eval e X.env) (hline : (apos.endLine == cpos.line) = true) :
    PE X (.Call (.Name "list" p) [.Call (.Attribute e "items" apos) [] [] cpos] [] pos) (tListI te) := by
  have hs : starEach [.Call (.Attribute e "items" apos) [] [] cpos] X.env = (false, eval (.Call (.Attribute e "items" apos) [] [] cpos) X.env) :: starEach [] X.env := rfl
  refine ⟨fun pins s σ H Q I hq => ?_⟩
  refine wpAny_Call_Name_kw (ld_blt I hg hm (show bootBuiltins "list" = some (.type "list") by decide +kernel) ?_)
  refine PyProof.Rows.callWith_type1 ?_ hs rfl
  rw [hs]
  show wpAny _ _ (spliced ((false, eval (.Call (.Attribute e "items" apos) [] [] cpos) X.env) :: backTo pos (starEach [] X.env))) _ _ s
  refine Calls.spliced_cons ?_
  refine wpAny_Call_method (T := "dict") (id := "dict.items") hbase rfl hline F.plainAttrs_dict F.slot_dict_items F.type_dict_items (thn (he.run pins s σ H _ I hq) fun u s1 ⟨x, H1, I1, rx, d, kvs, ex, hd, q⟩ => ?_)
  subst ex
  obtain rfl : u = Value.ref d := rx
  obtain ⟨hz, hs0, vs, kv, hdo⟩ := dk_rd I1.hok hd
  obtain ⟨ep, hat⟩ := hdo.dictAt
  have lk : kvs.length = vs.length := Paired.length kv
  have I2 : Inv X pins σ H1 { s1 with heap := s1.heap.push { cls := .type "dict_items", data := .fields #[.ref d] } } := I1.kept (t' := s1.toks) fun b ob q => Heap.get?_push_of_some _ q
  refine ⟨hdo.typeIs, hdo.mapOf.noDict, ?_⟩
  show wpAny _ _ (callWith cpos (.builtin "dict.items") [.ref d] [] []) _ X.xe s1
  refine method_meetsIn F.slot_dict_items F.entry_dict_items rfl (PySem.evalArgs_none ⟨rfl, hdo.typeIs, F.args_dict_items_1 _, _, meets_dict_items (mixKind X.prog X.w) d hs0, ⟨vs, hdo⟩, ?_⟩)
  refine Calls.spliced_nil ?_
  refine PySem.W.kdx_call (knd := mixKind X.prog X.w) (kvs := vs) (ep := ep) (I1.ok.hd hc) ⟨_, Heap.get?_push_size _ rfl, rfl, rfl⟩ (hat.push _) (by omega) fun h' tk acc c as hk hS hl hG hacc => ?_
  obtain ⟨H', k1, k2, k3, k4, k5, k6, J⟩ := LiI.items_laid (tk := tk) I2 hz kv hk hS hl hG hacc
  exact ⟨.ref _, H', J, rfl, q H' _ as k1 k2 k3 k4 k5 k6⟩
theorem pe_listV (hc : X.calm = true) (he : PE X e te) (hg : Gl X "list") (hm : X.mg "list" = none) (hbase : attributeBase e "values" X.env (eval e X.env) = eval e X.env) (hline : (apos.endLine == cpos.line) = true) :
    PE X (.Call (.Name "list" p) [.Call (.Attribute e "values" apos) [] [] cpos] [] pos) (tListV te) := by
  have hs : starEach [.Call (.Attribute e "values" apos) [] [] cpos] X.env = (false, eval (.Call (.Attribute e "values" apos) [] [] cpos) X.env) :: starEach [] X.env := rfl
  refine ⟨fun pins s σ H Q I hq => ?_⟩
  refine wpAny_Call_Name_kw (ld_blt I hg hm (show bootBuiltins "list" = some (.type "list") by decide +kernel) ?_)
  refine PyProof.Rows.callWith_type1 ?_ hs rfl
  rw [hs]
  show wpAny _ _ (spliced ((false, eval (.Call (.Attribute e "values" apos) [] [] cpos) X.env) :: backTo pos (starEach [] X.env))) _ _ s
  refine Calls.spliced_cons ?_
  refine wpAny_Call_method (T := "dict") (id := "dict.values") hbase rfl hline F.plainAttrs_dict F.slot_dict_values F.type_dict_values (thn (he.run pins s σ H _ I hq) fun u s1 ⟨x, H1, I1, rx, d, kvs, ex, hd, q⟩ => ?_)
  subst ex
  obtain rfl : u = Value.ref d := rx
  obtain ⟨hz, hs0, vs, kv, hdo⟩ := dk_rd I1.hok hd
  obtain ⟨ep, hat⟩ := hdo.dictAt
  have lk : kvs.length = vs.length := Paired.length kv
  have I2 : Inv X pins σ H1 { s1 with heap := s1.heap.push { cls := .type "dict_values", data := .fields #[.ref d] } } := I1.kept (t' := s1.toks) fun b ob q => Heap.get?_push_of_some _ q
  refine ⟨hdo.typeIs, hdo.mapOf.noDict, ?_⟩
  show wpAny _ _ (callWith cpos (.builtin "dict.values") [.ref d] [] []) _ X.xe s1
  refine method_meetsIn F.slot_dict_values F.entry_dict_values rfl (PySem.evalArgs_none ⟨rfl, hdo.typeIs, F.args_dict_values_1 _, _, meets_dict_values (mixKind X.prog X.w) d hs0, ⟨vs, hdo⟩, ?_⟩)
  refine Calls.spliced_nil ?_
  refine PySem.W.kdl_call (PySem.W.kdl_values (knd := mixKind X.prog X.w) (kvs := vs) (ep := ep)) (I1.ok.hd hc) ⟨⟨_, Heap.get?_push_size _ rfl, rfl, rfl⟩, hat.push _⟩ (by rw [← lk]; exact hz) fun h' tk acc' c' hkeep hS hacc => ?_
  refine ⟨.ref _, upd H1 _ (.lst (kvs.map (·.2))), I2.laid hkeep (Nat.le_refl _) (show ObjOk X.prog X.w _ _ _ (.lst (kvs.map (·.2))) from ⟨?_, acc'.toList, c', ?_, ?_⟩), rfl, q _ (I2.hok.fresh (Nat.le_refl _))⟩
  · rw [List.length_map]; exact hz
  · have el : acc'.toList.length = acc'.size := by simp
    refine vals_of_at (by rw [List.length_map, el, hacc.1, lk]) fun j x w h1 h2 => ?_
    obtain ⟨k, hky⟩ := hacc.2 j w (by rw [← Array.getElem?_toList]; exact h2)
    rw [List.getElem?_map] at h1
    cases e1 : kvs[j]? with
    | none => rw [e1] at h1; cases h1
    | some pq =>
      rw [e1] at h1
      cases h1
      obtain ⟨y, g1, g2⟩ := LiI.paired_get kv e1
      rw [hky] at g1
      cases g1
      exact g2.2
  · rw [Array.toArray_toList]; exact hS
def rListR : List V → Hp → VK → Prop := fun xs H Q => ∃ p kvs, xs = [.ref p] ∧ Rd H p (.dK kvs) ∧ ∀ q, H q = none → Q (.ref q) (upd H q (.lst (kvs.map fun kv => kV kv.1)))
theorem call_listR (hc : X.calm = true) : CallR X (.type "list") rListR := by
  intro pins s σ H xs us Q I r h
  obtain ⟨p, kvs, e, hk, q⟩ := h
  subst e
  obtain ⟨u, eu, rx⟩ := vals1 r
  subst eu
  obtain rfl : u = Value.ref p := rx
  obtain ⟨z, lo, vs, rk, hd⟩ := dk_rd I.hok hk
  obtain ⟨ep, hat⟩ := hd.dictAt
  have hl : kvs.length = vs.length := Paired.length rk
  refine PySem.W.kdl_call (PySem.W.kdl_dict (knd := mixKind X.prog X.w) (kvs := vs) (ep := ep) lo) (I.ok.hd hc) hat (by rw [← hl]; exact z) fun h' tk acc' c' hkeep hS hacc => ?_
  refine ⟨.ref s.heap.objs.size, upd H s.heap.objs.size (.lst (kvs.map fun kv => kV kv.1)), I.laid hkeep (Nat.le_refl _) (show ObjOk X.prog X.w _ _ _ (.lst (kvs.map fun kv => kV kv.1)) from ⟨?_, acc'.toList, c', ?_, ?_⟩), rfl, q _ (I.hok.fresh (Nat.le_refl _))⟩
  · rw [List.length_map]; exact z
  · have el : acc'.toList.length = acc'.size := by simp
    refine vals_of_at (by rw [List.length_map, el, hacc.1, hl]) fun j x w h1 h2 => ?_
    obtain ⟨k, y, hky, hi⟩ := hacc.2 j w (by rw [← Array.getElem?_toList]; exact h2)
    have e1 : (kvs.map (·.1))[j]? = some k := by
      rw [KV.keys rk, List.getElem?_map, hky] <;> rfl
    have e2 : (kvs.map fun kv => kV kv.1)[j]? = some (kV k) := by
      have e3 : (kvs.map fun kv => kV kv.1) = (kvs.map (·.1)).map kV := by rw [List.map_map] <;> rfl
      rw [e3, List.getElem?_map, e1] <;> rfl
    rw [e2] at h1
    cases h1
    exact keyIs_rel hi
  · rw [Array.toArray_toList]; exact hS
theorem call_lenR : CallR X (.builtin "len") (fun xs H Q => ∃ a kvs, xs = [V.ref a] ∧ Rd H a (.dK kvs) ∧ Q (.int kvs.length) H) := by
  intro pins s σ H xs us Q I r h
  obtain ⟨a, kvs, rfl, ha, q⟩ := h
  obtain ⟨u, rfl, ru⟩ := vals1 r
  cases ru
  exact d_len I ha fun t s' I' => ⟨.int kvs.length, H, I', ⟨t, rfl⟩, q⟩
end
end AS

set_option Elab.async false
set_option linter.all false
set_option maxRecDepth 100000
set_option maxHeartbeats 4000000
/-! E1: the reading of a piece of Python is COMPUTED from its syntax (wp), by fuel; one theorem (sound) says that each computed reading is a right one. What operators, built-ins, defs, methods mean is an oracle Γ, told apart. -/
namespace AS
open PySem PySem.Spec PyProof.Rows L2
abbrev St := L2.St

/-! ### readings that say nothing -/
def nE : TE := fun _ _ _ => False
def nT : TT := fun _ _ _ => False
def nA : TA := fun _ _ _ => False
def nS : TS := fun _ _ _ => False
def nG : TG := fun _ _ _ _ => False
def nGs : TGs := fun _ _ _ _ => False
def nI : TI := fun _ _ _ => False
section
variable {X : Cx}
theorem pe_n {e : Expr} : PE X e nE := ⟨fun _ _ _ _ _ _ h => h.elim⟩
theorem pt_n {e : Expr} : PT X e nT := ⟨fun _ _ _ _ _ _ h => h.elim⟩
theorem pa_n {es : List Expr} : PA X es nA := ⟨fun _ _ _ _ _ _ _ h => h.elim⟩
theorem ps_n {s : Stmt} : PS X s nS := ⟨fun _ _ _ _ _ _ h => h.elim⟩
theorem pss_n {s : List Stmt} : PSs X s nS := ⟨fun _ _ _ _ _ _ h => h.elim⟩
theorem pg_n {e : Expr} : PG X e nG := ⟨fun _ _ _ _ _ _ _ _ _ h => h.elim⟩
theorem pgs_n {es : List Expr} : PGs X es nGs := ⟨fun _ _ _ _ _ _ _ _ _ h => h.elim⟩
theorem pi_n {tg e : Expr} : PI X tg e nI := ⟨fun _ _ _ _ _ _ h => h.elim⟩
theorem pe_imp {e : Expr} {t t' : TE} (h : PE X e t) (hi : ∀ σ H Q, t' σ H Q → t σ H Q) : PE X e t' := ⟨fun pins s σ H Q I q => h.run pins s σ H Q I (hi σ H Q q)⟩
theorem pt_imp {e : Expr} {t t' : TT} (h : PT X e t) (hi : ∀ σ H Q, t' σ H Q → t σ H Q) : PT X e t' := ⟨fun pins s σ H Q I q => h.run pins s σ H Q I (hi σ H Q q)⟩
theorem ps_imp {e : Stmt} {t t' : TS} (h : PS X e t) (hi : ∀ D σ H, t' D σ H → t D σ H) : PS X e t' := ⟨fun pins s σ H D I q => h.run pins s σ H D I (hi D σ H q)⟩
def oE (t u : TE) : TE := fun σ H Q => t σ H Q ∨ u σ H Q
theorem pe_or {e : Expr} {t u : TE} (h : PE X e t) (k : PE X e u) : PE X e (oE t u) := ⟨fun pins s σ H Q I q => q.elim (h.run pins s σ H Q I) (k.run pins s σ H Q I)⟩
def oS (t u : TS) : TS := fun D σ H => t D σ H ∨ u D σ H
theorem ps_or {e : Stmt} {t u : TS} (h : PS X e t) (k : PS X e u) : PS X e (oS t u) := ⟨fun pins s σ H D I q => q.elim (h.run pins s σ H D I) (k.run pins s σ H D I)⟩
def oT (t u : TT) : TT := fun σ H Q => t σ H Q ∨ u σ H Q
theorem pt_or {e : Expr} {t u : TT} (h : PT X e t) (k : PT X e u) : PT X e (oT t u) := ⟨fun pins s σ H Q I q => q.elim (h.run pins s σ H Q I) (k.run pins s σ H Q I)⟩
def oI (t u : TI) : TI := fun σ H R => t σ H R ∨ u σ H R
theorem pi_or {tg e : Expr} {t u : TI} (h : PI X tg e t) (k : PI X tg e u) : PI X tg e (oI t u) := ⟨fun pins s σ H R I q => q.elim (h.run pins s σ H R I) (k.run pins s σ H R I)⟩
def oG (t u : TG) : TG := fun v σ H Q => t v σ H Q ∨ u v σ H Q
theorem pg_or {e : Expr} {t u : TG} (h : PG X e t) (k : PG X e u) : PG X e (oG t u) := ⟨fun pins s σ H v w Q I r q => q.elim (h.run pins s σ H v w Q I r) (k.run pins s σ H v w Q I r)⟩
end

/-! ### syntax -/
def plainA : Expr → Bool
  | .Starred _ _ => false
  | _ => true
def isComp : Expr → Bool
  | .ListComp _ _ _ _ => true
  | .SetComp _ _ _ _ => true
  | .DictComp _ _ _ _ _ => true
  | _ => false
def isTest : Expr → Bool
  | .UnaryOp .Not _ _ => true
  | .BoolOp _ _ _ => true
  | .IfExp _ _ _ _ => true
  | .Compare _ _ _ _ => true
  | _ => false
def isSet : Expr → Bool
  | .Set _ _ _ => true
  | _ => false
/-- super() ahead of an attribute -/
def isSup : Expr → Bool
  | .Call (.Name _ _) [] [] _ => true
  | _ => false
theorem star_one {env : Env} {e : Expr} {es : List Expr} (h : plainA e = true) : starEach (e :: es) env = (false, eval e env) :: starEach es env := by
  cases e <;> first | rfl | cases h
theorem star_all {env : Env} {pos : Pos} : ∀ {es : List Expr}, es.all plainA = true → (backTo pos (starEach es env)).any (·.1) = false
  | [], _ => rfl
  | e :: es, h => by
    obtain ⟨h1, h2⟩ := Bool.and_eq_true_iff.mp (show (plainA e && es.all plainA) = true from h)
    rw [star_one h1]
    exact star_all h2
theorem swap_no {env : Env} {e : Expr} {t : Option Expr} {l : Nat} (h : isComp e = false) : swapsWith e t l env = pure false := by
  cases e <;> first | rfl | cases h
theorem swap_att {env : Env} {e o : Expr} {f : Str} {p : Pos} {l : Nat} : swapsWith e (some (.Attribute o f p)) l env = pure false := by
  cases e <;> rfl
theorem truth_no {env : Env} {e : Expr} (h : isTest e = false) (whole : Sem Value) : isTrue e env whole = (do let v ← whole; standAt e.pos; holding [v] (truthy v)) := by
  cases e with
  | UnaryOp op a p => cases op <;> first | rfl | cases h
  | _ => first | rfl | cases h
theorem fold_no {env : Env} {e : Expr} (h : isSet e = false) (x : Value) : foldedSetIterable e env x = pure x := by
  cases e <;> first | rfl | cases h
theorem sup_no {env : Env} {e : Expr} {f : Str} {w : Sem Value} (h : isSup e = false) : attributeBase e f env w = w := by
  cases e with
  | Call g as ks p =>
    cases g with
    | Name x q =>
      cases as with
      | nil =>
        cases ks with
        | nil => cases h
        | cons _ _ => rfl
      | cons _ _ => rfl
    | _ => rfl
  | _ => rfl

/-! ### names -/
def slotOf : List Str → Str → Option Nat
  | [], _ => none
  | y :: r, x => if y = x then some 0 else (slotOf r x).map (· + 1)
theorem slotOf_at : ∀ {N : List Str} {x : Str} {i : Nat}, slotOf N x = some i → N[i]? = some x
  | [], _, _, h => by cases h
  | y :: r, x, i, h => by
    unfold slotOf at h
    split at h
    · rename_i e
      cases h
      rw [e]
      rfl
    · cases q : slotOf r x with
      | none => rw [q] at h; cases h
      | some j =>
        rw [q] at h
        cases h
        exact slotOf_at (N := r) q
def visB (sc : Scope) (x : Str) : Bool := match sc.names.lookup x with
  | some .local => true
  | some .cell => true
  | some .free => true
  | _ => false
def locB (sc : Scope) (x : Str) : Bool := match sc.names.lookup x with
  | some .local => true
  | some .cell => true
  | _ => false
def gloB (sc : Scope) (x : Str) : Bool := match sc.names.lookup x with
  | some .globalImplicit => true
  | _ => false
theorem visB_ok {sc : Scope} {x : Str} (h : visB sc x = true) : Vis sc x := by
  unfold visB at h
  split at h <;> first | exact .inl (by assumption) | exact .inr (.inl (by assumption)) | exact .inr (.inr (by assumption)) | cases h
theorem locB_ok {sc : Scope} {x : Str} (h : locB sc x = true) : Loc sc x := by
  unfold locB at h
  split at h <;> first | exact .inl (by assumption) | exact .inr (by assumption) | cases h
theorem gloB_ok {sc : Scope} {x : Str} (h : gloB sc x = true) : sc.names.lookup x = some .globalImplicit := by
  unfold gloB at h
  split at h <;> first | assumption | cases h
def badName (x : Str) : Bool := x == ("__debug__" : Str) || x == ("__classdict__" : Str) || x == ("__name__" : Str)
theorem badName_no {x : Str} (h : badName x = false) : (x == ("__debug__" : Str)) = false ∧ (x == ("__classdict__" : Str)) = false ∧ x ≠ "__name__" := by
  unfold badName at h
  simp only [Bool.or_eq_false_iff] at h
  exact ⟨h.1.1, h.1.2, beq_eq_false_iff_ne.mp h.2⟩
/-- what stands in a slot -/
def sl : St → Nat → Option V
  | [], _ => none
  | v :: _, 0 => v
  | _ :: r, i + 1 => sl r i
theorem sl_at : ∀ {σ : St} {i : Nat} {v : V}, sl σ i = some v → σ[i]? = some (some v)
  | [], _, _, h => by cases h
  | w :: r, 0, v, h => by
    have e : w = some v := h
    rw [e]
    rfl
  | w :: r, i + 1, v, h => by
    have e : sl r i = some v := h
    have q := sl_at e
    simpa using q
/-- the name in slot i -/
def tNm (i : Nat) : TE := fun σ H Q => match sl σ i with
  | some v => Q v H
  | none => False
theorem tNm_var {i : Nat} {σ : St} {H : Hp} {Q : VK} (h : tNm i σ H Q) : tVar i σ H Q := by
  unfold tNm at h
  cases e : sl σ i with
  | none => rw [e] at h; exact h.elim
  | some v => rw [e] at h; exact ⟨v, sl_at e, h⟩

/-! ### the oracle -/
/-- a promise of a call with keywords: the values by places, those of the keywords in the order written -/
abbrev SpK := List V → List V → Hp → VK → XK → Prop
/-- what is known of a receiver ahead of the arguments -/
abbrev Rc := V → Hp → Prop
/-- two values, what is raised is wished for, too -/
abbrev R2E := V → V → Hp → VK → XK → Prop
structure Ora where
  binX : Operator → Option R2E
  cmpX : CmpOp → Option R2E
  cv : V → Option Sp
  bin : Operator → Option R2
  un : UnaryOp → Option (V → Hp → VK → Prop)
  cmp : CmpOp → Option R2
  tru : V → Hp → (Bool → Hp → Prop) → Prop
  glo : Str → Option V
  blt : Str → Bool
  fn : Str → Option Sp
  fnK : Str → List Str → Option SpK
  mt : Str → List (Rc × Sp)
  mtK : Str → List Str → Option (Rc × SpK)
  att : Str → Option (V → Hp → VK → XK → Prop)
  idx : R2
  sli : V → Option Int → Option Int → Hp → VK → Prop
  put : TSet
  sat : Str → Option (V → V → Hp → (Hp → Prop) → Prop)
/-- o.f = v, by values -/
def SatR (X : Cx) (f : Str) (r : V → V → Hp → (Hp → Prop) → Prop) : Prop := ∀ (pins : List (Addr × Obj)) (s : Shared) (σ : St) (H : Hp) (x y : V) (ov u : Value) (Q : Hp → Prop), Inv X pins σ H s → RelV x ov → RelV y u → r x y H Q →
  wpAny (model X.prog X.w) X.A (setAttr ov f u) (fun _ s' => ∃ H', Inv X pins σ H' s' ∧ Q H') X.xe s
/-- f(..): the arguments, then the promise; what is raised is wished for at these slots -/
def tCl (sp : Sp) (W : WX) (t : TA) : TE := fun σ H Q => t σ H fun vs H1 => sp vs H1 Q fun c d H' => W c d σ H'
/-- f(.., k = ..) -/
def tClK (sp : SpK) (W : WX) (t tk : TA) : TE := fun σ H Q => t σ H fun vs H1 => tk σ H1 fun zs H2 => sp vs zs H2 Q fun c d H' => W c d σ H'
/-- o.m(..) -/
def tMt (q : Rc × Sp) (W : WX) (to : TE) (t : TA) : TE := fun σ H Q => to σ H fun x H1 => q.1 x H1 ∧ t σ H1 fun vs H2 => q.2 (x :: vs) H2 Q fun c d H' => W c d σ H'
/-- o.m(.., k = ..) -/
def tMtK (q : Rc × SpK) (W : WX) (to : TE) (t tk : TA) : TE := fun σ H Q => to σ H fun x H1 => q.1 x H1 ∧ t σ H1 fun vs H2 => tk σ H2 fun zs H3 => q.2 (x :: vs) zs H3 Q fun c d H' => W c d σ H'
/-- o.f -/
def tAtt (r : V → Hp → VK → XK → Prop) (W : WX) (to : TE) : TE := fun σ H Q => to σ H fun x H1 => r x H1 Q fun c d H' => W c d σ H'
def OpX (X : Cx) (f : Value → Value → Sem Value) (W : WX) (r : R2E) : Prop := ∀ (pins : List (Addr × Obj)) (s : Shared) (σ : St) (H : Hp) (x y : V) (v u : Value) (Q : VK), Inv X pins σ H s → RelV x v → RelV y u → r x y H Q (fun c d H' => W c d σ H') →
  wpAny (model X.prog X.w) X.A (f v u) (EP X pins σ Q) X.xe s
def tOpX (r : R2E) (W : WX) (ta tb : TE) : TE := fun σ H Q => ta σ H fun x H1 => tb σ H1 fun y H2 => r x y H2 Q fun c d H' => W c d σ H'
/-- a call of a value -/
def RunsX (X : Cx) (W : WX) (f : Addr) (sp : Sp) : Prop := ∀ (pins : List (Addr × Obj)) (s : Shared) (σ : St) (H : Hp) (us : List Value) (vs : List V) (Q : VK), Inv X pins σ H s → Vals vs us → sp vs H Q (fun c d H' => W c d σ H') → wpAny (model X.prog X.w) X.A (call (.ref f) us) (EP X pins σ Q) X.xe s
/-- x(..), x the name in slot i -/
def tClV (cv : V → Option Sp) (W : WX) (i : Nat) (t : TA) : TE := fun σ H Q => match sl σ i with
  | some v => (match cv v with
    | some sp => t σ H fun vs H1 => sp vs H1 Q fun c d H' => W c d σ H'
    | none => False)
  | none => False
theorem tClV_of {cv : V → Option Sp} {W : WX} {i : Nat} {t : TA} {σ : St} {H : Hp} {Q : VK} (h : tClV cv W i t σ H Q) : ∃ v sp, sl σ i = some v ∧ cv v = some sp ∧ t σ H fun vs H1 => sp vs H1 Q fun c d H' => W c d σ H' := by
  unfold tClV at h
  split at h
  · rename_i v e1
    split at h
    · rename_i sp e2
      exact ⟨v, sp, e1, e2, h⟩
    · exact h.elim
  · exact h.elim
structure OraOk (Γ : Ora) (X : Cx) (W : WX) : Prop where
  bin : ∀ op r, Γ.bin op = some r → OpR X (binaryOp op) r
  binX : ∀ op r, Γ.binX op = some r → OpX X (binaryOp op) W r
  cmpX : ∀ op r, Γ.cmpX op = some r → OpX X (compareOp op) W r
  cv : ∀ v sp, Γ.cv v = some sp → ∃ f, v = .ref f ∧ PySem.W.keepIn X.K (.ref f) = true ∧ RunsX X W f sp
  un : ∀ op r, Γ.un op = some r → UnR X (unaryOp op) r
  cmp : ∀ op r, Γ.cmp op = some r → OpR X (compareOp op) r
  tru : TruR X Γ.tru
  glo : ∀ x v, Γ.glo x = some v → ∃ u, RelV v u ∧ (X.mg x = some u ∨ (X.mg x = none ∧ bootBuiltins x = some u))
  blt : ∀ x, Γ.blt x = true → X.mg x = none
  fn : ∀ f sp, Γ.fn f = some sp → ∀ (es : List Expr) (t : TA) (p pos : Pos), Gl X f → badName f = false → es.all plainA = true → PA X es t → PE X (.Call (.Name f p) es [] pos) (tCl sp W t)
  fnK : ∀ f ks sp, Γ.fnK f ks = some sp → ∀ (es : List Expr) (kws : List Keyword) (t tk : TA) (p pos : Pos), Gl X f → badName f = false → es.all plainA = true → kws.map (·.arg) = ks.map some → PA X es t → PK X kws tk → PE X (.Call (.Name f p) es kws pos) (tClK sp W t tk)
  mt : ∀ m sp, sp ∈ Γ.mt m → ∀ (o : Expr) (es : List Expr) (to : TE) (t : TA) (p pos : Pos), isSup o = false → es.all plainA = true → (p.endLine == pos.line) = true → es.length < 25 → PE X o to → PA X es t → PE X (.Call (.Attribute o m p) es [] pos) (tMt sp W to t)
  mtK : ∀ m ks sp, Γ.mtK m ks = some sp → ∀ (o : Expr) (es : List Expr) (kws : List Keyword) (to : TE) (t tk : TA) (p pos : Pos), isSup o = false → es.all plainA = true → (p.endLine == pos.line) = true → es.length + kws.length < 25 → kws.map (·.arg) = ks.map some → PE X o to → PA X es t → PK X kws tk → PE X (.Call (.Attribute o m p) es kws pos) (tMtK sp W to t tk)
  att : ∀ f r, Γ.att f = some r → ∀ (o : Expr) (to : TE) (p : Pos), isSup o = false → PE X o to → PE X (.Attribute o f p) (tAtt r W to)
  idx : IxR X Γ.idx
  sli : SlR X Γ.sli
  put : PSet X Γ.put
  sat : ∀ f r, Γ.sat f = some r → SatR X f r
end AS

set_option Elab.async false
set_option linter.all false
set_option maxRecDepth 100000
set_option maxHeartbeats 4000000
namespace AS
open PySem PySem.Spec PyProof.Rows L2

/-! ### the readings, by syntax -/
/-- where a piece of syntax stands: the scope, calm (no exception is handled), which names may be stored, what is wished of exceptions -/
structure Ctx where
  sc : Scope
  c : Bool
  fn : Str → Bool
  W : WX
structure WP where
  E : Expr → TE
  T : Expr → TT
  G : Expr → TG
  I : Expr → Expr → TI
  S : Stmt → TS
def argsT (f : Expr → TE) : List Expr → TA
  | [] => tNil
  | e :: es => if plainA e = true then tCons (f e) (argsT f es) else nA
def kwsT (f : Expr → TE) : List Keyword → TA
  | [] => tNil
  | ⟨_, e, _⟩ :: es => tCons (f e) (kwsT f es)
def blkT (f : Stmt → TS) : List Stmt → TS
  | [] => tNext
  | [s] => f s
  | s :: r => tSeq (f s) (blkT f r)
def andT (f : Expr → TT) : List Expr → TT
  | [] => nT
  | [a] => f a
  | a :: r => tAnd (f a) (andT f r)
def orT (f : Expr → TT) : List Expr → TT
  | [] => nT
  | [a] => f a
  | a :: r => tOr (f a) (orT f r)
/-- a or b, a and b as values, by truth -/
abbrev Tr := V → Hp → (Bool → Hp → Prop) → Prop
def tOrG (tr : Tr) (ta tb : TE) : TE := fun σ H Q => ta σ H fun x H1 => tr x H1 fun k H2 => if k = true then Q x H2 else tb σ H2 Q
def tAndG (tr : Tr) (ta tb : TE) : TE := fun σ H Q => ta σ H fun x H1 => tr x H1 fun k H2 => if k = true then tb σ H2 Q else Q x H2
def boolE (tr : Tr) (f : Expr → TE) (op : BoolOp) : List Expr → TE
  | [] => nE
  | [a] => f a
  | a :: r => (match op with | .And => tAndG tr (f a) (boolE tr f op r) | .Or => tOrG tr (f a) (boolE tr f op r))
def tNotG (tr : Tr) (ta : TE) : TE := fun σ H Q => ta σ H fun x H1 => tr x H1 fun k H2 => Q (.bl (!k)) H2
/-- a value's truth as a test -/
def tTru (tr : Tr) (ta : TE) : TT := fun σ H Q => ta σ H fun x H1 => tr x H1 Q
def tIfT (t a b : TT) : TT := fun σ H Q => t σ H fun c H1 => if c = true then a σ H1 Q else b σ H1 Q
def partT (f : Expr → TE) : Option Expr → TO
  | none => tNoPart
  | some e => tPart (f e)
def isSl : Expr → Bool
  | .Slice _ _ none _ => true
  | _ => false
def targsG (f : Expr → TG) : List Expr → TGs
  | [] => gNil
  | e :: es => if plainA e = true then gCons (f e) (targsG f es) else nGs
/-- a comprehension's own names and their slots -/
def ownOf (N : List Str) (scope : Scope) : List (Str × Nat) := scope.names.filterMap fun y => match y.2 with
  | .local => (slotOf N y.1).map fun i => (y.1, i)
  | .cell => (slotOf N y.1).map fun i => (y.1, i)
  | _ => none
/-- nothing is raised -/
def w0 : WX := fun _ _ _ _ => False
def ctxC (x : Ctx) (scope : Scope) : Ctx := ⟨relS scope x.sc, x.c, fun y => scope.names.lookup y == some .cell, w0⟩
def testsT (f : Expr → TT) : List Expr → TT
  | [] => tYes
  | [c] => f c
  | _ => nT
def stoB (x : Ctx) (y : Str) : Bool := match x.sc.names.lookup y with
  | some .local => true
  | some .cell => x.fn y
  | _ => false
def nameE (Γ : Ora) (N : List Str) (x : Ctx) (y : Str) : TE := if badName y = true then nE else if visB x.sc y = true then (match slotOf N y with
    | some i => tNm i
    | none => nE) else if gloB x.sc y = true then (match Γ.glo y with
      | some v => tC v
      | none => nE) else nE
def constE : Const → TE
  | .int i => tC (.int i)
  | .bool b => tC (.bl b)
  | .none => tC .non
  | .str z => tC (.str z)
  | _ => nE
/-- what is walked may be a dict: the walk is read with it locked, too -/
def lockB : Expr → Bool
  | .List _ _ => false
  | .Tuple _ _ _ => false
  | .Call (.Name _ _) _ _ _ => false
  | .ListComp _ _ _ _ => false
  | .Constant _ _ _ => false
  | _ => true
def lockE (b : Bool) (t : TE) : TE := match b with
  | true => oE t (tLockE t)
  | false => t
def lockS (b : Bool) (t : TS) : TS := match b with
  | true => oS t (tLock t)
  | false => t
def lcOk (N : List Str) (x : Ctx) (scope : Scope) (iter : Expr) (a : Int) : Bool := a == 0 && (x.c && (blkC N x.sc scope (ownOf N scope) && !isSet iter))
def lcE (K : PySem.W.Frag) (N : List Str) (x : Ctx) (p q : WP) (elt : Expr) (gs : List Comprehension) (scope : Scope) : TE := match gs with
  | [⟨tg, iter, ifs, a⟩] => if lcOk N x scope iter a = true then lockE (lockB iter) (tLc (p.I tg iter) (q.G tg) (testsT q.T ifs) (q.E elt) ((ownOf N scope).map (·.2))) else nE
  | _ => nE
/-- given to a name: the lock stands around the statement -/
def lcS (K : PySem.W.Frag) (N : List Str) (x : Ctx) (p q : WP) (elt : Expr) (gs : List Comprehension) (scope : Scope) (i : Nat) : TS := match gs with
  | [⟨tg, iter, ifs, a⟩] => if lcOk N x scope iter a = true then lockS (lockB iter) (tAsg (tLc (p.I tg iter) (q.G tg) (testsT q.T ifs) (q.E elt) ((ownOf N scope).map (·.2))) (gName i)) else nS
  | _ => nS
def dcE (K : PySem.W.Frag) (N : List Str) (x : Ctx) (p q : WP) (kx vx : Expr) (gs : List Comprehension) (scope : Scope) : TE := match gs with
  | [⟨tg, iter, ifs, a⟩] => if lcOk N x scope iter a = true then lockE (lockB iter) (tDc (p.I tg iter) (q.G tg) (testsT q.T ifs) (q.E kx) (q.E vx) ((ownOf N scope).map (·.2))) else nE
  | _ => nE
/-- a part of an f-string -/
def partJ (f : Expr → TE) : Expr → TE
  | .Constant c j p => f (.Constant c j p)
  | .FormattedValue e c none _ => if c = -1 then tFmt (f e) else if c = 114 then tFmtR (f e) else nE
  | _ => nE
def jsE (f : Expr → TE) : List Expr → TE
  | [] => nE
  | [e] => partJ f e
  | es => fun σ H Q => tJs (es.map (partJ f)) Str.empty σ H fun out H1 => Q (.str out) H1
/-- -1, as written -/
def isM1 : Expr → Bool
  | .UnaryOp .USub (.Constant (.int i) _ _) _ => decide (i = 1)
  | _ => false
def pairsT (f : Expr → TE) : List (Option Expr) → List Expr → Option (List (TE × TE))
  | [], [] => some []
  | some k :: ks, v :: vs => (pairsT f ks vs).map ((f k, f v) :: ·)
  | _, _ => none
def dictE (f : Expr → TE) (ks : List (Option Expr)) (vs : List Expr) : TE := match ks, vs with
  | [], [] => tDNewK
  | ks, vs => (match pairsT f ks vs with
    | some trs => if Nat.ble ks.length 15 = true then tDisp trs else nE
    | none => nE)
/-- a method by what the receiver may be -/
def mtsE (W : WX) (to : TE) (t : TA) : List (Rc × Sp) → TE
  | [] => nE
  | [q] => tMt q W to t
  | q :: r => oE (tMt q W to t) (mtsE W to t r)
/-- either, as far as they are told -/
def rOr (r : R2) (rx : R2E) : R2E := fun x y H Q E => r x y H Q ∨ rx x y H Q E
def orX (W : WX) (ta tb : TE) (a : Option R2) (b : Option R2E) : TE := match a, b with
  | some r, none => tOp r ta tb
  | some r, some rx => tOpX (rOr r rx) W ta tb
  | none, some rx => tOpX rx W ta tb
  | none, none => nE
def orT' (W : WX) (ta tb : TE) (a : Option R2) (b : Option R2E) : TT := match a, b with
  | some r, none => tTest (tOp r ta tb)
  | some r, some rx => tTest (tOpX (rOr r rx) W ta tb)
  | none, some rx => tTest (tOpX rx W ta tb)
  | none, none => nT
def binE (Γ : Ora) (W : WX) (op : Operator) (ta tb : TE) : TE := orX W ta tb (Γ.bin op) (Γ.binX op)
def cmpE (Γ : Ora) (W : WX) (op : CmpOp) (ta tb : TE) : TE := orX W ta tb (Γ.cmp op) (Γ.cmpX op)
def cmpB (Γ : Ora) (W : WX) (op : CmpOp) (ta tb : TE) : TT := orT' W ta tb (Γ.cmp op) (Γ.cmpX op)
def locE (cv : V → Option Sp) (N : List Str) (x : Ctx) (f : Str) (ta : TA) : TE := match slotOf N f with
  | some i => tClV cv x.W i ta
  | none => nE
/-- list(o.items()), list(o.values()) -/
def lvE (Γ : Ora) (x : Ctx) (E : Expr → TE) (g : Expr) (as : List Expr) (ks : List Keyword) : Option TE := match g, as, ks with
  | .Name f _, [.Call (.Attribute o m q) [] [] p], [] => if (x.c && (gloB x.sc f && (Γ.blt f && (decide (f = "list") && (!isSup o && q.endLine == p.line))))) = true then (if m = "items" then some (tListI (E o)) else if m = "values" then some (tListV (E o)) else none) else none
  | _, _, _ => none
def callE (Γ : Bool → Ora) (N : List Str) (pr : Ctx → WP) (x : Ctx) (g : Expr) (as : List Expr) (ks : List Keyword) (p : Pos) : TE := (match g with
    | .Name f _ => if (gloB x.sc f && (!badName f && as.all plainA)) = true then (match ks with
        | [] => (match (Γ x.c).fn f with
          | some sp => tCl sp x.W (argsT (pr x).E as)
          | none => nE)
        | ks => (match (Γ x.c).fnK f (ks.filterMap (·.arg)) with
          | some sp => if ks.all (·.arg.isSome) = true then tClK sp x.W (argsT (pr x).E as) (kwsT (pr x).E ks) else nE
          | none => nE)) else if (visB x.sc f && (!badName f && (as.all plainA && ks.isEmpty))) = true then locE (Γ x.c).cv N x f (argsT (pr x).E as) else nE
    | .Attribute o m q => if (!isSup o && (as.all plainA && (q.endLine == p.line && Nat.blt as.length 25))) = true then (match ks with
        | [] => mtsE x.W ((pr x).E o) (argsT (pr x).E as) ((Γ x.c).mt m)
        | ks => (match (Γ x.c).mtK m (ks.filterMap (·.arg)) with
          | some sp => if (ks.all (·.arg.isSome) && Nat.blt (as.length + ks.length) 25) = true then tMtK sp x.W ((pr x).E o) (argsT (pr x).E as) (kwsT (pr x).E ks) else nE
          | none => nE)) else nE
    | _ => nE)
/-- the readings of one step, by those of the parts -/
def stepE (Γ : Bool → Ora) (K : PySem.W.Frag) (N : List Str) (pr : Ctx → WP) (x : Ctx) : Expr → TE
  | .Name y _ => nameE (Γ x.c) N x y
  | .Constant c _ _ => constE c
  | .BinOp a op b _ => binE (Γ x.c) x.W op ((pr x).E a) ((pr x).E b)
  | .UnaryOp op a _ => (match op with
    | .Not => tNotG (Γ x.c).tru ((pr x).E a)
    | op => (match (Γ x.c).un op with
      | some r => tUn r ((pr x).E a)
      | none => nE))
  | .BoolOp op vs _ => boolE (Γ x.c).tru (pr x).E op vs
  | .Compare a ops bs _ => (match ops, bs with
    | [op], [b] => if behindInMarks op b = true then nE else cmpE (Γ x.c) x.W op ((pr x).E a) ((pr x).E b)
    | [op, op'], [b, c] => (match (Γ x.c).cmp op, (Γ x.c).cmp op' with
      | some r, some r' => if lastMarks [op, op'] [b, c] = true then nE else tChain r r' ((pr x).E a) ((pr x).E b) ((pr x).E c)
      | _, _ => nE)
    | _, _ => nE)
  | .IfExp c a b _ => tIf ((pr x).T c) ((pr x).E a) ((pr x).E b)
  | .Tuple es _ _ => tTup (argsT (pr x).E es)
  | .List es _ => tLst (argsT (pr x).E es)
  | .Attribute o f _ => if isSup o = true then nE else (match (Γ x.c).att f with
    | some r => tAtt r x.W ((pr x).E o)
    | none => nE)
  | .Subscript a i _ => (match i with
    | .Slice lo hi st _ => (match st with
      | none => L2.tSl (Γ x.c).sli ((pr x).E a) (partT (pr x).E lo) (partT (pr x).E hi)
      | some m => (match lo, hi with
        | none, none => if isM1 m = true then tRevL K ((pr x).E a) else nE
        | _, _ => nE))
    | i => tOp (Γ x.c).idx ((pr x).E a) ((pr x).E i))
  | .Call g as ks p => (match lvE (Γ x.c) x (pr x).E g as ks with
    | some t => t
    | none => callE Γ N pr x g as ks p)
  | .Dict ks vs _ => dictE (pr x).E ks vs
  | .ListComp elt gs scope _ => lcE K N x (pr x) (pr (ctxC x scope)) elt gs scope
  | .DictComp kx vx gs scope _ => dcE K N x (pr x) (pr (ctxC x scope)) kx vx gs scope
  | .JoinedStr es _ => jsE (pr x).E es
  | _ => nE
def stepT (Γ : Bool → Ora) (K : PySem.W.Frag) (N : List Str) (pr : Ctx → WP) (x : Ctx) : Expr → TT
  | .UnaryOp .Not a _ => tNot ((pr x).T a)
  | .BoolOp .And vs _ => andT (pr x).T vs
  | .BoolOp .Or vs _ => orT (pr x).T vs
  | .IfExp c a b _ => tIfT ((pr x).T c) ((pr x).T a) ((pr x).T b)
  | .Compare a ops bs _ => (match ops, bs with
    | [op], [b] => if behindInMarks op b = true then nT else cmpB (Γ x.c) x.W op ((pr x).E a) ((pr x).E b)
    | [op, op'], [b, c] => (match (Γ x.c).cmp op, (Γ x.c).cmp op' with
      | some r, some r' => if lastMarks [op, op'] [b, c] = true then nT else tTest (tChain r r' ((pr x).E a) ((pr x).E b) ((pr x).E c))
      | _, _ => nT)
    | _, _ => nT)
  | e => tTru (Γ x.c).tru (stepE Γ K N pr x e)
def stepG (Γ : Bool → Ora) (K : PySem.W.Frag) (N : List Str) (pr : Ctx → WP) (x : Ctx) : Expr → TG
  | .Name y _ => if stoB x y = true then (match slotOf N y with
    | some i => gName i
    | none => nG) else nG
  | .Tuple es _ _ => if (x.c && es.all plainA) = true then oG (gTup K es.length (targsG (pr x).G es)) (gLst K es.length (targsG (pr x).G es)) else nG
  | .Subscript o i _ => if isSl i = true then nG else gSub ((pr x).E o) ((pr x).E i) (Γ x.c).put
  | _ => nG
def isTupT : Expr → Bool
  | .Tuple _ _ _ => true
  | _ => false
/-- what is walked: by a call's name, else by the value: a list, a tuple, a text's signs -/
def iAny (K : PySem.W.Frag) (te : TE) : TI := oI (iList K te) (oI (iTup K te) (oI (iStr te) (iKeys te)))
def stepI (Γ : Bool → Ora) (K : PySem.W.Frag) (N : List Str) (pr : Ctx → WP) (x : Ctx) (tg : Expr) (it : Expr) : TI := match it with
  | .Call (.Name f _) as [] _ => if (gloB x.sc f && (Γ x.c).blt f && as.all plainA) = true then
      (if f = "range" then (match as with
        | [_] => iRng1 (argsT (pr x).E as)
        | [_, _] => iRng2 (argsT (pr x).E as)
        | [_, _, _] => iRng3 (argsT (pr x).E as)
        | _ => nI)
      else if f = "enumerate" then (match as with
        | [_] => if isTupT tg = true then iEnum K (argsT (pr x).E as) else nI
        | _ => nI)
      else if f = "zip" then (match as with
        | [_, _] => if isTupT tg = true then iZip K (argsT (pr x).E as) else nI
        | _ => nI)
      else if f = "reversed" then (match as with
        | [_] => iRev K (argsT (pr x).E as)
        | _ => nI)
      else iAny K ((pr x).E it)) else iAny K ((pr x).E it)
  | .Call (.Attribute o m q) [] [] p => if (!isSup o && q.endLine == p.line) = true then
      (if m = "items" then (if isTupT tg = true then iItems ((pr x).E o) else nI)
      else if m = "values" then iVals ((pr x).E o)
      else if m = "keys" then iKeysM ((pr x).E o)
      else iAny K ((pr x).E it)) else iAny K ((pr x).E it)
  | it => iAny K ((pr x).E it)
/-- which stores of (a, b, ..) = (x, y, ..) go from the right: the model's own look, over the scope alone; none: the model has no word -/
def swB (sc : Scope) (ts vs : List Expr) : Option (Option (List Str)) :=
  if (!(ts.length == 2 || ts.length == 3) || vs.length != ts.length || (if sc.kind.isAnnotationScope = true then ScopeKind.function else sc.kind) != .function) = true then some none
  else if (vs.any fun | .Starred .. => true | _ => false) = true then some none
  else
    let line := (ts.head?.map (·.pos.line)).getD 0
    let names := ts.filterMap fun
      | .Name id pos => if (sc.names.lookup id == some .local && pos.line == line) = true then some id else none
      | _ => none
    if (names.length != ts.length || names.eraseDups.length != names.length) = true then some none
    else if vs.all (foldedForSure 8) = true then some none
    else if vs.all (constantsAlone 8) = true then none
    else some (some names)
def locL (sc : Scope) (y : Str) : Bool := match sc.names.lookup y with
  | some .local => true
  | _ => false
def cellL (sc : Scope) (y : Str) : Bool := match sc.names.lookup y with
  | some .cell => true
  | _ => false
def isTup2 (tg e : Expr) : Bool := match tg, e with
  | .Tuple _ _ _, .Tuple _ _ _ => true
  | .List _ _, .Tuple _ _ _ => true
  | _, _ => false
def parS (N : List Str) (pr : Ctx → WP) (x : Ctx) (ts vs : List Expr) : TS := match ts, vs with
  | [.Name y _, .Name z _], [a, b] => if (x.c && (locL x.sc y && locL x.sc z) && decide (swB x.sc ts vs = some (some [y, z]))) = true then (match slotOf N y, slotOf N z with
      | some i, some j => if i = j then nS else tPar i j (argsT (pr x).E [a, b])
      | _, _ => nS) else nS
  | [.Name y _, .Name z _, .Name u _], [a, b, c] => if (x.c && (locL x.sc y && (locL x.sc z && locL x.sc u)) && decide (swB x.sc ts vs = some (some [y, z, u]))) = true then (match slotOf N y, slotOf N z, slotOf N u with
      | some i, some j, some l => if (decide (i = j) || (decide (i = l) || decide (j = l))) = true then nS else tPar3 i j l (argsT (pr x).E [a, b, c])
      | _, _, _ => nS) else nS
  | _, _ => nS
/-- target = e, none of them a comprehension given to a name -/
def asgP (N : List Str) (pr : Ctx → WP) (x : Ctx) (tg e : Expr) : TS :=
  if isComp e = true then nS else match tg, e with
  | .Tuple ts _ _, .Tuple vs _ _ => if swB x.sc ts vs = some none then tAsg ((pr x).E e) ((pr x).G tg) else parS N pr x ts vs
  | .List _ _, .Tuple _ _ _ => nS
  | tg, e => if plainA tg = true then tAsg ((pr x).E e) ((pr x).G tg) else nS
def asgC (K : PySem.W.Frag) (N : List Str) (pr : Ctx → WP) (x : Ctx) (y : Str) (py : Pos) (elt : Expr) (gs : List Comprehension) (scope : Scope) (p : Pos) : TS :=
  if (py.line == p.line && (locL x.sc y && (decide (x.sc.kind = .function) && !(scope.names.any fun (n, k) => n == y && (k == .local || k == .cell))))) = true then (match slotOf N y, gs with
    | some i, [_] => lcS K N x (pr x) (pr (ctxC x scope)) elt gs scope i
    | _, _ => nS) else nS
/-- o.f = e -/
def tSat (r : V → V → Hp → (Hp → Prop) → Prop) (te to : TE) : TS := fun D σ H => te σ H fun y H1 => to σ H1 fun x H2 => r x y H2 fun H3 => D.nx σ H3
def asgA (Γ : Bool → Ora) (pr : Ctx → WP) (x : Ctx) (o : Expr) (f : Str) (e : Expr) : TS := match (Γ x.c).sat f with
  | some r => tSat r ((pr x).E e) ((pr x).E o)
  | none => nS
def asgS (Γ : Bool → Ora) (K : PySem.W.Frag) (N : List Str) (pr : Ctx → WP) (x : Ctx) (tg e : Expr) : TS := match tg, e with
  | .Name y py, .ListComp elt gs scope p => if cellL x.sc y = true then tAsg ((pr x).E (.ListComp elt gs scope p)) ((pr x).G (.Name y py)) else asgC K N pr x y py elt gs scope p
  | .Attribute o f _, e => asgA Γ pr x o f e
  | tg, e => asgP N pr x tg e
def stepS (Γ : Bool → Ora) (K : PySem.W.Frag) (N : List Str) (pr : Ctx → WP) (x : Ctx) : Stmt → TS
  | .Pass _ => tNext
  | .Break _ => tBreak
  | .Continue _ => tCont
  | .Return none _ => tRetN
  | .Return (some e) _ => tRet ((pr x).E e)
  | .Expr e _ => if isComp e = true then nS else tDrop ((pr x).E e)
  | .If c a b _ => tIfS ((pr x).T c) (blkT (pr x).S a) (blkT (pr x).S b)
  | .While c b o _ => (match o with
    | [] => tWhile ((pr x).T c) (blkT (pr x).S b)
    | _ => nS)
  | .For tg it b o _ => (match o with
    | [] => if (x.c && !isSet it) = true then lockS (lockB it) (tFor ((pr x).I tg it) ((pr x).G tg) (blkT (pr x).S b)) else nS
    | _ => nS)
  | .Assign tgs e _ => (match tgs with
    | [tg] => asgS Γ K N pr x tg e
    | _ => nS)
  | _ => nS
def stepW (Γ : Bool → Ora) (K : PySem.W.Frag) (N : List Str) (pr : Ctx → WP) (x : Ctx) : WP := ⟨stepE Γ K N pr x, stepT Γ K N pr x, stepG Γ K N pr x, stepI Γ K N pr x, stepS Γ K N pr x⟩
def wp (Γ : Bool → Ora) (K : PySem.W.Frag) (N : List Str) : Nat → Ctx → WP
  | 0, _ => ⟨fun _ => nE, fun _ => nT, fun _ => nG, fun _ _ => nI, fun _ => nS⟩
  | n + 1, x => stepW Γ K N (wp Γ K N n) x
end AS

set_option Elab.async false
set_option linter.all false
set_option maxRecDepth 100000
set_option maxHeartbeats 4000000
namespace AS
open PySem PySem.Spec PyProof.Rows L2

structure Sys where
  P : Program
  w : World
  K : PySem.W.Frag
  mg : Str → Option Value
  base : Heap
/-- the context X is one of the system S, stands at x, has room for k calls; no repr is running around it -/
structure Like (S : Sys) (k : Nat) (N : List Str) (X : Cx) (x : Ctx) : Prop where
  hP : X.prog = S.P
  hw : X.w = S.w
  hK : X.K = S.K
  hm : X.mg = S.mg
  hb : X.base = S.base
  sc : X.env.scope = x.sc
  hN : X.N = N
  nd : N.Nodup
  calm : x.c = true → X.calm = true
  fn : ∀ y, x.fn y = true → X.fn y = true
  gd : X.A.guards = some []
  dp : X.A.depth + 3 * k + 5 < recursionLimit
  un : X.A.units + 16 * k + 200 < cLine
  tk : Takes X x.W
  po : PassesOwn (model X.prog X.w) X.A X.env X.xe
theorem Like.blk {S : Sys} {k : Nat} {N : List Str} {X : Cx} {x : Ctx} (L : Like S k N X x) (s : Shared) (H : Hp) (scope : Scope) (cl : List (Str × Addr)) (C : Addr) (fp : List Addr) :
    Like S k N (X.blk s H scope (compEnvC scope cl C X.env) fp) (ctxC x scope) :=
  ⟨L.hP, L.hw, L.hK, L.hm, L.hb, by show relS scope X.env.scope = relS scope x.sc; rw [L.sc], L.hN, L.nd, L.calm, fun _ h => h, L.gd, L.dp, L.un, takes0, PassesOwn.never⟩
/-- what is to be known of the oracle -/
def Sound (Γ : Bool → Ora) (S : Sys) (k : Nat) (N : List Str) : Prop := ∀ X x, Like S k N X x → OraOk (Γ x.c) X x.W
/-- each reading is right -/
structure Right (X : Cx) (p : WP) : Prop where
  E : ∀ e, PE X e (p.E e)
  T : ∀ e, PT X e (p.T e)
  G : ∀ e, PG X e (p.G e)
  I : ∀ tg e, PI X tg e (p.I tg e)
  S : ∀ s, PS X s (p.S s)
section
variable {X : Cx} {f : Expr → TE}
theorem pa_args (h : ∀ e, PE X e (f e)) : ∀ es, PA X es (argsT f es)
  | [] => pa_nil
  | e :: es => by
    unfold argsT
    split
    · exact pa_cons (h e) (pa_args h es) (star_one (by assumption))
    · exact pa_n
theorem pk_args (h : ∀ e, PE X e (f e)) : ∀ es, PK X es (kwsT f es)
  | [] => pk_nil
  | ⟨_, e, _⟩ :: es => pk_cons (h e) (pk_args h es)
theorem pss_blk {g : Stmt → TS} (h : ∀ s, PS X s (g s)) : ∀ ss, PSs X ss (blkT g ss)
  | [] => pss_nil
  | [s] => pss_one (h s)
  | s :: t :: r => pss_cons (h s) (pss_blk h (t :: r))
theorem pw_all {g : Expr → TT} {p : Pos} (h : ∀ e, PT X e (g e)) : ∀ es : List Expr, es ≠ [] → PW X (.BoolOp .And es p) (andT g es)
  | [], n => absurd rfl n
  | [a], _ => pw_and1 (h a)
  | a :: b :: r, _ => pw_and (h a) (pw_all h (b :: r) (by simp))
theorem pw_any {g : Expr → TT} {p : Pos} (h : ∀ e, PT X e (g e)) : ∀ es : List Expr, es ≠ [] → PW X (.BoolOp .Or es p) (orT g es)
  | [], n => absurd rfl n
  | [a], _ => pw_or1 (h a)
  | a :: b :: r, _ => pw_or (h a) (pw_any h (b :: r) (by simp))
theorem pe_orG {tr : Tr} {a b : Expr} {ta tb : TE} {rest : List Expr} {pos : Pos} (ht : TruR X tr) (ha : PE X a ta) (hb : PE X (.BoolOp .Or (b :: rest) pos) tb) : PE X (.BoolOp .Or (a :: b :: rest) pos) (tOrG tr ta tb) := by
  refine ⟨fun pins s σ H Q I h => ?_⟩
  refine BoolOp_or (thn (ha.run pins s σ H _ I h) fun v s1 ⟨x, H1, I1, r1, q1⟩ => ?_)
  refine thn (ht pins s1 σ H1 x v _ I1 r1 q1) fun c s2 ⟨H2, I2, q2⟩ => ?_
  cases c with
  | true => exact ⟨x, H2, I2, r1, q2⟩
  | false => exact hb.run pins s2 σ H2 Q I2 q2
theorem pe_andG {tr : Tr} {a b : Expr} {ta tb : TE} {rest : List Expr} {pos : Pos} (ht : TruR X tr) (ha : PE X a ta) (hb : PE X (.BoolOp .And (b :: rest) pos) tb) : PE X (.BoolOp .And (a :: b :: rest) pos) (tAndG tr ta tb) := by
  refine ⟨fun pins s σ H Q I h => ?_⟩
  refine BoolOp_and (thn (ha.run pins s σ H _ I h) fun v s1 ⟨x, H1, I1, r1, q1⟩ => ?_)
  refine thn (ht pins s1 σ H1 x v _ I1 r1 q1) fun c s2 ⟨H2, I2, q2⟩ => ?_
  cases c with
  | true => exact hb.run pins s2 σ H2 Q I2 q2
  | false => exact ⟨x, H2, I2, r1, q2⟩
theorem pe_bool {tr : Tr} {op : BoolOp} {p : Pos} (ht : TruR X tr) (h : ∀ e, PE X e (f e)) : ∀ es : List Expr, PE X (.BoolOp op es p) (boolE tr f op es)
  | [] => pe_n
  | [a] => pe_one (h a)
  | a :: b :: r => by
    cases op with
    | And => exact pe_andG ht (h a) (pe_bool ht h (b :: r))
    | Or => exact pe_orG ht (h a) (pe_bool ht h (b :: r))
theorem pe_notG {tr : Tr} {a : Expr} {ta : TE} {pos : Pos} (ht : TruR X tr) (ha : PE X a ta) : PE X (.UnaryOp .Not a pos) (tNotG tr ta) := by
  refine ⟨fun pins s σ H Q I h => ?_⟩
  refine UnaryOp_ (thn (ha.run pins s σ H _ I h) fun v s1 ⟨x, H1, I1, r1, q1⟩ => ?_)
  exact not_of (thn (ht pins s1 σ H1 x v _ I1 r1 q1) fun c s2 ⟨H2, I2, q2⟩ => ⟨.bl (!c), H2, I2, rfl, q2⟩)
theorem pt_tru {tr : Tr} {a : Expr} {ta : TE} (ht : TruR X tr) (ha : PE X a ta) (he : isTest a = false) : PT X a (tTru tr ta) := by
  refine ⟨fun pins s σ H Q I h => ?_⟩
  exact isTrue_plain (thn (ha.run pins s σ H _ I h) fun v s1 ⟨x, H1, I1, r1, q1⟩ => ht pins s1 σ H1 x v Q I1 r1 q1) (truth_no he _)
theorem pt_ifT {c a b : Expr} {tc ta tb : TT} {pos : Pos} (hc : PT X c tc) (ha : PT X a ta) (hb : PT X b tb) : PT X (.IfExp c a b pos) (tIfT tc ta tb) := by
  refine ⟨fun pins s σ H Q I h => ?_⟩
  show wpAny _ _ (isTrue c X.env (eval c X.env) >>= fun t => if t = true then isTrue a X.env (eval a X.env) else isTrue b X.env (eval b X.env)) _ _ _
  refine wpAny_bind (thn (hc.run pins s σ H _ I h) fun k s1 ⟨H1, I1, q1⟩ => ?_)
  cases k with
  | true => exact ha.run pins s1 σ H1 Q I1 q1
  | false => exact hb.run pins s1 σ H1 Q I1 q1
theorem po_part (h : ∀ e, PE X e (f e)) : ∀ o, PO X o (partT f o)
  | none => po_none
  | some e => po_some (h e)
theorem plainIx_of {i : Expr} (h : isSl i = false) : PlainIx i := by
  intro o v
  cases i with
  | Slice lo hi st p =>
    cases st with
    | none => cases h
    | some _ => rfl
  | _ => rfl
theorem pgs_all {g : Expr → TG} (h : ∀ e, PG X e (g e)) : ∀ es, PGs X es (targsG g es)
  | [] => pgs_nil
  | e :: es => by
    unfold targsG
    split
    · rename_i hp
      exact pgs_cons (h e) (pgs_all h es) (by cases e <;> first | rfl | cases hp)
    · exact pgs_n
theorem asgE_len {env : Env} : ∀ es : List Expr, (assignEach es env).length = es.length
  | [] => rfl
  | e :: es => by
    have q := asgE_len (env := env) es
    cases e <;> (show (assignEach es env).length + 1 = es.length + 1; rw [q])
theorem asgE_none {env : Env} : ∀ es : List Expr, es.all plainA = true → (assignEach es env).findIdx? (·.1) = none
  | [], _ => rfl
  | e :: es, h => by
    obtain ⟨h1, h2⟩ := Bool.and_eq_true_iff.mp (show (plainA e && es.all plainA) = true from h)
    have q := asgE_none (env := env) es h2
    have e1 : assignEach (e :: es) env = (false, assign e env) :: assignEach es env := by cases e <;> first | rfl | cases h1
    rw [e1, List.findIdx?_cons, q]
    rfl
end
theorem pps_all {X : Cx} {f : Expr → TE} {p : Pos} (h : ∀ e, PE X e (f e)) : ∀ {ks : List (Option Expr)} {vs : List Expr} {trs : List (TE × TE)}, pairsT f ks vs = some trs → PPs X p ks vs trs ∧ ks.all (·.isSome) = true ∧ ks.length = vs.length
  | [], [], trs, e => by
    cases e
    exact ⟨pps_nil, rfl, rfl⟩
  | [], _ :: _, trs, e => by cases e
  | none :: _, _, trs, e => by cases e
  | some k :: ks, [], trs, e => by cases e
  | some k :: ks, v :: vs, trs, e => by
    have e : (pairsT f ks vs).map ((f k, f v) :: ·) = some trs := e
    cases q : pairsT f ks vs with
    | none => rw [q] at e; cases e
    | some r =>
      rw [q] at e
      cases e
      obtain ⟨h1, h2, h3⟩ := pps_all h q
      exact ⟨pps_cons (h k) (h v) h1, h2, by rw [List.length_cons, List.length_cons, h3]⟩
theorem sw_aux {c1 c2 c3 c4 c5 : Prop} [Decidable c1] [Decidable c2] [Decidable c3] [Decidable c4] [Decidable c5] {n : List Str} {r : Option (List Str)} {bad : Sem (Option (List Str))}
    (h : (if c1 then some none else if c2 then some none else if c3 then some none else if c4 then some none else if c5 then none else some (some n)) = some r) :
    (if c1 then pure none else if c2 then pure none else if c3 then pure none else if c4 then pure none else if c5 then bad else pure (some n)) = (pure r : Sem (Option (List Str))) := by
  by_cases h1 : c1
  · rw [if_pos h1] at h ⊢; cases h; rfl
  rw [if_neg h1] at h ⊢
  by_cases h2 : c2
  · rw [if_pos h2] at h ⊢; cases h; rfl
  rw [if_neg h2] at h ⊢
  by_cases h3 : c3
  · rw [if_pos h3] at h ⊢; cases h; rfl
  rw [if_neg h3] at h ⊢
  by_cases h4 : c4
  · rw [if_pos h4] at h ⊢; cases h; rfl
  rw [if_neg h4] at h ⊢
  by_cases h5 : c5
  · rw [if_pos h5] at h; cases h
  rw [if_neg h5] at h ⊢
  cases h
  rfl
theorem swB_ok {env : Env} {ts vs : List Expr} {r : Option (List Str)} {k k2 : Nat} {p p2 : Pos} (h : swB env.scope ts vs = some r) : swappedStores [.Tuple ts k p] (.Tuple vs k2 p2) env = pure r := by
  unfold swB at h
  unfold swappedStores
  exact sw_aux h
end AS

set_option Elab.async false
set_option linter.all false
set_option maxRecDepth 100000
set_option maxHeartbeats 4000000
namespace AS
open PySem PySem.Spec PyProof.Rows L2
section
variable {Γ : Bool → Ora} {S : Sys} {k : Nat} {N : List Str} {X : Cx} {x : Ctx} {pr : Ctx → WP}
theorem b2 {a b : Bool} (h : (a && b) = true) : a = true ∧ b = true := Bool.and_eq_true_iff.mp h
theorem nt {a : Bool} (h : (!a) = true) : a = false := by cases a <;> first | rfl | cases h
theorem r_name (L : Like S k N X x) (O : OraOk (Γ x.c) X x.W) (y : Str) (p : Pos) : PE X (.Name y p) (nameE (Γ x.c) N x y) := by
  unfold nameE
  split
  · exact pe_n
  · rename_i hb
    obtain ⟨hd, hcd, hnm⟩ := badName_no (x := y) (by simpa using hb)
    split
    · rename_i hv
      split
      · rename_i i hi
        refine pe_imp (pe_var (X := X) (i := i) ?_ ?_ hd hcd) fun _ _ _ h => tNm_var h
        · rw [L.hN]; exact slotOf_at hi
        · rw [L.sc]; exact visB_ok hv
      · exact pe_n
    · split
      · rename_i hg
        split
        · rename_i v hv
          obtain ⟨u, r, hu⟩ := O.glo y v hv
          have g : Gl X y := by
            show X.env.scope.names.lookup y = _
            rw [L.sc]; exact gloB_ok hg
          rcases hu with hu | ⟨hu, hbt⟩
          · exact pe_glob g hu r hd
          · exact pe_bltn g hu hbt r hnm hd
        · exact pe_n
      · exact pe_n
theorem r_const (c : Const) (j : Nat) (p : Pos) : PE X (.Constant c j p) (constE c) := by
  cases c with
  | int i => exact pe_int
  | bool b => exact pe_bl
  | none => exact pe_non
  | str z => exact pe_str
  | _ => exact pe_n
theorem r_tests {q : WP} (h : ∀ e, PT X e (q.T e)) : ∀ ifs, PTs X ifs (testsT q.T ifs)
  | [] => pts_nil
  | [c] => pts_one (h c)
  | _ :: _ :: _ => ⟨fun _ _ _ _ _ _ h => (show False from h).elim⟩
theorem pe_lockE {b : Bool} {e : Expr} {t : TE} (h : PE X e t) : PE X e (lockE b t) := by
  cases b with
  | true => exact pe_or h (pe_lock h)
  | false => exact h
theorem ps_lockS {b : Bool} {e : Stmt} {t : TS} (h : PS X e t) : PS X e (lockS b t) := by
  cases b with
  | true => exact ps_or h (ps_lock h)
  | false => exact h
theorem lcOk_of {scope : Scope} {iter : Expr} {a : Int} (L : Like S k N X x) (h : lcOk N x scope iter a = true) : a = 0 ∧ X.calm = true ∧ BlkOk X.N X.env.scope scope (ownOf N scope) ∧ ∀ v, foldedSetIterable iter X.env v = pure v := by
  obtain ⟨h1, h2⟩ := b2 h
  obtain ⟨h3, h4⟩ := b2 h2
  obtain ⟨h5, h6⟩ := b2 h4
  refine ⟨by simpa using h1, L.calm h3, ?_, fold_no (nt h6)⟩
  rw [L.hN, L.sc]
  exact blkOk_by h5
theorem r_lc (L : Like S k N X x) (hp : ∀ X' x', Like S k N X' x' → Right X' (pr x')) (elt : Expr) (gs : List Comprehension) (scope : Scope) (p : Pos) : PE X (.ListComp elt gs scope p) (lcE S.K N x (pr x) (pr (ctxC x scope)) elt gs scope) := by
  unfold lcE
  split
  · rename_i tg iter ifs a
    split
    · rename_i h
      obtain ⟨rfl, hc, hb, hf⟩ := lcOk_of L h
      exact pe_lockE (pe_lc hc (by rw [L.hN]; exact L.nd) ((hp X x L).I tg iter) hb (fun s H C cl fp => (hp _ _ (L.blk s H scope cl C fp)).G tg) (fun s H C cl fp => r_tests (hp _ _ (L.blk s H scope cl C fp)).T ifs)
        (fun s H C cl fp => (hp _ _ (L.blk s H scope cl C fp)).E elt) hf)
    · exact pe_n
  · exact pe_n
theorem r_dc (L : Like S k N X x) (hp : ∀ X' x', Like S k N X' x' → Right X' (pr x')) (kx vx : Expr) (gs : List Comprehension) (scope : Scope) (p : Pos) : PE X (.DictComp kx vx gs scope p) (dcE S.K N x (pr x) (pr (ctxC x scope)) kx vx gs scope) := by
  unfold dcE
  split
  · rename_i tg iter ifs a
    split
    · rename_i h
      obtain ⟨rfl, hc, hb, hf⟩ := lcOk_of L h
      exact pe_lockE (pe_dc hc (by rw [L.hN]; exact L.nd) ((hp X x L).I tg iter) hb (fun s H C cl fp => (hp _ _ (L.blk s H scope cl C fp)).G tg) (fun s H C cl fp => r_tests (hp _ _ (L.blk s H scope cl C fp)).T ifs)
        (fun s H C cl fp => (hp _ _ (L.blk s H scope cl C fp)).E kx) (fun s H C cl fp => (hp _ _ (L.blk s H scope cl C fp)).E vx) hf)
    · exact pe_n
  · exact pe_n
theorem r_part {f : Expr → TE} (h : ∀ e, PE X e (f e)) (e : Expr) : PE X e (partJ f e) := by
  unfold partJ
  split
  · exact h _
  · split
    · rename_i hc
      subst hc
      exact pe_fmt (h _)
    · split
      · rename_i hc
        subst hc
        exact pe_fmtR (h _)
      · exact pe_n
  · exact pe_n
theorem pj_all {f : Expr → TE} (h : ∀ e, PE X e (f e)) : ∀ es : List Expr, PJ X es (es.map (partJ f))
  | [] => .nil
  | e :: es => .cons (r_part h e) (pj_all h es)
theorem r_js {f : Expr → TE} (h : ∀ e, PE X e (f e)) (es : List Expr) (p : Pos) : PE X (.JoinedStr es p) (jsE f es) := by
  match es with
  | [] => exact pe_n
  | [e] => exact pe_joined1 (r_part h e)
  | e :: e2 :: r => exact pe_joined (pj_all h (e :: e2 :: r))
theorem isM1_of {m : Expr} (h : isM1 m = true) : ∃ k p1 p2, m = .UnaryOp .USub (.Constant (.int 1) k p1) p2 := by
  unfold isM1 at h
  split at h
  · have e := of_decide_eq_true h
    subst e
    exact ⟨_, _, _, rfl⟩
  · cases h
theorem r_dict {f : Expr → TE} (h : ∀ e, PE X e (f e)) (ks : List (Option Expr)) (vs : List Expr) (p : Pos) : PE X (.Dict ks vs p) (dictE f ks vs) := by
  unfold dictE
  split
  · exact pe_dnewK
  · rename_i hn
    split
    · rename_i trs ht
      split
      · rename_i hb
        obtain ⟨h1, h2, h3⟩ := pps_all (p := p) h ht
        refine pe_disp h1 h2 h3 (fun z => ?_) (Nat.le_of_ble_eq_true hb)
        subst z
        cases vs with
        | nil => exact hn rfl rfl
        | cons _ _ => cases h3
      · exact pe_n
    · exact pe_n
theorem kws_some : ∀ {ks : List Keyword}, ks.all (·.arg.isSome) = true → ks.map (·.arg) = (ks.filterMap (·.arg)).map some
  | [], _ => rfl
  | ⟨a, e, q⟩ :: ks, h => by
    obtain ⟨h1, h2⟩ := b2 (show (a.isSome && ks.all (·.arg.isSome)) = true from h)
    cases a with
    | none => cases h1
    | some a =>
      have i := kws_some h2
      show some a :: ks.map (·.arg) = some a :: (ks.filterMap (·.arg)).map some
      rw [i]
theorem pe_opX {W : WX} {a b : Expr} {ta tb : TE} {op : Operator} {r : R2E} {pos : Pos} (ho : OpX X (binaryOp op) W r) (ha : PE X a ta) (hb : PE X b tb) : PE X (.BinOp a op b pos) (tOpX r W ta tb) := by
  refine ⟨fun pins s σ H Q I h => ?_⟩
  exact wpAny_BinOp (binT ha hb I h fun v u s2 x y H2 I2 rx ry q => ho pins s2 σ H2 x y v u Q I2 rx ry q)
theorem pe_cmpX {W : WX} {a b : Expr} {ta tb : TE} {op : CmpOp} {r : R2E} {pos : Pos} (ho : OpX X (compareOp op) W r) (ha : PE X a ta) (hb : PE X b tb) (hm : behindInMarks op b = false) : PE X (.Compare a [op] [b] pos) (tOpX r W ta tb) := by
  refine ⟨fun pins s σ H Q I h => ?_⟩
  exact wpAny_Compare1 (binT ha hb I h fun v u s2 x y H2 I2 rx ry q => ho pins s2 σ H2 x y v u Q I2 rx ry q) hm
theorem pt_cmpX {W : WX} {a b : Expr} {ta tb : TE} {op : CmpOp} {r : R2E} {pos : Pos} (ho : OpX X (compareOp op) W r) (ha : PE X a ta) (hb : PE X b tb) (hm : behindInMarks op b = false) : PT X (.Compare a [op] [b] pos) (tTest (tOpX r W ta tb)) := by
  refine ⟨fun pins s σ H Q I h => ?_⟩
  refine wpAny_isTrue_Compare1 (thn (ha.run pins s σ H _ I h) fun v s1 ⟨x, H1, I1, r1, q1⟩ => thn (hb.run pins s1 σ H1 _ I1 q1) fun u s2 ⟨y, H2, I2, r2, q2⟩ =>
    thn (ho pins s2 σ H2 x y v u _ I2 r1 r2 q2) fun c s3 ⟨z, H3, I3, r3, k, e, q3⟩ => ?_) hm
  subst e
  cases r3
  exact wpAny_truthy_bool ⟨H3, I3, q3⟩
theorem opX_or {f : Value → Value → Sem Value} {W : WX} {r : R2} {rx : R2E} (h : OpR X f r) (k : OpX X f W rx) : OpX X f W (rOr r rx) := fun pins s σ H x y v u Q I r1 r2 q => q.elim (h pins s σ H x y v u Q I r1 r2) (k pins s σ H x y v u Q I r1 r2)
theorem pe_orX {e : Expr} {W : WX} {ta tb : TE} {f : Value → Value → Sem Value} {a : Option R2} {b : Option R2E} (ha : ∀ r, a = some r → OpR X f r) (hb : ∀ r, b = some r → OpX X f W r) (k : ∀ r, OpR X f r → PE X e (tOp r ta tb)) (kx : ∀ r, OpX X f W r → PE X e (tOpX r W ta tb)) : PE X e (orX W ta tb a b) := by
  cases a with
  | none =>
    cases b with
    | none => exact pe_n
    | some u => exact kx u (hb u rfl)
  | some t =>
    cases b with
    | none => exact k t (ha t rfl)
    | some u => exact kx _ (opX_or (ha t rfl) (hb u rfl))
theorem pt_orX {e : Expr} {W : WX} {ta tb : TE} {f : Value → Value → Sem Value} {a : Option R2} {b : Option R2E} (ha : ∀ r, a = some r → OpR X f r) (hb : ∀ r, b = some r → OpX X f W r) (k : ∀ r, OpR X f r → PT X e (tTest (tOp r ta tb))) (kx : ∀ r, OpX X f W r → PT X e (tTest (tOpX r W ta tb))) : PT X e (orT' W ta tb a b) := by
  cases a with
  | none =>
    cases b with
    | none => exact pt_n
    | some u => exact kx u (hb u rfl)
  | some t =>
    cases b with
    | none => exact k t (ha t rfl)
    | some u => exact kx _ (opX_or (ha t rfl) (hb u rfl))
theorem omap {α β : Type} {o : Option α} {f : α → β} {t : β} (h : o.map f = some t) : ∃ r, o = some r ∧ t = f r := by
  cases o with
  | none => cases h
  | some r => cases h; exact ⟨r, rfl, rfl⟩
theorem r_loc (L : Like S k N X x) (O : OraOk (Γ x.c) X x.W) {f : Str} {es : List Expr} {t : TA} {p pos : Pos} (hv : visB x.sc f = true) (hb : badName f = false) (hpl : es.all plainA = true) (ha : PA X es t) : PE X (.Call (.Name f p) es [] pos) (locE (Γ x.c).cv N x f t) := by
  unfold locE
  split
  · rename_i i hi
    refine ⟨fun pins s σ H Q I h => ?_⟩
    obtain ⟨v, sp, e1, e2, h⟩ := tClV_of h
    obtain ⟨g, rfl, hk, hR⟩ := O.cv v sp e2
    refine wpAny_Call_Name_kw (thn ((pe_var (X := X) (i := i) (pos := p) (by rw [L.hN]; exact slotOf_at hi) (by rw [L.sc]; exact visB_ok hv) (badName_no hb).1 (badName_no hb).2.1).run pins s σ H (fun v H1 => v = .ref g ∧ H1 = H) I ⟨.ref g, sl_at e1, rfl, rfl⟩) fun u s1 ⟨v, H1, I1, r1, q1⟩ => ?_)
    obtain ⟨rfl, rfl⟩ := q1
    cases r1
    cases es with
    | nil =>
      refine PySem.W.callWith_K0 I1.kIn hk ?_
      have h1 : wpAny (model X.prog X.w) X.A (spliced (backTo pos (starEach [] X.env)) >>= fun us => call (.ref g) us) (EP X pins σ Q) X.xe s1 :=
        wpAny_bind (thn (ha.run pos pins s1 σ H1 _ I1 h) fun us s2 ⟨vs, H2, I2, r, q⟩ => hR pins s2 σ H2 us vs Q I2 r q)
      exact h1
    | cons e es =>
      obtain ⟨h1, h2⟩ := b2 (show (plainA e && es.all plainA) = true from hpl)
      exact PySem.W.callWith_K (h₀ := X.base) I.ok.mod.kin hk (thn (ha.run pos pins s1 σ H1 _ I1 h) fun us s2 ⟨vs, H2, I2, r, q⟩ => ⟨I2.kIn, hR pins s2 σ H2 us vs Q I2 r q⟩) (star_one h1) (star_all h2)
  · exact pe_n
theorem pe_mts {e : Expr} {W : WX} {to : TE} {t : TA} : ∀ {l : List (Rc × Sp)}, (∀ q ∈ l, PE X e (tMt q W to t)) → PE X e (mtsE W to t l)
  | [], _ => pe_n
  | [q], h => h q List.mem_cons_self
  | q :: q2 :: r, h => pe_or (h q List.mem_cons_self) (pe_mts fun z hz => h z (List.mem_cons_of_mem _ hz))
theorem r_callE (L : Like S k N X x) (O : OraOk (Γ x.c) X x.W) (R : Right X (pr x)) (g : Expr) (as : List Expr) (ks : List Keyword) (p : Pos) : PE X (.Call g as ks p) (callE Γ N pr x g as ks p) := by
  cases g with
  | Name f q =>
    show PE X (.Call (.Name f q) as ks p) (if (gloB x.sc f && (!badName f && as.all plainA)) = true then _ else if (visB x.sc f && (!badName f && (as.all plainA && ks.isEmpty))) = true then locE (Γ x.c).cv N x f (argsT (pr x).E as) else nE)
    split
    · rename_i h
      obtain ⟨h1, h2⟩ := b2 h
      obtain ⟨h3, h4⟩ := b2 h2
      have gl : Gl X f := by
        show X.env.scope.names.lookup f = _
        rw [L.sc]; exact gloB_ok h1
      cases ks with
      | nil =>
        show PE X _ (match (Γ x.c).fn f with | some sp => tCl sp x.W (argsT (pr x).E as) | none => nE)
        split
        · rename_i sp hs
          exact O.fn f sp hs as _ q p gl (nt h3) h4 (pa_args R.E as)
        · exact pe_n
      | cons k1 kr =>
        show PE X _ (match (Γ x.c).fnK f ((k1 :: kr).filterMap (·.arg)) with | some sp => if (k1 :: kr).all (·.arg.isSome) = true then tClK sp x.W (argsT (pr x).E as) (kwsT (pr x).E (k1 :: kr)) else nE | none => nE)
        split
        · rename_i sp hs
          split
          · rename_i hk
            exact O.fnK f _ sp hs as (k1 :: kr) _ _ q p gl (nt h3) h4 (kws_some hk) (pa_args R.E as) (pk_args R.E (k1 :: kr))
          · exact pe_n
        · exact pe_n
    · split
      · rename_i h
        obtain ⟨h1, h2⟩ := b2 h
        obtain ⟨h3, h4⟩ := b2 h2
        obtain ⟨h5, h6⟩ := b2 h4
        cases ks with
        | cons _ _ => cases h6
        | nil => exact r_loc L O h1 (nt h3) h5 (pa_args R.E as)
      · exact pe_n
  | Attribute o m q =>
    show PE X (.Call (.Attribute o m q) as ks p) (if (!isSup o && (as.all plainA && (q.endLine == p.line && Nat.blt as.length 25))) = true then _ else nE)
    split
    · rename_i h
      obtain ⟨h1, h2⟩ := b2 h
      obtain ⟨h3, h4⟩ := b2 h2
      cases ks with
      | nil =>
        obtain ⟨h5, h6⟩ := b2 h4
        exact pe_mts fun sp hs => O.mt m sp hs o as _ _ q p (nt h1) h3 h5 (Nat.le_of_ble_eq_true h6) (R.E o) (pa_args R.E as)
      | cons k1 kr =>
        obtain ⟨h5, h6⟩ := b2 h4
        show PE X _ (match (Γ x.c).mtK m ((k1 :: kr).filterMap (·.arg)) with | some sp => if ((k1 :: kr).all (·.arg.isSome) && Nat.blt (as.length + (k1 :: kr).length) 25) = true then tMtK sp x.W ((pr x).E o) (argsT (pr x).E as) (kwsT (pr x).E (k1 :: kr)) else nE | none => nE)
        split
        · rename_i sp hs
          split
          · rename_i hk
            obtain ⟨hk, hz⟩ := b2 hk
            exact O.mtK m _ sp hs o as (k1 :: kr) _ _ _ q p (nt h1) h3 h5 (Nat.le_of_ble_eq_true hz) (kws_some hk) (R.E o) (pa_args R.E as) (pk_args R.E (k1 :: kr))
          · exact pe_n
        · exact pe_n
    · exact pe_n
  | _ => exact pe_n
theorem lvE_ok (L : Like S k N X x) (O : OraOk (Γ x.c) X x.W) (R : Right X (pr x)) {g : Expr} {as : List Expr} {ks : List Keyword} {p : Pos} {t : TE} (h : lvE (Γ x.c) x (pr x).E g as ks = some t) : PE X (.Call g as ks p) t := by
  unfold lvE at h
  split at h
  · rename_i f pf o m q p2
    split at h
    · rename_i hh
      obtain ⟨h1, h2⟩ := b2 hh
      obtain ⟨h2, h3⟩ := b2 h2
      obtain ⟨h3, h4⟩ := b2 h3
      obtain ⟨h4, h5⟩ := b2 h4
      obtain ⟨h5, h6⟩ := b2 h5
      have hf := of_decide_eq_true h4
      subst hf
      have hg : Gl X "list" := by
        have := gloB_ok h2
        rw [← L.sc] at this
        exact this
      split at h
      · rename_i hm
        subst hm
        cases h
        exact pe_listI (L.calm h1) (R.E o) hg (O.blt _ h3) (sup_no (nt h5)) h6
      · split at h
        · rename_i hm
          subst hm
          cases h
          exact pe_listV (L.calm h1) (R.E o) hg (O.blt _ h3) (sup_no (nt h5)) h6
        · cases h
    · cases h
  · cases h
theorem r_call (L : Like S k N X x) (O : OraOk (Γ x.c) X x.W) (R : Right X (pr x)) (g : Expr) (as : List Expr) (ks : List Keyword) (p : Pos) : PE X (.Call g as ks p) (stepE Γ S.K N pr x (.Call g as ks p)) := by
  show PE X _ (match lvE (Γ x.c) x (pr x).E g as ks with | some t => t | none => callE Γ N pr x g as ks p)
  cases e : lvE (Γ x.c) x (pr x).E g as ks with
  | some t => exact lvE_ok L O R e
  | none => exact r_callE L O R g as ks p

theorem r_E (L : Like S k N X x) (O : OraOk (Γ x.c) X x.W) (hp : ∀ X' x', Like S k N X' x' → Right X' (pr x')) (e : Expr) : PE X e (stepE Γ S.K N pr x e) := by
  have R := hp X x L
  cases e with
  | Name y p => exact r_name L O y p
  | Constant c j p => exact r_const c j p
  | BinOp a op b p =>
    exact pe_orX (fun r e => O.bin op r e) (fun r e => O.binX op r e) (fun r h => pe_op h (R.E a) (R.E b)) fun r h => pe_opX h (R.E a) (R.E b)
  | UnaryOp op a p =>
    cases op with
    | Not => exact pe_notG O.tru (R.E a)
    | _ =>
      show PE X _ (match (Γ x.c).un _ with | some r => tUn r ((pr x).E a) | none => nE)
      split
      · rename_i r hr
        exact pe_un (O.un _ r hr) (R.E a)
      · exact pe_n
  | BoolOp op vs p => exact pe_bool O.tru R.E vs
  | Compare a ops bs p =>
    match ops, bs with
    | [op], [b] =>
      show PE X _ (if behindInMarks op b = true then nE else cmpE (Γ x.c) x.W op ((pr x).E a) ((pr x).E b))
      split
      · exact pe_n
      · rename_i hm
        exact pe_orX (fun r e => O.cmp op r e) (fun r e => O.cmpX op r e) (fun r h => pe_cmpR h (R.E a) (R.E b) (by simpa using hm)) fun r h => pe_cmpX h (R.E a) (R.E b) (by simpa using hm)
    | [op, op'], [b, c] =>
      show PE X _ (match (Γ x.c).cmp op, (Γ x.c).cmp op' with | some r, some r' => if lastMarks [op, op'] [b, c] = true then nE else tChain r r' ((pr x).E a) ((pr x).E b) ((pr x).E c) | _, _ => nE)
      split
      · rename_i r r' hr hr'
        split
        · exact pe_n
        · rename_i hm
          exact pe_chain (O.cmp op r hr) (O.cmp op' r' hr') (R.E a) (R.E b) (R.E c) (by simpa using hm)
      · exact pe_n
    | [], _ => exact pe_n
    | [_], [] => exact pe_n
    | [_], _ :: _ :: _ => exact pe_n
    | [_, _], [] => exact pe_n
    | [_, _], [_] => exact pe_n
    | [_, _], _ :: _ :: _ :: _ => exact pe_n
    | _ :: _ :: _ :: _, _ => exact pe_n
  | IfExp c a b p => exact pe_ifExp (R.T c) (R.E a) (R.E b)
  | Tuple es j p => exact pe_tup (pa_args R.E es)
  | List es p => exact pe_lst (pa_args R.E es)
  | Attribute o f p =>
    show PE X _ (if isSup o = true then nE else (match (Γ x.c).att f with | some r => tAtt r x.W ((pr x).E o) | none => nE))
    split
    · exact pe_n
    · rename_i h
      split
      · rename_i r hr
        exact O.att f r hr o _ p (by simpa using h) (R.E o)
      · exact pe_n
  | Subscript a i p =>
    cases i with
    | Slice lo hi st q =>
      cases st with
      | none => exact pe_slice O.sli (R.E a) (po_part R.E lo) (po_part R.E hi)
      | some m =>
        cases lo with
        | some _ => exact pe_n
        | none =>
          cases hi with
          | some _ => exact pe_n
          | none =>
            show PE X _ (if isM1 m = true then tRevL S.K ((pr x).E a) else nE)
            split
            · rename_i hm
              obtain ⟨j, p1, p2, rfl⟩ := isM1_of hm
              rw [← L.hK]
              exact pe_revL (R.E a)
            · exact pe_n
    | _ => exact pe_ix O.idx (R.E a) (R.E _) (plainIx_of rfl)
  | Call g as ks p => exact r_call L O R g as ks p
  | ListComp elt gs scope p => exact r_lc L hp elt gs scope p
  | Dict ks vs p => exact r_dict R.E ks vs p
  | DictComp kx vx gs scope p => exact r_dc L hp kx vx gs scope p
  | JoinedStr es p => exact r_js R.E es p
  | _ => exact pe_n
theorem r_T (L : Like S k N X x) (O : OraOk (Γ x.c) X x.W) (hp : ∀ X' x', Like S k N X' x' → Right X' (pr x')) (e : Expr) : PT X e (stepT Γ S.K N pr x e) := by
  have R := hp X x L
  have E := r_E L O hp
  cases e with
  | UnaryOp op a p =>
    cases op with
    | Not => exact pt_not (R.T a)
    | _ => exact pt_tru O.tru (E _) rfl
  | BoolOp op vs p =>
    cases op with
    | And =>
      show PT X _ (andT (pr x).T vs)
      cases vs with
      | nil => exact pt_n
      | cons a r => exact (pw_all R.T (a :: r) (by simp)).pt
    | Or =>
      show PT X _ (orT (pr x).T vs)
      cases vs with
      | nil => exact pt_n
      | cons a r => exact (pw_any R.T (a :: r) (by simp)).pt
  | IfExp c a b p => exact pt_ifT (R.T c) (R.T a) (R.T b)
  | Compare a ops bs p =>
    match ops, bs with
    | [op], [b] =>
      show PT X _ (if behindInMarks op b = true then nT else cmpB (Γ x.c) x.W op ((pr x).E a) ((pr x).E b))
      split
      · exact pt_n
      · rename_i hm
        exact pt_orX (fun r e => O.cmp op r e) (fun r e => O.cmpX op r e) (fun r h => pt_cmpR h (R.E a) (R.E b) (by simpa using hm)) fun r h => pt_cmpX h (R.E a) (R.E b) (by simpa using hm)
    | [op, op'], [b, c] =>
      show PT X _ (match (Γ x.c).cmp op, (Γ x.c).cmp op' with | some r, some r' => if lastMarks [op, op'] [b, c] = true then nT else tTest (tChain r r' ((pr x).E a) ((pr x).E b) ((pr x).E c)) | _, _ => nT)
      split
      · rename_i r r' hr hr'
        split
        · exact pt_n
        · rename_i hm
          exact pt_chain (O.cmp op r hr) (O.cmp op' r' hr') (R.E a) (R.E b) (R.E c) (by simpa using hm)
      · exact pt_n
    | [], _ => exact pt_n
    | [_], [] => exact pt_n
    | [_], _ :: _ :: _ => exact pt_n
    | [_, _], [] => exact pt_n
    | [_, _], [_] => exact pt_n
    | [_, _], _ :: _ :: _ :: _ => exact pt_n
    | _ :: _ :: _ :: _, _ => exact pt_n
  | _ => exact pt_tru O.tru (E _) rfl
theorem r_sto (L : Like S k N X x) {y : Str} (h : stoB x y = true) : Loc X.env.scope y ∧ (X.fn y = true ∨ X.env.scope.names.lookup y = some .local) := by
  unfold stoB at h
  rw [L.sc]
  split at h
  · rename_i e
    exact ⟨.inl e, .inr e⟩
  · rename_i e
    exact ⟨.inr e, .inl (L.fn y h)⟩
  · cases h
theorem r_G (L : Like S k N X x) (O : OraOk (Γ x.c) X x.W) (hp : ∀ X' x', Like S k N X' x' → Right X' (pr x')) (e : Expr) : PG X e (stepG Γ S.K N pr x e) := by
  have R := hp X x L
  cases e with
  | Name y p =>
    show PG X _ (if stoB x y = true then (match slotOf N y with | some i => gName i | none => nG) else nG)
    split
    · rename_i h
      obtain ⟨h1, h2⟩ := r_sto L h
      split
      · rename_i i hi
        exact pg_name (by rw [L.hN]; exact L.nd) (by rw [L.hN]; exact slotOf_at hi) h1 h2
      · exact pg_n
    · exact pg_n
  | Tuple es j p =>
    show PG X _ (if (x.c && es.all plainA) = true then oG (gTup S.K es.length (targsG (pr x).G es)) (gLst S.K es.length (targsG (pr x).G es)) else nG)
    split
    · rename_i h
      obtain ⟨h1, h2⟩ := b2 h
      rw [← L.hK]
      exact pg_or (pg_tup (L.calm h1) (pgs_all R.G es) (asgE_len es) (asgE_none es h2)) (pg_lst (L.calm h1) (pgs_all R.G es) (asgE_len es) (asgE_none es h2))
    · exact pg_n
  | Subscript o i p =>
    show PG X _ (if isSl i = true then nG else gSub ((pr x).E o) ((pr x).E i) (Γ x.c).put)
    split
    · exact pg_n
    · rename_i hsl
      refine pg_sub (R.E o) (R.E i) O.put fun v => ?_
      cases i with
      | Slice lo hi st q =>
        cases st with
        | none => exact absurd rfl hsl
        | some _ => rfl
      | _ => rfl
  | _ => exact pg_n
theorem r_any (L : Like S k N X x) {tg e : Expr} {te : TE} (h : PE X e te) : PI X tg e (iAny S.K te) := by
  unfold iAny
  rw [← L.hK]
  exact pi_or (pi_list h) (pi_or (pi_tup h) (pi_or (pi_str h) (pi_keys h)))
theorem r_I (L : Like S k N X x) (O : OraOk (Γ x.c) X x.W) (hp : ∀ X' x', Like S k N X' x' → Right X' (pr x')) (tg e : Expr) : PI X tg e (stepI Γ S.K N pr x tg e) := by
  have R := hp X x L
  unfold stepI
  split
  · rename_i f q as p
    split
    · rename_i h
      obtain ⟨h0, h3⟩ := b2 h
      obtain ⟨h1, h2⟩ := b2 h0
      have gl : Gl X f := by
        show X.env.scope.names.lookup f = _
        rw [L.sc]; exact gloB_ok h1
      have hm := O.blt f h2
      split
      · rename_i ef
        subst ef
        split
        · rename_i a
          exact pi_range1 gl hm (pa_args R.E [a]) (star_one (b2 h3).1)
        · rename_i a b
          exact pi_range2 gl hm (pa_args R.E [a, b]) ((star_one (b2 h3).1).trans (by rw [star_one (b2 (b2 h3).2).1]; rfl)) (star_one (b2 (b2 h3).2).1)
        · rename_i a b c
          exact pi_range3 gl hm (pa_args R.E [a, b, c]) (star_one (b2 h3).1) (star_all (b2 h3).2)
        · exact pi_n
      · split
        · rename_i ef
          subst ef
          split
          · rename_i a
            split
            · rename_i ht
              cases tg with
              | Tuple elts kk tp =>
                rw [← L.hK]
                exact pi_enum gl hm (pa_args R.E [a]) (star_one (b2 h3).1)
              | _ => cases ht
            · exact pi_n
          · exact pi_n
        · split
          · rename_i ef
            subst ef
            split
            · rename_i a b
              split
              · rename_i ht
                cases tg with
                | Tuple elts kk tp =>
                  rw [← L.hK]
                  exact pi_zip gl hm (pa_args R.E [a, b]) (star_one (b2 h3).1) (star_all (b2 h3).2)
                | _ => cases ht
              · exact pi_n
            · exact pi_n
          · split
            · rename_i ef
              subst ef
              split
              · rename_i a
                rw [← L.hK]
                exact pi_reversed gl hm (pa_args R.E [a]) (star_one (b2 h3).1)
              · exact pi_n
            · exact r_any L (R.E _)
    · exact r_any L (R.E _)
  · rename_i o m q p
    split
    · rename_i h
      obtain ⟨h1, h2⟩ := b2 h
      split
      · rename_i ef
        subst ef
        split
        · rename_i ht
          cases tg with
          | Tuple elts kk tp => exact pi_items (R.E o) (sup_no (nt h1)) h2
          | _ => cases ht
        · exact pi_n
      · split
        · rename_i ef
          subst ef
          exact pi_values (R.E o) (sup_no (nt h1)) h2
        · split
          · rename_i ef
            subst ef
            exact pi_keysM (R.E o) (sup_no (nt h1)) h2
          · exact r_any L (R.E _)
    · exact r_any L (R.E _)
  · exact r_any L (R.E _)
end
end AS

set_option Elab.async false
set_option linter.all false
set_option maxRecDepth 100000
set_option maxHeartbeats 4000000
namespace AS
open PySem PySem.Spec PyProof.Rows L2
section
variable {Γ : Bool → Ora} {S : Sys} {k : Nat} {N : List Str} {X : Cx} {x : Ctx} {pr : Ctx → WP}
theorem locL_ok (L : Like S k N X x) {y : Str} (h : locL x.sc y = true) : X.env.scope.names.lookup y = some .local := by
  unfold locL at h
  rw [L.sc]
  split at h
  · assumption
  · cases h
theorem r_asg (L : Like S k N X x) (R : Right X (pr x)) {tg e : Expr} {p : Pos} (hc : isComp e = false) (hw : swappedStores [tg] e X.env = pure none) (ht : plainA tg = true) : PS X (.Assign [tg] e p) (tAsg ((pr x).E e) ((pr x).G tg)) :=
  ps_asg (R.E e) (R.G tg) (swap_no hc) hw (by cases tg <;> first | rfl | cases ht)
theorem r_par (L : Like S k N X x) (R : Right X (pr x)) (ts vs : List Expr) (kt k2 : Nat) (pt p2 p : Pos) : PS X (.Assign [.Tuple ts kt pt] (.Tuple vs k2 p2) p) (parS N pr x ts vs) := by
  unfold parS
  split
  · rename_i y py z pz a b
    split
    · rename_i h
      obtain ⟨h0, h1⟩ := b2 h
      obtain ⟨h2, h3⟩ := b2 h0
      obtain ⟨h4, h5⟩ := b2 h3
      have hs := of_decide_eq_true h1
      split
      · rename_i i j hi hj
        split
        · exact ps_n
        · rename_i hij
          exact ps_par (L.calm h2) (by rw [L.hN]; exact L.nd) (by rw [L.hN]; exact slotOf_at hi) (by rw [L.hN]; exact slotOf_at hj) hij (locL_ok L h4) (locL_ok L h5) (pa_args R.E [a, b]) (swB_ok (by rw [L.sc]; exact hs)) rfl
      · exact ps_n
    · exact ps_n
  · rename_i y py z pz u pu a b c
    split
    · rename_i h
      obtain ⟨h0, h1⟩ := b2 h
      obtain ⟨h2, h3⟩ := b2 h0
      obtain ⟨h4, h5⟩ := b2 h3
      obtain ⟨h6, h7⟩ := b2 h5
      have hs := of_decide_eq_true h1
      split
      · rename_i i j l hi hj hl
        split
        · exact ps_n
        · rename_i hd
          simp only [Bool.or_eq_true, decide_eq_true_eq, not_or] at hd
          exact ps_par3 (L.calm h2) (by rw [L.hN]; exact L.nd) (by rw [L.hN]; exact slotOf_at hi) (by rw [L.hN]; exact slotOf_at hj) (by rw [L.hN]; exact slotOf_at hl) hd.1 hd.2.1 hd.2.2 (locL_ok L h4) (locL_ok L h6) (locL_ok L h7)
            (pa_args R.E [a, b, c]) (swB_ok (by rw [L.sc]; exact hs)) rfl
      · exact ps_n
    · exact ps_n
  · exact ps_n
theorem r_asgP (L : Like S k N X x) (R : Right X (pr x)) (tg e : Expr) (p : Pos) : PS X (.Assign [tg] e p) (asgP N pr x tg e) := by
  unfold asgP
  split
  · exact ps_n
  · rename_i hc
    have hc : isComp e = false := by simpa using hc
    split
    · split
      · rename_i hs
        exact r_asg L R hc (swB_ok (by rw [L.sc]; exact hs)) rfl
      · exact r_par L R _ _ _ _ _ _ p
    · exact ps_n
    · rename_i h1 h2
      split
      · rename_i ht
        refine r_asg L R hc ?_ ht
        cases tg with
        | Tuple ts kt pt =>
          cases e with
          | Tuple vs k2 p2 => exact (h1 _ _ _ _ _ _ rfl rfl).elim
          | _ => rfl
        | List ts pt =>
          cases e with
          | Tuple vs k2 p2 => exact (h2 _ _ _ _ _ rfl rfl).elim
          | _ => rfl
        | _ => cases e <;> rfl
      · exact ps_n
theorem r_asgC (L : Like S k N X x) (hp : ∀ X' x', Like S k N X' x' → Right X' (pr x')) (y : Str) (py : Pos) (elt : Expr) (gs : List Comprehension) (scope : Scope) (p q : Pos) :
    PS X (.Assign [.Name y py] (.ListComp elt gs scope p) q) (asgC S.K N pr x y py elt gs scope p) := by
  unfold asgC
  split
  · rename_i h
    obtain ⟨h1, h2⟩ := b2 h
    obtain ⟨h3, h4⟩ := b2 h2
    obtain ⟨h5, h6⟩ := b2 h4
    split
    · rename_i i g hi
      obtain ⟨tg, iter, ifs, a⟩ := g
      unfold lcS
      show PS X _ (if lcOk N x scope iter a = true then _ else nS)
      split
      · rename_i hh
        obtain ⟨rfl, hc, hb, hf⟩ := lcOk_of L hh
        exact ps_lockS (ps_setLc hc (by rw [L.hN]; exact L.nd) (by rw [L.hN]; exact slotOf_at hi) (locL_ok L h3) (sw_true (by rw [L.sc]; exact of_decide_eq_true h5) (locL_ok L h3) h1 (nt h6)) ((hp X x L).I tg iter) hb
          (fun s H C cl fp => (hp _ _ (L.blk s H scope cl C fp)).G tg) (fun s H C cl fp => r_tests (hp _ _ (L.blk s H scope cl C fp)).T ifs) (fun s H C cl fp => (hp _ _ (L.blk s H scope cl C fp)).E elt) hf)
      · exact ps_n
    · exact ps_n
  · exact ps_n
theorem r_asgA (L : Like S k N X x) (O : OraOk (Γ x.c) X x.W) (R : Right X (pr x)) (o e : Expr) (f : Str) (q p : Pos) : PS X (.Assign [.Attribute o f q] e p) (asgA Γ pr x o f e) := by
  unfold asgA
  split
  · rename_i r hr
    refine ⟨fun pins s σ H D I h => ?_⟩
    refine plainObj_wpAny_Assign_Attribute (thn ((R.E e).run pins s σ H _ I h) fun u s1 ⟨y, H1, I1, ry, q1⟩ => thn ((R.E o).run pins s1 σ H1 _ I1 q1) fun ov s2 ⟨v, H2, I2, rx, q2⟩ => ?_) swap_att
    exact thn (O.sat f r hr pins s2 σ H2 v y ov u _ I2 rx ry q2) fun _ s3 ⟨H3, I3, q3⟩ => ⟨σ, H3, I3, q3⟩
  · exact ps_n
theorem cellL_ok {sc : Scope} {y : Str} (h : cellL sc y = true) : sc.names.lookup y = some .cell := by
  unfold cellL at h
  split at h
  · assumption
  · cases h
theorem sw_cell {env : Env} {y : Str} {py p : Pos} {elt : Expr} {gs : List Comprehension} {scope : Scope} {l : Nat} (h : env.scope.names.lookup y = some .cell) : swapsWith (.ListComp elt gs scope p) (some (.Name y py)) l env = pure false := by
  unfold swapsWith
  have e : (env.kindOf y == some .local) = false := by
    unfold Env.kindOf
    rw [h]
    rfl
  simp [e]
theorem r_S (L : Like S k N X x) (O : OraOk (Γ x.c) X x.W) (hp : ∀ X' x', Like S k N X' x' → Right X' (pr x')) (s : Stmt) : PS X s (stepS Γ S.K N pr x s) := by
  have R := hp X x L
  cases s with
  | Pass p => exact ps_pass
  | Break p => exact ps_break
  | Continue p => exact ps_continue
  | Return v p =>
    cases v with
    | none => exact ps_retN
    | some e => exact ps_ret (R.E e)
  | Expr e p =>
    show PS X _ (if isComp e = true then nS else tDrop ((pr x).E e))
    split
    · exact ps_n
    · rename_i h
      exact ps_expr (R.E e) (swap_no (by simpa using h))
  | If c a b p => exact ps_if (R.T c) (pss_blk R.S a) (pss_blk R.S b)
  | While c b o p =>
    cases o with
    | nil => exact ps_while L.po (R.T c) (pss_blk R.S b)
    | cons _ _ => exact ps_n
  | For tg it b o p =>
    cases o with
    | nil =>
      show PS X _ (if (x.c && !isSet it) = true then lockS (lockB it) (tFor ((pr x).I tg it) ((pr x).G tg) (blkT (pr x).S b)) else nS)
      split
      · rename_i h
        obtain ⟨h1, h2⟩ := b2 h
        exact ps_lockS (ps_for L.po (L.calm h1) (R.I tg it) (R.G tg) (pss_blk R.S b) (fold_no (nt h2)))
      · exact ps_n
    | cons _ _ => exact ps_n
  | Assign tgs e p =>
    match tgs with
    | [] => exact ps_n
    | _ :: _ :: _ => exact ps_n
    | [tg] =>
      show PS X _ (asgS Γ S.K N pr x tg e)
      unfold asgS
      split
      · split
        · rename_i hcl
          refine ps_asg (R.E _) (R.G _) ?_ rfl rfl
          exact sw_cell (l := p.line) (by rw [L.sc]; exact cellL_ok hcl)
        · exact r_asgC L hp _ _ _ _ _ _ p
      · exact r_asgA L O R _ _ _ _ p
      · exact r_asgP L R _ _ p
  | _ => exact ps_n
/-- each computed reading is right -/
theorem right (hΓ : Sound Γ S k N) : ∀ (n : Nat) (X : Cx) (x : Ctx), Like S k N X x → Right X (wp Γ S.K N n x)
  | 0, _, _, _ => ⟨fun _ => pe_n, fun _ => pt_n, fun _ => pg_n, fun _ _ => pi_n, fun _ => ps_n⟩
  | n + 1, X, x, L => ⟨r_E L (hΓ X x L) (right hΓ n), r_T L (hΓ X x L) (right hΓ n), r_G L (hΓ X x L) (right hΓ n), r_I L (hΓ X x L) (right hΓ n), r_S L (hΓ X x L) (right hΓ n)⟩
end

/-! ### defs -/
structure RoomG (k : Nat) (A : Around) : Prop where
  r : Room k A
  g : A.guards = some []
/-- the function at f, called with arguments that are bound to ps, keeps its promise, by at most k levels; no repr runs around -/
def FnB (S : Sys) (k : Nat) (f : Addr) (fd : FuncData) (ps : List Str) (sp : Sp) : Prop := ∀ (A : Around) (outer : List Env) (s : Shared) (H : Hp) (args : Args) (us : List Value) (vs : List V) (Q : VK) (E : XK), RoomG k A → Env0 S.P S.w S.K S.mg S.base A outer s H → BindsTo s fd args (ps.zip us) → Vals vs us → sp vs H Q E →
  codeAny (model S.P S.w) A (.call (.ref f) args) (CR (L2.CX S.P S.w) outer S.P S.w H s Q E) s
/-- .. by places -/
def FnG (S : Sys) (k : Nat) (f : Addr) (sp : Sp) : Prop := ∀ (A : Around) (outer : List Env) (s : Shared) (H : Hp) (us : List Value) (vs : List V) (Q : VK) (E : XK), RoomG k A → Env0 S.P S.w S.K S.mg S.base A outer s H → Vals vs us → sp vs H Q E →
  codeAny (model S.P S.w) A (.call (.ref f) ⟨us, []⟩) (CR (L2.CX S.P S.w) outer S.P S.w H s Q E) s
theorem FnG.mono {S : Sys} {j k : Nat} {f : Addr} {sp : Sp} (F : FnG S j f sp) (h : j ≤ k) : FnG S k f sp := fun A outer s H us vs Q E r => F A outer s H us vs Q E ⟨r.r.mono h, r.g⟩
theorem FnB.mono {S : Sys} {j k : Nat} {f : Addr} {fd : FuncData} {ps : List Str} {sp : Sp} (F : FnB S j f fd ps sp) (h : j ≤ k) : FnB S k f fd ps sp := fun A outer s H args us vs Q E r => F A outer s H args us vs Q E ⟨r.r.mono h, r.g⟩
theorem FnB.pos {S : Sys} {k : Nat} {f : Addr} {fd : FuncData} {ps : List Str} {sp : Sp} (F : FnB S k f fd ps sp) (hb : ∀ (s : Shared) (us : List Value), us.length = ps.length → BindsTo s fd ⟨us, []⟩ (ps.zip us)) (len : ∀ vs H Q E, sp vs H Q E → vs.length = ps.length) : FnG S k f sp :=
  fun A outer s H us vs Q E r e0 rv h => F A outer s H ⟨us, []⟩ us vs Q E r e0 (hb s us (rv.length.symm.trans (len _ _ _ _ h))) rv h
/-- what a def's caller wishes -/
def wD (E : XK) : WX := fun c d _ H => E c d H
/-- the def's own context -/
def ctxD (sc : Scope) (E : XK) : Ctx := ⟨sc, true, fun _ => true, wD E⟩
theorem like_def {S : Sys} {k : Nat} {N : List Str} {qual : Str} {scope : Scope} {f : Addr} {cdv : Value} {A : Around} {outer : List Env} {s : Shared} {H : Hp} {E : XK} (nd : N.Nodup) (r : RoomG (k + 1) A) :
    Like S k N (cxOf (L2.CX S.P S.w) S.P S.w S.K S.mg S.base N qual scope f cdv A outer s H E) (ctxD scope E) := by
  have rd := r.r.deeper (envOfC qual scope s.heap.objs.size f cdv)
  exact ⟨rfl, rfl, rfl, rfl, rfl, rfl, rfl, nd, fun _ => rfl, fun _ _ => rfl, r.g, rd.dp, rd.un, takes_of rfl rfl rfl rfl, passes_of rfl⟩
/-- THE RULE for a def of the text: its computed reading holds -/
theorem fn_def {Γ : Bool → Ora} {S : Sys} {k n : Nat} {f : Addr} {fd : FuncData} {x qual : Str} {params : Arguments} {body : List Stmt} {scope : Scope} {N ps : List Str} {sp : Sp} {dvs : List V} {kws : List (Str × V)} (F : FunD S.K x qual params body scope dvs kws f fd) (Sc : FnScope N ps scope)
    (hΓ : Sound Γ S k N) (len : ∀ vs H Q E, sp vs H Q E → vs.length = ps.length)
    (body_ok : ∀ vs H Q E, sp vs H Q E → blkT (wp Γ S.K N n (ctxD scope E)).S body { nx := fun _ H' => Q .non H', rt := Q } (start N vs) H) : FnB S (k + 1) f fd ps sp := by
  intro A outer s H args us vs Q E hr e0 hb rv hsp
  obtain ⟨oc, od, dV, kV, doc, pm, an, cdv, ct, osl, rfl, lk, hcd, _⟩ := F.1
  have hl := len _ _ _ _ hsp
  have KX : S.K.In s.heap := e0.mod.kin.keeps fun b o e => (e0.bs b o e).1
  have hk : ∀ y ∈ ps.zip us, scope.names.lookup y.1 = some .local ∨ (scope.names.lookup y.1 = some .cell ∧ ((cellsFrom (s.heap.objs.size + 1) scope.names []).lookup y.1).isSome = true) := by
    rintro ⟨n, v⟩ hy
    exact (Sc.par n (List.of_mem_zip hy).1).imp (fun q => q) fun q => ⟨q, PySem.W.cellsFrom_some _ _ _ (.inl q)⟩
  have hul : us.length = ps.length := rv.length.symm.trans hl
  refine codeAny_call_function hr.r.depth (KX _ _ lk) rfl Sc.co Sc.gen rfl (PySem.W.codeRec_of KX hcd) (hb _ _ _ _ ?_)
  refine wpAny_newFunctionEnv_cells Sc.kind hk fun env he s1 ic => ?_
  subst he
  refine ⟨(e0.mod.nolimit.keeps fun b o e => (e0.bs b o e).1).keeps ic.toInCall.keep, codeAny_func ?_⟩
  have L := like_def (S := S) (k := k) (qual := qual) (scope := scope) (f := f) (cdv := cdv) (outer := outer) (s := s) (H := H) (E := E) Sc.nd hr
  have R := right hΓ n _ _ L
  have I := inv_start (CX := L2.CX S.P S.w) (E := E) Sc hr.r.hd e0 hl rv ic
  refine wpAny_mono ((pss_blk R.S body).run [] s1 (start N vs) H _ I (body_ok vs H Q E hsp)) (fun fl s' hs => ?_) fun e s' hs => hs
  cases fl with
  | ret u =>
    obtain ⟨v, σ', H', J, rv', q⟩ := hs
    exact ⟨v, H', J.os, J.bare, J.base, J.hok, rv', q⟩
  | next =>
    obtain ⟨σ', H', J, q⟩ := hs
    exact ⟨.non, H', J.os, J.bare, J.base, J.hok, rfl, q⟩
  | brk =>
    obtain ⟨_, _, _, q⟩ := hs
    exact False.elim q
  | cont =>
    obtain ⟨_, _, _, q⟩ := hs
    exact False.elim q
end AS

set_option Elab.async false
set_option linter.all false
set_option maxRecDepth 100000
set_option maxHeartbeats 4000000
namespace AS
open PySem PySem.Spec PyProof.Rows L2

/-! ### data of any depth, dicts among it -/
mutual
inductive Dt (K : PySem.W.Frag) (H : Hp) : V → PyData → Prop
  | non : Dt K H .non .none
  | bl (b : Bool) : Dt K H (.bl b) (.bool b)
  | int (i : Int) : Dt K H (.int i) (.int i)
  | str (x : Str) : Dt K H (.str x) (.str x)
  | lst {a : Addr} {xs : List V} {ds : List PyData} : SqL K H a xs → Dts K H xs ds → Dt K H (.ref a) (.list ds)
  | tup {a : Addr} {xs : List V} {ds : List PyData} : SqT K H a xs → Dts K H xs ds → Dt K H (.ref a) (.tuple ds)
  | dic {a : Addr} {kvs : List (Key × V)} {es : List (PyData × PyData)} : Rd H a (.dK kvs) → Dts K H (kvs.map fun p => kV p.1) (es.map (·.1)) → Dts K H (kvs.map (·.2)) (es.map (·.2)) → Dt K H (.ref a) (.dict es)
inductive Dts (K : PySem.W.Frag) (H : Hp) : List V → List PyData → Prop
  | nil : Dts K H [] []
  | cons {v : V} {vs : List V} {d : PyData} {ds : List PyData} : Dt K H v d → Dts K H vs ds → Dts K H (v :: vs) (d :: ds)
end
/-- sys.modules stands in the written part, a dict -/
def SmOk (K : PySem.W.Frag) : Prop := ∃ o, K.lookup sysModules = some o ∧ o.cls = .type "dict"
section
variable {X : Cx} {pins : List (Addr × Obj)} {σ : St} {H : Hp} {s : Shared}
theorem keys_vals {P : Program} {w : World} : ∀ {es : List DictEntry} {vs : List (Key × Value)} {kvs : List (Key × V)}, Pairs (mixKind P w) es vs → KV kvs vs → Vals (kvs.map fun p => kV p.1) (es.map (·.key)) ∧ Vals (kvs.map (·.2)) (es.map (·.val))
  | _, _, _, .nil, .nil => ⟨.nil, .nil⟩
  | _, _, _, .cons hk hv pr, .cons r t => by
    obtain ⟨h1, h2⟩ := keys_vals pr t
    refine ⟨.cons ?_ h1, .cons ?_ h2⟩
    · dsimp only
      rw [r.1]
      exact relV_key hk
    · dsimp only
      rw [hv]
      exact r.2
mutual
theorem Dt.reads (I : Inv X pins σ H s) (sm : SmOk X.K) : ∀ {v : V} {d : PyData} {u : Value}, Dt X.K H v d → RelV v u → ∃ as, Reads s.heap u d as ∧ sysModules ∉ as
  | _, _, _, .non, r => by
    cases r
    exact ⟨_, Reads.none, by simp⟩
  | _, _, _, .bl b, r => by
    cases r
    exact ⟨_, Reads.bool b, by simp⟩
  | _, _, _, .int i, r => by
    obtain ⟨t, rfl⟩ := r
    exact ⟨_, Reads.int i t, by simp⟩
  | _, _, _, .str x, r => by
    obtain ⟨t, rfl⟩ := r
    exact ⟨_, Reads.str x t, by simp⟩
  | _, _, _, .lst hs ha, r => by
    cases r
    obtain ⟨its, rv, ⟨o, n, ho, hc, _, hd⟩, _⟩ := I.list hs
    obtain ⟨as, hr, hn⟩ := Dts.reads I sm ha rv
    refine ⟨_, Reads.list ho hc hd hr, fun hm => ?_⟩
    rcases List.mem_cons.mp hm with e | hm
    · obtain ⟨o', e', c'⟩ := sm
      rw [← e, I.kIn _ _ e'] at ho
      cases ho
      rw [hc] at c'
      exact absurd c' (by decide +kernel)
    · exact hn hm
  | _, _, _, .tup hs ha, r => by
    cases r
    obtain ⟨its, rv, ⟨o, ho, hc, n, hd⟩, _⟩ := I.tuple hs
    obtain ⟨as, hr, hn⟩ := Dts.reads I sm ha rv
    exact ⟨_, Reads.tuple ho hc hd hr, hn⟩
  | _, _, _, .dic hs hk hv, r => by
    cases r
    obtain ⟨_, nsm, vs, kv, o, es, ep, ho, hx, hd, _, pr, _⟩ := hs.ok I.hok
    obtain ⟨r1, r2⟩ := keys_vals pr kv
    obtain ⟨as, h1, n1⟩ := Dts.reads I sm hk r1
    obtain ⟨bs, h2, n2⟩ := Dts.reads I sm hv r2
    refine ⟨_, Reads.dict ho hx.1 hd h1 h2, fun hm => ?_⟩
    rcases List.mem_append.mp hm with hm | hm
    · rcases List.mem_cons.mp hm with e | hm
      · rw [← e] at nsm
        simp at nsm
      · exact n1 hm
    · exact n2 hm
theorem Dts.reads (I : Inv X pins σ H s) (sm : SmOk X.K) : ∀ {vs : List V} {ds : List PyData} {us : List Value}, Dts X.K H vs ds → Vals vs us → ∃ as, ReadsAll s.heap us ds as ∧ sysModules ∉ as
  | _, _, _, .nil, r => by
    cases r
    exact ⟨_, ReadsAll.nil, by simp⟩
  | _, _, _, .cons h1 h2, r => by
    cases r with
    | cons r1 r2 =>
      obtain ⟨as, q1, n1⟩ := Dt.reads I sm h1 r1
      obtain ⟨bs, q2, n2⟩ := Dts.reads I sm h2 r2
      exact ⟨_, ReadsAll.cons q1 q2, fun hm => (List.mem_append.mp hm).elim n1 n2⟩
end
/-- repr(x) -/
def rRepr (K : PySem.W.Frag) : List V → Hp → VK → Prop := fun xs H Q => ∃ v d, xs = [v] ∧ Dt K H v d ∧ d.showable = true ∧ d.depth ≤ 100 ∧ d.shown.length ≤ sizeLine ∧ Q (.str d.shown) H
theorem call_reprD (sm : SmOk X.K) (gd : X.A.guards = some []) (un : X.A.units + 200 < cLine) : CallR X (.builtin "repr") (rRepr X.K) := by
  intro pins s σ H xs us Q I r h
  obtain ⟨v, d, rfl, hd, hs, hdp, hz, q⟩ := h
  obtain ⟨u, rfl, ru⟩ := vals1 r
  have fin : ∀ (z : Str) (t : Tok), z = d.shown → ∀ (h' : Heap) (tk : Nat), (∀ b o, s.heap.get? b = some o → h'.get? b = some o) → EP X pins σ Q (.str z t) { s with heap := h', toks := tk } := fun z t e h' tk k => ⟨.str z, H, I.kept k, ⟨t, rfl⟩, by rw [e]; exact q⟩
  cases hd with
  | non =>
    cases ru
    exact PySem.P.repr_of_none (fin _ _ (by simp only [PyData.shown]) s.heap _ fun _ _ e => e)
  | bl b =>
    cases ru
    exact PySem.P.repr_of_bool (fin _ _ (by simp only [PyData.shown]) s.heap _ fun _ _ e => e)
  | int i =>
    obtain ⟨t, rfl⟩ := ru
    exact PySem.P.repr_of_int (by simpa [PyData.showable] using hs) (fin _ _ (by simp only [PyData.shown]) s.heap _ fun _ _ e => e)
  | str x =>
    obtain ⟨t, rfl⟩ := ru
    have e : (PyData.str x).shown = reprText x := by simp only [PyData.shown]
    rw [e] at hz
    exact PySem.P.repr_of_str (fin _ _ e.symm s.heap _ fun _ _ e => e) hz
  | lst hl hd' =>
    cases ru
    obtain ⟨as, rd, n⟩ := Dt.reads (d := _) I sm (.lst hl hd') rfl
    exact repr_of_reads' rd hs (fun _ => n) gd (by omega) (fun _ _ e => e) (fun h' u tk k => fin _ u rfl h' tk k) hz
  | tup hl hd' =>
    cases ru
    obtain ⟨as, rd, n⟩ := Dt.reads (d := _) I sm (.tup hl hd') rfl
    exact repr_of_reads' rd hs (fun _ => n) gd (by omega) (fun _ _ e => e) (fun h' u tk k => fin _ u rfl h' tk k) hz
  | dic hl hk hv =>
    cases ru
    obtain ⟨as, rd, n⟩ := Dt.reads (d := _) I sm (.dic hl hk hv) rfl
    exact repr_of_reads' rd hs (fun _ => n) gd (by omega) (fun _ _ e => e) (fun h' u tk k => fin _ u rfl h' tk k) hz
end

/-! ### entries of the oracle -/
/-- f(..) is read by sp -/
def CallE (S : Sys) (k : Nat) (f : Str) (sp : Sp) : Prop := ∀ (N : List Str) (X : Cx) (x : Ctx), Like S k N X x → x.c = true → ∀ (es : List Expr) (t : TA) (p pos : Pos), Gl X f → badName f = false → es.all plainA = true → PA X es t → PE X (.Call (.Name f p) es [] pos) (tCl sp x.W t)
def CallKE (S : Sys) (k : Nat) (f : Str) (ks : List Str) (sp : SpK) : Prop := ∀ (N : List Str) (X : Cx) (x : Ctx), Like S k N X x → x.c = true → ∀ (es : List Expr) (kws : List Keyword) (t tk : TA) (p pos : Pos), Gl X f → badName f = false → es.all plainA = true → kws.map (·.arg) = ks.map some → PA X es t → PK X kws tk →
  PE X (.Call (.Name f p) es kws pos) (tClK sp x.W t tk)
def MtE (S : Sys) (k : Nat) (m : Str) (sp : Rc × Sp) : Prop := ∀ (N : List Str) (X : Cx) (x : Ctx), Like S k N X x → x.c = true → ∀ (o : Expr) (es : List Expr) (to : TE) (t : TA) (p pos : Pos), isSup o = false → es.all plainA = true → (p.endLine == pos.line) = true → es.length < 25 → PE X o to → PA X es t → PE X (.Call (.Attribute o m p) es [] pos) (tMt sp x.W to t)
def MtKE (S : Sys) (k : Nat) (m : Str) (ks : List Str) (sp : Rc × SpK) : Prop := ∀ (N : List Str) (X : Cx) (x : Ctx), Like S k N X x → x.c = true → ∀ (o : Expr) (es : List Expr) (kws : List Keyword) (to : TE) (t tk : TA) (p pos : Pos), isSup o = false → es.all plainA = true → (p.endLine == pos.line) = true → es.length + kws.length < 25 → kws.map (·.arg) = ks.map some → PE X o to → PA X es t → PK X kws tk →
  PE X (.Call (.Attribute o m p) es kws pos) (tMtK sp x.W to t tk)
def AttE (S : Sys) (k : Nat) (f : Str) (r : V → Hp → VK → XK → Prop) : Prop := ∀ (N : List Str) (X : Cx) (x : Ctx), Like S k N X x → x.c = true → ∀ (o : Expr) (to : TE) (p : Pos), isSup o = false → PE X o to → PE X (.Attribute o f p) (tAtt r x.W to)
def SatE (S : Sys) (k : Nat) (f : Str) (r : V → V → Hp → (Hp → Prop) → Prop) : Prop := ∀ (N : List Str) (X : Cx) (x : Ctx), Like S k N X x → x.c = true → SatR X f r
/-- a table by names -/
def TabOk {α : Type} (P : Str → α → Prop) (tab : List (Str × α)) : Prop := ∀ f sp, tab.lookup f = some sp → P f sp
theorem tab_nil {α : Type} {P : Str → α → Prop} : TabOk P [] := fun _ _ h => by cases h
theorem tab_cons {α : Type} {P : Str → α → Prop} {tab : List (Str × α)} {f : Str} {a : α} (h : P f a) (t : TabOk P tab) : TabOk P ((f, a) :: tab) := fun g b e => by
  by_cases q : g = f
  · subst q
    rw [List.lookup_cons, beq_self_eq_true] at e
    cases e
    exact h
  · rw [List.lookup_cons, beq_eq_false_iff_ne.mpr q] at e
    exact t g b e
theorem tab_append {α : Type} {P : Str → α → Prop} {t1 t2 : List (Str × α)} (h1 : TabOk P t1) (h2 : TabOk P t2) : TabOk P (t1 ++ t2) := fun g b e => by
  rw [List.lookup_append] at e
  cases q : t1.lookup g with
  | none => rw [q] at e; exact h2 g b e
  | some c =>
    rw [q] at e
    have e : c = b := Option.some.inj e
    rw [← e]
    exact h1 g c q
end AS

set_option Elab.async false
set_option linter.all false
set_option maxRecDepth 100000
set_option maxHeartbeats 4000000
namespace AS
open PySem PySem.Spec PyProof.Rows L2

/-! ### operators -/
def addR (K : PySem.W.Frag) : R2 := fun x y H Q => match x with
  | .int i => (match y with
    | .int j => Q (.int (i + j)) H
    | _ => False)
  | .str a => (match y with
    | .str b => a.length + b.length ≤ sizeLine ∧ Q (.str (a ++ b)) H
    | _ => False)
  | .ref _ => rCat x y H Q ∨ rCatT K x y H Q
  | _ => False
def i2R (f : Int → Int → V) (C : Int → Int → Prop) : R2 := fun x y H Q => match x with
  | .int i => (match y with
    | .int j => C i j ∧ Q (f i j) H
    | _ => False)
  | _ => False
/-- ints, no condition -/
def i0R (f : Int → Int → V) : R2 := fun x y H Q => match x with
  | .int i => (match y with
    | .int j => Q (f i j) H
    | _ => False)
  | _ => False
def mulR : R2 := fun x y H Q => match x with
  | .int i => (match y with
    | .int j => CMul i j ∧ Q (.int (i * j)) H
    | _ => False)
  | .ref _ => rRep x y H Q
  | _ => False
def negR : V → Hp → VK → Prop := fun x H Q => match x with
  | .int i => Q (.int (-i)) H
  | _ => False
/-- two dicts with flat values -/
def sameKV (ks ls : List (Key × V)) : Bool := (ks.length == ls.length) && ks.all fun p => match valV ls p.1 with
  | some q => eqV p.2 q
  | none => false
def rEqDF (neg : Bool) : R2 := fun x y H Q => ∃ a b ks ls, x = .ref a ∧ y = .ref b ∧ Rd H a (.dK ks) ∧ Rd H b (.dK ls) ∧ (ks.map (·.2)).all flatV = true ∧ (ls.map (·.2)).all flatV = true ∧ Q (.bl (if neg then !sameKV ks ls else sameKV ks ls)) H
/-- == by data -/
@[irreducible] def eqR (K : PySem.W.Frag) : R2 := fun x y H Q => rEq x y H Q ∨ rEqD K x y H Q ∨ rEqDF false x y H Q
@[irreducible] def neR (K : PySem.W.Frag) : R2 := fun x y H Q => rNe x y H Q ∨ rNeD K x y H Q ∨ rEqDF true x y H Q
section
variable {X : Cx}
theorem hits_flat {A : Around} {s : Shared} {ls : List (Key × V)} {vb : List (Key × Value)} (rb : KV ls vb) (fb : (ls.map (·.2)).all flatV = true) : ∀ {ks : List (Key × V)} {va : List (Key × Value)}, KV ks va → (ks.map (·.2)).all flatV = true → PySem.W.KeqHits A s vb va (ks.all fun p => match valV ls p.1 with | some q => eqV p.2 q | none => false) := by
  intro ks va ra
  unfold KV at ra
  induction ra with
  | nil => intro _; exact .nil
  | @cons p q ps qs h t ih =>
    intro fa
    rw [List.map_cons, List.all_cons] at fa
    obtain ⟨f1, f2⟩ := b2 fa
    obtain ⟨h1, h2⟩ := h
    obtain ⟨k, v⟩ := q
    have h1' : p.1 = k := h1
    have rr : RelO (valV ls p.1) (valueAt vb p.1) := rb.val p.1
    rw [List.all_cons]
    cases e : valV ls p.1 with
    | none =>
      rw [e, h1'] at rr
      cases e2 : valueAt vb k with
      | none => exact .miss e2
      | some y => rw [e2] at rr; exact (show False from rr).elim
    | some w =>
      rw [e] at rr
      obtain ⟨y, hy, ry⟩ := rr.some_of
      rw [h1'] at hy
      have fw : flatV w = true := by
        have : w ∈ ls.map (·.2) := by
          unfold valV at e
          cases e3 : ls.find? (fun kv => decide (kv.1 = p.1)) with
          | none => rw [e3] at e; cases e
          | some z =>
            rw [e3] at e
            cases e
            exact List.mem_map.mpr ⟨z, List.mem_of_find?_eq_some e3, rfl⟩
        exact List.all_eq_true.mp fb w this
      exact .hit hy (eqAt_V h2 ry f1 fw) (ih f2)
theorem op_eqDF (hu : X.A.units < cLine) : OpR X (compareOp .Eq) (rEqDF false) := by
  intro pins s σ H x y v u Q I rx ry h
  obtain ⟨a, b, ks, ls, rfl, rfl, ea, eb, fa, fb, q⟩ := h
  obtain rfl : v = Value.ref a := rx
  obtain rfl : u = Value.ref b := ry
  obtain ⟨_, ya, va, ra, da⟩ := dk_rd I.hok ea
  obtain ⟨_, yb, vb, rb, db⟩ := dk_rd I.hok eb
  have l1 := ra.length
  have l2 := rb.length
  refine PySem.W.keq_eq (knd := mixKind X.prog X.w) ya yb da db hu (fun _ => hits_flat rb fb ra fa) ?_
  rw [← l1, ← l2]
  exact ⟨.bl _, H, I, rfl, q⟩
theorem op_neDF (hu : X.A.units < cLine) : OpR X (compareOp .NotEq) (rEqDF true) := by
  intro pins s σ H x y v u Q I rx ry h
  obtain ⟨a, b, ks, ls, rfl, rfl, ea, eb, fa, fb, q⟩ := h
  obtain rfl : v = Value.ref a := rx
  obtain rfl : u = Value.ref b := ry
  obtain ⟨_, ya, va, ra, da⟩ := dk_rd I.hok ea
  obtain ⟨_, yb, vb, rb, db⟩ := dk_rd I.hok eb
  have l1 := ra.length
  have l2 := rb.length
  refine PySem.W.keq_ne (knd := mixKind X.prog X.w) ya yb da db hu (fun _ => hits_flat rb fb ra fa) ?_
  rw [← l1, ← l2]
  exact ⟨.bl _, H, I, rfl, q⟩
end
def truG (K : PySem.W.Frag) : V → Hp → (Bool → Hp → Prop) → Prop := fun x H Q => match x with
  | .bl b => Q b H
  | .non => Q false H
  | .int i => Q (i != 0) H
  | x => ∃ k, TruV K x H k ∧ Q k H
section
variable {X : Cx}
theorem op_addR : OpR X (binaryOp .Add) (addR X.K) := by
  intro pins s σ H x y v u Q I rx ry h
  cases x with
  | int i =>
    cases y with
    | int j => exact op_add pins s σ H _ _ v u Q I rx ry ⟨i, j, rfl, rfl, h⟩
    | _ => exact (show False from h).elim
  | str a =>
    cases y with
    | str b => exact op_add_str pins s σ H _ _ v u Q I rx ry ⟨a, b, rfl, rfl, h.1, h.2⟩
    | _ => exact (show False from h).elim
  | ref a => exact (op_cat.or op_catT) pins s σ H _ _ v u Q I rx ry h
  | _ => exact (show False from h).elim
theorem op_i2R {f : Int → Int → V} {C : Int → Int → Prop} {g : Value → Value → Sem Value} (o : OpR X g (rI C f)) : OpR X g (i2R f C) := by
  intro pins s σ H x y v u Q I rx ry h
  cases x with
  | int i =>
    cases y with
    | int j => exact o pins s σ H _ _ v u Q I rx ry ⟨i, j, rfl, rfl, h.1, h.2⟩
    | _ => exact (show False from h).elim
  | _ => exact (show False from h).elim
theorem op_i0R {f : Int → Int → V} {g : Value → Value → Sem Value} (o : OpR X g (rI0 f)) : OpR X g (i0R f) := by
  intro pins s σ H x y v u Q I rx ry h
  cases x with
  | int i =>
    cases y with
    | int j => exact o pins s σ H _ _ v u Q I rx ry ⟨i, j, rfl, rfl, h⟩
    | _ => exact (show False from h).elim
  | _ => exact (show False from h).elim
theorem op_mulR : OpR X (binaryOp .Mult) mulR := by
  intro pins s σ H x y v u Q I rx ry h
  cases x with
  | int i =>
    cases y with
    | int j => exact op_mul pins s σ H _ _ v u Q I rx ry ⟨i, j, rfl, rfl, h.1, h.2⟩
    | _ => exact (show False from h).elim
  | ref a => exact op_rep pins s σ H _ _ v u Q I rx ry h
  | _ => exact (show False from h).elim
theorem un_negR : UnR X (unaryOp .USub) negR := by
  intro pins s σ H x v Q I rx h
  cases x with
  | int i => exact un_neg pins s σ H _ v Q I rx ⟨i, rfl, h⟩
  | _ => exact (show False from h).elim
theorem tru_G : TruR X (truG X.K) := by
  intro pins s σ H x v Q I rx h
  refine tru_ok pins s σ H x v Q I rx ?_
  cases x with
  | bl b => exact ⟨b, rfl, h⟩
  | non => exact ⟨false, rfl, h⟩
  | int i => exact ⟨_, rfl, h⟩
  | _ => exact h
end
def subR : R2 := i0R fun i j => .int (i - j)
def fdivR : R2 := i2R (fun i j => .int (i / j)) CDiv
def modR : R2 := i2R (fun i j => .int (i % j)) fun _ j => 0 < j
def powR : R2 := i2R (fun i j => .int (i ^ j.toNat)) CPow
def ltR : R2 := i0R fun i j => .bl (decide (i < j))
def leR : R2 := i0R fun i j => .bl (decide (i ≤ j))
def gtR : R2 := i0R fun i j => .bl (decide (j < i))
def geR : R2 := i0R fun i j => .bl (decide (j ≤ i))
/-- the operators' part of every oracle -/
def binT (K : PySem.W.Frag) : Operator → Option R2
  | .Add => some (addR K)
  | .Sub => some subR
  | .Mult => some mulR
  | .FloorDiv => some fdivR
  | .Mod => some modR
  | .Pow => some powR
  | _ => none
def unT : UnaryOp → Option (V → Hp → VK → Prop)
  | .USub => some negR
  | _ => none
@[irreducible] def isR : R2 := fun x y H Q => (y = .non ∧ Q (.bl (decide (x = .non))) H) ∨ rIsB x y H Q
@[irreducible] def notR : R2 := fun x y H Q => (y = .non ∧ Q (.bl (!decide (x = .non))) H) ∨ rNotB x y H Q
@[irreducible] def sliT (K : PySem.W.Frag) : V → Option Int → Option Int → Hp → VK → Prop := fun x lo hi H Q => match x with
  | .str _ => rSlS x lo hi H Q
  | _ => rSlL K x lo hi H Q ∨ rSlT K x lo hi H Q
/-- o[i]: a list, a tuple, a text; a dict -/
def rIxD : R2 := fun x y H Q => ∃ a v, x = .ref a ∧ DGet H a y (some v) ∧ Q v H
@[irreducible] def idxT (K : PySem.W.Frag) : R2 := fun x y H Q => rIx K x y H Q ∨ rIxD x y H Q
/-- o[i] = v: a list, a dict -/
@[irreducible] def putR : TSet := fun o i v H Q => rSetL o i v H Q ∨ ∃ a H', o = .ref a ∧ DPut H a i v H' ∧ Q H'
/-- x in y: a sign or a text in a text, a key in a dict, a plain thing in a list or tuple -/
def rInD1 (neg : Bool) : R2 := fun x y H Q => ∃ a o, y = .ref a ∧ DGet H a x o ∧ Q (.bl (if neg then !o.isSome else o.isSome)) H
def rInT (neg : Bool) : R2 := fun x y H Q => ∃ i j, x = .str i ∧ y = .str j ∧ Q (.bl (if neg then !(!(Builtin.Str.occurrences j i 0 j.length 1).isEmpty) else !(Builtin.Str.occurrences j i 0 j.length 1).isEmpty)) H
@[irreducible] def inR (K : PySem.W.Frag) : R2 := fun x y H Q => rInS x y H Q ∨ rInT false x y H Q ∨ rInD1 false x y H Q ∨ rIn K false x y H Q
@[irreducible] def ninR (K : PySem.W.Frag) : R2 := fun x y H Q => rNotInS x y H Q ∨ rInT true x y H Q ∨ rInD1 true x y H Q ∨ rIn K true x y H Q
section
variable {X : Cx}
theorem ix_dict (hu : X.A.units + 1 < cLine) : IxR X rIxD := by
  intro value slice pins s σ H x y v u Q I rx ry h hs
  obtain ⟨a, w, rfl, g, q⟩ := h
  cases rx
  have hT := dict_typeIs I g
  unfold subscriptTail
  refine wpAny_bind ?_
  rw [getitemInPython_of_ne hT.not_modules]
  refine wpAny_bind (wpAny_specialOf hT PySem.F.slot_dict_getitem.lookup ?_)
  have fin : wpAny (model X.prog X.w) X.A (subscripted slice false (.ref a) u) (fun r s₃ => wpAny (model X.prog X.w) X.A (letTemporaryGo value (.ref a) r >>= fun _ => pure r) (EP X pins σ Q) X.xe s₃) X.xe s := by
    rw [hs]
    exact wpAny_operating (wpAny_mono (d_getItem hu I g ry fun w' s3 I3 rw' => ⟨w, H, I3, rw', q⟩) (fun r s₃ h₃ => wpAny_bind (wpAny_letTemporaryGo (wpAny_pure h₃))) fun _ _ x => x)
  exact wpAny_pure (wpAny_bind fin)
theorem set_dict (hu : X.A.units + 1 < cLine) : PSet X (fun o i v H Q => ∃ a H', o = .ref a ∧ DPut H a i v H' ∧ Q H') := by
  intro pins s σ H o i v ov iv u Q I ro ri rv h
  obtain ⟨a, H', rfl, g, q⟩ := h
  cases ro
  exact d_setItem hu I g ri rv fun s4 I4 => ⟨H', I4, q⟩
theorem put_ok (hu : X.A.units + 1 < cLine) : PSet X putR := by
  intro pins s σ H o i v ov iv u Q I ro ri rv h
  unfold putR at h
  exact h.elim (set_list pins s σ H o i v ov iv u Q I ro ri rv) (set_dict hu pins s σ H o i v ov iv u Q I ro ri rv)
theorem op_inD1 (hu : X.A.units + 1 < cLine) : OpR X (compareOp .In) (rInD1 false) := by
  intro pins s σ H x y v u Q I rx ry h
  obtain ⟨a, o, rfl, g, q⟩ := h
  cases ry
  exact d_in hu I g rx fun s3 I3 => ⟨.bl o.isSome, H, I3, rfl, q⟩
theorem op_ninD1 (hu : X.A.units + 1 < cLine) : OpR X (compareOp .NotIn) (rInD1 true) := by
  intro pins s σ H x y v u Q I rx ry h
  obtain ⟨a, o, rfl, g, q⟩ := h
  cases ry
  exact d_notIn hu I g rx fun s3 I3 => ⟨.bl (!o.isSome), H, I3, rfl, q⟩
theorem op_inR (hu : X.A.units + 1 < cLine) : OpR X (compareOp .In) (inR X.K) := by
  unfold inR
  exact op_inS.or (OpR.or op_in_str ((op_inD1 hu).or op_in_seq))
theorem op_ninR (hu : X.A.units + 1 < cLine) : OpR X (compareOp .NotIn) (ninR X.K) := by
  unfold ninR
  exact op_notInS.or (OpR.or op_notin_str ((op_ninD1 hu).or op_notIn_seq))
end
def cmpT (K : PySem.W.Frag) : CmpOp → Option R2
  | .Eq => some (eqR K)
  | .NotEq => some (neR K)
  | .Lt => some ltR
  | .LtE => some leR
  | .Gt => some gtR
  | .GtE => some geR
  | .Is => some isR
  | .IsNot => some notR
  | .In => some (inR K)
  | .NotIn => some (ninR K)
section
variable {X : Cx}
theorem binT_ok (K : PySem.W.Frag) (hK : X.K = K) (hu : X.A.units + 65 < cLine) : ∀ op r, binT K op = some r → OpR X (binaryOp op) r := by
  subst hK
  intro op r h
  match op, h with
  | .Add, h => cases h; exact op_addR
  | .Sub, h => cases h; exact op_i0R op_sub
  | .Mult, h => cases h; exact op_mulR
  | .FloorDiv, h => cases h; exact op_i2R op_fdiv
  | .Mod, h => cases h; exact op_i2R op_mod
  | .Pow, h => cases h; exact op_i2R op_pow
theorem unT_ok : ∀ op r, unT op = some r → UnR X (unaryOp op) r := by
  intro op r h
  match op, h with
  | .USub, h => cases h; exact un_negR
theorem cmpT_ok (K : PySem.W.Frag) (hK : X.K = K) (hu : X.A.units + 65 < cLine) : ∀ op r, cmpT K op = some r → OpR X (compareOp op) r := by
  subst hK
  intro op r h
  match op, h with
  | .Eq, h => cases h; unfold eqR; exact op_eq.or ((op_eqD (by omega)).or (op_eqDF (by omega)))
  | .NotEq, h => cases h; unfold neR; exact op_ne.or ((op_neD (by omega)).or (op_neDF (by omega)))
  | .Lt, h => cases h; exact op_i0R op_lt
  | .LtE, h => cases h; exact op_i0R op_le
  | .Gt, h => cases h; exact op_i0R op_gt
  | .GtE, h => cases h; exact op_i0R op_ge
  | .Is, h => cases h; unfold isR; exact op_isN.or op_isBl
  | .IsNot, h => cases h; unfold notR; exact op_notN.or op_notBl
  | .In, h => cases h; exact op_inR (by omega)
  | .NotIn, h => cases h; exact op_ninR (by omega)
theorem sliT_ok (K : PySem.W.Frag) (hK : X.K = K) : SlR X (sliT K) := by
  subst hK
  unfold sliT
  intro pins s σ H x v vl vu lo hi sl Q I rx hs pl pu h
  cases x with
  | str z => exact sl_str pins s σ H _ v vl vu lo hi sl Q I rx hs pl pu h
  | _ => exact (sl_list.or sl_tup) pins s σ H _ v vl vu lo hi sl Q I rx hs pl pu h
end
end AS

set_option Elab.async false
set_option linter.all false
set_option maxRecDepth 100000
set_option maxHeartbeats 4000000
namespace AS
open PySem PySem.Spec PyProof.Rows L2

section
variable {S : Sys} {k : Nat} {N : List Str} {X : Cx} {x : Ctx}
theorem Like.roomG (L : Like S k N X x) (hc : x.c = true) {pins : List (Addr × Obj)} {σ : St} {H : Hp} {s : Shared} (I : Inv X pins σ H s) {j : Nat} (hj : j ≤ k) : RoomG j X.A := by
  have h1 := L.dp
  have h2 := L.un
  exact ⟨⟨I.ok.hd (L.calm hc), by omega, by omega⟩, L.gd⟩
theorem Like.env0 (L : Like S k N X x) {pins : List (Addr × Obj)} {σ : St} {H : Hp} {s : Shared} (I : Inv X pins σ H s) : Env0 S.P S.w S.K S.mg S.base X.A X.stack s H := by
  have e := I.env0
  rw [L.hP, L.hw, L.hK, L.hm, L.hb] at e
  exact e
/-- behind a call: the value, or an exception that is wished for at these slots -/
theorem Like.back (L : Like S k N X x) {pins : List (Addr × Obj)} {σ : St} {H : Hp} {s : Shared} {Q : VK} (I : Inv X pins σ H s) {r : Result} {s' : Shared} (h : CR (L2.CX S.P S.w) X.stack S.P S.w H s Q (fun c d H' => x.W c d σ H') r s') :
    match r with
    | .ok (.ret u) => EP X pins σ Q u s'
    | .ok _ => False
    | .error e => X.xe e s' := by
  rw [← L.hP, ← L.hw] at h
  cases r with
  | error e => exact L.tk e s' (XE.of_call (W := x.W) I (fun _ _ _ q => q) h)
  | ok fl =>
    cases fl with
    | ret u => exact I.after h
    | _ => exact h
theorem run_fnG {j : Nat} {f : Addr} {sp : Sp} (L : Like S k N X x) (hc : x.c = true) (F : FnG S j f sp) (hj : j ≤ k) {pins : List (Addr × Obj)} {σ : St} {H : Hp} {s : Shared} {Q : VK} {us : List Value} {vs : List V} (I : Inv X pins σ H s) (r : Vals vs us) (h : sp vs H Q fun c d H' => x.W c d σ H') :
    wpAny (model X.prog X.w) X.A (call (.ref f) us) (EP X pins σ Q) X.xe s := by
  have q := F X.A X.stack s H us vs Q _ (L.roomG hc I hj) (L.env0 I) r h
  rw [← L.hP, ← L.hw] at q
  refine wpAny_call (codeAny_mono q fun r s' hq => ?_)
  rw [L.hP, L.hw] at hq
  have z := L.back I hq
  cases r with
  | error e => exact z
  | ok fl =>
    cases fl with
    | ret u => exact z
    | _ => exact z.elim
/-- f(..), f a def of the text -/
theorem ent_fn {j : Nat} {f : Addr} {n : Str} {sp : Sp} (F : FnG S j f sp) (hj : j ≤ k) (hm : S.mg n = some (.ref f)) (hk : PySem.W.keepIn S.K (.ref f) = true) : CallE S k n sp := by
  intro N X x L hc es t p pos hg hb hpl ha
  have hm' : X.mg n = some (.ref f) := by rw [L.hm]; exact hm
  have hk' : PySem.W.keepIn X.K (.ref f) = true := by rw [L.hK]; exact hk
  refine ⟨fun pins s σ H Q I h => ?_⟩
  refine wpAny_Call_Name_kw (ld_glob I hg hm' ?_ (badName_no hb).1)
  cases es with
  | nil =>
    refine PySem.W.callWith_K0 I.kIn hk' ?_
    show wpAny _ _ (call (.ref f) []) _ _ _
    have h0 := (ha.run pos pins s σ H _ I h)
    have h1 : wpAny (model X.prog X.w) X.A (spliced (backTo pos (starEach [] X.env)) >>= fun us => call (.ref f) us) (EP X pins σ Q) X.xe s :=
      wpAny_bind (thn h0 fun us s1 ⟨vs, H1, I1, r, q⟩ => run_fnG L hc F hj I1 r q)
    exact h1
  | cons e es =>
    obtain ⟨h1, h2⟩ := b2 (show (plainA e && es.all plainA) = true from hpl)
    refine PySem.W.callWith_K (h₀ := X.base) I.ok.mod.kin hk' (thn (ha.run pos pins s σ H _ I h) fun us s1 ⟨vs, H1, I1, r, q⟩ => ⟨I1.kIn, ?_⟩) (star_one h1) (star_all h2)
    exact run_fnG L hc F hj I1 r q
/-- a built-in function -/
theorem ent_blt {n : Str} {id : String} {r : List V → Hp → VK → Prop} (hr : ∀ (N : List Str) (X : Cx) (x : Ctx), Like S k N X x → x.c = true → CallR X (.builtin id) r) (hm : S.mg n = none) (hv : bootBuiltins n = some (.builtin id)) :
    CallE S k n fun vs H Q _ => r vs H Q := by
  intro N X x L hc es t p pos hg hb hpl ha
  have hm' : X.mg n = none := by rw [L.hm]; exact hm
  cases es with
  | nil =>
    refine ⟨fun pins s σ H Q I h => ?_⟩
    refine wpAny_Call_Name_kw (ld_blt I hg hm' hv ?_ (badName_no hb).2.2 (badName_no hb).1)
    refine Calls.callWith_builtin rfl (evalArgs_nil3 ?_)
    have h1 : wpAny (model X.prog X.w) X.A (spliced (backTo pos (starEach [] X.env)) >>= fun us => call (.builtin id) us) (EP X pins σ Q) X.xe s :=
      wpAny_bind (thn (ha.run pos pins s σ H _ I h) fun us s1 ⟨vs, H1, I1, rv, q⟩ => hr N X x L hc pins s1 σ H1 vs us Q I1 rv q)
    exact h1
  | cons e es =>
    obtain ⟨h1, h2⟩ := b2 (show (plainA e && es.all plainA) = true from hpl)
    exact pe_callB (hr N X x L hc) hg hm' hv ha (badName_no hb).2.2 (badName_no hb).1 (star_one h1) (star_all h2)
/-- a built-in class -/
theorem ent_typ {n : Str} {T : String} {r : List V → Hp → VK → Prop} (hr : ∀ (N : List Str) (X : Cx) (x : Ctx), Like S k N X x → x.c = true → CallR X (.type T) r) (hm : S.mg n = none) (hv : bootBuiltins n = some (.type T)) :
    CallE S k n fun vs H Q _ => r vs H Q := by
  intro N X x L hc es t p pos hg hb hpl ha
  have hm' : X.mg n = none := by rw [L.hm]; exact hm
  cases es with
  | nil =>
    refine ⟨fun pins s σ H Q I h => ?_⟩
    refine wpAny_Call_Name_kw (ld_blt I hg hm' hv ?_ (badName_no hb).2.2 (badName_no hb).1)
    refine PyProof.Rows.callWith_type0 ?_
    have h1 : wpAny (model X.prog X.w) X.A (spliced (backTo pos (starEach [] X.env)) >>= fun us => call (.type T) us) (EP X pins σ Q) X.xe s :=
      wpAny_bind (thn (ha.run pos pins s σ H _ I h) fun us s1 ⟨vs, H1, I1, rv, q⟩ => hr N X x L hc pins s1 σ H1 vs us Q I1 rv q)
    exact h1
  | cons e es =>
    obtain ⟨h1, h2⟩ := b2 (show (plainA e && es.all plainA) = true from hpl)
    exact pe_callTy (hr N X x L hc) hg hm' hv ha (badName_no hb).2.2 (badName_no hb).1 (star_one h1) (star_all h2)

/-! ### the built-ins -/
def rLenG (K : PySem.W.Frag) : List V → Hp → VK → Prop := fun xs H Q => ∃ x n, xs = [x] ∧ LenV K x H n ∧ Q (.int n) H
def rAbs : List V → Hp → VK → Prop := fun xs H Q => ∃ i, xs = [.int i] ∧ Q (.int (if i < 0 then -i else i)) H
def rMax2 : List V → Hp → VK → Prop := fun xs H Q => ∃ i j, xs = [.int i, .int j] ∧ Q (.int (if j > i then j else i)) H
def rMin2 : List V → Hp → VK → Prop := fun xs H Q => ∃ i j, xs = [.int i, .int j] ∧ Q (.int (if j < i then j else i)) H
def rInt1 : List V → Hp → VK → Prop := fun xs H Q => (∃ i, xs = [.int i] ∧ Q (.int i) H) ∨ ∃ b, xs = [.bl b] ∧ Q (.int (if b then 1 else 0)) H
def rDivmod : List V → Hp → VK → Prop := fun xs H Q => ∃ i j, xs = [.int i, .int j] ∧ CDiv i j ∧ ∀ p, H p = none → Q (.ref p) (upd H p (.tup [.int (i / j), .int (i % j)]))
theorem ent_len (hm : S.mg "len" = none) : CallE S k "len" fun vs H Q _ => rLenG S.K vs H Q := ent_blt (fun N X x L _ => by rw [← L.hK]; exact call_len) hm PySem.boot_len
theorem ent_abs (hm : S.mg "abs" = none) : CallE S k "abs" fun vs H Q _ => rAbs vs H Q := ent_blt (fun N X x L _ => call_abs) hm (by decide +kernel)
theorem ent_max (hm : S.mg "max" = none) : CallE S k "max" fun vs H Q _ => rMax2 vs H Q := ent_blt (fun N X x L hc => call_max2 (L.calm hc)) hm (by decide +kernel)
theorem ent_min (hm : S.mg "min" = none) : CallE S k "min" fun vs H Q _ => rMin2 vs H Q := ent_blt (fun N X x L hc => call_min2 (L.calm hc)) hm (by decide +kernel)
theorem ent_int (hm : S.mg "int" = none) : CallE S k "int" fun vs H Q _ => rInt1 vs H Q := ent_typ (fun N X x L hc => call_int1) hm (by decide +kernel)
theorem ent_divmod (hm : S.mg "divmod" = none) : CallE S k "divmod" fun vs H Q _ => rDivmod vs H Q := ent_blt (fun N X x L hc => call_divmod) hm (by decide +kernel)
theorem ent_all (hm : S.mg "all" = none) : CallE S k "all" fun vs H Q _ => rAll S.K vs H Q := ent_blt (fun N X x L hc => by rw [← L.hK]; exact cr_all (L.calm hc)) hm (by decide +kernel)
theorem ent_repr (hm : S.mg "repr" = none) (sm : SmOk S.K) : CallE S k "repr" fun vs H Q _ => rRepr S.K vs H Q := ent_blt (fun N X x L hc => by
  have h2 := L.un
  rw [← L.hK] at sm ⊢
  exact call_reprD sm L.gd (by omega)) hm (by decide +kernel)
end

/-! ### the oracle of a program -/
structure Tabs where
  glo : List (Str × V) := []
  blt : List Str := []
  fn : List (Str × Sp) := []
  fnK : List ((Str × List Str) × SpK) := []
  mt : List (Str × (Rc × Sp)) := []
  mtK : List ((Str × List Str) × (Rc × SpK)) := []
  att : List (Str × (V → Hp → VK → XK → Prop)) := []
  sat : List (Str × (V → V → Hp → (Hp → Prop) → Prop)) := []
  binX : List (Operator × R2E) := []
  cmpX : List (CmpOp × R2E) := []
  cv : List (V × Sp) := []
/-- looked up by a Bool -/
def findB {α β : Type} [DecidableEq α] (a : α) : List (α × β) → Option β
  | [] => none
  | (b, v) :: r => if a = b then some v else findB a r
theorem findB_mem {α β : Type} [DecidableEq α] {a : α} {v : β} : ∀ {l : List (α × β)}, findB a l = some v → (a, v) ∈ l
  | [], h => by cases h
  | (b, w) :: r, h => by
    unfold findB at h
    split at h
    · rename_i e
      cases h
      rw [e]
      exact List.mem_cons_self
    · exact List.mem_cons_of_mem _ (findB_mem h)
def oraOf (K : PySem.W.Frag) (T : Tabs) : Bool → Ora := fun c =>
  { binX := fun op => if c = true then findB op T.binX else none, cmpX := fun op => if c = true then findB op T.cmpX else none, cv := fun v => if c = true then findB v T.cv else none, bin := binT K, un := unT, cmp := cmpT K, tru := truG K, glo := fun x => T.glo.lookup x, blt := fun x => T.blt.contains x, fn := fun f => if c = true then T.fn.lookup f else none, fnK := fun f ks => if c = true then T.fnK.lookup (f, ks) else none,
    mt := fun m => if c = true then (T.mt.filter fun q => decide (q.1 = m)).map (·.2) else [], mtK := fun m ks => if c = true then T.mtK.lookup (m, ks) else none, att := fun f => if c = true then T.att.lookup f else none, idx := idxT K, sli := sliT K, put := putR, sat := fun f => if c = true then T.sat.lookup f else none }
/-- entries of own operators, of values that are called -/
def BinE (S : Sys) (k : Nat) (op : Operator) (r : R2E) : Prop := ∀ (N : List Str) (X : Cx) (x : Ctx), Like S k N X x → x.c = true → OpX X (binaryOp op) x.W r
def CmpE (S : Sys) (k : Nat) (op : CmpOp) (r : R2E) : Prop := ∀ (N : List Str) (X : Cx) (x : Ctx), Like S k N X x → x.c = true → OpX X (compareOp op) x.W r
def CvE (S : Sys) (k : Nat) (v : V) (sp : Sp) : Prop := ∃ f, v = .ref f ∧ PySem.W.keepIn S.K (.ref f) = true ∧ ∀ (N : List Str) (X : Cx) (x : Ctx), Like S k N X x → x.c = true → RunsX X x.W f sp
structure TabsOk (S : Sys) (k : Nat) (T : Tabs) : Prop where
  glo : TabOk (fun x v => ∃ u, RelV v u ∧ (S.mg x = some u ∨ (S.mg x = none ∧ bootBuiltins x = some u))) T.glo := by exact tab_nil
  blt : ∀ x ∈ T.blt, S.mg x = none := by exact fun _ h => nomatch h
  fn : TabOk (CallE S k) T.fn := by exact tab_nil
  fnK : ∀ f ks sp, T.fnK.lookup (f, ks) = some sp → CallKE S k f ks sp := by exact fun _ _ _ h => nomatch h
  mt : ∀ q ∈ T.mt, MtE S k q.1 q.2 := by exact fun _ h => nomatch h
  mtK : ∀ m ks sp, T.mtK.lookup (m, ks) = some sp → MtKE S k m ks sp := by exact fun _ _ _ h => nomatch h
  att : TabOk (AttE S k) T.att := by exact tab_nil
  sat : TabOk (SatE S k) T.sat := by exact tab_nil
  binX : ∀ q ∈ T.binX, BinE S k q.1 q.2 := by exact fun _ h => nomatch h
  cmpX : ∀ q ∈ T.cmpX, CmpE S k q.1 q.2 := by exact fun _ h => nomatch h
  cv : ∀ q ∈ T.cv, CvE S k q.1 q.2 := by exact fun _ h => nomatch h
theorem ite_none {α : Type} {c : Bool} {a : Option α} {b : α} (h : (if c = true then a else none) = some b) : c = true ∧ a = some b := by
  cases c with
  | true => exact ⟨rfl, h⟩
  | false => cases h
theorem ora_ok {S : Sys} {k : Nat} {N : List Str} {T : Tabs} (h : TabsOk S k T) : Sound (oraOf S.K T) S k N := by
  intro X x L
  have h2 := L.un
  refine ⟨binT_ok S.K L.hK (by omega), fun op r e => ?_, fun op r e => ?_, fun v sp e => ?_, unT_ok, cmpT_ok S.K L.hK (by omega), ?_, fun y v e => ?_, fun y e => ?_, fun f sp e es t p pos hg hb hpl ha => ?_, fun f ks sp e es kws t tk p pos hg hb hpl hks ha hk => ?_, fun m sp e o es to t p pos h1 h2 h3 h4 ho ha => ?_, fun m ks sp e o es kws to t tk p pos h1 h2 h3 h4 h5 ho ha hk => ?_,
    fun f r e o to p h1 ho => ?_, ?_, sliT_ok S.K L.hK, put_ok (by omega), fun f r e => ?_⟩
  · obtain ⟨hc, e⟩ := ite_none e
    exact h.binX _ (findB_mem e) N X x L hc
  · obtain ⟨hc, e⟩ := ite_none e
    exact h.cmpX _ (findB_mem e) N X x L hc
  · obtain ⟨hc, e⟩ := ite_none e
    obtain ⟨f, rfl, hk, hR⟩ := h.cv _ (findB_mem e)
    exact ⟨f, rfl, by rw [L.hK]; exact hk, hR N X x L hc⟩
  · show TruR X (truG S.K)
    rw [← L.hK]
    exact tru_G
  · rw [L.hm]
    exact h.glo y v e
  · rw [L.hm]
    exact h.blt y (List.contains_iff_mem.mp e)
  · obtain ⟨hc, e⟩ := ite_none e
    exact h.fn f sp e N X x L hc es t p pos hg hb hpl ha
  · obtain ⟨hc, e⟩ := ite_none e
    exact h.fnK f ks sp e N X x L hc es kws t tk p pos hg hb hpl hks ha hk
  · cases hc : x.c with
    | false => rw [hc] at e; cases e
    | true =>
      rw [hc] at e
      obtain ⟨q, hq, rfl⟩ := List.mem_map.mp e
      obtain ⟨hq1, hq2⟩ := List.mem_filter.mp hq
      have em : q.1 = m := of_decide_eq_true hq2
      subst em
      exact h.mt q hq1 N X x L hc o es to t p pos h1 h2 h3 h4 ho ha
  · obtain ⟨hc, e⟩ := ite_none e
    exact h.mtK m ks sp e N X x L hc o es kws to t tk p pos h1 h2 h3 h4 h5 ho ha hk
  · obtain ⟨hc, e⟩ := ite_none e
    exact h.att f r e N X x L hc o to p h1 ho
  · show IxR X (idxT S.K)
    unfold idxT
    rw [← L.hK]
    exact ix_seq.or (ix_dict (by omega))
  · obtain ⟨hc, e⟩ := ite_none e
    exact h.sat f r e N X x L hc
end AS

set_option Elab.async false
set_option linter.all false
set_option maxRecDepth 100000
set_option maxHeartbeats 4000000
/-! E9: methods of built-in types. -/
namespace AS
open PySem PySem.Spec PyProof.Rows L2
section
variable {S : Sys} {k : Nat}
/-- a method of a built-in type, by its promise on values -/
def bmQ (K : PySem.W.Frag) (T : String) (r : V → List V → Hp → VK → Prop) : Rc × Sp := (fun x H => tyV K T x H, fun vs H Q _ => match vs with
  | x :: xs => r x xs H Q
  | [] => False)
theorem bk_any {env : Env} {pos : Pos} : ∀ {es : List Expr}, es.all plainA = true → (backTo pos (starEach es env)).all (fun x => !x.1) = true
  | [], _ => rfl
  | e :: es, h => by
    obtain ⟨h1, h2⟩ := b2 (show (plainA e && es.all plainA) = true from h)
    rw [star_one h1]
    show (true && (backTo pos (starEach es env)).all (fun x => !x.1)) = true
    rw [bk_any h2]
    rfl
theorem ent_bm {m : Str} {id T : String} {r : V → List V → Hp → VK → Prop} (pa : PlainAttrs T) (slot : Slot T m id) (hty : typeOf (.builtin id) = pure (.type "method_descriptor")) (hr : ∀ (N : List Str) (X : Cx) (x : Ctx), Like S k N X x → x.c = true → MtR X id r) : MtE S k m (bmQ S.K T r) := by
  intro N X x L hc o es to t p pos hs hpl hline hlen ho ha
  have hR := hr N X x L hc
  cases es with
  | nil =>
    refine ⟨fun pins s σ H Q I h => ?_⟩
    have h : to σ H fun x H1 => tyV S.K T x H1 ∧ t σ H1 fun vs H2 => r x vs H2 Q := h
    refine wpAny_Call_method0_late (sup_no hs) hline (thn (ho.run pins s σ H _ I h) fun v s1 ⟨x, H1, I1, r1, ty, q1⟩ => ?_)
    rw [← L.hK] at ty
    obtain ⟨h1, h2⟩ := tyV_is I1 r1 ty
    refine ⟨T, id, pa, slot, hty, h1, h2, Calls.callWith_builtin rfl (PySem.evalArgs_none ?_)⟩
    have h3 : wpAny (model X.prog X.w) X.A (spliced (backTo pos (starEach [] X.env)) >>= fun us => call (.builtin id) (v :: us)) (EP X pins σ Q) X.xe s1 :=
      wpAny_bind (thn (ha.run pos pins s1 σ H1 _ I1 q1) fun us s2 ⟨vs, H2, I2, rv, q⟩ => hR pins s2 σ H2 x vs v us Q I2 r1 rv q)
    exact h3
  | cons e es =>
    obtain ⟨h1, h2⟩ := b2 (show (plainA e && es.all plainA) = true from hpl)
    have hfew : ((backTo pos (starEach (e :: es) X.env)).all (fun x => !x.1) && (backToKw pos (keywordEach [] X.env)).all (fun x => x.1.isSome) && decide ((e :: es).length + ([] : List Keyword).length + (if ([] : List Keyword).isEmpty then 0 else 1) < 30)) = true := by
      rw [bk_any hpl]
      have d : decide ((e :: es).length + ([] : List Keyword).length + (if ([] : List Keyword).isEmpty then 0 else 1) < 30) = true := decide_eq_true (by show (e :: es).length + 0 + 0 < 30; omega)
      rw [d]
      rfl
    have q := pe_bm pa slot hty hR ho ha (sup_no hs) hfew hline (star_one h1) (star_all h2)
    rw [L.hK] at q
    exact q
end
end AS

set_option Elab.async false
set_option linter.all false
set_option maxRecDepth 100000
set_option maxHeartbeats 4000000
/-! X1: exceptions of the program's own classes made by a call with keywords. -/
namespace AS
open PySem PySem.W
section
variable {prog : Program} {w : World} {A : Around} {E : Value → Shared → Prop} {R : Result → Shared → Prop} {h : Heap} {g : Array GenState} {d : Drawn} {t : Nat} {os : OsState}
variable {nm q : Str} {C N : Addr} {bs bm bmB : List Value} {hdct : Bool} {sn : List Str} {sub : List Value} {ab : Bool} {col : Option Bool} {dd : Option Addr} {k0 k1 k2 k3 k5 : Option Value} {B newId initId : String} {rest : List Value} {kw : List (Str × Value)}
theorem chk_new (F : ExcBaseFacts B newId initId bmB) (hT : ∀ X : String, bm.contains (.type X) = bmB.contains (.type X)) {Q : Unit → Shared → Prop}
    (hC : h.get? C = some (excClassObj nm q C N bs bm hdct sn sub ab col dd k0 k1 k2 k3 k5 newId)) (hq : Q () ⟨h, g, d, t, os⟩) : wpAny (model prog w) A (checkBuiltinCall newId ⟨.ref C :: rest, kw⟩) Q E ⟨h, g, d, t, os⟩ := by
  have c1 : (Value.ref C :: bm).contains (.type B) = true := by rw [List.contains_cons, hT, F.hasB, Bool.or_true]
  have c2 := F.noStar
  simp only [checkBuiltinCall, F.newKind, F.newSplit, F.newRow]
  repeat (first | refine wpAny_loadPart_at hC ?_ | (refine wpAny_isSubtype_exc hC ?_; rw [c1]) | refine wpAny_staticBase_exc hC ?_ | refine wpAny_madeBy_exc hC ?_ | simp only [bne_self_eq_false, Bool.false_eq_true, if_false] | wp_step)
  exact hq
theorem new_kw (F : ExcBaseFacts B newId initId bmB) (hT : ∀ X : String, bm.contains (.type X) = bmB.contains (.type X)) (hC : h.get? C = some (excClassObj nm q C N bs bm hdct sn sub ab col dd k0 k1 k2 k3 k5 newId)) (hz : rest.length ≤ sizeLine)
    (hq : R (.ok (.ret (.ref (h.objs.size + 1)))) ⟨(h.push (kdv_tup rest)).push (excObj C h.objs.size none .none), g, d, t, os⟩) :
    codeAny (model prog w) A (.builtin newId ⟨.ref C :: rest, kw⟩) R ⟨h, g, d, t, os⟩ := by
  have e0 := F.ends
  have c1 : (Value.ref C :: bm).contains (.type B) = true := by rw [List.contains_cons, hT, F.hasB, Bool.or_true]
  have c2 : (Value.ref C :: bm).contains (.type "AttributeError") = false := by rw [List.contains_cons, hT, F.noAttr]; rfl
  have c3 : (Value.ref C :: bm).contains (.type "NameError") = false := by rw [List.contains_cons, hT, F.noName]; rfl
  refine codeAny_builtinAt F.entry ?_
  unfold Builtin.«BaseException.__new__»
  refine wpAt_bind ?_
  show wpAt _ _ _ (stack >>= _) _ _ _
  refine wpAt_bind (wpAt_stack fun p below => wpAt_of_wpAny ?_)
  wp_walk
  refine wpAt_of_wpAny ?_
  rw [F.owner]
  repeat (first | with_reducible refine wpAny_madeHere_exc F.canon hC ?_ | with_reducible refine wpAny_loadPart_at hC ?_ | (with_reducible refine wpAny_isSubtype_exc hC ?_; first | rw [c1] | rw [c2] | rw [c3]) | wp_step)
  show R _ _
  rw [Heap.size_push]
  exact hq
theorem tcall_kw (F : ExcBaseFacts B newId initId bmB) (hT : ∀ X : String, bm.contains (.type X) = bmB.contains (.type X)) {fI : Addr} {Q : Fin → Shared → Prop}
    (hC : h.get? C = some (excClassObj nm q C N bs bm hdct sn sub ab col dd k0 k1 k2 k3 k5 newId)) (hi : Looks (model prog w) h (typeLookup (.ref C) "__init__") (some (.ref fI))) (hb : ∀ self, Looks (model prog w) h (bindSpecial (.ref fI) self) (.ref fI, [self])) (hz : rest.length ≤ sizeLine)
    (hq : codeAny (model prog w) A (.call (.ref fI) ⟨.ref (h.objs.size + 1) :: rest, kw⟩)
      (fun r s' => match r with | .ok (.ret v) => v = .none ∧ Q (.done (.ret (.ref (h.objs.size + 1)))) s' | .ok _ => False | .error e => E e s') ⟨(h.push (kdv_tup rest)).push (excObj C h.objs.size none .none), g, d, t, os⟩) :
    wpAny (model prog w) A (Builtin.«type.__call__» ⟨.ref C :: rest, kw⟩) Q E ⟨h, g, d, t, os⟩ := by
  repeat (first | with_reducible refine wpAny_loadPart_at hC ?_ | with_reducible refine wpAny_madeBy_exc hC ?_ | wp_step)
  refine codeAny_call_builtin_code (Code.quiet_builtin _ F.quiet) (chk_new F hT hC ?_)
  refine new_kw F hT hC hz ?_
  show wpAny _ _ _ _ _ _
  have kp : ∀ b o, h.get? b = some o → ((h.push (kdv_tup rest)).push (excObj C h.objs.size none .none)).get? b = some o := fun b o e => Heap.get?_push_of_some _ (Heap.get?_push_of_some _ e)
  have hC1 := kp _ _ hC
  have hg : ((h.push (kdv_tup rest)).push (excObj C h.objs.size none .none)).get? (h.objs.size + 1) = some (excObj C h.objs.size none .none) := by heap_get
  have cc : (Value.ref C :: bm).contains (.ref C) = true := by simp
  have i1 := hi.keeps kp
  have b1 := (hb (.ref (h.objs.size + 1))).keeps kp
  unfold isInstance
  repeat (first | with_reducible refine wpAny_loadPart_at hg ?_ | (with_reducible refine wpAny_isSubtype_exc hC1 ?_; rw [cc]) | wp_step)
  show wpAny _ _ (typeLookup (.ref C) _) _ _ _
  refine i1.at ?_
  refine wpAny_holding (wpAny_bind (b1.at ?_))
  refine wpAny_bind (wpAny_call (codeAny_mono hq fun r s' z => ?_))
  rcases r with e | (v | _ | _ | _) <;> first | exact z | exact z.elim | skip
  obtain ⟨rfl, z⟩ := z
  first
    | exact wpAny_pure (wpAny_pure z)
    | (wp_walk; exact z)
/-- C(.., k = ..): a new exception, then its own __init__ -/
theorem make_exc (F : ExcBaseFacts B newId initId bmB) (hT : ∀ X : String, bm.contains (.type X) = bmB.contains (.type X)) {fI : Addr}
    (hC : h.get? C = some (excClassObj nm q C N bs bm hdct sn sub ab col dd k0 k1 k2 k3 k5 newId)) (hi : Looks (model prog w) h (typeLookup (.ref C) "__init__") (some (.ref fI))) (hb : ∀ self, Looks (model prog w) h (bindSpecial (.ref fI) self) (.ref fI, [self])) (hz : rest.length ≤ sizeLine)
    (hq : codeAny (model prog w) (A.under (.builtin "type.__call__" ⟨.ref C :: rest, kw⟩)) (.call (.ref fI) ⟨.ref (h.objs.size + 1) :: rest, kw⟩) (InitBack (h.objs.size + 1) R) ⟨(h.push (kdv_tup rest)).push (excObj C h.objs.size none .none), g, d, t, os⟩) :
    codeAny (model prog w) A (.call (.ref C) ⟨rest, kw⟩) R ⟨h, g, d, t, os⟩ := by
  have f1 := tc_lookup
  have f2 := tc_bind (.ref C)
  have hTy : (⟨h, g, d, t, os⟩ : Shared).TypeIs (.ref C) "type" := ⟨_, hC, rfl⟩
  refine codeAny_of_tree ?_
  show wpAny _ _ (callAny (.ref C) _) _ _ _
  repeat (any_goals (first | assumption | with_reducible refine wpAny_loadPart_at hC ?_ | wp_step))
  refine ⟨rfl, ?_⟩
  refine codeAny_call_builtin_at (Code.quiet_builtin _ (by decide +kernel)) entry_typeCall (wpAny_check_type_call_sub hC (tcall_kw F hT hC hi hb hz ?_))
  refine codeAny_mono hq fun r s' z => ?_
  rcases r with e | (v | _ | _ | _) <;> exact z
end
end AS

set_option Elab.async false
set_option linter.all false
set_option maxRecDepth 100000
set_option maxHeartbeats 4000000
/-! X2: exceptions of the program's own classes as values: over four built-in bases, with fields. -/
namespace AS
open PySem PySem.Spec PyProof.Rows L2

inductive Bk where
  | ve | lk | rt | ar
  deriving DecidableEq
def Bk.B : Bk → String
  | .ve => "ValueError"
  | .lk => "LookupError"
  | .rt => "RuntimeError"
  | .ar => "ArithmeticError"
def Bk.newId : Bk → String
  | .ve => "ValueError.__new__"
  | .lk => "LookupError.__new__"
  | .rt => "RuntimeError.__new__"
  | .ar => "ArithmeticError.__new__"
def Bk.initId : Bk → String
  | .ve => "ValueError.__init__"
  | .lk => "LookupError.__init__"
  | .rt => "RuntimeError.__init__"
  | .ar => "ArithmeticError.__init__"
def Bk.mro (b : Bk) : List Value := [.type b.B, .type "Exception", .type "BaseException", .type "object"]
theorem Bk.fb : ∀ b : Bk, ExcBaseFacts b.B b.newId b.initId b.mro
  | .ve => PySem.F.excBase_ValueError
  | .lk => PySem.F.excBase_LookupError
  | .rt => PySem.F.excBase_RuntimeError
  | .ar => PySem.F.excBase_ArithmeticError
theorem Bk.sf : ∀ b : Bk, StoreFacts b.B b.mro "object.__setattr__" "object"
  | .ve => PySem.F.store_ValueError
  | .lk => PySem.F.store_LookupError
  | .rt => PySem.F.store_RuntimeError
  | .ar => PySem.F.store_ArithmeticError
/-- what the written part says of an exception's class -/
structure ExcC (K : PySem.W.Frag) (C : Addr) (b : Bk) : Prop where
  ini : PySem.W.excInitIn K C b.mro b.newId = true
  ovr : PySem.W.excOver K C b.mro = true
  hd : PySem.W.hasDictIn K C = true
  kp : PySem.W.keepIn K (.ref C) = true
  sa : PySem.W.findIn K (.ref C) "__setattr__" = some (some (.builtin "object.__setattr__"))
  ga : PySem.W.findIn K (.ref C) "__getattribute__" = some (some (.builtin "BaseException.__getattribute__"))
  gt : PySem.W.findIn K (.ref C) "__getattr__" = some none
  sb : PySem.W.subIn K (.ref C) (.type "BaseException") = some true
  ty : PySem.W.typeIn K (.ref C) = some (.type "type")
  cl : PySem.W.findIn K (.ref C) "__class__" = some (some (.builtin "object.__class__"))
  cg : PySem.W.specialIn K (.builtin "object.__class__") "__get__" = some (some (.builtin "getset_descriptor.__get__"))
  ct : PySem.W.takesIn K (.builtin "object.__class__") = some true
  mo : PySem.W.mroIn K C (.type "object") = some true
  is : (PySem.W.clsIn K C).isSome = true
def excB (K : PySem.W.Frag) (C : Addr) (b : Bk) : Bool := PySem.W.excInitIn K C b.mro b.newId && (PySem.W.excOver K C b.mro && (PySem.W.hasDictIn K C && (PySem.W.keepIn K (.ref C) && (decide (PySem.W.findIn K (.ref C) "__setattr__" = some (some (.builtin "object.__setattr__"))) &&
  (decide (PySem.W.findIn K (.ref C) "__getattribute__" = some (some (.builtin "BaseException.__getattribute__"))) && (decide (PySem.W.findIn K (.ref C) "__getattr__" = some none) && (decide (PySem.W.subIn K (.ref C) (.type "BaseException") = some true) &&
  (decide (PySem.W.typeIn K (.ref C) = some (.type "type")) && (decide (PySem.W.findIn K (.ref C) "__class__" = some (some (.builtin "object.__class__"))) && (decide (PySem.W.specialIn K (.builtin "object.__class__") "__get__" = some (some (.builtin "getset_descriptor.__get__"))) &&
  (decide (PySem.W.takesIn K (.builtin "object.__class__") = some true) && (decide (PySem.W.mroIn K C (.type "object") = some true) && (PySem.W.clsIn K C).isSome))))))))))))
theorem excB_ok {K : PySem.W.Frag} {C : Addr} {b : Bk} (h : excB K C b = true) : ExcC K C b := by
  unfold excB at h
  simp only [Bool.and_eq_true, decide_eq_true_eq] at h
  obtain ⟨h1, h2, h3, h4, h5, h6, h7, h8, h9, h10, h11, h12, h13, h14⟩ := h
  exact ⟨h1, h2, h3, h4, h5, h6, h7, h8, h9, h10, h11, h12, h13, h14⟩

section
variable {prog : Program} {w : World} {A : Around} {R : Result → Shared → Prop} {hp : Heap} {g : Array GenState} {d : Drawn} {t : Nat} {os : OsState}
/-- the first field of a fresh exception -/
theorem store_first {K : PySem.W.Frag} {b : Bk} {C x t1 : Addr} {name : Str} {tk : Tok} {v : Value} (T : ExcC K C b) (X : K.In hp) (hx : hp.get? x = some (PySem.W.excObj C t1 none .none)) (ha : PySem.W.findIn K (.ref C) name = some none)
    (hq : ∀ h' tk' dx, (∀ b o, b ≠ x → hp.get? b = some o → h'.get? b = some o) → hp.objs.size ≤ dx → dx ≠ x → h'.get? x = some (PySem.W.excObj C t1 (some dx) .none) → h'.Ns1 dx (fun y => if y = name then some v else none) → R (.ok (.ret .none)) ⟨h', g, d, tk', os⟩) :
    codeAny (model prog w) A (.call (.builtin "object.__setattr__") ⟨[.ref x, .str name tk, v], []⟩) R ⟨hp, g, d, t, os⟩ := by
  have hxs : x ≠ hp.objs.size := Nat.ne_of_lt (Heap.lt_size hx)
  refine PySem.W.osa_openX (s := ⟨hp, g, d, t, os⟩) (od := none) b.sf X ⟨hx, rfl, rfl, trivial⟩ T.ovr (NoAttr.taker (show NoAttr K C name from ha)) fun bb => ?_
  obtain ⟨cd, hc, hd'⟩ := PySem.W.any_some T.hd
  refine wpAny_bind (wpAny_pure (wpAny_bind (PySem.W.instanceDict_exc (s := ⟨hp, g, d, t, os⟩) hx (PySem.W.looks_clsIn X hc) hd' ?_)))
  show wpAny _ _ (PySem.Builtin.ObjectAttr.storeInDict hp.objs.size (.str name tk) name v) _ _ _
  refine HandSPX.store_in_new ?_ ?_
  · exact ⟨_, #[], _, (Heap.get?_update_ne _ _ _ _ hxs.symm).trans (Heap.get?_push_at rfl rfl), rfl, fun e he => absurd he (by simp), fun _ => rfl⟩
  · intro h' tk' hn' hs
    have hx1 : (hp.push (PySem.W.dictOf [] 0)).get? x = some (PySem.W.excObj C t1 none .none) := Heap.get?_push_of_some _ hx
    refine hq h' tk' hp.objs.size (fun b o hb ho => ?_) (Nat.le_refl _) hxs.symm ?_ hn'
    · exact (hs.2 b (Nat.ne_of_lt (Heap.lt_size ho))).trans ((Heap.get?_update_ne _ _ _ _ hb).trans (Heap.get?_push_of_some _ ho))
    · exact (hs.2 x hxs).trans (Heap.get?_update_self _ hx1 rfl)
/-- a further field -/
theorem store_next {K : PySem.W.Frag} {b : Bk} {C x t1 dx : Addr} {name : Str} {tk : Tok} {v : Value} {m0 : Str → Option Value} {nl : List Str} (T : ExcC K C b) (X : K.In hp) (hx : hp.get? x = some (PySem.W.excObj C t1 (some dx) .none)) (hns : hp.Ns1 dx m0) (hw : Within m0 nl) (hz : nl.length ≤ 1000) (ha : PySem.W.findIn K (.ref C) name = some none)
    (hq : ∀ h' tk', (∀ b o, b ≠ dx → hp.get? b = some o → h'.get? b = some o) → h'.Ns1 dx (fun y => if y = name then some v else m0 y) → R (.ok (.ret .none)) ⟨h', g, d, tk', os⟩) :
    codeAny (model prog w) A (.call (.builtin "object.__setattr__") ⟨[.ref x, .str name tk, v], []⟩) R ⟨hp, g, d, t, os⟩ := by
  obtain ⟨oD, esD, epD, hoD, hdD, _⟩ := hns.count hw
  refine PySem.W.osa_openX (s := ⟨hp, g, d, t, os⟩) (od := some oD) b.sf X ⟨hx, rfl, rfl, hoD⟩ T.ovr (NoAttr.taker (show NoAttr K C name from ha)) fun bb => ?_
  obtain ⟨cd, hc, hd'⟩ := PySem.W.any_some T.hd
  refine wpAny_bind (wpAny_pure (wpAny_bind (wpAny_bind (wpAny_loadPart hx (wpAny_bind ((PySem.W.looks_clsIn X hc).here (s := ⟨hp, g, d, t, os⟩) ?_))))))
  rw [hd']
  refine wpAny_pure (a := some dx) ?_
  exact PySem.OEX.store_in_old hns hw hz fun h' tk' hn' hs => hq h' tk' (fun b o hb ho => (hs.2 b hb).trans ho) hn'
end
end AS

set_option Elab.async false
set_option linter.all false
set_option maxRecDepth 100000
set_option maxHeartbeats 4000000
namespace AS
open PySem PySem.Spec PyProof.Rows L2
section
variable {X : Cx} {pins : List (Addr × Obj)} {σ : St} {H : Hp} {s : Shared} {a C dx t1 : Addr} {f : Str} {y : V} {u : Value} {fs : List (Str × V)} {b : Bk}
/-- a fresh exception gets its dict -/
theorem Inv.exFirst {h' : Heap} {tk : Nat} (I : Inv X pins σ H s) (e : H a = some (exo a C none)) (ry : RelV y u) (k : ∀ b o, b ≠ a → s.heap.get? b = some o → h'.get? b = some o) (dn : s.heap.objs.size ≤ dx) (ne : dx ≠ a)
    (hx : h'.get? a = some (PySem.W.excObj C t1 (some dx) .none)) (hn : h'.Ns1 dx (fun z => if z = f then some u else none)) : Inv X pins σ (upd (upd H dx (exd dx [(f, y)])) a (exo a C (some dx))) { s with heap := h', toks := tk } := by
  have hnd : H dx = none := I.hok.fresh dn
  have na : ∀ {b : Addr}, H b = none → b ≠ a := fun {b} n z => by rw [z, e] at n; cases n
  have old : ∀ {b : Addr} {o : HO}, H b = some o → b ≠ a → upd (upd H dx (exd dx [(f, y)])) a (exo a C (some dx)) b = some o := fun {b o} q z => by
    rw [upd_ne z, upd_ne (ne_of_none q hnd)]
    exact q
  refine I.un ⟨fun b o q n _ _ => k b o (na n) q, fun b o q n _ _ => ⟨o.slots, k b o (na n) q⟩, fun b o q n _ => ?_, fun b o q _ => ?_, fun b xs q => old q (at_ne e q exo_tup), fun b o v q => old q (at_ne e q exo_frz), fun b ps q => ⟨#[], by rw [old q (at_ne e q exo_tbl)]; simp⟩⟩ fun b o q => ?_
  · rw [upd_ne (na n), upd_ne (Nat.ne_of_lt (Nat.lt_of_lt_of_le (Heap.lt_size q) dn))]
    exact n
  · by_cases hb : b = a
    · exact ⟨_, by rw [hb]; exact hx⟩
    · exact ⟨o, k b o hb q⟩
  · by_cases hb : b = a
    · subst hb
      rw [upd_same] at q
      cases q
      exact exo_ok hx
    · rw [upd_ne hb] at q
      by_cases hd : b = dx
      · subst hd
        rw [upd_same] at q
        cases q
        exact exd_ok hn (relO_put (fs := []) ry fun g => True.intro)
      · rw [upd_ne hd] at q
        refine (I.hok b o q).stay (fun c v hc z => k c v ?_ z) (fun c hc => old hc (at_ne e hc exo_own)) fun c xs hc => old hc (at_ne e hc exo_tup)
        rcases hc with hc | hc
        · rw [hc]; exact hb
        · exact at_ne e hc exo_own
/-- x.f = y on an exception -/
def rSatX (K : PySem.W.Frag) (f : Str) : V → V → Hp → (Hp → Prop) → Prop := fun x y H Q => ∃ (a C : Addr) (b : Bk), x = .ref a ∧ ExcC K C b ∧ PySem.W.findIn K (.ref C) f = some none ∧
  ((H a = some (exo a C none) ∧ ∀ dx, H dx = none → dx ≠ a → Q (upd (upd H dx (exd dx [(f, y)])) a (exo a C (some dx)))) ∨
    ∃ (dx : Addr) (fs : List (Str × V)), H a = some (exo a C (some dx)) ∧ H dx = some (exd dx fs) ∧ fs.length ≤ 900 ∧ Q (upd H dx (exd dx ((f, y) :: fs))))
theorem sat_exc : SatR X f (rSatX X.K f) := by
  intro pins s σ H x y ov u Q I rx ry h
  obtain ⟨a, C, b, rfl, T, hno, h⟩ := h
  cases rx
  rcases h with ⟨e, q⟩ | ⟨dx, fs, e, ed, hl, q⟩
  · obtain ⟨t1, ho⟩ := exo_at I.hok e
    obtain ⟨hp, g, d, t, os⟩ := s
    refine PySem.W.set_plain I.kIn (ox := PySem.W.excObj C t1 none .none) (od := none) ⟨ho, rfl, rfl, trivial⟩ T.sa ?_
    exact store_first T I.kIn ho hno fun h' tk' dx k dn ne hx hn => ⟨_, Inv.exFirst I e ry k dn ne hx hn, q dx (I.hok.fresh dn) ne⟩
  · obtain ⟨t1, ho⟩ := exo_at I.hok e
    obtain ⟨mA, hns, rel⟩ := exd_at I.hok ed
    have hw := within_of rel
    obtain ⟨hp, g, d, t, os⟩ := s
    obtain ⟨oD, _, _, hoD, _, _⟩ := hns.count hw
    refine PySem.W.set_plain I.kIn (ox := PySem.W.excObj C t1 (some dx) .none) (od := some oD) ⟨ho, rfl, rfl, hoD⟩ T.sa ?_
    refine store_next T I.kIn ho hns hw (by rw [List.length_map]; omega) hno fun h' tk' k hn => ?_
    have hd : ∃ o, h'.get? dx = some o := by
      obtain ⟨o, _, _, e', _⟩ := hn
      exact ⟨o, e'⟩
    exact ⟨_, I.write (t' := tk') (x := dx) (e := dx) (o := exd dx ((f, y) :: fs)) (by rw [ed]; exact True.intro) (.inl rfl) k hd (exd_ok hn (relO_put ry rel)), q⟩
/-- x.f of an exception -/
@[irreducible] def rAttX (K : PySem.W.Frag) (f : Str) : V → Hp → VK → XK → Prop := fun x H Q _ => ∃ (a C d : Addr) (b : Bk) (fs : List (Str × V)) (v : V), x = .ref a ∧ ExcC K C b ∧ PySem.W.findIn K (.ref C) f = some none ∧ H a = some (exo a C (some d)) ∧ H d = some (exd d fs) ∧ fs.lookup f = some v ∧ Q v H
theorem att_exc {o : Expr} {to : TE} {p : Pos} {W : WX} (hs : isSup o = false) (ho : PE X o to) : PE X (.Attribute o f p) (tAtt (rAttX X.K f) W to) := by
  refine ⟨fun pins s σ H Q I h => ?_⟩
  refine attr_of (sup_no hs) (thn (ho.run pins s σ H _ I h) fun u s1 hh => ?_)
  obtain ⟨x, H1, I1, rx, hh⟩ := hh
  unfold rAttX at hh
  obtain ⟨a, C, d, b, fs, v, rfl, T, hno, ea, ed, hl, q⟩ := hh
  obtain rfl : u = Value.ref a := rx
  obtain ⟨t1, hoA⟩ := exo_at I1.hok ea
  obtain ⟨mA, hns, rel⟩ := exd_at I1.hok ed
  obtain ⟨od, hod, hlk⟩ := lookIn_ns hns
  obtain ⟨w, hw, rw'⟩ := RelO.some_of (v := v) (o := mA f) (by rw [← hl]; exact rel f)
  exact HandSPX.exc_get I1.kIn (ox := PySem.W.excObj C t1 (some d) .none) ⟨hoA, rfl, rfl, hod⟩ T.ga T.gt T.sb (PySem.W.findObj_own T.hd hno rfl (by rw [hlk, hw])) (handed_of rw') ⟨v, H1, I1.tok _, rw', q⟩
/-- isinstance(x, C): plain things, or an exception -/
def rIsiG (K : PySem.W.Frag) : List V → Hp → VK → Prop := fun xs H Q => rIsi K xs H Q ∨ ∃ (a C : Addr) (d : Option Addr) (b : Bk) (c : V) (u : Value) (r : Bool), xs = [.ref a, c] ∧ ExcC K C b ∧ H a = some (exo a C d) ∧ ClsV c u ∧ PySem.W.kitOne K (.ref C) u = some r ∧
  (∀ d', d = some d' → ∃ fs, H d' = some (exd d' fs)) ∧ Q (.bl r) H
theorem call_isiG : CallR X (.builtin "isinstance") (rIsiG X.K) := by
  intro pins s σ H xs us Q I r h
  rcases h with h | ⟨a, C, d, b, c, u, r1, rfl, T, ea, kc, hk, hd, q⟩
  · exact call_isi pins s σ H xs us Q I r h
  · obtain ⟨u1, u2, rfl, ra, rc⟩ := vals2 r
    cases ra
    have e2 := kc.eq rc
    subst e2
    obtain ⟨t1, hoA⟩ := exo_at I.hok ea
    have fin : ∀ od, PySem.W.InstAt s.heap a (PySem.W.excObj C t1 d .none) C od → wpAny (model X.prog X.w) X.A (call (.builtin "isinstance") [.ref a, u2]) (EP X pins σ Q) X.xe s := fun od J =>
      PySem.W.kia_one (PySem.W.kitx_exc (x := a) (ox := PySem.W.excObj C t1 d .none) (od := od) T.is T.ga T.gt T.sb T.cl T.cg T.ct T.mo) I.kIn J hk (fun z => nomatch z) fun tk => ⟨.bl r1, H, I.tok tk, rfl, q⟩
    cases d with
    | none => exact fin none ⟨hoA, rfl, rfl, trivial⟩
    | some d' =>
      obtain ⟨fs, ed⟩ := hd d' rfl
      obtain ⟨mA, hns, rel⟩ := exd_at I.hok ed
      obtain ⟨od, hod, _⟩ := lookIn_ns hns
      exact fin (some od) ⟨hoA, rfl, rfl, hod⟩
end

/-! ### C(..) -/
/-- a new exception, then its __init__ -/
def mkX (C : Addr) (sp : Sp) : Sp := fun vs H Q E => vs.length ≤ 1000 ∧ ∀ a, H a = none → sp (.ref a :: vs) (upd H a (exo a C none)) (fun v H2 => v = .non ∧ Q (.ref a) H2) E
section
variable {S : Sys} {k : Nat} {N : List Str} {X : Cx} {x : Ctx}
theorem run_mkX {b : Bk} {C fI : Addr} {fd : FuncData} {ps : List Str} {sp : Sp} {j : Nat} {rest : List Value} {kw : List (Str × Value)} {us : List Value} {vs : List V} {pins : List (Addr × Obj)} {σ : St} {H : Hp} {s : Shared} {Q : VK} (L : Like S k N X x) (hc : x.c = true) (T : ExcC S.K C b)
    (F : FnB S j fI fd ps sp) (hj : j + 1 ≤ k) (hi : PySem.W.findIn S.K (.ref C) "__init__" = some (some (.ref fI))) (ht : PySem.W.typeIn S.K (.ref fI) = some (.type "function")) (hb : ∀ (s : Shared) (e : Value), BindsTo s fd ⟨e :: rest, kw⟩ (ps.zip (e :: us))) (hz : rest.length ≤ 1000)
    (I : Inv X pins σ H s) (r : Vals vs us) (h : mkX C sp vs H Q fun c d H' => x.W c d σ H') : wpAny (model X.prog X.w) X.A (call (.ref C) rest kw) (EP X pins σ Q) X.xe s := by
  obtain ⟨hp, g, d, t, os⟩ := s
  have KX : S.K.In hp := by
    have q := I.kIn
    rw [L.hK] at q
    exact q
  obtain ⟨nm, Na, qn, bs, bm, hdct, sn, sub, ab, col, dd, k0, k1, k2, k3, k5, hC, hT⟩ := PySem.W.excInit_of KX T.ini
  have kp : ∀ b o, hp.get? b = some o → ((hp.push (PySem.W.kdv_tup rest)).push (PySem.W.excObj C hp.objs.size none .none)).get? b = some o := fun b o e => Heap.get?_push_of_some _ (Heap.get?_push_of_some _ e)
  have hg : ((hp.push (PySem.W.kdv_tup rest)).push (PySem.W.excObj C hp.objs.size none .none)).get? (hp.objs.size + 1) = some (PySem.W.excObj C hp.objs.size none .none) := by heap_get
  have hn : H (hp.objs.size + 1) = none := I.hok.fresh (Nat.le_succ _)
  have J : Inv X pins σ (upd H (hp.objs.size + 1) (exo (hp.objs.size + 1) C none)) ⟨(hp.push (PySem.W.kdv_tup rest)).push (PySem.W.excObj C hp.objs.size none .none), g, d, t, os⟩ :=
    I.laid (t' := t) kp (Nat.le_succ _) (exo_ok hg)
  have hq := h.2 (hp.objs.size + 1) hn
  have rm := L.roomG hc I hj
  refine wpAny_call (make_exc b.fb hT hC (PySem.W.looks_findIn KX hi) (fun self => PySem.W.bind_fn KX self ht) (Nat.le_trans hz (by rw [sizeLine_eq]; omega)) ?_)
  have run := F (X.A.under (.builtin "type.__call__" ⟨.ref C :: rest, kw⟩)) X.stack _ _ ⟨.ref (hp.objs.size + 1) :: rest, kw⟩ (.ref (hp.objs.size + 1) :: us) (.ref (hp.objs.size + 1) :: vs) _ _ ⟨rm.r.make C rest kw, ?_⟩ ((L.env0 J).make C rest kw) (hb _ _) (.cons rfl r) hq
  · rw [← L.hP, ← L.hw] at run
    refine codeAny_mono run fun r s' z => ?_
    rw [L.hP, L.hw] at z
    have z2 := L.back J z
    cases r with
    | error e => exact z2
    | ok fl =>
      cases fl with
      | ret u =>
        obtain ⟨v, H', I3, rv, ev, q3⟩ := z2
        subst ev
        exact ⟨rv, ⟨V.ref (hp.objs.size + 1), H', I3, rfl, q3⟩⟩
      | _ => exact z2.elim
  · have e := rm.g
    first | exact e | (simpa [Around.under, Code.guards, Code.isGuard, guardIds, pushGuards] using e)
end
end AS

set_option Elab.async false
set_option linter.all false
set_option maxRecDepth 100000
set_option maxHeartbeats 4000000
namespace AS
open PySem PySem.Spec PyProof.Rows L2
section
variable {S : Sys} {k : Nat}
/-- C(e, ..) by places -/
theorem ent_mkX {b : Bk} {C fI : Addr} {n : Str} {fd : FuncData} {ps : List Str} {sp : Sp} {j : Nat} (T : ExcC S.K C b) (F : FnB S j fI fd ps sp) (hj : j + 1 ≤ k) (hm : S.mg n = some (.ref C)) (hi : PySem.W.findIn S.K (.ref C) "__init__" = some (some (.ref fI))) (ht : PySem.W.typeIn S.K (.ref fI) = some (.type "function"))
    (hb : ∀ (s : Shared) (e : Value) (us : List Value), us.length + 1 = ps.length → BindsTo s fd ⟨e :: us, []⟩ (ps.zip (e :: us))) (len : ∀ vs H Q E, sp vs H Q E → vs.length = ps.length) : CallE S k n (mkX C sp) := by
  intro N X x L hc es t p pos hg hbn hpl ha
  have hm' : X.mg n = some (.ref C) := by rw [L.hm]; exact hm
  have hk' : PySem.W.keepIn X.K (.ref C) = true := by rw [L.hK]; exact T.kp
  have go : ∀ {pins : List (Addr × Obj)} {σ : St} {H : Hp} {s : Shared} {Q : VK} {us : List Value} {vs : List V}, Inv X pins σ H s → Vals vs us → mkX C sp vs H Q (fun c d H' => x.W c d σ H') → wpAny (model X.prog X.w) X.A (call (.ref C) us) (EP X pins σ Q) X.xe s := by
    intro pins σ H s Q us vs I r h
    have l : vs.length + 1 = ps.length := by
      have q := len _ _ _ _ (h.2 s.heap.objs.size (I.hok.fresh (Nat.le_refl _)))
      simpa using q
    have lu := r.length
    exact run_mkX (kw := []) L hc T F hj hi ht (fun s e => hb s e us (by omega)) (by have := h.1; omega) I r h
  refine ⟨fun pins s σ H Q I h => ?_⟩
  refine wpAny_Call_Name_kw (ld_glob I hg hm' ?_ (badName_no hbn).1)
  cases es with
  | nil =>
    refine PySem.W.callWith_K0 I.kIn hk' ?_
    have h1 : wpAny (model X.prog X.w) X.A (spliced (backTo pos (starEach [] X.env)) >>= fun us => call (.ref C) us) (EP X pins σ Q) X.xe s :=
      wpAny_bind (thn (ha.run pos pins s σ H _ I h) fun us s1 ⟨vs, H1, I1, r, q⟩ => go I1 r q)
    exact h1
  | cons e es =>
    obtain ⟨h1, h2⟩ := b2 (show (plainA e && es.all plainA) = true from hpl)
    exact PySem.W.callWith_K (h₀ := X.base) I.ok.mod.kin hk' (thn (ha.run pos pins s σ H _ I h) fun us s1 ⟨vs, H1, I1, r, q⟩ => ⟨I1.kIn, go I1 r q⟩) (star_one h1) (star_all h2)
theorem kws_ok {env : Env} {pos : Pos} : ∀ {kws : List Keyword} {ks : List Str}, kws.map (·.arg) = ks.map some → (backToKw pos (keywordEach kws env)).all (·.1.isSome) = true ∧ (backToKw pos (keywordEach kws env)).filterMap (·.1) = ks ∧ (backToKw pos (keywordEach kws env)).any (·.1.isNone) = false
  | [], [], _ => ⟨rfl, rfl, rfl⟩
  | [], _ :: _, h => by cases h
  | _ :: _, [], h => by cases h
  | ⟨a, e, q⟩ :: kws, y :: ks, h => by
    have h' : a :: kws.map (·.arg) = some y :: ks.map some := h
    injection h' with h1 h2
    subst h1
    obtain ⟨i1, i2, i3⟩ := kws_ok (env := env) (pos := pos) h2
    refine ⟨?_, ?_, ?_⟩
    · show (true && (backToKw pos (keywordEach kws env)).all (·.1.isSome)) = true
      rw [i1]; rfl
    · show y :: (backToKw pos (keywordEach kws env)).filterMap (·.1) = y :: ks
      rw [i2]
    · show (false || (backToKw pos (keywordEach kws env)).any (·.1.isNone)) = false
      rw [i3]; rfl
/-- C(f = e, ..): the keywords ks in this order, put into the parameters' order by arr -/
theorem ent_mkXK {b : Bk} {C fI : Addr} {n : Str} {fd : FuncData} {ps ks : List Str} {sp : Sp} {j : Nat} (arr : {α : Type} → List α → List α) (T : ExcC S.K C b) (F : FnB S j fI fd ps sp) (hj : j + 1 ≤ k) (hm : S.mg n = some (.ref C)) (hi : PySem.W.findIn S.K (.ref C) "__init__" = some (some (.ref fI))) (ht : PySem.W.typeIn S.K (.ref fI) = some (.type "function"))
    (hb : ∀ (s : Shared) (e : Value) (ws : List Value), ws.length = ks.length → BindsTo s fd ⟨[e], ks.zip ws⟩ (ps.zip (e :: arr ws))) (hv : ∀ (zs : List V) (ws : List Value), Vals zs ws → zs.length = ks.length → Vals (arr zs) (arr ws)) :
    CallKE S k n ks (fun vs zs H Q E => vs = [] ∧ zs.length = ks.length ∧ mkX C sp (arr zs) H Q E) := by
  intro N X x L hc es kws t tk p pos hg hbn hpl hks ha hkw
  have hm' : X.mg n = some (.ref C) := by rw [L.hm]; exact hm
  have hk' : PySem.W.keepIn X.K (.ref C) = true := by rw [L.hK]; exact T.kp
  obtain ⟨k1, k2, k3⟩ := kws_ok (env := X.env) (pos := pos) hks
  have kl : ∀ {pins : List (Addr × Obj)} {σ : St} {H : Hp} {s : Shared} {R : List V → Hp → Prop}, Inv X pins σ H s → tk σ H R → wpAny (model X.prog X.w) X.A (evalAll ((backToKw pos (keywordEach kws X.env)).map (·.2))) (AP X pins σ R) X.xe s := fun {pins σ H s R} I h => hkw.run pos pins s σ H R I h
  have go : ∀ {pins : List (Addr × Obj)} {σ : St} {H : Hp} {s : Shared} {Q : VK} {ws : List Value} {zs : List V}, Inv X pins σ H s → Vals zs ws → zs.length = ks.length → mkX C sp (arr zs) H Q (fun c d H' => x.W c d σ H') → wpAny (model X.prog X.w) X.A (call (.ref C) [] (ks.zip ws)) (EP X pins σ Q) X.xe s := by
    intro pins σ H s Q ws zs I r hl h
    have lu := r.length
    exact run_mkX (rest := []) (us := arr ws) L hc T F hj hi ht (fun s e => hb s e ws (by omega)) (by simp) I (hv zs ws r hl) h
  refine ⟨fun pins s σ H Q I h => ?_⟩
  refine wpAny_Call_Name_kw (ld_glob I hg hm' ?_ (badName_no hbn).1)
  have nx : ∀ {us : List Value}, Vals [] us → us = [] := fun {us} r => by cases r; rfl
  cases es with
  | nil =>
    refine PySem.W.callWith_KW0 (h₀ := X.base) I.ok.mod.kin hk' k1 ?_ (by rw [k3]; rfl)
    have h1 : wpAny (model X.prog X.w) X.A (spliced (backTo pos (starEach [] X.env)) >>= fun _ => evalAll ((backToKw pos (keywordEach kws X.env)).map (·.2))) (fun ws s2 => X.K.In s2.heap ∧ wpAny (model X.prog X.w) X.A (call (.ref C) [] (ks.zip ws)) (EP X pins σ Q) X.xe s2) X.xe s := by
      refine wpAny_bind (thn (ha.run pos pins s σ H _ I h) fun us s1 ⟨vs, H1, I1, r, q⟩ => ?_)
      exact thn (kl I1 q) fun ws s2 ⟨zs, H2, I2, rz, _, hl, q2⟩ => ⟨I2.kIn, go I2 rz hl q2⟩
    rw [k2]
    exact h1
  | cons e es =>
    obtain ⟨h1, h2⟩ := b2 (show (plainA e && es.all plainA) = true from hpl)
    refine PySem.W.callWith_KW (h₀ := X.base) I.ok.mod.kin hk' k1 (thn (ha.run pos pins s σ H _ I h) fun us s1 ⟨vs, H1, I1, r, q⟩ => ?_) (by rw [k3, star_all hpl]; rfl) (star_one h1)
    refine thn (kl I1 q) fun ws s2 ⟨zs, H2, I2, rz, ev, hl, q2⟩ => ⟨I2.kIn, ?_⟩
    subst ev
    rw [k2, nx r]
    exact go I2 rz hl q2
end
end AS

set_option Elab.async false
set_option linter.all false
set_option maxRecDepth 100000
set_option maxHeartbeats 4000000
/-! L1: what all laws share: the drawn numbers (_law_rng, _law_draw, _law_choice). -/
namespace AS
open PySem PySem.Spec PyProof.Rows L2

/-! ### intro rules of the leaves -/
section
variable {K : PySem.W.Frag} {H : Hp} {Q : VK}
theorem idx_lst {a : Addr} {xs : List V} {i : Int} {v : V} (h : SqL K H a xs) (hv : atI xs i = some v) (q : Q v H) : idxT K (.ref a) (.int i) H Q := by unfold idxT; exact .inl (.inl ⟨a, xs, i, v, rfl, rfl, h, hv, q⟩)
theorem idx_tup {a : Addr} {xs : List V} {i : Int} {v : V} (h : SqT K H a xs) (hv : atI xs i = some v) (q : Q v H) : idxT K (.ref a) (.int i) H Q := by unfold idxT; exact .inl (.inr (.inl ⟨a, xs, i, v, rfl, rfl, h, hv, q⟩))
theorem idx_str {z : Str} {i : Int} {c : Nat} (h : z.length ≤ sizeLine) (hv : atI z.cps.toList i = some c) (q : Q (.str ⟨#[c]⟩) H) : idxT K (.str z) (.int i) H Q := by unfold idxT; exact .inl (.inr (.inr ⟨z, i, c, rfl, rfl, h, hv, q⟩))
theorem idx_dic {a : Addr} {y v : V} (g : DGet H a y (some v)) (q : Q v H) : idxT K (.ref a) y H Q := by unfold idxT; exact .inr ⟨a, v, rfl, g, q⟩
theorem put_lst {a : Addr} {xs : List V} {k : Int} {j : Nat} {v : V} {R : Hp → Prop} (h : H a = some (.lst xs)) (hj : ixN xs.length k = some j) (q : R (upd H a (.lst (xs.set j v)))) : putR (.ref a) (.int k) v H R := by unfold putR; exact .inl ⟨a, xs, k, j, rfl, rfl, h, hj, q⟩
theorem put_dic {a : Addr} {y v : V} {H' : Hp} {R : Hp → Prop} (g : DPut H a y v H') (q : R H') : putR (.ref a) y v H R := by unfold putR; exact .inr ⟨a, H', rfl, g, q⟩
theorem eq_sc {x y : V} (h : scal x y = true) (q : Q (.bl (decide (x = y))) H) : eqR K x y H Q := by unfold eqR; exact .inl ⟨h, q⟩
theorem ne_sc {x y : V} (h : scal x y = true) (q : Q (.bl (!decide (x = y))) H) : neR K x y H Q := by unfold neR; exact .inl ⟨h, q⟩
end
/-- all but r is kept -/
def Mod1 (r : Addr) (H H' : Hp) : Prop := ∀ b o, b ≠ r → H b = some o → H' b = some o
theorem Mod1.refl {r : Addr} {H : Hp} : Mod1 r H H := fun _ _ _ e => e
theorem Mod1.trans {r : Addr} {H H1 H2 : Hp} (a : Mod1 r H H1) (b : Mod1 r H1 H2) : Mod1 r H H2 := fun c o n e => b c o n (a c o n e)
theorem Mod1.put {r : Addr} {H H1 : Hp} {o : HO} (a : Mod1 r H H1) : Mod1 r H (upd H1 r o) := fun c u n e => by rw [upd_ne n]; exact a c u n e
theorem Mod1.new {r p : Addr} {H H1 : Hp} {o : HO} (a : Mod1 r H H1) (hp : H1 p = none) : Mod1 r H (upd H1 p o) := fun c u n e => by
  have q := a c u n e
  rw [upd_ne (ne_of_none q hp)]
  exact q
theorem Mod1.sqL {r a : Addr} {K : PySem.W.Frag} {H H' : Hp} {xs : List V} (m : Mod1 r H H') (n : a ≠ r) (h : SqL K H a xs) : SqL K H' a xs := by
  rcases h with (h | ⟨o, h⟩) | h
  · exact .inl (.inl (m _ _ n h))
  · exact .inl (.inr ⟨o, m _ _ n h⟩)
  · exact .inr h
/-- a drawer of numbers at r -/
def RngAt (H : Hp) (r : Addr) : Prop := ∃ n m : Int, H r = some (.lst [.int n, .int m]) ∧ 0 ≤ n ∧ 0 ≤ m ∧ m < 2147483564
def sp_draw : Sp := fun vs H Q _ => ∃ (r : Addr) (m : Int), vs = [.ref r, .int m] ∧ RngAt H r ∧ 0 < m ∧ m < 1073741824 ∧ ∀ (d : Int) (H' : Hp), 0 ≤ d → d < m → RngAt H' r → Mod1 r H H' → Q (.int d) H'
abbrev spDivmod : Sp := fun vs H Q _ => rDivmod vs H Q
abbrev spInt : Sp := fun vs H Q _ => rInt1 vs H Q
def t_draw (K : PySem.W.Frag) (E : XK) : TS :=
  (tSeq (tIfS (tTest (tOp gtR (tOp (idxT K) (tNm 0) (tC (.int 0))) (tC (.int 0)))) (tSeq (tAsg (tCl spDivmod (wD E) (tCons (tOp (idxT K) (tNm 0) (tC (.int 0))) (tCons (tNm 1) tNil))) (oG (gTup K 2 (gCons (gSub (tNm 0) (tC (.int 0)) putR) (gCons (gName 2) gNil))) (gLst K 2 (gCons (gSub (tNm 0) (tC (.int 0)) putR) (gCons (gName 2) gNil))))) (tRet (tNm 2))) tNext) (tSeq (tAsg (tOp modR (tCl spInt (wD E) (tCons (tOp (addR K) (tOp mulR (tOp (idxT K) (tNm 0) (tC (.int 1))) (tC (.int 40693))) (tC (.int 27017))) tNil)) (tC (.int 2147483563))) (gSub (tNm 0) (tC (.int 1)) putR)) (tRet (tOp modR (tOp fdivR (tOp modR (tCl spInt (wD E) (tCons (tOp mulR (tOp (idxT K) (tNm 0) (tC (.int 1))) (tOp (idxT K) (tNm 0) (tC (.int 1)))) tNil)) (tC (.int 2147483477))) (tC (.int 17))) (tNm 1)))))
theorem draw_tail (K : PySem.W.Frag) (E : XK) (r : Addr) (m n0 x1 : Int) (H : Hp) (Q : VK) (hm0 : 0 < m) (h0 : 0 ≤ n0) (x0 : 0 ≤ x1) (x2 : x1 < 2147483563) (k : ∀ (d : Int) (H' : Hp), 0 ≤ d → d < m → RngAt H' r → Mod1 r H H' → Q (.int d) H') :
    (tRet (tOp modR (tOp fdivR (tOp modR (tCl spInt (wD E) (tCons (tOp mulR (tOp (idxT K) (tNm 0) (tC (.int 1))) (tOp (idxT K) (tNm 0) (tC (.int 1)))) tNil)) (tC (.int 2147483477))) (tC (.int 17))) (tNm 1))) { nx := fun _ H' => Q .non H', rt := Q } [some (.ref r), some (.int m), none] (upd H r (.lst [.int n0, .int x1])) := by
  refine idx_lst (SqL.of upd_same) (v := .int x1) rfl ?_
  refine idx_lst (SqL.of upd_same) (v := .int x1) rfl ?_
  refine ⟨.inl ⟨by omega, by omega⟩, ?_⟩
  refine .inl ⟨_, rfl, ?_⟩
  refine ⟨(by show (0 : Int) < 2147483477; decide), ?_⟩
  refine ⟨⟨by decide, by decide⟩, ?_⟩
  refine ⟨hm0, ?_⟩
  exact k _ _ (Int.emod_nonneg _ (by omega)) (Int.emod_lt_of_pos _ hm0) ⟨n0, x1, upd_same, h0, x0, by omega⟩ Mod1.refl.put
theorem pure_draw (K : PySem.W.Frag) (vs : List V) (H : Hp) (Q : VK) (E : XK) (h : sp_draw vs H Q E) : t_draw K E { nx := fun _ H' => Q .non H', rt := Q } (start ["_law_rng_here", "_law_many", "_law_digit"] vs) H := by
  obtain ⟨r, m, rfl, ⟨n0, n1, hr, h0, h1, h2⟩, hm0, hm1, k⟩ := h
  refine idx_lst (SqL.of hr) (v := .int n0) rfl ?_
  refine ⟨_, rfl, ?_⟩
  by_cases c : (0 : Int) < n0
  · rw [decide_eq_true c]
    refine iteT ?_
    refine idx_lst (SqL.of hr) (v := .int n0) rfl ?_
    refine ⟨n0, m, rfl, ⟨hm0, hm1⟩, fun p hp => ?_⟩
    have npr : r ≠ p := ne_of_none hr hp
    refine .inl ⟨p, _, rfl, SqT.of upd_same, rfl, _, _, rfl, ?_⟩
    refine put_lst (xs := [.int n0, .int n1]) (j := 0) ?_ rfl ?_
    · rw [upd_ne npr]; exact hr
    · refine ⟨_, _, rfl, rfl, ?_⟩
      show Q (.int (n0 % m)) _
      refine k _ _ (Int.emod_nonneg _ (by omega)) (Int.emod_lt_of_pos _ hm0) ⟨n0 / m, n1, upd_same, Int.ediv_nonneg h0 (by omega), h1, h2⟩ ?_
      exact (Mod1.refl.new hp).put
  · rw [decide_eq_false c]
    refine iteF ?_
    refine idx_lst (SqL.of hr) (v := .int n1) rfl ?_
    refine ⟨.inr ⟨by decide, by decide⟩, ?_⟩
    refine .inl ⟨_, rfl, ?_⟩
    refine ⟨(by show (0 : Int) < 2147483563; decide), ?_⟩
    refine put_lst (xs := [.int n0, .int n1]) (j := 1) hr rfl ?_
    exact draw_tail K E r m n0 _ H Q hm0 h0 (Int.emod_nonneg _ (by decide)) (Int.emod_lt_of_pos _ (by decide)) (k · · · · · ·)

/-! ### _law_rng -/
abbrev spLen (K : PySem.W.Frag) : Sp := fun vs H Q _ => rLenG K vs H Q
abbrev spMax : Sp := fun vs H Q _ => rMax2 vs H Q
abbrev spMin : Sp := fun vs H Q _ => rMin2 vs H Q
abbrev spAbs : Sp := fun vs H Q _ => rAbs vs H Q
def sp_rng (K : PySem.W.Frag) : Sp := fun vs H Q _ => ∃ (a : Addr) (i : Nat) (ns : List Int), vs = [.ref a, .int i] ∧ i < 1000 ∧ SqL K H a (ns.map V.int) ∧ ∀ (p : Addr) (o : HO), H p = none → RngAt (upd H p o) p → Q (.ref p) (upd H p o)
def t_rng (K : PySem.W.Frag) (E : XK) : TS :=
  (tSeq (tAsg (tOp (addR K) (tOp mulR (tC (.int 17)) (tNm 1)) (tC (.int 5))) (gName 2)) (tSeq (tIfS (tTest (tOp ltR (tNm 1) (tCl (spLen K) (wD E) (tCons (tNm 0) tNil)))) (tAsg (tOp (idxT K) (tNm 0) (tNm 1)) (gName 2)) tNext) (tRet (tLst (tCons (tCl spMax (wD E) (tCons (tC (.int 0)) (tCons (tOp subR (tCl spAbs (wD E) (tCons (tNm 2) tNil)) (tOp powR (tC (.int 10)) (tC (.int 18)))) tNil))) (tCons (tOp (addR K) (tOp modR (tOp mulR (tCl spInt (wD E) (tCons (tOp (addR K) (tOp modR (tCl spInt (wD E) (tCons (tCl spAbs (wD E) (tCons (tNm 2) tNil)) tNil)) (tC (.int 2147483549))) (tC (.int 1))) tNil)) (tOp powR (tOp (addR K) (tOp mulR (tC (.int 2)) (tNm 1)) (tC (.int 7))) (tC (.int 3)))) (tC (.int 2147483489))) (tC (.int 1))) tNil))))))
theorem atI_nat' {α : Type} {xs : List α} {i : Nat} {v : α} (h : xs[i]? = some v) : atI xs (i : Int) = some v := atI_nat h
theorem rng_tail (K : PySem.W.Frag) (E : XK) (a : Addr) (i : Nat) (c : Int) (H : Hp) (Q : VK) (hi : i < 1000) (k : ∀ (p : Addr) (o : HO), H p = none → RngAt (upd H p o) p → Q (.ref p) (upd H p o)) :
    (tLst (tCons (tCl spMax (wD E) (tCons (tC (.int 0)) (tCons (tOp subR (tCl spAbs (wD E) (tCons (tNm 2) tNil)) (tOp powR (tC (.int 10)) (tC (.int 18)))) tNil))) (tCons (tOp (addR K) (tOp modR (tOp mulR (tCl spInt (wD E) (tCons (tOp (addR K) (tOp modR (tCl spInt (wD E) (tCons (tCl spAbs (wD E) (tCons (tNm 2) tNil)) tNil)) (tC (.int 2147483549))) (tC (.int 1))) tNil)) (tOp powR (tOp (addR K) (tOp mulR (tC (.int 2)) (tNm 1)) (tC (.int 7))) (tC (.int 3)))) (tC (.int 2147483489))) (tC (.int 1))) tNil))) [some (.ref a), some (.int i), some (.int c)] H Q := by
  refine ⟨c, rfl, ?_⟩
  refine ⟨⟨by decide, by decide, by decide⟩, ?_⟩
  refine ⟨0, _, rfl, ?_⟩
  refine ⟨c, rfl, ?_⟩
  refine .inl ⟨_, rfl, ?_⟩
  refine ⟨(by show (0 : Int) < 2147483549; decide), ?_⟩
  refine .inl ⟨_, rfl, ?_⟩
  refine ⟨.inl ⟨by decide, by decide⟩, ?_⟩
  refine ⟨⟨by decide, by decide, by omega⟩, ?_⟩
  generalize hx : (if c < 0 then -c else c) % 2147483549 + 1 = x
  have x0 : 0 ≤ x := by rw [← hx]; have := Int.emod_nonneg (if c < 0 then -c else c) (show (2147483549 : Int) ≠ 0 by decide); omega
  have x1 : x ≤ 2147483549 := by rw [← hx]; have := Int.emod_lt_of_pos (if c < 0 then -c else c) (show (0 : Int) < 2147483549 by decide); omega
  refine ⟨.inl ⟨by omega, by omega⟩, ?_⟩
  refine ⟨(by show (0 : Int) < 2147483489; decide), ?_⟩
  refine ⟨by show 2 ≤ sizeLine; decide, fun p hp => ?_⟩
  refine k p _ hp ⟨_, _, upd_same, ?_, ?_, ?_⟩
  · split <;> omega
  · have := Int.emod_nonneg (x * (2 * (i : Int) + 7) ^ Int.toNat 3) (show (2147483489 : Int) ≠ 0 by decide)
    omega
  · have := Int.emod_lt_of_pos (x * (2 * (i : Int) + 7) ^ Int.toNat 3) (show (0 : Int) < 2147483489 by decide)
    omega
theorem pure_rng (K : PySem.W.Frag) (vs : List V) (H : Hp) (Q : VK) (E : XK) (h : sp_rng K vs H Q E) : t_rng K E { nx := fun _ H' => Q .non H', rt := Q } (start ["_law_script", "_law_k", "_law_cell"] vs) H := by
  obtain ⟨a, i, ns, rfl, hi, hS, k⟩ := h
  refine ⟨.inl ⟨by decide, by decide⟩, ?_⟩
  refine ⟨_, _, rfl, .inl ⟨_, hS, rfl⟩, ?_⟩
  refine ⟨_, rfl, ?_⟩
  rw [List.length_map]
  by_cases c : (i : Int) < (ns.length : Int)
  · rw [decide_eq_true c]
    refine iteT ?_
    have l : i < ns.length := by omega
    refine idx_lst hS (v := .int ns[i]) (atI_nat (by rw [List.getElem?_map, List.getElem?_eq_getElem l]; rfl)) ?_
    exact rng_tail K E a i ns[i] H Q hi k
  · rw [decide_eq_false c]
    refine iteF ?_
    exact rng_tail K E a i _ H Q hi k

/-! ### _law_choice -/
def sp_choice (K : PySem.W.Frag) : Sp := fun vs H Q _ => ∃ (r : Addr) (w : V), vs = [.ref r, w] ∧ RngAt H r ∧
  ((∃ (l : Addr) (xs : List V), w = .ref l ∧ l ≠ r ∧ SqL K H l xs ∧ xs ≠ [] ∧ xs.length < 1073741824 ∧ ∀ (i : Nat) (v : V) (H' : Hp), xs[i]? = some v → RngAt H' r → Mod1 r H H' → Q v H') ∨
    ∃ z : Str, w = .str z ∧ z.length ≤ sizeLine ∧ 0 < z.length ∧ ∀ (i : Nat) (c : Nat) (H' : Hp), z.cps.toList[i]? = some c → RngAt H' r → Mod1 r H H' → Q (.str ⟨#[c]⟩) H')
def t_choice (K : PySem.W.Frag) (E : XK) : TS := (tRet (tOp (idxT K) (tNm 1) (tCl sp_draw (wD E) (tCons (tNm 0) (tCons (tCl (spLen K) (wD E) (tCons (tNm 1) tNil)) tNil)))))
theorem sl_lt : sizeLine < 1073741824 := by rw [sizeLine_eq]; decide
theorem pure_choice (K : PySem.W.Frag) (vs : List V) (H : Hp) (Q : VK) (E : XK) (h : sp_choice K vs H Q E) : t_choice K E { nx := fun _ H' => Q .non H', rt := Q } (start ["_law_rng_here", "_law_some"] vs) H := by
  obtain ⟨r, w, rfl, hr, h⟩ := h
  rcases h with ⟨l, xs, rfl, nl, hS, hn, hz, k⟩ | ⟨z, rfl, hz, h0, k⟩
  · refine ⟨_, _, rfl, .inl ⟨_, hS, rfl⟩, ?_⟩
    have pos : 0 < xs.length := List.length_pos_iff.mpr hn
    refine ⟨r, _, rfl, hr, by omega, by omega, fun d H' d0 d1 hr' m => ?_⟩
    obtain ⟨j, rfl⟩ : ∃ j : Nat, d = (j : Int) := ⟨d.toNat, by omega⟩
    have hj : j < xs.length := by omega
    refine idx_lst (m.sqL nl hS) (v := xs[j]) (atI_nat (List.getElem?_eq_getElem hj)) ?_
    exact k j _ H' (List.getElem?_eq_getElem hj) hr' m
  · refine ⟨_, _, rfl, ⟨hz, rfl⟩, ?_⟩
    have sl := sl_lt
    refine ⟨r, _, rfl, hr, by omega, by omega, fun d H' d0 d1 hr' m => ?_⟩
    obtain ⟨j, rfl⟩ : ∃ j : Nat, d = (j : Int) := ⟨d.toNat, by omega⟩
    have hj : j < z.cps.toList.length := by
      have e : z.cps.toList.length = z.length := by simp [Str.length]
      omega
    refine idx_str hz (c := z.cps.toList[j]) (atI_nat (List.getElem?_eq_getElem hj)) ?_
    exact k j _ H' (List.getElem?_eq_getElem hj) hr' m
end AS

set_option Elab.async false
set_option linter.all false
set_option maxRecDepth 100000
set_option maxHeartbeats 4000000
/-! M1: heaps that grow, loops and comprehensions by invariants, data that is shown. -/
namespace AS
open PySem PySem.Spec PyProof.Rows L2

/-! ### a heap grows -/
def Ext (H H' : Hp) : Prop := ∀ b o, H b = some o → H' b = some o
theorem Ext.refl {H : Hp} : Ext H H := fun _ _ e => e
theorem Ext.trans {H H1 H2 : Hp} (a : Ext H H1) (b : Ext H1 H2) : Ext H H2 := fun c o e => b c o (a c o e)
theorem Ext.new {H H1 : Hp} {p : Addr} {o : HO} (a : Ext H H1) (hp : H1 p = none) : Ext H (upd H1 p o) := fun c u e => by
  have q := a c u e
  rw [upd_ne (ne_of_none q hp)]
  exact q
/-- writing at a place that the old heap does not know -/
theorem Ext.put {H H1 : Hp} {p : Addr} {o : HO} (a : Ext H H1) (hp : H p = none) : Ext H (upd H1 p o) := fun c u e => by
  rw [upd_ne (ne_of_none e hp)]
  exact a c u e
theorem Ext.none {H H' : Hp} {p : Addr} (a : Ext H H') (h : H' p = none) : H p = none := by
  cases e : H p with
  | none => rfl
  | some o => rw [a p o e] at h; cases h
theorem Ext.rd {H H' : Hp} {a : Addr} {u : HO} (x : Ext H H') (h : Rd H a u) : Rd H' a u := h.imp (x a _) fun ⟨o, q⟩ => ⟨o, x a _ q⟩
theorem Ext.sqL {K : PySem.W.Frag} {H H' : Hp} {a : Addr} {xs : List V} (x : Ext H H') (h : SqL K H a xs) : SqL K H' a xs := h.imp x.rd fun q => q
theorem Ext.sqT {K : PySem.W.Frag} {H H' : Hp} {a : Addr} {xs : List V} (x : Ext H H') (h : SqT K H a xs) : SqT K H' a xs := h.imp x.rd fun q => q
mutual
theorem Dt.ext {K : PySem.W.Frag} {H H' : Hp} (x : Ext H H') : ∀ {v : V} {d : PyData}, Dt K H v d → Dt K H' v d
  | _, _, .non => .non
  | _, _, .bl b => .bl b
  | _, _, .int i => .int i
  | _, _, .str z => .str z
  | _, _, .lst h t => .lst (x.sqL h) (Dts.ext x t)
  | _, _, .tup h t => .tup (x.sqT h) (Dts.ext x t)
  | _, _, .dic h t u => .dic (x.rd h) (Dts.ext x t) (Dts.ext x u)
theorem Dts.ext {K : PySem.W.Frag} {H H' : Hp} (x : Ext H H') : ∀ {v : List V} {d : List PyData}, Dts K H v d → Dts K H' v d
  | _, _, .nil => .nil
  | _, _, .cons h t => .cons (Dt.ext x h) (Dts.ext x t)
end
/-- a heap without one place -/
def wo (r : Addr) (H : Hp) : Hp := fun b => if b = r then none else H b
theorem wo_ext {r : Addr} {H : Hp} : Ext (wo r H) H := fun b o e => by
  unfold wo at e
  split at e
  · cases e
  · exact e
theorem wo_at {r b : Addr} {H : Hp} (h : b ≠ r) : wo r H b = H b := if_neg h
theorem Mod1.wo {r : Addr} {H H' : Hp} (m : Mod1 r H H') : Ext (AS.wo r H) (AS.wo r H') := fun b o e => by
  have hb : b ≠ r := fun z => by rw [z] at e; unfold AS.wo at e; rw [if_pos rfl] at e; cases e
  rw [wo_at hb] at e ⊢
  exact m b o hb e
theorem Ext.wo {r : Addr} {H H' : Hp} (x : Ext H H') : Ext (AS.wo r H) (AS.wo r H') := Mod1.wo fun b o _ e => x b o e
theorem Ext.mod1 {r : Addr} {H H' : Hp} (x : Ext H H') : Mod1 r H H' := fun b o _ e => x b o e

/-! ### steps of readings -/
section
variable {te ta tb : TE} {t : TA} {g : TG} {s u : TS} {D : Ends} {σ : St} {H : Hp} {Q : VK} {v : V}
theorem asg_i (h : te σ H fun x H1 => g x σ H1 (u D)) : tSeq (tAsg te g) u D σ H := h
theorem seq_i (h : s { D with nx := u D } σ H) : tSeq s u D σ H := h
theorem name_i {i : Nat} {R : St → Hp → Prop} (h : R (σ.set i (some v)) H) : gName i v σ H R := h
theorem ret_i (h : te σ H D.rt) : tRet te D σ H := h
theorem cl_i {sp : Sp} {W : WX} (h : t σ H fun vs H1 => sp vs H1 Q fun c d H' => W c d σ H') : tCl sp W t σ H Q := h
theorem cons_i {R : List V → Hp → Prop} (h : te σ H fun x H1 => t σ H1 fun xs H2 => R (x :: xs) H2) : tCons te t σ H R := h
theorem nil_i {R : List V → Hp → Prop} (h : R [] H) : tNil σ H R := h
theorem op_i {r : R2} (h : ta σ H fun x H1 => tb σ H1 fun y H2 => r x y H2 Q) : tOp r ta tb σ H Q := h
theorem lst_i (h : t σ H fun xs H1 => xs.length ≤ sizeLine ∧ ∀ p, H1 p = none → Q (.ref p) (upd H1 p (.lst xs))) : tLst t σ H Q := h
theorem nm_i {i : Nat} (e : sl σ i = some v) (q : Q v H) : tNm i σ H Q := by
  unfold tNm
  rw [e]
  exact q
theorem c_i (q : Q v H) : tC v σ H Q := q
theorem ifS_i {c : TT} (h : c σ H fun b H1 => if b = true then s D σ H1 else u D σ H1) : tIfS c s u D σ H := h
theorem test_i {R : Bool → Hp → Prop} (h : te σ H fun x H' => ∃ k, x = .bl k ∧ R k H') : tTest te σ H R := h
theorem or_i {c d : TT} {R : Bool → Hp → Prop} (h : c σ H fun b H1 => if b = true then R true H1 else d σ H1 R) : tOr c d σ H R := h
theorem and_i {c d : TT} {R : Bool → Hp → Prop} (h : c σ H fun b H1 => if b = true then d σ H1 R else R false H1) : tAnd c d σ H R := h
theorem not_i {c : TT} {R : Bool → Hp → Prop} (h : c σ H fun b H1 => R (!b) H1) : tNot c σ H R := h
theorem tru_i {tr : Tr} {R : Bool → Hp → Prop} (h : te σ H fun x H1 => tr x H1 R) : tTru tr te σ H R := h
theorem andG_i {tr : Tr} (h : ta σ H fun x H1 => tr x H1 fun k H2 => if k = true then tb σ H2 Q else Q x H2) : tAndG tr ta tb σ H Q := h
theorem orG_i {tr : Tr} (h : ta σ H fun x H1 => tr x H1 fun k H2 => if k = true then Q x H2 else tb σ H2 Q) : tOrG tr ta tb σ H Q := h
theorem notG_i {tr : Tr} (h : ta σ H fun x H1 => tr x H1 fun k H2 => Q (.bl (!k)) H2) : tNotG tr ta σ H Q := h
theorem tru_bl {K : PySem.W.Frag} {b : Bool} {R : Bool → Hp → Prop} (h : R b H) : truG K (.bl b) H R := h
theorem un_i {r : V → Hp → VK → Prop} (h : ta σ H fun x H1 => r x H1 Q) : tUn r ta σ H Q := h
theorem par_i {i j : Nat} (h : t σ H fun vs H1 => ∃ v w, vs = [v, w] ∧ D.nx ((σ.set i (some v)).set j (some w)) H1) : tPar i j t D σ H := h
theorem par3_i {i j l : Nat} (h : t σ H fun vs H1 => ∃ u v w, vs = [u, v, w] ∧ D.nx (((σ.set i (some u)).set j (some v)).set l (some w)) H1) : tPar3 i j l t D σ H := h
theorem tup_i (h : t σ H fun xs H1 => xs.length ≤ sizeLine ∧ ∀ p, H1 p = none → Q (.ref p) (upd H1 p (.tup xs))) : tTup t σ H Q := h
theorem next_i (h : D.nx σ H) : tNext D σ H := h
theorem att_i {r : V → Hp → VK → XK → Prop} {W : WX} (h : te σ H fun x H1 => r x H1 Q fun c d H' => W c d σ H') : tAtt r W te σ H Q := h
end

/-! ### loops -/
section
variable {J : It} {g : TG} {tb : TS} {D : Ends} {σ : St} {H : Hp}
theorem for_by (n : Nat) (P : Nat → St → Hp → Prop) (h0 : P 0 σ H)
    (go : ∀ i σ H, i < n → P i σ H → J.go i H ∧ ∀ x H', J.yld i H x H' → g x σ H' fun σ2 H2 => tb { D with nx := P (i + 1), ct := P (i + 1), bk := D.nx } σ2 H2) (stop : ∀ σ H, P n σ H → J.stop n H ∧ D.nx σ H) :
    ∃ W : Nat → Nat → St → Hp → Prop, (∃ m, W 0 m σ H) ∧ ∀ i m σ H, W i m σ H →
      (J.stop i H ∧ D.nx σ H) ∨ (J.go i H ∧ ∃ N : St → Hp → Prop, (∀ σ' H', N σ' H' → ∃ m', m' < m ∧ W (i + 1) m' σ' H') ∧ ∀ x H', J.yld i H x H' → g x σ H' fun σ2 H2 => tb { D with nx := N, ct := N, bk := D.nx } σ2 H2) := by
  refine ⟨fun i m σ H => i ≤ n ∧ m = n - i ∧ P i σ H, ⟨n, Nat.zero_le _, rfl, h0⟩, fun i m σ H ⟨hi, hm, hp⟩ => ?_⟩
  by_cases e : i = n
  · subst e
    exact .inl (stop σ H hp)
  · have lt : i < n := by omega
    obtain ⟨h1, h2⟩ := go i σ H lt hp
    exact .inr ⟨h1, P (i + 1), fun σ' H' q => ⟨n - (i + 1), by omega, by omega, rfl, q⟩, h2⟩
end
section
variable {K : PySem.W.Frag} {g : TG} {tb : TS} {D : Ends} {σ : St} {H : Hp} {a : Addr} {xs : List V}
theorem sqL_det {xs ys : List V} (h : SqL K H a xs) (i : Nat) (x : V) (q : ∀ ys, SqL K H a ys → ys[i]? = some x) : xs[i]? = some x := q xs h
/-- for .. in l: the list stays as it is -/
theorem for_lst (P : Nat → St → Hp → Prop) (hS : ∀ i σ H, P i σ H → SqL K H a xs) (h0 : P 0 σ H)
    (go : ∀ i x σ H, xs[i]? = some x → P i σ H → g x σ H fun σ2 H2 => tb { D with nx := P (i + 1), ct := P (i + 1), bk := D.nx } σ2 H2) (stop : ∀ σ H, P xs.length σ H → D.nx σ H) :
    ∃ W : Nat → Nat → St → Hp → Prop, (∃ m, W 0 m σ H) ∧ ∀ i m σ H, W i m σ H →
      ((Itl K a).stop i H ∧ D.nx σ H) ∨ ((Itl K a).go i H ∧ ∃ N : St → Hp → Prop, (∀ σ' H', N σ' H' → ∃ m', m' < m ∧ W (i + 1) m' σ' H') ∧ ∀ x H', (Itl K a).yld i H x H' → g x σ H' fun σ2 H2 => tb { D with nx := N, ct := N, bk := D.nx } σ2 H2) := by
  refine for_by xs.length P h0 (fun i σ H hi hp => ⟨⟨xs, xs[i], hS i σ H hp, List.getElem?_eq_getElem hi⟩, fun x H' q => ?_⟩) fun σ H hp => ⟨⟨xs, hS _ σ H hp, Nat.le_refl _⟩, stop σ H hp⟩
  obtain ⟨rfl, q⟩ := q
  exact go i x σ H' (q xs (hS i σ H' hp)) hp
/-- for i, x in enumerate(l) -/
theorem for_enum (P : Nat → St → Hp → Prop) (hS : ∀ i σ H, P i σ H → SqL K H a xs) (h0 : P 0 σ H)
    (go : ∀ i x T σ H, xs[i]? = some x → H T = none → P i σ H → g (.ref T) σ (upd H T (.tup [.int (i : Nat), x])) fun σ2 H2 => tb { D with nx := P (i + 1), ct := P (i + 1), bk := D.nx } σ2 H2) (stop : ∀ σ H, P xs.length σ H → D.nx σ H) :
    ∃ W : Nat → Nat → St → Hp → Prop, (∃ m, W 0 m σ H) ∧ ∀ i m σ H, W i m σ H →
      ((Ite K a).stop i H ∧ D.nx σ H) ∨ ((Ite K a).go i H ∧ ∃ N : St → Hp → Prop, (∀ σ' H', N σ' H' → ∃ m', m' < m ∧ W (i + 1) m' σ' H') ∧ ∀ x H', (Ite K a).yld i H x H' → g x σ H' fun σ2 H2 => tb { D with nx := N, ct := N, bk := D.nx } σ2 H2) := by
  refine for_by xs.length P h0 (fun i σ H hi hp => ⟨⟨xs, xs[i], hS i σ H hp, List.getElem?_eq_getElem hi⟩, fun x H' q => ?_⟩) fun σ H hp => ⟨⟨xs, hS _ σ H hp, Nat.le_refl _⟩, stop σ H hp⟩
  obtain ⟨T, y, rfl, hT, rfl, q⟩ := q
  exact go i y T σ H (q xs (hS i σ H hp)) hT hp
/-- for i in range -/
theorem for_rng {lo : Int} {n : Nat} (P : Nat → St → Hp → Prop) (h0 : P 0 σ H)
    (go : ∀ i σ H, i < n → P i σ H → g (.int (lo + i)) σ H fun σ2 H2 => tb { D with nx := P (i + 1), ct := P (i + 1), bk := D.nx } σ2 H2) (stop : ∀ σ H, P n σ H → D.nx σ H) :
    ∃ W : Nat → Nat → St → Hp → Prop, (∃ m, W 0 m σ H) ∧ ∀ i m σ H, W i m σ H →
      ((Itr lo n).stop i H ∧ D.nx σ H) ∨ ((Itr lo n).go i H ∧ ∃ N : St → Hp → Prop, (∀ σ' H', N σ' H' → ∃ m', m' < m ∧ W (i + 1) m' σ' H') ∧ ∀ x H', (Itr lo n).yld i H x H' → g x σ H' fun σ2 H2 => tb { D with nx := N, ct := N, bk := D.nx } σ2 H2) := by
  refine for_by n P h0 (fun i σ H hi hp => ⟨hi, fun x H' q => ?_⟩) fun σ H hp => ⟨Nat.le_refl _, stop σ H hp⟩
  obtain ⟨rfl, rfl⟩ := q
  exact go i σ H' hi hp
end

/-! ### comprehensions -/
section
variable {J : It} {g : TG} {tt : TT} {te : TE} {vs : List Nat} {σ : St} {H1 : Hp} {Q : VK}
/-- what tLc asks behind its iterator -/
def LcGo (J : It) (g : TG) (tt : TT) (te : TE) (vs : List Nat) (σ : St) (H1 : Hp) (Q : VK) : Prop := ∀ D, H1 D = none → ∃ W : Nat → Nat → Hp → Prop, (∃ m, W 0 m (upd H1 D (.lst []))) ∧ ∀ i m H, W i m H →
  (J.stop i H ∧ Q (.ref D) H) ∨ (J.go i H ∧ ∃ Nx : Hp → Prop, (∀ H', Nx H' → ∃ m', m' < m ∧ W (i + 1) m' H') ∧ ∀ x H', J.yld i H x H' → g x (wipe σ vs) H' fun σ2 H2 => wipe σ2 vs = wipe σ vs ∧ tt σ2 H2 fun b H3 =>
    if b = true then te σ2 H3 fun y H4 => ∃ acc, H4 D = some (.lst acc) ∧ acc.length < sizeLine ∧ Nx (upd H4 D (.lst (acc ++ [y]))) else Nx H3)
theorem lc1_i {ta : TA} {H : Hp} (h : ta σ H fun us H1 => ∃ j : Int, us = [.int j] ∧ -(2 ^ 62) ≤ j ∧ j < 2 ^ 62 ∧ LcGo (Itr 0 j.toNat) g tt te vs σ H1 Q) : tLc (iRng1 ta) g tt te vs σ H Q := h
theorem lcL_i {K : PySem.W.Frag} {tl : TE} {H : Hp} (h : tl σ H fun x H1 => ∃ a, x = .ref a ∧ (∃ xs, SqL K H1 a xs) ∧ LcGo (Itl K a) g tt te vs σ H1 Q) : tLc (iAny K tl) g tt te vs σ H Q := .inl h
theorem lc_by (n : Nat) (P : Addr → Nat → List V → Hp → Prop) (h0 : ∀ D, H1 D = none → P D 0 [] (upd H1 D (.lst [])))
    (go : ∀ D i acc H, H1 D = none → i < n → H D = some (.lst acc) → P D i acc H → J.go i H ∧ ∀ x H', J.yld i H x H' → g x (wipe σ vs) H' fun σ2 H2 => wipe σ2 vs = wipe σ vs ∧ tt σ2 H2 fun b H3 =>
      if b = true then te σ2 H3 fun y H4 => ∃ acc', H4 D = some (.lst acc') ∧ acc'.length < sizeLine ∧ P D (i + 1) (acc' ++ [y]) (upd H4 D (.lst (acc' ++ [y]))) else ∃ acc', H3 D = some (.lst acc') ∧ P D (i + 1) acc' H3)
    (stop : ∀ D acc H, H1 D = none → H D = some (.lst acc) → P D n acc H → J.stop n H ∧ Q (.ref D) H) (mg : ∀ (x : V) (σ : St) (H : Hp) (A B : St → Hp → Prop), (∀ σ H, A σ H → B σ H) → g x σ H A → g x σ H B) (mt : ∀ (σ : St) (H : Hp) (A B : Bool → Hp → Prop), (∀ b H, A b H → B b H) → tt σ H A → tt σ H B)
    (me : ∀ (σ : St) (H : Hp) (A B : VK), (∀ v H, A v H → B v H) → te σ H A → te σ H B) : LcGo J g tt te vs σ H1 Q := by
  intro D hD
  refine ⟨fun i m H => i ≤ n ∧ m = n - i ∧ ∃ acc, H D = some (.lst acc) ∧ P D i acc H, ⟨n, Nat.zero_le _, rfl, [], upd_same, h0 D hD⟩, fun i m H ⟨hi, hm, acc, ha, hp⟩ => ?_⟩
  by_cases e : i = n
  · subst e
    exact .inl (stop D acc H hD ha hp)
  · have lt : i < n := by omega
    obtain ⟨h1, h2⟩ := go D i acc H hD lt ha hp
    refine .inr ⟨h1, fun H' => ∃ acc, H' D = some (.lst acc) ∧ P D (i + 1) acc H', fun H' q => ⟨n - (i + 1), by omega, by omega, rfl, q⟩, fun x H' q => ?_⟩
    refine mg _ _ _ _ _ (fun σ2 H2 z => ⟨z.1, mt _ _ _ _ (fun b H3 y => ?_) z.2⟩) (h2 x H' q)
    cases b with
    | true =>
      refine (if_pos rfl).symm ▸ ?_
      exact me _ _ _ _ (fun v H4 ⟨acc', e1, e2, e3⟩ => ⟨acc', e1, e2, _, upd_same, e3⟩) ((if_pos rfl).symm ▸ y : te σ2 H3 _)
    | false => exact y
end
theorem wipe_one {σ : St} {v : Nat} {x : V} : wipe ((wipe σ [v]).set v (some x)) [v] = wipe σ [v] := by
  show (((σ.set v none).set v (some x)).set v none) = σ.set v none
  rw [List.set_set, List.set_set]
section
variable {K : PySem.W.Frag} {te : TE} {v : Nat} {σ : St} {H1 : Hp} {Q : VK}
/-- [e for v in range]: the values are known ahead; the heap grows -/
theorem lc_rng {lo : Int} {n : Nat} (ys : List V) (hl : ys.length = n) (hz : n ≤ sizeLine) (el : ∀ (i : Nat) (y : V) (H : Hp) (R : VK), ys[i]? = some y → Ext H1 H → (∀ H', Ext H H' → R y H') → te ((wipe σ [v]).set v (some (.int (lo + i)))) H R)
    (q : ∀ (D : Addr) (H : Hp), Ext H1 H → H1 D = none → H D = some (.lst ys) → Q (.ref D) H) : LcGo (Itr lo n) (gName v) tYes te [v] σ H1 Q := by
  intro D hD
  refine ⟨fun i m H => i ≤ n ∧ m = n - i ∧ Ext H1 H ∧ H D = some (.lst (ys.take i)), ⟨n, Nat.zero_le _, rfl, Ext.refl.new hD, upd_same⟩, fun i m H ⟨hi, hm, hx, ha⟩ => ?_⟩
  by_cases e : i = n
  · subst e
    refine .inl ⟨Nat.le_refl _, q D H hx hD ?_⟩
    rw [ha, ← hl, List.take_length]
  · have lt : i < n := by omega
    refine .inr ⟨lt, fun H' => Ext H1 H' ∧ H' D = some (.lst (ys.take (i + 1))), fun H' q => ⟨n - (i + 1), by omega, by omega, rfl, q.1, q.2⟩, fun x H' q => ?_⟩
    obtain ⟨rfl, rfl⟩ := q
    refine ⟨wipe_one, ?_⟩
    refine el i ys[i] H' _ (List.getElem?_eq_getElem (by omega)) hx fun H4 x4 => ⟨ys.take i, x4 _ _ ha, by rw [List.length_take]; omega, (hx.trans x4).put hD, ?_⟩
    rw [upd_same, List.take_succ, List.getElem?_eq_getElem (by omega : i < ys.length)]
    rfl
/-- [e for v in l] -/
theorem lc_lst {a : Addr} {xs : List V} (ys : List V) (hl : ys.length = xs.length) (hz : xs.length ≤ sizeLine) (hS : SqL K H1 a xs) (el : ∀ (i : Nat) (x y : V) (H : Hp) (R : VK), xs[i]? = some x → ys[i]? = some y → Ext H1 H → (∀ H', Ext H H' → R y H') → te ((wipe σ [v]).set v (some x)) H R)
    (q : ∀ (D : Addr) (H : Hp), Ext H1 H → H1 D = none → H D = some (.lst ys) → Q (.ref D) H) : LcGo (Itl K a) (gName v) tYes te [v] σ H1 Q := by
  intro D hD
  refine ⟨fun i m H => i ≤ xs.length ∧ m = xs.length - i ∧ Ext H1 H ∧ H D = some (.lst (ys.take i)), ⟨xs.length, Nat.zero_le _, rfl, Ext.refl.new hD, upd_same⟩, fun i m H ⟨hi, hm, hx, ha⟩ => ?_⟩
  by_cases e : i = xs.length
  · subst e
    refine .inl ⟨⟨xs, hx.sqL hS, Nat.le_refl _⟩, q D H hx hD ?_⟩
    rw [ha, ← hl, List.take_length]
  · have lt : i < xs.length := by omega
    refine .inr ⟨⟨xs, xs[i], hx.sqL hS, List.getElem?_eq_getElem lt⟩, fun H' => Ext H1 H' ∧ H' D = some (.lst (ys.take (i + 1))), fun H' q => ⟨xs.length - (i + 1), by omega, by omega, rfl, q.1, q.2⟩, fun x H' q => ?_⟩
    obtain ⟨rfl, q⟩ := q
    refine ⟨wipe_one, ?_⟩
    refine el i x ys[i] H' _ (q xs (hx.sqL hS)) (List.getElem?_eq_getElem (by omega)) hx fun H4 x4 => ⟨ys.take i, x4 _ _ ha, by rw [List.length_take]; omega, (hx.trans x4).put hD, ?_⟩
    rw [upd_same, List.take_succ, List.getElem?_eq_getElem (by omega : i < ys.length)]
    rfl
end

/-! ### data that can be shown -/
def Shw (d : PyData) (n B : Nat) : Prop := d.showable = true ∧ d.depth ≤ n ∧ d.shown.length ≤ B
theorem showAll_of : ∀ {ds : List PyData}, (∀ d ∈ ds, d.showable = true) → PyData.showableAll ds = true
  | [], _ => rfl
  | d :: ds, h => by
    show (d.showable && PyData.showableAll ds) = true
    rw [h d List.mem_cons_self, showAll_of fun e he => h e (List.mem_cons_of_mem _ he)]
    rfl
theorem depthAll_of {n : Nat} : ∀ {ds : List PyData}, (∀ d ∈ ds, d.depth ≤ n) → PyData.depthAll ds ≤ n
  | [], _ => Nat.zero_le _
  | d :: ds, h => Nat.max_le.mpr ⟨h d List.mem_cons_self, depthAll_of fun e he => h e (List.mem_cons_of_mem _ he)⟩
theorem sum_le {B : Nat} : ∀ {ns : List Nat}, (∀ n ∈ ns, n ≤ B) → ns.sum ≤ B * ns.length
  | [], _ => Nat.zero_le _
  | n :: ns, h => by
    have h1 := h n List.mem_cons_self
    have h2 := sum_le fun e he => h e (List.mem_cons_of_mem _ he)
    rw [List.sum_cons, List.length_cons, Nat.mul_succ]
    omega
theorem Shw.list {ds : List PyData} {n B : Nat} (h : ∀ d ∈ ds, Shw d n B) : Shw (.list ds) (n + 1) ((B + 2) * ds.length + 3) := by
  refine ⟨showAll_of fun d hd => (h d hd).1, Nat.succ_le_succ (depthAll_of fun d hd => (h d hd).2.1), ?_⟩
  have e : (PyData.list ds).shown = listText (PyData.shownAll ds) := by simp only [PyData.shown]
  rw [e, shownAll_eq_map]
  refine Nat.le_trans (listText_len_le _) ?_
  have s := sum_le (B := B) (ns := (ds.map PyData.shown).map (·.length)) fun n hn => by
    obtain ⟨t, ht, rfl⟩ := List.mem_map.mp hn
    obtain ⟨d, hd, rfl⟩ := List.mem_map.mp ht
    exact (h d hd).2.2
  simp only [List.length_map] at s ⊢
  have e2 : (B + 2) * ds.length = B * ds.length + 2 * ds.length := Nat.add_mul _ _ _
  omega
theorem Shw.mono {d : PyData} {n m B C : Nat} (h : Shw d n B) (h1 : n ≤ m) (h2 : B ≤ C) : Shw d m C := ⟨h.1, Nat.le_trans h.2.1 h1, Nat.le_trans h.2.2 h2⟩
theorem repr_ok {K : PySem.W.Frag} {H : Hp} {Q : VK} {v : V} {d : PyData} {n B : Nat} (h : Dt K H v d) (s : Shw d n B) (hn : n ≤ 100) (hB : B ≤ sizeLine) (q : Q (.str d.shown) H) : rRepr K [v] H Q := ⟨v, d, rfl, h, s.1, Nat.le_trans s.2.1 hn, Nat.le_trans s.2.2 hB, q⟩
end AS

set_option Elab.async false
set_option linter.all false
set_option maxRecDepth 100000
set_option maxHeartbeats 4000000
/-! X5: own exceptions made, by their fields. -/
namespace AS
open PySem PySem.Spec PyProof.Rows L2

/-- a reading of arguments, closed under weaker wishes -/
def tUp (t : TA) : TA := fun σ H R => ∃ R' : List V → Hp → Prop, t σ H R' ∧ ∀ vs H, R' vs H → R vs H
theorem pa_up {X : Cx} {es : List Expr} {t : TA} (h : PA X es t) : PA X es (tUp t) := ⟨fun pos pins s σ H R I ⟨R', q, i⟩ => wpAny_mono (h.run pos pins s σ H R' I q) (fun us s' ⟨vs, H', J, r, z⟩ => ⟨vs, H', J, r, i vs H' z⟩) fun _ _ x => x⟩
theorem pk_up {X : Cx} {es : List Keyword} {t : TA} (h : PK X es t) : PK X es (tUp t) := ⟨fun pos pins s σ H R I ⟨R', q, i⟩ => wpAny_mono (h.run pos pins s σ H R' I q) (fun us s' ⟨vs, H', J, r, z⟩ => ⟨vs, H', J, r, i vs H' z⟩) fun _ _ x => x⟩
theorem CallE.imp {S : Sys} {k : Nat} {n : Str} {sp sp' : Sp} (h : CallE S k n sp) (i : ∀ vs H Q E, sp' vs H Q E → sp vs H Q E) : CallE S k n sp' := fun N X x L hc es t p pos hg hb hpl ha =>
  pe_imp (h N X x L hc es (tUp t) p pos hg hb hpl (pa_up ha)) fun σ H Q q => ⟨_, q, fun vs H1 z => i vs H1 Q _ z⟩
theorem CallKE.imp {S : Sys} {k : Nat} {n : Str} {ks : List Str} {sp sp' : SpK} (h : CallKE S k n ks sp) (i : ∀ vs zs H Q E, sp' vs zs H Q E → sp vs zs H Q E) : CallKE S k n ks sp' := fun N X x L hc es kws t tk p pos hg hb hpl hks ha hk =>
  pe_imp (h N X x L hc es kws (tUp t) (tUp tk) p pos hg hb hpl hks (pa_up ha) (pk_up hk)) fun σ H Q q => ⟨_, q, fun vs H1 z => ⟨_, z, fun zs H2 z => i vs zs H2 Q _ z⟩⟩
/-- an exception at a: its class, its fields -/
def IsX (H : Hp) (a C : Addr) (l : List (Str × V)) : Prop := (l = [] ∧ H a = some (exo a C none)) ∨ ∃ (d : Addr) (gs : List (Str × V)), H a = some (exo a C (some d)) ∧ H d = some (exd d gs) ∧ ∀ p ∈ l, gs.lookup p.1 = some p.2
theorem IsX.ext {H H' : Hp} {a C : Addr} {l : List (Str × V)} (x : Ext H H') (h : IsX H a C l) : IsX H' a C l := by
  rcases h with ⟨e, h⟩ | ⟨d, gs, h1, h2, h3⟩
  · exact .inl ⟨e, x _ _ h⟩
  · exact .inr ⟨d, gs, x _ _ h1, x _ _ h2, h3⟩
/-- self.f = v, one behind the other -/
def putsX (K : PySem.W.Frag) (x : V) : List (Str × V) → Hp → (Hp → Prop) → Prop
  | [], H, Q => Q H
  | (f, v) :: r, H, Q => rSatX K f x v H fun H' => putsX K x r H' Q
def sp_init (K : PySem.W.Frag) (fs : List Str) : Sp := fun vs H Q _ => ∃ x us, vs = x :: us ∧ us.length = fs.length ∧ putsX K x (fs.zip us) H fun H' => Q .non H'
/-- C(..) gives a new exception with these fields -/
def sp_mk (C : Addr) (fs : List Str) : Sp := fun vs H Q _ => vs.length = fs.length ∧ ∀ (a : Addr) (H' : Hp), H a = none → Ext H H' → IsX H' a C (fs.zip vs) → Q (.ref a) H'
section
variable {K : PySem.W.Frag} {C a : Addr} {b : Bk} {H : Hp}
theorem puts_more (T : ExcC K C b) {d : Addr} (hd : H d = none) {Q : Hp → Prop} : ∀ (l : List (Str × V)) (H1 : Hp) (gs : List (Str × V)), Ext H H1 → H1 a = some (exo a C (some d)) → a ≠ d → H1 d = some (exd d gs) → gs.length + l.length ≤ 900 → (∀ p ∈ l, PySem.W.findIn K (.ref C) p.1 = some none) → (l.map (·.1)).Nodup →
    (∀ (H' : Hp) (gs' : List (Str × V)), Ext H H' → H' a = some (exo a C (some d)) → H' d = some (exd d gs') → (∀ p ∈ l, gs'.lookup p.1 = some p.2) → (∀ q v, q ∉ l.map (·.1) → gs.lookup q = some v → gs'.lookup q = some v) → Q H') → putsX K (.ref a) l H1 Q
  | [], H1, gs, x, h1, ne, h2, hz, hn, nd, k => k H1 gs x h1 h2 (fun p hp => nomatch hp) fun q v _ e => e
  | (f, v) :: r, H1, gs, x, h1, ne, h2, hz, hn, nd, k => by
    obtain ⟨n1, n2⟩ := List.nodup_cons.mp nd
    refine ⟨a, C, b, rfl, T, hn _ List.mem_cons_self, .inr ⟨d, gs, h1, h2, by simp only [List.length_cons] at hz; omega, ?_⟩⟩
    refine puts_more T hd r _ ((f, v) :: gs) (x.put hd) (by rw [upd_ne ne]; exact h1) ne upd_same (by simp only [List.length_cons] at hz ⊢; omega) (fun p hp => hn p (List.mem_cons_of_mem _ hp)) n2 fun H' gs' x' e1 e2 e3 e4 => ?_
    refine k H' gs' x' e1 e2 (fun p hp => ?_) fun q w hq e => ?_
    · rcases List.mem_cons.mp hp with rfl | hp
      · exact e4 f v n1 (by rw [List.lookup_cons, beq_self_eq_true])
      · exact e3 p hp
    · have hq' : q ≠ f ∧ q ∉ r.map (·.1) := by
        have z : q ∉ f :: r.map (·.1) := hq
        exact ⟨fun y => z (by rw [y]; exact List.mem_cons_self), fun y => z (List.mem_cons_of_mem _ y)⟩
      exact e4 q w hq'.2 (by rw [List.lookup_cons, beq_eq_false_iff_ne.mpr hq'.1]; exact e)
theorem puts_all (T : ExcC K C b) (ha : H a = none) {Q : Hp → Prop} {l : List (Str × V)} (hz : l.length ≤ 900) (hn : ∀ p ∈ l, PySem.W.findIn K (.ref C) p.1 = some none) (nd : (l.map (·.1)).Nodup) (k : ∀ H' : Hp, Ext H H' → IsX H' a C l → Q H') : putsX K (.ref a) l (upd H a (exo a C none)) Q := by
  cases l with
  | nil => exact k _ (Ext.refl.new ha) (.inl ⟨rfl, upd_same⟩)
  | cons p r =>
    obtain ⟨f, v⟩ := p
    obtain ⟨n1, n2⟩ := List.nodup_cons.mp nd
    refine ⟨a, C, b, rfl, T, hn _ List.mem_cons_self, .inl ⟨upd_same, fun d hd nda => ?_⟩⟩
    rw [upd_ne nda] at hd
    refine puts_more T hd r _ [(f, v)] (((Ext.refl.new ha).put hd).put ha) upd_same (fun z => nda z.symm) (by rw [upd_ne nda]; exact upd_same) (by simp only [List.length_cons, List.length_nil] at hz ⊢; omega) (fun p hp => hn p (List.mem_cons_of_mem _ hp)) n2 fun H' gs' x' e1 e2 e3 e4 => ?_
    refine k H' x' (.inr ⟨d, gs', e1, e2, fun p hp => ?_⟩)
    rcases List.mem_cons.mp hp with rfl | hp
    · exact e4 f v n1 (by rw [List.lookup_cons, beq_self_eq_true])
    · exact e3 p hp
/-- the promise of the call, by that of __init__ -/
theorem mk_of {fs : List Str} (T : ExcC K C b) (hz : fs.length ≤ 900) (hn : ∀ f ∈ fs, PySem.W.findIn K (.ref C) f = some none) (nd : fs.Nodup) {vs : List V} {H : Hp} {Q : VK} {E : XK} (h : sp_mk C fs vs H Q E) : mkX C (sp_init K fs) vs H Q E := by
  obtain ⟨hl, h⟩ := h
  refine ⟨by omega, fun a ha => ⟨.ref a, vs, rfl, hl, ?_⟩⟩
  have em : (fs.zip vs).map (·.1) = fs := List.map_fst_zip (by omega)
  refine puts_all T ha (by rw [List.length_zip]; omega) (fun p hp => hn _ (List.of_mem_zip hp).1) (by rw [em]; exact nd) fun H' x' i => ⟨rfl, h a H' ha x' i⟩
end

/-! ### the class as the text has it -/
structure XC where
  nm : Str
  b : Bk
  fs : List Str
  deriving DecidableEq
def XC.C (x : XC) (K : PySem.W.Frag) : Addr := He.ga K x.nm
def XC.I (x : XC) (K : PySem.W.Frag) : Addr := He.ma K (x.C K) "__init__"
def XC.ok (K : PySem.W.Frag) (x : XC) : Bool := excB K (x.C K) x.b && (He.eqO (PySem.W.nsIn K mainGlobals x.nm) (some (some (.ref (x.C K)))) && (He.eqO (PySem.W.findIn K (.ref (x.C K)) "__init__") (some (some (.ref (x.I K)))) && (decide (PySem.W.typeIn K (.ref (x.I K)) = some (.type "function")) &&
  x.fs.all fun f => He.eqO (PySem.W.findIn K (.ref (x.C K)) f) (some none))))
/-- a class without an __init__ of its own -/
def XC.ok0 (K : PySem.W.Frag) (x : XC) : Bool := excB K (x.C K) x.b && (He.eqO (PySem.W.nsIn K mainGlobals x.nm) (some (some (.ref (x.C K)))) && PySem.W.excIn K (x.C K) x.b.mro x.b.newId)
structure XOk (K : PySem.W.Frag) (x : XC) : Prop where
  T : ExcC K (x.C K) x.b
  ns : PySem.W.nsIn K mainGlobals x.nm = some (some (.ref (x.C K)))
  hi : PySem.W.findIn K (.ref (x.C K)) "__init__" = some (some (.ref (x.I K)))
  ht : PySem.W.typeIn K (.ref (x.I K)) = some (.type "function")
  no : ∀ f ∈ x.fs, PySem.W.findIn K (.ref (x.C K)) f = some none
theorem XC.ok_of {K : PySem.W.Frag} {x : XC} (h : x.ok K = true) : XOk K x := by
  obtain ⟨h1, h⟩ := b2 h
  obtain ⟨h2, h⟩ := b2 h
  obtain ⟨h3, h⟩ := b2 h
  obtain ⟨h4, h⟩ := b2 h
  exact ⟨excB_ok h1, He.eqO_ok h2, He.eqO_ok h3, of_decide_eq_true h4, fun f hf => He.eqO_ok (List.all_eq_true.mp h f hf)⟩

section
variable {S : Sys} {k : Nat}
/-- C(e, ..) -/
theorem ent_xc {x : XC} {fd : FuncData} {j : Nat} (X : XOk S.K x) (F : FnB S j (x.I S.K) fd ("self" :: x.fs) (sp_init S.K x.fs)) (hj : j + 1 ≤ k) (hm : S.mg x.nm = some (.ref (x.C S.K))) (nd : x.fs.Nodup) (hz : x.fs.length ≤ 900)
    (hb : ∀ (s : Shared) (us : List Value), us.length = ("self" :: x.fs : List Str).length → BindsTo s fd ⟨us, []⟩ (("self" :: x.fs : List Str).zip us)) : CallE S k x.nm (sp_mk (x.C S.K) x.fs) :=
  (ent_mkX (ps := "self" :: x.fs) X.T F hj hm X.hi X.ht (fun s e us hl => hb s (e :: us) (by simpa using hl)) fun vs H Q E ⟨y, us, e, hl, _⟩ => by rw [e]; simp [hl]).imp fun vs H Q E h => mk_of X.T hz X.no nd h
def sp_mkK (C : Addr) (fs : List Str) (arr : List V → List V) : SpK := fun vs zs H Q E => vs = [] ∧ zs.length = fs.length ∧ sp_mk C fs (arr zs) H Q E
/-- C(f = e, ..) -/
theorem ent_xcK {x : XC} {fd : FuncData} {j : Nat} {ks : List Str} (arr : {α : Type} → List α → List α) (X : XOk S.K x) (F : FnB S j (x.I S.K) fd ("self" :: x.fs) (sp_init S.K x.fs)) (hj : j + 1 ≤ k) (hm : S.mg x.nm = some (.ref (x.C S.K))) (nd : x.fs.Nodup) (hz : x.fs.length ≤ 900) (hk : ks.length = x.fs.length)
    (hb : ∀ (s : Shared) (e : Value) (ws : List Value), ws.length = ks.length → BindsTo s fd ⟨[e], ks.zip ws⟩ (("self" :: x.fs : List Str).zip (e :: arr ws))) (hv : ∀ (zs : List V) (ws : List Value), Vals zs ws → zs.length = ks.length → Vals (arr zs) (arr ws)) : CallKE S k x.nm ks (sp_mkK (x.C S.K) x.fs arr) :=
  (ent_mkXK (ps := "self" :: x.fs) arr X.T F hj hm X.hi X.ht hb hv).imp fun vs zs H Q E h => ⟨h.1, by rw [hk]; exact h.2.1, mk_of X.T hz X.no nd h.2.2⟩
/-- C(), no __init__ of its own -/
theorem ent_xc0 {x : XC} (T : ExcC S.K (x.C S.K) x.b) (q : PySem.W.excIn S.K (x.C S.K) x.b.mro x.b.newId = true) (hm : S.mg x.nm = some (.ref (x.C S.K))) : CallE S k x.nm (sp_mk (x.C S.K) []) := by
  intro N X y L hc es t p pos hg hbn hpl ha
  have hm' : X.mg x.nm = some (.ref (x.C S.K)) := by rw [L.hm]; exact hm
  have hk' : PySem.W.keepIn X.K (.ref (x.C S.K)) = true := by rw [L.hK]; exact T.kp
  have q' : PySem.W.excIn X.K (x.C S.K) x.b.mro x.b.newId = true := by rw [L.hK]; exact q
  have go : ∀ {pins : List (Addr × Obj)} {σ : St} {H : Hp} {s : Shared} {Q : VK} {E : XK} {us : List Value} {vs : List V}, Inv X pins σ H s → Vals vs us → sp_mk (x.C S.K) [] vs H Q E → wpAny (model X.prog X.w) X.A (call (.ref (x.C S.K)) us) (EP X pins σ Q) X.xe s := by
    intro pins σ H s Q E us vs I r h
    obtain ⟨hl, h⟩ := h
    have ev : vs = [] := List.eq_nil_of_length_eq_zero hl
    subst ev
    cases r
    obtain ⟨hp, g, d, t, os⟩ := s
    obtain ⟨bm, N, nm, qn, bs, hdct, sn, sub, ab, col, dd, k0, k1, k2, k3, k5, mN, hC, hN, hni, T⟩ := exc_obj I.kIn q'
    refine wpAny_call_exc_subT x.b.fb T hC hN hni (fun h' a hm => ?_) (by show 0 ≤ sizeLine; omega)
    have hn : H a = none := I.hok.gone hm.new
    obtain ⟨t1, ht, _, _⟩ := hm.there
    exact ⟨.ref a, upd H a (exo a (x.C S.K) none), I.laidN hm.keeps hm.new hn (exo_ok ht), rfl, h a _ hn (Ext.refl.new hn) (.inl ⟨rfl, upd_same⟩)⟩
  refine ⟨fun pins s σ H Q I h => ?_⟩
  refine wpAny_Call_Name_kw (ld_glob I hg hm' ?_ (badName_no hbn).1)
  cases es with
  | nil =>
    refine PySem.W.callWith_K0 I.kIn hk' ?_
    have h1 : wpAny (model X.prog X.w) X.A (spliced (backTo pos (starEach [] X.env)) >>= fun us => call (.ref (x.C S.K)) us) (EP X pins σ Q) X.xe s :=
      wpAny_bind (thn (ha.run pos pins s σ H _ I h) fun us s1 ⟨vs, H1, I1, r, q⟩ => go I1 r q)
    exact h1
  | cons e es =>
    obtain ⟨h1, h2⟩ := b2 (show (plainA e && es.all plainA) = true from hpl)
    exact PySem.W.callWith_K (h₀ := X.base) I.ok.mod.kin hk' (thn (ha.run pos pins s σ H _ I h) fun us s1 ⟨vs, H1, I1, r, q⟩ => ⟨I1.kIn, go I1 r q⟩) (star_one h1) (star_all h2)
end
end AS

set_option Elab.async false
set_option linter.all false
set_option maxRecDepth 100000
set_option maxHeartbeats 4000000
/-! E10: instances of own classes: methods. -/
namespace AS
open PySem PySem.Spec PyProof.Rows L2
/-- o.m(..): the method, then the call -/
theorem meth_call {prog : Program} {w : World} {A : Around} {E : Value → Shared → Prop} {s : Shared} {env : Env} {o : Expr} {name : Str} {apos pos : Pos} {args : List Expr} {Q : Value → Shared → Prop} (hbase : attributeBase o name env (eval o env) = eval o env) (hpl : args.all plainA = true) (hlen : args.length < 25) (hline : (apos.endLine == pos.line) = true)
    (h : wpAny (model prog w) A (eval o env) (fun ov s1 => ∀ pl : Sem Bool, wpAny (model prog w) A (getMethod ov name pl) (fun q s2 => wpAny (model prog w) A (callWith pos q.1 q.2 (backTo pos (starEach args env)) (backToKw pos (keywordEach [] env))) Q E s2) E s1) E s) :
    wpAny (model prog w) A (eval (.Call (.Attribute o name apos) args [] pos) env) Q E s := by
  rw [arm_eval_Call, hbase]
  refine wpAny_bind (wpAny_mono h (fun ov s1 h1 => ?_) fun _ _ e => e)
  refine wpAny_bind (wpAny_standAt ?_)
  have hform : methodCallForm (args.length + ([] : List Keyword).length) (backTo pos (starEach args env)) (backToKw pos (keywordEach [] env)) = true := by
    show ((backTo pos (starEach args env)).all (fun x => !x.1) && (backToKw pos (keywordEach [] env)).all (fun x => x.1.isSome) && decide (args.length + ([] : List Keyword).length + (if ([] : List Keyword).isEmpty then 0 else 1) < 30)) = true
    rw [bk_any hpl]
    have d : decide (args.length + ([] : List Keyword).length + (if ([] : List Keyword).isEmpty then 0 else 1) < 30) = true := decide_eq_true (by show args.length + 0 + 0 < 30; omega)
    rw [d]
    rfl
  have hpos : methodCallPos true o env apos pos = pure pos := by unfold methodCallPos; simp [hline]
  unfold methodCall
  rw [hform]
  refine wpAny_bind (wpAny_holding (wpAny_mono (h1 _) (fun q s2 h2 => ?_) fun _ _ e => e))
  exact wpAny_bind (wpAny_of_eq hpos h2)
section
variable {S : Sys} {k : Nat}
/-- an instance of C that has no such field of its own -/
def insRc (C : Addr) (m : Str) : Rc := fun x H => ∃ a dx fs, x = .ref a ∧ H a = some (.ins C dx fs) ∧ fs.lookup m = none
theorem ent_meth {C f : Addr} {m : Str} {j : Nat} {sp : Sp} (c : Cls S.K C) (hm : Meth S.K C m f) (F : FnG S j f sp) (hj : j ≤ k) : MtE S k m (insRc C m, sp) := by
  intro N X x L hc o es to t p pos hs hpl hline hlen ho ha
  refine ⟨fun pins s σ H Q I h => ?_⟩
  refine meth_call (sup_no hs) hpl hlen hline (thn (ho.run pins s σ H _ I h) fun u s1 ⟨y, H1, I1, ry, ⟨a, dx, fs, ey, ea, l⟩, q1⟩ pl => ?_)
  subst ey
  obtain rfl : u = Value.ref a := ry
  have c' : Cls X.K C := by rw [L.hK]; exact c
  have hm' : Meth X.K C m f := by rw [L.hK]; exact hm
  refine getmeth_ok I1 ea c' hm' l ?_
  cases es with
  | nil =>
    refine PySem.W.callWith_K0 (first := [.ref a]) I1.kIn hm'.kp ?_
    have h3 : wpAny (model X.prog X.w) X.A (spliced (backTo pos (starEach [] X.env)) >>= fun us => call (.ref f) (.ref a :: us)) (EP X pins σ Q) X.xe s1 :=
      wpAny_bind (thn (ha.run pos pins s1 σ H1 _ I1 q1) fun us s2 ⟨vs, H2, I2, rv, q⟩ => run_fnG (us := .ref a :: us) (vs := .ref a :: vs) L hc F hj I2 (.cons rfl rv) q)
    exact h3
  | cons e es =>
    obtain ⟨h1, h2⟩ := b2 (show (plainA e && es.all plainA) = true from hpl)
    exact PySem.W.callWith_K (first := [.ref a]) (h₀ := X.base) I.ok.mod.kin hm'.kp (thn (ha.run pos pins s1 σ H1 _ I1 q1) fun us s2 ⟨vs, H2, I2, rv, q⟩ => ⟨I2.kIn, run_fnG (us := .ref a :: us) (vs := .ref a :: vs) L hc F hj I2 (.cons rfl rv) q⟩) (star_one h1) (star_all h2)
/-- o.f, a field -/
@[irreducible] def rAttI (K : PySem.W.Frag) (f : Str) : V → Hp → VK → XK → Prop := fun x H Q _ => ∃ (a C dx : Addr) (fs : List (Str × V)) (v : V), x = .ref a ∧ Cls K C ∧ NoAttr K C f ∧ H a = some (.ins C dx fs) ∧ fs.lookup f = some v ∧ Q v H
theorem ent_att {f : Str} : AttE S k f (rAttI S.K f) := by
  intro N X x L hc o to p hs ho
  refine ⟨fun pins s σ H Q I h => ?_⟩
  refine attr_of (sup_no hs) (thn (ho.run pins s σ H _ I h) fun u s1 ⟨y, H1, I1, ry, hh⟩ => ?_)
  unfold rAttI at hh
  obtain ⟨a, C, dx, fs, v, rfl, c, n, ea, l, q⟩ := hh
  obtain rfl : u = Value.ref a := ry
  rw [← L.hK] at c n
  exact getattr_ok I1 ea c n l fun u s2 I2 ru => ⟨v, H1, I2, ru, q⟩
/-- o.f = v -/
@[irreducible] def rSatI (K : PySem.W.Frag) (f : Str) : V → V → Hp → (Hp → Prop) → Prop := fun x y H Q => ∃ (a C dx : Addr) (fs : List (Str × V)), x = .ref a ∧ Cls K C ∧ NoAttr K C f ∧ H a = some (.ins C dx fs) ∧ fs.length < 1000 ∧ Q (upd H a (.ins C dx (putF f y fs)))
theorem ent_sat {f : Str} : SatE S k f (rSatI S.K f) := by
  intro N X x L hc pins s σ H y v ov u Q I rx ry h
  unfold rSatI at h
  obtain ⟨a, C, dx, fs, rfl, c, n, ea, hl, q⟩ := h
  cases rx
  rw [← L.hK] at c n
  exact setattr_ok I ea c n hl ry fun s2 I2 => ⟨_, I2, q⟩
/-- o.f, a property: its getter is called -/
def rProp (C : Addr) (sp : Sp) : V → Hp → VK → XK → Prop := fun x H Q E => ∃ a dx fs, x = .ref a ∧ H a = some (.ins C dx fs) ∧ sp [.ref a] H Q fun _ _ _ => False
theorem RoomG.in1 {k : Nat} {A : Around} (r : RoomG (k + 1) A) : RoomG k A.in1 := ⟨r.r.in1, by
  have e := r.g
  first | exact e | (simpa [Around.in1, Code.guards, Code.isGuard, guardIds, pushGuards] using e)⟩
theorem ent_prop {C p g : Addr} {f : Str} {j : Nat} {sp : Sp} (c : Cls S.K C) (hp : PropOf S.K C f p g) (F : FnG S j g sp) (hj : j + 1 ≤ k) : AttE S k f (rProp C sp) := by
  intro N X x L hc o to pp hs ho
  refine ⟨fun pins s σ H Q I h => ?_⟩
  refine attr_of (sup_no hs) (thn (ho.run pins s σ H _ I h) fun u s1 ⟨y, H1, I1, ry, a, dx, fs, ey, ea, q⟩ => ?_)
  subst ey
  obtain rfl : u = Value.ref a := ry
  have c' : Cls X.K C := by rw [L.hK]; exact c
  have hp' : PropOf X.K C f p g := by rw [L.hK]; exact hp
  obtain ⟨mA, O, _, _, _, _⟩ := ins_get I1.hok ea
  obtain ⟨od, J, _⟩ := O.look
  obtain ⟨rest, hrec⟩ := hp'.rec_
  have I2 := I1.tok (s1.toks + 1)
  have hcl : (PySem.W.clsIn X.K C).isSome = true := by
    obtain ⟨cd, e, _⟩ := PySem.W.any_some c'.hd
    rw [e]
    rfl
  have rm := (L.roomG hc I2 hj).in1
  refine PySem.W.get_bind I1.kIn J (PySem.W.plainGet_of (c'.get f)).1 (PySem.W.findObj_data hcl hp'.at_ hp'.get hp'.tak) (PySem.W.plainGet_of (c'.get f)).2 (wpAny_call (PySem.W.prop_get (s := { s1 with toks := s1.toks + 1 }) I1.kIn hrec ?_))
  have run := F X.A.in1 X.stack { s1 with toks := s1.toks + 1 } H1 [.ref a] [.ref a] Q _ rm ((L.env0 I2).in1) (.cons rfl .nil) q
  rw [← L.hP, ← L.hw] at run
  refine codeAny_mono run fun r s' hq => ?_
  rw [L.hP, L.hw] at hq
  cases r with
  | error er =>
    obtain ⟨_, _, _, _, _, _, _, _, _, _, _, _, z⟩ := (show L2.CX S.P S.w X.stack H1 { s1 with toks := s1.toks + 1 } (fun _ _ _ => False) er s' from hq)
    exact False.elim z
  | ok fl =>
    cases fl with
    | ret u =>
      have z := L.back (r := .ok (.ret u)) I2 (show CR (L2.CX S.P S.w) X.stack S.P S.w H1 { s1 with toks := s1.toks + 1 } Q (fun c d H' => x.W c d σ H') (.ok (.ret u)) s' from hq)
      obtain ⟨v, H', I3, rv, q3⟩ := z
      show wpAny _ _ (handedOut u) _ _ _
      rw [PySem.W.handedOut_of (handed_of rv)]
      exact wpAny_pure ⟨v, H', I3, rv, q3⟩
    | _ => exact False.elim hq
end
end AS

set_option Elab.async false
set_option linter.all false
set_option maxRecDepth 100000
set_option maxHeartbeats 4000000
/-! E11: C(..), C an own class with an __init__. -/
namespace AS
open PySem PySem.Spec PyProof.Rows L2
/-- a new instance, then its __init__ -/
def mkI (C : Addr) (sp : Sp) : Sp := fun vs H Q E => ∀ a dx, H a = none → H dx = none → dx ≠ a → sp (.ref a :: vs) (upd (upd H dx (.own a)) a (.ins C dx [])) (fun v H2 => v = .non ∧ Q (.ref a) H2) E
section
variable {S : Sys} {k : Nat} {N : List Str} {X : Cx} {x : Ctx}
theorem run_mkI {C f : Addr} {fd : FuncData} {ps : List Str} {sp : Sp} {j : Nat} {rest : List Value} {us : List Value} {vs : List V} {pins : List (Addr × Obj)} {σ : St} {H : Hp} {s : Shared} {Q : VK} (L : Like S k N X x) (hc : x.c = true) (M : Mk S.K C f) (F : FnB S j f fd ps sp) (hj : j + 1 ≤ k)
    (hb : ∀ (s : Shared) (e : Value), S.K.In s.heap → BindsTo s fd ⟨e :: rest, []⟩ (ps.zip (e :: us))) (I : Inv X pins σ H s) (r : Vals vs us) (h : mkI C sp vs H Q fun c d H' => x.W c d σ H') : wpAny (model X.prog X.w) X.A (call (.ref C) rest) (EP X pins σ Q) X.xe s := by
  have M' : Mk X.K C f := by rw [L.hK]; exact M
  have hq := h (s.heap.objs.size + 1) s.heap.objs.size (I.hok.fresh (Nat.le_succ _)) (I.hok.fresh (Nat.le_refl _)) (Nat.ne_of_lt (Nat.lt_succ_self _))
  have I2 := Inv.made (C := C) I
  have rm := L.roomG hc I hj
  have kin := I2.kIn
  rw [L.hK] at kin
  refine wpAny_call (make_map (f := f) I.kIn M'.makes M'.init (beq_iff_eq.mp M'.fn) ?_)
  have run := F (X.A.under (.builtin "type.__call__" ⟨.ref C :: rest, []⟩)) X.stack _ _ ⟨.ref (s.heap.objs.size + 1) :: rest, []⟩ (.ref (s.heap.objs.size + 1) :: us) (.ref (s.heap.objs.size + 1) :: vs) _ _ ⟨rm.r.make C rest [], ?_⟩ ((L.env0 I2).make C rest []) (hb _ _ kin) (.cons rfl r) hq
  · rw [← L.hP, ← L.hw] at run
    refine codeAny_mono run fun r s' z => ?_
    rw [L.hP, L.hw] at z
    have z2 := L.back I2 z
    cases r with
    | error e => exact z2
    | ok fl =>
      cases fl with
      | ret u =>
        obtain ⟨v, H', I3, rv, ev, q3⟩ := z2
        subst ev
        exact ⟨rv, ⟨V.ref (s.heap.objs.size + 1), H', I3, rfl, q3⟩⟩
      | _ => exact z2.elim
  · have e := rm.g
    first | exact e | (simpa [Around.under, Code.guards, Code.isGuard, guardIds, pushGuards] using e)
end
section
variable {S : Sys} {k : Nat}
/-- a value that is called keeps a promise -/
def Runs (S : Sys) (k : Nat) (f : Addr) (sp : Sp) : Prop := PySem.W.keepIn S.K (.ref f) = true ∧ ∀ (N : List Str) (X : Cx) (x : Ctx), Like S k N X x → x.c = true → RunsX X x.W f sp
theorem Runs.cv {f : Addr} {sp : Sp} (R : Runs S k f sp) : CvE S k (.ref f) sp := ⟨f, rfl, R.1, R.2⟩
theorem Runs.imp {f : Addr} {sp sp' : Sp} (R : Runs S k f sp) (i : ∀ vs H Q E, sp' vs H Q E → sp vs H Q E) : Runs S k f sp' := ⟨R.1, fun N X x L hc pins s σ H us vs Q I r h => R.2 N X x L hc pins s σ H us vs Q I r (i _ _ _ _ h)⟩
theorem Runs.or {f : Addr} {sp sp' : Sp} (R : Runs S k f sp) (R' : Runs S k f sp') : Runs S k f (fun vs H Q E => sp vs H Q E ∨ sp' vs H Q E) :=
  ⟨R.1, fun N X x L hc pins s σ H us vs Q I r h => h.elim (R.2 N X x L hc pins s σ H us vs Q I r) (R'.2 N X x L hc pins s σ H us vs Q I r)⟩
theorem Runs.ent {f : Addr} {n : Str} {sp : Sp} (R : Runs S k f sp) (hm : S.mg n = some (.ref f)) : CallE S k n sp := by
  intro N X x L hc es t p pos hg hb hpl ha
  have hm' : X.mg n = some (.ref f) := by rw [L.hm]; exact hm
  have hk' : PySem.W.keepIn X.K (.ref f) = true := by rw [L.hK]; exact R.1
  refine ⟨fun pins s σ H Q I h => ?_⟩
  refine wpAny_Call_Name_kw (ld_glob I hg hm' ?_ (badName_no hb).1)
  cases es with
  | nil =>
    refine PySem.W.callWith_K0 I.kIn hk' ?_
    have h1 : wpAny (model X.prog X.w) X.A (spliced (backTo pos (starEach [] X.env)) >>= fun us => call (.ref f) us) (EP X pins σ Q) X.xe s :=
      wpAny_bind (thn (ha.run pos pins s σ H _ I h) fun us s1 ⟨vs, H1, I1, r, q⟩ => R.2 N X x L hc pins s1 σ H1 us vs Q I1 r q)
    exact h1
  | cons e es =>
    obtain ⟨h1, h2⟩ := b2 (show (plainA e && es.all plainA) = true from hpl)
    exact PySem.W.callWith_K (h₀ := X.base) I.ok.mod.kin hk' (thn (ha.run pos pins s σ H _ I h) fun us s1 ⟨vs, H1, I1, r, q⟩ => ⟨I1.kIn, R.2 N X x L hc pins s1 σ H1 us vs Q I1 r q⟩) (star_one h1) (star_all h2)
/-- C(..) of an own class, all parameters given by places -/
theorem runs_mkI {C f : Addr} {fd : FuncData} {ps : List Str} {sp : Sp} {j : Nat} (M : Mk S.K C f) (F : FnB S j f fd ps sp) (hj : j + 1 ≤ k) (hb : ∀ (s : Shared) (us : List Value), us.length = ps.length → BindsTo s fd ⟨us, []⟩ (ps.zip us)) (len : ∀ vs H Q E, sp vs H Q E → vs.length = ps.length) : Runs S k C (mkI C sp) := by
  refine ⟨M.kp, fun N X x L hc pins s σ H us vs Q I r h => ?_⟩
  have hq := h (s.heap.objs.size + 1) s.heap.objs.size (I.hok.fresh (Nat.le_succ _)) (I.hok.fresh (Nat.le_refl _)) (Nat.ne_of_lt (Nat.lt_succ_self _))
  have hl := len _ _ _ _ hq
  have hr := r.length
  exact run_mkI L hc M F hj (fun s e _ => hb s (e :: us) (by simp only [List.length_cons] at hl ⊢; omega)) I r h
/-- .. of which the last ones are left to their defaults -/
theorem runs_mkD {C f : Addr} {fd : FuncData} {ps : List Str} {sp : Sp} {j : Nat} {dvs : List V} {ds : List Value} (M : Mk S.K C f) (F : FnB S j f fd ps sp) (hj : j + 1 ≤ k) (hb : Binds S.K fd ps ds) (hd : Vals dvs ds) (len : ∀ vs H Q E, sp vs H Q E → vs.length = ps.length) : Runs S k C (fun vs H Q E => mkI C sp (vs ++ dvs) H Q E) := by
  refine ⟨M.kp, fun N X x L hc pins s σ H us vs Q I r h => ?_⟩
  have hq := h (s.heap.objs.size + 1) s.heap.objs.size (I.hok.fresh (Nat.le_succ _)) (I.hok.fresh (Nat.le_refl _)) (Nat.ne_of_lt (Nat.lt_succ_self _))
  have hl := len _ _ _ _ hq
  have hr := (r.append hd).length
  exact run_mkI (us := us ++ ds) L hc M F hj (fun s e kin => hb s (e :: us) kin (by simp only [List.cons_append, List.length_cons] at hl ⊢; omega)) I (r.append hd) h
end
end AS

set_option Elab.async false
set_option linter.all false
set_option maxRecDepth 100000
set_option maxHeartbeats 4000000
/-! E12: own operators of instances: *, ==, !=, <, in. -/
namespace AS
open PySem PySem.Spec PyProof.Rows L2
section
variable {X : Cx} {pins : List (Addr × Obj)} {σ : St} {H : Hp} {s : Shared}
/-- an instance's object -/
theorem inst_at {a C dx : Addr} {fs : List (Str × V)} (I : Inv X pins σ H s) (e : H a = some (.ins C dx fs)) : ∃ ox od, PySem.W.InstAt s.heap a ox C od := by
  obtain ⟨mA, O, _, _, _, _⟩ := ins_get I.hok e
  obtain ⟨od, J, _⟩ := O.look
  exact ⟨_, _, J⟩
end
section
variable {S : Sys} {k : Nat}
/-- x * y by the def at f, both of the class C -/
def rBinI (C : Addr) (sp : Sp) : R2E := fun x y H Q E => ∃ a dx fs b dy gs, x = .ref a ∧ y = .ref b ∧ H a = some (.ins C dx fs) ∧ H b = some (.ins C dy gs) ∧ sp [x, y] H Q E
theorem ent_bin {op : Operator} {C f : Addr} {sp : Sp} {j : Nat} (F : FnG S j f sp) (hj : j ≤ k) (hc : PySem.W.selfFirst S.K C = true) (hs : PySem.W.findIn S.K (.ref C) (PySem.dunder op.info.2) = some (some (.ref f))) (hf : PySem.W.isFn S.K (.ref f) = true) : BinE S k op (rBinI C sp) := by
  intro N X x L hcm pins s σ H y z v u Q I ry rz h
  obtain ⟨a, dx, fs, b, dy, gs, rfl, rfl, ea, eb, q⟩ := h
  cases (show v = Value.ref a from ry)
  cases (show u = Value.ref b from rz)
  obtain ⟨ox, od, J⟩ := inst_at I ea
  obtain ⟨ox', od', J'⟩ := inst_at I eb
  obtain ⟨m, hF⟩ := I.fr
  rw [← L.hK] at hc hs hf
  refine PySem.W.binop_K (op := op) hF I.ok.mod.kin J J'.type hc hs hf ?_
  refine wpAny_mono (run_fnG (us := [.ref a, .ref b]) (vs := [.ref a, .ref b]) L hcm F hj I (.cons rfl (.cons rfl .nil)) q) (fun w s' z => ?_) fun _ _ x => x
  obtain ⟨z', H', I', rz, qz⟩ := z
  exact SlX.cmpback rz ⟨z', H', I', rz, qz⟩
/-- x == y by the def at f: y of any type that is known and not below C -/
def rCmpI (K : PySem.W.Frag) (C : Addr) (sp : Sp) : R2E := fun x y H Q E => ∃ a dx fs t, x = .ref a ∧ H a = some (.ins C dx fs) ∧ TyX K H y t ∧ PySem.W.notFirst K C t = true ∧ sp [x, y] H Q E
theorem ent_cmp {op : CmpOp} {C f : Addr} {sp : Sp} {j : Nat} (hop : ∀ a b, compareOp op a b = richCompare op a b) (F : FnG S j f sp) (hj : j ≤ k) (hs : PySem.W.findIn S.K (.ref C) (cmpInfo op).2.1 = some (some (.ref f))) (hf : PySem.W.isFn S.K (.ref f) = true) : CmpE S k op (rCmpI S.K C sp) := by
  intro N X x L hcm pins s σ H y z v u Q I ry rz h
  obtain ⟨a, dx, fs, t, rfl, ea, ty, hn, q⟩ := h
  cases (show v = Value.ref a from ry)
  obtain ⟨ox, od, J⟩ := inst_at I ea
  obtain ⟨m, hF⟩ := I.fr
  rw [← L.hK] at hn hs hf ty
  obtain ⟨P, kx, hP, _⟩ := kit_of I rz ty
  have hu := L.un
  rw [hop]
  refine PySem.W.cmp_K (op := op) (tb := t) (by omega) hF I.ok.mod.kin J (kx.ty _ _ I.kIn hP) hn hs hf ?_
  refine wpAny_mono (run_fnG (us := [.ref a, u]) (vs := [.ref a, z]) L hcm F hj I (.cons rfl (.cons rz .nil)) q) (fun w s' z => ?_) fun _ _ x => x
  obtain ⟨z', H', I', rz, qz⟩ := z
  exact SlX.cmpback rz ⟨z', H', I', rz, qz⟩
/-- y in x by the def at f -/
def rInI (C : Addr) (sp : Sp) : R2E := fun y x H Q E => ∃ a dx fs, x = .ref a ∧ H a = some (.ins C dx fs) ∧ sp [x, y] H (fun r H' => ∃ b, r = .bl b ∧ Q (.bl b) H') E
theorem ent_in {C f : Addr} {sp : Sp} {j : Nat} (F : FnG S j f sp) (hj : j ≤ k) (hs : PySem.W.findIn S.K (.ref C) "__contains__" = some (some (.ref f))) (hf : PySem.W.isFn S.K (.ref f) = true) : CmpE S k .In (rInI C sp) := by
  intro N X x L hcm pins s σ H y z v u Q I ry rz h
  obtain ⟨a, dx, fs, rfl, ea, q⟩ := h
  cases (show u = Value.ref a from rz)
  obtain ⟨ox, od, J⟩ := inst_at I ea
  obtain ⟨m, hF⟩ := I.fr
  rw [← L.hK] at hs hf
  refine PySem.W.in_K hF I.ok.mod.kin J hs hf ?_
  refine wpAny_mono (run_fnG (us := [.ref a, v]) (vs := [.ref a, y]) L hcm F hj I (.cons rfl (.cons ry .nil)) q) (fun w s' z => ?_) fun _ _ x => x
  obtain ⟨z', H', I', rz, b, rfl, qz⟩ := z
  cases rz
  exact wpAny_truthy_bool ⟨.bl b, H', I', rfl, qz⟩
end
end AS

set_option Elab.async false
set_option linter.all false
set_option maxRecDepth 100000
set_option maxHeartbeats 4000000
/-! E13: classmethods, called on the class. -/
namespace AS
open PySem PySem.Spec PyProof.Rows L2 ClX
section
variable {S : Sys} {k : Nat}
theorem run_cmG {N : List Str} {X : Cx} {x : Ctx} {C g q : Addr} {j : Nat} {sp : Sp} {pins : List (Addr × Obj)} {σ : St} {H : Hp} {s : Shared} {Q : VK} {us : List Value} {vs : List V} (L : Like S k N X x) (hc : x.c = true) (F : FnG S j g sp) (hj : j ≤ k) (I : Inv X ((q, PySem.W.methodObj (.ref g) (.ref C)) :: pins) σ H s)
    (r : Vals vs us) (h : sp (.ref C :: vs) H Q fun c d H' => x.W c d σ H') : wpAny (model X.prog X.w) X.A (call (.ref q) us) (EP X pins σ Q) X.xe s := by
  have q0 := F X.A X.stack s H (.ref C :: us) (.ref C :: vs) Q _ (L.roomG hc I hj) (L.env0 I) (.cons rfl r) h
  rw [← L.hP, ← L.hw] at q0
  have z : wpAny (model X.prog X.w) X.A (call (.ref q) us) (EP X ((q, PySem.W.methodObj (.ref g) (.ref C)) :: pins) σ Q) X.xe s := by
    refine wpAny_call (PySem.W.method_call (pin_at I) (codeAny_mono q0 fun r s' hq => ?_))
    rw [L.hP, L.hw] at hq
    have z := L.back I hq
    cases r with
    | error e => exact z
    | ok fl =>
      cases fl with
      | ret u => exact z
      | _ => exact z.elim
  exact thn z fun _ _ y => unpinE y
theorem ent_cm {C p g : Addr} {mc : Value} {m : Str} {j : Nat} {sp : Sp} (r : CRead S.K C mc) (c : CMet S.K C mc m p g) (F : FnG S j g sp) (hj : j ≤ k) : MtE S k m (fun x _ => x = .ref C, sp) := by
  intro N X x L hc o es to t pp pos hs hpl hline hlen ho ha
  refine ⟨fun pins s σ H Q I h => ?_⟩
  refine meth_call (sup_no hs) hpl hlen hline (thn (ho.run pins s σ H _ I h) fun u s1 ⟨y, H1, I1, ry, ey, q1⟩ pl => ?_)
  have ey : y = .ref C := ey
  subst ey
  obtain rfl : u = Value.ref C := ry
  have r' : CRead X.K C mc := by rw [L.hK]; exact r
  have c' : CMet X.K C mc m p g := by rw [L.hK]; exact c
  refine getmethcm_ok I1 r' c' fun s2 I2 => ?_
  cases es with
  | nil =>
    refine PySem.W.callWith_M0 (K := X.K) (first := []) ⟨pin_at I2, I2.kIn⟩ c'.fi ?_
    have h3 : wpAny (model X.prog X.w) X.A (spliced (backTo pos (starEach [] X.env)) >>= fun us => call (.ref s1.heap.objs.size) us) (EP X pins σ Q) X.xe s2 :=
      wpAny_bind (thn (ha.run pos _ s2 σ H1 _ I2 q1) fun us s3 ⟨vs, H2, I3, rv, q2⟩ => run_cmG L hc F hj I3 rv q2)
    exact h3
  | cons e es =>
    obtain ⟨h1, h2⟩ := b2 (show (plainA e && es.all plainA) = true from hpl)
    exact callwith_cm I2 (base_none I1 (Nat.le_refl _)) c'.fi (thn (ha.run pos _ s2 σ H1 _ I2 q1) fun us s3 ⟨vs, H2, I3, rv, q2⟩ => ⟨⟨pin_at I3, I3.kIn⟩, run_cmG L hc F hj I3 rv q2⟩) (star_one h1) (star_all h2)
end
end AS

set_option Elab.async false
set_option linter.all false
set_option maxRecDepth 100000
set_option maxHeartbeats 4000000
/-! E14: defs with *args. -/
namespace AS
open PySem PySem.Spec PyProof.Rows L2 StX
/-- n values by places, the others in a new tuple -/
def starSp (n : Nat) (sp : Sp) : Sp := fun vs H Q E => ∃ ws rest, vs = ws ++ rest ∧ ws.length = n ∧ rest.length ≤ sizeLine ∧ ∀ p, H p = none → sp (ws ++ [V.ref p]) (upd H p (.tup rest)) Q E
theorem fn_starG {Γ : Bool → Ora} {S : Sys} {k n : Nat} {f : Addr} {fd : FuncData} {x qual : Str} {params : Arguments} {body : List Stmt} {scope : Scope} {N ps : List Str} {pv : Str} {sp : Sp} (F : FunD S.K x qual params body scope [] [] f fd) (Sc : FnScope N (ps ++ [pv]) scope) (hΓ : Sound Γ S k N)
    (hb : ∀ (kV doc pm : Value) (an : Option Addr) (cdv ct : Value) (us rest : List Value), us.length = ps.length → bindArgs (PySem.W.fnOf x qual params body scope .none kV doc pm an cdv ct) ⟨us ++ rest, []⟩ = (newTuple rest >>= fun t => pure (ps.zip us ++ [(pv, t)])))
    (body_ok : ∀ vs H Q E, sp vs H Q E → blkT (wp Γ S.K N n (ctxD scope E)).S body { nx := fun _ H' => Q .non H', rt := Q } (start N vs) H) : FnG S (k + 1) f (starSp ps.length sp) := by
  intro A outer s H us vs Q E hr e0 r hsp
  obtain ⟨oc, od, dV, kV, doc, pm, an, cdv, ct, osl, rfl, lk, hcd, hD, _⟩ := F.1
  obtain ⟨ws, rest, rfl, hl, hz, hq⟩ := hsp
  obtain ⟨u1, u2, rfl, r1, r2⟩ := vals_split r
  have hdn : dV = .none := by
    rcases hD with ⟨_, e⟩ | ⟨e, _⟩
    · exact e
    · exact absurd rfl e
  subst hdn
  have hn : H s.heap.objs.size = none := e0.hok.fresh (Nat.le_refl _)
  have hl1 : u1.length = ps.length := by rw [← r1.length]; exact hl
  have hl2 : u2.length ≤ sizeLine := by rw [← r2.length]; exact hz
  refine run_bnd (CX := L2.CX S.P S.w) (N := N) lk hcd Sc hr.r e0 (G := fun xs H2 => ∃ p, H p = none ∧ xs = ws ++ [V.ref p] ∧ H2 = upd H p (.tup rest)) (fun A' Ex Q' h => ?_) fun s2 H2 xs ⟨p, hp, ex, eH⟩ hr' => ?_
  · rw [hb kV doc pm an cdv ct u1 u2 hl1]
    refine wpAny_bind (wpAny_newTuple (wpAny_pure ?_) hl2)
    have new : ObjOk S.P S.w (upd H s.heap.objs.size (.tup rest)) (s.heap.push ({ cls := .type "tuple", data := .seq u2.toArray } : Obj)) s.heap.objs.size (.tup rest) := ⟨hz, u2, r2, ⟨_, Heap.get?_push_size _ rfl, rfl, _, rfl⟩⟩
    have un := un_laid (fs := frs outer) (s := s) (o := ({ cls := .type "tuple", data := .seq u2.toArray } : Obj)) (u := .tup rest) hn
    have z := h _ _ (ws ++ [V.ref s.heap.objs.size]) (u1 ++ [Value.ref s.heap.objs.size]) (env0_laid e0 new) un rfl (fun e s' => cxUp outer s H _ _ E e s' un (fun b o q => Heap.get?_push_of_some _ q) rfl) (r1.append (.cons rfl .nil))
      (by rw [List.length_append, List.length_append, hl] <;> rfl) ⟨_, hn, rfl, rfl⟩
    rw [List.zip_append hl1.symm] at z
    exact z
  · subst ex eH
    have L := like_def (S := S) (k := k) (qual := qual) (scope := scope) (f := f) (cdv := cdv) (outer := outer) (s := s2) (H := upd H p (.tup rest)) (E := E) Sc.nd hr
    exact ⟨_, pss_blk (right hΓ n _ _ L).S body, body_ok _ _ Q E (hq p hp)⟩
end AS

set_option Elab.async false
set_option linter.all false
set_option maxRecDepth 100000
set_option maxHeartbeats 4000000
/-! E15: more built-ins: sorted, dict, list, any, str; methods append, join, split, partition. -/
namespace AS
open PySem PySem.Spec PyProof.Rows L2
theorem CallR.or {X : Cx} {f : Value} {r r' : List V → Hp → VK → Prop} (h : CallR X f r) (h' : CallR X f r') : CallR X f (fun xs H Q => r xs H Q ∨ r' xs H Q) := fun pins s σ H xs us Q I rv q => q.elim (h pins s σ H xs us Q I rv) (h' pins s σ H xs us Q I rv)
/-- sorted(d), d with text keys; sorted(list of texts); sorted(list of ints) -/
def rSrtD : List V → Hp → VK → Prop := fun xs H Q => ∃ (a : Addr) (kvs : List (Key × V)) (ks : List Str), xs = [.ref a] ∧ Rd H a (.dK kvs) ∧ kvs.map (·.1) = ks.map Sum.inr ∧ ks.length < 64 ∧ ∀ ys p, ys.Perm ks → sortedS ys = true → H p = none → Q (.ref p) (upd H p (.lst (ys.map V.str)))
def rSrt (K : PySem.W.Frag) : List V → Hp → VK → Prop := fun xs H Q => rSrtD xs H Q ∨ rSortedS K xs H Q ∨ rSorted K xs H Q
def rDctD : List V → Hp → VK → Prop := fun xs H Q => ∃ (a : Addr) (kvs : List (Key × V)), xs = [.ref a] ∧ Rd H a (.dK kvs) ∧ ∀ p, H p = none → Q (.ref p) (upd H p (.dK kvs))
def rDctP (K : PySem.W.Frag) : List V → Hp → VK → Prop := fun xs H Q => ∃ (a : Addr) (ps : List Addr) (kvs : List (Key × V)), xs = [.ref a] ∧ SqL K H a (ps.map V.ref) ∧ Paired (fun p kv => SqT K H p [kV kv.1, kv.2]) ps kvs ∧ ∀ p, H p = none → Q (.ref p) (upd H p (.dK (mergeK [] kvs)))
/-- dict(d), dict(list of pairs) -/
def rDct (K : PySem.W.Frag) : List V → Hp → VK → Prop := fun xs H Q => rDctD xs H Q ∨ rDctP K xs H Q
def rLstS (K : PySem.W.Frag) : List V → Hp → VK → Prop := fun xs H Q => ∃ p ys, xs = [.ref p] ∧ (SqL K H p ys ∨ SqT K H p ys) ∧ ∀ l, H l = none → Q (.ref l) (upd H l (.lst ys))
/-- list(d), list(list or tuple) -/
def rLst (K : PySem.W.Frag) : List V → Hp → VK → Prop := fun xs H Q => rListD xs H Q ∨ rLstS K xs H Q
section
variable {S : Sys} {k : Nat}
theorem ent_sorted (hm : S.mg "sorted" = none) : CallE S k "sorted" fun vs H Q _ => rSrt S.K vs H Q := ent_blt (fun N X x L hc => by rw [← L.hK]; exact CallR.or (call_sortedD (L.calm hc)) (CallR.or cr_sortedS cr_sorted)) hm (by decide +kernel)
theorem ent_dict (hm : S.mg "dict" = none) : CallE S k "dict" fun vs H Q _ => rDct S.K vs H Q := ent_typ (fun N X x L hc => by rw [← L.hK]; exact CallR.or call_dictD (call_dictP (L.calm hc))) hm (by decide +kernel)
theorem ent_list (hm : S.mg "list" = none) : CallE S k "list" fun vs H Q _ => rLst S.K vs H Q := ent_typ (fun N X x L hc => by rw [← L.hK]; exact CallR.or (call_list_dK (L.calm hc)) call_list_of) hm (by decide +kernel)
theorem ent_any (hm : S.mg "any" = none) : CallE S k "any" fun vs H Q _ => rAny S.K vs H Q := ent_blt (fun N X x L hc => by rw [← L.hK]; exact cr_any (L.calm hc)) hm (by decide +kernel)
theorem ent_append : MtE S k "append" (bmQ S.K "list" rAppend) := ent_bm F.plainAttrs_list F.slot_list_append F.type_list_append fun N X x L hc => mt_append
def rJoin (K : PySem.W.Frag) : V → List V → Hp → VK → Prop := fun x xs H Q => ∃ a p, ∃ ys : List Str, x = .str a ∧ xs = [.ref p] ∧ (SqL K H p (ys.map V.str) ∨ SqT K H p (ys.map V.str)) ∧ (ys.map (·.length)).sum + ys.length * a.length ≤ 16777216 ∧ Q (.str (Txt.join a ys)) H
theorem ent_join : MtE S k "join" (bmQ S.K "str" (rJoin S.K)) := ent_bm F.plainAttrs_str F.slot_str_join F.type_str_join fun N X x L hc => by rw [← L.hK]; exact mt_join
def rSplit1 : V → List V → Hp → VK → Prop := fun x xs H Q => ∃ a b, x = .str a ∧ xs = [.str b] ∧ (b.length == 0) = false ∧ a.length + 2 ≤ sizeLine ∧ rNewStrs (Txt.split a b) H Q
theorem ent_split : MtE S k "split" (bmQ S.K "str" rSplit1) := ent_bm F.plainAttrs_str F.slot_str_split F.type_str_split fun N X x L hc => mt_split
def rPartition : V → List V → Hp → VK → Prop := fun x xs H Q => ∃ a b, x = .str a ∧ xs = [.str b] ∧ (b.length == 0) = false ∧ a.length ≤ sizeLine ∧ ∀ p, H p = none → Q (.ref p) (upd H p (.tup [.str (Txt.partition a b).1, .str (Txt.partition a b).2.1, .str (Txt.partition a b).2.2]))
theorem ent_partition : MtE S k "partition" (bmQ S.K "str" rPartition) := ent_bm F.plainAttrs_str F.slot_str_partition F.type_str_partition fun N X x L hc => mt_partition
/-- d.get(y), d.get(y, z) -/
def rGet : V → List V → Hp → VK → Prop := fun x xs H Q => ∃ a y z o, x = .ref a ∧ (xs = [y, z] ∨ (xs = [y] ∧ z = .non)) ∧ DGet H a y o ∧ Q (o.getD z) H
theorem mt_get {X : Cx} (hu : X.A.units + 1 < cLine) : MtR X "dict.get" rGet := by
  intro pins s σ H x xs v us Q I rx rs h
  obtain ⟨a, y, z, o, rfl, hx, g, q⟩ := h
  cases (show v = Value.ref a from rx)
  rcases hx with rfl | ⟨rfl, rfl⟩
  · obtain ⟨u1, u2, rfl, r1, r2⟩ := vals2 rs
    exact d_get2 hu I g r1 r2 fun w s2 I2 rw' => ⟨_, H, I2, rw', q⟩
  · obtain ⟨u, rfl, ru⟩ := vals1 rs
    exact d_get1 hu I g ru fun w s2 I2 rw' => ⟨_, H, I2, rw', q⟩
theorem ent_get : MtE S k "get" (bmQ S.K "dict" rGet) := ent_bm F.plainAttrs_dict F.slot_dict_get F.type_dict_get fun N X x L hc => mt_get (by have := L.un; omega)
end
end AS

set_option Elab.async false
set_option linter.all false
set_option maxRecDepth 100000
set_option maxHeartbeats 4000000
/-! E16: len(x), str(x) by own __len__, __str__. -/
namespace AS
open PySem PySem.Spec PyProof.Rows L2
section
variable {S : Sys} {k : Nat} {N : List Str} {X : Cx} {x : Ctx}
theorem run_in1 {j : Nat} {f : Addr} {sp : Sp} (L : Like S k N X x) (hc : x.c = true) (F : FnG S j f sp) (hj : j + 1 ≤ k) {pins : List (Addr × Obj)} {σ : St} {H : Hp} {s : Shared} {Q : VK} {us : List Value} {vs : List V} (I : Inv X pins σ H s) (r : Vals vs us) (h : sp vs H Q fun c d H' => x.W c d σ H') :
    wpAny (model X.prog X.w) X.A.in1 (call (.ref f) us) (EP X pins σ Q) X.xe s := by
  have q := F X.A.in1 X.stack s H us vs Q _ (L.roomG hc I hj).in1 (L.env0 I).in1 r h
  rw [← L.hP, ← L.hw] at q
  refine wpAny_call (codeAny_mono q fun r s' hq => ?_)
  rw [L.hP, L.hw] at hq
  have z := L.back I hq
  cases r with
  | error e => exact z
  | ok fl =>
    cases fl with
    | ret u => exact z
    | _ => exact z.elim
theorem run_in2 {j : Nat} {f : Addr} {sp : Sp} (L : Like S k N X x) (hc : x.c = true) (F : FnG S j f sp) (hj : j + 2 ≤ k) {pins : List (Addr × Obj)} {σ : St} {H : Hp} {s : Shared} {Q : VK} {us : List Value} {vs : List V} (I : Inv X pins σ H s) (r : Vals vs us) (h : sp vs H Q fun c d H' => x.W c d σ H') :
    wpAny (model X.prog X.w) X.A.in1.in1 (call (.ref f) us) (EP X pins σ Q) X.xe s := by
  have q := F X.A.in1.in1 X.stack s H us vs Q _ (L.roomG hc I hj).in1.in1 (L.env0 I).in1.in1 r h
  rw [← L.hP, ← L.hw] at q
  refine wpAny_call (codeAny_mono q fun r s' hq => ?_)
  rw [L.hP, L.hw] at hq
  have z := L.back I hq
  cases r with
  | error e => exact z
  | ok fl =>
    cases fl with
    | ret u => exact z
    | _ => exact z.elim
end
section
variable {S : Sys} {k : Nat}
/-- a value's call, what is raised wished for -/
def RunsV (X : Cx) (W : WX) (f : Value) (sp : Sp) : Prop := ∀ (pins : List (Addr × Obj)) (s : Shared) (σ : St) (H : Hp) (us : List Value) (vs : List V) (Q : VK), Inv X pins σ H s → Vals vs us → sp vs H Q (fun c d H' => W c d σ H') → wpAny (model X.prog X.w) X.A (call f us) (EP X pins σ Q) X.xe s
theorem runsV_of {X : Cx} {W : WX} {f : Value} {r : List V → Hp → VK → Prop} (h : CallR X f r) : RunsV X W f (fun vs H Q _ => r vs H Q) := fun pins s σ H us vs Q I rv q => h pins s σ H vs us Q I rv q
theorem RunsV.or {X : Cx} {W : WX} {f : Value} {sp sp' : Sp} (h : RunsV X W f sp) (h' : RunsV X W f sp') : RunsV X W f (fun vs H Q E => sp vs H Q E ∨ sp' vs H Q E) := fun pins s σ H us vs Q I rv q => q.elim (h pins s σ H us vs Q I rv) (h' pins s σ H us vs Q I rv)
theorem ent_bltX {n : Str} {id : String} {sp : Sp} (hr : ∀ (N : List Str) (X : Cx) (x : Ctx), Like S k N X x → x.c = true → RunsV X x.W (.builtin id) sp) (hm : S.mg n = none) (hv : bootBuiltins n = some (.builtin id)) : CallE S k n sp := by
  intro N X x L hc es t p pos hg hb hpl ha
  have hm' : X.mg n = none := by rw [L.hm]; exact hm
  refine ⟨fun pins s σ H Q I h => ?_⟩
  refine wpAny_Call_Name_kw (ld_blt I hg hm' hv ?_ (badName_no hb).2.2 (badName_no hb).1)
  have h1 : wpAny (model X.prog X.w) X.A (spliced (backTo pos (starEach es X.env)) >>= fun us => call (.builtin id) us) (EP X pins σ Q) X.xe s :=
    wpAny_bind (thn (ha.run pos pins s σ H _ I h) fun us s1 ⟨vs, H1, I1, rv, q⟩ => hr N X x L hc pins s1 σ H1 us vs Q I1 rv q)
  cases es with
  | nil => exact Calls.callWith_builtin rfl (evalArgs_nil3 h1)
  | cons e es =>
    obtain ⟨g1, g2⟩ := b2 (show (plainA e && es.all plainA) = true from hpl)
    have h2 : wpAny (model X.prog X.w) X.A (spliced (backTo pos (starEach (e :: es) X.env))) (fun us s1 => wpAny (model X.prog X.w) X.A (call (.builtin id) us) (EP X pins σ Q) X.xe s1) X.xe s :=
      thn (ha.run pos pins s σ H _ I h) fun us s1 ⟨vs, H1, I1, rv, q⟩ => hr N X x L hc pins s1 σ H1 us vs Q I1 rv q
    rw [star_one g1] at h2 ⊢
    exact Calls.callWith_builtin (by show (false || (backTo pos (starEach es X.env)).any (·.1)) = false; rw [star_all g2] <;> rfl) (Calls.evalArgs_plain h2)
/-- str(x) by the def at f -/
def rStrI (C : Addr) (sp : Sp) : Sp := fun vs H Q E => ∃ a dx fs, vs = [.ref a] ∧ H a = some (.ins C dx fs) ∧ sp [.ref a] H (fun v H' => ∃ z, v = .str z ∧ Q v H') E
theorem runs_str {C f : Addr} {sp : Sp} {j : Nat} (F : FnG S j f sp) (hj : j + 2 ≤ k) (hs : PySem.W.findIn S.K (.ref C) "__str__" = some (some (.ref f))) (hf : PySem.W.isFn S.K (.ref f) = true) : ∀ (N : List Str) (X : Cx) (x : Ctx), Like S k N X x → x.c = true → RunsV X x.W (.type "str") (rStrI C sp) := by
  intro N X x L hc pins s σ H us vs Q I rv h
  obtain ⟨a, dx, fs, rfl, ea, q⟩ := h
  obtain ⟨u, rfl, ru⟩ := vals1 rv
  cases (show u = Value.ref a from ru)
  obtain ⟨ox, od, J⟩ := inst_at I ea
  rw [← L.hK] at hs hf
  have hu := L.un
  refine PySem.W.kso_call (by show X.A.units + 1 + 1 < cLine; omega) I.kIn J hs hf ?_
  refine wpAny_mono (run_in2 (us := [.ref a]) (vs := [.ref a]) L hc F hj I (.cons rfl .nil) q) (fun w s' z => ?_) fun _ _ x => x
  obtain ⟨v, H', I', rv', z, rfl, qz⟩ := z
  obtain ⟨t, rfl⟩ := rv'
  exact ⟨.str z, H', I', ⟨t, rfl⟩, qz⟩
/-- len(x) by the def at f -/
def rLenI (C : Addr) (sp : Sp) : Sp := fun vs H Q E => ∃ a dx fs, vs = [.ref a] ∧ H a = some (.ins C dx fs) ∧ sp [.ref a] H (fun v H' => ∃ n : Int, v = .int n ∧ 0 ≤ n ∧ n < 2 ^ 63 ∧ Q v H') E
theorem runs_len {C f : Addr} {sp : Sp} {j : Nat} (F : FnG S j f sp) (hj : j + 1 ≤ k) (hs : PySem.W.findIn S.K (.ref C) "__len__" = some (some (.ref f))) (hf : PySem.W.isFn S.K (.ref f) = true) : ∀ (N : List Str) (X : Cx) (x : Ctx), Like S k N X x → x.c = true → RunsV X x.W (.builtin "len") (rLenI C sp) := by
  intro N X x L hc pins s σ H us vs Q I rv h
  obtain ⟨a, dx, fs, rfl, ea, q⟩ := h
  obtain ⟨u, rfl, ru⟩ := vals1 rv
  cases (show u = Value.ref a from ru)
  obtain ⟨ox, od, J⟩ := inst_at I ea
  obtain ⟨m, hF⟩ := I.fr
  rw [← L.hK] at hs hf
  refine PySem.W.len_K hF I.ok.mod.kin J hs hf ?_
  refine wpAny_mono (run_in1 (us := [.ref a]) (vs := [.ref a]) L hc F hj I (.cons rfl .nil) q) (fun w s' z => ?_) fun _ _ x => x
  obtain ⟨v, H', I', rv', n, rfl, h0, h1, qz⟩ := z
  obtain ⟨t, rfl⟩ := rv'
  exact ⟨⟨h0, h1⟩, .int n, H', I'.tok _, ⟨_, rfl⟩, qz⟩
end
end AS

set_option Elab.async false
set_option linter.all false
set_option maxRecDepth 100000
set_option maxHeartbeats 4000000
/-! E17: methods of dicts that may be locked; len and list of them. -/
namespace AS
open PySem PySem.Spec PyProof.Rows L2
def tyW (K : PySem.W.Frag) (T : String) (x : V) (H : Hp) : Prop := tyV K T x H ∨ (T = "dict" ∧ ∃ p kvs, x = .ref p ∧ Rd H p (.dK kvs))
theorem tyW_is {X : Cx} {pins : List (Addr × Obj)} {σ : St} {H : Hp} {s : Shared} {T : String} {x : V} {v : Value} (I : Inv X pins σ H s) (r : RelV x v) (ty : tyW X.K T x H) :
    s.TypeIs v T ∧ ∀ a, v = .ref a → ∃ ob, s.heap.get? a = some ob ∧ ob.dict = none := by
  rcases ty with ty | ⟨rfl, p, kvs, rfl, h⟩
  · exact tyV_is I r ty
  · cases r
    obtain ⟨_, _, vs, _, hd⟩ := dk_rd I.hok h
    refine ⟨hd.typeIs, fun a e => ?_⟩
    cases e
    obtain ⟨o, e1, e2⟩ := hd.mapOf.noDict _ rfl
    exact ⟨o, e1, e2⟩
section
variable {S : Sys} {k : Nat}
def bmW (K : PySem.W.Frag) (T : String) (r : V → List V → Hp → VK → Prop) : Rc × Sp := (fun x H => tyW K T x H, fun vs H Q _ => match vs with
  | x :: xs => r x xs H Q
  | [] => False)
theorem ent_bmW {m : Str} {id T : String} {r : V → List V → Hp → VK → Prop} (pa : PlainAttrs T) (slot : Slot T m id) (hty : typeOf (.builtin id) = pure (.type "method_descriptor")) (hr : ∀ (N : List Str) (X : Cx) (x : Ctx), Like S k N X x → x.c = true → MtR X id r) : MtE S k m (bmW S.K T r) := by
  intro N X x L hc o es to t p pos hs hpl hline hlen ho ha
  have hR := hr N X x L hc
  refine ⟨fun pins s σ H Q I h => ?_⟩
  have h : to σ H fun x H1 => tyW S.K T x H1 ∧ t σ H1 fun vs H2 => r x vs H2 Q := h
  cases es with
  | nil =>
    refine wpAny_Call_method0_late (sup_no hs) hline (thn (ho.run pins s σ H _ I h) fun v s1 ⟨x, H1, I1, r1, ty, q1⟩ => ?_)
    rw [← L.hK] at ty
    obtain ⟨h1, h2⟩ := tyW_is I1 r1 ty
    refine ⟨T, id, pa, slot, hty, h1, h2, Calls.callWith_builtin rfl (PySem.evalArgs_none ?_)⟩
    have h3 : wpAny (model X.prog X.w) X.A (spliced (backTo pos (starEach [] X.env)) >>= fun us => call (.builtin id) (v :: us)) (EP X pins σ Q) X.xe s1 :=
      wpAny_bind (thn (ha.run pos pins s1 σ H1 _ I1 q1) fun us s2 ⟨vs, H2, I2, rv, q⟩ => hR pins s2 σ H2 x vs v us Q I2 r1 rv q)
    exact h3
  | cons e es =>
    obtain ⟨g1, g2⟩ := b2 (show (plainA e && es.all plainA) = true from hpl)
    have hfew : ((backTo pos (starEach (e :: es) X.env)).all (fun x => !x.1) && (backToKw pos (keywordEach [] X.env)).all (fun x => x.1.isSome) && decide ((e :: es).length + ([] : List Keyword).length + (if ([] : List Keyword).isEmpty then 0 else 1) < 30)) = true := by
      rw [bk_any hpl]
      have d : decide ((e :: es).length + ([] : List Keyword).length + (if ([] : List Keyword).isEmpty then 0 else 1) < 30) = true := decide_eq_true (by show (e :: es).length + 0 + 0 < 30; omega)
      rw [d]
      rfl
    refine wpAny_Call_method_late (sup_no hs) hfew hline rfl (thn (ho.run pins s σ H _ I h) fun v s1 ⟨x, H1, I1, r1, ty, q1⟩ => ?_)
    rw [← L.hK] at ty
    obtain ⟨h1, h2⟩ := tyW_is I1 r1 ty
    refine ⟨T, id, pa, slot, hty, h1, h2, ?_⟩
    have hA := ha.run pos pins s1 σ H1 _ I1 q1
    rw [star_one g1] at hA ⊢
    refine Calls.callWith_builtin (by show (false || (backTo pos (starEach es X.env)).any (·.1)) = false; rw [star_all g2] <;> rfl) (Calls.evalArgs_plain ?_)
    exact thn hA fun us s2 ⟨vs, H2, I2, r2, q2⟩ => hR pins s2 σ H2 x vs v us Q I2 r1 r2 q2
theorem ent_getW : MtE S k "get" (bmW S.K "dict" rGet) := ent_bmW F.plainAttrs_dict F.slot_dict_get F.type_dict_get fun N X x L hc => mt_get (by have := L.un; omega)
end
end AS

set_option Elab.async false
set_option linter.all false
set_option maxRecDepth 100000
set_option maxHeartbeats 4000000
/-! M2: lists that are built piece by piece: x = x + [..]; x = x + [.. for ..]. -/
namespace AS
open PySem PySem.Spec PyProof.Rows L2
section
variable {α : Type}
inductive All2 (R : V → α → Prop) : List V → List α → Prop
  | nil : All2 R [] []
  | cons {v : V} {vs : List V} {a : α} {as : List α} : R v a → All2 R vs as → All2 R (v :: vs) (a :: as)
theorem All2.imp {R R' : V → α → Prop} (i : ∀ v a, R v a → R' v a) : ∀ {vs : List V} {as : List α}, All2 R vs as → All2 R' vs as
  | _, _, .nil => .nil
  | _, _, .cons h t => .cons (i _ _ h) (t.imp i)
theorem All2.app {R : V → α → Prop} : ∀ {vs ws : List V} {as bs : List α}, All2 R vs as → All2 R ws bs → All2 R (vs ++ ws) (as ++ bs)
  | _, _, _, _, .nil, k => k
  | _, _, _, _, .cons h t, k => .cons h (t.app k)
theorem All2.len {R : V → α → Prop} : ∀ {vs : List V} {as : List α}, All2 R vs as → vs.length = as.length
  | _, _, .nil => rfl
  | _, _, .cons _ t => congrArg (· + 1) t.len
theorem All2.at_ {R : V → α → Prop} : ∀ {vs : List V} {as : List α} {i : Nat} {a : α}, All2 R vs as → as[i]? = some a → ∃ v, vs[i]? = some v ∧ R v a
  | _, _, 0, _, .cons h t, e => by
    cases e
    exact ⟨_, rfl, h⟩
  | _, _, i + 1, _, .cons h t, e => by
    have e' := e
    rw [List.getElem?_cons_succ] at e'
    obtain ⟨v, q, r⟩ := t.at_ e'
    exact ⟨v, by rw [List.getElem?_cons_succ]; exact q, r⟩
  | _, _, _, _, .nil, e => by simp at e
theorem All2.of_at {R : V → α → Prop} : ∀ {vs : List V} {as : List α} {i : Nat} {v : V}, All2 R vs as → vs[i]? = some v → ∃ a, as[i]? = some a ∧ R v a
  | _, _, 0, _, .cons h t, e => by
    cases e
    exact ⟨_, rfl, h⟩
  | _, _, i + 1, _, .cons h t, e => by
    have e' := e
    rw [List.getElem?_cons_succ] at e'
    obtain ⟨v, q, r⟩ := t.of_at e'
    exact ⟨v, by rw [List.getElem?_cons_succ]; exact q, r⟩
  | _, _, _, _, .nil, e => by simp at e
theorem All2.eq_map {f : α → V} : ∀ {vs : List V} {as : List α}, All2 (fun v a => v = f a) vs as → vs = as.map f
  | _, _, .nil => rfl
  | _, _, .cons h t => by rw [h, t.eq_map]; rfl
theorem All2.of_map {R : V → α → Prop} {β : Type} {f : β → V} {g : β → α} : ∀ {bs : List β}, (∀ b ∈ bs, R (f b) (g b)) → All2 R (bs.map f) (bs.map g)
  | [], _ => .nil
  | b :: bs, h => .cons (h b List.mem_cons_self) (All2.of_map fun c hc => h c (List.mem_cons_of_mem _ hc))
theorem All2.rep {R : V → α → Prop} {v : V} {a : α} (h : R v a) : ∀ n : Nat, All2 R (List.replicate n v) (List.replicate n a)
  | 0 => .nil
  | n + 1 => .cons h (All2.rep h n)
end
theorem All2.dts {K : PySem.W.Frag} {H : Hp} : ∀ {vs : List V} {ds : List PyData}, All2 (Dt K H) vs ds → Dts K H vs ds
  | _, _, .nil => .nil
  | _, _, .cons h t => .cons h t.dts
theorem Dts.at_ {K : PySem.W.Frag} {H : Hp} : ∀ {vs : List V} {ds : List PyData} {i : Nat} {v : V}, Dts K H vs ds → vs[i]? = some v → ∃ d, ds[i]? = some d ∧ Dt K H v d
  | _, _, 0, _, .cons h t, e => by
    cases e
    exact ⟨_, rfl, h⟩
  | _, _, i + 1, _, .cons h t, e => by
    have e' := e
    rw [List.getElem?_cons_succ] at e'
    obtain ⟨v, q, r⟩ := t.at_ e'
    exact ⟨v, by rw [List.getElem?_cons_succ]; exact q, r⟩
  | _, _, _, _, .nil, e => by simp at e
theorem sl_set : ∀ {σ : St} {i : Nat} {v : V}, i < σ.length → sl (σ.set i (some v)) i = some v
  | [], _, _, h => absurd h (Nat.not_lt_zero _)
  | _ :: _, 0, _, _ => rfl
  | _ :: r, i + 1, v, h => by
    show sl (r.set i (some v)) i = some v
    exact sl_set (Nat.lt_of_succ_lt_succ h)
theorem tNm_at {σ : St} {i : Nat} {v : V} {H : Hp} {Q : VK} (e : sl σ i = some v) (q : Q v H) : tNm i σ H Q := by
  unfold tNm
  rw [e]
  exact q
section
variable {α : Type} {Ax : Hp → V → α → Prop} {K : PySem.W.Frag} {σ : St} {H : Hp} {as : List α}
/-- arguments that give values in the relation -/
def GvA (Ax : Hp → V → α → Prop) (c : TA) (σ : St) (H : Hp) (as : List α) : Prop := ∀ k : List V → Hp → Prop, (∀ vs H', Ext H H' → All2 (Ax H') vs as → k vs H') → c σ H k
/-- an expression that gives a new list of such values -/
def GvL (Ax : Hp → V → α → Prop) (te : TE) (σ : St) (H : Hp) (as : List α) : Prop := ∀ Q : VK, (∀ p vs H', Ext H H' → H' p = some (.lst vs) → All2 (Ax H') vs as → Q (.ref p) H') → te σ H Q
theorem gvA_nil : GvA Ax tNil σ H [] := fun k q => q [] H Ext.refl .nil
theorem gvA_cons {te : TE} {t : TA} {a : α} (up : ∀ {H H' : Hp} {v : V} {a : α}, Ext H H' → Ax H v a → Ax H' v a) (h : ∀ Q : VK, (∀ v H', Ext H H' → Ax H' v a → Q v H') → te σ H Q) (ht : ∀ H', Ext H H' → GvA Ax t σ H' as) : GvA Ax (tCons te t) σ H (a :: as) := fun k q =>
  h _ fun v H1 x1 r1 => ht H1 x1 _ fun vs H2 x2 r2 => q (v :: vs) H2 (x1.trans x2) (.cons (up x2 r1) r2)
theorem gvL_lst {c : TA} (h : GvA Ax c σ H as) (hz : as.length ≤ sizeLine) (up : ∀ {H H' : Hp} {v : V} {a : α}, Ext H H' → Ax H v a → Ax H' v a) : GvL Ax (tLst c) σ H as := fun Q q =>
  h _ fun vs H1 x1 r => ⟨by rw [r.len]; exact hz, fun p hp => q p vs _ (x1.new hp) upd_same (r.imp fun v a => up (Ext.refl.new hp))⟩
/-- x = x + .., .. -/
def tCat (K : PySem.W.Frag) (i : Nat) : List TE → TS → TS
  | [], last => last
  | c :: r, last => tSeq (tAsg (tOp (addR K) (tNm i) c) (gName i)) (tCat K i r last)
theorem cat_one {i : Nat} {c : TE} {p : Addr} {es : List V} {as0 : List α} {Q : VK} (up : ∀ {H H' : Hp} {v : V} {a : α}, Ext H H' → Ax H v a → Ax H' v a) (e : sl σ i = some (.ref p)) (hp : H p = some (.lst es)) (r : All2 (Ax H) es as0) (hz : as0.length + as.length ≤ sizeLine) (g : GvL Ax c σ H as)
    (q : ∀ p' H' vs, Ext H H' → H' p' = some (.lst vs) → All2 (Ax H') vs (as0 ++ as) → Q (.ref p') H') : tOp (addR K) (tNm i) c σ H Q := by
  refine tNm_at e ?_
  refine g _ fun b zs H1 x1 hb rb => ?_
  refine .inl ⟨p, b, es, zs, rfl, rfl, x1 _ _ hp, hb, by rw [r.len, rb.len]; exact hz, fun p' hp' => ?_⟩
  exact q p' _ (es ++ zs) (x1.new hp') upd_same ((r.imp fun v a => up (x1.new hp')).app (rb.imp fun v a => up (Ext.refl.new hp')))
theorem cat_ok {i : Nat} {last : TS} {D : Ends} {H0 : Hp} (up : ∀ {H H' : Hp} {v : V} {a : α}, Ext H H' → Ax H v a → Ax H' v a) (hi : i < σ.length) : ∀ (cs : List (TE × List α)) (p : Addr) (H : Hp) (es : List V) (as0 : List α), Ext H0 H → H p = some (.lst es) → All2 (Ax H) es as0 →
    (∀ c ∈ cs, ∀ p H', Ext H0 H' → GvL Ax c.1 (σ.set i (some (.ref p))) H' c.2) → as0.length + (cs.flatMap (·.2)).length ≤ sizeLine →
    (∀ p' H' vs, Ext H0 H' → H' p' = some (.lst vs) → All2 (Ax H') vs (as0 ++ cs.flatMap (·.2)) → last D (σ.set i (some (.ref p'))) H') → tCat K i (cs.map (·.1)) last D (σ.set i (some (.ref p))) H
  | [], p, H, es, as0, x, hp, r, _, _, k => k p H es x hp (by simpa using r)
  | (c, as) :: cs, p, H, es, as0, x, hp, r, g, hz, k => by
    have e2 : (((c, as) :: cs).flatMap (·.2)) = as ++ cs.flatMap (·.2) := by simp
    rw [e2] at hz k
    rw [List.length_append] at hz
    refine cat_one (Ax := Ax) (as := as) (p := p) up (sl_set hi) hp r (by omega) (g _ List.mem_cons_self p H x) fun p' H' vs x' hp' r' => ?_
    show tCat K i (cs.map (·.1)) last D ((σ.set i (some (.ref p))).set i (some (.ref p'))) H'
    rw [List.set_set]
    refine cat_ok up hi cs p' H' vs (as0 ++ as) (x.trans x') hp' r' (fun c hc => g c (List.mem_cons_of_mem _ hc)) (by rw [List.length_append]; omega) fun p2 H2 vs2 x2 hp2 r2 => ?_
    exact k p2 H2 vs2 x2 hp2 (by rw [← List.append_assoc]; exact r2)
/-- a list of pieces as arguments -/
def lstA : List TE → TA
  | [] => tNil
  | t :: r => tCons t (lstA r)
theorem gvA_all (up : ∀ {H H' : Hp} {v : V} {a : α}, Ext H H' → Ax H v a → Ax H' v a) {H0 : Hp} : ∀ (ts : List (TE × α)) (H : Hp), Ext H0 H → (∀ t ∈ ts, ∀ H', Ext H0 H' → ∀ Q : VK, (∀ v H'', Ext H' H'' → Ax H'' v t.2 → Q v H'') → t.1 σ H' Q) → GvA Ax (lstA (ts.map (·.1))) σ H (ts.map (·.2))
  | [], _, _, _ => gvA_nil
  | t :: ts, H, x, h => gvA_cons up (fun Q q => h t List.mem_cons_self H x Q q) fun H' x' => gvA_all up ts H' (x.trans x') fun u hu => h u (List.mem_cons_of_mem _ hu)
end
/-- [e for v in l], the values known up to the relation that asks nothing of the heap -/
theorem gvL_lc {K : PySem.W.Frag} {te tl : TE} {v : Nat} {σ : St} {H : Hp} {α : Type} {Ax : Hp → V → α → Prop} {as : List α} (xs ys : List V) (hl : ys.length = xs.length) (hz : xs.length ≤ sizeLine)
    (htl : ∀ Q : VK, (∀ a H', Ext H H' → SqL K H' a xs → Q (.ref a) H') → tl σ H Q)
    (el : ∀ (i : Nat) (x y : V) (H' : Hp) (R : VK), xs[i]? = some x → ys[i]? = some y → Ext H H' → (∀ H'', Ext H' H'' → R y H'') → te ((wipe σ [v]).set v (some x)) H' R)
    (hr : ∀ H', Ext H H' → All2 (Ax H') ys as) : GvL Ax (tLc (iAny K tl) (gName v) tYes te [v]) σ H as := fun Q q =>
  .inl (htl _ fun a H1 x1 hS => ⟨a, rfl, ⟨xs, hS⟩, lc_lst ys hl hz hS (fun i x y H' R ex ey x' k => el i x y H' R ex ey (x1.trans x') k) fun D H' x' hD hy => q D ys H' (x1.trans x') hy (hr H' (x1.trans x'))⟩)
end AS

set_option Elab.async false
set_option linter.all false
set_option maxRecDepth 100000
set_option maxHeartbeats 4000000
/-! M3: walks over texts and dicts. -/
namespace AS
open PySem PySem.Spec PyProof.Rows L2
/-! ### a locked dict -/
theorem lock_ext {H H' : Hp} {d : Addr} {od : Obj} {u : HO} (h : H d = some u) (x : Ext (upd H d (.frz od u)) H') : Ext H (upd H' d u) := fun b o e => by
  by_cases hb : b = d
  · subst hb
    rw [upd_same]
    rw [h] at e
    exact e
  · rw [upd_ne hb]
    exact x b o (by rw [upd_ne hb]; exact e)
/-- what is read stays so while d is locked -/
theorem Rd.lock {H : Hp} {d b : Addr} {od : Obj} {u v : HO} (h : H d = some u) (nf : ∀ o w, u ≠ .frz o w) (r : Rd H b v) : Rd (upd H d (.frz od u)) b v := by
  by_cases hb : b = d
  · subst hb
    rcases r with e | ⟨o, e⟩
    · rw [h] at e
      cases e
      exact .inr ⟨od, upd_same⟩
    · rw [h] at e
      cases e
      exact absurd rfl (nf _ _)
  · exact r.imp (fun e => by rw [upd_ne hb]; exact e) fun ⟨o, e⟩ => ⟨o, by rw [upd_ne hb]; exact e⟩
section
variable {te : TE} {v : Nat} {σ : St} {H1 : Hp} {Q : VK}
/-- [e for c in text] -/
theorem lc_str {z : Str} (ys : List V) (hl : ys.length = z.cps.size) (hz : z.cps.size ≤ sizeLine) (el : ∀ (i : Nat) (c : Nat) (y : V) (H : Hp) (R : VK), z.cps[i]? = some c → ys[i]? = some y → Ext H1 H → (∀ H', Ext H H' → R y H') → te ((wipe σ [v]).set v (some (.str ⟨#[c]⟩))) H R)
    (q : ∀ (D : Addr) (H : Hp), Ext H1 H → H1 D = none → H D = some (.lst ys) → Q (.ref D) H) : LcGo (Its z) (gName v) tYes te [v] σ H1 Q := by
  intro D hD
  refine ⟨fun i m H => i ≤ z.cps.size ∧ m = z.cps.size - i ∧ Ext H1 H ∧ H D = some (.lst (ys.take i)), ⟨z.cps.size, Nat.zero_le _, rfl, Ext.refl.new hD, upd_same⟩, fun i m H ⟨hi, hm, hx, ha⟩ => ?_⟩
  by_cases e : i = z.cps.size
  · refine .inl ⟨Nat.le_of_eq e.symm, q D H hx hD ?_⟩
    rw [ha, e, ← hl, List.take_length]
  · have lt : i < z.cps.size := by omega
    refine .inr ⟨lt, fun H' => Ext H1 H' ∧ H' D = some (.lst (ys.take (i + 1))), fun H' q => ⟨z.cps.size - (i + 1), by omega, by omega, rfl, q.1, q.2⟩, fun x H' q => ?_⟩
    obtain ⟨rfl, c, hc, rfl⟩ := q
    refine ⟨wipe_one, ?_⟩
    refine el i c ys[i] H' _ hc (List.getElem?_eq_getElem (by omega)) hx fun H4 x4 => ⟨ys.take i, x4 _ _ ha, by rw [List.length_take]; omega, (hx.trans x4).put hD, ?_⟩
    rw [upd_same, List.take_succ, List.getElem?_eq_getElem (by omega : i < ys.length)]
    rfl
end
end AS

set_option Elab.async false
set_option linter.all false
set_option maxRecDepth 100000
set_option maxHeartbeats 4000000
/-! H1: a law's head and end over the engine: one Bool check of the written part, the defs' function objects, sys.modules among it. -/
namespace AS
open PySem PySem.Spec PyProof.Rows L2

/-! ### the hook -/
/-- what an object names, as far as a proof looks: a def's code, defaults and cells, a class's own names, a dict's values, an instance's fields -/
def kidsA (o : Obj) : List Addr := match o.data with
  | .func fd => He.refV fd.code ++ (He.refV fd.defaults ++ (He.refV fd.kwdefaults ++ fd.closure.map (·.2)))
  | .cls cd => [cd.ns]
  | .dict es _ => es.toList.flatMap fun e => He.refV e.val
  | .seq its _ => its.toList.flatMap He.refV
  | .cell (some v) => He.refV v
  | .fields vs => (match o.cls with
    | .none => []
    | .type "code" => []
    | _ => vs.toList.flatMap He.refV)
  | _ => []
def kinA (o : Obj) : List Addr := match o.dict with
  | some d => d :: kidsA o
  | none => kidsA o
def stepA (g : Addr → Option Obj) (as : List Addr) : List Addr := as.flatMap fun a => match g a with
  | some o => kinA o
  | none => []
def levA (g : Addr → Option Obj) : Nat → List Addr → List Addr
  | 0, _ => []
  | n + 1, as => stepA g as ++ levA g n (stepA g as)
def partA (n : Nat) (g : Addr → Option Obj) : PySem.W.Frag := He.frG g (sysModules :: mainGlobals :: levA g n [mainGlobals])
/-! the same, step by step, each number a number -/
def frAs {α : Type} : List Nat → (List Nat → α) → α
  | [], k => k []
  | a :: r, k => HandSHeadRun.frNat a fun a => frAs r fun r => k (a :: r)
theorem frAs_eq {α : Type} : ∀ (l : List Nat) (k : List Nat → α), frAs l k = k l
  | [], _ => rfl
  | a :: r, k => by
    show HandSHeadRun.frNat a (fun a => frAs r fun r => k (a :: r)) = k (a :: r)
    rw [HandSHeadRun.frNat_eq, frAs_eq r]
def frLev {α : Type} (g : Addr → Option Obj) : Nat → List Addr → (List Addr → α) → α
  | 0, _, k => k []
  | n + 1, as, k => frAs (stepA g as) fun s => frLev g n s fun r => k (s ++ r)
theorem frLev_eq {α : Type} (g : Addr → Option Obj) : ∀ (n : Nat) (as : List Addr) (k : List Addr → α), frLev g n as k = k (levA g n as)
  | 0, _, _ => rfl
  | n + 1, as, k => by
    show frAs (stepA g as) (fun s => frLev g n s fun r => k (s ++ r)) = k (stepA g as ++ levA g n (stepA g as))
    rw [frAs_eq, frLev_eq g n]
def frO {α : Type} (g : Addr → Option Obj) : List Addr → (PySem.W.Frag → α) → α
  | [], k => k []
  | a :: r, k => (match g a with
    | some ⟨c, d, dt, sl⟩ => frO g r fun K => k ((a, ⟨c, d, dt, sl⟩) :: K)
    | none => frO g r k)
theorem frO_eq {α : Type} (g : Addr → Option Obj) : ∀ (as : List Addr) (k : PySem.W.Frag → α), frO g as k = k (He.frG g as)
  | [], _ => rfl
  | a :: r, k => by
    unfold frO He.frG
    cases e : g a with
    | none =>
      rw [List.filterMap_cons, e]
      exact frO_eq g r k
    | some o =>
      obtain ⟨c, d, dt, sl⟩ := o
      rw [List.filterMap_cons, e]
      exact frO_eq g r fun K => k ((a, ⟨c, d, dt, sl⟩) :: K)
abbrev AlA : Type := Bool × List He.FnW
def seenA (chk : PySem.W.Frag → Bool) (fn : List He.DefD) (K : PySem.W.Frag) : AlA := (chk K && fn.all fun d => d.ok K, fn.map fun d => He.fnW K d.at_)
def SaysA (chk : PySem.W.Frag → Bool) (fn : List He.DefD) (K : PySem.W.Frag) : Prop := seenA chk fn K = (true, fn.map He.DefD.val)
def hookA (n : Nat) (chk : PySem.W.Frag → Bool) (fn : List He.DefD) : PySem.W.Hook where
  α := AlA
  obs := fun s => seenA chk fn (partA n s.heap.get?)
  val := fun _ => (true, fn.map He.DefD.val)
  says := fun _ h => ∃ K : PySem.W.Frag, K.In h ∧ SaysA chk fn K
  of := fun _ _ e => ⟨_, He.frG_in, e⟩
  keeps := fun _ _ _ ⟨K, hK, c⟩ k => ⟨K, PySem.W.Frag.In.keeps hK k, c⟩
def obA (n : Nat) (chk : PySem.W.Frag → Bool) (fn : List He.DefD) (s : PySem.W.SharedT) : AlA := frLev (HandSHeadRun.getT s) n [mainGlobals] fun as => frAs as fun as => frO (HandSHeadRun.getT s) (sysModules :: mainGlobals :: as) fun K => seenA chk fn K
theorem obA_eq (n : Nat) (chk : PySem.W.Frag → Bool) (fn : List He.DefD) (s : PySem.W.SharedT) : obA n chk fn s = (hookA n chk fn).obs s.abs := by
  have e : HandSHeadRun.getT s = s.abs.heap.get? := funext (HandSHeadRun.getT_eq s)
  unfold obA
  rw [e, frLev_eq, frAs_eq, frO_eq]
  rfl
section
variable {chk : PySem.W.Frag → Bool} {fn : List He.DefD} {K : PySem.W.Frag}
theorem SaysA.holds (c : SaysA chk fn K) : chk K = true := (b2 (congrArg (fun z : AlA => z.1) c)).1
theorem SaysA.def_ (c : SaysA chk fn K) (i : Nat) {d : He.DefD} (h : fn[i]? = some d) : ∃ fd, FunD K d.name d.qual d.params d.body d.scope (d.dvs K) (d.kws K) (He.fAd K d.at_) fd := by
  have c2 := (b2 (congrArg (fun z : AlA => z.1) c)).2
  have e : fn.map (fun d => He.fnW K d.at_) = fn.map He.DefD.val := congrArg (fun z : AlA => z.2) c
  have e2 := congrArg (fun l => l[i]?) e
  simp only [List.getElem?_map, h] at e2
  exact He.DefD.funD (Option.some.inj e2) (List.all_eq_true.mp c2 d (List.mem_of_getElem? h))
end

/-! ### the end -/
section
variable {P : Program} {w : World} {K : PySem.W.Frag} {mg mb : Str → Option Value} {k : Nat} {fa a : Addr} {sp : Sp} {s₁ : Shared} {vs : List Value} {ns : List Int}
/-- the law's call over a tracked heap that holds at most the script -/
theorem end_core (KX : K.In s₁.heap) (hns : s₁.heap.Ns mainGlobals mg) (hb : s₁.heap.Ns builtinsNs mb) (hbb : ∀ x : Str, x ≠ "__name__" → mb x = bootBuiltins x) (hlim : s₁.heap.NoLimit) (hg : s₁.gens = #[])
    (ha : s₁.heap.get? a = some { cls := .type "list", data := .seq vs.toArray }) (hr : RoomG k callerA) (F : ∀ base : Heap, FnG ⟨P, w, K, mg, base⟩ k fa sp) {H : Hp} (hO : Only H) (hok : HOk P w H s₁.heap) (hA : ∀ b, b ≠ a → H b = none) (hK : H a = none ∨ K.lookup a = none)
    (hsp : sp [.ref a] H (fun v _ => v = .bl true) fun _ _ _ => False) :
    codeAny (model P w) callerA (.call (.ref fa) ⟨[.ref a], []⟩) (fun r s' => r = .ok (.ret (.bool true)) ∧ OldK s₁.heap s'.heap ∧ s'.os = s₁.os ∧ AllBare s'.gens) s₁ := by
  have far : ∀ {b : Addr} {o : Obj}, s₁.heap.get? b = some o → (∀ its n, o.data ≠ .seq its n) → H b = none := fun {b o} e d => by
    refine hA b fun z => ?_
    rw [z, ha] at e
    exact d vs.toArray _ (congrArg Obj.data (Option.some.inj e)).symm
  have ns : ∀ {b : Addr} {m : Str → Option Value}, s₁.heap.Ns b m → (hidT s₁.heap H).Ns b m := fun {b m} q => by
    obtain ⟨o, es, ep, e, d, r⟩ := q
    exact ⟨o, es, ep, hidT_get e (far e fun its n z => by rw [d] at z; cases z), d, r⟩
  have kin : K.In (hidT s₁.heap H) := fun b o e => hidT_get (KX b o e) (by
    by_cases z : b = a
    · rw [z] at e ⊢
      exact hK.elim (fun q => q) fun q => by rw [q] at e; cases e
    · exact hA b z)
  obtain ⟨mc, l1, l2⟩ := hlim
  have e0 : Env0 P w K mg (hidT s₁.heap H) callerA [] s₁ H := ⟨rfl, ⟨kin, ns hns, ⟨mb, ns hb, hbb⟩, ⟨mc, ns l1, l2⟩⟩, fun b o e => of_hidT e, Nat.le_of_eq (hidT_size _ _), trivial, fun b hb => absurd (show b ∈ ([] : List Addr) from hb) (by simp), hok, .of_eq hg⟩
  refine codeAny_mono (F _ callerA [] s₁ H [.ref a] [.ref a] _ _ hr e0 (.cons rfl .nil) hsp) fun r s' h => ?_
  cases r with
  | error e =>
    have z : L2.CX P w [] H s₁ (fun _ _ _ => False) e s' := h
    obtain ⟨_, _, _, _, _, _, _, _, _, _, _, _, z⟩ := z
    exact False.elim z
  | ok fl =>
    cases fl with
    | ret u =>
      obtain ⟨v, H', os, bare, un, hok', r', q⟩ := h
      have q : v = .bl true := q
      subst q
      obtain rfl : u = Value.bool true := r'
      refine ⟨rfl, OldK.of_keep fun b o e => ?_, os, bare⟩
      rcases hO b with z | ⟨ob, xs, z⟩
      · exact un.keep b o e z (fun q => absurd (show b ∈ ([] : List Addr) from q) (by simp)) (by simp)
      · rw [(hok b _ z).1] at e
        rw [← e]
        exact (hok' b _ (un.frzs b ob _ z)).1
    | _ => exact False.elim h
theorem end_call (KX : K.In s₁.heap) (hns : s₁.heap.Ns mainGlobals mg) (hb : s₁.heap.Ns builtinsNs mb) (hbb : ∀ x : Str, x ≠ "__name__" → mb x = bootBuiltins x) (hlim : s₁.heap.NoLimit) (hg : s₁.gens = #[])
    (ha : s₁.heap.get? a = some { cls := .type "list", data := .seq vs.toArray }) (hi : IntsAre vs ns) (hl : ns.length ≤ sizeLine) (hr : RoomG k callerA) (F : ∀ base : Heap, FnG ⟨P, w, K, mg, base⟩ k fa sp)
    (hsp : ∀ H : Hp, SqL K H a (ns.map V.int) → sp [.ref a] H (fun v _ => v = .bl true) fun _ _ _ => False) :
    codeAny (model P w) callerA (.call (.ref fa) ⟨[.ref a], []⟩) (fun r s' => r = .ok (.ret (.bool true)) ∧ OldK s₁.heap s'.heap ∧ s'.os = s₁.os ∧ AllBare s'.gens) s₁ := by
  have rv := vals_ints hi
  cases hk : K.lookup a with
  | some o =>
    have e := KX a o hk
    rw [ha] at e
    cases e
    refine end_core KX hns hb hbb hlim hg ha hr F (H := fun _ => none) (fun _ => .inl rfl) (fun b u z => nomatch (show (none : Option HO) = some u from z)) (fun _ _ => rfl) (.inl rfl) (hsp _ ?_)
    exact .inr ⟨_, vs.toArray, _, hk, rfl, rfl, rfl, by rw [List.size_toArray, hi.length]; exact hl, by simpa using rv⟩
  | none =>
    have at_ : ∀ b, (if b = a then some (HO.frz { cls := .type "list", data := .seq vs.toArray } (.lst (ns.map V.int))) else none) = none ∨ b = a := fun b => by
      by_cases z : b = a
      · exact .inr z
      · exact .inl (if_neg z)
    refine end_core KX hns hb hbb hlim hg ha hr F (H := fun b => if b = a then some (.frz { cls := .type "list", data := .seq vs.toArray } (.lst (ns.map V.int))) else none) (fun b => ?_) (fun b u z => ?_) (fun b z => if_neg z) (.inr hk) (hsp _ (.inl (.inr ⟨_, if_pos rfl⟩)))
    · rcases at_ b with q | q
      · exact .inl q
      · exact .inr ⟨_, _, if_pos q⟩
    · rcases at_ b with q | q
      · have z := q.symm.trans z
        cases z
      · have z := (if_pos q).symm.trans z
        cases z
        subst q
        exact ⟨ha, by rw [List.length_map]; exact hl, vs, _, rv, ha⟩
end
/-- the law, by the promise of its def -/
theorem walk_G {l : PySem.W.OpenLaw} {n k : Nat} {q : Program} {loose : List Str} {XP : (Str → Option Value) → Heap → Prop} {YP : World → Heap → Prop} {d : DefRec} (hn : l.most = some n) (hn2 : n ≤ sizeLine) (hdf : d.params.defaults = []) (hr : RoomG k callerA)
    (F : ∀ (w : World) (mg : Str → Option Value) (fa : Addr) (h : Heap), YP w h → h.Ns mainGlobals mg → mg d.name = some (.ref fa) → ∃ (K : PySem.W.Frag) (sp : Sp), K.In h ∧
        (∀ (H : Hp) (a : Addr) (ns : List Int), ns.length ≤ n → (∀ k ∈ ns, Builtin.Int.intBits k ≤ 1048576) → SqL K H a (ns.map V.int) → sp [.ref a] H (fun v _ => v = .bl true) fun _ _ _ => False) ∧ ∀ base : Heap, FnG ⟨l.prog, w, K, mg, base⟩ k fa sp) :
    PySem.W.WalkO q loose XP YP l.row.toRowW d [] (fun f vs => PySem.call f vs) := by
  refine Att.attach_callB hn hdf fun w s₀ s₁ mg mb fa o pm cd doc a vs ns G Y ho hd hcd hmg hobj hints hlen hbits hg => ?_
  obtain ⟨K, sp, KX, hsp, hF⟩ := F w mg fa _ Y G.T.g hmg
  exact end_call KX G.T.g G.T.b G.T.builtins G.T.nolimit hg hobj hints (Nat.le_trans hlen hn2) hr hF fun H hS => hsp H a ns hlen hbits hS
end AS

set_option Elab.async false
set_option linter.all false
set_option maxRecDepth 100000
set_option maxHeartbeats 4000000
/-! D1: a def of the text and its promise, in few words. -/
namespace AS
open PySem PySem.Spec PyProof.Rows L2
theorem binds_by {K : PySem.W.Frag} {x qual : Str} {params : Arguments} {body : List Stmt} {scope : Scope} {kws : List (Str × V)} {f : Addr} {fd : FuncData} (F : FunD K x qual params body scope [] kws f fd) {args : Args} {bs : List (Str × Value)}
    (h : ∀ (kV doc pm : Value) (an : Option Addr) (cdv ct : Value), bindArgs (PySem.W.fnOf x qual params body scope .none kV doc pm an cdv ct) args = pure bs) (s : Shared) : BindsTo s fd args bs := by
  obtain ⟨oc, od, dV, kV, doc, pm, an, cdv, ct, osl, rfl, lk, hcd, hD, hK⟩ := F.ex
  rcases hD with ⟨_, rfl⟩ | ⟨e, _⟩
  · exact .of_eq (h kV doc pm an cdv ct)
  · exact absurd rfl e
/-- a def as the text has it, at the place where it stands -/
abbrev FnAt (K : PySem.W.Frag) (at_ : Str × Option Str) (x qual : Str) (st : Stmt) (fd : FuncData) : Prop := FunD K x qual (defArgs st) (defBody st) (defScope st) [] [] (He.fAd K at_) fd
/-- the def keeps its promise: its reading, computed, is t; t holds -/
theorem fn_by {S : Sys} {k n : Nat} {f : Addr} {fd : FuncData} {x qual : Str} {st : Stmt} {N ps : List Str} {sp : Sp} {T : PySem.W.Frag → Tabs} {t : PySem.W.Frag → XK → TS} {dvs : List V} {kws : List (Str × V)} (F : FunD S.K x qual (defArgs st) (defBody st) (defScope st) dvs kws f fd) (Sc : FnScope N ps (defScope st)) (hT : TabsOk S k (T S.K)) (len : ∀ vs H Q E, sp vs H Q E → vs.length = ps.length)
    (red : ∀ (K : PySem.W.Frag) (E : XK), blkT (wp (oraOf K (T K)) K N n (ctxD (defScope st) E)).S (defBody st) = t K E) (pure : ∀ vs H Q E, sp vs H Q E → t S.K E { nx := fun _ H' => Q .non H', rt := Q } (start N vs) H) : FnB S (k + 1) f fd ps sp :=
  fn_def (Γ := oraOf S.K (T S.K)) (n := n) F Sc (ora_ok hT) len fun vs H Q E h => by
    rw [red S.K E]
    exact pure vs H Q E h
/-- a global def called by places -/
theorem ent_def {S : Sys} {j k : Nat} {x qual : Str} {st : Stmt} {fd : FuncData} {ps : List Str} {sp : Sp} (F : FnAt S.K (x, none) x qual st fd) (B : FnB S j (He.fAd S.K (x, none)) fd ps sp) (hj : j ≤ k) (hm : S.mg x = some (.ref (He.fAd S.K (x, none)))) (len : ∀ vs H Q E, sp vs H Q E → vs.length = ps.length)
    (hb : ∀ (kV doc pm : Value) (an : Option Addr) (cdv ct : Value) (us : List Value), us.length = ps.length → bindArgs (PySem.W.fnOf x qual (defArgs st) (defBody st) (defScope st) .none kV doc pm an cdv ct) ⟨us, []⟩ = pure (ps.zip us)) : CallE S k x sp :=
  ent_fn (B.pos (fun s us hl => binds_by F (fun kV doc pm an cdv ct => hb kV doc pm an cdv ct us hl) s) len) hj hm F.2
/-- .. as a promise of its own -/
theorem fn_pos {S : Sys} {j : Nat} {f : Addr} {x qual : Str} {st : Stmt} {fd : FuncData} {ps : List Str} {sp : Sp} (F : FunD S.K x qual (defArgs st) (defBody st) (defScope st) [] [] f fd) (B : FnB S j f fd ps sp) (len : ∀ vs H Q E, sp vs H Q E → vs.length = ps.length)
    (hb : ∀ (kV doc pm : Value) (an : Option Addr) (cdv ct : Value) (us : List Value), us.length = ps.length → bindArgs (PySem.W.fnOf x qual (defArgs st) (defBody st) (defScope st) .none kV doc pm an cdv ct) ⟨us, []⟩ = pure (ps.zip us)) : FnG S j f sp :=
  B.pos (fun s us hl => binds_by F (fun kV doc pm an cdv ct => hb kV doc pm an cdv ct us hl) s) len
end AS

set_option Elab.async false
set_option linter.all false
set_option maxRecDepth 100000
set_option maxHeartbeats 4000000
/-! E18: x != y by an own __eq__. -/
namespace PySem.W
open PySem PySem.Spec PyProof.Rows
section
variable {prog : Program} {w : World} {A : Around} {E : Value → Shared → Prop} {s : Shared} {K : Frag} {x C L f : Addr} {h₀ : Heap} {m : Str → Option Value} {ox : Obj} {od : Option Obj} {b tb : Value}
theorem check_ne_K {Q : Unit → Shared → Prop} (X : K.In s.heap) (I : InstAt s.heap x ox C od) (ho : subIn K (.ref C) (.type "object") = some true) (hq : Q () s) : wpAny (model prog w) A (checkBuiltinCall "object.__ne__" ⟨[.ref x, b], []⟩) Q E s := by
  have ha := F.cmpArgs_ne (.ref x) b
  simp only [checkBuiltinCall, F.cmpKind_ne, F.cmpSplit_ne]
  refine wpAny_bind ?_
  unfold isInstance
  refine wpAny_bind (I.type.here ((looks_subIn X ho).here ?_))
  rw [if_neg (by simp)]
  cases hsig : Manifest.signature? "object.__ne__" with
  | none => exact wpAny_pure hq
  | some sig =>
    simp only [argsOk, hsig] at ha
    have h2 : Bind.checkArgs "object.__ne__" sig ⟨[.ref x, b], []⟩ = pure () := ha
    show wpAny _ A (Bind.checkArgs "object.__ne__" sig ⟨[.ref x, b], []⟩) Q E _
    rw [h2]
    exact wpAny_pure hq
theorem objNe_K {Q : Fin → Shared → Prop} (X : K.In s.heap) (I : InstAt s.heap x ox C od) (he : findIn K (.ref C) "__eq__" = some (some (.ref f))) (hf : isFn K (.ref f) = true) (hu : A.units < cLine)
    (hcall : wpAny (model prog w) A (call (.ref f) [.ref x, b]) (fun v s' => ∃ c, v = .bool c ∧ Q (.done (.ret (.bool (!c)))) s') E s) : wpAny (model prog w) A (Builtin.«object.__ne__» ⟨[.ref x, b], []⟩) Q E s := by
  unfold Builtin.«object.__ne__»
  repeat (first
    | with_reducible refine wpAny_cRoomFor hu ?_
    | (refine wpAny_bind (m := callSpecialIfBound? (.ref x) (Str.ofString "__eq__") [b])
        (ifBound_K X I he hf (wpAny_mono hcall (fun r s' hr => by
          obtain ⟨c, rfl, hq⟩ := hr
          repeat (first | exact hq | exact wpAny_pure hq | exact wpAny_truthy_bool hq | (refine wpAny_bind (m := truthy (.bool _)) (wpAny_truthy_bool ?_)) | wp_step)) fun _ _ e => e)))
    | wp_step)
theorem ifBound_B {M : Model} {name : Str} {id : String} {args : List Value} {Q : Option Value → Shared → Prop} (X : K.In s.heap) (I : InstAt s.heap x ox C od) (hs : findIn K (.ref C) name = some (some (.builtin id))) (hb : ∀ self, bindSpecial (.builtin id) self = pure (.builtin id, [self]))
    (h : wpAny M A (call (.builtin id) (.ref x :: args)) (fun v => Q (some v)) E s) : wpAny M A (callSpecialIfBound? (.ref x) name args) Q E s := by
  simp only [callSpecialIfBound?, bindSpecialIfBound?]
  refine wpAny_holding (wpAny_bind (wpAny_bind (wpAny_bind (I.type.here ((looks_findIn X hs).here ?_)))))
  refine wpAny_bind (wpAny_askSetting (wpAny_ite ?_))
  have fin : wpAny M A (call (.builtin id) ([.ref x] ++ args) >>= fun v => pure (some v)) Q E s := wpAny_bind (wpAny_mono h (fun v s' h' => wpAny_pure h') fun _ _ h' => h')
  split
  · rw [hb]
    exact wpAny_bind (wpAny_pure (wpAny_pure fin))
  · rw [hb]
    exact wpAny_tryCatch (wpAny_bind (wpAny_pure (wpAny_pure fin)))
theorem ne_K {Q : Value → Shared → Prop} (hu : A.units + 1 < cLine) (F : Fr h₀ L s.heap m) (X₀ : K.In h₀) (I : InstAt s.heap x ox C od) (hb : Looks (model prog w) s.heap (typeOf b) tb) (hn : notFirst K C tb = true)
    (hs : findIn K (.ref C) "__ne__" = some (some (.builtin "object.__ne__"))) (he : findIn K (.ref C) "__eq__" = some (some (.ref f))) (hf : isFn K (.ref f) = true) (ho : subIn K (.ref C) (.type "object") = some true)
    (h : wpAny (model prog w) A.in1 (call (.ref f) [.ref x, b]) (fun v s' => ∃ c, v = .bool c ∧ Q (.bool (!c)) s') E s) : wpAny (model prog w) A (richCompare .NotEq (.ref x) b) Q E s := by
  have X := X₀.keeps F.keep
  have one : wpAny (model prog w) A (tryCompare (.ref x) "__ne__" b) (fun r s' => ∃ v, r = some v ∧ Q v s') E s := by
    unfold tryCompare
    refine wpAny_bind (ifBound_B X I hs (fun self => PySem.F.cmp_object.ne.bind self) ?_)
    refine wpAny_call (codeAny_call_builtin PySem.F.cmp_object.ne.plain PySem.F.cmpEntry_ne (check_ne_K X I ho (objNe_K (A := A.in1) X I he hf hu (wpAny_mono h (fun v s' hv => ?_) fun _ _ e => e))))
    obtain ⟨c, rfl, hq⟩ := hv
    exact ⟨c, rfl, wpAny_pure ⟨_, rfl, hq⟩⟩
  unfold richCompare
  simp only [oneThing_ref]
  refine wpAny_holding (wpAny_bind (wpAny_cRoomFor (by omega) ?_))
  refine wpAny_bind (I.type.here (wpAny_bind (hb.here ?_)))
  split
  · rename_i q
    have e : subIn K tb (.ref C) = some false := by
      rcases Bool.or_eq_true_iff.mp hn with e | e
      · rw [beq_iff_eq.mp e] at q; simp at q
      · exact beq_iff_eq.mp e
    refine wpAny_bind ((looks_subIn X e).here ?_)
    simp only [Bool.false_eq_true, if_false]
    refine wpAny_bind (wpAny_mono one (fun r s' z => ?_) fun _ _ e => e)
    obtain ⟨v, rfl, hq⟩ := z
    exact wpAny_pure hq
  · refine wpAny_bind (wpAny_pure ?_)
    simp only [Bool.false_eq_true, if_false]
    refine wpAny_bind (wpAny_mono one (fun r s' z => ?_) fun _ _ e => e)
    obtain ⟨v, rfl, hq⟩ := z
    exact wpAny_pure hq
end
end PySem.W
namespace AS
open PySem PySem.Spec PyProof.Rows L2
section
variable {S : Sys} {k : Nat}
/-- x != y, both of C, by the own __eq__ at f -/
def rNeI (K : PySem.W.Frag) (C : Addr) (sp : Sp) : R2E := fun x y H Q E => ∃ a dx fs t, x = .ref a ∧ H a = some (.ins C dx fs) ∧ TyX K H y t ∧ PySem.W.notFirst K C t = true ∧ sp [x, y] H (fun r H' => ∃ b, r = .bl b ∧ Q (.bl (!b)) H') E
theorem ent_ne {C f : Addr} {sp : Sp} {j : Nat} (F : FnG S j f sp) (hj : j + 1 ≤ k) (hs : PySem.W.findIn S.K (.ref C) "__ne__" = some (some (.builtin "object.__ne__"))) (he : PySem.W.findIn S.K (.ref C) "__eq__" = some (some (.ref f))) (hf : PySem.W.isFn S.K (.ref f) = true) (ho : PySem.W.subIn S.K (.ref C) (.type "object") = some true) : CmpE S k .NotEq (rNeI S.K C sp) := by
  intro N X x L hcm pins s σ H y z v u Q I ry rz h
  obtain ⟨a, dx, fs, t, rfl, ea, ty, hn, q⟩ := h
  cases (show v = Value.ref a from ry)
  obtain ⟨ox, od, J⟩ := inst_at I ea
  obtain ⟨m, hF⟩ := I.fr
  rw [← L.hK] at hn hs he hf ho ty
  obtain ⟨P, kx, hP, _⟩ := kit_of I rz ty
  have hu := L.un
  have e0 : compareOp .NotEq (.ref a) u = richCompare .NotEq (.ref a) u := rfl
  rw [e0]
  refine PySem.W.ne_K (tb := t) (by omega) hF I.ok.mod.kin J (kx.ty _ _ I.kIn hP) hn hs he hf ho ?_
  refine wpAny_mono (run_in1 (us := [.ref a, u]) (vs := [.ref a, z]) L hcm F hj I (.cons rfl (.cons rz .nil)) q) (fun w s' z => ?_) fun _ _ x => x
  obtain ⟨z', H', I', rz, c, rfl, qz⟩ := z
  cases rz
  exact ⟨c, rfl, .bl (!c), H', I', rfl, qz⟩
end
end AS

set_option Elab.async false
set_option linter.all false
set_option maxRecDepth 100000
set_option maxHeartbeats 4000000
/-! E19: defs with **kw; classmethods called with keywords. -/
namespace AS
open PySem PySem.Spec PyProof.Rows L2 StX ClX
section
variable {prog : Program} {w : World} {A : Around} {E : Value → Shared → Prop} {d : Addr}
/-- a text key stored in a new dict -/
theorem kw_set {s : Shared} {es : List DictEntry} {n : Nat} {k : Str} {v : Value} {Q : Unit → Shared → Prop} (D : s.heap.get? d = some (PySem.W.dictOf es n)) (hs : ∀ e ∈ es, e.key.isStr k = false) (hr : ∀ e ∈ es, e.refKey = false)
    (h : ∀ h', h'.get? d = some (PySem.W.dictOf (es ++ [⟨PyData.keyHash w.params k, .str k s.toks, v⟩]) (n + 1)) → (∀ b, b ≠ d → h'.get? b = s.heap.get? b) → h'.objs.size = s.heap.objs.size → Q () { s with heap := h', toks := s.toks + 1 }) :
    wpAny (model prog w) A (nsSet d k v) Q E s := by
  have e1 : es.any (·.key.isStr k) = false := by
    cases q : es.any (·.key.isStr k) with
    | false => rfl
    | true => obtain ⟨e, he, z⟩ := List.any_eq_true.mp q; rw [hs e he] at z; cases z
  have e2 : es.any (·.refKey) = false := by
    cases q : es.any (·.refKey) with
    | false => rfl
    | true => obtain ⟨e, he, z⟩ := List.any_eq_true.mp q; rw [hr e he] at z; cases z
  have e : Obj.putName k (PyData.keyHash w.params k) (.str k s.toks) v (PySem.W.dictOf es n) = PySem.W.dictOf (es ++ [⟨PyData.keyHash w.params k, .str k s.toks, v⟩]) (n + 1) := by
    rw [PySem.W.putName_dict, PySem.W.putL_new hs]
    show PySem.W.dictOf _ (if es.any (·.key.isStr k) then n else n + 1) = _
    rw [e1, if_neg Bool.false_ne_true]
  have c : aRefKeyMayBeTheName k es.toArray = false := by
    rw [PySem.aRefKeyMayBeTheName_at, ← Array.any_toList, ← Array.any_toList]
    show (!es.any (·.key.isStr k) && es.any (·.refKey)) = false
    rw [e2, Bool.and_false]
  unfold nsSet
  refine wpAny_bind (wpAny_bind (wpAny_askSetting (wpAny_pure (wpAny_bind (wpAny_mkText (wpAny_bind (wpAny_loadPart D ?_)))))))
  dsimp only
  rw [c]
  have up : (s.heap.update d (Obj.putName k (PyData.keyHash w.params k) (.str k s.toks) v)).get? d = some (Obj.putName k (PyData.keyHash w.params k) (.str k s.toks) v (PySem.W.dictOf es n)) := Heap.get?_update_self _ D (by rw [e]; rfl)
  rw [e] at up
  exact wpAny_updatePart D (h _ up (fun b hb => Heap.get?_update_ne _ _ _ _ hb) (Heap.size_update _ _ _))
theorem kw_fill {Q : PUnit → Shared → Prop} : ∀ (ex : List (Str × Value)) (s : Shared) (es : List DictEntry) (n : Nat), s.heap.get? d = some (PySem.W.dictOf es n) → (∀ e ∈ es, ∀ x ∈ ex, e.key.isStr x.1 = false) → (∀ e ∈ es, e.refKey = false) → (ex.map (·.1)).Nodup →
    (∀ h', h'.get? d = some (PySem.W.dictOf (es ++ PySem.W.kwEs w.params s.toks ex) (n + ex.length)) → (∀ b, b ≠ d → h'.get? b = s.heap.get? b) → h'.objs.size = s.heap.objs.size → Q ⟨⟩ { s with heap := h', toks := s.toks + ex.length }) →
    wpAny (model prog w) A (forIn ex PUnit.unit fun x _ => (nsSet d x.1 x.2 >>= fun _ => pure (ForInStep.yield PUnit.unit))) Q E s
  | [], s, es, n, D, _, _, _, h => by
    rw [List.forIn_nil]
    refine wpAny_pure (h s.heap ?_ (fun _ _ => rfl) rfl)
    show s.heap.get? d = some (PySem.W.dictOf (es ++ []) n)
    rw [List.append_nil]
    exact D
  | x :: r, s, es, n, D, hs, hr, hn, h => by
    obtain ⟨hn1, hn2⟩ := List.nodup_cons.mp (show (x.1 :: r.map (·.1)).Nodup from hn)
    rw [List.forIn_cons]
    refine wpAny_bind (wpAny_bind (kw_set D (fun e he => hs e he x (.head _)) hr fun h' D' k' z' => wpAny_pure ?_))
    show wpAny (model prog w) A (forIn r PUnit.unit fun x _ => (nsSet d x.1 x.2 >>= fun _ => pure (ForInStep.yield PUnit.unit))) Q E { s with heap := h', toks := s.toks + 1 }
    refine kw_fill r { s with heap := h', toks := s.toks + 1 } _ _ D' (fun e he y hy => ?_) (fun e he => ?_) hn2 fun h'' D'' k'' z'' => ?_
    · rcases List.mem_append.mp he with he | he
      · exact hs e he y (.tail _ hy)
      · obtain rfl := List.mem_singleton.mp he
        show (x.1 == y.1) = false
        exact beq_eq_false_iff_ne.mpr fun q => hn1 (by rw [q]; exact List.mem_map_of_mem hy)
    · rcases List.mem_append.mp he with he | he
      · exact hr e he
      · obtain rfl := List.mem_singleton.mp he
        rfl
    · have t1 : s.toks + 1 + r.length = s.toks + (r.length + 1) := by omega
      have t2 : n + 1 + r.length = n + (r.length + 1) := by omega
      show Q ⟨⟩ { s with heap := h'', toks := s.toks + 1 + r.length }
      rw [t1]
      refine h h'' ?_ (fun b hb => (k'' b hb).trans (k' b hb)) (z''.trans z')
      rw [t2, List.append_assoc] at D''
      exact D''
theorem kw_pairs {P : Program} {w : World} : ∀ (ex : List (Str × Value)) (t : Tok), Pairs (mixKind P w) (PySem.W.kwEs w.params t ex) (ex.map fun x => (Sum.inr x.1, x.2))
  | [], _ => .nil
  | x :: r, t => .cons (by show Value.isStrOf x.1 (.str x.1 t) = true; unfold Value.isStrOf; exact beq_self_eq_true _) rfl (kw_pairs r (t + 1))
theorem kw_dict {P : Program} {w : World} {h : Heap} {ex : List (Str × Value)} {t : Tok} {n : Nat} (D : h.get? d = some (PySem.W.dictOf (PySem.W.kwEs w.params t ex) n)) (hn : (ex.map (·.1)).Nodup) : h.DictOf (mixKind P w) d (ex.map fun x => (Sum.inr x.1, x.2)) := by
  refine ⟨_, (PySem.W.kwEs w.params t ex).toArray, n, D, ⟨rfl, rfl, rfl⟩, rfl, fun e he => ?_, kw_pairs ex t, ?_⟩
  · obtain ⟨k, u, hk, hh⟩ := PySem.W.kwEs_key ex t e (List.mem_toArray.mp he)
    exact ⟨.inr k, by rw [hk]; show Value.isStrOf k (.str k u) = true; unfold Value.isStrOf; exact beq_self_eq_true _, hh.trans rfl⟩
  · rw [List.map_map]
    show (ex.map fun x => (Sum.inr x.1 : Key)).Nodup
    have e : (ex.map fun x => (Sum.inr x.1 : Key)) = (ex.map (·.1)).map Sum.inr := by rw [List.map_map]; rfl
    rw [e]
    unfold List.Nodup
    rw [List.pairwise_map]
    exact List.Pairwise.imp (fun {a b} q z => q (Sum.inr.inj z)) hn
end
section
variable {P : Program} {w : World} {K : PySem.W.Frag} {mg : Str → Option Value} {base : Heap} {A : Around} {outer : List Env} {s : Shared} {H : Hp}
theorem env0_grown {h' : Heap} {t' : Tok} {u : HO} (e0 : Env0 P w K mg base A outer s H) (kp : ∀ b x, s.heap.get? b = some x → h'.get? b = some x) (hz : s.heap.objs.size ≤ h'.objs.size) (new : ObjOk P w (upd H s.heap.objs.size u) h' s.heap.objs.size u) :
    Env0 P w K mg base A outer { s with heap := h', toks := t' } (upd H s.heap.objs.size u) := by
  refine ⟨e0.frames, e0.mod, fun b x e => ⟨kp b x (e0.bs b x e).1, ?_⟩, Nat.le_trans e0.bsz hz, Heap.FunFrames.of_keeps (fun b x e _ => ⟨x, kp b x e, rfl⟩) e0.funs, fun b hb => ?_, e0.hok.laid kp (Nat.le_refl _) new, e0.bare⟩
  · rw [upd_ne (Nat.ne_of_lt (Heap.lt_size (e0.bs b x e).1))]
    exact (e0.bs b x e).2
  · obtain ⟨_, x, hx, _⟩ := e0.funs.mem hb
    rw [upd_ne (Nat.ne_of_lt (Heap.lt_size hx))]
    exact e0.frf b hb
end
/-- a new dict of the keywords behind the values by places -/
def kwSp (ks : List Str) (sp : Sp) : SpK := fun vs zs H Q E => zs.length = ks.length ∧ ∀ p, H p = none → sp (vs ++ [V.ref p]) (upd H p (.dK ((ks.map Sum.inr).zip zs))) Q E
/-- the function at f, called with n values and the keywords ks -/
def FnK (S : Sys) (k : Nat) (f : Addr) (n : Nat) (ks : List Str) (sp : SpK) : Prop := ∀ (A : Around) (outer : List Env) (s : Shared) (H : Hp) (us ws : List Value) (vs zs : List V) (Q : VK) (E : XK), RoomG k A → Env0 S.P S.w S.K S.mg S.base A outer s H → Vals vs us → vs.length = n → Vals zs ws → sp vs zs H Q E →
  codeAny (model S.P S.w) A (.call (.ref f) ⟨us, ks.zip ws⟩) (CR (L2.CX S.P S.w) outer S.P S.w H s Q E) s
theorem kv_zip : ∀ {ks : List Str} {zs : List V} {ws : List Value}, Vals zs ws → zs.length = ks.length → KV ((ks.map Sum.inr).zip zs : List (Key × V)) ((ks.zip ws).map fun x => (Sum.inr x.1, x.2))
  | [], _, _, r, h => by
    cases r with
    | nil => exact .nil
    | cons _ _ => cases h
  | k :: ks, _, _, r, h => by
    cases r with
    | nil => cases h
    | cons r1 r2 => exact .cons ⟨rfl, r1⟩ (kv_zip r2 (Nat.succ.inj h))
theorem fn_kwG {Γ : Bool → Ora} {S : Sys} {k n : Nat} {f : Addr} {fd : FuncData} {x qual : Str} {params : Arguments} {body : List Stmt} {scope : Scope} {N ps : List Str} {pd : Str} {sp : Sp} (ks : List Str) (F : FunD S.K x qual params body scope [] [] f fd) (Sc : FnScope N (ps ++ [pd]) scope) (hΓ : Sound Γ S k N) (hks : ks.Nodup) (hz : ks.length ≤ 1000)
    (hb : ∀ (kV doc pm : Value) (an : Option Addr) (cdv ct : Value) (us ws : List Value), us.length = ps.length → ws.length = ks.length → bindArgs (PySem.W.fnOf x qual params body scope .none kV doc pm an cdv ct) ⟨us, ks.zip ws⟩ =
      ((alloc (PySem.W.dictOf [] 0) : Sem Addr) >>= fun d => (forIn (ks.zip ws) PUnit.unit fun x _ => (nsSet d x.1 x.2 >>= fun _ => pure (ForInStep.yield PUnit.unit))) >>= fun _ => pure (ps.zip us ++ [(pd, Value.ref d)])))
    (body_ok : ∀ vs H Q E, sp vs H Q E → blkT (wp Γ S.K N n (ctxD scope E)).S body { nx := fun _ H' => Q .non H', rt := Q } (start N vs) H) : FnK S (k + 1) f ps.length ks (kwSp ks sp) := by
  intro A outer s H us ws vs zs Q E hr e0 r hl rz hsp
  obtain ⟨oc, od, dV, kV, doc, pm, an, cdv, ct, osl, rfl, lk, hcd, hD, _⟩ := F.1
  obtain ⟨hzl, hq⟩ := hsp
  have hdn : dV = .none := by
    rcases hD with ⟨_, e⟩ | ⟨e, _⟩
    · exact e
    · exact absurd rfl e
  subst hdn
  have hn : H s.heap.objs.size = none := e0.hok.fresh (Nat.le_refl _)
  have hl1 : us.length = ps.length := by rw [← r.length]; exact hl
  have hl2 : ws.length = ks.length := by rw [← rz.length]; exact hzl
  refine run_bnd (CX := L2.CX S.P S.w) (N := N) lk hcd Sc hr.r e0 (G := fun xs H2 => ∃ p, H p = none ∧ xs = vs ++ [V.ref p] ∧ H2 = upd H p (.dK ((ks.map Sum.inr).zip zs))) (fun A' Ex Q' h => ?_) fun s2 H2 xs ⟨p, hp, ex, eH⟩ hr' => ?_
  · rw [hb kV doc pm an cdv ct us ws hl1 hl2]
    have en : ((ks.zip ws).map (·.1)) = ks := List.map_fst_zip (by omega)
    refine wpAny_bind (wpAny_alloc (wpAny_bind (kw_fill (ks.zip ws) { s with heap := s.heap.push (PySem.W.dictOf [] 0) } [] 0 (Heap.get?_push_size _ rfl) (fun _ he => nomatch he) (fun _ he => nomatch he) (by rw [en]; exact hks) fun h' D' k' z' => wpAny_pure ?_)))
    rw [List.nil_append] at D'
    have kp : ∀ b o, s.heap.get? b = some o → h'.get? b = some o := fun b o e => by
      rw [k' b (Nat.ne_of_lt (Heap.lt_size e))]
      exact Heap.get?_push_of_some _ e
    have hsz : s.heap.objs.size ≤ h'.objs.size := by
      rw [z']
      show s.heap.objs.size ≤ (s.heap.push _).objs.size
      rw [Heap.size_push]
      exact Nat.le_succ _
    have big : (1000 : Nat) ≤ sizeLine := by decide
    have new : ObjOk S.P S.w (upd H s.heap.objs.size (.dK ((ks.map Sum.inr).zip zs))) h' s.heap.objs.size (.dK ((ks.map Sum.inr).zip zs)) :=
      dk_new (by rw [List.length_zip, List.length_map]; omega) (beq_eq_false_iff_ne.mpr (Ne.symm (Nat.ne_of_lt (env0_big e0)))) (kv_zip rz hzl) (kw_dict D' (by rw [en]; exact hks))
    have un : Un (frs outer) [] H (upd H s.heap.objs.size (.dK ((ks.map Sum.inr).zip zs))) s.heap h' := Un.laid kp (Nat.le_refl _) hn
    have z := h _ _ (vs ++ [V.ref s.heap.objs.size]) (us ++ [Value.ref s.heap.objs.size]) (env0_grown (t' := s.toks + (ks.zip ws).length) e0 kp hsz new) un rfl (fun e s' => cxUp outer s H _ _ E e s' un kp rfl) (r.append (.cons rfl .nil))
      (by rw [List.length_append, List.length_append, hl] <;> rfl) ⟨_, hn, rfl, rfl⟩
    rw [List.zip_append hl1.symm] at z
    exact z
  · subst ex eH
    have L := like_def (S := S) (k := k) (qual := qual) (scope := scope) (f := f) (cdv := cdv) (outer := outer) (s := s2) (H := upd H p (.dK ((ks.map Sum.inr).zip zs))) (E := E) Sc.nd hr
    exact ⟨_, pss_blk (right hΓ n _ _ L).S body, body_ok _ _ Q E (hq p hp)⟩
/-- without keywords -/
theorem FnK.pos {S : Sys} {k : Nat} {f : Addr} {n : Nat} {sp : SpK} (F : FnK S k f n [] sp) : FnG S k f (fun vs H Q E => vs.length = n ∧ sp vs [] H Q E) := fun A outer s H us vs Q E r e0 rv ⟨hl, h⟩ => F A outer s H us [] vs [] Q E r e0 rv hl .nil h
/-! ### C.m(.., k = ..) -/
theorem meth_callK {prog : Program} {w : World} {A : Around} {E : Value → Shared → Prop} {s : Shared} {env : Env} {o : Expr} {name : Str} {apos pos : Pos} {args : List Expr} {kws : List Keyword} {Q : Value → Shared → Prop} (hbase : attributeBase o name env (eval o env) = eval o env) (hpl : args.all plainA = true) (hlen : args.length + kws.length < 25) (hall : (backToKw pos (keywordEach kws env)).all (fun x => x.1.isSome) = true) (hline : (apos.endLine == pos.line) = true)
    (h : wpAny (model prog w) A (eval o env) (fun ov s1 => ∀ pl : Sem Bool, wpAny (model prog w) A (getMethod ov name pl) (fun q s2 => wpAny (model prog w) A (callWith pos q.1 q.2 (backTo pos (starEach args env)) (backToKw pos (keywordEach kws env))) Q E s2) E s1) E s) :
    wpAny (model prog w) A (eval (.Call (.Attribute o name apos) args kws pos) env) Q E s := by
  rw [arm_eval_Call, hbase]
  refine wpAny_bind (wpAny_mono h (fun ov s1 h1 => ?_) fun _ _ e => e)
  refine wpAny_bind (wpAny_standAt ?_)
  have hform : methodCallForm (args.length + kws.length) (backTo pos (starEach args env)) (backToKw pos (keywordEach kws env)) = true := by
    show ((backTo pos (starEach args env)).all (fun x => !x.1) && (backToKw pos (keywordEach kws env)).all (fun x => x.1.isSome) && decide (args.length + kws.length + (if (backToKw pos (keywordEach kws env)).isEmpty then 0 else 1) < 30)) = true
    rw [bk_any hpl, hall]
    have d : decide (args.length + kws.length + (if (backToKw pos (keywordEach kws env)).isEmpty then 0 else 1) < 30) = true := decide_eq_true (by split <;> omega)
    rw [d]
    rfl
  have hpos : methodCallPos true o env apos pos = pure pos := by unfold methodCallPos; simp [hline]
  unfold methodCall
  rw [hform]
  refine wpAny_bind (wpAny_holding (wpAny_mono (h1 _) (fun q s2 h2 => ?_) fun _ _ e => e))
  exact wpAny_bind (wpAny_of_eq hpos h2)
section
variable {S : Sys} {k : Nat}
theorem run_cmK {N : List Str} {X : Cx} {x : Ctx} {C g q : Addr} {j n : Nat} {ks : List Str} {sp : SpK} {pins : List (Addr × Obj)} {σ : St} {H : Hp} {s : Shared} {Q : VK} {us ws : List Value} {vs zs : List V} (L : Like S k N X x) (hc : x.c = true) (F : FnK S j g n ks sp) (hj : j ≤ k) (I : Inv X ((q, PySem.W.methodObj (.ref g) (.ref C)) :: pins) σ H s)
    (r : Vals vs us) (hl : vs.length + 1 = n) (rz : Vals zs ws) (h : sp (.ref C :: vs) zs H Q fun c d H' => x.W c d σ H') : wpAny (model X.prog X.w) X.A (call (.ref q) us (ks.zip ws)) (EP X pins σ Q) X.xe s := by
  have q0 := F X.A X.stack s H (.ref C :: us) ws (.ref C :: vs) zs Q _ (L.roomG hc I hj) (L.env0 I) (.cons rfl r) (by rw [List.length_cons]; exact hl) rz h
  rw [← L.hP, ← L.hw] at q0
  have z : wpAny (model X.prog X.w) X.A (call (.ref q) us (ks.zip ws)) (EP X ((q, PySem.W.methodObj (.ref g) (.ref C)) :: pins) σ Q) X.xe s := by
    refine wpAny_call (PySem.W.method_call (pin_at I) (codeAny_mono q0 fun r s' hq => ?_))
    rw [L.hP, L.hw] at hq
    have z := L.back I hq
    cases r with
    | error e => exact z
    | ok fl =>
      cases fl with
      | ret u => exact z
      | _ => exact z.elim
  exact thn z fun _ _ y => unpinE y
/-- C.m(k = ..), m a classmethod with **kw, nothing by places -/
theorem ent_cmK {C p g : Addr} {mc : Value} {m : Str} {j : Nat} {ks : List Str} {sp : SpK} (r : CRead S.K C mc) (c : CMet S.K C mc m p g) (F : FnK S j g 1 ks sp) (hj : j ≤ k) : MtKE S k m ks (fun x _ => x = .ref C, fun vs zs H Q E => vs = [.ref C] ∧ sp vs zs H Q E) := by
  intro N X x L hc o es kws to t tk pp pos hs hpl hline hlen hks ho ha hkw
  obtain ⟨k1, k2, k3⟩ := kws_ok (env := X.env) (pos := pos) hks
  refine ⟨fun pins s σ H Q I h => ?_⟩
  refine meth_callK (sup_no hs) hpl hlen k1 hline (thn (ho.run pins s σ H _ I h) fun u s1 ⟨y, H1, I1, ry, ey, q1⟩ pl => ?_)
  have ey : y = .ref C := ey
  subst ey
  obtain rfl : u = Value.ref C := ry
  have r' : CRead X.K C mc := by rw [L.hK]; exact r
  have c' : CMet X.K C mc m p g := by rw [L.hK]; exact c
  refine getmethcm_ok I1 r' c' fun s2 I2 => ?_
  have kl : ∀ {pins : List (Addr × Obj)} {σ : St} {H : Hp} {s : Shared} {R : List V → Hp → Prop}, Inv X pins σ H s → tk σ H R → wpAny (model X.prog X.w) X.A (evalAll ((backToKw pos (keywordEach kws X.env)).map (·.2))) (AP X pins σ R) X.xe s := fun {pins σ H s R} I h => hkw.run pos pins s σ H R I h
  have nx : ∀ {us : List Value}, Vals [] us → us = [] := fun {us} r => by cases r; rfl
  have nl : ∀ {vs : List V}, V.ref C :: vs = [V.ref C] → vs = [] := fun e => (List.cons.inj e).2
  cases es with
  | nil =>
    refine PySem.W.callWith_of (P := PySem.W.MethP X.K s1.heap.objs.size g (.ref C)) (by show ((backTo pos (starEach [] X.env)).any (·.1) || (backToKw pos (keywordEach kws X.env)).any (·.1.isNone)) = false; rw [k3]; rfl) (PySem.W.keeps_M c'.fi) (evalArgs_kw2_nil k1 ?_)
    rw [k2]
    have h3 : wpAny (model X.prog X.w) X.A (spliced (backTo pos (starEach [] X.env)) >>= fun _ => evalAll ((backToKw pos (keywordEach kws X.env)).map (·.2))) (fun ws s3 => PySem.W.MethP X.K s1.heap.objs.size g (.ref C) s3.heap ∧ wpAny (model X.prog X.w) X.A (call (.ref s1.heap.objs.size) [] (ks.zip ws)) (EP X pins σ Q) X.xe s3) X.xe s2 := by
      refine wpAny_bind (thn (ha.run pos _ s2 σ H1 _ I2 q1) fun us s3 ⟨vs, H2, I3, rv, q2⟩ => ?_)
      refine thn (kl I3 q2) fun ws s4 ⟨zs, H3, I4, rz, q3⟩ => ⟨⟨pin_at I4, I4.kIn⟩, ?_⟩
      have hv := nl q3.1
      subst hv
      exact run_cmK (us := []) L hc F hj I4 .nil rfl rz q3.2
    exact h3
  | cons e es =>
    obtain ⟨h1, h2⟩ := b2 (show (plainA e && es.all plainA) = true from hpl)
    refine PySem.W.callWith_of (P := PySem.W.MethP X.K s1.heap.objs.size g (.ref C)) (by rw [k3, star_all hpl]; rfl) (PySem.W.keeps_M c'.fi) (evalArgs_kw2 k1 (thn (ha.run pos _ s2 σ H1 _ I2 q1) fun us s3 ⟨vs, H2, I3, rv, q2⟩ => ?_) (star_one h1))
    refine thn (kl I3 q2) fun ws s4 ⟨zs, H3, I4, rz, q3⟩ => ⟨⟨pin_at I4, I4.kIn⟩, ?_⟩
    have hv := nl q3.1
    subst hv
    rw [k2, nx rv]
    exact run_cmK (us := []) L hc F hj I4 .nil rfl rz q3.2
end
end AS

set_option Elab.async false
set_option linter.all false
set_option maxRecDepth 100000
set_option maxHeartbeats 4000000
/-! P1: data as values. D is a datum; Rp says that a value stands for a datum in a heap; Hs is the part of the heap that is never written again. -/
namespace AS
open PySem PySem.Spec PyProof.Rows L2

inductive D where
  | non | bl (b : Bool) | int (i : Int) | str (x : Str)
  | lst (ds : List D) | tup (ds : List D) | dic (es : List (Key × D))
  | ins (C : Addr) (fs : List (Str × D))
  | rng | cst (v : V)
mutual
inductive Rp (r : Option Addr) (H : Hp) : V → D → Prop
  | non : Rp r H .non .non
  | bl (b : Bool) : Rp r H (.bl b) (.bl b)
  | int (i : Int) : Rp r H (.int i) (.int i)
  | str (x : Str) : Rp r H (.str x) (.str x)
  | lst {a : Addr} {xs : List V} {ds : List D} : H a = some (.lst xs) → ds.length ≤ sizeLine → Rps r H xs ds → Rp r H (.ref a) (.lst ds)
  | tup {a : Addr} {xs : List V} {ds : List D} : H a = some (.tup xs) → ds.length ≤ sizeLine → Rps r H xs ds → Rp r H (.ref a) (.tup ds)
  | dic {a : Addr} {kvs : List (Key × V)} {es : List (Key × D)} : Rd H a (.dK kvs) → es.length ≤ sizeLine → kvs.map (·.1) = es.map (·.1) → Rps r H (kvs.map (·.2)) (es.map (·.2)) → Rp r H (.ref a) (.dic es)
  | ins {a C dx : Addr} {fs : List (Str × V)} {gs : List (Str × D)} : H a = some (.ins C dx fs) → fs.map (·.1) = gs.map (·.1) → Rps r H (fs.map (·.2)) (gs.map (·.2)) → Rp r H (.ref a) (.ins C gs)
  | rng {a : Addr} : r = some a → Rp r H (.ref a) .rng
  | cst (v : V) : Rp r H v (.cst v)
inductive Rps (r : Option Addr) (H : Hp) : List V → List D → Prop
  | nil : Rps r H [] []
  | cons {v : V} {vs : List V} {d : D} {ds : List D} : Rp r H v d → Rps r H vs ds → Rps r H (v :: vs) (d :: ds)
end
section
variable {r : Option Addr} {H H' Hs Hs' : Hp}
mutual
theorem Rp.ext (x : Ext H H') : ∀ {v : V} {d : D}, Rp r H v d → Rp r H' v d
  | _, _, .non => .non
  | _, _, .bl b => .bl b
  | _, _, .int i => .int i
  | _, _, .str z => .str z
  | _, _, .lst h z t => .lst (x _ _ h) z (Rps.ext x t)
  | _, _, .tup h z t => .tup (x _ _ h) z (Rps.ext x t)
  | _, _, .dic h z k t => .dic (x.rd h) z k (Rps.ext x t)
  | _, _, .ins h k t => .ins (x _ _ h) k (Rps.ext x t)
  | _, _, .rng h => .rng h
  | _, _, .cst v => .cst v
theorem Rps.ext (x : Ext H H') : ∀ {v : List V} {d : List D}, Rps r H v d → Rps r H' v d
  | _, _, .nil => .nil
  | _, _, .cons h t => .cons (Rp.ext x h) (Rps.ext x t)
end
/-- what is read is the same: locked dicts are dicts -/
def Same (H H' : Hp) : Prop := (∀ b o, H b = some o → H' b = some o ∨ ∃ kvs, Rd H b (.dK kvs) ∧ Rd H' b (.dK kvs))
theorem Same.rd {a : Addr} {kvs : List (Key × V)} (x : Same H H') (h : Rd H a (.dK kvs)) : Rd H' a (.dK kvs) := by
  rcases h with e | ⟨o, e⟩
  · rcases x a _ e with q | ⟨k2, q1, q2⟩
    · exact .inl q
    · rcases q1 with z | ⟨o, z⟩ <;> rw [e] at z <;> cases z
      exact q2
  · rcases x a _ e with q | ⟨k2, q1, q2⟩
    · exact .inr ⟨o, q⟩
    · rcases q1 with z | ⟨o, z⟩ <;> rw [e] at z <;> cases z
      exact q2
theorem Same.at {a : Addr} {o : HO} (x : Same H H') (h : H a = some o) (n : ∀ kvs, o ≠ .dK kvs) (n2 : ∀ ob kvs, o ≠ .frz ob (.dK kvs)) : H' a = some o := by
  rcases x a _ h with q | ⟨k2, q1, q2⟩
  · exact q
  · rcases q1 with z | ⟨ob, z⟩ <;> rw [h] at z <;> cases z
    · exact absurd rfl (n _)
    · exact absurd rfl (n2 _ _)
mutual
theorem Rp.same (x : Same H H') : ∀ {v : V} {d : D}, Rp r H v d → Rp r H' v d
  | _, _, .non => .non
  | _, _, .bl b => .bl b
  | _, _, .int i => .int i
  | _, _, .str z => .str z
  | _, _, .lst h y t => .lst (x.at h (fun _ z => nomatch z) fun _ _ z => nomatch z) y (Rps.same x t)
  | _, _, .tup h y t => .tup (x.at h (fun _ z => nomatch z) fun _ _ z => nomatch z) y (Rps.same x t)
  | _, _, .dic h z k t => .dic (x.rd h) z k (Rps.same x t)
  | _, _, .ins h k t => .ins (x.at h (fun _ z => nomatch z) fun _ _ z => nomatch z) k (Rps.same x t)
  | _, _, .rng h => .rng h
  | _, _, .cst v => .cst v
theorem Rps.same (x : Same H H') : ∀ {v : List V} {d : List D}, Rps r H v d → Rps r H' v d
  | _, _, .nil => .nil
  | _, _, .cons h t => .cons (Rp.same x h) (Rps.same x t)
end
theorem Rps.len : ∀ {vs : List V} {ds : List D}, Rps r H vs ds → vs.length = ds.length
  | _, _, .nil => rfl
  | _, _, .cons _ t => by rw [List.length_cons, List.length_cons, Rps.len t]
theorem Rps.get : ∀ {vs : List V} {ds : List D} {i : Nat} {d : D}, Rps r H vs ds → ds[i]? = some d → ∃ v, vs[i]? = some v ∧ Rp r H v d
  | _, _, _, _, .nil, e => by cases e
  | _, _, 0, _, .cons h _, e => by cases e; exact ⟨_, rfl, h⟩
  | _, _, i + 1, d, .cons _ t, e => by
    obtain ⟨v, h1, h2⟩ := Rps.get (i := i) (d := d) t (by simpa using e)
    exact ⟨v, by simpa using h1, h2⟩
theorem Rps.get' : ∀ {vs : List V} {ds : List D} {i : Nat} {v : V}, Rps r H vs ds → vs[i]? = some v → ∃ d, ds[i]? = some d ∧ Rp r H v d
  | _, _, _, _, .nil, e => by cases e
  | _, _, 0, _, .cons h _, e => by cases e; exact ⟨_, rfl, h⟩
  | _, _, i + 1, d, .cons _ t, e => by
    obtain ⟨v, h1, h2⟩ := Rps.get' (i := i) t (by simpa using e)
    exact ⟨v, by simpa using h1, h2⟩
theorem Rps.app : ∀ {vs ws : List V} {ds es : List D}, Rps r H vs ds → Rps r H ws es → Rps r H (vs ++ ws) (ds ++ es)
  | _, _, _, _, .nil, s => s
  | _, _, _, _, .cons h t, s => .cons h (Rps.app t s)
theorem Rps.set {v : V} {d : D} (h : Rp r H v d) : ∀ {vs : List V} {ds : List D} (i : Nat), Rps r H vs ds → Rps r H (vs.set i v) (ds.set i d)
  | _, _, _, .nil => .nil
  | _, _, 0, .cons _ t => .cons h t
  | _, _, i + 1, .cons q t => .cons q (Rps.set h i t)
theorem Rps.rev : ∀ {vs : List V} {ds : List D}, Rps r H vs ds → Rps r H vs.reverse ds.reverse
  | _, _, .nil => .nil
  | _, _, .cons h t => by
    rw [List.reverse_cons, List.reverse_cons]
    exact (Rps.rev t).app (.cons h .nil)
theorem Rps.take : ∀ {vs : List V} {ds : List D} (n : Nat), Rps r H vs ds → Rps r H (vs.take n) (ds.take n)
  | _, _, 0, _ => .nil
  | _, _, _ + 1, .nil => .nil
  | _, _, n + 1, .cons h t => .cons h (Rps.take n t)
theorem Rps.drop : ∀ {vs : List V} {ds : List D} (n : Nat), Rps r H vs ds → Rps r H (vs.drop n) (ds.drop n)
  | _, _, 0, h => h
  | _, _, _ + 1, .nil => .nil
  | _, _, n + 1, .cons _ t => Rps.drop n t
theorem Rps.mem {v : V} : ∀ {vs : List V} {ds : List D}, Rps r H vs ds → v ∈ vs → ∃ d ∈ ds, Rp r H v d
  | _, _, .nil, e => by cases e
  | _, _, .cons h t, e => by
    rcases List.mem_cons.mp e with rfl | e
    · exact ⟨_, List.mem_cons_self, h⟩
    · obtain ⟨d, q1, q2⟩ := Rps.mem t e
      exact ⟨d, List.mem_cons_of_mem _ q1, q2⟩
end

/-! ### the frame of a call -/
/-- the shared part Hs of H; the drawer at r is not in it -/
structure Ok (r : Option Addr) (Hs H : Hp) : Prop where
  sub : Ext Hs H
  rg : ∀ a, r = some a → Hs a = none ∧ RngAt H a
structure Stp (r : Option Addr) (Hs H Hs' H' : Hp) : Prop where
  sh : Ext Hs Hs'
  kp : ∀ b o, r ≠ some b → H b = some o → H' b = some o
  nw : ∀ b o, H b = some o → Hs b = none → Hs' b = none
section
variable {r : Option Addr} {Hs H Hs' H' Hs2 H2 : Hp}
theorem Stp.refl : Stp r Hs H Hs H := ⟨Ext.refl, fun _ _ _ e => e, fun _ _ _ e => e⟩
theorem RngAt.ex {H : Hp} {a : Addr} (h : RngAt H a) : ∃ o, H a = some o := by
  obtain ⟨_, _, e, _⟩ := h
  exact ⟨_, e⟩
theorem Stp.at (s : Stp r Hs H Hs' H') (k : Ok r Hs' H') {b : Addr} {o : HO} (e : H b = some o) : ∃ o', H' b = some o' := by
  by_cases z : r = some b
  · exact ((k.rg b z).2).ex
  · exact ⟨o, s.kp b o z e⟩
theorem Stp.trans (s : Stp r Hs H Hs' H') (k : Ok r Hs' H') (t : Stp r Hs' H' Hs2 H2) : Stp r Hs H Hs2 H2 :=
  ⟨s.sh.trans t.sh, fun b o n e => t.kp b o n (s.kp b o n e), fun b o e n => by
    obtain ⟨o', e'⟩ := s.at k e
    exact t.nw b o' e' (s.nw b o e n)⟩
/-- a new thing, shared at once -/
theorem Stp.new {p : Addr} {o : HO} (hp : H p = none) (hs : Hs p = none) : Stp r Hs H (upd Hs p o) (upd H p o) :=
  ⟨Ext.refl.new hs, fun b u _ e => by rw [upd_ne (ne_of_none e hp)]; exact e, fun b u e n => by rw [upd_ne (ne_of_none e hp)]; exact n⟩
/-- a new thing that is not shared -/
theorem Stp.own {p : Addr} {o : HO} (hp : H p = none) : Stp r Hs H Hs (upd H p o) :=
  ⟨Ext.refl, fun b u _ e => by rw [upd_ne (ne_of_none e hp)]; exact e, fun _ _ _ n => n⟩
theorem Ok.nn {p : Addr} (k : Ok r Hs H) (hp : H p = none) : Hs p = none := k.sub.none hp
theorem Ok.ner {p : Addr} {o : HO} (k : Ok r Hs H) (h : Hs p = some o) : r ≠ some p := fun z => by
  rw [(k.rg p z).1] at h
  cases h
theorem Ok.ner' {p : Addr} (k : Ok r Hs H) (h : H p = none) : r ≠ some p := fun z => by
  obtain ⟨o, e⟩ := ((k.rg p z).2).ex
  rw [e] at h
  cases h
theorem RngAt.ne {H : Hp} {a p : Addr} {o : HO} (h : RngAt H a) (n : a ≠ p) : RngAt (upd H p o) a := by
  obtain ⟨x, y, e, q⟩ := h
  exact ⟨x, y, by rw [upd_ne n]; exact e, q⟩
theorem Ok.new {p : Addr} {o : HO} (k : Ok r Hs H) (hp : H p = none) : Ok r (upd Hs p o) (upd H p o) := by
  refine ⟨fun b u e => ?_, fun a z => ?_⟩
  · by_cases q : b = p
    · subst q
      rw [upd_same] at e ⊢
      exact e
    · rw [upd_ne q] at e ⊢
      exact k.sub b u e
  · have n : a ≠ p := fun q => k.ner' hp (by rw [← q]; exact z)
    exact ⟨by rw [upd_ne n]; exact (k.rg a z).1, (k.rg a z).2.ne n⟩
theorem Ok.own {p : Addr} {o : HO} (k : Ok r Hs H) (hs : Hs p = none) (hr : r ≠ some p) : Ok r Hs (upd H p o) := by
  refine ⟨fun b u e => ?_, fun a z => ?_⟩
  · have n : b ≠ p := fun q => by rw [q, hs] at e; cases e
    rw [upd_ne n]
    exact k.sub b u e
  · have n : a ≠ p := fun q => hr (by rw [← q]; exact z)
    exact ⟨(k.rg a z).1, (k.rg a z).2.ne n⟩
/-- what was not shared is shared from now on -/
theorem Ok.share {p : Addr} {o : HO} (k : Ok r Hs H) (hp : H p = some o) (hr : r ≠ some p) : Ok r (upd Hs p o) H := by
  refine ⟨fun b u e => ?_, fun a z => ?_⟩
  · by_cases q : b = p
    · subst q
      rw [upd_same] at e
      cases e
      exact hp
    · rw [upd_ne q] at e
      exact k.sub b u e
  · have n : a ≠ p := fun q => hr (by rw [← q]; exact z)
    exact ⟨by rw [upd_ne n]; exact (k.rg a z).1, (k.rg a z).2⟩
end

/-! ### peeked values: the top anywhere, what is below shared -/
def Pk (r : Option Addr) (Hs H : Hp) (v : V) : D → Prop
  | .lst ds => ∃ a xs, v = .ref a ∧ r ≠ some a ∧ H a = some (.lst xs) ∧ ds.length ≤ sizeLine ∧ Rps r Hs xs ds
  | .dic es => ∃ a kvs, v = .ref a ∧ r ≠ some a ∧ Rd H a (.dK kvs) ∧ es.length ≤ sizeLine ∧ kvs.map (·.1) = es.map (·.1) ∧ Rps r Hs (kvs.map (·.2)) (es.map (·.2))
  | .ins C gs => ∃ a dx fs, v = .ref a ∧ r ≠ some a ∧ H a = some (.ins C dx fs) ∧ fs.map (·.1) = gs.map (·.1) ∧ Rps r Hs (fs.map (·.2)) (gs.map (·.2))
  | d => Rp r Hs v d
/-- owned: nobody else sees it -/
def Ow (r : Option Addr) (Hs H : Hp) (a : Addr) : D → Prop
  | .lst ds => ∃ xs, H a = some (.lst xs) ∧ ds.length ≤ sizeLine ∧ Rps r Hs xs ds
  | .dic es => ∃ kvs, H a = some (.dK kvs) ∧ es.length ≤ sizeLine ∧ kvs.map (·.1) = es.map (·.1) ∧ Rps r Hs (kvs.map (·.2)) (es.map (·.2))
  | .ins C gs => ∃ dx fs, H a = some (.ins C dx fs) ∧ fs.map (·.1) = gs.map (·.1) ∧ Rps r Hs (fs.map (·.2)) (gs.map (·.2))
  | _ => False
section
variable {r : Option Addr} {Hs H Hs' H' : Hp} {v : V} {d : D} {a : Addr}
theorem rd_ner {u : HO} (k : Ok r Hs H) (h : Rd Hs a u) : r ≠ some a := by
  rcases h with h | ⟨o, h⟩
  · exact k.ner h
  · exact k.ner h
theorem Rp.pk (k : Ok r Hs H) (h : Rp r Hs v d) : Pk r Hs H v d := by
  cases h with
  | lst e z t => exact ⟨_, _, rfl, k.ner e, k.sub _ _ e, z, t⟩
  | dic e z q t => exact ⟨_, _, rfl, rd_ner k e, k.sub.rd e, z, q, t⟩
  | ins e q t => exact ⟨_, _, _, rfl, k.ner e, k.sub _ _ e, q, t⟩
  | non => exact .non
  | bl b => exact .bl b
  | int i => exact .int i
  | str x => exact .str x
  | tup e z t => exact .tup e z t
  | rng e => exact .rng e
  | cst v => exact .cst v
theorem rd_kp {u : HO} (s : Stp r Hs H Hs' H') (n : r ≠ some a) (h : Rd H a u) : Rd H' a u := h.imp (s.kp _ _ n) fun ⟨o, e⟩ => ⟨o, s.kp _ _ n e⟩
theorem Pk.stp (s : Stp r Hs H Hs' H') (h : Pk r Hs H v d) : Pk r Hs' H' v d := by
  cases d with
  | lst ds =>
    obtain ⟨a, xs, e, n, h, z, t⟩ := h
    exact ⟨a, xs, e, n, s.kp _ _ n h, z, t.ext s.sh⟩
  | dic es =>
    obtain ⟨a, kvs, e, n, h, z, q, t⟩ := h
    exact ⟨a, kvs, e, n, rd_kp s n h, z, q, t.ext s.sh⟩
  | ins C gs =>
    obtain ⟨a, dx, fs, e, n, h, q, t⟩ := h
    exact ⟨a, dx, fs, e, n, s.kp _ _ n h, q, t.ext s.sh⟩
  | _ => exact Rp.ext s.sh h
/-- the whole, in the whole heap -/
theorem Pk.rp (k : Ok r Hs H) (h : Pk r Hs H v d) : Rp r H v d := by
  cases d with
  | lst ds =>
    obtain ⟨a, xs, rfl, n, h, z, t⟩ := h
    exact .lst h z (t.ext k.sub)
  | dic es =>
    obtain ⟨a, kvs, rfl, n, h, z, q, t⟩ := h
    exact .dic h z q (t.ext k.sub)
  | ins C gs =>
    obtain ⟨a, dx, fs, rfl, n, h, q, t⟩ := h
    exact .ins h q (t.ext k.sub)
  | _ => exact Rp.ext k.sub h
theorem Ow.pk (n : r ≠ some a) (h : Ow r Hs H a d) : Pk r Hs H (.ref a) d := by
  cases d with
  | lst ds => obtain ⟨xs, h, t⟩ := h; exact ⟨a, xs, rfl, n, h, t⟩
  | dic es => obtain ⟨kvs, h, q, t⟩ := h; exact ⟨a, kvs, rfl, n, .inl h, q, t⟩
  | ins C gs => obtain ⟨dx, fs, h, q, t⟩ := h; exact ⟨a, dx, fs, rfl, n, h, q, t⟩
  | _ => exact h.elim
theorem Ow.ex (h : Ow r Hs H a d) : ∃ o, H a = some o := by
  cases d with
  | lst ds => obtain ⟨xs, h, t⟩ := h; exact ⟨_, h⟩
  | dic es => obtain ⟨kvs, h, q, t⟩ := h; exact ⟨_, h⟩
  | ins C gs => obtain ⟨dx, fs, h, q, t⟩ := h; exact ⟨_, h⟩
  | _ => exact h.elim
theorem Ow.stp (s : Stp r Hs H Hs' H') (n : r ≠ some a) (h : Ow r Hs H a d) : Ow r Hs' H' a d := by
  cases d with
  | lst ds => obtain ⟨xs, h, z, t⟩ := h; exact ⟨xs, s.kp _ _ n h, z, t.ext s.sh⟩
  | dic es => obtain ⟨kvs, h, z, q, t⟩ := h; exact ⟨kvs, s.kp _ _ n h, z, q, t.ext s.sh⟩
  | ins C gs => obtain ⟨dx, fs, h, q, t⟩ := h; exact ⟨dx, fs, s.kp _ _ n h, q, t.ext s.sh⟩
  | _ => exact h.elim
/-- it is shared from now on -/
theorem Ow.share {o : HO} (k : Ok r Hs H) (hs : Hs a = none) (e : H a = some o) (h : Ow r Hs H a d) : Rp r (upd Hs a o) (.ref a) d := by
  have x : Ext Hs (upd Hs a o) := Ext.refl.new hs
  cases d with
  | lst ds => obtain ⟨xs, h, z, t⟩ := h; rw [e] at h; cases h; exact .lst upd_same z (t.ext x)
  | dic es => obtain ⟨kvs, h, z, q, t⟩ := h; rw [e] at h; cases h; exact .dic (.inl upd_same) z q (t.ext x)
  | ins C gs => obtain ⟨dx, fs, h, q, t⟩ := h; rw [e] at h; cases h; exact .ins upd_same q (t.ext x)
  | _ => exact h.elim
end

/-! ### slots -/
inductive Sl where
  | un | sh (d : D) | ow (d : D) | bw (d : D) | pn (d : D)
def dl : List Sl → Nat → Sl
  | [], _ => .un
  | x :: _, 0 => x
  | _ :: r, i + 1 => dl r i
def Sl.dat : Sl → Option D
  | .un => none
  | .sh d => some d
  | .ow d => some d
  | .bw d => some d
  | .pn d => some d
def Sl.own : Sl → Bool
  | .ow _ => true
  | .pn _ => true
  | _ => false
/-- not shared -/
def Sl.prv : Sl → Bool
  | .ow _ => true
  | .pn _ => true
  | .bw (.lst _) => true
  | .bw (.dic _) => true
  | .bw (.ins _ _) => true
  | _ => false
def SlOk (me r : Option Addr) (H0 Hs H : Hp) (s : Option V) : Sl → Prop
  | .un => True
  | .sh d => ∃ v, s = some v ∧ Rp r Hs v d
  | .ow d => ∃ a, s = some (.ref a) ∧ r ≠ some a ∧ H0 a = none ∧ Hs a = none ∧ Ow r Hs H a d
  | .bw d => ∃ v, s = some v ∧ (Pk r Hs H0 v d ∨ Rp r Hs v d)
  | .pn d => ∃ a, s = some (.ref a) ∧ me = some a ∧ r ≠ some a ∧ H0 a = none ∧ Hs a = none ∧ Ow r Hs H a d
structure Fit (me r : Option Addr) (H0 Hs H : Hp) (σ : St) (δ : List Sl) : Prop where
  len : σ.length = δ.length
  bs : ∀ b o, r ≠ some b → H0 b = some o → H b = some o
  at_ : ∀ i, SlOk me r H0 Hs H (sl σ i) (dl δ i)
  ap : ∀ i j, i ≠ j → (dl δ i).own = true → (dl δ j).own = true → sl σ i ≠ sl σ j
theorem dl_set : ∀ {δ : List Sl} {i : Nat} {x : Sl} {j : Nat}, dl (δ.set i x) j = if j = i then (if i < δ.length then x else .un) else dl δ j
  | [], i, x, j => by
    show Sl.un = if j = i then (if i < 0 then x else .un) else .un
    split <;> simp
  | y :: r, 0, x, 0 => by simp [dl]
  | y :: r, 0, x, j + 1 => by simp [dl]
  | y :: r, i + 1, x, 0 => by simp [dl]
  | y :: r, i + 1, x, j + 1 => by
    show dl (r.set i x) j = _
    rw [dl_set]
    simp only [Nat.add_right_cancel_iff, List.length_cons, Nat.add_lt_add_iff_right]
    rfl
theorem sl_sets : ∀ {σ : St} {i : Nat} {x : Option V} {j : Nat}, sl (σ.set i x) j = if j = i then (if i < σ.length then x else none) else sl σ j
  | [], i, x, j => by
    show none = if j = i then (if i < 0 then x else none) else none
    split <;> simp
  | y :: r, 0, x, 0 => by simp [sl]
  | y :: r, 0, x, j + 1 => by simp [sl]
  | y :: r, i + 1, x, 0 => by simp [sl]
  | y :: r, i + 1, x, j + 1 => by
    show sl (r.set i x) j = _
    rw [sl_sets]
    simp only [Nat.add_right_cancel_iff, List.length_cons, Nat.add_lt_add_iff_right]
    rfl
section
variable {me r : Option Addr} {H0 Hs H Hs' H' : Hp} {σ : St} {δ : List Sl}
theorem Pk.shx {v : V} {d : D} {Hq : Hp} (x : Ext Hs Hs') (h : Pk r Hs Hq v d) : Pk r Hs' Hq v d := by
  cases d with
  | lst ds =>
    obtain ⟨a, xs, e, n, h, z, t⟩ := h
    exact ⟨a, xs, e, n, h, z, t.ext x⟩
  | dic es =>
    obtain ⟨a, kvs, e, n, h, z, q, t⟩ := h
    exact ⟨a, kvs, e, n, h, z, q, t.ext x⟩
  | ins C gs =>
    obtain ⟨a, dx, fs, e, n, h, q, t⟩ := h
    exact ⟨a, dx, fs, e, n, h, q, t.ext x⟩
  | _ => exact Rp.ext x h
theorem Pk.top {v : V} {d : D} {Hq : Hp} (x : ∀ b o, r ≠ some b → Hq b = some o → H b = some o) (h : Pk r Hs Hq v d) : Pk r Hs H v d := by
  cases d with
  | lst ds =>
    obtain ⟨a, xs, e, n, h, z, t⟩ := h
    exact ⟨a, xs, e, n, x _ _ n h, z, t⟩
  | dic es =>
    obtain ⟨a, kvs, e, n, h, z, q, t⟩ := h
    exact ⟨a, kvs, e, n, h.imp (x _ _ n) fun ⟨o, e⟩ => ⟨o, x _ _ n e⟩, z, q, t⟩
  | ins C gs =>
    obtain ⟨a, dx, fs, e, n, h, q, t⟩ := h
    exact ⟨a, dx, fs, e, n, x _ _ n h, q, t⟩
  | _ => exact h
theorem SlOk.stp {s : Option V} {x : Sl} (st : Stp r Hs H Hs' H') (h : SlOk me r H0 Hs H s x) : SlOk me r H0 Hs' H' s x := by
  cases x with
  | un => trivial
  | sh d => obtain ⟨v, e, q⟩ := h; exact ⟨v, e, q.ext st.sh⟩
  | ow d =>
    obtain ⟨a, e, n, z, hs, q⟩ := h
    obtain ⟨o, eo⟩ := q.ex
    exact ⟨a, e, n, z, st.nw _ _ eo hs, q.stp st n⟩
  | bw d => obtain ⟨v, e, q⟩ := h; exact ⟨v, e, q.imp (Pk.shx st.sh) fun q => q.ext st.sh⟩
  | pn d =>
    obtain ⟨a, e, m, n, z, hs, q⟩ := h
    obtain ⟨o, eo⟩ := q.ex
    exact ⟨a, e, m, n, z, st.nw _ _ eo hs, q.stp st n⟩
theorem Fit.stp (st : Stp r Hs H Hs' H') (f : Fit me r H0 Hs H σ δ) : Fit me r H0 Hs' H' σ δ := ⟨f.len, fun b o n e => st.kp b o n (f.bs b o n e), fun i => (f.at_ i).stp st, f.ap⟩
/-- a slot is given a value -/
theorem Fit.set {i : Nat} {v : Option V} {x : Sl} (f : Fit me r H0 Hs H σ δ) (h : SlOk me r H0 Hs H v x) (ap : ∀ j, j ≠ i → (dl δ j).own = true → x.own = true → sl σ j ≠ v) : Fit me r H0 Hs H (σ.set i v) (δ.set i x) := by
  refine ⟨by rw [List.length_set, List.length_set, f.len], f.bs, fun j => ?_, fun j k hjk h1 h2 => ?_⟩
  · rw [sl_sets, dl_set, f.len]
    by_cases hj : j = i
    · rw [if_pos hj, if_pos hj]
      by_cases hl : i < δ.length
      · rw [if_pos hl, if_pos hl]
        exact h
      · rw [if_neg hl, if_neg hl]
        trivial
    · rw [if_neg hj, if_neg hj]
      exact f.at_ j
  · rw [sl_sets, sl_sets, f.len]
    rw [dl_set] at h1 h2
    by_cases hj : j = i
    · rw [if_pos hj] at h1 ⊢
      have hk : k ≠ i := fun z => hjk (hj.trans z.symm)
      rw [if_neg hk] at h2 ⊢
      by_cases hl : i < δ.length
      · rw [if_pos hl] at h1 ⊢
        exact fun z => ap k hk h2 h1 z.symm
      · rw [if_neg hl] at h1
        cases h1
    · rw [if_neg hj] at h1 ⊢
      by_cases hk : k = i
      · rw [if_pos hk] at h2 ⊢
        by_cases hl : i < δ.length
        · rw [if_pos hl] at h2 ⊢
          exact ap j hj h1 h2
        · rw [if_neg hl] at h2
          cases h2
      · rw [if_neg hk] at h2 ⊢
        exact f.ap j k hjk h1 h2
theorem Fit.setU {i : Nat} {v : Option V} (f : Fit me r H0 Hs H σ δ) : Fit me r H0 Hs H (σ.set i v) (δ.set i .un) := f.set trivial fun j _ _ z => nomatch z
theorem Fit.setS {i : Nat} {v : V} {d : D} (f : Fit me r H0 Hs H σ δ) (h : Rp r Hs v d) : Fit me r H0 Hs H (σ.set i (some v)) (δ.set i (.sh d)) := f.set ⟨v, rfl, h⟩ fun j _ _ z => nomatch z
theorem Fit.ow_at {j : Nat} {p : Addr} (f : Fit me r H0 Hs H σ δ) (h : (dl δ j).own = true) (hs : sl σ j = some (.ref p)) : (∃ o, H p = some o) ∧ Hs p = none ∧ H0 p = none ∧ r ≠ some p := by
  have q := f.at_ j
  cases e : dl δ j with
  | ow d =>
    rw [e] at q
    obtain ⟨a, e1, h1, h2, h3, w⟩ := q
    rw [hs] at e1
    cases e1
    exact ⟨w.ex, h3, h2, h1⟩
  | pn d =>
    rw [e] at q
    obtain ⟨a, e1, _, h1, h2, h3, w⟩ := q
    rw [hs] at e1
    cases e1
    exact ⟨w.ex, h3, h2, h1⟩
  | _ => rw [e] at h; cases h
/-- a slot is given a new thing of its own -/
theorem Fit.setO {i : Nat} {a : Addr} {d : D} {Hs1 H1 : Hp} (f : Fit me r H0 Hs H σ δ) (st : Stp r Hs H Hs1 H1) (n : r ≠ some a) (hn : H a = none) (hs : Hs1 a = none) (w : Ow r Hs1 H1 a d) : Fit me r H0 Hs1 H1 (σ.set i (some (.ref a))) (δ.set i (.ow d)) := by
  refine (f.stp st).set ⟨a, rfl, n, ?_, hs, w⟩ fun j _ h1 _ e => ?_
  · cases e : H0 a with
    | none => rfl
    | some o =>
      rw [f.bs a o n e] at hn
      cases hn
  · obtain ⟨⟨o, eo⟩, _⟩ := f.ow_at h1 e
    rw [hn] at eo
    cases eo
/-- the value in a slot, peeked -/
theorem Fit.pk {j : Nat} {v : V} {d : D} (f : Fit me r H0 Hs H σ δ) (k : Ok r Hs H) (hs : sl σ j = some v) (hd : (dl δ j).dat = some d) : Pk r Hs H v d := by
  have q := f.at_ j
  cases e : dl δ j with
  | un => rw [e] at hd; cases hd
  | sh d' =>
    rw [e] at q hd
    cases hd
    obtain ⟨w, e1, q⟩ := q
    rw [hs] at e1
    cases e1
    exact q.pk k
  | ow d' =>
    rw [e] at q hd
    cases hd
    obtain ⟨a, e1, n, _, _, w⟩ := q
    rw [hs] at e1
    cases e1
    exact w.pk n
  | pn d' =>
    rw [e] at q hd
    cases hd
    obtain ⟨a, e1, _, n, _, _, w⟩ := q
    rw [hs] at e1
    cases e1
    exact w.pk n
  | bw d' =>
    rw [e] at q hd
    cases hd
    obtain ⟨w, e1, q⟩ := q
    rw [hs] at e1
    cases e1
    rcases q with q | q
    · exact q.top f.bs
    · exact q.pk k
/-- .. there is one -/
theorem Fit.val {j : Nat} {d : D} (f : Fit me r H0 Hs H σ δ) (hd : (dl δ j).dat = some d) : ∃ v, sl σ j = some v := by
  have q := f.at_ j
  cases e : dl δ j with
  | un => rw [e] at hd; cases hd
  | sh d' => rw [e] at q; obtain ⟨w, e1, q⟩ := q; exact ⟨w, e1⟩
  | ow d' => rw [e] at q; obtain ⟨w, e1, q⟩ := q; exact ⟨_, e1⟩
  | bw d' => rw [e] at q; obtain ⟨w, e1, q⟩ := q; exact ⟨w, e1⟩
  | pn d' => rw [e] at q; obtain ⟨w, e1, q⟩ := q; exact ⟨_, e1⟩
/-- .. shared -/
theorem Fit.rp {j : Nat} {v : V} {d : D} (f : Fit me r H0 Hs H σ δ) (k : Ok r Hs H) (hp : (dl δ j).prv = false) (hs : sl σ j = some v) (hd : (dl δ j).dat = some d) : Rp r Hs v d := by
  have q := f.at_ j
  cases e : dl δ j with
  | un => rw [e] at hd; cases hd
  | sh d' =>
    rw [e] at q hd
    cases hd
    obtain ⟨w, e1, q⟩ := q
    rw [hs] at e1
    cases e1
    exact q
  | ow d' => rw [e] at hp; cases hp
  | pn d' => rw [e] at hp; cases hp
  | bw d' =>
    rw [e] at q hd hp
    cases hd
    obtain ⟨w, e1, q⟩ := q
    rw [hs] at e1
    cases e1
    rcases q with q | q
    · cases d with
      | lst _ => cases hp
      | dic _ => cases hp
      | ins _ _ => cases hp
      | _ => exact q
    · exact q
/-- the slots of a block's own names forgotten -/
def wipeD (δ : List Sl) : List Nat → List Sl
  | [] => δ
  | v :: vs => (wipeD δ vs).set v .un
theorem Fit.wipe (f : Fit me r H0 Hs H σ δ) : ∀ vs : List Nat, Fit me r H0 Hs H (L2.wipe σ vs) (wipeD δ vs)
  | [] => f
  | v :: vs => (Fit.wipe f vs).setU
end
end AS

set_option Elab.async false
set_option linter.all false
set_option maxRecDepth 100000
set_option maxHeartbeats 4000000
/-! P2: readings as trees, with two meanings: by heaps (h..) and by data (u..). -/
namespace AS
open PySem PySem.Spec PyProof.Rows L2

abbrev XD := D → Prop
abbrev DSp := List D → (D → Prop) → XD → Prop
/-- an exception by its class and its dict -/
def RpX (r : Option Addr) (Hs : Hp) (c : Value) (dx : Option Addr) : D → Prop
  | .ins C gs => c = .ref C ∧ ∃ a fs, dx = some a ∧ Hs a = some (.xd fs) ∧ fs.map (·.1) = gs.map (·.1) ∧ Rps r Hs (fs.map (·.2)) (gs.map (·.2))
  | _ => False
/-- what is wished behind: a shared value; a new one that nobody else sees; an exception -/
def Kv (r : Option Addr) (Hs H : Hp) (P : D → Prop) (Q : VK) : Prop := ∀ v d Hs' H', P d → Stp r Hs H Hs' H' → Ok r Hs' H' → Rp r Hs' v d → Q v H'
def Kf (r : Option Addr) (Hs H : Hp) (P : D → Prop) (Q : VK) : Prop := ∀ a d Hs' H', P d → Stp r Hs H Hs' H' → Ok r Hs' H' → r ≠ some a → H a = none → Hs' a = none → Ow r Hs' H' a d → Q (.ref a) H'
def Kx (r : Option Addr) (Hs H : Hp) (X : XD) (E : XK) : Prop := ∀ c dx x Hs' H', X x → Stp r Hs H Hs' H' → Ok r Hs' H' → RpX r Hs' c dx x → E c dx H'
def KR (fr : Bool) (r : Option Addr) (Hs H : Hp) (P : D → Prop) (Q : VK) : Prop := match fr with
  | true => Kf r Hs H P Q
  | false => Kv r Hs H P Q
inductive Pks (r : Option Addr) (Hs H : Hp) : List V → List D → Prop
  | nil : Pks r Hs H [] []
  | cons {v : V} {vs : List V} {d : D} {ds : List D} : Pk r Hs H v d → Pks r Hs H vs ds → Pks r Hs H (v :: vs) (d :: ds)
def AR (bor : Bool) (r : Option Addr) (Hs H : Hp) (vs : List V) (ds : List D) : Prop := match bor with
  | true => Pks r Hs H vs ds
  | false => Rps r Hs vs ds
theorem Kv.kf {r : Option Addr} {Hs H : Hp} {P : D → Prop} {Q : VK} (k : Kv r Hs H P Q) : Kf r Hs H P Q := fun a d Hs' H' p s o n hn hs w => by
  obtain ⟨u, e⟩ := w.ex
  exact k (.ref a) d (upd Hs' a u) H' p ⟨s.sh.new hs, s.kp, fun b q e1 e2 => by
    rw [upd_ne (ne_of_none e1 hn)]
    exact s.nw b q e1 e2⟩ (o.share e n) (w.share o hs e)
theorem KR.kf {fr : Bool} {r : Option Addr} {Hs H : Hp} {P : D → Prop} {Q : VK} (k : KR fr r Hs H P Q) : Kf r Hs H P Q := match fr, k with
  | true, k => k
  | false, k => Kv.kf k
theorem Rps.pks {r : Option Addr} {Hs H : Hp} (k : Ok r Hs H) : ∀ {vs : List V} {ds : List D}, Rps r Hs vs ds → Pks r Hs H vs ds
  | _, _, .nil => .nil
  | _, _, .cons h t => .cons (h.pk k) (Rps.pks k t)
theorem Pks.stp {r : Option Addr} {Hs H Hs' H' : Hp} (s : Stp r Hs H Hs' H') : ∀ {vs : List V} {ds : List D}, Pks r Hs H vs ds → Pks r Hs' H' vs ds
  | _, _, .nil => .nil
  | _, _, .cons h t => .cons (h.stp s) (Pks.stp s t)
theorem AR.stp {b : Bool} {r : Option Addr} {Hs H Hs' H' : Hp} {vs : List V} {ds : List D} (s : Stp r Hs H Hs' H') (h : AR b r Hs H vs ds) : AR b r Hs' H' vs ds := match b, h with
  | true, h => Pks.stp s h
  | false, h => Rps.ext s.sh h
theorem Kv.mono {r : Option Addr} {Hs H Hs1 H1 : Hp} {P : D → Prop} {Q : VK} (k : Kv r Hs H P Q) (s : Stp r Hs H Hs1 H1) (o : Ok r Hs1 H1) : Kv r Hs1 H1 P Q := fun v d Hs' H' p t o' h => k v d Hs' H' p (s.trans o t) o' h
theorem Kx.mono {r : Option Addr} {Hs H Hs1 H1 : Hp} {X : XD} {E : XK} (k : Kx r Hs H X E) (s : Stp r Hs H Hs1 H1) (o : Ok r Hs1 H1) : Kx r Hs1 H1 X E := fun c dx x Hs' H' p t o' h => k c dx x Hs' H' p (s.trans o t) o' h
theorem Kf.mono {r : Option Addr} {Hs H Hs1 H1 : Hp} {P : D → Prop} {Q : VK} (k : Kf r Hs H P Q) (s : Stp r Hs H Hs1 H1) (o : Ok r Hs1 H1) : Kf r Hs1 H1 P Q := fun a d Hs' H' p t o' n hn hs w => k a d Hs' H' p (s.trans o t) o' n (by
  cases e : H a with
  | none => rfl
  | some u =>
    obtain ⟨u', e'⟩ := s.at o e
    rw [hn] at e'
    cases e') hs w
theorem KR.mono {fr : Bool} {r : Option Addr} {Hs H Hs1 H1 : Hp} {P : D → Prop} {Q : VK} (k : KR fr r Hs H P Q) (s : Stp r Hs H Hs1 H1) (o : Ok r Hs1 H1) : KR fr r Hs1 H1 P Q := match fr, k with
  | true, k => Kf.mono k s o
  | false, k => Kv.mono k s o

/-! ### what is known of operators, calls, methods, attributes -/
/-- a call's two promises -/
structure Fd where
  sp : Sp
  bor : Bool
  fr : Bool
  u : DSp
  ok : ∀ r Hs H vs ds P X Q E, Ok r Hs H → AR bor r Hs H vs ds → u ds P X → KR fr r Hs H P Q → Kx r Hs H X E → sp vs H Q E
/-- the promise of a def by its data -/
def spG (bor fr : Bool) (u : DSp) : Sp := fun vs H Q E => ∃ r Hs ds P X, Ok r Hs H ∧ AR bor r Hs H vs ds ∧ u ds P X ∧ KR fr r Hs H P Q ∧ Kx r Hs H X E
def Fd.own (bor fr : Bool) (u : DSp) : Fd := ⟨spG bor fr u, bor, fr, u, fun r Hs H vs ds P X Q E o a h k x => ⟨r, Hs, ds, P, X, o, a, h, k, x⟩⟩
structure Op where
  r : R2
  u : D → D → (D → Prop) → Prop
  ok : ∀ r' Hs H x y dx dy P Q, Ok r' Hs H → Pk r' Hs H x dx → Pk r' Hs H y dy → u dx dy P → Kv r' Hs H P Q → r x y H Q
structure OpE where
  r : R2E
  sel : D → D → Bool
  u : D → D → (D → Prop) → XD → Prop
  ok : ∀ r' Hs H x y dx dy P X Q E, Ok r' Hs H → Rp r' Hs x dx → Rp r' Hs y dy → sel dx dy = true → u dx dy P X → Kv r' Hs H P Q → Kx r' Hs H X E → r x y H Q E
structure At where
  r : V → Hp → VK → XK → Prop
  u : D → (D → Prop) → XD → Prop
  ok : ∀ r' Hs H x dx P X Q E, Ok r' Hs H → Rp r' Hs x dx → u dx P X → Kv r' Hs H P Q → Kx r' Hs H X E → r x H Q E
/-- a field of instances -/
structure Fl where
  f : Str
  K : PySem.W.Frag
  r : V → Hp → VK → XK → Prop
  i : ∀ x H Q E, rAttI K f x H Q E → r x H Q E
/-- a store to a field of an instance -/
structure Sf where
  f : Str
  K : PySem.W.Frag
  r : V → V → Hp → (Hp → Prop) → Prop
  ok : ∀ a C dx fs y H Q, (Cls K C ∧ NoAttr K C f) → H a = some (.ins C dx fs) → fs.length < 1000 → Q (upd H a (.ins C dx (putF f y fs))) → r (.ref a) y H Q
/-- a method for some receivers -/
structure Md where
  rc : Rc
  sp : Sp
  bo : Bool
  fr : Bool
  sel : D → Bool
  u : DSp
  rok : ∀ r Hs H v d, Ok r Hs H → Pk r Hs H v d → sel d = true → rc v H
  ok : ∀ r Hs H v vs d ds P X Q E, Ok r Hs H → (match bo with | true => Pk r Hs H v d | false => Rp r Hs v d) → sel d = true → Rps r Hs vs ds → u (d :: ds) P X → KR fr r Hs H P Q → Kx r Hs H X E → sp (v :: vs) H Q E

/-- a call with keywords -/
structure FdK where
  sp : SpK
  fr : Bool
  u : List D → List D → (D → Prop) → XD → Prop
  ok : ∀ r Hs H vs zs ds es P X Q E, Ok r Hs H → Rps r Hs vs ds → Rps r Hs zs es → u ds es P X → KR fr r Hs H P Q → Kx r Hs H X E → sp vs zs H Q E
/-- a method called with keywords -/
structure MdK where
  rc : Rc
  sp : SpK
  fr : Bool
  sel : D → Bool
  u : List D → List D → (D → Prop) → XD → Prop
  rok : ∀ r Hs H v d, Ok r Hs H → Rp r Hs v d → sel d = true → rc v H
  ok : ∀ r Hs H v vs zs d ds es P X Q E, Ok r Hs H → Rp r Hs v d → sel d = true → Rps r Hs vs ds → Rps r Hs zs es → u (d :: ds) es P X → KR fr r Hs H P Q → Kx r Hs H X E → sp (v :: vs) zs H Q E

/-! ### trees -/
mutual
inductive AE where
  | nm (i : Nat)
  | cn (v : V)
  | op (o : Op) (a b : AE)
  | opX (o : Op) (ox : OpE) (a b : AE)
  | neg (a : AE)
  | nt (a : AE) | an (a b : AE) | orE (a b : AE)
  | ch (o o' : Op) (a b c : AE)
  | ife (c : AT) (a b : AE)
  | tup (es : AA) | lst (es : AA)
  | dnew
  | disp (ps : AP)
  | att (a : At) (e : AE)
  | fld (f : Fl) (e : AE)
  | sl (a : AE) (lo hi : AA)
  | rev (a : AE)
  | call (f : Fd) (es : AA)
  | callV (t : List (V × Fd)) (i : Nat) (es : AA)
  | meth (m : Md) (ms : List Md) (o : AE) (es : AA)
  | callK (f : FdK) (es ks : AA)
  | methK (m : MdK) (o : AE) (es ks : AA)
  | lc (b : Bool) (it : AI) (g : AG) (t : AT) (e : AE) (vs : List Nat)
  | dc (b : Bool) (it : AI) (g : AG) (t : AT) (k e : AE) (vs : List Nat)
  | fmt (e : AE) | fmr (e : AE) | js (es : AA)
  | lsI (e : AE) | lsV (e : AE)
inductive AT where
  | yes
  | nt (t : AT) | an (t u : AT) | orT (t u : AT)
  | ife (c t u : AT)
  | ts (e : AE)
  | tsX (o : Op) (ox : OpE) (a b : AE)
  | tr (e : AE)
inductive AA where
  | nil | cons (e : AE) (es : AA)
inductive AP where
  | nil | cons (k e : AE) (r : AP)
inductive AI where
  | rng1 (a : AE) | rng2 (a b : AE) | rng3 (a b c : AE)
  | enum (a : AE) | zip (a b : AE) | revd (a : AE)
  | items (a : AE) | vals (a : AE) | keys (a : AE) | any (a : AE)
inductive AG where
  | nm (i : Nat) | tp (gs : AGs)
inductive AGs where
  | nil | cons (g : AG) (gs : AGs)
end
inductive AS where
  | next | ret (e : AE) | retN | drop (e : AE) | brk | cont | nos
  | asg (i : Nat) (e : AE)
  | asgL (b : Bool) (i : Nat) (it : AI) (g : AG) (t : AT) (e : AE) (vs : List Nat)
  | asgG (e : AE) (gs : AGs)
  | asgT (es : AA) (is : List Nat)
  | par (i j : Nat) (a b : AE)
  | par3 (i j l : Nat) (a b c : AE)
  | put (i : Nat) (k e : AE)
  | app (i : Nat) (e : AE)
  | sat (f : Sf) (i : Nat) (e : AE)
  | seq (s t : AS)
  | ifs (c : AT) (s t : AS)
  | fr (b : Bool) (it : AI) (g : AG) (s : AS)
  | whl (c : AT) (s : AS)

/-! ### by heaps -/
section
variable (K : PySem.W.Frag)
def AGs.len : AGs → Nat
  | .nil => 0
  | .cons _ r => r.len + 1
mutual
def hG : AG → TG
  | .nm i => gName i
  | .tp gs => oG (gTup K gs.len (hGs gs)) (gLst K gs.len (hGs gs))
def hGs : AGs → TGs
  | .nil => gNil
  | .cons g gs => gCons (hG g) (hGs gs)
end
def mq (m : Md) : Rc × Sp := (m.rc, m.sp)
mutual
def hE (W : WX) : AE → TE
  | .nm i => tNm i
  | .cn v => tC v
  | .op o a b => tOp o.r (hE W a) (hE W b)
  | .opX o ox a b => tOpX (rOr o.r ox.r) W (hE W a) (hE W b)
  | .neg a => tUn negR (hE W a)
  | .nt a => tNotG (truG K) (hE W a)
  | .an a b => tAndG (truG K) (hE W a) (hE W b)
  | .orE a b => tOrG (truG K) (hE W a) (hE W b)
  | .ch o o' a b c => tChain o.r o'.r (hE W a) (hE W b) (hE W c)
  | .ife c a b => tIf (hT W c) (hE W a) (hE W b)
  | .tup es => tTup (hA W es)
  | .lst es => tLst (hA W es)
  | .dnew => tDNewK
  | .disp ps => tDisp (hP W ps)
  | .att a e => tAtt a.r W (hE W e)
  | .fld f e => tAtt f.r W (hE W e)
  | .sl a lo hi => L2.tSl (sliT K) (hE W a) (hO W lo) (hO W hi)
  | .rev a => tRevL K (hE W a)
  | .call f es => tCl f.sp W (hA W es)
  | .callV t i es => tClV (fun v => findB v (t.map fun p => (p.1, p.2.sp))) W i (hA W es)
  | .meth m ms o es => mtsE W (hE W o) (hA W es) (mq m :: ms.map mq)
  | .callK f es ks => tClK f.sp W (hA W es) (hA W ks)
  | .methK m o es ks => tMtK (m.rc, m.sp) W (hE W o) (hA W es) (hA W ks)
  | .lc b it g t e vs => lockE b (tLc (hI W it) (hG K g) (hT w0 t) (hE w0 e) vs)
  | .dc b it g t k e vs => lockE b (tDc (hI W it) (hG K g) (hT w0 t) (hE w0 k) (hE w0 e) vs)
  | .fmt e => tFmt (hE W e)
  | .fmr e => tFmtR (hE W e)
  | .js es => fun σ H Q => tJs (hL W es) Str.empty σ H fun out H1 => Q (.str out) H1
  | .lsI e => tListI (hE W e)
  | .lsV e => tListV (hE W e)
def hT (W : WX) : AT → TT
  | .yes => tYes
  | .nt t => tNot (hT W t)
  | .an t u => tAnd (hT W t) (hT W u)
  | .orT t u => tOr (hT W t) (hT W u)
  | .ife c t u => tIfT (hT W c) (hT W t) (hT W u)
  | .ts e => tTest (hE W e)
  | .tsX o ox a b => tTest (tOpX (rOr o.r ox.r) W (hE W a) (hE W b))
  | .tr e => tTru (truG K) (hE W e)
def hA (W : WX) : AA → TA
  | .nil => tNil
  | .cons e es => tCons (hE W e) (hA W es)
def hL (W : WX) : AA → List TE
  | .nil => []
  | .cons e es => hE W e :: hL W es
def hP (W : WX) : AP → List (TE × TE)
  | .nil => []
  | .cons k e r => (hE W k, hE W e) :: hP W r
def hO (W : WX) : AA → TO
  | .nil => tNoPart
  | .cons e _ => tPart (hE W e)
def hI (W : WX) : AI → TI
  | .rng1 a => iRng1 (tCons (hE W a) tNil)
  | .rng2 a b => iRng2 (tCons (hE W a) (tCons (hE W b) tNil))
  | .rng3 a b c => iRng3 (tCons (hE W a) (tCons (hE W b) (tCons (hE W c) tNil)))
  | .enum a => iEnum K (tCons (hE W a) tNil)
  | .zip a b => iZip K (tCons (hE W a) (tCons (hE W b) tNil))
  | .revd a => iRev K (tCons (hE W a) tNil)
  | .items a => iItems (hE W a)
  | .vals a => iVals (hE W a)
  | .keys a => iKeysM (hE W a)
  | .any a => iAny K (hE W a)
end
/-- the targets (a, b, ..), names alone -/
def nmsG : List Nat → TGs
  | [] => gNil
  | i :: r => gCons (gName i) (nmsG r)
def hS (W : WX) : AS → TS
  | .next => tNext
  | .ret e => tRet (hE K W e)
  | .retN => tRetN
  | .drop e => tDrop (hE K W e)
  | .brk => tBreak
  | .cont => tCont
  | .nos => nS
  | .asg i e => tAsg (hE K W e) (gName i)
  | .asgL b i it g t e vs => lockS b (tAsg (tLc (hI K W it) (hG K g) (hT K w0 t) (hE K w0 e) vs) (gName i))
  | .asgG e gs => tAsg (hE K W e) (oG (gTup K gs.len (hGs K gs)) (gLst K gs.len (hGs K gs)))
  | .asgT es is => tAsg (tTup (hA K W es)) (oG (gTup K is.length (nmsG is)) (gLst K is.length (nmsG is)))
  | .par i j a b => tPar i j (tCons (hE K W a) (tCons (hE K W b) tNil))
  | .par3 i j l a b c => tPar3 i j l (tCons (hE K W a) (tCons (hE K W b) (tCons (hE K W c) tNil)))
  | .put i k e => tAsg (hE K W e) (gSub (tNm i) (hE K W k) putR)
  | .app i e => tDrop (tMt (bmQ K "list" rAppend) W (tNm i) (tCons (hE K W e) tNil))
  | .sat f i e => tSat f.r (hE K W e) (tNm i)
  | .seq s t => tSeq (hS W s) (hS W t)
  | .ifs c s t => tIfS (hT K W c) (hS W s) (hS W t)
  | .fr b it g s => lockS b (tFor (hI K W it) (hG K g) (hS W s))
  | .whl c s => tWhile (hT K W c) (hS W s)
end

/-! ### by data -/
def ofV : V → D
  | .non => .non
  | .bl b => .bl b
  | .int i => .int i
  | .str x => .str x
  | v => .cst v
def truD : D → Option Bool
  | .non => some false
  | .bl b => some b
  | .int i => some (i != 0)
  | .str x => if x.length ≤ sizeLine then some ((x.length : Int) != 0) else none
  | .lst ds => some (!ds.isEmpty)
  | .tup ds => some (!ds.isEmpty)
  | _ => none
def keyD : D → Option Key
  | .int i => some (.inl i)
  | .str x => some (.inr x)
  | _ => none
def kD : Key → D
  | .inl i => .int i
  | .inr x => .str x
def getD (es : List (Key × D)) (k : Key) : Option D := (es.find? fun kv => decide (kv.1 = k)).map (·.2)
def putD (es : List (Key × D)) (k : Key) (d : D) : List (Key × D) :=
  if (es.any fun kv => decide (kv.1 = k)) = true then es.map (fun kv => if kv.1 = k then (kv.1, d) else kv) else es ++ [(k, d)]
def mergeD (es more : List (Key × D)) : List (Key × D) := more.foldl (fun acc kv => putD acc kv.1 kv.2) es
def keysD : List D → Option (List Key)
  | [] => some []
  | d :: r => match keyD d, keysD r with
    | some k, some ks => some (k :: ks)
    | _, _ => none
mutual
def nmG : AG → List Nat
  | .nm i => [i]
  | .tp gs => nmGs gs
def nmGs : AGs → List Nat
  | .nil => []
  | .cons g gs => nmG g ++ nmGs gs
end
mutual
def uG : AG → D → List Sl → (List Sl → Prop) → Prop
  | .nm i, d, δ, Q => Q (δ.set i (.sh d))
  | .tp gs, d, δ, Q => (match d with
    | .tup ds => ds.length = gs.len ∧ uGs gs ds δ Q
    | .lst ds => ds.length = gs.len ∧ uGs gs ds δ Q
    | _ => False)
def uGs : AGs → List D → List Sl → (List Sl → Prop) → Prop
  | .nil, ds, δ, Q => (match ds with
    | [] => Q δ
    | _ => False)
  | .cons g gs, ds, δ, Q => (match ds with
    | d :: r => uG g d δ fun δ' => uGs gs r δ' Q
    | [] => False)
end
/-- a comprehension over what is walked -/
def lcU (G : D → List Sl → (List Sl → Prop) → Prop) (T : List Sl → (Bool → Prop) → Prop) (E : List Sl → (D → Prop) → Prop) (δ : List Sl) (P : List D → Prop) : List D → List D → Prop
  | [], acc => P acc
  | x :: xs, acc => G x δ fun δ2 => T δ2 fun b => match b with
    | true => E δ2 fun y => lcU G T E δ P xs (acc ++ [y])
    | false => lcU G T E δ P xs acc
def dcU (G : D → List Sl → (List Sl → Prop) → Prop) (T : List Sl → (Bool → Prop) → Prop) (Kx E : List Sl → (D → Prop) → Prop) (δ : List Sl) (P : List (Key × D) → Prop) : List D → List (Key × D) → Prop
  | [], acc => P acc
  | x :: xs, acc => G x δ fun δ2 => T δ2 fun b => match b with
    | true => Kx δ2 fun k => E δ2 fun y => (match keyD k with
      | some k => dcU G T Kx E δ P xs (putD acc k y)
      | none => False)
    | false => dcU G T Kx E δ P xs acc
def isPath : AE → Bool
  | .nm _ => true
  | .fld _ (.nm _) => true
  | _ => false
/-- what a thing yields: a list, a tuple, a text, a dict -/
inductive Wk where
  | l | t | s | d
def walkD (w : Wk) (bp : Bool) (d : D) : Option (List D) := match w, d with
  | .l, .lst ds => some ds
  | .t, .tup ds => some ds
  | .s, .str x => if x.cps.size ≤ sizeLine then some (x.cps.toList.map fun c => .str ⟨#[c]⟩) else none
  | .d, .dic es => if bp = true then some (es.map fun e => kD e.1) else none
  | _, _ => none
def rangeD (lo : Int) (n : Nat) : List D := (List.range n).map fun (k : Nat) => .int (lo + k)
def rangeC (i c : Int) (n : Nat) : List D := (List.range n).map fun (k : Nat) => .int (i + k * c)
def enumD : Nat → List D → List D
  | _, [] => []
  | n, d :: r => .tup [.int n, d] :: enumD (n + 1) r
def zipD : List D → List D → List D
  | a :: r, b :: s => .tup [a, b] :: zipD r s
  | _, _ => []
def cutD (xs : List D) (lo hi : Option Int) : List D := (xs.drop (HT.sIx xs.length 0 lo)).take (HT.sIx xs.length xs.length hi - HT.sIx xs.length 0 lo)
def slD (d : D) (lo hi : Option Int) (P : D → Prop) : Prop := match d with
  | .str z => z.length ≤ sizeLine ∧ P (.str (cutS z lo hi))
  | .lst ds => P (.lst (cutD ds lo hi))
  | .tup ds => ¬ (HT.sIx ds.length 0 lo = 0 ∧ HT.sIx ds.length ds.length hi = ds.length) ∧ P (.tup (cutD ds lo hi))
  | _ => False
def fmtD : D → Option Str
  | .str y => if y.length ≤ sizeLine then some y else none
  | .int i => if i.natAbs.log2 < 1920 then some (toString i) else none
  | _ => none
def fmrD : D → Option Str
  | .str y => if (reprText y).length ≤ sizeLine then some (reprText y) else none
  | .int i => if i.natAbs.log2 < 1920 then some (toString i) else none
  | _ => none
def findD (t : List (V × Fd)) (v : V) : Option Fd := findB v t
def fldU (f : Fl) (d : D) (P : D → Prop) : Prop := match d with
  | .ins C gs => (Cls f.K C ∧ NoAttr f.K C f.f) ∧ (match gs.lookup f.f with
    | some d => P d
    | none => False)
  | _ => False
/-- an own operator, where it is one -/
def opXU (o : Op) (ox : OpE) (x y : D) (P : D → Prop) (X : XD) : Prop := match ox.sel x y with
  | true => ox.u x y P X
  | false => o.u x y P
mutual
def uE : AE → List Sl → (D → Prop) → XD → Prop
  | .nm i, δ, P, _ => (match (dl δ i).dat with
    | some d => P d
    | none => False)
  | .cn v, _, P, _ => P (ofV v)
  | .op o a b, δ, P, X => uE a δ (fun x => uE b δ (fun y => o.u x y P) X) X
  | .opX o ox a b, δ, P, X => uE a δ (fun x => uE b δ (fun y => opXU o ox x y P X) X) X
  | .neg a, δ, P, X => uE a δ (fun x => match x with
    | .int i => P (.int (-i))
    | _ => False) X
  | .nt a, δ, P, X => uE a δ (fun x => match truD x with
    | some b => P (.bl (!b))
    | none => False) X
  | .an a b, δ, P, X => uE a δ (fun x => match truD x with
    | some true => uE b δ P X
    | some false => P x
    | none => False) X
  | .orE a b, δ, P, X => uE a δ (fun x => match truD x with
    | some true => P x
    | some false => uE b δ P X
    | none => False) X
  | .ch o o' a b c, δ, P, X => uE a δ (fun x => uE b δ (fun y => o.u x y fun z => match z with
    | .bl true => uE c δ (fun w => o'.u y w P) X
    | .bl false => P (.bl false)
    | _ => False) X) X
  | .ife c a b, δ, P, X => uT c δ (fun k => match k with
    | true => uE a δ P X
    | false => uE b δ P X) X
  | .tup es, δ, P, X => uA es δ (fun ds => ds.length ≤ sizeLine ∧ P (.tup ds)) X
  | .lst es, δ, P, X => uA es δ (fun ds => ds.length ≤ sizeLine ∧ P (.lst ds)) X
  | .dnew, _, P, _ => P (.dic [])
  | .disp ps, δ, P, X => uP ps δ (fun es => es.length ≤ 15 ∧ P (.dic (mergeD [] es))) X
  | .att a e, δ, P, X => uE e δ (fun d => a.u d P X) X
  | .fld f e, δ, P, X => uE e δ (fun d => fldU f d P) X
  | .sl a lo hi, δ, P, X => uE a δ (fun d => uO lo δ (fun l => uO hi δ (fun h => slD d l h P) X) X) X
  | .rev a, δ, P, X => uE a δ (fun d => match d with
    | .lst ds => P (.lst ds.reverse)
    | _ => False) X
  | .call f es, δ, P, X => uA es δ (fun ds => f.u ds P X) X
  | .callV t i es, δ, P, X => (match (dl δ i).dat with
    | some (.cst v) => (match findD t v with
      | some f => f.bor = false ∧ f.fr = false ∧ uA es δ (fun ds => f.u ds P X) X
      | none => False)
    | _ => False)
  | .meth m ms o es, δ, P, X => ∃ q ∈ m :: ms, uE o δ (fun d => q.sel d = true ∧ uA es δ (fun ds => q.u (d :: ds) P X) X) X
  | .callK f es ks, δ, P, X => uA es δ (fun ds => uA ks δ (fun zs => f.u ds zs P X) X) X
  | .methK m o es ks, δ, P, X => uE o δ (fun d => m.sel d = true ∧ uA es δ (fun ds => uA ks δ (fun zs => m.u (d :: ds) zs P X) X) X) X
  | .lc b it g t e vs, δ, P, X => uI b it δ (fun xs => (nmG g).all vs.contains = true ∧ lcU (uG g) (fun δ Q => uT t δ Q fun _ => False) (fun δ Q => uE e δ Q fun _ => False) (wipeD δ vs) (fun ds => P (.lst ds)) xs []) X
  | .dc b it g t k e vs, δ, P, X => uI b it δ (fun xs => (nmG g).all vs.contains = true ∧ dcU (uG g) (fun δ Q => uT t δ Q fun _ => False) (fun δ Q => uE k δ Q fun _ => False) (fun δ Q => uE e δ Q fun _ => False) (wipeD δ vs) (fun es => P (.dic es)) xs []) X
  | .fmt e, δ, P, X => uE e δ (fun d => match fmtD d with
    | some y => P (.str y)
    | none => False) X
  | .fmr e, δ, P, X => uE e δ (fun d => match fmrD d with
    | some y => P (.str y)
    | none => False) X
  | .js es, δ, P, X => uJ es Str.empty δ (fun y => P (.str y)) X
  | .lsI e, δ, P, X => uE e δ (fun d => match d with
    | .dic es => P (.lst (es.map fun e => .tup [kD e.1, e.2]))
    | _ => False) X
  | .lsV e, δ, P, X => uE e δ (fun d => match d with
    | .dic es => P (.lst (es.map fun e => e.2))
    | _ => False) X
def uT : AT → List Sl → (Bool → Prop) → XD → Prop
  | .yes, _, P, _ => P true
  | .nt t, δ, P, X => uT t δ (fun b => P (!b)) X
  | .an t u, δ, P, X => uT t δ (fun b => match b with
    | true => uT u δ P X
    | false => P false) X
  | .orT t u, δ, P, X => uT t δ (fun b => match b with
    | true => P true
    | false => uT u δ P X) X
  | .ife c t u, δ, P, X => uT c δ (fun b => match b with
    | true => uT t δ P X
    | false => uT u δ P X) X
  | .ts e, δ, P, X => uE e δ (fun d => match d with
    | .bl b => P b
    | _ => False) X
  | .tsX o ox a b, δ, P, X => uE a δ (fun x => uE b δ (fun y => opXU o ox x y (fun d => match d with
      | .bl b => P b
      | _ => False) X) X) X
  | .tr e, δ, P, X => uE e δ (fun d => match truD d with
    | some b => P b
    | none => False) X
def uA : AA → List Sl → (List D → Prop) → XD → Prop
  | .nil, _, P, _ => P []
  | .cons e es, δ, P, X => uE e δ (fun d => uA es δ (fun ds => P (d :: ds)) X) X
def uP : AP → List Sl → (List (Key × D) → Prop) → XD → Prop
  | .nil, _, P, _ => P []
  | .cons k e r, δ, P, X => uE k δ (fun dk => uE e δ (fun d => uP r δ (fun es => match keyD dk with
    | some k => P ((k, d) :: es)
    | none => False) X) X) X
def uO : AA → List Sl → (Option Int → Prop) → XD → Prop
  | .nil, _, P, _ => P none
  | .cons e _, δ, P, X => uE e δ (fun d => match d with
    | .int i => P (some i)
    | _ => False) X
def uJ : AA → Str → List Sl → (Str → Prop) → XD → Prop
  | .nil, acc, _, P, _ => P acc
  | .cons e es, acc, δ, P, X => uE e δ (fun d => match d with
    | .str y => (acc ++ y).length ≤ sizeLine ∧ uJ es (acc ++ y) δ P X
    | _ => False) X
def uI : Bool → AI → List Sl → (List D → Prop) → XD → Prop
  | _, .rng1 a, δ, P, X => uE a δ (fun d => match d with
    | .int j => j.toNat ≤ sizeLine ∧ -(2 ^ 62) ≤ j ∧ P (rangeD 0 j.toNat)
    | _ => False) X
  | _, .rng2 a b, δ, P, X => uE a δ (fun d => uE b δ (fun e => match d, e with
    | .int i, .int j => (j - i).toNat ≤ sizeLine ∧ -(2 ^ 62) ≤ i ∧ i < 2 ^ 62 ∧ -(2 ^ 62) ≤ j ∧ j < 2 ^ 62 ∧ P (rangeD i (j - i).toNat)
    | _, _ => False) X) X
  | _, .rng3 a b c, δ, P, X => uE a δ (fun d => uE b δ (fun e => uE c δ (fun f => match d, e, f with
    | .int i, .int j, .int c => ∃ n, RgC i j c n ∧ n ≤ sizeLine ∧ P (rangeC i c n)
    | _, _, _ => False) X) X) X
  | _, .enum a, δ, P, X => uE a δ (fun d => match d with
    | .lst ds => P (enumD 0 ds)
    | _ => False) X
  | _, .zip a b, δ, P, X => uE a δ (fun d => uE b δ (fun e => match d, e with
    | .lst ds, .lst es => P (zipD ds es)
    | _, _ => False) X) X
  | _, .revd a, δ, P, X => uE a δ (fun d => match d with
    | .lst ds => P ds.reverse
    | _ => False) X
  | b, .items a, δ, P, X => uE a δ (fun d => match d with
    | .dic es => (b && isPath a) = true ∧ P (es.map fun e => .tup [kD e.1, e.2])
    | _ => False) X
  | b, .vals a, δ, P, X => uE a δ (fun d => match d with
    | .dic es => (b && isPath a) = true ∧ P (es.map fun e => e.2)
    | _ => False) X
  | b, .keys a, δ, P, X => uE a δ (fun d => match d with
    | .dic es => (b && isPath a) = true ∧ P (es.map fun e => kD e.1)
    | _ => False) X
  | b, .any a, δ, P, X => ∃ w, uE a δ (fun d => match walkD w (b && isPath a) d with
    | some ds => P ds
    | none => False) X
end

/-! ### which slots must be shared ahead -/
/-- on: the thing in slot i is handed on; pk: it is looked at; wk: it is walked in an expression; fr: in a statement -/
inductive Lm where
  | on | wk | fr | pk
def pkOn : Lm → Lm
  | .pk => .pk
  | _ => .on
mutual
def lkM : Lm → AE → List (Nat × Lm)
  | m, .nm i => (match m with
    | .pk => []
    | m => [(i, m)])
  | _, .cn _ => []
  | _, .op _ a b => lkM .pk a ++ lkM .pk b
  | _, .opX _ _ a b => lkM .on a ++ lkM .on b
  | _, .neg a => lkM .pk a
  | _, .nt a => lkM .pk a
  | _, .an a b => lkM .on a ++ lkM .on b
  | _, .orE a b => lkM .on a ++ lkM .on b
  | _, .ch _ _ a b c => lkM .pk a ++ (lkM .pk b ++ lkM .pk c)
  | m, .ife c a b => lkT c ++ (lkM (pkOn m) a ++ lkM (pkOn m) b)
  | _, .tup es => lkA .on es
  | _, .lst es => lkA .on es
  | _, .dnew => []
  | _, .disp ps => lkR ps
  | _, .att _ e => lkM .on e
  | _, .fld _ e => lkM .pk e
  | _, .sl a lo hi => lkM .pk a ++ (lkA .on lo ++ lkA .on hi)
  | _, .rev a => lkM .pk a
  | _, .call f es => lkA (match f.bor with | true => .pk | false => .on) es
  | _, .callV _ _ es => lkA .on es
  | _, .meth m ms o es => lkM (match m.bo && ms.all (·.bo) with | true => .pk | false => .on) o ++ lkA .on es
  | _, .callK _ es ks => lkA .on es ++ lkA .on ks
  | _, .methK _ o es ks => lkM .on o ++ (lkA .on es ++ lkA .on ks)
  | _, .lc _ it _ t e _ => lkI .wk it ++ (lkT t ++ lkM .on e)
  | _, .dc _ it _ t k e _ => lkI .wk it ++ (lkT t ++ (lkM .on k ++ lkM .on e))
  | _, .fmt e => lkM .pk e
  | _, .fmr e => lkM .pk e
  | _, .js es => lkA .on es
  | _, .lsI e => lkM .pk e
  | _, .lsV e => lkM .pk e
def lkT : AT → List (Nat × Lm)
  | .yes => []
  | .nt t => lkT t
  | .an t u => lkT t ++ lkT u
  | .orT t u => lkT t ++ lkT u
  | .ife c t u => lkT c ++ (lkT t ++ lkT u)
  | .ts e => lkM .on e
  | .tsX _ _ a b => lkM .on a ++ lkM .on b
  | .tr e => lkM .pk e
def lkA : Lm → AA → List (Nat × Lm)
  | _, .nil => []
  | m, .cons e es => lkM m e ++ lkA m es
def lkR : AP → List (Nat × Lm)
  | .nil => []
  | .cons k e r => lkM .on k ++ (lkM .on e ++ lkR r)
def lkI : Lm → AI → List (Nat × Lm)
  | _, .rng1 a => lkM .pk a
  | _, .rng2 a b => lkM .pk a ++ lkM .pk b
  | _, .rng3 a b c => lkM .pk a ++ (lkM .pk b ++ lkM .pk c)
  | m, .enum a => lkM m a
  | m, .zip a b => lkM m a ++ lkM m b
  | m, .revd a => lkM m a
  | m, .items a => lkM m a
  | m, .vals a => lkM m a
  | m, .keys a => lkM m a
  | m, .any a => lkM m a
end
/-- may the slot be used so -/
def okM : Lm → Sl → Bool
  | .on, s => !s.prv
  | .wk, .ow (.dic _) => false
  | .fr, .ow _ => false
  | .wk, .pn _ => false
  | .fr, .pn _ => false
  | _, _ => true
def okL (δ : List Sl) (L : List (Nat × Lm)) : Bool := L.all fun p => okM p.2 (dl δ p.1)
/-- shared from now on, where it must be -/
def lk1 (δ : List Sl) (p : Nat × Lm) : List Sl := match p.2, dl δ p.1 with
  | .on, .ow d => δ.set p.1 (.sh d)
  | .wk, .ow (.dic es) => δ.set p.1 (.sh (.dic es))
  | .fr, .ow d => δ.set p.1 (.sh d)
  | _, _ => δ
def lkS (L : List (Nat × Lm)) (δ : List Sl) : List Sl := L.foldl lk1 δ
/-- is the value a new thing that nobody else sees -/
def isNew : AE → Bool
  | .lst _ => true
  | .dnew => true
  | .disp _ => true
  | .rev _ => true
  | .lsI _ => true
  | .lsV _ => true
  | .lc _ _ _ _ _ _ => true
  | .dc _ _ _ _ _ _ _ => true
  | .call f _ => f.fr
  | .meth m ms _ _ => m.fr && ms.all (·.fr)
  | .callK f _ _ => f.fr
  | .methK m _ _ _ => m.fr
  | _ => false

/-! ### statements by data -/
structure UEnds where
  nx : List Sl → Prop
  rt : Bool → D → Prop
  xn : List Sl → D → Prop
  bk : List Sl → Prop := fun _ => False
  ct : List Sl → Prop := fun _ => False
def nw (b : Bool) (d : D) : Sl := match b with
  | true => .ow d
  | false => .sh d
def noPn (δ : List Sl) (L : List (Nat × Lm)) : Bool := L.all fun p => match dl δ p.1 with
  | .pn _ => false
  | _ => true
/-- the slots in which e's value goes into slot i -/
def toSl (i : Nat) (e : AE) (δ : List Sl) (X : XD) (Q : List Sl → Prop) : Prop := match okL δ (lkM .on e) with
  | true => uE e δ (fun d => Q (δ.set i (nw (isNew e) d))) X
  | false => okL δ (lkM .pk e) = true ∧ noPn δ (lkM .on e) = true ∧ uE e δ (fun d => Q (δ.set i (.bw d))) X
def setAll : List (Nat × Bool × D) → List Sl → List Sl
  | [], δ => δ
  | (i, b, d) :: r, δ => setAll r (δ.set i (nw b d))
/-- values, each with whether it is new -/
def uN : AA → List Sl → (List (Bool × D) → Prop) → XD → Prop
  | .nil, _, P, _ => P []
  | .cons e es, δ, P, X => uE e δ (fun d => uN es δ (fun ds => P ((isNew e, d) :: ds)) X) X
def zipN : List Nat → List (Bool × D) → Option (List (Nat × Bool × D))
  | [], [] => some []
  | i :: is, x :: xs => (zipN is xs).map ((i, x) :: ·)
  | _, _ => none
def putU (s : Sl) (k d : D) (Q : Sl → Prop) : Prop := match s with
  | .ow (.dic es) => (match keyD k with
    | some k => es.length < sizeLine ∧ Q (.ow (.dic (putD es k d)))
    | none => False)
  | .ow (.lst ds) => (match k with
    | .int i => (match ixN ds.length i with
      | some j => Q (.ow (.lst (ds.set j d)))
      | none => False)
    | _ => False)
  | _ => False
def isOw : Sl → Bool
  | .ow _ => true
  | _ => false
def isOwL : Sl → Bool
  | .ow (.lst _) => true
  | _ => false
def setFD (f : Str) (d : D) : List (Str × D) → List (Str × D)
  | [] => [(f, d)]
  | (g, x) :: r => if g = f then (g, d) :: r else (g, x) :: setFD f d r
def satU (f : Str) (K : PySem.W.Frag) (s : Sl) (d : D) (Q : Sl → Prop) : Prop := match s with
  | .ow (.ins C gs) => (Cls K C ∧ NoAttr K C f) ∧ gs.length < 1000 ∧ Q (.ow (.ins C (setFD f d gs)))
  | .pn (.ins C gs) => (Cls K C ∧ NoAttr K C f) ∧ gs.length < 1000 ∧ Q (.pn (.ins C (setFD f d gs)))
  | _ => False
def forU (B : D → List Sl → (List Sl → Prop) → Prop) (N : List Sl → Prop) : List D → List Sl → Prop
  | [], δ => N δ
  | x :: xs, δ => B x δ (forU B N xs)
def whlU (C : List Sl → (Bool → Prop) → Prop) (B : List Sl → (List Sl → Prop) → Prop) (N : List Sl → Prop) : Nat → List Sl → Prop
  | 0, _ => False
  | n + 1, δ => C δ fun b => match b with
    | true => B δ (whlU C B N n)
    | false => N δ
def isDicI (it : AI) (δ : List Sl) : Bool := match it with
  | .items _ => true
  | .vals _ => true
  | .keys _ => true
  | .any (.nm i) => (match (dl δ i).dat with | some (.dic _) => true | _ => false)
  | .any (.fld _ _) => true
  | _ => false
/-- the slots made ready for what is handed on -/
def rdy (L : List (Nat × Lm)) (δ : List Sl) (Q : List Sl → Prop) : Prop := okL (lkS L δ) L = true ∧ Q (lkS L δ)
def uS : AS → UEnds → List Sl → Prop
  | .next, U, δ => U.nx δ
  | .ret e, U, δ => (match e with
    | .nm i => (match dl δ i with
      | .ow d => U.rt true d
      | _ => rdy [(i, .on)] δ fun δ => uE e δ (fun d => U.rt false d) (U.xn δ))
    | e => rdy (lkM .on e) δ fun δ => uE e δ (fun d => U.rt (isNew e) d) (U.xn δ))
  | .retN, U, _ => U.rt false .non
  | .drop e, U, δ => rdy (lkM .on e) δ fun δ => uE e δ (fun _ => U.nx δ) (U.xn δ)
  | .brk, U, δ => U.bk δ
  | .cont, U, δ => U.ct δ
  | .nos, _, _ => False
  | .asg i e, U, δ => toSl i e (lkS (lkM .on e) δ) (U.xn (lkS (lkM .on e) δ)) U.nx
  | .asgL b i it g t e vs, U, δ => rdy (lkM .on (.lc b it g t e vs)) δ fun δ => uE (.lc b it g t e vs) δ (fun d => U.nx (δ.set i (.ow d))) (U.xn δ)
  | .asgG e gs, U, δ => rdy (lkM .on e) δ fun δ => uE e δ (fun d => uG (.tp gs) d δ U.nx) (U.xn δ)
  | .asgT es is, U, δ => rdy (lkA .on es) δ fun δ => uN es δ (fun ds => ds.length ≤ sizeLine ∧ (match zipN is ds with
    | some l => U.nx (setAll l δ)
    | none => False)) (U.xn δ)
  | .par i j a b, U, δ => rdy (lkM .on a ++ lkM .on b) δ fun δ => uE a δ (fun x => uE b δ (fun y => U.nx ((δ.set i (nw (isNew a) x)).set j (nw (isNew b) y))) (U.xn δ)) (U.xn δ)
  | .par3 i j l a b c, U, δ => rdy (lkM .on a ++ (lkM .on b ++ lkM .on c)) δ fun δ => uE a δ (fun x => uE b δ (fun y => uE c δ (fun z => U.nx (((δ.set i (nw (isNew a) x)).set j (nw (isNew b) y)).set l (nw (isNew c) z))) (U.xn δ)) (U.xn δ)) (U.xn δ)
  | .put i k e, U, δ => rdy (lkM .on e ++ lkM .on k) δ fun δ => uE e δ (fun d => isOw (dl δ i) = true ∧ uE k δ (fun kd => putU (dl δ i) kd d fun s => U.nx (δ.set i s)) (U.xn δ)) (U.xn δ)
  | .app i e, U, δ => rdy (lkM .on e) δ fun δ => isOwL (dl δ i) = true ∧ uE e δ (fun d => match dl δ i with
    | .ow (.lst ds) => ds.length < sizeLine ∧ U.nx (δ.set i (.ow (.lst (ds ++ [d]))))
    | _ => False) (U.xn δ)
  | .sat f i e, U, δ => rdy (lkM .on e) δ fun δ => uE e δ (fun d => satU f.f f.K (dl δ i) d fun s => U.nx (δ.set i s)) (U.xn δ)
  | .seq s t, U, δ => uS s { U with nx := uS t U } δ
  | .ifs c s t, U, δ => rdy (lkT c) δ fun δ => uT c δ (fun b => match b with
    | true => uS s U δ
    | false => uS t U δ) (U.xn δ)
  | .fr b it g s, U, δ => rdy (lkI .fr it) δ fun δ0 => uI b it δ0 (fun xs => forU (fun x δ N => uG g x δ fun δ => uS s { nx := N, rt := U.rt, xn := (match isDicI it δ0 with | true => fun _ _ => False | false => U.xn), bk := U.nx, ct := N } δ) U.nx xs δ0) (U.xn δ0)
  | .whl c s, U, δ => ∃ n, whlU (fun δ P => okL δ (lkT c) = true ∧ uT c δ P (U.xn δ)) (fun δ N => uS s { nx := N, rt := U.rt, xn := U.xn, bk := U.nx, ct := N } δ) U.nx n δ
end AS

set_option Elab.async false
set_option linter.all false
set_option maxRecDepth 100000
set_option maxHeartbeats 4000000
/-! P3: the two meanings agree: ground work, targets, walks, locks. -/
namespace AS
open PySem PySem.Spec PyProof.Rows L2

/-! ### slots that may be used -/
theorem okL_app {δ : List Sl} {a b : List (Nat × Lm)} (h : okL δ (a ++ b) = true) : okL δ a = true ∧ okL δ b = true := by
  unfold okL at h ⊢
  rw [List.all_append] at h
  exact b2 h
theorem okM_sh {m : Lm} {d : D} : okM m (.sh d) = true := by cases m <;> rfl
theorem okM_un {m : Lm} : okM m .un = true := by cases m <;> rfl
theorem okL_set {δ : List Sl} {i : Nat} {x : Sl} (hx : ∀ m, okM m x = true) {L : List (Nat × Lm)} (h : okL δ L = true) : okL (δ.set i x) L = true := by
  unfold okL at h ⊢
  refine List.all_eq_true.mpr fun p hp => ?_
  rw [dl_set]
  split
  · split
    · exact hx _
    · exact okM_un
  · exact List.all_eq_true.mp h p hp
theorem okL_wipe {δ : List Sl} {L : List (Nat × Lm)} (h : okL δ L = true) : ∀ vs : List Nat, okL (wipeD δ vs) L = true
  | [] => h
  | v :: vs => okL_set (fun _ => okM_un) (okL_wipe h vs)
theorem okL_nil {δ : List Sl} : okL δ [] = true := rfl
theorem okL_one {δ : List Sl} {i : Nat} {m : Lm} (h : okL δ [(i, m)] = true) : okM m (dl δ i) = true := by
  unfold okL at h
  rw [List.all_cons] at h
  exact (b2 h).1
theorem okL_pk {δ : List Sl} : ∀ (e : AE) {m : Lm}, okL δ (lkM m e) = true → okL δ (lkM .pk e) = true
  | .nm i, _, _ => rfl
  | .ife c a b, m, h => by
    have h : okL δ (lkT c ++ (lkM (pkOn m) a ++ lkM (pkOn m) b)) = true := h
    obtain ⟨h1, h2⟩ := okL_app h
    obtain ⟨h2, h3⟩ := okL_app h2
    have e1 := okL_pk a h2
    have e2 := okL_pk b h3
    show okL δ (lkT c ++ (lkM .pk a ++ lkM .pk b)) = true
    unfold okL at h1 e1 e2 ⊢
    rw [List.all_append, List.all_append, h1, e1, e2]
    rfl
  | .cn _, _, h => h
  | .op _ _ _, _, h => h
  | .opX _ _ _ _, _, h => h
  | .neg _, _, h => h
  | .nt _, _, h => h
  | .an _ _, _, h => h
  | .orE _ _, _, h => h
  | .ch _ _ _ _ _, _, h => h
  | .tup _, _, h => h
  | .lst _, _, h => h
  | .dnew, _, h => h
  | .disp _, _, h => h
  | .att _ _, _, h => h
  | .fld _ _, _, h => h
  | .sl _ _ _, _, h => h
  | .rev _, _, h => h
  | .call _ _, _, h => h
  | .callV _ _ _, _, h => h
  | .meth _ _ _ _, _, h => h
  | .callK _ _ _, _, h => h
  | .methK _ _ _ _, _, h => h
  | .lc _ _ _ _ _ _, _, h => h
  | .dc _ _ _ _ _ _ _, _, h => h
  | .fmt _, _, h => h
  | .fmr _, _, h => h
  | .js _, _, h => h
  | .lsI _, _, h => h
  | .lsV _, _, h => h

/-! ### wiped slots -/
theorem wipe_in {σ : St} {i : Nat} {v : Option V} : ∀ {vs : List Nat}, i ∈ vs → wipe (σ.set i v) vs = wipe σ vs
  | w :: vs, h => by
    show (wipe (σ.set i v) vs).set w none = (wipe σ vs).set w none
    by_cases hi : i ∈ vs
    · rw [wipe_in hi]
    · have e : i = w := (List.mem_cons.mp h).resolve_right hi
      subst e
      have c : ∀ vs : List Nat, i ∉ vs → wipe (σ.set i v) vs = (wipe σ vs).set i v := by
        intro vs
        induction vs with
        | nil => intro _; rfl
        | cons u us ih =>
          intro hn
          show (wipe (σ.set i v) us).set u none = ((wipe σ us).set u none).set i v
          rw [ih (fun z => hn (List.mem_cons_of_mem _ z)), List.set_comm]
          exact fun z => hn (by rw [z]; exact List.mem_cons_self)
      rw [c vs hi, List.set_set]

/-! ### targets -/
section
variable {K : PySem.W.Frag} {me r : Option Addr} {H0 Hs H : Hp}
/-- behind a target: the slots, which of them were touched -/
structure Tgt (g : List Nat) (σ σ' : St) (δ δ' : List Sl) : Prop where
  wp : ∀ vs : List Nat, g.all vs.contains = true → wipe σ' vs = wipe σ vs
  ok : ∀ L, okL δ L = true → okL δ' L = true
theorem Tgt.refl {g : List Nat} {σ : St} {δ : List Sl} : Tgt g σ σ δ δ := ⟨fun _ _ => rfl, fun _ h => h⟩
theorem Tgt.trans {g g' : List Nat} {σ σ' σ2 : St} {δ δ' δ2 : List Sl} (a : Tgt g σ σ' δ δ') (b : Tgt g' σ' σ2 δ' δ2) : Tgt (g ++ g') σ σ2 δ δ2 := ⟨fun vs h => by
  rw [List.all_append] at h
  obtain ⟨h1, h2⟩ := b2 h
  rw [b.wp vs h2, a.wp vs h1], fun L h => b.ok L (a.ok L h)⟩
mutual
theorem simG : ∀ (g : AG) {x : V} {d : D} {σ : St} {δ : List Sl} {N : List Sl → Prop} {M : St → Hp → Prop}, Rp r Hs x d → Ok r Hs H → Fit me r H0 Hs H σ δ → uG g d δ N → (∀ σ' δ', N δ' → Fit me r H0 Hs H σ' δ' → Tgt (nmG g) σ σ' δ δ' → M σ' H) → hG K g x σ H M
  | .nm i, x, d, σ, δ, N, M, rp, ok, f, h, k => by
    refine k _ _ h (f.setS rp) ⟨fun vs hv => ?_, fun L hL => okL_set (fun _ => okM_sh) hL⟩
    refine wipe_in ?_
    have e : ([i].all vs.contains) = true := hv
    simpa using e
  | .tp gs, x, d, σ, δ, N, M, rp, ok, f, h, k => by
    cases rp with
    | lst e z t => exact .inr ⟨_, _, rfl, .inl (.inl (ok.sub _ _ e)), t.len.trans h.1, simGs gs t ok f h.2 k⟩
    | tup e z t => exact .inl ⟨_, _, rfl, .inl (.inl (ok.sub _ _ e)), t.len.trans h.1, simGs gs t ok f h.2 k⟩
    | _ => exact (show False from h).elim
theorem simGs : ∀ (gs : AGs) {xs : List V} {ds : List D} {σ : St} {δ : List Sl} {N : List Sl → Prop} {M : St → Hp → Prop}, Rps r Hs xs ds → Ok r Hs H → Fit me r H0 Hs H σ δ → uGs gs ds δ N → (∀ σ' δ', N δ' → Fit me r H0 Hs H σ' δ' → Tgt (nmGs gs) σ σ' δ δ' → M σ' H) → hGs K gs xs σ H M
  | .nil, xs, ds, σ, δ, N, M, rp, ok, f, h, k => by
    cases rp with
    | nil => exact ⟨rfl, k _ _ h f .refl⟩
    | cons _ _ => exact (show False from h).elim
  | .cons g gs, xs, ds, σ, δ, N, M, rp, ok, f, h, k => by
    cases rp with
    | nil => exact (show False from h).elim
    | cons h1 t => exact ⟨_, _, rfl, simG g h1 ok f h fun σ' δ' h' f' t1 => simGs gs t ok f' h' fun σ2 δ2 n f2 t2 => k σ2 δ2 n f2 (t1.trans t2)⟩
end

/-! ### walks -/
/-- what is walked yields these data, at each heap that may be reached -/
def Walk (r : Option Addr) (Rch : Hp → Hp → Prop) (J : It) (ds : List D) : Prop := ∀ Hs' H', Rch Hs' H' → Ok r Hs' H' →
  (∀ i d, ds[i]? = some d → J.go i H' ∧ ∀ x H'', J.yld i H' x H'' → ∃ Hs'', Stp r Hs' H' Hs'' H'' ∧ Ok r Hs'' H'' ∧ Rp r Hs'' x d) ∧ J.stop ds.length H'
theorem Walk.imp {R R' : Hp → Hp → Prop} {J : It} {ds : List D} (w : Walk r R J ds) (h : ∀ a b, R' a b → R a b) : Walk r R' J ds := fun a b q => w a b (h a b q)
theorem walk_lst {R : Hp → Hp → Prop} {a : Addr} {ds : List D} (h : ∀ Hs' H', R Hs' H' → Ok r Hs' H' → ∃ xs, H' a = some (.lst xs) ∧ Rps r Hs' xs ds) : Walk r R (Itl K a) ds := fun Hs' H' q ok => by
  obtain ⟨xs, e, t⟩ := h Hs' H' q ok
  refine ⟨fun i d hd => ?_, ⟨xs, .inl (.inl e), by rw [t.len]; exact Nat.le_refl _⟩⟩
  obtain ⟨x, hx, rx⟩ := t.get hd
  refine ⟨⟨xs, x, .inl (.inl e), hx⟩, fun y H'' z => ?_⟩
  obtain ⟨rfl, z⟩ := z
  have e2 := z xs (.inl (.inl e))
  rw [hx] at e2
  cases e2
  exact ⟨Hs', .refl, ok, rx⟩
theorem walk_tup {R : Hp → Hp → Prop} {a : Addr} {ds : List D} (h : ∀ Hs' H', R Hs' H' → Ok r Hs' H' → ∃ xs, H' a = some (.tup xs) ∧ Rps r Hs' xs ds) : Walk r R (Itt K a) ds := fun Hs' H' q ok => by
  obtain ⟨xs, e, t⟩ := h Hs' H' q ok
  refine ⟨fun i d hd => ?_, ⟨xs, .inl (.inl e), by rw [t.len]; exact Nat.le_refl _⟩⟩
  obtain ⟨x, hx, rx⟩ := t.get hd
  refine ⟨⟨xs, x, .inl (.inl e), hx⟩, fun y H'' z => ?_⟩
  obtain ⟨rfl, z⟩ := z
  have e2 := z xs (.inl (.inl e))
  rw [hx] at e2
  cases e2
  exact ⟨Hs', .refl, ok, rx⟩
theorem walk_rev {R : Hp → Hp → Prop} {a : Addr} {ds : List D} (h : ∀ Hs' H', R Hs' H' → Ok r Hs' H' → ∃ xs, H' a = some (.lst xs) ∧ Rps r Hs' xs ds) : Walk r R (Itv K a ds.length) ds.reverse := fun Hs' H' q ok => by
  obtain ⟨xs, e, t⟩ := h Hs' H' q ok
  refine ⟨fun i d hd => ?_, by show ds.length ≤ _; rw [List.length_reverse]; exact Nat.le_refl _⟩
  have hi : i < ds.length := by
    have := (List.getElem?_eq_some_iff.mp hd).1
    rwa [List.length_reverse] at this
  rw [List.getElem?_reverse hi] at hd
  obtain ⟨x, hx, rx⟩ := t.get hd
  refine ⟨⟨by omega, xs, x, .inl (.inl e), hx⟩, fun y H'' z => ?_⟩
  obtain ⟨rfl, z⟩ := z
  have e2 := z xs (.inl (.inl e))
  rw [hx] at e2
  cases e2
  exact ⟨Hs', .refl, ok, rx⟩
theorem rangeD_get {lo : Int} {n i : Nat} {d : D} (h : (rangeD lo n)[i]? = some d) : i < n ∧ d = .int (lo + i) := by
  unfold rangeD at h
  rw [List.getElem?_map] at h
  cases e : (List.range n)[i]? with
  | none => rw [e] at h; cases h
  | some j =>
    rw [e] at h
    cases h
    obtain ⟨h1, h2⟩ := List.getElem?_eq_some_iff.mp e
    rw [List.getElem_range] at h2
    rw [List.length_range] at h1
    subst h2
    exact ⟨h1, rfl⟩
theorem walk_rng {R : Hp → Hp → Prop} {lo : Int} {n : Nat} : Walk r R (Itr lo n) (rangeD lo n) := fun Hs' H' q ok => by
  refine ⟨fun i d hd => ?_, by show n ≤ (rangeD lo n).length; unfold rangeD; simp⟩
  obtain ⟨h1, rfl⟩ := rangeD_get hd
  refine ⟨h1, fun y H'' z => ?_⟩
  obtain ⟨rfl, rfl⟩ := z
  exact ⟨Hs', .refl, ok, .int _⟩
theorem walk_rngC {R : Hp → Hp → Prop} {lo c : Int} {n : Nat} : Walk r R (Itc lo c n) (rangeC lo c n) := fun Hs' H' q ok => by
  refine ⟨fun i d hd => ?_, by show n ≤ (rangeC lo c n).length; unfold rangeC; simp⟩
  unfold rangeC at hd
  rw [List.getElem?_map] at hd
  cases e : (List.range n)[i]? with
  | none => rw [e] at hd; cases hd
  | some j =>
    rw [e] at hd
    cases hd
    obtain ⟨h1, h2⟩ := List.getElem?_eq_some_iff.mp e
    rw [List.getElem_range] at h2
    rw [List.length_range] at h1
    subst h2
    refine ⟨h1, fun y H'' z => ?_⟩
    obtain ⟨rfl, rfl⟩ := z
    exact ⟨Hs', .refl, ok, .int _⟩
theorem walk_str {R : Hp → Hp → Prop} {x : Str} : Walk r R (Its x) (x.cps.toList.map fun c => .str ⟨#[c]⟩) := fun Hs' H' q ok => by
  refine ⟨fun i d hd => ?_, by show x.cps.size ≤ _; simp⟩
  rw [List.getElem?_map] at hd
  cases e : x.cps.toList[i]? with
  | none => rw [e] at hd; cases hd
  | some c =>
    rw [e] at hd
    cases hd
    obtain ⟨h1, h2⟩ := List.getElem?_eq_some_iff.mp e
    refine ⟨by show i < x.cps.size; simpa using h1, fun y H'' z => ?_⟩
    obtain ⟨rfl, c', hc, rfl⟩ := z
    have : x.cps[i]? = some c := by rw [← Array.getElem?_toList]; exact e
    rw [hc] at this
    cases this
    exact ⟨Hs', .refl, ok, .str _⟩
theorem yld_new {Hs' H' : Hp} {T : Addr} {x y : V} {d e : D} (ok : Ok r Hs' H') (hT : H' T = none) (hx : Rp r Hs' x d) (hy : Rp r Hs' y e) : ∃ Hs'', Stp r Hs' H' Hs'' (upd H' T (.tup [x, y])) ∧ Ok r Hs'' (upd H' T (.tup [x, y])) ∧ Rp r Hs'' (.ref T) (.tup [d, e]) := by
  have s : Stp r Hs' H' (upd Hs' T (.tup [x, y])) (upd H' T (.tup [x, y])) := .new hT (ok.nn hT)
  exact ⟨_, s, ok.new hT, .tup upd_same (by show 2 ≤ sizeLine; decide) (.cons (hx.ext s.sh) (.cons (hy.ext s.sh) .nil))⟩
theorem enumD_get : ∀ {ds : List D} {n i : Nat} {d : D}, (enumD n ds)[i]? = some d → ∃ e, ds[i]? = some e ∧ d = .tup [.int ((n + i : Nat) : Int), e]
  | [], n, i, d, h => by cases h
  | e :: r, n, 0, d, h => by cases h; exact ⟨e, rfl, rfl⟩
  | e :: r, n, i + 1, d, h => by
    obtain ⟨e', h1, h2⟩ := enumD_get (ds := r) (n := n + 1) (i := i) h
    exact ⟨e', h1, by rw [h2]; have : n + 1 + i = n + (i + 1) := by omega
                      rw [this]⟩
theorem enumD_len : ∀ (ds : List D) (n : Nat), (enumD n ds).length = ds.length
  | [], _ => rfl
  | _ :: r, n => congrArg (· + 1) (enumD_len r (n + 1))
theorem walk_enum {R : Hp → Hp → Prop} {a : Addr} {ds : List D} (h : ∀ Hs' H', R Hs' H' → Ok r Hs' H' → ∃ xs, H' a = some (.lst xs) ∧ Rps r Hs' xs ds) : Walk r R (Ite K a) (enumD 0 ds) := fun Hs' H' q ok => by
  obtain ⟨xs, e, t⟩ := h Hs' H' q ok
  refine ⟨fun i d hd => ?_, ⟨xs, .inl (.inl e), by rw [t.len, enumD_len]; exact Nat.le_refl _⟩⟩
  obtain ⟨d', hd', rfl⟩ := enumD_get hd
  obtain ⟨x, hx, rx⟩ := t.get hd'
  refine ⟨⟨xs, x, .inl (.inl e), hx⟩, fun y H'' z => ?_⟩
  obtain ⟨T, y, rfl, hT, rfl, z⟩ := z
  have e2 := z xs (.inl (.inl e))
  rw [hx] at e2
  cases e2
  rw [Nat.zero_add]
  exact yld_new ok hT (.int _) rx
theorem zipD_get : ∀ {ds es : List D} {i : Nat} {d : D}, (zipD ds es)[i]? = some d → ∃ x y, ds[i]? = some x ∧ es[i]? = some y ∧ d = .tup [x, y]
  | [], _, _, _, h => by cases h
  | _ :: _, [], _, _, h => by cases h
  | x :: r, y :: s, 0, d, h => by cases h; exact ⟨x, y, rfl, rfl, rfl⟩
  | x :: r, y :: s, i + 1, d, h => zipD_get (ds := r) (es := s) (i := i) h
theorem zipD_len : ∀ (ds es : List D), ds.length ≤ (zipD ds es).length ∨ es.length ≤ (zipD ds es).length
  | [], _ => .inl (Nat.zero_le _)
  | _ :: _, [] => .inr (Nat.zero_le _)
  | _ :: r, _ :: s => (zipD_len r s).imp Nat.succ_le_succ Nat.succ_le_succ
theorem zipD_le : ∀ (ds es : List D), (zipD ds es).length ≤ ds.length
  | [], _ => Nat.zero_le _
  | _ :: _, [] => Nat.zero_le _
  | _ :: r, _ :: s => Nat.succ_le_succ (zipD_le r s)
theorem walk_zip {R : Hp → Hp → Prop} {a b : Addr} {ds es : List D} (h : ∀ Hs' H', R Hs' H' → Ok r Hs' H' → ∃ xs, H' a = some (.lst xs) ∧ Rps r Hs' xs ds) (h' : ∀ Hs' H', R Hs' H' → Ok r Hs' H' → ∃ ys, H' b = some (.lst ys) ∧ Rps r Hs' ys es) : Walk r R (Itz K a b) (zipD ds es) := fun Hs' H' q ok => by
  obtain ⟨xs, e, t⟩ := h Hs' H' q ok
  obtain ⟨ys, e', t'⟩ := h' Hs' H' q ok
  refine ⟨fun i d hd => ?_, ⟨xs, ys, .inl (.inl e), .inl (.inl e'), by rw [t.len, t'.len]; exact zipD_len ds es⟩⟩
  obtain ⟨d1, d2, h1, h2, rfl⟩ := zipD_get hd
  obtain ⟨x, hx, rx⟩ := t.get h1
  obtain ⟨y, hy, ry⟩ := t'.get h2
  refine ⟨⟨xs, ys, x, y, .inl (.inl e), .inl (.inl e'), hx, hy⟩, fun w H'' z => ?_⟩
  obtain ⟨T, x', y', rfl, hT, rfl, z1, z2⟩ := z
  have e1 := z1 xs (.inl (.inl e))
  have e2 := z2 ys (.inl (.inl e'))
  rw [hx] at e1
  rw [hy] at e2
  cases e1
  cases e2
  exact yld_new ok hT rx ry
/-! a locked dict -/
theorem kv_at {kvs : List (Key × V)} {es : List (Key × D)} {Hs' : Hp} (hk : kvs.map (·.1) = es.map (·.1)) (t : Rps r Hs' (kvs.map (·.2)) (es.map (·.2))) {i : Nat} {e : Key × D} (h : es[i]? = some e) : ∃ v, kvs[i]? = some (e.1, v) ∧ Rp r Hs' v e.2 := by
  have h2 : (es.map (·.2))[i]? = some e.2 := by rw [List.getElem?_map, h]; rfl
  have h1 : (es.map (·.1))[i]? = some e.1 := by rw [List.getElem?_map, h]; rfl
  obtain ⟨v, hv, rv⟩ := t.get h2
  rw [← hk, List.getElem?_map] at h1
  rw [List.getElem?_map] at hv
  cases q : kvs[i]? with
  | none => rw [q] at h1; cases h1
  | some p =>
    rw [q] at h1 hv
    obtain ⟨p1, p2⟩ := p
    cases h1
    cases hv
    exact ⟨_, rfl, rv⟩
theorem kv_len {kvs : List (Key × V)} {es : List (Key × D)} (hk : kvs.map (·.1) = es.map (·.1)) : kvs.length = es.length := by
  have := congrArg List.length hk
  simpa using this
theorem rp_kD (k : Key) {Hs' : Hp} : Rp r Hs' (kV k) (kD k) := by
  cases k with
  | inl i => exact .int i
  | inr x => exact .str x
theorem walk_items {R : Hp → Hp → Prop} {a : Addr} {o : Obj} {kvs : List (Key × V)} {es : List (Key × D)} (hk : kvs.map (·.1) = es.map (·.1)) (h : ∀ Hs' H', R Hs' H' → Ok r Hs' H' → H' a = some (.frz o (.dK kvs)) ∧ Rps r Hs' (kvs.map (·.2)) (es.map (·.2))) : Walk r R (Iti a o kvs) (es.map fun e => .tup [kD e.1, e.2]) := fun Hs' H' q ok => by
  obtain ⟨e, t⟩ := h Hs' H' q ok
  refine ⟨fun i d hd => ?_, e, by rw [List.length_map, kv_len hk]; exact Nat.le_refl _⟩
  rw [List.getElem?_map] at hd
  cases q2 : es[i]? with
  | none => rw [q2] at hd; cases hd
  | some p =>
    rw [q2] at hd
    cases hd
    obtain ⟨v, hv, rv⟩ := kv_at hk t q2
    refine ⟨⟨e, (List.getElem?_eq_some_iff.mp hv).1⟩, fun y H'' z => ?_⟩
    obtain ⟨T, k, v', h1, rfl, hT, rfl⟩ := z
    rw [hv] at h1
    cases h1
    exact yld_new ok hT (rp_kD _) rv
theorem walk_keys {R : Hp → Hp → Prop} {a : Addr} {o : Obj} {kvs : List (Key × V)} {es : List (Key × D)} (hk : kvs.map (·.1) = es.map (·.1)) (h : ∀ Hs' H', R Hs' H' → Ok r Hs' H' → H' a = some (.frz o (.dK kvs)) ∧ Rps r Hs' (kvs.map (·.2)) (es.map (·.2))) : Walk r R (Itk a o kvs) (es.map fun e => kD e.1) := fun Hs' H' q ok => by
  obtain ⟨e, t⟩ := h Hs' H' q ok
  refine ⟨fun i d hd => ?_, e, by rw [List.length_map, kv_len hk]; exact Nat.le_refl _⟩
  rw [List.getElem?_map] at hd
  cases q2 : es[i]? with
  | none => rw [q2] at hd; cases hd
  | some p =>
    rw [q2] at hd
    cases hd
    obtain ⟨v, hv, rv⟩ := kv_at hk t q2
    refine ⟨⟨e, (List.getElem?_eq_some_iff.mp hv).1⟩, fun y H'' z => ?_⟩
    obtain ⟨rfl, k, v', h1, rfl⟩ := z
    rw [hv] at h1
    cases h1
    exact ⟨Hs', .refl, ok, rp_kD _⟩
theorem walk_vals {R : Hp → Hp → Prop} {a : Addr} {o : Obj} {kvs : List (Key × V)} {es : List (Key × D)} (hk : kvs.map (·.1) = es.map (·.1)) (h : ∀ Hs' H', R Hs' H' → Ok r Hs' H' → H' a = some (.frz o (.dK kvs)) ∧ Rps r Hs' (kvs.map (·.2)) (es.map (·.2))) : Walk r R (Itd a o kvs) (es.map fun e => e.2) := fun Hs' H' q ok => by
  obtain ⟨e, t⟩ := h Hs' H' q ok
  refine ⟨fun i d hd => ?_, e, by rw [List.length_map, kv_len hk]; exact Nat.le_refl _⟩
  rw [List.getElem?_map] at hd
  cases q2 : es[i]? with
  | none => rw [q2] at hd; cases hd
  | some p =>
    rw [q2] at hd
    cases hd
    obtain ⟨v, hv, rv⟩ := kv_at hk t q2
    refine ⟨⟨e, (List.getElem?_eq_some_iff.mp hv).1⟩, fun y H'' z => ?_⟩
    obtain ⟨rfl, k, h1⟩ := z
    rw [hv] at h1
    cases h1
    exact ⟨Hs', .refl, ok, rv⟩
end

/-! ### locks -/
def lks (H : Hp) (d : Addr) (o : HO) : Hp := match H d with
  | some _ => upd H d o
  | none => H
theorem lks_ne {H : Hp} {d b : Addr} {o : HO} (h : b ≠ d) : lks H d o b = H b := by
  unfold lks
  cases H d with
  | some u => exact upd_ne h
  | none => rfl
theorem lks_some {H : Hp} {d : Addr} {o u : HO} (h : H d = some u) : lks H d o = upd H d o := by
  unfold lks
  rw [h]
theorem lks_none {H : Hp} {d : Addr} {o : HO} (h : H d = none) : lks H d o = H := by
  unfold lks
  rw [h]
section
variable {me r : Option Addr} {H0 Hs H : Hp} {σ : St} {δ : List Sl} {d : Addr} {kvs : List (Key × V)} {od : Obj}
theorem same_lock {H : Hp} (h : ∀ u, H d = some u → u = .dK kvs) : Same H (lks H d (.frz od (.dK kvs))) := fun b o e => by
  by_cases hb : b = d
  · subst hb
    rw [lks_some e]
    cases h _ e
    exact .inr ⟨kvs, .inl e, .inr ⟨od, upd_same⟩⟩
  · rw [lks_ne hb]
    exact .inl e
theorem same_unlock {H : Hp} (h : ∀ u, H d = some u → u = .frz od (.dK kvs)) : Same H (lks H d (.dK kvs)) := fun b o e => by
  by_cases hb : b = d
  · subst hb
    rw [lks_some e]
    cases h _ e
    exact .inr ⟨kvs, .inr ⟨od, e⟩, .inl upd_same⟩
  · rw [lks_ne hb]
    exact .inl e
theorem lock_ok (k : Ok r Hs H) (e : H d = some (.dK kvs)) (n : r ≠ some d) : Ok r (lks Hs d (.frz od (.dK kvs))) (upd H d (.frz od (.dK kvs))) := by
  refine ⟨fun b o h => ?_, fun a z => ?_⟩
  · by_cases hb : b = d
    · subst hb
      cases q : Hs b with
      | none => rw [lks_none q, q] at h; cases h
      | some u => rw [lks_some q, upd_same] at h; rw [upd_same]; exact h
    · rw [lks_ne hb] at h
      rw [upd_ne hb]
      exact k.sub b o h
  · have hb : a ≠ d := fun q => n (by rw [← q]; exact z)
    exact ⟨by rw [lks_ne hb]; exact (k.rg a z).1, (k.rg a z).2.ne hb⟩
theorem Pk.same {Hq Hq' Hs' : Hp} {v : V} {x : D} (s : Same Hs Hs') (t : Same Hq Hq') (h : Pk r Hs Hq v x) : Pk r Hs' Hq' v x := by
  cases x with
  | lst ds =>
    obtain ⟨a, xs, e, n, h, z, q⟩ := h
    exact ⟨a, xs, e, n, t.at h (fun _ z => nomatch z) (fun _ _ z => nomatch z), z, q.same s⟩
  | dic es =>
    obtain ⟨a, kvs, e, n, h, z, q, w⟩ := h
    exact ⟨a, kvs, e, n, t.rd h, z, q, w.same s⟩
  | ins C gs =>
    obtain ⟨a, dx, fs, e, n, h, q, w⟩ := h
    exact ⟨a, dx, fs, e, n, t.at h (fun _ z => nomatch z) (fun _ _ z => nomatch z), q, w.same s⟩
  | _ => exact Rp.same s h
theorem Ow.same {Hq' Hs' : Hp} {a : Addr} {x : D} (s : Same Hs Hs') (t : Hq' a = H a) (h : Ow r Hs H a x) : Ow r Hs' Hq' a x := by
  cases x with
  | lst ds =>
    obtain ⟨xs, h, z, q⟩ := h
    exact ⟨xs, t.trans h, z, q.same s⟩
  | dic es =>
    obtain ⟨kvs, h, z, q, w⟩ := h
    exact ⟨kvs, t.trans h, z, q, w.same s⟩
  | ins C gs =>
    obtain ⟨dx, fs, h, q, w⟩ := h
    exact ⟨dx, fs, t.trans h, q, w.same s⟩
  | _ => exact h.elim
theorem lock_fit (k : Ok r Hs H) (f : Fit me r H0 Hs H σ δ) (e : H d = some (.dK kvs)) (n : r ≠ some d) (no : ∀ j, (dl δ j).own = true → sl σ j ≠ some (.ref d)) : Fit me r (lks H0 d (.frz od (.dK kvs))) (lks Hs d (.frz od (.dK kvs))) (upd H d (.frz od (.dK kvs))) σ δ := by
  have s1 : Same Hs (lks Hs d (.frz od (.dK kvs))) := same_lock fun u q => by rw [k.sub _ _ q] at e; cases e; rfl
  have s0 : Same H0 (lks H0 d (.frz od (.dK kvs))) := same_lock fun u q => by rw [f.bs _ _ n q] at e; cases e; rfl
  refine ⟨f.len, fun b o nb h => ?_, fun i => ?_, f.ap⟩
  · by_cases hb : b = d
    · subst hb
      cases q : H0 b with
      | none => rw [lks_none q, q] at h; cases h
      | some u => rw [lks_some q, upd_same] at h; rw [upd_same]; exact h
    · rw [lks_ne hb] at h
      rw [upd_ne hb]
      exact f.bs b o nb h
  · have q := f.at_ i
    cases x : dl δ i with
    | un => trivial
    | sh dd => rw [x] at q; obtain ⟨v, q1, q2⟩ := q; exact ⟨v, q1, q2.same s1⟩
    | bw dd => rw [x] at q; obtain ⟨v, q1, q2⟩ := q; exact ⟨v, q1, q2.imp (Pk.same s1 s0) fun q => q.same s1⟩
    | ow dd =>
      have na := no i (by rw [x]; rfl)
      rw [x] at q
      obtain ⟨a, q1, q2, q3, q4, q5⟩ := q
      have hd : a ≠ d := fun z => na (by rw [q1, z])
      exact ⟨a, q1, q2, by rw [lks_ne hd]; exact q3, by rw [lks_ne hd]; exact q4, q5.same s1 (upd_ne hd)⟩
    | pn dd =>
      have na := no i (by rw [x]; rfl)
      rw [x] at q
      obtain ⟨a, q1, qm, q2, q3, q4, q5⟩ := q
      have hd : a ≠ d := fun z => na (by rw [q1, z])
      exact ⟨a, q1, qm, q2, by rw [lks_ne hd]; exact q3, by rw [lks_ne hd]; exact q4, q5.same s1 (upd_ne hd)⟩
/-- behind the walk the dict is unlocked -/
theorem unlock {Hs' H' : Hp} (k : Ok r Hs H) (e : H d = some (.dK kvs)) (n : r ≠ some d) (s : Stp r (lks Hs d (.frz od (.dK kvs))) (upd H d (.frz od (.dK kvs))) Hs' H') (k' : Ok r Hs' H') :
    H' d = some (.frz od (.dK kvs)) ∧ Stp r Hs H (lks Hs' d (.dK kvs)) (upd H' d (.dK kvs)) ∧ Ok r (lks Hs' d (.dK kvs)) (upd H' d (.dK kvs)) ∧ Same Hs' (lks Hs' d (.dK kvs)) := by
  have hd : H' d = some (.frz od (.dK kvs)) := s.kp _ _ n upd_same
  refine ⟨hd, ⟨fun b o h => ?_, fun b o nb h => ?_, fun b o h1 h2 => ?_⟩, ⟨fun b o h => ?_, fun a z => ?_⟩, same_unlock fun u q => by rw [k'.sub _ _ q] at hd; cases hd; rfl⟩
  · by_cases hb : b = d
    · subst hb
      have q := s.sh b _ (by rw [lks_some h, upd_same])
      rw [lks_some q, upd_same]
      rw [k.sub _ _ h] at e
      exact e.symm
    · rw [lks_ne hb]
      exact s.sh b o (by rw [lks_ne hb]; exact h)
  · by_cases hb : b = d
    · subst hb
      rw [upd_same, ← e, h]
    · rw [upd_ne hb]
      exact s.kp b o nb (by rw [upd_ne hb]; exact h)
  · by_cases hb : b = d
    · subst hb
      have q := s.nw b _ upd_same (by rw [lks_none h2]; exact h2)
      rw [lks_none q]
      exact q
    · rw [lks_ne hb]
      exact s.nw b o (by rw [upd_ne hb]; exact h1) (by rw [lks_ne hb]; exact h2)
  · by_cases hb : b = d
    · subst hb
      cases q : Hs' b with
      | none => rw [lks_none q, q] at h; cases h
      | some u => rw [lks_some q, upd_same] at h; rw [upd_same]; exact h
    · rw [lks_ne hb] at h
      rw [upd_ne hb]
      exact k'.sub b o h
  · have hb : a ≠ d := fun q => n (by rw [← q]; exact z)
    exact ⟨by rw [lks_ne hb]; exact (k'.rg a z).1, (k'.rg a z).2.ne hb⟩
end
end AS

set_option Elab.async false
set_option linter.all false
set_option maxRecDepth 100000
set_option maxHeartbeats 4000000
/-! P4: the two meanings of expressions agree. -/
namespace AS
open PySem PySem.Spec PyProof.Rows L2
/-- a value that is peeked at: shared, or a slot's -/
def Pv (m : Lm) (e : AE) (σ : St) (δ : List Sl) (r : Option Addr) (Hs : Hp) (v : V) (d : D) : Prop := Rp r Hs v d ∨ ∃ j, sl σ j = some v ∧ (dl δ j).dat = some d ∧ okM m (dl δ j) = true ∧ (m = .pk → (j, Lm.on) ∈ lkM .on e)
def Km (m : Lm) (e : AE) (σ : St) (δ : List Sl) (r : Option Addr) (Hs H : Hp) (P : D → Prop) (Q : VK) : Prop := ∀ v d Hs' H', P d → Stp r Hs H Hs' H' → Ok r Hs' H' → Pv m e σ δ r Hs' v d → Q v H'
abbrev xw (W : WX) (σ : St) : XK := fun c dx H' => W c dx σ H'
section
variable (K : PySem.W.Frag)
def SimE (e : AE) : Prop := ∀ (W : WX) (me r : Option Addr) (H0 Hs H : Hp) (σ : St) (δ : List Sl) (P : D → Prop) (X : XD) (Q : VK), Ok r Hs H → Fit me r H0 Hs H σ δ → okL δ (lkM .on e) = true → uE e δ P X → Kv r Hs H P Q → Kx r Hs H X (xw W σ) → hE K W e σ H Q
def SimM (m : Lm) (e : AE) : Prop := ∀ (W : WX) (me r : Option Addr) (H0 Hs H : Hp) (σ : St) (δ : List Sl) (P : D → Prop) (X : XD) (Q : VK), Ok r Hs H → Fit me r H0 Hs H σ δ → okL δ (lkM m e) = true → uE e δ P X → Km m e σ δ r Hs H P Q → Kx r Hs H X (xw W σ) → hE K W e σ H Q
def SimF (e : AE) : Prop := ∀ (W : WX) (me r : Option Addr) (H0 Hs H : Hp) (σ : St) (δ : List Sl) (P : D → Prop) (X : XD) (Q : VK), Ok r Hs H → Fit me r H0 Hs H σ δ → okL δ (lkM .on e) = true → uE e δ P X → Kf r Hs H P Q → Kx r Hs H X (xw W σ) → hE K W e σ H Q
structure SE (e : AE) : Prop where
  E : SimE K e
  M : ∀ m, m ≠ .on → SimM K m e
  F : isNew e = true → SimF K e
def SimT (t : AT) : Prop := ∀ (W : WX) (me r : Option Addr) (H0 Hs H : Hp) (σ : St) (δ : List Sl) (P : Bool → Prop) (X : XD) (Q : Bool → Hp → Prop), Ok r Hs H → Fit me r H0 Hs H σ δ → okL δ (lkT t) = true → uT t δ P X → (∀ b Hs' H', P b → Stp r Hs H Hs' H' → Ok r Hs' H' → Q b H') → Kx r Hs H X (xw W σ) → hT K W t σ H Q
def SimA (bor : Bool) (es : AA) : Prop := ∀ (W : WX) (me r : Option Addr) (H0 Hs H : Hp) (σ : St) (δ : List Sl) (P : List D → Prop) (X : XD) (Q : List V → Hp → Prop), Ok r Hs H → Fit me r H0 Hs H σ δ → okL δ (lkA (match bor with | true => .pk | false => .on) es) = true → uA es δ P X → (∀ vs ds Hs' H', P ds → Stp r Hs H Hs' H' → Ok r Hs' H' → AR bor r Hs' H' vs ds → Q vs H') → Kx r Hs H X (xw W σ) → hA K W es σ H Q
def SimR (ps : AP) : Prop := ∀ (W : WX) (me r : Option Addr) (H0 Hs H : Hp) (σ : St) (δ : List Sl) (P : List (Key × D) → Prop) (X : XD) (Q : List (V × V) → Hp → Prop), Ok r Hs H → Fit me r H0 Hs H σ δ → okL δ (lkR ps) = true → uP ps δ P X → (∀ (kvs : List (Key × V)) (es : List (Key × D)) Hs' H', P es → Stp r Hs H Hs' H' → Ok r Hs' H' → kvs.map (·.1) = es.map (·.1) → Rps r Hs' (kvs.map (·.2)) (es.map (·.2)) → Q (kvs.map fun kv => (kV kv.1, kv.2)) H') → Kx r Hs H X (xw W σ) → tPairs (hP K W ps) σ H Q
def SimJ (es : AA) : Prop := ∀ (W : WX) (me r : Option Addr) (H0 Hs H : Hp) (σ : St) (δ : List Sl) (acc : Str) (P : Str → Prop) (X : XD) (Q : Str → Hp → Prop), Ok r Hs H → Fit me r H0 Hs H σ δ → okL δ (lkA .on es) = true → uJ es acc δ P X → (∀ y Hs' H', P y → Stp r Hs H Hs' H' → Ok r Hs' H' → Q y H') → Kx r Hs H X (xw W σ) → tJs (hL K W es) acc σ H Q
def SimO (es : AA) : Prop := ∀ (W : WX) (me r : Option Addr) (H0 Hs H : Hp) (σ : St) (δ : List Sl) (P : Option Int → Prop) (X : XD) (Q : Option Int → Hp → Prop), Ok r Hs H → Fit me r H0 Hs H σ δ → okL δ (lkA .on es) = true → uO es δ P X → (∀ y Hs' H', P y → Stp r Hs H Hs' H' → Ok r Hs' H' → Q y H') → Kx r Hs H X (xw W σ) → hO K W es σ H Q
structure SA (es : AA) : Prop where
  A : ∀ b, SimA K b es
  J : SimJ K es
  O : SimO K es
/-- the heaps that may be reached while a thing is walked -/
structure RchOk (m : Lm) (r : Option Addr) (H0 Hs1 H1 : Hp) (R : Hp → Hp → Prop) : Prop where
  ext : ∀ Hs' H', R Hs' H' → Ext Hs1 Hs'
  bs : ∀ Hs' H', R Hs' H' → ∀ b o, r ≠ some b → H0 b = some o → H' b = some o
  all : m = .wk → ∀ Hs' H', R Hs' H' → ∀ b o, r ≠ some b → H1 b = some o → H' b = some o
/-- the value of a path, by the slots and the heap -/
def pathA (a : AE) (σ : St) (H : Hp) : Option V := match a with
  | .nm i => sl σ i
  | .fld f (.nm i) => (match sl σ i with
    | some (.ref b) => (match H b with
      | some (.ins _ _ fs) => fs.lookup f.f
      | _ => none)
    | _ => none)
  | _ => none
def itA : AI → Option AE
  | .items a => some a
  | .vals a => some a
  | .keys a => some a
  | .any a => some a
  | _ => none
/-- a dict that is walked is locked -/
def Frz (it : AI) (σ : St) (H : Hp) : Prop := ∀ a d kvs, itA it = some a → pathA a σ H = some (.ref d) → H d ≠ some (.dK kvs)
def SimI (m : Lm) (it : AI) : Prop := ∀ (b : Bool) (W : WX) (me r : Option Addr) (H0 Hs H : Hp) (σ : St) (δ : List Sl) (P : List D → Prop) (X : XD) (R : It → Hp → Prop), Ok r Hs H → Fit me r H0 Hs H σ δ → okL δ (lkI m it) = true → Frz it σ H → uI b it δ P X →
  (∀ J ds Hs1 H1, P ds → Stp r Hs H Hs1 H1 → Ok r Hs1 H1 → ds.length ≤ sizeLine → (∀ Rch, RchOk m r H0 Hs1 H1 Rch → Walk r Rch J ds) → R J H1) → Kx r Hs H X (xw W σ) → hI K W it σ H R
end

section
variable {K : PySem.W.Frag} {me r : Option Addr} {H0 Hs H Hs' H' : Hp} {σ : St} {δ : List Sl}
theorem Pv.pk {m : Lm} {e : AE} {v : V} {d : D} (f : Fit me r H0 Hs H σ δ) (k : Ok r Hs H) (h : Pv m e σ δ r Hs v d) : Pk r Hs H v d := by
  rcases h with h | ⟨j, h1, h2, _⟩
  · exact h.pk k
  · exact f.pk k h1 h2
theorem Pv.ext {m : Lm} {e : AE} {v : V} {d : D} (x : Ext Hs Hs') (h : Pv m e σ δ r Hs v d) : Pv m e σ δ r Hs' v d := h.imp (Rp.ext x) fun h => h
/-- it stays while a thing is walked -/
theorem Pv.stay {m : Lm} {e : AE} {v : V} {d : D} {R : Hp → Hp → Prop} (hm : m = .wk ∨ m = .fr) (f : Fit me r H0 Hs H σ δ) (k : Ok r Hs H) (c : RchOk m r H0 Hs H R) (h : Pv m e σ δ r Hs v d) (q : R Hs' H') (k' : Ok r Hs' H') : Pk r Hs' H' v d := by
  have x := c.ext _ _ q
  rcases h with h | ⟨j, h1, h2, h3, _⟩
  · exact (h.ext x).pk k'
  · rcases hm with rfl | rfl
    · exact (f.pk k h1 h2).shx x |>.top (c.all rfl _ _ q)
    · have w := f.at_ j
      cases e : dl δ j with
      | un => rw [e] at h2; cases h2
      | ow d' => rw [e] at h3; cases h3
      | pn d' => rw [e] at h3; cases h3
      | sh d' =>
        rw [e] at w h2
        cases h2
        obtain ⟨u, e1, w⟩ := w
        rw [h1] at e1
        cases e1
        exact (w.ext x).pk k'
      | bw d' =>
        rw [e] at w h2
        cases h2
        obtain ⟨u, e1, w⟩ := w
        rw [h1] at e1
        cases e1
        rcases w with w | w
        · exact (w.shx x).top (c.bs _ _ q)
        · exact (w.ext x).pk k'
theorem SimE.simM {e : AE} {m : Lm} (h : SimE K e) (hl : ∀ m, lkM m e = lkM .on e) : SimM K m e := fun W me r H0 Hs H σ δ P X Q ok f hk hu km kx => h W me r H0 Hs H σ δ P X Q ok f (by rw [← hl m]; exact hk) hu (fun v d Hs' H' p s o rp => km v d Hs' H' p s o (.inl rp)) kx
theorem SE.of {e : AE} (h : SimE K e) (hl : ∀ m, lkM m e = lkM .on e) (hn : isNew e = false) : SE K e := ⟨h, fun m _ => h.simM hl, fun z => by rw [hn] at z; cases z⟩
theorem SE.new {e : AE} (h : SimF K e) (hl : ∀ m, lkM m e = lkM .on e) : SE K e := by
  have hE : SimE K e := fun W me r H0 Hs H σ δ P X Q ok f hk hu kv kx => h W me r H0 Hs H σ δ P X Q ok f hk hu kv.kf kx
  exact ⟨hE, fun m _ => hE.simM hl, fun _ => h⟩
theorem SE.P {e : AE} (h : SE K e) : SimM K .pk e := h.M .pk (by intro z; cases z)
theorem kx_bot {E : XK} : Kx r Hs H (fun _ => False) E := fun _ _ _ _ _ h => h.elim

/-! ### names, constants -/
theorem se_nm {i : Nat} : SE K (.nm i) := by
  refine ⟨fun W me r H0 Hs H σ δ P X Q ok f hk hu kv kx => ?_, fun m hm W me r H0 Hs H σ δ P X Q ok f hk hu km kx => ?_, fun z => nomatch z⟩
  · unfold uE at hu
    cases e : (dl δ i).dat with
    | none => rw [e] at hu; exact hu.elim
    | some d =>
      rw [e] at hu
      obtain ⟨v, hv⟩ := f.val e
      have hp : (dl δ i).prv = false := by simpa [okM] using okL_one hk
      unfold hE
      exact nm_i hv (kv v d Hs H hu .refl ok (f.rp ok hp hv e))
  · unfold uE at hu
    cases e : (dl δ i).dat with
    | none => rw [e] at hu; exact hu.elim
    | some d =>
      rw [e] at hu
      obtain ⟨v, hv⟩ := f.val e
      unfold hE
      refine nm_i hv (km v d Hs H hu .refl ok (.inr ⟨i, hv, e, ?_, fun _ => by simp [lkM]⟩))
      cases m with
      | on => exact absurd rfl hm
      | pk => cases dl δ i <;> rfl
      | wk => exact okL_one hk
      | fr => exact okL_one hk
theorem rp_ofV (v : V) : Rp r Hs v (ofV v) := by
  cases v with
  | non => exact .non
  | bl b => exact .bl b
  | int i => exact .int i
  | str x => exact .str x
  | _ => exact .cst _
theorem se_cn {v : V} : SE K (.cn v) := .of (fun W me r H0 Hs H σ δ P X Q ok f hk hu kv kx => by
  unfold uE at hu
  unfold hE
  exact c_i (kv v _ Hs H hu .refl ok (rp_ofV v))) (fun m => by cases m <;> rfl) rfl

/-! ### operators -/
theorem se_op {o : Op} {a b : AE} (ha : SE K a) (hb : SE K b) : SE K (.op o a b) := .of (fun W me r H0 Hs H σ δ P X Q ok f hk hu kv kx => by
  unfold uE at hu
  unfold hE
  obtain ⟨la, lb⟩ := okL_app hk
  refine op_i (ha.P W me r H0 Hs H σ δ _ X _ ok f la hu (fun x dx Hs1 H1 p s1 o1 rx => ?_) kx)
  refine hb.P W me r H0 Hs1 H1 σ δ _ X _ o1 (f.stp s1) lb p (fun y dy Hs2 H2 p2 s2 o2 ry => ?_) (kx.mono s1 o1)
  have f2 := (f.stp s1).stp s2
  exact o.ok r Hs2 H2 x y dx dy P Q o2 ((rx.ext s2.sh).pk f2 o2) (ry.pk f2 o2) p2 (kv.mono (s1.trans o1 s2) o2)) (fun m => by cases m <;> rfl) rfl
theorem opX_r {o : Op} {ox : OpE} {a b : AE} (ha : SE K a) (hb : SE K b) (W : WX) (me r : Option Addr) (H0 Hs H : Hp) (σ : St) (δ : List Sl) (P : D → Prop) (X : XD) (Q : VK) (ok : Ok r Hs H) (f : Fit me r H0 Hs H σ δ) (hk : okL δ (lkM .on a ++ lkM .on b) = true)
    (hu : uE a δ (fun x => uE b δ (fun y => opXU o ox x y P X) X) X) (kv : Kv r Hs H P Q) (kx : Kx r Hs H X (xw W σ)) : tOpX (rOr o.r ox.r) W (hE K W a) (hE K W b) σ H Q := by
  obtain ⟨la, lb⟩ := okL_app hk
  show hE K W a σ H fun x H1 => hE K W b σ H1 fun y H2 => rOr o.r ox.r x y H2 Q fun c d H' => W c d σ H'
  refine ha.E W me r H0 Hs H σ δ _ X _ ok f la hu (fun x dx Hs1 H1 p s1 o1 rx => ?_) kx
  refine hb.E W me r H0 Hs1 H1 σ δ _ X _ o1 (f.stp s1) lb p (fun y dy Hs2 H2 p2 s2 o2 ry => ?_) (kx.mono s1 o1)
  unfold opXU at p2
  cases es : ox.sel dx dy with
  | true =>
    rw [es] at p2
    exact .inr (ox.ok r Hs2 H2 x y dx dy P X Q _ o2 (rx.ext s2.sh) ry es p2 (kv.mono (s1.trans o1 s2) o2) (kx.mono (s1.trans o1 s2) o2))
  | false =>
    rw [es] at p2
    exact .inl (o.ok r Hs2 H2 x y dx dy P Q o2 ((rx.ext s2.sh).pk o2) (ry.pk o2) p2 (kv.mono (s1.trans o1 s2) o2))
theorem se_opX {o : Op} {ox : OpE} {a b : AE} (ha : SE K a) (hb : SE K b) : SE K (.opX o ox a b) := .of (fun W me r H0 Hs H σ δ P X Q ok f hk hu kv kx => by
  unfold uE at hu
  unfold hE
  exact opX_r ha hb W me r H0 Hs H σ δ P X Q ok f hk hu kv kx) (fun m => by cases m <;> rfl) rfl
theorem pk_int {v : V} {i : Int} (h : Pk r Hs H v (.int i)) : v = .int i := by cases (show Rp r Hs v (.int i) from h); rfl
theorem pk_str {v : V} {x : Str} (h : Pk r Hs H v (.str x)) : v = .str x := by cases (show Rp r Hs v (.str x) from h); rfl
theorem pk_bl {v : V} {b : Bool} (h : Pk r Hs H v (.bl b)) : v = .bl b := by cases (show Rp r Hs v (.bl b) from h); rfl
theorem pk_cst {v w : V} (h : Pk r Hs H v (.cst w)) : v = w := by cases (show Rp r Hs v (.cst w) from h); rfl
theorem se_neg {a : AE} (ha : SE K a) : SE K (.neg a) := .of (fun W me r H0 Hs H σ δ P X Q ok f hk hu kv kx => by
  unfold uE at hu
  unfold hE
  refine un_i (ha.P W me r H0 Hs H σ δ _ X _ ok f hk hu (fun x dx Hs1 H1 p s1 o1 rx => ?_) kx)
  cases dx with
  | int i =>
    cases pk_int (rx.pk (f.stp s1) o1)
    exact kv _ _ Hs1 H1 p s1 o1 (.int _)
  | _ => exact (show False from p).elim) (fun m => by cases m <;> rfl) rfl
theorem tru_pk {x : V} {d : D} {b : Bool} {R : Bool → Hp → Prop} (k : Ok r Hs H) (h : Pk r Hs H x d) (ht : truD d = some b) (q : R b H) : truG K x H R := by
  cases d with
  | non => cases (show Rp r Hs x .non from h); cases ht; exact q
  | bl c => cases pk_bl h; cases ht; exact q
  | int i => cases pk_int h; cases ht; exact q
  | str y =>
    cases pk_str h
    have ht : (if y.length ≤ sizeLine then some ((y.length : Int) != 0) else none) = some b := ht
    by_cases hl : y.length ≤ sizeLine
    · rw [if_pos hl] at ht
      cases ht
      exact ⟨_, ⟨hl, rfl⟩, q⟩
    · rw [if_neg hl] at ht
      cases ht
  | lst ds =>
    obtain ⟨a, xs, rfl, _, e, _, t⟩ := h
    cases ht
    exact ⟨_, .inl ⟨xs, .inl (.inl e), rfl⟩, by cases t <;> exact q⟩
  | tup ds =>
    cases ht
    cases (show Rp r Hs x (.tup ds) from h) with
    | tup e z t => exact ⟨_, .inr (.inl ⟨_, .inl (.inl (k.sub _ _ e)), rfl⟩), by cases t <;> exact q⟩
  | _ => cases ht
theorem se_nt {a : AE} (ha : SE K a) : SE K (.nt a) := .of (fun W me r H0 Hs H σ δ P X Q ok f hk hu kv kx => by
  unfold uE at hu
  unfold hE
  refine notG_i (ha.P W me r H0 Hs H σ δ _ X _ ok f hk hu (fun x dx Hs1 H1 p s1 o1 rx => ?_) kx)
  cases e : truD dx with
  | none => rw [e] at p; exact p.elim
  | some b =>
    rw [e] at p
    exact tru_pk o1 (rx.pk (f.stp s1) o1) e (kv _ _ Hs1 H1 p s1 o1 (.bl _))) (fun m => by cases m <;> rfl) rfl
theorem se_an {a b : AE} (ha : SE K a) (hb : SE K b) : SE K (.an a b) := .of (fun W me r H0 Hs H σ δ P X Q ok f hk hu kv kx => by
  unfold uE at hu
  unfold hE
  obtain ⟨la, lb⟩ := okL_app hk
  refine andG_i (ha.E W me r H0 Hs H σ δ _ X _ ok f la hu (fun x dx Hs1 H1 p s1 o1 rx => ?_) kx)
  cases e : truD dx with
  | none => rw [e] at p; exact p.elim
  | some c =>
    rw [e] at p
    refine tru_pk o1 (rx.pk o1) e ?_
    cases c with
    | true => exact iteT (hb.E W me r H0 Hs1 H1 σ δ P X Q o1 (f.stp s1) lb p (kv.mono s1 o1) (kx.mono s1 o1))
    | false => exact iteF (kv _ _ Hs1 H1 p s1 o1 rx)) (fun m => by cases m <;> rfl) rfl
theorem se_or {a b : AE} (ha : SE K a) (hb : SE K b) : SE K (.orE a b) := .of (fun W me r H0 Hs H σ δ P X Q ok f hk hu kv kx => by
  unfold uE at hu
  unfold hE
  obtain ⟨la, lb⟩ := okL_app hk
  refine orG_i (ha.E W me r H0 Hs H σ δ _ X _ ok f la hu (fun x dx Hs1 H1 p s1 o1 rx => ?_) kx)
  cases e : truD dx with
  | none => rw [e] at p; exact p.elim
  | some c =>
    rw [e] at p
    refine tru_pk o1 (rx.pk o1) e ?_
    cases c with
    | true => exact iteT (kv _ _ Hs1 H1 p s1 o1 rx)
    | false => exact iteF (hb.E W me r H0 Hs1 H1 σ δ P X Q o1 (f.stp s1) lb p (kv.mono s1 o1) (kx.mono s1 o1))) (fun m => by cases m <;> rfl) rfl
theorem se_ch {o o' : Op} {a b c : AE} (ha : SE K a) (hb : SE K b) (hc : SE K c) : SE K (.ch o o' a b c) := .of (fun W me r H0 Hs H σ δ P X Q ok f hk hu kv kx => by
  unfold uE at hu
  unfold hE
  obtain ⟨la, lb⟩ := okL_app hk
  obtain ⟨lb, lc⟩ := okL_app lb
  show hE K W a σ H fun x H1 => hE K W b σ H1 fun y H2 => o.r x y H2 fun z H3 => ∃ k, z = .bl k ∧ (if k = true then hE K W c σ H3 fun w' H4 => o'.r y w' H4 Q else Q (.bl false) H3)
  refine ha.P W me r H0 Hs H σ δ _ X _ ok f la hu (fun x dx Hs1 H1 p s1 o1 rx => ?_) kx
  refine hb.P W me r H0 Hs1 H1 σ δ _ X _ o1 (f.stp s1) lb p (fun y dy Hs2 H2 p2 s2 o2 ry => ?_) (kx.mono s1 o1)
  have f2 := (f.stp s1).stp s2
  refine o.ok r Hs2 H2 x y dx dy _ _ o2 ((rx.ext s2.sh).pk f2 o2) (ry.pk f2 o2) p2 fun z dz Hs3 H3 p3 s3 o3 rz => ?_
  have s13 := (s1.trans o1 s2).trans o2 s3
  cases dz with
  | bl k =>
    cases rz
    refine ⟨k, rfl, ?_⟩
    cases k with
    | true =>
      refine iteT (hc.P W me r H0 Hs3 H3 σ δ _ X _ o3 (f2.stp s3) lc p3 (fun w dw Hs4 H4 p4 s4 o4 rw' => ?_) (kx.mono s13 o3))
      have f4 := (f2.stp s3).stp s4
      exact o'.ok r Hs4 H4 y w dy dw P Q o4 ((ry.ext (s3.trans o3 s4).sh).pk f4 o4) (rw'.pk f4 o4) p4 (kv.mono (s13.trans o3 s4) o4)
    | false => exact iteF (kv _ _ Hs3 H3 p3 s13 o3 (.bl _))
  | _ => exact (show False from p3).elim) (fun m => by cases m <;> rfl) rfl
theorem se_ife {c : AT} {a b : AE} (hc : SimT K c) (ha : SE K a) (hb : SE K b) : SE K (.ife c a b) := by
  refine ⟨fun W me r H0 Hs H σ δ P X Q ok f hk hu kv kx => ?_, fun m hm W me r H0 Hs H σ δ P X Q ok f hk hu km kx => ?_, fun z => nomatch z⟩
  · unfold uE at hu
    unfold hE
    obtain ⟨l0, l1⟩ := okL_app hk
    obtain ⟨la, lb⟩ := okL_app l1
    show hT K W c σ H fun k H1 => if k = true then hE K W a σ H1 Q else hE K W b σ H1 Q
    refine hc W me r H0 Hs H σ δ _ X _ ok f l0 hu (fun k Hs1 H1 p s1 o1 => ?_) kx
    cases k with
    | true => exact iteT (ha.E W me r H0 Hs1 H1 σ δ P X Q o1 (f.stp s1) la p (kv.mono s1 o1) (kx.mono s1 o1))
    | false => exact iteF (hb.E W me r H0 Hs1 H1 σ δ P X Q o1 (f.stp s1) lb p (kv.mono s1 o1) (kx.mono s1 o1))
  · unfold uE at hu
    unfold hE
    have hk : okL δ (lkT c ++ (lkM (pkOn m) a ++ lkM (pkOn m) b)) = true := hk
    obtain ⟨l0, l1⟩ := okL_app hk
    obtain ⟨la, lb⟩ := okL_app l1
    show hT K W c σ H fun k H1 => if k = true then hE K W a σ H1 Q else hE K W b σ H1 Q
    refine hc W me r H0 Hs H σ δ _ X _ ok f l0 hu (fun k Hs1 H1 p s1 o1 => ?_) kx
    cases m with
    | on => exact absurd rfl hm
    | pk =>
      cases k with
      | true =>
        refine iteT (ha.P W me r H0 Hs1 H1 σ δ P X Q o1 (f.stp s1) la p (fun v d Hs2 H2 p2 s2 o2 q => km v d Hs2 H2 p2 (s1.trans o1 s2) o2 (q.imp (fun q => q) fun ⟨j, h1, h2, h3, h4⟩ => ⟨j, h1, h2, h3, fun z => ?_⟩)) (kx.mono s1 o1))
        show (j, Lm.on) ∈ lkT c ++ (lkM .on a ++ lkM .on b)
        exact List.mem_append_right _ (List.mem_append_left _ (h4 rfl))
      | false =>
        refine iteF (hb.P W me r H0 Hs1 H1 σ δ P X Q o1 (f.stp s1) lb p (fun v d Hs2 H2 p2 s2 o2 q => km v d Hs2 H2 p2 (s1.trans o1 s2) o2 (q.imp (fun q => q) fun ⟨j, h1, h2, h3, h4⟩ => ⟨j, h1, h2, h3, fun z => ?_⟩)) (kx.mono s1 o1))
        show (j, Lm.on) ∈ lkT c ++ (lkM .on a ++ lkM .on b)
        exact List.mem_append_right _ (List.mem_append_right _ (h4 rfl))
    | wk =>
      have kv : Kv r Hs H P Q := fun v d Hs' H' p s o q => km v d Hs' H' p s o (.inl q)
      cases k with
      | true => exact iteT (ha.E W me r H0 Hs1 H1 σ δ P X Q o1 (f.stp s1) la p (kv.mono s1 o1) (kx.mono s1 o1))
      | false => exact iteF (hb.E W me r H0 Hs1 H1 σ δ P X Q o1 (f.stp s1) lb p (kv.mono s1 o1) (kx.mono s1 o1))
    | fr =>
      have kv : Kv r Hs H P Q := fun v d Hs' H' p s o q => km v d Hs' H' p s o (.inl q)
      cases k with
      | true => exact iteT (ha.E W me r H0 Hs1 H1 σ δ P X Q o1 (f.stp s1) la p (kv.mono s1 o1) (kx.mono s1 o1))
      | false => exact iteF (hb.E W me r H0 Hs1 H1 σ δ P X Q o1 (f.stp s1) lb p (kv.mono s1 o1) (kx.mono s1 o1))

/-! ### displays -/
theorem se_tup {es : AA} (h : SA K es) : SE K (.tup es) := .of (fun W me r H0 Hs H σ δ P X Q ok f hk hu kv kx => by
  unfold uE at hu
  unfold hE
  refine tup_i (h.A false W me r H0 Hs H σ δ _ X _ ok f hk hu (fun vs ds Hs1 H1 p s1 o1 rv => ?_) kx)
  have rv : Rps r Hs1 vs ds := rv
  refine ⟨by rw [rv.len]; exact p.1, fun q hq => ?_⟩
  have s2 : Stp r Hs1 H1 (upd Hs1 q (.tup vs)) (upd H1 q (.tup vs)) := .new hq (o1.nn hq)
  exact kv _ _ _ _ p.2 (s1.trans o1 s2) (o1.new hq) (.tup upd_same p.1 (rv.ext s2.sh))) (fun m => by cases m <;> rfl) rfl
theorem se_lst {es : AA} (h : SA K es) : SE K (.lst es) := .new (fun W me r H0 Hs H σ δ P X Q ok f hk hu kv kx => by
  unfold uE at hu
  unfold hE
  refine lst_i (h.A false W me r H0 Hs H σ δ _ X _ ok f hk hu (fun vs ds Hs1 H1 p s1 o1 rv => ?_) kx)
  have rv : Rps r Hs1 vs ds := rv
  refine ⟨by rw [rv.len]; exact p.1, fun q hq => ?_⟩
  exact (kv.mono s1 o1) q _ Hs1 _ p.2 (.own hq) (o1.own (o1.nn hq) (o1.ner' hq)) (o1.ner' hq) hq (o1.nn hq) ⟨vs, upd_same, p.1, rv⟩) (fun m => by cases m <;> rfl)
theorem se_dnew : SE K .dnew := .new (fun W me r H0 Hs H σ δ P X Q ok f hk hu kv kx => by
  unfold uE at hu
  unfold hE
  intro q hq
  exact kv q _ Hs _ hu (.own hq) (ok.own (ok.nn hq) (ok.ner' hq)) (ok.ner' hq) hq (ok.nn hq) ⟨[], upd_same, Nat.zero_le _, rfl, .nil⟩) (fun m => by cases m <;> rfl)
theorem any_keys {kvs : List (Key × V)} {es : List (Key × D)} (h : kvs.map (·.1) = es.map (·.1)) (k : Key) : (kvs.any fun kv => decide (kv.1 = k)) = es.any fun kv => decide (kv.1 = k) := by
  have e1 : (kvs.any fun kv => decide (kv.1 = k)) = (kvs.map (·.1)).any fun x => decide (x = k) := by rw [List.any_map]; rfl
  have e2 : (es.any fun kv => decide (kv.1 = k)) = (es.map (·.1)).any fun x => decide (x = k) := by rw [List.any_map]; rfl
  rw [e1, e2, h]
theorem put_rep {k : Key} {v : V} {d : D} (hv : Rp r Hs v d) : ∀ {kvs : List (Key × V)} {es : List (Key × D)}, kvs.map (·.1) = es.map (·.1) → Rps r Hs (kvs.map (·.2)) (es.map (·.2)) → (putK kvs k v).map (·.1) = (putD es k d).map (·.1) ∧ Rps r Hs ((putK kvs k v).map (·.2)) ((putD es k d).map (·.2)) := by
  intro kvs es hk ht
  have go : ∀ {kvs : List (Key × V)} {es : List (Key × D)}, kvs.map (·.1) = es.map (·.1) → Rps r Hs (kvs.map (·.2)) (es.map (·.2)) →
      (kvs.map (fun kv => if kv.1 = k then (kv.1, v) else kv)).map (·.1) = (es.map (fun kv => if kv.1 = k then (kv.1, d) else kv)).map (·.1) ∧ Rps r Hs ((kvs.map (fun kv => if kv.1 = k then (kv.1, v) else kv)).map (·.2)) ((es.map (fun kv => if kv.1 = k then (kv.1, d) else kv)).map (·.2)) := by
    intro kvs
    induction kvs with
    | nil =>
      intro es h1 h2
      cases es with
      | nil => exact ⟨rfl, .nil⟩
      | cons _ _ => cases h1
    | cons p ps ih =>
      intro es h1 h2
      cases es with
      | nil => cases h1
      | cons q qs =>
        rw [List.map_cons, List.map_cons] at h1 h2
        obtain ⟨e1, e2⟩ := List.cons.inj h1
        cases h2 with
        | cons r1 r2 =>
          obtain ⟨i1, i2⟩ := ih e2 r2
          simp only [List.map_cons]
          have e1 : p.1 = q.1 := e1
          by_cases hp : p.1 = k
          · have hq : q.1 = k := e1 ▸ hp
            rw [if_pos hp, if_pos hq]
            exact ⟨by rw [i1]; show p.1 :: _ = q.1 :: _; rw [e1], .cons hv i2⟩
          · have hq : ¬ q.1 = k := e1 ▸ hp
            rw [if_neg hp, if_neg hq]
            exact ⟨by rw [i1, e1], .cons r1 i2⟩
  unfold putK putD
  rw [any_keys hk k]
  split
  · exact go hk ht
  · rw [List.map_append, List.map_append, List.map_append, List.map_append, hk]
    exact ⟨rfl, ht.app (.cons hv .nil)⟩
theorem merge_rep : ∀ {more : List (Key × V)} {mor : List (Key × D)} {kvs : List (Key × V)} {es : List (Key × D)}, more.map (·.1) = mor.map (·.1) → Rps r Hs (more.map (·.2)) (mor.map (·.2)) → kvs.map (·.1) = es.map (·.1) → Rps r Hs (kvs.map (·.2)) (es.map (·.2)) → (mergeK kvs more).map (·.1) = (mergeD es mor).map (·.1) ∧ Rps r Hs ((mergeK kvs more).map (·.2)) ((mergeD es mor).map (·.2)) := by
  intro more
  induction more with
  | nil =>
    intro mor kvs es h1 h2 h3 h4
    cases mor with
    | nil => exact ⟨h3, h4⟩
    | cons _ _ => cases h1
  | cons p ps ih =>
    intro mor kvs es h1 h2 h3 h4
    cases mor with
    | nil => cases h1
    | cons q qs =>
      rw [List.map_cons, List.map_cons] at h1 h2
      obtain ⟨e1, e2⟩ := List.cons.inj h1
      cases h2 with
      | cons r1 r2 =>
        have e1 : p.1 = q.1 := e1
        obtain ⟨i1, i2⟩ := put_rep (k := p.1) r1 h3 h4
        rw [e1] at i1 i2
        have w := ih e2 r2 (kvs := putK kvs p.1 p.2) (es := putD es q.1 q.2) (by rw [e1]; exact i1) (by rw [e1]; exact i2)
        exact w
theorem putD_len (es : List (Key × D)) (k : Key) (d : D) : (putD es k d).length ≤ es.length + 1 := by
  unfold putD
  split
  · rw [List.length_map]; omega
  · rw [List.length_append]; exact Nat.le_refl _
theorem mergeD_len : ∀ (mor es : List (Key × D)), (mergeD es mor).length ≤ es.length + mor.length
  | [], es => Nat.le_refl _
  | q :: qs, es => by
    have h := mergeD_len qs (putD es q.1 q.2)
    have h2 := putD_len es q.1 q.2
    show (mergeD (putD es q.1 q.2) qs).length ≤ _
    rw [List.length_cons]
    omega
theorem se_disp {ps : AP} (h : SimR K ps) : SE K (.disp ps) := .new (fun W me r H0 Hs H σ δ P X Q ok f hk hu kv kx => by
  unfold uE at hu
  unfold hE
  intro q hq
  have hs := ok.nn hq
  have hr := ok.ner' hq
  have s0 : Stp r Hs H Hs (upd H q (.dK [])) := .own hq
  have o0 : Ok r Hs (upd H q (.dK [])) := ok.own hs hr
  refine h W me r H0 Hs (upd H q (.dK [])) σ δ _ X _ o0 (f.stp s0) hk hu (fun kvs es Hs1 H1 p s1 o1 e1 e2 => ?_) (kx.mono s0 o0)
  have hq1 : H1 q = some (.dK []) := s1.kp _ _ hr upd_same
  have hs1 : Hs1 q = none := s1.nw _ _ upd_same hs
  refine ⟨hq1, kvs, rfl, by rw [kv_len e1]; exact p.1, ?_⟩
  obtain ⟨i1, i2⟩ := merge_rep (kvs := []) (es := []) e1 e2 rfl .nil
  have hl := mergeD_len es []
  refine kv q _ Hs1 _ p.2 ⟨(s0.trans o0 s1).sh, fun b o nb e => ?_, fun b o e1 e2 => (s0.trans o0 s1).nw b o e1 e2⟩ (o1.own hs1 hr) hr hq hs1 ⟨_, upd_same, ?_, i1, i2⟩
  · rw [upd_ne (ne_of_none e hq)]
    exact (s0.trans o0 s1).kp b o nb e
  · have : (15 : Nat) ≤ sizeLine := by decide
    have h15 := p.1
    simp only [List.length_nil, Nat.zero_add] at hl
    omega) (fun m => by cases m <;> rfl)
theorem se_rev {a : AE} (ha : SE K a) : SE K (.rev a) := .new (fun W me r H0 Hs H σ δ P X Q ok f hk hu kv kx => by
  unfold uE at hu
  unfold hE
  show hE K W a σ H fun x H1 => ∃ a xs, x = .ref a ∧ SqL K H1 a xs ∧ ∀ p, H1 p = none → Q (.ref p) (upd H1 p (.lst xs.reverse))
  refine ha.P W me r H0 Hs H σ δ _ X _ ok f hk hu (fun x dx Hs1 H1 p s1 o1 rx => ?_) kx
  cases dx with
  | lst ds =>
    obtain ⟨b, xs, rfl, _, e, z, t⟩ := rx.pk (f.stp s1) o1
    refine ⟨b, xs, rfl, .inl (.inl e), fun q hq => ?_⟩
    exact (kv.mono s1 o1) q _ Hs1 _ p (.own hq) (o1.own (o1.nn hq) (o1.ner' hq)) (o1.ner' hq) hq (o1.nn hq) ⟨_, upd_same, by rw [List.length_reverse]; exact z, t.rev⟩
  | _ => exact (show False from p).elim) (fun m => by cases m <;> rfl)

theorem se_lsV {a : AE} (ha : SE K a) : SE K (.lsV a) := .new (fun W me r H0 Hs H σ δ P X Q ok f hk hu kv kx => by
  unfold uE at hu
  unfold hE
  show hE K W a σ H fun x H1 => rValsR x H1 Q
  refine ha.P W me r H0 Hs H σ δ _ X _ ok f hk hu (fun x dx Hs1 H1 p s1 o1 rx => ?_) kx
  cases dx with
  | dic es =>
    obtain ⟨b, kvs, rfl, _, e, z, h1, t⟩ := rx.pk (f.stp s1) o1
    refine ⟨b, kvs, rfl, e, fun q hq => ?_⟩
    exact (kv.mono s1 o1) q _ Hs1 _ p (.own hq) (o1.own (o1.nn hq) (o1.ner' hq)) (o1.ner' hq) hq (o1.nn hq) ⟨_, upd_same, by rw [List.length_map]; exact z, t⟩
  | _ => exact (show False from p).elim) (fun m => by cases m <;> rfl)
theorem pairs_rep {Hs' : Hp} : ∀ {ts : List Addr} {kvs : List (Key × V)} {es : List (Key × D)}, Paired (fun (t : Addr) (q : Key × V) => Hs' t = some (.tup [kV q.1, q.2])) ts kvs → kvs.map (·.1) = es.map (·.1) → Rps r Hs' (kvs.map (·.2)) (es.map (·.2)) → Rps r Hs' (ts.map V.ref) (es.map fun e => .tup [kD e.1, e.2])
  | _, _, [], .nil, _, _ => .nil
  | _, _, _ :: _, .nil, h, _ => by cases h
  | _, _, [], .cons _ _, h, _ => by cases h
  | t :: ts, q :: kvs, e :: es, .cons h1 h2, hk, ht => by
    rw [List.map_cons, List.map_cons] at hk ht
    obtain ⟨e1, e2⟩ := List.cons.inj hk
    have e1 : q.1 = e.1 := e1
    cases ht with
    | cons r1 r2 =>
      refine .cons (.tup h1 (by show 2 ≤ sizeLine; decide) (.cons ?_ (.cons r1 .nil))) (pairs_rep h2 e2 r2)
      rw [e1]
      exact rp_kD _
theorem se_lsI {a : AE} (ha : SE K a) : SE K (.lsI a) := .new (fun W me r H0 Hs H σ δ P X Q ok f hk hu kv kx => by
  unfold uE at hu
  unfold hE
  show hE K W a σ H fun x H1 => rItemsR x H1 Q
  refine ha.P W me r H0 Hs H σ δ _ X _ ok f hk hu (fun x dx Hs1 H1 p s1 o1 rx => ?_) kx
  cases dx with
  | dic es =>
    obtain ⟨b, kvs, rfl, _, e, z, h1, t⟩ := rx.pk (f.stp s1) o1
    refine ⟨b, kvs, rfl, e, fun H2 q ts k1 k2 k3 k4 k5 k6 => ?_⟩
    have ins : ∀ b, b ∈ ts → Hs1 b = none := fun b hb => o1.nn (k3 b hb)
    let Hs2 : Hp := fun b => if b ∈ ts then H2 b else Hs1 b
    have at1 : ∀ b, b ∈ ts → Hs2 b = H2 b := fun b hb => if_pos hb
    have at0 : ∀ b, b ∉ ts → Hs2 b = Hs1 b := fun b hb => if_neg hb
    have s2 : Stp r Hs1 H1 Hs2 H2 := ⟨fun b o h => by
        rw [at0 b (fun z => by rw [ins b z] at h; cases h)]
        exact h, fun b o _ h => k1 b o h, fun b o h n => by
        rw [at0 b (fun z => by rw [k3 b z] at h; cases h)]
        exact n⟩
    have o2 : Ok r Hs2 H2 := ⟨fun b o h => by
        by_cases hb : b ∈ ts
        · rw [at1 b hb] at h
          exact h
        · rw [at0 b hb] at h
          exact k1 b o (o1.sub b o h), fun c hc => by
        obtain ⟨x1, x2, x3, x4⟩ := (o1.rg c hc).2
        have hb : c ∉ ts := fun z => by rw [k3 c z] at x3; cases x3
        exact ⟨by rw [at0 c hb]; exact (o1.rg c hc).1, x1, x2, k1 _ _ x3, x4⟩⟩
    have nq : r ≠ some q := o1.ner' k2
    have hq : Hs2 q = none := by rw [at0 q k4]; exact o1.nn k2
    refine (kv.mono s1 o1) q _ Hs2 H2 p s2 o2 nq k2 hq ⟨_, k5, by rw [List.length_map]; exact z, pairs_rep ?_ h1 (t.ext s2.sh)⟩
    have mem : ∀ {ts' : List Addr} {kvs' : List (Key × V)}, Paired (fun (t : Addr) (q : Key × V) => H2 t = some (.tup [kV q.1, q.2])) ts' kvs' → (∀ t ∈ ts', t ∈ ts) → Paired (fun (t : Addr) (q : Key × V) => Hs2 t = some (.tup [kV q.1, q.2])) ts' kvs' := by
      intro ts' kvs' h
      induction h with
      | nil => intro _; exact .nil
      | cons h1 _ ih => intro hm; exact .cons (by rw [at1 _ (hm _ List.mem_cons_self)]; exact h1) (ih fun t ht => hm t (List.mem_cons_of_mem _ ht))
    exact mem k6 fun t ht => ht
  | _ => exact (show False from p).elim) (fun m => by cases m <;> rfl)

/-! ### attributes -/
theorem se_att {a : At} {e : AE} (he : SE K e) : SE K (.att a e) := .of (fun W me r H0 Hs H σ δ P X Q ok f hk hu kv kx => by
  unfold uE at hu
  unfold hE
  refine att_i (he.E W me r H0 Hs H σ δ _ X _ ok f hk hu (fun x dx Hs1 H1 p s1 o1 rx => ?_) kx)
  exact a.ok r Hs1 H1 x dx P X Q _ o1 rx p (kv.mono s1 o1) (kx.mono s1 o1)) (fun m => by cases m <;> rfl) rfl
theorem lookup_rep {g : Str} {d : D} : ∀ {fs : List (Str × V)} {gs : List (Str × D)}, fs.map (·.1) = gs.map (·.1) → Rps r Hs (fs.map (·.2)) (gs.map (·.2)) → gs.lookup g = some d → ∃ v, fs.lookup g = some v ∧ Rp r Hs v d
  | [], [], _, _, h => by cases h
  | [], _ :: _, h, _, _ => by cases h
  | _ :: _, [], h, _, _ => by cases h
  | (p1, p2) :: ps, (q1, q2) :: qs, h1, h2, h => by
    rw [List.map_cons, List.map_cons] at h1 h2
    obtain ⟨e1, e2⟩ := List.cons.inj h1
    have e1 : p1 = q1 := e1
    subst e1
    cases h2 with
    | cons r1 r2 =>
      rw [List.lookup_cons] at h ⊢
      cases hb : g == p1 with
      | true =>
        rw [hb] at h
        cases h
        exact ⟨p2, rfl, r1⟩
      | false =>
        rw [hb] at h
        exact lookup_rep e2 r2 h
theorem fld_go {f : Fl} {x : V} {dx : D} {P : D → Prop} (hx : Pk r Hs H x dx) (hu : fldU f dx P) : ∃ a C ad fs v d, x = .ref a ∧ H a = some (.ins C ad fs) ∧ fs.lookup f.f = some v ∧ Rp r Hs v d ∧ P d ∧ ∀ (Q : VK) (E : XK) (H2 : Hp), H2 a = some (.ins C ad fs) → Q v H2 → f.r x H2 Q E := by
  cases dx with
  | ins C gs =>
    obtain ⟨a, ad, fs, rfl, n, e, h1, h2⟩ := hx
    obtain ⟨hc, hu⟩ := hu
    cases el : gs.lookup f.f with
    | none => rw [el] at hu; exact hu.elim
    | some d =>
      rw [el] at hu
      obtain ⟨v, e1, e2⟩ := lookup_rep h1 h2 el
      refine ⟨a, C, ad, fs, v, d, rfl, e, e1, e2, hu, fun Q E H2 q1 q2 => f.i _ _ _ _ ?_⟩
      unfold rAttI
      exact ⟨a, C, ad, fs, v, rfl, hc.1, hc.2, q1, e1, q2⟩
  | _ => exact hu.elim
theorem se_fld {f : Fl} {e : AE} (he : SE K e) : SE K (.fld f e) := .of (fun W me r H0 Hs H σ δ P X Q ok ft hk hu kv kx => by
  unfold uE at hu
  unfold hE
  refine att_i (he.P W me r H0 Hs H σ δ _ X _ ok ft hk hu (fun x dx Hs1 H1 p s1 o1 rx => ?_) kx)
  obtain ⟨a, C, ad, fs, v, d, rfl, e, e1, e2, pd, go⟩ := fld_go (rx.pk (ft.stp s1) o1) p
  exact go _ _ H1 e (kv v d Hs1 H1 pd s1 o1 e2)) (fun m => by cases m <;> rfl) rfl

/-! ### slices -/
theorem cut_rep {xs : List V} {ds : List D} {lo hi : Option Int} (t : Rps r Hs xs ds) : Rps r Hs (cutV xs lo hi) (cutD ds lo hi) := by
  unfold cutV cutD
  rw [t.len]
  exact (t.drop _).take _
theorem cutD_len (ds : List D) (lo hi : Option Int) : (cutD ds lo hi).length ≤ ds.length := by
  unfold cutD
  rw [List.length_take, List.length_drop]
  omega
theorem se_sl {a : AE} {lo hi : AA} (ha : SE K a) (hl : SA K lo) (hh : SA K hi) : SE K (.sl a lo hi) := .of (fun W me r H0 Hs H σ δ P X Q ok f hk hu kv kx => by
  unfold uE at hu
  unfold hE
  obtain ⟨la, lb⟩ := okL_app hk
  obtain ⟨lb, lc⟩ := okL_app lb
  show hE K W a σ H fun x H1 => hO K W lo σ H1 fun l H2 => hO K W hi σ H2 fun u H3 => sliT K x l u H3 Q
  refine ha.P W me r H0 Hs H σ δ _ X _ ok f la hu (fun x dx Hs1 H1 p s1 o1 rx => ?_) kx
  refine hl.O W me r H0 Hs1 H1 σ δ _ X _ o1 (f.stp s1) lb p (fun l Hs2 H2 p2 s2 o2 => ?_) (kx.mono s1 o1)
  have s12 := s1.trans o1 s2
  refine hh.O W me r H0 Hs2 H2 σ δ _ X _ o2 (f.stp s12) lc p2 (fun u Hs3 H3 p3 s3 o3 => ?_) (kx.mono s12 o2)
  have s13 := s12.trans o2 s3
  have hx := (rx.ext (s2.trans o2 s3).sh).pk (f.stp s13) o3
  unfold sliT
  cases dx with
  | str z =>
    cases pk_str hx
    exact ⟨z, rfl, p3.1, kv _ _ Hs3 H3 p3.2 s13 o3 (.str _)⟩
  | lst ds =>
    obtain ⟨b, xs, rfl, _, e, z, t⟩ := hx
    refine .inl ⟨b, xs, rfl, .inl (.inl e), fun q hq => ?_⟩
    have s4 : Stp r Hs3 H3 (upd Hs3 q (.lst (cutV xs l u))) (upd H3 q (.lst (cutV xs l u))) := .new hq (o3.nn hq)
    exact kv _ _ _ _ p3 (s13.trans o3 s4) (o3.new hq) (.lst upd_same (Nat.le_trans (cutD_len _ _ _) z) ((cut_rep t).ext s4.sh))
  | tup ds =>
    cases (show Rp r Hs3 x (.tup ds) from hx) with
    | @tup b xs _ e z t =>
      refine .inr ⟨b, xs, rfl, .inl (.inl (o3.sub _ _ e)), by rw [t.len]; exact p3.1, fun q hq => ?_⟩
      have s4 : Stp r Hs3 H3 (upd Hs3 q (.tup (cutV xs l u))) (upd H3 q (.tup (cutV xs l u))) := .new hq (o3.nn hq)
      exact kv _ _ _ _ p3.2 (s13.trans o3 s4) (o3.new hq) (.tup upd_same (Nat.le_trans (cutD_len _ _ _) z) ((cut_rep t).ext s4.sh))
  | _ => exact (show False from p3).elim) (fun m => by cases m <;> rfl) rfl

/-! ### calls -/
theorem call_go {f : Fd} {es : AA} (h : SA K es) (W : WX) (me r : Option Addr) (H0 Hs H : Hp) (σ : St) (δ : List Sl) (P : D → Prop) (X : XD) (Q : VK) (ok : Ok r Hs H) (ft : Fit me r H0 Hs H σ δ) (hk : okL δ (lkA (match f.bor with | true => .pk | false => .on) es) = true)
    (hu : uA es δ (fun ds => f.u ds P X) X) (kr : KR f.fr r Hs H P Q) (kx : Kx r Hs H X (xw W σ)) : tCl f.sp W (hA K W es) σ H Q :=
  cl_i (h.A f.bor W me r H0 Hs H σ δ _ X _ ok ft hk hu (fun vs ds Hs1 H1 p s1 o1 rv => f.ok r Hs1 H1 vs ds P X Q _ o1 rv p (kr.mono s1 o1) (kx.mono s1 o1)) kx)
theorem Kv.kr {b : Bool} {P : D → Prop} {Q : VK} (k : Kv r Hs H P Q) : KR b r Hs H P Q := match b with
  | true => k.kf
  | false => k
theorem se_call {f : Fd} {es : AA} (h : SA K es) : SE K (.call f es) := by
  have hE : SimE K (.call f es) := fun W me r H0 Hs H σ δ P X Q ok ft hk hu kv kx => by
    unfold uE at hu
    unfold hE
    exact call_go h W me r H0 Hs H σ δ P X Q ok ft hk hu kv.kr kx
  refine ⟨hE, fun m _ => hE.simM (fun m => by cases m <;> rfl), fun z W me r H0 Hs H σ δ P X Q ok ft hk hu kf kx => ?_⟩
  have z : f.fr = true := z
  unfold uE at hu
  unfold AS.hE
  exact call_go h W me r H0 Hs H σ δ P X Q ok ft hk hu (by rw [z]; exact kf) kx
theorem findB_map {v : V} : ∀ (t : List (V × Fd)), findB v (t.map fun p => (p.1, p.2.sp)) = (findB v t).map (·.sp)
  | [] => rfl
  | (w, f) :: r => by
    show (if v = w then some f.sp else findB v (r.map fun p => (p.1, p.2.sp))) = (if v = w then some f else findB v r).map (·.sp)
    split
    · rfl
    · exact findB_map r
theorem se_callV {t : List (V × Fd)} {i : Nat} {es : AA} (h : SA K es) : SE K (.callV t i es) := .of (fun W me r H0 Hs H σ δ P X Q ok ft hk hu kv kx => by
  unfold uE at hu
  unfold hE
  cases e : (dl δ i).dat with
  | none => rw [e] at hu; exact hu.elim
  | some d =>
    rw [e] at hu
    cases d with
    | cst v =>
      have hu : (match findD t v with | some f => f.bor = false ∧ f.fr = false ∧ uA es δ (fun ds => f.u ds P X) X | none => False) := hu
      cases ef : findD t v with
      | none => rw [ef] at hu; exact hu.elim
      | some f =>
        rw [ef] at hu
        obtain ⟨hb, hf, hu⟩ := hu
        obtain ⟨w, hw⟩ := ft.val e
        cases pk_cst (ft.pk ok hw e)
        unfold tClV
        rw [hw]
        show (match findB v (t.map fun p => (p.1, p.2.sp)) with | some sp => _ | none => False)
        rw [findB_map, show findB v t = some f from ef]
        exact call_go h W me r H0 Hs H σ δ P X Q ok ft (by rw [hb]; exact hk) hu kv.kr kx
    | _ => exact (show False from hu).elim) (fun m => by cases m <;> rfl) rfl
theorem mts_mem {W : WX} {to : TE} {t : TA} {q : Rc × Sp} {Q : VK} : ∀ {l : List (Rc × Sp)}, q ∈ l → tMt q W to t σ H Q → mtsE W to t l σ H Q
  | [x], hq, h => by
    cases List.mem_singleton.mp hq
    exact h
  | x :: y :: l, hq, h => by
    rcases List.mem_cons.mp hq with rfl | hq
    · exact .inl h
    · exact .inr (mts_mem hq h)
theorem meth_go {q : Md} {o : AE} {es : AA} (ho : SE K o) (h : SA K es) (W : WX) (me r : Option Addr) (H0 Hs H : Hp) (σ : St) (δ : List Sl) (P : D → Prop) (X : XD) (Q : VK) (ok : Ok r Hs H) (ft : Fit me r H0 Hs H σ δ) (hk : okL δ (lkM (match q.bo with | true => .pk | false => .on) o) = true) (hk2 : okL δ (lkA .on es) = true)
    (hu : uE o δ (fun d => q.sel d = true ∧ uA es δ (fun ds => q.u (d :: ds) P X) X) X) (kr : KR q.fr r Hs H P Q) (kx : Kx r Hs H X (xw W σ)) : tMt (mq q) W (hE K W o) (hA K W es) σ H Q := by
  show hE K W o σ H fun x H1 => q.rc x H1 ∧ hA K W es σ H1 fun vs H2 => q.sp (x :: vs) H2 Q fun c d H' => W c d σ H'
  cases hb : q.bo with
  | true =>
    rw [hb] at hk
    refine ho.P W me r H0 Hs H σ δ _ X _ ok ft hk hu (fun x dx Hs1 H1 p s1 o1 rx => ?_) kx
    refine ⟨q.rok r Hs1 H1 x dx o1 (rx.pk (ft.stp s1) o1) p.1, ?_⟩
    refine h.A false W me r H0 Hs1 H1 σ δ _ X _ o1 (ft.stp s1) hk2 p.2 (fun vs ds Hs2 H2 p2 s2 o2 rv => ?_) (kx.mono s1 o1)
    refine q.ok r Hs2 H2 x vs dx ds P X Q _ o2 ?_ p.1 rv p2 (kr.mono (s1.trans o1 s2) o2) (kx.mono (s1.trans o1 s2) o2)
    rw [hb]
    exact (rx.ext s2.sh).pk ((ft.stp s1).stp s2) o2
  | false =>
    rw [hb] at hk
    refine ho.E W me r H0 Hs H σ δ _ X _ ok ft hk hu (fun x dx Hs1 H1 p s1 o1 rx => ?_) kx
    refine ⟨q.rok r Hs1 H1 x dx o1 (rx.pk o1) p.1, ?_⟩
    refine h.A false W me r H0 Hs1 H1 σ δ _ X _ o1 (ft.stp s1) hk2 p.2 (fun vs ds Hs2 H2 p2 s2 o2 rv => ?_) (kx.mono s1 o1)
    refine q.ok r Hs2 H2 x vs dx ds P X Q _ o2 ?_ p.1 rv p2 (kr.mono (s1.trans o1 s2) o2) (kx.mono (s1.trans o1 s2) o2)
    rw [hb]
    exact rx.ext s2.sh
theorem se_meth {m : Md} {ms : List Md} {o : AE} {es : AA} (ho : SE K o) (h : SA K es) : SE K (.meth m ms o es) := by
  have lko : ∀ {δ : List Sl} {q : Md}, q ∈ m :: ms → okL δ (lkM (match m.bo && ms.all (·.bo) with | true => .pk | false => .on) o) = true → okL δ (lkM (match q.bo with | true => .pk | false => .on) o) = true := by
    intro δ q hq hk
    cases hb : q.bo with
    | true => exact okL_pk o hk
    | false =>
      have e : (m.bo && ms.all (·.bo)) = false := by
        cases hz : (m.bo && ms.all (·.bo)) with
        | false => rfl
        | true =>
          obtain ⟨z1, z2⟩ := b2 hz
          rcases List.mem_cons.mp hq with rfl | hq
          · rw [hb] at z1; cases z1
          · have := List.all_eq_true.mp z2 q hq
            rw [hb] at this
            cases this
      rw [e] at hk
      exact hk
  have hE : SimE K (.meth m ms o es) := fun W me r H0 Hs H σ δ P X Q ok ft hk hu kv kx => by
    unfold uE at hu
    unfold hE
    obtain ⟨hk1, hk2⟩ := okL_app hk
    obtain ⟨q, hq, hu⟩ := hu
    exact mts_mem (q := mq q) (List.mem_map_of_mem (f := mq) hq) (meth_go ho h W me r H0 Hs H σ δ P X Q ok ft (lko hq hk1) hk2 hu kv.kr kx)
  refine ⟨hE, fun m _ => hE.simM (fun m => by cases m <;> rfl), fun z W me r H0 Hs H σ δ P X Q ok ft hk hu kf kx => ?_⟩
  obtain ⟨z1, z2⟩ := b2 (show (m.fr && ms.all (·.fr)) = true from z)
  unfold uE at hu
  unfold AS.hE
  obtain ⟨hk1, hk2⟩ := okL_app hk
  obtain ⟨q, hq, hu⟩ := hu
  have hf : q.fr = true := by
    rcases List.mem_cons.mp hq with rfl | hq
    · exact z1
    · exact List.all_eq_true.mp z2 q hq
  exact mts_mem (q := mq q) (List.mem_map_of_mem (f := mq) hq) (meth_go ho h W me r H0 Hs H σ δ P X Q ok ft (lko hq hk1) hk2 hu (by rw [hf]; exact kf) kx)

/-! ### keywords -/
theorem callK_go {f : FdK} {es ks : AA} (h : SA K es) (h' : SA K ks) (W : WX) (me r : Option Addr) (H0 Hs H : Hp) (σ : St) (δ : List Sl) (P : D → Prop) (X : XD) (Q : VK) (ok : Ok r Hs H) (ft : Fit me r H0 Hs H σ δ) (hk : okL δ (lkA .on es ++ lkA .on ks) = true) (hu : uA es δ (fun ds => uA ks δ (fun zs => f.u ds zs P X) X) X) (kr : KR f.fr r Hs H P Q) (kx : Kx r Hs H X (xw W σ)) : tClK f.sp W (hA K W es) (hA K W ks) σ H Q := by
  obtain ⟨l1, l2⟩ := okL_app hk
  refine h.A false W me r H0 Hs H σ δ _ X _ ok ft l1 hu (fun vs ds Hs1 H1 p s1 o1 ar => ?_) kx
  refine h'.A false W me r H0 Hs1 H1 σ δ _ X _ o1 (ft.stp s1) l2 p (fun zs es Hs2 H2 p2 s2 o2 ar2 => ?_) (kx.mono s1 o1)
  exact f.ok r Hs2 H2 vs zs ds es P X Q _ o2 (Rps.ext s2.sh ar) ar2 p2 (kr.mono (s1.trans o1 s2) o2) (kx.mono (s1.trans o1 s2) o2)
theorem se_callK {f : FdK} {es ks : AA} (h : SA K es) (h' : SA K ks) : SE K (.callK f es ks) := by
  have hE : SimE K (.callK f es ks) := fun W me r H0 Hs H σ δ P X Q ok ft hk hu kv kx => by
    unfold uE at hu
    unfold hE
    exact callK_go h h' W me r H0 Hs H σ δ P X Q ok ft hk hu kv.kr kx
  refine ⟨hE, fun m _ => hE.simM (fun m => by cases m <;> rfl), fun z W me r H0 Hs H σ δ P X Q ok ft hk hu kf kx => ?_⟩
  have z : f.fr = true := z
  unfold uE at hu
  unfold AS.hE
  exact callK_go h h' W me r H0 Hs H σ δ P X Q ok ft hk hu (by rw [z]; exact kf) kx
theorem methK_go {m : MdK} {o : AE} {es ks : AA} (ho : SE K o) (h : SA K es) (h' : SA K ks) (W : WX) (me r : Option Addr) (H0 Hs H : Hp) (σ : St) (δ : List Sl) (P : D → Prop) (X : XD) (Q : VK) (ok : Ok r Hs H) (ft : Fit me r H0 Hs H σ δ) (hk : okL δ (lkM .on o ++ (lkA .on es ++ lkA .on ks)) = true)
    (hu : uE o δ (fun d => m.sel d = true ∧ uA es δ (fun ds => uA ks δ (fun zs => m.u (d :: ds) zs P X) X) X) X) (kr : KR m.fr r Hs H P Q) (kx : Kx r Hs H X (xw W σ)) : tMtK (m.rc, m.sp) W (hE K W o) (hA K W es) (hA K W ks) σ H Q := by
  obtain ⟨l0, l1⟩ := okL_app hk
  obtain ⟨l1, l2⟩ := okL_app l1
  refine ho.E W me r H0 Hs H σ δ _ X _ ok ft l0 hu (fun v d Hs0 H0' p0 s0 o0 rv => ?_) kx
  refine ⟨m.rok r Hs0 H0' v d o0 rv p0.1, ?_⟩
  refine h.A false W me r H0 Hs0 H0' σ δ _ X _ o0 (ft.stp s0) l1 p0.2 (fun vs ds Hs1 H1 p s1 o1 ar => ?_) (kx.mono s0 o0)
  have t1 := s0.trans o0 s1
  refine h'.A false W me r H0 Hs1 H1 σ δ _ X _ o1 (ft.stp t1) l2 p (fun zs es Hs2 H2 p2 s2 o2 ar2 => ?_) (kx.mono t1 o1)
  exact m.ok r Hs2 H2 v vs zs d ds es P X Q _ o2 ((rv.ext s1.sh).ext s2.sh) p0.1 (Rps.ext s2.sh ar) ar2 p2 (kr.mono (t1.trans o1 s2) o2) (kx.mono (t1.trans o1 s2) o2)
theorem se_methK {m : MdK} {o : AE} {es ks : AA} (ho : SE K o) (h : SA K es) (h' : SA K ks) : SE K (.methK m o es ks) := by
  have hE : SimE K (.methK m o es ks) := fun W me r H0 Hs H σ δ P X Q ok ft hk hu kv kx => by
    unfold uE at hu
    unfold hE
    exact methK_go ho h h' W me r H0 Hs H σ δ P X Q ok ft hk hu kv.kr kx
  refine ⟨hE, fun m _ => hE.simM (fun m => by cases m <;> rfl), fun z W me r H0 Hs H σ δ P X Q ok ft hk hu kf kx => ?_⟩
  have z : m.fr = true := z
  unfold uE at hu
  unfold AS.hE
  exact methK_go ho h h' W me r H0 Hs H σ δ P X Q ok ft hk hu (by rw [z]; exact kf) kx

/-! ### f-strings -/
theorem se_fmt {e : AE} (he : SE K e) : SE K (.fmt e) := .of (fun W me r H0 Hs H σ δ P X Q ok f hk hu kv kx => by
  unfold uE at hu
  unfold hE
  show hE K W e σ H fun x H1 => (∃ y : Str, x = .str y ∧ y.length ≤ sizeLine ∧ Q (.str y) H1) ∨ ∃ i : Int, x = .int i ∧ i.natAbs.log2 < 1920 ∧ Q (.str (toString i)) H1
  refine he.P W me r H0 Hs H σ δ _ X _ ok f hk hu (fun x dx Hs1 H1 p s1 o1 rx => ?_) kx
  have hx := rx.pk (f.stp s1) o1
  cases dx with
  | str y =>
    cases pk_str hx
    by_cases hz : y.length ≤ sizeLine
    · simp only [fmtD, if_pos hz] at p
      exact .inl ⟨y, rfl, hz, kv _ _ Hs1 H1 p s1 o1 (.str _)⟩
    · simp only [fmtD, if_neg hz] at p
  | int i =>
    cases pk_int hx
    by_cases hz : i.natAbs.log2 < 1920
    · simp only [fmtD, if_pos hz] at p
      exact .inr ⟨i, rfl, hz, kv _ _ Hs1 H1 p s1 o1 (.str _)⟩
    · simp only [fmtD, if_neg hz] at p
  | _ => exact (show False from p).elim) (fun m => by cases m <;> rfl) rfl
theorem se_fmr {e : AE} (he : SE K e) : SE K (.fmr e) := .of (fun W me r H0 Hs H σ δ P X Q ok f hk hu kv kx => by
  unfold uE at hu
  unfold hE
  show hE K W e σ H fun x H1 => (∃ y : Str, x = .str y ∧ (reprText y).length ≤ sizeLine ∧ Q (.str (reprText y)) H1) ∨ ∃ i : Int, x = .int i ∧ i.natAbs.log2 < 1920 ∧ Q (.str (toString i)) H1
  refine he.P W me r H0 Hs H σ δ _ X _ ok f hk hu (fun x dx Hs1 H1 p s1 o1 rx => ?_) kx
  have hx := rx.pk (f.stp s1) o1
  cases dx with
  | str y =>
    cases pk_str hx
    by_cases hz : (reprText y).length ≤ sizeLine
    · simp only [fmrD, if_pos hz] at p
      exact .inl ⟨y, rfl, hz, kv _ _ Hs1 H1 p s1 o1 (.str _)⟩
    · simp only [fmrD, if_neg hz] at p
  | int i =>
    cases pk_int hx
    by_cases hz : i.natAbs.log2 < 1920
    · simp only [fmrD, if_pos hz] at p
      exact .inr ⟨i, rfl, hz, kv _ _ Hs1 H1 p s1 o1 (.str _)⟩
    · simp only [fmrD, if_neg hz] at p
  | _ => exact (show False from p).elim) (fun m => by cases m <;> rfl) rfl
theorem se_js {es : AA} (h : SA K es) : SE K (.js es) := .of (fun W me r H0 Hs H σ δ P X Q ok f hk hu kv kx => by
  unfold uE at hu
  unfold hE
  exact h.J W me r H0 Hs H σ δ _ _ X _ ok f hk hu (fun y Hs1 H1 p s1 o1 => kv _ _ Hs1 H1 p s1 o1 (.str _)) kx) (fun m => by cases m <;> rfl) rfl

/-! ### argument lists -/
theorem sa_nil : SA K .nil := ⟨fun b W me r H0 Hs H σ δ P X Q ok f hk hu k kx => by
    unfold uA at hu
    unfold hA
    exact nil_i (k [] [] Hs H hu .refl ok (by cases b <;> exact .nil)),
  fun W me r H0 Hs H σ δ acc P X Q ok f hk hu k kx => by
    unfold uJ at hu
    unfold hL
    exact k acc Hs H hu .refl ok,
  fun W me r H0 Hs H σ δ P X Q ok f hk hu k kx => by
    unfold uO at hu
    unfold hO
    exact k none Hs H hu .refl ok⟩
theorem sa_cons {e : AE} {es : AA} (he : SE K e) (h : SA K es) : SA K (.cons e es) := ⟨fun b W me r H0 Hs H σ δ P X Q ok f hk hu k kx => by
    unfold uA at hu
    unfold hA
    unfold lkA at hk
    obtain ⟨la, lb⟩ := okL_app hk
    cases b with
    | true =>
      refine cons_i (he.P W me r H0 Hs H σ δ _ X _ ok f la hu (fun x dx Hs1 H1 p s1 o1 rx => ?_) kx)
      refine h.A true W me r H0 Hs1 H1 σ δ _ X _ o1 (f.stp s1) lb p (fun vs ds Hs2 H2 p2 s2 o2 rv => ?_) (kx.mono s1 o1)
      exact k _ _ Hs2 H2 p2 (s1.trans o1 s2) o2 (.cons ((rx.ext s2.sh).pk ((f.stp s1).stp s2) o2) rv)
    | false =>
      refine cons_i (he.E W me r H0 Hs H σ δ _ X _ ok f la hu (fun x dx Hs1 H1 p s1 o1 rx => ?_) kx)
      refine h.A false W me r H0 Hs1 H1 σ δ _ X _ o1 (f.stp s1) lb p (fun vs ds Hs2 H2 p2 s2 o2 rv => ?_) (kx.mono s1 o1)
      exact k _ _ Hs2 H2 p2 (s1.trans o1 s2) o2 (.cons (rx.ext s2.sh) rv),
  fun W me r H0 Hs H σ δ acc P X Q ok f hk hu k kx => by
    unfold uJ at hu
    unfold hL
    unfold lkA at hk
    obtain ⟨la, lb⟩ := okL_app hk
    show hE K W e σ H fun x H1 => ∃ y : Str, x = .str y ∧ (acc ++ y).length ≤ sizeLine ∧ tJs (hL K W es) (acc ++ y) σ H1 Q
    refine he.E W me r H0 Hs H σ δ _ X _ ok f la hu (fun x dx Hs1 H1 p s1 o1 rx => ?_) kx
    cases dx with
    | str y =>
      cases rx
      exact ⟨y, rfl, p.1, h.J W me r H0 Hs1 H1 σ δ _ P X Q o1 (f.stp s1) lb p.2 (fun z Hs2 H2 p2 s2 o2 => k z Hs2 H2 p2 (s1.trans o1 s2) o2) (kx.mono s1 o1)⟩
    | _ => exact (show False from p).elim,
  fun W me r H0 Hs H σ δ P X Q ok f hk hu k kx => by
    unfold uO at hu
    unfold hO
    unfold lkA at hk
    obtain ⟨la, lb⟩ := okL_app hk
    show hE K W e σ H fun x H1 => ∃ i, x = .int i ∧ Q (some i) H1
    refine he.E W me r H0 Hs H σ δ _ X _ ok f la hu (fun x dx Hs1 H1 p s1 o1 rx => ?_) kx
    cases dx with
    | int i =>
      cases rx
      exact ⟨i, rfl, k _ Hs1 H1 p s1 o1⟩
    | _ => exact (show False from p).elim⟩
theorem key_kV {d : D} {k : Key} {v : V} (h : Rp r Hs v d) (e : keyD d = some k) : v = kV k := by
  cases d with
  | int i => cases h; cases e; rfl
  | str x => cases h; cases e; rfl
  | _ => cases e
theorem sr_nil : SimR K .nil := fun W me r H0 Hs H σ δ P X Q ok f hk hu k kx => by
  unfold uP at hu
  unfold hP
  exact k [] [] Hs H hu .refl ok rfl .nil
theorem sr_cons {k e : AE} {ps : AP} (hk' : SE K k) (he : SE K e) (h : SimR K ps) : SimR K (.cons k e ps) := fun W me r H0 Hs H σ δ P X Q ok f hk hu kk kx => by
  unfold uP at hu
  unfold hP
  unfold lkR at hk
  obtain ⟨la, lb⟩ := okL_app hk
  obtain ⟨lb, lc⟩ := okL_app lb
  show hE K W k σ H fun x H1 => hE K W e σ H1 fun y H2 => tPairs (hP K W ps) σ H2 fun pr H3 => Q ((x, y) :: pr) H3
  refine hk'.E W me r H0 Hs H σ δ _ X _ ok f la hu (fun x dx Hs1 H1 p s1 o1 rx => ?_) kx
  refine he.E W me r H0 Hs1 H1 σ δ _ X _ o1 (f.stp s1) lb p (fun y dy Hs2 H2 p2 s2 o2 ry => ?_) (kx.mono s1 o1)
  have s12 := s1.trans o1 s2
  refine h W me r H0 Hs2 H2 σ δ _ X _ o2 (f.stp s12) lc p2 (fun kvs es Hs3 H3 p3 s3 o3 e1 e2 => ?_) (kx.mono s12 o2)
  cases ek : keyD dx with
  | none => rw [ek] at p3; exact p3.elim
  | some kk' =>
    rw [ek] at p3
    have := kk ((kk', y) :: kvs) ((kk', dy) :: es) Hs3 H3 p3 (s12.trans o2 s3) o3 (by rw [List.map_cons, List.map_cons, e1]) (.cons (ry.ext s3.sh) e2)
    cases key_kV rx ek
    exact this

/-! ### tests -/
theorem st_yes : SimT K .yes := fun W me r H0 Hs H σ δ P X Q ok f hk hu k kx => by
  unfold uT at hu
  unfold hT
  exact k true Hs H hu .refl ok
theorem st_nt {t : AT} (h : SimT K t) : SimT K (.nt t) := fun W me r H0 Hs H σ δ P X Q ok f hk hu k kx => by
  unfold uT at hu
  unfold hT
  exact not_i (h W me r H0 Hs H σ δ _ X _ ok f hk hu (fun b Hs1 H1 p s1 o1 => k _ Hs1 H1 p s1 o1) kx)
theorem st_an {t u : AT} (h : SimT K t) (h' : SimT K u) : SimT K (.an t u) := fun W me r H0 Hs H σ δ P X Q ok f hk hu k kx => by
  unfold uT at hu
  unfold hT
  obtain ⟨la, lb⟩ := okL_app hk
  refine and_i (h W me r H0 Hs H σ δ _ X _ ok f la hu (fun b Hs1 H1 p s1 o1 => ?_) kx)
  cases b with
  | true => exact iteT (h' W me r H0 Hs1 H1 σ δ P X Q o1 (f.stp s1) lb p (fun c Hs2 H2 p2 s2 o2 => k c Hs2 H2 p2 (s1.trans o1 s2) o2) (kx.mono s1 o1))
  | false => exact iteF (k _ Hs1 H1 p s1 o1)
theorem st_or {t u : AT} (h : SimT K t) (h' : SimT K u) : SimT K (.orT t u) := fun W me r H0 Hs H σ δ P X Q ok f hk hu k kx => by
  unfold uT at hu
  unfold hT
  obtain ⟨la, lb⟩ := okL_app hk
  refine or_i (h W me r H0 Hs H σ δ _ X _ ok f la hu (fun b Hs1 H1 p s1 o1 => ?_) kx)
  cases b with
  | true => exact iteT (k _ Hs1 H1 p s1 o1)
  | false => exact iteF (h' W me r H0 Hs1 H1 σ δ P X Q o1 (f.stp s1) lb p (fun c Hs2 H2 p2 s2 o2 => k c Hs2 H2 p2 (s1.trans o1 s2) o2) (kx.mono s1 o1))
theorem st_ife {c t u : AT} (h0 : SimT K c) (h : SimT K t) (h' : SimT K u) : SimT K (.ife c t u) := fun W me r H0 Hs H σ δ P X Q ok f hk hu k kx => by
  unfold uT at hu
  unfold hT
  obtain ⟨la, lb⟩ := okL_app hk
  obtain ⟨lb, lc⟩ := okL_app lb
  show hT K W c σ H fun k H1 => if k = true then hT K W t σ H1 Q else hT K W u σ H1 Q
  refine h0 W me r H0 Hs H σ δ _ X _ ok f la hu (fun b Hs1 H1 p s1 o1 => ?_) kx
  cases b with
  | true => exact iteT (h W me r H0 Hs1 H1 σ δ P X Q o1 (f.stp s1) lb p (fun c Hs2 H2 p2 s2 o2 => k c Hs2 H2 p2 (s1.trans o1 s2) o2) (kx.mono s1 o1))
  | false => exact iteF (h' W me r H0 Hs1 H1 σ δ P X Q o1 (f.stp s1) lc p (fun c Hs2 H2 p2 s2 o2 => k c Hs2 H2 p2 (s1.trans o1 s2) o2) (kx.mono s1 o1))
theorem st_ts {e : AE} (h : SE K e) : SimT K (.ts e) := fun W me r H0 Hs H σ δ P X Q ok f hk hu k kx => by
  unfold uT at hu
  unfold hT
  refine test_i (h.E W me r H0 Hs H σ δ _ X _ ok f hk hu (fun x dx Hs1 H1 p s1 o1 rx => ?_) kx)
  cases dx with
  | bl b =>
    cases rx
    exact ⟨b, rfl, k b Hs1 H1 p s1 o1⟩
  | _ => exact (show False from p).elim
theorem st_tsX {o : Op} {ox : OpE} {a b : AE} (ha : SE K a) (hb : SE K b) : SimT K (.tsX o ox a b) := fun W me r H0 Hs H σ δ P X Q ok f hk hu k kx => by
  unfold uT at hu
  unfold hT
  have kv : Kv r Hs H (fun d => match d with | .bl b => P b | _ => False) (fun x H' => ∃ k, x = .bl k ∧ Q k H') := fun v d Hs1 H1 p s1 o1 rx => by
    cases d with
    | bl b =>
      cases rx
      exact ⟨b, rfl, k b Hs1 H1 p s1 o1⟩
    | _ => exact (show False from p).elim
  exact test_i (opX_r ha hb W me r H0 Hs H σ δ _ X _ ok f hk hu kv kx)
theorem st_tr {e : AE} (h : SE K e) : SimT K (.tr e) := fun W me r H0 Hs H σ δ P X Q ok f hk hu k kx => by
  unfold uT at hu
  unfold hT
  refine tru_i (h.P W me r H0 Hs H σ δ _ X _ ok f hk hu (fun x dx Hs1 H1 p s1 o1 rx => ?_) kx)
  cases e : truD dx with
  | none => rw [e] at p; exact p.elim
  | some b =>
    rw [e] at p
    exact tru_pk o1 (rx.pk (f.stp s1) o1) e (k b Hs1 H1 p s1 o1)
end
end AS

set_option Elab.async false
set_option linter.all false
set_option maxRecDepth 100000
set_option maxHeartbeats 4000000
/-! P5: what is walked, comprehensions; all expressions. -/
namespace AS
open PySem PySem.Spec PyProof.Rows L2
section
variable {K : PySem.W.Frag} {me r : Option Addr} {H0 Hs H Hs' H' : Hp} {σ : St} {δ : List Sl}
/-! ### paths -/
theorem path_run {a : AE} {P : D → Prop} {X : XD} (hp : isPath a = true) (ok : Ok r Hs H) (f : Fit me r H0 Hs H σ δ) (hu : uE a δ P X) :
    ∃ v d, pathA a σ H = some v ∧ P d ∧ (Rp r Hs v d ∨ ∃ j, a = .nm j ∧ sl σ j = some v ∧ (dl δ j).dat = some d) ∧ ∀ (H2 : Hp), (∀ b C ad fs, H b = some (.ins C ad fs) → H2 b = some (.ins C ad fs)) → pathA a σ H2 = some v ∧ ∀ (W : WX) (Q : VK), Q v H2 → hE K W a σ H2 Q := by
  have nmc : ∀ {i : Nat} {P : D → Prop}, uE (.nm i) δ P X → ∃ v d, sl σ i = some v ∧ P d ∧ (dl δ i).dat = some d := by
    intro i P hu
    unfold uE at hu
    cases e : (dl δ i).dat with
    | none => rw [e] at hu; exact hu.elim
    | some d =>
      rw [e] at hu
      obtain ⟨v, hv⟩ := f.val e
      exact ⟨v, d, hv, hu, rfl⟩
  cases a with
  | nm i =>
    obtain ⟨v, d, h1, h2, h3⟩ := nmc hu
    refine ⟨v, d, h1, h2, .inr ⟨i, rfl, h1, h3⟩, fun H2 _ => ⟨h1, fun W Q q => ?_⟩⟩
    unfold hE
    exact nm_i h1 q
  | fld g e =>
    cases e with
    | nm i =>
      have hu : uE (.nm i) δ (fun d => fldU g d P) X := by unfold uE at hu; exact hu
      obtain ⟨v, d, h1, h2, h3⟩ := nmc hu
      obtain ⟨b, C, ad, fs, w, dw, rfl, e1, e2, e3, e4, go⟩ := fld_go (f.pk ok h1 h3) h2
      refine ⟨w, dw, ?_, e4, .inl e3, fun H2 h => ⟨?_, fun W Q q => ?_⟩⟩
      · unfold pathA; simp only [h1, e1]; exact e2
      · unfold pathA; simp only [h1, h _ _ _ _ e1]; exact e2
      · unfold hE
        refine att_i ?_
        unfold hE
        exact nm_i h1 (go _ _ H2 (h _ _ _ _ e1) q)
    | _ => cases hp
  | _ => cases hp
/-- the dict of a path: where it stands -/
theorem path_dic {a : AE} {m : Lm} {v : V} {es : List (Key × D)} (hm : m = .wk ∨ m = .fr) (f : Fit me r H0 Hs H σ δ) (ok : Ok r Hs H) (hk : okL δ (lkM m a) = true) (h : Rp r Hs v (.dic es) ∨ ∃ j, a = .nm j ∧ sl σ j = some v ∧ (dl δ j).dat = some (.dic es)) :
    ∃ d kvs, v = .ref d ∧ r ≠ some d ∧ Rd H d (.dK kvs) ∧ (Rd Hs d (.dK kvs) ∨ Rd H0 d (.dK kvs)) ∧ es.length ≤ sizeLine ∧ kvs.map (·.1) = es.map (·.1) ∧ Rps r Hs (kvs.map (·.2)) (es.map (·.2)) := by
  have sh : Rp r Hs v (.dic es) → ∃ d kvs, v = .ref d ∧ r ≠ some d ∧ Rd H d (.dK kvs) ∧ (Rd Hs d (.dK kvs) ∨ Rd H0 d (.dK kvs)) ∧ es.length ≤ sizeLine ∧ kvs.map (·.1) = es.map (·.1) ∧ Rps r Hs (kvs.map (·.2)) (es.map (·.2)) := fun h => by
    cases h with
    | dic e z q t => exact ⟨_, _, rfl, rd_ner ok e, ok.sub.rd e, .inl e, z, q, t⟩
  rcases h with h | ⟨j, rfl, h1, h2⟩
  · exact sh h
  · have w := f.at_ j
    have hok : okM m (dl δ j) = true := by rcases hm with rfl | rfl <;> exact okL_one hk
    cases e : dl δ j with
    | un => rw [e] at h2; cases h2
    | ow d' =>
      rw [e] at h2 hok
      cases h2
      rcases hm with rfl | rfl <;> cases hok
    | pn d' =>
      rw [e] at h2 hok
      rcases hm with rfl | rfl <;> cases hok
    | sh d' =>
      rw [e] at w h2
      cases h2
      obtain ⟨u, e1, w⟩ := w
      rw [h1] at e1
      cases e1
      exact sh w
    | bw d' =>
      rw [e] at w h2
      cases h2
      obtain ⟨u, e1, w⟩ := w
      rw [h1] at e1
      cases e1
      rcases w with ⟨d, kvs, rfl, n, q1, z, q2, q3⟩ | w
      · exact ⟨d, kvs, rfl, n, q1.imp (f.bs _ _ n) fun ⟨o, e⟩ => ⟨o, f.bs _ _ n e⟩, .inr q1, z, q2, q3⟩
      · exact sh w
theorem dict_stay {m : Lm} {d : Addr} {o : Obj} {kvs : List (Key × V)} {R : Hp → Hp → Prop} (f : Fit me r H0 Hs H σ δ) (ok : Ok r Hs H) (n : r ≠ some d) (e : H d = some (.frz o (.dK kvs))) (w : Rd Hs d (.dK kvs) ∨ Rd H0 d (.dK kvs)) (c : RchOk m r H0 Hs H R) (q : R Hs' H') (k' : Ok r Hs' H') : H' d = some (.frz o (.dK kvs)) := by
  rcases w with w | w
  · rcases w with w | ⟨o', w⟩
    · rw [ok.sub _ _ w] at e; cases e
    · have := ok.sub _ _ w
      rw [this] at e
      cases e
      exact k'.sub _ _ (c.ext _ _ q _ _ w)
  · rcases w with w | ⟨o', w⟩
    · rw [f.bs _ _ n w] at e; cases e
    · have := f.bs _ _ n w
      rw [this] at e
      cases e
      exact c.bs _ _ q _ _ n w
/-- the locked dict of a path -/
theorem dic_at {a : AE} {m : Lm} {v : V} {es : List (Key × D)} {it : AI} (hm : m = .wk ∨ m = .fr) (f : Fit me r H0 Hs H σ δ) (ok : Ok r Hs H) (hk : okL δ (lkM m a) = true) (fz : Frz it σ H) (hit : itA it = some a) (e1 : pathA a σ H = some v) (h : Rp r Hs v (.dic es) ∨ ∃ j, a = .nm j ∧ sl σ j = some v ∧ (dl δ j).dat = some (.dic es)) :
    ∃ d o kvs, v = .ref d ∧ H d = some (.frz o (.dK kvs)) ∧ es.length ≤ sizeLine ∧ kvs.map (·.1) = es.map (·.1) ∧ ∀ Rch, RchOk m r H0 Hs H Rch → ∀ Hs' H', Rch Hs' H' → Ok r Hs' H' → H' d = some (.frz o (.dK kvs)) ∧ Rps r Hs' (kvs.map (·.2)) (es.map (·.2)) := by
  obtain ⟨d, kvs, rfl, n, q1, q2, z, q3, q4⟩ := path_dic hm f ok hk h
  rcases q1 with q1 | ⟨o, q1⟩
  · exact (fz a d kvs hit e1 q1).elim
  · exact ⟨d, o, kvs, rfl, q1, z, q3, fun Rch c Hs' H' q k' => ⟨dict_stay f ok n q1 q2 c q k', q4.ext (c.ext _ _ q)⟩⟩
theorem m_ne {m : Lm} (hm : m = .wk ∨ m = .fr) : m ≠ .on := by rcases hm with rfl | rfl <;> intro z <;> cases z
theorem si_items {a : AE} {m : Lm} (hm : m = .wk ∨ m = .fr) (ha : SE K a) : SimI K m (.items a) := fun b W me r H0 Hs H σ δ P X R ok f hk fz hu go kx => by
  unfold uI at hu
  unfold hI
  cases hp : isPath a with
  | false =>
    refine ha.M m (m_ne hm) W me r H0 Hs H σ δ _ X _ ok f hk hu (fun x dx Hs1 H1 p s1 o1 rx => ?_) kx
    cases dx with
    | dic es => rw [hp, Bool.and_false] at p; cases p.1
    | _ => exact (show False from p).elim
  | true =>
    obtain ⟨v, d, e1, e2, e3, e4⟩ := path_run (K := K) hp ok f hu
    cases d with
    | dic es =>
      obtain ⟨d, o, kvs, rfl, q1, z, q2, q3⟩ := dic_at hm f ok hk fz rfl e1 e3
      exact (e4 H fun _ _ _ _ e => e).2 W _ ⟨d, o, kvs, rfl, q1, go _ _ Hs H e2.2 .refl ok (by rw [List.length_map]; exact z) fun Rch c => walk_items q2 (q3 Rch c)⟩
    | _ => exact (show False from e2).elim
theorem si_vals {a : AE} {m : Lm} (hm : m = .wk ∨ m = .fr) (ha : SE K a) : SimI K m (.vals a) := fun b W me r H0 Hs H σ δ P X R ok f hk fz hu go kx => by
  unfold uI at hu
  unfold hI
  cases hp : isPath a with
  | false =>
    refine ha.M m (m_ne hm) W me r H0 Hs H σ δ _ X _ ok f hk hu (fun x dx Hs1 H1 p s1 o1 rx => ?_) kx
    cases dx with
    | dic es => rw [hp, Bool.and_false] at p; cases p.1
    | _ => exact (show False from p).elim
  | true =>
    obtain ⟨v, d, e1, e2, e3, e4⟩ := path_run (K := K) hp ok f hu
    cases d with
    | dic es =>
      obtain ⟨d, o, kvs, rfl, q1, z, q2, q3⟩ := dic_at hm f ok hk fz rfl e1 e3
      exact (e4 H fun _ _ _ _ e => e).2 W _ ⟨d, o, kvs, rfl, q1, go _ _ Hs H e2.2 .refl ok (by rw [List.length_map]; exact z) fun Rch c => walk_vals q2 (q3 Rch c)⟩
    | _ => exact (show False from e2).elim
theorem si_keys {a : AE} {m : Lm} (hm : m = .wk ∨ m = .fr) (ha : SE K a) : SimI K m (.keys a) := fun b W me r H0 Hs H σ δ P X R ok f hk fz hu go kx => by
  unfold uI at hu
  unfold hI
  cases hp : isPath a with
  | false =>
    refine ha.M m (m_ne hm) W me r H0 Hs H σ δ _ X _ ok f hk hu (fun x dx Hs1 H1 p s1 o1 rx => ?_) kx
    cases dx with
    | dic es => rw [hp, Bool.and_false] at p; cases p.1
    | _ => exact (show False from p).elim
  | true =>
    obtain ⟨v, d, e1, e2, e3, e4⟩ := path_run (K := K) hp ok f hu
    cases d with
    | dic es =>
      obtain ⟨d, o, kvs, rfl, q1, z, q2, q3⟩ := dic_at hm f ok hk fz rfl e1 e3
      exact (e4 H fun _ _ _ _ e => e).2 W _ ⟨d, o, kvs, rfl, q1, go _ _ Hs H e2.2 .refl ok (by rw [List.length_map]; exact z) fun Rch c => walk_keys q2 (q3 Rch c)⟩
    | _ => exact (show False from e2).elim
theorem pk_lst {v : V} {ds : List D} (h : Pk r Hs H v (.lst ds)) : ∃ a xs, v = .ref a ∧ H a = some (.lst xs) ∧ ds.length ≤ sizeLine ∧ Rps r Hs xs ds := by
  obtain ⟨a, xs, rfl, _, e, z, t⟩ := h
  exact ⟨a, xs, rfl, e, z, t⟩
theorem lst_stay {e : AE} {m : Lm} {a : Addr} {ds : List D} (hm : m = .wk ∨ m = .fr) (f : Fit me r H0 Hs H σ δ) (ok : Ok r Hs H) (h : Pv m e σ δ r Hs (.ref a) (.lst ds)) (Rch : Hp → Hp → Prop) (c : RchOk m r H0 Hs H Rch) : ∀ Hs' H', Rch Hs' H' → Ok r Hs' H' → ∃ xs, H' a = some (.lst xs) ∧ Rps r Hs' xs ds := fun Hs' H' q k' => by
  obtain ⟨b, xs, e, h1, _, h2⟩ := pk_lst (Pv.stay hm f ok c h q k')
  cases e
  exact ⟨xs, h1, h2⟩
theorem si_any {a : AE} {m : Lm} (hm : m = .wk ∨ m = .fr) (ha : SE K a) : SimI K m (.any a) := fun b W me r H0 Hs H σ δ P X R ok f hk fz hu go kx => by
  unfold uI at hu
  unfold hI
  obtain ⟨w, hu⟩ := hu
  cases w with
  | l =>
    refine .inl (ha.M m (m_ne hm) W me r H0 Hs H σ δ _ X _ ok f hk hu (fun x dx Hs1 H1 p s1 o1 rx => ?_) kx)
    cases dx with
    | lst ds =>
      obtain ⟨c, xs, rfl, e, z, t⟩ := pk_lst (rx.pk (f.stp s1) o1)
      exact ⟨c, rfl, ⟨xs, .inl (.inl e)⟩, go _ _ Hs1 H1 p s1 o1 z fun Rch cc => walk_lst (lst_stay hm (f.stp s1) o1 rx Rch cc)⟩
    | _ => exact (show False from p).elim
  | t =>
    refine .inr (.inl (ha.M m (m_ne hm) W me r H0 Hs H σ δ _ X _ ok f hk hu (fun x dx Hs1 H1 p s1 o1 rx => ?_) kx))
    cases dx with
    | tup ds =>
      have rp : Rp r Hs1 x (.tup ds) := rx.pk (f.stp s1) o1
      cases rp with
      | tup e z t => exact ⟨_, rfl, ⟨_, .inl (.inl (o1.sub _ _ e))⟩, go _ _ Hs1 H1 p s1 o1 z fun Rch cc => walk_tup fun Hs' H' q k' => ⟨_, k'.sub _ _ (cc.ext _ _ q _ _ e), t.ext (cc.ext _ _ q)⟩⟩
    | _ => exact (show False from p).elim
  | s =>
    refine .inr (.inr (.inl (ha.M m (m_ne hm) W me r H0 Hs H σ δ _ X _ ok f hk hu (fun x dx Hs1 H1 p s1 o1 rx => ?_) kx)))
    cases dx with
    | str y =>
      cases pk_str (rx.pk (f.stp s1) o1)
      by_cases hz : y.cps.size ≤ sizeLine
      · simp only [walkD, if_pos hz] at p
        exact ⟨y, rfl, go _ _ Hs1 H1 p s1 o1 (by simpa using hz) fun Rch cc => walk_str⟩
      · simp only [walkD, if_neg hz] at p
    | _ => exact (show False from p).elim
  | d =>
    refine .inr (.inr (.inr ?_))
    cases hp : isPath a with
    | false =>
      refine ha.M m (m_ne hm) W me r H0 Hs H σ δ _ X _ ok f hk hu (fun x dx Hs1 H1 p s1 o1 rx => ?_) kx
      cases dx with
      | dic es =>
        rw [hp, Bool.and_false] at p
        exact (show False from p).elim
      | _ => exact (show False from p).elim
    | true =>
      obtain ⟨v, d, e1, e2, e3, e4⟩ := path_run (K := K) hp ok f hu
      cases d with
      | dic es =>
        obtain ⟨d, o, kvs, rfl, q1, z, q2, q3⟩ := dic_at hm f ok hk fz rfl e1 e3
        cases hb : (b && isPath a) with
        | false => rw [hb] at e2; exact (show False from e2).elim
        | true =>
          rw [hb] at e2
          exact (e4 H fun _ _ _ _ e => e).2 W _ ⟨d, o, rfl, .inl ⟨kvs, q1, go _ _ Hs H e2 .refl ok (by rw [List.length_map]; exact z) fun Rch c => walk_keys q2 (q3 Rch c)⟩⟩
      | _ => exact (show False from e2).elim
theorem rangeD_len (lo : Int) (n : Nat) : (rangeD lo n).length = n := by unfold rangeD; simp
theorem rangeC_len (lo c : Int) (n : Nat) : (rangeC lo c n).length = n := by unfold rangeC; simp
theorem si_rng1 {a : AE} {m : Lm} (ha : SE K a) : SimI K m (.rng1 a) := fun b W me r H0 Hs H σ δ P X R ok f hk fz hu go kx => by
  unfold uI at hu
  unfold hI
  show hE K W a σ H fun x H1 => ∃ j : Int, [x] = [.int j] ∧ -(2 ^ 62) ≤ j ∧ j < 2 ^ 62 ∧ R (Itr 0 j.toNat) H1
  refine ha.P W me r H0 Hs H σ δ _ X _ ok f hk hu (fun x dx Hs1 H1 p s1 o1 rx => ?_) kx
  cases dx with
  | int j =>
    cases pk_int (rx.pk (f.stp s1) o1)
    have : sizeLine < 2 ^ 62 := by decide
    exact ⟨j, rfl, p.2.1, by have := p.1; omega, go _ _ Hs1 H1 p.2.2 s1 o1 (by rw [rangeD_len]; exact p.1) fun Rch c => walk_rng⟩
  | _ => exact (show False from p).elim
theorem si_rng2 {a b : AE} {m : Lm} (ha : SE K a) (hb : SE K b) : SimI K m (.rng2 a b) := fun _ W me r H0 Hs H σ δ P X R ok f hk fz hu go kx => by
  unfold uI at hu
  unfold hI
  unfold lkI at hk
  obtain ⟨la, lb⟩ := okL_app hk
  show hE K W a σ H fun x H1 => hE K W b σ H1 fun y H2 => ∃ i j : Int, [x, y] = [.int i, .int j] ∧ (-(2 ^ 62) ≤ i ∧ i < 2 ^ 62 ∧ -(2 ^ 62) ≤ j ∧ j < 2 ^ 62) ∧ R (Itr i (j - i).toNat) H2
  refine ha.P W me r H0 Hs H σ δ _ X _ ok f la hu (fun x dx Hs1 H1 p s1 o1 rx => ?_) kx
  refine hb.P W me r H0 Hs1 H1 σ δ _ X _ o1 (f.stp s1) lb p (fun y dy Hs2 H2 p2 s2 o2 ry => ?_) (kx.mono s1 o1)
  have f2 := (f.stp s1).stp s2
  cases dx with
  | int i =>
    cases dy with
    | int j =>
      cases pk_int ((rx.ext s2.sh).pk f2 o2)
      cases pk_int (ry.pk f2 o2)
      obtain ⟨h1, h2, h3, h4, h5, h6⟩ := p2
      exact ⟨i, j, rfl, ⟨h2, h3, h4, h5⟩, go _ _ Hs2 H2 h6 (s1.trans o1 s2) o2 (by rw [rangeD_len]; exact h1) fun Rch c => walk_rng⟩
    | _ => exact (show False from p2).elim
  | _ => exact (show False from p2).elim
theorem si_rng3 {a b c : AE} {m : Lm} (ha : SE K a) (hb : SE K b) (hc : SE K c) : SimI K m (.rng3 a b c) := fun _ W me r H0 Hs H σ δ P X R ok f hk fz hu go kx => by
  unfold uI at hu
  unfold hI
  unfold lkI at hk
  obtain ⟨la, lb⟩ := okL_app hk
  obtain ⟨lb, lc⟩ := okL_app lb
  show hE K W a σ H fun x H1 => hE K W b σ H1 fun y H2 => hE K W c σ H2 fun z H3 => ∃ (i j c : Int) (n : Nat), [x, y, z] = [.int i, .int j, .int c] ∧ RgC i j c n ∧ R (Itc i c n) H3
  refine ha.P W me r H0 Hs H σ δ _ X _ ok f la hu (fun x dx Hs1 H1 p s1 o1 rx => ?_) kx
  refine hb.P W me r H0 Hs1 H1 σ δ _ X _ o1 (f.stp s1) lb p (fun y dy Hs2 H2 p2 s2 o2 ry => ?_) (kx.mono s1 o1)
  have s12 := s1.trans o1 s2
  refine hc.P W me r H0 Hs2 H2 σ δ _ X _ o2 (f.stp s12) lc p2 (fun z dz Hs3 H3 p3 s3 o3 rz => ?_) (kx.mono s12 o2)
  have s13 := s12.trans o2 s3
  have f3 := f.stp s13
  cases dx with
  | int i =>
    cases dy with
    | int j =>
      cases dz with
      | int c =>
        cases pk_int ((rx.ext (s2.trans o2 s3).sh).pk f3 o3)
        cases pk_int ((ry.ext s3.sh).pk f3 o3)
        cases pk_int (rz.pk f3 o3)
        obtain ⟨n, h1, h2, h3⟩ := p3
        exact ⟨i, j, c, n, rfl, h1, go _ _ Hs3 H3 h3 s13 o3 (by rw [rangeC_len]; exact h2) fun Rch c => walk_rngC⟩
      | _ => exact (show False from p3).elim
    | _ => exact (show False from p3).elim
  | _ => exact (show False from p3).elim
theorem si_enum {a : AE} {m : Lm} (hm : m = .wk ∨ m = .fr) (ha : SE K a) : SimI K m (.enum a) := fun b W me r H0 Hs H σ δ P X R ok f hk fz hu go kx => by
  unfold uI at hu
  unfold hI
  show hE K W a σ H fun x H1 => ∃ a xs, [x] = [.ref a] ∧ SqL K H1 a xs ∧ R (Ite K a) H1
  refine ha.M m (m_ne hm) W me r H0 Hs H σ δ _ X _ ok f hk hu (fun x dx Hs1 H1 p s1 o1 rx => ?_) kx
  cases dx with
  | lst ds =>
    obtain ⟨c, xs, rfl, e, z, t⟩ := pk_lst (rx.pk (f.stp s1) o1)
    exact ⟨c, xs, rfl, .inl (.inl e), go _ _ Hs1 H1 p s1 o1 (by rw [enumD_len]; exact z) fun Rch cc => walk_enum (lst_stay hm (f.stp s1) o1 rx Rch cc)⟩
  | _ => exact (show False from p).elim
theorem si_revd {a : AE} {m : Lm} (hm : m = .wk ∨ m = .fr) (ha : SE K a) : SimI K m (.revd a) := fun b W me r H0 Hs H σ δ P X R ok f hk fz hu go kx => by
  unfold uI at hu
  unfold hI
  show hE K W a σ H fun x H1 => ∃ (a : Addr) (xs : List V), [x] = [.ref a] ∧ SqL K H1 a xs ∧ R (Itv K a xs.length) H1
  refine ha.M m (m_ne hm) W me r H0 Hs H σ δ _ X _ ok f hk hu (fun x dx Hs1 H1 p s1 o1 rx => ?_) kx
  cases dx with
  | lst ds =>
    obtain ⟨c, xs, rfl, e, z, t⟩ := pk_lst (rx.pk (f.stp s1) o1)
    refine ⟨c, xs, rfl, .inl (.inl e), ?_⟩
    rw [t.len]
    exact go _ _ Hs1 H1 p s1 o1 (by rw [List.length_reverse]; exact z) fun Rch cc => walk_rev (lst_stay hm (f.stp s1) o1 rx Rch cc)
  | _ => exact (show False from p).elim
theorem si_zip {a b : AE} {m : Lm} (hm : m = .wk ∨ m = .fr) (ha : SE K a) (hb : SE K b) : SimI K m (.zip a b) := fun _ W me r H0 Hs H σ δ P X R ok f hk fz hu go kx => by
  unfold uI at hu
  unfold hI
  unfold lkI at hk
  obtain ⟨la, lb⟩ := okL_app hk
  show hE K W a σ H fun x H1 => hE K W b σ H1 fun y H2 => ∃ a b xs ys, [x, y] = [.ref a, .ref b] ∧ SqL K H2 a xs ∧ SqL K H2 b ys ∧ R (Itz K a b) H2
  refine ha.M m (m_ne hm) W me r H0 Hs H σ δ _ X _ ok f la hu (fun x dx Hs1 H1 p s1 o1 rx => ?_) kx
  refine hb.M m (m_ne hm) W me r H0 Hs1 H1 σ δ _ X _ o1 (f.stp s1) lb p (fun y dy Hs2 H2 p2 s2 o2 ry => ?_) (kx.mono s1 o1)
  have f2 := (f.stp s1).stp s2
  cases dx with
  | lst ds =>
    cases dy with
    | lst es =>
      have rx := rx.ext s2.sh
      obtain ⟨c, xs, rfl, e, z, t⟩ := pk_lst (rx.pk f2 o2)
      obtain ⟨d, ys, rfl, e', z', t'⟩ := pk_lst (ry.pk f2 o2)
      exact ⟨c, d, xs, ys, rfl, .inl (.inl e), .inl (.inl e'), go _ _ Hs2 H2 p2 (s1.trans o1 s2) o2 (Nat.le_trans (zipD_le _ _) z) fun Rch cc => walk_zip (lst_stay hm f2 o2 rx Rch cc) (lst_stay hm f2 o2 ry Rch cc)⟩
    | _ => exact (show False from p2).elim
  | _ => exact (show False from p2).elim

/-! ### comprehensions -/
theorem rch_e (f : Fit me r H0 Hs H σ δ) : RchOk .wk r H0 Hs H (fun Hs' H' => Stp r Hs H Hs' H') := ⟨fun _ _ s => s.sh, fun _ _ s b o n e => s.kp b o n (f.bs b o n e), fun _ _ _ s => s.kp⟩
theorem wipe_sub {σ : St} {vs : List Nat} : ∀ {us : List Nat}, (∀ u ∈ us, u ∈ vs) → wipe (wipe σ us) vs = wipe σ vs
  | [], _ => rfl
  | u :: us, h => by
    show wipe ((wipe σ us).set u none) vs = _
    rw [wipe_in (h u List.mem_cons_self), wipe_sub fun w hw => h w (List.mem_cons_of_mem _ hw)]
theorem wipe_idem {σ : St} {vs : List Nat} : wipe (wipe σ vs) vs = wipe σ vs := wipe_sub fun _ h => h
theorem lc_body {J : It} {g : AG} {t : AT} {e : AE} {vs : List Nat} {ds : List D} {P : D → Prop} {Q : VK} (ht : SimT K t) (he : SE K e) (ok : Ok r Hs H) (f : Fit me r H0 Hs H σ δ) (hlt : okL δ (lkT t) = true) (hle : okL δ (lkM .on e) = true) (hg : (nmG g).all vs.contains = true) (hz : ds.length ≤ sizeLine)
    (hw : Walk r (fun Hs' H' => Stp r Hs H Hs' H') J ds) (hu : lcU (uG g) (fun δ Q => uT t δ Q fun _ => False) (fun δ Q => uE e δ Q fun _ => False) (wipeD δ vs) (fun ds => P (.lst ds)) ds []) (kf : Kf r Hs H P Q) : LcGo J (hG K g) (hT K w0 t) (hE K w0 e) vs σ H Q := by
  intro D hD
  have hr := ok.ner' hD
  refine ⟨fun i m H1 => i ≤ ds.length ∧ m = ds.length - i ∧ ∃ Hs1 acc accD, Ok r Hs1 H1 ∧ Stp r Hs H Hs1 H1 ∧ Hs1 D = none ∧ H1 D = some (.lst acc) ∧ Rps r Hs1 acc accD ∧ accD.length ≤ i ∧ lcU (uG g) (fun δ Q => uT t δ Q fun _ => False) (fun δ Q => uE e δ Q fun _ => False) (wipeD δ vs) (fun ds => P (.lst ds)) (ds.drop i) accD,
    ⟨ds.length, Nat.zero_le _, rfl, Hs, [], [], ok.own (ok.nn hD) hr, .own hD, ok.nn hD, upd_same, .nil, Nat.zero_le _, hu⟩, fun i m H1 ⟨hi, hm, Hs1, acc, accD, o1, s1, n1, a1, r1, l1, u1⟩ => ?_⟩
  by_cases hn : i = ds.length
  · subst hn
    rw [List.drop_length] at u1
    refine .inl ⟨(hw Hs1 H1 s1 o1).2, kf D _ Hs1 H1 u1 s1 o1 hr hD n1 ⟨acc, a1, Nat.le_trans l1 hz, r1⟩⟩
  · have lt : i < ds.length := by omega
    have hd : ds[i]? = some ds[i] := List.getElem?_eq_getElem lt
    rw [List.drop_eq_getElem_cons lt] at u1
    obtain ⟨hgo, hy⟩ := (hw Hs1 H1 s1 o1).1 i _ hd
    refine .inr ⟨hgo, fun H2 => ∃ Hs1 acc accD, Ok r Hs1 H2 ∧ Stp r Hs H Hs1 H2 ∧ Hs1 D = none ∧ H2 D = some (.lst acc) ∧ Rps r Hs1 acc accD ∧ accD.length ≤ i + 1 ∧ lcU (uG g) (fun δ Q => uT t δ Q fun _ => False) (fun δ Q => uE e δ Q fun _ => False) (wipeD δ vs) (fun ds => P (.lst ds)) (ds.drop (i + 1)) accD,
      fun H2 q => ⟨ds.length - (i + 1), by omega, by omega, rfl, q⟩, fun x H2 hx => ?_⟩
    obtain ⟨Hs2, s2, o2, rx⟩ := hy x H2 hx
    have s02 := s1.trans o1 s2
    have f2 := (f.stp s02).wipe vs
    refine simG g rx o2 f2 u1 fun σ' δ' h' f' tg => ⟨?_, ?_⟩
    · rw [tg.wp vs hg, wipe_idem]
    · refine ht w0 me r H0 Hs2 H2 σ' δ' _ (fun _ => False) _ o2 f' (tg.ok _ (okL_wipe hlt vs)) h' (fun b Hs3 H3 p3 s3 o3 => ?_) kx_bot
      have s03 := s02.trans o2 s3
      cases b with
      | true =>
        refine iteT (he.E w0 me r H0 Hs3 H3 σ' δ' _ (fun _ => False) _ o3 (f'.stp s3) (tg.ok _ (okL_wipe hle vs)) p3 (fun y dy Hs4 H4 p4 s4 o4 ry => ?_) kx_bot)
        have s14 := (s2.trans o2 s3).trans o3 s4
        have s04 := s03.trans o3 s4
        have a4 : H4 D = some (.lst acc) := s14.kp _ _ hr a1
        have n4 : Hs4 D = none := s14.nw _ _ a1 n1
        refine ⟨acc, a4, by rw [r1.len]; omega, Hs4, acc ++ [y], accD ++ [dy], o4.own n4 hr, ⟨s04.sh, fun b o nb eb => ?_, s04.nw⟩, n4, upd_same, (r1.ext s14.sh).app (.cons ry .nil), by rw [List.length_append]; exact Nat.add_le_add_right l1 1, p4⟩
        rw [upd_ne (ne_of_none eb hD)]
        exact s04.kp b o nb eb
      | false =>
        have s13 := s2.trans o2 s3
        exact iteF ⟨Hs3, acc, accD, o3, s03, s13.nw _ _ a1 n1, s13.kp _ _ hr a1, r1.ext s13.sh, Nat.le_succ_of_le l1, p3⟩
/-- what tDc asks behind its iterator -/
def DcGo (J : It) (g : TG) (tt : TT) (tk tv : TE) (vs : List Nat) (σ : St) (H1 : Hp) (Q : VK) : Prop := ∀ D, H1 D = none → ∃ W : Nat → Nat → Hp → Prop, (∃ m, W 0 m (upd H1 D (.dK []))) ∧ ∀ i m H, W i m H →
  (J.stop i H ∧ Q (.ref D) H) ∨ (J.go i H ∧ ∃ Nx : Hp → Prop, (∀ H', Nx H' → ∃ m', m' < m ∧ W (i + 1) m' H') ∧ ∀ x H', J.yld i H x H' → g x (wipe σ vs) H' fun σ2 H2 => wipe σ2 vs = wipe σ vs ∧ tt σ2 H2 fun b H3 =>
    if b = true then tk σ2 H3 fun y H4 => tv σ2 H4 fun z H5 => ∃ kvs k, y = kV k ∧ H5 D = some (.dK kvs) ∧ kvs.length < sizeLine ∧ Nx (upd H5 D (.dK (putK kvs k z))) else Nx H3)
theorem dc_body {J : It} {g : AG} {t : AT} {k e : AE} {vs : List Nat} {ds : List D} {P : D → Prop} {Q : VK} (ht : SimT K t) (hk : SE K k) (he : SE K e) (ok : Ok r Hs H) (f : Fit me r H0 Hs H σ δ) (hlt : okL δ (lkT t) = true) (hlk : okL δ (lkM .on k) = true) (hle : okL δ (lkM .on e) = true) (hg : (nmG g).all vs.contains = true) (hz : ds.length ≤ sizeLine)
    (hw : Walk r (fun Hs' H' => Stp r Hs H Hs' H') J ds) (hu : dcU (uG g) (fun δ Q => uT t δ Q fun _ => False) (fun δ Q => uE k δ Q fun _ => False) (fun δ Q => uE e δ Q fun _ => False) (wipeD δ vs) (fun es => P (.dic es)) ds []) (kf : Kf r Hs H P Q) : DcGo J (hG K g) (hT K w0 t) (hE K w0 k) (hE K w0 e) vs σ H Q := by
  intro D hD
  have hr := ok.ner' hD
  refine ⟨fun i m H1 => i ≤ ds.length ∧ m = ds.length - i ∧ ∃ Hs1 acc accD, Ok r Hs1 H1 ∧ Stp r Hs H Hs1 H1 ∧ Hs1 D = none ∧ H1 D = some (.dK acc) ∧ acc.map (·.1) = accD.map (·.1) ∧ Rps r Hs1 (acc.map (·.2)) (accD.map (·.2)) ∧ accD.length ≤ i ∧ dcU (uG g) (fun δ Q => uT t δ Q fun _ => False) (fun δ Q => uE k δ Q fun _ => False) (fun δ Q => uE e δ Q fun _ => False) (wipeD δ vs) (fun es => P (.dic es)) (ds.drop i) accD,
    ⟨ds.length, Nat.zero_le _, rfl, Hs, [], [], ok.own (ok.nn hD) hr, .own hD, ok.nn hD, upd_same, rfl, .nil, Nat.zero_le _, hu⟩, fun i m H1 ⟨hi, hm, Hs1, acc, accD, o1, s1, n1, a1, k1, r1, l1, u1⟩ => ?_⟩
  by_cases hn : i = ds.length
  · subst hn
    rw [List.drop_length] at u1
    refine .inl ⟨(hw Hs1 H1 s1 o1).2, kf D _ Hs1 H1 u1 s1 o1 hr hD n1 ⟨acc, a1, Nat.le_trans l1 hz, k1, r1⟩⟩
  · have lt : i < ds.length := by omega
    have hd : ds[i]? = some ds[i] := List.getElem?_eq_getElem lt
    rw [List.drop_eq_getElem_cons lt] at u1
    obtain ⟨hgo, hy⟩ := (hw Hs1 H1 s1 o1).1 i _ hd
    refine .inr ⟨hgo, fun H2 => ∃ Hs1 acc accD, Ok r Hs1 H2 ∧ Stp r Hs H Hs1 H2 ∧ Hs1 D = none ∧ H2 D = some (.dK acc) ∧ acc.map (·.1) = accD.map (·.1) ∧ Rps r Hs1 (acc.map (·.2)) (accD.map (·.2)) ∧ accD.length ≤ i + 1 ∧ dcU (uG g) (fun δ Q => uT t δ Q fun _ => False) (fun δ Q => uE k δ Q fun _ => False) (fun δ Q => uE e δ Q fun _ => False) (wipeD δ vs) (fun es => P (.dic es)) (ds.drop (i + 1)) accD,
      fun H2 q => ⟨ds.length - (i + 1), by omega, by omega, rfl, q⟩, fun x H2 hx => ?_⟩
    obtain ⟨Hs2, s2, o2, rx⟩ := hy x H2 hx
    have s02 := s1.trans o1 s2
    have f2 := (f.stp s02).wipe vs
    refine simG g rx o2 f2 u1 fun σ' δ' h' f' tg => ⟨?_, ?_⟩
    · rw [tg.wp vs hg, wipe_idem]
    · refine ht w0 me r H0 Hs2 H2 σ' δ' _ (fun _ => False) _ o2 f' (tg.ok _ (okL_wipe hlt vs)) h' (fun b Hs3 H3 p3 s3 o3 => ?_) kx_bot
      have s03 := s02.trans o2 s3
      cases b with
      | true =>
        refine iteT (hk.E w0 me r H0 Hs3 H3 σ' δ' _ (fun _ => False) _ o3 (f'.stp s3) (tg.ok _ (okL_wipe hlk vs)) p3 (fun y dy Hs4 H4 p4 s4 o4 ry => ?_) kx_bot)
        refine he.E w0 me r H0 Hs4 H4 σ' δ' _ (fun _ => False) _ o4 ((f'.stp s3).stp s4) (tg.ok _ (okL_wipe hle vs)) p4 (fun z dz Hs5 H5 p5 s5 o5 rz => ?_) kx_bot
        have s15 := ((s2.trans o2 s3).trans o3 s4).trans o4 s5
        have s05 := (s03.trans o3 s4).trans o4 s5
        have a5 : H5 D = some (.dK acc) := s15.kp _ _ hr a1
        have n5 : Hs5 D = none := s15.nw _ _ a1 n1
        cases ek : keyD dy with
        | none => rw [ek] at p5; exact p5.elim
        | some kk =>
          rw [ek] at p5
          obtain ⟨i1, i2⟩ := put_rep (k := kk) rz k1 (r1.ext s15.sh)
          refine ⟨acc, kk, key_kV ry ek, a5, by rw [kv_len k1]; omega, Hs5, putK acc kk z, putD accD kk dz, o5.own n5 hr, ⟨s05.sh, fun b o nb eb => ?_, s05.nw⟩, n5, upd_same, i1, i2, Nat.le_trans (putD_len _ _ _) (Nat.add_le_add_right l1 1), p5⟩
          rw [upd_ne (ne_of_none eb hD)]
          exact s05.kp b o nb eb
      | false =>
        have s13 := s2.trans o2 s3
        exact iteF ⟨Hs3, acc, accD, o3, s03, s13.nw _ _ a1 n1, s13.kp _ _ hr a1, k1, r1.ext s13.sh, Nat.le_succ_of_le l1, p3⟩
/-- walked with or without a lock -/
theorem lock_split (it : AI) (σ : St) (H : Hp) : Frz it σ H ∨ ∃ a d kvs, itA it = some a ∧ pathA a σ H = some (.ref d) ∧ H d = some (.dK kvs) := by
  by_cases h : ∃ a d kvs, itA it = some a ∧ pathA a σ H = some (.ref d) ∧ H d = some (.dK kvs)
  · exact .inr h
  · exact .inl fun a d kvs h1 h2 h3 => h ⟨a, d, kvs, h1, h2, h3⟩
theorem path_ins {a : AE} {d : Addr} {o : HO} {kvs : List (Key × V)} {v : V} (h : pathA a σ H = some v) (e : H d = some (.dK kvs)) : pathA a σ (upd H d o) = some v := by
  cases a with
  | nm i => exact h
  | fld g b =>
    cases b with
    | nm i =>
      have h : (match sl σ i with | some (.ref b) => (match H b with | some (.ins _ _ fs) => fs.lookup g.f | _ => none) | _ => none) = some v := h
      show (match sl σ i with | some (.ref b) => (match upd H d o b with | some (.ins _ _ fs) => fs.lookup g.f | _ => none) | _ => none) = some v
      cases e1 : sl σ i with
      | none => rw [e1] at h; cases h
      | some w =>
        rw [e1] at h
        cases w with
        | ref c =>
          have h : (match H c with | some (.ins _ _ fs) => fs.lookup g.f | _ => none) = some v := h
          show (match upd H d o c with | some (.ins _ _ fs) => fs.lookup g.f | _ => none) = some v
          have n : c ≠ d := fun z => by rw [z, e] at h; cases h
          rw [upd_ne n]
          exact h
        | _ => cases h
    | _ => cases h
  | _ => cases h
theorem frz_lock {it : AI} {a : AE} {d : Addr} {kvs : List (Key × V)} {od : Obj} (h1 : itA it = some a) (h2 : pathA a σ H = some (.ref d)) (e : H d = some (.dK kvs)) : Frz it σ (upd H d (.frz od (.dK kvs))) := fun a' d' kvs' q1 q2 q3 => by
  rw [h1] at q1
  cases q1
  rw [path_ins h2 e] at q2
  cases q2
  rw [upd_same] at q3
  cases q3
/-- a dict that is walked: which slots do not hold it -/
theorem lock_ap {a : AE} {it : AI} {m : Lm} {b : Bool} {d : Addr} {kvs : List (Key × V)} {P : List D → Prop} {X : XD} (hm : m = .wk ∨ m = .fr) (ok : Ok r Hs H) (f : Fit me r H0 Hs H σ δ) (h1 : itA it = some a) (h2 : pathA a σ H = some (.ref d)) (e : H d = some (.dK kvs)) (hk : okL δ (lkI m it) = true) (hu : uI b it δ P X) :
    b = true ∧ isPath a = true ∧ isDicI it δ = true ∧ (Rd Hs d (.dK kvs) ∨ Rd H0 d (.dK kvs)) ∧ r ≠ some d ∧ ∀ j, (dl δ j).own = true → sl σ j ≠ some (.ref d) := by
  have hp : isPath a = true := by
    cases a with
    | nm i => rfl
    | fld g c =>
      cases c with
      | nm i => rfl
      | _ => cases h2
    | _ => cases h2
  have key : ∀ {P' : D → Prop}, (∀ v, ¬ P' (.cst v)) → (∀ es, P' (.dic es) → b = true) → okL δ (lkM m a) = true → uE a δ P' X → b = true ∧ isPath a = true ∧ (∀ i, a = .nm i → ∃ es, (dl δ i).dat = some (.dic es)) ∧ (Rd Hs d (.dK kvs) ∨ Rd H0 d (.dK kvs)) ∧ r ≠ some d ∧ ∀ j, (dl δ j).own = true → sl σ j ≠ some (.ref d) := by
    intro P' hc hb hk hu
    obtain ⟨v, dd, e1, e2, e3, _⟩ := path_run (K := []) hp ok f hu
    rw [h2] at e1
    cases e1
    have hd : ∃ es, dd = .dic es := by
      have pk : Pk r Hs H (.ref d) dd := by
        rcases e3 with q | ⟨j, _, q1, q2⟩
        · exact q.pk ok
        · exact f.pk ok q1 q2
      have rp := pk.rp ok
      cases rp with
      | lst q _ _ => rw [e] at q; cases q
      | tup q _ _ => rw [e] at q; cases q
      | dic _ _ _ _ => exact ⟨_, rfl⟩
      | ins q _ _ => rw [e] at q; cases q
      | rng q =>
        obtain ⟨_, _, q2, _⟩ := (ok.rg _ q).2
        rw [e] at q2
        cases q2
      | cst v => exact (hc _ e2).elim
    obtain ⟨es, rfl⟩ := hd
    have hn : ∀ i, a = .nm i → ∃ es, (dl δ i).dat = some (.dic es) := fun i hi => by
      subst hi
      unfold uE at hu
      cases q : (dl δ i).dat with
      | none => rw [q] at hu; exact hu.elim
      | some x =>
        obtain ⟨v', hv'⟩ := f.val q
        have e1 : sl σ i = some (.ref d) := h2
        rcases e3 with z | ⟨j, z1, z2, z3⟩
        · rw [q] at hu
          have pk := (f.pk ok e1 q).rp ok
          cases pk with
          | lst w _ _ => rw [e] at w; cases w
          | tup w _ _ => rw [e] at w; cases w
          | dic _ _ _ _ => exact ⟨_, rfl⟩
          | ins w _ _ => rw [e] at w; cases w
          | rng w =>
            obtain ⟨_, _, w2, _⟩ := (ok.rg _ w).2
            rw [e] at w2
            cases w2
          | cst v => exact (hc _ hu).elim
        · cases z1
          rw [q] at z3
          exact ⟨es, z3⟩
    obtain ⟨d', kvs', q0, n, q1, q2, _⟩ := path_dic hm f ok hk e3
    cases q0
    have ek : kvs' = kvs := by
      rcases q1 with q1 | ⟨_, q1⟩ <;> rw [e] at q1 <;> cases q1
      rfl
    subst ek
    refine ⟨hb es e2, hp, hn, q2, n, fun j hj hs => ?_⟩
    obtain ⟨_, w1, w2, _⟩ := f.ow_at hj hs
    rcases q2 with (q | ⟨_, q⟩) | (q | ⟨_, q⟩)
    · rw [w1] at q; cases q
    · rw [w1] at q; cases q
    · rw [w2] at q; cases q
    · rw [w2] at q; cases q
  cases it with
  | items c => cases h1; unfold uI at hu; obtain ⟨k1, k2, _, k4⟩ := key (fun v z => z) (fun es z => (b2 z.1).1) hk hu; exact ⟨k1, k2, rfl, k4⟩
  | vals c => cases h1; unfold uI at hu; obtain ⟨k1, k2, _, k4⟩ := key (fun v z => z) (fun es z => (b2 z.1).1) hk hu; exact ⟨k1, k2, rfl, k4⟩
  | keys c => cases h1; unfold uI at hu; obtain ⟨k1, k2, _, k4⟩ := key (fun v z => z) (fun es z => (b2 z.1).1) hk hu; exact ⟨k1, k2, rfl, k4⟩
  | any c =>
    cases h1
    unfold uI at hu
    obtain ⟨w, hu⟩ := hu
    have hc : ∀ v, ¬ (match walkD w (b && isPath a) (.cst v) with | some ds => P ds | none => False) := fun v z => by cases w <;> exact z
    have hd : ∀ es, (match walkD w (b && isPath a) (.dic es) with | some ds => P ds | none => False) → b = true := fun es z => by
      cases w with
      | d =>
        cases hb : (b && isPath a) with
        | true => exact (b2 hb).1
        | false => rw [hb] at z; exact (show False from z).elim
      | _ => exact (show False from z).elim
    obtain ⟨k1, k2, k3, k4⟩ := key hc hd hk hu
    refine ⟨k1, k2, ?_, k4⟩
    cases a with
    | nm i =>
      obtain ⟨es, he⟩ := k3 i rfl
      show (match (dl δ i).dat with | some (.dic _) => true | _ => false) = true
      rw [he]
    | fld g b => rfl
    | _ => cases k2
  | _ => cases h1
theorem kf_lock {d : Addr} {kvs : List (Key × V)} {od : Obj} {P : D → Prop} {Q : VK} (k : Ok r Hs H) (e : H d = some (.dK kvs)) (n : r ≠ some d) (kf : Kf r Hs H P Q) : Kf r (lks Hs d (.frz od (.dK kvs))) (upd H d (.frz od (.dK kvs))) P (fun v H' => H' d = some (.frz od (.dK kvs)) ∧ Q v (upd H' d (.dK kvs))) := fun a dd Hs' H' p s o na hn hs w => by
  obtain ⟨h1, h2, h3, h4⟩ := unlock k e n s o
  have had : a ≠ d := fun z => by rw [z, upd_same] at hn; cases hn
  rw [upd_ne had] at hn
  exact ⟨h1, kf a dd _ _ p h2 h3 na hn (by rw [lks_ne had]; exact hs) (w.same h4 (upd_ne had))⟩
theorem kv_lock {d : Addr} {kvs : List (Key × V)} {od : Obj} {P : D → Prop} {Q : VK} (k : Ok r Hs H) (e : H d = some (.dK kvs)) (n : r ≠ some d) (kv : Kv r Hs H P Q) : Kv r (lks Hs d (.frz od (.dK kvs))) (upd H d (.frz od (.dK kvs))) P (fun v H' => H' d = some (.frz od (.dK kvs)) ∧ Q v (upd H' d (.dK kvs))) := fun v dd Hs' H' p s o w => by
  obtain ⟨h1, h2, h3, h4⟩ := unlock k e n s o
  exact ⟨h1, kv v dd _ _ p h2 h3 (w.same h4)⟩
theorem uE_path {a : AE} {P : D → Prop} {X X' : XD} (h : isPath a = true) (hu : uE a δ P X) : uE a δ P X' := by
  cases a with
  | nm i => unfold uE at hu ⊢; exact hu
  | fld g b =>
    cases b with
    | nm i =>
      unfold uE at hu ⊢
      unfold uE at hu ⊢
      exact hu
    | _ => cases h
  | _ => cases h
theorem uI_path {a : AE} {it : AI} {b : Bool} {P : List D → Prop} {X X' : XD} (h : itA it = some a) (hp : isPath a = true) (hu : uI b it δ P X) : uI b it δ P X' := by
  cases it with
  | items c => cases h; unfold uI at hu ⊢; exact uE_path hp hu
  | vals c => cases h; unfold uI at hu ⊢; exact uE_path hp hu
  | keys c => cases h; unfold uI at hu ⊢; exact uE_path hp hu
  | any c => cases h; unfold uI at hu ⊢; obtain ⟨w, hu⟩ := hu; exact ⟨w, uE_path hp hu⟩
  | _ => cases h
theorem lockE_l {b : Bool} {t : TE} {Q : VK} (h : t σ H Q) : lockE b t σ H Q := by
  cases b with
  | true => exact .inl h
  | false => exact h
theorem mut_dK {kvs : List (Key × V)} : Mut (some (.dK kvs)) := trivial
theorem se_lc {b : Bool} {it : AI} {g : AG} {t : AT} {e : AE} {vs : List Nat} (hi : SimI K .wk it) (ht : SimT K t) (he : SE K e) : SE K (.lc b it g t e vs) := .new (fun W me r H0 Hs H σ δ P X Q ok f hk hu kf kx => by
  unfold uE at hu
  unfold hE
  have hk : okL δ (lkI .wk it ++ (lkT t ++ lkM .on e)) = true := hk
  obtain ⟨l1, l2⟩ := okL_app hk
  obtain ⟨l2, l3⟩ := okL_app l2
  rcases lock_split it σ H with fz | ⟨a, d, kvs, h1, h2, ed⟩
  · refine lockE_l (hi b W me r H0 Hs H σ δ _ X _ ok f l1 fz hu (fun J ds Hs1 H1 p s1 o1 hz hw => ?_) kx)
    exact lc_body ht he o1 (f.stp s1) l2 l3 p.1 hz (hw _ (rch_e (f.stp s1))) p.2 (kf.mono s1 o1)
  · obtain ⟨rfl, hp, _, _, n, na⟩ := lock_ap (.inl rfl) ok f h1 h2 ed l1 hu
    refine .inr ⟨d, .dK kvs, ed, mut_dK, fun od => ?_⟩
    have ol : Ok r (lks Hs d (.frz od (.dK kvs))) (upd H d (.frz od (.dK kvs))) := lock_ok ok ed n
    have fl := lock_fit (od := od) ok f ed n na
    refine hi true W me r _ _ _ σ δ _ (fun _ => False) _ ol fl l1 (frz_lock h1 h2 ed) (uI_path h1 hp hu) (fun J ds Hs1 H1 p s1 o1 hz hw => ?_) kx_bot
    exact lc_body ht he o1 (fl.stp s1) l2 l3 p.1 hz (hw _ (rch_e (fl.stp s1))) p.2 ((kf_lock ok ed n kf).mono s1 o1)) (fun m => by cases m <;> rfl)
theorem se_dc {b : Bool} {it : AI} {g : AG} {t : AT} {k e : AE} {vs : List Nat} (hi : SimI K .wk it) (ht : SimT K t) (hkk : SE K k) (he : SE K e) : SE K (.dc b it g t k e vs) := .new (fun W me r H0 Hs H σ δ P X Q ok f hk hu kf kx => by
  unfold uE at hu
  unfold hE
  have hk : okL δ (lkI .wk it ++ (lkT t ++ (lkM .on k ++ lkM .on e))) = true := hk
  obtain ⟨l1, l2⟩ := okL_app hk
  obtain ⟨l2, l3⟩ := okL_app l2
  obtain ⟨l3, l4⟩ := okL_app l3
  rcases lock_split it σ H with fz | ⟨a, d, kvs, h1, h2, ed⟩
  · refine lockE_l (hi b W me r H0 Hs H σ δ _ X _ ok f l1 fz hu (fun J ds Hs1 H1 p s1 o1 hz hw => ?_) kx)
    exact dc_body ht hkk he o1 (f.stp s1) l2 l3 l4 p.1 hz (hw _ (rch_e (f.stp s1))) p.2 (kf.mono s1 o1)
  · obtain ⟨rfl, hp, _, _, n, na⟩ := lock_ap (.inl rfl) ok f h1 h2 ed l1 hu
    refine .inr ⟨d, .dK kvs, ed, mut_dK, fun od => ?_⟩
    have ol : Ok r (lks Hs d (.frz od (.dK kvs))) (upd H d (.frz od (.dK kvs))) := lock_ok ok ed n
    have fl := lock_fit (od := od) ok f ed n na
    refine hi true W me r _ _ _ σ δ _ (fun _ => False) _ ol fl l1 (frz_lock h1 h2 ed) (uI_path h1 hp hu) (fun J ds Hs1 H1 p s1 o1 hz hw => ?_) kx_bot
    exact dc_body ht hkk he o1 (fl.stp s1) l2 l3 l4 p.1 hz (hw _ (rch_e (fl.stp s1))) p.2 ((kf_lock ok ed n kf).mono s1 o1)) (fun m => by cases m <;> rfl)
end
/-! ### all of them -/
section
variable (K : PySem.W.Frag)
mutual
theorem sE : ∀ e, SE K e
  | .nm _ => se_nm
  | .cn _ => se_cn
  | .op _ a b => se_op (sE a) (sE b)
  | .opX _ _ a b => se_opX (sE a) (sE b)
  | .neg a => se_neg (sE a)
  | .nt a => se_nt (sE a)
  | .an a b => se_an (sE a) (sE b)
  | .orE a b => se_or (sE a) (sE b)
  | .ch _ _ a b c => se_ch (sE a) (sE b) (sE c)
  | .ife c a b => se_ife (sT c) (sE a) (sE b)
  | .tup es => se_tup (sA es)
  | .lst es => se_lst (sA es)
  | .dnew => se_dnew
  | .disp ps => se_disp (sR ps)
  | .att _ e => se_att (sE e)
  | .fld _ e => se_fld (sE e)
  | .sl a lo hi => se_sl (sE a) (sA lo) (sA hi)
  | .rev a => se_rev (sE a)
  | .call _ es => se_call (sA es)
  | .callV _ _ es => se_callV (sA es)
  | .meth _ _ o es => se_meth (sE o) (sA es)
  | .callK _ es ks => se_callK (sA es) (sA ks)
  | .methK _ o es ks => se_methK (sE o) (sA es) (sA ks)
  | .lc _ it _ t e _ => se_lc (sI it .wk (.inl rfl)) (sT t) (sE e)
  | .dc _ it _ t k e _ => se_dc (sI it .wk (.inl rfl)) (sT t) (sE k) (sE e)
  | .fmt e => se_fmt (sE e)
  | .fmr e => se_fmr (sE e)
  | .js es => se_js (sA es)
  | .lsI e => se_lsI (sE e)
  | .lsV e => se_lsV (sE e)
theorem sT : ∀ t, SimT K t
  | .yes => st_yes
  | .nt t => st_nt (sT t)
  | .an t u => st_an (sT t) (sT u)
  | .orT t u => st_or (sT t) (sT u)
  | .ife c t u => st_ife (sT c) (sT t) (sT u)
  | .ts e => st_ts (sE e)
  | .tsX _ _ a b => st_tsX (sE a) (sE b)
  | .tr e => st_tr (sE e)
theorem sA : ∀ es, SA K es
  | .nil => sa_nil
  | .cons e es => sa_cons (sE e) (sA es)
theorem sR : ∀ ps, SimR K ps
  | .nil => sr_nil
  | .cons k e r => sr_cons (sE k) (sE e) (sR r)
theorem sI : ∀ it m, (m = .wk ∨ m = .fr) → SimI K m it
  | .rng1 a, _, _ => si_rng1 (sE a)
  | .rng2 a b, _, _ => si_rng2 (sE a) (sE b)
  | .rng3 a b c, _, _ => si_rng3 (sE a) (sE b) (sE c)
  | .enum a, _, h => si_enum h (sE a)
  | .zip a b, _, h => si_zip h (sE a) (sE b)
  | .revd a, _, h => si_revd h (sE a)
  | .items a, _, h => si_items h (sE a)
  | .vals a, _, h => si_vals h (sE a)
  | .keys a, _, h => si_keys h (sE a)
  | .any a, _, h => si_any h (sE a)
end
end
end AS

set_option Elab.async false
set_option linter.all false
set_option maxRecDepth 100000
set_option maxHeartbeats 4000000
/-! P6: the two meanings of statements agree. -/
namespace AS
open PySem PySem.Spec PyProof.Rows L2
structure Inn (me r : Option Addr) (Hs0 H0 Hs H : Hp) (σ : St) (δ : List Sl) : Prop where
  ok : Ok r Hs H
  st : Stp r Hs0 H0 Hs H
  fit : Fit me r H0 Hs H σ δ
/-- what is returned: a new thing, or a shared one -/
def Ret (b : Bool) (r : Option Addr) (H0 Hs H : Hp) (v : V) (d : D) : Prop := match b with
  | true => ∃ a, v = .ref a ∧ r ≠ some a ∧ H0 a = none ∧ Hs a = none ∧ Ow r Hs H a d
  | false => Rp r Hs v d
structure KS (W : WX) (me r : Option Addr) (Hs0 H0 : Hp) (U : UEnds) (E : Ends) : Prop where
  nx : ∀ σ δ Hs H, U.nx δ → Inn me r Hs0 H0 Hs H σ δ → E.nx σ H
  rt : ∀ b v d Hs H, U.rt b d → Stp r Hs0 H0 Hs H → Ok r Hs H → Ret b r H0 Hs H v d → E.rt v H
  xn : ∀ c dx x σ δ Hs H, U.xn δ x → Inn me r Hs0 H0 Hs H σ δ → RpX r Hs c dx x → W c dx σ H
  bk : ∀ σ δ Hs H, U.bk δ → Inn me r Hs0 H0 Hs H σ δ → E.bk σ H
  ct : ∀ σ δ Hs H, U.ct δ → Inn me r Hs0 H0 Hs H σ δ → E.ct σ H
def SimS (K : PySem.W.Frag) (s : AS) : Prop := ∀ (W : WX) (me r : Option Addr) (Hs0 H0 Hs H : Hp) (σ : St) (δ : List Sl) (U : UEnds) (E : Ends), Inn me r Hs0 H0 Hs H σ δ → uS s U δ → KS W me r Hs0 H0 U E → hS K W s E σ H
section
variable {K : PySem.W.Frag} {W : WX} {me r : Option Addr} {Hs0 H0 Hs H Hs1 H1 : Hp} {σ : St} {δ : List Sl} {U : UEnds} {E : Ends}
theorem Inn.stp (i : Inn me r Hs0 H0 Hs H σ δ) (s : Stp r Hs H Hs1 H1) (o : Ok r Hs1 H1) : Inn me r Hs0 H0 Hs1 H1 σ δ := ⟨o, i.st.trans i.ok s, i.fit.stp s⟩
theorem KS.kx (k : KS W me r Hs0 H0 U E) (i : Inn me r Hs0 H0 Hs H σ δ) : Kx r Hs H (U.xn δ) (xw W σ) := fun c dx x Hs' H' p s o q => k.xn c dx x σ δ Hs' H' p (i.stp s o) q
theorem fit_none {a : Addr} (i : Inn me r Hs0 H0 Hs H σ δ) (n : r ≠ some a) (h : H a = none) : H0 a = none := by
  cases e : H0 a with
  | none => rfl
  | some o =>
    rw [i.fit.bs a o n e] at h
    cases h
/-! ### shared from now on -/
theorem Ow.shx {Hs' : Hp} {a : Addr} {d : D} (x : Ext Hs Hs') (h : Ow r Hs H a d) : Ow r Hs' H a d := by
  cases d with
  | lst ds => obtain ⟨xs, h, z, t⟩ := h; exact ⟨xs, h, z, t.ext x⟩
  | dic es => obtain ⟨kvs, h, z, q, t⟩ := h; exact ⟨kvs, h, z, q, t.ext x⟩
  | ins C gs => obtain ⟨dx, fs, h, q, t⟩ := h; exact ⟨dx, fs, h, q, t.ext x⟩
  | _ => exact h.elim
theorem dl_out {δ : List Sl} {i : Nat} : ¬ i < δ.length → dl δ i = .un := by
  induction δ generalizing i with
  | nil => intro _; rfl
  | cons x r ih =>
    intro h
    cases i with
    | zero => exact absurd (Nat.succ_pos _) h
    | succ i => exact ih (fun z => h (Nat.succ_lt_succ z))
theorem Inn.share {i : Nat} {d : D} (n : Inn me r Hs0 H0 Hs H σ δ) (e : dl δ i = .ow d) : ∃ Hs', Inn me r Hs0 H0 Hs' H σ (δ.set i (.sh d)) := by
  have w := n.fit.at_ i
  rw [e] at w
  obtain ⟨a, e1, nr, h0, hs, w⟩ := w
  obtain ⟨o, eo⟩ := w.ex
  have x : Ext Hs (upd Hs a o) := Ext.refl.new hs
  have hi : i < δ.length := by
    by_cases z : i < δ.length
    · exact z
    · rw [dl_out z] at e; cases e
  refine ⟨upd Hs a o, n.ok.share eo nr, ⟨n.st.sh.new hs, n.st.kp, fun b u h1 h2 => ?_⟩, ⟨by rw [List.length_set]; exact n.fit.len, n.fit.bs, fun j => ?_, fun j k hjk h1 h2 => ?_⟩⟩
  · rw [upd_ne (ne_of_none h1 h0)]
    exact n.st.nw b u h1 h2
  · rw [dl_set]
    by_cases hj : j = i
    · rw [if_pos hj, if_pos hi, hj]
      exact ⟨.ref a, e1, w.share n.ok hs eo⟩
    · rw [if_neg hj]
      have q := n.fit.at_ j
      cases z : dl δ j with
      | un => trivial
      | sh d' => rw [z] at q; obtain ⟨v, q1, q2⟩ := q; exact ⟨v, q1, q2.ext x⟩
      | bw d' => rw [z] at q; obtain ⟨v, q1, q2⟩ := q; exact ⟨v, q1, q2.imp (Pk.shx x) fun q => q.ext x⟩
      | ow d' =>
        rw [z] at q
        obtain ⟨b, q1, q2, q3, q4, q5⟩ := q
        have hb : b ≠ a := fun zz => n.fit.ap j i hj (by rw [z]; rfl) (by rw [e]; rfl) (by rw [q1, e1, zz])
        refine ⟨b, q1, q2, q3, by rw [upd_ne hb]; exact q4, ?_⟩
        exact q5.shx x
      | pn d' =>
        rw [z] at q
        obtain ⟨b, q1, qm, q2, q3, q4, q5⟩ := q
        have hb : b ≠ a := fun zz => n.fit.ap j i hj (by rw [z]; rfl) (by rw [e]; rfl) (by rw [q1, e1, zz])
        refine ⟨b, q1, qm, q2, q3, by rw [upd_ne hb]; exact q4, ?_⟩
        exact q5.shx x
  · rw [dl_set] at h1 h2
    by_cases hj : j = i
    · rw [if_pos hj, if_pos hi] at h1; cases h1
    · rw [if_neg hj] at h1
      by_cases hk : k = i
      · rw [if_pos hk, if_pos hi] at h2; cases h2
      · rw [if_neg hk] at h2
        exact n.fit.ap j k hjk h1 h2
theorem Inn.lk1 (p : Nat × Lm) (n : Inn me r Hs0 H0 Hs H σ δ) : ∃ Hs', Inn me r Hs0 H0 Hs' H σ (AS.lk1 δ p) := by
  obtain ⟨i, m⟩ := p
  unfold AS.lk1
  cases e : dl δ i with
  | ow d =>
    cases m with
    | on => simp only [e]; exact n.share e
    | fr => simp only [e]; exact n.share e
    | pk => simp only [e]; exact ⟨Hs, n⟩
    | wk =>
      cases d with
      | dic es => simp only [e]; exact n.share e
      | _ => simp only [e]; exact ⟨Hs, n⟩
  | _ => cases m <;> (simp only [e]; exact ⟨Hs, n⟩)
theorem Inn.lkS : ∀ (L : List (Nat × Lm)) {Hs : Hp} {δ : List Sl}, Inn me r Hs0 H0 Hs H σ δ → ∃ Hs', Inn me r Hs0 H0 Hs' H σ (AS.lkS L δ)
  | [], _, _, n => ⟨_, n⟩
  | p :: L, _, _, n => by
    obtain ⟨_, n'⟩ := n.lk1 p
    exact Inn.lkS L n'
theorem Inn.rdy {L : List (Nat × Lm)} {Q : List Sl → Prop} (n : Inn me r Hs0 H0 Hs H σ δ) (h : AS.rdy L δ Q) : ∃ Hs' δ', Inn me r Hs0 H0 Hs' H σ δ' ∧ okL δ' L = true ∧ Q δ' := by
  obtain ⟨Hs', n'⟩ := n.lkS L
  exact ⟨Hs', _, n', h.1, h.2⟩
theorem lk1_own {p : Nat × Lm} {j : Nat} (h : isOw (dl δ j) = false) : isOw (dl (AS.lk1 δ p) j) = false := by
  obtain ⟨i, m⟩ := p
  have set_ : ∀ d, isOw (dl (δ.set i (.sh d)) j) = false := fun d => by
    rw [dl_set]
    split
    · split <;> rfl
    · exact h
  unfold AS.lk1
  cases e : dl δ i with
  | ow d =>
    cases m with
    | on => simp only [e]; exact set_ _
    | fr => simp only [e]; exact set_ _
    | pk => simp only [e]; exact h
    | wk =>
      cases d with
      | dic es => simp only [e]; exact set_ _
      | _ => simp only [e]; exact h
  | _ => cases m <;> (simp only [e]; exact h)
theorem lkS_keep : ∀ (L : List (Nat × Lm)) {δ : List Sl} {j : Nat}, isOw (dl δ j) = false → isOw (dl (AS.lkS L δ) j) = false
  | [], _, _, h => h
  | p :: L, _, _, h => lkS_keep L (lk1_own h)
theorem lkS_own : ∀ (L : List (Nat × Lm)) {δ : List Sl} {j : Nat}, (j, Lm.on) ∈ L → isOw (dl (AS.lkS L δ) j) = false
  | p :: L, δ, j, h => by
    rcases List.mem_cons.mp h with e | h
    · subst e
      refine lkS_keep L ?_
      unfold AS.lk1
      cases e : dl δ j with
      | ow d =>
        simp only [e]
        rw [dl_set, if_pos rfl]
        split <;> rfl
      | _ => simp only [e]; rfl
    · exact lkS_own L h

/-! ### simple statements -/
theorem ret_gen {e : AE} (n : Inn me r Hs0 H0 Hs H σ δ) (hu : AS.rdy (lkM .on e) δ fun δ => uE e δ (fun d => U.rt (isNew e) d) (U.xn δ)) (k : KS W me r Hs0 H0 U E) : tRet (hE K W e) E σ H := by
  obtain ⟨Hs', δ', n', hk, hu⟩ := n.rdy hu
  refine ret_i ?_
  cases hn : isNew e with
  | true =>
    rw [hn] at hu
    refine (sE K e).F hn W me r H0 Hs' H σ δ' _ _ _ n'.ok n'.fit hk hu (fun a d Hs1 H1 p s o nr hna hs w => ?_) (k.kx n')
    exact k.rt true _ d Hs1 H1 p (n'.stp s o).st o ⟨a, rfl, nr, fit_none n' nr hna, hs, w⟩
  | false =>
    rw [hn] at hu
    refine (sE K e).E W me r H0 Hs' H σ δ' _ _ _ n'.ok n'.fit hk hu (fun v d Hs1 H1 p s o w => ?_) (k.kx n')
    exact k.rt false v d Hs1 H1 p (n'.stp s o).st o w
theorem ss_ret {e : AE} : SimS K (.ret e) := fun W me r Hs0 H0 Hs H σ δ U E n hu k => by
  unfold hS
  cases e with
  | nm i =>
    have hu : (match dl δ i with | .ow d => U.rt true d | _ => AS.rdy [(i, .on)] δ fun δ => uE (.nm i) δ (fun d => U.rt false d) (U.xn δ)) := by
      unfold uS at hu
      exact hu
    cases e : dl δ i with
    | ow d =>
      rw [e] at hu
      have w := n.fit.at_ i
      rw [e] at w
      obtain ⟨a, e1, nr, h0, hs, w⟩ := w
      refine ret_i ?_
      unfold hE
      exact nm_i e1 (k.rt true _ d Hs H hu n.st n.ok ⟨a, rfl, nr, h0, hs, w⟩)
    | un => rw [e] at hu; exact ret_gen n hu k
    | sh d => rw [e] at hu; exact ret_gen n hu k
    | bw d => rw [e] at hu; exact ret_gen n hu k
    | pn d => rw [e] at hu; exact ret_gen n hu k
  | _ => unfold uS at hu; exact ret_gen n hu k
theorem ss_retN : SimS K .retN := fun W me r Hs0 H0 Hs H σ δ U E n hu k => by
  unfold uS at hu
  unfold hS
  exact k.rt false .non .non Hs H hu n.st n.ok .non
theorem ss_drop {e : AE} : SimS K (.drop e) := fun W me r Hs0 H0 Hs H σ δ U E n hu k => by
  unfold uS at hu
  unfold hS
  obtain ⟨Hs', δ', n', hk, hu⟩ := n.rdy hu
  exact (sE K e).E W me r H0 Hs' H σ δ' _ _ _ n'.ok n'.fit hk hu (fun v d Hs1 H1 p s o w => k.nx σ δ' Hs1 H1 p (n'.stp s o)) (k.kx n')
theorem Inn.setS {i : Nat} {v : V} {d : D} (n : Inn me r Hs0 H0 Hs H σ δ) (w : Rp r Hs v d) : Inn me r Hs0 H0 Hs H (σ.set i (some v)) (δ.set i (.sh d)) := ⟨n.ok, n.st, n.fit.setS w⟩
theorem ss_asg {i : Nat} {e : AE} : SimS K (.asg i e) := fun W me r Hs0 H0 Hs H σ δ U E n hu k => by
  unfold uS at hu
  unfold hS
  obtain ⟨Hs', n'⟩ := n.lkS (lkM .on e)
  show hE K W e σ H fun x H1 => E.nx (σ.set i (some x)) H1
  unfold toSl at hu
  cases hk : okL (AS.lkS (lkM .on e) δ) (lkM .on e) with
  | true =>
    rw [hk] at hu
    cases hn : isNew e with
    | true =>
      rw [hn] at hu
      refine (sE K e).F hn W me r H0 Hs' H σ _ _ _ _ n'.ok n'.fit hk hu (fun a d Hs1 H1 p s o nr hna hs w => ?_) (k.kx n')
      exact k.nx _ _ Hs1 H1 p ⟨o, (n'.stp s o).st, n'.fit.setO s nr hna hs w⟩
    | false =>
      rw [hn] at hu
      refine (sE K e).E W me r H0 Hs' H σ _ _ _ _ n'.ok n'.fit hk hu (fun v d Hs1 H1 p s o w => ?_) (k.kx n')
      exact k.nx _ _ Hs1 H1 p ((n'.stp s o).setS w)
  | false =>
    rw [hk] at hu
    refine (sE K e).P W me r H0 Hs' H σ _ _ _ _ n'.ok n'.fit hu.1 hu.2.2 (fun v d Hs1 H1 p s o w => ?_) (k.kx n')
    have n1 := n'.stp s o
    refine k.nx _ _ Hs1 H1 p ⟨o, n1.st, n1.fit.set ⟨v, rfl, ?_⟩ fun j _ _ z => nomatch z⟩
    rcases w with w | ⟨j, h1, h2, _, h4⟩
    · exact .inr w
    · have no := lkS_own (δ := δ) _ (h4 rfl)
      have q := n1.fit.at_ j
      cases z : dl (AS.lkS (lkM .on e) δ) j with
      | un => rw [z] at h2; cases h2
      | ow d' => rw [z] at no; cases no
      | pn d' =>
        have np := List.all_eq_true.mp hu.2.1 _ (h4 rfl)
        simp only [z] at np
        cases np
      | sh d' =>
        rw [z] at q h2
        cases h2
        obtain ⟨u, q1, q2⟩ := q
        rw [h1] at q1
        cases q1
        exact .inr q2
      | bw d' =>
        rw [z] at q h2
        cases h2
        obtain ⟨u, q1, q2⟩ := q
        rw [h1] at q1
        cases q1
        exact q2
theorem ss_asgL {b : Bool} {i : Nat} {it : AI} {g : AG} {t : AT} {e : AE} {vs : List Nat} : SimS K (.asgL b i it g t e vs) := fun W me r Hs0 H0 Hs H σ δ U E n hu k => by
  unfold uS at hu
  unfold hS
  obtain ⟨Hs', δ', n', hk, hu⟩ := n.rdy hu
  have q := (sE K (.lc b it g t e vs)).F rfl W me r H0 Hs' H σ δ' _ _ (fun x H1 => E.nx (σ.set i (some x)) H1) n'.ok n'.fit hk hu (fun a d Hs1 H1 p s o nr hna hs w => k.nx _ _ Hs1 H1 p ⟨o, (n'.stp s o).st, n'.fit.setO s nr hna hs w⟩) (k.kx n')
  unfold hE at q
  cases b with
  | true => exact q
  | false => exact q
theorem ss_asgG {e : AE} {gs : AGs} : SimS K (.asgG e gs) := fun W me r Hs0 H0 Hs H σ δ U E n hu k => by
  unfold uS at hu
  unfold hS
  obtain ⟨Hs', δ', n', hk, hu⟩ := n.rdy hu
  refine (sE K e).E W me r H0 Hs' H σ δ' _ _ _ n'.ok n'.fit hk hu (fun v d Hs1 H1 p s o w => ?_) (k.kx n')
  have n1 := n'.stp s o
  have q := simG (K := K) (.tp gs) w o n1.fit p (M := E.nx) fun σ' δ' h f' _ => k.nx _ _ Hs1 H1 h ⟨o, n1.st, f'⟩
  unfold hG at q
  exact q

/-! ### several at once -/
theorem sl_app : ∀ {σ τ : St} {i : Nat}, sl (σ ++ τ) i = if i < σ.length then sl σ i else sl τ (i - σ.length)
  | [], τ, i => by simp
  | x :: σ, τ, 0 => by simp [sl]
  | x :: σ, τ, i + 1 => by
    show sl (σ ++ τ) i = _
    rw [sl_app]
    simp only [List.length_cons, Nat.add_lt_add_iff_right, Nat.add_sub_add_right]
    rfl
theorem dl_app : ∀ {σ τ : List Sl} {i : Nat}, dl (σ ++ τ) i = if i < σ.length then dl σ i else dl τ (i - σ.length)
  | [], τ, i => by simp
  | x :: σ, τ, 0 => by simp [dl]
  | x :: σ, τ, i + 1 => by
    show dl (σ ++ τ) i = _
    rw [dl_app]
    simp only [List.length_cons, Nat.add_lt_add_iff_right, Nat.add_sub_add_right]
    rfl
theorem sl_out {σ : St} {i : Nat} : ¬ i < σ.length → sl σ i = none := by
  induction σ generalizing i with
  | nil => intro _; rfl
  | cons x r ih =>
    intro h
    cases i with
    | zero => exact absurd (Nat.succ_pos _) h
    | succ i => exact ih (fun z => h (Nat.succ_lt_succ z))
theorem Fit.front {τ : St} {ε : List Sl} (f : Fit me r H0 Hs H (σ ++ τ) (δ ++ ε)) (hl : σ.length = δ.length) : Fit me r H0 Hs H σ δ := by
  have g1 : ∀ i, i < δ.length → sl (σ ++ τ) i = sl σ i ∧ dl (δ ++ ε) i = dl δ i := fun i hi => ⟨by rw [sl_app, if_pos (by omega)], by rw [dl_app, if_pos hi]⟩
  refine ⟨hl, f.bs, fun i => ?_, fun i j hij h1 h2 => ?_⟩
  · by_cases hi : i < δ.length
    · have q := f.at_ i
      rw [(g1 i hi).1, (g1 i hi).2] at q
      exact q
    · rw [dl_out hi]
      trivial
  · have hi : i < δ.length := by
      by_cases z : i < δ.length
      · exact z
      · rw [dl_out z] at h1; cases h1
    have hj : j < δ.length := by
      by_cases z : j < δ.length
      · exact z
      · rw [dl_out z] at h2; cases h2
    have q := f.ap i j hij (by rw [(g1 i hi).2]; exact h1) (by rw [(g1 j hj).2]; exact h2)
    rw [(g1 i hi).1, (g1 j hj).1] at q
    exact q
theorem Fit.push {v : Option V} {x : Sl} (f : Fit me r H0 Hs H σ δ) (h : SlOk me r H0 Hs H v x) (ap : ∀ j, (dl δ j).own = true → x.own = true → sl σ j ≠ v) : Fit me r H0 Hs H (σ ++ [v]) (δ ++ [x]) := by
  have hl := f.len
  refine ⟨by simp [hl], f.bs, fun i => ?_, fun i j hij h1 h2 => ?_⟩
  · rw [sl_app, dl_app, hl]
    by_cases hi : i < δ.length
    · rw [if_pos hi, if_pos hi]
      exact f.at_ i
    · rw [if_neg hi, if_neg hi]
      cases e : i - δ.length with
      | zero => exact h
      | succ k => trivial
  · rw [dl_app] at h1 h2
    rw [sl_app, sl_app, hl]
    by_cases hi : i < δ.length
    · rw [if_pos hi] at h1 ⊢
      by_cases hj : j < δ.length
      · rw [if_pos hj] at h2 ⊢
        exact f.ap i j hij h1 h2
      · rw [if_neg hj] at h2 ⊢
        cases e : j - δ.length with
        | zero => rw [e] at h2; exact ap i h1 h2
        | succ k => rw [e] at h2; cases h2
    · rw [if_neg hi] at h1 ⊢
      cases e : i - δ.length with
      | succ k => rw [e] at h1; cases h1
      | zero =>
        rw [e] at h1
        by_cases hj : j < δ.length
        · rw [if_pos hj] at h2 ⊢
          exact fun z => ap j h2 h1 z.symm
        · rw [if_neg hj] at h2
          cases e2 : j - δ.length with
          | succ k => rw [e2] at h2; cases h2
          | zero => omega
/-- the first of the values at the end goes into slot i -/
theorem Fit.take {i : Nat} {v : Option V} {x : Sl} {τ : St} {ε : List Sl} (f : Fit me r H0 Hs H (σ ++ v :: τ) (δ ++ x :: ε)) (hl : σ.length = δ.length) : Fit me r H0 Hs H (σ.set i v ++ τ) (δ.set i x ++ ε) := by
  have hlen := f.len
  simp only [List.length_append, List.length_cons] at hlen
  -- where slot j of the new slots stood
  have tr : ∀ j, ∃ q, sl (σ.set i v ++ τ) j = sl (σ ++ v :: τ) q ∧ dl (δ.set i x ++ ε) j = dl (δ ++ x :: ε) q ∧ (q = if j < δ.length then (if j = i then δ.length else j) else j + 1) := fun j => by
    refine ⟨_, ?_, ?_, rfl⟩
    · rw [sl_app, sl_app, List.length_set, hl]
      by_cases hj : j < δ.length
      · rw [if_pos hj, if_pos hj, sl_sets, hl]
        by_cases hi : j = i
        · have hii : i < δ.length := by omega
          rw [if_pos hi, if_pos hii, if_pos hi, if_neg (Nat.lt_irrefl _), Nat.sub_self]
          rfl
        · rw [if_neg hi, if_neg hi, if_pos hj]
      · rw [if_neg hj, if_neg hj, if_neg (by omega), show j + 1 - δ.length = (j - δ.length) + 1 by omega]
        rfl
    · rw [dl_app, dl_app, List.length_set]
      by_cases hj : j < δ.length
      · rw [if_pos hj, if_pos hj, dl_set]
        by_cases hi : j = i
        · have hii : i < δ.length := by omega
          rw [if_pos hi, if_pos hii, if_pos hi, if_neg (Nat.lt_irrefl _), Nat.sub_self]
          rfl
        · rw [if_neg hi, if_neg hi, if_pos hj]
      · rw [if_neg hj, if_neg hj, if_neg (by omega), show j + 1 - δ.length = (j - δ.length) + 1 by omega]
        rfl
  refine ⟨by simp only [List.length_append, List.length_set]; omega, f.bs, fun j => ?_, fun j k hjk h1 h2 => ?_⟩
  · obtain ⟨q, e1, e2, _⟩ := tr j
    rw [e1, e2]
    exact f.at_ q
  · obtain ⟨q, e1, e2, e3⟩ := tr j
    obtain ⟨p, g1, g2, g3⟩ := tr k
    rw [e1, g1]
    rw [e2] at h1
    rw [g2] at h2
    refine f.ap q p (fun z => hjk ?_) h1 h2
    rw [e3, g3] at z
    split at z
    · split at z
      · split at z
        · split at z
          · omega
          · omega
        · omega
      · split at z
        · split at z
          · omega
          · omega
        · omega
    · split at z
      · split at z
        · omega
        · omega
      · omega
/-- values, each with whether it is new -/
theorem simN {P : List (Bool × D) → Prop} {X : XD} : ∀ (es : AA) {Q : List V → Hp → Prop} {P : List (Bool × D) → Prop} {τ : St} {ε : List Sl} {Hs H : Hp}, Ok r Hs H → Fit me r H0 Hs H (σ ++ τ) (δ ++ ε) → σ.length = δ.length → okL δ (lkA .on es) = true → uN es δ P X →
    (∀ vs bds Hs' H', P bds → Stp r Hs H Hs' H' → Ok r Hs' H' → Fit me r H0 Hs' H' (σ ++ (τ ++ vs.map some)) (δ ++ (ε ++ bds.map fun p => nw p.1 p.2)) → vs.length = bds.length → Q vs H') → Kx r Hs H X (xw W σ) → hA K W es σ H Q
  | .nil, Q, P, τ, ε, Hs, H, ok, f, hl, hk, hu, k, kx => by
    unfold uN at hu
    unfold hA
    exact nil_i (k [] [] Hs H hu .refl ok (by simpa using f) rfl)
  | .cons e es, Q, P, τ, ε, Hs, H, ok, f, hl, hk, hu, k, kx => by
    unfold uN at hu
    unfold hA
    unfold lkA at hk
    obtain ⟨la, lb⟩ := okL_app hk
    have f0 := f.front hl
    refine cons_i ?_
    cases hn : isNew e with
    | true =>
      refine (sE K e).F hn W me r H0 Hs H σ δ _ X _ ok f0 la hu (fun a d Hs1 H1 p s o nr hna hs w => ?_) kx
      have f1 : Fit me r H0 Hs1 H1 (σ ++ τ ++ [some (.ref a)]) (δ ++ ε ++ [.ow d]) := by
        refine (f.stp s).push ⟨a, rfl, nr, ?_, hs, w⟩ fun j h1 _ ej => ?_
        · cases z : H0 a with
          | none => rfl
          | some o => rw [f.bs a o nr z] at hna; cases hna
        · obtain ⟨⟨o, eo⟩, _⟩ := f.ow_at h1 ej
          rw [hna] at eo
          cases eo
      rw [List.append_assoc, List.append_assoc] at f1
      refine simN (P := P) (X := X) es o f1 hl lb p (fun vs bds Hs2 H2 p2 s2 o2 f2 hv => ?_) (kx.mono s o)
      refine k (.ref a :: vs) ((isNew e, d) :: bds) Hs2 H2 p2 (s.trans o s2) o2 ?_ (by simp [hv])
      rw [hn]
      simpa [List.append_assoc, nw] using f2
    | false =>
      refine (sE K e).E W me r H0 Hs H σ δ _ X _ ok f0 la hu (fun v d Hs1 H1 p s o w => ?_) kx
      have f1 : Fit me r H0 Hs1 H1 (σ ++ τ ++ [some v]) (δ ++ ε ++ [.sh d]) := (f.stp s).push ⟨v, rfl, w⟩ fun j _ z => nomatch z
      rw [List.append_assoc, List.append_assoc] at f1
      refine simN (P := P) (X := X) es o f1 hl lb p (fun vs bds Hs2 H2 p2 s2 o2 f2 hv => ?_) (kx.mono s o)
      refine k (v :: vs) ((isNew e, d) :: bds) Hs2 H2 p2 (s.trans o s2) o2 ?_ (by simp [hv])
      rw [hn]
      simpa [List.append_assoc, nw] using f2
end
end AS

set_option Elab.async false
set_option linter.all false
set_option maxRecDepth 100000
set_option maxHeartbeats 4000000
/-! P7: the two meanings of statements agree: stores, loops; all of them. -/
namespace AS
open PySem PySem.Spec PyProof.Rows L2
section
variable {K : PySem.W.Frag} {W : WX} {me r : Option Addr} {Hs0 H0 Hs H Hs1 H1 : Hp} {σ : St} {δ : List Sl} {U : UEnds} {E : Ends}
theorem simN0 {X : XD} {es : AA} {Q : List V → Hp → Prop} {P : List (Bool × D) → Prop} (n : Inn me r Hs0 H0 Hs H σ δ) (hk : okL δ (lkA .on es) = true) (hu : uN es δ P X)
    (k : ∀ vs bds Hs' H', P bds → Stp r Hs H Hs' H' → Ok r Hs' H' → Fit me r H0 Hs' H' (σ ++ vs.map some) (δ ++ bds.map fun p => nw p.1 p.2) → vs.length = bds.length → Q vs H') (kx : Kx r Hs H X (xw W σ)) : hA K W es σ H Q := by
  refine simN (P := fun _ => True) (X := X) es (τ := []) (ε := []) n.ok (by simpa using n.fit) n.fit.len hk hu (fun vs bds Hs' H' p s o f hv => k vs bds Hs' H' p s o (by simpa using f) hv) kx
theorem ss_par {i j : Nat} {a b : AE} : SimS K (.par i j a b) := fun W me r Hs0 H0 Hs H σ δ U E n hu k => by
  unfold uS at hu
  unfold hS
  obtain ⟨Hs', δ', n', hk, hu⟩ := n.rdy hu
  refine par_i ?_
  have q := simN0 (K := K) (W := W) (es := .cons a (.cons b .nil)) (P := fun bds => match bds with | [(p, x), (q, y)] => U.nx ((δ'.set i (nw p x)).set j (nw q y)) | _ => False) (Q := fun vs H1 => ∃ v w, vs = [v, w] ∧ E.nx ((σ.set i (some v)).set j (some w)) H1) n'
    (by unfold lkA lkA lkA; simpa using hk) (X := U.xn δ') (by simp only [uN]; exact hu) (fun vs bds Hs1 H1 p s o f hv => ?_) (k.kx n')
  · unfold hA hA hA at q
    exact q
  · match bds, p with
    | [(p, x), (q, y)], pp =>
      match vs, hv with
      | [v, w], _ =>
        refine ⟨v, w, rfl, k.nx _ _ Hs1 H1 pp ⟨o, (n'.stp s o).st, ?_⟩⟩
        have f1 := Fit.take (i := i) f n'.fit.len
        have f2 := Fit.take (i := j) f1 (by rw [List.length_set, List.length_set]; exact n'.fit.len)
        simpa using f2
theorem ss_par3 {i j l : Nat} {a b c : AE} : SimS K (.par3 i j l a b c) := fun W me r Hs0 H0 Hs H σ δ U E n hu k => by
  unfold uS at hu
  unfold hS
  obtain ⟨Hs', δ', n', hk, hu⟩ := n.rdy hu
  refine par3_i ?_
  have q := simN0 (K := K) (W := W) (es := .cons a (.cons b (.cons c .nil))) (P := fun bds => match bds with | [(p, x), (q, y), (s, z)] => U.nx (((δ'.set i (nw p x)).set j (nw q y)).set l (nw s z)) | _ => False) (Q := fun vs H1 => ∃ u v w, vs = [u, v, w] ∧ E.nx (((σ.set i (some u)).set j (some v)).set l (some w)) H1) n'
    (by unfold lkA lkA lkA lkA; simpa using hk) (X := U.xn δ') (by simp only [uN]; exact hu) (fun vs bds Hs1 H1 p s o f hv => ?_) (k.kx n')
  · unfold hA hA hA hA at q
    exact q
  · match bds, p with
    | [(p, x), (q, y), (t, z)], pp =>
      match vs, hv with
      | [u, v, w], _ =>
        refine ⟨u, v, w, rfl, k.nx _ _ Hs1 H1 pp ⟨o, (n'.stp s o).st, ?_⟩⟩
        have f1 := Fit.take (i := i) f n'.fit.len
        have f2 := Fit.take (i := j) f1 (by rw [List.length_set, List.length_set]; exact n'.fit.len)
        have f3 := Fit.take (i := l) f2 (by rw [List.length_set, List.length_set, List.length_set, List.length_set]; exact n'.fit.len)
        simpa using f3
theorem Fit.mono2 {p : Addr} {o : HO} (f : Fit me r H0 Hs H σ δ) (hp : H p = none) : Fit me r H0 Hs (upd H p o) σ δ := f.stp (.own hp)
theorem takeAll {D' : Ends} {N : St → Hp → Prop} : ∀ (is : List Nat) (vs : List V) (bds : List (Bool × D)) {σ : St} {δ : List Sl} {l : List (Nat × Bool × D)}, zipN is bds = some l → vs.length = bds.length → σ.length = δ.length → Fit me r H0 Hs H (σ ++ vs.map some) (δ ++ bds.map fun p => nw p.1 p.2) → (∀ σ', Fit me r H0 Hs H σ' (setAll l δ) → N σ' H) → nmsG is vs σ H N
  | [], vs, [], σ, δ, l, h, hv, hl, f, k => by
    cases h
    match vs, hv with
    | [], _ => exact ⟨rfl, k σ (by simpa [setAll] using f)⟩
  | i :: is, vs, (b, d) :: bds, σ, δ, l, h, hv, hl, f, k => by
    match vs, hv with
    | v :: vs, hv =>
      have h : (zipN is bds).map ((i, b, d) :: ·) = some l := h
      cases e : zipN is bds with
      | none => rw [e] at h; cases h
      | some l' =>
        rw [e] at h
        cases h
        refine ⟨v, vs, rfl, ?_⟩
        have f1 := Fit.take (i := i) (v := some v) (x := nw b d) (τ := vs.map some) (ε := bds.map fun p => nw p.1 p.2) f hl
        exact takeAll (D' := D') is vs bds e (by simpa using hv) (by rw [List.length_set, List.length_set]; exact hl) f1 k
  | [], vs, _ :: _, σ, δ, l, h, hv, hl, f, k => by cases h
  | _ :: _, vs, [], σ, δ, l, h, hv, hl, f, k => by cases h
theorem zipN_len : ∀ {is : List Nat} {bds : List (Bool × D)} {l : List (Nat × Bool × D)}, zipN is bds = some l → bds.length = is.length
  | [], [], _, _ => rfl
  | [], _ :: _, _, h => by cases h
  | _ :: _, [], _, h => by cases h
  | i :: is, b :: bds, l, h => by
    have h : (zipN is bds).map ((i, b) :: ·) = some l := h
    cases e : zipN is bds with
    | none => rw [e] at h; cases h
    | some l' => rw [List.length_cons, List.length_cons, zipN_len e]
theorem ss_asgT {es : AA} {is : List Nat} : SimS K (.asgT es is) := fun W me r Hs0 H0 Hs H σ δ U E n hu k => by
  unfold uS at hu
  unfold hS
  obtain ⟨Hs', δ', n', hk, hu⟩ := n.rdy hu
  show hA K W es σ H fun xs H1 => xs.length ≤ sizeLine ∧ ∀ p, H1 p = none → oG (gTup K is.length (nmsG is)) (gLst K is.length (nmsG is)) (.ref p) σ (upd H1 p (.tup xs)) E.nx
  refine simN0 n' hk hu (fun vs bds Hs1 H1 p s o f hv => ⟨by rw [hv]; exact p.1, fun q hq => ?_⟩) (k.kx n')
  cases e : zipN is bds with
  | none =>
    have p2 := p.2
    rw [e] at p2
    exact p2.elim
  | some l =>
    have p2 := p.2
    rw [e] at p2
    have n1 := n'.stp s o
    have s2 : Stp r Hs1 H1 Hs1 (upd H1 q (.tup vs)) := .own hq
    have o2 : Ok r Hs1 (upd H1 q (.tup vs)) := o.own (o.nn hq) (o.ner' hq)
    refine .inl ⟨q, vs, rfl, .inl (.inl upd_same), by rw [hv]; exact zipN_len e, ?_⟩
    exact takeAll (D' := E) is vs bds e hv n'.fit.len (f.stp s2) fun σ' f' => k.nx σ' _ Hs1 _ p2 ⟨o2, n1.st.trans o s2, f'⟩

/-! ### stores -/
theorem Inn.writeX {i : Nat} {a : Addr} {s' : Sl} {o : HO} (n : Inn me r Hs0 H0 Hs H σ δ) (e : (dl δ i).own = true) (hs : sl σ i = some (.ref a)) (w : r ≠ some a → H0 a = none → Hs a = none → SlOk me r H0 Hs (upd H a o) (some (.ref a)) s') : Inn me r Hs0 H0 Hs (upd H a o) σ (δ.set i s') := by
  obtain ⟨⟨u, hu⟩, hsn, h0, nr⟩ := n.fit.ow_at (j := i) e hs
  have hi : i < δ.length := by
    by_cases z : i < δ.length
    · exact z
    · rw [dl_out z] at e; cases e
  have w := w nr h0 hsn
  refine ⟨n.ok.own hsn nr, ⟨n.st.sh, fun b x nb hb => by rw [upd_ne (ne_of_none hb h0)]; exact n.st.kp b x nb hb, n.st.nw⟩, ⟨by rw [List.length_set]; exact n.fit.len, fun b x nb hb => by rw [upd_ne (ne_of_none hb h0)]; exact n.fit.bs b x nb hb, fun j => ?_, fun j k hjk h1 h2 => ?_⟩⟩
  · rw [dl_set]
    by_cases hj : j = i
    · rw [if_pos hj, if_pos hi, hj, hs]
      exact w
    · rw [if_neg hj]
      have q := n.fit.at_ j
      cases z : dl δ j with
      | un => trivial
      | sh d' => rw [z] at q; exact q
      | bw d' => rw [z] at q; exact q
      | ow d' =>
        rw [z] at q
        obtain ⟨b, q1, q2, q3, q4, q5⟩ := q
        have hb : b ≠ a := fun zz => n.fit.ap j i hj (by rw [z]; rfl) e (by rw [q1, hs, zz])
        exact ⟨b, q1, q2, q3, q4, q5.same (fun b o e => .inl e) (upd_ne hb)⟩
      | pn d' =>
        rw [z] at q
        obtain ⟨b, q1, qm, q2, q3, q4, q5⟩ := q
        have hb : b ≠ a := fun zz => n.fit.ap j i hj (by rw [z]; rfl) e (by rw [q1, hs, zz])
        exact ⟨b, q1, qm, q2, q3, q4, q5.same (fun b o e => .inl e) (upd_ne hb)⟩
  · have own_ : ∀ k, (dl (δ.set i s') k).own = true → (dl δ k).own = true := fun k hk => by
      rw [dl_set] at hk
      by_cases hki : k = i
      · rw [hki]; exact e
      · rw [if_neg hki] at hk; exact hk
    exact n.fit.ap j k hjk (own_ j h1) (own_ k h2)
theorem Inn.write {i : Nat} {a : Addr} {d d' : D} {o : HO} (n : Inn me r Hs0 H0 Hs H σ δ) (e : dl δ i = .ow d) (hs : sl σ i = some (.ref a)) (w : Ow r Hs (upd H a o) a d') : Inn me r Hs0 H0 Hs (upd H a o) σ (δ.set i (.ow d')) :=
  n.writeX (by rw [e]; rfl) hs fun nr h0 hsn => ⟨a, rfl, nr, h0, hsn, w⟩
theorem ss_put {i : Nat} {kx e : AE} : SimS K (.put i kx e) := fun W me r Hs0 H0 Hs H σ δ U E n hu k => by
  unfold uS at hu
  unfold hS
  obtain ⟨Hs', δ', n', hk, hu⟩ := n.rdy hu
  obtain ⟨la, lb⟩ := okL_app hk
  show hE K W e σ H fun x H1 => tNm i σ H1 fun ov H2 => hE K W kx σ H2 fun iv H3 => putR ov iv x H3 fun H4 => E.nx σ H4
  refine (sE K e).E W me r H0 Hs' H σ δ' _ _ _ n'.ok n'.fit la hu (fun x dx Hs1 H1 p1 s1 o1 rx => ?_) (k.kx n')
  have n1 := n'.stp s1 o1
  cases hi : dl δ' i with
  | ow d =>
    have w := n1.fit.at_ i
    rw [hi] at w
    obtain ⟨a, ea, nr, h0, hs, w⟩ := w
    refine nm_i ea ?_
    refine (sE K kx).E W me r H0 Hs1 H1 σ δ' _ _ _ n1.ok n1.fit lb p1.2 (fun y dy Hs2 H2 p2 s2 o2 ry => ?_) (k.kx n1)
    have n2 := n1.stp s2 o2
    have w2 := w.stp s2 nr
    rw [hi] at p2
    cases d with
    | dic es =>
      obtain ⟨kvs, h1, z, h2, h3⟩ := w2
      cases ek : keyD dy with
      | none =>
        have p2 : (match keyD dy with | some k => es.length < sizeLine ∧ U.nx (δ'.set i (.ow (.dic (putD es k dx)))) | none => False) := p2
        rw [ek] at p2
        exact p2.elim
      | some kk =>
        have p2 : (match keyD dy with | some k => es.length < sizeLine ∧ U.nx (δ'.set i (.ow (.dic (putD es k dx)))) | none => False) := p2
        rw [ek] at p2
        cases key_kV ry ek
        refine put_dic (DPut.k h1 (by rw [kv_len h2]; exact p2.1)) (k.nx _ _ Hs2 _ p2.2 ?_)
        obtain ⟨i1, i2⟩ := put_rep (k := kk) (rx.ext s2.sh) h2 h3
        refine n2.write hi ea ⟨_, upd_same, ?_, i1, i2⟩
        have := putD_len es kk dx
        omega
    | lst ds =>
      obtain ⟨xs, h1, z, h2⟩ := w2
      cases dy with
      | int j =>
        have p2 : (match ixN ds.length j with | some q => U.nx (δ'.set i (.ow (.lst (ds.set q dx)))) | none => False) := p2
        cases eq : ixN ds.length j with
        | none => rw [eq] at p2; exact p2.elim
        | some q =>
          rw [eq] at p2
          cases ry
          refine put_lst h1 (by rw [h2.len]; exact eq) (k.nx _ _ Hs2 _ p2 (n2.write hi ea ⟨_, upd_same, by rw [List.length_set]; exact z, Rps.set (rx.ext s2.sh) q h2⟩))
      | _ => exact (show False from p2).elim
    | _ => exact (show False from p2).elim
  | _ => rw [hi] at p1; cases p1.1
theorem ss_app {i : Nat} {e : AE} : SimS K (.app i e) := fun W me r Hs0 H0 Hs H σ δ U E n hu k => by
  unfold uS at hu
  unfold hS
  obtain ⟨Hs', δ', n', hk, ho, hu⟩ := n.rdy hu
  show tNm i σ H fun x H1 => tyV K "list" x H1 ∧ hE K W e σ H1 fun y H2 => rAppend x [y] H2 fun _ H3 => E.nx σ H3
  cases hi : dl δ' i with
  | ow d =>
    have w := n'.fit.at_ i
    rw [hi] at w
    obtain ⟨a, ea, nr, h0, hs, w⟩ := w
    refine nm_i ea ⟨?_, ?_⟩
    · cases d with
      | lst ds => obtain ⟨xs, h1, _⟩ := w; exact .inl ⟨rfl, xs, .inl (.inl h1)⟩
      | _ => rw [hi] at ho; cases ho
    · refine (sE K e).E W me r H0 Hs' H σ δ' _ _ _ n'.ok n'.fit hk hu (fun x dx Hs1 H1 p1 s1 o1 rx => ?_) (k.kx n')
      have n1 := n'.stp s1 o1
      rw [hi] at p1
      cases d with
      | lst ds =>
        obtain ⟨xs, h1, z, h2⟩ := w.stp s1 nr
        refine ⟨a, xs, x, rfl, rfl, h1, by rw [h2.len]; exact p1.1, k.nx _ _ Hs1 _ p1.2 (n1.write hi ea ⟨_, upd_same, ?_, h2.app (.cons rx .nil)⟩)⟩
        rw [List.length_append]
        exact p1.1
      | _ => exact (show False from p1).elim
  | _ => rw [hi] at ho; cases ho
theorem putF_names (f : Str) (v : V) (d : D) : ∀ {fs : List (Str × V)} {gs : List (Str × D)}, fs.map (·.1) = gs.map (·.1) → Rp r Hs v d → Rps r Hs (fs.map (·.2)) (gs.map (·.2)) → (putF f v fs).map (·.1) = (setFD f d gs).map (·.1) ∧ Rps r Hs ((putF f v fs).map (·.2)) ((setFD f d gs).map (·.2))
  | [], [], _, hv, _ => ⟨rfl, .cons hv .nil⟩
  | [], _ :: _, h, _, _ => by cases h
  | _ :: _, [], h, _, _ => by cases h
  | (p1, p2) :: ps, (q1, q2) :: qs, h, hv, ht => by
    rw [List.map_cons, List.map_cons] at h ht
    obtain ⟨e1, e2⟩ := List.cons.inj h
    have e1 : p1 = q1 := e1
    subst e1
    cases ht with
    | cons r1 r2 =>
      show ((if p1 = f then (p1, v) :: ps else (p1, p2) :: putF f v ps)).map (·.1) = ((if p1 = f then (p1, d) :: qs else (p1, q2) :: setFD f d qs)).map (·.1) ∧ Rps r Hs (((if p1 = f then (p1, v) :: ps else (p1, p2) :: putF f v ps)).map (·.2)) (((if p1 = f then (p1, d) :: qs else (p1, q2) :: setFD f d qs)).map (·.2))
      by_cases hf : p1 = f
      · rw [if_pos hf, if_pos hf]
        exact ⟨by rw [List.map_cons, List.map_cons, e2], .cons hv r2⟩
      · rw [if_neg hf, if_neg hf]
        obtain ⟨i1, i2⟩ := putF_names f v d e2 hv r2
        exact ⟨by rw [List.map_cons, List.map_cons, i1], .cons r1 i2⟩
theorem ss_sat {f : Sf} {i : Nat} {e : AE} : SimS K (.sat f i e) := fun W me r Hs0 H0 Hs H σ δ U E n hu k => by
  unfold uS at hu
  unfold hS
  obtain ⟨Hs', δ', n', hk, hu⟩ := n.rdy hu
  show hE K W e σ H fun y H1 => tNm i σ H1 fun x H2 => f.r x y H2 fun H3 => E.nx σ H3
  refine (sE K e).E W me r H0 Hs' H σ δ' _ _ _ n'.ok n'.fit hk hu (fun x dx Hs1 H1 p1 s1 o1 rx => ?_) (k.kx n')
  have n1 := n'.stp s1 o1
  cases hi : dl δ' i with
  | ow d =>
    have w := n1.fit.at_ i
    rw [hi] at w p1
    obtain ⟨a, ea, nr, h0, hs, w⟩ := w
    refine nm_i ea ?_
    cases d with
    | ins C gs =>
      obtain ⟨ad, fs, h1, h2, h3⟩ := w
      obtain ⟨p1, p2, p3⟩ := p1
      have hl : fs.length = gs.length := by simpa using congrArg List.length h2
      obtain ⟨i1, i2⟩ := putF_names f.f x dx h2 rx h3
      exact f.ok a C ad fs x H1 _ p1 h1 (by omega) (k.nx _ _ Hs1 _ p3 (n1.write hi ea ⟨ad, _, upd_same, i1, i2⟩))
    | _ => exact (show False from p1).elim
  | pn d =>
    have w := n1.fit.at_ i
    rw [hi] at w p1
    obtain ⟨a, ea, em, nr, h0, hs, w⟩ := w
    refine nm_i ea ?_
    cases d with
    | ins C gs =>
      obtain ⟨ad, fs, h1, h2, h3⟩ := w
      obtain ⟨p1, p2, p3⟩ := p1
      have hl : fs.length = gs.length := by simpa using congrArg List.length h2
      obtain ⟨i1, i2⟩ := putF_names f.f x dx h2 rx h3
      exact f.ok a C ad fs x H1 _ p1 h1 (by omega) (k.nx _ _ Hs1 _ p3 (n1.writeX (by rw [hi]; rfl) ea fun _ _ _ => ⟨a, rfl, em, nr, h0, hs, ⟨ad, _, upd_same, i1, i2⟩⟩))
    | _ => exact (show False from p1).elim
  | _ => rw [hi] at p1; exact (show False from p1).elim
theorem ss_next : SimS K .next := fun W me r Hs0 H0 Hs H σ δ U E n hu k => by
  unfold uS at hu
  unfold hS
  exact k.nx σ δ Hs H hu n
theorem ss_brk : SimS K .brk := fun W me r Hs0 H0 Hs H σ δ U E n hu k => by
  unfold uS at hu
  unfold hS
  exact k.bk σ δ Hs H hu n
theorem ss_cont : SimS K .cont := fun W me r Hs0 H0 Hs H σ δ U E n hu k => by
  unfold uS at hu
  unfold hS
  exact k.ct σ δ Hs H hu n
theorem ss_nos : SimS K .nos := fun W me r Hs0 H0 Hs H σ δ U E n hu k => by
  unfold uS at hu
  exact hu.elim
theorem ss_seq {s t : AS} (hs : SimS K s) (ht : SimS K t) : SimS K (.seq s t) := fun W me r Hs0 H0 Hs H σ δ U E n hu k => by
  unfold uS at hu
  unfold hS
  exact seq_i (hs W me r Hs0 H0 Hs H σ δ _ _ n hu ⟨fun σ' δ' Hs' H' p n' => ht W me r Hs0 H0 Hs' H' σ' δ' U E n' p k, k.rt, k.xn, k.bk, k.ct⟩)
theorem ss_ifs {c : AT} {s t : AS} (hs : SimS K s) (ht : SimS K t) : SimS K (.ifs c s t) := fun W me r Hs0 H0 Hs H σ δ U E n hu k => by
  unfold uS at hu
  unfold hS
  obtain ⟨Hs', δ', n', hk, hu⟩ := n.rdy hu
  refine ifS_i (sT K c W me r H0 Hs' H σ δ' _ _ _ n'.ok n'.fit hk hu (fun b Hs1 H1 p s1 o1 => ?_) (k.kx n'))
  have n1 := n'.stp s1 o1
  cases b with
  | true => exact iteT (hs W me r Hs0 H0 Hs1 H1 σ δ' U E n1 p k)
  | false => exact iteF (ht W me r Hs0 H0 Hs1 H1 σ δ' U E n1 p k)
theorem ss_whl {c : AT} {s : AS} (hs : SimS K s) : SimS K (.whl c s) := fun W me r Hs0 H0 Hs H σ δ U E n hu k => by
  unfold uS at hu
  unfold hS
  obtain ⟨m, hu⟩ := hu
  refine ⟨fun m σ H => ∃ Hs δ, Inn me r Hs0 H0 Hs H σ δ ∧ whlU (fun δ P => okL δ (lkT c) = true ∧ uT c δ P (U.xn δ)) (fun δ N => uS s { nx := N, rt := U.rt, xn := U.xn, bk := U.nx, ct := N } δ) U.nx m δ, ⟨m, Hs, δ, n, hu⟩, fun m σ H ⟨Hs, δ, n, hu⟩ => ?_⟩
  cases m with
  | zero => exact (show False from hu).elim
  | succ m =>
    obtain ⟨hk, hu⟩ := hu
    refine sT K c W me r H0 Hs H σ δ _ _ _ n.ok n.fit hk hu (fun b Hs1 H1 p s1 o1 => ?_) (k.kx n)
    have n1 := n.stp s1 o1
    cases b with
    | true =>
      refine iteT ⟨fun σ' H' => ∃ Hs' δ', Inn me r Hs0 H0 Hs' H' σ' δ' ∧ whlU (fun δ P => okL δ (lkT c) = true ∧ uT c δ P (U.xn δ)) (fun δ N => uS s { nx := N, rt := U.rt, xn := U.xn, bk := U.nx, ct := N } δ) U.nx m δ', fun σ' H' q => ⟨m, Nat.lt_succ_self _, q⟩, ?_⟩
      exact hs W me r Hs0 H0 Hs1 H1 σ δ _ _ n1 p ⟨fun σ' δ' Hs' H' p n' => ⟨Hs', δ', n', p⟩, k.rt, k.xn, k.nx, fun σ' δ' Hs' H' p n' => ⟨Hs', δ', n', p⟩⟩
    | false => exact iteF (k.nx σ δ Hs1 H1 p n1)

/-! ### for -/
/-- seen from a later shared part -/
theorem Inn.rebase (n : Inn me r Hs0 H0 Hs H σ δ) : Inn me r Hs H0 Hs H σ δ := ⟨n.ok, ⟨Ext.refl, n.st.kp, fun _ _ _ e => e⟩, n.fit⟩
theorem stp_back (a : Stp r Hs0 H0 Hs H) (b : Stp r Hs H0 Hs1 H1) : Stp r Hs0 H0 Hs1 H1 := ⟨a.sh.trans b.sh, b.kp, fun c o h1 h2 => b.nw c o h1 (a.nw c o h1 h2)⟩
theorem Inn.back {Hs2 H2 : Hp} {σ' : St} {δ' : List Sl} (a : Stp r Hs0 H0 Hs H) (n : Inn me r Hs H0 Hs2 H2 σ' δ') : Inn me r Hs0 H0 Hs2 H2 σ' δ' := ⟨n.ok, stp_back a n.st, n.fit⟩
theorem KS.rebase (k : KS W me r Hs0 H0 U E) (a : Stp r Hs0 H0 Hs H) : KS W me r Hs H0 U E := ⟨fun σ' δ' Hs' H' p n => k.nx σ' δ' Hs' H' p (n.back a), fun b v d Hs' H' p s o q => k.rt b v d Hs' H' p (stp_back a s) o q, fun c dx x σ' δ' Hs' H' p n q => k.xn c dx x σ' δ' Hs' H' p (n.back a) q,
  fun σ' δ' Hs' H' p n => k.bk σ' δ' Hs' H' p (n.back a), fun σ' δ' Hs' H' p n => k.ct σ' δ' Hs' H' p (n.back a)⟩
theorem for_body {J : It} {g : AG} {s : AS} {ds : List D} {xn : List Sl → D → Prop} (hs : SimS K s) (n : Inn me r Hs H0 Hs H σ δ) (hw : Walk r (fun Hs' H' => Stp r Hs H0 Hs' H') J ds) (hu : forU (fun x δ N => uG g x δ fun δ => uS s { nx := N, rt := U.rt, xn := xn, bk := U.nx, ct := N } δ) U.nx ds δ)
    (kx : ∀ δ x, xn δ x → U.xn δ x) (k : KS W me r Hs H0 U E) : ∃ Wv : Nat → Nat → St → Hp → Prop, (∃ m, Wv 0 m σ H) ∧ ∀ i m σ H, Wv i m σ H →
      (J.stop i H ∧ E.nx σ H) ∨ (J.go i H ∧ ∃ N : St → Hp → Prop, (∀ σ' H', N σ' H' → ∃ m', m' < m ∧ Wv (i + 1) m' σ' H') ∧ ∀ x H', J.yld i H x H' → hG K g x σ H' fun σ2 H2 => hS K W s { E with nx := N, ct := N, bk := E.nx } σ2 H2) := by
  refine ⟨fun i m σ' H' => i ≤ ds.length ∧ m = ds.length - i ∧ ∃ Hs' δ', Inn me r Hs H0 Hs' H' σ' δ' ∧ forU (fun x δ N => uG g x δ fun δ => uS s { nx := N, rt := U.rt, xn := xn, bk := U.nx, ct := N } δ) U.nx (ds.drop i) δ', ⟨ds.length, Nat.zero_le _, rfl, Hs, δ, n, hu⟩, fun i m σ1 H1 ⟨hi, hm, Hs1, δ1, n1, u1⟩ => ?_⟩
  by_cases hn : i = ds.length
  · subst hn
    rw [List.drop_length] at u1
    exact .inl ⟨(hw Hs1 H1 n1.st n1.ok).2, k.nx σ1 δ1 Hs1 H1 u1 n1⟩
  · have lt : i < ds.length := by omega
    rw [List.drop_eq_getElem_cons lt] at u1
    obtain ⟨hgo, hy⟩ := (hw Hs1 H1 n1.st n1.ok).1 i _ (List.getElem?_eq_getElem lt)
    refine .inr ⟨hgo, fun σ' H' => ∃ Hs' δ', Inn me r Hs H0 Hs' H' σ' δ' ∧ forU (fun x δ N => uG g x δ fun δ => uS s { nx := N, rt := U.rt, xn := xn, bk := U.nx, ct := N } δ) U.nx (ds.drop (i + 1)) δ', fun σ' H' q => ⟨ds.length - (i + 1), by omega, by omega, rfl, q⟩, fun x H2 hx => ?_⟩
    obtain ⟨Hs2, s2, o2, rx⟩ := hy x H2 hx
    have n2 := n1.stp s2 o2
    refine simG g rx o2 n2.fit u1 fun σ' δ' h' f' _ => ?_
    exact hs W me r Hs H0 Hs2 H2 σ' δ' _ _ ⟨o2, n2.st, f'⟩ h' ⟨fun σ3 δ3 Hs3 H3 p n3 => ⟨Hs3, δ3, n3, p⟩, k.rt, fun c dx x σ3 δ3 Hs3 H3 p n3 q => k.xn c dx x σ3 δ3 Hs3 H3 (kx _ _ p) n3 q, k.nx, fun σ3 δ3 Hs3 H3 p n3 => ⟨Hs3, δ3, n3, p⟩⟩
theorem rch_s (n : Inn me r Hs0 H0 Hs H σ δ) : RchOk .fr r H0 Hs H (fun Hs' H' => Stp r Hs H0 Hs' H') := ⟨fun _ _ s => s.sh, fun _ _ s => s.kp, fun z => nomatch z⟩
theorem lockS_l {b : Bool} {t : TS} (h : t E σ H) : lockS b t E σ H := by
  cases b with
  | true => exact .inl h
  | false => exact h
/-! the frame while a dict is locked -/
section
variable {d : Addr} {kvs : List (Key × V)} {od : Obj}
theorem lock_inn (n : Inn me r Hs H0 Hs H σ δ) (e : H d = some (.dK kvs)) (nr : r ≠ some d) (no : ∀ j, (dl δ j).own = true → sl σ j ≠ some (.ref d)) : Inn me r (lks Hs d (.frz od (.dK kvs))) (lks H0 d (.frz od (.dK kvs))) (lks Hs d (.frz od (.dK kvs))) (upd H d (.frz od (.dK kvs))) σ δ := by
  have f := lock_fit (od := od) n.ok n.fit e nr no
  exact ⟨lock_ok n.ok e nr, ⟨Ext.refl, f.bs, fun _ _ _ e => e⟩, f⟩
/-- what is known of the heaps behind: the dict is locked still -/
theorem lock_back (k0 : Ok r Hs H) (n0 : ∀ b o, r ≠ some b → H0 b = some o → H b = some o) (e : H d = some (.dK kvs)) (nr : r ≠ some d) (w : Rd Hs d (.dK kvs) ∨ Rd H0 d (.dK kvs)) (s : Stp r (lks Hs d (.frz od (.dK kvs))) (lks H0 d (.frz od (.dK kvs))) Hs1 H1) (o : Ok r Hs1 H1) :
    H1 d = some (.frz od (.dK kvs)) ∧ Stp r Hs H0 (lks Hs1 d (.dK kvs)) (upd H1 d (.dK kvs)) ∧ Ok r (lks Hs1 d (.dK kvs)) (upd H1 d (.dK kvs)) ∧ Same Hs1 (lks Hs1 d (.dK kvs)) := by
  have hd : H1 d = some (.frz od (.dK kvs)) := by
    rcases w with w | w
    · have : ∃ u, Hs d = some u := by rcases w with w | ⟨_, w⟩ <;> exact ⟨_, w⟩
      obtain ⟨u, hu⟩ := this
      exact o.sub _ _ (s.sh d _ (by rw [lks_some hu, upd_same]))
    · have : ∃ u, H0 d = some u := by rcases w with w | ⟨_, w⟩ <;> exact ⟨_, w⟩
      obtain ⟨u, hu⟩ := this
      exact s.kp d _ nr (by rw [lks_some hu, upd_same])
  have hK : ∀ u, H0 d = some u → u = .dK kvs := fun u h => by
    rw [n0 d u nr h] at e
    exact Option.some.inj e
  have hS : ∀ u, Hs d = some u → u = .dK kvs := fun u h => by
    rw [k0.sub d u h] at e
    exact Option.some.inj e
  refine ⟨hd, ⟨fun b u h => ?_, fun b u nb h => ?_, fun b u h1 h2 => ?_⟩, ⟨fun b u h => ?_, fun a z => ?_⟩, same_unlock fun u q => by rw [o.sub _ _ q] at hd; exact Option.some.inj hd⟩
  · by_cases hb : b = d
    · subst hb
      have q := s.sh b _ (by rw [lks_some h, upd_same])
      rw [lks_some q, upd_same, hS u h]
    · rw [lks_ne hb]
      exact s.sh b u (by rw [lks_ne hb]; exact h)
  · by_cases hb : b = d
    · subst hb
      rw [upd_same, hK u h]
    · rw [upd_ne hb]
      exact s.kp b u nb (by rw [lks_ne hb]; exact h)
  · by_cases hb : b = d
    · subst hb
      have q := s.nw b _ (by rw [lks_some h1, upd_same]) (by rw [lks_none h2]; exact h2)
      rw [lks_none q]
      exact q
    · rw [lks_ne hb]
      exact s.nw b u (by rw [lks_ne hb]; exact h1) (by rw [lks_ne hb]; exact h2)
  · by_cases hb : b = d
    · subst hb
      cases q : Hs1 b with
      | none => rw [lks_none q, q] at h; cases h
      | some u => rw [lks_some q, upd_same] at h; rw [upd_same]; exact h
    · rw [lks_ne hb] at h
      rw [upd_ne hb]
      exact o.sub b u h
  · have hb : a ≠ d := fun q => nr (by rw [← q]; exact z)
    exact ⟨by rw [lks_ne hb]; exact (o.rg a z).1, (o.rg a z).2.ne hb⟩
theorem unlock_inn {σ' : St} {δ' : List Sl} (k0 : Ok r Hs H) (n0 : ∀ b o, r ≠ some b → H0 b = some o → H b = some o) (e : H d = some (.dK kvs)) (nr : r ≠ some d) (w : Rd Hs d (.dK kvs) ∨ Rd H0 d (.dK kvs)) (n : Inn me r (lks Hs d (.frz od (.dK kvs))) (lks H0 d (.frz od (.dK kvs))) Hs1 H1 σ' δ') :
    H1 d = some (.frz od (.dK kvs)) ∧ Inn me r Hs H0 (lks Hs1 d (.dK kvs)) (upd H1 d (.dK kvs)) σ' δ' := by
  obtain ⟨hd, s, o, sm⟩ := lock_back k0 n0 e nr w n.st n.ok
  have hK : ∀ u, H0 d = some u → u = .dK kvs := fun u h => by
    rw [n0 d u nr h] at e
    exact Option.some.inj e
  have s0 : Same (lks H0 d (.frz od (.dK kvs))) H0 := fun b u h => by
    by_cases hb : b = d
    · subst hb
      cases q : H0 b with
      | none => rw [lks_none q, q] at h; cases h
      | some x =>
        cases hK x q
        rw [lks_some q, upd_same] at h
        cases h
        exact .inr ⟨kvs, .inr ⟨od, by rw [lks_some q, upd_same]⟩, .inl q⟩
    · rw [lks_ne hb] at h
      exact .inl h
  refine ⟨hd, o, s, ⟨n.fit.len, s.kp, fun i => ?_, n.fit.ap⟩⟩
  have q := n.fit.at_ i
  cases z : dl δ' i with
  | un => trivial
  | sh x => rw [z] at q; obtain ⟨v, q1, q2⟩ := q; exact ⟨v, q1, q2.same sm⟩
  | bw x => rw [z] at q; obtain ⟨v, q1, q2⟩ := q; exact ⟨v, q1, q2.imp (Pk.same sm s0) fun q => q.same sm⟩
  | ow x =>
    rw [z] at q
    obtain ⟨a, q1, q2, q3, q4, q5⟩ := q
    have had : a ≠ d := fun zz => by
      subst zz
      rcases w with w | w
      · have : ∃ u, Hs a = some u := by rcases w with w | ⟨_, w⟩ <;> exact ⟨_, w⟩
        obtain ⟨u, hu⟩ := this
        rw [n.st.sh a _ (by rw [lks_some hu, upd_same])] at q4
        cases q4
      · have : ∃ u, H0 a = some u := by rcases w with w | ⟨_, w⟩ <;> exact ⟨_, w⟩
        obtain ⟨u, hu⟩ := this
        rw [lks_some hu, upd_same] at q3
        cases q3
    exact ⟨a, q1, q2, by rw [lks_ne had] at q3; exact q3, by rw [lks_ne had]; exact q4, q5.same sm (upd_ne had)⟩
  | pn x =>
    rw [z] at q
    obtain ⟨a, q1, qm, q2, q3, q4, q5⟩ := q
    have had : a ≠ d := fun zz => by
      subst zz
      rcases w with w | w
      · have : ∃ u, Hs a = some u := by rcases w with w | ⟨_, w⟩ <;> exact ⟨_, w⟩
        obtain ⟨u, hu⟩ := this
        rw [n.st.sh a _ (by rw [lks_some hu, upd_same])] at q4
        cases q4
      · have : ∃ u, H0 a = some u := by rcases w with w | ⟨_, w⟩ <;> exact ⟨_, w⟩
        obtain ⟨u, hu⟩ := this
        rw [lks_some hu, upd_same] at q3
        cases q3
    exact ⟨a, q1, qm, q2, by rw [lks_ne had] at q3; exact q3, by rw [lks_ne had]; exact q4, q5.same sm (upd_ne had)⟩
theorem ks_lock (k0 : Ok r Hs H) (n0 : ∀ b o, r ≠ some b → H0 b = some o → H b = some o) (e : H d = some (.dK kvs)) (nr : r ≠ some d) (w : Rd Hs d (.dK kvs) ∨ Rd H0 d (.dK kvs)) (hx : ∀ δ x, ¬ U.xn δ x) (k : KS W me r Hs H0 U E) :
    KS W me r (lks Hs d (.frz od (.dK kvs))) (lks H0 d (.frz od (.dK kvs))) U ⟨fun σ' H' => H' d = some (.frz od (.dK kvs)) ∧ E.nx σ' (upd H' d (.dK kvs)), fun v H' => H' d = some (.frz od (.dK kvs)) ∧ E.rt v (upd H' d (.dK kvs)), fun σ' H' => H' d = some (.frz od (.dK kvs)) ∧ E.bk σ' (upd H' d (.dK kvs)), fun σ' H' => H' d = some (.frz od (.dK kvs)) ∧ E.ct σ' (upd H' d (.dK kvs))⟩ := by
  refine ⟨fun σ' δ' Hs' H' p n => ?_, fun b v x Hs' H' p s o q => ?_, fun c dx x σ' δ' Hs' H' p n q => (hx _ _ p).elim, fun σ' δ' Hs' H' p n => ?_, fun σ' δ' Hs' H' p n => ?_⟩
  · obtain ⟨h1, h2⟩ := unlock_inn k0 n0 e nr w n
    exact ⟨h1, k.nx _ _ _ _ p h2⟩
  · obtain ⟨h1, h2, h3, h4⟩ := lock_back k0 n0 e nr w s o
    refine ⟨h1, k.rt b v x _ _ p h2 h3 ?_⟩
    cases b with
    | false => exact Rp.same h4 q
    | true =>
      obtain ⟨a, q1, q2, q3, q4, q5⟩ := q
      have had : a ≠ d := fun zz => by
        subst zz
        rcases w with w | w
        · have : ∃ u, Hs a = some u := by rcases w with w | ⟨_, w⟩ <;> exact ⟨_, w⟩
          obtain ⟨u, hu⟩ := this
          rw [s.sh a _ (by rw [lks_some hu, upd_same])] at q4
          cases q4
        · have : ∃ u, H0 a = some u := by rcases w with w | ⟨_, w⟩ <;> exact ⟨_, w⟩
          obtain ⟨u, hu⟩ := this
          rw [lks_some hu, upd_same] at q3
          cases q3
      exact ⟨a, q1, q2, by rw [lks_ne had] at q3; exact q3, by rw [lks_ne had]; exact q4, q5.same h4 (upd_ne had)⟩
  · obtain ⟨h1, h2⟩ := unlock_inn k0 n0 e nr w n
    exact ⟨h1, k.bk _ _ _ _ p h2⟩
  · obtain ⟨h1, h2⟩ := unlock_inn k0 n0 e nr w n
    exact ⟨h1, k.ct _ _ _ _ p h2⟩
end
theorem ss_fr {b : Bool} {it : AI} {g : AG} {s : AS} (hs : SimS K s) : SimS K (.fr b it g s) := fun W me r Hs0 H0 Hs H σ δ U E n hu k => by
  unfold uS at hu
  unfold hS
  obtain ⟨Hs1, δ1, n1, hk, hu⟩ := n.rdy hu
  have k1 := k.rebase n1.st
  have n1 := n1.rebase
  rcases lock_split it σ H with fz | ⟨a, d, kvs, h1, h2, ed⟩
  · refine lockS_l (sI K it .fr (.inr rfl) b W me r H0 Hs1 H σ δ1 _ _ _ n1.ok n1.fit hk fz hu (fun J ds Hs2 H2 p s2 o2 hz hw => ?_) (k1.kx n1))
    have n2 := n1.stp s2 o2
    refine for_body (xn := match isDicI it δ1 with | true => fun _ _ => False | false => U.xn) hs n2.rebase (hw _ (rch_s n2)) p (fun δ x hx => ?_) (k1.rebase n2.st)
    cases hd : isDicI it δ1 with
    | true => rw [hd] at hx; exact hx.elim
    | false => rw [hd] at hx; exact hx
  · obtain ⟨rfl, hp, hd, w, nr, na⟩ := lock_ap (.inr rfl) n1.ok n1.fit h1 h2 ed hk hu
    rw [hd] at hu
    refine .inr ⟨d, .dK kvs, ed, mut_dK, fun od => ?_⟩
    have nl := lock_inn (od := od) n1 ed nr na
    have kl := ks_lock (W := W) (od := od) (U := { U with xn := fun _ _ => False }) n1.ok n1.fit.bs ed nr w (fun _ _ z => z) ⟨k1.nx, k1.rt, fun _ _ _ _ _ _ _ z => z.elim, k1.bk, k1.ct⟩
    refine sI K it .fr (.inr rfl) true W me r _ _ _ σ δ1 _ (fun _ => False) _ nl.ok nl.fit hk (frz_lock h1 h2 ed) (uI_path h1 hp hu) (fun J ds Hs2 H2 p s2 o2 hz hw => ?_) kx_bot
    have n2 := nl.stp s2 o2
    exact for_body (U := { U with xn := fun _ _ => False }) hs n2.rebase (hw _ (rch_s n2)) p (fun δ x hx => hx.elim) (kl.rebase n2.st)
end
theorem sS (K : PySem.W.Frag) : ∀ s, SimS K s
  | .next => ss_next
  | .ret _ => ss_ret
  | .retN => ss_retN
  | .drop _ => ss_drop
  | .brk => ss_brk
  | .cont => ss_cont
  | .nos => ss_nos
  | .asg _ _ => ss_asg
  | .asgL _ _ _ _ _ _ _ => ss_asgL
  | .asgG _ _ => ss_asgG
  | .asgT _ _ => ss_asgT
  | .par _ _ _ _ => ss_par
  | .par3 _ _ _ _ _ _ => ss_par3
  | .put _ _ _ => ss_put
  | .app _ _ => ss_app
  | .sat _ _ _ => ss_sat
  | .seq s t => ss_seq (sS K s) (sS K t)
  | .ifs _ s t => ss_ifs (sS K s) (sS K t)
  | .fr _ _ _ s => ss_fr (sS K s)
  | .whl _ s => ss_whl (sS K s)
end AS

set_option Elab.async false
set_option linter.all false
set_option maxRecDepth 100000
set_option maxHeartbeats 4000000
/-! P8: defs by data: a def's promise is the meaning of its body by data. -/
namespace AS
open PySem PySem.Spec PyProof.Rows L2
def argSl (bor : Bool) (d : D) : Sl := match bor with
  | true => .bw d
  | false => .sh d
def startD (bor : Bool) (n : Nat) (ds : List D) : List Sl := ds.map (argSl bor) ++ List.replicate (n - ds.length) .un
def endsU (fr : Bool) (P : D → Prop) (X : XD) : UEnds := ⟨fun _ => fr = false ∧ P .non, fun b d => (fr = true → b = true) ∧ P d, fun _ x => X x, fun _ => False, fun _ => False⟩
/-- a def's promise: n slots, np parameters -/
def dsOf (bor fr : Bool) (n np : Nat) (s : AS) : DSp := fun ds P X => ds.length = np ∧ uS s (endsU fr P X) (startD bor n ds)
section
variable {me r : Option Addr} {H0 Hs H : Hp}
theorem Pks.len : ∀ {vs : List V} {ds : List D}, Pks r Hs H vs ds → vs.length = ds.length
  | _, _, .nil => rfl
  | _, _, .cons _ t => by rw [List.length_cons, List.length_cons, Pks.len t]
theorem AR.len {bor : Bool} {vs : List V} {ds : List D} (h : AR bor r Hs H vs ds) : vs.length = ds.length := by
  cases bor with
  | true => exact Pks.len h
  | false => exact Rps.len h
theorem fit_args {bor : Bool} : ∀ {vs : List V} {ds : List D} {σ : St} {δ : List Sl}, AR bor r Hs H0 vs ds → Fit me r H0 Hs H σ δ → Fit me r H0 Hs H (σ ++ vs.map some) (δ ++ ds.map (argSl bor))
  | [], [], σ, δ, _, f => by simpa using f
  | [], _ :: _, σ, δ, h, f => by have := h.len; cases this
  | _ :: _, [], σ, δ, h, f => by have := h.len; cases this
  | v :: vs, d :: ds, σ, δ, h, f => by
    have go : ∀ (h2 : AR bor r Hs H0 vs ds) (w : SlOk me r H0 Hs H (some v) (argSl bor d)) (hn : (argSl bor d).own = false), Fit me r H0 Hs H (σ ++ (v :: vs).map some) (δ ++ (d :: ds).map (argSl bor)) := fun h2 w hn => by
      have f1 := fit_args h2 (f.push (v := some v) (x := argSl bor d) w fun j _ z => by rw [hn] at z; cases z)
      simpa [List.append_assoc] using f1
    cases bor with
    | true =>
      cases (show Pks r Hs H0 (v :: vs) (d :: ds) from h) with
      | cons h1 h2 => exact go h2 ⟨v, rfl, .inl h1⟩ rfl
    | false =>
      cases (show Rps r Hs (v :: vs) (d :: ds) from h) with
      | cons h1 h2 => exact go h2 ⟨v, rfl, h1⟩ rfl
theorem fit_un : ∀ (k : Nat) {σ : St} {δ : List Sl}, Fit me r H0 Hs H σ δ → Fit me r H0 Hs H (σ ++ List.replicate k none) (δ ++ List.replicate k .un)
  | 0, σ, δ, f => by simpa using f
  | k + 1, σ, δ, f => by
    have f1 := fit_un k (f.push (v := none) (x := .un) trivial fun j _ z => nomatch z)
    simpa [List.append_assoc, List.replicate_succ] using f1
theorem fit_nil (bs : ∀ b o, r ≠ some b → H0 b = some o → H b = some o) : Fit me r H0 Hs H [] [] := ⟨rfl, bs, fun _ => trivial, fun i j _ h => by cases h⟩
theorem fit_start {bor : Bool} {N : List Str} {vs : List V} {ds : List D} (h : AR bor r Hs H vs ds) : Fit me r H Hs H (L2.start N vs) (startD bor N.length ds) := by
  unfold L2.start startD
  rw [h.len]
  have f := fit_un (N.length - ds.length) (fit_args h (fit_nil (me := me) (H0 := H) (H := H) (Hs := Hs) (r := r) fun _ _ _ e => e))
  simpa using f
theorem ks_def {E : XK} {fr : Bool} {P : D → Prop} {X : XD} {Q : VK} (k : KR fr r Hs H P Q) (x : Kx r Hs H X E) : KS (wD E) me r Hs H (endsU fr P X) { nx := fun _ H' => Q .non H', rt := Q } := by
  refine ⟨fun σ δ Hs' H' p n => ?_, fun b v d Hs' H' p s o q => ?_, fun c dx y σ δ Hs' H' p n q => x c dx y Hs' H' p n.st n.ok q, fun σ δ Hs' H' p n => p.elim, fun σ δ Hs' H' p n => p.elim⟩
  · obtain ⟨hf, p⟩ := p
    subst hf
    exact k .non .non Hs' H' p n.st n.ok .non
  · obtain ⟨hb, p⟩ := p
    cases b with
    | true =>
      obtain ⟨a, rfl, h1, h2, h3, h4⟩ := q
      exact k.kf a d Hs' H' p s o h1 h2 h3 h4
    | false =>
      cases fr with
      | true => exact absurd (hb rfl) (by decide)
      | false => exact k v d Hs' H' p s o q
end
section
variable {S : Sys} {k n : Nat}
/-- THE RULE: a def keeps the promise that its body has by data -/
theorem fn_dat {f : Addr} {fd : FuncData} {x qual : Str} {st : Stmt} {N ps : List Str} {T : PySem.W.Frag → Tabs} {ast : PySem.W.Frag → AS} {dvs : List V} {kws : List (Str × V)} (bor fr : Bool) (F : FunD S.K x qual (defArgs st) (defBody st) (defScope st) dvs kws f fd) (Sc : FnScope N ps (defScope st)) (hT : TabsOk S k (T S.K))
    (red : ∀ (K : PySem.W.Frag) (E : XK), blkT (wp (oraOf K (T K)) K N n (ctxD (defScope st) E)).S (defBody st) = hS K (wD E) (ast K)) : FnB S (k + 1) f fd ps (spG bor fr (dsOf bor fr N.length ps.length (ast S.K))) :=
  fn_by F Sc hT (fun vs H Q E ⟨r, Hs, ds, P, X, o, a, u, _⟩ => a.len.trans u.1) red fun vs H Q E ⟨r, Hs, ds, P, X, o, a, u, kr, kx⟩ =>
    sS S.K (ast S.K) (wD E) none r Hs H Hs H (L2.start N vs) _ _ _ ⟨o, .refl, fit_start a⟩ u.2 (ks_def kr kx)
theorem spG_len {bor fr : Bool} {m np : Nat} {s : AS} {vs : List V} {H : Hp} {Q : VK} {E : XK} (h : spG bor fr (dsOf bor fr m np s) vs H Q E) : vs.length = np := by
  obtain ⟨r, Hs, ds, P, X, o, a, u, _⟩ := h
  exact a.len.trans u.1
theorem spG_lenAll {bor fr : Bool} {m np : Nat} {s : AS} : ∀ vs H Q E, spG bor fr (dsOf bor fr m np s) vs H Q E → vs.length = np := fun _ _ _ _ h => spG_len h
/-! ### __init__ -/
/-- the meaning of an __init__: self is a new instance of C -/
def dsInit (C : Addr) (bor : Bool) (n np : Nat) (s : AS) : DSp := fun ds P X => ds.length + 1 = np ∧ uS s ⟨fun δ => match dl δ 0 with | .pn d => P d | _ => False, fun _ _ => False, fun _ x => X x, fun _ => False, fun _ => False⟩ (.pn (.ins C []) :: (ds.map (argSl bor) ++ List.replicate (n - (ds.length + 1)) .un))
def spI (C : Addr) (bor : Bool) (u : DSp) : Sp := fun ws H1 Q E => ∃ a dx vs H r Hs ds P X, ws = V.ref a :: vs ∧ H a = none ∧ H dx = none ∧ dx ≠ a ∧ H1 = upd (upd H dx (.own a)) a (.ins C dx []) ∧ Ok r Hs H ∧ AR bor r Hs H vs ds ∧ u ds P X ∧
  (∀ d Hs' H', P d → Stp r Hs H Hs' H' → Ok r Hs' H' → r ≠ some a → Hs' a = none → Ow r Hs' H' a d → Q .non H') ∧ Kx r Hs H X E
theorem fn_init {f : Addr} {fd : FuncData} {x qual : Str} {st : Stmt} {N ps : List Str} {T : PySem.W.Frag → Tabs} {ast : PySem.W.Frag → AS} {dvs : List V} {kws : List (Str × V)} (C : Addr) (bor : Bool) (F : FunD S.K x qual (defArgs st) (defBody st) (defScope st) dvs kws f fd) (Sc : FnScope N ps (defScope st)) (hT : TabsOk S k (T S.K))
    (red : ∀ (K : PySem.W.Frag) (E : XK), blkT (wp (oraOf K (T K)) K N n (ctxD (defScope st) E)).S (defBody st) = hS K (wD E) (ast K)) : FnB S (k + 1) f fd ps (spI C bor (dsInit C bor N.length ps.length (ast S.K))) := by
  refine fn_by F Sc hT (fun ws H1 Q E ⟨a, dx, vs, H, r, Hs, ds, P, X, ew, _, _, _, _, _, ar, u, _⟩ => by rw [ew, List.length_cons, ar.len]; exact u.1) red fun ws H1 Q E ⟨a, dx, vs, H, r, Hs, ds, P, X, ew, ha, hd, hn, eH, o, ar, u, kq, kx⟩ => ?_
  subst ew eH
  have nra := o.ner' ha
  have nrd := o.ner' hd
  have o1 : Ok r Hs (upd H dx (.own a)) := o.own (o.nn hd) nrd
  have ha1 : upd H dx (.own a) a = none := by rw [upd_ne hn.symm]; exact ha
  have o2 : Ok r Hs (upd (upd H dx (.own a)) a (.ins C dx [])) := o1.own (o.nn ha) nra
  have s2 : Stp r Hs H Hs (upd (upd H dx (.own a)) a (.ins C dx [])) := (Stp.own hd).trans o1 (.own ha1)
  have f0 : Fit (some a) r H Hs (upd (upd H dx (.own a)) a (.ins C dx [])) ([] ++ [some (V.ref a)]) ([] ++ [Sl.pn (.ins C [])]) := (fit_nil s2.kp).push ⟨a, rfl, rfl, nra, ha, o.nn ha, ⟨dx, [], upd_same, rfl, .nil⟩⟩ fun j h => by cases h
  have f1 := fit_un (N.length - (ds.length + 1)) (fit_args ar f0)
  have f2 : Fit (some a) r H Hs (upd (upd H dx (.own a)) a (.ins C dx [])) (L2.start N (V.ref a :: vs)) (.pn (.ins C []) :: (ds.map (argSl bor) ++ List.replicate (N.length - (ds.length + 1)) .un)) := by
    unfold L2.start
    rw [List.length_cons, ar.len]
    simpa using f1
  refine sS S.K (ast S.K) (wD E) (some a) r Hs H Hs _ _ _ _ _ ⟨o2, s2, f2⟩ u.2 ⟨fun σ δ Hs' H' p n => ?_, fun _ _ _ _ _ z => z.elim, fun c ddx y σ δ Hs' H' p n q => kx c ddx y Hs' H' p n.st n.ok q, fun _ _ _ _ z => z.elim, fun _ _ _ _ z => z.elim⟩
  have q := n.fit.at_ 0
  cases z : dl δ 0 with
  | pn d =>
    rw [z] at q
    have p : (match dl δ 0 with | .pn d => P d | _ => False) := p
    rw [z] at p
    obtain ⟨b, _, em, nr, h0, hs, w⟩ := q
    cases em
    exact kq d Hs' H' p n.st n.ok nr hs w
  | _ =>
    have p : (match dl δ 0 with | .pn d => P d | _ => False) := p
    rw [z] at p
    exact p.elim
theorem spI_len {C : Addr} {bor : Bool} {m np : Nat} {s : AS} : ∀ ws H Q E, spI C bor (dsInit C bor m np s) ws H Q E → ws.length = np := fun ws H1 Q E ⟨a, dx, vs, H, r, Hs, ds, P, X, ew, _, _, _, _, _, ar, u, _⟩ => by rw [ew, List.length_cons, ar.len]; exact u.1
end
end AS

set_option Elab.async false
set_option linter.all false
set_option maxRecDepth 100000
set_option maxHeartbeats 4000000
/-! P9: operators and built-ins by data. -/
namespace AS
open PySem PySem.Spec PyProof.Rows L2
section
variable {r : Option Addr} {Hs H : Hp} {x y : V} {P : D → Prop} {Q : VK}
theorem kv_here {v : V} {d : D} (k : Kv r Hs H P Q) (o : Ok r Hs H) (h : Rp r Hs v d) (p : P d) : Q v H := k v d Hs H p .refl o h
theorem kv_new {p : Addr} {u : HO} {d : D} (k : Kv r Hs H P Q) (o : Ok r Hs H) (hp : H p = none) (h : Rp r (upd Hs p u) (.ref p) d) (q : P d) : Q (.ref p) (upd H p u) := k _ d _ _ q (.new hp (o.nn hp)) (o.new hp) h
theorem kf_new {p : Addr} {u : HO} {d : D} (k : Kf r Hs H P Q) (o : Ok r Hs H) (hp : H p = none) (h : Ow r Hs (upd H p u) p d) (q : P d) : Q (.ref p) (upd H p u) := k p d Hs _ q (.own hp) (o.own (o.nn hp) (o.ner' hp)) (o.ner' hp) hp (o.nn hp) h
/-! ### operators -/
def addD (x y : D) (P : D → Prop) : Prop := match x, y with
  | .int i, .int j => P (.int (i + j))
  | .str a, .str b => a.length + b.length ≤ sizeLine ∧ P (.str (a ++ b))
  | .lst a, .lst b => a.length + b.length ≤ sizeLine ∧ P (.lst (a ++ b))
  | .tup a, .tup b => a ≠ [] ∧ a.length + b.length ≤ sizeLine ∧ P (.tup (a ++ b))
  | _, _ => False
def opAdd (K : PySem.W.Frag) : Op := ⟨addR K, addD, fun r Hs H x y dx dy P Q o hx hy hu k => by
  cases dx with
  | int i =>
    cases dy with
    | int j => cases pk_int hx; cases pk_int hy; exact kv_here k o (.int _) hu
    | _ => exact hu.elim
  | str a =>
    cases dy with
    | str b => cases pk_str hx; cases pk_str hy; exact ⟨hu.1, kv_here k o (.str _) hu.2⟩
    | _ => exact hu.elim
  | lst a =>
    cases dy with
    | lst b =>
      obtain ⟨p, xs, rfl, e, z, t⟩ := pk_lst hx
      obtain ⟨q, ys, rfl, e', z', t'⟩ := pk_lst hy
      refine .inl ⟨p, q, xs, ys, rfl, rfl, e, e', by rw [t.len, t'.len]; exact hu.1, fun w hw => ?_⟩
      exact kv_new k o hw (.lst upd_same (by rw [List.length_append]; exact hu.1) ((t.app t').ext (Ext.refl.new (o.nn hw)))) hu.2
    | _ => exact hu.elim
  | tup a =>
    cases dy with
    | tup b =>
      cases (show Rp r Hs x (.tup a) from hx) with
      | @tup p xs _ e z t =>
        cases (show Rp r Hs y (.tup b) from hy) with
        | @tup q ys _ e' z' t' =>
          refine .inr ⟨p, q, xs, ys, rfl, rfl, .inl (.inl (o.sub _ _ e)), .inl (.inl (o.sub _ _ e')), fun z => hu.1 (by have := t.len; rw [z] at this; exact List.length_eq_zero_iff.mp this.symm), by rw [t.len, t'.len]; exact hu.2.1, fun z0 => ?_, fun _ w hw => ?_⟩
          · have hb : b = [] := by have := t'.len; rw [z0] at this; exact List.length_eq_zero_iff.mp this.symm
            have hu2 := hu.2.2
            rw [hb, List.append_nil] at hu2
            exact kv_here k o (.tup e z t) hu2
          exact kv_new k o hw (.tup upd_same (by rw [List.length_append]; exact hu.2.1) ((t.app t').ext (Ext.refl.new (o.nn hw)))) hu.2.2
    | _ => exact hu.elim
  | _ => exact hu.elim⟩
/-- on ints -/
def intD (C : Int → Int → Prop) (f : Int → Int → D) (x y : D) (P : D → Prop) : Prop := match x, y with
  | .int i, .int j => C i j ∧ P (f i j)
  | _, _ => False
def vI (f : Int → Int → Int) : Int → Int → V := fun i j => .int (f i j)
def opI (C : Int → Int → Prop) (f : Int → Int → V) (g : Int → Int → D) (hg : ∀ (r : Option Addr) (Hs : Hp) i j, Rp r Hs (f i j) (g i j)) : Op := ⟨i2R f C, intD C g, fun r Hs H x y dx dy P Q o hx hy hu k => by
  cases dx with
  | int i =>
    cases dy with
    | int j => cases pk_int hx; cases pk_int hy; exact ⟨hu.1, kv_here k o (hg _ _ _ _) hu.2⟩
    | _ => exact hu.elim
  | _ => exact hu.elim⟩
def intD0 (f : Int → Int → D) (x y : D) (P : D → Prop) : Prop := match x, y with
  | .int i, .int j => P (f i j)
  | _, _ => False
def opI0 (f : Int → Int → V) (g : Int → Int → D) (hg : ∀ (r : Option Addr) (Hs : Hp) i j, Rp r Hs (f i j) (g i j)) : Op := ⟨i0R f, intD0 g, fun r Hs H x y dx dy P Q o hx hy hu k => by
  cases dx with
  | int i =>
    cases dy with
    | int j => cases pk_int hx; cases pk_int hy; exact kv_here k o (hg _ _ _ _) hu
    | _ => exact hu.elim
  | _ => exact hu.elim⟩
def opSub : Op := opI0 (fun i j => .int (i - j)) (fun i j => .int (i - j)) fun _ _ _ _ => .int _
def opFdiv : Op := opI CDiv (fun i j => .int (i / j)) (fun i j => .int (i / j)) fun _ _ _ _ => .int _
def opMod : Op := opI (fun _ j => 0 < j) (fun i j => .int (i % j)) (fun i j => .int (i % j)) fun _ _ _ _ => .int _
def opPow : Op := opI CPow (fun i j => .int (i ^ j.toNat)) (fun i j => .int (i ^ j.toNat)) fun _ _ _ _ => .int _
def opLt : Op := opI0 (fun i j => .bl (decide (i < j))) (fun i j => .bl (decide (i < j))) fun _ _ _ _ => .bl _
def opLe : Op := opI0 (fun i j => .bl (decide (i ≤ j))) (fun i j => .bl (decide (i ≤ j))) fun _ _ _ _ => .bl _
def opGt : Op := opI0 (fun i j => .bl (decide (j < i))) (fun i j => .bl (decide (j < i))) fun _ _ _ _ => .bl _
def opGe : Op := opI0 (fun i j => .bl (decide (j ≤ i))) (fun i j => .bl (decide (j ≤ i))) fun _ _ _ _ => .bl _
def opMul : Op := ⟨mulR, intD CMul fun i j => .int (i * j), fun r Hs H x y dx dy P Q o hx hy hu k => by
  cases dx with
  | int i =>
    cases dy with
    | int j => cases pk_int hx; cases pk_int hy; exact ⟨hu.1, kv_here k o (.int _) hu.2⟩
    | _ => exact hu.elim
  | _ => exact hu.elim⟩
/-! is, is not -/
def isD (neg : Bool) (x y : D) (P : D → Prop) : Prop := match y with
  | .non => (match x with
    | .non => P (.bl (!neg))
    | .cst _ => False
    | _ => P (.bl neg))
  | .bl b => (match x with
    | .bl a => P (.bl (if neg then !decide (a = b) else decide (a = b)))
    | _ => False)
  | _ => False
theorem pk_non {v : V} {d : D} (h : Pk r Hs H v d) (hd : ∀ w, d ≠ .cst w) : (v = .non) ↔ d = .non := by
  cases d with
  | non => cases (show Rp r Hs v .non from h); exact ⟨fun _ => rfl, fun _ => rfl⟩
  | bl b => cases pk_bl h; exact ⟨fun z => (nomatch z), fun z => (nomatch z)⟩
  | int b => cases pk_int h; exact ⟨fun z => (nomatch z), fun z => (nomatch z)⟩
  | str b => cases pk_str h; exact ⟨fun z => (nomatch z), fun z => (nomatch z)⟩
  | lst ds => obtain ⟨_, _, rfl, _⟩ := h; exact ⟨fun z => (nomatch z), fun z => (nomatch z)⟩
  | dic ds => obtain ⟨_, _, rfl, _⟩ := h; exact ⟨fun z => (nomatch z), fun z => (nomatch z)⟩
  | ins C ds => obtain ⟨_, _, _, rfl, _⟩ := h; exact ⟨fun z => (nomatch z), fun z => (nomatch z)⟩
  | tup ds => cases (show Rp r Hs v (.tup ds) from h); exact ⟨fun z => (nomatch z), fun z => (nomatch z)⟩
  | rng => cases (show Rp r Hs v .rng from h); exact ⟨fun z => (nomatch z), fun z => (nomatch z)⟩
  | cst w => exact absurd rfl (hd w)
theorem is_ok (neg : Bool) (r : Option Addr) (Hs H : Hp) (x y : V) (dx dy : D) (P : D → Prop) (Q : VK) (o : Ok r Hs H) (hx : Pk r Hs H x dx) (hy : Pk r Hs H y dy) (hu : isD neg dx dy P) (k : Kv r Hs H P Q) : (match neg with | true => notR x y H Q | false => isR x y H Q) := by
  cases dy with
  | non =>
    cases (show Rp r Hs y .non from hy)
    have hd : ∀ w, dx ≠ .cst w := fun w z => by rw [z] at hu; exact (show False from hu)
    have hn := pk_non hx hd
    have : P (.bl (if neg then !decide (x = .non) else decide (x = .non))) := by
      cases dx with
      | non => rw [decide_eq_true (hn.mpr rfl)]; cases neg <;> exact hu
      | cst w => exact absurd rfl (hd w)
      | _ => rw [decide_eq_false (fun z => by have := hn.mp z; cases this)]; cases neg <;> exact hu
    cases neg with
    | true => unfold notR; exact .inl ⟨rfl, kv_here k o (.bl _) this⟩
    | false => unfold isR; exact .inl ⟨rfl, kv_here k o (.bl _) this⟩
  | bl b =>
    cases pk_bl hy
    cases dx with
    | bl a =>
      cases pk_bl hx
      cases neg with
      | true => unfold notR; exact .inr ⟨a, b, rfl, rfl, kv_here k o (.bl _) hu⟩
      | false => unfold isR; exact .inr ⟨a, b, rfl, rfl, kv_here k o (.bl _) hu⟩
    | _ => exact (show False from hu).elim
  | _ => exact (show False from hu).elim
def opIs : Op := ⟨isR, isD false, fun r Hs H x y dx dy P Q o hx hy hu k => is_ok false r Hs H x y dx dy P Q o hx hy hu k⟩
def opIsNot : Op := ⟨notR, isD true, fun r Hs H x y dx dy P Q o hx hy hu k => is_ok true r Hs H x y dx dy P Q o hx hy hu k⟩
/-! o[i] -/
def idxD (x y : D) (P : D → Prop) : Prop := match x with
  | .lst ds => (match y with
    | .int i => (match atI ds i with
      | some d => P d
      | none => False)
    | _ => False)
  | .tup ds => (match y with
    | .int i => (match atI ds i with
      | some d => P d
      | none => False)
    | _ => False)
  | .str z => (match y with
    | .int i => z.length ≤ sizeLine ∧ (match atI z.cps.toList i with
      | some c => P (.str ⟨#[c]⟩)
      | none => False)
    | _ => False)
  | .dic es => (match keyD y with
    | some k => (match getD es k with
      | some d => P d
      | none => False)
    | none => False)
  | _ => False
theorem atI_rep {xs : List V} {ds : List D} {i : Int} {d : D} (t : Rps r Hs xs ds) (h : atI ds i = some d) : ∃ v, atI xs i = some v ∧ Rp r Hs v d := by
  unfold atI at h ⊢
  rw [t.len]
  cases e : ixN ds.length i with
  | none => rw [e] at h; cases h
  | some j => rw [e] at h; exact t.get h
theorem get_rep {kvs : List (Key × V)} {es : List (Key × D)} {k : Key} : kvs.map (·.1) = es.map (·.1) → Rps r Hs (kvs.map (·.2)) (es.map (·.2)) → (match getD es k with | some d => ∃ v, valV kvs k = some v ∧ Rp r Hs v d | none => valV kvs k = none) := by
  induction kvs generalizing es with
  | nil =>
    intro h1 h2
    cases es with
    | nil => rfl
    | cons _ _ => cases h1
  | cons p ps ih =>
    intro h1 h2
    cases es with
    | nil => cases h1
    | cons q qs =>
      rw [List.map_cons, List.map_cons] at h1 h2
      obtain ⟨e1, e2⟩ := List.cons.inj h1
      have e1 : p.1 = q.1 := e1
      cases h2 with
      | cons r1 r2 =>
        by_cases hk : p.1 = k
        · have g : getD (q :: qs) k = some q.2 := by unfold getD; rw [List.find?_cons, decide_eq_true (by rw [← e1]; exact hk)]; rfl
          rw [g]
          exact ⟨p.2, valV_pos hk, r1⟩
        · have g : getD (q :: qs) k = getD qs k := by unfold getD; rw [List.find?_cons, decide_eq_false (by rw [← e1]; exact hk)]
          rw [g, valV_neg hk]
          exact ih e2 r2
theorem key_kVk {v : V} {d : D} {k : Key} (h : Pk r Hs H v d) (e : keyD d = some k) : v = kV k := by
  cases d with
  | int i => cases pk_int h; cases e; rfl
  | str x => cases pk_str h; cases e; rfl
  | _ => cases e
def opIdx (K : PySem.W.Frag) : Op := ⟨idxT K, idxD, fun r Hs H x y dx dy P Q o hx hy hu k => by
  cases dx with
  | lst ds =>
    cases dy with
    | int i =>
      cases pk_int hy
      obtain ⟨p, xs, rfl, e, z, t⟩ := pk_lst hx
      have hu : (match atI ds i with | some d => P d | none => False) := hu
      cases ea : atI ds i with
      | none => rw [ea] at hu; exact hu.elim
      | some d =>
        rw [ea] at hu
        obtain ⟨v, hv, rv⟩ := atI_rep t ea
        exact idx_lst (.inl (.inl e)) hv (kv_here k o rv hu)
    | _ => exact (show False from hu).elim
  | tup ds =>
    cases dy with
    | int i =>
      cases pk_int hy
      cases (show Rp r Hs x (.tup ds) from hx) with
      | tup e z t =>
        have hu : (match atI ds i with | some d => P d | none => False) := hu
        cases ea : atI ds i with
        | none => rw [ea] at hu; exact hu.elim
        | some d =>
          rw [ea] at hu
          obtain ⟨v, hv, rv⟩ := atI_rep t ea
          exact idx_tup (.inl (.inl (o.sub _ _ e))) hv (kv_here k o rv hu)
    | _ => exact (show False from hu).elim
  | str w =>
    cases dy with
    | int i =>
      cases pk_int hy
      cases pk_str hx
      have hu : w.length ≤ sizeLine ∧ (match atI w.cps.toList i with | some c => P (.str ⟨#[c]⟩) | none => False) := hu
      cases ea : atI w.cps.toList i with
      | none => rw [ea] at hu; exact hu.2.elim
      | some c =>
        rw [ea] at hu
        exact idx_str hu.1 ea (kv_here k o (.str _) hu.2)
    | _ => exact (show False from hu).elim
  | dic es =>
    obtain ⟨a, kvs, rfl, n, e, z, h1, h2⟩ := hx
    have hu : (match keyD dy with | some k => (match getD es k with | some d => P d | none => False) | none => False) := hu
    cases ek : keyD dy with
    | none => rw [ek] at hu; exact hu.elim
    | some kk =>
      rw [ek] at hu
      have hu : (match getD es kk with | some d => P d | none => False) := hu
      have g := get_rep (k := kk) h1 h2
      cases eg : getD es kk with
      | none => rw [eg] at hu; exact hu.elim
      | some d =>
        rw [eg] at hu g
        obtain ⟨v, hv, rv⟩ := g
        cases key_kVk hy ek
        exact idx_dic (.inl ⟨kvs, kk, e, rfl, hv.symm⟩) (kv_here k o rv hu)
  | _ => exact (show False from hu).elim⟩
end
end AS

set_option Elab.async false
set_option linter.all false
set_option maxRecDepth 100000
set_option maxHeartbeats 4000000
/-! P10: equality, membership, built-ins by data. -/
namespace AS
open PySem PySem.Spec PyProof.Rows L2
/-! ### as Python data -/
mutual
def toPy : D → Option PyData
  | .non => some .none
  | .bl b => some (.bool b)
  | .int i => some (.int i)
  | .str x => some (.str x)
  | .lst ds => (toPys ds).map .list
  | .tup ds => (toPys ds).map .tuple
  | .dic es => (toPyE es).map .dict
  | _ => none
def toPys : List D → Option (List PyData)
  | [] => some []
  | d :: r => match toPy d, toPys r with
    | some x, some xs => some (x :: xs)
    | _, _ => none
def toPyE : List (Key × D) → Option (List (PyData × PyData))
  | [] => some []
  | (k, d) :: r => match toPy d, toPyE r with
    | some x, some xs => some (((match k with | .inl i => .int i | .inr z => .str z), x) :: xs)
    | _, _ => none
end
def kP : Key → PyData
  | .inl i => .int i
  | .inr z => .str z
theorem toPys_cons {d : D} {r : List D} {ps : List PyData} (h : toPys (d :: r) = some ps) : ∃ x xs, toPy d = some x ∧ toPys r = some xs ∧ ps = x :: xs := by
  unfold toPys at h
  split at h
  · rename_i x xs h1 h2
    cases h
    exact ⟨x, xs, h1, h2, rfl⟩
  · cases h
theorem toPyE_map : ∀ {es : List (Key × D)} {ps : List (PyData × PyData)}, toPyE es = some ps → ps.map (·.1) = es.map (fun e => kP e.1) ∧ toPys (es.map (·.2)) = some (ps.map (·.2))
  | [], ps, h => by
    unfold toPyE at h
    cases h
    exact ⟨rfl, rfl⟩
  | (k, d) :: r, ps, h => by
    unfold toPyE at h
    split at h
    · rename_i x xs h1 h2
      cases h
      obtain ⟨i1, i2⟩ := toPyE_map h2
      refine ⟨?_, ?_⟩
      · rw [List.map_cons, List.map_cons, i1]
        cases k <;> rfl
      · show toPys (d :: r.map (·.2)) = _
        unfold toPys
        rw [h1, i2]
        rfl
    · cases h
section
variable {K : PySem.W.Frag} {r : Option Addr} {Hs H : Hp}
theorem dts_keys : ∀ {kvs : List (Key × V)}, Dts K H (kvs.map fun p => kV p.1) (kvs.map fun p => kP p.1)
  | [] => .nil
  | (k, v) :: t => .cons (by cases k with | inl i => exact .int i | inr z => exact .str z) dts_keys
mutual
theorem rp_dt : ∀ {v : V} {d : D} {p : PyData}, Rp r H v d → toPy d = some p → Dt K H v p
  | _, _, _, .non, h => by cases h; exact .non
  | _, _, _, .bl b, h => by cases h; exact .bl b
  | _, _, _, .int i, h => by cases h; exact .int i
  | _, _, _, .str x, h => by cases h; exact .str x
  | _, _, p, .lst (ds := ds) e z t, h => by
    have h : (toPys ds).map PyData.list = some p := h
    cases e1 : toPys ds with
    | none => rw [e1] at h; cases h
    | some ps => rw [e1] at h; cases h; exact .lst (.inl (.inl e)) (rps_dts t e1)
  | _, _, p, .tup (ds := ds) e z t, h => by
    have h : (toPys ds).map PyData.tuple = some p := h
    cases e1 : toPys ds with
    | none => rw [e1] at h; cases h
    | some ps => rw [e1] at h; cases h; exact .tup (.inl (.inl e)) (rps_dts t e1)
  | _, _, p, .dic (kvs := kvs) (es := es) e z q t, h => by
    have h : (toPyE es).map PyData.dict = some p := h
    cases e1 : toPyE es with
    | none => rw [e1] at h; cases h
    | some ps =>
      rw [e1] at h
      cases h
      obtain ⟨i1, i2⟩ := toPyE_map e1
      have hk : ps.map (·.1) = kvs.map (fun p => kP p.1) := by
        rw [i1, show es.map (fun e => kP e.1) = (es.map (·.1)).map kP by rw [List.map_map]; rfl, ← q, List.map_map]
        rfl
      exact .dic e (by rw [hk]; exact dts_keys) (rps_dts t i2)
theorem rps_dts : ∀ {vs : List V} {ds : List D} {ps : List PyData}, Rps r H vs ds → toPys ds = some ps → Dts K H vs ps
  | _, _, _, .nil, h => by unfold toPys at h; cases h; exact .nil
  | _, _, _, .cons h1 h2, h => by
    obtain ⟨x, xs, e1, e2, rfl⟩ := toPys_cons h
    exact .cons (rp_dt h1 e1) (rps_dts h2 e2)
end
/-! without dicts -/
mutual
def noDic : D → Bool
  | .dic _ => false
  | .lst ds => noDics ds
  | .tup ds => noDics ds
  | _ => true
def noDics : List D → Bool
  | [] => true
  | d :: r => noDic d && noDics r
end
mutual
theorem rp_dp : ∀ {v : V} {d : D} {p : PyData}, Rp r H v d → toPy d = some p → noDic d = true → Dp K H v p
  | _, _, _, .non, h, _ => by cases h; exact .non
  | _, _, _, .bl b, h, _ => by cases h; exact .bl b
  | _, _, _, .int i, h, _ => by cases h; exact .int i
  | _, _, _, .str x, h, _ => by cases h; exact .str x
  | _, _, p, .lst (ds := ds) e z t, h, n => by
    have h : (toPys ds).map PyData.list = some p := h
    cases e1 : toPys ds with
    | none => rw [e1] at h; cases h
    | some ps => rw [e1] at h; cases h; exact .lst (.inl (.inl e)) (rps_dps t e1 n)
  | _, _, p, .tup (ds := ds) e z t, h, n => by
    have h : (toPys ds).map PyData.tuple = some p := h
    cases e1 : toPys ds with
    | none => rw [e1] at h; cases h
    | some ps => rw [e1] at h; cases h; exact .tup (.inl (.inl e)) (rps_dps t e1 n)
  | _, _, _, .dic _ _ _ _, _, n => by cases n
theorem rps_dps : ∀ {vs : List V} {ds : List D} {ps : List PyData}, Rps r H vs ds → toPys ds = some ps → noDics ds = true → DpAll K H vs ps
  | _, _, _, .nil, h, _ => by unfold toPys at h; cases h; exact .nil
  | _, _, _, .cons h1 h2, h, n => by
    obtain ⟨x, xs, e1, e2, rfl⟩ := toPys_cons h
    obtain ⟨n1, n2⟩ := b2 n
    exact .cons (rp_dp h1 e1 n1) (rps_dps h2 e2 n2)
end
/-! ### == -/
/-- scalars of one kind, or None and another -/
def scD : D → D → Option Bool
  | .int i, .int j => some (decide (i = j))
  | .str i, .str j => some (decide (i = j))
  | .bl i, .bl j => some (decide (i = j))
  | .non, .non => some true
  | .non, .int _ => some false
  | .int _, .non => some false
  | .non, .bl _ => some false
  | .bl _, .non => some false
  | .non, .str _ => some false
  | .str _, .non => some false
  | .int _, .str _ => some false
  | .str _, .int _ => some false
  | .bl _, .str _ => some false
  | .str _, .bl _ => some false
  | _, _ => none
def flD : D → Bool
  | .non => true
  | .bl _ => true
  | .int _ => true
  | .str _ => true
  | _ => false
/-- == of flat data -/
def eqF : D → D → Bool
  | .non, .non => true
  | .bl a, .bl b => a == b
  | .bl a, .int b => (if a then 1 else 0) == b
  | .int a, .bl b => a == (if b then 1 else 0)
  | .int a, .int b => a == b
  | .str a, .str b => a == b
  | _, _ => false
def sameD (es fs : List (Key × D)) : Bool := (es.length == fs.length) && es.all fun p => match getD fs p.1 with
  | some q => eqF p.2 q
  | none => false
def eqvD (neg : Bool) (x y : D) (P : D → Prop) : Prop := match scD x y with
  | some b => P (.bl (if neg then !b else b))
  | none => (match x, y with
    | .dic es, .dic fs => (es.map (·.2)).all flD = true ∧ (fs.map (·.2)).all flD = true ∧ P (.bl (if neg then !sameD es fs else sameD es fs))
    | x, y => ∃ p q, toPy x = some p ∧ toPy y = some q ∧ noDic x = true ∧ noDic y = true ∧ SeqAt.shaped p = true ∧ SeqAt.shaped q = true ∧ P (.bl (if neg then !PyData.eqv p q else PyData.eqv p q)))
theorem scD_ok {x y : V} {dx dy : D} {b : Bool} (hx : Pk r Hs H x dx) (hy : Pk r Hs H y dy) (h : scD dx dy = some b) : scal x y = true ∧ decide (x = y) = b := by
  cases dx with
  | int i =>
    cases pk_int hx
    cases dy with
    | int j => cases pk_int hy; cases h; exact ⟨rfl, by simp⟩
    | str j => cases pk_str hy; cases h; exact ⟨rfl, by simp⟩
    | non => cases (show Rp r Hs y .non from hy); cases h; exact ⟨rfl, by simp⟩
    | _ => cases h
  | str i =>
    cases pk_str hx
    cases dy with
    | int j => cases pk_int hy; cases h; exact ⟨rfl, by simp⟩
    | str j => cases pk_str hy; cases h; exact ⟨rfl, by simp⟩
    | bl j => cases pk_bl hy; cases h; exact ⟨rfl, by simp⟩
    | non => cases (show Rp r Hs y .non from hy); cases h; exact ⟨rfl, by simp⟩
    | _ => cases h
  | bl i =>
    cases pk_bl hx
    cases dy with
    | str j => cases pk_str hy; cases h; exact ⟨rfl, by simp⟩
    | bl j => cases pk_bl hy; cases h; exact ⟨rfl, by simp⟩
    | non => cases (show Rp r Hs y .non from hy); cases h; exact ⟨rfl, by simp⟩
    | _ => cases h
  | non =>
    cases (show Rp r Hs x .non from hx)
    cases dy with
    | int j => cases pk_int hy; cases h; exact ⟨rfl, by simp⟩
    | str j => cases pk_str hy; cases h; exact ⟨rfl, by simp⟩
    | bl j => cases pk_bl hy; cases h; exact ⟨rfl, by simp⟩
    | non => cases (show Rp r Hs y .non from hy); cases h; exact ⟨rfl, by simp⟩
    | _ => cases h
  | _ => cases h
theorem flat_ok {v : V} {d : D} (h : Rp r Hs v d) (f : flD d = true) : flatV v = true := by
  cases h <;> first | rfl | cases f
theorem flats_ok : ∀ {vs : List V} {ds : List D}, Rps r Hs vs ds → ds.all flD = true → vs.all flatV = true
  | _, _, .nil, _ => rfl
  | _, _, .cons h t, f => by
    rw [List.all_cons] at f ⊢
    obtain ⟨f1, f2⟩ := b2 f
    rw [flat_ok h f1, flats_ok t f2]
    rfl
theorem eqF_ok {v w : V} {d e : D} (h : Rp r Hs v d) (h' : Rp r Hs w e) (f : flD d = true) (f' : flD e = true) : eqV v w = eqF d e := by
  cases h with
  | non => cases h' <;> first | rfl | cases f'
  | bl b => cases h' <;> first | rfl | cases f'
  | int b => cases h' <;> first | rfl | cases f'
  | str b => cases h' <;> first | rfl | cases f'
  | lst _ _ _ => cases f
  | tup _ _ _ => cases f
  | dic _ _ _ _ => cases f
  | ins _ _ _ => cases f
  | rng _ => cases f
  | cst _ => cases f
theorem same_ok {kvs : List (Key × V)} {es : List (Key × D)} {ls : List (Key × V)} {fs : List (Key × D)} (h1 : kvs.map (·.1) = es.map (·.1)) (h2 : Rps r Hs (kvs.map (·.2)) (es.map (·.2))) (g1 : ls.map (·.1) = fs.map (·.1)) (g2 : Rps r Hs (ls.map (·.2)) (fs.map (·.2)))
    (fe : (es.map (·.2)).all flD = true) (ff : (fs.map (·.2)).all flD = true) : sameKV kvs ls = sameD es fs := by
  unfold sameKV sameD
  rw [kv_len h1, kv_len g1]
  congr 1
  induction kvs generalizing es with
  | nil =>
    cases es with
    | nil => rfl
    | cons _ _ => cases h1
  | cons p ps ih =>
    cases es with
    | nil => cases h1
    | cons q qs =>
      rw [List.map_cons, List.map_cons] at h1 h2
      obtain ⟨e1, e2⟩ := List.cons.inj h1
      have e1 : p.1 = q.1 := e1
      cases h2 with
      | cons r1 r2 =>
        rw [List.map_cons, List.all_cons] at fe
        obtain ⟨f1, f2⟩ := b2 fe
        rw [List.all_cons, List.all_cons, ih e2 r2 f2]
        congr 1
        have g := get_rep (k := q.1) g1 g2
        rw [e1]
        cases eg : getD fs q.1 with
        | none => rw [eg] at g; rw [g]
        | some d =>
          rw [eg] at g
          obtain ⟨v, hv, rv⟩ := g
          rw [hv]
          refine eqF_ok r1 rv f1 ?_
          unfold getD at eg
          cases e3 : fs.find? (fun kv => decide (kv.1 = q.1)) with
          | none => rw [e3] at eg; cases eg
          | some z =>
            rw [e3] at eg
            cases eg
            exact List.all_eq_true.mp ff z.2 (List.mem_map.mpr ⟨z, List.mem_of_find?_eq_some e3, rfl⟩)
def eqN (K : PySem.W.Frag) (neg : Bool) : R2 := match neg with
  | true => neR K
  | false => eqR K
theorem eqv_ok (K : PySem.W.Frag) (neg : Bool) (r : Option Addr) (Hs H : Hp) (x y : V) (dx dy : D) (P : D → Prop) (Q : VK) (o : Ok r Hs H) (hx : Pk r Hs H x dx) (hy : Pk r Hs H y dy) (hu : eqvD neg dx dy P) (k : Kv r Hs H P Q) : eqN K neg x y H Q := by
  unfold eqvD at hu
  cases es : scD dx dy with
  | some b =>
    rw [es] at hu
    obtain ⟨h1, h2⟩ := scD_ok hx hy es
    cases neg with
    | true => exact ne_sc h1 (kv_here k o (.bl _) (by rw [h2]; exact hu))
    | false => exact eq_sc h1 (kv_here k o (.bl _) (by rw [h2]; exact hu))
  | none =>
    rw [es] at hu
    have gen : (∃ p q, toPy dx = some p ∧ toPy dy = some q ∧ noDic dx = true ∧ noDic dy = true ∧ SeqAt.shaped p = true ∧ SeqAt.shaped q = true ∧ P (.bl (if neg then !PyData.eqv p q else PyData.eqv p q))) → eqN K neg x y H Q := fun ⟨p, q, e1, e2, n1, n2, s1, s2, hp⟩ => by
      have d1 := rp_dp (K := K) (hx.rp o) e1 n1
      have d2 := rp_dp (K := K) (hy.rp o) e2 n2
      cases neg with
      | true => show neR K x y H Q; unfold neR; exact .inr (.inl ⟨p, q, d1, d2, s1, s2, kv_here k o (.bl _) hp⟩)
      | false => show eqR K x y H Q; unfold eqR; exact .inr (.inl ⟨p, q, d1, d2, s1, s2, kv_here k o (.bl _) hp⟩)
    cases dx with
    | dic es1 =>
      cases dy with
      | dic fs1 =>
        obtain ⟨a, kvs, rfl, _, ea, _, h1, h2⟩ := hx
        obtain ⟨b, ls, rfl, _, eb, _, g1, g2⟩ := hy
        obtain ⟨f1, f2, hp⟩ := hu
        have hs := same_ok h1 h2 g1 g2 f1 f2
        cases neg with
        | true => show neR K _ _ H Q; unfold neR; exact .inr (.inr ⟨a, b, kvs, ls, rfl, rfl, ea, eb, flats_ok h2 f1, flats_ok g2 f2, kv_here k o (.bl _) (by rw [hs]; exact hp)⟩)
        | false => show eqR K _ _ H Q; unfold eqR; exact .inr (.inr ⟨a, b, kvs, ls, rfl, rfl, ea, eb, flats_ok h2 f1, flats_ok g2 f2, kv_here k o (.bl _) (by rw [hs]; exact hp)⟩)
      | _ => exact gen hu
    | _ => exact gen (by cases dy <;> exact hu)
def opEq (K : PySem.W.Frag) : Op := ⟨eqR K, eqvD false, fun r Hs H x y dx dy P Q o hx hy hu k => eqv_ok K false r Hs H x y dx dy P Q o hx hy hu k⟩
def opNe (K : PySem.W.Frag) : Op := ⟨neR K, eqvD true, fun r Hs H x y dx dy P Q o hx hy hu k => eqv_ok K true r Hs H x y dx dy P Q o hx hy hu k⟩
/-! ### in -/
def signOf (z : Str) : Option Nat := match z.cps.toList with
  | [c] => some c
  | _ => none
theorem signOf_eq {z : Str} {c : Nat} (h : signOf z = some c) : z = ⟨#[c]⟩ := by
  obtain ⟨a⟩ := z
  unfold signOf at h
  cases e : a.toList with
  | nil => simp only [e] at h; cases h
  | cons x xs =>
    cases xs with
    | nil =>
      simp only [e] at h
      cases h
      have : a = #[c] := by rw [← Array.toArray_toList (xs := a), e]
      rw [this]
    | cons _ _ => simp only [e] at h; cases h
def inD (neg : Bool) (x y : D) (P : D → Prop) : Prop := match y with
  | .str z => (match x with
    | .str i => (match signOf i with
      | some c => P (.bl (if neg then !decide (c ∈ z.cps.toList) else decide (c ∈ z.cps.toList)))
      | none => P (.bl (if neg then !(!(Builtin.Str.occurrences z i 0 z.length 1).isEmpty) else !(Builtin.Str.occurrences z i 0 z.length 1).isEmpty)))
    | _ => False)
  | .dic es => (match keyD x with
    | some k => P (.bl (if neg then !(getD es k).isSome else (getD es k).isSome))
    | none => False)
  | .lst ds => flD x = true ∧ ds.all flD = true ∧ P (.bl (if neg then !(ds.any fun d => eqF d x) else ds.any fun d => eqF d x))
  | .tup ds => flD x = true ∧ ds.all flD = true ∧ P (.bl (if neg then !(ds.any fun d => eqF d x) else ds.any fun d => eqF d x))
  | _ => False
theorem any_ok {x : V} {dx : D} (hx : Rp r Hs x dx) (f : flD dx = true) : ∀ {vs : List V} {ds : List D}, Rps r Hs vs ds → ds.all flD = true → inV x vs = ds.any fun d => eqF d dx
  | _, _, .nil, _ => rfl
  | _, _, .cons h t, g => by
    rw [List.all_cons] at g
    obtain ⟨g1, g2⟩ := b2 g
    have e := any_ok hx f t g2
    unfold inV at e ⊢
    rw [List.any_cons, List.any_cons, e, eqF_ok h hx g1 f]
theorem fl_rp {v : V} {d : D} (h : Pk r Hs H v d) (f : flD d = true) : Rp r Hs v d := by
  cases d <;> first | exact h | cases f
def inN (K : PySem.W.Frag) (neg : Bool) : R2 := match neg with
  | true => ninR K
  | false => inR K
theorem inN_i (K : PySem.W.Frag) {neg : Bool} {x y : V} {Q : VK} (h : (match neg with | true => rNotInS x y H Q | false => rInS x y H Q) ∨ rInT neg x y H Q ∨ rInD1 neg x y H Q ∨ rIn K neg x y H Q) : inN K neg x y H Q := by
  cases neg with
  | true => show ninR K x y H Q; unfold ninR; exact h
  | false => show inR K x y H Q; unfold inR; exact h
theorem in_ok (K : PySem.W.Frag) (neg : Bool) (r : Option Addr) (Hs H : Hp) (x y : V) (dx dy : D) (P : D → Prop) (Q : VK) (o : Ok r Hs H) (hx : Pk r Hs H x dx) (hy : Pk r Hs H y dy) (hu : inD neg dx dy P) (k : Kv r Hs H P Q) : inN K neg x y H Q := by
  refine inN_i K ?_
  cases dy with
  | str z =>
    cases pk_str hy
    unfold inD at hu
    cases dx with
    | str i =>
      cases pk_str hx
      cases es : signOf i with
      | some c =>
        simp only [es] at hu
        cases signOf_eq es
        refine .inl ?_
        cases neg with
        | true => exact ⟨_, z, rfl, rfl, kv_here k o (.bl _) hu⟩
        | false => exact ⟨_, z, rfl, rfl, kv_here k o (.bl _) hu⟩
      | none =>
        simp only [es] at hu
        exact .inr (.inl ⟨_, z, rfl, rfl, kv_here k o (.bl _) hu⟩)
    | _ => exact (show False from hu).elim
  | dic es =>
    obtain ⟨a, kvs, rfl, _, e, _, h1, h2⟩ := hy
    have hu : (match keyD dx with | some k => P (.bl (if neg then !(getD es k).isSome else (getD es k).isSome)) | none => False) := hu
    cases ek : keyD dx with
    | none => rw [ek] at hu; exact hu.elim
    | some kk =>
      rw [ek] at hu
      have hu : P (.bl (if neg then !(getD es kk).isSome else (getD es kk).isSome)) := hu
      cases key_kVk hx ek
      have g := get_rep (k := kk) h1 h2
      have hs : (valV kvs kk).isSome = (getD es kk).isSome := by
        cases eg : getD es kk with
        | none => rw [eg] at g; rw [g]; rfl
        | some d => rw [eg] at g; obtain ⟨v, hv, _⟩ := g; rw [hv]; rfl
      exact .inr (.inr (.inl ⟨a, valV kvs kk, rfl, .inl ⟨kvs, kk, e, rfl, rfl⟩, kv_here k o (.bl _) (by rw [hs]; exact hu)⟩))
  | lst ds =>
    obtain ⟨p, xs, rfl, e, z, t⟩ := pk_lst hy
    obtain ⟨f1, f2, hp⟩ := hu
    have hr := fl_rp hx f1
    exact .inr (.inr (.inr ⟨p, xs, rfl, .inl (.inl (.inl e)), flat_ok hr f1, flats_ok t f2, kv_here k o (.bl _) (by rw [any_ok hr f1 t f2]; exact hp)⟩))
  | tup ds =>
    cases (show Rp r Hs y (.tup ds) from hy) with
    | tup e z t =>
      obtain ⟨f1, f2, hp⟩ := hu
      have hr := fl_rp hx f1
      exact .inr (.inr (.inr ⟨_, _, rfl, .inr (.inl (.inl (o.sub _ _ e))), flat_ok hr f1, flats_ok t f2, kv_here k o (.bl _) (by rw [any_ok hr f1 t f2]; exact hp)⟩))
  | _ => exact (show False from hu).elim
def opIn (K : PySem.W.Frag) : Op := ⟨inR K, inD false, fun r Hs H x y dx dy P Q o hx hy hu k => in_ok K false r Hs H x y dx dy P Q o hx hy hu k⟩
def opNin (K : PySem.W.Frag) : Op := ⟨ninR K, inD true, fun r Hs H x y dx dy P Q o hx hy hu k => in_ok K true r Hs H x y dx dy P Q o hx hy hu k⟩
end
end AS

set_option Elab.async false
set_option linter.all false
set_option maxRecDepth 100000
set_option maxHeartbeats 4000000
/-! P11: built-in functions and methods by data. -/
namespace AS
open PySem PySem.Spec PyProof.Rows L2
section
variable {r : Option Addr} {Hs H : Hp}
theorem pks1 {vs : List V} {d : D} (h : Pks r Hs H vs [d]) : ∃ v, vs = [v] ∧ Pk r Hs H v d := by
  cases h with
  | cons h1 t => cases t; exact ⟨_, rfl, h1⟩
theorem pks2 {vs : List V} {d e : D} (h : Pks r Hs H vs [d, e]) : ∃ v w, vs = [v, w] ∧ Pk r Hs H v d ∧ Pk r Hs H w e := by
  cases h with
  | cons h1 t =>
    obtain ⟨w, rfl, h2⟩ := pks1 t
    exact ⟨_, _, rfl, h1, h2⟩
/-! ### len -/
def spLenD (K : PySem.W.Frag) : Sp := fun vs H Q _ => rLenG K vs H Q ∨ ∃ a kvs, vs = [V.ref a] ∧ Rd H a (.dK kvs) ∧ Q (.int kvs.length) H
def lenD (d : D) (P : D → Prop) : Prop := match d with
  | .str x => x.length ≤ sizeLine ∧ P (.int x.length)
  | .lst ds => P (.int ds.length)
  | .tup ds => P (.int ds.length)
  | .dic es => P (.int es.length)
  | _ => False
theorem len_ok {K : PySem.W.Frag} {v : V} {d : D} {P : D → Prop} {Q : VK} {E : XK} (o : Ok r Hs H) (h : Pk r Hs H v d) (hu : lenD d P) (k : Kv r Hs H P Q) : spLenD K [v] H Q E := by
  cases d with
  | str x => cases pk_str h; exact .inl ⟨_, _, rfl, ⟨hu.1, rfl⟩, kv_here k o (.int _) hu.2⟩
  | lst ds =>
    obtain ⟨p, xs, rfl, e, z, t⟩ := pk_lst h
    refine .inl ⟨_, _, rfl, .inl ⟨xs, .inl (.inl e), rfl⟩, kv_here k o (.int _) ?_⟩
    rw [t.len]; exact hu
  | tup ds =>
    cases (show Rp r Hs v (.tup ds) from h) with
    | tup e z t =>
      refine .inl ⟨_, _, rfl, .inr ⟨_, .inl (.inl (o.sub _ _ e)), rfl⟩, kv_here k o (.int _) ?_⟩
      rw [t.len]; exact hu
  | dic es =>
    obtain ⟨a, kvs, rfl, _, e, z, h1, h2⟩ := h
    refine .inr ⟨a, kvs, rfl, e, kv_here k o (.int _) ?_⟩
    rw [kv_len h1]; exact hu
  | _ => exact (show False from hu).elim
def fdLen (K : PySem.W.Frag) : Fd := ⟨spLenD K, true, false, fun ds P _ => match ds with | [d] => lenD d P | _ => False, fun r Hs H vs ds P X Q E o a hu k x => by
  match ds, a, hu with
  | [d], a, hu =>
    obtain ⟨v, rfl, h⟩ := pks1 a
    exact len_ok o h hu k⟩
/-- .. of own objects, too -/
def lenOD (C : Addr) (f : Fd) (ds : List D) (P : D → Prop) (X : XD) : Prop := match ds with
  | [d] => (match d with
    | .ins C' gs => C' = C ∧ f.u [.ins C' gs] (fun d => ∃ n : Int, d = .int n ∧ 0 ≤ n ∧ n < 2 ^ 63 ∧ P d) X
    | d => lenD d P)
  | _ => False
def fdLenO (K : PySem.W.Frag) (C : Addr) (f : Fd) (hb : f.bor = false) (hf : f.fr = false) : Fd := ⟨fun vs H Q E => spLenD K vs H Q E ∨ rLenI C f.sp vs H Q E, false, false, fun ds P X => lenOD C f ds P X, fun r Hs H vs ds P X Q E o a hu k x => by
  have a : Rps r Hs vs ds := a
  match ds, a, hu with
  | [d], a, hu =>
    obtain ⟨v, rfl, h⟩ := pks1 (a.pks o)
    cases d with
    | ins C' gs =>
      cases a with
      | cons h1 t =>
        cases t
        cases h1 with
        | @ins b _ dx fs gs e q t =>
          have hu : C' = C ∧ f.u [.ins C' gs] (fun d => ∃ n : Int, d = .int n ∧ 0 ≤ n ∧ n < 2 ^ 63 ∧ P d) X := hu
          obtain ⟨hc, hu2⟩ := hu
          subst hc
          refine .inr ⟨b, dx, fs, rfl, o.sub _ _ e, ?_⟩
          have kr : Kv r Hs H (fun d => ∃ n : Int, d = .int n ∧ 0 ≤ n ∧ n < 2 ^ 63 ∧ P d) (fun v H' => ∃ n : Int, v = .int n ∧ 0 ≤ n ∧ n < 2 ^ 63 ∧ Q v H') := fun w d Hs' H' ⟨n, ed, h0, h1, p⟩ s o' hr => by
            subst ed
            cases hr
            exact ⟨n, rfl, h0, h1, k _ _ Hs' H' p s o' (.int _)⟩
          exact f.ok r Hs H _ _ _ X _ _ o (by rw [hb]; exact .cons (.ins e q t) .nil) hu2 (by rw [hf]; exact kr) x
    | _ => exact .inl (len_ok o h hu k)⟩
/-! ### isinstance -/
structure InsOk (K : PySem.W.Frag) (C : Addr) : Prop where
  cl : Cls K C
  ha : PySem.W.findIn K (.ref C) "__class__" = some (some (.builtin "object.__class__"))
  hn : PySem.W.specialIn K (.builtin "object.__class__") "__get__" = some (some (.builtin "getset_descriptor.__get__"))
  htk : PySem.W.takesIn K (.builtin "object.__class__") = some true
  hm : PySem.W.mroIn K C (.type "object") = some true
def tyD : D → Option Value
  | .non => some (.type "NoneType")
  | .bl _ => some (.type "bool")
  | .int _ => some (.type "int")
  | .str _ => some (.type "str")
  | .lst _ => some (.type "list")
  | .tup _ => some (.type "tuple")
  | .dic _ => some (.type "dict")
  | .ins C _ => some (.ref C)
  | _ => none
def clsD : D → Option Value
  | .cst (.ty n) => some (.type n)
  | .cst (.ref C) => some (.ref C)
  | _ => none
theorem tyD_ok {K : PySem.W.Frag} {v : V} {d : D} {t : Value} (ic : ∀ C gs, d = .ins C gs → InsOk K C) (o : Ok r Hs H) (h : Pk r Hs H v d) (e : tyD d = some t) : TyX K H v t := by
  have h := h.rp o
  cases h with
  | non => cases e; exact .base .non
  | bl b => cases e; exact .base (.bl b)
  | int b => cases e; exact .base (.int b)
  | str b => cases e; exact .base (.str b)
  | lst q _ _ => cases e; exact .base (.lst q)
  | tup q _ _ => cases e; exact .base (.tup q)
  | dic q _ _ _ =>
    cases e
    rcases q with q | ⟨_, q⟩
    · exact .base (.dK q)
    · exact .fDict q
  | ins q _ _ =>
    cases e
    have c := ic _ _ rfl
    exact .base (.ins q c.cl c.ha c.hn c.htk c.hm)
  | rng _ => cases e
  | cst _ => cases e
def insOkD (K : PySem.W.Frag) : D → Prop
  | .ins C _ => InsOk K C
  | _ => True
def isiD (K : PySem.W.Frag) (d c : D) (P : D → Prop) : Prop := insOkD K d ∧ (match tyD d, clsD c with
  | some t, some u => (match PySem.W.kitOne K t u with
    | some b => P (.bl b)
    | none => False)
  | _, _ => False)
def fdIsi (K : PySem.W.Frag) : Fd := ⟨fun vs H Q _ => rIsi K vs H Q, true, false, fun ds P _ => match ds with | [d, c] => isiD K d c P | _ => False, fun r Hs H vs ds P X Q E o a hu k x => by
  match ds, a, hu with
  | [d, c], a, hu =>
    obtain ⟨v, w, rfl, h, hw⟩ := pks2 a
    obtain ⟨h0, hu⟩ := hu
    cases e1 : tyD d with
    | none => rw [e1] at hu; exact hu.elim
    | some t =>
      cases e2 : clsD c with
      | none => rw [e1, e2] at hu; exact hu.elim
      | some u =>
        rw [e1, e2] at hu
        have hu : (match PySem.W.kitOne K t u with | some b => P (.bl b) | none => False) := hu
        cases e3 : PySem.W.kitOne K t u with
        | none => rw [e3] at hu; exact hu.elim
        | some b =>
          rw [e3] at hu
          have hcv : ClsV w u := by
            cases c with
            | cst z =>
              cases pk_cst hw
              cases w with
              | ty n => cases e2; exact .ty n
              | ref C => cases e2; exact .own C
              | _ => cases e2
            | _ => cases e2
          exact ⟨v, w, t, u, b, rfl, hcv, tyD_ok (fun C gs z => by subst z; exact h0) o h e1, e3, kv_here k o (.bl _) hu⟩⟩
/-! ### all, any -/
def boolsD : List D → Option (List Bool)
  | [] => some []
  | .bl b :: r => (boolsD r).map (b :: ·)
  | _ => none
theorem bools_ok : ∀ {vs : List V} {ds : List D} {bs : List Bool}, Rps r Hs vs ds → boolsD ds = some bs → vs = bs.map V.bl
  | _, _, _, .nil, h => by cases h; rfl
  | _, _, bs, .cons (d := d) (ds := ds) h1 t, h => by
    cases d with
    | bl b =>
      have h : (boolsD ds).map (b :: ·) = some bs := h
      cases e : boolsD ds with
      | none => rw [e] at h; cases h
      | some cs =>
        rw [e] at h
        cases h
        cases h1
        rw [bools_ok t e]
        rfl
    | _ => cases h
def allD (f : List Bool → Bool) (ds : List D) (P : D → Prop) : Prop := match ds with
  | [.lst ds] => (match boolsD ds with
    | some bs => P (.bl (f bs))
    | none => False)
  | _ => False
theorem all_ok {vs : List V} {ds : List D} {P : D → Prop} {f : List Bool → Bool} (o : Ok r Hs H) (a : Pks r Hs H vs ds) (hu : allD f ds P) : ∃ (p : Addr) (bs : List Bool), vs = [V.ref p] ∧ H p = some (.lst (bs.map V.bl)) ∧ P (.bl (f bs)) := by
  match ds, a, hu with
  | [.lst ds], a, hu =>
    obtain ⟨v, rfl, h⟩ := pks1 a
    obtain ⟨p, xs, rfl, e, z, t⟩ := pk_lst h
    have hu : (match boolsD ds with | some bs => P (.bl (f bs)) | none => False) := hu
    cases eb : boolsD ds with
    | none => rw [eb] at hu; exact hu.elim
    | some bs =>
      rw [eb] at hu
      refine ⟨p, bs, rfl, ?_, hu⟩
      rw [← bools_ok t eb]
      exact e
def fdAll (K : PySem.W.Frag) : Fd := ⟨fun vs H Q _ => rAll K vs H Q, true, false, fun ds P _ => allD (fun bs => bs.all id) ds P, fun r Hs H vs ds P X Q E o a hu k x => by
  obtain ⟨p, bs, rfl, e, hp⟩ := all_ok o a hu
  exact ⟨p, bs, rfl, .inl (.inl e), kv_here k o (.bl _) hp⟩⟩
def fdAny (K : PySem.W.Frag) : Fd := ⟨fun vs H Q _ => rAny K vs H Q, true, false, fun ds P _ => allD (fun bs => bs.any id) ds P, fun r Hs H vs ds P X Q E o a hu k x => by
  obtain ⟨p, bs, rfl, e, hp⟩ := all_ok o a hu
  exact ⟨p, bs, rfl, .inl (.inl e), kv_here k o (.bl _) hp⟩⟩
/-! ### repr -/
def reprD (ds : List D) (P : D → Prop) : Prop := match ds with
  | [d] => ∃ p, toPy d = some p ∧ p.showable = true ∧ p.depth ≤ 100 ∧ p.shown.length ≤ sizeLine ∧ P (.str p.shown)
  | _ => False
def fdRepr (K : PySem.W.Frag) : Fd := ⟨fun vs H Q _ => rRepr K vs H Q, true, false, fun ds P _ => reprD ds P, fun r Hs H vs ds P X Q E o a hu k x => by
  match ds, a, hu with
  | [d], a, hu =>
    obtain ⟨v, rfl, h⟩ := pks1 a
    obtain ⟨p, e, h1, h2, h3, hp⟩ := hu
    exact ⟨v, p, rfl, rp_dt (h.rp o) e, h1, h2, h3, kv_here k o (.str _) hp⟩⟩
/-! ### sorted -/
def strsD : List D → Option (List Str)
  | [] => some []
  | .str x :: r => (strsD r).map (x :: ·)
  | _ => none
def intsD : List D → Option (List Int)
  | [] => some []
  | .int x :: r => (intsD r).map (x :: ·)
  | _ => none
theorem strs_ok : ∀ {vs : List V} {ds : List D} {bs : List Str}, Rps r Hs vs ds → strsD ds = some bs → vs = bs.map V.str
  | _, _, _, .nil, h => by cases h; rfl
  | _, _, bs, .cons (d := d) (ds := ds) h1 t, h => by
    cases d with
    | str b =>
      have h : (strsD ds).map (b :: ·) = some bs := h
      cases e : strsD ds with
      | none => rw [e] at h; cases h
      | some cs =>
        rw [e] at h
        cases h
        cases h1
        rw [strs_ok t e]
        rfl
    | _ => cases h
theorem ints_ok : ∀ {vs : List V} {ds : List D} {bs : List Int}, Rps r Hs vs ds → intsD ds = some bs → vs = bs.map V.int
  | _, _, _, .nil, h => by cases h; rfl
  | _, _, bs, .cons (d := d) (ds := ds) h1 t, h => by
    cases d with
    | int b =>
      have h : (intsD ds).map (b :: ·) = some bs := h
      cases e : intsD ds with
      | none => rw [e] at h; cases h
      | some cs =>
        rw [e] at h
        cases h
        cases h1
        rw [ints_ok t e]
        rfl
    | _ => cases h
def keyStrs : List (Key × D) → Option (List Str)
  | [] => some []
  | (.inr x, _) :: r => (keyStrs r).map (x :: ·)
  | _ => none
theorem keyStrs_ok : ∀ {es : List (Key × D)} {ks : List Str}, keyStrs es = some ks → es.map (·.1) = ks.map Sum.inr
  | [], _, h => by cases h; rfl
  | (.inl _, _) :: _, _, h => by cases h
  | (.inr x, _) :: r, ks, h => by
    have h : (keyStrs r).map (x :: ·) = some ks := h
    cases e : keyStrs r with
    | none => rw [e] at h; cases h
    | some cs =>
      rw [e] at h
      cases h
      rw [List.map_cons, List.map_cons, keyStrs_ok e]
theorem rps_strs {ys : List Str} : Rps r Hs (ys.map V.str) (ys.map D.str) := by
  induction ys with
  | nil => exact .nil
  | cons y ys ih => exact .cons (.str y) ih
theorem rps_ints {ys : List Int} : Rps r Hs (ys.map V.int) (ys.map D.int) := by
  induction ys with
  | nil => exact .nil
  | cons y ys ih => exact .cons (.int y) ih
def sortD (ds : List D) (P : D → Prop) : Prop := match ds with
  | [.dic es] => (match keyStrs es with
    | some ks => ks.length < 64 ∧ ∀ ys : List Str, ys.Perm ks → sortedS ys = true → P (.lst (ys.map D.str))
    | none => False)
  | [.lst ds] => (match strsD ds with
    | some ks => ks.length < 64 ∧ ∀ ys : List Str, ys.Perm ks → sortedS ys = true → P (.lst (ys.map D.str))
    | none => (match intsD ds with
      | some ks => ks.length < 64 ∧ ∀ ys : List Int, ys.Perm ks → ys.Pairwise (· ≤ ·) → P (.lst (ys.map D.int))
      | none => False))
  | _ => False
theorem lt64 {n : Nat} (h : n < 64) : n ≤ sizeLine := by have : (64 : Nat) ≤ sizeLine := by decide
                                                         omega
def fdSorted (K : PySem.W.Frag) : Fd := ⟨fun vs H Q _ => rSrt K vs H Q, true, true, fun ds P _ => sortD ds P, fun r Hs H vs ds P X Q E o a hu k x => by
  have k : Kf r Hs H P Q := k
  have fs : ∀ {ys : List Str} {p : Addr}, ys.length < 64 → H p = none → P (.lst (ys.map D.str)) → Q (.ref p) (upd H p (.lst (ys.map V.str))) := fun {ys p} hl hp q => kf_new (d := .lst (ys.map D.str)) k o hp ⟨_, upd_same, by rw [List.length_map]; exact lt64 hl, rps_strs⟩ q
  match ds, a, hu with
  | [.dic es], a, hu =>
    obtain ⟨v, rfl, h⟩ := pks1 a
    obtain ⟨b, kvs, rfl, _, e, z, h1, h2⟩ := h
    have hu : (match keyStrs es with | some ks => ks.length < 64 ∧ ∀ ys : List Str, ys.Perm ks → sortedS ys = true → P (.lst (ys.map D.str)) | none => False) := hu
    cases ek : keyStrs es with
    | none => rw [ek] at hu; exact hu.elim
    | some ks =>
      rw [ek] at hu
      exact .inl ⟨b, kvs, ks, rfl, e, h1.trans (keyStrs_ok ek), hu.1, fun ys p hp hs hn => fs (by rw [hp.length_eq]; exact hu.1) hn (hu.2 ys hp hs)⟩
  | [.lst ds], a, hu =>
    obtain ⟨v, rfl, h⟩ := pks1 a
    obtain ⟨b, xs, rfl, e, z, t⟩ := pk_lst h
    have hu : (match strsD ds with | some ks => ks.length < 64 ∧ ∀ ys : List Str, ys.Perm ks → sortedS ys = true → P (.lst (ys.map D.str)) | none => (match intsD ds with | some ks => ks.length < 64 ∧ ∀ ys : List Int, ys.Perm ks → ys.Pairwise (· ≤ ·) → P (.lst (ys.map D.int)) | none => False)) := hu
    cases ek : strsD ds with
    | some ks =>
      rw [ek] at hu
      exact .inr (.inl ⟨b, ks, rfl, by rw [← strs_ok t ek]; exact .inl (.inl e), hu.1, fun ys p hp hs hn => fs (by rw [hp.length_eq]; exact hu.1) hn (hu.2 ys hp hs)⟩)
    | none =>
      rw [ek] at hu
      have hu : (match intsD ds with | some ks => ks.length < 64 ∧ ∀ ys : List Int, ys.Perm ks → ys.Pairwise (· ≤ ·) → P (.lst (ys.map D.int)) | none => False) := hu
      cases ei : intsD ds with
      | none => rw [ei] at hu; exact hu.elim
      | some ks =>
        rw [ei] at hu
        exact .inr (.inr ⟨b, ks, rfl, by rw [← ints_ok t ei]; exact .inl (.inl e), hu.1, fun ys p hp hs hn => kf_new (d := .lst (ys.map D.int)) k o hn ⟨_, upd_same, by rw [List.length_map, hp.length_eq]; exact lt64 hu.1, rps_ints⟩ (hu.2 ys hp hs)⟩)⟩
/-! ### dict, list -/
def pairsD : List D → Option (List (Key × D))
  | [] => some []
  | .tup [k, d] :: r => (match keyD k, pairsD r with
    | some k, some es => some ((k, d) :: es)
    | _, _ => none)
  | _ => none
theorem pairs_ok : ∀ {vs : List V} {ds : List D} {es : List (Key × D)}, Rps r Hs vs ds → pairsD ds = some es → ∃ (ps : List Addr) (kvs : List (Key × V)), vs = ps.map V.ref ∧ kvs.map (·.1) = es.map (·.1) ∧ Rps r Hs (kvs.map (·.2)) (es.map (·.2)) ∧ Paired (fun p kv => Hs p = some (.tup [kV kv.1, kv.2])) ps kvs
  | _, _, _, .nil, h => by cases h; exact ⟨[], [], rfl, rfl, .nil, .nil⟩
  | _, _, es, .cons (d := d) (ds := ds) h1 t, h => by
    cases h1 with
    | @tup a xs dd e z tt =>
      match dd, tt, h with
      | [k, x], tt, h =>
        have h : (match keyD k, pairsD ds with | some k, some es => some ((k, x) :: es) | _, _ => none) = some es := h
        cases ek : keyD k with
        | none => rw [ek] at h; cases h
        | some kk =>
          cases ep : pairsD ds with
          | none => rw [ek, ep] at h; cases h
          | some fs =>
            rw [ek, ep] at h
            cases h
            obtain ⟨ps, kvs, rfl, i1, i2, i3⟩ := pairs_ok t ep
            cases tt with
            | cons q1 q2 =>
              cases q2 with
              | cons q3 q4 =>
                cases q4
                cases key_kV q1 ek
                exact ⟨a :: ps, (kk, _) :: kvs, rfl, by rw [List.map_cons, List.map_cons, i1], .cons q3 i2, .cons e i3⟩
    | _ => cases h
def dictD (ds : List D) (P : D → Prop) : Prop := match ds with
  | [.dic es] => P (.dic es)
  | [.lst ds] => (match pairsD ds with
    | some es => P (.dic (mergeD [] es))
    | none => False)
  | _ => False
theorem pairsD_len : ∀ {ds : List D} {es : List (Key × D)}, pairsD ds = some es → es.length = ds.length
  | [], _, h => by cases h; rfl
  | d :: ds, es, h => by
    cases d with
    | tup dd =>
      match dd, h with
      | [k, x], h =>
        have h : (match keyD k, pairsD ds with | some k, some es => some ((k, x) :: es) | _, _ => none) = some es := h
        cases ek : keyD k with
        | none => rw [ek] at h; cases h
        | some kk =>
          cases ep : pairsD ds with
          | none => rw [ek, ep] at h; cases h
          | some fs => rw [ek, ep] at h; cases h; rw [List.length_cons, List.length_cons, pairsD_len ep]
    | _ => cases h
def fdDict (K : PySem.W.Frag) : Fd := ⟨fun vs H Q _ => rDct K vs H Q, true, true, fun ds P _ => dictD ds P, fun r Hs H vs ds P X Q E o a hu k x => by
  have k : Kf r Hs H P Q := k
  match ds, a, hu with
  | [.dic es], a, hu =>
    obtain ⟨v, rfl, h⟩ := pks1 a
    obtain ⟨b, kvs, rfl, _, e, z, h1, h2⟩ := h
    exact .inl ⟨b, kvs, rfl, e, fun p hp => kf_new (d := .dic es) k o hp ⟨_, upd_same, z, h1, h2⟩ hu⟩
  | [.lst ds], a, hu =>
    obtain ⟨v, rfl, h⟩ := pks1 a
    obtain ⟨b, xs, rfl, e, z, t⟩ := pk_lst h
    have hu : (match pairsD ds with | some es => P (.dic (mergeD [] es)) | none => False) := hu
    cases ep : pairsD ds with
    | none => rw [ep] at hu; exact hu.elim
    | some es =>
      rw [ep] at hu
      obtain ⟨ps, kvs, rfl, i1, i2, i3⟩ := pairs_ok t ep
      refine .inr ⟨b, ps, kvs, rfl, .inl (.inl e), Paired.mapP i3 fun p kv q => .inl (.inl (o.sub _ _ q)), fun p hp => ?_⟩
      obtain ⟨j1, j2⟩ := merge_rep (kvs := []) (es := []) i1 i2 rfl .nil
      have hl := mergeD_len es []
      have he := pairsD_len ep
      exact kf_new (d := .dic (mergeD [] es)) k o hp ⟨_, upd_same, by simp only [List.length_nil, Nat.zero_add] at hl; omega, j1, j2⟩ hu⟩
def spList (K : PySem.W.Frag) : Sp := fun vs H Q _ => rListR vs H Q ∨ rLstS K vs H Q
def listD (ds : List D) (P : D → Prop) : Prop := match ds with
  | [.dic es] => P (.lst (es.map fun e => kD e.1))
  | [.lst ds] => P (.lst ds)
  | [.tup ds] => P (.lst ds)
  | _ => False
theorem rps_keys : ∀ {kvs : List (Key × V)} {es : List (Key × D)}, kvs.map (·.1) = es.map (·.1) → Rps r Hs (kvs.map fun kv => kV kv.1) (es.map fun e => kD e.1)
  | [], [], _ => .nil
  | [], _ :: _, h => by cases h
  | _ :: _, [], h => by cases h
  | p :: ps, q :: qs, h => by
    rw [List.map_cons, List.map_cons] at h
    obtain ⟨e1, e2⟩ := List.cons.inj h
    have e1 : p.1 = q.1 := e1
    rw [List.map_cons, List.map_cons, e1]
    exact .cons (rp_kD _) (rps_keys e2)
def fdList (K : PySem.W.Frag) : Fd := ⟨spList K, true, true, fun ds P _ => listD ds P, fun r Hs H vs ds P X Q E o a hu k x => by
  have k : Kf r Hs H P Q := k
  match ds, a, hu with
  | [.dic es], a, hu =>
    obtain ⟨v, rfl, h⟩ := pks1 a
    obtain ⟨b, kvs, rfl, _, e, z, h1, h2⟩ := h
    exact .inl ⟨b, kvs, rfl, e, fun p hp => kf_new (d := .lst (es.map fun (e : Key × D) => kD e.1)) k o hp ⟨_, upd_same, by rw [List.length_map]; exact z, rps_keys h1⟩ hu⟩
  | [.lst ds], a, hu =>
    obtain ⟨v, rfl, h⟩ := pks1 a
    obtain ⟨b, xs, rfl, e, z, t⟩ := pk_lst h
    exact .inr ⟨b, xs, rfl, .inl (.inl (.inl e)), fun p hp => kf_new (d := .lst ds) k o hp ⟨_, upd_same, z, t⟩ hu⟩
  | [.tup ds], a, hu =>
    obtain ⟨v, rfl, h⟩ := pks1 a
    cases (show Rp r Hs v (.tup ds) from h) with
    | tup e z t => exact .inr ⟨_, _, rfl, .inr (.inl (.inl (o.sub _ _ e))), fun p hp => kf_new (d := .lst ds) k o hp ⟨_, upd_same, z, t⟩ hu⟩⟩
/-! ### numbers -/
def fdI1 (sp : Sp) (f : Int → D) (h : ∀ (i : Int) (H : Hp) (Q : VK) (E : XK) (r : Option Addr) (Hs : Hp), (∀ v, Rp r Hs v (f i) → Q v H) → sp [.int i] H Q E) : Fd := ⟨sp, true, false, fun ds P _ => match ds with | [.int i] => P (f i) | _ => False, fun r Hs H vs ds P X Q E o a hu k x => by
  match ds, a, hu with
  | [.int i], a, hu =>
    obtain ⟨v, rfl, hv⟩ := pks1 a
    cases pk_int hv
    exact h i H Q E r Hs fun w hw => kv_here k o hw hu⟩
def fdI2 (sp : Sp) (f : Int → Int → D) (h : ∀ (i j : Int) (H : Hp) (Q : VK) (E : XK) (r : Option Addr) (Hs : Hp), (∀ v, Rp r Hs v (f i j) → Q v H) → sp [.int i, .int j] H Q E) : Fd := ⟨sp, true, false, fun ds P _ => match ds with | [.int i, .int j] => P (f i j) | _ => False, fun r Hs H vs ds P X Q E o a hu k x => by
  match ds, a, hu with
  | [.int i, .int j], a, hu =>
    obtain ⟨v, w, rfl, hv, hw⟩ := pks2 a
    cases pk_int hv
    cases pk_int hw
    exact h i j H Q E r Hs fun w hw => kv_here k o hw hu⟩
def fdAbs : Fd := fdI1 (fun vs H Q _ => rAbs vs H Q) (fun i => .int (if i < 0 then -i else i)) fun i H Q E r Hs k => ⟨i, rfl, k _ (.int _)⟩
def fdMax : Fd := fdI2 (fun vs H Q _ => rMax2 vs H Q) (fun i j => .int (if j > i then j else i)) fun i j H Q E r Hs k => ⟨i, j, rfl, k _ (.int _)⟩
def fdMin : Fd := fdI2 (fun vs H Q _ => rMin2 vs H Q) (fun i j => .int (if j < i then j else i)) fun i j H Q E r Hs k => ⟨i, j, rfl, k _ (.int _)⟩
def fdInt : Fd := fdI1 (fun vs H Q _ => rInt1 vs H Q) (fun i => .int i) fun i H Q E r Hs k => .inl ⟨i, rfl, k _ (.int _)⟩
/-! ### drawn numbers -/
def drawD (ds : List D) (P : D → Prop) : Prop := match ds with
  | [.rng, .int m] => 0 < m ∧ m < 1073741824 ∧ ∀ d : Int, 0 ≤ d → d < m → P (.int d)
  | _ => False
def fdDraw : Fd := ⟨sp_draw, false, false, fun ds P _ => drawD ds P, fun r Hs H vs ds P X Q E o a hu k x => by
  have a : Rps r Hs vs ds := a
  match ds, a, hu with
  | [.rng, .int m], a, hu =>
    cases a with
    | cons h1 t =>
      cases t with
      | cons h2 t =>
        cases t
        cases h2
        cases h1 with
        | @rng b e =>
          obtain ⟨m0, m1, hp⟩ := hu
          refine ⟨b, m, rfl, (o.rg b e).2, m0, m1, fun d H' d0 d1 hr hm => ?_⟩
          refine k _ _ Hs H' (hp d d0 d1) ⟨Ext.refl, fun c u n ec => hm c u (fun z => n (by rw [z]; exact e)) ec, fun _ _ _ n => n⟩ ⟨fun c u ec => hm c u (fun z => ?_) (o.sub c u ec), fun c hc => ?_⟩ (.int _)
          · rw [z, (o.rg b e).1] at ec
            cases ec
          · rw [e] at hc
            cases hc
            exact ⟨(o.rg b e).1, hr⟩⟩
end
end AS

set_option Elab.async false
set_option linter.all false
set_option maxRecDepth 100000
set_option maxHeartbeats 4000000
/-! P12: methods, classes, properties, own operators by data. -/
namespace AS
open PySem PySem.Spec PyProof.Rows L2 StX
/-! ### methods of texts and dicts -/
def isStrD : D → Bool
  | .str _ => true
  | _ => false
def isDicD : D → Bool
  | .dic _ => true
  | _ => false
def joinD (ds : List D) (P : D → Prop) : Prop := match ds with
  | [.str a, .lst ds] => (match strsD ds with
    | some ys => (ys.map (·.length)).sum + ys.length * a.length ≤ 16777216 ∧ P (.str (Txt.join a ys))
    | none => False)
  | _ => False
def mdJoin (K : PySem.W.Frag) : Md := ⟨(bmQ K "str" (rJoin K)).1, (bmQ K "str" (rJoin K)).2, true, false, isStrD, fun ds P _ => joinD ds P, fun r Hs H v d o h s => (by
    cases d with
    | str x => cases pk_str h; exact (show tyV K "str" (.str x) H from rfl)
    | _ => cases s), fun r Hs H v vs d ds P X Q E o h s a hu k x => by
  have h : Pk r Hs H v d := h
  cases d with
  | str z =>
    cases pk_str h
    match ds, a, hu with
    | [.lst es], a, hu =>
      cases a with
      | cons h1 t =>
        cases t
        cases h1 with
        | @lst b xs _ e zz tt =>
          have hu : (match strsD es with | some ys => (ys.map (·.length)).sum + ys.length * z.length ≤ 16777216 ∧ P (.str (Txt.join z ys)) | none => False) := hu
          cases es2 : strsD es with
          | none => rw [es2] at hu; exact hu.elim
          | some ys =>
            rw [es2] at hu
            exact ⟨z, b, ys, rfl, rfl, .inl (by rw [← strs_ok tt es2]; exact .inl (.inl (o.sub _ _ e))), hu.1, kv_here k o (.str _) hu.2⟩
  | _ => cases s⟩
def getDD (ds : List D) (P : D → Prop) : Prop := match ds with
  | [.dic es, k, d] => (match keyD k with
    | some k => P ((getD es k).getD d)
    | none => False)
  | [.dic es, k] => (match keyD k with
    | some k => P ((getD es k).getD .non)
    | none => False)
  | _ => False
theorem get_go {r : Option Addr} {Hs : Hp} {kvs : List (Key × V)} {es : List (Key × D)} {kk : Key} {w : V} {dw : D} (h1 : kvs.map (·.1) = es.map (·.1)) (h2 : Rps r Hs (kvs.map (·.2)) (es.map (·.2))) (hw : Rp r Hs w dw) : Rp r Hs ((valV kvs kk).getD w) ((getD es kk).getD dw) := by
  have g := get_rep (k := kk) h1 h2
  cases eg : getD es kk with
  | none => rw [eg] at g; rw [g]; exact hw
  | some d => rw [eg] at g; obtain ⟨v, hv, rv⟩ := g; rw [hv]; exact rv
def mdGet (K : PySem.W.Frag) : Md := ⟨(bmW K "dict" rGet).1, (bmW K "dict" rGet).2, true, false, isDicD, fun ds P _ => getDD ds P, fun r Hs H v d o h s => (by
    cases d with
    | dic es => obtain ⟨a, kvs, rfl, _, e, _⟩ := h; exact .inr ⟨rfl, a, kvs, rfl, e⟩
    | _ => cases s), fun r Hs H v vs d ds P X Q E o h s a hu k x => by
  have h : Pk r Hs H v d := h
  cases d with
  | dic es =>
    obtain ⟨b, kvs, rfl, _, e, z, h1, h2⟩ := h
    match ds, a, hu with
    | [ky, dd], a, hu =>
      have hu : (match keyD ky with | some k => P ((getD es k).getD dd) | none => False) := hu
      cases a with
      | cons q1 t =>
        cases t with
        | cons q2 t =>
          cases t
          cases ek : keyD ky with
          | none => rw [ek] at hu; exact hu.elim
          | some kk =>
            rw [ek] at hu
            cases key_kV q1 ek
            exact ⟨b, _, _, _, rfl, .inl rfl, .inl ⟨kvs, kk, e, rfl, rfl⟩, kv_here k o (get_go h1 h2 q2) hu⟩
    | [ky], a, hu =>
      have hu : (match keyD ky with | some k => P ((getD es k).getD .non) | none => False) := hu
      cases a with
      | cons q1 t =>
        cases t
        cases ek : keyD ky with
        | none => rw [ek] at hu; exact hu.elim
        | some kk =>
          rw [ek] at hu
          cases key_kV q1 ek
          exact ⟨b, _, _, _, rfl, .inr ⟨rfl, rfl⟩, .inl ⟨kvs, kk, e, rfl, rfl⟩, kv_here k o (get_go h1 h2 .non) hu⟩
  | _ => cases s⟩
/-! ### own methods -/
def selIns (C : Addr) (m : Str) : D → Bool
  | .ins C' gs => decide (C' = C) && (gs.lookup m).isNone
  | _ => false
theorem look_none {f : Str} : ∀ {fs : List (Str × V)} {gs : List (Str × D)}, fs.map (·.1) = gs.map (·.1) → gs.lookup f = none → fs.lookup f = none
  | [], _, _, _ => rfl
  | _ :: _, [], h, _ => by cases h
  | (p1, p2) :: ps, (q1, q2) :: qs, h, hn => by
    rw [List.map_cons, List.map_cons] at h
    obtain ⟨e1, e2⟩ := List.cons.inj h
    have e1 : p1 = q1 := e1
    subst e1
    rw [List.lookup_cons] at hn ⊢
    cases hb : f == p1 with
    | true => rw [hb] at hn; cases hn
    | false => rw [hb] at hn; exact look_none e2 hn
def mdOwn (C : Addr) (m : Str) (f : Fd) : Md := ⟨insRc C m, f.sp, false, f.fr, selIns C m, f.u, fun r Hs H v d o h s => (by
    cases d with
    | ins C' gs =>
      obtain ⟨s1, s2⟩ := b2 s
      have ec := of_decide_eq_true s1
      subst ec
      obtain ⟨a, dx, fs, rfl, _, e, q, _⟩ := h
      exact ⟨a, dx, fs, rfl, e, look_none q (Option.isNone_iff_eq_none.mp s2)⟩
    | _ => cases s), fun r Hs H v vs d ds P X Q E o h s a hu k x => by
  have h : Rp r Hs v d := h
  refine f.ok r Hs H (v :: vs) (d :: ds) P X Q E o ?_ hu k x
  cases f.bor with
  | true => exact Rps.pks o (.cons h a)
  | false => exact .cons h a⟩
def isCst (w : V) : D → Bool
  | .cst v => decide (v = w)
  | _ => false
/-- a classmethod, called on the class -/
def mdCls (C : Addr) (f : Fd) : Md := ⟨fun x _ => x = .ref C, f.sp, false, f.fr, isCst (.ref C), f.u, fun r Hs H v d o h s => (by
    cases d with
    | cst w => rw [pk_cst h]; exact of_decide_eq_true s
    | _ => cases s), fun r Hs H v vs d ds P X Q E o h s a hu k x => by
  have h : Rp r Hs v d := h
  refine f.ok r Hs H (v :: vs) (d :: ds) P X Q E o ?_ hu k x
  cases f.bor with
  | true => exact Rps.pks o (.cons h a)
  | false => exact .cons h a⟩
/-- a def with *args -/
def fdStar (n : Nat) (fr : Bool) (u : DSp) : Fd := ⟨starSp n (spG false fr u), false, fr, fun ds P X => n ≤ ds.length ∧ ds.length - n ≤ sizeLine ∧ u (ds.take n ++ [.tup (ds.drop n)]) P X, fun r Hs H vs ds P X Q E o a hu k x => by
  have a : Rps r Hs vs ds := a
  obtain ⟨h1, h2, hu⟩ := hu
  have hl := a.len
  refine ⟨vs.take n, vs.drop n, (List.take_append_drop n vs).symm, by rw [List.length_take]; omega, by rw [List.length_drop]; omega, fun p hp => ?_⟩
  have s : Stp r Hs H (upd Hs p (.tup (vs.drop n))) (upd H p (.tup (vs.drop n))) := .new hp (o.nn hp)
  have o2 : Ok r (upd Hs p (.tup (vs.drop n))) (upd H p (.tup (vs.drop n))) := o.new hp
  exact ⟨r, _, _, P, X, o2, ((a.take n).ext s.sh).app (.cons (.tup upd_same (by rw [List.length_drop]; omega) ((a.drop n).ext s.sh)) .nil), hu, k.mono s o2, x.mono s o2⟩⟩
/-! ### instances made -/
/-- a field, read and stored -/
def fl (K : PySem.W.Frag) (f : Str) : Fl := ⟨f, K, rAttI K f, fun _ _ _ _ h => h⟩
def sf (K : PySem.W.Frag) (f : Str) : Sf := ⟨f, K, rSatI K f, fun a C dx fs y H Q c e h q => by
  unfold rSatI
  exact ⟨a, C, dx, fs, rfl, c.1, c.2, e, h, q⟩⟩
def fdMk (C : Addr) (bor : Bool) (u : DSp) : Fd := ⟨mkI C (spI C bor u), bor, true, u, fun r Hs H vs ds P X Q E o a hu k x => by
  have k : Kf r Hs H P Q := k
  intro b dx hb hd hn
  exact ⟨b, dx, vs, H, r, Hs, ds, P, X, rfl, hb, hd, hn, rfl, o, a, hu, fun d Hs' H' p s o' nr hs w => ⟨rfl, k b d Hs' H' p s o' nr hb hs w⟩, x⟩⟩
/-- .. the last argument may be left out: it is None then -/
def optD (u : DSp) (n : Nat) : DSp := fun ds P X => if ds.length = n then u ds P X else u (ds ++ [.non]) P X
def fdMkN (C : Addr) (bor : Bool) (n : Nat) (u : DSp) : Fd := ⟨fun vs H Q E => mkI C (spI C bor u) vs H Q E ∨ mkI C (spI C bor u) (vs ++ [V.non]) H Q E, bor, true, optD u n, fun r Hs H vs ds P X Q E o a hu k x => by
  unfold optD at hu
  by_cases hl : ds.length = n
  · rw [if_pos hl] at hu
    exact .inl ((fdMk C bor u).ok r Hs H vs ds P X Q E o a hu k x)
  · rw [if_neg hl] at hu
    refine .inr ((fdMk C bor u).ok r Hs H (vs ++ [V.non]) (ds ++ [D.non]) P X Q E o ?_ hu k x)
    have pap : ∀ {vs : List V} {ds : List D}, Pks r Hs H vs ds → Pks r Hs H (vs ++ [V.non]) (ds ++ [D.non]) := by
      intro vs ds h
      induction h with
      | nil => exact .cons (show Rp r Hs .non .non from .non) .nil
      | cons h1 _ ih => exact .cons h1 ih
    cases bor with
    | true => exact pap a
    | false => exact Rps.app a (.cons .non .nil)⟩
/-! ### properties -/
def atProp (C : Addr) (f : Fd) (hf : f.fr = false) : At := ⟨rProp C f.sp, fun d P X => match d with
    | .ins C' gs => C' = C ∧ f.u [.ins C' gs] P fun _ => False
    | _ => False, fun r Hs H v d P X Q E o h hu k x => by
  cases d with
  | ins C' gs =>
    cases h with
    | @ins a _ dx fs gs e q t =>
      obtain ⟨hc, hu2⟩ := (show C' = C ∧ f.u [.ins C' gs] P (fun _ => False) from hu)
      subst hc
      refine ⟨a, dx, fs, rfl, o.sub _ _ e, f.ok r Hs H _ _ P _ Q _ o ?_ hu2 (by rw [hf]; exact k) kx_bot⟩
      have hr : Rps r Hs [V.ref a] [.ins C' gs] := .cons (.ins e q t) .nil
      cases f.bor with
      | true => exact hr.pks o
      | false => exact hr
  | _ => exact (show False from hu).elim⟩
def atPropF (C : Addr) (f : Fd) : At := ⟨rProp C f.sp, fun d P X => match d with
    | .ins C' gs => C' = C ∧ f.u [.ins C' gs] P fun _ => False
    | _ => False, fun r Hs H v d P X Q E o h hu k x => by
  cases d with
  | ins C' gs =>
    cases h with
    | @ins a _ dx fs gs e q t =>
      obtain ⟨hc, hu2⟩ := (show C' = C ∧ f.u [.ins C' gs] P (fun _ => False) from hu)
      subst hc
      refine ⟨a, dx, fs, rfl, o.sub _ _ e, f.ok r Hs H _ _ P _ Q _ o ?_ hu2 k.kr kx_bot⟩
      have hr : Rps r Hs [V.ref a] [.ins C' gs] := .cons (.ins e q t) .nil
      cases f.bor with
      | true => exact hr.pks o
      | false => exact hr
  | _ => exact (show False from hu).elim⟩
/-! ### own operators -/
def isInsC (C : Addr) : D → Bool
  | .ins C' _ => decide (C' = C)
  | _ => false
theorem insC_at {r : Option Addr} {Hs H : Hp} {C : Addr} {v : V} {d : D} (o : Ok r Hs H) (h : Rp r Hs v d) (s : isInsC C d = true) : ∃ a dx fs, v = .ref a ∧ H a = some (.ins C dx fs) := by
  cases d with
  | ins C' gs =>
    have e := of_decide_eq_true s
    subst e
    cases h with
    | ins q _ _ => exact ⟨_, _, _, rfl, o.sub _ _ q⟩
  | _ => cases s
theorem ar_of {r : Option Addr} {Hs H : Hp} {b : Bool} {vs : List V} {ds : List D} (o : Ok r Hs H) (h : Rps r Hs vs ds) : AR b r Hs H vs ds := by
  cases b with
  | true => exact h.pks o
  | false => exact h
def opBin (C : Addr) (f : Fd) : OpE := ⟨rBinI C f.sp, fun x y => isInsC C x && isInsC C y, fun x y P X => f.u [x, y] P X, fun r Hs H x y dx dy P X Q E o hx hy s hu k kx => by
  obtain ⟨s1, s2⟩ := b2 s
  obtain ⟨a, ad, fs, rfl, ea⟩ := insC_at o hx s1
  obtain ⟨b, bd, gs, rfl, eb⟩ := insC_at o hy s2
  exact ⟨a, ad, fs, b, bd, gs, rfl, rfl, ea, eb, f.ok r Hs H _ _ P X Q E o (ar_of o (.cons hx (.cons hy .nil))) hu k.kr kx⟩⟩
/-- x == y: y of a known type that is not below C -/
def opCmp (K : PySem.W.Frag) (C : Addr) (f : Fd) : OpE := ⟨rCmpI K C f.sp, fun x y => isInsC C x && (match tyD y with | some t => PySem.W.notFirst K C t | none => false), fun x y P X => insOkD K y ∧ f.u [x, y] P X, fun r Hs H x y dx dy P X Q E o hx hy s hu k kx => by
  obtain ⟨s1, s3⟩ := b2 s
  obtain ⟨s2, hu⟩ := hu
  obtain ⟨a, ad, fs, rfl, ea⟩ := insC_at o hx s1
  cases et : tyD dy with
  | none => rw [et] at s3; cases s3
  | some t =>
    rw [et] at s3
    exact ⟨a, ad, fs, t, rfl, ea, tyD_ok (fun C' gs z => by subst z; exact s2) o (hy.pk o) et, s3, f.ok r Hs H _ _ P X Q E o (ar_of o (.cons hx (.cons hy .nil))) hu k.kr kx⟩⟩
/-- y in x -/
def opInO (C : Addr) (f : Fd) (hf : f.fr = false) : OpE := ⟨rInI C f.sp, fun _ x => isInsC C x, fun y x P X => f.u [x, y] (fun d => ∃ b, d = .bl b ∧ P d) X, fun r Hs H y x dy dx P X Q E o hy hx s hu k kx => by
  obtain ⟨a, ad, fs, rfl, ea⟩ := insC_at o hx s
  have kr : Kv r Hs H (fun d => ∃ b, d = .bl b ∧ P d) (fun w H' => ∃ b, w = .bl b ∧ Q (.bl b) H') := fun v d Hs' H' ⟨b, eb, p⟩ s' o' hr => by
    subst eb
    cases hr
    exact ⟨b, rfl, k _ _ Hs' H' p s' o' (.bl b)⟩
  exact ⟨a, ad, fs, rfl, ea, f.ok r Hs H _ _ _ X _ E o (ar_of o (.cons hx (.cons hy .nil))) hu (by rw [hf]; exact kr) kx⟩⟩
end AS

set_option Elab.async false
set_option linter.all false
set_option maxRecDepth 100000
set_option maxHeartbeats 4000000
/-! P13: own != and str by data; the entries of the built-ins. -/
namespace AS
open PySem PySem.Spec PyProof.Rows L2
def opNeO (K : PySem.W.Frag) (C : Addr) (f : Fd) (hf : f.fr = false) : OpE := ⟨rNeI K C f.sp, fun x y => isInsC C x && (match tyD y with | some t => PySem.W.notFirst K C t | none => false), fun x y P X => insOkD K y ∧ f.u [x, y] (fun d => ∃ b, d = .bl b ∧ P (.bl (!b))) X, fun r Hs H x y dx dy P X Q E o hx hy s hu k kx => by
  obtain ⟨s1, s3⟩ := b2 s
  obtain ⟨s2, hu⟩ := hu
  obtain ⟨a, ad, fs, rfl, ea⟩ := insC_at o hx s1
  cases et : tyD dy with
  | none => rw [et] at s3; cases s3
  | some t =>
    rw [et] at s3
    have kr : Kv r Hs H (fun d => ∃ b, d = .bl b ∧ P (.bl (!b))) (fun w H' => ∃ b, w = .bl b ∧ Q (.bl (!b)) H') := fun v d Hs' H' ⟨b, eb, p⟩ s' o' hr => by
      subst eb
      cases hr
      exact ⟨b, rfl, k _ _ Hs' H' p s' o' (.bl _)⟩
    exact ⟨a, ad, fs, t, rfl, ea, tyD_ok (fun C' gs z => by subst z; exact s2) o (hy.pk o) et, s3, f.ok r Hs H _ _ _ X _ E o (ar_of o (.cons hx (.cons hy .nil))) hu (by rw [hf]; exact kr) kx⟩⟩
/-- str(x) of an own object -/
def strOD (C : Addr) (f : Fd) (ds : List D) (P : D → Prop) (X : XD) : Prop := match ds with
  | [d] => isInsC C d = true ∧ f.u [d] (fun d => ∃ z, d = .str z ∧ P d) X
  | _ => False
def fdStrO (C : Addr) (f : Fd) (hf : f.fr = false) : Fd := ⟨rStrI C f.sp, false, false, strOD C f, fun r Hs H vs ds P X Q E o a hu k x => by
  have a : Rps r Hs vs ds := a
  match ds, a, hu with
  | [d], a, hu =>
    cases a with
    | cons h1 t =>
      cases t
      obtain ⟨b, dx, fs, rfl, eb⟩ := insC_at o h1 hu.1
      have kr : Kv r Hs H (fun d => ∃ z, d = .str z ∧ P d) (fun w H' => ∃ z, w = .str z ∧ Q w H') := fun v d Hs' H' ⟨z, ez, p⟩ s' o' hr => by
        subst ez
        cases hr
        exact ⟨z, rfl, k _ _ Hs' H' p s' o' (.str _)⟩
      exact ⟨b, dx, fs, rfl, eb, f.ok r Hs H _ _ _ X _ E o (ar_of o (.cons h1 .nil)) hu.2 (by rw [hf]; exact kr) x⟩⟩
/-! ### entries -/
section
variable {S : Sys} {k : Nat}
theorem ent_typX {n : Str} {T : String} {sp : Sp} (hr : ∀ (N : List Str) (X : Cx) (x : Ctx), Like S k N X x → x.c = true → RunsV X x.W (.type T) sp) (hm : S.mg n = none) (hv : bootBuiltins n = some (.type T)) : CallE S k n sp := by
  intro N X x L hc es t p pos hg hb hpl ha
  have hm' : X.mg n = none := by rw [L.hm]; exact hm
  refine ⟨fun pins s σ H Q I h => ?_⟩
  refine wpAny_Call_Name_kw (ld_blt I hg hm' hv ?_ (badName_no hb).2.2 (badName_no hb).1)
  have h1 : wpAny (model X.prog X.w) X.A (spliced (backTo pos (starEach es X.env)) >>= fun us => call (.type T) us) (EP X pins σ Q) X.xe s :=
    wpAny_bind (thn (ha.run pos pins s σ H _ I h) fun us s1 ⟨vs, H1, I1, rv, q⟩ => hr N X x L hc pins s1 σ H1 us vs Q I1 rv q)
  cases es with
  | nil => exact PyProof.Rows.callWith_type0 h1
  | cons e es =>
    obtain ⟨g1, g2⟩ := b2 (show (plainA e && es.all plainA) = true from hpl)
    exact PyProof.Rows.callWith_type1 (thn (ha.run pos pins s σ H _ I h) fun us s1 ⟨vs, H1, I1, rv, q⟩ => hr N X x L hc pins s1 σ H1 us vs Q I1 rv q) (star_one g1) (star_all g2)
theorem run_len : ∀ (N : List Str) (X : Cx) (x : Ctx), Like S k N X x → x.c = true → RunsV X x.W (.builtin "len") (spLenD S.K) := fun N X x L hc => by
  have e1 : RunsV X x.W (.builtin "len") (fun vs H Q _ => rLenG S.K vs H Q) := by rw [← L.hK]; exact runsV_of call_len
  exact e1.or (runsV_of call_lenR)
theorem e_len (hm : S.mg "len" = none) : CallE S k "len" (fdLen S.K).sp := ent_bltX run_len hm PySem.boot_len
theorem e_lenO {C f : Addr} {fd : Fd} {hb : fd.bor = false} {hf : fd.fr = false} {j : Nat} (hm : S.mg "len" = none) (F : FnG S j f fd.sp) (hj : j + 1 ≤ k) (hs : PySem.W.findIn S.K (.ref C) "__len__" = some (some (.ref f))) (hfn : PySem.W.isFn S.K (.ref f) = true) : CallE S k "len" (fdLenO S.K C fd hb hf).sp :=
  ent_bltX (fun N X x L hc => (run_len N X x L hc).or (runs_len F hj hs hfn N X x L hc)) hm PySem.boot_len
theorem e_isi (hm : S.mg "isinstance" = none) : CallE S k "isinstance" (fdIsi S.K).sp := ent_blt (fun N X x L hc => by rw [← L.hK]; exact call_isi) hm (by decide +kernel)
theorem e_all (hm : S.mg "all" = none) : CallE S k "all" (fdAll S.K).sp := ent_all hm
theorem e_any (hm : S.mg "any" = none) : CallE S k "any" (fdAny S.K).sp := ent_any hm
theorem e_repr (hm : S.mg "repr" = none) (sm : SmOk S.K) : CallE S k "repr" (fdRepr S.K).sp := ent_repr hm sm
theorem e_sorted (hm : S.mg "sorted" = none) : CallE S k "sorted" (fdSorted S.K).sp := ent_sorted hm
theorem e_dict (hm : S.mg "dict" = none) : CallE S k "dict" (fdDict S.K).sp := ent_dict hm
theorem e_list (hm : S.mg "list" = none) : CallE S k "list" (fdList S.K).sp := ent_typ (fun N X x L hc => by rw [← L.hK]; exact CallR.or (call_listR (L.calm hc)) call_list_of) hm (by decide +kernel)
theorem e_strO {C f : Addr} {fd : Fd} {hf : fd.fr = false} {j : Nat} (hm : S.mg "str" = none) (F : FnG S j f fd.sp) (hj : j + 2 ≤ k) (hs : PySem.W.findIn S.K (.ref C) "__str__" = some (some (.ref f))) (hfn : PySem.W.isFn S.K (.ref f) = true) : CallE S k "str" (fdStrO C fd hf).sp :=
  ent_typX (runs_str F hj hs hfn) hm (by decide +kernel)
end
end AS

set_option Elab.async false
set_option linter.all false
set_option maxRecDepth 100000
set_option maxHeartbeats 4000000
/-! Q1: sorted texts are one list; plain facts of tables of names. -/
namespace AS
open PySem PySem.Spec PyProof.Rows L2
/-- not behind -/
def leS (a b : Str) : Prop := PySem.Spec.ltCps b.cps.toList a.cps.toList = false
theorem ltc_irr : ∀ a : List Nat, PySem.Spec.ltCps a a = false
  | [] => rfl
  | x :: r => by simp [PySem.Spec.ltCps, ltc_irr r]
theorem ltc_tot : ∀ a b : List Nat, PySem.Spec.ltCps a b = false → PySem.Spec.ltCps b a = false → a = b
  | [], [], _, _ => rfl
  | [], _ :: _, h, _ => by cases h
  | _ :: _, [], _, h => by cases h
  | x :: r, y :: t, h1, h2 => by
    simp only [PySem.Spec.ltCps, Bool.or_eq_false_iff, decide_eq_false_iff_not, Bool.and_eq_false_iff, beq_eq_false_iff_ne] at h1 h2
    have e : x = y := by omega
    subst e
    rw [ltc_tot r t (h1.2.resolve_left fun z => z rfl) (h2.2.resolve_left fun z => z rfl)]
theorem ltc_trans : ∀ a b c : List Nat, PySem.Spec.ltCps b a = false → PySem.Spec.ltCps c b = false → PySem.Spec.ltCps c a = false
  | [], b, c, _, h => by
    cases c with
    | nil => rfl
    | cons z s => rfl
  | x :: r, [], c, h, _ => by cases h
  | x :: r, y :: t, [], _, h => by cases h
  | x :: r, y :: t, z :: s, h1, h2 => by
    simp only [PySem.Spec.ltCps, Bool.or_eq_false_iff, decide_eq_false_iff_not, Bool.and_eq_false_iff, beq_eq_false_iff_ne] at h1 h2 ⊢
    refine ⟨by omega, ?_⟩
    by_cases e1 : y = x
    · by_cases e2 : z = y
      · exact .inr (ltc_trans r t s (h1.2.resolve_left fun q => q e1) (h2.2.resolve_left fun q => q e2))
      · exact .inl (by omega)
    · exact .inl (by omega)
theorem str_ext {a b : Str} (h : a.cps.toList = b.cps.toList) : a = b := by
  obtain ⟨a⟩ := a
  obtain ⟨b⟩ := b
  have : a = b := by rw [← Array.toArray_toList (xs := a), h, Array.toArray_toList]
  rw [this]
theorem leS_anti {a b : Str} (h1 : leS a b) (h2 : leS b a) : a = b := str_ext (ltc_tot _ _ h2 h1)
theorem leS_trans {a b c : Str} (h1 : leS a b) (h2 : leS b c) : leS a c := ltc_trans _ _ _ h1 h2
theorem rising_pair : ∀ {l : List Str} {p : Str}, risingS p l = true → (∀ x ∈ l, leS p x) ∧ l.Pairwise leS
  | [], _, _ => ⟨fun _ h => (nomatch h), List.Pairwise.nil⟩
  | x :: r, p, h => by
    obtain ⟨h1, h2⟩ := b2 (show (!PySem.Spec.ltCps x.cps.toList p.cps.toList && risingS x r) = true from h)
    have h1 : leS p x := by simpa [leS] using h1
    obtain ⟨i1, i2⟩ := rising_pair h2
    refine ⟨fun y hy => ?_, List.pairwise_cons.mpr ⟨i1, i2⟩⟩
    rcases List.mem_cons.mp hy with rfl | hy
    · exact h1
    · exact leS_trans h1 (i1 y hy)
theorem sorted_pair {l : List Str} (h : sortedS l = true) : l.Pairwise leS := by
  cases l with
  | nil => exact .nil
  | cons x r =>
    obtain ⟨i1, i2⟩ := rising_pair (show risingS x r = true from h)
    exact List.pairwise_cons.mpr ⟨i1, i2⟩
/-- two sorted lists of the same texts are one -/
theorem sorted_one {l m : List Str} (h : sortedS l = true) (h' : sortedS m = true) (p : l.Perm m) : l = m :=
  List.Perm.eq_of_pairwise (le := leS) (fun _ _ _ _ a b => leS_anti a b) (sorted_pair h) (sorted_pair h') p

/-! ### tables from names to integers -/
abbrev Tb := List (Str × Int)
def tD (m : Tb) : List (Key × D) := m.map fun p => (.inr p.1, .int p.2)
def getT (m : Tb) (x : Str) : Option Int := m.lookup x
/-- in its place, or at the end -/
def putT (m : Tb) (x : Str) (v : Int) : Tb := if (m.any fun p => decide (p.1 = x)) = true then m.map (fun p => if p.1 = x then (p.1, v) else p) else m ++ [(x, v)]
theorem getD_tD (m : Tb) (x : Str) : getD (tD m) (.inr x) = (getT m x).map D.int := by
  induction m with
  | nil => rfl
  | cons p r ih =>
    obtain ⟨y, v⟩ := p
    show (((((Sum.inr y : Key), D.int v) :: tD r).find? fun kv => decide (kv.1 = Sum.inr x)).map (·.2)) = (((y, v) :: r).lookup x).map D.int
    rw [List.find?_cons, List.lookup_cons]
    by_cases h : x = y
    · subst h
      simp
    · have h1 : decide ((Sum.inr y : Key) = Sum.inr x) = false := decide_eq_false fun z => h (Sum.inr.inj z).symm
      have h2 : (x == y) = false := beq_eq_false_iff_ne.mpr h
      simp only [h1, h2]
      exact ih
theorem putD_tD (m : Tb) (x : Str) (v : Int) : putD (tD m) (.inr x) (.int v) = tD (putT m x v) := by
  have e : ((tD m).any fun kv => decide (kv.1 = Sum.inr x)) = m.any fun p => decide (p.1 = x) := by
    unfold tD
    rw [List.any_map]
    congr 1
    funext p
    exact decide_eq_decide.mpr ⟨fun z => Sum.inr.inj z, fun z => by show (Sum.inr p.1 : Key) = _; rw [z]⟩
  unfold putD putT
  rw [e]
  split
  · unfold tD
    rw [List.map_map, List.map_map]
    refine List.map_congr_left fun p _ => ?_
    show (if (Sum.inr p.1 : Key) = Sum.inr x then ((Sum.inr p.1 : Key), D.int v) else (Sum.inr p.1, D.int p.2)) = _
    by_cases h : p.1 = x
    · rw [if_pos (by rw [h]), Function.comp, if_pos h]
    · rw [if_neg (fun z => h (Sum.inr.inj z)), Function.comp, if_neg h]
  · unfold tD
    rw [List.map_append]
    rfl
theorem keyStrs_tD (m : Tb) : keyStrs (tD m) = some (m.map (·.1)) := by
  induction m with
  | nil => rfl
  | cons p r ih =>
    show (keyStrs (tD r)).map (p.1 :: ·) = _
    rw [ih]
    rfl
end AS

set_option Elab.async false
set_option linter.all false
set_option maxRecDepth 100000
set_option maxHeartbeats 4000000
/-! Q2: comprehensions and loops by data, in one step. -/
namespace AS
open PySem PySem.Spec PyProof.Rows L2
section
variable {G : D → List Sl → (List Sl → Prop) → Prop} {T : List Sl → (Bool → Prop) → Prop} {E Kx : List Sl → (D → Prop) → Prop} {δ : List Sl}
/-- [f x for x in xs if p x] -/
theorem lcU_fm {P : List D → Prop} (p : D → Bool) (f : D → D) : ∀ (xs acc : List D), (∀ x ∈ xs, ∀ (R : D → Prop) (S : Prop), (p x = true → R (f x)) → (p x = false → S) → G x δ fun δ2 => T δ2 fun b => match b with | true => E δ2 R | false => S) → P (acc ++ (xs.filter p).map f) → lcU G T E δ P xs acc
  | [], acc, _, h => by
    show P acc
    simpa using h
  | x :: xs, acc, hx, h => by
    refine hx x List.mem_cons_self _ _ (fun e => ?_) fun e => ?_
    · refine lcU_fm p f xs _ (fun y hy => hx y (List.mem_cons_of_mem _ hy)) ?_
      rw [List.filter_cons, if_pos e, List.map_cons] at h
      simpa [List.append_assoc] using h
    · refine lcU_fm p f xs _ (fun y hy => hx y (List.mem_cons_of_mem _ hy)) ?_
      rw [List.filter_cons, if_neg (by rw [e]; decide)] at h
      exact h
/-- [f x for x in xs] -/
theorem lcU_map {P : List D → Prop} (f : D → D) (xs : List D) (hx : ∀ x ∈ xs, ∀ (R : D → Prop) (S : Prop), R (f x) → G x δ fun δ2 => T δ2 fun b => match b with | true => E δ2 R | false => S) (h : P (xs.map f)) : lcU G T E δ P xs [] :=
  lcU_fm (fun _ => true) f xs [] (fun x hm R S h1 _ => hx x hm R S (h1 rfl)) (by rw [List.filter_eq_self.mpr (fun _ _ => rfl)]; simpa using h)
/-- [.. for x in xs], the value chosen along the way: what is wished holds of every list whose members are good, one for each -/
theorem lcU_good {P : List D → Prop} (Gd : D → D → Prop) : ∀ (xs acc : List D), (∀ x ∈ xs, ∀ (R : D → Prop) (S : Prop), (∀ y, Gd x y → R y) → G x δ fun δ2 => T δ2 fun b => match b with | true => E δ2 R | false => S) → (∀ ys : List D, Paired Gd xs ys → P (acc ++ ys)) → lcU G T E δ P xs acc
  | [], acc, _, h => by
    have := h [] .nil
    rw [List.append_nil] at this
    exact this
  | x :: xs, acc, hx, h => by
    refine hx x List.mem_cons_self _ _ fun y hy => ?_
    refine lcU_good Gd xs _ (fun z hz => hx z (List.mem_cons_of_mem _ hz)) fun ys hys => ?_
    have := h (y :: ys) (.cons hy hys)
    simpa [List.append_assoc] using this
/-- {k x: f x for x in xs if p x} -/
theorem dcU_fm {P : List (Key × D) → Prop} (p : D → Bool) (kf : D → Key) (f : D → D) : ∀ (xs : List D) (acc : List (Key × D)), (∀ x ∈ xs, ∀ (R : Key → D → Prop) (S : Prop), (p x = true → R (kf x) (f x)) → (p x = false → S) → G x δ fun δ2 => T δ2 fun b => match b with | true => Kx δ2 (fun k => E δ2 fun y => match keyD k with | some k => R k y | none => False) | false => S) →
    P (mergeD acc ((xs.filter p).map fun x => (kf x, f x))) → dcU G T Kx E δ P xs acc
  | [], acc, _, h => h
  | x :: xs, acc, hx, h => by
    refine hx x List.mem_cons_self (fun k y => dcU G T Kx E δ P xs (putD acc k y)) _ (fun e => ?_) fun e => ?_
    · refine dcU_fm p kf f xs _ (fun y hy => hx y (List.mem_cons_of_mem _ hy)) ?_
      rw [List.filter_cons, if_pos e, List.map_cons] at h
      exact h
    · refine dcU_fm p kf f xs _ (fun y hy => hx y (List.mem_cons_of_mem _ hy)) ?_
      rw [List.filter_cons, if_neg (by rw [e]; decide)] at h
      exact h
/-- a loop by an invariant over what is left -/
theorem forU_inv {B : D → List Sl → (List Sl → Prop) → Prop} {N : List Sl → Prop} (I : List D → List Sl → Prop) (step : ∀ x xs δ (M : List Sl → Prop), I (x :: xs) δ → (∀ δ', I xs δ' → M δ') → B x δ M) (done : ∀ δ, I [] δ → N δ) : ∀ (xs : List D) (δ : List Sl), I xs δ → forU B N xs δ
  | [], δ, h => done δ h
  | x :: xs, δ, h => step x xs δ _ h fun δ' h' => forU_inv I step done xs δ' h'
theorem look1 {α : Type} {f : Str} {d : α} {r : List (Str × α)} : ((f, d) :: r).lookup f = some d := by simp [List.lookup]
theorem bools_map (acc : List Bool) : boolsD (acc.map D.bl) = some acc := by
  induction acc with
  | nil => rfl
  | cons b r ih =>
    show (boolsD (r.map D.bl)).map (b :: ·) = _
    rw [ih]
    rfl
/-- all([..]) of truths -/
theorem all_i {P : D → Prop} {bs : List Bool} {ds : List D} (e : ds = bs.map D.bl) (h : P (.bl (bs.all id))) : allD (fun bs => bs.all id) [.lst ds] P := by
  subst e
  show (match boolsD (bs.map D.bl) with | some bs => P (.bl (bs.all id)) | none => False)
  rw [bools_map]
  exact h
theorem any_i {P : D → Prop} {bs : List Bool} {ds : List D} (e : ds = bs.map D.bl) (h : P (.bl (bs.any id))) : allD (fun bs => bs.any id) [.lst ds] P := by
  subst e
  show (match boolsD (bs.map D.bl) with | some bs => P (.bl (bs.any id)) | none => False)
  rw [bools_map]
  exact h
end
end AS

set_option Elab.async false
set_option linter.all false
set_option maxRecDepth 100000
set_option maxHeartbeats 4000000
/-! Q3: sorted tables without zeros. -/
namespace AS
open PySem PySem.Spec PyProof.Rows L2
theorem ltc_asym : ∀ a b : List Nat, PySem.Spec.ltCps a b = true → PySem.Spec.ltCps b a = false
  | [], [], h => by cases h
  | [], _ :: _, _ => rfl
  | _ :: _, [], h => by cases h
  | x :: r, y :: t, h => by
    simp only [PySem.Spec.ltCps, Bool.or_eq_true, decide_eq_true_eq, Bool.and_eq_true, beq_iff_eq] at h
    simp only [PySem.Spec.ltCps, Bool.or_eq_false_iff, decide_eq_false_iff_not, Bool.and_eq_false_iff, beq_eq_false_iff_ne]
    rcases h with h | ⟨h1, h2⟩
    · exact ⟨by omega, .inl (by omega)⟩
    · exact ⟨by omega, .inr (ltc_asym r t h2)⟩
def leB (a b : Str) : Bool := !PySem.Spec.ltCps b.cps.toList a.cps.toList
theorem leB_iff {a b : Str} : leB a b = true ↔ leS a b := by unfold leB leS; simp
def srt (l : List Str) : List Str := l.mergeSort leB
theorem srt_perm (l : List Str) : (srt l).Perm l := List.mergeSort_perm l leB
theorem srt_pair (l : List Str) : (srt l).Pairwise leS := by
  have h := List.pairwise_mergeSort (le := leB) (fun a b c h1 h2 => leB_iff.mpr (leS_trans (leB_iff.mp h1) (leB_iff.mp h2))) (fun a b => by
    unfold leB
    cases e : PySem.Spec.ltCps b.cps.toList a.cps.toList with
    | false => rfl
    | true => rw [ltc_asym _ _ e]; rfl) l
  exact h.imp fun h => leB_iff.mp h
theorem srt_sorted (l : List Str) : sortedS (srt l) = true := sortedS_of_pairwise _ (srt_pair l)
theorem srt_of {l ys : List Str} (p : ys.Perm l) (h : sortedS ys = true) : ys = srt l := sorted_one h (srt_sorted l) (p.trans (srt_perm l).symm)
/-- the value of a name, 0 if it has none -/
def val (m : Tb) (x : Str) : Int := (getT m x).getD 0
/-- sorted, without zeros -/
def norm (m : Tb) : Tb := ((srt (m.map (·.1))).filter fun y => val m y != 0).map fun y => (y, val m y)
def Nd (m : Tb) : Prop := (m.map (·.1)).Nodup
theorem merge_nd : ∀ (l acc : Tb), Nd (acc ++ l) → mergeD (tD acc) (tD l) = tD (acc ++ l)
  | [], acc, _ => by rw [List.append_nil]; rfl
  | p :: l, acc, h => by
    have hp : (acc.any fun q => decide (q.1 = p.1)) = false := by
      rw [List.any_eq_false]
      intro q hq z
      have z := of_decide_eq_true z
      unfold Nd at h
      rw [List.map_append, List.map_cons, List.nodup_append] at h
      exact h.2.2 q.1 (List.mem_map.mpr ⟨q, hq, rfl⟩) p.1 List.mem_cons_self z
    show mergeD (putD (tD acc) (.inr p.1) (.int p.2)) (tD l) = _
    rw [putD_tD]
    have e : putT acc p.1 p.2 = acc ++ [p] := by
      unfold putT
      rw [hp]
      rfl
    rw [e, merge_nd l (acc ++ [p]) (by rw [List.append_assoc]; exact h), List.append_assoc]
    rfl
theorem merge_nil {l : Tb} (h : Nd l) : mergeD [] (tD l) = tD l := merge_nd l [] h
theorem norm_names (m : Tb) : (norm m).map (·.1) = (srt (m.map (·.1))).filter fun y => val m y != 0 := by
  unfold norm
  rw [List.map_map]
  show (List.map (fun y => y) _) = _
  rw [List.map_id']
theorem nd_norm {m : Tb} (h : Nd m) : Nd (norm m) := by
  unfold Nd
  rw [norm_names]
  exact List.Pairwise.filter _ ((srt_perm _).nodup_iff.mpr h)
theorem norm_len (m : Tb) : (norm m).length ≤ m.length := by
  have e := congrArg List.length (norm_names m)
  rw [List.length_map] at e
  rw [e]
  refine Nat.le_trans (List.length_filter_le _ _) ?_
  rw [(srt_perm _).length_eq, List.length_map]
  exact Nat.le_refl _
theorem getT_mem {m : Tb} {x : Str} {v : Int} (h : getT m x = some v) : (x, v) ∈ m := by
  induction m with
  | nil => cases h
  | cons p r ih =>
    unfold getT at h
    obtain ⟨y, w⟩ := p
    rw [List.lookup_cons] at h
    cases e : x == y with
    | true =>
      rw [e] at h
      cases h
      rw [beq_iff_eq.mp e]
      exact List.mem_cons_self
    | false =>
      rw [e] at h
      exact List.mem_cons_of_mem _ (ih h)
theorem getT_of {m : Tb} {x : Str} (h : x ∈ m.map (·.1)) : ∃ v, getT m x = some v := by
  induction m with
  | nil => cases h
  | cons p r ih =>
    obtain ⟨y, w⟩ := p
    unfold getT
    rw [List.lookup_cons]
    cases e : x == y with
    | true => exact ⟨w, rfl⟩
    | false =>
      rw [List.map_cons] at h
      rcases List.mem_cons.mp h with z | z
      · rw [beq_eq_false_iff_ne] at e
        exact absurd z e
      · exact ih z
theorem val_getD {m : Tb} {x : Str} (h : x ∈ m.map (·.1)) : getD (tD m) (.inr x) = some (.int (val m x)) := by
  obtain ⟨v, e⟩ := getT_of h
  rw [getD_tD, e]
  unfold val
  rw [e]
  rfl
end AS

set_option Elab.async false
set_option linter.all false
set_option maxRecDepth 100000
set_option maxHeartbeats 4000000
/-! Q4: comprehensions over the items of a table. -/
namespace AS
open PySem PySem.Spec PyProof.Rows L2
/-- the values that pass p, each by f -/
def mapT (p : Int → Bool) (f : Int → Int) (m : Tb) : Tb := (m.filter fun q => p q.2).map fun q => (q.1, f q.2)
theorem mapT_names {p : Int → Bool} {f : Int → Int} {m : Tb} : (mapT p f m).map (·.1) = (m.filter fun q => p q.2).map (·.1) := by
  unfold mapT
  rw [List.map_map]
  rfl
theorem nd_mapT {p : Int → Bool} {f : Int → Int} {m : Tb} (h : Nd m) : Nd (mapT p f m) := by
  unfold Nd
  rw [mapT_names]
  exact List.Pairwise.sublist ((List.filter_sublist).map _) h
theorem tD_items (m : Tb) : (tD m).map (fun e => D.tup [kD e.1, e.2]) = m.map fun p => .tup [.str p.1, .int p.2] := by
  unfold tD
  rw [List.map_map]
  rfl
def pI (p : Int → Bool) : D → Bool
  | .tup [.str _, .int v] => p v
  | _ => false
def kI : D → Key
  | .tup [.str x, .int _] => .inr x
  | _ => .inl 0
def fI (f : Int → Int) : D → D
  | .tup [.str _, .int v] => .int (f v)
  | d => d
section
variable {G : D → List Sl → (List Sl → Prop) → Prop} {T : List Sl → (Bool → Prop) → Prop} {E Kx : List Sl → (D → Prop) → Prop} {δ : List Sl}
/-- {k: f(v) for k, v in m.items() if p(v)} -/
theorem dc_T {P : List (Key × D) → Prop} {m : Tb} (p : Int → Bool) (f : Int → Int) (hm : Nd m) (h : ∀ x v, (x, v) ∈ m → ∀ (R : Key → D → Prop) (S : Prop), (p v = true → R (.inr x) (.int (f v))) → (p v = false → S) → G (.tup [.str x, .int v]) δ fun δ2 => T δ2 fun b => match b with | true => Kx δ2 (fun k => E δ2 fun y => match keyD k with | some k => R k y | none => False) | false => S)
    (hP : P (tD (mapT p f m))) : dcU G T Kx E δ P ((tD m).map fun e => .tup [kD e.1, e.2]) [] := by
  rw [tD_items]
  refine dcU_fm (pI p) kI (fI f) _ _ (fun d hd R S h1 h2 => ?_) ?_
  · obtain ⟨⟨x, v⟩, hq, rfl⟩ := List.mem_map.mp hd
    exact h x v hq R S h1 h2
  · have e : (((m.map fun q => D.tup [.str q.1, .int q.2]).filter (pI p)).map fun x => (kI x, fI f x)) = tD (mapT p f m) := by
      unfold mapT tD
      rw [List.filter_map, List.map_map, List.map_map]
      rfl
    rw [e, merge_nil (nd_mapT hm)]
    exact hP
/-- [(k, f(v)) for k, v in m.items() if p(v)] -/
theorem lc_T {P : List D → Prop} {m : Tb} (p : Int → Bool) (f : Int → Int) (h : ∀ x v, (x, v) ∈ m → ∀ (R : D → Prop) (S : Prop), (p v = true → R (.tup [.str x, .int (f v)])) → (p v = false → S) → G (.tup [.str x, .int v]) δ fun δ2 => T δ2 fun b => match b with | true => E δ2 R | false => S)
    (hP : P ((mapT p f m).map fun q => .tup [.str q.1, .int q.2])) : lcU G T E δ P ((tD m).map fun e => .tup [kD e.1, e.2]) [] := by
  rw [tD_items]
  refine lcU_fm (pI p) (fun d => match d with | .tup [.str x, .int v] => .tup [.str x, .int (f v)] | d => d) _ _ (fun d hd R S h1 h2 => ?_) ?_
  · obtain ⟨⟨x, v⟩, hq, rfl⟩ := List.mem_map.mp hd
    exact h x v hq R S h1 h2
  · rw [List.nil_append, List.filter_map, List.map_map]
    unfold mapT at hP
    rw [List.map_map] at hP
    exact hP
end
/-- dict([(k, v), ..]) -/
theorem pairs_T (m : Tb) : pairsD (m.map fun q => .tup [.str q.1, .int q.2]) = some (tD m) := by
  induction m with
  | nil => rfl
  | cons p r ih =>
    show (match keyD (.str p.1), pairsD (r.map fun q => .tup [.str q.1, .int q.2]) with | some k, some es => some ((k, D.int p.2) :: es) | _, _ => none) = _
    rw [ih]
    rfl
theorem dict_T {m : Tb} {P : D → Prop} (h : Nd m) (hP : P (.dic (tD m))) : dictD [.lst (m.map fun q => .tup [.str q.1, .int q.2])] P := by
  show (match pairsD (m.map fun q => .tup [.str q.1, .int q.2]) with | some es => P (.dic (mergeD [] es)) | none => False)
  rw [pairs_T]
  show P (.dic (mergeD [] (tD m)))
  rw [merge_nil h]
  exact hP
end AS

set_option Elab.async false
set_option linter.all false
set_option maxRecDepth 100000
set_option maxHeartbeats 4000000
/-! Q5: tables by the values of their names: what norm keeps. -/
namespace AS
open PySem PySem.Spec PyProof.Rows L2
theorem val_cons (y : Str) (w : Int) (r : Tb) (x : Str) : val ((y, w) :: r) x = if x = y then w else val r x := by
  unfold val getT
  rw [List.lookup_cons]
  by_cases e : x = y
  · rw [if_pos e, beq_iff_eq.mpr e]; rfl
  · rw [if_neg e, beq_eq_false_iff_ne.mpr e]
theorem val_no {m : Tb} {x : Str} (h : x ∉ m.map (·.1)) : val m x = 0 := by
  induction m with
  | nil => rfl
  | cons p r ih =>
    obtain ⟨y, w⟩ := p
    rw [List.map_cons, List.mem_cons, not_or] at h
    rw [val_cons, if_neg h.1, ih h.2]
theorem mem_of_val {m : Tb} {x : Str} (h : val m x ≠ 0) : x ∈ m.map (·.1) := by
  by_cases e : x ∈ m.map (·.1)
  · exact e
  · exact absurd (val_no e) h
theorem val_fun (f : Str → Int) (l : List Str) (x : Str) : val (l.map fun y => (y, f y)) x = if x ∈ l then f x else 0 := by
  induction l with
  | nil => rfl
  | cons y r ih =>
    rw [List.map_cons, val_cons, ih]
    by_cases e : x = y
    · subst e; rw [if_pos rfl, if_pos List.mem_cons_self]
    · rw [if_neg e]
      by_cases e2 : x ∈ r
      · rw [if_pos e2, if_pos (List.mem_cons_of_mem _ e2)]
      · rw [if_neg e2, if_neg (by rw [List.mem_cons, not_or]; exact ⟨e, e2⟩)]
theorem mem_norm {m : Tb} {x : Str} : x ∈ (norm m).map (·.1) ↔ val m x ≠ 0 := by
  rw [norm_names, List.mem_filter, (srt_perm _).mem_iff]
  constructor
  · intro h
    simpa using h.2
  · intro h
    exact ⟨mem_of_val h, by simpa using h⟩
theorem val_norm (m : Tb) (x : Str) : val (norm m) x = val m x := by
  unfold norm
  rw [val_fun]
  by_cases e : x ∈ (norm m).map (·.1)
  · rw [norm_names] at e
    rw [if_pos e]
  · have e2 := e
    rw [norm_names] at e2
    rw [if_neg e2]
    rw [mem_norm] at e
    exact (Classical.not_not.mp e).symm
theorem norm_sorted (m : Tb) : sortedS ((norm m).map (·.1)) = true := by
  rw [norm_names]
  exact sortedS_of_pairwise _ ((srt_pair _).filter _)
theorem norm_val (m : Tb) : norm m = ((norm m).map (·.1)).map fun y => (y, val m y) := by
  rw [norm_names]
  rfl
/-- a table's sorted form is known by its values -/
theorem norm_ext {m n : Tb} (hm : Nd m) (hn : Nd n) (h : ∀ x, val m x = val n x) : norm m = norm n := by
  have e : (norm m).map (·.1) = (norm n).map (·.1) := by
    refine sorted_one (norm_sorted m) (norm_sorted n) ((List.perm_ext_iff_of_nodup (nd_norm hm) (nd_norm hn)).mpr fun x => ?_)
    rw [mem_norm, mem_norm, h]
  rw [norm_val m, norm_val n, e]
  refine List.map_congr_left fun x _ => ?_
  rw [h]
theorem norm_norm {m : Tb} (hm : Nd m) : norm (norm m) = norm m := norm_ext (nd_norm hm) hm (val_norm m)
theorem putT_names (m : Tb) (x : Str) (v : Int) : (putT m x v).map (·.1) = if x ∈ m.map (·.1) then m.map (·.1) else m.map (·.1) ++ [x] := by
  have e : (m.any fun p => decide (p.1 = x)) = true ↔ x ∈ m.map (·.1) := by
    rw [List.any_eq_true, List.mem_map]
    constructor
    · rintro ⟨p, hp, h⟩; exact ⟨p, hp, of_decide_eq_true h⟩
    · rintro ⟨p, hp, h⟩; exact ⟨p, hp, decide_eq_true h⟩
  unfold putT
  by_cases c : x ∈ m.map (·.1)
  · rw [if_pos c, if_pos (e.mpr c), List.map_map]
    refine List.map_congr_left fun p _ => ?_
    show (if p.1 = x then (p.1, v) else p).1 = p.1
    split <;> rfl
  · rw [if_neg c, if_neg (fun z => c (e.mp z)), List.map_append]
    rfl
theorem nd_putT {m : Tb} (h : Nd m) (x : Str) (v : Int) : Nd (putT m x v) := by
  unfold Nd
  rw [putT_names]
  split
  · exact h
  · rename_i c
    rw [List.nodup_append]
    refine ⟨h, by simp, fun a ha b hb e => ?_⟩
    rw [List.mem_singleton] at hb
    subst hb
    subst e
    exact c ha
theorem val_app (m n : Tb) (x : Str) : val (m ++ n) x = if x ∈ m.map (·.1) then val m x else val n x := by
  induction m with
  | nil => rfl
  | cons p r ih =>
    obtain ⟨y, w⟩ := p
    rw [List.cons_append, val_cons, val_cons, ih]
    by_cases e : x = y
    · subst e; rw [if_pos rfl, if_pos rfl, if_pos (by rw [List.map_cons]; exact List.mem_cons_self)]
    · rw [if_neg e, if_neg e]
      by_cases e2 : x ∈ r.map (·.1)
      · rw [if_pos e2, if_pos (by rw [List.map_cons]; exact List.mem_cons_of_mem _ e2)]
      · rw [if_neg e2, if_neg (by rw [List.map_cons, List.mem_cons, not_or]; exact ⟨e, e2⟩)]
theorem val_upd (m : Tb) (x : Str) (v : Int) (y : Str) : val (m.map fun p => if p.1 = x then (p.1, v) else p) y = if y = x ∧ x ∈ m.map (·.1) then v else val m y := by
  induction m with
  | nil => rw [if_neg (fun z => (nomatch z.2))]; rfl
  | cons p r ih =>
    obtain ⟨z, w⟩ := p
    rw [List.map_cons]
    by_cases e : z = x
    · subst e
      rw [if_pos rfl, val_cons, val_cons, ih]
      by_cases e2 : y = z
      · rw [if_pos e2, if_pos ⟨e2, by rw [List.map_cons]; exact List.mem_cons_self⟩]
      · rw [if_neg e2, if_neg (fun h => e2 h.1), if_neg (fun h => e2 h.1), if_neg e2]
    · rw [if_neg e, val_cons, val_cons, ih]
      by_cases e2 : y = z
      · rw [if_pos e2, if_pos e2, if_neg (fun h => e (e2.symm.trans h.1))]
      · rw [if_neg e2, if_neg e2]
        by_cases e3 : y = x ∧ x ∈ r.map (·.1)
        · rw [if_pos e3, if_pos ⟨e3.1, by rw [List.map_cons]; exact List.mem_cons_of_mem _ e3.2⟩]
        · rw [if_neg e3, if_neg]
          rintro ⟨h1, h2⟩
          rw [List.map_cons, List.mem_cons] at h2
          rcases h2 with h2 | h2
          · exact e h2.symm
          · exact e3 ⟨h1, h2⟩
theorem val_putT (m : Tb) (x : Str) (v : Int) (y : Str) : val (putT m x v) y = if y = x then v else val m y := by
  have e : (m.any fun p => decide (p.1 = x)) = true ↔ x ∈ m.map (·.1) := by
    rw [List.any_eq_true, List.mem_map]
    constructor
    · rintro ⟨p, hp, h⟩; exact ⟨p, hp, of_decide_eq_true h⟩
    · rintro ⟨p, hp, h⟩; exact ⟨p, hp, decide_eq_true h⟩
  unfold putT
  by_cases c : x ∈ m.map (·.1)
  · rw [if_pos (e.mpr c), val_upd]
    by_cases e2 : y = x
    · rw [if_pos ⟨e2, c⟩, if_pos e2]
    · rw [if_neg (fun h => e2 h.1), if_neg e2]
  · rw [if_neg (fun z => c (e.mp z)), val_app, val_cons]
    by_cases e2 : y = x
    · subst e2
      rw [if_neg c, if_pos rfl, if_pos rfl]
    · rw [if_neg e2, if_neg e2]
      by_cases e3 : y ∈ m.map (·.1)
      · rw [if_pos e3]
      · rw [if_neg e3, val_no e3]; rfl
end AS

set_option Elab.async false
set_option linter.all false
set_option maxRecDepth 100000
set_option maxHeartbeats 4000000
/-! Q6: sums of tables. -/
namespace AS
open PySem PySem.Spec PyProof.Rows L2
/-- found[name] = found.get(name, 0) + exponent, for each -/
def addT (acc m : Tb) : Tb := m.foldl (fun a q => putT a q.1 (val a q.1 + q.2)) acc
def prodT (ms : List Tb) : Tb := ms.foldl addT []
theorem addT_cons (a : Tb) (q : Str × Int) (m : Tb) : addT a (q :: m) = addT (putT a q.1 (val a q.1 + q.2)) m := rfl
theorem nd_cons {y : Str} {w : Int} {r : Tb} (h : Nd ((y, w) :: r)) : y ∉ r.map (·.1) ∧ Nd r := by
  unfold Nd at h
  rw [List.map_cons, List.nodup_cons] at h
  exact h
theorem val_addT (m : Tb) : ∀ (a : Tb) (x : Str), Nd m → val (addT a m) x = val a x + val m x := by
  induction m with
  | nil => intro a x _; exact (Int.add_zero _).symm
  | cons q r ih =>
    obtain ⟨y, w⟩ := q
    intro a x h
    obtain ⟨h1, h2⟩ := nd_cons h
    rw [addT_cons, ih _ _ h2, val_putT, val_cons]
    by_cases e : x = y
    · subst e
      rw [if_pos rfl, if_pos rfl, val_no h1, Int.add_zero]
    · rw [if_neg e, if_neg e]
theorem nd_addT (m : Tb) : ∀ (a : Tb), Nd a → Nd (addT a m) := by
  induction m with
  | nil => intro a h; exact h
  | cons q r ih => intro a h; exact ih _ (nd_putT h _ _)
theorem mem_addT (m : Tb) : ∀ (a : Tb) (x : Str), x ∈ (addT a m).map (·.1) ↔ x ∈ a.map (·.1) ∨ x ∈ m.map (·.1) := by
  induction m with
  | nil => intro a x; exact ⟨.inl, fun h => h.elim id (fun z => (nomatch z))⟩
  | cons q r ih =>
    intro a x
    rw [addT_cons, ih, putT_names, List.map_cons, List.mem_cons]
    split
    · rename_i c
      constructor
      · rintro (h | h)
        · exact .inl h
        · exact .inr (.inr h)
      · rintro (h | h | h)
        · exact .inl h
        · subst h; exact .inl c
        · exact .inr h
    · rw [List.mem_append, List.mem_singleton]
      exact or_assoc
theorem len_addT (m : Tb) : ∀ (a : Tb), (addT a m).length ≤ a.length + m.length := by
  induction m with
  | nil => intro a; exact Nat.le_refl _
  | cons q r ih =>
    intro a
    have h1 := ih (putT a q.1 (val a q.1 + q.2))
    have h2 : (putT a q.1 (val a q.1 + q.2)).length ≤ a.length + 1 := by
      unfold putT
      split
      · rw [List.length_map]; omega
      · rw [List.length_append]; exact Nat.le_refl _
    rw [addT_cons, List.length_cons]
    omega
theorem foldT (ms : List Tb) : ∀ (a : Tb) (x : Str), (∀ m ∈ ms, Nd m) → val (ms.foldl addT a) x = val a x + (ms.map (val · x)).sum := by
  induction ms with
  | nil => intro a x _; exact (Int.add_zero _).symm
  | cons m r ih =>
    intro a x h
    rw [List.foldl_cons, ih _ _ (fun n hn => h n (List.mem_cons_of_mem _ hn)), val_addT _ _ _ (h m List.mem_cons_self), List.map_cons, List.sum_cons, Int.add_assoc]
theorem val_prodT {ms : List Tb} (h : ∀ m ∈ ms, Nd m) (x : Str) : val (prodT ms) x = (ms.map (val · x)).sum := by
  rw [prodT, foldT ms [] x h]
  exact Int.zero_add _
theorem nd_foldT (ms : List Tb) : ∀ (a : Tb), Nd a → Nd (ms.foldl addT a) := by
  induction ms with
  | nil => intro a h; exact h
  | cons m r ih => intro a h; exact ih _ (nd_addT m a h)
theorem nd_prodT (ms : List Tb) : Nd (prodT ms) := nd_foldT ms [] List.nodup_nil
theorem mem_foldT (ms : List Tb) : ∀ (a : Tb) (x : Str), x ∈ (ms.foldl addT a).map (·.1) → x ∈ a.map (·.1) ∨ ∃ m ∈ ms, x ∈ m.map (·.1) := by
  induction ms with
  | nil => intro a x h; exact .inl h
  | cons m r ih =>
    intro a x h
    rcases ih _ _ h with h | ⟨n, hn, h⟩
    · rcases (mem_addT m a x).mp h with h | h
      · exact .inl h
      · exact .inr ⟨m, List.mem_cons_self, h⟩
    · exact .inr ⟨n, List.mem_cons_of_mem _ hn, h⟩
theorem mem_prodT {ms : List Tb} {x : Str} (h : x ∈ (prodT ms).map (·.1)) : ∃ m ∈ ms, x ∈ m.map (·.1) := (mem_foldT ms [] x h).elim (fun z => (nomatch z)) id
theorem len_foldT (ms : List Tb) : ∀ (a : Tb), (ms.foldl addT a).length ≤ a.length + (ms.map List.length).sum := by
  induction ms with
  | nil => intro a; exact Nat.le_refl _
  | cons m r ih =>
    intro a
    have h1 := ih (addT a m)
    have h2 := len_addT m a
    rw [List.foldl_cons, List.map_cons, List.sum_cons]
    omega
theorem len_prodT (ms : List Tb) : (prodT ms).length ≤ (ms.map List.length).sum := by
  have := len_foldT ms []
  rw [List.length_nil, Nat.zero_add] at this
  exact this
theorem val_mapT (p : Int → Bool) (f : Int → Int) {m : Tb} (h : Nd m) (x : Str) (hz : f 0 = 0) : val (mapT p f m) x = if p (val m x) then f (val m x) else 0 := by
  induction m with
  | nil =>
    show (0 : Int) = if p 0 then f 0 else 0
    rw [hz]
    split <;> rfl
  | cons q r ih =>
    obtain ⟨y, w⟩ := q
    obtain ⟨h1, h2⟩ := nd_cons h
    have ih := ih h2
    unfold mapT at ih ⊢
    rw [val_cons]
    cases c : p w with
    | true =>
      rw [List.filter_cons_of_pos (p := fun q : Str × Int => p q.2) (a := (y, w)) c, List.map_cons, val_cons, ih]
      by_cases e : x = y
      · rw [if_pos e, if_pos e, c]; rfl
      · rw [if_neg e, if_neg e]
    | false =>
      rw [List.filter_cons_of_neg (p := fun q : Str × Int => p q.2) (a := (y, w)) (by show ¬ p w = true; rw [c]; exact Bool.false_ne_true), ih]
      by_cases e : x = y
      · subst e
        rw [if_pos rfl, c, val_no h1, hz]
        split <;> rfl
      · rw [if_neg e]
end AS

set_option Elab.async false
set_option linter.all false
set_option maxRecDepth 100000
set_option maxHeartbeats 4000000
/-! Q7: data that is shown: numbers, names, tables. -/
namespace AS
open PySem PySem.Spec PyProof.Rows L2
def SmI (i : Int) : Prop := i.natAbs.log2 < 1920
theorem Shw.int {i : Int} (h : SmI i) : Shw (.int i) 0 2000 := ⟨decide_eq_true h, Nat.le_refl _, by
  have := int_text_len_1921 h
  have e : (PyData.int i).shown = Str.ofString (toString i) := by simp only [PyData.shown]
  rw [e]
  omega⟩
theorem Shw.bool (b : Bool) : Shw (.bool b) 0 2000 := ⟨rfl, Nat.le_refl _, by cases b <;> decide⟩
theorem Shw.str {x : Str} (h : x.length ≤ 100) (hc : ∀ c ∈ x.cps.toList, c < 16 ^ 8) : Shw (.str x) 0 2000 := ⟨rfl, Nat.le_refl _, by
  have e := PySem.StrLaws.reprText_len x hc
  have e2 : (PyData.str x).shown = reprText x := by simp only [PyData.shown]
  rw [e2]
  omega⟩
theorem shwKv {n B : Nat} : ∀ {es : List (PyData × PyData)}, (∀ e ∈ es, Shw e.1 n B ∧ Shw e.2 n B) → PyData.showableKv es = true ∧ PyData.depthKv es ≤ n ∧ ((PyData.shownKv es).map (·.length)).sum ≤ (2 * B + 2) * es.length
  | [], _ => ⟨rfl, Nat.zero_le _, Nat.zero_le _⟩
  | (k, v) :: r, h => by
    obtain ⟨h1, h2, h3⟩ := shwKv (es := r) fun e he => h e (List.mem_cons_of_mem _ he)
    obtain ⟨hk, hv⟩ := h (k, v) List.mem_cons_self
    refine ⟨?_, Nat.max_le.mpr ⟨Nat.max_le.mpr ⟨hk.2.1, hv.2.1⟩, h2⟩, ?_⟩
    · show (k.showable && v.showable && PyData.showableKv r) = true
      rw [hk.1, hv.1, h1]
      rfl
    · have e2 : (k.shown ++ ": " ++ v.shown).length = k.shown.length + 2 + v.shown.length := by
        rw [strLen_append, strLen_append]; rfl
      have a : k.shown.length ≤ B := hk.2.2
      have b : v.shown.length ≤ B := hv.2.2
      simp only [PyData.shownKv, List.map_cons, List.sum_cons, List.length_cons, Nat.mul_succ, e2]
      omega
theorem Shw.dict {es : List (PyData × PyData)} {n B : Nat} (h : ∀ e ∈ es, Shw e.1 n B ∧ Shw e.2 n B) : Shw (.dict es) (n + 1) ((2 * B + 4) * es.length + 3) := by
  obtain ⟨h1, h2, h3⟩ := shwKv h
  refine ⟨h1, Nat.succ_le_succ h2, ?_⟩
  have e : (PyData.dict es).shown = dictText (PyData.shownKv es) := by simp only [PyData.shown]
  rw [e]
  have a := dictText_len_le (PyData.shownKv es)
  have b := PyData.shownKv_length es
  have c : (2 * B + 4) * es.length = (2 * B + 2) * es.length + 2 * es.length := by rw [← Nat.add_mul]
  omega
/-- a table as Python's data -/
def pyT (m : Tb) : List (PyData × PyData) := m.map fun q => (.str q.1, .int q.2)
theorem toPyE_tD (m : Tb) : toPyE (tD m) = some (pyT m) := by
  induction m with
  | nil => rfl
  | cons p r ih =>
    show (match toPy (.int p.2), toPyE (tD r) with | some x, some xs => some ((PyData.str p.1, x) :: xs) | _, _ => none) = _
    rw [ih]
    rfl
theorem toPys_map {α : Type} (f : α → D) (q : α → PyData) (h : ∀ a, toPy (f a) = some (q a)) (l : List α) : toPys (l.map f) = some (l.map q) := by
  induction l with
  | nil => rfl
  | cons p r ih =>
    show (match toPy (f p), toPys (r.map f) with | some x, some xs => some (x :: xs) | _, _ => none) = _
    rw [ih, h]
    rfl
end AS

set_option Elab.async false
set_option linter.all false
/-! Q8: what simp needs of methods and calls, by rfl. -/
namespace AS
open PySem PySem.Spec PyProof.Rows L2
section
variable (K : PySem.W.Frag)
theorem mdJoin_bo : (mdJoin K).bo = true := rfl
theorem mdJoin_fr : (mdJoin K).fr = false := rfl
theorem mdJoin_sel (d : D) : (mdJoin K).sel d = isStrD d := rfl
theorem mdJoin_u (ds : List D) (P : D → Prop) (X : XD) : (mdJoin K).u ds P X = joinD ds P := rfl
theorem mdGet_bo : (mdGet K).bo = true := rfl
theorem mdGet_fr : (mdGet K).fr = false := rfl
theorem mdGet_sel (d : D) : (mdGet K).sel d = isDicD d := rfl
theorem mdGet_u (ds : List D) (P : D → Prop) (X : XD) : (mdGet K).u ds P X = getDD ds P := rfl
theorem lenO_bor {C : Addr} {f : Fd} {hb hf} : (fdLenO K C f hb hf).bor = false := rfl
theorem lenO_fr {C : Addr} {f : Fd} {hb hf} : (fdLenO K C f hb hf).fr = false := rfl
theorem strO_bor {C : Addr} {f : Fd} {hf} : (fdStrO C f hf).bor = false := rfl
theorem strO_fr {C : Addr} {f : Fd} {hf} : (fdStrO C f hf).fr = false := rfl
theorem opEq_u : (opEq K).u = eqvD false := rfl
theorem opNe_u : (opNe K).u = eqvD true := rfl
theorem opIn_u : (opIn K).u = inD false := rfl
theorem opNin_u : (opNin K).u = inD true := rfl
theorem opAdd_u : (opAdd K).u = addD := rfl
theorem opIdx_u : (opIdx K).u = idxD := rfl
theorem opMul_u : opMul.u = intD CMul fun i j => .int (i * j) := rfl
end
end AS

set_option Elab.async false
set_option linter.all false
set_option maxRecDepth 100000
set_option maxHeartbeats 4000000
/-! Q9: drawn choices, joined signs. -/
namespace AS
open PySem PySem.Spec PyProof.Rows L2
theorem atI_in {α : Type} {xs : List α} {d : Int} (d0 : 0 ≤ d) (d1 : d < xs.length) : ∃ c, c ∈ xs ∧ atI xs d = some c := by
  obtain ⟨j, rfl⟩ : ∃ j : Nat, d = (j : Int) := ⟨d.toNat, by omega⟩
  have hj : j < xs.length := by omega
  exact ⟨xs[j], List.getElem_mem hj, atI_nat (List.getElem?_eq_getElem hj)⟩
theorem atI_0 {α : Type} {x : α} {xs : List α} : atI (x :: xs) 0 = some x := atI_nat (j := 0) rfl
/-- o[i] of a list, wherever it falls -/
theorem idx_in {ds : List D} {d : Int} {P : D → Prop} (d0 : 0 ≤ d) (d1 : d < ds.length) (h : ∀ c ∈ ds, P c) : idxD (.lst ds) (.int d) P := by
  obtain ⟨c, hc, e⟩ := atI_in d0 d1
  show (match atI ds d with | some d => P d | none => False)
  rw [e]
  exact h c hc
theorem idx_ins {z : Str} {d : Int} {P : D → Prop} (hz : z.length ≤ sizeLine) (d0 : 0 ≤ d) (d1 : d < z.length) (h : ∀ c ∈ z.cps.toList, P (.str ⟨#[c]⟩)) : idxD (.str z) (.int d) P := by
  have e0 : z.cps.toList.length = z.length := by simp [Str.length]
  obtain ⟨c, hc, e⟩ := atI_in (xs := z.cps.toList) d0 (by rw [e0]; exact d1)
  refine ⟨hz, ?_⟩
  show (match atI z.cps.toList d with | some c => P (.str ⟨#[c]⟩) | none => False)
  rw [e]
  exact h c hc
theorem idx_0 {c : D} {ds : List D} {P : D → Prop} (h : P c) : idxD (.lst (c :: ds)) (.int 0) P := by
  show (match atI (c :: ds) 0 with | some d => P d | none => False)
  rw [atI_0]
  exact h
theorem str_app_cps (a b : Str) : (a ++ b).cps.toList = a.cps.toList ++ b.cps.toList := by
  show (a.cps ++ b.cps).toList = _
  rw [Array.toList_append]
theorem join_empty : ∀ ys : List Str, (Txt.join (Str.ofString "") ys).cps.toList = ys.flatMap (fun y => y.cps.toList) := by
  have e : ∀ ys : List Str, (Str.join (Str.ofString "") ys).cps.toList = ys.flatMap (fun y => y.cps.toList) := by
    intro ys
    induction ys with
    | nil => rfl
    | cons x r ih =>
      cases r with
      | nil =>
        show x.cps.toList = _
        simp
      | cons y r =>
        show (x ++ Str.ofString "" ++ Str.join (Str.ofString "") (y :: r)).cps.toList = _
        rw [str_app_cps, str_app_cps, ih]
        show x.cps.toList ++ [] ++ _ = _
        simp
  intro ys
  show (Builtin.Str.glued (Str.ofString "") ys).cps.toList = _
  rw [StrLaws.glued_eq_join]
  exact e ys
theorem strs_map (ys : List Str) : strsD (ys.map D.str) = some ys := by
  induction ys with
  | nil => rfl
  | cons y r ih =>
    show (strsD (r.map D.str)).map (y :: ·) = _
    rw [ih]
    rfl
/-- all kinds of lists whose members are signs that pass p -/
theorem paired_strs {Gd : D → D → Prop} {p : Str → Prop} (h : ∀ x y, Gd x y → ∃ z, y = .str z ∧ p z) : ∀ {xs ys : List D}, Paired Gd xs ys → ∃ zs : List Str, ys = zs.map D.str ∧ zs.length = xs.length ∧ ∀ z ∈ zs, p z
  | _, _, .nil => ⟨[], rfl, rfl, fun _ h => (nomatch h)⟩
  | _, _, .cons h1 t => by
    obtain ⟨z, rfl, hz⟩ := h _ _ h1
    obtain ⟨zs, rfl, hl, hp⟩ := paired_strs h t
    refine ⟨z :: zs, rfl, by rw [List.length_cons, List.length_cons, hl], fun w hw => ?_⟩
    rcases List.mem_cons.mp hw with rfl | hw
    · exact hz
    · exact hp w hw
end AS
namespace AS
open PySem PySem.Spec PyProof.Rows L2
theorem join_i {a : Str} {ys : List Str} {P : D → Prop} (hl : (ys.map (·.length)).sum + ys.length * a.length ≤ 16777216) (h : P (.str (Txt.join a ys))) : joinD [.str a, .lst (ys.map D.str)] P := by
  show (match strsD (ys.map D.str) with | some ys => (ys.map (·.length)).sum + ys.length * a.length ≤ 16777216 ∧ P (.str (Txt.join a ys)) | none => False)
  rw [strs_map]
  exact ⟨hl, h⟩
theorem walkD_s {z : Str} {b : Bool} (hz : z.length ≤ sizeLine) : walkD .s b (.str z) = some (z.cps.toList.map fun c => .str ⟨#[c]⟩) := by
  have hz : z.cps.size ≤ sizeLine := hz
  simp only [walkD, if_pos hz]
theorem all_fl (ns : List Str) : (ns.map D.str).all flD = true := List.all_eq_true.mpr fun d hd => by
  obtain ⟨z, _, rfl⟩ := List.mem_map.mp hd
  rfl
theorem any_eqF (ns : List Str) (y : Str) : ((ns.map D.str).any fun d => eqF d (.str y)) = decide (y ∈ ns) := by
  induction ns with
  | nil => rfl
  | cons z r ih =>
    rw [List.map_cons, List.any_cons, ih]
    have e : eqF (.str z) (.str y) = decide (z = y) := rfl
    rw [e]
    by_cases c : z = y
    · subst c
      simp
    · have c2 : ¬ y = z := fun e => c e.symm
      simp [c, c2]
/-- x not in a list of texts -/
theorem nin_strs {ns : List Str} {y : Str} {P : D → Prop} (h : P (.bl (!decide (y ∈ ns)))) : inD true (.str y) (.lst (ns.map D.str)) P := by
  refine ⟨rfl, all_fl ns, ?_⟩
  rw [any_eqF]
  exact h
theorem sum_ones {zs : List Str} (h : ∀ z ∈ zs, z.length = 1) : (zs.map (·.length)).sum = zs.length := by
  induction zs with
  | nil => rfl
  | cons z r ih =>
    rw [List.map_cons, List.sum_cons, ih fun y hy => h y (List.mem_cons_of_mem _ hy), h z List.mem_cons_self, List.length_cons]
    omega
end AS
namespace AS
open PySem PySem.Spec PyProof.Rows L2
section
variable {G : D → List Sl → (List Sl → Prop) → Prop} {T : List Sl → (Bool → Prop) → Prop} {E Kx : List Sl → (D → Prop) → Prop} {δ : List Sl}
/-- [x for x in texts if p x] -/
theorem lcU_strs {P : List D → Prop} {xs : List D} (p : Str → Bool) (l : List Str) (e : xs = l.map D.str) (hx : ∀ z ∈ l, ∀ (R : D → Prop) (S : Prop), (p z = true → R (.str z)) → (p z = false → S) → G (.str z) δ fun δ2 => T δ2 fun b => match b with | true => E δ2 R | false => S) (h : P ((l.filter p).map D.str)) : lcU G T E δ P xs [] := by
  subst e
  refine lcU_fm (fun d => match d with | .str z => p z | _ => false) id _ _ (fun x hm R S h1 h2 => ?_) ?_
  · obtain ⟨z, hz, rfl⟩ := List.mem_map.mp hm
    exact hx z hz R S h1 h2
  · rw [List.nil_append, List.map_id, List.filter_map]
    exact h
end
end AS
namespace AS
open PySem PySem.Spec PyProof.Rows L2
theorem eq_int {a b : Int} {P : D → Prop} (h : P (.bl (decide (a = b)))) : eqvD false (.int a) (.int b) P := h
theorem ne_int {a b : Int} {P : D → Prop} (h : P (.bl (!decide (a = b)))) : eqvD true (.int a) (.int b) P := h
theorem py_lst {ds : List D} {ps : List PyData} (h : toPys ds = some ps) : toPy (.lst ds) = some (.list ps) := by simp only [toPy, h, Option.map_some]
theorem noDics_of : ∀ {ds : List D}, (∀ d ∈ ds, noDic d = true) → noDics ds = true
  | [], _ => rfl
  | d :: ds, h => by
    show (noDic d && noDics ds) = true
    rw [h d List.mem_cons_self, noDics_of fun e he => h e (List.mem_cons_of_mem _ he)]
    rfl
theorem canLay_strs : ∀ {ns : List Str}, (∀ x ∈ ns, PyData.strOk x = true) → PyData.canLayAll0 (ns.map fun x => .str x) = true
  | [], _ => rfl
  | x :: ns, h => by
    show (PyData.canLay0 (.str x) && PyData.canLayAll0 (ns.map fun x => .str x)) = true
    rw [canLay_strs fun e he => h e (List.mem_cons_of_mem _ he)]
    have e : PyData.canLay0 (.str x) = PyData.strOk x := by simp only [PyData.canLay0]
    rw [e, h x List.mem_cons_self]
    rfl
theorem depth_strs : ∀ {ns : List Str}, PyData.depthAll (ns.map fun x => .str x) = 0
  | [] => rfl
  | x :: ns => by
    show max (PyData.depth (.str x)) (PyData.depthAll (ns.map fun x => .str x)) = 0
    rw [depth_strs]
    rfl
/-- names != [] -/
theorem ne_nil {ns : List Str} {P : D → Prop} (hs : ∀ x ∈ ns, PyData.strOk x = true) (h : P (.bl (!ns.isEmpty))) : eqvD true (.lst (ns.map D.str)) (.lst []) P := by
  refine ⟨.list (ns.map fun x => .str x), .list [], py_lst (toPys_map _ _ (fun _ => rfl) ns), rfl, noDics_of (ds := ns.map D.str) fun d hd => ?_, rfl, ?_, rfl, ?_⟩
  · obtain ⟨z, _, rfl⟩ := List.mem_map.mp hd
    rfl
  · have e1 : PyData.canLay0 (.list (ns.map fun x => .str x)) = true := by
      have e : PyData.canLay0 (.list (ns.map fun x => .str x)) = PyData.canLayAll0 (ns.map fun x => .str x) := by simp only [PyData.canLay0]
      rw [e]
      exact canLay_strs hs
    have e2 : PyData.depth (.list (ns.map fun x => .str x)) = 1 := by
      show Nat.succ (PyData.depthAll (ns.map fun x => .str x)) = 1
      rw [depth_strs]
    show (_ && decide _) = true
    rw [e1, e2]
    rfl
  · have e : PyData.eqv (.list (ns.map fun x => .str x)) (.list []) = ns.isEmpty := by
      rw [PyData.eqv]
      cases ns <;> rfl
    rw [e]
    exact h
end AS
namespace AS
open PySem PySem.Spec PyProof.Rows L2
section
variable {G : D → List Sl → (List Sl → Prop) → Prop} {T : List Sl → (Bool → Prop) → Prop} {E Kx : List Sl → (D → Prop) → Prop} {δ : List Sl}
/-- [g a for f a in ..] -/
theorem lcU_of' {α : Type} {P : List D → Prop} (f g : α → D) : ∀ (l : List α) (acc : List D), (∀ a ∈ l, ∀ (R : D → Prop) (S : Prop), R (g a) → G (f a) δ fun δ2 => T δ2 fun b => match b with | true => E δ2 R | false => S) → P (acc ++ l.map g) → lcU G T E δ P (l.map f) acc
  | [], acc, _, h => by
    show P acc
    simpa using h
  | a :: l, acc, hx, h => by
    refine hx a List.mem_cons_self _ _ ?_
    refine lcU_of' f g l _ (fun b hb => hx b (List.mem_cons_of_mem _ hb)) ?_
    rw [List.map_cons] at h
    simpa [List.append_assoc] using h
theorem lcU_of {α : Type} {P : List D → Prop} {xs : List D} (l : List α) (f g : α → D) (e : xs = l.map f) (hx : ∀ a ∈ l, ∀ (R : D → Prop) (S : Prop), R (g a) → G (f a) δ fun δ2 => T δ2 fun b => match b with | true => E δ2 R | false => S) (h : P (l.map g)) : lcU G T E δ P xs [] := by
  subst e
  exact lcU_of' f g l [] hx (by simpa using h)
end
theorem paired_of {α : Type} {Gd : D → D → Prop} {f : α → D} {p : α → Prop} (h : ∀ x y, Gd x y → ∃ z, y = f z ∧ p z) : ∀ {xs ys : List D}, Paired Gd xs ys → ∃ zs : List α, ys = zs.map f ∧ zs.length = xs.length ∧ ∀ z ∈ zs, p z
  | _, _, .nil => ⟨[], rfl, rfl, fun _ h => (nomatch h)⟩
  | _, _, .cons h1 t => by
    obtain ⟨z, rfl, hz⟩ := h _ _ h1
    obtain ⟨zs, rfl, hl, hp⟩ := paired_of h t
    refine ⟨z :: zs, rfl, by rw [List.length_cons, List.length_cons, hl], fun w hw => ?_⟩
    rcases List.mem_cons.mp hw with rfl | hw
    · exact hz
    · exact hp w hw
end AS

set_option Elab.async false
set_option linter.all false
set_option maxRecDepth 100000
set_option maxHeartbeats 4000000
set_option exponentiation.threshold 5000
/-! Q10: tables over some names, with bounded values; normal tables. -/
namespace AS
open PySem PySem.Spec PyProof.Rows L2
theorem val_of_mem {m : Tb} (hm : Nd m) {q : Str × Int} (h : q ∈ m) : val m q.1 = q.2 := by
  obtain ⟨x, v⟩ := q
  induction m with
  | nil => cases h
  | cons q r ih =>
    obtain ⟨y, w⟩ := q
    obtain ⟨h1, h2⟩ := nd_cons hm
    rw [val_cons]
    rcases List.mem_cons.mp h with e | e
    · cases e; rw [if_pos rfl]
    · have n : ¬ x = y := fun z => h1 (by rw [← z]; exact List.mem_map.mpr ⟨_, e, rfl⟩)
      show (if x = y then w else val r x) = v
      rw [if_neg n]
      exact ih h2 e
theorem tb_val {m : Tb} (hm : Nd m) : m = (m.map (·.1)).map fun y => (y, val m y) := by
  rw [List.map_map]
  conv => lhs; rw [← List.map_id m]
  refine List.map_congr_left fun q hq => ?_
  show q = (q.1, val m q.1)
  rw [val_of_mem hm hq]
/-- sorted, without zeros: its own normal form -/
theorem norm_fix {m : Tb} (hm : Nd m) (hs : sortedS (m.map (·.1)) = true) (hz : ∀ q ∈ m, q.2 ≠ 0) : norm m = m := by
  have e : (norm m).map (·.1) = m.map (·.1) := by
    refine sorted_one (norm_sorted m) hs ((List.perm_ext_iff_of_nodup (nd_norm hm) hm).mpr fun x => ?_)
    rw [mem_norm]
    constructor
    · exact fun h => mem_of_val h
    · intro h
      obtain ⟨q, hq, rfl⟩ := List.mem_map.mp h
      rw [val_of_mem hm hq]
      exact hz q hq
  rw [norm_val m, e]
  exact (tb_val hm).symm
/-- a table that is sorted, without zeros -/
structure Nrm (m : Tb) : Prop where
  nd : Nd m
  eq : norm m = m
theorem nrm_norm {m : Tb} (h : Nd m) : Nrm (norm m) := ⟨nd_norm h, norm_norm h⟩
theorem nrm_nil : Nrm [] := ⟨List.nodup_nil, norm_fix List.nodup_nil rfl fun _ h => (nomatch h)⟩
theorem Nrm.nz {m : Tb} (h : Nrm m) : ∀ q ∈ m, q.2 ≠ 0 := fun q hq => by
  have hm : q.1 ∈ (norm m).map (·.1) := by rw [h.eq]; exact List.mem_map.mpr ⟨q, hq, rfl⟩
  rw [mem_norm, val_of_mem h.nd hq] at hm
  exact hm
theorem Nrm.srt {m : Tb} (h : Nrm m) : sortedS (m.map (·.1)) = true := by rw [← h.eq]; exact norm_sorted m
/-- two of them with the same values are one -/
theorem Nrm.ext {m n : Tb} (hm : Nrm m) (hn : Nrm n) (h : ∀ x, val m x = val n x) : m = n := by
  rw [← hm.eq, ← hn.eq]
  exact norm_ext hm.nd hn.nd h
theorem nrm_mapT {m : Tb} (h : Nrm m) (p : Int → Bool) (f : Int → Int) (hf : ∀ v, v ≠ 0 → p v = true → f v ≠ 0) : Nrm (mapT p f m) := by
  have hnd := nd_mapT (p := p) (f := f) h.nd
  refine ⟨hnd, norm_fix hnd ?_ fun q hq => ?_⟩
  · rw [mapT_names]
    exact sortedS_of_pairwise _ ((sorted_pair h.srt).sublist ((List.filter_sublist).map _))
  · unfold mapT at hq
    obtain ⟨z, hz, rfl⟩ := List.mem_map.mp hq
    obtain ⟨z1, z2⟩ := List.mem_filter.mp hz
    exact hf _ (h.nz z z1) z2
/-- over some names, with values up to a bound -/
structure Ov (ns : List Str) (B : Nat) (m : Tb) : Prop where
  nd : Nd m
  sub : ∀ x ∈ m.map (·.1), x ∈ ns
  bd : ∀ x, (val m x).natAbs ≤ B
section
variable {ns : List Str} {B C : Nat} {m n : Tb}
theorem ov_nil : Ov ns B [] := ⟨List.nodup_nil, fun _ h => (nomatch h), fun _ => Nat.zero_le _⟩
theorem Ov.mono (h : Ov ns B m) (hb : B ≤ C) : Ov ns C m := ⟨h.nd, h.sub, fun x => Nat.le_trans (h.bd x) hb⟩
theorem Ov.len (h : Ov ns B m) : m.length ≤ ns.length := by
  have e : m.length = (m.map (·.1)).length := (List.length_map ..).symm
  rw [e]
  exact List.Nodup.length_le_of_subset h.nd h.sub
theorem Ov.norm (h : Ov ns B m) : Ov ns B (norm m) := ⟨nd_norm h.nd, fun x hx => h.sub x (mem_of_val (mem_norm.mp hx)), fun x => by rw [val_norm]; exact h.bd x⟩
theorem Ov.put (h : Ov ns B m) {y : Str} {v : Int} (hy : y ∈ ns) (hv : v.natAbs ≤ B) : Ov ns B (putT m y v) := by
  refine ⟨nd_putT h.nd y v, fun x hx => ?_, fun x => ?_⟩
  · rw [putT_names] at hx
    split at hx
    · exact h.sub x hx
    · rcases List.mem_append.mp hx with hx | hx
      · exact h.sub x hx
      · rw [List.mem_singleton] at hx
        rw [hx]
        exact hy
  · rw [val_putT]
    split
    · exact hv
    · exact h.bd x
theorem Ov.add (h : Ov ns B m) (k : Ov ns C n) : Ov ns (B + C) (addT m n) := ⟨nd_addT n m h.nd, fun x hx => ((mem_addT n m x).mp hx).elim (h.sub x) (k.sub x), fun x => by
  rw [val_addT n m x k.nd]
  have := h.bd x
  have := k.bd x
  omega⟩
theorem Ov.map (h : Ov ns B m) (p : Int → Bool) (f : Int → Int) (h0 : f 0 = 0) (hf : ∀ v : Int, v.natAbs ≤ B → (f v).natAbs ≤ C) : Ov ns C (mapT p f m) := by
  refine ⟨nd_mapT h.nd, fun x hx => ?_, fun x => ?_⟩
  · rw [mapT_names] at hx
    obtain ⟨q, hq, rfl⟩ := List.mem_map.mp hx
    exact h.sub _ (List.mem_map.mpr ⟨q, (List.mem_filter.mp hq).1, rfl⟩)
  · rw [val_mapT p f h.nd x h0]
    split
    · exact hf _ (h.bd x)
    · exact Nat.zero_le _
theorem ov_sum {ms : List Tb} (h : ∀ m ∈ ms, Ov ns B m) : Ov ns (B * ms.length) (prodT ms) := by
  refine ⟨nd_prodT ms, fun x hx => ?_, fun x => ?_⟩
  · obtain ⟨m, hm, hx⟩ := mem_prodT hx
    exact (h m hm).sub x hx
  · rw [val_prodT (fun m hm => (h m hm).nd)]
    induction ms with
    | nil => exact Nat.zero_le _
    | cons m r ih =>
      have h1 := (h m List.mem_cons_self).bd x
      have h2 := ih fun n hn => h n (List.mem_cons_of_mem _ hn)
      rw [List.map_cons, List.sum_cons, List.length_cons, Nat.mul_succ]
      omega
theorem Nd.rev (h : Nd m) : Nd m.reverse := by
  unfold Nd
  rw [List.map_reverse]
  unfold List.Nodup
  rw [List.pairwise_reverse]
  exact List.Pairwise.imp (fun q e => q e.symm) h
theorem val_rev (h : Nd m) (x : Str) : val m.reverse x = val m x := by
  by_cases c : x ∈ m.map (·.1)
  · obtain ⟨q, hq, rfl⟩ := List.mem_map.mp c
    rw [val_of_mem h hq, val_of_mem h.rev (List.mem_reverse.mpr hq)]
  · rw [val_no c, val_no (by rw [List.map_reverse, List.mem_reverse]; exact c)]
theorem Ov.rev (h : Ov ns B m) : Ov ns B m.reverse := ⟨h.nd.rev, fun x hx => h.sub x (by rw [List.map_reverse, List.mem_reverse] at hx; exact hx), fun x => by rw [val_rev h.nd]; exact h.bd x⟩
end
/-- a table is the same as itself -/
theorem sameT_refl {m : Tb} (h : Nd m) : sameD (tD m) (tD m) = true := by
  unfold sameD
  rw [beq_self_eq_true, Bool.true_and]
  refine List.all_eq_true.mpr fun p hp => ?_
  obtain ⟨q, hq, rfl⟩ := List.mem_map.mp hp
  have e := val_getD (m := m) (x := q.1) (List.mem_map.mpr ⟨q, hq, rfl⟩)
  show (match getD (tD m) (.inr q.1) with | some r => eqF (.int q.2) r | none => false) = true
  rw [e, val_of_mem h hq]
  exact beq_self_eq_true _
end AS

set_option Elab.async false
set_option linter.all false
set_option maxRecDepth 100000
set_option maxHeartbeats 4000000
/-! P14: **kw by data; a call's promise made weaker. -/
namespace AS
open PySem PySem.Spec PyProof.Rows L2
/-- what is passed and returned is shared -/
def fdW (f : Fd) : Fd := ⟨f.sp, false, false, f.u, fun r Hs H vs ds P X Q E o a hu k x => f.ok r Hs H vs ds P X Q E o (ar_of o a) hu (Kv.kr k) x⟩
/-- a def with **kw, called without keywords -/
def fdKw0 (n : Nat) (u : DSp) : Fd := ⟨fun vs H Q E => vs.length = n ∧ kwSp [] (spG false false u) vs [] H Q E, false, false, fun ds P X => ds.length = n ∧ u (ds ++ [.dic []]) P X, fun r Hs H vs ds P X Q E o a hu k x => by
  have a : Rps r Hs vs ds := a
  refine ⟨a.len.trans hu.1, rfl, fun p hp => ?_⟩
  have s : Stp r Hs H (upd Hs p (.dK [])) (upd H p (.dK [])) := .new hp (o.nn hp)
  have o2 : Ok r (upd Hs p (.dK [])) (upd H p (.dK [])) := o.new hp
  exact ⟨r, _, _, P, X, o2, (a.ext s.sh).app (.cons (.dic (.inl upd_same) (Nat.zero_le _) rfl .nil) .nil), hu.2, KR.mono (fr := false) k s o2, x.mono s o2⟩⟩
theorem zip_fst {α β : Type} : ∀ {as : List α} {bs : List β}, as.length = bs.length → (as.zip bs).map (·.1) = as
  | [], [], _ => rfl
  | a :: as, b :: bs, h => by
    show a :: (as.zip bs).map (·.1) = a :: as
    rw [zip_fst (Nat.succ.inj h)]
  | [], _ :: _, h => by cases h
  | _ :: _, [], h => by cases h
theorem zip_snd {α β : Type} : ∀ {as : List α} {bs : List β}, as.length = bs.length → (as.zip bs).map (·.2) = bs
  | [], [], _ => rfl
  | a :: as, b :: bs, h => by
    show b :: (as.zip bs).map (·.2) = b :: bs
    rw [zip_snd (Nat.succ.inj h)]
  | [], _ :: _, h => by cases h
  | _ :: _, [], h => by cases h
/-- a classmethod with **kw, called on the class by keywords alone -/
def mdKw (C : Addr) (ks : List Str) (u : DSp) : MdK := ⟨fun x _ => x = .ref C, fun vs zs H Q E => vs = [.ref C] ∧ kwSp ks (spG false false u) vs zs H Q E, false, isCst (.ref C), fun ds es P X => ds.length = 1 ∧ es.length = ks.length ∧ es.length ≤ sizeLine ∧ u (ds ++ [.dic ((ks.map Sum.inr).zip es)]) P X, fun r Hs H v d o h s => (by
    cases d with
    | cst w => cases (show Rp r Hs v (.cst w) from h); exact of_decide_eq_true s
    | _ => cases s), fun r Hs H v vs zs d ds es P X Q E o hv s hvs hzs hu k x => by
  obtain ⟨h1, h2, h3, hu⟩ := hu
  cases d with
  | cst w =>
    cases (show Rp r Hs v (.cst w) from hv)
    have ew := of_decide_eq_true s
    subst ew
    match ds, hvs, h1 with
    | [], hvs, _ =>
      cases hvs
      refine ⟨rfl, hzs.len.trans h2, fun p hp => ?_⟩
      have lz : (ks.map (Sum.inr : Str → Key)).length = zs.length := by rw [List.length_map, hzs.len, h2]
      have le : (ks.map (Sum.inr : Str → Key)).length = es.length := by rw [List.length_map, h2]
      have s : Stp r Hs H (upd Hs p (.dK ((ks.map Sum.inr).zip zs))) (upd H p (.dK ((ks.map Sum.inr).zip zs))) := .new hp (o.nn hp)
      have o2 : Ok r (upd Hs p (.dK ((ks.map Sum.inr).zip zs))) (upd H p (.dK ((ks.map Sum.inr).zip zs))) := o.new hp
      refine ⟨r, _, [.cst (.ref C), .dic ((ks.map Sum.inr).zip es)], P, X, o2, .cons (.cst _) (.cons (.dic (.inl upd_same) ?_ ?_ ?_) .nil), hu, KR.mono (fr := false) k s o2, x.mono s o2⟩
      · rw [List.length_zip, le, Nat.min_self]; exact h3
      · rw [zip_fst lz, zip_fst le]
      · rw [zip_snd lz, zip_snd le]
        exact Rps.ext s.sh hzs
  | _ => cases s⟩
end AS

set_option Elab.async false
set_option linter.all false
set_option maxRecDepth 100000
set_option maxHeartbeats 4000000
/-! LW1: the end of a law: statements ahead, by data; then all([_law_right(_law_rng(script, k)) for k in range(max(1, min(len(script), m)))]). -/
namespace AS
open PySem PySem.Spec PyProof.Rows L2
/-- statements ahead of the last one: the script stays in slot 0 -/
theorem pre_seq {K : PySem.W.Frag} {E : XK} {a : AS} {t : TS} {D : Ends} {s : Addr} {y : Option V} {H : Hp} (hu : ∀ U : UEnds, (∀ z, U.nx [.sh (.cst (.ref s)), z]) → uS a U [.sh (.cst (.ref s)), .un]) (next : ∀ H' y', Ext H H' → t D [some (.ref s), y'] H') : tSeq (hS K (wD E) a) t D [some (.ref s), y] H := by
  have fit : Fit none none H H H [some (V.ref s), y] [.sh (.cst (.ref s)), .un] := by
    refine ⟨rfl, fun _ _ _ e => e, fun i => ?_, fun i j _ h1 => ?_⟩
    · match i with
      | 0 => exact ⟨.ref s, rfl, .cst _⟩
      | 1 => exact True.intro
      | i + 2 => exact True.intro
    · match i with
      | 0 => cases h1
      | 1 => cases h1
      | i + 2 => cases h1
  have ok : Ok none H H := ⟨Ext.refl, fun _ e => by cases e⟩
  show hS K (wD E) a { D with nx := t D } [some (.ref s), y] H
  refine sS K a (wD E) none none H H H H _ _ ⟨fun δ => ∃ z, δ = [.sh (.cst (.ref s)), z], fun _ _ => False, fun _ _ => False, fun _ => False, fun _ => False⟩ _ ⟨ok, .refl, fit⟩ (hu _ fun z => ⟨z, rfl⟩) ⟨fun σ δ Hs' H' p n => ?_, fun _ _ _ _ _ z => z.elim, fun _ _ _ _ _ _ _ z => z.elim, fun _ _ _ _ z => z.elim, fun _ _ _ _ z => z.elim⟩
  obtain ⟨z, rfl⟩ := p
  have hl := n.fit.len
  obtain ⟨v, hv, hr⟩ := n.fit.at_ 0
  match σ, hl, hv with
  | [w, y'], _, hv =>
    have hv : w = some v := hv
    subst hv
    have : v = .ref s := by cases (show Rp none Hs' v (.cst (.ref s)) from hr); rfl
    subst this
    exact next H' y' fun b o e => n.st.kp b o (fun z => nomatch z) e
/-- a heap without the drawer at p -/
def offH (p : Addr) (H : Hp) : Hp := fun b => if b = p then none else H b
theorem off_ok {p : Addr} {H : Hp} (h : RngAt H p) : Ok (some p) (offH p H) H := ⟨fun b o e => by
  unfold offH at e
  split at e
  · cases e
  · exact e, fun a e => by
  cases e
  exact ⟨if_pos rfl, h⟩⟩
/-- _law_right of a new drawer -/
theorem right_ok {u : DSp} {p : Addr} {H : Hp} {Q : VK} {E : XK} (hu : ∀ (P : D → Prop) (X : XD), P (.bl true) → u [.rng] P X) (h : RngAt H p) (q : ∀ H', Mod1 p H H' → Q (.bl true) H') : spG false false u [.ref p] H Q E := by
  refine ⟨some p, offH p H, [.rng], fun d => d = .bl true, fun _ => False, off_ok h, .cons (.rng rfl) .nil, hu _ _ rfl, fun v d Hs' H' e s o r => ?_, fun _ _ _ _ _ z => z.elim⟩
  subst e
  cases r
  exact q H' fun b o n e => s.kp b o (fun z => n (by cases z; rfl)) e
/-- the last statement -/
def t_end (K : PySem.W.Frag) (mx : Int) (u : DSp) (E : XK) : TS := (tRet (tCl (fdAll K).sp (wD E) (tCons (tLc (iRng1 (tCons (tCl fdMax.sp (wD E) (tCons (tC (.int 1)) (tCons (tCl fdMin.sp (wD E) (tCons (tCl (fdLen K).sp (wD E) (tCons (tNm 0) tNil)) (tCons (tC (.int mx)) tNil))) tNil))) tNil)) (gName 1) tYes (tCl (spG false false u) AS.w0 (tCons (tCl (sp_rng K) AS.w0 (tCons (tNm 0) (tCons (tNm 1) tNil))) tNil)) [1]) tNil)))
def sp_law (K : PySem.W.Frag) : Sp := fun vs H Q _ => ∃ (a : Addr) (ns : List Int), vs = [.ref a] ∧ SqL K H a (ns.map V.int) ∧ ∀ H', Q (.bl true) H'
theorem pure_end (K : PySem.W.Frag) {mx : Int} {u : DSp} {E : XK} {H : Hp} {Q : VK} {a : Addr} {ns : List Int} {y : Option V} (h1 : 1 ≤ mx) (h2 : mx ≤ 100) (hu : ∀ (P : D → Prop) (X : XD), P (.bl true) → u [.rng] P X) (hS : SqL K H a (ns.map V.int)) (k : ∀ H', Q (.bl true) H') : t_end K mx u E { nx := fun _ H' => Q .non H', rt := Q } [some (.ref a), y] H := by
  have sm : (100 : Nat) ≤ sizeLine := by decide
  unfold t_end
  refine ret_i (cl_i (cons_i (lc1_i ?_)))
  refine cons_i (cl_i (cons_i (c_i (cons_i (cl_i (cons_i (cl_i (cons_i (nm_i rfl (nil_i ?_)))))))))) 
  refine .inl ⟨_, (ns.map V.int).length, rfl, .inl ⟨_, hS, rfl⟩, cons_i (c_i (nil_i ⟨_, mx, rfl, nil_i ⟨1, _, rfl, nil_i ?_⟩⟩))⟩
  generalize hz : (if (if mx < (((ns.map V.int).length : Nat) : Int) then mx else (((ns.map V.int).length : Nat) : Int)) > 1 then (if mx < (((ns.map V.int).length : Nat) : Int) then mx else (((ns.map V.int).length : Nat) : Int)) else 1) = z
  have hz4 : z ≤ 100 ∧ 1 ≤ z := by rw [← hz]; split <;> split <;> omega
  have big : (100 : Nat) ≤ sizeLine := by decide
  refine ⟨z, rfl, by omega, by omega, ?_⟩
  refine lc_rng (List.replicate z.toNat (.bl true)) (by rw [List.length_replicate]) (by omega) (fun i y H' R hy x' kk => ?_) fun D H' x' _ hD => nil_i ?_
  · have ey : y = .bl true := List.eq_of_mem_replicate (List.mem_of_getElem? hy)
    have hi : i < z.toNat := by
      have q := (List.getElem?_eq_some_iff.mp hy).1
      rwa [List.length_replicate] at q
    subst ey
    refine cl_i (cons_i (cl_i (cons_i (nm_i rfl (cons_i (nm_i rfl (nil_i ?_)))))))
    refine ⟨a, i, ns, by rw [Int.zero_add], by omega, x'.sqL hS, fun p o hp hr => nil_i ?_⟩
    refine right_ok hu hr fun H2 m2 => kk H2 fun b u e => ?_
    have nb : b ≠ p := ne_of_none e hp
    exact m2 b u nb (by rw [upd_ne nb]; exact e)
  · refine ⟨D, List.replicate z.toNat true, rfl, by rw [List.map_replicate]; exact SqL.of hD, ?_⟩
    have e : (List.replicate z.toNat true).all id = true := by simp
    rw [e]
    exact k H'
end AS

set_option Elab.async false
set_option linter.all false
set_option maxRecDepth 100000
set_option maxHeartbeats 4000000
/-! H2: the head's check with defs at any place: globals, methods, the defs of classmethods and properties. -/
namespace AS
open PySem PySem.Spec PyProof.Rows L2 ClX
/-- a place: a global (cls alone), a class and its name, through a record (classmethod, property) -/
structure Pl where
  x : Str
  m : Option Str := none
  rc : Option String := none
def Pl.rec_ (K : PySem.W.Frag) (p : Pl) : Addr := He.fAd K (p.x, p.m)
def Pl.ad (K : PySem.W.Frag) (p : Pl) : Addr := match p.rc with
  | none => He.fAd K (p.x, p.m)
  | some T => (match PySem.W.recIn K (He.fAd K (p.x, p.m)) T with
    | some (.ref g :: _) => g
    | _ => 0)
/-- a def: its place, name, qualified name, statement, defaults -/
structure DefE where
  pl : Pl
  name : Str
  qual : Str
  st : Stmt
  dfl : List V := []
def fnWa (K : PySem.W.Frag) (a : Addr) : He.FnW := match K.lookup a with
  | some ⟨_, _, .func fd, _⟩ => some (fd.name, fd.qualname, fd.params, fd.body, fd.scope, fd.globals, fd.closure, fd.builtins)
  | _ => none
def DefE.val (d : DefE) : He.FnW := some (d.name, d.qual, defArgs d.st, .stmts (defBody d.st), defScope d.st, mainGlobals, [], builtinsNs)
def DefE.ok (K : PySem.W.Frag) (d : DefE) : Bool := PySem.W.keepIn K (.ref (d.pl.ad K)) && (match K.lookup (d.pl.ad K) with
  | some ⟨_, _, .func fd, _⟩ => PySem.W.codeIn K fd.code d.qual && He.dflB K fd.defaults d.dfl
  | _ => false)
theorem DefE.funD {K : PySem.W.Frag} {d : DefE} (e : fnWa K (d.pl.ad K) = d.val) (c : d.ok K = true) : ∃ fd, FunD K d.name d.qual (defArgs d.st) (defBody d.st) (defScope d.st) d.dfl [] (d.pl.ad K) fd := by
  obtain ⟨kp, c2⟩ := b2 c
  unfold fnWa at e
  cases q : K.lookup (d.pl.ad K) with
  | none =>
    rw [q] at c2
    cases c2
  | some o =>
    obtain ⟨oc, od, dt, osl⟩ := o
    rw [q] at c2 e
    cases dt with
    | func fd =>
      obtain ⟨n1, n2, n3, n4, n5, n6, n7, n8, n9, n10, n11, n12, n13, n14, n15⟩ := fd
      have e2 : (some (n1, n2, n3, n4, n5, n6, n7, n15) : He.FnW) = some (d.name, d.qual, defArgs d.st, .stmts (defBody d.st), defScope d.st, mainGlobals, [], builtinsNs) := e
      simp only [Option.some.injEq, Prod.mk.injEq] at e2
      obtain ⟨h1, h2, h3, h4, h5, h6, h7, h8⟩ := e2
      subst h1 h2 h3 h4 h5 h6 h7 h8
      have c3 : (PySem.W.codeIn K n13 d.qual && He.dflB K n8 d.dfl) = true := c2
      obtain ⟨k1, k3⟩ := b2 c3
      exact ⟨_, ⟨oc, od, n8, n9, n10, n11, n12, n13, n14, osl, rfl, q, k1, He.dflB_ok k3, .inl rfl⟩, kp⟩
    | _ => cases c2
/-! ### the hook -/
/-- the written part, the interpreter's own statics among it -/
def partE (n : Nat) (g : Addr → Option Obj) : PySem.W.Frag := He.frG g (cStatics :: sysModules :: mainGlobals :: levA g n [mainGlobals])
abbrev AlE : Type := Bool × List He.FnW
def seenE (chk : PySem.W.Frag → Bool) (fn : List DefE) (K : PySem.W.Frag) : AlE := (chk K && fn.all fun d => d.ok K, fn.map fun d => fnWa K (d.pl.ad K))
def SaysE (chk : PySem.W.Frag → Bool) (fn : List DefE) (K : PySem.W.Frag) : Prop := seenE chk fn K = (true, fn.map DefE.val)
def hookE (n : Nat) (chk : PySem.W.Frag → Bool) (fn : List DefE) : PySem.W.Hook where
  α := AlE
  obs := fun s => seenE chk fn (partE n s.heap.get?)
  val := fun _ => (true, fn.map DefE.val)
  says := fun _ h => ∃ K : PySem.W.Frag, K.In h ∧ SaysE chk fn K
  of := fun _ _ e => ⟨_, He.frG_in, e⟩
  keeps := fun _ _ _ ⟨K, hK, c⟩ k => ⟨K, PySem.W.Frag.In.keeps hK k, c⟩
def obE (n : Nat) (chk : PySem.W.Frag → Bool) (fn : List DefE) (s : PySem.W.SharedT) : AlE := frLev (HandSHeadRun.getT s) n [mainGlobals] fun as => frAs as fun as => frO (HandSHeadRun.getT s) (cStatics :: sysModules :: mainGlobals :: as) fun K => seenE chk fn K
theorem obE_eq (n : Nat) (chk : PySem.W.Frag → Bool) (fn : List DefE) (s : PySem.W.SharedT) : obE n chk fn s = (hookE n chk fn).obs s.abs := by
  have e : HandSHeadRun.getT s = s.abs.heap.get? := funext (HandSHeadRun.getT_eq s)
  unfold obE
  rw [e, frLev_eq, frAs_eq, frO_eq]
  rfl
section
variable {chk : PySem.W.Frag → Bool} {fn : List DefE} {K : PySem.W.Frag}
theorem SaysE.holds (c : SaysE chk fn K) : chk K = true := (b2 (congrArg (fun z : AlE => z.1) c)).1
theorem SaysE.def_ (c : SaysE chk fn K) (i : Nat) {d : DefE} (h : fn[i]? = some d) : ∃ fd, FunD K d.name d.qual (defArgs d.st) (defBody d.st) (defScope d.st) d.dfl [] (d.pl.ad K) fd := by
  have c2 := (b2 (congrArg (fun z : AlE => z.1) c)).2
  have e : fn.map (fun d => fnWa K (d.pl.ad K)) = fn.map DefE.val := congrArg (fun z : AlE => z.2) c
  have e2 := congrArg (fun l => l[i]?) e
  simp only [List.getElem?_map, h] at e2
  exact DefE.funD (Option.some.inj e2) (List.all_eq_true.mp c2 d (List.mem_of_getElem? h))
end
/-! ### checks of classes -/
def smB (K : PySem.W.Frag) : Bool := match K.lookup sysModules with
  | some o => decide (o.cls = .type "dict")
  | none => false
theorem smB_ok {K : PySem.W.Frag} (h : smB K = true) : SmOk K := by
  unfold smB at h
  cases e : K.lookup sysModules with
  | none => rw [e] at h; cases h
  | some o => rw [e] at h; exact ⟨o, e, of_decide_eq_true h⟩
/-- what isinstance looks at in an instance of C -/
def insB (K : PySem.W.Frag) (C : Addr) : Bool := He.eqO (PySem.W.findIn K (.ref C) "__class__") (some (some (.builtin "object.__class__"))) && (He.eqO (PySem.W.specialIn K (.builtin "object.__class__") "__get__") (some (some (.builtin "getset_descriptor.__get__"))) && (decide (PySem.W.takesIn K (.builtin "object.__class__") = some true) && decide (PySem.W.mroIn K C (.type "object") = some true)))
theorem insB_ok {K : PySem.W.Frag} {C : Addr} (c : Cls K C) (h : insB K C = true) : InsOk K C := by
  obtain ⟨h1, h⟩ := b2 h
  obtain ⟨h2, h⟩ := b2 h
  obtain ⟨h3, h4⟩ := b2 h
  exact ⟨c, He.eqO_ok h1, He.eqO_ok h2, of_decide_eq_true h3, of_decide_eq_true h4⟩
def kitB (K : PySem.W.Frag) (t u : Value) (b : Bool) : Bool := decide (PySem.W.kitOne K t u = some b)
theorem kitB_ok {K : PySem.W.Frag} {t u : Value} {b : Bool} (h : kitB K t u b = true) : PySem.W.kitOne K t u = some b := of_decide_eq_true h
/-- a property's record and getter -/
def propB (K : PySem.W.Frag) (x f : Str) : Bool := let p := He.ma K (He.ga K x) f
  He.eqO (PySem.W.findIn K (.ref (He.ga K x)) f) (some (some (.ref p))) && (He.eqO (PySem.W.specialIn K (.ref p) "__get__") (some (some (.builtin "property.__get__"))) && (decide (PySem.W.takesIn K (.ref p) = some true) && (match PySem.W.recIn K p "property" with
    | some (.ref _ :: _) => true
    | _ => false)))
theorem propB_ok {K : PySem.W.Frag} {x f : Str} (h : propB K x f = true) : PropOf K (He.ga K x) f (He.ma K (He.ga K x) f) ((⟨x, some f, some "property"⟩ : Pl).ad K) := by
  obtain ⟨h1, h⟩ := b2 h
  obtain ⟨h2, h⟩ := b2 h
  obtain ⟨h3, h4⟩ := b2 h
  refine ⟨He.eqO_ok h1, He.eqO_ok h2, of_decide_eq_true h3, ?_⟩
  show ∃ rest, PySem.W.recIn K (He.ma K (He.ga K x) f) "property" = some (.ref (match PySem.W.recIn K (He.ma K (He.ga K x) f) "property" with | some (.ref g :: _) => g | _ => 0) :: rest)
  split at h4
  · rename_i g rest e
    rw [e]
    exact ⟨rest, rfl⟩
  · cases h4
/-- a class that is read, a classmethod of it -/
def readB (K : PySem.W.Frag) (C : Addr) : Bool := PySem.W.readsIn K C (.type "type") && He.eqO (PySem.W.specialIn K (.ref C) "__getattribute__") (some (some (.builtin "type.__getattribute__")))
theorem readB_ok {K : PySem.W.Frag} {C : Addr} (h : readB K C = true) : CRead K C (.type "type") := ⟨(b2 h).1, He.eqO_ok (b2 h).2⟩
def cmB (K : PySem.W.Frag) (x m : Str) : Bool := let p := He.ma K (He.ga K x) m
  (match PySem.W.findCls K (.ref (He.ga K x)) (.type "type") m with
    | some (.get (.builtin b) (.ref q) .none (.ref C)) => decide (b = "classmethod.__get__") && (decide (q = p) && decide (C = He.ga K x))
    | _ => false) && ((match PySem.W.recIn K p "classmethod" with
    | some (.ref _ :: _) => true
    | _ => false) && PySem.W.fnIn K ((⟨x, some m, some "classmethod"⟩ : Pl).ad K))
theorem cmB_ok {K : PySem.W.Frag} {x m : Str} (h : cmB K x m = true) : CMet K (He.ga K x) (.type "type") m (He.ma K (He.ga K x) m) ((⟨x, some m, some "classmethod"⟩ : Pl).ad K) := by
  obtain ⟨h1, h⟩ := b2 h
  obtain ⟨h2, h3⟩ := b2 h
  refine ⟨?_, ?_, h3⟩
  · split at h1
    · rename_i b q C e
      obtain ⟨g1, g⟩ := b2 h1
      obtain ⟨g2, g3⟩ := b2 g
      rw [of_decide_eq_true g1, of_decide_eq_true g2, of_decide_eq_true g3] at e
      exact e
    · cases h1
  · show ∃ rest, PySem.W.recIn K (He.ma K (He.ga K x) m) "classmethod" = some (.ref (match PySem.W.recIn K (He.ma K (He.ga K x) m) "classmethod" with | some (.ref g :: _) => g | _ => 0) :: rest)
    split at h2
    · rename_i g rest e
      rw [e]
      exact ⟨rest, rfl⟩
    · cases h2
/-- a special method: its def -/
def dunB (K : PySem.W.Frag) (x m : Str) : Bool := He.eqO (PySem.W.findIn K (.ref (He.ga K x)) m) (some (some (.ref (He.ma K (He.ga K x) m)))) && PySem.W.isFn K (.ref (He.ma K (He.ga K x) m))
theorem dunB_ok {K : PySem.W.Frag} {x m : Str} (h : dunB K x m = true) : PySem.W.findIn K (.ref (He.ga K x)) m = some (some (.ref (He.ma K (He.ga K x) m))) ∧ PySem.W.isFn K (.ref (He.ma K (He.ga K x) m)) = true := ⟨He.eqO_ok (b2 h).1, (b2 h).2⟩
end AS

set_option Elab.async false
set_option linter.all false
set_option maxRecDepth 100000
set_option maxHeartbeats 4000000
/-! P15: promises of defs with *args, **kw by data; the drawer's defs. -/
namespace AS
open PySem PySem.Spec PyProof.Rows L2
section
variable {S : Sys} {k n : Nat}
theorem body_dat {f : Addr} {fd : FuncData} {x qual : Str} {st : Stmt} {N ps : List Str} {T : PySem.W.Frag → Tabs} {ast : PySem.W.Frag → AS} (bor fr : Bool)
    (red : ∀ (K : PySem.W.Frag) (E : XK), blkT (wp (oraOf K (T K)) K N n (ctxD (defScope st) E)).S (defBody st) = hS K (wD E) (ast K)) : ∀ vs H Q E, spG bor fr (dsOf bor fr N.length ps.length (ast S.K)) vs H Q E → blkT (wp (oraOf S.K (T S.K)) S.K N n (ctxD (defScope st) E)).S (defBody st) { nx := fun _ H' => Q .non H', rt := Q } (start N vs) H := fun vs H Q E ⟨r, Hs, ds, P, X, o, a, u, kr, kx⟩ => by
  rw [red]
  exact sS S.K (ast S.K) (wD E) none r Hs H Hs H (L2.start N vs) _ _ _ ⟨o, .refl, fit_start a⟩ u.2 (ks_def kr kx)
/-- a def with *args -/
theorem fn_datS {f : Addr} {fd : FuncData} {x qual : Str} {st : Stmt} {N ps : List Str} {pv : Str} {T : PySem.W.Frag → Tabs} {ast : PySem.W.Frag → AS} (fr : Bool) (F : FunD S.K x qual (defArgs st) (defBody st) (defScope st) [] [] f fd) (Sc : FnScope N (ps ++ [pv]) (defScope st)) (hT : TabsOk S k (T S.K))
    (red : ∀ (K : PySem.W.Frag) (E : XK), blkT (wp (oraOf K (T K)) K N n (ctxD (defScope st) E)).S (defBody st) = hS K (wD E) (ast K))
    (hb : ∀ (kV doc pm : Value) (an : Option Addr) (cdv ct : Value) (us rest : List Value), us.length = ps.length → bindArgs (PySem.W.fnOf x qual (defArgs st) (defBody st) (defScope st) .none kV doc pm an cdv ct) ⟨us ++ rest, []⟩ = (newTuple rest >>= fun t => pure (ps.zip us ++ [(pv, t)]))) :
    FnG S (k + 1) f (starSp ps.length (spG false fr (dsOf false fr N.length (ps.length + 1) (ast S.K)))) :=
  fn_starG (n := n) F Sc (ora_ok hT) hb fun vs H Q E h => body_dat (f := f) (fd := fd) (x := x) (qual := qual) (ps := ps ++ [pv]) (T := T) (ast := ast) false fr red vs H Q E (by rw [List.length_append]; exact h)
/-- a def with **kw -/
theorem fn_datK {f : Addr} {fd : FuncData} {x qual : Str} {st : Stmt} {N ps : List Str} {pd : Str} {T : PySem.W.Frag → Tabs} {ast : PySem.W.Frag → AS} (ks : List Str) (F : FunD S.K x qual (defArgs st) (defBody st) (defScope st) [] [] f fd) (Sc : FnScope N (ps ++ [pd]) (defScope st)) (hT : TabsOk S k (T S.K)) (hks : ks.Nodup) (hz : ks.length ≤ 1000)
    (red : ∀ (K : PySem.W.Frag) (E : XK), blkT (wp (oraOf K (T K)) K N n (ctxD (defScope st) E)).S (defBody st) = hS K (wD E) (ast K))
    (hb : ∀ (kV doc pm : Value) (an : Option Addr) (cdv ct : Value) (us ws : List Value), us.length = ps.length → ws.length = ks.length → bindArgs (PySem.W.fnOf x qual (defArgs st) (defBody st) (defScope st) .none kV doc pm an cdv ct) ⟨us, ks.zip ws⟩ =
      ((alloc (PySem.W.dictOf [] 0) : Sem Addr) >>= fun d => (forIn (ks.zip ws) PUnit.unit fun x _ => (nsSet d x.1 x.2 >>= fun _ => pure (ForInStep.yield PUnit.unit))) >>= fun _ => pure (ps.zip us ++ [(pd, Value.ref d)]))) :
    FnK S (k + 1) f ps.length ks (kwSp ks (spG false false (dsOf false false N.length (ps.length + 1) (ast S.K)))) :=
  fn_kwG (n := n) ks F Sc (ora_ok hT) hks hz hb fun vs H Q E h => body_dat (f := f) (fd := fd) (x := x) (qual := qual) (ps := ps ++ [pd]) (T := T) (ast := ast) false false red vs H Q E (by rw [List.length_append]; exact h)
/-! ### the drawer's defs -/
abbrev nR : List Str := ["_law_script", "_law_k", "_law_cell"]
abbrev nD : List Str := ["_law_rng_here", "_law_many", "_law_digit"]
def T_rng (K : PySem.W.Frag) : Tabs := { fn := [("len", spLen K), ("max", spMax), ("abs", spAbs), ("int", spInt)] }
def T_draw (K : PySem.W.Frag) : Tabs := { fn := [("divmod", spDivmod), ("int", spInt)] }
theorem n_rng {f : Addr} {fd : FuncData} {x qual : Str} {st : Stmt} (F : FunD S.K x qual (defArgs st) (defBody st) (defScope st) [] [] f fd) (Sc : FnScope nR ["_law_script", "_law_k"] (defScope st)) (h1 : S.mg "len" = none) (h2 : S.mg "max" = none) (h3 : S.mg "abs" = none) (h4 : S.mg "int" = none)
    (red : ∀ (K : PySem.W.Frag) (E : XK), blkT (wp (oraOf K (T_rng K)) K nR 40 (ctxD (defScope st) E)).S (defBody st) = t_rng K E)
    (hb : ∀ (kV doc pm : Value) (an : Option Addr) (cdv ct : Value) (us : List Value), us.length = (["_law_script", "_law_k"] : List Str).length → bindArgs (PySem.W.fnOf x qual (defArgs st) (defBody st) (defScope st) .none kV doc pm an cdv ct) ⟨us, []⟩ = pure ((["_law_script", "_law_k"] : List Str).zip us)) : FnG S (k + 1) f (sp_rng S.K) := by
  have len : ∀ vs H Q E, sp_rng S.K vs H Q E → vs.length = (["_law_script", "_law_k"] : List Str).length := fun vs H Q E ⟨_, _, _, e, _⟩ => by rw [e]; rfl
  exact fn_pos F (fn_by (T := T_rng) (n := 40) F Sc { fn := tab_cons (ent_len h1) (tab_cons (ent_max h2) (tab_cons (ent_abs h3) (tab_cons (ent_int h4) tab_nil))) } len red fun vs H Q E h => pure_rng S.K vs H Q E h) len hb
theorem n_draw {f : Addr} {fd : FuncData} {x qual : Str} {st : Stmt} (F : FunD S.K x qual (defArgs st) (defBody st) (defScope st) [] [] f fd) (Sc : FnScope nD ["_law_rng_here", "_law_many"] (defScope st)) (h1 : S.mg "divmod" = none) (h4 : S.mg "int" = none)
    (red : ∀ (K : PySem.W.Frag) (E : XK), blkT (wp (oraOf K (T_draw K)) K nD 40 (ctxD (defScope st) E)).S (defBody st) = t_draw K E)
    (hb : ∀ (kV doc pm : Value) (an : Option Addr) (cdv ct : Value) (us : List Value), us.length = (["_law_rng_here", "_law_many"] : List Str).length → bindArgs (PySem.W.fnOf x qual (defArgs st) (defBody st) (defScope st) .none kV doc pm an cdv ct) ⟨us, []⟩ = pure ((["_law_rng_here", "_law_many"] : List Str).zip us)) : FnG S (k + 1) f sp_draw := by
  have len : ∀ vs H Q E, sp_draw vs H Q E → vs.length = (["_law_rng_here", "_law_many"] : List Str).length := fun vs H Q E ⟨_, _, e, _⟩ => by rw [e]; rfl
  exact fn_pos F (fn_by (T := T_draw) (n := 40) F Sc { fn := tab_cons (ent_divmod h1) (tab_cons (ent_int h4) tab_nil) } len red fun vs H Q E h => pure_draw S.K vs H Q E h) len hb
end
/-- C(..) with the last argument left out or not -/
theorem runs_N {S : Sys} {k j : Nat} {C f : Addr} {fd : FuncData} {ps : List Str} {sp : Sp} {ds : List Value} (M : Mk S.K C f) (F : FnB S j f fd ps sp) (hj : j + 1 ≤ k) (h0 : Binds S.K fd ps []) (h1 : Binds S.K fd ps ds) (hd : Vals [V.non] ds) (len : ∀ vs H Q E, sp vs H Q E → vs.length = ps.length) : Runs S k C (fun vs H Q E => mkI C sp vs H Q E ∨ mkI C sp (vs ++ [V.non]) H Q E) :=
  ((runs_mkD M F hj h0 .nil len).imp fun vs H Q E h => by rw [List.append_nil]; exact h).or (runs_mkD M F hj h1 hd len)
end AS
namespace AS
open PySem PySem.Spec PyProof.Rows L2
theorem all_cons {α : Type} {P : α → Prop} {x : α} {l : List α} (h : P x) (t : ∀ y ∈ l, P y) : ∀ y ∈ x :: l, P y := fun y hy => (List.mem_cons.mp hy).elim (fun e => e ▸ h) (t y)
theorem all_nil {α : Type} {P : α → Prop} : ∀ y ∈ ([] : List α), P y := fun _ h => nomatch h
theorem tabK_nil {S : Sys} {k : Nat} : ∀ (m : Str) (ks : List Str) (sp : Rc × SpK), ([] : List ((Str × List Str) × (Rc × SpK))).lookup (m, ks) = some sp → MtKE S k m ks sp := fun _ _ _ h => by cases h
theorem tabK_cons {S : Sys} {k : Nat} {m0 : Str} {ks0 : List Str} {sp0 : Rc × SpK} {l : List ((Str × List Str) × (Rc × SpK))} (h : MtKE S k m0 ks0 sp0) (t : ∀ (m : Str) (ks : List Str) (sp : Rc × SpK), l.lookup (m, ks) = some sp → MtKE S k m ks sp) : ∀ (m : Str) (ks : List Str) (sp : Rc × SpK), (((m0, ks0), sp0) :: l).lookup (m, ks) = some sp → MtKE S k m ks sp := fun m ks sp e => by
  rw [List.lookup_cons] at e
  by_cases q : (m, ks) = (m0, ks0)
  · rw [q, beq_self_eq_true] at e
    cases e
    injection q with q1 q2
    rw [q1, q2]
    exact h
  · rw [beq_eq_false_iff_ne.mpr q] at e
    exact t m ks sp e
theorem FnK.mono {S : Sys} {j k : Nat} {f : Addr} {n : Nat} {ks : List Str} {sp : SpK} (F : FnK S j f n ks sp) (h : j ≤ k) : FnK S k f n ks sp := fun A outer s H us ws vs zs Q E r => F A outer s H us ws vs zs Q E ⟨r.r.mono h, r.g⟩
/-- what a def with one parameter and *args binds -/
theorem bind_star1' {x qual : Str} {params : Arguments} {body : List Stmt} {scope : Scope} {p1 pv : Str}
    (h0 : ∀ (kV doc pm : Value) (an : Option Addr) (cdv ct a : Value), bindArgs (PySem.W.fnOf x qual params body scope .none kV doc pm an cdv ct) ⟨[a], []⟩ = (newTuple [] >>= fun t => pure [(p1, a), (pv, t)]))
    (h1 : ∀ (kV doc pm : Value) (an : Option Addr) (cdv ct a r : Value) (rs : List Value), bindArgs (PySem.W.fnOf x qual params body scope .none kV doc pm an cdv ct) ⟨a :: r :: rs, []⟩ = (newTuple (r :: rs) >>= fun t => pure [(p1, a), (pv, t)])) :
    ∀ (kV doc pm : Value) (an : Option Addr) (cdv ct : Value) (us rest : List Value), us.length = [p1].length → bindArgs (PySem.W.fnOf x qual params body scope .none kV doc pm an cdv ct) ⟨us ++ rest, []⟩ = (newTuple rest >>= fun t => pure ([p1].zip us ++ [(pv, t)])) := fun kV doc pm an cdv ct us rest hl =>
  match us, rest, hl with
  | [a], [], _ => h0 kV doc pm an cdv ct a
  | [a], r :: rs, _ => h1 kV doc pm an cdv ct a r rs
end AS

set_option Elab.async false
set_option linter.all false
set_option maxRecDepth 100000
set_option maxHeartbeats 4000000
/-! K11A: the defs of sizes.py and numbers.py that k11 reaches, as trees (printed by gen11.py). -/
namespace AS.K11
open PySem PySem.Spec PyProof.Rows L2
abbrev prg : Program := PySem.Challenge.pw_anyshape_k11_sizes_by_dicts
def top (i : Nat) : Stmt := prg.main.body.getD i (.Pass ⟨0, 0, 0, 0⟩)
/-- the class Size -/
def CS (K : PySem.W.Frag) : Addr := He.ga K "Size"
/-- is_integer -/
def s_is_integer : Stmt := (top 14)
abbrev N_is_integer : List Str := ["value"]
def a_is_integer (K : PySem.W.Frag) : AS := (.ret (.an (.call (fdIsi K) (.cons (.nm 0) (.cons (.cn (.ty "int")) .nil))) (.nt (.call (fdIsi K) (.cons (.nm 0) (.cons (.cn (.ty "bool")) .nil))))))
def T_is_integer (K : PySem.W.Frag) : Tabs := { glo := [("bool", (.ty "bool")), ("int", (.ty "int"))], fn := [("isinstance", (fdIsi K).sp)] }
theorem r_is_integer (K : PySem.W.Frag) (E : XK) : blkT (wp (oraOf K (T_is_integer K)) K N_is_integer 40 (ctxD (defScope s_is_integer) E)).S (defBody s_is_integer) = hS K (wD E) (a_is_integer K) := by kernel_rfl
def u_is_integer (K : PySem.W.Frag) : DSp := dsOf true false 1 1 (a_is_integer K)
def f_is_integer (K : PySem.W.Frag) : Fd := Fd.own true false (u_is_integer K)
theorem f_is_integer_bor (K : PySem.W.Frag) : (f_is_integer K).bor = true := rfl
theorem f_is_integer_fr (K : PySem.W.Frag) : (f_is_integer K).fr = false := rfl
/-- is_count -/
def s_is_count : Stmt := (top 15)
abbrev N_is_count : List Str := ["value"]
def a_is_count (K : PySem.W.Frag) : AS := (.ret (.an (.call (f_is_integer K) (.cons (.nm 0) .nil)) (.op opGe (.nm 0) (.cn (.int 0)))))
def T_is_count (K : PySem.W.Frag) : Tabs := { fn := [("is_integer", (f_is_integer K).sp)] }
theorem r_is_count (K : PySem.W.Frag) (E : XK) : blkT (wp (oraOf K (T_is_count K)) K N_is_count 40 (ctxD (defScope s_is_count) E)).S (defBody s_is_count) = hS K (wD E) (a_is_count K) := by kernel_rfl
def u_is_count (K : PySem.W.Frag) : DSp := dsOf true false 1 1 (a_is_count K)
def f_is_count (K : PySem.W.Frag) : Fd := Fd.own true false (u_is_count K)
theorem f_is_count_bor (K : PySem.W.Frag) : (f_is_count K).bor = true := rfl
theorem f_is_count_fr (K : PySem.W.Frag) : (f_is_count K).fr = false := rfl
/-- is_name -/
def s_is_name : Stmt := (top 16)
abbrev N_is_name : List Str := ["value", "sign"]
def a_is_name (K : PySem.W.Frag) : AS := (.seq (.ifs (.orT (.nt (.tr (.call (fdIsi K) (.cons (.nm 0) (.cons (.cn (.ty "str")) .nil))))) (.nt (.ts (.ch opLe opLe (.cn (.int 1)) (.call (fdLen K) (.cons (.nm 0) .nil)) (.cn (.int 8)))))) (.ret (.cn (.bl false))) .next) (.ret (.call (fdAll K) (.cons (.lc true (.any (.nm 0)) (.nm 1) .yes (.op (opIn K) (.nm 1) (.cn (.str "abcdefghijklmnopqrstuvwxyz"))) [1]) .nil))))
def T_is_name (K : PySem.W.Frag) : Tabs := { glo := [("MOST_LETTERS", (.int 8)), ("str", (.ty "str")), ("LETTERS", (.str "abcdefghijklmnopqrstuvwxyz"))], fn := [("len", (fdLen K).sp), ("isinstance", (fdIsi K).sp), ("all", (fdAll K).sp)] }
theorem r_is_name (K : PySem.W.Frag) (E : XK) : blkT (wp (oraOf K (T_is_name K)) K N_is_name 40 (ctxD (defScope s_is_name) E)).S (defBody s_is_name) = hS K (wD E) (a_is_name K) := by kernel_rfl
def u_is_name (K : PySem.W.Frag) : DSp := dsOf true false 2 1 (a_is_name K)
def f_is_name (K : PySem.W.Frag) : Fd := Fd.own true false (u_is_name K)
theorem f_is_name_bor (K : PySem.W.Frag) : (f_is_name K).bor = true := rfl
theorem f_is_name_fr (K : PySem.W.Frag) : (f_is_name K).fr = false := rfl
/-- want_size -/
def s_want_size : Stmt := (top 27)
abbrev N_want_size : List Str := ["value"]
def a_want_size (K : PySem.W.Frag) : AS := (.ifs (.nt (.tr (.call (fdIsi K) (.cons (.nm 0) (.cons (.cn (.ref (CS K))) .nil))))) .nos .next)
def T_want_size (K : PySem.W.Frag) : Tabs := { glo := [("Size", (.ref (CS K)))], fn := [("isinstance", (fdIsi K).sp)] }
theorem r_want_size (K : PySem.W.Frag) (E : XK) : blkT (wp (oraOf K (T_want_size K)) K N_want_size 40 (ctxD (defScope s_want_size) E)).S (defBody s_want_size) = hS K (wD E) (a_want_size K) := by kernel_rfl
def u_want_size (K : PySem.W.Frag) : DSp := dsOf true false 1 1 (a_want_size K)
def f_want_size (K : PySem.W.Frag) : Fd := Fd.own true false (u_want_size K)
theorem f_want_size_bor (K : PySem.W.Frag) : (f_want_size K).bor = true := rfl
theorem f_want_size_fr (K : PySem.W.Frag) : (f_want_size K).fr = false := rfl
/-- Size.__init__ -/
def s_Size_init : Stmt := (inClass (top 28) 0)
abbrev N_Size_init : List Str := ["self", "exponents", "given", "name", "exponent"]
def a_Size_init (K : PySem.W.Frag) : AS := (.seq (.asg 2 (.ife (.ts (.op opIs (.nm 1) (.cn .non))) .dnew (.nm 1))) (.seq (.ifs (.nt (.tr (.call (fdIsi K) (.cons (.nm 2) (.cons (.cn (.ty "dict")) .nil))))) .nos .next) (.seq (.ifs (.nt (.tr (.call (fdAll K) (.cons (.lc true (.items (.nm 2)) (.tp (.cons (.nm 3) (.cons (.nm 4) .nil))) .yes (.an (.call (f_is_name K) (.cons (.nm 3) .nil)) (.call (f_is_integer K) (.cons (.nm 4) .nil))) [3, 4]) .nil)))) .nos .next) (.sat (sf K "own_exponents") 0 (.dc false (.any (.call (fdSorted K) (.cons (.nm 2) .nil))) (.nm 3) (.ts (.op (opNe K) (.op (opIdx K) (.nm 2) (.nm 3)) (.cn (.int 0)))) (.nm 3) (.op (opIdx K) (.nm 2) (.nm 3)) [3])))))
def T_Size_init (K : PySem.W.Frag) : Tabs := { glo := [("dict", (.ty "dict"))], fn := [("isinstance", (fdIsi K).sp), ("all", (fdAll K).sp), ("is_integer", (f_is_integer K).sp), ("is_name", (f_is_name K).sp), ("sorted", (fdSorted K).sp)], sat := [("own_exponents", rSatI K "own_exponents")] }
theorem r_Size_init (K : PySem.W.Frag) (E : XK) : blkT (wp (oraOf K (T_Size_init K)) K N_Size_init 40 (ctxD (defScope s_Size_init) E)).S (defBody s_Size_init) = hS K (wD E) (a_Size_init K) := by kernel_rfl
def u_Size_init (K : PySem.W.Frag) : DSp := dsInit (CS K) true 5 2 (a_Size_init K)
def f_Size (K : PySem.W.Frag) : Fd := fdMkN (CS K) true 1 (u_Size_init K)
theorem f_Size_bor (K : PySem.W.Frag) : (f_Size K).bor = true := rfl
theorem f_Size_fr (K : PySem.W.Frag) : (f_Size K).fr = true := rfl
/-- Size.product -/
def s_Size_product : Stmt := (inClass (top 28) 3)
abbrev N_Size_product : List Str := ["cls", "sizes", "found", "size", "name", "exponent"]
def b_Size_product_0 (K : PySem.W.Frag) : AS := (.put 2 (.nm 4) (.op (opAdd K) (.meth (mdGet K) [] (.nm 2) (.cons (.nm 4) (.cons (.cn (.int 0)) .nil))) (.nm 5)))
def b_Size_product_1 (K : PySem.W.Frag) : AS := (.seq (.drop (.call (f_want_size K) (.cons (.nm 3) .nil))) (.fr true (.items (.fld (fl K "own_exponents") (.nm 3))) (.tp (.cons (.nm 4) (.cons (.nm 5) .nil))) (b_Size_product_0 K)))
def c_Size_product_2 (K : PySem.W.Frag) : AS := (.ret (.call (f_Size K) (.cons (.nm 2) .nil)))
def a_Size_product (K : PySem.W.Frag) : AS := (.seq (.asg 2 .dnew) (.seq (.fr true (.any (.nm 1)) (.nm 3) (b_Size_product_1 K)) (c_Size_product_2 K)))
def T_Size_product (K : PySem.W.Frag) : Tabs := { fn := [("want_size", (f_want_size K).sp), ("Size", (f_Size K).sp)], mt := [("get", mq (mdGet K))], att := [("own_exponents", rAttI K "own_exponents")] }
theorem r_Size_product (K : PySem.W.Frag) (E : XK) : blkT (wp (oraOf K (T_Size_product K)) K N_Size_product 40 (ctxD (defScope s_Size_product) E)).S (defBody s_Size_product) = hS K (wD E) (a_Size_product K) := by kernel_rfl
def u_Size_product (K : PySem.W.Frag) : DSp := dsOf false true 6 2 (a_Size_product K)
def f_Size_product (K : PySem.W.Frag) : Fd := fdStar 1 true (u_Size_product K)
theorem f_Size_product_bor (K : PySem.W.Frag) : (f_Size_product K).bor = false := rfl
theorem f_Size_product_fr (K : PySem.W.Frag) : (f_Size_product K).fr = true := rfl
/-- Size.is_whole -/
def s_Size_is_whole : Stmt := (inClass (top 28) 4)
abbrev N_Size_is_whole : List Str := ["self", "exponent"]
def a_Size_is_whole (K : PySem.W.Frag) : AS := (.ret (.call (fdAll K) (.cons (.lc true (.vals (.fld (fl K "own_exponents") (.nm 0))) (.nm 1) .yes (.op opGt (.nm 1) (.cn (.int 0))) [1]) .nil)))
def T_Size_is_whole (K : PySem.W.Frag) : Tabs := { fn := [("all", (fdAll K).sp)], att := [("own_exponents", rAttI K "own_exponents")] }
theorem r_Size_is_whole (K : PySem.W.Frag) (E : XK) : blkT (wp (oraOf K (T_Size_is_whole K)) K N_Size_is_whole 40 (ctxD (defScope s_Size_is_whole) E)).S (defBody s_Size_is_whole) = hS K (wD E) (a_Size_is_whole K) := by kernel_rfl
def u_Size_is_whole (K : PySem.W.Frag) : DSp := dsOf true false 2 1 (a_Size_is_whole K)
def f_Size_is_whole (K : PySem.W.Frag) : Fd := Fd.own true false (u_Size_is_whole K)
theorem f_Size_is_whole_bor (K : PySem.W.Frag) : (f_Size_is_whole K).bor = true := rfl
theorem f_Size_is_whole_fr (K : PySem.W.Frag) : (f_Size_is_whole K).fr = false := rfl
/-- Size.top -/
def s_Size_top : Stmt := (inClass (top 28) 5)
abbrev N_Size_top : List Str := ["self", "name", "exponent"]
def a_Size_top (K : PySem.W.Frag) : AS := (.ret (.call (f_Size K) (.cons (.dc true (.items (.fld (fl K "own_exponents") (.nm 0))) (.tp (.cons (.nm 1) (.cons (.nm 2) .nil))) (.ts (.op opGt (.nm 2) (.cn (.int 0)))) (.nm 1) (.nm 2) [1, 2]) .nil)))
def T_Size_top (K : PySem.W.Frag) : Tabs := { fn := [("Size", (f_Size K).sp)], att := [("own_exponents", rAttI K "own_exponents")] }
theorem r_Size_top (K : PySem.W.Frag) (E : XK) : blkT (wp (oraOf K (T_Size_top K)) K N_Size_top 40 (ctxD (defScope s_Size_top) E)).S (defBody s_Size_top) = hS K (wD E) (a_Size_top K) := by kernel_rfl
def u_Size_top (K : PySem.W.Frag) : DSp := dsOf true true 3 1 (a_Size_top K)
def f_Size_top (K : PySem.W.Frag) : Fd := Fd.own true true (u_Size_top K)
theorem f_Size_top_bor (K : PySem.W.Frag) : (f_Size_top K).bor = true := rfl
theorem f_Size_top_fr (K : PySem.W.Frag) : (f_Size_top K).fr = true := rfl
/-- Size.bottom -/
def s_Size_bottom : Stmt := (inClass (top 28) 6)
abbrev N_Size_bottom : List Str := ["self", "name", "exponent"]
def a_Size_bottom (K : PySem.W.Frag) : AS := (.ret (.call (f_Size K) (.cons (.dc true (.items (.fld (fl K "own_exponents") (.nm 0))) (.tp (.cons (.nm 1) (.cons (.nm 2) .nil))) (.ts (.op opLt (.nm 2) (.cn (.int 0)))) (.nm 1) (.neg (.nm 2)) [1, 2]) .nil)))
def T_Size_bottom (K : PySem.W.Frag) : Tabs := { fn := [("Size", (f_Size K).sp)], att := [("own_exponents", rAttI K "own_exponents")] }
theorem r_Size_bottom (K : PySem.W.Frag) (E : XK) : blkT (wp (oraOf K (T_Size_bottom K)) K N_Size_bottom 40 (ctxD (defScope s_Size_bottom) E)).S (defBody s_Size_bottom) = hS K (wD E) (a_Size_bottom K) := by kernel_rfl
def u_Size_bottom (K : PySem.W.Frag) : DSp := dsOf true true 3 1 (a_Size_bottom K)
def f_Size_bottom (K : PySem.W.Frag) : Fd := Fd.own true true (u_Size_bottom K)
theorem f_Size_bottom_bor (K : PySem.W.Frag) : (f_Size_bottom K).bor = true := rfl
theorem f_Size_bottom_fr (K : PySem.W.Frag) : (f_Size_bottom K).fr = true := rfl
/-- Size.names -/
def s_Size_names : Stmt := (inClass (top 28) 7)
abbrev N_Size_names : List Str := ["self"]
def a_Size_names (K : PySem.W.Frag) : AS := (.ret (.call (fdList K) (.cons (.fld (fl K "own_exponents") (.nm 0)) .nil)))
def T_Size_names (K : PySem.W.Frag) : Tabs := { fn := [("list", (fdList K).sp)], att := [("own_exponents", rAttI K "own_exponents")] }
theorem r_Size_names (K : PySem.W.Frag) (E : XK) : blkT (wp (oraOf K (T_Size_names K)) K N_Size_names 40 (ctxD (defScope s_Size_names) E)).S (defBody s_Size_names) = hS K (wD E) (a_Size_names K) := by kernel_rfl
def u_Size_names (K : PySem.W.Frag) : DSp := dsOf true true 1 1 (a_Size_names K)
def f_Size_names (K : PySem.W.Frag) : Fd := Fd.own true true (u_Size_names K)
theorem f_Size_names_bor (K : PySem.W.Frag) : (f_Size_names K).bor = true := rfl
theorem f_Size_names_fr (K : PySem.W.Frag) : (f_Size_names K).fr = true := rfl
/-- Size.exponents -/
def s_Size_exponents : Stmt := (inClass (top 28) 8)
abbrev N_Size_exponents : List Str := ["self"]
def a_Size_exponents (K : PySem.W.Frag) : AS := (.ret (.call (fdDict K) (.cons (.fld (fl K "own_exponents") (.nm 0)) .nil)))
def T_Size_exponents (K : PySem.W.Frag) : Tabs := { fn := [("dict", (fdDict K).sp)], att := [("own_exponents", rAttI K "own_exponents")] }
theorem r_Size_exponents (K : PySem.W.Frag) (E : XK) : blkT (wp (oraOf K (T_Size_exponents K)) K N_Size_exponents 40 (ctxD (defScope s_Size_exponents) E)).S (defBody s_Size_exponents) = hS K (wD E) (a_Size_exponents K) := by kernel_rfl
def u_Size_exponents (K : PySem.W.Frag) : DSp := dsOf true true 1 1 (a_Size_exponents K)
def f_Size_exponents (K : PySem.W.Frag) : Fd := Fd.own true true (u_Size_exponents K)
theorem f_Size_exponents_bor (K : PySem.W.Frag) : (f_Size_exponents K).bor = true := rfl
theorem f_Size_exponents_fr (K : PySem.W.Frag) : (f_Size_exponents K).fr = true := rfl
/-- Size.exponent -/
def s_Size_exponent : Stmt := (inClass (top 28) 9)
abbrev N_Size_exponent : List Str := ["self", "name"]
def a_Size_exponent (K : PySem.W.Frag) : AS := (.seq (.ifs (.nt (.tr (.call (f_is_name K) (.cons (.nm 1) .nil)))) .nos .next) (.ret (.meth (mdGet K) [] (.fld (fl K "own_exponents") (.nm 0)) (.cons (.nm 1) (.cons (.cn (.int 0)) .nil)))))
def T_Size_exponent (K : PySem.W.Frag) : Tabs := { fn := [("is_name", (f_is_name K).sp)], mt := [("get", mq (mdGet K))], att := [("own_exponents", rAttI K "own_exponents")] }
theorem r_Size_exponent (K : PySem.W.Frag) (E : XK) : blkT (wp (oraOf K (T_Size_exponent K)) K N_Size_exponent 40 (ctxD (defScope s_Size_exponent) E)).S (defBody s_Size_exponent) = hS K (wD E) (a_Size_exponent K) := by kernel_rfl
def u_Size_exponent (K : PySem.W.Frag) : DSp := dsOf true false 2 2 (a_Size_exponent K)
def f_Size_exponent (K : PySem.W.Frag) : Fd := Fd.own true false (u_Size_exponent K)
theorem f_Size_exponent_bor (K : PySem.W.Frag) : (f_Size_exponent K).bor = true := rfl
theorem f_Size_exponent_fr (K : PySem.W.Frag) : (f_Size_exponent K).fr = false := rfl
/-- Size.over -/
def s_Size_over : Stmt := (inClass (top 28) 10)
abbrev N_Size_over : List Str := ["self", "other", "name", "exponent"]
def a_Size_over (K : PySem.W.Frag) : AS := (.seq (.drop (.call (f_want_size K) (.cons (.nm 1) .nil))) (.ret (.meth (mdCls (CS K) (f_Size_product K)) [] (.cn (.ref (CS K))) (.cons (.nm 0) (.cons (.call (f_Size K) (.cons (.dc true (.items (.fld (fl K "own_exponents") (.nm 1))) (.tp (.cons (.nm 2) (.cons (.nm 3) .nil))) .yes (.nm 2) (.neg (.nm 3)) [2, 3]) .nil)) .nil)))))
def T_Size_over (K : PySem.W.Frag) : Tabs := { glo := [("Size", (.ref (CS K)))], fn := [("want_size", (f_want_size K).sp), ("Size", (f_Size K).sp)], mt := [("product", mq (mdCls (CS K) (f_Size_product K)))], att := [("own_exponents", rAttI K "own_exponents")] }
theorem r_Size_over (K : PySem.W.Frag) (E : XK) : blkT (wp (oraOf K (T_Size_over K)) K N_Size_over 40 (ctxD (defScope s_Size_over) E)).S (defBody s_Size_over) = hS K (wD E) (a_Size_over K) := by kernel_rfl
def u_Size_over (K : PySem.W.Frag) : DSp := dsOf false true 4 2 (a_Size_over K)
def f_Size_over (K : PySem.W.Frag) : Fd := Fd.own false true (u_Size_over K)
theorem f_Size_over_bor (K : PySem.W.Frag) : (f_Size_over K).bor = false := rfl
theorem f_Size_over_fr (K : PySem.W.Frag) : (f_Size_over K).fr = true := rfl
/-- Size.power -/
def s_Size_power : Stmt := (inClass (top 28) 11)
abbrev N_Size_power : List Str := ["self", "count", "name", "exponent"]
def a_Size_power (K : PySem.W.Frag) : AS := (.seq (.ifs (.nt (.tr (.call (f_is_count K) (.cons (.nm 1) .nil)))) .nos .next) (.ret (.call (f_Size K) (.cons (.dc true (.items (.fld (fl K "own_exponents") (.nm 0))) (.tp (.cons (.nm 2) (.cons (.nm 3) .nil))) .yes (.nm 2) (.op opMul (.nm 3) (.nm 1)) [2, 3]) .nil))))
def T_Size_power (K : PySem.W.Frag) : Tabs := { fn := [("is_count", (f_is_count K).sp), ("Size", (f_Size K).sp)], att := [("own_exponents", rAttI K "own_exponents")] }
theorem r_Size_power (K : PySem.W.Frag) (E : XK) : blkT (wp (oraOf K (T_Size_power K)) K N_Size_power 40 (ctxD (defScope s_Size_power) E)).S (defBody s_Size_power) = hS K (wD E) (a_Size_power K) := by kernel_rfl
def u_Size_power (K : PySem.W.Frag) : DSp := dsOf true true 4 2 (a_Size_power K)
def f_Size_power (K : PySem.W.Frag) : Fd := Fd.own true true (u_Size_power K)
theorem f_Size_power_bor (K : PySem.W.Frag) : (f_Size_power K).bor = true := rfl
theorem f_Size_power_fr (K : PySem.W.Frag) : (f_Size_power K).fr = true := rfl
/-- Size.__mul__ -/
def s_Size_mul : Stmt := (inClass (top 28) 14)
abbrev N_Size_mul : List Str := ["self", "other"]
def a_Size_mul (K : PySem.W.Frag) : AS := (.seq (.drop (.call (f_want_size K) (.cons (.nm 1) .nil))) (.ret (.meth (mdCls (CS K) (f_Size_product K)) [] (.cn (.ref (CS K))) (.cons (.nm 0) (.cons (.nm 1) .nil)))))
def T_Size_mul (K : PySem.W.Frag) : Tabs := { glo := [("Size", (.ref (CS K)))], fn := [("want_size", (f_want_size K).sp)], mt := [("product", mq (mdCls (CS K) (f_Size_product K)))] }
theorem r_Size_mul (K : PySem.W.Frag) (E : XK) : blkT (wp (oraOf K (T_Size_mul K)) K N_Size_mul 40 (ctxD (defScope s_Size_mul) E)).S (defBody s_Size_mul) = hS K (wD E) (a_Size_mul K) := by kernel_rfl
def u_Size_mul (K : PySem.W.Frag) : DSp := dsOf false true 2 2 (a_Size_mul K)
def f_Size_mul (K : PySem.W.Frag) : Fd := Fd.own false true (u_Size_mul K)
theorem f_Size_mul_bor (K : PySem.W.Frag) : (f_Size_mul K).bor = false := rfl
theorem f_Size_mul_fr (K : PySem.W.Frag) : (f_Size_mul K).fr = true := rfl
/-- Size.__contains__ -/
def s_Size_contains : Stmt := (inClass (top 28) 15)
abbrev N_Size_contains : List Str := ["self", "value"]
def a_Size_contains (K : PySem.W.Frag) : AS := (.ret (.an (.call (fdIsi K) (.cons (.nm 1) (.cons (.cn (.ty "str")) .nil))) (.op (opIn K) (.nm 1) (.fld (fl K "own_exponents") (.nm 0)))))
def T_Size_contains (K : PySem.W.Frag) : Tabs := { glo := [("str", (.ty "str"))], fn := [("isinstance", (fdIsi K).sp)], att := [("own_exponents", rAttI K "own_exponents")] }
theorem r_Size_contains (K : PySem.W.Frag) (E : XK) : blkT (wp (oraOf K (T_Size_contains K)) K N_Size_contains 40 (ctxD (defScope s_Size_contains) E)).S (defBody s_Size_contains) = hS K (wD E) (a_Size_contains K) := by kernel_rfl
def u_Size_contains (K : PySem.W.Frag) : DSp := dsOf true false 2 2 (a_Size_contains K)
def f_Size_contains (K : PySem.W.Frag) : Fd := Fd.own true false (u_Size_contains K)
theorem f_Size_contains_bor (K : PySem.W.Frag) : (f_Size_contains K).bor = true := rfl
theorem f_Size_contains_fr (K : PySem.W.Frag) : (f_Size_contains K).fr = false := rfl
/-- Size.__len__ -/
def s_Size_len : Stmt := (inClass (top 28) 16)
abbrev N_Size_len : List Str := ["self"]
def a_Size_len (K : PySem.W.Frag) : AS := (.ret (.call (fdLen K) (.cons (.fld (fl K "own_exponents") (.nm 0)) .nil)))
def T_Size_len (K : PySem.W.Frag) : Tabs := { fn := [("len", (fdLen K).sp)], att := [("own_exponents", rAttI K "own_exponents")] }
theorem r_Size_len (K : PySem.W.Frag) (E : XK) : blkT (wp (oraOf K (T_Size_len K)) K N_Size_len 40 (ctxD (defScope s_Size_len) E)).S (defBody s_Size_len) = hS K (wD E) (a_Size_len K) := by kernel_rfl
def u_Size_len (K : PySem.W.Frag) : DSp := dsOf false false 1 1 (a_Size_len K)
def f_Size_len (K : PySem.W.Frag) : Fd := Fd.own false false (u_Size_len K)
theorem f_Size_len_bor (K : PySem.W.Frag) : (f_Size_len K).bor = false := rfl
theorem f_Size_len_fr (K : PySem.W.Frag) : (f_Size_len K).fr = false := rfl
/-- Size.__eq__ -/
def s_Size_eq : Stmt := (inClass (top 28) 17)
abbrev N_Size_eq : List Str := ["self", "other"]
def a_Size_eq (K : PySem.W.Frag) : AS := (.ret (.an (.call (fdIsi K) (.cons (.nm 1) (.cons (.cn (.ref (CS K))) .nil))) (.op (opEq K) (.fld (fl K "own_exponents") (.nm 0)) (.fld (fl K "own_exponents") (.nm 1)))))
def T_Size_eq (K : PySem.W.Frag) : Tabs := { glo := [("Size", (.ref (CS K)))], fn := [("isinstance", (fdIsi K).sp)], att := [("own_exponents", rAttI K "own_exponents")] }
theorem r_Size_eq (K : PySem.W.Frag) (E : XK) : blkT (wp (oraOf K (T_Size_eq K)) K N_Size_eq 40 (ctxD (defScope s_Size_eq) E)).S (defBody s_Size_eq) = hS K (wD E) (a_Size_eq K) := by kernel_rfl
def u_Size_eq (K : PySem.W.Frag) : DSp := dsOf true false 2 2 (a_Size_eq K)
def f_Size_eq (K : PySem.W.Frag) : Fd := Fd.own true false (u_Size_eq K)
theorem f_Size_eq_bor (K : PySem.W.Frag) : (f_Size_eq K).bor = true := rfl
theorem f_Size_eq_fr (K : PySem.W.Frag) : (f_Size_eq K).fr = false := rfl
/-- power_text -/
def s_power_text : Stmt := (top 26)
abbrev N_power_text : List Str := ["name", "exponent"]
def a_power_text (K : PySem.W.Frag) : AS := (.ret (.ife (.ts (.op (opEq K) (.nm 1) (.cn (.int 1)))) (.nm 0) (.js (.cons (.fmt (.nm 0)) (.cons (.cn (.str "^")) (.cons (.fmt (.nm 1)) .nil))))))
def T_power_text (K : PySem.W.Frag) : Tabs := {  }
theorem r_power_text (K : PySem.W.Frag) (E : XK) : blkT (wp (oraOf K (T_power_text K)) K N_power_text 40 (ctxD (defScope s_power_text) E)).S (defBody s_power_text) = hS K (wD E) (a_power_text K) := by kernel_rfl
def u_power_text (K : PySem.W.Frag) : DSp := dsOf true false 2 2 (a_power_text K)
def f_power_text (K : PySem.W.Frag) : Fd := Fd.own true false (u_power_text K)
theorem f_power_text_bor (K : PySem.W.Frag) : (f_power_text K).bor = true := rfl
theorem f_power_text_fr (K : PySem.W.Frag) : (f_power_text K).fr = false := rfl
/-- Size.__str__ -/
def s_Size_str : Stmt := (inClass (top 28) 18)
abbrev N_Size_str : List Str := ["self", "words", "name", "exponent"]
def a_Size_str (K : PySem.W.Frag) : AS := (.seq (.asgL true 1 (.items (.fld (fl K "own_exponents") (.nm 0))) (.tp (.cons (.nm 2) (.cons (.nm 3) .nil))) .yes (.call (f_power_text K) (.cons (.nm 2) (.cons (.nm 3) .nil))) [2, 3]) (.ret (.meth (mdJoin K) [] (.cn (.str "*")) (.cons (.ife (.ts (.op (opNe K) (.nm 1) (.lst .nil))) (.nm 1) (.lst (.cons (.cn (.str "1")) .nil))) .nil))))
def T_Size_str (K : PySem.W.Frag) : Tabs := { fn := [("power_text", (f_power_text K).sp)], mt := [("join", mq (mdJoin K))], att := [("own_exponents", rAttI K "own_exponents")] }
theorem r_Size_str (K : PySem.W.Frag) (E : XK) : blkT (wp (oraOf K (T_Size_str K)) K N_Size_str 40 (ctxD (defScope s_Size_str) E)).S (defBody s_Size_str) = hS K (wD E) (a_Size_str K) := by kernel_rfl
def u_Size_str (K : PySem.W.Frag) : DSp := dsOf true false 4 1 (a_Size_str K)
def f_Size_str (K : PySem.W.Frag) : Fd := Fd.own true false (u_Size_str K)
theorem f_Size_str_bor (K : PySem.W.Frag) : (f_Size_str K).bor = true := rfl
theorem f_Size_str_fr (K : PySem.W.Frag) : (f_Size_str K).fr = false := rfl
/-- _law_choice -/
def s__law_choice : Stmt := (top 32)
abbrev N__law_choice : List Str := ["_law_rng_here", "_law_some"]
def a__law_choice (K : PySem.W.Frag) : AS := (.ret (.op (opIdx K) (.nm 1) (.call fdDraw (.cons (.nm 0) (.cons (.call (fdLen K) (.cons (.nm 1) .nil)) .nil)))))
def T__law_choice (K : PySem.W.Frag) : Tabs := { fn := [("_law_draw", fdDraw.sp), ("len", (fdLen K).sp)] }
theorem r__law_choice (K : PySem.W.Frag) (E : XK) : blkT (wp (oraOf K (T__law_choice K)) K N__law_choice 40 (ctxD (defScope s__law_choice) E)).S (defBody s__law_choice) = hS K (wD E) (a__law_choice K) := by kernel_rfl
def u__law_choice (K : PySem.W.Frag) : DSp := dsOf false false 2 2 (a__law_choice K)
def f__law_choice (K : PySem.W.Frag) : Fd := Fd.own false false (u__law_choice K)
theorem f__law_choice_bor (K : PySem.W.Frag) : (f__law_choice K).bor = false := rfl
theorem f__law_choice_fr (K : PySem.W.Frag) : (f__law_choice K).fr = false := rfl
/-- _law_names -/
def s__law_names : Stmt := (top 33)
abbrev N__law_names : List Str := ["_law_rng_here", "_law_many", "_law_taken", "_law_found", "_law_k", "_law_name", "_law_spare", "_law_turn", "_law_one"]
def b__law_names_0 (K : PySem.W.Frag) : AS := (.seq (.asg 5 (.meth (mdJoin K) [] (.cn (.str "")) (.cons (.lc false (.rng1 (.op (opAdd K) (.cn (.int 1)) (.call fdDraw (.cons (.nm 0) (.cons (.cn (.int 3)) .nil))))) (.nm 7) .yes (.call (f__law_choice K) (.cons (.nm 0) (.cons (.cn (.str "abcdefghijklmnopqrstuvwxyz")) .nil))) [7]) .nil))) (.seq (.asg 6 (.op (opAdd K) (.lst (.cons (.nm 5) .nil)) (.lc false (.any (.cn (.str "abcdefghijklmnopqrstuvwxyz"))) (.nm 8) .yes (.op (opAdd K) (.nm 5) (.nm 8)) [8]))) (.app 3 (.op (opIdx K) (.lc true (.any (.nm 6)) (.nm 8) (.an (.ts (.op (opNin K) (.nm 8) (.nm 3))) (.ts (.op (opNin K) (.nm 8) (.nm 2)))) (.nm 8) [8]) (.cn (.int 0))))))
def c__law_names_1 (K : PySem.W.Frag) : AS := (.ret (.nm 3))
def a__law_names (K : PySem.W.Frag) : AS := (.seq (.asg 3 (.lst .nil)) (.seq (.fr false (.rng1 (.nm 1)) (.nm 4) (b__law_names_0 K)) (c__law_names_1 K)))
def T__law_names (K : PySem.W.Frag) : Tabs := { blt := ["range"], fn := [("_law_draw", fdDraw.sp), ("_law_choice", (f__law_choice K).sp)], mt := [("join", mq (mdJoin K)), ("append", bmQ K "list" rAppend)] }
theorem r__law_names (K : PySem.W.Frag) (E : XK) : blkT (wp (oraOf K (T__law_names K)) K N__law_names 40 (ctxD (defScope s__law_names) E)).S (defBody s__law_names) = hS K (wD E) (a__law_names K) := by kernel_rfl
def u__law_names (K : PySem.W.Frag) : DSp := dsOf false true 9 3 (a__law_names K)
def f__law_names (K : PySem.W.Frag) : Fd := Fd.own false true (u__law_names K)
theorem f__law_names_bor (K : PySem.W.Frag) : (f__law_names K).bor = false := rfl
theorem f__law_names_fr (K : PySem.W.Frag) : (f__law_names K).fr = true := rfl
/-- _law_times -/
def s__law_times : Stmt := (top 34)
abbrev N__law_times : List Str := ["_law_one", "_law_other", "_law_found", "_law_name", "_law_power"]
def b__law_times_0 (K : PySem.W.Frag) : AS := (.put 2 (.nm 3) (.op (opAdd K) (.meth (mdGet K) [] (.nm 2) (.cons (.nm 3) (.cons (.cn (.int 0)) .nil))) (.nm 4)))
def c__law_times_1 (K : PySem.W.Frag) : AS := (.ret (.call (fdDict K) (.cons (.lc false (.any (.call (fdSorted K) (.cons (.nm 2) .nil))) (.nm 3) (.ts (.op (opNe K) (.op (opIdx K) (.nm 2) (.nm 3)) (.cn (.int 0)))) (.tup (.cons (.nm 3) (.cons (.op (opIdx K) (.nm 2) (.nm 3)) .nil))) [3]) .nil)))
def a__law_times (K : PySem.W.Frag) : AS := (.seq (.asg 2 (.call (fdDict K) (.cons (.nm 0) .nil))) (.seq (.fr true (.items (.nm 1)) (.tp (.cons (.nm 3) (.cons (.nm 4) .nil))) (b__law_times_0 K)) (c__law_times_1 K)))
def T__law_times (K : PySem.W.Frag) : Tabs := { fn := [("dict", (fdDict K).sp), ("sorted", (fdSorted K).sp)], mt := [("get", mq (mdGet K))] }
theorem r__law_times (K : PySem.W.Frag) (E : XK) : blkT (wp (oraOf K (T__law_times K)) K N__law_times 40 (ctxD (defScope s__law_times) E)).S (defBody s__law_times) = hS K (wD E) (a__law_times K) := by kernel_rfl
def u__law_times (K : PySem.W.Frag) : DSp := dsOf true true 5 2 (a__law_times K)
def f__law_times (K : PySem.W.Frag) : Fd := Fd.own true true (u__law_times K)
theorem f__law_times_bor (K : PySem.W.Frag) : (f__law_times K).bor = true := rfl
theorem f__law_times_fr (K : PySem.W.Frag) : (f__law_times K).fr = true := rfl
/-- _law_passed -/
def s__law_passed : Stmt := (top 35)
abbrev N__law_passed : List Str := ["_law_rng_here", "_law_names_here", "_law_found", "_law_name", "_law_way"]
def b__law_passed_0 (K : PySem.W.Frag) : AS := (.seq (.asg 4 (.call fdDraw (.cons (.nm 0) (.cons (.cn (.int 8)) .nil)))) (.ifs (.ts (.op opLt (.nm 4) (.cn (.int 5)))) (.put 2 (.nm 3) (.op (opIdx K) (.lst (.cons (.cn (.int 0)) (.cons (.cn (.int 1)) (.cons (.cn (.int 1)) (.cons (.cn (.int 2)) (.cons (.neg (.cn (.int 1))) .nil)))))) (.nm 4))) (.ifs (.ts (.op opLt (.nm 4) (.cn (.int 7)))) (.put 2 (.nm 3) (.op opSub (.call fdDraw (.cons (.nm 0) (.cons (.cn (.int 19)) .nil))) (.cn (.int 9)))) .next)))
def c__law_passed_1 (K : PySem.W.Frag) : AS := (.ret (.nm 2))
def c__law_passed_2 (K : PySem.W.Frag) : AS := (.seq (.ifs (.an (.ts (.op (opNe K) (.nm 1) (.lst .nil))) (.ts (.op (opEq K) (.call fdDraw (.cons (.nm 0) (.cons (.cn (.int 9)) .nil))) (.cn (.int 0))))) (.put 2 (.op (opIdx K) (.nm 1) (.cn (.int 0))) (.op opMul (.op (opAdd K) (.op opPow (.cn (.int 10)) (.cn (.int 20))) (.call fdDraw (.cons (.nm 0) (.cons (.cn (.int 1000)) .nil)))) (.op opSub (.cn (.int 1)) (.op opMul (.cn (.int 2)) (.call fdDraw (.cons (.nm 0) (.cons (.cn (.int 2)) .nil))))))) .next) (c__law_passed_1 K))
def a__law_passed (K : PySem.W.Frag) : AS := (.seq (.asg 2 .dnew) (.seq (.fr true (.any (.rev (.nm 1))) (.nm 3) (b__law_passed_0 K)) (c__law_passed_2 K)))
def T__law_passed (K : PySem.W.Frag) : Tabs := { fn := [("_law_draw", fdDraw.sp)] }
theorem r__law_passed (K : PySem.W.Frag) (E : XK) : blkT (wp (oraOf K (T__law_passed K)) K N__law_passed 40 (ctxD (defScope s__law_passed) E)).S (defBody s__law_passed) = hS K (wD E) (a__law_passed K) := by kernel_rfl
def u__law_passed (K : PySem.W.Frag) : DSp := dsOf false true 5 2 (a__law_passed K)
def f__law_passed (K : PySem.W.Frag) : Fd := Fd.own false true (u__law_passed K)
theorem f__law_passed_bor (K : PySem.W.Frag) : (f__law_passed K).bor = false := rfl
theorem f__law_passed_fr (K : PySem.W.Frag) : (f__law_passed K).fr = true := rfl
/-- _law_less -/
def s__law_less : Stmt := (top 36)
abbrev N__law_less : List Str := ["_law_model", "_law_name", "_law_power"]
def a__law_less (K : PySem.W.Frag) : AS := (.ret (.call (fdDict K) (.cons (.lc true (.items (.nm 0)) (.tp (.cons (.nm 1) (.cons (.nm 2) .nil))) .yes (.tup (.cons (.nm 1) (.cons (.neg (.nm 2)) .nil))) [1, 2]) .nil)))
def T__law_less (K : PySem.W.Frag) : Tabs := { fn := [("dict", (fdDict K).sp)] }
theorem r__law_less (K : PySem.W.Frag) (E : XK) : blkT (wp (oraOf K (T__law_less K)) K N__law_less 40 (ctxD (defScope s__law_less) E)).S (defBody s__law_less) = hS K (wD E) (a__law_less K) := by kernel_rfl
def u__law_less (K : PySem.W.Frag) : DSp := dsOf true true 3 1 (a__law_less K)
def f__law_less (K : PySem.W.Frag) : Fd := Fd.own true true (u__law_less K)
theorem f__law_less_bor (K : PySem.W.Frag) : (f__law_less K).bor = true := rfl
theorem f__law_less_fr (K : PySem.W.Frag) : (f__law_less K).fr = true := rfl
/-- _law_raised -/
def s__law_raised : Stmt := (top 37)
abbrev N__law_raised : List Str := ["_law_model", "_law_many", "_law_name", "_law_power"]
def a__law_raised (K : PySem.W.Frag) : AS := (.ret (.call (fdDict K) (.cons (.lc true (.items (.nm 0)) (.tp (.cons (.nm 2) (.cons (.nm 3) .nil))) (.ts (.op opGt (.nm 1) (.cn (.int 0)))) (.tup (.cons (.nm 2) (.cons (.op opMul (.nm 3) (.nm 1)) .nil))) [2, 3]) .nil)))
def T__law_raised (K : PySem.W.Frag) : Tabs := { fn := [("dict", (fdDict K).sp)] }
theorem r__law_raised (K : PySem.W.Frag) (E : XK) : blkT (wp (oraOf K (T__law_raised K)) K N__law_raised 40 (ctxD (defScope s__law_raised) E)).S (defBody s__law_raised) = hS K (wD E) (a__law_raised K) := by kernel_rfl
def u__law_raised (K : PySem.W.Frag) : DSp := dsOf true true 4 2 (a__law_raised K)
def f__law_raised (K : PySem.W.Frag) : Fd := Fd.own true true (u__law_raised K)
theorem f__law_raised_bor (K : PySem.W.Frag) : (f__law_raised K).bor = true := rfl
theorem f__law_raised_fr (K : PySem.W.Frag) : (f__law_raised K).fr = true := rfl
/-- _law_is -/
def s__law_is : Stmt := (top 38)
abbrev N__law_is : List Str := ["_law_made", "_law_model", "_law_told", "_law_due", "_law_name", "_law_power"]
def a__law_is (K : PySem.W.Frag) : AS := (.seq (.asg 2 (.lst (.cons (.meth (mdOwn (CS K) "names" (f_Size_names K)) [] (.nm 0) .nil) (.cons (.meth (mdOwn (CS K) "exponents" (f_Size_exponents K)) [] (.nm 0) .nil) (.cons (.call (fdLenO K (CS K) (f_Size_len K) (f_Size_len_bor K) (f_Size_len_fr K)) (.cons (.nm 0) .nil)) (.cons (.att (atPropF (CS K) (f_Size_is_whole K)) (.nm 0)) (.cons (.lc true (.any (.nm 1)) (.nm 4) .yes (.meth (mdOwn (CS K) "exponent" (f_Size_exponent K)) [] (.nm 0) (.cons (.nm 4) .nil)) [4]) .nil))))))) (.seq (.asg 3 (.lst (.cons (.call (fdList K) (.cons (.nm 1) .nil)) (.cons (.nm 1) (.cons (.call (fdLenO K (CS K) (f_Size_len K) (f_Size_len_bor K) (f_Size_len_fr K)) (.cons (.nm 1) .nil)) (.cons (.call (fdAll K) (.cons (.lc true (.vals (.nm 1)) (.nm 5) .yes (.op opGt (.nm 5) (.cn (.int 0))) [5]) .nil)) (.cons (.lsV (.nm 1)) .nil))))))) (.ret (.an (.call (fdIsi K) (.cons (.nm 0) (.cons (.cn (.ref (CS K))) .nil))) (.op (opEq K) (.call (fdRepr K) (.cons (.nm 2) .nil)) (.call (fdRepr K) (.cons (.nm 3) .nil)))))))
def T__law_is (K : PySem.W.Frag) : Tabs := { glo := [("Size", (.ref (CS K)))], blt := ["list"], fn := [("len", (fdLenO K (CS K) (f_Size_len K) (f_Size_len_bor K) (f_Size_len_fr K)).sp), ("list", (fdList K).sp), ("all", (fdAll K).sp), ("repr", (fdRepr K).sp), ("isinstance", (fdIsi K).sp)], mt := [("names", mq (mdOwn (CS K) "names" (f_Size_names K))), ("exponents", mq (mdOwn (CS K) "exponents" (f_Size_exponents K))), ("exponent", mq (mdOwn (CS K) "exponent" (f_Size_exponent K)))], att := [("is_whole", (atPropF (CS K) (f_Size_is_whole K)).r)] }
theorem r__law_is (K : PySem.W.Frag) (E : XK) : blkT (wp (oraOf K (T__law_is K)) K N__law_is 40 (ctxD (defScope s__law_is) E)).S (defBody s__law_is) = hS K (wD E) (a__law_is K) := by kernel_rfl
def u__law_is (K : PySem.W.Frag) : DSp := dsOf false false 6 2 (a__law_is K)
def f__law_is (K : PySem.W.Frag) : Fd := Fd.own false false (u__law_is K)
theorem f__law_is_bor (K : PySem.W.Frag) : (f__law_is K).bor = false := rfl
theorem f__law_is_fr (K : PySem.W.Frag) : (f__law_is K).fr = false := rfl
/-- _law_one_right -/
def s__law_one_right : Stmt := (top 39)
abbrev N__law_one_right : List Str := ["_law_rng_here", "_law_names_here", "_law_passed_here", "_law_above", "_law_below", "_law_name", "_law_model", "_law_kept", "_law_shown", "_law_made", "_law_more", "_law_told", "_law_shown_names", "_law_thing", "_law_power"]
def b__law_one_right_0 (K : PySem.W.Frag) : AS := (.ifs (.tsX (opNe K) (opNeO K (CS K) (f_Size_eq K) (f_Size_eq_fr K)) (.call (fdRepr K) (.cons (.lst (.cons (.opX (opIn K) (opInO (CS K) (f_Size_contains K) (f_Size_contains_fr K)) (.nm 5) (.nm 9)) (.cons (.meth (mdOwn (CS K) "exponent" (f_Size_exponent K)) [] (.nm 9) (.cons (.nm 5) .nil)) .nil))) .nil)) (.call (fdRepr K) (.cons (.lst (.cons (.opX (opIn K) (opInO (CS K) (f_Size_contains K) (f_Size_contains_fr K)) (.nm 5) (.nm 6)) (.cons (.meth (mdGet K) [] (.nm 6) (.cons (.nm 5) (.cons (.cn (.int 0)) .nil))) .nil))) .nil))) (.ret (.cn (.bl false))) .next)
def c__law_one_right_1 (K : PySem.W.Frag) : AS := (.seq (.ifs (.tr (.call (fdAny K) (.cons (.lc false (.any (.lst (.cons (.cn .non) (.cons (.cn (.int 1)) (.cons (.cn (.bl true)) (.cons (.cn (.str "")) (.cons (.cn (.str "A")) (.cons (.cn (.str "1")) (.cons (.tup .nil) (.cons (.lst .nil) (.cons .dnew (.cons (.tup (.cons (.cn (.str "a")) .nil)) (.cons (.nm 9) .nil))))))))))))) (.nm 13) .yes (.opX (opIn K) (opInO (CS K) (f_Size_contains K) (f_Size_contains_fr K)) (.nm 13) (.nm 9)) [13]) .nil))) (.ret (.cn (.bl false))) .next) (.ret (.an (.call (f__law_is K) (.cons (.nm 9) (.cons (.nm 6) .nil))) (.call (f__law_is K) (.cons (.meth (mdOwn (CS K) "over" (f_Size_over K)) [] (.att (atPropF (CS K) (f_Size_top K)) (.nm 9)) (.cons (.att (atPropF (CS K) (f_Size_bottom K)) (.nm 9)) .nil)) (.cons (.nm 6) .nil))))))
def c__law_one_right_2 (K : PySem.W.Frag) : AS := (.seq (.put 7 (.cn (.str "zz")) (.cn (.int 1))) (.seq (.ifs (.orT (.nt (.tr (.call (f__law_is K) (.cons (.nm 9) (.cons (.nm 6) .nil))))) (.orT (.nt (.tr (.call (f__law_is K) (.cons (.nm 10) (.cons (.nm 6) .nil))))) (.orT (.tsX (opNe K) (opNeO K (CS K) (f_Size_eq K) (f_Size_eq_fr K)) (.nm 9) (.nm 10)) (.tsX (opNe K) (opNeO K (CS K) (f_Size_eq K) (f_Size_eq_fr K)) (.call (fdRepr K) (.cons (.nm 2) .nil)) (.nm 8))))) (.ret (.cn (.bl false))) .next) (.seq (.asg 3 (.call (fdDict K) (.cons (.lc true (.items (.nm 6)) (.tp (.cons (.nm 5) (.cons (.nm 14) .nil))) (.ts (.op opGt (.nm 14) (.cn (.int 0)))) (.tup (.cons (.nm 5) (.cons (.nm 14) .nil))) [5, 14]) .nil))) (.seq (.asg 4 (.call (fdDict K) (.cons (.lc true (.items (.nm 6)) (.tp (.cons (.nm 5) (.cons (.nm 14) .nil))) (.ts (.op opLt (.nm 14) (.cn (.int 0)))) (.tup (.cons (.nm 5) (.cons (.neg (.nm 14)) .nil))) [5, 14]) .nil))) (.seq (.ifs (.orT (.nt (.tr (.call (f__law_is K) (.cons (.att (atPropF (CS K) (f_Size_top K)) (.nm 9)) (.cons (.nm 3) .nil))))) (.nt (.tr (.call (f__law_is K) (.cons (.att (atPropF (CS K) (f_Size_bottom K)) (.nm 9)) (.cons (.nm 4) .nil)))))) (.ret (.cn (.bl false))) .next) (.seq (.par 11 12 (.meth (mdOwn (CS K) "exponents" (f_Size_exponents K)) [] (.nm 9) .nil) (.meth (mdOwn (CS K) "names" (f_Size_names K)) [] (.nm 9) .nil)) (.seq (.put 11 (.cn (.str "q")) (.cn (.int 5))) (.seq (.app 12 (.cn (.str "q"))) (.seq (.fr true (.any (.op (opAdd K) (.nm 1) (.lst (.cons (.cn (.str "q")) (.cons (.cn (.str "zzzzzzzz")) .nil))))) (.nm 5) (b__law_one_right_0 K)) (c__law_one_right_1 K))))))))))
def a__law_one_right (K : PySem.W.Frag) : AS := (.seq (.par3 6 7 8 (.call (f__law_times K) (.cons (.nm 2) (.cons .dnew .nil))) (.call (fdDict K) (.cons (.rev (.lsI (.nm 2))) .nil)) (.call (fdRepr K) (.cons (.nm 2) .nil))) (.seq (.asgT (.cons (.call (f_Size K) (.cons (.nm 2) .nil)) (.cons (.call (f_Size K) (.cons (.nm 7) .nil)) .nil)) [9, 10]) (.seq (.ifs (.tsX (opNe K) (opNeO K (CS K) (f_Size_eq K) (f_Size_eq_fr K)) (.nm 1) (.lst .nil)) (.put 7 (.op (opIdx K) (.nm 1) (.cn (.int 0))) (.op (opAdd K) (.meth (mdGet K) [] (.nm 7) (.cons (.op (opIdx K) (.nm 1) (.cn (.int 0))) (.cons (.cn (.int 0)) .nil))) (.cn (.int 3)))) .next) (c__law_one_right_2 K))))
def T__law_one_right (K : PySem.W.Frag) : Tabs := { blt := ["list"], fn := [("_law_times", (f__law_times K).sp), ("dict", (fdDict K).sp), ("repr", (fdRepr K).sp), ("Size", (f_Size K).sp), ("_law_is", (f__law_is K).sp), ("any", (fdAny K).sp)], mt := [("get", mq (mdGet K)), ("exponents", mq (mdOwn (CS K) "exponents" (f_Size_exponents K))), ("names", mq (mdOwn (CS K) "names" (f_Size_names K))), ("append", bmQ K "list" rAppend), ("exponent", mq (mdOwn (CS K) "exponent" (f_Size_exponent K))), ("over", mq (mdOwn (CS K) "over" (f_Size_over K)))], att := [("bottom", (atPropF (CS K) (f_Size_bottom K)).r), ("top", (atPropF (CS K) (f_Size_top K)).r)], cmpX := [(.NotEq, (opNeO K (CS K) (f_Size_eq K) (f_Size_eq_fr K)).r), (.In, (opInO (CS K) (f_Size_contains K) (f_Size_contains_fr K)).r)] }
theorem r__law_one_right (K : PySem.W.Frag) (E : XK) : blkT (wp (oraOf K (T__law_one_right K)) K N__law_one_right 40 (ctxD (defScope s__law_one_right) E)).S (defBody s__law_one_right) = hS K (wD E) (a__law_one_right K) := by kernel_rfl
def u__law_one_right (K : PySem.W.Frag) : DSp := dsOf false false 15 3 (a__law_one_right K)
def f__law_one_right (K : PySem.W.Frag) : Fd := Fd.own false false (u__law_one_right K)
theorem f__law_one_right_bor (K : PySem.W.Frag) : (f__law_one_right K).bor = false := rfl
theorem f__law_one_right_fr (K : PySem.W.Frag) : (f__law_one_right K).fr = false := rfl
/-- _law_powers_right -/
def s__law_powers_right : Stmt := (top 40)
abbrev N__law_powers_right : List Str := ["_law_rng_here", "_law_made", "_law_model", "_law_many"]
def b__law_powers_right_0 (K : PySem.W.Frag) : AS := (.ifs (.nt (.tr (.call (f__law_is K) (.cons (.meth (mdOwn (CS K) "power" (f_Size_power K)) [] (.nm 1) (.cons (.nm 3) .nil)) (.cons (.call (f__law_raised K) (.cons (.nm 2) (.cons (.nm 3) .nil))) .nil))))) (.ret (.cn (.bl false))) .next)
def c__law_powers_right_1 (K : PySem.W.Frag) : AS := (.ret (.an (.opX (opEq K) (opCmp K (CS K) (f_Size_eq K)) (.meth (mdOwn (CS K) "power" (f_Size_power K)) [] (.nm 1) (.cons (.cn (.int 1)) .nil)) (.nm 1)) (.an (.opX (opEq K) (opCmp K (CS K) (f_Size_eq K)) (.meth (mdOwn (CS K) "power" (f_Size_power K)) [] (.nm 1) (.cons (.cn (.int 0)) .nil)) (.call (f_Size K) .nil)) (.opX (opEq K) (opCmp K (CS K) (f_Size_eq K)) (.meth (mdOwn (CS K) "power" (f_Size_power K)) [] (.nm 1) (.cons (.cn (.int 2)) .nil)) (.opX opMul (opBin (CS K) (f_Size_mul K)) (.nm 1) (.nm 1))))))
def a__law_powers_right (K : PySem.W.Frag) : AS := (.seq (.fr false (.any (.lst (.cons (.cn (.int 0)) (.cons (.cn (.int 1)) (.cons (.cn (.int 2)) (.cons (.cn (.int 3)) (.cons (.call (f__law_choice K) (.cons (.nm 0) (.cons (.lst (.cons (.cn (.int 4)) (.cons (.cn (.int 7)) (.cons (.cn (.int 10)) (.cons (.op opPow (.cn (.int 10)) (.cn (.int 6))) .nil))))) .nil))) .nil))))))) (.nm 3) (b__law_powers_right_0 K)) (c__law_powers_right_1 K))
def T__law_powers_right (K : PySem.W.Frag) : Tabs := { fn := [("_law_choice", (f__law_choice K).sp), ("_law_is", (f__law_is K).sp), ("_law_raised", (f__law_raised K).sp), ("Size", (f_Size K).sp)], mt := [("power", mq (mdOwn (CS K) "power" (f_Size_power K)))], binX := [(.Mult, (opBin (CS K) (f_Size_mul K)).r)], cmpX := [(.Eq, (opCmp K (CS K) (f_Size_eq K)).r)] }
theorem r__law_powers_right (K : PySem.W.Frag) (E : XK) : blkT (wp (oraOf K (T__law_powers_right K)) K N__law_powers_right 40 (ctxD (defScope s__law_powers_right) E)).S (defBody s__law_powers_right) = hS K (wD E) (a__law_powers_right K) := by kernel_rfl
def u__law_powers_right (K : PySem.W.Frag) : DSp := dsOf false false 4 3 (a__law_powers_right K)
def f__law_powers_right (K : PySem.W.Frag) : Fd := Fd.own false false (u__law_powers_right K)
theorem f__law_powers_right_bor (K : PySem.W.Frag) : (f__law_powers_right K).bor = false := rfl
theorem f__law_powers_right_fr (K : PySem.W.Frag) : (f__law_powers_right K).fr = false := rfl
/-- _law_pair_right -/
def s__law_pair_right : Stmt := (top 41)
abbrev N__law_pair_right : List Str := ["_law_rng_here", "_law_first", "_law_second", "_law_made", "_law_told", "_law_one", "_law_two", "_law_both", "_law_under"]
def b__law_pair_right_0 (K : PySem.W.Frag) : AS := (.ifs (.nt (.tr (.call (f__law_is K) (.cons (.nm 3) (.cons (.nm 7) .nil))))) (.ret (.cn (.bl false))) .next)
def c__law_pair_right_1 (K : PySem.W.Frag) : AS := (.seq (.ifs (.orT (.nt (.tr (.call (f__law_is K) (.cons (.meth (mdOwn (CS K) "over" (f_Size_over K)) [] (.nm 5) (.cons (.nm 6) .nil)) (.cons (.nm 8) .nil))))) (.nt (.tr (.call (f__law_is K) (.cons (.meth (mdOwn (CS K) "over" (f_Size_over K)) [] (.nm 6) (.cons (.nm 5) .nil)) (.cons (.call (f__law_times K) (.cons (.call (f__law_less K) (.cons (.nm 8) .nil)) (.cons .dnew .nil))) .nil)))))) (.ret (.cn (.bl false))) .next) (.seq (.ifs (.orT (.nt (.tr (.call (f__law_is K) (.cons (.meth (mdOwn (CS K) "over" (f_Size_over K)) [] (.nm 5) (.cons (.nm 5) .nil)) (.cons .dnew .nil))))) (.nt (.tr (.call (f__law_is K) (.cons (.opX opMul (opBin (CS K) (f_Size_mul K)) (.nm 5) (.nm 5)) (.cons (.call (f__law_times K) (.cons (.nm 1) (.cons (.nm 1) .nil))) .nil)))))) (.ret (.cn (.bl false))) .next) (.seq (.ifs (.orT (.nt (.tr (.call (f__law_is K) (.cons (.opX opMul (opBin (CS K) (f_Size_mul K)) (.meth (mdOwn (CS K) "over" (f_Size_over K)) [] (.nm 5) (.cons (.nm 6) .nil)) (.nm 6)) (.cons (.nm 1) .nil))))) (.nt (.tr (.call (f__law_is K) (.cons (.meth (mdCls (CS K) (f_Size_product K)) [] (.cn (.ref (CS K))) (.cons (.nm 5) .nil)) (.cons (.nm 1) .nil)))))) (.ret (.cn (.bl false))) .next) (.seq (.ifs (.orT (.nt (.tr (.call (f__law_is K) (.cons (.meth (mdCls (CS K) (f_Size_product K)) [] (.cn (.ref (CS K))) (.cons (.nm 5) (.cons (.nm 6) (.cons (.nm 5) (.cons (.nm 6) .nil))))) (.cons (.call (f__law_times K) (.cons (.nm 7) (.cons (.nm 7) .nil))) .nil))))) (.nt (.tr (.call (f__law_is K) (.cons (.meth (mdCls (CS K) (f_Size_product K)) [] (.cn (.ref (CS K))) .nil) (.cons .dnew .nil)))))) (.ret (.cn (.bl false))) .next) (.seq (.asg 4 (.lst (.cons (.opX (opEq K) (opCmp K (CS K) (f_Size_eq K)) (.nm 5) (.nm 6)) (.cons (.opX (opNe K) (opNeO K (CS K) (f_Size_eq K) (f_Size_eq_fr K)) (.nm 5) (.nm 6)) (.cons (.opX (opEq K) (opCmp K (CS K) (f_Size_eq K)) (.nm 5) (.nm 1)) (.cons (.opX (opEq K) (opCmp K (CS K) (f_Size_eq K)) (.nm 5) (.call (fdStrO (CS K) (f_Size_str K) (f_Size_str_fr K)) (.cons (.nm 5) .nil))) .nil)))))) (.seq (.ifs (.tsX (opNe K) (opNeO K (CS K) (f_Size_eq K) (f_Size_eq_fr K)) (.call (fdRepr K) (.cons (.nm 4) .nil)) (.call (fdRepr K) (.cons (.lst (.cons (.opX (opEq K) (opCmp K (CS K) (f_Size_eq K)) (.nm 1) (.nm 2)) (.cons (.opX (opNe K) (opNeO K (CS K) (f_Size_eq K) (f_Size_eq_fr K)) (.nm 1) (.nm 2)) (.cons (.cn (.bl false)) (.cons (.cn (.bl false)) .nil))))) .nil))) (.ret (.cn (.bl false))) .next) (.ret (.an (.call (f__law_is K) (.cons (.nm 5) (.cons (.nm 1) .nil))) (.an (.call (f__law_is K) (.cons (.nm 6) (.cons (.nm 2) .nil))) (.call (f__law_powers_right K) (.cons (.nm 0) (.cons (.nm 5) (.cons (.nm 1) .nil)))))))))))))
def a__law_pair_right (K : PySem.W.Frag) : AS := (.seq (.par 5 6 (.call (f_Size K) (.cons (.nm 1) .nil)) (.call (f_Size K) (.cons (.nm 2) .nil))) (.seq (.par 7 8 (.call (f__law_times K) (.cons (.nm 1) (.cons (.nm 2) .nil))) (.call (f__law_times K) (.cons (.nm 1) (.cons (.call (f__law_less K) (.cons (.nm 2) .nil)) .nil)))) (.seq (.fr false (.any (.lst (.cons (.opX opMul (opBin (CS K) (f_Size_mul K)) (.nm 5) (.nm 6)) (.cons (.opX opMul (opBin (CS K) (f_Size_mul K)) (.nm 6) (.nm 5)) (.cons (.meth (mdCls (CS K) (f_Size_product K)) [] (.cn (.ref (CS K))) (.cons (.nm 5) (.cons (.nm 6) .nil))) (.cons (.meth (mdCls (CS K) (f_Size_product K)) [] (.cn (.ref (CS K))) (.cons (.nm 6) (.cons (.call (f_Size K) .nil) (.cons (.nm 5) .nil)))) .nil)))))) (.nm 3) (b__law_pair_right_0 K)) (c__law_pair_right_1 K))))
def T__law_pair_right (K : PySem.W.Frag) : Tabs := { glo := [("Size", (.ref (CS K)))], fn := [("Size", (f_Size K).sp), ("_law_times", (f__law_times K).sp), ("_law_less", (f__law_less K).sp), ("_law_is", (f__law_is K).sp), ("str", (fdStrO (CS K) (f_Size_str K) (f_Size_str_fr K)).sp), ("repr", (fdRepr K).sp), ("_law_powers_right", (f__law_powers_right K).sp)], mt := [("product", mq (mdCls (CS K) (f_Size_product K))), ("over", mq (mdOwn (CS K) "over" (f_Size_over K)))], binX := [(.Mult, (opBin (CS K) (f_Size_mul K)).r)], cmpX := [(.Eq, (opCmp K (CS K) (f_Size_eq K)).r), (.NotEq, (opNeO K (CS K) (f_Size_eq K) (f_Size_eq_fr K)).r)] }
theorem r__law_pair_right (K : PySem.W.Frag) (E : XK) : blkT (wp (oraOf K (T__law_pair_right K)) K N__law_pair_right 40 (ctxD (defScope s__law_pair_right) E)).S (defBody s__law_pair_right) = hS K (wD E) (a__law_pair_right K) := by kernel_rfl
def u__law_pair_right (K : PySem.W.Frag) : DSp := dsOf false false 9 3 (a__law_pair_right K)
def f__law_pair_right (K : PySem.W.Frag) : Fd := Fd.own false false (u__law_pair_right K)
theorem f__law_pair_right_bor (K : PySem.W.Frag) : (f__law_pair_right K).bor = false := rfl
theorem f__law_pair_right_fr (K : PySem.W.Frag) : (f__law_pair_right K).fr = false := rfl
/-- _law_right -/
def s__law_right : Stmt := (top 42)
abbrev N__law_right : List Str := ["_law_rng_here", "_law_names_here", "_law_passed_here", "_law_models", "_law_turn", "_law_some"]
def c__law_right_0 (K : PySem.W.Frag) : AS := (.seq (.asg 3 (.lc true (.any (.nm 2)) (.nm 5) .yes (.call (f__law_times K) (.cons (.nm 5) (.cons .dnew .nil))) [5])) (.seq (.ifs (.nt (.tr (.call (fdAll K) (.cons (.lc true (.any (.nm 2)) (.nm 5) .yes (.call (f__law_one_right K) (.cons (.nm 0) (.cons (.nm 1) (.cons (.nm 5) .nil)))) [5]) .nil)))) (.ret (.cn (.bl false))) .next) (.ret (.call (fdAll K) (.cons (.lc true (.any (.op (opAdd K) (.nm 3) (.lst (.cons .dnew .nil)))) (.nm 5) .yes (.call (f__law_pair_right K) (.cons (.nm 0) (.cons (.op (opIdx K) (.nm 3) (.cn (.int 0))) (.cons (.nm 5) .nil)))) [5]) .nil)))))
def a__law_right (K : PySem.W.Frag) : AS := (.seq (.asg 1 (.call (f__law_names K) (.cons (.nm 0) (.cons (.call fdDraw (.cons (.nm 0) (.cons (.cn (.int 11)) .nil))) (.cons (.lst .nil) .nil))))) (.seq (.asgL false 2 (.rng1 (.cn (.int 3))) (.nm 4) .yes (.call (f__law_passed K) (.cons (.nm 0) (.cons (.nm 1) .nil))) [4]) (.seq (.ifs (.ts (.op (opEq K) (.call fdDraw (.cons (.nm 0) (.cons (.cn (.int 3)) .nil))) (.cn (.int 0)))) (.put 2 (.cn (.int 1)) (.call (fdDict K) (.cons (.op (opIdx K) (.nm 2) (.cn (.int 0))) .nil))) .next) (c__law_right_0 K))))
def T__law_right (K : PySem.W.Frag) : Tabs := { blt := ["range"], fn := [("_law_names", (f__law_names K).sp), ("_law_draw", fdDraw.sp), ("_law_passed", (f__law_passed K).sp), ("dict", (fdDict K).sp), ("_law_times", (f__law_times K).sp), ("all", (fdAll K).sp), ("_law_one_right", (f__law_one_right K).sp), ("_law_pair_right", (f__law_pair_right K).sp)] }
theorem r__law_right (K : PySem.W.Frag) (E : XK) : blkT (wp (oraOf K (T__law_right K)) K N__law_right 40 (ctxD (defScope s__law_right) E)).S (defBody s__law_right) = hS K (wD E) (a__law_right K) := by kernel_rfl
def u__law_right (K : PySem.W.Frag) : DSp := dsOf false false 6 1 (a__law_right K)
def f__law_right (K : PySem.W.Frag) : Fd := Fd.own false false (u__law_right K)
theorem f__law_right_bor (K : PySem.W.Frag) : (f__law_right K).bor = false := rfl
theorem f__law_right_fr (K : PySem.W.Frag) : (f__law_right K).fr = false := rfl
end AS.K11

set_option Elab.async false
set_option linter.all false
set_option maxRecDepth 100000
set_option maxHeartbeats 4000000
/-! K11B: the plain meaning of the program's own small defs. -/
namespace AS.K11
open PySem PySem.Spec PyProof.Rows L2

theorem kt_NoneType_str (K : PySem.W.Frag) : PySem.W.kitOne K (.type "NoneType") (.type "str") = some false := by kernel_rfl
theorem kt_NoneType_int (K : PySem.W.Frag) : PySem.W.kitOne K (.type "NoneType") (.type "int") = some false := by kernel_rfl
theorem kt_NoneType_bool (K : PySem.W.Frag) : PySem.W.kitOne K (.type "NoneType") (.type "bool") = some false := by kernel_rfl
theorem kt_NoneType_dict (K : PySem.W.Frag) : PySem.W.kitOne K (.type "NoneType") (.type "dict") = some false := by kernel_rfl
theorem kt_bool_str (K : PySem.W.Frag) : PySem.W.kitOne K (.type "bool") (.type "str") = some false := by kernel_rfl
theorem kt_bool_int (K : PySem.W.Frag) : PySem.W.kitOne K (.type "bool") (.type "int") = some true := by kernel_rfl
theorem kt_bool_bool (K : PySem.W.Frag) : PySem.W.kitOne K (.type "bool") (.type "bool") = some true := by kernel_rfl
theorem kt_bool_dict (K : PySem.W.Frag) : PySem.W.kitOne K (.type "bool") (.type "dict") = some false := by kernel_rfl
theorem kt_int_str (K : PySem.W.Frag) : PySem.W.kitOne K (.type "int") (.type "str") = some false := by kernel_rfl
theorem kt_int_int (K : PySem.W.Frag) : PySem.W.kitOne K (.type "int") (.type "int") = some true := by kernel_rfl
theorem kt_int_bool (K : PySem.W.Frag) : PySem.W.kitOne K (.type "int") (.type "bool") = some false := by kernel_rfl
theorem kt_int_dict (K : PySem.W.Frag) : PySem.W.kitOne K (.type "int") (.type "dict") = some false := by kernel_rfl
theorem kt_str_str (K : PySem.W.Frag) : PySem.W.kitOne K (.type "str") (.type "str") = some true := by kernel_rfl
theorem kt_str_int (K : PySem.W.Frag) : PySem.W.kitOne K (.type "str") (.type "int") = some false := by kernel_rfl
theorem kt_str_bool (K : PySem.W.Frag) : PySem.W.kitOne K (.type "str") (.type "bool") = some false := by kernel_rfl
theorem kt_str_dict (K : PySem.W.Frag) : PySem.W.kitOne K (.type "str") (.type "dict") = some false := by kernel_rfl
theorem kt_list_str (K : PySem.W.Frag) : PySem.W.kitOne K (.type "list") (.type "str") = some false := by kernel_rfl
theorem kt_list_int (K : PySem.W.Frag) : PySem.W.kitOne K (.type "list") (.type "int") = some false := by kernel_rfl
theorem kt_list_bool (K : PySem.W.Frag) : PySem.W.kitOne K (.type "list") (.type "bool") = some false := by kernel_rfl
theorem kt_list_dict (K : PySem.W.Frag) : PySem.W.kitOne K (.type "list") (.type "dict") = some false := by kernel_rfl
theorem kt_tuple_str (K : PySem.W.Frag) : PySem.W.kitOne K (.type "tuple") (.type "str") = some false := by kernel_rfl
theorem kt_tuple_int (K : PySem.W.Frag) : PySem.W.kitOne K (.type "tuple") (.type "int") = some false := by kernel_rfl
theorem kt_tuple_bool (K : PySem.W.Frag) : PySem.W.kitOne K (.type "tuple") (.type "bool") = some false := by kernel_rfl
theorem kt_tuple_dict (K : PySem.W.Frag) : PySem.W.kitOne K (.type "tuple") (.type "dict") = some false := by kernel_rfl
theorem kt_dict_str (K : PySem.W.Frag) : PySem.W.kitOne K (.type "dict") (.type "str") = some false := by kernel_rfl
theorem kt_dict_int (K : PySem.W.Frag) : PySem.W.kitOne K (.type "dict") (.type "int") = some false := by kernel_rfl
theorem kt_dict_bool (K : PySem.W.Frag) : PySem.W.kitOne K (.type "dict") (.type "bool") = some false := by kernel_rfl
theorem kt_dict_dict (K : PySem.W.Frag) : PySem.W.kitOne K (.type "dict") (.type "dict") = some true := by kernel_rfl
/-- what is known of the class Size -/
structure GP (K : PySem.W.Frag) : Prop where
  ins : InsOk K (CS K)
  fld : NoAttr K (CS K) "own_exponents"

  n_NoneType : PySem.W.kitOne K (.type "NoneType") (.ref (CS K)) = some false
  n_bool : PySem.W.kitOne K (.type "bool") (.ref (CS K)) = some false
  n_int : PySem.W.kitOne K (.type "int") (.ref (CS K)) = some false
  n_str : PySem.W.kitOne K (.type "str") (.ref (CS K)) = some false
  n_list : PySem.W.kitOne K (.type "list") (.ref (CS K)) = some false
  n_tuple : PySem.W.kitOne K (.type "tuple") (.ref (CS K)) = some false
  n_dict : PySem.W.kitOne K (.type "dict") (.ref (CS K)) = some false
  k_str : PySem.W.kitOne K (.ref (CS K)) (.type "str") = some false
  k_int : PySem.W.kitOne K (.ref (CS K)) (.type "int") = some false
  k_bool : PySem.W.kitOne K (.ref (CS K)) (.type "bool") = some false
  k_dict : PySem.W.kitOne K (.ref (CS K)) (.type "dict") = some false
theorem kss (K : PySem.W.Frag) : PySem.W.kitOne K (.ref (CS K)) (.ref (CS K)) = some true := by unfold PySem.W.kitOne; rw [if_pos (by simp)]
/-- data whose type is known here -/
def Kn (K : PySem.W.Frag) : D → Prop
  | .ins C _ => C = CS K
  | .rng => False
  | .cst _ => False
  | _ => True
def isIntD : D → Bool
  | .int _ => true
  | _ => false
def isSizeD : D → Bool
  | .ins _ _ => true
  | _ => false
/-- a sign of a name -/
def letterB (c : Nat) : Bool := decide (c ∈ ("abcdefghijklmnopqrstuvwxyz" : Str).cps.toList)
def nameB (x : Str) : Bool := decide (1 ≤ x.length) && (decide (x.length ≤ 8) && x.cps.toList.all letterB)
section
variable {K : PySem.W.Frag} (g : GP K)
include g
theorem isi_at {d : D} {P : D → Prop} (k : Kn K d) (h : P (.bl (isSizeD d))) : isiD K d (.cst (.ref (CS K))) P := by
  cases d with
  | non => exact ⟨trivial, by simp only [tyD, clsD, g.n_NoneType]; exact h⟩
  | bl b => exact ⟨trivial, by simp only [tyD, clsD, g.n_bool]; exact h⟩
  | int b => exact ⟨trivial, by simp only [tyD, clsD, g.n_int]; exact h⟩
  | str b => exact ⟨trivial, by simp only [tyD, clsD, g.n_str]; exact h⟩
  | lst b => exact ⟨trivial, by simp only [tyD, clsD, g.n_list]; exact h⟩
  | tup b => exact ⟨trivial, by simp only [tyD, clsD, g.n_tuple]; exact h⟩
  | dic b => exact ⟨trivial, by simp only [tyD, clsD, g.n_dict]; exact h⟩
  | ins C gs => cases k; exact ⟨g.ins, by simp only [tyD, clsD, kss]; exact h⟩
  | rng => exact k.elim
  | cst v => exact k.elim
theorem isi_str {d : D} {P : D → Prop} (k : Kn K d) (h : P (.bl (isStrD d))) : isiD K d (.cst (.ty "str")) P := by
  cases d with
  | non => exact ⟨trivial, by simp only [tyD, clsD, kt_NoneType_str]; exact h⟩
  | bl b => exact ⟨trivial, by simp only [tyD, clsD, kt_bool_str]; exact h⟩
  | int b => exact ⟨trivial, by simp only [tyD, clsD, kt_int_str]; exact h⟩
  | str b => exact ⟨trivial, by simp only [tyD, clsD, kt_str_str]; exact h⟩
  | lst b => exact ⟨trivial, by simp only [tyD, clsD, kt_list_str]; exact h⟩
  | tup b => exact ⟨trivial, by simp only [tyD, clsD, kt_tuple_str]; exact h⟩
  | dic b => exact ⟨trivial, by simp only [tyD, clsD, kt_dict_str]; exact h⟩
  | ins C gs => cases k; exact ⟨g.ins, by simp only [tyD, clsD, g.k_str]; exact h⟩
  | rng => exact k.elim
  | cst v => exact k.elim
theorem isi_dict {d : D} {P : D → Prop} (k : Kn K d) (h : P (.bl (isDicD d))) : isiD K d (.cst (.ty "dict")) P := by
  cases d with
  | non => exact ⟨trivial, by simp only [tyD, clsD, kt_NoneType_dict]; exact h⟩
  | bl b => exact ⟨trivial, by simp only [tyD, clsD, kt_bool_dict]; exact h⟩
  | int b => exact ⟨trivial, by simp only [tyD, clsD, kt_int_dict]; exact h⟩
  | str b => exact ⟨trivial, by simp only [tyD, clsD, kt_str_dict]; exact h⟩
  | lst b => exact ⟨trivial, by simp only [tyD, clsD, kt_list_dict]; exact h⟩
  | tup b => exact ⟨trivial, by simp only [tyD, clsD, kt_tuple_dict]; exact h⟩
  | dic b => exact ⟨trivial, by simp only [tyD, clsD, kt_dict_dict]; exact h⟩
  | ins C gs => cases k; exact ⟨g.ins, by simp only [tyD, clsD, g.k_dict]; exact h⟩
  | rng => exact k.elim
  | cst v => exact k.elim
theorem isi_bool {d : D} {P : D → Prop} (k : Kn K d) (h : P (.bl (match d with | .bl _ => true | _ => false))) : isiD K d (.cst (.ty "bool")) P := by
  cases d with
  | non => exact ⟨trivial, by simp only [tyD, clsD, kt_NoneType_bool]; exact h⟩
  | bl b => exact ⟨trivial, by simp only [tyD, clsD, kt_bool_bool]; exact h⟩
  | int b => exact ⟨trivial, by simp only [tyD, clsD, kt_int_bool]; exact h⟩
  | str b => exact ⟨trivial, by simp only [tyD, clsD, kt_str_bool]; exact h⟩
  | lst b => exact ⟨trivial, by simp only [tyD, clsD, kt_list_bool]; exact h⟩
  | tup b => exact ⟨trivial, by simp only [tyD, clsD, kt_tuple_bool]; exact h⟩
  | dic b => exact ⟨trivial, by simp only [tyD, clsD, kt_dict_bool]; exact h⟩
  | ins C gs => cases k; exact ⟨g.ins, by simp only [tyD, clsD, g.k_bool]; exact h⟩
  | rng => exact k.elim
  | cst v => exact k.elim
theorem isi_int {d : D} {P : D → Prop} (k : Kn K d) (h : P (.bl (match d with | .bl _ => true | .int _ => true | _ => false))) : isiD K d (.cst (.ty "int")) P := by
  cases d with
  | non => exact ⟨trivial, by simp only [tyD, clsD, kt_NoneType_int]; exact h⟩
  | bl b => exact ⟨trivial, by simp only [tyD, clsD, kt_bool_int]; exact h⟩
  | int b => exact ⟨trivial, by simp only [tyD, clsD, kt_int_int]; exact h⟩
  | str b => exact ⟨trivial, by simp only [tyD, clsD, kt_str_int]; exact h⟩
  | lst b => exact ⟨trivial, by simp only [tyD, clsD, kt_list_int]; exact h⟩
  | tup b => exact ⟨trivial, by simp only [tyD, clsD, kt_tuple_int]; exact h⟩
  | dic b => exact ⟨trivial, by simp only [tyD, clsD, kt_dict_int]; exact h⟩
  | ins C gs => cases k; exact ⟨g.ins, by simp only [tyD, clsD, g.k_int]; exact h⟩
  | rng => exact k.elim
  | cst v => exact k.elim
/-! ### is_integer, is_count, is_name -/
theorem p_is_integer {d : D} {P : D → Prop} {X : XD} (k : Kn K d) (h : P (.bl (isIntD d))) : u_is_integer K [d] P X := by
  simp only [u_is_integer, dsOf, a_is_integer, uS, uE, uT, uA, uI, uG, uGs, uP, uO, uJ, uN, startD, argSl, endsU, rdy, AS.lkS, AS.lk1, lkM, lkA, lkT, lkI, lkR, pkOn, okL, okM, noPn, dl, Sl.dat, Sl.prv, Sl.own, isNew, nw, toSl, isOw, isOwL, ofV, nmG, nmGs, wipeD, isPath, isDicI, AGs.len, List.set, List.replicate, List.map, List.foldl, List.all_cons, List.all_nil, Fd.own, fl, sf, fldU, satU, setFD, putU, isDicD, isStrD, selIns, mdOwn, mdCls, isCst, fdIsi, fdLen, fdAll, fdAny, fdDict, fdList, fdSorted, fdDraw, fdRepr, opAdd, opSub, opMul, opMod, opFdiv, opPow, opLt, opLe, opGt, opGe, opI, opI0, intD, intD0, lenD, isD, opIdx, opEq, opNe, opIn, opNin, opIs, opIsNot, List.length_cons, List.length_nil, List.nil_append, List.append_nil, List.cons_append, Bool.not_true, Bool.not_false, Bool.true_and, Bool.and_true, Bool.false_and, Bool.and_self, Bool.and_false, look1, List.mem_singleton, exists_eq_left]
  refine ⟨trivial, trivial, isi_int g k ?_⟩
  cases d with
  | bl b => exact isi_bool g k ⟨id, h⟩
  | int i => exact isi_bool g k ⟨id, h⟩
  | rng => exact k.elim
  | cst v => exact k.elim
  | _ => exact ⟨id, h⟩
theorem p_is_count {d : D} {P : D → Prop} {X : XD} (k : Kn K d) (h : P (.bl (match d with | .int i => decide (0 ≤ i) | _ => false))) : u_is_count K [d] P X := by
  simp only [u_is_count, dsOf, a_is_count, f_is_integer, uS, uE, uT, uA, uI, uG, uGs, uP, uO, uJ, uN, startD, argSl, endsU, rdy, AS.lkS, AS.lk1, lkM, lkA, lkT, lkI, lkR, pkOn, okL, okM, noPn, dl, Sl.dat, Sl.prv, Sl.own, isNew, nw, toSl, isOw, isOwL, ofV, nmG, nmGs, wipeD, isPath, isDicI, AGs.len, List.set, List.replicate, List.map, List.foldl, List.all_cons, List.all_nil, Fd.own, fl, sf, fldU, satU, setFD, putU, isDicD, isStrD, selIns, mdOwn, mdCls, isCst, fdIsi, fdLen, fdAll, fdAny, fdDict, fdList, fdSorted, fdDraw, fdRepr, opAdd, opSub, opMul, opMod, opFdiv, opPow, opLt, opLe, opGt, opGe, opI, opI0, intD, intD0, lenD, isD, opIdx, opEq, opNe, opIn, opNin, opIs, opIsNot, List.length_cons, List.length_nil, List.nil_append, List.append_nil, List.cons_append, Bool.not_true, Bool.not_false, Bool.true_and, Bool.and_true, Bool.false_and, Bool.and_self, Bool.and_false, look1, List.mem_singleton, exists_eq_left]
  refine ⟨trivial, trivial, p_is_integer g k ?_⟩
  cases d with
  | int i => exact ⟨id, h⟩
  | rng => exact k.elim
  | cst v => exact k.elim
  | _ => exact ⟨id, h⟩
theorem p_is_name_no {d : D} {P : D → Prop} {X : XD} (k : Kn K d) (hs : isStrD d = false) (h : P (.bl false)) : u_is_name K [d] P X := by
  simp only [u_is_name, dsOf, a_is_name, uS, uE, uT, uA, uI, uG, uGs, uP, uO, uJ, uN, startD, argSl, endsU, rdy, AS.lkS, AS.lk1, lkM, lkA, lkT, lkI, lkR, pkOn, okL, okM, noPn, dl, Sl.dat, Sl.prv, Sl.own, isNew, nw, toSl, isOw, isOwL, ofV, nmG, nmGs, wipeD, isPath, isDicI, AGs.len, List.set, List.replicate, List.map, List.foldl, List.all_cons, List.all_nil, Fd.own, fl, sf, fldU, satU, setFD, putU, isDicD, isStrD, selIns, mdOwn, mdCls, isCst, fdIsi, fdLen, fdAll, fdAny, fdDict, fdList, fdSorted, fdDraw, fdRepr, opAdd, opSub, opMul, opMod, opFdiv, opPow, opLt, opLe, opGt, opGe, opI, opI0, intD, intD0, lenD, isD, opIdx, opEq, opNe, opIn, opNin, opIs, opIsNot, List.length_cons, List.length_nil, List.nil_append, List.append_nil, List.cons_append, Bool.not_true, Bool.not_false, Bool.true_and, Bool.and_true, Bool.false_and, Bool.and_self, Bool.and_false, look1, List.mem_singleton, exists_eq_left]
  refine ⟨trivial, trivial, isi_str g k ?_⟩
  rw [hs]
  exact ⟨trivial, id, h⟩
theorem p_is_name {x : Str} {P : D → Prop} {X : XD} (hz : x.length ≤ sizeLine) (h : P (.bl (nameB x))) : u_is_name K [.str x] P X := by
  simp only [u_is_name, dsOf, a_is_name, uS, uE, uT, uA, uI, uG, uGs, uP, uO, uJ, uN, startD, argSl, endsU, rdy, AS.lkS, AS.lk1, lkM, lkA, lkT, lkI, lkR, pkOn, okL, okM, noPn, dl, Sl.dat, Sl.prv, Sl.own, isNew, nw, toSl, isOw, isOwL, ofV, nmG, nmGs, wipeD, isPath, isDicI, AGs.len, List.set, List.replicate, List.map, List.foldl, List.all_cons, List.all_nil, Fd.own, fl, sf, fldU, satU, setFD, putU, isDicD, isStrD, selIns, mdOwn, mdCls, isCst, fdIsi, fdLen, fdAll, fdAny, fdDict, fdList, fdSorted, fdDraw, fdRepr, opAdd, opSub, opMul, opMod, opFdiv, opPow, opLt, opLe, opGt, opGe, opI, opI0, intD, intD0, lenD, isD, opIdx, opEq, opNe, opIn, opNin, opIs, opIsNot, List.length_cons, List.length_nil, List.nil_append, List.append_nil, List.cons_append, Bool.not_true, Bool.not_false, Bool.true_and, Bool.and_true, Bool.false_and, Bool.and_self, Bool.and_false, look1, List.mem_singleton, exists_eq_left]
  refine ⟨trivial, trivial, isi_str g trivial ?_⟩
  refine ⟨hz, ?_⟩
  by_cases h1 : 1 ≤ x.length
  · by_cases h2 : x.length ≤ 8
    · have e1 : decide ((1 : Int) ≤ (x.length : Int)) = true := decide_eq_true (by omega)
      have e2 : decide ((x.length : Int) ≤ 8) = true := decide_eq_true (by omega)
      rw [e1]
      show (match !decide ((x.length : Int) ≤ 8) with | true => _ | false => _)
      rw [e2]
      refine ⟨trivial, .s, ?_⟩
      have hz' : x.cps.size ≤ sizeLine := hz
      simp only [walkD, if_pos hz']
      refine ⟨rfl, lcU_map (fun d => match d with | .str i => .bl (match signOf i with | some c => letterB c | none => false) | d => d) _ (fun y hy R S hR => ?_) ?_⟩
      · obtain ⟨c, _, rfl⟩ := List.mem_map.mp hy
        exact hR
      · refine all_i (bs := x.cps.toList.map letterB) ?_ ⟨id, ?_⟩
        · rw [List.map_map, List.map_map]
          rfl
        · have : (x.cps.toList.map letterB).all id = nameB x := by
            unfold nameB
            rw [decide_eq_true h1, decide_eq_true h2, List.all_map]
            rfl
          rw [this]
          exact h
    · have e : nameB x = false := by unfold nameB; rw [decide_eq_false h2]; simp
      have e1 : decide ((1 : Int) ≤ (x.length : Int)) = true := decide_eq_true (by omega)
      have e2 : decide ((x.length : Int) ≤ 8) = false := decide_eq_false (by omega)
      rw [e] at h
      rw [e1]
      show (match !decide ((x.length : Int) ≤ 8) with | true => _ | false => _)
      rw [e2]
      exact ⟨trivial, id, h⟩
  · have e : nameB x = false := by unfold nameB; rw [decide_eq_false h1]; simp
    have e1 : decide ((1 : Int) ≤ (x.length : Int)) = false := decide_eq_false (by omega)
    rw [e] at h
    rw [e1]
    exact ⟨trivial, id, h⟩
end
end AS.K11

set_option Elab.async false
set_option linter.all false
set_option maxRecDepth 100000
set_option maxHeartbeats 4000000
/-! K11C: the plain meaning of class Size. -/
namespace AS.K11
open PySem PySem.Spec PyProof.Rows L2
/-- a Size as a datum -/
def szD (K : PySem.W.Frag) (m : Tb) : D := .ins (CS K) [("own_exponents", .dic (tD m))]
/-- names that are names, each once, few of them -/
structure Good (m : Tb) : Prop where
  nd : Nd m
  nm : ∀ p ∈ m, nameB p.1 = true
  ln : m.length < 64
theorem nameB_len {x : Str} (h : nameB x = true) : x.length ≤ sizeLine := by
  unfold nameB at h
  obtain ⟨_, h⟩ := b2 h
  have h8 := of_decide_eq_true (b2 h).1
  have : (8 : Nat) ≤ sizeLine := by decide
  omega
theorem good_nil : Good [] := ⟨List.nodup_nil, fun _ h => (nomatch h), by decide⟩
section
variable {K : PySem.W.Frag} (g : GP K)
include g
theorem p_init {m : Tb} {P : D → Prop} {X : XD} (hm : Good m) (h : P (szD K (norm m))) : u_Size_init K [.dic (tD m)] P X := by
  simp only [u_Size_init, dsInit, a_Size_init, f_is_name, f_is_integer, uS, uE, uT, uA, uI, uG, uGs, uP, uO, uJ, uN, startD, argSl, endsU, rdy, AS.lkS, AS.lk1, lkM, lkA, lkT, lkI, lkR, pkOn, okL, okM, noPn, dl, Sl.dat, Sl.prv, Sl.own, isNew, nw, toSl, isOw, isOwL, ofV, nmG, nmGs, wipeD, isPath, isDicI, AGs.len, List.set, List.replicate, List.map, List.foldl, List.all_cons, List.all_nil, Fd.own, fl, sf, fldU, satU, setFD, putU, isDicD, isStrD, selIns, mdOwn, mdCls, isCst, fdIsi, fdLen, fdAll, fdAny, fdDict, fdList, fdSorted, fdDraw, fdRepr, opAdd, opSub, opMul, opMod, opFdiv, opPow, opLt, opLe, opGt, opGe, opI, opI0, intD, intD0, lenD, isD, opIdx, opEq, opNe, opIn, opNin, opIs, opIsNot, List.length_cons, List.length_nil, List.nil_append, List.append_nil, List.cons_append, Bool.not_true, Bool.not_false, Bool.true_and, Bool.and_true, Bool.false_and, Bool.and_self, Bool.and_false, look1, List.mem_singleton, exists_eq_left]
  refine ⟨trivial, trivial, trivial, trivial, isi_dict g trivial ?_⟩
  refine ⟨trivial, trivial, rfl, lcU_map (fun _ => .bl true) _ (fun y hy R S hR => ?_) ?_⟩
  · obtain ⟨p, hp, rfl⟩ := List.mem_map.mp hy
    obtain ⟨q, hq, rfl⟩ := List.mem_map.mp hp
    refine ⟨rfl, ?_⟩
    refine p_is_name g (nameB_len (hm.nm q hq)) ?_
    rw [hm.nm q hq]
    exact p_is_integer g trivial hR
  · refine all_i (bs := List.replicate (tD m).length true) ?_ ?_
    · rw [List.map_map, List.map_replicate]
      exact List.map_const' ..
    · have e : (List.replicate (tD m).length true).all id = true := by simp
      rw [e]
      refine ⟨trivial, .l, ?_⟩
      show (match keyStrs (tD m) with | some ks => ks.length < 64 ∧ ∀ ys : List Str, ys.Perm ks → sortedS ys = true → _ | none => False)
      rw [keyStrs_tD]
      refine ⟨by rw [List.length_map]; exact hm.ln, fun ys hp hs => ?_⟩
      have ey := srt_of hp hs
      subst ey
      refine ⟨rfl, dcU_fm (fun d => match d with | .str y => val m y != 0 | _ => false) (fun d => match d with | .str y => .inr y | _ => .inl 0) (fun d => match d with | .str y => .int (val m y) | d => d) _ _ (fun y hy R S h1 h2 => ?_) ?_⟩
      · obtain ⟨z, hz, rfl⟩ := List.mem_map.mp hy
        have hz : z ∈ m.map (·.1) := (srt_perm _).mem_iff.mp hz
        have hg := val_getD hz
        show (match getD (tD m) (.inr z) with | some d => _ | none => False)
        rw [hg]
        show (match !decide (val m z = 0) with | true => _ | false => S)
        cases e : (val m z != 0) with
        | true =>
          have e2 : decide (val m z = 0) = false := decide_eq_false (by simpa using e)
          rw [e2]
          show (match getD (tD m) (.inr z) with | some d => _ | none => False)
          rw [hg]
          exact h1 e
        | false =>
          have e2 : decide (val m z = 0) = true := decide_eq_true (by simpa using e)
          rw [e2]
          exact h2 e
      · have ef : (((srt (m.map (·.1))).map D.str).filter (fun d => match d with | .str y => val m y != 0 | _ => false)).map (fun x => ((match x with | .str y => (.inr y : Key) | _ => .inl 0), (match x with | .str y => D.int (val m y) | d => d))) = tD (norm m) := by
          unfold norm tD
          rw [List.filter_map, List.map_map, List.map_map]
          rfl
        rw [ef, merge_nil (nd_norm hm.nd)]
        refine ⟨⟨g.ins.cl, g.fld⟩, by decide, ?_⟩
        exact h
theorem p_init_non {P : D → Prop} {X : XD} (h : P (szD K [])) : u_Size_init K [.non] P X := by
  simp only [u_Size_init, dsInit, a_Size_init, f_is_name, f_is_integer, uS, uE, uT, uA, uI, uG, uGs, uP, uO, uJ, uN, startD, argSl, endsU, rdy, AS.lkS, AS.lk1, lkM, lkA, lkT, lkI, lkR, pkOn, okL, okM, noPn, dl, Sl.dat, Sl.prv, Sl.own, isNew, nw, toSl, isOw, isOwL, ofV, nmG, nmGs, wipeD, isPath, isDicI, AGs.len, List.set, List.replicate, List.map, List.foldl, List.all_cons, List.all_nil, Fd.own, fl, sf, fldU, satU, setFD, putU, isDicD, isStrD, selIns, mdOwn, mdCls, isCst, fdIsi, fdLen, fdAll, fdAny, fdDict, fdList, fdSorted, fdDraw, fdRepr, opAdd, opSub, opMul, opMod, opFdiv, opPow, opLt, opLe, opGt, opGe, opI, opI0, intD, intD0, lenD, isD, opIdx, opEq, opNe, opIn, opNin, opIs, opIsNot, List.length_cons, List.length_nil, List.nil_append, List.append_nil, List.cons_append, Bool.not_true, Bool.not_false, Bool.true_and, Bool.and_true, Bool.false_and, Bool.and_self, Bool.and_false, look1, List.mem_singleton, exists_eq_left]
  refine ⟨trivial, trivial, isi_dict g (d := .dic []) trivial ?_⟩
  refine ⟨trivial, trivial, rfl, lcU_map (fun _ => .bl true) [] (fun _ hy => (nomatch hy)) (all_i (bs := []) rfl ?_)⟩
  refine ⟨trivial, .l, ?_⟩
  refine ⟨by decide, fun ys hp hs => ?_⟩
  have ey : ys = [] := List.Perm.eq_nil hp
  subst ey
  exact ⟨rfl, ⟨g.ins.cl, g.fld⟩, by decide, h⟩
theorem p_Size {m : Tb} {P : D → Prop} {X : XD} (hm : Good m) (h : P (szD K (norm m))) : (f_Size K).u [.dic (tD m)] P X := by
  show optD (u_Size_init K) 1 [.dic (tD m)] P X
  unfold optD
  rw [if_pos (show ([D.dic (tD m)] : List D).length = 1 from rfl)]
  exact p_init g hm h
theorem p_Size0 {P : D → Prop} {X : XD} (h : P (szD K [])) : (f_Size K).u [] P X := by
  show optD (u_Size_init K) 1 [] P X
  unfold optD
  rw [if_neg (by decide)]
  exact p_init_non g h
theorem p_names {m : Tb} {P : D → Prop} {X : XD} (h : P (.lst (m.map fun p => .str p.1))) : u_Size_names K [szD K m] P X := by
  simp only [u_Size_names, dsOf, a_Size_names, szD, uS, uE, uT, uA, uI, uG, uGs, uP, uO, uJ, uN, startD, argSl, endsU, rdy, AS.lkS, AS.lk1, lkM, lkA, lkT, lkI, lkR, pkOn, okL, okM, noPn, dl, Sl.dat, Sl.prv, Sl.own, isNew, nw, toSl, isOw, isOwL, ofV, nmG, nmGs, wipeD, isPath, isDicI, AGs.len, List.set, List.replicate, List.map, List.foldl, List.all_cons, List.all_nil, Fd.own, fl, sf, fldU, satU, setFD, putU, isDicD, isStrD, selIns, mdOwn, mdCls, isCst, fdIsi, fdLen, fdAll, fdAny, fdDict, fdList, fdSorted, fdDraw, fdRepr, opAdd, opSub, opMul, opMod, opFdiv, opPow, opLt, opLe, opGt, opGe, opI, opI0, intD, intD0, lenD, isD, opIdx, opEq, opNe, opIn, opNin, opIs, opIsNot, List.length_cons, List.length_nil, List.nil_append, List.append_nil, List.cons_append, Bool.not_true, Bool.not_false, Bool.true_and, Bool.and_true, Bool.false_and, Bool.and_self, Bool.and_false, look1, List.mem_singleton, exists_eq_left]
  refine ⟨trivial, trivial, ⟨g.ins.cl, g.fld⟩, fun _ => trivial, ?_⟩
  show P (.lst ((tD m).map fun e => kD e.1))
  unfold tD
  rw [List.map_map]
  exact h
theorem p_exponents {m : Tb} {P : D → Prop} {X : XD} (h : P (.dic (tD m))) : u_Size_exponents K [szD K m] P X := by
  simp only [u_Size_exponents, dsOf, a_Size_exponents, szD, uS, uE, uT, uA, uI, uG, uGs, uP, uO, uJ, uN, startD, argSl, endsU, rdy, AS.lkS, AS.lk1, lkM, lkA, lkT, lkI, lkR, pkOn, okL, okM, noPn, dl, Sl.dat, Sl.prv, Sl.own, isNew, nw, toSl, isOw, isOwL, ofV, nmG, nmGs, wipeD, isPath, isDicI, AGs.len, List.set, List.replicate, List.map, List.foldl, List.all_cons, List.all_nil, Fd.own, fl, sf, fldU, satU, setFD, putU, isDicD, isStrD, selIns, mdOwn, mdCls, isCst, fdIsi, fdLen, fdAll, fdAny, fdDict, fdList, fdSorted, fdDraw, fdRepr, opAdd, opSub, opMul, opMod, opFdiv, opPow, opLt, opLe, opGt, opGe, opI, opI0, intD, intD0, lenD, isD, opIdx, opEq, opNe, opIn, opNin, opIs, opIsNot, List.length_cons, List.length_nil, List.nil_append, List.append_nil, List.cons_append, Bool.not_true, Bool.not_false, Bool.true_and, Bool.and_true, Bool.false_and, Bool.and_self, Bool.and_false, look1, List.mem_singleton, exists_eq_left]
  exact ⟨trivial, trivial, ⟨g.ins.cl, g.fld⟩, fun _ => trivial, h⟩
theorem p_len {m : Tb} {P : D → Prop} {X : XD} (h : P (.int m.length)) : u_Size_len K [szD K m] P X := by
  simp only [u_Size_len, dsOf, a_Size_len, szD, uS, uE, uT, uA, uI, uG, uGs, uP, uO, uJ, uN, startD, argSl, endsU, rdy, AS.lkS, AS.lk1, lkM, lkA, lkT, lkI, lkR, pkOn, okL, okM, noPn, dl, Sl.dat, Sl.prv, Sl.own, isNew, nw, toSl, isOw, isOwL, ofV, nmG, nmGs, wipeD, isPath, isDicI, AGs.len, List.set, List.replicate, List.map, List.foldl, List.all_cons, List.all_nil, Fd.own, fl, sf, fldU, satU, setFD, putU, isDicD, isStrD, selIns, mdOwn, mdCls, isCst, fdIsi, fdLen, fdAll, fdAny, fdDict, fdList, fdSorted, fdDraw, fdRepr, opAdd, opSub, opMul, opMod, opFdiv, opPow, opLt, opLe, opGt, opGe, opI, opI0, intD, intD0, lenD, isD, opIdx, opEq, opNe, opIn, opNin, opIs, opIsNot, List.length_cons, List.length_nil, List.nil_append, List.append_nil, List.cons_append, Bool.not_true, Bool.not_false, Bool.true_and, Bool.and_true, Bool.false_and, Bool.and_self, Bool.and_false, look1, List.mem_singleton, exists_eq_left]
  refine ⟨trivial, trivial, ⟨g.ins.cl, g.fld⟩, id, ?_⟩
  have : (tD m).length = m.length := List.length_map ..
  rw [this]
  exact h
theorem p_exponent {m : Tb} {x : Str} {P : D → Prop} {X : XD} (hx : nameB x = true) (h : P (.int (val m x))) : u_Size_exponent K [szD K m, .str x] P X := by
  simp only [u_Size_exponent, dsOf, a_Size_exponent, f_is_name, szD, uS, uE, uT, uA, uI, uG, uGs, uP, uO, uJ, uN, startD, argSl, endsU, rdy, AS.lkS, AS.lk1, lkM, lkA, lkT, lkI, lkR, pkOn, okL, okM, noPn, dl, Sl.dat, Sl.prv, Sl.own, isNew, nw, toSl, isOw, isOwL, ofV, nmG, nmGs, wipeD, isPath, isDicI, AGs.len, List.set, List.replicate, List.map, List.foldl, List.all_cons, List.all_nil, Fd.own, fl, sf, fldU, satU, setFD, putU, isDicD, isStrD, selIns, mdOwn, mdCls, isCst, fdIsi, fdLen, fdAll, fdAny, fdDict, fdList, fdSorted, fdDraw, fdRepr, opAdd, opSub, opMul, opMod, opFdiv, opPow, opLt, opLe, opGt, opGe, opI, opI0, intD, intD0, lenD, isD, opIdx, opEq, opNe, opIn, opNin, opIs, opIsNot, List.length_cons, List.length_nil, List.nil_append, List.append_nil, List.cons_append, Bool.not_true, Bool.not_false, Bool.true_and, Bool.and_true, Bool.false_and, Bool.and_self, Bool.and_false, look1, List.mem_singleton, exists_eq_left]
  refine ⟨trivial, trivial, p_is_name g (nameB_len hx) ?_⟩
  rw [hx]
  refine ⟨trivial, ⟨g.ins.cl, g.fld⟩, rfl, ?_⟩
  show (false = true → false = true) ∧ P ((getD (tD m) (.inr x)).getD (.int 0))
  rw [getD_tD]
  refine ⟨id, ?_⟩
  unfold val at h
  cases e : getT m x with
  | none => rw [e] at h; exact h
  | some v => rw [e] at h; exact h

end
end AS.K11

set_option Elab.async false
set_option linter.all false
set_option maxRecDepth 100000
set_option maxHeartbeats 4000000
/-! K11D: the plain meaning of class Size: the other methods. -/
namespace AS.K11
open PySem PySem.Spec PyProof.Rows L2
theorem kn_sz {K : PySem.W.Frag} {m : Tb} : Kn K (szD K m) := rfl
/-- the same table, whatever its order -/
def sameT (m n : Tb) : Bool := sameD (tD m) (tD n)
theorem flat_tD (m : Tb) : ((tD m).map (·.2)).all flD = true := by
  unfold tD
  rw [List.map_map, List.all_map]
  exact List.all_eq_true.mpr fun _ _ => rfl
theorem mapT_good {p : Int → Bool} {f : Int → Int} {m : Tb} (h : Good m) : Good (mapT p f m) := by
  refine ⟨nd_mapT h.nd, fun q hq => ?_, ?_⟩
  · unfold mapT at hq
    obtain ⟨z, hz, rfl⟩ := List.mem_map.mp hq
    exact h.nm z (List.mem_filter.mp hz).1
  · unfold mapT
    rw [List.length_map]
    exact Nat.lt_of_le_of_lt (List.length_filter_le _ _) h.ln
section
variable {K : PySem.W.Frag} (g : GP K)
include g
theorem p_want {m : Tb} {P : D → Prop} {X : XD} (h : P .non) : u_want_size K [szD K m] P X := by
  simp only [u_want_size, dsOf, a_want_size, uS, uE, uT, uA, uI, uG, uGs, uP, uO, uJ, uN, startD, argSl, endsU, rdy, AS.lkS, AS.lk1, lkM, lkA, lkT, lkI, lkR, pkOn, okL, okM, noPn, dl, Sl.dat, Sl.prv, Sl.own, isNew, nw, toSl, isOw, isOwL, ofV, nmG, nmGs, wipeD, isPath, isDicI, AGs.len, List.set, List.replicate, List.map, List.foldl, List.all_cons, List.all_nil, Fd.own, fl, sf, fldU, satU, setFD, putU, isDicD, isStrD, selIns, mdOwn, mdCls, isCst, fdIsi, fdLen, fdAll, fdAny, fdDict, fdList, fdSorted, fdDraw, fdRepr, opAdd, opSub, opMul, opMod, opFdiv, opPow, opLt, opLe, opGt, opGe, opI, opI0, intD, intD0, lenD, isD, opIdx, opEq, opNe, opIn, opNin, opIs, opIsNot, List.length_cons, List.length_nil, List.nil_append, List.append_nil, List.cons_append, Bool.not_true, Bool.not_false, Bool.true_and, Bool.and_true, Bool.false_and, Bool.and_self, Bool.and_false, look1, List.mem_singleton, exists_eq_left]
  refine ⟨trivial, trivial, isi_at g kn_sz ?_⟩
  exact ⟨trivial, h⟩
theorem p_is_whole {m : Tb} {P : D → Prop} {X : XD} (h : P (.bl (m.all fun p => decide (0 < p.2)))) : u_Size_is_whole K [szD K m] P X := by
  simp only [u_Size_is_whole, dsOf, a_Size_is_whole, szD, uS, uE, uT, uA, uI, uG, uGs, uP, uO, uJ, uN, startD, argSl, endsU, rdy, AS.lkS, AS.lk1, lkM, lkA, lkT, lkI, lkR, pkOn, okL, okM, noPn, dl, Sl.dat, Sl.prv, Sl.own, isNew, nw, toSl, isOw, isOwL, ofV, nmG, nmGs, wipeD, isPath, isDicI, AGs.len, List.set, List.replicate, List.map, List.foldl, List.all_cons, List.all_nil, Fd.own, fl, sf, fldU, satU, setFD, putU, isDicD, isStrD, selIns, mdOwn, mdCls, isCst, fdIsi, fdLen, fdAll, fdAny, fdDict, fdList, fdSorted, fdDraw, fdRepr, opAdd, opSub, opMul, opMod, opFdiv, opPow, opLt, opLe, opGt, opGe, opI, opI0, intD, intD0, lenD, isD, opIdx, opEq, opNe, opIn, opNin, opIs, opIsNot, List.length_cons, List.length_nil, List.nil_append, List.append_nil, List.cons_append, Bool.not_true, Bool.not_false, Bool.true_and, Bool.and_true, Bool.false_and, Bool.and_self, Bool.and_false, look1, List.mem_singleton, exists_eq_left]
  refine ⟨trivial, trivial, ⟨g.ins.cl, g.fld⟩, trivial, rfl, lcU_map (fun d => match d with | .int i => .bl (decide (0 < i)) | d => d) _ (fun y hy R S hR => ?_) ?_⟩
  · obtain ⟨p, hp, rfl⟩ := List.mem_map.mp hy
    obtain ⟨q, hq, rfl⟩ := List.mem_map.mp hp
    exact hR
  · refine all_i (bs := m.map fun p => decide (0 < p.2)) ?_ ⟨id, ?_⟩
    · unfold tD
      rw [List.map_map, List.map_map, List.map_map]
      rfl
    · rw [List.all_map]
      exact h
theorem p_contains_no {m : Tb} {d : D} {P : D → Prop} {X : XD} (k : Kn K d) (hs : isStrD d = false) (h : P (.bl false)) : u_Size_contains K [szD K m, d] P X := by
  simp only [u_Size_contains, dsOf, a_Size_contains, szD, uS, uE, uT, uA, uI, uG, uGs, uP, uO, uJ, uN, startD, argSl, endsU, rdy, AS.lkS, AS.lk1, lkM, lkA, lkT, lkI, lkR, pkOn, okL, okM, noPn, dl, Sl.dat, Sl.prv, Sl.own, isNew, nw, toSl, isOw, isOwL, ofV, nmG, nmGs, wipeD, isPath, isDicI, AGs.len, List.set, List.replicate, List.map, List.foldl, List.all_cons, List.all_nil, Fd.own, fl, sf, fldU, satU, setFD, putU, isDicD, isStrD, selIns, mdOwn, mdCls, isCst, fdIsi, fdLen, fdAll, fdAny, fdDict, fdList, fdSorted, fdDraw, fdRepr, opAdd, opSub, opMul, opMod, opFdiv, opPow, opLt, opLe, opGt, opGe, opI, opI0, intD, intD0, lenD, isD, opIdx, opEq, opNe, opIn, opNin, opIs, opIsNot, List.length_cons, List.length_nil, List.nil_append, List.append_nil, List.cons_append, Bool.not_true, Bool.not_false, Bool.true_and, Bool.and_true, Bool.false_and, Bool.and_self, Bool.and_false, look1, List.mem_singleton, exists_eq_left]
  refine ⟨trivial, trivial, isi_str g k ?_⟩
  rw [hs]
  exact ⟨id, h⟩
theorem p_contains {m : Tb} {x : Str} {P : D → Prop} {X : XD} (h : P (.bl (getT m x).isSome)) : u_Size_contains K [szD K m, .str x] P X := by
  simp only [u_Size_contains, dsOf, a_Size_contains, szD, uS, uE, uT, uA, uI, uG, uGs, uP, uO, uJ, uN, startD, argSl, endsU, rdy, AS.lkS, AS.lk1, lkM, lkA, lkT, lkI, lkR, pkOn, okL, okM, noPn, dl, Sl.dat, Sl.prv, Sl.own, isNew, nw, toSl, isOw, isOwL, ofV, nmG, nmGs, wipeD, isPath, isDicI, AGs.len, List.set, List.replicate, List.map, List.foldl, List.all_cons, List.all_nil, Fd.own, fl, sf, fldU, satU, setFD, putU, isDicD, isStrD, selIns, mdOwn, mdCls, isCst, fdIsi, fdLen, fdAll, fdAny, fdDict, fdList, fdSorted, fdDraw, fdRepr, opAdd, opSub, opMul, opMod, opFdiv, opPow, opLt, opLe, opGt, opGe, opI, opI0, intD, intD0, lenD, isD, opIdx, opEq, opNe, opIn, opNin, opIs, opIsNot, List.length_cons, List.length_nil, List.nil_append, List.append_nil, List.cons_append, Bool.not_true, Bool.not_false, Bool.true_and, Bool.and_true, Bool.false_and, Bool.and_self, Bool.and_false, look1, List.mem_singleton, exists_eq_left]
  refine ⟨trivial, trivial, isi_str g trivial ?_⟩
  refine ⟨⟨g.ins.cl, g.fld⟩, ?_⟩
  show (false = true → false = true) ∧ P (.bl (getD (tD m) (.inr x)).isSome)
  rw [getD_tD, Option.isSome_map]
  exact ⟨id, h⟩
theorem p_eq {m n : Tb} {P : D → Prop} {X : XD} (h : P (.bl (sameT m n))) : u_Size_eq K [szD K m, szD K n] P X := by
  simp only [u_Size_eq, dsOf, a_Size_eq, uS, uE, uT, uA, uI, uG, uGs, uP, uO, uJ, uN, startD, argSl, endsU, rdy, AS.lkS, AS.lk1, lkM, lkA, lkT, lkI, lkR, pkOn, okL, okM, noPn, dl, Sl.dat, Sl.prv, Sl.own, isNew, nw, toSl, isOw, isOwL, ofV, nmG, nmGs, wipeD, isPath, isDicI, AGs.len, List.set, List.replicate, List.map, List.foldl, List.all_cons, List.all_nil, Fd.own, fl, sf, fldU, satU, setFD, putU, isDicD, isStrD, selIns, mdOwn, mdCls, isCst, fdIsi, fdLen, fdAll, fdAny, fdDict, fdList, fdSorted, fdDraw, fdRepr, opAdd, opSub, opMul, opMod, opFdiv, opPow, opLt, opLe, opGt, opGe, opI, opI0, intD, intD0, lenD, isD, opIdx, opEq, opNe, opIn, opNin, opIs, opIsNot, List.length_cons, List.length_nil, List.nil_append, List.append_nil, List.cons_append, Bool.not_true, Bool.not_false, Bool.true_and, Bool.and_true, Bool.false_and, Bool.and_self, Bool.and_false, look1, List.mem_singleton, exists_eq_left]
  refine ⟨trivial, trivial, isi_at g kn_sz ?_⟩
  refine ⟨⟨g.ins.cl, g.fld⟩, ?_⟩
  simp only [szD, look1]
  exact ⟨⟨g.ins.cl, g.fld⟩, flat_tD m, flat_tD n, id, h⟩
theorem p_top {m : Tb} {P : D → Prop} {X : XD} (hm : Good m) (h : P (szD K (norm (mapT (fun v => decide (0 < v)) id m)))) : u_Size_top K [szD K m] P X := by
  simp only [u_Size_top, dsOf, a_Size_top, szD, uS, uE, uT, uA, uI, uG, uGs, uP, uO, uJ, uN, startD, argSl, endsU, rdy, AS.lkS, AS.lk1, lkM, lkA, lkT, lkI, lkR, pkOn, okL, okM, noPn, dl, Sl.dat, Sl.prv, Sl.own, isNew, nw, toSl, isOw, isOwL, ofV, nmG, nmGs, wipeD, isPath, isDicI, AGs.len, List.set, List.replicate, List.map, List.foldl, List.all_cons, List.all_nil, Fd.own, fl, sf, fldU, satU, setFD, putU, isDicD, isStrD, selIns, mdOwn, mdCls, isCst, fdIsi, fdLen, fdAll, fdAny, fdDict, fdList, fdSorted, fdDraw, fdRepr, opAdd, opSub, opMul, opMod, opFdiv, opPow, opLt, opLe, opGt, opGe, opI, opI0, intD, intD0, lenD, isD, opIdx, opEq, opNe, opIn, opNin, opIs, opIsNot, List.length_cons, List.length_nil, List.nil_append, List.append_nil, List.cons_append, Bool.not_true, Bool.not_false, Bool.true_and, Bool.and_true, Bool.false_and, Bool.and_self, Bool.and_false, look1, List.mem_singleton, exists_eq_left]
  refine ⟨trivial, trivial, ⟨g.ins.cl, g.fld⟩, trivial, rfl, dc_T (fun v => decide (0 < v)) id hm.nd (fun x v hq R S h1 h2 => ⟨rfl, ?_⟩) (p_Size g (mapT_good hm) ⟨fun _ => rfl, h⟩)⟩
  show (match decide (0 < v) with | true => _ | false => S)
  cases e : decide (0 < v) with
  | true => exact h1 e
  | false => exact h2 e
theorem p_bottom {m : Tb} {P : D → Prop} {X : XD} (hm : Good m) (h : P (szD K (norm (mapT (fun v => decide (v < 0)) (fun v => -v) m)))) : u_Size_bottom K [szD K m] P X := by
  simp only [u_Size_bottom, dsOf, a_Size_bottom, szD, uS, uE, uT, uA, uI, uG, uGs, uP, uO, uJ, uN, startD, argSl, endsU, rdy, AS.lkS, AS.lk1, lkM, lkA, lkT, lkI, lkR, pkOn, okL, okM, noPn, dl, Sl.dat, Sl.prv, Sl.own, isNew, nw, toSl, isOw, isOwL, ofV, nmG, nmGs, wipeD, isPath, isDicI, AGs.len, List.set, List.replicate, List.map, List.foldl, List.all_cons, List.all_nil, Fd.own, fl, sf, fldU, satU, setFD, putU, isDicD, isStrD, selIns, mdOwn, mdCls, isCst, fdIsi, fdLen, fdAll, fdAny, fdDict, fdList, fdSorted, fdDraw, fdRepr, opAdd, opSub, opMul, opMod, opFdiv, opPow, opLt, opLe, opGt, opGe, opI, opI0, intD, intD0, lenD, isD, opIdx, opEq, opNe, opIn, opNin, opIs, opIsNot, List.length_cons, List.length_nil, List.nil_append, List.append_nil, List.cons_append, Bool.not_true, Bool.not_false, Bool.true_and, Bool.and_true, Bool.false_and, Bool.and_self, Bool.and_false, look1, List.mem_singleton, exists_eq_left]
  refine ⟨trivial, trivial, ⟨g.ins.cl, g.fld⟩, trivial, rfl, dc_T (fun v => decide (v < 0)) (fun v => -v) hm.nd (fun x v hq R S h1 h2 => ⟨rfl, ?_⟩) (p_Size g (mapT_good hm) ⟨fun _ => rfl, h⟩)⟩
  show (match decide (v < 0) with | true => _ | false => S)
  cases e : decide (v < 0) with
  | true => exact h1 e
  | false => exact h2 e
theorem p_power {m : Tb} {n : Int} {P : D → Prop} {X : XD} (hm : Good m) (hn : 0 ≤ n) (hb : n < 2 ^ 64) (h : P (szD K (norm (mapT (fun _ => true) (fun v => v * n) m)))) : u_Size_power K [szD K m, .int n] P X := by
  simp only [u_Size_power, dsOf, a_Size_power, f_is_count, szD, uS, uE, uT, uA, uI, uG, uGs, uP, uO, uJ, uN, startD, argSl, endsU, rdy, AS.lkS, AS.lk1, lkM, lkA, lkT, lkI, lkR, pkOn, okL, okM, noPn, dl, Sl.dat, Sl.prv, Sl.own, isNew, nw, toSl, isOw, isOwL, ofV, nmG, nmGs, wipeD, isPath, isDicI, AGs.len, List.set, List.replicate, List.map, List.foldl, List.all_cons, List.all_nil, Fd.own, fl, sf, fldU, satU, setFD, putU, isDicD, isStrD, selIns, mdOwn, mdCls, isCst, fdIsi, fdLen, fdAll, fdAny, fdDict, fdList, fdSorted, fdDraw, fdRepr, opAdd, opSub, opMul, opMod, opFdiv, opPow, opLt, opLe, opGt, opGe, opI, opI0, intD, intD0, lenD, isD, opIdx, opEq, opNe, opIn, opNin, opIs, opIsNot, List.length_cons, List.length_nil, List.nil_append, List.append_nil, List.cons_append, Bool.not_true, Bool.not_false, Bool.true_and, Bool.and_true, Bool.false_and, Bool.and_self, Bool.and_false, look1, List.mem_singleton, exists_eq_left]
  refine ⟨trivial, trivial, p_is_count g trivial ?_⟩
  have e : decide (0 ≤ n) = true := decide_eq_true hn
  simp only [e]
  refine ⟨trivial, ⟨g.ins.cl, g.fld⟩, trivial, rfl, dc_T (fun _ => true) (fun v => v * n) hm.nd (fun x v hq R S h1 h2 => ⟨rfl, ?_⟩) (p_Size g (mapT_good hm) ⟨fun _ => rfl, h⟩)⟩
  exact ⟨.inr ⟨by omega, hb⟩, h1 rfl⟩
theorem p_eq_no {m : Tb} {d : D} {P : D → Prop} {X : XD} (k : Kn K d) (hs : isSizeD d = false) (h : P (.bl false)) : u_Size_eq K [szD K m, d] P X := by
  simp only [u_Size_eq, dsOf, a_Size_eq, uS, uE, uT, uA, uI, uG, uGs, uP, uO, uJ, uN, startD, argSl, endsU, rdy, AS.lkS, AS.lk1, lkM, lkA, lkT, lkI, lkR, pkOn, okL, okM, noPn, dl, Sl.dat, Sl.prv, Sl.own, isNew, nw, toSl, isOw, isOwL, ofV, nmG, nmGs, wipeD, isPath, isDicI, AGs.len, List.set, List.replicate, List.map, List.foldl, List.all_cons, List.all_nil, Fd.own, fl, sf, fldU, satU, setFD, putU, isDicD, isStrD, selIns, mdOwn, mdCls, isCst, fdIsi, fdLen, fdAll, fdAny, fdDict, fdList, fdSorted, fdDraw, fdRepr, opAdd, opSub, opMul, opMod, opFdiv, opPow, opLt, opLe, opGt, opGe, opI, opI0, intD, intD0, lenD, isD, opIdx, opEq, opNe, opIn, opNin, opIs, opIsNot, List.length_cons, List.length_nil, List.nil_append, List.append_nil, List.cons_append, Bool.not_true, Bool.not_false, Bool.true_and, Bool.and_true, Bool.false_and, Bool.and_self, Bool.and_false, look1, List.mem_singleton, exists_eq_left]
  refine ⟨trivial, trivial, isi_at g k ?_⟩
  rw [hs]
  exact ⟨id, h⟩
end
end AS.K11

set_option Elab.async false
set_option linter.all false
set_option maxRecDepth 100000
set_option maxHeartbeats 4000000
/-! K11E: the plain meaning of class Size: products. -/
namespace AS.K11
open PySem PySem.Spec PyProof.Rows L2
theorem putT_len (m : Tb) (x : Str) (v : Int) : (putT m x v).length ≤ m.length + 1 := by
  unfold putT
  split
  · rw [List.length_map]; omega
  · rw [List.length_append]; exact Nat.le_refl _
theorem get_T {m : Tb} {x : Str} {P : D → Prop} (h : P (.int (val m x))) : getDD [.dic (tD m), .str x, .int 0] P := by
  show P ((getD (tD m) (.inr x)).getD (.int 0))
  rw [getD_tD]
  unfold val at h
  cases e : getT m x with
  | none => rw [e] at h; exact h
  | some v => rw [e] at h; exact h
section
variable {K : PySem.W.Frag} (g : GP K)
include g
theorem p_product {c : D} {ms : List Tb} {P : D → Prop} {X : XD} (hl : (ms.map List.length).sum < 64) (hg : Good (prodT ms)) (h : P (szD K (norm (prodT ms)))) : u_Size_product K [c, .tup (ms.map (szD K))] P X := by
  simp only [u_Size_product, dsOf, a_Size_product, b_Size_product_0, b_Size_product_1, c_Size_product_2, f_want_size, uS, uE, uT, uA, uI, uG, uGs, uP, uO, uJ, uN, startD, argSl, endsU, rdy, AS.lkS, AS.lk1, lkM, lkA, lkT, lkI, lkR, pkOn, okL, okM, noPn, dl, Sl.dat, Sl.prv, Sl.own, isNew, nw, toSl, isOw, isOwL, ofV, nmG, nmGs, wipeD, isPath, isDicI, AGs.len, List.set, List.replicate, List.map, List.foldl, List.all_cons, List.all_nil, Fd.own, fl, sf, fldU, satU, setFD, putU, isDicD, isStrD, selIns, mdOwn, mdCls, isCst, fdIsi, fdLen, fdAll, fdAny, fdDict, fdList, fdSorted, fdDraw, fdRepr, opAdd, opSub, opMul, opMod, opFdiv, opPow, opLt, opLe, opGt, opGe, opI, opI0, intD, intD0, lenD, isD, opIdx, opEq, opNe, opIn, opNin, opIs, opIsNot, List.length_cons, List.length_nil, List.nil_append, List.append_nil, List.cons_append, Bool.not_true, Bool.not_false, Bool.true_and, Bool.and_true, Bool.false_and, Bool.and_self, Bool.and_false, look1, List.mem_singleton, exists_eq_left]
  refine ⟨trivial, trivial, .t, ?_⟩
  refine forU_inv (fun xs δ => ∃ rest acc s3 s4 s5, xs = rest.map (szD K) ∧ δ = [.sh c, .sh (.tup (ms.map (szD K))), .ow (.dic (tD acc)), s3, s4, s5] ∧ rest.foldl addT acc = prodT ms ∧ acc.length + (rest.map List.length).sum < 64) ?_ ?_ _ _ ⟨ms, [], _, _, _, rfl, rfl, rfl, by simpa using hl⟩
  · rintro x xs _ M ⟨rest, acc, s3, s4, s5, e1, rfl, e4, e5⟩ hM
    cases rest with
    | nil => cases e1
    | cons m rest =>
      obtain ⟨rfl, rfl⟩ := List.cons.inj e1
      refine ⟨trivial, p_want g ⟨trivial, ⟨⟨g.ins.cl, g.fld⟩, ?_⟩⟩⟩
      simp only [look1]
      refine ⟨trivial, ?_⟩
      refine forU_inv (fun xs δ => ∃ mr a s4 s5, xs = mr.map (fun q : Str × Int => D.tup [.str q.1, .int q.2]) ∧ δ = [.sh c, .sh (.tup (ms.map (szD K))), .ow (.dic (tD a)), .sh (szD K m), s4, s5] ∧ addT a mr = addT acc m ∧ a.length + mr.length + (rest.map List.length).sum < 64) ?_ ?_ _ _ ⟨m, acc, _, _, tD_items m, rfl, rfl, by rw [List.map_cons, List.sum_cons] at e5; omega⟩
      · rintro x xs _ M ⟨mr, a, s4, s5, e1, rfl, e3, e6⟩ hM
        cases mr with
        | nil => cases e1
        | cons q mr =>
          obtain ⟨rfl, rfl⟩ := List.cons.inj e1
          refine ⟨rfl, rfl, rfl, ?_⟩
          show getDD [.dic (tD a), .str q.1, .int 0] (fun x => addD x (.int q.2) fun d => true = true ∧ (tD a).length < sizeLine ∧ M [.sh c, .sh (.tup (ms.map (szD K))), .ow (.dic (putD (tD a) (.inr q.1) d)), .sh (szD K m), .sh (.str q.1), .sh (.int q.2)])
          have ea : (tD a).length = a.length := List.length_map ..
          have e8 : (64 : Nat) ≤ sizeLine := by decide
          have el : (q :: mr).length = mr.length + 1 := rfl
          refine get_T ⟨rfl, by omega, ?_⟩
          rw [putD_tD]
          refine hM _ ⟨mr, _, _, _, rfl, rfl, e3, ?_⟩
          have := putT_len a q.1 (val a q.1 + q.2)
          omega
      · rintro _ ⟨mr, a, s4, s5, e1, rfl, e3, e6⟩
        cases mr with
        | cons q mr => cases e1
        | nil => exact hM _ ⟨rest, addT acc m, _, _, _, rfl, by rw [← e3]; rfl, e4, by rw [← e3]; exact e6⟩
  · rintro _ ⟨rest, acc, s3, s4, s5, e1, rfl, e3, e5⟩
    cases rest with
    | cons q mr => cases e1
    | nil =>
      have e3 : acc = prodT ms := e3
      subst e3
      exact ⟨rfl, p_Size g hg ⟨fun _ => rfl, h⟩⟩
theorem u_prod2 {m n : Tb} {P : D → Prop} {X : XD} (hl : m.length + n.length < 64) (hg : Good (prodT [m, n])) (h : P (szD K (norm (prodT [m, n])))) : (f_Size_product K).u [.cst (.ref (CS K)), szD K m, szD K n] P X := by
  refine ⟨by show (1 : Nat) ≤ 3; decide, by show (2 : Nat) ≤ sizeLine; decide, ?_⟩
  exact p_product g (ms := [m, n]) (by simpa using hl) hg h
theorem p_mul {m n : Tb} {P : D → Prop} {X : XD} (hl : m.length + n.length < 64) (hg : Good (prodT [m, n])) (h : P (szD K (norm (prodT [m, n])))) : u_Size_mul K [szD K m, szD K n] P X := by
  simp only [u_Size_mul, dsOf, a_Size_mul, f_want_size, uS, uE, uT, uA, uI, uG, uGs, uP, uO, uJ, uN, startD, argSl, endsU, rdy, AS.lkS, AS.lk1, lkM, lkA, lkT, lkI, lkR, pkOn, okL, okM, noPn, dl, Sl.dat, Sl.prv, Sl.own, isNew, nw, toSl, isOw, isOwL, ofV, nmG, nmGs, wipeD, isPath, isDicI, AGs.len, List.set, List.replicate, List.map, List.foldl, List.all_cons, List.all_nil, Fd.own, fl, sf, fldU, satU, setFD, putU, isDicD, isStrD, selIns, mdOwn, mdCls, isCst, fdIsi, fdLen, fdAll, fdAny, fdDict, fdList, fdSorted, fdDraw, fdRepr, opAdd, opSub, opMul, opMod, opFdiv, opPow, opLt, opLe, opGt, opGe, opI, opI0, intD, intD0, lenD, isD, opIdx, opEq, opNe, opIn, opNin, opIs, opIsNot, List.length_cons, List.length_nil, List.nil_append, List.append_nil, List.cons_append, Bool.not_true, Bool.not_false, Bool.true_and, Bool.and_true, Bool.false_and, Bool.and_self, Bool.and_false, look1, List.mem_singleton, exists_eq_left]
  refine ⟨trivial, trivial, p_want g ?_⟩
  exact ⟨trivial, rfl, u_prod2 g hl hg ⟨fun _ => rfl, h⟩⟩
def negT (n : Tb) : Tb := norm (mapT (fun _ => true) (fun v => -v) n)
theorem p_over {m n : Tb} {P : D → Prop} {X : XD} (hn : Good n) (hl : m.length + n.length < 64) (hg : Good (prodT [m, negT n])) (h : P (szD K (norm (prodT [m, negT n])))) : u_Size_over K [szD K m, szD K n] P X := by
  simp only [u_Size_over, dsOf, a_Size_over, f_want_size, uS, uE, uT, uA, uI, uG, uGs, uP, uO, uJ, uN, startD, argSl, endsU, rdy, AS.lkS, AS.lk1, lkM, lkA, lkT, lkI, lkR, pkOn, okL, okM, noPn, dl, Sl.dat, Sl.prv, Sl.own, isNew, nw, toSl, isOw, isOwL, ofV, nmG, nmGs, wipeD, isPath, isDicI, AGs.len, List.set, List.replicate, List.map, List.foldl, List.all_cons, List.all_nil, Fd.own, fl, sf, fldU, satU, setFD, putU, isDicD, isStrD, selIns, mdOwn, mdCls, isCst, fdIsi, fdLen, fdAll, fdAny, fdDict, fdList, fdSorted, fdDraw, fdRepr, opAdd, opSub, opMul, opMod, opFdiv, opPow, opLt, opLe, opGt, opGe, opI, opI0, intD, intD0, lenD, isD, opIdx, opEq, opNe, opIn, opNin, opIs, opIsNot, List.length_cons, List.length_nil, List.nil_append, List.append_nil, List.cons_append, Bool.not_true, Bool.not_false, Bool.true_and, Bool.and_true, Bool.false_and, Bool.and_self, Bool.and_false, look1, List.mem_singleton, exists_eq_left]
  refine ⟨trivial, trivial, p_want g ?_⟩
  refine ⟨trivial, rfl, ⟨g.ins.cl, g.fld⟩, trivial, rfl, dc_T (fun _ => true) (fun v => -v) hn.nd (fun x v hq R S h1 h2 => ⟨rfl, h1 rfl⟩) (p_Size g (mapT_good hn) (u_prod2 g ?_ hg ⟨fun _ => rfl, h⟩))⟩
  have e1 := norm_len (mapT (fun _ => true) (fun v => -v) n)
  have e2 : (mapT (fun _ => true) (fun v => -v) n).length ≤ n.length := by
    unfold mapT
    rw [List.length_map]
    exact List.length_filter_le _ _
  omega
end
end AS.K11

set_option Elab.async false
set_option linter.all false
set_option maxRecDepth 100000
set_option maxHeartbeats 4000000
/-! K11F: the plain meaning of the law's own dicts. -/
namespace AS.K11
open PySem PySem.Spec PyProof.Rows L2
/-- [(k, m[k]) for k in sorted(m) if m[k] != 0] -/
theorem lc_S {G : D → List Sl → (List Sl → Prop) → Prop} {T : List Sl → (Bool → Prop) → Prop} {E : List Sl → (D → Prop) → Prop} {δ : List Sl} {P : List D → Prop} {m : Tb} (h : ∀ z ∈ m.map (·.1), ∀ (R : D → Prop) (S : Prop), (val m z ≠ 0 → R (.tup [.str z, .int (val m z)])) → (val m z = 0 → S) → G (.str z) δ fun δ2 => T δ2 fun b => match b with | true => E δ2 R | false => S)
    (hP : P ((norm m).map fun q => .tup [.str q.1, .int q.2])) : lcU G T E δ P ((srt (m.map (·.1))).map D.str) [] := by
  refine lcU_fm (fun d => match d with | .str y => val m y != 0 | _ => false) (fun d => match d with | .str y => .tup [.str y, .int (val m y)] | d => d) _ _ (fun d hd R S h1 h2 => ?_) ?_
  · obtain ⟨z, hz, rfl⟩ := List.mem_map.mp hd
    exact h z ((srt_perm _).mem_iff.mp hz) R S (fun e => h1 (by simpa using e)) (fun e => h2 (by simpa using e))
  · rw [List.nil_append, List.filter_map, List.map_map]
    unfold norm at hP
    rw [List.map_map] at hP
    exact hP
section
variable {K : PySem.W.Frag} (g : GP K)
include g
theorem p_less {m : Tb} {P : D → Prop} {X : XD} (hm : Nd m) (h : P (.dic (tD (mapT (fun _ => true) (fun v => -v) m)))) : u__law_less K [.dic (tD m)] P X := by
  simp only [u__law_less, dsOf, a__law_less, uS, uE, uT, uA, uI, uG, uGs, uP, uO, uJ, uN, startD, argSl, endsU, rdy, AS.lkS, AS.lk1, lkM, lkA, lkT, lkI, lkR, pkOn, okL, okM, noPn, dl, Sl.dat, Sl.prv, Sl.own, isNew, nw, toSl, isOw, isOwL, ofV, nmG, nmGs, wipeD, isPath, isDicI, AGs.len, List.set, List.replicate, List.map, List.foldl, List.all_cons, List.all_nil, Fd.own, fl, sf, fldU, satU, setFD, putU, isDicD, isStrD, selIns, mdOwn, mdCls, isCst, fdIsi, fdLen, fdAll, fdAny, fdDict, fdList, fdSorted, fdDraw, fdRepr, opAdd, opSub, opMul, opMod, opFdiv, opPow, opLt, opLe, opGt, opGe, opI, opI0, intD, intD0, lenD, isD, opIdx, opEq, opNe, opIn, opNin, opIs, opIsNot, List.length_cons, List.length_nil, List.nil_append, List.append_nil, List.cons_append, Bool.not_true, Bool.not_false, Bool.true_and, Bool.and_true, Bool.false_and, Bool.and_self, Bool.and_false, look1, List.mem_singleton, exists_eq_left]
  refine ⟨trivial, trivial, trivial, rfl, lc_T (fun _ => true) (fun v => -v) (fun x v hq R S h1 h2 => ⟨rfl, (by decide : (0 + 1 + 1 : Nat) ≤ sizeLine), h1 rfl⟩) (dict_T (nd_mapT hm) ⟨fun _ => trivial, h⟩)⟩
theorem p_raised {m : Tb} {n : Int} {P : D → Prop} {X : XD} (hm : Nd m) (hn : 0 ≤ n) (hb : n < 2 ^ 64) (h : P (.dic (tD (mapT (fun _ => decide (0 < n)) (fun v => v * n) m)))) : u__law_raised K [.dic (tD m), .int n] P X := by
  simp only [u__law_raised, dsOf, a__law_raised, uS, uE, uT, uA, uI, uG, uGs, uP, uO, uJ, uN, startD, argSl, endsU, rdy, AS.lkS, AS.lk1, lkM, lkA, lkT, lkI, lkR, pkOn, okL, okM, noPn, dl, Sl.dat, Sl.prv, Sl.own, isNew, nw, toSl, isOw, isOwL, ofV, nmG, nmGs, wipeD, isPath, isDicI, AGs.len, List.set, List.replicate, List.map, List.foldl, List.all_cons, List.all_nil, Fd.own, fl, sf, fldU, satU, setFD, putU, isDicD, isStrD, selIns, mdOwn, mdCls, isCst, fdIsi, fdLen, fdAll, fdAny, fdDict, fdList, fdSorted, fdDraw, fdRepr, opAdd, opSub, opMul, opMod, opFdiv, opPow, opLt, opLe, opGt, opGe, opI, opI0, intD, intD0, lenD, isD, opIdx, opEq, opNe, opIn, opNin, opIs, opIsNot, List.length_cons, List.length_nil, List.nil_append, List.append_nil, List.cons_append, Bool.not_true, Bool.not_false, Bool.true_and, Bool.and_true, Bool.false_and, Bool.and_self, Bool.and_false, look1, List.mem_singleton, exists_eq_left]
  refine ⟨trivial, trivial, trivial, rfl, lc_T (fun _ => decide (0 < n)) (fun v => v * n) (fun x v hq R S h1 h2 => ⟨rfl, ?_⟩) (dict_T (nd_mapT hm) ⟨fun _ => trivial, h⟩)⟩
  show (match decide (0 < n) with | true => _ | false => S)
  cases e : decide (0 < n) with
  | true => exact ⟨.inr ⟨by omega, hb⟩, (by decide : (0 + 1 + 1 : Nat) ≤ sizeLine), h1 e⟩
  | false => exact h2 e
theorem p_times {m n : Tb} {P : D → Prop} {X : XD} (hm : Nd m) (hl : m.length + n.length < 64) (h : P (.dic (tD (norm (addT m n))))) : u__law_times K [.dic (tD m), .dic (tD n)] P X := by
  simp only [u__law_times, dsOf, a__law_times, b__law_times_0, c__law_times_1, uS, uE, uT, uA, uI, uG, uGs, uP, uO, uJ, uN, startD, argSl, endsU, rdy, AS.lkS, AS.lk1, lkM, lkA, lkT, lkI, lkR, pkOn, okL, okM, noPn, dl, Sl.dat, Sl.prv, Sl.own, isNew, nw, toSl, isOw, isOwL, ofV, nmG, nmGs, wipeD, isPath, isDicI, AGs.len, List.set, List.replicate, List.map, List.foldl, List.all_cons, List.all_nil, Fd.own, fl, sf, fldU, satU, setFD, putU, isDicD, isStrD, selIns, mdOwn, mdCls, isCst, fdIsi, fdLen, fdAll, fdAny, fdDict, fdList, fdSorted, fdDraw, fdRepr, opAdd, opSub, opMul, opMod, opFdiv, opPow, opLt, opLe, opGt, opGe, opI, opI0, intD, intD0, lenD, isD, opIdx, opEq, opNe, opIn, opNin, opIs, opIsNot, List.length_cons, List.length_nil, List.nil_append, List.append_nil, List.cons_append, Bool.not_true, Bool.not_false, Bool.true_and, Bool.and_true, Bool.false_and, Bool.and_self, Bool.and_false, look1, List.mem_singleton, exists_eq_left]
  refine ⟨trivial, ?_⟩
  show _ ∧ _ ∧ forU _ _ _ _
  refine ⟨trivial, trivial, ?_⟩
  refine forU_inv (fun xs δ => ∃ mr a s3 s4, xs = mr.map (fun q : Str × Int => D.tup [.str q.1, .int q.2]) ∧ δ = [.bw (.dic (tD m)), .bw (.dic (tD n)), .ow (.dic (tD a)), s3, s4] ∧ (s3 = .un ∨ ∃ x, s3 = .sh x) ∧ addT a mr = addT m n ∧ a.length + mr.length < 64) ?_ ?_ _ _ ⟨n, m, _, _, tD_items n, rfl, .inl rfl, rfl, hl⟩
  · rintro x xs _ M ⟨mr, a, s3, s4, e1, rfl, e7, e3, e6⟩ hM
    cases mr with
    | nil => cases e1
    | cons q mr =>
      obtain ⟨rfl, rfl⟩ := List.cons.inj e1
      refine ⟨rfl, rfl, rfl, ?_⟩
      show getDD [.dic (tD a), .str q.1, .int 0] (fun x => addD x (.int q.2) fun d => true = true ∧ (tD a).length < sizeLine ∧ M [.bw (.dic (tD m)), .bw (.dic (tD n)), .ow (.dic (putD (tD a) (.inr q.1) d)), .sh (.str q.1), .sh (.int q.2)])
      have ea : (tD a).length = a.length := List.length_map ..
      have e8 : (64 : Nat) ≤ sizeLine := by decide
      have el : (q :: mr).length = mr.length + 1 := rfl
      refine get_T ⟨rfl, by omega, ?_⟩
      rw [putD_tD]
      refine hM _ ⟨mr, _, _, _, rfl, rfl, .inr ⟨_, rfl⟩, e3, ?_⟩
      have := putT_len a q.1 (val a q.1 + q.2)
      omega
  · rintro _ ⟨mr, a, s3, s4, e1, rfl, e7, e3, e6⟩
    cases mr with
    | cons q mr => cases e1
    | nil =>
      have e3 : a = addT m n := e3
      have el : a.length < 64 := e6
      subst e3
      rcases e7 with rfl | ⟨x, rfl⟩ <;>
      · refine ⟨rfl, .l, ?_⟩
        show (match keyStrs (tD (addT m n)) with | some ks => ks.length < 64 ∧ ∀ ys : List Str, ys.Perm ks → sortedS ys = true → _ | none => False)
        rw [keyStrs_tD]
        refine ⟨by rw [List.length_map]; exact el, fun ys hp hs => ?_⟩
        have ey := srt_of hp hs
        subst ey
        refine ⟨rfl, lc_S (fun z hz R S h1 h2 => ?_) (dict_T (nd_norm (nd_addT n m hm)) ⟨fun _ => trivial, h⟩)⟩
        have hg := val_getD hz
        show (match getD (tD (addT m n)) (.inr z) with | some d => _ | none => False)
        rw [hg]
        show (match !decide (val (addT m n) z = 0) with | true => _ | false => S)
        by_cases e : val (addT m n) z = 0
        · rw [decide_eq_true e]
          exact h2 e
        · rw [decide_eq_false e]
          show (match getD (tD (addT m n)) (.inr z) with | some d => _ | none => False)
          rw [hg]
          exact ⟨by decide, h1 e⟩
end
end AS.K11

set_option Elab.async false
set_option linter.all false
set_option maxRecDepth 100000
set_option maxHeartbeats 4000000
set_option exponentiation.threshold 5000
/-! K11G: the plain meaning of _law_is. -/
namespace AS.K11
open PySem PySem.Spec PyProof.Rows L2
theorem sel_sz {K : PySem.W.Frag} {m : Tb} {f : Str} (h : (f == ("own_exponents" : Str)) = false := by decide +kernel) : selIns (CS K) f (szD K m) = true := by
  unfold selIns szD
  simp [List.lookup, h]
/-- names are short -/
theorem nameB_8 {x : Str} (h : nameB x = true) : x.length ≤ 100 ∧ ∀ c ∈ x.cps.toList, c < 16 ^ 8 := by
  unfold nameB at h
  obtain ⟨_, h⟩ := b2 h
  obtain ⟨h8, h⟩ := b2 h
  have h8 := of_decide_eq_true h8
  refine ⟨by omega, fun c hc => ?_⟩
  have q := List.all_eq_true.mp h c hc
  unfold letterB at q
  have q := of_decide_eq_true q
  have z : ∀ c ∈ ("abcdefghijklmnopqrstuvwxyz" : Str).cps.toList, c < 16 ^ 8 := by decide +kernel
  exact z c q
/-- numbers that are shown -/
def Sm (m : Tb) : Prop := ∀ p ∈ m, SmI p.2
theorem shw_T {m : Tb} (hm : Good m) (hs : Sm m) : Shw (.dict (pyT m)) 1 (4004 * 64 + 3) := by
  refine Shw.mono (Shw.dict (n := 0) (B := 2000) fun e he => ?_) (Nat.le_refl _) ?_
  · obtain ⟨q, hq, rfl⟩ := List.mem_map.mp he
    exact ⟨Shw.str (nameB_8 (hm.nm q hq)).1 (nameB_8 (hm.nm q hq)).2, Shw.int (hs q hq)⟩
  · have : (pyT m).length = m.length := List.length_map ..
    have := hm.ln
    omega
theorem shw_names {m : Tb} (hm : Good m) : Shw (.list (m.map fun q => .str q.1)) 1 (4004 * 64 + 3) := by
  refine Shw.mono (Shw.list (n := 0) (B := 2000) fun e he => ?_) (Nat.le_refl _) ?_
  · obtain ⟨q, hq, rfl⟩ := List.mem_map.mp he
    exact Shw.str (nameB_8 (hm.nm q hq)).1 (nameB_8 (hm.nm q hq)).2
  · rw [List.length_map]
    have := hm.ln
    omega
theorem shw_vals {m : Tb} (hm : Good m) (hs : Sm m) : Shw (.list (m.map fun q => .int q.2)) 1 (4004 * 64 + 3) := by
  refine Shw.mono (Shw.list (n := 0) (B := 2000) fun e he => ?_) (Nat.le_refl _) ?_
  · obtain ⟨q, hq, rfl⟩ := List.mem_map.mp he
    exact Shw.int (hs q hq)
  · rw [List.length_map]
    have := hm.ln
    omega
theorem smI_small {i : Int} (h : i.natAbs < 2 ^ 1900) : SmI i := by
  unfold SmI
  by_cases z : i.natAbs = 0
  · rw [z]; decide
  · have := (Nat.log2_lt z).mpr h
    omega
/-- the text of a datum; never computed -/
@[irreducible] def rpS (p : PyData) : Str := p.shown
theorem repr_i {d : D} {p : PyData} {n B : Nat} {P : D → Prop} (e : toPy d = some p) (s : Shw p n B) (hn : n ≤ 100) (hB : B ≤ sizeLine) (h : P (.str (rpS p))) : reprD [d] P := ⟨p, e, s.1, Nat.le_trans s.2.1 hn, Nat.le_trans s.2.2 hB, by unfold rpS at h; exact h⟩
theorem eq_same {a : Str} {P : D → Prop} (h : P (.bl true)) : eqvD false (.str a) (.str a) P := by
  show P (.bl (if false then !decide (a = a) else decide (a = a)))
  rw [decide_eq_true rfl]
  exact h
theorem ne_same {a : Str} {P : D → Prop} (h : P (.bl false)) : eqvD true (.str a) (.str a) P := by
  show P (.bl (if true then !decide (a = a) else decide (a = a)))
  rw [decide_eq_true rfl]
  exact h
def isPy (m : Tb) : PyData := .list [.list (m.map fun q => .str q.1), .dict (pyT m), .int m.length, .bool (m.all fun p => decide (0 < p.2)), .list (m.map fun q => .int q.2)]
theorem shw_is {m : Tb} (hm : Good m) (hs : Sm m) : Shw (isPy m) 2 ((4004 * 64 + 3 + 2) * 5 + 3) := by
  refine Shw.list (n := 1) (B := 4004 * 64 + 3) fun d hd => ?_
  have hl : SmI (m.length : Int) := smI_small (by have := hm.ln; have : (64 : Nat) < 2 ^ 1900 := by decide
                                                  omega)
  simp only [List.mem_cons, List.not_mem_nil, or_false] at hd
  rcases hd with rfl | rfl | rfl | rfl | rfl
  · exact shw_names hm
  · exact shw_T hm hs
  · exact (Shw.int hl).mono (by decide) (by decide)
  · exact (Shw.bool _).mono (by decide) (by decide)
  · exact shw_vals hm hs
theorem val_mem {m : Tb} (hm : Nd m) {x : Str} {v : Int} (h : (x, v) ∈ m) : val m x = v := by
  induction m with
  | nil => cases h
  | cons q r ih =>
    obtain ⟨y, w⟩ := q
    obtain ⟨h1, h2⟩ := nd_cons hm
    rw [val_cons]
    rcases List.mem_cons.mp h with e | e
    · cases e; rw [if_pos rfl]
    · rw [if_neg (fun z => h1 (by rw [← z]; exact List.mem_map.mpr ⟨_, e, rfl⟩)), ih h2 e]
theorem py_dic (m : Tb) : toPy (.dic (tD m)) = some (.dict (pyT m)) := by simp only [toPy, toPyE_tD, Option.map_some]
theorem py_cons {d : D} {r : List D} {x : PyData} {xs : List PyData} (h1 : toPy d = some x) (h2 : toPys r = some xs) : toPys (d :: r) = some (x :: xs) := by simp only [toPys, h1, h2]
theorem py_names (m : Tb) : toPy (.lst (m.map fun p => .str p.1)) = some (.list (m.map fun q => .str q.1)) := py_lst (toPys_map _ _ (fun _ => rfl) m)
theorem py_vals (m : Tb) : toPy (.lst (m.map fun p => .int p.2)) = some (.list (m.map fun q => .int q.2)) := py_lst (toPys_map _ _ (fun _ => rfl) m)
section
variable {K : PySem.W.Frag} (g : GP K)
include g
theorem p_is {m : Tb} {P : D → Prop} {X : XD} (hm : Good m) (hs : Sm m) (h : P (.bl true)) : u__law_is K [szD K m, .dic (tD m)] P X := by
  have hz : (64 : Nat) < 2 ^ 62 := by decide
  have hl := hm.ln
  have et : (tD m).length = m.length := List.length_map ..
  simp only [u__law_is, dsOf, a__law_is, uS, uE, uT, uA, uI, uG, uGs, uP, uO, uJ, uN, startD, argSl, endsU, rdy, AS.lkS, AS.lk1, lkM, lkA, lkT, lkI, lkR, pkOn, okL, okM, noPn, dl, Sl.dat, Sl.prv, Sl.own, isNew, nw, toSl, isOw, isOwL, ofV, nmG, nmGs, wipeD, isPath, isDicI, AGs.len, List.set, List.replicate, List.map, List.foldl, List.all_cons, List.all_nil, Fd.own, fl, sf, fldU, satU, setFD, putU, isDicD, isStrD, mdOwn, mdCls, isCst, fdIsi, fdLen, fdAll, fdAny, fdDict, fdList, fdSorted, fdDraw, fdRepr, opAdd_u, opSub, opMul_u, opMod, opFdiv, opPow, opLt, opLe, opGt, opGe, opI, opI0, intD, intD0, lenD, isD, opIdx_u, opEq_u, opNe_u, opIn_u, opNin_u, opIs, opIsNot, List.length_cons, List.length_nil, List.nil_append, List.append_nil, List.cons_append, Bool.not_true, Bool.not_false, Bool.true_and, Bool.and_true, Bool.false_and, Bool.and_self, Bool.and_false, look1, List.mem_singleton, exists_eq_left, zipN, setAll, Option.map_some, Option.map_none, mdJoin_bo, mdJoin_fr, mdJoin_sel, mdJoin_u, mdGet_bo, mdGet_fr, mdGet_sel, mdGet_u, lenO_bor, lenO_fr, strO_bor, strO_fr, f_is_integer_bor, f_is_integer_fr, f_is_count_bor, f_is_count_fr, f_is_name_bor, f_is_name_fr, f_want_size_bor, f_want_size_fr, f_Size_bor, f_Size_fr, f_Size_product_bor, f_Size_product_fr, f_Size_is_whole_bor, f_Size_is_whole_fr, f_Size_top_bor, f_Size_top_fr, f_Size_bottom_bor, f_Size_bottom_fr, f_Size_names_bor, f_Size_names_fr, f_Size_exponents_bor, f_Size_exponents_fr, f_Size_exponent_bor, f_Size_exponent_fr, f_Size_over_bor, f_Size_over_fr, f_Size_power_bor, f_Size_power_fr, f_Size_mul_bor, f_Size_mul_fr, f_Size_contains_bor, f_Size_contains_fr, f_Size_len_bor, f_Size_len_fr, f_Size_eq_bor, f_Size_eq_fr, f_power_text_bor, f_power_text_fr, f_Size_str_bor, f_Size_str_fr, f__law_choice_bor, f__law_choice_fr, f__law_names_bor, f__law_names_fr, f__law_times_bor, f__law_times_fr, f__law_passed_bor, f__law_passed_fr, f__law_less_bor, f__law_less_fr, f__law_raised_bor, f__law_raised_fr, f__law_is_bor, f__law_is_fr, f__law_one_right_bor, f__law_one_right_fr, f__law_powers_right_bor, f__law_powers_right_fr, f__law_pair_right_bor, f__law_pair_right_fr, f__law_right_bor, f__law_right_fr]
  refine ⟨trivial, sel_sz, p_names g ⟨sel_sz, p_exponents g ⟨rfl, p_len g ⟨_, rfl, by omega, by omega, rfl, p_is_whole g ⟨.d, rfl, lcU_map (fun d => match d with | .str y => .int (val m y) | d => d) _ (fun y hy R S hR => ?_) ⟨by decide, ?_⟩⟩⟩⟩⟩⟩
  · obtain ⟨p, hp, rfl⟩ := List.mem_map.mp hy
    obtain ⟨q, hq, rfl⟩ := List.mem_map.mp hp
    exact ⟨sel_sz, p_exponent g (hm.nm q hq) hR⟩
  · refine ⟨trivial, rfl, lcU_map (fun d => match d with | .int i => .bl (decide (0 < i)) | d => d) _ (fun y hy R S hR => ?_) ?_⟩
    · obtain ⟨p, hp, rfl⟩ := List.mem_map.mp hy
      obtain ⟨q, hq, rfl⟩ := List.mem_map.mp hp
      exact hR
    · refine all_i (bs := m.map fun p => decide (0 < p.2)) ?_ ⟨by decide, trivial, isi_at g kn_sz ?_⟩
      · unfold tD
        rw [List.map_map, List.map_map, List.map_map]
        rfl
      · refine repr_i (p := isPy m) ?_ (shw_is hm hs) (by decide) (by decide) (repr_i (p := isPy m) ?_ (shw_is hm hs) (by decide) (by decide) (eq_same ⟨id, h⟩))
        · refine py_lst (py_cons (py_names m) (py_cons (py_dic m) (py_cons rfl (py_cons rfl (py_cons ?_ rfl)))))
          rw [← py_vals m]
          unfold tD
          rw [List.map_map, List.map_map]
          refine congrArg (fun l => toPy (.lst l)) (List.map_congr_left fun q hq => ?_)
          show D.int (val m q.1) = .int q.2
          rw [val_mem hm.nd (x := q.1) (v := q.2) hq]
        · refine py_lst (py_cons ?_ (py_cons (py_dic m) (py_cons (by rw [et]; rfl) (py_cons ?_ (py_cons ?_ rfl)))))
          · rw [← py_names m]
            unfold tD
            rw [List.map_map]
            rfl
          · rw [List.all_map]
            rfl
          · rw [← py_vals m]
            unfold tD
            rw [List.map_map]
            rfl
end
end AS.K11

set_option Elab.async false
set_option linter.all false
set_option maxRecDepth 100000
set_option maxHeartbeats 4000000
set_option exponentiation.threshold 5000
/-! K11H: the plain meaning of the law's draws. -/
namespace AS.K11
open PySem PySem.Spec PyProof.Rows L2
section
variable {K : PySem.W.Frag} (g : GP K)
include g
theorem p_choice_str {z : Str} {P : D → Prop} {X : XD} (hz : z.length ≤ sizeLine) (h0 : 0 < z.length) (h : ∀ c ∈ z.cps.toList, P (.str ⟨#[c]⟩)) : u__law_choice K [.rng, .str z] P X := by
  have sl := sl_lt
  simp only [u__law_choice, dsOf, a__law_choice, uS, uE, uT, uA, uI, uG, uGs, uP, uO, uJ, uN, startD, argSl, endsU, rdy, AS.lkS, AS.lk1, lkM, lkA, lkT, lkI, lkR, pkOn, okL, okM, noPn, dl, Sl.dat, Sl.prv, Sl.own, isNew, nw, toSl, isOw, isOwL, ofV, nmG, nmGs, wipeD, isPath, isDicI, AGs.len, List.set, List.replicate, List.map, List.foldl, List.all_cons, List.all_nil, Fd.own, fl, sf, fldU, satU, setFD, putU, isDicD, isStrD, mdOwn, mdCls, isCst, fdIsi, fdLen, fdAll, fdAny, fdDict, fdList, fdSorted, fdDraw, fdRepr, opAdd_u, opSub, opMul_u, opMod, opFdiv, opPow, opLt, opLe, opGt, opGe, opI, opI0, intD, intD0, lenD, isD, opIdx_u, opEq_u, opNe_u, opIn_u, opNin_u, opIs, opIsNot, List.length_cons, List.length_nil, List.nil_append, List.append_nil, List.cons_append, Bool.not_true, Bool.not_false, Bool.true_and, Bool.and_true, Bool.false_and, Bool.and_self, Bool.and_false, look1, List.mem_singleton, exists_eq_left, zipN, setAll, Option.map_some, Option.map_none, mdJoin_bo, mdJoin_fr, mdJoin_sel, mdJoin_u, mdGet_bo, mdGet_fr, mdGet_sel, mdGet_u, lenO_bor, lenO_fr, strO_bor, strO_fr, f_is_integer_bor, f_is_integer_fr, f_is_count_bor, f_is_count_fr, f_is_name_bor, f_is_name_fr, f_want_size_bor, f_want_size_fr, f_Size_bor, f_Size_fr, f_Size_product_bor, f_Size_product_fr, f_Size_is_whole_bor, f_Size_is_whole_fr, f_Size_top_bor, f_Size_top_fr, f_Size_bottom_bor, f_Size_bottom_fr, f_Size_names_bor, f_Size_names_fr, f_Size_exponents_bor, f_Size_exponents_fr, f_Size_exponent_bor, f_Size_exponent_fr, f_Size_over_bor, f_Size_over_fr, f_Size_power_bor, f_Size_power_fr, f_Size_mul_bor, f_Size_mul_fr, f_Size_contains_bor, f_Size_contains_fr, f_Size_len_bor, f_Size_len_fr, f_Size_eq_bor, f_Size_eq_fr, f_power_text_bor, f_power_text_fr, f_Size_str_bor, f_Size_str_fr, f__law_choice_bor, f__law_choice_fr, f__law_names_bor, f__law_names_fr, f__law_times_bor, f__law_times_fr, f__law_passed_bor, f__law_passed_fr, f__law_less_bor, f__law_less_fr, f__law_raised_bor, f__law_raised_fr, f__law_is_bor, f__law_is_fr, f__law_one_right_bor, f__law_one_right_fr, f__law_powers_right_bor, f__law_powers_right_fr, f__law_pair_right_bor, f__law_pair_right_fr, f__law_right_bor, f__law_right_fr]
  refine ⟨trivial, trivial, hz, by omega, by omega, fun d d0 d1 => ?_⟩
  exact idx_ins hz d0 d1 fun c hc => ⟨id, h c hc⟩
theorem p_choice {ds : List D} {P : D → Prop} {X : XD} (hz : ds.length ≤ sizeLine) (h0 : 0 < ds.length) (h : ∀ c ∈ ds, P c) : u__law_choice K [.rng, .lst ds] P X := by
  have sl := sl_lt
  simp only [u__law_choice, dsOf, a__law_choice, uS, uE, uT, uA, uI, uG, uGs, uP, uO, uJ, uN, startD, argSl, endsU, rdy, AS.lkS, AS.lk1, lkM, lkA, lkT, lkI, lkR, pkOn, okL, okM, noPn, dl, Sl.dat, Sl.prv, Sl.own, isNew, nw, toSl, isOw, isOwL, ofV, nmG, nmGs, wipeD, isPath, isDicI, AGs.len, List.set, List.replicate, List.map, List.foldl, List.all_cons, List.all_nil, Fd.own, fl, sf, fldU, satU, setFD, putU, isDicD, isStrD, mdOwn, mdCls, isCst, fdIsi, fdLen, fdAll, fdAny, fdDict, fdList, fdSorted, fdDraw, fdRepr, opAdd_u, opSub, opMul_u, opMod, opFdiv, opPow, opLt, opLe, opGt, opGe, opI, opI0, intD, intD0, lenD, isD, opIdx_u, opEq_u, opNe_u, opIn_u, opNin_u, opIs, opIsNot, List.length_cons, List.length_nil, List.nil_append, List.append_nil, List.cons_append, Bool.not_true, Bool.not_false, Bool.true_and, Bool.and_true, Bool.false_and, Bool.and_self, Bool.and_false, look1, List.mem_singleton, exists_eq_left, zipN, setAll, Option.map_some, Option.map_none, mdJoin_bo, mdJoin_fr, mdJoin_sel, mdJoin_u, mdGet_bo, mdGet_fr, mdGet_sel, mdGet_u, lenO_bor, lenO_fr, strO_bor, strO_fr, f_is_integer_bor, f_is_integer_fr, f_is_count_bor, f_is_count_fr, f_is_name_bor, f_is_name_fr, f_want_size_bor, f_want_size_fr, f_Size_bor, f_Size_fr, f_Size_product_bor, f_Size_product_fr, f_Size_is_whole_bor, f_Size_is_whole_fr, f_Size_top_bor, f_Size_top_fr, f_Size_bottom_bor, f_Size_bottom_fr, f_Size_names_bor, f_Size_names_fr, f_Size_exponents_bor, f_Size_exponents_fr, f_Size_exponent_bor, f_Size_exponent_fr, f_Size_over_bor, f_Size_over_fr, f_Size_power_bor, f_Size_power_fr, f_Size_mul_bor, f_Size_mul_fr, f_Size_contains_bor, f_Size_contains_fr, f_Size_len_bor, f_Size_len_fr, f_Size_eq_bor, f_Size_eq_fr, f_power_text_bor, f_power_text_fr, f_Size_str_bor, f_Size_str_fr, f__law_choice_bor, f__law_choice_fr, f__law_names_bor, f__law_names_fr, f__law_times_bor, f__law_times_fr, f__law_passed_bor, f__law_passed_fr, f__law_less_bor, f__law_less_fr, f__law_raised_bor, f__law_raised_fr, f__law_is_bor, f__law_is_fr, f__law_one_right_bor, f__law_one_right_fr, f__law_powers_right_bor, f__law_powers_right_fr, f__law_pair_right_bor, f__law_pair_right_fr, f__law_right_bor, f__law_right_fr]
  refine ⟨trivial, trivial, by omega, by omega, fun d d0 d1 => ?_⟩
  exact idx_in d0 d1 fun c hc => ⟨id, h c hc⟩
end
/-- drawn names -/
structure Names (ns : List Str) : Prop where
  nd : ns.Nodup
  nm : ∀ x ∈ ns, nameB x = true
abbrev abc : Str := "abcdefghijklmnopqrstuvwxyz"
theorem abc_len : abc.cps.toList.length = 26 := by decide +kernel
theorem abc_nd : abc.cps.toList.Nodup := by decide +kernel
theorem one_name {zs : List Str} (h0 : 0 < zs.length) (h3 : zs.length ≤ 3) (h : ∀ z ∈ zs, ∃ c, z = (⟨#[c]⟩ : Str) ∧ c ∈ abc.cps.toList) : (Txt.join (Str.ofString "") zs).length = zs.length ∧ (∀ c ∈ (Txt.join (Str.ofString "") zs).cps.toList, c ∈ abc.cps.toList) := by
  have e := join_empty zs
  constructor
  · have : (Txt.join (Str.ofString "") zs).length = (Txt.join (Str.ofString "") zs).cps.toList.length := by simp [Str.length]
    rw [this, e]
    clear e h0 h3 this
    induction zs with
    | nil => rfl
    | cons z r ih =>
      obtain ⟨c, rfl, _⟩ := h z List.mem_cons_self
      rw [List.flatMap_cons, List.length_append, ih fun y hy => h y (List.mem_cons_of_mem _ hy), List.length_cons]
      show 1 + r.length = r.length + 1
      omega
  · intro c hc
    rw [e] at hc
    obtain ⟨z, hz, hc⟩ := List.mem_flatMap.mp hc
    obtain ⟨d, rfl, hd⟩ := h z hz
    have : c = d := by simpa using hc
    rw [this]
    exact hd
theorem nameB_i {x : Str} (h1 : 1 ≤ x.length) (h8 : x.length ≤ 8) (h : ∀ c ∈ x.cps.toList, c ∈ abc.cps.toList) : nameB x = true := by
  unfold nameB
  rw [decide_eq_true h1, decide_eq_true h8]
  simp only [Bool.true_and]
  exact List.all_eq_true.mpr fun c hc => decide_eq_true (h c hc)
/-- the name, or the name with one more letter -/
def spare (y : Str) : List Str := y :: abc.cps.toList.map fun c => y ++ (⟨#[c]⟩ : Str)
theorem spare_len (y : Str) : (spare y).length = 27 := by
  unfold spare
  rw [List.length_cons, List.length_map, abc_len]
theorem app_len (a b : Str) : (a ++ b).length = a.length + b.length := by
  show (a.cps ++ b.cps).size = _
  rw [Array.size_append]
  rfl
theorem spare_nd (y : Str) : (spare y).Nodup := by
  unfold spare
  rw [List.nodup_cons]
  constructor
  · intro h
    obtain ⟨c, _, e⟩ := List.mem_map.mp h
    have := congrArg Str.length e
    rw [app_len] at this
    have : y.length + 1 = y.length := this
    omega
  · unfold List.Nodup
    rw [List.pairwise_map]
    refine List.Pairwise.imp (fun {a b} hne e => hne ?_) abc_nd
    have e := congrArg (fun z : Str => z.cps.toList) e
    simp only [str_app_cps] at e
    have e := List.append_cancel_left e
    simpa using e
/-- one of them is new -/
theorem spare_new {ns : List Str} (y : Str) (h : ns.length < 27) : ((spare y).filter fun z => !decide (z ∈ ns)) ≠ [] := by
  intro e
  have sub : ∀ z ∈ spare y, z ∈ ns := fun z hz => by
    by_cases c : z ∈ ns
    · exact c
    · have : z ∈ (spare y).filter fun z => !decide (z ∈ ns) := List.mem_filter.mpr ⟨hz, by simp [c]⟩
      rw [e] at this
      cases this
  have := List.Nodup.length_le_of_subset (spare_nd y) sub
  rw [spare_len] at this
  omega
theorem spare_name {y z : Str} (h1 : 1 ≤ y.length) (h3 : y.length ≤ 3) (h : ∀ c ∈ y.cps.toList, c ∈ abc.cps.toList) (hz : z ∈ spare y) : nameB z = true := by
  unfold spare at hz
  rcases List.mem_cons.mp hz with rfl | hz
  · exact nameB_i h1 (by omega) h
  · obtain ⟨c, hc, rfl⟩ := List.mem_map.mp hz
    refine nameB_i (by rw [app_len]; omega) (by rw [app_len]; show y.length + 1 ≤ 8; omega) fun d hd => ?_
    rw [str_app_cps] at hd
    rcases List.mem_append.mp hd with hd | hd
    · exact h d hd
    · have : d = c := by simpa using hd
      rw [this]
      exact hc
theorem names_new {ns : List Str} (h : Names ns) {y : Str} (hn : nameB y = true) (hi : y ∉ ns) : Names (ns ++ [y]) := by
  refine ⟨?_, fun x hx => ?_⟩
  · rw [List.nodup_append]
    refine ⟨h.nd, by simp, fun a ha b hb e => ?_⟩
    rw [List.mem_singleton] at hb
    subst hb
    subst e
    exact hi ha
  · rcases List.mem_append.mp hx with hx | hx
    · exact h.nm x hx
    · rw [List.mem_singleton] at hx
      rw [hx]
      exact hn
theorem nameB_ok {x : Str} (h : nameB x = true) : PyData.strOk x = true := by
  unfold PyData.strOk
  rw [← Array.all_toList]
  refine List.all_eq_true.mpr fun c hc => decide_eq_true ?_
  unfold nameB at h
  obtain ⟨_, h⟩ := b2 h
  have q := of_decide_eq_true (List.all_eq_true.mp (b2 h).2 c hc)
  have z : ∀ c ∈ ("abcdefghijklmnopqrstuvwxyz" : Str).cps.toList, c < 0x110000 := by decide +kernel
  exact z c q
section
variable {K : PySem.W.Frag} (g : GP K)
include g
theorem p_names_law {n : Nat} {P : D → Prop} {X : XD} (hn : n ≤ 20) (h : ∀ ns : List Str, Names ns → ns.length = n → P (.lst (ns.map D.str))) : u__law_names K [.rng, .int n, .lst []] P X := by
  simp only [u__law_names, dsOf, a__law_names, c__law_names_1, f__law_choice, uS, uE, uT, uA, uI, uG, uGs, uP, uO, uJ, uN, startD, argSl, endsU, rdy, AS.lkS, AS.lk1, lkM, lkA, lkT, lkI, lkR, pkOn, okL, okM, noPn, dl, Sl.dat, Sl.prv, Sl.own, isNew, nw, toSl, isOw, isOwL, ofV, nmG, nmGs, wipeD, isPath, isDicI, AGs.len, List.set, List.replicate, List.map, List.foldl, List.all_cons, List.all_nil, Fd.own, fl, sf, fldU, satU, setFD, putU, isDicD, isStrD, mdOwn, mdCls, isCst, fdIsi, fdLen, fdAll, fdAny, fdDict, fdList, fdSorted, fdDraw, fdRepr, opAdd_u, opSub, opMul_u, opMod, opFdiv, opPow, opLt, opLe, opGt, opGe, opI, opI0, intD, intD0, lenD, isD, opIdx_u, opEq_u, opNe_u, opIn_u, opNin_u, opIs, opIsNot, List.length_cons, List.length_nil, List.nil_append, List.append_nil, List.cons_append, Bool.not_true, Bool.not_false, Bool.true_and, Bool.and_true, Bool.false_and, Bool.and_self, Bool.and_false, look1, List.mem_singleton, exists_eq_left, zipN, setAll, Option.map_some, Option.map_none, mdJoin_bo, mdJoin_fr, mdJoin_sel, mdJoin_u, mdGet_bo, mdGet_fr, mdGet_sel, mdGet_u, lenO_bor, lenO_fr, strO_bor, strO_fr, f_is_integer_bor, f_is_integer_fr, f_is_count_bor, f_is_count_fr, f_is_name_bor, f_is_name_fr, f_want_size_bor, f_want_size_fr, f_Size_bor, f_Size_fr, f_Size_product_bor, f_Size_product_fr, f_Size_is_whole_bor, f_Size_is_whole_fr, f_Size_top_bor, f_Size_top_fr, f_Size_bottom_bor, f_Size_bottom_fr, f_Size_names_bor, f_Size_names_fr, f_Size_exponents_bor, f_Size_exponents_fr, f_Size_exponent_bor, f_Size_exponent_fr, f_Size_over_bor, f_Size_over_fr, f_Size_power_bor, f_Size_power_fr, f_Size_mul_bor, f_Size_mul_fr, f_Size_contains_bor, f_Size_contains_fr, f_Size_len_bor, f_Size_len_fr, f_Size_eq_bor, f_Size_eq_fr, f_power_text_bor, f_power_text_fr, f_Size_str_bor, f_Size_str_fr, f__law_choice_bor, f__law_choice_fr, f__law_names_bor, f__law_names_fr, f__law_times_bor, f__law_times_fr, f__law_passed_bor, f__law_passed_fr, f__law_less_bor, f__law_less_fr, f__law_raised_bor, f__law_raised_fr, f__law_is_bor, f__law_is_fr, f__law_one_right_bor, f__law_one_right_fr, f__law_powers_right_bor, f__law_powers_right_fr, f__law_pair_right_bor, f__law_pair_right_fr, f__law_right_bor, f__law_right_fr]
  refine ⟨trivial, by decide, trivial, ?_, by omega, ?_⟩
  · have : (64 : Nat) ≤ sizeLine := by decide
    omega
  · refine forU_inv (fun xs δ => ∃ ns s4 s5 s6, xs.length + ns.length = n ∧ Names ns ∧ δ = [.sh .rng, .sh (.int n), .sh (.lst []), .ow (.lst (ns.map D.str)), s4, s5, s6, .un, .un]) ?_ ?_ _ _ ⟨[], _, _, _, ?_, ⟨List.nodup_nil, fun _ z => (nomatch z)⟩, rfl⟩
    · rintro x xs _ M ⟨ns, s4, s5, s6, e1, e2, rfl⟩ hM
      have big : (64 : Nat) ≤ sizeLine := by decide
      simp only [b__law_names_0, f__law_choice, uS, uE, uT, uA, uI, uG, uGs, uP, uO, uJ, uN, startD, argSl, endsU, rdy, AS.lkS, AS.lk1, lkM, lkA, lkT, lkI, lkR, pkOn, okL, okM, noPn, dl, Sl.dat, Sl.prv, Sl.own, isNew, nw, toSl, isOw, isOwL, ofV, nmG, nmGs, wipeD, isPath, isDicI, AGs.len, List.set, List.replicate, List.map, List.foldl, List.all_cons, List.all_nil, Fd.own, fl, sf, fldU, satU, setFD, putU, isDicD, isStrD, mdOwn, mdCls, isCst, fdIsi, fdLen, fdAll, fdAny, fdDict, fdList, fdSorted, fdDraw, fdRepr, opAdd_u, opSub, opMul_u, opMod, opFdiv, opPow, opLt, opLe, opGt, opGe, opI, opI0, intD, intD0, lenD, isD, opIdx_u, opEq_u, opNe_u, opIn_u, opNin_u, opIs, opIsNot, List.length_cons, List.length_nil, List.nil_append, List.append_nil, List.cons_append, Bool.not_true, Bool.not_false, Bool.true_and, Bool.and_true, Bool.false_and, Bool.and_self, Bool.and_false, look1, List.mem_singleton, exists_eq_left, zipN, setAll, Option.map_some, Option.map_none, mdJoin_bo, mdJoin_fr, mdJoin_sel, mdJoin_u, mdGet_bo, mdGet_fr, mdGet_sel, mdGet_u, lenO_bor, lenO_fr, strO_bor, strO_fr, f_is_integer_bor, f_is_integer_fr, f_is_count_bor, f_is_count_fr, f_is_name_bor, f_is_name_fr, f_want_size_bor, f_want_size_fr, f_Size_bor, f_Size_fr, f_Size_product_bor, f_Size_product_fr, f_Size_is_whole_bor, f_Size_is_whole_fr, f_Size_top_bor, f_Size_top_fr, f_Size_bottom_bor, f_Size_bottom_fr, f_Size_names_bor, f_Size_names_fr, f_Size_exponents_bor, f_Size_exponents_fr, f_Size_exponent_bor, f_Size_exponent_fr, f_Size_over_bor, f_Size_over_fr, f_Size_power_bor, f_Size_power_fr, f_Size_mul_bor, f_Size_mul_fr, f_Size_contains_bor, f_Size_contains_fr, f_Size_len_bor, f_Size_len_fr, f_Size_eq_bor, f_Size_eq_fr, f_power_text_bor, f_power_text_fr, f_Size_str_bor, f_Size_str_fr, f__law_choice_bor, f__law_choice_fr, f__law_names_bor, f__law_names_fr, f__law_times_bor, f__law_times_fr, f__law_passed_bor, f__law_passed_fr, f__law_less_bor, f__law_less_fr, f__law_raised_bor, f__law_raised_fr, f__law_is_bor, f__law_is_fr, f__law_one_right_bor, f__law_one_right_fr, f__law_powers_right_bor, f__law_powers_right_fr, f__law_pair_right_bor, f__law_pair_right_fr, f__law_right_bor, f__law_right_fr]
      refine ⟨trivial, by decide, by decide, fun d d0 d1 => ?_⟩
      refine ⟨by omega, by omega, rfl, lcU_good (fun _ y => ∃ z, y = .str z ∧ ∃ c, z = (⟨#[c]⟩ : Str) ∧ c ∈ abc.cps.toList) _ _ (fun x hx R S hR => ?_) fun ys hys => ?_⟩
      · exact p_choice_str g (z := abc) (by decide) (by decide) fun c hc => hR _ ⟨_, rfl, c, rfl, hc⟩
      obtain ⟨zs, rfl, hl, hz⟩ := paired_strs (p := fun z => ∃ c, z = (⟨#[c]⟩ : Str) ∧ c ∈ abc.cps.toList) (fun _ _ h => h) hys
      have hl : zs.length = (1 + d).toNat := by rw [hl]; unfold rangeD; rw [List.length_map, List.length_range]
      have hs := sum_ones (zs := zs) fun z hq => by obtain ⟨c, rfl, _⟩ := hz z hq; rfl
      obtain ⟨n1, n2⟩ := one_name (by omega) (by omega) hz
      refine join_i (by rw [hs]; show zs.length + zs.length * 0 ≤ _; omega) ?_
      generalize Txt.join (Str.ofString "") zs = y at n1 n2 ⊢
      refine ⟨by omega, .s, ?_⟩
      rw [walkD_s (z := abc) (by decide)]
      refine ⟨rfl, lcU_map (fun d => match d with | .str i => .str (y ++ i) | d => d) _ (fun x hx R S hR => ?_) ?_⟩
      · obtain ⟨c, hc, rfl⟩ := List.mem_map.mp hx
        refine ⟨?_, hR⟩
        show y.length + 1 ≤ sizeLine
        omega
      have ew : D.str y :: (abc.cps.toList.map fun c => D.str (⟨#[c]⟩ : Str)).map (fun d => match d with | .str i => .str (y ++ i) | d => d) = (spare y).map D.str := by
        unfold spare
        rw [List.map_map, List.map_cons, List.map_map]
        rfl
      refine ⟨?_, trivial, trivial, .l, rfl, ?_⟩
      · rw [List.length_map, List.length_map, abc_len]
        show 1 + 26 ≤ _
        omega
      · refine lcU_strs (fun z => !decide (z ∈ ns)) (spare y) ew (fun z hz R S h1 h2 => ?_) ?_
        · refine nin_strs ?_
          by_cases c : z ∈ ns
          · rw [decide_eq_true c]
            exact h2 (by simp [c])
          · rw [decide_eq_false c]
            refine nin_strs (ns := []) ?_
            exact h1 (by simp [c])
        · have hne := spare_new (ns := ns) y (by rw [List.length_cons] at e1; omega)
          cases ef : (spare y).filter fun z => !decide (z ∈ ns) with
          | nil => exact absurd ef hne
          | cons z r =>
            have hz : z ∈ (spare y).filter fun z => !decide (z ∈ ns) := by rw [ef]; exact List.mem_cons_self
            obtain ⟨hz1, hz2⟩ := List.mem_filter.mp hz
            rw [List.map_cons]
            have em : ns.map D.str ++ [D.str z] = (ns ++ [z]).map D.str := by rw [List.map_append]; rfl
            refine idx_0 ?_
            rw [em]
            refine ⟨?_, hM _ ⟨ns ++ [z], _, _, _, ?_, names_new e2 (spare_name (by omega) (by omega) n2 hz1) (by simpa using hz2), rfl⟩⟩
            · rw [List.length_cons] at e1
              rw [List.length_map]
              omega
            · rw [List.length_cons] at e1
              rw [List.length_append]
              show xs.length + (ns.length + 1) = n
              omega
    · rintro _ ⟨ns, s4, s5, s6, e1, e2, rfl⟩
      exact ⟨fun _ => trivial, h ns e2 (by simpa using e1)⟩
    · unfold rangeD
      rw [List.length_map, List.length_range]
      simp
/-- what is drawn as a size's exponents -/
structure Drawn (ns : List Str) (m : Tb) : Prop where
  nd : Nd m
  sub : ∀ q ∈ m, q.1 ∈ ns
  sm : ∀ q ∈ m, q.2.natAbs < 2 ^ 70
omit g in
theorem Drawn.put {ns : List Str} {m : Tb} (e : Drawn ns m) {y : Str} {v : Int} (hy : y ∈ ns) (hv : v.natAbs < 2 ^ 70) : Drawn ns (putT m y v) := by
  have hm : ∀ q ∈ putT m y v, q ∈ m ∨ q = (y, v) := fun q hq => by
    unfold putT at hq
    split at hq
    · obtain ⟨z, hz, rfl⟩ := List.mem_map.mp hq
      split
      · rename_i e
        right
        rw [← e]
      · exact .inl hz
    · rcases List.mem_append.mp hq with hq | hq
      · exact .inl hq
      · exact .inr (List.mem_singleton.mp hq)
  refine ⟨nd_putT e.nd y v, fun q hq => ?_, fun q hq => ?_⟩
  · rcases hm q hq with q1 | rfl
    · exact e.sub q q1
    · exact hy
  · rcases hm q hq with q1 | rfl
    · exact e.sm q q1
    · exact hv
theorem p_passed {ns : List Str} {P : D → Prop} {X : XD} (hn : Names ns) (hl : ns.length ≤ 10) (h : ∀ m, Drawn ns m → P (.dic (tD m))) : u__law_passed K [.rng, .lst (ns.map D.str)] P X := by
  have big : (64 : Nat) ≤ sizeLine := by decide
  simp only [u__law_passed, dsOf, a__law_passed, uS, uE, uT, uA, uI, uG, uGs, uP, uO, uJ, uN, startD, argSl, endsU, rdy, AS.lkS, AS.lk1, lkM, lkA, lkT, lkI, lkR, pkOn, okL, okM, noPn, dl, Sl.dat, Sl.prv, Sl.own, isNew, nw, toSl, isOw, isOwL, ofV, nmG, nmGs, wipeD, isPath, isDicI, AGs.len, List.set, List.replicate, List.map, List.foldl, List.all_cons, List.all_nil, Fd.own, fl, sf, fldU, satU, setFD, putU, isDicD, isStrD, mdOwn, mdCls, isCst, fdIsi, fdLen, fdAll, fdAny, fdDict, fdList, fdSorted, fdDraw, fdRepr, opAdd_u, opSub, opMul_u, opMod, opFdiv, opPow, opLt, opLe, opGt, opGe, opI, opI0, intD, intD0, lenD, isD, opIdx_u, opEq_u, opNe_u, opIn_u, opNin_u, opIs, opIsNot, List.length_cons, List.length_nil, List.nil_append, List.append_nil, List.cons_append, Bool.not_true, Bool.not_false, Bool.true_and, Bool.and_true, Bool.false_and, Bool.and_self, Bool.and_false, look1, List.mem_singleton, exists_eq_left, zipN, setAll, Option.map_some, Option.map_none, mdJoin_bo, mdJoin_fr, mdJoin_sel, mdJoin_u, mdGet_bo, mdGet_fr, mdGet_sel, mdGet_u, lenO_bor, lenO_fr, strO_bor, strO_fr, f_is_integer_bor, f_is_integer_fr, f_is_count_bor, f_is_count_fr, f_is_name_bor, f_is_name_fr, f_want_size_bor, f_want_size_fr, f_Size_bor, f_Size_fr, f_Size_product_bor, f_Size_product_fr, f_Size_is_whole_bor, f_Size_is_whole_fr, f_Size_top_bor, f_Size_top_fr, f_Size_bottom_bor, f_Size_bottom_fr, f_Size_names_bor, f_Size_names_fr, f_Size_exponents_bor, f_Size_exponents_fr, f_Size_exponent_bor, f_Size_exponent_fr, f_Size_over_bor, f_Size_over_fr, f_Size_power_bor, f_Size_power_fr, f_Size_mul_bor, f_Size_mul_fr, f_Size_contains_bor, f_Size_contains_fr, f_Size_len_bor, f_Size_len_fr, f_Size_eq_bor, f_Size_eq_fr, f_power_text_bor, f_power_text_fr, f_Size_str_bor, f_Size_str_fr, f__law_choice_bor, f__law_choice_fr, f__law_names_bor, f__law_names_fr, f__law_times_bor, f__law_times_fr, f__law_passed_bor, f__law_passed_fr, f__law_less_bor, f__law_less_fr, f__law_raised_bor, f__law_raised_fr, f__law_is_bor, f__law_is_fr, f__law_one_right_bor, f__law_one_right_fr, f__law_powers_right_bor, f__law_powers_right_fr, f__law_pair_right_bor, f__law_pair_right_fr, f__law_right_bor, f__law_right_fr]
  refine ⟨trivial, trivial, .l, ?_⟩
  refine forU_inv (fun xs δ => ∃ l m s3 s4, xs = l.map D.str ∧ (∀ x ∈ l, x ∈ ns) ∧ Drawn ns m ∧ m.length + l.length ≤ 10 ∧ δ = [.sh .rng, .sh (.lst (ns.map D.str)), .ow (.dic (tD m)), s3, s4]) ?_ ?_ _ _ ⟨ns.reverse, [], _, _, (List.map_reverse ..).symm, fun x hx => List.mem_reverse.mp hx, ⟨List.nodup_nil, fun _ z => (nomatch z), fun _ z => (nomatch z)⟩, by rw [List.length_reverse]; show 0 + _ ≤ _; omega, rfl⟩
  · rintro x xs _ M ⟨l, m, s3, s4, e1, e2, e3, e4, rfl⟩ hM
    cases l with
    | nil => cases e1
    | cons y l =>
      obtain ⟨rfl, rfl⟩ := List.cons.inj e1
      have et : (tD m).length = m.length := List.length_map ..
      have ey : (y :: l).length = l.length + 1 := rfl
      have e2' : ∀ x ∈ l, x ∈ ns := fun x hx => e2 x (List.mem_cons_of_mem _ hx)
      have put : ∀ v : Int, v.natAbs < 2 ^ 70 → Drawn ns (putT m y v) ∧ (putT m y v).length + l.length ≤ 10 := fun v hv => ⟨e3.put (e2 y List.mem_cons_self) hv, by have := putT_len m y v; omega⟩
      simp only [b__law_passed_0, uS, uE, uT, uA, uI, uG, uGs, uP, uO, uJ, uN, startD, argSl, endsU, rdy, AS.lkS, AS.lk1, lkM, lkA, lkT, lkI, lkR, pkOn, okL, okM, noPn, dl, Sl.dat, Sl.prv, Sl.own, isNew, nw, toSl, isOw, isOwL, ofV, nmG, nmGs, wipeD, isPath, isDicI, AGs.len, List.set, List.replicate, List.map, List.foldl, List.all_cons, List.all_nil, Fd.own, fl, sf, fldU, satU, setFD, putU, isDicD, isStrD, mdOwn, mdCls, isCst, fdIsi, fdLen, fdAll, fdAny, fdDict, fdList, fdSorted, fdDraw, fdRepr, opAdd_u, opSub, opMul_u, opMod, opFdiv, opPow, opLt, opLe, opGt, opGe, opI, opI0, intD, intD0, lenD, isD, opIdx_u, opEq_u, opNe_u, opIn_u, opNin_u, opIs, opIsNot, List.length_cons, List.length_nil, List.nil_append, List.append_nil, List.cons_append, Bool.not_true, Bool.not_false, Bool.true_and, Bool.and_true, Bool.false_and, Bool.and_self, Bool.and_false, look1, List.mem_singleton, exists_eq_left, zipN, setAll, Option.map_some, Option.map_none, mdJoin_bo, mdJoin_fr, mdJoin_sel, mdJoin_u, mdGet_bo, mdGet_fr, mdGet_sel, mdGet_u, lenO_bor, lenO_fr, strO_bor, strO_fr, f_is_integer_bor, f_is_integer_fr, f_is_count_bor, f_is_count_fr, f_is_name_bor, f_is_name_fr, f_want_size_bor, f_want_size_fr, f_Size_bor, f_Size_fr, f_Size_product_bor, f_Size_product_fr, f_Size_is_whole_bor, f_Size_is_whole_fr, f_Size_top_bor, f_Size_top_fr, f_Size_bottom_bor, f_Size_bottom_fr, f_Size_names_bor, f_Size_names_fr, f_Size_exponents_bor, f_Size_exponents_fr, f_Size_exponent_bor, f_Size_exponent_fr, f_Size_over_bor, f_Size_over_fr, f_Size_power_bor, f_Size_power_fr, f_Size_mul_bor, f_Size_mul_fr, f_Size_contains_bor, f_Size_contains_fr, f_Size_len_bor, f_Size_len_fr, f_Size_eq_bor, f_Size_eq_fr, f_power_text_bor, f_power_text_fr, f_Size_str_bor, f_Size_str_fr, f__law_choice_bor, f__law_choice_fr, f__law_names_bor, f__law_names_fr, f__law_times_bor, f__law_times_fr, f__law_passed_bor, f__law_passed_fr, f__law_less_bor, f__law_less_fr, f__law_raised_bor, f__law_raised_fr, f__law_is_bor, f__law_is_fr, f__law_one_right_bor, f__law_one_right_fr, f__law_powers_right_bor, f__law_powers_right_fr, f__law_pair_right_bor, f__law_pair_right_fr, f__law_right_bor, f__law_right_fr]
      refine ⟨by decide, by decide, fun d d0 d1 => ⟨trivial, ?_⟩⟩
      show (match decide (d < 5) with | true => _ | false => _)
      by_cases c : d < 5
      · rw [decide_eq_true c]
        refine ⟨trivial, by omega, idx_in d0 c fun v hv => ?_⟩
        have hv : ∃ i : Int, v = .int i ∧ i.natAbs < 2 ^ 70 := by
          simp only [List.mem_cons, List.not_mem_nil, or_false] at hv
          rcases hv with rfl | rfl | rfl | rfl | rfl <;> exact ⟨_, rfl, by decide⟩
        obtain ⟨i, rfl, hi⟩ := hv
        refine ⟨trivial, by omega, ?_⟩
        rw [putD_tD]
        exact hM _ ⟨l, _, _, _, rfl, e2', (put i hi).1, (put i hi).2, rfl⟩
      · rw [decide_eq_false c]
        refine ⟨trivial, ?_⟩
        show (match decide (d < 7) with | true => _ | false => _)
        by_cases c : d < 7
        · rw [decide_eq_true c]
          refine ⟨trivial, by decide, by decide, fun e q0 q1 => ⟨trivial, by omega, ?_⟩⟩
          rw [putD_tD]
          have p := put (e - 9) (by have : (20 : Nat) < 2 ^ 70 := by decide
                                    omega)
          exact hM _ ⟨l, _, _, _, rfl, e2', p.1, p.2, rfl⟩
        · rw [decide_eq_false c]
          exact hM _ ⟨l, m, _, _, rfl, e2', e3, by omega, rfl⟩
  · rintro _ ⟨l, m, s3, s4, e1, e2, e3, e4, rfl⟩
    have et : (tD m).length = m.length := List.length_map ..
    simp only [c__law_passed_2, c__law_passed_1, uS, uE, uT, uA, uI, uG, uGs, uP, uO, uJ, uN, startD, argSl, endsU, rdy, AS.lkS, AS.lk1, lkM, lkA, lkT, lkI, lkR, pkOn, okL, okM, noPn, dl, Sl.dat, Sl.prv, Sl.own, isNew, nw, toSl, isOw, isOwL, ofV, nmG, nmGs, wipeD, isPath, isDicI, AGs.len, List.set, List.replicate, List.map, List.foldl, List.all_cons, List.all_nil, Fd.own, fl, sf, fldU, satU, setFD, putU, isDicD, isStrD, mdOwn, mdCls, isCst, fdIsi, fdLen, fdAll, fdAny, fdDict, fdList, fdSorted, fdDraw, fdRepr, opAdd_u, opSub, opMul_u, opMod, opFdiv, opPow, opLt, opLe, opGt, opGe, opI, opI0, intD, intD0, lenD, isD, opIdx_u, opEq_u, opNe_u, opIn_u, opNin_u, opIs, opIsNot, List.length_cons, List.length_nil, List.nil_append, List.append_nil, List.cons_append, Bool.not_true, Bool.not_false, Bool.true_and, Bool.and_true, Bool.false_and, Bool.and_self, Bool.and_false, look1, List.mem_singleton, exists_eq_left, zipN, setAll, Option.map_some, Option.map_none, mdJoin_bo, mdJoin_fr, mdJoin_sel, mdJoin_u, mdGet_bo, mdGet_fr, mdGet_sel, mdGet_u, lenO_bor, lenO_fr, strO_bor, strO_fr, f_is_integer_bor, f_is_integer_fr, f_is_count_bor, f_is_count_fr, f_is_name_bor, f_is_name_fr, f_want_size_bor, f_want_size_fr, f_Size_bor, f_Size_fr, f_Size_product_bor, f_Size_product_fr, f_Size_is_whole_bor, f_Size_is_whole_fr, f_Size_top_bor, f_Size_top_fr, f_Size_bottom_bor, f_Size_bottom_fr, f_Size_names_bor, f_Size_names_fr, f_Size_exponents_bor, f_Size_exponents_fr, f_Size_exponent_bor, f_Size_exponent_fr, f_Size_over_bor, f_Size_over_fr, f_Size_power_bor, f_Size_power_fr, f_Size_mul_bor, f_Size_mul_fr, f_Size_contains_bor, f_Size_contains_fr, f_Size_len_bor, f_Size_len_fr, f_Size_eq_bor, f_Size_eq_fr, f_power_text_bor, f_power_text_fr, f_Size_str_bor, f_Size_str_fr, f__law_choice_bor, f__law_choice_fr, f__law_names_bor, f__law_names_fr, f__law_times_bor, f__law_times_fr, f__law_passed_bor, f__law_passed_fr, f__law_less_bor, f__law_less_fr, f__law_raised_bor, f__law_raised_fr, f__law_is_bor, f__law_is_fr, f__law_one_right_bor, f__law_one_right_fr, f__law_powers_right_bor, f__law_powers_right_fr, f__law_pair_right_bor, f__law_pair_right_fr, f__law_right_bor, f__law_right_fr]
    refine ⟨trivial, by omega, ?_⟩
    refine ne_nil (fun x hx => nameB_ok (hn.nm x hx)) ?_
    cases ns with
    | nil => exact ⟨fun _ => trivial, h m e3⟩
    | cons y r =>
      refine ⟨by decide, by decide, fun d d0 d1 => eq_int ?_⟩
      by_cases c : d = 0
      · rw [decide_eq_true c]
        refine ⟨trivial, ⟨by decide, by decide, by decide⟩, by decide, by decide, fun a a0 a1 => ⟨by decide, by decide, fun b b0 b1 => ⟨.inl ⟨by decide, by decide⟩, ?_⟩⟩⟩
        refine ⟨.inr ⟨by omega, by omega⟩, trivial, idx_0 ⟨by omega, fun _ => trivial, ?_⟩⟩
        rw [putD_tD]
        refine h _ (e3.put List.mem_cons_self ?_)
        have e : (10 : Int) ^ Int.toNat 20 = 100000000000000000000 := by decide
        have p : (2 : Nat) ^ 70 = 1180591620717411303424 := by decide
        rw [e, p]
        have hb : b = 0 ∨ b = 1 := by omega
        rcases hb with rfl | rfl <;> omega
      · rw [decide_eq_false c]
        exact ⟨fun _ => trivial, h m e3⟩
end
end AS.K11

set_option Elab.async false
set_option linter.all false
set_option maxRecDepth 100000
set_option maxHeartbeats 4000000
set_option exponentiation.threshold 5000
/-! K11I: the plain meaning of the law's checks. -/
namespace AS.K11
open PySem PySem.Spec PyProof.Rows L2
/-- a bound of all that is shown -/
abbrev BB : Nat := 2 ^ 200
theorem BB_sm {i : Int} (h : i.natAbs ≤ BB) : SmI i := smI_small (Nat.lt_of_le_of_lt h (by decide))
section
variable {ns : List Str} {B : Nat} {m : Tb}
theorem _root_.AS.Ov.good (hn : Names ns) (hl : ns.length ≤ 10) (h : Ov ns B m) : Good m := ⟨h.nd, fun p hp => hn.nm _ (h.sub _ (List.mem_map.mpr ⟨p, hp, rfl⟩)), by have := h.len; omega⟩
theorem _root_.AS.Ov.shown (h : Ov ns B m) (hb : B ≤ BB) : Sm m := fun q hq => BB_sm (by rw [← val_of_mem h.nd hq]; exact Nat.le_trans (h.bd _) hb)
theorem Drawn.ov (h : Drawn ns m) : Ov ns (2 ^ 70) m := ⟨h.nd, fun x hx => by
  obtain ⟨q, hq, rfl⟩ := List.mem_map.mp hx
  exact h.sub q hq, fun x => by
  by_cases c : x ∈ m.map (·.1)
  · obtain ⟨q, hq, rfl⟩ := List.mem_map.mp c
    rw [val_of_mem h.nd hq]
    exact Nat.le_of_lt (h.sm q hq)
  · rw [val_no c]
    exact Nat.zero_le _⟩
end
theorem nf_dict (K : PySem.W.Frag) (C : Addr) : PySem.W.notFirst K C (.type "dict") = true := by kernel_rfl
theorem nf_str (K : PySem.W.Frag) (C : Addr) : PySem.W.notFirst K C (.type "str") = true := by kernel_rfl
theorem nf_int (K : PySem.W.Frag) (C : Addr) : PySem.W.notFirst K C (.type "int") = true := by kernel_rfl
theorem nf_self (K : PySem.W.Frag) (C : Addr) : PySem.W.notFirst K C (.ref C) = true := by unfold PySem.W.notFirst; simp
section
variable {K : PySem.W.Frag}
abbrev xNe (K : PySem.W.Frag) : OpE := opNeO K (CS K) (f_Size_eq K) (f_Size_eq_fr K)
abbrev xEq (K : PySem.W.Frag) : OpE := opCmp K (CS K) (f_Size_eq K)
abbrev xIn (K : PySem.W.Frag) : OpE := opInO (CS K) (f_Size_contains K) (f_Size_contains_fr K)
abbrev xMul (K : PySem.W.Frag) : OpE := opBin (CS K) (f_Size_mul K)
theorem isC_sz {m : Tb} : isInsC (CS K) (szD K m) = true := by unfold szD isInsC; simp
theorem xu_own {o : Op} {ox : OpE} {x y : D} {P : D → Prop} {X : XD} (e : ox.sel x y = true) (h : ox.u x y P X) : opXU o ox x y P X := by
  unfold opXU
  rw [e]
  exact h
theorem xu_no {o : Op} {ox : OpE} {x y : D} {P : D → Prop} {X : XD} (e : ox.sel x y = false) (h : o.u x y P) : opXU o ox x y P X := by
  unfold opXU
  rw [e]
  exact h
theorem sel_self {m n : Tb} : (isInsC (CS K) (szD K m) && (match tyD (szD K n) with | some t => PySem.W.notFirst K (CS K) t | none => false)) = true := by
  rw [isC_sz]
  exact nf_self K (CS K)
theorem xne_str {a b : Str} {P : D → Prop} {X : XD} (h : P (.bl (!decide (a = b)))) : opXU (opNe K) (xNe K) (.str a) (.str b) P X := xu_no rfl h
theorem xne_same {a : Str} {P : D → Prop} {X : XD} (h : P (.bl false)) : opXU (opNe K) (xNe K) (.str a) (.str a) P X := xne_str (by rw [decide_eq_true rfl]; exact h)
theorem xne_names {ns : List Str} {P : D → Prop} {X : XD} (hn : Names ns) (h : P (.bl (!ns.isEmpty))) : opXU (opNe K) (xNe K) (.lst (ns.map D.str)) (.lst []) P X := xu_no rfl (ne_nil (fun x hx => nameB_ok (hn.nm x hx)) h)
theorem xin_dic {m : Tb} {x : Str} {P : D → Prop} {X : XD} (h : P (.bl (getT m x).isSome)) : opXU (opIn K) (xIn K) (.str x) (.dic (tD m)) P X := xu_no rfl (by
  show P (.bl (if false then _ else (getD (tD m) (.inr x)).isSome))
  rw [getD_tD, Option.isSome_map]
  exact h)
end
section
variable {K : PySem.W.Frag} (g : GP K)
include g
theorem xne_sz {m n : Tb} {P : D → Prop} {X : XD} (h : P (.bl (!sameT m n))) : opXU (opNe K) (xNe K) (szD K m) (szD K n) P X := xu_own (sel_self (m := m) (n := n)) ⟨g.ins, p_eq g ⟨_, rfl, h⟩⟩
theorem xne_self {m : Tb} {P : D → Prop} {X : XD} (hm : Nd m) (h : P (.bl false)) : opXU (opNe K) (xNe K) (szD K m) (szD K m) P X := xne_sz g (by
  have e : sameT m m = true := sameT_refl hm
  rw [e]
  exact h)
theorem xeq_sz {m n : Tb} {P : D → Prop} {X : XD} (h : P (.bl (sameT m n))) : opXU (opEq K) (xEq K) (szD K m) (szD K n) P X := xu_own (sel_self (m := m) (n := n)) ⟨g.ins, p_eq g h⟩
theorem xeq_self {m : Tb} {P : D → Prop} {X : XD} (hm : Nd m) (h : P (.bl true)) : opXU (opEq K) (xEq K) (szD K m) (szD K m) P X := xeq_sz g (by
  have e : sameT m m = true := sameT_refl hm
  rw [e]
  exact h)
theorem xeq_dic {m n : Tb} {P : D → Prop} {X : XD} (h : P (.bl false)) : opXU (opEq K) (xEq K) (szD K m) (.dic (tD n)) P X := xu_own (by
  show (isInsC (CS K) (szD K m) && PySem.W.notFirst K (CS K) (.type "dict")) = true
  rw [isC_sz, nf_dict]; rfl) ⟨trivial, p_eq_no g trivial rfl h⟩
theorem xeq_str {m : Tb} {z : Str} {P : D → Prop} {X : XD} (h : P (.bl false)) : opXU (opEq K) (xEq K) (szD K m) (.str z) P X := xu_own (by
  show (isInsC (CS K) (szD K m) && PySem.W.notFirst K (CS K) (.type "str")) = true
  rw [isC_sz, nf_str]; rfl) ⟨trivial, p_eq_no g trivial rfl h⟩
theorem xeq_int {m : Tb} {i : Int} {P : D → Prop} {X : XD} (h : P (.bl false)) : opXU (opEq K) (xEq K) (szD K m) (.int i) P X := xu_own (by
  show (isInsC (CS K) (szD K m) && PySem.W.notFirst K (CS K) (.type "int")) = true
  rw [isC_sz, nf_int]; rfl) ⟨trivial, p_eq_no g trivial rfl h⟩
theorem xin_sz {m : Tb} {x : Str} {P : D → Prop} {X : XD} (h : P (.bl (getT m x).isSome)) : opXU (opIn K) (xIn K) (.str x) (szD K m) P X := xu_own (isC_sz (m := m)) (p_contains g ⟨_, rfl, h⟩)
theorem xin_no {m : Tb} {d : D} {P : D → Prop} {X : XD} (k : Kn K d) (hs : isStrD d = false) (h : P (.bl false)) : opXU (opIn K) (xIn K) d (szD K m) P X := xu_own (isC_sz (m := m)) (p_contains_no g k hs ⟨_, rfl, h⟩)
theorem xmul_sz {m n : Tb} {P : D → Prop} {X : XD} (hl : m.length + n.length < 64) (hg : Good (prodT [m, n])) (h : P (szD K (norm (prodT [m, n])))) : opXU opMul (xMul K) (szD K m) (szD K n) P X := xu_own (by
  show (isInsC (CS K) (szD K m) && isInsC (CS K) (szD K n)) = true
  rw [isC_sz, isC_sz]; rfl) (p_mul g hl hg h)
theorem at_top {m : Tb} {P : D → Prop} {X : XD} (hm : Good m) (hn : Nrm m) (h : P (szD K (mapT (fun v => decide (0 < v)) id m))) : (atPropF (CS K) (f_Size_top K)).u (szD K m) P X :=
  ⟨rfl, p_top g hm (by rw [(nrm_mapT hn (fun v => decide (0 < v)) id fun v h _ => h).eq]; exact h)⟩
theorem at_bottom {m : Tb} {P : D → Prop} {X : XD} (hm : Good m) (hn : Nrm m) (h : P (szD K (mapT (fun v => decide (v < 0)) (fun v => -v) m))) : (atPropF (CS K) (f_Size_bottom K)).u (szD K m) P X :=
  ⟨rfl, p_bottom g hm (by rw [(nrm_mapT hn (fun v => decide (v < 0)) (fun v => -v) fun v h _ => by omega).eq]; exact h)⟩
theorem p_one_step {m : Tb} (sm : Sm m) (nd : Nd m) {x : Str} (hx : nameB x = true) {U : UEnds} {s0 s1 s2 s3 s4 s7 s8 s10 s11 s12 s13 s14 : Sl} (h : U.nx [s0, s1, s2, s3, s4, .sh (.str x), .sh (.dic (tD m)), s7, s8, .sh (szD K m), s10, s11, s12, s13, s14]) :
    uS (b__law_one_right_0 K) U [s0, s1, s2, s3, s4, .sh (.str x), .sh (.dic (tD m)), s7, s8, .sh (szD K m), s10, s11, s12, s13, s14] := by
  have sv : SmI (val m x) := by
    by_cases c : x ∈ m.map (·.1)
    · obtain ⟨q, hq, rfl⟩ := List.mem_map.mp c
      rw [val_of_mem nd hq]
      exact sm q hq
    · rw [val_no c]
      exact smI_small (by decide)
  have e2 : (0 + 1 + 1 : Nat) ≤ sizeLine := by decide
  have sh : Shw (.list [.bool (getT m x).isSome, .int (val m x)]) 1 ((2000 + 2) * 2 + 3) := Shw.list (n := 0) (B := 2000) fun d hd => by
    simp only [List.mem_cons, List.not_mem_nil, or_false] at hd
    rcases hd with rfl | rfl
    · exact Shw.bool _
    · exact Shw.int sv
  simp only [b__law_one_right_0, uS, uE, uT, uA, uI, uG, uGs, uP, uO, uJ, uN, startD, argSl, endsU, rdy, AS.lkS, AS.lk1, lkM, lkA, lkT, lkI, lkR, pkOn, okL, okM, noPn, dl, Sl.dat, Sl.prv, Sl.own, isNew, nw, toSl, isOw, isOwL, ofV, nmG, nmGs, wipeD, isPath, isDicI, AGs.len, List.set, List.replicate, List.map, List.foldl, List.all_cons, List.all_nil, Fd.own, fl, sf, fldU, satU, setFD, putU, isDicD, isStrD, mdOwn, mdCls, isCst, fdIsi, fdLen, fdAll, fdAny, fdDict, fdList, fdSorted, fdDraw, fdRepr, opAdd_u, opSub, opMul_u, opMod, opFdiv, opPow, opLt, opLe, opGt, opGe, opI, opI0, intD, intD0, lenD, isD, opIdx_u, opEq_u, opNe_u, opIn_u, opNin_u, opIs, opIsNot, List.length_cons, List.length_nil, List.nil_append, List.append_nil, List.cons_append, Bool.not_true, Bool.not_false, Bool.true_and, Bool.and_true, Bool.false_and, Bool.and_self, Bool.and_false, look1, List.mem_singleton, exists_eq_left, zipN, setAll, Option.map_some, Option.map_none, mdJoin_bo, mdJoin_fr, mdJoin_sel, mdJoin_u, mdGet_bo, mdGet_fr, mdGet_sel, mdGet_u, lenO_bor, lenO_fr, strO_bor, strO_fr, f_is_integer_bor, f_is_integer_fr, f_is_count_bor, f_is_count_fr, f_is_name_bor, f_is_name_fr, f_want_size_bor, f_want_size_fr, f_Size_bor, f_Size_fr, f_Size_product_bor, f_Size_product_fr, f_Size_is_whole_bor, f_Size_is_whole_fr, f_Size_top_bor, f_Size_top_fr, f_Size_bottom_bor, f_Size_bottom_fr, f_Size_names_bor, f_Size_names_fr, f_Size_exponents_bor, f_Size_exponents_fr, f_Size_exponent_bor, f_Size_exponent_fr, f_Size_over_bor, f_Size_over_fr, f_Size_power_bor, f_Size_power_fr, f_Size_mul_bor, f_Size_mul_fr, f_Size_contains_bor, f_Size_contains_fr, f_Size_len_bor, f_Size_len_fr, f_Size_eq_bor, f_Size_eq_fr, f_power_text_bor, f_power_text_fr, f_Size_str_bor, f_Size_str_fr, f__law_choice_bor, f__law_choice_fr, f__law_names_bor, f__law_names_fr, f__law_times_bor, f__law_times_fr, f__law_passed_bor, f__law_passed_fr, f__law_less_bor, f__law_less_fr, f__law_raised_bor, f__law_raised_fr, f__law_is_bor, f__law_is_fr, f__law_one_right_bor, f__law_one_right_fr, f__law_powers_right_bor, f__law_powers_right_fr, f__law_pair_right_bor, f__law_pair_right_fr, f__law_right_bor, f__law_right_fr]
  refine ⟨trivial, xin_sz g ⟨sel_sz, p_exponent g hx ⟨e2, repr_i (p := .list [.bool (getT m x).isSome, .int (val m x)]) rfl sh (by decide) (by decide) (xin_dic ⟨trivial, get_T ⟨e2, repr_i (p := .list [.bool (getT m x).isSome, .int (val m x)]) rfl sh (by decide) (by decide) (xne_same h)⟩⟩)⟩⟩⟩
theorem p_one_end {m : Tb} {s0 s1 s2 s3 s4 s5 s7 s8 s10 s11 s12 s14 : Sl} {ns : List Str} {B : Nat} {U : UEnds} (hn : Names ns) (hl : ns.length ≤ 10) (hm : Ov ns B m) (nm : Nrm m) (hb : B ≤ 2 ^ 70) (h : U.rt false (.bl true)) : uS (c__law_one_right_1 K) U [s0, s1, s2, s3, s4, s5, .sh (.dic (tD m)), s7, s8, .sh (szD K m), s10, s11, s12, .un, s14] := by
  have gm := hm.good hn hl
  have eb : (2 : Nat) ^ 70 ≤ BB := by decide
  have sm := hm.shown (Nat.le_trans hb eb)
  have no : ∀ x, nameB x = false → (getT m x).isSome = false := fun x hx => by
    cases e : getT m x with
    | none => rfl
    | some v =>
      have := gm.nm _ (getT_mem e)
      have : nameB x = true := this
      rw [hx] at this
      cases this
  have gT := hm.map (C := 2 ^ 70) (fun v => decide (0 < v)) id rfl fun v h => Nat.le_trans h hb
  have gU := hm.map (C := 2 ^ 70) (fun v => decide (v < 0)) (fun v => -v) rfl fun v h => by rw [Int.natAbs_neg]; exact Nat.le_trans h hb
  have gV : Ov ns (2 ^ 70) (negT (mapT (fun v => decide (v < 0)) (fun v => -v) m)) := (gU.map (C := 2 ^ 70) (fun _ => true) (fun v => -v) rfl fun v h => by rw [Int.natAbs_neg]; exact h).norm
  have gP := ov_sum (ns := ns) (B := 2 ^ 70) (ms := [mapT (fun v => decide (0 < v)) id m, negT (mapT (fun v => decide (v < 0)) (fun v => -v) m)]) fun z hz => by
    simp only [List.mem_cons, List.not_mem_nil, or_false] at hz
    rcases hz with rfl | rfl
    · exact gT
    · exact gV
  have eP : norm (prodT [mapT (fun v => decide (0 < v)) id m, negT (mapT (fun v => decide (v < 0)) (fun v => -v) m)]) = m := (nrm_norm gP.nd).ext nm fun x => by
    rw [val_norm, val_prodT (fun z hz => by
      simp only [List.mem_cons, List.not_mem_nil, or_false] at hz
      rcases hz with rfl | rfl
      · exact gT.nd
      · exact gV.nd)]
    simp only [List.map_cons, List.map_nil, List.sum_cons, List.sum_nil]
    unfold negT
    rw [val_norm, val_mapT (fun _ => true) (fun v => -v) gU.nd x rfl, val_mapT (fun v => decide (v < 0)) (fun v => -v) hm.nd x rfl, val_mapT (fun v => decide (0 < v)) id hm.nd x rfl]
    by_cases c1 : 0 < val m x
    · simp only [c1, decide_true, if_true, id]
      have c2 : ¬ val m x < 0 := by omega
      simp only [c2, decide_false, if_true]
      simp
    · by_cases c2 : val m x < 0
      · simp [c1, c2]
      · have : val m x = 0 := by omega
        simp [this]
  have l1 := gT.len
  have l2 := gU.len
  simp only [c__law_one_right_1, f__law_is, uS, uE, uT, uA, uI, uG, uGs, uP, uO, uJ, uN, startD, argSl, endsU, rdy, AS.lkS, AS.lk1, lkM, lkA, lkT, lkI, lkR, pkOn, okL, okM, noPn, dl, Sl.dat, Sl.prv, Sl.own, isNew, nw, toSl, isOw, isOwL, ofV, nmG, nmGs, wipeD, isPath, isDicI, AGs.len, List.set, List.replicate, List.map, List.foldl, List.all_cons, List.all_nil, Fd.own, fl, sf, fldU, satU, setFD, putU, isDicD, isStrD, mdOwn, mdCls, isCst, fdIsi, fdLen, fdAll, fdAny, fdDict, fdList, fdSorted, fdDraw, fdRepr, opAdd_u, opSub, opMul_u, opMod, opFdiv, opPow, opLt, opLe, opGt, opGe, opI, opI0, intD, intD0, lenD, isD, opIdx_u, opEq_u, opNe_u, opIn_u, opNin_u, opIs, opIsNot, List.length_cons, List.length_nil, List.nil_append, List.append_nil, List.cons_append, Bool.not_true, Bool.not_false, Bool.true_and, Bool.and_true, Bool.false_and, Bool.and_self, Bool.and_false, look1, List.mem_singleton, exists_eq_left, zipN, setAll, Option.map_some, Option.map_none, mdJoin_bo, mdJoin_fr, mdJoin_sel, mdJoin_u, mdGet_bo, mdGet_fr, mdGet_sel, mdGet_u, lenO_bor, lenO_fr, strO_bor, strO_fr, f_is_integer_bor, f_is_integer_fr, f_is_count_bor, f_is_count_fr, f_is_name_bor, f_is_name_fr, f_want_size_bor, f_want_size_fr, f_Size_bor, f_Size_fr, f_Size_product_bor, f_Size_product_fr, f_Size_is_whole_bor, f_Size_is_whole_fr, f_Size_top_bor, f_Size_top_fr, f_Size_bottom_bor, f_Size_bottom_fr, f_Size_names_bor, f_Size_names_fr, f_Size_exponents_bor, f_Size_exponents_fr, f_Size_exponent_bor, f_Size_exponent_fr, f_Size_over_bor, f_Size_over_fr, f_Size_power_bor, f_Size_power_fr, f_Size_mul_bor, f_Size_mul_fr, f_Size_contains_bor, f_Size_contains_fr, f_Size_len_bor, f_Size_len_fr, f_Size_eq_bor, f_Size_eq_fr, f_power_text_bor, f_power_text_fr, f_Size_str_bor, f_Size_str_fr, f__law_choice_bor, f__law_choice_fr, f__law_names_bor, f__law_names_fr, f__law_times_bor, f__law_times_fr, f__law_passed_bor, f__law_passed_fr, f__law_less_bor, f__law_less_fr, f__law_raised_bor, f__law_raised_fr, f__law_is_bor, f__law_is_fr, f__law_one_right_bor, f__law_one_right_fr, f__law_powers_right_bor, f__law_powers_right_fr, f__law_pair_right_bor, f__law_pair_right_fr, f__law_right_bor, f__law_right_fr]
  refine ⟨trivial, .l, Nat.zero_le _, Nat.zero_le _, by decide, by decide, rfl, lcU_map (fun _ => .bl false) _ (fun d hd R S hR => ?_) ?_⟩
  · show opXU (opIn K) (xIn K) d (szD K m) R _
    simp only [List.mem_cons, List.not_mem_nil, or_false] at hd
    rcases hd with rfl | rfl | rfl | rfl | rfl | rfl | rfl | rfl | rfl | rfl | rfl
    · exact xin_no g trivial rfl hR
    · exact xin_no g trivial rfl hR
    · exact xin_no g trivial rfl hR
    · exact xin_sz g (by rw [no _ (by decide +kernel)]; exact hR)
    · exact xin_sz g (by rw [no _ (by decide +kernel)]; exact hR)
    · exact xin_sz g (by rw [no _ (by decide +kernel)]; exact hR)
    · exact xin_no g trivial rfl hR
    · exact xin_no g trivial rfl hR
    · exact xin_no g trivial rfl hR
    · exact xin_no g trivial rfl hR
    · exact xin_no g kn_sz rfl hR
  · refine any_i (bs := List.replicate 11 false) rfl ?_
    refine ⟨trivial, p_is g gm sm (at_top g gm nm ⟨sel_sz, at_bottom g gm nm ?_⟩)⟩
    refine p_over g (gU.good hn hl) (by omega) (gP.good hn hl) ?_
    rw [eP]
    exact p_is g gm sm h
theorem p_one_tail {ns : List Str} {m kk : Tb} {U : UEnds} (hn : Names ns) (hl : ns.length ≤ 10) (hd : Drawn ns m) (hk : kk.length < 64) (h : U.rt false (.bl true)) : uS (c__law_one_right_2 K) U [.sh .rng, .sh (.lst (ns.map D.str)), .sh (.dic (tD m)), .un, .un, .un, .ow (.dic (tD (norm m))), .ow (.dic (tD kk)), .sh (.str (rpS (.dict (pyT m)))), .ow (szD K (norm m)), .ow (szD K (norm m)), .un, .un, .un, .un] := by
  have big : (64 : Nat) ≤ sizeLine := by decide
  have hm := hd.ov
  have gm := hm.good hn hl
  have eb : (2 : Nat) ^ 70 ≤ BB := by decide
  have sz1 : (4004 * 64 + 3 : Nat) ≤ sizeLine := by decide
  have ek : (tD kk).length = kk.length := List.length_map ..
  have hN := hm.norm
  have gN := hN.good hn hl
  have sN := hN.shown eb
  simp only [c__law_one_right_2, f__law_is, uS, uE, uT, uA, uI, uG, uGs, uP, uO, uJ, uN, startD, argSl, endsU, rdy, AS.lkS, AS.lk1, lkM, lkA, lkT, lkI, lkR, pkOn, okL, okM, noPn, dl, Sl.dat, Sl.prv, Sl.own, isNew, nw, toSl, isOw, isOwL, ofV, nmG, nmGs, wipeD, isPath, isDicI, AGs.len, List.set, List.replicate, List.map, List.foldl, List.all_cons, List.all_nil, Fd.own, fl, sf, fldU, satU, setFD, putU, isDicD, isStrD, mdOwn, mdCls, isCst, fdIsi, fdLen, fdAll, fdAny, fdDict, fdList, fdSorted, fdDraw, fdRepr, opAdd_u, opSub, opMul_u, opMod, opFdiv, opPow, opLt, opLe, opGt, opGe, opI, opI0, intD, intD0, lenD, isD, opIdx_u, opEq_u, opNe_u, opIn_u, opNin_u, opIs, opIsNot, List.length_cons, List.length_nil, List.nil_append, List.append_nil, List.cons_append, Bool.not_true, Bool.not_false, Bool.true_and, Bool.and_true, Bool.false_and, Bool.and_self, Bool.and_false, look1, List.mem_singleton, exists_eq_left, zipN, setAll, Option.map_some, Option.map_none, mdJoin_bo, mdJoin_fr, mdJoin_sel, mdJoin_u, mdGet_bo, mdGet_fr, mdGet_sel, mdGet_u, lenO_bor, lenO_fr, strO_bor, strO_fr, f_is_integer_bor, f_is_integer_fr, f_is_count_bor, f_is_count_fr, f_is_name_bor, f_is_name_fr, f_want_size_bor, f_want_size_fr, f_Size_bor, f_Size_fr, f_Size_product_bor, f_Size_product_fr, f_Size_is_whole_bor, f_Size_is_whole_fr, f_Size_top_bor, f_Size_top_fr, f_Size_bottom_bor, f_Size_bottom_fr, f_Size_names_bor, f_Size_names_fr, f_Size_exponents_bor, f_Size_exponents_fr, f_Size_exponent_bor, f_Size_exponent_fr, f_Size_over_bor, f_Size_over_fr, f_Size_power_bor, f_Size_power_fr, f_Size_mul_bor, f_Size_mul_fr, f_Size_contains_bor, f_Size_contains_fr, f_Size_len_bor, f_Size_len_fr, f_Size_eq_bor, f_Size_eq_fr, f_power_text_bor, f_power_text_fr, f_Size_str_bor, f_Size_str_fr, f__law_choice_bor, f__law_choice_fr, f__law_names_bor, f__law_names_fr, f__law_times_bor, f__law_times_fr, f__law_passed_bor, f__law_passed_fr, f__law_less_bor, f__law_less_fr, f__law_raised_bor, f__law_raised_fr, f__law_is_bor, f__law_is_fr, f__law_one_right_bor, f__law_one_right_fr, f__law_powers_right_bor, f__law_powers_right_fr, f__law_pair_right_bor, f__law_pair_right_fr, f__law_right_bor, f__law_right_fr]
  refine ⟨trivial, trivial, by omega, trivial, p_is g gN sN (p_is g gN sN (xne_self g hN.nd (repr_i (py_dic m) (shw_T gm (hm.shown eb)) (by decide) sz1 (xne_same ?_))))⟩
  refine ⟨trivial, rfl, lc_T (fun v => decide (0 < v)) id (fun x v hq R S h1 h2 => ⟨rfl, ?_⟩) (dict_T (nd_mapT hN.nd) ?_)⟩
  · show (match decide (0 < v) with | true => _ | false => S)
    cases e : decide (0 < v) with
    | true => exact ⟨by decide, h1 e⟩
    | false => exact h2 e
  refine ⟨trivial, rfl, lc_T (fun v => decide (v < 0)) (fun v => -v) (fun x v hq R S h1 h2 => ⟨rfl, ?_⟩) (dict_T (nd_mapT hN.nd) ?_)⟩
  · show (match decide (v < 0) with | true => _ | false => S)
    cases e : decide (v < 0) with
    | true => exact ⟨by decide, h1 e⟩
    | false => exact h2 e
  have nN := nrm_norm hm.nd
  have hT := hN.map (C := 2 ^ 70) (fun v => decide (0 < v)) id rfl fun v h => h
  have hU := hN.map (C := 2 ^ 70) (fun v => decide (v < 0)) (fun v => -v) rfl fun v h => by rw [Int.natAbs_neg]; exact h
  refine ⟨trivial, at_top g gN nN (p_is g (hT.good hn hl) (hT.shown eb) (at_bottom g gN nN (p_is g (hU.good hn hl) (hU.shown eb) ⟨trivial, sel_sz, p_exponents g ⟨sel_sz, p_names g ?_⟩⟩)))⟩
  have eN : (tD (norm m)).length = (norm m).length := List.length_map ..
  have lN := hN.len
  refine ⟨trivial, trivial, by omega, trivial, rfl, by rw [List.length_map]; omega, trivial, .l, by decide, ?_⟩
  refine ⟨by rw [List.length_map]; show _ + 2 ≤ _; omega, ?_⟩
  have ew : ns.map D.str ++ [D.str (Str.ofString "q"), D.str (Str.ofString "zzzzzzzz")] = (ns ++ [Str.ofString "q", Str.ofString "zzzzzzzz"]).map D.str := by rw [List.map_append]; rfl
  rw [ew]
  have fin : ∀ {s5}, uS (c__law_one_right_1 K) U [.sh .rng, .sh (.lst (ns.map D.str)), .sh (.dic (tD m)), .sh (.dic (tD (mapT (fun v => decide (0 < v)) id (norm m)))), .sh (.dic (tD (mapT (fun v => decide (v < 0)) (fun v => -v) (norm m)))), s5, .sh (.dic (tD (norm m))), .ow (.dic (putD (tD kk) (Sum.inr (Str.ofString "zz")) (D.int 1))), .sh (.str (rpS (.dict (pyT m)))), .sh (szD K (norm m)), .sh (szD K (norm m)), .ow (.dic (putD (tD (norm m)) (Sum.inr (Str.ofString "q")) (D.int 5))), .ow (.lst ((norm m).map (fun p => D.str p.1) ++ [D.str (Str.ofString "q")])), .un, .un] := fun {s5} => p_one_end g hn hl hN nN (Nat.le_refl _) h
  refine forU_inv (fun xs δ => ∃ l s5, xs = l.map D.str ∧ (∀ x ∈ l, nameB x = true) ∧ δ = [.sh .rng, .sh (.lst (ns.map D.str)), .sh (.dic (tD m)), .sh (.dic (tD (mapT (fun v => decide (0 < v)) id (norm m)))), .sh (.dic (tD (mapT (fun v => decide (v < 0)) (fun v => -v) (norm m)))), s5, .sh (.dic (tD (norm m))), .ow (.dic (putD (tD kk) (Sum.inr (Str.ofString "zz")) (D.int 1))), .sh (.str (rpS (.dict (pyT m)))), .sh (szD K (norm m)), .sh (szD K (norm m)), .ow (.dic (putD (tD (norm m)) (Sum.inr (Str.ofString "q")) (D.int 5))), .ow (.lst ((norm m).map (fun p => D.str p.1) ++ [D.str (Str.ofString "q")])), .un, .un]) ?_ ?_ _ _ ⟨ns ++ [Str.ofString "q", Str.ofString "zzzzzzzz"], _, rfl, fun x hx => ?_, rfl⟩
  · rintro x xs _ M ⟨l, s5, e1, e2, rfl⟩ hM
    cases l with
    | nil => cases e1
    | cons y l =>
      obtain ⟨rfl, rfl⟩ := List.cons.inj e1
      exact p_one_step g sN hN.nd (e2 y List.mem_cons_self) (hM _ ⟨l, _, rfl, fun z hz => e2 z (List.mem_cons_of_mem _ hz), rfl⟩)
  · rintro _ ⟨l, s5, e1, e2, rfl⟩
    exact fin
  · rcases List.mem_append.mp hx with hx | hx
    · exact hn.nm x hx
    · simp only [List.mem_cons, List.not_mem_nil, or_false] at hx
      rcases hx with rfl | rfl <;> decide +kernel
theorem p_one_right {ns : List Str} {m : Tb} {P : D → Prop} {X : XD} (hn : Names ns) (hl : ns.length ≤ 10) (hd : Drawn ns m) (h : P (.bl true)) : u__law_one_right K [.rng, .lst (ns.map D.str), .dic (tD m)] P X := by
  have hm := hd.ov
  have gm := hm.good hn hl
  have eb : (2 : Nat) ^ 70 ≤ BB := by decide
  have sz1 : (4004 * 64 + 3 : Nat) ≤ sizeLine := by decide
  simp only [u__law_one_right, dsOf, a__law_one_right, f__law_times, f__law_is, uS, uE, uT, uA, uI, uG, uGs, uP, uO, uJ, uN, startD, argSl, endsU, rdy, AS.lkS, AS.lk1, lkM, lkA, lkT, lkI, lkR, pkOn, okL, okM, noPn, dl, Sl.dat, Sl.prv, Sl.own, isNew, nw, toSl, isOw, isOwL, ofV, nmG, nmGs, wipeD, isPath, isDicI, AGs.len, List.set, List.replicate, List.map, List.foldl, List.all_cons, List.all_nil, Fd.own, fl, sf, fldU, satU, setFD, putU, isDicD, isStrD, mdOwn, mdCls, isCst, fdIsi, fdLen, fdAll, fdAny, fdDict, fdList, fdSorted, fdDraw, fdRepr, opAdd_u, opSub, opMul_u, opMod, opFdiv, opPow, opLt, opLe, opGt, opGe, opI, opI0, intD, intD0, lenD, isD, opIdx_u, opEq_u, opNe_u, opIn_u, opNin_u, opIs, opIsNot, List.length_cons, List.length_nil, List.nil_append, List.append_nil, List.cons_append, Bool.not_true, Bool.not_false, Bool.true_and, Bool.and_true, Bool.false_and, Bool.and_self, Bool.and_false, look1, List.mem_singleton, exists_eq_left, zipN, setAll, Option.map_some, Option.map_none, mdJoin_bo, mdJoin_fr, mdJoin_sel, mdJoin_u, mdGet_bo, mdGet_fr, mdGet_sel, mdGet_u, lenO_bor, lenO_fr, strO_bor, strO_fr, f_is_integer_bor, f_is_integer_fr, f_is_count_bor, f_is_count_fr, f_is_name_bor, f_is_name_fr, f_want_size_bor, f_want_size_fr, f_Size_bor, f_Size_fr, f_Size_product_bor, f_Size_product_fr, f_Size_is_whole_bor, f_Size_is_whole_fr, f_Size_top_bor, f_Size_top_fr, f_Size_bottom_bor, f_Size_bottom_fr, f_Size_names_bor, f_Size_names_fr, f_Size_exponents_bor, f_Size_exponents_fr, f_Size_exponent_bor, f_Size_exponent_fr, f_Size_over_bor, f_Size_over_fr, f_Size_power_bor, f_Size_power_fr, f_Size_mul_bor, f_Size_mul_fr, f_Size_contains_bor, f_Size_contains_fr, f_Size_len_bor, f_Size_len_fr, f_Size_eq_bor, f_Size_eq_fr, f_power_text_bor, f_power_text_fr, f_Size_str_bor, f_Size_str_fr, f__law_choice_bor, f__law_choice_fr, f__law_names_bor, f__law_names_fr, f__law_times_bor, f__law_times_fr, f__law_passed_bor, f__law_passed_fr, f__law_less_bor, f__law_less_fr, f__law_raised_bor, f__law_raised_fr, f__law_is_bor, f__law_is_fr, f__law_one_right_bor, f__law_one_right_fr, f__law_powers_right_bor, f__law_powers_right_fr, f__law_pair_right_bor, f__law_pair_right_fr, f__law_right_bor, f__law_right_fr]
  refine ⟨trivial, trivial, p_times g (n := []) hm.nd (by have := gm.ln; show m.length + 0 < 64; omega) ?_⟩
  have en : norm (addT m []) = norm m := rfl
  rw [en]
  rw [tD_items, ← List.map_reverse]
  refine dict_T hm.rev.nd (repr_i (py_dic m) (shw_T gm (hm.shown eb)) (by decide) sz1 ⟨trivial, p_Size g gm (p_Size g (hm.rev.good hn hl) ⟨by decide, trivial, Nat.zero_le _, xne_names hn ?_⟩)⟩)
  have er : norm m.reverse = norm m := norm_ext hm.rev.nd hm.nd (val_rev hm.nd)
  rw [er]
  have el : m.reverse.length = m.length := List.length_reverse
  have hlm := hm.len
  cases ns with
  | nil => exact p_one_tail g hn hl hd (by omega) ⟨id, h⟩
  | cons y r =>
    have ekk : (tD m.reverse).length = m.reverse.length := List.length_map ..
    refine ⟨trivial, rfl, idx_0 (get_T ⟨trivial, idx_0 ⟨?_, ?_⟩⟩)⟩
    · omega
    rw [putD_tD]
    refine p_one_tail g hn hl hd ?_ ⟨id, h⟩
    have := putT_len m.reverse y (val m.reverse y + 3)
    omega
end
end AS.K11

set_option Elab.async false
set_option linter.all false
set_option maxRecDepth 100000
set_option maxHeartbeats 4000000
set_option exponentiation.threshold 5000
/-! K11J: the plain meaning of powers and texts. -/
namespace AS.K11
open PySem PySem.Spec PyProof.Rows L2
/-- the i-th power of a table -/
def powT (i : Int) (m : Tb) : Tb := mapT (fun _ => decide (0 < i)) (fun v => v * i) m
theorem nrm_pow {m : Tb} (nm : Nrm m) (i : Int) : Nrm (powT i m) := nrm_mapT nm _ _ fun v h p => Int.mul_ne_zero h (by have := of_decide_eq_true p; omega)
theorem val_pow {m : Tb} (nd : Nd m) {i : Int} (hi : 0 ≤ i) (x : Str) : val (powT i m) x = val m x * i := by
  unfold powT
  rw [val_mapT (fun _ => decide (0 < i)) (fun v => v * i) nd x (Int.zero_mul i)]
  by_cases c : 0 < i
  · simp [c]
  · have : i = 0 := by omega
    simp [this]
theorem ov_pow {ns : List Str} {B C : Nat} {m : Tb} (hm : Ov ns B m) {i : Int} {k : Nat} (hi : i.natAbs ≤ k) (hc : B * k ≤ C) : Ov ns C (powT i m) := hm.map _ _ (Int.zero_mul i) fun v hv => by
  rw [Int.natAbs_mul]
  exact Nat.le_trans (Nat.mul_le_mul hv hi) hc
theorem pow_eq {m : Tb} (nm : Nrm m) {i : Int} (hi : 0 ≤ i) : norm (mapT (fun _ => true) (fun v => v * i) m) = powT i m := (nrm_norm (nd_mapT nm.nd)).ext (nrm_pow nm i) fun x => by
  rw [val_norm, val_pow nm.nd hi, val_mapT (fun _ => true) (fun v => v * i) nm.nd x (Int.zero_mul i)]
  simp
theorem strOk_of (z : String) : PyData.strOk (Str.ofString z) = true := by
  unfold PyData.strOk
  rw [Str.ofString_eq_toList]
  simp only [List.all_toArray, List.all_map]
  refine List.all_eq_true.mpr fun c _ => decide_eq_true ?_
  have := c.valid
  show c.val.toNat < 0x110000
  rcases this with h | h
  · have : c.val.toNat < 0xd800 := h
    omega
  · exact h.2
theorem strOk_app {a b : Str} (h : PyData.strOk a = true) (k : PyData.strOk b = true) : PyData.strOk (a ++ b) = true := by
  unfold PyData.strOk at h k ⊢
  show (a.cps ++ b.cps).all _ = true
  rw [Array.all_append, h, k]
  rfl
section
variable {K : PySem.W.Frag} (g : GP K)
include g
theorem q_power {ns : List Str} {B : Nat} {m : Tb} {i : Int} {P : D → Prop} {X : XD} (hn : Names ns) (hl : ns.length ≤ 10) (hm : Ov ns B m) (nm : Nrm m) (hi : 0 ≤ i) (hj : i ≤ 1000000) (h : P (szD K (powT i m))) : (f_Size_power K).u [szD K m, .int i] P X :=
  p_power g (hm.good hn hl) hi (by omega) (by rw [pow_eq nm hi]; exact h)
theorem p_powers_step {U : UEnds} {ns : List Str} {B : Nat} {m : Tb} {i : Int} (hn : Names ns) (hl : ns.length ≤ 10) (hm : Ov ns B m) (nm : Nrm m) (hb : B ≤ 2 ^ 80) (hi : 0 ≤ i) (hj : i ≤ 1000000) (h : U.nx [.sh .rng, .sh (szD K m), .sh (.dic (tD m)), .sh (.int i)]) : uS (b__law_powers_right_0 K) U [.sh .rng, .sh (szD K m), .sh (.dic (tD m)), .sh (.int i)] := by
  have o := ov_pow hm (i := i) (k := 1000000) (C := BB) (by omega) (Nat.le_trans (Nat.mul_le_mul_right _ hb) (by decide))
  simp only [b__law_powers_right_0, f__law_is, f__law_raised, uS, uE, uT, uA, uI, uG, uGs, uP, uO, uJ, uN, startD, argSl, endsU, rdy, AS.lkS, AS.lk1, lkM, lkA, lkT, lkI, lkR, pkOn, okL, okM, noPn, dl, Sl.dat, Sl.prv, Sl.own, isNew, nw, toSl, isOw, isOwL, ofV, nmG, nmGs, wipeD, isPath, isDicI, AGs.len, List.set, List.replicate, List.map, List.foldl, List.all_cons, List.all_nil, Fd.own, fl, sf, fldU, satU, setFD, putU, isDicD, isStrD, mdOwn, mdCls, isCst, fdIsi, fdLen, fdAll, fdAny, fdDict, fdList, fdSorted, fdDraw, fdRepr, opAdd_u, opSub, opMul_u, opMod, opFdiv, opPow, opLt, opLe, opGt, opGe, opI, opI0, intD, intD0, lenD, isD, opIdx_u, opEq_u, opNe_u, opIn_u, opNin_u, opIs, opIsNot, List.length_cons, List.length_nil, List.nil_append, List.append_nil, List.cons_append, Bool.not_true, Bool.not_false, Bool.true_and, Bool.and_true, Bool.false_and, Bool.and_self, Bool.and_false, look1, List.mem_singleton, exists_eq_left, zipN, setAll, Option.map_some, Option.map_none, mdJoin_bo, mdJoin_fr, mdJoin_sel, mdJoin_u, mdGet_bo, mdGet_fr, mdGet_sel, mdGet_u, lenO_bor, lenO_fr, strO_bor, strO_fr, f_is_integer_bor, f_is_integer_fr, f_is_count_bor, f_is_count_fr, f_is_name_bor, f_is_name_fr, f_want_size_bor, f_want_size_fr, f_Size_bor, f_Size_fr, f_Size_product_bor, f_Size_product_fr, f_Size_is_whole_bor, f_Size_is_whole_fr, f_Size_top_bor, f_Size_top_fr, f_Size_bottom_bor, f_Size_bottom_fr, f_Size_names_bor, f_Size_names_fr, f_Size_exponents_bor, f_Size_exponents_fr, f_Size_exponent_bor, f_Size_exponent_fr, f_Size_over_bor, f_Size_over_fr, f_Size_power_bor, f_Size_power_fr, f_Size_mul_bor, f_Size_mul_fr, f_Size_contains_bor, f_Size_contains_fr, f_Size_len_bor, f_Size_len_fr, f_Size_eq_bor, f_Size_eq_fr, f_power_text_bor, f_power_text_fr, f_Size_str_bor, f_Size_str_fr, f__law_choice_bor, f__law_choice_fr, f__law_names_bor, f__law_names_fr, f__law_times_bor, f__law_times_fr, f__law_passed_bor, f__law_passed_fr, f__law_less_bor, f__law_less_fr, f__law_raised_bor, f__law_raised_fr, f__law_is_bor, f__law_is_fr, f__law_one_right_bor, f__law_one_right_fr, f__law_powers_right_bor, f__law_powers_right_fr, f__law_pair_right_bor, f__law_pair_right_fr, f__law_right_bor, f__law_right_fr]
  exact ⟨trivial, sel_sz, q_power g hn hl hm nm hi hj (p_raised g hm.nd hi (by omega) (p_is g (o.good hn hl) (o.shown (Nat.le_refl _)) h))⟩
theorem p_powers {ns : List Str} {B : Nat} {m : Tb} {P : D → Prop} {X : XD} (hn : Names ns) (hl : ns.length ≤ 10) (hm : Ov ns B m) (nm : Nrm m) (hb : B ≤ 2 ^ 80) (h : P (.bl true)) : u__law_powers_right K [.rng, szD K m, .dic (tD m)] P X := by
  have lm := hm.len
  have gm := hm.good hn hl
  have fin : ∀ i, uS (c__law_powers_right_1 K) { nx := fun x => True ∧ P D.non, rt := fun b d => (false = true → b = true) ∧ P d, xn := fun x x_1 => X x_1 } [.sh .rng, .sh (szD K m), .sh (.dic (tD m)), .sh (.int i)] := fun i => by
    have e1 : powT 1 m = m := (nrm_pow nm 1).ext nm fun x => by rw [val_pow hm.nd (by decide)]; omega
    have e0 : powT 0 m = [] := (nrm_pow nm 0).ext nrm_nil fun x => by rw [val_pow hm.nd (by decide)]; show val m x * 0 = 0; omega
    have nd2 : ∀ z ∈ [m, m], Ov ns B z := fun z hz => by
      simp only [List.mem_cons, List.not_mem_nil, or_false] at hz
      rcases hz with rfl | rfl <;> exact hm
    have e2 : norm (prodT [m, m]) = powT 2 m := (nrm_norm (nd_prodT _)).ext (nrm_pow nm 2) fun x => by
      rw [val_norm, val_prodT fun z hz => (nd2 z hz).nd, val_pow hm.nd (by decide)]
      simp only [List.map_cons, List.map_nil, List.sum_cons, List.sum_nil]
      omega
    have gp := (ov_sum nd2).good hn hl
    simp only [c__law_powers_right_1, uS, uE, uT, uA, uI, uG, uGs, uP, uO, uJ, uN, startD, argSl, endsU, rdy, AS.lkS, AS.lk1, lkM, lkA, lkT, lkI, lkR, pkOn, okL, okM, noPn, dl, Sl.dat, Sl.prv, Sl.own, isNew, nw, toSl, isOw, isOwL, ofV, nmG, nmGs, wipeD, isPath, isDicI, AGs.len, List.set, List.replicate, List.map, List.foldl, List.all_cons, List.all_nil, Fd.own, fl, sf, fldU, satU, setFD, putU, isDicD, isStrD, mdOwn, mdCls, isCst, fdIsi, fdLen, fdAll, fdAny, fdDict, fdList, fdSorted, fdDraw, fdRepr, opAdd_u, opSub, opMul_u, opMod, opFdiv, opPow, opLt, opLe, opGt, opGe, opI, opI0, intD, intD0, lenD, isD, opIdx_u, opEq_u, opNe_u, opIn_u, opNin_u, opIs, opIsNot, List.length_cons, List.length_nil, List.nil_append, List.append_nil, List.cons_append, Bool.not_true, Bool.not_false, Bool.true_and, Bool.and_true, Bool.false_and, Bool.and_self, Bool.and_false, look1, List.mem_singleton, exists_eq_left, zipN, setAll, Option.map_some, Option.map_none, mdJoin_bo, mdJoin_fr, mdJoin_sel, mdJoin_u, mdGet_bo, mdGet_fr, mdGet_sel, mdGet_u, lenO_bor, lenO_fr, strO_bor, strO_fr, f_is_integer_bor, f_is_integer_fr, f_is_count_bor, f_is_count_fr, f_is_name_bor, f_is_name_fr, f_want_size_bor, f_want_size_fr, f_Size_bor, f_Size_fr, f_Size_product_bor, f_Size_product_fr, f_Size_is_whole_bor, f_Size_is_whole_fr, f_Size_top_bor, f_Size_top_fr, f_Size_bottom_bor, f_Size_bottom_fr, f_Size_names_bor, f_Size_names_fr, f_Size_exponents_bor, f_Size_exponents_fr, f_Size_exponent_bor, f_Size_exponent_fr, f_Size_over_bor, f_Size_over_fr, f_Size_power_bor, f_Size_power_fr, f_Size_mul_bor, f_Size_mul_fr, f_Size_contains_bor, f_Size_contains_fr, f_Size_len_bor, f_Size_len_fr, f_Size_eq_bor, f_Size_eq_fr, f_power_text_bor, f_power_text_fr, f_Size_str_bor, f_Size_str_fr, f__law_choice_bor, f__law_choice_fr, f__law_names_bor, f__law_names_fr, f__law_times_bor, f__law_times_fr, f__law_passed_bor, f__law_passed_fr, f__law_less_bor, f__law_less_fr, f__law_raised_bor, f__law_raised_fr, f__law_is_bor, f__law_is_fr, f__law_one_right_bor, f__law_one_right_fr, f__law_powers_right_bor, f__law_powers_right_fr, f__law_pair_right_bor, f__law_pair_right_fr, f__law_right_bor, f__law_right_fr]
    refine ⟨trivial, sel_sz, q_power g hn hl hm nm (by decide) (by decide) ?_⟩
    rw [e1]
    refine xeq_self g hm.nd ⟨sel_sz, q_power g hn hl hm nm (by decide) (by decide) ?_⟩
    rw [e0]
    refine p_Size0 g (xeq_self g List.nodup_nil ⟨sel_sz, q_power g hn hl hm nm (by decide) (by decide) (xmul_sz g (by omega) gp ?_)⟩)
    rw [e2]
    exact xeq_self g (nrm_pow nm 2).nd ⟨id, h⟩
  simp only [u__law_powers_right, dsOf, a__law_powers_right, f__law_choice, uS, uE, uT, uA, uI, uG, uGs, uP, uO, uJ, uN, startD, argSl, endsU, rdy, AS.lkS, AS.lk1, lkM, lkA, lkT, lkI, lkR, pkOn, okL, okM, noPn, dl, Sl.dat, Sl.prv, Sl.own, isNew, nw, toSl, isOw, isOwL, ofV, nmG, nmGs, wipeD, isPath, isDicI, AGs.len, List.set, List.replicate, List.map, List.foldl, List.all_cons, List.all_nil, Fd.own, fl, sf, fldU, satU, setFD, putU, isDicD, isStrD, mdOwn, mdCls, isCst, fdIsi, fdLen, fdAll, fdAny, fdDict, fdList, fdSorted, fdDraw, fdRepr, opAdd_u, opSub, opMul_u, opMod, opFdiv, opPow, opLt, opLe, opGt, opGe, opI, opI0, intD, intD0, lenD, isD, opIdx_u, opEq_u, opNe_u, opIn_u, opNin_u, opIs, opIsNot, List.length_cons, List.length_nil, List.nil_append, List.append_nil, List.cons_append, Bool.not_true, Bool.not_false, Bool.true_and, Bool.and_true, Bool.false_and, Bool.and_self, Bool.and_false, look1, List.mem_singleton, exists_eq_left, zipN, setAll, Option.map_some, Option.map_none, mdJoin_bo, mdJoin_fr, mdJoin_sel, mdJoin_u, mdGet_bo, mdGet_fr, mdGet_sel, mdGet_u, lenO_bor, lenO_fr, strO_bor, strO_fr, f_is_integer_bor, f_is_integer_fr, f_is_count_bor, f_is_count_fr, f_is_name_bor, f_is_name_fr, f_want_size_bor, f_want_size_fr, f_Size_bor, f_Size_fr, f_Size_product_bor, f_Size_product_fr, f_Size_is_whole_bor, f_Size_is_whole_fr, f_Size_top_bor, f_Size_top_fr, f_Size_bottom_bor, f_Size_bottom_fr, f_Size_names_bor, f_Size_names_fr, f_Size_exponents_bor, f_Size_exponents_fr, f_Size_exponent_bor, f_Size_exponent_fr, f_Size_over_bor, f_Size_over_fr, f_Size_power_bor, f_Size_power_fr, f_Size_mul_bor, f_Size_mul_fr, f_Size_contains_bor, f_Size_contains_fr, f_Size_len_bor, f_Size_len_fr, f_Size_eq_bor, f_Size_eq_fr, f_power_text_bor, f_power_text_fr, f_Size_str_bor, f_Size_str_fr, f__law_choice_bor, f__law_choice_fr, f__law_names_bor, f__law_names_fr, f__law_times_bor, f__law_times_fr, f__law_passed_bor, f__law_passed_fr, f__law_less_bor, f__law_less_fr, f__law_raised_bor, f__law_raised_fr, f__law_is_bor, f__law_is_fr, f__law_one_right_bor, f__law_one_right_fr, f__law_powers_right_bor, f__law_powers_right_fr, f__law_pair_right_bor, f__law_pair_right_fr, f__law_right_bor, f__law_right_fr]
  refine ⟨trivial, trivial, .l, ⟨by decide, by decide, by decide⟩, by decide, p_choice g (by decide) (by decide) fun c hc => ⟨by decide, ?_⟩⟩
  have hc : ∃ i : Int, c = .int i ∧ 0 ≤ i ∧ i ≤ 1000000 := by
    simp only [List.mem_cons, List.not_mem_nil, or_false] at hc
    rcases hc with rfl | rfl | rfl | rfl <;> exact ⟨_, rfl, by decide, by decide⟩
  obtain ⟨i, rfl, hi, hj⟩ := hc
  refine p_powers_step g hn hl hm nm hb (by decide) (by decide) (p_powers_step g hn hl hm nm hb (by decide) (by decide) (p_powers_step g hn hl hm nm hb (by decide) (by decide) (p_powers_step g hn hl hm nm hb (by decide) (by decide) (p_powers_step g hn hl hm nm hb hi hj (fin i)))))
theorem p_power_text {x : Str} {v : Int} {P : D → Prop} {X : XD} (hx : nameB x = true) (hv : SmI v) (h : ∀ z, PyData.strOk z = true → z.length ≤ 3000 → P (.str z)) : u_power_text K [.str x, .int v] P X := by
  have big : (10000 : Nat) ≤ sizeLine := by decide
  have hx8 := (nameB_8 hx).1
  have hv2 := int_text_len_1921 hv
  simp only [u_power_text, dsOf, a_power_text, uS, uE, uT, uA, uI, uG, uGs, uP, uO, uJ, uN, startD, argSl, endsU, rdy, AS.lkS, AS.lk1, lkM, lkA, lkT, lkI, lkR, pkOn, okL, okM, noPn, dl, Sl.dat, Sl.prv, Sl.own, isNew, nw, toSl, isOw, isOwL, ofV, nmG, nmGs, wipeD, isPath, isDicI, AGs.len, List.set, List.replicate, List.map, List.foldl, List.all_cons, List.all_nil, Fd.own, fl, sf, fldU, satU, setFD, putU, isDicD, isStrD, mdOwn, mdCls, isCst, fdIsi, fdLen, fdAll, fdAny, fdDict, fdList, fdSorted, fdDraw, fdRepr, opAdd_u, opSub, opMul_u, opMod, opFdiv, opPow, opLt, opLe, opGt, opGe, opI, opI0, intD, intD0, lenD, isD, opIdx_u, opEq_u, opNe_u, opIn_u, opNin_u, opIs, opIsNot, List.length_cons, List.length_nil, List.nil_append, List.append_nil, List.cons_append, Bool.not_true, Bool.not_false, Bool.true_and, Bool.and_true, Bool.false_and, Bool.and_self, Bool.and_false, look1, List.mem_singleton, exists_eq_left, zipN, setAll, Option.map_some, Option.map_none, mdJoin_bo, mdJoin_fr, mdJoin_sel, mdJoin_u, mdGet_bo, mdGet_fr, mdGet_sel, mdGet_u, lenO_bor, lenO_fr, strO_bor, strO_fr, f_is_integer_bor, f_is_integer_fr, f_is_count_bor, f_is_count_fr, f_is_name_bor, f_is_name_fr, f_want_size_bor, f_want_size_fr, f_Size_bor, f_Size_fr, f_Size_product_bor, f_Size_product_fr, f_Size_is_whole_bor, f_Size_is_whole_fr, f_Size_top_bor, f_Size_top_fr, f_Size_bottom_bor, f_Size_bottom_fr, f_Size_names_bor, f_Size_names_fr, f_Size_exponents_bor, f_Size_exponents_fr, f_Size_exponent_bor, f_Size_exponent_fr, f_Size_over_bor, f_Size_over_fr, f_Size_power_bor, f_Size_power_fr, f_Size_mul_bor, f_Size_mul_fr, f_Size_contains_bor, f_Size_contains_fr, f_Size_len_bor, f_Size_len_fr, f_Size_eq_bor, f_Size_eq_fr, f_power_text_bor, f_power_text_fr, f_Size_str_bor, f_Size_str_fr, f__law_choice_bor, f__law_choice_fr, f__law_names_bor, f__law_names_fr, f__law_times_bor, f__law_times_fr, f__law_passed_bor, f__law_passed_fr, f__law_less_bor, f__law_less_fr, f__law_raised_bor, f__law_raised_fr, f__law_is_bor, f__law_is_fr, f__law_one_right_bor, f__law_one_right_fr, f__law_powers_right_bor, f__law_powers_right_fr, f__law_pair_right_bor, f__law_pair_right_fr, f__law_right_bor, f__law_right_fr]
  refine ⟨trivial, trivial, eq_int ?_⟩
  by_cases c : v = 1
  · rw [decide_eq_true c]
    exact ⟨id, h x (nameB_ok hx) (by omega)⟩
  · rw [decide_eq_false c]
    have l0 : Str.empty.length = 0 := rfl
    have l1 : (Str.ofString "^").length = 1 := by decide
    have f1 : fmtD (.str x) = some x := if_pos (by omega)
    have f2 : fmtD (.int v) = some (Str.ofString (toString v)) := by
      have : v.natAbs.log2 < 1920 := hv
      exact if_pos this
    simp only [f1, f2]
    refine ⟨?_, ?_, ?_, id, h _ ?_ ?_⟩
    · rw [app_len]; omega
    · rw [app_len, app_len]; omega
    · rw [app_len, app_len, app_len]; omega
    · exact strOk_app (strOk_app (strOk_app (by decide +kernel) (nameB_ok hx)) (strOk_of _)) (strOk_of _)
    · rw [app_len, app_len, app_len]; omega
theorem p_str {ns : List Str} {B : Nat} {m : Tb} {P : D → Prop} {X : XD} (hn : Names ns) (hl : ns.length ≤ 10) (hm : Ov ns B m) (hb : B ≤ BB) (h : ∀ z, P (.str z)) : u_Size_str K [szD K m] P X := by
  have sm := hm.shown hb
  have gm := hm.good hn hl
  simp only [u_Size_str, dsOf, a_Size_str, f_power_text, szD, uS, uE, uT, uA, uI, uG, uGs, uP, uO, uJ, uN, startD, argSl, endsU, rdy, AS.lkS, AS.lk1, lkM, lkA, lkT, lkI, lkR, pkOn, okL, okM, noPn, dl, Sl.dat, Sl.prv, Sl.own, isNew, nw, toSl, isOw, isOwL, ofV, nmG, nmGs, wipeD, isPath, isDicI, AGs.len, List.set, List.replicate, List.map, List.foldl, List.all_cons, List.all_nil, Fd.own, fl, sf, fldU, satU, setFD, putU, isDicD, isStrD, mdOwn, mdCls, isCst, fdIsi, fdLen, fdAll, fdAny, fdDict, fdList, fdSorted, fdDraw, fdRepr, opAdd_u, opSub, opMul_u, opMod, opFdiv, opPow, opLt, opLe, opGt, opGe, opI, opI0, intD, intD0, lenD, isD, opIdx_u, opEq_u, opNe_u, opIn_u, opNin_u, opIs, opIsNot, List.length_cons, List.length_nil, List.nil_append, List.append_nil, List.cons_append, Bool.not_true, Bool.not_false, Bool.true_and, Bool.and_true, Bool.false_and, Bool.and_self, Bool.and_false, look1, List.mem_singleton, exists_eq_left, zipN, setAll, Option.map_some, Option.map_none, mdJoin_bo, mdJoin_fr, mdJoin_sel, mdJoin_u, mdGet_bo, mdGet_fr, mdGet_sel, mdGet_u, lenO_bor, lenO_fr, strO_bor, strO_fr, f_is_integer_bor, f_is_integer_fr, f_is_count_bor, f_is_count_fr, f_is_name_bor, f_is_name_fr, f_want_size_bor, f_want_size_fr, f_Size_bor, f_Size_fr, f_Size_product_bor, f_Size_product_fr, f_Size_is_whole_bor, f_Size_is_whole_fr, f_Size_top_bor, f_Size_top_fr, f_Size_bottom_bor, f_Size_bottom_fr, f_Size_names_bor, f_Size_names_fr, f_Size_exponents_bor, f_Size_exponents_fr, f_Size_exponent_bor, f_Size_exponent_fr, f_Size_over_bor, f_Size_over_fr, f_Size_power_bor, f_Size_power_fr, f_Size_mul_bor, f_Size_mul_fr, f_Size_contains_bor, f_Size_contains_fr, f_Size_len_bor, f_Size_len_fr, f_Size_eq_bor, f_Size_eq_fr, f_power_text_bor, f_power_text_fr, f_Size_str_bor, f_Size_str_fr, f__law_choice_bor, f__law_choice_fr, f__law_names_bor, f__law_names_fr, f__law_times_bor, f__law_times_fr, f__law_passed_bor, f__law_passed_fr, f__law_less_bor, f__law_less_fr, f__law_raised_bor, f__law_raised_fr, f__law_is_bor, f__law_is_fr, f__law_one_right_bor, f__law_one_right_fr, f__law_powers_right_bor, f__law_powers_right_fr, f__law_pair_right_bor, f__law_pair_right_fr, f__law_right_bor, f__law_right_fr]
  refine ⟨trivial, trivial, ⟨g.ins.cl, g.fld⟩, trivial, rfl, ?_⟩
  rw [tD_items]
  refine lcU_good (fun _ y => ∃ z, y = .str z ∧ PyData.strOk z = true ∧ z.length ≤ 3000) _ _ (fun x hx R S hR => ?_) fun ys hys => ?_
  · obtain ⟨q, hq, rfl⟩ := List.mem_map.mp hx
    exact ⟨rfl, p_power_text g (gm.nm q hq) (sm q hq) fun z h1 h2 => hR _ ⟨z, rfl, h1, h2⟩⟩
  · obtain ⟨zs, rfl, hl2, hz⟩ := paired_strs (p := fun z => PyData.strOk z = true ∧ z.length ≤ 3000) (fun _ _ h => h) hys
    have hl3 : zs.length < 64 := by rw [hl2, List.length_map]; exact gm.ln
    refine ⟨trivial, trivial, Nat.zero_le _, ne_nil (fun z h => (hz z h).1) ?_⟩
    cases zs with
    | nil => exact ⟨by decide, join_i (ys := [Str.ofString "1"]) (by decide) ⟨id, h _⟩⟩
    | cons w r =>
      refine join_i (ys := w :: r) ?_ ⟨id, h _⟩
      have s := sum_le (B := 3000) (ns := (w :: r).map (·.length)) fun n hn => by
        obtain ⟨t, ht, rfl⟩ := List.mem_map.mp hn
        exact (hz t ht).2
      rw [List.length_map] at s
      have : (Str.ofString "*").length = 1 := by decide
      rw [this]
      omega
end
end AS.K11

set_option Elab.async false
set_option linter.all false
set_option maxRecDepth 100000
set_option maxHeartbeats 4000000
set_option exponentiation.threshold 5000
/-! K11L: the plain meaning of pairs. -/
namespace AS.K11
open PySem PySem.Spec PyProof.Rows L2
/-- a product, by its values -/
theorem prod_eq {ns : List Str} {B : Nat} {ms : List Tb} {T : Tb} (h : ∀ m ∈ ms, Ov ns B m) (nT : Nrm T) (hv : ∀ x, (ms.map (val · x)).sum = val T x) : norm (prodT ms) = T := (nrm_norm (nd_prodT _)).ext nT fun x => by
  rw [val_norm, val_prodT fun z hz => (h z hz).nd, hv]
theorem ov2 {ns : List Str} {B C : Nat} {a b : Tb} (h : Ov ns B a) (k : Ov ns C b) : ∀ m ∈ [a, b], Ov ns (B + C) m := fun z hz => by
  simp only [List.mem_cons, List.not_mem_nil, or_false] at hz
  rcases hz with rfl | rfl
  · exact h.mono (Nat.le_add_right _ _)
  · exact k.mono (Nat.le_add_left _ _)
theorem sum2 (a b : Tb) (x : Str) : ([a, b].map (val · x)).sum = val a x + val b x := by
  simp only [List.map_cons, List.map_nil, List.sum_cons, List.sum_nil, Int.add_zero]
theorem told_i {b1 b2 b3 b4 : Bool} {P : D → Prop} (h : P (.str (rpS (.list [.bool b1, .bool b2, .bool b3, .bool b4])))) : reprD [.lst [.bl b1, .bl b2, .bl b3, .bl b4]] P := by
  have sh : Shw (.list [.bool b1, .bool b2, .bool b3, .bool b4]) 1 ((2000 + 2) * 4 + 3) := Shw.list (n := 0) (B := 2000) fun d hd => by
    simp only [List.mem_cons, List.not_mem_nil, or_false] at hd
    rcases hd with rfl | rfl | rfl | rfl <;> exact Shw.bool _
  exact repr_i (p := .list [.bool b1, .bool b2, .bool b3, .bool b4]) rfl sh (by decide) (by decide) h
/-- the sum, normal -/
def sumT (m n : Tb) : Tb := norm (addT m n)
theorem val_sum {m n : Tb} (hn : Nd n) (x : Str) : val (sumT m n) x = val m x + val n x := by unfold sumT; rw [val_norm, val_addT n m x hn]
theorem nrm_sum {m n : Tb} (hm : Nd m) : Nrm (sumT m n) := nrm_norm (nd_addT n m hm)
theorem _root_.AS.Ov.sum {ns : List Str} {B C : Nat} {m n : Tb} (h : Ov ns B m) (k : Ov ns C n) : Ov ns (B + C) (sumT m n) := (h.add k).norm
/-- the negative, as it stands -/
abbrev minT (n : Tb) : Tb := mapT (fun _ => true) (fun v => -v) n
theorem val_min {n : Tb} (hn : Nd n) (x : Str) : val (minT n) x = -val n x := by rw [val_mapT (fun _ => true) (fun v => -v) hn x rfl]; simp
theorem ov_min {ns : List Str} {B : Nat} {n : Tb} (h : Ov ns B n) : Ov ns B (minT n) := h.map _ _ rfl fun v hv => by rw [Int.natAbs_neg]; exact hv
theorem negT_eq (n : Tb) : negT n = norm (minT n) := rfl
section
variable {K : PySem.W.Frag}
theorem xeq_dd {m n : Tb} {P : D → Prop} {X : XD} (h : P (.bl (sameT m n))) : opXU (opEq K) (xEq K) (.dic (tD m)) (.dic (tD n)) P X := xu_no rfl ⟨flat_tD m, flat_tD n, h⟩
theorem xne_dd {m n : Tb} {P : D → Prop} {X : XD} (h : P (.bl (!sameT m n))) : opXU (opNe K) (xNe K) (.dic (tD m)) (.dic (tD n)) P X := xu_no rfl ⟨flat_tD m, flat_tD n, h⟩
end
section
variable {K : PySem.W.Frag} (g : GP K)
include g
theorem q_Size {m : Tb} {P : D → Prop} {X : XD} (gm : Good m) (nm : Nrm m) (h : P (szD K m)) : (f_Size K).u [.dic (tD m)] P X := p_Size g gm (by rw [nm.eq]; exact h)
/-- Size.product(..) -/
theorem q_product {ns : List Str} {B : Nat} {ms : List Tb} {T : Tb} {P : D → Prop} {X : XD} (hn : Names ns) (hl : ns.length ≤ 10) (hm : ∀ m ∈ ms, Ov ns B m) (hk : ms.length ≤ 5) (nT : Nrm T) (hv : ∀ x, (ms.map (val · x)).sum = val T x) (h : P (szD K T)) : (f_Size_product K).u (.cst (.ref (CS K)) :: ms.map (szD K)) P X := by
  have e5 : (5 : Nat) ≤ sizeLine := by decide
  refine ⟨by rw [List.length_cons]; omega, by rw [List.length_cons, List.length_map]; omega, ?_⟩
  refine p_product g (ms := ms) ?_ ((ov_sum hm).good hn hl) (by rw [prod_eq hm nT hv]; exact h)
  have s := sum_le (B := 10) (ns := ms.map List.length) fun n hn => by
    obtain ⟨t, ht, rfl⟩ := List.mem_map.mp hn
    have := (hm t ht).len
    omega
  rw [List.length_map] at s
  omega
theorem q_mul {ns : List Str} {B C : Nat} {m n T : Tb} {P : D → Prop} {X : XD} (hn : Names ns) (hl : ns.length ≤ 10) (hm : Ov ns B m) (hk : Ov ns C n) (nT : Nrm T) (hv : ∀ x, val m x + val n x = val T x) (h : P (szD K T)) : opXU opMul (xMul K) (szD K m) (szD K n) P X := by
  have l1 := hm.len
  have l2 := hk.len
  refine xmul_sz g (by omega) ((ov_sum (ov2 hm hk)).good hn hl) ?_
  rw [prod_eq (ov2 hm hk) nT fun x => by rw [sum2, hv]]
  exact h
theorem q_over {ns : List Str} {B C : Nat} {m n T : Tb} {P : D → Prop} {X : XD} (hn : Names ns) (hl : ns.length ≤ 10) (hm : Ov ns B m) (hk : Ov ns C n) (nT : Nrm T) (hv : ∀ x, val m x - val n x = val T x) (h : P (szD K T)) : (f_Size_over K).u [szD K m, szD K n] P X := by
  have l1 := hm.len
  have l2 := hk.len
  have o : Ov ns C (negT n) := (ov_min hk).norm
  refine p_over g (hk.good hn hl) (by omega) ((ov_sum (ov2 hm o)).good hn hl) ?_
  rw [prod_eq (ov2 hm o) nT fun x => by rw [sum2, negT_eq, val_norm, val_min hk.nd, ← hv]; omega]
  exact h
theorem q_times {ns : List Str} {B C : Nat} {m n : Tb} {P : D → Prop} {X : XD} (hl : ns.length ≤ 10) (hm : Ov ns B m) (hk : Ov ns C n) (h : P (.dic (tD (sumT m n)))) : u__law_times K [.dic (tD m), .dic (tD n)] P X := by
  have l1 := hm.len
  have l2 := hk.len
  exact p_times g hm.nd (by omega) h
theorem q_is {ns : List Str} {B : Nat} {m : Tb} {P : D → Prop} {X : XD} (hn : Names ns) (hl : ns.length ≤ 10) (hm : Ov ns B m) (hb : B ≤ BB) (h : P (.bl true)) : u__law_is K [szD K m, .dic (tD m)] P X := p_is g (hm.good hn hl) (hm.shown hb) h
theorem p_pair {ns : List Str} {B : Nat} {m n : Tb} {P : D → Prop} {X : XD} (hn : Names ns) (hl : ns.length ≤ 10) (hm : Ov ns B m) (nm : Nrm m) (hb : B ≤ 2 ^ 80) (hk : Ov ns B n) (nk : Nrm n) (h : P (.bl true)) : u__law_pair_right K [.rng, .dic (tD m), .dic (tD n)] P X := by
  have eb : ∀ k, k ≤ 16 → k * B ≤ BB := fun k hk => Nat.le_trans (Nat.mul_le_mul hk hb) (by decide)
  have gm := hm.good hn hl
  have gk := hk.good hn hl
  have hS := hm.sum hk
  have nS : Nrm (sumT m n) := nrm_sum hm.nd
  have hU := hm.sum (ov_min hk)
  have nU : Nrm (sumT m (minT n)) := nrm_sum hm.nd
  have b1 : B ≤ BB := by have := eb 1 (by decide); omega
  have b2 : B + B ≤ BB := by have := eb 2 (by decide); omega
  have b4 : B + B + (B + B) ≤ BB := by have := eb 4 (by decide); omega
  have vS : ∀ x, val m x + val n x = val (sumT m n) x := fun x => (val_sum hk.nd x).symm
  have vU : ∀ x, val m x - val n x = val (sumT m (minT n)) x := fun x => by rw [val_sum (ov_min hk).nd, val_min hk.nd]; omega
  have hW : Ov ns (B + B) (sumT (minT (sumT m (minT n))) []) := ((ov_min hU).sum (ov_nil (B := 0)))
  have nW : Nrm (sumT (minT (sumT m (minT n))) []) := nrm_sum (ov_min hU).nd
  have vW : ∀ x, val n x - val m x = val (sumT (minT (sumT m (minT n))) []) x := fun x => by
    rw [val_sum (n := []) List.nodup_nil, val_min hU.nd, ← vU]
    show _ = _ + (0 : Int)
    omega
  have fin : ∀ d, uS (c__law_pair_right_1 K) { nx := fun x => True ∧ P D.non, rt := fun b d => (false = true → b = true) ∧ P d, xn := fun x x_1 => X x_1 } [.sh .rng, .sh (.dic (tD m)), .sh (.dic (tD n)), d, .un, .sh (szD K m), .sh (szD K n), .sh (.dic (tD (sumT m n))), .ow (.dic (tD (sumT m (minT n))))] := fun d => by
    simp only [c__law_pair_right_1, f__law_is, f__law_times, f__law_less, f__law_powers_right, uS, uE, uT, uA, uI, uG, uGs, uP, uO, uJ, uN, startD, argSl, endsU, rdy, AS.lkS, AS.lk1, lkM, lkA, lkT, lkI, lkR, pkOn, okL, okM, noPn, dl, Sl.dat, Sl.prv, Sl.own, isNew, nw, toSl, isOw, isOwL, ofV, nmG, nmGs, wipeD, isPath, isDicI, AGs.len, List.set, List.replicate, List.map, List.foldl, List.all_cons, List.all_nil, Fd.own, fl, sf, fldU, satU, setFD, putU, isDicD, isStrD, mdOwn, mdCls, isCst, fdIsi, fdLen, fdAll, fdAny, fdDict, fdList, fdSorted, fdDraw, fdRepr, opAdd_u, opSub, opMul_u, opMod, opFdiv, opPow, opLt, opLe, opGt, opGe, opI, opI0, intD, intD0, lenD, isD, opIdx_u, opEq_u, opNe_u, opIn_u, opNin_u, opIs, opIsNot, List.length_cons, List.length_nil, List.nil_append, List.append_nil, List.cons_append, Bool.not_true, Bool.not_false, Bool.true_and, Bool.and_true, Bool.false_and, Bool.and_self, Bool.and_false, look1, List.mem_singleton, exists_eq_left, zipN, setAll, Option.map_some, Option.map_none, mdJoin_bo, mdJoin_fr, mdJoin_sel, mdJoin_u, mdGet_bo, mdGet_fr, mdGet_sel, mdGet_u, lenO_bor, lenO_fr, strO_bor, strO_fr, f_is_integer_bor, f_is_integer_fr, f_is_count_bor, f_is_count_fr, f_is_name_bor, f_is_name_fr, f_want_size_bor, f_want_size_fr, f_Size_bor, f_Size_fr, f_Size_product_bor, f_Size_product_fr, f_Size_is_whole_bor, f_Size_is_whole_fr, f_Size_top_bor, f_Size_top_fr, f_Size_bottom_bor, f_Size_bottom_fr, f_Size_names_bor, f_Size_names_fr, f_Size_exponents_bor, f_Size_exponents_fr, f_Size_exponent_bor, f_Size_exponent_fr, f_Size_over_bor, f_Size_over_fr, f_Size_power_bor, f_Size_power_fr, f_Size_mul_bor, f_Size_mul_fr, f_Size_contains_bor, f_Size_contains_fr, f_Size_len_bor, f_Size_len_fr, f_Size_eq_bor, f_Size_eq_fr, f_power_text_bor, f_power_text_fr, f_Size_str_bor, f_Size_str_fr, f__law_choice_bor, f__law_choice_fr, f__law_names_bor, f__law_names_fr, f__law_times_bor, f__law_times_fr, f__law_passed_bor, f__law_passed_fr, f__law_less_bor, f__law_less_fr, f__law_raised_bor, f__law_raised_fr, f__law_is_bor, f__law_is_fr, f__law_one_right_bor, f__law_one_right_fr, f__law_powers_right_bor, f__law_powers_right_fr, f__law_pair_right_bor, f__law_pair_right_fr, f__law_right_bor, f__law_right_fr]
    refine ⟨trivial, sel_sz, q_over g hn hl hm hk nU vU (q_is g hn hl hU b2 ⟨sel_sz, q_over g hn hl hk hm nW vW (p_less g hU.nd (q_times g (n := []) hl (ov_min hU) (ov_nil (B := 0)) (q_is g hn hl hW b2 ?_)))⟩)⟩
    refine ⟨trivial, sel_sz, q_over g hn hl hm hm nrm_nil (fun x => Int.sub_self _) (q_is g (m := []) hn hl (ov_nil (B := 0)) (Nat.zero_le _) ?_)⟩
    refine q_mul g hn hl hm hm (nrm_sum hm.nd) (fun x => (val_sum hm.nd x).symm) (q_times g hl hm hm (q_is g hn hl (hm.sum hm) b2 ?_))
    refine ⟨trivial, sel_sz, q_over g hn hl hm hk nU vU (q_mul g hn hl hU hk nm (fun x => by rw [← vU]; omega) (q_is g hn hl hm b1 ?_))⟩
    refine ⟨by decide, q_product g (ms := [m]) (B := B) hn hl (fun z hz => by rw [List.mem_singleton] at hz; rw [hz]; exact hm) (by show 1 ≤ 5; decide) nm (fun x => by simp only [List.map_cons, List.map_nil, List.sum_cons, List.sum_nil]; omega) (q_is g hn hl hm b1 ?_)⟩
    refine ⟨trivial, by decide, q_product g (ms := [m, n, m, n]) (B := B) hn hl (fun z hz => ?_) (by show 4 ≤ 5; decide) (nrm_sum hS.nd) (fun x => by rw [val_sum hS.nd, ← vS]; simp only [List.map_cons, List.map_nil, List.sum_cons, List.sum_nil]; omega) (q_times g hl hS hS (q_is g hn hl (hS.sum hS) b4 ⟨by decide, q_product g (ms := []) (B := B) (ns := ns) hn hl (fun z hz => (nomatch hz)) (by decide) nrm_nil (fun x => rfl) (q_is g (m := []) hn hl (ov_nil (B := 0)) (Nat.zero_le _) ?_)⟩))⟩
    · simp only [List.mem_cons, List.not_mem_nil, or_false] at hz
      rcases hz with rfl | rfl | rfl | rfl
      · exact hm
      · exact hk
      · exact hm
      · exact hk
    · have e4 : (0 + 1 + 1 + 1 + 1 : Nat) ≤ sizeLine := by decide
      refine xeq_sz g (xne_sz g (xeq_dic g ⟨isC_sz, p_str g hn hl hm b1 fun z => ⟨z, rfl, xeq_str g ⟨e4, trivial, told_i ?_⟩⟩⟩))
      refine xeq_dd (xne_dd ⟨e4, told_i (xne_same ?_)⟩)
      exact ⟨trivial, q_is g hn hl hm b1 (q_is g hn hl hk b1 (p_powers g hn hl hm nm hb ⟨id, h⟩))⟩
  have step : ∀ (M : List Sl → Prop) (s7 : Sl) d, (s7 = .ow (.dic (tD (sumT m n))) ∨ s7 = .sh (.dic (tD (sumT m n)))) → M [.sh .rng, .sh (.dic (tD m)), .sh (.dic (tD n)), .sh (szD K (sumT m n)), .un, .sh (szD K m), .sh (szD K n), .sh (.dic (tD (sumT m n))), .ow (.dic (tD (sumT m (minT n))))] → uS (b__law_pair_right_0 K) { nx := M, rt := fun b d => (false = true → b = true) ∧ P d, xn := fun x x_2 => X x_2, bk := uS (c__law_pair_right_1 K) { nx := fun x => True ∧ P D.non, rt := fun b d => (false = true → b = true) ∧ P d, xn := fun x x_1 => X x_1 }, ct := M } (List.set [.sh .rng, .sh (.dic (tD m)), .sh (.dic (tD n)), d, .un, .sh (szD K m), .sh (szD K n), s7, .ow (.dic (tD (sumT m (minT n))))] 3 (.sh (szD K (sumT m n)))) := fun M s7 d e hM => by
    rcases e with rfl | rfl <;> simp only [b__law_pair_right_0, f__law_is, uS, uE, uT, uA, uI, uG, uGs, uP, uO, uJ, uN, startD, argSl, endsU, rdy, AS.lkS, AS.lk1, lkM, lkA, lkT, lkI, lkR, pkOn, okL, okM, noPn, dl, Sl.dat, Sl.prv, Sl.own, isNew, nw, toSl, isOw, isOwL, ofV, nmG, nmGs, wipeD, isPath, isDicI, AGs.len, List.set, List.replicate, List.map, List.foldl, List.all_cons, List.all_nil, Fd.own, fl, sf, fldU, satU, setFD, putU, isDicD, isStrD, mdOwn, mdCls, isCst, fdIsi, fdLen, fdAll, fdAny, fdDict, fdList, fdSorted, fdDraw, fdRepr, opAdd_u, opSub, opMul_u, opMod, opFdiv, opPow, opLt, opLe, opGt, opGe, opI, opI0, intD, intD0, lenD, isD, opIdx_u, opEq_u, opNe_u, opIn_u, opNin_u, opIs, opIsNot, List.length_cons, List.length_nil, List.nil_append, List.append_nil, List.cons_append, Bool.not_true, Bool.not_false, Bool.true_and, Bool.and_true, Bool.false_and, Bool.and_self, Bool.and_false, look1, List.mem_singleton, exists_eq_left, zipN, setAll, Option.map_some, Option.map_none, mdJoin_bo, mdJoin_fr, mdJoin_sel, mdJoin_u, mdGet_bo, mdGet_fr, mdGet_sel, mdGet_u, lenO_bor, lenO_fr, strO_bor, strO_fr, f_is_integer_bor, f_is_integer_fr, f_is_count_bor, f_is_count_fr, f_is_name_bor, f_is_name_fr, f_want_size_bor, f_want_size_fr, f_Size_bor, f_Size_fr, f_Size_product_bor, f_Size_product_fr, f_Size_is_whole_bor, f_Size_is_whole_fr, f_Size_top_bor, f_Size_top_fr, f_Size_bottom_bor, f_Size_bottom_fr, f_Size_names_bor, f_Size_names_fr, f_Size_exponents_bor, f_Size_exponents_fr, f_Size_exponent_bor, f_Size_exponent_fr, f_Size_over_bor, f_Size_over_fr, f_Size_power_bor, f_Size_power_fr, f_Size_mul_bor, f_Size_mul_fr, f_Size_contains_bor, f_Size_contains_fr, f_Size_len_bor, f_Size_len_fr, f_Size_eq_bor, f_Size_eq_fr, f_power_text_bor, f_power_text_fr, f_Size_str_bor, f_Size_str_fr, f__law_choice_bor, f__law_choice_fr, f__law_names_bor, f__law_names_fr, f__law_times_bor, f__law_times_fr, f__law_passed_bor, f__law_passed_fr, f__law_less_bor, f__law_less_fr, f__law_raised_bor, f__law_raised_fr, f__law_is_bor, f__law_is_fr, f__law_one_right_bor, f__law_one_right_fr, f__law_powers_right_bor, f__law_powers_right_fr, f__law_pair_right_bor, f__law_pair_right_fr, f__law_right_bor, f__law_right_fr]
    · exact ⟨trivial, q_is g hn hl hS (by rw [← Nat.two_mul]; exact eb 2 (by decide)) hM⟩
    · exact ⟨trivial, q_is g hn hl hS (by rw [← Nat.two_mul]; exact eb 2 (by decide)) hM⟩
  simp only [u__law_pair_right, dsOf, a__law_pair_right, f__law_times, f__law_less, uS, uE, uT, uA, uI, uG, uGs, uP, uO, uJ, uN, startD, argSl, endsU, rdy, AS.lkS, AS.lk1, lkM, lkA, lkT, lkI, lkR, pkOn, okL, okM, noPn, dl, Sl.dat, Sl.prv, Sl.own, isNew, nw, toSl, isOw, isOwL, ofV, nmG, nmGs, wipeD, isPath, isDicI, AGs.len, List.set, List.replicate, List.map, List.foldl, List.all_cons, List.all_nil, Fd.own, fl, sf, fldU, satU, setFD, putU, isDicD, isStrD, mdOwn, mdCls, isCst, fdIsi, fdLen, fdAll, fdAny, fdDict, fdList, fdSorted, fdDraw, fdRepr, opAdd_u, opSub, opMul_u, opMod, opFdiv, opPow, opLt, opLe, opGt, opGe, opI, opI0, intD, intD0, lenD, isD, opIdx_u, opEq_u, opNe_u, opIn_u, opNin_u, opIs, opIsNot, List.length_cons, List.length_nil, List.nil_append, List.append_nil, List.cons_append, Bool.not_true, Bool.not_false, Bool.true_and, Bool.and_true, Bool.false_and, Bool.and_self, Bool.and_false, look1, List.mem_singleton, exists_eq_left, zipN, setAll, Option.map_some, Option.map_none, mdJoin_bo, mdJoin_fr, mdJoin_sel, mdJoin_u, mdGet_bo, mdGet_fr, mdGet_sel, mdGet_u, lenO_bor, lenO_fr, strO_bor, strO_fr, f_is_integer_bor, f_is_integer_fr, f_is_count_bor, f_is_count_fr, f_is_name_bor, f_is_name_fr, f_want_size_bor, f_want_size_fr, f_Size_bor, f_Size_fr, f_Size_product_bor, f_Size_product_fr, f_Size_is_whole_bor, f_Size_is_whole_fr, f_Size_top_bor, f_Size_top_fr, f_Size_bottom_bor, f_Size_bottom_fr, f_Size_names_bor, f_Size_names_fr, f_Size_exponents_bor, f_Size_exponents_fr, f_Size_exponent_bor, f_Size_exponent_fr, f_Size_over_bor, f_Size_over_fr, f_Size_power_bor, f_Size_power_fr, f_Size_mul_bor, f_Size_mul_fr, f_Size_contains_bor, f_Size_contains_fr, f_Size_len_bor, f_Size_len_fr, f_Size_eq_bor, f_Size_eq_fr, f_power_text_bor, f_power_text_fr, f_Size_str_bor, f_Size_str_fr, f__law_choice_bor, f__law_choice_fr, f__law_names_bor, f__law_names_fr, f__law_times_bor, f__law_times_fr, f__law_passed_bor, f__law_passed_fr, f__law_less_bor, f__law_less_fr, f__law_raised_bor, f__law_raised_fr, f__law_is_bor, f__law_is_fr, f__law_one_right_bor, f__law_one_right_fr, f__law_powers_right_bor, f__law_powers_right_fr, f__law_pair_right_bor, f__law_pair_right_fr, f__law_right_bor, f__law_right_fr]
  refine ⟨trivial, trivial, q_Size g gm nm (q_Size g gk nk ⟨trivial, q_times g hl hm hk (p_less g hk.nd (q_times g hl hm (ov_min hk) ⟨trivial, .l, ?_⟩))⟩)⟩
  refine q_mul g hn hl hm hk nS vS (q_mul g hn hl hk hm nS (fun x => by rw [Int.add_comm, vS]) ⟨by decide, q_product g (ms := [m, n]) hn hl (ov2 hm hk) (by show 2 ≤ 5; decide) nS (fun x => by rw [sum2, vS]) ⟨by decide, p_Size0 g (q_product g (ms := [n, [], m]) (B := B) hn hl (fun z hz => ?_) (by show 3 ≤ 5; decide) nS (fun x => ?_) ⟨by decide, ?_⟩)⟩⟩)
  · simp only [List.mem_cons, List.not_mem_nil, or_false] at hz
    rcases hz with rfl | rfl | rfl
    · exact hk
    · exact ov_nil
    · exact hm
  · have e0 : val [] x = 0 := rfl
    simp only [List.map_cons, List.map_nil, List.sum_cons, List.sum_nil, e0]
    rw [← vS]
    omega
  · exact step _ _ _ (.inl rfl) (step _ _ _ (.inr rfl) (step _ _ _ (.inr rfl) (step _ _ _ (.inr rfl) (fin _))))
theorem p_right_tail {ns : List Str} {a : Tb} {r : List Tb} {U : UEnds} (hn : Names ns) (hl : ns.length ≤ 10) (hr : r.length ≤ 5) (hd : ∀ m ∈ a :: r, Drawn ns m) (h : U.rt false (.bl true)) : uS (c__law_right_0 K) U [.sh .rng, .sh (.lst (ns.map D.str)), .ow (.lst ((a :: r).map fun m => .dic (tD m))), .un, .un, .un] := by
  have big : (64 : Nat) ≤ sizeLine := by decide
  have ov : ∀ m ∈ a :: r, Ov ns (2 ^ 70) (sumT m []) := fun m hm => (hd m hm).ov.sum (ov_nil (B := 0))
  have nr : ∀ m ∈ a :: r, Nrm (sumT m []) := fun m hm => nrm_sum (hd m hm).nd
  have eA : ((a :: r).map fun _ => true).all id = true := List.all_eq_true.mpr fun b hb => by
    obtain ⟨_, _, rfl⟩ := List.mem_map.mp hb
    rfl
  have el : ((a :: r).map (fun m => D.dic (tD (sumT m []))) ++ [D.dic []]) = ((a :: r).map (fun m => sumT m []) ++ [[]]).map fun m => D.dic (tD m) := by
    rw [List.map_append, List.map_map]
    rfl
  have eB : (((a :: r).map (fun m => sumT m []) ++ [[]]).map fun _ => true).all id = true := List.all_eq_true.mpr fun b hb => by
    obtain ⟨_, _, rfl⟩ := List.mem_map.mp hb
    rfl
  simp only [c__law_right_0, f__law_times, f__law_one_right, f__law_pair_right, uS, uE, uT, uA, uI, uG, uGs, uP, uO, uJ, uN, startD, argSl, endsU, rdy, AS.lkS, AS.lk1, lkM, lkA, lkT, lkI, lkR, pkOn, okL, okM, noPn, dl, Sl.dat, Sl.prv, Sl.own, isNew, nw, toSl, isOw, isOwL, ofV, nmG, nmGs, wipeD, isPath, isDicI, AGs.len, List.set, List.replicate, List.map, List.foldl, List.all_cons, List.all_nil, Fd.own, fl, sf, fldU, satU, setFD, putU, isDicD, isStrD, mdOwn, mdCls, isCst, fdIsi, fdLen, fdAll, fdAny, fdDict, fdList, fdSorted, fdDraw, fdRepr, opAdd_u, opSub, opMul_u, opMod, opFdiv, opPow, opLt, opLe, opGt, opGe, opI, opI0, intD, intD0, lenD, isD, opIdx_u, opEq_u, opNe_u, opIn_u, opNin_u, opIs, opIsNot, List.length_cons, List.length_nil, List.nil_append, List.append_nil, List.cons_append, Bool.not_true, Bool.not_false, Bool.true_and, Bool.and_true, Bool.false_and, Bool.and_self, Bool.and_false, look1, List.mem_singleton, exists_eq_left, zipN, setAll, Option.map_some, Option.map_none, mdJoin_bo, mdJoin_fr, mdJoin_sel, mdJoin_u, mdGet_bo, mdGet_fr, mdGet_sel, mdGet_u, lenO_bor, lenO_fr, strO_bor, strO_fr, f_is_integer_bor, f_is_integer_fr, f_is_count_bor, f_is_count_fr, f_is_name_bor, f_is_name_fr, f_want_size_bor, f_want_size_fr, f_Size_bor, f_Size_fr, f_Size_product_bor, f_Size_product_fr, f_Size_is_whole_bor, f_Size_is_whole_fr, f_Size_top_bor, f_Size_top_fr, f_Size_bottom_bor, f_Size_bottom_fr, f_Size_names_bor, f_Size_names_fr, f_Size_exponents_bor, f_Size_exponents_fr, f_Size_exponent_bor, f_Size_exponent_fr, f_Size_over_bor, f_Size_over_fr, f_Size_power_bor, f_Size_power_fr, f_Size_mul_bor, f_Size_mul_fr, f_Size_contains_bor, f_Size_contains_fr, f_Size_len_bor, f_Size_len_fr, f_Size_eq_bor, f_Size_eq_fr, f_power_text_bor, f_power_text_fr, f_Size_str_bor, f_Size_str_fr, f__law_choice_bor, f__law_choice_fr, f__law_names_bor, f__law_names_fr, f__law_times_bor, f__law_times_fr, f__law_passed_bor, f__law_passed_fr, f__law_less_bor, f__law_less_fr, f__law_raised_bor, f__law_raised_fr, f__law_is_bor, f__law_is_fr, f__law_one_right_bor, f__law_one_right_fr, f__law_powers_right_bor, f__law_powers_right_fr, f__law_pair_right_bor, f__law_pair_right_fr, f__law_right_bor, f__law_right_fr]
  refine ⟨.l, rfl, lcU_of (a :: r) (fun m => .dic (tD m)) (fun m => .dic (tD (sumT m []))) rfl (fun m hm R S hR => q_times g (n := []) hl (hd m hm).ov (ov_nil (B := 0)) hR) ⟨trivial, .l, rfl, lcU_of (a :: r) (fun m => .dic (tD m)) (fun _ => .bl true) rfl (fun m hm R S hR => p_one_right g hn hl (hd m hm) hR) ?_⟩⟩
  refine all_i (bs := (a :: r).map fun _ => true) (by rw [List.map_map]; rfl) ?_
  rw [eA]
  refine ⟨trivial, .l, by decide, by rw [List.length_map]; show r.length + 1 + 1 ≤ _; omega, rfl, ?_⟩
  refine lcU_of ((a :: r).map (fun m => sumT m []) ++ [[]]) (fun m => .dic (tD m)) (fun _ => .bl true) el (fun m hm R S hR => idx_0 ?_) ?_
  · have hm : Ov ns (2 ^ 70) m ∧ Nrm m := by
      rcases List.mem_append.mp hm with hm | hm
      · obtain ⟨z, hz, rfl⟩ := List.mem_map.mp hm
        exact ⟨ov z hz, nr z hz⟩
      · rw [List.mem_singleton] at hm
        subst hm
        exact ⟨ov_nil, nrm_nil⟩
    exact p_pair g hn hl (ov a List.mem_cons_self) (nr a List.mem_cons_self) (by decide) hm.1 hm.2 hR
  · refine all_i (bs := ((a :: r).map (fun m => sumT m []) ++ [[]]).map fun _ => true) (by rw [List.map_map]; rfl) ?_
    rw [eB]
    exact h
theorem p_right {P : D → Prop} {X : XD} (h : P (.bl true)) : u__law_right K [.rng] P X := by
  have big : (64 : Nat) ≤ sizeLine := by decide
  simp only [u__law_right, dsOf, a__law_right, f__law_names, f__law_passed, uS, uE, uT, uA, uI, uG, uGs, uP, uO, uJ, uN, startD, argSl, endsU, rdy, AS.lkS, AS.lk1, lkM, lkA, lkT, lkI, lkR, pkOn, okL, okM, noPn, dl, Sl.dat, Sl.prv, Sl.own, isNew, nw, toSl, isOw, isOwL, ofV, nmG, nmGs, wipeD, isPath, isDicI, AGs.len, List.set, List.replicate, List.map, List.foldl, List.all_cons, List.all_nil, Fd.own, fl, sf, fldU, satU, setFD, putU, isDicD, isStrD, mdOwn, mdCls, isCst, fdIsi, fdLen, fdAll, fdAny, fdDict, fdList, fdSorted, fdDraw, fdRepr, opAdd_u, opSub, opMul_u, opMod, opFdiv, opPow, opLt, opLe, opGt, opGe, opI, opI0, intD, intD0, lenD, isD, opIdx_u, opEq_u, opNe_u, opIn_u, opNin_u, opIs, opIsNot, List.length_cons, List.length_nil, List.nil_append, List.append_nil, List.cons_append, Bool.not_true, Bool.not_false, Bool.true_and, Bool.and_true, Bool.false_and, Bool.and_self, Bool.and_false, look1, List.mem_singleton, exists_eq_left, zipN, setAll, Option.map_some, Option.map_none, mdJoin_bo, mdJoin_fr, mdJoin_sel, mdJoin_u, mdGet_bo, mdGet_fr, mdGet_sel, mdGet_u, lenO_bor, lenO_fr, strO_bor, strO_fr, f_is_integer_bor, f_is_integer_fr, f_is_count_bor, f_is_count_fr, f_is_name_bor, f_is_name_fr, f_want_size_bor, f_want_size_fr, f_Size_bor, f_Size_fr, f_Size_product_bor, f_Size_product_fr, f_Size_is_whole_bor, f_Size_is_whole_fr, f_Size_top_bor, f_Size_top_fr, f_Size_bottom_bor, f_Size_bottom_fr, f_Size_names_bor, f_Size_names_fr, f_Size_exponents_bor, f_Size_exponents_fr, f_Size_exponent_bor, f_Size_exponent_fr, f_Size_over_bor, f_Size_over_fr, f_Size_power_bor, f_Size_power_fr, f_Size_mul_bor, f_Size_mul_fr, f_Size_contains_bor, f_Size_contains_fr, f_Size_len_bor, f_Size_len_fr, f_Size_eq_bor, f_Size_eq_fr, f_power_text_bor, f_power_text_fr, f_Size_str_bor, f_Size_str_fr, f__law_choice_bor, f__law_choice_fr, f__law_names_bor, f__law_names_fr, f__law_times_bor, f__law_times_fr, f__law_passed_bor, f__law_passed_fr, f__law_less_bor, f__law_less_fr, f__law_raised_bor, f__law_raised_fr, f__law_is_bor, f__law_is_fr, f__law_one_right_bor, f__law_one_right_fr, f__law_powers_right_bor, f__law_powers_right_fr, f__law_pair_right_bor, f__law_pair_right_fr, f__law_right_bor, f__law_right_fr]
  refine ⟨trivial, by decide, by decide, fun d d0 d1 => ⟨Nat.zero_le _, ?_⟩⟩
  obtain ⟨n, rfl⟩ : ∃ n : Nat, d = (n : Int) := ⟨d.toNat, by omega⟩
  refine p_names_law g (by omega) fun ns hn hl => ⟨trivial, by decide, by decide, rfl, ?_⟩
  have hl : ns.length ≤ 10 := by omega
  refine lcU_good (fun _ y => ∃ m : Tb, y = .dic (tD m) ∧ Drawn ns m) _ _ (fun x hx R S hR => p_passed g hn hl fun m hm => hR _ ⟨m, rfl, hm⟩) fun ys hys => ?_
  obtain ⟨ms, rfl, hk, hd⟩ := paired_of (f := fun m : Tb => D.dic (tD m)) (p := Drawn ns) (fun _ _ h => h) hys
  have hk : ms.length = 3 := hk
  match ms, hk, hd with
  | [a, b, c], _, hd =>
    refine ⟨trivial, by decide, by decide, fun d d0 d1 => eq_int ?_⟩
    by_cases e : d = 0
    · rw [decide_eq_true e]
      refine ⟨trivial, idx_0 ⟨trivial, ?_⟩⟩
      refine p_right_tail g (a := a) (r := [a, c]) hn hl (by show 2 ≤ 5; decide) (fun m hm => hd m ?_) ⟨id, h⟩
      simp only [List.mem_cons, List.not_mem_nil, or_false] at hm ⊢
      rcases hm with rfl | rfl | rfl <;> simp
    · rw [decide_eq_false e]
      exact p_right_tail g (a := a) (r := [b, c]) hn hl (by show 2 ≤ 5; decide) hd ⟨id, h⟩
end
end AS.K11

set_option Elab.async false
set_option linter.all false
set_option maxRecDepth 100000
set_option maxHeartbeats 4000000
/-! K11M: Size.of and law (printed by gen11.py M). -/
namespace AS.K11
open PySem PySem.Spec PyProof.Rows L2
def s_Size_of : Stmt := (inClass (top 28) 1)
abbrev N_Size_of : List Str := ["cls", "exponents"]
def a_Size_of (K : PySem.W.Frag) : AS := (.ret (.callV [(.ref (CS K), fdW (f_Size K))] 0 (.cons (.nm 1) .nil)))
def T_Size_of (K : PySem.W.Frag) : Tabs := { cv := [(.ref (CS K), (fdW (f_Size K)).sp)] }
theorem r_Size_of (K : PySem.W.Frag) (E : XK) : blkT (wp (oraOf K (T_Size_of K)) K N_Size_of 40 (ctxD (defScope s_Size_of) E)).S (defBody s_Size_of) = hS K (wD E) (a_Size_of K) := by kernel_rfl
def u_Size_of (K : PySem.W.Frag) : DSp := dsOf false false 2 2 (a_Size_of K)
abbrev k_of : List Str := ["b", "a", "c"]
def s_law : Stmt := (top 43)
abbrev N_law : List Str := ["_law_script", "_law_k"]
def a_law_0 (K : PySem.W.Frag) : AS := (.ifs (.orT (.nt (.tr (.call (f__law_is K) (.cons (.call (f_Size K) .nil) (.cons .dnew .nil))))) (.orT (.nt (.tr (.call (f__law_is K) (.cons (.call (f_Size K) (.cons .dnew .nil)) (.cons .dnew .nil))))) (.nt (.tr (.call (f__law_is K) (.cons (.call (f_Size K) (.cons (.cn .non) .nil)) (.cons .dnew .nil))))))) (.ret (.cn (.bl false))) .next)
def a_law_1 (K : PySem.W.Frag) : AS := (.ifs (.orT (.nt (.tr (.call (f__law_is K) (.cons (.methK (mdKw (CS K) k_of (u_Size_of K)) (.cn (.ref (CS K))) .nil (.cons (.cn (.int 2)) (.cons (.neg (.cn (.int 1))) (.cons (.cn (.int 0)) .nil)))) (.cons (.disp (.cons (.cn (.str "a")) (.neg (.cn (.int 1))) (.cons (.cn (.str "b")) (.cn (.int 2)) .nil))) .nil))))) (.orT (.tsX (opNe K) (opNeO K (CS K) (f_Size_eq K) (f_Size_eq_fr K)) (.meth (mdCls (CS K) (fdKw0 1 (u_Size_of K))) [] (.cn (.ref (CS K))) .nil) (.call (f_Size K) .nil)) (.tsX (opEq K) (opCmp K (CS K) (f_Size_eq K)) (.call (f_Size K) .nil) (.cn (.int 1))))) (.ret (.cn (.bl false))) .next)
def T_law (K : PySem.W.Frag) : Tabs := { glo := [("Size", (.ref (CS K)))], blt := ["range"], fn := [("_law_is", (f__law_is K).sp), ("Size", (f_Size K).sp), ("all", (fdAll K).sp), ("max", fdMax.sp), ("min", fdMin.sp), ("len", (fdLen K).sp), ("_law_right", (f__law_right K).sp), ("_law_rng", sp_rng K)], mt := [("of", mq (mdCls (CS K) (fdKw0 1 (u_Size_of K))))], mtK := [(("of", k_of), ((mdKw (CS K) k_of (u_Size_of K)).rc, (mdKw (CS K) k_of (u_Size_of K)).sp))], cmpX := [(.Eq, (opCmp K (CS K) (f_Size_eq K)).r), (.NotEq, (opNeO K (CS K) (f_Size_eq K) (f_Size_eq_fr K)).r)] }
theorem r_law (K : PySem.W.Frag) (E : XK) : blkT (wp (oraOf K (T_law K)) K N_law 40 (ctxD (defScope s_law) E)).S (defBody s_law) = (tSeq (hS K (wD E) (a_law_0 K)) (tSeq (hS K (wD E) (a_law_1 K)) (t_end K 4 (u__law_right K) E))) := by kernel_rfl
end AS.K11

set_option Elab.async false
set_option linter.all false
set_option maxRecDepth 100000
set_option maxHeartbeats 4000000
set_option exponentiation.threshold 5000
/-! K11N: the plain meaning of the law's own statements. -/
namespace AS.K11
open PySem PySem.Spec PyProof.Rows L2
/-- what is passed to Size.of, and the size -/
def ofA : Tb := [("b", 2), ("a", -1), ("c", 0)]
def ofB : Tb := [("a", -1), ("b", 2)]
theorem good_ofA : Good ofA := ⟨by unfold Nd; decide +kernel, by decide +kernel, by decide⟩
theorem good_ofB : Good ofB := ⟨by unfold Nd; decide +kernel, by decide +kernel, by decide⟩
theorem nrm_ofB : Nrm ofB := ⟨good_ofB.nd, norm_fix good_ofB.nd (by decide +kernel) (by decide +kernel)⟩
theorem of_eq : norm ofA = ofB := (nrm_norm good_ofA.nd).ext nrm_ofB fun x => by
  rw [val_norm]
  unfold ofA ofB
  simp only [val_cons]
  have e : val [] x = 0 := rfl
  rw [e]
  have n1 : ¬ ((Str.ofString "b") = (Str.ofString "a")) := by decide +kernel
  by_cases c1 : x = Str.ofString "b"
  · subst c1
    rw [if_pos rfl, if_neg n1, if_pos rfl]
  · rw [if_neg c1]
    by_cases c2 : x = Str.ofString "a"
    · rw [if_pos c2, if_pos c2]
    · rw [if_neg c2, if_neg c2, if_neg c1]
      split <;> rfl
section
variable {K : PySem.W.Frag} (g : GP K)
include g
theorem p_of {m : Tb} {P : D → Prop} {X : XD} (hm : Good m) (h : P (szD K (norm m))) : u_Size_of K [.cst (.ref (CS K)), .dic (tD m)] P X := by
  simp only [u_Size_of, dsOf, a_Size_of, uS, uE, uT, uA, uI, uG, uGs, uP, uO, uJ, uN, startD, argSl, endsU, rdy, AS.lkS, AS.lk1, lkM, lkA, lkT, lkI, lkR, pkOn, okL, okM, noPn, dl, Sl.dat, Sl.prv, Sl.own, isNew, nw, toSl, isOw, isOwL, ofV, nmG, nmGs, wipeD, isPath, isDicI, AGs.len, List.set, List.replicate, List.map, List.foldl, List.all_cons, List.all_nil, Fd.own, fl, sf, fldU, satU, setFD, putU, isDicD, isStrD, mdOwn, mdCls, isCst, fdIsi, fdLen, fdAll, fdAny, fdDict, fdList, fdSorted, fdDraw, fdRepr, opAdd_u, opSub, opMul_u, opMod, opFdiv, opPow, opLt, opLe, opGt, opGe, opI, opI0, intD, intD0, lenD, isD, opIdx_u, opEq_u, opNe_u, opIn_u, opNin_u, opIs, opIsNot, List.length_cons, List.length_nil, List.nil_append, List.append_nil, List.cons_append, Bool.not_true, Bool.not_false, Bool.true_and, Bool.and_true, Bool.false_and, Bool.and_self, Bool.and_false, look1, List.mem_singleton, exists_eq_left, zipN, setAll, Option.map_some, Option.map_none, mdJoin_bo, mdJoin_fr, mdJoin_sel, mdJoin_u, mdGet_bo, mdGet_fr, mdGet_sel, mdGet_u, lenO_bor, lenO_fr, strO_bor, strO_fr, f_is_integer_bor, f_is_integer_fr, f_is_count_bor, f_is_count_fr, f_is_name_bor, f_is_name_fr, f_want_size_bor, f_want_size_fr, f_Size_bor, f_Size_fr, f_Size_product_bor, f_Size_product_fr, f_Size_is_whole_bor, f_Size_is_whole_fr, f_Size_top_bor, f_Size_top_fr, f_Size_bottom_bor, f_Size_bottom_fr, f_Size_names_bor, f_Size_names_fr, f_Size_exponents_bor, f_Size_exponents_fr, f_Size_exponent_bor, f_Size_exponent_fr, f_Size_over_bor, f_Size_over_fr, f_Size_power_bor, f_Size_power_fr, f_Size_mul_bor, f_Size_mul_fr, f_Size_contains_bor, f_Size_contains_fr, f_Size_len_bor, f_Size_len_fr, f_Size_eq_bor, f_Size_eq_fr, f_power_text_bor, f_power_text_fr, f_Size_str_bor, f_Size_str_fr, f__law_choice_bor, f__law_choice_fr, f__law_names_bor, f__law_names_fr, f__law_times_bor, f__law_times_fr, f__law_passed_bor, f__law_passed_fr, f__law_less_bor, f__law_less_fr, f__law_raised_bor, f__law_raised_fr, f__law_is_bor, f__law_is_fr, f__law_one_right_bor, f__law_one_right_fr, f__law_powers_right_bor, f__law_powers_right_fr, f__law_pair_right_bor, f__law_pair_right_fr, f__law_right_bor, f__law_right_fr]
  refine ⟨trivial, trivial, ?_⟩
  have e : findD [(V.ref (CS K), fdW (f_Size K))] (V.ref (CS K)) = some (fdW (f_Size K)) := if_pos rfl
  rw [e]
  exact ⟨rfl, rfl, p_Size g hm ⟨id, h⟩⟩
theorem is_nil {P : D → Prop} {X : XD} (h : P (.bl true)) : u__law_is K [szD K [], .dic []] P X := p_is g (m := []) good_nil (fun _ z => nomatch z) h
theorem p_law0 {U : UEnds} {v : V} (h : ∀ z, U.nx [.sh (.cst v), z]) : uS (a_law_0 K) U [.sh (.cst v), .un] := by
  simp only [a_law_0, f__law_is, uS, uE, uT, uA, uI, uG, uGs, uP, uO, uJ, uN, startD, argSl, endsU, rdy, AS.lkS, AS.lk1, lkM, lkA, lkT, lkI, lkR, pkOn, okL, okM, noPn, dl, Sl.dat, Sl.prv, Sl.own, isNew, nw, toSl, isOw, isOwL, ofV, nmG, nmGs, wipeD, isPath, isDicI, AGs.len, List.set, List.replicate, List.map, List.foldl, List.all_cons, List.all_nil, Fd.own, fl, sf, fldU, satU, setFD, putU, isDicD, isStrD, mdOwn, mdCls, isCst, fdIsi, fdLen, fdAll, fdAny, fdDict, fdList, fdSorted, fdDraw, fdRepr, opAdd_u, opSub, opMul_u, opMod, opFdiv, opPow, opLt, opLe, opGt, opGe, opI, opI0, intD, intD0, lenD, isD, opIdx_u, opEq_u, opNe_u, opIn_u, opNin_u, opIs, opIsNot, List.length_cons, List.length_nil, List.nil_append, List.append_nil, List.cons_append, Bool.not_true, Bool.not_false, Bool.true_and, Bool.and_true, Bool.false_and, Bool.and_self, Bool.and_false, look1, List.mem_singleton, exists_eq_left, zipN, setAll, Option.map_some, Option.map_none, mdJoin_bo, mdJoin_fr, mdJoin_sel, mdJoin_u, mdGet_bo, mdGet_fr, mdGet_sel, mdGet_u, lenO_bor, lenO_fr, strO_bor, strO_fr, f_is_integer_bor, f_is_integer_fr, f_is_count_bor, f_is_count_fr, f_is_name_bor, f_is_name_fr, f_want_size_bor, f_want_size_fr, f_Size_bor, f_Size_fr, f_Size_product_bor, f_Size_product_fr, f_Size_is_whole_bor, f_Size_is_whole_fr, f_Size_top_bor, f_Size_top_fr, f_Size_bottom_bor, f_Size_bottom_fr, f_Size_names_bor, f_Size_names_fr, f_Size_exponents_bor, f_Size_exponents_fr, f_Size_exponent_bor, f_Size_exponent_fr, f_Size_over_bor, f_Size_over_fr, f_Size_power_bor, f_Size_power_fr, f_Size_mul_bor, f_Size_mul_fr, f_Size_contains_bor, f_Size_contains_fr, f_Size_len_bor, f_Size_len_fr, f_Size_eq_bor, f_Size_eq_fr, f_power_text_bor, f_power_text_fr, f_Size_str_bor, f_Size_str_fr, f__law_choice_bor, f__law_choice_fr, f__law_names_bor, f__law_names_fr, f__law_times_bor, f__law_times_fr, f__law_passed_bor, f__law_passed_fr, f__law_less_bor, f__law_less_fr, f__law_raised_bor, f__law_raised_fr, f__law_is_bor, f__law_is_fr, f__law_one_right_bor, f__law_one_right_fr, f__law_powers_right_bor, f__law_powers_right_fr, f__law_pair_right_bor, f__law_pair_right_fr, f__law_right_bor, f__law_right_fr]
  refine ⟨trivial, p_Size0 g (is_nil g ?_)⟩
  refine q_Size g (m := []) good_nil nrm_nil (is_nil g ?_)
  show optD (u_Size_init K) 1 [.non] _ _
  unfold optD
  rw [if_pos (show ([D.non] : List D).length = 1 from rfl)]
  exact p_init_non g (is_nil g (h _))
theorem p_law1 {U : UEnds} {v : V} (h : ∀ z, U.nx [.sh (.cst v), z]) : uS (a_law_1 K) U [.sh (.cst v), .un] := by
  have e3 : (3 : Nat) ≤ sizeLine := by decide
  have em : mergeD [] [((Sum.inr (Str.ofString "a") : Key), D.int (-1)), (Sum.inr (Str.ofString "b"), D.int 2)] = tD ofB := merge_nil (l := ofB) good_ofB.nd
  simp only [a_law_1, f__law_is, uS, uE, uT, uA, uI, uG, uGs, uP, uO, uJ, uN, startD, argSl, endsU, rdy, AS.lkS, AS.lk1, lkM, lkA, lkT, lkI, lkR, pkOn, okL, okM, noPn, dl, Sl.dat, Sl.prv, Sl.own, isNew, nw, toSl, isOw, isOwL, ofV, nmG, nmGs, wipeD, isPath, isDicI, AGs.len, List.set, List.replicate, List.map, List.foldl, List.all_cons, List.all_nil, Fd.own, fl, sf, fldU, satU, setFD, putU, isDicD, isStrD, mdOwn, mdCls, isCst, fdIsi, fdLen, fdAll, fdAny, fdDict, fdList, fdSorted, fdDraw, fdRepr, opAdd_u, opSub, opMul_u, opMod, opFdiv, opPow, opLt, opLe, opGt, opGe, opI, opI0, intD, intD0, lenD, isD, opIdx_u, opEq_u, opNe_u, opIn_u, opNin_u, opIs, opIsNot, List.length_cons, List.length_nil, List.nil_append, List.append_nil, List.cons_append, Bool.not_true, Bool.not_false, Bool.true_and, Bool.and_true, Bool.false_and, Bool.and_self, Bool.and_false, look1, List.mem_singleton, exists_eq_left, zipN, setAll, Option.map_some, Option.map_none, mdJoin_bo, mdJoin_fr, mdJoin_sel, mdJoin_u, mdGet_bo, mdGet_fr, mdGet_sel, mdGet_u, lenO_bor, lenO_fr, strO_bor, strO_fr, f_is_integer_bor, f_is_integer_fr, f_is_count_bor, f_is_count_fr, f_is_name_bor, f_is_name_fr, f_want_size_bor, f_want_size_fr, f_Size_bor, f_Size_fr, f_Size_product_bor, f_Size_product_fr, f_Size_is_whole_bor, f_Size_is_whole_fr, f_Size_top_bor, f_Size_top_fr, f_Size_bottom_bor, f_Size_bottom_fr, f_Size_names_bor, f_Size_names_fr, f_Size_exponents_bor, f_Size_exponents_fr, f_Size_exponent_bor, f_Size_exponent_fr, f_Size_over_bor, f_Size_over_fr, f_Size_power_bor, f_Size_power_fr, f_Size_mul_bor, f_Size_mul_fr, f_Size_contains_bor, f_Size_contains_fr, f_Size_len_bor, f_Size_len_fr, f_Size_eq_bor, f_Size_eq_fr, f_power_text_bor, f_power_text_fr, f_Size_str_bor, f_Size_str_fr, f__law_choice_bor, f__law_choice_fr, f__law_names_bor, f__law_names_fr, f__law_times_bor, f__law_times_fr, f__law_passed_bor, f__law_passed_fr, f__law_less_bor, f__law_less_fr, f__law_raised_bor, f__law_raised_fr, f__law_is_bor, f__law_is_fr, f__law_one_right_bor, f__law_one_right_fr, f__law_powers_right_bor, f__law_powers_right_fr, f__law_pair_right_bor, f__law_pair_right_fr, f__law_right_bor, f__law_right_fr]
  refine ⟨trivial, by show decide (V.ref (CS K) = V.ref (CS K)) = true; exact decide_eq_true rfl, ⟨rfl, rfl, e3, p_of g (m := ofA) good_ofA ?_⟩⟩
  rw [of_eq]
  refine ⟨by decide, ?_⟩
  rw [em]
  refine p_is g good_ofB (fun q hq => ?_) ?_
  · have : ∀ q ∈ ofB, q.2.natAbs < 10 := by decide +kernel
    have := this q hq
    exact smI_small (Nat.lt_of_lt_of_le this (by decide))
  · refine ⟨by decide, ⟨rfl, p_of g (m := []) good_nil ?_⟩⟩
    have e0 : norm ([] : Tb) = [] := nrm_nil.eq
    rw [e0]
    exact p_Size0 g (xne_self g List.nodup_nil (p_Size0 g (xeq_int g (h _))))
end
end AS.K11

set_option Elab.async false
set_option linter.all false
set_option maxRecDepth 100000
set_option maxHeartbeats 4000000
/-! K11W: the walk: each def keeps its promise (printed by gen11w.py). -/
namespace AS.K11
open PySem PySem.Spec PyProof.Rows L2
def s__law_rng : Stmt := (top 30)
def s__law_draw : Stmt := (top 31)
structure G (S : Sys) : Prop where
  gp : GP S.K
  fr_abs : S.mg "abs" = none
  fr_all : S.mg "all" = none
  fr_any : S.mg "any" = none
  fr_bool : S.mg "bool" = none
  fr_dict : S.mg "dict" = none
  fr_divmod : S.mg "divmod" = none
  fr_int : S.mg "int" = none
  fr_isinstance : S.mg "isinstance" = none
  fr_len : S.mg "len" = none
  fr_list : S.mg "list" = none
  fr_max : S.mg "max" = none
  fr_min : S.mg "min" = none
  fr_range : S.mg "range" = none
  fr_repr : S.mg "repr" = none
  fr_sorted : S.mg "sorted" = none
  fr_str : S.mg "str" = none
  mf__law_rng : S.mg "_law_rng" = some (.ref (He.ga S.K "_law_rng"))
  mf__law_draw : S.mg "_law_draw" = some (.ref (He.ga S.K "_law_draw"))
  mf_is_integer : S.mg "is_integer" = some (.ref (He.ga S.K "is_integer"))
  mf_is_count : S.mg "is_count" = some (.ref (He.ga S.K "is_count"))
  mf_is_name : S.mg "is_name" = some (.ref (He.ga S.K "is_name"))
  mf_want_size : S.mg "want_size" = some (.ref (He.ga S.K "want_size"))
  mf_power_text : S.mg "power_text" = some (.ref (He.ga S.K "power_text"))
  mf__law_choice : S.mg "_law_choice" = some (.ref (He.ga S.K "_law_choice"))
  mf__law_names : S.mg "_law_names" = some (.ref (He.ga S.K "_law_names"))
  mf__law_times : S.mg "_law_times" = some (.ref (He.ga S.K "_law_times"))
  mf__law_passed : S.mg "_law_passed" = some (.ref (He.ga S.K "_law_passed"))
  mf__law_less : S.mg "_law_less" = some (.ref (He.ga S.K "_law_less"))
  mf__law_raised : S.mg "_law_raised" = some (.ref (He.ga S.K "_law_raised"))
  mf__law_is : S.mg "_law_is" = some (.ref (He.ga S.K "_law_is"))
  mf__law_one_right : S.mg "_law_one_right" = some (.ref (He.ga S.K "_law_one_right"))
  mf__law_powers_right : S.mg "_law_powers_right" = some (.ref (He.ga S.K "_law_powers_right"))
  mf__law_pair_right : S.mg "_law_pair_right" = some (.ref (He.ga S.K "_law_pair_right"))
  mf__law_right : S.mg "_law_right" = some (.ref (He.ga S.K "_law_right"))
  mf_law : S.mg "law" = some (.ref (He.ga S.K "law"))
  mf_Size : S.mg "Size" = some (.ref (He.ga S.K "Size"))
  ml : ∃ t, S.mg "MOST_LETTERS" = some (.int 8 t)
  lt : ∃ t, S.mg "LETTERS" = some (.str "abcdefghijklmnopqrstuvwxyz" t)
  sm : SmOk S.K
  mkS : Mk S.K (CS S.K) (He.ma S.K (CS S.K) "__init__")
  rd : ClX.CRead S.K (CS S.K) (.type "type")
  cm_product : ClX.CMet S.K (CS S.K) (.type "type") "product" (He.ma S.K (CS S.K) "product") ((⟨"Size", some "product", some "classmethod"⟩ : Pl).ad S.K)
  cm_of : ClX.CMet S.K (CS S.K) (.type "type") "of" (He.ma S.K (CS S.K) "of") ((⟨"Size", some "of", some "classmethod"⟩ : Pl).ad S.K)
  pr_is_whole : PropOf S.K (CS S.K) "is_whole" (He.ma S.K (CS S.K) "is_whole") ((⟨"Size", some "is_whole", some "property"⟩ : Pl).ad S.K)
  pr_top : PropOf S.K (CS S.K) "top" (He.ma S.K (CS S.K) "top") ((⟨"Size", some "top", some "property"⟩ : Pl).ad S.K)
  pr_bottom : PropOf S.K (CS S.K) "bottom" (He.ma S.K (CS S.K) "bottom") ((⟨"Size", some "bottom", some "property"⟩ : Pl).ad S.K)
  me_names : Meth S.K (CS S.K) "names" (He.ma S.K (CS S.K) "names")
  me_exponents : Meth S.K (CS S.K) "exponents" (He.ma S.K (CS S.K) "exponents")
  me_exponent : Meth S.K (CS S.K) "exponent" (He.ma S.K (CS S.K) "exponent")
  me_over : Meth S.K (CS S.K) "over" (He.ma S.K (CS S.K) "over")
  me_power : Meth S.K (CS S.K) "power" (He.ma S.K (CS S.K) "power")
  du__mul__ : PySem.W.findIn S.K (.ref (CS S.K)) "__mul__" = some (some (.ref (He.ma S.K (CS S.K) "__mul__"))) ∧ PySem.W.isFn S.K (.ref (He.ma S.K (CS S.K) "__mul__")) = true
  du__contains__ : PySem.W.findIn S.K (.ref (CS S.K)) "__contains__" = some (some (.ref (He.ma S.K (CS S.K) "__contains__"))) ∧ PySem.W.isFn S.K (.ref (He.ma S.K (CS S.K) "__contains__")) = true
  du__len__ : PySem.W.findIn S.K (.ref (CS S.K)) "__len__" = some (some (.ref (He.ma S.K (CS S.K) "__len__"))) ∧ PySem.W.isFn S.K (.ref (He.ma S.K (CS S.K) "__len__")) = true
  du__eq__ : PySem.W.findIn S.K (.ref (CS S.K)) "__eq__" = some (some (.ref (He.ma S.K (CS S.K) "__eq__"))) ∧ PySem.W.isFn S.K (.ref (He.ma S.K (CS S.K) "__eq__")) = true
  du__str__ : PySem.W.findIn S.K (.ref (CS S.K)) "__str__" = some (some (.ref (He.ma S.K (CS S.K) "__str__"))) ∧ PySem.W.isFn S.K (.ref (He.ma S.K (CS S.K) "__str__")) = true
  ne : PySem.W.findIn S.K (.ref (CS S.K)) "__ne__" = some (some (.builtin "object.__ne__"))
  so : PySem.W.subIn S.K (.ref (CS S.K)) (.type "object") = some true
  sf : PySem.W.selfFirst S.K (CS S.K) = true
  d__law_rng : ∃ fd, FunD S.K "_law_rng" "_law_rng" (defArgs s__law_rng) (defBody s__law_rng) (defScope s__law_rng) [] [] (He.ga S.K "_law_rng") fd
  d__law_draw : ∃ fd, FunD S.K "_law_draw" "_law_draw" (defArgs s__law_draw) (defBody s__law_draw) (defScope s__law_draw) [] [] (He.ga S.K "_law_draw") fd
  d_is_integer : ∃ fd, FunD S.K "is_integer" "is_integer" (defArgs s_is_integer) (defBody s_is_integer) (defScope s_is_integer) [] [] (He.ga S.K "is_integer") fd
  d_is_count : ∃ fd, FunD S.K "is_count" "is_count" (defArgs s_is_count) (defBody s_is_count) (defScope s_is_count) [] [] (He.ga S.K "is_count") fd
  d_is_name : ∃ fd, FunD S.K "is_name" "is_name" (defArgs s_is_name) (defBody s_is_name) (defScope s_is_name) [] [] (He.ga S.K "is_name") fd
  d_want_size : ∃ fd, FunD S.K "want_size" "want_size" (defArgs s_want_size) (defBody s_want_size) (defScope s_want_size) [] [] (He.ga S.K "want_size") fd
  d_Size_init : ∃ fd, FunD S.K "__init__" "Size.__init__" (defArgs s_Size_init) (defBody s_Size_init) (defScope s_Size_init) [.non] [] (He.ma S.K (He.ga S.K "Size") "__init__") fd
  d_Size_product : ∃ fd, FunD S.K "product" "Size.product" (defArgs s_Size_product) (defBody s_Size_product) (defScope s_Size_product) [] [] ((⟨"Size", some "product", some "classmethod"⟩ : Pl).ad S.K) fd
  d_Size_is_whole : ∃ fd, FunD S.K "is_whole" "Size.is_whole" (defArgs s_Size_is_whole) (defBody s_Size_is_whole) (defScope s_Size_is_whole) [] [] ((⟨"Size", some "is_whole", some "property"⟩ : Pl).ad S.K) fd
  d_Size_top : ∃ fd, FunD S.K "top" "Size.top" (defArgs s_Size_top) (defBody s_Size_top) (defScope s_Size_top) [] [] ((⟨"Size", some "top", some "property"⟩ : Pl).ad S.K) fd
  d_Size_bottom : ∃ fd, FunD S.K "bottom" "Size.bottom" (defArgs s_Size_bottom) (defBody s_Size_bottom) (defScope s_Size_bottom) [] [] ((⟨"Size", some "bottom", some "property"⟩ : Pl).ad S.K) fd
  d_Size_names : ∃ fd, FunD S.K "names" "Size.names" (defArgs s_Size_names) (defBody s_Size_names) (defScope s_Size_names) [] [] (He.ma S.K (He.ga S.K "Size") "names") fd
  d_Size_exponents : ∃ fd, FunD S.K "exponents" "Size.exponents" (defArgs s_Size_exponents) (defBody s_Size_exponents) (defScope s_Size_exponents) [] [] (He.ma S.K (He.ga S.K "Size") "exponents") fd
  d_Size_exponent : ∃ fd, FunD S.K "exponent" "Size.exponent" (defArgs s_Size_exponent) (defBody s_Size_exponent) (defScope s_Size_exponent) [] [] (He.ma S.K (He.ga S.K "Size") "exponent") fd
  d_Size_over : ∃ fd, FunD S.K "over" "Size.over" (defArgs s_Size_over) (defBody s_Size_over) (defScope s_Size_over) [] [] (He.ma S.K (He.ga S.K "Size") "over") fd
  d_Size_power : ∃ fd, FunD S.K "power" "Size.power" (defArgs s_Size_power) (defBody s_Size_power) (defScope s_Size_power) [] [] (He.ma S.K (He.ga S.K "Size") "power") fd
  d_Size_mul : ∃ fd, FunD S.K "__mul__" "Size.__mul__" (defArgs s_Size_mul) (defBody s_Size_mul) (defScope s_Size_mul) [] [] (He.ma S.K (He.ga S.K "Size") "__mul__") fd
  d_Size_contains : ∃ fd, FunD S.K "__contains__" "Size.__contains__" (defArgs s_Size_contains) (defBody s_Size_contains) (defScope s_Size_contains) [] [] (He.ma S.K (He.ga S.K "Size") "__contains__") fd
  d_Size_len : ∃ fd, FunD S.K "__len__" "Size.__len__" (defArgs s_Size_len) (defBody s_Size_len) (defScope s_Size_len) [] [] (He.ma S.K (He.ga S.K "Size") "__len__") fd
  d_Size_eq : ∃ fd, FunD S.K "__eq__" "Size.__eq__" (defArgs s_Size_eq) (defBody s_Size_eq) (defScope s_Size_eq) [] [] (He.ma S.K (He.ga S.K "Size") "__eq__") fd
  d_power_text : ∃ fd, FunD S.K "power_text" "power_text" (defArgs s_power_text) (defBody s_power_text) (defScope s_power_text) [] [] (He.ga S.K "power_text") fd
  d_Size_str : ∃ fd, FunD S.K "__str__" "Size.__str__" (defArgs s_Size_str) (defBody s_Size_str) (defScope s_Size_str) [] [] (He.ma S.K (He.ga S.K "Size") "__str__") fd
  d__law_choice : ∃ fd, FunD S.K "_law_choice" "_law_choice" (defArgs s__law_choice) (defBody s__law_choice) (defScope s__law_choice) [] [] (He.ga S.K "_law_choice") fd
  d__law_names : ∃ fd, FunD S.K "_law_names" "_law_names" (defArgs s__law_names) (defBody s__law_names) (defScope s__law_names) [] [] (He.ga S.K "_law_names") fd
  d__law_times : ∃ fd, FunD S.K "_law_times" "_law_times" (defArgs s__law_times) (defBody s__law_times) (defScope s__law_times) [] [] (He.ga S.K "_law_times") fd
  d__law_passed : ∃ fd, FunD S.K "_law_passed" "_law_passed" (defArgs s__law_passed) (defBody s__law_passed) (defScope s__law_passed) [] [] (He.ga S.K "_law_passed") fd
  d__law_less : ∃ fd, FunD S.K "_law_less" "_law_less" (defArgs s__law_less) (defBody s__law_less) (defScope s__law_less) [] [] (He.ga S.K "_law_less") fd
  d__law_raised : ∃ fd, FunD S.K "_law_raised" "_law_raised" (defArgs s__law_raised) (defBody s__law_raised) (defScope s__law_raised) [] [] (He.ga S.K "_law_raised") fd
  d__law_is : ∃ fd, FunD S.K "_law_is" "_law_is" (defArgs s__law_is) (defBody s__law_is) (defScope s__law_is) [] [] (He.ga S.K "_law_is") fd
  d__law_one_right : ∃ fd, FunD S.K "_law_one_right" "_law_one_right" (defArgs s__law_one_right) (defBody s__law_one_right) (defScope s__law_one_right) [] [] (He.ga S.K "_law_one_right") fd
  d__law_powers_right : ∃ fd, FunD S.K "_law_powers_right" "_law_powers_right" (defArgs s__law_powers_right) (defBody s__law_powers_right) (defScope s__law_powers_right) [] [] (He.ga S.K "_law_powers_right") fd
  d__law_pair_right : ∃ fd, FunD S.K "_law_pair_right" "_law_pair_right" (defArgs s__law_pair_right) (defBody s__law_pair_right) (defScope s__law_pair_right) [] [] (He.ga S.K "_law_pair_right") fd
  d__law_right : ∃ fd, FunD S.K "_law_right" "_law_right" (defArgs s__law_right) (defBody s__law_right) (defScope s__law_right) [] [] (He.ga S.K "_law_right") fd
  d_Size_of : ∃ fd, FunD S.K "of" "Size.of" (defArgs s_Size_of) (defBody s_Size_of) (defScope s_Size_of) [] [] ((⟨"Size", some "of", some "classmethod"⟩ : Pl).ad S.K) fd
  d_law : ∃ fd, FunD S.K "law" "law" (defArgs s_law) (defBody s_law) (defScope s_law) [] [] (He.ga S.K "law") fd
theorem sc_rng : FnScope nR ["_law_script", "_law_k"] (defScope s__law_rng) := ⟨rfl, rfl, rfl, by decide +kernel, rfl, by decide +kernel, by decide +kernel⟩
theorem sc_draw : FnScope nD ["_law_rng_here", "_law_many"] (defScope s__law_draw) := ⟨rfl, rfl, rfl, by decide +kernel, rfl, by decide +kernel, by decide +kernel⟩
theorem r_rng (K : PySem.W.Frag) (E : XK) : blkT (wp (oraOf K (AS.T_rng K)) K nR 40 (ctxD (defScope s__law_rng) E)).S (defBody s__law_rng) = t_rng K E := by kernel_rfl
theorem r_draw (K : PySem.W.Frag) (E : XK) : blkT (wp (oraOf K (AS.T_draw K)) K nD 40 (ctxD (defScope s__law_draw) E)).S (defBody s__law_draw) = t_draw K E := by kernel_rfl
theorem sc_is_integer : FnScope N_is_integer (["value"] : List Str) (defScope s_is_integer) := ⟨rfl, rfl, rfl, by decide +kernel, rfl, by decide +kernel, by decide +kernel⟩
theorem sc_is_count : FnScope N_is_count (["value"] : List Str) (defScope s_is_count) := ⟨rfl, rfl, rfl, by decide +kernel, rfl, by decide +kernel, by decide +kernel⟩
theorem sc_is_name : FnScope N_is_name (["value"] : List Str) (defScope s_is_name) := ⟨rfl, rfl, rfl, by decide +kernel, rfl, by decide +kernel, by decide +kernel⟩
theorem sc_want_size : FnScope N_want_size (["value"] : List Str) (defScope s_want_size) := ⟨rfl, rfl, rfl, by decide +kernel, rfl, by decide +kernel, by decide +kernel⟩
theorem sc_Size_init : FnScope N_Size_init (["self", "exponents"] : List Str) (defScope s_Size_init) := ⟨rfl, rfl, rfl, by decide +kernel, rfl, by decide +kernel, by decide +kernel⟩
theorem sc_Size_product : FnScope N_Size_product ((["cls"] : List Str) ++ (["sizes"] : List Str)) (defScope s_Size_product) := ⟨rfl, rfl, rfl, by decide +kernel, rfl, by decide +kernel, by decide +kernel⟩
theorem sc_Size_is_whole : FnScope N_Size_is_whole (["self"] : List Str) (defScope s_Size_is_whole) := ⟨rfl, rfl, rfl, by decide +kernel, rfl, by decide +kernel, by decide +kernel⟩
theorem sc_Size_top : FnScope N_Size_top (["self"] : List Str) (defScope s_Size_top) := ⟨rfl, rfl, rfl, by decide +kernel, rfl, by decide +kernel, by decide +kernel⟩
theorem sc_Size_bottom : FnScope N_Size_bottom (["self"] : List Str) (defScope s_Size_bottom) := ⟨rfl, rfl, rfl, by decide +kernel, rfl, by decide +kernel, by decide +kernel⟩
theorem sc_Size_names : FnScope N_Size_names (["self"] : List Str) (defScope s_Size_names) := ⟨rfl, rfl, rfl, by decide +kernel, rfl, by decide +kernel, by decide +kernel⟩
theorem sc_Size_exponents : FnScope N_Size_exponents (["self"] : List Str) (defScope s_Size_exponents) := ⟨rfl, rfl, rfl, by decide +kernel, rfl, by decide +kernel, by decide +kernel⟩
theorem sc_Size_exponent : FnScope N_Size_exponent (["self", "name"] : List Str) (defScope s_Size_exponent) := ⟨rfl, rfl, rfl, by decide +kernel, rfl, by decide +kernel, by decide +kernel⟩
theorem sc_Size_over : FnScope N_Size_over (["self", "other"] : List Str) (defScope s_Size_over) := ⟨rfl, rfl, rfl, by decide +kernel, rfl, by decide +kernel, by decide +kernel⟩
theorem sc_Size_power : FnScope N_Size_power (["self", "count"] : List Str) (defScope s_Size_power) := ⟨rfl, rfl, rfl, by decide +kernel, rfl, by decide +kernel, by decide +kernel⟩
theorem sc_Size_mul : FnScope N_Size_mul (["self", "other"] : List Str) (defScope s_Size_mul) := ⟨rfl, rfl, rfl, by decide +kernel, rfl, by decide +kernel, by decide +kernel⟩
theorem sc_Size_contains : FnScope N_Size_contains (["self", "value"] : List Str) (defScope s_Size_contains) := ⟨rfl, rfl, rfl, by decide +kernel, rfl, by decide +kernel, by decide +kernel⟩
theorem sc_Size_len : FnScope N_Size_len (["self"] : List Str) (defScope s_Size_len) := ⟨rfl, rfl, rfl, by decide +kernel, rfl, by decide +kernel, by decide +kernel⟩
theorem sc_Size_eq : FnScope N_Size_eq (["self", "other"] : List Str) (defScope s_Size_eq) := ⟨rfl, rfl, rfl, by decide +kernel, rfl, by decide +kernel, by decide +kernel⟩
theorem sc_power_text : FnScope N_power_text (["name", "exponent"] : List Str) (defScope s_power_text) := ⟨rfl, rfl, rfl, by decide +kernel, rfl, by decide +kernel, by decide +kernel⟩
theorem sc_Size_str : FnScope N_Size_str (["self"] : List Str) (defScope s_Size_str) := ⟨rfl, rfl, rfl, by decide +kernel, rfl, by decide +kernel, by decide +kernel⟩
theorem sc__law_choice : FnScope N__law_choice (["_law_rng_here", "_law_some"] : List Str) (defScope s__law_choice) := ⟨rfl, rfl, rfl, by decide +kernel, rfl, by decide +kernel, by decide +kernel⟩
theorem sc__law_names : FnScope N__law_names (["_law_rng_here", "_law_many", "_law_taken"] : List Str) (defScope s__law_names) := ⟨rfl, rfl, rfl, by decide +kernel, rfl, by decide +kernel, by decide +kernel⟩
theorem sc__law_times : FnScope N__law_times (["_law_one", "_law_other"] : List Str) (defScope s__law_times) := ⟨rfl, rfl, rfl, by decide +kernel, rfl, by decide +kernel, by decide +kernel⟩
theorem sc__law_passed : FnScope N__law_passed (["_law_rng_here", "_law_names_here"] : List Str) (defScope s__law_passed) := ⟨rfl, rfl, rfl, by decide +kernel, rfl, by decide +kernel, by decide +kernel⟩
theorem sc__law_less : FnScope N__law_less (["_law_model"] : List Str) (defScope s__law_less) := ⟨rfl, rfl, rfl, by decide +kernel, rfl, by decide +kernel, by decide +kernel⟩
theorem sc__law_raised : FnScope N__law_raised (["_law_model", "_law_many"] : List Str) (defScope s__law_raised) := ⟨rfl, rfl, rfl, by decide +kernel, rfl, by decide +kernel, by decide +kernel⟩
theorem sc__law_is : FnScope N__law_is (["_law_made", "_law_model"] : List Str) (defScope s__law_is) := ⟨rfl, rfl, rfl, by decide +kernel, rfl, by decide +kernel, by decide +kernel⟩
theorem sc__law_one_right : FnScope N__law_one_right (["_law_rng_here", "_law_names_here", "_law_passed_here"] : List Str) (defScope s__law_one_right) := ⟨rfl, rfl, rfl, by decide +kernel, rfl, by decide +kernel, by decide +kernel⟩
theorem sc__law_powers_right : FnScope N__law_powers_right (["_law_rng_here", "_law_made", "_law_model"] : List Str) (defScope s__law_powers_right) := ⟨rfl, rfl, rfl, by decide +kernel, rfl, by decide +kernel, by decide +kernel⟩
theorem sc__law_pair_right : FnScope N__law_pair_right (["_law_rng_here", "_law_first", "_law_second"] : List Str) (defScope s__law_pair_right) := ⟨rfl, rfl, rfl, by decide +kernel, rfl, by decide +kernel, by decide +kernel⟩
theorem sc__law_right : FnScope N__law_right (["_law_rng_here"] : List Str) (defScope s__law_right) := ⟨rfl, rfl, rfl, by decide +kernel, rfl, by decide +kernel, by decide +kernel⟩
theorem sc_Size_of : FnScope N_Size_of ((["cls"] : List Str) ++ (["exponents"] : List Str)) (defScope s_Size_of) := ⟨rfl, rfl, rfl, by decide +kernel, rfl, by decide +kernel, by decide +kernel⟩
theorem sc_law : FnScope N_law (["_law_script"] : List Str) (defScope s_law) := ⟨rfl, rfl, rfl, by decide +kernel, rfl, by decide +kernel, by decide +kernel⟩
section
variable {S : Sys} (g : G S)
include g
theorem n__law_rng {k : Nat} (hk : 1 ≤ k) : FnG S k (He.ga S.K "_law_rng") (sp_rng S.K) ∧ PySem.W.keepIn S.K (.ref (He.ga S.K "_law_rng")) = true := by
  obtain ⟨fd, F⟩ := g.d__law_rng
  exact ⟨(n_rng (k := 0) F sc_rng g.fr_len g.fr_max g.fr_abs g.fr_int r_rng (fun _ _ _ _ _ _ us hl => match us, hl with | [_, _], _ => rfl)).mono hk, F.kp⟩
theorem n__law_draw {k : Nat} (hk : 1 ≤ k) : FnG S k (He.ga S.K "_law_draw") sp_draw ∧ PySem.W.keepIn S.K (.ref (He.ga S.K "_law_draw")) = true := by
  obtain ⟨fd, F⟩ := g.d__law_draw
  exact ⟨(n_draw (k := 0) F sc_draw g.fr_divmod g.fr_int r_draw (fun _ _ _ _ _ _ us hl => match us, hl with | [_, _], _ => rfl)).mono hk, F.kp⟩
theorem e__law_rng {k : Nat} (hk : 1 ≤ k) : CallE S k "_law_rng" (sp_rng S.K) := ent_fn (n__law_rng g hk).1 (Nat.le_refl _) g.mf__law_rng (n__law_rng g hk).2
theorem e__law_draw {k : Nat} (hk : 1 ≤ k) : CallE S k "_law_draw" sp_draw := ent_fn (n__law_draw g hk).1 (Nat.le_refl _) g.mf__law_draw (n__law_draw g hk).2
theorem t_is_integer : TabsOk S 0 (T_is_integer S.K) := { glo := (tab_cons ⟨_, rfl, .inr ⟨g.fr_bool, by decide +kernel⟩⟩ (tab_cons ⟨_, rfl, .inr ⟨g.fr_int, by decide +kernel⟩⟩ tab_nil)), fn := (tab_cons (e_isi g.fr_isinstance) tab_nil) }
theorem n_is_integer {k : Nat} (hk : 1 ≤ k) : FnG S k (He.ga S.K "is_integer") (f_is_integer S.K).sp ∧ PySem.W.keepIn S.K (.ref (He.ga S.K "is_integer")) = true := by
  obtain ⟨fd, F⟩ := g.d_is_integer
  exact ⟨(fn_pos F (fn_dat true false F sc_is_integer (t_is_integer g) r_is_integer) spG_lenAll (fun _ _ _ _ _ _ us hl => match us, hl with | [_], _ => rfl)).mono hk, F.kp⟩
theorem e_is_integer {k : Nat} (hk : 1 ≤ k) : CallE S k "is_integer" (f_is_integer S.K).sp := ent_fn (n_is_integer g hk).1 (Nat.le_refl _) g.mf_is_integer (n_is_integer g hk).2
theorem t_is_count : TabsOk S 1 (T_is_count S.K) := { fn := (tab_cons (e_is_integer g (by decide)) tab_nil) }
theorem n_is_count {k : Nat} (hk : 2 ≤ k) : FnG S k (He.ga S.K "is_count") (f_is_count S.K).sp ∧ PySem.W.keepIn S.K (.ref (He.ga S.K "is_count")) = true := by
  obtain ⟨fd, F⟩ := g.d_is_count
  exact ⟨(fn_pos F (fn_dat true false F sc_is_count (t_is_count g) r_is_count) spG_lenAll (fun _ _ _ _ _ _ us hl => match us, hl with | [_], _ => rfl)).mono hk, F.kp⟩
theorem e_is_count {k : Nat} (hk : 2 ≤ k) : CallE S k "is_count" (f_is_count S.K).sp := ent_fn (n_is_count g hk).1 (Nat.le_refl _) g.mf_is_count (n_is_count g hk).2
theorem t_is_name : TabsOk S 0 (T_is_name S.K) := { glo := (tab_cons (let ⟨t, e⟩ := g.ml; ⟨_, ⟨t, rfl⟩, .inl e⟩) (tab_cons ⟨_, rfl, .inr ⟨g.fr_str, by decide +kernel⟩⟩ (tab_cons (let ⟨t, e⟩ := g.lt; ⟨_, ⟨t, rfl⟩, .inl e⟩) tab_nil))), fn := (tab_cons (e_len g.fr_len) (tab_cons (e_isi g.fr_isinstance) (tab_cons (e_all g.fr_all) tab_nil))) }
theorem n_is_name {k : Nat} (hk : 1 ≤ k) : FnG S k (He.ga S.K "is_name") (f_is_name S.K).sp ∧ PySem.W.keepIn S.K (.ref (He.ga S.K "is_name")) = true := by
  obtain ⟨fd, F⟩ := g.d_is_name
  exact ⟨(fn_pos F (fn_dat true false F sc_is_name (t_is_name g) r_is_name) spG_lenAll (fun _ _ _ _ _ _ us hl => match us, hl with | [_], _ => rfl)).mono hk, F.kp⟩
theorem e_is_name {k : Nat} (hk : 1 ≤ k) : CallE S k "is_name" (f_is_name S.K).sp := ent_fn (n_is_name g hk).1 (Nat.le_refl _) g.mf_is_name (n_is_name g hk).2
theorem t_want_size : TabsOk S 0 (T_want_size S.K) := { glo := (tab_cons ⟨_, rfl, .inl g.mf_Size⟩ tab_nil), fn := (tab_cons (e_isi g.fr_isinstance) tab_nil) }
theorem n_want_size {k : Nat} (hk : 1 ≤ k) : FnG S k (He.ga S.K "want_size") (f_want_size S.K).sp ∧ PySem.W.keepIn S.K (.ref (He.ga S.K "want_size")) = true := by
  obtain ⟨fd, F⟩ := g.d_want_size
  exact ⟨(fn_pos F (fn_dat true false F sc_want_size (t_want_size g) r_want_size) spG_lenAll (fun _ _ _ _ _ _ us hl => match us, hl with | [_], _ => rfl)).mono hk, F.kp⟩
theorem e_want_size {k : Nat} (hk : 1 ≤ k) : CallE S k "want_size" (f_want_size S.K).sp := ent_fn (n_want_size g hk).1 (Nat.le_refl _) g.mf_want_size (n_want_size g hk).2
theorem t_Size_init : TabsOk S 1 (T_Size_init S.K) := { glo := (tab_cons ⟨_, rfl, .inr ⟨g.fr_dict, by decide +kernel⟩⟩ tab_nil), fn := (tab_cons (e_isi g.fr_isinstance) (tab_cons (e_all g.fr_all) (tab_cons (e_is_integer g (by decide)) (tab_cons (e_is_name g (by decide)) (tab_cons (e_sorted g.fr_sorted) tab_nil))))), sat := tab_cons ent_sat tab_nil }
theorem R_Size {k : Nat} (hk : 3 ≤ k) : Runs S k (CS S.K) (f_Size S.K).sp := by
  obtain ⟨fd, F⟩ := g.d_Size_init
  obtain ⟨d0, v0, b0⟩ := F.binds1 (ps := (["self", "exponents"] : List Str)) 2 1 (by simp) rfl fun T kV doc pm an cdv ct us its h1 h2 => match us, its, h1, h2 with | [_, _], [_], _, _ => ⟨_, rfl, rfl⟩
  obtain ⟨d1, v1, b1⟩ := F.binds1 (ps := (["self", "exponents"] : List Str)) 1 0 (by simp) rfl fun T kV doc pm an cdv ct us its h1 h2 => match us, its, h1, h2 with | [_], [_], _, _ => ⟨_, rfl, rfl⟩
  cases v0
  exact runs_N (j := 2) g.mkS (fn_init (CS S.K) true F sc_Size_init (t_Size_init g) r_Size_init) hk b0 b1 v1 spI_len
theorem e_Size {k : Nat} (hk : 3 ≤ k) : CallE S k "Size" (f_Size S.K).sp := (R_Size g hk).ent g.mf_Size
theorem t_Size_product : TabsOk S 3 (T_Size_product S.K) := { fn := (tab_cons (e_want_size g (by decide)) (tab_cons (e_Size g (by decide)) tab_nil)), mt := (all_cons ent_getW all_nil), att := (tab_cons ent_att tab_nil) }
theorem n_Size_product {k : Nat} (hk : 4 ≤ k) : FnG S k ((⟨"Size", some "product", some "classmethod"⟩ : Pl).ad S.K) (f_Size_product S.K).sp ∧ True := by
  obtain ⟨fd, F⟩ := g.d_Size_product
  exact ⟨(fn_datS (ps := (["cls"] : List Str)) true F sc_Size_product (t_Size_product g) r_Size_product (bind_star1' (fun _ _ _ _ _ _ _ => rfl) fun _ _ _ _ _ _ _ _ _ => rfl)).mono hk, trivial⟩
theorem t_Size_is_whole : TabsOk S 0 (T_Size_is_whole S.K) := { fn := (tab_cons (e_all g.fr_all) tab_nil), att := (tab_cons ent_att tab_nil) }
theorem n_Size_is_whole {k : Nat} (hk : 1 ≤ k) : FnG S k ((⟨"Size", some "is_whole", some "property"⟩ : Pl).ad S.K) (f_Size_is_whole S.K).sp ∧ PySem.W.keepIn S.K (.ref ((⟨"Size", some "is_whole", some "property"⟩ : Pl).ad S.K)) = true := by
  obtain ⟨fd, F⟩ := g.d_Size_is_whole
  exact ⟨(fn_pos F (fn_dat true false F sc_Size_is_whole (t_Size_is_whole g) r_Size_is_whole) spG_lenAll (fun _ _ _ _ _ _ us hl => match us, hl with | [_], _ => rfl)).mono hk, F.kp⟩
theorem t_Size_top : TabsOk S 3 (T_Size_top S.K) := { fn := (tab_cons (e_Size g (by decide)) tab_nil), att := (tab_cons ent_att tab_nil) }
theorem n_Size_top {k : Nat} (hk : 4 ≤ k) : FnG S k ((⟨"Size", some "top", some "property"⟩ : Pl).ad S.K) (f_Size_top S.K).sp ∧ PySem.W.keepIn S.K (.ref ((⟨"Size", some "top", some "property"⟩ : Pl).ad S.K)) = true := by
  obtain ⟨fd, F⟩ := g.d_Size_top
  exact ⟨(fn_pos F (fn_dat true true F sc_Size_top (t_Size_top g) r_Size_top) spG_lenAll (fun _ _ _ _ _ _ us hl => match us, hl with | [_], _ => rfl)).mono hk, F.kp⟩
theorem t_Size_bottom : TabsOk S 3 (T_Size_bottom S.K) := { fn := (tab_cons (e_Size g (by decide)) tab_nil), att := (tab_cons ent_att tab_nil) }
theorem n_Size_bottom {k : Nat} (hk : 4 ≤ k) : FnG S k ((⟨"Size", some "bottom", some "property"⟩ : Pl).ad S.K) (f_Size_bottom S.K).sp ∧ PySem.W.keepIn S.K (.ref ((⟨"Size", some "bottom", some "property"⟩ : Pl).ad S.K)) = true := by
  obtain ⟨fd, F⟩ := g.d_Size_bottom
  exact ⟨(fn_pos F (fn_dat true true F sc_Size_bottom (t_Size_bottom g) r_Size_bottom) spG_lenAll (fun _ _ _ _ _ _ us hl => match us, hl with | [_], _ => rfl)).mono hk, F.kp⟩
theorem t_Size_names : TabsOk S 0 (T_Size_names S.K) := { fn := (tab_cons (e_list g.fr_list) tab_nil), att := (tab_cons ent_att tab_nil) }
theorem n_Size_names {k : Nat} (hk : 1 ≤ k) : FnG S k (He.ma S.K (He.ga S.K "Size") "names") (f_Size_names S.K).sp ∧ PySem.W.keepIn S.K (.ref (He.ma S.K (He.ga S.K "Size") "names")) = true := by
  obtain ⟨fd, F⟩ := g.d_Size_names
  exact ⟨(fn_pos F (fn_dat true true F sc_Size_names (t_Size_names g) r_Size_names) spG_lenAll (fun _ _ _ _ _ _ us hl => match us, hl with | [_], _ => rfl)).mono hk, F.kp⟩
theorem t_Size_exponents : TabsOk S 0 (T_Size_exponents S.K) := { fn := (tab_cons (e_dict g.fr_dict) tab_nil), att := (tab_cons ent_att tab_nil) }
theorem n_Size_exponents {k : Nat} (hk : 1 ≤ k) : FnG S k (He.ma S.K (He.ga S.K "Size") "exponents") (f_Size_exponents S.K).sp ∧ PySem.W.keepIn S.K (.ref (He.ma S.K (He.ga S.K "Size") "exponents")) = true := by
  obtain ⟨fd, F⟩ := g.d_Size_exponents
  exact ⟨(fn_pos F (fn_dat true true F sc_Size_exponents (t_Size_exponents g) r_Size_exponents) spG_lenAll (fun _ _ _ _ _ _ us hl => match us, hl with | [_], _ => rfl)).mono hk, F.kp⟩
theorem t_Size_exponent : TabsOk S 1 (T_Size_exponent S.K) := { fn := (tab_cons (e_is_name g (by decide)) tab_nil), mt := (all_cons ent_getW all_nil), att := (tab_cons ent_att tab_nil) }
theorem n_Size_exponent {k : Nat} (hk : 2 ≤ k) : FnG S k (He.ma S.K (He.ga S.K "Size") "exponent") (f_Size_exponent S.K).sp ∧ PySem.W.keepIn S.K (.ref (He.ma S.K (He.ga S.K "Size") "exponent")) = true := by
  obtain ⟨fd, F⟩ := g.d_Size_exponent
  exact ⟨(fn_pos F (fn_dat true false F sc_Size_exponent (t_Size_exponent g) r_Size_exponent) spG_lenAll (fun _ _ _ _ _ _ us hl => match us, hl with | [_, _], _ => rfl)).mono hk, F.kp⟩
theorem t_Size_over : TabsOk S 4 (T_Size_over S.K) := { glo := (tab_cons ⟨_, rfl, .inl g.mf_Size⟩ tab_nil), fn := (tab_cons (e_want_size g (by decide)) (tab_cons (e_Size g (by decide)) tab_nil)), mt := (all_cons (ent_cm g.rd g.cm_product (n_Size_product g (Nat.le_refl 4)).1 (by decide)) all_nil), att := (tab_cons ent_att tab_nil) }
theorem n_Size_over {k : Nat} (hk : 5 ≤ k) : FnG S k (He.ma S.K (He.ga S.K "Size") "over") (f_Size_over S.K).sp ∧ PySem.W.keepIn S.K (.ref (He.ma S.K (He.ga S.K "Size") "over")) = true := by
  obtain ⟨fd, F⟩ := g.d_Size_over
  exact ⟨(fn_pos F (fn_dat false true F sc_Size_over (t_Size_over g) r_Size_over) spG_lenAll (fun _ _ _ _ _ _ us hl => match us, hl with | [_, _], _ => rfl)).mono hk, F.kp⟩
theorem t_Size_power : TabsOk S 3 (T_Size_power S.K) := { fn := (tab_cons (e_is_count g (by decide)) (tab_cons (e_Size g (by decide)) tab_nil)), att := (tab_cons ent_att tab_nil) }
theorem n_Size_power {k : Nat} (hk : 4 ≤ k) : FnG S k (He.ma S.K (He.ga S.K "Size") "power") (f_Size_power S.K).sp ∧ PySem.W.keepIn S.K (.ref (He.ma S.K (He.ga S.K "Size") "power")) = true := by
  obtain ⟨fd, F⟩ := g.d_Size_power
  exact ⟨(fn_pos F (fn_dat true true F sc_Size_power (t_Size_power g) r_Size_power) spG_lenAll (fun _ _ _ _ _ _ us hl => match us, hl with | [_, _], _ => rfl)).mono hk, F.kp⟩
theorem t_Size_mul : TabsOk S 4 (T_Size_mul S.K) := { glo := (tab_cons ⟨_, rfl, .inl g.mf_Size⟩ tab_nil), fn := (tab_cons (e_want_size g (by decide)) tab_nil), mt := (all_cons (ent_cm g.rd g.cm_product (n_Size_product g (Nat.le_refl 4)).1 (by decide)) all_nil) }
theorem n_Size_mul {k : Nat} (hk : 5 ≤ k) : FnG S k (He.ma S.K (He.ga S.K "Size") "__mul__") (f_Size_mul S.K).sp ∧ PySem.W.keepIn S.K (.ref (He.ma S.K (He.ga S.K "Size") "__mul__")) = true := by
  obtain ⟨fd, F⟩ := g.d_Size_mul
  exact ⟨(fn_pos F (fn_dat false true F sc_Size_mul (t_Size_mul g) r_Size_mul) spG_lenAll (fun _ _ _ _ _ _ us hl => match us, hl with | [_, _], _ => rfl)).mono hk, F.kp⟩
theorem t_Size_contains : TabsOk S 0 (T_Size_contains S.K) := { glo := (tab_cons ⟨_, rfl, .inr ⟨g.fr_str, by decide +kernel⟩⟩ tab_nil), fn := (tab_cons (e_isi g.fr_isinstance) tab_nil), att := (tab_cons ent_att tab_nil) }
theorem n_Size_contains {k : Nat} (hk : 1 ≤ k) : FnG S k (He.ma S.K (He.ga S.K "Size") "__contains__") (f_Size_contains S.K).sp ∧ PySem.W.keepIn S.K (.ref (He.ma S.K (He.ga S.K "Size") "__contains__")) = true := by
  obtain ⟨fd, F⟩ := g.d_Size_contains
  exact ⟨(fn_pos F (fn_dat true false F sc_Size_contains (t_Size_contains g) r_Size_contains) spG_lenAll (fun _ _ _ _ _ _ us hl => match us, hl with | [_, _], _ => rfl)).mono hk, F.kp⟩
theorem t_Size_len : TabsOk S 0 (T_Size_len S.K) := { fn := (tab_cons (e_len g.fr_len) tab_nil), att := (tab_cons ent_att tab_nil) }
theorem n_Size_len {k : Nat} (hk : 1 ≤ k) : FnG S k (He.ma S.K (He.ga S.K "Size") "__len__") (f_Size_len S.K).sp ∧ PySem.W.keepIn S.K (.ref (He.ma S.K (He.ga S.K "Size") "__len__")) = true := by
  obtain ⟨fd, F⟩ := g.d_Size_len
  exact ⟨(fn_pos F (fn_dat false false F sc_Size_len (t_Size_len g) r_Size_len) spG_lenAll (fun _ _ _ _ _ _ us hl => match us, hl with | [_], _ => rfl)).mono hk, F.kp⟩
theorem t_Size_eq : TabsOk S 0 (T_Size_eq S.K) := { glo := (tab_cons ⟨_, rfl, .inl g.mf_Size⟩ tab_nil), fn := (tab_cons (e_isi g.fr_isinstance) tab_nil), att := (tab_cons ent_att tab_nil) }
theorem n_Size_eq {k : Nat} (hk : 1 ≤ k) : FnG S k (He.ma S.K (He.ga S.K "Size") "__eq__") (f_Size_eq S.K).sp ∧ PySem.W.keepIn S.K (.ref (He.ma S.K (He.ga S.K "Size") "__eq__")) = true := by
  obtain ⟨fd, F⟩ := g.d_Size_eq
  exact ⟨(fn_pos F (fn_dat true false F sc_Size_eq (t_Size_eq g) r_Size_eq) spG_lenAll (fun _ _ _ _ _ _ us hl => match us, hl with | [_, _], _ => rfl)).mono hk, F.kp⟩
theorem t_power_text : TabsOk S 0 (T_power_text S.K) := {  }
theorem n_power_text {k : Nat} (hk : 1 ≤ k) : FnG S k (He.ga S.K "power_text") (f_power_text S.K).sp ∧ PySem.W.keepIn S.K (.ref (He.ga S.K "power_text")) = true := by
  obtain ⟨fd, F⟩ := g.d_power_text
  exact ⟨(fn_pos F (fn_dat true false F sc_power_text (t_power_text g) r_power_text) spG_lenAll (fun _ _ _ _ _ _ us hl => match us, hl with | [_, _], _ => rfl)).mono hk, F.kp⟩
theorem e_power_text {k : Nat} (hk : 1 ≤ k) : CallE S k "power_text" (f_power_text S.K).sp := ent_fn (n_power_text g hk).1 (Nat.le_refl _) g.mf_power_text (n_power_text g hk).2
theorem t_Size_str : TabsOk S 1 (T_Size_str S.K) := { fn := (tab_cons (e_power_text g (by decide)) tab_nil), mt := (all_cons ent_join all_nil), att := (tab_cons ent_att tab_nil) }
theorem n_Size_str {k : Nat} (hk : 2 ≤ k) : FnG S k (He.ma S.K (He.ga S.K "Size") "__str__") (f_Size_str S.K).sp ∧ PySem.W.keepIn S.K (.ref (He.ma S.K (He.ga S.K "Size") "__str__")) = true := by
  obtain ⟨fd, F⟩ := g.d_Size_str
  exact ⟨(fn_pos F (fn_dat true false F sc_Size_str (t_Size_str g) r_Size_str) spG_lenAll (fun _ _ _ _ _ _ us hl => match us, hl with | [_], _ => rfl)).mono hk, F.kp⟩
theorem t__law_choice : TabsOk S 1 (T__law_choice S.K) := { fn := (tab_cons (e__law_draw g (by decide)) (tab_cons (e_len g.fr_len) tab_nil)) }
theorem n__law_choice {k : Nat} (hk : 2 ≤ k) : FnG S k (He.ga S.K "_law_choice") (f__law_choice S.K).sp ∧ PySem.W.keepIn S.K (.ref (He.ga S.K "_law_choice")) = true := by
  obtain ⟨fd, F⟩ := g.d__law_choice
  exact ⟨(fn_pos F (fn_dat false false F sc__law_choice (t__law_choice g) r__law_choice) spG_lenAll (fun _ _ _ _ _ _ us hl => match us, hl with | [_, _], _ => rfl)).mono hk, F.kp⟩
theorem e__law_choice {k : Nat} (hk : 2 ≤ k) : CallE S k "_law_choice" (f__law_choice S.K).sp := ent_fn (n__law_choice g hk).1 (Nat.le_refl _) g.mf__law_choice (n__law_choice g hk).2
theorem t__law_names : TabsOk S 2 (T__law_names S.K) := { blt := (all_cons g.fr_range all_nil), fn := (tab_cons (e__law_draw g (by decide)) (tab_cons (e__law_choice g (by decide)) tab_nil)), mt := (all_cons ent_join (all_cons ent_append all_nil)) }
theorem n__law_names {k : Nat} (hk : 3 ≤ k) : FnG S k (He.ga S.K "_law_names") (f__law_names S.K).sp ∧ PySem.W.keepIn S.K (.ref (He.ga S.K "_law_names")) = true := by
  obtain ⟨fd, F⟩ := g.d__law_names
  exact ⟨(fn_pos F (fn_dat false true F sc__law_names (t__law_names g) r__law_names) spG_lenAll (fun _ _ _ _ _ _ us hl => match us, hl with | [_, _, _], _ => rfl)).mono hk, F.kp⟩
theorem e__law_names {k : Nat} (hk : 3 ≤ k) : CallE S k "_law_names" (f__law_names S.K).sp := ent_fn (n__law_names g hk).1 (Nat.le_refl _) g.mf__law_names (n__law_names g hk).2
theorem t__law_times : TabsOk S 0 (T__law_times S.K) := { fn := (tab_cons (e_dict g.fr_dict) (tab_cons (e_sorted g.fr_sorted) tab_nil)), mt := (all_cons ent_getW all_nil) }
theorem n__law_times {k : Nat} (hk : 1 ≤ k) : FnG S k (He.ga S.K "_law_times") (f__law_times S.K).sp ∧ PySem.W.keepIn S.K (.ref (He.ga S.K "_law_times")) = true := by
  obtain ⟨fd, F⟩ := g.d__law_times
  exact ⟨(fn_pos F (fn_dat true true F sc__law_times (t__law_times g) r__law_times) spG_lenAll (fun _ _ _ _ _ _ us hl => match us, hl with | [_, _], _ => rfl)).mono hk, F.kp⟩
theorem e__law_times {k : Nat} (hk : 1 ≤ k) : CallE S k "_law_times" (f__law_times S.K).sp := ent_fn (n__law_times g hk).1 (Nat.le_refl _) g.mf__law_times (n__law_times g hk).2
theorem t__law_passed : TabsOk S 1 (T__law_passed S.K) := { fn := (tab_cons (e__law_draw g (by decide)) tab_nil) }
theorem n__law_passed {k : Nat} (hk : 2 ≤ k) : FnG S k (He.ga S.K "_law_passed") (f__law_passed S.K).sp ∧ PySem.W.keepIn S.K (.ref (He.ga S.K "_law_passed")) = true := by
  obtain ⟨fd, F⟩ := g.d__law_passed
  exact ⟨(fn_pos F (fn_dat false true F sc__law_passed (t__law_passed g) r__law_passed) spG_lenAll (fun _ _ _ _ _ _ us hl => match us, hl with | [_, _], _ => rfl)).mono hk, F.kp⟩
theorem e__law_passed {k : Nat} (hk : 2 ≤ k) : CallE S k "_law_passed" (f__law_passed S.K).sp := ent_fn (n__law_passed g hk).1 (Nat.le_refl _) g.mf__law_passed (n__law_passed g hk).2
theorem t__law_less : TabsOk S 0 (T__law_less S.K) := { fn := (tab_cons (e_dict g.fr_dict) tab_nil) }
theorem n__law_less {k : Nat} (hk : 1 ≤ k) : FnG S k (He.ga S.K "_law_less") (f__law_less S.K).sp ∧ PySem.W.keepIn S.K (.ref (He.ga S.K "_law_less")) = true := by
  obtain ⟨fd, F⟩ := g.d__law_less
  exact ⟨(fn_pos F (fn_dat true true F sc__law_less (t__law_less g) r__law_less) spG_lenAll (fun _ _ _ _ _ _ us hl => match us, hl with | [_], _ => rfl)).mono hk, F.kp⟩
theorem e__law_less {k : Nat} (hk : 1 ≤ k) : CallE S k "_law_less" (f__law_less S.K).sp := ent_fn (n__law_less g hk).1 (Nat.le_refl _) g.mf__law_less (n__law_less g hk).2
theorem t__law_raised : TabsOk S 0 (T__law_raised S.K) := { fn := (tab_cons (e_dict g.fr_dict) tab_nil) }
theorem n__law_raised {k : Nat} (hk : 1 ≤ k) : FnG S k (He.ga S.K "_law_raised") (f__law_raised S.K).sp ∧ PySem.W.keepIn S.K (.ref (He.ga S.K "_law_raised")) = true := by
  obtain ⟨fd, F⟩ := g.d__law_raised
  exact ⟨(fn_pos F (fn_dat true true F sc__law_raised (t__law_raised g) r__law_raised) spG_lenAll (fun _ _ _ _ _ _ us hl => match us, hl with | [_, _], _ => rfl)).mono hk, F.kp⟩
theorem e__law_raised {k : Nat} (hk : 1 ≤ k) : CallE S k "_law_raised" (f__law_raised S.K).sp := ent_fn (n__law_raised g hk).1 (Nat.le_refl _) g.mf__law_raised (n__law_raised g hk).2
theorem t__law_is : TabsOk S 2 (T__law_is S.K) := { glo := (tab_cons ⟨_, rfl, .inl g.mf_Size⟩ tab_nil), blt := (all_cons g.fr_list all_nil), fn := (tab_cons (e_lenO g.fr_len (n_Size_len g (Nat.le_refl 1)).1 (by decide) g.du__len__.1 g.du__len__.2) (tab_cons (e_list g.fr_list) (tab_cons (e_all g.fr_all) (tab_cons (e_repr g.fr_repr g.sm) (tab_cons (e_isi g.fr_isinstance) tab_nil))))), mt := (all_cons (ent_meth g.gp.ins.cl g.me_names (n_Size_names g (Nat.le_refl 1)).1 (by decide)) (all_cons (ent_meth g.gp.ins.cl g.me_exponents (n_Size_exponents g (Nat.le_refl 1)).1 (by decide)) (all_cons (ent_meth g.gp.ins.cl g.me_exponent (n_Size_exponent g (Nat.le_refl 2)).1 (by decide)) all_nil))), att := (tab_cons (ent_prop g.gp.ins.cl g.pr_is_whole (n_Size_is_whole g (Nat.le_refl 1)).1 (by decide)) tab_nil) }
theorem n__law_is {k : Nat} (hk : 3 ≤ k) : FnG S k (He.ga S.K "_law_is") (f__law_is S.K).sp ∧ PySem.W.keepIn S.K (.ref (He.ga S.K "_law_is")) = true := by
  obtain ⟨fd, F⟩ := g.d__law_is
  exact ⟨(fn_pos F (fn_dat false false F sc__law_is (t__law_is g) r__law_is) spG_lenAll (fun _ _ _ _ _ _ us hl => match us, hl with | [_, _], _ => rfl)).mono hk, F.kp⟩
theorem e__law_is {k : Nat} (hk : 3 ≤ k) : CallE S k "_law_is" (f__law_is S.K).sp := ent_fn (n__law_is g hk).1 (Nat.le_refl _) g.mf__law_is (n__law_is g hk).2
theorem t__law_one_right : TabsOk S 5 (T__law_one_right S.K) := { blt := (all_cons g.fr_list all_nil), fn := (tab_cons (e__law_times g (by decide)) (tab_cons (e_dict g.fr_dict) (tab_cons (e_repr g.fr_repr g.sm) (tab_cons (e_Size g (by decide)) (tab_cons (e__law_is g (by decide)) (tab_cons (e_any g.fr_any) tab_nil)))))), mt := (all_cons ent_getW (all_cons (ent_meth g.gp.ins.cl g.me_exponents (n_Size_exponents g (Nat.le_refl 1)).1 (by decide)) (all_cons (ent_meth g.gp.ins.cl g.me_names (n_Size_names g (Nat.le_refl 1)).1 (by decide)) (all_cons ent_append (all_cons (ent_meth g.gp.ins.cl g.me_exponent (n_Size_exponent g (Nat.le_refl 2)).1 (by decide)) (all_cons (ent_meth g.gp.ins.cl g.me_over (n_Size_over g (Nat.le_refl 5)).1 (by decide)) all_nil)))))), att := (tab_cons (ent_prop g.gp.ins.cl g.pr_bottom (n_Size_bottom g (Nat.le_refl 4)).1 (by decide)) (tab_cons (ent_prop g.gp.ins.cl g.pr_top (n_Size_top g (Nat.le_refl 4)).1 (by decide)) tab_nil)), cmpX := (all_cons (ent_ne (n_Size_eq g (Nat.le_refl 1)).1 (by decide) g.ne g.du__eq__.1 g.du__eq__.2 g.so) (all_cons (ent_in (n_Size_contains g (Nat.le_refl 1)).1 (by decide) g.du__contains__.1 g.du__contains__.2) all_nil)) }
theorem n__law_one_right {k : Nat} (hk : 6 ≤ k) : FnG S k (He.ga S.K "_law_one_right") (f__law_one_right S.K).sp ∧ PySem.W.keepIn S.K (.ref (He.ga S.K "_law_one_right")) = true := by
  obtain ⟨fd, F⟩ := g.d__law_one_right
  exact ⟨(fn_pos F (fn_dat false false F sc__law_one_right (t__law_one_right g) r__law_one_right) spG_lenAll (fun _ _ _ _ _ _ us hl => match us, hl with | [_, _, _], _ => rfl)).mono hk, F.kp⟩
theorem e__law_one_right {k : Nat} (hk : 6 ≤ k) : CallE S k "_law_one_right" (f__law_one_right S.K).sp := ent_fn (n__law_one_right g hk).1 (Nat.le_refl _) g.mf__law_one_right (n__law_one_right g hk).2
theorem t__law_powers_right : TabsOk S 5 (T__law_powers_right S.K) := { fn := (tab_cons (e__law_choice g (by decide)) (tab_cons (e__law_is g (by decide)) (tab_cons (e__law_raised g (by decide)) (tab_cons (e_Size g (by decide)) tab_nil)))), mt := (all_cons (ent_meth g.gp.ins.cl g.me_power (n_Size_power g (Nat.le_refl 4)).1 (by decide)) all_nil), binX := (all_cons (ent_bin (n_Size_mul g (Nat.le_refl 5)).1 (by decide) g.sf g.du__mul__.1 g.du__mul__.2) all_nil), cmpX := (all_cons (ent_cmp (fun _ _ => rfl) (n_Size_eq g (Nat.le_refl 1)).1 (by decide) g.du__eq__.1 g.du__eq__.2) all_nil) }
theorem n__law_powers_right {k : Nat} (hk : 6 ≤ k) : FnG S k (He.ga S.K "_law_powers_right") (f__law_powers_right S.K).sp ∧ PySem.W.keepIn S.K (.ref (He.ga S.K "_law_powers_right")) = true := by
  obtain ⟨fd, F⟩ := g.d__law_powers_right
  exact ⟨(fn_pos F (fn_dat false false F sc__law_powers_right (t__law_powers_right g) r__law_powers_right) spG_lenAll (fun _ _ _ _ _ _ us hl => match us, hl with | [_, _, _], _ => rfl)).mono hk, F.kp⟩
theorem e__law_powers_right {k : Nat} (hk : 6 ≤ k) : CallE S k "_law_powers_right" (f__law_powers_right S.K).sp := ent_fn (n__law_powers_right g hk).1 (Nat.le_refl _) g.mf__law_powers_right (n__law_powers_right g hk).2
theorem t__law_pair_right : TabsOk S 6 (T__law_pair_right S.K) := { glo := (tab_cons ⟨_, rfl, .inl g.mf_Size⟩ tab_nil), fn := (tab_cons (e_Size g (by decide)) (tab_cons (e__law_times g (by decide)) (tab_cons (e__law_less g (by decide)) (tab_cons (e__law_is g (by decide)) (tab_cons (e_strO g.fr_str (n_Size_str g (Nat.le_refl 2)).1 (by decide) g.du__str__.1 g.du__str__.2) (tab_cons (e_repr g.fr_repr g.sm) (tab_cons (e__law_powers_right g (by decide)) tab_nil))))))), mt := (all_cons (ent_cm g.rd g.cm_product (n_Size_product g (Nat.le_refl 4)).1 (by decide)) (all_cons (ent_meth g.gp.ins.cl g.me_over (n_Size_over g (Nat.le_refl 5)).1 (by decide)) all_nil)), binX := (all_cons (ent_bin (n_Size_mul g (Nat.le_refl 5)).1 (by decide) g.sf g.du__mul__.1 g.du__mul__.2) all_nil), cmpX := (all_cons (ent_cmp (fun _ _ => rfl) (n_Size_eq g (Nat.le_refl 1)).1 (by decide) g.du__eq__.1 g.du__eq__.2) (all_cons (ent_ne (n_Size_eq g (Nat.le_refl 1)).1 (by decide) g.ne g.du__eq__.1 g.du__eq__.2 g.so) all_nil)) }
theorem n__law_pair_right {k : Nat} (hk : 7 ≤ k) : FnG S k (He.ga S.K "_law_pair_right") (f__law_pair_right S.K).sp ∧ PySem.W.keepIn S.K (.ref (He.ga S.K "_law_pair_right")) = true := by
  obtain ⟨fd, F⟩ := g.d__law_pair_right
  exact ⟨(fn_pos F (fn_dat false false F sc__law_pair_right (t__law_pair_right g) r__law_pair_right) spG_lenAll (fun _ _ _ _ _ _ us hl => match us, hl with | [_, _, _], _ => rfl)).mono hk, F.kp⟩
theorem e__law_pair_right {k : Nat} (hk : 7 ≤ k) : CallE S k "_law_pair_right" (f__law_pair_right S.K).sp := ent_fn (n__law_pair_right g hk).1 (Nat.le_refl _) g.mf__law_pair_right (n__law_pair_right g hk).2
theorem t__law_right : TabsOk S 7 (T__law_right S.K) := { blt := (all_cons g.fr_range all_nil), fn := (tab_cons (e__law_names g (by decide)) (tab_cons (e__law_draw g (by decide)) (tab_cons (e__law_passed g (by decide)) (tab_cons (e_dict g.fr_dict) (tab_cons (e__law_times g (by decide)) (tab_cons (e_all g.fr_all) (tab_cons (e__law_one_right g (by decide)) (tab_cons (e__law_pair_right g (by decide)) tab_nil)))))))) }
theorem n__law_right {k : Nat} (hk : 8 ≤ k) : FnG S k (He.ga S.K "_law_right") (f__law_right S.K).sp ∧ PySem.W.keepIn S.K (.ref (He.ga S.K "_law_right")) = true := by
  obtain ⟨fd, F⟩ := g.d__law_right
  exact ⟨(fn_pos F (fn_dat false false F sc__law_right (t__law_right g) r__law_right) spG_lenAll (fun _ _ _ _ _ _ us hl => match us, hl with | [_], _ => rfl)).mono hk, F.kp⟩
theorem e__law_right {k : Nat} (hk : 8 ≤ k) : CallE S k "_law_right" (f__law_right S.K).sp := ent_fn (n__law_right g hk).1 (Nat.le_refl _) g.mf__law_right (n__law_right g hk).2
theorem t_Size_of : TabsOk S 3 (T_Size_of S.K) := { cv := all_cons (Runs.cv (R_Size g (by decide))) all_nil }
theorem n_Size_of {k : Nat} (hk : 4 ≤ k) : FnK S k ((⟨"Size", some "of", some "classmethod"⟩ : Pl).ad S.K) 1 k_of (kwSp k_of (spG false false (u_Size_of S.K))) := by
  obtain ⟨fd, F⟩ := g.d_Size_of
  exact (fn_datK (ps := (["cls"] : List Str)) k_of F sc_Size_of (t_Size_of g) (by decide) (by decide) r_Size_of fun _ _ _ _ _ _ us ws h1 h2 => match us, ws, h1, h2 with | [_], [_, _, _], _, _ => rfl).mono hk
theorem n_Size_of0 {k : Nat} (hk : 4 ≤ k) : FnK S k ((⟨"Size", some "of", some "classmethod"⟩ : Pl).ad S.K) 1 ([] : List Str) (kwSp ([] : List Str) (spG false false (u_Size_of S.K))) := by
  obtain ⟨fd, F⟩ := g.d_Size_of
  exact (fn_datK (ps := (["cls"] : List Str)) ([] : List Str) F sc_Size_of (t_Size_of g) (by decide) (by decide) r_Size_of fun _ _ _ _ _ _ us ws h1 h2 => match us, ws, h1, h2 with | [_], [], _, _ => rfl).mono hk
theorem t_law : TabsOk S 8 (T_law S.K) := { glo := (tab_cons ⟨_, rfl, .inl g.mf_Size⟩ tab_nil), blt := (all_cons g.fr_range all_nil), fn := (tab_cons (e__law_is g (by decide)) (tab_cons (e_Size g (by decide)) (tab_cons (e_all g.fr_all) (tab_cons (ent_max g.fr_max) (tab_cons (ent_min g.fr_min) (tab_cons (e_len g.fr_len) (tab_cons (e__law_right g (by decide)) (tab_cons (e__law_rng g (by decide)) tab_nil)))))))), mt := (all_cons (ent_cm g.rd g.cm_of (FnK.pos (n_Size_of0 g (Nat.le_refl 4))) (by decide)) all_nil), mtK := tabK_cons (ent_cmK g.rd g.cm_of (n_Size_of g (Nat.le_refl 4)) (by decide)) tabK_nil, cmpX := (all_cons (ent_cmp (fun _ _ => rfl) (n_Size_eq g (Nat.le_refl 1)).1 (by decide) g.du__eq__.1 g.du__eq__.2) (all_cons (ent_ne (n_Size_eq g (Nat.le_refl 1)).1 (by decide) g.ne g.du__eq__.1 g.du__eq__.2 g.so) all_nil)) }
theorem law_fn : FnG S 9 (He.ga S.K "law") (sp_law S.K) := by
  obtain ⟨fd, F⟩ := g.d_law
  have len : ∀ vs H Q E, sp_law S.K vs H Q E → vs.length = (["_law_script"] : List Str).length := fun vs H Q E ⟨_, _, e, _⟩ => by rw [e]; rfl
  refine fn_pos F (fn_by (T := T_law) (n := 40) F sc_law (t_law g) len r_law fun vs H Q E h => ?_) len (fun _ _ _ _ _ _ us hl => match us, hl with | [_], _ => rfl)
  obtain ⟨a, ns, rfl, hS, k⟩ := h
  have e0 : start N_law [V.ref a] = [some (.ref a), none] := rfl
  rw [e0]
  refine pre_seq (fun U hu => p_law0 g.gp hu) fun H1 y1 x1 => pre_seq (fun U hu => p_law1 g.gp hu) fun H2 y2 x2 => ?_
  exact pure_end S.K (by decide) (by decide) (fun P X h => p_right g.gp h) (x2.sqL (x1.sqL hS)) k
end
end AS.K11

set_option Elab.async false
set_option linter.all false
set_option maxRecDepth 100000
set_option maxHeartbeats 0
/-! K11Z: the head and the end (printed by gen11w.py). -/
namespace AS.K11
open PySem PySem.Spec PyProof.Rows L2
def bs (K : PySem.W.Frag) : List Bool := [He.Fa.ok K (.free "abs"),
  He.Fa.ok K (.free "all"),
  He.Fa.ok K (.free "any"),
  He.Fa.ok K (.free "bool"),
  He.Fa.ok K (.free "dict"),
  He.Fa.ok K (.free "divmod"),
  He.Fa.ok K (.free "int"),
  He.Fa.ok K (.free "isinstance"),
  He.Fa.ok K (.free "len"),
  He.Fa.ok K (.free "list"),
  He.Fa.ok K (.free "max"),
  He.Fa.ok K (.free "min"),
  He.Fa.ok K (.free "range"),
  He.Fa.ok K (.free "repr"),
  He.Fa.ok K (.free "sorted"),
  He.Fa.ok K (.free "str"),
  He.Fa.ok K (.glo "_law_rng"),
  He.Fa.ok K (.glo "_law_draw"),
  He.Fa.ok K (.glo "is_integer"),
  He.Fa.ok K (.glo "is_count"),
  He.Fa.ok K (.glo "is_name"),
  He.Fa.ok K (.glo "want_size"),
  He.Fa.ok K (.glo "power_text"),
  He.Fa.ok K (.glo "_law_choice"),
  He.Fa.ok K (.glo "_law_names"),
  He.Fa.ok K (.glo "_law_times"),
  He.Fa.ok K (.glo "_law_passed"),
  He.Fa.ok K (.glo "_law_less"),
  He.Fa.ok K (.glo "_law_raised"),
  He.Fa.ok K (.glo "_law_is"),
  He.Fa.ok K (.glo "_law_one_right"),
  He.Fa.ok K (.glo "_law_powers_right"),
  He.Fa.ok K (.glo "_law_pair_right"),
  He.Fa.ok K (.glo "_law_right"),
  He.Fa.ok K (.glo "law"),
  He.Fa.ok K (.glo "Size"),
  He.Fa.ok K (.int "MOST_LETTERS" 8),
  He.Fa.ok K (.str "LETTERS" "abcdefghijklmnopqrstuvwxyz"),
  smB K,
  He.Fa.ok K (.mkr "Size"),
  readB K (CS K),
  cmB K "Size" "product",
  cmB K "Size" "of",
  propB K "Size" "is_whole",
  propB K "Size" "top",
  propB K "Size" "bottom",
  He.Fa.ok K (.meth "Size" "names"),
  He.Fa.ok K (.meth "Size" "exponents"),
  He.Fa.ok K (.meth "Size" "exponent"),
  He.Fa.ok K (.meth "Size" "over"),
  He.Fa.ok K (.meth "Size" "power"),
  dunB K "Size" "__mul__",
  dunB K "Size" "__contains__",
  dunB K "Size" "__len__",
  dunB K "Size" "__eq__",
  dunB K "Size" "__str__",
  He.eqO (PySem.W.findIn K (.ref (CS K)) "__ne__") (some (some (.builtin "object.__ne__"))),
  decide (PySem.W.subIn K (.ref (CS K)) (.type "object") = some true),
  PySem.W.selfFirst K (CS K),
  He.Fa.ok K (.cls "Size"),
  insB K (CS K),
  He.Fa.ok K (.noat "Size" "own_exponents"),
  kitB K (.type "NoneType") (.ref (CS K)) false,
  kitB K (.type "bool") (.ref (CS K)) false,
  kitB K (.type "int") (.ref (CS K)) false,
  kitB K (.type "str") (.ref (CS K)) false,
  kitB K (.type "list") (.ref (CS K)) false,
  kitB K (.type "tuple") (.ref (CS K)) false,
  kitB K (.type "dict") (.ref (CS K)) false,
  kitB K (.ref (CS K)) (.type "str") false,
  kitB K (.ref (CS K)) (.type "int") false,
  kitB K (.ref (CS K)) (.type "bool") false,
  kitB K (.ref (CS K)) (.type "dict") false]
def chk (K : PySem.W.Frag) : Bool := (bs K).all id
def fns : List DefE := [⟨⟨"_law_rng", none, none⟩, "_law_rng", "_law_rng", s__law_rng, []⟩,
  ⟨⟨"_law_draw", none, none⟩, "_law_draw", "_law_draw", s__law_draw, []⟩,
  ⟨⟨"is_integer", none, none⟩, "is_integer", "is_integer", s_is_integer, []⟩,
  ⟨⟨"is_count", none, none⟩, "is_count", "is_count", s_is_count, []⟩,
  ⟨⟨"is_name", none, none⟩, "is_name", "is_name", s_is_name, []⟩,
  ⟨⟨"want_size", none, none⟩, "want_size", "want_size", s_want_size, []⟩,
  ⟨⟨"Size", some "__init__", none⟩, "__init__", "Size.__init__", s_Size_init, [.non]⟩,
  ⟨⟨"Size", some "product", some "classmethod"⟩, "product", "Size.product", s_Size_product, []⟩,
  ⟨⟨"Size", some "is_whole", some "property"⟩, "is_whole", "Size.is_whole", s_Size_is_whole, []⟩,
  ⟨⟨"Size", some "top", some "property"⟩, "top", "Size.top", s_Size_top, []⟩,
  ⟨⟨"Size", some "bottom", some "property"⟩, "bottom", "Size.bottom", s_Size_bottom, []⟩,
  ⟨⟨"Size", some "names", none⟩, "names", "Size.names", s_Size_names, []⟩,
  ⟨⟨"Size", some "exponents", none⟩, "exponents", "Size.exponents", s_Size_exponents, []⟩,
  ⟨⟨"Size", some "exponent", none⟩, "exponent", "Size.exponent", s_Size_exponent, []⟩,
  ⟨⟨"Size", some "over", none⟩, "over", "Size.over", s_Size_over, []⟩,
  ⟨⟨"Size", some "power", none⟩, "power", "Size.power", s_Size_power, []⟩,
  ⟨⟨"Size", some "__mul__", none⟩, "__mul__", "Size.__mul__", s_Size_mul, []⟩,
  ⟨⟨"Size", some "__contains__", none⟩, "__contains__", "Size.__contains__", s_Size_contains, []⟩,
  ⟨⟨"Size", some "__len__", none⟩, "__len__", "Size.__len__", s_Size_len, []⟩,
  ⟨⟨"Size", some "__eq__", none⟩, "__eq__", "Size.__eq__", s_Size_eq, []⟩,
  ⟨⟨"power_text", none, none⟩, "power_text", "power_text", s_power_text, []⟩,
  ⟨⟨"Size", some "__str__", none⟩, "__str__", "Size.__str__", s_Size_str, []⟩,
  ⟨⟨"_law_choice", none, none⟩, "_law_choice", "_law_choice", s__law_choice, []⟩,
  ⟨⟨"_law_names", none, none⟩, "_law_names", "_law_names", s__law_names, []⟩,
  ⟨⟨"_law_times", none, none⟩, "_law_times", "_law_times", s__law_times, []⟩,
  ⟨⟨"_law_passed", none, none⟩, "_law_passed", "_law_passed", s__law_passed, []⟩,
  ⟨⟨"_law_less", none, none⟩, "_law_less", "_law_less", s__law_less, []⟩,
  ⟨⟨"_law_raised", none, none⟩, "_law_raised", "_law_raised", s__law_raised, []⟩,
  ⟨⟨"_law_is", none, none⟩, "_law_is", "_law_is", s__law_is, []⟩,
  ⟨⟨"_law_one_right", none, none⟩, "_law_one_right", "_law_one_right", s__law_one_right, []⟩,
  ⟨⟨"_law_powers_right", none, none⟩, "_law_powers_right", "_law_powers_right", s__law_powers_right, []⟩,
  ⟨⟨"_law_pair_right", none, none⟩, "_law_pair_right", "_law_pair_right", s__law_pair_right, []⟩,
  ⟨⟨"_law_right", none, none⟩, "_law_right", "_law_right", s__law_right, []⟩,
  ⟨⟨"Size", some "of", some "classmethod"⟩, "of", "Size.of", s_Size_of, []⟩,
  ⟨⟨"law", none, none⟩, "law", "law", s_law, []⟩]
theorem pick {l : List Bool} (h : l.all id = true) (i : Nat) {b : Bool} (e : l[i]? = some b) : b = true := List.all_eq_true.mp h b (List.mem_of_getElem? e)
theorem facts {P : Program} {w : World} {K : PySem.W.Frag} {h base : Heap} {mg : Str → Option Value} (X : K.In h) (N : h.Ns mainGlobals mg) (c : SaysE chk fns K) : G ⟨P, w, K, mg, base⟩ :=
  { gp := ⟨insB_ok (He.cls_ok (x := "Size") (pick c.holds 59 rfl)) (pick c.holds 60 rfl), He.noat_ok (x := "Size") (f := "own_exponents") (pick c.holds 61 rfl), kitB_ok (pick c.holds 62 rfl), kitB_ok (pick c.holds 63 rfl), kitB_ok (pick c.holds 64 rfl), kitB_ok (pick c.holds 65 rfl), kitB_ok (pick c.holds 66 rfl), kitB_ok (pick c.holds 67 rfl), kitB_ok (pick c.holds 68 rfl), kitB_ok (pick c.holds 69 rfl), kitB_ok (pick c.holds 70 rfl), kitB_ok (pick c.holds 71 rfl), kitB_ok (pick c.holds 72 rfl)⟩,
    fr_abs := He.free_ok X N (x := "abs") (pick c.holds 0 rfl),
    fr_all := He.free_ok X N (x := "all") (pick c.holds 1 rfl),
    fr_any := He.free_ok X N (x := "any") (pick c.holds 2 rfl),
    fr_bool := He.free_ok X N (x := "bool") (pick c.holds 3 rfl),
    fr_dict := He.free_ok X N (x := "dict") (pick c.holds 4 rfl),
    fr_divmod := He.free_ok X N (x := "divmod") (pick c.holds 5 rfl),
    fr_int := He.free_ok X N (x := "int") (pick c.holds 6 rfl),
    fr_isinstance := He.free_ok X N (x := "isinstance") (pick c.holds 7 rfl),
    fr_len := He.free_ok X N (x := "len") (pick c.holds 8 rfl),
    fr_list := He.free_ok X N (x := "list") (pick c.holds 9 rfl),
    fr_max := He.free_ok X N (x := "max") (pick c.holds 10 rfl),
    fr_min := He.free_ok X N (x := "min") (pick c.holds 11 rfl),
    fr_range := He.free_ok X N (x := "range") (pick c.holds 12 rfl),
    fr_repr := He.free_ok X N (x := "repr") (pick c.holds 13 rfl),
    fr_sorted := He.free_ok X N (x := "sorted") (pick c.holds 14 rfl),
    fr_str := He.free_ok X N (x := "str") (pick c.holds 15 rfl),
    mf__law_rng := He.glo_ok X N (x := "_law_rng") (pick c.holds 16 rfl),
    mf__law_draw := He.glo_ok X N (x := "_law_draw") (pick c.holds 17 rfl),
    mf_is_integer := He.glo_ok X N (x := "is_integer") (pick c.holds 18 rfl),
    mf_is_count := He.glo_ok X N (x := "is_count") (pick c.holds 19 rfl),
    mf_is_name := He.glo_ok X N (x := "is_name") (pick c.holds 20 rfl),
    mf_want_size := He.glo_ok X N (x := "want_size") (pick c.holds 21 rfl),
    mf_power_text := He.glo_ok X N (x := "power_text") (pick c.holds 22 rfl),
    mf__law_choice := He.glo_ok X N (x := "_law_choice") (pick c.holds 23 rfl),
    mf__law_names := He.glo_ok X N (x := "_law_names") (pick c.holds 24 rfl),
    mf__law_times := He.glo_ok X N (x := "_law_times") (pick c.holds 25 rfl),
    mf__law_passed := He.glo_ok X N (x := "_law_passed") (pick c.holds 26 rfl),
    mf__law_less := He.glo_ok X N (x := "_law_less") (pick c.holds 27 rfl),
    mf__law_raised := He.glo_ok X N (x := "_law_raised") (pick c.holds 28 rfl),
    mf__law_is := He.glo_ok X N (x := "_law_is") (pick c.holds 29 rfl),
    mf__law_one_right := He.glo_ok X N (x := "_law_one_right") (pick c.holds 30 rfl),
    mf__law_powers_right := He.glo_ok X N (x := "_law_powers_right") (pick c.holds 31 rfl),
    mf__law_pair_right := He.glo_ok X N (x := "_law_pair_right") (pick c.holds 32 rfl),
    mf__law_right := He.glo_ok X N (x := "_law_right") (pick c.holds 33 rfl),
    mf_law := He.glo_ok X N (x := "law") (pick c.holds 34 rfl),
    mf_Size := He.glo_ok X N (x := "Size") (pick c.holds 35 rfl),
    ml := He.int_ok X N (x := "MOST_LETTERS") (i := 8) (pick c.holds 36 rfl),
    lt := He.str_ok X N (x := "LETTERS") (z := "abcdefghijklmnopqrstuvwxyz") (pick c.holds 37 rfl),
    sm := smB_ok (pick c.holds 38 rfl),
    mkS := He.mkr_ok (x := "Size") (pick c.holds 39 rfl),
    rd := readB_ok (pick c.holds 40 rfl),
    cm_product := cmB_ok (x := "Size") (m := "product") (pick c.holds 41 rfl),
    cm_of := cmB_ok (x := "Size") (m := "of") (pick c.holds 42 rfl),
    pr_is_whole := propB_ok (x := "Size") (f := "is_whole") (pick c.holds 43 rfl),
    pr_top := propB_ok (x := "Size") (f := "top") (pick c.holds 44 rfl),
    pr_bottom := propB_ok (x := "Size") (f := "bottom") (pick c.holds 45 rfl),
    me_names := He.meth_ok (x := "Size") (m := "names") (pick c.holds 46 rfl),
    me_exponents := He.meth_ok (x := "Size") (m := "exponents") (pick c.holds 47 rfl),
    me_exponent := He.meth_ok (x := "Size") (m := "exponent") (pick c.holds 48 rfl),
    me_over := He.meth_ok (x := "Size") (m := "over") (pick c.holds 49 rfl),
    me_power := He.meth_ok (x := "Size") (m := "power") (pick c.holds 50 rfl),
    du__mul__ := dunB_ok (x := "Size") (m := "__mul__") (pick c.holds 51 rfl),
    du__contains__ := dunB_ok (x := "Size") (m := "__contains__") (pick c.holds 52 rfl),
    du__len__ := dunB_ok (x := "Size") (m := "__len__") (pick c.holds 53 rfl),
    du__eq__ := dunB_ok (x := "Size") (m := "__eq__") (pick c.holds 54 rfl),
    du__str__ := dunB_ok (x := "Size") (m := "__str__") (pick c.holds 55 rfl),
    ne := He.eqO_ok (pick c.holds 56 rfl),
    so := of_decide_eq_true (pick c.holds 57 rfl),
    sf := (pick c.holds 58 rfl),
    d__law_rng := c.def_ 0 rfl,
    d__law_draw := c.def_ 1 rfl,
    d_is_integer := c.def_ 2 rfl,
    d_is_count := c.def_ 3 rfl,
    d_is_name := c.def_ 4 rfl,
    d_want_size := c.def_ 5 rfl,
    d_Size_init := c.def_ 6 rfl,
    d_Size_product := c.def_ 7 rfl,
    d_Size_is_whole := c.def_ 8 rfl,
    d_Size_top := c.def_ 9 rfl,
    d_Size_bottom := c.def_ 10 rfl,
    d_Size_names := c.def_ 11 rfl,
    d_Size_exponents := c.def_ 12 rfl,
    d_Size_exponent := c.def_ 13 rfl,
    d_Size_over := c.def_ 14 rfl,
    d_Size_power := c.def_ 15 rfl,
    d_Size_mul := c.def_ 16 rfl,
    d_Size_contains := c.def_ 17 rfl,
    d_Size_len := c.def_ 18 rfl,
    d_Size_eq := c.def_ 19 rfl,
    d_power_text := c.def_ 20 rfl,
    d_Size_str := c.def_ 21 rfl,
    d__law_choice := c.def_ 22 rfl,
    d__law_names := c.def_ 23 rfl,
    d__law_times := c.def_ 24 rfl,
    d__law_passed := c.def_ 25 rfl,
    d__law_less := c.def_ 26 rfl,
    d__law_raised := c.def_ 27 rfl,
    d__law_is := c.def_ 28 rfl,
    d__law_one_right := c.def_ 29 rfl,
    d__law_powers_right := c.def_ 30 rfl,
    d__law_pair_right := c.def_ 31 rfl,
    d__law_right := c.def_ 32 rfl,
    d_Size_of := c.def_ 33 rfl,
    d_law := c.def_ 34 rfl }
abbrev RW : PySem.W.OpenRow := PySem.W.OpenLaw.row PySem.Challenge.rw_anyshape_k11_sizes_by_dicts
def loose : List Str := (["_wall", "AnyshapeError", "InvalidName", "InvalidSize", "InvalidCount", "InvalidNumbers", "InvalidText", "StateError", "NotWhole", "is_integer", "is_count", "is_name", "is_numbers", "are_numbers_for", "power_of", "integer_in", "exponents_in", "size_in", "power_text", "want_size", "Size", "_law_rng", "_law_draw", "_law_choice", "_law_names", "_law_times", "_law_passed", "_law_less", "_law_raised", "_law_is", "_law_one_right", "_law_powers_right", "_law_pair_right", "_law_right", "LETTERS", "MOST_LETTERS", "FIGURES", "MOST_FIGURES"] : List String).map Str.ofString
theorem run (w : World) : HandSHeadRun.RunEq RW (PySem.W.view RW.prog [43]) (hookE 5 chk fns) (obE 5 chk fns) 20000 loose w := by
  intro os
  kernel_rfl
end AS.K11
open PySem PySem.W PySem.Calls PyProof.Rows
theorem PySem.Challenge.cw_anyshape_k11_sizes_by_dicts_holds : PySem.Challenge.rw_anyshape_k11_sizes_by_dicts.Holds := by
  w_on; o_law
  refine HandSHeadRun.head_any (r := AS.K11.RW) (q := view AS.K11.RW.prog [43]) (H := AS.hookE 5 AS.K11.chk AS.K11.fns) (ob := AS.obE 5 AS.K11.chk AS.K11.fns) (M := 20000) (loose := AS.K11.loose) (d := HandSHeadRun.topDef AS.K11.RW.prog 43) (kwd := []) (AS.obE_eq 5 AS.K11.chk AS.K11.fns)
    (by kernel_rfl) (fun s => by kernel_rfl) AS.K11.run (by kernel_rfl) (by kernel_rfl) (by kernel_rfl) (by rfl) (by first | assumption | decide +kernel) (by decide +kernel) ⟨rfl, rfl, rfl, rfl, rfl, by decide +kernel⟩ ?hw ?hc
  case hw => w_witness2
  case hc =>
    refine AS.walk_G (l := PySem.Challenge.rw_anyshape_k11_sizes_by_dicts) (n := 63) (k := 9) rfl (by decide) (by kernel_rfl) ⟨⟨rfl, by decide, by decide⟩, rfl⟩ ?F
    intro w mg fa h Y N hmg0
    obtain ⟨K, KX, c⟩ := Y
    have hmg : mg ("law" : PySem.Str) = some (.ref fa) := by
      have e : (HandSHeadRun.topDef AS.K11.RW.prog 43).name = ("law" : PySem.Str) := by kernel_rfl
      rw [← e]
      exact hmg0
    have g : ∀ base : Heap, AS.K11.G ⟨PySem.Challenge.rw_anyshape_k11_sizes_by_dicts.prog, w, K, mg, base⟩ := fun base => AS.K11.facts KX N c
    have e := hmg.symm.trans (g h).mf_law
    cases e
    exact ⟨K, AS.sp_law K, KX, fun H a ns _ _ hS => ⟨a, ns, rfl, hS, fun _ => rfl⟩, fun base => AS.K11.law_fn (g base)⟩

