import PyProof.Rows.All
import HandS.ExcInit
import HandS.ExcSuper
import HandS.ExcOwn
import HandS.HeadHook1
import KE.KSuper
import Wide.All
import OpenK.AllK
import Wide.FinOn
import HandS.ForMost
import HandS.ForExc
import HandS.Flow
import HandS.Wide
import HandS.Defaults
import HandS.Rev
import HandS.TupAny
import HandS.Deep
import HandS.DictComp
import HandS.Finally
import HandS.IsInst
import KE.SortData
import KE.KDictKeyed
import KE.KSortAsk
import KE.DataMinMax
import PyProof.SumWalkG
import HandS.ExcIs
import HandS.ExcField
import HandS.TryMany
import KE.KExcIs
import KE.GoesEnum
import KE.KStateDown
import HandS.Head0
import HandS.Head1
import HandS.Head2
import HandS.HeadEnd
import HandS.HeadHook2
import KE.BitLaws
import PySem.Challenge.RW_howhigh_k03_values_of_products_and_sums
set_option Elab.async false
set_option linter.all false
set_option maxRecDepth 100000
set_option maxHeartbeats 4000000
set_option exponentiation.threshold 5000
/-! an own error class over others over ValueError, whose __init__ says super().__init__("..") and sets one field -/
namespace PySem
namespace VSX
open PySem.W PySem.Calls PyProof.Rows PySem.HandSPX
abbrev bw (x : Addr) : Obj := { cls := .type "method-wrapper", dict := none, data := .fields #[.builtin "ValueError.__init__", .ref x], slots := #[] }
theorem type_ei : typeOf (.builtin "ValueError.__init__") = pure (.type "wrapper_descriptor") := by show builtinType _ = _; rw [builtinType_eq_fast]; kernel_rfl
theorem nac : (kfb_private% "nameAndClass") (Value.builtin "ValueError.__init__") = (pure (("__init__" : Str), Value.type "ValueError") : Sem (Str × Value)) := by kernel_rfl
section
variable {prog : Program} {w : World} {M : Model} {A : Around} {E : Value → Shared → Prop} {h : Heap} {g : Array GenState} {d : Drawn} {t : Nat} {os : OsState}
theorem run_wd {x C : Addr} {P : Fin → Shared → Prop} (hin : W.Looks M h (isInstance (.ref x) (.type "ValueError")) true) (hq : P (.done (.ret (.ref h.objs.size))) ⟨h.push (bw x), g, d, t, os⟩) :
    wpAny M A (Builtin.«wrapper_descriptor.__get__» ⟨[.builtin "ValueError.__init__", .ref x, .ref C], []⟩) P E ⟨h, g, d, t, os⟩ := by
  unfold Builtin.«wrapper_descriptor.__get__»
  refine wpAny_bind (wpAny_of_eq (a := (.builtin "ValueError.__init__", some (.ref x), some (.ref C))) (by first | rfl | kernel_rfl) ?_)
  show wpAny M A ((kfb_private% "checkInstance") (.builtin "ValueError.__init__") (.ref x) >>= fun _ => newFields "method-wrapper" [.builtin "ValueError.__init__", .ref x] >>= fun r => ret r) P E _
  refine wpAny_bind ?_
  show wpAny M A ((kfb_private% "nameAndClass") (.builtin "ValueError.__init__") >>= _) _ E _
  refine wpAny_bind (wpAny_of_eq nac ?_)
  show wpAny M A (isInstance (.ref x) (.type "ValueError") >>= _) _ E _
  refine wpAny_bind (hin.at ?_)
  refine KFB.if_not rfl ?_
  refine wpAny_pure ?_
  exact wpAny_bind (wpAny_newObj_type (wpAny_pure hq))
theorem super_ga {so D x C : Addr} {l₀ l : List Value} {K : Frag} {name : Str} {tk : Tok} {Q : Fin → Shared → Prop}
    (hso : h.get? so = some { cls := .type "super", dict := none, data := .fields #[.ref D, .ref x, .ref C], slots := #[] }) (hno : W.Looks (model prog w) h (opaqueClassAbove (.ref C)) none)
    (hC : W.Looks (model prog w) h (mroOf (.ref C)) l₀) (hl : (l₀.dropWhile (· != .ref D)).drop 1 = l) (X : K.In h)
    (hf : alongIn K name l = some (some (.builtin "ValueError.__init__"))) (hxC : x ≠ C) (hn : (name == ("__class__" : Str)) = false) (hin : W.Looks (model prog w) h (isInstance (.ref x) (.type "ValueError")) true)
    (hq : Q (.done (.ret (.ref h.objs.size))) ⟨h.push (bw x), g, d, t, os⟩) :
    wpAny (model prog w) A (Builtin.«super.__getattribute__» ⟨[.ref so, .str name tk], []⟩) Q E ⟨h, g, d, t, os⟩ := by
  have hlk := ESX.slot_wd.lookup
  have hne : (Value.ref x == Value.ref C) = false := by simp [hxC]
  have hTf := type_ei
  have hTi : Shared.TypeIs ⟨h, g, d, t, os⟩ (.builtin "ValueError.__init__") "wrapper_descriptor" := type_ei
  have hdt : ({ cls := .type "super", dict := none, data := .fields #[.ref D, .ref x, .ref C], slots := #[] } : Obj).data = .fields #[.ref D, .ref x, .ref C] := rfl
  have f0 : (#[.ref D, .ref x, .ref C] : Array Value)[0]? = some (.ref D) := rfl
  have f1 : (#[.ref D, .ref x, .ref C] : Array Value)[1]? = some (.ref x) := rfl
  have f2 : (#[.ref D, .ref x, .ref C] : Array Value)[2]? = some (.ref C) := rfl
  unfold Builtin.«super.__getattribute__»
  repeat (first
    | (with_reducible refine wpAny_field hso hdt f0 ?_) | (with_reducible refine wpAny_field hso hdt f1 ?_) | (with_reducible refine wpAny_field hso hdt f2 ?_)
    | (with_reducible refine ks_wpAny_notOpaque hno ?_)
    | (with_reducible refine Looks.at hC ?_; rw [hl])
    | (refine ks_forIn_along X (fun _ _ => rfl) rfl ?_ hf)
    | (with_reducible refine wpAny_call_entry ESX.slot_wd hTi ESX.entry_wd ?_ (ESX.args_wd _ _ _))
    | (with_reducible refine run_wd hin ?_)
    | (with_reducible refine ⟨_, rfl, ?_⟩)
    | (simp only [hn, hne, Bool.or_false, Bool.false_eq_true, if_false])
    | wp_step
    | dsimp only)
  all_goals exact hq
theorem getMethod_super {so D x C : Addr} {l₀ l : List Value} {K : Frag} {name : Str} {pl : Sem Bool} {Q : Value × List Value → Shared → Prop}
    (hso : h.get? so = some { cls := .type "super", dict := none, data := .fields #[.ref D, .ref x, .ref C], slots := #[] }) (hno : W.Looks (model prog w) h (opaqueClassAbove (.ref C)) none)
    (hC : W.Looks (model prog w) h (mroOf (.ref C)) l₀) (hl : (l₀.dropWhile (· != .ref D)).drop 1 = l) (X : K.In h)
    (hf : alongIn K name l = some (some (.builtin "ValueError.__init__"))) (hxC : x ≠ C) (hn : (name == ("__class__" : Str)) = false) (hin : W.Looks (model prog w) h (isInstance (.ref x) (.type "ValueError")) true)
    (hq : Q (.ref h.objs.size, []) ⟨h.push (bw x), g, d, t + 1, os⟩) :
    wpAny (model prog w) A (getMethod (.ref so) name pl) Q E ⟨h, g, d, t, os⟩ := by
  have hlk := F.ks_slot_super_ga.lookup
  have hcan := F.ks_canon_super_ga
  have hT : ∀ t', (⟨h, g, d, t', os⟩ : Shared).TypeIs (.ref so) "super" := fun _ => ⟨_, hso, rfl⟩
  unfold getMethod
  refine wpAny_bind (wpAny_specialOf (hT _) hlk ?_)
  show wpAny _ _ (if (Manifest.canonical "super.__getattribute__" != "object.__getattribute__") = true then _ else _) _ _ _
  rw [if_pos hcan]
  unfold getAttr getAttrBy
  refine wpAny_bind (wpAny_bind (wpAny_mkText (wpAny_holding (wpAny_bind (wpAny_typeOf (hT _) (wpAny_bind (wpAny_of_eq hlk ?_)))))))
  show wpAny _ _ (getAttrByItsOwn (.ref so) (.str name t) (.type "super") (.builtin "super.__getattribute__") true false) _ _ _
  unfold getAttrByItsOwn hookBefore callGetattribute boundAndCalled
  refine wpAny_bind (wpAny_of_eq (show (if onTheHeap (.type "super") then typeLookup (.type "super") "__getattr__" else pure none) = pure none from rfl) ?_)
  refine wpAny_bind (wpAny_attempt (wpAny_holding ?_))
  show wpAny _ _ (bindSpecial (.builtin "super.__getattribute__") (.ref so) >>= _) _ _ _
  refine wpAny_bind (wpAny_of_eq (F.ks_slot_super_ga.bind _) ?_)
  refine wpAny_mono (Q := fun v s' => v = .ref h.objs.size ∧ s' = ⟨h.push (bw x), g, d, t + 1, os⟩) (E := fun _ _ => False)
    (wpAny_call_entry F.ks_slot_super_ga (hT _) F.ks_entry_super_ga (super_ga hso hno hC hl X hf hxC hn hin ⟨_, rfl, rfl, rfl⟩) (F.ks_gaArgs_super _ _)) (fun v s' hv => ?_) fun _ _ z => z.elim
  obtain ⟨rfl, rfl⟩ := hv
  exact wpAny_pure (wpAny_pure hq)
theorem callWith_bw {s : Shared} {pos : Pos} {u x : Addr} {first : List Value} {args : List (Bool × Sem Value)} {Q : Value → Shared → Prop} (hplain : args.any (·.1) = false)
    (h : wpAny M A (evalArgs (.ref u) true args []) (fun a s₁ => s₁.heap.get? u = some (bw x) ∧ wpAny M A (call (.ref u) (first ++ a.pos) a.kw) Q E s₁) E s) : wpAny M A (callWith pos (.ref u) first args []) Q E s := by
  unfold callWith
  refine wpAny_bind (wpAny_holding (wpAny_mono h (fun a s₁ h₁ => wpAny_bind (wpAny_standAt ?_)) fun _ _ x => x))
  obtain ⟨ho, hcall⟩ := h₁
  simp only [hplain, List.any_nil, Bool.or_false]
  refine wpAny_bind (m := keeperOf (.ref u)) ?_
  unfold keeperOf
  refine wpAny_bind (wpAny_load ho ?_)
  simp only [bw, show (Value.type "method-wrapper" != Value.type "method") = true by decide, show (Value.type "method-wrapper" == Value.type "builtin_function_or_method" || Value.type "method-wrapper" == Value.type "method-wrapper") = true by decide, if_true]
  refine wpAny_pure ?_
  exact wpAny_bind (wpAny_mono hcall (fun r s₂ hr => wpAny_bind (wpAny_holding (wpAny_point (wpAny_pure hr)))) fun _ _ x => x)
theorem callWith_bound {s : Shared} {pos : Pos} {u x : Addr} {first : List Value} {env : Env} {e : Expr} {rest : List Expr} {Q : Value → Shared → Prop}
    (h : wpAny M A (spliced (backTo pos (starEach (e :: rest) env))) (fun vs s₁ => s₁.heap.get? u = some (bw x) ∧ wpAny M A (call (.ref u) (first ++ vs)) Q E s₁) E s)
    (he : starEach (e :: rest) env = (false, eval e env) :: starEach rest env := by rfl) (hplain : (backTo pos (starEach rest env)).any (·.1) = false := by rfl) :
    wpAny M A (callWith pos (.ref u) first (backTo pos (starEach (e :: rest) env)) []) Q E s := by
  rw [he] at h ⊢
  refine callWith_bw (x := x) (by show (false || (backTo pos (starEach rest env)).any (·.1)) = false; rw [hplain]; rfl) ?_
  exact evalArgs_plain h
variable {nm q : Str} {C N : Addr} {bs bm : List Value} {hdct : Bool} {sn : List Str} {sub : List Value} {ab : Bool} {col : Option Bool} {dd : Option Addr} {k0 k1 k2 k3 k5 : Option Value}
theorem call_bw {u e t0 : Addr} {rest : List Value} {Q : Value → Shared → Prop}
    (hC : h.get? C = some (excClassObj nm q C N bs bm hdct sn sub ab col dd k0 k1 k2 k3 k5 "ValueError.__new__")) (he : h.get? e = some (HandSPX.excO C t0)) (hu : h.get? u = some (bw e)) (hrest : rest.length ≤ sizeLine)
    (hq : ∀ h' t1, (∀ b o, b ≠ e → h.get? b = some o → h'.get? b = some o) → h'.get? e = some (HandSPX.excO C t1) → Q .none ⟨h', g, d, t, os⟩) :
    wpAny (model prog w) A (call (.ref u) rest) Q E ⟨h, g, d, t, os⟩ := by
  refine wpAny_call (codeAny_of_tree ?_)
  show wpAny _ A.in1 (callAny (.ref u) ⟨rest, []⟩) _ _ _
  simp only [callAny]
  refine wpAny_bind (wpAny_load hu ?_)
  simp only [bw, show (Value.type "method-wrapper" == Value.type "method" || Value.type "method-wrapper" == Value.type "builtin_function_or_method" || Value.type "method-wrapper" == Value.type "method-wrapper") = true by decide, if_true]
  refine W.KFB.if_so (by decide) ?_
  refine wpAny_bind (ESX.check_bound F.excBase_ValueError hC he rfl ?_)
  refine wpAny_bind (wpAny_pure (wpAny_pure ?_))
  refine ⟨Code.quiet_builtin _ (by decide +kernel), codeAny_builtin F.excBase_ValueError.initEntry ?_⟩
  rw [Around.under_plainId F.excBase_ValueError.init.plain _]
  wp_walk
  refine hq _ h.objs.size (fun b o hb ho => ?_) ?_
  · rw [Heap.get?_update_other _ _ (Ne.symm hb)]
    exact Heap.get?_push_of_some _ ho
  · rw [Heap.get?_update_self _ (Heap.get?_push_of_some _ he) rfl]
    rfl
end
end VSX
end PySem
namespace PySem
namespace VSX
open PySem.W PySem.Calls PyProof.Rows PySem.HandSPX
/-! ### the text of __init__ -/
def iA (p : Str) (p1 p2 : Pos) : Arguments := { posonlyargs := [], args := [{ arg := "self", annotation := none, pos := p1 }, { arg := p, annotation := none, pos := p2 }], vararg := none, kwonlyargs := [], kw_defaults := [], kwarg := none, defaults := [] }
def iB (f p m : Str) (j : Nat) (q1 q2 q3 q4 q5 q6 q7 q8 q9 q10 : Pos) : List Stmt := [.Expr (.Call (.Attribute (.Call (.Name "super" q1) [] [] q2) "__init__" q3) [.Constant (.str m) j q4] [] q5) q6, .Assign [.Attribute (.Name "self" q7) f q8] (.Name p q9) q10]
abbrev parN : List Str := ["name", "part", "index", "most", "word", "line"]
theorem bind_ok {qual f p m : Str} {j : Nat} {p1 p2 q1 q2 q3 q4 q5 q6 q7 q8 q9 q10 : Pos} {scope : Scope} {doc pm ct : Value} {an : Option Addr} {cda cc x : Addr} {v : Value} (hp : p ∈ parN) :
    bindArgs (ksFn "__init__" qual (iA p p1 p2) (iB f p m j q1 q2 q3 q4 q5 q6 q7 q8 q9 q10) scope .none .none doc pm an (.ref cda) ct cc) ⟨[.ref x, v], []⟩ = pure [(("self" : Str), .ref x), (p, v)] := by
  simp only [List.mem_cons, List.not_mem_nil, or_false] at hp
  rcases hp with rfl | rfl | rfl | rfl | rfl | rfl <;> first | rfl | with_unfolding_all rfl
theorem he_ok {env : Env} {m : Str} {j : Nat} {q1 q2 q3 q4 q5 : Pos} (hline : (q3.endLine == q5.line) = true) : eval (.Call (.Attribute (.Call (.Name "super" q1) [] [] q2) "__init__" q3) [.Constant (.str m) j q4] [] q5) env = (do
      let ov ← attributeBase (.Call (.Name "super" q1) [] [] q2) "__init__" env (eval (.Call (.Name "super" q1) [] [] q2) env)
      standAt q3.atName
      let (f, first) ← holding [ov] (getMethod ov "__init__" (do return (← importBound (.Call (.Name "super" q1) [] [] q2) env).getD true))
      callWith q5 f first (backTo q5 (starEach [.Constant (.str m) j q4] env)) []) := by
  rw [arm_eval_Call]
  have hf : methodCallForm (([.Constant (.str m) j q4] : List Expr).length + ([] : List Keyword).length) (backTo q5 (starEach [.Constant (.str m) j q4] env)) (backToKw q5 (keywordEach [] env)) = true := rfl
  unfold methodCall calleeOf methodCallPos
  rw [hf]
  simp only [hline, if_true, Bool.not_true, Bool.false_or, pure_bind]
  rfl
/-- what the written part says of the class at C, and of its __init__ -/
structure XTxt (prog : Program) (K : Frag) (C fI : Addr) (f : Str) : Prop where
  cls : ∃ nm q N bs bm sn sub ab col dd k0 k1 k2 k3 k5, K.lookup C = some (excClassObj nm q C N bs bm true sn sub ab col dd k0 k1 k2 k3 k5 "ValueError.__new__") ∧ refsVE bm = true
  sa : findIn K (.ref C) "__setattr__" = some (some (.builtin "object.__setattr__"))
  noN : findIn K (.ref C) f = some none
  iC : findIn K (.ref C) "__init__" = some (some (.ref fI))
  tI : typeIn K (.ref fI) = some (.type "function")
  sup : ks_superIn K C C "__init__" = some (some (.builtin "ValueError.__init__"))
  ve : mroIn K C (.type "ValueError") = some true
  opq : nsIn K cStatics "thirdparty.any" = some none
  top : (prog.main.scope.names.lookup ("super" : Str)).isSome = false
  fn : ∃ (oc : Value) (od : Option Addr) (doc pm : Value) (an : Option Addr) (cda : Addr) (ct : Value) (cc : Addr) (osl : Array (Option Value)) (p m : Str) (j : Nat) (p1 p2 q1 q2 q3 q4 q5 q6 q7 q8 q9 q10 : Pos) (scope : Scope) (qual : Str) (vs : Array Value) (file : Str) (tf : Tok) (ccl : Value) (cdd : Option Addr) (ccs : Array (Option Value)) (cl : Value) (cld : Option Addr) (csl : Array (Option Value)),
    K.lookup fI = some ⟨oc, od, .func (ksFn "__init__" qual (iA p p1 p2) (iB f p m j q1 q2 q3 q4 q5 q6 q7 q8 q9 q10) scope .none .none doc pm an (.ref cda) ct cc), osl⟩ ∧ codeIn K (.ref cda) qual = true ∧ K.lookup cda = some ⟨ccl, cdd, .fields vs, ccs⟩ ∧ vs[2]? = some (.str file tf) ∧ ((prog.main.file : Str) == file) = true ∧
    K.lookup cc = some ⟨cl, cld, .cell (some (.ref C)), csl⟩ ∧ p ∈ parN ∧ (q3.endLine == q5.line) = true ∧ scope.kind = .function ∧ scope.isCoroutine = false ∧ scope.isGenerator = false ∧ scope.names.lookup ("self" : Str) = some .local ∧ scope.names.lookup p = some .local ∧ scope.names.lookup ("super" : Str) = some .globalImplicit ∧ scope.names.lookup ("__class__" : Str) = some .free ∧ ∀ x ∈ scope.names, x.2 ≠ .cell
/-- what __init__ leaves of a fresh exception at x -/
structure InitEnd (h h' : Heap) (x C dx t1 : Addr) (f : Str) (v : Value) : Prop where
  keep : ∀ b o, b ≠ x → h.get? b = some o → h'.get? b = some o
  obj : h'.get? x = some { cls := .ref C, dict := some dx, data := .fields #[.ref t1, .none, .none, .none, .bool false, .none] }
  dbig : h.objs.size ≤ dx
  dne : dx ≠ x
  ns : h'.Ns1 dx (fun y => if y = f then some v else none)
theorem kept_but {K : Frag} {h h' : Heap} {x : Addr} (X : K.In h) (hx : K.lookup x = none) (k : ∀ b o, b ≠ x → h.get? b = some o → h'.get? b = some o) : K.In h' := fun a o e =>
  k a o (fun z => by rw [z, hx] at e; cases e) (X a o e)
theorem ldC {M : Model} {A : Around} {E : Value → Shared → Prop} {s : Shared} {env : Env} {m : Str → Option Value} {x : Str} {pos : Pos} {v : Value} {Q : Value → Shared → Prop} (hk : env.scope.kind = .function) (hl : env.kindOf x = some .local) (hn : s.heap.Ns env.locals m) (hv : m x = some v) (hd : (x == ("__debug__" : Str)) = false) (h : Q v s) :
    wpAny M A (eval (.Name x pos) env) Q E s := wpAny_Name (wpAny_loadName_local hk hl hn hv h) hd
section
variable {prog : Program} {w : World} {A : Around} {R : Result → Shared → Prop} {K : Frag} {C fI : Addr} {f : Str} {hp : Heap} {g : Array GenState} {d : Drawn} {t : Nat} {os : OsState}
theorem x_init (T : XTxt prog K C fI f) {x t0 : Addr} {v : Value} {mg mb : Str → Option Value} (X : K.In hp) (hlim : hp.NoLimit) (hx : hp.get? x = some (excO C t0)) (hnx : K.lookup x = none) (hroom : A.depth < recursionLimit) (hG : hp.Ns mainGlobals mg) (hS : mg "super" = none) (hB : hp.Ns builtinsNs mb) (hBs : mb "super" = some (.type "super"))
    (hq : ∀ h' tk dx t1, InitEnd hp h' x C dx t1 f v → R (.ok (.ret .none)) ⟨h', g, d, tk, os⟩) :
    codeAny (model prog w) A (.call (.ref fI) ⟨[.ref x, v], []⟩) R ⟨hp, g, d, t, os⟩ := by
  obtain ⟨oc, od, doc, pm, an, cda, ct, cc, osl, p, m, j, p1, p2, q1, q2, q3, q4, q5, q6, q7, q8, q9, q10, scope, qual, vs, file, tf, ccl, cdd, ccs, cl, cld, csl, ho, hcd, hcode, hvs, hfile, hcell, hpN, hline, hk, hco, hgen, h1, h2, h3, h4, h5⟩ := T.fn
  obtain ⟨nm, q, N, bs, bm, sn, sub, ab, col, dd, k0, k1, k2, k3, k5, hC, hbm⟩ := T.cls
  have hcl : clsIn K C = some { name := nm, bases := bs, mro := .ref C :: bm, ns := N, qualname := q, hasDict := true, slotNames := sn, subclasses := sub, abstract := ab, collection := col, hasDel := false } := by unfold clsIn; rw [hC] <;> rfl
  have mcc : mroIn K C (.ref C) = some true := by
    unfold mroIn
    rw [hcl]
    simp
  have hps : p ≠ "self" := fun e => by subst e; exact absurd hpN (by decide)
  have hpd : (p == ("__debug__" : Str)) = false := by
    simp only [List.mem_cons, List.not_mem_nil, or_false] at hpN
    rcases hpN with rfl | rfl | rfl | rfl | rfl | rfl <;> decide
  have hself : ([((("self" : Str)), Value.ref x), (p, v)] : List (Str × Value)).reverse.lookup ("self" : Str) = some (Value.ref x) := by
    have e : (("self" : Str) == p) = false := by
      rw [beq_eq_false_iff_ne]
      exact fun e => hps e.symm
    simp [List.lookup, e]
  have hpar : ([((("self" : Str)), Value.ref x), (p, v)] : List (Str × Value)).reverse.lookup p = some v := by simp [List.lookup]
  refine ks_codeAny_call_defAt (fd := ksFn "__init__" qual (iA p p1 p2) (iB f p m j q1 q2 q3 q4 q5 q6 q7 q8 q9 q10) scope .none .none doc pm an (.ref cda) ct cc) (body := iB f p m j q1 q2 q3 q4 q5 q6 q7 q8 q9 q10) (binds := [("self", .ref x), (p, v)]) hroom (X _ _ ho) rfl hlim (codeRec_of X hcd) rfl (BindsTo.of_eq (bind_ok hpN)) h5 (fun y hy => ?_) (fun h₁ hns kk₁ => ?_) hco hgen hk
  · simp only [List.mem_cons, List.not_mem_nil, or_false] at hy
    rcases hy with rfl | rfl
    · exact h1
    · exact h2
  have X₁ : K.In h₁ := X.keeps kk₁
  have hx₁ := kk₁ _ _ hx
  have hxL : x < hp.objs.size := Heap.lt_size hx
  show wpAt (model prog w) (A.deeper (ksEnv qual scope hp.objs.size fI (.ref cda) cc)) (.func (iB f p m j q1 q2 q3 q4 q5 q6 q7 q8 q9 q10) (ksEnv qual scope hp.objs.size fI (.ref cda) cc)) (execs (iB f p m j q1 q2 q3 q4 q5 q6 q7 q8 q9 q10) (ksEnv qual scope hp.objs.size fI (.ref cda) cc)) _ _ _
  unfold iB
  refine ks_wpAt_execs_cons (ks_wpAt_Expr_any (ks_wpAt_MethodCall ?_ (he_ok hline)) (by unfold interactive; show (scope.kind == _ && _) = false; rw [hk]; rfl))
  refine ks_wpAt_super_base (env := ksEnv qual scope hp.objs.size fI (.ref cda) cc) h3 h4 (by decide) rfl (X₁ _ _ ho) rfl rfl rfl (X₁ _ _ hcode) rfl hvs hfile T.top ?_
  refine ks_loadName_global hk h3 (Calls.loadGlobal_builtin (env := ksEnv qual scope hp.objs.size fI (.ref cda) cc) (hG.keeps kk₁) hS (hB.keeps kk₁) hBs ⟨rfl, ?_⟩)
  refine wpAny_loadName_free hk h4 rfl ⟨_, X₁ _ _ hcell, rfl⟩ ?_
  refine wpAny_loadName_local hk h1 hns hself ?_
  refine ks_wpAny_isType_cls (X₁ _ _ hC) rfl ⟨rfl, ?_⟩
  refine ks_wpAny_call_super (X₁ _ _ hC) rfl hx₁ rfl (fun c e => nomatch e) (looks_mroIn X₁ mcc) (fun h₂ e₂ kk₂ => ?_)
  have X₂ : K.In h₂ := X₁.keeps kk₂
  have hx₂ := kk₂ _ _ hx₁
  have I₂ : InstAt h₂ x (excO C t0) C none := ⟨hx₂, rfl, rfl, trivial⟩
  have hal : alongIn K "__init__" ((((.ref C :: bm) : List Value).dropWhile (· != .ref C)).drop 1) = some (some (.builtin "ValueError.__init__")) := by
    have z := T.sup
    unfold ks_superIn at z
    rw [hcl] at z
    exact z
  refine getMethod_super e₂ (looks_opaque X₂ T.opq) (l₀ := .ref C :: bm) (fun A Q E s k q => wpAny_bind ((looks_clsIn X₂ hcl) A _ E s k (wpAny_pure q))) rfl X₂ hal (ks_ne X₂ I₂ hcl) (by decide) (I₂.type.andThen (looks_mroIn X₂ T.ve)) ?_
  have pk : ∀ b o, h₂.get? b = some o → (h₂.push (bw x)).get? b = some o := fun b o e => Heap.get?_push_of_some _ e
  refine callWith_bound (x := x) ?_
  show wpAny _ _ (spliced ((false, eval (.Constant (.str m) j q4) (ksEnv qual scope hp.objs.size fI (.ref cda) cc)) :: backTo q5 (starEach [] (ksEnv qual scope hp.objs.size fI (.ref cda) cc)))) _ _ _
  refine Calls.spliced_cons (Calls.Constant_str ?_)
  refine Calls.spliced_nil ⟨Heap.get?_push_at rfl rfl, ?_⟩
  refine call_bw (pk _ _ (X₂ _ _ hC)) (pk _ _ hx₂) (Heap.get?_push_at rfl rfl) (by show 1 ≤ sizeLine; rw [sizeLine_eq]; decide) (fun h₄ t1 kk₄ hx₄ => ?_)
  have k14 : ∀ b o, b ≠ x → hp.get? b = some o → h₄.get? b = some o := fun b o hb e => kk₄ b o hb (pk _ _ (kk₂ _ _ (kk₁ _ _ e)))
  have X₄ : K.In h₄ := kept_but (X₂.keeps pk) hnx kk₄
  have hns₄ : h₄.Ns hp.objs.size (fun y => ([((("self" : Str)), Value.ref x), (p, v)] : List (Str × Value)).reverse.lookup y) := by
    obtain ⟨oL, es, ep, hL, r⟩ := hns
    exact ⟨oL, es, ep, kk₄ _ _ (Nat.ne_of_gt hxL) (pk _ _ (kk₂ _ _ hL)), r⟩
  refine ks_wpAt_execs_cons (ks_wpAt_Assign_Attr (wpAt_of_wpAny ?_))
  refine ldC hk h2 hns₄ hpar hpd ?_
  refine ldC hk h1 hns₄ hself (by decide) ?_
  refine set_plain X₄ (ox := excO C t1) (od := none) ⟨hx₄, rfl, rfl, trivial⟩ T.sa ?_
  refine exc_osa X₄ hx₄ hcl (show refsVE (.ref C :: bm) = true from hbm) rfl T.noN (fun h₅ tk₅ dx kk₅ dn dne hx₅ hn₅ => ?_)
  refine wpAt_of_wpAny (wpAny_execs_nil ?_)
  have zz : hp.objs.size ≤ h₄.objs.size := by
    obtain ⟨oL, es, ep, hL, r⟩ := hns₄
    exact Nat.le_of_lt (Heap.lt_size hL)
  exact hq h₅ tk₅ dx t1 ⟨fun b o hb e => kk₅ b o hb (k14 b o hb e), hx₅, Nat.le_trans zz dn, dne, hn₅⟩
end
end VSX
end PySem
namespace PySem
namespace VSX
open PySem.W PySem.Calls PyProof.Rows PySem.HandSPX
/-- a made one -/
structure OwnMade (h h' : Heap) (e C d : Addr) (f : Str) (v : Value) : Prop where
  keep : ∀ b o, h.get? b = some o → h'.get? b = some o
  new : h.objs.size ≤ e
  obj : ∃ oe vs, h'.get? e = some oe ∧ oe.cls = .ref C ∧ oe.dict = some d ∧ oe.data = .fields vs ∧ vs[1]? = some .none
  dbig : h.objs.size ≤ d
  dne : d ≠ e
  ns : h'.Ns1 d (fun y => if y = f then some v else none)
theorem one_size (v : Value) : [v].length ≤ sizeLine := by
  rw [sizeLine_eq]
  exact (by decide : 1 ≤ 16777216)
section
variable {prog : Program} {w : World} {A : Around} {R : Result → Shared → Prop} {s : Shared} {K : Frag} {C fI : Addr} {f : Str} {mg mb : Str → Option Value}
theorem x_made (T : XTxt prog K C fI f) {v : Value} (X : K.In s.heap) (hlim : s.heap.NoLimit) (hroom : A.depth + 1 < recursionLimit) (hG : s.heap.Ns mainGlobals mg) (hS : mg "super" = none) (hB : s.heap.Ns builtinsNs mb) (hBs : mb "super" = some (.type "super"))
    (hq : ∀ h' tk e d, OwnMade s.heap h' e C d f v → R (.ok (.ret (.ref e))) { s with heap := h', toks := tk }) :
    codeAny (model prog w) A (.call (.ref C) ⟨[v], []⟩) R s := by
  obtain ⟨nm, q, N, bs, bm, sn, sub, ab, col, dd, k0, k1, k2, k3, k5, hC, hbm⟩ := T.cls
  obtain ⟨hp, g, dr, tk, os⟩ := s
  have k : ∀ b o, hp.get? b = some o → ((hp.push (kdv_tup [v])).push (excO C hp.objs.size)).get? b = some o := fun b o e => Heap.get?_push_of_some _ (Heap.get?_push_of_some _ e)
  have hget : ((hp.push (kdv_tup [v])).push (excO C hp.objs.size)).get? (hp.objs.size + 1) = some (excO C hp.objs.size) := by heap_get
  have hnx : K.lookup (hp.objs.size + 1) = none := by
    cases e : K.lookup (hp.objs.size + 1) with
    | none => rfl
    | some o =>
      have z : hp.get? (hp.objs.size + 1) = some o := X _ _ e
      exact absurd (Nat.lt_of_succ_lt (Heap.lt_size z)) (Nat.lt_irrefl _)
  refine call_own F.excBase_ValueError (fun X => refsVE_contains X bm hbm) (X _ _ hC) (looks_findIn X T.iC) (fun self => bind_fn X self T.tI) (one_size v) ?_
  refine x_init (hp := (hp.push (kdv_tup [v])).push (excO C hp.objs.size)) T (X.keeps k) (hlim.keeps k) hget hnx ?_ (hG.keeps k) hS (hB.keeps k) hBs fun h' tk' dx t1 ⟨k', hx, dn, dne, hns⟩ => ?_
  · show A.depth + 1 < recursionLimit
    exact hroom
  · have old : ∀ b o, hp.get? b = some o → h'.get? b = some o := fun b o e => k' b o (Nat.ne_of_lt (Nat.lt_succ_of_lt (Heap.lt_size e))) (k b o e)
    have z : hp.objs.size + 1 + 1 ≤ dx := by
      first
        | (simpa only [Heap.size_push] using dn)
        | exact dn
        | (have q := dn; rw [Heap.size_push, Heap.size_push] at q; exact q)
    exact ⟨rfl, hq h' tk' (hp.objs.size + 1) dx ⟨old, Nat.le_succ _, ⟨_, _, hx, rfl, rfl, rfl, rfl⟩, Nat.le_trans (Nat.le_trans (Nat.le_succ _) (Nat.le_succ _)) z, dne, hns⟩⟩
end
end VSX
end PySem
namespace L2
open PySem PySem.Spec PyProof.Rows
theorem relO_one {f : Str} {v : V} {v' : Value} (r : RelV v v') (g : Str) : RelO (List.lookup g [(f, v)]) (if g = f then some v' else none) := relO_put (fs := []) (mA := fun _ => none) r (fun g => True.intro) g
theorem boot_super : bootBuiltins "super" = some (.type "super") := by decide +kernel
section
variable {X : Cx} {C fI : Addr} {f : Str}
/-- C(e) -/
def tMkX (C : Addr) (f : Str) (te : TE) : St → Hp → XK → Prop := fun σ H Q => te σ H fun v H1 => ∀ d, H1 d = none → Q (.ref C) (some d) (upd H1 d (.xd [(f, v)]))
theorem pmkX {x : Str} {a : Expr} {te : TE} {p pos : Pos} {k : Nat} (T : PySem.VSX.XTxt X.prog X.K C fI f) (gC : X.mg x = some (.ref C)) (kC : PySem.W.keepIn X.K (.ref C) = true) (rs : Raises X (.ref C)) (hS : X.mg "super" = none) (hr : Room k X.A) (ha : PE X a te) (hg : Gl X x) (hdb : (x == ("__debug__" : Str)) = false)
    (he : starEach (a :: []) X.env = (false, eval a X.env) :: starEach [] X.env) :
    PMk X (.Call (.Name x p) [a] [] pos) (tMkX C f te) := by
  intro pins s σ H Q I h
  refine wpAny_Call_Name_kw (ld_glob I hg gC ?_ hdb)
  refine PySem.W.callWith_K (h₀ := X.base) I.ok.mod.kin kC ?_ he (by rfl)
  rw [he]
  show wpAny _ _ (spliced ((false, eval a X.env) :: backTo pos (starEach [] X.env))) _ _ s
  refine Calls.spliced_cons (thn (ha.run pins s σ H _ I h) fun v' s1 ⟨v, H1, I1, rv, q1⟩ => ?_)
  refine Calls.spliced_nil ⟨I1.kIn, ?_⟩
  show wpAny _ _ (call (.ref C) [v']) _ _ _
  have hlim := I1.nolimit
  obtain ⟨mb, b1, b2⟩ := I1.mod.blt
  have hB := b1.keeps I1.bk
  have hG := I1.mod.glob.keeps I1.bk
  obtain ⟨hp, g, dr, tk, os⟩ := s1
  refine wpAny_call (PySem.VSX.x_made T I1.kIn hlim (by have := hr.dp; omega) hG hS hB ((b2 "super" (by decide)).trans boot_super) fun h' tk' e d M => ?_)
  show MkP X pins σ Q (.ref e) ⟨h', g, dr, tk', os⟩
  obtain ⟨oe, fv, hoe, hc, hd, hdat, h1⟩ := M.obj
  have hns := M.ns
  obtain ⟨G', g1, g2⟩ := restrict h' fun b => decide (b ≠ e)
  have gk : ∀ b, b ≠ e → G'.get? b = h'.get? b := fun b hb => g1 b (decide_eq_true hb)
  have ge : G'.get? e = none := g2 e (by simp)
  have old : ∀ b o, hp.get? b = some o → G'.get? b = some o := fun b o q => (gk b (Nat.ne_of_lt (Nat.lt_of_lt_of_le (Heap.lt_size q) M.new))).trans (M.keep b o q)
  have ob : ObjOk X.prog X.w (upd H1 d (.xd [(f, v)])) G' d (.xd [(f, v)]) :=
    ⟨_, hns.at (fun o q => (gk d M.dne).trans q), fun f => relO_one rv f⟩
  have J : Inv X pins σ (upd H1 d (.xd [(f, v)])) ⟨G', g, dr, tk', os⟩ := I1.laid (t' := tk') old M.dbig ob
  refine ⟨e, oe, fv, ⟨G', g, dr, tk', os⟩, _, .ref C, some d, rfl, J, fun b o q => ?_, ge, hoe, ⟨hc, hd⟩, hdat, h1, ?_, rfl, I1.bare, rs, q1 d (I1.hok.fresh M.dbig)⟩
  · by_cases hb : b = e
    · have q' : G'.get? b = some o := q
      rw [hb, ge] at q'; cases q'
    · exact (gk b hb).symm.trans q
  · rw [upd_ne (Ne.symm M.dne)]
    exact I1.hok.fresh M.new
end
end L2
/-! The layer's data and its meaning: plain data P, a store of objects Sto, an IR of Python's defs and what it does (den). -/
namespace PyM
open PySem

/-- plain data -/
inductive P where
  | non | bl (b : Bool) | int (i : Int) | str (x : Str) | ty (n : String)
  | tup (xs : List P) | lst (xs : List P) | dct (kvs : List (P × P)) | ins (c : Str) (fs : List (Str × P)) | scr (ns : List Int)

mutual
def P.beq : P → P → Bool
  | .non, .non => true
  | .bl a, .bl b => a == b
  | .int a, .int b => decide (a = b)
  | .str a, .str b => decide (a = b)
  | .ty a, .ty b => decide (a = b)
  | .tup a, .tup b => P.beqs a b
  | .lst a, .lst b => P.beqs a b
  | .dct a, .dct b => P.beqk a b
  | .ins c a, .ins d b => decide (c = d) && P.beqf a b
  | .scr a, .scr b => decide (a = b)
  | _, _ => false
def P.beqs : List P → List P → Bool
  | [], [] => true
  | a :: as, b :: bs => P.beq a b && P.beqs as bs
  | _, _ => false
def P.beqk : List (P × P) → List (P × P) → Bool
  | [], [] => true
  | (a, x) :: as, (b, y) :: bs => P.beq a b && P.beq x y && P.beqk as bs
  | _, _ => false
def P.beqf : List (Str × P) → List (Str × P) → Bool
  | [], [] => true
  | (a, x) :: as, (b, y) :: bs => decide (a = b) && P.beq x y && P.beqf as bs
  | _, _ => false
end
mutual
theorem P.beq_self : ∀ a : P, P.beq a a = true
  | .non => by simp [P.beq]
  | .bl b => by simp [P.beq]
  | .int b => by simp [P.beq]
  | .str b => by simp [P.beq]
  | .ty b => by simp [P.beq]
  | .tup a => by rw [P.beq]; exact P.beqs_self a
  | .lst a => by rw [P.beq]; exact P.beqs_self a
  | .dct a => by rw [P.beq]; exact P.beqk_self a
  | .ins c a => by rw [P.beq, P.beqf_self a]; simp
  | .scr b => by simp [P.beq]
theorem P.beqs_self : ∀ a : List P, P.beqs a a = true
  | [] => by simp [P.beqs]
  | a :: as => by rw [P.beqs, P.beq_self a, P.beqs_self as]; rfl
theorem P.beqk_self : ∀ a : List (P × P), P.beqk a a = true
  | [] => by simp [P.beqk]
  | (a, x) :: as => by rw [P.beqk, P.beq_self a, P.beq_self x, P.beqk_self as]; rfl
theorem P.beqf_self : ∀ a : List (Str × P), P.beqf a a = true
  | [] => by simp [P.beqf]
  | (a, x) :: as => by rw [P.beqf, P.beq_self x, P.beqf_self as]; simp
end
mutual
theorem P.eq_of_beq : ∀ a b : P, P.beq a b = true → a = b
  | .non, b, h => by cases b <;> simp_all [P.beq]
  | .bl a, b, h => by cases b <;> simp_all [P.beq]
  | .int a, b, h => by cases b <;> simp_all [P.beq]
  | .str a, b, h => by cases b <;> simp_all [P.beq]
  | .ty a, b, h => by cases b <;> simp_all [P.beq]
  | .tup a, b, h => by
    cases b <;> first | (simp [P.beq] at h; done) | (rw [P.beq] at h; rw [P.eq_of_beqs _ _ h])
  | .lst a, b, h => by
    cases b <;> first | (simp [P.beq] at h; done) | (rw [P.beq] at h; rw [P.eq_of_beqs _ _ h])
  | .dct a, b, h => by
    cases b <;> first | (simp [P.beq] at h; done) | (rw [P.beq] at h; rw [P.eq_of_beqk _ _ h])
  | .ins c a, b, h => by
    cases b <;> first | (simp [P.beq] at h; done) | (rw [P.beq, Bool.and_eq_true] at h; rw [P.eq_of_beqf _ _ h.2, of_decide_eq_true h.1])
  | .scr a, b, h => by cases b <;> simp_all [P.beq]
theorem P.eq_of_beqs : ∀ a b : List P, P.beqs a b = true → a = b
  | [], b, h => by cases b <;> simp_all [P.beqs]
  | a :: as, [], h => by simp [P.beqs] at h
  | a :: as, b :: bs, h => by
    rw [P.beqs, Bool.and_eq_true] at h
    rw [P.eq_of_beq _ _ h.1, P.eq_of_beqs _ _ h.2]
theorem P.eq_of_beqk : ∀ a b : List (P × P), P.beqk a b = true → a = b
  | [], b, h => by cases b <;> simp_all [P.beqk]
  | (a, x) :: as, [], h => by simp [P.beqk] at h
  | (a, x) :: as, (b, y) :: bs, h => by
    rw [P.beqk, Bool.and_eq_true, Bool.and_eq_true] at h
    rw [P.eq_of_beq _ _ h.1.1, P.eq_of_beq _ _ h.1.2, P.eq_of_beqk _ _ h.2]
theorem P.eq_of_beqf : ∀ a b : List (Str × P), P.beqf a b = true → a = b
  | [], b, h => by cases b <;> simp_all [P.beqf]
  | (a, x) :: as, [], h => by simp [P.beqf] at h
  | (a, x) :: as, (b, y) :: bs, h => by
    rw [P.beqf, Bool.and_eq_true, Bool.and_eq_true] at h
    rw [of_decide_eq_true h.1.1, P.eq_of_beq _ _ h.1.2, P.eq_of_beqf _ _ h.2]
end
instance : DecidableEq P := fun a b => if h : P.beq a b = true then .isTrue (P.eq_of_beq a b h) else .isFalse fun e => h (e ▸ P.beq_self a)

mutual
/-- as the library's data -/
def P.toPD : P → PyData
  | .non => .none
  | .bl b => .bool b
  | .int i => .int i
  | .str x => .str x
  | .ty _ => .dict []
  | .tup xs => .tuple (P.toPDs xs)
  | .lst xs => .list (P.toPDs xs)
  | .dct _ => .dict []
  | .ins _ _ => .dict []
  | .scr _ => .dict []
def P.toPDs : List P → List PyData
  | [] => []
  | x :: xs => P.toPD x :: P.toPDs xs
end
mutual
/-- how deep its tuples and lists stand in one another -/
def P.depth : P → Nat
  | .tup xs => P.depths xs + 1
  | .lst xs => P.depths xs + 1
  | _ => 0
def P.depths : List P → Nat
  | [] => 0
  | x :: xs => max (P.depth x) (P.depths xs)
end
mutual
/-- no dict, no object, no class in it -/
def P.flat : P → Bool
  | .tup xs => P.flats xs
  | .lst xs => P.flats xs
  | .ty _ => false
  | .dct _ => false
  | .ins _ _ => false
  | .scr _ => false
  | _ => true
def P.flats : List P → Bool
  | [] => true
  | x :: xs => P.flat x && P.flats xs
end
/-- == can be asked of it -/
def P.eqok (p : P) : Bool := p.flat && decide (p.depth ≤ 60)
def peq (p q : P) : Option Bool := if p.eqok && q.eqok then some (PyData.eqv p.toPD q.toPD) else none
/-- < can be asked of the two -/
def P.ltok (p q : P) : Bool := p.eqok && q.eqok && PySem.W.alike p.toPD q.toPD && (match p with
  | .non => false
  | _ => true)
def P.lt (p q : P) : Bool := PySem.W.dataLt p.toPD q.toPD
/-- what may be a key: intsOf, texts, tuples of such -/
def P.keyN : Nat → P → Bool
  | _, .int _ => true
  | _, .str _ => true
  | n + 1, .tup xs => xs.all (P.keyN n)
  | _, _ => false
def P.sca : P → Bool
  | .int _ => true
  | .str _ => true
  | _ => false
def P.tky : P → Bool
  | .tup xs => xs.all (P.keyN 7)
  | _ => false

/-- values: plain data, or an object of the store -/
inductive D where
  | p (x : P) | loc (n : Nat)
/-- the store's objects -/
inductive Ob where
  | lst (xs : List D) | dct (kvs : List (P × D)) | ins (c : Str) (fs : List (Str × D)) | dead
abbrev Sto := List Ob
structure Exc where
  c : Str
  fs : List (Str × P)
inductive Res (α : Type) where
  | ok (a : α) (s : Sto) | exc (e : Exc) (s : Sto) | fail
abbrev Env := List (Option D)
def Res.bind {α β : Type} (r : Res α) (f : α → Sto → Res β) : Res β := match r with
  | .ok a s => f a s
  | .exc e s => .exc e s
  | .fail => .fail
@[simp] theorem Res.bind_ok {α β : Type} (a : α) (s : Sto) (f : α → Sto → Res β) : (Res.ok a s).bind f = f a s := rfl
@[simp] theorem Res.bind_exc {α β : Type} (e : Exc) (s : Sto) (f : α → Sto → Res β) : (Res.exc e s : Res α).bind f = .exc e s := rfl
@[simp] theorem Res.bind_fail {α β : Type} (f : α → Sto → Res β) : (Res.fail : Res α).bind f = .fail := rfl
/-- an answer that may be lacking -/
def opt {α : Type} (o : Option α) (s : Sto) : Res α := match o with
  | some a => .ok a s
  | none => .fail
@[simp] theorem opt_some {α : Type} (a : α) (s : Sto) : opt (some a) s = .ok a s := rfl
@[simp] theorem opt_none {α : Type} (s : Sto) : (opt none s : Res α) = .fail := rfl

def pureL : List D → Option (List P)
  | [] => some []
  | .p x :: r => match pureL r with
    | some xs => some (x :: xs)
    | none => none
  | .loc _ :: _ => none
def pureK : List (P × D) → Option (List (P × P))
  | [] => some []
  | (k, .p x) :: r => match pureK r with
    | some xs => some ((k, x) :: xs)
    | none => none
  | (_, .loc _) :: _ => none
def pureF : List (Str × D) → Option (List (Str × P))
  | [] => some []
  | (k, .p x) :: r => match pureF r with
    | some xs => some ((k, x) :: xs)
    | none => none
  | (_, .loc _) :: _ => none
/-- an object whose items are plain, as plain data -/
def Ob.view : Ob → Option P
  | .lst xs => (pureL xs).map .lst
  | .dct kvs => (pureK kvs).map .dct
  | .ins c fs => (pureF fs).map (.ins c)
  | .dead => none
/-- a value read -/
def rd (st : Sto) : D → Option P
  | .p x => some x
  | .loc n => match st[n]? with
    | some o => o.view
    | none => none

/-! ### what operators do -/
inductive BOp where
  | add | sub | mul | fdiv | mod | pow | band
inductive COp where
  | eq | ne | lt | le | gt | ge | isin | notin | isN | notN
def mulOk (i j : Int) : Bool := decide (-(2 ^ 64) < i ∧ i < 2 ^ 64) || decide (-(2 ^ 64) < j ∧ j < 2 ^ 64) || decide (i.natAbs.log2 + j.natAbs.log2 < 1000000)
def divOk (j : Int) : Bool := decide (0 < j) && (decide (j < 1073741824) || decide (j.natAbs.log2 < 9000))
def bop : BOp → P → P → Option P
  | .add, .int i, .int j => some (.int (i + j))
  | .add, .str x, .str y => if x.length + y.length ≤ sizeLine then some (.str (x ++ y)) else none
  | .add, .tup x, .tup y => if x.length + y.length ≤ sizeLine then some (.tup (x ++ y)) else none
  | .add, .lst x, .lst y => if x.length + y.length ≤ sizeLine then some (.lst (x ++ y)) else none
  | .sub, .int i, .int j => some (.int (i - j))
  | .mul, .int i, .int j => if mulOk i j then some (.int (i * j)) else none
  | .fdiv, .int i, .int j => if divOk j then some (.int (i / j)) else none
  | .mod, .int i, .int j => if 0 < j then some (.int (i % j)) else none
  | .pow, .int i, .int j => if 0 ≤ j ∧ j ≤ 1000000 ∧ i.natAbs < 2 ^ 64 then some (.int (i ^ j.toNat)) else none
  | .band, .int i, .int j => some (.int (Builtin.bitAnd i j))
  | _, _, _ => none
def plt (p q : P) : Option Bool := match p, q with
  | .int i, .int j => some (decide (i < j))
  | .str x, .str y => some (decide (x.cps.toList < y.cps.toList))
  | p, q => if p.ltok q then some (p.lt q) else none
/-- is x among the items -/
def pmem (x : P) (xs : List P) : Option Bool := if x.eqok && (P.lst xs).eqok then some (xs.any fun y => PyData.eqv y.toPD x.toPD) else none
def lkp {α : Type} (kvs : List (P × α)) (k : P) : Option α := (kvs.find? fun q => decide (q.1 = k)).map (·.2)
def dput {α : Type} (kvs : List (P × α)) (k : P) (v : α) : List (P × α) := if (kvs.any fun q => decide (q.1 = k)) = true then kvs.map fun q => if q.1 = k then (q.1, v) else q else kvs ++ [(k, v)]
def ddel {α : Type} (kvs : List (P × α)) (k : P) : List (P × α) := kvs.filter fun q => decide (q.1 ≠ k)
/-- a key that fits a dict: of the kind of its keys -/
def kfit {α : Type} (kvs : List (P × α)) (k : P) : Bool := (k.sca && kvs.all fun q => q.1.sca) || (k.tky && kvs.all fun q => q.1.tky)
def pin (x y : P) : Option Bool := match y with
  | .tup xs => pmem x xs
  | .lst xs => pmem x xs
  | .dct kvs => if kfit kvs x then some (lkp kvs x).isSome else none
  | _ => none
def cop : COp → P → P → Option Bool
  | .eq, p, q => peq p q
  | .ne, p, q => (peq p q).map (!·)
  | .lt, p, q => plt p q
  | .gt, .int i, .int j => some (decide (j < i))
  | .gt, .str x, .str y => some (decide (y.cps.toList < x.cps.toList))
  | .le, .int i, .int j => some (decide (i ≤ j))
  | .le, .str x, .str y => some (!decide (y.cps.toList < x.cps.toList))
  | .ge, .int i, .int j => some (decide (j ≤ i))
  | .isin, p, q => pin p q
  | .notin, p, q => (pin p q).map (!·)
  | .isN, p, .non => some (decide (p = .non))
  | .notN, p, .non => some (!decide (p = .non))
  | _, _, _ => none
def truth : P → Option Bool
  | .non => some false
  | .bl b => some b
  | .int i => some (i != 0)
  | .str x => some ((x.length : Int) != 0)
  | .tup xs => some (!xs.isEmpty)
  | .lst xs => some (!xs.isEmpty)
  | _ => none
/-- a dict of scalar keys and plain scalar values -/
def P.fl0 : P → Bool
  | .int _ => true
  | .str _ => true
  | .bl _ => true
  | .non => true
  | _ => false
def dqok (kvs : List (P × P)) : Bool := kvs.all fun q => q.1.sca && q.2.fl0
/-- what an index gives -/
def ixD (st : Sto) (o i : D) : Option D := match o, i with
  | .p (.tup xs), .p (.int k) => (L2.atI xs k).map .p
  | .p (.lst xs), .p (.int k) => (L2.atI xs k).map .p
  | .p (.str x), .p (.int k) => (L2.atI x.cps.toList k).map fun c => .p (.str ⟨#[c]⟩)
  | .p (.dct kvs), .p k => if kfit kvs k then (lkp kvs k).map .p else none
  | .loc n, .p k => (match st[n]? with
    | some (.lst xs) => (match k with
      | .int j => L2.atI xs j
      | _ => none)
    | some (.dct kvs) => if kfit kvs k then lkp kvs k else none
    | _ => none)
  | _, _ => none
/-- o[i] = d -/
def setIx (st : Sto) (o i d : D) : Option Sto := match o, i with
  | .loc n, .p k => (match st[n]? with
    | some (.lst xs) => (match k with
      | .int j => (match L2.ixN xs.length j with
        | some m => some (st.set n (.lst (xs.set m d)))
        | none => none)
      | _ => none)
    | some (.dct kvs) => if kfit kvs k ∧ kvs.length < sizeLine then some (st.set n (.dct (dput kvs k d))) else none
    | _ => none)
  | _, _ => none
def cutL {α : Type} (xs : List α) (lo hi : Option Int) : List α := (xs.drop (HT.sIx xs.length 0 lo)).take (HT.sIx xs.length xs.length hi - HT.sIx xs.length 0 lo)
/-- the items that sorted takes -/
def itemsS : P → Option (List P)
  | .lst xs => some xs
  | .dct kvs => some (kvs.map (·.1))
  | _ => none
def boolsOf : List P → Option (List Bool)
  | [] => some []
  | .bl b :: r => (boolsOf r).map (b :: ·)
  | _ => none
def intsOf : List P → Option (List Int)
  | [] => some []
  | .int b :: r => (intsOf r).map (b :: ·)
  | _ => none
def P.le (a b : P) : Bool := !P.lt b a
def sortOk (xs : List P) : Bool := xs.all fun a => xs.all fun b => a.ltok b
def sorted (xs : List P) : List P := xs.mergeSort P.le
end PyM
namespace PyM
open PySem

/-! ### the IR -/
inductive Blt where
  | len | int | abs | tuple | list (l : Bool) | sorted (l : Bool) | all | any | sum | max1 | min1 | max2 | min2 | dict (l : Bool)
inductive Mth where
  | append | extend | get2 | popk | popi | ins | lclr | dclr | rvs
inductive TyN where
  | ty (n : String) | cls (c : Str)
/-- how a def of the text is called: on plain data alone, in a store of its own (its answer is made plain); or in the caller's store -/
inductive Cm where
  | pur | kep
mutual
inductive Ex where
  | var (i : Nat)
  | lit (x : P)
  | bin (o : BOp) (a b : Ex)
  | neg (a : Ex)
  | cmp (o : COp) (a b : Ex)
  | cmp2 (o o' : COp) (a b c : Ex)
  | and (a b : Ex) | or (a b : Ex) | not (a : Ex)
  | ite (t a b : Ex)
  | call (m : Cm) (f : Nat) (as : Exs)
  | blt (b : Blt) (as : Exs)
  | isi (a : Ex) (ts : List TyN)
  | mth (m : Mth) (o : Ex) (as : Exs)
  | ix (a i : Ex)
  | sl (a : Ex) (lo hi : OEx) (l : Bool)
  | tup (as : Exs)
  | lst (l : Bool) (as : Exs)
  | dnew (l : Bool)
  | lc (l : Bool) (elt : Ex) (own : List Nat) (tg : Tg) (it : It) (cond : OEx)
  | dc (l : Bool) (key val : Ex) (own : List Nat) (tg : Tg) (it : It) (cond : OEx)
  | lc2 (l : Bool) (elt : Ex) (own : List Nat) (tg : Tg) (it : It) (cond : OEx) (own1 : List Nat) (tg1 : Tg) (it1 : It) (cond1 : OEx)
  | dd (l : Bool) (as : Exs)
  | cat (a b : Ex)
  | deq (a b : Ex)
  | frz (a : Ex)
  | con (x : Str) (p : P)
  | att (c f : Str) (a : Ex)
  | new (c : Str) (i : Nat) (as : Exs)
inductive Exs where
  | nil | cons (a : Ex) (as : Exs)
inductive OEx where
  | none | some (a : Ex)
/-- a target -/
inductive Tg where
  | nm (i : Nat) | tup (ts : Tgs) | sub (o i : Ex)
inductive Tgs where
  | nil | cons (t : Tg) (ts : Tgs)
/-- what a loop walks -/
inductive It where
  | seq (a : Ex) | rng1 (a : Ex) | rng2 (a b : Ex) | enum (a : Ex) | rev (a : Ex)
end
/-- what an except suite says of the exception alone -/
inductive Hx where
  | lit (x : P) | fld (f : Str) | isi (c : Str) (yes no : List Str) | and (a b : Hx) | not (a : Hx) | nil | cons (a as : Hx) | tup (as : Hx)
inductive Hm where
  | nil | ret (x : Hx) (r : Hm) | asg (i : Nat) (x : Hx) (r : Hm) | ite (c : Hx) (a r : Hm)
inductive Hds where
  | nil | cons (c : Str) (yes no : List Str) (h : Hm) (r : Hds)
mutual
inductive Stm where
  | asg (t : Tg) (e : Ex)
  | ex (e : Ex)
  | ret (e : Ex)
  | retN
  | ite (c : Ex) (a b : Sts)
  | for (tg : Tg) (it : It) (b : Sts)
  | whl (c : Ex) (b : Sts)
  | brk | cnt | pas
  | par (i j : Nat) (a b : Ex)
  | gz (i : Nat)
  | bad
  | fld (c f : Str) (o e : Ex)
  | rse (c : Str)
  | rsf (c f : Str) (e : Ex)
  | trya (b : Sts) (c : Str) (i : Nat) (yes no : List Str) (h : Hm)
  | trym (b : Sts) (hs : Hds)
inductive Sts where
  | nil | cons (s : Stm) (ss : Sts)
end

/-! ### its meaning -/
/-- a new list of these values -/
def mkL (l : Bool) (ds : List D) (st : Sto) : Res D := match l with
  | true => .ok (.loc st.length) (st ++ [.lst ds])
  | false => (match pureL ds with
    | some ps => .ok (.p (.lst ps)) st
    | none => .fail)
def mkD (l : Bool) (kvs : List (P × D)) (st : Sto) : Res D := match l with
  | true => .ok (.loc st.length) (st ++ [.dct kvs])
  | false => (match pureK kvs with
    | some ps => .ok (.p (.dct ps)) st
    | none => .fail)
def mkT (ds : List D) (st : Sto) : Res D := match pureL ds with
  | some ps => .ok (.p (.tup ps)) st
  | none => .fail
/-- a slice's answer -/
def slD (st : Sto) (l : Bool) (x : P) (i j : Option Int) : Res D := match x with
  | .str z => .ok (.p (.str (L2.cutS z i j))) st
  | .tup xs => .ok (.p (.tup (cutL xs i j))) st
  | .lst xs => mkL l ((cutL xs i j).map .p) st
  | .scr ns => mkL l ((cutL ns i j).map fun n => .p (.int n)) st
  | _ => .fail
def P1 (f : P → Option P) (ds : List D) (st : Sto) : Res D := match ds with
  | [d] => (match rd st d with
    | some x => opt ((f x).map .p) st
    | none => .fail)
  | _ => .fail
def plen : P → Option P
  | .str x => some (.int x.length)
  | .tup xs => some (.int xs.length)
  | .lst xs => some (.int xs.length)
  | .dct kvs => some (.int kvs.length)
  | _ => none
def maxL : List Int → Option Int
  | [] => none
  | i :: r => match maxL r with
    | none => some i
    | some j => some (max i j)
def minL : List Int → Option Int
  | [] => none
  | i :: r => match minL r with
    | none => some i
    | some j => some (min i j)
/-- the first of the least -/
def minP (x : P) (xs : List P) : P := xs.foldl (fun a y => if y.lt a then y else a) x
def minA : List P → Option P
  | [] => none
  | x :: xs => if sortOk (x :: xs) then some (minP x xs) else none
def blt : Blt → List D → Sto → Res D
  | .len, ds, st => P1 plen ds st
  | .int, ds, st => P1 (fun
    | .int i => some (.int i)
    | .bl b => some (.int (if b then 1 else 0))
    | _ => none) ds st
  | .abs, ds, st => P1 (fun
    | .int i => some (.int (if i < 0 then -i else i))
    | _ => none) ds st
  | .tuple, ds, st => P1 (fun
    | .tup xs => some (.tup xs)
    | .lst xs => some (.tup xs)
    | _ => none) ds st
  | .list l, ds, st => (match ds with
    | [d] => (match rd st d with
      | some (.tup xs) => mkL l (xs.map .p) st
      | some (.lst xs) => mkL l (xs.map .p) st
      | _ => .fail)
    | _ => .fail)
  | .sorted l, ds, st => (match ds with
    | [d] => (match (rd st d).bind itemsS with
      | some xs => if sortOk xs then mkL l ((sorted xs).map .p) st else .fail
      | none => .fail)
    | _ => .fail)
  | .all, ds, st => P1 (fun
    | .lst xs => (boolsOf xs).map fun bs => .bl (bs.all id)
    | _ => none) ds st
  | .any, ds, st => P1 (fun
    | .lst xs => (boolsOf xs).map fun bs => .bl (bs.any id)
    | _ => none) ds st
  | .sum, ds, st => P1 (fun
    | .lst xs => (intsOf xs).map fun bs => .int bs.sum
    | .tup xs => (intsOf xs).map fun bs => .int bs.sum
    | _ => none) ds st
  | .max1, ds, st => P1 (fun
    | .lst xs => (intsOf xs).bind fun bs => (maxL bs).map .int
    | _ => none) ds st
  | .min1, ds, st => P1 (fun
    | .lst xs => (match intsOf xs with
      | some bs => (minL bs).map .int
      | none => minA xs)
    | _ => none) ds st
  | .max2, ds, st => (match ds with
    | [.p (.int i), .p (.int j)] => .ok (.p (.int (if j > i then j else i))) st
    | [.p (.str i), .p (.str j)] => .ok (.p (.str (if (P.str i).lt (P.str j) = true then j else i))) st
    | _ => .fail)
  | .min2, ds, st => (match ds with
    | [.p (.int i), .p (.int j)] => .ok (.p (.int (if j < i then j else i))) st
    | [.p (.str i), .p (.str j)] => .ok (.p (.str (if (P.str j).lt (P.str i) = true then j else i))) st
    | _ => .fail)
  | .dict l, ds, st => (match ds with
    | [d] => (match rd st d with
      | some (.dct kvs) => if kvs.all (fun q => q.1.sca) then mkD l (kvs.map fun q => (q.1, .p q.2)) st else .fail
      | _ => .fail)
    | _ => .fail)
def mth : Mth → D → List D → Sto → Res D
  | .append, .loc n, [d], st => (match st[n]? with
    | some (.lst xs) => if xs.length < sizeLine then .ok (.p .non) (st.set n (.lst (xs ++ [d]))) else .fail
    | _ => .fail)
  | .extend, .loc n, [d], st => (match st[n]?, rd st d with
    | some (.lst xs), some (.lst ys) => if xs.length + ys.length ≤ sizeLine then .ok (.p .non) (st.set n (.lst (xs ++ ys.map .p))) else .fail
    | some (.lst xs), some (.tup ys) => if xs.length + ys.length ≤ sizeLine then .ok (.p .non) (st.set n (.lst (xs ++ ys.map .p))) else .fail
    | _, _ => .fail)
  | .get2, .loc n, [.p k, d], st => (match st[n]? with
    | some (.dct kvs) => if kfit kvs k then .ok ((lkp kvs k).getD d) st else .fail
    | _ => .fail)
  | .get2, .p (.dct kvs), [.p k, d], st => if kfit kvs k then .ok (match lkp kvs k with
    | some x => .p x
    | none => d) st else .fail
  | .popk, .loc n, [.p k], st => (match st[n]? with
    | some (.dct kvs) => if kfit kvs k then (match lkp kvs k with
      | some v => .ok v (st.set n (.dct (ddel kvs k)))
      | none => .fail) else .fail
    | _ => .fail)
  | .popi, .loc n, [.p (.int k)], st => (match st[n]? with
    | some (.lst xs) => (match L2.ixN xs.length k with
      | some m => (match xs[m]? with
        | some d => .ok d (st.set n (.lst (xs.eraseIdx m)))
        | none => .fail)
      | none => .fail)
    | _ => .fail)
  | .ins, .loc n, [.p (.int i), d], st => (match st[n]? with
    | some (.lst xs) => if xs.length < sizeLine ∧ 0 ≤ i ∧ i < 2 ^ 63 then .ok (.p .non) (st.set n (.lst (xs.take i.toNat ++ [d] ++ xs.drop i.toNat))) else .fail
    | _ => .fail)
  | .lclr, .loc n, [], st => (match st[n]? with
    | some (.lst _) => .ok (.p .non) (st.set n (.lst []))
    | _ => .fail)
  | .dclr, .loc n, [], st => (match st[n]? with
    | some (.dct kvs) => if (kvs.all fun q => q.1.sca) = true then .ok (.p .non) (st.set n (.dct [])) else .fail
    | _ => .fail)
  | .rvs, .loc n, [], st => (match st[n]? with
    | some (.lst xs) => .ok (.p .non) (st.set n (.lst xs.reverse))
    | _ => .fail)
  | _, _, _, _ => .fail
/-- the receiver is of the method's type -/
def mok (st : Sto) : Mth → D → Bool
  | .append, .loc n => (match st[n]? with
    | some (.lst _) => true
    | _ => false)
  | .extend, .loc n => (match st[n]? with
    | some (.lst _) => true
    | _ => false)
  | .get2, .loc n => (match st[n]? with
    | some (.dct _) => true
    | _ => false)
  | .get2, .p (.dct _) => true
  | .popk, .loc n => (match st[n]? with
    | some (.dct _) => true
    | _ => false)
  | .popi, .loc n => (match st[n]? with
    | some (.lst _) => true
    | _ => false)
  | .ins, .loc n => (match st[n]? with
    | some (.lst _) => true
    | _ => false)
  | .lclr, .loc n => (match st[n]? with
    | some (.lst _) => true
    | _ => false)
  | .dclr, .loc n => (match st[n]? with
    | some (.dct _) => true
    | _ => false)
  | .rvs, .loc n => (match st[n]? with
    | some (.lst _) => true
    | _ => false)
  | _, _ => false
def tyOf : P → Option String
  | .non => some "NoneType"
  | .bl _ => some "bool"
  | .int _ => some "int"
  | .str _ => some "str"
  | .tup _ => some "tuple"
  | .lst _ => some "list"
  | .dct _ => some "dict"
  | .ty _ => none
  | .ins _ _ => none
  | .scr _ => none
def isTy (t : TyN) : D → Sto → Option Bool
  | .p (.ins c _), _ => (match t with
    | .ty _ => some false
    | .cls c' => some (decide (c' = c)))
  | .p x, _ => (match tyOf x with
    | some m => (match t with
      | .ty n => some (decide (n = m) || (decide (n = "int") && decide (m = "bool")))
      | .cls _ => some false)
    | none => none)
  | .loc n, st => (match st[n]?, t with
    | some (.lst _), .ty m => some (decide (m = "list"))
    | some (.dct _), .ty m => some (decide (m = "dict"))
    | some (.ins _ _), .ty _ => some false
    | some (.ins c _), .cls c' => some (decide (c' = c))
    | _, _ => none)
def isAny (d : D) (st : Sto) : List TyN → Option Bool
  | [] => some false
  | t :: r => match isTy t d st with
    | some true => some true
    | some false => isAny d st r
    | none => none
/-- the slots of a comprehension's own names -/
def wipe (env : Env) : List Nat → Env
  | [] => env
  | i :: r => (wipe env r).set i none
/-- frozen: the object is no longer the store's -/
def frzD (d : D) (st : Sto) : Res D := match d with
  | .p x => .ok (.p x) st
  | .loc n => (match st[n]? with
    | some o => (match o.view with
      | some x => .ok (.p x) (st.set n .dead)
      | none => .fail)
    | none => .fail)
/-- what is walked: values told ahead, or a list of the store as it stands at each turn -/
inductive Src where
  | fix (xs : List D) | loc (n : Nat)
def srcOf (st : Sto) : D → Option Src
  | .p (.tup xs) => some (.fix (xs.map .p))
  | .p (.lst xs) => some (.fix (xs.map .p))
  | .p (.str x) => some (.fix (x.cps.toList.map fun c => .p (.str ⟨#[c]⟩)))
  | .p (.dct kvs) => some (.fix (kvs.map fun q => .p q.1))
  | .loc n => (match st[n]? with
    | some (.lst _) => some (.loc n)
    | _ => none)
  | _ => none
def rngL (lo : Int) (n : Nat) : List D := (List.range n).map fun (k : Nat) => .p (.int (lo + (k : Int)))
def enumL (k : Nat) : List P → List D
  | [] => []
  | x :: r => .p (.tup [.int (k : Int), x]) :: enumL (k + 1) r
/-- turns of a comprehension -/
def lcFix (step : D → Sto → Res (Option D)) : List D → List D → Sto → Res (List D)
  | [], acc, st => .ok acc st
  | d :: r, acc, st => match step d st with
    | .ok (some x) st' => lcFix step r (acc ++ [x]) st'
    | .ok none st' => lcFix step r acc st'
    | _ => .fail
def lcLoc (step : D → Sto → Res (Option D)) (n : Nat) : Nat → Nat → List D → Sto → Res (List D)
  | 0, _, _, _ => .fail
  | f + 1, i, acc, st => match st[n]? with
    | some (.lst xs) => (match xs[i]? with
      | none => .ok acc st
      | some d => (match step d st with
        | .ok (some x) st' => if acc.length < sizeLine then lcLoc step n f (i + 1) (acc ++ [x]) st' else .fail
        | .ok none st' => lcLoc step n f (i + 1) acc st'
        | _ => .fail))
    | _ => .fail
def FUEL : Nat := 2 ^ 4096
def lcSrc (step : D → Sto → Res (Option D)) (s : Src) (st : Sto) : Res (List D) := match s with
  | .fix xs => lcFix step xs [] st
  | .loc n => lcLoc step n FUEL 0 [] st
/-- turns of a comprehension of two fors: each gathers a list -/
def lcFixM (step : D → Sto → Res (Option (List D))) : List D → List D → Sto → Res (List D)
  | [], acc, st => .ok acc st
  | d :: r, acc, st => match step d st with
    | .ok (some zs) st' => if acc.length + zs.length ≤ sizeLine then lcFixM step r (acc ++ zs) st' else .fail
    | .ok none st' => lcFixM step r acc st'
    | _ => .fail
def lcLocM (step : D → Sto → Res (Option (List D))) (n : Nat) : Nat → Nat → List D → Sto → Res (List D)
  | 0, _, _, _ => .fail
  | f + 1, i, acc, st => match st[n]? with
    | some (.lst xs) => (match xs[i]? with
      | none => .ok acc st
      | some d => (match step d st with
        | .ok (some zs) st' => if acc.length + zs.length ≤ sizeLine then lcLocM step n f (i + 1) (acc ++ zs) st' else .fail
        | .ok none st' => lcLocM step n f (i + 1) acc st'
        | _ => .fail))
    | _ => .fail
def lcM (step : D → Sto → Res (Option (List D))) (s : Src) (st : Sto) : Res (List D) := match s with
  | .fix xs => lcFixM step xs [] st
  | .loc n => lcLocM step n FUEL 0 [] st
/-- the pairs of a display, keys of one scalar kind -/
def ddPut : List D → List (P × D) → Option (List (P × D))
  | [], acc => some acc
  | .p k :: v :: r, acc => if k.sca = true then ddPut r (dput acc k v) else none
  | _, _ => none
/-- turns of a dict comprehension -/
def dcFix (step : D → Sto → Res (Option (P × D))) : List D → List (P × D) → Sto → Res (List (P × D))
  | [], acc, st => .ok acc st
  | d :: r, acc, st => match step d st with
    | .ok (some (k, v)) st' => if kfit acc k then dcFix step r (dput acc k v) st' else .fail
    | .ok none st' => dcFix step r acc st'
    | _ => .fail
abbrev CF := Nat → List D → Sto → Res D
/-- no exception let out -/
def Res.nox {α : Type} (r : Res α) : Res α := match r with
  | .exc _ _ => .fail
  | r => r
/-- an object that a def of its own store hands back, made plain (n: so deep) -/
def frzAll (st : Sto) : Nat → D → Option P
  | _, .p x => some x
  | 0, .loc _ => none
  | n + 1, .loc m => match st[m]? with
    | some (.lst xs) => (xs.mapM (frzAll st n)).map .lst
    | some (.dct kvs) => (kvs.mapM fun q => (frzAll st n q.2).map fun v => (q.1, v)).map .dct
    | some (.ins c fs) => (fs.mapM fun q => (frzAll st n q.2).map fun v => (q.1, v)).map (.ins c)
    | _ => none
def callM (m : Cm) (cf : CF) (i : Nat) (ds : List D) (st : Sto) : Res D := match m with
  | .kep => cf i ds st
  | .pur => match pureL ds with
    | none => .fail
    | some ps => match cf i (ps.map .p) [] with
      | .ok d st' => (match frzAll st' 6 d with
        | some p => .ok (.p p) st
        | none => .fail)
      | .exc e _ => .exc e st
      | .fail => .fail
/-- a field of an instance of the class c -/
def attD (st : Sto) (c f : Str) : D → Option D
  | .p (.ins C fs) => if C = c then (fs.lookup f).map .p else none
  | .loc n => (match st[n]? with
    | some (.ins C fs) => if C = c then fs.lookup f else none
    | _ => none)
  | _ => none
def putFd (f : Str) (d : D) : List (Str × D) → List (Str × D)
  | [] => [(f, d)]
  | (g, x) :: r => if g = f then (g, d) :: r else (g, x) :: putFd f d r
/-- o.f = d -/
def setAt (st : Sto) (c f : Str) (o d : D) : Option Sto := match o with
  | .loc n => (match st[n]? with
    | some (.ins C fs) => if C = c ∧ fs.length < 1000 then some (st.set n (.ins C (putFd f d fs))) else none
    | _ => none)
  | _ => none
/-- behind __init__ -/
def newR (n : Nat) (d : D) (st : Sto) : Res D := match d with
  | .p .non => .ok (.loc n) st
  | _ => .fail
mutual
def den (cf : CF) : Ex → Env → Sto → Res D
  | .var i, env, st => (match env[i]? with
    | some (some d) => .ok d st
    | _ => .fail)
  | .lit x, _, st => .ok (.p x) st
  | .bin o a b, env, st => (den cf a env st).bind fun x s1 => (den cf b env s1).bind fun y s2 => (match rd s2 x, rd s2 y with
    | some x, some y => opt ((bop o x y).map .p) s2
    | _, _ => .fail)
  | .neg a, env, st => (den cf a env st).bind fun x s1 => (match x with
    | .p (.int i) => .ok (.p (.int (-i))) s1
    | _ => .fail)
  | .cmp o a b, env, st => (den cf a env st).bind fun x s1 => (den cf b env s1).bind fun y s2 => (match rd s2 x, rd s2 y with
    | some x, some y => opt ((cop o x y).map fun b => .p (.bl b)) s2
    | _, _ => .fail)
  | .cmp2 o o' a b c, env, st => (den cf a env st).bind fun x s1 => (den cf b env s1).bind fun y s2 => (match rd s2 x, rd s2 y with
    | some x', some y' => (match cop o x' y' with
      | some false => .ok (.p (.bl false)) s2
      | some true => (den cf c env s2).bind fun z s3 => (match rd s3 y, rd s3 z with
        | some y', some z' => opt ((cop o' y' z').map fun b => .p (.bl b)) s3
        | _, _ => .fail)
      | none => .fail)
    | _, _ => .fail)
  | .and a b, env, st => (den cf a env st).bind fun x s1 => (match (rd s1 x).bind truth with
    | some true => den cf b env s1
    | some false => .ok x s1
    | none => .fail)
  | .or a b, env, st => (den cf a env st).bind fun x s1 => (match (rd s1 x).bind truth with
    | some true => .ok x s1
    | some false => den cf b env s1
    | none => .fail)
  | .not a, env, st => (den cf a env st).bind fun x s1 => opt (((rd s1 x).bind truth).map fun b => .p (.bl (!b))) s1
  | .ite t a b, env, st => (den cf t env st).bind fun x s1 => (match (rd s1 x).bind truth with
    | some true => den cf a env s1
    | some false => den cf b env s1
    | none => .fail)
  | .call m f as, env, st => (dens cf as env st).bind fun ds s1 => callM m cf f ds s1
  | .blt b as, env, st => (dens cf as env st).bind fun ds s1 => blt b ds s1
  | .isi a ts, env, st => (den cf a env st).bind fun x s1 => opt ((isAny x s1 ts).map fun b => .p (.bl b)) s1
  | .mth m o as, env, st => (den cf o env st).bind fun x s1 => if mok s1 m x then (dens cf as env s1).bind fun ds s2 => mth m x ds s2 else .fail
  | .ix a i, env, st => (den cf a env st).bind fun x s1 => (den cf i env s1).bind fun y s2 => opt (ixD s2 x y) s2
  | .sl a lo hi l, env, st => (den cf a env st).bind fun x s1 => (deno cf lo env s1).bind fun i s2 => (deno cf hi env s2).bind fun j s3 => (match rd s3 x with
    | some x => slD s3 l x i j
    | none => .fail)
  | .tup as, env, st => (dens cf as env st).bind fun ds s1 => mkT ds s1
  | .lst l as, env, st => (dens cf as env st).bind fun ds s1 => mkL l ds s1
  | .dnew l, _, st => mkD l [] st
  | .lc l elt own tg it cond, env, st => (deni cf it env st).bind fun src s1 =>
      (lcSrc (fun d s => (denT cf tg d (wipe env own) s).bind fun e1 s2 => (denc cf cond e1 s2).bind fun b s3 => (match b with
        | true => (den cf elt e1 s3).bind fun x s4 => .ok (some x) s4
        | false => .ok none s3)) src s1).bind fun ds s5 => mkL l ds s5
  | .lc2 l elt own tg it cond own1 tg1 it1 cond1, env, st => (deni cf it env st).bind fun src s1 =>
      (lcM (fun d s => (denT cf tg d (wipe env own) s).bind fun e1 s2 => (denc cf cond e1 s2).bind fun b s3 => (match b with
        | true => ((deni cf it1 e1 s3).bind fun src1 s4 => lcSrc (fun d s => (denT cf tg1 d (wipe e1 own1) s).bind fun e2 s5 => (denc cf cond1 e2 s5).bind fun b s6 => (match b with
          | true => (den cf elt e2 s6).bind fun x s7 => .ok (some x) s7
          | false => .ok none s6)) src1 s4).bind fun x s4 => .ok (some x) s4
        | false => .ok none s3)) src s1).bind fun ds s5 => mkL l ds s5
  | .cat a b, env, st => (den cf a env st).bind fun x s1 => (den cf b env s1).bind fun y s2 => (match rd s2 x, rd s2 y with
    | some (.lst xs), some (.lst ys) => if xs.length + ys.length ≤ sizeLine then mkL true ((xs ++ ys).map .p) s2 else .fail
    | _, _ => .fail)
  | .deq a b, env, st => (den cf a env st).bind fun x s1 => (den cf b env s1).bind fun y s2 => (match rd s2 x, rd s2 y with
    | some (.dct p), some (.dct q) => if p = q ∧ dqok p = true then .ok (.p (.bl true)) s2 else .fail
    | _, _ => .fail)
  | .dd l as, env, st => (dens cf as env st).bind fun ds s1 => (match ddPut ds [] with
    | some kvs => mkD l kvs s1
    | none => .fail)
  | .dc l key val own tg it cond, env, st => (deni cf it env st).bind fun src s1 => (match src with
    | .fix xs => (dcFix (fun d s => (denT cf tg d (wipe env own) s).bind fun e1 s2 => (denc cf cond e1 s2).bind fun b s3 => (match b with
        | true => (den cf key e1 s3).bind fun k s4 => (den cf val e1 s4).bind fun x s5 => (match k with
          | .p k => .ok (some (k, x)) s5
          | _ => .fail)
        | false => .ok none s3)) xs [] s1).bind fun kvs s5 => mkD l kvs s5
    | .loc _ => .fail)
  | .frz a, env, st => (den cf a env st).bind fun x s1 => frzD x s1
  | .con _ p, _, st => .ok (.p p) st
  | .att c f a, env, st => (den cf a env st).bind fun x s1 => opt (attD s1 c f x) s1
  | .new c i as, env, st => (dens cf as env st).bind fun ds s1 => (cf i (.loc s1.length :: ds) (s1 ++ [.ins c []])).bind fun d s2 => newR s1.length d s2
def dens (cf : CF) : Exs → Env → Sto → Res (List D)
  | .nil, _, st => .ok [] st
  | .cons a as, env, st => (den cf a env st).bind fun x s1 => (dens cf as env s1).bind fun xs s2 => .ok (x :: xs) s2
/-- a slice's part -/
def deno (cf : CF) : OEx → Env → Sto → Res (Option Int)
  | .none, _, st => .ok none st
  | .some a, env, st => (den cf a env st).bind fun x s1 => (match x with
    | .p (.int i) => .ok (some i) s1
    | _ => .fail)
/-- a comprehension's condition -/
def denc (cf : CF) : OEx → Env → Sto → Res Bool
  | .none, _, st => .ok true st
  | .some a, env, st => (den cf a env st).bind fun x s1 => opt ((rd s1 x).bind truth) s1
/-- a value stored to a target -/
def denT (cf : CF) : Tg → D → Env → Sto → Res Env
  | .nm i, d, env, st => .ok (env.set i (some d)) st
  | .tup ts, d, env, st => (match d with
    | .p (.tup xs) => denTs cf ts (xs.map .p) env st
    | _ => .fail)
  | .sub o i, d, env, st => ((den cf o env st).bind fun x s1 => (den cf i env s1).bind fun y s2 => (match setIx s2 x y d with
    | some s3 => .ok env s3
    | none => .fail)).nox
def denTs (cf : CF) : Tgs → List D → Env → Sto → Res Env
  | .nil, ds, env, st => (match ds with
    | [] => .ok env st
    | _ => .fail)
  | .cons t ts, ds, env, st => (match ds with
    | d :: r => (denT cf t d env st).bind fun e1 s1 => denTs cf ts r e1 s1
    | [] => .fail)
def deni (cf : CF) : It → Env → Sto → Res Src
  | .seq a, env, st => (den cf a env st).bind fun x s1 => opt (srcOf s1 x) s1
  | .rng1 a, env, st => (den cf a env st).bind fun x s1 => (match x with
    | .p (.int j) => if -(2 ^ 62) ≤ j ∧ j ≤ sizeLine then .ok (.fix (rngL 0 j.toNat)) s1 else .fail
    | _ => .fail)
  | .rng2 a b, env, st => (den cf a env st).bind fun x s1 => (den cf b env s1).bind fun y s2 => (match x, y with
    | .p (.int i), .p (.int j) => if -(2 ^ 62) ≤ i ∧ i < 2 ^ 62 ∧ -(2 ^ 62) ≤ j ∧ j < 2 ^ 62 ∧ j - i ≤ sizeLine then .ok (.fix (rngL i (j - i).toNat)) s2 else .fail
    | _, _ => .fail)
  | .enum a, env, st => (den cf a env st).bind fun x s1 => (match x with
    | .p (.lst xs) => .ok (.fix (enumL 0 xs)) s1
    | .p (.tup xs) => .ok (.fix (enumL 0 xs)) s1
    | _ => .fail)
  | .rev a, env, st => (den cf a env st).bind fun x s1 => (match x with
    | .p (.lst xs) => .ok (.fix (xs.reverse.map .p)) s1
    | .p (.tup xs) => .ok (.fix (xs.reverse.map .p)) s1
    | _ => .fail)
end
/-- a statement's end -/
inductive SR where
  | nx (env : Env) (st : Sto) | rt (d : D) (st : Sto) | bk (env : Env) (st : Sto) | ct (env : Env) (st : Sto) | exc (e : Exc) (env : Env) (st : Sto) | fail
/-- behind an expression -/
def Res.thn {α : Type} (r : Res α) (env : Env) (f : α → Sto → SR) : SR := match r with
  | .ok a s => f a s
  | .exc e s => .exc e env s
  | .fail => .fail
@[simp] theorem Res.thn_ok {α : Type} (a : α) (s : Sto) (env : Env) (f : α → Sto → SR) : (Res.ok a s).thn env f = f a s := rfl
@[simp] theorem Res.thn_exc {α : Type} (e : Exc) (s : Sto) (env : Env) (f : α → Sto → SR) : (Res.exc e s : Res α).thn env f = .exc e env s := rfl
@[simp] theorem Res.thn_fail {α : Type} (env : Env) (f : α → Sto → SR) : (Res.fail : Res α).thn env f = .fail := rfl
def SR.bind (r : SR) (f : Env → Sto → SR) : SR := match r with
  | .nx env st => f env st
  | r => r
@[simp] theorem SR.bind_nx (env : Env) (st : Sto) (f : Env → Sto → SR) : (SR.nx env st).bind f = f env st := rfl
@[simp] theorem SR.bind_rt (d : D) (st : Sto) (f : Env → Sto → SR) : (SR.rt d st).bind f = .rt d st := rfl
@[simp] theorem SR.bind_bk (env : Env) (st : Sto) (f : Env → Sto → SR) : (SR.bk env st).bind f = .bk env st := rfl
@[simp] theorem SR.bind_ct (env : Env) (st : Sto) (f : Env → Sto → SR) : (SR.ct env st).bind f = .ct env st := rfl
@[simp] theorem SR.bind_exc (e : Exc) (env : Env) (st : Sto) (f : Env → Sto → SR) : (SR.exc e env st).bind f = .exc e env st := rfl
@[simp] theorem SR.bind_fail (f : Env → Sto → SR) : SR.fail.bind f = .fail := rfl
/-- behind a loop's body: the next turn, or out -/
def SR.turn (r : SR) (f : Env → Sto → SR) : SR := match r with
  | .nx env st => f env st
  | .ct env st => f env st
  | .bk env st => .nx env st
  | r => r
@[simp] theorem SR.turn_nx (env : Env) (st : Sto) (f : Env → Sto → SR) : (SR.nx env st).turn f = f env st := rfl
@[simp] theorem SR.turn_ct (env : Env) (st : Sto) (f : Env → Sto → SR) : (SR.ct env st).turn f = f env st := rfl
@[simp] theorem SR.turn_bk (env : Env) (st : Sto) (f : Env → Sto → SR) : (SR.bk env st).turn f = .nx env st := rfl
@[simp] theorem SR.turn_rt (d : D) (st : Sto) (f : Env → Sto → SR) : (SR.rt d st).turn f = .rt d st := rfl
@[simp] theorem SR.turn_exc (e : Exc) (env : Env) (st : Sto) (f : Env → Sto → SR) : (SR.exc e env st).turn f = .exc e env st := rfl
@[simp] theorem SR.turn_fail (f : Env → Sto → SR) : SR.fail.turn f = .fail := rfl
def forFix (body : D → Env → Sto → SR) : List D → Env → Sto → SR
  | [], env, st => .nx env st
  | d :: r, env, st => (body d env st).turn fun e s => forFix body r e s
def forLoc (body : D → Env → Sto → SR) (n : Nat) : Nat → Nat → Env → Sto → SR
  | 0, _, _, _ => .fail
  | f + 1, i, env, st => match st[n]? with
    | some (.lst xs) => (match xs[i]? with
      | none => .nx env st
      | some d => (body d env st).turn fun e s => forLoc body n f (i + 1) e s)
    | _ => .fail
def whlN (c : Env → Sto → Res Bool) (body : Env → Sto → SR) : Nat → Env → Sto → SR
  | 0, _, _ => .fail
  | f + 1, env, st => (c env st).thn env fun b s => match b with
    | true => (body env s).turn fun e s' => whlN c body f e s'
    | false => .nx env s
/-- what an except suite's words say; lists of them -/
def hxs : Hx → Exc → Option (List P)
  | .nil, _ => some []
  | .lit x, _ => some [x]
  | .fld f, e => (e.fs.lookup f).map fun p => [p]
  | .isi _ yes no, e => if e.c ∈ yes then some [.bl true] else if e.c ∈ no then some [.bl false] else none
  | .and a b, e => (match hxs a e with
    | some [.bl true] => (match hxs b e with
      | some [.bl y] => some [.bl y]
      | _ => none)
    | some [.bl false] => some [.bl false]
    | _ => none)
  | .not a, e => (match hxs a e with
    | some [.bl y] => some [.bl (!y)]
    | _ => none)
  | .cons a as, e => (match hxs a e, hxs as e with
    | some [x], some xs => some (x :: xs)
    | _, _ => none)
  | .tup as, e => (hxs as e).map fun xs => [.tup xs]
def hx1 (x : Hx) (e : Exc) : Option P := match hxs x e with
  | some [p] => some p
  | _ => none
def dnM : Hm → Exc → Env → Sto → SR
  | .nil, _, env, st => .nx env st
  | .ret x _, e, _, st => (match hx1 x e with
    | some p => .rt (.p p) st
    | none => .fail)
  | .asg i x r, e, env, st => (match hx1 x e with
    | some p => dnM r e (env.set i (some (.p p))) st
    | none => .fail)
  | .ite c a r, e, env, st => (match hx1 c e with
    | some (.bl true) => dnM a e env st
    | some (.bl false) => dnM r e env st
    | _ => .fail)
def dnHs : Hds → Exc → Env → Sto → SR
  | .nil, e, env, st => .exc e env st
  | .cons _ yes no h r, e, env, st => if e.c ∈ yes then dnM h e env st else if e.c ∈ no then dnHs r e env st else .fail
/-- an exception caught -/
def SR.ctch (r : SR) (f : Exc → Env → Sto → SR) : SR := match r with
  | .exc e env st => f e env st
  | r => r
@[simp] theorem SR.ctch_nx (env : Env) (st : Sto) (f : Exc → Env → Sto → SR) : (SR.nx env st).ctch f = .nx env st := rfl
@[simp] theorem SR.ctch_rt (d : D) (st : Sto) (f : Exc → Env → Sto → SR) : (SR.rt d st).ctch f = .rt d st := rfl
@[simp] theorem SR.ctch_bk (env : Env) (st : Sto) (f : Exc → Env → Sto → SR) : (SR.bk env st).ctch f = .bk env st := rfl
@[simp] theorem SR.ctch_ct (env : Env) (st : Sto) (f : Exc → Env → Sto → SR) : (SR.ct env st).ctch f = .ct env st := rfl
@[simp] theorem SR.ctch_exc (e : Exc) (env : Env) (st : Sto) (f : Exc → Env → Sto → SR) : (SR.exc e env st).ctch f = f e env st := rfl
@[simp] theorem SR.ctch_fail (f : Exc → Env → Sto → SR) : SR.fail.ctch f = .fail := rfl
/-- an except clause's name goes -/
def SR.drop (i : Nat) (r : SR) : SR := match r with
  | .nx env st => .nx (env.set i none) st
  | .bk env st => .bk (env.set i none) st
  | .ct env st => .ct (env.set i none) st
  | r => r
@[simp] theorem SR.drop_nx (i : Nat) (env : Env) (st : Sto) : (SR.nx env st).drop i = .nx (env.set i none) st := rfl
@[simp] theorem SR.drop_rt (i : Nat) (d : D) (st : Sto) : (SR.rt d st).drop i = .rt d st := rfl
mutual
def dnS (cf : CF) : Stm → Env → Sto → SR
  | .asg t e, env, st => (den cf e env st).thn env fun d s1 => (denT cf t d env s1).thn env fun e1 s2 => .nx e1 s2
  | .ex e, env, st => (den cf e env st).thn env fun _ s1 => .nx env s1
  | .ret e, env, st => (den cf e env st).thn env fun d s1 => .rt d s1
  | .retN, _, st => .rt (.p .non) st
  | .ite c a b, env, st => (denc cf (.some c) env st).thn env fun t s1 => (match t with
    | true => dnB cf a env s1
    | false => dnB cf b env s1)
  | .for tg it b, env, st => (deni cf it env st).thn env fun src s1 => (match src with
    | .fix xs => forFix (fun d e s => (denT cf tg d e s).thn e fun e1 s2 => dnB cf b e1 s2) xs env s1
    | .loc n => forLoc (fun d e s => (denT cf tg d e s).thn e fun e1 s2 => dnB cf b e1 s2) n FUEL 0 env s1)
  | .whl c b, env, st => whlN (fun e s => denc cf (.some c) e s) (fun e s => dnB cf b e s) FUEL env st
  | .brk, env, st => .bk env st
  | .cnt, env, st => .ct env st
  | .pas, env, st => .nx env st
  | .par i j a b, env, st => (den cf a env st).thn env fun x s1 => (den cf b env s1).thn env fun y s2 => .nx ((env.set i (some x)).set j (some y)) s2
  | .gz i, env, st => (match env[i]? with
    | some (some d) => (frzD d st).thn env fun x s1 => .nx (env.set i (some x)) s1
    | _ => .fail)
  | .bad, _, _ => .fail
  | .fld c f o e, env, st => (den cf e env st).thn env fun d s1 => (den cf o env s1).thn env fun x s2 => (match setAt s2 c f x d with
    | some s3 => .nx env s3
    | none => .fail)
  | .rse c, env, st => .exc ⟨c, []⟩ env st
  | .rsf c f e, env, st => (den cf e env st).thn env fun d s1 => (match d with
    | .p p => .exc ⟨c, [(f, p)]⟩ env s1
    | _ => .fail)
  | .trya b _ i yes no h, env, st => (dnB cf b env st).ctch fun e env st => if e.c ∈ yes then (if i < env.length then (dnM h e (env.set i none) st).drop i else .fail) else if e.c ∈ no then .exc e env st else .fail
  | .trym b hs, env, st => (dnB cf b env st).ctch fun e env st => dnHs hs e env st
def dnB (cf : CF) : Sts → Env → Sto → SR
  | .nil, env, st => .nx env st
  | .cons s ss, env, st => (dnS cf s env st).bind fun e1 s1 => dnB cf ss e1 s1
end
/-- a def: its name, its parameters' number, its slots' names, its body -/
structure Fn where
  name : Str
  np : Nat
  ns : Nat
  body : Sts
def runFn (cf : CF) (f : Fn) (ds : List D) (st : Sto) : Res D := if ds.length = f.np then (match dnB cf f.body (ds.map some ++ List.replicate (f.ns - ds.length) none) st with
    | .nx _ s => .ok (.p .non) s
    | .rt d s => .ok d s
    | .exc e _ s => .exc e s
    | _ => .fail) else .fail
/-- the defs of a text, so many calls deep -/
def evalFn (fs : List Fn) : Nat → CF
  | 0, _, _, _ => .fail
  | k + 1, i, ds, st => match fs[i]? with
    | some f => runFn (evalFn fs k) f ds st
    | none => .fail
end PyM
namespace PyM
open PySem PySem.Spec PyProof.Rows L2

/-- what is told of the text and the world -/
structure Cfg where
  P : Program
  w : World
  K : PySem.W.Frag
  ca : Str → Option Addr
/-- where the store's objects stand; what is frozen -/
structure Gh where
  lm : Nat → Addr
  F : Addr → Prop

def sOk (x : Str) : Prop := PySem.PyData.strOk x = true ∧ x.length ≤ sizeLine
/-- a key as the library's key -/
def P.nk : P → NestedKey
  | .int i => .num i
  | .str x => .text x
  | .tup xs => .tup (nks xs)
  | _ => .none
where nks : List P → List NestedKey
  | [] => []
  | x :: xs => P.nk x :: nks xs
/-- a key as the hand layer's key -/
def P.kk : P → Key
  | .int i => .inl i
  | .str x => .inr x
  | _ => .inl 0
/-- one entry: the key, its value, the value there -/
abbrev Ent := P × V × V
def adr : V → Addr
  | .ref a => a
  | _ => 0
def xsOf : List Ent → List Value → List (NestedKey × Addr × Value)
  | e :: es, u :: us => (e.1.nk, adr e.2.1, u) :: xsOf es us
  | _, _ => []
/-- at a stands a dict of tuple keys, by its own object -/
def DKf (P : Program) (w : World) (a : Addr) (es : List Ent) (h : Heap) : Prop :=
  (a == sysModules) = false ∧ ∃ us, Vals (es.map (·.2.2)) us ∧ ∃ o ents ep, h.get? a = some o ∧ o.ExactDict ∧ o.data = .dict ents ep ∧
    ents.toList = (xsOf es us).map (entryOfKey (nestedKind P w)) ∧ (es.map (·.1.nk)).Nodup
/-- at a stands a dict with these entries, that may be written -/
def DctW (c : Cfg) (H : Hp) (a : Addr) (es : List Ent) : Prop := es.length ≤ sizeLine ∧ (es.map (·.1)).Nodup ∧
  (((∀ e ∈ es, e.1.sca = true) ∧ H a = some (.dK (es.map fun e => (e.1.kk, e.2.2)))) ∨
    (es ≠ [] ∧ (∀ e ∈ es, e.1.tky = true) ∧ H a = some (.ext (DKf c.P c.w a es))))
/-- at a stands a dict with these entries, that may be read -/
def DctAt (c : Cfg) (H : Hp) (a : Addr) (es : List Ent) : Prop := es.length ≤ sizeLine ∧ (es.map (·.1)).Nodup ∧
  (((∀ e ∈ es, e.1.sca = true) ∧ Rd H a (.dK (es.map fun e => (e.1.kk, e.2.2)))) ∨
    (es ≠ [] ∧ (∀ e ∈ es, e.1.tky = true) ∧ Rd H a (.ext (DKf c.P c.w a es))))
theorem DctW.r {c : Cfg} {H : Hp} {a : Addr} {es : List Ent} (h : DctW c H a es) : DctAt c H a es := by
  obtain ⟨z, n, ⟨k, e⟩ | ⟨ne, k, e⟩⟩ := h
  · exact ⟨z, n, .inl ⟨k, .inl e⟩⟩
  · exact ⟨z, n, .inr ⟨ne, k, .inl e⟩⟩
/-- a dict's heap object -/
def DictO : HO → Prop
  | .dK _ => True
  | .ext _ => True
  | _ => False
/-- what stood there stands there still, or is locked -/
def GeF (p : Prop) (o : HO) (x : Option HO) : Prop := x = some o ∨ (p ∧ DictO o ∧ ∃ od, x = some (.frz od o))
theorem GeF.nd {p : Prop} {o : HO} {x : Option HO} (h : GeF p o x) (hn : ¬ DictO o) : x = some o := h.elim id fun q => absurd q.2.1 hn
theorem GeF.nf {p : Prop} {o : HO} {x : Option HO} (h : GeF p o x) (hn : ¬ p) : x = some o := h.elim id fun q => absurd q.1 hn
theorem GeF.ex {p : Prop} {o : HO} {x : Option HO} (h : GeF p o x) : ∃ o', x = some o' := h.elim (fun e => ⟨_, e⟩) fun q => ⟨_, q.2.2.choose_spec⟩
theorem GeF.imp {p q : Prop} {o : HO} {x : Option HO} (h : GeF p o x) (k : p → q) : GeF q o x := h.elim .inl fun z => .inr ⟨k z.1, z.2⟩
theorem GeF.rd {p : Prop} {o : HO} {H H' : Hp} {a : Addr} (m : ∀ o, H a = some o → GeF p o (H' a)) (h : Rd H a o) : Rd H' a o := by
  rcases h with h | ⟨od, h⟩
  · rcases m _ h with e | ⟨_, _, od, e⟩
    · exact .inl e
    · exact .inr ⟨od, e⟩
  · exact .inr ⟨od, (m _ h).nd id⟩
theorem GeF.trans {p q : Prop} {o : HO} {x : Option HO} {H' : Hp} {a : Addr} (h : GeF p o (H' a)) (k : ∀ o, H' a = some o → GeF q o x) (pq : p → q) : GeF q o x := by
  rcases h with e | ⟨hp, hd, od, e⟩
  · exact k _ e
  · exact .inr ⟨pq hp, hd, od, (k _ e).nd id⟩
def TupAt (c : Cfg) (F : Addr → Prop) (H : Hp) (a : Addr) (vs : List V) : Prop := (F a ∧ H a = some (.tup vs)) ∨
  ∃ (o : Obj) (its : Array Value) (n : Nat), c.K.lookup a = some o ∧ o.cls = .type "tuple" ∧ o.data = .seq its n ∧ its.size ≤ sizeLine ∧ Vals vs its.toList
/-- an instance of the class C stands at a -/
def InsAt (c : Cfg) (H : Hp) (a : Addr) (C : Str) (dx : Addr) (fvs : List (Str × V)) : Prop := ∃ A, c.ca C = some A ∧ H a = some (.ins A dx fvs)
/-- the script -/
def ScrAt (c : Cfg) (F : Addr → Prop) (H : Hp) (a : Addr) (vs : List V) : Prop := (F a ∧ Rd H a (.lst vs)) ∨
  ∃ (o : Obj) (its : Array Value) (n : Nat), c.K.lookup a = some o ∧ o.cls = .type "list" ∧ o.dict = none ∧ o.data = .seq its n ∧ its.size ≤ sizeLine ∧ Vals vs its.toList
mutual
def RepP (c : Cfg) (F : Addr → Prop) (H : Hp) : P → V → Prop
  | .non, v => v = .non
  | .bl b, v => v = .bl b
  | .int i, v => v = .int i
  | .str x, v => v = .str x ∧ sOk x
  | .ty n, v => v = .ty n
  | .tup xs, v => ∃ a vs, v = .ref a ∧ TupAt c F H a vs ∧ vs.length ≤ sizeLine ∧ RepPs c F H xs vs
  | .lst xs, v => ∃ a vs, v = .ref a ∧ (F a ∧ H a = some (.lst vs)) ∧ vs.length ≤ sizeLine ∧ RepPs c F H xs vs
  | .dct kvs, v => ∃ a es, v = .ref a ∧ (F a ∧ DctAt c H a es) ∧ RepKs c F H kvs es
  | .ins C fs, v => ∃ a dx fvs, v = .ref a ∧ (F a ∧ InsAt c H a C dx fvs) ∧ RepFs c F H fs fvs
  | .scr ns, v => ∃ a, v = .ref a ∧ ScrAt c F H a (ns.map V.int) ∧ ns.length ≤ sizeLine
def RepPs (c : Cfg) (F : Addr → Prop) (H : Hp) : List P → List V → Prop
  | [], vs => vs = []
  | x :: xs, vs => ∃ v r, vs = v :: r ∧ RepP c F H x v ∧ RepPs c F H xs r
def RepKs (c : Cfg) (F : Addr → Prop) (H : Hp) : List (P × P) → List Ent → Prop
  | [], es => es = []
  | (k, x) :: r, es => ∃ kv v es', es = (k, kv, v) :: es' ∧ RepP c F H k kv ∧ RepP c F H x v ∧ RepKs c F H r es'
def RepFs (c : Cfg) (F : Addr → Prop) (H : Hp) : List (Str × P) → List (Str × V) → Prop
  | [], es => es = []
  | (k, x) :: r, es => ∃ v es', es = (k, v) :: es' ∧ RepP c F H x v ∧ RepFs c F H r es'
end
/-- what H says at the frozen addresses stays -/
structure Mono (F F' : Addr → Prop) (H H' : Hp) : Prop where
  sub : ∀ a, F a → F' a
  at_ : ∀ a o, F a → H a = some o → GeF True o (H' a)
theorem Mono.refl {F : Addr → Prop} {H : Hp} : Mono F F H H := ⟨fun _ h => h, fun _ _ _ h => .inl h⟩
section
variable {c : Cfg} {F F' : Addr → Prop} {H H' : Hp}
theorem DctAt.mono (m : Mono F F' H H') {a : Addr} (f : F a) {es : List Ent} (h : DctAt c H a es) : DctAt c H' a es := by
  obtain ⟨z, n, h⟩ := h
  refine ⟨z, n, ?_⟩
  rcases h with ⟨k, e⟩ | ⟨ne, k, e⟩
  · exact .inl ⟨k, GeF.rd (fun o q => m.at_ _ o f q) e⟩
  · exact .inr ⟨ne, k, GeF.rd (fun o q => m.at_ _ o f q) e⟩
theorem TupAt.mono (m : Mono F F' H H') {a : Addr} {vs : List V} (h : TupAt c F H a vs) : TupAt c F' H' a vs := by
  rcases h with ⟨f, e⟩ | h
  · exact .inl ⟨m.sub _ f, (m.at_ _ _ f e).nd id⟩
  · exact .inr h
theorem ScrAt.mono (m : Mono F F' H H') {a : Addr} {vs : List V} (h : ScrAt c F H a vs) : ScrAt c F' H' a vs := by
  rcases h with ⟨f, e | ⟨o, e⟩⟩ | h
  · exact .inl ⟨m.sub _ f, .inl ((m.at_ _ _ f e).nd id)⟩
  · exact .inl ⟨m.sub _ f, .inr ⟨o, (m.at_ _ _ f e).nd id⟩⟩
  · exact .inr h
theorem ScrAt.sq {a : Addr} {vs : List V} (h : ScrAt c F H a vs) : SqL c.K H a vs := by
  rcases h with ⟨_, e⟩ | h
  · exact .inl e
  · exact .inr h
mutual
theorem RepP.mono (m : Mono F F' H H') : ∀ (x : P) (v : V), RepP c F H x v → RepP c F' H' x v
  | .non, v, h => by simpa [RepP] using h
  | .bl b, v, h => by simpa [RepP] using h
  | .int b, v, h => by simpa [RepP] using h
  | .str b, v, h => by simpa [RepP] using h
  | .ty b, v, h => by simpa [RepP] using h
  | .tup xs, v, h => by
    rw [RepP] at h ⊢
    obtain ⟨a, vs, e, t, z, r⟩ := h
    exact ⟨a, vs, e, t.mono m, z, RepPs.mono m xs vs r⟩
  | .lst xs, v, h => by
    rw [RepP] at h ⊢
    obtain ⟨a, vs, e, ⟨f, t⟩, z, r⟩ := h
    exact ⟨a, vs, e, ⟨m.sub _ f, (m.at_ _ _ f t).nd id⟩, z, RepPs.mono m xs vs r⟩
  | .dct xs, v, h => by
    rw [RepP] at h ⊢
    obtain ⟨a, vs, e, ⟨f, t⟩, r⟩ := h
    exact ⟨a, vs, e, ⟨m.sub _ f, t.mono m f⟩, RepKs.mono m xs vs r⟩
  | .ins C fs, v, h => by
    rw [RepP] at h ⊢
    obtain ⟨a, dx, vs, e, ⟨f, A, t0, t⟩, r⟩ := h
    exact ⟨a, dx, vs, e, ⟨m.sub _ f, A, t0, (m.at_ _ _ f t).nd id⟩, RepFs.mono m fs vs r⟩
  | .scr ns, v, h => by
    rw [RepP] at h ⊢
    obtain ⟨a, e, t, z⟩ := h
    exact ⟨a, e, t.mono m, z⟩
theorem RepPs.mono (m : Mono F F' H H') : ∀ (xs : List P) (vs : List V), RepPs c F H xs vs → RepPs c F' H' xs vs
  | [], vs, h => by simpa [RepPs] using h
  | x :: xs, vs, h => by
    rw [RepPs] at h ⊢
    obtain ⟨v, r, e, h1, h2⟩ := h
    exact ⟨v, r, e, RepP.mono m x v h1, RepPs.mono m xs r h2⟩
theorem RepKs.mono (m : Mono F F' H H') : ∀ (xs : List (P × P)) (vs : List Ent), RepKs c F H xs vs → RepKs c F' H' xs vs
  | [], vs, h => by simpa [RepKs] using h
  | (k, x) :: xs, vs, h => by
    rw [RepKs] at h ⊢
    obtain ⟨kv, v, r, e, h0, h1, h2⟩ := h
    exact ⟨kv, v, r, e, RepP.mono m k kv h0, RepP.mono m x v h1, RepKs.mono m xs r h2⟩
theorem RepFs.mono (m : Mono F F' H H') : ∀ (xs : List (Str × P)) (vs : List (Str × V)), RepFs c F H xs vs → RepFs c F' H' xs vs
  | [], vs, h => by simpa [RepFs] using h
  | (k, x) :: xs, vs, h => by
    rw [RepFs] at h ⊢
    obtain ⟨v, r, e, h1, h2⟩ := h
    exact ⟨v, r, e, RepP.mono m x v h1, RepFs.mono m xs r h2⟩
end
end

/-! ### values of the store -/
/-- N: the store's size -/
def RepD (c : Cfg) (g : Gh) (N : Nat) (H : Hp) : D → V → Prop
  | .p x, v => RepP c g.F H x v
  | .loc n, v => n < N ∧ v = .ref (g.lm n)
inductive RepDs (c : Cfg) (g : Gh) (N : Nat) (H : Hp) : List D → List V → Prop
  | nil : RepDs c g N H [] []
  | cons {d : D} {ds : List D} {v : V} {vs : List V} : RepD c g N H d v → RepDs c g N H ds vs → RepDs c g N H (d :: ds) (v :: vs)
inductive RepDk (c : Cfg) (g : Gh) (N : Nat) (H : Hp) : List (P × D) → List Ent → Prop
  | nil : RepDk c g N H [] []
  | cons {k : P} {d : D} {ds : List (P × D)} {kv v : V} {vs : List Ent} : RepP c g.F H k kv → RepD c g N H d v → RepDk c g N H ds vs → RepDk c g N H ((k, d) :: ds) ((k, kv, v) :: vs)
inductive RepDf (c : Cfg) (g : Gh) (N : Nat) (H : Hp) : List (Str × D) → List (Str × V) → Prop
  | nil : RepDf c g N H [] []
  | cons {k : Str} {d : D} {ds : List (Str × D)} {v : V} {vs : List (Str × V)} : RepD c g N H d v → RepDf c g N H ds vs → RepDf c g N H ((k, d) :: ds) ((k, v) :: vs)
def RepO (c : Cfg) (g : Gh) (N : Nat) (H : Hp) (a : Addr) : Ob → Prop
  | .lst ds => ∃ vs, H a = some (.lst vs) ∧ vs.length ≤ sizeLine ∧ RepDs c g N H ds vs
  | .dct kvs => ∃ es, DctW c H a es ∧ RepDk c g N H kvs es
  | .ins C fs => ∃ dx fvs, InsAt c H a C dx fvs ∧ RepDf c g N H fs fvs
  | .dead => True
/-- the store as H bears it -/
structure Wd (c : Cfg) (g : Gh) (st : Sto) (H : Hp) : Prop where
  obs : ∀ n o, st[n]? = some o → RepO c g st.length H (g.lm n) o
  inj : ∀ m n, m < st.length → n < st.length → g.lm m = g.lm n → m = n
  off : ∀ n o, st[n]? = some o → o ≠ .dead → ¬ g.F (g.lm n)
  has : ∀ n, n < st.length → ∃ o, H (g.lm n) = some o
  hasF : ∀ a, g.F a → ∃ o, H a = some o
/-- from one state to a later one -/
structure Ext (g : Gh) (N : Nat) (H : Hp) (g' : Gh) (N' : Nat) (H' : Hp) : Prop where
  le : N ≤ N'
  lm : ∀ n, n < N → g'.lm n = g.lm n
  new : ∀ n, N ≤ n → n < N' → H (g'.lm n) = none
  sub : ∀ a, g.F a → g'.F a
  fr : ∀ a o, H a = some o → (∀ n, n < N → g.lm n ≠ a) → GeF (g'.F a) o (H' a)
  frF : ∀ a o, H a = some o → g.F a → GeF (g'.F a) o (H' a)
  back : ∀ a, g'.F a → g.F a ∨ H a = none ∨ ∃ n, n < N ∧ g.lm n = a
section
variable {c : Cfg} {g g1 g2 : Gh} {N N1 N2 : Nat} {H H1 H2 : Hp}
theorem Ext.refl : Ext g N H g N H := ⟨Nat.le_refl _, fun _ _ => rfl, fun n a b => absurd (Nat.lt_of_lt_of_le b a) (Nat.lt_irrefl _), fun _ h => h, fun _ _ h _ => .inl h, fun _ _ h _ => .inl h, fun _ h => .inl h⟩
theorem Ext.mono (x : Ext g N H g1 N1 H1) : Mono g.F g1.F H H1 := ⟨x.sub, fun a o f h => (x.frF a o h f).imp fun _ => trivial⟩
theorem Ext.keeps (x : Ext g N H g1 N1 H1) (hs : ∀ n, n < N1 → ∃ o, H1 (g1.lm n) = some o) {a : Addr} {o : HO} (h : H a = some o) : ∃ o', H1 a = some o' := by
  by_cases q : ∃ n, n < N ∧ g.lm n = a
  · obtain ⟨n, hn, e⟩ := q
    obtain ⟨o', e'⟩ := hs n (Nat.lt_of_lt_of_le hn x.le)
    rw [x.lm n hn, e] at e'
    exact ⟨o', e'⟩
  · exact (x.fr a o h fun n hn e => q ⟨n, hn, e⟩).ex
theorem Ext.trans (x : Ext g N H g1 N1 H1) (y : Ext g1 N1 H1 g2 N2 H2) (hs : ∀ n, n < N1 → ∃ o, H1 (g1.lm n) = some o) : Ext g N H g2 N2 H2 := by
  refine ⟨Nat.le_trans x.le y.le, fun n h => (y.lm n (Nat.lt_of_lt_of_le h x.le)).trans (x.lm n h), fun n a b => ?_, fun a h => y.sub a (x.sub a h), fun a o h q => ?_, fun a o h f => (x.frF a o h f).trans (fun o q => y.frF a o q (x.sub a f)) (y.sub a), fun a h => ?_⟩
  · by_cases hn : n < N1
    · rw [y.lm n hn]
      exact x.new n a hn
    · have q := y.new n (Nat.le_of_not_lt hn) b
      cases e : H (g2.lm n) with
      | none => rfl
      | some o =>
        obtain ⟨o', e'⟩ := x.keeps hs e
        rw [q] at e'
        cases e'
  · refine (x.fr a o h q).trans (fun o z => y.fr a o z fun n hn e => ?_) (y.sub a)
    by_cases hl : n < N
    · exact q n hl (by rw [← x.lm n hl]; exact e)
    · have z := x.new n (Nat.le_of_not_lt hl) hn
      rw [e, h] at z
      cases z
  · rcases y.back a h with f | f | ⟨n, hn, e⟩
    · exact x.back a f
    · refine .inr (.inl ?_)
      cases e : H a with
      | none => rfl
      | some o =>
        obtain ⟨o', e'⟩ := x.keeps hs e
        rw [f] at e'
        cases e'
    · by_cases hl : n < N
      · exact .inr (.inr ⟨n, hl, by rw [← x.lm n hl]; exact e⟩)
      · refine .inr (.inl ?_)
        have z := x.new n (Nat.le_of_not_lt hl) hn
        rw [e] at z
        exact z
theorem RepD.mono (x : Ext g N H g1 N1 H1) {d : D} {v : V} (h : RepD c g N H d v) : RepD c g1 N1 H1 d v := by
  cases d with
  | p p => exact RepP.mono x.mono p v h
  | loc n =>
    obtain ⟨hn, e⟩ := h
    exact ⟨Nat.lt_of_lt_of_le hn x.le, by rw [x.lm n hn]; exact e⟩
theorem RepDs.mono (x : Ext g N H g1 N1 H1) {d : List D} {v : List V} (h : RepDs c g N H d v) : RepDs c g1 N1 H1 d v := by
  induction h with
  | nil => exact .nil
  | cons h _ ih => exact .cons (h.mono x) ih
theorem RepDk.mono (x : Ext g N H g1 N1 H1) {d : List (P × D)} {v : List Ent} (h : RepDk c g N H d v) : RepDk c g1 N1 H1 d v := by
  induction h with
  | nil => exact .nil
  | cons h0 h _ ih => exact .cons (RepP.mono x.mono _ _ h0) (h.mono x) ih
theorem RepDf.mono (x : Ext g N H g1 N1 H1) {d : List (Str × D)} {v : List (Str × V)} (h : RepDf c g N H d v) : RepDf c g1 N1 H1 d v := by
  induction h with
  | nil => exact .nil
  | cons h _ ih => exact .cons (h.mono x) ih
theorem Ext.of (x : Ext g N H g1 N1 H1) {st : Sto} (w : Wd c g1 st H1) (e : st.length = N1) (y : Ext g1 N1 H1 g2 N2 H2) : Ext g N H g2 N2 H2 := x.trans y fun n h => w.has n (by rw [e]; exact h)
end
end PyM
namespace PyM
open PySem PySem.Spec PyProof.Rows L2
abbrev PSt := List (Option V)

/-- new frozen objects alone -/
structure PExt (F : Addr → Prop) (H : Hp) (F' : Addr → Prop) (H' : Hp) : Prop where
  kp : ∀ a o, H a = some o → GeF (F' a) o (H' a)
  sub : ∀ a, F a → F' a
  back : ∀ a, F' a → F a ∨ H a = none
  has : (∀ a, F a → ∃ o, H a = some o) → ∀ a, F' a → ∃ o, H' a = some o
section
variable {c : Cfg} {g g' : Gh} {st : Sto} {N : Nat} {F F' F2 : Addr → Prop} {H H' H2 : Hp}
theorem PExt.refl : PExt F H F H := ⟨fun _ _ h => .inl h, fun _ h => h, fun _ h => .inl h, fun h => h⟩
theorem PExt.one {a : Addr} {o : HO} (n : H a = none) : PExt F H (fun b => F b ∨ b = a) (upd H a o) where
  kp := fun b u e => .inl (by rw [upd_ne (ne_of_none e n)]; exact e)
  sub := fun b h => .inl h
  back := fun b h => h.elim .inl fun e => .inr (by rw [e]; exact n)
  has := fun hf b h => by
    rcases h with h | h
    · obtain ⟨u, e⟩ := hf b h
      exact ⟨u, by rw [upd_ne (ne_of_none e n)]; exact e⟩
    · exact ⟨o, by rw [h, upd_same]⟩
theorem PExt.trans (x : PExt F H F' H') (y : PExt F' H' F2 H2) : PExt F H F2 H2 :=
  ⟨fun a o e => (x.kp a o e).trans (fun o q => y.kp a o q) (y.sub a), fun a h => y.sub a (x.sub a h), fun a h => (by
    rcases y.back a h with f | f
    · exact x.back a f
    · refine .inr ?_
      cases e : H a with
      | none => rfl
      | some o =>
        obtain ⟨o', e'⟩ := (x.kp a o e).ex
        rw [e'] at f
        cases f), fun hf => y.has (x.has hf)⟩
theorem PExt.mono (x : PExt F H F' H') : Mono F F' H H' := ⟨x.sub, fun a o _ e => (x.kp a o e).imp fun _ => trivial⟩
theorem PExt.ext (x : PExt g.F H F' H') : Ext g N H ⟨g.lm, F'⟩ N H' :=
  ⟨Nat.le_refl _, fun _ _ => rfl, fun n a b => absurd (Nat.lt_of_lt_of_le b a) (Nat.lt_irrefl _), x.sub, fun a o e _ => x.kp a o e, fun a o e _ => x.kp a o e, fun a h => (x.back a h).elim .inl fun e => .inr (.inl e)⟩
theorem DctW.kp {a : Addr} (k : ∀ o, H a = some o → H' a = some o) {es : List Ent} (h : DctW c H a es) : DctW c H' a es := by
  obtain ⟨z, n, h⟩ := h
  refine ⟨z, n, ?_⟩
  rcases h with ⟨q, e⟩ | ⟨ne, q, e⟩
  · exact .inl ⟨q, k _ e⟩
  · exact .inr ⟨ne, q, k _ e⟩
theorem RepO.ext (x : PExt g.F H F' H') {a : Addr} {o : Ob} (hn : o ≠ .dead → ¬ F' a) (h : RepO c g N H a o) : RepO c ⟨g.lm, F'⟩ N H' a o := by
  have e : Ext g N H ⟨g.lm, F'⟩ N H' := x.ext
  cases o with
  | lst ds => obtain ⟨vs, h1, z, r⟩ := h; exact ⟨vs, (x.kp _ _ h1).nd id, z, r.mono e⟩
  | dct kvs => obtain ⟨es, h1, r⟩ := h; exact ⟨es, h1.kp fun o q => (x.kp _ o q).nf (hn (fun z => nomatch z)), r.mono e⟩
  | ins C fs => obtain ⟨dx, vs, ⟨A, h0, h1⟩, r⟩ := h; exact ⟨dx, vs, ⟨A, h0, (x.kp _ _ h1).nd id⟩, r.mono e⟩
  | dead => trivial
theorem Wd.ext (w : Wd c g st H) (x : PExt g.F H F' H') : Wd c ⟨g.lm, F'⟩ st H' where
  obs := fun n o e => (w.obs n o e).ext x fun d f => by
    rcases x.back _ f with q | q
    · exact w.off n o e d q
    · obtain ⟨u, q'⟩ := w.has n ((List.getElem?_eq_some_iff.mp e).1)
      rw [q] at q'
      cases q'
  inj := w.inj
  off := fun n o e d f => by
    rcases x.back _ f with q | q
    · exact w.off n o e d q
    · obtain ⟨u, q'⟩ := w.has n ((List.getElem?_eq_some_iff.mp e).1)
      rw [q] at q'
      cases q'
  has := fun n hn => by
    obtain ⟨u, q⟩ := w.has n hn
    exact (x.kp _ _ q).ex
  hasF := x.has w.hasF
end

/-! ### ends -/
abbrev EH := Exc → Gh → Sto → Hp → Prop
def EndR {α β : Type} (c : Cfg) (g : Gh) (st : Sto) (H : Hp) (E : EH) (rep : Gh → Nat → Hp → α → β → Prop) (r : Res α) (Q : β → Hp → Prop) : Prop := match r with
  | .ok a st' => ∀ g' H' v, Ext g st.length H g' st'.length H' → rep g' st'.length H' a v → Wd c g' st' H' → Q v H'
  | .exc e st' => ∀ g' H', Ext g st.length H g' st'.length H' → Wd c g' st' H' → E e g' st' H'
  | .fail => False
section
variable {α β γ δ : Type} {c : Cfg} {g g1 : Gh} {st st1 : Sto} {H H1 : Hp} {E : EH} {rep : Gh → Nat → Hp → α → β → Prop} {rep' : Gh → Nat → Hp → γ → δ → Prop} {Q : β → Hp → Prop} {Q' : δ → Hp → Prop}
/-- what is known behind the first of two -/
structure Mid (c : Cfg) (g : Gh) (st : Sto) (H : Hp) (E : EH) (rep : Gh → Nat → Hp → α → β → Prop) (r : Res α) (f : α → Sto → Res γ) (rep' : Gh → Nat → Hp → γ → δ → Prop) (Q' : δ → Hp → Prop) (v : β) (H1 : Hp) (g1 : Gh) (st1 : Sto) (a : α) : Prop where
  ext : Ext g st.length H g1 st1.length H1
  rp : rep g1 st1.length H1 a v
  wd : Wd c g1 st1 H1
  eq : r = .ok a st1
  nx : EndR c g1 st1 H1 E rep' (f a st1) Q'
theorem EndR.from (x : Ext g st.length H g1 st1.length H1) (w : Wd c g1 st1 H1) {r : Res α} (h : EndR c g st H E rep r Q) : EndR c g1 st1 H1 E rep r Q := by
  cases r with
  | ok a s => exact fun g' H' v e r w' => h g' H' v (x.of w rfl e) r w'
  | exc e s => exact fun g' H' ex w' => h g' H' (x.of w rfl ex) w'
  | fail => exact h
theorem EndR.bind {r : Res α} {f : α → Sto → Res γ} (h : EndR c g st H E rep' (r.bind f) Q') : EndR c g st H E rep r fun v H1 => ∃ g1 st1 a, Mid c g st H E rep r f rep' Q' v H1 g1 st1 a := by
  cases r with
  | ok a s => exact fun g' H' v e rp w => ⟨g', s, a, e, rp, w, rfl, EndR.from e w h⟩
  | exc e s => exact h
  | fail => exact h
theorem EndR.imp {r : Res α} {Q2 : β → Hp → Prop} (h : EndR c g st H E rep r Q) (k : ∀ v H', Q v H' → Q2 v H') : EndR c g st H E rep r Q2 := by
  cases r with
  | ok a s => exact fun g' H' v e rp w => k _ _ (h g' H' v e rp w)
  | exc e s => exact h
  | fail => exact h
theorem EndR.opt {o : Option α} {s : Sto} (h : EndR c g st H E rep (PyM.opt o s) Q) : ∃ a, o = some a ∧ EndR c g st H E rep (.ok a s) Q := by
  cases o with
  | none => exact h.elim
  | some a => exact ⟨a, rfl, h⟩
end

/-! ### the readings by their meaning -/
def RepE (c : Cfg) (g : Gh) (N : Nat) (H : Hp) (env : Env) (σ : PSt) : Prop := env.length = σ.length ∧ ∀ (i : Nat) (d : D), env[i]? = some (some d) → ∃ v, σ[i]? = some (some v) ∧ RepD c g N H d v
theorem RepE.mono {c : Cfg} {g g1 : Gh} {N N1 : Nat} {H H1 : Hp} {env : Env} {σ : PSt} (x : Ext g N H g1 N1 H1) (h : RepE c g N H env σ) : RepE c g1 N1 H1 env σ :=
  ⟨h.1, fun i d e => let ⟨v, e', r⟩ := h.2 i d e; ⟨v, e', r.mono x⟩⟩
/-- an exception's class and fields -/
def RepX (c : Cfg) (g : Gh) (H : Hp) (e : Exc) (cls : Value) (dx : Option Addr) : Prop := cls = .ref (He.ga c.K e.c) ∧
  ((e.fs = [] ∧ dx = none) ∨ (e.fs ≠ [] ∧ ∃ d fvs, dx = some d ∧ g.F d ∧ H d = some (.xd fvs) ∧ RepFs c g.F H e.fs fvs))
def EW (c : Cfg) (W : WX) (σ : PSt) : EH := fun e g' _ H' => ∀ cls dx, RepX c g' H' e cls dx → W cls dx σ H'
def TX {α β : Type} (c : Cfg) (W : WX) (rep : Gh → Nat → Hp → α → β → Prop) (m : Env → Sto → Res α) : PSt → Hp → (β → Hp → Prop) → Prop := fun σ H Q =>
  ∃ g env st, RepE c g st.length H env σ ∧ Wd c g st H ∧ EndR c g st H (EW c W σ) rep (m env st) Q
abbrev TD (c : Cfg) (W : WX) (m : Env → Sto → Res D) : TE := TX c W (RepD c) m
abbrev TDs (c : Cfg) (W : WX) (m : Env → Sto → Res (List D)) : TA := TX c W (RepDs c) m
abbrev TB (c : Cfg) (W : WX) (m : Env → Sto → Res Bool) : TT := TX c W (fun _ _ _ (a b : Bool) => a = b) m
theorem PE.imp {X : Cx} {e : Expr} {t t' : TE} (h : PE X e t) (k : ∀ σ H Q, t' σ H Q → t σ H Q) : PE X e t' := ⟨fun pins s σ H Q I q => h.run pins s σ H Q I (k σ H Q q)⟩
theorem PT.imp {X : Cx} {e : Expr} {t t' : TT} (h : PT X e t) (k : ∀ σ H Q, t' σ H Q → t σ H Q) : PT X e t' := ⟨fun pins s σ H Q I q => h.run pins s σ H Q I (k σ H Q q)⟩
theorem PW.imp {X : Cx} {e : Expr} {t t' : TT} (h : PW X e t) (k : ∀ σ H Q, t' σ H Q → t σ H Q) : PW X e t' := ⟨fun wh pins s σ H Q I q => h.run wh pins s σ H Q I (k σ H Q q)⟩
theorem PA.imp {X : Cx} {e : List Expr} {t t' : TA} (h : PA X e t) (k : ∀ σ H Q, t' σ H Q → t σ H Q) : PA X e t' := ⟨fun pos pins s σ H Q I q => h.run pos pins s σ H Q I (k σ H Q q)⟩
theorem PS.imp {X : Cx} {e : Stmt} {t t' : TS} (h : PS X e t) (k : ∀ D σ H, t' D σ H → t D σ H) : PS X e t' := ⟨fun pins s σ H D I q => h.run pins s σ H D I (k D σ H q)⟩
theorem PSs.imp {X : Cx} {e : List Stmt} {t t' : TS} (h : PSs X e t) (k : ∀ D σ H, t' D σ H → t D σ H) : PSs X e t' := ⟨fun pins s σ H D I q => h.run pins s σ H D I (k D σ H q)⟩
section
variable {α β γ δ : Type} {c : Cfg} {W : WX} {rep : Gh → Nat → Hp → α → β → Prop} {rep' : Gh → Nat → Hp → γ → δ → Prop}
/-- the first of two -/
theorem TX.bind {m : Env → Sto → Res α} {f : Env → α → Sto → Res γ} {σ : PSt} {H : Hp} {Q : δ → Hp → Prop} {Q1 : β → Hp → Prop} (h : TX c W rep' (fun env st => (m env st).bind (f env)) σ H Q)
    (k : ∀ g1 env st1 a v H1, RepE c g1 st1.length H1 env σ → Wd c g1 st1 H1 → rep g1 st1.length H1 a v → EndR c g1 st1 H1 (EW c W σ) rep' (f env a st1) Q → Q1 v H1) : TX c W rep m σ H Q1 := by
  obtain ⟨g, env, st, re, w, h⟩ := h
  exact ⟨g, env, st, re, w, (h.bind).imp fun v H1 ⟨g1, st1, a, M⟩ => k g1 env st1 a v H1 (re.mono M.ext) M.wd M.rp M.nx⟩
theorem TX.of {m : Env → Sto → Res α} {g : Gh} {env : Env} {st : Sto} {σ : PSt} {H : Hp} {Q : β → Hp → Prop} (re : RepE c g st.length H env σ) (w : Wd c g st H) (h : EndR c g st H (EW c W σ) rep (m env st) Q) : TX c W rep m σ H Q := ⟨g, env, st, re, w, h⟩
end
end PyM
namespace PyM
open PySem PySem.Spec PyProof.Rows L2

/-! ### plain data, read -/
section
variable {c : Cfg} {F F' : Addr → Prop} {H H' : Hp}
theorem RepPs.len : ∀ {xs : List P} {vs : List V}, RepPs c F H xs vs → vs.length = xs.length
  | [], vs, h => by simp [RepPs] at h; simp [h]
  | x :: xs, vs, h => by
    rw [RepPs] at h
    obtain ⟨v, r, rfl, _, h2⟩ := h
    simp [RepPs.len h2]
theorem RepPs.get : ∀ {xs : List P} {vs : List V} {i : Nat} {x : P}, RepPs c F H xs vs → xs[i]? = some x → ∃ v, vs[i]? = some v ∧ RepP c F H x v
  | [], vs, i, x, h, e => by simp at e
  | y :: xs, vs, i, x, h, e => by
    rw [RepPs] at h
    obtain ⟨v, r, rfl, h1, h2⟩ := h
    cases i with
    | zero => simp at e; subst e; exact ⟨v, by simp, h1⟩
    | succ i =>
      simp at e
      obtain ⟨u, e', r'⟩ := RepPs.get h2 e
      exact ⟨u, by simpa using e', r'⟩
theorem RepPs.app : ∀ {xs ys : List P} {vs ws : List V}, RepPs c F H xs vs → RepPs c F H ys ws → RepPs c F H (xs ++ ys) (vs ++ ws)
  | [], ys, vs, ws, h, k => by simp [RepPs] at h; subst h; simpa using k
  | x :: xs, ys, vs, ws, h, k => by
    rw [RepPs] at h
    obtain ⟨v, r, rfl, h1, h2⟩ := h
    rw [List.cons_append, RepPs]
    exact ⟨v, r ++ ws, rfl, h1, RepPs.app h2 k⟩
theorem RepPs.drop : ∀ {xs : List P} {vs : List V} (n : Nat), RepPs c F H xs vs → RepPs c F H (xs.drop n) (vs.drop n)
  | xs, vs, 0, h => by simpa using h
  | [], vs, n + 1, h => by simp [RepPs] at h; subst h; simp [RepPs]
  | x :: xs, vs, n + 1, h => by
    rw [RepPs] at h
    obtain ⟨v, r, rfl, h1, h2⟩ := h
    simpa using RepPs.drop n h2
theorem RepPs.take : ∀ {xs : List P} {vs : List V} (n : Nat), RepPs c F H xs vs → RepPs c F H (xs.take n) (vs.take n)
  | xs, vs, 0, h => by simp [RepPs]
  | [], vs, n + 1, h => by simp [RepPs] at h; subst h; simp [RepPs]
  | x :: xs, vs, n + 1, h => by
    rw [RepPs] at h
    obtain ⟨v, r, rfl, h1, h2⟩ := h
    rw [List.take_succ_cons, List.take_succ_cons, RepPs]
    exact ⟨v, _, rfl, h1, RepPs.take n h2⟩
theorem RepPs.rev : ∀ {xs : List P} {vs : List V}, RepPs c F H xs vs → RepPs c F H xs.reverse vs.reverse
  | [], vs, h => by simp [RepPs] at h; subst h; simp [RepPs]
  | x :: xs, vs, h => by
    rw [RepPs] at h
    obtain ⟨v, r, rfl, h1, h2⟩ := h
    rw [List.reverse_cons, List.reverse_cons]
    refine RepPs.app (RepPs.rev h2) ?_
    rw [RepPs]
    exact ⟨v, [], rfl, h1, by simp [RepPs]⟩
theorem TupAt.sq {a : Addr} {vs : List V} (h : TupAt c F H a vs) : SqT c.K H a vs := by
  rcases h with ⟨_, h⟩ | h
  · exact .inl (.inl h)
  · exact .inr h
mutual
theorem RepP.dp : ∀ (x : P) (v : V), x.flat = true → RepP c F H x v → Dp c.K H v x.toPD ∧ x.toPD.canLay0 = true
  | .non, v, _, h => by simp [RepP] at h; subst h; exact ⟨.non, rfl⟩
  | .bl b, v, _, h => by simp [RepP] at h; subst h; exact ⟨.bl b, rfl⟩
  | .int b, v, _, h => by simp [RepP] at h; subst h; exact ⟨.int b, rfl⟩
  | .str b, v, _, h => by
    rw [RepP] at h
    obtain ⟨rfl, z⟩ := h
    exact ⟨.str b, by simpa [P.toPD, PyData.canLay0] using z.1⟩
  | .ty b, v, f, _ => by simp [P.flat] at f
  | .dct b, v, f, _ => by simp [P.flat] at f
  | .ins C b, v, f, _ => by simp [P.flat] at f
  | .scr b, v, f, _ => by simp [P.flat] at f
  | .tup xs, v, f, h => by
    rw [RepP] at h
    obtain ⟨a, vs, rfl, t, z, r⟩ := h
    have f' : P.flats xs = true := by simpa [P.flat] using f
    obtain ⟨h1, h2⟩ := RepPs.dp xs vs f' r
    exact ⟨.tup t.sq h1, by simpa [P.toPD, PyData.canLay0] using h2⟩
  | .lst xs, v, f, h => by
    rw [RepP] at h
    obtain ⟨a, vs, rfl, t, z, r⟩ := h
    have f' : P.flats xs = true := by simpa [P.flat] using f
    obtain ⟨h1, h2⟩ := RepPs.dp xs vs f' r
    exact ⟨.lst (SqL.of t.2) h1, by simpa [P.toPD, PyData.canLay0] using h2⟩
theorem RepPs.dp : ∀ (xs : List P) (vs : List V), P.flats xs = true → RepPs c F H xs vs → DpAll c.K H vs (P.toPDs xs) ∧ PyData.canLayAll0 (P.toPDs xs) = true
  | [], vs, _, h => by simp [RepPs] at h; subst h; exact ⟨.nil, rfl⟩
  | x :: xs, vs, f, h => by
    rw [RepPs] at h
    obtain ⟨v, r, rfl, h1, h2⟩ := h
    rw [P.flats, Bool.and_eq_true] at f
    obtain ⟨a1, a2⟩ := RepP.dp x v f.1 h1
    obtain ⟨b1, b2⟩ := RepPs.dp xs r f.2 h2
    exact ⟨.cons a1 b1, by rw [P.toPDs, PyData.canLayAll0, a2, b2]; rfl⟩
end
mutual
theorem P.depth_pd : ∀ x : P, x.flat = true → x.toPD.depth = x.depth
  | .non, _ => by simp [P.toPD, PyData.depth, P.depth]
  | .bl b, _ => by simp [P.toPD, PyData.depth, P.depth]
  | .int b, _ => by simp [P.toPD, PyData.depth, P.depth]
  | .str b, _ => by simp [P.toPD, PyData.depth, P.depth]
  | .ty b, f => by simp [P.flat] at f
  | .dct b, f => by simp [P.flat] at f
  | .ins C b, f => by simp [P.flat] at f
  | .scr b, f => by simp [P.flat] at f
  | .tup xs, f => by simp only [P.toPD, PyData.depth, P.depth]; rw [P.depths_pd xs (by simpa [P.flat] using f)]
  | .lst xs, f => by simp only [P.toPD, PyData.depth, P.depth]; rw [P.depths_pd xs (by simpa [P.flat] using f)]
theorem P.depths_pd : ∀ xs : List P, P.flats xs = true → PyData.depthAll (P.toPDs xs) = P.depths xs
  | [], _ => by simp [P.toPDs, PyData.depthAll, P.depths]
  | x :: xs, f => by
    rw [P.flats, Bool.and_eq_true] at f
    simp only [P.toPDs, PyData.depthAll, P.depths]
    rw [P.depth_pd x f.1, P.depths_pd xs f.2]
end
theorem eqok_dp {x : P} {v : V} (h : x.eqok = true) (r : RepP c F H x v) : Dp c.K H v x.toPD ∧ SeqAt.shaped x.toPD = true := by
  unfold P.eqok at h
  rw [Bool.and_eq_true] at h
  obtain ⟨h1, h2⟩ := RepP.dp x v h.1 r
  refine ⟨h1, ?_⟩
  have z := of_decide_eq_true h.2
  unfold SeqAt.shaped
  rw [h2, P.depth_pd x h.1]
  simp
  omega
end
end PyM
namespace PyM
open PySem PySem.Spec PyProof.Rows L2

/-! ### operators -/
def bopOf : BOp → Operator
  | .add => .Add | .sub => .Sub | .mul => .Mult | .fdiv => .FloorDiv | .mod => .Mod | .pow => .Pow | .band => .BitAnd
def rB (K : PySem.W.Frag) : BOp → R2
  | .add => fun x y H Q => rI0 (fun i j => .int (i + j)) x y H Q ∨ ((∃ i j, x = .str i ∧ y = .str j ∧ i.length + j.length ≤ sizeLine ∧ Q (.str (i ++ j)) H) ∨ (rCatA K x y H Q ∨ rCat x y H Q))
  | .sub => rI0 fun i j => .int (i - j)
  | .mul => fun x y H Q => rI CMul (fun i j => .int (i * j)) x y H Q ∨ rI CMulW (fun i j => .int (i * j)) x y H Q
  | .fdiv => fun x y H Q => rI CDiv (fun i j => .int (i / j)) x y H Q ∨ rI CDivW (fun i j => .int (i / j)) x y H Q
  | .mod => rI (fun _ j => 0 < j) fun i j => .int (i % j)
  | .pow => rI CPow fun i j => .int (i ^ j.toNat)
  | .band => rI0 fun i j => .int (Builtin.bitAnd i j)
theorem op_bop {X : Cx} (o : BOp) : OpR X (binaryOp (bopOf o)) (rB X.K o) := by
  cases o with
  | add => exact op_add.or (op_add_str.or (op_catA.or op_cat))
  | sub => exact op_sub
  | mul => exact op_mul.or op_mulW
  | fdiv => exact op_fdiv.or op_fdivW
  | mod => exact op_mod
  | pow => exact op_pow
  | band => exact op_and
/-- what is told of a plain answer in the state told of -/
def Ans (c : Cfg) (F : Addr → Prop) (H : Hp) (z : P) (Q : VK) : Prop := ∀ F' H' v, PExt F H F' H' → RepP c F' H' z v → Q v H'
section
variable {c : Cfg} {F : Addr → Prop} {H : Hp} {Q : VK}
theorem Ans.int {i : Int} (h : Ans c F H (.int i) Q) : Q (.int i) H := h F H _ PExt.refl (by simp [RepP])
theorem Ans.bl {i : Bool} (h : Ans c F H (.bl i) Q) : Q (.bl i) H := h F H _ PExt.refl (by simp [RepP])
theorem Ans.non (h : Ans c F H .non Q) : Q .non H := h F H _ PExt.refl (by simp [RepP])
theorem Ans.str {x : Str} (h : Ans c F H (.str x) Q) (s : sOk x) : Q (.str x) H := h F H _ PExt.refl (by rw [RepP]; exact ⟨rfl, s⟩)
theorem Ans.same {z : P} {v : V} (h : Ans c F H z Q) (r : RepP c F H z v) : Q v H := h F H _ PExt.refl r
theorem Ans.tup {xs : List P} {vs : List V} (h : Ans c F H (.tup xs) Q) (r : RepPs c F H xs vs) (z : vs.length ≤ sizeLine) (p : Addr) (n : H p = none) : Q (.ref p) (upd H p (.tup vs)) := by
  refine h (fun b => F b ∨ b = p) _ _ (PExt.one n) ?_
  rw [RepP]
  exact ⟨p, vs, rfl, .inl ⟨.inr rfl, upd_same⟩, z, RepPs.mono (PExt.one n).mono xs vs r⟩
theorem Ans.lst {xs : List P} {vs : List V} (h : Ans c F H (.lst xs) Q) (r : RepPs c F H xs vs) (z : vs.length ≤ sizeLine) (p : Addr) (n : H p = none) : Q (.ref p) (upd H p (.lst vs)) := by
  refine h (fun b => F b ∨ b = p) _ _ (PExt.one n) ?_
  rw [RepP]
  exact ⟨p, vs, rfl, ⟨.inr rfl, upd_same⟩, z, RepPs.mono (PExt.one n).mono xs vs r⟩
end
theorem EndR.ans {c : Cfg} {g : Gh} {st : Sto} {H : Hp} {E : EH} {z : P} {Q : VK} (h : EndR c g st H E (RepD c) (.ok (.p z) st) Q) (w : Wd c g st H) : Ans c g.F H z Q :=
  fun F' H' v x r => h ⟨g.lm, F'⟩ H' v x.ext r (w.ext x)
theorem sOk.app {x y : Str} (hx : sOk x) (hy : sOk y) (z : x.length + y.length ≤ sizeLine) : sOk (x ++ y) := by
  obtain ⟨a, _⟩ := hx
  obtain ⟨b, _⟩ := hy
  have hl : (x ++ y).length = x.length + y.length := by
    show (x ++ y).cps.size = x.cps.size + y.cps.size
    show (x.cps ++ y.cps).size = _
    simp
  refine ⟨?_, by rw [hl]; exact z⟩
  show (x.cps ++ y.cps).all _ = true
  unfold PyData.strOk at a b
  simp only [Array.all_append, Bool.and_eq_true]
  exact ⟨a, b⟩
section
variable {c : Cfg} {F : Addr → Prop} {H : Hp} {Q : VK}
theorem rB_of {o : BOp} {p q z : P} {x y : V} (hx : RepP c F H p x) (hy : RepP c F H q y) (hb : bop o p q = some z) (h : Ans c F H z Q) : rB c.K o x y H Q := by
  unfold bop at hb
  split at hb
  · simp only [RepP] at hx hy
    cases hb
    exact .inl ⟨_, _, hx, hy, h.int⟩
  · rename_i a b
    simp only [RepP] at hx hy
    split at hb
    · rename_i hz
      cases hb
      exact .inr (.inl ⟨_, _, hx.1, hy.1, hz, h.str (hx.2.app hy.2 hz)⟩)
    · cases hb
  · rename_i a b
    split at hb
    · rename_i hz
      cases hb
      rw [RepP] at hx hy
      obtain ⟨a1, vs, rfl, t, z1, r⟩ := hx
      obtain ⟨a2, ws, rfl, t', z2, r'⟩ := hy
      have l1 := r.len
      have l2 := r'.len
      refine .inr (.inr (.inl ⟨a1, a2, vs, ws, rfl, rfl, t.sq, t'.sq, by omega, fun e => ?_, fun e1 e2 => ?_, fun e1 e2 p n => ?_⟩))
      · subst e
        have : a = [] := by
          cases a with
          | nil => rfl
          | cons x r => simp at l1
        subst this
        refine h.same ?_
        rw [List.nil_append, RepP]
        exact ⟨a2, ws, rfl, t', z2, r'⟩
      · subst e2
        have : b = [] := by
          cases b with
          | nil => rfl
          | cons x r => simp at l2
        subst this
        refine h.same ?_
        rw [List.append_nil, RepP]
        exact ⟨a1, vs, rfl, t, z1, r⟩
      · exact h.tup (r.app r') (by rw [List.length_append]; omega) p n
    · cases hb
  · rename_i a b
    split at hb
    · rename_i hz
      cases hb
      rw [RepP] at hx hy
      obtain ⟨a1, vs, rfl, t, z1, r⟩ := hx
      obtain ⟨a2, ws, rfl, t', z2, r'⟩ := hy
      have l1 := r.len
      have l2 := r'.len
      exact .inr (.inr (.inr ⟨a1, a2, vs, ws, rfl, rfl, t.2, t'.2, by omega, fun p n => h.lst (r.app r') (by rw [List.length_append]; omega) p n⟩))
    · cases hb
  · simp only [RepP] at hx hy
    cases hb
    exact ⟨_, _, hx, hy, h.int⟩
  · simp only [RepP] at hx hy
    split at hb
    · rename_i hm
      cases hb
      unfold mulOk at hm
      simp only [Bool.or_eq_true, decide_eq_true_eq] at hm
      rcases hm with (hm | hm) | hm
      · exact .inl ⟨_, _, hx, hy, .inl hm, h.int⟩
      · exact .inl ⟨_, _, hx, hy, .inr hm, h.int⟩
      · exact .inr ⟨_, _, hx, hy, hm, h.int⟩
    · cases hb
  · simp only [RepP] at hx hy
    split at hb
    · rename_i hm
      cases hb
      unfold divOk at hm
      simp only [Bool.and_eq_true, Bool.or_eq_true, decide_eq_true_eq] at hm
      rcases hm with ⟨h0, hm | hm⟩
      · exact .inl ⟨_, _, hx, hy, ⟨h0, hm⟩, h.int⟩
      · exact .inr ⟨_, _, hx, hy, ⟨h0, hm⟩, h.int⟩
    · cases hb
  · simp only [RepP] at hx hy
    split at hb
    · rename_i hm
      cases hb
      exact ⟨_, _, hx, hy, hm, h.int⟩
    · cases hb
  · simp only [RepP] at hx hy
    split at hb
    · rename_i hm
      cases hb
      exact ⟨_, _, hx, hy, hm, h.int⟩
    · cases hb
  · simp only [RepP] at hx hy
    cases hb
    exact ⟨_, _, hx, hy, h.int⟩
  · cases hb
end

/-! ### comparisons -/
def copOf : COp → CmpOp
  | .eq => .Eq | .ne => .NotEq | .lt => .Lt | .le => .LtE | .gt => .Gt | .ge => .GtE | .isin => .In | .notin => .NotIn | .isN => .Is | .notN => .IsNot
def rLtD (K : PySem.W.Frag) : R2 := fun x y H Q => ∃ d e, Dp K H x d ∧ Dp K H y e ∧ PySem.W.alike d e = true ∧ d ≠ .none ∧ d.depth ≤ 64 ∧ Q (.bl (PySem.W.dataLt d e)) H
theorem op_ltD {X : Cx} (hu : X.A.units + 64 < cLine) : OpR X (compareOp .Lt) (rLtD X.K) := by
  intro pins s σ H x y v u Q I rx ry h
  obtain ⟨d, e, hd, he, al, nn, dp, q⟩ := h
  obtain ⟨as, r1⟩ := Dp.reads I d x v hd rx
  obtain ⟨bs, r2⟩ := Dp.reads I e y u he ry
  refine PySem.W.rcLt_alike d e X.A s v u as bs r1 r2 al nn ?_ _ _ _ _ ⟨.bl _, H, I, rfl, q⟩
  have h2 : min d.depth e.depth ≤ d.depth := Nat.min_le_left _ _
  omega
def rInT (K : PySem.W.Frag) (neg : Bool) : R2 := fun x y H Q => ∃ d ds, Dp K H x d ∧ Dp K H y (.tuple ds) ∧ SeqAt.shaped d = true ∧ SeqAt.shaped (.tuple ds) = true ∧ Q (.bl (if neg then !(ds.any fun z => PyData.eqv z d) else ds.any fun z => PyData.eqv z d)) H
theorem lay_tup {ds : List PyData} (h : SeqAt.shaped (.tuple ds) = true) : PyData.canLayAll0 ds = true := by
  have z := SeqAt.canLay_of_shaped h
  simpa [PyData.canLay0] using z
theorem op_inT {X : Cx} (hu : X.A.units + 65 < cLine) : OpR X (compareOp .In) (rInT X.K false) := by
  intro pins s σ H x y v u Q I rx ry h
  obtain ⟨d, ds, hd, he, sd, se, q⟩ := h
  obtain ⟨as, r1⟩ := Dp.reads I d x v hd rx
  obtain ⟨bs, r2⟩ := Dp.reads I (.tuple ds) y u he ry
  have hdp := SeqAt.depth_of_shaped sd
  exact SeqAt.in_tuple_reads r2 r1 (lay_tup se) (SeqAt.canLay_of_shaped sd) (by have h2 : min (PyData.depthAll ds) d.depth ≤ d.depth := Nat.min_le_right _ _; omega) ⟨.bl _, H, I, rfl, q⟩
theorem op_notInT {X : Cx} (hu : X.A.units + 65 < cLine) : OpR X (compareOp .NotIn) (rInT X.K true) := by
  intro pins s σ H x y v u Q I rx ry h
  obtain ⟨d, ds, hd, he, sd, se, q⟩ := h
  obtain ⟨as, r1⟩ := Dp.reads I d x v hd rx
  obtain ⟨bs, r2⟩ := Dp.reads I (.tuple ds) y u he ry
  have hdp := SeqAt.depth_of_shaped sd
  exact SeqAt.notIn_tuple_reads r2 r1 (lay_tup se) (SeqAt.canLay_of_shaped sd) (by have h2 : min (PyData.depthAll ds) d.depth ≤ d.depth := Nat.min_le_right _ _; omega) ⟨.bl _, H, I, rfl, q⟩
end PyM
namespace PyM
open PySem PySem.Spec PyProof.Rows L2

/-! ### keys -/
theorem kk_inj {a b : P} (ha : a.sca = true) (hb : b.sca = true) (h : a.kk = b.kk) : a = b := by
  cases a <;> simp [P.sca] at ha <;> cases b <;> simp [P.sca] at hb <;> simp [P.kk] at h <;> simp [h]
theorem kk_eq {a b : P} (ha : a.sca = true) (hb : b.sca = true) : decide (a.kk = b.kk) = decide (a = b) := by
  by_cases h : a = b
  · subst h; simp
  · rw [decide_eq_false h, decide_eq_false fun e => h (kk_inj ha hb e)]
theorem RepP.sca {c : Cfg} {F : Addr → Prop} {H : Hp} {k : P} {v : V} (hk : k.sca = true) (r : RepP c F H k v) : v = kV k.kk := by
  cases k <;> simp [P.sca] at hk
  · simp only [RepP] at r; simp [P.kk, kV, r]
  · simp only [RepP] at r; simp [P.kk, kV, r.1]
mutual
theorem nk_inj : ∀ (n : Nat) (a b : P), a.keyN n = true → b.keyN n = true → a.nk = b.nk → a = b
  | n, .int i, b, ha, hb, h => by
    cases b <;> simp [P.nk] at h <;> first | simp [h] | (cases n <;> simp [P.keyN] at hb)
  | n, .str i, b, ha, hb, h => by
    cases b <;> simp [P.nk] at h <;> first | simp [h] | (cases n <;> simp [P.keyN] at hb)
  | 0, .tup xs, b, ha, hb, h => by simp [P.keyN] at ha
  | n + 1, .tup xs, b, ha, hb, h => by
    cases b with
    | tup ys =>
      simp only [P.nk, NestedKey.tup.injEq] at h
      simp only [P.keyN] at ha hb
      rw [nks_inj n xs ys ha hb h]
    | _ => first | (simp [P.nk] at h; done) | (simp [P.keyN] at hb)
  | n, .non, b, ha, hb, h => by cases n <;> simp [P.keyN] at ha
  | n, .bl _, b, ha, hb, h => by cases n <;> simp [P.keyN] at ha
  | n, .ty _, b, ha, hb, h => by cases n <;> simp [P.keyN] at ha
  | n, .lst _, b, ha, hb, h => by cases n <;> simp [P.keyN] at ha
  | n, .dct _, b, ha, hb, h => by cases n <;> simp [P.keyN] at ha
  | n, .ins _ _, b, ha, hb, h => by cases n <;> simp [P.keyN] at ha
  | n, .scr _, b, ha, hb, h => by cases n <;> simp [P.keyN] at ha
theorem nks_inj : ∀ (n : Nat) (a b : List P), a.all (P.keyN n) = true → b.all (P.keyN n) = true → P.nk.nks a = P.nk.nks b → a = b
  | n, [], b, _, _, h => by cases b <;> simp [P.nk.nks] at h <;> rfl
  | n, x :: xs, [], _, _, h => by simp [P.nk.nks] at h
  | n, x :: xs, y :: ys, ha, hb, h => by
    simp only [P.nk.nks, List.cons.injEq] at h
    simp only [List.all_cons, Bool.and_eq_true] at ha hb
    rw [nk_inj n x y ha.1 hb.1 h.1, nks_inj n xs ys ha.2 hb.2 h.2]
end
theorem tky_key {k : P} (h : k.tky = true) : k.keyN 8 = true := by
  cases k <;> simp [P.tky] at h
  simpa [P.keyN] using h
theorem nk_eq {a b : P} (ha : a.tky = true) (hb : b.tky = true) : decide (a.nk = b.nk) = decide (a = b) := by
  by_cases h : a = b
  · subst h; simp
  · rw [decide_eq_false h, decide_eq_false fun e => h (nk_inj 8 a b (tky_key ha) (tky_key hb) e)]
section
variable {c : Cfg} {F : Addr → Prop} {H : Hp} {h : Heap}
theorem TupAt.is {P : Program} {w : World} (hok : HOk P w H h) (kin : c.K.In h) {a : Addr} {vs : List V} (t : TupAt c F H a vs) : ∃ its : List Value, Vals vs its ∧ IsTup h a its.toArray := by
  rcases t with ⟨_, e⟩ | ⟨o, its, n, l, hc, hd, _, r⟩
  · obtain ⟨_, its, r, p⟩ := hok a _ e
    exact ⟨its, r, p⟩
  · exact ⟨its.toList, r, o, kin a o l, hc, n, by simpa using hd⟩
mutual
theorem RepP.nested {P' : Program} {w : World} (hok : HOk P' w H h) (kin : c.K.In h) : ∀ (n : Nat) (p : P) (v : V) (u : Value), p.keyN n = true → RepP c F H p v → RelV v u → NestedIs h p.nk u ∧ p.nk.depth ≤ n
  | n, .int i, v, u, _, r, rv => by
    simp only [RepP] at r
    subst r
    obtain ⟨t, rfl⟩ := rv
    exact ⟨by rw [P.nk]; exact .int i t, by simp [P.nk, NestedKey.depth]⟩
  | n, .str i, v, u, _, r, rv => by
    simp only [RepP] at r
    obtain ⟨rfl, _⟩ := r
    obtain ⟨t, rfl⟩ := rv
    exact ⟨by rw [P.nk]; exact .text i t, by simp [P.nk, NestedKey.depth]⟩
  | 0, .tup xs, v, u, k, r, rv => by simp [P.keyN] at k
  | n + 1, .tup xs, v, u, k, r, rv => by
    rw [RepP] at r
    obtain ⟨a, vs, rfl, t, _, rs⟩ := r
    cases rv
    obtain ⟨its, rr, o, ho, hc, m, hd⟩ := t.is hok kin
    obtain ⟨h1, h2⟩ := RepPs.nested hok kin n xs vs its (by simpa [P.keyN] using k) rs rr
    refine ⟨by rw [P.nk]; exact .tup ho hc hd (by simpa using h1), ?_⟩
    simp only [P.nk, NestedKey.depth]
    omega
  | n, .non, v, u, k, _, _ => by cases n <;> simp [P.keyN] at k
  | n, .bl _, v, u, k, _, _ => by cases n <;> simp [P.keyN] at k
  | n, .ty _, v, u, k, _, _ => by cases n <;> simp [P.keyN] at k
  | n, .lst _, v, u, k, _, _ => by cases n <;> simp [P.keyN] at k
  | n, .dct _, v, u, k, _, _ => by cases n <;> simp [P.keyN] at k
  | n, .ins _ _, v, u, k, _, _ => by cases n <;> simp [P.keyN] at k
  | n, .scr _, v, u, k, _, _ => by cases n <;> simp [P.keyN] at k
theorem RepPs.nested {P' : Program} {w : World} (hok : HOk P' w H h) (kin : c.K.In h) : ∀ (n : Nat) (ps : List P) (vs : List V) (us : List Value), ps.all (P.keyN n) = true → RepPs c F H ps vs → Vals vs us → NestedAll h (P.nk.nks ps) us ∧ NestedKey.depthAll (P.nk.nks ps) ≤ n
  | n, [], vs, us, _, r, rv => by
    simp only [RepPs] at r
    subst r
    cases rv
    exact ⟨by rw [P.nk.nks]; exact .nil, by simp [P.nk.nks, NestedKey.depthAll]⟩
  | n, p :: ps, vs, us, k, r, rv => by
    rw [RepPs] at r
    obtain ⟨v, r', rfl, h1, h2⟩ := r
    cases rv with
    | cons rv1 rv2 =>
      simp only [List.all_cons, Bool.and_eq_true] at k
      obtain ⟨a1, a2⟩ := RepP.nested hok kin n p v _ k.1 h1 rv1
      obtain ⟨b1, b2⟩ := RepPs.nested hok kin n ps r' _ k.2 h2 rv2
      refine ⟨by rw [P.nk.nks]; exact .cons a1 b1, ?_⟩
      simp only [P.nk.nks, NestedKey.depthAll]
      omega
end
theorem RepP.key {P' : Program} {w : World} (hok : HOk P' w H h) (kin : c.K.In h) {k : P} {v : V} (hk : k.tky = true) (r : RepP c F H k v) : (nestedKind P' w).is h k.nk (adr v) ∧ v = .ref (adr v) := by
  cases k with
  | tup xs =>
    have r' := r
    rw [RepP] at r'
    obtain ⟨a, vs, rfl, _⟩ := r'
    exact ⟨RepP.nested hok kin 8 (.tup xs) (.ref a) (.ref a) (tky_key hk) r rfl, rfl⟩
  | _ => simp [P.tky] at hk
end

/-! ### entries -/
def lkE (es : List Ent) (k : P) : Option V := (es.find? fun e => decide (e.1 = k)).map (·.2.2)
def putE (es : List Ent) (k : P) (kv v : V) : List Ent := if (es.any fun q => decide (q.1 = k)) = true then es.map fun q => if q.1 = k then (q.1, q.2.1, v) else q else es ++ [(k, kv, v)]
def delE (es : List Ent) (k : P) : List Ent := es.filter fun q => decide (q.1 ≠ k)
section
variable {c : Cfg} {g : Gh} {N : Nat} {H : Hp}
/-- the entries' keys stand for theirs -/
def KeysE (c : Cfg) (F : Addr → Prop) (H : Hp) (es : List Ent) : Prop := ∀ e ∈ es, RepP c F H e.1 e.2.1
theorem RepDk.keys {kvs : List (P × D)} {es : List Ent} (r : RepDk c g N H kvs es) : KeysE c g.F H es := by
  induction r with
  | nil => intro e h; simp at h
  | cons hk hd _ ih =>
    intro e h
    rcases List.mem_cons.mp h with rfl | h
    · exact hk
    · exact ih e h
theorem RepDk.fst {kvs : List (P × D)} {es : List Ent} (r : RepDk c g N H kvs es) : es.map (·.1) = kvs.map (·.1) := by
  induction r with
  | nil => rfl
  | cons hk hd _ ih => simp [ih]
theorem RepDk.len {kvs : List (P × D)} {es : List Ent} (r : RepDk c g N H kvs es) : es.length = kvs.length := by
  have := congrArg List.length r.fst
  simpa using this
theorem RepDk.lk {kvs : List (P × D)} {es : List Ent} (r : RepDk c g N H kvs es) (k : P) : (∃ d v, lkp kvs k = some d ∧ lkE es k = some v ∧ RepD c g N H d v) ∨ (lkp kvs k = none ∧ lkE es k = none) := by
  induction r with
  | nil => exact .inr ⟨rfl, rfl⟩
  | @cons k' d ds kv v vs hk hd _ ih =>
    by_cases e : k' = k
    · exact .inl ⟨d, v, by simp [lkp, e], by simp [lkE, e], hd⟩
    · have e1 : lkp ((k', d) :: ds) k = lkp ds k := by simp [lkp, e]
      have e2 : lkE ((k', kv, v) :: vs) k = lkE vs k := by simp [lkE, e]
      rw [e1, e2]
      exact ih
theorem RepDk.app {kvs kvs' : List (P × D)} {es es' : List Ent} (r : RepDk c g N H kvs es) (r' : RepDk c g N H kvs' es') : RepDk c g N H (kvs ++ kvs') (es ++ es') := by
  induction r with
  | nil => exact r'
  | cons hk hd _ ih => exact .cons hk hd ih
theorem RepDk.put {kvs : List (P × D)} {es : List Ent} (r : RepDk c g N H kvs es) {k : P} {d : D} {kv v : V} (hk : RepP c g.F H k kv) (hd : RepD c g N H d v) : RepDk c g N H (dput kvs k d) (putE es k kv v) := by
  have e : (kvs.any fun q => decide (q.1 = k)) = (es.any fun q => decide (q.1 = k)) := by
    have := r.fst
    have a1 : (kvs.any fun q => decide (q.1 = k)) = (kvs.map (·.1)).any fun x => decide (x = k) := by rw [List.any_map]; rfl
    have a2 : (es.any fun q => decide (q.1 = k)) = (es.map (·.1)).any fun x => decide (x = k) := by rw [List.any_map]; rfl
    rw [a1, a2, this]
  unfold dput putE
  rw [e]
  split
  · rename_i hh
    clear hh e
    induction r with
    | nil => exact .nil
    | @cons k' d' ds kv' v' vs hk' hd' _ ih =>
      rw [List.map_cons, List.map_cons]
      by_cases q : k' = k
      · simp only [q, if_true]
        exact .cons (by rw [← q]; exact hk') hd ih
      · simp only [q, if_false]
        exact .cons hk' hd' ih
  · exact r.app (.cons hk hd .nil)
theorem RepDk.del {kvs : List (P × D)} {es : List Ent} (r : RepDk c g N H kvs es) (k : P) : RepDk c g N H (ddel kvs k) (delE es k) := by
  unfold ddel delE
  induction r with
  | nil => exact .nil
  | @cons k' d' ds kv' v' vs hk' hd' _ ih =>
    by_cases q : k' = k
    · simpa [q] using ih
    · simp only [List.filter_cons, q, ne_eq, not_false_eq_true, decide_true, if_true]
      exact .cons hk' hd' ih
theorem putE_len (es : List Ent) (k : P) (kv v : V) : (putE es k kv v).length ≤ es.length + 1 := by
  unfold putE
  split
  · simp
  · simp
theorem delE_len (es : List Ent) (k : P) : (delE es k).length ≤ es.length := List.length_filter_le _ _
theorem putE_keys (es : List Ent) (k : P) (kv v : V) : (putE es k kv v).map (·.1) = if (es.any fun q => decide (q.1 = k)) = true then es.map (·.1) else es.map (·.1) ++ [k] := by
  unfold putE
  split
  · rw [List.map_map]
    refine List.map_congr_left fun x _ => ?_
    by_cases q : x.1 = k <;> simp [q]
  · simp
theorem putE_nodup {es : List Ent} {k : P} {kv v : V} (h : (es.map (·.1)).Nodup) : ((putE es k kv v).map (·.1)).Nodup := by
  rw [putE_keys]
  split
  · exact h
  · rename_i q
    rw [List.nodup_append]
    refine ⟨h, by simp, fun a ha b hb => ?_⟩
    simp only [List.mem_singleton] at hb
    subst hb
    rintro rfl
    obtain ⟨e, he, rfl⟩ := List.mem_map.mp ha
    exact q (List.any_eq_true.mpr ⟨e, he, by simp⟩)
theorem delE_nodup {es : List Ent} {k : P} (h : (es.map (·.1)).Nodup) : ((delE es k).map (·.1)).Nodup := h.sublist (List.Sublist.map _ (List.filter_sublist))
theorem putE_all {p : Ent → Prop} {es : List Ent} {k : P} {kv v : V} (h : ∀ e ∈ es, p e) (h1 : ∀ e ∈ es, e.1 = k → p (e.1, e.2.1, v)) (h2 : p (k, kv, v)) : ∀ e ∈ putE es k kv v, p e := by
  unfold putE
  split
  · intro e he
    obtain ⟨x, hx, rfl⟩ := List.mem_map.mp he
    by_cases q : x.1 = k
    · simp only [q, if_true]
      have := h1 x hx q
      rw [q] at this
      exact this
    · simp only [q, if_false]
      exact h x hx
  · intro e he
    rcases List.mem_append.mp he with he | he
    · exact h e he
    · simp only [List.mem_singleton] at he
      subst he
      exact h2

/-! ### the entries against the library's lists -/
abbrev fK : Ent → Key × V := fun e => (e.1.kk, e.2.2)
theorem lk_k {es : List Ent} (hs : ∀ e ∈ es, e.1.sca = true) {k : P} (hk : k.sca = true) : valV (es.map fK) k.kk = lkE es k := by
  induction es with
  | nil => rfl
  | cons e es ih =>
    have h1 := hs e (List.mem_cons_self ..)
    have ih := ih fun x hx => hs x (List.mem_cons_of_mem _ hx)
    unfold valV lkE at ih ⊢
    rw [List.map_cons, List.find?_cons, List.find?_cons]
    have q := kk_eq h1 hk
    show Option.map _ (match decide (e.1.kk = k.kk) with | true => _ | false => _) = _
    rw [q]
    cases decide (e.1 = k) with
    | true => rfl
    | false => exact ih
theorem any_k {es : List Ent} (hs : ∀ e ∈ es, e.1.sca = true) {k : P} (hk : k.sca = true) : ((es.map fK).any fun q => decide (q.1 = k.kk)) = es.any fun q => decide (q.1 = k) := by
  induction es with
  | nil => rfl
  | cons e es ih =>
    rw [List.map_cons, List.any_cons, List.any_cons, ih fun x hx => hs x (List.mem_cons_of_mem _ hx), kk_eq (hs e (List.mem_cons_self ..)) hk]
theorem put_k {es : List Ent} (hs : ∀ e ∈ es, e.1.sca = true) {k : P} (hk : k.sca = true) (kv v : V) : putK (es.map fK) k.kk v = (putE es k kv v).map fK := by
  unfold putK putE
  rw [any_k hs hk]
  split
  · rw [List.map_map, List.map_map]
    refine List.map_congr_left fun e he => ?_
    have q := kk_eq (hs e he) hk
    by_cases z : e.1 = k
    · have z' : e.1.kk = k.kk := by rw [z]
      simp [Function.comp, z, z']
    · have z' : ¬ e.1.kk = k.kk := fun y => z (kk_inj (hs e he) hk y)
      simp [Function.comp, z, z']
  · simp
theorem drop_k {es : List Ent} (hs : ∀ e ∈ es, e.1.sca = true) {k : P} (hk : k.sca = true) : dropK (es.map fK) k.kk = (delE es k).map fK := by
  unfold dropK delE
  induction es with
  | nil => rfl
  | cons e es ih =>
    have ih := ih fun x hx => hs x (List.mem_cons_of_mem _ hx)
    have q := kk_eq (hs e (List.mem_cons_self ..)) hk
    by_cases z : e.1 = k
    · have z' : e.1.kk = k.kk := by rw [z]
      simpa [List.filter_cons, z, z'] using ih
    · have z' : ¬ e.1.kk = k.kk := fun y => z (kk_inj (hs e (List.mem_cons_self ..)) hk y)
      simpa [List.filter_cons, z, z'] using ih
theorem xs_len : ∀ {es : List Ent} {us : List Value}, us.length = es.length → (xsOf es us).length = es.length
  | [], [], _ => rfl
  | [], _ :: _, h => by simp at h
  | _ :: _, [], h => by simp at h
  | e :: es, u :: us, h => by simp [xsOf, xs_len (es := es) (us := us) (by simpa using h)]
theorem xs_mem : ∀ {es : List Ent} {us : List Value} {x : NestedKey × Addr × Value}, x ∈ xsOf es us → ∃ e ∈ es, x.1 = e.1.nk ∧ x.2.1 = adr e.2.1
  | [], _, x, h => by simp [xsOf] at h
  | _ :: _, [], x, h => by simp [xsOf] at h
  | e :: es, u :: us, x, h => by
    rw [xsOf] at h
    rcases List.mem_cons.mp h with rfl | h
    · exact ⟨e, List.mem_cons_self .., rfl, rfl⟩
    · obtain ⟨e', he, q⟩ := xs_mem h
      exact ⟨e', List.mem_cons_of_mem _ he, q⟩
theorem xs_fst : ∀ {es : List Ent} {us : List Value}, us.length = es.length → (xsOf es us).map (·.1) = es.map (·.1.nk)
  | [], [], _ => rfl
  | [], _ :: _, h => by simp at h
  | _ :: _, [], h => by simp at h
  | e :: es, u :: us, h => by simp [xsOf, xs_fst (es := es) (us := us) (by simpa using h)]
theorem xs_at : ∀ {es : List Ent} {us : List Value}, (∀ e ∈ es, e.1.tky = true) → Vals (es.map (·.2.2)) us → ∀ {k : P}, k.tky = true → RelO (lkE es k) ((atKey (xsOf es us) k.nk).map (·.2))
  | [], us, _, r, k, hk => by cases r; simp [xsOf, atKey, lkE, RelO]
  | e :: es, us, hs, r, k, hk => by
    cases r with
    | @cons _ u _ us' r1 r2 =>
    have ih := xs_at (fun x hx => hs x (List.mem_cons_of_mem _ hx)) r2 hk
    have q := nk_eq (hs e (List.mem_cons_self ..)) hk
    unfold atKey lkE at ih ⊢
    rw [xsOf, List.find?_cons, List.find?_cons]
    show RelO _ (Option.map _ (Option.map _ (match decide (e.1.nk = k.nk) with | true => _ | false => _)))
    rw [q]
    cases decide (e.1 = k) with
    | true => exact r1
    | false => exact ih
theorem xs_any {es : List Ent} {us : List Value} (hs : ∀ e ∈ es, e.1.tky = true) (r : Vals (es.map (·.2.2)) us) {k : P} (hk : k.tky = true) : (atKey (xsOf es us) k.nk).isSome = es.any fun q => decide (q.1 = k) := by
  have h := (xs_at hs r hk).isSome_eq
  rw [Option.isSome_map] at h
  rw [← h]
  unfold lkE
  rw [Option.isSome_map]
  clear h r hs
  induction es with
  | nil => rfl
  | cons e es ih =>
    rw [List.find?_cons, List.any_cons]
    cases decide (e.1 = k) with
    | true => rfl
    | false => simpa using ih
theorem xs_put {es : List Ent} {us : List Value} (hs : ∀ e ∈ es, e.1.tky = true) (r : Vals (es.map (·.2.2)) us) {k : P} (hk : k.tky = true) {kv v : V} {u : Value} (rv : RelV v u) :
    ∃ us', Vals ((putE es k kv v).map (·.2.2)) us' ∧ storedH (xsOf es us) k.nk (adr kv) u = xsOf (putE es k kv v) us' := by
  have ha := xs_any hs r hk
  unfold storedH putE
  rw [ha]
  split
  · rename_i hh
    clear hh ha
    induction es generalizing us with
    | nil => cases r; exact ⟨[], .nil, rfl⟩
    | cons e es ih =>
      cases r with
      | @cons _ u0 _ us' r1 r2 =>
      obtain ⟨ws, h1, h2⟩ := ih (fun x hx => hs x (List.mem_cons_of_mem _ hx)) r2
      have q := nk_eq (hs e (List.mem_cons_self ..)) hk
      by_cases z : e.1 = k
      · have z' : e.1.nk = k.nk := by rw [z]
        refine ⟨u :: ws, ?_, ?_⟩
        · simp only [List.map_cons, z, if_true]
          exact .cons rv h1
        · rw [xsOf, List.map_cons, List.map_cons, h2]
          simp [xsOf, putAt, z, z']
      · have z' : ¬ e.1.nk = k.nk := fun y => z (nk_inj 8 _ _ (tky_key (hs e (List.mem_cons_self ..))) (tky_key hk) y)
        refine ⟨u0 :: ws, ?_, ?_⟩
        · simp only [List.map_cons, z, if_false]
          exact .cons r1 h1
        · rw [xsOf, List.map_cons, List.map_cons, h2]
          simp [xsOf, putAt, z, z']
  · refine ⟨us ++ [u], ?_, ?_⟩
    · rw [List.map_append]
      exact r.append (.cons rv .nil)
    · clear ha hs
      rename_i hh
      clear hh
      induction es generalizing us with
      | nil => cases r; rfl
      | cons e es ih =>
        cases r with
        | cons r1 r2 => rw [xsOf, List.cons_append, ih r2]; rfl
theorem xs_del {es : List Ent} {us : List Value} (hs : ∀ e ∈ es, e.1.tky = true) (r : Vals (es.map (·.2.2)) us) {k : P} (hk : k.tky = true) :
    ∃ us', Vals ((delE es k).map (·.2.2)) us' ∧ withoutH (xsOf es us) k.nk = xsOf (delE es k) us' := by
  unfold withoutH delE
  induction es generalizing us with
  | nil => cases r; exact ⟨[], .nil, rfl⟩
  | cons e es ih =>
    cases r with
    | @cons _ u0 _ us' r1 r2 =>
    obtain ⟨ws, h1, h2⟩ := ih (fun x hx => hs x (List.mem_cons_of_mem _ hx)) r2
    by_cases z : e.1 = k
    · have z' : e.1.nk = k.nk := by rw [z]
      refine ⟨ws, ?_, ?_⟩
      · simpa [List.filter_cons, z] using h1
      · rw [xsOf, List.filter_cons]
        simpa [z, z', List.filter_cons] using h2
    · have z' : ¬ e.1.nk = k.nk := fun y => z (nk_inj 8 _ _ (tky_key (hs e (List.mem_cons_self ..))) (tky_key hk) y)
      refine ⟨u0 :: ws, ?_, ?_⟩
      · simp only [List.filter_cons, z, ne_eq, not_false_eq_true, decide_true, if_true, List.map_cons]
        exact .cons r1 h1
      · rw [xsOf, List.filter_cons]
        simp only [z', ne_eq, not_false_eq_true, decide_true, if_true, h2, List.filter_cons, z]
        rw [xsOf]
end
end PyM
namespace PyM
open PySem PySem.Spec PyProof.Rows L2

abbrev cfgOf (X : Cx) (ca : Str → Option Addr) : Cfg := ⟨X.prog, X.w, X.K, ca⟩
/-- a key that fits the entries -/
def fitE (es : List Ent) (k : P) : Prop := (k.sca = true ∧ ∀ e ∈ es, e.1.sca = true) ∨ (k.tky = true ∧ ∀ e ∈ es, e.1.tky = true)
section
variable {X : Cx} {ca : Str → Option Addr} {pins : List (Addr × Obj)} {σ : PSt} {H : Hp} {s : Shared} {a : Addr} {es : List Ent} {F : Addr → Prop}
theorem sca_not_tky {k : P} (h : k.sca = true) : k.tky = false := by
  cases k <;> simp [P.sca] at h <;> rfl
theorem DGet.rk {H : Hp} {a : Addr} {kvs : List (Key × V)} {k : Key} (e : Rd H a (.dK kvs)) : DGet H a (kV k) (valV kvs k) := .inl ⟨kvs, k, e, rfl, rfl⟩
theorem ext_rd {φ : Heap → Prop} (I : Inv X pins σ H s) (h : Rd H a (.ext φ)) : φ s.heap := by
  rcases h with e | ⟨od, e⟩
  · exact (I.hok a _ e).1
  · exact (I.hok a _ e).2.1
/-- all keys ints and texts -/
theorem d_scW (h : DctW (cfgOf X ca) H a es) (hs : ∀ e ∈ es, e.1.sca = true) : H a = some (.dK (es.map fK)) := by
  obtain ⟨_, _, ⟨_, e⟩ | ⟨ne, ht, _⟩⟩ := h
  · exact e
  · cases es with
    | nil => exact absurd rfl ne
    | cons e es =>
      have h1 := ht e (List.mem_cons_self ..)
      rw [sca_not_tky (hs e (List.mem_cons_self ..))] at h1
      cases h1
theorem d_sc (h : DctAt (cfgOf X ca) H a es) (hs : ∀ e ∈ es, e.1.sca = true) : Rd H a (.dK (es.map fK)) := by
  obtain ⟨_, _, ⟨_, e⟩ | ⟨ne, ht, _⟩⟩ := h
  · exact e
  · cases es with
    | nil => exact absurd rfl ne
    | cons e es =>
      have h1 := ht e (List.mem_cons_self ..)
      rw [sca_not_tky (hs e (List.mem_cons_self ..))] at h1
      cases h1
theorem keys_is (I : Inv X pins σ H s) (ke : KeysE (cfgOf X ca) F H es) (ht : ∀ e ∈ es, e.1.tky = true) {us : List Value} : ∀ x ∈ xsOf es us, (nestedKind X.prog X.w).is s.heap x.1 x.2.1 := fun x hx => by
  obtain ⟨e, he, q1, q2⟩ := xs_mem hx
  rw [q1, q2]
  exact (RepP.key (c := cfgOf X ca) I.hok I.kIn (ht e he) (ke e he)).1
theorem nks_nodup {es : List Ent} (ht : ∀ e ∈ es, e.1.tky = true) (h : (es.map (·.1)).Nodup) : (es.map (·.1.nk)).Nodup := by
  induction es with
  | nil => exact List.nodup_nil
  | cons e es ih =>
    rw [List.map_cons, List.nodup_cons] at h ⊢
    refine ⟨fun hm => ?_, ih (fun x hx => ht x (List.mem_cons_of_mem _ hx)) h.2⟩
    obtain ⟨x, hx, q⟩ := List.mem_map.mp hm
    have := nk_inj 8 x.1 e.1 (tky_key (ht x (List.mem_cons_of_mem _ hx))) (tky_key (ht e (List.mem_cons_self ..))) q
    exact h.1 (List.mem_map.mpr ⟨x, hx, this⟩)
/-- all keys tuples -/
theorem d_tk (I : Inv X pins σ H s) (h : DctAt (cfgOf X ca) H a es) (ke : KeysE (cfgOf X ca) F H es) (ht : ∀ e ∈ es, e.1.tky = true) :
    (a == sysModules) = false ∧ ∃ us, Vals (es.map (·.2.2)) us ∧ s.heap.DictOfH (nestedKind X.prog X.w) a (xsOf es us) := by
  obtain ⟨z, nd, ⟨hs, e⟩ | ⟨ne, _, e⟩⟩ := h
  · have e0 : es = [] := by
      cases es with
      | nil => rfl
      | cons e1 es1 =>
        have h1 := ht e1 (List.mem_cons_self ..)
        rw [sca_not_tky (hs e1 (List.mem_cons_self ..))] at h1
        cases h1
    subst e0
    obtain ⟨_, hd, vs, rel, o, ents, ep, g1, g2, g3, _, g5, _⟩ := dk_rd I.hok e
    cases rel
    refine ⟨hd, [], .nil, o, ents, ep, g1, g2, g3, ?_, fun x hx => by simp [xsOf] at hx, by simp [xsOf]⟩
    generalize hl : ents.toList = l at g5
    cases g5
    rfl
  · obtain ⟨hd, us, r, o, ents, ep, g1, g2, g3, g4, g5⟩ := ext_rd I e
    refine ⟨hd, us, r, o, ents, ep, g1, g2, g3, g4, keys_is I ke ht, ?_⟩
    rw [xs_fst (by have := r.length; simpa using this.symm)]
    exact g5
theorem room8 {A : Around} (hu : A.units + 64 < cLine) : (nestedKind X.prog X.w).room A.in1 := by
  show A.units + 1 + 8 < cLine
  omega
theorem d_type (I : Inv X pins σ H s) (h : DctAt (cfgOf X ca) H a es) : s.TypeIs (.ref a) "dict" ∧ (∀ b, Value.ref a = .ref b → ∃ ob, s.heap.get? b = some ob ∧ ob.dict = none) ∧ (a == sysModules) = false := by
  obtain ⟨z, nd, ⟨hs, e⟩ | ⟨ne, _, e⟩⟩ := h
  · exact isD_at I (.inl ⟨_, e⟩)
  · obtain ⟨hd, us, r, o, ents, ep, g1, g2, g3, g4, g5⟩ := ext_rd I e
    refine ⟨⟨o, g1, g2.1⟩, fun b q => ?_, hd⟩
    cases q
    exact ⟨o, g1, g2.2.1⟩
end

/-! ### in, not in, d[k], d.get(k, x) -/
section
variable {X : Cx} {ca : Str → Option Addr}
def rInK (c : Cfg) (neg : Bool) : R2 := fun x y H Q => ∃ a es F k, y = .ref a ∧ DctAt c H a es ∧ KeysE c F H es ∧ RepP c F H k x ∧ fitE es k ∧ Q (.bl (if neg then !(lkE es k).isSome else (lkE es k).isSome)) H
theorem op_inK (hu : X.A.units + 64 < cLine) : OpR X (compareOp .In) (rInK (cfgOf X ca) false) := by
  intro pins s σ H x y v u Q I rx ry h
  obtain ⟨a, es, F, k, rfl, hd, ke, hk, ft, q⟩ := h
  cases ry
  rcases ft with ⟨k1, k2⟩ | ⟨k1, k2⟩
  · have e := d_sc hd k2
    have ex := hk.sca k1
    subst ex
    refine d_in (by omega) I (DGet.rk (k := k.kk) e) rx fun s' I' => ⟨.bl _, H, I', rfl, ?_⟩
    rw [lk_k k2 k1]
    exact q
  · obtain ⟨hm, us, r, dd⟩ := d_tk I hd ke k2
    obtain ⟨ki, ex⟩ := RepP.key (c := cfgOf X ca) I.hok I.kIn k1 hk
    rw [ex] at rx
    cases rx
    refine wpAny_in_heap (room8 hu) ki hm dd ⟨.bl _, H, I.tok _, rfl, ?_⟩
    have q' := (xs_at k2 r k1).isSome_eq
    rw [Option.isSome_map] at q'
    rw [← q']
    exact q
theorem op_notInK (hu : X.A.units + 64 < cLine) : OpR X (compareOp .NotIn) (rInK (cfgOf X ca) true) := by
  intro pins s σ H x y v u Q I rx ry h
  obtain ⟨a, es, F, k, rfl, hd, ke, hk, ft, q⟩ := h
  cases ry
  rcases ft with ⟨k1, k2⟩ | ⟨k1, k2⟩
  · have e := d_sc hd k2
    have ex := hk.sca k1
    subst ex
    refine d_notIn (by omega) I (DGet.rk (k := k.kk) e) rx fun s' I' => ⟨.bl _, H, I', rfl, ?_⟩
    rw [lk_k k2 k1]
    exact q
  · obtain ⟨hm, us, r, dd⟩ := d_tk I hd ke k2
    obtain ⟨ki, ex⟩ := RepP.key (c := cfgOf X ca) I.hok I.kIn k1 hk
    rw [ex] at rx
    cases rx
    refine wpAny_notIn_heap (room8 hu) ki hm dd ⟨.bl _, H, I.tok _, rfl, ?_⟩
    have q' := (xs_at k2 r k1).isSome_eq
    rw [Option.isSome_map] at q'
    rw [← q']
    exact q
/-- d[k], there -/
theorem d_item {pins : List (Addr × Obj)} {s : Shared} {σ : PSt} {H : Hp} {a : Addr} {es : List Ent} {F : Addr → Prop} {k : P} {x w : V} {u : Value} {A : Around} {E : Value → Shared → Prop} {Q : Value → Shared → Prop} (hu : A.units + 64 < cLine) (I : Inv X pins σ H s)
    (hd : DctAt (cfgOf X ca) H a es) (ke : KeysE (cfgOf X ca) F H es) (hk : RepP (cfgOf X ca) F H k x) (ft : fitE es k) (l : lkE es k = some w) (rx : RelV x u)
    (h : ∀ w' s', Inv X pins σ H s' → RelV w w' → Q w' s') : wpAny (model X.prog X.w) A (getItem (.ref a) u) Q E s := by
  rcases ft with ⟨k1, k2⟩ | ⟨k1, k2⟩
  · have e := d_sc hd k2
    have ex := hk.sca k1
    subst ex
    exact d_getItem (by omega) I (by rw [← l, ← lk_k k2 k1]; exact DGet.rk (k := k.kk) e) rx h
  · obtain ⟨hm, us, r, dd⟩ := d_tk I hd ke k2
    obtain ⟨ki, ex⟩ := RepP.key (c := cfgOf X ca) I.hok I.kIn k1 hk
    rw [ex] at rx
    cases rx
    have q' := xs_at k2 r k1
    rw [l] at q'
    obtain ⟨w', hw, rw'⟩ := RelO.some_of q'
    obtain ⟨p, hp, rfl⟩ := Option.map_eq_some_iff.mp hw
    exact wpAny_getItem_heap (room8 hu) ki dd hp (h _ _ (I.tok _) rw')
def rIxK (c : Cfg) : R2 := fun x y H Q => ∃ a es F k w, x = .ref a ∧ DctAt c H a es ∧ KeysE c F H es ∧ RepP c F H k y ∧ fitE es k ∧ lkE es k = some w ∧ Q w H
theorem ix_dct (hu : X.A.units + 64 < cLine) : IxR X (rIxK (cfgOf X ca)) := by
  intro value slice pins s σ H x y v u Q I rx ry h hs
  obtain ⟨a, es, F, k, w, rfl, hd, ke, hk, ft, l, q⟩ := h
  cases rx
  obtain ⟨t1, _, _⟩ := d_type I hd
  unfold subscriptTail
  refine wpAny_bind ?_
  rw [getitemInPython_of_ne t1.not_modules]
  refine wpAny_bind (wpAny_specialOf t1 PySem.F.slot_dict_getitem.lookup ?_)
  have fin : wpAny (model X.prog X.w) X.A (subscripted slice false (.ref a) u) (fun r s₃ => wpAny (model X.prog X.w) X.A (letTemporaryGo value (.ref a) r >>= fun _ => pure r) (EP X pins σ Q) X.xe s₃) X.xe s := by
    rw [hs]
    exact wpAny_operating (d_item hu I hd ke hk ft l ry fun w' s' I' rw' => wpAny_bind (wpAny_letTemporaryGo (wpAny_pure ⟨w, H, I', rw', q⟩)))
  first
    | exact wpAny_pure (wpAny_bind fin)
    | exact wpAny_bind (wpAny_pure (wpAny_bind fin))
    | exact wpAny_bind fin
/-- d.get(k, x) -/
def rGet2 (c : Cfg) : V → List V → Hp → VK → Prop := fun x ys H Q => ∃ a es F k kv z, x = .ref a ∧ ys = [kv, z] ∧ DctAt c H a es ∧ KeysE c F H es ∧ RepP c F H k kv ∧ fitE es k ∧ Q ((lkE es k).getD z) H
theorem mt_get2 (hu : X.A.units + 64 < cLine) : MtR X "dict.get" (rGet2 (cfgOf X ca)) := by
  intro pins s σ H x ys v us Q I rx rys h
  obtain ⟨a, es, F, k, kv, z, rfl, rfl, hd, ke, hk, ft, q⟩ := h
  cases rx
  obtain ⟨u1, u2, rfl, r1, r2⟩ := Vals.two rys
  rcases ft with ⟨k1, k2⟩ | ⟨k1, k2⟩
  · have e := d_sc hd k2
    have ex := hk.sca k1
    subst ex
    refine d_get2 (by omega) I (DGet.rk (k := k.kk) e) r1 r2 fun w' s' I' rw' => ⟨_, H, I', rw', ?_⟩
    rw [lk_k k2 k1]
    exact q
  · obtain ⟨hm, ws, r, dd⟩ := d_tk I hd ke k2
    obtain ⟨ki, ex⟩ := RepP.key (c := cfgOf X ca) I.hok I.kIn k1 hk
    rw [ex] at r1
    cases r1
    refine call_meetsIn PySem.F.slot_dict_get dd.typeIs PySem.F.entry_dict_get (PySem.F.args_dict_get_3 _ _ _) (meetsH_dict_get_default (nestedKind X.prog X.w) a _ hm u2) ⟨room8 hu, k.nk, _, ki, dd, _, H, I.tok _, ?_, q⟩
    exact (xs_at k2 r k1).getD r2
/-- the dict's object as it will be told -/
theorem dctAt_new {a : Addr} {P : Program} {w : World} {K : PySem.W.Frag} {H : Hp} {h' : Heap} {es : List Ent} (ht : ∀ e ∈ es, e.1.tky = true) (nd : (es.map (·.1)).Nodup) (z : es.length ≤ sizeLine) (hm : (a == sysModules) = false) {us : List Value} (r : Vals (es.map (·.2.2)) us)
    (dd : h'.DictOfH (nestedKind P w) a (xsOf es us)) : ∃ o, ObjOk P w (upd H a o) h' a o ∧ DctW ⟨P, w, K, ca⟩ (upd H a o) a es := by
  obtain ⟨ob, ents, ep, g1, g2, g3, g4, g5, g6⟩ := dd
  by_cases e0 : es = []
  · subst e0
    refine ⟨.dK [], ⟨Nat.zero_le _, hm, [], .nil, ob, ents, ep, g1, g2, g3, ?_, ?_, List.nodup_nil⟩, z, nd, .inl ⟨fun e he => by simp at he, upd_same⟩⟩
    · have : ents = #[] := by
        have q : ents.toList = [] := by rw [g4]; rfl
        simpa using q
      subst this
      intro e he
      simp at he
    · rw [g4]
      exact .nil
  · refine ⟨.ext (DKf P w a es), ⟨⟨hm, us, r, ob, ents, ep, g1, g2, g3, g4, nks_nodup ht nd⟩, ⟨ob, g1⟩, fun h1 h2 q k => ?_⟩, z, nd, .inr ⟨e0, ht, upd_same⟩⟩
    obtain ⟨m1, us', r', o', en', ep', q1, q2⟩ := q
    exact ⟨m1, us', r', o', en', ep', k _ q1, q2⟩
/-- d[k] = v -/
theorem d_store {pins : List (Addr × Obj)} {s : Shared} {σ : PSt} {H : Hp} {a : Addr} {es : List Ent} {F : Addr → Prop} {k : P} {x w : V} {u r : Value} {A : Around} {E : Value → Shared → Prop} {Q : Unit → Shared → Prop} (hu : A.units + 64 < cLine) (I : Inv X pins σ H s)
    (hd : DctW (cfgOf X ca) H a es) (ke : KeysE (cfgOf X ca) F H es) (hk : RepP (cfgOf X ca) F H k x) (ft : fitE es k) (z : es.length < sizeLine) (rx : RelV x u) (rw' : RelV w r)
    (h : ∀ o s', Inv X pins σ (upd H a o) s' → DctW (cfgOf X ca) (upd H a o) a (putE es k x w) → Q () s') : wpAny (model X.prog X.w) A (setItem (.ref a) u r) Q E s := by
  have z' := putE_len es k x w
  have nd' : ((putE es k x w).map (·.1)).Nodup := putE_nodup hd.2.1
  rcases ft with ⟨k1, k2⟩ | ⟨k1, k2⟩
  · have e := d_scW hd k2
    have ex := hk.sca k1
    subst ex
    refine d_setItem (by omega) I (DPut.k (k := k.kk) e (by simpa using z)) rx rw' fun s' I' => h _ s' I' ⟨by omega, nd', .inl ⟨?_, ?_⟩⟩
    · exact putE_all k2 (fun e he _ => k2 e he) k1
    · rw [upd_same, put_k k2 k1]
  · obtain ⟨hm, us, r1, dd⟩ := d_tk I hd.r ke k2
    obtain ⟨ki, ex⟩ := RepP.key (c := cfgOf X ca) I.hok I.kIn k1 hk
    have rx' := rx
    rw [ex] at rx'
    cases rx'
    obtain ⟨us', r2, eq⟩ := xs_put k2 r1 k1 (kv := x) (v := w) rw'
    have hl : (xsOf es us).length = es.length := xs_len (by have := r1.length; simpa using this.symm)
    refine wpAny_setItem_heap (hsz := by rw [hl]; omega) (room8 hu) ki dd fun h' dd' hs => ?_
    rw [eq] at dd'
    obtain ⟨o, ok, da⟩ := dctAt_new (K := X.K) (ca := ca) (H := H) (putE_all k2 (fun e he _ => k2 e he) k1) nd' (by omega) hm r2 dd'
    have mu : Mut (H a) := by
      obtain ⟨_, _, ⟨_, e⟩ | ⟨_, _, e⟩⟩ := hd
      · rw [e]; trivial
      · rw [e]; trivial
    obtain ⟨q, _, _, hq, _⟩ := dd'
    exact h o _ (d_write I mu hs ⟨q, hq⟩ ok) da
/-- d.pop(k), there -/
theorem d_popk {pins : List (Addr × Obj)} {s : Shared} {σ : PSt} {H : Hp} {a : Addr} {es : List Ent} {F : Addr → Prop} {k : P} {x w : V} {u : Value} {A : Around} {E : Value → Shared → Prop} {Q : Value → Shared → Prop} (hu : A.units + 64 < cLine) (I : Inv X pins σ H s)
    (hd : DctW (cfgOf X ca) H a es) (ke : KeysE (cfgOf X ca) F H es) (hk : RepP (cfgOf X ca) F H k x) (ft : fitE es k) (l : lkE es k = some w) (rx : RelV x u)
    (h : ∀ o w' s', Inv X pins σ (upd H a o) s' → RelV w w' → DctW (cfgOf X ca) (upd H a o) a (delE es k) → Q w' s') : wpAny (model X.prog X.w) A (call (.builtin "dict.pop") [.ref a, u]) Q E s := by
  have z' := delE_len es k
  have z0 := hd.1
  have nd' : ((delE es k).map (·.1)).Nodup := delE_nodup hd.2.1
  rcases ft with ⟨k1, k2⟩ | ⟨k1, k2⟩
  · have e := d_scW hd k2
    have ex := hk.sca k1
    subst ex
    refine d_pop I (k := k.kk) e rx (by rw [lk_k k2 k1]; exact l) (.inl rfl) fun w' s' I' rw' => h _ w' s' I' rw' ⟨by omega, nd', .inl ⟨?_, ?_⟩⟩
    · exact fun e he => k2 e (List.mem_filter.mp he).1
    · rw [upd_same, drop_k k2 k1]
  · obtain ⟨hm, us, r1, dd⟩ := d_tk I hd.r ke k2
    obtain ⟨ki, ex⟩ := RepP.key (c := cfgOf X ca) I.hok I.kIn k1 hk
    have rx' := rx
    rw [ex] at rx'
    cases rx'
    have q' := xs_at k2 r1 k1
    rw [l] at q'
    obtain ⟨w', hw, rw'⟩ := RelO.some_of q'
    obtain ⟨p, hp, rfl⟩ := Option.map_eq_some_iff.mp hw
    obtain ⟨us', r2, eq⟩ := xs_del k2 r1 k1
    have hl : (xsOf es us).length = es.length := xs_len (by have := r1.length; simpa using this.symm)
    refine call_pop_heap (hsz := by rw [hl]; omega) (.inl rfl) (PySem.F.args_dict_pop_2 _ _) (room8 hu) ki hm dd hp fun h' dd' hs => ?_
    rw [eq] at dd'
    obtain ⟨o, ok, da⟩ := dctAt_new (es := delE es k) (K := X.K) (ca := ca) (H := H) (fun e he => k2 e (List.mem_filter.mp he).1) nd' (by omega) hm r2 dd'
    have mu : Mut (H a) := by
      obtain ⟨_, _, ⟨_, e⟩ | ⟨_, _, e⟩⟩ := hd
      · rw [e]; trivial
      · rw [e]; trivial
    obtain ⟨q, _, _, hq, _⟩ := dd'
    exact h o _ _ (d_write I mu hs ⟨q, hq⟩ ok) rw' da
/-- len(d) -/
theorem d_length {pins : List (Addr × Obj)} {s : Shared} {σ : PSt} {H : Hp} {a : Addr} {es : List Ent} {F : Addr → Prop} {A : Around} {E : Value → Shared → Prop} {Q : Value → Shared → Prop} (I : Inv X pins σ H s)
    (hd : DctAt (cfgOf X ca) H a es) (ke : KeysE (cfgOf X ca) F H es) (h : ∀ t s', Inv X pins σ H s' → Q (.int es.length t) s') : wpAny (model X.prog X.w) A (call (.builtin "len") [.ref a]) Q E s := by
  obtain ⟨z, nd, ⟨hs, e⟩ | ⟨ne, ht, e⟩⟩ := id hd
  · refine d_len I e fun t s' I' => ?_
    rw [List.length_map]
    exact h t s' I'
  · obtain ⟨hm, us, r1, dd⟩ := d_tk I hd ke ht
    have hl : (xsOf es us).length = es.length := xs_len (by have := r1.length; simpa using this.symm)
    have dk : s.heap.DictKeyed (nestedKind X.prog X.w) a (pairsH (xsOf es us)) := ⟨_, dd, rfl⟩
    have hn : (pairsH (xsOf es us)).length = es.length := by rw [pairsH_length, hl]
    refine PyProof.Rows.call_len_slot (n := (pairsH (xsOf es us)).length) dd.typeIs PySem.F.slot_dict_len (fun Q' hq => len_keyed hm dk hq) (by omega) (by rw [sizeLine_eq] at z; omega) ?_
    rw [hn]
    exact h _ _ (I.tok _)
end
end PyM
namespace PyM
open PySem PySem.W PySem.Calls PyProof.Rows

/-! ### sorting tuples of which some are empty -/
section
variable {M : Model} {prog : Program} {w : World} {A : Around} {E : Value → Shared → Prop} {s : Shared}
def kind0 (ds : List PyData) : SortKind := match ds with
  | .tuple (_ :: _) :: _ => general'
  | _ => oneType'
/-- the call of tuple's own __lt__, as sorting makes it -/
theorem call_tuple_lt {Q : Value → Shared → Prop} {l b : Addr} {items items2 : Array Value} {e r : Nat → Bool} (hl : s.heap.IsTuple l items) (hb : s.heap.IsTuple b items2)
    (he : ∀ j (h1 : j < items.size) (h2 : j < items2.size), SeqAt.EqAt A.in1 s items[j] items2[j] (e j)) (hr : ∀ j (h1 : j < items.size) (h2 : j < items2.size), e j = false → SeqAt.RcLt A.in1 s items[j] items2[j] (r j))
    (h : Q (.bool (SeqAt.firstLt e r (decide (items.size < items2.size)) (List.range (min items.size items2.size)))) s) : wpAny (model prog w) A (call (.builtin "tuple.__lt__") [.ref l, .ref b]) Q E s := by
  obtain ⟨⟨cls, dd, data, sl⟩, ho, hc, n, hd⟩ := id hl
  obtain ⟨⟨cls2, dd2, data2, sl2⟩, ho2, hc2, n2, hd2⟩ := id hb
  simp only at hc hd hc2 hd2
  subst hc hd hc2 hd2
  exact call_meets F.slot_tuple_lt ⟨_, ho, rfl⟩ F.entry_tuple_lt (F.args_tuple_lt_2 _ _) (SeqAt.tuple_ltAt l b items items2 n n2 dd dd2 sl sl2 e r) ⟨ho, ho2, he, hr, h⟩
theorem oneLt_tup {xs ys : List PyData} {a b : Value} {as bs : List Addr} {Q : Bool → Shared → Prop} (ra : Reads s.heap a (.tuple xs) as) (rb : Reads s.heap b (.tuple ys) bs) (h : alikeAll xs ys = true)
    (hu : A.units + min (PyData.depth (.tuple xs)) (PyData.depth (.tuple ys)) < cLine) (hq : Q (dataLt (.tuple xs) (.tuple ys)) s) : wpAny (model prog w) A (oneLt' true a b) Q E s := by
  cases ra with
  | @tuple l o vs n _ as₁ h1 h2 h3 h4 =>
    cases rb with
    | @tuple l' o' vs' n' _ bs₁ k1 k2 k3 k4 =>
      have n1 : vs.size = xs.length := by simpa using SeqAt.ReadsAll.length _ _ _ h4
      have n2 : vs'.size = ys.length := by simpa using SeqAt.ReadsAll.length _ _ _ k4
      rw [dataLt_tuple, ← firstLt_toks xs ys h, ← n1, ← n2] at hq
      rw [oneLt'_eq]
      simp only [if_true]
      refine wpAny_bind (wpAny_cRoomFor (SeqAt.room_here hu) ?_)
      refine wpAny_bind (wpAny_callSpecialIfBound?_slot (T := "tuple") ⟨_, h1, h2⟩ F.slot_tuple_lt (call_tuple_lt (e := PySem.SeqAt.pairEq xs ys) (r := fun j => dataLt (xs.getD j .none) (ys.getD j .none)) ⟨_, h1, h2, _, h3⟩ ⟨_, k1, k2, _, k3⟩ (fun j j1 j2 => ?_) (fun j j1 j2 hj => ?_) ?_))
      · have := eqAt_alikeAll xs ys A.in1 s vs.toList vs'.toList _ _ h4 k4 h (SeqAt.room_in hu) j (by simpa using j1) (by simpa using j2)
        simpa using this
      · have := rcLt_alikeAll xs ys A.in1 s vs.toList vs'.toList _ _ h4 k4 h (SeqAt.room_in hu) j (by simpa using j1) (by simpa using j2) hj
        simpa using this
      · exact wpAny_truthy_bool hq
/-- the first items of tuples -/
theorem firsts_any : ∀ (vs : List Value) (ds : List PyData) {Q : List (Option Value) → Shared → Prop}, EachIs (fun v d => ∃ as, Reads s.heap v d as) vs ds → (∀ d ∈ ds, ∃ xs, d = .tuple xs) →
    (∀ fs : List (Option Value), EachIs (fun (o : Option Value) d => o.isSome = (match d with
      | .tuple (_ :: _) => true
      | _ => false)) fs ds → Q fs s) → wpAny M A (vs.mapM firstOfTuple') Q E s
  | [], [], Q, _, _, h => by rw [List.mapM_nil]; exact wpAny_pure (h [] .nil)
  | v :: vs, d :: ds, Q, e, ht, h => by
    cases e with
    | cons e1 e2 =>
    obtain ⟨as, r⟩ := e1
    obtain ⟨xs, rfl⟩ := ht d (List.mem_cons_self ..)
    cases r with
    | @tuple a o its n _ _ ho hc hd hr =>
      rw [List.mapM_cons]
      refine wpAny_bind ?_
      rw [kas_first_eq]
      refine wpAny_bind (Looks.here (show Looks M s.heap (typeOf (.ref a)) o.cls from (Looks.ld ho).andThen .now) ?_)
      rw [hc, if_neg (by first | decide | simp)]
      refine wpAny_bind (listItems_at ho hd (wpAny_pure ?_))
      refine wpAny_bind (firsts_any vs ds (Q := fun bs s' => wpAny M A (pure (its[0]? :: bs)) Q E s') e2 (fun d hd => ht d (List.mem_cons_of_mem _ hd)) fun fs hf => wpAny_pure (h _ (.cons ?_ hf)))
      have hl := SeqAt.ReadsAll.length _ _ _ hr
      cases xs with
      | nil =>
        have : its.toList = [] := by simpa using hl
        have z : its.size = 0 := by simpa using hl
        simp [z]
      | cons x r =>
        have z : 0 < its.size := by
          have : its.toList.length = (x :: r).length := hl
          simp at this
          omega
        simp [z]
theorem keyKind_tup0 {vs : List Value} {ds : List PyData} {Q : SortKind → Shared → Prop} (h2 : 2 ≤ vs.length) (e : EachIs (fun v d => ∃ as, Reads s.heap v d as) vs ds) (ht : ∀ d ∈ ds, ∃ xs, d = .tuple xs) (h0 : PyData.tuple [] ∈ ds)
    (h : Q (kind0 ds) s) : wpAny M A (keyKind' vs.toArray) Q E s := by
  rw [keyKind'_eq, List.mapM_toArray, map_eq_pure_bind]
  refine wpAny_bind (wpAny_bind (firsts_any vs ds e ht fun fs hf => wpAny_pure ?_))
  have hn : ¬ (fs.toArray.all fun x => x.isSome) = true := by
    intro hall
    rw [List.all_toArray, List.all_eq_true] at hall
    have : ∀ {fs : List (Option Value)} {ds : List PyData}, EachIs (fun (o : Option Value) d => o.isSome = (match d with
      | .tuple (_ :: _) => true
      | _ => false)) fs ds → PyData.tuple [] ∈ ds → ∃ o ∈ fs, o.isSome = false := by
      intro fs ds hf hm
      induction hf with
      | nil => simp at hm
      | @cons o d fs' ds' q _ ih =>
        rcases List.mem_cons.mp hm with e | hm
        · subst e
          exact ⟨o, List.mem_cons_self .., q⟩
        · obtain ⟨o', ho, hs⟩ := ih hm
          exact ⟨o', List.mem_cons_of_mem _ ho, hs⟩
    obtain ⟨o, ho, hs⟩ := this hf h0
    rw [hall o ho] at hs
    cases hs
  rw [if_neg hn]
  cases hf with
  | nil => simp at h0
  | @cons o d fs' ds' q hf' =>
    obtain ⟨xs, rfl⟩ := ht d (List.mem_cons_self ..)
    have hg : ((o :: fs').toArray[0]?.bind id) = o := by simp
    rw [hg]
    cases xs with
    | cons x r =>
      have q' : o.isSome = true := q
      rw [q', if_pos rfl]
      exact wpAny_pure h
    | nil =>
      have q' : o.isSome = false := q
      rw [q', if_neg (by simp)]
      rw [oneTypeOnly'_eq, List.mapM_toArray, map_eq_pure_bind]
      have hT : ∀ v ∈ vs, Looks M s.heap (typeOf v) (.type "tuple") := fun v hv => by
        obtain ⟨d, hd, as, r⟩ := e.left v hv
        obtain ⟨xs, rfl⟩ := ht d hd
        exact looks_reads r
      refine wpAny_bind (wpAny_bind (wpAny_bind (kas_mapM (r := .type "tuple") _ (fun v hv Q' hq => (hT v hv).here hq) (wpAny_pure ?_))))
      have hall : ((List.map (fun _ => Value.type "tuple") vs).toArray.all fun x => x == Value.type "tuple") = true := by
        simp only [List.all_toArray, List.all_map, List.all_eq_true]
        intro _ _
        rfl
      have h0' : (List.map (fun _ => Value.type "tuple") vs).toArray[0]? = some (.type "tuple") := by
        cases vs with
        | nil => simp at h2
        | cons v vs => simp
      rw [h0']
      simp only [hall, if_true]
      exact wpAny_pure (wpAny_pure h)
theorem SortsAt.tup0 {vs : List Value} {ds : List PyData} (e : EachIs (fun v d => ∃ as, Reads s.heap v d as) vs ds) (hal : AllAlike ds) (ht : ∀ d ∈ ds, ∃ xs, d = .tuple xs) (h0 : PyData.tuple [] ∈ ds) (hu : ∀ d, d ∈ ds → A.units + d.depth < cLine) : SortsAt prog w A s (dataKind s.heap ds) vs := by
  have room : ∀ {d d' : PyData}, d ∈ ds → A.units + min d.depth d'.depth < cLine := fun {d d'} hd => Nat.lt_of_le_of_lt (Nat.add_le_add_left (Nat.min_le_left _ _) _) (hu d hd)
  refine ⟨fun v hv => ?_, kind0 ds, ?_, fun h2 E Q hq => keyKind_tup0 h2 e ht h0 hq⟩
  · obtain ⟨d, hd, as, r⟩ := e.left v hv
    exact ⟨_, dataKind_some hal hd r⟩
  · have gen : ∀ f : Bool, ∀ (E : Value → Shared → Prop) (x y : Value) (a b : List (Int ⊕ List Nat)) (Q : Bool → Shared → Prop), (dataKind s.heap ds).keyOf x = some a → (dataKind s.heap ds).keyOf y = some b → Q (PyProof.Rows.lexLt itemOrd a b) s → wpAny (model prog w) A (oneLt' f x y) Q E s := by
      intro f E x y a b Q ha hb hq
      obtain ⟨d, as, hd, ra, rfl⟩ := dataKind_inv ha
      obtain ⟨d', as', hd', rb, rfl⟩ := dataKind_inv hb
      have hdd := hal d hd d' hd'
      have hroom := room (d' := d') hd
      obtain ⟨x1, rfl⟩ := ht d hd
      obtain ⟨x2, rfl⟩ := ht d' hd'
      cases f with
      | true => exact oneLt_tup ra rb (by simpa [alike] using hdd) hroom hq
      | false => exact oneLt_alike (fun z => nomatch z) ra rb hdd (fun z => nomatch z) hroom hq
    unfold kind0
    split
    · intro E x y a b Q ha hb hq
      exact gen false E x y a b Q ha hb hq
    · intro E x y a b Q ha hb hq
      exact gen true E x y a b Q ha hb hq
/-- sorted(xs): alike data of any kind, or tuples -/
theorem sorted_dataA {β : Type} {R : Value → β → Prop} {enc : β → PyData} {vs : List Value} {bs : List β} {l : Addr} {Q : Value → Shared → Prop} (hl : s.heap.IsList l vs.toArray) (e : EachIs R vs bs) (er : EachIs (fun v b => ∃ as, Reads s.heap v (enc b) as) vs bs) (hal : AllAlike (bs.map enc)) (hn : ∀ b ∈ bs, enc b ≠ .none) (hL : bs.length ≤ sizeLine)
    (hu : ∀ b, b ∈ bs → A.units + 2 + (enc b).depth < cLine) (h : ∀ out, out.length = bs.length → EachIs R out (bs.mergeSort (dataLe false enc)) → Q (.ref (s.heap.objs.size + 1)) { s with heap := sortedAll s.heap vs (List.toArray out) }) :
    wpAny (model prog w) A (call (.builtin "sorted") [.ref l]) Q E s := by
  by_cases h0 : PyData.tuple [] ∈ bs.map enc
  · have ht : ∀ d ∈ bs.map enc, ∃ xs, d = .tuple xs := fun d hd => by
      have := hal _ h0 d hd
      cases d <;> simp [alike] at this
      exact ⟨_, rfl⟩
    have er' : EachIs (fun v b => ∃ as, Reads (sortingHeap (copyHeap s.heap vs) (s.heap.objs.size + 1) vs) v (enc b) as) vs bs := er.mono fun _ _ ⟨as, r⟩ => ⟨as, PyProof.Rows.Reads.keeps (fun _ _ => sorting_copy_old) r⟩
    exact sorted_vals hl (SortsAt.tup0 (s := { s with heap := sortingHeap (copyHeap s.heap vs) (s.heap.objs.size + 1) vs }) (each_map (R := fun v d => ∃ as, Reads (sortingHeap (copyHeap s.heap vs) (s.heap.objs.size + 1) vs) v d as) enc er') hal ht h0 (bound_map hu)) (by rw [e.length]; exact hL)
      (h _ (by rw [sortVals_length false rfl]; exact e.length) (sortVals_data false e er' hal))
  · refine sorted_data hl e er hal ?_ hL hu h
    cases bs with
    | nil => exact .inl fun d hd => by simp at hd
    | cons b bs =>
      by_cases q : ∃ xs, enc b = .tuple xs
      · obtain ⟨xs, q⟩ := q
        refine .inl fun d hd => ?_
        have al := hal (enc b) (List.mem_cons_self ..) d hd
        rw [q] at al
        cases d with
        | tuple ys =>
          cases ys with
          | nil => exact absurd hd h0
          | cons y r => exact ⟨y, r, rfl⟩
        | _ => simp [alike] at al
      · refine .inr fun d hd => ⟨fun e0 => ?_, fun ys e0 => ?_⟩
        · obtain ⟨b', hb', e1⟩ := List.mem_map.mp hd
          exact hn b' hb' (e1.trans e0)
        · have al := hal d hd (enc b) (List.mem_cons_self ..)
          rw [e0] at al
          cases eb : enc b with
          | tuple zs => exact q ⟨zs, eb⟩
          | _ => rw [eb] at al; simp [alike] at al
end
end PyM
namespace PyM
open PySem PySem.Spec PyProof.Rows L2

/-! ### the store grows, an object changes -/
section
variable {c : Cfg} {g : Gh} {st : Sto} {H : Hp} {E : EH} {Q : VK} {N : Nat}
def Gh.push (g : Gh) (N : Nat) (p : Addr) : Gh := ⟨fun n => if n = N then p else g.lm n, g.F⟩
theorem Wd.lt_ne (w : Wd c g st H) {p : Addr} (hp : H p = none) {n : Nat} (hn : n < st.length) : g.lm n ≠ p := fun e => by
  obtain ⟨o, q⟩ := w.has n hn
  rw [e, hp] at q
  cases q
theorem Ext.push {p : Addr} {o : HO} (hp : H p = none) (w : Wd c g st H) : Ext g st.length H (g.push st.length p) (st.length + 1) (upd H p o) where
  le := Nat.le_succ _
  lm := fun n hn => if_neg (Nat.ne_of_lt hn)
  new := fun n a b => by
    have : n = st.length := by omega
    subst this
    show H (if st.length = st.length then p else g.lm st.length) = none
    rw [if_pos rfl]
    exact hp
  sub := fun _ h => h
  fr := fun a u e _ => .inl (by rw [upd_ne (ne_of_none e hp)]; exact e)
  frF := fun a u e _ => .inl (by rw [upd_ne (ne_of_none e hp)]; exact e)
  back := fun _ h => .inl h
theorem RepO.mono {g1 : Gh} {N1 : Nat} {H1 : Hp} (x : Ext g N H g1 N1 H1) {a : Addr} (ka : ∀ o, H a = some o → H1 a = some o) {ob : Ob} (h : RepO c g N H a ob) : RepO c g1 N1 H1 a ob := by
  cases ob with
  | lst ds => obtain ⟨vs, h1, z, r⟩ := h; exact ⟨vs, ka _ h1, z, r.mono x⟩
  | dct kvs =>
    obtain ⟨es, ⟨z, nd, h1⟩, r⟩ := h
    refine ⟨es, ⟨z, nd, ?_⟩, r.mono x⟩
    rcases h1 with ⟨q, e⟩ | ⟨ne, q, e⟩
    · exact .inl ⟨q, ka _ e⟩
    · exact .inr ⟨ne, q, ka _ e⟩
  | ins C fs => obtain ⟨dx, vs, ⟨A, h0, h1⟩, r⟩ := h; exact ⟨dx, vs, ⟨A, h0, ka _ h1⟩, r.mono x⟩
  | dead => trivial
theorem Wd.push (w : Wd c g st H) {p : Addr} {o : HO} {ob : Ob} (hp : H p = none) (ho : RepO c (g.push st.length p) (st.length + 1) (upd H p o) p ob) : Wd c (g.push st.length p) (st ++ [ob]) (upd H p o) := by
  have x := Ext.push (o := o) hp w
  have lo : ∀ n, n < st.length → (g.push st.length p).lm n = g.lm n := fun n hn => if_neg (Nat.ne_of_lt hn)
  have ln : (g.push st.length p).lm st.length = p := if_pos rfl
  have hl : (st ++ [ob]).length = st.length + 1 := by simp
  refine ⟨fun n q e => ?_, fun m n hm hn e => ?_, fun n q e d => ?_, fun n hn => ?_, fun a f => ?_⟩
  · rw [hl]
    by_cases hn : n < st.length
    · rw [List.getElem?_append_left hn] at e
      rw [lo n hn]
      exact (w.obs n q e).mono x fun u z => by rw [upd_ne (ne_of_none z hp)]; exact z
    · rw [List.getElem?_append_right (by omega)] at e
      have : n = st.length := by
        have := (List.getElem?_eq_some_iff.mp e).1
        simp at this
        omega
      subst this
      simp at e
      subst e
      rw [ln]
      exact ho
  · rw [hl] at hm hn
    by_cases h1 : m < st.length <;> by_cases h2 : n < st.length
    · rw [lo m h1, lo n h2] at e
      exact w.inj m n h1 h2 e
    · have : n = st.length := by omega
      subst this
      rw [lo m h1, ln] at e
      exact absurd e (w.lt_ne hp h1)
    · have : m = st.length := by omega
      subst this
      rw [lo n h2, ln] at e
      exact absurd e.symm (w.lt_ne hp h2)
    · omega
  · by_cases hn : n < st.length
    · rw [List.getElem?_append_left hn] at e
      rw [lo n hn]
      exact w.off n q e d
    · have hb := (List.getElem?_eq_some_iff.mp e).1
      have : n = st.length := by simp at hb; omega
      subst this
      rw [ln]
      intro f
      obtain ⟨u, z⟩ := w.hasF p f
      rw [hp] at z
      cases z
  · rw [hl] at hn
    by_cases h1 : n < st.length
    · rw [lo n h1]
      obtain ⟨u, z⟩ := w.has n h1
      exact ⟨u, by rw [upd_ne (ne_of_none z hp)]; exact z⟩
    · have : n = st.length := by omega
      subst this
      rw [ln]
      exact ⟨o, upd_same⟩
  · obtain ⟨u, z⟩ := w.hasF a f
    exact ⟨u, by rw [upd_ne (ne_of_none z hp)]; exact z⟩
theorem Ext.set {n : Nat} {o : HO} (w : Wd c g st H) {ob0 : Ob} (hn : st[n]? = some ob0) (hd : ob0 ≠ .dead) : Ext g st.length H g st.length (upd H (g.lm n) o) where
  le := Nat.le_refl _
  lm := fun _ _ => rfl
  new := fun m a b => absurd (Nat.lt_of_lt_of_le b a) (Nat.lt_irrefl _)
  sub := fun _ h => h
  fr := fun a u e q => .inl (by rw [upd_ne (fun z => q n (List.getElem?_eq_some_iff.mp hn).1 z.symm)]; exact e)
  frF := fun a u e f => by
    have hne : a ≠ g.lm n := fun z => w.off n ob0 hn hd (by rw [← z]; exact f)
    rw [upd_ne hne]
    exact .inl e
  back := fun _ h => .inl h
theorem Wd.set (w : Wd c g st H) {n : Nat} {o : HO} {ob ob0 : Ob} (hn : st[n]? = some ob0) (hd : ob0 ≠ .dead) (ho : RepO c g st.length (upd H (g.lm n) o) (g.lm n) ob) : Wd c g (st.set n ob) (upd H (g.lm n) o) := by
  have x := Ext.set (o := o) w hn hd
  have hlt := (List.getElem?_eq_some_iff.mp hn).1
  have hl : (st.set n ob).length = st.length := by simp
  refine ⟨fun m q e => ?_, fun a b ha hb e => ?_, fun m q e d => ?_, fun m hm => ?_, fun a f => ?_⟩
  · rw [hl]
    by_cases h : n = m
    · subst h
      rw [List.getElem?_set_self hlt] at e
      cases e
      exact ho
    · rw [List.getElem?_set_ne h] at e
      have hm := (List.getElem?_eq_some_iff.mp e).1
      exact (w.obs m q e).mono x fun u z => by rw [upd_ne (fun y => h (w.inj m n hm hlt y).symm)]; exact z
  · rw [hl] at ha hb
    exact w.inj a b ha hb e
  · by_cases h : n = m
    · subst h
      exact w.off n ob0 hn hd
    · rw [List.getElem?_set_ne h] at e
      exact w.off m q e d
  · rw [hl] at hm
    by_cases h : g.lm m = g.lm n
    · exact ⟨o, by rw [h, upd_same]⟩
    · obtain ⟨u, z⟩ := w.has m hm
      exact ⟨u, by rw [upd_ne h]; exact z⟩
  · by_cases h : a = g.lm n
    · exact ⟨o, by rw [h, upd_same]⟩
    · obtain ⟨u, z⟩ := w.hasF a f
      exact ⟨u, by rw [upd_ne h]; exact z⟩
/-- an object is frozen -/
theorem Ext.frz {n : Nat} (hn : n < st.length) : Ext g st.length H ⟨g.lm, fun a => g.F a ∨ a = g.lm n⟩ st.length H where
  le := Nat.le_refl _
  lm := fun _ _ => rfl
  new := fun m a b => absurd (Nat.lt_of_lt_of_le b a) (Nat.lt_irrefl _)
  sub := fun _ h => .inl h
  fr := fun a u e _ => .inl e
  frF := fun a u e _ => .inl e
  back := fun a h => h.elim .inl fun e => .inr (.inr ⟨n, hn, e.symm⟩)
theorem Wd.frz (w : Wd c g st H) {n : Nat} (hn : n < st.length) : Wd c ⟨g.lm, fun a => g.F a ∨ a = g.lm n⟩ (st.set n .dead) H := by
  have x : Ext g st.length H _ st.length H := Ext.frz hn
  have hl : (st.set n Ob.dead).length = st.length := by simp
  refine ⟨fun m q e => ?_, fun a b ha hb e => ?_, fun m q e d => ?_, fun m hm => ?_, fun a f => ?_⟩
  · rw [hl]
    by_cases h : n = m
    · subst h
      rw [List.getElem?_set_self hn] at e
      cases e
      trivial
    · rw [List.getElem?_set_ne h] at e
      exact (w.obs m q e).mono x fun u z => z
  · rw [hl] at ha hb
    exact w.inj a b ha hb e
  · by_cases h : n = m
    · subst h
      rw [List.getElem?_set_self hn] at e
      cases e
      exact absurd rfl d
    · rw [List.getElem?_set_ne h] at e
      have hm := (List.getElem?_eq_some_iff.mp e).1
      rintro (f | f)
      · exact w.off m q e d f
      · exact h (w.inj m n hm hn f).symm
  · rw [hl] at hm
    exact w.has m hm
  · rcases f with f | f
    · exact w.hasF a f
    · rw [f]
      exact w.has n hn
end

/-! ### lists of values -/
section
variable {c : Cfg} {g : Gh} {N : Nat} {H : Hp}
theorem RepDs.len {ds : List D} {vs : List V} (r : RepDs c g N H ds vs) : vs.length = ds.length := by
  induction r with
  | nil => rfl
  | cons _ _ ih => simp [ih]
theorem RepDs.get {ds : List D} {vs : List V} (r : RepDs c g N H ds vs) {i : Nat} {d : D} (e : ds[i]? = some d) : ∃ v, vs[i]? = some v ∧ RepD c g N H d v := by
  induction r generalizing i with
  | nil => simp at e
  | @cons d' ds' v' vs' h _ ih =>
    cases i with
    | zero => simp at e; subst e; exact ⟨v', by simp, h⟩
    | succ i => simpa using ih (by simpa using e)
theorem RepDs.app {ds ds' : List D} {vs vs' : List V} (r : RepDs c g N H ds vs) (r' : RepDs c g N H ds' vs') : RepDs c g N H (ds ++ ds') (vs ++ vs') := by
  induction r with
  | nil => exact r'
  | cons h _ ih => exact .cons h ih
theorem RepDs.set {ds : List D} {vs : List V} (r : RepDs c g N H ds vs) (i : Nat) {d : D} {v : V} (h : RepD c g N H d v) : RepDs c g N H (ds.set i d) (vs.set i v) := by
  induction r generalizing i with
  | nil => exact .nil
  | cons h' r' ih =>
    cases i with
    | zero => exact .cons h r'
    | succ i => exact .cons h' (ih i)
theorem RepDs.of : ∀ {xs : List P} {vs : List V}, RepPs c g.F H xs vs → RepDs c g N H (xs.map .p) vs
  | [], vs, h => by simp [RepPs] at h; subst h; exact .nil
  | x :: xs, vs, h => by
    rw [RepPs] at h
    obtain ⟨v, r, rfl, h1, h2⟩ := h
    exact .cons h1 (RepDs.of h2)
theorem pureL_rep : ∀ {ds : List D} {ps : List P} {vs : List V}, pureL ds = some ps → RepDs c g N H ds vs → RepPs c g.F H ps vs
  | [], ps, vs, e, r => by
    simp [pureL] at e
    subst e
    cases r
    simp [RepPs]
  | .p x :: ds, ps, vs, e, r => by
    cases r with
    | cons h r' =>
    rw [pureL] at e
    cases q : pureL ds with
    | none => rw [q] at e; cases e
    | some xs =>
      rw [q] at e
      cases e
      rw [RepPs]
      exact ⟨_, _, rfl, h, pureL_rep q r'⟩
  | .loc n :: ds, ps, vs, e, r => by simp [pureL] at e
theorem pureK_rep : ∀ {ds : List (P × D)} {ps : List (P × P)} {vs : List Ent}, pureK ds = some ps → RepDk c g N H ds vs → RepKs c g.F H ps vs
  | [], ps, vs, e, r => by
    simp [pureK] at e
    subst e
    cases r
    simp [RepKs]
  | (k, .p x) :: ds, ps, vs, e, r => by
    cases r with
    | cons h0 h r' =>
    rw [pureK] at e
    cases q : pureK ds with
    | none => rw [q] at e; cases e
    | some xs =>
      rw [q] at e
      cases e
      rw [RepKs]
      exact ⟨_, _, _, rfl, h0, h, pureK_rep q r'⟩
  | (k, .loc n) :: ds, ps, vs, e, r => by simp [pureK] at e
theorem pureF_rep : ∀ {ds : List (Str × D)} {ps : List (Str × P)} {vs : List (Str × V)}, pureF ds = some ps → RepDf c g N H ds vs → RepFs c g.F H ps vs
  | [], ps, vs, e, r => by
    simp [pureF] at e
    subst e
    cases r
    simp [RepFs]
  | (k, .p x) :: ds, ps, vs, e, r => by
    cases r with
    | cons h r' =>
    rw [pureF] at e
    cases q : pureF ds with
    | none => rw [q] at e; cases e
    | some xs =>
      rw [q] at e
      cases e
      rw [RepFs]
      exact ⟨_, _, rfl, h, pureF_rep q r'⟩
  | (k, .loc n) :: ds, ps, vs, e, r => by simp [pureF] at e
theorem RepKs.keys : ∀ {ks : List (P × P)} {es : List Ent}, RepKs c g.F H ks es → KeysE c g.F H es
  | [], es, h => by simp [RepKs] at h; subst h; intro e he; simp at he
  | (k, x) :: r, es, h => by
    rw [RepKs] at h
    obtain ⟨kv, v, es', rfl, h0, h1, h2⟩ := h
    intro e he
    rcases List.mem_cons.mp he with rfl | he
    · exact h0
    · exact RepKs.keys h2 e he
theorem RepKs.dk : ∀ {ks : List (P × P)} {es : List Ent}, RepKs c g.F H ks es → RepDk c g N H (ks.map fun q => (q.1, .p q.2)) es
  | [], es, h => by simp [RepKs] at h; subst h; exact .nil
  | (k, x) :: r, es, h => by
    rw [RepKs] at h
    obtain ⟨kv, v, es', rfl, h0, h1, h2⟩ := h
    exact .cons h0 h1 (RepKs.dk h2)
end

/-! ### what is read -/
section
variable {c : Cfg} {g : Gh} {st : Sto} {H : Hp} {d : D} {v : V}
theorem rd_lst (w : Wd c g st H) (r : RepD c g st.length H d v) {xs : List P} (h : rd st d = some (.lst xs)) : ∃ a vs, v = .ref a ∧ H a = some (.lst vs) ∧ vs.length ≤ sizeLine ∧ RepPs c g.F H xs vs := by
  cases d with
  | p x =>
    simp only [rd, Option.some.injEq] at h
    subst h
    have r' : RepP c g.F H (.lst xs) v := r
    rw [RepP] at r'
    obtain ⟨a, vs, e, ⟨_, f⟩, z, q⟩ := r'
    exact ⟨a, vs, e, f, z, q⟩
  | loc n =>
    obtain ⟨hn, rfl⟩ := r
    simp only [rd] at h
    cases e : st[n]? with
    | none => rw [e] at h; cases h
    | some o =>
      rw [e] at h
      cases o with
      | lst ds =>
        simp only [Ob.view] at h
        cases q : pureL ds with
        | none => rw [q] at h; cases h
        | some ps =>
          rw [q] at h
          simp at h
          subst h
          obtain ⟨vs, h1, z, rr⟩ := w.obs n _ e
          exact ⟨g.lm n, vs, rfl, h1, z, pureL_rep q rr⟩
      | dct kvs => simp only [Ob.view] at h; cases q : pureK kvs <;> rw [q] at h <;> simp at h
      | ins C fs => simp only [Ob.view] at h; cases q : pureF fs <;> rw [q] at h <;> simp at h
      | dead => simp [Ob.view] at h
theorem rd_dct (w : Wd c g st H) (r : RepD c g st.length H d v) {xs : List (P × P)} (h : rd st d = some (.dct xs)) : ∃ a es, v = .ref a ∧ DctAt c H a es ∧ RepKs c g.F H xs es := by
  cases d with
  | p x =>
    simp only [rd, Option.some.injEq] at h
    subst h
    have r' : RepP c g.F H (.dct xs) v := r
    rw [RepP] at r'
    obtain ⟨a, vs, e, ⟨_, f⟩, q⟩ := r'
    exact ⟨a, vs, e, f, q⟩
  | loc n =>
    obtain ⟨hn, rfl⟩ := r
    simp only [rd] at h
    cases e : st[n]? with
    | none => rw [e] at h; cases h
    | some o =>
      rw [e] at h
      cases o with
      | dct ds =>
        simp only [Ob.view] at h
        cases q : pureK ds with
        | none => rw [q] at h; cases h
        | some ps =>
          rw [q] at h
          simp at h
          subst h
          obtain ⟨vs, h1, rr⟩ := w.obs n _ e
          exact ⟨g.lm n, vs, rfl, h1.r, pureK_rep q rr⟩
      | lst kvs => simp only [Ob.view] at h; cases q : pureL kvs <;> rw [q] at h <;> simp at h
      | ins C fs => simp only [Ob.view] at h; cases q : pureF fs <;> rw [q] at h <;> simp at h
      | dead => simp [Ob.view] at h
/-- what is neither a list nor a dict nor an object is no object of the store -/
theorem rd_p {x : P} (h : rd st d = some x) (hx : (match x with
    | .lst _ => false
    | .dct _ => false
    | .ins _ _ => false
    | _ => true) = true) : d = .p x := by
  cases d with
  | p y => simp only [rd, Option.some.injEq] at h; rw [h]
  | loc n =>
    simp only [rd] at h
    cases e : st[n]? with
    | none => rw [e] at h; cases h
    | some o =>
      rw [e] at h
      cases o with
      | lst ds => simp only [Ob.view] at h; cases q : pureL ds <;> rw [q] at h <;> simp at h; subst h; simp at hx
      | dct ds => simp only [Ob.view] at h; cases q : pureK ds <;> rw [q] at h <;> simp at h; subst h; simp at hx
      | ins C ds => simp only [Ob.view] at h; cases q : pureF ds <;> rw [q] at h <;> simp at h; subst h; simp at hx
      | dead => simp [Ob.view] at h
theorem rd_tup (r : RepD c g st.length H d v) {xs : List P} (h : rd st d = some (.tup xs)) : ∃ a vs, v = .ref a ∧ SqT c.K H a vs ∧ vs.length ≤ sizeLine ∧ RepPs c g.F H xs vs := by
  have e := rd_p h rfl
  subst e
  have r' : RepP c g.F H (.tup xs) v := r
  rw [RepP] at r'
  obtain ⟨a, vs, e, t, z, q⟩ := r'
  exact ⟨a, vs, e, t.sq, z, q⟩
/-- what is read, with the store's objects taken as they stand -/
abbrev Gh.top (g : Gh) (N : Nat) : Addr → Prop := fun a => g.F a ∨ ∃ n, n < N ∧ g.lm n = a
theorem top_mono : Mono g.F (g.top st.length) H H := ⟨fun _ h => .inl h, fun _ _ _ h => .inl h⟩
theorem rd_rep (w : Wd c g st H) (r : RepD c g st.length H d v) {x : P} (h : rd st d = some x) : RepP c (g.top st.length) H x v := by
  cases d with
  | p y =>
    simp only [rd, Option.some.injEq] at h
    subst h
    exact RepP.mono top_mono _ _ r
  | loc n =>
    have r0 := r
    obtain ⟨hn, rfl⟩ := r
    have h0 := h
    simp only [rd] at h
    cases e : st[n]? with
    | none => rw [e] at h; cases h
    | some o =>
      rw [e] at h
      cases o with
      | lst ds =>
        simp only [Ob.view] at h
        cases q : pureL ds with
        | none => rw [q] at h; cases h
        | some ps =>
          rw [q] at h
          simp at h
          subst h
          obtain ⟨vs, h1, z, rr⟩ := w.obs n _ e
          rw [RepP]
          exact ⟨g.lm n, vs, rfl, ⟨.inr ⟨n, hn, rfl⟩, h1⟩, z, RepPs.mono top_mono _ _ (pureL_rep q rr)⟩
      | dct ds =>
        simp only [Ob.view] at h
        cases q : pureK ds with
        | none => rw [q] at h; cases h
        | some ps =>
          rw [q] at h
          simp at h
          subst h
          obtain ⟨vs, h1, rr⟩ := w.obs n _ e
          rw [RepP]
          exact ⟨g.lm n, vs, rfl, ⟨.inr ⟨n, hn, rfl⟩, h1.r⟩, RepKs.mono top_mono _ _ (pureK_rep q rr)⟩
      | ins C ds =>
        simp only [Ob.view] at h
        cases q : pureF ds with
        | none => rw [q] at h; cases h
        | some ps =>
          rw [q] at h
          simp at h
          subst h
          obtain ⟨dx, vs, h1, rr⟩ := w.obs n _ e
          rw [RepP]
          exact ⟨g.lm n, dx, vs, rfl, ⟨.inr ⟨n, hn, rfl⟩, h1⟩, RepFs.mono top_mono _ _ (pureF_rep q rr)⟩
      | dead => simp [Ob.view] at h
end

/-! ### new lists, tuples, dicts -/
section
variable {c : Cfg} {g : Gh} {st : Sto} {H : Hp} {E : EH} {Q : VK}
theorem mkL_end {l : Bool} {ds : List D} {vs : List V} (h : EndR c g st H E (RepD c) (mkL l ds st) Q) (w : Wd c g st H) (r : RepDs c g st.length H ds vs) (z : vs.length ≤ sizeLine) (p : Addr) (n : H p = none) : Q (.ref p) (upd H p (.lst vs)) := by
  cases l with
  | false =>
    simp only [mkL] at h
    cases q : pureL ds with
    | none => rw [q] at h; exact h.elim
    | some ps =>
      rw [q] at h
      exact (h.ans w).lst (pureL_rep q r) z p n
  | true =>
    simp only [mkL] at h
    have x := Ext.push (o := .lst vs) n w
    refine h (g.push st.length p) _ _ (by simpa using x) ⟨by simp, ?_⟩ (w.push n ⟨vs, upd_same, z, r.mono x⟩)
    show V.ref p = V.ref (if st.length = st.length then p else g.lm st.length)
    rw [if_pos rfl]
theorem mkD_end {l : Bool} {ds : List (P × D)} {es : List Ent} {o : HO} (h : EndR c g st H E (RepD c) (mkD l ds st) Q) (w : Wd c g st H) (r : RepDk c g st.length H ds es) (p : Addr) (n : H p = none) (hd : DctW c (upd H p o) p es) : Q (.ref p) (upd H p o) := by
  cases l with
  | false =>
    simp only [mkD] at h
    cases q : pureK ds with
    | none => rw [q] at h; exact h.elim
    | some ps =>
      rw [q] at h
      refine h.ans w (fun b => g.F b ∨ b = p) _ _ (PExt.one n) ?_
      rw [RepP]
      exact ⟨p, es, rfl, ⟨.inr rfl, hd.r⟩, RepKs.mono (PExt.one n).mono _ _ (pureK_rep q r)⟩
  | true =>
    simp only [mkD] at h
    have x := Ext.push (o := o) n w
    refine h (g.push st.length p) _ _ (by simpa using x) ⟨by simp, ?_⟩ (w.push n ⟨es, hd, r.mono x⟩)
    show V.ref p = V.ref (if st.length = st.length then p else g.lm st.length)
    rw [if_pos rfl]
theorem mkT_end {ds : List D} {vs : List V} (h : EndR c g st H E (RepD c) (mkT ds st) Q) (w : Wd c g st H) (r : RepDs c g st.length H ds vs) (z : vs.length ≤ sizeLine) (p : Addr) (n : H p = none) : Q (.ref p) (upd H p (.tup vs)) := by
  simp only [mkT] at h
  cases q : pureL ds with
  | none => rw [q] at h; exact h.elim
  | some ps =>
    rw [q] at h
    exact (h.ans w).tup (pureL_rep q r) z p n
end
end PyM
namespace PyM
open PySem PySem.W PySem.Calls PyProof.Rows L2

section
variable {prog : Program} {w : World} {A : Around} {s : Shared}
theorem SortsAt.anyD {vs : List Value} {ds : List PyData} (e : EachIs (fun v d => ∃ as, Reads s.heap v d as) vs ds) (hal : AllAlike ds) (hn : ∀ d ∈ ds, d ≠ .none) (hu : ∀ d, d ∈ ds → A.units + d.depth < cLine) : SortsAt prog w A s (dataKind s.heap ds) vs := by
  by_cases h0 : PyData.tuple [] ∈ ds
  · refine SortsAt.tup0 e hal (fun d hd => ?_) h0 hu
    have := hal _ h0 d hd
    cases d <;> simp [alike] at this
    exact ⟨_, rfl⟩
  · refine SortsAt.data e hal ?_ hu
    cases ds with
    | nil => exact .inl fun d hd => by simp at hd
    | cons b bs =>
      by_cases q : ∃ xs, b = .tuple xs
      · obtain ⟨xs, q⟩ := q
        refine .inl fun d hd => ?_
        have al := hal b (List.mem_cons_self ..) d hd
        rw [q] at al
        cases d with
        | tuple ys =>
          cases ys with
          | nil => exact absurd hd h0
          | cons y r => exact ⟨y, r, rfl⟩
        | _ => simp [alike] at al
      · refine .inr fun d hd => ⟨hn d hd, fun ys e0 => ?_⟩
        have al := hal d hd b (List.mem_cons_self ..)
        rw [e0] at al
        cases b with
        | tuple zs => exact q ⟨zs, rfl⟩
        | _ => simp [alike] at al
end

/-- what an item stands for -/
abbrev RV (c : Cfg) (F : Addr → Prop) (H : Hp) (u : Value) (p : P) : Prop := ∃ x, RelV x u ∧ RepP c F H p x
section
variable {c : Cfg} {F : Addr → Prop} {H : Hp}
theorem each_rv : ∀ {ps : List P} {vs : List V} {us : List Value}, RepPs c F H ps vs → Vals vs us → EachIs (RV c F H) us ps
  | [], vs, us, r, rv => by
    simp only [RepPs] at r
    subst r
    cases rv
    exact .nil
  | p :: ps, vs, us, r, rv => by
    rw [RepPs] at r
    obtain ⟨v, r', rfl, h1, h2⟩ := r
    cases rv with
    | cons a b => exact .cons ⟨v, a, h1⟩ (each_rv h2 b)
theorem rv_each : ∀ {ps : List P} {us : List Value}, EachIs (RV c F H) us ps → ∃ vs, RepPs c F H ps vs ∧ Vals vs us
  | _, _, .nil => ⟨[], by simp [RepPs], .nil⟩
  | _, _, .cons ⟨x, a, b⟩ t => by
    obtain ⟨vs, h1, h2⟩ := rv_each t
    exact ⟨x :: vs, by rw [RepPs]; exact ⟨x, vs, rfl, b, h1⟩, .cons a h2⟩
theorem ltok_parts {p q : P} (h : p.ltok q = true) : p.eqok = true ∧ q.eqok = true ∧ alike p.toPD q.toPD = true ∧ p.toPD ≠ .none := by
  unfold P.ltok at h
  simp only [Bool.and_eq_true] at h
  refine ⟨h.1.1.1, h.1.1.2, h.1.2, fun e => ?_⟩
  have h2 := h.2
  cases p <;> simp [P.toPD] at e
  simp at h2
theorem sortOk_at {ps : List P} (h : sortOk ps = true) {p q : P} (hp : p ∈ ps) (hq : q ∈ ps) : p.ltok q = true := by
  unfold sortOk at h
  exact List.all_eq_true.mp (List.all_eq_true.mp h p hp) q hq
theorem sort_eq (ps : List P) : ps.mergeSort (dataLe false P.toPD) = sorted ps := by
  unfold sorted
  have : dataLe false P.toPD = P.le := by
    rw [dataLe_eq]
    rfl
  rw [this]
theorem sorted_len (ps : List P) : (sorted ps).length = ps.length := by unfold sorted; simp
end

section
variable {X : Cx} {ca : Str → Option Addr}
/-- what sorts -/
theorem sort_facts {pins : List (Addr × Obj)} {σ : PSt} {H : Hp} {s : Shared} {F : Addr → Prop} {ps : List P} {vs : List V} {us : List Value} (I : Inv X pins σ H s) (r : RepPs (cfgOf X ca) F H ps vs) (rv : Vals vs us) (ok : sortOk ps = true) :
    EachIs (RV (cfgOf X ca) F H) us ps ∧ EachIs (fun v p => ∃ as, Reads s.heap v (P.toPD p) as) us ps ∧ AllAlike (ps.map P.toPD) ∧ (∀ d ∈ ps.map P.toPD, d ≠ .none) ∧ (∀ p ∈ ps, p.toPD.depth ≤ 60) := by
  have e := each_rv r rv
  refine ⟨e, ?_, fun d hd d' hd' => ?_, fun d hd => ?_, fun p hp => ?_⟩
  · refine (each_mem e).mono fun v p ⟨⟨x, a, b⟩, hp⟩ => ?_
    obtain ⟨h1, _⟩ := eqok_dp (ltok_parts (sortOk_at ok hp hp)).1 b
    exact Dp.reads I _ _ _ h1 a
  · obtain ⟨p, hp, rfl⟩ := List.mem_map.mp hd
    obtain ⟨q, hq, rfl⟩ := List.mem_map.mp hd'
    exact (ltok_parts (sortOk_at ok hp hq)).2.2.1
  · obtain ⟨p, hp, rfl⟩ := List.mem_map.mp hd
    exact (ltok_parts (sortOk_at ok hp hp)).2.2.2
  · have h := (ltok_parts (sortOk_at ok hp hp)).1
    unfold P.eqok at h
    rw [Bool.and_eq_true] at h
    rw [P.depth_pd p h.1]
    exact of_decide_eq_true h.2
def rSortA (c : Cfg) : List V → Hp → VK → Prop := fun vs H Q => ∃ a F ps, vs = [.ref a] ∧ sortOk ps = true ∧ ((∃ xs, SqL c.K H a xs ∧ RepPs c F H ps xs) ∨ (∃ es, DctAt c H a es ∧ KeysE c F H es ∧ ps = es.map (·.1))) ∧
  ∀ ys p, RepPs c F H (sorted ps) ys → ys.length ≤ sizeLine → H p = none → Q (.ref p) (upd H p (.lst ys))
/-- a dict's entries, in their order -/
theorem d_raw {pins : List (Addr × Obj)} {σ : PSt} {H : Hp} {s : Shared} {F : Addr → Prop} {a : Addr} {es : List Ent} (I : Inv X pins σ H s) (hd : DctAt (cfgOf X ca) H a es) (ke : KeysE (cfgOf X ca) F H es) : ∃ ents ep, s.heap.DictRaw a ents ep ∧ ents.size = es.length ∧ ∀ (i : Nat) (e : Ent) (hi : i < ents.size), es[i]? = some e → RelV e.2.1 ents[i].key := by
  obtain ⟨_, _, ⟨hs, e⟩ | ⟨ne, ht, e⟩⟩ := id hd
  · obtain ⟨_, _, vs, rel, dd⟩ := dk_rd I.hok e
    obtain ⟨ents, ep, h1, h2, h3⟩ := dd.raw
    have hl : vs.length = es.length := by have := rel.length; simpa using this.symm
    refine ⟨ents, ep, h1, by omega, fun i e hi he => ?_⟩
    have hi' : i < vs.length := by omega
    have e1 : (vs.map (·.1))[i]? = some e.1.kk := by
      rw [← rel.keys, List.map_map, List.getElem?_map, he]
      rfl
    rw [List.getElem?_map, List.getElem?_eq_getElem hi'] at e1
    have e2 : vs[i].1 = e.1.kk := by simpa using e1
    obtain ⟨h4, _⟩ := h3 i hi vs[i].1 vs[i].2 (by rw [List.getElem?_eq_getElem hi'])
    rw [e2] at h4
    have mem := List.mem_of_getElem? he
    rw [(ke e mem).sca (hs e mem)]
    rcases keyIs_shape h4 with ⟨j, t, q1, q2⟩ | ⟨x, t, q1, q2⟩
    · rw [q1, q2]; exact ⟨t, rfl⟩
    · rw [q1, q2]; exact ⟨t, rfl⟩
  · obtain ⟨_, ws, rr, dd⟩ := d_tk I hd ke ht
    obtain ⟨o, ents, ep, g1, g2, g3, g4, g5, g6⟩ := dd
    have hl : (xsOf es ws).length = es.length := xs_len (by have := rr.length; simpa using this.symm)
    have hsz : ents.size = es.length := by
      have := congrArg List.length g4
      simp at this
      omega
    refine ⟨ents, ep, ⟨o, g1, g2, g3⟩, hsz, fun i e hi he => ?_⟩
    have e1 : ents.toList[i]? = some ents[i] := by simp [hi]
    rw [g4, List.getElem?_map] at e1
    have hx : ∀ (es : List Ent) (ws : List Value) (i : Nat) (e : Ent) (x : NestedKey × Addr × Value), es[i]? = some e → (xsOf es ws)[i]? = some x → x.2.1 = adr e.2.1 := by
      intro es
      induction es with
      | nil => intro ws i e x h1 h2; simp at h1
      | cons e0 es ih =>
        intro ws i e x h1 h2
        cases ws with
        | nil => simp [xsOf] at h2
        | cons u ws =>
          cases i with
          | zero => simp [xsOf] at h1 h2; subst h1 h2; rfl
          | succ i => exact ih ws i e x (by simpa using h1) (by simpa [xsOf] using h2)
    cases e2 : (xsOf es ws)[i]? with
    | none => rw [e2] at e1; cases e1
    | some x =>
      rw [e2] at e1
      have e3 : entryOfKey (nestedKind X.prog X.w) x = ents[i] := by simpa using e1
      have mem := List.mem_of_getElem? he
      have kx := (RepP.key (c := cfgOf X ca) I.hok I.kIn (ht e mem) (ke e mem)).2
      rw [← e3, kx]
      show Value.ref x.2.1 = Value.ref (adr e.2.1)
      rw [hx es ws i e x he e2]
theorem cr_sortA (hcalm : X.calm = true) (hu : X.A.units + 64 < cLine) : CallR X (.builtin "sorted") (rSortA (cfgOf X ca)) := by
  intro pins s σ H vs us Q I r h
  obtain ⟨a, F, ps, rfl, ok, src, q⟩ := h
  rw [Vals.ref1 r]
  rcases src with ⟨xs, hs, rp⟩ | ⟨es, hd, ke, rfl⟩
  · obtain ⟨its, rv, hl, hz⟩ := I.list hs
    obtain ⟨e, er, hal, hn, dp⟩ := sort_facts I rp rv ok
    have hL : ps.length ≤ sizeLine := by rw [← rp.len]; exact hz
    refine sorted_dataA hl.isList e er hal (fun b hb => hn _ (List.mem_map.mpr ⟨b, hb, rfl⟩)) hL (fun b hb => by have := dp b hb; omega) fun out h1 h2 => ?_
    rw [sort_eq] at h2
    obtain ⟨ys, r1, r2⟩ := rv_each h2
    obtain ⟨ep, he'⟩ := PyProof.Rows.sortedAll_at s.heap its (List.toArray out)
    have hlen : ys.length ≤ sizeLine := by rw [r1.len, sorted_len]; exact hL
    refine ⟨.ref _, upd H (s.heap.objs.size + 1) (.lst ys), I.laid (t' := s.toks) (fun _ _ => PyProof.Rows.sortedAll_old) (Nat.le_succ _) ⟨hlen, out, ep, r2, by simpa using he'⟩, rfl, q ys _ r1 hlen (I.hok.fresh (Nat.le_succ _))⟩
  · have z := hd.1
    obtain ⟨_, _, hm⟩ := d_type I hd
    have raw := d_raw I hd ke
    obtain ⟨ents, ep, hr, hsz, hk⟩ := raw
    refine Calls.call_function_entry PyProof.Rows.kind_sorted PyProof.Rows.plain_sorted PyProof.Rows.entry_sorted (PyProof.Rows.args_sorted1 _) ?_
    unfold Builtin.«sorted»
    refine wpAny_bind (m := checkCount "sorted" 1 1 _) (wpAny_pure ?_)
    refine wpAny_bind (PySem.W.kdu_collect (A := X.A.in1) (KdlSrc.rawDict (es := ents) (ep := ep) hm) (I.ok.hd hcalm) hr (by omega) fun h' tk acc hkp hacc => ?_)
    have hal0 : acc.toList.length = es.length := by rw [Array.length_toList, hacc.1, hsz]
    have rv : Vals (es.map (·.2.1)) acc.toList := by
      have gen : ∀ (es : List Ent) (us : List Value), us.length = es.length → (∀ (i : Nat) (e : Ent) (u : Value), es[i]? = some e → us[i]? = some u → RelV e.2.1 u) → Vals (es.map (·.2.1)) us := by
        intro es
        induction es with
        | nil => intro us h1 _; cases us with
          | nil => exact .nil
          | cons u us => simp at h1
        | cons e es ih =>
          intro us h1 h2
          cases us with
          | nil => simp at h1
          | cons u us => exact .cons (h2 0 e u rfl rfl) (ih us (by simpa using h1) fun i e u q1 q2 => h2 (i + 1) e u (by simpa using q1) (by simpa using q2))
      refine gen es acc.toList hal0 fun i e u he hu' => ?_
      obtain ⟨hi, rfl⟩ := hacc.2 i u (by rw [← Array.getElem?_toList]; exact hu')
      exact hk i e hi he
    have rp : RepPs (cfgOf X ca) F H (es.map (·.1)) (es.map (·.2.1)) := by
      clear ok q hd hr hsz hk hal0 rv hkp hacc z
      induction es with
      | nil => simp [RepPs]
      | cons e es ih =>
        rw [List.map_cons, List.map_cons, RepPs]
        exact ⟨_, _, rfl, ke e (List.mem_cons_self ..), ih fun x hx => ke x (List.mem_cons_of_mem _ hx)⟩
    have I1 : Inv X pins σ H { s with heap := h', toks := tk } := I.kept hkp
    obtain ⟨e, er, hal, hn, dp⟩ := sort_facts I1 rp rv ok
    refine wpAny_bind (wpAny_newList ?_ (by rw [hal0]; exact z))
    have hoL : (h'.push (seqObj "list" acc.toList.toArray 0)).get? h'.objs.size = some (seqObj "list" acc.toList.toArray 0) := Heap.get?_push_size _ rfl
    show wpAny _ _ _ _ _ { s with heap := h'.push (seqObj "list" acc.toList.toArray 0), toks := tk }
    have old : ∀ b o, h'.get? b = some o → (sortingHeap (h'.push (seqObj "list" acc.toList.toArray 0)) h'.objs.size acc.toList).get? b = some o := fun b o e => sortingHeap_old (Nat.ne_of_lt (Heap.lt_size e)) (Heap.get?_push_of_some _ e)
    have er' : EachIs (fun v p => ∃ as, Reads (sortingHeap (h'.push (seqObj "list" acc.toList.toArray 0)) h'.objs.size acc.toList) v (P.toPD p) as) acc.toList (es.map (·.1)) := er.mono fun _ _ ⟨as, r⟩ => ⟨as, PyProof.Rows.Reads.keeps old r⟩
    refine wpAny_bind (wpAny_holding (wpAny_call_entry PyProof.Rows.slot_list_sort ⟨_, hoL, rfl⟩ PyProof.Rows.entry_list_sort
      (list_sort_vals (κ := dataKind _ ((es.map (·.1)).map P.toPD)) (s := { s with heap := h'.push (seqObj "list" acc.toList.toArray 0), toks := tk }) hoL
        (SortsAt.anyD (s := { s with heap := sortingHeap (h'.push (seqObj "list" acc.toList.toArray 0)) h'.objs.size acc.toList, toks := tk }) (each_map (R := fun v d => ∃ as, Reads (sortingHeap (h'.push (seqObj "list" acc.toList.toArray 0)) h'.objs.size acc.toList) v d as) P.toPD er') hal hn (fun d hd' => by
          obtain ⟨p, hp, rfl⟩ := List.mem_map.mp hd'
          have := dp p hp
          show X.A.units + 1 + 1 + _ < _
          omega)) (by rw [hal0]; exact z) ⟨_, rfl, ?_⟩)
      (PyProof.Rows.args_list_sort _)))
    have hs2 := sortVals_data false e er' hal
    rw [sort_eq] at hs2
    obtain ⟨ys, r1, r2⟩ := rv_each hs2
    obtain ⟨e', he'⟩ := PyProof.Rows.sortedHeap_at (vs := acc.toList) (out := (sortVals (dataKind (sortingHeap (h'.push (seqObj "list" acc.toList.toArray 0)) h'.objs.size acc.toList) ((es.map (·.1)).map P.toPD)) false acc.toList acc.toList).toArray) hoL
    have hlen : ys.length ≤ sizeLine := by rw [r1.len, sorted_len, List.length_map]; exact z
    refine wpAny_pure ⟨_, rfl, .ref h'.objs.size, upd H h'.objs.size (.lst ys), I1.laid (t' := tk) (fun b u e => ?_) (Nat.le_refl _)
      (show ObjOk X.prog X.w _ _ _ (.lst ys) from ⟨hlen, _, e', r2, he'⟩), rfl, q ys _ r1 hlen (I1.hok.fresh (Nat.le_refl _))⟩
    have hb : b < h'.objs.size := Heap.lt_size e
    rw [PyProof.Rows.sortedHeap_old (Nat.ne_of_lt hb) (by rw [size_push']; exact Nat.lt_succ_of_lt hb)]
    exact Heap.get?_push_of_some _ e
end
section
variable {X : Cx} {ca : Str → Option Addr}
def rMinA (c : Cfg) : List V → Hp → VK → Prop := fun vs H Q => ∃ a F p ps xs, vs = [.ref a] ∧ sortOk (p :: ps) = true ∧ SqL c.K H a xs ∧ RepPs c F H (p :: ps) xs ∧ ∀ y, RepP c F H (minP p ps) y → Q y H
theorem each_at {α β : Type} {R : α → β → Prop} : ∀ {as : List α} {bs : List β}, EachIs R as bs → ∀ (i : Nat) (a : α), as[i]? = some a → ∃ b, bs[i]? = some b ∧ R a b
  | _, _, .nil, i, a, h => by simp at h
  | _, _, .cons r t, 0, a, h => by
    simp at h
    subst h
    exact ⟨_, rfl, r⟩
  | _, _, .cons r t, i + 1, a, h => by
    obtain ⟨b, h1, h2⟩ := each_at t i a (by simpa using h)
    exact ⟨b, by simpa using h1, h2⟩
theorem depthAll_le : ∀ (ds : List PyData) (n : Nat), (∀ d ∈ ds, d.depth ≤ n) → PyData.depthAll ds ≤ n
  | [], n, _ => by simp [PyData.depthAll]
  | d :: ds, n, h => by
    have h1 := h d (List.mem_cons_self ..)
    have h2 := depthAll_le ds n fun x hx => h x (List.mem_cons_of_mem _ hx)
    simp only [PyData.depthAll]
    omega
theorem cr_minA (hc : X.calm = true) (hu : X.A.units + 64 < cLine) : CallR X (.builtin "min") (rMinA (cfgOf X ca)) := by
  intro pins s σ H vs us Q I r h
  obtain ⟨a, F, p, ps, xs, rfl, ok, hs, rp, q⟩ := h
  rw [Vals.ref1 r]
  obtain ⟨its, rv, hl, hz⟩ := I.list hs
  obtain ⟨e, er, hal, hn, dp⟩ := sort_facts I rp rv ok
  obtain ⟨as, ra⟩ := each_readsAll P.toPD er
  have ra' : ReadsAll s.heap its.toArray.toList ((p :: ps).map P.toPD) as := by simpa using ra
  have dd : PyData.depthAll ((p :: ps).map P.toPD) ≤ 60 := depthAll_le _ _ fun d hd => by
    obtain ⟨x, hx, rfl⟩ := List.mem_map.mp hd
    exact dp x hx
  have hlen : its.toArray.size = ps.length + 1 := by
    have := readsAll_len ra'
    simpa using this
  refine call_min_walkH (iter_listW (A := X.A.in1) (I.ok.hd hc) hl.isList fun s₂ e2 W st hfp hw hk => ?_)
  refine ⟨_, _, _, _, _, _, _, s.heap, _, rfl, W, st, hfp, by omega, hw, hk, cmpIn_lt (A := X.A.in1) ra' ⟨hal, hn⟩ (by show X.A.units + 1 + _ < _; omega), fun v s' hP m => ?_⟩
  obtain ⟨h', tk, rfl, hk'⟩ := moved_old e2 rfl m
  have e1 : its.toArray.size - 1 = ps.length := by omega
  obtain ⟨l1, l2⟩ := argBest_fold P.lt P.non p ps ps.length (Nat.le_refl _)
  have bt : (fun i j => dataLt (((p :: ps).map P.toPD).getD i .none) (((p :: ps).map P.toPD).getD j .none)) = fun i j => P.lt ((p :: ps).getD i .non) ((p :: ps).getD j .non) := by
    have g : ∀ i, ((p :: ps).map P.toPD).getD i .none = ((p :: ps).getD i .non).toPD := fun i => by
      rw [List.getD_eq_getElem?_getD, List.getD_eq_getElem?_getD, List.getElem?_map]
      cases (p :: ps)[i]? <;> rfl
    funext i j
    rw [g, g]
    rfl
  rw [bt, e1] at hP
  rw [List.take_length] at l2
  have hP2 : its[argBest (fun i j => P.lt ((p :: ps).getD i .non) ((p :: ps).getD j .non)) ps.length]? = some v := by simpa using hP
  obtain ⟨b, hb, x, rx, rb⟩ := each_at e _ v hP2
  have : b = minP p ps := by
    unfold minP
    rw [← l2, List.getD_eq_getElem?_getD, hb]
    rfl
  subst this
  exact ⟨x, H, I.kept hk', rx, q x rb⟩
end
section
variable {prog : Program} {w : World} {A : Around} {E : Value → Shared → Prop} {s : Shared}
theorem two_at {a b : Str} {t u : Tok} {i : Nat} {v : Value} (h : (#[Value.str a t, Value.str b u] : Array Value)[i]? = some v) : ∃ x tk, v = .str x tk ∧ [PyData.str a, PyData.str b].getD i .none = .str x := by
  match i, h with
  | 0, h => exact ⟨a, t, by simpa using h.symm, rfl⟩
  | 1, h => exact ⟨b, u, by simpa using h.symm, rfl⟩
  | i + 2, h => simp at h
theorem cmp_lt2 {a b : Str} {t u : Tok} (hu : A.units + 64 < cLine) : CmpOf prog w A.in1 .Lt (fun i v => (#[Value.str a t, Value.str b u] : Array Value)[i]? = some v) (fun i j => dataLt ([PyData.str a, PyData.str b].getD i .none) ([PyData.str a, PyData.str b].getD j .none)) := fun i j vi vj s' Q E hi hj hq => by
  obtain ⟨x, tx, rfl, e1⟩ := two_at hi
  obtain ⟨y, ty, rfl, e2⟩ := two_at hj
  dsimp only at hq
  rw [e1, e2] at hq
  refine rcLt_alike _ _ A.in1 s' _ _ _ _ (Reads.str x tx) (Reads.str y ty) (by simp [alike]) (by simp) ?_ prog w E Q hq
  show A.units + 1 + min (PyData.str x).depth (PyData.str y).depth < cLine
  simp [PyData.depth]
  omega
theorem cmp_gt2 {a b : Str} {t u : Tok} (hu : A.units + 64 < cLine) : CmpOf prog w A.in1 .Gt (fun i v => (#[Value.str a t, Value.str b u] : Array Value)[i]? = some v) (fun i j => dataLt ([PyData.str a, PyData.str b].getD j .none) ([PyData.str a, PyData.str b].getD i .none)) := fun i j vi vj s' Q E hi hj hq => by
  obtain ⟨x, tx, rfl, e1⟩ := two_at hi
  obtain ⟨y, ty, rfl, e2⟩ := two_at hj
  dsimp only at hq
  rw [e1, e2] at hq
  refine rcGt_alike _ _ A.in1 s' _ _ _ _ (Reads.str x tx) (Reads.str y ty) (by simp [alike]) (by simp) ?_ prog w E Q hq
  show A.units + 1 + min (PyData.str x).depth (PyData.str y).depth < cLine
  simp [PyData.depth]
  omega
theorem min_two_strs {a b : Str} {t u : Tok} {Q : Value → Shared → Prop} (hh : A.handled = none) (hu : A.units + 64 < cLine)
    (h : ∀ h' tk, (∀ c o, s.heap.get? c = some o → h'.get? c = some o) → Q (if (P.str b).lt (P.str a) = true then .str b u else .str a t) { s with heap := h', toks := tk }) :
    wpAny (model prog w) A (call (.builtin "min") [.str a t, .str b u]) Q E s := by
  have hT : (s.heap.push { cls := .type "tuple", data := .seq #[.str a t, .str b u] }).IsTuple s.heap.objs.size #[.str a t, .str b u] := ⟨_, Heap.get?_push_size _ rfl, rfl, 0, by simp⟩
  refine call_min_two (wpAny_pyIter_tuple hT ?_)
  have hsz : (s.heap.push { cls := .type "tuple", data := .seq #[.str a t, .str b u] }).objs.size = s.heap.objs.size + 1 := Heap.size_push ..
  refine ⟨_, [_, s.heap.objs.size], [_], _, _, _, _, rfl, Walks.tuple (A := A.in1) hh _ s.heap.objs.size (by rw [hsz]; exact Nat.ne_of_lt (Nat.lt_succ_self _)) #[.str a t, .str b u],
    ⟨⟨_, Heap.get?_push_size _ rfl, rfl, rfl⟩, hT.push _⟩, fun c hc => ?_, by simp, cmp_lt2 hu, fun v h' tk hP hk => ?_⟩
  · show c < ((s.heap.push _).push _).objs.size
    rw [Heap.size_push, hsz]
    rcases List.mem_cons.mp hc with rfl | hc
    · rw [hsz]; exact Nat.lt_succ_self _
    · rcases List.mem_cons.mp hc with rfl | hc
      · exact Nat.lt_succ_of_lt (Nat.lt_succ_self _)
      · cases hc
  · have hold : ∀ c o, s.heap.get? c = some o → h'.get? c = some o := fun c o e => by
      refine hk c o (fun hm => ?_) (Heap.get?_push_of_some _ (Heap.get?_push_of_some _ e))
      rcases List.mem_cons.mp hm with e1 | hm
      · have := Heap.lt_size e; rw [e1, hsz] at this; exact Nat.lt_irrefl _ (Nat.lt_of_succ_lt this)
      · cases hm
    have := h h' tk hold
    have hv : v = if (P.str b).lt (P.str a) = true then Value.str b u else Value.str a t := by
      have hP' : (#[Value.str a t, Value.str b u] : Array Value)[argBest (fun i j => dataLt ([PyData.str a, PyData.str b].getD i .none) ([PyData.str a, PyData.str b].getD j .none)) 1]? = some v := hP
      have eb : argBest (fun i j => dataLt ([PyData.str a, PyData.str b].getD i .none) ([PyData.str a, PyData.str b].getD j .none)) 1 = if (P.str b).lt (P.str a) = true then 1 else 0 := rfl
      rw [eb] at hP'
      by_cases c : (P.str b).lt (P.str a) = true
      · rw [if_pos c] at hP' ⊢; simpa using hP'.symm
      · rw [if_neg c] at hP' ⊢; simpa using hP'.symm
    rw [hv]; exact this
theorem max_two_strs {a b : Str} {t u : Tok} {Q : Value → Shared → Prop} (hh : A.handled = none) (hu : A.units + 64 < cLine)
    (h : ∀ h' tk, (∀ c o, s.heap.get? c = some o → h'.get? c = some o) → Q (if (P.str a).lt (P.str b) = true then .str b u else .str a t) { s with heap := h', toks := tk }) :
    wpAny (model prog w) A (call (.builtin "max") [.str a t, .str b u]) Q E s := by
  have hT : (s.heap.push { cls := .type "tuple", data := .seq #[.str a t, .str b u] }).IsTuple s.heap.objs.size #[.str a t, .str b u] := ⟨_, Heap.get?_push_size _ rfl, rfl, 0, by simp⟩
  refine call_max_two (wpAny_pyIter_tuple hT ?_)
  have hsz : (s.heap.push { cls := .type "tuple", data := .seq #[.str a t, .str b u] }).objs.size = s.heap.objs.size + 1 := Heap.size_push ..
  refine ⟨_, [_, s.heap.objs.size], [_], _, _, _, _, rfl, Walks.tuple (A := A.in1) hh _ s.heap.objs.size (by rw [hsz]; exact Nat.ne_of_lt (Nat.lt_succ_self _)) #[.str a t, .str b u],
    ⟨⟨_, Heap.get?_push_size _ rfl, rfl, rfl⟩, hT.push _⟩, fun c hc => ?_, by simp, cmp_gt2 hu, fun v h' tk hP hk => ?_⟩
  · show c < ((s.heap.push _).push _).objs.size
    rw [Heap.size_push, hsz]
    rcases List.mem_cons.mp hc with rfl | hc
    · rw [hsz]; exact Nat.lt_succ_self _
    · rcases List.mem_cons.mp hc with rfl | hc
      · exact Nat.lt_succ_of_lt (Nat.lt_succ_self _)
      · cases hc
  · have hold : ∀ c o, s.heap.get? c = some o → h'.get? c = some o := fun c o e => by
      refine hk c o (fun hm => ?_) (Heap.get?_push_of_some _ (Heap.get?_push_of_some _ e))
      rcases List.mem_cons.mp hm with e1 | hm
      · have := Heap.lt_size e; rw [e1, hsz] at this; exact Nat.lt_irrefl _ (Nat.lt_of_succ_lt this)
      · cases hm
    have := h h' tk hold
    have hv : v = if (P.str a).lt (P.str b) = true then Value.str b u else Value.str a t := by
      have hP' : (#[Value.str a t, Value.str b u] : Array Value)[argBest (fun i j => dataLt ([PyData.str a, PyData.str b].getD j .none) ([PyData.str a, PyData.str b].getD i .none)) 1]? = some v := hP
      have eb : argBest (fun i j => dataLt ([PyData.str a, PyData.str b].getD j .none) ([PyData.str a, PyData.str b].getD i .none)) 1 = if (P.str a).lt (P.str b) = true then 1 else 0 := rfl
      rw [eb] at hP'
      by_cases c : (P.str a).lt (P.str b) = true
      · rw [if_pos c] at hP' ⊢; simpa using hP'.symm
      · rw [if_neg c] at hP' ⊢; simpa using hP'.symm
    rw [hv]; exact this
end
section
variable {X : Cx}
theorem cr_min2S (hc : X.calm = true) (hu : X.A.units + 64 < cLine) : CallR X (.builtin "min") (fun xs H Q => ∃ i j, xs = [.str i, .str j] ∧ Q (.str (if (P.str j).lt (P.str i) = true then j else i)) H) := by
  intro pins s σ H xs us Q I r h
  obtain ⟨i, j, rfl, q⟩ := h
  obtain ⟨u, w', rfl, ⟨t, rfl⟩, ⟨t', rfl⟩⟩ := vals2 r
  refine min_two_strs (I.ok.hd hc) hu fun h' tk k => ⟨_, H, I.kept k, ?_, q⟩
  by_cases hj : (P.str j).lt (P.str i) = true
  · rw [if_pos hj, if_pos hj]; exact ⟨_, rfl⟩
  · rw [if_neg hj, if_neg hj]; exact ⟨_, rfl⟩
theorem cr_max2S (hc : X.calm = true) (hu : X.A.units + 64 < cLine) : CallR X (.builtin "max") (fun xs H Q => ∃ i j, xs = [.str i, .str j] ∧ Q (.str (if (P.str i).lt (P.str j) = true then j else i)) H) := by
  intro pins s σ H xs us Q I r h
  obtain ⟨i, j, rfl, q⟩ := h
  obtain ⟨u, w', rfl, ⟨t, rfl⟩, ⟨t', rfl⟩⟩ := vals2 r
  refine max_two_strs (I.ok.hd hc) hu fun h' tk k => ⟨_, H, I.kept k, ?_, q⟩
  by_cases hj : (P.str i).lt (P.str j) = true
  · rw [if_pos hj, if_pos hj]; exact ⟨_, rfl⟩
  · rw [if_neg hj, if_neg hj]; exact ⟨_, rfl⟩
end
end PyM
namespace PyM
open PySem PySem.Spec PyProof.Rows L2

/-! ### the sum of a tuple -/
def rSumT (K : PySem.W.Frag) : List V → Hp → VK → Prop := fun vs H Q => ∃ (a : Addr) (ns : List Int), vs = [V.ref a] ∧ SqT K H a (ns.map V.int) ∧ Q (.int ns.sum) H
theorem cr_sumT {X : Cx} (hc : X.calm = true) : CallR X (.builtin "sum") (rSumT X.K) := by
  intro pins s σ H vs us Q I r h
  obtain ⟨a, ns, rfl, hs, q⟩ := h
  obtain ⟨its, rv, hl, _⟩ := I.tuple hs
  rw [Vals.ref1 r]
  obtain ⟨xs, e⟩ := rv.ints.allInts.items
  have hn : numsOf (intItems xs).toList = ns := by
    rw [← e]
    exact rv.ints.numsOf
  rw [nums_intItems] at hn
  rw [e] at hl
  have la : a < s.heap.objs.size := by
    obtain ⟨o, z, _⟩ := hl
    exact Heap.lt_size z
  refine call_sum_walkG (wpAny_pyIter_tuple hl ?_)
  have st0 : ∀ (o : Obj), (s.heap.push o).IsTuple a (intItems xs) := fun o => hl.push o
  refine ⟨s.heap.objs.size, [s.heap.objs.size, a], [s.heap.objs.size], (intItems xs).size, _, _, numAt xs, rfl, Walks.tuple (A := X.A.in1) (I.ok.hd hc) _ a (Nat.ne_of_lt la) (intItems xs), ⟨⟨_, Heap.get?_push_size _ rfl, rfl, rfl⟩, st0 _⟩, fun b hb => ?_, fun _ _ => intItems_at, fun h' tk t' hk => ?_⟩
  · have hz := Heap.size_push s.heap { cls := .type "tuple_iterator", data := .fields #[.ref a, .int 0 0] }
    have hb' : b = s.heap.objs.size ∨ b = a := by simpa using hb
    refine Nat.lt_of_lt_of_eq ?_ hz.symm
    rcases hb' with rfl | rfl
    · exact Nat.lt_succ_self _
    · exact Nat.lt_succ_of_lt la
  · have ok : ∀ b o, s.heap.get? b = some o → h'.get? b = some o := fun b o z => hk b o (fun hb => Nat.lt_irrefl _ (by
      have := Heap.lt_size z
      rw [List.mem_singleton.mp hb] at this
      exact this)) (Heap.get?_push_of_some _ z)
    refine ⟨.int ns.sum, H, I.kept ok, ⟨t', ?_⟩, q⟩
    rw [← hn, preSum_eq, List.take_of_length_le (by simp [intItems])]
end PyM
namespace PyM
open PySem PySem.Spec PyProof.Rows L2

/-! ### built-ins -/
theorem intsOf_rep {c : Cfg} {F : Addr → Prop} {H : Hp} : ∀ {xs : List P} {ns : List Int} {vs : List V}, intsOf xs = some ns → RepPs c F H xs vs → vs = ns.map V.int
  | [], ns, vs, h, r => by simp [intsOf] at h; simp [RepPs] at r; subst h r; rfl
  | x :: xs, ns, vs, h, r => by
    cases x <;> simp [intsOf] at h
    obtain ⟨ms, h1, rfl⟩ := h
    rw [RepPs] at r
    obtain ⟨v, r', rfl, a, b⟩ := r
    simp only [RepP] at a
    rw [intsOf_rep h1 b, a]
    rfl
theorem boolsOf_rep {c : Cfg} {F : Addr → Prop} {H : Hp} : ∀ {xs : List P} {ns : List Bool} {vs : List V}, boolsOf xs = some ns → RepPs c F H xs vs → vs = ns.map V.bl
  | [], ns, vs, h, r => by simp [boolsOf] at h; simp [RepPs] at r; subst h r; rfl
  | x :: xs, ns, vs, h, r => by
    cases x <;> simp [boolsOf] at h
    obtain ⟨ms, h1, rfl⟩ := h
    rw [RepPs] at r
    obtain ⟨v, r', rfl, a, b⟩ := r
    simp only [RepP] at a
    rw [boolsOf_rep h1 b, a]
    rfl
theorem maxL_spec : ∀ {ns : List Int} {m : Int}, maxL ns = some m → m ∈ ns ∧ ∀ y ∈ ns, y ≤ m
  | [], m, h => by simp [maxL] at h
  | i :: r, m, h => by
    rw [maxL] at h
    cases e : maxL r with
    | none =>
      rw [e] at h
      cases h
      have : r = [] := by
        cases r with
        | nil => rfl
        | cons j r' => rw [maxL] at e; cases q : maxL r' <;> rw [q] at e <;> cases e
      subst this
      exact ⟨by simp, fun y hy => by simp at hy; omega⟩
    | some j =>
      rw [e] at h
      cases h
      obtain ⟨h1, h2⟩ := maxL_spec e
      refine ⟨?_, fun y hy => ?_⟩
      · by_cases q : i ≤ j
        · rw [Int.max_eq_right q]; exact List.mem_cons_of_mem _ h1
        · rw [Int.max_eq_left (by omega)]; exact List.mem_cons_self ..
      · rcases List.mem_cons.mp hy with rfl | hy
        · omega
        · have := h2 y hy; omega
theorem minL_spec : ∀ {ns : List Int} {m : Int}, minL ns = some m → m ∈ ns ∧ ∀ y ∈ ns, m ≤ y
  | [], m, h => by simp [minL] at h
  | i :: r, m, h => by
    rw [minL] at h
    cases e : minL r with
    | none =>
      rw [e] at h
      cases h
      have : r = [] := by
        cases r with
        | nil => rfl
        | cons j r' => rw [minL] at e; cases q : minL r' <;> rw [q] at e <;> cases e
      subst this
      exact ⟨by simp, fun y hy => by simp at hy; omega⟩
    | some j =>
      rw [e] at h
      cases h
      obtain ⟨h1, h2⟩ := minL_spec e
      refine ⟨?_, fun y hy => ?_⟩
      · by_cases q : i ≤ j
        · rw [Int.min_eq_left q]; exact List.mem_cons_self ..
        · rw [Int.min_eq_right (by omega)]; exact List.mem_cons_of_mem _ h1
      · rcases List.mem_cons.mp hy with rfl | hy
        · omega
        · have := h2 y hy; omega
def bltV : Blt → Value
  | .len => .builtin "len" | .int => .type "int" | .abs => .builtin "abs" | .tuple => .type "tuple" | .list _ => .type "list" | .sorted _ => .builtin "sorted"
  | .all => .builtin "all" | .any => .builtin "any" | .sum => .builtin "sum" | .max1 => .builtin "max" | .min1 => .builtin "min" | .max2 => .builtin "max" | .min2 => .builtin "min" | .dict _ => .type "dict"
def rBlt (c : Cfg) (b : Blt) : List V → Hp → VK → Prop := fun vs H Q => ∃ g st ds E, RepDs c g st.length H ds vs ∧ Wd c g st H ∧ EndR c g st H E (RepD c) (blt b ds st) Q
theorem reps1 {c : Cfg} {g : Gh} {N : Nat} {H : Hp} {d : D} {vs : List V} (r : RepDs c g N H [d] vs) : ∃ v, vs = [v] ∧ RepD c g N H d v := by
  cases r with
  | cons h t =>
    cases t
    exact ⟨_, rfl, h⟩
theorem P1_inv {c : Cfg} {g : Gh} {st : Sto} {H : Hp} {E : EH} {Q : VK} {f : P → Option P} {ds : List D} {vs : List V} (h : EndR c g st H E (RepD c) (P1 f ds st) Q) (w : Wd c g st H) (r : RepDs c g st.length H ds vs) :
    ∃ d v x z, vs = [v] ∧ RepD c g st.length H d v ∧ rd st d = some x ∧ f x = some z ∧ Ans c g.F H z Q := by
  unfold P1 at h
  split at h
  · rename_i d
    obtain ⟨v, rfl, r1⟩ := reps1 r
    split at h
    · rename_i x hx
      obtain ⟨z, hz, h⟩ := h.opt
      obtain ⟨y, hy, rfl⟩ := Option.map_eq_some_iff.mp hz
      exact ⟨d, v, x, y, rfl, r1, hx, hy, h.ans w⟩
    · exact h.elim
  · exact h.elim
section
variable {X : Cx} {ca : Str → Option Addr}
theorem cr_blt (hc : X.calm = true) (hu : X.A.units + 64 < cLine) (b : Blt) : CallR X (bltV b) (rBlt (cfgOf X ca) b) := by
  intro pins s σ H vs us Q I rv h
  obtain ⟨g, st, ds, E, r, w, h⟩ := h
  cases b with
  | len =>
    obtain ⟨d, v, x, z, rfl, r1, hx, hz, a⟩ := P1_inv h w r
    cases x with
    | str y =>
      have e := rd_p hx rfl
      subst e
      have r2 : RepP (cfgOf X ca) g.F H (.str y) v := r1
      rw [RepP] at r2
      cases hz
      exact call_len_str pins s σ H _ us Q I rv ⟨y, by rw [r2.1], r2.2.2, a.int⟩
    | tup xs =>
      obtain ⟨p, ws, rfl, q1, q2, q3⟩ := rd_tup r1 hx
      cases hz
      refine call_len_seq pins s σ H _ us Q I rv ⟨p, ws, rfl, .inr q1, ?_⟩
      rw [q3.len]
      exact a.int
    | lst xs =>
      obtain ⟨p, ws, rfl, q1, q2, q3⟩ := rd_lst w r1 hx
      cases hz
      refine call_len_seq pins s σ H _ us Q I rv ⟨p, ws, rfl, .inl (SqL.of q1), ?_⟩
      rw [q3.len]
      exact a.int
    | dct xs =>
      obtain ⟨p, es, rfl, q1, q3⟩ := rd_dct w r1 hx
      cases hz
      rw [Vals.ref1 rv]
      refine d_length I q1 q3.keys fun t s' I' => ⟨.int _, H, I', ⟨t, rfl⟩, ?_⟩
      have e := (RepKs.dk (N := st.length) q3).len
      rw [List.length_map] at e
      rw [e]
      exact a.int
    | _ => cases hz
  | int =>
    obtain ⟨d, v, x, z, rfl, r1, hx, hz, a⟩ := P1_inv h w r
    cases x with
    | int i =>
      have e := rd_p hx rfl
      subst e
      have r2 : RepP (cfgOf X ca) g.F H (.int i) v := r1
      simp only [RepP] at r2
      cases hz
      exact call_int1 pins s σ H _ us Q I rv (.inl ⟨i, by rw [r2], a.int⟩)
    | bl i =>
      have e := rd_p hx rfl
      subst e
      have r2 : RepP (cfgOf X ca) g.F H (.bl i) v := r1
      simp only [RepP] at r2
      cases hz
      exact call_int1 pins s σ H _ us Q I rv (.inr ⟨i, by rw [r2], a.int⟩)
    | _ => cases hz
  | abs =>
    obtain ⟨d, v, x, z, rfl, r1, hx, hz, a⟩ := P1_inv h w r
    cases x with
    | int i =>
      have e := rd_p hx rfl
      subst e
      have r2 : RepP (cfgOf X ca) g.F H (.int i) v := r1
      simp only [RepP] at r2
      cases hz
      exact call_abs pins s σ H _ us Q I rv ⟨i, by rw [r2], a.int⟩
    | _ => cases hz
  | dict l =>
    simp only [blt] at h
    split at h
    · rename_i d
      obtain ⟨v, rfl, r1⟩ := reps1 r
      split at h
      · rename_i xs hx
        split at h
        · rename_i hs
          obtain ⟨p, es, rfl, q1, q3⟩ := rd_dct w r1 hx
          have dk := RepKs.dk (N := st.length) q3
          have hsc : ∀ e ∈ es, e.1.sca = true := fun e he => by
            have hm : e.1 ∈ xs.map (·.1) := by
              have hf := dk.fst
              rw [List.map_map] at hf
              have h2 : e.1 ∈ es.map (·.1) := List.mem_map_of_mem he
              rw [hf] at h2
              exact h2
            obtain ⟨q, hq, e2⟩ := List.mem_map.mp hm
            rw [← e2]
            exact List.all_eq_true.mp hs q hq
          exact call_dictD pins s σ H _ us Q I rv ⟨p, _, rfl, d_sc q1 hsc, fun p' hp => mkD_end h w dk p' hp ⟨q1.1, q1.2.1, .inl ⟨hsc, upd_same⟩⟩⟩
        · exact h.elim
      · exact h.elim
    · exact h.elim
  | tuple =>
    obtain ⟨d, v, x, z, rfl, r1, hx, hz, a⟩ := P1_inv h w r
    cases x with
    | tup xs =>
      have e := rd_p hx rfl
      subst e
      obtain ⟨p, ws, rfl, q1, q2, q3⟩ := rd_tup r1 hx
      cases hz
      exact call_tuple_of pins s σ H _ us Q I rv ⟨p, ws, rfl, .inr ⟨q1, a.same r1⟩⟩
    | lst xs =>
      obtain ⟨p, ws, rfl, q1, q2, q3⟩ := rd_lst w r1 hx
      cases hz
      exact call_tuple_of pins s σ H _ us Q I rv ⟨p, ws, rfl, .inl ⟨SqL.of q1, fun l hl => a.tup q3 q2 l hl⟩⟩
    | _ => cases hz
  | list l =>
    simp only [blt] at h
    split at h
    · rename_i d
      obtain ⟨v, rfl, r1⟩ := reps1 r
      split at h
      · rename_i xs hx
        obtain ⟨p, ws, rfl, q1, q2, q3⟩ := rd_tup r1 hx
        exact call_list_of pins s σ H _ us Q I rv ⟨p, ws, rfl, .inr q1, fun l hl => mkL_end h w (RepDs.of q3) q2 l hl⟩
      · rename_i xs hx
        obtain ⟨p, ws, rfl, q1, q2, q3⟩ := rd_lst w r1 hx
        exact call_list_of pins s σ H _ us Q I rv ⟨p, ws, rfl, .inl (SqL.of q1), fun l hl => mkL_end h w (RepDs.of q3) q2 l hl⟩
      · exact h.elim
    · exact h.elim
  | sorted l =>
    simp only [blt] at h
    split at h
    · rename_i d
      obtain ⟨v, rfl, r1⟩ := reps1 r
      split at h
      · rename_i xs hx
        split at h
        · rename_i ok
          have fin : ∀ ys p, RepPs (cfgOf X ca) g.F H (sorted xs) ys → ys.length ≤ sizeLine → H p = none → Q (.ref p) (upd H p (.lst ys)) := fun ys p q1 q2 q3 => mkL_end h w (RepDs.of q1) q2 p q3
          cases e : rd st d with
          | none => rw [e] at hx; cases hx
          | some y =>
            rw [e] at hx
            cases y with
            | lst zs =>
              cases hx
              obtain ⟨p, ws, rfl, q1, q2, q3⟩ := rd_lst w r1 e
              exact cr_sortA hc hu pins s σ H _ us Q I rv ⟨p, g.F, _, rfl, ok, .inl ⟨ws, SqL.of q1, q3⟩, fin⟩
            | dct zs =>
              obtain ⟨p, es, rfl, q1, q3⟩ := rd_dct w r1 e
              have e2 : xs = es.map (·.1) := by
                have e3 := (RepKs.dk (N := st.length) q3).fst
                rw [List.map_map] at e3
                simp only [Option.bind, itemsS, Option.some.injEq] at hx
                rw [← hx, e3]
                rfl
              exact cr_sortA hc hu pins s σ H _ us Q I rv ⟨p, g.F, xs, rfl, ok, .inr ⟨es, q1, q3.keys, e2⟩, fin⟩
            | _ => cases hx
        · exact h.elim
      · exact h.elim
    · exact h.elim
  | all =>
    obtain ⟨d, v, x, z, rfl, r1, hx, hz, a⟩ := P1_inv h w r
    cases x with
    | lst xs =>
      obtain ⟨p, ws, rfl, q1, q2, q3⟩ := rd_lst w r1 hx
      obtain ⟨bs, hb, rfl⟩ := Option.map_eq_some_iff.mp hz
      rw [boolsOf_rep hb q3] at q1
      exact cr_all hc pins s σ H _ us Q I rv ⟨p, bs, rfl, SqL.of q1, a.bl⟩
    | _ => cases hz
  | any =>
    obtain ⟨d, v, x, z, rfl, r1, hx, hz, a⟩ := P1_inv h w r
    cases x with
    | lst xs =>
      obtain ⟨p, ws, rfl, q1, q2, q3⟩ := rd_lst w r1 hx
      obtain ⟨bs, hb, rfl⟩ := Option.map_eq_some_iff.mp hz
      rw [boolsOf_rep hb q3] at q1
      exact cr_any hc pins s σ H _ us Q I rv ⟨p, bs, rfl, SqL.of q1, a.bl⟩
    | _ => cases hz
  | sum =>
    obtain ⟨d, v, x, z, rfl, r1, hx, hz, a⟩ := P1_inv h w r
    cases x with
    | lst xs =>
      obtain ⟨p, ws, rfl, q1, q2, q3⟩ := rd_lst w r1 hx
      obtain ⟨bs, hb, rfl⟩ := Option.map_eq_some_iff.mp hz
      rw [intsOf_rep hb q3] at q1
      exact cr_sum hc pins s σ H _ us Q I rv ⟨p, bs, rfl, SqL.of q1, a.int⟩
    | tup xs =>
      obtain ⟨p, ws, rfl, q1, q2, q3⟩ := rd_tup r1 hx
      obtain ⟨bs, hb, rfl⟩ := Option.map_eq_some_iff.mp hz
      rw [intsOf_rep hb q3] at q1
      exact cr_sumT hc pins s σ H _ us Q I rv ⟨p, bs, rfl, q1, a.int⟩
    | _ => cases hz
  | max1 =>
    obtain ⟨d, v, x, z, rfl, r1, hx, hz, a⟩ := P1_inv h w r
    cases x with
    | lst xs =>
      obtain ⟨p, ws, rfl, q1, q2, q3⟩ := rd_lst w r1 hx
      obtain ⟨bs, hb, hz⟩ := Option.bind_eq_some_iff.mp hz
      obtain ⟨m, hm, rfl⟩ := Option.map_eq_some_iff.mp hz
      rw [intsOf_rep hb q3] at q1
      obtain ⟨m1, m2⟩ := maxL_spec hm
      refine cr_max hc pins s σ H _ us Q I rv ⟨p, bs, rfl, SqL.of q1, List.length_pos_of_mem m1, fun m' h1 h2 => ?_⟩
      have : m' = m := by have := h2 m m1; have := m2 m' h1; omega
      rw [this]
      exact a.int
    | _ => cases hz
  | min1 =>
    obtain ⟨d, v, x, z, rfl, r1, hx, hz, a⟩ := P1_inv h w r
    cases x with
    | lst xs =>
      obtain ⟨p, ws, rfl, q1, q2, q3⟩ := rd_lst w r1 hx
      have hz : (match intsOf xs with
        | some bs => (minL bs).map P.int
        | none => minA xs) = some z := hz
      cases hb : intsOf xs with
      | some bs =>
        rw [hb] at hz
        obtain ⟨m, hm, rfl⟩ := Option.map_eq_some_iff.mp hz
        rw [intsOf_rep hb q3] at q1
        obtain ⟨m1, m2⟩ := minL_spec hm
        refine cr_min hc pins s σ H _ us Q I rv ⟨p, bs, rfl, SqL.of q1, List.length_pos_of_mem m1, fun m' h1 h2 => ?_⟩
        have : m' = m := by have := h2 m m1; have := m2 m' h1; omega
        rw [this]
        exact a.int
      | none =>
        rw [hb] at hz
        cases xs with
        | nil => cases hz
        | cons y ys =>
          have hz : (if sortOk (y :: ys) = true then some (minP y ys) else none) = some z := hz
          split at hz
          · rename_i ok
            cases hz
            exact cr_minA hc hu pins s σ H _ us Q I rv ⟨p, g.F, y, ys, ws, rfl, ok, SqL.of q1, q3, fun v hv => a.same hv⟩
          · cases hz
    | _ => cases hz
  | max2 =>
    simp only [blt] at h
    split at h
    · rename_i i j
      cases r with
      | cons a1 t =>
      cases t with
      | cons a2 t =>
      cases t
      have b1 : RepP (cfgOf X ca) g.F H (.int i) _ := a1
      have b2 : RepP (cfgOf X ca) g.F H (.int j) _ := a2
      simp only [RepP] at b1 b2
      subst b1 b2
      exact call_max2 hc pins s σ H _ us Q I rv ⟨i, j, rfl, (h.ans w).int⟩
    · rename_i i j
      cases r with
      | cons a1 t =>
      cases t with
      | cons a2 t =>
      cases t
      have b1 : RepP (cfgOf X ca) g.F H (.str i) _ := a1
      have b2 : RepP (cfgOf X ca) g.F H (.str j) _ := a2
      simp only [RepP] at b1 b2
      obtain ⟨b1, s1⟩ := b1
      obtain ⟨b2, s2⟩ := b2
      subst b1 b2
      exact cr_max2S hc hu pins s σ H _ us Q I rv ⟨i, j, rfl, (h.ans w).str (by split <;> assumption)⟩
    · exact h.elim
  | min2 =>
    simp only [blt] at h
    split at h
    · rename_i i j
      cases r with
      | cons a1 t =>
      cases t with
      | cons a2 t =>
      cases t
      have b1 : RepP (cfgOf X ca) g.F H (.int i) _ := a1
      have b2 : RepP (cfgOf X ca) g.F H (.int j) _ := a2
      simp only [RepP] at b1 b2
      subst b1 b2
      exact call_min2 hc pins s σ H _ us Q I rv ⟨i, j, rfl, (h.ans w).int⟩
    · rename_i i j
      cases r with
      | cons a1 t =>
      cases t with
      | cons a2 t =>
      cases t
      have b1 : RepP (cfgOf X ca) g.F H (.str i) _ := a1
      have b2 : RepP (cfgOf X ca) g.F H (.str j) _ := a2
      simp only [RepP] at b1 b2
      obtain ⟨b1, s1⟩ := b1
      obtain ⟨b2, s2⟩ := b2
      subst b1 b2
      exact cr_min2S hc hu pins s σ H _ us Q I rv ⟨i, j, rfl, (h.ans w).str (by split <;> assumption)⟩
    · exact h.elim
end
end PyM
namespace PyM
open PySem PySem.Spec PyProof.Rows L2

/-! ### comparisons by values -/
def rC (c : Cfg) : COp → R2
  | .eq => rEqD c.K
  | .ne => rNeD c.K
  | .lt => fun x y H Q => rI0 (fun i j => .bl (decide (i < j))) x y H Q ∨ ((∃ i j, x = .str i ∧ y = .str j ∧ Q (.bl (decide (i.cps.toList < j.cps.toList))) H) ∨ rLtD c.K x y H Q)
  | .le => fun x y H Q => rI0 (fun i j => .bl (decide (i ≤ j))) x y H Q ∨ (∃ i j, x = .str i ∧ y = .str j ∧ Q (.bl (!decide (j.cps.toList < i.cps.toList))) H)
  | .gt => fun x y H Q => rI0 (fun i j => .bl (decide (j < i))) x y H Q ∨ (∃ i j, x = .str i ∧ y = .str j ∧ Q (.bl (decide (j.cps.toList < i.cps.toList))) H)
  | .ge => rI0 fun i j => .bl (decide (j ≤ i))
  | .isin => fun x y H Q => rInT c.K false x y H Q ∨ (rInD c.K x y H Q ∨ rInK c false x y H Q)
  | .notin => fun x y H Q => rInT c.K true x y H Q ∨ (rNotInD c.K x y H Q ∨ rInK c true x y H Q)
  | .isN => fun x y H Q => y = .non ∧ Q (.bl (decide (x = .non))) H
  | .notN => fun x y H Q => y = .non ∧ Q (.bl (!decide (x = .non))) H
theorem op_cop {X : Cx} {ca : Str → Option Addr} (hu : X.A.units + 65 < cLine) (o : COp) : OpR X (compareOp (copOf o)) (rC (cfgOf X ca) o) := by
  have hu' : X.A.units + 64 < cLine := by omega
  cases o with
  | eq => exact op_eqD hu'
  | ne => exact op_neD hu'
  | lt => exact op_lt.or (op_lt_str.or (op_ltD hu'))
  | le => exact op_le.or op_le_str
  | gt => exact op_gt.or op_gt_str
  | ge => exact op_ge
  | isin => exact (op_inT hu).or ((op_inD hu).or (op_inK hu'))
  | notin => exact (op_notInT hu).or ((op_notInD hu).or (op_notInK hu'))
  | isN => exact op_isN
  | notN => exact op_notN
/-- == of two dicts that are alike -/
def rDq : R2 := fun x y H Q => ∃ a b kvs, x = .ref a ∧ y = .ref b ∧ Rd H a (.dK kvs) ∧ Rd H b (.dK kvs) ∧ (kvs.map (·.1)).Nodup ∧ (∀ p ∈ kvs, flatB p.2 = true) ∧ Q (.bl true) H
theorem op_dq {X : Cx} (hu : X.A.units < cLine) : OpR X (compareOp .Eq) rDq := by
  intro pins s σ H x y v u Q I rx ry h
  obtain ⟨a, b, kvs, rfl, rfl, ea, eb, nd, fl, q⟩ := h
  obtain rfl : v = Value.ref a := rx
  obtain rfl : u = Value.ref b := ry
  obtain ⟨_, ya, va, ra, da⟩ := (show ObjOk X.prog X.w H s.heap a (.dK kvs) from ea.ok I.hok)
  obtain ⟨_, yb, vb, rb, db⟩ := (show ObjOk X.prog X.w H s.heap b (.dK kvs) from eb.ok I.hok)
  have hl : va.length = vb.length := ra.length.symm.trans rb.length
  exact PySem.W.keq_eq (knd := mixKind X.prog X.w) (r := true) ya yb da db hu (fun _ => hits_all rb ra fun p hp => ⟨val_nodup nd p hp, fl p hp⟩) (fin_bl I q (by simp [hl]))
section
variable {c : Cfg} {F : Addr → Prop} {H : Hp}
theorem RepP.non_iff {p : P} {x : V} (h : RepP c F H p x) : decide (x = .non) = decide (p = .non) := by
  cases p <;> simp only [RepP] at h
  · subst h; simp
  · subst h; simp
  · subst h; simp
  · rw [h.1]; simp
  · subst h; simp
  · obtain ⟨a, _, e, _⟩ := h; rw [e]; simp
  · obtain ⟨a, _, e, _⟩ := h; rw [e]; simp
  · obtain ⟨a, _, e, _⟩ := h; rw [e]; simp
  · obtain ⟨a, _, _, e, _⟩ := h; rw [e]; simp
  · obtain ⟨a, e, _⟩ := h; rw [e]; simp
theorem toPDs_map (xs : List P) : P.toPDs xs = xs.map P.toPD := by
  induction xs with
  | nil => rfl
  | cons x xs ih => rw [P.toPDs, List.map_cons, ih]
theorem any_toPDs (x : P) (ys : List P) : ((P.toPDs ys).any fun z => PyData.eqv z x.toPD) = ys.any fun y => PyData.eqv y.toPD x.toPD := by
  rw [toPDs_map, List.any_map]; rfl
theorem pmem_tup {x : P} {ys : List P} {b : Bool} (h : pmem x ys = some b) : x.eqok = true ∧ (P.tup ys).eqok = true ∧ (P.lst ys).eqok = true ∧ b = ys.any fun y => PyData.eqv y.toPD x.toPD := by
  unfold pmem at h
  split at h
  · rename_i q
    cases h
    rw [Bool.and_eq_true] at q
    refine ⟨q.1, ?_, q.2, rfl⟩
    have := q.2
    simpa [P.eqok, P.flat, P.depth] using this
  · cases h
theorem RepP.lst_tup_fit {k : P} {kvs : List (P × P)} {es : List Ent} (h : kfit kvs k = true) (e : es.map (·.1) = kvs.map (·.1)) : fitE es k := by
  have z : ∀ (f : P → Bool), (kvs.all fun q => f q.1) = true → ∀ e ∈ es, f e.1 = true := fun f hf e' he => by
    have m : e'.1 ∈ kvs.map (·.1) := by rw [← e]; exact List.mem_map_of_mem he
    obtain ⟨q, hq, eq⟩ := List.mem_map.mp m
    have := List.all_eq_true.mp hf q hq
    rw [← eq]; exact this
  unfold kfit at h
  rw [Bool.or_eq_true, Bool.and_eq_true, Bool.and_eq_true] at h
  rcases h with ⟨a, b⟩ | ⟨a, b⟩
  · exact .inl ⟨a, z _ b⟩
  · exact .inr ⟨a, z _ b⟩
theorem RepKs.lk {kvs : List (P × P)} {es : List Ent} (r : RepKs c F H kvs es) (k : P) : (∃ x v, lkp kvs k = some x ∧ lkE es k = some v ∧ RepP c F H x v) ∨ (lkp kvs k = none ∧ lkE es k = none) := by
  have r' : RepDk c ⟨fun _ => 0, F⟩ 0 H (kvs.map fun q => (q.1, .p q.2)) es := RepKs.dk (g := ⟨fun _ => 0, F⟩) r
  have e : lkp (kvs.map fun q => (q.1, D.p q.2)) k = (lkp kvs k).map .p := by
    unfold lkp
    rw [List.find?_map, Option.map_map, Option.map_map]
    rfl
  rcases r'.lk k with ⟨d, v, h1, h2, h3⟩ | ⟨h1, h2⟩
  · rw [e] at h1
    obtain ⟨x, hx, rfl⟩ := Option.map_eq_some_iff.mp h1
    exact .inl ⟨x, v, hx, h2, h3⟩
  · rw [e, Option.map_eq_none_iff] at h1
    exact .inr ⟨h1, h2⟩
theorem RepKs.some_iff {kvs : List (P × P)} {es : List Ent} (r : RepKs c F H kvs es) (k : P) : (lkE es k).isSome = (lkp kvs k).isSome := by
  rcases r.lk k with ⟨d, v, h1, h2, h3⟩ | ⟨h1, h2⟩
  · rw [h1, h2]; rfl
  · rw [h1, h2]; rfl
theorem RepKs.fst {kvs : List (P × P)} {es : List Ent} (r : RepKs c F H kvs es) : es.map (·.1) = kvs.map (·.1) := by
  have r' : RepDk c ⟨fun _ => 0, F⟩ 0 H (kvs.map fun q => (q.1, .p q.2)) es := RepKs.dk (g := ⟨fun _ => 0, F⟩) r
  have := r'.fst
  rw [List.map_map] at this
  exact this
theorem rIn_of {c : Cfg} {neg : Bool} {p q : P} {b : Bool} {x y : V} {Q : VK} (hx : RepP c F H p x) (hy : RepP c F H q y) (hb : pin p q = some b) (h : Q (.bl (if neg then !b else b)) H) :
    rInT c.K neg x y H Q ∨ ((if neg then rNotInD c.K x y H Q else rInD c.K x y H Q) ∨ rInK c neg x y H Q) := by
  cases q with
  | tup ys =>
    obtain ⟨h1, h2, h3, rfl⟩ := pmem_tup hb
    obtain ⟨d1, s1⟩ := eqok_dp h1 hx
    obtain ⟨d2, s2⟩ := eqok_dp h2 hy
    refine .inl ⟨_, _, d1, d2, s1, s2, ?_⟩
    rw [any_toPDs]
    exact h
  | lst ys =>
    obtain ⟨h1, h2, h3, rfl⟩ := pmem_tup hb
    obtain ⟨d1, s1⟩ := eqok_dp h1 hx
    obtain ⟨d2, s2⟩ := eqok_dp h3 hy
    refine .inr (.inl ?_)
    cases neg with
    | true =>
      refine ⟨_, _, d1, d2, s1, s2, ?_⟩
      rw [any_toPDs]
      exact h
    | false =>
      refine ⟨_, _, d1, d2, s1, s2, ?_⟩
      rw [any_toPDs]
      exact h
  | dct kvs =>
    simp only [pin] at hb
    split at hb
    · rename_i fit
      cases hb
      rw [RepP] at hy
      obtain ⟨a, es, rfl, ⟨_, da⟩, rk⟩ := hy
      refine .inr (.inr ⟨a, es, F, p, rfl, da, RepKs.keys (g := ⟨fun _ => 0, F⟩) rk, hx, RepP.lst_tup_fit fit rk.fst, ?_⟩)
      rw [rk.some_iff]
      exact h
    · cases hb
  | _ => cases hb
theorem rC_of {o : COp} {p q : P} {b : Bool} {x y : V} {Q : VK} (hx : RepP c F H p x) (hy : RepP c F H q y) (hb : cop o p q = some b) (h : Q (.bl b) H) : rC c o x y H Q := by
  have eqs : ∀ {b}, peq p q = some b → p.eqok = true ∧ q.eqok = true ∧ b = PyData.eqv p.toPD q.toPD := fun {b} hb => by
    unfold peq at hb
    split at hb
    · rename_i q
      cases hb
      rw [Bool.and_eq_true] at q
      exact ⟨q.1, q.2, rfl⟩
    · cases hb
  cases o with
  | eq =>
    obtain ⟨h1, h2, rfl⟩ := eqs hb
    obtain ⟨d1, s1⟩ := eqok_dp h1 hx
    obtain ⟨d2, s2⟩ := eqok_dp h2 hy
    exact ⟨_, _, d1, d2, s1, s2, h⟩
  | ne =>
    obtain ⟨b', hb', rfl⟩ := Option.map_eq_some_iff.mp hb
    obtain ⟨h1, h2, rfl⟩ := eqs hb'
    obtain ⟨d1, s1⟩ := eqok_dp h1 hx
    obtain ⟨d2, s2⟩ := eqok_dp h2 hy
    exact ⟨_, _, d1, d2, s1, s2, h⟩
  | lt =>
    have hb : plt p q = some b := hb
    unfold plt at hb
    split at hb
    · simp only [RepP] at hx hy
      cases hb
      exact .inl ⟨_, _, hx, hy, h⟩
    · simp only [RepP] at hx hy
      cases hb
      exact .inr (.inl ⟨_, _, hx.1, hy.1, h⟩)
    · split at hb
      · rename_i lo
        cases hb
        obtain ⟨h1, h2, h3, h4⟩ := ltok_parts lo
        obtain ⟨d1, s1⟩ := eqok_dp h1 hx
        obtain ⟨d2, s2⟩ := eqok_dp h2 hy
        refine .inr (.inr ⟨_, _, d1, d2, h3, h4, ?_, h⟩)
        have := SeqAt.depth_of_shaped s1
        omega
      · cases hb
  | le =>
    cases p <;> cases q <;> first | (cases hb; done) | skip
    · simp only [RepP] at hx hy
      cases hb
      exact .inl ⟨_, _, hx, hy, h⟩
    · simp only [RepP] at hx hy
      cases hb
      exact .inr ⟨_, _, hx.1, hy.1, h⟩
  | gt =>
    cases p <;> cases q <;> first | (cases hb; done) | skip
    · simp only [RepP] at hx hy
      cases hb
      exact .inl ⟨_, _, hx, hy, h⟩
    · simp only [RepP] at hx hy
      cases hb
      exact .inr ⟨_, _, hx.1, hy.1, h⟩
  | ge =>
    cases p <;> cases q <;> first | (cases hb; done) | skip
    simp only [RepP] at hx hy
    cases hb
    exact ⟨_, _, hx, hy, h⟩
  | isin =>
    have q := rIn_of (neg := false) hx hy (show pin p q = some b from hb) h
    simpa [rC] using q
  | notin =>
    obtain ⟨b', hb', rfl⟩ := Option.map_eq_some_iff.mp hb
    have q := rIn_of (neg := true) hx hy hb' h
    simpa [rC] using q
  | isN =>
    cases q <;> first | (cases p <;> cases hb; done) | skip
    have hb' : some (decide (p = P.non)) = some b := by cases p <;> exact hb
    cases hb'
    simp only [RepP] at hy
    refine ⟨hy, ?_⟩
    rw [hx.non_iff]
    exact h
  | notN =>
    cases q <;> first | (cases p <;> cases hb; done) | skip
    have hb' : some (!decide (p = P.non)) = some b := by cases p <;> exact hb
    cases hb'
    simp only [RepP] at hy
    refine ⟨hy, ?_⟩
    rw [hx.non_iff]
    exact h
theorem truV_of {p : P} {x : V} {b : Bool} (hx : RepP c F H p x) (hb : truth p = some b) : TruV c.K x H b := by
  cases p with
  | non => simp only [RepP] at hx; subst hx; cases hb; rfl
  | bl i => simp only [RepP] at hx; subst hx; cases hb; rfl
  | int i => simp only [RepP] at hx; subst hx; cases hb; rfl
  | str i => simp only [RepP] at hx; rw [hx.1]; cases hb; exact ⟨hx.2.2, rfl⟩
  | tup xs =>
    rw [RepP] at hx
    obtain ⟨a, vs, rfl, t, z, r⟩ := hx
    cases hb
    refine .inr (.inl ⟨vs, t.sq, ?_⟩)
    have := r.len
    cases xs <;> cases vs <;> simp_all
  | lst xs =>
    rw [RepP] at hx
    obtain ⟨a, vs, rfl, ⟨_, t⟩, z, r⟩ := hx
    cases hb
    refine .inl ⟨vs, SqL.of t, ?_⟩
    have := r.len
    cases xs <;> cases vs <;> simp_all
  | _ => cases hb
end
end PyM
namespace PyM
open PySem PySem.Spec PyProof.Rows L2

theorem sOk.of_cps {x : Str} {l : List Nat} (hx : sOk x) (hs : ∀ a ∈ l, a ∈ x.cps.toList) (hl : l.length ≤ x.length) : sOk ⟨l.toArray⟩ := by
  obtain ⟨a, b⟩ := hx
  refine ⟨?_, ?_⟩
  · unfold PyData.strOk at a ⊢
    rw [Array.all_eq_true_iff_forall_mem] at a ⊢
    intro z hz
    exact a z (by simpa using hs z (by simpa using hz))
  · show l.toArray.size ≤ _
    rw [List.size_toArray]
    exact Nat.le_trans hl b
theorem sOk.cut {x : Str} (hx : sOk x) (lo hi : Option Int) : sOk (cutS x lo hi) := by
  have := cutS_length x lo hi
  refine hx.of_cps (fun a ha => List.mem_of_mem_drop (List.mem_of_mem_take ha)) ?_
  have e : (cutS x lo hi).length = ((x.cps.toList.drop (HT.sIx x.length 0 lo)).take (HT.sIx x.length x.length hi - HT.sIx x.length 0 lo)).length := by
    show (List.toArray _).size = _
    rw [List.size_toArray]
  rw [← e]
  exact this
theorem sOk.one {x : Str} (hx : sOk x) {ch : Nat} (hc : ch ∈ x.cps.toList) : sOk ⟨#[ch]⟩ := by
  refine hx.of_cps (l := [ch]) (fun a ha => by simp at ha; subst ha; exact hc) ?_
  show 1 ≤ x.cps.size
  have := List.length_pos_of_mem hc
  rw [Array.length_toList] at this
  exact this
theorem atI_mem {α : Type} {xs : List α} {i : Int} {v : α} (h : atI xs i = some v) : v ∈ xs := by
  obtain ⟨j, _, e, _⟩ := atI_get h
  exact List.mem_of_getElem? e

/-! ### o[i] -/
def rIxA (c : Cfg) : R2 := fun x y H Q => rIxL c.K x y H Q ∨ (rIxT c.K x y H Q ∨ (rIxS x y H Q ∨ rIxK c x y H Q))
theorem ix_all {X : Cx} {ca : Str → Option Addr} (hu : X.A.units + 64 < cLine) : IxR X (rIxA (cfgOf X ca)) := by
  have h1 : IxR X (fun x y H Q => rIxS x y H Q ∨ rIxK (cfgOf X ca) x y H Q) := ix_str.or (ix_dct hu)
  have h2 : IxR X (fun x y H Q => rIxT X.K x y H Q ∨ (rIxS x y H Q ∨ rIxK (cfgOf X ca) x y H Q)) := ix_tup.or h1
  exact ix_list.or h2
section
variable {c : Cfg} {g : Gh} {st : Sto} {N : Nat} {H : Hp} {F : Addr → Prop}
theorem RepPs.atI {xs : List P} {vs : List V} {i : Int} {x : P} (r : RepPs c F H xs vs) (h : L2.atI xs i = some x) : ∃ v, L2.atI vs i = some v ∧ RepP c F H x v := by
  unfold L2.atI at h ⊢
  rw [r.len]
  cases e : ixN xs.length i with
  | none => rw [e] at h; cases h
  | some j =>
    rw [e] at h
    exact r.get h
theorem RepDs.atI {xs : List D} {vs : List V} {i : Int} {x : D} (r : RepDs c g N H xs vs) (h : L2.atI xs i = some x) : ∃ v, L2.atI vs i = some v ∧ RepD c g N H x v := by
  unfold L2.atI at h ⊢
  rw [r.len]
  cases e : ixN xs.length i with
  | none => rw [e] at h; cases h
  | some j =>
    rw [e] at h
    exact r.get h
theorem fit_of {α : Type} {k : P} {kvs : List (P × α)} {es : List Ent} (h : kfit kvs k = true) (e : es.map (·.1) = kvs.map (·.1)) : fitE es k := by
  have z : ∀ (f : P → Bool), (kvs.all fun q => f q.1) = true → ∀ e ∈ es, f e.1 = true := fun f hf e' he => by
    have m : e'.1 ∈ kvs.map (·.1) := by rw [← e]; exact List.mem_map_of_mem he
    obtain ⟨q, hq, eq⟩ := List.mem_map.mp m
    have := List.all_eq_true.mp hf q hq
    rw [← eq]; exact this
  unfold kfit at h
  rw [Bool.or_eq_true, Bool.and_eq_true, Bool.and_eq_true] at h
  rcases h with ⟨a, b⟩ | ⟨a, b⟩
  · exact .inl ⟨a, z _ b⟩
  · exact .inr ⟨a, z _ b⟩
theorem ixA_of {o i d : D} {x y : V} {Q : VK} (w : Wd c g st H) (rx : RepD c g st.length H o x) (ry : RepD c g st.length H i y) (h : ixD st o i = some d) (q : ∀ v, RepD c g st.length H d v → Q v H) : rIxA c x y H Q := by
  cases o with
  | p o =>
    cases i with
    | loc n => cases o <;> cases h
    | p i =>
      have rx' : RepP c g.F H o x := rx
      have ry' : RepP c g.F H i y := ry
      cases o with
      | tup xs =>
        cases i with
        | int k =>
          simp only [ixD] at h
          obtain ⟨e, he, rfl⟩ := Option.map_eq_some_iff.mp h
          rw [RepP] at rx'
          obtain ⟨a, vs, rfl, t, z, r⟩ := rx'
          obtain ⟨v, hv, rv⟩ := r.atI he
          simp only [RepP] at ry'
          exact .inr (.inl ⟨a, vs, k, v, rfl, ry', t.sq, hv, q v rv⟩)
        | _ => cases h
      | lst xs =>
        cases i with
        | int k =>
          simp only [ixD] at h
          obtain ⟨e, he, rfl⟩ := Option.map_eq_some_iff.mp h
          rw [RepP] at rx'
          obtain ⟨a, vs, rfl, ⟨_, t⟩, z, r⟩ := rx'
          obtain ⟨v, hv, rv⟩ := r.atI he
          simp only [RepP] at ry'
          exact .inl ⟨a, vs, k, v, rfl, ry', SqL.of t, hv, q v rv⟩
        | _ => cases h
      | str s =>
        cases i with
        | int k =>
          simp only [ixD] at h
          obtain ⟨e, he, rfl⟩ := Option.map_eq_some_iff.mp h
          simp only [RepP] at rx' ry'
          refine .inr (.inr (.inl ⟨s, k, e, rx'.1, ry', rx'.2.2, he, q _ ?_⟩))
          show RepP c g.F H _ _
          rw [RepP]
          exact ⟨rfl, rx'.2.one (atI_mem he)⟩
        | _ => cases h
      | dct kvs =>
        simp only [ixD] at h
        split at h
        · rename_i fit
          obtain ⟨e, he, rfl⟩ := Option.map_eq_some_iff.mp h
          rw [RepP] at rx'
          obtain ⟨a, es, rfl, ⟨_, da⟩, rk⟩ := rx'
          rcases rk.lk i with ⟨e', v, h1, h2, h3⟩ | ⟨h1, _⟩
          · rw [he] at h1
            cases h1
            exact .inr (.inr (.inr ⟨a, es, g.F, i, v, rfl, da, rk.keys, ry', fit_of fit rk.fst, h2, q v h3⟩))
          · rw [he] at h1; cases h1
        · cases h
      | _ => cases h
  | loc n =>
    cases i with
    | loc m => cases h
    | p i =>
      obtain ⟨hn, rfl⟩ := rx
      have ry' : RepP c g.F H i y := ry
      simp only [ixD] at h
      split at h
      · rename_i xs e
        obtain ⟨vs, h1, z, r⟩ := w.obs n _ e
        cases i with
        | int k =>
          obtain ⟨v, hv, rv⟩ := r.atI h
          simp only [RepP] at ry'
          exact .inl ⟨_, vs, k, v, rfl, ry', SqL.of h1, hv, q v rv⟩
        | _ => cases h
      · rename_i kvs e
        obtain ⟨es, da, rk⟩ := w.obs n _ e
        split at h
        · rename_i fit
          rcases rk.lk i with ⟨e', v, h1, h2, h3⟩ | ⟨h1, _⟩
          · rw [h] at h1
            cases h1
            exact .inr (.inr (.inr ⟨_, es, g.F, i, v, rfl, da.r, rk.keys, ry', fit_of fit rk.fst, h2, q v h3⟩))
          · rw [h] at h1; cases h1
        · cases h
      · cases h
end

/-! ### o[i] = d -/
def rSetA (c : Cfg) : TSet := fun o i v H Q => rSetL o i v H Q ∨ ∃ a es F k, o = .ref a ∧ DctW c H a es ∧ KeysE c F H es ∧ RepP c F H k i ∧ fitE es k ∧ es.length < sizeLine ∧ ∀ ob, DctW c (upd H a ob) a (putE es k i v) → Q (upd H a ob)
theorem set_all {X : Cx} {ca : Str → Option Addr} (hu : X.A.units + 64 < cLine) : PSet X (rSetA (cfgOf X ca)) := by
  intro pins s σ H o i v ov iv u Q I ro ri rv h
  rcases h with h | ⟨a, es, F, k, rfl, da, ke, rk, ft, z, q⟩
  · exact set_list pins s σ H o i v ov iv u Q I ro ri rv h
  · cases ro
    exact d_store hu I da ke rk ft z ri rv fun ob s' I' d' => ⟨_, I', q ob d'⟩
section
variable {c : Cfg} {g : Gh} {st : Sto} {H : Hp}
theorem setA_of {st' : Sto} {o i d : D} {x y v : V} {Q : Hp → Prop} (w : Wd c g st H) (rx : RepD c g st.length H o x) (ry : RepD c g st.length H i y) (rv : RepD c g st.length H d v) (h : setIx st o i d = some st')
    (q : ∀ H', Ext g st.length H g st'.length H' → Wd c g st' H' → Q H') : rSetA c x y v H Q := by
  cases o with
  | p o => cases i <;> cases h
  | loc n =>
    cases i with
    | loc m => cases h
    | p k =>
      obtain ⟨hn, rfl⟩ := rx
      have ry' : RepP c g.F H k y := ry
      simp only [setIx] at h
      split at h
      · rename_i xs e
        obtain ⟨vs, h1, z, r⟩ := w.obs n _ e
        cases k with
        | int j =>
          simp only at h
          split at h
          · rename_i m hm
            cases h
            simp only [RepP] at ry'
            refine .inl ⟨_, vs, j, m, rfl, ry', h1, by rw [r.len]; exact hm, ?_⟩
            have x := Ext.set (o := .lst (vs.set m v)) w e (by simp)
            refine q _ (by rw [List.length_set]; exact x) (Wd.set w e (by simp) ⟨_, upd_same, by rw [List.length_set]; exact z, ?_⟩)
            exact (r.set m rv).mono x
          · cases h
        | _ => cases h
      · rename_i kvs e
        obtain ⟨es, da, rk⟩ := w.obs n _ e
        split at h
        · rename_i fit
          cases h
          refine .inr ⟨_, es, g.F, k, rfl, da, rk.keys, ry', fit_of fit.1 rk.fst, by rw [rk.len]; exact fit.2, fun ob d' => ?_⟩
          have x := Ext.set (o := ob) w e (by simp)
          exact q _ (by rw [List.length_set]; exact x) (Wd.set w e (by simp) ⟨_, d', (rk.put ry' rv).mono x⟩)
        · cases h
      · cases h
end

/-! ### slices -/
def rSlX (c : Cfg) : V → Option Int → Option Int → Hp → VK → Prop := fun x lo hi H Q => rSlS x lo hi H Q ∨ (rSlA c.K x lo hi H Q ∨ rSlL c.K x lo hi H Q)
theorem sl_all {X : Cx} {ca : Str → Option Addr} : SlR X (rSlX (cfgOf X ca)) := SlR.or sl_str (SlR.or sl_tupA sl_list)
section
variable {c : Cfg} {g : Gh} {st : Sto} {H : Hp} {F : Addr → Prop}
theorem RepPs.cut {xs : List P} {vs : List V} (r : RepPs c F H xs vs) (lo hi : Option Int) : RepPs c F H (cutL xs lo hi) (cutV vs lo hi) := by
  unfold cutL cutV
  rw [r.len]
  exact (r.drop _).take _
theorem cut_whole {α : Type} {xs : List α} {lo hi : Option Int} (h : HT.sIx xs.length 0 lo = 0 ∧ HT.sIx xs.length xs.length hi = xs.length) : cutL xs lo hi = xs := by
  unfold cutL
  rw [h.1, h.2]
  simp
theorem slX_of {l : Bool} {d : D} {p : P} {x : V} {lo hi : Option Int} {E : EH} {Q : VK} (w : Wd c g st H) (rx : RepD c g st.length H d x) (hp : rd st d = some p) (h : EndR c g st H E (RepD c) (slD st l p lo hi) Q) : rSlX c x lo hi H Q := by
  cases p with
  | str z =>
    have e := rd_p hp rfl
    subst e
    have r2 : RepP c g.F H (.str z) x := rx
    rw [RepP] at r2
    exact .inl ⟨z, r2.1, r2.2.2, (h.ans w).str (r2.2.cut lo hi)⟩
  | tup xs =>
    obtain ⟨a, vs, rfl, t, z, r⟩ := rd_tup rx hp
    have e := rd_p hp rfl
    subst e
    refine .inr (.inl ⟨a, vs, rfl, t, fun hw => ?_, fun _ q hq => ?_⟩)
    · have a := h.ans w
      rw [cut_whole (by rw [← r.len]; exact hw)] at a
      exact a.same rx
    · exact (h.ans w).tup (r.cut lo hi) (Nat.le_trans (cutV_length _ _ _) z) q hq
  | lst xs =>
    obtain ⟨a, vs, rfl, h1, z, r⟩ := rd_lst w rx hp
    exact .inr (.inr ⟨a, vs, rfl, SqL.of h1, fun q hq => mkL_end h w (RepDs.of (r.cut lo hi)) (Nat.le_trans (cutV_length _ _ _) z) q hq⟩)
  | scr ns =>
    have e := rd_p hp rfl
    subst e
    have r2 : RepP c g.F H (.scr ns) x := rx
    rw [RepP] at r2
    obtain ⟨a, rfl, t, z⟩ := r2
    refine .inr (.inr ⟨a, _, rfl, t.sq, fun q hq => mkL_end (ds := (cutL ns lo hi).map fun n => .p (.int n)) h w ?_ (Nat.le_trans (cutV_length _ _ _) (by rw [List.length_map]; exact z)) q hq⟩)
    have e : cutV (ns.map V.int) lo hi = (cutL ns lo hi).map V.int := by
      unfold cutV cutL
      rw [List.length_map, List.map_take, List.map_drop]
    rw [e]
    generalize cutL ns lo hi = ms
    induction ms with
    | nil => exact .nil
    | cons n ms ih => exact .cons (by show RepP _ _ _ _ _; rw [RepP]) ih
  | _ => exact h.elim
end

/-! ### methods -/
/-- of that type, wherever it is held -/
def TyIs (X : Cx) (T : String) (x : V) (H : Hp) : Prop := ∀ (pins : List (Addr × Obj)) (σ : PSt) (s : Shared) (v : Value), Inv X pins σ H s → RelV x v → s.TypeIs v T ∧ ∀ a, v = .ref a → ∃ ob, s.heap.get? a = some ob ∧ ob.dict = none
def tBX (X : Cx) (T : String) (r : V → List V → Hp → VK → Prop) (to : TE) (t : TA) : TE := fun σ H Q => to σ H fun x H1 => TyIs X T x H1 ∧ t σ H1 fun xs H2 => r x xs H2 Q
theorem pe_bx {X : Cx} {o e : Expr} {es : List Expr} {to : TE} {t : TA} {name : Str} {apos cpos : Pos} {T id : String} {r : V → List V → Hp → VK → Prop} (pa : PlainAttrs T) (slot : Slot T name id) (hty : typeOf (.builtin id) = pure (.type "method_descriptor")) (hm : MtR X id r) (ho : PE X o to) (ha : PA X (e :: es) t)
    (hbase : attributeBase o name X.env (eval o X.env) = eval o X.env)
    (hfew : ((backTo cpos (starEach (e :: es) X.env)).all (fun x => !x.1) && (backToKw cpos (keywordEach [] X.env)).all (fun x => x.1.isSome)
      && decide ((e :: es).length + ([] : List Keyword).length + (if ([] : List Keyword).isEmpty then 0 else 1) < 30)) = true)
    (hline : (apos.endLine == cpos.line) = true) (hs : starEach (e :: es) X.env = (false, eval e X.env) :: starEach es X.env) (hplain : (backTo cpos (starEach es X.env)).any (·.1) = false) :
    PE X (.Call (.Attribute o name apos) (e :: es) [] cpos) (tBX X T r to t) := by
  refine ⟨fun pins s σ H Q I h => ?_⟩
  refine wpAny_Call_method_late hbase hfew hline rfl (thn (ho.run pins s σ H _ I h) fun v s1 ⟨x, H1, I1, r1, ty, q1⟩ => ?_)
  obtain ⟨h1, h2⟩ := ty pins σ s1 v I1 r1
  refine ⟨T, id, pa, slot, hty, h1, h2, ?_⟩
  have hA := ha.run cpos pins s1 σ H1 _ I1 q1
  rw [hs] at hA ⊢
  refine Calls.callWith_builtin (by show (false || (backTo cpos (starEach es X.env)).any (·.1)) = false; rw [hplain] <;> rfl) (Calls.evalArgs_plain ?_)
  exact thn hA fun us s2 ⟨vs, H2, I2, r2, q2⟩ => hm pins s2 σ H2 x vs v us Q I2 r1 r2 q2
theorem pe_bx0 {X : Cx} {o : Expr} {to : TE} {name : Str} {apos cpos : Pos} {T id : String} {r : V → List V → Hp → VK → Prop} (pa : PlainAttrs T) (slot : Slot T name id) (hty : typeOf (.builtin id) = pure (.type "method_descriptor")) (hm : MtR X id r) (ho : PE X o to)
    (hbase : attributeBase o name X.env (eval o X.env) = eval o X.env) (hline : (apos.endLine == cpos.line) = true) : PE X (.Call (.Attribute o name apos) [] [] cpos) (tBX X T r to tNil) := by
  refine ⟨fun pins s σ H Q I h => ?_⟩
  refine wpAny_Call_method0_late hbase hline (thn (ho.run pins s σ H _ I h) fun v s1 ⟨x, H1, I1, r1, ty, q1⟩ => ?_)
  obtain ⟨h1, h2⟩ := ty pins σ s1 v I1 r1
  exact ⟨T, id, pa, slot, hty, h1, h2, Calls.callWith_builtin rfl (PySem.evalArgs_none (hm pins s1 σ H1 x [] v [] Q I1 r1 .nil q1))⟩
def mthT : Mth → String
  | .append => "list" | .extend => "list" | .get2 => "dict" | .popk => "dict" | .popi => "list" | .ins => "list" | .lclr => "list" | .dclr => "dict" | .rvs => "list"
def mthN : Mth → Str
  | .append => "append" | .extend => "extend" | .get2 => "get" | .popk => "pop" | .popi => "pop" | .ins => "insert" | .lclr => "clear" | .dclr => "clear" | .rvs => "reverse"
def mthId : Mth → String
  | .append => "list.append" | .extend => "list.extend" | .get2 => "dict.get" | .popk => "dict.pop" | .popi => "list.pop" | .ins => "list.insert" | .lclr => "list.clear" | .dclr => "dict.clear" | .rvs => "list.reverse"
theorem mth_pa (m : Mth) : PlainAttrs (mthT m) := by
  cases m
  · exact F.plainAttrs_list
  · exact F.plainAttrs_list
  · exact F.plainAttrs_dict
  · exact F.plainAttrs_dict
  · exact F.plainAttrs_list
  · exact F.plainAttrs_list
  · exact F.plainAttrs_list
  · exact F.plainAttrs_dict
  · exact F.plainAttrs_list
theorem mth_slot (m : Mth) : Slot (mthT m) (mthN m) (mthId m) := by
  cases m
  · exact F.slot_list_append
  · exact F.slot_list_extend
  · exact F.slot_dict_get
  · exact F.slot_dict_pop
  · exact F.slot_list_pop
  · exact F.slot_list_insert
  · exact F.slot_list_clear
  · exact F.slot_dict_clear
  · exact F.slot_list_reverse
theorem mth_ty (m : Mth) : typeOf (.builtin (mthId m)) = pure (.type "method_descriptor") := by
  cases m <;> kernel_rfl
def rMt (c : Cfg) (m : Mth) : V → List V → Hp → VK → Prop := fun x vs H Q => ∃ g st d ds E, RepD c g st.length H d x ∧ RepDs c g st.length H ds vs ∧ Wd c g st H ∧ EndR c g st H E (RepD c) (mth m d ds st) Q
section
variable {X : Cx} {ca : Str → Option Addr}
theorem mok_ty {g : Gh} {st : Sto} {H : Hp} {m : Mth} {d : D} {x : V} (w : Wd (cfgOf X ca) g st H) (r : RepD (cfgOf X ca) g st.length H d x) (h : mok st m d = true) : TyIs X (mthT m) x H := by
  intro pins σ s v I rv
  have lst : ∀ n xs, d = .loc n → st[n]? = some (.lst xs) → s.TypeIs v "list" ∧ ∀ a, v = .ref a → ∃ ob, s.heap.get? a = some ob ∧ ob.dict = none := fun n xs e e2 => by
    subst e
    obtain ⟨hn, rfl⟩ := r
    obtain ⟨vs, h1, z, _⟩ := w.obs n _ e2
    exact tyV_is I rv (show tyV X.K "list" (.ref (g.lm n)) H from .inl ⟨rfl, vs, SqL.of h1⟩)
  have dct : ∀ a es, x = .ref a → DctAt (cfgOf X ca) H a es → s.TypeIs v "dict" ∧ ∀ a, v = .ref a → ∃ ob, s.heap.get? a = some ob ∧ ob.dict = none := fun a es e da => by
    subst e
    cases rv
    obtain ⟨h1, h2, _⟩ := d_type I da
    exact ⟨h1, h2⟩
  cases m with
  | append =>
    cases d with
    | p _ => cases h
    | loc n =>
      simp only [mok] at h
      split at h
      · exact lst n _ rfl (by assumption)
      · cases h
  | extend =>
    cases d with
    | p _ => cases h
    | loc n =>
      simp only [mok] at h
      split at h
      · exact lst n _ rfl (by assumption)
      · cases h
  | popi =>
    cases d with
    | p _ => cases h
    | loc n =>
      simp only [mok] at h
      split at h
      · exact lst n _ rfl (by assumption)
      · cases h
  | ins =>
    cases d with
    | p _ => cases h
    | loc n =>
      simp only [mok] at h
      split at h
      · exact lst n _ rfl (by assumption)
      · cases h
  | get2 =>
    cases d with
    | p y =>
      cases y <;> first | (cases h; done) | skip
      have r2 : RepP (cfgOf X ca) g.F H (.dct _) x := r
      rw [RepP] at r2
      obtain ⟨a, es, e, ⟨_, da⟩, _⟩ := r2
      exact dct a es e da
    | loc n =>
      simp only [mok] at h
      split at h
      · rename_i e
        obtain ⟨es, da, _⟩ := w.obs n _ e
        exact dct _ es r.2 da.r
      · cases h
  | popk =>
    cases d with
    | p _ => cases h
    | loc n =>
      simp only [mok] at h
      split at h
      · rename_i e
        obtain ⟨es, da, _⟩ := w.obs n _ e
        exact dct _ es r.2 da.r
      · cases h
  | lclr =>
    cases d with
    | p _ => cases h
    | loc n =>
      simp only [mok] at h
      split at h
      · exact lst n _ rfl (by assumption)
      · cases h
  | rvs =>
    cases d with
    | p _ => cases h
    | loc n =>
      simp only [mok] at h
      split at h
      · exact lst n _ rfl (by assumption)
      · cases h
  | dclr =>
    cases d with
    | p _ => cases h
    | loc n =>
      simp only [mok] at h
      split at h
      · rename_i e
        obtain ⟨es, da, _⟩ := w.obs n _ e
        exact dct _ es r.2 da.r
      · cases h
theorem reps2 {c : Cfg} {g : Gh} {N : Nat} {H : Hp} {d e : D} {vs : List V} (r : RepDs c g N H [d, e] vs) : ∃ v u, vs = [v, u] ∧ RepD c g N H d v ∧ RepD c g N H e u := by
  cases r with
  | cons h t =>
    obtain ⟨u, rfl, r2⟩ := reps1 t
    exact ⟨_, _, rfl, h, r2⟩
theorem rp_lst {c : Cfg} {g : Gh} {st : Sto} {H : Hp} {E : EH} {Q : VK} {n : Nat} {ob ob0 : Ob} {o : HO} (w : Wd c g st H) (e : st[n]? = some ob0) (hd : ob0 ≠ .dead) (h : EndR c g st H E (RepD c) (.ok (.p .non) (st.set n ob)) Q)
    (ho : RepO c g st.length (upd H (g.lm n) o) (g.lm n) ob) : Q .non (upd H (g.lm n) o) := by
  refine h g (upd H (g.lm n) o) .non ?_ ?_ (Wd.set w e hd ho)
  · rw [List.length_set]; exact Ext.set w e hd
  · show RepP c g.F (upd H (g.lm n) o) .non .non
    rw [RepP]
theorem EndR.nf {α β : Type} {c : Cfg} {g : Gh} {st : Sto} {H : Hp} {E : EH} {rep : Gh → Nat → Hp → α → β → Prop} {r : Res α} {Q : β → Hp → Prop} (h : EndR c g st H E rep r Q) : r ≠ .fail := fun e => by
  rw [e] at h
  exact h
theorem get2_shape {d : D} {ds : List D} {st : Sto} (h : mth .get2 d ds st ≠ .fail) : ∃ k e, ds = [.p k, e] := by
  have z : ∀ ds, mth .get2 d ds st ≠ .fail → (match ds with
    | [.p _, _] => True
    | _ => False) := fun ds h => by
    rcases ds with _ | ⟨a, _ | ⟨b, _ | ⟨c, r⟩⟩⟩ <;> rcases d with y | n <;> first | trivial | exact absurd rfl h | (cases y <;> first | trivial | exact absurd rfl h | (cases a <;> first | trivial | exact absurd rfl h)) | (cases a <;> first | trivial | exact absurd rfl h)
  have q := z ds h
  split at q
  · exact ⟨_, _, rfl⟩
  · exact q.elim
theorem popk_shape {d : D} {ds : List D} {st : Sto} (h : mth .popk d ds st ≠ .fail) : ∃ n k, d = .loc n ∧ ds = [.p k] := by
  rcases d with y | n
  · exact absurd rfl h
  · rcases ds with _ | ⟨a, _ | ⟨b, r⟩⟩
    · exact absurd rfl h
    · cases a
      · exact ⟨_, _, rfl, rfl⟩
      · exact absurd rfl h
    · cases a <;> exact absurd rfl h
theorem popi_shape {d : D} {ds : List D} {st : Sto} (h : mth .popi d ds st ≠ .fail) : ∃ n k, d = .loc n ∧ ds = [.p (.int k)] := by
  rcases d with y | n
  · exact absurd rfl h
  · rcases ds with _ | ⟨a, _ | ⟨b, r⟩⟩
    · exact absurd rfl h
    · rcases a with a | a
      · cases a <;> first | exact ⟨_, _, rfl, rfl⟩ | exact absurd rfl h
      · exact absurd rfl h
    · rcases a with a | a
      · cases a <;> exact absurd rfl h
      · exact absurd rfl h
theorem ins_shape {d : D} {ds : List D} {st : Sto} (h : mth .ins d ds st ≠ .fail) : ∃ n k e, d = .loc n ∧ ds = [.p (.int k), e] := by
  rcases d with y | n
  · exact absurd rfl h
  · rcases ds with _ | ⟨a, _ | ⟨b, _ | ⟨c, r⟩⟩⟩
    · exact absurd rfl h
    · rcases a with a | a
      · cases a <;> exact absurd rfl h
      · exact absurd rfl h
    · rcases a with a | a
      · cases a <;> first | exact ⟨_, _, _, rfl, rfl⟩ | exact absurd rfl h
      · exact absurd rfl h
    · rcases a with a | a
      · cases a <;> exact absurd rfl h
      · exact absurd rfl h
theorem RepDs.erase {c : Cfg} {g : Gh} {N : Nat} {H : Hp} {ds : List D} {vs : List V} (r : RepDs c g N H ds vs) : ∀ m, RepDs c g N H (ds.eraseIdx m) (vs.eraseIdx m) := by
  induction r with
  | nil => intro m; exact .nil
  | cons h t ih =>
    intro m
    cases m with
    | zero => exact t
    | succ m => exact .cons h (ih m)
theorem RepDs.take {c : Cfg} {g : Gh} {N : Nat} {H : Hp} {ds : List D} {vs : List V} (r : RepDs c g N H ds vs) : ∀ m, RepDs c g N H (ds.take m) (vs.take m) := by
  induction r with
  | nil => intro m; simp only [List.take_nil]; exact .nil
  | cons h t ih =>
    intro m
    cases m with
    | zero => exact .nil
    | succ m => exact .cons h (ih m)
theorem RepDs.drop {c : Cfg} {g : Gh} {N : Nat} {H : Hp} {ds : List D} {vs : List V} (r : RepDs c g N H ds vs) : ∀ m, RepDs c g N H (ds.drop m) (vs.drop m) := by
  induction r with
  | nil => intro m; simp only [List.drop_nil]; exact .nil
  | cons h t ih =>
    intro m
    cases m with
    | zero => exact .cons h t
    | succ m => exact ih m
section
theorem ext_tup (l : Addr) (items : Array Value) (n : Nat) (b : Addr) (dd : Option Addr) (ss : Array (Option Value)) (items2 : Array Value) (n2 : Nat) (hs0 : ¬(!items.isEmpty && Builtin.List.listTooLong (items.size + items2.size)) = true) (hs1 : items.size ≤ sizeLine) (hs2 : items.size + items2.size ≤ sizeLine + 1) :
    Meets (Builtin.«list.extend» ⟨[.ref l, .ref b], []⟩) (fun _ R s => s.heap.get? l = some { cls := .type "list", dict := none, data := .seq items n, slots := #[] } ∧ s.heap.get? b = some { cls := .type "tuple", dict := dd, data := .seq items2 n2, slots := ss } ∧ R (.ok (.ret Value.none)) { s with heap := s.heap.update l (Obj.mapSeq fun x => x ++ items2), toks := s.toks }) :=
  .of_wp fun prog w A R s h => by
    obtain ⟨hp, g, d, tk, os⟩ := s; obtain ⟨hl, hb, h⟩ := h; have f1 := AutoSeq1.idx_int; have f2 := AutoSeq1.sub_tuple_tuple; have f3 := AutoSeq1.sub_list_list; have f4 := AutoSeq1.sub_tuple_list; have f5 := AutoSeq1.sub_list_tuple;
    have hz' : (items ++ items2).size ≤ sizeLine + 1 := by rw [Array.size_append]; exact hs2
    wp_walk using (wpAny_updateSeq hl rfl (hz := hs1) (_hz' := hz')), wpAny_loadPart' hl, wpAny_loadPart' hb; exact ⟨_, rfl, h⟩
end
theorem sqT_obj {P : Program} {w : World} {K : PySem.W.Frag} {H : Hp} {h : Heap} {a : Addr} {xs : List V} (hok : HOk P w H h) (KX : K.In h) (q : SqT K H a xs) : ∃ (its : List Value) (o : Obj) (n : Nat), Vals xs its ∧ h.get? a = some o ∧ o.cls = .type "tuple" ∧ o.data = .seq its.toArray n := by
  rcases q with q | ⟨o, its, n, e, hc, hd, _, hv⟩
  · obtain ⟨_, its, hv, o, e, hc, n, hd⟩ := (show ObjOk P w H h a (.tup xs) from q.ok hok)
    exact ⟨its, o, n, hv, e, hc, hd⟩
  · exact ⟨its.toList, o, n, hv, KX _ _ e, hc, by simp [hd]⟩
theorem mt_extT {X : Cx} : MtM X "list.extend" (fun x vs H Q => ∃ l b xs zs, x = .ref l ∧ vs = [.ref b] ∧ H l = some (.lst xs) ∧ SqT X.K H b zs ∧ xs.length + zs.length ≤ sizeLine ∧ Q .non (upd H l (.lst (xs ++ zs)))) := by
  intro pins s σ H x vs v us Q I rx rv h
  obtain ⟨l, b, xs, zs, rfl, rfl, hH, hB, hz, q⟩ := h
  cases rx
  obtain ⟨u, rfl, ru⟩ := rv.one
  cases ru
  obtain ⟨z, its, n, r, hl, e⟩ := I.lstM hH
  obtain ⟨its2, o, n2, r2, e2, hc, hd⟩ := sqT_obj I.hok I.kIn hB
  have hl2 : zs.length = its2.length := r2.length
  obtain ⟨cl, dd, da, ss⟩ := o
  dsimp only at hc hd
  subst hc hd
  have hsz : its.toArray.size + its2.toArray.size ≤ sizeLine := by rw [List.size_toArray, List.size_toArray]; omega
  have hlong : ¬ (!its.toArray.isEmpty && Builtin.List.listTooLong (its.toArray.size + its2.toArray.size)) = true := by
    rw [notLongL hsz, Bool.and_false]
    exact Bool.false_ne_true
  refine call_meets F.slot_list_extend ⟨_, e, rfl⟩ F.entry_list_extend (F.args_list_extend_2 _ _)
    (ext_tup l its.toArray n b dd ss its2.toArray n2 hlong (by rw [List.size_toArray]; omega) (by omega)) ⟨e, e2, ?_⟩
  refine ⟨.non, _, I.lset (its' := its ++ its2) hH e (by simp) (r.append r2) ?_, rfl, q⟩
  rw [List.length_append]
  omega
theorem RepDs.rev {c : Cfg} {g : Gh} {N : Nat} {H : Hp} {ds : List D} {vs : List V} (r : RepDs c g N H ds vs) : RepDs c g N H ds.reverse vs.reverse := by
  induction r with
  | nil => exact .nil
  | cons h t ih =>
    rw [List.reverse_cons, List.reverse_cons]
    exact ih.app (.cons h .nil)
theorem mt_all (hu : X.A.units + 64 < cLine) (m : Mth) : MtR X (mthId m) (rMt (cfgOf X ca) m) := by
  intro pins s σ H x vs v us Q I rx rvs h
  obtain ⟨g, st, d, ds, E, r, rs, w, h⟩ := h
  cases m with
  | append =>
    cases d with
    | p _ => exact h.elim
    | loc n =>
      match ds, h, rs with
      | [], h, _ => exact h.elim
      | _ :: _ :: _, h, _ => exact h.elim
      | [d], h, rs =>
        simp only [mth] at h
        split at h
        · rename_i xs e
          split at h
          · rename_i z
            obtain ⟨y, rfl, ry⟩ := reps1 rs
            obtain ⟨ws, h1, z1, r1⟩ := w.obs n _ e
            obtain ⟨hn, rfl⟩ := r
            have l := r1.len
            refine mt_append pins s σ H _ _ v us Q I rx rvs ⟨_, ws, y, rfl, rfl, h1, by omega, ?_⟩
            refine rp_lst w e (by simp) h ⟨_, upd_same, ?_, ?_⟩
            · rw [List.length_append, List.length_singleton]; omega
            · exact (r1.app (.cons ry .nil)).mono (Ext.set w e (by simp))
          · exact h.elim
        · exact h.elim
  | extend =>
    cases d with
    | p _ => exact h.elim
    | loc n =>
      match ds, h, rs with
      | [], h, _ => exact h.elim
      | _ :: _ :: _, h, _ => exact h.elim
      | [d], h, rs =>
        simp only [mth] at h
        split at h
        · rename_i xs ys e hd
          split at h
          · rename_i z
            obtain ⟨y, rfl, ry⟩ := reps1 rs
            obtain ⟨ws, h1, z1, r1⟩ := w.obs n _ e
            obtain ⟨hn, rfl⟩ := r
            obtain ⟨b, zs, rfl, h2, z2, r2⟩ := rd_lst w ry hd
            have l := r1.len
            have l2 := r2.len
            refine mt_extend pins s σ H _ _ v us Q I rx rvs ⟨_, b, ws, zs, rfl, rfl, h1, h2, by omega, ?_⟩
            refine rp_lst w e (by simp) h ⟨_, upd_same, ?_, ?_⟩
            · rw [List.length_append]; omega
            · exact (r1.app (RepDs.of r2)).mono (Ext.set w e (by simp))
          · exact h.elim
        · rename_i xs ys e hd
          split at h
          · rename_i z
            obtain ⟨y, rfl, ry⟩ := reps1 rs
            obtain ⟨ws, h1, z1, r1⟩ := w.obs n _ e
            obtain ⟨hn, rfl⟩ := r
            obtain ⟨b, zs, rfl, h2, z2, r2⟩ := rd_tup ry hd
            have l := r1.len
            have l2 := r2.len
            refine mt_extT pins s σ H _ _ v us Q I rx rvs ⟨_, b, ws, zs, rfl, rfl, h1, h2, by omega, ?_⟩
            refine rp_lst w e (by simp) h ⟨_, upd_same, ?_, ?_⟩
            · rw [List.length_append]; omega
            · exact (r1.app (RepDs.of r2)).mono (Ext.set w e (by simp))
          · exact h.elim
        · exact h.elim
  | popi =>
    obtain ⟨n, k, rfl, rfl⟩ := popi_shape h.nf
    simp only [mth] at h
    split at h
    · rename_i xs e
      split at h
      · rename_i m hm
        split at h
        · rename_i d0 hd
          obtain ⟨y, rfl, ry⟩ := reps1 rs
          have ry' : RepP (cfgOf X ca) g.F H (.int k) y := ry
          simp only [RepP] at ry'
          subst ry'
          obtain ⟨ws, h1, z1, r1⟩ := w.obs n _ e
          obtain ⟨hn, rfl⟩ := r
          have l := r1.len
          obtain ⟨q1, q2, q3, q4⟩ := ixN_seq hm
          obtain ⟨v0, hv, rv0⟩ := r1.get hd
          have zl := sizeLine_eq
          refine mt_popAt pins s σ H _ _ v us Q I rx rvs ⟨_, ws, k, m, v0, rfl, rfl, h1, by omega, by omega, by rw [l]; exact q1, hv, ?_⟩
          have ex := Ext.set (o := .lst (ws.eraseIdx m)) w e (by simp)
          refine h g _ v0 (by rw [List.length_set]; exact ex) (by rw [List.length_set]; exact rv0.mono ex) (Wd.set w e (by simp) ⟨_, upd_same, ?_, ((r1.erase m)).mono ex⟩)
          have := List.length_eraseIdx_le ws m
          omega
        · exact h.elim
      · exact h.elim
    · exact h.elim
  | ins =>
    obtain ⟨n, k, d2, rfl, rfl⟩ := ins_shape h.nf
    simp only [mth] at h
    split at h
    · rename_i xs e
      split at h
      · rename_i hz
        obtain ⟨y, z, rfl, ry, rz⟩ := reps2 rs
        have ry' : RepP (cfgOf X ca) g.F H (.int k) y := ry
        simp only [RepP] at ry'
        subst ry'
        obtain ⟨ws, h1, z1, r1⟩ := w.obs n _ e
        obtain ⟨hn, rfl⟩ := r
        have l := r1.len
        refine mt_insert pins s σ H _ _ v us Q I rx rvs ⟨_, ws, k, z, rfl, rfl, h1, by omega, hz.2.1, hz.2.2, ?_⟩
        refine rp_lst w e (by simp) h ⟨_, upd_same, ?_, ((((r1.take _).app (.cons rz .nil)).app (r1.drop _))).mono (Ext.set w e (by simp))⟩
        rw [List.length_append, List.length_append, List.length_singleton, List.length_take, List.length_drop]
        omega
      · exact h.elim
    · exact h.elim
  | get2 =>
    obtain ⟨k, d2, rfl⟩ := get2_shape h.nf
    · skip
      obtain ⟨kv, z, rfl, rk, rz⟩ := reps2 rs
      cases d with
      | p y =>
        cases y <;> first | exact absurd rfl h.nf | skip
        simp only [mth] at h
        split at h
        · rename_i kvs fit
          have r2 : RepP (cfgOf X ca) g.F H (.dct kvs) x := r
          rw [RepP] at r2
          obtain ⟨a, es, rfl, ⟨_, da⟩, rr⟩ := r2
          refine mt_get2 hu pins s σ H _ _ v us Q I rx rvs ⟨a, es, g.F, k, kv, z, rfl, rfl, da, rr.keys, rk, fit_of fit rr.fst, ?_⟩
          rcases rr.lk k with ⟨e', v', h1, h2, h3⟩ | ⟨h1, h2⟩
          · rw [h1] at h
            rw [h2]
            exact h g H v' Ext.refl h3 w
          · rw [h1] at h
            rw [h2]
            exact h g H z Ext.refl rz w
        · exact h.elim
      | loc n =>
        simp only [mth] at h
        split at h
        · rename_i kvs e
          split at h
          · rename_i fit
            obtain ⟨es, da, rr⟩ := w.obs n _ e
            obtain ⟨hn, rfl⟩ := r
            refine mt_get2 hu pins s σ H _ _ v us Q I rx rvs ⟨_, es, g.F, k, kv, z, rfl, rfl, da.r, rr.keys, rk, fit_of fit rr.fst, ?_⟩
            rcases rr.lk k with ⟨e', v', h1, h2, h3⟩ | ⟨h1, h2⟩
            · rw [h1] at h
              rw [h2]
              exact h g H v' Ext.refl h3 w
            · rw [h1] at h
              rw [h2]
              exact h g H z Ext.refl rz w
          · exact h.elim
        · exact h.elim
  | popk =>
    obtain ⟨n, k, rfl, rfl⟩ := popk_shape h.nf
    · skip
      obtain ⟨kv, rfl, rk⟩ := reps1 rs
      · skip
        simp only [mth] at h
        split at h
        · rename_i kvs e
          split at h
          · rename_i fit
            obtain ⟨es, da, rr⟩ := w.obs n _ e
            obtain ⟨hn, rfl⟩ := r
            rcases rr.lk k with ⟨e', v', h1, h2, h3⟩ | ⟨h1, h2⟩
            · rw [h1] at h
              cases rx
              obtain ⟨u, rfl, ru⟩ := rvs.one
              refine d_popk hu I da rr.keys rk (fit_of fit rr.fst) h2 ru fun ob w' s' I' rw' d' => ⟨v', _, I', rw', ?_⟩
              have ex := Ext.set (o := ob) w e (by simp)
              refine h g _ v' (by rw [List.length_set]; exact ex) ?_ (Wd.set w e (by simp) ⟨_, d', (rr.del k).mono ex⟩)
              rw [List.length_set]
              exact h3.mono ex
            · rw [h1] at h
              exact h.elim
          · exact h.elim
        · exact h.elim
  | lclr =>
    cases d with
    | p _ => exact h.elim
    | loc n =>
      match ds, h, rs with
      | _ :: _, h, _ => exact h.elim
      | [], h, rs =>
        simp only [mth] at h
        split at h
        · rename_i xs e
          cases rs
          obtain ⟨ws, h1, z1, r1⟩ := w.obs n _ e
          obtain ⟨hn, rfl⟩ := r
          refine mt_clear pins s σ H _ _ v us Q I rx rvs ⟨_, ws, rfl, rfl, h1, ?_⟩
          exact rp_lst w e (by simp) h ⟨[], upd_same, Nat.zero_le _, .nil⟩
        · exact h.elim
  | rvs =>
    cases d with
    | p _ => exact h.elim
    | loc n =>
      match ds, h, rs with
      | _ :: _, h, _ => exact h.elim
      | [], h, rs =>
        simp only [mth] at h
        split at h
        · rename_i xs e
          cases rs
          obtain ⟨ws, h1, z1, r1⟩ := w.obs n _ e
          obtain ⟨hn, rfl⟩ := r
          refine mt_reverse pins s σ H _ _ v us Q I rx rvs ⟨_, ws, rfl, rfl, h1, ?_⟩
          have ex := Ext.set (o := .lst ws.reverse) w e (by simp)
          exact rp_lst w e (by simp) h ⟨ws.reverse, upd_same, by rw [List.length_reverse]; exact z1, r1.rev.mono ex⟩
        · exact h.elim
  | dclr =>
    cases d with
    | p _ => exact h.elim
    | loc n =>
      match ds, h, rs with
      | _ :: _, h, _ => exact h.elim
      | [], h, rs =>
        simp only [mth] at h
        split at h
        · rename_i kvs e
          split at h
          · rename_i hk
            cases rs
            obtain ⟨es, da, rr⟩ := w.obs n _ e
            obtain ⟨hn, rfl⟩ := r
            have hs : ∀ e ∈ es, e.1.sca = true := fun e he => by
              have h1 : e.1 ∈ es.map (·.1) := List.mem_map.mpr ⟨e, he, rfl⟩
              rw [rr.fst] at h1
              obtain ⟨q, hq, e2⟩ := List.mem_map.mp h1
              rw [← e2]
              exact List.all_eq_true.mp hk q hq
            refine mtd_clear pins s σ H _ _ v us Q I rx rvs ⟨_, _, rfl, rfl, d_scW da hs, ?_⟩
            exact rp_lst w e (by simp) h ⟨[], ⟨Nat.zero_le _, List.nodup_nil, .inl ⟨by simp, upd_same⟩⟩, by constructor⟩
          · exact h.elim
        · exact h.elim
end
end PyM
namespace PyM
open PySem PySem.Spec PyProof.Rows L2

/-! ### isinstance -/
def tyAll : List String := ["NoneType", "bool", "int", "str", "tuple", "list", "dict"]
def tyArg : List String := ["bool", "int", "str", "tuple", "list", "dict"]
theorem kit_tb : (tyAll.all fun m => tyArg.all fun n => kitB m n == some (decide (n = m) || (decide (n = "int") && decide (m = "bool")))) = true := by decide +kernel
theorem kit_tt {K : PySem.W.Frag} {m n : String} (hm : m ∈ tyAll) (hn : n ∈ tyArg) : PySem.W.kitOne K (.type m) (.type n) = some (decide (n = m) || (decide (n = "int") && decide (m = "bool"))) := by
  have h := List.all_eq_true.mp (List.all_eq_true.mp kit_tb m hm) n hn
  exact kit_ty (eq_of_beq h)
/-- what the written part says of the classes -/
structure KF (K : PySem.W.Frag) (ca : Str → Option Addr) : Prop where
  cls : ∀ c A, ca c = some A → Cls K A
  ha : ∀ c A, ca c = some A → PySem.W.findIn K (.ref A) "__class__" = some (some (.builtin "object.__class__"))
  hn : ∀ c A, ca c = some A → PySem.W.specialIn K (.builtin "object.__class__") "__get__" = some (some (.builtin "getset_descriptor.__get__"))
  htk : ∀ c A, ca c = some A → PySem.W.takesIn K (.builtin "object.__class__") = some true
  hm : ∀ c A, ca c = some A → PySem.W.mroIn K A (.type "object") = some true
  k1 : ∀ c A, ca c = some A → ∀ n ∈ tyArg, PySem.W.kitOne K (.ref A) (.type n) = some false
  k2 : ∀ c A d B, ca c = some A → ca d = some B → PySem.W.kitOne K (.ref A) (.ref B) = some (decide (d = c))
  k3 : ∀ m ∈ tyAll, ∀ c A, ca c = some A → PySem.W.kitOne K (.type m) (.ref A) = some false
def TyH (X : Cx) (H : Hp) (x : V) (t : Value) : Prop := ∀ (pins : List (Addr × Obj)) (σ : PSt) (s : Shared) (v : Value), Inv X pins σ H s → RelV x v → ∃ P : Heap → Prop, PySem.W.KitX X.K v t P ∧ P s.heap ∧ ∀ n, v ≠ .builtin n
theorem relV_nb {x : V} {v : Value} (r : RelV x v) (n : String) : v ≠ .builtin n := by
  cases x <;> first | (obtain ⟨t, rfl⟩ := r; exact fun z => nomatch z) | (cases r; exact fun z => nomatch z)
theorem TyH.of {X : Cx} {H : Hp} {x : V} {t : Value} (h : TyX X.K H x t) : TyH X H x t := fun pins σ s v I r => let ⟨P, a, b, _⟩ := kit_of I r h; ⟨P, a, b, relV_nb r⟩
/-- a class as the IR names it -/
def tyVal (ca : Str → Option Addr) : TyN → Option (V × Value)
  | .ty n => if n ∈ tyArg then some (.ty n, .type n) else none
  | .cls c => (ca c).map fun A => (.ref A, .ref A)
theorem tyVal_cls {ca : Str → Option Addr} {t : TyN} {p : V × Value} (h : tyVal ca t = some p) : ClsV p.1 p.2 ∧ RelV p.1 p.2 := by
  cases t with
  | ty n =>
    simp only [tyVal] at h
    split at h
    · cases h; exact ⟨.ty n, rfl⟩
    · cases h
  | cls c =>
    obtain ⟨A, _, rfl⟩ := Option.map_eq_some_iff.mp h
    exact ⟨.own A, rfl⟩
section
variable {X : Cx} {ca : Str → Option Addr}
/-- a value's type and what isinstance says of it -/
theorem ty_of {g : Gh} {st : Sto} {H : Hp} {d : D} {x : V} (kf : KF X.K ca) (w : Wd (cfgOf X ca) g st H) (r : RepD (cfgOf X ca) g st.length H d x) {t0 : TyN} {b0 : Bool} (h0 : isTy t0 d st = some b0) :
    ∃ T, TyH X H x T ∧ ∀ t b p, isTy t d st = some b → tyVal ca t = some p → PySem.W.kitOne X.K T p.2 = some b := by
  have pl : ∀ m, m ∈ tyAll → (∀ t, isTy t d st = (match t with
      | .ty n => some (decide (n = m) || (decide (n = "int") && decide (m = "bool")))
      | .cls _ => some false)) → TyX X.K H x (.type m) → ∃ T, TyH X H x T ∧ ∀ t b p, isTy t d st = some b → tyVal ca t = some p → PySem.W.kitOne X.K T p.2 = some b := fun m hm e ty => by
    refine ⟨_, TyH.of ty, fun t b p h hp => ?_⟩
    rw [e t] at h
    cases t with
    | ty n =>
      cases h
      simp only [tyVal] at hp
      split at hp
      · cases hp; exact kit_tt hm (by assumption)
      · cases hp
    | cls c =>
      cases h
      obtain ⟨A, hA, rfl⟩ := Option.map_eq_some_iff.mp hp
      exact kf.k3 m hm c A hA
  have dc : ∀ a es, x = .ref a → DctAt (cfgOf X ca) H a es → TyH X H x (.type "dict") := fun a es e da pins σ s v I rv => by
    subst e
    cases rv
    obtain ⟨⟨o, h1, h2⟩, _⟩ := d_type I da
    exact ⟨_, PySem.W.kitx_dict, ⟨o, h1, h2⟩, fun n z => nomatch z⟩
  have dk : ∀ a es, x = .ref a → DctAt (cfgOf X ca) H a es → (∀ t b, isTy t d st = some b → (match t with
      | .ty n => some (decide (n = "dict") || (decide (n = "int") && decide ("dict" = "bool")))
      | .cls _ => some false) = some b) → ∃ T, TyH X H x T ∧ ∀ t b p, isTy t d st = some b → tyVal ca t = some p → PySem.W.kitOne X.K T p.2 = some b := fun a es ex da e => by
    refine ⟨_, dc a es ex da, fun t b p h hp => ?_⟩
    have h := e t b h
    cases t with
    | ty n =>
      cases h
      simp only [tyVal] at hp
      split at hp
      · cases hp; exact kit_tt (by decide) (by assumption)
      · cases hp
    | cls c =>
      cases h
      obtain ⟨A, hA, rfl⟩ := Option.map_eq_some_iff.mp hp
      exact kf.k3 _ (by decide) c A hA
  have is : ∀ a C dx fvs, x = .ref a → InsAt (cfgOf X ca) H a C dx fvs → (∀ t b, isTy t d st = some b → (match t with
      | .ty _ => some false
      | .cls c' => some (decide (c' = C))) = some b) → ∃ T, TyH X H x T ∧ ∀ t b p, isTy t d st = some b → tyVal ca t = some p → PySem.W.kitOne X.K T p.2 = some b := fun a C dx fvs ex da e => by
    obtain ⟨A, hA, e1⟩ := da
    have hA : ca C = some A := hA
    refine ⟨_, TyH.of (.base (ex ▸ TyOf.ins e1 (kf.cls C A hA) (kf.ha C A hA) (kf.hn C A hA) (kf.htk C A hA) (kf.hm C A hA))), fun t b p h hp => ?_⟩
    have h := e t b h
    cases t with
    | ty n =>
      cases h
      simp only [tyVal] at hp
      split at hp
      · cases hp; exact kf.k1 C A hA n (by assumption)
      · cases hp
    | cls c =>
      cases h
      obtain ⟨B, hB, rfl⟩ := Option.map_eq_some_iff.mp hp
      exact kf.k2 C A c B hA hB
  cases d with
  | p y =>
    have r' : RepP (cfgOf X ca) g.F H y x := r
    cases y with
    | non => simp only [RepP] at r'; subst r'; exact pl "NoneType" (by decide) (fun t => by cases t <;> rfl) (.base .non)
    | bl i => simp only [RepP] at r'; subst r'; exact pl "bool" (by decide) (fun t => by cases t <;> rfl) (.base (.bl _))
    | int i => simp only [RepP] at r'; subst r'; exact pl "int" (by decide) (fun t => by cases t <;> rfl) (.base (.int _))
    | str i => simp only [RepP] at r'; obtain ⟨rfl, _⟩ := r'; exact pl "str" (by decide) (fun t => by cases t <;> rfl) (.base (.str _))
    | ty n => cases t0 <;> simp [isTy, tyOf] at h0
    | scr n => cases t0 <;> simp [isTy, tyOf] at h0
    | tup xs =>
      rw [RepP] at r'
      obtain ⟨a, vs, rfl, t, z, _⟩ := r'
      refine pl "tuple" (by decide) (fun t => by cases t <;> rfl) ?_
      rcases t with ⟨_, e⟩ | ⟨o, its, n, e, c, _⟩
      · exact .base (.tup e)
      · exact .kTuple e c
    | lst xs =>
      rw [RepP] at r'
      obtain ⟨a, vs, rfl, ⟨_, e⟩, z, _⟩ := r'
      exact pl "list" (by decide) (fun t => by cases t <;> rfl) (.base (.lst e))
    | dct kvs =>
      rw [RepP] at r'
      obtain ⟨a, es, rfl, ⟨_, da⟩, _⟩ := r'
      exact dk a es rfl da fun t b h => by cases t <;> exact h
    | ins C fs =>
      rw [RepP] at r'
      obtain ⟨a, dx, fvs, rfl, ⟨_, da⟩, _⟩ := r'
      exact is a C dx fvs rfl da fun t b h => by cases t <;> exact h
  | loc n =>
    obtain ⟨hn, rfl⟩ := r
    cases e : st[n]? with
    | none => simp only [isTy, e] at h0; cases t0 <;> cases h0
    | some o =>
      cases o with
      | lst xs =>
        obtain ⟨vs, e1, z, _⟩ := w.obs n _ e
        refine ⟨_, TyH.of (.base (.lst e1)), fun t b p h hp => ?_⟩
        cases t with
        | ty m =>
          simp only [isTy, e, Option.some.injEq] at h
          subst h
          simp only [tyVal] at hp
          split at hp
          · cases hp
            have := kit_tt (K := X.K) (m := "list") (n := m) (by decide) (by assumption)
            simpa using this
          · cases hp
        | cls c => simp [isTy, e] at h
      | dct xs =>
        obtain ⟨es, da, _⟩ := w.obs n _ e
        refine dk _ es rfl da.r fun t b h => ?_
        cases t with
        | ty m => simp only [isTy, e] at h; simpa using h
        | cls c => simp [isTy, e] at h
      | ins C fs =>
        obtain ⟨dx, fvs, da, _⟩ := w.obs n _ e
        refine is _ C dx fvs rfl da fun t b h => ?_
        cases t with
        | ty m => simp only [isTy, e] at h; exact h
        | cls c => simp only [isTy, e] at h; exact h
      | dead => simp only [isTy, e] at h0; cases t0 <;> cases h0
def rIsiA (X : Cx) : List V → Hp → VK → Prop := fun xs H Q => ∃ (x c : V) (t u : Value) (b : Bool), xs = [x, c] ∧ ClsV c u ∧ TyH X H x t ∧ PySem.W.kitOne X.K t u = some b ∧ Q (.bl b) H
def rIsiB (X : Cx) : List V → Hp → VK → Prop := fun xs H Q => ∃ (x : V) (tp : Addr) (cs : List V) (t : Value) (us : List Value) (b : Bool), xs = [x, .ref tp] ∧ H tp = some (.tup cs) ∧ Paired ClsV cs us ∧ TyH X H x t ∧ PySem.W.kitAny X.K t us = some b ∧ Q (.bl b) H
theorem call_isiA : CallR X (.builtin "isinstance") (rIsiA X) := by
  intro pins s σ H xs us Q I r h
  obtain ⟨x, c, t, u, b, rfl, k, ty, e, q⟩ := h
  obtain ⟨u1, u2, rfl, r1, r2⟩ := vals2 r
  have e2 := k.eq r2
  subst e2
  obtain ⟨P, Z, p, hx⟩ := ty pins σ s u1 I r1
  exact PySem.W.kia_one Z I.kIn p e (hx _) fun tk => ⟨.bl b, H, I.tok tk, rfl, q⟩
theorem call_isiB : CallR X (.builtin "isinstance") (rIsiB X) := by
  intro pins s σ H xs us Q I r h
  obtain ⟨x, tp, cs, t, ws, b, rfl, hT, k, ty, e, q⟩ := h
  obtain ⟨u1, u2, rfl, r1, r2⟩ := vals2 r
  cases (show u2 = Value.ref tp from r2)
  obtain ⟨P, Z, p, hx⟩ := ty pins σ s u1 I r1
  obtain ⟨_, its, rv, o, h1, h2, n, h3⟩ := (show ObjOk X.prog X.w H s.heap tp (.tup cs) from I.hok tp _ hT)
  have e3 := ClsV.all k rv
  subst e3
  obtain ⟨oc, od, dt, sl⟩ := o
  simp only at h2 h3
  subst h2 h3
  exact PySem.W.kia_tup Z I.kIn p h1 e (hx _) fun tk => ⟨.bl b, H, I.tok tk, rfl, q⟩
theorem isi_one {g : Gh} {st : Sto} {H : Hp} {d : D} {x : V} {t : TyN} {b : Bool} {p : V × Value} {Q : VK} (kf : KF X.K ca) (w : Wd (cfgOf X ca) g st H) (r : RepD (cfgOf X ca) g st.length H d x) (hp : tyVal ca t = some p) (h : isAny d st [t] = some b) (q : Q (.bl b) H) : rIsiA X [x, p.1] H Q := by
  simp only [isAny] at h
  cases e : isTy t d st with
  | none => rw [e] at h; cases h
  | some b' =>
    have hb : b' = b := by
      rw [e] at h
      cases b' with
      | true => simpa using h
      | false => simpa using h
    subst hb
    obtain ⟨T, ty, k⟩ := ty_of kf w r e
    exact ⟨x, p.1, T, p.2, b', rfl, (tyVal_cls hp).1, ty, k t b' p e hp, q⟩
theorem any_cls : ∀ {ts : List TyN} {ps : List (V × Value)}, ts.mapM (tyVal ca) = some ps → Paired ClsV (ps.map (·.1)) (ps.map (·.2)) ∧ Vals (ps.map (·.1)) (ps.map (·.2))
  | [], ps, h => by
    simp at h
    subst h
    exact ⟨.nil, .nil⟩
  | t :: ts, ps, h => by
    rw [List.mapM_cons] at h
    cases e : tyVal ca t with
    | none => rw [e] at h; cases h
    | some p =>
      cases e2 : ts.mapM (tyVal ca) with
      | none => rw [e, e2] at h; cases h
      | some qs =>
        rw [e, e2] at h
        cases h
        obtain ⟨a, b⟩ := any_cls e2
        exact ⟨.cons (tyVal_cls e).1 a, .cons (tyVal_cls e).2 b⟩
theorem any_kit {d : D} {st : Sto} {T : Value} (k : ∀ t b p, isTy t d st = some b → tyVal ca t = some p → PySem.W.kitOne X.K T p.2 = some b) : ∀ {ts : List TyN} {ps : List (V × Value)} {b : Bool}, ts.mapM (tyVal ca) = some ps → isAny d st ts = some b → PySem.W.kitAny X.K T (ps.map (·.2)) = some b
  | [], ps, b, h, hb => by
    simp at h
    subst h
    cases hb
    rfl
  | t :: ts, ps, b, h, hb => by
    rw [List.mapM_cons] at h
    cases e : tyVal ca t with
    | none => rw [e] at h; cases h
    | some p =>
      cases e2 : ts.mapM (tyVal ca) with
      | none => rw [e, e2] at h; cases h
      | some qs =>
        rw [e, e2] at h
        cases h
        simp only [isAny] at hb
        cases e3 : isTy t d st with
        | none => rw [e3] at hb; cases hb
        | some b' =>
          rw [e3] at hb
          refine kitAny_cons (k t b' p e3 e) (fun z => ?_) fun z => ?_
          · subst z
            exact any_kit k e2 hb
          · subst z
            simpa using hb.symm
theorem isi_any {g : Gh} {st : Sto} {H H1 : Hp} {d : D} {x : V} {t : TyN} {ts : List TyN} {b : Bool} {ps : List (V × Value)} {tp : Addr} {Q : VK} (kf : KF X.K ca) (w : Wd (cfgOf X ca) g st H) (r : RepD (cfgOf X ca) g st.length H d x) (hp : (t :: ts).mapM (tyVal ca) = some ps)
    (h : isAny d st (t :: ts) = some b) (hH : ∀ T, TyH X H x T → TyH X H1 x T) (ht : H1 tp = some (.tup (ps.map (·.1)))) (q : Q (.bl b) H1) : rIsiB X [x, .ref tp] H1 Q := by
  cases e : isTy t d st with
  | none => simp only [isAny, e] at h; cases h
  | some b' =>
    obtain ⟨T, ty, k⟩ := ty_of kf w r e
    exact ⟨x, tp, ps.map (·.1), T, ps.map (·.2), b, rfl, ht, (any_cls hp).1, hH T ty, any_kit k hp h, q⟩
end
end PyM
namespace PyM
open PySem PySem.Spec PyProof.Rows L2

/-! ### is the IR this text -/
/-- an exception class: its name, the field that its __init__ sets (none: no __init__ of its own), of which classes it is, attributes that it lacks -/
structure Xc where
  c : Str
  ini : Option Str
  is : List (Str × Bool)
  fno : List Str
structure Ck where
  N : List Str
  sc : Scope
  fns : List Str
  fnok : Str → Bool
  cls : List Str
  bl : List Str
  con : List (Str × P)
  fld : List (Str × Str)
  xcs : List Xc
def Ck.isx (k : Ck) (c : Str) (b : Bool) (y : Str) : Bool := k.xcs.any fun q => decide (q.c = y) && decide ((c, b) ∈ q.is)
def Ck.rai (k : Ck) (c : Str) (f : Option Str) : Bool := k.xcs.any fun q => decide (q.c = c) && decide (q.ini = f)
def Ck.vis (k : Ck) (x : Str) : Bool := (match k.sc.names.lookup x with
  | some .local => true
  | some .cell => true
  | some .free => true
  | _ => false) && !(x == "__debug__") && !(x == "__classdict__")
def Ck.gl (k : Ck) (x : Str) : Bool := (match k.sc.names.lookup x with
  | some .globalImplicit => true
  | _ => false) && !(x == "__debug__") && !(x == "__name__")
def Ck.loc (k : Ck) (x : Str) : Bool := match k.sc.names.lookup x with
  | some .local => true
  | some .cell => k.fnok x
  | _ => false
def Ck.isLocal (k : Ck) (x : Str) : Bool := match k.sc.names.lookup x with
  | some .local => true
  | _ => false
def Ck.slot (k : Ck) (i : Nat) (x : Str) : Bool := decide (k.N[i]? = some x)
def Ck.blt (k : Ck) (x y : Str) : Bool := decide (x = y) && k.gl x && decide (x ∈ k.bl)
def Ck.blk (k : Ck) (scope : Scope) : Ck := { k with sc := relS scope k.sc, fnok := fun x => scope.names.lookup x == some .cell }
def Ck.ownP (k : Ck) (own : List Nat) : List (Str × Nat) := own.map fun i => ((k.N[i]?).getD "", i)
def isStar : Expr → Bool
  | .Starred _ _ => true
  | _ => false
def isSlice : Expr → Bool
  | .Slice _ _ _ _ => true
  | _ => false
def isComp : Expr → Bool
  | .ListComp _ _ _ _ => true
  | .SetComp _ _ _ _ => true
  | .DictComp _ _ _ _ _ => true
  | _ => false
def isSet : Expr → Bool
  | .Set _ _ _ => true
  | _ => false
def isTupE : Expr → Bool
  | .Tuple _ _ _ => true
  | _ => false
/-- its test is its value's truth -/
def plainT : Expr → Bool
  | .UnaryOp .Not _ _ => false
  | .BoolOp _ _ _ => false
  | .IfExp _ _ _ _ => false
  | .Compare _ _ _ _ => false
  | _ => true
def bare0 : Expr → Bool
  | .Call (.Name _ _) [] [] _ => false
  | _ => true
def noIf : Expr → Bool
  | .IfExp _ _ _ _ => false
  | _ => true
def isBoolE : Expr → Bool
  | .BoolOp _ _ _ => true
  | _ => false
def litB : P → Const → Bool
  | .non, .none => true
  | .bl b, .bool c => b == c
  | .int i, .int j => decide (i = j)
  | .str x, .str y => decide (x = y) && PyData.strOk x && decide (x.length ≤ sizeLine)
  | _, _ => false
def bltS : Blt → Str
  | .len => "len" | .int => "int" | .abs => "abs" | .tuple => "tuple" | .list _ => "list" | .sorted _ => "sorted"
  | .all => "all" | .any => "any" | .sum => "sum" | .max1 => "max" | .min1 => "min" | .max2 => "max" | .min2 => "min" | .dict _ => "dict"
def chkTy (k : Ck) : TyN → Expr → Bool
  | .ty n, a => (match a with
    | .Name x _ => decide (n ∈ tyArg) && k.blt x (Str.ofString n)
    | _ => false)
  | .cls c, a => (match a with
    | .Name x _ => decide (x = c) && k.gl x && decide (c ∈ k.cls)
    | _ => false)
def chkTys (k : Ck) : List TyN → List Expr → Bool
  | [], [] => true
  | t :: ts, a :: as => chkTy k t a && !isStar a && chkTys k ts as
  | _, _ => false
def chkIs (k : Ck) : List TyN → Expr → Bool
  | [t], a => chkTy k t a
  | t :: t' :: ts, a => (match a with
    | .Tuple es _ _ => decide (ts.length < 20) && chkTys k (t :: t' :: ts) es
    | _ => false)
  | [], _ => false
/-- a method's name: its class, its own name -/
def splL : List Nat → Option (List Nat × List Nat)
  | [] => none
  | c :: r => if c = 46 then some ([], r) else (splL r).map fun q => (c :: q.1, q.2)
def spl (x : Str) : Option (Str × Str) := (splL x.cps.toList).map fun q => (⟨q.1.toArray⟩, ⟨q.2.toArray⟩)
def isNameX : Expr → Bool
  | .Name _ _ => true
  | _ => false
mutual
def tgs : Tg → List Nat
  | .nm i => [i]
  | .tup ts => tgss ts
  | .sub _ _ => []
def tgss : Tgs → List Nat
  | .nil => []
  | .cons t ts => tgs t ++ tgss ts
end
def noEx : Exs → Bool
  | .nil => true
  | .cons _ _ => false
/-- no two or three names get a written tuple -/
def asgTupOk (us : List Expr) (v : Expr) : Bool := !isTupE v || (!(us.length == 2) && !(us.length == 3))
/-- enumerate goes to a written tuple -/
def enumOk : It → Expr → Bool
  | .enum _, t => isTupE t
  | _, _ => true
mutual
def chkE (k : Ck) : Ex → Expr → Bool
  | .var i, a => (match a with
    | .Name x _ => k.slot i x && k.vis x
    | _ => false)
  | .lit p, a => (match a with
    | .Constant c _ _ => litB p c
    | _ => false)
  | .bin o x y, a => (match a with
    | .BinOp u op v _ => decide (op = bopOf o) && chkE k x u && chkE k y v
    | _ => false)
  | .neg x, a => (match a with
    | .UnaryOp .USub u _ => chkE k x u
    | _ => false)
  | .cmp o x y, a => (match a with
    | .Compare u [op] [v] _ => decide (op = copOf o) && chkE k x u && chkE k y v
    | _ => false)
  | .cmp2 o o' x y z, a => (match a with
    | .Compare u [op, op'] [v, t] _ => decide (op = copOf o) && decide (op' = copOf o') && chkE k x u && chkE k y v && chkE k z t
    | _ => false)
  | .and x y, a => (match a with
    | .BoolOp .And (u :: v :: r) pos => chkE k x u && noIf u && (match r with
      | [] => chkE k y v && noIf v
      | _ :: _ => chkE k y (.BoolOp .And (v :: r) pos))
    | _ => false)
  | .or x y, a => (match a with
    | .BoolOp .Or (u :: v :: r) pos => chkE k x u && noIf u && (match r with
      | [] => chkE k y v && noIf v
      | _ :: _ => chkE k y (.BoolOp .Or (v :: r) pos))
    | _ => false)
  | .not x, a => (match a with
    | .UnaryOp .Not u _ => chkE k x u && noIf u
    | _ => false)
  | .ite t x y, a => (match a with
    | .IfExp c u v _ => chkE k t c && chkE k x u && chkE k y v && noIf c
    | _ => false)
  | .call _ f as, a => (match a with
    | .Call (.Name x _) us [] _ => decide (k.fns[f]? = some x) && k.gl x && chkEs k as us && (spl x).isNone
    | _ => false)
  | .blt b as, a => (match a with
    | .Call (.Name x _) (u :: us) [] _ => k.blt x (bltS b) && chkEs k as (u :: us)
    | _ => false)
  | .isi x ts, a => (match a with
    | .Call (.Name f _) [u, t] [] _ => k.blt f "isinstance" && chkE k x u && chkIs k ts t
    | _ => false)
  | .mth m o as, a => (match a with
    | .Call (.Attribute u n apos) (v :: us) [] cpos => decide (n = mthN m) && (apos.endLine == cpos.line) && bare0 u && decide (us.length < 20) && chkE k o u && chkEs k as (v :: us)
    | .Call (.Attribute u n apos) [] [] cpos => decide (n = mthN m) && (apos.endLine == cpos.line) && bare0 u && chkE k o u && noEx as
    | _ => false)
  | .ix x i, a => (match a with
    | .Subscript u v _ => !isSlice v && chkE k x u && chkE k i v
    | _ => false)
  | .sl x lo hi _, a => (match a with
    | .Subscript u (.Slice l h none _) _ => chkE k x u && chkO k lo l && chkO k hi h
    | _ => false)
  | .tup as, a => (match a with
    | .Tuple us _ _ => chkEs k as us && decide (us.length < 1000)
    | _ => false)
  | .lst _ as, a => (match a with
    | .List us _ => chkEs k as us && decide (us.length < 1000)
    | _ => false)
  | .dnew _, a => (match a with
    | .Dict [] [] _ => true
    | _ => false)
  | .lc _ elt own tg it cond, a => (match a with
    | .ListComp u [⟨t, i, ifs, 0⟩] scope _ => blkC k.N k.sc scope (k.ownP own) && (tgs tg).all (fun i => decide (i ∈ own)) && enumOk it t && chkI k it i && chkG (k.blk scope) tg t && chkC (k.blk scope) cond ifs && chkE (k.blk scope) elt u
    | _ => false)
  | .dc _ ke va own tg it cond, a => (match a with
    | .DictComp u v [⟨t, i, ifs, 0⟩] scope _ => blkC k.N k.sc scope (k.ownP own) && (tgs tg).all (fun i => decide (i ∈ own)) && enumOk it t && chkI k it i && chkG (k.blk scope) tg t && chkC (k.blk scope) cond ifs && chkE (k.blk scope) ke u && chkE (k.blk scope) va v
    | _ => false)
  | .lc2 _ elt own tg it cond own1 tg1 it1 cond1, a => (match a with
    | .ListComp u [⟨t, i, ifs, 0⟩, ⟨t1, i1, ifs1, 0⟩] scope _ => blkC k.N k.sc scope (k.ownP own) && (tgs tg).all (fun i => decide (i ∈ own)) && enumOk it t && chkI k it i && chkG (k.blk scope) tg t && chkC (k.blk scope) cond ifs && (tgs tg1).all (fun i => decide (i ∈ own1)) && own1.all (fun i => decide (i ∈ own)) && enumOk it1 t1 && chkI (k.blk scope) it1 i1 && chkG (k.blk scope) tg1 t1 && chkC (k.blk scope) cond1 ifs1 && chkE (k.blk scope) elt u
    | _ => false)
  | .cat x y, a => (match a with
    | .BinOp u .Add v _ => chkE k x u && chkE k y v
    | _ => false)
  | .deq x y, a => (match a with
    | .Compare u [op] [v] _ => decide (op = .Eq) && chkE k x u && chkE k y v
    | _ => false)
  | .dd _ as, a => (match a with
    | .Dict ks vs _ => chkP k as ks vs && decide (ks ≠ []) && decide (ks.length ≤ 15)
    | _ => false)
  | .frz x, a => chkE k x a && plainT a
  | .con x p, a => (match a with
    | .Name y _ => decide (x = y) && k.gl x && decide ((x, p) ∈ k.con)
    | _ => false)
  | .att c f x, a => (match a with
    | .Attribute u n _ => decide (n = f) && decide ((c, f) ∈ k.fld) && isNameX u && chkE k x u
    | _ => false)
  | .new c i as, a => (match a with
    | .Call (.Name x _) (u :: us) [] _ => decide (x = c) && k.gl x && decide ((k.fns[i]?).bind spl = some (c, ("__init__" : Str))) && chkEs k as (u :: us)
    | _ => false)
def chkP (k : Ck) : Exs → List (Option Expr) → List Expr → Bool
  | .nil, ks, vs => ks.isEmpty && vs.isEmpty
  | .cons x xs, ks, vs => (match xs with
    | .cons y ys => (match ks, vs with
      | some a :: ks, b :: vs => chkE k x a && chkE k y b && chkP k ys ks vs
      | _, _ => false)
    | .nil => false)
def chkEs (k : Ck) : Exs → List Expr → Bool
  | .nil, as => as.isEmpty
  | .cons x xs, as => (match as with
    | a :: as => !isStar a && chkE k x a && chkEs k xs as
    | [] => false)
def chkO (k : Ck) : OEx → Option Expr → Bool
  | .none, a => a.isNone
  | .some x, a => (match a with
    | some a => chkE k x a
    | none => false)
def chkC (k : Ck) : OEx → List Expr → Bool
  | .none, as => as.isEmpty
  | .some x, as => (match as with
    | [a] => chkE k x a && noIf a
    | _ => false)
def chkG (k : Ck) : Tg → Expr → Bool
  | .nm i, a => (match a with
    | .Name x _ => k.slot i x && k.loc x
    | _ => false)
  | .tup ts, a => (match a with
    | .Tuple us _ _ => chkGs k ts us
    | _ => false)
  | .sub x i, a => (match a with
    | .Subscript u v _ => !isSlice v && chkE k x u && chkE k i v
    | _ => false)
def chkGs (k : Ck) : Tgs → List Expr → Bool
  | .nil, as => as.isEmpty
  | .cons t ts, as => (match as with
    | a :: as => !isStar a && chkG k t a && chkGs k ts as
    | [] => false)
def chkI (k : Ck) : It → Expr → Bool
  | .seq x, a => chkE k x a
  | .rng1 x, a => (match a with
    | .Call (.Name f _) [u] [] _ => k.blt f "range" && !isStar u && chkE k x u
    | _ => false)
  | .rng2 x y, a => (match a with
    | .Call (.Name f _) [u, v] [] _ => k.blt f "range" && !isStar u && !isStar v && chkE k x u && chkE k y v
    | _ => false)
  | .enum x, a => (match a with
    | .Call (.Name f _) [u] [] _ => k.blt f "enumerate" && !isStar u && chkE k x u
    | _ => false)
  | .rev x, a => (match a with
    | .Call (.Name f _) [u] [] _ => k.blt f "reversed" && !isStar u && chkE k x u
    | _ => false)
end
/-- a name's store that goes along with the comprehension -/
def swB (k : Ck) (a tgt : Expr) : Bool := match a, tgt with
  | .ListComp _ _ s p, .Name t q => k.isLocal t && (q.line == p.line) && !(s.names.any fun (n, k) => n == t && (k == .local || k == .cell))
  | .DictComp _ _ _ s p, .Name t q => k.isLocal t && (q.line == p.line) && !(s.names.any fun (n, k) => n == t && (k == .local || k == .cell))
  | _, _ => false
def fnKind (k : Ck) : Bool := match k.sc.kind with
  | .function => true
  | _ => false
def plainEx : Ex → Bool
  | .lc _ _ _ _ _ _ => true
  | .lc2 _ _ _ _ _ _ _ _ _ _ => true
  | .dc _ _ _ _ _ _ _ => true
  | _ => false
/-- a step that is no step of the text -/
def isGz : Stm → Bool
  | .gz _ => true
  | _ => false
/-- what an except suite says -/
def isOne : Hx → Bool
  | .nil => false
  | .cons _ _ => false
  | _ => true
def Ck.exn (k : Ck) (o : Option Nat) (n : Str) : Bool := match o with
  | some i => k.slot i n && k.vis n
  | none => false
def chkX (k : Ck) (o : Option Nat) : Hx → List Expr → Bool
  | .nil, as => as.isEmpty
  | .lit p, as => (match as with
    | [.Constant c _ _] => litB p c
    | _ => false)
  | .fld f, as => (match as with
    | [.Attribute (.Name n _) g _] => decide (f = g) && k.exn o n && k.xcs.all fun q => decide (f ∈ q.fno)
    | _ => false)
  | .isi c yes no, as => (match as with
    | [.Call (.Name f _) [.Name n _, .Name x _] [] _] => k.blt f "isinstance" && k.exn o n && decide (x = c) && k.gl c && (yes ++ no).any (fun _ => true) && yes.all (k.isx c true) && no.all (k.isx c false)
    | _ => false)
  | .cons x xs, as => (match as with
    | a :: as => !isStar a && isOne x && chkX k o x [a] && chkX k o xs as
    | _ => false)
  | .tup xs, as => (match as with
    | [.Tuple us _ _] => chkX k o xs us && decide (us.length < 1000)
    | _ => false)
  | .and _ _, _ => false
  | .not _, _ => false
def chkXt (k : Ck) (o : Option Nat) : Hx → Expr → Bool
  | .and x y, a => (match a with
    | .BoolOp .And [u, v] _ => chkXt k o x u && noIf u && chkXt k o y v && noIf v
    | _ => false)
  | .not x, a => (match a with
    | .UnaryOp .Not u _ => chkXt k o x u && noIf u
    | _ => false)
  | .isi c yes no, a => chkX k o (.isi c yes no) [a]
  | _, _ => false
/-- it ends with return -/
def retM : Hm → Bool
  | .nil => false
  | .ret _ _ => true
  | .asg _ _ r => retM r
  | .ite _ a r => retM a && retM r
def chkM (k : Ck) (o : Option Nat) : Hm → List Stmt → Bool
  | .nil, as => as.isEmpty
  | .ret x r, as => (match as with
    | .Return (some u) _ :: as => isOne x && chkX k o x [u] && chkM k o r as
    | _ => false)
  | .asg i x r, as => (match as with
    | .Assign [.Name n _] u _ :: as => k.slot i n && k.loc n && decide (o ≠ some i) && isOne x && chkX k o x [u] && !isComp u && chkM k o r as
    | _ => false)
  | .ite c a r, as => (match as with
    | .If t b [] _ :: as => chkXt k o c t && noIf t && retM a && chkM k o a b && chkM k o r as
    | _ => false)
def chkHs (k : Ck) : Hds → List ExceptHandler → Bool
  | .nil, as => as.isEmpty
  | .cons c yes no h r, as => (match as with
    | .ExceptHandler (some (.Name x _)) none (s0 :: su) _ :: as => decide (x = c) && k.gl c && (yes ++ no).any (fun _ => true) && yes.all (k.isx c true) && no.all (k.isx c false) && chkM k none h (s0 :: su) && chkHs k r as
    | _ => false)
mutual
def chkS (k : Ck) : Stm → Stmt → Bool
  | .asg t e, a => (match a with
    | .Assign [tg] v _ => chkE k e v && chkG k t tg && (match tg with
      | .Name x _ => !isComp v || (fnKind k && (!swB k v tg || plainEx e))
      | .Tuple us _ _ => asgTupOk us v
      | _ => true)
    | _ => false)
  | .ex e, a => (match a with
    | .Expr v _ => chkE k e v && !isComp v
    | _ => false)
  | .ret e, a => (match a with
    | .Return (some v) _ => chkE k e v
    | _ => false)
  | .retN, a => (match a with
    | .Return none _ => true
    | _ => false)
  | .ite c x y, a => (match a with
    | .If t u v _ => chkE k c t && noIf t && chkB k x u && chkB k y v
    | _ => false)
  | .for tg it b, a => (match a with
    | .For t i u [] _ => enumOk it t && chkG k tg t && chkI k it i && chkB k b u
    | _ => false)
  | .whl c b, a => (match a with
    | .While t u [] _ => chkE k c t && noIf t && chkB k b u
    | _ => false)
  | .brk, a => (match a with
    | .Break _ => true
    | _ => false)
  | .cnt, a => (match a with
    | .Continue _ => true
    | _ => false)
  | .pas, a => (match a with
    | .Pass _ => true
    | _ => false)
  | .par i j e f, a => (match a with
    | .Assign [.Tuple [.Name x px, .Name y py] _ _] (.Tuple [u, v] _ _) _ => fnKind k && k.slot i x && k.slot j y && decide (i ≠ j) && k.isLocal x && k.isLocal y && !(x == y) && (py.line == px.line) && !isStar u && !isStar v && !foldedForSure 8 u && !constantsAlone 8 u && chkE k e u && chkE k f v
    | _ => false)
  | .gz _, _ => false
  | .bad, _ => true
  | .fld c f x e, a => (match a with
    | .Assign [.Attribute u n _] v _ => decide (n = f) && decide ((c, f) ∈ k.fld) && chkE k x u && chkE k e v
    | _ => false)
  | .rse c, a => (match a with
    | .Raise (some (.Call (.Name x _) [] [] _)) none _ => decide (x = c) && k.gl c && k.rai c none
    | _ => false)
  | .rsf c f e, a => (match a with
    | .Raise (some (.Call (.Name x _) [u] [] _)) none _ => decide (x = c) && k.gl c && k.rai c (some f) && !isStar u && chkE k e u
    | _ => false)
  | .trya b c i yes no h, a => (match a with
    | .Try body [.ExceptHandler (some (.Name x _)) (some n) (s0 :: su) _] [] [] _ => decide (x = c) && k.gl c && k.slot i n && k.isLocal n && (yes ++ no).any (fun _ => true) && yes.all (k.isx c true) && no.all (k.isx c false) && chkB k b body && chkM k (some i) h (s0 :: su)
    | _ => false)
  | .trym b hs, a => (match a with
    | .Try body (h0 :: hds) [] [] _ => chkB k b body && chkHs k hs (h0 :: hds)
    | _ => false)
def chkB (k : Ck) : Sts → List Stmt → Bool
  | .nil, as => as.isEmpty
  | .cons s ss, as => if isGz s = true then chkB k ss as else (match as with
    | a :: as => chkS k s a && chkB k ss as
    | [] => false)
end

/-! ### exception classes -/
/-- what a class's name says -/
def NmV (mg : Str → Option Value) (x : Str) (cv : Value) : Prop := (∃ A, cv = .ref A ∧ mg x = some (.ref A)) ∨ (∃ n, cv = .type n ∧ mg x = none ∧ bootBuiltins x = some (.type n) ∧ x ≠ "__name__")
structure XcOk (P : Program) (K : PySem.W.Frag) (mg : Str → Option Value) (q : Xc) : Prop where
  gm : mg q.c = some (.ref (He.ga K q.c))
  kp : PySem.W.keepIn K (.ref (He.ga K q.c)) = true
  bs : PySem.W.subIn K (.ref (He.ga K q.c)) (.type "BaseException") = some true
  ty : PySem.W.typeIn K (.ref (He.ga K q.c)) = some (.type "type")
  ec : ExcC K (He.ga K q.c)
  xin : q.ini = none → PySem.W.excIn K (He.ga K q.c) PySem.HandSPX.veTail "ValueError.__new__" = true
  xi : ∀ f, q.ini = some f → mg "super" = none ∧ ∃ fI, PySem.VSX.XTxt P K (He.ga K q.c) fI f
  fo : ∀ f ∈ q.fno, PySem.W.findIn K (.ref (He.ga K q.c)) f = some none
  is : ∀ z ∈ q.is, ∃ cv, NmV mg z.1 cv ∧ PySem.W.exmOne K (.ref (He.ga K q.c)) cv = some z.2 ∧ PySem.W.kitOne K (.ref (He.ga K q.c)) cv = some z.2

/-! ### shapes -/
theorem chk_shape {k : Ck} : ∀ {x : Ex} {a : Expr}, chkE k x a = true → isStar a = false ∧ isSet a = false ∧ isSlice a = false := by
  intro x
  induction x using Ex.rec (motive_2 := fun _ => True) (motive_3 := fun _ => True) (motive_4 := fun _ => True) (motive_5 := fun _ => True) (motive_6 := fun _ => True) <;> intros <;> first
    | trivial
    | (rename_i ih a h; unfold chkE at h; rw [Bool.and_eq_true] at h; exact ih h.1)
    | (rename_i h; unfold chkE at h; dsimp only at h; split at h <;> first | exact ⟨rfl, rfl, rfl⟩ | cases h)
    | (rename_i h; unfold chkE at h; split at h <;> first | exact ⟨rfl, rfl, rfl⟩ | cases h)
end PyM
namespace PyM
open PySem PySem.Spec PyProof.Rows L2

/-! ### calls by their meaning -/
def EXk (c : Cfg) (E : XK) : EH := fun e g' _ H' => ∀ cls dx, RepX c g' H' e cls dx → E cls dx H'
/-- what a def promises: what it means -/
def spM (c : Cfg) (m : List D → Sto → Res D) : Sp := fun vs H Q E => ∃ g st ds, RepDs c g st.length H ds vs ∧ Wd c g st H ∧ EndR c g st H (EXk c E) (RepD c) (m ds st) Q
structure FnM (X : Cx) (ca : Str → Option Addr) (r : Nat) (m : List D → Sto → Res D) (x : Str) (f : Addr) (fd : FuncData) (ps : List Str) : Prop where
  ok : FnOk X.prog X.w X.K X.mg X.base (L2.CX X.prog X.w) r f fd ps (spM (cfgOf X ca) m)
  mg : spl x = none → X.mg x = some (.ref f)
  mt : ∀ c m, spl x = some (c, m) → ∃ A, ca c = some A ∧ X.mg c = some (.ref A) ∧ Meth X.K A m f ∧ (m = "__init__" → Mk X.K A f)
  kp : PySem.W.keepIn X.K (.ref f) = true
  bd : Binds X.K fd ps []
/-- the context the text is read in -/
structure Gx (X : Cx) (W : WX) (k : Ck) (ca : Str → Option Addr) (r : Nat) (cf : CF) : Prop where
  nm : X.N = k.N
  nd : X.N.Nodup
  sc : X.env.scope = k.sc
  calm : X.calm = true
  room : Room (r + 1) X.A
  bl : ∀ x ∈ k.bl, X.mg x = none
  fnk : ∀ x, k.fnok x = true → X.fn x = true
  tk : Takes X W
  kf : KF X.K ca
  cls : ∀ c ∈ k.cls, ∃ A, ca c = some A ∧ X.mg c = some (.ref A)
  fld : ∀ q ∈ k.fld, ∃ A, ca q.1 = some A ∧ NoAttr X.K A q.2
  xcs : ∀ q ∈ k.xcs, XcOk X.prog X.K X.mg q
  con : ∀ q ∈ k.con, ∃ (u : Value) (v : V), X.mg q.1 = some u ∧ RelV v u ∧ ∀ F H, RepP (cfgOf X ca) F H q.2 v
  fns : ∀ i x, k.fns[i]? = some x → ∃ f fd ps, FnM X ca r (cf i) x f fd ps
section
variable {X : Cx} {W : WX} {k : Ck} {ca : Str → Option Addr} {r : Nat} {cf : CF}
theorem Gx.un (G : Gx X W k ca r cf) : X.A.units + 65 < cLine := by have := G.room.un; omega
theorem Gx.un64 (G : Gx X W k ca r cf) : X.A.units + 64 < cLine := by have := G.room.un; omega
theorem Gx.slot (G : Gx X W k ca r cf) {i : Nat} {x : Str} (h : k.slot i x = true) : X.N[i]? = some x := by
  rw [G.nm]
  exact of_decide_eq_true h
theorem Gx.vis (G : Gx X W k ca r cf) {x : Str} (h : k.vis x = true) : Vis X.env.scope x ∧ (x == ("__debug__" : Str)) = false ∧ (x == ("__classdict__" : Str)) = false := by
  unfold Ck.vis at h
  rw [Bool.and_eq_true, Bool.and_eq_true] at h
  obtain ⟨⟨h1, h2⟩, h3⟩ := h
  refine ⟨?_, by simpa using h2, by simpa using h3⟩
  unfold Vis
  rw [G.sc]
  split at h1
  · exact .inl (by assumption)
  · exact .inr (.inl (by assumption))
  · exact .inr (.inr (by assumption))
  · cases h1
theorem Gx.gl (G : Gx X W k ca r cf) {x : Str} (h : k.gl x = true) : Gl X x ∧ (x == ("__debug__" : Str)) = false ∧ x ≠ "__name__" := by
  unfold Ck.gl at h
  rw [Bool.and_eq_true, Bool.and_eq_true] at h
  obtain ⟨⟨h1, h2⟩, h3⟩ := h
  refine ⟨?_, by simpa using h2, by simpa using h3⟩
  show X.env.scope.names.lookup x = _
  rw [G.sc]
  split at h1
  · assumption
  · cases h1
theorem Gx.loc (G : Gx X W k ca r cf) {x : Str} (h : k.loc x = true) : L2.Loc X.env.scope x ∧ (X.fn x = true ∨ X.env.scope.names.lookup x = some .local) := by
  unfold Ck.loc at h
  unfold L2.Loc
  rw [G.sc]
  split at h
  · rename_i e
    exact ⟨.inl e, .inr e⟩
  · rename_i e
    exact ⟨.inr e, .inl (G.fnk x h)⟩
  · cases h
theorem Gx.blt (G : Gx X W k ca r cf) {x y : Str} (h : k.blt x y = true) : x = y ∧ Gl X x ∧ (x == ("__debug__" : Str)) = false ∧ x ≠ "__name__" ∧ X.mg x = none := by
  unfold Ck.blt at h
  rw [Bool.and_eq_true, Bool.and_eq_true] at h
  obtain ⟨⟨h1, h2⟩, h3⟩ := h
  obtain ⟨a, b, c⟩ := G.gl h2
  exact ⟨of_decide_eq_true h1, a, b, c, G.bl x (of_decide_eq_true h3)⟩
end

/-! ### readings put together -/
section
variable {c : Cfg} {W : WX} {γ δ : Type} {rep' : Gh → Nat → Hp → γ → δ → Prop}
theorem TX.bind2 {m1 m2 : Env → Sto → Res D} {f : Env → D → D → Sto → Res γ} {σ : PSt} {H : Hp} {Q : δ → Hp → Prop} {Q2 : V → V → Hp → Prop}
    (h : TX c W rep' (fun env st => (m1 env st).bind fun x s1 => (m2 env s1).bind fun y s2 => f env x y s2) σ H Q)
    (k : ∀ g env st x y v u H2, RepE c g st.length H2 env σ → Wd c g st H2 → RepD c g st.length H2 x v → RepD c g st.length H2 y u → EndR c g st H2 (EW c W σ) rep' (f env x y st) Q → Q2 v u H2) :
    TD c W m1 σ H fun v H1 => TD c W m2 σ H1 fun u H2 => Q2 v u H2 :=
  TX.bind (f := fun env x s1 => (m2 env s1).bind fun y s2 => f env x y s2) h fun g1 env st1 a v H1 re w ra h =>
    TX.of re w (h.bind.imp fun u H2 ⟨g2, st2, b, M⟩ => k g2 env st2 a b v u H2 (re.mono M.ext) M.wd (ra.mono M.ext) M.rp M.nx)
end
theorem rd2 {c : Cfg} {g : Gh} {st : Sto} {H : Hp} {E : EH} {γ δ : Type} {rep' : Gh → Nat → Hp → γ → δ → Prop} {Q : δ → Hp → Prop} {x y : D} {f : P → P → Res γ} (h : EndR c g st H E rep' (match rd st x, rd st y with
    | some x, some y => f x y
    | _, _ => .fail) Q) : ∃ p q, rd st x = some p ∧ rd st y = some q ∧ EndR c g st H E rep' (f p q) Q := by
  cases e1 : rd st x with
  | none => rw [e1] at h; exact h.elim
  | some p =>
    cases e2 : rd st y with
    | none => rw [e1, e2] at h; exact h.elim
    | some q => rw [e1, e2] at h; exact ⟨p, q, rfl, rfl, h⟩
/-- an answer that is a bool -/
theorem end_bl {c : Cfg} {g : Gh} {st : Sto} {H : Hp} {E : EH} {Q : VK} {b : Bool} (h : EndR c g st H E (RepD c) (.ok (.p (.bl b)) st) Q) (w : Wd c g st H) : Q (.bl b) H := (h.ans w).bl
theorem end_at {c : Cfg} {g : Gh} {st : Sto} {H : Hp} {E : EH} {Q : VK} {d : D} {v : V} (h : EndR c g st H E (RepD c) (.ok d st) Q) (w : Wd c g st H) (r : RepD c g st.length H d v) : Q v H := h g H v Ext.refl r w
theorem bin_of {c : Cfg} {g : Gh} {st : Sto} {H : Hp} {Q : VK} {o : BOp} {dx dy : D} {p q z : P} {x y : V} (w : Wd c g st H) (rx : RepD c g st.length H dx x) (ry : RepD c g st.length H dy y) (h1 : rd st dx = some p) (h2 : rd st dy = some q) (hb : bop o p q = some z) (h : Ans c g.F H z Q) : rB c.K o x y H Q := by
  by_cases hl : ∃ xs ys, p = .lst xs ∧ q = .lst ys
  · obtain ⟨xs, ys, rfl, rfl⟩ := hl
    obtain ⟨a1, vs, rfl, t, z1, r⟩ := rd_lst w rx h1
    obtain ⟨a2, ws, rfl, t', z2, r'⟩ := rd_lst w ry h2
    cases o <;> first | (cases hb; done) | skip
    simp only [bop] at hb
    split at hb
    · cases hb
      have l1 := r.len
      have l2 := r'.len
      exact .inr (.inr (.inr ⟨a1, a2, vs, ws, rfl, rfl, t, t', by omega, fun p n => h.lst (r.app r') (by rw [List.length_append]; omega) p n⟩))
    · cases hb
  · cases o <;> cases p <;> cases q <;> first
      | (cases hb; done)
      | exact absurd ⟨_, _, rfl, rfl⟩ hl
      | (have e1 := rd_p h1 rfl
         have e2 := rd_p h2 rfl
         subst e1 e2
         exact rB_of rx ry hb h)
section
variable {X : Cx} {W : WX} {k : Ck} {ca : Str → Option Addr} {r : Nat} {cf : CF}
variable {pos : Pos} {u v t : Expr}
/-- the meaning told -/
theorem TX.unf {α β : Type} {c : Cfg} {rep : Gh → Nat → Hp → α → β → Prop} {m m' : Env → Sto → Res α} {σ : PSt} {H : Hp} {Q : β → Hp → Prop} (h : TX c W rep m σ H Q) (e : ∀ env st, m env st = m' env st) : TX c W rep m' σ H Q := by
  obtain ⟨g, env, st, re, w, h⟩ := h
  rw [e] at h
  exact ⟨g, env, st, re, w, h⟩
theorem e_var (G : Gx X W k ca r cf) {i : Nat} {x : Str} (h1 : k.slot i x = true) (h2 : k.vis x = true) : PE X (.Name x pos) (TD (cfgOf X ca) W (den cf (.var i))) := by
  obtain ⟨a, b, d⟩ := G.vis h2
  refine PE.imp (pe_var (G.slot h1) a b d) fun σ H Q h => ?_
  obtain ⟨g, env, st, re, w, h⟩ := h
  unfold den at h
  split at h
  · rename_i d e
    obtain ⟨v, e2, rv⟩ := re.2 i d e
    exact ⟨v, e2, end_at h w rv⟩
  · exact h.elim
theorem e_lit {p : P} {n : Const} {j : Nat} (h : litB p n = true) : PE X (.Constant n j pos) (TD (cfgOf X ca) W (den cf (.lit p))) := by
  have en : ∀ {σ : PSt} {H : Hp} {Q : VK}, TD (cfgOf X ca) W (den cf (.lit p)) σ H Q → ∀ v, RepP (cfgOf X ca) (fun _ => False) H p v → Q v H := fun {σ H Q} h v rv => by
    obtain ⟨g, env, st, re, w, h⟩ := h
    unfold den at h
    exact end_at h w (RepP.mono ⟨fun _ z => z.elim, fun _ _ z _ => z.elim⟩ _ _ rv)
  unfold litB at h
  split at h
  · exact PE.imp pe_non fun σ H Q z => en z _ (by rw [RepP])
  · rename_i b b'
    have e := eq_of_beq h
    subst e
    exact PE.imp pe_bl fun σ H Q z => en z _ (by rw [RepP])
  · rename_i b b'
    have e := of_decide_eq_true h
    subst e
    exact PE.imp pe_int fun σ H Q z => en z _ (by rw [RepP])
  · rename_i b b'
    rw [Bool.and_eq_true, Bool.and_eq_true] at h
    have e := of_decide_eq_true h.1.1
    subst e
    exact PE.imp pe_str fun σ H Q z => en z _ (by rw [RepP]; exact ⟨rfl, h.1.2, of_decide_eq_true h.2⟩)
  · cases h
theorem e_neg {x : Ex} (hx : PE X u (TD (cfgOf X ca) W (den cf x))) : PE X (.UnaryOp .USub u pos) (TD (cfgOf X ca) W (den cf (.neg x))) := by
  refine PE.imp (pe_un un_neg hx) fun σ H Q h => ?_
  refine TX.bind (f := fun env x s1 => (match x with
    | .p (.int i) => .ok (.p (.int (-i))) s1
    | _ => .fail)) (h.unf fun env st => by rw [den] <;> rfl) fun g1 env st1 a v H1 re w ra h => ?_
  split at h
  · rename_i i
    have ra' : RepP (cfgOf X ca) g1.F H1 (.int i) v := ra
    rw [RepP] at ra'
    exact ⟨i, ra', (h.ans w).int⟩
  · exact h.elim
end
end PyM
namespace PyM
open PySem PySem.Spec PyProof.Rows L2

/-! ### stars -/
theorem star_cons {e : Expr} {es : List Expr} {env : PySem.Env} (h : isStar e = false) : starEach (e :: es) env = (false, eval e env) :: starEach es env := by
  cases e <;> first | rfl | (cases h)
theorem star_any : ∀ {es : List Expr} {env : PySem.Env} {pos : Pos}, (∀ u ∈ es, isStar u = false) → (backTo pos (starEach es env)).any (·.1) = false
  | [], _, _, _ => rfl
  | e :: es, env, pos, h => by
    rw [star_cons (h e (List.mem_cons_self ..))]
    show (false || (backTo pos (starEach es env)).any (·.1)) = false
    rw [star_any fun u hu => h u (List.mem_cons_of_mem _ hu)]
    rfl
theorem star_all : ∀ {es : List Expr} {env : PySem.Env} {pos : Pos}, (∀ u ∈ es, isStar u = false) → (backTo pos (starEach es env)).all (fun x => !x.1) = true
  | [], _, _, _ => rfl
  | e :: es, env, pos, h => by
    rw [star_cons (h e (List.mem_cons_self ..))]
    show (true && (backTo pos (starEach es env)).all (fun x => !x.1)) = true
    rw [star_all fun u hu => h u (List.mem_cons_of_mem _ hu)]
    rfl
theorem chk_stars {k : Ck} : ∀ {as : Exs} {us : List Expr}, chkEs k as us = true → ∀ u ∈ us, isStar u = false
  | .nil, us, h => by
    unfold chkEs at h
    cases us with
    | nil => exact fun u hu => by cases hu
    | cons a b => cases h
  | .cons x xs, us, h => by
    unfold chkEs at h
    split at h
    · rename_i a as
      rw [Bool.and_eq_true, Bool.and_eq_true] at h
      intro u hu
      rcases List.mem_cons.mp hu with rfl | hu
      · simpa using h.1.1
      · exact chk_stars h.2 u hu
    · cases h
theorem base_eq {o : Expr} {n : Str} {env : PySem.Env} (h : bare0 o = true) : attributeBase o n env (eval o env) = eval o env := by
  unfold attributeBase
  unfold bare0 at h
  split at h
  · cases h
  · rename_i h'
    split
    · rename_i id p1 p2
      exact absurd rfl (h' _ _ _)
    · rfl
theorem nomark_of {k : Ck} {x : Ex} {b : Expr} {op : CmpOp} (h : chkE k x b = true) : behindInMarks op b = false := by
  have z := (chk_shape h).2.1
  cases b <;> first | rfl | (cases z)
section
variable {X : Cx} {W : WX} {k : Ck} {ca : Str → Option Addr} {r : Nat} {cf : CF}
variable {pos : Pos} {u v t : Expr} {x y z : Ex}
abbrev TDx (X : Cx) (ca : Str → Option Addr) (W : WX) (cf : CF) (x : Ex) : TE := TD (cfgOf X ca) W (den cf x)
abbrev TBx (X : Cx) (ca : Str → Option Addr) (W : WX) (cf : CF) (x : Ex) : TT := TB (cfgOf X ca) W (denc cf (.some x))

/-! ### implications -/
theorem i_bin {o : BOp} {σ : PSt} {H : Hp} {Q : VK} (h : TDx X ca W cf (.bin o x y) σ H Q) : tOp (rB X.K o) (TDx X ca W cf x) (TDx X ca W cf y) σ H Q :=
  TX.bind2 (f := fun _ x y s2 => (match rd s2 x, rd s2 y with
    | some x, some y => opt ((bop o x y).map .p) s2
    | _, _ => .fail)) (h.unf fun env st => by rw [den] <;> rfl) fun g env st x y v u H2 re w rx ry h => by
      obtain ⟨p, q, h1, h2, h⟩ := rd2 h
      obtain ⟨d, hd, h⟩ := h.opt
      obtain ⟨z, hz, rfl⟩ := Option.map_eq_some_iff.mp hd
      exact bin_of w rx ry h1 h2 hz (h.ans w)
theorem i_cat {σ : PSt} {H : Hp} {Q : VK} (h : TDx X ca W cf (.cat x y) σ H Q) : tOp (rB X.K .add) (TDx X ca W cf x) (TDx X ca W cf y) σ H Q :=
  TX.bind2 (f := fun _ x y s2 => (match rd s2 x, rd s2 y with
    | some (.lst xs), some (.lst ys) => if xs.length + ys.length ≤ sizeLine then mkL true ((xs ++ ys).map .p) s2 else .fail
    | _, _ => .fail)) (h.unf fun env st => by rw [den] <;> rfl) fun g env st x y v u H2 re w rx ry h => by
      split at h
      · rename_i xs ys h1 h2
        split at h
        · rename_i hz
          obtain ⟨a1, vs, rfl, t, z1, r⟩ := rd_lst w rx h1
          obtain ⟨a2, ws, rfl, t', z2, r'⟩ := rd_lst w ry h2
          have l1 := r.len
          have l2 := r'.len
          exact .inr (.inr (.inr ⟨a1, a2, vs, ws, rfl, rfl, t, t', by omega, fun p n => mkL_end h w (RepDs.of (r.app r')) (by rw [List.length_append]; omega) p n⟩))
        · exact h.elim
      · exact h.elim
theorem fl0_rep {c : Cfg} {F : Addr → Prop} {H : Hp} {p : P} {u v : V} (h : p.fl0 = true) (ru : RepP c F H p u) (rv : RepP c F H p v) : u = v ∧ flatB u = true := by
  cases p <;> first | (cases h; done) | skip
  all_goals (rw [RepP] at ru rv)
  · subst ru rv; exact ⟨rfl, rfl⟩
  · subst ru rv; exact ⟨rfl, rfl⟩
  · subst ru rv; exact ⟨rfl, rfl⟩
  · obtain ⟨ru, _⟩ := ru
    obtain ⟨rv, _⟩ := rv
    subst ru rv; exact ⟨rfl, rfl⟩
theorem dq_same {c : Cfg} {F : Addr → Prop} {H : Hp} : ∀ {kvs : List (P × P)} {es fs : List Ent}, dqok kvs = true → RepKs c F H kvs es → RepKs c F H kvs fs → (es.map fun e => (e.1.kk, e.2.2)) = (fs.map fun e => (e.1.kk, e.2.2)) ∧ (∀ p ∈ (es.map fun e => (e.1.kk, e.2.2)), flatB p.2 = true) ∧ es.map (·.1) = kvs.map (·.1)
  | [], es, fs, _, r1, r2 => by
    rw [RepKs] at r1 r2
    subst r1 r2
    exact ⟨rfl, (fun _ h => nomatch h), rfl⟩
  | (k, x) :: kvs, es, fs, h, r1, r2 => by
    rw [RepKs] at r1 r2
    obtain ⟨a1, v1, es', rfl, b1, c1, d1⟩ := r1
    obtain ⟨a2, v2, fs', rfl, b2, c2, d2⟩ := r2
    unfold dqok at h
    rw [List.all_cons, Bool.and_eq_true, Bool.and_eq_true] at h
    obtain ⟨e1, e2⟩ := fl0_rep h.1.2 c1 c2
    obtain ⟨i1, i2, i3⟩ := dq_same (kvs := kvs) h.2 d1 d2
    subst e1
    refine ⟨by rw [List.map_cons, List.map_cons, i1], fun p hp => ?_, by rw [List.map_cons, List.map_cons, i3]⟩
    rw [List.map_cons] at hp
    rcases List.mem_cons.mp hp with rfl | hp
    · exact e2
    · exact i2 p hp
theorem dct_rd {c : Cfg} {F : Addr → Prop} {H : Hp} {kvs : List (P × P)} {x : V} (h : RepP c F H (.dct kvs) x) (hs : dqok kvs = true) : ∃ a es, x = .ref a ∧ Rd H a (.dK (es.map fun (e : Ent) => (e.1.kk, e.2.2))) ∧ RepKs c F H kvs es ∧ (es.map (·.1)).Nodup ∧ ∀ e ∈ es, e.1.sca = true := by
  rw [RepP] at h
  obtain ⟨a, es, rfl, ⟨_, _, nd, d⟩, r⟩ := h
  obtain ⟨_, _, i3⟩ := dq_same hs r r
  have sc : ∀ e ∈ es, e.1.sca = true := fun e he => by
    have : e.1 ∈ kvs.map (·.1) := by rw [← i3]; exact List.mem_map.mpr ⟨e, he, rfl⟩
    obtain ⟨q, hq, eq⟩ := List.mem_map.mp this
    have := List.all_eq_true.mp hs q hq
    rw [Bool.and_eq_true] at this
    rw [← eq]; exact this.1
  refine ⟨a, es, rfl, ?_, r, nd, sc⟩
  rcases d with ⟨_, d⟩ | ⟨ne, tk, _⟩
  · exact d
  · obtain ⟨e, he⟩ := List.exists_mem_of_ne_nil _ ne
    have h1 := sc e he
    have h2 := tk e he
    generalize e.1 = p at h1 h2
    cases p <;> first | (cases h1; done) | (simp [P.tky] at h2; done) | (cases h2; done)
theorem kk_nodup {es : List Ent} (nd : (es.map (·.1)).Nodup) (sc : ∀ e ∈ es, e.1.sca = true) : ((es.map fun (e : Ent) => (e.1.kk, e.2.2)).map (·.1)).Nodup := by
  rw [List.map_map]
  have inj : ∀ a ∈ es.map (·.1), ∀ b ∈ es.map (·.1), P.kk a = P.kk b → a = b := fun a ha b hb e => by
    obtain ⟨x, hx, rfl⟩ := List.mem_map.mp ha
    obtain ⟨y, hy, rfl⟩ := List.mem_map.mp hb
    have h1 := sc x hx
    have h2 := sc y hy
    generalize x.1 = p at *
    generalize y.1 = q at *
    cases p <;> cases q <;> first | (cases h1; done) | (cases h2; done) | skip
    · simp [P.kk] at e; rw [e]
    · simp [P.kk] at e
    · simp [P.kk] at e
    · simp [P.kk] at e; rw [e]
  have e : (es.map ((fun x : Key × V => x.1) ∘ fun (e : Ent) => (e.1.kk, e.2.2))) = (es.map (·.1)).map P.kk := by rw [List.map_map]; rfl
  rw [e, List.nodup_iff_pairwise_ne, List.pairwise_map]
  rw [List.nodup_iff_pairwise_ne] at nd
  exact nd.imp_of_mem fun {a b} ha hb hne he => hne (inj a ha b hb he)
theorem i_deq {σ : PSt} {H : Hp} {Q : VK} (h : TDx X ca W cf (.deq x y) σ H Q) : tOp rDq (TDx X ca W cf x) (TDx X ca W cf y) σ H Q :=
  TX.bind2 (f := fun _ x y s2 => (match rd s2 x, rd s2 y with
    | some (.dct p), some (.dct q) => if p = q ∧ dqok p = true then .ok (.p (.bl true)) s2 else .fail
    | _, _ => .fail)) (h.unf fun env st => by rw [den] <;> rfl) fun g env st x y v u H2 re w rx ry h => by
      split at h
      · rename_i p q h1 h2
        split at h
        · rename_i hz
          obtain ⟨rfl, hd⟩ := hz
          obtain ⟨a, es, rfl, ra, ks, nd, sc⟩ := dct_rd (rd_rep w rx h1) hd
          obtain ⟨b, fs, rfl, rb, kt, _, _⟩ := dct_rd (rd_rep w ry h2) hd
          obtain ⟨e1, e2, _⟩ := dq_same hd ks kt
          exact ⟨a, b, _, rfl, rfl, ra, by rw [e1]; exact rb, kk_nodup nd sc, e2, end_bl h w⟩
        · exact h.elim
      · exact h.elim
theorem i_cmp {o : COp} {σ : PSt} {H : Hp} {Q : VK} (h : TDx X ca W cf (.cmp o x y) σ H Q) : tOp (rC (cfgOf X ca) o) (TDx X ca W cf x) (TDx X ca W cf y) σ H Q :=
  TX.bind2 (f := fun _ x y s2 => (match rd s2 x, rd s2 y with
    | some x, some y => opt ((cop o x y).map fun b => .p (.bl b)) s2
    | _, _ => .fail)) (h.unf fun env st => by rw [den] <;> rfl) fun g env st x y v u H2 re w rx ry h => by
      obtain ⟨p, q, h1, h2, h⟩ := rd2 h
      obtain ⟨d, hd, h⟩ := h.opt
      obtain ⟨b, hb, rfl⟩ := Option.map_eq_some_iff.mp hd
      exact rC_of (rd_rep w rx h1) (rd_rep w ry h2) hb (end_bl h w)
theorem i_cmp2 {o o' : COp} {σ : PSt} {H : Hp} {Q : VK} (h : TDx X ca W cf (.cmp2 o o' x y z) σ H Q) : tChain (rC (cfgOf X ca) o) (rC (cfgOf X ca) o') (TDx X ca W cf x) (TDx X ca W cf y) (TDx X ca W cf z) σ H Q :=
  TX.bind2 (f := fun env x y s2 => (match rd s2 x, rd s2 y with
    | some x', some y' => (match cop o x' y' with
      | some false => .ok (.p (.bl false)) s2
      | some true => (den cf z env s2).bind fun z s3 => (match rd s3 y, rd s3 z with
        | some y', some z' => opt ((cop o' y' z').map fun b => .p (.bl b)) s3
        | _, _ => .fail)
      | none => .fail)
    | _, _ => .fail)) (h.unf fun env st => by rw [den] <;> rfl) fun g env st x y v u H2 re w rx ry h => by
      obtain ⟨p, q, h1, h2, h⟩ := rd2 (f := fun x' y' => show Res D from (match cop o x' y' with
        | some false => .ok (.p (.bl false)) st
        | some true => (den cf z env st).bind fun z s3 => (match rd s3 y, rd s3 z with
          | some y', some z' => opt ((cop o' y' z').map fun b => .p (.bl b)) s3
          | _, _ => .fail)
        | none => .fail)) h
      cases hc : cop o p q with
      | none => rw [hc] at h; exact h.elim
      | some b =>
        refine rC_of (rd_rep w rx h1) (rd_rep w ry h2) hc ⟨b, rfl, ?_⟩
        rw [hc] at h
        cases b with
        | false => exact end_bl h w
        | true =>
          rw [if_pos rfl]
          refine TX.of re w (h.bind.imp fun v3 H3 ⟨g3, st3, d3, M⟩ => ?_)
          obtain ⟨p, q, h1, h2, h⟩ := rd2 (f := fun y' z' => opt ((cop o' y' z').map fun b => D.p (.bl b)) st3) M.nx
          obtain ⟨d, hd, h⟩ := h.opt
          obtain ⟨b, hb, rfl⟩ := Option.map_eq_some_iff.mp hd
          exact rC_of (rd_rep M.wd (ry.mono M.ext) h1) (rd_rep M.wd M.rp h2) hb (end_bl h M.wd)

/-! ### tests -/
theorem tb_td {c : Cfg} {m : Env → Sto → Res D} {σ : PSt} {H : Hp} {Q : Bool → Hp → Prop} (hb : ∀ env st d s, m env st = .ok d s → ∃ b, d = .p (.bl b)) (h : TB c W (fun env st => (m env st).bind fun x s1 => opt ((rd s1 x).bind truth) s1) σ H Q) :
    TD c W m σ H fun x H' => ∃ k, x = .bl k ∧ Q k H' := by
  obtain ⟨g, env, st, re, w, h⟩ := h
  refine ⟨g, env, st, re, w, ?_⟩
  dsimp only at h
  cases e : m env st with
  | ok d s =>
    obtain ⟨b, rfl⟩ := hb env st d s e
    rw [e] at h
    intro g' H' v ex rp w'
    have rp' : RepP c g'.F H' (.bl b) v := rp
    rw [RepP] at rp'
    exact ⟨b, rp', h g' H' b ex rfl w'⟩
  | exc e' s =>
    rw [e] at h
    exact h
  | fail =>
    rw [e] at h
    exact h
theorem denc_some (x : Ex) (env : Env) (st : Sto) : denc cf (.some x) env st = (den cf x env st).bind fun x s1 => opt ((rd s1 x).bind truth) s1 := by rw [denc]
theorem opt_ok {α : Type} {o : Option α} {s s' : Sto} {a : α} (h : opt o s = .ok a s') : o = some a ∧ s = s' := by
  cases o with
  | none => cases h
  | some b => cases h; exact ⟨rfl, rfl⟩
theorem bind_ok {α β : Type} {m : Res α} {f : α → Sto → Res β} {b : β} {s : Sto} (h : m.bind f = .ok b s) : ∃ a s1, m = .ok a s1 ∧ f a s1 = .ok b s := by
  cases m with
  | ok a s1 => exact ⟨a, s1, rfl, h⟩
  | exc e s1 => cases h
  | fail => cases h
theorem bl_cmp {o : COp} (env : Env) (st : Sto) (d : D) (s : Sto) (h : den cf (.cmp o x y) env st = .ok d s) : ∃ b, d = .p (.bl b) := by
  rw [den] at h
  obtain ⟨a, s1, _, h⟩ := bind_ok h
  obtain ⟨b, s2, _, h⟩ := bind_ok h
  split at h
  · obtain ⟨h, _⟩ := opt_ok h
    obtain ⟨b, _, rfl⟩ := Option.map_eq_some_iff.mp h
    exact ⟨b, rfl⟩
  · cases h
theorem bl_cmp2 {o o' : COp} (env : Env) (st : Sto) (d : D) (s : Sto) (h : den cf (.cmp2 o o' x y z) env st = .ok d s) : ∃ b, d = .p (.bl b) := by
  rw [den] at h
  obtain ⟨a, s1, _, h⟩ := bind_ok h
  obtain ⟨b, s2, _, h⟩ := bind_ok h
  split at h
  · split at h
    · cases h; exact ⟨_, rfl⟩
    · obtain ⟨b, s2, _, h⟩ := bind_ok h
      split at h
      · obtain ⟨h, _⟩ := opt_ok h
        obtain ⟨b, _, rfl⟩ := Option.map_eq_some_iff.mp h
        exact ⟨b, rfl⟩
      · cases h
    · cases h
  · cases h
theorem bl_deq (env : Env) (st : Sto) (d : D) (s : Sto) (h : den cf (.deq x y) env st = .ok d s) : ∃ b, d = .p (.bl b) := by
  rw [den] at h
  obtain ⟨a, s1, _, h⟩ := bind_ok h
  obtain ⟨b, s2, _, h⟩ := bind_ok h
  split at h
  · split at h
    · cases h; exact ⟨_, rfl⟩
    · cases h
  · cases h
/-- any expression whose test is its value's truth -/
theorem t_plain (hp : plainT u = true) (hu : PE X u (TDx X ca W cf x)) : PT X u (TBx X ca W cf x) := by
  refine PT.imp (pt_truth hu fun wh => ?_) fun σ H Q h => ?_
  · cases u <;> first | rfl | (cases hp; done) | skip
    rename_i op a p
    cases op <;> first | rfl | (cases hp; done)
  · refine TX.bind (f := fun _ x s1 => opt ((rd s1 x).bind truth) s1) (h.unf fun env st => denc_some x env st) fun g1 env st1 d v H1 re w ra h => ?_
    obtain ⟨b, hb, h⟩ := h.opt
    obtain ⟨p, hp, hb⟩ := Option.bind_eq_some_iff.mp hb
    exact ⟨b, truV_of (rd_rep w ra hp) hb, h g1 H1 b Ext.refl rfl w⟩
end
end PyM
namespace PyM
open PySem PySem.Spec PyProof.Rows L2
section
variable {X : Cx} {W : WX} {k : Ck} {ca : Str → Option Addr} {r : Nat} {cf : CF}
variable {pos : Pos} {u v t : Expr} {x y z : Ex}
/-! ### and, or, not, if -/
def andF (cf : CF) (y : Ex) (env : Env) (x : D) (s1 : Sto) : Res D := match (rd s1 x).bind truth with
  | some true => den cf y env s1
  | some false => .ok x s1
  | none => .fail
def orF (cf : CF) (y : Ex) (env : Env) (x : D) (s1 : Sto) : Res D := match (rd s1 x).bind truth with
  | some true => .ok x s1
  | some false => den cf y env s1
  | none => .fail
theorem den_and (env : Env) (st : Sto) : den cf (.and x y) env st = (den cf x env st).bind (andF cf y env) := by rw [den] <;> rfl
theorem den_or (env : Env) (st : Sto) : den cf (.or x y) env st = (den cf x env st).bind (orF cf y env) := by rw [den] <;> rfl
theorem truth_at {c : Cfg} {g : Gh} {st : Sto} {H : Hp} {d : D} {v : V} {b : Bool} (w : Wd c g st H) (rv : RepD c g st.length H d v) (h : (rd st d).bind truth = some b) : TruV c.K v H b := by
  obtain ⟨p, hp, hb⟩ := Option.bind_eq_some_iff.mp h
  exact truV_of (rd_rep w rv hp) hb
theorem i_and {σ : PSt} {H : Hp} {Q : VK} (h : TDx X ca W cf (.and x y) σ H Q) : tAndT X.K (TDx X ca W cf x) (TDx X ca W cf y) σ H Q :=
  TX.bind (f := andF cf y) (h.unf den_and) fun g1 env st1 a v H1 re w ra h => by
    unfold andF at h
    split at h
    · rename_i e
      exact ⟨true, truth_at w ra e, TX.of re w h⟩
    · rename_i e
      exact ⟨false, truth_at w ra e, end_at h w ra⟩
    · exact h.elim
theorem i_or {σ : PSt} {H : Hp} {Q : VK} (h : TDx X ca W cf (.or x y) σ H Q) : tOrT X.K (TDx X ca W cf x) (TDx X ca W cf y) σ H Q :=
  TX.bind (f := orF cf y) (h.unf den_or) fun g1 env st1 a v H1 re w ra h => by
    unfold orF at h
    split at h
    · rename_i e
      exact ⟨true, truth_at w ra e, end_at h w ra⟩
    · rename_i e
      exact ⟨false, truth_at w ra e, TX.of re w h⟩
    · exact h.elim
/-- a test's first part -/
theorem tb_first {f : Env → D → Sto → Res Bool} {σ : PSt} {H : Hp} {Q Q1 : Bool → Hp → Prop} (h : TB (cfgOf X ca) W (fun env st => (den cf x env st).bind (f env)) σ H Q) (hn : ∀ env d s, (rd s d).bind truth = none → f env d s = .fail)
    (kk : ∀ g env d s b H1, RepE (cfgOf X ca) g s.length H1 env σ → Wd (cfgOf X ca) g s H1 → (rd s d).bind truth = some b → EndR (cfgOf X ca) g s H1 (EW (cfgOf X ca) W σ) (fun _ _ _ (a b : Bool) => a = b) (f env d s) Q → Q1 b H1) : TBx X ca W cf x σ H Q1 := by
  obtain ⟨g, env, st, re, w, h⟩ := h
  refine ⟨g, env, st, re, w, ?_⟩
  dsimp only at h
  rw [denc_some]
  cases e : den cf x env st with
  | ok d s =>
    rw [e] at h
    show EndR _ _ _ _ _ _ (opt ((rd s d).bind truth) s) _
    cases e2 : (rd s d).bind truth with
    | none =>
      rw [Res.bind_ok, hn env d s e2] at h
      exact h
    | some b =>
      intro g' H' b' ex rp w'
      have rp : b = b' := rp
      subst rp
      exact kk g' env d s b H' (re.mono ex) w' e2 (EndR.from ex w' h)
  | exc e' s =>
    rw [e] at h
    exact h
  | fail =>
    rw [e] at h
    exact h
theorem bindA {α β γ : Type} (m : Res α) (f : α → Sto → Res β) (g : β → Sto → Res γ) : (m.bind f).bind g = m.bind fun a s => (f a s).bind g := by cases m <;> rfl
theorem j_and {σ : PSt} {H : Hp} {Q : Bool → Hp → Prop} (h : TBx X ca W cf (.and x y) σ H Q) : tAnd (TBx X ca W cf x) (TBx X ca W cf y) σ H Q :=
  tb_first (f := fun env d s => (andF cf y env d s).bind fun x s1 => opt ((rd s1 x).bind truth) s1) (h.unf fun env st => by rw [denc_some, den_and, bindA]) (fun env d s e => by unfold andF; rw [e]; rfl) fun g env d s b H1 re w e h => by
    unfold andF at h
    rw [e] at h
    cases b with
    | true =>
      rw [if_pos rfl]
      exact TX.of re w (by rw [denc_some]; exact h)
    | false =>
      rw [if_neg Bool.false_ne_true]
      rw [Res.bind_ok, e] at h
      exact h g H1 false Ext.refl rfl w
theorem j_or {σ : PSt} {H : Hp} {Q : Bool → Hp → Prop} (h : TBx X ca W cf (.or x y) σ H Q) : tOr (TBx X ca W cf x) (TBx X ca W cf y) σ H Q :=
  tb_first (f := fun env d s => (orF cf y env d s).bind fun x s1 => opt ((rd s1 x).bind truth) s1) (h.unf fun env st => by rw [denc_some, den_or, bindA]) (fun env d s e => by unfold orF; rw [e]; rfl) fun g env d s b H1 re w e h => by
    unfold orF at h
    rw [e] at h
    cases b with
    | false =>
      rw [if_neg Bool.false_ne_true]
      exact TX.of re w (by rw [denc_some]; exact h)
    | true =>
      rw [if_pos rfl]
      rw [Res.bind_ok, e] at h
      exact h g H1 true Ext.refl rfl w
theorem i_not {σ : PSt} {H : Hp} {Q : VK} (h : TDx X ca W cf (.not x) σ H Q) : tNotT X.K (TDx X ca W cf x) σ H Q :=
  TX.bind (f := fun _ x s1 => opt (((rd s1 x).bind truth).map fun b => .p (.bl (!b))) s1) (h.unf fun env st => by rw [den]) fun g1 env st1 a v H1 re w ra h => by
    obtain ⟨d, hd, h⟩ := h.opt
    obtain ⟨b, hb, rfl⟩ := Option.map_eq_some_iff.mp hd
    exact ⟨b, truth_at w ra hb, end_bl h w⟩
theorem j_not {σ : PSt} {H : Hp} {Q : Bool → Hp → Prop} (h : TBx X ca W cf (.not x) σ H Q) : tNot (TBx X ca W cf x) σ H Q :=
  tb_first (f := fun env d s => (opt (((rd s d).bind truth).map fun b => D.p (.bl (!b))) s).bind fun x s1 => opt ((rd s1 x).bind truth) s1) (h.unf fun env st => by rw [denc_some, den, bindA]) (fun env d s e => by rw [e]; rfl) fun g env d s b H1 re w e h => by
    rw [e] at h
    exact h g H1 (!b) Ext.refl rfl w
theorem i_ite {σ : PSt} {H : Hp} {Q : VK} {c : Ex} (h : TDx X ca W cf (.ite c x y) σ H Q) : tIf (TBx X ca W cf c) (TDx X ca W cf x) (TDx X ca W cf y) σ H Q := by
  obtain ⟨g, env, st, re, w, h⟩ := h
  refine ⟨g, env, st, re, w, ?_⟩
  rw [den] at h
  rw [denc_some]
  cases e : den cf c env st with
  | ok d s =>
    rw [e, Res.bind_ok] at h
    show EndR _ _ _ _ _ _ (opt ((rd s d).bind truth) s) _
    cases e2 : (rd s d).bind truth with
    | none =>
      rw [e2] at h
      exact h
    | some b =>
      rw [e2] at h
      intro g' H' b' ex rp w'
      have rp : b = b' := rp
      subst rp
      cases b with
      | true =>
        rw [if_pos rfl]
        exact TX.of (re.mono ex) w' (EndR.from ex w' h)
      | false =>
        rw [if_neg Bool.false_ne_true]
        exact TX.of (re.mono ex) w' (EndR.from ex w' h)
  | exc e' s =>
    rw [e] at h
    exact h
  | fail =>
    rw [e] at h
    exact h

/-! ### arguments -/
abbrev TAx (X : Cx) (ca : Str → Option Addr) (W : WX) (cf : CF) (as : Exs) : TA := TDs (cfgOf X ca) W (dens cf as)
theorem a_nil {σ : PSt} {H : Hp} {Q : List V → Hp → Prop} (h : TAx X ca W cf .nil σ H Q) : tNil σ H Q := by
  obtain ⟨g, env, st, re, w, h⟩ := h
  rw [dens] at h
  exact h g H [] Ext.refl .nil w
theorem a_cons {as : Exs} {σ : PSt} {H : Hp} {Q : List V → Hp → Prop} (h : TAx X ca W cf (.cons x as) σ H Q) : tCons (TDx X ca W cf x) (TAx X ca W cf as) σ H Q :=
  TX.bind (f := fun env x s1 => (dens cf as env s1).bind fun xs s2 => .ok (x :: xs) s2) (h.unf fun env st => by rw [dens]) fun g1 env st1 a v H1 re w ra h =>
    TX.of re w (h.bind.imp fun vs H2 ⟨g2, st2, b, M⟩ => M.nx g2 H2 (v :: vs) Ext.refl (.cons (ra.mono M.ext) M.rp) M.wd)
/-- the arguments, then what is done with them -/
theorem i_args {as : Exs} {f : Env → List D → Sto → Res D} {σ : PSt} {H : Hp} {Q : VK} {Q1 : List V → Hp → Prop} (h : TD (cfgOf X ca) W (fun env st => (dens cf as env st).bind (f env)) σ H Q)
    (kk : ∀ g env ds s vs H1, RepE (cfgOf X ca) g s.length H1 env σ → Wd (cfgOf X ca) g s H1 → RepDs (cfgOf X ca) g s.length H1 ds vs → EndR (cfgOf X ca) g s H1 (EW (cfgOf X ca) W σ) (RepD (cfgOf X ca)) (f env ds s) Q → Q1 vs H1) : TAx X ca W cf as σ H Q1 :=
  TX.bind (f := f) h fun g1 env st1 a v H1 re w ra h => kk g1 env a st1 v H1 re w ra h
theorem i_blt {b : Blt} {as : Exs} {σ : PSt} {H : Hp} {Q : VK} (h : TDx X ca W cf (.blt b as) σ H Q) : tCB (rBlt (cfgOf X ca) b) (TAx X ca W cf as) σ H Q :=
  i_args (f := fun _ ds s1 => blt b ds s1) (h.unf fun env st => by rw [den]) fun g env ds s vs H1 re w rs h => ⟨g, s, ds, _, rs, w, h⟩
theorem i_tup {as : Exs} {σ : PSt} {H : Hp} {Q : VK} (hl : ∀ env st ds s, dens cf as env st = .ok ds s → ds.length ≤ sizeLine) (h : TDx X ca W cf (.tup as) σ H Q) : tTup (TAx X ca W cf as) σ H Q := by
  obtain ⟨g, env, st, re, w, h⟩ := h
  refine ⟨g, env, st, re, w, ?_⟩
  rw [den] at h
  refine h.bind.imp fun vs H1 ⟨g1, s1, ds, M⟩ => ?_
  have z : vs.length ≤ sizeLine := by rw [RepDs.len M.rp]; exact hl env st ds s1 M.eq
  exact ⟨z, fun p hp => mkT_end M.nx M.wd M.rp z p hp⟩
theorem i_lst {l : Bool} {as : Exs} {σ : PSt} {H : Hp} {Q : VK} (hl : ∀ env st ds s, dens cf as env st = .ok ds s → ds.length ≤ sizeLine) (h : TDx X ca W cf (.lst l as) σ H Q) : tLst (TAx X ca W cf as) σ H Q := by
  obtain ⟨g, env, st, re, w, h⟩ := h
  refine ⟨g, env, st, re, w, ?_⟩
  rw [den] at h
  refine h.bind.imp fun vs H1 ⟨g1, s1, ds, M⟩ => ?_
  have z : vs.length ≤ sizeLine := by rw [RepDs.len M.rp]; exact hl env st ds s1 M.eq
  exact ⟨z, fun p hp => mkL_end M.nx M.wd M.rp z p hp⟩
/-- how many arguments -/
def Exs.len : Exs → Nat
  | .nil => 0
  | .cons _ as => as.len + 1
theorem dens_len : ∀ {as : Exs} {env : Env} {st : Sto} {ds : List D} {s : Sto}, dens cf as env st = .ok ds s → ds.length = as.len
  | .nil, env, st, ds, s, h => by
    rw [dens] at h
    cases h
    rfl
  | .cons x as, env, st, ds, s, h => by
    rw [dens] at h
    obtain ⟨a, s1, _, h⟩ := bind_ok h
    obtain ⟨b, s2, h2, h⟩ := bind_ok h
    cases h
    rw [List.length_cons, dens_len h2]
    rfl
theorem chk_len : ∀ {as : Exs} {us : List Expr}, chkEs k as us = true → as.len = us.length
  | .nil, us, h => by
    unfold chkEs at h
    cases us with
    | nil => rfl
    | cons a b => cases h
  | .cons x xs, us, h => by
    unfold chkEs at h
    split at h
    · rename_i a as
      rw [Bool.and_eq_true, Bool.and_eq_true] at h
      rw [List.length_cons, ← chk_len h.2]
      rfl
    · cases h
theorem i_ix {σ : PSt} {H : Hp} {Q : VK} (h : TDx X ca W cf (.ix x y) σ H Q) : tOp (rIxA (cfgOf X ca)) (TDx X ca W cf x) (TDx X ca W cf y) σ H Q :=
  TX.bind2 (f := fun _ x y s2 => opt (ixD s2 x y) s2) (h.unf fun env st => by rw [den]) fun g env st x y v u H2 re w rx ry h => by
    obtain ⟨d, hd, h⟩ := h.opt
    exact ixA_of w rx ry hd fun v' rv => h g H2 v' Ext.refl rv w

/-! ### slices -/
abbrev TOx (X : Cx) (ca : Str → Option Addr) (W : WX) (cf : CF) (o : OEx) : TO := TX (cfgOf X ca) W (fun _ _ _ (a b : Option Int) => a = b) (deno cf o)
theorem PO.imp {e : Option Expr} {t t' : TO} (h : PO X e t) (k : ∀ σ H Q, t' σ H Q → t σ H Q) : PO X e t' := ⟨fun pins s σ H Q I q => h.run pins s σ H Q I (k σ H Q q)⟩
theorem o_none : PO X none (TOx X ca W cf .none) := PO.imp po_none fun σ H Q h => by
  obtain ⟨g, env, st, re, w, h⟩ := h
  rw [deno] at h
  exact h g H none Ext.refl rfl w
theorem o_some (hu : PE X u (TDx X ca W cf x)) : PO X (some u) (TOx X ca W cf (.some x)) := PO.imp (po_some hu) fun σ H Q h =>
  TX.bind (f := fun _ x s1 => (match x with
    | .p (.int i) => .ok (some i) s1
    | _ => .fail)) (h.unf fun env st => by rw [deno] <;> rfl) fun g1 env st1 a v H1 re w ra h => by
      split at h
      · rename_i i
        have ra' : RepP (cfgOf X ca) g1.F H1 (.int i) v := ra
        rw [RepP] at ra'
        exact ⟨i, ra', h g1 H1 _ Ext.refl rfl w⟩
      · exact h.elim
theorem i_sl {lo hi : OEx} {l : Bool} {σ : PSt} {H : Hp} {Q : VK} (h : TDx X ca W cf (.sl x lo hi l) σ H Q) : tSl (rSlX (cfgOf X ca)) (TDx X ca W cf x) (TOx X ca W cf lo) (TOx X ca W cf hi) σ H Q :=
  TX.bind (f := fun env x s1 => (deno cf lo env s1).bind fun i s2 => (deno cf hi env s2).bind fun j s3 => (match rd s3 x with
    | some x => slD s3 l x i j
    | none => .fail)) (h.unf fun env st => by rw [den] <;> rfl) fun g1 env st1 a v H1 re w ra h =>
      TX.of re w (h.bind.imp fun lo' H2 ⟨g2, st2, i, M⟩ => by
        have e : i = lo' := M.rp
        subst e
        refine TX.of (re.mono M.ext) M.wd (M.nx.bind.imp fun hi' H3 ⟨g3, st3, j, M3⟩ => ?_)
        have e : j = hi' := M3.rp
        subst e
        have h := M3.nx
        cases e : rd st3 a with
        | none => rw [e] at h; exact h.elim
        | some p =>
          rw [e] at h
          exact slX_of M3.wd ((ra.mono M.ext).mono M3.ext) e h)

/-! ### methods, isinstance -/
theorem i_mth {m : Mth} {as : Exs} {σ : PSt} {H : Hp} {Q : VK} (h : TDx X ca W cf (.mth m x as) σ H Q) : tBX X (mthT m) (rMt (cfgOf X ca) m) (TDx X ca W cf x) (TAx X ca W cf as) σ H Q :=
  TX.bind (f := fun env x s1 => if mok s1 m x then (dens cf as env s1).bind fun ds s2 => mth m x ds s2 else .fail) (h.unf fun env st => by rw [den]) fun g1 env st1 a v H1 re w ra h => by
    split at h
    · rename_i ok
      exact ⟨mok_ty w ra ok, TX.of re w (h.bind.imp fun vs H2 ⟨g2, st2, ds, M⟩ => ⟨g2, st2, a, ds, _, ra.mono M.ext, M.rp, M.wd, M.nx⟩)⟩
    · exact h.elim
theorem i_isi1 {tn : TyN} {p : V × Value} (kf : KF X.K ca) (hp : tyVal ca tn = some p) {σ : PSt} {H : Hp} {Q : VK} (h : TDx X ca W cf (.isi x [tn]) σ H Q) : tCB (rIsiA X) (tCons (TDx X ca W cf x) (tCons (tC p.1) tNil)) σ H Q :=
  TX.bind (f := fun _ x s1 => opt ((isAny x s1 [tn]).map fun b => .p (.bl b)) s1) (h.unf fun env st => by rw [den]) fun g1 env st1 a v H1 re w ra h => by
    obtain ⟨d, hd, h⟩ := h.opt
    obtain ⟨b, hb, rfl⟩ := Option.map_eq_some_iff.mp hd
    exact isi_one kf w ra hp hb (end_bl h w)
/-- values in a row -/
def tVals : List V → TA
  | [] => tNil
  | v :: vs => tCons (tC v) (tVals vs)
theorem tVals_run : ∀ {vs : List V} {σ : PSt} {H : Hp} {Q : List V → Hp → Prop}, Q vs H → tVals vs σ H Q
  | [], _, _, _, h => h
  | v :: vs, σ, H, Q, h => tVals_run (vs := vs) (Q := fun xs H2 => Q (v :: xs) H2) h
theorem i_isi2 {tn : TyN} {ts : List TyN} {ps : List (V × Value)} (kf : KF X.K ca) (hl : ps.length ≤ sizeLine) (hp : (tn :: ts).mapM (tyVal ca) = some ps) {σ : PSt} {H : Hp} {Q : VK} (h : TDx X ca W cf (.isi x (tn :: ts)) σ H Q) : tCB (rIsiB X) (tCons (TDx X ca W cf x) (tCons (tTup (tVals (ps.map (·.1)))) tNil)) σ H Q :=
  TX.bind (f := fun _ x s1 => opt ((isAny x s1 (tn :: ts)).map fun b => .p (.bl b)) s1) (h.unf fun env st => by rw [den]) fun g1 env st1 a v H1 re w ra h => by
    obtain ⟨d, hd, h⟩ := h.opt
    obtain ⟨b, hb, rfl⟩ := Option.map_eq_some_iff.mp hd
    refine tVals_run ⟨by rw [List.length_map]; exact hl, fun tp htp => ?_⟩
    have px : PExt g1.F H1 g1.F (upd H1 tp (.tup (ps.map (·.1)))) := ⟨fun b u e => .inl (by rw [upd_ne (ne_of_none e htp)]; exact e), fun _ h => h, fun _ h => .inl h, fun hf a fa => by
      obtain ⟨o, e⟩ := hf a fa
      exact ⟨o, by rw [upd_ne (ne_of_none e htp)]; exact e⟩⟩
    have w2 := w.ext px
    have ex : Ext g1 st1.length H1 ⟨g1.lm, g1.F⟩ st1.length _ := px.ext
    refine isi_any kf w2 (ra.mono ex) hp hb (fun _ z => z) upd_same ?_
    exact h ⟨g1.lm, g1.F⟩ _ (.bl b) ex (by show RepP _ _ _ _ _; rw [RepP]) w2

/-! ### a new dict -/
theorem dctAt_nil {c : Cfg} {H : Hp} {p : Addr} : DctW c (upd H p (.dK [])) p [] := ⟨Nat.zero_le _, List.nodup_nil, .inl ⟨(fun _ h => nomatch h), upd_same⟩⟩
theorem e_dnew (l : Bool) : PE X (.Dict [] [] pos) (TDx X ca W cf (.dnew l)) := by
  refine ⟨fun pins s σ H Q I h => ?_⟩
  obtain ⟨g, env, st, re, w, h⟩ := h
  rw [den] at h
  refine pe_dnewK.run pins s σ H Q I fun p hp => ?_
  exact mkD_end h w .nil p hp dctAt_nil
end
end PyM
namespace PyM
open PySem PySem.Spec PyProof.Rows L2

/-! ### frozen objects -/
section
variable {c : Cfg} {g : Gh} {st : Sto} {H : Hp}
theorem view_rep (w : Wd c g st H) {F : Addr → Prop} (hF : ∀ a, g.F a → F a) {n : Nat} {o : Ob} (e : st[n]? = some o) (hn : F (g.lm n)) {x : P} (h : o.view = some x) : RepP c F H x (.ref (g.lm n)) := by
  have m : Mono g.F F H H := ⟨hF, fun _ _ _ h => .inl h⟩
  cases o with
  | lst ds =>
    obtain ⟨ps, q, rfl⟩ := Option.map_eq_some_iff.mp h
    obtain ⟨vs, h1, z, rr⟩ := w.obs n _ e
    rw [RepP]
    exact ⟨g.lm n, vs, rfl, ⟨hn, h1⟩, z, RepPs.mono m _ _ (pureL_rep q rr)⟩
  | dct ds =>
    obtain ⟨ps, q, rfl⟩ := Option.map_eq_some_iff.mp h
    obtain ⟨vs, h1, rr⟩ := w.obs n _ e
    rw [RepP]
    exact ⟨g.lm n, vs, rfl, ⟨hn, h1.r⟩, RepKs.mono m _ _ (pureK_rep q rr)⟩
  | ins C ds =>
    obtain ⟨ps, q, rfl⟩ := Option.map_eq_some_iff.mp h
    obtain ⟨dx, vs, h1, rr⟩ := w.obs n _ e
    rw [RepP]
    exact ⟨g.lm n, dx, vs, rfl, ⟨hn, h1⟩, RepFs.mono m _ _ (pureF_rep q rr)⟩
  | dead => cases h
theorem frz_end {E : EH} {Q : VK} {d : D} {v : V} (h : EndR c g st H E (RepD c) (frzD d st) Q) (w : Wd c g st H) (r : RepD c g st.length H d v) : Q v H := by
  cases d with
  | p x => exact h g H v Ext.refl r w
  | loc n =>
    simp only [frzD] at h
    split at h
    · rename_i o e
      split at h
      · rename_i x hx
        obtain ⟨hn, rfl⟩ := r
        refine h ⟨g.lm, fun a => g.F a ∨ a = g.lm n⟩ H _ ?_ ?_ (w.frz hn)
        · rw [List.length_set]; exact Ext.frz hn
        · exact view_rep w (fun _ => .inl) e (.inr rfl) hx
      · exact h.elim
    · exact h.elim
end
section
variable {X : Cx} {W : WX} {k : Ck} {ca : Str → Option Addr} {r : Nat} {cf : CF}
variable {pos p : Pos} {u v t : Expr} {x y z : Ex} {as : Exs}
theorem i_frz {σ : PSt} {H : Hp} {Q : VK} (h : TDx X ca W cf (.frz x) σ H Q) : TDx X ca W cf x σ H Q :=
  TX.bind (f := fun _ x s1 => frzD x s1) (h.unf fun env st => by rw [den]) fun g1 env st1 a v H1 re w ra h => frz_end h w ra

/-! ### calls of defs -/
theorem mapM_all {α β : Type} {f : α → Option β} : ∀ {xs : List α} {ys : List β}, xs.mapM f = some ys → (xs = [] ∧ ys = []) ∨ ∃ x xs' y ys', xs = x :: xs' ∧ ys = y :: ys' ∧ f x = some y ∧ xs'.mapM f = some ys'
  | [], ys, h => by
    simp at h
    exact .inl ⟨rfl, h⟩
  | x :: xs, ys, h => by
    rw [List.mapM_cons] at h
    cases e : f x with
    | none => rw [e] at h; cases h
    | some y =>
      cases e2 : xs.mapM f with
      | none => rw [e, e2] at h; cases h
      | some zs =>
        rw [e, e2] at h
        cases h
        exact .inr ⟨x, xs, y, zs, rfl, rfl, e, e2⟩
section
variable {c : Cfg} {g : Gh} {st : Sto} {H : Hp}
/-- what a def of its own store hands back -/
theorem frzAll_rep (w : Wd c g st H) : ∀ (n : Nat) (d : D) (v : V) (x : P), frzAll st n d = some x → RepD c g st.length H d v → RepP c (g.top st.length) H x v := by
  intro n
  induction n with
  | zero =>
    intro d v x h r
    cases d with
    | p y =>
      simp only [frzAll, Option.some.injEq] at h
      subst h
      exact RepP.mono top_mono _ _ r
    | loc m => cases h
  | succ n ih =>
    intro d v x h r
    cases d with
    | p y =>
      simp only [frzAll, Option.some.injEq] at h
      subst h
      exact RepP.mono top_mono _ _ r
    | loc m =>
      obtain ⟨hm, rfl⟩ := r
      simp only [frzAll] at h
      split at h
      · rename_i xs e
        obtain ⟨ps, hp, rfl⟩ := Option.map_eq_some_iff.mp h
        obtain ⟨vs, h1, z, rr⟩ := w.obs m _ e
        rw [RepP]
        refine ⟨g.lm m, vs, rfl, ⟨.inr ⟨m, hm, rfl⟩, h1⟩, z, ?_⟩
        clear h1 z e h
        induction rr generalizing ps with
        | nil =>
          simp at hp
          subst hp
          rw [RepPs]
        | cons h0 _ ih2 =>
          rcases mapM_all hp with ⟨e, _⟩ | ⟨x, xs', y, ys', e, rfl, e1, e2⟩
          · cases e
          · cases e
            rw [RepPs]
            exact ⟨_, _, rfl, ih _ _ _ e1 h0, ih2 _ e2⟩
      · rename_i xs e
        obtain ⟨ps, hp, rfl⟩ := Option.map_eq_some_iff.mp h
        obtain ⟨es, h1, rr⟩ := w.obs m _ e
        rw [RepP]
        refine ⟨g.lm m, es, rfl, ⟨.inr ⟨m, hm, rfl⟩, h1.r⟩, ?_⟩
        clear h1 e h
        induction rr generalizing ps with
        | nil =>
          simp at hp
          subst hp
          rw [RepKs]
        | cons h9 h0 _ ih2 =>
          rcases mapM_all hp with ⟨e, _⟩ | ⟨x, xs', y, ys', e, rfl, e1, e2⟩
          · cases e
          · cases e
            obtain ⟨q, e3, rfl⟩ := Option.map_eq_some_iff.mp e1
            rw [RepKs]
            exact ⟨_, _, _, rfl, RepP.mono top_mono _ _ h9, ih _ _ _ e3 h0, ih2 _ e2⟩
      · rename_i C xs e
        obtain ⟨ps, hp, rfl⟩ := Option.map_eq_some_iff.mp h
        obtain ⟨dx, es, h1, rr⟩ := w.obs m _ e
        rw [RepP]
        refine ⟨g.lm m, dx, es, rfl, ⟨.inr ⟨m, hm, rfl⟩, h1⟩, ?_⟩
        clear h1 e h
        induction rr generalizing ps with
        | nil =>
          simp at hp
          subst hp
          rw [RepFs]
        | cons h0 _ ih2 =>
          rcases mapM_all hp with ⟨e, _⟩ | ⟨x, xs', y, ys', e, rfl, e1, e2⟩
          · cases e
          · cases e
            obtain ⟨q, e3, rfl⟩ := Option.map_eq_some_iff.mp e1
            rw [RepFs]
            exact ⟨_, _, rfl, ih _ _ _ e3 h0, ih2 _ e2⟩
      · cases h
/-- the state a def of its own store starts at -/
theorem Wd.none (w : Wd c g st H) : Wd c g [] H := ⟨(fun n o e => nomatch e), (fun m n a => absurd a (Nat.not_lt_zero _)), (fun n o e => nomatch e), (fun n a => absurd a (Nat.not_lt_zero _)), w.hasF⟩
theorem pext_own {g' : Gh} {H' : Hp} {st' : Sto} (x : Ext g 0 H g' st'.length H') (w' : Wd c g' st' H') : PExt g.F H (g'.top st'.length) H' where
  kp := fun a o e => (x.fr a o e fun n hn => absurd hn (Nat.not_lt_zero _)).imp .inl
  sub := fun a h => .inl (x.sub a h)
  back := fun a h => by
    rcases h with h | ⟨n, hn, rfl⟩
    · rcases x.back a h with q | q | ⟨n, hn, _⟩
      · exact .inl q
      · exact .inr q
      · exact absurd hn (Nat.not_lt_zero _)
    · exact .inr (x.new n (Nat.zero_le _) hn)
  has := fun hf a h => by
    rcases h with h | ⟨n, hn, rfl⟩
    · exact w'.hasF a h
    · exact w'.has n hn
end
theorem RepFs_x {c : Cfg} {g : Gh} {F : Addr → Prop} {H : Hp} {e : Exc} {cls : Value} {dx : Option Addr} (m : Mono g.F F H H) (h : RepX c g H e cls dx) : RepX c ⟨g.lm, F⟩ H e cls dx := by
  obtain ⟨h1, h2⟩ := h
  refine ⟨h1, ?_⟩
  rcases h2 with h2 | ⟨ne, d, fvs, e1, f, e2, rf⟩
  · exact .inl h2
  · exact .inr ⟨ne, d, fvs, e1, m.sub _ f, e2, RepFs.mono m _ _ rf⟩
theorem call_end {c : Cfg} {g : Gh} {st : Sto} {H : Hp} {m : Cm} {i : Nat} {ds : List D} {vs : List V} {Q : VK} {σ : PSt} (h : EndR c g st H (EW c W σ) (RepD c) (callM m cf i ds st) Q) (w : Wd c g st H) (rs : RepDs c g st.length H ds vs) : spM c (cf i) vs H Q (WE W σ) := by
  cases m with
  | kep => exact ⟨g, st, ds, rs, w, h⟩
  | pur =>
    simp only [callM] at h
    split at h
    · exact h.elim
    · rename_i ps hp
      refine ⟨g, [], ps.map .p, RepDs.of (pureL_rep hp rs), w.none, ?_⟩
      cases e : cf i (ps.map .p) [] with
      | ok d st' =>
        rw [e] at h
        dsimp only at h
        intro g' H' v x rv w'
        split at h
        · rename_i y hy
          have px := pext_own x w'
          exact h ⟨g.lm, g'.top st'.length⟩ H' v px.ext (frzAll_rep w' 6 d v y hy rv) (w.ext px)
        · exact h.elim
      | exc e' st' =>
        rw [e] at h
        dsimp only at h
        intro g' H' x w' cls dx rx
        have px := pext_own x w'
        refine h ⟨g.lm, g'.top st'.length⟩ H' px.ext (w.ext px) cls dx ?_
        have q := RepFs_x (F := g'.top st'.length) top_mono rx
        exact q
      | fail =>
        rw [e] at h
        exact h
theorem i_call {m : Cm} {f : Nat} {σ : PSt} {H : Hp} {Q : VK} (h : TDx X ca W cf (.call m f as) σ H Q) : tCallS (spM (cfgOf X ca) (cf f)) (WE W) (TAx X ca W cf as) σ H Q :=
  i_args (f := fun _ ds s1 => callM m cf f ds s1) (h.unf fun env st => by rw [den]) fun g env ds s vs H1 re w rs h => call_end h w rs
theorem e_call (G : Gx X W k ca r cf) {m : Cm} {f : Nat} {n : Str} {us : List Expr} (hf : k.fns[f]? = some n) (hsp : spl n = none) (hg : k.gl n = true) (hn : us = [] → as = .nil) (hs : ∀ u ∈ us, isStar u = false) (ha : PA X us (TAx X ca W cf as)) : PE X (.Call (.Name n p) us [] pos) (TDx X ca W cf (.call m f as)) := by
  obtain ⟨fa, fd, ps, F⟩ := G.fns f n hf
  obtain ⟨g1, g2, _⟩ := G.gl hg
  refine ⟨fun pins s σ H Q I h => ?_⟩
  have h := i_call h
  cases us with
  | nil =>
    refine wpAny_Call_Name_kw (ld_glob I g1 (F.mg hsp) ?_ g2)
    have e := hn rfl
    subst e
    exact PySem.W.callWith_K0 I.kIn F.kp (run_fnS (us := []) F.ok (G.room.mono (Nat.le_succ _)) F.bd (passAt G.tk σ) I .nil (a_nil h))
  | cons e es =>
    refine wpAny_Call_Name_kw (ld_glob I g1 (F.mg hsp) ?_ g2)
    refine PySem.W.callWith_K (h₀ := X.base) I.ok.mod.kin F.kp (thn (ha.run pos pins s σ H _ I h) fun us s1 ⟨vs, H1, I1, r, q⟩ => ⟨I1.kIn, ?_⟩) (star_cons (hs e (List.mem_cons_self ..))) (star_any fun u hu => hs u (List.mem_cons_of_mem _ hu))
    exact run_fnS F.ok (G.room.mono (Nat.le_succ _)) F.bd (passAt G.tk σ) I1 r q
end
end PyM
namespace PyM
open PySem PySem.Spec PyProof.Rows L2

/-! ### dicts walked: locked from then on -/
theorem lock_pext {F : Addr → Prop} {H : Hp} {a : Addr} {u : HO} {od : Obj} (f : F a) (h : H a = some u) (d : DictO u) : PExt F H F (upd H a (.frz od u)) where
  kp := fun b o e => by
    by_cases q : b = a
    · subst q
      rw [h] at e
      cases e
      exact .inr ⟨f, d, od, upd_same⟩
    · exact .inl (by rw [upd_ne q]; exact e)
  sub := fun _ h => h
  back := fun _ h => .inl h
  has := fun hf b fb => by
    by_cases q : b = a
    · exact ⟨_, by rw [q, upd_same]⟩
    · obtain ⟨o, e⟩ := hf b fb
      exact ⟨o, by rw [upd_ne q]; exact e⟩
def LkD (c : Cfg) (H : Hp) (a : Addr) (es : List Ent) (od : Obj) : Prop := DctAt c H a es ∧ (∃ F, KeysE c F H es) ∧ ∃ u, H a = some (.frz od u)
def ItDk (c : Cfg) (a : Addr) (es : List Ent) (od : Obj) : L2.It :=
  ⟨fun i H => LkD c H a es od ∧ i < es.length, fun i H x H' => H' = H ∧ ∃ e : Ent, es[i]? = some e ∧ x = e.2.1, fun i H => LkD c H a es od ∧ es.length ≤ i⟩
section
variable {X : Cx} {ca : Str → Option Addr}
theorem lk_raw {pins : List (Addr × Obj)} {σ : PSt} {H : Hp} {s : Shared} {a : Addr} {es : List Ent} {od : Obj} (I : Inv X pins σ H s) (h : LkD (cfgOf X ca) H a es od) :
    (a == sysModules) = false ∧ s.heap.get? a = some od ∧ od.ExactDict ∧ ∃ ents ep, od.data = .dict ents ep ∧ ents.size = es.length ∧ ∀ (i : Nat) (e : Ent), es[i]? = some e → ∃ en, ents[i]? = some en ∧ RelV e.2.1 en.key := by
  obtain ⟨hd, ⟨F, ke⟩, u, hu⟩ := h
  obtain ⟨_, _, hm⟩ := d_type I hd
  obtain ⟨ents, ep, ⟨o, g1, g2, g3⟩, hsz, hr⟩ := d_raw I hd ke
  have g0 : s.heap.get? a = some od := (I.hok a _ hu).1
  rw [g0] at g1
  cases g1
  refine ⟨hm, g0, g2, ents, ep, g3, hsz, fun i e he => ?_⟩
  have hi : i < ents.size := by
    rw [hsz]
    exact (List.getElem?_eq_some_iff.mp he).1
  exact ⟨ents[i], Array.getElem?_eq_getElem hi, hr i e hi he⟩
end
theorem turn_dk {P : Program} {w : World} {K : PySem.W.Frag} {ca : Str → Option Addr} {tg : Expr} {a : Addr} {es : List Ent} {od : Obj} {ents : Array DictEntry} {ep : Nat} (it : Addr) (hod : od.data = .dict ents ep) : Turn P w K tg (ItDk ⟨P, w, K, ca⟩ a es od) [it] it (fun i h => h.IsKeyIter it a i es.length ep) where
  mem := by simp
  obj := fun i h st b hb => by
    have e : b = it := by simpa using hb
    subst e
    obtain ⟨oi, e, c, dd⟩ := st
    exact ⟨oi, e, fun v z => by rw [dd] at z; cases z⟩
  keep := fun i h h' st k => st.at fun oi e => k it (by simp) oi e
  item := by
    intro X hP hw hK hc i pins s σ H E I hf st hg
    subst hP hw hK
    obtain ⟨hd, hi⟩ := hg
    obtain ⟨f0, f1, f2, f3, f4, f5⟩ := hf it (by simp)
    obtain ⟨hs, hgd, hx, es', ep', hdt, hsz, ent⟩ := lk_raw (ca := ca) I hd
    obtain ⟨rfl, rfl⟩ := dict_ep hod hdt
    obtain ⟨e, he⟩ : ∃ e, es[i]? = some e := ⟨es[i], List.getElem?_eq_getElem hi⟩
    obtain ⟨en, hen, hkey⟩ := ent i e he
    refine next_key_item st hgd hdt hsz hen fun h' st' sb => ?_
    have I1 : Inv X pins σ H { s with heap := h' } := I.turned (t' := s.toks) (fun b ob hb e => (sb.2 b hb).trans e) f0 f1 f3 f4 f5
    obtain ⟨oi, e', c, dd⟩ := id st'
    exact ⟨en.key, rfl, go_of (s := { s with heap := h' }) e' c dd (by decide) ⟨e.2.1, H, I1, hkey, ⟨rfl, e, he, rfl⟩, st', fun b hb => (hf b hb).1⟩⟩
  done := by
    intro X hP hw hK hc i pins s σ H E I hf st hg
    subst hP hw hK
    obtain ⟨hd, hi⟩ := hg
    obtain ⟨f0, f1, f2, f3, f4, f5⟩ := hf it (by simp)
    obtain ⟨hs, hgd, hx, es', ep', hdt, hsz, ent⟩ := lk_raw (ca := ca) I hd
    obtain ⟨rfl, rfl⟩ := dict_ep hod hdt
    exact next_key_end (I.ok.hd hc) st hgd hdt hsz hi fun h' eb => ⟨rfl, I.turned (t' := s.toks) (fun b ob hb e => eb b ob hb e) f0 f1 f3 f4 f5⟩
  self := fun A i s Q E st h => by
    refine wpAny_pyIter_slot st.typeIs F.slot_dict_keyiterator_iter (wpAny_call_entry F.slot_dict_keyiterator_iter st.typeIs F.entry_dict_keyiterator_iter ?_ (F.args_dict_keyiterator_iter_1 _))
    show wpAny _ _ (ret (.ref it)) _ _ s
    exact wpAny_pure ⟨_, rfl, "dict_keyiterator", _, st.typeIs, F.slot_dict_keyiterator_next.lookup, h⟩
def iDk (c : Cfg) (td : TE) : TI := fun σ H R => td σ H fun x H1 => ∃ a es F, x = .ref a ∧ F a ∧ DctAt c H1 a es ∧ KeysE c F H1 es ∧ ∀ H2, PExt F H1 F H2 → ∀ od, LkD c H2 a es od → R (ItDk c a es od) H2
theorem pi_dk {X : Cx} {ca : Str → Option Addr} {tg e : Expr} {td : TE} (he : PE X e td) : PI X tg e (iDk (cfgOf X ca) td) := by
  refine ⟨fun pins s σ H R I h => ?_⟩
  refine thn (he.run pins s σ H _ I h) fun u s1 ⟨x, H1, I1, rx, a, es, F, ex, fa, hd, ke, q⟩ => ?_
  subst ex
  obtain rfl : u = Value.ref a := rx
  have fin : ∀ H2, PExt F H1 F H2 → ∀ od u, H2 a = some (.frz od u) → Inv X pins σ H2 s1 → wpAny (model X.prog X.w) X.A (pyIter (.ref a)) (PIE X pins σ tg R) X.xe s1 := fun H2 px od u e2 I2 => by
    have lk : LkD (cfgOf X ca) H2 a es od := ⟨hd.mono px.mono fa, ⟨F, fun e he => RepP.mono px.mono _ _ (ke e he)⟩, u, e2⟩
    obtain ⟨hs, hgd, hx, ents, ep, hdt, hsz, _⟩ := lk_raw I2 lk
    refine iter_keys hs hgd hx hdt (pi_one (tk := s1.toks) I2 _ (turn_dk (ca := ca) _ hdt) ⟨_, Heap.get?_push_size _ rfl, rfl, ?_⟩ (q H2 px od lk))
    rw [hsz] <;> rfl
  have rdc : ∃ u, DictO u ∧ Mut (some u) ∧ Rd H1 a u := by
    obtain ⟨_, _, ⟨_, e⟩ | ⟨_, _, e⟩⟩ := hd
    · refine ⟨_, ?_, ?_, e⟩ <;> trivial
    · refine ⟨_, ?_, ?_, e⟩ <;> trivial
  obtain ⟨u, du, mu, e | ⟨od, e⟩⟩ := rdc
  · obtain ⟨od, I2⟩ := I1.lock e mu
    exact fin _ (lock_pext fa e du) od u upd_same I2
  · exact fin _ PExt.refl od u e I1
theorem RepKs.get {c : Cfg} {F : Addr → Prop} {H : Hp} : ∀ {ks : List (P × P)} {es : List Ent}, RepKs c F H ks es → ∀ {i : Nat} {q : P × P}, ks[i]? = some q → ∃ e, es[i]? = some e ∧ RepP c F H q.1 e.2.1
  | [], es, h, i, q, e => by simp at e
  | (k, x) :: ks, es, h, i, q, e => by
    rw [RepKs] at h
    obtain ⟨kv, v, es', rfl, h0, h1, h2⟩ := h
    cases i with
    | zero =>
      simp at e
      subst e
      exact ⟨_, rfl, h0⟩
    | succ i => exact RepKs.get h2 (i := i) (by simpa using e)
theorem RepKs.len {c : Cfg} {F : Addr → Prop} {H : Hp} : ∀ {ks : List (P × P)} {es : List Ent}, RepKs c F H ks es → es.length = ks.length
  | [], es, h => by
    rw [RepKs] at h
    rw [h]
    rfl
  | (k, x) :: ks, es, h => by
    rw [RepKs] at h
    obtain ⟨kv, v, es', rfl, h0, h1, h2⟩ := h
    rw [List.length_cons, List.length_cons, RepKs.len h2]
end PyM
namespace PyM
open PySem PySem.Spec PyProof.Rows L2
open PySem.Sem (wp)


theorem meets_enum1 {v : Value} {o : Obj} {H : Heap → Prop} (B : Begins v o H) :
    Meets (Builtin.«enumerate.__new__» ⟨[.type "enumerate", v], []⟩) (fun _ R s => H s.heap ∧
      R (.ok (.ret (.ref (s.heap.push o).objs.size))) { s with heap := (s.heap.push o).push { cls := .type "enumerate", data := .fields #[.none, .bool false, .ref s.heap.objs.size, rawInt 0, .none, .none] } }) :=
  .of_wp fun prog w A R s h => by
    obtain ⟨hp, g, d, tk, os⟩ := s
    obtain ⟨h1, h⟩ := h
    have hsub := sub_enumerate
    have q1 : ∀ {A' : Around} {E : Value → Shared → Prop} {Q : Value → Shared → Prop}, Q (.ref hp.objs.size) ⟨hp.push o, g, d, tk, os⟩ → wpAny (model prog w) A' (pyIter v) Q E ⟨hp, g, d, tk, os⟩ :=
      fun q => B.iter prog w _ _ ⟨hp, g, d, tk, os⟩ _ h1 q
    wp_walk using q1
    refine wpAny_stack_any fun st => wpAny_pure ?_
    split
    · rename_i c _ _ _ _ _
      cases (c == Value.type "enumerate")
      · wp_walk using q1
        exact ⟨_, rfl, h⟩
      · wp_walk using q1
        exact ⟨_, rfl, h⟩
    · wp_walk using q1
      exact ⟨_, rfl, h⟩
section
variable {prog : Program} {w : World} {A : Around} {E : Value → Shared → Prop} {s : Shared}
theorem enum1 {v : Value} {o : Obj} {H : Heap → Prop} {Q : Value → Shared → Prop} (B : Begins v o H) (h1 : H s.heap)
    (h : ∀ h', IsEnum h' (s.heap.objs.size + 1) s.heap.objs.size 0 .none → h'.get? s.heap.objs.size = some o → h'.objs.size = s.heap.objs.size + 2 →
      (∀ b o, s.heap.get? b = some o → h'.get? b = some o) → Q (.ref (s.heap.objs.size + 1)) { s with heap := h' }) :
    wpAny (model prog w) A (call (.type "enumerate") [v]) Q E s := by
  refine callType_new F.called_enumerate (by decide) (F.typeCall_enumerate_1 _) (F.newCall_enumerate_1 _) (fun obj => F.args_object_init_2 obj _) F.entry_enumerate_new (meets_enum1 B) ⟨h1, ?_⟩
  have hz : (s.heap.push o).objs.size = s.heap.objs.size + 1 := Heap.size_push ..
  show _ ∧ _
  rw [hz]
  have he : IsEnum ((s.heap.push o).push { cls := .type "enumerate", data := .fields #[.none, .bool false, .ref s.heap.objs.size, rawInt 0, .none, .none] }) (s.heap.objs.size + 1) s.heap.objs.size 0 .none := by
    have := Heap.get?_push_size (s.heap.push o) (o := { cls := .type "enumerate", data := .fields #[.none, .bool false, .ref s.heap.objs.size, rawInt 0, .none, .none] }) rfl
    rw [hz] at this; exact this
  refine ⟨⟨_, he, rfl⟩, h _ he (Heap.get?_push_of_some _ (Heap.get?_push_size _ B.free)) (by rw [Heap.size_push, hz]) fun b o x => Heap.get?_push_of_some _ (Heap.get?_push_of_some _ x)⟩
end
/-- the tuple at a, each item in a new pair -/
def ItEnT (K : PySem.W.Frag) (a : Addr) : L2.It :=
  ⟨fun i H => ∃ (xs : List V) (x : V), SqT K H a xs ∧ xs[i]? = some x, fun i H v H' => ∃ T x, v = .ref T ∧ H T = none ∧ H' = upd H T (.tup [.int (i : Nat), x]) ∧ ∀ xs, SqT K H a xs → xs[i]? = some x, fun i H => ∃ xs : List V, SqT K H a xs ∧ xs.length ≤ i⟩
theorem turn_enumT {P : Program} {w : World} {K : PySem.W.Frag} {elts : List Expr} {kk : Nat} {tpos : Pos} (a e it : Addr) (ha : a ≠ it) (hae : a ≠ e) :
    Turn P w K (.Tuple elts kk tpos) (ItEnT K a) [e, it] e (fun i h => (∃ old, IsEnum h e it ((i : Nat) : Int) old) ∧ h.IsTupleIter it a i ∧ e ≠ it) where
  mem := by simp
  obj := fun i h st b hb => by
    obtain ⟨⟨old, he⟩, ⟨o, ho, hc, hd⟩, _⟩ := st
    have e' : b = e ∨ b = it := by simpa using hb
    rcases e' with z | z
    · rw [z]; exact ⟨_, he, fun v q => nomatch q⟩
    · rw [z]; exact ⟨o, ho, fun v q => by rw [hd] at q; cases q⟩
  keep := fun i h h' st k => let ⟨⟨old, he⟩, hi, hne⟩ := st; ⟨⟨old, k e (by simp) _ he⟩, hi.at fun o q => k it (by simp) o q, hne⟩
  item := by
    intro X hP hw hK hc i pins s σ H E I hf st hg
    subst hP hw hK
    obtain ⟨⟨old, he⟩, hit, hne⟩ := st
    obtain ⟨xs, x, hq, hx⟩ := hg
    obtain ⟨its, rv, p, hz⟩ := I.tuple hq
    obtain ⟨u, hu, ru⟩ := rv.get hx
    have hel : e < s.heap.objs.size := Heap.lt_size he
    have hil : it < s.heap.objs.size := by obtain ⟨_, q, _⟩ := hit; exact Heap.lt_size q
    have D := Draws.tuple (prog := X.prog) (w := X.w) (A := X.A.in1) (I.ok.hd hc) it a ha its.toArray
    have hlt : i < its.toArray.size := by
      have := List.getElem?_eq_some_iff.mp hu
      simpa using this.1
    refine wpAny_pyNext_enum_itemD D he ⟨hit, p⟩ hlt hne (by simp [hne, Ne.symm hae]) fun x' h' tk hP ho hst hT hsz hk => ?_
    have hxu : x' = u := by
      have q : its.toArray[i]? = some x' := hP
      simp at q
      rw [hu] at q
      exact (Option.some.inj q).symm
    subst hxu
    refine ⟨_, rfl, wpAny_letOwnedTupleGo_enum (s := { s with heap := h', toks := tk + 1 }) ho fun h'' he' sb => ?_⟩
    have hT2 : h''.get? s.heap.objs.size = some { cls := .type "tuple", data := .seq #[.int i tk, x'] } := (sb.2 _ (Nat.ne_of_gt hel)).trans hT
    have new : ObjOk X.prog X.w (upd H s.heap.objs.size (.tup [.int (i : Nat), x])) h'' s.heap.objs.size (.tup [.int (i : Nat), x]) :=
      ⟨by show 2 ≤ sizeLine; decide, [.int i tk, x'], .cons ⟨_, rfl⟩ (.cons ru .nil), ⟨_, hT2, rfl, _, rfl⟩⟩
    have I1 : Inv X pins σ (upd H s.heap.objs.size (.tup [.int (i : Nat), x])) { s with heap := h'', toks := tk + 1 } :=
      I.turnedNew (ch := [e, it]) (fun b ob hb q => (sb.2 b (fun z => hb (by simp [z]))).trans (hk b ob (fun z => hb (by simp [z])) (fun z => hb (by simp [z])) q)) hf (Nat.le_refl _) new
    refine ⟨.ref s.heap.objs.size, _, I1, rfl, ⟨_, x, rfl, I.hok.fresh (Nat.le_refl _), rfl, fun ys hy => by rw [I.tuple_inj hy hq]; exact hx⟩, ⟨⟨x', ?_⟩, hst.1.at fun o q => (sb.2 it (Ne.symm hne)).trans q, hne⟩, fun b hb => ?_⟩
    · have e1 : ((i + 1 : Nat) : Int) = (i : Int) + 1 := by omega
      rw [e1]; exact he'
    · have hb' : b < s.heap.objs.size := by
        have e' : b = e ∨ b = it := by simpa using hb
        rcases e' with z | z
        · rw [z]; exact hel
        · rw [z]; exact hil
      rw [upd_ne (Nat.ne_of_lt hb')]
      exact (hf b hb).1
  done := by
    intro X hP hw hK hc i pins s σ H E I hf st hg
    subst hP hw hK
    obtain ⟨⟨old, he⟩, hit, hne⟩ := st
    obtain ⟨xs, hq, hx⟩ := hg
    obtain ⟨its, rv, p, hz⟩ := I.tuple hq
    obtain ⟨f0, f1, f2, f3, f4, f5⟩ := hf it (by simp)
    have hl := rv.length
    have hT : s.TypeIs (.ref e) "enumerate" := ⟨_, he, rfl⟩
    unfold pyNext
    refine wpAny_bind (wpAny_attempt (wpAny_callSpecial?_slot (name := Str.ofString "__next__") hT F.slot_enumerate_next
      (wpAny_call_entry F.slot_enumerate_next hT F.entry_enumerate_next ?_ (F.args_enumerate_next_1 _))))
    show wpAny _ _ (field (.ref e) 2 >>= _) _ _ _
    refine wpAny_bind (wpAny_field he rfl (x := .ref it) rfl ?_)
    refine wpAny_bind (wpAny_nextOf_tuple_end (I.ok.hd hc) hit p (by simp; omega) fun h' x eb hx' => ?_)
    obtain ⟨o, ho, hc'⟩ := hx'
    refine wpAny_bind (wpAny_isInstance (T := "StopIteration") (b := true) ⟨o, ho, hc'⟩ isSubtype_stop ?_)
    exact wpAny_pure ⟨rfl, I.turned (t' := s.toks) (fun b o hb q => eb b o hb q) f0 f1 f3 f4 f5⟩
  self := fun A i s Q E st h => let ⟨⟨_, he⟩, _⟩ := st; wpAny_pyIter_enum he h
/-- enumerate goes over a list or a tuple -/
def iEnum2 (K : PySem.W.Frag) (ta : TA) : TI := fun σ H R => ta σ H fun vs H1 => ∃ a, vs = [.ref a] ∧ ((∃ xs, SqL K H1 a xs ∧ R (Ite K a) H1) ∨ (∃ xs, SqT K H1 a xs ∧ R (ItEnT K a) H1))
theorem pi_enum2 {X : Cx} {e : Expr} {ta : TA} {p pos tpos : Pos} {elts : List Expr} {kk : Nat} (hg : Gl X "enumerate") (hm : X.mg "enumerate" = none) (ha : PA X [e] ta) (hs : starEach [e] X.env = [(false, eval e X.env)] := by rfl) :
    PI X (.Tuple elts kk tpos) (.Call (.Name "enumerate" p) [e] [] pos) (iEnum2 X.K ta) := by
  refine ⟨fun pins s σ H R I h => Call_ (ld_blt I hg hm boot_enumerate (PyProof.Rows.callWith_type1 (thn (ha.run pos pins s σ H _ I h) fun us s1 ⟨vs, H1, I1, r1, q1⟩ => ?_) hs rfl))⟩
  obtain ⟨a, ex, q1⟩ := q1
  subst ex
  cases r1 with
  | cons r rr =>
    cases rr
    cases r
    have fp : ∀ b ∈ [s1.heap.objs.size + 1, s1.heap.objs.size], s1.heap.objs.size ≤ b := fun b hb => by
      rcases List.mem_cons.mp hb with z | z
      · rw [z]; exact Nat.le_add_right _ _
      · rw [List.mem_singleton.mp z]; exact Nat.le_refl _
    rcases q1 with ⟨xs, hq, q⟩ | ⟨xs, hq, q⟩
    · obtain ⟨its, rv, p', hz⟩ := I1.list hq
      refine call_enumerate_list p'.isList fun h' he hit hsz hk => wpAny_pyIter_enum he ?_
      exact ⟨s1.heap.objs.size + 1, [s1.heap.objs.size + 1, s1.heap.objs.size], _, _, H1, rfl, I1.kept (t' := s1.toks) hk, turn_enum a (s1.heap.objs.size + 1) s1.heap.objs.size, ⟨⟨.none, he⟩, hit, Nat.succ_ne_self _⟩, fun b hb => I1.fpOk (fp b hb) (I1.hok.fresh (fp b hb)), q⟩
    · obtain ⟨its, rv, p', hz⟩ := I1.tuple hq
      have al : a < s1.heap.objs.size := by obtain ⟨o, z, _⟩ := p'; exact Heap.lt_size z
      refine enum1 (begins_tuple a its.toArray) p' fun h' he ho hsz hk => wpAny_pyIter_enum he ?_
      exact ⟨s1.heap.objs.size + 1, [s1.heap.objs.size + 1, s1.heap.objs.size], _, _, H1, rfl, I1.kept (t' := s1.toks) hk, turn_enumT a (s1.heap.objs.size + 1) s1.heap.objs.size (Nat.ne_of_lt al) (Nat.ne_of_lt (Nat.lt_succ_of_lt al)), ⟨⟨.none, he⟩, ⟨_, ho, rfl, rfl⟩, Nat.succ_ne_self _⟩, fun b hb => I1.fpOk (fp b hb) (I1.hok.fresh (fp b hb)), q⟩
end PyM
namespace PyM
open PySem PySem.Spec PyProof.Rows L2

/-! ### targets -/
abbrev NoE : EH := fun _ _ _ _ => False
theorem nox_exc {α : Type} {r : Res α} {e : Exc} {s : Sto} (h : r.nox = .exc e s) : False := by
  cases r <;> cases h
mutual
theorem denT_x {cf : CF} : ∀ (t : Tg) (d : D) (env : Env) (st : Sto) (e : Exc) (s : Sto), denT cf t d env st = .exc e s → False
  | .nm i, d, env, st, e, s, h => by
    rw [denT] at h
    cases h
  | .tup ts, d, env, st, e, s, h => by
    unfold denT at h
    split at h
    · exact denTs_x ts _ env st e s h
    · cases h
  | .sub o i, d, env, st, e, s, h => by
    rw [denT] at h
    exact nox_exc h
theorem denTs_x {cf : CF} : ∀ (t : Tgs) (d : List D) (env : Env) (st : Sto) (e : Exc) (s : Sto), denTs cf t d env st = .exc e s → False
  | .nil, d, env, st, e, s, h => by
    unfold denTs at h
    split at h <;> cases h
  | .cons t ts, d, env, st, e, s, h => by
    unfold denTs at h
    split at h
    · rename_i d r
      cases q : denT cf t d env st with
      | ok e1 s1 =>
        rw [q] at h
        exact denTs_x ts r e1 s1 e s h
      | exc e' s' => exact denT_x t d env st e' s' q
      | fail => rw [q] at h; cases h
    · cases h
end
/-- the slots told alone have changed -/
def Same (S : List Nat) (σ σ' : PSt) : Prop := σ'.length = σ.length ∧ ∀ j, j ∉ S → σ'[j]? = σ[j]?
theorem Same.refl {S : List Nat} {σ : PSt} : Same S σ σ := ⟨rfl, fun _ _ => rfl⟩
theorem Same.app {S S' : List Nat} {σ σ1 σ2 : PSt} (a : Same S σ σ1) (b : Same S' σ1 σ2) : Same (S ++ S') σ σ2 := ⟨b.1.trans a.1, fun j h => by
  rw [List.mem_append, not_or] at h
  exact (b.2 j h.2).trans (a.2 j h.1)⟩
def RepT (c : Cfg) (S : List Nat) (σ : PSt) (g : Gh) (N : Nat) (H : Hp) (env : Env) (σ' : PSt) : Prop := RepE c g N H env σ' ∧ Same S σ σ'
theorem EndR.rep {α β : Type} {c : Cfg} {g : Gh} {st : Sto} {H : Hp} {E : EH} {rep rep2 : Gh → Nat → Hp → α → β → Prop} {r : Res α} {Q : β → Hp → Prop} (h : EndR c g st H E rep r Q) (k : ∀ g N H a v, rep2 g N H a v → rep g N H a v) : EndR c g st H E rep2 r Q := by
  cases r with
  | ok a s => exact fun g' H' v x rv w => h g' H' v x (k _ _ _ _ _ rv) w
  | exc e s => exact h
  | fail => exact h
def TGM (c : Cfg) (S : List Nat) (m : D → Env → Sto → Res Env) : TG := fun v σ H Q => ∃ g env st d, RepE c g st.length H env σ ∧ Wd c g st H ∧ RepD c g st.length H d v ∧ EndR c g st H NoE (RepT c S σ) (m d env st) Q
def TGMs (c : Cfg) (S : List Nat) (m : List D → Env → Sto → Res Env) : TGs := fun vs σ H Q => ∃ g env st ds, RepE c g st.length H env σ ∧ Wd c g st H ∧ RepDs c g st.length H ds vs ∧ EndR c g st H NoE (RepT c S σ) (m ds env st) Q
theorem PG.imp {X : Cx} {e : Expr} {t t' : TG} (h : PG X e t) (k : ∀ v σ H Q, t' v σ H Q → t v σ H Q) : PG X e t' := ⟨fun pins s σ H v u Q I r q => h.run pins s σ H v u Q I r (k v σ H Q q)⟩
theorem PGs.imp {X : Cx} {e : List Expr} {t t' : TGs} (h : PGs X e t) (k : ∀ v σ H Q, t' v σ H Q → t v σ H Q) : PGs X e t' := ⟨fun pins s σ H v u Q I r q => h.run pins s σ H v u Q I r (k v σ H Q q)⟩
theorem RepE.set {c : Cfg} {g : Gh} {N : Nat} {H : Hp} {env : Env} {σ : PSt} (h : RepE c g N H env σ) (i : Nat) {d : D} {v : V} (r : RepD c g N H d v) : RepE c g N H (env.set i (some d)) (σ.set i (some v)) := by
  refine ⟨by rw [List.length_set, List.length_set]; exact h.1, fun j d' e => ?_⟩
  by_cases hj : i = j
  · subst hj
    by_cases hi : i < env.length
    · rw [List.getElem?_set_self hi] at e
      cases e
      rw [List.getElem?_set_self (by rw [← h.1]; exact hi)]
      exact ⟨v, rfl, r⟩
    · rw [List.getElem?_eq_none (by rw [List.length_set]; omega)] at e
      cases e
  · rw [List.getElem?_set_ne hj] at e
    rw [List.getElem?_set_ne hj]
    exact h.2 j d' e
theorem EndR.weak {α β : Type} {c : Cfg} {g : Gh} {st : Sto} {H : Hp} {E E' : EH} {rep : Gh → Nat → Hp → α → β → Prop} {r : Res α} {Q : β → Hp → Prop} (h : EndR c g st H E rep r Q) (k : ∀ e g' s H', E e g' s H' → E' e g' s H') : EndR c g st H E' rep r Q := by
  cases r with
  | ok a s => exact h
  | exc e s => exact fun g' H' x w => k _ _ _ _ (h g' H' x w)
  | fail => exact h
theorem EndR.nox {α β : Type} {c : Cfg} {g : Gh} {st : Sto} {H : Hp} {E E' : EH} {rep : Gh → Nat → Hp → α → β → Prop} {r : Res α} {Q : β → Hp → Prop} (h : EndR c g st H E rep r.nox Q) : EndR c g st H E' rep r Q := by
  cases r with
  | ok a s => exact h
  | exc e s => exact h.elim
  | fail => exact h
section
variable {X : Cx} {W : WX} {k : Ck} {ca : Str → Option Addr} {r : Nat} {cf : CF}
variable {pos p : Pos} {u v t : Expr} {x y z : Ex} {as : Exs}
theorem i_nm {i : Nat} {v : V} {σ : PSt} {H : Hp} {Q : PSt → Hp → Prop} (h : TGM (cfgOf X ca) [i] (denT cf (.nm i)) v σ H Q) : gName i v σ H Q := by
  obtain ⟨g, env, st, d, re, w, rv, h⟩ := h
  rw [denT] at h
  exact h g H _ Ext.refl ⟨re.set i rv, by rw [List.length_set], fun j hj => List.getElem?_set_ne fun e => hj (by rw [e]; exact List.mem_singleton.mpr rfl)⟩ w
theorem i_gtup {ts : Tgs} {n : Nat} {S : List Nat} {v : V} {σ : PSt} {H : Hp} {Q : PSt → Hp → Prop} (hn : ∀ ds env st, denTs cf ts ds env st ≠ .fail → ds.length = n) (h : TGM (cfgOf X ca) S (denT cf (.tup ts)) v σ H Q) : gTup X.K n (TGMs (cfgOf X ca) S (denTs cf ts)) v σ H Q := by
  obtain ⟨g, env, st, d, re, w, rv, h⟩ := h
  unfold denT at h
  split at h
  · rename_i xs
    have rv' : RepP (cfgOf X ca) g.F H (.tup xs) v := rv
    rw [RepP] at rv'
    obtain ⟨a, vs, rfl, t, z, rs⟩ := rv'
    have l := hn _ _ _ h.nf
    rw [List.length_map] at l
    exact ⟨a, vs, rfl, t.sq, by rw [rs.len]; exact l, g, env, st, _, re, w, RepDs.of rs, h⟩
  · exact h.elim
theorem i_gnil {vs : List V} {S : List Nat} {σ : PSt} {H : Hp} {Q : PSt → Hp → Prop} (h : TGMs (cfgOf X ca) S (denTs cf .nil) vs σ H Q) : gNil vs σ H Q := by
  obtain ⟨g, env, st, d, re, w, rv, h⟩ := h
  unfold denTs at h
  split at h
  · cases rv
    exact ⟨rfl, h g H σ Ext.refl ⟨re, .refl⟩ w⟩
  · exact h.elim
theorem i_gcons {t : Tg} {ts : Tgs} {vs : List V} {σ : PSt} {H : Hp} {Q : PSt → Hp → Prop} (h : TGMs (cfgOf X ca) (tgs t ++ tgss ts) (denTs cf (.cons t ts)) vs σ H Q) : gCons (TGM (cfgOf X ca) (tgs t) (denT cf t)) (TGMs (cfgOf X ca) (tgss ts) (denTs cf ts)) vs σ H Q := by
  obtain ⟨g, env, st, d, re, w, rv, h⟩ := h
  unfold denTs at h
  split at h
  · rename_i d ds
    cases rv with
    | @cons _ _ v vs rd rds =>
      refine ⟨v, vs, rfl, g, env, st, d, re, w, rd, (EndR.bind (rep := RepT (cfgOf X ca) (tgs t) σ) h).imp fun σ1 H1 ⟨g1, st1, e1, M⟩ => ?_⟩
      exact ⟨g1, e1, st1, ds, M.rp.1, M.wd, rds.mono M.ext, M.nx.rep fun g N H a v rv => ⟨rv.1, M.rp.2.app rv.2⟩⟩
  · exact h.elim
theorem i_gsub {v : V} {σ : PSt} {H : Hp} {Q : PSt → Hp → Prop} {S : List Nat} (h : TGM (cfgOf X ca) S (denT cf (.sub x y)) v σ H Q) : gSub (TDx X ca W cf x) (TDx X ca W cf y) (rSetA (cfgOf X ca)) v σ H Q := by
  obtain ⟨g, env, st, d, re, w, rv, h⟩ := h
  rw [denT] at h
  have h := h.nox (E' := EW (cfgOf X ca) W σ)
  refine ⟨g, env, st, re, w, h.bind.imp fun v1 H1 ⟨g1, st1, d1, M⟩ => ?_⟩
  refine TX.of (re.mono M.ext) M.wd (M.nx.bind.imp fun v2 H2 ⟨g2, st2, d2, M2⟩ => ?_)
  have h := M2.nx
  split at h
  · rename_i s3 e
    exact setA_of M2.wd (M.rp.mono M2.ext) M2.rp ((rv.mono M.ext).mono M2.ext) e fun H3 ex w3 => h g2 H3 σ ex ⟨((re.mono M.ext).mono M2.ext).mono ex, .refl⟩ w3
  · exact h.elim
def Tgs.len : Tgs → Nat
  | .nil => 0
  | .cons _ ts => ts.len + 1
theorem denTs_len : ∀ {ts : Tgs} {ds : List D} {env : Env} {st : Sto}, denTs cf ts ds env st ≠ .fail → ds.length = ts.len
  | .nil, ds, env, st, h => by
    unfold denTs at h
    split at h
    · rfl
    · exact absurd rfl h
  | .cons t ts, ds, env, st, h => by
    unfold denTs at h
    split at h
    · rename_i d ds
      cases e : denT cf t d env st with
      | ok e1 s1 =>
        rw [e] at h
        rw [List.length_cons, denTs_len h]
        rfl
      | exc e' s => exact (denT_x _ _ _ _ _ _ e).elim
      | fail => rw [e] at h; exact absurd rfl h
    · exact absurd rfl h
theorem chkGs_len : ∀ {ts : Tgs} {us : List Expr}, chkGs k ts us = true → ts.len = us.length ∧ ∀ u ∈ us, isStar u = false
  | .nil, us, h => by
    unfold chkGs at h
    cases us with
    | nil => exact ⟨rfl, fun u hu => by cases hu⟩
    | cons a b => cases h
  | .cons x xs, us, h => by
    unfold chkGs at h
    split at h
    · rename_i a as
      rw [Bool.and_eq_true, Bool.and_eq_true] at h
      obtain ⟨l, s⟩ := chkGs_len h.2
      refine ⟨by rw [List.length_cons, ← l]; rfl, fun u hu => ?_⟩
      rcases List.mem_cons.mp hu with rfl | hu
      · simpa using h.1.1
      · exact s u hu
    · cases h
theorem asg_cons {e : Expr} {es : List Expr} {env : PySem.Env} (h : isStar e = false) : assignEach (e :: es) env = (false, assign e env) :: assignEach es env := by
  cases e <;> first | rfl | (cases h)
theorem asg_len : ∀ {es : List Expr} {env : PySem.Env}, (∀ u ∈ es, isStar u = false) → (assignEach es env).length = es.length ∧ (assignEach es env).findIdx? (·.1) = none
  | [], env, _ => ⟨rfl, rfl⟩
  | e :: es, env, h => by
    rw [asg_cons (h e (List.mem_cons_self ..))]
    obtain ⟨a, b⟩ := asg_len (env := env) fun u hu => h u (List.mem_cons_of_mem _ hu)
    refine ⟨by rw [List.length_cons, List.length_cons, a], ?_⟩
    rw [List.findIdx?_cons]
    simp [b]
theorem sub_asg {o i : Expr} {pos : Pos} {env : PySem.Env} (h : isSlice i = false) (v : Value) : assign (.Subscript o i pos) env v = (do
      let ov ← holding [v] (eval o env)
      let iv ← holding [v, ov] (eval i env)
      standAt pos
      holding [v, ov, iv] (setItem ov iv v)
      release [v, ov, iv] []) := by
  cases i <;> first | rfl | (cases h)
end

/-! ### what is walked -/
/-- what a walk needs of an extension -/
structure ExW (g : Gh) (N : Nat) (H : Hp) (g' : Gh) (N' : Nat) (H' : Hp) : Prop where
  le : N ≤ N'
  lm : ∀ n, n < N → g'.lm n = g.lm n
  sub : ∀ a, g.F a → g'.F a
  frF : ∀ a o, H a = some o → g.F a → GeF (g'.F a) o (H' a)
theorem Ext.w {g g' : Gh} {N N' : Nat} {H H' : Hp} (x : Ext g N H g' N' H') : ExW g N H g' N' H' := ⟨x.le, x.lm, x.sub, x.frF⟩
theorem ExW.mono {g g' : Gh} {N N' : Nat} {H H' : Hp} (x : ExW g N H g' N' H') : Mono g.F g'.F H H' := ⟨x.sub, fun a o f h => (x.frF a o h f).imp fun _ => trivial⟩
def RepSrc (c : Cfg) (g : Gh) (N : Nat) (H : Hp) : Src → L2.It → Prop
  | .fix xs, J => xs.length ≤ sizeLine ∧ ∀ g' N' H', ExW g N H g' N' H' → ∀ i, (xs[i]? = none → J.stop i H') ∧ ∀ d, xs[i]? = some d → J.go i H' ∧ ∀ x H'', J.yld i H' x H'' → ∃ F', PExt g'.F H' F' H'' ∧ RepD c ⟨g'.lm, F'⟩ N' H'' d x
  | .loc n, J => n < N ∧ ∀ g' (st' : Sto) H', ExW g N H g' st'.length H' → Wd c g' st' H' → ∀ ys, st'[n]? = some (.lst ys) → ∀ i, (ys[i]? = none → J.stop i H') ∧ ∀ d, ys[i]? = some d → J.go i H' ∧ ∀ x H'', J.yld i H' x H'' → ∃ F', PExt g'.F H' F' H'' ∧ RepD c ⟨g'.lm, F'⟩ st'.length H'' d x
theorem PI.imp {X : Cx} {tg e : Expr} {t t' : TI} (h : PI X tg e t) (k : ∀ σ H R, t' σ H R → t σ H R) : PI X tg e t' := ⟨fun pins s σ H R I q => h.run pins s σ H R I (k σ H R q)⟩
theorem PI.or {X : Cx} {tg e : Expr} {t t' : TI} (h : PI X tg e t) (h' : PI X tg e t') : PI X tg e (fun σ H R => t σ H R ∨ t' σ H R) := ⟨fun pins s σ H R I q => q.elim (h.run pins s σ H R I) (h'.run pins s σ H R I)⟩
theorem src_tup {c : Cfg} {g : Gh} {N : Nat} {H : Hp} {a : Addr} {xs : List P} {vs : List V} (t : TupAt c g.F H a vs) (r : RepPs c g.F H xs vs) (z : vs.length ≤ sizeLine) : RepSrc c g N H (.fix (xs.map .p)) (Itt c.K a) := ⟨by rw [List.length_map, ← r.len]; exact z, fun g' N' H' x i => by
  have t' := (t.mono x.mono).sq
  have r' := RepPs.mono x.mono _ _ r
  refine ⟨fun e => ⟨vs, t', ?_⟩, fun d e => ?_⟩
  · rw [List.getElem?_map, Option.map_eq_none_iff, List.getElem?_eq_none_iff] at e
    rw [r.len]
    exact e
  · rw [List.getElem?_map] at e
    obtain ⟨y, hy, rfl⟩ := Option.map_eq_some_iff.mp e
    obtain ⟨v, hv, rv⟩ := r'.get hy
    refine ⟨⟨vs, v, t', hv⟩, fun z H'' yl => ?_⟩
    obtain ⟨rfl, q⟩ := yl
    have := q vs t'
    rw [hv] at this
    cases this
    exact ⟨g'.F, PExt.refl, rv⟩⟩
theorem src_lst {c : Cfg} {g : Gh} {N : Nat} {H : Hp} {a : Addr} {xs : List P} {vs : List V} (f : g.F a) (t : H a = some (.lst vs)) (r : RepPs c g.F H xs vs) (z : vs.length ≤ sizeLine) : RepSrc c g N H (.fix (xs.map .p)) (Itl c.K a) := ⟨by rw [List.length_map, ← r.len]; exact z, fun g' N' H' x i => by
  have t' : SqL c.K H' a vs := SqL.of ((x.frF _ _ t f).nd id)
  have r' := RepPs.mono x.mono _ _ r
  refine ⟨fun e => ⟨vs, t', ?_⟩, fun d e => ?_⟩
  · rw [List.getElem?_map, Option.map_eq_none_iff, List.getElem?_eq_none_iff] at e
    rw [r.len]
    exact e
  · rw [List.getElem?_map] at e
    obtain ⟨y, hy, rfl⟩ := Option.map_eq_some_iff.mp e
    obtain ⟨v, hv, rv⟩ := r'.get hy
    refine ⟨⟨vs, v, t', hv⟩, fun z H'' yl => ?_⟩
    obtain ⟨rfl, q⟩ := yl
    have := q vs t'
    rw [hv] at this
    cases this
    exact ⟨g'.F, PExt.refl, rv⟩⟩
theorem src_loc {c : Cfg} {g : Gh} {N n : Nat} {H : Hp} (hn : n < N) : RepSrc c g N H (.loc n) (Itl c.K (g.lm n)) := ⟨hn, fun g' st' H' x w ys e i => by
  obtain ⟨vs, h1, z, r⟩ := w.obs n _ e
  rw [x.lm n hn] at h1
  have t' : SqL c.K H' (g.lm n) vs := SqL.of h1
  refine ⟨fun e => ⟨vs, t', ?_⟩, fun d e => ?_⟩
  · rw [List.getElem?_eq_none_iff] at e
    rw [r.len]
    exact e
  · obtain ⟨v, hv, rv⟩ := r.get e
    refine ⟨⟨vs, v, t', hv⟩, fun z H'' yl => ?_⟩
    obtain ⟨rfl, q⟩ := yl
    have := q vs t'
    rw [hv] at this
    cases this
    exact ⟨g'.F, PExt.refl, rv⟩⟩
theorem src_str {c : Cfg} {g : Gh} {N : Nat} {H : Hp} {x : Str} (s : sOk x) : RepSrc c g N H (.fix (x.cps.toList.map fun ch => .p (.str ⟨#[ch]⟩))) (Its x) := ⟨by rw [List.length_map, Array.length_toList]; exact s.2, fun g' N' H' _ i => by
  refine ⟨fun e => ?_, fun d e => ?_⟩
  · rw [List.getElem?_map, Option.map_eq_none_iff, List.getElem?_eq_none_iff, Array.length_toList] at e
    exact e
  · rw [List.getElem?_map] at e
    obtain ⟨ch, hc, rfl⟩ := Option.map_eq_some_iff.mp e
    have hc' : x.cps[i]? = some ch := by rw [← Array.getElem?_toList]; exact hc
    refine ⟨(Array.getElem?_eq_some_iff.mp hc').1, fun z H'' yl => ?_⟩
    obtain ⟨rfl, c', q, rfl⟩ := yl
    rw [hc'] at q
    cases q
    refine ⟨g'.F, PExt.refl, ?_⟩
    show RepP _ _ _ _ _
    rw [RepP]
    exact ⟨rfl, s.one (List.mem_of_getElem? hc)⟩⟩
theorem src_rng {c : Cfg} {g : Gh} {N : Nat} {H : Hp} {lo : Int} {n : Nat} (z : n ≤ sizeLine) : RepSrc c g N H (.fix (rngL lo n)) (Itr lo n) := ⟨by unfold rngL; rw [List.length_map, List.length_range]; exact z, fun g' N' H' _ i => by
  unfold rngL
  refine ⟨fun e => ?_, fun d e => ?_⟩
  · rw [List.getElem?_map, Option.map_eq_none_iff, List.getElem?_eq_none_iff, List.length_range] at e
    exact e
  · rw [List.getElem?_map] at e
    obtain ⟨j, hj, rfl⟩ := Option.map_eq_some_iff.mp e
    obtain ⟨h1, h2⟩ := List.getElem?_eq_some_iff.mp hj
    rw [List.length_range] at h1
    rw [List.getElem_range] at h2
    subst h2
    refine ⟨h1, fun z H'' yl => ?_⟩
    obtain ⟨rfl, rfl⟩ := yl
    refine ⟨g'.F, PExt.refl, ?_⟩
    show RepP _ _ _ _ _
    rw [RepP]⟩
theorem enumL_len : ∀ (xs : List P) (k : Nat), (enumL k xs).length = xs.length
  | [], k => rfl
  | x :: xs, k => by rw [enumL, List.length_cons, List.length_cons, enumL_len xs]
theorem enumL_get : ∀ (xs : List P) (k i : Nat), (enumL k xs)[i]? = (xs[i]?).map fun x => D.p (.tup [.int ((k + i : Nat) : Int), x])
  | [], k, i => by simp [enumL]
  | x :: xs, k, 0 => by simp [enumL]
  | x :: xs, k, i + 1 => by
    rw [enumL, List.getElem?_cons_succ, List.getElem?_cons_succ, enumL_get xs (k + 1) i]
    rw [show k + 1 + i = k + (i + 1) by omega]
theorem src_enum {c : Cfg} {g : Gh} {N : Nat} {H : Hp} {a : Addr} {xs : List P} {vs : List V} (f : g.F a) (t : H a = some (.lst vs)) (r : RepPs c g.F H xs vs) (z : vs.length ≤ sizeLine) : RepSrc c g N H (.fix (enumL 0 xs)) (Ite c.K a) := ⟨by rw [enumL_len, ← r.len]; exact z, fun g' N' H' x i => by
  have t' : SqL c.K H' a vs := SqL.of ((x.frF _ _ t f).nd id)
  have r' := RepPs.mono x.mono _ _ r
  rw [enumL_get]
  refine ⟨fun e => ⟨vs, t', ?_⟩, fun d e => ?_⟩
  · rw [Option.map_eq_none_iff, List.getElem?_eq_none_iff] at e
    rw [r.len]
    exact e
  · obtain ⟨y, hy, rfl⟩ := Option.map_eq_some_iff.mp e
    obtain ⟨v, hv, rv⟩ := r'.get hy
    refine ⟨⟨vs, v, t', hv⟩, fun z H'' yl => ?_⟩
    obtain ⟨T, z', rfl, hT, rfl, q⟩ := yl
    have := q vs t'
    rw [hv] at this
    cases this
    have px : PExt g'.F H' (fun b => g'.F b ∨ b = T) (upd H' T (.tup [.int (i : Nat), v])) := PExt.one hT
    refine ⟨_, px, ?_⟩
    show RepP _ _ _ _ _
    rw [RepP]
    refine ⟨T, _, rfl, .inl ⟨.inr rfl, upd_same⟩, by show 2 ≤ sizeLine; decide, ?_⟩
    rw [RepPs]
    refine ⟨_, _, rfl, by rw [RepP, Nat.zero_add], ?_⟩
    rw [RepPs]
    refine ⟨_, _, rfl, RepP.mono px.mono _ _ rv, ?_⟩
    rw [RepPs]⟩
theorem src_enumT {c : Cfg} {g : Gh} {N : Nat} {H : Hp} {a : Addr} {xs : List P} {vs : List V} (t : TupAt c g.F H a vs) (r : RepPs c g.F H xs vs) (z : vs.length ≤ sizeLine) : RepSrc c g N H (.fix (enumL 0 xs)) (ItEnT c.K a) := ⟨by rw [enumL_len, ← r.len]; exact z, fun g' N' H' x i => by
  have t' := (t.mono x.mono).sq
  have r' := RepPs.mono x.mono _ _ r
  rw [enumL_get]
  refine ⟨fun e => ⟨vs, t', ?_⟩, fun d e => ?_⟩
  · rw [Option.map_eq_none_iff, List.getElem?_eq_none_iff] at e
    rw [r.len]
    exact e
  · obtain ⟨y, hy, rfl⟩ := Option.map_eq_some_iff.mp e
    obtain ⟨v, hv, rv⟩ := r'.get hy
    refine ⟨⟨vs, v, t', hv⟩, fun z H'' yl => ?_⟩
    obtain ⟨T, z', rfl, hT, rfl, q⟩ := yl
    have := q vs t'
    rw [hv] at this
    cases this
    have px : PExt g'.F H' (fun b => g'.F b ∨ b = T) (upd H' T (.tup [.int (i : Nat), v])) := PExt.one hT
    refine ⟨_, px, ?_⟩
    show RepP _ _ _ _ _
    rw [RepP]
    refine ⟨T, _, rfl, .inl ⟨.inr rfl, upd_same⟩, by show 2 ≤ sizeLine; decide, ?_⟩
    rw [RepPs]
    refine ⟨_, _, rfl, by rw [RepP, Nat.zero_add], ?_⟩
    rw [RepPs]
    refine ⟨_, _, rfl, RepP.mono px.mono _ _ rv, ?_⟩
    rw [RepPs]⟩
theorem src_dk {c : Cfg} {g : Gh} {N : Nat} {H : Hp} {a : Addr} {kvs : List (P × P)} {es : List Ent} {od : Obj} (f : g.F a) (lk : LkD c H a es od) (r : RepKs c g.F H kvs es) : RepSrc c g N H (.fix (kvs.map fun q => .p q.1)) (ItDk c a es od) := ⟨by rw [List.length_map, ← r.len]; exact lk.1.1, fun g' N' H' x i => by
  have r' := RepKs.mono x.mono _ _ r
  have lk' : LkD c H' a es od := by
    obtain ⟨h1, h2, u, h3⟩ := lk
    exact ⟨h1.mono x.mono f, ⟨g'.F, r'.keys (g := g')⟩, u, (x.frF _ _ h3 f).nd id⟩
  refine ⟨fun e => ⟨lk', ?_⟩, fun d e => ?_⟩
  · rw [List.getElem?_map, Option.map_eq_none_iff, List.getElem?_eq_none_iff] at e
    rw [r.len]
    exact e
  · rw [List.getElem?_map] at e
    obtain ⟨y, hy, rfl⟩ := Option.map_eq_some_iff.mp e
    obtain ⟨en, hen, rv⟩ := r'.get hy
    refine ⟨⟨lk', (List.getElem?_eq_some_iff.mp hen).1⟩, fun z H'' yl => ?_⟩
    obtain ⟨rfl, en', he', rfl⟩ := yl
    rw [hen] at he'
    cases he'
    exact ⟨g'.F, PExt.refl, rv⟩⟩
theorem rev_get {α : Type} {xs : List α} {i : Nat} (hi : i < xs.length) : xs.reverse[i]? = xs[xs.length - 1 - i]? := by
  rw [List.getElem?_reverse hi]
theorem src_revL {c : Cfg} {g : Gh} {N : Nat} {H : Hp} {a : Addr} {xs : List P} {vs : List V} (f : g.F a) (t : H a = some (.lst vs)) (r : RepPs c g.F H xs vs) (z : vs.length ≤ sizeLine) : RepSrc c g N H (.fix (xs.reverse.map .p)) (Itv c.K a vs.length) := ⟨by rw [List.length_map, List.length_reverse, ← r.len]; exact z, fun g' N' H' x i => by
  have t' : SqL c.K H' a vs := SqL.of ((x.frF _ _ t f).nd id)
  have r' := RepPs.mono x.mono _ _ r
  refine ⟨fun e => ?_, fun d e => ?_⟩
  · rw [List.getElem?_map, Option.map_eq_none_iff, List.getElem?_eq_none_iff, List.length_reverse] at e
    show vs.length ≤ i
    rw [r.len]
    exact e
  · rw [List.getElem?_map] at e
    obtain ⟨y, hy, rfl⟩ := Option.map_eq_some_iff.mp e
    have hi : i < xs.length := by have := (List.getElem?_eq_some_iff.mp hy).1; simpa using this
    rw [rev_get hi] at hy
    obtain ⟨v, hv, rv⟩ := r'.get hy
    rw [← r.len] at hv
    refine ⟨⟨by rw [r.len]; exact hi, vs, v, t', hv⟩, fun z H'' yl => ?_⟩
    obtain ⟨rfl, q⟩ := yl
    have := q vs t'
    rw [hv] at this
    cases this
    exact ⟨g'.F, PExt.refl, rv⟩⟩
theorem src_revT {c : Cfg} {g : Gh} {N : Nat} {H : Hp} {a : Addr} {xs : List P} {vs : List V} (t : TupAt c g.F H a vs) (r : RepPs c g.F H xs vs) (z : vs.length ≤ sizeLine) : RepSrc c g N H (.fix (xs.reverse.map .p)) (RT.ItvT c.K a vs.length) := ⟨by rw [List.length_map, List.length_reverse, ← r.len]; exact z, fun g' N' H' x i => by
  have t' := (t.mono x.mono).sq
  have r' := RepPs.mono x.mono _ _ r
  refine ⟨fun e => ?_, fun d e => ?_⟩
  · rw [List.getElem?_map, Option.map_eq_none_iff, List.getElem?_eq_none_iff, List.length_reverse] at e
    show vs.length ≤ i
    rw [r.len]
    exact e
  · rw [List.getElem?_map] at e
    obtain ⟨y, hy, rfl⟩ := Option.map_eq_some_iff.mp e
    have hi : i < xs.length := by have := (List.getElem?_eq_some_iff.mp hy).1; simpa using this
    rw [rev_get hi] at hy
    obtain ⟨v, hv, rv⟩ := r'.get hy
    rw [← r.len] at hv
    refine ⟨⟨by rw [r.len]; exact hi, vs, v, t', hv⟩, fun z H'' yl => ?_⟩
    obtain ⟨rfl, q⟩ := yl
    have := q vs t'
    rw [hv] at this
    cases this
    exact ⟨g'.F, PExt.refl, rv⟩⟩
abbrev TIx (X : Cx) (ca : Str → Option Addr) (W : WX) (cf : CF) (i : It) : TI := TX (cfgOf X ca) W (RepSrc (cfgOf X ca)) (deni cf i)
section
variable {X : Cx} {W : WX} {k : Ck} {ca : Str → Option Addr} {r : Nat} {cf : CF}
variable {pos p : Pos} {u v t tg : Expr} {x y z : Ex} {as : Exs}
/-- by the value that is walked -/
theorem it_seq (hu : PE X u (TDx X ca W cf x)) : PI X tg u (TIx X ca W cf (.seq x)) := by
  refine PI.imp (PI.or (pi_list hu) (PI.or (pi_tup hu) (PI.or (pi_str hu) (pi_dk (ca := ca) hu)))) fun σ H R h => ?_
  obtain ⟨g, env, st, re, w, h⟩ := h
  rw [deni] at h
  cases e : den cf x env st with
  | fail => rw [e] at h; exact h.elim
  | exc e' s =>
    rw [e] at h
    exact .inl ⟨g, env, st, re, w, by rw [e]; exact h⟩
  | ok d s =>
    rw [e, Res.bind_ok] at h
    obtain ⟨src, hs, h⟩ := h.opt
    cases d with
    | loc n =>
      simp only [srcOf] at hs
      split at hs
      · rename_i xs e1
        cases hs
        refine .inl ⟨g, env, st, re, w, ?_⟩
        rw [e]
        intro g' H' v ex rv w'
        obtain ⟨hn, rfl⟩ := rv
        obtain ⟨vs, h1, z, rr⟩ := w'.obs n _ e1
        exact ⟨g'.lm n, rfl, ⟨vs, SqL.of h1⟩, h g' H' _ ex (src_loc hn) w'⟩
      · cases hs
    | p q =>
      cases q with
      | tup xs =>
        cases hs
        refine .inr (.inl ⟨g, env, st, re, w, ?_⟩)
        rw [e]
        intro g' H' v ex rv w'
        have rv' : RepP (cfgOf X ca) g'.F H' (.tup xs) v := rv
        rw [RepP] at rv'
        obtain ⟨a, vs, rfl, t, z, rs⟩ := rv'
        exact ⟨a, rfl, ⟨vs, t.sq⟩, h g' H' _ ex (src_tup t rs z) w'⟩
      | lst xs =>
        cases hs
        refine .inl ⟨g, env, st, re, w, ?_⟩
        rw [e]
        intro g' H' v ex rv w'
        have rv' : RepP (cfgOf X ca) g'.F H' (.lst xs) v := rv
        rw [RepP] at rv'
        obtain ⟨a, vs, rfl, ⟨f, t⟩, z, rs⟩ := rv'
        exact ⟨a, rfl, ⟨vs, SqL.of t⟩, h g' H' _ ex (src_lst f t rs z) w'⟩
      | str xs =>
        cases hs
        refine .inr (.inr (.inl ⟨g, env, st, re, w, ?_⟩))
        rw [e]
        intro g' H' v ex rv w'
        have rv' : RepP (cfgOf X ca) g'.F H' (.str xs) v := rv
        rw [RepP] at rv'
        exact ⟨xs, rv'.1, h g' H' _ ex (src_str rv'.2) w'⟩
      | dct kvs =>
        cases hs
        refine .inr (.inr (.inr ⟨g, env, st, re, w, ?_⟩))
        rw [e]
        intro g' H' v ex rv w'
        have rv' : RepP (cfgOf X ca) g'.F H' (.dct kvs) v := rv
        rw [RepP] at rv'
        obtain ⟨a, es, rfl, ⟨f, da⟩, rk⟩ := rv'
        refine ⟨a, es, g'.F, rfl, f, da, rk.keys, fun H2 px od lk => ?_⟩
        have x2 : Ext g' s.length H' ⟨g'.lm, g'.F⟩ s.length H2 := px.ext
        exact h ⟨g'.lm, g'.F⟩ H2 _ (ex.of w' rfl x2) (src_dk (g := ⟨g'.lm, g'.F⟩) f lk (RepKs.mono px.mono _ _ rk)) (w'.ext px)
      | _ => cases hs
theorem pa_one (hs : isStar u = false) (hu : PE X u (TDx X ca W cf x)) : PA X [u] (tCons (TDx X ca W cf x) tNil) := pa_cons hu pa_nil (star_cons hs)
theorem pa_two (hs : isStar u = false) (hs2 : isStar v = false) (hu : PE X u (TDx X ca W cf x)) (hv : PE X v (TDx X ca W cf y)) : PA X [u, v] (tCons (TDx X ca W cf x) (tCons (TDx X ca W cf y) tNil)) := pa_cons hu (pa_cons hv pa_nil (star_cons hs2)) (star_cons hs)
theorem it_rng1 (hg : Gl X "range") (hm : X.mg "range" = none) (hs : isStar u = false) (hu : PE X u (TDx X ca W cf x)) : PI X tg (.Call (.Name "range" p) [u] [] pos) (TIx X ca W cf (.rng1 x)) := by
  refine PI.imp (pi_range1 hg hm (pa_one hs hu) (star_cons hs)) fun σ H R h => ?_
  refine TX.bind (f := fun _ x s1 => (match x with
    | .p (.int j) => if -(2 ^ 62) ≤ j ∧ j ≤ sizeLine then .ok (.fix (rngL 0 j.toNat)) s1 else .fail
    | _ => .fail)) (h.unf fun env st => by rw [deni] <;> rfl) fun g1 env st1 a v H1 re w ra h => ?_
  split at h
  · rename_i j
    have ra' : RepP (cfgOf X ca) g1.F H1 (.int j) v := ra
    rw [RepP] at ra'
    subst ra'
    split at h
    · rename_i hj
      have z := sizeLine_eq
      exact ⟨j, rfl, hj.1, by omega, h g1 H1 _ Ext.refl (src_rng (by omega)) w⟩
    · exact h.elim
  · exact h.elim
theorem it_rng2 (hg : Gl X "range") (hm : X.mg "range" = none) (hs : isStar u = false) (hs2 : isStar v = false) (hu : PE X u (TDx X ca W cf x)) (hv : PE X v (TDx X ca W cf y)) : PI X tg (.Call (.Name "range" p) [u, v] [] pos) (TIx X ca W cf (.rng2 x y)) := by
  refine PI.imp (pi_range2 hg hm (pa_two hs hs2 hu hv) (by rw [star_cons hs, star_cons hs2]; rfl) (star_cons hs2)) fun σ H R h => ?_
  refine TX.bind2 (f := fun _ x y s2 => (match x, y with
    | .p (.int i), .p (.int j) => if -(2 ^ 62) ≤ i ∧ i < 2 ^ 62 ∧ -(2 ^ 62) ≤ j ∧ j < 2 ^ 62 ∧ j - i ≤ sizeLine then .ok (.fix (rngL i (j - i).toNat)) s2 else .fail
    | _, _ => .fail)) (h.unf fun env st => by rw [deni] <;> rfl) fun g1 env st1 a b v u H1 re w ra rb h => ?_
  split at h
  · rename_i i j
    have ra' : RepP (cfgOf X ca) g1.F H1 (.int i) v := ra
    have rb' : RepP (cfgOf X ca) g1.F H1 (.int j) u := rb
    rw [RepP] at ra' rb'
    subst ra' rb'
    split at h
    · rename_i hj
      exact ⟨i, j, rfl, ⟨hj.1, hj.2.1, hj.2.2.1, hj.2.2.2.1⟩, h g1 H1 _ Ext.refl (src_rng (by omega)) w⟩
    · exact h.elim
  · exact h.elim
theorem it_enum (hg : Gl X "enumerate") (hm : X.mg "enumerate" = none) (ht : isTupE tg = true) (hs : isStar u = false) (hu : PE X u (TDx X ca W cf x)) : PI X tg (.Call (.Name "enumerate" p) [u] [] pos) (TIx X ca W cf (.enum x)) := by
  cases tg <;> first | (cases ht; done) | skip
  refine PI.imp (pi_enum2 hg hm (pa_one hs hu) (star_cons hs)) fun σ H R h => ?_
  refine TX.bind (f := fun _ x s1 => (match x with
    | .p (.lst xs) => .ok (.fix (enumL 0 xs)) s1
    | .p (.tup xs) => .ok (.fix (enumL 0 xs)) s1
    | _ => .fail)) (h.unf fun env st => by rw [deni] <;> rfl) fun g1 env st1 a v H1 re w ra h => ?_
  split at h
  · rename_i xs
    have ra' : RepP (cfgOf X ca) g1.F H1 (.lst xs) v := ra
    rw [RepP] at ra'
    obtain ⟨a, vs, rfl, ⟨f, t⟩, z, rs⟩ := ra'
    exact ⟨a, rfl, .inl ⟨vs, SqL.of t, h g1 H1 _ Ext.refl (src_enum f t rs z) w⟩⟩
  · rename_i xs
    have ra' : RepP (cfgOf X ca) g1.F H1 (.tup xs) v := ra
    rw [RepP] at ra'
    obtain ⟨a, vs, rfl, t, z, rs⟩ := ra'
    exact ⟨a, rfl, .inr ⟨vs, t.sq, h g1 H1 _ Ext.refl (src_enumT t rs z) w⟩⟩
  · exact h.elim
theorem it_rev (hg : Gl X "reversed") (hm : X.mg "reversed" = none) (hs : isStar u = false) (hu : PE X u (TDx X ca W cf x)) : PI X tg (.Call (.Name "reversed" p) [u] [] pos) (TIx X ca W cf (.rev x)) := by
  refine PI.imp (RT.pi_revA hg hm hu (star_cons hs)) fun σ H R h => ?_
  refine TX.bind (f := fun _ x s1 => (match x with
    | .p (.lst xs) => .ok (.fix (xs.reverse.map .p)) s1
    | .p (.tup xs) => .ok (.fix (xs.reverse.map .p)) s1
    | _ => .fail)) (h.unf fun env st => by rw [deni] <;> rfl) fun g1 env st1 a v H1 re w ra h => ?_
  split at h
  · rename_i xs
    have ra' : RepP (cfgOf X ca) g1.F H1 (.lst xs) v := ra
    rw [RepP] at ra'
    obtain ⟨a, vs, rfl, ⟨f, t⟩, z, rs⟩ := ra'
    exact ⟨a, vs, rfl, .inl ⟨SqL.of t, h g1 H1 _ Ext.refl (src_revL f t rs z) w⟩⟩
  · rename_i xs
    have ra' : RepP (cfgOf X ca) g1.F H1 (.tup xs) v := ra
    rw [RepP] at ra'
    obtain ⟨a, vs, rfl, t, z, rs⟩ := ra'
    exact ⟨a, vs, rfl, .inr ⟨t.sq, h g1 H1 _ Ext.refl (src_revT t rs z) w⟩⟩
  · exact h.elim
end
end PyM
namespace PyM
open PySem PySem.Spec PyProof.Rows L2

/-! ### dict comprehensions, keys of any kind -/
/-- d[k] = v of a comprehension's block -/
theorem d_setA {X : Cx} {ca : Str → Option Addr} {pins : List (Addr × Obj)} {s : Shared} {σ : PSt} {H : Hp} {a : Addr} {es : List Ent} {F : Addr → Prop} {k : P} {x w : V} {u r : Value} {E : Value → Shared → Prop} {Q : Unit → Shared → Prop} (hu : X.A.units + 64 < cLine) (I : Inv X pins σ H s)
    (hd : DctW (cfgOf X ca) H a es) (ke : KeysE (cfgOf X ca) F H es) (hk : RepP (cfgOf X ca) F H k x) (ft : fitE es k) (z : es.length < sizeLine) (rx : RelV x u) (rw' : RelV w r)
    (h : ∀ o s', Inv X pins σ (upd H a o) s' → DctW (cfgOf X ca) (upd H a o) a (putE es k x w) → Q () s') : wpAny (model X.prog X.w) X.A (dictSet a u r) Q E s := by
  have z' := putE_len es k x w
  have nd' : ((putE es k x w).map (·.1)).Nodup := putE_nodup hd.2.1
  rcases ft with ⟨k1, k2⟩ | ⟨k1, k2⟩
  · have e := d_scW hd k2
    have ex := hk.sca k1
    subst ex
    refine d_dictSet I e (by simpa using z) rx rw' fun s' I' => h _ s' I' ⟨by omega, nd', .inl ⟨?_, ?_⟩⟩
    · exact putE_all k2 (fun e he _ => k2 e he) k1
    · rw [upd_same, put_k k2 k1]
  · obtain ⟨hm, us, r1, dd⟩ := d_tk I hd.r ke k2
    obtain ⟨ki, ex⟩ := RepP.key (c := cfgOf X ca) I.hok I.kIn k1 hk
    have rx' := rx
    rw [ex] at rx'
    cases rx'
    obtain ⟨us', r2, eq⟩ := xs_put k2 r1 k1 (kv := x) (v := w) rw'
    have hl : (xsOf es us).length = es.length := xs_len (by have := r1.length; simpa using this.symm)
    have rm : (nestedKind X.prog X.w).room X.A := by
      show X.A.units + 8 < cLine
      omega
    refine wpAny_dictSet_heap (hsz := by rw [hl]; omega) rm ki dd fun h' dd' hs => ?_
    rw [eq] at dd'
    obtain ⟨o, ok, da⟩ := dctAt_new (K := X.K) (ca := ca) (H := H) (putE_all k2 (fun e he _ => k2 e he) k1) nd' (by omega) hm r2 dd'
    have mu : Mut (H a) := by
      obtain ⟨_, _, ⟨_, e⟩ | ⟨_, _, e⟩⟩ := hd
      · rw [e]; trivial
      · rw [e]; trivial
    obtain ⟨q, _, _, hq, _⟩ := dd'
    exact h o _ (d_write I mu hs ⟨q, hq⟩ ok) da
/-- what is asked of a turn's pair -/
def PutD (c : Cfg) (D : Addr) (Nx : Hp → Prop) (y z : V) (H : Hp) : Prop := ∃ es F k, DctW c H D es ∧ KeysE c F H es ∧ RepP c F H k y ∧ fitE es k ∧ es.length < sizeLine ∧ ∀ ob, DctW c (upd H D ob) D (putE es k y z) → Nx (upd H D ob)
def tDcA (c : Cfg) (wi : TI) (g : TG) (tt : TT) (tk tv : TE) (vs : List Nat) : TE := fun σ H Q => wi σ H fun J H1 => ∀ D, H1 D = none → ∃ W : Nat → Nat → Hp → Prop, (∃ m, W 0 m (upd H1 D (.dK []))) ∧ ∀ i m H, W i m H →
  (J.stop i H ∧ Q (.ref D) H) ∨ (J.go i H ∧ ∃ Nx : Hp → Prop, (∀ H', Nx H' → ∃ m', m' < m ∧ W (i + 1) m' H') ∧ ∀ x H', J.yld i H x H' → g x (L2.wipe σ vs) H' fun σ2 H2 => L2.wipe σ2 vs = L2.wipe σ vs ∧ tt σ2 H2 fun b H3 =>
    if b = true then tk σ2 H3 fun y H4 => tv σ2 H4 fun z H5 => PutD c D Nx y z H5 else Nx H3)
section
variable {X : Cx} {ca : Str → Option Addr} {kx vx tg iter : Expr} {ifs : List Expr} {scope : Scope} {own : List (Str × Nat)} {pos pos' : Pos} {wi : TI} {g : TG} {tt : TT} {tk tv : TE} {use : Option (Value → Sem Unit)} {Qf : Value → Shared → Prop}
/-- what the parts of the block are -/
structure BlkD (X : Cx) (kx vx tg : Expr) (ifs : List Expr) (scope : Scope) (g : TG) (tt : TT) (tk tv : TE) : Prop where
  g : ∀ (s : Shared) (H : Hp) (C : Addr) (cl : List (Str × Addr)) (fp : List Addr), PG (X.blk s H scope (compEnvC scope cl C X.env) fp) tg g
  t : ∀ (s : Shared) (H : Hp) (C : Addr) (cl : List (Str × Addr)) (fp : List Addr), PTs (X.blk s H scope (compEnvC scope cl C X.env) fp) ifs tt
  k : ∀ (s : Shared) (H : Hp) (C : Addr) (cl : List (Str × Addr)) (fp : List Addr), PE (X.blk s H scope (compEnvC scope cl C X.env) fp) kx tk
  v : ∀ (s : Shared) (H : Hp) (C : Addr) (cl : List (Str × Addr)) (fp : List Addr), PE (X.blk s H scope (compEnvC scope cl C X.env) fp) vx tv
theorem dcA_core {pins : List (Addr × Obj)} {s : Shared} {σ : PSt} {H : Hp} {Q : VK} (hu : X.A.units + 64 < cLine) (hc : X.calm = true) (hN : X.N.Nodup) (I : Inv X pins σ H s) (hi : PI X tg iter wi) (ok : BlkOk X.N X.env.scope scope own) (B : BlkD X kx vx tg ifs scope g tt tk tv)
    (hs : ∀ x, foldedSetIterable iter X.env x = pure x) (h : tDcA (cfgOf X ca) wi g tt tk tv (own.map (·.2)) σ H Q)
    (hRR : ∀ D C s' m H', Inv X pins σ H' s' → Q (.ref D) H' → s'.heap.Ns C m → FpOk X pins H' C → compPost (model X.prog X.w) X.A X.xe use Qf (.ref D) C (.ok .next) s') :
    wpAny (model X.prog X.w) X.A (comprehension (.DictComp kx vx [⟨tg, iter, ifs, 0⟩] scope pos) scope X.env pos' newDict false (eval iter X.env) use) Qf X.xe s := by
  have clo : ∀ y ∈ scope.names, y.2 = .free → ∃ c, X.env.cells.lookup y.1 = some c := fun y hy e => I.ok.has _ (ok.free y hy e)
  refine wpAny_comprehension_free (use := use) rfl hs (closure_ok clo) ok.kind (fun y hy e => by rw [ok.uniq y hy, e]) (thn (hi.run pins s σ H _ I h) fun xv s1 hx => thn hx fun itv s2 h2 => ?_)
  obtain ⟨it, fp, tn, J, H2, rfl, I2, T, st2, f2, q⟩ := h2
  refine wpAny_newObj_type (newEnv_comp ?_)
  have hD2 : H2 s2.heap.objs.size = none := I2.hok.fresh (Nat.le_refl _)
  obtain ⟨W, ⟨m0, w0⟩, turn⟩ := q _ hD2
  -- the new dict stands at D
  generalize eD : s2.heap.objs.size = D at hD2 w0 turn
  generalize e3 : ({ s2 with heap := s2.heap.push { cls := .type "dict", data := .dict #[] } } : Shared) = s3
  have hp3 : s3.heap = s2.heap.push { cls := .type "dict", data := .dict #[] } := by rw [← e3]
  have I3 : Inv X pins σ (upd H2 D (.dK [])) s3 := by
    subst e3 eD
    exact I2.laid (t' := s2.toks) (fun b o e => Heap.get?_push_of_some _ e) (Nat.le_refl _) (dk_empty s2.heap I2.big)
  have f3 : ∀ b ∈ fp, FpOk X pins (upd H2 D (.dK [])) b ∧ b < s3.heap.objs.size := fun b hb => by
    obtain ⟨o, e, _⟩ := T.obj _ _ st2 b hb
    have lt := Heap.lt_size e
    refine ⟨⟨?_, (f2 b hb).2⟩, ?_⟩
    · rw [upd_ne (by rw [← eD]; exact Nat.ne_of_lt lt)]
      exact (f2 b hb).1
    · rw [hp3, Heap.size_push]
      exact Nat.lt_succ_of_lt lt
  have st3 : tn 0 s3.heap := T.keep _ _ _ st2 fun b _ o e => by rw [hp3]; exact Heap.get?_push_of_some _ e
  have I4 := block_start I3 ok hN f3
  generalize ecl : cellsFrom (s3.heap.objs.size + 1) scope.names (cloFrom X.env.cells scope.names []) = cl at I4
  have pg := B.g s3 (upd H2 D (.dK [])) s3.heap.objs.size cl fp
  have pt := B.t s3 (upd H2 D (.dK [])) s3.heap.objs.size cl fp
  have pk := B.k s3 (upd H2 D (.dK [])) s3.heap.objs.size cl fp
  have pv := B.v s3 (upd H2 D (.dK [])) s3.heap.objs.size cl fp
  have nf : ∀ b ∈ fp, (upd H2 D (.dK [])) b = none := fun b hb => (f3 b hb).1.1
  show codeAny _ _ (.compStart (.DictComp kx vx [⟨tg, iter, ifs, 0⟩] scope pos) 0 (.ref it) (.ref D) (compEnvC scope cl s3.heap.objs.size X.env))
    (compPost (model X.prog X.w) X.A X.xe use Qf (.ref D) s3.heap.objs.size) { s3 with heap := pushCells (s3.heap.push { cls := .type "dict", data := .dict #[] }) scope.names }
  generalize ece : compEnvC scope cl s3.heap.objs.size X.env = ce at I4 pg pt pk pv ⊢
  have lce : ce.locals = s3.heap.objs.size := by subst ece; rfl
  generalize eH : upd H2 D (.dK []) = H3 at I3 I4 pg pt pk pv w0 nf f3
  generalize e4 : ({ s3 with heap := pushCells (s3.heap.push { cls := .type "dict", data := .dict #[] }) scope.names } : Shared) = s4 at I4 ⊢
  have st4 : tn 0 s4.heap := T.keep _ _ _ st3 fun b _ o e => by rw [← e4]; exact pushCells_keeps _ _ _ _ (Heap.get?_push_of_some _ e)
  have fpk : ∀ {σ' : PSt} {H' : Hp} {s' : Shared}, Inv (X.blk s3 H3 scope ce fp) [] σ' H' s' → (∀ b ∈ fp, H' b = none) → ∀ b ∈ fp, FpOk (X.blk s3 H3 scope ce fp) [] H' b := fun {σ' H' s'} I' hn b hb =>
    ⟨hn b hb, (I'.ok.exf b hb).1, I'.ok.exfs b hb, .inl hb, fun x c e => (I'.ok.exf b hb).2 x c e, fun p hp => absurd (show p ∈ ([] : List (Addr × Obj)) ++ [] from hp) (by simp)⟩
  have loop : codeAny (model X.prog X.w) X.A (.compLoop (.DictComp kx vx [⟨tg, iter, ifs, 0⟩] scope pos) 0 (.ref it) (.ref D) ce) (compPost (model X.prog X.w) X.A X.xe use Qf (.ref D) s3.heap.objs.size) s4 := by
    refine compLoop_anyD (fun n s' => ∃ i H', Inv (X.blk s3 H3 scope ce fp) [] (L2.wipe σ (own.map (·.2))) H' s' ∧ tn i s'.heap ∧ (∀ b ∈ fp, H' b = none) ∧ W i n H') ?_ m0 ⟨0, H3, I4, st4, nf, w0⟩
    rintro n s5 ⟨i, H5, I5, st5, n5, w5⟩
    rcases turn i n H5 w5 with ⟨stop, qq⟩ | ⟨go, Nx, hNx, step⟩
    · refine thnF (T.done (X.blk s3 H3 scope ce fp) rfl rfl rfl hc i [] s5 _ H5 (fun _ _ => False) I5 (fpk I5 n5) st5 stop) fun r s6 ⟨hr, I6⟩ => ?_
      subst hr
      have I7 : Inv X pins σ H5 s6 := I3.call' (ch := fp) I6.os I6.base I6.hok I6.bare fun b hb => ⟨(f3 b hb).1.2.2.2.1, (f3 b hb).1.2.1, (f3 b hb).1.2.2.2.2.1, (f3 b hb).1.2.2.2.2.2⟩
      have nC : H5 s3.heap.objs.size = none := by
        rw [← lce]
        exact I6.free
      obtain ⟨m, hn, _⟩ := I6.loc
      have hn : s6.heap.Ns ce.locals m := hn
      rw [lce] at hn
      exact hRR D s3.heap.objs.size s6 m H5 I7 qq hn (I3.fpOk (Nat.le_refl _) nC)
    · refine thnF (T.item (X.blk s3 H3 scope ce fp) rfl rfl rfl hc i [] s5 _ H5 (fun _ _ => False) I5 (fpk I5 n5) st5 go) fun r s6 ⟨u, hr, h6⟩ => ?_
      subst hr
      refine thnF h6 fun _ s7 ⟨x, H7, I7, r7, y7, st7, n7⟩ => ?_
      refine thnF (pg.run _ s7 _ H7 x u _ (I7.pinned (fpk I7 n7) (T.obj _ _ st7)) r7 (step x H7 y7)) fun _ s8 ⟨σ8, H8, I8, hw8, q8⟩ => ?_
      refine thnF (pt.run _ s8 σ8 H8 _ I8 q8) fun b s9 ⟨H9, I9, q9⟩ => ?_
      have fin : ∀ {s' : Shared} {H' : Hp}, Inv (X.blk s3 H3 scope ce fp) ([] ++ pinsAt fp s7.heap) σ8 H' s' → Nx H' → ∃ m, m < n ∧ ∃ i H', Inv (X.blk s3 H3 scope ce fp) [] (L2.wipe σ (own.map (·.2))) H' s' ∧ tn i s'.heap ∧ (∀ b ∈ fp, H' b = none) ∧ W i m H' := fun {s' H'} I' nx => by
        obtain ⟨m', hm, w'⟩ := hNx H' nx
        have pin' : ∀ b ∈ fp, ∀ o, s7.heap.get? b = some o → s'.heap.get? b = some o ∧ H' b = none := fun b hb o e =>
          let z := I'.pin (b, o) (List.mem_append_right _ (List.mem_append_right _ (mem_pinsAt hb e)))
          ⟨z.1, z.2.1⟩
        have hl : (L2.wipe σ (own.map (·.2))).length = σ8.length := by rw [← hw8, wipe_length]
        refine ⟨m', hm, i + 1, H', (I'.unpinned (pins := [])).weak hl (fun j v e => ?_), T.keep _ _ _ st7 fun b hb o e => (pin' b hb o e).1, fun b hb => ?_, w'⟩
        · rw [← hw8] at e
          exact (wipe_some e).1
        · obtain ⟨o, e, _⟩ := T.obj _ _ st7 b hb
          exact (pin' b hb o e).2
      cases b with
      | false => exact fin I9 q9
      | true =>
        refine thnF (pk.run _ s9 σ8 H9 _ I9 q9) fun z s10 ⟨yk, H10, I10, r10, q10⟩ => ?_
        refine thnF (pv.run _ s10 σ8 H10 _ I10 q10) fun z2 s11 ⟨yv, H11, I11, r11, es, F, k, hd, ke, hk, ft, hz, nx⟩ => ?_
        exact d_setA (X := X.blk s3 H3 scope ce fp) (ca := ca) hu I11 hd ke hk ft hz r10 r11 fun ob s12 I12 d12 => fin I12 (nx ob d12)
  exact codeAny_compStart_dict loop (T.self X.A 0 _ _ _ st4 loop)
theorem pe_dcA (hu : X.A.units + 64 < cLine) (hc : X.calm = true) (hN : X.N.Nodup) (hi : PI X tg iter wi) (ok : BlkOk X.N X.env.scope scope own) (B : BlkD X kx vx tg ifs scope g tt tk tv) (hs : ∀ x, foldedSetIterable iter X.env x = pure x) :
    PE X (.DictComp kx vx [⟨tg, iter, ifs, 0⟩] scope pos) (tDcA (cfgOf X ca) wi g tt tk tv (own.map (·.2))) := by
  refine ⟨fun pins s σ H Q I h => ?_⟩
  rw [arm_eval_DictComp]
  refine dcA_core hu hc hN I hi ok B hs h fun D C s' m H' I' q hn f => ⟨m, hn, fun h'' sb => ?_⟩
  obtain ⟨f0, f1, f2, f3, f4, f5⟩ := f
  exact ⟨.ref D, H', I'.turned (t' := s'.toks) (fun b o hb e => (sb.2 b hb).trans e) f0 f1 f3 f4 f5, rfl, q⟩
/-- name = {..} on one line, the name a local -/
theorem ps_setDcA {i : Nat} {y : Str} {py spos : Pos} (hu : X.A.units + 64 < cLine) (hc : X.calm = true) (hN : X.N.Nodup) (hy : X.N[i]? = some y) (hyl : X.env.scope.names.lookup y = some .local)
    (hsw : swapsWith (.DictComp kx vx [⟨tg, iter, ifs, 0⟩] scope pos) (some (.Name y py)) spos.line X.env = pure true) (hi : PI X tg iter wi) (ok : BlkOk X.N X.env.scope scope own) (B : BlkD X kx vx tg ifs scope g tt tk tv) (hs : ∀ x, foldedSetIterable iter X.env x = pure x) :
    PS X (.Assign [.Name y py] (.DictComp kx vx [⟨tg, iter, ifs, 0⟩] scope pos) spos) (tAsg (tDcA (cfgOf X ca) wi g tt tk tv (own.map (·.2))) (gName i)) := by
  refine ⟨fun pins s σ H D I h => ?_⟩
  rw [exec_Assign_Name_used _ _ _ _ hsw]
  refine wpAny_bind (wpAny_standAt (wpAny_bind ?_))
  show wpAny _ X.A (do let _ ← comprehension (.DictComp kx vx [⟨tg, iter, ifs, 0⟩] scope pos) scope X.env (firstIterPos [⟨tg, iter, ifs, 0⟩] pos) newDict false (eval iter X.env) (some (assign (.Name y py) X.env))) _ _ s
  have h : tDcA (cfgOf X ca) wi g tt tk tv (own.map (·.2)) σ H (fun x H1 => gName i x σ H1 D.nx) := h
  refine wpAny_bind (thn (dcA_core (Qf := fun _ s' => SP X pins D .next s') hu hc hN I hi ok B hs h fun L C s' m H' I' q hn f => ?_) fun _ s' hq => wpAny_pure (wpAny_pure hq))
  show wpAny _ _ (assign (.Name y py) X.env (.ref L)) _ _ _
  refine wpAny_assign_Name (store_ok2 (v := V.ref L) I' hN hy (.inl hyl) rfl (fun s2 I2 ⟨a, sb, ha⟩ => ?_) (.inr hyl))
  obtain ⟨f0, f1, f2, f3, f4, f5⟩ := f
  have haC : C ≠ a := by
    rcases ha with z | z
    · rw [z]; exact f1
    · exact fun e => f4 y a z e.symm
  exact ⟨m, hn.sameBut sb haC, fun h3 sb3 => ⟨_, H', I2.turned (t' := s2.toks) (fun b o hb e => (sb3.2 b hb).trans e) f0 f1 f3 f4 f5, q⟩⟩
end
end PyM
namespace PyM
open PySem PySem.Spec PyProof.Rows L2

/-! ### an object ahead of its being told -/
section
variable {c : Cfg} {g g5 : Gh} {st s5 : Sto} {N N5 : Nat} {H H' H5 : Hp} {D : Addr} {o : HO}
theorem del_n {H : Hp} {a b : Addr} (h : b ≠ a) : del H a b = H b := if_neg h
theorem del_s {H : Hp} {a : Addr} : del H a a = none := if_pos rfl
theorem upd_delS (h : H D = some o) : upd (del H D) D o = H := by
  funext b
  by_cases e : b = D
  · subst e; rw [upd_same, h]
  · rw [upd_ne e, del_n e]
theorem upd_delU : upd (del H D) D o = upd H D o := by
  funext b
  by_cases e : b = D
  · subst e; rw [upd_same, upd_same]
  · rw [upd_ne e, upd_ne e, del_n e]
theorem RepD.same (m : Mono g.F g.F H H') {d : PyM.D} {v : V} (h : RepD c g N H d v) : RepD c g N H' d v := by
  cases d with
  | p x => exact RepP.mono m _ _ h
  | loc n => exact h
theorem RepDs.same (m : Mono g.F g.F H H') {d : List PyM.D} {v : List V} (h : RepDs c g N H d v) : RepDs c g N H' d v := by
  induction h with
  | nil => exact .nil
  | cons h _ ih => exact .cons (h.same m) ih
theorem RepDk.same (m : Mono g.F g.F H H') {d : List (P × PyM.D)} {v : List Ent} (h : RepDk c g N H d v) : RepDk c g N H' d v := by
  induction h with
  | nil => exact .nil
  | cons h0 h _ ih => exact .cons (RepP.mono m _ _ h0) (h.same m) ih
theorem RepDf.same (m : Mono g.F g.F H H') {d : List (Str × PyM.D)} {v : List (Str × V)} (h : RepDf c g N H d v) : RepDf c g N H' d v := by
  induction h with
  | nil => exact .nil
  | cons h _ ih => exact .cons (h.same m) ih
theorem RepE.same (m : Mono g.F g.F H H') {env : Env} {σ : PSt} (h : RepE c g N H env σ) : RepE c g N H' env σ := ⟨h.1, fun i d e => let ⟨v, a, b⟩ := h.2 i d e; ⟨v, a, b.same m⟩⟩
theorem RepO.same (m : Mono g.F g.F H H') {a : Addr} (ka : ∀ o, H a = some o → H' a = some o) {ob : Ob} (h : RepO c g N H a ob) : RepO c g N H' a ob := by
  cases ob with
  | lst ds => obtain ⟨vs, h1, z, r⟩ := h; exact ⟨vs, ka _ h1, z, r.same m⟩
  | dct kvs =>
    obtain ⟨es, ⟨z, nd, h1⟩, r⟩ := h
    refine ⟨es, ⟨z, nd, ?_⟩, r.same m⟩
    rcases h1 with ⟨q, e⟩ | ⟨ne, q, e⟩
    · exact .inl ⟨q, ka _ e⟩
    · exact .inr ⟨ne, q, ka _ e⟩
  | ins C fs => obtain ⟨dx, vs, ⟨A, h0, h1⟩, r⟩ := h; exact ⟨dx, vs, ⟨A, h0, ka _ h1⟩, r.same m⟩
  | dead => trivial
theorem delM (hF : ¬ g.F D) : Mono g.F g.F H (del H D) := ⟨fun _ h => h, fun a o f e => by
  rw [del_n (fun z => hF (by rw [← z]; exact f))]
  exact .inl e⟩
theorem Wd.del (w : Wd c g st H) (hF : ¬ g.F D) (hl : ∀ n, n < st.length → g.lm n ≠ D) : Wd c g st (del H D) where
  obs := fun n o e => (w.obs n o e).same (delM hF) fun u q => by
    rw [del_n (hl n (List.getElem?_eq_some_iff.mp e).1)]
    exact q
  inj := w.inj
  off := w.off
  has := fun n hn => by
    obtain ⟨u, q⟩ := w.has n hn
    exact ⟨u, by rw [del_n (hl n hn)]; exact q⟩
  hasF := fun a f => by
    obtain ⟨u, q⟩ := w.hasF a f
    exact ⟨u, by rw [del_n (fun z => hF (by rw [← z]; exact f))]; exact q⟩
theorem PExt.put {F : Addr → Prop} (h : H D = none) : PExt F H F (upd H D o) := ⟨fun b u e => .inl (by rw [upd_ne (ne_of_none e h)]; exact e), fun _ h => h, fun _ h => .inl h, fun hf a fa => by
  obtain ⟨u, e⟩ := hf a fa
  exact ⟨u, by rw [upd_ne (ne_of_none e h)]; exact e⟩⟩
/-- nobody has told of D -/
theorem hid_F (w : Wd c g st H) (hD : H D = none) (x : Ext g st.length (upd H D o) g5 N5 H5) : ¬ g5.F D := fun f => by
  rcases x.back D f with q | q | ⟨n, hn, e⟩
  · obtain ⟨u, z⟩ := w.hasF D q
    rw [hD] at z
    cases z
  · rw [upd_same] at q
    cases q
  · exact w.lt_ne hD hn e
theorem hid_lm (w : Wd c g st H) (hD : H D = none) (x : Ext g st.length (upd H D o) g5 N5 H5) : ∀ n, n < N5 → g5.lm n ≠ D := fun n hn e => by
  by_cases q : n < st.length
  · rw [x.lm n q] at e
    exact w.lt_ne hD q e
  · have z := x.new n (Nat.le_of_not_lt q) hn
    rw [e, upd_same] at z
    cases z
theorem hid_at (w : Wd c g st H) (hD : H D = none) (x : Ext g st.length (upd H D o) g5 N5 H5) : H5 D = some o := (x.fr D o upd_same fun n hn e => w.lt_ne hD hn e).nf (hid_F w hD x)
theorem Ext.del (w : Wd c g st H) (hD : H D = none) (x : Ext g st.length (upd H D o) g5 N5 H5) : Ext g st.length H g5 N5 (del H5 D) where
  le := x.le
  lm := x.lm
  new := fun n a b => by
    have z := x.new n a b
    by_cases e : g5.lm n = D
    · rw [e]; exact hD
    · rw [upd_ne e] at z
      exact z
  sub := x.sub
  fr := fun a u e q => by
    have ne := ne_of_none e hD
    rw [del_n ne]
    exact x.fr a u (by rw [upd_ne ne]; exact e) q
  frF := fun a u e f => by
    have ne := ne_of_none e hD
    rw [del_n ne]
    exact x.frF a u (by rw [upd_ne ne]; exact e) f
  back := fun a h => by
    rcases x.back a h with q | q | q
    · exact .inl q
    · by_cases e : a = D
      · rw [e]; exact .inr (.inl hD)
      · rw [upd_ne e] at q
        exact .inr (.inl q)
    · exact .inr (.inr q)
end

/-! ### turns -/
section
variable {α A : Type}
/-- what an item does to what is gathered -/
def wkStep (step : D → Sto → Res (Option α)) (put : A → α → Option A) (rest : A → Sto → Res A) (d : D) (acc : A) (st : Sto) : Res A := match step d st with
  | .ok (some x) s => (match put acc x with
    | some a => rest a s
    | none => .fail)
  | .ok none s => rest acc s
  | _ => .fail
def wk (step : D → Sto → Res (Option α)) (put : A → α → Option A) : List D → A → Sto → Res A
  | [], acc, st => .ok acc st
  | d :: r, acc, st => wkStep step put (wk step put r) d acc st
def wkLoc (step : D → Sto → Res (Option α)) (put : A → α → Option A) (n : Nat) : Nat → Nat → A → Sto → Res A
  | 0, _, _, _ => .fail
  | f + 1, i, acc, st => match st[n]? with
    | some (.lst xs) => (match xs[i]? with
      | none => .ok acc st
      | some d => wkStep step put (wkLoc step put n f (i + 1)) d acc st)
    | _ => .fail
def putL (acc : List D) (x : D) : Option (List D) := if acc.length < sizeLine then some (acc ++ [x]) else none
def putD (acc : List (P × D)) (q : P × D) : Option (List (P × D)) := if kfit acc q.1 = true ∧ acc.length < sizeLine then some (dput acc q.1 q.2) else none
theorem wk_lc {step : D → Sto → Res (Option D)} : ∀ (xs acc : List D) (st : Sto), acc.length + xs.length ≤ sizeLine → lcFix step xs acc st = wk step putL xs acc st
  | [], acc, st, _ => rfl
  | d :: r, acc, st, h => by
    rw [List.length_cons] at h
    rw [lcFix, wk, wkStep]
    cases step d st with
    | ok o s =>
      cases o with
      | none => exact wk_lc r acc s (by omega)
      | some x =>
        have e : putL acc x = some (acc ++ [x]) := if_pos (by omega)
        simp only [e]
        exact wk_lc r _ s (by rw [List.length_append, List.length_singleton]; omega)
    | exc e s => rfl
    | fail => rfl
theorem dput_len {α : Type} (kvs : List (P × α)) (k : P) (v : α) : (dput kvs k v).length ≤ kvs.length + 1 := by
  unfold dput
  split
  · rw [List.length_map]; omega
  · rw [List.length_append, List.length_singleton]; exact Nat.le_refl _
theorem wk_dc {step : D → Sto → Res (Option (P × D))} : ∀ (xs : List D) (acc : List (P × D)) (st : Sto), acc.length + xs.length ≤ sizeLine → dcFix step xs acc st = wk step putD xs acc st
  | [], acc, st, _ => rfl
  | d :: r, acc, st, h => by
    rw [List.length_cons] at h
    rw [dcFix, wk, wkStep]
    cases step d st with
    | ok o s =>
      cases o with
      | none => exact wk_dc r acc s (by omega)
      | some x =>
        obtain ⟨k, v⟩ := x
        by_cases hk : kfit acc k = true
        · have e : putD acc (k, v) = some (dput acc k v) := if_pos ⟨hk, by omega⟩
          simp only [e, hk, if_true]
          exact wk_dc r _ s (by have := dput_len acc k v; omega)
        · have e : putD acc (k, v) = none := if_neg (fun z => hk z.1)
          simp only [e, hk, Bool.false_eq_true, if_false]
    | exc e s => rfl
    | fail => rfl
theorem wkLoc_lc {step : D → Sto → Res (Option D)} {n : Nat} : ∀ (f i : Nat) (acc : List D) (st : Sto), lcLoc step n f i acc st = wkLoc step putL n f i acc st
  | 0, i, acc, st => rfl
  | f + 1, i, acc, st => by
    rw [lcLoc, wkLoc]
    cases e1 : st[n]? with
    | none => rfl
    | some ob =>
      cases ob with
      | lst xs =>
        cases e2 : xs[i]? with
        | none => simp only [e2]
        | some d =>
          simp only [e2, wkStep]
          cases step d st with
          | ok o s =>
            cases o with
            | none => exact wkLoc_lc f (i + 1) acc s
            | some x =>
              by_cases hk : acc.length < sizeLine
              · have e : putL acc x = some (acc ++ [x]) := if_pos hk
                simp only [e, hk, if_true]
                exact wkLoc_lc f (i + 1) _ s
              · have e : putL acc x = none := if_neg hk
                simp only [e, hk, if_false]
          | exc e s => rfl
          | fail => rfl
      | _ => rfl
end
/-- a walk that gathers: at turn i, m turns at most to come -/
def Walk {α A : Type} (c : Cfg) (g1 : Gh) (N1 : Nat) (H1 : Hp) (J : L2.It) (step : D → Sto → Res (Option α)) (put : A → α → Option A) (rest : Nat → Nat → A → Sto → Res A) : Prop :=
  ∀ i m acc g st H, ExW g1 N1 H1 g st.length H → Wd c g st H → rest i m acc st ≠ .fail → (J.stop i H ∧ rest i m acc st = .ok acc st) ∨
    (J.go i H ∧ ∃ m' d, m' < m ∧ (∀ x H', J.yld i H x H' → ∃ F', PExt g.F H F' H' ∧ RepD c ⟨g.lm, F'⟩ st.length H' d x) ∧ rest i m acc st = wkStep step put (rest (i + 1) m') d acc st)
theorem walk_fix {α A : Type} {c : Cfg} {g1 : Gh} {N1 : Nat} {H1 : Hp} {J : L2.It} {step : D → Sto → Res (Option α)} {put : A → α → Option A} {xs : List D} (h : RepSrc c g1 N1 H1 (.fix xs) J) :
    Walk c g1 N1 H1 J step put fun i m acc st => if m = xs.length - i then wk step put (xs.drop i) acc st else .fail := by
  intro i m acc g st H x w nf
  dsimp only at nf ⊢
  obtain ⟨_, h⟩ := h
  have h := h g _ H x i
  by_cases hm : m = xs.length - i
  · rw [if_pos hm] at nf ⊢
    cases e : xs[i]? with
    | none =>
      rw [List.drop_eq_nil_of_le (List.getElem?_eq_none_iff.mp e)]
      exact .inl ⟨h.1 e, rfl⟩
    | some d =>
      obtain ⟨go, y⟩ := h.2 d e
      obtain ⟨hi, e2⟩ := List.getElem?_eq_some_iff.mp e
      refine .inr ⟨go, xs.length - (i + 1), d, by omega, y, ?_⟩
      rw [List.drop_eq_getElem_cons hi, wk, e2]
      congr 1
      funext a s
      rw [if_pos rfl]
  · rw [if_neg hm] at nf
    exact absurd rfl nf
theorem walk_loc {α A : Type} {c : Cfg} {g1 : Gh} {N1 : Nat} {H1 : Hp} {J : L2.It} {step : D → Sto → Res (Option α)} {put : A → α → Option A} {n : Nat} (h : RepSrc c g1 N1 H1 (.loc n) J) :
    Walk c g1 N1 H1 J step put fun i m acc st => wkLoc step put n m i acc st := by
  intro i m acc g st H x w nf
  dsimp only at nf ⊢
  obtain ⟨hn, h⟩ := h
  cases m with
  | zero => exact absurd rfl nf
  | succ m =>
    rw [wkLoc] at nf ⊢
    split at nf
    · rename_i ys e
      have h := h g st H x w ys e i
      cases q : ys[i]? with
      | none => exact .inl ⟨h.1 q, by simp [q]⟩
      | some d =>
        obtain ⟨go, y⟩ := h.2 d q
        exact .inr ⟨go, m, d, Nat.lt_succ_self m, y, by simp [q]⟩
    · exact absurd rfl nf

/-! ### a comprehension's loop -/
section
variable {α A β γ : Type}
/-- what stands at D -/
structure Gat (c : Cfg) (D : Addr) (put : A → α → Option A) (RepA : Gh → Nat → Hp → α → β → Prop) (RepC : Gh → Nat → Hp → A → γ → Prop) (AtD : Hp → γ → Prop) : Prop where
  atd : ∀ H H' v, H D = H' D → AtD H v → AtD H' v
  mono : ∀ g N H g' N' H' a v, Ext g N H g' N' H' → RepC g N H a v → RepC g' N' H' a v
  same : ∀ g N H a v, ¬ g.F D → RepA g N H a v → RepA g N (del H D) a v
/-- the state of a comprehension's loop -/
structure Inl (c : Cfg) (D : Addr) (RepC : Gh → Nat → Hp → A → γ → Prop) (AtD : Hp → γ → Prop) (rest : Nat → Nat → A → Sto → Res A) (fin : A → Sto → Res PyM.D) (E : EH) (Q : VK) (g1 : Gh) (N1 : Nat) (H1 : Hp) (env : Env) (σ : PSt) (i m : Nat) (Hh : Hp) (g : Gh) (st : Sto) (acc : A) (vs : γ) (H0 : Hp) (o : HO) : Prop where
  none : H0 D = none
  up : Hh = upd H0 D o
  at_ : AtD Hh vs
  re : RepE c g st.length H0 env σ
  wd : Wd c g st H0
  rc : RepC g st.length H0 acc vs
  ext : Ext g1 N1 H1 g st.length H0
  nx : EndR c g st H0 E (RepD c) ((rest i m acc st).bind fin) Q
variable {c : Cfg} {D : Addr} {put : A → α → Option A} {RepA : Gh → Nat → Hp → α → β → Prop} {RepC : Gh → Nat → Hp → A → γ → Prop} {AtD : Hp → γ → Prop} {rest : Nat → Nat → A → Sto → Res A} {fin : A → Sto → Res PyM.D} {E : EH} {Q : VK} {g1 : Gh} {N1 : Nat} {H1 : Hp} {env : Env} {σ : PSt} {i m : Nat} {Hh : Hp} {g : Gh} {st : Sto} {acc : A} {vs : γ} {H0 : Hp} {o : HO}
theorem Inl.px (I : Inl c D RepC AtD rest fin E Q g1 N1 H1 env σ i m Hh g st acc vs H0 o) : PExt g.F H0 g.F Hh := by
  rw [I.up]
  exact PExt.put I.none
theorem Inl.wh (I : Inl c D RepC AtD rest fin E Q g1 N1 H1 env σ i m Hh g st acc vs H0 o) : Wd c g st Hh := I.wd.ext I.px
theorem Inl.xh (I : Inl c D RepC AtD rest fin E Q g1 N1 H1 env σ i m Hh g st acc vs H0 o) : Ext g st.length H0 g st.length Hh := I.px.ext
/-- behind a turn that gathers nothing -/
theorem Inl.skip (G : Gat c D put RepA RepC AtD) (I : Inl c D RepC AtD rest fin E Q g1 N1 H1 env σ i m Hh g st acc vs H0 o) {g5 : Gh} {s5 : Sto} {H5 : Hp} (x : Ext g st.length Hh g5 s5.length H5) (w5 : Wd c g5 s5 H5) {m' : Nat}
    (h : EndR c g st H0 E (RepD c) ((rest (i + 1) m' acc s5).bind fin) Q) : Inl c D RepC AtD rest fin E Q g1 N1 H1 env σ (i + 1) m' H5 g5 s5 acc vs (del H5 D) o := by
  have x' := x
  rw [I.up] at x'
  have hF := hid_F I.wd I.none x'
  have hl := hid_lm I.wd I.none x'
  have ha := hid_at I.wd I.none x'
  have xd := Ext.del I.wd I.none x'
  have wd5 := w5.del hF hl
  refine ⟨del_s, (upd_delS ha).symm, G.atd _ _ _ ?_ I.at_, I.re.mono xd, wd5, G.mono _ _ _ _ _ _ _ _ xd I.rc, I.ext.of I.wd rfl xd, EndR.from xd wd5 h⟩
  rw [ha, I.up, upd_same]
/-- behind a turn that gathers -/
theorem Inl.add (G : Gat c D put RepA RepC AtD) (I : Inl c D RepC AtD rest fin E Q g1 N1 H1 env σ i m Hh g st acc vs H0 o) {g5 : Gh} {s5 : Sto} {H5 : Hp} (x : Ext g st.length Hh g5 s5.length H5) (w5 : Wd c g5 s5 H5) {m' : Nat} {acc' : A} {vs' : γ} {o' : HO}
    (hc : RepC g5 s5.length (del H5 D) acc vs → RepC g5 s5.length (del H5 D) acc' vs') (ha' : AtD (upd H5 D o') vs')
    (h : EndR c g st H0 E (RepD c) ((rest (i + 1) m' acc' s5).bind fin) Q) : Inl c D RepC AtD rest fin E Q g1 N1 H1 env σ (i + 1) m' (upd H5 D o') g5 s5 acc' vs' (del H5 D) o' := by
  have x' := x
  rw [I.up] at x'
  have hF := hid_F I.wd I.none x'
  have hl := hid_lm I.wd I.none x'
  have xd := Ext.del I.wd I.none x'
  have wd5 := w5.del hF hl
  exact ⟨del_s, upd_delU.symm, ha', I.re.mono xd, wd5, hc (G.mono _ _ _ _ _ _ _ _ xd I.rc), I.ext.of I.wd rfl xd, EndR.from xd wd5 h⟩
end
end PyM
namespace PyM
open PySem PySem.Spec PyProof.Rows L2

abbrev NoW : WX := fun _ _ _ _ => False
/-- a turn of a comprehension -/
def stepC {α : Type} (cf : CF) (tg : Tg) (own : List Nat) (cond : OEx) (item : Env → Sto → Res α) (env : Env) (d : D) (s : Sto) : Res (Option α) :=
  (denT cf tg d (wipe env own) s).bind fun e1 s2 => (denc cf cond e1 s2).bind fun b s3 => (match b with
    | true => (item e1 s3).bind fun x s4 => .ok (some x) s4
    | false => .ok none s3)
theorem step_at {α A : Type} {cf : CF} {tg : Tg} {own : List Nat} {cond : OEx} {item : Env → Sto → Res α} {env : Env} {put : A → α → Option A} {rest : A → Sto → Res A} {d : D} {acc : A} {st : Sto} (h : wkStep (stepC cf tg own cond item env) put rest d acc st ≠ .fail) :
    ∃ e1 s2 b s3, denT cf tg d (wipe env own) st = .ok e1 s2 ∧ denc cf cond e1 s2 = .ok b s3 ∧ ((b = false ∧ wkStep (stepC cf tg own cond item env) put rest d acc st = rest acc s3) ∨
      (b = true ∧ ∃ x s4 a, item e1 s3 = .ok x s4 ∧ put acc x = some a ∧ wkStep (stepC cf tg own cond item env) put rest d acc st = rest a s4)) := by
  unfold wkStep at h ⊢
  unfold stepC at h ⊢
  cases q1 : denT cf tg d (wipe env own) st with
  | fail => rw [q1] at h; exact absurd rfl h
  | exc e s => rw [q1] at h; exact absurd rfl h
  | ok e1 s2 =>
    rw [q1, Res.bind_ok] at h
    rw [Res.bind_ok]
    cases q2 : denc cf cond e1 s2 with
    | fail => rw [q2] at h; exact absurd rfl h
    | exc e s => rw [q2] at h; exact absurd rfl h
    | ok b s3 =>
      rw [q2, Res.bind_ok] at h
      rw [Res.bind_ok]
      cases b with
      | false => exact ⟨e1, s2, false, s3, rfl, q2, .inl ⟨rfl, rfl⟩⟩
      | true =>
        dsimp only at h ⊢
        cases q3 : item e1 s3 with
        | fail => rw [q3] at h; exact absurd rfl h
        | exc e s => rw [q3] at h; exact absurd rfl h
        | ok x s4 =>
          rw [q3, Res.bind_ok] at h
          rw [Res.bind_ok]
          dsimp only at h ⊢
          cases q4 : put acc x with
          | none => rw [q4] at h; exact absurd rfl h
          | some a => exact ⟨e1, s2, true, s3, rfl, q2, .inr ⟨rfl, x, s4, a, q3, q4, rfl⟩⟩
theorem wipe_len (env : Env) : ∀ vs : List Nat, (wipe env vs).length = env.length
  | [] => rfl
  | v :: vs => by unfold wipe; rw [List.length_set, wipe_len env vs]
theorem wipe_get {α : Type} {w : List (Option α) → List Nat → List (Option α)} (h0 : ∀ e, w e [] = e) (h1 : ∀ e v vs, w e (v :: vs) = (w e vs).set v none) (env : List (Option α)) : ∀ (vs : List Nat) (j : Nat), (w env vs)[j]? = if j ∈ vs then (env[j]?).map fun _ => none else env[j]?
  | [], j => by rw [h0, if_neg (by simp)]
  | v :: vs, j => by
    have hl : ∀ ws, (w env ws).length = env.length := fun ws => by
      induction ws with
      | nil => rw [h0]
      | cons a b ih => rw [h1, List.length_set, ih]
    rw [h1]
    by_cases hj : v = j
    · subst hj
      rw [if_pos (List.mem_cons_self ..)]
      by_cases hv : v < env.length
      · rw [List.getElem?_set_self (by rw [hl]; exact hv), List.getElem?_eq_getElem hv]
        rfl
      · rw [List.getElem?_eq_none (by rw [List.length_set, hl]; omega), List.getElem?_eq_none (by omega)]
        rfl
    · rw [List.getElem?_set_ne hj, wipe_get h0 h1 env vs j]
      have e : (j ∈ v :: vs) ↔ (j ∈ vs) := by
        rw [List.mem_cons]
        exact ⟨fun h => h.elim (fun z => absurd z.symm hj) id, .inr⟩
      simp only [e]
theorem wipe_env (env : Env) (vs : List Nat) (j : Nat) : (wipe env vs)[j]? = if j ∈ vs then (env[j]?).map fun _ => none else env[j]? := wipe_get (fun _ => rfl) (fun _ _ _ => rfl) env vs j
theorem wipe_st (σ : PSt) (vs : List Nat) (j : Nat) : (L2.wipe σ vs)[j]? = if j ∈ vs then (σ[j]?).map fun _ => none else σ[j]? := wipe_get (w := L2.wipe) (fun _ => rfl) (fun _ _ _ => rfl) σ vs j
theorem RepE.wipe {c : Cfg} {g : Gh} {N : Nat} {H : Hp} {env : Env} {σ : PSt} (h : RepE c g N H env σ) (vs : List Nat) : RepE c g N H (PyM.wipe env vs) (L2.wipe σ vs) := by
  refine ⟨by rw [wipe_len, wipe_length]; exact h.1, fun i d e => ?_⟩
  rw [wipe_env] at e
  rw [wipe_st]
  split at e
  · cases q : env[i]? with
    | none => rw [q] at e; cases e
    | some o => rw [q] at e; cases e
  · rename_i hi
    rw [if_neg hi]
    exact h.2 i d e
theorem Same.wipe {S vs : List Nat} {σ σ' : PSt} (h : Same S (L2.wipe σ vs) σ') (hs : ∀ i ∈ S, i ∈ vs) : L2.wipe σ' vs = L2.wipe σ vs := by
  apply List.ext_getElem?
  intro j
  rw [wipe_st]
  by_cases hj : j ∈ vs
  · rw [if_pos hj, wipe_st, if_pos hj]
    have hl : σ'.length = σ.length := by rw [h.1, wipe_length]
    by_cases hb : j < σ.length
    · rw [List.getElem?_eq_getElem (by omega), List.getElem?_eq_getElem hb]
      rfl
    · rw [List.getElem?_eq_none (by omega), List.getElem?_eq_none (by omega)]
  · rw [if_neg hj]
    exact h.2 j fun z => hj (hs j z)
section
variable {α A β γ : Type}
theorem c_loop {X : Cx} {ca : Str → Option Addr} {cf : CF} {J : L2.It} {tg : Tg} {own : List Nat} {cond : OEx} {item : Env → Sto → Res α} {put : A → α → Option A} {RepA : Gh → Nat → Hp → α → β → Prop} {RepC : Gh → Nat → Hp → A → γ → Prop} {AtD : Hp → γ → Prop}
    {rest : Nat → Nat → A → Sto → Res A} {fin : A → Sto → Res PyM.D} {E : EH} {Q : VK} {g1 : Gh} {s1 : Sto} {H1 Hw Hs : Hp} {env : Env} {σ : PSt} {D : Addr} {o0 : HO} {m0 : Nat} {acc0 : A} {vs0 : γ} {FIN : Hp → Prop} {TERM : PSt → Hp → (Hp → Prop) → Prop}
    (wk : Walk (cfgOf X ca) g1 s1.length Hw J (stepC cf tg own cond item env) put rest) (G : Gat (cfgOf X ca) D put RepA RepC AtD) (hS : ∀ i ∈ tgs tg, i ∈ own)
    (h0 : Inl (cfgOf X ca) D RepC AtD rest fin E Q g1 s1.length H1 env σ 0 m0 Hs g1 s1 acc0 vs0 H1 o0)
    (hw : ∀ i m Hh g st acc vs H0 o, Inl (cfgOf X ca) D RepC AtD rest fin E Q g1 s1.length H1 env σ i m Hh g st acc vs H0 o → ExW g1 s1.length Hw g st.length Hh)
    (hfin : ∀ i m Hh g st acc vs H0 o, Inl (cfgOf X ca) D RepC AtD rest fin E Q g1 s1.length H1 env σ i m Hh g st acc vs H0 o → EndR (cfgOf X ca) g st H0 E (RepD (cfgOf X ca)) (fin acc st) Q → FIN Hh)
    (hterm : ∀ (Nx : Hp → Prop) i m m' Hh g st acc vs H0 o g3 e1 s3 σ2 H3 x s4 a, Inl (cfgOf X ca) D RepC AtD rest fin E Q g1 s1.length H1 env σ i m Hh g st acc vs H0 o → Ext g st.length Hh g3 s3.length H3 → Wd (cfgOf X ca) g3 s3 H3 → RepE (cfgOf X ca) g3 s3.length H3 e1 σ2 →
      item e1 s3 = .ok x s4 → put acc x = some a → EndR (cfgOf X ca) g st H0 E (RepD (cfgOf X ca)) ((rest (i + 1) m' a s4).bind fin) Q →
      (∀ H', (∃ g st acc vs H0 o, Inl (cfgOf X ca) D RepC AtD rest fin E Q g1 s1.length H1 env σ (i + 1) m' H' g st acc vs H0 o) → Nx H') → TERM σ2 H3 Nx) :
    ∃ W : Nat → Nat → Hp → Prop, (∃ m, W 0 m Hs) ∧ ∀ i m Hh, W i m Hh → (J.stop i Hh ∧ FIN Hh) ∨ (J.go i Hh ∧ ∃ Nx : Hp → Prop, (∀ H', Nx H' → ∃ m', m' < m ∧ W (i + 1) m' H') ∧
      ∀ x H', J.yld i Hh x H' → TGM (cfgOf X ca) (tgs tg) (denT cf tg) x (L2.wipe σ own) H' fun σ2 H2 => L2.wipe σ2 own = L2.wipe σ own ∧ TB (cfgOf X ca) NoW (denc cf cond) σ2 H2 fun b H3 => if b = true then TERM σ2 H3 Nx else Nx H3) := by
  refine ⟨fun i m Hh => ∃ g st acc vs H0 o, Inl (cfgOf X ca) D RepC AtD rest fin E Q g1 s1.length H1 env σ i m Hh g st acc vs H0 o, ⟨m0, g1, s1, acc0, vs0, H1, o0, h0⟩, ?_⟩
  rintro i m Hh ⟨g, st, acc, vs, H0, o, I⟩
  have xh := hw _ _ _ _ _ _ _ _ _ I
  have nf : rest i m acc st ≠ .fail := fun e => by
    have h := I.nx
    rw [e] at h
    exact h
  rcases wk i m acc g st Hh xh I.wh nf with ⟨stop, e⟩ | ⟨go, m', d, hm, y, e⟩
  · refine .inl ⟨stop, ?_⟩
    have h := I.nx
    rw [e] at h
    exact hfin i m Hh g st acc vs H0 o I h
  · refine .inr ⟨go, fun H' => ∃ g st acc vs H0 o, Inl (cfgOf X ca) D RepC AtD rest fin E Q g1 s1.length H1 env σ (i + 1) m' H' g st acc vs H0 o, fun H' h => ⟨m', hm, h⟩, fun x H' hy => ?_⟩
    obtain ⟨F', px, rx⟩ := y x H' hy
    rw [e] at nf
    obtain ⟨e1, s2, b, s3, q1, q2, q3⟩ := step_at nf
    have x2 : Ext g st.length Hh ⟨g.lm, F'⟩ st.length H' := px.ext
    have w2 := I.wh.ext px
    refine ⟨⟨g.lm, F'⟩, wipe env own, st, d, ((I.re.mono I.xh).mono x2).wipe own, w2, rx, ?_⟩
    rw [q1]
    intro g3 H3 σ3 x3 rt w3
    refine ⟨rt.2.wipe hS, g3, e1, s2, rt.1, w3, ?_⟩
    rw [q2]
    intro g4 H4 b' x4 eb w4
    have eb : b = b' := eb
    subst eb
    have h := I.nx
    rw [e] at h
    have xt := ((x2.of w2 rfl x3).of w3 rfl x4)
    rcases q3 with ⟨rfl, q3⟩ | ⟨rfl, y, s4, a, q3, q4, q5⟩
    · rw [if_neg Bool.false_ne_true]
      rw [q3] at h
      exact ⟨_, _, _, _, _, _, I.skip G xt w4 h⟩
    · rw [if_pos rfl]
      rw [q5] at h
      exact hterm _ i m m' Hh g st acc vs H0 o g4 e1 s3 σ3 H4 y s4 a I xt w4 (rt.1.mono x4) q3 q4 h fun H' z => z
end
/-! ### lists -/
abbrev RepL (c : Cfg) (g : Gh) (N : Nat) (H : Hp) (a : List PyM.D) (v : List V) : Prop := RepDs c g N H a v ∧ v.length ≤ sizeLine
theorem gatL {c : Cfg} {D : Addr} : Gat c D putL (RepD c) (RepL c) fun H vs => H D = some (.lst vs) := ⟨fun H H' v e h => by rw [← e]; exact h, fun g N H g' N' H' a v x h => ⟨h.1.mono x, h.2⟩, fun g N H a v hF h => h.same (delM hF)⟩
section
variable {X : Cx} {W : WX} {ca : Str → Option Addr} {cf : CF} {x y : Ex} {own : List Nat} {tg : Tg} {it : It} {cond : OEx} {l : Bool}
theorem i_lc (hS : ∀ i ∈ tgs tg, i ∈ own) {σ : PSt} {H : Hp} {Q : VK} (h : TDx X ca W cf (.lc l x own tg it cond) σ H Q) :
    tLc (TIx X ca W cf it) (TGM (cfgOf X ca) (tgs tg) (denT cf tg)) (TB (cfgOf X ca) NoW (denc cf cond)) (TDx X ca NoW cf x) own σ H Q := by
  obtain ⟨g, env, st, re, w, h⟩ := h
  refine ⟨g, env, st, re, w, ?_⟩
  rw [den] at h
  refine h.bind.imp fun J H1 ⟨g1, s1, src, M⟩ => ?_
  intro D hD
  have re1 := re.mono M.ext
  have hm := M.nx
  have go : ∀ (rest : Nat → Nat → List PyM.D → Sto → Res (List PyM.D)) (m0 : Nat), Walk (cfgOf X ca) g1 s1.length H1 J (stepC cf tg own cond (den cf x) env) putL rest → EndR (cfgOf X ca) g1 s1 H1 (EW (cfgOf X ca) W σ) (RepD (cfgOf X ca)) ((rest 0 m0 [] s1).bind fun ds s5 => mkL l ds s5) Q →
      ∃ W : Nat → Nat → Hp → Prop, (∃ m, W 0 m (upd H1 D (.lst []))) ∧ ∀ i m Hh, W i m Hh → (J.stop i Hh ∧ Q (.ref D) Hh) ∨ (J.go i Hh ∧ ∃ Nx : Hp → Prop, (∀ H', Nx H' → ∃ m', m' < m ∧ W (i + 1) m' H') ∧
        ∀ z H', J.yld i Hh z H' → TGM (cfgOf X ca) (tgs tg) (denT cf tg) z (L2.wipe σ own) H' fun σ2 H2 => L2.wipe σ2 own = L2.wipe σ own ∧ TB (cfgOf X ca) NoW (denc cf cond) σ2 H2 fun b H3 => if b = true then TDx X ca NoW cf x σ2 H3 (fun y H4 => ∃ acc, H4 D = some (.lst acc) ∧ acc.length < sizeLine ∧ Nx (upd H4 D (.lst (acc ++ [y])))) else Nx H3) := fun rest m0 wk h0 =>
    c_loop (AtD := fun H vs => H D = some (.lst vs)) (acc0 := []) (vs0 := []) wk gatL hS ⟨hD, rfl, upd_same, re1, M.wd, ⟨.nil, Nat.zero_le _⟩, Ext.refl, h0⟩ (fun i m Hh g st acc vs H0 o I => (I.ext.of I.wd rfl I.xh).w) (fun i m Hh g st acc vs H0 o I h => by
      have e : o = .lst vs := by
        have z := I.at_
        have z : Hh D = some (.lst vs) := z
        rw [I.up, upd_same] at z
        exact Option.some.inj z
      subst e
      rw [I.up]
      exact mkL_end h I.wd I.rc.1 I.rc.2 D I.none) fun Nx i m m' Hh g st acc vs H0 o g3 e1 s3 σ2 H3 y s4 a I x3 w3 re3 q3 q4 h hN => by
      refine ⟨g3, e1, s3, re3, w3, ?_⟩
      rw [q3]
      intro g5 H5 v x5 rv w5
      have xt := x3.of w3 rfl x5
      have xt' := xt
      rw [I.up] at xt'
      have ha : H5 D = some (.lst vs) := by
        have z := hid_at I.wd I.none xt'
        have z2 := I.at_
        have z2 : Hh D = some (.lst vs) := z2
        rw [I.up, upd_same] at z2
        rw [z]
        exact z2
      unfold putL at q4
      split at q4
      · rename_i hz
        cases q4
        have l := I.rc.1.len
        refine ⟨vs, ha, by rw [l]; exact hz, hN _ ⟨_, _, _, _, _, _, I.add gatL xt w5 (vs' := vs ++ [v]) (fun r => ⟨r.1.app (.cons (rv.same (delM (hid_F I.wd I.none xt'))) .nil), by rw [List.length_append, List.length_singleton]; omega⟩) upd_same h⟩⟩
      · cases q4
  have es : (fun (d : PyM.D) (s : Sto) => (denT cf tg d (wipe env own) s).bind fun e1 s2 => (denc cf cond e1 s2).bind fun b s3 => (match b with
        | true => (den cf x e1 s3).bind fun x s4 => Res.ok (some x) s4
        | false => Res.ok none s3)) = stepC cf tg own cond (den cf x) env := rfl
  cases src with
  | fix xs =>
    refine go _ xs.length (walk_fix M.rp) ?_
    have e : lcSrc (stepC cf tg own cond (den cf x) env) (.fix xs) s1 = wk (stepC cf tg own cond (den cf x) env) putL xs [] s1 := wk_lc xs [] s1 (by rw [List.length_nil, Nat.zero_add]; exact M.rp.1)
    rw [if_pos (Nat.sub_zero _).symm, List.drop_zero, ← e]
    exact hm
  | loc n =>
    refine go _ FUEL (walk_loc M.rp) ?_
    have e : lcSrc (stepC cf tg own cond (den cf x) env) (.loc n) s1 = wkLoc (stepC cf tg own cond (den cf x) env) putL n FUEL 0 [] s1 := wkLoc_lc FUEL 0 [] s1
    rw [← e]
    exact hm

/-! ### lists of two fors -/
def putM (acc : List PyM.D) (zs : List PyM.D) : Option (List PyM.D) := if acc.length + zs.length ≤ sizeLine then some (acc ++ zs) else none
def putN (n : Nat) (acc : List PyM.D) (x : PyM.D) : Option (List PyM.D) := if n + acc.length < sizeLine then some (acc ++ [x]) else none
theorem wk_lcM {step : PyM.D → Sto → Res (Option (List PyM.D))} : ∀ (xs acc : List PyM.D) (st : Sto), lcFixM step xs acc st = wk step putM xs acc st
  | [], acc, st => rfl
  | d :: r, acc, st => by
    rw [lcFixM, wk, wkStep]
    cases step d st with
    | ok o s =>
      cases o with
      | none => exact wk_lcM r acc s
      | some zs =>
        by_cases hk : acc.length + zs.length ≤ sizeLine
        · have e : putM acc zs = some (acc ++ zs) := if_pos hk
          simp only [e, hk, if_true]
          exact wk_lcM r _ s
        · have e : putM acc zs = none := if_neg hk
          simp only [e, hk, if_false]
    | exc e s => rfl
    | fail => rfl
theorem wkLoc_lcM {step : PyM.D → Sto → Res (Option (List PyM.D))} {n : Nat} : ∀ (f i : Nat) (acc : List PyM.D) (st : Sto), lcLocM step n f i acc st = wkLoc step putM n f i acc st
  | 0, i, acc, st => rfl
  | f + 1, i, acc, st => by
    rw [lcLocM, wkLoc]
    cases e1 : st[n]? with
    | none => rfl
    | some ob =>
      cases ob with
      | lst xs =>
        cases e2 : xs[i]? with
        | none => simp only [e2]
        | some d =>
          simp only [e2, wkStep]
          cases step d st with
          | ok o s =>
            cases o with
            | none => exact wkLoc_lcM f (i + 1) acc s
            | some zs =>
              by_cases hk : acc.length + zs.length ≤ sizeLine
              · have e : putM acc zs = some (acc ++ zs) := if_pos hk
                simp only [e, hk, if_true]
                exact wkLoc_lcM f (i + 1) _ s
              · have e : putM acc zs = none := if_neg hk
                simp only [e, hk, if_false]
          | exc e s => rfl
          | fail => rfl
      | _ => rfl
theorem wk_lcB {step : PyM.D → Sto → Res (Option PyM.D)} {n : Nat} {zs : List PyM.D} {s' : Sto} (hz : n + zs.length ≤ sizeLine) : ∀ (xs acc : List PyM.D) (st : Sto), lcFix step xs acc st = .ok zs s' → acc.length ≤ zs.length ∧ wk step (putN n) xs acc st = .ok zs s'
  | [], acc, st, h => by cases h; exact ⟨Nat.le_refl _, rfl⟩
  | d :: r, acc, st, h => by
    rw [lcFix] at h
    rw [wk, wkStep]
    cases e : step d st with
    | ok o s =>
      rw [e] at h
      cases o with
      | none => exact wk_lcB hz r acc s h
      | some x =>
        obtain ⟨h1, h2⟩ := wk_lcB hz r (acc ++ [x]) s h
        rw [List.length_append, List.length_singleton] at h1
        have e : putN n acc x = some (acc ++ [x]) := if_pos (by omega)
        simp only [e]
        exact ⟨by omega, h2⟩
    | exc e' s => rw [e] at h; cases h
    | fail => rw [e] at h; cases h
theorem wkLoc_lcB {step : PyM.D → Sto → Res (Option PyM.D)} {n k : Nat} {zs : List PyM.D} {s' : Sto} (hz : n + zs.length ≤ sizeLine) : ∀ (f i : Nat) (acc : List PyM.D) (st : Sto), lcLoc step k f i acc st = .ok zs s' → acc.length ≤ zs.length ∧ wkLoc step (putN n) k f i acc st = .ok zs s'
  | 0, i, acc, st, h => by cases h
  | f + 1, i, acc, st, h => by
    rw [lcLoc] at h
    rw [wkLoc]
    cases e1 : st[k]? with
    | none => rw [e1] at h; cases h
    | some ob =>
      rw [e1] at h
      cases ob with
      | lst xs =>
        cases e2 : xs[i]? with
        | none => simp only [e2] at h ⊢; cases h; exact ⟨Nat.le_refl _, rfl⟩
        | some d =>
          simp only [e2, wkStep] at h ⊢
          cases e : step d st with
          | ok o s =>
            rw [e] at h
            cases o with
            | none => exact wkLoc_lcB hz f (i + 1) acc s h
            | some x =>
              simp only at h
              split at h
              · obtain ⟨h1, h2⟩ := wkLoc_lcB hz f (i + 1) (acc ++ [x]) s h
                rw [List.length_append, List.length_singleton] at h1
                have e : putN n acc x = some (acc ++ [x]) := if_pos (by omega)
                simp only [e]
                exact ⟨by omega, h2⟩
              · cases h
          | exc e' s => rw [e] at h; cases h
          | fail => rw [e] at h; cases h
      | _ => cases h
abbrev RepM (c : Cfg) (n : Nat) (g : Gh) (N : Nat) (H : Hp) (a : List PyM.D) (v : List V) : Prop := RepDs c g N H a v ∧ n + v.length ≤ sizeLine
theorem gatM {c : Cfg} {D : Addr} {n : Nat} {vs : List V} : Gat c D (putN n) (RepD c) (RepM c n) fun H ws => H D = some (.lst (vs ++ ws)) := ⟨fun H H' v e h => by rw [← e]; exact h, fun g N H g' N' H' a v x h => ⟨h.1.mono x, h.2⟩, fun g N H a v hF h => h.same (delM hF)⟩
theorem gatLM {c : Cfg} {D : Addr} : Gat c D putM (RepDs c) (RepL c) fun H vs => H D = some (.lst vs) := ⟨fun H H' v e h => by rw [← e]; exact h, fun g N H g' N' H' a v x h => ⟨h.1.mono x, h.2⟩, fun g N H a v hF h => h.same (delM hF)⟩
section
variable {X : Cx} {W : WX} {ca : Str → Option Addr} {cf : CF} {x y : Ex} {own own1 : List Nat} {tg tg1 : Tg} {it it1 : It} {cond cond1 : OEx} {l : Bool}
def itemM (cf : CF) (x : Ex) (own1 : List Nat) (tg1 : Tg) (it1 : It) (cond1 : OEx) (e1 : Env) (s3 : Sto) : Res (List PyM.D) := (deni cf it1 e1 s3).bind fun src1 s4 => lcSrc (stepC cf tg1 own1 cond1 (den cf x) e1) src1 s4
/-- the second clause's loop -/
theorem i_in (hS1 : ∀ i ∈ tgs tg1, i ∈ own1) {rest : Nat → Nat → List PyM.D → Sto → Res (List PyM.D)} {fin : List PyM.D → Sto → Res PyM.D} {E : EH} {Q : VK} {g1 : Gh} {N1 : Nat} {H1 : Hp} {env : Env} {σ : PSt} {D : Addr} {i m m' : Nat} {Hh : Hp} {g : Gh} {st : Sto} {acc : List PyM.D} {vs : List V} {H0 : Hp} {o : HO} {g3 : Gh} {e1 : Env} {s3 : Sto} {σ2 : PSt} {H3 : Hp} {zs a : List PyM.D} {s4 : Sto} {Nx : Hp → Prop}
    (I : Inl (cfgOf X ca) D (RepL (cfgOf X ca)) (fun H vs => H D = some (.lst vs)) rest fin E Q g1 N1 H1 env σ i m Hh g st acc vs H0 o) (x3 : Ext g st.length Hh g3 s3.length H3) (w3 : Wd (cfgOf X ca) g3 s3 H3) (re3 : RepE (cfgOf X ca) g3 s3.length H3 e1 σ2)
    (q3 : itemM cf x own1 tg1 it1 cond1 e1 s3 = .ok zs s4) (q4 : putM acc zs = some a) (h : EndR (cfgOf X ca) g st H0 E (RepD (cfgOf X ca)) ((rest (i + 1) m' a s4).bind fin) Q)
    (hN : ∀ H', (∃ g st acc vs H0 o, Inl (cfgOf X ca) D (RepL (cfgOf X ca)) (fun H vs => H D = some (.lst vs)) rest fin E Q g1 N1 H1 env σ (i + 1) m' H' g st acc vs H0 o) → Nx H') :
    TIx X ca NoW cf it1 σ2 H3 fun J1 H4 => ∃ W1 : Nat → Nat → Hp → Prop, (∃ m, W1 0 m H4) ∧ ∀ j k H, W1 j k H → (J1.stop j H ∧ Nx H) ∨ (J1.go j H ∧ ∃ Nx1 : Hp → Prop, (∀ H', Nx1 H' → ∃ k', k' < k ∧ W1 (j + 1) k' H') ∧
      ∀ z H', J1.yld j H z H' → TGM (cfgOf X ca) (tgs tg1) (denT cf tg1) z (L2.wipe σ2 own1) H' fun σ3 H5 => L2.wipe σ3 own1 = L2.wipe σ2 own1 ∧ TB (cfgOf X ca) NoW (denc cf cond1) σ3 H5 fun b H6 => if b = true then TDx X ca NoW cf x σ3 H6 (fun y H7 => ∃ acc, H7 D = some (.lst acc) ∧ acc.length < sizeLine ∧ Nx1 (upd H7 D (.lst (acc ++ [y])))) else Nx1 H6) := by
  unfold itemM at q3
  obtain ⟨src, s5, q5, q6⟩ := bind_ok q3
  refine ⟨g3, e1, s3, re3, w3, ?_⟩
  rw [q5]
  intro g4 H4 J1 x4 rs w4
  have xt := x3.of w3 rfl x4
  have xt' := xt
  rw [I.up] at xt'
  have hF := hid_F I.wd I.none xt'
  have hlm := hid_lm I.wd I.none xt'
  have xd := Ext.del I.wd I.none xt'
  have wd4 := w4.del hF hlm
  have eo : o = .lst vs := by
    have z := I.at_
    have z : Hh D = some (.lst vs) := z
    rw [I.up, upd_same] at z
    exact Option.some.inj z
  subst eo
  have ha : H4 D = some (.lst vs) := hid_at I.wd I.none xt'
  have la := I.rc.1.len
  unfold putM at q4
  split at q4
  case isFalse => cases q4
  rename_i hz
  cases q4
  have go : ∀ (rest1 : Nat → Nat → List PyM.D → Sto → Res (List PyM.D)) (k0 : Nat), Walk (cfgOf X ca) g4 s5.length H4 J1 (stepC cf tg1 own1 cond1 (den cf x) e1) (putN acc.length) rest1 → rest1 0 k0 [] s5 = .ok zs s4 →
      ∃ W1 : Nat → Nat → Hp → Prop, (∃ m, W1 0 m H4) ∧ ∀ j k H, W1 j k H → (J1.stop j H ∧ Nx H) ∨ (J1.go j H ∧ ∃ Nx1 : Hp → Prop, (∀ H', Nx1 H' → ∃ k', k' < k ∧ W1 (j + 1) k' H') ∧
      ∀ z H', J1.yld j H z H' → TGM (cfgOf X ca) (tgs tg1) (denT cf tg1) z (L2.wipe σ2 own1) H' fun σ3 H5 => L2.wipe σ3 own1 = L2.wipe σ2 own1 ∧ TB (cfgOf X ca) NoW (denc cf cond1) σ3 H5 fun b H6 => if b = true then TDx X ca NoW cf x σ3 H6 (fun y H7 => ∃ acc, H7 D = some (.lst acc) ∧ acc.length < sizeLine ∧ Nx1 (upd H7 D (.lst (acc ++ [y])))) else Nx1 H6) := fun rest1 k0 wk1 e1' => by
    refine c_loop (D := D) (AtD := fun H ws => H D = some (.lst (vs ++ ws))) (RepC := RepM (cfgOf X ca) acc.length) (RepA := RepD (cfgOf X ca)) (acc0 := []) (vs0 := []) (o0 := .lst vs) (m0 := k0) (H1 := del H4 D) (E := E) (Q := Q) (fin := fun zs s => match putM acc zs with
        | some a => (rest (i + 1) m' a s).bind fin
        | none => .fail) wk1 gatM hS1 ⟨del_s, (upd_delS ha).symm, by rw [List.append_nil]; exact ha, (re3.mono x4).same (delM hF), wd4, ⟨.nil, by rw [List.length_nil]; omega⟩, Ext.refl, ?_⟩ ?_ ?_ ?_
    · rw [e1', Res.bind_ok]
      have e : putM acc zs = some (acc ++ zs) := if_pos hz
      simp only [e]
      exact EndR.from xd wd4 h
    · intro j k H5 g5 s5' ac ws H05 o5 I5
      have x5 := I5.ext
      refine ⟨x5.le, x5.lm, x5.sub, fun b u e f => ?_⟩
      have ne : b ≠ D := fun z => hF (by rw [← z]; exact f)
      have z := x5.frF b u (by rw [del_n ne]; exact e) f
      rw [I5.up, upd_ne ne]
      exact z
    · intro j k H5 g5 s5' ac ws H05 o5 I5 h5
      apply hN
      have z : putM acc ac = some (acc ++ ac) := by
        cases q : putM acc ac with
        | none => simp only [q] at h5; exact h5.elim
        | some b =>
          unfold putM at q
          split at q
          · exact q.symm
          · cases q
      simp only [z] at h5
      have hq : acc.length + ac.length ≤ sizeLine := by
        unfold putM at z
        split at z
        · assumption
        · cases z
      have x5 := xd.of wd4 rfl I5.ext
      have lw := I5.rc.1.len
      refine ⟨g5, s5', acc ++ ac, vs ++ ws, H05, o5, I5.none, I5.up, I5.at_, I.re.mono x5, I5.wd, ⟨(I.rc.1.mono x5).app I5.rc.1, by rw [List.length_append]; omega⟩, I.ext.of I.wd rfl x5, h5⟩
    · intro Nx1 j k k' H5 g5 s5' ac ws H05 o5 g6 e2 s6 σ3 H6 y s7 b I5 x6 w6 re6 q7 q8 h5 hN1
      refine ⟨g6, e2, s6, re6, w6, ?_⟩
      rw [q7]
      intro g7 H7 v x7 rv w7
      have xt := x6.of w6 rfl x7
      have xt' := xt
      rw [I5.up] at xt'
      have ha : H7 D = some (.lst (vs ++ ws)) := by
        have z := hid_at I5.wd I5.none xt'
        have z2 := I5.at_
        have z2 : H5 D = some (.lst (vs ++ ws)) := z2
        rw [I5.up, upd_same] at z2
        rw [z]
        exact z2
      unfold putN at q8
      split at q8
      · rename_i hz
        cases q8
        have l := I5.rc.1.len
        refine ⟨vs ++ ws, ha, by rw [List.length_append]; omega, hN1 _ ⟨_, _, _, _, _, _, I5.add gatM xt w7 (vs' := ws ++ [v]) (o' := .lst (vs ++ ws ++ [v])) (fun r => ⟨r.1.app (.cons (rv.same (delM (hid_F I5.wd I5.none xt'))) .nil), by rw [List.length_append, List.length_singleton]; omega⟩) (by rw [upd_same, List.append_assoc]) h5⟩⟩
      · cases q8
  cases src with
  | fix xs =>
    refine go _ xs.length (walk_fix rs) ?_
    rw [if_pos (Nat.sub_zero _).symm, List.drop_zero]
    exact (wk_lcB hz xs [] s5 q6).2
  | loc n =>
    refine go _ FUEL (walk_loc rs) ?_
    exact (wkLoc_lcB hz FUEL 0 [] s5 q6).2
theorem i_lc2 (hS : ∀ i ∈ tgs tg, i ∈ own) (hS1 : ∀ i ∈ tgs tg1, i ∈ own1) {σ : PSt} {H : Hp} {Q : VK} (h : TDx X ca W cf (.lc2 l x own tg it cond own1 tg1 it1 cond1) σ H Q) :
    tLc2 (TIx X ca W cf it) (TGM (cfgOf X ca) (tgs tg) (denT cf tg)) (TB (cfgOf X ca) NoW (denc cf cond)) (TIx X ca NoW cf it1) (TGM (cfgOf X ca) (tgs tg1) (denT cf tg1)) (TB (cfgOf X ca) NoW (denc cf cond1)) (TDx X ca NoW cf x) own own1 σ H Q := by
  obtain ⟨g, env, st, re, w, h⟩ := h
  refine ⟨g, env, st, re, w, ?_⟩
  rw [den] at h
  refine h.bind.imp fun J H1 ⟨g1, s1, src, M⟩ => ?_
  intro D hD
  have re1 := re.mono M.ext
  have hm : EndR (cfgOf X ca) g1 s1 H1 (EW (cfgOf X ca) W σ) (RepD (cfgOf X ca)) ((lcM (stepC cf tg own cond (itemM cf x own1 tg1 it1 cond1) env) src s1).bind fun ds s5 => mkL l ds s5) Q := M.nx
  have go : ∀ (rest : Nat → Nat → List PyM.D → Sto → Res (List PyM.D)) (m0 : Nat), Walk (cfgOf X ca) g1 s1.length H1 J (stepC cf tg own cond (itemM cf x own1 tg1 it1 cond1) env) putM rest → EndR (cfgOf X ca) g1 s1 H1 (EW (cfgOf X ca) W σ) (RepD (cfgOf X ca)) ((rest 0 m0 [] s1).bind fun ds s5 => mkL l ds s5) Q → _ := fun rest m0 wk h0 =>
    c_loop (AtD := fun H vs => H D = some (.lst vs)) (RepC := RepL (cfgOf X ca)) (RepA := RepDs (cfgOf X ca)) (acc0 := []) (vs0 := []) (FIN := fun Hh => Q (.ref D) Hh) (Hs := upd H1 D (.lst [])) (fin := fun ds s5 => mkL l ds s5) (E := EW (cfgOf X ca) W σ) (Q := Q) (TERM := fun σ2 H3 Nx => TIx X ca NoW cf it1 σ2 H3 fun J1 H4 => ∃ W1 : Nat → Nat → Hp → Prop, (∃ m, W1 0 m H4) ∧ ∀ j k H, W1 j k H → (J1.stop j H ∧ Nx H) ∨ (J1.go j H ∧ ∃ Nx1 : Hp → Prop, (∀ H', Nx1 H' → ∃ k', k' < k ∧ W1 (j + 1) k' H') ∧
      ∀ z H', J1.yld j H z H' → TGM (cfgOf X ca) (tgs tg1) (denT cf tg1) z (L2.wipe σ2 own1) H' fun σ3 H5 => L2.wipe σ3 own1 = L2.wipe σ2 own1 ∧ TB (cfgOf X ca) NoW (denc cf cond1) σ3 H5 fun b H6 => if b = true then TDx X ca NoW cf x σ3 H6 (fun y H7 => ∃ acc, H7 D = some (.lst acc) ∧ acc.length < sizeLine ∧ Nx1 (upd H7 D (.lst (acc ++ [y])))) else Nx1 H6)) wk gatLM hS ⟨hD, rfl, upd_same, re1, M.wd, ⟨.nil, Nat.zero_le _⟩, Ext.refl, h0⟩ (fun i m Hh g st acc vs H0 o I => (I.ext.of I.wd rfl I.xh).w) (fun i m Hh g st acc vs H0 o I h => by
      have e : o = .lst vs := by
        have z := I.at_
        have z : Hh D = some (.lst vs) := z
        rw [I.up, upd_same] at z
        exact Option.some.inj z
      subst e
      rw [I.up]
      exact mkL_end h I.wd I.rc.1 I.rc.2 D I.none) fun Nx i m m' Hh g st acc vs H0 o g3 e1 s3 σ2 H3 y s4 a I x3 w3 re3 q3 q4 h hN => i_in hS1 I x3 w3 re3 q3 q4 h hN
  cases src with
  | fix xs =>
    refine go _ xs.length (walk_fix M.rp) ?_
    rw [if_pos (Nat.sub_zero _).symm, List.drop_zero, ← wk_lcM xs [] s1]
    exact hm
  | loc n =>
    refine go _ FUEL (walk_loc M.rp) ?_
    rw [← wkLoc_lcM FUEL 0 [] s1]
    exact hm
end

/-! ### dicts -/
abbrev RepQ (c : Cfg) (g : Gh) (N : Nat) (H : Hp) (a : P × PyM.D) (v : V × V) : Prop := RepP c g.F H a.1 v.1 ∧ RepD c g N H a.2 v.2
theorem gatD {c : Cfg} {D : Addr} : Gat c D putD (RepQ c) (RepDk c) fun H es => DctW c H D es := ⟨fun H H' v e h => by
  obtain ⟨z, nd, h⟩ := h
  exact ⟨z, nd, by rw [← e]; exact h⟩, fun g N H g' N' H' a v x h => h.mono x, fun g N H a v hF h => ⟨RepP.mono (delM hF) _ _ h.1, h.2.same (delM hF)⟩⟩
def itemD (cf : CF) (x y : Ex) (e1 : Env) (s3 : Sto) : Res (P × PyM.D) := (den cf x e1 s3).bind fun k s4 => (den cf y e1 s4).bind fun v s5 => (match k with
  | .p k => .ok (k, v) s5
  | _ => .fail)
theorem itemD_at {e1 : Env} {s3 s5 : Sto} {k : P} {v : PyM.D} (h : itemD cf x y e1 s3 = .ok (k, v) s5) : ∃ s4, den cf x e1 s3 = .ok (.p k) s4 ∧ den cf y e1 s4 = .ok v s5 := by
  unfold itemD at h
  obtain ⟨a, s4, h1, h⟩ := bind_ok h
  obtain ⟨b, s6, h2, h⟩ := bind_ok h
  cases a with
  | p q => cases h; exact ⟨s4, h1, h2⟩
  | loc n => cases h
theorem stepD_eq (env : Env) : (fun (d : PyM.D) (s : Sto) => (denT cf tg d (wipe env own) s).bind fun e1 s2 => (denc cf cond e1 s2).bind fun b s3 => (match b with
        | true => (den cf x e1 s3).bind fun k s4 => (den cf y e1 s4).bind fun x s5 => (match k with
          | .p k => Res.ok (some (k, x)) s5
          | _ => .fail)
        | false => .ok none s3)) = stepC cf tg own cond (itemD cf x y) env := by
  funext d s
  unfold stepC
  congr 1
  funext e1 s2
  congr 1
  funext b s3
  cases b with
  | false => rfl
  | true =>
    dsimp only
    unfold itemD
    rw [bindA]
    congr 1
    funext k s4
    rw [bindA]
    congr 1
    funext v s5
    cases k <;> rfl
theorem i_dc (hS : ∀ i ∈ tgs tg, i ∈ own) {σ : PSt} {H : Hp} {Q : VK} (h : TDx X ca W cf (.dc l x y own tg it cond) σ H Q) :
    tDcA (cfgOf X ca) (TIx X ca W cf it) (TGM (cfgOf X ca) (tgs tg) (denT cf tg)) (TB (cfgOf X ca) NoW (denc cf cond)) (TDx X ca NoW cf x) (TDx X ca NoW cf y) own σ H Q := by
  obtain ⟨g, env, st, re, w, h⟩ := h
  refine ⟨g, env, st, re, w, ?_⟩
  rw [den] at h
  refine h.bind.imp fun J H1 ⟨g1, s1, src, M⟩ => ?_
  intro D hD
  have re1 := re.mono M.ext
  have hm := M.nx
  cases src with
  | loc n => exact hm.elim
  | fix xs =>
    have hm : EndR (cfgOf X ca) g1 s1 H1 (EW (cfgOf X ca) W σ) (RepD (cfgOf X ca)) ((dcFix (stepC cf tg own cond (itemD cf x y) env) xs [] s1).bind fun kvs s5 => mkD l kvs s5) Q := by
      rw [← stepD_eq]
      exact hm
    rw [wk_dc xs [] s1 (by rw [List.length_nil, Nat.zero_add]; exact M.rp.1)] at hm
    refine c_loop (item := itemD cf x y) (fin := fun kvs s5 => mkD l kvs s5) (E := EW (cfgOf X ca) W σ) (Q := Q) (FIN := fun Hh => Q (.ref D) Hh) (Hs := upd H1 D (.dK [])) (H1 := H1) (AtD := fun H es => DctW (cfgOf X ca) H D es) (acc0 := []) (vs0 := []) (m0 := xs.length) (TERM := fun σ2 H3 Nx => TDx X ca NoW cf x σ2 H3 fun y' H4 => TDx X ca NoW cf y σ2 H4 fun z H5 => PutD (cfgOf X ca) D Nx y' z H5) (walk_fix M.rp) gatD hS ⟨hD, rfl, dctAt_nil, re1, M.wd, .nil, Ext.refl, ?_⟩ (fun i m Hh g st acc vs H0 o I => (I.ext.of I.wd rfl I.xh).w) (fun i m Hh g st acc vs H0 o I h => by
      have at_ := I.at_
      rw [I.up] at at_ ⊢
      exact mkD_end h I.wd I.rc D I.none at_) fun Nx i m m' Hh g st acc vs H0 o g3 e1 s3 σ2 H3 q s5 a I x3 w3 re3 q3 q4 h hN => ?_
    · rw [if_pos (Nat.sub_zero _).symm, List.drop_zero]
      exact hm
    · obtain ⟨k, v⟩ := q
      obtain ⟨s4, d1, d2⟩ := itemD_at q3
      refine ⟨g3, e1, s3, re3, w3, ?_⟩
      rw [d1]
      intro g4 H4 ky x4 rk w4
      refine ⟨g4, e1, s4, re3.mono x4, w4, ?_⟩
      rw [d2]
      intro g5 H5 vz x5 rv w5
      have xt := (x3.of w3 rfl x4).of w4 rfl x5
      have xt' := xt
      rw [I.up] at xt'
      have hF := hid_F I.wd I.none xt'
      have ha : H5 D = some o := hid_at I.wd I.none xt'
      have hat : DctW (cfgOf X ca) H5 D vs := gatD.atd Hh H5 vs (by rw [ha, I.up, upd_same]) I.at_
      have rk5 : RepP (cfgOf X ca) g5.F H5 k ky := RepP.mono x5.mono _ _ rk
      have r5 := (I.rc.mono I.xh).mono xt
      unfold putD at q4
      split at q4
      · rename_i hz
        cases q4
        refine ⟨vs, g5.F, k, hat, r5.keys, rk5, fit_of hz.1 r5.fst, by rw [r5.len]; exact hz.2, fun ob hob => hN _ ⟨_, _, _, _, _, _, I.add gatD xt w5 (o' := ob) (fun r => r.put (RepP.mono (delM hF) _ _ rk5) (rv.same (delM hF))) hob h⟩⟩
      · cases q4
end
section
variable {X : Cx} {W : WX} {ca : Str → Option Addr} {cf : CF}
/-! ### a display -/
def trsOf (X : Cx) (ca : Str → Option Addr) (W : WX) (cf : CF) : Exs → List (TE × TE)
  | .cons x (.cons y r) => (TDx X ca W cf x, TDx X ca W cf y) :: trsOf X ca W cf r
  | _ => []
def flatV : List (V × V) → List V
  | [] => []
  | p :: r => p.1 :: p.2 :: flatV r
/-- an even row -/
def Exs.even : Exs → Bool
  | .nil => true
  | .cons _ (.cons _ r) => r.even
  | .cons _ .nil => false
theorem tPairs_of : ∀ (as : Exs), as.even = true → ∀ {σ : PSt} {H : Hp} {Q : List V → Hp → Prop} {Q' : List (V × V) → Hp → Prop}, TAx X ca W cf as σ H Q → (∀ ps H2, ps.length * 2 = as.len → Q (flatV ps) H2 → Q' ps H2) → tPairs (trsOf X ca W cf as) σ H Q'
  | .nil, _, σ, H, Q, Q', h, k => k [] H rfl (a_nil h)
  | .cons x .nil, he, _, _, _, _, _, _ => by cases he
  | .cons x (.cons y r), he, σ, H, Q, Q', h, k => by
    have h1 := a_cons h
    obtain ⟨g, env, st, re, w, h1⟩ := h1
    refine ⟨g, env, st, re, w, h1.imp fun v H1 z => ?_⟩
    have z : TAx X ca W cf (.cons y r) σ H1 (fun xs H2 => Q (v :: xs) H2) := z
    have h2 := a_cons z
    obtain ⟨g, env, st, re, w, h2⟩ := h2
    refine ⟨g, env, st, re, w, h2.imp fun u H2 z2 => ?_⟩
    have z2 : TAx X ca W cf r σ H2 (fun xs H2 => Q (v :: u :: xs) H2) := z2
    exact tPairs_of r he z2 fun ps H3 hl q => k ((v, u) :: ps) H3 (by rw [List.length_cons]; unfold Exs.len; unfold Exs.len; omega) q
theorem dd_kvs : ∀ {n : Nat} {ps : List (V × V)} {c : Cfg} {g : Gh} {N : Nat} {H : Hp} {ds : List D} {acc kvs : List (P × D)} {es : List Ent}, ps.length = n → RepDs c g N H ds (flatV ps) → RepDk c g N H acc es → (∀ e ∈ es, e.1.sca = true) → (es.map (·.1)).Nodup → ddPut ds acc = some kvs →
    ∃ (l : List (Key × V)) (es' : List Ent), ps = l.map (fun kv => (kV kv.1, kv.2)) ∧ RepDk c g N H kvs es' ∧ (∀ e ∈ es', e.1.sca = true) ∧ (es'.map (·.1)).Nodup ∧ mergeK (es.map fK) l = es'.map fK ∧ es'.length ≤ es.length + n
  | 0, ps, c, g, N, H, ds, acc, kvs, es, hn, r, ra, hs, nd, h => by
    cases ps with
    | cons a b => cases hn
    | nil =>
      cases r
      cases h
      exact ⟨[], es, rfl, ra, hs, nd, rfl, Nat.le_refl _⟩
  | n + 1, ps, c, g, N, H, ds, acc, kvs, es, hn, r, ra, hs, nd, h => by
    cases ps with
    | nil => cases hn
    | cons a b =>
      obtain ⟨x, y⟩ := a
      cases r with
      | @cons d1 _ ds1 _ r1 t =>
        cases t with
        | @cons d2 _ ds2 _ r2 t =>
          cases d1 with
          | loc m => cases h
          | p k =>
            simp only [ddPut] at h
            split at h
            · rename_i hk
              have r1 : RepP c g.F H k x := r1
              have ex := r1.sca hk
              subst ex
              obtain ⟨l, es', e1, e2, e3, e4, e5, e6⟩ := dd_kvs (n := n) (ps := b) (by simpa using hn) t (ra.put r1 r2) (putE_all hs (fun e he _ => hs e he) hk) (putE_nodup nd) h
              have z := putE_len es k (kV k.kk) y
              have e6 : es'.length ≤ (putE es k (kV k.kk) y).length + n := e6
              refine ⟨(k.kk, y) :: l, es', by rw [e1]; rfl, e2, e3, e4, ?_, by have z : (putE es k (kV k.kk) y).length ≤ es.length + 1 := z; omega⟩
              rw [← e5, ← put_k hs hk (kV k.kk) y]
              rfl
            · cases h
theorem i_dd {l : Bool} {as : Exs} (hl : as.len ≤ 30) (he : as.even = true) {σ : PSt} {H : Hp} {Q : VK} (h : TDx X ca W cf (.dd l as) σ H Q) : tDisp (trsOf X ca W cf as) σ H Q := by
  intro p hp
  obtain ⟨g, env, st, re, w, h⟩ := h
  have px : PExt g.F H g.F (upd H p (.dK [])) := ⟨fun b u e => .inl (by rw [upd_ne (ne_of_none e hp)]; exact e), fun _ h => h, fun _ h => .inl h, fun hf a fa => by
      obtain ⟨o, e⟩ := hf a fa
      exact ⟨o, by rw [upd_ne (ne_of_none e hp)]; exact e⟩⟩
  have x1 : Ext g st.length H g st.length (upd H p (.dK [])) := px.ext
  have w1 := w.ext px
  have h' := EndR.from x1 w1 h
  rw [den] at h'
  have h1 : TAx X ca W cf as σ (upd H p (.dK [])) fun vs H2 => ∃ ds g2 st2, RepDs (cfgOf X ca) g2 st2.length (del H2 p) ds vs ∧ H2 p = some (.dK []) ∧ Wd (cfgOf X ca) g2 st2 (del H2 p) ∧ EndR (cfgOf X ca) g2 st2 (del H2 p) (EW (cfgOf X ca) W σ) (RepD (cfgOf X ca)) (match ddPut ds [] with
    | some kvs => mkD l kvs st2
    | none => .fail) Q := by
    refine TX.of (re.mono x1) w1 (h'.bind.imp fun vs H2 ⟨g2, st2, ds, M⟩ => ?_)
    have x2 := M.ext
    have hF := hid_F w hp x2
    have hlm := hid_lm w hp x2
    have ha := hid_at w hp x2
    have xd := Ext.del w hp x2
    have wd := M.wd.del hF hlm
    refine ⟨ds, g2, st2, M.rp.same (delM hF), ha, wd, ?_⟩
    rw [den, M.eq] at h
    exact EndR.from xd wd h
  refine tPairs_of as he h1 fun ps H2 hn ⟨ds, g2, st2, r, ha, wd, h⟩ => ⟨ha, ?_⟩
  split at h
  · rename_i kvs hk
    obtain ⟨kl, es', e1, e2, e3, e4, e5, e6⟩ := dd_kvs (acc := []) (es := []) rfl r .nil (fun _ z => nomatch z) List.nodup_nil hk
    refine ⟨kl, e1, ?_, ?_⟩
    · have : ps.length = kl.length := by rw [e1, List.length_map]
      omega
    · have z := mkD_end (o := .dK (es'.map fK)) h wd e2 p del_s ⟨by have := sizeLine_eq; simp at e6; omega, e4, .inl ⟨e3, upd_same⟩⟩
      rw [upd_delU] at z
      have e5 : mergeK [] kl = es'.map fK := e5
      rw [e5]
      exact z
  · exact h.elim
end
end PyM
namespace PyM
open PySem PySem.Spec PyProof.Rows L2

/-! ### statements by their meaning -/
def EndS (c : Cfg) (g : Gh) (st : Sto) (H : Hp) (W : WX) (r : SR) (D : Ends) : Prop := match r with
  | .nx env s => ∀ g' H' σ', Ext g st.length H g' s.length H' → RepE c g' s.length H' env σ' → Wd c g' s H' → D.nx σ' H'
  | .rt d s => ∀ g' H' v, Ext g st.length H g' s.length H' → RepD c g' s.length H' d v → Wd c g' s H' → D.rt v H'
  | .bk env s => ∀ g' H' σ', Ext g st.length H g' s.length H' → RepE c g' s.length H' env σ' → Wd c g' s H' → D.bk σ' H'
  | .ct env s => ∀ g' H' σ', Ext g st.length H g' s.length H' → RepE c g' s.length H' env σ' → Wd c g' s H' → D.ct σ' H'
  | .exc e env s => ∀ g' H' σ', Ext g st.length H g' s.length H' → RepE c g' s.length H' env σ' → Wd c g' s H' → ∀ cls dx, RepX c g' H' e cls dx → W cls dx σ' H'
  | .fail => False
def TSX (c : Cfg) (W : WX) (m : Env → Sto → SR) : TS := fun D σ H => ∃ g env st, RepE c g st.length H env σ ∧ Wd c g st H ∧ EndS c g st H W (m env st) D
section
variable {c : Cfg} {g g1 : Gh} {st st1 : Sto} {H H1 : Hp} {W : WX} {D : Ends} {σ : PSt} {env : Env}
theorem EndS.from (x : Ext g st.length H g1 st1.length H1) (w : Wd c g1 st1 H1) {r : SR} (h : EndS c g st H W r D) : EndS c g1 st1 H1 W r D := by
  cases r with
  | fail => exact h
  | _ => exact fun g' H' v e r w' => h g' H' v (x.of w rfl e) r w'
theorem EndS.nf {r : SR} (h : EndS c g st H W r D) : r ≠ .fail := fun e => by
  rw [e] at h
  exact h
/-- what is known behind an expression -/
structure MidS {α β : Type} (c : Cfg) (g : Gh) (st : Sto) (H : Hp) (W : WX) (D : Ends) (rep : Gh → Nat → Hp → α → β → Prop) (r : Res α) (f : α → Sto → SR) (v : β) (H1 : Hp) (g1 : Gh) (s1 : Sto) (a : α) : Prop where
  ext : Ext g st.length H g1 s1.length H1
  rp : rep g1 s1.length H1 a v
  wd : Wd c g1 s1 H1
  eq : r = .ok a s1
  nx : EndS c g1 s1 H1 W (f a s1) D
theorem EndS.thn {α β : Type} {rep : Gh → Nat → Hp → α → β → Prop} {r : Res α} {f : α → Sto → SR} (re : RepE c g st.length H env σ) (h : EndS c g st H W (r.thn env f) D) : EndR c g st H (EW c W σ) rep r fun v H1 => ∃ g1 s1 a, MidS c g st H W D rep r f v H1 g1 s1 a := by
  cases r with
  | ok a s => exact fun g' H' v x rv w => ⟨g', s, a, x, rv, w, rfl, EndS.from x w h⟩
  | exc e s => exact fun g' H' x w cls dx rx => h g' H' σ x (re.mono x) w cls dx rx
  | fail => exact h
theorem s_seq {m m2 : Env → Sto → SR} (h : TSX c W (fun env st => (m env st).bind m2) D σ H) : tSeq (TSX c W m) (TSX c W m2) D σ H := by
  obtain ⟨g, env, st, re, w, h⟩ := h
  refine ⟨g, env, st, re, w, ?_⟩
  dsimp only at h
  cases e : m env st with
  | nx e1 s1 =>
    rw [e] at h
    exact fun g' H' σ' x re' w' => ⟨g', e1, s1, re', w', EndS.from x w' h⟩
  | fail => rw [e] at h; exact h
  | _ => rw [e] at h; exact h
theorem TSX.unf {m m' : Env → Sto → SR} (h : TSX c W m D σ H) (e : ∀ env st, m env st = m' env st) : TSX c W m' D σ H := by
  obtain ⟨g, env, st, re, w, h⟩ := h
  rw [e] at h
  exact ⟨g, env, st, re, w, h⟩
/-- behind a loop's body -/
theorem EndS.turn {r : SR} {f : Env → Sto → SR} {N : PSt → Hp → Prop} (h : EndS c g st H W (r.turn f) D) (hN : ∀ e s g' H' σ', Ext g st.length H g' s.length H' → RepE c g' s.length H' e σ' → Wd c g' s H' → EndS c g' s H' W (f e s) D → N σ' H') :
    EndS c g st H W r { D with nx := N, ct := N, bk := D.nx } := by
  cases r with
  | nx e s => exact fun g' H' σ' x re w => hN e s g' H' σ' x re w (EndS.from x w h)
  | ct e s => exact fun g' H' σ' x re w => hN e s g' H' σ' x re w (EndS.from x w h)
  | bk e s => exact h
  | rt d s => exact h
  | exc e env s => exact h
  | fail => exact h
end
section
variable {X : Cx} {W : WX} {ca : Str → Option Addr} {cf : CF} {x y : Ex} {tg : Tg} {it : It} {D : Ends} {σ : PSt} {H : Hp} {b b2 : Sts}
abbrev TSx (X : Cx) (ca : Str → Option Addr) (W : WX) (cf : CF) (s : Stm) : TS := TSX (cfgOf X ca) W (dnS cf s)
abbrev TBs (X : Cx) (ca : Str → Option Addr) (W : WX) (cf : CF) (s : Sts) : TS := TSX (cfgOf X ca) W (dnB cf s)
theorem s_nil (h : TBs X ca W cf .nil D σ H) : tNext D σ H := by
  obtain ⟨g, env, st, re, w, h⟩ := h
  rw [dnB] at h
  exact h g H σ Ext.refl re w
theorem s_cons {s : Stm} (h : TBs X ca W cf (.cons s b) D σ H) : tSeq (TSx X ca W cf s) (TBs X ca W cf b) D σ H := s_seq (h.unf fun env st => by rw [dnB])
theorem tgm_of {c : Cfg} {g : Gh} {st : Sto} {env : Env} {d : PyM.D} {v : V} {f : Env → Sto → SR} {Q : PSt → Hp → Prop} (re : RepE c g st.length H env σ) (w : Wd c g st H) (rv : RepD c g st.length H d v) (h : EndS c g st H W ((denT cf tg d env st).thn env f) D)
    (k : ∀ e1 s2 g2 H2 σ2, Ext g st.length H g2 s2.length H2 → RepE c g2 s2.length H2 e1 σ2 → Wd c g2 s2 H2 → EndS c g2 s2 H2 W (f e1 s2) D → Q σ2 H2) : TGM c (tgs tg) (denT cf tg) v σ H Q := by
  refine ⟨g, env, st, d, re, w, rv, ?_⟩
  cases e : denT cf tg d env st with
  | ok e1 s2 =>
    rw [e] at h
    exact fun g2 H2 σ2 x rt w2 => k e1 s2 g2 H2 σ2 x rt.1 w2 (EndS.from x w2 h)
  | exc e' s => exact (denT_x _ _ _ _ _ _ e).elim
  | fail => rw [e] at h; exact h
theorem s_asg (h : TSx X ca W cf (.asg tg x) D σ H) : tAsg (TDx X ca W cf x) (TGM (cfgOf X ca) (tgs tg) (denT cf tg)) D σ H := by
  obtain ⟨g, env, st, re, w, h⟩ := h
  rw [dnS] at h
  refine ⟨g, env, st, re, w, (EndS.thn (rep := RepD (cfgOf X ca)) re h).imp fun v H1 ⟨g1, s1, d, M⟩ => ?_⟩
  exact tgm_of (re.mono M.ext) M.wd M.rp M.nx fun e1 s2 g2 H2 σ2 x re2 w2 h2 => h2 g2 H2 σ2 Ext.refl re2 w2
theorem s_ex (h : TSx X ca W cf (.ex x) D σ H) : tDrop (TDx X ca W cf x) D σ H := by
  obtain ⟨g, env, st, re, w, h⟩ := h
  rw [dnS] at h
  exact ⟨g, env, st, re, w, (EndS.thn (rep := RepD (cfgOf X ca)) re h).imp fun v H1 ⟨g1, s1, d, M⟩ => M.nx g1 H1 σ Ext.refl (re.mono M.ext) M.wd⟩
theorem s_ret (h : TSx X ca W cf (.ret x) D σ H) : tRet (TDx X ca W cf x) D σ H := by
  obtain ⟨g, env, st, re, w, h⟩ := h
  rw [dnS] at h
  exact ⟨g, env, st, re, w, (EndS.thn (rep := RepD (cfgOf X ca)) re h).imp fun v H1 ⟨g1, s1, d, M⟩ => M.nx g1 H1 v Ext.refl M.rp M.wd⟩
theorem s_retN (h : TSx X ca W cf .retN D σ H) : tRetN D σ H := by
  obtain ⟨g, env, st, re, w, h⟩ := h
  rw [dnS] at h
  exact h g H .non Ext.refl (by show RepP _ _ _ _ _; rw [RepP]) w
theorem s_ite (h : TSx X ca W cf (.ite x b b2) D σ H) : tIfS (TBx X ca W cf x) (TBs X ca W cf b) (TBs X ca W cf b2) D σ H := by
  obtain ⟨g, env, st, re, w, h⟩ := h
  rw [dnS] at h
  refine ⟨g, env, st, re, w, (EndS.thn (rep := fun _ _ _ (a b : Bool) => a = b) re h).imp fun t H1 ⟨g1, s1, d, M⟩ => ?_⟩
  have e : d = t := M.rp
  subst e
  have h := M.nx
  cases d with
  | true =>
    rw [if_pos rfl]
    exact ⟨g1, env, s1, re.mono M.ext, M.wd, h⟩
  | false =>
    rw [if_neg Bool.false_ne_true]
    exact ⟨g1, env, s1, re.mono M.ext, M.wd, h⟩
theorem s_brk (h : TSx X ca W cf .brk D σ H) : tBreak D σ H := by
  obtain ⟨g, env, st, re, w, h⟩ := h
  rw [dnS] at h
  exact h g H σ Ext.refl re w
theorem s_cnt (h : TSx X ca W cf .cnt D σ H) : tCont D σ H := by
  obtain ⟨g, env, st, re, w, h⟩ := h
  rw [dnS] at h
  exact h g H σ Ext.refl re w
theorem s_pas (h : TSx X ca W cf .pas D σ H) : tNext D σ H := by
  obtain ⟨g, env, st, re, w, h⟩ := h
  rw [dnS] at h
  exact h g H σ Ext.refl re w
theorem s_par {i j : Nat} (h : TSx X ca W cf (.par i j x y) D σ H) : tPar i j (TAx X ca W cf (.cons x (.cons y .nil))) D σ H := by
  obtain ⟨g, env, st, re, w, h⟩ := h
  rw [dnS] at h
  refine ⟨g, env, st, re, w, ?_⟩
  rw [dens]
  cases e1 : den cf x env st with
  | fail => rw [e1] at h; exact h
  | exc e' s => rw [e1] at h; exact fun g' H' ex w' cls dx rx => h g' H' σ ex (re.mono ex) w' cls dx rx
  | ok d1 s1 =>
    rw [e1, Res.thn_ok] at h
    simp only [Res.bind_ok, dens]
    cases e2 : den cf y env s1 with
    | fail => rw [e2] at h; exact h
    | exc e' s => rw [e2] at h; exact fun g' H' ex w' cls dx rx => h g' H' σ ex (re.mono ex) w' cls dx rx
    | ok d2 s2 =>
      rw [e2] at h
      intro g' H' vs ex rv w'
      have rv : RepDs (cfgOf X ca) g' s2.length H' [d1, d2] vs := rv
      obtain ⟨v, u, rfl, r1, r2⟩ := reps2 rv
      exact ⟨v, u, rfl, h g' H' _ ex (((re.mono ex).set i r1).set j r2) w'⟩
theorem RepE.put {c : Cfg} {g : Gh} {N : Nat} {H : Hp} {env : Env} {σ : PSt} (h : RepE c g N H env σ) (i : Nat) {d : PyM.D} {v : V} (e : σ[i]? = some (some v)) (r : RepD c g N H d v) : RepE c g N H (env.set i (some d)) σ := by
  have q := h.set i r
  have e2 : σ.set i (some v) = σ := by
    apply List.ext_getElem?
    intro j
    by_cases hj : i = j
    · subst hj
      rw [List.getElem?_set_self (List.getElem?_eq_some_iff.mp e).1, e]
    · rw [List.getElem?_set_ne hj]
  rwa [e2] at q
/-- a variable's object is frozen, between two steps -/
theorem s_gz {i : Nat} (h : TBs X ca W cf (.cons (.gz i) b) D σ H) : TBs X ca W cf b D σ H := by
  obtain ⟨g, env, st, re, w, h⟩ := h
  rw [dnB, dnS] at h
  split at h
  · rename_i d e
    obtain ⟨v, e2, rv⟩ := re.2 i d e
    cases d with
    | p x =>
      have h : EndS (cfgOf X ca) g st H W (dnB cf b (env.set i (some (.p x))) st) D := h
      exact ⟨g, _, st, re.put i e2 rv, w, h⟩
    | loc n =>
      simp only [frzD] at h
      split at h
      · rename_i o eo
        split at h
        · rename_i x hx
          obtain ⟨hn, rfl⟩ := rv
          have h : EndS (cfgOf X ca) g st H W (dnB cf b (env.set i (some (.p x))) (st.set n .dead)) D := h
          have ex : Ext g st.length H ⟨g.lm, fun a => g.F a ∨ a = g.lm n⟩ (st.set n .dead).length H := by
            rw [List.length_set]; exact Ext.frz hn
          have w2 := w.frz hn
          refine ⟨⟨g.lm, fun a => g.F a ∨ a = g.lm n⟩, _, st.set n .dead, (re.mono ex).put i e2 ?_, w2, EndS.from ex w2 h⟩
          exact view_rep w (fun _ => .inl) eo (.inr rfl) hx
        · exact h.elim
      · exact h.elim
  · exact h.elim
theorem s_whl (h : TSx X ca W cf (.whl x b) D σ H) : tWhile (TBx X ca W cf x) (TBs X ca W cf b) D σ H := by
  obtain ⟨g, env, st, re, w, h⟩ := h
  rw [dnS] at h
  refine ⟨fun m σ H => ∃ g env st, RepE (cfgOf X ca) g st.length H env σ ∧ Wd (cfgOf X ca) g st H ∧ EndS (cfgOf X ca) g st H W (whlN (fun e s => denc cf (.some x) e s) (fun e s => dnB cf b e s) m env st) D, ⟨FUEL, g, env, st, re, w, h⟩, ?_⟩
  rintro m σ H ⟨g, env, st, re, w, h⟩
  cases m with
  | zero => exact h.elim
  | succ m =>
    rw [whlN] at h
    refine ⟨g, env, st, re, w, (EndS.thn (rep := fun _ _ _ (a b : Bool) => a = b) re h).imp fun t H1 ⟨g1, s1, d, M⟩ => ?_⟩
    have e : d = t := M.rp
    subst e
    have h := M.nx
    cases d with
    | false =>
      rw [if_neg Bool.false_ne_true]
      exact h g1 H1 σ Ext.refl (re.mono M.ext) M.wd
    | true =>
      rw [if_pos rfl]
      exact ⟨fun σ' H' => ∃ g env st, RepE (cfgOf X ca) g st.length H' env σ' ∧ Wd (cfgOf X ca) g st H' ∧ EndS (cfgOf X ca) g st H' W (whlN (fun e s => denc cf (.some x) e s) (fun e s => dnB cf b e s) m env st) D, fun σ' H' z => ⟨m, Nat.lt_succ_self m, z⟩,
        g1, env, s1, re.mono M.ext, M.wd, EndS.turn h fun e s g' H' σ' x re' w' h' => ⟨g', e, s, re', w', h'⟩⟩
/-- a walk of a loop -/
def WalkS (c : Cfg) (g1 : Gh) (N1 : Nat) (H1 : Hp) (J : L2.It) (body : PyM.D → Env → Sto → SR) (rest : Nat → Nat → Env → Sto → SR) : Prop :=
  ∀ i m env g st H, Ext g1 N1 H1 g st.length H → Wd c g st H → rest i m env st ≠ .fail → (J.stop i H ∧ rest i m env st = .nx env st) ∨
    (J.go i H ∧ ∃ m' d, m' < m ∧ (∀ x H', J.yld i H x H' → ∃ F', PExt g.F H F' H' ∧ RepD c ⟨g.lm, F'⟩ st.length H' d x) ∧ rest i m env st = (body d env st).turn (rest (i + 1) m'))
theorem walkS_fix {c : Cfg} {g1 : Gh} {N1 : Nat} {H1 : Hp} {J : L2.It} {body : PyM.D → Env → Sto → SR} {xs : List PyM.D} (h : RepSrc c g1 N1 H1 (.fix xs) J) :
    WalkS c g1 N1 H1 J body fun i m env st => if m = xs.length - i then forFix body (xs.drop i) env st else .fail := by
  intro i m env g st H x w nf
  dsimp only at nf ⊢
  obtain ⟨_, h⟩ := h
  have h := h g _ H x.w i
  by_cases hm : m = xs.length - i
  · rw [if_pos hm] at nf ⊢
    cases e : xs[i]? with
    | none =>
      rw [List.drop_eq_nil_of_le (List.getElem?_eq_none_iff.mp e)]
      exact .inl ⟨h.1 e, rfl⟩
    | some d =>
      obtain ⟨go, y⟩ := h.2 d e
      obtain ⟨hi, e2⟩ := List.getElem?_eq_some_iff.mp e
      refine .inr ⟨go, xs.length - (i + 1), d, by omega, y, ?_⟩
      rw [List.drop_eq_getElem_cons hi, forFix, e2]
      congr 1
      funext a s
      rw [if_pos rfl]
  · rw [if_neg hm] at nf
    exact absurd rfl nf
theorem walkS_loc {c : Cfg} {g1 : Gh} {N1 : Nat} {H1 : Hp} {J : L2.It} {body : PyM.D → Env → Sto → SR} {n : Nat} (h : RepSrc c g1 N1 H1 (.loc n) J) :
    WalkS c g1 N1 H1 J body fun i m env st => forLoc body n m i env st := by
  intro i m env g st H x w nf
  dsimp only at nf ⊢
  obtain ⟨hn, h⟩ := h
  cases m with
  | zero => exact absurd rfl nf
  | succ m =>
    rw [forLoc] at nf ⊢
    split at nf
    · rename_i ys e
      have h := h g st H x.w w ys e i
      cases q : ys[i]? with
      | none => exact .inl ⟨h.1 q, by simp [q]⟩
      | some d =>
        obtain ⟨go, y⟩ := h.2 d q
        exact .inr ⟨go, m, d, Nat.lt_succ_self m, y, by simp [q]⟩
    · exact absurd rfl nf
theorem f_loop {J : L2.It} {g1 : Gh} {s1 : Sto} {H1 : Hp} {env : Env} {m0 : Nat} {rest : Nat → Nat → Env → Sto → SR} (wk : WalkS (cfgOf X ca) g1 s1.length H1 J (fun d e s => (denT cf tg d e s).thn e fun e1 s2 => dnB cf b e1 s2) rest)
    (re : RepE (cfgOf X ca) g1 s1.length H1 env σ) (w : Wd (cfgOf X ca) g1 s1 H1) (h : EndS (cfgOf X ca) g1 s1 H1 W (rest 0 m0 env s1) D) :
    ∃ W' : Nat → Nat → PSt → Hp → Prop, (∃ m, W' 0 m σ H1) ∧ ∀ i m σ H, W' i m σ H → (J.stop i H ∧ D.nx σ H) ∨ (J.go i H ∧ ∃ N : PSt → Hp → Prop, (∀ σ' H', N σ' H' → ∃ m', m' < m ∧ W' (i + 1) m' σ' H') ∧
      ∀ x H', J.yld i H x H' → TGM (cfgOf X ca) (tgs tg) (denT cf tg) x σ H' fun σ2 H2 => TBs X ca W cf b { D with nx := N, ct := N, bk := D.nx } σ2 H2) := by
  refine ⟨fun i m σ H => ∃ g env st, RepE (cfgOf X ca) g st.length H env σ ∧ Wd (cfgOf X ca) g st H ∧ Ext g1 s1.length H1 g st.length H ∧ EndS (cfgOf X ca) g st H W (rest i m env st) D, ⟨m0, g1, env, s1, re, w, Ext.refl, h⟩, ?_⟩
  rintro i m σ H ⟨g, env, st, re, w, ex, h⟩
  rcases wk i m env g st H ex w h.nf with ⟨stop, e⟩ | ⟨go, m', d, hm, y, e⟩
  · rw [e] at h
    exact .inl ⟨stop, h g H σ Ext.refl re w⟩
  · refine .inr ⟨go, fun σ' H' => ∃ g env st, RepE (cfgOf X ca) g st.length H' env σ' ∧ Wd (cfgOf X ca) g st H' ∧ Ext g1 s1.length H1 g st.length H' ∧ EndS (cfgOf X ca) g st H' W (rest (i + 1) m' env st) D, fun σ' H' z => ⟨m', hm, z⟩, fun z H' hy => ?_⟩
    obtain ⟨F', px, rx⟩ := y z H' hy
    rw [e] at h
    have x2 : Ext g st.length H ⟨g.lm, F'⟩ st.length H' := px.ext
    have w2 := w.ext px
    have h2 := EndS.turn (N := fun σ' H' => ∃ g env st, RepE (cfgOf X ca) g st.length H' env σ' ∧ Wd (cfgOf X ca) g st H' ∧ Ext g1 s1.length H1 g st.length H' ∧ EndS (cfgOf X ca) g st H' W (rest (i + 1) m' env st) D) h fun e s g' H'' σ' x re' w' h' => ⟨g', e, s, re', w', ex.of w rfl x, h'⟩
    exact tgm_of (re.mono x2) w2 rx (EndS.from x2 w2 h2) fun e1 s2 g2 H2 σ2 x3 re3 w3 h3 => ⟨g2, e1, s2, re3, w3, h3⟩
theorem s_for (h : TSx X ca W cf (.for tg it b) D σ H) : tFor (TIx X ca W cf it) (TGM (cfgOf X ca) (tgs tg) (denT cf tg)) (TBs X ca W cf b) D σ H := by
  obtain ⟨g, env, st, re, w, h⟩ := h
  rw [dnS] at h
  refine ⟨g, env, st, re, w, (EndS.thn (rep := RepSrc (cfgOf X ca)) re h).imp fun J H1 ⟨g1, s1, src, M⟩ => ?_⟩
  have h := M.nx
  cases src with
  | fix xs => exact f_loop (m0 := xs.length) (walkS_fix M.rp) (re.mono M.ext) M.wd (by rw [if_pos (Nat.sub_zero _).symm, List.drop_zero]; exact h)
  | loc n => exact f_loop (m0 := FUEL) (walkS_loc M.rp) (re.mono M.ext) M.wd h
end
end PyM
namespace PyM
open PySem PySem.Spec PyProof.Rows L2

/-! ### classes: fields read and set, instances made -/
theorem fs_lk {c : Cfg} {F : Addr → Prop} {H : Hp} {f : Str} : ∀ {fs : List (Str × P)} {fvs : List (Str × V)} {p : P}, RepFs c F H fs fvs → fs.lookup f = some p → ∃ v, fvs.lookup f = some v ∧ RepP c F H p v
  | [], _, _, _, e => by cases e
  | (g, x) :: fs, fvs, p, r, e => by
    rw [RepFs] at r
    obtain ⟨v, w, rfl, rx, rr⟩ := r
    rw [List.lookup_cons] at e ⊢
    cases h : f == g with
    | true => rw [h] at e; cases e; exact ⟨v, rfl, rx⟩
    | false => rw [h] at e; exact fs_lk rr e
theorem df_lk {c : Cfg} {g : Gh} {N : Nat} {H : Hp} {f : Str} {fs : List (Str × PyM.D)} {fvs : List (Str × V)} (r : RepDf c g N H fs fvs) : ∀ {d : PyM.D}, fs.lookup f = some d → ∃ v, fvs.lookup f = some v ∧ RepD c g N H d v := by
  induction r with
  | nil => intro d e; cases e
  | cons rd rr ih =>
    rename_i k d0 ds v0 vs
    intro d e
    rw [List.lookup_cons] at e ⊢
    cases h : f == k with
    | true => rw [h] at e; cases e; exact ⟨v0, rfl, rd⟩
    | false => rw [h] at e; exact ih e
theorem df_len {c : Cfg} {g : Gh} {N : Nat} {H : Hp} {fs : List (Str × PyM.D)} {fvs : List (Str × V)} (r : RepDf c g N H fs fvs) : fvs.length = fs.length := by
  induction r with
  | nil => rfl
  | cons _ _ ih => rw [List.length_cons, List.length_cons, ih]
theorem df_put {c : Cfg} {g : Gh} {N : Nat} {H : Hp} {f : Str} {d : PyM.D} {v : V} {fs : List (Str × PyM.D)} {fvs : List (Str × V)} (r : RepDf c g N H fs fvs) (rd : RepD c g N H d v) : RepDf c g N H (putFd f d fs) (putF f v fvs) := by
  induction r with
  | nil => exact .cons rd .nil
  | cons rk rr ih =>
    rename_i k d0 ds v0 vs
    rw [putFd, putF]
    by_cases h : k = f
    · rw [if_pos h, if_pos h]; exact .cons rd rr
    · rw [if_neg h, if_neg h]; exact .cons rk ih
theorem df_mono {c : Cfg} {g g1 : Gh} {N N1 : Nat} {H H1 : Hp} (x : Ext g N H g1 N1 H1) {fs : List (Str × PyM.D)} {fvs : List (Str × V)} (r : RepDf c g N H fs fvs) : RepDf c g1 N1 H1 fs fvs := by
  induction r with
  | nil => exact .nil
  | cons rk _ ih => exact .cons (rk.mono x) ih
section
variable {X : Cx} {W : WX} {k : Ck} {ca : Str → Option Addr} {r : Nat} {cf : CF} {pos : Pos}
theorem i_att {c f : Str} {a : Ex} {A : Addr} (hA : ca c = some A) (hn : NoAttr X.K A f) (kf : KF X.K ca) {σ : PSt} {H : Hp} {Q : VK} (h : TDx X ca W cf (.att c f a) σ H Q) : tFld X.K (TDx X ca W cf a) f σ H Q :=
  TX.bind (f := fun _ x s1 => opt (attD s1 c f x) s1) (h.unf fun env st => by rw [den]) fun g1 env st1 a v H1 re w ra h => by
    obtain ⟨d, e, h'⟩ := h.opt
    cases a with
    | p x =>
      cases x <;> first | (cases e; done) | skip
      rename_i C fs
      simp only [attD] at e
      split at e
      · rename_i hC
        subst hC
        obtain ⟨p, e1, rfl⟩ := Option.map_eq_some_iff.mp e
        have ra : RepP (cfgOf X ca) g1.F H1 (.ins C fs) v := ra
        rw [RepP] at ra
        obtain ⟨a, dx, fvs, rfl, ⟨_, A', hA', ea⟩, rf⟩ := ra
        have : A' = A := by
          have := hA'.symm.trans hA
          cases this; rfl
        subst this
        obtain ⟨v, ev, rv⟩ := fs_lk rf e1
        exact ⟨a, A', dx, fvs, v, rfl, ea, kf.cls _ _ hA, hn, ev, h' g1 H1 v Ext.refl rv w⟩
      · cases e
    | loc n =>
      simp only [attD] at e
      split at e
      · rename_i C fs es
        split at e
        · rename_i hC
          subst hC
          obtain ⟨dx, fvs, ⟨A', hA', ea⟩, rf⟩ := w.obs n _ es
          obtain ⟨hlt, rfl⟩ := ra
          have : A' = A := by
            have := hA'.symm.trans hA
            cases this; rfl
          subst this
          obtain ⟨v, ev, rv⟩ := df_lk rf e
          exact ⟨_, A', dx, fvs, v, rfl, ea, kf.cls _ _ hA, hn, ev, h' g1 H1 v Ext.refl rv w⟩
        · cases e
      · cases e
theorem e_att (G : Gx X W k ca r cf) {c f : Str} {a : Ex} {u : Expr} (hc : (c, f) ∈ k.fld) (hu : isNameX u = true) (he : PE X u (TDx X ca W cf a)) : PE X (.Attribute u f pos) (TDx X ca W cf (.att c f a)) := by
  obtain ⟨A, hA, hn⟩ := G.fld _ hc
  refine PE.imp (pe_fld he ?_) fun σ H Q h => i_att hA hn G.kf h
  cases u <;> first | (cases hu; done) | rfl
theorem run_makeS {CX : CXT} {C f : Addr} {fd : FuncData} {ps : List Str} {sp : Sp} {k : Nat} {E : PSt → XK} {pins : List (Addr × Obj)} {σ : PSt} {H : Hp} {s : Shared} {Q : VK} {us : List Value} {vs : List V} (M : Mk X.K C f) (F : FnOk X.prog X.w X.K X.mg X.base CX k f fd ps sp) (hr : Room (k + 1) X.A) (hb : Binds X.K fd ps [])
    (hx : PassesAt CX X σ (E σ)) (I : Inv X pins σ H s) (r : Vals vs us)
    (h : ∀ x dx, H x = none → H dx = none → dx ≠ x → sp (.ref x :: vs) (upd (upd H dx (.own x)) x (.ins C dx [])) (fun v H2 => v = .non ∧ Q (.ref x) H2) (E σ)) :
    wpAny (model X.prog X.w) X.A (call (.ref C) us) (EP X pins σ Q) X.xe s := by
  have hq := h (s.heap.objs.size + 1) s.heap.objs.size (I.hok.fresh (Nat.le_succ _)) (I.hok.fresh (Nat.le_refl _)) (Nat.ne_of_lt (Nat.lt_succ_self _))
  have I2 := Inv.made (C := C) I
  have r2 : Vals (V.ref (s.heap.objs.size + 1) :: vs) (Value.ref (s.heap.objs.size + 1) :: us) := .cons rfl r
  have hl : (Value.ref (s.heap.objs.size + 1) :: us).length = ps.length := by
    have e := r2.length
    rw [F.len _ _ _ _ hq] at e
    exact e.symm
  have b := hb _ (Value.ref (s.heap.objs.size + 1) :: us) I2.kIn (by rw [List.append_nil]; exact hl)
  rw [List.append_nil] at b
  refine wpAny_call (make_map (f := f) I.kIn M.makes M.init (beq_iff_eq.mp M.fn) (codeAny_mono (F.run _ X.stack _ _ ⟨Value.ref (s.heap.objs.size + 1) :: us, []⟩ (Value.ref (s.heap.objs.size + 1) :: us) _ _ (E σ) (hr.make C us [])
    (I2.env0.make C us []) b r2 hq) fun r s' hq' => ?_))
  cases r with
  | error e => exact hx pins _ _ e s' I2 hq'
  | ok fl =>
    cases fl with
    | ret u =>
      obtain ⟨v, H', I3, rv, ev, q3⟩ := I2.after hq'
      subst ev
      exact ⟨rv, ⟨V.ref (s.heap.objs.size + 1), H', I3, rfl, q3⟩⟩
    | next => exact False.elim hq'
    | brk => exact False.elim hq'
    | cont => exact False.elim hq'
theorem new_end {c : Cfg} {g : Gh} {st : Sto} {H : Hp} {cn : Str} {A : Addr} {i : Nat} {ds : List PyM.D} {vs : List V} {Q : VK} {σ : PSt} (hA : c.ca cn = some A)
    (h : EndR c g st H (EW c W σ) (RepD c) ((cf i (.loc st.length :: ds) (st ++ [.ins cn []])).bind fun d s2 => newR st.length d s2) Q) (w : Wd c g st H) (rs : RepDs c g st.length H ds vs) {x dx : Addr} (hx : H x = none) (hd : H dx = none) (hne : dx ≠ x) :
    spM c (cf i) (.ref x :: vs) (upd (upd H dx (.own x)) x (.ins A dx [])) (fun v H2 => v = .non ∧ Q (.ref x) H2) (WE W σ) := by
  have px : PExt g.F H g.F (upd H dx (.own x)) := PExt.put hd
  have w0 : Wd c ⟨g.lm, g.F⟩ st (upd H dx (.own x)) := w.ext px
  have x0 : Ext g st.length H ⟨g.lm, g.F⟩ st.length (upd H dx (.own x)) := px.ext
  have hx0 : upd H dx (.own x) x = none := by rw [upd_ne (Ne.symm hne)]; exact hx
  have x1 := Ext.push (o := .ins A dx []) hx0 w0
  have w1 := Wd.push (o := .ins A dx []) (ob := .ins cn []) w0 hx0 ⟨dx, [], ⟨A, hA, upd_same⟩, .nil⟩
  have x01 : Ext g st.length H _ (st.length + 1) _ := x0.of w0 rfl x1
  have hl : (st ++ [Ob.ins cn []]).length = st.length + 1 := by rw [List.length_append]; rfl
  refine ⟨_, st ++ [.ins cn []], .loc st.length :: ds, ?_, w1, ?_⟩
  · rw [hl]
    refine .cons ⟨Nat.lt_succ_self _, ?_⟩ (rs.mono x01)
    show _ = V.ref (if st.length = st.length then x else _)
    rw [if_pos rfl]
  · cases e : cf i (.loc st.length :: ds) (st ++ [.ins cn []]) with
    | ok d st2 =>
      rw [e] at h
      intro g' H' v x2 rv w'
      rw [hl] at x2
      have h : EndR c g st H (EW c W σ) (RepD c) (newR st.length d st2) Q := h
      unfold newR at h
      split at h
      · have rv : RepP c g'.F H' .non v := rv
        rw [RepP] at rv
        refine ⟨rv, ?_⟩
        refine h g' H' (.ref x) (x01.of w1 hl x2) ⟨Nat.lt_of_lt_of_le (Nat.lt_succ_self _) x2.le, ?_⟩ w'
        rw [x2.lm _ (Nat.lt_succ_self _)]
        show V.ref x = V.ref (if st.length = st.length then x else _)
        rw [if_pos rfl]
      · exact h.elim
    | exc e' st' =>
      rw [e] at h
      intro g' H' x2 w'
      rw [hl] at x2
      exact h g' H' (x01.of w1 hl x2) w'
    | fail =>
      rw [e] at h
      exact h
theorem e_new (G : Gx X W k ca r cf) {c : Str} {i : Nat} {as : Exs} {u : Expr} {us : List Expr} {p : Pos} (hf : (k.fns[i]?).bind spl = some (c, ("__init__" : Str))) (hg : k.gl c = true) (hs : ∀ v ∈ u :: us, isStar v = false) (ha : PA X (u :: us) (TAx X ca W cf as)) : PE X (.Call (.Name c p) (u :: us) [] pos) (TDx X ca W cf (.new c i as)) := by
  cases hy : k.fns[i]? with
  | none => rw [hy] at hf; cases hf
  | some y =>
    rw [hy] at hf
    obtain ⟨fa, fd, ps, F⟩ := G.fns i y hy
    obtain ⟨A, hA, hm, _, mk⟩ := F.mt c ("__init__" : Str) hf
    have M := mk rfl
    obtain ⟨g1, g2, _⟩ := G.gl hg
    refine ⟨fun pins s σ H Q I h => ?_⟩
    have h2 : TAx X ca W cf as σ H fun vs H1 => ∀ x dx, H1 x = none → H1 dx = none → dx ≠ x → spM (cfgOf X ca) (cf i) (.ref x :: vs) (upd (upd H1 dx (.own x)) x (.ins A dx [])) (fun v H2 => v = .non ∧ Q (.ref x) H2) (WE W σ) :=
      i_args (f := fun _ ds s1 => (cf i (.loc s1.length :: ds) (s1 ++ [.ins c []])).bind fun d s2 => newR s1.length d s2) (h.unf fun env st => by rw [den]) fun g env ds s vs H1 re w rs h x dx hx hd hne => new_end (c := cfgOf X ca) hA h w rs hx hd hne
    refine wpAny_Call_Name_kw (ld_glob I g1 hm ?_ g2)
    refine PySem.W.callWith_K (h₀ := X.base) I.ok.mod.kin M.kp (thn (ha.run pos pins s σ H _ I h2) fun us s1 ⟨vs, H1, I1, r, q⟩ => ⟨I1.kIn, ?_⟩) (star_cons (hs u (List.mem_cons_self ..))) (star_any fun v hv => hs v (List.mem_cons_of_mem _ hv))
    exact run_makeS (E := WE W) M F.ok G.room F.bd (passAt G.tk σ) I1 r q
theorem s_fld {c f : Str} {o e : Ex} {A : Addr} (hA : ca c = some A) (hn : NoAttr X.K A f) (kf : KF X.K ca) {D : Ends} {σ : PSt} {H : Hp} (h : TSx X ca W cf (.fld c f o e) D σ H) : sFld X.K (TDx X ca W cf o) (TDx X ca W cf e) f D σ H := by
  obtain ⟨g, env, st, re, w, h⟩ := h
  rw [dnS] at h
  refine ⟨g, env, st, re, w, (EndS.thn (rep := RepD (cfgOf X ca)) re h).imp fun y H1 ⟨g1, s1, d, M⟩ => ?_⟩
  have h := M.nx
  have re1 := re.mono M.ext
  refine ⟨g1, env, s1, re1, M.wd, (EndS.thn (rep := RepD (cfgOf X ca)) re1 h).imp fun x H2 ⟨g2, s2, d2, M2⟩ => ?_⟩
  have h := M2.nx
  have re2 := re1.mono M2.ext
  have w2 := M2.wd
  have ry := M.rp.mono M2.ext
  have rx := M2.rp
  cases e2 : setAt s2 c f d2 d with
  | none => rw [e2] at h; exact h.elim
  | some s3 =>
    rw [e2] at h
    cases d2 with
    | p _ => cases e2
    | loc n =>
      simp only [setAt] at e2
      split at e2
      · rename_i C fs es
        split at e2
        · rename_i hC
          obtain ⟨rfl, hlen⟩ := hC
          cases e2
          obtain ⟨dx, fvs, ⟨A', hA', ea⟩, rf⟩ := w2.obs n _ es
          obtain ⟨hlt, rfl⟩ := rx
          have : A' = A := by
            have := hA'.symm.trans hA
            cases this; rfl
          subst this
          refine ⟨_, A', dx, fvs, rfl, ea, kf.cls _ _ hA, hn, by rw [df_len rf]; exact hlen, ?_⟩
          have ex := Ext.set (o := .ins A' dx (putF f y fvs)) w2 es (by simp)
          have wn := Wd.set (o := .ins A' dx (putF f y fvs)) (ob := .ins C (putFd f d fs)) w2 es (by simp) ⟨dx, _, ⟨A', hA', upd_same⟩, df_mono ex (df_put rf ry)⟩
          exact h g2 _ σ (by rw [List.length_set]; exact ex) (by rw [List.length_set]; exact re2.mono ex) wn
        · cases e2
      · cases e2
end
end PyM
namespace PyM
open PySem PySem.Spec PyProof.Rows L2

theorem boot_blt (b : Blt) : bootBuiltins (bltS b) = some (bltV b) := by cases b <;> (simp only [bltS, bltV]; decide +kernel)
theorem boot_isi : bootBuiltins "isinstance" = some (.builtin "isinstance") := by decide +kernel
theorem boot_ty : ∀ n ∈ tyArg, bootBuiltins (Str.ofString n) = some (.type n) := by
  intro n h
  unfold tyArg at h
  simp only [List.mem_cons, List.not_mem_nil, or_false] at h
  rcases h with rfl | rfl | rfl | rfl | rfl | rfl <;> decide +kernel
section
variable {X : Cx} {W : WX} {k : Ck} {ca : Str → Option Addr} {r : Nat} {cf : CF}
theorem Gx.blk (G : Gx X W k ca r cf) (scope : Scope) (s : Shared) (H : Hp) (C : Addr) (cl : List (Str × Addr)) (fp : List Addr) : Gx (X.blk s H scope (compEnvC scope cl C X.env) fp) NoW (k.blk scope) ca r cf where
  nm := G.nm
  nd := G.nd
  sc := by
    show relS scope X.env.scope = relS scope k.sc
    rw [G.sc]
  calm := G.calm
  room := G.room
  bl := G.bl
  fnk := fun x h => h
  tk := fun u s' ⟨_, _, _, _, _, _, _, _, _, _, _, _, _, _, _, _, w⟩ => w.elim
  kf := G.kf
  cls := G.cls
  fld := G.fld
  con := G.con
  xcs := G.xcs
  fns := fun i x h => let ⟨f, fd, ps, F⟩ := G.fns i x h; ⟨f, fd, ps, ⟨F.ok, F.mg, F.mt, F.kp, F.bd⟩⟩
theorem PTs.imp {X : Cx} {e : List Expr} {t t' : TT} (h : PTs X e t) (k : ∀ σ H Q, t' σ H Q → t σ H Q) : PTs X e t' := ⟨fun pins s σ H Q I q => h.run pins s σ H Q I (k σ H Q q)⟩
theorem ty_arg (G : Gx X W k ca r cf) {t : TyN} {a : Expr} (h : chkTy k t a = true) : ∃ p, tyVal ca t = some p ∧ PE X a (tC p.1) := by
  cases t with
  | ty n =>
    simp only [chkTy] at h
    split at h
    · rw [Bool.and_eq_true] at h
      have hn := of_decide_eq_true h.1
      obtain ⟨rfl, g1, g2, g3, g4⟩ := G.blt h.2
      exact ⟨_, if_pos hn, pe_bltn g1 g4 (boot_ty n hn) rfl g3 g2⟩
    · cases h
  | cls c =>
    simp only [chkTy] at h
    split at h
    · rw [Bool.and_eq_true, Bool.and_eq_true] at h
      have e := of_decide_eq_true h.1.1
      subst e
      obtain ⟨g1, g2, _⟩ := G.gl h.1.2
      obtain ⟨A, hA, hm⟩ := G.cls _ (of_decide_eq_true h.2)
      refine ⟨(.ref A, .ref A), ?_, pe_glob g1 hm rfl g2⟩
      show (ca _).map _ = _
      rw [hA]
      rfl
    · cases h
theorem ty_args (G : Gx X W k ca r cf) : ∀ {ts : List TyN} {as : List Expr}, chkTys k ts as = true → ∃ ps, ts.mapM (tyVal ca) = some ps ∧ ps.length = ts.length ∧ PA X as (tVals (ps.map (·.1)))
  | [], [], _ => ⟨[], rfl, rfl, pa_nil⟩
  | [], _ :: _, h => by cases h
  | _ :: _, [], h => by cases h
  | t :: ts, a :: as, h => by
    unfold chkTys at h
    rw [Bool.and_eq_true, Bool.and_eq_true] at h
    obtain ⟨p, hp, pe⟩ := ty_arg G h.1.1
    obtain ⟨ps, hps, hl, pa⟩ := ty_args G h.2
    refine ⟨p :: ps, ?_, by rw [List.length_cons, List.length_cons, hl], pa_cons pe pa (star_cons (by simpa using h.1.2))⟩
    rw [List.mapM_cons, hp, hps]
    rfl
theorem ty_star {t : TyN} {a : Expr} (h : chkTy k t a = true) : isStar a = false := by
  cases t <;> (simp only [chkTy] at h; split at h) <;> first | rfl | cases h
structure Snd (X : Cx) (ca : Str → Option Addr) (W : WX) (cf : CF) (x : Ex) (u : Expr) : Prop where
  pe : PE X u (TDx X ca W cf x)
  pt : noIf u = true → PT X u (TBx X ca W cf x)
  pw : isBoolE u = true → PW X u (TBx X ca W cf x)
theorem pl {x : Ex} {u : Expr} (hp : plainT u = true) (hu : PE X u (TDx X ca W cf x)) : Snd X ca W cf x u := ⟨hu, fun _ => t_plain hp hu, fun h => by cases u <;> first | (cases h; done) | (cases hp; done)⟩
theorem hfew_of {v : Expr} {us : List Expr} {env : PySem.Env} {cpos : Pos} (hs : ∀ u ∈ v :: us, isStar u = false) (hl : us.length < 20) : ((backTo cpos (starEach (v :: us) env)).all (fun x => !x.1) && (backToKw cpos (keywordEach [] env)).all (fun x => x.1.isSome)
      && decide ((v :: us).length + ([] : List Keyword).length + (if ([] : List Keyword).isEmpty then 0 else 1) < 30)) = true := by
  rw [star_all hs, Bool.true_and, Bool.and_eq_true]
  refine ⟨rfl, decide_eq_true ?_⟩
  simp
  omega
theorem plainIx_of {b : Expr} (h : isSlice b = false) : PlainIx b := fun o i => by cases b <;> first | rfl | cases h
theorem fold_of {b : Expr} {env : PySem.Env} (h : isSet b = false) : ∀ x, foldedSetIterable b env x = pure x := fun x => by cases b <;> first | rfl | cases h
theorem chkI_set : ∀ {it : It} {a : Expr}, chkI k it a = true → isSet a = false
  | .seq x, a, h => by
    unfold chkI at h
    exact (chk_shape h).2.1
  | .rng1 x, a, h => by
    unfold chkI at h
    split at h <;> first | rfl | cases h
  | .rng2 x y, a, h => by
    unfold chkI at h
    split at h <;> first | rfl | cases h
  | .enum x, a, h => by
    unfold chkI at h
    split at h <;> first | rfl | cases h
  | .rev x, a, h => by
    unfold chkI at h
    split at h <;> first | rfl | cases h
theorem PE.conv {X : Cx} {e : Expr} {t t' : TE} (h : PE X e t) (k : ∀ σ H Q, t' σ H Q → t σ H Q) : PE X e t' := PE.imp h k
end

theorem tBX_nil {T : String} {r : V → List V → Hp → VK → Prop} {x : Ex} {σ : PSt} {H : Hp} {Q : VK} (h : tBX X T r (TDx X ca W cf x) (TAx X ca W cf .nil) σ H Q) : tBX X T r (TDx X ca W cf x) tNil σ H Q := by
  unfold tBX at h ⊢
  obtain ⟨g, env, st, re, w, z⟩ := h
  exact ⟨g, env, st, re, w, z.imp fun v H1 z => ⟨z.1, a_nil z.2⟩⟩
mutual
theorem sE : ∀ (e : Ex) {X : Cx} {W : WX} {k : Ck} {ca : Str → Option Addr} {r : Nat} {cf : CF} (G : Gx X W k ca r cf) {a : Expr}, chkE k e a = true → Snd X ca W cf e a
  | .var i, X, W, k, ca, r, cf, G, a, h => by
    unfold chkE at h
    split at h
    · rw [Bool.and_eq_true] at h
      exact pl rfl (e_var G h.1 h.2)
    · cases h
  | .lit p, X, W, k, ca, r, cf, G, a, h => by
    unfold chkE at h
    split at h
    · exact pl rfl (e_lit h)
    · cases h
  | .bin o x y, X, W, k, ca, r, cf, G, a, h => by
    unfold chkE at h
    split at h
    · rw [Bool.and_eq_true, Bool.and_eq_true] at h
      have e := of_decide_eq_true h.1.1
      subst e
      exact pl rfl (PE.imp (pe_op (op_bop o) (sE x G h.1.2).pe (sE y G h.2).pe) fun σ H Q z => i_bin z)
    · cases h
  | .neg x, X, W, k, ca, r, cf, G, a, h => by
    unfold chkE at h
    split at h
    · exact pl rfl (e_neg (sE x G h).pe)
    · cases h
  | .cmp o x y, X, W, k, ca, r, cf, G, a, h => by
    unfold chkE at h
    split at h
    · rw [Bool.and_eq_true, Bool.and_eq_true] at h
      have e := of_decide_eq_true h.1.1
      subst e
      have px := (sE x G h.1.2).pe
      have py := (sE y G h.2).pe
      exact ⟨PE.imp (pe_cmpR (op_cop (ca := ca) G.un o) px py (nomark_of h.2)) fun σ H Q z => i_cmp z, fun _ => PT.imp (pt_cmpR (op_cop (ca := ca) G.un o) px py (nomark_of h.2)) fun σ H Q z => i_cmp (tb_td (m := den cf (.cmp o x y)) bl_cmp (z.unf fun env st => denc_some _ env st)), (fun z => nomatch z)⟩
    · cases h
  | .cmp2 o o' x y z, X, W, k, ca, r, cf, G, a, h => by
    unfold chkE at h
    split at h
    · rw [Bool.and_eq_true, Bool.and_eq_true, Bool.and_eq_true, Bool.and_eq_true] at h
      have e := of_decide_eq_true h.1.1.1.1
      have e' := of_decide_eq_true h.1.1.1.2
      subst e e'
      have px := (sE x G h.1.1.2).pe
      have py := (sE y G h.1.2).pe
      have pz := (sE z G h.2).pe
      have hm : ∀ v t, chkE k z t = true → lastMarks [copOf o, copOf o'] [v, t] = false := fun v t ht => by
        show behindInMarks (copOf o') t = false
        exact nomark_of ht
      exact ⟨PE.imp (pe_chain (op_cop (ca := ca) G.un o) (op_cop (ca := ca) G.un o') px py pz (hm _ _ h.2)) fun σ H Q q => i_cmp2 q, fun _ => PT.imp (pt_chain (op_cop (ca := ca) G.un o) (op_cop (ca := ca) G.un o') px py pz (hm _ _ h.2)) fun σ H Q q => i_cmp2 (tb_td (m := den cf (.cmp2 o o' x y z)) bl_cmp2 (q.unf fun env st => denc_some _ env st)), (fun z => nomatch z)⟩
    · cases h
  | .and x y, X, W, k, ca, r, cf, G, a, h => by
    unfold chkE at h
    split at h
    · rename_i u v rr pos
      rw [Bool.and_eq_true, Bool.and_eq_true] at h
      obtain ⟨⟨h1, h3⟩, h2⟩ := h
      have px := sE x G h1
      cases rr with
      | nil =>
        dsimp only at h2
        rw [Bool.and_eq_true] at h2
        have py := sE y G h2.1
        have pw := PW.imp (pw_and (px.pt h3) (pw_and1 (pos := pos) (py.pt h2.2))) fun σ H Q z => j_and z
        exact ⟨PE.imp (pe_andT px.pe (pe_one py.pe)) fun σ H Q z => i_and z, fun _ => pw.pt, fun _ => pw⟩
      | cons w ws =>
        have py := sE y G h2
        have pw := PW.imp (pw_and (px.pt h3) (py.pw rfl)) fun σ H Q z => j_and z
        exact ⟨PE.imp (pe_andT px.pe py.pe) fun σ H Q z => i_and z, fun _ => pw.pt, fun _ => pw⟩
    · cases h
  | .or x y, X, W, k, ca, r, cf, G, a, h => by
    unfold chkE at h
    split at h
    · rename_i u v rr pos
      rw [Bool.and_eq_true, Bool.and_eq_true] at h
      obtain ⟨⟨h1, h3⟩, h2⟩ := h
      have px := sE x G h1
      cases rr with
      | nil =>
        dsimp only at h2
        rw [Bool.and_eq_true] at h2
        have py := sE y G h2.1
        have pw := PW.imp (pw_or (px.pt h3) (pw_or1 (pos := pos) (py.pt h2.2))) fun σ H Q z => j_or z
        exact ⟨PE.imp (pe_orT px.pe (pe_one py.pe)) fun σ H Q z => i_or z, fun _ => pw.pt, fun _ => pw⟩
      | cons w ws =>
        have py := sE y G h2
        have pw := PW.imp (pw_or (px.pt h3) (py.pw rfl)) fun σ H Q z => j_or z
        exact ⟨PE.imp (pe_orT px.pe py.pe) fun σ H Q z => i_or z, fun _ => pw.pt, fun _ => pw⟩
    · cases h
  | .not x, X, W, k, ca, r, cf, G, a, h => by
    unfold chkE at h
    split at h
    · rw [Bool.and_eq_true] at h
      have px := sE x G h.1
      exact ⟨PE.imp (pe_notT px.pe) fun σ H Q z => i_not z, fun _ => PT.imp (pt_not (px.pt h.2)) fun σ H Q z => j_not z, (fun z => nomatch z)⟩
    · cases h
  | .ite t x y, X, W, k, ca, r, cf, G, a, h => by
    unfold chkE at h
    split at h
    · rw [Bool.and_eq_true, Bool.and_eq_true, Bool.and_eq_true] at h
      exact ⟨PE.imp (pe_ifExp ((sE t G h.1.1.1).pt h.2) (sE x G h.1.1.2).pe (sE y G h.1.2).pe) fun σ H Q z => i_ite z, (fun z => nomatch z), (fun z => nomatch z)⟩
    · cases h
  | .call m f as, X, W, k, ca, r, cf, G, a, h => by
    unfold chkE at h
    split at h
    · rw [Bool.and_eq_true, Bool.and_eq_true, Bool.and_eq_true] at h
      refine pl rfl (e_call G (of_decide_eq_true h.1.1.1) (Option.isNone_iff_eq_none.mp h.2) h.1.1.2 (fun e => ?_) (chk_stars h.1.2) (sEs as G h.1.2))
      have l := chk_len h.1.2
      rw [e] at l
      cases as with
      | nil => rfl
      | cons a b => cases l
    · cases h
  | .blt b as, X, W, k, ca, r, cf, G, a, h => by
    unfold chkE at h
    split at h
    · rename_i x p u us pos
      rw [Bool.and_eq_true] at h
      obtain ⟨rfl, g1, g2, g3, g4⟩ := G.blt h.1
      have pa := sEs as G h.2
      have st := chk_stars h.2
      have he := star_cons (env := X.env) (es := us) (st u (List.mem_cons_self ..))
      have hp : (backTo pos (starEach us X.env)).any (·.1) = false := star_any fun z hz => st z (List.mem_cons_of_mem _ hz)
      have cr := cr_blt (ca := ca) G.calm G.un64 b
      have bt := boot_blt b
      refine pl rfl (PE.imp (t := tCB (rBlt (cfgOf X ca) b) (TAx X ca W cf as)) ?_ fun σ H Q z => i_blt z)
      cases b <;> first | exact pe_callB cr g1 g4 bt pa g3 g2 he hp | exact pe_callTy cr g1 g4 bt pa g3 g2 he hp
    · cases h
  | .isi x ts, X, W, k, ca, r, cf, G, a, h => by
    unfold chkE at h
    split at h
    · rename_i f p u t pos
      rw [Bool.and_eq_true, Bool.and_eq_true] at h
      obtain ⟨rfl, g1, g2, g3, g4⟩ := G.blt h.1.1
      have px := (sE x G h.1.2).pe
      have su := (chk_shape h.1.2).1
      have ht := h.2
      match ts, ht with
      | [], ht => cases ht
      | [tn], ht =>
        have ht : chkTy k tn t = true := ht
        obtain ⟨q, hq, pe⟩ := ty_arg G ht
        have sw := ty_star ht
        exact pl rfl (PE.imp (pe_callB call_isiA g1 g4 boot_isi (pa_cons px (pa_cons pe pa_nil (star_cons sw)) (star_cons su)) g3 g2 (star_cons su) (star_any fun z hz => by rw [List.mem_singleton.mp hz]; exact sw)) fun σ H Q z => i_isi1 G.kf hq z)
      | tn :: t' :: ts, ht =>
        simp only [chkIs] at ht
        split at ht
        · rename_i es kk tpos
          rw [Bool.and_eq_true] at ht
          obtain ⟨ps, hps, hl, pa⟩ := ty_args G ht.2
          have hz := of_decide_eq_true ht.1
          exact pl rfl (PE.imp (pe_callB call_isiB g1 g4 boot_isi (pa_cons px (pa_cons (pe_tup pa) pa_nil (star_cons rfl)) (star_cons su)) g3 g2 (star_cons su) (star_any fun z hz => by rw [List.mem_singleton.mp hz]; rfl)) fun σ H Q z => i_isi2 G.kf (by rw [hl, sizeLine_eq, List.length_cons, List.length_cons]; omega) hps z)
        · cases ht
    · cases h
  | .mth m o as, X, W, k, ca, r, cf, G, a, h => by
    unfold chkE at h
    split at h
    · rename_i u n apos v us cpos
      rw [Bool.and_eq_true, Bool.and_eq_true, Bool.and_eq_true, Bool.and_eq_true, Bool.and_eq_true] at h
      obtain ⟨⟨⟨⟨⟨h1, h2⟩, h3⟩, h4⟩, h5⟩, h6⟩ := h
      have e := of_decide_eq_true h1
      subst e
      have st := chk_stars h6
      refine pl rfl (PE.imp (pe_bx (mth_pa m) (mth_slot m) (mth_ty m) (mt_all (ca := ca) G.un64 m) (sE o G h5).pe (sEs as G h6) (base_eq h3) (hfew_of st (of_decide_eq_true h4)) h2 (star_cons (st v (List.mem_cons_self ..))) (star_any fun z hz => st z (List.mem_cons_of_mem _ hz))) fun σ H Q z => i_mth z)
    · rename_i u n apos cpos
      rw [Bool.and_eq_true, Bool.and_eq_true, Bool.and_eq_true, Bool.and_eq_true] at h
      obtain ⟨⟨⟨⟨h1, h2⟩, h3⟩, h5⟩, h6⟩ := h
      have e := of_decide_eq_true h1
      subst e
      cases as with
      | cons a as => cases h6
      | nil => exact pl rfl (PE.imp (pe_bx0 (mth_pa m) (mth_slot m) (mth_ty m) (mt_all (ca := ca) G.un64 m) (sE o G h5).pe (base_eq h3) h2) fun σ H Q z => tBX_nil (i_mth z))
    · cases h
  | .ix x i, X, W, k, ca, r, cf, G, a, h => by
    unfold chkE at h
    split at h
    · rw [Bool.and_eq_true, Bool.and_eq_true] at h
      exact pl rfl (PE.imp (pe_ix (ix_all (ca := ca) G.un64) (sE x G h.1.2).pe (sE i G h.2).pe (plainIx_of (by simpa using h.1.1))) fun σ H Q z => i_ix z)
    · cases h
  | .sl x lo hi l, X, W, k, ca, r, cf, G, a, h => by
    unfold chkE at h
    split at h
    · rw [Bool.and_eq_true, Bool.and_eq_true] at h
      exact pl rfl (PE.imp (pe_slice (sl_all (ca := ca)) (sE x G h.1.1).pe (sO lo G h.1.2) (sO hi G h.2)) fun σ H Q z => i_sl z)
    · cases h
  | .tup as, X, W, k, ca, r, cf, G, a, h => by
    unfold chkE at h
    split at h
    · rw [Bool.and_eq_true] at h
      refine pl rfl (PE.imp (pe_tup (sEs as G h.1)) fun σ H Q z => i_tup (fun env st ds s q => ?_) z)
      rw [dens_len q, chk_len h.1, sizeLine_eq]
      have := of_decide_eq_true h.2
      omega
    · cases h
  | .lst l as, X, W, k, ca, r, cf, G, a, h => by
    unfold chkE at h
    split at h
    · rw [Bool.and_eq_true] at h
      refine pl rfl (PE.imp (pe_lst (sEs as G h.1)) fun σ H Q z => i_lst (fun env st ds s q => ?_) z)
      rw [dens_len q, chk_len h.1, sizeLine_eq]
      have := of_decide_eq_true h.2
      omega
    · cases h
  | .dnew l, X, W, k, ca, r, cf, G, a, h => by
    unfold chkE at h
    split at h
    · exact pl rfl (e_dnew l)
    · cases h
  | .lc l elt own tg it cond, X, W, k, ca, r, cf, G, a, h => by
    unfold chkE at h
    split at h
    · rename_i u t i ifs scope pos
      simp only [Bool.and_eq_true] at h
      obtain ⟨⟨⟨⟨⟨⟨h1, h2⟩, h3⟩, h4⟩, h5⟩, h6⟩, h7⟩ := h
      have ok : BlkOk X.N X.env.scope scope (k.ownP own) := by
        rw [G.nm, G.sc]
        exact blkOk_by h1
      have hS : ∀ i ∈ tgs tg, i ∈ own := fun i hi => of_decide_eq_true (List.all_eq_true.mp h2 i hi)
      have eo : (k.ownP own).map (·.2) = own := by
        unfold Ck.ownP
        rw [List.map_map]
        exact List.map_id _
      refine pl rfl (PE.imp (pe_lc (own := k.ownP own) (g := TGM (cfgOf X ca) (tgs tg) (denT cf tg)) (tt := TB (cfgOf X ca) NoW (denc cf cond)) (te := TDx X ca NoW cf elt) G.calm G.nd (sI it G h4 h3) ok (fun s H C cl fp => sG tg (G.blk scope s H C cl fp) h5) (fun s H C cl fp => sC cond (G.blk scope s H C cl fp) h6) (fun s H C cl fp => (sE elt (G.blk scope s H C cl fp) h7).pe) (fold_of (chkI_set h4))) fun σ H Q z => ?_)
      rw [eo]
      exact i_lc hS z
    · cases h
  | .dc l ke va own tg it cond, X, W, k, ca, r, cf, G, a, h => by
    unfold chkE at h
    split at h
    · rename_i u v t i ifs scope pos
      simp only [Bool.and_eq_true] at h
      obtain ⟨⟨⟨⟨⟨⟨⟨h1, h2⟩, h3⟩, h4⟩, h5⟩, h6⟩, h7⟩, h8⟩ := h
      have ok : BlkOk X.N X.env.scope scope (k.ownP own) := by
        rw [G.nm, G.sc]
        exact blkOk_by h1
      have hS : ∀ i ∈ tgs tg, i ∈ own := fun i hi => of_decide_eq_true (List.all_eq_true.mp h2 i hi)
      have eo : (k.ownP own).map (·.2) = own := by
        unfold Ck.ownP
        rw [List.map_map]
        exact List.map_id _
      refine pl rfl (PE.imp (pe_dcA (ca := ca) (own := k.ownP own) (g := TGM (cfgOf X ca) (tgs tg) (denT cf tg)) (tt := TB (cfgOf X ca) NoW (denc cf cond)) (tk := TDx X ca NoW cf ke) (tv := TDx X ca NoW cf va) G.un64 G.calm G.nd (sI it G h4 h3) ok ⟨fun s H C cl fp => sG tg (G.blk scope s H C cl fp) h5, fun s H C cl fp => sC cond (G.blk scope s H C cl fp) h6, fun s H C cl fp => (sE ke (G.blk scope s H C cl fp) h7).pe, fun s H C cl fp => (sE va (G.blk scope s H C cl fp) h8).pe⟩ (fold_of (chkI_set h4))) fun σ H Q z => ?_)
      rw [eo]
      exact i_dc hS z
    · cases h
  | .lc2 l elt own tg it cond own1 tg1 it1 cond1, X, W, k, ca, r, cf, G, a, h => by
    unfold chkE at h
    split at h
    · rename_i u t i ifs t1 i1 ifs1 scope pos
      simp only [Bool.and_eq_true] at h
      obtain ⟨⟨⟨⟨⟨⟨⟨⟨⟨⟨⟨⟨h1, h2⟩, h3⟩, h4⟩, h5⟩, h6⟩, k2⟩, k0⟩, k3⟩, k4⟩, k5⟩, k6⟩, h7⟩ := h
      have ok : BlkOk X.N X.env.scope scope (k.ownP own) := by
        rw [G.nm, G.sc]
        exact blkOk_by h1
      have hS : ∀ i ∈ tgs tg, i ∈ own := fun i hi => of_decide_eq_true (List.all_eq_true.mp h2 i hi)
      have hS1 : ∀ i ∈ tgs tg1, i ∈ own1 := fun i hi => of_decide_eq_true (List.all_eq_true.mp k2 i hi)
      have eo : (k.ownP own).map (·.2) = own := by
        unfold Ck.ownP
        rw [List.map_map]
        exact List.map_id _
      have hv : ∀ i ∈ own1, i ∈ (k.ownP own).map (·.2) := fun i hi => by
        rw [eo]
        exact of_decide_eq_true (List.all_eq_true.mp k0 i hi)
      refine pl rfl (PE.imp (pe_lc2 (own := k.ownP own) (vs1 := own1) (g := TGM (cfgOf X ca) (tgs tg) (denT cf tg)) (tt := TB (cfgOf X ca) NoW (denc cf cond)) (wi1 := TIx X ca NoW cf it1) (g1 := TGM (cfgOf X ca) (tgs tg1) (denT cf tg1)) (tt1 := TB (cfgOf X ca) NoW (denc cf cond1)) (te := TDx X ca NoW cf elt) G.calm G.nd (sI it G h4 h3) ok hv (fun s H C cl fp => sG tg (G.blk scope s H C cl fp) h5) (fun s H C cl fp => sC cond (G.blk scope s H C cl fp) h6) (fun s H C cl fp => sI it1 (G.blk scope s H C cl fp) k4 k3) (fun s H C cl fp => sG tg1 (G.blk scope s H C cl fp) k5) (fun s H C cl fp => sC cond1 (G.blk scope s H C cl fp) k6) (fun s H C cl fp => (sE elt (G.blk scope s H C cl fp) h7).pe) (fold_of (chkI_set h4)) (fun env => fold_of (chkI_set k4))) fun σ H Q z => ?_)
      rw [eo]
      exact i_lc2 hS hS1 z
    · cases h
  | .deq x y, X, W, k, ca, r, cf, G, a, h => by
    unfold chkE at h
    split at h
    · rw [Bool.and_eq_true, Bool.and_eq_true] at h
      have e := of_decide_eq_true h.1.1
      subst e
      have px := (sE x G h.1.2).pe
      have py := (sE y G h.2).pe
      have hu : X.A.units < cLine := by have := G.un; omega
      exact ⟨PE.imp (pe_cmpR (op_dq hu) px py (nomark_of h.2)) fun σ H Q z => i_deq z, fun _ => PT.imp (pt_cmpR (op_dq hu) px py (nomark_of h.2)) fun σ H Q z => i_deq (tb_td (m := den cf (.deq x y)) bl_deq (z.unf fun env st => denc_some _ env st)), (fun z => nomatch z)⟩
    · cases h
  | .cat x y, X, W, k, ca, r, cf, G, a, h => by
    unfold chkE at h
    split at h
    · rw [Bool.and_eq_true] at h
      exact pl rfl (PE.imp (pe_op (op_bop .add) (sE x G h.1).pe (sE y G h.2).pe) fun σ H Q z => i_cat z)
    · cases h
  | .dd l as, X, W, k, ca, r, cf, G, a, h => by
    unfold chkE at h
    split at h
    · rename_i ks vs pos
      simp only [Bool.and_eq_true, decide_eq_true_eq] at h
      obtain ⟨⟨h1, h2⟩, h3⟩ := h
      obtain ⟨hp, e1, e2, e3, e4⟩ := sP as G (pos := pos) h1
      exact pl rfl (PE.imp (pe_disp hp e3 e4 h2 h3) fun σ H Q z => i_dd (by omega) e1 z)
    · cases h
  | .frz x, X, W, k, ca, r, cf, G, a, h => by
    unfold chkE at h
    rw [Bool.and_eq_true] at h
    exact pl h.2 (PE.imp (sE x G h.1).pe fun σ H Q z => i_frz z)
  | .att c f x, X, W, k, ca, r, cf, G, a, h => by
    unfold chkE at h
    split at h
    · simp only [Bool.and_eq_true] at h
      obtain ⟨⟨⟨h1, h2⟩, h3⟩, h4⟩ := h
      have e := of_decide_eq_true h1
      subst e
      exact pl rfl (e_att G (of_decide_eq_true h2) h3 (sE x G h4).pe)
    · cases h
  | .new c i as, X, W, k, ca, r, cf, G, a, h => by
    unfold chkE at h
    split at h
    · simp only [Bool.and_eq_true] at h
      obtain ⟨⟨⟨h1, h2⟩, h3⟩, h4⟩ := h
      have e := of_decide_eq_true h1
      subst e
      exact pl rfl (e_new G (of_decide_eq_true h3) h2 (chk_stars h4) (sEs as G h4))
    · cases h
  | .con x p, X, W, k, ca, r, cf, G, a, h => by
    unfold chkE at h
    split at h
    · rw [Bool.and_eq_true, Bool.and_eq_true] at h
      have e := of_decide_eq_true h.1.1
      subst e
      obtain ⟨g1, g2, _⟩ := G.gl h.1.2
      obtain ⟨u, v, m, rv, rp⟩ := G.con _ (of_decide_eq_true h.2)
      refine pl rfl (PE.imp (pe_glob g1 m rv g2) fun σ H Q z => ?_)
      obtain ⟨g, env, st, re, w, z⟩ := z
      rw [den] at z
      exact end_at z w (rp g.F H)
    · cases h
theorem sP : ∀ (es : Exs) {X : Cx} {W : WX} {k : Ck} {ca : Str → Option Addr} {r : Nat} {cf : CF} (G : Gx X W k ca r cf) {pos : Pos} {ks : List (Option Expr)} {vs : List Expr}, chkP k es ks vs = true →
    PPs X pos ks vs (trsOf X ca W cf es) ∧ es.even = true ∧ es.len = 2 * ks.length ∧ ks.all (·.isSome) = true ∧ ks.length = vs.length
  | .nil, X, W, k, ca, r, cf, G, pos, ks, vs, h => by
    unfold chkP at h
    cases ks with
    | nil =>
      cases vs with
      | nil => exact ⟨pps_nil, rfl, rfl, rfl, rfl⟩
      | cons a b => cases h
    | cons a b => cases h
  | .cons x .nil, X, W, k, ca, r, cf, G, pos, ks, vs, h => by
    unfold chkP at h
    cases h
  | .cons x (.cons y ys), X, W, k, ca, r, cf, G, pos, ks, vs, h => by
    unfold chkP at h
    match ks, vs, h with
    | some a :: ks, b :: vs, h =>
      simp only [Bool.and_eq_true] at h
      obtain ⟨⟨h1, h2⟩, h3⟩ := h
      obtain ⟨p, e1, e2, e3, e4⟩ := sP ys G (pos := pos) h3
      refine ⟨pps_cons (sE x G h1).pe (sE y G h2).pe p, e1, ?_, by rw [List.all_cons, e3]; rfl, by rw [List.length_cons, List.length_cons, e4]⟩
      unfold Exs.len Exs.len
      rw [List.length_cons]
      omega
    | none :: ks, _, h => cases h
    | [], _, h => cases h
    | some a :: ks, [], h => cases h
theorem sEs : ∀ (es : Exs) {X : Cx} {W : WX} {k : Ck} {ca : Str → Option Addr} {r : Nat} {cf : CF} (G : Gx X W k ca r cf) {as : List Expr}, chkEs k es as = true → PA X as (TAx X ca W cf es)
  | .nil, X, W, k, ca, r, cf, G, as, h => by
    unfold chkEs at h
    cases as with
    | nil => exact PA.imp pa_nil fun σ H Q z => a_nil z
    | cons a b => cases h
  | .cons x xs, X, W, k, ca, r, cf, G, as, h => by
    unfold chkEs at h
    split at h
    · rw [Bool.and_eq_true, Bool.and_eq_true] at h
      exact PA.imp (pa_cons (sE x G h.1.2).pe (sEs xs G h.2) (star_cons (by simpa using h.1.1))) fun σ H Q z => a_cons z
    · cases h
theorem sO : ∀ (o : OEx) {X : Cx} {W : WX} {k : Ck} {ca : Str → Option Addr} {r : Nat} {cf : CF} (G : Gx X W k ca r cf) {a : Option Expr}, chkO k o a = true → PO X a (TOx X ca W cf o)
  | .none, X, W, k, ca, r, cf, G, a, h => by
    unfold chkO at h
    cases a with
    | none => exact o_none
    | some a => cases h
  | .some x, X, W, k, ca, r, cf, G, a, h => by
    unfold chkO at h
    split at h
    · exact o_some (sE x G h).pe
    · cases h
theorem sC : ∀ (o : OEx) {X : Cx} {W : WX} {k : Ck} {ca : Str → Option Addr} {r : Nat} {cf : CF} (G : Gx X W k ca r cf) {as : List Expr}, chkC k o as = true → PTs X as (TB (cfgOf X ca) W (denc cf o))
  | .none, X, W, k, ca, r, cf, G, as, h => by
    unfold chkC at h
    cases as with
    | cons a b => cases h
    | nil =>
      refine PTs.imp pts_nil fun σ H Q z => ?_
      obtain ⟨g, env, st, re, w, z⟩ := z
      rw [denc] at z
      exact z g H true Ext.refl rfl w
  | .some x, X, W, k, ca, r, cf, G, as, h => by
    unfold chkC at h
    split at h
    · rw [Bool.and_eq_true] at h
      exact pts_one ((sE x G h.1).pt h.2)
    · cases h
theorem sG : ∀ (t : Tg) {X : Cx} {W : WX} {k : Ck} {ca : Str → Option Addr} {r : Nat} {cf : CF} (G : Gx X W k ca r cf) {a : Expr}, chkG k t a = true → PG X a (TGM (cfgOf X ca) (tgs t) (denT cf t))
  | .nm i, X, W, k, ca, r, cf, G, a, h => by
    unfold chkG at h
    split at h
    · rw [Bool.and_eq_true] at h
      obtain ⟨l1, l2⟩ := G.loc h.2
      exact PG.imp (pg_name G.nd (G.slot h.1) l1 l2) fun v σ H Q z => i_nm z
    · cases h
  | .tup ts, X, W, k, ca, r, cf, G, a, h => by
    unfold chkG at h
    split at h
    · obtain ⟨l, st⟩ := chkGs_len h
      obtain ⟨a1, a2⟩ := asg_len (env := X.env) st
      exact PG.imp (pg_tup G.calm (sGs ts G h) rfl a2) fun v σ H Q z => i_gtup (fun ds env st nf => by rw [denTs_len nf, l, a1]) z
    · cases h
  | .sub x i, X, W, k, ca, r, cf, G, a, h => by
    unfold chkG at h
    split at h
    · rw [Bool.and_eq_true, Bool.and_eq_true] at h
      exact PG.imp (pg_sub (sE x G h.1.2).pe (sE i G h.2).pe (set_all (ca := ca) G.un64) (sub_asg (by simpa using h.1.1))) fun v σ H Q z => i_gsub z
    · cases h
theorem sGs : ∀ (ts : Tgs) {X : Cx} {W : WX} {k : Ck} {ca : Str → Option Addr} {r : Nat} {cf : CF} (G : Gx X W k ca r cf) {as : List Expr}, chkGs k ts as = true → PGs X as (TGMs (cfgOf X ca) (tgss ts) (denTs cf ts))
  | .nil, X, W, k, ca, r, cf, G, as, h => by
    unfold chkGs at h
    cases as with
    | nil => exact PGs.imp pgs_nil fun v σ H Q z => i_gnil z
    | cons a b => cases h
  | .cons t ts, X, W, k, ca, r, cf, G, as, h => by
    unfold chkGs at h
    split at h
    · rename_i a as
      rw [Bool.and_eq_true, Bool.and_eq_true] at h
      refine PGs.imp (pgs_cons (sG t G h.1.2) (sGs ts G h.2) ?_) fun v σ H Q z => i_gcons z
      rw [asg_cons (by simpa using h.1.1)]
      rfl
    · cases h
theorem sI : ∀ (i : It) {X : Cx} {W : WX} {k : Ck} {ca : Str → Option Addr} {r : Nat} {cf : CF} (G : Gx X W k ca r cf) {a tg : Expr}, chkI k i a = true → enumOk i tg = true → PI X tg a (TIx X ca W cf i)
  | .seq x, X, W, k, ca, r, cf, G, a, tg, h, ht => by
    unfold chkI at h
    exact it_seq (sE x G h).pe
  | .rng1 x, X, W, k, ca, r, cf, G, a, tg, h, ht => by
    unfold chkI at h
    split at h
    · rw [Bool.and_eq_true, Bool.and_eq_true] at h
      obtain ⟨rfl, g1, g2, g3, g4⟩ := G.blt h.1.1
      exact it_rng1 g1 g4 (by simpa using h.1.2) (sE x G h.2).pe
    · cases h
  | .rng2 x y, X, W, k, ca, r, cf, G, a, tg, h, ht => by
    unfold chkI at h
    split at h
    · rw [Bool.and_eq_true, Bool.and_eq_true, Bool.and_eq_true, Bool.and_eq_true] at h
      obtain ⟨rfl, g1, g2, g3, g4⟩ := G.blt h.1.1.1.1
      exact it_rng2 g1 g4 (by simpa using h.1.1.1.2) (by simpa using h.1.1.2) (sE x G h.1.2).pe (sE y G h.2).pe
    · cases h
  | .enum x, X, W, k, ca, r, cf, G, a, tg, h, ht => by
    unfold chkI at h
    split at h
    · rw [Bool.and_eq_true, Bool.and_eq_true] at h
      obtain ⟨rfl, g1, g2, g3, g4⟩ := G.blt h.1.1
      exact it_enum g1 g4 ht (by simpa using h.1.2) (sE x G h.2).pe
    · cases h
  | .rev x, X, W, k, ca, r, cf, G, a, tg, h, ht => by
    unfold chkI at h
    split at h
    · rw [Bool.and_eq_true, Bool.and_eq_true] at h
      obtain ⟨rfl, g1, g2, g3, g4⟩ := G.blt h.1.1
      exact it_rev g1 g4 (by simpa using h.1.2) (sE x G h.2).pe
    · cases h
end
end PyM
namespace PyM
open PySem PySem.Spec PyProof.Rows L2

/-! ### exceptions: raise, try .. except -/
theorem sw_no {v : Expr} {t : Option Expr} {l : Nat} {env : PySem.Env} (h : isComp v = false) : swapsWith v t l env = pure false := by
  cases v <;> first | rfl | cases h
theorem RepX.mono {c : Cfg} {g g1 : Gh} {N N1 : Nat} {H H1 : Hp} {e : Exc} {cls : Value} {d : Option Addr} (x : Ext g N H g1 N1 H1) (h : RepX c g H e cls d) : RepX c g1 H1 e cls d := by
  obtain ⟨h1, h2⟩ := h
  refine ⟨h1, ?_⟩
  rcases h2 with h2 | ⟨ne, a, fvs, e1, f, e2, rf⟩
  · exact .inl h2
  · exact .inr ⟨ne, a, fvs, e1, x.sub _ f, (x.frF _ _ e2 f).nd id, RepFs.mono x.mono _ _ rf⟩
theorem NmV.same {mg : Str → Option Value} {x : Str} {u v : Value} (a : NmV mg x u) (b : NmV mg x v) : u = v := by
  rcases a with ⟨A, rfl, h⟩ | ⟨n, rfl, h, h2, _⟩ <;> rcases b with ⟨B, rfl, k⟩ | ⟨m, rfl, k, k2, _⟩
  · rw [h] at k; cases k; rfl
  · rw [h] at k; cases k
  · rw [h] at k; cases k
  · rw [h2] at k2; cases k2; rfl
/-- isinstance(e, c), e the exception that the suite holds -/
def rIsX (K : PySem.W.Frag) (D a : Addr) (d : Option Addr) : List V → Hp → VK → Prop := fun xs H Q => ∃ (c : V) (cv : Value) (b : Bool), xs = [.ref a, c] ∧ (∀ u, RelV c u → u = cv) ∧ PySem.W.kitOne K (.ref D) cv = some b ∧ (d = none ∨ ∃ dd fvs, d = some dd ∧ H dd = some (.xd fvs)) ∧ Q (.bl b) H
theorem call_isX {X : Cx} {a D : Addr} {oe : Obj} {d : Option Addr} {pn : List (Addr × Obj)} (C : ExcC X.K D) (hz : Zc (.ref D) d oe) (hf : ∃ vs, oe.data = .fields vs) : CallR (X.suite a ((a, oe) :: pn)) (.builtin "isinstance") (rIsX X.K D a d) := by
  intro pins s σ H xs us Q I r h
  obtain ⟨c, cv, b, rfl, hcv, e, hd, q⟩ := h
  cases r with
  | cons rx rr =>
    cases rr with
    | cons rt rr =>
      cases rr
      cases rx
      have ec := hcv _ rt
      subst ec
      obtain ⟨hget, _⟩ := I.pin (a, oe) (List.mem_append.mpr (.inl List.mem_cons_self))
      obtain ⟨vs, hv⟩ := hf
      have J : ∃ od, PySem.W.InstAt s.heap a oe D od := by
        have nc : PySem.W.notCls oe := by unfold PySem.W.notCls; rw [hv] <;> rfl
        rcases hd with rfl | ⟨dd, fvs, rfl, ea⟩
        · exact ⟨none, hget, hz.1, nc, by rw [hz.2] <;> trivial⟩
        · have hx : ObjOk X.prog X.w H s.heap dd (.xd fvs) := I.hok dd _ ea
          obtain ⟨mA, hns, hr⟩ := hx
          obtain ⟨od, ho, hl⟩ := lookIn_ns hns
          exact ⟨some od, hget, hz.1, nc, by rw [hz.2]; exact ho⟩
      obtain ⟨od, J⟩ := J
      have hcl : (PySem.W.clsIn X.K D).isSome = true := by
        obtain ⟨cd, hc, _⟩ := PySem.W.any_some C.hd
        rw [hc]; rfl
      exact PySem.W.kia_one (PySem.W.kitx_exc hcl C.hg C.hk C.hs C.ha C.hn C.ht C.hm) I.kIn J e (fun z => nomatch z) fun tk => ⟨.bl b, H, I.kept (t' := tk) fun _ _ z => z, rfl, q⟩
/-- C() -/
theorem pmk0 {X : Cx} {C : Addr} {bmB : List Value} {B newId initId : String} {x : Str} {p pos : Pos} (F : ExcBaseFacts B newId initId bmB) (q : PySem.W.excIn X.K C bmB newId = true) (gC : X.mg x = some (.ref C)) (kC : PySem.W.keepIn X.K (.ref C) = true) (r : Raises X (.ref C)) (hg : Gl X x)
    (hdb : (x == ("__debug__" : Str)) = false) : PMk X (.Call (.Name x p) [] [] pos) (fun _ H Q => Q (.ref C) none H) := by
  intro pins s σ H Q I h
  refine wpAny_Call_Name_kw (ld_glob I hg gC ?_ hdb)
  refine PySem.W.callWith_K0 I.kIn kC ?_
  obtain ⟨bm, N, nm, qn, bs, hdct, sn, sub, ab, col, dd, k0, k1, k2, k3, k5, mN, hC, hN, hni, T⟩ := exc_obj I.kIn q
  refine wpAny_call_exc_subT F T hC hN hni (fun h' e hm => ?_) (Nat.zero_le _)
  exact mk_of I hm r h (I.hok.gone hm.new)
section
variable {X : Cx} {W : WX} {k : Ck} {ca : Str → Option Addr} {r : Nat} {cf : CF} {a : Addr} {oe : Obj} {cls : Value} {d : Option Addr} {pn : List (Addr × Obj)} {o : Option Nat}
/-- what is known of the exception that a suite holds -/
structure ExAt (X : Cx) (ca : Str → Option Addr) (k : Ck) (a : Addr) (o : Option Nat) (cls : Value) (d : Option Addr) (g : Gh) (st : Sto) (H : Hp) (σ : PSt) (e : Exc) : Prop where
  wd : Wd (cfgOf X ca) g st H
  rx : RepX (cfgOf X ca) g H e cls d
  sl : ∀ i, o = some i → σ[i]? = some (some (.ref a))
  kn : ∃ q ∈ k.xcs, q.c = e.c
def TXh {α β : Type} (X : Cx) (ca : Str → Option Addr) (k : Ck) (a : Addr) (o : Option Nat) (cls : Value) (d : Option Addr) (rep : Gh → Hp → α → β → Prop) (m : Exc → Option α) : PSt → Hp → (β → Hp → Prop) → Prop := fun σ H Q =>
  ∃ g st e x, ExAt X ca k a o cls d g st H σ e ∧ m e = some x ∧ ∀ g' H' v, Ext g st.length H g' st.length H' → rep g' H' x v → Wd (cfgOf X ca) g' st H' → Q v H'
abbrev TH1 (X : Cx) (ca : Str → Option Addr) (k : Ck) (a : Addr) (o : Option Nat) (cls : Value) (d : Option Addr) (x : Hx) : TE := TXh X ca k a o cls d (fun g H p v => RepP (cfgOf X ca) g.F H p v) (hx1 x)
abbrev THs (X : Cx) (ca : Str → Option Addr) (k : Ck) (a : Addr) (o : Option Nat) (cls : Value) (d : Option Addr) (x : Hx) : TA := TXh X ca k a o cls d (fun g H p v => RepPs (cfgOf X ca) g.F H p v) (hxs x)
abbrev THt (X : Cx) (ca : Str → Option Addr) (k : Ck) (a : Addr) (o : Option Nat) (cls : Value) (d : Option Addr) (x : Hx) : TT := TXh X ca k a o cls d (fun _ _ (p : PyM.P) (b : Bool) => p = .bl b) (hx1 x)
theorem ExAt.mono {g g' : Gh} {st : Sto} {H H' : Hp} {σ : PSt} {e : Exc} (A : ExAt X ca k a o cls d g st H σ e) (x : Ext g st.length H g' st.length H') (w : Wd (cfgOf X ca) g' st H') : ExAt X ca k a o cls d g' st H' σ e := ⟨w, A.rx.mono x, A.sl, A.kn⟩
theorem one_len {x : Hx} (h : isOne x = true) {e : Exc} {ps : List PyM.P} (hs : hxs x e = some ps) : ∃ p, ps = [p] := by
  cases x <;> first | (cases h; done) | skip
  · rw [hxs] at hs; cases hs; exact ⟨_, rfl⟩
  · rw [hxs] at hs
    obtain ⟨p, _, rfl⟩ := Option.map_eq_some_iff.mp hs
    exact ⟨_, rfl⟩
  · rw [hxs] at hs
    split at hs
    · cases hs; exact ⟨_, rfl⟩
    · split at hs
      · cases hs; exact ⟨_, rfl⟩
      · cases hs
  · rw [hxs] at hs
    split at hs
    · split at hs
      · cases hs; exact ⟨_, rfl⟩
      · cases hs
    · cases hs; exact ⟨_, rfl⟩
    · cases hs
  · rw [hxs] at hs
    split at hs
    · cases hs; exact ⟨_, rfl⟩
    · cases hs
  · rw [hxs] at hs
    obtain ⟨p, _, rfl⟩ := Option.map_eq_some_iff.mp hs
    exact ⟨_, rfl⟩
theorem hx1_of {x : Hx} {e : Exc} {p : PyM.P} (h : hx1 x e = some p) : hxs x e = some [p] := by
  unfold hx1 at h
  split at h
  · rename_i q hq
    cases h; exact hq
  · cases h
theorem PA.one {e : Expr} {te : TE} (h : PE X e te) (hs : isStar e = false) : PA X [e] (fun σ H Q => te σ H fun v H1 => Q [v] H1) := pa_cons h pa_nil (star_cons hs)
/-- the class of the exception -/
theorem Gx.exc (G : Gx X W k ca r cf) {e : Exc} (h : ∃ q ∈ k.xcs, q.c = e.c) : ∃ q ∈ k.xcs, ExcC X.K (He.ga X.K e.c) ∧ ∀ f ∈ q.fno, PySem.W.findIn X.K (.ref (He.ga X.K e.c)) f = some none := by
  obtain ⟨q, hq, hc⟩ := h
  rw [← hc]
  exact ⟨q, hq, (G.xcs q hq).ec, (G.xcs q hq).fo⟩
theorem Gx.isx (G : Gx X W k ca r cf) {c : Str} {b : Bool} {y : Str} (h : k.isx c b y = true) : (∃ q ∈ k.xcs, q.c = y) ∧ ∃ cv, NmV X.mg c cv ∧ PySem.W.exmOne X.K (.ref (He.ga X.K y)) cv = some b ∧ PySem.W.kitOne X.K (.ref (He.ga X.K y)) cv = some b := by
  obtain ⟨q, hq, h⟩ := List.any_eq_true.mp h
  rw [Bool.and_eq_true] at h
  have e := of_decide_eq_true h.1
  subst e
  exact ⟨⟨q, hq, rfl⟩, (G.xcs q hq).is _ (of_decide_eq_true h.2)⟩
theorem cls_arg (G : Gx X W k ca r cf) {c : Str} {cv : Value} {p : Pos} (hg : k.gl c = true) (h : NmV X.mg c cv) : ∃ v : V, (∀ u, RelV v u → u = cv) ∧ PE (X.suite a ((a, oe) :: pn)) (.Name c p) (tC v) := by
  obtain ⟨g1, g2, g3⟩ := G.gl hg
  rcases h with ⟨A, rfl, hm⟩ | ⟨n, rfl, hm, hb, hn⟩
  · exact ⟨.ref A, fun u z => z, pe_glob (X := X.suite a ((a, oe) :: pn)) g1 hm rfl g2⟩
  · exact ⟨.ty n, fun u z => z, pe_bltn (X := X.suite a ((a, oe) :: pn)) g1 hm hb rfl hn g2⟩
theorem len_of {e : Exc} : ∀ (x : Hx) {us : List Expr} {ps : List PyM.P}, chkX k o x us = true → hxs x e = some ps → ps.length = us.length := by
  have one : ∀ {x : Hx} {us : List Expr} {ps : List PyM.P}, isOne x = true → (∃ u, us = [u]) → hxs x e = some ps → ps.length = us.length := by
    rintro x us ps h1 ⟨u, rfl⟩ h
    obtain ⟨p, rfl⟩ := one_len h1 h
    rfl
  intro x
  induction x with
  | nil =>
    intro us ps h hs
    unfold chkX at h
    rw [hxs] at hs
    cases hs
    cases us with
    | nil => rfl
    | cons _ _ => cases h
  | cons x xs ih1 ih2 =>
    intro us ps h hs
    unfold chkX at h
    split at h
    · simp only [Bool.and_eq_true] at h
      rw [hxs] at hs
      split at hs
      · rename_i p ps' e1 e2
        cases hs
        rw [List.length_cons, List.length_cons, ih2 h.2 e2]
      · cases hs
    · cases h
  | lit p =>
    intro us ps h hs
    refine one rfl ?_ hs
    unfold chkX at h
    split at h
    · exact ⟨_, rfl⟩
    · cases h
  | fld p =>
    intro us ps h hs
    refine one rfl ?_ hs
    unfold chkX at h
    split at h
    · exact ⟨_, rfl⟩
    · cases h
  | isi p _ _ =>
    intro us ps h hs
    refine one rfl ?_ hs
    unfold chkX at h
    split at h
    · exact ⟨_, rfl⟩
    · cases h
  | tup p _ =>
    intro us ps h hs
    refine one rfl ?_ hs
    unfold chkX at h
    split at h
    · exact ⟨_, rfl⟩
    · cases h
  | and _ _ _ _ => intro us ps h hs; unfold chkX at h; cases h
  | not _ _ => intro us ps h hs; unfold chkX at h; cases h
theorem xX (G : Gx X W k ca r cf) (hz : Zc cls d oe) (hf : ∃ vs, oe.data = .fields vs) : ∀ (x : Hx) {us : List Expr}, chkX k o x us = true → PA (X.suite a ((a, oe) :: pn)) us (THs X ca k a o cls d x) ∧ (isOne x = true → ∀ u, us = [u] → PE (X.suite a ((a, oe) :: pn)) u (TH1 X ca k a o cls d x)) := by
  have lift : ∀ {x : Hx} {u : Expr}, isOne x = true → isStar u = false → PE (X.suite a ((a, oe) :: pn)) u (TH1 X ca k a o cls d x) → PA (X.suite a ((a, oe) :: pn)) [u] (THs X ca k a o cls d x) ∧ (isOne x = true → ∀ u', [u] = [u'] → PE (X.suite a ((a, oe) :: pn)) u' (TH1 X ca k a o cls d x)) := by
    intro x u h1 hs pe
    refine ⟨PA.imp (PA.one pe hs) fun σ H Q ⟨g, st, e, ps, A, hm, q⟩ => ?_, fun _ u' hu => by cases hu; exact pe⟩
    obtain ⟨p, rfl⟩ := one_len h1 hm
    refine ⟨g, st, e, p, A, by unfold hx1; rw [hm], fun g' H' v x rv w => q g' H' [v] x ?_ w⟩
    show RepPs _ _ _ [p] [v]
    rw [RepPs]
    exact ⟨v, [], rfl, rv, by rw [RepPs]⟩
  intro x
  induction x with
  | nil =>
    intro us h
    unfold chkX at h
    cases us with
    | nil =>
      refine ⟨PA.imp pa_nil fun σ H Q ⟨g, st, e, ps, A, hm, q⟩ => ?_, fun h => nomatch h⟩
      rw [hxs] at hm
      cases hm
      exact q g H [] Ext.refl (by show RepPs _ _ _ _ _; rw [RepPs]) A.wd
    | cons a b => cases h
  | lit p =>
    intro us h
    unfold chkX at h
    split at h
    · rename_i c _ _ e
      refine lift rfl rfl ?_
      refine PE.imp (e_lit (X := X.suite a ((a, oe) :: pn)) (W := NoW) (ca := ca) (cf := fun _ _ _ => .fail) h) fun σ H Q ⟨g, st, e, x, A, hm, q⟩ => ?_
      have hm := hx1_of hm
      rw [hxs] at hm
      cases hm
      refine ⟨g, List.replicate σ.length none, st, ⟨by simp, fun i d e => ?_⟩, A.wd, ?_⟩
      · rw [List.getElem?_replicate] at e
        split at e <;> cases e
      · rw [den]
        exact fun g' H' v x rv w => q g' H' v x rv w
    · cases h
  | fld f =>
    intro us h
    unfold chkX at h
    split at h
    · rename_i n p1 g p2
      simp only [Bool.and_eq_true] at h
      obtain ⟨⟨h1, h2⟩, h3⟩ := h
      have e0 := of_decide_eq_true h1
      subst e0
      unfold Ck.exn at h2
      split at h2
      · rename_i i
        rw [Bool.and_eq_true] at h2
        obtain ⟨v1, v2, v3⟩ := G.vis h2.2
        have pv : PE (X.suite a ((a, oe) :: pn)) (.Name n p1) (tVar i) := pe_var (X := X.suite a ((a, oe) :: pn)) (G.slot h2.1) v1 v2 v3
        refine lift rfl rfl ⟨fun pins s σ H Q I ⟨g, st, e, x, A, hm, q⟩ => ?_⟩
        obtain ⟨qx, hq, E, O⟩ := G.exc A.kn
        have hm := hx1_of hm
        rw [hxs] at hm
        obtain ⟨p, hp, e1⟩ := Option.map_eq_some_iff.mp hm
        cases e1
        obtain ⟨r1, r2⟩ := A.rx
        have T : XfC X.K (He.ga X.K e.c) := ⟨E.hg, E.hk, E.hs, E.hd⟩
        have hno : PySem.W.findIn X.K (.ref (He.ga X.K e.c)) f = some none := O f (of_decide_eq_true (List.all_eq_true.mp h3 qx hq))
        refine (pe_xf (X := X) T hno hz hf pv rfl).run pins s σ H Q I ⟨_, A.sl i rfl, rfl, r1, ?_⟩
        rcases r2 with ⟨z, _⟩ | ⟨ne, dd, fvs, e2, F, e3, rf⟩
        · rw [z] at hp; cases hp
        · obtain ⟨v, ev, rv⟩ := fs_lk rf hp
          exact ⟨dd, fvs, v, e2, e3, ev, q g H v Ext.refl rv A.wd⟩
      · cases h2
    · cases h
  | isi c yes no =>
    intro us h
    unfold chkX at h
    split at h
    · rename_i f pf n p1 x p2 pos
      simp only [Bool.and_eq_true] at h
      obtain ⟨⟨⟨⟨⟨⟨h1, h2⟩, h3⟩, h4⟩, h5⟩, h6⟩, h7⟩ := h
      have e0 := of_decide_eq_true h3
      subst e0
      obtain ⟨rfl, g1, g2, g3, g4⟩ := G.blt h1
      unfold Ck.exn at h2
      split at h2
      · rename_i i
        rw [Bool.and_eq_true] at h2
        obtain ⟨v1, v2, v3⟩ := G.vis h2.2
        have pv : PE (X.suite a ((a, oe) :: pn)) (.Name n p1) (tVar i) := pe_var (X := X.suite a ((a, oe) :: pn)) (G.slot h2.1) v1 v2 v3
        refine lift rfl rfl ⟨fun pins s σ H Q I ⟨g, st, e, y, A, hm, q⟩ => ?_⟩
        have hm := hx1_of hm
        have hb : ∃ b, y = .bl b ∧ k.isx x b e.c = true := by
          rw [hxs] at hm
          split at hm
          · rename_i hy
            cases hm
            exact ⟨true, rfl, List.all_eq_true.mp h6 _ hy⟩
          · split at hm
            · rename_i hy
              cases hm
              exact ⟨false, rfl, List.all_eq_true.mp h7 _ hy⟩
            · cases hm
        obtain ⟨b, rfl, hx⟩ := hb
        obtain ⟨kn, cv, nv, _, ko⟩ := G.isx hx
        obtain ⟨qx, hq, E, O⟩ := G.exc A.kn
        obtain ⟨r1, r2⟩ := A.rx
        have hz2 : Zc (.ref (He.ga X.K e.c)) d oe := by rw [← show cls = .ref (He.ga X.K e.c) from r1]; exact hz
        obtain ⟨v, hv, pc⟩ := cls_arg (a := a) (oe := oe) (pn := pn) (p := p2) G h4 nv
        refine (pe_callB (X := X.suite a ((a, oe) :: pn)) (p := pf) (pos := pos) (call_isX (pn := pn) E hz2 hf) g1 g4 boot_isi (pa_cons pv (pa_cons pc pa_nil (star_cons rfl)) (star_cons rfl)) g3 g2 (star_cons rfl) rfl).run pins s σ H Q I ?_
        refine ⟨_, A.sl i rfl, v, cv, b, rfl, hv, ko, ?_, q g H _ Ext.refl (by show RepP _ _ _ _ _; rw [RepP]) A.wd⟩
        rcases r2 with ⟨_, z⟩ | ⟨ne, dd, fvs, e2, F, e3, rf⟩
        · exact .inl z
        · exact .inr ⟨dd, fvs, e2, e3⟩
      · cases h2
    · cases h
  | and x y => intro us h; unfold chkX at h; cases h
  | not x => intro us h; unfold chkX at h; cases h
  | cons x xs ih1 ih2 =>
    intro us h
    unfold chkX at h
    split at h
    · rename_i u us
      simp only [Bool.and_eq_true] at h
      obtain ⟨⟨⟨h1, h2⟩, h3⟩, h4⟩ := h
      have pe := (ih1 h3).2 h2 u rfl
      have pa := (ih2 h4).1
      refine ⟨PA.imp (pa_cons pe pa (star_cons (by simpa using h1))) fun σ H Q ⟨g, st, e, ps, A, hm, q⟩ => ?_, fun h => nomatch h⟩
      rw [hxs] at hm
      split at hm
      · rename_i p ps' e1 e2
        cases hm
        refine ⟨g, st, e, p, A, by unfold hx1; rw [e1], fun g' H' v x rv w => ⟨g', st, e, ps', A.mono x w, e2, fun g2 H2 vs x2 rvs w2 => q g2 H2 (v :: vs) (x.of w rfl x2) ?_ w2⟩⟩
        show RepPs _ _ _ _ _
        rw [RepPs]
        exact ⟨v, vs, rfl, RepP.mono x2.mono _ _ rv, rvs⟩
      · cases hm
    · cases h
  | tup xs ih =>
    intro us h
    unfold chkX at h
    split at h
    · rename_i es n pos
      rw [Bool.and_eq_true] at h
      have pa := (ih h.1).1
      refine lift rfl rfl (PE.imp (pe_tup pa) fun σ H Q ⟨g, st, e, p, A, hm, q⟩ => ?_)
      have hm := hx1_of hm
      rw [hxs] at hm
      obtain ⟨ps, e1, e2⟩ := Option.map_eq_some_iff.mp hm
      cases e2
      have hl : ps.length = es.length := len_of _ h.1 e1
      refine ⟨g, st, e, ps, A, e1, fun g' H' vs x rv w => ⟨?_, fun p hp => ?_⟩⟩
      · rw [RepPs.len rv, hl, sizeLine_eq]
        have := of_decide_eq_true h.2
        omega
      · have hz : vs.length ≤ sizeLine := by
          rw [RepPs.len rv, hl, sizeLine_eq]
          have := of_decide_eq_true h.2
          omega
        exact Ans.tup (c := cfgOf X ca) (F := g'.F) (H := H') (Q := Q) (fun F2 H2 v px rp => q ⟨g'.lm, F2⟩ H2 v (x.of w rfl px.ext) rp (w.ext px)) rv hz p hp
    · cases h
theorem xT (G : Gx X W k ca r cf) (hz : Zc cls d oe) (hf : ∃ vs, oe.data = .fields vs) : ∀ (x : Hx) {u : Expr}, chkXt k o x u = true → PT (X.suite a ((a, oe) :: pn)) u (THt X ca k a o cls d x) := by
  intro x
  induction x with
  | isi c yes no =>
    intro u h
    unfold chkXt at h
    have pe := (xX (a := a) (pn := pn) G hz hf (.isi c yes no) h).2 rfl u rfl
    have hp : plainT u = true := by
      unfold chkX at h
      split at h
      · rename_i e
        cases e; rfl
      · cases h
    refine PT.imp (pt_truth pe fun wh => ?_) fun σ H Q ⟨g, st, e, p, A, hm, q⟩ => ⟨g, st, e, p, A, hm, fun g' H' v x rv w => ?_⟩
    · cases u <;> first | rfl | (cases hp; done) | skip
      rename_i op a p
      cases op <;> first | rfl | (cases hp; done)
    · have hb : ∃ b, p = .bl b := by
        have hm := hx1_of hm
        rw [hxs] at hm
        split at hm
        · cases hm; exact ⟨_, rfl⟩
        · split at hm
          · cases hm; exact ⟨_, rfl⟩
          · cases hm
      obtain ⟨b, rfl⟩ := hb
      rw [RepP] at rv
      subst rv
      exact ⟨b, rfl, q g' H' b x rfl w⟩
  | and x y ih1 ih2 =>
    intro u h
    unfold chkXt at h
    split at h
    · rename_i u v pos
      simp only [Bool.and_eq_true] at h
      obtain ⟨⟨⟨h1, h2⟩, h3⟩, h4⟩ := h
      refine PT.imp (pw_and (ih1 h1) (pw_and1 (pos := pos) (ih2 h3))).pt fun σ H Q ⟨g, st, e, p, A, hm, q⟩ => ?_
      have hm := hx1_of hm
      rw [hxs] at hm
      split at hm
      · rename_i e1
        split at hm
        · rename_i y e2
          cases hm
          refine ⟨g, st, e, _, A, by unfold hx1; rw [e1], fun g' H' b x eb w => ?_⟩
          cases eb
          rw [if_pos rfl]
          exact ⟨g', st, e, _, A.mono x w, by unfold hx1; rw [e2], fun g2 H2 b x2 eb w2 => q g2 H2 b (x.of w rfl x2) eb w2⟩
        · cases hm
      · rename_i e1
        cases hm
        refine ⟨g, st, e, _, A, by unfold hx1; rw [e1], fun g' H' b x eb w => ?_⟩
        cases eb
        rw [if_neg Bool.false_ne_true]
        exact q g' H' false x rfl w
      · cases hm
    · cases h
  | not x ih =>
    intro u h
    unfold chkXt at h
    split at h
    · rename_i u pos
      rw [Bool.and_eq_true] at h
      refine PT.imp (pt_not (ih h.1)) fun σ H Q ⟨g, st, e, p, A, hm, q⟩ => ?_
      have hm := hx1_of hm
      rw [hxs] at hm
      split at hm
      · rename_i y e1
        cases hm
        refine ⟨g, st, e, _, A, by unfold hx1; rw [e1], fun g' H' b x eb w => ?_⟩
        cases eb
        exact q g' H' (!y) x rfl w
      · cases hm
    · cases h
  | _ => intros; rename_i h; unfold chkXt at h; cases h
/-- a suite's statements -/
def TSu (X : Cx) (ca : Str → Option Addr) (k : Ck) (a : Addr) (o : Option Nat) (cls : Value) (d : Option Addr) (m : Exc → Env → Sto → SR) : TS := fun D σ H =>
  ∃ g env st e, RepE (cfgOf X ca) g st.length H env σ ∧ ExAt X ca k a o cls d g st H σ e ∧ EndS (cfgOf X ca) g st H (fun _ _ _ _ => False) (m e env st) D
theorem dnM_x : ∀ (h : Hm) {e : Exc} {env : Env} {st : Sto}, (∃ env' st', dnM h e env st = .nx env' st') ∨ (∃ p, dnM h e env st = .rt (.p p) st) ∨ dnM h e env st = .fail
  | .nil, e, env, st => .inl ⟨env, st, by rw [dnM]⟩
  | .ret x r, e, env, st => by
    rw [dnM]
    split
    · exact .inr (.inl ⟨_, rfl⟩)
    · exact .inr (.inr rfl)
  | .asg i x r, e, env, st => by
    rw [dnM]
    split
    · exact dnM_x r
    · exact .inr (.inr rfl)
  | .ite c a r, e, env, st => by
    rw [dnM]
    split
    · exact dnM_x a
    · exact dnM_x r
    · exact .inr (.inr rfl)
theorem retM_x : ∀ {h : Hm}, retM h = true → ∀ {e : Exc} {env : Env} {st : Sto}, (∃ p, dnM h e env st = .rt (.p p) st) ∨ dnM h e env st = .fail
  | .nil, hr, e, env, st => nomatch hr
  | .ret x r, hr, e, env, st => by
    rw [dnM]
    split
    · exact .inl ⟨_, rfl⟩
    · exact .inr rfl
  | .asg i x r, hr, e, env, st => by
    unfold retM at hr
    rw [dnM]
    split
    · exact retM_x hr
    · exact .inr rfl
  | .ite c a r, hr, e, env, st => by
    unfold retM at hr
    rw [Bool.and_eq_true] at hr
    rw [dnM]
    split
    · exact retM_x hr.1
    · exact retM_x hr.2
    · exact .inr rfl
theorem EndS.ret {c : Cfg} {g : Gh} {st : Sto} {H : Hp} {W : WX} {r : SR} {D D' : Ends} (h : EndS c g st H W r D) (hr : (∃ p, r = .rt (.p p) st) ∨ r = .fail) (e : D.rt = D'.rt) : EndS c g st H W r D' := by
  rcases hr with ⟨p, rfl⟩ | rfl
  · exact fun g' H' v x rv w => e ▸ h g' H' v x rv w
  · exact h
theorem xM (G : Gx X W k ca r cf) (hz : Zc cls d oe) (hf : ∃ vs, oe.data = .fields vs) : ∀ (h : Hm) {as : List Stmt}, chkM k o h as = true → PSs (X.suite a ((a, oe) :: pn)) as (TSu X ca k a o cls d (dnM h)) := by
  intro h
  induction h with
  | nil =>
    intro as h
    unfold chkM at h
    cases as with
    | nil =>
      refine PSs.imp pss_nil fun D σ H ⟨g, env, st, e, re, A, z⟩ => ?_
      rw [dnM] at z
      exact z g H σ Ext.refl re A.wd
    | cons _ _ => cases h
  | ret x r ih =>
    intro as h
    unfold chkM at h
    split at h
    · rename_i u p as
      simp only [Bool.and_eq_true] at h
      obtain ⟨⟨h1, h2⟩, h3⟩ := h
      have pe := (xX (a := a) (pn := pn) G hz hf x h2).2 h1 u rfl
      refine PSs.imp (pss_cons (ps_ret pe) (ih h3)) fun D σ H ⟨g, env, st, e, re, A, z⟩ => ?_
      rw [dnM] at z
      split at z
      · rename_i p hp
        exact ⟨g, st, e, p, A, hp, fun g' H' v x rv w => z g' H' v x rv w⟩
      · exact z.elim
    · cases h
  | asg i x r ih =>
    intro as h
    unfold chkM at h
    split at h
    · rename_i n pn' u p as
      simp only [Bool.and_eq_true] at h
      obtain ⟨⟨⟨⟨⟨⟨h1, h2⟩, h3⟩, h4⟩, h5⟩, h6⟩, h7⟩ := h
      have pe := (xX (a := a) (pn := pn) G hz hf x h5).2 h4 u rfl
      obtain ⟨l1, l2⟩ := G.loc h2
      have ps : PS (X.suite a ((a, oe) :: pn)) (.Assign [.Name n pn'] u p) (tAsg (TH1 X ca k a o cls d x) (gName i)) := ps_set (X := X.suite a ((a, oe) :: pn)) G.nd (G.slot h1) l1 pe (sw_no (by simpa using h6)) l2
      refine PSs.imp (pss_cons ps (ih h7)) fun D σ H ⟨g, env, st, e, re, A, z⟩ => ?_
      rw [dnM] at z
      split at z
      · rename_i q hq
        refine ⟨g, st, e, q, A, hq, fun g' H' v x rv w => ⟨g', env.set i (some (.p q)), st, e, (re.mono x).set i rv, ⟨w, A.rx.mono x, fun j hj => ?_, A.kn⟩, EndS.from x w z⟩⟩
        have ne : i ≠ j := fun e => of_decide_eq_true h3 (e ▸ hj)
        rw [List.getElem?_set_ne ne]
        exact A.sl j hj
      · exact z.elim
    · cases h
  | ite c b r ih1 ih2 =>
    intro as h
    unfold chkM at h
    split at h
    · rename_i t bb p as
      simp only [Bool.and_eq_true] at h
      obtain ⟨⟨⟨⟨h1, h2⟩, h3⟩, h4⟩, h5⟩ := h
      refine PSs.imp (pss_cons (ps_if (xT (a := a) (pn := pn) G hz hf c h1) (ih1 h4) pss_nil) (ih2 h5)) fun D σ H ⟨g, env, st, e, re, A, z⟩ => ?_
      rw [dnM] at z
      split at z
      · rename_i hc
        refine ⟨g, st, e, _, A, hc, fun g' H' b x eb w => ?_⟩
        cases eb
        rw [if_pos rfl]
        exact ⟨g', env, st, e, re.mono x, A.mono x w, EndS.ret (EndS.from x w z) (retM_x h3) rfl⟩
      · rename_i hc
        refine ⟨g, st, e, _, A, hc, fun g' H' b x eb w => ?_⟩
        cases eb
        rw [if_neg Bool.false_ne_true]
        exact ⟨g', env, st, e, re.mono x, A.mono x w, EndS.from x w z⟩
      · exact z.elim
    · cases h
theorem RepE.gone {c : Cfg} {g : Gh} {N : Nat} {H : Hp} {env : Env} {σ : PSt} (h : RepE c g N H env σ) (i : Nat) (v : Option V) : RepE c g N H (env.set i none) (σ.set i v) := by
  refine ⟨by rw [List.length_set, List.length_set]; exact h.1, fun j d e => ?_⟩
  by_cases hj : i = j
  · subst hj
    by_cases hi : i < env.length
    · rw [List.getElem?_set_self hi] at e; cases e
    · rw [List.getElem?_eq_none (by rw [List.length_set]; omega)] at e; cases e
  · rw [List.getElem?_set_ne hj] at e ⊢
    exact h.2 j d e
theorem s_rse {c : Str} {D : Ends} {σ : PSt} {H : Hp} (h : TSx X ca W cf (.rse c) D σ H) : W (.ref (He.ga X.K c)) none σ H := by
  obtain ⟨g, env, st, re, w, h⟩ := h
  rw [dnS] at h
  exact h g H σ Ext.refl re w _ _ ⟨rfl, .inl ⟨rfl, rfl⟩⟩
theorem e_rse (G : Gx X W k ca r cf) {c : Str} {p pos pos' : Pos} (h1 : k.gl c = true) (h2 : k.rai c none = true) : PS X (.Raise (some (.Call (.Name c p) [] [] pos)) none pos') (TSx X ca W cf (.rse c)) := by
  obtain ⟨q, hq, h⟩ := List.any_eq_true.mp h2
  rw [Bool.and_eq_true] at h
  have e := of_decide_eq_true h.1
  subst e
  have O := G.xcs q hq
  obtain ⟨g1, g2, _⟩ := G.gl h1
  exact PS.imp (ps_raise G.calm G.tk (pmk0 PySem.F.excBase_ValueError (O.xin (of_decide_eq_true h.2)) O.gm O.kp (raises_own O.bs O.ty) g1 g2)) fun D σ H z => s_rse z
theorem s_rsf {c f : Str} {x : Ex} {D : Ends} {σ : PSt} {H : Hp} (h : TSx X ca W cf (.rsf c f x) D σ H) : tMkX (He.ga X.K c) f (TDx X ca W cf x) σ H fun cls d H' => W cls d σ H' := by
  obtain ⟨g, env, st, re, w, h⟩ := h
  rw [dnS] at h
  refine ⟨g, env, st, re, w, (EndS.thn (rep := RepD (cfgOf X ca)) re h).imp fun v H1 ⟨g1, s1, d, M⟩ => ?_⟩
  have h := M.nx
  cases d with
  | loc n => exact h.elim
  | p p =>
    intro dd hd
    have px : PExt g1.F H1 (fun b => g1.F b ∨ b = dd) (upd H1 dd (.xd [(f, v)])) := PExt.one hd
    have ex : Ext g1 s1.length H1 ⟨g1.lm, fun b => g1.F b ∨ b = dd⟩ s1.length (upd H1 dd (.xd [(f, v)])) := px.ext
    refine h _ _ σ ex ((re.mono M.ext).mono ex) (M.wd.ext px) _ _ ⟨rfl, .inr ⟨List.cons_ne_nil _ _, dd, [(f, v)], rfl, .inr rfl, upd_same, ?_⟩⟩
    rw [RepFs]
    refine ⟨v, [], rfl, RepP.mono ex.mono _ _ M.rp, ?_⟩
    rw [RepFs]
theorem e_rsf (G : Gx X W k ca r cf) {c f : Str} {x : Ex} {u : Expr} {p pos pos' : Pos} (h1 : k.gl c = true) (h2 : k.rai c (some f) = true) (hs : isStar u = false) (he : PE X u (TDx X ca W cf x)) : PS X (.Raise (some (.Call (.Name c p) [u] [] pos)) none pos') (TSx X ca W cf (.rsf c f x)) := by
  obtain ⟨q, hq, h⟩ := List.any_eq_true.mp h2
  rw [Bool.and_eq_true] at h
  have e := of_decide_eq_true h.1
  subst e
  have O := G.xcs q hq
  obtain ⟨g1, g2, _⟩ := G.gl h1
  obtain ⟨su, fI, T⟩ := O.xi f (of_decide_eq_true h.2)
  exact PS.imp (ps_raise G.calm G.tk (pmkX T O.gm O.kp (raises_own O.bs O.ty) su G.room he g1 g2 (star_cons hs))) fun D σ H z => s_rsf z
/-- the class that a clause names -/
theorem h_names (G : Gx X W k ca r cf) {c : Str} {yes no : List Str} (hg : k.gl c = true) (hn : (yes ++ no).any (fun _ => true) = true) (hy : yes.all (k.isx c true) = true) (hN : no.all (k.isx c false) = true) : ∃ cv, Names X c cv ∧ (∀ y ∈ yes, (∃ q ∈ k.xcs, q.c = y) ∧ PySem.W.exmOne X.K (.ref (He.ga X.K y)) cv = some true) ∧ (∀ y ∈ no, PySem.W.exmOne X.K (.ref (He.ga X.K y)) cv = some false) := by
  obtain ⟨y, hm, _⟩ := List.any_eq_true.mp hn
  have f : ∃ cv, NmV X.mg c cv := by
    rcases List.mem_append.mp hm with h | h
    · obtain ⟨_, cv, n, _⟩ := G.isx (List.all_eq_true.mp hy _ h)
      exact ⟨cv, n⟩
    · obtain ⟨_, cv, n, _⟩ := G.isx (List.all_eq_true.mp hN _ h)
      exact ⟨cv, n⟩
  obtain ⟨cv, nv⟩ := f
  obtain ⟨g1, g2, g3⟩ := G.gl hg
  refine ⟨cv, ⟨g1, g2, ?_⟩, fun y h => ?_, fun y h => ?_⟩
  · rcases nv with ⟨A, rfl, hm⟩ | ⟨n, rfl, hm, hb, hn⟩
    · exact .inl hm
    · exact .inr ⟨hm, hb, hn⟩
  · obtain ⟨kn, cv', n, e, _⟩ := G.isx (List.all_eq_true.mp hy _ h)
    rw [nv.same n]
    exact ⟨kn, e⟩
  · obtain ⟨kn, cv', n, e, _⟩ := G.isx (List.all_eq_true.mp hN _ h)
    rw [nv.same n]
    exact e
/-- the end of a clause's suite -/
theorem EndS.drop {c : Cfg} {g : Gh} {st : Sto} {H : Hp} {W : WX} {i : Nat} {h : Hm} {e : Exc} {env : Env} {D : Ends} (z : EndS c g st H W ((dnM h e env st).drop i) D) :
    EndS c g st H (fun _ _ _ _ => False) (dnM h e env st) { nx := fun σ' H' => D.nx (σ'.set i none) H', rt := D.rt, bk := fun σ' H' => D.bk (σ'.set i none) H', ct := fun σ' H' => D.ct (σ'.set i none) H' } := by
  rcases dnM_x h (e := e) (env := env) (st := st) with ⟨env', st', q⟩ | ⟨p, q⟩ | q
  · rw [q] at z ⊢
    exact fun g' H' σ' x re w => z g' H' _ x (re.gone i none) w
  · rw [q] at z ⊢
    exact z
  · rw [q] at z ⊢
    exact z
theorem EndS.suite {c : Cfg} {g : Gh} {st : Sto} {H : Hp} {W : WX} {h : Hm} {e : Exc} {env : Env} {D : Ends} (z : EndS c g st H W (dnM h e env st) D) : EndS c g st H (fun _ _ _ _ => False) (dnM h e env st) D := by
  rcases dnM_x h (e := e) (env := env) (st := st) with ⟨env', st', q⟩ | ⟨p, q⟩ | q <;> rw [q] at z ⊢ <;> exact z
theorem s_try {m : Env → Sto → SR} {f : Exc → Env → Sto → SR} {W' : WX} {D : Ends} {σ : PSt} {H : Hp} (h : TSX (cfgOf X ca) W (fun env st => (m env st).ctch f) D σ H)
    (hk : ∀ e env st g H σ cls dx, RepE (cfgOf X ca) g st.length H env σ → Wd (cfgOf X ca) g st H → RepX (cfgOf X ca) g H e cls dx → EndS (cfgOf X ca) g st H W (f e env st) D → W' cls dx σ H) : TSX (cfgOf X ca) W' m D σ H := by
  obtain ⟨g, env, st, re, w, h⟩ := h
  refine ⟨g, env, st, re, w, ?_⟩
  dsimp only at h
  cases q : m env st with
  | nx env' st' => rw [q] at h; exact h
  | rt d st' => rw [q] at h; exact h
  | bk env' st' => rw [q] at h; exact h
  | ct env' st' => rw [q] at h; exact h
  | fail => rw [q] at h; exact h
  | exc e env' st' =>
    rw [q] at h
    exact fun g' H' σ' x re' w' cls dx rx => hk e env' st' g' H' σ' cls dx re' w' rx (EndS.from x w' h)
theorem s_trya (G : Gx X W k ca r cf) {b : Sts} {c : Str} {i : Nat} {yes no : List Str} {h : Hm} {cv : Value} (hy : ∀ y ∈ yes, (∃ q ∈ k.xcs, q.c = y) ∧ PySem.W.exmOne X.K (.ref (He.ga X.K y)) cv = some true) (hN : ∀ y ∈ no, PySem.W.exmOne X.K (.ref (He.ga X.K y)) cv = some false)
    {D : Ends} {σ : PSt} {H : Hp} (z : TSx X ca W cf (.trya b c i yes no h) D σ H) : TBs X ca (wAs X.K cv i (fun a cls d => TSu X ca k a (some i) cls d (dnM h)) W D) cf b D σ H := by
  refine s_try (z.unf fun env st => by rw [dnS]) fun e env st g H σ cls dx re w rx z => ?_
  have r1 : cls = .ref (He.ga X.K e.c) := rx.1
  split at z
  · rename_i h1
    obtain ⟨kn, ex⟩ := hy _ h1
    split at z
    · rename_i hi
      refine ⟨true, by rw [r1]; exact ex, fun _ a na => ?_, fun q => nomatch q⟩
      refine ⟨g, env.set i none, st, e, re.gone i _, ⟨w, rx, fun j hj => ?_, kn⟩, EndS.drop z⟩
      cases hj
      rw [List.getElem?_set_self (by rw [← re.1]; exact hi)]
    · exact z.elim
  · split at z
    · rename_i h1
      exact ⟨false, by rw [r1]; exact hN _ h1, (fun q => nomatch q), fun _ => z g H σ Ext.refl re w _ _ rx⟩
    · exact z.elim
theorem xHs (G : Gx X W k ca r cf) : ∀ {hs : Hds} {hds : List ExceptHandler}, chkHs k hs hds = true → ∃ l, HdsOk X hds l ∧ ∀ {D : Ends} {e : Exc} {env : Env} {st : Sto} {g : Gh} {H : Hp} {σ : PSt} {cls : Value} {dx : Option Addr}, RepE (cfgOf X ca) g st.length H env σ → Wd (cfgOf X ca) g st H → RepX (cfgOf X ca) g H e cls dx → EndS (cfgOf X ca) g st H W (dnHs hs e env st) D → wMany X.K W D l cls dx σ H
  | .nil, hds, h => by
    unfold chkHs at h
    cases hds with
    | nil => exact ⟨[], .nil, fun re w rx z => by
        rw [dnHs] at z
        exact z _ _ _ Ext.refl re w _ _ rx⟩
    | cons _ _ => cases h
  | .cons c yes no h r, hds, hc => by
    unfold chkHs at hc
    split at hc
    · rename_i x px s0 su ph hds
      simp only [Bool.and_eq_true] at hc
      obtain ⟨⟨⟨⟨⟨⟨h1, h2⟩, h3⟩, h4⟩, h5⟩, h6⟩, h7⟩ := hc
      have e0 := of_decide_eq_true h1
      subst e0
      obtain ⟨l, L, hl⟩ := xHs G h7
      obtain ⟨cv, nm, hy, hN⟩ := h_names G h2 h3 h4 h5
      refine ⟨(cv, fun a cls d => TSu X ca k a none cls d (dnM h)) :: l, .cons nm (fun a oe cls d pn hz hf => xM G hz hf h h6) L, fun {D e env st g H σ cls dx} re w rx z => ?_⟩
      have r1 : cls = .ref (He.ga X.K e.c) := rx.1
      rw [dnHs] at z
      split at z
      · rename_i h1
        obtain ⟨kn, ex⟩ := hy _ h1
        exact ⟨true, by rw [r1]; exact ex, fun _ a na => ⟨g, env, st, e, re, ⟨w, rx, (fun j hj => nomatch hj), kn⟩, EndS.suite z⟩, fun q => nomatch q⟩
      · split at z
        · rename_i h1
          exact ⟨false, by rw [r1]; exact hN _ h1, (fun q => nomatch q), fun _ => hl re w rx z⟩
        · exact z.elim
    · cases hc
theorem Gx.tr (G : Gx X W k ca r cf) {W' : WX} (pn : List (Addr × Obj)) (xe : Value → Shared → Prop) (tk : Takes (X.tr pn xe) W') : Gx (X.tr pn xe) W' k ca r cf :=
  ⟨G.nm, G.nd, G.sc, G.calm, G.room, G.bl, G.fnk, tk, G.kf, G.cls, G.fld, G.xcs, G.con, fun i x h => let ⟨f, fd, ps, F⟩ := G.fns i x h; ⟨f, fd, ps, ⟨F.ok, F.mg, F.mt, F.kp, F.bd⟩⟩⟩
/-- the frame of a def -/
structure Frm (X : Cx) : Prop where
  po : PassesOwn (model X.prog X.w) X.A X.env X.xe
  st : X.stack = X.env :: X.outer
  fr : X.env.frame = some X.env.locals
end
end PyM
namespace PyM
open PySem PySem.Spec PyProof.Rows L2

/-! ### statements -/
def isNameE : Expr → Bool
  | .Name _ _ => true
  | _ => false
def isListE : Expr → Bool
  | .List _ _ => true
  | _ => false
def isSetC : Expr → Bool
  | .SetComp _ _ _ _ => true
  | _ => false
theorem sw_tgt {v tg : Expr} {l : Nat} {env : PySem.Env} (h : isNameE tg = false) : swapsWith v (some tg) l env = pure false := by
  cases v <;> first | rfl | (cases tg <;> first | rfl | cases h)
theorem ss_no {v tg : Expr} {env : PySem.Env} (h : isTupE v = false) : swappedStores [tg] v env = pure none := by
  cases v <;> first | (cases h; done) | (cases tg <;> rfl)
theorem ss_len {us : List Expr} {kk : Nat} {tp : Pos} {v : Expr} {env : PySem.Env} (h : asgTupOk us v = true) : swappedStores [.Tuple us kk tp] v env = pure none := by
  cases hv : isTupE v with
  | false => exact ss_no hv
  | true =>
    unfold asgTupOk at h
    rw [hv] at h
    have h2 : (us.length == 2 || us.length == 3) = false := by
      cases a : us.length == 2 <;> cases b : us.length == 3 <;> simp [a, b] at h ⊢
    cases v <;> first | (cases hv; done) | skip
    unfold swappedStores
    simp only [h2]
    rfl
theorem ss_tgt {v tg : Expr} {env : PySem.Env} (h : isTupE tg = false) (h2 : isListE tg = false) : swappedStores [tg] v env = pure none := by
  cases tg <;> first | (cases h; done) | (cases h2; done) | (cases v <;> rfl)
section
variable {X : Cx} {W : WX} {k : Ck} {ca : Str → Option Addr} {r : Nat} {cf : CF}
theorem Gx.kind (G : Gx X W k ca r cf) (h : fnKind k = true) : X.env.scope.kind = .function := by
  rw [G.sc]
  unfold fnKind at h
  split at h
  · assumption
  · cases h
theorem Gx.isLocal (G : Gx X W k ca r cf) {x : Str} (h : k.isLocal x = true) : X.env.scope.names.lookup x = some .local := by
  rw [G.sc]
  unfold Ck.isLocal at h
  split at h
  · assumption
  · cases h
/-- what swapsWith says of a comprehension and a name -/
theorem sw_is (G : Gx X W k ca r cf) (hk : fnKind k = true) {v : Expr} {t : Str} {q : Pos} {l : Nat} (hc : isComp v = true) (hs : isSetC v = false) : swapsWith v (some (.Name t q)) l X.env = pure (swB k v (.Name t q)) := by
  have kd := G.kind hk
  have hb : X.env.blockKind = .function := by unfold PySem.Env.blockKind; rw [kd]; rfl
  have kn : (X.env.kindOf t == some .local) = k.isLocal t := by
    show (X.env.scope.names.lookup t == some .local) = _
    rw [G.sc]
    unfold Ck.isLocal
    cases k.sc.names.lookup t with
    | none => rfl
    | some n => cases n <;> rfl
  cases v <;> first | (cases hc; done) | (cases hs; done) | skip
  · unfold swapsWith swB
    simp only [hb, kn, Expr.pos]
    rfl
  · unfold swapsWith swB
    simp only [hb, kn, Expr.pos]
    rfl
theorem chk_noset {x : Ex} {a : Expr} (h : chkE k x a = true) : isSetC a = false := by
  have z : ∀ {x : Ex} {a : Expr}, chkE k x a = true → isSetC a = false := by
    intro x
    induction x using Ex.rec (motive_2 := fun _ => True) (motive_3 := fun _ => True) (motive_4 := fun _ => True) (motive_5 := fun _ => True) (motive_6 := fun _ => True) <;> intros <;> first
      | trivial
      | (rename_i ih a h; unfold chkE at h; rw [Bool.and_eq_true] at h; exact ih h.1)
      | (rename_i h; unfold chkE at h; dsimp only at h; split at h <;> first | rfl | cases h)
      | (rename_i h; unfold chkE at h; split at h <;> first | rfl | cases h)
  exact z h
theorem s_asgN {i : Nat} {x : Ex} {D : Ends} {σ : PSt} {H : Hp} (h : TSx X ca W cf (.asg (.nm i) x) D σ H) : tAsg (TDx X ca W cf x) (gName i) D σ H := by
  obtain ⟨g, env, st, re, w, h⟩ := h
  rw [dnS] at h
  refine ⟨g, env, st, re, w, (EndS.thn (rep := RepD (cfgOf X ca)) re h).imp fun v H1 ⟨g1, s1, d, M⟩ => ?_⟩
  have h := M.nx
  rw [denT, Res.thn_ok] at h
  exact h g1 H1 _ Ext.refl ((re.mono M.ext).set i M.rp) M.wd
end
section
variable {X : Cx} {W : WX} {k : Ck} {ca : Str → Option Addr} {r : Nat} {cf : CF}
theorem PA_two {x y : Ex} {i j : Nat} {D : Ends} {σ : PSt} {H : Hp} (h : tPar i j (TAx X ca W cf (.cons x (.cons y .nil))) D σ H) : tPar i j (tCons (TDx X ca W cf x) (tCons (TDx X ca W cf y) tNil)) D σ H := by
  have h1 := a_cons (Q := fun vs H1 => ∃ v w, vs = [v, w] ∧ D.nx ((σ.set i (some v)).set j (some w)) H1) h
  obtain ⟨g, env, st, re, w, z⟩ := h1
  refine ⟨g, env, st, re, w, z.imp fun v H1 z => ?_⟩
  obtain ⟨g, env, st, re, w, z⟩ := a_cons z
  exact ⟨g, env, st, re, w, z.imp fun v H1 z => a_nil z⟩
theorem par_ss {x y : Str} {u v : Expr} {px py pt pt2 : Pos} {kt k2 : Nat} (hk : X.env.scope.kind = .function) (hx : X.env.scope.names.lookup x = some .local) (hy : X.env.scope.names.lookup y = some .local) (hxy : (x == y) = false) (hl : py.line = px.line) (su : isStar u = false) (sv : isStar v = false) (hf : foldedForSure 8 u = false) (hc : constantsAlone 8 u = false) :
    swappedStores [.Tuple [.Name x px, .Name y py] kt pt] (.Tuple [u, v] k2 pt2) X.env = pure (some [x, y]) := by
  have hb : X.env.blockKind = .function := by unfold PySem.Env.blockKind; rw [hk]; rfl
  have k1 : X.env.kindOf x = some .local := hx
  have k2 : X.env.kindOf y = some .local := hy
  have hs : ∀ w ∈ [u, v], isStar w = false := fun w hw => by
    rcases List.mem_cons.mp hw with rfl | hw
    · exact su
    · rw [List.mem_singleton.mp hw]; exact sv
  unfold swappedStores
  rw [hb]
  refine (if_neg (by simp)).trans ((if_neg (fun z => ?_)).trans ?_)
  · obtain ⟨w, hw, e⟩ := List.any_eq_true.mp z
    have := hs w hw
    cases w <;> first | (cases this; done) | (cases e; done)
  · have n1 : (Expr.Name x px).pos = px := rfl
    have n2 : (Expr.Name y py).pos = py := rfl
    have hne : ¬ x = y := by simpa using hxy
    have hyx : (y == x) = false := by simpa using fun e : y = x => hne e.symm
    simp [k1, k2, n1, hl, hne, hf, hc, List.eraseDups, List.eraseDupsBy, List.eraseDupsBy.loop]
    rw [hyx]
    exact fun z => absurd rfl z
end
mutual
theorem sS : ∀ (s : Stm) {X : Cx} {W : WX} {k : Ck} {ca : Str → Option Addr} {r : Nat} {cf : CF} (G : Gx X W k ca r cf) (po : Frm X) {a : Stmt}, chkS k s a = true → PS X a (TSx X ca W cf s)
  | .asg t e, X, W, k, ca, r, cf, G, po, a, h => by
    unfold chkS at h
    split at h
    · rename_i tg v pos
      simp only [Bool.and_eq_true] at h
      obtain ⟨⟨h1, h2⟩, h3⟩ := h
      have pe := (sE e G h1).pe
      have pg := sG t G h2
      have hst : isStar tg = false := by
        cases t <;> (unfold chkG at h2; split at h2 <;> first | rfl | cases h2)
      have ha : (assignEach [tg] X.env).map (·.2) = [assign tg X.env] := by
        rw [asg_cons hst]
        rfl
      cases tg with
      | Name x px =>
        cases t with
        | tup ts => unfold chkG at h2; cases h2
        | sub o i => unfold chkG at h2; cases h2
        | nm i =>
          unfold chkG at h2
          dsimp only at h2
          rw [Bool.and_eq_true] at h2
          obtain ⟨l1, l2⟩ := G.loc h2.2
          cases hv : isComp v with
          | false => exact PS.imp (ps_set G.nd (G.slot h2.1) l1 pe (sw_no hv) l2) fun D σ H z => s_asgN z
          | true =>
            rw [hv] at h3
            simp only [Bool.not_true, Bool.false_or, Bool.and_eq_true, Bool.or_eq_true] at h3
            have sw := sw_is G h3.1 (v := v) (t := x) (q := px) (l := pos.line) hv (chk_noset h1)
            cases hsw : swB k v (.Name x px) with
            | false =>
              rw [hsw] at sw
              exact PS.imp (ps_set G.nd (G.slot h2.1) l1 pe sw l2) fun D σ H z => s_asgN z
            | true =>
              rw [hsw] at sw
              have hp : plainEx e = true := by
                rcases h3.2 with q | q
                · rw [hsw] at q; cases q
                · exact q
              cases e <;> first | (cases hp; done) | skip
              · rename_i l elt own tg it cond
                unfold chkE at h1
                split at h1
                · rename_i u t i2 ifs scope pos2
                  have hl : k.isLocal x = true := by
                    unfold swB at hsw
                    simp only [Bool.and_eq_true] at hsw
                    exact hsw.1.1
                  simp only [Bool.and_eq_true] at h1
                  obtain ⟨⟨⟨⟨⟨⟨h1, h2'⟩, h3⟩, h4⟩, h5⟩, h6⟩, h7⟩ := h1
                  have ok : BlkOk X.N X.env.scope scope (k.ownP own) := by
                    rw [G.nm, G.sc]
                    exact blkOk_by h1
                  have hS : ∀ i ∈ tgs tg, i ∈ own := fun i hi => of_decide_eq_true (List.all_eq_true.mp h2' i hi)
                  have eo : (k.ownP own).map (·.2) = own := by
                    unfold Ck.ownP
                    rw [List.map_map]
                    exact List.map_id _
                  refine PS.imp (ps_setLc (own := k.ownP own) (g := TGM (cfgOf X ca) (tgs tg) (denT cf tg)) (tt := TB (cfgOf X ca) NoW (denc cf cond)) (te := TDx X ca NoW cf elt) G.calm G.nd (G.slot h2.1) (G.isLocal hl) sw (sI it G h4 h3) ok (fun s H C cl fp => sG tg (G.blk scope s H C cl fp) h5) (fun s H C cl fp => sC cond (G.blk scope s H C cl fp) h6) (fun s H C cl fp => (sE elt (G.blk scope s H C cl fp) h7).pe) (fold_of (chkI_set h4))) fun D σ H z => ?_
                  rw [eo]
                  exact i_lc hS (s_asgN z)
                · cases h1
              · rename_i l ke va own tg it cond
                unfold chkE at h1
                split at h1
                · rename_i u v t i2 ifs scope pos2
                  have hl : k.isLocal x = true := by
                    unfold swB at hsw
                    simp only [Bool.and_eq_true] at hsw
                    exact hsw.1.1
                  simp only [Bool.and_eq_true] at h1
                  obtain ⟨⟨⟨⟨⟨⟨⟨h1, h2'⟩, h3⟩, h4⟩, h5⟩, h6⟩, h7⟩, h8⟩ := h1
                  have ok : BlkOk X.N X.env.scope scope (k.ownP own) := by
                    rw [G.nm, G.sc]
                    exact blkOk_by h1
                  have hS : ∀ i ∈ tgs tg, i ∈ own := fun i hi => of_decide_eq_true (List.all_eq_true.mp h2' i hi)
                  have eo : (k.ownP own).map (·.2) = own := by
                    unfold Ck.ownP
                    rw [List.map_map]
                    exact List.map_id _
                  refine PS.imp (ps_setDcA (ca := ca) (own := k.ownP own) (g := TGM (cfgOf X ca) (tgs tg) (denT cf tg)) (tt := TB (cfgOf X ca) NoW (denc cf cond)) (tk := TDx X ca NoW cf ke) (tv := TDx X ca NoW cf va) G.un64 G.calm G.nd (G.slot h2.1) (G.isLocal hl) sw (sI it G h4 h3) ok ⟨fun s H C cl fp => sG tg (G.blk scope s H C cl fp) h5, fun s H C cl fp => sC cond (G.blk scope s H C cl fp) h6, fun s H C cl fp => (sE ke (G.blk scope s H C cl fp) h7).pe, fun s H C cl fp => (sE va (G.blk scope s H C cl fp) h8).pe⟩ (fold_of (chkI_set h4))) fun D σ H z => ?_
                  rw [eo]
                  exact i_dc hS (s_asgN z)
                · cases h1
              · rename_i l elt own tg it cond own1 tg1 it1 cond1
                unfold chkE at h1
                split at h1
                · rename_i u t i2 ifs t1 i1 ifs1 scope pos2
                  have hl : k.isLocal x = true := by
                    unfold swB at hsw
                    simp only [Bool.and_eq_true] at hsw
                    exact hsw.1.1
                  simp only [Bool.and_eq_true] at h1
                  obtain ⟨⟨⟨⟨⟨⟨⟨⟨⟨⟨⟨⟨h1, h2'⟩, h3⟩, h4⟩, h5⟩, h6⟩, k2⟩, k0⟩, k3⟩, k4⟩, k5⟩, k6⟩, h7⟩ := h1
                  have ok : BlkOk X.N X.env.scope scope (k.ownP own) := by
                    rw [G.nm, G.sc]
                    exact blkOk_by h1
                  have hS : ∀ i ∈ tgs tg, i ∈ own := fun i hi => of_decide_eq_true (List.all_eq_true.mp h2' i hi)
                  have hS1 : ∀ i ∈ tgs tg1, i ∈ own1 := fun i hi => of_decide_eq_true (List.all_eq_true.mp k2 i hi)
                  have eo : (k.ownP own).map (·.2) = own := by
                    unfold Ck.ownP
                    rw [List.map_map]
                    exact List.map_id _
                  have hv : ∀ i ∈ own1, i ∈ (k.ownP own).map (·.2) := fun i hi => by
                    rw [eo]
                    exact of_decide_eq_true (List.all_eq_true.mp k0 i hi)
                  refine PS.imp (ps_setLc2 (own := k.ownP own) (vs1 := own1) (g := TGM (cfgOf X ca) (tgs tg) (denT cf tg)) (tt := TB (cfgOf X ca) NoW (denc cf cond)) (wi1 := TIx X ca NoW cf it1) (g1 := TGM (cfgOf X ca) (tgs tg1) (denT cf tg1)) (tt1 := TB (cfgOf X ca) NoW (denc cf cond1)) (te := TDx X ca NoW cf elt) G.calm G.nd (G.slot h2.1) (G.isLocal hl) sw (sI it G h4 h3) ok hv (fun s H C cl fp => sG tg (G.blk scope s H C cl fp) h5) (fun s H C cl fp => sC cond (G.blk scope s H C cl fp) h6) (fun s H C cl fp => sI it1 (G.blk scope s H C cl fp) k4 k3) (fun s H C cl fp => sG tg1 (G.blk scope s H C cl fp) k5) (fun s H C cl fp => sC cond1 (G.blk scope s H C cl fp) k6) (fun s H C cl fp => (sE elt (G.blk scope s H C cl fp) h7).pe) (fold_of (chkI_set h4)) (fun env => fold_of (chkI_set k4))) fun D σ H z => ?_
                  rw [eo]
                  exact i_lc2 hS hS1 (s_asgN z)
                · cases h1
      | Tuple us kk tp =>
        exact PS.imp (ps_asg pe pg (sw_tgt (tg := .Tuple us kk tp) (l := pos.line) (env := X.env) rfl) (ss_len h3) ha) fun D σ H z => s_asg z
      | Subscript o i tp => exact PS.imp (ps_asg pe pg (sw_tgt (tg := .Subscript o i tp) (l := pos.line) (env := X.env) rfl) (ss_tgt (tg := .Subscript o i tp) rfl rfl) ha) fun D σ H z => s_asg z
      | _ =>
        exfalso
        cases t <;> (unfold chkG at h2; cases h2)
    · cases h
  | .ex e, X, W, k, ca, r, cf, G, po, a, h => by
    unfold chkS at h
    split at h
    · rw [Bool.and_eq_true] at h
      exact PS.imp (ps_expr (sE e G h.1).pe (sw_no (by simpa using h.2))) fun D σ H z => s_ex z
    · cases h
  | .ret e, X, W, k, ca, r, cf, G, po, a, h => by
    unfold chkS at h
    split at h
    · exact PS.imp (ps_ret (sE e G h).pe) fun D σ H z => s_ret z
    · cases h
  | .retN, X, W, k, ca, r, cf, G, po, a, h => by
    unfold chkS at h
    split at h
    · exact PS.imp ps_retN fun D σ H z => s_retN z
    · cases h
  | .ite c x y, X, W, k, ca, r, cf, G, po, a, h => by
    unfold chkS at h
    split at h
    · simp only [Bool.and_eq_true] at h
      exact PS.imp (ps_if ((sE c G h.1.1.1).pt h.1.1.2) (sB x G po h.1.2) (sB y G po h.2)) fun D σ H z => s_ite z
    · cases h
  | .for tg it b, X, W, k, ca, r, cf, G, po, a, h => by
    unfold chkS at h
    split at h
    · simp only [Bool.and_eq_true] at h
      exact PS.imp (ps_for po.po G.calm (sI it G h.1.2 h.1.1.1) (sG tg G h.1.1.2) (sB b G po h.2) (fold_of (chkI_set h.1.2))) fun D σ H z => s_for z
    · cases h
  | .whl c b, X, W, k, ca, r, cf, G, po, a, h => by
    unfold chkS at h
    split at h
    · simp only [Bool.and_eq_true] at h
      exact PS.imp (ps_while po.po ((sE c G h.1.1).pt h.1.2) (sB b G po h.2)) fun D σ H z => s_whl z
    · cases h
  | .brk, X, W, k, ca, r, cf, G, po, a, h => by
    unfold chkS at h
    split at h
    · exact PS.imp ps_break fun D σ H z => s_brk z
    · cases h
  | .cnt, X, W, k, ca, r, cf, G, po, a, h => by
    unfold chkS at h
    split at h
    · exact PS.imp ps_continue fun D σ H z => s_cnt z
    · cases h
  | .pas, X, W, k, ca, r, cf, G, po, a, h => by
    unfold chkS at h
    split at h
    · exact PS.imp ps_pass fun D σ H z => s_pas z
    · cases h
  | .par i j x y, X, W, k, ca, r, cf, G, po, a, h => by
    unfold chkS at h
    split at h
    · rename_i x1 px y1 py kt pt u v k2 pt2 pos
      simp only [Bool.and_eq_true, Bool.not_eq_true', decide_eq_true_eq, beq_iff_eq] at h
      obtain ⟨⟨⟨⟨⟨⟨⟨⟨⟨⟨⟨⟨⟨h1, h2⟩, h3⟩, h4⟩, h5⟩, h6⟩, h7⟩, h8⟩, h9⟩, h10⟩, h11⟩, h12⟩, h13⟩, h14⟩ := h
      have px1 := (sE x G h13).pe
      have py1 := (sE y G h14).pe
      exact PS.imp (ps_par G.calm G.nd (G.slot h2) (G.slot h3) h4 (G.isLocal h5) (G.isLocal h6) (pa_two h9 h10 px1 py1) (par_ss (G.kind h1) (G.isLocal h5) (G.isLocal h6) h7 h8 h9 h10 h11 h12)) fun D σ H z => PA_two (s_par z)
    · cases h
  | .gz i, X, W, k, ca, r, cf, G, po, a, h => by
    unfold chkS at h
    cases h
  | .fld c f x e, X, W, k, ca, r, cf, G, po, a, h => by
    unfold chkS at h
    split at h
    · rename_i u n p' v pos
      simp only [Bool.and_eq_true] at h
      obtain ⟨⟨⟨h1, h2⟩, h3⟩, h4⟩ := h
      have e0 := of_decide_eq_true h1
      subst e0
      obtain ⟨A, hA, hn⟩ := G.fld _ (of_decide_eq_true h2)
      exact PS.imp (ps_fld (sE x G h3).pe (sE e G h4).pe (sw_tgt rfl)) fun D σ H z => s_fld hA hn G.kf z
    · cases h
  | .rse c, X, W, k, ca, r, cf, G, po, a, h => by
    unfold chkS at h
    split at h
    · rename_i x p pos pos'
      simp only [Bool.and_eq_true] at h
      have e0 := of_decide_eq_true h.1.1
      subst e0
      exact e_rse G h.1.2 h.2
    · cases h
  | .rsf c f e, X, W, k, ca, r, cf, G, po, a, h => by
    unfold chkS at h
    split at h
    · rename_i x p u pos pos'
      simp only [Bool.and_eq_true] at h
      obtain ⟨⟨⟨⟨h1, h2⟩, h3⟩, h4⟩, h5⟩ := h
      have e0 := of_decide_eq_true h1
      subst e0
      exact e_rsf G h2 h3 (by simpa using h4) (sE e G h5).pe
    · cases h
  | .trya b c i yes no hm, X, W, k, ca, r, cf, G, po, a, h => by
    unfold chkS at h
    split at h
    · rename_i body x px n s0 su ph pos
      simp only [Bool.and_eq_true] at h
      obtain ⟨⟨⟨⟨⟨⟨⟨⟨h1, h2⟩, h3⟩, h4⟩, h5⟩, h6⟩, h7⟩, h8⟩, h9⟩ := h
      have e0 := of_decide_eq_true h1
      subst e0
      obtain ⟨cv, nm, hy, hN⟩ := h_names G h2 h5 h6 h7
      exact PS.imp (ps_try_as (tb := fun W' => TBs X ca W' cf b) (ts := fun a cls d => TSu X ca k a (some i) cls d (dnM hm)) po.st po.fr G.nd (G.slot h3) (G.isLocal h4) nm G.tk (fun W' pn xe tk po' => sB b (X := X.tr pn xe) (G.tr pn xe tk) ⟨po', po.st, po.fr⟩ h8) (fun a oe cls d pn hz hf => xM G hz hf hm h9)) fun D σ H z => s_trya G hy hN z
    · cases h
  | .trym b hs, X, W, k, ca, r, cf, G, po, a, h => by
    unfold chkS at h
    split at h
    · rename_i body h0 hds pos
      rw [Bool.and_eq_true] at h
      obtain ⟨l, L, hl⟩ := xHs G h.2
      exact PS.imp (ps_try_many (tb := fun W' => TBs X ca W' cf b) po.st po.fr G.tk (fun W' pn xe tk po' => sB b (X := X.tr pn xe) (G.tr pn xe tk) ⟨po', po.st, po.fr⟩ h.1) L) fun D σ H z => s_try (z.unf fun env st => by rw [dnS]) fun e env st g H σ cls dx re w rx z => hl re w rx z
    · cases h
  | .bad, X, W, k, ca, r, cf, G, po, a, h => ⟨fun pins s σ H D I h => by
    obtain ⟨g, env, st, re, w, h⟩ := h
    rw [dnS] at h
    exact h.elim⟩
theorem sB : ∀ (b : Sts) {X : Cx} {W : WX} {k : Ck} {ca : Str → Option Addr} {r : Nat} {cf : CF} (G : Gx X W k ca r cf) (po : Frm X) {as : List Stmt}, chkB k b as = true → PSs X as (TBs X ca W cf b)
  | .nil, X, W, k, ca, r, cf, G, po, as, h => by
    unfold chkB at h
    cases as with
    | nil => exact PSs.imp pss_nil fun D σ H z => s_nil z
    | cons a b => cases h
  | .cons s ss, X, W, k, ca, r, cf, G, po, as, h => by
    unfold chkB at h
    split at h
    · rename_i hz
      cases s <;> first | (cases hz; done) | skip
      exact PSs.imp (sB ss G po h) fun D σ H z => s_gz z
    · split at h
      · rw [Bool.and_eq_true] at h
        exact PSs.imp (pss_cons (sS s G po h.1) (sB ss G po h.2)) fun D σ H z => s_cons z
      · cases h
end

/-! ### defs -/
/-- a def of the text, as the IR tells it -/
structure DefOk (K : PySem.W.Frag) (mg : Str → Option Value) (names cls bl : List Str) (con : List (Str × P)) (fld : List (Str × Str)) (xcs : List Xc) (ca : Str → Option Addr) (nm : Str) (fn : Fn) (f : Addr) (fd : FuncData) (ps N : List Str) (params : Arguments) (body : List Stmt) (scope : Scope) : Prop where
  fun_ : FunD K nm fn.name params body scope [] [] f fd
  sc : FnScope N ps scope
  np : ps.length = fn.np
  ns : N.length = fn.ns
  ck : chkB ⟨N, scope, names, fun _ => true, cls, bl, con, fld, xcs⟩ fn.body body = true
  at_ : spl fn.name = none → mg fn.name = some (.ref f)
  mt : ∀ c m, spl fn.name = some (c, m) → ∃ A, ca c = some A ∧ mg c = some (.ref A) ∧ Meth K A m f ∧ (m = "__init__" → Mk K A f)
  bd : L2.Binds K fd ps []
theorem start_rep {c : Cfg} {g : Gh} {N : Nat} {H : Hp} : ∀ {ds : List PyM.D} {vs : List V} (n : Nat), RepDs c g N H ds vs → RepE c g N H (ds.map some ++ List.replicate n none) (vs.map some ++ List.replicate n none)
  | ds, vs, n, h => by
    have l := h.len
    refine ⟨by simp [l], fun i d e => ?_⟩
    by_cases hi : i < ds.length
    · rw [List.getElem?_append_left (by simpa using hi), List.getElem?_map] at e
      obtain ⟨d', e1, e2⟩ := Option.map_eq_some_iff.mp e
      cases e2
      obtain ⟨v, e3, rv⟩ := h.get e1
      exact ⟨v, by rw [List.getElem?_append_left (by simp [l]; exact hi), List.getElem?_map, e3]; rfl, rv⟩
    · rw [List.getElem?_append_right (by simp; omega), List.getElem?_replicate] at e
      split at e <;> cases e
theorem run_end {c : Cfg} {g : Gh} {st : Sto} {H : Hp} {cf : CF} {fn : Fn} {ds : List PyM.D} {Q : VK} {E : XK} (h : EndR c g st H (EXk c E) (RepD c) (runFn cf fn ds st) Q) : ds.length = fn.np ∧ EndS c g st H (fun cls d _ H => E cls d H) (dnB cf fn.body (ds.map some ++ List.replicate (fn.ns - ds.length) none) st) { nx := fun _ H' => Q .non H', rt := Q } := by
  unfold runFn at h
  split at h
  · rename_i hl
    refine ⟨hl, ?_⟩
    split at h
    · rename_i e
      rw [e]
      exact fun g' H' σ' x re w => h g' H' .non x (by show RepP _ _ _ _ _; rw [RepP]) w
    · rename_i e
      rw [e]
      exact h
    · rename_i e
      rw [e]
      exact fun g' H' σ' x re w cls dx rx => h g' H' x w cls dx rx
    · exact h.elim
  · exact h.elim
section
variable {P : Program} {w : World} {K : PySem.W.Frag} {mg : Str → Option Value} {base : Heap} {ca : Str → Option Addr} {names cls bl : List Str} {con : List (Str × PyM.P)} {fld : List (Str × Str)} {xcs : List Xc}
theorem def_ok {cf : CF} {fn : Fn} {f : Addr} {fd : FuncData} {ps N : List Str} {params : Arguments} {body : List Stmt} {scope : Scope} {k : Nat} {nm : Str} (O : DefOk K mg names cls bl con fld xcs ca nm fn f fd ps N params body scope) (hbl : ∀ x ∈ bl, mg x = none) (kf : KF K ca) (hcls : ∀ c ∈ cls, ∃ A, ca c = some A ∧ mg c = some (.ref A)) (hfld : ∀ q ∈ fld, ∃ A, ca q.1 = some A ∧ NoAttr K A q.2) (hxc : ∀ q ∈ xcs, XcOk P K mg q) (hcon : ∀ q ∈ con, ∃ (u : Value) (v : V), mg q.1 = some u ∧ RelV v u ∧ ∀ F H, RepP ⟨P, w, K, ca⟩ F H q.2 v)
    (hf : ∀ i x, names[i]? = some x → ∃ f fd ps, FnOk P w K mg base (L2.CX P w) k f fd ps (spM ⟨P, w, K, ca⟩ (cf i)) ∧ (spl x = none → mg x = some (.ref f)) ∧ (∀ c m, spl x = some (c, m) → ∃ A, ca c = some A ∧ mg c = some (.ref A) ∧ Meth K A m f ∧ (m = "__init__" → Mk K A f)) ∧ PySem.W.keepIn K (.ref f) = true ∧ L2.Binds K fd ps []) :
    FnOk P w K mg base (L2.CX P w) (k + 2) f fd ps (spM ⟨P, w, K, ca⟩ (runFn cf fn)) := by
  refine O.fun_.ok O.sc (fun vs H Q E h => ?_) fun cdv A outer s H vs Q E hr h => ?_
  · obtain ⟨g, st, ds, rs, wd, h⟩ := h
    rw [rs.len, (run_end h).1, O.np]
  · obtain ⟨g, st, ds, rs, wd, h⟩ := h
    obtain ⟨hl, h⟩ := run_end h
    have tk : Takes (cxOf (L2.CX P w) P w K mg base N fn.name scope f cdv A outer s H E) (fun cls d _ H => E cls d H) := takes_of rfl rfl rfl rfl
    have po : PassesOwn (model P w) (cxOf (L2.CX P w) P w K mg base N fn.name scope f cdv A outer s H E).A (cxOf (L2.CX P w) P w K mg base N fn.name scope f cdv A outer s H E).env (cxOf (L2.CX P w) P w K mg base N fn.name scope f cdv A outer s H E).xe := passes_of (X := cxOf (L2.CX P w) P w K mg base N fn.name scope f cdv A outer s H E) rfl
    have G : Gx (cxOf (L2.CX P w) P w K mg base N fn.name scope f cdv A outer s H E) (fun cls d _ H => E cls d H) ⟨N, scope, names, fun _ => true, cls, bl, con, fld, xcs⟩ ca k cf :=
      ⟨rfl, O.sc.nd, rfl, rfl, hr, hbl, fun _ _ => rfl, tk, kf, hcls, hfld, hxc, hcon, fun i x hx => let ⟨f, fd, ps, a, b, c, d, e⟩ := hf i x hx; ⟨f, fd, ps, a, b, c, d, e⟩⟩
    refine ⟨_, sB fn.body G ⟨po, rfl, rfl⟩ O.ck, g, _, st, ?_, wd, h⟩
    have e : fn.ns - ds.length = N.length - vs.length := by rw [O.ns, rs.len]
    rw [e]
    exact start_rep _ rs
/-- THE TABLE: each def means what the IR says, so many calls deep -/
theorem tbl_ok {fs : List Fn} (hn : names = fs.map (·.name)) (hd : ∀ (i : Nat) (fn : Fn), fs[i]? = some fn → ∃ nm f fd ps N params body scope, DefOk K mg names cls bl con fld xcs ca nm fn f fd ps N params body scope) (hbl : ∀ x ∈ bl, mg x = none) (kf : KF K ca) (hcls : ∀ c ∈ cls, ∃ A, ca c = some A ∧ mg c = some (.ref A)) (hfld : ∀ q ∈ fld, ∃ A, ca q.1 = some A ∧ NoAttr K A q.2) (hxc : ∀ q ∈ xcs, XcOk P K mg q) (hcon : ∀ q ∈ con, ∃ (u : Value) (v : V), mg q.1 = some u ∧ RelV v u ∧ ∀ F H, RepP ⟨P, w, K, ca⟩ F H q.2 v) :
    ∀ (k i : Nat) (x : Str), names[i]? = some x → ∃ f fd ps, FnOk P w K mg base (L2.CX P w) (2 * k) f fd ps (spM ⟨P, w, K, ca⟩ (evalFn fs k i)) ∧ (spl x = none → mg x = some (.ref f)) ∧ (∀ c m, spl x = some (c, m) → ∃ A, ca c = some A ∧ mg c = some (.ref A) ∧ Meth K A m f ∧ (m = "__init__" → Mk K A f)) ∧ PySem.W.keepIn K (.ref f) = true ∧ L2.Binds K fd ps [] := by
  intro k
  induction k with
  | zero =>
    intro i x hx
    rw [hn, List.getElem?_map] at hx
    obtain ⟨fn, e, rfl⟩ := Option.map_eq_some_iff.mp hx
    obtain ⟨nm, f, fd, ps, N, params, body, scope, O⟩ := hd i fn e
    exact ⟨f, fd, ps, ⟨fun vs H Q E h => by obtain ⟨g, st, ds, rs, wd, h⟩ := h; exact h.elim, fun A outer s H args us vs Q E _ _ _ _ h => by obtain ⟨g, st, ds, rs, wd, h⟩ := h; exact h.elim⟩, O.at_, O.mt, O.fun_.kp, O.bd⟩
  | succ k ih =>
    intro i x hx
    rw [hn, List.getElem?_map] at hx
    obtain ⟨fn, e, rfl⟩ := Option.map_eq_some_iff.mp hx
    obtain ⟨nm, f, fd, ps, N, params, body, scope, O⟩ := hd i fn e
    refine ⟨f, fd, ps, ?_, O.at_, O.mt, O.fun_.kp, O.bd⟩
    have q := def_ok (P := P) (w := w) (base := base) (cf := evalFn fs k) (k := 2 * k) O hbl kf hcls hfld hxc hcon ih
    refine q.imp fun vs H Q E h => ?_
    obtain ⟨g, st, ds, rs, wd, h⟩ := h
    refine ⟨g, st, ds, rs, wd, ?_⟩
    have e2 : evalFn fs (k + 1) i ds st = runFn (evalFn fs k) fn ds st := by
      rw [evalFn, e]
    rw [e2] at h
    exact h
end
end PyM
namespace PyM
open PySem PySem.Spec PyProof.Rows L2

/-! ### a law's end -/
theorem law_sp {c : Cfg} {m : List PyM.D → Sto → Res PyM.D} {H : Hp} {a : Addr} {ns : List Int} (hz : ns.length ≤ 63) (hS : SqL c.K H a (ns.map V.int)) (hm : ∃ s, m [.p (.scr ns)] [] = .ok (.p (.bl true)) s) : spM c m [.ref a] H (fun v _ => v = .bl true) fun _ _ _ => False := by
  obtain ⟨s, hm⟩ := hm
  have w : Wd c ⟨fun _ => 0, fun b => b = a ∧ H a ≠ none⟩ [] H := ⟨(fun n o e => nomatch e), (fun m n a => absurd a (Nat.not_lt_zero _)), (fun n o e => nomatch e), (fun n a => absurd a (Nat.not_lt_zero _)), fun b h => by
    obtain ⟨rfl, h⟩ := h
    cases e : H b with
    | none => exact absurd e h
    | some o => exact ⟨o, rfl⟩⟩
  refine ⟨⟨fun _ => 0, fun b => b = a ∧ H a ≠ none⟩, [], [.p (.scr ns)], .cons ?_ .nil, w, ?_⟩
  · show RepP _ _ _ _ _
    rw [RepP]
    refine ⟨a, rfl, ?_, by rw [sizeLine_eq]; omega⟩
    rcases hS with h | h
    · refine .inl ⟨⟨rfl, fun e => ?_⟩, h⟩
      rcases h with h | ⟨o, h⟩
      · rw [e] at h; cases h
      · rw [e] at h; cases h
    · exact .inr h
  · rw [hm]
    intro g' H' v x rv w'
    have rv' : RepP c g'.F H' (.bl true) v := rv
    rw [RepP] at rv'
    exact rv'
def CXn : CXT := fun _ _ _ _ _ _ => False
theorem noX {P : Program} {w : World} {K : PySem.W.Frag} {mg : Str → Option Value} {base : Heap} {k : Nat} {f : Addr} {fd : FuncData} {ps : List Str} {sp : Sp} (F : FnOk P w K mg base (L2.CX P w) k f fd ps sp) : FnOk P w K mg base CXn k f fd ps (fun vs H Q _ => sp vs H Q fun _ _ _ => False) :=
  ⟨fun vs H Q E h => F.len _ _ _ _ h, fun A outer s H args us vs Q E hr e0 hb r h => codeAny_mono (F.run A outer s H args us vs Q _ hr e0 hb r h) fun q s' z => by
    cases q with
    | ok fl => cases fl <;> exact z
    | error e =>
      obtain ⟨_, _, _, _, _, _, _, _, _, _, _, _, z⟩ := z
      exact z.elim⟩
theorem frees {K : PySem.W.Frag} {h : Heap} {mg : Str → Option Value} {fa : List He.Fa} {fn : List He.DefD} {gl : List He.Fa} {bl : List Str} (X : K.In h) (G : h.Ns mainGlobals mg) (c : He.SaysD fa fn K) (e : fa = gl ++ bl.map He.Fa.free) : ∀ x ∈ bl, mg x = none := fun x hx => by
  have m : He.Fa.free x ∈ fa := by
    rw [e]
    exact List.mem_append_right _ (List.mem_map_of_mem hx)
  obtain ⟨i, hi⟩ := List.getElem?_of_mem m
  exact He.free_ok X G (c.fact i hi)
end PyM
/-! what the written part says of such an error class, looked up -/
namespace PySem
namespace VSX
open PySem.W PySem.Calls PyProof.Rows PySem.HandSPX
def xclB (K : Frag) (C : Addr) : Bool := match K.lookup C with
  | some ⟨.type "type", dd, .cls cd, sl⟩ => (match cd.mro, sl.toList with
    | .ref C' :: bm, [_, _, _, _, some (.builtin n), _] => C' == C && n == "ValueError.__new__" && !cd.hasDel && cd.hasDict && refsVE bm
    | _, _ => false)
  | _ => false
theorem xclB_ok {K : Frag} {C : Addr} (q : xclB K C = true) : ∃ nm q N bs bm sn sub ab col dd k0 k1 k2 k3 k5, K.lookup C = some (excClassObj nm q C N bs bm true sn sub ab col dd k0 k1 k2 k3 k5 "ValueError.__new__") ∧ refsVE bm = true := by
  unfold xclB at q
  split at q
  · rename_i dd cd sl ho
    split at q
    · rename_i C' bm k0 k1 k2 k3 n k5 hm hs
      simp only [Bool.and_eq_true, beq_iff_eq, Bool.not_eq_true'] at q
      obtain ⟨⟨⟨⟨rfl, rfl⟩, hdel⟩, hdct⟩, hr⟩ := q
      obtain ⟨nm, bs, mro, ns, qn, hd, sn, sub, ab, col, del⟩ := cd
      dsimp only at hm hdel hdct
      subst hm hdel hdct
      have hsl : sl = #[k0, k1, k2, k3, some (.builtin "ValueError.__new__"), k5] := by
        obtain ⟨l⟩ := sl
        simp only at hs
        rw [hs]
      subst hsl
      exact ⟨nm, qn, ns, bs, bm, sn, sub, ab, col, dd, k0, k1, k2, k3, k5, ho, hr⟩
    · cases q
  · cases q
def lkL (s : Scope) (x : Str) : Bool := match s.names.lookup x with
  | some .local => true
  | _ => false
def lkG (s : Scope) (x : Str) : Bool := match s.names.lookup x with
  | some .globalImplicit => true
  | _ => false
def lkF (s : Scope) (x : Str) : Bool := match s.names.lookup x with
  | some .free => true
  | _ => false
def kFn (s : Scope) : Bool := match s.kind with
  | .function => true
  | _ => false
def noCell (s : Scope) : Bool := s.names.all fun x => match x.2 with
  | .cell => false
  | _ => true
theorem lkL_ok {s : Scope} {x : Str} (h : lkL s x = true) : s.names.lookup x = some .local := by
  unfold lkL at h
  split at h
  · assumption
  · cases h
theorem lkG_ok {s : Scope} {x : Str} (h : lkG s x = true) : s.names.lookup x = some .globalImplicit := by
  unfold lkG at h
  split at h
  · assumption
  · cases h
theorem lkF_ok {s : Scope} {x : Str} (h : lkF s x = true) : s.names.lookup x = some .free := by
  unfold lkF at h
  split at h
  · assumption
  · cases h
theorem kFn_ok {s : Scope} (h : kFn s = true) : s.kind = .function := by
  unfold kFn at h
  split at h
  · assumption
  · cases h
theorem noCell_ok {s : Scope} (h : noCell s = true) : ∀ x ∈ s.names, x.2 ≠ .cell := fun x hx e => by
  have z := List.all_eq_true.mp h x hx
  rw [e] at z
  cases z
def codB (K : Frag) (file : Str) (v : Value) : Bool := match v with
  | .ref cda => (match K.lookup cda with
    | some ⟨_, _, .fields vs, _⟩ => (match (vs[2]? : Option Value) with
      | some (.str fl _) => fl == file
      | _ => false)
    | _ => false)
  | _ => false
def celB (K : Frag) (C : Addr) (cc : Addr) : Bool := match K.lookup cc with
  | some ⟨_, _, .cell (some (.ref C')), _⟩ => C' == C
  | _ => false
def isN : Value → Bool
  | .none => true
  | _ => false
def bdyB (f p : Str) : FuncBody → Bool
  | .stmts [.Expr (.Call (.Attribute (.Call (.Name su _) [] [] _) ini q3) [.Constant (.str _) _ _] [] q5) _, .Assign [.Attribute (.Name s2 _) f' _] (.Name p' _) _] =>
    decide (su = "super") && decide (ini = "__init__") && decide (s2 = "self") && decide (f' = f) && decide (p' = p) && (q3.endLine == q5.line)
  | _ => false
def parB : Arguments → Option Str
  | ⟨[], [⟨s, none, _⟩, ⟨p, none, _⟩], none, [], [], none, []⟩ => if s = "self" ∧ p ∈ parN then some p else none
  | _ => none
def cloB : List (Str × Addr) → Option Addr
  | [(x, cc)] => if x = "__class__" then some cc else none
  | _ => none
def fdB (K : Frag) (file : Str) (C : Addr) (f : Str) (fd : FuncData) : Bool := match parB fd.params, cloB fd.closure with
  | some p, some cc => decide (fd.name = "__init__") && bdyB f p fd.body && decide (fd.globals = mainGlobals) && decide (fd.builtins = builtinsNs) && isN fd.defaults && isN fd.kwdefaults && codeIn K fd.code fd.qualname && codB K file fd.code && celB K C cc &&
      kFn fd.scope && !fd.scope.isCoroutine && !fd.scope.isGenerator && lkL fd.scope "self" && lkL fd.scope p && lkG fd.scope "super" && lkF fd.scope "__class__" && noCell fd.scope
  | _, _ => false
def xB (K : Frag) (file : Str) (C : Addr) (f : Str) : Bool := match findIn K (.ref C) "__init__" with
  | some (some (.ref fI)) => xclB K C && decide (findIn K (.ref C) "__setattr__" = some (some (.builtin "object.__setattr__"))) && decide (findIn K (.ref C) f = some none) && decide (typeIn K (.ref fI) = some (.type "function")) &&
      decide (ks_superIn K C C "__init__" = some (some (.builtin "ValueError.__init__"))) && decide (mroIn K C (.type "ValueError") = some true) && decide (nsIn K cStatics "thirdparty.any" = some none) && (match K.lookup fI with
        | some ⟨_, _, .func fd, _⟩ => fdB K file C f fd
        | _ => false)
  | _ => false
theorem parB_ok {a : Arguments} {p : Str} (h : parB a = some p) : p ∈ parN ∧ ∃ p1 p2, a = iA p p1 p2 := by
  unfold parB at h
  split at h
  · rename_i s p1 p' p2
    split at h
    · rename_i z
      cases h
      obtain ⟨rfl, hp⟩ := z
      exact ⟨hp, p1, p2, rfl⟩
    · cases h
  · cases h
theorem cloB_ok {l : List (Str × Addr)} {cc : Addr} (h : cloB l = some cc) : l = [(("__class__" : Str), cc)] := by
  unfold cloB at h
  split at h
  · split at h
    · rename_i z
      cases h
      rw [z]
    · cases h
  · cases h
theorem bdyB_ok {f p : Str} {b : FuncBody} (h : bdyB f p b = true) : ∃ m j q1 q2 q3 q4 q5 q6 q7 q8 q9 q10, b = .stmts (iB f p m j q1 q2 q3 q4 q5 q6 q7 q8 q9 q10) ∧ (q3.endLine == q5.line) = true := by
  unfold bdyB at h
  split at h
  · simp only [Bool.and_eq_true, decide_eq_true_eq] at h
    obtain ⟨⟨⟨⟨⟨rfl, rfl⟩, rfl⟩, rfl⟩, rfl⟩, hl⟩ := h
    exact ⟨_, _, _, _, _, _, _, _, _, _, _, _, rfl, hl⟩
  · cases h
theorem isN_ok {v : Value} (h : isN v = true) : v = .none := by
  unfold isN at h
  split at h
  · rfl
  · cases h
theorem xB_ok {prog : Program} {K : Frag} {C : Addr} {f : Str} (top : (prog.main.scope.names.lookup ("super" : Str)).isSome = false) (h : xB K prog.main.file C f = true) : ∃ fI, XTxt prog K C fI f := by
  unfold xB at h
  split at h
  · rename_i fI hI
    simp only [Bool.and_eq_true, decide_eq_true_eq] at h
    obtain ⟨⟨⟨⟨⟨⟨⟨h1, h2⟩, h3⟩, h4⟩, h5⟩, h6⟩, h7⟩, h8⟩ := h
    refine ⟨fI, xclB_ok h1, h2, h3, hI, h4, h5, h6, h7, top, ?_⟩
    split at h8
    · rename_i oc od fd osl ho
      unfold fdB at h8
      split at h8
      · rename_i p cc hp hcc
        simp only [Bool.and_eq_true, decide_eq_true_eq, Bool.not_eq_true'] at h8
        obtain ⟨⟨⟨⟨⟨⟨⟨⟨⟨⟨⟨⟨⟨⟨⟨⟨a1, a2⟩, a3⟩, a4⟩, a5⟩, a6⟩, a7⟩, a8⟩, a9⟩, a10⟩, a11⟩, a12⟩, a13⟩, a14⟩, a15⟩, a16⟩, a17⟩ := h8
        obtain ⟨hpN, p1, p2, hpar⟩ := parB_ok hp
        have hclo := cloB_ok hcc
        obtain ⟨m, j, q1, q2, q3, q4, q5, q6, q7, q8, q9, q10, hb, hl⟩ := bdyB_ok a2
        have b5 := isN_ok a5
        have b6 := isN_ok a6
        unfold codB at a8
        split at a8
        · rename_i cda hcda
          split at a8
          · rename_i ccl cdd vs ccs hcode
            split at a8
            · rename_i fl tf hvs
              unfold celB at a9
              split at a9
              · rename_i cl cld C' csl hcell
                have eC : C' = C := beq_iff_eq.mp a9
                subst eC
                obtain ⟨fn, fq, fp, fb, fsc, fg, fcl, fdf, fkw, fdoc, fpm, fan, fco, fct, fbi⟩ := fd
                dsimp only at a1 a3 a4 a7 a10 a11 a12 a13 a14 a15 a16 a17 hpar hclo hb b5 b6 hcda
                subst a1 a3 a4 hpar hclo hb b5 b6 hcda
                have ef : fl = prog.main.file := eq_of_beq a8
                exact ⟨oc, od, fdoc, fpm, fan, cda, fct, cc, osl, p, m, j, p1, p2, q1, q2, q3, q4, q5, q6, q7, q8, q9, q10, fsc, fq, vs, fl, tf, ccl, cdd, ccs, cl, cld, csl, ho, a7, hcode, hvs, by rw [ef]; exact beq_self_eq_true _, hcell, hpN, hl, kFn_ok a10, a11, a12, lkL_ok a13, lkL_ok a14, lkG_ok a15, lkF_ok a16, noCell_ok a17⟩
              · cases a9
            · cases a8
          · cases a8
        · cases a8
      · cases h8
    · cases h8
  · cases h
end VSX
end PySem
namespace PyM
open PySem PySem.Spec PyProof.Rows L2

/-! ### the module's constants -/
mutual
def conB (K : PySem.W.Frag) : P → Value → Bool
  | .non, .none => true
  | .int i, .int j _ => decide (i = j)
  | .str x, .str y _ => decide (x = y) && PyData.strOk x && decide (x.length ≤ sizeLine)
  | .tup xs, .ref a => (match K.lookup a with
    | some ⟨.type c, _, .seq its _, _⟩ => decide (c = "tuple") && decide (its.size ≤ sizeLine) && conBs K xs its.toList
    | _ => false)
  | _, _ => false
def conBs (K : PySem.W.Frag) : List P → List Value → Bool
  | [], [] => true
  | x :: xs, u :: us => conB K x u && conBs K xs us
  | _, _ => false
end
mutual
theorem con_rep {c : Cfg} : ∀ (p : P) (u : Value), conB c.K p u = true → ∃ v, RelV v u ∧ ∀ F H, RepP c F H p v
  | .non, u, h => by
    cases u <;> first | (simp [conB] at h; done) | skip
    exact ⟨.non, rfl, fun F H => by rw [RepP]⟩
  | .int i, u, h => by
    cases u <;> first | (simp [conB] at h; done) | skip
    rename_i j t
    have e : i = j := by simpa [conB] using h
    subst e
    exact ⟨.int i, ⟨t, rfl⟩, fun F H => by rw [RepP]⟩
  | .str x, u, h => by
    cases u <;> first | (simp [conB] at h; done) | skip
    rename_i j t
    simp only [conB, Bool.and_eq_true, decide_eq_true_eq] at h
    obtain ⟨⟨e, h1⟩, h2⟩ := h
    subst e
    exact ⟨.str x, ⟨t, rfl⟩, fun F H => by rw [RepP]; exact ⟨rfl, h1, h2⟩⟩
  | .tup xs, u, h => by
    cases u <;> first | (simp [conB] at h; done) | skip
    rename_i a
    unfold conB at h
    split at h
    · rename_i cn od its n sl e
      rw [Bool.and_eq_true, Bool.and_eq_true] at h
      obtain ⟨⟨h1, h2⟩, h3⟩ := h
      obtain ⟨vs, rv, rp⟩ := con_reps xs its.toList h3
      have hl : vs.length ≤ sizeLine := by
        rw [Vals.length rv]
        have := of_decide_eq_true h2
        simpa using this
      refine ⟨.ref a, rfl, fun F H => ?_⟩
      rw [RepP]
      exact ⟨a, vs, rfl, .inr ⟨_, its, n, e, congrArg Value.type (of_decide_eq_true h1), rfl, of_decide_eq_true h2, rv⟩, hl, rp F H⟩
    · cases h
  | .bl _, u, h => by cases u <;> simp [conB] at h
  | .ty _, u, h => by cases u <;> simp [conB] at h
  | .lst _, u, h => by cases u <;> simp [conB] at h
  | .dct _, u, h => by cases u <;> simp [conB] at h
  | .ins _ _, u, h => by cases u <;> simp [conB] at h
  | .scr _, u, h => by cases u <;> simp [conB] at h
theorem con_reps {c : Cfg} : ∀ (ps : List P) (us : List Value), conBs c.K ps us = true → ∃ vs, Vals vs us ∧ ∀ F H, RepPs c F H ps vs
  | [], [], _ => ⟨[], .nil, fun F H => by rw [RepPs]⟩
  | [], _ :: _, h => by simp [conBs] at h
  | _ :: _, [], h => by simp [conBs] at h
  | p :: ps, u :: us, h => by
    rw [conBs, Bool.and_eq_true] at h
    obtain ⟨v, rv, rp⟩ := con_rep p u h.1
    obtain ⟨vs, rvs, rps⟩ := con_reps ps us h.2
    exact ⟨v :: vs, .cons rv rvs, fun F H => by rw [RepPs]; exact ⟨_, _, rfl, rp F H, rps F H⟩⟩
end
def conG (K : PySem.W.Frag) (q : Str × P) : Bool := match PySem.W.nsIn K mainGlobals q.1 with
  | some (some u) => conB K q.2 u
  | _ => false
theorem con_ok {P : Program} {w : World} {ca : Str → Option Addr} {K : PySem.W.Frag} {h : Heap} {mg : Str → Option Value} {cs : List (Str × PyM.P)} (X : K.In h) (G : h.Ns mainGlobals mg) (cc : cs.all (conG K) = true) : ∀ q ∈ cs, ∃ (u : Value) (v : V), mg q.1 = some u ∧ RelV v u ∧ ∀ F H, RepP ⟨P, w, K, ca⟩ F H q.2 v := fun q hq => by
  have e := List.all_eq_true.mp cc q hq
  unfold conG at e
  split at e
  · rename_i u hu
    obtain ⟨v, rv, rp⟩ := con_rep (c := ⟨P, w, K, ca⟩) q.2 u e
    exact ⟨u, v, PySem.W.mg_of X G hu, rv, rp⟩
  · cases e
/-! ### plain classes -/
def caOf (K : PySem.W.Frag) (cl : List Str) : Str → Option Addr := fun c => if c ∈ cl then some (He.ga K c) else none
theorem caOf_some {K : PySem.W.Frag} {cl : List Str} {c : Str} {A : Addr} (h : caOf K cl c = some A) : c ∈ cl ∧ A = He.ga K c := by
  unfold caOf at h
  split at h
  · rename_i hc
    exact ⟨hc, (Option.some.inj h).symm⟩
  · cases h
def clsG (K : PySem.W.Frag) (cl : List Str) : Bool := cl.all fun c =>
  (He.Fa.cls c).ok K && (decide (PySem.W.findIn K (.ref (He.ga K c)) "__class__" = some (some (.builtin "object.__class__"))) && (decide (PySem.W.specialIn K (.builtin "object.__class__") "__get__" = some (some (.builtin "getset_descriptor.__get__"))) &&
  (decide (PySem.W.takesIn K (.builtin "object.__class__") = some true) && (decide (PySem.W.mroIn K (He.ga K c) (.type "object") = some true) && (tyArg.all (fun n => decide (PySem.W.kitOne K (.ref (He.ga K c)) (.type n) = some false)) &&
  (cl.all (fun d => decide (PySem.W.kitOne K (.ref (He.ga K c)) (.ref (He.ga K d)) = some (decide (d = c)))) && tyAll.all (fun m => decide (PySem.W.kitOne K (.type m) (.ref (He.ga K c)) = some false))))))))
theorem kf_of {K : PySem.W.Frag} {cl : List Str} (h : clsG K cl = true) : KF K (caOf K cl) := by
  have f : ∀ c ∈ cl, (He.Fa.cls c).ok K = true ∧ PySem.W.findIn K (.ref (He.ga K c)) "__class__" = some (some (.builtin "object.__class__")) ∧ PySem.W.specialIn K (.builtin "object.__class__") "__get__" = some (some (.builtin "getset_descriptor.__get__")) ∧
      PySem.W.takesIn K (.builtin "object.__class__") = some true ∧ PySem.W.mroIn K (He.ga K c) (.type "object") = some true ∧ (∀ n ∈ tyArg, PySem.W.kitOne K (.ref (He.ga K c)) (.type n) = some false) ∧
      (∀ d ∈ cl, PySem.W.kitOne K (.ref (He.ga K c)) (.ref (He.ga K d)) = some (decide (d = c))) ∧ ∀ m ∈ tyAll, PySem.W.kitOne K (.type m) (.ref (He.ga K c)) = some false := fun c hc => by
    have e := List.all_eq_true.mp h c hc
    simp only [Bool.and_eq_true, List.all_eq_true] at e
    obtain ⟨e1, e2, e3, e4, e5, e6, e7, e8⟩ := e
    exact ⟨e1, of_decide_eq_true e2, of_decide_eq_true e3, of_decide_eq_true e4, of_decide_eq_true e5, fun n hn => of_decide_eq_true (e6 n hn), fun d hd => of_decide_eq_true (e7 d hd), fun m hm => of_decide_eq_true (e8 m hm)⟩
  exact {
    cls := fun c A e => by obtain ⟨hc, rfl⟩ := caOf_some e; exact He.cls_ok (f c hc).1
    ha := fun c A e => by obtain ⟨hc, rfl⟩ := caOf_some e; exact (f c hc).2.1
    hn := fun c A e => by obtain ⟨hc, rfl⟩ := caOf_some e; exact (f c hc).2.2.1
    htk := fun c A e => by obtain ⟨hc, rfl⟩ := caOf_some e; exact (f c hc).2.2.2.1
    hm := fun c A e => by obtain ⟨hc, rfl⟩ := caOf_some e; exact (f c hc).2.2.2.2.1
    k1 := fun c A e => by obtain ⟨hc, rfl⟩ := caOf_some e; exact (f c hc).2.2.2.2.2.1
    k2 := fun c A d B e e2 => by obtain ⟨hc, rfl⟩ := caOf_some e; obtain ⟨hd, rfl⟩ := caOf_some e2; exact (f c hc).2.2.2.2.2.2.1 d hd
    k3 := fun m hm c A e => by obtain ⟨hc, rfl⟩ := caOf_some e; exact (f c hc).2.2.2.2.2.2.2 m hm }
/-- a class is where its name is -/
theorem cls_at {K : PySem.W.Frag} {cl : List Str} {c : Str} (hc : c ∈ cl) : caOf K cl c = some (He.ga K c) := if_pos hc
/-! ### exception classes -/
def xisG (K : PySem.W.Frag) (bl : List Str) (A : Addr) (z : Str × Bool) : Bool := match PySem.W.nsIn K mainGlobals z.1 with
  | some (some (.ref B)) => decide (PySem.W.exmOne K (.ref A) (.ref B) = some z.2) && decide (PySem.W.kitOne K (.ref A) (.ref B) = some z.2)
  | _ => decide (z.1 = "ValueError") && decide (z.1 ∈ bl) && decide (PySem.W.exmOne K (.ref A) (.type "ValueError") = some z.2) && decide (PySem.W.kitOne K (.ref A) (.type "ValueError") = some z.2)
def xcG (K : PySem.W.Frag) (bl : List Str) (file : Str) (q : Xc) : Bool :=
  decide (PySem.W.nsIn K mainGlobals q.c = some (some (.ref (He.ga K q.c)))) && (PySem.W.keepIn K (.ref (He.ga K q.c)) && (decide (PySem.W.subIn K (.ref (He.ga K q.c)) (.type "BaseException") = some true) && (decide (PySem.W.typeIn K (.ref (He.ga K q.c)) = some (.type "type")) &&
  (decide (PySem.W.findIn K (.ref (He.ga K q.c)) "__getattribute__" = some (some (.builtin "BaseException.__getattribute__"))) && (decide (PySem.W.findIn K (.ref (He.ga K q.c)) "__getattr__" = some none) && (PySem.W.hasDictIn K (He.ga K q.c) &&
  (decide (PySem.W.findIn K (.ref (He.ga K q.c)) "__class__" = some (some (.builtin "object.__class__"))) && (decide (PySem.W.specialIn K (.builtin "object.__class__") "__get__" = some (some (.builtin "getset_descriptor.__get__"))) && (decide (PySem.W.takesIn K (.builtin "object.__class__") = some true) &&
  (decide (PySem.W.mroIn K (He.ga K q.c) (.type "object") = some true) && ((match q.ini with
    | none => PySem.W.excIn K (He.ga K q.c) PySem.HandSPX.veTail "ValueError.__new__"
    | some f => decide (("super" : Str) ∈ bl) && PySem.VSX.xB K file (He.ga K q.c) f) && (q.fno.all (fun f => decide (PySem.W.findIn K (.ref (He.ga K q.c)) f = some none)) && q.is.all (xisG K bl (He.ga K q.c))))))))))))))
theorem boot_ve : bootBuiltins "ValueError" = some (.type "ValueError") := by decide +kernel
theorem xc_ok {P : Program} {K : PySem.W.Frag} {h : Heap} {mg : Str → Option Value} {bl : List Str} {xcs : List Xc} (X : K.In h) (G : h.Ns mainGlobals mg) (hbl : ∀ x ∈ bl, mg x = none) (top : (P.main.scope.names.lookup ("super" : Str)).isSome = false) (cc : xcs.all (xcG K bl P.main.file) = true) : ∀ q ∈ xcs, XcOk P K mg q := fun q hq => by
  have e := List.all_eq_true.mp cc q hq
  unfold xcG at e
  simp only [Bool.and_eq_true] at e
  obtain ⟨e1, e2, e3, e4, e5, e6, e7, e8, e9, e10, e11, e12, e13, e14⟩ := e
  refine ⟨PySem.W.mg_of X G (of_decide_eq_true e1), e2, of_decide_eq_true e3, of_decide_eq_true e4, ⟨of_decide_eq_true e5, of_decide_eq_true e6, of_decide_eq_true e3, e7, of_decide_eq_true e8, of_decide_eq_true e9, of_decide_eq_true e10, of_decide_eq_true e11⟩, fun hi => ?_, fun f hi => ?_, fun f hf => of_decide_eq_true (List.all_eq_true.mp e13 f hf), fun z hz => ?_⟩
  · rw [hi] at e12
    exact e12
  · rw [hi] at e12
    dsimp only at e12
    rw [Bool.and_eq_true] at e12
    exact ⟨hbl _ (of_decide_eq_true e12.1), PySem.VSX.xB_ok top e12.2⟩
  · have e := List.all_eq_true.mp e14 z hz
    unfold xisG at e
    split at e
    · rename_i B hB
      rw [Bool.and_eq_true] at e
      exact ⟨.ref B, .inl ⟨B, rfl, PySem.W.mg_of X G hB⟩, of_decide_eq_true e.1, of_decide_eq_true e.2⟩
    · simp only [Bool.and_eq_true] at e
      obtain ⟨⟨⟨k1, k2⟩, k3⟩, k4⟩ := e
      have k1 := of_decide_eq_true k1
      exact ⟨.type "ValueError", .inr ⟨_, rfl, hbl _ (of_decide_eq_true k2), by rw [k1]; exact boot_ve, by rw [k1]; decide⟩, of_decide_eq_true k3, of_decide_eq_true k4⟩
abbrev AlC : Type := Bool × He.AlD
def obsC (fa : List He.Fa) (fn : List He.DefD) (cs : List (Str × P)) (cl bl : List Str) (file : Str) (xcs : List Xc) (K : PySem.W.Frag) : AlC := (cs.all (conG K) && (clsG K cl && xcs.all (xcG K bl file)), He.obsD fa fn K)
def obsCG (n : Nat) (fa : List He.Fa) (fn : List He.DefD) (cs : List (Str × P)) (cl bl : List Str) (file : Str) (xcs : List Xc) (g : Addr → Option Obj) : AlC := obsC fa fn cs cl bl file xcs (He.frG g (PySem.cStatics :: He.asD g n))
def hookC (n : Nat) (fa : List He.Fa) (fn : List He.DefD) (cs : List (Str × P)) (cl bl : List Str) (file : Str) (xcs : List Xc) : PySem.W.Hook where
  α := AlC
  obs := fun s => obsCG n fa fn cs cl bl file xcs s.heap.get?
  val := fun _ => (true, He.valD fn)
  says := fun _ h => ∃ K : PySem.W.Frag, K.In h ∧ He.SaysD fa fn K ∧ cs.all (conG K) = true ∧ clsG K cl = true ∧ xcs.all (xcG K bl file) = true
  of := fun _ _ e => ⟨_, He.frG_in, congrArg (fun z : AlC => z.2) e, (Bool.and_eq_true_iff.mp (congrArg (fun z : AlC => z.1) e)).1, Bool.and_eq_true_iff.mp (Bool.and_eq_true_iff.mp (congrArg (fun z : AlC => z.1) e)).2⟩
  keeps := fun _ _ _ ⟨K, hK, c⟩ k => ⟨K, PySem.W.Frag.In.keeps hK k, c⟩
theorem obsCG_eq {n : Nat} {fa : List He.Fa} {fn : List He.DefD} {cs : List (Str × P)} {cl bl : List Str} {file : Str} {xcs : List Xc} {g : Addr → Option Obj} {s : Shared} (h : ∀ a, g a = s.heap.get? a) : obsCG n fa fn cs cl bl file xcs g = (hookC n fa fn cs cl bl file xcs).obs s := by
  have e : g = s.heap.get? := funext h
  rw [e] <;> rfl
end PyM
namespace PyM
open PySem

/-! ### the meaning, for simp -/
def gtv (o : Option (Option D)) (st : Sto) : Res D := match o with
  | some (some d) => .ok d st
  | _ => .fail
@[simp] theorem gtv_some (d : D) (st : Sto) : gtv (some (some d)) st = .ok d st := rfl
/-- two plain values -/
def on2 {α : Type} (st : Sto) (x y : D) (f : P → P → Res α) : Res α := match rd st x, rd st y with
  | some p, some q => f p q
  | _, _ => .fail
@[simp] theorem on2_p {α : Type} (st : Sto) (x y : P) (f : P → P → Res α) : on2 st (.p x) (.p y) f = f x y := rfl
@[simp] theorem rd_pp (st : Sto) (x : P) : rd st (.p x) = some x := rfl
/-- a bool chooses -/
def chs {α : Type} (o : Option Bool) (a b : Res α) : Res α := match o with
  | some true => a
  | some false => b
  | none => .fail
@[simp] theorem chs_some {α : Type} (b : Bool) (x y : Res α) : chs (some b) x y = if b = true then x else y := by cases b <;> rfl
section
variable {cf : CF} {env : Env} {st : Sto} {a b c : Ex}
@[simp] theorem e_var' (i : Nat) : den cf (.var i) env st = gtv env[i]? st := by rw [den] <;> rfl
@[simp] theorem e_lit' (x : P) : den cf (.lit x) env st = .ok (.p x) st := by rw [den]
@[simp] theorem e_bin' (o : BOp) : den cf (.bin o a b) env st = (den cf a env st).bind fun x s1 => (den cf b env s1).bind fun y s2 => on2 s2 x y fun p q => opt ((bop o p q).map .p) s2 := by rw [den] <;> rfl
@[simp] theorem e_cmp' (o : COp) : den cf (.cmp o a b) env st = (den cf a env st).bind fun x s1 => (den cf b env s1).bind fun y s2 => on2 s2 x y fun p q => opt ((cop o p q).map fun b => .p (.bl b)) s2 := by rw [den] <;> rfl
@[simp] theorem e_and' : den cf (.and a b) env st = (den cf a env st).bind fun x s1 => chs ((rd s1 x).bind truth) (den cf b env s1) (.ok x s1) := by rw [den] <;> rfl
@[simp] theorem e_or' : den cf (.or a b) env st = (den cf a env st).bind fun x s1 => chs ((rd s1 x).bind truth) (.ok x s1) (den cf b env s1) := by rw [den] <;> rfl
@[simp] theorem e_not' : den cf (.not a) env st = (den cf a env st).bind fun x s1 => opt (((rd s1 x).bind truth).map fun b => .p (.bl (!b))) s1 := by rw [den]
@[simp] theorem e_ite' : den cf (.ite a b c) env st = (den cf a env st).bind fun x s1 => chs ((rd s1 x).bind truth) (den cf b env s1) (den cf c env s1) := by rw [den] <;> rfl
@[simp] theorem e_call' (m : Cm) (f : Nat) (as : Exs) : den cf (.call m f as) env st = (dens cf as env st).bind fun ds s1 => callM m cf f ds s1 := by rw [den]
@[simp] theorem e_blt' (m : Blt) (as : Exs) : den cf (.blt m as) env st = (dens cf as env st).bind fun ds s1 => blt m ds s1 := by rw [den]
@[simp] theorem e_isi' (ts : List TyN) : den cf (.isi a ts) env st = (den cf a env st).bind fun x s1 => opt ((isAny x s1 ts).map fun b => .p (.bl b)) s1 := by rw [den]
@[simp] theorem e_mth' (m : Mth) (as : Exs) : den cf (.mth m a as) env st = (den cf a env st).bind fun x s1 => if mok s1 m x = true then (dens cf as env s1).bind fun ds s2 => mth m x ds s2 else .fail := by rw [den]
@[simp] theorem e_ix' : den cf (.ix a b) env st = (den cf a env st).bind fun x s1 => (den cf b env s1).bind fun y s2 => opt (ixD s2 x y) s2 := by rw [den]
def slR (st : Sto) (l : Bool) (x : D) (i j : Option Int) : Res D := match rd st x with
  | some x => slD st l x i j
  | none => .fail
@[simp] theorem slR_p (x : P) (l : Bool) (i j : Option Int) : slR st l (.p x) i j = slD st l x i j := rfl
@[simp] theorem e_sl' (lo hi : OEx) (l : Bool) : den cf (.sl a lo hi l) env st = (den cf a env st).bind fun x s1 => (deno cf lo env s1).bind fun i s2 => (deno cf hi env s2).bind fun j s3 => slR s3 l x i j := by rw [den] <;> rfl
@[simp] theorem e_tup' (as : Exs) : den cf (.tup as) env st = (dens cf as env st).bind fun ds s1 => mkT ds s1 := by rw [den]
@[simp] theorem e_lst' (l : Bool) (as : Exs) : den cf (.lst l as) env st = (dens cf as env st).bind fun ds s1 => mkL l ds s1 := by rw [den]
@[simp] theorem e_dnew' (l : Bool) : den cf (.dnew l) env st = mkD l [] st := by rw [den]
@[simp] theorem e_frz' : den cf (.frz a) env st = (den cf a env st).bind fun x s1 => frzD x s1 := by rw [den]
@[simp] theorem es_nil' : dens cf .nil env st = .ok [] st := by rw [dens]
@[simp] theorem es_cons' (as : Exs) : dens cf (.cons a as) env st = (den cf a env st).bind fun x s1 => (dens cf as env s1).bind fun xs s2 => .ok (x :: xs) s2 := by rw [dens]
def toI (x : D) (st : Sto) : Res (Option Int) := match x with
  | .p (.int i) => .ok (some i) st
  | _ => .fail
@[simp] theorem toI_int (i : Int) : toI (.p (.int i)) st = .ok (some i) st := rfl
@[simp] theorem o_none' : deno cf .none env st = .ok none st := by rw [deno]
@[simp] theorem o_some' : deno cf (.some a) env st = (den cf a env st).bind toI := by rw [deno] <;> rfl
@[simp] theorem c_none' : denc cf .none env st = .ok true st := by rw [denc]
@[simp] theorem c_some' : denc cf (.some a) env st = (den cf a env st).bind fun x s1 => opt ((rd s1 x).bind truth) s1 := by rw [denc]
@[simp] theorem t_nm' (i : Nat) (d : D) : denT cf (.nm i) d env st = .ok (env.set i (some d)) st := by rw [denT]
@[simp] theorem t_tup' (ts : Tgs) (xs : List P) : denT cf (.tup ts) (.p (.tup xs)) env st = denTs cf ts (xs.map .p) env st := by rw [denT]
def setR (o : Option Sto) (env : Env) : Res Env := match o with
  | some s => .ok env s
  | none => .fail
@[simp] theorem setR_some (s : Sto) : setR (some s) env = .ok env s := rfl
@[simp] theorem nox_ok {α : Type} (a : α) (s : Sto) : (Res.ok a s).nox = .ok a s := rfl
@[simp] theorem t_sub' (d : D) : denT cf (.sub a b) d env st = ((den cf a env st).bind fun x s1 => (den cf b env s1).bind fun y s2 => setR (setIx s2 x y d) env).nox := by rw [denT] <;> rfl
@[simp] theorem ts_nil' : denTs cf .nil [] env st = .ok env st := by rw [denTs]
@[simp] theorem ts_cons' (t : Tg) (ts : Tgs) (d : D) (r : List D) : denTs cf (.cons t ts) (d :: r) env st = (denT cf t d env st).bind fun e1 s1 => denTs cf ts r e1 s1 := by rw [denTs]
@[simp] theorem i_seq' : deni cf (.seq a) env st = (den cf a env st).bind fun x s1 => opt (srcOf s1 x) s1 := by rw [deni]
def rngR (x : D) (st : Sto) : Res Src := match x with
  | .p (.int j) => if -(2 ^ 62) ≤ j ∧ j ≤ sizeLine then .ok (.fix (rngL 0 j.toNat)) st else .fail
  | _ => .fail
theorem rngR_int {j : Int} (h1 : 0 ≤ j) (h2 : j ≤ 16777216) : rngR (.p (.int j)) st = .ok (.fix (rngL 0 j.toNat)) st := by
  show (if _ then _ else _) = _
  rw [if_pos ⟨by omega, by rw [sizeLine_eq]; exact h2⟩]
@[simp] theorem i_rng1' : deni cf (.rng1 a) env st = (den cf a env st).bind rngR := by rw [deni] <;> rfl
@[simp] theorem s_asg' (t : Tg) : dnS cf (.asg t a) env st = (den cf a env st).thn env fun d s1 => (denT cf t d env s1).thn env fun e1 s2 => .nx e1 s2 := by rw [dnS]
@[simp] theorem s_ex' : dnS cf (.ex a) env st = (den cf a env st).thn env fun _ s1 => .nx env s1 := by rw [dnS]
@[simp] theorem s_ret' : dnS cf (.ret a) env st = (den cf a env st).thn env fun d s1 => .rt d s1 := by rw [dnS]
@[simp] theorem s_retN' : dnS cf .retN env st = .rt (.p .non) st := by rw [dnS]
@[simp] theorem s_ite' (x y : Sts) : dnS cf (.ite a x y) env st = (denc cf (.some a) env st).thn env fun t s1 => if t = true then dnB cf x env s1 else dnB cf y env s1 := by
  rw [dnS]
  congr 1
  funext t s1
  cases t <;> rfl
@[simp] theorem s_brk' : dnS cf .brk env st = .bk env st := by rw [dnS]
@[simp] theorem s_cnt' : dnS cf .cnt env st = .ct env st := by rw [dnS]
@[simp] theorem s_pas' : dnS cf .pas env st = .nx env st := by rw [dnS]
@[simp] theorem e_con' (x : Str) (p : P) : den cf (.con x p) env st = .ok (.p p) st := by rw [den]
@[simp] theorem s_par' (i j : Nat) : dnS cf (.par i j a b) env st = (den cf a env st).thn env fun x s1 => (den cf b env s1).thn env fun y s2 => .nx ((env.set i (some x)).set j (some y)) s2 := by rw [dnS]
def gzR (o : Option (Option D)) (i : Nat) (env : Env) (st : Sto) : SR := match o with
  | some (some d) => (frzD d st).thn env fun x s1 => .nx (env.set i (some x)) s1
  | _ => .fail
@[simp] theorem gzR_some (d : D) (i : Nat) : gzR (some (some d)) i env st = (frzD d st).thn env fun x s1 => .nx (env.set i (some x)) s1 := rfl
@[simp] theorem s_gz' (i : Nat) : dnS cf (.gz i) env st = gzR env[i]? i env st := by rw [dnS] <;> rfl
@[simp] theorem b_nil' : dnB cf .nil env st = .nx env st := by rw [dnB]
@[simp] theorem b_cons' (s : Stm) (ss : Sts) : dnB cf (.cons s ss) env st = (dnS cf s env st).bind fun e1 s1 => dnB cf ss e1 s1 := by rw [dnB]
/-- a loop over values told ahead -/
def stepF (cf : CF) (tg : Tg) (b : Sts) (d : D) (e : Env) (s : Sto) : SR := (denT cf tg d e s).thn e fun e1 s2 => dnB cf b e1 s2
def forSrc (cf : CF) (tg : Tg) (b : Sts) (src : Src) (env : Env) (s1 : Sto) : SR := match src with
  | .fix xs => forFix (stepF cf tg b) xs env s1
  | .loc n => forLoc (stepF cf tg b) n FUEL 0 env s1
@[simp] theorem forSrc_fix (tg : Tg) (b : Sts) (xs : List D) : forSrc cf tg b (.fix xs) env st = forFix (stepF cf tg b) xs env st := rfl
@[simp] theorem s_for' (tg : Tg) (it : It) (b : Sts) : dnS cf (.for tg it b) env st = (deni cf it env st).thn env fun src s1 => forSrc cf tg b src env s1 := by rw [dnS] <;> rfl
end
/-! ### plain values -/
@[simp] theorem truth_bl (b : Bool) : truth (.bl b) = some b := rfl
theorem peq_int (i j : Int) : peq (.int i) (.int j) = some (decide (i = j)) := by
  unfold peq
  rw [if_pos (by simp [P.eqok, P.flat, P.depth])]
  simp [P.toPD, PyData.eqv]
  rw [Bool.eq_iff_iff]
  simp
@[simp] theorem cop_eqI (i j : Int) : cop .eq (.int i) (.int j) = some (decide (i = j)) := peq_int i j
@[simp] theorem cop_neI (i j : Int) : cop .ne (.int i) (.int j) = some (!decide (i = j)) := by show (peq (.int i) (.int j)).map (fun b => !b) = _; rw [peq_int]; rfl
@[simp] theorem cop_ltI (i j : Int) : cop .lt (.int i) (.int j) = some (decide (i < j)) := rfl
@[simp] theorem cop_gtI (i j : Int) : cop .gt (.int i) (.int j) = some (decide (j < i)) := rfl
@[simp] theorem cop_leI (i j : Int) : cop .le (.int i) (.int j) = some (decide (i ≤ j)) := rfl
@[simp] theorem cop_geI (i j : Int) : cop .ge (.int i) (.int j) = some (decide (j ≤ i)) := rfl
@[simp] theorem bop_addI (i j : Int) : bop .add (.int i) (.int j) = some (.int (i + j)) := rfl
@[simp] theorem bop_subI (i j : Int) : bop .sub (.int i) (.int j) = some (.int (i - j)) := rfl
theorem bop_mulI {i j : Int} (h : mulOk i j = true) : bop .mul (.int i) (.int j) = some (.int (i * j)) := by show (if _ then _ else _) = _; rw [if_pos h]
theorem bop_modI {i j : Int} (h : 0 < j) : bop .mod (.int i) (.int j) = some (.int (i % j)) := by show (if _ then _ else _) = _; rw [if_pos h]
theorem bop_divI {i j : Int} (h : divOk j = true) : bop .fdiv (.int i) (.int j) = some (.int (i / j)) := by show (if _ then _ else _) = _; rw [if_pos h]
theorem mulOk_r {i j : Int} (h1 : -(2 ^ 64) < j) (h2 : j < 2 ^ 64) : mulOk i j = true := by unfold mulOk; simp only [Bool.or_eq_true, decide_eq_true_eq]; exact .inl (.inr ⟨h1, h2⟩)
theorem mulOk_l {i j : Int} (h1 : -(2 ^ 64) < i) (h2 : i < 2 ^ 64) : mulOk i j = true := by unfold mulOk; simp only [Bool.or_eq_true, decide_eq_true_eq]; exact .inl (.inl ⟨h1, h2⟩)
theorem divOk_s {j : Int} (h1 : 0 < j) (h2 : j < 1073741824) : divOk j = true := by unfold divOk; simp only [Bool.and_eq_true, Bool.or_eq_true, decide_eq_true_eq]; exact ⟨h1, .inl h2⟩
@[simp] theorem blt_int (i : Int) (st : Sto) : blt .int [.p (.int i)] st = .ok (.p (.int i)) st := rfl
@[simp] theorem blt_lenL (xs : List P) (st : Sto) : blt .len [.p (.lst xs)] st = .ok (.p (.int xs.length)) st := rfl
@[simp] theorem blt_lenT (xs : List P) (st : Sto) : blt .len [.p (.tup xs)] st = .ok (.p (.int xs.length)) st := rfl
@[simp] theorem blt_lenS (x : Str) (st : Sto) : blt .len [.p (.str x)] st = .ok (.p (.int x.length)) st := rfl
@[simp] theorem blt_absI (i : Int) (st : Sto) : blt .abs [.p (.int i)] st = .ok (.p (.int (if i < 0 then -i else i))) st := rfl
theorem set_self {st : Sto} {n : Nat} {o x : Ob} (h : st[n]? = some o) : (st.set n x)[n]? = some x := by
  rw [List.getElem?_set_self (List.getElem?_eq_some_iff.mp h).1]
theorem ixN_nat {n : Nat} {i : Int} (h0 : 0 ≤ i) (h : i < n) : L2.ixN n i = some i.toNat := by
  unfold L2.ixN
  rw [if_pos h0, if_pos h]
theorem atI_at {α : Type} {xs : List α} {i : Int} (h0 : 0 ≤ i) (h : i < xs.length) : ∃ v, L2.atI xs i = some v ∧ v ∈ xs := by
  unfold L2.atI
  rw [ixN_nat h0 h]
  refine ⟨xs[i.toNat]'(by omega), ?_, List.getElem_mem _⟩
  show xs[i.toNat]? = _
  rw [List.getElem?_eq_getElem]
end PyM
namespace PyM
open PySem

/-! ### the dice of the laws -/
def drawA : Stm := .ite (.and (.cmp .eq (.ix (.var 0) (.lit (.int 2))) (.lit (.int 0))) (.cmp .lt (.ix (.var 0) (.lit (.int 1))) (.blt .len (.cons (.ix (.var 0) (.lit (.int 0))) .nil)))) (.cons (.asg (.nm 3) (.ix (.ix (.var 0) (.lit (.int 0))) (.ix (.var 0) (.lit (.int 1)))))
  (.cons (.asg (.sub (.var 0) (.lit (.int 1))) (.bin .add (.ix (.var 0) (.lit (.int 1))) (.lit (.int 1))))
  (.cons (.ite (.cmp .ge (.var 3) (.bin .pow (.lit (.int 10)) (.lit (.int 18)))) (.cons (.asg (.sub (.var 0) (.lit (.int 2))) (.var 3))
  .nil) (.cons (.asg (.sub (.var 0) (.lit (.int 3))) (.bin .mod (.blt .int (.cons (.bin .add (.bin .add (.bin .mul (.ix (.var 0) (.lit (.int 3))) (.lit (.int 69621))) (.bin .mul (.var 3) (.lit (.int 40692)))) (.ix (.var 0) (.lit (.int 1)))) .nil)) (.lit (.int 2147483647))))
  .nil))
  .nil))) .nil
def drawC : Stm := .ite (.cmp .gt (.ix (.var 0) (.lit (.int 2))) (.lit (.int 0))) (.cons (.asg (.nm 4) (.bin .mod (.blt .int (.cons (.ix (.var 0) (.lit (.int 2))) .nil)) (.var 1)))
  (.cons (.asg (.sub (.var 0) (.lit (.int 2))) (.bin .fdiv (.ix (.var 0) (.lit (.int 2))) (.var 1)))
  (.cons (.ret (.var 4))
  .nil))) .nil
def drawE : Sts := (.cons (.asg (.sub (.var 0) (.lit (.int 4))) (.bin .add (.ix (.var 0) (.lit (.int 4))) (.lit (.int 1))))
  (.cons (.asg (.sub (.var 0) (.lit (.int 3))) (.bin .mod (.blt .int (.cons (.bin .add (.bin .add (.bin .mul (.ix (.var 0) (.lit (.int 3))) (.lit (.int 48271))) (.bin .mul (.ix (.var 0) (.lit (.int 4))) (.lit (.int 7919)))) (.lit (.int 1))) .nil)) (.lit (.int 2147483647))))
  (.cons (.asg (.nm 2) (.bin .mod (.blt .int (.cons (.bin .mul (.ix (.var 0) (.lit (.int 3))) (.bin .add (.bin .fdiv (.ix (.var 0) (.lit (.int 3))) (.lit (.int 1009))) (.lit (.int 69623)))) .nil)) (.lit (.int 2147483399))))
  (.cons (.asg (.nm 2) (.bin .mod (.blt .int (.cons (.bin .mul (.var 2) (.bin .add (.bin .fdiv (.var 2) (.lit (.int 2003))) (.lit (.int 40693)))) .nil)) (.lit (.int 2147483563))))
  (.cons (.ret (.bin .mod (.blt .int (.cons (.bin .fdiv (.var 2) (.lit (.int 16))) .nil)) (.var 1)))
  .nil)))))
def drawB : Sts := .cons drawA (.cons drawC drawE)
def dL (cs : List Int) (i big a b : Int) : List D := [.p (.lst (cs.map .int)), .p (.int i), .p (.int big), .p (.int a), .p (.int b)]
structure DiceOk (cs : List Int) (i big a b : Int) : Prop where
  hc : ∀ c ∈ cs, 0 ≤ c
  hi : 0 ≤ i
  hg : 0 ≤ big
  ha : 0 ≤ a
  ha' : a < 2147483647
  hb : 0 ≤ b
def DiceO (o : Ob) : Prop := ∃ cs i big a b, o = .lst (dL cs i big a b) ∧ DiceOk cs i big a b
@[simp] theorem dL0 (cs : List Int) (i big a b : Int) : L2.atI (dL cs i big a b) 0 = some (.p (.lst (cs.map .int))) := rfl
@[simp] theorem dL1 (cs : List Int) (i big a b : Int) : L2.atI (dL cs i big a b) 1 = some (.p (.int i)) := rfl
@[simp] theorem dL2 (cs : List Int) (i big a b : Int) : L2.atI (dL cs i big a b) 2 = some (.p (.int big)) := rfl
@[simp] theorem dL3 (cs : List Int) (i big a b : Int) : L2.atI (dL cs i big a b) 3 = some (.p (.int a)) := rfl
@[simp] theorem dL4 (cs : List Int) (i big a b : Int) : L2.atI (dL cs i big a b) 4 = some (.p (.int b)) := rfl
theorem ixL {st : Sto} {n : Nat} {xs : List D} (h : st[n]? = some (.lst xs)) (k : Int) : ixD st (.loc n) (.p (.int k)) = L2.atI xs k := by simp only [ixD, h]
theorem setL {st : Sto} {n m : Nat} {xs : List D} (h : st[n]? = some (.lst xs)) {k : Int} (hk : L2.ixN xs.length k = some m) (d : D) : setIx st (.loc n) (.p (.int k)) d = some (st.set n (.lst (xs.set m d))) := by simp only [setIx, h, hk]
theorem sD1 {st : Sto} {n : Nat} {cs : List Int} {i big a b : Int} (h : st[n]? = some (.lst (dL cs i big a b))) (v : Int) : setIx st (.loc n) (.p (.int 1)) (.p (.int v)) = some (st.set n (.lst (dL cs v big a b))) := setL (m := 1) h rfl _
theorem sD2 {st : Sto} {n : Nat} {cs : List Int} {i big a b : Int} (h : st[n]? = some (.lst (dL cs i big a b))) (v : Int) : setIx st (.loc n) (.p (.int 2)) (.p (.int v)) = some (st.set n (.lst (dL cs i v a b))) := setL (m := 2) h rfl _
theorem sD3 {st : Sto} {n : Nat} {cs : List Int} {i big a b : Int} (h : st[n]? = some (.lst (dL cs i big a b))) (v : Int) : setIx st (.loc n) (.p (.int 3)) (.p (.int v)) = some (st.set n (.lst (dL cs i big v b))) := setL (m := 3) h rfl _
theorem sD4 {st : Sto} {n : Nat} {cs : List Int} {i big a b : Int} (h : st[n]? = some (.lst (dL cs i big a b))) (v : Int) : setIx st (.loc n) (.p (.int 4)) (.p (.int v)) = some (st.set n (.lst (dL cs i big a v))) := setL (m := 4) h rfl _
section
variable {cf : CF} {st : Sto} {n : Nat} {many : Int}
theorem draw1 {cs : List Int} {i big a b : Int} (h : st[n]? = some (.lst (dL cs i big a b))) (ok : DiceOk cs i big a b) : ∃ x o, dnS cf drawA [some (.loc n), some (.p (.int many)), none, none, none] st = .nx [some (.loc n), some (.p (.int many)), none, x, none] (st.set n o) ∧ DiceO o := by
  unfold drawA
  have hs : st.set n (.lst (dL cs i big a b)) = st := by
    apply List.ext_getElem?
    intro j
    by_cases hj : n = j
    · subst hj
      rw [set_self h, h]
    · rw [List.getElem?_set_ne hj]
  by_cases c1 : big = 0
  · by_cases c2 : i < cs.length
    · obtain ⟨v, hv, hm⟩ := atI_at (xs := cs) ok.hi c2
      have hv' : L2.atI (cs.map P.int) i = some (.int v) := by
        unfold L2.atI at hv ⊢
        rw [List.length_map]
        cases e : L2.ixN cs.length i with
        | none => rw [e] at hv; cases hv
        | some j =>
          rw [e] at hv
          have hv : cs[j]? = some v := hv
          show (cs.map P.int)[j]? = _
          rw [List.getElem?_map, hv]
          rfl
      have hv2 : ixD (st.set n (.lst (dL cs i big a b))) (.p (.lst (cs.map .int))) (.p (.int i)) = some (.p (.int v)) := by
        show (L2.atI (cs.map P.int) i).map D.p = _
        rw [hv']
        rfl
      rw [hs] at hv2
      have hp : bop .pow (.int 10) (.int 18) = some (.int 1000000000000000000) := by decide +kernel
      have v0 := ok.hc v hm
      by_cases c3 : 1000000000000000000 ≤ v
      · refine ⟨some (.p (.int v)), .lst (dL cs (i + 1) v a b), ?_, cs, i + 1, v, a, b, rfl, ok.hc, by have := ok.hi; omega, v0, ok.ha, ok.ha', ok.hb⟩
        simp [ixL h, c1, c2, hv2, sD1 h, ixL (set_self h), hp, c3, sD2 (set_self h)]
      · refine ⟨some (.p (.int v)), .lst (dL cs (i + 1) big ((a * 69621 + v * 40692 + (i + 1)) % 2147483647) b), ?_, cs, i + 1, big, _, b, rfl, ok.hc, by have := ok.hi; omega, ok.hg, by omega, by omega, ok.hb⟩
        simp [ixL h, c1, c2, hv2, sD1 h, ixL (set_self h), hp, c3, sD3 (set_self h), bop_mulI (mulOk_r (i := a) (j := 69621) (by decide) (by decide)), bop_mulI (mulOk_r (i := v) (j := 40692) (by decide) (by decide)), bop_modI (show (0 : Int) < 2147483647 by decide)]
    · refine ⟨none, .lst (dL cs i big a b), ?_, cs, i, big, a, b, rfl, ok⟩
      rw [hs]
      simp [ixL h, c1, c2]
  · refine ⟨none, .lst (dL cs i big a b), ?_, cs, i, big, a, b, rfl, ok⟩
    rw [hs]
    simp [ixL h, c1]
theorem draw2 {cs : List Int} {i big a b : Int} {x : Option D} (hm : 0 < many) (hd : divOk many = true) (h : st[n]? = some (.lst (dL cs i big a b))) (ok : DiceOk cs i big a b) :
    ∃ r o, dnB cf (.cons drawC drawE) [some (.loc n), some (.p (.int many)), none, x, none] st = .rt (.p (.int r)) (st.set n o) ∧ 0 ≤ r ∧ r < many ∧ DiceO o := by
  unfold drawC
  by_cases c1 : 0 < big
  · refine ⟨big % many, .lst (dL cs i (big / many) a b), ?_, Int.emod_nonneg _ (by omega), Int.emod_lt_of_pos _ hm, cs, i, _, a, b, rfl, ok.hc, ok.hi, Int.ediv_nonneg ok.hg (by omega), ok.ha, ok.ha', ok.hb⟩
    simp [ixL h, c1, bop_modI hm, bop_divI hd, sD2 h]
  · unfold drawE
    generalize e1 : (a * 48271 + (b + 1) * 7919 + 1) % 2147483647 = u
    have u0 : 0 ≤ u := by omega
    have u1 : u < 2147483647 := by omega
    generalize e2 : (u * (u / 1009 + 69623)) % 2147483399 = v
    have v0 : 0 ≤ v := by omega
    have v1 : v < 2147483399 := by omega
    have m1 : mulOk u (u / 1009 + 69623) = true := mulOk_l (by omega) (by omega)
    have m2 : mulOk v (v / 2003 + 40693) = true := mulOk_l (by omega) (by omega)
    refine ⟨(v * (v / 2003 + 40693)) % 2147483563 / 16 % many, .lst (dL cs i big u (b + 1)), ?_, Int.emod_nonneg _ (by omega), Int.emod_lt_of_pos _ hm, cs, i, big, u, b + 1, rfl, ok.hc, ok.hi, ok.hg, u0, u1, by have := ok.hb; omega⟩
    simp [ixL h, c1, sD4 h, ixL (set_self h), sD3 (set_self h), bop_mulI (mulOk_r (i := a) (j := 48271) (by decide) (by decide)), bop_mulI (mulOk_r (i := b + 1) (j := 7919) (by decide) (by decide)), bop_modI (show (0 : Int) < 2147483647 by decide), e1, e2, bop_divI (divOk_s (j := 1009) (by decide) (by decide)), bop_divI (divOk_s (j := 2003) (by decide) (by decide)), bop_divI (divOk_s (j := 16) (by decide) (by decide)), bop_mulI m1, bop_mulI m2, bop_modI (show (0 : Int) < 2147483399 by decide), bop_modI (show (0 : Int) < 2147483563 by decide), bop_modI hm]
theorem draw_spec (hm : 0 < many) (hd : divOk many = true) {o : Ob} (h : st[n]? = some o) (d : DiceO o) :
    ∃ r o', dnB cf drawB [some (.loc n), some (.p (.int many)), none, none, none] st = .rt (.p (.int r)) (st.set n o') ∧ 0 ≤ r ∧ r < many ∧ DiceO o' := by
  obtain ⟨cs, i, big, a, b, rfl, ok⟩ := d
  obtain ⟨x, o1, h1, cs1, i1, g1, a1, b1, rfl, ok1⟩ := draw1 (cf := cf) (many := many) h ok
  obtain ⟨r, o2, h2, r0, r1, d2⟩ := draw2 (cf := cf) (x := x) hm hd (set_self (x := .lst (dL cs1 i1 g1 a1 b1)) h) ok1
  refine ⟨r, o2, ?_, r0, r1, d2⟩
  unfold drawB
  rw [b_cons', h1, SR.bind_nx, h2, List.set_set]
end
end PyM
namespace PyM
open PySem

/-! ### what a def that draws leaves -/
def Dice (st : Sto) (n : Nat) : Prop := ∃ o, st[n]? = some o ∧ DiceO o
structure After (n : Nat) (st st' : Sto) : Prop where
  le : st.length ≤ st'.length
  kp : ∀ m, m < st.length → m ≠ n → st'[m]? = st[m]?
  di : Dice st' n
theorem Dice.lt {st : Sto} {n : Nat} (h : Dice st n) : n < st.length := let ⟨_, e, _⟩ := h; (List.getElem?_eq_some_iff.mp e).1
theorem After.refl {n : Nat} {st : Sto} (h : Dice st n) : After n st st := ⟨Nat.le_refl _, fun _ _ _ => rfl, h⟩
theorem After.trans {n : Nat} {a b c : Sto} (x : After n a b) (y : After n b c) : After n a c := ⟨Nat.le_trans x.le y.le, fun m hm hn => (y.kp m (Nat.lt_of_lt_of_le hm x.le) hn).trans (x.kp m hm hn), y.di⟩
theorem After.set {n : Nat} {st : Sto} {o : Ob} (h : n < st.length) (d : DiceO o) : After n st (st.set n o) := ⟨by rw [List.length_set]; exact Nat.le_refl _, fun m _ hn => List.getElem?_set_ne fun e => hn e.symm, o, by rw [List.getElem?_set_self h], d⟩
theorem After.push {n : Nat} {st : Sto} (h : Dice st n) (x : Ob) : After n st (st ++ [x]) := ⟨by rw [List.length_append]; exact Nat.le_add_right _ _, fun m hm _ => List.getElem?_append_left hm, by
  obtain ⟨o, e, d⟩ := h
  exact ⟨o, by rw [List.getElem?_append_left (List.getElem?_eq_some_iff.mp e).1]; exact e, d⟩⟩
/-- an object behind the dice is changed -/
theorem After.put {n m : Nat} {st0 st : Sto} (x : After n st0 st) (h : st0.length ≤ m) (hm : n ≠ m) (o : Ob) : After n st0 (st.set m o) := ⟨by rw [List.length_set]; exact x.le, fun j hj hn => by
  rw [List.getElem?_set_ne (by omega)]
  exact x.kp j hj hn, by
  obtain ⟨q, e, d⟩ := x.di
  exact ⟨q, by rw [List.getElem?_set_ne (fun e => hm e.symm)]; exact e, d⟩⟩
/-- a loop by an invariant -/
theorem for_inv {body : D → Env → Sto → SR} : ∀ {xs : List D} {env : Env} {st : Sto} (I : Nat → Env → Sto → Prop), I 0 env st → (∀ i d env st, xs[i]? = some d → I i env st → ∃ e s, body d env st = .nx e s ∧ I (i + 1) e s) → ∃ e s, forFix body xs env st = .nx e s ∧ I xs.length e s
  | [], env, st, I, h0, _ => ⟨env, st, rfl, h0⟩
  | d :: r, env, st, I, h0, hs => by
    obtain ⟨e, s, h1, h2⟩ := hs 0 d env st rfl h0
    obtain ⟨e', s', h3, h4⟩ := for_inv (xs := r) (fun i => I (i + 1)) h2 (fun i d env st q I' => hs (i + 1) d env st (by simpa using q) I')
    refine ⟨e', s', ?_, h4⟩
    rw [forFix, h1, SR.turn_nx]
    exact h3
theorem rng_get {lo : Int} {n i : Nat} {d : D} (h : (rngL lo n)[i]? = some d) : i < n ∧ d = .p (.int (lo + i)) := by
  unfold rngL at h
  rw [List.getElem?_map] at h
  obtain ⟨j, hj, rfl⟩ := Option.map_eq_some_iff.mp h
  obtain ⟨h1, h2⟩ := List.getElem?_eq_some_iff.mp hj
  rw [List.length_range] at h1
  rw [List.getElem_range] at h2
  subst h2
  exact ⟨h1, rfl⟩
theorem rng_len (lo : Int) (n : Nat) : (rngL lo n).length = n := by unfold rngL; rw [List.length_map, List.length_range]

/-! ### draws, words -/
def DrawAt (cf : CF) (j : Nat) : Prop := ∀ n many st, 0 < many → divOk many = true → Dice st n → ∃ r st', cf j [.loc n, .p (.int many)] st = .ok (.p (.int r)) st' ∧ 0 ≤ r ∧ r < many ∧ After n st st'
theorem run_rt {cf : CF} {f : Fn} {ds : List D} {st s : Sto} {d : D} {env : Env} (hn : ds.length = f.np) (he : ds.map some ++ List.replicate (f.ns - ds.length) none = env) (h : dnB cf f.body env st = .rt d s) : runFn cf f ds st = .ok d s := by
  unfold runFn
  rw [if_pos hn, he, h]
theorem draw_at {cf : CF} {j : Nat} {cf0 : CF} {f : Fn} (hf : f.np = 2 ∧ f.ns = 5 ∧ f.body = drawB) (h : ∀ ds st, cf j ds st = runFn cf0 f ds st) : DrawAt cf j := by
  intro n many st hm hd ⟨o, e, d⟩
  obtain ⟨r, o', h1, r0, r1, d'⟩ := draw_spec (cf := cf0) hm hd e d
  refine ⟨r, st.set n o', ?_, r0, r1, After.set (List.getElem?_eq_some_iff.mp e).1 d'⟩
  rw [h]
  exact run_rt (env := [some (.loc n), some (.p (.int many)), none, none, none]) (by rw [hf.1]; rfl) (by rw [hf.2.1]; rfl) (by rw [hf.2.2]; exact h1)
def Lower (w : Str) : Prop := ∀ c ∈ w.cps.toList, 97 ≤ c ∧ c ≤ 122
def wordB (j : Nat) : Sts := (.cons (.asg (.nm 2) (.lit (.str "abcdefghijklmnopqrstuvwxyz")))
  (.cons (.asg (.nm 3) (.lit (.str "")))
  (.cons (.for (.nm 4) (.rng1 (.bin .add (.lit (.int 1)) (.call .kep j (.cons (.var 0) (.cons (.var 1) .nil))))) (.cons (.asg (.nm 3) (.bin .add (.var 3) (.ix (.var 2) (.call .kep j (.cons (.var 0) (.cons (.lit (.int 26)) .nil))))))
  .nil))
  (.cons (.ret (.var 3))
  .nil))))
theorem str_len (x : Str) : x.length = x.cps.toList.length := by show x.cps.size = _; rw [Array.length_toList]
theorem app_cps (x y : Str) : (x ++ y).cps.toList = x.cps.toList ++ y.cps.toList := by
  show (x.cps ++ y.cps).toList = _
  simp
theorem bop_addS {x y : Str} (h : x.length + y.length ≤ 16777216) : bop .add (.str x) (.str y) = some (.str (x ++ y)) := by
  show (if _ then _ else _) = _
  rw [if_pos (by rw [sizeLine_eq]; exact h)]
theorem ixS {st : Sto} {x : Str} {k : Int} (h0 : 0 ≤ k) (h : k < x.length) : ∃ c, ixD st (.p (.str x)) (.p (.int k)) = some (.p (.str ⟨#[c]⟩)) ∧ c ∈ x.cps.toList := by
  obtain ⟨c, hc, hm⟩ := atI_at (xs := x.cps.toList) h0 (by rw [← str_len]; exact h)
  refine ⟨c, ?_, hm⟩
  show (L2.atI x.cps.toList k).map _ = _
  rw [hc]
  rfl
theorem abc_len : (Str.ofString "abcdefghijklmnopqrstuvwxyz").length = 26 := by decide +kernel
theorem abc_low : Lower "abcdefghijklmnopqrstuvwxyz" := by unfold Lower; decide +kernel
theorem word_spec {cf : CF} {j : Nat} (hd : DrawAt cf j) {n : Nat} {most : Int} {st : Sto} (h0 : 0 < most) (h1 : most ≤ 1000) (d : Dice st n) :
    ∃ w st', dnB cf (wordB j) [some (.loc n), some (.p (.int most)), none, none, none] st = .rt (.p (.str w)) st' ∧ 0 < w.length ∧ (w.length : Int) ≤ most ∧ Lower w ∧ After n st st' := by
  obtain ⟨r, s1, c1, r0, r1, a1⟩ := hd n most st h0 (divOk_s h0 (by omega)) d
  obtain ⟨e, s2, hf, m, w, x, rfl, hl, hw, a2⟩ := for_inv (body := stepF cf (.nm 4) (.cons (.asg (.nm 3) (.bin .add (.var 3) (.ix (.var 2) (.call .kep j (.cons (.var 0) (.cons (.lit (.int 26)) .nil)))))) .nil)) (xs := rngL 0 (1 + r).toNat) (env := [some (.loc n), some (.p (.int most)), some (.p (.str "abcdefghijklmnopqrstuvwxyz")), some (.p (.str "")), none]) (st := s1)
    (fun i env s => ∃ (m : i ≤ 1000) (w : Str) (x : Option D), env = [some (.loc n), some (.p (.int most)), some (.p (.str "abcdefghijklmnopqrstuvwxyz")), some (.p (.str w)), x] ∧ w.length = i ∧ Lower w ∧ After n st s)
    ⟨by omega, "", none, rfl, by decide +kernel, by unfold Lower; decide +kernel, a1⟩ (by
      rintro i d env s hi ⟨m, w, x, rfl, hl, hw, a⟩
      obtain ⟨hi, rfl⟩ := rng_get hi
      obtain ⟨q, s', cq, q0, q1, aq⟩ := hd n 26 s (by decide) (divOk_s (by decide) (by decide)) a.di
      obtain ⟨c, hc, hm⟩ := ixS (st := s') (x := "abcdefghijklmnopqrstuvwxyz") q0 (by rw [abc_len]; omega)
      have hl1 : (⟨#[c]⟩ : Str).length = 1 := rfl
      refine ⟨[some (.loc n), some (.p (.int most)), some (.p (.str "abcdefghijklmnopqrstuvwxyz")), some (.p (.str (w ++ ⟨#[c]⟩))), some (.p (.int (0 + i)))], s', ?_, by omega, _, _, rfl, ?_, ?_, a.trans aq⟩
      · simp [stepF, callM, cq, hc, bop_addS (x := w) (y := ⟨#[c]⟩) (by rw [hl1, hl]; omega)]
      · rw [str_len, app_cps, List.length_append, ← str_len, hl]
        rfl
      · intro z hz
        rw [app_cps] at hz
        rcases List.mem_append.mp hz with hz | hz
        · exact hw z hz
        · simp at hz
          subst hz
          exact abc_low z hm)
  refine ⟨w, s2, ?_, ?_, ?_, hw, a2⟩
  · unfold wordB
    simp [callM, c1, rngR_int (show 0 ≤ 1 + r by omega) (show 1 + r ≤ 16777216 by omega), hf]
  · rw [hl, rng_len]; omega
  · rw [hl, rng_len]; omega
def WordAt (cf : CF) (j : Nat) : Prop := ∀ n most st, 0 < most → most ≤ 1000 → Dice st n → ∃ w st', cf j [.loc n, .p (.int most)] st = .ok (.p (.str w)) st' ∧ 0 < w.length ∧ (w.length : Int) ≤ most ∧ Lower w ∧ After n st st'
theorem word_at {cf : CF} {j dr : Nat} {cf0 : CF} {f : Fn} (hf : f.np = 2 ∧ f.ns = 5 ∧ f.body = wordB dr) (hd : DrawAt cf0 dr) (h : ∀ ds st, cf j ds st = runFn cf0 f ds st) : WordAt cf j := by
  intro n most st h0 h1 d
  obtain ⟨w, st', e, w0, w1, w2, a⟩ := word_spec hd h0 h1 d
  refine ⟨w, st', ?_, w0, w1, w2, a⟩
  rw [h]
  exact run_rt (env := [some (.loc n), some (.p (.int most)), none, none, none]) (by rw [hf.1]; rfl) (by rw [hf.2.1]; rfl) (by rw [hf.2.2]; exact e)
end PyM
namespace PyM
open PySem

/-! ### sorting -/
theorem perm_map {α β : Type} {f : α → β} : ∀ {l l' : List β}, l.Perm l' → ∀ xs : List α, l' = xs.map f → ∃ ys : List α, l = ys.map f ∧ ys.Perm xs := by
  intro l l' h
  induction h with
  | nil =>
    intro xs e
    have : xs = [] := by simpa using e.symm
    subst this
    exact ⟨[], rfl, .nil⟩
  | cons a h ih =>
    intro xs e
    cases xs with
    | nil => cases e
    | cons x xs =>
      simp at e
      obtain ⟨rfl, e⟩ := e
      obtain ⟨ys, rfl, p⟩ := ih xs e
      exact ⟨x :: ys, rfl, .cons _ p⟩
  | swap a b l =>
    intro xs e
    match xs, e with
    | [], e => cases e
    | [_], e => cases e
    | x :: y :: r, e =>
      simp at e
      obtain ⟨rfl, rfl, rfl⟩ := e
      exact ⟨y :: x :: r, rfl, .swap _ _ _⟩
  | trans _ _ ih1 ih2 =>
    intro xs e
    obtain ⟨ys, e1, p1⟩ := ih2 xs e
    obtain ⟨zs, e2, p2⟩ := ih1 ys e1
    exact ⟨zs, e2, p2.trans p1⟩
theorem sorted_map {α : Type} (f : α → P) (xs : List α) : ∃ ys : List α, sorted (xs.map f) = ys.map f ∧ ys.Perm xs := perm_map (List.mergeSort_perm _ _) xs rfl
theorem ltok_str (a b : Str) : (P.str a).ltok (.str b) = true := by
  unfold P.ltok
  simp [P.eqok, P.flat, P.depth, P.toPD, PySem.W.alike]
theorem sortOk_map {α : Type} {f : α → P} {xs : List α} (h : ∀ a ∈ xs, ∀ b ∈ xs, (f a).ltok (f b) = true) : sortOk (xs.map f) = true := by
  unfold sortOk
  rw [List.all_eq_true]
  intro p hp
  rw [List.all_eq_true]
  intro q hq
  obtain ⟨a, ha, rfl⟩ := List.mem_map.mp hp
  obtain ⟨b, hb, rfl⟩ := List.mem_map.mp hq
  exact h a ha b hb

/-! ### lists of the store -/
theorem pureL_p : ∀ xs : List P, pureL (xs.map .p) = some xs
  | [] => rfl
  | x :: xs => by rw [List.map_cons, pureL, pureL_p xs]
theorem rd_loc {st : Sto} {m : Nat} {xs : List P} (h : st[m]? = some (.lst (xs.map .p))) : rd st (.loc m) = some (.lst xs) := by
  show (match st[m]? with
    | some o => o.view
    | none => none) = _
  rw [h]
  show (pureL (xs.map .p)).map P.lst = _
  rw [pureL_p]
  rfl
theorem on2_rd {α : Type} {st : Sto} {x y : D} {p q : P} {f : P → P → Res α} (h1 : rd st x = some p) (h2 : rd st y = some q) : on2 st x y f = f p q := by
  unfold on2
  rw [h1, h2]
theorem eqv_str (x y : Str) : PyData.eqv (.str x) (.str y) = decide (x = y) := by
  simp [PyData.eqv]
  rw [Bool.eq_iff_iff]
  simp
theorem flats_str (xs : List Str) : P.flats (xs.map .str) = true := by
  induction xs with
  | nil => rfl
  | cons x xs ih => rw [List.map_cons, P.flats, ih]; rfl
theorem depths_str (xs : List Str) : P.depths (xs.map .str) = 0 := by
  induction xs with
  | nil => rfl
  | cons x xs ih => rw [List.map_cons, P.depths, ih]; rfl
theorem in_strs (x : Str) (xs : List Str) : cop .isin (.str x) (.lst (xs.map .str)) = some (decide (x ∈ xs)) := by
  show pmem _ _ = _
  unfold pmem
  rw [if_pos (by simp [P.eqok, P.flat, P.depth, flats_str, depths_str])]
  congr 1
  rw [List.any_map, Bool.eq_iff_iff, List.any_eq_true, decide_eq_true_eq]
  constructor
  · rintro ⟨y, hy, e⟩
    have e : PyData.eqv (.str y) (.str x) = true := e
    rw [eqv_str, decide_eq_true_eq] at e
    exact e ▸ hy
  · intro h
    exact ⟨x, h, by show PyData.eqv (.str x) (.str x) = true; rw [eqv_str]; simp⟩
theorem append_loc {st : Sto} {m : Nat} {xs : List D} (h : st[m]? = some (.lst xs)) (hz : xs.length < 16777216) (d : D) : mok st .append (.loc m) = true ∧ mth .append (.loc m) [d] st = .ok (.p .non) (st.set m (.lst (xs ++ [d]))) := by
  refine ⟨?_, ?_⟩
  · simp only [mok, h]
  · simp only [mth, h]
    rw [if_pos (by rw [sizeLine_eq]; exact hz)]
theorem sorted_loc {st : Sto} {m : Nat} {xs : List P} (h : st[m]? = some (.lst (xs.map .p))) (hs : sortOk xs = true) : blt (.sorted false) [.loc m] st = .ok (.p (.lst (sorted xs))) st := by
  simp only [blt, rd_loc h, Option.bind, itemsS, hs, if_true, mkL, pureL_p]

/-! ### cuts of texts -/
theorem cut_len {z : Str} {lo hi : Option Int} : (L2.cutS z lo hi).length = min (HT.sIx z.length z.length hi - HT.sIx z.length 0 lo) (z.length - HT.sIx z.length 0 lo) := by
  show (List.toArray _).size = _
  rw [List.size_toArray, List.length_take, List.length_drop, ← str_len]
theorem cut_low {z : Str} {lo hi : Option Int} (h : Lower z) : Lower (L2.cutS z lo hi) := fun c hc => by
  refine h c ?_
  have hc : c ∈ (List.take (HT.sIx z.length z.length hi - HT.sIx z.length 0 lo) (List.drop (HT.sIx z.length 0 lo) z.cps.toList)) := by
    simpa [L2.cutS] using hc
  exact List.mem_of_mem_drop (List.mem_of_mem_take hc)
theorem sIx_pos {n d : Nat} {i : Int} (h : 0 ≤ i) : HT.sIx n d (some i) = min i.toNat n := by
  obtain ⟨k, rfl⟩ := Int.eq_ofNat_of_zero_le h
  rw [HT.sIx_nat]
  simp
theorem low_app {x y : Str} (hx : Lower x) (hy : Lower y) : Lower (x ++ y) := fun c hc => by
  rw [app_cps] at hc
  exact (List.mem_append.mp hc).elim (hx c) (hy c)
theorem low_one {z : Str} (h : Lower z) {c : Nat} (hc : c ∈ z.cps.toList) : Lower ⟨#[c]⟩ := fun d hd => by
  simp at hd
  subst hd
  exact h _ hc
theorem app_len (x y : Str) : (x ++ y).length = x.length + y.length := by
  rw [str_len, app_cps, List.length_append, ← str_len, ← str_len]
end PyM
namespace PyM
open PySem

/-! ### names -/
def nmB (d w : Nat) : Sts := (.cons (.asg (.nm 6) (.call .kep w (.cons (.var 0) (.cons (.lit (.int 8)) .nil))))
  (.cons (.ite (.cmp .eq (.var 2) (.lit (.int 1))) (.cons (.asg (.nm 8) (.call .kep d (.cons (.var 0) (.cons (.blt .len (.cons (.var 3) .nil)) .nil))))
  (.cons (.asg (.nm 6) (.bin .add (.bin .add (.sl (.var 3) .none (.some (.var 8)) false) (.ix (.var 6) (.lit (.int 0)))) (.sl (.var 3) (.some (.bin .add (.var 8) (.lit (.int 1)))) .none false)))
  .nil)) .nil)
  (.cons (.for (.nm 7) (.seq (.lit (.str "abcdefgh"))) (.cons (.ite (.cmp .isin (.var 6) (.var 4)) (.cons (.asg (.nm 6) (.bin .add (.sl (.var 6) .none (.some (.lit (.int 7))) false) (.var 7)))
  .nil) .nil)
  .nil))
  (.cons (.ex (.mth .append (.var 4) (.cons (.var 6) .nil)))
  .nil))))
def namesB (d w : Nat) : Sts := (.cons (.asg (.nm 2) (.call .kep d (.cons (.var 0) (.cons (.lit (.int 2)) .nil))))
  (.cons (.asg (.nm 3) (.call .kep w (.cons (.var 0) (.cons (.lit (.int 8)) .nil))))
  (.cons (.asg (.nm 4) (.lst true .nil))
  (.cons (.for (.nm 5) (.rng1 (.var 1)) (nmB d w))
  (.cons (.ret (.blt (.sorted false) (.cons (.var 4) .nil)))
  .nil)))))
structure NameOk (w : Str) : Prop where
  lo : 0 < w.length
  hi : w.length ≤ 8
  low : Lower w
def signs : List Nat := [97, 98, 99, 100, 101, 102, 103, 104]
theorem signs_src : (Str.ofString "abcdefgh").cps.toList = signs := by decide +kernel
section
variable {cf : CF} {d w : Nat} {n m : Nat} {many : Int} {alike : Int} {base : Str} {env : Env} {st : Sto} {xs : List Str}
/-- the letters tried -/
theorem sign_loop {z : Str} {A B C : Option D} (h : st[m]? = some (.lst ((xs.map P.str).map .p))) (hz : NameOk z) :
    ∃ z' x, forFix (stepF cf (.nm 7) (.cons (.ite (.cmp .isin (.var 6) (.var 4)) (.cons (.asg (.nm 6) (.bin .add (.sl (.var 6) .none (.some (.lit (.int 7))) false) (.var 7))) .nil) .nil) .nil)) (signs.map fun c => .p (.str ⟨#[c]⟩))
      [some (.loc n), some (.p (.int many)), some (.p (.int alike)), some (.p (.str base)), some (.loc m), A, some (.p (.str z)), B, C] st = .nx [some (.loc n), some (.p (.int many)), some (.p (.int alike)), some (.p (.str base)), some (.loc m), A, some (.p (.str z')), x, C] st ∧
      NameOk z' ∧ (xs.length ≤ 7 → z' ∉ xs) := by
  obtain ⟨e, s, hf, z', x, rfl, rfl, hz', hi⟩ := for_inv (body := stepF cf (.nm 7) (.cons (.ite (.cmp .isin (.var 6) (.var 4)) (.cons (.asg (.nm 6) (.bin .add (.sl (.var 6) .none (.some (.lit (.int 7))) false) (.var 7))) .nil) .nil) .nil)) (xs := signs.map fun c => .p (.str ⟨#[c]⟩))
    (env := [some (.loc n), some (.p (.int many)), some (.p (.int alike)), some (.p (.str base)), some (.loc m), A, some (.p (.str z)), B, C]) (st := st)
    (fun i e s => ∃ (z' : Str) (x : Option D), e = [some (.loc n), some (.p (.int many)), some (.p (.int alike)), some (.p (.str base)), some (.loc m), A, some (.p (.str z')), x, C] ∧ s = st ∧ NameOk z' ∧ (z' ∉ xs ∨ (i = 0 ∨ ∃ (S : List Str) (c : Nat), S.length + 1 = i ∧ S.Nodup ∧ (∀ y ∈ S, y ∈ xs) ∧ (∀ y ∈ S, ∃ b ∈ signs.take S.length, y.cps.toList.getLast? = some b) ∧ signs[S.length]? = some c ∧ z'.cps.toList.getLast? = some c)))
    ⟨z, B, rfl, rfl, hz, .inr (.inl rfl)⟩ (by
      rintro i q e s hq ⟨z', x, rfl, rfl, hz', inv⟩
      rw [List.getElem?_map] at hq
      obtain ⟨c, hc, rfl⟩ := Option.map_eq_some_iff.mp hq
      have hcm : 97 ≤ c ∧ c ≤ 122 := by
        have hm : c ∈ signs := List.mem_of_getElem? hc
        simp [signs] at hm
        omega
      have e1 : on2 s (.p (.str z')) (.loc m) (fun p q => opt ((cop .isin p q).map fun b => D.p (.bl b)) s) = .ok (.p (.bl (decide (z' ∈ xs)))) s := by
        rw [on2_rd rfl (rd_loc h), in_strs]
        rfl
      by_cases hin : z' ∈ xs
      · have hl : (L2.cutS z' none (some 7)).length ≤ 7 := by
          rw [cut_len, sIx_pos (by decide), HT.sIx_none]
          simp
          omega
        have h1 : (⟨#[c]⟩ : Str).length = 1 := rfl
        refine ⟨[some (.loc n), some (.p (.int many)), some (.p (.int alike)), some (.p (.str base)), some (.loc m), A, some (.p (.str (L2.cutS z' none (some 7) ++ ⟨#[c]⟩))), some (.p (.str ⟨#[c]⟩)), C], s, ?_, _, _, rfl, rfl, ⟨?_, ?_, ?_⟩, .inr (.inr ?_)⟩
        · simp [stepF, e1, hin, slD, bop_addS (x := L2.cutS z' none (some 7)) (y := ⟨#[c]⟩) (by rw [h1]; omega)]
        · rw [app_len, h1]; omega
        · rw [app_len, h1]; omega
        · exact low_app (cut_low hz'.low) fun b hb => by simp at hb; subst hb; exact hcm
        · have last : (L2.cutS z' none (some 7) ++ ⟨#[c]⟩ : Str).cps.toList.getLast? = some c := by
            rw [app_cps]
            simp
          rcases inv with inv | rfl | ⟨S, b, hl, nd, sub, ls, hb, lz⟩
          · exact absurd hin inv
          · exact ⟨[], c, rfl, List.nodup_nil, (fun _ h => nomatch h), (fun _ h => nomatch h), hc, last⟩
          · refine ⟨z' :: S, c, by rw [List.length_cons]; omega, List.nodup_cons.mpr ⟨fun hm => ?_, nd⟩, fun y hy => ?_, fun y hy => ?_, by rw [List.length_cons, hl]; exact hc, last⟩
            · obtain ⟨b', hb', lb⟩ := ls z' hm
              rw [lz] at lb
              cases lb
              obtain ⟨j, hj, ej⟩ := List.mem_iff_getElem.mp hb'
              rw [List.length_take] at hj
              rw [List.getElem_take] at ej
              have hlt := (List.getElem?_eq_some_iff.mp hb).1
              have e2 := (List.getElem?_eq_some_iff.mp hb).2
              have nd2 : signs.Nodup := by decide
              have := (List.getElem_inj nd2).mp (ej.trans e2.symm)
              omega
            · rcases List.mem_cons.mp hy with rfl | hy
              · exact hin
              · exact sub y hy
            · rw [List.length_cons]
              rcases List.mem_cons.mp hy with rfl | hy
              · refine ⟨b, ?_, lz⟩
                exact List.mem_of_getElem? (i := S.length) (by rw [List.getElem?_take, if_pos (by omega)]; exact hb)
              · obtain ⟨b', hb', lb⟩ := ls y hy
                refine ⟨b', ?_, lb⟩
                exact (List.take_subset_take_left signs (Nat.le_succ _)) hb'
      · refine ⟨[some (.loc n), some (.p (.int many)), some (.p (.int alike)), some (.p (.str base)), some (.loc m), A, some (.p (.str z')), some (.p (.str ⟨#[c]⟩)), C], s, ?_, _, _, rfl, rfl, hz', .inl hin⟩
        simp [stepF, e1, hin])
  refine ⟨z', x, hf, hz', fun hl hin => ?_⟩
  rcases hi with hi | hi | ⟨S, b, hl2, nd, sub, ls, hb, lz⟩
  · exact hi hin
  · cases hi
  · have h8 : S.length = 7 := by have : S.length + 1 = 8 := hl2; omega
    have hz2 : z' ∉ S := fun hm => by
      obtain ⟨b', hb', lb⟩ := ls z' hm
      rw [lz] at lb
      cases lb
      rw [h8] at hb hb'
      simp [signs] at hb hb'
      omega
    have : (z' :: S).length ≤ xs.length := (List.nodup_cons.mpr ⟨hz2, nd⟩).length_le_of_subset (fun y hy => by
      rcases List.mem_cons.mp hy with rfl | hy
      · exact hin
      · exact sub y hy)
    rw [List.length_cons, h8] at this
    omega
end
end PyM
namespace PyM
open PySem

/-- the list of names at m, so far -/
structure Nms (n m : Nat) (st0 st : Sto) (xs : List Str) : Prop where
  af : After n st0 st
  mm : st0.length ≤ m
  nm : n ≠ m
  at_ : st[m]? = some (.lst ((xs.map P.str).map .p))
  ok : ∀ x ∈ xs, NameOk x
  nd : xs.length ≤ 8 → xs.Nodup
theorem Nms.draw {n m : Nat} {st0 st st' : Sto} {xs : List Str} (h : Nms n m st0 st xs) (a : After n st st') : Nms n m st0 st' xs := ⟨h.af.trans a, h.mm, h.nm, by
  rw [a.kp m (List.getElem?_eq_some_iff.mp h.at_).1 (fun e => h.nm e.symm)]
  exact h.at_, h.ok, h.nd⟩
theorem divOk_b {j : Int} (h1 : 0 < j) (h2 : j < 1073741824) : divOk j = true := divOk_s h1 h2
section
variable {cf : CF} {d w : Nat} {n m : Nat} {many : Int} {alike : Int} {base : Str} {st0 st : Sto} {xs : List Str}
theorem nm_spec (hd : DrawAt cf d) (hw : WordAt cf w) (hb : NameOk base) {A B C E : Option D} (h : Nms n m st0 st xs) (hz : xs.length < 1000) :
    ∃ z st' C' E', dnB cf (nmB d w) [some (.loc n), some (.p (.int many)), some (.p (.int alike)), some (.p (.str base)), some (.loc m), A, B, C, E] st = .nx [some (.loc n), some (.p (.int many)), some (.p (.int alike)), some (.p (.str base)), some (.loc m), A, some (.p (.str z)), C', E'] st' ∧ Nms n m st0 st' (xs ++ [z]) := by
  obtain ⟨z, s1, c1, z0, z1, zl, a1⟩ := hw n 8 st (by decide) (by decide) h.af.di
  have h1 := h.draw a1
  have hzok : NameOk z := ⟨z0, by omega, zl⟩
  -- a word like the base
  have like : ∃ z2 s2 E2, dnS cf (.ite (.cmp .eq (.var 2) (.lit (.int 1))) (.cons (.asg (.nm 8) (.call .kep d (.cons (.var 0) (.cons (.blt .len (.cons (.var 3) .nil)) .nil))))
      (.cons (.asg (.nm 6) (.bin .add (.bin .add (.sl (.var 3) .none (.some (.var 8)) false) (.ix (.var 6) (.lit (.int 0)))) (.sl (.var 3) (.some (.bin .add (.var 8) (.lit (.int 1)))) .none false))) .nil)) .nil)
      [some (.loc n), some (.p (.int many)), some (.p (.int alike)), some (.p (.str base)), some (.loc m), A, some (.p (.str z)), C, E] s1 = .nx [some (.loc n), some (.p (.int many)), some (.p (.int alike)), some (.p (.str base)), some (.loc m), A, some (.p (.str z2)), C, E2] s2 ∧ Nms n m st0 s2 xs ∧ NameOk z2 := by
    by_cases ha : alike = 1
    · obtain ⟨r, s2, c2, r0, r1, a2⟩ := hd n base.length s1 (by have := hb.lo; omega) (divOk_b (by have := hb.lo; omega) (by have := hb.hi; omega)) h1.af.di
      obtain ⟨c, hc, hcm⟩ := ixS (st := s2) (x := z) (k := 0) (by decide) (by omega)
      have l1 : (L2.cutS base none (some r)).length = r.toNat := by
        rw [cut_len, sIx_pos r0, HT.sIx_none]
        omega
      have l2 : (L2.cutS base (some (r + 1)) none).length = base.length - (r.toNat + 1) := by
        rw [cut_len, sIx_pos (by omega), HT.sIx_none]
        omega
      have l3 : (⟨#[c]⟩ : Str).length = 1 := rfl
      have hh := hb.hi
      refine ⟨L2.cutS base none (some r) ++ ⟨#[c]⟩ ++ L2.cutS base (some (r + 1)) none, s2, some (.p (.int r)), ?_, h1.draw a2, ?_, ?_, ?_⟩
      · simp [ha, callM, c2, slD, hc, bop_addS (x := L2.cutS base none (some r)) (y := ⟨#[c]⟩) (by omega), bop_addS (x := L2.cutS base none (some r) ++ ⟨#[c]⟩) (y := L2.cutS base (some (r + 1)) none) (by rw [app_len]; omega)]
      · rw [app_len, app_len]; omega
      · rw [app_len, app_len]; omega
      · exact low_app (low_app (cut_low hb.low) (low_one zl hcm)) (cut_low hb.low)
    · exact ⟨z, s1, E, by simp [ha], h1, hzok⟩
  obtain ⟨z2, s2, E2, e2, h2, hz2⟩ := like
  obtain ⟨z3, x, e3, hz3, hn⟩ := sign_loop (cf := cf) (n := n) (many := many) (alike := alike) (base := base) (A := A) (B := C) (C := E2) h2.at_ hz2
  have ap := append_loc (st := s2) h2.at_ (by rw [List.length_map, List.length_map]; omega) (.p (.str z3))
  refine ⟨z3, s2.set m (.lst ((xs.map P.str).map .p ++ [.p (.str z3)])), x, E2, ?_, h2.af.put h2.mm h2.nm _, h2.mm, h2.nm, ?_, ?_, ?_⟩
  · unfold nmB
    rw [b_cons']
    have e1 : dnS cf (.asg (.nm 6) (.call .kep w (.cons (.var 0) (.cons (.lit (.int 8)) .nil)))) [some (.loc n), some (.p (.int many)), some (.p (.int alike)), some (.p (.str base)), some (.loc m), A, B, C, E] st = .nx [some (.loc n), some (.p (.int many)), some (.p (.int alike)), some (.p (.str base)), some (.loc m), A, some (.p (.str z)), C, E] s1 := by
      simp [callM, c1]
    rw [e1, SR.bind_nx, b_cons', e2, SR.bind_nx, b_cons']
    have e4 : (Str.ofString "abcdefgh").cps.toList.map (fun c => D.p (.str ⟨#[c]⟩)) = signs.map fun c => .p (.str ⟨#[c]⟩) := by rw [signs_src]
    have e5 : srcOf s2 (.p (.str "abcdefgh")) = some (.fix (signs.map fun c => .p (.str ⟨#[c]⟩))) := by
      show some (Src.fix _) = _
      rw [e4]
    simp [e5, e3, ap.1, ap.2]
  · rw [List.getElem?_set_self (List.getElem?_eq_some_iff.mp h2.at_).1, List.map_append, List.map_append]
    rfl
  · intro y hy
    rcases List.mem_append.mp hy with hy | hy
    · exact h2.ok y hy
    · rw [List.mem_singleton.mp hy]; exact hz3
  · intro hl
    rw [List.length_append, List.length_singleton] at hl
    refine List.nodup_append.mpr ⟨h2.nd (by omega), by simp, fun a ha b hb e => ?_⟩
    rw [List.mem_singleton.mp hb] at e
    subst e
    exact hn (by omega) ha
end
theorem names_spec {cf : CF} {d w : Nat} (hd : DrawAt cf d) (hw : WordAt cf w) {n : Nat} {many : Int} {st : Sto} (h0 : 0 ≤ many) (h1 : many ≤ 1000) (hs : Dice st n) :
    ∃ (xs : List Str) (st' : Sto), dnB cf (namesB d w) [some (.loc n), some (.p (.int many)), none, none, none, none, none, none, none] st = .rt (.p (.lst (xs.map .str))) st' ∧ (xs.length : Int) = many ∧ ((∀ x ∈ xs, NameOk x) ∧ ∃ zs : List Str, sorted (zs.map P.str) = xs.map P.str) ∧ (many ≤ 8 → xs.Nodup) ∧ After n st st' := by
  obtain ⟨alike, s1, c1, _, _, a1⟩ := hd n 2 st (by decide) (divOk_b (by decide) (by decide)) hs
  obtain ⟨base, s2, c2, b0, b1, bl, a2⟩ := hw n 8 s1 (by decide) (by decide) a1.di
  have hb : NameOk base := ⟨b0, by omega, bl⟩
  have a12 := a1.trans a2
  have i0 : Nms n s2.length st (s2 ++ [.lst []]) [] := ⟨a12.trans (After.push a12.di _), a12.le, fun e => by
    have := a12.di.lt
    omega, by rw [List.getElem?_append_right (Nat.le_refl _)]; simp, (fun _ h => nomatch h), fun _ => List.nodup_nil⟩
  obtain ⟨e, s3, hf, xs, A, B, C, E, rfl, hl, inv⟩ := for_inv (body := stepF cf (.nm 5) (nmB d w)) (xs := rngL 0 many.toNat) (env := [some (.loc n), some (.p (.int many)), some (.p (.int alike)), some (.p (.str base)), some (.loc s2.length), none, none, none, none]) (st := s2 ++ [.lst []])
    (fun i env s => ∃ (xs : List Str) (A B C E : Option D), env = [some (.loc n), some (.p (.int many)), some (.p (.int alike)), some (.p (.str base)), some (.loc s2.length), A, B, C, E] ∧ xs.length = i ∧ Nms n s2.length st s xs)
    ⟨[], none, none, none, none, rfl, rfl, i0⟩ (by
      rintro i q env s hq ⟨xs, A, B, C, E, rfl, hl, inv⟩
      obtain ⟨hi, rfl⟩ := rng_get hq
      obtain ⟨z, s', C', E', e, inv'⟩ := nm_spec (cf := cf) (many := many) (alike := alike) (A := some (.p (.int (0 + i)))) (B := B) (C := C) (E := E) hd hw hb inv (by omega)
      refine ⟨[some (.loc n), some (.p (.int many)), some (.p (.int alike)), some (.p (.str base)), some (.loc s2.length), some (.p (.int (0 + i))), some (.p (.str z)), C', E'], s', ?_, xs ++ [z], _, _, _, _, rfl, by rw [List.length_append, List.length_singleton, hl], inv'⟩
      simp [stepF] at e ⊢
      exact e)
  have hso := sortOk_map (f := P.str) (xs := xs) fun a _ b _ => ltok_str a b
  obtain ⟨ys, es, pm⟩ := sorted_map P.str xs
  have hr : blt (.sorted false) [.loc s2.length] s3 = .ok (.p (.lst (ys.map .str))) s3 := by rw [sorted_loc inv.at_ hso, es]
  rw [rng_len] at hl
  refine ⟨ys, s3, ?_, by rw [pm.length_eq, hl]; omega, ⟨fun x hx => inv.ok x (pm.mem_iff.mp hx), xs, es⟩, fun h8 => pm.nodup_iff.mpr (inv.nd (by omega)), inv.af⟩
  unfold namesB
  simp [callM, c1, c2, mkL, rngR_int h0 (show many ≤ 16777216 by omega), hf, hr]
def NamesAtS (cf : CF) (j : Nat) : Prop := ∀ n many st, 0 ≤ many → many ≤ 1000 → Dice st n → ∃ (xs : List Str) (st' : Sto), cf j [.loc n, .p (.int many)] st = .ok (.p (.lst (xs.map .str))) st' ∧ (xs.length : Int) = many ∧ ((∀ x ∈ xs, NameOk x) ∧ ∃ zs : List Str, sorted (zs.map P.str) = xs.map P.str) ∧ (many ≤ 8 → xs.Nodup) ∧ After n st st'
theorem names_atS {cf : CF} {j d w : Nat} {cf0 : CF} {f : Fn} (hf : f.np = 2 ∧ f.ns = 9 ∧ f.body = namesB d w) (hd : DrawAt cf0 d) (hw : WordAt cf0 w) (h : ∀ ds st, cf j ds st = runFn cf0 f ds st) : NamesAtS cf j := by
  intro n many st h0 h1 hs
  obtain ⟨xs, st', e, hl, ok, nd, a⟩ := names_spec hd hw h0 h1 hs
  refine ⟨xs, st', ?_, hl, ok, nd, a⟩
  rw [h]
  exact run_rt (env := [some (.loc n), some (.p (.int many)), none, none, none, none, none, none, none]) (by rw [hf.1]; rfl) (by rw [hf.2.1]; rfl) (by rw [hf.2.2]; exact e)
end PyM
namespace PyM
open PySem

/-! ### association lists -/
section
variable {K α : Type} [DecidableEq K]
def aget (ps : List (K × α)) (x : K) : Option α := (ps.find? fun q => decide (q.1 = x)).map (·.2)
def ahas (ps : List (K × α)) (x : K) : Bool := ps.any fun q => decide (q.1 = x)
def aput (ps : List (K × α)) (x : K) (v : α) : List (K × α) := if ahas ps x = true then ps.map fun q => if q.1 = x then (q.1, v) else q else ps ++ [(x, v)]
theorem ahas_iff {ps : List (K × α)} {x : K} : ahas ps x = true ↔ x ∈ ps.map (·.1) := by
  unfold ahas
  rw [List.any_eq_true, List.mem_map]
  constructor
  · rintro ⟨q, hq, e⟩
    exact ⟨q, hq, of_decide_eq_true e⟩
  · rintro ⟨q, hq, e⟩
    exact ⟨q, hq, decide_eq_true e⟩
theorem aput_keys (ps : List (K × α)) (x : K) (v : α) : (aput ps x v).map (·.1) = if ahas ps x = true then ps.map (·.1) else ps.map (·.1) ++ [x] := by
  unfold aput
  split
  · rw [List.map_map]
    apply List.map_congr_left
    intro q _
    show (if q.1 = x then (q.1, v) else q).1 = q.1
    split <;> rfl
  · rw [List.map_append]; rfl
theorem aput_nodup {ps : List (K × α)} {x : K} {v : α} (h : (ps.map (·.1)).Nodup) : ((aput ps x v).map (·.1)).Nodup := by
  rw [aput_keys]
  split
  · exact h
  · rename_i hx
    rw [ahas_iff] at hx
    exact List.nodup_append.mpr ⟨h, by simp, fun a ha b hb e => by
      rw [List.mem_singleton.mp hb] at e
      exact hx (e ▸ ha)⟩
theorem aput_mem {ps : List (K × α)} {x : K} {v : α} {q : K × α} (h : q ∈ aput ps x v) : q = (x, v) ∨ (q ∈ ps ∧ q.1 ≠ x) := by
  unfold aput at h
  split at h
  · obtain ⟨r, hr, e⟩ := List.mem_map.mp h
    by_cases c : r.1 = x
    · rw [if_pos c] at e
      subst e
      exact .inl (by rw [c])
    · rw [if_neg c] at e
      subst e
      exact .inr ⟨hr, c⟩
  · rename_i hx
    rcases List.mem_append.mp h with h | h
    · refine .inr ⟨h, fun e => hx ?_⟩
      rw [ahas_iff]
      exact e ▸ List.mem_map_of_mem h
    · exact .inl (List.mem_singleton.mp h)
theorem aput_len (ps : List (K × α)) (x : K) (v : α) : (aput ps x v).length ≤ ps.length + 1 := by
  unfold aput
  split
  · rw [List.length_map]; omega
  · rw [List.length_append, List.length_singleton]; exact Nat.le_refl _
theorem aget_mem {ps : List (K × α)} {x : K} {v : α} (h : aget ps x = some v) : (x, v) ∈ ps := by
  unfold aget at h
  obtain ⟨q, hq, rfl⟩ := Option.map_eq_some_iff.mp h
  have h2 := List.find?_some hq
  have this : q.1 = x := by simpa using h2
  subst this
  exact List.mem_of_find?_eq_some hq
theorem aget_of {ps : List (K × α)} (nd : (ps.map (·.1)).Nodup) {x : K} {v : α} (h : (x, v) ∈ ps) : aget ps x = some v := by
  induction ps with
  | nil => cases h
  | cons q r ih =>
    unfold aget
    rw [List.map_cons, List.nodup_cons] at nd
    rcases List.mem_cons.mp h with rfl | h
    · rw [List.find?_cons_of_pos (by simp)]
      rfl
    · have ne : q.1 ≠ x := fun e => nd.1 (e ▸ List.mem_map_of_mem (f := (·.1)) h)
      rw [List.find?_cons_of_neg (by simpa using ne)]
      exact ih nd.2 h
theorem aget_none {ps : List (K × α)} {x : K} : aget ps x = none ↔ x ∉ ps.map (·.1) := by
  unfold aget
  rw [Option.map_eq_none_iff, List.find?_eq_none]
  constructor
  · intro h hx
    obtain ⟨q, hq, e⟩ := List.mem_map.mp hx
    exact h q hq (decide_eq_true e)
  · intro h q hq e
    exact h (List.mem_map.mpr ⟨q, hq, of_decide_eq_true e⟩)
variable {β : Type} {κ : K → P} {ν : α → β}
/-- an association list as the items of a dict -/
def kvs (κ : K → P) (ν : α → β) (ps : List (K × α)) : List (P × β) := ps.map fun q => (κ q.1, ν q.2)
theorem kvs_lk (hκ : ∀ a b, κ a = κ b → a = b) (ps : List (K × α)) (x : K) : lkp (kvs κ ν ps) (κ x) = (aget ps x).map ν := by
  unfold lkp kvs aget
  rw [List.find?_map, Option.map_map, Option.map_map]
  have e : ((fun q : P × β => decide (q.1 = κ x)) ∘ fun q : K × α => (κ q.1, ν q.2)) = fun q => decide (q.1 = x) := by
    funext q
    show decide (κ q.1 = κ x) = decide (q.1 = x)
    rw [Bool.eq_iff_iff, decide_eq_true_eq, decide_eq_true_eq]
    exact ⟨hκ _ _, fun e => by rw [e]⟩
  rw [e]
  rfl
theorem kvs_put (hκ : ∀ a b, κ a = κ b → a = b) (ps : List (K × α)) (x : K) (v : α) : dput (kvs κ ν ps) (κ x) (ν v) = kvs κ ν (aput ps x v) := by
  unfold dput aput kvs ahas
  have e : ((ps.map fun q => (κ q.1, ν q.2)).any fun q => decide (q.1 = κ x)) = ps.any fun q => decide (q.1 = x) := by
    rw [List.any_map]
    congr 1
    funext q
    show decide (κ q.1 = κ x) = decide (q.1 = x)
    rw [Bool.eq_iff_iff, decide_eq_true_eq, decide_eq_true_eq]
    exact ⟨hκ _ _, fun e => by rw [e]⟩
  rw [e]
  split
  · rw [List.map_map, List.map_map]
    apply List.map_congr_left
    intro q _
    show (if κ q.1 = κ x then (κ q.1, ν v) else (κ q.1, ν q.2)) = (κ (if q.1 = x then (q.1, v) else q).1, ν (if q.1 = x then (q.1, v) else q).2)
    by_cases c : q.1 = x
    · rw [if_pos c, if_pos (by rw [c])]
    · rw [if_neg c, if_neg fun e => c (hκ _ _ e)]
  · rw [List.map_append]; rfl
theorem kvs_fit {f : P → Bool} (ps : List (K × α)) (h : ∀ a, f (κ a) = true) : ((kvs κ ν ps).all fun q => f q.1) = true := by
  unfold kvs
  rw [List.all_map, List.all_eq_true]
  intro q _
  exact h q.1
end
theorem str_inj (a b : Str) (h : P.str a = P.str b) : a = b := by cases h; rfl
theorem fit_str {α β : Type} {ν : α → β} (ps : List (Str × α)) (x : Str) : kfit (kvs P.str ν ps) (.str x) = true := by
  unfold kfit
  rw [Bool.or_eq_true, Bool.and_eq_true]
  exact .inl ⟨rfl, kvs_fit ps fun _ => rfl⟩
theorem pureK_kvs {K α : Type} {κ : K → P} {ν : α → P} : ∀ ps : List (K × α), pureK (kvs κ (fun a => .p (ν a)) ps) = some (ps.map fun q => (κ q.1, ν q.2))
  | [] => rfl
  | q :: r => by
    have e : kvs κ (fun a => D.p (ν a)) (q :: r) = (κ q.1, .p (ν q.2)) :: kvs κ (fun a => D.p (ν a)) r := rfl
    rw [e, pureK, pureK_kvs r]
    rfl

/-! ### comprehensions -/
def lcStep (cf : CF) (tg : Tg) (own : List Nat) (cond : OEx) (elt : Ex) (env : Env) (d : D) (s : Sto) : Res (Option D) := (denT cf tg d (wipe env own) s).bind fun e1 s2 => (denc cf cond e1 s2).bind fun b s3 => if b = true then (den cf elt e1 s3).bind fun x s4 => .ok (some x) s4 else .ok none s3
@[simp] theorem e_lc' {cf : CF} {env : Env} {st : Sto} (l : Bool) (elt : Ex) (own : List Nat) (tg : Tg) (it : It) (cond : OEx) : den cf (.lc l elt own tg it cond) env st = (deni cf it env st).bind fun src s1 => (lcSrc (lcStep cf tg own cond elt env) src s1).bind fun ds s5 => mkL l ds s5 := by
  rw [den]
  congr 1
  funext src s1
  congr 2
  funext d s
  unfold lcStep
  congr 1
  funext e1 s2
  congr 1
  funext b s3
  cases b <;> rfl
@[simp] theorem lcSrc_fix {step : D → Sto → Res (Option D)} (xs : List D) (st : Sto) : lcSrc step (.fix xs) st = lcFix step xs [] st := rfl
@[simp] theorem wipe_nil (env : Env) : wipe env [] = env := rfl
@[simp] theorem wipe_cons (env : Env) (i : Nat) (r : List Nat) : wipe env (i :: r) = (wipe env r).set i none := rfl
theorem lc_map {α : Type} {step : D → Sto → Res (Option D)} {st : Sto} {g : α → D} {f : α → D} {xs : List α} (h : ∀ a ∈ xs, step (g a) st = .ok (some (f a)) st) : lcFix step (xs.map g) [] st = .ok (xs.map f) st := by
  have : ∀ acc, lcFix step (xs.map g) acc st = .ok (acc ++ xs.map f) st := by
    induction xs with
    | nil => intro acc; rw [List.map_nil, lcFix, List.map_nil, List.append_nil]
    | cons a r ih =>
      intro acc
      rw [List.map_cons, lcFix, h a (List.mem_cons_self ..)]
      show lcFix step (r.map g) (acc ++ [f a]) st = _
      rw [ih (fun a ha => h a (List.mem_cons_of_mem _ ha)), List.append_assoc]
      rfl
  exact this []
def dcStep (cf : CF) (tg : Tg) (own : List Nat) (cond : OEx) (ke va : Ex) (env : Env) (d : D) (s : Sto) : Res (Option (P × D)) := (denT cf tg d (wipe env own) s).bind fun e1 s2 => (denc cf cond e1 s2).bind fun b s3 => if b = true then (den cf ke e1 s3).bind fun k s4 => (den cf va e1 s4).bind fun x s5 => (match k with
  | .p k => .ok (some (k, x)) s5
  | _ => .fail) else .ok none s3
def dcSrc (step : D → Sto → Res (Option (P × D))) (src : Src) (st : Sto) : Res (List (P × D)) := match src with
  | .fix xs => dcFix step xs [] st
  | .loc _ => .fail
@[simp] theorem dcSrc_fix {step : D → Sto → Res (Option (P × D))} (xs : List D) (st : Sto) : dcSrc step (.fix xs) st = dcFix step xs [] st := rfl
@[simp] theorem e_dc' {cf : CF} {env : Env} {st : Sto} (l : Bool) (ke va : Ex) (own : List Nat) (tg : Tg) (it : It) (cond : OEx) : den cf (.dc l ke va own tg it cond) env st = (deni cf it env st).bind fun src s1 => (dcSrc (dcStep cf tg own cond ke va env) src s1).bind fun kvs s5 => mkD l kvs s5 := by
  rw [den]
  congr 1
  funext src s1
  cases src with
  | loc n => rfl
  | fix xs =>
    show (dcFix _ xs [] s1).bind _ = (dcFix _ xs [] s1).bind _
    congr 2
    funext d s
    unfold dcStep
    congr 1
    funext e1 s2
    congr 1
    funext b s3
    cases b <;> rfl
end PyM
namespace PyM
open PySem

/-! ### == of data without bools -/
mutual
def P.nb : P → Bool
  | .non => true
  | .int _ => true
  | .str _ => true
  | .tup xs => P.nbs xs
  | .lst xs => P.nbs xs
  | _ => false
def P.nbs : List P → Bool
  | [] => true
  | x :: xs => P.nb x && P.nbs xs
end
mutual
theorem eqv_nb : ∀ (p q : P), p.nb = true → q.nb = true → (PyData.eqv p.toPD q.toPD = true ↔ p = q)
  | .non, q, _, hq => by cases q <;> simp [P.nb] at hq <;> simp [P.toPD, PyData.eqv]
  | .int i, q, _, hq => by cases q <;> simp [P.nb] at hq <;> simp [P.toPD, PyData.eqv]
  | .str i, q, _, hq => by cases q <;> simp [P.nb] at hq <;> simp [P.toPD, PyData.eqv]
  | .tup xs, q, hp, hq => by
    cases q with
    | tup ys =>
      rw [P.nb] at hp hq
      show PyData.eqvAll (P.toPDs xs) (P.toPDs ys) = true ↔ _
      rw [eqv_nbs xs ys hp hq]
      exact ⟨fun e => by rw [e], fun e => by cases e; rfl⟩
    | _ => simp [P.nb] at hq <;> simp [P.toPD, PyData.eqv]
  | .lst xs, q, hp, hq => by
    cases q with
    | lst ys =>
      rw [P.nb] at hp hq
      show PyData.eqvAll (P.toPDs xs) (P.toPDs ys) = true ↔ _
      rw [eqv_nbs xs ys hp hq]
      exact ⟨fun e => by rw [e], fun e => by cases e; rfl⟩
    | _ => simp [P.nb] at hq <;> simp [P.toPD, PyData.eqv]
  | .bl _, q, hp, _ => by simp [P.nb] at hp
  | .ty _, q, hp, _ => by simp [P.nb] at hp
  | .dct _, q, hp, _ => by simp [P.nb] at hp
  | .ins _ _, q, hp, _ => by simp [P.nb] at hp
  | .scr _, q, hp, _ => by simp [P.nb] at hp
theorem eqv_nbs : ∀ (p q : List P), P.nbs p = true → P.nbs q = true → (PyData.eqvAll (P.toPDs p) (P.toPDs q) = true ↔ p = q)
  | [], [], _, _ => by simp [P.toPDs, PyData.eqvAll]
  | [], y :: ys, _, _ => by simp [P.toPDs, PyData.eqvAll]
  | x :: xs, [], _, _ => by simp [P.toPDs, PyData.eqvAll]
  | x :: xs, y :: ys, hp, hq => by
    rw [P.nbs, Bool.and_eq_true] at hp hq
    show (PyData.eqv x.toPD y.toPD && PyData.eqvAll (P.toPDs xs) (P.toPDs ys)) = true ↔ _
    rw [Bool.and_eq_true, eqv_nb x y hp.1 hq.1, eqv_nbs xs ys hp.2 hq.2, List.cons.injEq]
end
theorem peq_nb {p q : P} (hp : p.nb = true) (hq : q.nb = true) (ep : p.eqok = true) (eq : q.eqok = true) : peq p q = some (decide (p = q)) := by
  unfold peq
  rw [if_pos (by rw [ep, eq]; rfl)]
  congr 1
  rw [Bool.eq_iff_iff, decide_eq_true_eq]
  exact eqv_nb p q hp hq
theorem nbs_map {α : Type} {f : α → P} (h : ∀ a, (f a).nb = true) (xs : List α) : P.nbs (xs.map f) = true := by
  induction xs with
  | nil => rfl
  | cons x xs ih => rw [List.map_cons, P.nbs, h, ih]; rfl
theorem flats_map {α : Type} {f : α → P} (h : ∀ a, (f a).flat = true) (xs : List α) : P.flats (xs.map f) = true := by
  induction xs with
  | nil => rfl
  | cons x xs ih => rw [List.map_cons, P.flats, h, ih]; rfl
theorem depths_map {α : Type} {f : α → P} {n : Nat} (h : ∀ a, (f a).depth ≤ n) (xs : List α) : P.depths (xs.map f) ≤ n := by
  induction xs with
  | nil => exact Nat.zero_le _
  | cons x xs ih => rw [List.map_cons, P.depths]; exact Nat.max_le.mpr ⟨h x, ih⟩

/-! ### products and sums -/
abbrev Pr := List (Str × Int)
def pi1 (q : Str × Int) : P := .tup [.str q.1, .int q.2]
def pr (l : Pr) : P := .tup (l.map pi1)
abbrev Tm := List (Int × Pr)
def tm1 (q : Int × Pr) : P := .tup [.int q.1, pr q.2]
def tm (l : Tm) : P := .tup (l.map tm1)
theorem map_inj {α β : Type} {f : α → β} (h : ∀ a b, f a = f b → a = b) : ∀ xs ys : List α, xs.map f = ys.map f → xs = ys
  | [], [], _ => rfl
  | [], y :: ys, e => by cases e
  | x :: xs, [], e => by cases e
  | x :: xs, y :: ys, e => by
    simp at e
    rw [h _ _ e.1, map_inj h xs ys e.2]
theorem pi1_inj (a b : Str × Int) (h : pi1 a = pi1 b) : a = b := by
  unfold pi1 at h
  simp at h
  exact Prod.ext h.1 h.2
theorem pr_inj (a b : Pr) (h : pr a = pr b) : a = b := by
  unfold pr at h
  simp only [P.tup.injEq] at h
  exact map_inj pi1_inj a b h
theorem pr_nb (a : Pr) : (pr a).nb = true := by
  unfold pr
  rw [P.nb]
  exact nbs_map (fun q => by simp [pi1, P.nb, P.nbs]) a
theorem pr_flat (a : Pr) : (pr a).flat = true := by
  unfold pr
  rw [P.flat]
  exact flats_map (fun q => by simp [pi1, P.flat, P.flats]) a
theorem pr_depth (a : Pr) : (pr a).depth ≤ 2 := by
  unfold pr
  rw [P.depth]
  have := depths_map (f := pi1) (n := 1) (fun q => by simp [pi1, P.depth, P.depths]) a
  omega
theorem pr_eqok (a : Pr) : (pr a).eqok = true := by
  unfold P.eqok
  rw [pr_flat, Bool.true_and]
  exact decide_eq_true (by have := pr_depth a; omega)
theorem pr_tky (a : Pr) : (pr a).tky = true := by
  unfold pr
  show (a.map pi1).all (P.keyN 7) = true
  rw [List.all_eq_true]
  intro p hp
  obtain ⟨q, _, rfl⟩ := List.mem_map.mp hp
  simp [pi1, P.keyN]
theorem alikeAll_map {α : Type} {f : α → P} (h : ∀ a b, PySem.W.alike (f a).toPD (f b).toPD = true) : ∀ xs ys : List α, PySem.W.alikeAll (P.toPDs (xs.map f)) (P.toPDs (ys.map f)) = true
  | [], ys => by simp [P.toPDs, PySem.W.alikeAll]
  | x :: xs, [] => by simp [P.toPDs, PySem.W.alikeAll]
  | x :: xs, y :: ys => by
    rw [List.map_cons, List.map_cons, P.toPDs, P.toPDs, PySem.W.alikeAll, h, alikeAll_map h xs ys]
    rfl
theorem pr_ltok (a b : Pr) : (pr a).ltok (pr b) = true := by
  unfold P.ltok
  rw [pr_eqok, pr_eqok]
  have e : PySem.W.alike (pr a).toPD (pr b).toPD = true := by
    show PySem.W.alikeAll (P.toPDs (a.map pi1)) (P.toPDs (b.map pi1)) = true
    exact alikeAll_map (fun x y => by simp [pi1, P.toPD, P.toPDs, PySem.W.alike, PySem.W.alikeAll]) a b
  rw [e]
  rfl
theorem fit_pr {α β : Type} {ν : α → β} (ps : List (Pr × α)) (x : Pr) : kfit (kvs pr ν ps) (pr x) = true := by
  unfold kfit
  rw [Bool.or_eq_true, Bool.and_eq_true, Bool.and_eq_true]
  exact .inr ⟨pr_tky x, kvs_fit ps pr_tky⟩

/-! ### dicts of the store -/
section
variable {K α : Type} [DecidableEq K] {κ : K → P} {ν : α → P} {st : Sto} {m : Nat} {ps : List (K × α)}
abbrev kvp (κ : K → P) (ν : α → P) (ps : List (K × α)) : Ob := .dct (kvs κ (fun a => .p (ν a)) ps)
theorem get2_loc (h : st[m]? = some (kvp κ ν ps)) (hκ : ∀ a b, κ a = κ b → a = b) (hf : ∀ (k : K), kfit (kvs κ (fun a => D.p (ν a)) ps) (κ k) = true) (k : K) (d : D) :
    mok st .get2 (.loc m) = true ∧ mth .get2 (.loc m) [.p (κ k), d] st = .ok (((aget ps k).map fun a => D.p (ν a)).getD d) st := by
  refine ⟨by simp only [mok, h], ?_⟩
  simp only [mth, h]
  rw [if_pos (hf k), kvs_lk hκ]
theorem set_loc (h : st[m]? = some (kvp κ ν ps)) (hκ : ∀ a b, κ a = κ b → a = b) (hf : ∀ (k : K), kfit (kvs κ (fun a => D.p (ν a)) ps) (κ k) = true) (hl : ps.length < 16777216) (k : K) (v : α) :
    setIx st (.loc m) (.p (κ k)) (.p (ν v)) = some (st.set m (kvp κ ν (aput ps k v))) := by
  simp only [setIx, h]
  rw [if_pos ⟨hf k, by rw [sizeLine_eq]; unfold kvs; rw [List.length_map]; exact hl⟩]
  rw [kvs_put (ν := fun a => D.p (ν a)) hκ]
theorem ix_loc (h : st[m]? = some (kvp κ ν ps)) (hκ : ∀ a b, κ a = κ b → a = b) (hf : ∀ (k : K), kfit (kvs κ (fun a => D.p (ν a)) ps) (κ k) = true) (k : K) :
    ixD st (.loc m) (.p (κ k)) = (aget ps k).map fun a => D.p (ν a) := by
  simp only [ixD, h]
  rw [if_pos (hf k), kvs_lk hκ]
theorem rd_dloc (h : st[m]? = some (kvp κ ν ps)) : rd st (.loc m) = some (.dct (kvs κ ν ps)) := by
  show (match st[m]? with
    | some o => o.view
    | none => none) = _
  rw [h]
  show (pureK (kvs κ _ ps)).map P.dct = _
  rw [pureK_kvs]
  rfl
end
end PyM
namespace PyM
open PySem

@[simp] theorem blt_tupL (xs : List P) (st : Sto) : blt .tuple [.p (.lst xs)] st = .ok (.p (.tup xs)) st := rfl
@[simp] theorem blt_tupT (xs : List P) (st : Sto) : blt .tuple [.p (.tup xs)] st = .ok (.p (.tup xs)) st := rfl
@[simp] theorem mkT_p2 (a b : P) (st : Sto) : mkT [.p a, .p b] st = .ok (.p (.tup [a, b])) st := rfl
@[simp] theorem mkT_p1 (a : P) (st : Sto) : mkT [.p a] st = .ok (.p (.tup [a])) st := rfl
@[simp] theorem mkT_p0 (st : Sto) : mkT [] st = .ok (.p (.tup [])) st := rfl
@[simp] theorem src_lst' (xs : List P) (st : Sto) : srcOf st (.p (.lst xs)) = some (.fix (xs.map .p)) := rfl
@[simp] theorem src_tup' (xs : List P) (st : Sto) : srcOf st (.p (.tup xs)) = some (.fix (xs.map .p)) := rfl
@[simp] theorem mkD_new (st : Sto) : mkD true [] st = .ok (.loc st.length) (st ++ [.dct []]) := rfl
theorem mkL_map {α : Type} (f : α → P) (xs : List α) (st : Sto) : mkL false (xs.map fun a => D.p (f a)) st = .ok (.p (.lst (xs.map f))) st := by
  have e : xs.map (fun a => D.p (f a)) = (xs.map f).map .p := by rw [List.map_map]; rfl
  rw [e, mkL, pureL_p]
theorem ixP {st : Sto} {α : Type} {f : α → P} {xs : List α} {k : Int} (h0 : 0 ≤ k) (h : k < xs.length) : ∃ x, x ∈ xs ∧ ixD st (.p (.lst (xs.map f))) (.p (.int k)) = some (.p (f x)) ∧ ixD st (.p (.tup (xs.map f))) (.p (.int k)) = some (.p (f x)) := by
  have hk : L2.ixN xs.length k = some k.toNat := ixN_nat h0 h
  have hlt : k.toNat < xs.length := by omega
  refine ⟨xs[k.toNat], List.getElem_mem _, ?_, ?_⟩
  · show (L2.atI (xs.map f) k).map D.p = _
    unfold L2.atI
    rw [List.length_map, hk]
    show ((xs.map f)[k.toNat]?).map D.p = _
    rw [List.getElem?_map, List.getElem?_eq_getElem hlt]
    rfl
  · show (L2.atI (xs.map f) k).map D.p = _
    unfold L2.atI
    rw [List.length_map, hk]
    show ((xs.map f)[k.toNat]?).map D.p = _
    rw [List.getElem?_map, List.getElem?_eq_getElem hlt]
    rfl
/-- a dict at m behind the dice -/
structure Dct {K α : Type} (κ : K → P) (ν : α → P) (n m : Nat) (st0 st : Sto) (ps : List (K × α)) : Prop where
  af : After n st0 st
  mm : st0.length ≤ m
  nm : n ≠ m
  at_ : st[m]? = some (kvp κ ν ps)
theorem Dct.draw {K α : Type} {κ : K → P} {ν : α → P} {n m : Nat} {st0 st st' : Sto} {ps : List (K × α)} (h : Dct κ ν n m st0 st ps) (a : After n st st') : Dct κ ν n m st0 st' ps := ⟨h.af.trans a, h.mm, h.nm, by
  rw [a.kp m (List.getElem?_eq_some_iff.mp h.at_).1 (fun e => h.nm e.symm)]
  exact h.at_⟩
theorem Dct.put {K α : Type} {κ : K → P} {ν : α → P} {n m : Nat} {st0 st : Sto} {ps ps' : List (K × α)} (h : Dct κ ν n m st0 st ps) : Dct κ ν n m st0 (st.set m (kvp κ ν ps')) ps' := ⟨h.af.put h.mm h.nm _, h.mm, h.nm, by rw [List.getElem?_set_self (List.getElem?_eq_some_iff.mp h.at_).1]⟩
theorem Dct.new {K α : Type} {κ : K → P} {ν : α → P} {n : Nat} {st0 st : Sto} (a : After n st0 st) : Dct κ ν n st.length st0 (st ++ [.dct []]) [] := ⟨a.trans (After.push a.di _), a.le, fun e => by have := a.di.lt; omega, by rw [List.getElem?_append_right (Nat.le_refl _)]; simp [kvp, kvs]⟩

/-! ### products -/
def productB (d : Nat) : Sts := (.cons (.asg (.nm 3) (.dnew true))
  (.cons (.for (.nm 4) (.rng1 (.call .kep d (.cons (.var 0) (.cons (.bin .add (.var 2) (.lit (.int 1))) .nil)))) (.cons (.asg (.nm 5) (.ix (.var 1) (.call .kep d (.cons (.var 0) (.cons (.blt .len (.cons (.var 1) .nil)) .nil)))))
  (.cons (.asg (.sub (.var 3) (.var 5)) (.bin .add (.mth .get2 (.var 3) (.cons (.var 5) (.cons (.lit (.int 0)) .nil))) (.lit (.int 1))))
  .nil)))
  (.cons (.ret (.blt .tuple (.cons (.lc false (.tup (.cons (.var 5) (.cons (.ix (.var 3) (.var 5)) .nil))) [5] (.nm 5) (.seq (.blt (.sorted false) (.cons (.var 3) .nil))) .none) .nil)))
  .nil)))
/-- a product of these names -/
structure PrOk (xs : List Str) (most : Int) (l : Pr) : Prop where
  nd : (l.map (·.1)).Nodup
  mem : ∀ q ∈ l, q.1 ∈ xs ∧ 1 ≤ q.2 ∧ q.2 ≤ most
end PyM
namespace PyM
open PySem
/-! ### sums -/
def sumB (d p : Nat) : Sts := (.cons (.asg (.nm 5) (.dnew true))
  (.cons (.for (.nm 6) (.rng1 (.bin .add (.lit (.int 1)) (.call .kep d (.cons (.var 0) (.cons (.var 2) .nil))))) (.cons (.asg (.nm 7) (.call .kep p (.cons (.var 0) (.cons (.var 1) (.cons (.var 3) .nil)))))
  (.cons (.asg (.sub (.var 5) (.var 7)) (.bin .add (.lit (.int 1)) (.call .kep d (.cons (.var 0) (.cons (.var 4) .nil)))))
  .nil)))
  (.cons (.ret (.blt .tuple (.cons (.lc false (.tup (.cons (.ix (.var 5) (.var 7)) (.cons (.var 7) .nil))) [7] (.nm 7) (.seq (.blt (.sorted false) (.cons (.var 5) .nil))) .none) .nil)))
  .nil)))
/-! ### the dice made of the script -/
def diceB : Sts := (.cons (.ret (.lst true (.cons (.lc false (.blt .abs (.cons (.blt .int (.cons (.var 1) .nil)) .nil)) [1] (.nm 1) (.seq (.sl (.var 0) .none (.some (.lit (.int 63))) false)) .none) (.cons (.lit (.int 0)) (.cons (.lit (.int 0)) (.cons (.lit (.int 1)) (.cons (.lit (.int 0)) .nil)))))))
  .nil)
theorem dice_spec {cf : CF} {ns : List Int} {st : Sto} : ∃ o, dnB cf diceB [some (.p (.scr ns)), none] st = .rt (.loc st.length) (st ++ [o]) ∧ DiceO o := by
  refine ⟨.lst (dL ((cutL ns none (some 63)).map fun i => if i < 0 then -i else i) 0 0 1 0), ?_, _, _, _, _, _, rfl, ?_, by decide, by decide, by decide, by decide, by decide⟩
  · have e1 : slD st false (.scr ns) none (some 63) = .ok (.p (.lst ((cutL ns none (some 63)).map P.int))) st := by
      show mkL false _ st = _
      rw [mkL_map]
    have lc : lcFix (lcStep cf (.nm 1) [1] .none (.blt .abs (.cons (.blt .int (.cons (.var 1) .nil)) .nil)) [some (.p (.scr ns)), none]) ((cutL ns none (some 63)).map fun i => D.p (.int i)) [] st = .ok ((cutL ns none (some 63)).map fun i => D.p (.int (if i < 0 then -i else i))) st := lc_map fun y h => by
      simp [lcStep]
    unfold diceB
    simp [e1, Function.comp_def, lc, mkL_map]
    simp [mkL, dL]
  · intro c hc
    obtain ⟨i, _, rfl⟩ := List.mem_map.mp hc
    split <;> omega
def DiceAt (cf : CF) (j : Nat) : Prop := ∀ ns st, ∃ o, cf j [.p (.scr ns)] st = .ok (.loc st.length) (st ++ [o]) ∧ DiceO o
theorem dice_at {cf : CF} {j : Nat} {cf0 : CF} {f : Fn} (hf : f.np = 1 ∧ f.ns = 2 ∧ f.body = diceB) (h : ∀ ds st, cf j ds st = runFn cf0 f ds st) : DiceAt cf j := by
  intro ns st
  obtain ⟨o, e, d⟩ := dice_spec (cf := cf0) (ns := ns) (st := st)
  refine ⟨o, ?_, d⟩
  rw [h]
  exact run_rt (env := [some (.p (.scr ns)), none]) (by rw [hf.1]; rfl) (by rw [hf.2.1]; rfl) (by rw [hf.2.2]; exact e)
end PyM
namespace PyM
open PySem

/-! ### a def's meaning, step by step: lazy rewriting, ends -/
/-- what an end is asked -/
structure Po where
  nx : Env → Sto → Prop := fun _ _ => False
  rt : D → Sto → Prop := fun _ _ => False
  bk : Env → Sto → Prop := fun _ _ => False
  ct : Env → Sto → Prop := fun _ _ => False
  ex : Exc → Env → Sto → Prop := fun _ _ _ => False
def SR.wp0 (r : SR) (p : Po) : Prop := match r with
  | .nx e s => p.nx e s
  | .rt d s => p.rt d s
  | .bk e s => p.bk e s
  | .ct e s => p.ct e s
  | .exc x e s => p.ex x e s
  | .fail => False
def Res.wp0 {α : Type} (r : Res α) (Q : α → Sto → Prop) (X : Exc → Sto → Prop := fun _ _ => False) : Prop := match r with
  | .ok a s => Q a s
  | .exc e s => X e s
  | .fail => False
section
variable {p : Po} {r : SR} {α β : Type} {m : Res α} {Q : α → Sto → Prop} {X : Exc → Sto → Prop}
theorem ok_sbind0 {f : Env → Sto → SR} (h : r.wp0 { p with nx := fun e s => (f e s).wp0 p }) : (r.bind f).wp0 p := by cases r <;> exact h
theorem ok_thn0 {env : Env} {f : α → Sto → SR} (h : m.wp0 (fun a s => (f a s).wp0 p) fun x s => p.ex x env s) : (m.thn env f).wp0 p := by cases m <;> exact h
theorem ok_rbind0 {f : α → Sto → Res β} {Q : β → Sto → Prop} (h : m.wp0 (fun a s => (f a s).wp0 Q X) X) : (m.bind f).wp0 Q X := by cases m <;> exact h
/-- a loop by an invariant -/
theorem for_ok0 {body : D → Env → Sto → SR} : ∀ {xs : List D} {env : Env} {st : Sto} (I : Nat → Env → Sto → Prop), I 0 env st → (∀ i d env st, xs[i]? = some d → I i env st → (body d env st).wp0 { p with nx := I (i + 1), ct := I (i + 1), bk := p.nx }) →
    (∀ e s, I xs.length e s → p.nx e s) → (forFix body xs env st).wp0 p
  | [], env, st, I, h0, _, h => h env st h0
  | d :: r, env, st, I, h0, hs, h => by
    have q := hs 0 d env st rfl h0
    rw [forFix]
    cases e : body d env st with
    | nx e1 s1 => rw [e] at q; exact for_ok0 (fun i => I (i + 1)) q (fun i d env st z I' => hs (i + 1) d env st (by simpa using z) I') h
    | ct e1 s1 => rw [e] at q; exact for_ok0 (fun i => I (i + 1)) q (fun i d env st z I' => hs (i + 1) d env st (by simpa using z) I') h
    | rt d s => rw [e] at q; exact q
    | bk e s => rw [e] at q; exact q
    | exc x e s => rw [e] at q; exact q
    | fail => rw [e] at q; exact q.elim
/-- a while loop by a measure -/
theorem whl_ok0 {c : Env → Sto → Res Bool} {body : Env → Sto → SR} (I : Nat → Env → Sto → Prop) (hs : ∀ n env st, I n env st → (c env st).wp0 fun b s => if b = true then (body env s).wp0 { p with nx := fun e s => ∃ m, m < n ∧ I m e s, ct := fun e s => ∃ m, m < n ∧ I m e s, bk := p.nx } else p.nx env s) :
    ∀ {n f : Nat} {env : Env} {st : Sto}, I n env st → n < f → (whlN c body f env st).wp0 p := by
  intro n
  induction n using Nat.strongRecOn with
  | ind n ih =>
    intro f env st h hf
    cases f with
    | zero => exact absurd hf (Nat.not_lt_zero _)
    | succ f =>
      have q := hs n env st h
      rw [whlN]
      cases e : c env st with
      | fail => rw [e] at q; exact q.elim
      | exc x s => rw [e] at q; exact q.elim
      | ok b s =>
        rw [e] at q
        cases b with
        | false => exact q
        | true =>
          have q : (body env s).wp0 _ := q
          show ((body env s).turn _).wp0 p
          cases e2 : body env s with
          | nx e1 s1 => rw [e2] at q; obtain ⟨m, hm, q⟩ := q; exact ih m hm q (by omega)
          | ct e1 s1 => rw [e2] at q; obtain ⟨m, hm, q⟩ := q; exact ih m hm q (by omega)
          | rt d s => rw [e2] at q; exact q
          | bk e s => rw [e2] at q; exact q
          | exc x e s => rw [e2] at q; exact q
          | fail => rw [e2] at q; exact q.elim
end
/-- a def's end -/
def retP (Q : D → Sto → Prop) : Po := { nx := fun _ s => Q (.p .non) s, rt := Q }
@[simp] theorem retP_nx (Q : D → Sto → Prop) (e : Env) (s : Sto) : (retP Q).nx e s = Q (.p .non) s := rfl
@[simp] theorem retP_rt (Q : D → Sto → Prop) (d : D) (s : Sto) : (retP Q).rt d s = Q d s := rfl
theorem run_ok0 {cf : CF} {f : Fn} {ds : List D} {st : Sto} {Q : D → Sto → Prop} (hn : ds.length = f.np) (h : (dnB cf f.body (ds.map some ++ List.replicate (f.ns - ds.length) none) st).wp0 (retP Q)) : ∃ d s, runFn cf f ds st = .ok d s ∧ Q d s := by
  unfold runFn
  rw [if_pos hn]
  cases e : dnB cf f.body (ds.map some ++ List.replicate (f.ns - ds.length) none) st with
  | nx e1 s => rw [e] at h; exact ⟨_, _, rfl, h⟩
  | rt d s => rw [e] at h; exact ⟨_, _, rfl, h⟩
  | bk e s => rw [e] at h; exact h.elim
  | ct e s => rw [e] at h; exact h.elim
  | exc x e s => rw [e] at h; exact h.elim
  | fail => rw [e] at h; exact h.elim
theorem wp_join0 {r : SR} {p : Po} (I : Env → Sto → Prop) (h : r.wp0 { p with nx := I }) (k : ∀ e s, I e s → p.nx e s) : r.wp0 p := by
  cases r with
  | nx e s => exact k e s h
  | _ => exact h
@[irreducible] def SR.wp (r : SR) (p : Po) : Prop := r.wp0 p
@[irreducible] def Res.wp {α : Type} (r : Res α) (Q : α → Sto → Prop) (X : Exc → Sto → Prop := fun _ _ => False) : Prop := r.wp0 Q X
theorem SR.wpE : @SR.wp = @SR.wp0 := by
  funext r p
  unfold SR.wp
  rfl
theorem Res.wpE : @Res.wp = @Res.wp0 := by
  funext α r Q X
  unfold Res.wp
  rfl
section
variable {p : Po} {r : SR} {α β : Type} {m : Res α} {Q : α → Sto → Prop} {X : Exc → Sto → Prop}
@[simp] theorem SR.wp_nx (e : Env) (s : Sto) : (SR.nx e s).wp p = p.nx e s := by rw [SR.wpE]; rfl
@[simp] theorem SR.wp_rt (d : D) (s : Sto) : (SR.rt d s).wp p = p.rt d s := by rw [SR.wpE]; rfl
@[simp] theorem SR.wp_bk (e : Env) (s : Sto) : (SR.bk e s).wp p = p.bk e s := by rw [SR.wpE]; rfl
@[simp] theorem SR.wp_ct (e : Env) (s : Sto) : (SR.ct e s).wp p = p.ct e s := by rw [SR.wpE]; rfl
@[simp] theorem SR.wp_exc (x : Exc) (e : Env) (s : Sto) : (SR.exc x e s).wp p = p.ex x e s := by rw [SR.wpE]; rfl
@[simp] theorem Res.wp_ok (a : α) (s : Sto) : (Res.ok a s : Res α).wp Q X = Q a s := by rw [Res.wpE]; rfl
@[simp] theorem Res.wp_exc (e : Exc) (s : Sto) : (Res.exc e s : Res α).wp Q X = X e s := by rw [Res.wpE]; rfl
theorem ok_sbind {f : Env → Sto → SR} (h : r.wp { p with nx := fun e s => (f e s).wp p }) : (r.bind f).wp p := by
  revert h
  rw [SR.wpE]
  exact fun h => ok_sbind0 h
theorem ok_thn {env : Env} {f : α → Sto → SR} (h : m.wp (fun a s => (f a s).wp p) fun x s => p.ex x env s) : (m.thn env f).wp p := by
  revert h
  rw [SR.wpE, Res.wpE]
  exact fun h => ok_thn0 h
theorem ok_rbind {f : α → Sto → Res β} {Q : β → Sto → Prop} (h : m.wp (fun a s => (f a s).wp Q X) X) : (m.bind f).wp Q X := by
  revert h
  rw [Res.wpE]
  exact fun h => ok_rbind0 h
theorem for_ok {body : D → Env → Sto → SR} : ∀ {xs : List D} {env : Env} {st : Sto} (I : Nat → Env → Sto → Prop), I 0 env st → (∀ i d env st, xs[i]? = some d → I i env st → (body d env st).wp { p with nx := I (i + 1), ct := I (i + 1), bk := p.nx }) →
    (∀ e s, I xs.length e s → p.nx e s) → (forFix body xs env st).wp p := by
  rw [SR.wpE]
  exact for_ok0
theorem whl_ok {c : Env → Sto → Res Bool} {body : Env → Sto → SR} (I : Nat → Env → Sto → Prop) (hs : ∀ n env st, I n env st → (c env st).wp fun b s => if b = true then (body env s).wp { p with nx := fun e s => ∃ m, m < n ∧ I m e s, ct := fun e s => ∃ m, m < n ∧ I m e s, bk := p.nx } else p.nx env s) :
    ∀ {n f : Nat} {env : Env} {st : Sto}, I n env st → n < f → (whlN c body f env st).wp p := by
  revert hs
  rw [SR.wpE, Res.wpE]
  exact fun hs => whl_ok0 I hs
end
theorem run_ok {cf : CF} {f : Fn} {ds : List D} {st : Sto} {Q : D → Sto → Prop} (hn : ds.length = f.np) (h : (dnB cf f.body (ds.map some ++ List.replicate (f.ns - ds.length) none) st).wp (retP Q)) : ∃ d s, runFn cf f ds st = .ok d s ∧ Q d s := by
  revert h
  rw [SR.wpE]
  exact fun h => run_ok0 hn h
theorem wp_join {r : SR} {p : Po} (I : Env → Sto → Prop) (h : r.wp { p with nx := I }) (k : ∀ e s, I e s → p.nx e s) : r.wp p := by
  revert h
  rw [SR.wpE]
  exact fun h => wp_join0 I h k
@[simp] theorem s_whl' {cf : CF} {env : Env} {st : Sto} {c : Ex} (b : Sts) : dnS cf (.whl c b) env st = whlN (fun e s => denc cf (.some c) e s) (fun e s => dnB cf b e s) FUEL env st := by rw [dnS]
def enumR (x : D) (st : Sto) : Res Src := match x with
  | .p (.lst xs) => .ok (.fix (enumL 0 xs)) st
  | .p (.tup xs) => .ok (.fix (enumL 0 xs)) st
  | _ => .fail
@[simp] theorem enumR_l (xs : List P) (st : Sto) : enumR (.p (.lst xs)) st = .ok (.fix (enumL 0 xs)) st := rfl
@[simp] theorem enumR_t (xs : List P) (st : Sto) : enumR (.p (.tup xs)) st = .ok (.fix (enumL 0 xs)) st := rfl
@[simp] theorem i_enum' {cf : CF} {env : Env} {st : Sto} {a : Ex} : deni cf (.enum a) env st = (den cf a env st).bind enumR := by rw [deni] <;> rfl
def rng2R (x y : D) (st : Sto) : Res Src := match x, y with
  | .p (.int i), .p (.int j) => if -(2 ^ 62) ≤ i ∧ i < 2 ^ 62 ∧ -(2 ^ 62) ≤ j ∧ j < 2 ^ 62 ∧ j - i ≤ sizeLine then .ok (.fix (rngL i (j - i).toNat)) st else .fail
  | _, _ => .fail
@[simp] theorem i_rng2' {cf : CF} {env : Env} {st : Sto} {a b : Ex} : deni cf (.rng2 a b) env st = (den cf a env st).bind fun x s1 => (den cf b env s1).bind fun y s2 => rng2R x y s2 := by rw [deni] <;> rfl
def negR (x : D) (st : Sto) : Res D := match x with
  | .p (.int i) => .ok (.p (.int (-i))) st
  | _ => .fail
@[simp] theorem negR_int (i : Int) (st : Sto) : negR (.p (.int i)) st = .ok (.p (.int (-i))) st := rfl
@[simp] theorem e_neg' {cf : CF} {env : Env} {st : Sto} {a : Ex} : den cf (.neg a) env st = (den cf a env st).bind negR := by rw [den] <;> rfl
@[simp] theorem e_cmp2' {cf : CF} {env : Env} {st : Sto} {a b c : Ex} (o o' : COp) : den cf (.cmp2 o o' a b c) env st = (den cf a env st).bind fun x s1 => (den cf b env s1).bind fun y s2 => on2 s2 x y fun p q => chs (cop o p q) ((den cf c env s2).bind fun z s3 => on2 s3 y z fun p q => opt ((cop o' p q).map fun b => .p (.bl b)) s3) (.ok (.p (.bl false)) s2) := by
  rw [den]
  congr 1
  funext x s1
  congr 1
  funext y s2
  unfold on2
  cases rd s2 x with
  | none => rfl
  | some p =>
    cases rd s2 y with
    | none => rfl
    | some q =>
      dsimp only
      cases cop o p q with
      | none => rfl
      | some b =>
        cases b with
        | false => rfl
        | true =>
          show _ = Res.bind _ _
          congr 1

theorem callM_kep {cf : CF} {i : Nat} {ds : List D} {st : Sto} : callM .kep cf i ds st = cf i ds st := rfl
theorem frzAll_p {st : Sto} {n : Nat} {x : P} : frzAll st n (.p x) = some x := by cases n <;> rfl
/-! ### lazy words: what stands behind is left as it is -/
inductive Tr {α : Type} (a : α) : Type where
  | mk : Tr a
section
variable {α β : Type}
def Res.bindL (r : Res α) (f : α → Sto → Res β) (_ : Tr f) : Res β := r.bind f
def Res.thnL (r : Res α) (env : Env) (f : α → Sto → SR) (_ : Tr f) : SR := r.thn env f
def SR.bindL (r : SR) (f : Env → Sto → SR) (_ : Tr f) : SR := r.bind f
def SR.wpL (r : SR) (p : Po) (_ : Tr p) : Prop := r.wp p
def Res.wpL (r : Res α) (Q : α → Sto → Prop) (X : Exc → Sto → Prop) (_ : Tr Q) (_ : Tr X) : Prop := r.wp Q X
def iteS (c : Prop) [Decidable c] (a b : SR) (_ : Tr a) (_ : Tr b) : SR := if c then a else b
def iteR (c : Prop) [Decidable c] (a b : Res α) (_ : Tr a) (_ : Tr b) : Res α := if c then a else b
def chsL (o : Option Bool) (a b : Res α) (_ : Tr a) (_ : Tr b) : Res α := chs o a b
theorem Res.bind_L (r : Res α) (f : α → Sto → Res β) : r.bind f = r.bindL f .mk := rfl
theorem Res.thn_L (r : Res α) (env : Env) (f : α → Sto → SR) : r.thn env f = r.thnL env f .mk := rfl
theorem SR.bind_L (r : SR) (f : Env → Sto → SR) : r.bind f = r.bindL f .mk := rfl
theorem SR.wp_L (r : SR) (p : Po) : r.wp p = r.wpL p .mk := rfl
theorem Res.wp_L (r : Res α) (Q : α → Sto → Prop) (X : Exc → Sto → Prop) : r.wp Q X = r.wpL Q X .mk .mk := rfl
theorem ite_S (c : Prop) [Decidable c] (a b : SR) : (if c then a else b) = iteS c a b .mk .mk := rfl
theorem ite_R (c : Prop) [Decidable c] (a b : Res α) : (if c then a else b) = iteR c a b .mk .mk := rfl
theorem chs_L (o : Option Bool) (a b : Res α) : chs o a b = chsL o a b .mk .mk := rfl
theorem bindL_ok (a : α) (s : Sto) (f : α → Sto → Res β) (h : Tr f) : (Res.ok a s).bindL f h = f a s := rfl
theorem bindL_exc (a : Exc) (s : Sto) (f : α → Sto → Res β) (h : Tr f) : (Res.exc a s : Res α).bindL f h = .exc a s := rfl
theorem bindL_fail (f : α → Sto → Res β) (h : Tr f) : (Res.fail : Res α).bindL f h = .fail := rfl
theorem thnL_ok (a : α) (s : Sto) (env : Env) (f : α → Sto → SR) (h : Tr f) : (Res.ok a s).thnL env f h = f a s := rfl
theorem thnL_exc (a : Exc) (s : Sto) (env : Env) (f : α → Sto → SR) (h : Tr f) : (Res.exc a s : Res α).thnL env f h = .exc a env s := rfl
theorem thnL_fail (env : Env) (f : α → Sto → SR) (h : Tr f) : (Res.fail : Res α).thnL env f h = .fail := rfl
theorem sbL_nx (e : Env) (s : Sto) (f : Env → Sto → SR) (h : Tr f) : (SR.nx e s).bindL f h = f e s := rfl
theorem sbL_rt (d : D) (s : Sto) (f : Env → Sto → SR) (h : Tr f) : (SR.rt d s).bindL f h = .rt d s := rfl
theorem sbL_bk (e : Env) (s : Sto) (f : Env → Sto → SR) (h : Tr f) : (SR.bk e s).bindL f h = .bk e s := rfl
theorem sbL_ct (e : Env) (s : Sto) (f : Env → Sto → SR) (h : Tr f) : (SR.ct e s).bindL f h = .ct e s := rfl
theorem sbL_exc (x : Exc) (e : Env) (s : Sto) (f : Env → Sto → SR) (h : Tr f) : (SR.exc x e s).bindL f h = .exc x e s := rfl
theorem sbL_fail (f : Env → Sto → SR) (h : Tr f) : SR.fail.bindL f h = .fail := rfl
theorem wpL_nx (e : Env) (s : Sto) (p : Po) (h : Tr p) : (SR.nx e s).wpL p h = p.nx e s := SR.wp_nx e s
theorem wpL_rt (d : D) (s : Sto) (p : Po) (h : Tr p) : (SR.rt d s).wpL p h = p.rt d s := SR.wp_rt d s
theorem wpL_bk (e : Env) (s : Sto) (p : Po) (h : Tr p) : (SR.bk e s).wpL p h = p.bk e s := SR.wp_bk e s
theorem wpL_ct (e : Env) (s : Sto) (p : Po) (h : Tr p) : (SR.ct e s).wpL p h = p.ct e s := SR.wp_ct e s
theorem wpL_exc (x : Exc) (e : Env) (s : Sto) (p : Po) (h : Tr p) : (SR.exc x e s).wpL p h = p.ex x e s := SR.wp_exc x e s
theorem rwL_ok (a : α) (s : Sto) (Q : α → Sto → Prop) (X : Exc → Sto → Prop) (h : Tr Q) (h' : Tr X) : (Res.ok a s : Res α).wpL Q X h h' = Q a s := Res.wp_ok a s
theorem rwL_exc (e : Exc) (s : Sto) (Q : α → Sto → Prop) (X : Exc → Sto → Prop) (h : Tr Q) (h' : Tr X) : (Res.exc e s : Res α).wpL Q X h h' = X e s := Res.wp_exc e s
theorem iteS_t (a b : SR) (h : Tr a) (h' : Tr b) [Decidable True] : iteS True a b h h' = a := if_pos trivial
theorem iteS_f (a b : SR) (h : Tr a) (h' : Tr b) [Decidable False] : iteS False a b h h' = b := if_neg id
theorem iteR_t (a b : Res α) (h : Tr a) (h' : Tr b) [Decidable True] : iteR True a b h h' = a := if_pos trivial
theorem iteR_f (a b : Res α) (h : Tr a) (h' : Tr b) [Decidable False] : iteR False a b h h' = b := if_neg id
theorem chsL_some (b : Bool) (x y : Res α) (h : Tr x) (h' : Tr y) : chsL (some b) x y h h' = if b = true then x else y := chs_some b x y
end
def whlC (cf : CF) (c : Ex) (e : Env) (s : Sto) : Res Bool := denc cf (.some c) e s
def whlB (cf : CF) (b : Sts) (e : Env) (s : Sto) : SR := dnB cf b e s
theorem s_whlL {cf : CF} {env : Env} {st : Sto} {c : Ex} (b : Sts) : dnS cf (.whl c b) env st = whlN (whlC cf c) (whlB cf b) FUEL env st := by rw [dnS] <;> rfl
theorem evZP : type_of% (And.intro @Res.bind_L (And.intro @Res.thn_L (And.intro @SR.bind_L (And.intro @SR.wp_L (And.intro @Res.wp_L (And.intro @ite_S (And.intro @ite_R (@chs_L)))))))) := And.intro @Res.bind_L (And.intro @Res.thn_L (And.intro @SR.bind_L (And.intro @SR.wp_L (And.intro @Res.wp_L (And.intro @ite_S (And.intro @ite_R (@chs_L)))))))
theorem evZQ0 : type_of% (And.intro @bindL_ok (And.intro @bindL_exc (And.intro @bindL_fail (And.intro @thnL_ok (And.intro @thnL_exc (And.intro @thnL_fail (And.intro @sbL_nx (And.intro @sbL_rt (And.intro @sbL_bk (And.intro @sbL_ct (And.intro @sbL_exc (And.intro @sbL_fail (And.intro @wpL_nx (And.intro @wpL_rt (And.intro @wpL_bk (And.intro @wpL_ct (And.intro @wpL_exc (And.intro @rwL_ok (And.intro @rwL_exc (And.intro @iteS_t (And.intro @iteS_f (And.intro @iteR_t (And.intro @iteR_f (And.intro @chsL_some (@SR.turn_nx))))))))))))))))))))))))) := And.intro @bindL_ok (And.intro @bindL_exc (And.intro @bindL_fail (And.intro @thnL_ok (And.intro @thnL_exc (And.intro @thnL_fail (And.intro @sbL_nx (And.intro @sbL_rt (And.intro @sbL_bk (And.intro @sbL_ct (And.intro @sbL_exc (And.intro @sbL_fail (And.intro @wpL_nx (And.intro @wpL_rt (And.intro @wpL_bk (And.intro @wpL_ct (And.intro @wpL_exc (And.intro @rwL_ok (And.intro @rwL_exc (And.intro @iteS_t (And.intro @iteS_f (And.intro @iteR_t (And.intro @iteR_f (And.intro @chsL_some (@SR.turn_nx))))))))))))))))))))))))
theorem evZQ1 : type_of% (And.intro @SR.turn_ct (And.intro @SR.turn_bk (And.intro @SR.turn_rt (And.intro @SR.turn_exc (And.intro @SR.turn_fail (And.intro @opt_some (And.intro @opt_none (And.intro @gtv_some (And.intro @on2_p (And.intro @rd_pp (And.intro @e_var' (And.intro @e_lit' (And.intro @e_bin' (And.intro @e_cmp' (And.intro @e_and' (And.intro @e_or' (And.intro @e_not' (And.intro @e_ite' (And.intro @e_call' (And.intro @e_blt' (And.intro @e_isi' (And.intro @e_mth' (And.intro @e_ix' (And.intro @slR_p (@e_sl'))))))))))))))))))))))))) := And.intro @SR.turn_ct (And.intro @SR.turn_bk (And.intro @SR.turn_rt (And.intro @SR.turn_exc (And.intro @SR.turn_fail (And.intro @opt_some (And.intro @opt_none (And.intro @gtv_some (And.intro @on2_p (And.intro @rd_pp (And.intro @e_var' (And.intro @e_lit' (And.intro @e_bin' (And.intro @e_cmp' (And.intro @e_and' (And.intro @e_or' (And.intro @e_not' (And.intro @e_ite' (And.intro @e_call' (And.intro @e_blt' (And.intro @e_isi' (And.intro @e_mth' (And.intro @e_ix' (And.intro @slR_p (@e_sl'))))))))))))))))))))))))
theorem evZQ2 : type_of% (And.intro @e_tup' (And.intro @e_lst' (And.intro @e_dnew' (And.intro @e_frz' (And.intro @es_nil' (And.intro @es_cons' (And.intro @toI_int (And.intro @o_none' (And.intro @o_some' (And.intro @c_none' (And.intro @c_some' (And.intro @t_nm' (And.intro @t_tup' (And.intro @setR_some (And.intro @nox_ok (And.intro @t_sub' (And.intro @ts_nil' (And.intro @ts_cons' (And.intro @i_seq' (And.intro @i_rng1' (And.intro @s_asg' (And.intro @s_ex' (And.intro @s_ret' (And.intro @s_retN' (@s_ite'))))))))))))))))))))))))) := And.intro @e_tup' (And.intro @e_lst' (And.intro @e_dnew' (And.intro @e_frz' (And.intro @es_nil' (And.intro @es_cons' (And.intro @toI_int (And.intro @o_none' (And.intro @o_some' (And.intro @c_none' (And.intro @c_some' (And.intro @t_nm' (And.intro @t_tup' (And.intro @setR_some (And.intro @nox_ok (And.intro @t_sub' (And.intro @ts_nil' (And.intro @ts_cons' (And.intro @i_seq' (And.intro @i_rng1' (And.intro @s_asg' (And.intro @s_ex' (And.intro @s_ret' (And.intro @s_retN' (@s_ite'))))))))))))))))))))))))
theorem evZQ3 : type_of% (And.intro @s_brk' (And.intro @s_cnt' (And.intro @s_pas' (And.intro @b_nil' (And.intro @b_cons' (And.intro @forSrc_fix (And.intro @s_for' (And.intro @truth_bl (And.intro @cop_eqI (And.intro @cop_neI (And.intro @cop_ltI (And.intro @cop_gtI (And.intro @cop_leI (And.intro @cop_geI (And.intro @bop_addI (And.intro @bop_subI (And.intro @blt_int (And.intro @blt_lenL (And.intro @blt_lenT (And.intro @blt_lenS (And.intro @blt_absI (And.intro @lcSrc_fix (And.intro @e_lc' (And.intro @e_dc' (@dcSrc_fix))))))))))))))))))))))))) := And.intro @s_brk' (And.intro @s_cnt' (And.intro @s_pas' (And.intro @b_nil' (And.intro @b_cons' (And.intro @forSrc_fix (And.intro @s_for' (And.intro @truth_bl (And.intro @cop_eqI (And.intro @cop_neI (And.intro @cop_ltI (And.intro @cop_gtI (And.intro @cop_leI (And.intro @cop_geI (And.intro @bop_addI (And.intro @bop_subI (And.intro @blt_int (And.intro @blt_lenL (And.intro @blt_lenT (And.intro @blt_lenS (And.intro @blt_absI (And.intro @lcSrc_fix (And.intro @e_lc' (And.intro @e_dc' (@dcSrc_fix))))))))))))))))))))))))
theorem evZQ4 : type_of% (And.intro @wipe_nil (And.intro @wipe_cons (And.intro @blt_tupL (And.intro @blt_tupT (And.intro @mkT_p0 (And.intro @mkT_p1 (And.intro @mkT_p2 (And.intro @src_lst' (And.intro @src_tup' (And.intro @mkD_new (And.intro @retP_nx (And.intro @retP_rt (And.intro @s_whlL (And.intro @i_enum' (And.intro @enumR_l (And.intro @enumR_t (And.intro @i_rng2' (And.intro @e_neg' (And.intro @negR_int (And.intro @e_cmp2' (And.intro @e_con' (And.intro @s_par' (And.intro @s_gz' (And.intro @gzR_some (@callM_kep))))))))))))))))))))))))) := And.intro @wipe_nil (And.intro @wipe_cons (And.intro @blt_tupL (And.intro @blt_tupT (And.intro @mkT_p0 (And.intro @mkT_p1 (And.intro @mkT_p2 (And.intro @src_lst' (And.intro @src_tup' (And.intro @mkD_new (And.intro @retP_nx (And.intro @retP_rt (And.intro @s_whlL (And.intro @i_enum' (And.intro @enumR_l (And.intro @enumR_t (And.intro @i_rng2' (And.intro @e_neg' (And.intro @negR_int (And.intro @e_cmp2' (And.intro @e_con' (And.intro @s_par' (And.intro @s_gz' (And.intro @gzR_some (@callM_kep))))))))))))))))))))))))
theorem evZQ5 : type_of% (@frzAll_p) := @frzAll_p
end PyM
namespace PyM
open PySem

/-! ### names in some order -/
theorem blt_listT (l : Bool) (xs : List P) (st : Sto) : blt (.list l) [.p (.tup xs)] st = mkL l (xs.map .p) st := rfl
theorem blt_listL (l : Bool) (xs : List P) (st : Sto) : blt (.list l) [.p (.lst xs)] st = mkL l (xs.map .p) st := rfl
theorem After.new {n : Nat} {st0 st : Sto} (x : After n st0 st) (o : Ob) : After n st0 (st ++ [o]) := x.trans (After.push x.di o)
theorem After.at_ {n m : Nat} {st st' : Sto} {x : Ob} (a : After n st st') (h : st[m]? = some x) (hm : m ≠ n) : st'[m]? = some x := by
  rw [a.kp m (List.getElem?_eq_some_iff.mp h).1 hm]
  exact h
theorem set_at {st : Sto} {m k : Nat} {x o : Ob} (h : st[m]? = some x) (hm : k ≠ m) : (st.set k o)[m]? = some x := by
  rw [List.getElem?_set_ne hm]
  exact h
theorem frz_loc {st : Sto} {m : Nat} {xs : List P} (h : st[m]? = some (.lst (xs.map .p))) : frzD (.loc m) st = .ok (.p (.lst xs)) (st.set m .dead) := by
  simp only [frzD, h, Ob.view, pureL_p, Option.map_some]
end PyM
namespace PyM
open PySem

/-! ### flat rows -/
structure Row where
  add : Bool
  x : Str
  c : Int
  p : Pr
def kap2 (q : Str × Pr) : P := .tup [.str q.1, pr q.2]
structure RowOk (xs : List Str) (top : Int) (r : Row) : Prop where
  mem : r.x ∈ xs
  pr : PrOk xs 2 r.p
  lo : 1 ≤ r.c
  hi : r.c ≤ top
theorem frz_dloc {K α : Type} {κ : K → P} {ν : α → P} {st : Sto} {m : Nat} {ps : List (K × α)} (h : st[m]? = some (kvp κ ν ps)) : frzD (.loc m) st = .ok (.p (.dct (kvs κ ν ps))) (st.set m .dead) := by
  simp only [frzD, h, Ob.view, pureK_kvs, Option.map_some]
  rfl
theorem ixDct {K α : Type} [DecidableEq K] {κ : K → P} {ν : α → P} {ps : List (K × α)} (hκ : ∀ a b, κ a = κ b → a = b) (hf : ∀ k : K, kfit (kvs κ ν ps) (κ k) = true) (k : K) (st : Sto) : ixD st (.p (.dct (kvs κ ν ps))) (.p (κ k)) = (aget ps k).map fun a => .p (ν a) := by
  show (if kfit (kvs κ ν ps) (κ k) = true then (lkp (kvs κ ν ps) (κ k)).map D.p else none) = _
  rw [if_pos (hf k), kvs_lk hκ, Option.map_map]
  rfl
theorem PrOk.mono {xs ys : List Str} {m : Int} {l : Pr} (h : PrOk xs m l) (k : ∀ x ∈ xs, x ∈ ys) : PrOk ys m l := ⟨h.nd, fun q hq => let ⟨a, b, c⟩ := h.mem q hq; ⟨k _ a, b, c⟩⟩
/-- slots: 0 _law_dice_here, 1 _law_names_here, 2 _law_most, 3 _law_top, 4 _law_wild, 5 _law_order_here, 6 _law_size, 7 _law_adds, 8 _law_lifts, 9 _law_k, 10 _law_rows, 11 _law_at, 12 _law_name, 13 _law_letters, 14 _law_kind, 15 _law_product_here, 16 _law_other, 17 _law_key -/
def flatB (o : Nat) (d : Nat) (p : Nat) : Sts := (.cons (.asg (.nm 5) (.call .kep o (.cons (.var 0) (.cons (.var 1) .nil))))
  (.cons (.asg (.nm 6) (.bin .add (.lit (.int 1)) (.call .kep d (.cons (.var 0) (.cons (.lit (.int 2)) .nil)))))
  (.cons (.asg (.nm 7) (.dnew true))
  (.cons (.asg (.nm 8) (.dnew true))
  (.cons (.for (.nm 9) (.rng1 (.bin .add (.lit (.int 1)) (.call .kep d (.cons (.var 0) (.cons (.var 2) .nil))))) (.cons (.asg (.nm 11) (.call .kep d (.cons (.var 0) (.cons (.blt .len (.cons (.var 5) .nil)) .nil))))
  (.cons (.asg (.nm 12) (.ix (.var 5) (.var 11)))
  (.cons (.asg (.nm 13) (.sl (.var 5) .none (.some (.bin .mul (.bin .fdiv (.var 11) (.var 6)) (.var 6))) false))
  (.cons (.ite (.var 4) (.cons (.asg (.nm 13) (.var 5))
  .nil) .nil)
  (.cons (.asg (.nm 14) (.call .kep d (.cons (.var 0) (.cons (.lit (.int 5)) .nil))))
  (.cons (.asg (.nm 15) (.tup .nil))
  (.cons (.ite (.cmp .gt (.blt .len (.cons (.var 13) .nil)) (.lit (.int 0))) (.cons (.asg (.nm 15) (.call .kep p (.cons (.var 0) (.cons (.var 13) (.cons (.lit (.int 2)) .nil)))))
  .nil) .nil)
  (.cons (.ite (.cmp .eq (.var 14) (.lit (.int 0))) (.cons (.asg (.nm 16) (.blt .min2 (.cons (.bin .add (.bin .mul (.bin .fdiv (.var 11) (.var 6)) (.var 6)) (.call .kep d (.cons (.var 0) (.cons (.var 6) .nil)))) (.cons (.bin .sub (.blt .len (.cons (.var 5) .nil)) (.lit (.int 1))) .nil))))
  (.cons (.asg (.sub (.var 8) (.tup (.cons (.var 12) (.cons (.tup (.cons (.tup (.cons (.ix (.var 5) (.var 16)) (.cons (.lit (.int 1)) .nil))) .nil)) .nil)))) (.lit (.int 1)))
  .nil)) (.cons (.ite (.cmp .eq (.var 14) (.lit (.int 1))) (.cons (.asg (.sub (.var 8) (.tup (.cons (.var 12) (.cons (.var 15) .nil)))) (.bin .add (.lit (.int 1)) (.call .kep d (.cons (.var 0) (.cons (.var 3) .nil)))))
  .nil) (.cons (.asg (.sub (.var 7) (.tup (.cons (.var 12) (.cons (.var 15) .nil)))) (.bin .add (.lit (.int 1)) (.call .kep d (.cons (.var 0) (.cons (.var 3) .nil)))))
  .nil))
  .nil))
  .nil)))))))))
  (.cons (.gz 7)
  (.cons (.asg (.nm 10) (.lc false (.tup (.cons (.lit (.str "add")) (.cons (.ix (.var 17) (.lit (.int 0))) (.cons (.ix (.var 7) (.var 17)) (.cons (.ix (.var 17) (.lit (.int 1))) .nil))))) [17] (.nm 17) (.seq (.var 7)) .none))
  (.cons (.gz 8)
  (.cons (.asg (.nm 10) (.bin .add (.var 10) (.lc false (.tup (.cons (.lit (.str "lift")) (.cons (.ix (.var 17) (.lit (.int 0))) (.cons (.ix (.var 8) (.var 17)) (.cons (.ix (.var 17) (.lit (.int 1))) .nil))))) [17] (.nm 17) (.seq (.var 8)) .none)))
  (.cons (.ret (.blt .tuple (.cons (.blt (.sorted false) (.cons (.var 10) .nil)) .nil)))
  .nil))))))))))
structure FlI (xs : List Str) (top : Int) (n a b : Nat) (st0 s : Sto) (A L : List ((Str × Pr) × Int)) (i : Nat) : Prop where
  af : After n st0 s
  ha : st0.length ≤ a
  hb : st0.length ≤ b
  an : a ≠ n
  bn : b ≠ n
  ab : a ≠ b
  la : s[a]? = some (kvp kap2 P.int A)
  lb : s[b]? = some (kvp kap2 P.int L)
  na : (A.map (·.1)).Nodup
  nb : (L.map (·.1)).Nodup
  ma : ∀ q ∈ A, RowOk xs top ⟨true, q.1.1, q.2, q.1.2⟩
  mb : ∀ q ∈ L, RowOk xs top ⟨false, q.1.1, q.2, q.1.2⟩
  sz : A.length + L.length ≤ i
section
variable {xs : List Str} {top : Int} {n a b : Nat} {st0 s s' : Sto} {A L : List ((Str × Pr) × Int)} {i : Nat}
theorem FlI.draw (I : FlI xs top n a b st0 s A L i) (z : After n s s') : FlI xs top n a b st0 s' A L i := ⟨I.af.trans z, I.ha, I.hb, I.an, I.bn, I.ab, z.at_ I.la I.an, z.at_ I.lb I.bn, I.na, I.nb, I.ma, I.mb, I.sz⟩
theorem FlI.putL (I : FlI xs top n a b st0 s A L i) {k : Str × Pr} {v : Int} (ok : RowOk xs top ⟨false, k.1, v, k.2⟩) : FlI xs top n a b st0 (s.set b (kvp kap2 P.int (aput L k v))) A (aput L k v) (i + 1) :=
  ⟨I.af.put I.hb I.bn.symm _, I.ha, I.hb, I.an, I.bn, I.ab, set_at I.la I.ab.symm, set_self I.lb, I.na, aput_nodup I.nb, I.ma, fun q hq => by
    rcases aput_mem hq with rfl | ⟨hq, _⟩
    · exact ok
    · exact I.mb q hq, by have := aput_len L k v; have := I.sz; omega⟩
end
end PyM
namespace PyM
open PySem
theorem isi_non_bool (st : Sto) : isAny (.p (P.non)) st [.ty "bool"] = some false := rfl
theorem isi_non_int (st : Sto) : isAny (.p (P.non)) st [.ty "int"] = some false := rfl
theorem isi_non_str (st : Sto) : isAny (.p (P.non)) st [.ty "str"] = some false := rfl
theorem isi_non_tuple (st : Sto) : isAny (.p (P.non)) st [.ty "tuple"] = some false := rfl
theorem isi_non_list (st : Sto) : isAny (.p (P.non)) st [.ty "list"] = some false := rfl
theorem isi_non_dict (st : Sto) : isAny (.p (P.non)) st [.ty "dict"] = some false := rfl
theorem isi_bl_bool (b : Bool) (st : Sto) : isAny (.p (P.bl b)) st [.ty "bool"] = some true := rfl
theorem isi_bl_int (b : Bool) (st : Sto) : isAny (.p (P.bl b)) st [.ty "int"] = some true := rfl
theorem isi_bl_str (b : Bool) (st : Sto) : isAny (.p (P.bl b)) st [.ty "str"] = some false := rfl
theorem isi_bl_tuple (b : Bool) (st : Sto) : isAny (.p (P.bl b)) st [.ty "tuple"] = some false := rfl
theorem isi_bl_list (b : Bool) (st : Sto) : isAny (.p (P.bl b)) st [.ty "list"] = some false := rfl
theorem isi_bl_dict (b : Bool) (st : Sto) : isAny (.p (P.bl b)) st [.ty "dict"] = some false := rfl
theorem isi_int_bool (i : Int) (st : Sto) : isAny (.p (P.int i)) st [.ty "bool"] = some false := rfl
theorem isi_int_int (i : Int) (st : Sto) : isAny (.p (P.int i)) st [.ty "int"] = some true := rfl
theorem isi_int_str (i : Int) (st : Sto) : isAny (.p (P.int i)) st [.ty "str"] = some false := rfl
theorem isi_int_tuple (i : Int) (st : Sto) : isAny (.p (P.int i)) st [.ty "tuple"] = some false := rfl
theorem isi_int_list (i : Int) (st : Sto) : isAny (.p (P.int i)) st [.ty "list"] = some false := rfl
theorem isi_int_dict (i : Int) (st : Sto) : isAny (.p (P.int i)) st [.ty "dict"] = some false := rfl
theorem isi_str_bool (x : Str) (st : Sto) : isAny (.p (P.str x)) st [.ty "bool"] = some false := rfl
theorem isi_str_int (x : Str) (st : Sto) : isAny (.p (P.str x)) st [.ty "int"] = some false := rfl
theorem isi_str_str (x : Str) (st : Sto) : isAny (.p (P.str x)) st [.ty "str"] = some true := rfl
theorem isi_str_tuple (x : Str) (st : Sto) : isAny (.p (P.str x)) st [.ty "tuple"] = some false := rfl
theorem isi_str_list (x : Str) (st : Sto) : isAny (.p (P.str x)) st [.ty "list"] = some false := rfl
theorem isi_str_dict (x : Str) (st : Sto) : isAny (.p (P.str x)) st [.ty "dict"] = some false := rfl
theorem isi_tup_bool (xs : List P) (st : Sto) : isAny (.p (P.tup xs)) st [.ty "bool"] = some false := rfl
theorem isi_tup_int (xs : List P) (st : Sto) : isAny (.p (P.tup xs)) st [.ty "int"] = some false := rfl
theorem isi_tup_str (xs : List P) (st : Sto) : isAny (.p (P.tup xs)) st [.ty "str"] = some false := rfl
theorem isi_tup_tuple (xs : List P) (st : Sto) : isAny (.p (P.tup xs)) st [.ty "tuple"] = some true := rfl
theorem isi_tup_list (xs : List P) (st : Sto) : isAny (.p (P.tup xs)) st [.ty "list"] = some false := rfl
theorem isi_tup_dict (xs : List P) (st : Sto) : isAny (.p (P.tup xs)) st [.ty "dict"] = some false := rfl
theorem isi_lst_bool (xs : List P) (st : Sto) : isAny (.p (P.lst xs)) st [.ty "bool"] = some false := rfl
theorem isi_lst_int (xs : List P) (st : Sto) : isAny (.p (P.lst xs)) st [.ty "int"] = some false := rfl
theorem isi_lst_str (xs : List P) (st : Sto) : isAny (.p (P.lst xs)) st [.ty "str"] = some false := rfl
theorem isi_lst_tuple (xs : List P) (st : Sto) : isAny (.p (P.lst xs)) st [.ty "tuple"] = some false := rfl
theorem isi_lst_list (xs : List P) (st : Sto) : isAny (.p (P.lst xs)) st [.ty "list"] = some true := rfl
theorem isi_lst_dict (xs : List P) (st : Sto) : isAny (.p (P.lst xs)) st [.ty "dict"] = some false := rfl
theorem isi_dct_bool (kvs : List (P × P)) (st : Sto) : isAny (.p (P.dct kvs)) st [.ty "bool"] = some false := rfl
theorem isi_dct_int (kvs : List (P × P)) (st : Sto) : isAny (.p (P.dct kvs)) st [.ty "int"] = some false := rfl
theorem isi_dct_str (kvs : List (P × P)) (st : Sto) : isAny (.p (P.dct kvs)) st [.ty "str"] = some false := rfl
theorem isi_dct_tuple (kvs : List (P × P)) (st : Sto) : isAny (.p (P.dct kvs)) st [.ty "tuple"] = some false := rfl
theorem isi_dct_list (kvs : List (P × P)) (st : Sto) : isAny (.p (P.dct kvs)) st [.ty "list"] = some false := rfl
theorem isi_dct_dict (kvs : List (P × P)) (st : Sto) : isAny (.p (P.dct kvs)) st [.ty "dict"] = some true := rfl
theorem evtZQ0 : type_of% (And.intro @isi_non_bool (And.intro @isi_non_int (And.intro @isi_non_str (And.intro @isi_non_tuple (And.intro @isi_non_list (And.intro @isi_non_dict (And.intro @isi_bl_bool (And.intro @isi_bl_int (And.intro @isi_bl_str (And.intro @isi_bl_tuple (And.intro @isi_bl_list (And.intro @isi_bl_dict (And.intro @isi_int_bool (And.intro @isi_int_int (And.intro @isi_int_str (And.intro @isi_int_tuple (And.intro @isi_int_list (And.intro @isi_int_dict (And.intro @isi_str_bool (And.intro @isi_str_int (And.intro @isi_str_str (And.intro @isi_str_tuple (And.intro @isi_str_list (And.intro @isi_str_dict (@isi_tup_bool))))))))))))))))))))))))) := And.intro @isi_non_bool (And.intro @isi_non_int (And.intro @isi_non_str (And.intro @isi_non_tuple (And.intro @isi_non_list (And.intro @isi_non_dict (And.intro @isi_bl_bool (And.intro @isi_bl_int (And.intro @isi_bl_str (And.intro @isi_bl_tuple (And.intro @isi_bl_list (And.intro @isi_bl_dict (And.intro @isi_int_bool (And.intro @isi_int_int (And.intro @isi_int_str (And.intro @isi_int_tuple (And.intro @isi_int_list (And.intro @isi_int_dict (And.intro @isi_str_bool (And.intro @isi_str_int (And.intro @isi_str_str (And.intro @isi_str_tuple (And.intro @isi_str_list (And.intro @isi_str_dict (@isi_tup_bool))))))))))))))))))))))))
theorem evtZQ1 : type_of% (And.intro @isi_tup_int (And.intro @isi_tup_str (And.intro @isi_tup_tuple (And.intro @isi_tup_list (And.intro @isi_tup_dict (And.intro @isi_lst_bool (And.intro @isi_lst_int (And.intro @isi_lst_str (And.intro @isi_lst_tuple (And.intro @isi_lst_list (And.intro @isi_lst_dict (And.intro @isi_dct_bool (And.intro @isi_dct_int (And.intro @isi_dct_str (And.intro @isi_dct_tuple (And.intro @isi_dct_list (@isi_dct_dict))))))))))))))))) := And.intro @isi_tup_int (And.intro @isi_tup_str (And.intro @isi_tup_tuple (And.intro @isi_tup_list (And.intro @isi_tup_dict (And.intro @isi_lst_bool (And.intro @isi_lst_int (And.intro @isi_lst_str (And.intro @isi_lst_tuple (And.intro @isi_lst_list (And.intro @isi_lst_dict (And.intro @isi_dct_bool (And.intro @isi_dct_int (And.intro @isi_dct_str (And.intro @isi_dct_tuple (And.intro @isi_dct_list (@isi_dct_dict))))))))))))))))
theorem ixTm (f : α → P) (xs : List α) (i : Nat) (st : Sto) : ixD st (.p (.tup (xs.map f))) (.p (.int (i : Int))) = (xs[i]?).map fun x => .p (f x) := by
  show (L2.atI (xs.map f) (i : Int)).map D.p = _
  unfold L2.atI L2.ixN
  rw [List.length_map, if_pos (by omega)]
  by_cases h : i < xs.length
  · rw [if_pos (by omega)]
    show ((xs.map f)[((i : Nat) : Int).toNat]?).map D.p = _
    rw [Int.toNat_natCast, List.getElem?_map, Option.map_map]
    rfl
  · rw [if_neg (by omega), List.getElem?_eq_none (by omega)]
    rfl
theorem pi1_0 (q : Str × Int) (st : Sto) : ixD st (.p (pi1 q)) (.p (.int 0)) = some (.p (.str q.1)) := rfl
theorem pi1_1 (q : Str × Int) (st : Sto) : ixD st (.p (pi1 q)) (.p (.int 1)) = some (.p (.int q.2)) := rfl
/-! ### integers -/
/-- slots: 0 thing -/
def isIntB : Sts := (.cons (.ret (.and (.isi (.var 0) [.ty "int"]) (.not (.isi (.var 0) [.ty "bool"]))))
  .nil)
mutual
def P.tame : P → Bool
  | .ty _ => false
  | .scr _ => false
  | .ins _ _ => false
  | .tup xs => P.tames xs
  | _ => true
def P.tames : List P → Bool
  | [] => true
  | x :: xs => P.tame x && P.tames xs
end
def IntAt (cf : CF) (j : Nat) : Prop := ∀ t : P, t.tame = true → cf j [.p t] [] = .ok (.p (.bl (match t with | .int _ => true | _ => false))) []
theorem int_at {cf : CF} {j : Nat} {cf0 : CF} {f : Fn} (hf : f.np = 1 ∧ f.ns = 1 ∧ f.body = isIntB) (h : ∀ ds st, cf j ds st = runFn cf0 f ds st) : IntAt cf j := by
  intro t ht
  rw [h]
  refine run_rt (env := [some (.p t)]) (by rw [hf.1]; rfl) (by rw [hf.2.1]; rfl) ?_
  rw [hf.2.2]
  unfold isIntB
  cases t <;> first | (cases ht; done) | (simp -implicitDefEqProofs only [↓evZP, evZQ0, evZQ1, evZQ2, evZQ3, evZQ4, evZQ5, List.getElem?_cons_zero, List.getElem?_cons_succ, List.set_cons_zero, List.set_cons_succ, Option.map_some, Option.bind_some, Option.bind_none, Option.map_none, ite_true, ite_false, if_true, if_false, Bool.not_true, Bool.not_false, decide_true, decide_false, Bool.false_eq_true, decide_eq_true_eq, Bool.not_eq_true', decide_eq_false_iff_not, callM, pureL, Bool.and_true, Bool.true_and, Bool.and_false, Bool.false_and, Option.toList, Int.natCast_zero, Int.cast_ofNat_Int, not_true_eq_false, not_false_eq_true, Int.reduceEq, Int.reduceLT, Int.reduceLE, Int.reduceNe, Nat.reduceAdd, evtZQ0, evtZQ1]; try simp -implicitDefEqProofs only [Res.bindL, Res.thnL, SR.bindL, SR.wpL, Res.wpL, iteS, iteR, chsL])
end PyM
namespace PyM
open PySem
theorem run_eq {cf : CF} {f : Fn} {ds : List D} {st s0 : Sto} {d0 : D} (hn : ds.length = f.np) (h : (dnB cf f.body (ds.map some ++ List.replicate (f.ns - ds.length) none) st).wp (retP fun d s => d = d0 ∧ s = s0)) : runFn cf f ds st = .ok d0 s0 := by
  obtain ⟨d, s, e, rfl, rfl⟩ := run_ok hn h
  exact e
theorem take_succ' {α : Type} {xs : List α} {i : Nat} {a : α} (h : xs[i]? = some a) : xs.take (i + 1) = xs.take i ++ [a] := by
  rw [List.take_succ, h]
  rfl
end PyM
namespace PyM
open PySem
/-! ### drawn loop trees -/
theorem mkL_ps (ks : List P) (st : Sto) : mkL false (ks.map .p) st = .ok (.p (.lst ks)) st := by rw [mkL, pureL_p]
theorem src_pr (l : Pr) (st : Sto) : srcOf st (.p (pr l)) = some (.fix (l.map fun q => .p (pi1 q))) := by
  show some (Src.fix ((l.map pi1).map .p)) = _
  rw [List.map_map]
  rfl
def begP : P := .tup [.str "begin"]
def rowT (i : Nat) (ks : List P) : P := .tup [.str "row", .int (i : Int), .tup ks]
def TT (rs : List Row) : Nat → Str → P → Prop
  | 0, _, t => t = begP
  | n + 1, x, t => t = begP ∨ ∃ (i : Nat) (r : Row) (ks : List P), rs[i]? = some r ∧ r.x = x ∧ t = rowT i ks ∧ ks.length = r.p.length ∧ ∀ (j : Nat) (q : Str × Int) (k : P), r.p[j]? = some q → ks[j]? = some k → TT rs n q.1 k
section
variable {E : Nat → CF} {j d : Nat} {rs : List Row} {nm : P}
end
end PyM
namespace PyM
open PySem
/-! ### odd things -/
def Gd (n : Nat) (p : P) : Prop := p.tame = true ∧ p.depth ≤ n
end PyM
namespace PyM
open PySem
theorem Gd.mono {m n : Nat} {p : P} (h : Gd m p) (k : m ≤ n) : Gd n p := ⟨h.1, Nat.le_trans h.2 k⟩
section
variable {E : Nat → CF} {j d o : Nat} {rs : List Row}
end
end PyM
namespace PyM
open PySem

/-! ### products multiplied -/
def addTo (ps : List (Str × Int)) (q : Str × Int) : List (Str × Int) := aput ps q.1 ((aget ps q.1).getD 0 + q.2)
def putTo (ps : List (Str × Int)) (q : Str × Int) : List (Str × Int) := aput ps q.1 q.2
noncomputable def srt (xs : List Str) : List Str := (sorted_map P.str xs).choose
theorem srt_eq (xs : List Str) : sorted (xs.map P.str) = (srt xs).map P.str := (sorted_map P.str xs).choose_spec.1
theorem srt_perm (xs : List Str) : (srt xs).Perm xs := (sorted_map P.str xs).choose_spec.2
noncomputable def prOf (ps : List (Str × Int)) : Pr := (srt (ps.map (·.1))).map fun y => (y, (aget ps y).getD 0)
structure PrS (S : List Str) (l : Pr) : Prop where
  nd : (l.map (·.1)).Nodup
  mem : ∀ q ∈ l, q.1 ∈ S
theorem PrS.len {S : List Str} {l : Pr} (h : PrS S l) : l.length ≤ S.length := by
  have := List.Nodup.length_le_of_subset (l₂ := S) h.nd fun x hx => by
    obtain ⟨q, hq, rfl⟩ := List.mem_map.mp hx
    exact h.mem q hq
  rwa [List.length_map] at this
theorem PrS.nil (S : List Str) : PrS S [] := ⟨List.nodup_nil, fun _ h => nomatch h⟩
section
variable {cf cf0 : CF} {j : Nat} {f : Fn} {S : List Str} {a b : Pr}
end
end PyM
namespace PyM
open PySem

/-! ### products of loop trees -/
section
variable {E : Nat → CF} {jl jt m r m' r' : Nat} {f f' : Fn} {rs : List Row} {S xs : List Str} {top : Int} {nm : P}
end
end PyM
namespace Sx
/-! ### sums -/
def sm : Nat → (Nat → Int) → Int
  | 0, _ => 0
  | n + 1, f => sm n f + f n
theorem sm_congr {n : Nat} {f g : Nat → Int} (h : ∀ k, k < n → f k = g k) : sm n f = sm n g := by
  induction n with
  | zero => rfl
  | succ n ih => rw [sm, sm, ih fun k hk => h k (by omega), h n (by omega)]
theorem sm_zero {n : Nat} {f : Nat → Int} (h : ∀ k, k < n → f k = 0) : sm n f = 0 := by
  induction n with
  | zero => rfl
  | succ n ih => rw [sm, ih fun k hk => h k (by omega), h n (by omega)]; rfl
theorem sm_lin (n : Nat) (a b : Int) (f g : Nat → Int) : sm n (fun k => a * f k + b * g k) = a * sm n f + b * sm n g := by
  induction n with
  | zero => simp [sm]
  | succ n ih => simp only [sm, ih]; grind
theorem sm_mul (n : Nat) (a : Int) (f : Nat → Int) : sm n (fun k => a * f k) = a * sm n f := by
  induction n with
  | zero => simp [sm]
  | succ n ih => simp only [sm, ih]; grind
theorem sm_add (n : Nat) (f g : Nat → Int) : sm n (fun k => f k + g k) = sm n f + sm n g := by
  induction n with
  | zero => simp [sm]
  | succ n ih => simp only [sm, ih]; grind
theorem sm_one {n r : Nat} {f : Nat → Int} (hr : r < n) (h : ∀ k, k < n → k ≠ r → f k = 0) : sm n f = f r := by
  induction n with
  | zero => omega
  | succ n ih =>
    rw [sm]
    by_cases e : r = n
    · subst e
      rw [sm_zero fun k hk => h k (by omega) (by omega)]; omega
    · rw [ih (by omega) fun k hk => h k (by omega), h n (by omega) (by omega)]; omega
theorem sm_two {n r s : Nat} {f : Nat → Int} (hr : r < s) (hs : s < n) (h : ∀ k, k < n → k ≠ r → k ≠ s → f k = 0) : sm n f = f r + f s := by
  induction n with
  | zero => omega
  | succ n ih =>
    rw [sm]
    by_cases e : s = n
    · subst e
      rw [sm_one hr fun k hk e => h k (by omega) e (by omega)]
    · rw [ih (by omega) fun k hk => h k (by omega), h n (by omega) (by omega) (by omega)]; omega
theorem sm_nonneg {n : Nat} {f : Nat → Int} (h : ∀ k, k < n → 0 ≤ f k) : 0 ≤ sm n f := by
  induction n with
  | zero => exact Int.le_refl _
  | succ n ih => rw [sm]; have := ih fun k hk => h k (by omega); have := h n (by omega); omega
theorem sm_le {n : Nat} {f g : Nat → Int} (h : ∀ k, k < n → f k ≤ g k) : sm n f ≤ sm n g := by
  induction n with
  | zero => exact Int.le_refl _
  | succ n ih => rw [sm, sm]; have := ih fun k hk => h k (by omega); have := h n (by omega); omega
/-! ### determinants -/
def up {α : Type} (B : Nat → α) (r : Nat) (v : α) : Nat → α := fun k => if k = r then v else B k
theorem up_same {α : Type} (B : Nat → α) (r : Nat) (v : α) : up B r v r = v := if_pos rfl
theorem up_ne {α : Type} (B : Nat → α) {r k : Nat} (v : α) (h : k ≠ r) : up B r v k = B k := if_neg h
theorem up_self {α : Type} (B : Nat → α) (r : Nat) : up B r (B r) = B := by
  funext k
  by_cases e : k = r
  · rw [e, up_same]
  · rw [up_ne _ _ e]
theorem up_up {α : Type} (B : Nat → α) (r : Nat) (v w : α) : up (up B r v) r w = up B r w := by
  funext k
  by_cases e : k = r
  · rw [e, up_same, up_same]
  · rw [up_ne _ _ e, up_ne _ _ e, up_ne _ _ e]
theorem up_comm {α : Type} (B : Nat → α) {r s : Nat} (h : r ≠ s) (v w : α) : up (up B r v) s w = up (up B s w) r v := by
  funext k
  by_cases e : k = r
  · subst e
    rw [up_ne _ _ h, up_same, up_same]
  · by_cases e2 : k = s
    · subst e2; rw [up_same, up_ne _ _ e, up_same]
    · rw [up_ne _ _ e2, up_ne _ _ e, up_ne _ _ e, up_ne _ _ e2]
def skip (k j : Nat) : Nat := if j < k then j else j + 1
def sg : Nat → Int
  | 0 => 1
  | n + 1 => -sg n
abbrev Vec := Nat → Int
def det : Nat → (Nat → Vec) → Int
  | 0, _ => 1
  | m + 1, B => sm (m + 1) fun k => sg (m + k) * B k m * det m fun j => B (skip k j)
theorem skip_ne (k j : Nat) : skip k j ≠ k := by unfold skip; split <;> omega
theorem skip_lt {k j m : Nat} (hk : k < m + 1) (hj : j < m) : skip k j < m + 1 := by unfold skip; split <;> omega
theorem det_congr : ∀ {m : Nat} {B C : Nat → Vec}, (∀ k i, k < m → i < m → B k i = C k i) → det m B = det m C
  | 0, _, _, _ => rfl
  | m + 1, B, C, h => by
    rw [det, det]
    refine sm_congr fun k hk => ?_
    rw [h k m hk (by omega), det_congr fun j i hj hi => h (skip k j) i (skip_lt hk hj) (by omega)]
theorem skip_up {α : Type} (B : Nat → α) {k r : Nat} (v : α) (h : k ≠ r) : (fun j => up B r v (skip k j)) = up (fun j => B (skip k j)) (if r < k then r else r - 1) v := by
  funext j
  unfold up skip
  dsimp only
  by_cases e : r < k
  · rw [if_pos e]
    by_cases e1 : j < k
    · rw [if_pos e1]
    · rw [if_neg e1, if_neg (by omega), if_neg (by omega)]
  · rw [if_neg e]
    by_cases e1 : j < k
    · rw [if_pos e1, if_neg (by omega), if_neg (by omega)]
    · rw [if_neg e1]
      by_cases e2 : j + 1 = r
      · rw [if_pos e2, if_pos (by omega)]
      · rw [if_neg e2, if_neg (by omega)]
theorem skip_up_same {α : Type} (B : Nat → α) (k : Nat) (v : α) : (fun j => up B k v (skip k j)) = fun j => B (skip k j) := by
  funext j
  exact up_ne _ _ (skip_ne k j)
theorem det_lin : ∀ {m : Nat} (B : Nat → Vec) {r : Nat} (a b : Int) (u v : Vec), r < m → det m (up B r fun i => a * u i + b * v i) = a * det m (up B r u) + b * det m (up B r v)
  | 0, _, _, _, _, _, _, h => by omega
  | m + 1, B, r, a, b, u, v, hr => by
    rw [det, det, det, ← sm_lin]
    refine sm_congr fun k hk => ?_
    by_cases e : k = r
    · subst e
      rw [skip_up_same, skip_up_same, skip_up_same, up_same, up_same, up_same]
      grind
    · rw [skip_up _ _ e, skip_up _ _ e, skip_up _ _ e, up_ne _ _ e, up_ne _ _ e, up_ne _ _ e, det_lin (fun j => B (skip k j)) a b u v (by split <;> omega)]
      grind
theorem det_zero {m : Nat} (B : Nat → Vec) {r : Nat} (hr : r < m) : det m (up B r fun _ => 0) = 0 := by
  have := det_lin B 0 0 (fun _ => 0) (fun _ => 0) hr
  simpa using this
theorem det_sum {m : Nat} (B : Nat → Vec) {r : Nat} (hr : r < m) (t : Nat → Int) (C : Nat → Vec) : ∀ n : Nat, det m (up B r fun i => sm n fun k => t k * C k i) = sm n fun k => t k * det m (up B r (C k))
  | 0 => by simp only [sm]; exact det_zero B hr
  | n + 1 => by
    have := det_lin B 1 (t n) (fun i => sm n fun k => t k * C k i) (C n) hr
    rw [det_sum B hr t C n] at this
    simp only [Int.one_mul] at this
    exact this
theorem det_adj : ∀ {m : Nat} (B : Nat → Vec) {r : Nat}, r + 1 < m → (∀ i, i < m → B r i = B (r + 1) i) → det m B = 0
  | 0, _, _, h, _ => by omega
  | m + 1, B, r, hr, he => by
    rw [det, sm_two (r := r) (s := r + 1) (by omega) hr fun k hk h1 h2 => ?_]
    · have e1 : (det m fun j => B (skip r j)) = det m fun j => B (skip (r + 1) j) := det_congr fun j i hj hi => by
        by_cases e : j = r
        · subst e
          rw [show skip j j = j + 1 by unfold skip; rw [if_neg (by omega)], show skip (j + 1) j = j by unfold skip; rw [if_pos (by omega)]]
          exact (he i (by omega)).symm
        · have : skip r j = skip (r + 1) j := by unfold skip; split <;> split <;> omega
          rw [this]
      rw [e1, he m (by omega), show sg (m + (r + 1)) = - sg (m + r) from rfl]
      grind
    · have : (det m fun j => B (skip k j)) = 0 := by
        by_cases e : k < r
        · refine det_adj (r := r - 1) _ (by omega) fun i hi => ?_
          rw [show skip k (r - 1) = r by unfold skip; rw [if_neg (by omega)]; omega, show skip k (r - 1 + 1) = r + 1 by unfold skip; rw [if_neg (by omega)]; omega]
          exact he i (by omega)
        · refine det_adj (r := r) _ (by omega) fun i hi => ?_
          rw [show skip k r = r by unfold skip; rw [if_pos (by omega)], show skip k (r + 1) = r + 1 by unfold skip; rw [if_pos (by omega)]]
          exact he i (by omega)
      rw [this]; simp
/-- neighbours swapped -/
theorem det_swap1 {m : Nat} (B : Nat → Vec) {r : Nat} (hr : r + 1 < m) (u v : Vec) : det m (up (up B r u) (r + 1) v) = - det m (up (up B r v) (r + 1) u) := by
  have a : ∀ w : Vec, det m (up (up B r w) (r + 1) w) = 0 := fun w => det_adj _ hr fun i _ => by rw [up_ne _ _ (by omega), up_same, up_same]
  have e0 := a fun i => 1 * u i + 1 * v i
  rw [det_lin _ 1 1 u v hr, up_comm _ (by omega), up_comm B (by omega : r ≠ r + 1) _ v, det_lin _ 1 1 u v (by omega), det_lin _ 1 1 u v (by omega), up_comm B (by omega : r + 1 ≠ r), up_comm B (by omega : r + 1 ≠ r),
    up_comm B (by omega : r + 1 ≠ r), up_comm B (by omega : r + 1 ≠ r), a u, a v] at e0
  omega
/-- two columns alike -/
theorem det_alike {m : Nat} : ∀ (d : Nat) (B : Nat → Vec) {r : Nat}, r + 1 + d < m → (∀ i, i < m → B r i = B (r + 1 + d) i) → det m B = 0
  | 0, B, r, h, he => det_adj B h he
  | d + 1, B, r, h, he => by
    have e1 := det_swap1 B (r := r + 1 + d) (by omega) (B (r + 1 + d)) (B (r + 1 + d + 1))
    rw [up_self, up_self] at e1
    rw [e1, det_alike d (up (up B (r + 1 + d) (B (r + 1 + d + 1))) (r + 1 + d + 1) (B (r + 1 + d))) (r := r) (by omega) fun i hi => ?_]
    · rfl
    · rw [up_ne _ _ (by omega), up_ne _ _ (by omega), up_ne _ _ (by omega), up_same]
      exact he i hi
theorem det_same {m : Nat} (B : Nat → Vec) {r s : Nat} (h : r ≠ s) (hr : r < m) (hs : s < m) (he : ∀ i, i < m → B r i = B s i) : det m B = 0 := by
  by_cases e : r < s
  · refine det_alike (s - r - 1) B (r := r) (by omega) fun i hi => ?_
    rw [show r + 1 + (s - r - 1) = s by omega]
    exact he i hi
  · refine det_alike (r - s - 1) B (r := s) (by omega) fun i hi => ?_
    rw [show s + 1 + (r - s - 1) = r by omega]
    exact (he i hi).symm
theorem det_swap {m : Nat} (B : Nat → Vec) {r s : Nat} (h : r ≠ s) (hr : r < m) (hs : s < m) (u v : Vec) : det m (up (up B r u) s v) = - det m (up (up B r v) s u) := by
  have a : ∀ w : Vec, det m (up (up B r w) s w) = 0 := fun w => det_same _ h hr hs fun i _ => by rw [up_ne _ _ h, up_same, up_same]
  have e0 := a fun i => 1 * u i + 1 * v i
  rw [det_lin _ 1 1 u v hs, up_comm _ h, up_comm B h _ v, det_lin _ 1 1 u v hr, det_lin _ 1 1 u v hr, up_comm B (Ne.symm h), up_comm B (Ne.symm h),
    up_comm B (Ne.symm h), up_comm B (Ne.symm h), a u, a v] at e0
  omega
def unit (k : Nat) : Vec := fun i => if i = k then 1 else 0
end Sx
namespace Sx
theorem sm_two' {n r s : Nat} {f : Nat → Int} (h : r ≠ s) (hr : r < n) (hs : s < n) (z : ∀ k, k < n → k ≠ r → k ≠ s → f k = 0) : sm n f = f r + f s := by
  by_cases e : r < s
  · exact sm_two e hs z
  · rw [sm_two (by omega : s < r) hr fun k hk a b => z k hk b a]; omega
theorem sm_off {n r : Nat} {f g : Nat → Int} (hr : r < n) (h : ∀ k, k < n → k ≠ r → f k = g k) : sm n f = sm n g + (f r - g r) := by
  induction n with
  | zero => omega
  | succ n ih =>
    rw [sm, sm]
    by_cases e : r = n
    · subst e
      rw [sm_congr fun k hk => h k (by omega) (by omega)]; omega
    · rw [ih (by omega) fun k hk => h k (by omega), h n (by omega) (by omega)]; omega
/-- Cramer's rule -/
def Cram (m : Nat) (B : Nat → Vec) : Prop := ∀ (v : Vec) (i : Nat), i < m → det m B * v i = sm m fun k => det m (up B k v) * B k i
/-- what a pivot does to the other rows -/
theorem piv {m : Nat} {B : Nat → Vec} (C : Cram m B) {r i : Nat} (h : r ≠ i) (hr : r < m) (hi : i < m) (v w : Vec) :
    det m B * det m (up (up B r w) i v) = det m (up B i v) * det m (up B r w) - det m (up B i w) * det m (up B r v) := by
  have e1 : det m (up (up B r w) i fun a => det m B * v a + 0 * v a) = det m B * det m (up (up B r w) i v) := by
    rw [det_lin _ _ _ v v hi]; omega
  rw [← e1]
  have e2 : det m (up (up B r w) i fun a => det m B * v a + 0 * v a) = det m (up (up B r w) i fun a => sm m fun k => det m (up B k v) * B k a) := det_congr fun k a hk ha => by
    by_cases q : k = i
    · subst q
      rw [up_same, up_same, ← C v a ha]; omega
    · rw [up_ne _ _ q, up_ne _ _ q]
  rw [e2, det_sum _ hi (fun k => det m (up B k v)) B m, sm_two' h hr hi fun k hk h1 h2 => by
    rw [det_same (up (up B r w) i (B k)) h2 hk hi fun a _ => by rw [up_ne _ _ h2, up_ne _ _ h1, up_same]]; simp]
  have e3 : up (up B r w) i (B i) = up B r w := by
    rw [up_comm _ h, up_self]
  rw [e3, det_swap B h hr hi w (B r), up_self]
  grind
theorem cram_up {m : Nat} {B : Nat → Vec} (C : Cram m B) (hL : det m B ≠ 0) {r : Nat} (hr : r < m) (w : Vec) : Cram m (up B r w) := fun v i hi => by
  have e : det m B * (sm m fun k => det m (up (up B r w) k v) * up B r w k i) = det m B * (det m (up B r w) * v i) := by
    rw [← sm_mul]
    rw [sm_off (g := fun k => det m (up B r w) * (det m (up B k v) * B k i) + (- det m (up B r v)) * (det m (up B k w) * B k i)) hr fun k hk hne => by
      rw [up_ne _ _ hne]
      have := piv C (Ne.symm hne) hr hk v w
      grind]
    rw [sm_lin, ← C v i hi, ← C w i hi, up_up, up_same]
    grind
  exact (Int.eq_of_mul_eq_mul_left hL e).symm
end Sx
namespace Sx
section
variable (m N : Nat) (M : Nat → Vec)
def Bs (b : Nat → Nat) : Nat → Vec := fun k => if k < m then M (b k) else unit k
def Tb (b : Nat → Nat) (i j : Nat) : Int := det (m + 1) (up (Bs m M b) i (M j))
def Lb (b : Nat → Nat) : Int := det (m + 1) (Bs m M b)
structure Inv (b : Nat → Nat) : Prop where
  cr : Cram (m + 1) (Bs m M b)
  pos : 0 < Lb m M b
  lt : ∀ k, k < m → b k < N
  nn : ∀ k, k < m → 0 ≤ Tb m M b k N
structure Pv (b : Nat → Nat) (r c : Nat) : Prop where
  hr : r < m
  hc : c < N
  ent : Tb m M b m c < 0
  fst : ∀ j, j < c → 0 ≤ Tb m M b m j
  pos : 0 < Tb m M b r c
  mn : ∀ k, k < m → 0 < Tb m M b k c → Tb m M b r N * Tb m M b k c ≤ Tb m M b k N * Tb m M b r c
  tie : ∀ k, k < m → 0 < Tb m M b k c → Tb m M b r N * Tb m M b k c = Tb m M b k N * Tb m M b r c → b r ≤ b k
end
section
variable {m N : Nat} {M : Nat → Vec} {b : Nat → Nat} {r c : Nat}
theorem Bs_up (hr : r < m) : Bs m M (up b r c) = up (Bs m M b) r (M c) := by
  funext k
  unfold Bs
  by_cases e : k = r
  · subst e
    rw [if_pos hr, up_same, up_same]
  · rw [up_ne _ _ e, up_ne _ _ e]
theorem Tb_r (hr : r < m) (j : Nat) : Tb m M (up b r c) r j = Tb m M b r j := by
  unfold Tb
  rw [Bs_up hr, up_up]
theorem Lb_up (hr : r < m) : Lb m M (up b r c) = Tb m M b r c := by
  unfold Lb Tb
  rw [Bs_up hr]
theorem Inv.tb (I : Inv m N M b) (hr : r < m) {i : Nat} (hi : i < m + 1) (h : i ≠ r) (j : Nat) : Lb m M b * Tb m M (up b r c) i j = Tb m M b i j * Tb m M b r c - Tb m M b i c * Tb m M b r j := by
  unfold Tb Lb
  rw [Bs_up hr]
  exact piv I.cr (Ne.symm h) (by omega) hi (M j) (M c)
theorem Inv.step (I : Inv m N M b) (P : Pv m N M b r c) : Inv m N M (up b r c) where
  cr := by rw [Bs_up P.hr]; exact cram_up I.cr (Int.ne_of_gt I.pos) (Nat.lt_succ_of_lt P.hr) _
  pos := by rw [Lb_up P.hr]; exact P.pos
  lt := fun k hk => by
    by_cases e : k = r
    · rw [e, up_same]; exact P.hc
    · rw [up_ne _ _ e]; exact I.lt k hk
  nn := fun k hk => by
    by_cases e : k = r
    · rw [e, Tb_r P.hr]; exact I.nn r P.hr
    · have h := I.tb P.hr (Nat.lt_succ_of_lt hk) e (c := c) N
      have h2 : 0 ≤ Tb m M b k N * Tb m M b r c - Tb m M b k c * Tb m M b r N := by
        by_cases q : 0 < Tb m M b k c
        · have := P.mn k hk q
          grind
        · have h3 := Int.mul_nonneg (I.nn k hk) (Int.le_of_lt P.pos)
          have h4 := Int.mul_nonneg (show 0 ≤ - Tb m M b k c by omega) (I.nn r P.hr)
          grind
      rw [← h] at h2
      exact Int.nonneg_of_mul_nonneg_right h2 I.pos
end
end Sx
namespace Sx
/-! ### how great a determinant is -/
def fac : Nat → Nat
  | 0 => 1
  | n + 1 => (n + 1) * fac n
/-! ### the choice of the row that leaves -/
def Best (x y : Nat → Int) (b : Nat → Nat) (a : Nat) : Option Nat → Prop
  | none => ∀ k, k < a → y k ≤ 0
  | some r => r < a ∧ 0 < y r ∧ ∀ k, k < a → 0 < y k → x r * y k ≤ x k * y r ∧ (x r * y k = x k * y r → b r ≤ b k)
section
variable {x y : Nat → Int} {b : Nat → Nat} {a r : Nat} {o : Option Nat}
end

/-! ### a run ends -/
def code (N : Nat) (b : Nat → Nat) : Nat → Nat
  | 0 => 0
  | k + 1 => code N b k * N + b k
/-- a run of pivots -/
structure Run (m N : Nat) (M : Nat → Vec) (b : Nat → Nat) (l : Nat) : Prop where
  ex : ∃ (seq : Nat → Nat → Nat) (rr cc : Nat → Nat), Inv m N M (seq 0) ∧ (∀ t, t < l → Pv m N M (seq t) (rr t) (cc t)) ∧ (∀ t, t < l → seq (t + 1) = up (seq t) (rr t) (cc t)) ∧ seq l = b
theorem Run.zero {m N : Nat} {M : Nat → Vec} {b : Nat → Nat} (h : Inv m N M b) : Run m N M b 0 := ⟨fun _ => b, fun _ => 0, fun _ => 0, h, fun t ht => by omega, fun t ht => by omega, rfl⟩
theorem Run.step {m N : Nat} {M : Nat → Vec} {b : Nat → Nat} {l r c : Nat} (h : Run m N M b l) (p : Pv m N M b r c) : Run m N M (up b r c) (l + 1) := by
  obtain ⟨seq, rr, cc, h0, h1, h2, rfl⟩ := h
  have e : ∀ {α : Type} (f : Nat → α) (v : α) (t : Nat), t < l + 1 → up f (l + 1) v t = f t := fun f v t ht => up_ne _ _ (by omega)
  have e' : ∀ {α : Type} (f : Nat → α) (v : α) (t : Nat), t < l → up f l v t = f t := fun f v t ht => up_ne _ _ (by omega)
  refine ⟨up seq (l + 1) (up (seq l) r c), up rr l r, up cc l c, by rw [e _ _ _ (by omega)]; exact h0, fun t ht => ?_, fun t ht => ?_, up_same _ _ _⟩
  · by_cases q : t = l
    · subst q
      rw [e _ _ _ ht, up_same, up_same]
      exact p
    · rw [e _ _ _ ht, e' _ _ _ (by omega), e' _ _ _ (by omega)]
      exact h1 t (by omega)
  · by_cases q : t = l
    · subst q
      rw [up_same, e _ _ _ ht, up_same, up_same]
    · rw [e _ _ _ (by omega), e _ _ _ ht, e' _ _ _ (by omega), e' _ _ _ (by omega)]
      exact h2 t (by omega)
theorem Run.inv {m N : Nat} {M : Nat → Vec} {b : Nat → Nat} {l : Nat} (h : Run m N M b l) : Inv m N M b := by
  obtain ⟨seq, rr, cc, h0, h1, h2, rfl⟩ := h
  have : ∀ t, t ≤ l → Inv m N M (seq t) := fun t => by
    induction t with
    | zero => exact fun _ => h0
    | succ t ih => exact fun h => by rw [h2 t (by omega)]; exact (ih (by omega)).step (h1 t (by omega))
  exact this l (Nat.le_refl _)
end Sx
namespace Sx
/-- the columns of the first table: the letters', the rows', the bounds -/
def col (m n : Nat) (A : Nat → Nat → Int) : Nat → Vec := fun j => if j < n then (fun i => if i < m then A i j else -1) else if j < n + m then unit (j - n) else fun i => if i < m then 1 else 0
section
variable {m n : Nat} {A : Nat → Nat → Int} {b : Nat → Nat}
/-- what a letter is given -/
def ygot (m n : Nat) (A : Nat → Nat → Int) (b : Nat → Nat) (j : Nat) : Int := sm m fun k => if b k = j then Tb m (col m n A) b k (n + m) else 0
end
end Sx
namespace Sx
/-! ### the steps of a greatest common divisor -/
def mu (t o : Nat) : Nat := if o = 0 then 0 else 1 + (t * o).log2 + (if t < o then 1 else 0)
end Sx
namespace Sx
/-! ### what lies below a row: vectors of powers, mixes with repetition -/
section
variable {K : Type}
/-- the sum of a list of vectors at a letter -/
def su (l : List (K → Int)) (y : K) : Int := match l with
  | [] => 0
  | x :: r => x y + su r y
theorem su_nil (y : K) : su ([] : List (K → Int)) y = 0 := rfl
theorem su_cons (x : K → Int) (r : List (K → Int)) (y : K) : su (x :: r) y = x y + su r y := rfl
theorem su_app (y : K) : ∀ a b : List (K → Int), su (a ++ b) y = su a y + su b y
  | [], b => by rw [List.nil_append, su_nil]; omega
  | x :: a, b => by rw [List.cons_append, su_cons, su_cons, su_app y a b]; omega
/-- so many times one behind the other -/
def rp (n : Nat) (l : List (K → Int)) : List (K → Int) := match n with
  | 0 => []
  | n + 1 => l ++ rp n l
theorem rp_len (l : List (K → Int)) : ∀ n, (rp n l).length = n * l.length
  | 0 => by rw [rp, List.length_nil, Nat.zero_mul]
  | n + 1 => by rw [rp, List.length_append, rp_len l n, Nat.succ_mul, Nat.add_comm]
theorem rp_su (l : List (K → Int)) (y : K) : ∀ n : Nat, su (rp n l) y = (n : Int) * su l y
  | 0 => by rw [rp, su_nil]; omega
  | n + 1 => by rw [rp, su_app, rp_su l y n, Int.natCast_succ, Int.add_mul]; omega
theorem rp_mem {l : List (K → Int)} {x : K → Int} : ∀ {n : Nat}, x ∈ rp n l → x ∈ l
  | 0, h => by rw [rp] at h; cases h
  | n + 1, h => by
    rw [rp, List.mem_append] at h
    exact h.elim id rp_mem
theorem mem_rp {l : List (K → Int)} {x : K → Int} (h : x ∈ l) : ∀ {n : Nat}, 0 < n → x ∈ rp n l
  | n + 1, _ => by
    rw [rp, List.mem_append]
    exact .inl h
/-- p lies below the vectors of X -/
def Bel (p : K → Int) (X : (K → Int) → Prop) : Prop := ∃ l : List (K → Int), l ≠ [] ∧ (∀ x ∈ l, X x) ∧ ∀ y, (l.length : Int) * p y ≤ su l y
theorem Bel.le {p q : K → Int} {X : (K → Int) → Prop} (h : Bel q X) (hp : ∀ y, p y ≤ q y) : Bel p X := by
  obtain ⟨l, a, b, c⟩ := h
  refine ⟨l, a, b, fun y => Int.le_trans (Int.mul_le_mul_of_nonneg_left (hp y) (by omega)) (c y)⟩
theorem Bel.of {p : K → Int} {X : (K → Int) → Prop} (h : X p) : Bel p X := ⟨[p], by simp, by simpa using h, fun y => by rw [su_cons, su_nil, List.length_singleton]; omega⟩
theorem Bel.mono {p : K → Int} {X Z : (K → Int) → Prop} (h : Bel p X) (k : ∀ x, X x → Z x) : Bel p Z := by
  obtain ⟨l, a, b, c⟩ := h
  exact ⟨l, a, fun x hx => k x (b x hx), c⟩
theorem Bel.none {p : K → Int} {X : (K → Int) → Prop} (h : Bel p X) : ∃ x, X x := by
  obtain ⟨l, a, b, c⟩ := h
  cases l with
  | nil => exact absurd rfl a
  | cons x l => exact ⟨x, b x (by simp)⟩
/-- each of a list by its own mix, all over one number -/
theorem mixes {Z : (K → Int) → Prop} (t : K → Int) : ∀ l : List (K → Int), (∀ x ∈ l, Bel x Z) → ∃ (M : Nat) (l' : List (K → Int)), 0 < M ∧ (∀ x ∈ l', Z x) ∧ l'.length = M * l.length ∧ (∀ y, (M : Int) * su l y ≤ su l' y) ∧ ((∀ z ∈ l', z = t) → ∀ x ∈ l, ∀ y, x y ≤ t y)
  | [], _ => ⟨1, [], by omega, by simp, by simp, fun y => by rw [su_nil]; omega, by simp⟩
  | x :: l, h => by
    obtain ⟨M, l', hM, h1, h2, h3, h4⟩ := mixes t l fun z hz => h z (List.mem_cons_of_mem _ hz)
    obtain ⟨a, a0, a1, a2⟩ := h x (by simp)
    have an : 0 < a.length := List.length_pos_iff.mpr a0
    refine ⟨M * a.length, rp M a ++ rp a.length l', Nat.mul_pos hM an, ?_, ?_, ?_, ?_⟩
    · intro z hz
      rcases List.mem_append.mp hz with hz | hz
      · exact a1 z (rp_mem hz)
      · exact h1 z (rp_mem hz)
    · rw [List.length_append, rp_len, rp_len, h2, List.length_cons]
      rw [Nat.mul_succ, Nat.mul_comm a.length, Nat.mul_right_comm, Nat.add_comm]
    · intro y
      rw [su_app, rp_su, rp_su, su_cons, Int.mul_add, Int.natCast_mul]
      have b1 := Int.mul_le_mul_of_nonneg_left (a2 y) (show (0 : Int) ≤ M by omega)
      have b2 := Int.mul_le_mul_of_nonneg_left (h3 y) (show (0 : Int) ≤ (a.length : Int) by omega)
      rw [Int.mul_assoc]
      have e : (M : Int) * (a.length : Int) * su l y = (a.length : Int) * ((M : Int) * su l y) := by grind
      omega
    · intro hz w hw y
      rcases List.mem_cons.mp hw with rfl | hw
      · have ea : ∀ b : List (K → Int), (∀ z ∈ b, z = t) → su b y = (b.length : Int) * t y := by
          intro b
          induction b with
          | nil => intro _; rw [su_nil, List.length_nil]; omega
          | cons z b ih =>
            intro hb
            rw [su_cons, ih fun z hz => hb z (List.mem_cons_of_mem _ hz), hb z (by simp), List.length_cons, Int.natCast_succ, Int.add_mul]
            omega
        have := a2 y
        rw [ea a fun z hz' => hz z (List.mem_append_left _ (mem_rp hz' hM))] at this
        exact Int.le_of_mul_le_mul_left this (by omega)
      · exact h4 (fun z hz' => hz z (List.mem_append_right _ (mem_rp hz' an))) w hw y
theorem Bel.trans {p : K → Int} {X Z : (K → Int) → Prop} (h : Bel p X) (k : ∀ x, X x → Bel x Z) : Bel p Z := by
  obtain ⟨l, a, b, c⟩ := h
  obtain ⟨M, l', hM, h1, h2, h3, h4⟩ := mixes p l fun x hx => k x (b x hx)
  have ln : 0 < l.length := List.length_pos_iff.mpr a
  refine ⟨l', ?_, h1, fun y => ?_⟩
  · intro e
    rw [e, List.length_nil] at h2
    have := Nat.mul_pos hM ln
    omega
  · have b1 := Int.mul_le_mul_of_nonneg_left (c y) (show (0 : Int) ≤ M by omega)
    have b2 := h3 y
    rw [h2, Int.natCast_mul, Int.mul_assoc]
    omega
/-- a vector's part of a list taken out -/
theorem apart (t : K → Int) : ∀ l : List (K → Int), ∃ (c : Nat) (r : List (K → Int)), c + r.length = l.length ∧ (∀ y, su l y = (c : Int) * t y + su r y) ∧ (∀ x ∈ r, x ∈ l ∧ x ≠ t) ∧ (r = [] → ∀ x ∈ l, x = t)
  | [] => ⟨0, [], rfl, fun y => by rw [su_nil]; omega, by simp, by simp⟩
  | x :: l => by
    obtain ⟨c, r, h1, h2, h3, h4⟩ := apart t l
    by_cases e : x = t
    · refine ⟨c + 1, r, by rw [List.length_cons]; omega, fun y => ?_, fun z hz => ⟨List.mem_cons_of_mem _ (h3 z hz).1, (h3 z hz).2⟩, fun er z hz => ?_⟩
      · rw [su_cons, h2, e, Int.natCast_succ, Int.add_mul]; omega
      · rcases List.mem_cons.mp hz with rfl | hz
        · exact e
        · exact h4 er z hz
    · refine ⟨c, x :: r, by rw [List.length_cons, List.length_cons]; omega, fun y => ?_, fun z hz => ?_, fun er => nomatch er⟩
      · rw [su_cons, su_cons, h2]; omega
      · rcases List.mem_cons.mp hz with rfl | hz
        · exact ⟨by simp, e⟩
        · exact ⟨List.mem_cons_of_mem _ (h3 z hz).1, (h3 z hz).2⟩
/-- a sum of what lies under t that reaches t so many times is t alone -/
theorem all_eq {t : K → Int} : ∀ {l : List (K → Int)}, (∀ x ∈ l, ∀ y, x y ≤ t y) → (∀ y, (l.length : Int) * t y ≤ su l y) → ∀ x ∈ l, x = t
  | [], _, _ => by simp
  | x :: l, h, k => by
    have up : ∀ (b : List (K → Int)), (∀ x ∈ b, ∀ y, x y ≤ t y) → ∀ y, su b y ≤ (b.length : Int) * t y := by
      intro b
      induction b with
      | nil => intro _ y; rw [su_nil, List.length_nil]; omega
      | cons z b ih =>
        intro hb y
        have := ih (fun z hz => hb z (List.mem_cons_of_mem _ hz)) y
        have := hb z (by simp) y
        rw [su_cons, List.length_cons, Int.natCast_succ, Int.add_mul]
        omega
    have ux := up l fun z hz => h z (List.mem_cons_of_mem _ hz)
    have ex : x = t := funext fun y => by
      have a1 := k y
      have a2 := ux y
      have a3 := h x (by simp) y
      rw [su_cons, List.length_cons, Int.natCast_succ, Int.add_mul] at a1
      omega
    intro z hz
    rcases List.mem_cons.mp hz with rfl | hz
    · exact ex
    · refine all_eq (fun z hz => h z (List.mem_cons_of_mem _ hz)) (fun y => ?_) z hz
      have a1 := k y
      rw [su_cons, List.length_cons, Int.natCast_succ, Int.add_mul, ex] at a1
      omega
/-- what is below X, whose items are below Z, is one of X or lies below the others of Z -/
theorem core {t : K → Int} {X Z : (K → Int) → Prop} (h : Bel t X) (k : ∀ x, X x → Bel x Z) : X t ∨ Bel t fun x => Z x ∧ x ≠ t := by
  obtain ⟨l, a, b, c⟩ := h
  obtain ⟨M, l', hM, h1, h2, h3, h4⟩ := mixes t l fun x hx => k x (b x hx)
  have ln : 0 < l.length := List.length_pos_iff.mpr a
  obtain ⟨n, r, r1, r2, r3, r4⟩ := apart t l'
  by_cases e : r = []
  · refine .inl ?_
    have := all_eq (h4 (r4 e)) c
    cases l with
    | nil => exact absurd rfl a
    | cons x l => rw [← this x (by simp)]; exact b x (by simp)
  · refine .inr ⟨r, e, fun x hx => ⟨h1 x (r3 x hx).1, (r3 x hx).2⟩, fun y => ?_⟩
    have b1 := Int.mul_le_mul_of_nonneg_left (c y) (show (0 : Int) ≤ M by omega)
    have b2 := h3 y
    have b3 := r2 y
    have b4 : ((n + r.length : Nat) : Int) * t y ≤ (n : Int) * t y + su r y := by
      rw [r1, h2, Int.natCast_mul, Int.mul_assoc, ← b3]
      omega
    rw [Int.natCast_add, Int.add_mul] at b4
    omega
/-- two irredundant rows that lie below each other are the same -/
theorem same_lean {T T' : (K → Int) → Prop} (h : ∀ x, T x → Bel x T') (h' : ∀ x, T' x → Bel x T) (i : ∀ x, T x → ¬ Bel x fun z => T z ∧ z ≠ x) {x : K → Int} (hx : T x) : T' x :=
  (core (h x hx) h').elim id fun b => absurd b (i x hx)
/-- by weights -/
theorem Bel.wts {p : K → Int} {X : (K → Int) → Prop} {L : Nat → K → Int} {w : Nat → Int} : ∀ {m : Nat}, (∀ k, k < m → 0 ≤ w k) → (∀ k, k < m → X (L k)) → 1 ≤ sm m w → (∀ y, sm m w * p y ≤ sm m fun k => w k * L k y) → Bel p X := by
  intro m hw hX h1 h2
  have go : ∀ n, n ≤ m → ∃ l : List (K → Int), (∀ x ∈ l, X x) ∧ (l.length : Int) = sm n w ∧ ∀ y, su l y = sm n fun k => w k * L k y := by
    intro n
    induction n with
    | zero => exact fun _ => ⟨[], by simp, rfl, fun y => rfl⟩
    | succ n ih =>
      intro hn
      obtain ⟨l, a, b, c⟩ := ih (by omega)
      have hw' := hw n (by omega)
      refine ⟨l ++ rp (w n).toNat [L n], fun x hx => ?_, ?_, fun y => ?_⟩
      · rcases List.mem_append.mp hx with hx | hx
        · exact a x hx
        · rw [show x = L n by simpa using rp_mem hx]
          exact hX n (by omega)
      · rw [List.length_append, rp_len, List.length_singleton, Nat.mul_one, Int.natCast_add, b, Int.toNat_of_nonneg hw']
        rfl
      · rw [su_app, c, rp_su, su_cons, su_nil, Int.toNat_of_nonneg hw']
        show _ = sm n _ + w n * L n y
        rw [Int.add_zero]
  obtain ⟨l, a, b, c⟩ := go m (Nat.le_refl m)
  refine ⟨l, ?_, a, fun y => ?_⟩
  · intro e
    rw [e] at b
    rw [List.length_nil] at b
    omega
  · rw [b, c]
    exact h2 y
/-- a direction that parts p from X -/
theorem Bel.apart {p : K → Int} {X : (K → Int) → Prop} {Y : Nat → K} {d : Nat → Int} {n : Nat} (hd : ∀ j, j < n → 0 ≤ d j) (h : ∀ x, X x → (sm n fun j => x (Y j) * d j) < sm n fun j => p (Y j) * d j) : ¬ Bel p X := by
  rintro ⟨l, a, b, c⟩
  have e1 : ∀ l : List (K → Int), (sm n fun j => su l (Y j) * d j) = (l.map fun x => sm n fun j => x (Y j) * d j).sum := by
    intro l
    induction l with
    | nil =>
      rw [List.map_nil, List.sum_nil]
      exact sm_zero fun j _ => by rw [su_nil]; omega
    | cons x l ih =>
      rw [List.map_cons, List.sum_cons, ← ih, ← sm_add]
      exact sm_congr fun j _ => by rw [su_cons, Int.add_mul]
  have e2 : ∀ l : List (K → Int), (∀ x ∈ l, X x) → (l.map fun x => sm n fun j => x (Y j) * d j).sum + (l.length : Int) ≤ (l.length : Int) * sm n fun j => p (Y j) * d j := by
    intro l
    induction l with
    | nil => intro _; simp
    | cons x l ih =>
      intro hb
      have := ih fun z hz => hb z (List.mem_cons_of_mem _ hz)
      have := h x (hb x (by simp))
      rw [List.map_cons, List.sum_cons, List.length_cons, Int.natCast_succ, Int.add_mul]
      omega
  have e3 : (l.length : Int) * (sm n fun j => p (Y j) * d j) ≤ sm n fun j => su l (Y j) * d j := by
    rw [← sm_mul]
    refine sm_le fun j hj => ?_
    rw [← Int.mul_assoc]
    exact Int.mul_le_mul_of_nonneg_right (c (Y j)) (hd j hj)
  have := e1 l
  have := e2 l b
  have : 0 < l.length := List.length_pos_iff.mpr a
  omega
end
end Sx
namespace PyM
open PySem
/-! ### tables -/
theorem ixR {f : Nat → P} {R i : Nat} (h : i < R) (st : Sto) : ixD st (.p (.lst ((List.range R).map f))) (.p (.int (i : Int))) = some (.p (f i)) := by
  have e : L2.atI ((List.range R).map f) (i : Int) = some (f i) := by
    unfold L2.atI
    rw [ixN_nat (by omega) (by rw [List.length_map, List.length_range]; omega)]
    simp [h]
  show (L2.atI _ _).map _ = _
  rw [e]; rfl
/-! ### the column that enters -/
end PyM
namespace PyM
open PySem
end PyM
namespace PyM
open PySem
theorem divI {i j : Int} (h : divOk j = true) : bop .fdiv (.int i) (.int j) = some (.int (i / j)) := by
  show (if divOk j then _ else _) = _
  rw [h]; rfl
end PyM
namespace PyM
open PySem
open Sx (sm sm_congr sm_one sm_zero sm_nonneg Lb Tb col fac Inv Pv Run Best ygot)
/-- the bound that all tables of a run keep -/
def Bd (m : Nat) (C : Nat) : Prop := (fac (m + 1) * C ^ (m + 1)).log2 < 9000
end PyM
namespace PyM
open PySem
open Sx (sm sm_congr sm_one sm_zero sm_nonneg Lb Tb col fac Inv Pv Run Best ygot)
theorem addL {x y : List P} (h : x.length + y.length ≤ sizeLine) : bop .add (.lst x) (.lst y) = some (.lst (x ++ y)) := by
  show (if x.length + y.length ≤ sizeLine then _ else _) = _
  rw [if_pos h]
end PyM
namespace PyM
open PySem
end PyM
namespace PyM
open PySem
/-- the power of a letter in a product: the first that is found -/
def powOf : Pr → Str → Int
  | [], _ => 0
  | q :: l, y => if q.1 = y then q.2 else powOf l y
end PyM
namespace PyM
open PySem PySem.W
/-! ### the order of data: total, and sorted rows are told by their items -/
theorem P.lt_irrefl (a : P) : P.lt a a = false := PyProof.Rows.lex_irrefl _
theorem P.lt_trans {a b c : P} (h : P.lt a b = true) (k : P.lt b c = true) : P.lt a c = true := PyProof.Rows.lex_trans _ _ _ h k
theorem P.lt_neg {a b c : P} (h : P.lt a c = true) : P.lt a b = true ∨ P.lt b c = true := PyProof.Rows.lex_negTrans _ _ _ h
theorem P.lt_asym {a b : P} (h : P.lt a b = true) : P.lt b a = false := by
  cases e : P.lt b a with
  | false => rfl
  | true => exact absurd (P.lt_trans h e) (by rw [P.lt_irrefl]; decide)
theorem P.le_iff {a b : P} : P.le a b = true ↔ P.lt b a = false := by
  unfold P.le
  cases P.lt b a <;> simp
theorem P.le_trans (a b c : P) (h : P.le a b = true) (k : P.le b c = true) : P.le a c = true := by
  rw [P.le_iff] at *
  cases e : P.lt c a with
  | false => rfl
  | true =>
    rcases P.lt_neg (b := b) e with q | q
    · rw [k] at q; cases q
    · rw [h] at q; cases q
theorem P.le_total (a b : P) : (P.le a b || P.le b a) = true := by
  unfold P.le
  cases e : P.lt b a with
  | false => rfl
  | true => rw [P.lt_asym e]; rfl
theorem P.le_anti {a b : P} (al : alike a.toPD b.toPD = true) (na : a.nb = true) (nb : b.nb = true) (h : P.le a b = true) (k : P.le b a = true) : a = b := by
  rw [P.le_iff] at h k
  have e : keyToks a.toPD = keyToks b.toPD := PyProof.Rows.lex_total _ _ k h
  apply (eqv_nb a b na nb).mp
  cases q : PyData.eqv a.toPD b.toPD with
  | true => rfl
  | false =>
    have z := (toks_eqv _ _ al).2 q [Sum.inl 0] [Sum.inl 1]
    rw [e, lex_pre, PyProof.Rows.lex_irrefl] at z
    exact absurd z (by decide)
theorem sorted_pw (xs : List P) : (sorted xs).Pairwise fun a b => P.le a b = true := List.pairwise_mergeSort P.le_trans P.le_total xs
theorem sorted_perm (xs : List P) : (sorted xs).Perm xs := List.mergeSort_perm _ _
theorem sorted_eq {xs ys : List P} (al : ∀ a ∈ xs, ∀ b ∈ ys, alike a.toPD b.toPD = true) (na : ∀ a ∈ xs, a.nb = true) (nb : ∀ a ∈ ys, a.nb = true) (h : xs.Perm ys) : sorted xs = sorted ys :=
  List.Perm.eq_of_pairwise (fun a b ha hb => P.le_anti (al a ((sorted_perm xs).mem_iff.mp ha) b ((sorted_perm ys).mem_iff.mp hb)) (na a ((sorted_perm xs).mem_iff.mp ha)) (nb b ((sorted_perm ys).mem_iff.mp hb))) (sorted_pw xs) (sorted_pw ys) (((sorted_perm xs).trans h).trans (sorted_perm ys).symm)
theorem alike_str (a b : Str) : alike (P.str a).toPD (P.str b).toPD = true := by simp [P.toPD, alike]
/-- rows of texts -/
theorem srt_eq_of {xs ys : List Str} (h : xs.Perm ys) : srt xs = srt ys := by
  have e : sorted (xs.map P.str) = sorted (ys.map P.str) := sorted_eq (fun a ha b hb => by
    obtain ⟨x, _, rfl⟩ := List.mem_map.mp ha
    obtain ⟨y, _, rfl⟩ := List.mem_map.mp hb
    exact alike_str x y) (fun a ha => by
    obtain ⟨x, _, rfl⟩ := List.mem_map.mp ha
    rfl) (fun a ha => by
    obtain ⟨x, _, rfl⟩ := List.mem_map.mp ha
    rfl) (h.map _)
  rw [srt_eq, srt_eq] at e
  exact map_inj str_inj _ _ e
theorem srt_set {xs ys : List Str} (hx : xs.Nodup) (hy : ys.Nodup) (h : ∀ a, a ∈ xs ↔ a ∈ ys) : srt xs = srt ys := srt_eq_of ((List.perm_ext_iff_of_nodup hx hy).mpr h)
theorem srt_srt (xs : List Str) : srt (srt xs) = srt xs := srt_eq_of (srt_perm xs)
theorem mem_srt {xs : List Str} {a : Str} : a ∈ srt xs ↔ a ∈ xs := (srt_perm xs).mem_iff
theorem nodup_srt {xs : List Str} (h : xs.Nodup) : (srt xs).Nodup := (srt_perm xs).nodup_iff.mpr h
/-- rows of products -/
def prLt (a b : Pr) : Bool := P.lt (pr a) (pr b)
theorem pr_al (a b : Pr) : alike (pr a).toPD (pr b).toPD = true := by
  have h := pr_ltok a b
  unfold P.ltok at h
  simp only [Bool.and_eq_true] at h
  exact h.1.2
noncomputable def srtP (xs : List Pr) : List Pr := (sorted_map pr xs).choose
theorem srtP_eq (xs : List Pr) : sorted (xs.map pr) = (srtP xs).map pr := (sorted_map pr xs).choose_spec.1
theorem srtP_perm (xs : List Pr) : (srtP xs).Perm xs := (sorted_map pr xs).choose_spec.2
theorem mem_srtP {xs : List Pr} {a : Pr} : a ∈ srtP xs ↔ a ∈ xs := (srtP_perm xs).mem_iff
theorem nodup_srtP {xs : List Pr} (h : xs.Nodup) : (srtP xs).Nodup := (srtP_perm xs).nodup_iff.mpr h
theorem srtP_pw (xs : List Pr) : (srtP xs).Pairwise fun a b => prLt b a = false := by
  have h := sorted_pw (xs.map pr)
  rw [srtP_eq, List.pairwise_map] at h
  exact h.imp fun h => P.le_iff.mp h
theorem prLt_tot {a b : Pr} (h : prLt a b = false) (k : prLt b a = false) : a = b := pr_inj _ _ (P.le_anti (pr_al a b) (pr_nb a) (pr_nb b) (P.le_iff.mpr k) (P.le_iff.mpr h))
theorem srtP_lt {xs : List Pr} (h : xs.Nodup) : (srtP xs).Pairwise fun a b => prLt a b = true := by
  have n := nodup_srtP h
  exact (List.Pairwise.and (srtP_pw xs) n).imp fun {a b} q => by
    cases e : prLt a b with
    | true => rfl
    | false => exact absurd (prLt_tot e q.1) q.2
/-- strictly ascending rows of the same products are the same -/
theorem asc_eq {xs ys : List Pr} (hx : xs.Pairwise fun a b => prLt a b = true) (hy : ys.Pairwise fun a b => prLt a b = true) (h : ∀ a, a ∈ xs ↔ a ∈ ys) : xs = ys := by
  have ne : ∀ {zs : List Pr}, (zs.Pairwise fun a b => prLt a b = true) → zs.Nodup := fun hz => hz.imp fun {a b} q e => by
    rw [e] at q
    have : prLt b b = false := P.lt_irrefl _
    rw [this] at q
    cases q
  exact List.Perm.eq_of_pairwise (fun a b _ _ p q => absurd (P.lt_asym p) (by
    have : P.lt (pr b) (pr a) = true := q
    rw [this]; decide)) hx hy ((List.perm_ext_iff_of_nodup (ne hx) (ne hy)).mpr h)
theorem asc_nodup {zs : List Pr} (hz : zs.Pairwise fun a b => prLt a b = true) : zs.Nodup := hz.imp fun {a b} q e => by
  rw [e] at q
  have : prLt b b = false := P.lt_irrefl _
  rw [this] at q
  cases q
end PyM
namespace PyM
open PySem
/-- a row of products, a list or a tuple -/
def RowsP (L : List Pr) (x : P) : Prop := x = .lst (L.map pr) ∨ x = .tup (L.map pr)
theorem RowsP.src {L : List Pr} {x : P} (h : RowsP L x) (st : Sto) : srcOf st (.p x) = some (.fix (L.map fun l => .p (pr l))) := by
  rcases h with rfl | rfl
  · show some (Src.fix ((L.map pr).map .p)) = _
    rw [List.map_map]; rfl
  · show some (Src.fix ((L.map pr).map .p)) = _
    rw [List.map_map]; rfl
/-- the letters of some products, ascending -/
def LetsOf (L : List Pr) (ys : List Str) : Prop := ys.Nodup ∧ (∀ y, y ∈ ys ↔ ∃ l ∈ L, y ∈ l.map (·.1)) ∧ srt ys = ys
theorem LetsOf.eq {L : List Pr} {xs ys : List Str} (h : LetsOf L xs) (k : LetsOf L ys) : xs = ys := by
  rw [← h.2.2, ← k.2.2]
  exact srt_set h.1 k.1 fun a => (h.2.1 a).trans (k.2.1 a).symm
theorem LetsOf.of {L : List Pr} {ys : List Str} (nd : ys.Nodup) (h : ∀ y, y ∈ ys ↔ ∃ l ∈ L, y ∈ l.map (·.1)) : LetsOf L (srt ys) := ⟨nodup_srt nd, fun y => mem_srt.trans (h y), srt_srt ys⟩
theorem LetsOf.len {L : List Pr} {S ys : List Str} (h : LetsOf L ys) (hS : ∀ l ∈ L, PrS S l) : ys.length ≤ S.length :=
  List.Nodup.length_le_of_subset h.1 fun y hy => by
    obtain ⟨l, hl, hy⟩ := (h.2.1 y).mp hy
    obtain ⟨q, hq, rfl⟩ := List.mem_map.mp hy
    exact (hS l hl).mem q hq
theorem mem_aput {α : Type} {ps : List (Str × α)} {x y : Str} {v : α} : y ∈ (aput ps x v).map (·.1) ↔ y ∈ ps.map (·.1) ∨ y = x := by
  rw [aput_keys]
  split
  · rename_i h
    exact ⟨.inl, fun q => q.elim id fun e => e ▸ ahas_iff.mp h⟩
  · rw [List.mem_append, List.mem_singleton]
theorem sortedS_loc {α : Type} {ν : α → P} {ps : List (Str × α)} {st : Sto} {m : Nat} (h : st[m]? = some (kvp P.str ν ps)) : blt (.sorted false) [.loc m] st = .ok (.p (.lst ((srt (ps.map (·.1))).map .str))) st := by
  have e2 : (kvs P.str ν ps).map (·.1) = (ps.map (·.1)).map P.str := by
    unfold kvs
    rw [List.map_map, List.map_map]
    rfl
  simp only [blt, rd_dloc h, Option.bind, itemsS]
  rw [e2, if_pos (sortOk_map fun a _ b _ => ltok_str a b), srt_eq, mkL, pureL_p]
end PyM
namespace PyM
open PySem
open Sx (sm sm_congr sm_one sm_zero sm_nonneg sm_add sm_mul sm_le fac)
/-! ### products against a row -/
theorem powOf_zero {y : Str} : ∀ {l : Pr}, y ∉ l.map (·.1) → powOf l y = 0
  | [], _ => rfl
  | q :: l, h => by
    rw [List.map_cons, List.mem_cons, not_or] at h
    rw [powOf, if_neg (Ne.symm h.1), powOf_zero h.2]
theorem powOf_mem {y : Str} : ∀ {l : Pr}, powOf l y = 0 ∨ ∃ q ∈ l, q.1 = y ∧ powOf l y = q.2
  | [] => .inl rfl
  | q :: l => by
    rw [powOf]
    split
    · rename_i h
      exact .inr ⟨q, by simp, h, rfl⟩
    · rcases powOf_mem (y := y) (l := l) with e | ⟨r, h1, h2, h3⟩
      · exact .inl e
      · exact .inr ⟨r, List.mem_cons_of_mem _ h1, h2, h3⟩
/-- its letters are of S, its powers from 0 to C -/
structure Rng (S : List Str) (C : Nat) (l : Pr) : Prop where
  s : PrS S l
  lo : ∀ q ∈ l, 0 ≤ q.2
  hi : ∀ q ∈ l, q.2 ≤ (C : Int)
theorem Rng.pow {S : List Str} {C : Nat} {l : Pr} (h : Rng S C l) (y : Str) : 0 ≤ powOf l y ∧ powOf l y ≤ (C : Int) := by
  rcases powOf_mem (y := y) (l := l) with e | ⟨q, h1, h2, h3⟩
  · rw [e]; omega
  · rw [h3]; exact ⟨h.lo q h1, h.hi q h1⟩
/-- its weight in a direction -/
def dot (l : Pr) (d : Str → Int) : Int := (l.map fun q => q.2 * d q.1).sum
theorem dot_sm {ys : List Str} (hy : ys.Nodup) (d : Str → Int) : ∀ {l : Pr}, (l.map (·.1)).Nodup → (∀ y ∈ l.map (·.1), y ∈ ys) → dot l d = sm ys.length fun j => powOf l (ys.getD j "") * d (ys.getD j "")
  | [], _, _ => by
    show (0 : Int) = _
    rw [sm_zero fun j _ => by rw [powOf, Int.zero_mul]]
  | q :: l, nd, h => by
    rw [List.map_cons, List.nodup_cons] at nd
    have ih := dot_sm hy d nd.2 fun y hy => h y (List.mem_cons_of_mem _ hy)
    have e : dot (q :: l) d = q.2 * d q.1 + dot l d := by unfold dot; rw [List.map_cons, List.sum_cons]
    obtain ⟨j0, hj0, ej⟩ := List.getElem_of_mem (h q.1 (by simp))
    have gj : ys.getD j0 "" = q.1 := by rw [List.getD_eq_getElem?_getD, List.getElem?_eq_getElem hj0, ej]; rfl
    have un : ∀ j, j < ys.length → ys.getD j "" = q.1 → j = j0 := fun j hj ee => by
      rw [List.getD_eq_getElem?_getD, List.getElem?_eq_getElem hj] at ee
      have ee : ys[j] = q.1 := ee
      exact (List.getElem_inj hy).mp (ee.trans ej.symm)
    rw [e, ih]
    have e2 : (sm ys.length fun j => powOf (q :: l) (ys.getD j "") * d (ys.getD j "")) = sm ys.length fun j => (if ys.getD j "" = q.1 then q.2 * d q.1 else 0) + powOf l (ys.getD j "") * d (ys.getD j "") := sm_congr fun j _ => by
      rw [powOf]
      by_cases c : q.1 = ys.getD j ""
      · rw [if_pos c, if_pos c.symm, ← c, powOf_zero nd.1]; omega
      · rw [if_neg c, if_neg (Ne.symm c)]; omega
    rw [e2, sm_add, sm_one hj0 fun j hj hne => if_neg fun c => hne (un j hj c), if_pos gj]
structure Wts (l : Pr) (L : List Pr) (w : Nat → Int) : Prop where
  nn : ∀ k, k < L.length → 0 ≤ w k
  pos : 1 ≤ sm L.length w
  le : ∀ y, sm L.length w * powOf l y ≤ sm L.length fun k => w k * powOf (L.getD k []) y
structure Drn (l : Pr) (L : List Pr) (d : Str → Int) : Prop where
  nn : ∀ y, 0 ≤ d y
  lt : ∀ a ∈ L, dot a d < dot l d
/-- what compared tells -/
def CmpR (l : Pr) (L : List Pr) (r : P) : Prop :=
  (∃ ws : List Int, r = .tup [.tup (ws.map .int), .non] ∧ ws.length = L.length ∧ (sm L.length fun k => ws.getD k 0).natAbs.log2 < 9000 ∧ Wts l L fun k => ws.getD k 0) ∨
  (∃ ps : List (Str × Int), r = .tup [.non, .dct (kvs P.str P.int ps)] ∧ LetsOf (l :: L) (ps.map (·.1)) ∧ (∀ q ∈ ps, 0 ≤ q.2 ∧ q.2.natAbs.log2 < 9000) ∧ Drn l L fun y => (aget ps y).getD 0)
/-! ### words for the walk -/
theorem map_rng {α β : Type} (f : α → β) (d : α) (xs : List α) : xs.map f = (List.range xs.length).map fun k => f (xs.getD k d) := by
  apply List.ext_getElem?
  intro i
  rw [List.getElem?_map, List.getElem?_map]
  by_cases h : i < xs.length
  · rw [List.getElem?_range h, List.getElem?_eq_getElem h, Option.map_some, Option.map_some, List.getD_eq_getElem?_getD, List.getElem?_eq_getElem h]; rfl
  · rw [List.getElem?_eq_none (by omega), List.getElem?_eq_none (by simpa using h)]; rfl
theorem RowsP.list {L : List Pr} {x : P} (h : RowsP L x) (st : Sto) : blt (.list false) [.p x] st = .ok (.p (.lst (L.map pr))) st := by
  rcases h with rfl | rfl
  · rw [blt_listL, mkL_ps]
  · rw [blt_listT, mkL_ps]
end PyM
namespace PyM
open PySem
open Sx (sm sm_congr sm_one sm_zero sm_nonneg sm_add sm_mul sm_le fac)
section
variable {l : Pr} {L : List Pr} {ys : List Str} {s top bottom : Int} {y x : Nat → Int} {C : Nat}
end
end PyM
namespace PyM
open PySem
open Sx (sm sm_congr sm_one sm_zero sm_nonneg sm_add sm_mul sm_le fac)
theorem ixMap {α : Type} (f : α → P) (d : α) {xs : List α} {k : Nat} (hk : k < xs.length) (st : Sto) : ixD st (.p (.lst (xs.map f))) (.p (.int (k : Int))) = some (.p (f (xs.getD k d))) := by
  rw [map_rng f d xs]
  exact ixR hk st
end PyM
namespace PyM
open PySem
open Sx (sm sm_congr sm_one sm_zero sm_nonneg sm_add sm_mul sm_le fac Bel)
/-! ### products as vectors -/
def sLt (a b : Str) : Prop := P.lt (.str a) (.str b) = true
theorem sLt_irrefl (a : Str) : ¬ sLt a a := fun h => by
  unfold sLt at h
  rw [P.lt_irrefl] at h
  cases h
theorem sLt_asym {a b : Str} (h : sLt a b) : ¬ sLt b a := fun k => by
  unfold sLt at h k
  rw [P.lt_asym h] at k
  cases k
theorem sLt_tot {a b : Str} (h : ¬ sLt a b) (k : ¬ sLt b a) : a = b := str_inj _ _ (P.le_anti (alike_str a b) rfl rfl (P.le_iff.mpr (by
  unfold sLt at k
  cases e : P.lt (P.str b) (P.str a) with
  | false => rfl
  | true => exact absurd e k)) (P.le_iff.mpr (by
  unfold sLt at h
  cases e : P.lt (P.str a) (P.str b) with
  | false => rfl
  | true => exact absurd e h)))
theorem srt_pw {xs : List Str} (h : xs.Nodup) : (srt xs).Pairwise sLt := by
  have p := sorted_pw (xs.map P.str)
  rw [srt_eq, List.pairwise_map] at p
  refine (List.Pairwise.and p (nodup_srt h)).imp fun {a b} q => ?_
  apply Classical.byContradiction
  intro c
  exact q.2 (sLt_tot c fun k => by
    have := P.le_iff.mp q.1
    unfold sLt at k
    rw [this] at k
    cases k)
theorem asc_nd {xs : List Str} (h : xs.Pairwise sLt) : xs.Nodup := h.imp fun {a b} q e => by
  subst e
  exact sLt_irrefl _ q
theorem ascS_eq {xs ys : List Str} (hx : xs.Pairwise sLt) (hy : ys.Pairwise sLt) (h : ∀ a, a ∈ xs ↔ a ∈ ys) : xs = ys :=
  List.Perm.eq_of_pairwise (fun a b _ _ p q => absurd q (sLt_asym p)) hx hy ((List.perm_ext_iff_of_nodup (asc_nd hx) (asc_nd hy)).mpr h)
/-- letters ascending, powers from 1 on -/
structure Can (l : Pr) : Prop where
  asc : (l.map (·.1)).Pairwise sLt
  one : ∀ q ∈ l, 1 ≤ q.2
theorem powOf_in {l : Pr} (nd : (l.map (·.1)).Nodup) : ∀ {q : Str × Int}, q ∈ l → powOf l q.1 = q.2 := by
  induction l with
  | nil => intro q h; cases h
  | cons p l ih =>
    intro q h
    rw [List.map_cons, List.nodup_cons] at nd
    rw [powOf]
    rcases List.mem_cons.mp h with rfl | h
    · rw [if_pos rfl]
    · rw [if_neg (fun (e : p.1 = q.1) => nd.1 (List.mem_map.mpr ⟨q, h, e.symm⟩)), ih nd.2 h]
theorem Can.nd {l : Pr} (h : Can l) : (l.map (·.1)).Nodup := asc_nd h.asc
theorem Can.mem {l : Pr} (h : Can l) {y : Str} : y ∈ l.map (·.1) ↔ 1 ≤ powOf l y := by
  constructor
  · intro k
    obtain ⟨q, hq, rfl⟩ := List.mem_map.mp k
    rw [powOf_in h.nd hq]; exact h.one q hq
  · intro k
    apply Classical.byContradiction
    intro c
    rw [powOf_zero c] at k
    exact absurd k (by decide)
theorem Can.inj {l a : Pr} (h : Can l) (k : Can a) (e : powOf l = powOf a) : l = a := by
  have e1 : l.map (·.1) = a.map (·.1) := ascS_eq h.asc k.asc fun y => by rw [h.mem, k.mem, e]
  have e2 : ∀ {b : Pr}, Can b → b = (b.map (·.1)).map fun y => (y, powOf b y) := fun {b} hb => by
    rw [List.map_map]
    conv => lhs; rw [← List.map_id b]
    exact List.map_congr_left fun q hq => by
      show q = (q.1, powOf b q.1)
      rw [powOf_in hb.nd hq]
  rw [e2 h, e2 k, e1, e]
/-- the vectors of a row -/
def vs (L : List Pr) (v : Str → Int) : Prop := ∃ a ∈ L, powOf a = v
def BelL (l : Pr) (L : List Pr) : Prop := Bel (powOf l) (vs L)
theorem getD_mem {L : List Pr} {k : Nat} (hk : k < L.length) : L.getD k [] ∈ L := by rw [List.getD_eq_getElem?_getD, List.getElem?_eq_getElem hk]; exact List.getElem_mem hk
theorem Wts.bel {l : Pr} {L : List Pr} {w : Nat → Int} (h : Wts l L w) : BelL l L := Bel.wts (L := fun k => powOf (L.getD k [])) (w := w) (m := L.length) h.nn (fun k hk => ⟨_, getD_mem hk, rfl⟩) h.pos h.le
theorem Drn.not {l : Pr} {L : List Pr} {d : Str → Int} {ys : List Str} (hys : LetsOf (l :: L) ys) (hl : (l.map (·.1)).Nodup) (hL : ∀ a ∈ L, (a.map (·.1)).Nodup) (h : Drn l L d) : ¬ BelL l L := by
  refine Bel.apart (Y := fun j => ys.getD j "") (d := fun j => d (ys.getD j "")) (n := ys.length) (fun j _ => h.nn _) ?_
  rintro v ⟨a, ha, rfl⟩
  rw [← dot_sm hys.1 d (hL a ha) fun z hz => (hys.2.1 z).mpr ⟨a, List.mem_cons_of_mem _ ha, hz⟩, ← dot_sm hys.1 d hl fun z hz => (hys.2.1 z).mpr ⟨l, by simp, hz⟩]
  exact h.lt a ha
/-- what a walk of hulls asks of its rows -/
structure Hul (S : List Str) (C : Nat) (L : List Pr) (x : P) : Prop where
  row : RowsP L x
  ne : L ≠ []
  s : S.length ≤ 100
  len : L.length ≤ 100
  bd : Bd L.length (2 * C + 1)
  rng : ∀ a ∈ L, Rng S C a
def WeiR (l : Pr) (L : List Pr) (r : P) : Prop := (BelL l L ∧ ∃ ws : List Int, r = .tup (ws.map .int) ∧ ws.length = L.length ∧ (sm L.length fun k => ws.getD k 0).natAbs.log2 < 9000 ∧ Wts l L fun k => ws.getD k 0) ∨ (¬ BelL l L ∧ r = .non)
def DirR (l : Pr) (L : List Pr) (r : P) : Prop := (BelL l L ∧ r = .non) ∨ (¬ BelL l L ∧ ∃ ps : List (Str × Int), r = .dct (kvs P.str P.int ps) ∧ LetsOf (l :: L) (ps.map (·.1)) ∧ (∀ q ∈ ps, 0 ≤ q.2 ∧ q.2.natAbs.log2 < 9000) ∧ Drn l L fun y => (aget ps y).getD 0)
theorem CmpR.both {S : List Str} {C : Nat} {l : Pr} {L : List Pr} {r : P} (hl : Rng S C l) (hL : ∀ a ∈ L, Rng S C a) (h : CmpR l L r) : ∃ a b, r = .tup [a, b] ∧ WeiR l L a ∧ DirR l L b := by
  rcases h with ⟨ws, rfl, h1, h0, h2⟩ | ⟨ps, rfl, h1, h2, h3⟩
  · exact ⟨_, _, rfl, .inl ⟨h2.bel, ws, rfl, h1, h0, h2⟩, .inl ⟨h2.bel, rfl⟩⟩
  · have nb := Drn.not h1 hl.s.nd (fun a ha => (hL a ha).s.nd) h3
    exact ⟨_, _, rfl, .inr ⟨nb, rfl⟩, .inr ⟨nb, ps, rfl, h1, h2, h3⟩⟩
section
variable {cf cf0 : CF} {i c : Nat} {f : Fn}
end
end PyM
namespace PyM
open PySem
open Sx (fac Bel)
theorem BelL.mono {l : Pr} {L L' : List Pr} (h : BelL l L) (k : ∀ a ∈ L, a ∈ L') : BelL l L' := Bel.mono h fun _ ⟨a, ha, e⟩ => ⟨a, k a ha, e⟩
theorem BelL.trans {l : Pr} {L L' : List Pr} (h : BelL l L) (k : ∀ a ∈ L, BelL a L') : BelL l L' := Bel.trans h fun _ ⟨a, ha, e⟩ => e ▸ k a ha
theorem BelL.of {l : Pr} {L : List Pr} (h : l ∈ L) : BelL l L := Bel.of ⟨l, h, rfl⟩
theorem BelL.ne {l : Pr} {L : List Pr} (h : BelL l L) : L ≠ [] := fun e => by
  obtain ⟨_, a, ha, _⟩ := Bel.none h
  rw [e] at ha
  cases ha
/-- lean: what it tells -/
structure LeanR (L T : List Pr) : Prop where
  asc : T.Pairwise fun a b => prLt a b = true
  sub : ∀ a ∈ T, a ∈ L
  gen : ∀ a ∈ L, BelL a T
  irr : ∀ t ∈ T, ¬ BelL t (T.filter fun a => !decide (a = t))
theorem LeanR.uni {L L' T T' : List Pr} (h : LeanR L T) (h' : LeanR L' T') (c : ∀ a ∈ L, Can a) (c' : ∀ a ∈ L', Can a) (k : ∀ a ∈ L, BelL a L') (k' : ∀ a ∈ L', BelL a L) : T = T' := by
  have go : ∀ {L L' T T' : List Pr}, LeanR L T → LeanR L' T' → (∀ a ∈ L, Can a) → (∀ a ∈ L', Can a) → (∀ a ∈ L, BelL a L') → (∀ a ∈ L', BelL a L) → ∀ t ∈ T, t ∈ T' := by
    intro L L' T T' h h' c c' k k' t ht
    have := Sx.same_lean (T := vs T) (T' := vs T') (fun x ⟨a, ha, e⟩ => e ▸ (k a (h.sub a ha)).trans h'.gen) (fun x ⟨a, ha, e⟩ => e ▸ (k' a (h'.sub a ha)).trans h.gen) (fun x ⟨a, ha, e⟩ b => by
      subst e
      refine h.irr a ha (Bel.mono b fun z ⟨⟨a', ha', e'⟩, ne⟩ => ⟨a', List.mem_filter.mpr ⟨ha', ?_⟩, e'⟩)
      have : a' ≠ a := fun ee => ne (by rw [← e', ee])
      simp [this]) (x := powOf t) ⟨t, ht, rfl⟩
    obtain ⟨a, ha, e⟩ := this
    rw [← Can.inj (c' a (h'.sub a ha)) (c t (h.sub t ht)) e]
    exact ha
  exact asc_eq h.asc h'.asc fun a => ⟨go h h' c c' k k' a, go h' h c' c k' k a⟩
theorem lc_filt {α : Type} {step : D → Sto → Res (Option D)} {st : Sto} {g : α → D} {c : α → Bool} {f : α → D} : ∀ {xs : List α} {acc : List D}, (∀ a ∈ xs, step (g a) st = .ok (if c a = true then some (f a) else none) st) → lcFix step (xs.map g) acc st = .ok (acc ++ (xs.filter c).map f) st
  | [], acc, _ => by simp [lcFix]
  | x :: xs, acc, h => by
    rw [List.map_cons, lcFix, h x (by simp)]
    by_cases e : c x = true
    · rw [if_pos e, List.filter_cons, if_pos e]
      show lcFix step (xs.map g) (acc ++ [f x]) st = _
      rw [lc_filt fun a ha => h a (List.mem_cons_of_mem _ ha), List.map_cons, List.append_assoc]
      rfl
    · rw [if_neg e, List.filter_cons, if_neg e]
      show lcFix step (xs.map g) acc st = _
      rw [lc_filt fun a ha => h a (List.mem_cons_of_mem _ ha)]
theorem lc_filtW {α : Type} {step : D → Sto → Res (Option D)} {st : Sto} {g : α → D} {xs : List α} {Q : List D → Sto → Prop} {X : Exc → Sto → Prop} (c : α → Bool) (f : α → D) (h : ∀ a ∈ xs, step (g a) st = .ok (if c a = true then some (f a) else none) st) (k : Q ((xs.filter c).map f) st) : (lcFix step (xs.map g) [] st).wp Q X := by
  rw [lc_filt h, Res.wp_ok, List.nil_append]
  exact k
theorem fac_mono {a b : Nat} (h : a ≤ b) : fac a ≤ fac b := by
  induction h with
  | refl => exact Nat.le_refl _
  | step h ih =>
    rename_i m
    show _ ≤ (m + 1) * fac m
    exact Nat.le_trans ih (Nat.le_mul_of_pos_left _ (by omega))
theorem log2_mono {a b : Nat} (h : a ≤ b) : a.log2 ≤ b.log2 := by
  by_cases z : a = 0
  · rw [z]; show Nat.log2 0 ≤ _; rw [show Nat.log2 0 = 0 by decide]; exact Nat.zero_le _
  · apply Classical.byContradiction
    intro c
    have hb : b ≠ 0 := by omega
    have : b < 2 ^ a.log2 := (Nat.log2_lt hb).mp (by omega)
    have : 2 ^ a.log2 ≤ a := Nat.log2_self_le z
    omega
theorem Bd.le {m m' C C' : Nat} (h : Bd m' C') (hm : m ≤ m') (hC : C ≤ C') (h1 : 1 ≤ C) : Bd m C := by
  unfold Bd at *
  refine Nat.lt_of_le_of_lt (log2_mono ?_) h
  refine Nat.mul_le_mul (fac_mono (by omega)) ?_
  exact Nat.le_trans (Nat.pow_le_pow_left hC _) (Nat.pow_le_pow_right (by omega) (by omega))
theorem Hul.sub {S : List Str} {C : Nat} {L L' : List Pr} {x x' : P} (h : Hul S C L x) (hr : RowsP L' x') (hne : L' ≠ []) (hl : L'.length ≤ L.length) (hs : ∀ a ∈ L', a ∈ L) : Hul S C L' x' := ⟨hr, hne, h.s, by have := h.len; omega, h.bd.le hl (Nat.le_refl _) (by omega), fun a ha => h.rng a (hs a ha)⟩
end PyM
namespace PyM
open PySem
open Sx (sm sm_congr sm_one sm_zero sm_nonneg sm_add sm_mul sm_le fac Bel)
/-! ### the laws' own looks at weights and directions -/
theorem RowsP.len {L : List Pr} {x : P} (h : RowsP L x) (st : Sto) : blt .len [.p x] st = .ok (.p (.int (L.length : Int))) st := by
  rcases h with rfl | rfl
  · rw [blt_lenL, List.length_map]
  · rw [blt_lenT, List.length_map]
theorem RowsP.ix {L : List Pr} {x : P} (h : RowsP L x) {k : Nat} (hk : k < L.length) (st : Sto) : ixD st (.p x) (.p (.int (k : Int))) = some (.p (pr (L.getD k []))) := by
  have e : ∀ ys : List Pr, (ys.map pr)[k]? = (ys[k]?).map pr := fun ys => List.getElem?_map
  rcases h with rfl | rfl
  · exact ixMap pr [] hk st
  · rw [ixTm pr L k st, List.getElem?_eq_getElem hk, Option.map_some, List.getD_eq_getElem?_getD, List.getElem?_eq_getElem hk]; rfl
end PyM
namespace PyM
open PySem
/-! ### rows of products drawn -/
/-- a product of these names, in order -/
structure PrC (xs : List Str) (most : Int) (l : Pr) : Prop where
  can : Can l
  mem : ∀ q ∈ l, q.1 ∈ xs ∧ q.2 ≤ most
theorem PrC.rng {xs : List Str} {most : Int} {l : Pr} {C : Nat} (h : PrC xs most l) (hC : most ≤ C) : Rng xs C l := ⟨⟨h.can.nd, fun q hq => (h.mem q hq).1⟩, fun q hq => by have := h.can.one q hq; omega, fun q hq => by have := (h.mem q hq).2; omega⟩
theorem PrC.mono {xs ys : List Str} {m m' : Int} {l : Pr} (h : PrC xs m l) (k : ∀ x ∈ xs, x ∈ ys) (hm : m ≤ m') : PrC ys m' l := ⟨h.can, fun q hq => ⟨k _ (h.mem q hq).1, by have := (h.mem q hq).2; omega⟩⟩
theorem PrC.of {xs : List Str} {most : Int} {ps : List (Str × Int)} (nd : (ps.map (·.1)).Nodup) (hm : ∀ q ∈ ps, q.1 ∈ xs ∧ 1 ≤ q.2 ∧ q.2 ≤ most) : PrC xs most (prOf ps) := by
  have hv : ∀ q ∈ prOf ps, q ∈ ps := fun q hq => by
    obtain ⟨y, hy, rfl⟩ := List.mem_map.mp hq
    have hy := mem_srt.mp hy
    cases e : aget ps y with
    | none => exact absurd hy (aget_none.mp e)
    | some v => exact aget_mem e
  refine ⟨⟨?_, fun q hq => (hm q (hv q hq)).2.1⟩, fun q hq => ⟨(hm q (hv q hq)).1, (hm q (hv q hq)).2.2⟩⟩
  have e : (prOf ps).map (·.1) = srt (ps.map (·.1)) := by
    unfold prOf
    rw [List.map_map]
    exact List.map_id' _
  rw [e]
  exact srt_pw nd
end PyM
namespace PyM
open PySem
open Sx (Bel)
theorem sorted_asc {zs xs : List Str} (h : sorted (zs.map P.str) = xs.map P.str) (nd : xs.Nodup) : xs.Pairwise sLt := by
  rw [srt_eq] at h
  have e := map_inj str_inj _ _ h
  rw [← e]
  exact srt_pw ((srt_perm zs).nodup_iff.mp (e ▸ nd))
def NmAt (cf : CF) (j : Nat) : Prop := ∀ n many st, 0 ≤ many → many ≤ 8 → Dice st n → ∃ (xs : List Str) (st' : Sto), cf j [.loc n, .p (.int many)] st = .ok (.p (.lst (xs.map .str))) st' ∧ (xs.length : Int) = many ∧ (∀ x ∈ xs, NameOk x) ∧ xs.Pairwise sLt ∧ After n st st'
theorem nm_at {cf : CF} {j d w : Nat} {cf0 : CF} {f : Fn} (hf : f.np = 2 ∧ f.ns = 9 ∧ f.body = namesB d w) (hd : DrawAt cf0 d) (hw : WordAt cf0 w) (h : ∀ ds st, cf j ds st = runFn cf0 f ds st) : NmAt cf j := by
  intro n many st h0 h1 hs
  obtain ⟨xs, st', e, hl, ⟨ok, zs, hz⟩, nd, a⟩ := names_atS hf hd hw h n many st h0 (by omega) hs
  exact ⟨xs, st', e, hl, ok, sorted_asc hz (nd h1), a⟩
section
variable {cf cf0 : CF} {i w di dn bl rw_ rd : Nat} {f : Fn}
end
end PyM
namespace PyM
open PySem
open Sx (Bel fac)
/-! ### words for the hull laws -/
theorem frz_dice {st : Sto} {n : Nat} (h : Dice st n) : ∃ x, frzD (.loc n) st = .ok (.p x) (st.set n .dead) := by
  obtain ⟨o, e, cs, i, big, a, b, rfl, _⟩ := h
  exact ⟨_, frz_loc (xs := [.lst (cs.map .int), .int i, .int big, .int a, .int b]) e⟩
theorem Dice.put {st : Sto} {n m : Nat} (h : Dice st n) (hm : n ≠ m) (o : Ob) : Dice (st.set m o) n := by
  obtain ⟨x, e, d⟩ := h
  exact ⟨x, by rw [List.getElem?_set_ne (Ne.symm hm)]; exact e, d⟩
theorem prs_eqokL (L : List Pr) : (P.lst (L.map pr)).eqok = true := by
  unfold P.eqok
  rw [Bool.and_eq_true]
  refine ⟨flats_map pr_flat L, decide_eq_true ?_⟩
  have := depths_map (n := 2) pr_depth L
  show P.depths _ + 1 ≤ 60
  omega
theorem pmem_pr (a : Pr) (L : List Pr) : pmem (pr a) (L.map pr) = some (decide (a ∈ L)) := by
  unfold pmem
  rw [if_pos (by rw [pr_eqok, prs_eqokL]; rfl)]
  congr 1
  rw [Bool.eq_iff_iff, List.any_eq_true, decide_eq_true_eq]
  constructor
  · rintro ⟨y, hy, e⟩
    obtain ⟨b, hb, rfl⟩ := List.mem_map.mp hy
    have := (eqv_nb _ _ (pr_nb b) (pr_nb a)).mp e
    rw [← pr_inj _ _ this]; exact hb
  · exact fun h => ⟨pr a, List.mem_map.mpr ⟨a, h, rfl⟩, (eqv_nb _ _ (pr_nb a) (pr_nb a)).mpr rfl⟩
theorem RowsP.isin {L : List Pr} {x : P} (h : RowsP L x) (a : Pr) : cop .isin (pr a) x = some (decide (a ∈ L)) := by
  rcases h with rfl | rfl
  · exact pmem_pr a L
  · exact pmem_pr a L
theorem RowsP.notin {L : List Pr} {x : P} (h : RowsP L x) (a : Pr) : cop .notin (pr a) x = some (!decide (a ∈ L)) := by
  have := h.isin a
  show (pin _ _).map (!·) = _
  rw [show pin (pr a) x = some (decide (a ∈ L)) from this]; rfl
theorem LeanR.ne {L T : List Pr} (h : LeanR L T) (hL : L ≠ []) : T ≠ [] := by
  cases L with
  | nil => exact absurd rfl hL
  | cons a L => exact (h.gen a (by simp)).ne
theorem LeanR.lt {L T : List Pr} (h : LeanR L T) {k : Nat} (h0 : 0 < k) (hk : k < T.length) : prLt (T.getD (k - 1) []) (T.getD k []) = true := by
  have := (List.pairwise_iff_getElem.mp h.asc) (k - 1) k (by omega) hk (by omega)
  rw [List.getD_eq_getElem?_getD, List.getD_eq_getElem?_getD, List.getElem?_eq_getElem (show k - 1 < T.length by omega), List.getElem?_eq_getElem hk]
  exact this
theorem LeanR.len {L T : List Pr} (h : LeanR L T) : T.length ≤ L.length := List.Nodup.length_le_of_subset (asc_nodup h.asc) fun y hy => h.sub y hy
theorem Hul.lean {S : List Str} {C : Nat} {L T : List Pr} {x x' : P} (h : Hul S C L x) (hT : LeanR L T) (hr : RowsP T x') : Hul S C T x' := h.sub hr (hT.ne h.ne) hT.len hT.sub
theorem LeanR.idem {L T : List Pr} (h : LeanR L T) : LeanR T T := ⟨h.asc, fun _ h => h, fun _ h => BelL.of h, h.irr⟩
theorem LeanR.self {L T T' : List Pr} (h : LeanR L T) (h' : LeanR T T') (c : ∀ a ∈ L, Can a) : T' = T := h'.uni h.idem (fun a ha => c a (h.sub a ha)) (fun a ha => c a (h.sub a ha)) (fun _ ha => BelL.of ha) (fun _ ha => BelL.of ha)
theorem LeanR.same {L T T' : List Pr} (h : LeanR L T) (h' : LeanR L T') (c : ∀ a ∈ L, Can a) : T' = T := h'.uni h c c (fun _ ha => BelL.of ha) (fun _ ha => BelL.of ha)
theorem PrC.pow {xs : List Str} {m : Int} {l : Pr} (h : PrC xs m l) (hm : 0 ≤ m) (y : Str) : 0 ≤ powOf l y ∧ powOf l y ≤ m := by
  rcases powOf_mem (y := y) (l := l) with e | ⟨q, h1, h2, h3⟩
  · rw [e]; omega
  · rw [h3]; have := h.can.one q h1; exact ⟨by omega, (h.mem q h1).2⟩
theorem LetsOf.asc {L : List Pr} {ys : List Str} (h : LetsOf L ys) : ys.Pairwise sLt := by
  rw [← h.2.2]; exact srt_pw h.1
theorem dn_cons {cf : CF} {S : Stm} {rest : Sts} {env e1 : Env} {s s1 : Sto} {p : Po} (h : dnS cf S env s = .nx e1 s1) (k : (dnB cf rest e1 s1).wp p) : (dnB cf (.cons S rest) env s).wp p := by
  rw [b_cons', h, SR.bind_nx]; exact k
def shl : List Str := ["#"]
theorem with_sh (xs : List Str) (h : xs.length ≤ 100) : xs ++ shl ≠ [] ∧ (xs ++ shl).length = xs.length + 1 ∧ bop .add (.lst (xs.map P.str)) (.lst [P.str "#"]) = some (.lst ((xs ++ shl).map P.str)) := by
  have e : (xs ++ shl).length = xs.length + 1 := by rw [List.length_append]; rfl
  refine ⟨fun c => by rw [c] at e; simp at e, e, ?_⟩
  rw [addL (by rw [List.length_map, sizeLine_eq]; show _ + 1 ≤ _; omega), List.map_append]
  rfl
end PyM
namespace PyM
open PySem
open Sx (Bel fac)
/-! ### k52: great powers -/
theorem LeanR.ext {L T : List Pr} (h : LeanR L T) (c : ∀ a ∈ L, Can a) {a : Pr} (ha : a ∈ L) : a ∈ T ↔ ¬ BelL a (L.filter fun b => !decide (b = a)) := by
  constructor
  · intro hT b
    have := Sx.core (X := vs (L.filter fun b => !decide (b = a))) (Z := vs T) b fun x ⟨z, hz, e⟩ => e ▸ h.gen z (List.mem_filter.mp hz).1
    rcases this with ⟨z, hz, e⟩ | b'
    · obtain ⟨h1, h2⟩ := List.mem_filter.mp hz
      have h2 : z ≠ a := by simpa using h2
      exact h2 (Can.inj (c z h1) (c a ha) e)
    · refine h.irr a hT (Bel.mono b' fun z ⟨⟨a', ha', e'⟩, ne⟩ => ⟨a', List.mem_filter.mpr ⟨ha', ?_⟩, e'⟩)
      have : a' ≠ a := fun ee => ne (by rw [← e', ee])
      simp [this]
  · intro nb
    apply Classical.byContradiction
    intro hT
    refine nb ((h.gen a ha).mono fun z hz => List.mem_filter.mpr ⟨h.sub z hz, ?_⟩)
    have : z ≠ a := fun e => hT (e ▸ hz)
    simp [this]
theorem powI {i j : Int} (h : 0 ≤ j ∧ j ≤ 1000000 ∧ i.natAbs < 2 ^ 64) : bop .pow (.int i) (.int j) = some (.int (i ^ j.toNat)) := by
  show (if _ then _ else _) = _
  rw [if_pos h]
end PyM
namespace PyM
open PySem
open Sx (sm sm_congr sm_one sm_zero sm_nonneg sm_add sm_mul sm_le Bel fac)
/-! ### k49: mixes and what stands beyond -/
section
variable {α : Type}
end
end PyM
namespace PyM
open PySem
open Sx (Bel fac)
/-! ### k51: rows in any order -/
theorem BelL.le {p q : Pr} {L : List Pr} (h : BelL q L) (hp : ∀ y, powOf p y ≤ powOf q y) : BelL p L := Bel.le h hp
end PyM
namespace PyM
open PySem
open Sx (sm sm_congr sm_one sm_zero sm_nonneg sm_add sm_mul sm_le Bel fac su)
/-! ### powers and values -/
theorem log2_mul_le {a K : Nat} (h : a < 2 ^ K) (hK : 0 < K) : a.log2 < K := by
  by_cases z : a = 0
  · rw [z, show Nat.log2 0 = 0 by decide]; exact hK
  · exact (Nat.log2_lt z).mpr h
theorem natAbs_powK {n : Int} {K : Nat} (h : n.natAbs < 2 ^ K) (a : Nat) : (n ^ a).natAbs < 2 ^ (K * a + 1) := by
  rw [Int.natAbs_pow]
  have h1 : n.natAbs ^ a ≤ (2 ^ K) ^ a := Nat.pow_le_pow_left (by omega) a
  rw [← Nat.pow_mul] at h1
  have h2 : 2 ^ (K * a) < 2 ^ (K * a + 1) := Nat.pow_lt_pow_right (by decide) (by omega)
  omega
theorem mulOk_pow {n : Int} {K a b : Nat} (h : n.natAbs < 2 ^ K) (hK : K * (a + b) + 2 < 1000000) : mulOk (n ^ a) (n ^ b) = true := by
  have h1 := log2_mul_le (natAbs_powK h a) (by omega)
  have h2 := log2_mul_le (natAbs_powK h b) (by omega)
  rw [Nat.mul_add] at hK
  unfold mulOk
  rw [Bool.or_eq_true]
  exact .inr (decide_eq_true (by omega))
/-- slots: 0 number, 1 times, 2 told, 3 square, 4 left -/
def powerB : Sts := (.cons (.asg (.nm 2) (.lit (.int 1)))
  (.cons (.asg (.nm 3) (.var 0))
  (.cons (.asg (.nm 4) (.var 1))
  (.cons (.whl (.cmp .gt (.var 4) (.lit (.int 0))) (.cons (.ite (.cmp .eq (.bin .band (.var 4) (.lit (.int 1))) (.lit (.int 1))) (.cons (.asg (.nm 2) (.bin .mul (.var 2) (.var 3)))
  .nil) .nil)
  (.cons (.asg (.nm 4) (.bin .fdiv (.var 4) (.lit (.int 2))))
  (.cons (.ite (.cmp .gt (.var 4) (.lit (.int 0))) (.cons (.asg (.nm 3) (.bin .mul (.var 3) (.var 3)))
  .nil) .nil)
  .nil))))
  (.cons (.ret (.var 2))
  .nil)))))
def PwrAt (cf : CF) (i : Nat) : Prop := ∀ (n : Int) (t K : Nat), n.natAbs < 2 ^ K → K * (2 * t) + 2 < 1000000 → t ≤ 1000000 → cf i [.p (.int n), .p (.int (t : Int))] [] = .ok (.p (.int (n ^ t))) []
theorem pwr_at {cf cf0 : CF} {i : Nat} {f : Fn} (hf : f.np = 2 ∧ f.ns = 5 ∧ f.body = powerB) (h : ∀ ds st, cf i ds st = runFn cf0 f ds st) : PwrAt cf i := by
  intro n t K hn hK ht
  rw [h]
  refine run_eq (by rw [hf.1]; rfl) ?_
  rw [hf.2.1, hf.2.2]
  show (dnB cf0 powerB [some (.p (.int n)), some (.p (.int (t : Int))), none, none, none] []).wp _
  unfold powerB
  (simp -implicitDefEqProofs only [↓evZP, evZQ0, evZQ1, evZQ2, evZQ3, evZQ4, evZQ5, List.getElem?_cons_zero, List.getElem?_cons_succ, List.set_cons_zero, List.set_cons_succ, Option.map_some, Option.bind_some, Option.bind_none, Option.map_none, ite_true, ite_false, if_true, if_false, Bool.not_true, Bool.not_false, decide_true, decide_false, Bool.false_eq_true, decide_eq_true_eq, Bool.not_eq_true', decide_eq_false_iff_not, callM, pureL, Bool.and_true, Bool.true_and, Bool.and_false, Bool.false_and, Option.toList, Int.natCast_zero, Int.cast_ofNat_Int, not_true_eq_false, not_false_eq_true, Int.reduceEq, Int.reduceLT, Int.reduceLE, Int.reduceNe, Nat.reduceAdd]; try simp -implicitDefEqProofs only [Res.bindL, Res.thnL, SR.bindL, SR.wpL, Res.wpL, iteS, iteR, chsL])
  refine ok_sbind (whl_ok (fun k env s => s = [] ∧ ∃ (a b left : Nat), env = [some (.p (.int n)), some (.p (.int (t : Int))), some (.p (.int (n ^ a))), some (.p (.int (n ^ b))), some (.p (.int (left : Int)))] ∧ a + b * left = t ∧ k = left) ?_ (n := t) ⟨rfl, 0, 1, t, by rw [Int.pow_zero, Int.pow_one], by omega, rfl⟩ ?_)
  · rintro k env s ⟨rfl, a, b, left, rfl, hab, rfl⟩
    by_cases g : 0 < k
    · have g' : (0 : Int) < (k : Int) := by omega
      have hbl : b ≤ b * k := Nat.le_mul_of_pos_right b g
      have m1 := bop_mulI (mulOk_pow (a := a) (b := b) hn (by
        have : K * (a + b) ≤ K * (2 * t) := Nat.mul_le_mul_left K (by omega)
        omega))
      have m2 := bop_mulI (mulOk_pow (a := b) (b := b) hn (by
        have : K * (b + b) ≤ K * (2 * t) := Nat.mul_le_mul_left K (by omega)
        omega))
      rw [← Int.pow_add] at m1 m2
      have an : bop .band (.int (k : Int)) (.int 1) = some (.int ((k : Int) % 2)) := by
        show some (P.int (Builtin.bitAnd (k : Int) 1)) = _
        rw [PyProof.Rows.bitAnd_m1]
      have dv : bop .fdiv (.int (k : Int)) (.int 2) = some (.int ((k / 2 : Nat) : Int)) := by
        rw [divI (divOk_s (by decide) (by decide))]; rfl
      have hk2 : k / 2 < k := by omega
      unfold whlC whlB
      by_cases odd : (k : Int) % 2 = 1
      · have hk : k = 2 * (k / 2) + 1 := by omega
        have e1 : a + b + b * 2 * (k / 2) = t := by
          rw [← hab, hk]
          have : (2 * (k / 2) + 1) / 2 = k / 2 := by omega
          rw [this]
          grind
        by_cases g2 : (0 : Int) < ((k / 2 : Nat) : Int)
        · (simp -implicitDefEqProofs only [↓evZP, evZQ0, evZQ1, evZQ2, evZQ3, evZQ4, evZQ5, List.getElem?_cons_zero, List.getElem?_cons_succ, List.set_cons_zero, List.set_cons_succ, Option.map_some, Option.bind_some, Option.bind_none, Option.map_none, ite_true, ite_false, if_true, if_false, Bool.not_true, Bool.not_false, decide_true, decide_false, Bool.false_eq_true, decide_eq_true_eq, Bool.not_eq_true', decide_eq_false_iff_not, callM, pureL, Bool.and_true, Bool.true_and, Bool.and_false, Bool.false_and, Option.toList, Int.natCast_zero, Int.cast_ofNat_Int, not_true_eq_false, not_false_eq_true, Int.reduceEq, Int.reduceLT, Int.reduceLE, Int.reduceNe, Nat.reduceAdd, denc, g', an, odd, m1, dv, g2, m2]; try simp -implicitDefEqProofs only [Res.bindL, Res.thnL, SR.bindL, SR.wpL, Res.wpL, iteS, iteR, chsL])
          exact ⟨k / 2, hk2, by trivial, a + b, b + b, k / 2, rfl, by rw [← e1]; grind, rfl⟩
        · (simp -implicitDefEqProofs only [↓evZP, evZQ0, evZQ1, evZQ2, evZQ3, evZQ4, evZQ5, List.getElem?_cons_zero, List.getElem?_cons_succ, List.set_cons_zero, List.set_cons_succ, Option.map_some, Option.bind_some, Option.bind_none, Option.map_none, ite_true, ite_false, if_true, if_false, Bool.not_true, Bool.not_false, decide_true, decide_false, Bool.false_eq_true, decide_eq_true_eq, Bool.not_eq_true', decide_eq_false_iff_not, callM, pureL, Bool.and_true, Bool.true_and, Bool.and_false, Bool.false_and, Option.toList, Int.natCast_zero, Int.cast_ofNat_Int, not_true_eq_false, not_false_eq_true, Int.reduceEq, Int.reduceLT, Int.reduceLE, Int.reduceNe, Nat.reduceAdd, denc, g', an, odd, m1, dv, g2]; try simp -implicitDefEqProofs only [Res.bindL, Res.thnL, SR.bindL, SR.wpL, Res.wpL, iteS, iteR, chsL])
          exact ⟨k / 2, hk2, by trivial, a + b, b, k / 2, rfl, by
            have z : k / 2 = 0 := by omega
            rw [z] at e1 ⊢
            omega, rfl⟩
      · have hk : k = 2 * (k / 2) := by omega
        have e1 : a + b * 2 * (k / 2) = t := by
          rw [← hab]
          conv => rhs; rw [hk]
          grind
        have g2 : (0 : Int) < ((k / 2 : Nat) : Int) := by omega
        (simp -implicitDefEqProofs only [↓evZP, evZQ0, evZQ1, evZQ2, evZQ3, evZQ4, evZQ5, List.getElem?_cons_zero, List.getElem?_cons_succ, List.set_cons_zero, List.set_cons_succ, Option.map_some, Option.bind_some, Option.bind_none, Option.map_none, ite_true, ite_false, if_true, if_false, Bool.not_true, Bool.not_false, decide_true, decide_false, Bool.false_eq_true, decide_eq_true_eq, Bool.not_eq_true', decide_eq_false_iff_not, callM, pureL, Bool.and_true, Bool.true_and, Bool.and_false, Bool.false_and, Option.toList, Int.natCast_zero, Int.cast_ofNat_Int, not_true_eq_false, not_false_eq_true, Int.reduceEq, Int.reduceLT, Int.reduceLE, Int.reduceNe, Nat.reduceAdd, denc, g', an, odd, dv, g2, m2]; try simp -implicitDefEqProofs only [Res.bindL, Res.thnL, SR.bindL, SR.wpL, Res.wpL, iteS, iteR, chsL])
        exact ⟨k / 2, hk2, by trivial, a, b + b, k / 2, rfl, by rw [← e1]; grind, rfl⟩
    · have g' : ¬ (0 : Int) < (k : Int) := by omega
      unfold whlC
      (simp -implicitDefEqProofs only [↓evZP, evZQ0, evZQ1, evZQ2, evZQ3, evZQ4, evZQ5, List.getElem?_cons_zero, List.getElem?_cons_succ, List.set_cons_zero, List.set_cons_succ, Option.map_some, Option.bind_some, Option.bind_none, Option.map_none, ite_true, ite_false, if_true, if_false, Bool.not_true, Bool.not_false, decide_true, decide_false, Bool.false_eq_true, decide_eq_true_eq, Bool.not_eq_true', decide_eq_false_iff_not, callM, pureL, Bool.and_true, Bool.true_and, Bool.and_false, Bool.false_and, Option.toList, Int.natCast_zero, Int.cast_ofNat_Int, not_true_eq_false, not_false_eq_true, Int.reduceEq, Int.reduceLT, Int.reduceLE, Int.reduceNe, Nat.reduceAdd, denc, g']; try simp -implicitDefEqProofs only [Res.bindL, Res.thnL, SR.bindL, SR.wpL, Res.wpL, iteS, iteR, chsL])
      have k0 : k = 0 := by omega
      subst k0
      have : a = t := by omega
      subst this
      exact ⟨by trivial, by trivial⟩
  · have : (1000000 : Nat) < FUEL := by decide +kernel
    omega
/-- the worth of a product at numbers -/
def wor (f : Str → Nat) : Pr → Nat
  | [] => 1
  | q :: l => wor f l * f q.1 ^ q.2.toNat
theorem wor_app (f : Str → Nat) : ∀ a b : Pr, wor f (a ++ b) = wor f a * wor f b
  | [], b => by rw [List.nil_append, wor, Nat.one_mul]
  | q :: a, b => by rw [List.cons_append, wor, wor_app f a b, wor]; grind

/-! ### the walks -/
/-- numbers for names -/
structure NumsP (K : Nat) (f : Str → Nat) (ps : List (Str × Int)) : Prop where
  val : ∀ y, y ∈ ps.map (·.1) → aget ps y = some (f y : Int)
  bd : ∀ y, f y < 2 ^ K
theorem NumsP.ix {K : Nat} {f : Str → Nat} {ps : List (Str × Int)} (h : NumsP K f ps) {y : Str} (hy : y ∈ ps.map (·.1)) (st : Sto) : ixD st (.p (.dct (kvs P.str P.int ps))) (.p (.str y)) = some (.p (.int (f y : Int))) := by
  rw [ixDct str_inj (fun k => fit_str ps k) y st, h.val y hy]; rfl
def sumP (l : Pr) : Nat := match l with
  | [] => 0
  | q :: l => q.2.toNat + sumP l
theorem sumP_app : ∀ a b : Pr, sumP (a ++ b) = sumP a + sumP b
  | [], b => by rw [List.nil_append, sumP, Nat.zero_add]
  | q :: a, b => by rw [List.cons_append, sumP, sumP_app a b, sumP]; omega
theorem wor_bd {K : Nat} {f : Str → Nat} (h : ∀ y, f y < 2 ^ K) : ∀ l : Pr, wor f l ≤ 2 ^ (K * sumP l)
  | [] => by rw [wor, sumP, Nat.mul_zero, Nat.pow_zero]; exact Nat.le_refl 1
  | q :: l => by
    rw [wor, sumP, Nat.mul_add, Nat.pow_add, Nat.mul_comm]
    refine Nat.mul_le_mul ?_ (wor_bd h l)
    rw [Nat.pow_mul]
    exact Nat.pow_le_pow_left (by have := h q.1; omega) _
theorem log2_le_pow {a k : Nat} (h : a ≤ 2 ^ k) : a.log2 ≤ k := by
  have := log2_mul_le (a := a) (K := k + 1) (Nat.lt_of_le_of_lt h (Nat.pow_lt_pow_right (by decide) (by omega))) (by omega)
  omega
theorem mulOk_nat {a b i j : Nat} (ha : a ≤ 2 ^ i) (hb : b ≤ 2 ^ j) (h : i + j < 1000000) : mulOk (a : Int) (b : Int) = true := by
  have h1 := log2_le_pow ha
  have h2 := log2_le_pow hb
  unfold mulOk
  rw [Bool.or_eq_true]
  exact .inr (decide_eq_true (by rw [Int.natAbs_natCast, Int.natAbs_natCast]; omega))
theorem take_split {l : Pr} {i : Nat} {q : Str × Int} (h : l[i]? = some q) : sumP (l.take i) + q.2.toNat ≤ sumP l := by
  have hle : i < l.length := (List.getElem?_eq_some_iff.mp h).1
  have sp : l = l.take i ++ q :: l.drop (i + 1) := by
    have := List.drop_eq_getElem_cons hle
    rw [(List.getElem?_eq_some_iff.mp h).2] at this
    rw [← this, List.take_append_drop]
  conv => rhs; rw [sp]
  rw [sumP_app, sumP]
  omega
theorem wor_take {f : Str → Nat} {l : Pr} {i : Nat} {q : Str × Int} (h : l[i]? = some q) : wor f (l.take (i + 1)) = wor f (l.take i) * f q.1 ^ q.2.toNat := by
  rw [take_succ' h, wor_app, wor, wor, Nat.one_mul]
/-- what the two tell: the worth -/
def WorAt (cf : CF) (i : Nat) : Prop := ∀ (K : Nat) (f : Str → Nat) (ps : List (Str × Int)) (l : Pr), NumsP K f ps → 1 ≤ K → (∀ q ∈ l, q.1 ∈ ps.map (·.1) ∧ 0 ≤ q.2 ∧ q.2 ≤ 1000000) → K * (4 * sumP l + 4) + 2 < 1000000 → cf i [.p (pr l), .p (.dct (kvs P.str P.int ps))] [] = .ok (.p (.int (wor f l : Int))) []
/-- slots: 0 _law_product, 1 _law_numbers, 2 _law_worth_here, 3 _law_pair, 4 _law_k -/
def worthB : Sts := (.cons (.asg (.nm 2) (.lit (.int 1)))
  (.cons (.for (.nm 3) (.seq (.var 0)) (.cons (.for (.nm 4) (.rng1 (.ix (.var 3) (.lit (.int 1)))) (.cons (.asg (.nm 2) (.bin .mul (.var 2) (.ix (.var 1) (.ix (.var 3) (.lit (.int 0))))))
  .nil))
  .nil))
  (.cons (.ret (.var 2))
  .nil)))
theorem wor_at {cf cf0 : CF} {i : Nat} {f : Fn} (hf : f.np = 2 ∧ f.ns = 5 ∧ f.body = worthB) (h : ∀ ds st, cf i ds st = runFn cf0 f ds st) : WorAt cf i := by
  intro K g ps l hp hK hl hb
  rw [h]
  refine run_eq (by rw [hf.1]; rfl) ?_
  rw [hf.2.1, hf.2.2]
  show (dnB cf0 worthB [some (.p (pr l)), some (.p (.dct (kvs P.str P.int ps))), none, none, none] []).wp _
  unfold worthB
  (simp -implicitDefEqProofs only [↓evZP, evZQ0, evZQ1, evZQ2, evZQ3, evZQ4, evZQ5, List.getElem?_cons_zero, List.getElem?_cons_succ, List.set_cons_zero, List.set_cons_succ, Option.map_some, Option.bind_some, Option.bind_none, Option.map_none, ite_true, ite_false, if_true, if_false, Bool.not_true, Bool.not_false, decide_true, decide_false, Bool.false_eq_true, decide_eq_true_eq, Bool.not_eq_true', decide_eq_false_iff_not, callM, pureL, Bool.and_true, Bool.true_and, Bool.and_false, Bool.false_and, Option.toList, Int.natCast_zero, Int.cast_ofNat_Int, not_true_eq_false, not_false_eq_true, Int.reduceEq, Int.reduceLT, Int.reduceLE, Int.reduceNe, Nat.reduceAdd, src_pr]; try simp -implicitDefEqProofs only [Res.bindL, Res.thnL, SR.bindL, SR.wpL, Res.wpL, iteS, iteR, chsL])
  refine ok_sbind (for_ok (fun i env s => s = [] ∧ ∃ (x3 x4 : Option D), env = [some (.p (pr l)), some (.p (.dct (kvs P.str P.int ps))), some (.p (.int (wor g (l.take i) : Int))), x3, x4]) ⟨rfl, _, _, rfl⟩ ?_ ?_)
  · rintro i d env s hd ⟨rfl, x3, x4, rfl⟩
    rw [List.getElem?_map] at hd
    obtain ⟨q, hq, rfl⟩ := Option.map_eq_some_iff.mp hd
    obtain ⟨q1, q2, q3⟩ := hl q (List.mem_of_getElem? hq)
    have ts := take_split hq
    (simp -implicitDefEqProofs only [↓evZP, evZQ0, evZQ1, evZQ2, evZQ3, evZQ4, evZQ5, List.getElem?_cons_zero, List.getElem?_cons_succ, List.set_cons_zero, List.set_cons_succ, Option.map_some, Option.bind_some, Option.bind_none, Option.map_none, ite_true, ite_false, if_true, if_false, Bool.not_true, Bool.not_false, decide_true, decide_false, Bool.false_eq_true, decide_eq_true_eq, Bool.not_eq_true', decide_eq_false_iff_not, callM, pureL, Bool.and_true, Bool.true_and, Bool.and_false, Bool.false_and, Option.toList, Int.natCast_zero, Int.cast_ofNat_Int, not_true_eq_false, not_false_eq_true, Int.reduceEq, Int.reduceLT, Int.reduceLE, Int.reduceNe, Nat.reduceAdd, stepF, pi1_1, rngR_int q2 (show q.2 ≤ 16777216 by omega)]; try simp -implicitDefEqProofs only [Res.bindL, Res.thnL, SR.bindL, SR.wpL, Res.wpL, iteS, iteR, chsL])
    refine ok_sbind (for_ok (fun k env s => s = [] ∧ ∃ (x4 : Option D), env = [some (.p (pr l)), some (.p (.dct (kvs P.str P.int ps))), some (.p (.int ((wor g (l.take i) * g q.1 ^ k : Nat) : Int))), some (.p (pi1 q)), x4]) ⟨rfl, _, by rw [Nat.pow_zero, Nat.mul_one]⟩ ?_ ?_)
    · rintro k d env s hd' ⟨rfl, x4, rfl⟩
      obtain ⟨hk, rfl⟩ := rng_get hd'
      have b1 : wor g (l.take i) * g q.1 ^ k ≤ 2 ^ (K * sumP l) := by
        have e1 := wor_bd hp.bd (l.take i)
        have e2 : g q.1 ^ k ≤ (2 ^ K) ^ k := Nat.pow_le_pow_left (by have := hp.bd q.1; omega) k
        rw [← Nat.pow_mul] at e2
        have e3 := Nat.mul_le_mul e1 e2
        rw [← Nat.pow_add, ← Nat.mul_add] at e3
        exact Nat.le_trans e3 (Nat.pow_le_pow_right (by decide) (Nat.mul_le_mul_left K (by omega)))
      have b2 : g q.1 ≤ 2 ^ K := by have := hp.bd q.1; omega
      have m1 := bop_mulI (mulOk_nat b1 b2 (by
        have : K * (4 * sumP l + 4) = 4 * (K * sumP l) + K * 4 := by rw [Nat.mul_add]; grind
        omega))
      rw [← Int.natCast_mul] at m1
      (simp -implicitDefEqProofs only [↓evZP, evZQ0, evZQ1, evZQ2, evZQ3, evZQ4, evZQ5, List.getElem?_cons_zero, List.getElem?_cons_succ, List.set_cons_zero, List.set_cons_succ, Option.map_some, Option.bind_some, Option.bind_none, Option.map_none, ite_true, ite_false, if_true, if_false, Bool.not_true, Bool.not_false, decide_true, decide_false, Bool.false_eq_true, decide_eq_true_eq, Bool.not_eq_true', decide_eq_false_iff_not, callM, pureL, Bool.and_true, Bool.true_and, Bool.and_false, Bool.false_and, Option.toList, Int.natCast_zero, Int.cast_ofNat_Int, not_true_eq_false, not_false_eq_true, Int.reduceEq, Int.reduceLT, Int.reduceLE, Int.reduceNe, Nat.reduceAdd, stepF, pi1_0, hp.ix q1, m1]; try simp -implicitDefEqProofs only [Res.bindL, Res.thnL, SR.bindL, SR.wpL, Res.wpL, iteS, iteR, chsL])
      refine ⟨by trivial, some (.p (.int (0 + (k : Int)))), ?_⟩
      rw [Nat.mul_assoc, ← Nat.pow_succ]
    · rintro env s ⟨rfl, x4, rfl⟩
      rw [rng_len, ← wor_take hq]
      (simp -implicitDefEqProofs only [↓evZP, evZQ0, evZQ1, evZQ2, evZQ3, evZQ4, evZQ5, List.getElem?_cons_zero, List.getElem?_cons_succ, List.set_cons_zero, List.set_cons_succ, Option.map_some, Option.bind_some, Option.bind_none, Option.map_none, ite_true, ite_false, if_true, if_false, Bool.not_true, Bool.not_false, decide_true, decide_false, Bool.false_eq_true, decide_eq_true_eq, Bool.not_eq_true', decide_eq_false_iff_not, callM, pureL, Bool.and_true, Bool.true_and, Bool.and_false, Bool.false_and, Option.toList, Int.natCast_zero, Int.cast_ofNat_Int, not_true_eq_false, not_false_eq_true, Int.reduceEq, Int.reduceLT, Int.reduceLE, Int.reduceNe, Nat.reduceAdd]; try simp -implicitDefEqProofs only [Res.bindL, Res.thnL, SR.bindL, SR.wpL, Res.wpL, iteS, iteR, chsL])
      exact ⟨by trivial, _, _, rfl⟩
  · rintro env s ⟨rfl, x3, x4, rfl⟩
    rw [List.length_map, List.take_length]
    (simp -implicitDefEqProofs only [↓evZP, evZQ0, evZQ1, evZQ2, evZQ3, evZQ4, evZQ5, List.getElem?_cons_zero, List.getElem?_cons_succ, List.set_cons_zero, List.set_cons_succ, Option.map_some, Option.bind_some, Option.bind_none, Option.map_none, ite_true, ite_false, if_true, if_false, Bool.not_true, Bool.not_false, decide_true, decide_false, Bool.false_eq_true, decide_eq_true_eq, Bool.not_eq_true', decide_eq_false_iff_not, callM, pureL, Bool.and_true, Bool.true_and, Bool.and_false, Bool.false_and, Option.toList, Int.natCast_zero, Int.cast_ofNat_Int, not_true_eq_false, not_false_eq_true, Int.reduceEq, Int.reduceLT, Int.reduceLE, Int.reduceNe, Nat.reduceAdd]; try simp -implicitDefEqProofs only [Res.bindL, Res.thnL, SR.bindL, SR.wpL, Res.wpL, iteS, iteR, chsL])
    exact ⟨by trivial, by trivial⟩
end PyM
namespace PyM
open PySem
theorem frz_kv {ps : List (Str × Int)} {st : Sto} {m : Nat} (h : st[m]? = some (kvp P.str P.int ps)) : frzD (.loc m) st = .ok (.p (.dct (kvs P.str P.int ps))) (st.set m .dead) := frz_dloc h
theorem isin_kv (ps : List (Str × Int)) (y : Str) : cop .isin (.str y) (.dct (kvs P.str P.int ps)) = some (decide (y ∈ ps.map (·.1))) := by
  show (if kfit (kvs P.str P.int ps) (.str y) then _ else _) = _
  rw [if_pos (fit_str ps y), kvs_lk str_inj]
  congr 1
  cases e : aget ps y with
  | none => simp [aget_none.mp e]
  | some v =>
    have : y ∈ ps.map (·.1) := List.mem_map.mpr ⟨_, aget_mem e, rfl⟩
    simp [this]
end PyM
namespace PyM
open PySem
/-! ### products and sums of a drawn program -/
/-- letters ascending, powers from 1 on, their sum bounded -/
structure PrW (xs : List Str) (most : Int) (l : Pr) : Prop where
  can : Can l
  mem : ∀ q ∈ l, q.1 ∈ xs
  sm : (l.map (·.2)).sum ≤ most
theorem aput_no {ps : List (Str × Int)} {x : Str} {v : Int} (h : x ∉ ps.map (·.1)) : aput ps x v = ps ++ [(x, v)] := by
  have e : ahas ps x = false := by
    cases q : ahas ps x with
    | false => rfl
    | true => exact absurd (ahas_iff.mp q) h
  unfold aput
  rw [if_neg (by rw [e]; decide)]
theorem aput_cons_ne {p : Str × Int} {ps : List (Str × Int)} {x : Str} {v : Int} (h : p.1 ≠ x) (hx : x ∈ ps.map (·.1)) : aput (p :: ps) x v = p :: aput ps x v := by
  have h1 : ahas ps x = true := ahas_iff.mpr hx
  have h2 : ahas (p :: ps) x = true := ahas_iff.mpr (List.mem_cons_of_mem _ hx)
  unfold aput
  rw [if_pos h1, if_pos h2, List.map_cons, if_neg h]
theorem map_no {ps : List (Str × Int)} {x : Str} {v : Int} (h : x ∉ ps.map (·.1)) : (ps.map fun q => if q.1 = x then (q.1, v) else q) = ps := by
  have : ps.map (fun q => if q.1 = x then (q.1, v) else q) = ps.map id := List.map_congr_left fun q hq => by
    rw [if_neg]
    · rfl
    · intro e
      exact h (List.mem_map.mpr ⟨q, hq, e⟩)
  rw [this, List.map_id]
theorem sum_aput : ∀ {ps : List (Str × Int)}, (ps.map (·.1)).Nodup → ∀ (x : Str) (v : Int), ((aput ps x v).map (·.2)).sum = (ps.map (·.2)).sum - (aget ps x).getD 0 + v
  | [], _, x, v => by
    rw [aput_no (by simp)]
    simp [aget]
  | p :: ps, nd, x, v => by
    rw [List.map_cons, List.nodup_cons] at nd
    by_cases h : p.1 = x
    · have e : aput (p :: ps) x v = (p.1, v) :: ps := by
        unfold aput
        rw [if_pos (ahas_iff.mpr (by rw [List.map_cons, h]; exact List.mem_cons_self ..)), List.map_cons, if_pos h, map_no (by rw [← h]; exact nd.1)]
      have g : aget (p :: ps) x = some p.2 := by
        unfold aget
        rw [List.find?_cons_of_pos (by simpa using h)]
        rfl
      rw [e, g]
      simp
      omega
    · by_cases hx : x ∈ ps.map (·.1)
      · rw [aput_cons_ne h hx]
        have g : aget (p :: ps) x = aget ps x := by
          unfold aget
          rw [List.find?_cons_of_neg (by simpa using h)]
        have := sum_aput nd.2 x v
        rw [g, List.map_cons, List.sum_cons, List.map_cons, List.sum_cons, this]
        omega
      · have hx' : x ∉ (p :: ps).map (·.1) := fun c => by
          rcases List.mem_cons.mp c with e | c
          · exact h e.symm
          · exact hx c
        rw [aput_no hx', aget_none.mpr hx']
        simp
        omega
theorem sum_prOf {ps : List (Str × Int)} (nd : (ps.map (·.1)).Nodup) : ((prOf ps).map (·.2)).sum = (ps.map (·.2)).sum := by
  have e : (prOf ps).map (·.2) = (srt (ps.map (·.1))).map fun y => (aget ps y).getD 0 := by
    unfold prOf
    rw [List.map_map]
    rfl
  have p := (srt_perm (ps.map (·.1))).map fun y => (aget ps y).getD 0
  have q : ∀ {a b : List Int}, a.Perm b → a.sum = b.sum := fun h => by
    induction h with
    | nil => rfl
    | cons x _ ih => rw [List.sum_cons, List.sum_cons, ih]
    | swap x y l => simp only [List.sum_cons]; omega
    | trans _ _ ih1 ih2 => exact ih1.trans ih2
  rw [e, q p, List.map_map]
  congr 1
  apply List.map_congr_left
  intro a ha
  show (aget ps a.1).getD 0 = a.2
  rw [aget_of nd (show (a.1, a.2) ∈ ps from ha)]
  rfl
theorem le_sum : ∀ {ps : List (Str × Int)}, (∀ q ∈ ps, 1 ≤ q.2) → 0 ≤ (ps.map (·.2)).sum ∧ ∀ q ∈ ps, q.2 ≤ (ps.map (·.2)).sum
  | [], _ => ⟨Int.le_refl _, fun _ h => nomatch h⟩
  | p :: ps, h => by
    obtain ⟨a, b⟩ := le_sum fun q hq => h q (List.mem_cons_of_mem _ hq)
    have hp := h p (List.mem_cons_self ..)
    rw [List.map_cons, List.sum_cons]
    refine ⟨by omega, fun q hq => ?_⟩
    rcases List.mem_cons.mp hq with rfl | hq
    · omega
    · have := b q hq
      omega
def ProWAt (cf : CF) (j : Nat) : Prop := ∀ n (xs : List Str) most st, xs ≠ [] → xs.length ≤ 1000 → 0 ≤ most → most ≤ 1000 → Dice st n → ∃ (l : Pr) (st' : Sto), cf j [.loc n, .p (.lst (xs.map .str)), .p (.int most)] st = .ok (.p (pr l)) st' ∧ PrW xs most l ∧ After n st st'
theorem proW_at {cf : CF} {j d : Nat} {cf0 : CF} {f : Fn} (hf : f.np = 3 ∧ f.ns = 6 ∧ f.body = productB d) (hd : DrawAt cf0 d) (h : ∀ ds st, cf j ds st = runFn cf0 f ds st) : ProWAt cf j := by
  intro n xs most st hx hl h0 h1 hs
  suffices q : ∃ r s, runFn cf0 f [.loc n, .p (.lst (xs.map .str)), .p (.int most)] st = .ok r s ∧ ∃ l, r = .p (pr l) ∧ PrW xs most l ∧ After n st s by
    obtain ⟨r, s, e, l, rfl, a, b⟩ := q
    exact ⟨l, s, by rw [h]; exact e, a, b⟩
  refine run_ok (by rw [hf.1]; rfl) ?_
  rw [hf.2.1, hf.2.2]
  show (dnB cf0 (productB d) [some (.loc n), some (.p (.lst (xs.map .str))), some (.p (.int most)), none, none, none] st).wp _
  unfold productB
  have i0 := Dct.new (κ := P.str) (ν := P.int) (After.refl hs)
  obtain ⟨r, s1, c1, r0, r1, a1⟩ := hd n (most + 1) (st ++ [.dct []]) (by omega) (divOk_b (by omega) (by omega)) i0.af.di
  have xpos : 0 < xs.length := List.length_pos_iff.mpr hx
  have els : ∀ s, blt .len [.p (.lst (xs.map P.str))] s = .ok (.p (.int (xs.length : Int))) s := fun s => by rw [blt_lenL, List.length_map]
  have mk0 : mkD true [] st = .ok (.loc st.length) (st ++ [.dct []]) := rfl
  (simp -implicitDefEqProofs only [↓evZP, evZQ0, evZQ1, evZQ2, evZQ3, evZQ4, evZQ5, List.getElem?_cons_zero, List.getElem?_cons_succ, List.set_cons_zero, List.set_cons_succ, Option.map_some, Option.bind_some, Option.bind_none, Option.map_none, ite_true, ite_false, if_true, if_false, Bool.not_true, Bool.not_false, decide_true, decide_false, Bool.false_eq_true, decide_eq_true_eq, Bool.not_eq_true', decide_eq_false_iff_not, callM, pureL, Bool.and_true, Bool.true_and, Bool.and_false, Bool.false_and, Option.toList, Int.natCast_zero, Int.cast_ofNat_Int, not_true_eq_false, not_false_eq_true, Int.reduceEq, Int.reduceLT, Int.reduceLE, Int.reduceNe, Nat.reduceAdd, mk0, c1, rngR_int r0 (show r ≤ 16777216 by omega)]; try simp -implicitDefEqProofs only [Res.bindL, Res.thnL, SR.bindL, SR.wpL, Res.wpL, iteS, iteR, chsL])
  refine ok_sbind (for_ok (fun i env s => ∃ (ps : List (Str × Int)) (B C : Option D), env = [some (.loc n), some (.p (.lst (xs.map .str))), some (.p (.int most)), some (.loc st.length), B, C] ∧ Dct P.str P.int n st.length st s ps ∧ (ps.map (·.1)).Nodup ∧ (∀ q ∈ ps, q.1 ∈ xs ∧ 1 ≤ q.2) ∧ (ps.map (·.2)).sum ≤ (i : Int) ∧ ps.length ≤ i) ⟨[], none, none, rfl, i0.draw a1, List.nodup_nil, (fun _ h => nomatch h), by simp, by simp⟩ ?_ ?_)
  · rintro i q env s hq ⟨ps, B, C, rfl, inv, nd, mem, sm, pl⟩
    obtain ⟨hi, rfl⟩ := rng_get hq
    obtain ⟨k, s', c2, k0, k1, a2⟩ := hd n xs.length s (by omega) (divOk_b (by omega) (by omega)) inv.af.di
    obtain ⟨x, hxm, ix, _⟩ := ixP (st := s') (f := P.str) (xs := xs) k0 k1
    have inv' := inv.draw a2
    obtain ⟨g1, g2⟩ := get2_loc inv'.at_ str_inj (fit_str ps) x (.p (.int 0))
    have gv : ((aget ps x).map fun a => D.p (.int a)).getD (.p (.int 0)) = .p (.int ((aget ps x).getD 0)) := by cases aget ps x <;> rfl
    rw [gv] at g2
    have sl := set_loc inv'.at_ str_inj (fit_str ps) (by omega) x ((aget ps x).getD 0 + 1)
    (simp -implicitDefEqProofs only [↓evZP, evZQ0, evZQ1, evZQ2, evZQ3, evZQ4, evZQ5, List.getElem?_cons_zero, List.getElem?_cons_succ, List.set_cons_zero, List.set_cons_succ, Option.map_some, Option.bind_some, Option.bind_none, Option.map_none, ite_true, ite_false, if_true, if_false, Bool.not_true, Bool.not_false, decide_true, decide_false, Bool.false_eq_true, decide_eq_true_eq, Bool.not_eq_true', decide_eq_false_iff_not, callM, pureL, Bool.and_true, Bool.true_and, Bool.and_false, Bool.false_and, Option.toList, Int.natCast_zero, Int.cast_ofNat_Int, not_true_eq_false, not_false_eq_true, Int.reduceEq, Int.reduceLT, Int.reduceLE, Int.reduceNe, Nat.reduceAdd, stepF, els, c2, ix, g1, g2, sl]; try simp -implicitDefEqProofs only [Res.bindL, Res.thnL, SR.bindL, SR.wpL, Res.wpL, iteS, iteR, chsL])
    have s1' := sum_aput nd x ((aget ps x).getD 0 + 1)
    refine ⟨aput ps x ((aget ps x).getD 0 + 1), _, _, rfl, inv'.put, aput_nodup nd, fun q hq => ?_, by rw [s1']; push_cast; omega, by have := aput_len ps x ((aget ps x).getD 0 + 1); omega⟩
    rcases aput_mem hq with rfl | ⟨hq, _⟩
    · refine ⟨hxm, ?_⟩
      show 1 ≤ (aget ps x).getD 0 + 1
      cases e : aget ps x with
      | none => simp
      | some v =>
        have := (mem _ (aget_mem e)).2
        simp only [Option.getD_some]
        simp at this
        omega
    · exact mem q hq
  · rintro env s ⟨ps, B, C, rfl, inv, nd, mem, sm, pl⟩
    rw [rng_len] at sm
    have so := sortedS_loc inv.at_
    have lc : lcFix (lcStep cf0 (.nm 5) [5] .none (.tup (.cons (.var 5) (.cons (.ix (.var 3) (.var 5)) .nil))) [some (.loc n), some (.p (.lst (xs.map .str))), some (.p (.int most)), some (.loc st.length), B, C]) ((srt (ps.map (·.1))).map fun y => D.p (.str y)) [] s = .ok ((srt (ps.map (·.1))).map fun y => D.p (pi1 (y, (aget ps y).getD 0))) s := lc_map fun y h => by
      have e := ix_loc inv.at_ str_inj (fit_str ps) y
      have hy := mem_srt.mp h
      cases q : aget ps y with
      | none => exact absurd hy (aget_none.mp q)
      | some v =>
        rw [q] at e
        simp [lcStep, e, pi1]
    (simp -implicitDefEqProofs only [↓evZP, evZQ0, evZQ1, evZQ2, evZQ3, evZQ4, evZQ5, List.getElem?_cons_zero, List.getElem?_cons_succ, List.set_cons_zero, List.set_cons_succ, Option.map_some, Option.bind_some, Option.bind_none, Option.map_none, ite_true, ite_false, if_true, if_false, Bool.not_true, Bool.not_false, decide_true, decide_false, Bool.false_eq_true, decide_eq_true_eq, Bool.not_eq_true', decide_eq_false_iff_not, callM, pureL, Bool.and_true, Bool.true_and, Bool.and_false, Bool.false_and, Option.toList, Int.natCast_zero, Int.cast_ofNat_Int, not_true_eq_false, not_false_eq_true, Int.reduceEq, Int.reduceLT, Int.reduceLE, Int.reduceNe, Nat.reduceAdd, so, List.map_map, Function.comp_def, lc, mkL_map]; try simp -implicitDefEqProofs only [Res.bindL, Res.thnL, SR.bindL, SR.wpL, Res.wpL, iteS, iteR, chsL])
    have pc := PrC.of (xs := xs) (most := (ps.map (·.2)).sum) nd fun q hq => ⟨(mem q hq).1, (mem q hq).2, (le_sum fun q hq => (mem q hq).2).2 q hq⟩
    refine ⟨prOf ps, ?_, ⟨pc.can, fun q hq => (pc.mem q hq).1, by rw [sum_prOf nd]; omega⟩, inv.af⟩
    simp [pr, prOf, List.map_map, Function.comp_def]
end PyM
namespace PyM
open PySem
theorem sortedP_loc {α : Type} {ν : α → P} {ps : List (Pr × α)} {st : Sto} {m : Nat} (h : st[m]? = some (kvp pr ν ps)) : blt (.sorted false) [.loc m] st = .ok (.p (.lst ((srtP (ps.map (·.1))).map pr))) st := by
  have e2 : (kvs pr ν ps).map (·.1) = (ps.map (·.1)).map pr := by
    unfold kvs
    rw [List.map_map, List.map_map]
    rfl
  simp only [blt, rd_dloc h, Option.bind, itemsS]
  rw [e2, if_pos (sortOk_map fun a _ b _ => pr_ltok a b), srtP_eq, mkL, pureL_p]
structure SumW (xs : List Str) (most top : Int) (l : Tm) : Prop where
  ne : l ≠ []
  asc : (l.map (·.2)).Pairwise fun a b => prLt a b = true
  mem : ∀ q ∈ l, 1 ≤ q.1 ∧ q.1 ≤ top ∧ PrW xs most q.2
def SumWAt (cf : CF) (j : Nat) : Prop := ∀ n (xs : List Str) terms most top st, xs ≠ [] → xs.length ≤ 1000 → 0 < terms → terms ≤ 1000 → 0 ≤ most → most ≤ 1000 → 0 < top → divOk top = true → Dice st n → ∃ (l : Tm) (st' : Sto), cf j [.loc n, .p (.lst (xs.map .str)), .p (.int terms), .p (.int most), .p (.int top)] st = .ok (.p (tm l)) st' ∧ SumW xs most top l ∧ (l.length : Int) ≤ terms ∧ After n st st'
theorem sumW_at {cf : CF} {j d p : Nat} {cf0 : CF} {f : Fn} (hf : f.np = 5 ∧ f.ns = 8 ∧ f.body = sumB d p) (hd : DrawAt cf0 d) (hp : ProWAt cf0 p) (h : ∀ ds st, cf j ds st = runFn cf0 f ds st) : SumWAt cf j := by
  intro n xs terms most top st hx hl t0 t1 h0 h1 p0 p1 hs
  suffices q : ∃ r s, runFn cf0 f [.loc n, .p (.lst (xs.map .str)), .p (.int terms), .p (.int most), .p (.int top)] st = .ok r s ∧ ∃ l, r = .p (tm l) ∧ SumW xs most top l ∧ (l.length : Int) ≤ terms ∧ After n st s by
    obtain ⟨r, s, e, l, rfl, a, b⟩ := q
    exact ⟨l, s, by rw [h]; exact e, a, b⟩
  refine run_ok (by rw [hf.1]; rfl) ?_
  rw [hf.2.1, hf.2.2]
  show (dnB cf0 (sumB d p) [some (.loc n), some (.p (.lst (xs.map .str))), some (.p (.int terms)), some (.p (.int most)), some (.p (.int top)), none, none, none] st).wp _
  unfold sumB
  have i0 := Dct.new (κ := pr) (ν := P.int) (After.refl hs)
  obtain ⟨r, s1, c1, r0, r1, a1⟩ := hd n terms (st ++ [.dct []]) t0 (divOk_b t0 (by omega)) i0.af.di
  have mk0 : mkD true [] st = .ok (.loc st.length) (st ++ [.dct []]) := rfl
  (simp -implicitDefEqProofs only [↓evZP, evZQ0, evZQ1, evZQ2, evZQ3, evZQ4, evZQ5, List.getElem?_cons_zero, List.getElem?_cons_succ, List.set_cons_zero, List.set_cons_succ, Option.map_some, Option.bind_some, Option.bind_none, Option.map_none, ite_true, ite_false, if_true, if_false, Bool.not_true, Bool.not_false, decide_true, decide_false, Bool.false_eq_true, decide_eq_true_eq, Bool.not_eq_true', decide_eq_false_iff_not, callM, pureL, Bool.and_true, Bool.true_and, Bool.and_false, Bool.false_and, Option.toList, Int.natCast_zero, Int.cast_ofNat_Int, not_true_eq_false, not_false_eq_true, Int.reduceEq, Int.reduceLT, Int.reduceLE, Int.reduceNe, Nat.reduceAdd, mk0, c1, rngR_int (show 0 ≤ 1 + r by omega) (show 1 + r ≤ 16777216 by omega)]; try simp -implicitDefEqProofs only [Res.bindL, Res.thnL, SR.bindL, SR.wpL, Res.wpL, iteS, iteR, chsL])
  refine ok_sbind (for_ok (fun i env s => ∃ (ps : List (Pr × Int)) (B C : Option D), env = [some (.loc n), some (.p (.lst (xs.map .str))), some (.p (.int terms)), some (.p (.int most)), some (.p (.int top)), some (.loc st.length), B, C] ∧ Dct pr P.int n st.length st s ps ∧ (ps.map (·.1)).Nodup ∧ (∀ q ∈ ps, PrW xs most q.1 ∧ 1 ≤ q.2 ∧ q.2 ≤ top) ∧ ps.length ≤ i ∧ (0 < i → ps ≠ [])) ⟨[], none, none, rfl, i0.draw a1, List.nodup_nil, (fun _ h => nomatch h), Nat.le_refl _, fun h => absurd h (Nat.lt_irrefl _)⟩ ?_ ?_)
  · rintro i q env s hq ⟨ps, B, C, rfl, inv, nd, mem, pl, pe⟩
    obtain ⟨hi, rfl⟩ := rng_get hq
    obtain ⟨l, s', c2, ok, a2⟩ := hp n xs most s hx hl h0 h1 inv.af.di
    have inv' := inv.draw a2
    obtain ⟨k, s'', c3, k0, k1, a3⟩ := hd n top s' p0 p1 inv'.af.di
    have inv'' := inv'.draw a3
    have sl := set_loc inv''.at_ pr_inj (fit_pr ps) (by omega) l (1 + k)
    (simp -implicitDefEqProofs only [↓evZP, evZQ0, evZQ1, evZQ2, evZQ3, evZQ4, evZQ5, List.getElem?_cons_zero, List.getElem?_cons_succ, List.set_cons_zero, List.set_cons_succ, Option.map_some, Option.bind_some, Option.bind_none, Option.map_none, ite_true, ite_false, if_true, if_false, Bool.not_true, Bool.not_false, decide_true, decide_false, Bool.false_eq_true, decide_eq_true_eq, Bool.not_eq_true', decide_eq_false_iff_not, callM, pureL, Bool.and_true, Bool.true_and, Bool.and_false, Bool.false_and, Option.toList, Int.natCast_zero, Int.cast_ofNat_Int, not_true_eq_false, not_false_eq_true, Int.reduceEq, Int.reduceLT, Int.reduceLE, Int.reduceNe, Nat.reduceAdd, stepF, c2, c3, sl]; try simp -implicitDefEqProofs only [Res.bindL, Res.thnL, SR.bindL, SR.wpL, Res.wpL, iteS, iteR, chsL])
    refine ⟨aput ps l (1 + k), _, _, rfl, inv''.put, aput_nodup nd, ?_, by have := aput_len ps l (1 + k); omega, fun _ => ?_⟩
    · intro q hq
      rcases aput_mem hq with rfl | ⟨hq, _⟩
      · exact ⟨ok, by show 1 ≤ 1 + k; omega, by show 1 + k ≤ top; omega⟩
      · exact mem q hq
    · unfold aput
      split
      · rename_i h
        rw [ahas_iff] at h
        intro e
        have : ps = [] := by simpa using e
        rw [this] at h
        cases h
      · simp
  · rintro env s ⟨ps, B, C, rfl, inv, nd, mem, pl, pe⟩
    rw [rng_len] at pl pe
    have so := sortedP_loc inv.at_
    have hg : ∀ y ∈ srtP (ps.map (·.1)), aget ps y = some ((aget ps y).getD 0) := fun y h => by
      cases e : aget ps y with
      | none => exact absurd (mem_srtP.mp h) (aget_none.mp e)
      | some v => rfl
    have lc : lcFix (lcStep cf0 (.nm 7) [7] .none (.tup (.cons (.ix (.var 5) (.var 7)) (.cons (.var 7) .nil))) [some (.loc n), some (.p (.lst (xs.map .str))), some (.p (.int terms)), some (.p (.int most)), some (.p (.int top)), some (.loc st.length), B, C]) ((srtP (ps.map (·.1))).map fun y => D.p (pr y)) [] s = .ok ((srtP (ps.map (·.1))).map fun y => D.p (tm1 ((aget ps y).getD 0, y))) s := lc_map fun y h => by
      have e := ix_loc inv.at_ pr_inj (fit_pr ps) y
      rw [hg y h] at e
      simp [lcStep, e, tm1]
    (simp -implicitDefEqProofs only [↓evZP, evZQ0, evZQ1, evZQ2, evZQ3, evZQ4, evZQ5, List.getElem?_cons_zero, List.getElem?_cons_succ, List.set_cons_zero, List.set_cons_succ, Option.map_some, Option.bind_some, Option.bind_none, Option.map_none, ite_true, ite_false, if_true, if_false, Bool.not_true, Bool.not_false, decide_true, decide_false, Bool.false_eq_true, decide_eq_true_eq, Bool.not_eq_true', decide_eq_false_iff_not, callM, pureL, Bool.and_true, Bool.true_and, Bool.and_false, Bool.false_and, Option.toList, Int.natCast_zero, Int.cast_ofNat_Int, not_true_eq_false, not_false_eq_true, Int.reduceEq, Int.reduceLT, Int.reduceLE, Int.reduceNe, Nat.reduceAdd, so, List.map_map, Function.comp_def, lc, mkL_map]; try simp -implicitDefEqProofs only [Res.bindL, Res.thnL, SR.bindL, SR.wpL, Res.wpL, iteS, iteR, chsL])
    have len : (srtP (ps.map (·.1))).length = ps.length := by rw [(srtP_perm _).length_eq, List.length_map]
    refine ⟨(srtP (ps.map (·.1))).map fun y => ((aget ps y).getD 0, y), ?_, ⟨?_, ?_, ?_⟩, ?_, inv.af⟩
    · simp [tm, List.map_map, Function.comp_def]
    · intro e
      have e1 : srtP (ps.map (·.1)) = [] := by simpa using e
      rw [e1] at len
      exact pe (by omega) (List.length_eq_zero_iff.mp len.symm)
    · rw [List.map_map]
      have : (srtP (ps.map (·.1))).map ((fun q : Int × Pr => q.2) ∘ fun y => ((aget ps y).getD 0, y)) = srtP (ps.map (·.1)) := List.map_id _
      rw [this]
      exact srtP_lt nd
    · intro q hq
      obtain ⟨y, hy, rfl⟩ := List.mem_map.mp hq
      have := mem _ (aget_mem (hg y hy))
      exact ⟨this.2.1, this.2.2, this.1⟩
    · rw [List.length_map, len]
      omega
end PyM
namespace PyM
open PySem
/-! ### statements -/
mutual
/-- sums: add (false) or set (true); pick: either (false) or orders (true) -/
inductive Wst where
  | sums (s : Bool) (x : Str) (t : Tm) | lift (x : Str) (c : Int) (l : Pr) | loop (x : Str) (b : Wbl) | pick (o : Bool) (bs : Wbs) | call (w : Str)
inductive Wbl where
  | nil | cons (s : Wst) (b : Wbl)
inductive Wbs where
  | nil | cons (b : Wbl) (bs : Wbs)
end
mutual
def wstP : Wst → P
  | .sums s x t => .tup [.str (if s then "set" else "add"), .str x, tm t]
  | .lift x c l => .tup [.str "lift", .str x, .tup [.int c, pr l]]
  | .loop x b => .tup [.str "loop", .str x, .tup (wblP b)]
  | .pick o bs => .tup [.str (if o then "orders" else "either"), .tup (wbsP bs)]
  | .call w => .tup [.str "call", .str w]
def wblP : Wbl → List P
  | .nil => []
  | .cons s b => wstP s :: wblP b
def wbsP : Wbs → List P
  | .nil => []
  | .cons b bs => .tup (wblP b) :: wbsP bs
end
def Wbl.of : List Wst → Wbl
  | [] => .nil
  | s :: r => .cons s (Wbl.of r)
def Wbl.l : Wbl → List Wst
  | .nil => []
  | .cons s b => s :: b.l
def Wbs.of : List Wbl → Wbs
  | [] => .nil
  | b :: r => .cons b (Wbs.of r)
def Wbs.l : Wbs → List Wbl
  | .nil => []
  | .cons b bs => b :: bs.l
/-- a row as it is drawn -/
def RowW (xs : List Str) (mc md : Int) (sets : Bool) : Wst → Prop
  | .sums s x t => x ∈ xs ∧ SumW xs md mc t ∧ (t.length : Int) ≤ 3 ∧ (s = true → sets = true ∧ ∃ q ∈ t, q.2 ≠ [])
  | .lift x c l => x ∈ xs ∧ 1 ≤ c ∧ c ≤ mc ∧ PrW xs md l
  | _ => False
theorem PrW.one {xs : List Str} {md : Int} {x : Str} (hx : x ∈ xs) (h : 1 ≤ md) : PrW xs md [(x, 1)] := ⟨⟨by simp, fun q hq => by rw [List.mem_singleton.mp hq]; exact Int.le_refl 1⟩, fun q hq => by rw [List.mem_singleton.mp hq]; exact hx, by simpa using h⟩
end PyM
namespace PyM
open PySem
/-! ### what a block written out has -/
structure Mea where
  st : Nat
  rw : Nat
  dp : Nat
  lp : Nat
  wy : Nat
  lw : Nat
def Mea.one : Mea := ⟨0, 0, 0, 0, 1, 1⟩
def Mea.row : Mea := ⟨1, 1, 0, 0, 1, 1⟩
def Mea.jn (a b : Mea) : Mea := ⟨a.st + b.st, a.rw + b.rw, max a.dp b.dp, max a.lp b.lp, a.wy * b.wy, max a.lw b.lw⟩
def Mea.lop (m : Mea) : Mea := ⟨m.st + 1, m.rw, m.dp + 1, m.lp + 1, 1, max m.wy m.lw⟩
def Mea.all : List Mea → Mea → Mea
  | [], a => a
  | m :: r, a => Mea.all r (a.jn m)
/-- either, orders -/
def Mea.pck (o : Bool) (ms : List Mea) : Mea := ⟨(Mea.all ms .one).st + 1, (Mea.all ms .one).rw, (Mea.all ms .one).dp + 1, (Mea.all ms .one).lp, if o then (Mea.all ms .one).wy * (if ms.length = 2 then 2 else 6) else (ms.map (·.wy)).sum, (Mea.all ms .one).lw⟩
mutual
def mS (ω : Str → Mea) : Wst → Mea
  | .sums _ _ _ => .row
  | .lift _ _ _ => .row
  | .call w => ω w
  | .loop _ b => (Mea.all (mB ω b) .one).lop
  | .pick o bs => Mea.pck o (mBs ω bs)
def mB (ω : Str → Mea) : Wbl → List Mea
  | .nil => []
  | .cons s b => mS ω s :: mB ω b
def mBs (ω : Str → Mea) : Wbs → List Mea
  | .nil => []
  | .cons b bs => Mea.all (mB ω b) .one :: mBs ω bs
end
def mOf (ω : Str → Mea) (b : Wbl) : Mea := Mea.all (mB ω b) .one
theorem mB_l (ω : Str → Mea) : ∀ b : Wbl, mB ω b = b.l.map (mS ω)
  | .nil => by rw [mB, Wbl.l]; rfl
  | .cons s b => by rw [mB, Wbl.l, mB_l ω b]; rfl
theorem mBs_l (ω : Str → Mea) : ∀ b : Wbs, mBs ω b = b.l.map (mOf ω)
  | .nil => by rw [mBs, Wbs.l]; rfl
  | .cons s b => by rw [mBs, Wbs.l, mBs_l ω b]; rfl
/-! ### bounds -/
/-- what is left of rows, statements, ways -/
structure Pot where
  r : Nat
  s : Nat
  f : Nat
/-- behind a part of measure m that led from p to q, the ways of loops at most B, so deep, so many loops in one another -/
structure Fit (B D L : Nat) (p : Pot) (m : Mea) (q : Pot) : Prop where
  rw : m.rw + q.r ≤ p.r
  st : m.st + q.s ≤ p.s
  wy : m.wy * q.f ≤ p.f
  lw : m.lw ≤ B
  dp : m.dp ≤ D
  lp : m.lp ≤ L
  w1 : 1 ≤ m.wy
theorem Fit.one {B D L : Nat} {p : Pot} (h : 1 ≤ B) : Fit B D L p .one p := ⟨by simp [Mea.one], by simp [Mea.one], by simp [Mea.one], h, Nat.zero_le _, Nat.zero_le _, Nat.le_refl _⟩
theorem Fit.jn {B D L : Nat} {p q r : Pot} {m n : Mea} (h : Fit B D L p m q) (k : Fit B D L q n r) : Fit B D L p (m.jn n) r := by
  refine ⟨?_, ?_, ?_, Nat.max_le.mpr ⟨h.lw, k.lw⟩, Nat.max_le.mpr ⟨h.dp, k.dp⟩, Nat.max_le.mpr ⟨h.lp, k.lp⟩, Nat.mul_le_mul h.w1 k.w1⟩
  · have := h.rw; have := k.rw; simp only [Mea.jn]; omega
  · have := h.st; have := k.st; simp only [Mea.jn]; omega
  · simp only [Mea.jn]
    rw [Nat.mul_assoc]
    exact Nat.le_trans (Nat.mul_le_mul_left _ k.wy) h.wy
theorem Fit.lop {B D L : Nat} {p q : Pot} {m : Mea} (h : Fit B D L ⟨p.r, p.s - 1, p.f⟩ m q) (hs : 1 ≤ p.s) (hB : p.f ≤ B) (hq : 1 ≤ q.f) : Fit B (D + 1) (L + 1) p m.lop q := by
  have h1 := h.rw; have h2 := h.st; have h3 := h.wy; have h4 := h.dp; have h5 := h.lp; have h6 := h.w1
  have h7 : m.wy ≤ m.wy * q.f := Nat.le_mul_of_pos_right _ hq
  have h8 : q.f ≤ m.wy * q.f := Nat.le_mul_of_pos_left _ h6
  refine ⟨by simp only [Mea.lop]; omega, by simp only [Mea.lop]; simp only at h2; omega, by simp only [Mea.lop]; simp only at h3; omega, Nat.max_le.mpr ⟨by simp only at h3; omega, h.lw⟩, by simp only [Mea.lop]; omega, by simp only [Mea.lop]; omega, Nat.le_refl _⟩
/-- so many ways a pick makes at most of those of its blocks -/
theorem Fit.pck {B D L : Nat} {p q : Pot} {ms : List Mea} {o : Bool} {F : Nat} (h : Fit B D L ⟨p.r, p.s - 1, F⟩ (Mea.all ms .one) q) (hs : 1 ≤ p.s) (hm : ∀ m ∈ ms, 1 ≤ m.wy) (hl : (ms.length = 2 ∧ 2 * F ≤ p.f) ∨ (ms.length = 3 ∧ 6 * F ≤ p.f)) : Fit B (D + 1) L p (Mea.pck o ms) q := by
  have h1 := h.rw; have h2 := h.st; have h3 := h.wy; have h4 := h.dp; have h5 := h.lp; have h6 := h.w1
  have key : ∀ k : Nat, k * F ≤ p.f → (Mea.all ms .one).wy * k * q.f ≤ p.f := fun k hk => by
    rw [Nat.mul_comm _ k, Nat.mul_assoc]
    exact Nat.le_trans (Nat.mul_le_mul_left k h3) hk
  have two : ∀ a b : Nat, 1 ≤ a → 1 ≤ b → a + b ≤ a * b * 2 := fun a b ha hb => by
    have e1 : a ≤ a * b := Nat.le_mul_of_pos_right _ hb
    have e2 : b ≤ a * b := Nat.le_mul_of_pos_left _ ha
    omega
  have ew : ((ms.map (·.wy)).sum ≤ (Mea.all ms .one).wy * 2 ∧ ms.length = 2 ∨ (ms.map (·.wy)).sum ≤ (Mea.all ms .one).wy * 6 ∧ ms.length = 3) ∧ 1 ≤ (ms.map (·.wy)).sum := by
    match ms, hm, hl with
    | [a, b], hm, _ =>
      have ha := hm a (by simp)
      have hb := hm b (by simp)
      refine ⟨.inl ⟨?_, rfl⟩, ?_⟩
      · have := two a.wy b.wy ha hb
        show a.wy + (b.wy + 0) ≤ 1 * a.wy * b.wy * 2
        rw [Nat.one_mul]
        omega
      · simp only [List.map_cons, List.map_nil, List.sum_cons, List.sum_nil]; omega
    | [a, b, c], hm, _ =>
      have ha := hm a (by simp)
      have hb := hm b (by simp)
      have hc := hm c (by simp)
      refine ⟨.inr ⟨?_, rfl⟩, ?_⟩
      · have e0 : 1 ≤ a.wy * b.wy := Nat.mul_le_mul ha hb
        have e1 := two a.wy b.wy ha hb
        have e2 : a.wy * b.wy ≤ a.wy * b.wy * c.wy := Nat.le_mul_of_pos_right _ hc
        have e3 : c.wy ≤ a.wy * b.wy * c.wy := Nat.le_mul_of_pos_left _ e0
        show a.wy + (b.wy + (c.wy + 0)) ≤ 1 * a.wy * b.wy * c.wy * 6
        rw [Nat.one_mul]
        generalize a.wy * b.wy * c.wy = x at e2 e3 ⊢
        generalize a.wy * b.wy = y at e0 e1 e2 ⊢
        omega
      · simp only [List.map_cons, List.map_nil, List.sum_cons, List.sum_nil]; omega
    | [], _, hl => simp at hl
    | [a], _, hl => simp at hl
    | a :: b :: c :: d :: r, _, hl => simp at hl
  refine ⟨by simp only [Mea.pck]; omega, by simp only [Mea.pck]; simp only at h2; omega, ?_, h.lw, by simp only [Mea.pck]; omega, h5, ?_⟩
  · cases o with
    | true =>
      simp only [Mea.pck, if_true]
      rcases hl with ⟨e, k⟩ | ⟨e, k⟩
      · rw [if_pos e]; exact key 2 k
      · rw [if_neg (by omega)]; exact key 6 k
    | false =>
      simp only [Mea.pck, Bool.false_eq_true, if_false]
      rcases ew.1 with ⟨e, k⟩ | ⟨e, k⟩
      · rcases hl with ⟨_, g⟩ | ⟨k', _⟩
        · exact Nat.le_trans (Nat.mul_le_mul_right _ e) (key 2 g)
        · omega
      · rcases hl with ⟨k', _⟩ | ⟨_, g⟩
        · omega
        · exact Nat.le_trans (Nat.mul_le_mul_right _ e) (key 6 g)
  · cases o with
    | true =>
      simp only [Mea.pck, if_true]
      split
      · omega
      · omega
    | false =>
      simp only [Mea.pck, Bool.false_eq_true, if_false]
      exact ew.2
end PyM
namespace PyM
open PySem
/-! ### a loop over an object -/
/-! ### the generator's state -/
structure Wen where
  w : Str
  n : Nat
  h : Nat
def Wen.o (e : Wen) : Ob := .lst [.p (.str e.w), .p (.int (e.n : Int)), .p (.int (e.h : Int))]
def roomO (a c l : Nat) : Ob := .lst [.p (.int (a : Int)), .p (.int (c : Int)), .p (.int (l : Int))]
structure Gst (n m q : Nat) (as : List Nat) (a c l : Nat) (es : List Wen) (st : Sto) : Prop where
  di : Dice st n
  rm : st[m]? = some (roomO a c l)
  wq : st[q]? = some (.lst (as.map .loc))
  len : as.length = es.length
  ent : ∀ (i x : Nat) (e : Wen), as[i]? = some x → es[i]? = some e → st[x]? = some e.o
  nd : (n :: m :: q :: as).Nodup
/-- objects but some stand as they stood -/
structure Keep (S : List Nat) (st st' : Sto) : Prop where
  le : st.length ≤ st'.length
  kp : ∀ k, k < st.length → k ∉ S → st'[k]? = st[k]?
theorem Keep.refl {S : List Nat} {st : Sto} : Keep S st st := ⟨Nat.le_refl _, fun _ _ _ => rfl⟩
theorem Keep.trans {S : List Nat} {a b c : Sto} (x : Keep S a b) (y : Keep S b c) : Keep S a c := ⟨Nat.le_trans x.le y.le, fun k hk hn => (y.kp k (Nat.lt_of_lt_of_le hk x.le) hn).trans (x.kp k hk hn)⟩
theorem Keep.set {S : List Nat} {st : Sto} {k : Nat} {o : Ob} (h : k ∈ S) : Keep S st (st.set k o) := ⟨by rw [List.length_set]; exact Nat.le_refl _, fun j _ hj => List.getElem?_set_ne fun (e : k = j) => hj (e ▸ h)⟩
theorem After.keep {n : Nat} {S : List Nat} {st st' : Sto} (a : After n st st') (h : n ∈ S) : Keep S st st' := ⟨a.le, fun k hk hn => a.kp k hk fun e => hn (e ▸ h)⟩
section
variable {n m q : Nat} {as : List Nat} {a c l : Nat} {es : List Wen} {st st' : Sto}
theorem Gst.lt (g : Gst n m q as a c l es st) : ∀ k ∈ n :: m :: q :: as, k < st.length := by
  intro k hk
  rcases List.mem_cons.mp hk with rfl | hk
  · exact g.di.lt
  rcases List.mem_cons.mp hk with rfl | hk
  · exact (List.getElem?_eq_some_iff.mp g.rm).1
  rcases List.mem_cons.mp hk with rfl | hk
  · exact (List.getElem?_eq_some_iff.mp g.wq).1
  obtain ⟨i, hi⟩ := List.mem_iff_getElem?.mp hk
  have h1 := (List.getElem?_eq_some_iff.mp hi).1
  have h2 : i < es.length := by rw [← g.len]; exact h1
  have := g.ent i k es[i] hi (List.getElem?_eq_getElem h2)
  exact (List.getElem?_eq_some_iff.mp this).1
/-- behind a step that changes the dice alone -/
theorem Gst.draw (g : Gst n m q as a c l es st) (x : After n st st') : Gst n m q as a c l es st' := by
  have nd := g.nd
  rw [List.nodup_cons] at nd
  have ne : ∀ k ∈ m :: q :: as, st'[k]? = st[k]? := fun k hk => x.kp k (g.lt k (List.mem_cons_of_mem _ hk)) fun e => nd.1 (e ▸ hk)
  refine ⟨x.di, (ne m (by simp)).trans g.rm, (ne q (by simp)).trans g.wq, g.len, fun i y e hy he => (ne y ?_).trans (g.ent i y e hy he), g.nd⟩
  exact List.mem_cons_of_mem _ (List.mem_cons_of_mem _ (List.mem_of_getElem? hy))
/-- behind a step that makes objects alone -/
theorem Gst.keep (g : Gst n m q as a c l es st) {S : List Nat} (x : Keep S st st') (h : ∀ k ∈ n :: m :: q :: as, k ∉ S) : Gst n m q as a c l es st' := by
  have ne : ∀ k ∈ n :: m :: q :: as, st'[k]? = st[k]? := fun k hk => x.kp k (g.lt k hk) (h k hk)
  obtain ⟨o, e, d⟩ := g.di
  refine ⟨⟨o, (ne n (by simp)).trans e, d⟩, (ne m (by simp)).trans g.rm, (ne q (by simp)).trans g.wq, g.len, fun i y e hy he => (ne y ?_).trans (g.ent i y e hy he), g.nd⟩
  exact List.mem_cons_of_mem _ (List.mem_cons_of_mem _ (List.mem_cons_of_mem _ (List.mem_of_getElem? hy)))
theorem Gst.room (g : Gst n m q as a c l es st) (a' c' l' : Nat) : Gst n m q as a' c' l' es (st.set m (roomO a' c' l')) := by
  have nd := g.nd
  simp only [List.nodup_cons, List.mem_cons, not_or] at nd
  have hm := g.lt m (by simp)
  obtain ⟨o, e, d⟩ := g.di
  refine ⟨⟨o, by rw [List.getElem?_set_ne (fun z => nd.1.1 z.symm)]; exact e, d⟩, List.getElem?_set_self hm, by rw [List.getElem?_set_ne nd.2.1.1]; exact g.wq, g.len, fun i y e hy he => ?_, g.nd⟩
  have ym := List.mem_of_getElem? hy
  rw [List.getElem?_set_ne (fun (z : m = y) => nd.2.1.2 (by rw [z]; exact ym))]
  exact g.ent i y e hy he
end
end PyM
namespace PyM
open PySem
/-! ### what may still be drawn -/
def prdE (f : Str → Nat) : List Wen → Nat
  | [] => 1
  | e :: r => f e.w ^ e.n * prdE f r
theorem prd_pos (f : Str → Nat) : ∀ es : List Wen, (∀ e ∈ es, 1 ≤ f e.w) → 1 ≤ prdE f es
  | [], _ => Nat.le_refl _
  | x :: r, h => Nat.mul_le_mul (Nat.pow_pos (h x (List.mem_cons_self ..))) (prd_pos f r fun e he => h e (List.mem_cons_of_mem _ he))
/-- words and how deep loops stand in them -/
def Wen.k (e : Wen) : Str × Nat := (e.w, e.h)
structure Wom (ω : Str → Mea) (B D : Nat) (ks : List (Str × Nat)) : Prop where
  b1 : 1 ≤ B
  ok : ∀ p ∈ ks, (ω p.1).lp = p.2 ∧ (ω p.1).lw ≤ B ∧ (ω p.1).dp ≤ D ∧ 1 ≤ (ω p.1).wy
theorem Wom.pos {ω : Str → Mea} {B D : Nat} {es : List Wen} (h : Wom ω B D (es.map Wen.k)) : 1 ≤ prdE (fun w => (ω w).wy) es := prd_pos _ es fun e he => (h.ok (e.w, e.h) (List.mem_map.mpr ⟨e, he, rfl⟩)).2.2.2
mutual
def WOkS (xs ws : List Str) (mc md : Int) : Bool → Wst → Prop
  | sets, .sums s x t => RowW xs mc md sets (.sums s x t)
  | sets, .lift x c l => RowW xs mc md sets (.lift x c l)
  | _, .loop x b => x ∈ xs ∧ WOkB xs ws mc md false b
  | sets, .pick _ bs => (bs.l.length = 2 ∨ bs.l.length = 3) ∧ WOkBs xs ws mc md sets bs
  | _, .call w => w ∈ ws
def WOkB (xs ws : List Str) (mc md : Int) : Bool → Wbl → Prop
  | _, .nil => True
  | sets, .cons s b => WOkS xs ws mc md sets s ∧ WOkB xs ws mc md sets b
def WOkBs (xs ws : List Str) (mc md : Int) : Bool → Wbs → Prop
  | _, .nil => True
  | sets, .cons b bs => WOkB xs ws mc md sets b ∧ WOkBs xs ws mc md sets bs
end
theorem Fit.le {B D L : Nat} {p q : Pot} {m : Mea} (h : Fit B D L p m q) : q.f ≤ p.f := Nat.le_trans (Nat.le_mul_of_pos_left _ h.w1) h.wy
end PyM
namespace PyM
open PySem
end PyM
namespace PyM
open PySem
end PyM
namespace PyM
open PySem
/-- a statement's first word -/
def Wst.wd : Wst → Str
  | .sums s _ _ => if s then "set" else "add"
  | .lift _ _ _ => "lift"
  | .loop _ _ => "loop"
  | .pick o _ => if o then "orders" else "either"
  | .call _ => "call"
mutual
def nsS : Wst → Nat
  | .loop _ b => nsB b + 1
  | .pick _ bs => nsBs bs + 1
  | _ => 0
def nsB : Wbl → Nat
  | .nil => 0
  | .cons s b => max (nsS s) (nsB b)
def nsBs : Wbs → Nat
  | .nil => 0
  | .cons b bs => max (nsB b) (nsBs bs)
end
end PyM
namespace PyM
open PySem
theorem all_dp : ∀ (ms : List Mea) (a : Mea), a.dp ≤ (Mea.all ms a).dp ∧ ∀ m ∈ ms, m.dp ≤ (Mea.all ms a).dp
  | [], a => ⟨Nat.le_refl _, fun _ h => nomatch h⟩
  | x :: r, a => by
    obtain ⟨h1, h2⟩ := all_dp r (a.jn x)
    rw [Mea.all]
    have h3 : a.dp ≤ (a.jn x).dp := Nat.le_max_left _ _
    have h4 : x.dp ≤ (a.jn x).dp := Nat.le_max_right _ _
    refine ⟨Nat.le_trans h3 h1, fun m hm => ?_⟩
    rcases List.mem_cons.mp hm with rfl | hm
    · exact Nat.le_trans h4 h1
    · exact h2 m hm
end PyM
namespace PyM
open PySem
/-! ### the package's looks at right data -/
end PyM
namespace PyM
open PySem
end PyM
namespace PyM
open PySem
end PyM
namespace PyM
open PySem
end PyM
namespace PyM
open PySem
end PyM
namespace PyM
open PySem
end PyM
namespace PyM
open PySem
end PyM
namespace PyM
open PySem
/-! ### measures by the package -/
def Mea.p (m : Mea) : P := .tup [.int (m.st : Int), .int (m.rw : Int), .int (m.dp : Int), .int (m.lp : Int), .int (m.wy : Int), .int (m.lw : Int)]
theorem all_le : ∀ (ms : List Mea) (a : Mea), (∀ m ∈ ms, 1 ≤ m.wy) → 1 ≤ a.wy → (a.wy ≤ (Mea.all ms a).wy ∧ ∀ m ∈ ms, m.wy ≤ (Mea.all ms a).wy) ∧ a.lw ≤ (Mea.all ms a).lw ∧ ∀ m ∈ ms, m.lw ≤ (Mea.all ms a).lw
  | [], a, _, _ => ⟨⟨Nat.le_refl _, fun _ h => nomatch h⟩, Nat.le_refl _, fun _ h => nomatch h⟩
  | x :: r, a, h, ha => by
    have hx := h x (List.mem_cons_self ..)
    obtain ⟨⟨h1, h2⟩, h3, h4⟩ := all_le r (a.jn x) (fun m hm => h m (List.mem_cons_of_mem _ hm)) (Nat.mul_le_mul ha hx)
    rw [Mea.all]
    have e1 : a.wy ≤ (a.jn x).wy := Nat.le_mul_of_pos_right _ hx
    have e2 : x.wy ≤ (a.jn x).wy := Nat.le_mul_of_pos_left _ ha
    have e3 : a.lw ≤ (a.jn x).lw := Nat.le_max_left _ _
    have e4 : x.lw ≤ (a.jn x).lw := Nat.le_max_right _ _
    refine ⟨⟨Nat.le_trans e1 h1, fun m hm => ?_⟩, Nat.le_trans e3 h3, fun m hm => ?_⟩
    · rcases List.mem_cons.mp hm with rfl | hm
      · exact Nat.le_trans e2 h1
      · exact h2 m hm
    · rcases List.mem_cons.mp hm with rfl | hm
      · exact Nat.le_trans e4 h3
      · exact h4 m hm
theorem sum_le : ∀ (l : List Nat) (n : Nat), n ∈ l → n ≤ l.sum
  | [], n, h => nomatch h
  | x :: r, n, h => by
    rw [List.sum_cons]
    rcases List.mem_cons.mp h with rfl | h
    · omega
    · have := sum_le r n h; omega
theorem mBs_len (ω : Str → Mea) (bs : Wbs) : (mBs ω bs).length = bs.l.length := by rw [mBs_l, List.length_map]
/-- a pick's blocks have at most its ways -/
theorem pck_le {o : Bool} {ms : List Mea} (h : ∀ m ∈ ms, 1 ≤ m.wy) : ∀ m ∈ ms, m.wy ≤ (Mea.pck o ms).wy ∧ m.lw ≤ (Mea.pck o ms).lw := fun m hm => by
  obtain ⟨⟨h1, h2⟩, h3, h4⟩ := all_le ms .one h (Nat.le_refl _)
  refine ⟨?_, h4 m hm⟩
  unfold Mea.pck
  cases o with
  | true =>
    simp only [if_true]
    refine Nat.le_trans (h2 m hm) (Nat.le_mul_of_pos_right _ ?_)
    split <;> omega
  | false => 
    simp only [Bool.false_eq_true, if_false]
    exact sum_le _ _ (List.mem_map.mpr ⟨m, hm, rfl⟩)
end PyM
namespace PyM
open PySem
end PyM
namespace PyM
open PySem
/-! ### Program -/
structure BodR (ω : Str → Mea) (xs ws : List Str) (ps : List (Str × Wbl)) : Prop where
  asc : ws.Pairwise sLt
  nm : ∀ w ∈ ws, NameOk w
  pm : ws.Perm (ps.map (·.1))
  len : ws.length ≤ 4
  ok : ∀ (k : Nat) w, ws[k]? = some w → ∃ b, aget ps w = some b ∧ WOkB xs (ws.drop (k + 1)) 9 3 false b ∧ ω w = mOf ω b ∧ nsB b < 8
  st : ∀ w ∈ ws, (ω w).st ≤ 40
  wy : ∀ w ∈ ws, (ω w).wy < 2 ^ 60
  lw : ∀ w ∈ ws, (ω w).lw < 2 ^ 60
  w1 : ∀ w ∈ ws, 1 ≤ (ω w).wy
theorem aget_map {α : Type} (f : Str → α) : ∀ {ws : List Str} {w : Str}, w ∈ ws → aget (ws.map fun w => (w, f w)) w = some (f w)
  | [], w, h => nomatch h
  | x :: r, w, h => by
    by_cases e : x = w
    · subst e
      simp [aget]
    · have h' : w ∈ r := (List.mem_cons.mp h).resolve_left fun z => e z.symm
      have := aget_map f h'
      simp only [aget, List.map_cons, List.find?_cons, e, decide_false] at this ⊢
      exact this
end PyM
namespace PyM
open PySem
/-- a program -/
def bodyOf (ps : List (Str × Wbl)) (w : Str) : Wbl := (aget ps w).getD .nil
theorem aput_newS {α : Type} {ps : List (Str × α)} {x : Str} {v : α} (h : x ∉ ps.map (·.1)) : aput ps x v = ps ++ [(x, v)] := by
  unfold aput
  rw [if_neg fun c => h (ahas_iff.mp c)]
end PyM
namespace PyM
open PySem
/-! ### the drawn world -/
theorem RowW.mono {xs : List Str} {mc md mc' md' : Int} {sets : Bool} (h1 : mc ≤ mc') (h2 : md ≤ md') : ∀ {s : Wst}, RowW xs mc md sets s → RowW xs mc' md' sets s
  | .sums _ _ _, h => ⟨h.1, ⟨h.2.1.ne, h.2.1.asc, fun q hq => by
      obtain ⟨a, b, c⟩ := h.2.1.mem q hq
      exact ⟨a, by omega, c.can, c.mem, Int.le_trans c.sm h2⟩⟩, h.2.2⟩
  | .lift _ _ _, h => ⟨h.1, h.2.1, by have := h.2.2.1; omega, h.2.2.2.can, h.2.2.2.mem, Int.le_trans h.2.2.2.sm h2⟩
  | .loop _ _, h => h.elim
  | .pick _ _, h => h.elim
  | .call _, h => h.elim
end PyM
namespace PyM
open PySem
structure Wsta (n b h q : Nat) (as : List Nat) (es : List Wen) (ps : List (Str × Wbl)) (hs : List (Str × Int)) (st : Sto) : Prop where
  di : Dice st n
  bo : st[b]? = some (kvp P.str (fun b => P.tup (wblP b)) ps)
  he : st[h]? = some (kvp P.str P.int hs)
  en : st[q]? = some (.lst (as.map .loc))
  len : as.length = es.length
  ent : ∀ (i x : Nat) (e : Wen), as[i]? = some x → es[i]? = some e → st[x]? = some e.o
  nd : (n :: b :: h :: q :: as).Nodup
theorem Wsta.lt {n b h q : Nat} {as : List Nat} {es : List Wen} {ps : List (Str × Wbl)} {hs : List (Str × Int)} {st : Sto} (S : Wsta n b h q as es ps hs st) : ∀ k ∈ n :: b :: h :: q :: as, k < st.length := by
  intro k hk
  rcases List.mem_cons.mp hk with rfl | hk
  · exact S.di.lt
  rcases List.mem_cons.mp hk with rfl | hk
  · exact (List.getElem?_eq_some_iff.mp S.bo).1
  rcases List.mem_cons.mp hk with rfl | hk
  · exact (List.getElem?_eq_some_iff.mp S.he).1
  rcases List.mem_cons.mp hk with rfl | hk
  · exact (List.getElem?_eq_some_iff.mp S.en).1
  obtain ⟨i, hi⟩ := List.mem_iff_getElem?.mp hk
  have h1 := (List.getElem?_eq_some_iff.mp hi).1
  have h2 : i < es.length := by rw [← S.len]; exact h1
  exact (List.getElem?_eq_some_iff.mp (S.ent i k es[i] hi (List.getElem?_eq_getElem h2))).1
theorem Keep.push {S : List Nat} (st : Sto) (x : Ob) : Keep S st (st ++ [x]) := ⟨by rw [List.length_append]; omega, fun k hk _ => List.getElem?_append_left hk⟩
theorem Keep.mono {S T : List Nat} {st st' : Sto} (k : Keep S st st') (h : ∀ x ∈ S, x ∈ T) : Keep T st st' := ⟨k.le, fun j hj hn => k.kp j hj fun c => hn (h j c)⟩
/-- the inner words -/
def inn (c : Nat) (es : List Wen) : List Wen := if c = 0 then es.map fun e => { e with n := 1 } else []
end PyM
namespace PyM
open PySem
end PyM
namespace PyM
open PySem
end PyM
namespace PyM
open PySem
theorem Wsta.draw {n b h q : Nat} {as : List Nat} {es : List Wen} {ps : List (Str × Wbl)} {hs : List (Str × Int)} {st st' : Sto} (S : Wsta n b h q as es ps hs st) (a : After n st st') : Wsta n b h q as es ps hs st' := by
  have nd := S.nd
  rw [List.nodup_cons] at nd
  have ne : ∀ k ∈ b :: h :: q :: as, st'[k]? = st[k]? := fun k hk => a.kp k (S.lt k (List.mem_cons_of_mem _ hk)) fun e => nd.1 (e ▸ hk)
  exact ⟨a.di, (ne b (by simp)).trans S.bo, (ne h (by simp)).trans S.he, (ne q (by simp)).trans S.en, S.len, fun i x e hx he => (ne x (by simp [List.mem_of_getElem? hx])).trans (S.ent i x e hx he), S.nd⟩
end PyM
namespace PyM
open PySem
/-! ### rows as they stand -/
theorem all_rw : ∀ (ms : List Mea) (a : Mea), (Mea.all ms a).rw = a.rw + (ms.map (·.rw)).sum
  | [], a => by simp [Mea.all]
  | x :: r, a => by
    rw [Mea.all, all_rw r]
    simp [Mea.jn]
    omega
end PyM
namespace PyM
open PySem
theorem all_st : ∀ (ms : List Mea) (a : Mea), (Mea.all ms a).st = a.st + (ms.map (·.st)).sum
  | [], a => by simp [Mea.all]
  | x :: r, a => by
    rw [Mea.all, all_st r]
    simp [Mea.jn]
    omega
/-! ### _law_same -/
/-! ### rows of a program -/
end PyM
namespace PyM
open PySem
/-- a program does not tell how its bodies were put -/
theorem BodR.turn {ω : Str → Mea} {xs ws : List Str} {ps : List (Str × Wbl)} (R : BodR ω xs ws ps) {us : List Str} (hu : ws.Perm us) : BodR ω xs ws (us.map fun w => (w, bodyOf ps w)) := by
  refine ⟨R.asc, R.nm, by rw [List.map_map]; exact hu.trans (.of_eq (List.map_id us).symm), R.len, fun k w hk => ?_, R.st, R.wy, R.lw, R.w1⟩
  obtain ⟨b, gb, h⟩ := R.ok k w hk
  refine ⟨b, ?_, h⟩
  rw [aget_map (bodyOf ps) (hu.mem_iff.mp (List.mem_of_getElem? hk))]
  unfold bodyOf
  rw [gb]; rfl
end PyM
namespace PyM
open PySem
/-! ### ways, in plain Lean -/
abbrev Way := List Int
def both (as bs : List Way) : List Way := (as.map fun a => bs.map fun b => a ++ b).flatten
theorem mem_both {as bs : List Way} {c : Way} : c ∈ both as bs ↔ ∃ a ∈ as, ∃ b ∈ bs, c = a ++ b := by
  unfold both
  simp only [List.mem_flatten, List.mem_map]
  constructor
  · rintro ⟨l, ⟨a, ha, rfl⟩, hc⟩
    obtain ⟨b, hb, rfl⟩ := List.mem_map.mp hc
    exact ⟨a, ha, b, hb, rfl⟩
  · rintro ⟨a, ha, b, hb, rfl⟩
    exact ⟨_, ⟨a, ha, rfl⟩, List.mem_map.mpr ⟨b, hb, rfl⟩⟩
theorem both_nil (bs : List Way) : both [] bs = [] := rfl
theorem both_cons (a : Way) (as bs : List Way) : both (a :: as) bs = (bs.map fun b => a ++ b) ++ both as bs := rfl
theorem both_len (as bs : List Way) : (both as bs).length = as.length * bs.length := by
  induction as with
  | nil => simp [both_nil]
  | cons a as ih => rw [both_cons, List.length_append, ih, List.length_map, List.length_cons, Nat.succ_mul]; omega
/-- strictly less, none a beginning of the other -/
def slt (a b : Way) : Prop := ∃ p x y a' b', a = p ++ x :: a' ∧ b = p ++ y :: b' ∧ x < y
/-- either: the blocks' ways behind their numbers -/
def eithW : Int → List (List Way) → List Way
  | _, [] => []
  | k, W :: r => both [[k]] W ++ eithW (k + 1) r
def ordsN (n : Nat) : List (List Nat) := if n = 2 then [[0, 1], [1, 0]] else [[0, 1, 2], [0, 2, 1], [1, 0, 2], [1, 2, 0], [2, 0, 1], [2, 1, 0]]
/-- by one order -/
def ordW (Ws : List (List Way)) (o : List Nat) (t : List Way) : List Way := o.foldl (fun t e => both t (Ws.getD e [])) t
/-- orders: by each order, behind its number -/
def ordsW (Ws : List (List Way)) : Int → List (List Nat) → List Way
  | _, [] => []
  | k, o :: r => ordW Ws o [[k]] ++ ordsW Ws (k + 1) r
mutual
def wyS (L : Str → List Way) : Wst → List Way
  | .call w => L w
  | .pick o bs => if o then ordsW (wyBs L bs) 0 (ordsN (wyBs L bs).length) else eithW 0 (wyBs L bs)
  | _ => [[]]
def wyB (L : Str → List Way) : Wbl → List Way
  | .nil => [[]]
  | .cons s b => both (wyS L s) (wyB L b)
def wyBs (L : Str → List Way) : Wbs → List (List Way)
  | .nil => []
  | .cons b bs => wyB L b :: wyBs L bs
end
theorem wyBs_l (L : Str → List Way) : ∀ bs : Wbs, wyBs L bs = bs.l.map (wyB L)
  | .nil => by rw [wyBs, Wbs.l]; rfl
  | .cons b bs => by rw [wyBs, Wbs.l, wyBs_l L bs]; rfl
end PyM
namespace PyM
open PySem
/-! ### ways as data; their order -/
def wyP (w : Way) : P := .tup (w.map .int)
/-! ### blocks written out -/
def Wbl.app : List Wst → Wbl → Wbl
  | [], b => b
  | s :: r, b => .cons s (Wbl.app r b)
mutual
def iwS (β : Str → Wbl) : Wst → List Wst
  | .call w => (β w).l
  | .loop x b => [.loop x (iwB β b)]
  | .pick o bs => [.pick o (iwBs β bs)]
  | .sums s x t => [.sums s x t]
  | .lift x c l => [.lift x c l]
def iwB (β : Str → Wbl) : Wbl → Wbl
  | .nil => .nil
  | .cons s b => Wbl.app (iwS β s) (iwB β b)
def iwBs (β : Str → Wbl) : Wbs → Wbs
  | .nil => .nil
  | .cons b bs => .cons (iwB β b) (iwBs β bs)
end
/-! how deep a walk goes, calls with it -/
mutual
def nkS (κ : Str → Nat) : Wst → Nat
  | .call w => κ w + 1
  | .loop _ b => nkB κ b + 1
  | .pick _ bs => nkBs κ bs + 1
  | .sums _ _ _ => 0
  | .lift _ _ _ => 0
def nkB (κ : Str → Nat) : Wbl → Nat
  | .nil => 0
  | .cons s b => max (nkS κ s) (nkB κ b)
def nkBs (κ : Str → Nat) : Wbs → Nat
  | .nil => 0
  | .cons b bs => max (nkB κ b) (nkBs κ bs)
end
/-- the walks of a program's bodies -/
structure Cls (ω : Str → Mea) (xs ws : List Str) (ps : List (Str × Wbl)) (β : Str → Wbl) (κ : Str → Nat) (L : Str → List Way) : Prop where
  be : ∀ w ∈ ws, β w = iwB β (bodyOf ps w)
  ka : ∀ w ∈ ws, κ w = nkB κ (bodyOf ps w)
  kd : ∀ w ∈ ws, κ w ≤ (ω w).dp + 5
  la : ∀ w ∈ ws, L w = wyB L (bodyOf ps w)
  ls : ∀ w, (L w).Pairwise slt
  ok : ∀ w ∈ ws, WOkB xs ws 9 3 false (bodyOf ps w)
end PyM
namespace PyM
open PySem
/-! ### walks over a value, wherever it stands -/
theorem pureL_inv : ∀ {ds : List D} {xs : List P}, pureL ds = some xs → ds = xs.map .p
  | [], xs, h => by cases h; rfl
  | .p x :: r, xs, h => by
    rw [pureL] at h
    cases q : pureL r with
    | none => rw [q] at h; cases h
    | some ys =>
      rw [q] at h
      cases h
      rw [pureL_inv q]; rfl
  | .loc n :: r, xs, h => by rw [pureL] at h; cases h
theorem src_rd {st : Sto} {d : D} {xs : List P} (h : rd st d = some (.lst xs)) : srcOf st d = some (.fix (xs.map .p)) ∨ ∃ n, d = .loc n ∧ srcOf st d = some (.loc n) ∧ st[n]? = some (.lst (xs.map .p)) := by
  cases d with
  | p x =>
    have h : some x = some (P.lst xs) := h
    cases h
    exact .inl rfl
  | loc n =>
    have h : (match st[n]? with
      | some o => o.view
      | none => none) = some (P.lst xs) := h
    cases q : st[n]? with
    | none => rw [q] at h; cases h
    | some o =>
      rw [q] at h
      cases o with
      | lst ds =>
        have h : (pureL ds).map P.lst = some (P.lst xs) := h
        cases q2 : pureL ds with
        | none => rw [q2] at h; cases h
        | some ys =>
          rw [q2] at h
          cases h
          refine .inr ⟨n, rfl, by simp [srcOf, q], ?_⟩
          rw [q, pureL_inv q2]
      | dct kvs =>
        have h : (pureK kvs).map P.dct = some (P.lst xs) := h
        cases q2 : pureK kvs with
        | none => rw [q2] at h; cases h
        | some ys => rw [q2] at h; cases h
      | ins c fs =>
        have h : (pureF fs).map (P.ins c) = some (P.lst xs) := h
        cases q2 : pureF fs with
        | none => rw [q2] at h; cases h
        | some ys => rw [q2] at h; cases h
      | dead => cases h
/-! ### both_behind -/
structure WyOk (W : List Way) : Prop where
  n : W.length ≤ 1000
  l : ∀ w ∈ W, w.length ≤ 1000
end PyM
namespace PyM
open PySem
/-! ### how many ways, how long -/
theorem getD0 {α : Type} (a : α) (r : List α) (d : α) : (a :: r).getD 0 d = a := rfl
theorem getD1 {α : Type} (a b : α) (r : List α) (d : α) : (a :: b :: r).getD 1 d = b := rfl
theorem getD2 {α : Type} (a b c : α) (r : List α) (d : α) : (a :: b :: c :: r).getD 2 d = c := rfl
theorem ords2 (A B : List Way) : ordsW [A, B] 0 (ordsN 2) = both (both [[0]] A) B ++ both (both [[1]] B) A := by
  simp only [ordsN, if_true, ordsW, ordW, List.foldl_cons, List.foldl_nil, getD0, getD1, List.append_nil]
  rfl
theorem ords3 (A B C : List Way) : ordsW [A, B, C] 0 (ordsN 3) = both (both (both [[0]] A) B) C ++ (both (both (both [[1]] A) C) B ++ (both (both (both [[2]] B) A) C ++ (both (both (both [[3]] B) C) A ++ (both (both (both [[4]] C) A) B ++ both (both (both [[5]] C) B) A)))) := by
  have e : ¬ (3 = 2) := by decide
  simp only [ordsN, if_neg e, ordsW, ordW, List.foldl_cons, List.foldl_nil, getD0, getD1, getD2, List.append_nil]
  rfl
theorem eith2 (A B : List Way) : eithW 0 [A, B] = both [[0]] A ++ both [[1]] B := by
  simp only [eithW, List.append_nil]
  rfl
theorem eith3 (A B C : List Way) : eithW 0 [A, B, C] = both [[0]] A ++ (both [[1]] B ++ both [[2]] C) := by
  simp only [eithW, List.append_nil]
  rfl
mutual
/-- picks of two or three blocks, calls of some words -/
def pkS (ws : List Str) : Wst → Prop
  | .call w => w ∈ ws
  | .pick _ bs => (bs.l.length = 2 ∨ bs.l.length = 3) ∧ pkBs ws bs
  | .loop _ _ => True
  | .sums _ _ _ => True
  | .lift _ _ _ => True
def pkB (ws : List Str) : Wbl → Prop
  | .nil => True
  | .cons s b => pkS ws s ∧ pkB ws b
def pkBs (ws : List Str) : Wbs → Prop
  | .nil => True
  | .cons b bs => pkB ws b ∧ pkBs ws bs
end
mutual
theorem wp1S {ω : Str → Mea} {ws : List Str} (hw : ∀ w ∈ ws, 1 ≤ (ω w).wy) : ∀ (s : Wst), pkS ws s → 1 ≤ (mS ω s).wy
  | .sums _ _ _, _ => by rw [mS]; exact Nat.le_refl _
  | .lift _ _ _, _ => by rw [mS]; exact Nat.le_refl _
  | .call w, h => by rw [mS]; rw [pkS] at h; exact hw w h
  | .loop _ b, _ => by rw [mS]; exact Nat.le_refl _
  | .pick o bs, h => by
    rw [pkS] at h
    rw [mS]
    have q := wp1Bs hw bs h.2
    obtain ⟨m, hm⟩ : ∃ m, m ∈ mBs ω bs := by
      have := mBs_len ω bs
      match mBs ω bs, this with
      | [], e => simp at e; omega
      | m :: _, _ => exact ⟨m, List.mem_cons_self ..⟩
    exact Nat.le_trans (q m hm) (pck_le q m hm).1
theorem wp1B {ω : Str → Mea} {ws : List Str} (hw : ∀ w ∈ ws, 1 ≤ (ω w).wy) : ∀ (b : Wbl), pkB ws b → ∀ m ∈ mB ω b, 1 ≤ m.wy
  | .nil, _, m, hm => by rw [mB] at hm; cases hm
  | .cons s b, h, m, hm => by
    rw [pkB] at h
    rw [mB] at hm
    rcases List.mem_cons.mp hm with rfl | hm
    · exact wp1S hw s h.1
    · exact wp1B hw b h.2 m hm
theorem wp1Bs {ω : Str → Mea} {ws : List Str} (hw : ∀ w ∈ ws, 1 ≤ (ω w).wy) : ∀ (b : Wbs), pkBs ws b → ∀ m ∈ mBs ω b, 1 ≤ m.wy
  | .nil, _, m, hm => by rw [mBs] at hm; cases hm
  | .cons s b, h, m, hm => by
    rw [pkBs] at h
    rw [mBs] at hm
    rcases List.mem_cons.mp hm with rfl | hm
    · exact (all_le _ Mea.one (wp1B hw s h.1) (Nat.le_refl 1)).1.1
    · exact wp1Bs hw b h.2 m hm
end
mutual
theorem wnS {L : Str → List Way} {ω : Str → Mea} {ws : List Str} (h : ∀ w ∈ ws, (L w).length ≤ (ω w).wy) : ∀ (s : Wst), pkS ws s → (wyS L s).length ≤ (mS ω s).wy
  | .sums _ _ _, _ => by rw [wyS, mS] <;> first | exact Nat.le_refl _ | (intros; contradiction)
  | .lift _ _ _, _ => by rw [wyS, mS] <;> first | exact Nat.le_refl _ | (intros; contradiction)
  | .loop _ _, _ => by rw [wyS, mS] <;> first | exact Nat.le_refl _ | (intros; contradiction)
  | .call w, o => by rw [pkS] at o; rw [wyS, mS]; exact h w o
  | .pick o bs, ok => by
    rw [pkS] at ok
    have q := wnBs h bs ok.2
    have ml := mBs_len ω bs
    rw [wyS, mS, mBs_l, wyBs_l, List.length_map]
    have l2 := ok.1
    match bs.l, q, l2 with
    | [a, b], q, _ =>
      have qa := q a (by simp)
      have qb := q b (by simp)
      have e := Nat.mul_le_mul qa qb
      cases o with
      | true =>
        rw [if_pos rfl]
        show (ordsW [wyB L a, wyB L b] 0 (ordsN 2)).length ≤ 1 * (mOf ω a).wy * (mOf ω b).wy * 2
        rw [ords2, List.length_append, both_len, both_len, both_len, both_len]
        have e2 := Nat.mul_comm (wyB L b).length (wyB L a).length
        simp only [List.length_singleton, Nat.one_mul] at *
        omega
      | false =>
        rw [if_neg (by decide)]
        show (eithW 0 [wyB L a, wyB L b]).length ≤ (mOf ω a).wy + ((mOf ω b).wy + 0)
        rw [eith2, List.length_append, both_len, both_len]
        simp only [List.length_singleton, Nat.one_mul]
        omega
    | [a, b, c], q, _ =>
      have qa := q a (by simp)
      have qb := q b (by simp)
      have qc := q c (by simp)
      have e := Nat.mul_le_mul (Nat.mul_le_mul qa qb) qc
      cases o with
      | true =>
        rw [if_pos rfl]
        show (ordsW [wyB L a, wyB L b, wyB L c] 0 (ordsN 3)).length ≤ 1 * (mOf ω a).wy * (mOf ω b).wy * (mOf ω c).wy * 6
        rw [ords3]
        simp only [List.length_append, both_len, List.length_singleton, Nat.one_mul]
        generalize (wyB L a).length = x at *
        generalize (wyB L b).length = y at *
        generalize (wyB L c).length = z at *
        have p1 : x * z * y = x * y * z := Nat.mul_right_comm x z y
        have p2 : y * x * z = x * y * z := by rw [Nat.mul_comm y x]
        have p3 : y * z * x = x * y * z := by rw [Nat.mul_comm (y * z) x, Nat.mul_assoc]
        have p4 : z * x * y = x * y * z := by rw [Nat.mul_assoc z x y, Nat.mul_comm z]
        have p5 : z * y * x = x * y * z := by rw [Nat.mul_assoc z y x, Nat.mul_comm z, Nat.mul_comm y x]
        omega
      | false =>
        rw [if_neg (by decide)]
        show (eithW 0 [wyB L a, wyB L b, wyB L c]).length ≤ (mOf ω a).wy + ((mOf ω b).wy + ((mOf ω c).wy + 0))
        rw [eith3]
        simp only [List.length_append, both_len, List.length_singleton, Nat.one_mul]
        omega
    | [], _, l2 => simp at l2
    | [a], _, l2 => simp at l2
    | a :: b :: c :: d :: r, _, l2 => simp at l2
theorem wnB {L : Str → List Way} {ω : Str → Mea} {ws : List Str} (h : ∀ w ∈ ws, (L w).length ≤ (ω w).wy) : ∀ (b : Wbl), pkB ws b → (wyB L b).length ≤ (mOf ω b).wy
  | .nil, _ => by rw [wyB]; unfold mOf; rw [mB]; exact Nat.le_refl _
  | .cons s b, o => by
    rw [pkB] at o
    have h1 := wnS h s o.1
    have h2 := wnB h b o.2
    unfold mOf at h2 ⊢
    rw [wyB, mB, both_len]
    have z : ∀ (ms : List Mea) (a : Mea), (Mea.all ms a).wy = a.wy * (Mea.all ms .one).wy := fun ms => by
      induction ms with
      | nil => intro a; simp [Mea.all, Mea.one]
      | cons x r ih =>
        intro a
        rw [Mea.all, Mea.all, ih, ih (Mea.jn _ _)]
        simp only [Mea.jn, Mea.one, Nat.one_mul, Nat.mul_assoc]
    rw [Mea.all, z]
    have e : (Mea.one.jn (mS ω s)).wy = (mS ω s).wy := Nat.one_mul _
    rw [e]
    exact Nat.mul_le_mul h1 h2
theorem wnBs {L : Str → List Way} {ω : Str → Mea} {ws : List Str} (h : ∀ w ∈ ws, (L w).length ≤ (ω w).wy) : ∀ (bs : Wbs), pkBs ws bs → ∀ b ∈ bs.l, (wyB L b).length ≤ (mOf ω b).wy
  | .nil, _, b, hb => by rw [Wbs.l] at hb; cases hb
  | .cons b bs, o, c, hc => by
    rw [pkBs] at o
    rw [Wbs.l] at hc
    have r1 := wnB h b o.1
    have r2 := wnBs h bs o.2 c
    rcases List.mem_cons.mp hc with e | hc
    · rw [e]; exact r1
    · exact r2 hc
end
theorem both_le {A B : List Way} {m n : Nat} (ha : ∀ a ∈ A, a.length ≤ m) (hb : ∀ b ∈ B, b.length ≤ n) : ∀ x ∈ both A B, x.length ≤ m + n := fun x hx => by
  obtain ⟨a, h1, b, h2, rfl⟩ := mem_both.mp hx
  have := ha a h1; have := hb b h2
  rw [List.length_append]; omega
theorem one_le (k : Int) : ∀ a ∈ ([[k]] : List Way), a.length ≤ 1 := fun a ha => by rw [List.mem_singleton.mp ha]; exact Nat.le_refl _
mutual
theorem wlS {L : Str → List Way} {ω : Str → Mea} {ws : List Str} (h : ∀ w ∈ ws, ∀ x ∈ L w, x.length ≤ (ω w).st) : ∀ (s : Wst), pkS ws s → ∀ x ∈ wyS L s, x.length ≤ (mS ω s).st
  | .sums _ _ _, _, x, hx => by rw [wyS] at hx <;> first | (rw [List.mem_singleton.mp hx]; exact Nat.zero_le _) | (intros; contradiction)
  | .lift _ _ _, _, x, hx => by rw [wyS] at hx <;> first | (rw [List.mem_singleton.mp hx]; exact Nat.zero_le _) | (intros; contradiction)
  | .loop _ _, _, x, hx => by rw [wyS] at hx <;> first | (rw [List.mem_singleton.mp hx]; exact Nat.zero_le _) | (intros; contradiction)
  | .call w, o, x, hx => by rw [pkS] at o; rw [wyS] at hx; rw [mS]; exact h w o x hx
  | .pick o bs, ok, x, hx => by
    rw [pkS] at ok
    have q := wlBs h bs ok.2
    rw [wyS, wyBs_l, List.length_map] at hx
    rw [mS, mBs_l]
    show x.length ≤ (Mea.all (bs.l.map (mOf ω)) .one).st + 1
    rw [all_st, List.map_map]
    show x.length ≤ 0 + (bs.l.map fun b => (mOf ω b).st).sum + 1
    have l2 := ok.1
    match bs.l, q, l2, hx with
    | [a, b], q, _, hx =>
      have qa := q a (by simp)
      have qb := q b (by simp)
      simp only [List.map_cons, List.map_nil, List.sum_cons, List.sum_nil]
      cases o with
      | true =>
        rw [if_pos rfl, List.map_cons, List.map_cons, List.map_nil] at hx
        rw [show ([a, b] : List Wbl).length = 2 from rfl, ords2, List.mem_append] at hx
        rcases hx with hx | hx
        · have := both_le (both_le (one_le 0) qa) qb x hx; omega
        · have := both_le (both_le (one_le 1) qb) qa x hx; omega
      | false =>
        rw [if_neg (by decide), List.map_cons, List.map_cons, List.map_nil, eith2, List.mem_append] at hx
        rcases hx with hx | hx
        · have := both_le (one_le 0) qa x hx; omega
        · have := both_le (one_le 1) qb x hx; omega
    | [a, b, c], q, _, hx =>
      have qa := q a (by simp)
      have qb := q b (by simp)
      have qc := q c (by simp)
      simp only [List.map_cons, List.map_nil, List.sum_cons, List.sum_nil]
      cases o with
      | true =>
        rw [if_pos rfl, List.map_cons, List.map_cons, List.map_cons, List.map_nil] at hx
        rw [show ([a, b, c] : List Wbl).length = 3 from rfl, ords3] at hx
        simp only [List.mem_append] at hx
        rcases hx with hx | hx | hx | hx | hx | hx
        · have := both_le (both_le (both_le (one_le 0) qa) qb) qc x hx; omega
        · have := both_le (both_le (both_le (one_le 1) qa) qc) qb x hx; omega
        · have := both_le (both_le (both_le (one_le 2) qb) qa) qc x hx; omega
        · have := both_le (both_le (both_le (one_le 3) qb) qc) qa x hx; omega
        · have := both_le (both_le (both_le (one_le 4) qc) qa) qb x hx; omega
        · have := both_le (both_le (both_le (one_le 5) qc) qb) qa x hx; omega
      | false =>
        rw [if_neg (by decide), List.map_cons, List.map_cons, List.map_cons, List.map_nil, eith3] at hx
        simp only [List.mem_append] at hx
        rcases hx with hx | hx | hx
        · have := both_le (one_le 0) qa x hx; omega
        · have := both_le (one_le 1) qb x hx; omega
        · have := both_le (one_le 2) qc x hx; omega
    | [], _, l2, _ => simp at l2
    | [a], _, l2, _ => simp at l2
    | a :: b :: c :: d :: r, _, l2, _ => simp at l2
theorem wlB {L : Str → List Way} {ω : Str → Mea} {ws : List Str} (h : ∀ w ∈ ws, ∀ x ∈ L w, x.length ≤ (ω w).st) : ∀ (b : Wbl), pkB ws b → ∀ x ∈ wyB L b, x.length ≤ (mOf ω b).st
  | .nil, _, x, hx => by rw [wyB] at hx; rw [List.mem_singleton.mp hx]; exact Nat.zero_le _
  | .cons s b, o, x, hx => by
    rw [pkB] at o
    rw [wyB] at hx
    have := both_le (wlS h s o.1) (wlB h b o.2) x hx
    unfold mOf at this ⊢
    rw [all_st] at this ⊢
    rw [mB, List.map_cons, List.sum_cons]
    show _ ≤ 0 + _
    have e : Mea.one.st = 0 := rfl
    omega
theorem wlBs {L : Str → List Way} {ω : Str → Mea} {ws : List Str} (h : ∀ w ∈ ws, ∀ x ∈ L w, x.length ≤ (ω w).st) : ∀ (bs : Wbs), pkBs ws bs → ∀ b ∈ bs.l, ∀ x ∈ wyB L b, x.length ≤ (mOf ω b).st
  | .nil, _, b, hb => by rw [Wbs.l] at hb; cases hb
  | .cons b bs, o, c, hc => by
    rw [pkBs] at o
    rw [Wbs.l] at hc
    have r1 := wlB h b o.1
    have r2 := wlBs h bs o.2 c
    rcases List.mem_cons.mp hc with e | hc
    · rw [e]; exact r1
    · exact r2 hc
end
/-! ### blocks without calls -/
mutual
def ncS : Wst → Prop
  | .call _ => False
  | .loop _ b => ncB b
  | .pick _ bs => (bs.l.length = 2 ∨ bs.l.length = 3) ∧ ncBs bs
  | .sums _ _ _ => True
  | .lift _ _ _ => True
def ncB : Wbl → Prop
  | .nil => True
  | .cons s b => ncS s ∧ ncB b
def ncBs : Wbs → Prop
  | .nil => True
  | .cons b bs => ncB b ∧ ncBs bs
end
mutual
theorem pk_nS : ∀ s : Wst, ncS s → pkS [] s
  | .sums _ _ _, _ => by rw [pkS]; trivial
  | .lift _ _ _, _ => by rw [pkS]; trivial
  | .loop _ _, _ => by rw [pkS]; trivial
  | .call w, o => by rw [ncS] at o; exact o.elim
  | .pick _ bs, o => by rw [ncS] at o; rw [pkS]; exact ⟨o.1, pk_nBs bs o.2⟩
theorem pk_nB : ∀ b : Wbl, ncB b → pkB [] b
  | .nil, _ => by rw [pkB]; trivial
  | .cons s b, o => by rw [ncB] at o; rw [pkB]; exact ⟨pk_nS s o.1, pk_nB b o.2⟩
theorem pk_nBs : ∀ b : Wbs, ncBs b → pkBs [] b
  | .nil, _ => by rw [pkBs]; trivial
  | .cons s b, o => by rw [ncBs] at o; rw [pkBs]; exact ⟨pk_nB s o.1, pk_nBs b o.2⟩
end
end PyM
namespace PyM
open PySem
/-! ### written_out -/
theorem st_memB {ω : Str → Mea} {b : Wbl} {s : Wst} (h : s ∈ b.l) : (mS ω s).st ≤ (mOf ω b).st := by
  have : mS ω s ∈ mB ω b := by rw [mB_l]; exact List.mem_map.mpr ⟨s, h, rfl⟩
  unfold mOf
  rw [all_st]
  have := sum_le _ _ (List.mem_map.mpr ⟨_, this, rfl⟩ : (mS ω s).st ∈ (mB ω b).map (·.st))
  omega
theorem st_memP {ω : Str → Mea} {o : Bool} {bs : Wbs} {b : Wbl} (h : b ∈ bs.l) : (mOf ω b).st ≤ (mS ω (.pick o bs)).st := by
  rw [mS]
  have : mOf ω b ∈ mBs ω bs := by rw [mBs_l]; exact List.mem_map.mpr ⟨b, h, rfl⟩
  show _ ≤ (Mea.all (mBs ω bs) .one).st + 1
  rw [all_st]
  have := sum_le _ _ (List.mem_map.mpr ⟨_, this, rfl⟩ : (mOf ω b).st ∈ (mBs ω bs).map (·.st))
  omega
end PyM
namespace PyM
open PySem
/-! ### statement_ways, block_ways -/
structure SzB (ω : Str → Mea) (b : Wbl) : Prop where
  wy : (mOf ω b).wy ≤ 1000
  st : (mOf ω b).st ≤ 900
structure SzS (ω : Str → Mea) (s : Wst) : Prop where
  wy : (mS ω s).wy ≤ 1000
  st : (mS ω s).st ≤ 900
section
variable {ω : Str → Mea} {L0 : Str → List Way} {b : Wbl}
theorem SzB.mem (z : SzB ω b) (n : ncB b) {s : Wst} (h : s ∈ b.l) : SzS ω s := by
  have w1 := wp1B (ω := ω) (ws := []) (fun _ h => nomatch h) b (pk_nB b n)
  have m : mS ω s ∈ mB ω b := by rw [mB_l]; exact List.mem_map.mpr ⟨s, h, rfl⟩
  exact ⟨Nat.le_trans ((all_le _ Mea.one w1 (Nat.le_refl 1)).1.2 _ m) z.wy, Nat.le_trans (st_memB h) z.st⟩
theorem SzS.blk {o : Bool} {bs : Wbs} (z : SzS ω (.pick o bs)) (n : ncS (.pick o bs)) {b : Wbl} (h : b ∈ bs.l) : SzB ω b := by
  rw [ncS] at n
  have w1 := wp1Bs (ω := ω) (ws := []) (fun _ h => nomatch h) bs (pk_nBs bs n.2)
  have m : mOf ω b ∈ mBs ω bs := by rw [mBs_l]; exact List.mem_map.mpr ⟨b, h, rfl⟩
  have q := (pck_le (o := o) w1 _ m).1
  have e : mS ω (.pick o bs) = Mea.pck o (mBs ω bs) := by rw [mS]
  refine ⟨?_, Nat.le_trans (st_memP (o := o) h) z.st⟩
  rw [← e] at q
  exact Nat.le_trans q z.wy
theorem SzB.ok (z : SzB ω b) (n : ncB b) : WyOk (wyB L0 b) := ⟨Nat.le_trans (wnB (ω := ω) (ws := []) (fun _ h => nomatch h) b (pk_nB b n)) z.wy, fun w hw => by have := wlB (ω := ω) (ws := []) (fun _ h => nomatch h) b (pk_nB b n) w hw; have := z.st; omega⟩
theorem SzS.ok {s : Wst} (z : SzS ω s) (n : ncS s) : WyOk (wyS L0 s) := ⟨Nat.le_trans (wnS (ω := ω) (ws := []) (fun _ h => nomatch h) s (pk_nS s n)) z.wy, fun w hw => by have := wlS (ω := ω) (ws := []) (fun _ h => nomatch h) s (pk_nS s n) w hw; have := z.st; omega⟩
theorem WyOk.l' {A B : List Way} (h : WyOk (A ++ B)) : WyOk A := ⟨by have := h.n; rw [List.length_append] at this; omega, fun w hw => h.l w (List.mem_append_left _ hw)⟩
theorem WyOk.r' {A B : List Way} (h : WyOk (A ++ B)) : WyOk B := ⟨by have := h.n; rw [List.length_append] at this; omega, fun w hw => h.l w (List.mem_append_right _ hw)⟩
end
end PyM
namespace PyM
open PySem
theorem ixLst (xs : List P) (i : Nat) {x : P} (h : xs[i]? = some x) (st : Sto) : ixD st (.p (.lst xs)) (.p (.int (i : Int))) = some (.p x) := by
  have hi := (List.getElem?_eq_some_iff.mp h).1
  have e : L2.atI xs (i : Int) = some x := by
    unfold L2.atI
    rw [ixN_nat (by omega) (by omega)]
    simp [h]
  show (L2.atI _ _).map _ = _
  rw [e]; rfl
end PyM
namespace PyM
open PySem
/-! ### what is written out measures the same -/
/-! ### a loop over a value, wherever it stands -/
end PyM
namespace PyM
open PySem
/-- a value whose reading is this -/
structure Rdk (st s : Sto) (d : D) (W : List Way) : Prop where
  kp : Keep [] st s
  rd : PyM.rd s d = some (.lst (W.map wyP))
theorem Rdk.later {st s s' : Sto} {d : D} {W : List Way} (r : Rdk st s d W) (k : Keep [] s s') : Rdk st s' d W := by
  refine ⟨r.kp.trans k, ?_⟩
  rcases src_rd r.rd with e | ⟨n, rfl, e, hat⟩
  · cases d with
    | p x => exact r.rd
    | loc n =>
      simp only [srcOf] at e
      split at e <;> cases e
  · have nl := (List.getElem?_eq_some_iff.mp hat).1
    exact rd_loc ((k.kp n nl (by simp)).trans hat)
end PyM
namespace PyM
open PySem
section
variable {ω : Str → Mea} {L : Str → List Way} {b : Wbl} {ws : List Str}
end
end PyM
namespace PyM
open PySem
end PyM
namespace PyM
open PySem
/-! ### powers added letter by letter -/
def pval (ps : List (Str × Int)) (y : Str) : Int := (aget ps y).getD 0
structure Pos (ps : List (Str × Int)) : Prop where
  nd : (ps.map (·.1)).Nodup
  one : ∀ q ∈ ps, 1 ≤ q.2
theorem Pos.nil : Pos [] := ⟨List.nodup_nil, fun _ h => nomatch h⟩
theorem Can.ps {l : Pr} (h : Can l) : Pos l := ⟨asc_nd h.asc, h.one⟩
theorem Pos.lo {ps : List (Str × Int)} (h : Pos ps) (y : Str) : 0 ≤ pval ps y := by
  unfold pval
  cases e : aget ps y with
  | none => exact Int.le_refl _
  | some v => exact Int.le_trans (by decide) (h.one _ (aget_mem e))
theorem Pos.add {ps : List (Str × Int)} (h : Pos ps) {q : Str × Int} (hq : 1 ≤ q.2) : Pos (addTo ps q) := ⟨aput_nodup h.nd, fun x hx => by
  rcases aput_mem hx with rfl | ⟨hx, _⟩
  · have := h.lo q.1
    unfold pval at this
    show 1 ≤ (aget ps q.1).getD 0 + q.2
    omega
  · exact h.one x hx⟩
theorem Pos.can {ps : List (Str × Int)} (h : Pos ps) : Can (prOf ps) := by
  unfold prOf
  refine ⟨?_, fun q hq => ?_⟩
  · rw [List.map_map]
    have : ((fun q : Str × Int => q.1) ∘ fun y => (y, (aget ps y).getD 0)) = id := rfl
    rw [this, List.map_id]
    exact srt_pw h.nd
  · obtain ⟨y, hy, rfl⟩ := List.mem_map.mp hq
    obtain ⟨r, hr, e⟩ := List.mem_map.mp ((srt_perm _).mem_iff.mp hy)
    have := aget_of h.nd (x := r.1) (v := r.2) hr
    rw [← e, this]
    exact h.one r hr
theorem Pos.pow {ps : List (Str × Int)} (h : Pos ps) (y : Str) : powOf (prOf ps) y = pval ps y := by
  by_cases c : y ∈ (prOf ps).map (·.1)
  · obtain ⟨q, hq, rfl⟩ := List.mem_map.mp c
    rw [powOf_in (asc_nd h.can.asc) hq]
    unfold prOf at hq
    obtain ⟨z, _, rfl⟩ := List.mem_map.mp hq
    rfl
  · rw [powOf_zero c]
    unfold pval
    have : aget ps y = none := aget_none.mpr fun hm => c (by
      unfold prOf
      rw [List.map_map]
      exact List.mem_map.mpr ⟨y, mem_srt.mpr hm, rfl⟩)
    rw [this]; rfl
/-- a product times names -/
noncomputable def rp (l : Pr) (rn : List Str) : Pr := prOf ((rn.map fun n => (n, (1 : Int))).foldl addTo (l.foldl putTo []))
/-! ### what rows give -/
structure Ct where
  k : Bool
  x : Str
  p : Pr
  c : Int
abbrev AL := List ((Str × Pr) × Int)
def mx (i j : Int) : Int := if j > i then j else i
def ctPut (S : AL × AL) (t : Ct) : AL × AL := if t.k = true then (aput S.1 (t.x, t.p) ((aget S.1 (t.x, t.p)).getD 0 + t.c), S.2) else (S.1, aput S.2 (t.x, t.p) (mx ((aget S.2 (t.x, t.p)).getD 0) t.c))
mutual
noncomputable def ctS (Γ : Str → List Str → List Ct) (rn : List Str) : Wst → List Ct
  | .sums _ x t => t.map fun q => ⟨true, x, rp q.2 rn, q.1⟩
  | .lift x c l => [⟨false, x, l, c⟩]
  | .loop x b => ctB Γ (rn ++ [x]) b
  | .pick _ bs => ctBs Γ rn bs
  | .call w => Γ w rn
noncomputable def ctB (Γ : Str → List Str → List Ct) (rn : List Str) : Wbl → List Ct
  | .nil => []
  | .cons s b => ctS Γ rn s ++ ctB Γ rn b
noncomputable def ctBs (Γ : Str → List Str → List Ct) (rn : List Str) : Wbs → List Ct
  | .nil => []
  | .cons b bs => ctB Γ rn b ++ ctBs Γ rn bs
end
end PyM
namespace PyM
open PySem
/-! ### collect -/
/-- the two dicts -/
structure Als (a b : Nat) (st : Sto) (S : AL × AL) : Prop where
  at1 : st[a]? = some (kvp kap2 P.int S.1)
  at2 : st[b]? = some (kvp kap2 P.int S.2)
  ne : a ≠ b
theorem Als.put {a b : Nat} {st : Sto} {S : AL × AL} (h : Als a b st S) (t : Ct) : ∃ st', Als a b st' (ctPut S t) ∧ Keep [a, b] st st' ∧ (t.k = true → st' = st.set a (kvp kap2 P.int (ctPut S t).1)) ∧ (t.k = false → st' = st.set b (kvp kap2 P.int (ctPut S t).2)) := by
  have l1 := (List.getElem?_eq_some_iff.mp h.at1).1
  have l2 := (List.getElem?_eq_some_iff.mp h.at2).1
  unfold ctPut
  cases e : t.k with
  | true =>
    refine ⟨_, ⟨List.getElem?_set_self l1, by rw [List.getElem?_set_ne h.ne]; exact h.at2, h.ne⟩, Keep.set (by simp), fun _ => rfl, fun z => (by cases z)⟩
  | false =>
    refine ⟨st.set b (kvp kap2 P.int (aput S.2 (t.x, t.p) (mx ((aget S.2 (t.x, t.p)).getD 0) t.c))), ⟨by rw [List.getElem?_set_ne (fun z => h.ne z.symm)]; exact h.at1, List.getElem?_set_self l2, h.ne⟩, Keep.set (by simp), fun z => (by cases z), fun _ => rfl⟩
/-! rows right for collecting -/
abbrev G0 : Str → List Str → List Ct := fun _ _ => []
end PyM
namespace PyM
open PySem
structure ALn (S : AL × AL) : Prop where
  na : (S.1.map (·.1)).Nodup
  nb : (S.2.map (·.1)).Nodup
theorem ALn.put {S : AL × AL} (h : ALn S) (t : Ct) : ALn (ctPut S t) := by
  unfold ctPut
  split
  · exact ⟨aput_nodup h.na, h.nb⟩
  · exact ⟨h.na, aput_nodup h.nb⟩
theorem ALn.nil : ALn ([], []) := ⟨List.nodup_nil, List.nodup_nil⟩
end PyM
namespace PyM
open PySem
/-! ### rows drawn apart, and a dict of what they come to -/
structure Wls (n m : Nat) (st0 st : Sto) (R : List Wst) : Prop where
  af : After n st0 st
  mm : st0.length ≤ m
  nm : n ≠ m
  at_ : st[m]? = some (.lst ((R.map wstP).map .p))
theorem Wls.draw {n m : Nat} {st0 st st' : Sto} {R : List Wst} (h : Wls n m st0 st R) (a : After n st st') : Wls n m st0 st' R := ⟨h.af.trans a, h.mm, h.nm, by
  rw [a.kp m (List.getElem?_eq_some_iff.mp h.at_).1 (fun e => h.nm e.symm)]
  exact h.at_⟩
theorem Wls.put {n m : Nat} {st0 st : Sto} {R R' : List Wst} (h : Wls n m st0 st R) : Wls n m st0 (st.set m (.lst ((R'.map wstP).map .p))) R' := ⟨h.af.put h.mm h.nm _, h.mm, h.nm, by rw [List.getElem?_set_self (List.getElem?_eq_some_iff.mp h.at_).1]⟩
/-! ### a dict by kinds, names and products -/
abbrev K3 := Bool × Str × Pr
def Ct.key (t : Ct) : K3 := (t.k, t.x, t.p)
/-- what a row gives, by the law -/
noncomputable def lcS (inn : Option Str) (many : Int) : Wst → List Ct
  | .sums _ x t => t.map fun q => ⟨true, x, rp q.2 inn.toList, many * q.1⟩
  | .lift x c l => [⟨false, x, l, c⟩]
  | _ => []
end PyM
namespace PyM
open PySem
/-! ### what stands under a key, contribution by contribution -/
def acc (κ : K3) (v : Option Int) (t : Ct) : Option Int := if t.key = κ then some (if t.k = true then v.getD 0 + t.c else mx (v.getD 0) t.c) else v
/-- twice -/
def dbl (t : Ct) : Ct := if t.k = true then ⟨t.k, t.x, t.p, 2 * t.c⟩ else t
/-! ### the dicts -/
end PyM
namespace PyM
open PySem
/-! ### the program of a loop made by hand -/
/-! ### what it gives -/
theorem lc2 {inn : Option Str} {xs : List Str} {mc md : Int} {sets : Bool} : ∀ {r : Wst}, RowW xs mc md sets r → lcS inn 2 r = (ctS G0 inn.toList r).map dbl
  | .sums _ _ _, _ => by rw [lcS, ctS, List.map_map]; rfl
  | .lift _ _ _, _ => by rw [lcS, ctS]; rfl
  | .loop _ _, h => h.elim
  | .pick _ _, h => h.elim
  | .call _, h => h.elim
end PyM
namespace PyM
open PySem
/-! ### a loop that puts rows in -/
theorem Dice.keep {st st' : Sto} {n m : Nat} (h : Dice st n) (k : Keep [m] st st') (hm : n ≠ m) : Dice st' n := by
  obtain ⟨o, e, d⟩ := h
  exact ⟨o, by rw [k.kp n (List.getElem?_eq_some_iff.mp e).1 (by simpa using hm)]; exact e, d⟩
end PyM
namespace PyM
open PySem
/-! ### ways, taken apart -/
/-! ### what is told by a way -/
def lnM (m : Mea) : Nat := m.st * 3 ^ m.dp
structure Sml3 (m : Mea) : Prop where
  dp : m.dp ≤ 8
  st : m.st ≤ 1000
  rw : m.rw ≤ 12
theorem rw_memB {ω : Str → Mea} {b : Wbl} {s : Wst} (h : s ∈ b.l) : (mS ω s).rw ≤ (mOf ω b).rw := by
  have : mS ω s ∈ mB ω b := by rw [mB_l]; exact List.mem_map.mpr ⟨s, h, rfl⟩
  unfold mOf
  rw [all_rw]
  have := sum_le _ _ (List.mem_map_of_mem (f := (·.rw)) this)
  omega
theorem dp_memB {ω : Str → Mea} {b : Wbl} {s : Wst} (h : s ∈ b.l) : (mS ω s).dp ≤ (mOf ω b).dp := by
  have : mS ω s ∈ mB ω b := by rw [mB_l]; exact List.mem_map.mpr ⟨s, h, rfl⟩
  exact (all_dp _ _).2 _ this
theorem Sml3.mem {ω : Str → Mea} {b : Wbl} {s : Wst} (H : Sml3 (mOf ω b)) (h : s ∈ b.l) : Sml3 (mS ω s) := ⟨Nat.le_trans (dp_memB h) H.dp, Nat.le_trans (st_memB h) H.st, Nat.le_trans (rw_memB h) H.rw⟩
structure SubP (ω : Str → Mea) (o : Bool) (bs : Wbs) (b : Wbl) : Prop where
  dp : (mOf ω b).dp + 1 ≤ (mS ω (.pick o bs)).dp
  st : (mOf ω b).st + 1 ≤ (mS ω (.pick o bs)).st
  rw : (mOf ω b).rw ≤ (mS ω (.pick o bs)).rw
theorem SubP.ln {ω : Str → Mea} {o : Bool} {bs : Wbs} {b : Wbl} (h : SubP ω o bs b) : 3 * lnM (mOf ω b) ≤ lnM (mS ω (.pick o bs)) := by
  unfold lnM
  have h1 : 3 ^ ((mOf ω b).dp + 1) ≤ 3 ^ (mS ω (.pick o bs)).dp := Nat.pow_le_pow_right (by decide) h.dp
  have h2 := Nat.mul_le_mul (show (mOf ω b).st ≤ (mS ω (.pick o bs)).st by have := h.st; omega) h1
  rw [Nat.pow_succ, ← Nat.mul_assoc] at h2
  omega
end PyM
namespace PyM
open PySem
end PyM
namespace PyM
open PySem
end PyM
namespace PyM
open PySem
end PyM
namespace PyM
open PySem
/-! ### how many contributions, of which products -/
def CtG (xs : List Str) (n : Nat) (l : List Ct) : Prop := l.length ≤ 3 * n ∧ ∀ t ∈ l, PrS xs t.p
theorem CtG.app {xs : List Str} {n m : Nat} {l l' : List Ct} (h : CtG xs n l) (h' : CtG xs m l') : CtG xs (n + m) (l ++ l') := ⟨by rw [List.length_append]; have := h.1; have := h'.1; omega, fun t ht => (List.mem_append.mp ht).elim (h.2 t) (h'.2 t)⟩
theorem CtG.nil {xs : List Str} {n : Nat} : CtG xs n [] := ⟨by simp, fun _ h => nomatch h⟩
/-! ### the law's flat rows -/
/-! ### a program of one loop and no bodies -/
end PyM
namespace PyM
open PySem
end PyM
namespace PyM
open PySem
/-! ### who hands on to whom -/
def lts (r : Row) : List Str := r.p.map (·.1)
def Dr (R : List Row) (x y : Str) : Prop := ∃ r ∈ R, r.x = x ∧ y ∈ lts r
def PN (R : List Row) : Nat → Str → Str → Prop
  | 0, _, _ => False
  | k + 1, x, y => Dr R x y ∨ ∃ z, PN R k x z ∧ Dr R z y
def Tc (R : List Row) (x y : Str) : Prop := ∃ k, PN R k x y
theorem PN.succ {R : List Row} : ∀ {k : Nat} {x y : Str}, PN R k x y → PN R (k + 1) x y
  | 0, _, _, h => h.elim
  | k + 1, x, y, h => by
    rcases h with h | ⟨z, h1, h2⟩
    · exact .inl h
    · exact .inr ⟨z, PN.succ h1, h2⟩
theorem PN.mono {R : List Row} {j k : Nat} {x y : Str} (h : PN R j x y) (l : j ≤ k) : PN R k x y := by
  induction l with
  | refl => exact h
  | step _ ih => exact ih.succ
theorem PN.add {R : List Row} {j : Nat} : ∀ {k : Nat} {x y z : Str}, PN R j x z → PN R k z y → PN R (j + k) x y
  | 0, _, _, _, _, h => h.elim
  | k + 1, x, y, z, h, h' => by
    rcases h' with h' | ⟨u, h1, h2⟩
    · exact .inr ⟨z, h.mono (Nat.le_add_right j k), h'⟩
    · exact .inr ⟨u, PN.add h h1, h2⟩
theorem PN.split {R : List Row} {j : Nat} (j1 : 1 ≤ j) : ∀ {k : Nat} {x y : Str}, PN R (j + k) x y → PN R j x y ∨ ∃ z, PN R j x z ∧ PN R k z y
  | 0, x, y, h => .inl h
  | k + 1, x, y, h => by
    rcases h with h | ⟨z, h1, h2⟩
    · exact .inl (PN.mono (j := 1) (.inl h) j1)
    · rcases PN.split j1 h1 with h3 | ⟨u, h3, h4⟩
      · exact .inr ⟨z, h3, PN.mono (j := 1) (.inl h2) (by omega)⟩
      · exact .inr ⟨u, h3, .inr ⟨z, h4, h2⟩⟩
theorem Tc.base {R : List Row} {x y : Str} (h : Dr R x y) : Tc R x y := ⟨1, .inl h⟩
theorem Tc.trans {R : List Row} {x y z : Str} (h : Tc R x y) (h' : Tc R y z) : Tc R x z := by
  obtain ⟨j, h⟩ := h
  obtain ⟨k, h'⟩ := h'
  exact ⟨j + k, h.add h'⟩
/-- all letters and names among these -/
def In (S : List Str) (R : List Row) : Prop := ∀ r ∈ R, r.x ∈ S ∧ ∀ y ∈ lts r, y ∈ S
theorem Dr.mem {S : List Str} {R : List Row} (hR : In S R) {x y : Str} (h : Dr R x y) : y ∈ S := by
  obtain ⟨r, hr, _, hy⟩ := h
  exact (hR r hr).2 y hy
theorem PN.mem {S : List Str} {R : List Row} (hR : In S R) {k : Nat} {x y : Str} (h : PN R k x y) : y ∈ S := by
  match k, h with
  | 0, h => exact h.elim
  | k + 1, .inl h => exact h.mem hR
  | k + 1, .inr ⟨z, _, h⟩ => exact h.mem hR
theorem Tc.mem {S : List Str} {R : List Row} (hR : In S R) {x y : Str} (h : Tc R x y) : y ∈ S := by
  obtain ⟨k, h⟩ := h
  exact h.mem hR
/-! ### the law's closure, round by round -/
def addU (l : List Str) (y : Str) : List Str := if y ∈ l then l else l ++ [y]
theorem mem_addU {l : List Str} {y z : Str} : z ∈ addU l y ↔ z ∈ l ∨ z = y := by
  unfold addU
  split
  · rename_i h
    exact ⟨.inl, fun c => c.elim id fun e => e ▸ h⟩
  · rw [List.mem_append, List.mem_singleton]
theorem nd_addU {l : List Str} {y : Str} (h : l.Nodup) : (addU l y).Nodup := by
  unfold addU
  split
  · exact h
  · rename_i c
    rw [List.nodup_append]
    exact ⟨h, by simp, fun a ha b hb e => c (by rw [List.mem_singleton] at hb; exact hb ▸ e ▸ ha)⟩
end PyM
namespace PyM
open PySem
/-! ### a dict of list objects -/
def lcs : Nat → List Str → List (Str × Nat)
  | _, [] => []
  | i, x :: r => (x, i) :: lcs (i + 1) r
theorem lcs_keys : ∀ (S : List Str) (j : Nat), (lcs j S).map (·.1) = S
  | [], _ => rfl
  | x :: r, j => by rw [lcs, List.map_cons, lcs_keys r]
theorem lcs_len (S : List Str) (j : Nat) : (lcs j S).length = S.length := by
  have := congrArg List.length (lcs_keys S j)
  rwa [List.length_map] at this
theorem aget_lcs : ∀ {S : List Str} {i j : Nat} {x : Str}, S.Nodup → S[i]? = some x → aget (lcs j S) x = some (i + j)
  | [], i, j, x, _, h => by simp at h
  | a :: r, 0, j, x, nd, h => by
    simp at h
    subst h
    simp [lcs, aget]
  | a :: r, i + 1, j, x, nd, h => by
    rw [List.nodup_cons] at nd
    have h : r[i]? = some x := by simpa using h
    have ne : a ≠ x := fun e => nd.1 (e ▸ List.mem_of_getElem? h)
    have := aget_lcs (j := j + 1) nd.2 h
    unfold aget at this ⊢
    rw [lcs, List.find?_cons_of_neg (by simpa using ne), this]
    congr 1
    omega
theorem lcs_snoc : ∀ (S : List Str) (j : Nat) (x : Str), lcs j (S ++ [x]) = lcs j S ++ [(x, S.length + j)]
  | [], j, x => by simp [lcs]
  | a :: r, j, x => by
    rw [List.cons_append, lcs, lcs, lcs_snoc r, List.cons_append, List.length_cons]
    congr 3
    congr 1
    omega
def updF (F : Str → List Str) (x : Str) (l : List Str) : Str → List Str := fun u => if u = x then l else F u
def lsO (l : List Str) : Ob := .lst ((l.map P.str).map .p)
structure RcI (S : List Str) (k : Nat) (F : Str → List Str) (st : Sto) : Prop where
  len : st.length = k + 1
  dc : st[0]? = some (.dct (kvs P.str D.loc (lcs 1 (S.take k))))
  ls : ∀ (i : Nat) x, i < k → S[i]? = some x → st[i + 1]? = some (lsO (F x))
structure OkF (S : List Str) (F : Str → List Str) : Prop where
  nd : ∀ u, (F u).Nodup
  su : ∀ u, ∀ y ∈ F u, y ∈ S
theorem OkF.len {S : List Str} {F : Str → List Str} (h : OkF S F) (u : Str) : (F u).length ≤ S.length := List.Nodup.length_le_of_subset (h.nd u) fun y hy => h.su u y hy
theorem OkF.add {S : List Str} {F : Str → List Str} (h : OkF S F) {x y : Str} (hy : y ∈ S) : OkF S (updF F x (addU (F x) y)) := ⟨fun u => by
  unfold updF
  split
  · exact nd_addU (h.nd x)
  · exact h.nd u, fun u z hz => by
  unfold updF at hz
  split at hz
  · rcases mem_addU.mp hz with hz | rfl
    · exact h.su x z hz
    · exact hy
  · exact h.su u z hz⟩
theorem updF_at (F : Str → List Str) (x : Str) (l : List Str) : updF F x l x = l := if_pos rfl
section
variable {S : List Str} {k : Nat} {F : Str → List Str} {st : Sto}
theorem RcI.ix (h : RcI S k F st) (nd : S.Nodup) {i : Nat} {x : Str} (hi : i < k) (hx : S[i]? = some x) : ixD st (.loc 0) (.p (.str x)) = some (.loc (i + 1)) := by
  have e : (S.take k)[i]? = some x := by rw [List.getElem?_take, if_pos hi]; exact hx
  simp only [ixD, h.dc]
  rw [if_pos (fit_str _ x), kvs_lk str_inj, aget_lcs ((List.take_sublist k S).nodup nd) e]
  rfl
theorem RcI.put (h : RcI S k F st) (nd : S.Nodup) {i : Nat} {x : Str} (hi : i < k) (hx : S[i]? = some x) (l : List Str) : RcI S k (updF F x l) (st.set (i + 1) (lsO l)) := by
  refine ⟨by rw [List.length_set]; exact h.len, by rw [List.getElem?_set_ne (by omega)]; exact h.dc, fun j y hj hy => ?_⟩
  by_cases e : j = i
  · subst e
    rw [hx] at hy
    cases hy
    rw [List.getElem?_set_self (by rw [h.len]; omega), updF_at]
  · have ne : y ≠ x := fun c => by
      subst c
      have a1 := List.getElem?_eq_some_iff.mp hx
      have a2 := List.getElem?_eq_some_iff.mp hy
      exact e ((List.getElem_inj nd).mp (a2.2.trans a1.2.symm))
    rw [List.getElem?_set_ne (by omega), h.ls j y hj hy]
    unfold updF
    rw [if_neg ne]
theorem RcI.new (h : RcI S k F st) (nd : S.Nodup) {x : Str} (hk : k < 1000) (hx : S[k]? = some x) : ∃ st', setIx (st ++ [lsO []]) (.loc 0) (.p (.str x)) (.loc st.length) = some st' ∧ RcI S (k + 1) (updF F x []) st' := by
  have kl := (List.getElem?_eq_some_iff.mp hx).1
  have d0 : (st ++ [lsO []])[0]? = some (.dct (kvs P.str D.loc (lcs 1 (S.take k)))) := by
    rw [List.getElem?_append_left (by rw [h.len]; omega)]; exact h.dc
  have tk : S.take (k + 1) = S.take k ++ [x] := by rw [List.take_add_one, hx]; rfl
  have nin : x ∉ S.take k := fun c => by
    obtain ⟨j, hj⟩ := List.getElem?_of_mem c
    rw [List.getElem?_take] at hj
    split at hj
    · rename_i hjk
      have a1 := List.getElem?_eq_some_iff.mp hx
      have a2 := List.getElem?_eq_some_iff.mp hj
      have := (List.getElem_inj nd).mp (a2.2.trans a1.2.symm)
      omega
    · cases hj
  have ln : (S.take k).length = k := by rw [List.length_take]; omega
  refine ⟨(st ++ [lsO []]).set 0 (.dct (kvs P.str D.loc (lcs 1 (S.take (k + 1))))), ?_, ?_, ?_, ?_⟩
  · simp only [setIx, d0]
    rw [if_pos ⟨fit_str _ x, by rw [sizeLine_eq]; unfold kvs; rw [List.length_map, lcs_len, ln]; omega⟩, kvs_put str_inj, tk, lcs_snoc, ln]
    congr 3
    rw [aput_newS (by rw [lcs_keys]; exact nin), h.len]
  · rw [List.length_set, List.length_append, h.len]; rfl
  · exact List.getElem?_set_self (by rw [List.length_append]; simp)
  · intro j y hj hy
    rw [List.getElem?_set_ne (by omega)]
    by_cases e : j = k
    · subst e
      rw [hx] at hy
      cases hy
      rw [← h.len, List.getElem?_append_right (Nat.le_refl _), updF_at]
      simp
    · have ne : y ≠ x := fun c => by
        subst c
        have a1 := List.getElem?_eq_some_iff.mp hx
        have a2 := List.getElem?_eq_some_iff.mp hy
        exact e ((List.getElem_inj nd).mp (a2.2.trans a1.2.symm))
      rw [List.getElem?_append_left (by rw [h.len]; omega), h.ls j y (by omega) hy]
      unfold updF
      rw [if_neg ne]
end
end PyM
namespace PyM
open PySem
end PyM
namespace PyM
open PySem
/-! ### the package's closure -/
abbrev TP := Str → Str → Bool
def updT (t : TP) (x : Str) (q : Str → Bool) : TP := fun u => if u = x then q else t u
def rqT (S : List Str) (t : TP) (x : Str) : Str → Bool := fun o => (S.filter (t x)).any fun g => decide (o ∈ S.filter (t g))
def lgT (S : List Str) (t : TP) (x : Str) : Str → Bool := fun o => decide (o ∈ S.filter (t x)) || decide (o ∈ S.filter (rqT S t x))
structure TpI (S : List Str) (R : List Row) (t : TP) : Prop where
  so : ∀ x ∈ S, ∀ y ∈ S, t x y = true → Tc R x y
  co : ∀ x ∈ S, ∀ y ∈ S, Dr R x y → t x y = true
theorem mem_fil {S : List Str} {q : Str → Bool} {y : Str} : y ∈ S.filter q ↔ y ∈ S ∧ q y = true := List.mem_filter
theorem lg_so {S : List Str} {R : List Row} {t : TP} (h : TpI S R t) {x : Str} (hx : x ∈ S) {y : Str} (hq : lgT S t x y = true) : Tc R x y := by
  unfold lgT at hq
  rw [Bool.or_eq_true, decide_eq_true_eq, decide_eq_true_eq] at hq
  rcases hq with hq | hq
  · obtain ⟨h1, h2⟩ := mem_fil.mp hq
    exact h.so x hx y h1 h2
  · obtain ⟨h1, h2⟩ := mem_fil.mp hq
    unfold rqT at h2
    rw [List.any_eq_true] at h2
    obtain ⟨g, hg, h3⟩ := h2
    obtain ⟨g1, g2⟩ := mem_fil.mp hg
    obtain ⟨_, h5⟩ := mem_fil.mp (of_decide_eq_true h3)
    exact (h.so x hx g g1 g2).trans (h.so g g1 y h1 h5)
theorem lg_up {S : List Str} {t : TP} {x y : Str} (hy : y ∈ S) (h : t x y = true) : lgT S t x y = true := by
  unfold lgT
  rw [Bool.or_eq_true, decide_eq_true_eq]
  exact .inl (mem_fil.mpr ⟨hy, h⟩)
theorem TpI.upd {S : List Str} {R : List Row} {t : TP} (h : TpI S R t) {x : Str} (hx : x ∈ S) : TpI S R (updT t x (lgT S t x)) := ⟨fun u hu y hy e => by
  unfold updT at e
  split at e
  · rename_i c
    subst c
    exact lg_so h hx e
  · exact h.so u hu y hy e, fun u hu y hy e => by
  unfold updT
  split
  · rename_i c
    subst c
    exact lg_up hy (h.co u hu y hy e)
  · exact h.co u hu y hy e⟩
end PyM
namespace PyM
open PySem
open Classical in
noncomputable def tcL (S : List Str) (R : List Row) (x : Str) : List Str := S.filter fun y => decide (Tc R x y)
end PyM
namespace PyM
open PySem
/-! ### rows of texts as items -/
def tpS (l : List Str) : P := .tup (l.map .str)
theorem tpS_inj (a b : List Str) (h : tpS a = tpS b) : a = b := by
  unfold tpS at h
  injection h with h
  exact map_inj str_inj _ _ h
theorem tpS_nb (l : List Str) : (tpS l).nb = true := nbs_map (fun _ => rfl) l
theorem tpS_flat (l : List Str) : (tpS l).flat = true := flats_map (fun _ => rfl) l
theorem tpS_depth (l : List Str) : (tpS l).depth ≤ 1 := Nat.succ_le_succ (depths_map (n := 0) (fun _ => Nat.le_refl _) l)
theorem tpS_eqok (l : List Str) : (tpS l).eqok = true := by
  unfold P.eqok
  rw [tpS_flat, Bool.true_and, decide_eq_true_eq]
  have := tpS_depth l
  omega
theorem cop_neT (a b : List Str) : cop .ne (tpS a) (tpS b) = some (!decide (a = b)) := by
  show (peq _ _).map (!·) = _
  rw [peq_nb (tpS_nb a) (tpS_nb b) (tpS_eqok a) (tpS_eqok b)]
  show some _ = some _
  congr 2
  rw [decide_eq_decide]
  exact ⟨fun h => tpS_inj _ _ h, fun h => by rw [h]⟩
/-! ### parts -/
section
variable {S : List Str} {R : List Row}
noncomputable def prt (S : List Str) (R : List Row) (x : Str) : List Str := S.filter fun o => decide (o = x) || (decide (o ∈ tcL S R x) && decide (x ∈ tcL S R o))
noncomputable def pstep (S : List Str) (R : List Row) (l : List (List Str)) (x : Str) : List (List Str) := if prt S R x ∈ l then l else l ++ [prt S R x]
noncomputable def L0 (S : List Str) (R : List Row) : List (List Str) := S.foldl (pstep S R) []
end
end PyM
namespace PyM
open PySem
section
variable {S : List Str} {R : List Row}
end
end PyM
namespace PyM
open PySem
end PyM
namespace PyM
open PySem
end PyM
namespace PyM
open PySem
end PyM
namespace PyM
open PySem
/-! ### a row put to rows -/
end PyM
namespace PyM
open PySem
end PyM
namespace PyM
open PySem
/-! ### how long the blocks of a drawn program are -/
end PyM
namespace PyM
open PySem
end PyM
namespace PyM
open PySem
end PyM
namespace PyM
open PySem
/-! ### rows of things that begin with a way, or do not -/
/-! ### a def that may raise -/
theorem run_any {cf : CF} {f : Fn} {ds : List D} {st : Sto} {Q : D → Sto → Prop} {X : Exc → Sto → Prop} (hn : ds.length = f.np) (h : (dnB cf f.body (ds.map some ++ List.replicate (f.ns - ds.length) none) st).wp { nx := fun _ s => Q (.p .non) s, rt := Q, ex := fun x _ s => X x s }) : (∃ d s, runFn cf f ds st = .ok d s ∧ Q d s) ∨ ∃ x s, runFn cf f ds st = .exc x s ∧ X x s := by
  rw [SR.wpE] at h
  unfold runFn
  rw [if_pos hn]
  cases e : dnB cf f.body (ds.map some ++ List.replicate (f.ns - ds.length) none) st with
  | nx e1 s => rw [e] at h; exact .inl ⟨_, _, rfl, h⟩
  | rt d s => rw [e] at h; exact .inl ⟨_, _, rfl, h⟩
  | bk e s => rw [e] at h; exact h.elim
  | ct e s => rw [e] at h; exact h.elim
  | exc x e s => rw [e] at h; exact .inr ⟨_, _, rfl, h⟩
  | fail => rw [e] at h; exact h.elim
end PyM
namespace PyM
open PySem
end PyM
namespace PyM
open PySem
end PyM
namespace PyM
open PySem
/-! ### what the law is told -/
/-! ### is it a way -/
end PyM
namespace PyM
open PySem
/-! ### _law_same, of long rows -/
/-! ### a way spoiled -/
end PyM
namespace PyM
open PySem
end PyM
namespace PyM
open PySem
/-! ### values, where numbers may lack -/
abbrev nnE (y : Str) : Exc := ⟨"NoName", [("name", .str y)]⟩
def rsfR (c f : Str) (env : Env) (d : D) (s : Sto) : SR := match d with
  | .p p => .exc ⟨c, [(f, p)]⟩ env s
  | _ => .fail
theorem rsfR_p (c f : Str) (env : Env) (p : P) (s : Sto) : rsfR c f env (.p p) s = .exc ⟨c, [(f, p)]⟩ env s := rfl
theorem s_rsf' (cf : CF) (c f : Str) (e : Ex) (env : Env) (st : Sto) : dnS cf (.rsf c f e) env st = (den cf e env st).thn env fun d s1 => rsfR c f env d s1 := by rw [dnS] <;> rfl
def lckL (ks : List Str) (l : Pr) : List Str := (l.filter fun q => decide (q.1 ∉ ks)).map (·.1)
theorem lck_nil {ks : List Str} {l : Pr} (h : ∀ q ∈ l, q.1 ∈ ks) : lckL ks l = [] := by
  unfold lckL
  rw [List.map_eq_nil_iff, List.filter_eq_nil_iff]
  intro q hq
  simp [h q hq]
theorem lck_at {ks : List Str} {l : Pr} {i : Nat} {q : Str × Int} (hq : l[i]? = some q) (hn : q.1 ∉ ks) (h : ∀ k x, k < i → l[k]? = some x → x.1 ∈ ks) : ∃ r, lckL ks l = q.1 :: r := by
  obtain ⟨hi, e⟩ := List.getElem?_eq_some_iff.mp hq
  have sp : l = l.take i ++ q :: l.drop (i + 1) := by
    have := List.drop_eq_getElem_cons hi
    rw [e] at this
    rw [← this, List.take_append_drop]
  unfold lckL
  rw [sp, List.filter_append, List.map_append]
  have z : (l.take i).filter (fun q => decide (q.1 ∉ ks)) = [] := by
    rw [List.filter_eq_nil_iff]
    intro x hx
    obtain ⟨k, hk, ek⟩ := List.getElem_of_mem hx
    have hk' : k < i := by rw [List.length_take] at hk; omega
    rw [List.getElem_take] at ek
    have := h k x hk' (by rw [List.getElem?_eq_getElem (by omega), ek])
    simp [this]
  rw [z, List.filter_cons, if_pos (by simpa using hn)]
  exact ⟨_, rfl⟩
/-- slots: 0 product, 1 numbers, 2 told, 3 letter, 4 many -/
def valxB (p : Nat) : Sts := (.cons (.asg (.nm 2) (.lit (.int 1)))
  (.cons (.for (.tup (.cons (.nm 3) (.cons (.nm 4) .nil))) (.seq (.var 0)) (.cons (.ite (.cmp .notin (.var 3) (.var 1)) (.cons (.rsf "NoName" "name" (.var 3))
  .nil) .nil)
  (.cons (.asg (.nm 2) (.bin .mul (.var 2) (.call .pur p (.cons (.ix (.var 1) (.var 3)) (.cons (.var 4) .nil)))))
  .nil)))
  (.cons (.ret (.var 2))
  .nil)))
structure PrB (K : Nat) (l : Pr) : Prop where
  pw : ∀ q ∈ l, 0 ≤ q.2 ∧ q.2 ≤ 1000000
  bd : K * (4 * sumP l + 4) + 2 < 1000000
def VaxAt (cf : CF) (i : Nat) : Prop := ∀ (K : Nat) (f : Str → Nat) (ps : List (Str × Int)) (l : Pr), NumsP K f ps → 1 ≤ K → PrB K l →
  (lckL (ps.map (·.1)) l = [] ∧ ∃ s, cf i [.p (pr l), .p (.dct (kvs P.str P.int ps))] [] = .ok (.p (.int (wor f l : Int))) s) ∨ (∃ y r s, lckL (ps.map (·.1)) l = y :: r ∧ cf i [.p (pr l), .p (.dct (kvs P.str P.int ps))] [] = .exc (nnE y) s)
theorem notin_kv (ps : List (Str × Int)) (y : Str) : cop .notin (.str y) (.dct (kvs P.str P.int ps)) = some (!decide (y ∈ ps.map (·.1))) := by
  have := isin_kv ps y
  show (pin _ _).map (!·) = _
  have this : pin (.str y) (.dct (kvs P.str P.int ps)) = some (decide (y ∈ ps.map (·.1))) := this
  rw [this]; rfl
theorem vax_at {cf cf0 : CF} {i p : Nat} {f : Fn} (hf : f.np = 2 ∧ f.ns = 5 ∧ f.body = valxB p) (h : ∀ ds st, cf i ds st = runFn cf0 f ds st) (hp0 : PwrAt cf0 p) : VaxAt cf i := by
  intro K g ps l hp hK B
  rw [h]
  suffices z : (∃ v s, runFn cf0 f [.p (pr l), .p (.dct (kvs P.str P.int ps))] [] = .ok v s ∧ (v = .p (.int (wor g l : Int)) ∧ lckL (ps.map (·.1)) l = [])) ∨ ∃ x s, runFn cf0 f [.p (pr l), .p (.dct (kvs P.str P.int ps))] [] = .exc x s ∧ ∃ y r, x = nnE y ∧ lckL (ps.map (·.1)) l = y :: r by
    rcases z with ⟨v, s, e, rfl, a⟩ | ⟨x, s, e, y, r, rfl, a⟩
    · exact .inl ⟨a, s, e⟩
    · exact .inr ⟨y, r, s, a, e⟩
  refine run_any (by rw [hf.1]; rfl) ?_
  rw [hf.2.1, hf.2.2]
  show (dnB cf0 (valxB p) [some (.p (pr l)), some (.p (.dct (kvs P.str P.int ps))), none, none, none] []).wp _
  unfold valxB
  (simp -implicitDefEqProofs only [↓evZP, evZQ0, evZQ1, evZQ2, evZQ3, evZQ4, evZQ5, List.getElem?_cons_zero, List.getElem?_cons_succ, List.set_cons_zero, List.set_cons_succ, Option.map_some, Option.bind_some, Option.bind_none, Option.map_none, ite_true, ite_false, if_true, if_false, Bool.not_true, Bool.not_false, decide_true, decide_false, Bool.false_eq_true, decide_eq_true_eq, Bool.not_eq_true', decide_eq_false_iff_not, callM, pureL, Bool.and_true, Bool.true_and, Bool.and_false, Bool.false_and, Option.toList, Int.natCast_zero, Int.cast_ofNat_Int, not_true_eq_false, not_false_eq_true, Int.reduceEq, Int.reduceLT, Int.reduceLE, Int.reduceNe, Nat.reduceAdd, src_pr]; try simp -implicitDefEqProofs only [Res.bindL, Res.thnL, SR.bindL, SR.wpL, Res.wpL, iteS, iteR, chsL])
  refine ok_sbind (for_ok (fun i env s => s = [] ∧ (∃ (x3 x4 : Option D), env = [some (.p (pr l)), some (.p (.dct (kvs P.str P.int ps))), some (.p (.int (wor g (l.take i) : Int))), x3, x4]) ∧ ∀ k x, k < i → l[k]? = some x → x.1 ∈ ps.map (·.1)) ⟨rfl, ⟨_, _, rfl⟩, fun k x h => absurd h (Nat.not_lt_zero _)⟩ ?_ ?_)
  · rintro i d env s hd ⟨rfl, ⟨x3, x4, rfl⟩, hk⟩
    rw [List.getElem?_map] at hd
    obtain ⟨q, hq, rfl⟩ := Option.map_eq_some_iff.mp hd
    obtain ⟨q2, q3⟩ := B.pw q (List.mem_of_getElem? hq)
    have ts := take_split hq
    have ni := notin_kv ps q.1
    by_cases q1 : q.1 ∈ ps.map (·.1)
    · rw [decide_eq_true q1] at ni
      have ni : cop .notin (.str q.1) (.dct (kvs P.str P.int ps)) = some false := ni
      have hb := B.bd
      have bq := Nat.mul_le_mul_left K (show q.2.toNat ≤ sumP l by omega)
      have bb : K * (4 * sumP l + 4) = 4 * (K * sumP l) + 4 * K := by rw [Nat.mul_add]; grind
      have e2 : ((q.2.toNat : Nat) : Int) = q.2 := Int.toNat_of_nonneg q2
      have pw := hp0 (g q.1 : Int) q.2.toNat K (by rw [Int.natAbs_natCast]; exact hp.bd q.1) (by
        have : K * (2 * q.2.toNat) = 2 * (K * q.2.toNat) := by grind
        omega) (by omega)
      rw [e2, ← Int.natCast_pow] at pw
      have b1 : wor g (l.take i) ≤ 2 ^ (K * sumP l) := Nat.le_trans (wor_bd hp.bd _) (Nat.pow_le_pow_right (by decide) (Nat.mul_le_mul_left K (by omega)))
      have b2 : g q.1 ^ q.2.toNat ≤ 2 ^ (K * sumP l) := by
        have e2 : g q.1 ^ q.2.toNat ≤ (2 ^ K) ^ q.2.toNat := Nat.pow_le_pow_left (by have := hp.bd q.1; omega) _
        rw [← Nat.pow_mul] at e2
        exact Nat.le_trans e2 (Nat.pow_le_pow_right (by decide) bq)
      have m1 := bop_mulI (mulOk_nat b1 b2 (by omega))
      rw [← Int.natCast_mul, ← wor_take hq] at m1
      (simp -implicitDefEqProofs only [↓evZP, evZQ0, evZQ1, evZQ2, evZQ3, evZQ4, evZQ5, List.getElem?_cons_zero, List.getElem?_cons_succ, List.set_cons_zero, List.set_cons_succ, Option.map_some, Option.bind_some, Option.bind_none, Option.map_none, ite_true, ite_false, if_true, if_false, Bool.not_true, Bool.not_false, decide_true, decide_false, Bool.false_eq_true, decide_eq_true_eq, Bool.not_eq_true', decide_eq_false_iff_not, callM, pureL, Bool.and_true, Bool.true_and, Bool.and_false, Bool.false_and, Option.toList, Int.natCast_zero, Int.cast_ofNat_Int, not_true_eq_false, not_false_eq_true, Int.reduceEq, Int.reduceLT, Int.reduceLE, Int.reduceNe, Nat.reduceAdd, stepF, pi1, ni, List.map_cons, List.map_nil, hp.ix q1, pw, m1]; try simp -implicitDefEqProofs only [Res.bindL, Res.thnL, SR.bindL, SR.wpL, Res.wpL, iteS, iteR, chsL])
      refine ⟨by trivial, ⟨_, _, rfl⟩, fun k x hk' hx => ?_⟩
      by_cases e : k = i
      · subst e
        rw [hq] at hx
        cases hx
        exact q1
      · exact hk k x (by omega) hx
    · rw [decide_eq_false q1] at ni
      have ni : cop .notin (.str q.1) (.dct (kvs P.str P.int ps)) = some true := ni
      obtain ⟨r, er⟩ := lck_at hq q1 hk
      (simp -implicitDefEqProofs only [↓evZP, evZQ0, evZQ1, evZQ2, evZQ3, evZQ4, evZQ5, List.getElem?_cons_zero, List.getElem?_cons_succ, List.set_cons_zero, List.set_cons_succ, Option.map_some, Option.bind_some, Option.bind_none, Option.map_none, ite_true, ite_false, if_true, if_false, Bool.not_true, Bool.not_false, decide_true, decide_false, Bool.false_eq_true, decide_eq_true_eq, Bool.not_eq_true', decide_eq_false_iff_not, callM, pureL, Bool.and_true, Bool.true_and, Bool.and_false, Bool.false_and, Option.toList, Int.natCast_zero, Int.cast_ofNat_Int, not_true_eq_false, not_false_eq_true, Int.reduceEq, Int.reduceLT, Int.reduceLE, Int.reduceNe, Nat.reduceAdd, stepF, pi1, ni, s_rsf', rsfR_p, List.map_cons, List.map_nil]; try simp -implicitDefEqProofs only [Res.bindL, Res.thnL, SR.bindL, SR.wpL, Res.wpL, iteS, iteR, chsL])
      exact ⟨q.1, r, rfl, er⟩
  · rintro env s ⟨rfl, ⟨x3, x4, rfl⟩, hk⟩
    rw [List.length_map, List.take_length]
    rw [List.length_map] at hk
    (simp -implicitDefEqProofs only [↓evZP, evZQ0, evZQ1, evZQ2, evZQ3, evZQ4, evZQ5, List.getElem?_cons_zero, List.getElem?_cons_succ, List.set_cons_zero, List.set_cons_succ, Option.map_some, Option.bind_some, Option.bind_none, Option.map_none, ite_true, ite_false, if_true, if_false, Bool.not_true, Bool.not_false, decide_true, decide_false, Bool.false_eq_true, decide_eq_true_eq, Bool.not_eq_true', decide_eq_false_iff_not, callM, pureL, Bool.and_true, Bool.true_and, Bool.and_false, Bool.false_and, Option.toList, Int.natCast_zero, Int.cast_ofNat_Int, not_true_eq_false, not_false_eq_true, Int.reduceEq, Int.reduceLT, Int.reduceLE, Int.reduceNe, Nat.reduceAdd]; try simp -implicitDefEqProofs only [Res.bindL, Res.thnL, SR.bindL, SR.wpL, Res.wpL, iteS, iteR, chsL])
    refine ⟨by trivial, lck_nil fun q hq => ?_⟩
    obtain ⟨k, hk', e⟩ := List.getElem_of_mem hq
    exact hk k q hk' (by rw [List.getElem?_eq_getElem hk', e])
/-! ### sums -/
def lckT (ks : List Str) : Tm → Option Str
  | [] => none
  | q :: T => match lckL ks q.2 with
    | y :: _ => some y
    | [] => lckT ks T
def totT (f : Str → Nat) : Tm → Int
  | [] => 0
  | q :: T => q.1 * (wor f q.2 : Int) + totT f T
theorem totT_app (f : Str → Nat) : ∀ a b : Tm, totT f (a ++ b) = totT f a + totT f b
  | [], b => by rw [List.nil_append, totT, Int.zero_add]
  | q :: a, b => by rw [List.cons_append, totT, totT_app f a b, totT, Int.add_assoc]
theorem lckT_app (ks : List Str) : ∀ a b : Tm, lckT ks (a ++ b) = match lckT ks a with
    | some y => some y
    | none => lckT ks b
  | [], b => by rw [List.nil_append, lckT]
  | q :: a, b => by
    rw [List.cons_append, lckT, lckT]
    cases e : lckL ks q.2 with
    | nil => exact lckT_app ks a b
    | cons y r => rfl
theorem lckT_one (ks : List Str) (q : Int × Pr) : lckT ks [q] = (lckL ks q.2).head? := by
  rw [lckT, lckT]
  cases lckL ks q.2 <;> rfl
theorem totT_one (f : Str → Nat) (q : Int × Pr) : totT f [q] = q.1 * (wor f q.2 : Int) := by rw [totT, totT, Int.add_zero]
theorem take1 {α : Type} {l : List α} {i : Nat} {q : α} (h : l[i]? = some q) : l.take (i + 1) = l.take i ++ [q] := by rw [List.take_add_one, h]; rfl
structure TmB (K : Nat) (T : Tm) : Prop where
  pr : ∀ q ∈ T, PrB K q.2
  cf : ∀ q ∈ T, 0 ≤ q.1 ∧ q.1 < 2 ^ 70
theorem mul_ok {K : Nat} {f : Str → Nat} {ps : List (Str × Int)} (hp : NumsP K f ps) (hK : 1 ≤ K) {T : Tm} (B : TmB K T) {q : Int × Pr} (hq : q ∈ T) : mulOk q.1 (wor f q.2 : Int) = true := by
  obtain ⟨c0, c1⟩ := B.cf q hq
  have e : q.1 = ((q.1.toNat : Nat) : Int) := (Int.toNat_of_nonneg c0).symm
  rw [e]
  have bb := (B.pr q hq).bd
  have b2 : K * (4 * sumP q.2 + 4) = 4 * (K * sumP q.2) + 4 * K := by rw [Nat.mul_add]; grind
  exact mulOk_nat (i := 70) (by have : (q.1.toNat : Int) < 2 ^ 70 := by omega
                                have h2 : q.1.toNat < 2 ^ 70 := by exact_mod_cast this
                                omega) (wor_bd hp.bd q.2) (by omega)
/-- slots: 0 terms, 1 numbers, 2 told, 3 coefficient, 4 product -/
def totB (v : Nat) : Sts := (.cons (.asg (.nm 2) (.lit (.int 0)))
  (.cons (.for (.tup (.cons (.nm 3) (.cons (.nm 4) .nil))) (.seq (.var 0)) (.cons (.asg (.nm 2) (.bin .add (.var 2) (.bin .mul (.var 3) (.call .pur v (.cons (.var 4) (.cons (.var 1) .nil))))))
  .nil))
  (.cons (.ret (.var 2))
  .nil)))
def TotAt (cf : CF) (i : Nat) : Prop := ∀ (K : Nat) (f : Str → Nat) (ps : List (Str × Int)) (T : Tm), NumsP K f ps → 1 ≤ K → TmB K T →
  (lckT (ps.map (·.1)) T = none ∧ ∃ s, cf i [.p (tm T), .p (.dct (kvs P.str P.int ps))] [] = .ok (.p (.int (totT f T))) s) ∨ (∃ y s, lckT (ps.map (·.1)) T = some y ∧ cf i [.p (tm T), .p (.dct (kvs P.str P.int ps))] [] = .exc (nnE y) s)
theorem src_tmT (T : Tm) (st : Sto) : srcOf st (.p (tm T)) = some (.fix (T.map fun q => .p (tm1 q))) := by
  show some (Src.fix _) = _
  rw [List.map_map]; rfl
theorem tot_at {cf cf0 : CF} {i v : Nat} {f : Fn} (hf : f.np = 2 ∧ f.ns = 5 ∧ f.body = totB v) (h : ∀ ds st, cf i ds st = runFn cf0 f ds st) (hv : VaxAt cf0 v) : TotAt cf i := by
  intro K g ps T hp hK B
  rw [h]
  suffices z : (∃ v s, runFn cf0 f [.p (tm T), .p (.dct (kvs P.str P.int ps))] [] = .ok v s ∧ (v = .p (.int (totT g T)) ∧ lckT (ps.map (·.1)) T = none)) ∨ ∃ x s, runFn cf0 f [.p (tm T), .p (.dct (kvs P.str P.int ps))] [] = .exc x s ∧ ∃ y, x = nnE y ∧ lckT (ps.map (·.1)) T = some y by
    rcases z with ⟨v, s, e, rfl, a⟩ | ⟨x, s, e, y, rfl, a⟩
    · exact .inl ⟨a, s, e⟩
    · exact .inr ⟨y, s, a, e⟩
  refine run_any (by rw [hf.1]; rfl) ?_
  rw [hf.2.1, hf.2.2]
  show (dnB cf0 (totB v) [some (.p (tm T)), some (.p (.dct (kvs P.str P.int ps))), none, none, none] []).wp _
  unfold totB
  (simp -implicitDefEqProofs only [↓evZP, evZQ0, evZQ1, evZQ2, evZQ3, evZQ4, evZQ5, List.getElem?_cons_zero, List.getElem?_cons_succ, List.set_cons_zero, List.set_cons_succ, Option.map_some, Option.bind_some, Option.bind_none, Option.map_none, ite_true, ite_false, if_true, if_false, Bool.not_true, Bool.not_false, decide_true, decide_false, Bool.false_eq_true, decide_eq_true_eq, Bool.not_eq_true', decide_eq_false_iff_not, callM, pureL, Bool.and_true, Bool.true_and, Bool.and_false, Bool.false_and, Option.toList, Int.natCast_zero, Int.cast_ofNat_Int, not_true_eq_false, not_false_eq_true, Int.reduceEq, Int.reduceLT, Int.reduceLE, Int.reduceNe, Nat.reduceAdd, src_tmT]; try simp -implicitDefEqProofs only [Res.bindL, Res.thnL, SR.bindL, SR.wpL, Res.wpL, iteS, iteR, chsL])
  refine ok_sbind (for_ok (fun i env s => s = [] ∧ (∃ (x3 x4 : Option D), env = [some (.p (tm T)), some (.p (.dct (kvs P.str P.int ps))), some (.p (.int (totT g (T.take i)))), x3, x4]) ∧ lckT (ps.map (·.1)) (T.take i) = none) ⟨rfl, ⟨_, _, rfl⟩, rfl⟩ ?_ ?_)
  · rintro i d env s hd ⟨rfl, ⟨x3, x4, rfl⟩, hk⟩
    rw [List.getElem?_map] at hd
    obtain ⟨q, hq, rfl⟩ := Option.map_eq_some_iff.mp hd
    have qm := List.mem_of_getElem? hq
    rcases hv K g ps q.2 hp hK (B.pr q qm) with ⟨l0, s1, e1⟩ | ⟨y, r, s1, l1, e1⟩
    · have m1 := bop_mulI (mul_ok hp hK B qm)
      generalize hD : P.dct (kvs P.str P.int ps) = DD at *
      (simp -implicitDefEqProofs only [↓evZP, evZQ0, evZQ1, evZQ2, evZQ3, evZQ4, evZQ5, List.getElem?_cons_zero, List.getElem?_cons_succ, List.set_cons_zero, List.set_cons_succ, Option.map_some, Option.bind_some, Option.bind_none, Option.map_none, ite_true, ite_false, if_true, if_false, Bool.not_true, Bool.not_false, decide_true, decide_false, Bool.false_eq_true, decide_eq_true_eq, Bool.not_eq_true', decide_eq_false_iff_not, callM, pureL, Bool.and_true, Bool.true_and, Bool.and_false, Bool.false_and, Option.toList, Int.natCast_zero, Int.cast_ofNat_Int, not_true_eq_false, not_false_eq_true, Int.reduceEq, Int.reduceLT, Int.reduceLE, Int.reduceNe, Nat.reduceAdd, stepF, tm1, e1, m1, List.map_cons, List.map_nil]; try simp -implicitDefEqProofs only [Res.bindL, Res.thnL, SR.bindL, SR.wpL, Res.wpL, iteS, iteR, chsL])
      refine ⟨by trivial, ⟨_, _, by rw [take1 hq, totT_app, totT_one]⟩, ?_⟩
      rw [take1 hq, lckT_app, hk, lckT_one, l0]; rfl
    · generalize hD : P.dct (kvs P.str P.int ps) = DD at *
      (simp -implicitDefEqProofs only [↓evZP, evZQ0, evZQ1, evZQ2, evZQ3, evZQ4, evZQ5, List.getElem?_cons_zero, List.getElem?_cons_succ, List.set_cons_zero, List.set_cons_succ, Option.map_some, Option.bind_some, Option.bind_none, Option.map_none, ite_true, ite_false, if_true, if_false, Bool.not_true, Bool.not_false, decide_true, decide_false, Bool.false_eq_true, decide_eq_true_eq, Bool.not_eq_true', decide_eq_false_iff_not, callM, pureL, Bool.and_true, Bool.true_and, Bool.and_false, Bool.false_and, Option.toList, Int.natCast_zero, Int.cast_ofNat_Int, not_true_eq_false, not_false_eq_true, Int.reduceEq, Int.reduceLT, Int.reduceLE, Int.reduceNe, Nat.reduceAdd, stepF, tm1, e1, List.map_cons, List.map_nil]; try simp -implicitDefEqProofs only [Res.bindL, Res.thnL, SR.bindL, SR.wpL, Res.wpL, iteS, iteR, chsL])
      refine ⟨y, rfl, ?_⟩
      obtain ⟨hi, e⟩ := List.getElem?_eq_some_iff.mp hq
      have sp : T = T.take (i + 1) ++ T.drop (i + 1) := (List.take_append_drop _ _).symm
      rw [sp, lckT_app, take1 hq, lckT_app, hk, lckT_one, l1]; rfl
  · rintro env s ⟨rfl, ⟨x3, x4, rfl⟩, hk⟩
    rw [List.length_map, List.take_length] at *
    (simp -implicitDefEqProofs only [↓evZP, evZQ0, evZQ1, evZQ2, evZQ3, evZQ4, evZQ5, List.getElem?_cons_zero, List.getElem?_cons_succ, List.set_cons_zero, List.set_cons_succ, Option.map_some, Option.bind_some, Option.bind_none, Option.map_none, ite_true, ite_false, if_true, if_false, Bool.not_true, Bool.not_false, decide_true, decide_false, Bool.false_eq_true, decide_eq_true_eq, Bool.not_eq_true', decide_eq_false_iff_not, callM, pureL, Bool.and_true, Bool.true_and, Bool.and_false, Bool.false_and, Option.toList, Int.natCast_zero, Int.cast_ofNat_Int, not_true_eq_false, not_false_eq_true, Int.reduceEq, Int.reduceLT, Int.reduceLE, Int.reduceNe, Nat.reduceAdd]; try simp -implicitDefEqProofs only [Res.bindL, Res.thnL, SR.bindL, SR.wpL, Res.wpL, iteS, iteR, chsL])
    exact ⟨by trivial, hk⟩
/-! ### what the law is told -/
/-- slots: 0 thing, 1 _law_numbers, 2 e -/
def lvaB (v : Nat) : Sts := (.cons (.trya (.cons (.ret (.call .pur v (.cons (.var 0) (.cons (.var 1) .nil))))
  .nil) "HighError" 2 ["NoName"] [] (.ite (.and (.isi "NoName" ["NoName"] []) (.isi "ValueError" ["NoName"] [])) (.ret (.tup (.cons (.fld "name") (.nil))) .nil) (.ret (.lit .non) .nil)))
  .nil)
theorem lva_run {cf0 : CF} {v : Nat} {f : Fn} (hf : f.np = 2 ∧ f.ns = 3 ∧ f.body = lvaB v) {a b : P} :
    (∀ z s, cf0 v [.p a, .p b] [] = .ok (.p (.int z)) s → ∃ s, runFn cf0 f [.p a, .p b] [] = .ok (.p (.int z)) s) ∧ ∀ y s, cf0 v [.p a, .p b] [] = .exc (nnE y) s → ∃ s, runFn cf0 f [.p a, .p b] [] = .ok (.p (.tup [.str y])) s := by
  have rr : ∀ {d : D} {s : Sto}, dnB cf0 (lvaB v) [some (.p a), some (.p b), none] [] = .rt d s → runFn cf0 f [.p a, .p b] [] = .ok d s := fun {d s} e => run_rt (env := [some (.p a), some (.p b), none]) (by rw [hf.1]; rfl) (by rw [hf.2.1]; rfl) (by rw [hf.2.2]; exact e)
  constructor
  · intro z s e1
    refine ⟨[], rr ?_⟩
    unfold lvaB
    simp [dnB, dnS, den, dens, denT, callM, e1, frzAll, pureL]
  · intro y s e1
    refine ⟨[], rr ?_⟩
    unfold lvaB
    simp [dnB, dnS, den, dens, denT, callM, e1, pureL, dnM, hx1, hxs]
def LvaAt (cf : CF) (i : Nat) : Prop := ∀ (K : Nat) (f : Str → Nat) (ps : List (Str × Int)) (l : Pr), NumsP K f ps → 1 ≤ K → PrB K l →
  (lckL (ps.map (·.1)) l = [] ∧ ∃ s, cf i [.p (pr l), .p (.dct (kvs P.str P.int ps))] [] = .ok (.p (.int (wor f l : Int))) s) ∨ (∃ y r s, lckL (ps.map (·.1)) l = y :: r ∧ cf i [.p (pr l), .p (.dct (kvs P.str P.int ps))] [] = .ok (.p (.tup [.str y])) s)
def LtoAt (cf : CF) (i : Nat) : Prop := ∀ (K : Nat) (f : Str → Nat) (ps : List (Str × Int)) (T : Tm), NumsP K f ps → 1 ≤ K → TmB K T →
  (lckT (ps.map (·.1)) T = none ∧ ∃ s, cf i [.p (tm T), .p (.dct (kvs P.str P.int ps))] [] = .ok (.p (.int (totT f T))) s) ∨ (∃ y s, lckT (ps.map (·.1)) T = some y ∧ cf i [.p (tm T), .p (.dct (kvs P.str P.int ps))] [] = .ok (.p (.tup [.str y])) s)
theorem lva_at {cf cf0 : CF} {i v : Nat} {f : Fn} (hf : f.np = 2 ∧ f.ns = 3 ∧ f.body = lvaB v) (h : ∀ ds st, cf i ds st = runFn cf0 f ds st) (hv : VaxAt cf0 v) : LvaAt cf i := by
  intro K g ps l hp hK B
  rw [h]
  obtain ⟨r1, r2⟩ := lva_run (cf0 := cf0) hf (a := pr l) (b := .dct (kvs P.str P.int ps))
  rcases hv K g ps l hp hK B with ⟨l0, s1, e1⟩ | ⟨y, r, s1, l1, e1⟩
  · exact .inl ⟨l0, r1 _ _ e1⟩
  · obtain ⟨s, e⟩ := r2 _ _ e1
    exact .inr ⟨y, r, s, l1, e⟩
theorem lto_at {cf cf0 : CF} {i v : Nat} {f : Fn} (hf : f.np = 2 ∧ f.ns = 3 ∧ f.body = lvaB v) (h : ∀ ds st, cf i ds st = runFn cf0 f ds st) (hv : TotAt cf0 v) : LtoAt cf i := by
  intro K g ps T hp hK B
  rw [h]
  obtain ⟨r1, r2⟩ := lva_run (cf0 := cf0) hf (a := tm T) (b := .dct (kvs P.str P.int ps))
  rcases hv K g ps T hp hK B with ⟨l0, s1, e1⟩ | ⟨y, s1, l1, e1⟩
  · exact .inl ⟨l0, r1 _ _ e1⟩
  · obtain ⟨s, e⟩ := r2 _ _ e1
    exact .inr ⟨y, s, l1, e⟩
end PyM
namespace PyM
open PySem
/-! ### numbers drawn, dicts of them -/
/-- slots: 0 _law_dice_here -/
def lnuB (dr : Nat) : Sts := (.cons (.ite (.cmp .eq (.call .kep dr (.cons (.var 0) (.cons (.lit (.int 3)) .nil))) (.lit (.int 0))) (.cons (.ret (.bin .add (.lit (.int 1)) (.call .kep dr (.cons (.var 0) (.cons (.bin .sub (.bin .pow (.lit (.int 10)) (.lit (.int 30))) (.lit (.int 1))) .nil)))))
  .nil) .nil)
  (.cons (.ret (.bin .add (.lit (.int 1)) (.call .kep dr (.cons (.var 0) (.cons (.lit (.int 12)) .nil)))))
  .nil))
def LnuAt (cf : CF) (j : Nat) : Prop := ∀ n st, Dice st n → ∃ v st', cf j [.loc n] st = .ok (.p (.int v)) st' ∧ 1 ≤ v ∧ v < 2 ^ 100 ∧ After n st st'
theorem lnu_at {cf : CF} {j dr : Nat} {cf0 : CF} {f : Fn} (hf : f.np = 1 ∧ f.ns = 1 ∧ f.body = lnuB dr) (h : ∀ ds st, cf j ds st = runFn cf0 f ds st) (hd : DrawAt cf0 dr) : LnuAt cf j := by
  intro n st di
  suffices z : ∃ v s, runFn cf0 f [.loc n] st = .ok v s ∧ ∃ i : Int, v = .p (.int i) ∧ 1 ≤ i ∧ i < 2 ^ 100 ∧ After n st s by
    obtain ⟨v, s, e, i, rfl, a⟩ := z
    exact ⟨i, s, by rw [h]; exact e, a⟩
  refine run_ok (by rw [hf.1]; rfl) ?_
  rw [hf.2.1, hf.2.2]
  show (dnB cf0 (lnuB dr) [some (.loc n)] st).wp _
  unfold lnuB
  obtain ⟨r, s1, c1, r0, r1, a1⟩ := hd n 3 st (by decide) (divOk_b (by decide) (by decide)) di
  obtain ⟨u, s2, c2, u0, u1, a2⟩ := hd n (10 ^ 30 - 1) s1 (by decide) (by decide) a1.di
  obtain ⟨w, s3, c3, w0, w1, a3⟩ := hd n 12 s1 (by decide) (divOk_b (by decide) (by decide)) a1.di
  have pw : bop .pow (.int 10) (.int 30) = some (.int (10 ^ 30)) := powI (by decide)
  by_cases e : r = 0
  · subst e
    (simp -implicitDefEqProofs only [↓evZP, evZQ0, evZQ1, evZQ2, evZQ3, evZQ4, evZQ5, List.getElem?_cons_zero, List.getElem?_cons_succ, List.set_cons_zero, List.set_cons_succ, Option.map_some, Option.bind_some, Option.bind_none, Option.map_none, ite_true, ite_false, if_true, if_false, Bool.not_true, Bool.not_false, decide_true, decide_false, Bool.false_eq_true, decide_eq_true_eq, Bool.not_eq_true', decide_eq_false_iff_not, callM, pureL, Bool.and_true, Bool.true_and, Bool.and_false, Bool.false_and, Option.toList, Int.natCast_zero, Int.cast_ofNat_Int, not_true_eq_false, not_false_eq_true, Int.reduceEq, Int.reduceLT, Int.reduceLE, Int.reduceNe, Nat.reduceAdd, c1, pw, c2]; try simp -implicitDefEqProofs only [Res.bindL, Res.thnL, SR.bindL, SR.wpL, Res.wpL, iteS, iteR, chsL])
    exact ⟨1 + u, rfl, by omega, by omega, a1.trans a2⟩
  · (simp -implicitDefEqProofs only [↓evZP, evZQ0, evZQ1, evZQ2, evZQ3, evZQ4, evZQ5, List.getElem?_cons_zero, List.getElem?_cons_succ, List.set_cons_zero, List.set_cons_succ, Option.map_some, Option.bind_some, Option.bind_none, Option.map_none, ite_true, ite_false, if_true, if_false, Bool.not_true, Bool.not_false, decide_true, decide_false, Bool.false_eq_true, decide_eq_true_eq, Bool.not_eq_true', decide_eq_false_iff_not, callM, pureL, Bool.and_true, Bool.true_and, Bool.and_false, Bool.false_and, Option.toList, Int.natCast_zero, Int.cast_ofNat_Int, not_true_eq_false, not_false_eq_true, Int.reduceEq, Int.reduceLT, Int.reduceLE, Int.reduceNe, Nat.reduceAdd, c1, c3, e]; try simp -implicitDefEqProofs only [Res.bindL, Res.thnL, SR.bindL, SR.wpL, Res.wpL, iteS, iteR, chsL])
    exact ⟨1 + w, rfl, by omega, by omega, a1.trans a3⟩
theorem popS {st : Sto} {m : Nat} {ps : List (Str × Int)} (h : st[m]? = some (kvp P.str P.int ps)) {k : Str} (hk : k ∈ ps.map (·.1)) :
    mok st .popk (.loc m) = true ∧ ∃ v, mth .popk (.loc m) [.p (.str k)] st = .ok v (st.set m (kvp P.str P.int (ps.filter fun q => decide (q.1 ≠ k)))) := by
  refine ⟨by simp only [mok, h], ?_⟩
  cases e : aget ps k with
  | none => exact absurd hk (aget_none.mp e)
  | some a =>
    refine ⟨.p (.int a), ?_⟩
    simp only [mth, h]
    rw [if_pos (fit_str ps k), kvs_lk str_inj, e]
    have ed : ddel (kvs P.str (fun a => D.p (.int a)) ps) (.str k) = kvs P.str (fun a => D.p (.int a)) (ps.filter fun q => decide (q.1 ≠ k)) := by
      unfold ddel kvs
      rw [List.filter_map]
      congr 1
      congr 1
      funext q
      show decide (P.str q.1 ≠ P.str k) = decide (q.1 ≠ k)
      rw [Bool.eq_iff_iff, decide_eq_true_eq, decide_eq_true_eq]
      exact ⟨fun h e => h (by rw [e]), fun h e => h (str_inj _ _ e)⟩
    show Res.ok (D.p (.int a)) _ = _
    rw [ed]
theorem aget_fil {ps : List (Str × Int)} {k y : Str} (h : y ∈ (ps.filter fun q => decide (q.1 ≠ k)).map (·.1)) : aget (ps.filter fun q => decide (q.1 ≠ k)) y = aget ps y := by
  have hy : y ≠ k := by
    obtain ⟨q, hq, rfl⟩ := List.mem_map.mp h
    exact of_decide_eq_true (List.mem_filter.mp hq).2
  unfold aget
  congr 1
  clear h
  induction ps with
  | nil => rfl
  | cons p ps ih =>
    rw [List.filter_cons]
    by_cases e : p.1 = y
    · rw [if_pos (by rw [e]; exact decide_eq_true hy), List.find?_cons, List.find?_cons, decide_eq_true e]
    · rw [List.find?_cons, decide_eq_false e]
      split
      · rw [List.find?_cons, decide_eq_false e]; exact ih
      · exact ih
theorem dict_cp (ps : List (Str × Int)) (l : Bool) (st : Sto) : blt (.dict l) [.p (.dct (kvs P.str P.int ps))] st = mkD l ((kvs P.str P.int ps).map fun q => (q.1, .p q.2)) st := by
  have : (kvs P.str P.int ps).all (fun q => q.1.sca) = true := by
    rw [List.all_eq_true]
    intro q hq
    obtain ⟨x, _, rfl⟩ := List.mem_map.mp hq
    rfl
  show (if (kvs P.str P.int ps).all (fun q => q.1.sca) then _ else _) = _
  rw [if_pos this]
theorem dict_cpT (ps : List (Str × Int)) (st : Sto) : blt (.dict true) [.p (.dct (kvs P.str P.int ps))] st = .ok (.loc st.length) (st ++ [kvp P.str P.int ps]) := by
  rw [dict_cp]
  show Res.ok _ (st ++ [Ob.dct _]) = Res.ok _ (st ++ [Ob.dct _])
  congr 3
  unfold kvs
  rw [List.map_map]
  rfl
theorem dict_cpF (ps : List (Str × Int)) (st : Sto) : blt (.dict false) [.p (.dct (kvs P.str P.int ps))] st = .ok (.p (.dct (kvs P.str P.int ps))) st := by
  rw [dict_cp]
  have : ∀ k : List (P × P), pureK (k.map fun q => (q.1, D.p q.2)) = some k := by
    intro k
    induction k with
    | nil => rfl
    | cons q k ih => rw [List.map_cons, pureK, ih]
  show (match pureK _ with | some ps => _ | none => _) = _
  rw [this]
def dqR (x y : D) (s : Sto) : Res D := match rd s x, rd s y with
  | some (.dct p), some (.dct q) => if p = q ∧ dqok p = true then .ok (.p (.bl true)) s else .fail
  | _, _ => .fail
theorem e_deq' {cf : CF} {env : Env} {st : Sto} (a b : Ex) : den cf (.deq a b) env st = (den cf a env st).bind fun x s1 => (den cf b env s1).bind fun y s2 => dqR x y s2 := by
  rw [den]; rfl
theorem dqR_kv (ps : List (Str × Int)) (s : Sto) : dqR (.p (.dct (kvs P.str P.int ps))) (.p (.dct (kvs P.str P.int ps))) s = .ok (.p (.bl true)) s := by
  have hk : dqok (kvs P.str P.int ps) = true := by
    unfold dqok
    rw [List.all_eq_true]
    intro q hq
    obtain ⟨x, _, rfl⟩ := List.mem_map.mp hq
    rfl
  show (if _ ∧ _ then _ else _) = _
  rw [if_pos ⟨rfl, hk⟩]
theorem ixL0 (a : P) (r : List P) (st : Sto) : ixD st (.p (.lst (a :: r))) (.p (.int 0)) = some (.p a) := ixLst (a :: r) 0 rfl st
theorem tm1_0 (q : Int × Pr) (st : Sto) : ixD st (.p (tm1 q)) (.p (.int 0)) = some (.p (.int q.1)) := rfl
theorem tm1_1 (q : Int × Pr) (st : Sto) : ixD st (.p (tm1 q)) (.p (.int 1)) = some (.p (pr q.2)) := rfl
theorem lst_0 (y : P) (r : List P) (st : Sto) : ixD st (.p (.lst (y :: r))) (.p (.int 0)) = some (.p y) := ixL0 y r st
def opS : Option Str → P
  | none => .non
  | some y => .str y
theorem opS_isN (o : Option Str) : cop .isN (opS o) .non = some (decide (o = none)) := by
  cases o with
  | none => simp [cop, opS]
  | some y => simp [cop, opS]
theorem opS_notN (o : Option Str) : cop .notN (opS o) .non = some (!decide (o = none)) := by
  cases o with
  | none => simp [cop, opS]
  | some y => simp [cop, opS]
theorem wor_of {cf : CF} {w : Nat} (h : WorAt cf w) {f : Str → Nat} {ps : List (Str × Int)} (n : NumsP 100 f ps) {l : Pr} (B : PrB 100 l) (hl : ∀ q ∈ l, q.1 ∈ ps.map (·.1)) : cf w [.p (pr l), .p (.dct (kvs P.str P.int ps))] [] = .ok (.p (.int (wor f l : Int))) [] :=
  h 100 f ps l n (by decide) (fun q hq => ⟨hl q hq, (B.pw q hq).1, (B.pw q hq).2⟩) B.bd
theorem ne_t1 (y : Str) : cop .ne (.tup [.str y]) (.tup [.str y]) = some false := by
  have h := cop_neT [y] [y]
  rw [decide_eq_true rfl] at h
  exact h
/-- slots: 0 _law_script, 1 _law_dice_here, 2 _law_names_here, 3 _law_terms, 4 _law_numbers, 5 _law_name, 6 _law_handed, 7 _law_kept, 8 _law_first, 9 _law_due, 10 _law_term, 11 _law_told, 12 _law_k, 13 _law_here, 14 _law_lacking, 15 _law_pair -/
def law03B (di nm dr su nu lv lw li lt : Nat) : Sts := (.cons (.asg (.nm 1) (.call .kep di (.cons (.var 0) .nil)))
  (.cons (.asg (.nm 2) (.call .kep nm (.cons (.var 1) (.cons (.bin .add (.lit (.int 1)) (.call .kep dr (.cons (.var 1) (.cons (.lit (.int 5)) .nil)))) .nil))))
  (.cons (.ite (.cmp .eq (.call .kep dr (.cons (.var 1) (.cons (.lit (.int 3)) .nil))) (.lit (.int 0))) (.cons (.asg (.nm 2) (.bin .add (.var 2) (.lst false (.cons (.lit (.str "#")) .nil))))
  .nil) .nil)
  (.cons (.asg (.nm 3) (.call .kep su (.cons (.var 1) (.cons (.var 2) (.cons (.lit (.int 6)) (.cons (.lit (.int 6)) (.cons (.bin .pow (.lit (.int 10)) (.lit (.int 20))) .nil)))))))
  (.cons (.ite (.cmp .eq (.call .kep dr (.cons (.var 1) (.cons (.lit (.int 2)) .nil))) (.lit (.int 0))) (.cons (.asg (.nm 3) (.call .kep su (.cons (.var 1) (.cons (.var 2) (.cons (.lit (.int 6)) (.cons (.lit (.int 6)) (.cons (.lit (.int 9)) .nil)))))))
  .nil) .nil)
  (.cons (.asg (.nm 4) (.dnew true))
  (.cons (.for (.nm 5) (.seq (.var 2)) (.cons (.asg (.sub (.var 4) (.var 5)) (.call .kep nu (.cons (.var 1) .nil)))
  .nil))
  (.cons (.gz 4)
  (.cons (.asg (.nm 6) (.blt (.dict true) (.cons (.var 4) .nil)))
  (.cons (.ite (.cmp .eq (.call .kep dr (.cons (.var 1) (.cons (.lit (.int 3)) .nil))) (.lit (.int 0))) (.cons (.for (.nm 12) (.rng1 (.bin .add (.lit (.int 1)) (.call .kep dr (.cons (.var 1) (.cons (.lit (.int 2)) .nil))))) (.cons (.asg (.nm 14) (.ix (.var 2) (.call .kep dr (.cons (.var 1) (.cons (.blt .len (.cons (.var 2) .nil)) .nil)))))
  (.cons (.ite (.cmp .isin (.var 14) (.var 6)) (.cons (.ex (.mth .popk (.var 6) (.cons (.var 14) .nil)))
  .nil) .nil)
  .nil)))
  .nil) .nil)
  (.cons (.gz 1)
  (.cons (.gz 6)
  (.cons (.asg (.nm 7) (.blt (.dict false) (.cons (.var 6) .nil)))
  (.cons (.asg (.nm 8) (.lit .non))
  (.cons (.asg (.nm 9) (.lit (.int 0)))
  (.cons (.for (.nm 10) (.seq (.var 3)) (.cons (.asg (.nm 13) (.lc false (.ix (.var 15) (.lit (.int 0))) [15] (.nm 15) (.seq (.ix (.var 10) (.lit (.int 1)))) (.some (.cmp .notin (.ix (.var 15) (.lit (.int 0))) (.var 6)))))
  (.cons (.asg (.nm 11) (.call .pur lv (.cons (.ix (.var 10) (.lit (.int 1))) (.cons (.var 6) .nil))))
  (.cons (.ite (.cmp .gt (.blt .len (.cons (.var 13) .nil)) (.lit (.int 0))) (.cons (.ite (.cmp .ne (.var 11) (.tup (.cons (.ix (.var 13) (.lit (.int 0))) .nil))) (.cons (.ret (.lit (.bl false)))
  .nil) .nil)
  (.cons (.ite (.cmp .isN (.var 8) (.lit .non)) (.cons (.asg (.nm 8) (.ix (.var 13) (.lit (.int 0))))
  .nil) .nil)
  .nil)) (.cons (.ite (.or (.not (.call .pur li (.cons (.var 11) .nil))) (.cmp .ne (.var 11) (.call .pur lw (.cons (.ix (.var 10) (.lit (.int 1))) (.cons (.var 4) .nil))))) (.cons (.ret (.lit (.bl false)))
  .nil) .nil)
  .nil))
  (.cons (.asg (.nm 9) (.bin .add (.var 9) (.bin .mul (.ix (.var 10) (.lit (.int 0))) (.call .pur lw (.cons (.ix (.var 10) (.lit (.int 1))) (.cons (.var 4) .nil))))))
  .nil)))))
  (.cons (.asg (.nm 11) (.call .pur lt (.cons (.var 3) (.cons (.var 6) .nil))))
  (.cons (.ite (.cmp .notN (.var 8) (.lit .non)) (.cons (.ite (.cmp .ne (.var 11) (.tup (.cons (.var 8) .nil))) (.cons (.ret (.lit (.bl false)))
  .nil) .nil)
  .nil) (.cons (.ite (.or (.not (.call .pur li (.cons (.var 11) .nil))) (.cmp .ne (.var 11) (.var 9))) (.cons (.ret (.lit (.bl false)))
  .nil) .nil)
  .nil))
  (.cons (.ret (.and (.deq (.var 6) (.var 7)) (.cmp .eq (.call .pur lt (.cons (.var 3) (.cons (.var 4) .nil))) (.var 9))))
  .nil)))))))))))))))))))

/-- what is known of the numbers -/
structure Nmb (S : List Str) (ps : List (Str × Int)) : Prop where
  ks : ∀ y, y ∈ ps.map (·.1) ↔ y ∈ S
  vs : ∀ q ∈ ps, 1 ≤ q.2 ∧ q.2 < 2 ^ 100
def fOf (ps : List (Str × Int)) : Str → Nat := fun y => ((aget ps y).getD 1).toNat
theorem Nmb.num {S : List Str} {ps : List (Str × Int)} (h : Nmb S ps) : NumsP 100 (fOf ps) ps := ⟨fun y hy => by
    cases e : aget ps y with
    | none => exact absurd hy (aget_none.mp e)
    | some v =>
      have := (h.vs _ (aget_mem e)).1
      unfold fOf
      rw [e, Option.getD_some, Int.toNat_of_nonneg (by show 0 ≤ v; have : 1 ≤ v := this; omega)], fun y => by
    unfold fOf
    cases e : aget ps y with
    | none => decide
    | some v =>
      have := (h.vs _ (aget_mem e))
      have h1 : 1 ≤ v := this.1
      have h2 : v < 2 ^ 100 := this.2
      rw [Option.getD_some]
      omega⟩
structure Sub (ps qs : List (Str × Int)) : Prop where
  ag : ∀ y, y ∈ qs.map (·.1) → aget qs y = aget ps y
theorem Sub.mem {ps qs : List (Str × Int)} (h : Sub ps qs) {y : Str} (hy : y ∈ qs.map (·.1)) : y ∈ ps.map (·.1) := by
  have e := h.ag y hy
  cases q : aget qs y with
  | none => exact absurd hy (aget_none.mp q)
  | some v =>
    rw [q] at e
    exact List.mem_map.mpr ⟨_, aget_mem e.symm, rfl⟩
theorem Sub.num {S : List Str} {ps qs : List (Str × Int)} (h : Sub ps qs) (n : Nmb S ps) : NumsP 100 (fOf ps) qs := ⟨fun y hy => by rw [h.ag y hy]; exact n.num.val y (h.mem hy), n.num.bd⟩
theorem Sub.del {ps qs : List (Str × Int)} (h : Sub ps qs) (k : Str) : Sub ps (qs.filter fun q => decide (q.1 ≠ k)) := ⟨fun y hy => by
  rw [aget_fil hy]
  refine h.ag y ?_
  obtain ⟨q, hq, e⟩ := List.mem_map.mp hy
  exact List.mem_map.mpr ⟨q, (List.mem_filter.mp hq).1, e⟩⟩
theorem lck_all {S : List Str} {l : Pr} {ks : List Str} (h : ∀ y ∈ S, y ∈ ks) (hl : ∀ q ∈ l, q.1 ∈ S) : lckL ks l = [] := lck_nil fun q hq => h _ (hl q hq)
theorem lckT_all {S : List Str} {ks : List Str} (h : ∀ y ∈ S, y ∈ ks) : ∀ {T : Tm}, (∀ q ∈ T, ∀ x ∈ q.2, x.1 ∈ S) → lckT ks T = none
  | [], _ => rfl
  | q :: T, hl => by
    rw [lckT, lck_all h (hl q (List.mem_cons_self ..))]
    exact lckT_all h fun q hq => hl q (List.mem_cons_of_mem _ hq)
/-- a drawn sum, small -/
theorem tm_bd {S : List Str} {top : Int} {T : Tm} (h : SumW S 6 top T) (ht : top < 2 ^ 70) : TmB 100 T ∧ ∀ q ∈ T, ∀ x ∈ q.2, x.1 ∈ S := by
  have one : ∀ q ∈ T, PrB 100 q.2 := fun q hq => by
    obtain ⟨_, _, w⟩ := h.mem q hq
    have le := le_sum w.can.one
    have sm := w.sm
    have su : (sumP q.2 : Int) = (q.2.map (·.2)).sum := by
      have : ∀ l : Pr, (∀ x ∈ l, 1 ≤ x.2) → (sumP l : Int) = (l.map (·.2)).sum := by
        intro l
        induction l with
        | nil => intro _; rfl
        | cons x l ih =>
          intro hl
          have h1 := hl x (List.mem_cons_self ..)
          rw [sumP, List.map_cons, List.sum_cons, ← ih fun y hy => hl y (List.mem_cons_of_mem _ hy)]
          push_cast
          omega
      exact this q.2 w.can.one
    refine ⟨fun x hx => ?_, by omega⟩
    have h1 := w.can.one x hx
    have h2 := le.2 x hx
    omega
  exact ⟨⟨one, fun q hq => by obtain ⟨a, b, _⟩ := h.mem q hq; omega⟩, fun q hq => (h.mem q hq).2.2.mem⟩

theorem law03 {cf : CF} {di nm dr su nu lv lw li lt : Nat} {f : Fn} (hf : f.np = 1 ∧ f.ns = 16 ∧ f.body = law03B di nm dr su nu lv lw li lt) (hdi : DiceAt cf di) (hn : NmAt cf nm) (hd : DrawAt cf dr) (hsu : SumWAt cf su) (hnu : LnuAt cf nu) (hlv : LvaAt cf lv) (hlw : WorAt cf lw) (hli : IntAt cf li) (hlt : LtoAt cf lt) (ns : List Int) : ∃ d s, runFn cf f [.p (.scr ns)] [] = .ok d s ∧ d = .p (.bl true) := by
  refine run_ok (by rw [hf.1]; rfl) ?_
  rw [hf.2.1, hf.2.2]
  show (dnB cf (law03B di nm dr su nu lv lw li lt) [some (.p (.scr ns)), none, none, none, none, none, none, none, none, none, none, none, none, none, none, none] []).wp _
  unfold law03B
  obtain ⟨o, c0, od0⟩ := hdi ns []
  have c0 : cf di [.p (.scr ns)] [] = .ok (.loc 0) [o] := c0
  have a0 : Dice [o] 0 := ⟨o, rfl, od0⟩
  obtain ⟨r1, s1, c1, r10, r11, a1⟩ := hd 0 5 _ (by decide) (divOk_b (by decide) (by decide)) a0
  obtain ⟨S0, s2, c2, xl, xo, xa, a2⟩ := hn 0 (1 + r1) s1 (by omega) (by omega) a1.di
  refine dn_cons (e1 := [some (.p (.scr ns)), some (.loc 0), none, none, none, none, none, none, none, none, none, none, none, none, none, none]) (s1 := [o]) (by simp [callM, c0]) ?_
  refine dn_cons (e1 := [some (.p (.scr ns)), some (.loc 0), some (.p (.lst (S0.map .str))), none, none, none, none, none, none, none, none, none, none, none, none, none]) (s1 := s2) (by simp [callM, c1, c2]) ?_
  obtain ⟨r3, s3, c3, r30, r31, a3⟩ := hd 0 3 s2 (by decide) (divOk_b (by decide) (by decide)) a2.di
  obtain ⟨w1, w2, w3⟩ := with_sh S0 (by omega)
  obtain ⟨S, eS, hS1, hS2⟩ : ∃ S : List Str, S = (if r3 = 0 then S0 ++ shl else S0) ∧ S ≠ [] ∧ S.length ≤ 6 := by
    refine ⟨_, rfl, ?_, ?_⟩
    · split
      · exact w1
      · exact List.length_pos_iff.mp (by omega)
    · split
      · omega
      · omega
  have mk1 : ∀ (a : P) (s : Sto), mkL false [.p a] s = .ok (.p (.lst [a])) s := fun a s => rfl
  refine dn_cons (e1 := [some (.p (.scr ns)), some (.loc 0), some (.p (.lst (S.map .str))), none, none, none, none, none, none, none, none, none, none, none, none, none]) (s1 := s3) (by
    rw [eS]
    by_cases e : r3 = 0
    · subst e
      simp [callM, c3, mk1, w3]
    · simp [callM, c3, e]) ?_
  have pw : bop .pow (.int 10) (.int 20) = some (.int (10 ^ 20)) := powI (by decide)
  obtain ⟨T1, s4, c4, h4, l4, a4⟩ := hsu 0 S 6 6 (10 ^ 20) s3 hS1 (by omega) (by decide) (by decide) (by decide) (by decide) (by decide) (by decide) a3.di
  have c4 : cf su [.loc 0, .p (.lst (S.map .str)), .p (.int 6), .p (.int 6), .p (.int (10 ^ 20))] s3 = .ok (.p (tm T1)) s4 := c4
  refine dn_cons (e1 := [some (.p (.scr ns)), some (.loc 0), some (.p (.lst (S.map .str))), some (.p (tm T1)), none, none, none, none, none, none, none, none, none, none, none, none]) (s1 := s4) (by simp only [b_cons', s_asg', e_call', es_cons', es_nil', e_var', e_lit', e_bin', List.getElem?_cons_zero, List.getElem?_cons_succ, gtv_some, Res.bind_ok, Res.thn_ok, on2_p, pw, opt_some, Option.map_some, callM, c4, t_nm', setR_some, List.set_cons_zero, List.set_cons_succ]; try rfl) ?_
  obtain ⟨r5, s5, c5, r50, r51, a5⟩ := hd 0 2 s4 (by decide) (divOk_b (by decide) (by decide)) a4.di
  obtain ⟨T2, s6, c6, h6, l6, a6⟩ := hsu 0 S 6 6 9 s5 hS1 (by omega) (by decide) (by decide) (by decide) (by decide) (by decide) (by decide) a5.di
  obtain ⟨T, s7, di7, ⟨TB, TS⟩, e7⟩ : ∃ (T : Tm) (s7 : Sto), Dice s7 0 ∧ (TmB 100 T ∧ ∀ q ∈ T, ∀ x ∈ q.2, x.1 ∈ S) ∧ dnS cf (.ite (.cmp .eq (.call .kep dr (.cons (.var 1) (.cons (.lit (.int 2)) .nil))) (.lit (.int 0))) (.cons (.asg (.nm 3) (.call .kep su (.cons (.var 1) (.cons (.var 2) (.cons (.lit (.int 6)) (.cons (.lit (.int 6)) (.cons (.lit (.int 9)) .nil)))))))
  .nil) .nil) [some (.p (.scr ns)), some (.loc 0), some (.p (.lst (S.map .str))), some (.p (tm T1)), none, none, none, none, none, none, none, none, none, none, none, none] s4 = .nx [some (.p (.scr ns)), some (.loc 0), some (.p (.lst (S.map .str))), some (.p (tm T)), none, none, none, none, none, none, none, none, none, none, none, none] s7 := by
    by_cases e : r5 = 0
    · subst e
      exact ⟨T2, s6, a6.di, tm_bd h6 (by decide), by simp [callM, c5, c6]⟩
    · exact ⟨T1, s5, a5.di, tm_bd h4 (by decide), by simp [callM, c5, e]⟩
  refine dn_cons e7 ?_
  have mkd : mkD true [] s7 = .ok (.loc s7.length) (s7 ++ [.dct []]) := rfl
  refine dn_cons (e1 := [some (.p (.scr ns)), some (.loc 0), some (.p (.lst (S.map .str))), some (.p (tm T)), some (.loc s7.length), none, none, none, none, none, none, none, none, none, none, none]) (s1 := s7 ++ [.dct []]) (by simp [mkd]) ?_
  rw [b_cons']
  refine ok_sbind ?_
  have srcS : ∀ st : Sto, srcOf st (.p (.lst (S.map P.str))) = some (.fix (S.map fun y => .p (.str y))) := fun st => by
    show some (Src.fix _) = _
    rw [List.map_map]; rfl
  (simp -implicitDefEqProofs only [↓evZP, evZQ0, evZQ1, evZQ2, evZQ3, evZQ4, evZQ5, List.getElem?_cons_zero, List.getElem?_cons_succ, List.set_cons_zero, List.set_cons_succ, Option.map_some, Option.bind_some, Option.bind_none, Option.map_none, ite_true, ite_false, if_true, if_false, Bool.not_true, Bool.not_false, decide_true, decide_false, Bool.false_eq_true, decide_eq_true_eq, Bool.not_eq_true', decide_eq_false_iff_not, callM, pureL, Bool.and_true, Bool.true_and, Bool.and_false, Bool.false_and, Option.toList, Int.natCast_zero, Int.cast_ofNat_Int, not_true_eq_false, not_false_eq_true, Int.reduceEq, Int.reduceLT, Int.reduceLE, Int.reduceNe, Nat.reduceAdd, srcS]; try simp -implicitDefEqProofs only [Res.bindL, Res.thnL, SR.bindL, SR.wpL, Res.wpL, iteS, iteR, chsL])
  refine for_ok (fun i env s => ∃ (ps : List (Str × Int)) (x5 : Option D), env = [some (.p (.scr ns)), some (.loc 0), some (.p (.lst (S.map .str))), some (.p (tm T)), some (.loc s7.length), x5, none, none, none, none, none, none, none, none, none, none] ∧ Dct P.str P.int 0 s7.length s7 s ps ∧ Nmb (S.take i) ps ∧ ps.length ≤ i) ⟨[], none, rfl, Dct.new (After.refl di7), ⟨fun y => by simp, fun _ h => nomatch h⟩, Nat.le_refl _⟩ ?_ ?_
  · rintro i d env s hq ⟨ps, x5, rfl, hD, hN, hl⟩
    rw [List.getElem?_map] at hq
    obtain ⟨y, hy, rfl⟩ := Option.map_eq_some_iff.mp hq
    obtain ⟨v, s8, c8, v1, v2, a8⟩ := hnu 0 s hD.af.di
    have hD8 := hD.draw a8
    have il : i < S.length := (List.getElem?_eq_some_iff.mp hy).1
    have st := set_loc hD8.at_ str_inj (fun k => fit_str ps k) (by omega) y v
    (simp -implicitDefEqProofs only [↓evZP, evZQ0, evZQ1, evZQ2, evZQ3, evZQ4, evZQ5, List.getElem?_cons_zero, List.getElem?_cons_succ, List.set_cons_zero, List.set_cons_succ, Option.map_some, Option.bind_some, Option.bind_none, Option.map_none, ite_true, ite_false, if_true, if_false, Bool.not_true, Bool.not_false, decide_true, decide_false, Bool.false_eq_true, decide_eq_true_eq, Bool.not_eq_true', decide_eq_false_iff_not, callM, pureL, Bool.and_true, Bool.true_and, Bool.and_false, Bool.false_and, Option.toList, Int.natCast_zero, Int.cast_ofNat_Int, not_true_eq_false, not_false_eq_true, Int.reduceEq, Int.reduceLT, Int.reduceLE, Int.reduceNe, Nat.reduceAdd, stepF, c8, st]; try simp -implicitDefEqProofs only [Res.bindL, Res.thnL, SR.bindL, SR.wpL, Res.wpL, iteS, iteR, chsL])
    refine ⟨aput ps y v, _, rfl, hD8.put, ⟨fun z => ?_, fun q hq => ?_⟩, ?_⟩
    · rw [take1 hy, List.mem_append, List.mem_singleton, ← hN.ks z]
      exact mem_aput
    · rcases aput_mem hq with h | ⟨h, _⟩
      · rw [h]; exact ⟨v1, v2⟩
      · exact hN.vs q h
    · exact Nat.le_trans (aput_len ps y v) (by omega)
  · rintro env s ⟨ps, x5, rfl, hD, hN, hl⟩
    rw [List.length_map, List.take_length] at hN
    have hN' : ∀ y ∈ S, y ∈ ps.map (·.1) := fun y hy => (hN.ks y).mpr hy
    (simp -implicitDefEqProofs only [↓evZP, evZQ0, evZQ1, evZQ2, evZQ3, evZQ4, evZQ5, List.getElem?_cons_zero, List.getElem?_cons_succ, List.set_cons_zero, List.set_cons_succ, Option.map_some, Option.bind_some, Option.bind_none, Option.map_none, ite_true, ite_false, if_true, if_false, Bool.not_true, Bool.not_false, decide_true, decide_false, Bool.false_eq_true, decide_eq_true_eq, Bool.not_eq_true', decide_eq_false_iff_not, callM, pureL, Bool.and_true, Bool.true_and, Bool.and_false, Bool.false_and, Option.toList, Int.natCast_zero, Int.cast_ofNat_Int, not_true_eq_false, not_false_eq_true, Int.reduceEq, Int.reduceLT, Int.reduceLE, Int.reduceNe, Nat.reduceAdd, frz_kv hD.at_, dict_cpT]; try simp -implicitDefEqProofs only [Res.bindL, Res.thnL, SR.bindL, SR.wpL, Res.wpL, iteS, iteR, chsL])
    generalize hsA : s.set s7.length Ob.dead = sA
    have A4 : After 0 s7 sA := by rw [← hsA]; exact hD.af.put hD.mm hD.nm _
    have H0 : Dct P.str P.int 0 sA.length sA (sA ++ [kvp P.str P.int ps]) ps := ⟨After.push A4.di _, Nat.le_refl _, fun e => by have := A4.di.lt; omega, by rw [List.getElem?_append_right (Nat.le_refl _)]; simp⟩
    obtain ⟨r8, s8, c8, r80, r81, a8⟩ := hd 0 3 _ (by decide) (divOk_b (by decide) (by decide)) H0.af.di
    have H1 := H0.draw a8
    refine ok_sbind (wp_join (fun e sF => ∃ (qs : List (Str × Int)) (x12 x14 : Option D), e = [some (.p (.scr ns)), some (.loc 0), some (.p (.lst (S.map .str))), some (.p (tm T)), some (.p (.dct (kvs P.str P.int ps))), x5, some (.loc sA.length), none, none, none, none, none, x12, none, x14, none] ∧ Dct P.str P.int 0 sA.length sA sF qs ∧ Sub ps qs) ?_ ?_)
    · obtain ⟨u, s9, c9, u0, u1, a9⟩ := hd 0 2 s8 (by decide) (divOk_b (by decide) (by decide)) a8.di
      by_cases e8 : r8 = 0
      · subst e8
        (simp -implicitDefEqProofs only [↓evZP, evZQ0, evZQ1, evZQ2, evZQ3, evZQ4, evZQ5, List.getElem?_cons_zero, List.getElem?_cons_succ, List.set_cons_zero, List.set_cons_succ, Option.map_some, Option.bind_some, Option.bind_none, Option.map_none, ite_true, ite_false, if_true, if_false, Bool.not_true, Bool.not_false, decide_true, decide_false, Bool.false_eq_true, decide_eq_true_eq, Bool.not_eq_true', decide_eq_false_iff_not, callM, pureL, Bool.and_true, Bool.true_and, Bool.and_false, Bool.false_and, Option.toList, Int.natCast_zero, Int.cast_ofNat_Int, not_true_eq_false, not_false_eq_true, Int.reduceEq, Int.reduceLT, Int.reduceLE, Int.reduceNe, Nat.reduceAdd, c8, c9, rngR_int (show (0 : Int) ≤ 1 + u by omega) (show (1 : Int) + u ≤ 16777216 by omega)]; try simp -implicitDefEqProofs only [Res.bindL, Res.thnL, SR.bindL, SR.wpL, Res.wpL, iteS, iteR, chsL])
        refine ok_sbind (for_ok (fun i e sF => ∃ (qs : List (Str × Int)) (x12 x14 : Option D), e = [some (.p (.scr ns)), some (.loc 0), some (.p (.lst (S.map .str))), some (.p (tm T)), some (.p (.dct (kvs P.str P.int ps))), x5, some (.loc sA.length), none, none, none, none, none, x12, none, x14, none] ∧ Dct P.str P.int 0 sA.length sA sF qs ∧ Sub ps qs) ⟨ps, none, none, rfl, H1.draw a9, ⟨fun _ _ => rfl⟩⟩ ?_ ?_)
        · rintro i q e sF hq ⟨qs, x12, x14, rfl, hQ, hS⟩
          obtain ⟨hi, rfl⟩ := rng_get hq
          obtain ⟨k, s10, c10, k0, k1, a10⟩ := hd 0 S.length sF (by have := List.length_pos_iff.mpr hS1; omega) (divOk_b (by have := List.length_pos_iff.mpr hS1; omega) (by omega)) hQ.af.di
          obtain ⟨y, hym, ix, _⟩ := ixP (st := s10) (f := P.str) (xs := S) k0 k1
          have hQ' := hQ.draw a10
          have els : ∀ s, blt .len [.p (.lst (S.map P.str))] s = .ok (.p (.int (S.length : Int))) s := fun s => by rw [blt_lenL, List.length_map]
          have rr := rd_dloc hQ'.at_
          have ii := isin_kv qs y
          have o2 := fun f : P → P → Res D => on2_rd (f := f) (show rd s10 (.p (.str y)) = some (.str y) from rfl) rr
          by_cases m : y ∈ qs.map (·.1)
          · rw [decide_eq_true m] at ii
            obtain ⟨mo, v, mp⟩ := popS hQ'.at_ m
            (simp -implicitDefEqProofs only [↓evZP, evZQ0, evZQ1, evZQ2, evZQ3, evZQ4, evZQ5, List.getElem?_cons_zero, List.getElem?_cons_succ, List.set_cons_zero, List.set_cons_succ, Option.map_some, Option.bind_some, Option.bind_none, Option.map_none, ite_true, ite_false, if_true, if_false, Bool.not_true, Bool.not_false, decide_true, decide_false, Bool.false_eq_true, decide_eq_true_eq, Bool.not_eq_true', decide_eq_false_iff_not, callM, pureL, Bool.and_true, Bool.true_and, Bool.and_false, Bool.false_and, Option.toList, Int.natCast_zero, Int.cast_ofNat_Int, not_true_eq_false, not_false_eq_true, Int.reduceEq, Int.reduceLT, Int.reduceLE, Int.reduceNe, Nat.reduceAdd, stepF, els, c10, ix, o2, ii, mo, mp]; try simp -implicitDefEqProofs only [Res.bindL, Res.thnL, SR.bindL, SR.wpL, Res.wpL, iteS, iteR, chsL])
            exact ⟨_, _, _, rfl, hQ'.put, hS.del y⟩
          · rw [decide_eq_false m] at ii
            (simp -implicitDefEqProofs only [↓evZP, evZQ0, evZQ1, evZQ2, evZQ3, evZQ4, evZQ5, List.getElem?_cons_zero, List.getElem?_cons_succ, List.set_cons_zero, List.set_cons_succ, Option.map_some, Option.bind_some, Option.bind_none, Option.map_none, ite_true, ite_false, if_true, if_false, Bool.not_true, Bool.not_false, decide_true, decide_false, Bool.false_eq_true, decide_eq_true_eq, Bool.not_eq_true', decide_eq_false_iff_not, callM, pureL, Bool.and_true, Bool.true_and, Bool.and_false, Bool.false_and, Option.toList, Int.natCast_zero, Int.cast_ofNat_Int, not_true_eq_false, not_false_eq_true, Int.reduceEq, Int.reduceLT, Int.reduceLE, Int.reduceNe, Nat.reduceAdd, stepF, els, c10, ix, o2, ii]; try simp -implicitDefEqProofs only [Res.bindL, Res.thnL, SR.bindL, SR.wpL, Res.wpL, iteS, iteR, chsL])
            exact ⟨_, _, _, rfl, hQ', hS⟩
        · rintro e sF ⟨qs, x12, x14, rfl, hQ, hS⟩
          (simp -implicitDefEqProofs only [↓evZP, evZQ0, evZQ1, evZQ2, evZQ3, evZQ4, evZQ5, List.getElem?_cons_zero, List.getElem?_cons_succ, List.set_cons_zero, List.set_cons_succ, Option.map_some, Option.bind_some, Option.bind_none, Option.map_none, ite_true, ite_false, if_true, if_false, Bool.not_true, Bool.not_false, decide_true, decide_false, Bool.false_eq_true, decide_eq_true_eq, Bool.not_eq_true', decide_eq_false_iff_not, callM, pureL, Bool.and_true, Bool.true_and, Bool.and_false, Bool.false_and, Option.toList, Int.natCast_zero, Int.cast_ofNat_Int, not_true_eq_false, not_false_eq_true, Int.reduceEq, Int.reduceLT, Int.reduceLE, Int.reduceNe, Nat.reduceAdd]; try simp -implicitDefEqProofs only [Res.bindL, Res.thnL, SR.bindL, SR.wpL, Res.wpL, iteS, iteR, chsL])
          exact ⟨_, _, _, rfl, hQ, hS⟩
      · (simp -implicitDefEqProofs only [↓evZP, evZQ0, evZQ1, evZQ2, evZQ3, evZQ4, evZQ5, List.getElem?_cons_zero, List.getElem?_cons_succ, List.set_cons_zero, List.set_cons_succ, Option.map_some, Option.bind_some, Option.bind_none, Option.map_none, ite_true, ite_false, if_true, if_false, Bool.not_true, Bool.not_false, decide_true, decide_false, Bool.false_eq_true, decide_eq_true_eq, Bool.not_eq_true', decide_eq_false_iff_not, callM, pureL, Bool.and_true, Bool.true_and, Bool.and_false, Bool.false_and, Option.toList, Int.natCast_zero, Int.cast_ofNat_Int, not_true_eq_false, not_false_eq_true, Int.reduceEq, Int.reduceLT, Int.reduceLE, Int.reduceNe, Nat.reduceAdd, c8, e8]; try simp -implicitDefEqProofs only [Res.bindL, Res.thnL, SR.bindL, SR.wpL, Res.wpL, iteS, iteR, chsL])
        exact ⟨ps, _, _, rfl, H1, ⟨fun _ _ => rfl⟩⟩
    · rintro e sF ⟨qs, x12, x14, rfl, hQ, hS⟩
      obtain ⟨xd, fd⟩ := frz_dice hQ.af.di
      have at6 : (sF.set 0 Ob.dead)[sA.length]? = some (kvp P.str P.int qs) := by rw [List.getElem?_set_ne hQ.nm]; exact hQ.at_
      have f6 := frz_kv at6
      (simp -implicitDefEqProofs only [↓evZP, evZQ0, evZQ1, evZQ2, evZQ3, evZQ4, evZQ5, List.getElem?_cons_zero, List.getElem?_cons_succ, List.set_cons_zero, List.set_cons_succ, Option.map_some, Option.bind_some, Option.bind_none, Option.map_none, ite_true, ite_false, if_true, if_false, Bool.not_true, Bool.not_false, decide_true, decide_false, Bool.false_eq_true, decide_eq_true_eq, Bool.not_eq_true', decide_eq_false_iff_not, callM, pureL, Bool.and_true, Bool.true_and, Bool.and_false, Bool.false_and, Option.toList, Int.natCast_zero, Int.cast_ofNat_Int, not_true_eq_false, not_false_eq_true, Int.reduceEq, Int.reduceLT, Int.reduceLE, Int.reduceNe, Nat.reduceAdd, fd, f6, dict_cpF, src_tmT]; try simp -implicitDefEqProofs only [Res.bindL, Res.thnL, SR.bindL, SR.wpL, Res.wpL, iteS, iteR, chsL])
      generalize (sF.set 0 Ob.dead).set sA.length Ob.dead = sG
      have NQ := hS.num hN
      refine ok_sbind (for_ok (fun i e s => s = sG ∧ ∃ (x10 x11 x13 : Option D), e = [some (.p (.scr ns)), some (.p xd), some (.p (.lst (S.map .str))), some (.p (tm T)), some (.p (.dct (kvs P.str P.int ps))), x5, some (.p (.dct (kvs P.str P.int qs))), some (.p (.dct (kvs P.str P.int qs))), some (.p (opS (lckT (qs.map (·.1)) (T.take i)))), some (.p (.int (totT (fOf ps) (T.take i)))), x10, x11, x12, x13, x14, none]) ⟨rfl, none, none, none, rfl⟩ ?_ ?_)
      · rintro i d env s hd' ⟨rfl, x10, x11, x13, rfl⟩
        rw [List.getElem?_map] at hd'
        obtain ⟨q, hq, rfl⟩ := Option.map_eq_some_iff.mp hd'
        have qm := List.mem_of_getElem? hq
        have wq := wor_of hlw hN.num (TB.pr q qm) (fun x hx => hN' _ (TS q qm x hx))
        have m1 := bop_mulI (mul_ok hN.num (by decide) TB qm)
        have tk := take1 hq
        have tt : totT (fOf ps) (T.take (i + 1)) = totT (fOf ps) (T.take i) + q.1 * (wor (fOf ps) q.2 : Int) := by rw [tk, totT_app, totT_one]
        have lt' : lckT (qs.map (·.1)) (T.take (i + 1)) = match lckT (qs.map (·.1)) (T.take i) with
          | some y => some y
          | none => (lckL (qs.map (·.1)) q.2).head? := by rw [tk, lckT_app, lckT_one] <;> rfl
        have hmk := fun st => mkL_map (fun x : Str × Int => P.str x.1) (q.2.filter fun x => decide (x.1 ∉ qs.map (·.1))) st
        have hl2 : (q.2.filter fun x => decide (x.1 ∉ qs.map (·.1))).map (fun x : Str × Int => P.str x.1) = (lckL (qs.map (·.1)) q.2).map P.str := by unfold lckL; rw [List.map_map]; rfl
        rw [hl2] at hmk
        rw [tt, lt']
        generalize hQQ : P.dct (kvs P.str P.int qs) = QQ at *
        generalize hPP : P.dct (kvs P.str P.int ps) = PP at *
        (simp -implicitDefEqProofs only [↓evZP, evZQ0, evZQ1, evZQ2, evZQ3, evZQ4, evZQ5, List.getElem?_cons_zero, List.getElem?_cons_succ, List.set_cons_zero, List.set_cons_succ, Option.map_some, Option.bind_some, Option.bind_none, Option.map_none, ite_true, ite_false, if_true, if_false, Bool.not_true, Bool.not_false, decide_true, decide_false, Bool.false_eq_true, decide_eq_true_eq, Bool.not_eq_true', decide_eq_false_iff_not, callM, pureL, Bool.and_true, Bool.true_and, Bool.and_false, Bool.false_and, Option.toList, Int.natCast_zero, Int.cast_ofNat_Int, not_true_eq_false, not_false_eq_true, Int.reduceEq, Int.reduceLT, Int.reduceLE, Int.reduceNe, Nat.reduceAdd, stepF, tm1_1, src_pr]; try simp -implicitDefEqProofs only [Res.bindL, Res.thnL, SR.bindL, SR.wpL, Res.wpL, iteS, iteR, chsL])
        repeat (first | refine ok_sbind ?_ | refine ok_thn ?_ | refine ok_rbind ?_)
        refine lc_filtW (fun x => decide (x.1 ∉ qs.map (·.1))) (fun x => .p (.str x.1)) (fun x hx => ?_) ?_
        · have ni := notin_kv qs x.1
          rw [hQQ] at ni
          by_cases g : x.1 ∈ qs.map (·.1)
          · rw [decide_eq_true g] at ni
            have ni : cop .notin (.str x.1) QQ = some false := ni
            (simp -implicitDefEqProofs only [↓evZP, evZQ0, evZQ1, evZQ2, evZQ3, evZQ4, evZQ5, List.getElem?_cons_zero, List.getElem?_cons_succ, List.set_cons_zero, List.set_cons_succ, Option.map_some, Option.bind_some, Option.bind_none, Option.map_none, ite_true, ite_false, if_true, if_false, Bool.not_true, Bool.not_false, decide_true, decide_false, Bool.false_eq_true, decide_eq_true_eq, Bool.not_eq_true', decide_eq_false_iff_not, callM, pureL, Bool.and_true, Bool.true_and, Bool.and_false, Bool.false_and, Option.toList, Int.natCast_zero, Int.cast_ofNat_Int, not_true_eq_false, not_false_eq_true, Int.reduceEq, Int.reduceLT, Int.reduceLE, Int.reduceNe, Nat.reduceAdd, lcStep, pi1_0, ni, g]; try simp -implicitDefEqProofs only [Res.bindL, Res.thnL, SR.bindL, SR.wpL, Res.wpL, iteS, iteR, chsL])
          · rw [decide_eq_false g] at ni
            have ni : cop .notin (.str x.1) QQ = some true := ni
            (simp -implicitDefEqProofs only [↓evZP, evZQ0, evZQ1, evZQ2, evZQ3, evZQ4, evZQ5, List.getElem?_cons_zero, List.getElem?_cons_succ, List.set_cons_zero, List.set_cons_succ, Option.map_some, Option.bind_some, Option.bind_none, Option.map_none, ite_true, ite_false, if_true, if_false, Bool.not_true, Bool.not_false, decide_true, decide_false, Bool.false_eq_true, decide_eq_true_eq, Bool.not_eq_true', decide_eq_false_iff_not, callM, pureL, Bool.and_true, Bool.true_and, Bool.and_false, Bool.false_and, Option.toList, Int.natCast_zero, Int.cast_ofNat_Int, not_true_eq_false, not_false_eq_true, Int.reduceEq, Int.reduceLT, Int.reduceLE, Int.reduceNe, Nat.reduceAdd, lcStep, pi1_0, ni, g]; try simp -implicitDefEqProofs only [Res.bindL, Res.thnL, SR.bindL, SR.wpL, Res.wpL, iteS, iteR, chsL])
        have els : ∀ s, blt .len [.p (.lst ((lckL (qs.map (·.1)) q.2).map P.str))] s = .ok (.p (.int ((lckL (qs.map (·.1)) q.2).length : Int))) s := fun s => by rw [blt_lenL, List.length_map]
        rcases hlv 100 (fOf ps) qs q.2 NQ (by decide) (TB.pr q qm) with ⟨l0, s1', e1⟩ | ⟨y, r, s1', l1, e1⟩
        · rw [hQQ] at e1
          rw [l0] at hmk els ⊢
          have i1 := hli (.int (wor (fOf ps) q.2 : Int)) rfl
          have i1 : cf li [.p (.int (wor (fOf ps) q.2 : Int))] [] = .ok (.p (.bl true)) [] := i1
          have oo : (match lckT (qs.map (·.1)) (T.take i) with
            | some y => some y
            | none => ([] : List Str).head?) = lckT (qs.map (·.1)) (T.take i) := by cases lckT (qs.map (·.1)) (T.take i) <;> rfl
          rw [oo]
          have g0 : ¬ ((0 : Int) < (([] : List Str).length : Int)) := by decide
          have g1 : ¬ ((0 : Int) < (([] : List P).length : Int)) := by decide
          (simp -implicitDefEqProofs only [↓evZP, evZQ0, evZQ1, evZQ2, evZQ3, evZQ4, evZQ5, List.getElem?_cons_zero, List.getElem?_cons_succ, List.set_cons_zero, List.set_cons_succ, Option.map_some, Option.bind_some, Option.bind_none, Option.map_none, ite_true, ite_false, if_true, if_false, Bool.not_true, Bool.not_false, decide_true, decide_false, Bool.false_eq_true, decide_eq_true_eq, Bool.not_eq_true', decide_eq_false_iff_not, callM, pureL, Bool.and_true, Bool.true_and, Bool.and_false, Bool.false_and, Option.toList, Int.natCast_zero, Int.cast_ofNat_Int, not_true_eq_false, not_false_eq_true, Int.reduceEq, Int.reduceLT, Int.reduceLE, Int.reduceNe, Nat.reduceAdd, List.map_cons, List.map_nil, hmk, els, tm1_0, tm1_1, e1, i1, wq, m1, g0, g1, ne_eq, Int.ofNat_lt]; try simp -implicitDefEqProofs only [Res.bindL, Res.thnL, SR.bindL, SR.wpL, Res.wpL, iteS, iteR, chsL])
          exact ⟨by trivial, _, _, _, rfl⟩
        · rw [hQQ] at e1
          rw [l1] at hmk els ⊢
          have g0 : (0 : Int) < ((y :: r).length : Int) := by rw [List.length_cons]; omega
          have nt := ne_t1 y
          rw [List.map_cons] at hmk els
          have on := opS_isN (lckT (qs.map (·.1)) (T.take i))
          cases oo : lckT (qs.map (·.1)) (T.take i) with
          | none =>
            rw [oo] at on
            have on : cop .isN (opS none) .non = some true := on
            (simp -implicitDefEqProofs only [↓evZP, evZQ0, evZQ1, evZQ2, evZQ3, evZQ4, evZQ5, List.getElem?_cons_zero, List.getElem?_cons_succ, List.set_cons_zero, List.set_cons_succ, Option.map_some, Option.bind_some, Option.bind_none, Option.map_none, ite_true, ite_false, if_true, if_false, Bool.not_true, Bool.not_false, decide_true, decide_false, Bool.false_eq_true, decide_eq_true_eq, Bool.not_eq_true', decide_eq_false_iff_not, callM, pureL, Bool.and_true, Bool.true_and, Bool.and_false, Bool.false_and, Option.toList, Int.natCast_zero, Int.cast_ofNat_Int, not_true_eq_false, not_false_eq_true, Int.reduceEq, Int.reduceLT, Int.reduceLE, Int.reduceNe, Nat.reduceAdd, List.map_cons, List.map_nil, hmk, els, tm1_0, tm1_1, e1, wq, m1, g0, lst_0, nt, on]; try simp -implicitDefEqProofs only [Res.bindL, Res.thnL, SR.bindL, SR.wpL, Res.wpL, iteS, iteR, chsL])
            exact ⟨by trivial, _, _, _, rfl⟩
          | some y0 =>
            rw [oo] at on
            have on : cop .isN (opS (some y0)) .non = some false := on
            (simp -implicitDefEqProofs only [↓evZP, evZQ0, evZQ1, evZQ2, evZQ3, evZQ4, evZQ5, List.getElem?_cons_zero, List.getElem?_cons_succ, List.set_cons_zero, List.set_cons_succ, Option.map_some, Option.bind_some, Option.bind_none, Option.map_none, ite_true, ite_false, if_true, if_false, Bool.not_true, Bool.not_false, decide_true, decide_false, Bool.false_eq_true, decide_eq_true_eq, Bool.not_eq_true', decide_eq_false_iff_not, callM, pureL, Bool.and_true, Bool.true_and, Bool.and_false, Bool.false_and, Option.toList, Int.natCast_zero, Int.cast_ofNat_Int, not_true_eq_false, not_false_eq_true, Int.reduceEq, Int.reduceLT, Int.reduceLE, Int.reduceNe, Nat.reduceAdd, List.map_cons, List.map_nil, hmk, els, tm1_0, tm1_1, e1, wq, m1, g0, lst_0, nt, on]; try simp -implicitDefEqProofs only [Res.bindL, Res.thnL, SR.bindL, SR.wpL, Res.wpL, iteS, iteR, chsL])
            exact ⟨by trivial, _, _, _, rfl⟩
      · rintro e s ⟨rfl, x10, x11, x13, rfl⟩
        rw [List.length_map, List.take_length]
        have dq := dqR_kv qs
        have tp : ∃ s, cf lt [.p (tm T), .p (.dct (kvs P.str P.int ps))] [] = .ok (.p (.int (totT (fOf ps) T))) s := by
          rcases hlt 100 (fOf ps) ps T hN.num (by decide) TB with ⟨_, h⟩ | ⟨y, s, h, _⟩
          · exact h
          · rw [lckT_all hN' TS] at h; exact nomatch h
        obtain ⟨sp, tp⟩ := tp
        have nn := opS_notN (lckT (qs.map (·.1)) T)
        rcases hlt 100 (fOf ps) qs T NQ (by decide) TB with ⟨l0, s1', e1⟩ | ⟨y, s1', l0, e1⟩
        · rw [l0] at nn ⊢
          have nn : cop .notN (opS none) .non = some false := nn
          have i1 : cf li [.p (.int (totT (fOf ps) T))] [] = .ok (.p (.bl true)) [] := hli (.int (totT (fOf ps) T)) rfl
          generalize hQQ : P.dct (kvs P.str P.int qs) = QQ at *
          generalize hPP : P.dct (kvs P.str P.int ps) = PP at *
          (simp -implicitDefEqProofs only [↓evZP, evZQ0, evZQ1, evZQ2, evZQ3, evZQ4, evZQ5, List.getElem?_cons_zero, List.getElem?_cons_succ, List.set_cons_zero, List.set_cons_succ, Option.map_some, Option.bind_some, Option.bind_none, Option.map_none, ite_true, ite_false, if_true, if_false, Bool.not_true, Bool.not_false, decide_true, decide_false, Bool.false_eq_true, decide_eq_true_eq, Bool.not_eq_true', decide_eq_false_iff_not, callM, pureL, Bool.and_true, Bool.true_and, Bool.and_false, Bool.false_and, Option.toList, Int.natCast_zero, Int.cast_ofNat_Int, not_true_eq_false, not_false_eq_true, Int.reduceEq, Int.reduceLT, Int.reduceLE, Int.reduceNe, Nat.reduceAdd, List.map_cons, List.map_nil, e1, nn, i1, e_deq', dq, tp, ne_eq]; try simp -implicitDefEqProofs only [Res.bindL, Res.thnL, SR.bindL, SR.wpL, Res.wpL, iteS, iteR, chsL])
        · rw [l0] at nn ⊢
          have nn : cop .notN (opS (some y)) .non = some true := nn
          have nt := ne_t1 y
          have nt : cop .ne (.tup [.str y]) (.tup [opS (some y)]) = some false := nt
          generalize hQQ : P.dct (kvs P.str P.int qs) = QQ at *
          generalize hPP : P.dct (kvs P.str P.int ps) = PP at *
          (simp -implicitDefEqProofs only [↓evZP, evZQ0, evZQ1, evZQ2, evZQ3, evZQ4, evZQ5, List.getElem?_cons_zero, List.getElem?_cons_succ, List.set_cons_zero, List.set_cons_succ, Option.map_some, Option.bind_some, Option.bind_none, Option.map_none, ite_true, ite_false, if_true, if_false, Bool.not_true, Bool.not_false, decide_true, decide_false, Bool.false_eq_true, decide_eq_true_eq, Bool.not_eq_true', decide_eq_false_iff_not, callM, pureL, Bool.and_true, Bool.true_and, Bool.and_false, Bool.false_and, Option.toList, Int.natCast_zero, Int.cast_ofNat_Int, not_true_eq_false, not_false_eq_true, Int.reduceEq, Int.reduceLT, Int.reduceLE, Int.reduceNe, Nat.reduceAdd, List.map_cons, List.map_nil, e1, nn, nt, e_deq', dq, tp]; try simp -implicitDefEqProofs only [Res.bindL, Res.thnL, SR.bindL, SR.wpL, Res.wpL, iteS, iteR, chsL])
end PyM
set_option maxHeartbeats 0
namespace LW
open PySem PySem.Spec PyProof.Rows L2 PyM
def f0 : Fn := ⟨"power", 2, 5, (.cons (.asg (.nm 2) (.lit (.int 1)))
  (.cons (.asg (.nm 3) (.var 0))
  (.cons (.asg (.nm 4) (.var 1))
  (.cons (.whl (.cmp .gt (.var 4) (.lit (.int 0))) (.cons (.ite (.cmp .eq (.bin .band (.var 4) (.lit (.int 1))) (.lit (.int 1))) (.cons (.asg (.nm 2) (.bin .mul (.var 2) (.var 3)))
  .nil) .nil)
  (.cons (.asg (.nm 4) (.bin .fdiv (.var 4) (.lit (.int 2))))
  (.cons (.ite (.cmp .gt (.var 4) (.lit (.int 0))) (.cons (.asg (.nm 3) (.bin .mul (.var 3) (.var 3)))
  .nil) .nil)
  .nil))))
  (.cons (.ret (.var 2))
  .nil)))))⟩
def f1 : Fn := ⟨"value", 2, 5, (.cons (.asg (.nm 2) (.lit (.int 1)))
  (.cons (.for (.tup (.cons (.nm 3) (.cons (.nm 4) .nil))) (.seq (.var 0)) (.cons (.ite (.cmp .notin (.var 3) (.var 1)) (.cons (.rsf "NoName" "name" (.var 3))
  .nil) .nil)
  (.cons (.asg (.nm 2) (.bin .mul (.var 2) (.call .pur 0 (.cons (.ix (.var 1) (.var 3)) (.cons (.var 4) .nil)))))
  .nil)))
  (.cons (.ret (.var 2))
  .nil)))⟩
def f2 : Fn := ⟨"total", 2, 5, (.cons (.asg (.nm 2) (.lit (.int 0)))
  (.cons (.for (.tup (.cons (.nm 3) (.cons (.nm 4) .nil))) (.seq (.var 0)) (.cons (.asg (.nm 2) (.bin .add (.var 2) (.bin .mul (.var 3) (.call .pur 1 (.cons (.var 4) (.cons (.var 1) .nil))))))
  .nil))
  (.cons (.ret (.var 2))
  .nil)))⟩
def f3 : Fn := ⟨"_law_dice", 1, 2, (.cons (.ret (.lst true (.cons (.lc false (.blt .abs (.cons (.blt .int (.cons (.var 1) .nil)) .nil)) [1] (.nm 1) (.seq (.sl (.var 0) .none (.some (.lit (.int 63))) false)) .none) (.cons (.lit (.int 0)) (.cons (.lit (.int 0)) (.cons (.lit (.int 1)) (.cons (.lit (.int 0)) .nil)))))))
  .nil)⟩
def f4 : Fn := ⟨"_law_draw", 2, 5, (.cons (.ite (.and (.cmp .eq (.ix (.var 0) (.lit (.int 2))) (.lit (.int 0))) (.cmp .lt (.ix (.var 0) (.lit (.int 1))) (.blt .len (.cons (.ix (.var 0) (.lit (.int 0))) .nil)))) (.cons (.asg (.nm 3) (.ix (.ix (.var 0) (.lit (.int 0))) (.ix (.var 0) (.lit (.int 1)))))
  (.cons (.asg (.sub (.var 0) (.lit (.int 1))) (.bin .add (.ix (.var 0) (.lit (.int 1))) (.lit (.int 1))))
  (.cons (.ite (.cmp .ge (.var 3) (.bin .pow (.lit (.int 10)) (.lit (.int 18)))) (.cons (.asg (.sub (.var 0) (.lit (.int 2))) (.var 3))
  .nil) (.cons (.asg (.sub (.var 0) (.lit (.int 3))) (.bin .mod (.blt .int (.cons (.bin .add (.bin .add (.bin .mul (.ix (.var 0) (.lit (.int 3))) (.lit (.int 69621))) (.bin .mul (.var 3) (.lit (.int 40692)))) (.ix (.var 0) (.lit (.int 1)))) .nil)) (.lit (.int 2147483647))))
  .nil))
  .nil))) .nil)
  (.cons (.ite (.cmp .gt (.ix (.var 0) (.lit (.int 2))) (.lit (.int 0))) (.cons (.asg (.nm 4) (.bin .mod (.blt .int (.cons (.ix (.var 0) (.lit (.int 2))) .nil)) (.var 1)))
  (.cons (.asg (.sub (.var 0) (.lit (.int 2))) (.bin .fdiv (.ix (.var 0) (.lit (.int 2))) (.var 1)))
  (.cons (.ret (.var 4))
  .nil))) .nil)
  (.cons (.asg (.sub (.var 0) (.lit (.int 4))) (.bin .add (.ix (.var 0) (.lit (.int 4))) (.lit (.int 1))))
  (.cons (.asg (.sub (.var 0) (.lit (.int 3))) (.bin .mod (.blt .int (.cons (.bin .add (.bin .add (.bin .mul (.ix (.var 0) (.lit (.int 3))) (.lit (.int 48271))) (.bin .mul (.ix (.var 0) (.lit (.int 4))) (.lit (.int 7919)))) (.lit (.int 1))) .nil)) (.lit (.int 2147483647))))
  (.cons (.asg (.nm 2) (.bin .mod (.blt .int (.cons (.bin .mul (.ix (.var 0) (.lit (.int 3))) (.bin .add (.bin .fdiv (.ix (.var 0) (.lit (.int 3))) (.lit (.int 1009))) (.lit (.int 69623)))) .nil)) (.lit (.int 2147483399))))
  (.cons (.asg (.nm 2) (.bin .mod (.blt .int (.cons (.bin .mul (.var 2) (.bin .add (.bin .fdiv (.var 2) (.lit (.int 2003))) (.lit (.int 40693)))) .nil)) (.lit (.int 2147483563))))
  (.cons (.ret (.bin .mod (.blt .int (.cons (.bin .fdiv (.var 2) (.lit (.int 16))) .nil)) (.var 1)))
  .nil)))))))⟩
def f5 : Fn := ⟨"_law_word", 2, 5, (.cons (.asg (.nm 2) (.lit (.str "abcdefghijklmnopqrstuvwxyz")))
  (.cons (.asg (.nm 3) (.lit (.str "")))
  (.cons (.for (.nm 4) (.rng1 (.bin .add (.lit (.int 1)) (.call .kep 4 (.cons (.var 0) (.cons (.var 1) .nil))))) (.cons (.asg (.nm 3) (.bin .add (.var 3) (.ix (.var 2) (.call .kep 4 (.cons (.var 0) (.cons (.lit (.int 26)) .nil))))))
  .nil))
  (.cons (.ret (.var 3))
  .nil))))⟩
def f6 : Fn := ⟨"_law_names", 2, 9, (.cons (.asg (.nm 2) (.call .kep 4 (.cons (.var 0) (.cons (.lit (.int 2)) .nil))))
  (.cons (.asg (.nm 3) (.call .kep 5 (.cons (.var 0) (.cons (.lit (.int 8)) .nil))))
  (.cons (.asg (.nm 4) (.lst true .nil))
  (.cons (.for (.nm 5) (.rng1 (.var 1)) (.cons (.asg (.nm 6) (.call .kep 5 (.cons (.var 0) (.cons (.lit (.int 8)) .nil))))
  (.cons (.ite (.cmp .eq (.var 2) (.lit (.int 1))) (.cons (.asg (.nm 8) (.call .kep 4 (.cons (.var 0) (.cons (.blt .len (.cons (.var 3) .nil)) .nil))))
  (.cons (.asg (.nm 6) (.bin .add (.bin .add (.sl (.var 3) .none (.some (.var 8)) false) (.ix (.var 6) (.lit (.int 0)))) (.sl (.var 3) (.some (.bin .add (.var 8) (.lit (.int 1)))) .none false)))
  .nil)) .nil)
  (.cons (.for (.nm 7) (.seq (.lit (.str "abcdefgh"))) (.cons (.ite (.cmp .isin (.var 6) (.var 4)) (.cons (.asg (.nm 6) (.bin .add (.sl (.var 6) .none (.some (.lit (.int 7))) false) (.var 7)))
  .nil) .nil)
  .nil))
  (.cons (.ex (.mth .append (.var 4) (.cons (.var 6) .nil)))
  .nil)))))
  (.cons (.ret (.blt (.sorted false) (.cons (.var 4) .nil)))
  .nil)))))⟩
def f7 : Fn := ⟨"_law_product", 3, 6, (.cons (.asg (.nm 3) (.dnew true))
  (.cons (.for (.nm 4) (.rng1 (.call .kep 4 (.cons (.var 0) (.cons (.bin .add (.var 2) (.lit (.int 1))) .nil)))) (.cons (.asg (.nm 5) (.ix (.var 1) (.call .kep 4 (.cons (.var 0) (.cons (.blt .len (.cons (.var 1) .nil)) .nil)))))
  (.cons (.asg (.sub (.var 3) (.var 5)) (.bin .add (.mth .get2 (.var 3) (.cons (.var 5) (.cons (.lit (.int 0)) .nil))) (.lit (.int 1))))
  .nil)))
  (.cons (.ret (.blt .tuple (.cons (.lc false (.tup (.cons (.var 5) (.cons (.ix (.var 3) (.var 5)) .nil))) [5] (.nm 5) (.seq (.blt (.sorted false) (.cons (.var 3) .nil))) .none) .nil)))
  .nil)))⟩
def f8 : Fn := ⟨"_law_sum", 5, 8, (.cons (.asg (.nm 5) (.dnew true))
  (.cons (.for (.nm 6) (.rng1 (.bin .add (.lit (.int 1)) (.call .kep 4 (.cons (.var 0) (.cons (.var 2) .nil))))) (.cons (.asg (.nm 7) (.call .kep 7 (.cons (.var 0) (.cons (.var 1) (.cons (.var 3) .nil)))))
  (.cons (.asg (.sub (.var 5) (.var 7)) (.bin .add (.lit (.int 1)) (.call .kep 4 (.cons (.var 0) (.cons (.var 4) .nil)))))
  .nil)))
  (.cons (.ret (.blt .tuple (.cons (.lc false (.tup (.cons (.ix (.var 5) (.var 7)) (.cons (.var 7) .nil))) [7] (.nm 7) (.seq (.blt (.sorted false) (.cons (.var 5) .nil))) .none) .nil)))
  .nil)))⟩
def f9 : Fn := ⟨"_law_is_integer", 1, 1, (.cons (.ret (.and (.isi (.var 0) [.ty "int"]) (.not (.isi (.var 0) [.ty "bool"]))))
  .nil)⟩
def f10 : Fn := ⟨"_law_worth", 2, 5, (.cons (.asg (.nm 2) (.lit (.int 1)))
  (.cons (.for (.nm 3) (.seq (.var 0)) (.cons (.for (.nm 4) (.rng1 (.ix (.var 3) (.lit (.int 1)))) (.cons (.asg (.nm 2) (.bin .mul (.var 2) (.ix (.var 1) (.ix (.var 3) (.lit (.int 0))))))
  .nil))
  .nil))
  (.cons (.ret (.var 2))
  .nil)))⟩
def f11 : Fn := ⟨"_law_value", 2, 3, (.cons (.trya (.cons (.ret (.call .pur 1 (.cons (.var 0) (.cons (.var 1) .nil))))
  .nil) "HighError" 2 ["NoName"] [] (.ite (.and (.isi "NoName" ["NoName"] []) (.isi "ValueError" ["NoName"] [])) (.ret (.tup (.cons (.fld "name") (.nil))) .nil) (.ret (.lit .non) .nil)))
  .nil)⟩
def f12 : Fn := ⟨"_law_total", 2, 3, (.cons (.trya (.cons (.ret (.call .pur 2 (.cons (.var 0) (.cons (.var 1) .nil))))
  .nil) "HighError" 2 ["NoName"] [] (.ite (.and (.isi "NoName" ["NoName"] []) (.isi "ValueError" ["NoName"] [])) (.ret (.tup (.cons (.fld "name") (.nil))) .nil) (.ret (.lit .non) .nil)))
  .nil)⟩
def f13 : Fn := ⟨"_law_number", 1, 1, (.cons (.ite (.cmp .eq (.call .kep 4 (.cons (.var 0) (.cons (.lit (.int 3)) .nil))) (.lit (.int 0))) (.cons (.ret (.bin .add (.lit (.int 1)) (.call .kep 4 (.cons (.var 0) (.cons (.bin .sub (.bin .pow (.lit (.int 10)) (.lit (.int 30))) (.lit (.int 1))) .nil)))))
  .nil) .nil)
  (.cons (.ret (.bin .add (.lit (.int 1)) (.call .kep 4 (.cons (.var 0) (.cons (.lit (.int 12)) .nil)))))
  .nil))⟩
def f14 : Fn := ⟨"law", 1, 16, (.cons (.asg (.nm 1) (.call .kep 3 (.cons (.var 0) .nil)))
  (.cons (.asg (.nm 2) (.call .kep 6 (.cons (.var 1) (.cons (.bin .add (.lit (.int 1)) (.call .kep 4 (.cons (.var 1) (.cons (.lit (.int 5)) .nil)))) .nil))))
  (.cons (.ite (.cmp .eq (.call .kep 4 (.cons (.var 1) (.cons (.lit (.int 3)) .nil))) (.lit (.int 0))) (.cons (.asg (.nm 2) (.bin .add (.var 2) (.lst false (.cons (.lit (.str "#")) .nil))))
  .nil) .nil)
  (.cons (.asg (.nm 3) (.call .kep 8 (.cons (.var 1) (.cons (.var 2) (.cons (.lit (.int 6)) (.cons (.lit (.int 6)) (.cons (.bin .pow (.lit (.int 10)) (.lit (.int 20))) .nil)))))))
  (.cons (.ite (.cmp .eq (.call .kep 4 (.cons (.var 1) (.cons (.lit (.int 2)) .nil))) (.lit (.int 0))) (.cons (.asg (.nm 3) (.call .kep 8 (.cons (.var 1) (.cons (.var 2) (.cons (.lit (.int 6)) (.cons (.lit (.int 6)) (.cons (.lit (.int 9)) .nil)))))))
  .nil) .nil)
  (.cons (.asg (.nm 4) (.dnew true))
  (.cons (.for (.nm 5) (.seq (.var 2)) (.cons (.asg (.sub (.var 4) (.var 5)) (.call .kep 13 (.cons (.var 1) .nil)))
  .nil))
  (.cons (.gz 4)
  (.cons (.asg (.nm 6) (.blt (.dict true) (.cons (.var 4) .nil)))
  (.cons (.ite (.cmp .eq (.call .kep 4 (.cons (.var 1) (.cons (.lit (.int 3)) .nil))) (.lit (.int 0))) (.cons (.for (.nm 12) (.rng1 (.bin .add (.lit (.int 1)) (.call .kep 4 (.cons (.var 1) (.cons (.lit (.int 2)) .nil))))) (.cons (.asg (.nm 14) (.ix (.var 2) (.call .kep 4 (.cons (.var 1) (.cons (.blt .len (.cons (.var 2) .nil)) .nil)))))
  (.cons (.ite (.cmp .isin (.var 14) (.var 6)) (.cons (.ex (.mth .popk (.var 6) (.cons (.var 14) .nil)))
  .nil) .nil)
  .nil)))
  .nil) .nil)
  (.cons (.gz 1)
  (.cons (.gz 6)
  (.cons (.asg (.nm 7) (.blt (.dict false) (.cons (.var 6) .nil)))
  (.cons (.asg (.nm 8) (.lit .non))
  (.cons (.asg (.nm 9) (.lit (.int 0)))
  (.cons (.for (.nm 10) (.seq (.var 3)) (.cons (.asg (.nm 13) (.lc false (.ix (.var 15) (.lit (.int 0))) [15] (.nm 15) (.seq (.ix (.var 10) (.lit (.int 1)))) (.some (.cmp .notin (.ix (.var 15) (.lit (.int 0))) (.var 6)))))
  (.cons (.asg (.nm 11) (.call .pur 11 (.cons (.ix (.var 10) (.lit (.int 1))) (.cons (.var 6) .nil))))
  (.cons (.ite (.cmp .gt (.blt .len (.cons (.var 13) .nil)) (.lit (.int 0))) (.cons (.ite (.cmp .ne (.var 11) (.tup (.cons (.ix (.var 13) (.lit (.int 0))) .nil))) (.cons (.ret (.lit (.bl false)))
  .nil) .nil)
  (.cons (.ite (.cmp .isN (.var 8) (.lit .non)) (.cons (.asg (.nm 8) (.ix (.var 13) (.lit (.int 0))))
  .nil) .nil)
  .nil)) (.cons (.ite (.or (.not (.call .pur 9 (.cons (.var 11) .nil))) (.cmp .ne (.var 11) (.call .pur 10 (.cons (.ix (.var 10) (.lit (.int 1))) (.cons (.var 4) .nil))))) (.cons (.ret (.lit (.bl false)))
  .nil) .nil)
  .nil))
  (.cons (.asg (.nm 9) (.bin .add (.var 9) (.bin .mul (.ix (.var 10) (.lit (.int 0))) (.call .pur 10 (.cons (.ix (.var 10) (.lit (.int 1))) (.cons (.var 4) .nil))))))
  .nil)))))
  (.cons (.asg (.nm 11) (.call .pur 12 (.cons (.var 3) (.cons (.var 6) .nil))))
  (.cons (.ite (.cmp .notN (.var 8) (.lit .non)) (.cons (.ite (.cmp .ne (.var 11) (.tup (.cons (.var 8) .nil))) (.cons (.ret (.lit (.bl false)))
  .nil) .nil)
  .nil) (.cons (.ite (.or (.not (.call .pur 9 (.cons (.var 11) .nil))) (.cmp .ne (.var 11) (.var 9))) (.cons (.ret (.lit (.bl false)))
  .nil) .nil)
  .nil))
  (.cons (.ret (.and (.deq (.var 6) (.var 7)) (.cmp .eq (.call .pur 12 (.cons (.var 3) (.cons (.var 4) .nil))) (.var 9))))
  .nil)))))))))))))))))))⟩
def fs : List Fn := [f0, f1, f2, f3, f4, f5, f6, f7, f8, f9, f10, f11, f12, f13, f14]
def top (i : Nat) : Stmt := PySem.Challenge.pw_howhigh_k03_values_of_products_and_sums.main.body.getD i (.Pass ⟨0, 0, 0, 0⟩)
def dd (x : Str) (i : Nat) : He.DefD := ⟨(x, none), x, x, defArgs (top i), defBody (top i), defScope (top i), [], []⟩
def fn : List He.DefD := [dd "power" 1, dd "value" 6, dd "total" 7, dd "_law_dice" 9, dd "_law_draw" 10, dd "_law_word" 11, dd "_law_names" 12, dd "_law_product" 13, dd "_law_sum" 14, dd "_law_is_integer" 15, dd "_law_worth" 16, dd "_law_value" 17, dd "_law_total" 18, dd "_law_number" 19, dd "law" 20]
def bl : List Str := ["ValueError", "abs", "bool", "dict", "int", "isinstance", "len", "range", "sorted", "super", "tuple"]
def con : List (Str × PyM.P) := []
def cl : List Str := []
def fld : List (Str × Str) := []
def xcs : List Xc := [⟨"NoName", some "name", [("HighError", true), ("NoName", true), ("ValueError", true)], ["name"]⟩]
def gl : List He.Fa := [.glo "power", .glo "value", .glo "total", .glo "_law_dice", .glo "_law_draw", .glo "_law_word", .glo "_law_names", .glo "_law_product", .glo "_law_sum", .glo "_law_is_integer", .glo "_law_worth", .glo "_law_value", .glo "_law_total", .glo "_law_number", .glo "law"] ++ fld.map fun q => He.Fa.noat q.1 q.2
def fa : List He.Fa := gl ++ bl.map He.Fa.free
abbrev fil : Str := (PySem.Challenge.rw_howhigh_k03_values_of_products_and_sums).prog.main.file
theorem topS : ((PySem.Challenge.rw_howhigh_k03_values_of_products_and_sums).prog.main.scope.names.lookup ("super" : Str)).isSome = false := by kernel_rfl
abbrev R : PySem.W.OpenRow := PySem.W.OpenLaw.row PySem.Challenge.rw_howhigh_k03_values_of_products_and_sums
abbrev hk : PySem.W.Hook := hookC 4 fa fn con cl bl fil xcs
def ob (s : PySem.W.SharedT) : AlC := obsCG 4 fa fn con cl bl fil xcs (HandSHeadRun.getT s)
theorem ob_eq (s : PySem.W.SharedT) : ob s = hk.obs s.abs := obsCG_eq (HandSHeadRun.getT_eq s)
abbrev loose : List PySem.Str := (["HighError", "NoName", "_law_dice", "_law_draw", "_law_is_integer", "_law_names", "_law_number", "_law_product", "_law_sum", "_law_total", "_law_value", "_law_word", "_law_worth", "power"] : List PySem.Str) ++ (["total", "value"] : List PySem.Str)
theorem run (w : World) : HandSHeadRun.RunEq R (PySem.W.view R.prog [20]) hk ob 4000 loose w := by
  intro os
  kernel_rfl
def names : List Str := fs.map (·.name)
def N0 : List Str := ["number", "times", "told", "square", "left"]
theorem sc0 : FnScope N0 ["number", "times"] (defScope (top 1)) := ⟨rfl, rfl, rfl, by decide +kernel, rfl, by decide +kernel, by decide +kernel⟩
theorem ck0 : chkB ⟨N0, defScope (top 1), names, fun _ => true, cl, bl, con, fld, xcs⟩ f0.body (defBody (top 1)) = true := by kernel_rfl
def N1 : List Str := ["product", "numbers", "told", "letter", "many"]
theorem sc1 : FnScope N1 ["product", "numbers"] (defScope (top 6)) := ⟨rfl, rfl, rfl, by decide +kernel, rfl, by decide +kernel, by decide +kernel⟩
theorem ck1 : chkB ⟨N1, defScope (top 6), names, fun _ => true, cl, bl, con, fld, xcs⟩ f1.body (defBody (top 6)) = true := by kernel_rfl
def N2 : List Str := ["terms", "numbers", "told", "coefficient", "product"]
theorem sc2 : FnScope N2 ["terms", "numbers"] (defScope (top 7)) := ⟨rfl, rfl, rfl, by decide +kernel, rfl, by decide +kernel, by decide +kernel⟩
theorem ck2 : chkB ⟨N2, defScope (top 7), names, fun _ => true, cl, bl, con, fld, xcs⟩ f2.body (defBody (top 7)) = true := by kernel_rfl
def N3 : List Str := ["_law_script", "_law_cell"]
theorem sc3 : FnScope N3 ["_law_script"] (defScope (top 9)) := ⟨rfl, rfl, rfl, by decide +kernel, rfl, by decide +kernel, by decide +kernel⟩
theorem ck3 : chkB ⟨N3, defScope (top 9), names, fun _ => true, cl, bl, con, fld, xcs⟩ f3.body (defBody (top 9)) = true := by kernel_rfl
def N4 : List Str := ["_law_dice_here", "_law_many", "_law_number_here", "_law_cell", "_law_drawn"]
theorem sc4 : FnScope N4 ["_law_dice_here", "_law_many"] (defScope (top 10)) := ⟨rfl, rfl, rfl, by decide +kernel, rfl, by decide +kernel, by decide +kernel⟩
theorem ck4 : chkB ⟨N4, defScope (top 10), names, fun _ => true, cl, bl, con, fld, xcs⟩ f4.body (defBody (top 10)) = true := by kernel_rfl
def N5 : List Str := ["_law_dice_here", "_law_most", "_law_letters", "_law_word_here", "_law_k"]
theorem sc5 : FnScope N5 ["_law_dice_here", "_law_most"] (defScope (top 11)) := ⟨rfl, rfl, rfl, by decide +kernel, rfl, by decide +kernel, by decide +kernel⟩
theorem ck5 : chkB ⟨N5, defScope (top 11), names, fun _ => true, cl, bl, con, fld, xcs⟩ f5.body (defBody (top 11)) = true := by kernel_rfl
def N6 : List Str := ["_law_dice_here", "_law_many", "_law_alike", "_law_base", "_law_names_here", "_law_k", "_law_word_here", "_law_sign", "_law_at"]
theorem sc6 : FnScope N6 ["_law_dice_here", "_law_many"] (defScope (top 12)) := ⟨rfl, rfl, rfl, by decide +kernel, rfl, by decide +kernel, by decide +kernel⟩
theorem ck6 : chkB ⟨N6, defScope (top 12), names, fun _ => true, cl, bl, con, fld, xcs⟩ f6.body (defBody (top 12)) = true := by kernel_rfl
def N7 : List Str := ["_law_dice_here", "_law_names_here", "_law_most", "_law_powers", "_law_k", "_law_name"]
theorem sc7 : FnScope N7 ["_law_dice_here", "_law_names_here", "_law_most"] (defScope (top 13)) := ⟨rfl, rfl, rfl, by decide +kernel, rfl, by decide +kernel, by decide +kernel⟩
theorem ck7 : chkB ⟨N7, defScope (top 13), names, fun _ => true, cl, bl, con, fld, xcs⟩ f7.body (defBody (top 13)) = true := by kernel_rfl
def N8 : List Str := ["_law_dice_here", "_law_names_here", "_law_terms", "_law_most", "_law_top", "_law_found", "_law_k", "_law_product_here"]
theorem sc8 : FnScope N8 ["_law_dice_here", "_law_names_here", "_law_terms", "_law_most", "_law_top"] (defScope (top 14)) := ⟨rfl, rfl, rfl, by decide +kernel, rfl, by decide +kernel, by decide +kernel⟩
theorem ck8 : chkB ⟨N8, defScope (top 14), names, fun _ => true, cl, bl, con, fld, xcs⟩ f8.body (defBody (top 14)) = true := by kernel_rfl
def N9 : List Str := ["_law_thing"]
theorem sc9 : FnScope N9 ["_law_thing"] (defScope (top 15)) := ⟨rfl, rfl, rfl, by decide +kernel, rfl, by decide +kernel, by decide +kernel⟩
theorem ck9 : chkB ⟨N9, defScope (top 15), names, fun _ => true, cl, bl, con, fld, xcs⟩ f9.body (defBody (top 15)) = true := by kernel_rfl
def N10 : List Str := ["_law_product_here", "_law_numbers", "_law_worth_here", "_law_pair", "_law_k"]
theorem sc10 : FnScope N10 ["_law_product_here", "_law_numbers"] (defScope (top 16)) := ⟨rfl, rfl, rfl, by decide +kernel, rfl, by decide +kernel, by decide +kernel⟩
theorem ck10 : chkB ⟨N10, defScope (top 16), names, fun _ => true, cl, bl, con, fld, xcs⟩ f10.body (defBody (top 16)) = true := by kernel_rfl
def N11 : List Str := ["_law_product_here", "_law_numbers", "e"]
theorem sc11 : FnScope N11 ["_law_product_here", "_law_numbers"] (defScope (top 17)) := ⟨rfl, rfl, rfl, by decide +kernel, rfl, by decide +kernel, by decide +kernel⟩
theorem ck11 : chkB ⟨N11, defScope (top 17), names, fun _ => true, cl, bl, con, fld, xcs⟩ f11.body (defBody (top 17)) = true := by kernel_rfl
def N12 : List Str := ["_law_terms", "_law_numbers", "e"]
theorem sc12 : FnScope N12 ["_law_terms", "_law_numbers"] (defScope (top 18)) := ⟨rfl, rfl, rfl, by decide +kernel, rfl, by decide +kernel, by decide +kernel⟩
theorem ck12 : chkB ⟨N12, defScope (top 18), names, fun _ => true, cl, bl, con, fld, xcs⟩ f12.body (defBody (top 18)) = true := by kernel_rfl
def N13 : List Str := ["_law_dice_here"]
theorem sc13 : FnScope N13 ["_law_dice_here"] (defScope (top 19)) := ⟨rfl, rfl, rfl, by decide +kernel, rfl, by decide +kernel, by decide +kernel⟩
theorem ck13 : chkB ⟨N13, defScope (top 19), names, fun _ => true, cl, bl, con, fld, xcs⟩ f13.body (defBody (top 19)) = true := by kernel_rfl
def N14 : List Str := ["_law_script", "_law_dice_here", "_law_names_here", "_law_terms", "_law_numbers", "_law_name", "_law_handed", "_law_kept", "_law_first", "_law_due", "_law_term", "_law_told", "_law_k", "_law_here", "_law_lacking", "_law_pair"]
theorem sc14 : FnScope N14 ["_law_script"] (defScope (top 20)) := ⟨rfl, rfl, rfl, by decide +kernel, rfl, by decide +kernel, by decide +kernel⟩
theorem ck14 : chkB ⟨N14, defScope (top 20), names, fun _ => true, cl, bl, con, fld, xcs⟩ f14.body (defBody (top 20)) = true := by kernel_rfl
theorem defs {K : PySem.W.Frag} {h : Heap} {mg : Str → Option Value} (X : K.In h) (G : h.Ns mainGlobals mg) (c : He.SaysD fa fn K) : ∀ (i : Nat) (f : Fn), fs[i]? = some f → ∃ nm a fd ps N params body scope, DefOk K mg names cl bl con fld xcs (caOf K cl) nm f a fd ps N params body scope
  | 0, f, h => by
    have h : some f0 = some f := h
    cases h
    obtain ⟨fd, F⟩ := c.def_ 0 (d := dd "power" 1) rfl
    exact ⟨"power", _, fd, ["number", "times"], N0, _, _, _, ⟨F, sc0, rfl, rfl, ck0, (fun _ => He.glo_ok X G (c.fact 0 (f := .glo "power") rfl)), (fun c' m' e => by
      have z : spl f0.name = none := by kernel_rfl
      rw [z] at e
      cases e), F.bindsN fun _ _ _ _ _ _ us hl => match us, hl with
      | [_, _], _ => rfl⟩⟩
  | 1, f, h => by
    have h : some f1 = some f := h
    cases h
    obtain ⟨fd, F⟩ := c.def_ 1 (d := dd "value" 6) rfl
    exact ⟨"value", _, fd, ["product", "numbers"], N1, _, _, _, ⟨F, sc1, rfl, rfl, ck1, (fun _ => He.glo_ok X G (c.fact 1 (f := .glo "value") rfl)), (fun c' m' e => by
      have z : spl f1.name = none := by kernel_rfl
      rw [z] at e
      cases e), F.bindsN fun _ _ _ _ _ _ us hl => match us, hl with
      | [_, _], _ => rfl⟩⟩
  | 2, f, h => by
    have h : some f2 = some f := h
    cases h
    obtain ⟨fd, F⟩ := c.def_ 2 (d := dd "total" 7) rfl
    exact ⟨"total", _, fd, ["terms", "numbers"], N2, _, _, _, ⟨F, sc2, rfl, rfl, ck2, (fun _ => He.glo_ok X G (c.fact 2 (f := .glo "total") rfl)), (fun c' m' e => by
      have z : spl f2.name = none := by kernel_rfl
      rw [z] at e
      cases e), F.bindsN fun _ _ _ _ _ _ us hl => match us, hl with
      | [_, _], _ => rfl⟩⟩
  | 3, f, h => by
    have h : some f3 = some f := h
    cases h
    obtain ⟨fd, F⟩ := c.def_ 3 (d := dd "_law_dice" 9) rfl
    exact ⟨"_law_dice", _, fd, ["_law_script"], N3, _, _, _, ⟨F, sc3, rfl, rfl, ck3, (fun _ => He.glo_ok X G (c.fact 3 (f := .glo "_law_dice") rfl)), (fun c' m' e => by
      have z : spl f3.name = none := by kernel_rfl
      rw [z] at e
      cases e), F.bindsN fun _ _ _ _ _ _ us hl => match us, hl with
      | [_], _ => rfl⟩⟩
  | 4, f, h => by
    have h : some f4 = some f := h
    cases h
    obtain ⟨fd, F⟩ := c.def_ 4 (d := dd "_law_draw" 10) rfl
    exact ⟨"_law_draw", _, fd, ["_law_dice_here", "_law_many"], N4, _, _, _, ⟨F, sc4, rfl, rfl, ck4, (fun _ => He.glo_ok X G (c.fact 4 (f := .glo "_law_draw") rfl)), (fun c' m' e => by
      have z : spl f4.name = none := by kernel_rfl
      rw [z] at e
      cases e), F.bindsN fun _ _ _ _ _ _ us hl => match us, hl with
      | [_, _], _ => rfl⟩⟩
  | 5, f, h => by
    have h : some f5 = some f := h
    cases h
    obtain ⟨fd, F⟩ := c.def_ 5 (d := dd "_law_word" 11) rfl
    exact ⟨"_law_word", _, fd, ["_law_dice_here", "_law_most"], N5, _, _, _, ⟨F, sc5, rfl, rfl, ck5, (fun _ => He.glo_ok X G (c.fact 5 (f := .glo "_law_word") rfl)), (fun c' m' e => by
      have z : spl f5.name = none := by kernel_rfl
      rw [z] at e
      cases e), F.bindsN fun _ _ _ _ _ _ us hl => match us, hl with
      | [_, _], _ => rfl⟩⟩
  | 6, f, h => by
    have h : some f6 = some f := h
    cases h
    obtain ⟨fd, F⟩ := c.def_ 6 (d := dd "_law_names" 12) rfl
    exact ⟨"_law_names", _, fd, ["_law_dice_here", "_law_many"], N6, _, _, _, ⟨F, sc6, rfl, rfl, ck6, (fun _ => He.glo_ok X G (c.fact 6 (f := .glo "_law_names") rfl)), (fun c' m' e => by
      have z : spl f6.name = none := by kernel_rfl
      rw [z] at e
      cases e), F.bindsN fun _ _ _ _ _ _ us hl => match us, hl with
      | [_, _], _ => rfl⟩⟩
  | 7, f, h => by
    have h : some f7 = some f := h
    cases h
    obtain ⟨fd, F⟩ := c.def_ 7 (d := dd "_law_product" 13) rfl
    exact ⟨"_law_product", _, fd, ["_law_dice_here", "_law_names_here", "_law_most"], N7, _, _, _, ⟨F, sc7, rfl, rfl, ck7, (fun _ => He.glo_ok X G (c.fact 7 (f := .glo "_law_product") rfl)), (fun c' m' e => by
      have z : spl f7.name = none := by kernel_rfl
      rw [z] at e
      cases e), F.bindsN fun _ _ _ _ _ _ us hl => match us, hl with
      | [_, _, _], _ => rfl⟩⟩
  | 8, f, h => by
    have h : some f8 = some f := h
    cases h
    obtain ⟨fd, F⟩ := c.def_ 8 (d := dd "_law_sum" 14) rfl
    exact ⟨"_law_sum", _, fd, ["_law_dice_here", "_law_names_here", "_law_terms", "_law_most", "_law_top"], N8, _, _, _, ⟨F, sc8, rfl, rfl, ck8, (fun _ => He.glo_ok X G (c.fact 8 (f := .glo "_law_sum") rfl)), (fun c' m' e => by
      have z : spl f8.name = none := by kernel_rfl
      rw [z] at e
      cases e), F.bindsN fun _ _ _ _ _ _ us hl => match us, hl with
      | [_, _, _, _, _], _ => rfl⟩⟩
  | 9, f, h => by
    have h : some f9 = some f := h
    cases h
    obtain ⟨fd, F⟩ := c.def_ 9 (d := dd "_law_is_integer" 15) rfl
    exact ⟨"_law_is_integer", _, fd, ["_law_thing"], N9, _, _, _, ⟨F, sc9, rfl, rfl, ck9, (fun _ => He.glo_ok X G (c.fact 9 (f := .glo "_law_is_integer") rfl)), (fun c' m' e => by
      have z : spl f9.name = none := by kernel_rfl
      rw [z] at e
      cases e), F.bindsN fun _ _ _ _ _ _ us hl => match us, hl with
      | [_], _ => rfl⟩⟩
  | 10, f, h => by
    have h : some f10 = some f := h
    cases h
    obtain ⟨fd, F⟩ := c.def_ 10 (d := dd "_law_worth" 16) rfl
    exact ⟨"_law_worth", _, fd, ["_law_product_here", "_law_numbers"], N10, _, _, _, ⟨F, sc10, rfl, rfl, ck10, (fun _ => He.glo_ok X G (c.fact 10 (f := .glo "_law_worth") rfl)), (fun c' m' e => by
      have z : spl f10.name = none := by kernel_rfl
      rw [z] at e
      cases e), F.bindsN fun _ _ _ _ _ _ us hl => match us, hl with
      | [_, _], _ => rfl⟩⟩
  | 11, f, h => by
    have h : some f11 = some f := h
    cases h
    obtain ⟨fd, F⟩ := c.def_ 11 (d := dd "_law_value" 17) rfl
    exact ⟨"_law_value", _, fd, ["_law_product_here", "_law_numbers"], N11, _, _, _, ⟨F, sc11, rfl, rfl, ck11, (fun _ => He.glo_ok X G (c.fact 11 (f := .glo "_law_value") rfl)), (fun c' m' e => by
      have z : spl f11.name = none := by kernel_rfl
      rw [z] at e
      cases e), F.bindsN fun _ _ _ _ _ _ us hl => match us, hl with
      | [_, _], _ => rfl⟩⟩
  | 12, f, h => by
    have h : some f12 = some f := h
    cases h
    obtain ⟨fd, F⟩ := c.def_ 12 (d := dd "_law_total" 18) rfl
    exact ⟨"_law_total", _, fd, ["_law_terms", "_law_numbers"], N12, _, _, _, ⟨F, sc12, rfl, rfl, ck12, (fun _ => He.glo_ok X G (c.fact 12 (f := .glo "_law_total") rfl)), (fun c' m' e => by
      have z : spl f12.name = none := by kernel_rfl
      rw [z] at e
      cases e), F.bindsN fun _ _ _ _ _ _ us hl => match us, hl with
      | [_, _], _ => rfl⟩⟩
  | 13, f, h => by
    have h : some f13 = some f := h
    cases h
    obtain ⟨fd, F⟩ := c.def_ 13 (d := dd "_law_number" 19) rfl
    exact ⟨"_law_number", _, fd, ["_law_dice_here"], N13, _, _, _, ⟨F, sc13, rfl, rfl, ck13, (fun _ => He.glo_ok X G (c.fact 13 (f := .glo "_law_number") rfl)), (fun c' m' e => by
      have z : spl f13.name = none := by kernel_rfl
      rw [z] at e
      cases e), F.bindsN fun _ _ _ _ _ _ us hl => match us, hl with
      | [_], _ => rfl⟩⟩
  | 14, f, h => by
    have h : some f14 = some f := h
    cases h
    obtain ⟨fd, F⟩ := c.def_ 14 (d := dd "law" 20) rfl
    exact ⟨"law", _, fd, ["_law_script"], N14, _, _, _, ⟨F, sc14, rfl, rfl, ck14, (fun _ => He.glo_ok X G (c.fact 14 (f := .glo "law") rfl)), (fun c' m' e => by
      have z : spl f14.name = none := by kernel_rfl
      rw [z] at e
      cases e), F.bindsN fun _ _ _ _ _ _ us hl => match us, hl with
      | [_], _ => rfl⟩⟩
  | n + 15, f, h => by cases h
theorem hcl {K : PySem.W.Frag} {h : Heap} {mg : Str → Option Value} (X : K.In h) (G : h.Ns mainGlobals mg) (c : He.SaysD fa fn K) : ∀ x ∈ cl, ∃ A, caOf K cl x = some A ∧ mg x = some (.ref A) := fun x hx => by
  refine ⟨_, cls_at hx, ?_⟩
  unfold cl at hx
  cases hx
theorem hfl {K : PySem.W.Frag} (c : He.SaysD fa fn K) : ∀ q ∈ fld, ∃ A, caOf K cl q.1 = some A ∧ NoAttr K A q.2 := fun q hq => by
  have hc : q.1 ∈ cl := (List.all_eq_true.mp (show fld.all (fun q => decide (q.1 ∈ cl)) = true by decide +kernel) q hq) |> of_decide_eq_true
  have m : He.Fa.noat q.1 q.2 ∈ fa := List.mem_append_left _ (List.mem_append_right _ (List.mem_map.mpr ⟨q, hq, rfl⟩))
  obtain ⟨i, hi⟩ := List.getElem?_of_mem m
  exact ⟨_, cls_at hc, He.noat_ok (c.fact i hi)⟩
theorem facts {w : World} {K : PySem.W.Frag} {h : Heap} {mg : Str → Option Value} {f : Addr} (X : K.In h) (G : h.Ns mainGlobals mg) (hfa : mg ("law" : Str) = some (.ref f)) (c : He.SaysD fa fn K) (cc : con.all (conG K) = true ∧ clsG K cl = true ∧ xcs.all (xcG K bl fil) = true) :
    ∃ fd : FuncData, (∀ (s : Shared) (v : Value), BindsTo s fd ⟨[v], []⟩ [("_law_script", v)]) ∧ ∀ base : Heap, K.In base → base.Ns mainGlobals mg → FnOk (PySem.Challenge.rw_howhigh_k03_values_of_products_and_sums).prog w K mg base CXn 40 f fd ["_law_script"] (fun vs H Q _ => spM ⟨(PySem.Challenge.rw_howhigh_k03_values_of_products_and_sums).prog, w, K, caOf K cl⟩ (evalFn fs 20 14) vs H Q fun _ _ _ => False) := by
  obtain ⟨fd, F⟩ := c.def_ 14 (d := dd "law" 20) rfl
  have e := hfa.symm.trans (He.glo_ok X G (c.fact 14 (f := .glo "law") rfl))
  cases e
  have b := FunD.bindsA (ps := ["_law_script"]) F fun _ _ _ _ _ _ us hl => match us, hl with | [_], _ => rfl
  refine ⟨fd, fun s v => b s [v] rfl, fun base _ _ => ?_⟩
  have bi : L2.Binds K fd ["_law_script"] [] := F.bindsN fun _ _ _ _ _ _ us hl => match us, hl with
    | [_], _ => rfl
  have fr := frees (gl := gl) X G c rfl
  have q := def_ok (P := (PySem.Challenge.rw_howhigh_k03_values_of_products_and_sums).prog) (w := w) (base := base) (cf := evalFn fs 19) (k := 2 * 19) (fn := f14) (ca := caOf K cl) (nm := "law") ⟨F, sc14, rfl, rfl, ck14, (fun _ => hfa), (fun c' m' e => by
    have z : spl f14.name = none := by kernel_rfl
    rw [z] at e
    cases e), bi⟩ fr (kf_of cc.2.1) (hcl X G c) (hfl c) (xc_ok X G fr topS cc.2.2) (con_ok X G cc.1) (tbl_ok (P := (PySem.Challenge.rw_howhigh_k03_values_of_products_and_sums).prog) (w := w) (base := base) rfl (defs X G c) fr (kf_of cc.2.1) (hcl X G c) (hfl c) (xc_ok X G fr topS cc.2.2) (con_ok X G cc.1) 19)
  refine noX (q.imp fun vs H Q E h => ?_)
  obtain ⟨g, st, ds, rs, wd, h⟩ := h
  exact ⟨g, st, ds, rs, wd, h⟩
theorem pwr (k : Nat) : PwrAt (evalFn fs (k + 1)) 0 := pwr_at (f := f0) ⟨rfl, rfl, rfl⟩ (fun _ _ => rfl)
theorem va (k : Nat) : VaxAt (evalFn fs (k + 2)) 1 := vax_at (p := 0) (f := f1) ⟨rfl, rfl, rfl⟩ (fun _ _ => rfl) (pwr k)
theorem to (k : Nat) : TotAt (evalFn fs (k + 3)) 2 := tot_at (v := 1) (f := f2) ⟨rfl, rfl, rfl⟩ (fun _ _ => rfl) (va k)
theorem di (k : Nat) : DiceAt (evalFn fs (k + 1)) 3 := dice_at (f := f3) ⟨rfl, rfl, rfl⟩ (fun _ _ => rfl)
theorem dr (k : Nat) : DrawAt (evalFn fs (k + 1)) 4 := draw_at (f := f4) ⟨rfl, rfl, rfl⟩ fun _ _ => rfl
theorem wd (k : Nat) : WordAt (evalFn fs (k + 2)) 5 := word_at (dr := 4) (f := f5) ⟨rfl, rfl, rfl⟩ (dr k) (fun _ _ => rfl)
theorem nm (k : Nat) : NmAt (evalFn fs (k + 3)) 6 := nm_at (d := 4) (w := 5) (f := f6) ⟨rfl, rfl, rfl⟩ (dr (k + 1)) (wd k) (fun _ _ => rfl)
theorem pw (k : Nat) : ProWAt (evalFn fs (k + 2)) 7 := proW_at (d := 4) (f := f7) ⟨rfl, rfl, rfl⟩ (dr k) (fun _ _ => rfl)
theorem sw (k : Nat) : SumWAt (evalFn fs (k + 3)) 8 := sumW_at (d := 4) (p := 7) (f := f8) ⟨rfl, rfl, rfl⟩ (dr (k + 1)) (pw k) (fun _ _ => rfl)
theorem li (k : Nat) : IntAt (evalFn fs (k + 1)) 9 := int_at (f := f9) ⟨rfl, rfl, rfl⟩ (fun _ _ => rfl)
theorem wo (k : Nat) : WorAt (evalFn fs (k + 1)) 10 := wor_at (f := f10) ⟨rfl, rfl, rfl⟩ (fun _ _ => rfl)
theorem lva (k : Nat) : LvaAt (evalFn fs (k + 3)) 11 := lva_at (v := 1) (f := f11) ⟨rfl, rfl, rfl⟩ (fun _ _ => rfl) (va k)
theorem lto (k : Nat) : LtoAt (evalFn fs (k + 4)) 12 := lto_at (v := 2) (f := f12) ⟨rfl, rfl, rfl⟩ (fun _ _ => rfl) (to k)
theorem lnu (k : Nat) : LnuAt (evalFn fs (k + 2)) 13 := lnu_at (dr := 4) (f := f13) ⟨rfl, rfl, rfl⟩ (fun _ _ => rfl) (dr k)
theorem math (ns : List Int) (hl : ns.length ≤ 63) : ∃ s, evalFn fs 20 14 [.p (.scr ns)] [] = .ok (.p (.bl true)) s := by
  obtain ⟨d, s, e, h⟩ := law03 (cf := evalFn fs 19) (f := f14) (di := 3) (nm := 6) (dr := 4) (su := 8) (nu := 13) (lv := 11) (lw := 10) (li := 9) (lt := 12) ⟨rfl, rfl, rfl⟩ (di 18) (nm 16) (dr 18) (sw 16) (lnu 17) (lva 16) (wo 18) (li 18) (lto 15) ns
  rw [h] at e
  exact ⟨s, e⟩

end LW
open PySem PySem.W PySem.Calls PyProof.Rows
theorem PySem.Challenge.cw_howhigh_k03_values_of_products_and_sums_holds : PySem.Challenge.rw_howhigh_k03_values_of_products_and_sums.Holds := by
  w_on; o_law
  refine HandSHeadRun.head_any (r := OpenLaw.row PySem.Challenge.rw_howhigh_k03_values_of_products_and_sums) (q := view (OpenLaw.row PySem.Challenge.rw_howhigh_k03_values_of_products_and_sums).prog [20]) (H := LW.hk) (ob := LW.ob) (M := 4000) (loose := LW.loose) (d := HandSHeadRun.topDef (OpenLaw.row PySem.Challenge.rw_howhigh_k03_values_of_products_and_sums).prog 20) (kwd := []) LW.ob_eq
    (by kernel_rfl) (fun s => by kernel_rfl) LW.run (by kernel_rfl) (by kernel_rfl) (by kernel_rfl) (by rfl) (by first | assumption | decide +kernel) (by decide +kernel) ⟨rfl, rfl, rfl, rfl, rfl, by decide +kernel⟩ ?hw ?hc
  case hw => w_witness2
  case hc =>
    refine L2.walk_ofE (l := PySem.Challenge.rw_howhigh_k03_values_of_products_and_sums) (n := 63) (k := 40) (x := "_law_script") (CX := PyM.CXn) rfl (by decide) (by kernel_rfl) ⟨rfl, by decide, by decide⟩ ?F (fun _ _ _ _ z => z)
    intro w mg fa h Y G hmg0
    obtain ⟨K, KX, c, cc⟩ := Y
    have hmg : mg ("law" : PySem.Str) = some (.ref fa) := by
      have e : (HandSHeadRun.topDef (OpenLaw.row PySem.Challenge.rw_howhigh_k03_values_of_products_and_sums).prog 20).name = ("law" : PySem.Str) := by kernel_rfl
      rw [← e]
      exact hmg0
    obtain ⟨fd, hb, hF⟩ := LW.facts (w := w) KX G hmg c cc
    exact ⟨K, fd, fun vs H Q _ => PyM.spM ⟨(PySem.Challenge.rw_howhigh_k03_values_of_products_and_sums).prog, w, K, PyM.caOf K LW.cl⟩ (PyM.evalFn LW.fs 20 14) vs H Q fun _ _ _ => False, KX, hb, fun H a ns hl _ hS => PyM.law_sp hl hS (LW.math ns hl), hF⟩
