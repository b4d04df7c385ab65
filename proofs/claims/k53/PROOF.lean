import PyProof.Rows.All
import Wide.All
import OpenK.AllK
import Wide.FinOn
import HandS.ForMost
import HandS.Exc
import HandS.ExcInit
import HandS.HeadHook1
import KE.KExcSuper
import HandS.ExcValue
import HandS.IsInst
import KE.KExcIs
import HandS.TupAny
import HandS.TupMul
import HandS.TryOnly
import HandS.Defaults
import KE.KDictKeyed
import HandS.ExcOwn
import HandS.Wide
import HandS.Text
import HandS.LawCells
import HandS.Deep
import KE.KTupSum
import KE.DataMinMax
import PyProof.ListStr
import KE.SortData
import KE.LtData
import HandS.Sort
import HandS.Style
import HandS.Zip
import HandS.Rev
import KE.KRevSl
import HandS.RevTup
import HandS.HeadHook3
import KE.KeyNested
import HandS.Dict
import HandS.DictComp
import HandS.Conv
import HandS.Iter
import HandS.Strs
import KE.DataFind
import KE.GoesEnum
import HandS.ExcCtx
import HandS.Head0
import HandS.Head1
import HandS.Head2
import HandS.HeadEnd
import HandS.HeadHook2
import PySem.Challenge.RW_wholeseeds_k53_triples_by_exchanges
section
set_option Elab.async false
set_option linter.all false
set_option maxRecDepth 100000
set_option maxHeartbeats 4000000
/-! Ex1: an own exception whose __init__ says super().__init__(value); self.value = value: made as a value. -/
namespace Ev
open PySem PySem.Spec PyProof.Rows L2 PySem.Calls
section
variable {prog : Program} {w : World} {M : Model} {A : Around} {E : Value → Shared → Prop} {R : Result → Shared → Prop} {hp : Heap} {gs : Array GenState} {dr : Drawn} {tk : Nat} {os : OsState}
variable {nm qn : Str} {C N : Addr} {bs bm bmB : List Value} {hdct : Bool} {sn : List Str} {sub : List Value} {ab : Bool} {col : Option Bool} {dd : Option Addr} {k0 k1 k2 k3 k5 : Option Value} {B nId iId : String} {us : List Value} {kw : List (Str × Value)}
/-- made with keywords: what is looked at first -/
theorem kw_check (F : ExcBaseFacts B nId iId bmB) (hT : ∀ Y : String, bm.contains (.type Y) = bmB.contains (.type Y)) {Q : Unit → Shared → Prop}
    (hC : hp.get? C = some (excClassObj nm qn C N bs bm hdct sn sub ab col dd k0 k1 k2 k3 k5 nId)) (hq : Q () ⟨hp, gs, dr, tk, os⟩) : wpAny M A (checkBuiltinCall nId ⟨.ref C :: us, kw⟩) Q E ⟨hp, gs, dr, tk, os⟩ := by
  have c1 : (Value.ref C :: bm).contains (.type B) = true := by rw [List.contains_cons, hT, F.hasB, Bool.or_true]
  have c2 := F.noStar
  simp only [checkBuiltinCall, F.newKind, F.newSplit, F.newRow]
  repeat (first | refine wpAny_loadPart_at hC ?_ | (refine wpAny_isSubtype_exc hC ?_; rw [c1]) | refine wpAny_staticBase_exc hC ?_ | refine wpAny_madeBy_exc hC ?_ | simp only [bne_self_eq_false, Bool.false_eq_true, if_false] | wp_step)
  exact hq
theorem kw_new (F : ExcBaseFacts B nId iId bmB) (hT : ∀ Y : String, bm.contains (.type Y) = bmB.contains (.type Y))
    (hC : hp.get? C = some (excClassObj nm qn C N bs bm hdct sn sub ab col dd k0 k1 k2 k3 k5 nId))
    (hq : R (.ok (.ret (.ref (hp.objs.size + 1)))) ⟨(hp.push (PySem.W.kdv_tup us)).push (PySem.HandSPX.excO C hp.objs.size), gs, dr, tk, os⟩) (hz : us.length ≤ sizeLine) :
    codeAny (model prog w) A (.builtin nId ⟨.ref C :: us, kw⟩) R ⟨hp, gs, dr, tk, os⟩ := by
  have c0 := F.ends
  have c1 : (Value.ref C :: bm).contains (.type B) = true := by rw [List.contains_cons, hT, F.hasB, Bool.or_true]
  have c2 : (Value.ref C :: bm).contains (.type "AttributeError") = false := by rw [List.contains_cons, hT, F.noAttr]; rfl
  have c3 : (Value.ref C :: bm).contains (.type "NameError") = false := by rw [List.contains_cons, hT, F.noName]; rfl
  refine codeAny_builtinAt F.entry ?_
  unfold Builtin.«BaseException.__new__»
  refine PySem.wpAt_bind ?_
  show PySem.wpAt _ _ _ (stack >>= _) _ _ _
  refine PySem.wpAt_bind (PySem.wpAt_stack fun p below => PySem.wpAt_of_wpAny ?_)
  wp_walk
  refine PySem.wpAt_of_wpAny ?_
  rw [F.owner]
  repeat (first | with_reducible refine wpAny_madeHere_exc F.canon hC ?_ | with_reducible refine wpAny_loadPart_at hC ?_ | (with_reducible refine wpAny_isSubtype_exc hC ?_; first | rw [c1] | rw [c2] | rw [c3]) | wp_step)
  show R _ _
  rw [Heap.size_push]
  exact hq
theorem kw_type (F : ExcBaseFacts B nId iId bmB) (hT : ∀ Y : String, bm.contains (.type Y) = bmB.contains (.type Y)) {fI : Addr} {Q : Fin → Shared → Prop}
    (hC : hp.get? C = some (excClassObj nm qn C N bs bm hdct sn sub ab col dd k0 k1 k2 k3 k5 nId))
    (hi : W.Looks (model prog w) hp (typeLookup (.ref C) "__init__") (some (.ref fI))) (hb : ∀ y, W.Looks (model prog w) hp (bindSpecial (.ref fI) y) (.ref fI, [y])) (hz : us.length ≤ sizeLine)
    (hq : codeAny (model prog w) A (.call (.ref fI) ⟨.ref (hp.objs.size + 1) :: us, kw⟩)
      (fun r s' => match r with | .ok (.ret v) => v = .none ∧ Q (.done (.ret (.ref (hp.objs.size + 1)))) s' | .ok _ => False | .error e => E e s')
      ⟨(hp.push (PySem.W.kdv_tup us)).push (PySem.HandSPX.excO C hp.objs.size), gs, dr, tk, os⟩) :
    wpAny (model prog w) A (Builtin.«type.__call__» ⟨.ref C :: us, kw⟩) Q E ⟨hp, gs, dr, tk, os⟩ := by
  repeat (first | with_reducible refine wpAny_loadPart_at hC ?_ | with_reducible refine wpAny_madeBy_exc hC ?_ | wp_step)
  refine codeAny_call_builtin_code (Code.quiet_builtin _ F.quiet) (kw_check F hT hC ?_)
  refine kw_new F hT hC ?_ hz
  show wpAny _ _ _ _ _ _
  have kp : ∀ b o, hp.get? b = some o → ((hp.push (W.kdv_tup us)).push (PySem.HandSPX.excO C hp.objs.size)).get? b = some o := fun b o e => Heap.get?_push_of_some _ (Heap.get?_push_of_some _ e)
  have hC1 := kp _ _ hC
  have hg : ((hp.push (W.kdv_tup us)).push (PySem.HandSPX.excO C hp.objs.size)).get? (hp.objs.size + 1) = some (PySem.HandSPX.excO C hp.objs.size) := by heap_get
  have cc : (Value.ref C :: bm).contains (.ref C) = true := by simp
  have i1 := hi.keeps kp
  have b1 := (hb (.ref (hp.objs.size + 1))).keeps kp
  unfold isInstance
  repeat (first | with_reducible refine wpAny_loadPart_at hg ?_ | (with_reducible refine wpAny_isSubtype_exc hC1 ?_; rw [cc]) | wp_step)
  show wpAny _ _ (typeLookup (.ref C) _) _ _ _
  refine i1.at ?_
  refine wpAny_holding (wpAny_bind (b1.at ?_))
  refine wpAny_bind (wpAny_call (codeAny_mono hq fun r s' z => ?_))
  rcases r with e | (v | _ | _ | _) <;> first | exact z | exact z.elim | skip
  obtain ⟨rfl, z⟩ := z
  first
    | exact wpAny_pure (wpAny_pure z)
    | (wp_walk; exact z)
/-- the class called -/
theorem kw_call (F : ExcBaseFacts B nId iId bmB) (hT : ∀ Y : String, bm.contains (.type Y) = bmB.contains (.type Y)) {fI : Addr}
    (hC : hp.get? C = some (excClassObj nm qn C N bs bm hdct sn sub ab col dd k0 k1 k2 k3 k5 nId))
    (hi : W.Looks (model prog w) hp (typeLookup (.ref C) "__init__") (some (.ref fI))) (hb : ∀ y, W.Looks (model prog w) hp (bindSpecial (.ref fI) y) (.ref fI, [y])) (hz : us.length ≤ sizeLine) (typ : W.Looks (model prog w) hp (isInstance (.ref C) (.type "type")) true)
    (hq : codeAny (model prog w) (A.under (.builtin "type.__call__" ⟨.ref C :: us, kw⟩)) (.call (.ref fI) ⟨.ref (hp.objs.size + 1) :: us, kw⟩) (W.InitBack (hp.objs.size + 1) R)
      ⟨(hp.push (W.kdv_tup us)).push (PySem.HandSPX.excO C hp.objs.size), gs, dr, tk, os⟩) :
    codeAny (model prog w) A (.call (.ref C) ⟨us, kw⟩) R ⟨hp, gs, dr, tk, os⟩ := by
  have f1 := tc_lookup
  have f2 := tc_bind (.ref C)
  have hTy : (⟨hp, gs, dr, tk, os⟩ : Shared).TypeIs (.ref C) "type" := ⟨_, hC, rfl⟩
  refine codeAny_of_tree ?_
  show wpAny _ _ (callAny (.ref C) _) _ _ _
  repeat (any_goals (first | assumption | with_reducible refine wpAny_loadPart_at hC ?_ | wp_step))
  refine ⟨rfl, ?_⟩
  refine codeAny_call_builtin_at (Code.quiet_builtin _ (by decide +kernel)) entry_typeCall (W.check_slot tc_kind tc_split typ (W.tc_args _ _ _) (kw_type F hT hC hi hb hz ?_))
  refine codeAny_mono hq fun r s' z => ?_
  rcases r with e | (v | _ | _ | _) <;> exact z
end
end Ev
end

section
set_option Elab.async false
set_option linter.all false
set_option maxRecDepth 100000
set_option maxHeartbeats 4000000
/-! Ex2: the __init__ itself: super().__init__(value); self.value = value. -/
namespace Ev
open PySem PySem.Spec PyProof.Rows L2 PySem.Calls
/-- the parameters, the scope, the body, of the __init__ -/
abbrev xPar (p1 p2 : Pos) : Arguments := { posonlyargs := [], args := [{ arg := "self", annotation := none, pos := p1 }, { arg := "value", annotation := none, pos := p2 }], vararg := none, kwonlyargs := [], kw_defaults := [], kwarg := none, defaults := [] }
abbrev xSco : Scope := { kind := .function, names := [("self", .local), ("value", .local), ("__class__", .free), ("super", .globalImplicit)], isGenerator := false, isCoroutine := false, more := [] }
abbrev xBod (q : Nat → Pos) : List Stmt := [.Expr (.Call (.Attribute (.Call (.Name "super" (q 0)) [] [] (q 1)) "__init__" (q 2)) [.Name "value" (q 3)] [] (q 4)) (q 5),
  .Assign [.Attribute (.Name "self" (q 6)) "value" (q 7)] (.Name "value" (q 8)) (q 9)]
abbrev xFun (nm qual : Str) (p1 p2 : Pos) (q : Nat → Pos) (kV doc pm : Value) (an : Option Addr) (cda : Addr) (ct : Value) (cc : Addr) : FuncData :=
  PySem.W.ksFn nm qual (xPar p1 p2) (xBod q) xSco .none kV doc pm an (.ref cda) ct cc
/-- the names bound -/
abbrev xBi (e : Addr) (v : Value) : List (Str × Value) := [("self", .ref e), ("value", v)]
section
variable {prog : Program} {w : World} {M : Model} {A : Around} {E : Value → Shared → Prop} {R : Result → Shared → Prop} {hp : Heap} {gs : Array GenState} {dr : Drawn} {tk : Nat} {os : OsState}
variable {nm qn : Str} {C N : Addr} {bs bm : List Value} {hdct : Bool} {sn : List Str} {sub : List Value} {ab : Bool} {col : Option Bool} {dd : Option Addr} {k0 k1 k2 k3 k5 : Option Value}
theorem ve_has (hT : PySem.HandSPX.refsVE bm = true) : ∀ Y : String, bm.contains (.type Y) = ([.type "ValueError", .type "Exception", .type "BaseException", .type "object"] : List Value).contains (.type Y) := fun Y => PySem.HandSPX.refsVE_contains Y bm hT
theorem sup_eval (q : Nat → Pos) (env : Env) (h24 : ((q 2).endLine == (q 4).line) = true) :
    eval (.Call (.Attribute (.Call (.Name "super" (q 0)) [] [] (q 1)) "__init__" (q 2)) [.Name "value" (q 3)] [] (q 4)) env = (do
      let ov ← attributeBase (.Call (.Name "super" (q 0)) [] [] (q 1)) "__init__" env (eval (.Call (.Name "super" (q 0)) [] [] (q 1)) env)
      standAt (q 2).atName
      let (f, first) ← holding [ov] (getMethod ov "__init__" (pure ((some false).getD true)))
      callWith (q 4) f first (backTo (q 4) (starEach [.Name "value" (q 3)] env)) []) := by
  have e1 : methodCallPos true (.Call (.Name "super" (q 0)) [] [] (q 1)) env (q 2) (q 4) = pure (q 4) := by
    unfold methodCallPos
    rw [h24]
    rfl
  have e2 : ∀ ov, methodCall (.Call (.Name "super" (q 0)) [] [] (q 1)) "__init__" (q 2) (q 4) env ov 1 (backTo (q 4) (starEach [.Name "value" (q 3)] env)) [] = (do
      let (f, first) ← holding [ov] (getMethod ov "__init__" (pure ((some false).getD true)))
      callWith (q 4) f first (backTo (q 4) (starEach [.Name "value" (q 3)] env)) []) := fun ov => by
    show (holding [ov] (calleeOf true _ env ov "__init__") >>= fun x => methodCallPos true (.Call (.Name "super" (q 0)) [] [] (q 1)) env (q 2) (q 4) >>= fun cp => callWith cp x.1 x.2 _ _) = _
    rw [e1]
    rfl
  show (attributeBase (.Call (.Name "super" (q 0)) [] [] (q 1)) "__init__" env (eval (.Call (.Name "super" (q 0)) [] [] (q 1)) env) >>= fun ov => standAt (q 2).atName >>= fun _ => methodCall _ "__init__" (q 2) (q 4) env ov 1 (backTo (q 4) (starEach [.Name "value" (q 3)] env)) []) = _
  simp only [e2]
theorem raw_bound {u e t0 : Addr} {us : List Value} {Q : Value → Shared → Prop} (hT : PySem.HandSPX.refsVE bm = true)
    (hC : hp.get? C = some (excClassObj nm qn C N bs bm hdct sn sub ab col dd k0 k1 k2 k3 k5 "ValueError.__new__")) (he : hp.get? e = some (PySem.HandSPX.excO C t0)) (hu : hp.get? u = some (W.kxs_mw "ValueError.__init__" e)) (hz : us.length ≤ sizeLine)
    (hq : ∀ h' t1, (∀ b o, b ≠ e → hp.get? b = some o → h'.get? b = some o) → h'.get? e = some (PySem.HandSPX.excO C t1) → Q .none ⟨h', gs, dr, tk, os⟩) :
    wpAny (model prog w) A (call (.ref u) us) Q E ⟨hp, gs, dr, tk, os⟩ := by
  have FB := F.excBase_ValueError
  refine wpAny_call (codeAny_of_tree ?_)
  show wpAny _ A.in1 (callAny (.ref u) ⟨us, []⟩) _ _ _
  simp only [callAny]
  refine wpAny_bind (wpAny_load hu ?_)
  simp only [W.kxs_mw, show (Value.type "method-wrapper" == Value.type "method" || Value.type "method-wrapper" == Value.type "builtin_function_or_method" || Value.type "method-wrapper" == Value.type "method-wrapper") = true by decide, if_true]
  refine W.KFB.if_so (by decide) ?_
  refine wpAny_bind (W.check_bound_init FB.toExcCallFacts hC he rfl ?_)
  refine wpAny_bind (wpAny_pure (wpAny_pure ?_))
  refine ⟨plainId_quiet FB.init.plain _, codeAny_builtin FB.initEntry ?_⟩
  exact W.exc_init_tree (cls := .ref C) (t0 := t0) (dv := none) (c2 := .none) (c3 := .none) (b4 := .bool false) he hz fun h' k e' t' => hq h' _ k e'
/-- the __init__ called -/
theorem raw_init {K : W.Frag} {fI e t0 D cc cda : Addr} {v : Value} {args : Args} {oc ccl cl : Value} {od cdd cld : Option Addr} {osl ccs csl : Array (Option Value)} {fnm qual : Str} {p1 p2 : Pos} {q : Nat → Pos} {kV doc pm ct : Value} {an : Option Addr} {vs : Array Value} {file : Str} {tf : Tok} {cdD : ClassData} {mg mb : Str → Option Value}
    (h24 : ((q 2).endLine == (q 4).line) = true) (room : A.depth < recursionLimit) (X : K.In hp) (lim : hp.NoLimit) (G : hp.Ns mainGlobals mg) (hmg : mg "super" = none) (G2 : hp.Ns builtinsNs mb) (hmb : mb "super" = some (.type "super"))
    (lk : K.lookup fI = some ⟨oc, od, .func (xFun fnm qual p1 p2 q kV doc pm an cda ct cc), osl⟩) (hcd : W.codeIn K (.ref cda) qual = true)
    (hcode : K.lookup cda = some ⟨ccl, cdd, .fields vs, ccs⟩) (hvs : vs[2]? = some (.str file tf)) (hfile : ((prog.main.file : Str) == file) = true)
    (hcell : K.lookup cc = some ⟨cl, cld, .cell (some (.ref D)), csl⟩) (hD : W.clsIn K D = some cdD) (hsub : W.mroIn K C (.ref D) = some true) (htop : (prog.main.scope.names.lookup ("super" : Str)).isSome = false)
    (hop : W.nsIn K cStatics "thirdparty.any" = some none) (hsup : W.ks_superIn K C D "__init__" = some (some (.builtin "ValueError.__init__"))) (hB : W.subIn K (.ref C) (.type "ValueError") = some true)
    (hT : PySem.HandSPX.refsVE bm = true) (hK : K.lookup C = some (excClassObj nm qn C N bs bm true sn sub ab col dd k0 k1 k2 k3 k5 "ValueError.__new__"))
    (hsa : W.findIn K (.ref C) "__setattr__" = some (some (.builtin "object.__setattr__"))) (hno : W.findIn K (.ref C) "value" = some none)
    (hKe : K.lookup e = none) (he : hp.get? e = some (PySem.HandSPX.excO C t0)) (hbind : ∀ s, BindsTo s (xFun fnm qual p1 p2 q kV doc pm an cda ct cc) args (xBi e v))
    (hq : ∀ h' t' dx t1, (∀ b o, b ≠ e → hp.get? b = some o → h'.get? b = some o) → hp.objs.size ≤ dx → dx ≠ e →
      h'.get? e = some { cls := .ref C, dict := some dx, data := .fields #[.ref t1, .none, .none, .none, .bool false, .none] } → h'.Ns1 dx (fun y => if y = "value" then some v else none) → R (.ok (.ret .none)) ⟨h', gs, dr, t', os⟩) :
    codeAny (model prog w) A (.call (.ref fI) args) R ⟨hp, gs, dr, tk, os⟩ := by
  refine ks_codeAny_call_defAt (fd := xFun fnm qual p1 p2 q kV doc pm an cda ct cc) (body := xBod q) (binds := xBi e v) room (X _ _ lk) rfl lim (W.codeRec_of X hcd) rfl (hbind _) (show ∀ x ∈ xSco.names, x.2 ≠ NameKind.cell by decide) (locs rfl) (fun h1 hns1 kp1 => ?_)
  have X1 : K.In h1 := X.keeps kp1
  have cl0 : W.clsIn K C = some { name := nm, bases := bs, mro := .ref C :: bm, ns := N, qualname := qn, hasDict := true, slotNames := sn, subclasses := sub, abstract := ab, collection := col, hasDel := false } := by unfold W.clsIn; rw [hK] <;> rfl
  have isS : (xBi e v).reverse.lookup ("self" : Str) = some (.ref e) := rfl
  have isV : (xBi e v).reverse.lookup ("value" : Str) = some v := rfl
  obtain ⟨oD, hD1, hD2⟩ : ∃ oD, h1.get? D = some oD ∧ oD.data = .cls cdD := by
    unfold W.clsIn at hD
    split at hD
    · rename_i c d cd' sl ho
      cases hD
      exact ⟨_, X1 _ _ ho, rfl⟩
    · cases hD
  have he1 : h1.get? e = some (PySem.HandSPX.excO C t0) := kp1 _ _ he
  have I1 : W.InstAt h1 e (PySem.HandSPX.excO C t0) C none := ⟨he1, rfl, rfl, trivial⟩
  refine ks_wpAt_execs_cons ?_
  refine ks_wpAt_Expr_any ?_
  refine ks_wpAt_MethodCall (he := sup_eval q _ h24) ?_
  refine ks_wpAt_super_base (ar := { arg := "self", annotation := none, pos := p1 }) rfl rfl (by decide) rfl (X1 _ _ lk) rfl rfl rfl (X1 _ _ hcode) rfl hvs hfile htop ?_
  refine W.ks_loadName_global rfl rfl (loadGlobal_builtin (mg := mg) (mb := mb) (G.keeps kp1) hmg (G2.keeps kp1) hmb ⟨rfl, ?_⟩)
  refine wpAny_loadName_free rfl rfl rfl ⟨_, X1 _ _ hcell, rfl⟩ ?_
  refine wpAny_loadName_local rfl rfl hns1 isS ?_
  refine ks_wpAny_isType_cls hD1 hD2 ⟨rfl, ?_⟩
  refine ks_wpAny_call_super hD1 hD2 he1 rfl (fun c z => by cases z) (W.looks_mroIn X1 hsub) (fun h2 e2 kp2 => ?_)
  have X2 : K.In h2 := X1.keeps kp2
  have he2 := kp2 _ _ he1
  have I2 : W.InstAt h2 e (PySem.HandSPX.excO C t0) C none := ⟨he2, rfl, rfl, trivial⟩
  have hs2 : W.alongIn K "__init__" ((({ name := nm, bases := bs, mro := .ref C :: bm, ns := N, qualname := qn, hasDict := true, slotNames := sn, subclasses := sub, abstract := ab, collection := col, hasDel := false } : ClassData).mro.dropWhile (· != .ref D)).drop 1) = some (some (.builtin "ValueError.__init__")) := by
    unfold W.ks_superIn at hsup
    rw [cl0] at hsup
    exact hsup
  refine W.kxs_getMethod W.kxs_ValueError e2 (W.looks_opaque X2 hop) (l₀ := .ref C :: bm) ?_ rfl X2 hs2 (I2.type.andThen (W.looks_subIn X2 hB)) (W.ks_ne X2 I2 cl0) (by decide) ?_
  · exact fun A Q E s k q => wpAny_bind ((W.looks_clsIn X2 cl0) A _ E s k (wpAny_pure q))
  have kp3 : ∀ b o, h2.get? b = some o → (h2.push (W.kxs_mw "ValueError.__init__" e)).get? b = some o := fun b o z => Heap.get?_push_of_some _ z
  have hu3 : (h2.push (W.kxs_mw "ValueError.__init__" e)).get? h2.objs.size = some (W.kxs_mw "ValueError.__init__" e) := Heap.get?_push_at rfl rfl
  have hns3 : (h2.push (W.kxs_mw "ValueError.__init__" e)).Ns hp.objs.size (fun x => (xBi e v).reverse.lookup x) := (hns1.keeps kp2).keeps kp3
  refine W.kxs_callWith (i := "ValueError.__init__") (x := e) rfl ?_
  refine evalArgs_plain ?_
  refine spliced_cons (wpAny_Name (wpAny_loadName_local rfl rfl hns3 isV ?_))
  refine spliced_nil ⟨hu3, ?_⟩
  refine raw_bound hT (X2.keeps kp3 _ _ hK) (kp3 _ _ he2) hu3 (by rw [sizeLine_eq]; simp) (fun h4 t1 kp4 he4 => ?_)
  have neL : hp.objs.size ≠ e := Nat.ne_of_gt (Heap.lt_size he)
  have up4 : ∀ b o, b ≠ e → hp.get? b = some o → h4.get? b = some o := fun b o ne z => kp4 b o ne (kp3 _ _ (kp2 _ _ (kp1 _ _ z)))
  have X4 : K.In h4 := fun b o z => kp4 b o (fun y => by rw [y, hKe] at z; cases z) (kp3 _ _ (X2 _ _ z))
  have hns4 : h4.Ns hp.objs.size (fun x => (xBi e v).reverse.lookup x) := hns3.at fun o z => kp4 _ _ neL z
  refine ks_wpAt_execs_cons ?_
  refine PySem.wpAt_of_wpAny ?_
  refine plainObj_wpAny_Assign_Attribute (hs := by rfl) ?_
  refine wpAny_Name (x := "value") (wpAny_loadName_local rfl rfl hns4 isV ?_) (by decide)
  refine wpAny_Name (x := "self") (wpAny_loadName_local rfl rfl hns4 isS ?_) (by decide)
  refine W.set_plain X4 (ox := PySem.HandSPX.excO C t1) (od := none) ⟨he4, rfl, rfl, trivial⟩ hsa ?_
  refine PySem.HandSPX.exc_osa X4 he4 cl0 (show PySem.HandSPX.refsVE (.ref C :: bm) = true from hT) rfl hno (fun h5 t5 dx kp5 le5 ne5 hx5 hn5 => ?_)
  refine PySem.wpAt_of_wpAny ?_
  show wpAny _ _ (execs [] _) _ _ _
  rw [show ∀ env, execs [] env = pure .next from fun _ => rfl]
  refine wpAny_pure ?_
  refine hq h5 t5 dx t1 (fun b o ne z => kp5 b o ne (up4 b o ne z)) ?_ ne5 hx5 hn5
  obtain ⟨oL, es, ep, hoL, _⟩ := hns4
  exact Nat.le_trans (Nat.le_of_lt (Heap.lt_size hoL)) le5
end
end Ev
end

section
set_option Elab.async false
set_option linter.all false
set_option maxRecDepth 100000
set_option maxHeartbeats 4000000
/-! Ex3: such an exception made, read, asked, over the abstract heap. -/
namespace Ev
open PySem PySem.Spec PyProof.Rows L2 PySem.Calls
/-- what is asked of the class at C -/
structure XCls (P : Program) (K : W.Frag) (C : Addr) : Prop where
  cls : ∃ nm qn N bs bm sn sub ab col dd k0 k1 k2 k3 k5, K.lookup C = some (excClassObj nm qn C N bs bm true sn sub ab col dd k0 k1 k2 k3 k5 "ValueError.__new__") ∧ PySem.HandSPX.refsVE bm = true
  ini : ∃ (fI : Addr) (oc : Value) (od : Option Addr) (osl : Array (Option Value)) (fnm qual : Str) (p1 p2 : Pos) (q : Nat → Pos) (kV doc pm : Value) (an : Option Addr) (cda : Addr) (ct : Value) (cc : Addr) (ccl : Value) (cdd : Option Addr) (vs : Array Value) (ccs : Array (Option Value)) (cl : Value) (cld : Option Addr) (D : Addr) (csl : Array (Option Value)) (file : Str) (tf : Tok) (cdD : ClassData),
    W.findIn K (.ref C) "__init__" = some (some (.ref fI)) ∧ W.typeIn K (.ref fI) = some (.type "function") ∧ ((q 2).endLine == (q 4).line) = true ∧
    K.lookup fI = some ⟨oc, od, .func (xFun fnm qual p1 p2 q kV doc pm an cda ct cc), osl⟩ ∧ W.codeIn K (.ref cda) qual = true ∧ K.lookup cda = some ⟨ccl, cdd, .fields vs, ccs⟩ ∧ vs[2]? = some (.str file tf) ∧ ((P.main.file : Str) == file) = true ∧
    K.lookup cc = some ⟨cl, cld, .cell (some (.ref D)), csl⟩ ∧ W.clsIn K D = some cdD ∧ W.mroIn K C (.ref D) = some true ∧ W.ks_superIn K C D "__init__" = some (some (.builtin "ValueError.__init__"))
  top : (P.main.scope.names.lookup ("super" : Str)).isSome = false
  hop : W.nsIn K cStatics "thirdparty.any" = some none
  hB : W.subIn K (.ref C) (.type "ValueError") = some true
  sa : W.findIn K (.ref C) "__setattr__" = some (some (.builtin "object.__setattr__"))
  no : W.findIn K (.ref C) "value" = some none
  inst : W.instIn K (.ref C) (.type "type") = some true
  kC : W.keepIn K (.ref C) = true
  ga : W.findIn K (.ref C) "__getattribute__" = some (some (.builtin "BaseException.__getattribute__"))
  gt : W.findIn K (.ref C) "__getattr__" = some none
  exC : W.subIn K (.ref C) (.type "BaseException") = some true
  hdC : W.hasDictIn K C = true
  ha : W.findIn K (.ref C) "__class__" = some (some (.builtin "object.__class__"))
  hn : W.specialIn K (.builtin "object.__class__") "__get__" = some (some (.builtin "getset_descriptor.__get__"))
  ht : W.takesIn K (.builtin "object.__class__") = some true
  hm : W.mroIn K C (.type "object") = some true
/-- an exception of the class at C, its dict at dx -/
def exq (a C dx : Addr) : HO := .ext fun h => ∃ (oe : Obj) (vs : Array Value), h.get? a = some oe ∧ oe.cls = .ref C ∧ oe.dict = some dx ∧ oe.data = .fields vs
theorem exq_ok {P : Program} {w : World} {H : Hp} {h : Heap} {a C dx : Addr} {oe : Obj} {vs : Array Value} (e : h.get? a = some oe) (hc : oe.cls = .ref C) (hd : oe.dict = some dx) (hf : oe.data = .fields vs) : ObjOk P w H h a (exq a C dx) :=
  ⟨⟨oe, vs, e, hc, hd, hf⟩, ⟨oe, e⟩, fun _ _ ⟨o, v, z, r⟩ k => ⟨o, v, k o z, r⟩⟩
theorem exq_at {P : Program} {w : World} {H : Hp} {h : Heap} {a C dx : Addr} (hok : HOk P w H h) (e : H a = some (exq a C dx)) : ∃ (oe : Obj) (vs : Array Value), h.get? a = some oe ∧ oe.cls = .ref C ∧ oe.dict = some dx ∧ oe.data = .fields vs := by
  have x : ObjOk P w H h a (.ext fun h => ∃ (oe : Obj) (vs : Array Value), h.get? a = some oe ∧ oe.cls = .ref C ∧ oe.dict = some dx ∧ oe.data = .fields vs) := hok a _ e
  exact x.1
theorem xd_at {P : Program} {w : World} {H : Hp} {h : Heap} {dx : Addr} {fs : List (Str × V)} (hok : HOk P w H h) (e : H dx = some (.xd fs)) : ∃ mA, h.Ns1 dx mA ∧ ∀ f, RelO (fs.lookup f) (mA f) := hok dx _ e
/-- the exception at a, its value y -/
def XAt (H : Hp) (a C : Addr) (y : V) : Prop := ∃ dx, H a = some (exq a C dx) ∧ H dx = some (.xd [("value", y)])
def xput (H : Hp) (a C dx : Addr) (y : V) : Hp := upd (upd H dx (.xd [("value", y)])) a (exq a C dx)
theorem xput_at {H : Hp} {a C dx : Addr} {y : V} (ne : a ≠ dx) : XAt (xput H a C dx y) a C y := ⟨dx, upd_same, by unfold xput; rw [upd_ne (Ne.symm ne), upd_same]⟩
theorem XAt.inst {P : Program} {w : World} {H : Hp} {h : Heap} {a C : Addr} {y : V} (hok : HOk P w H h) (x : XAt H a C y) : ∃ oe od, PySem.W.InstAt h a oe C (some od) ∧ ∃ mA : Str → Option Value, (∀ f, RelO (([("value", y)] : List (Str × V)).lookup f) (mA f)) ∧ ∀ n, PySem.W.lookIn n od = some (mA n) := by
  obtain ⟨dx, e1, e2⟩ := x
  obtain ⟨oe, vs, ho, hc, hd, hf⟩ := exq_at hok e1
  obtain ⟨mA, hns, rel⟩ := xd_at hok e2
  obtain ⟨od, ho2, hl⟩ := lookIn_ns hns
  exact ⟨oe, od, ⟨ho, hc, by unfold PySem.W.notCls; rw [hf] <;> rfl, by rw [hd]; exact ho2⟩, mA, rel, hl⟩
section
variable {X : Cx} {pins : List (Addr × Obj)} {σ : L2.St} {H : Hp} {s : Shared}
theorem xraw {C : Addr} (T : XCls X.prog X.K C) (I : Inv X pins σ H s) (hr : Room 1 X.A) (hmg : X.mg "super" = none) {us : List Value} {kw : List (Str × Value)} {v : Value} {y : V} (r : RelV y v)
    (hb : ∀ (fnm qual : Str) (p1 p2 : Pos) (q : Nat → Pos) (kV doc pm : Value) (an : Option Addr) (cda : Addr) (ct : Value) (cc e : Addr) (s : Shared), BindsTo s (xFun fnm qual p1 p2 q kV doc pm an cda ct cc) ⟨.ref e :: us, kw⟩ (xBi e v)) (hz : us.length ≤ sizeLine) {R : Result → Shared → Prop}
    (h : ∀ (a dx t1 : Addr) (t' : Nat) (h' G : Heap), H a = none → H dx = none → a ≠ dx → Inv X pins σ (upd H dx (.xd [("value", y)])) { s with heap := G, toks := t' } → (∀ b o, G.get? b = some o → h'.get? b = some o) → G.get? a = none →
      h'.get? a = some ({ cls := .ref C, dict := some dx, data := .fields #[.ref t1, .none, .none, .none, .bool false, .none] } : Obj) → R (.ok (.ret (.ref a))) { s with heap := h', toks := t' }) : codeAny (model X.prog X.w) X.A (.call (.ref C) ⟨us, kw⟩) R s := by
  obtain ⟨nm, qn, N, bs, bm, sn, sub, ab, col, dd, k0, k1, k2, k3, k5, hC, hbm⟩ := T.cls
  obtain ⟨fI, oc, od, osl, fnm, qual, p1, p2, q, kV, doc, pm, an, cda, ct, cc, ccl, cdd, vs, ccs, cl, cld, D, csl, file, tf, cdD, iC, tI, h24, lk, hcd, hcode, hvs, hfile, hcell, hD, hsub, hsup⟩ := T.ini
  obtain ⟨mb, b1, b2⟩ := I.mod.blt
  obtain ⟨hp, gs, dr, tk, os⟩ := s
  have kk : ∀ b o, hp.get? b = some o → ((hp.push (W.kdv_tup us)).push (PySem.HandSPX.excO C hp.objs.size)).get? b = some o := fun b o e => Heap.get?_push_of_some _ (Heap.get?_push_of_some _ e)
  have hg : ((hp.push (W.kdv_tup us)).push (PySem.HandSPX.excO C hp.objs.size)).get? (hp.objs.size + 1) = some (PySem.HandSPX.excO C hp.objs.size) := by heap_get
  have bk := I.bk
  have hnew : ∀ n o, hp.get? (hp.objs.size + n) ≠ some o := fun n o z => absurd (Heap.lt_size z) (Nat.not_lt.mpr (Nat.le_add_right _ _))
  refine kw_call PySem.F.excBase_ValueError (ve_has hbm) (I.kIn _ _ hC) (W.looks_findIn I.kIn iC) (fun y => W.bind_fn I.kIn y tI) hz (W.looks_instIn I.kIn T.inst) ?_
  refine raw_init (e := hp.objs.size + 1) (t0 := hp.objs.size) (mg := X.mg) (mb := mb) h24 (hr.make C us kw).depth (I.kIn.keeps kk) (I.nolimit.keeps kk) ((I.mod.glob.keeps bk).keeps kk) hmg ((b1.keeps bk).keeps kk) ((b2 _ (by decide)).trans (by kernel_rfl)) lk hcd hcode hvs hfile hcell hD hsub T.top T.hop hsup T.hB hbm hC T.sa T.no ?_ hg (hb _ _ _ _ _ _ _ _ _ _ _ _ _) (fun h' t' dx t1 kp le ne hx hn => ?_)
  · cases z : X.K.lookup (hp.objs.size + 1) with
    | none => rfl
    | some o => exact absurd (I.kIn _ _ z) (hnew 1 o)
  · have n1 : H (hp.objs.size + 1) = none := I.hok.fresh (Nat.le_succ _)
    have le2 : hp.objs.size + 2 ≤ dx := by
      rw [Heap.size_push, Heap.size_push] at le
      exact le
    have n2 : H dx = none := I.hok.fresh (Nat.le_trans (Nat.le_add_right _ 2) le2)
    have up : ∀ b o, hp.get? b = some o → h'.get? b = some o := fun b o z => kp b o (fun y => by rw [y] at z; exact hnew 1 o z) (kk b o z)
    obtain ⟨G, g1, g2⟩ := restrict h' fun b => decide (b ≠ hp.objs.size + 1)
    have ga : G.get? (hp.objs.size + 1) = none := g2 _ (by simp)
    have gk : ∀ b, b ≠ hp.objs.size + 1 → G.get? b = h'.get? b := fun b hb => g1 b (decide_eq_true hb)
    have I1 : Inv X pins σ (upd H dx (.xd [("value", y)])) ⟨G, gs, dr, t', os⟩ := I.laidN (h' := G) (t' := t') (fun b o z => by
        rw [gk b (fun y => by rw [y] at z; exact hnew 1 o z)]
        exact up b o z) (by
        cases z : hp.get? dx with
        | none => rfl
        | some o => exact absurd (Heap.lt_size z) (Nat.not_lt.mpr (Nat.le_trans (Nat.le_add_right _ 2) le2))) n2 ⟨_, hn.at fun o z => (gk dx ne).trans z, relO_put (fs := []) r fun g => True.intro⟩
    exact ⟨rfl, h (hp.objs.size + 1) dx t1 t' h' G n1 n2 (Ne.symm ne) I1 (fun b o z => by
        by_cases e : b = hp.objs.size + 1
        · rw [e, ga] at z; cases z
        · rw [← gk b e]; exact z) ga hx⟩
theorem xmade {C : Addr} (T : XCls X.prog X.K C) (I : Inv X pins σ H s) (hr : Room 1 X.A) (hmg : X.mg "super" = none) {us : List Value} {kw : List (Str × Value)} {v : Value} {y : V} (r : RelV y v)
    (hb : ∀ (fnm qual : Str) (p1 p2 : Pos) (q : Nat → Pos) (kV doc pm : Value) (an : Option Addr) (cda : Addr) (ct : Value) (cc e : Addr) (s : Shared), BindsTo s (xFun fnm qual p1 p2 q kV doc pm an cda ct cc) ⟨.ref e :: us, kw⟩ (xBi e v)) (hz : us.length ≤ sizeLine) {R : Result → Shared → Prop}
    (h : ∀ a dx s', H a = none → H dx = none → a ≠ dx → Inv X pins σ (xput H a C dx y) s' → R (.ok (.ret (.ref a))) s') : codeAny (model X.prog X.w) X.A (.call (.ref C) ⟨us, kw⟩) R s :=
  xraw T I hr hmg r hb hz fun a dx t1 t' h' G n1 n2 ne I1 kG ga hx => h a dx _ n1 n2 ne (I1.laidN (h' := h') (t' := t') kG ga (by rw [upd_ne ne]; exact n1) (exq_ok hx rfl rfl rfl))
/-- X(e) -/
theorem pe_xmk1 {C : Addr} {x : Str} {e : Expr} {te : TE} {p pos : Pos} (T : XCls X.prog X.K C) (hr : Room 1 X.A) (hmg : X.mg "super" = none) (hg : Gl X x) (hm : X.mg x = some (.ref C)) (he : PE X e te) (hdb : (x == ("__debug__" : Str)) = false)
    (hs : starEach [e] X.env = (false, eval e X.env) :: starEach [] X.env) :
    PE X (.Call (.Name x p) [e] [] pos) (fun σ H Q => te σ H fun y H1 => ∀ a dx, H1 a = none → H1 dx = none → a ≠ dx → Q (.ref a) (xput H1 a C dx y)) := by
  refine ⟨fun pins s σ H Q I h => ?_⟩
  refine wpAny_Call_Name_kw (ld_glob I hg hm ?_ hdb)
  refine PySem.W.callWith_K (h₀ := X.base) I.ok.mod.kin T.kC ?_ hs (by rfl)
  rw [hs]
  show wpAny _ _ (spliced ((false, eval e X.env) :: backTo pos (starEach [] X.env))) _ _ s
  refine Calls.spliced_cons (thn (he.run pins s σ H _ I h) fun u s1 ⟨y, H1, I1, r1, q1⟩ => ?_)
  refine Calls.spliced_nil ⟨I1.kIn, ?_⟩
  show wpAny _ _ (call (.ref C) [u]) _ _ _
  refine wpAny_call (xmade T I1 hr hmg r1 (fun fnm qual p1 p2 q kV doc pm an cda ct cc e s => BindsTo.of_eq rfl) (by rw [sizeLine_eq]; simp) fun a dx s' n1 n2 ne J => ?_)
  exact ⟨.ref a, _, J, rfl, q1 a dx n1 n2 ne⟩
/-- X(value = e) -/
theorem pe_xmkK {C : Addr} {x : Str} {e : Expr} {te : TE} {p kpos pos : Pos} (T : XCls X.prog X.K C) (hr : Room 1 X.A) (hmg : X.mg "super" = none) (hg : Gl X x) (hm : X.mg x = some (.ref C)) (he : PE X e te) (hdb : (x == ("__debug__" : Str)) = false) :
    PE X (.Call (.Name x p) [] [⟨some "value", e, kpos⟩] pos) (fun σ H Q => te σ H fun y H1 => ∀ a dx, H1 a = none → H1 dx = none → a ≠ dx → Q (.ref a) (xput H1 a C dx y)) := by
  refine ⟨fun pins s σ H Q I h => ?_⟩
  refine wpAny_Call_Name_kw (ld_glob I hg hm ?_ hdb)
  refine PySem.W.callWith_KW0 (h₀ := X.base) I.ok.mod.kin T.kC rfl ?_ rfl
  have hk : PK X [⟨some "value", e, kpos⟩] (tCons te tNil) := pk_cons he pk_nil
  refine thn (hk.run pos pins s σ H (fun zs H1 => match zs with
    | [y] => ∀ a dx, H1 a = none → H1 dx = none → a ≠ dx → Q (.ref a) (xput H1 a C dx y)
    | _ => False) I h) fun ws s2 ⟨zs, H2, I2, rz, q2⟩ => ⟨I2.kIn, ?_⟩
  cases rz with
  | nil => exact q2.elim
  | @cons y _ _ _ r1 rr =>
    cases rr with
    | cons _ _ => exact q2.elim
    | nil =>
    have q2 : ∀ a dx, H2 a = none → H2 dx = none → a ≠ dx → Q (.ref a) (xput H2 a C dx y) := q2
    refine wpAny_call (xmade T I2 hr hmg r1 (fun fnm qual p1 p2 q kV doc pm an cda ct cc e s => BindsTo.of_eq rfl) (by rw [sizeLine_eq]; simp) fun a dx s' n1 n2 ne J => ?_)
    exact ⟨.ref a, _, J, rfl, q2 a dx n1 n2 ne⟩
/-- e.value -/
theorem pe_xval {e : Expr} {te : TE} {pos : Pos} (he : PE X e te) (hb : attributeBase e "value" X.env (eval e X.env) = eval e X.env) :
    PE X (.Attribute e "value" pos) (fun σ H Q => te σ H fun x H1 => ∃ a C y, x = .ref a ∧ XCls X.prog X.K C ∧ XAt H1 a C y ∧ Q y H1) := by
  refine ⟨fun pins s σ H Q I h => ?_⟩
  refine attr_of hb (thn (he.run pins s σ H _ I h) fun u s1 ⟨x, H1, I1, rx, a, C, y, ex, T, hx, q⟩ => ?_)
  subst ex
  obtain rfl : u = Value.ref a := rx
  obtain ⟨oe, od, J, mA, rel, hl⟩ := XAt.inst I1.hok hx
  obtain ⟨w, hw, rw'⟩ := RelO.some_of (v := y) (o := mA "value") (rel "value")
  exact PySem.HandSPX.exc_get I1.kIn J T.ga T.gt T.exC (PySem.W.findObj_own T.hdC T.no rfl (by rw [hl, hw])) (handed_of rw') ⟨y, H1, I1.tok _, rw', q⟩
/-- isinstance(e, c), e such an exception -/
def rIsX (P : Program) (K : W.Frag) : List V → Hp → VK → Prop := fun xs H Q => ∃ (a C : Addr) (y c : V) (cv : Value) (b : Bool), xs = [.ref a, c] ∧ XCls P K C ∧ XAt H a C y ∧ (∀ u, RelV c u → u = cv) ∧ W.kitOne K (.ref C) cv = some b ∧ Q (.bl b) H
theorem call_isX : CallR X (.builtin "isinstance") (rIsX X.prog X.K) := by
  intro pins s σ H xs us Q I r h
  obtain ⟨a, C, y, c, cv, b, rfl, T, hx, hcv, e, q⟩ := h
  cases r with
  | cons rx rr =>
    cases rr with
    | cons rt rr =>
      cases rr
      cases rx
      have ec := hcv _ rt
      subst ec
      obtain ⟨oe, od, J, _⟩ := XAt.inst I.hok hx
      have hcl : (W.clsIn X.K C).isSome = true := by
        obtain ⟨cd, hc, _⟩ := PySem.W.any_some T.hdC
        rw [hc]; rfl
      exact PySem.W.kia_one (PySem.W.kitx_exc hcl T.ga T.gt T.exC T.ha T.hn T.ht T.hm) I.kIn J e (fun z => nomatch z) fun tk => ⟨.bl b, H, I.kept (t' := tk) fun _ _ z => z, rfl, q⟩
theorem xraises {C : Addr} (T : XCls X.prog X.K C) : Raises X (.ref C) := by
  obtain ⟨nm, qn, N, bs, bm, sn, sub, ab, col, dd, k0, k1, k2, k3, k5, hC, hbm⟩ := T.cls
  refine raises_own T.exC ?_
  show (X.K.lookup C).map (·.cls) = _
  rw [hC]
  rfl
/-- raise X(e) -/
theorem pmk_x1 {C : Addr} {x : Str} {e : Expr} {te : TE} {p pos : Pos} (T : XCls X.prog X.K C) (hr : Room 1 X.A) (hmg : X.mg "super" = none) (hg : Gl X x) (hm : X.mg x = some (.ref C)) (he : PE X e te) (hdb : (x == ("__debug__" : Str)) = false)
    (hs : starEach [e] X.env = (false, eval e X.env) :: starEach [] X.env) :
    PMk X (.Call (.Name x p) [e] [] pos) (fun σ H Q => te σ H fun y H1 => ∀ a dx, H1 a = none → H1 dx = none → a ≠ dx → Q (.ref C) (some dx) (upd H1 dx (.xd [("value", y)]))) := by
  intro pins s σ H Q I h
  refine wpAny_Call_Name_kw (ld_glob I hg hm ?_ hdb)
  refine PySem.W.callWith_K (h₀ := X.base) I.ok.mod.kin T.kC ?_ hs (by rfl)
  rw [hs]
  show wpAny _ _ (spliced ((false, eval e X.env) :: backTo pos (starEach [] X.env))) _ _ s
  refine Calls.spliced_cons (thn (he.run pins s σ H _ I h) fun u s1 ⟨y, H1, I1, r1, q1⟩ => ?_)
  refine Calls.spliced_nil ⟨I1.kIn, ?_⟩
  show wpAny _ _ (call (.ref C) [u]) _ _ _
  refine wpAny_call (xraw T I1 hr hmg r1 (fun fnm qual p1 p2 q kV doc pm an cda ct cc e s => BindsTo.of_eq rfl) (by rw [sizeLine_eq]; simp) fun a dx t1 t' h' G n1 n2 ne J kG ga hx => ?_)
  exact ⟨a, _, _, _, _, .ref C, some dx, rfl, J, kG, ga, hx, ⟨rfl, rfl⟩, rfl, rfl, by rw [upd_ne ne]; exact n1, rfl, J.bare, xraises T, q1 a dx n1 n2 ne⟩
end
end Ev
end

section
set_option Elab.async false
set_option linter.all false
set_option maxRecDepth 100000
set_option maxHeartbeats 4000000
/-! Ex4: try .. except X as n: the caught exception is an object of ours. -/
namespace Ev
open PySem PySem.Spec PyProof.Rows L2 PySem.Calls
/-- what is wanted of what the body lets out -/
def wXs (K : W.Frag) (cv : Value) (i : Nat) (ts : TS) (Wo : WX) (D : Ends) : WX := fun cls d σ H =>
  ∃ b, PySem.W.exmOne K cls cv = some b ∧ (b = true → ∃ (C dd : Addr) (y : V), cls = .ref C ∧ d = some dd ∧ H dd = some (.xd [("value", y)]) ∧ ∀ a, H a = none → a ≠ dd →
      ts { nx := fun σ2 H2 => D.nx (σ2.set i none) H2, rt := D.rt, bk := fun σ2 H2 => D.bk (σ2.set i none) H2, ct := fun σ2 H2 => D.ct (σ2.set i none) H2 } (σ.set i (some (.ref a))) (upd H a (exq a C dd))) ∧ (b = false → Wo cls d σ H)
section
variable {X : Cx} {pins : List (Addr × Obj)} {σ : L2.St} {H : Hp} {s sI : Shared} {B : Heap}
theorem inv_suite (I : Inv X pins σ H s) (a : Addr) : Inv (X.suite a (X.pn ++ pins)) [] σ H s :=
  ⟨I.ok.suite _ _, I.os, I.bare, I.base, I.loc, I.cell, I.free, I.freeC, fun p hp => I.pin p (by rw [List.append_nil] at hp; exact hp), I.hok, I.len⟩
theorem inv_unsuite {a : Addr} {pn2 : List (Addr × Obj)} (I : Inv (X.suite a (X.pn ++ pins)) pn2 σ H s) (ok : X.Ok) : Inv X pins σ H s :=
  ⟨ok, I.os, I.bare, I.base, I.loc, I.cell, I.free, I.freeC, fun p hp => I.pin p (List.mem_append_left _ hp), I.hok, I.len⟩
/-- the caught one is tracked from now on -/
theorem inv_track {a C dd : Addr} {oe : Obj} {vs : Array Value} {h4 : Heap} (J : Inv X pins σ H sI) (nb : ∀ b o, sI.heap.get? b = some o → b ∉ frs X.stack → B.get? b = some o) (st : B.StaysIn h4) (na : B.get? a = none) (up : sI.heap.UpToSlots h4) (os : s.os = sI.os) (ag : AllBare s.gens) (hn : H a = none) (nfr : a ∉ frs X.stack)
    (he : h4.get? a = some oe) (hc : oe.cls = .ref C) (hd : oe.dict = some dd) (hf : oe.data = .fields vs) : Inv X pins σ (upd H a (exq a C dd)) { s with heap := h4 } := by
  obtain ⟨G, g1, g2⟩ := restrict h4 fun b => decide (b ≠ a)
  have ga : G.get? a = none := g2 a (by simp)
  have gk : ∀ b, b ≠ a → G.get? b = h4.get? b := fun b hb => g1 b (decide_eq_true hb)
  have noI : ∀ b o, sI.heap.get? b = some o → b ≠ a := fun b o e z => by
    subst z
    have z := nb b o e nfr
    rw [na] at z
    cases z
  have J1 : Inv X pins σ H { s with heap := G } := J.landed (s' := { s with heap := G }) nb (fun b o e => by
      rw [gk b (fun z => by rw [z, na] at e; cases e)]
      exact st b o e) (fun b o e hnf => by
      rw [gk b (noI b o e)]
      exact up b o e hnf) os ag
  exact J1.laidN (h' := h4) (t' := s.toks) (fun b o e => by
      by_cases z : b = a
      · rw [z, ga] at e; cases e
      · rw [← gk b z]; exact e) ga hn (exq_ok he hc hd hf)
end
section
variable {X : Cx} {x n : Str} {cv : Value} {i : Nat} {body suite : List Stmt} {b0 : Stmt} {np pos pos2 : Pos} {tb : WX → TS} {ts : TS} {Wo : WX}
theorem ps_tryX (hst : X.stack = X.env :: X.outer) (hfr : X.env.frame = some X.env.locals) (hN : X.N.Nodup) (hi : X.N[i]? = some n) (hln : X.env.kindOf n = some .local) (hc : Names X x cv) (tk : Takes X Wo)
    (hb : ∀ (W : WX) (pn : List (Addr × Obj)) (xe : Value → Shared → Prop), Takes (X.tr pn xe) W → PassesOwn (model X.prog X.w) X.A X.env xe → PSs (X.tr pn xe) body (tb W))
    (hsu : ∀ (a : Addr) (pn : List (Addr × Obj)), PSs (X.suite a pn) (b0 :: suite) ts) :
    PS X (.Try body [.ExceptHandler (some (.Name x np)) (some n) (b0 :: suite) pos2] [] [] pos) (fun D σ H => tb (wXs X.K cv i ts Wo D) D σ H) := by
  refine ⟨fun pins s σ H D I h => ?_⟩
  have ok := I.ok
  have hA : X.A.frames = some (X.env :: X.outer) := by rw [ok.frames, hst]
  have lc : L2.Loc X.env.scope n := .inl hln
  refine wpAny_Try_except ?_
  have BR := (hb (wXs X.K cv i ts Wo D) (X.pn ++ pins) (fun e s1 => wpAny (model X.prog X.w) X.A (noteFrame e X.env) (fun _ s2 => wpAny (model X.prog X.w) X.A (setFlight e none) (fun _ s3 =>
    wpAny (model X.prog X.w) X.A (handleBy e X.env [.ExceptHandler (some (.Name x np)) (some n) (b0 :: suite) pos2]) (SP X pins D) X.xe s3) X.xe s2) X.xe s1)
    (fun u s1 xx => ?_) PassesOwn.looking).run [] s σ H D (I.toTry _) h
  · refine wpAny_mono BR (fun f s1 hsp => ?_) fun e s1 he => he
    cases f with
    | next =>
      obtain ⟨σ2, H2, J, z⟩ := hsp
      exact wpAny_execs_nil ⟨σ2, H2, J.ofTry ok, z⟩
    | ret u =>
      obtain ⟨v, σ2, H2, J, r, z⟩ := hsp
      exact ⟨v, σ2, H2, J.ofTry ok, r, z⟩
    | brk =>
      obtain ⟨σ2, H2, J, z⟩ := hsp
      exact ⟨σ2, H2, J.ofTry ok, z⟩
    | cont =>
      obtain ⟨σ2, H2, J, z⟩ := hsp
      exact ⟨σ2, H2, J.ofTry ok, z⟩
  · obtain ⟨a, B, sI, pins2, σ2, H2, cls, d, rfl, J0, nb, up, sky, na, os, ag, b, hb1, hyes, hno⟩ := xx
    have J : Inv X pins σ2 H2 sI := J0.ofTry ok
    rw [hst] at sky
    show wpAny (model X.prog X.w) X.A (noteFrame (.ref a) X.env) _ _ _
    refine Sky.land Zc.steady hA hfr sky fun h3 fl3 up3 => ?_
    have J3 : Inv X pins σ2 H2 { s1 with heap := h3 } := J.landed nb fl3.1 (up.trans up3) os ag
    obtain ⟨oe3, vs3, he3, hz3, hd3⟩ := fl3.there
    have nfr : a ∉ frs (X.env :: X.outer) := fun hm => by
      obtain ⟨_, o2, e2, hnf⟩ := fl3.2.2.1.mem hm
      rw [he3] at e2
      cases e2
      exact hnf _ hd3
    have S3 := inv_suite J3 a
    refine wpAny_handleBy_cons (codeAny_handlers_test ?_) (by intro q; cases q)
    have LT : PySem.W.Looks (model X.prog X.w) h3 (typeOf (.ref a)) cls := fun A Q E s k q => wpAny_typeOf_ref (k _ _ he3) (by rw [hz3.1]; exact q)
    have LM := PySem.W.exm_one (M := model X.prog X.w) (J3.kIn) LT hb1
    have test : ∀ {Q : Value → Shared → Prop} {E : Value → Shared → Prop}, Q cv { s1 with heap := h3 } → wpAny (model X.prog X.w) (X.A.mark (some (.ref a))) (eval (.Name x np) X.env) Q E { s1 with heap := h3 } := fun {Q E} q => by
      obtain ⟨n1, n2, n3 | ⟨n3, n4, n5⟩⟩ := hc
      · exact ld_glob (X := X.suite a (X.pn ++ pins)) S3 n1 n3 q n2
      · exact ld_blt (X := X.suite a (X.pn ++ pins)) S3 n1 n3 n4 q n5 n2
    refine test (LM.here ?_)
    cases b with
    | false =>
      show wpAny _ X.A (handleBy (.ref a) X.env []) _ _ _
      refine wpAny_handleBy_nil ?_
      obtain ⟨k1, k2, k3, oe, vs, T, oT, tz, he, hz, hd, h1, hr⟩ := id fl3
      unfold PySem.passOn
      refine wpAny_bind (wpAny_field he hd h1 ?_)
      rw [if_neg (show ¬ ((Value.ref T == Value.none) = true) from by simp)]
      have fin : wpAny (model X.prog X.w) X.A (setFlight (.ref a) X.env.frame) (fun _ s4 => wpAny (model X.prog X.w) X.A (throw (.ref a) : Sem Flow) (SP X pins D) X.xe s4) X.xe { s1 with heap := h3 } := by
        rw [hfr]
        refine HandSPX.setFlight_upZ fl3 fun h4 hh4 up4 => wpAny_throw (tk _ _ ?_)
        refine ⟨a, B, sI, pins, σ2, H2, cls, d, rfl, J, nb, (up.trans up3).trans up4, .inr (.inr ?_), na, os, ag, hno rfl⟩
        rw [hst]
        exact hh4
      first
        | exact wpAny_bind (wpAny_pure (wpAny_bind fin))
        | exact wpAny_bind fin
    | true =>
      refine codeAny_handlers_suite_as ?_
      refine HandSPX.lands_againZ fl3 fun h4 fl4 up4 => ?_
      obtain ⟨oe4, vs4, he4, hz4, hd4⟩ := fl4.there
      obtain ⟨C, dd, y, rfl, rfl, hdd, hyes⟩ := hyes rfl
      have J4 : Inv X pins σ2 (upd H2 a (exq a C dd)) { s1 with heap := h4 } := inv_track J nb fl4.1 fl4.2.1 ((up.trans up3).trans up4) os ag na (by rw [hst]; exact nfr) he4 hz4.1 hz4.2 hd4
      have S4 := inv_suite J4 a
      refine store_ok (X := X.suite a (X.pn ++ pins)) (v := .ref a) S4 hN hi lc rfl (fun s5 S5 => ?_) (.inr hln)
      refine wpAny_mono ((hsu a (X.pn ++ pins)).run [] s5 _ _ _ S5 (hyes a na (fun z => by rw [z, hdd] at na; cases na))) (fun f s6 hsp => ?_) (fun _ _ z => False.elim z)
      have fin : ∀ {σ6 : L2.St} {H6 : Hp} {Q : Shared → Prop}, Inv (X.suite a (X.pn ++ pins)) [] σ6 H6 s6 → (∀ s7, Inv X pins (σ6.set i none) H6 s7 → Q s7) →
          wpAny (model X.prog X.w) X.A (do bindName X.env n .none; unbindBehindTheSuite X.env n pos2) (fun _ s7 => Q s7) X.xe s6 := fun {σ6 H6 Q} S6 hq => gone_ok (inv_unsuite S6 ok) hN hi hln hq
      cases f with
      | ret u =>
        obtain ⟨v6, σ6, H6, S6, r6, q6⟩ := hsp
        exact fin S6 fun s7 J7 => ⟨_, _, _, J7, r6, q6⟩
      | next =>
        obtain ⟨σ6, H6, S6, q6⟩ := hsp
        exact fin S6 fun s7 J7 => ⟨_, _, J7, q6⟩
      | brk =>
        obtain ⟨σ6, H6, S6, q6⟩ := hsp
        exact fin S6 fun s7 J7 => ⟨_, _, J7, q6⟩
      | cont =>
        obtain ⟨σ6, H6, S6, q6⟩ := hsp
        exact fin S6 fun s7 J7 => ⟨_, _, J7, q6⟩
end
end Ev
end

section
set_option Elab.async false
set_option linter.all false
set_option maxRecDepth 100000
set_option maxHeartbeats 4000000
/-! Ex5: tuples that are known to have no dict of their own (so that their methods can be called). -/
namespace Ev
open PySem PySem.Spec PyProof.Rows L2
/-- a tuple at a, its object known to have no dict -/
def TpN (H : Hp) (a : Addr) (vs : List V) : Prop := ∃ o, H a = some (.frz o (.tup vs)) ∧ o.dict = none
theorem TpN.sq {K : PySem.W.Frag} {H : Hp} {a : Addr} {vs : List V} (h : TpN H a vs) : SqT K H a vs := by
  obtain ⟨o, e, _⟩ := h
  exact .inl (.inr ⟨o, e⟩)
theorem TpN.up {H H' : Hp} {a : Addr} {vs : List V} (s : ∀ b o, H b = some o → H' b = some o) (h : TpN H a vs) : TpN H' a vs := by
  obtain ⟨o, e, hd⟩ := h
  exact ⟨o, s _ _ e, hd⟩
/-- what a new tuple is given to -/
def NwT (H : Hp) (Q : VK) (xs : List V) : Prop := ∀ (p : Addr) (o : Obj), o.dict = none → H p = none → Q (.ref p) (upd H p (.frz o (.tup xs)))
section
variable {X : Cx} {pins : List (Addr × Obj)} {σ : L2.St} {H : Hp} {s : Shared} {xs : List V} {its : List Value} {Q : VK}
theorem nwt_ok (I : Inv X pins σ H s) (r : Vals xs its) (hz : xs.length ≤ sizeLine) (q : NwT H Q xs) : EP X pins σ Q (.ref s.heap.objs.size) { s with heap := s.heap.push { cls := .type "tuple", data := .seq its.toArray } } := by
  let ob : Obj := { cls := .type "tuple", data := .seq its.toArray }
  have new : ObjOk X.prog X.w (upd H s.heap.objs.size (.frz ob (.tup xs))) (s.heap.push ob) s.heap.objs.size (.frz ob (.tup xs)) :=
    ⟨Heap.get?_push_size _ rfl, hz, its, r, IsTup.new _ _⟩
  exact ⟨.ref _, _, I.laid (t' := s.toks) (fun b u e => Heap.get?_push_of_some _ e) (Nat.le_refl _) new, rfl, q _ ob rfl (I.hok.fresh (Nat.le_refl _))⟩
end
section
variable {X : Cx}
def tTupN (t : TA) : TE := fun σ H Q => t σ H fun xs H1 => xs.length ≤ sizeLine ∧ NwT H1 Q xs
theorem pe_tupN {es : List Expr} {t : TA} {k : Nat} {pos : Pos} (ht : PA X es t) : PE X (.Tuple es k pos) (tTupN t) :=
  ⟨fun pins s σ H Q I hq => wpAny_Tuple_spliced (thn (ht.run pos pins s σ H _ I hq) fun us s1 ⟨xs, H1, I1, r, hz, q⟩ => ⟨by rw [← r.length]; exact hz, nwt_ok I1 r hz q⟩)⟩
/-- t + u -/
def rCatN (K : PySem.W.Frag) : R2 := fun x y H Q => ∃ a b xs ys, x = .ref a ∧ y = .ref b ∧ SqT K H a xs ∧ SqT K H b ys ∧ xs.length + ys.length ≤ sizeLine ∧
  (xs = [] → Q (.ref b) H) ∧ (xs ≠ [] → ys = [] → Q (.ref a) H) ∧ (xs ≠ [] → ys ≠ [] → NwT H Q (xs ++ ys))
theorem op_catN : OpR X (binaryOp .Add) (rCatN X.K) := fun pins s σ H x y v u Q I rx ry ⟨a, b, xs, ys, ex, ey, ha, hb, hz, q0, q1, q2⟩ => by
  subst ex; subst ey
  cases rx; cases ry
  obtain ⟨as, ra, ta, _⟩ := I.tuple ha
  obtain ⟨bs, rb, tb, _⟩ := I.tuple hb
  by_cases hx : xs = []
  · subst hx; cases ra
    exact cat_tup0 ta tb ⟨.ref b, H, I, rfl, q0 rfl⟩
  · refine HT.cat_tup ta tb (fun z => hx (ra.nil_iff.mp z)) (fun z => ⟨.ref a, H, I, rfl, q1 hx (rb.nil_iff.mp z)⟩) (fun z => nwt_ok I (ra.append rb) (by rw [List.length_append]; exact hz) (q2 hx fun e => z (rb.nil_iff.mpr e))) ?_
    rw [← ra.length, ← rb.length]
    exact hz
/-- t[lo:hi] -/
def rSlN (K : PySem.W.Frag) : V → Option Int → Option Int → Hp → VK → Prop := fun x lo hi H Q => ∃ a xs, x = .ref a ∧ SqT K H a xs ∧
  (HT.sIx xs.length 0 lo = 0 ∧ HT.sIx xs.length xs.length hi = xs.length → Q (.ref a) H) ∧ (¬ (HT.sIx xs.length 0 lo = 0 ∧ HT.sIx xs.length xs.length hi = xs.length) → NwT H Q (cutV xs lo hi))
theorem sl_tupN : SlR X (rSlN X.K) := fun pins s σ H x v vl vu lo hi sl Q I rx hs pl pu ⟨a, xs, ex, hx, q1, q2⟩ => by
  subst ex
  cases rx
  obtain ⟨as, ra, ta, hz⟩ := I.tuple hx
  have hn : as.toArray.size = xs.length := by rw [List.size_toArray, ra.length]
  refine ⟨"tuple", _, PyProof.Rows.slot_tuple_getitem.lookup, ta.typeIs, ?_⟩
  by_cases hw : HT.sIx xs.length 0 lo = 0 ∧ HT.sIx xs.length xs.length hi = xs.length
  · exact getItem_tuple_whole ta hs pl pu (by rw [hn]; exact hw) ⟨.ref a, H, I, rfl, q1 hw⟩
  · refine HT.getItem_tuple_cut ta hs pl pu (by rw [hn]; exact hw) ?_ (by rw [hn]; exact hz)
    rw [hn]
    exact nwt_ok I ((ra.drop (HT.sIx xs.length 0 lo)).take (HT.sIx xs.length xs.length hi - HT.sIx xs.length 0 lo)) (Nat.le_trans (cutV_length xs lo hi) hz) (q2 hw)
/-- tuple(x) -/
theorem call_tupleN : CallR X (.type "tuple") (fun xs H Q => ∃ p ys, xs = [.ref p] ∧ ((SqL X.K H p ys ∧ NwT H Q ys) ∨ (SqT X.K H p ys ∧ Q (.ref p) H))) := fun pins s σ H xs us Q I r ⟨p, ys, ex, h⟩ => by
  subst ex
  obtain ⟨u, rfl, rx⟩ := vals1 r
  cases rx
  rcases h with ⟨hq, q⟩ | ⟨hq, q⟩
  · obtain ⟨as, ra, pl, hz⟩ := I.list hq
    have hn : as.toArray.size = ys.length := by rw [List.size_toArray, ra.length]
    exact call_tuple_list pl.isList (fun h' kp => nwt_ok (s := { s with heap := h' }) (I.kept (t' := s.toks) kp) ra hz q) (by omega)
  · obtain ⟨as, ra, pl, hz⟩ := I.tuple hq
    exact call_tuple_same pl ⟨.ref p, H, I, rfl, q⟩
/-- t * k -/
def rRepN (K : PySem.W.Frag) : R2 := fun x y H Q => ∃ l k xs, x = .ref l ∧ y = .int k ∧ SqT K H l xs ∧ xs ≠ [] ∧ 2 ≤ k ∧ k ≤ 1000 ∧ xs.length ≤ 1000 ∧ NwT H Q (List.replicate k.toNat xs).flatten
theorem op_repN : OpR X (binaryOp .Mult) (rRepN X.K) := fun pins s σ H x y v u Q I rx ry ⟨l, k, xs, ex, ey, hT, hne, h1, h2, hz, q⟩ => by
  subst ex; subst ey
  cases rx
  obtain ⟨t, rfl⟩ := ry
  obtain ⟨as, r, ⟨⟨cl, di, da, sl⟩, ho, hc, n, hd⟩, _⟩ := I.tuple hT
  cases (hc : cl = _); cases (hd : da = _)
  have hn : as.length = xs.length := r.length.symm
  have hp : 0 < as.length := by
    rw [hn]; exact List.length_pos_iff.mpr hne
  have he : as.toArray.isEmpty = false := by
    cases as with
    | nil => cases hp
    | cons _ _ => rfl
  have bd : xs.length * k.toNat ≤ 1000000 := Nat.le_trans (Nat.mul_le_mul hz (show k.toNat ≤ 1000 by omega)) (by decide)
  have fl : (List.replicate k.toNat xs).flatten.length ≤ sizeLine := by
    rw [PyProof.Rows.lm_len_rep_flat, sizeLine_eq, Nat.mul_comm]; omega
  have fl2 : (List.replicate k.toNat as).flatten.length ≤ sizeLine := by
    rw [PyProof.Rows.lm_len_rep_flat, hn, sizeLine_eq, Nat.mul_comm]; omega
  have hk : ((as.toArray.size : Nat) : Int) * k ≤ 1000000 := by
    have e : ((as.toArray.size : Nat) : Int) * k = ((xs.length * k.toNat : Nat) : Int) := by
      rw [List.size_toArray, hn, Int.natCast_mul, Int.toNat_of_nonneg (by omega)]
    rw [e]; omega
  have b0 : (decide (k < -(2 ^ 63)) || decide (k ≥ 2 ^ 63)) = false := by simp; omega
  have b1 : (as.toArray.isEmpty || k == 1) = false := by rw [he, Bool.false_or]; simp; omega
  have b2 : (decide (k ≤ 0) || as.toArray.isEmpty) = false := by rw [he, Bool.or_false]; simp; omega
  have b4 : Builtin.Tuple.tupleTooMany (((as.toArray.size : Nat) : Int) * k) = false := by unfold Builtin.Tuple.tupleTooMany; rw [sizeLine_eq]; exact decide_eq_false (by omega)
  refine wpAny_binaryOp_repeat_ref (T := "tuple") (U := "int") (by decide) ⟨_, ho, rfl⟩ (fun s' => typeIs_int s' k t) noFill_tuple_mul F.fills_int_mul F.slot_int_rmul repeat_tuple F.slot_int_index.lookup ?_
  refine call_meets F.slot_int_rmul (typeIs_int s k t) F.entry_int_rmul (F.args_int_rmul_2 _ _) (int_rmul_tuple k t l as.toArray n di sl) ⟨ho, rfl, ⟨_, ho, rfl⟩, ?_⟩
  refine call_meets F.slot_tuple_mul ⟨_, ho, rfl⟩ F.entry_tuple_mul (F.args_tuple_mul_2 _ _) (tuple_mulW l as.toArray n di sl k t b0 b1 b2 (by omega) b4 (by rw [size_rep, List.size_toArray]; exact fl2)) ⟨ho, ?_⟩
  rw [size_rep]
  exact nwt_ok I (r.rep k.toNat) fl q
end
/-- a tuple or a list, item by item, to the targets -/
def gTL (K : PySem.W.Frag) (n : Nat) (t : TGs) : TG := fun v σ H Q => gTup K n t v σ H Q ∨ gLst K n t v σ H Q
theorem pg_tl {X : Cx} {pos : Pos} {es : List Expr} {k : Nat} {t : TGs} {n : Nat} (hc : X.calm = true) (h : PGs X es t) (hn : (assignEach es X.env).length = n) (hst : (assignEach es X.env).findIdx? (·.1) = none) : PG X (.Tuple es k pos) (gTL X.K n t) :=
  ⟨fun pins s σ H v u Q I r hw => hw.elim (fun q => (pg_tup hc h hn hst).run pins s σ H v u Q I r q) fun q => (pg_lst hc h hn hst).run pins s σ H v u Q I r q⟩
end Ev
end

section
set_option Elab.async false
set_option linter.all false
set_option maxRecDepth 100000
set_option maxHeartbeats 4000000
/-! Ev, part 1: Python data as trees (D), what a slot of a def holds (SV), and what it is for the abstract heap of HandS to hold them (Rep). -/
namespace Ev
open PySem PySem.Spec PyProof.Rows L2

/-- data: what never changes, or is no longer changed -/
inductive D where
  | non | bl (b : Bool) | int (i : Int) | str (x : Str)
  | tup (xs : List D) | lst (xs : List D) | dic (ks vs : List D) | rng (lo hi : Int) | exn (c : Str) (v : D) | prs (xs : List D)
  deriving Inhabited

/-- what one name alone holds and may change: a list, a dict, a list of such lists -/
inductive Own where
  | l (xs : List D) | d (ks vs : List D) | ll (xss : List (List D))
  deriving Inhabited

/-- a slot: nothing known, shared data, an object of its own, the j-th argument's object -/
inductive SV where
  | un | sh (d : D) | ow (o : Own) | bo (j : Nat) (o : Own)
  deriving Inhabited

/-- a key of a dict, up to == -/
def dKey : D → Option NestedKey
  | .non => some .none
  | .bl b => some (.num (if b then 1 else 0))
  | .int i => some (.num i)
  | .str x => some (.text x)
  | .tup xs => (dKeys xs).map .tup
  | _ => none
where
  dKeys : List D → Option (List NestedKey)
  | [] => some []
  | x :: xs => match dKey x, dKeys xs with
    | some k, some ks => some (k :: ks)
    | _, _ => none

/-- a dict's object: hash, key, value by value -/
def DicO (a : Addr) (es : List (Int × V × V)) : HO := .ext fun h => ∃ o ar ep, h.get? a = some o ∧ o.ExactDict ∧ o.data = .dict ar ep ∧
  Paired (fun (p : Int × V × V) (e : DictEntry) => p.1 = e.hash ∧ RelV p.2.1 e.key ∧ RelV p.2.2 e.val) es ar.toList

/-- what stands at a dict's address, tracked -/
def IsDic (w : World) (H : Hp) (a : Addr) (kn : List NestedKey) (ks vs : List V) : Prop :=
  (a == sysModules) = false ∧ kn.Nodup ∧ kn.length ≤ sizeLine ∧ ∃ es, H a = some (DicO a es) ∧ es.map (·.1) = kn.map (NestedKey.hash w) ∧ es.map (·.2.1) = ks ∧ es.map (·.2.2) = vs

mutual
/-- the value v is the data d -/
def Den (K : PySem.W.Frag) (w : World) (H : Hp) : D → V → Prop
  | .non, v => v = .non
  | .bl b, v => v = .bl b
  | .int i, v => v = .int i
  | .str x, v => v = .str x
  | .tup ds, v => ∃ a vs, v = .ref a ∧ TpN H a vs ∧ DenL K w H ds vs
  | .lst ds, v => ∃ a vs, v = .ref a ∧ SqL K H a vs ∧ DenL K w H ds vs
  | .dic ks ws, v => ∃ a kn kv vv, v = .ref a ∧ IsDic w H a kn kv vv ∧ dKey.dKeys ks = some kn ∧ DenL K w H ks kv ∧ DenL K w H ws vv
  | .rng lo hi, v => ∃ a, v = .ref a ∧ H a = some (.rng lo hi)
  | .exn c x, v => ∃ a y, v = .ref a ∧ XAt H a (He.ga K c) y ∧ Den K w H x y
  | .prs ds, v => ∃ a vs, v = .ref a ∧ SqT K H a vs ∧ DenL K w H ds vs
def DenL (K : PySem.W.Frag) (w : World) (H : Hp) : List D → List V → Prop
  | [], vs => vs = []
  | d :: ds, vs => ∃ v r, vs = v :: r ∧ Den K w H d v ∧ DenL K w H ds r
end

def Sub (H H' : Hp) : Prop := ∀ a o, H a = some o → H' a = some o
theorem Sub.refl {H : Hp} : Sub H H := fun _ _ h => h
theorem Sub.trans {H H' H'' : Hp} (h : Sub H H') (h' : Sub H' H'') : Sub H H'' := fun a o e => h' a o (h a o e)
theorem Sub.upd {H : Hp} {a : Addr} {o : HO} (h : H a = none) : Sub H (upd H a o) := fun b u e => by
  rw [upd_ne (ne_of_none e h)]; exact e
theorem Sub.upd2 {H H' : Hp} {a : Addr} {o : HO} (s : Sub H H') : Sub (L2.upd H a o) (L2.upd H' a o) := fun b u e => by
  by_cases hb : b = a
  · subst hb; rw [upd_same] at e ⊢; exact e
  · rw [upd_ne hb] at e ⊢; exact s b u e
theorem Sub.upd3 {H H' : Hp} {a : Addr} {o : HO} (s : Sub H H') (h : H a = none) : Sub H (L2.upd H' a o) := fun b u e => by
  rw [upd_ne (ne_of_none e h)]; exact s b u e

section
variable {K : PySem.W.Frag} {w : World} {H H' : Hp}
theorem Rd.sub {a : Addr} {u : HO} (s : Sub H H') (r : Rd H a u) : Rd H' a u := by
  rcases r with r | ⟨o, r⟩
  · exact .inl (s _ _ r)
  · exact .inr ⟨o, s _ _ r⟩
theorem SqL.sub {a : Addr} {xs : List V} (s : Sub H H') (r : SqL K H a xs) : SqL K H' a xs := by
  rcases r with r | r
  · exact .inl (Rd.sub s r)
  · exact .inr r
theorem SqT.sub {a : Addr} {xs : List V} (s : Sub H H') (r : SqT K H a xs) : SqT K H' a xs := by
  rcases r with r | r
  · exact .inl (Rd.sub s r)
  · exact .inr r
theorem IsDic.sub {a : Addr} {kn : List NestedKey} {ks vs : List V} (s : Sub H H') (r : IsDic w H a kn ks vs) : IsDic w H' a kn ks vs := by
  obtain ⟨h1, h2, h3, es, h4, h5⟩ := r
  exact ⟨h1, h2, h3, es, s _ _ h4, h5⟩
mutual
theorem Den.sub (s : Sub H H') : ∀ {d : D} {v : V}, Den K w H d v → Den K w H' d v
  | .non, _, h => by rw [Den] at h ⊢; exact h
  | .bl b, _, h => by rw [Den] at h ⊢; exact h
  | .int i, _, h => by rw [Den] at h ⊢; exact h
  | .str x, _, h => by rw [Den] at h ⊢; exact h
  | .tup ds, _, h => by
    rw [Den] at h ⊢
    obtain ⟨a, vs, e, h1, h2⟩ := h
    exact ⟨a, vs, e, TpN.up s h1, DenL.sub s h2⟩
  | .lst ds, _, h => by
    rw [Den] at h ⊢
    obtain ⟨a, vs, e, h1, h2⟩ := h
    exact ⟨a, vs, e, SqL.sub s h1, DenL.sub s h2⟩
  | .dic ks ws, _, h => by
    rw [Den] at h ⊢
    obtain ⟨a, kn, kv, vv, e, h1, h2, h3, h4⟩ := h
    exact ⟨a, kn, kv, vv, e, IsDic.sub s h1, h2, DenL.sub s h3, DenL.sub s h4⟩
  | .rng lo hi, _, h => by
    rw [Den] at h ⊢
    obtain ⟨a, e, h1⟩ := h
    exact ⟨a, e, s _ _ h1⟩
  | .exn c x, _, h => by
    rw [Den] at h ⊢
    obtain ⟨a, y, e, ⟨dx, h1, h2⟩, h3⟩ := h
    exact ⟨a, y, e, ⟨dx, s _ _ h1, s _ _ h2⟩, Den.sub s h3⟩
  | .prs ds, _, h => by
    rw [Den] at h ⊢
    obtain ⟨a, vs, e, h1, h2⟩ := h
    exact ⟨a, vs, e, SqT.sub s h1, DenL.sub s h2⟩
theorem DenL.sub (s : Sub H H') : ∀ {ds : List D} {vs : List V}, DenL K w H ds vs → DenL K w H' ds vs
  | [], _, h => by rw [DenL] at h ⊢; exact h
  | d :: ds, _, h => by
    rw [DenL] at h ⊢
    obtain ⟨v, r, e, h1, h2⟩ := h
    exact ⟨v, r, e, Den.sub s h1, DenL.sub s h2⟩
end
theorem DenL.nil : DenL K w H [] [] := by rw [DenL]
theorem DenL.nil_iff {vs : List V} : DenL K w H [] vs ↔ vs = [] := by rw [DenL]
theorem DenL.cons_iff {d : D} {ds : List D} {vs : List V} : DenL K w H (d :: ds) vs ↔ ∃ v r, vs = v :: r ∧ Den K w H d v ∧ DenL K w H ds r := by rw [DenL]
theorem DenL.cons {d : D} {ds : List D} {v : V} {vs : List V} (h : Den K w H d v) (t : DenL K w H ds vs) : DenL K w H (d :: ds) (v :: vs) := by
  rw [DenL]; exact ⟨v, vs, rfl, h, t⟩
theorem DenL.len : ∀ {ds : List D} {vs : List V}, DenL K w H ds vs → ds.length = vs.length
  | [], vs, h => by rw [DenL] at h; rw [h]; rfl
  | d :: ds, vs, h => by
    rw [DenL] at h
    obtain ⟨v, r, rfl, _, h2⟩ := h
    simp [DenL.len h2]
theorem DenL.append : ∀ {ds es : List D} {vs us : List V}, DenL K w H ds vs → DenL K w H es us → DenL K w H (ds ++ es) (vs ++ us)
  | [], es, vs, us, h, h' => by rw [DenL] at h; subst h; exact h'
  | d :: ds, es, vs, us, h, h' => by
    rw [DenL] at h
    obtain ⟨v, r, rfl, h1, h2⟩ := h
    exact DenL.cons h1 (DenL.append h2 h')
theorem DenL.get : ∀ {ds : List D} {vs : List V} {i : Nat} {d : D}, DenL K w H ds vs → ds[i]? = some d → ∃ v, vs[i]? = some v ∧ Den K w H d v
  | [], _, _, _, _, e => by simp at e
  | d :: ds, vs, 0, x, h, e => by
    rw [DenL] at h
    obtain ⟨v, r, rfl, h1, h2⟩ := h
    simp at e; subst e
    exact ⟨v, by simp, h1⟩
  | d :: ds, vs, i + 1, x, h, e => by
    rw [DenL] at h
    obtain ⟨v, r, rfl, h1, h2⟩ := h
    obtain ⟨u, e2, h3⟩ := DenL.get (i := i) h2 (by simpa using e)
    exact ⟨u, by simpa using e2, h3⟩
theorem DenL.getV : ∀ {ds : List D} {vs : List V} {i : Nat} {v : V}, DenL K w H ds vs → vs[i]? = some v → ∃ d, ds[i]? = some d ∧ Den K w H d v
  | [], _, _, _, h, e => by rw [DenL] at h; subst h; simp at e
  | d :: ds, vs, 0, x, h, e => by
    rw [DenL] at h
    obtain ⟨v, r, rfl, h1, h2⟩ := h
    simp at e; subst e
    exact ⟨d, by simp, h1⟩
  | d :: ds, vs, i + 1, x, h, e => by
    rw [DenL] at h
    obtain ⟨v, r, rfl, h1, h2⟩ := h
    obtain ⟨u, e2, h3⟩ := DenL.getV (i := i) h2 (by simpa using e)
    exact ⟨u, by simpa using e2, h3⟩
theorem DenL.take : ∀ {ds : List D} {vs : List V} (n : Nat), DenL K w H ds vs → DenL K w H (ds.take n) (vs.take n)
  | [], vs, n, h => by rw [DenL] at h; subst h; simp; exact DenL.nil
  | d :: ds, vs, 0, h => by simp; exact DenL.nil
  | d :: ds, vs, n + 1, h => by
    rw [DenL] at h
    obtain ⟨v, r, rfl, h1, h2⟩ := h
    exact DenL.cons h1 (DenL.take n h2)
theorem DenL.drop : ∀ {ds : List D} {vs : List V} (n : Nat), DenL K w H ds vs → DenL K w H (ds.drop n) (vs.drop n)
  | [], vs, n, h => by rw [DenL] at h; subst h; simp; exact DenL.nil
  | d :: ds, vs, 0, h => h
  | d :: ds, vs, n + 1, h => by
    rw [DenL] at h
    obtain ⟨v, r, rfl, h1, h2⟩ := h
    exact DenL.drop n h2
theorem DenL.reverse : ∀ {ds : List D} {vs : List V}, DenL K w H ds vs → DenL K w H ds.reverse vs.reverse
  | [], vs, h => by rw [DenL] at h; subst h; exact DenL.nil
  | d :: ds, vs, h => by
    rw [DenL] at h
    obtain ⟨v, r, rfl, h1, h2⟩ := h
    rw [List.reverse_cons, List.reverse_cons]
    exact DenL.append (DenL.reverse h2) (DenL.cons h1 DenL.nil)
theorem DenL.set : ∀ {ds : List D} {vs : List V} (i : Nat) {d : D} {v : V}, Den K w H d v → DenL K w H ds vs → DenL K w H (ds.set i d) (vs.set i v)
  | [], vs, i, _, _, _, h => by rw [DenL] at h; subst h; exact DenL.nil
  | d :: ds, vs, 0, _, _, q, h => by
    rw [DenL] at h
    obtain ⟨v, r, rfl, h1, h2⟩ := h
    exact DenL.cons q h2
  | d :: ds, vs, i + 1, _, _, q, h => by
    rw [DenL] at h
    obtain ⟨v, r, rfl, h1, h2⟩ := h
    exact DenL.cons h1 (DenL.set i q h2)
end
end Ev
end

section
set_option Elab.async false
set_option linter.all false
set_option maxRecDepth 100000
set_option maxHeartbeats 4000000
/-! Ev, part 2: Rep: slots held by the abstract heap H; Hs is the part of H that is shared. -/
namespace Ev
open PySem PySem.Spec PyProof.Rows L2

def LL (K : PySem.W.Frag) (w : World) (H Hs : Hp) : List (List D) → List Addr → Prop
  | [], [] => True
  | xs :: xss, a :: as => (∃ vs, H a = some (.lst vs) ∧ DenL K w Hs xs vs) ∧ LL K w H Hs xss as
  | _, _ => False
/-- the object of one's own at a, over the addresses fp -/
def OwnAt (K : PySem.W.Frag) (w : World) (H Hs : Hp) : Own → Addr → List Addr → Prop
  | .l xs, a, fp => fp = [a] ∧ ∃ vs, H a = some (.lst vs) ∧ DenL K w Hs xs vs
  | .d ks ws, a, fp => fp = [a] ∧ ∃ kn kv vv, IsDic w H a kn kv vv ∧ dKey.dKeys ks = some kn ∧ DenL K w Hs ks kv ∧ DenL K w Hs ws vv
  | .ll xss, a, fp => ∃ as, fp = a :: as ∧ (a :: as).Nodup ∧ H a = some (.lst (as.map V.ref)) ∧ LL K w H Hs xss as
def Slot (K : PySem.W.Frag) (w : World) (β : Nat → Addr) (H Hs : Hp) : SV → Option V → List Addr → Prop
  | .un, _, fp => fp = []
  | .sh d, x, fp => fp = [] ∧ ∃ v, x = some v ∧ Den K w Hs d v
  | .ow o, x, fp => ∃ a, x = some (.ref a) ∧ OwnAt K w H Hs o a fp
  | .bo j o, x, fp => x = some (.ref (β j)) ∧ OwnAt K w H Hs o (β j) fp
structure Rep (K : PySem.W.Frag) (w : World) (β : Nat → Addr) (S : List SV) (σ : List (Option V)) (H Hs : Hp) : Prop where
  len : S.length = σ.length
  sub : Sub Hs H
  ex : ∃ F : Nat → List Addr, (∀ i s x, S[i]? = some s → σ[i]? = some x → Slot K w β H Hs s x (F i)) ∧
    (∀ i j a, i < S.length → j < S.length → a ∈ F i → a ∈ F j → i = j) ∧ ∀ i a, i < S.length → a ∈ F i → Hs a = none
def SV.own? : SV → Option Own
  | .ow o => some o
  | .bo _ o => some o
  | _ => none
def SV.put : SV → Own → SV
  | .bo j _, o => .bo j o
  | _, o => .ow o
def Own.D : Own → D
  | .l xs => .lst xs
  | .d ks vs => .dic ks vs
  | .ll xss => .lst (xss.map .lst)
/-- forget who else knows of it -/
def SV.shr : SV → SV
  | .ow o => .sh o.D
  | s => s
section
variable {K : PySem.W.Frag} {w : World} {β : Nat → Addr} {S : List SV} {σ : List (Option V)} {H H' Hs Hs' : Hp}
theorem LL.congr : ∀ {xss : List (List D)} {as : List Addr}, (∀ b ∈ as, H' b = H b) → Sub Hs Hs' → LL K w H Hs xss as → LL K w H' Hs' xss as
  | [], [], _, _, _ => True.intro
  | xs :: xss, a :: as, h, s, ⟨⟨vs, e, q⟩, t⟩ => ⟨⟨vs, (h a (by simp)).trans e, q.sub s⟩, LL.congr (fun b hb => h b (by simp [hb])) s t⟩
  | [], _ :: _, _, _, h => h.elim
  | _ :: _, [], _, _, h => h.elim
theorem IsDic.congr {a : Addr} {kn : List NestedKey} {ks vs : List V} (e : H' a = H a) (r : IsDic w H a kn ks vs) : IsDic w H' a kn ks vs := by
  obtain ⟨h1, h2, h3, es, h4, h5⟩ := r
  exact ⟨h1, h2, h3, es, e.trans h4, h5⟩
theorem OwnAt.congr {o : Own} {a : Addr} {fp : List Addr} (h : ∀ b ∈ fp, H' b = H b) (s : Sub Hs Hs') (q : OwnAt K w H Hs o a fp) : OwnAt K w H' Hs' o a fp := by
  cases o with
  | l xs =>
    obtain ⟨rfl, vs, e, q⟩ := q
    exact ⟨rfl, vs, (h a (by simp)).trans e, q.sub s⟩
  | d ks ws =>
    obtain ⟨rfl, kn, kv, vv, e, q1, q2, q3⟩ := q
    exact ⟨rfl, kn, kv, vv, e.congr (h a (by simp)), q1, q2.sub s, q3.sub s⟩
  | ll xss =>
    obtain ⟨as, rfl, n, e, q⟩ := q
    exact ⟨as, rfl, n, (h a (by simp)).trans e, q.congr (fun b hb => h b (by simp [hb])) s⟩
theorem Slot.congr {s : SV} {x : Option V} {fp : List Addr} (h : ∀ b ∈ fp, H' b = H b) (u : Sub Hs Hs') (q : Slot K w β H Hs s x fp) : Slot K w β H' Hs' s x fp := by
  cases s with
  | un => exact q
  | sh d => obtain ⟨e, v, ev, q⟩ := q; exact ⟨e, v, ev, q.sub u⟩
  | ow o => obtain ⟨a, e, q⟩ := q; exact ⟨a, e, q.congr h u⟩
  | bo j o => obtain ⟨e, q⟩ := q; exact ⟨e, q.congr h u⟩
theorem LL.tracked : ∀ {xss : List (List D)} {as : List Addr}, LL K w H Hs xss as → ∀ b ∈ as, H b ≠ none
  | [], [], _, b, hb => by simp at hb
  | xs :: xss, a :: as, ⟨⟨vs, e, q⟩, t⟩, b, hb => by
    rcases List.mem_cons.mp hb with rfl | hb
    · rw [e]; simp
    · exact LL.tracked t b hb
  | [], _ :: _, h, _, _ => h.elim
  | _ :: _, [], h, _, _ => h.elim
theorem OwnAt.tracked {o : Own} {a : Addr} {fp : List Addr} (q : OwnAt K w H Hs o a fp) : ∀ b ∈ fp, H b ≠ none := by
  cases o with
  | l xs =>
    obtain ⟨rfl, vs, e, q⟩ := q
    intro b hb
    have : b = a := by simpa using hb
    rw [this, e]; simp
  | d ks ws =>
    obtain ⟨rfl, kn, kv, vv, ⟨_, _, _, es, e, _⟩, _⟩ := q
    intro b hb
    have : b = a := by simpa using hb
    rw [this, e]; simp
  | ll xss =>
    obtain ⟨as, rfl, n, e, q⟩ := q
    intro b hb
    rcases List.mem_cons.mp hb with rfl | hb
    · rw [e]; simp
    · exact q.tracked b hb
theorem Slot.tracked {s : SV} {x : Option V} {fp : List Addr} (q : Slot K w β H Hs s x fp) : ∀ b ∈ fp, H b ≠ none := by
  cases s with
  | un => intro b hb; rw [show fp = [] from q] at hb; simp at hb
  | sh d => intro b hb; rw [q.1] at hb; simp at hb
  | ow o => obtain ⟨a, e, q⟩ := q; exact q.tracked
  | bo j o => obtain ⟨e, q⟩ := q; exact q.tracked
/-- entries chosen, each once -/
theorem Rep.sel {S' : List SV} {σ' : List (Option V)} (R : Rep K w β S σ H Hs) (φ : Nat → Nat) (hl : S'.length = σ'.length)
    (h : ∀ i, i < S'.length → φ i < S.length ∧ S'[i]? = S[φ i]? ∧ σ'[i]? = σ[φ i]?) (inj : ∀ i j, i < S'.length → j < S'.length → φ i = φ j → i = j) : Rep K w β S' σ' H Hs := by
  obtain ⟨F, h1, h2, h3⟩ := R.ex
  refine ⟨hl, R.sub, fun i => F (φ i), fun i s x e1 e2 => ?_, fun i j a hi hj ha hb => ?_, fun i a hi ha => h3 _ a (h i hi).1 ha⟩
  · have hi : i < S'.length := (List.getElem?_eq_some_iff.mp e1).1
    obtain ⟨_, q1, q2⟩ := h i hi
    exact h1 _ s x (q1 ▸ e1) (q2 ▸ e2)
  · exact inj i j hi hj (h2 _ _ a (h i hi).1 (h j hj).1 ha hb)
theorem Rep.tail {s : SV} {x : Option V} (R : Rep K w β (s :: S) (x :: σ) H Hs) : Rep K w β S σ H Hs :=
  R.sel (· + 1) (by have := R.len; simpa using this) (fun i hi => ⟨by simpa using hi, by simp, by simp⟩) fun i j _ _ e => by simpa using e
theorem Rep.at {i : Nat} {s : SV} (R : Rep K w β S σ H Hs) (e : S[i]? = some s) : ∃ x, σ[i]? = some x ∧ ∃ fp, Slot K w β H Hs s x fp := by
  obtain ⟨F, h1, _⟩ := R.ex
  have hi : i < S.length := (List.getElem?_eq_some_iff.mp e).1
  have hj : i < σ.length := R.len ▸ hi
  exact ⟨σ[i], by simp [hj], F i, h1 i s _ e (by simp [hj])⟩
theorem Rep.sh {i : Nat} {d : D} (R : Rep K w β S σ H Hs) (e : S[i]? = some (.sh d)) : ∃ v, σ[i]? = some (some v) ∧ Den K w Hs d v := by
  obtain ⟨x, ex, fp, q⟩ := R.at e
  obtain ⟨_, v, rfl, q⟩ := q
  exact ⟨v, ex, q⟩
theorem Rep.push {s : SV} {x : Option V} (R : Rep K w β S σ H Hs) (q : Slot K w β H Hs s x []) : Rep K w β (s :: S) (x :: σ) H Hs := by
  obtain ⟨F, h1, h2, h3⟩ := R.ex
  refine ⟨by simp [R.len], R.sub, fun i => match i with | 0 => [] | i + 1 => F i, fun i s' x' e1 e2 => ?_, fun i j a hi hj ha hb => ?_, fun i a hi ha => ?_⟩
  · cases i with
    | zero => simp at e1 e2; subst e1; subst e2; exact q
    | succ i => exact h1 i s' x' (by simpa using e1) (by simpa using e2)
  · cases i with
    | zero => simp at ha
    | succ i =>
      cases j with
      | zero => simp at hb
      | succ j => rw [h2 i j a (by simpa using hi) (by simpa using hj) ha hb]
  · cases i with
    | zero => simp at ha
    | succ i => exact h3 i a (by simpa using hi) ha
theorem Rep.push_sh {d : D} {v : V} (R : Rep K w β S σ H Hs) (q : Den K w Hs d v) : Rep K w β (.sh d :: S) (some v :: σ) H Hs := R.push ⟨rfl, v, rfl, q⟩
theorem Rep.push_un {x : Option V} (R : Rep K w β S σ H Hs) : Rep K w β (.un :: S) (x :: σ) H Hs := R.push (show ([] : List Addr) = [] from rfl)
/-- the heap grows by what is shared -/
theorem Rep.grow (R : Rep K w β S σ H Hs) (k : ∀ b, H b ≠ none → H' b = H b) (hs : Sub Hs Hs') (hs' : Sub Hs' H') (hn : ∀ b, H b ≠ none → Hs b = none → Hs' b = none) : Rep K w β S σ H' Hs' := by
  obtain ⟨F, h1, h2, h3⟩ := R.ex
  have tr : ∀ i a, i < S.length → a ∈ F i → H a ≠ none := fun i a hi ha => by
    have hj : i < σ.length := R.len ▸ hi
    exact (h1 i S[i] σ[i] (by simp [hi]) (by simp [hj])).tracked a ha
  refine ⟨R.len, hs', F, fun i s x e1 e2 => ?_, h2, fun i a hi ha => hn a (tr i a hi ha) (h3 i a hi ha)⟩
  have hi : i < S.length := (List.getElem?_eq_some_iff.mp e1).1
  exact (h1 i s x e1 e2).congr (fun b hb => k b (tr i b hi hb)) hs
theorem Rep.new {p : Addr} {o : HO} (R : Rep K w β S σ H Hs) (hp : H p = none) : Rep K w β S σ (upd H p o) (upd Hs p o) := by
  refine R.grow (fun b hb => upd_ne fun e => hb (by rw [e, hp])) (Sub.upd ?_) R.sub.upd2 fun b hb h => ?_
  · cases e : Hs p with
    | none => rfl
    | some u => rw [R.sub _ _ e] at hp; cases hp
  · rw [upd_ne fun e => hb (by rw [e, hp])]; exact h
/-- the heap grows by what nobody knows of -/
theorem Rep.newH {p : Addr} {o : HO} (R : Rep K w β S σ H Hs) (hp : H p = none) : Rep K w β S σ (upd H p o) Hs :=
  R.grow (fun b hb => upd_ne fun e => hb (by rw [e, hp])) Sub.refl (fun b u e => by
    rw [upd_ne (ne_of_none (R.sub b u e) hp)]; exact R.sub b u e) fun _ _ h => h
theorem Rep.hs_none {p : Addr} (R : Rep K w β S σ H Hs) (hp : H p = none) : Hs p = none := by
  cases e : Hs p with
  | none => rfl
  | some u => rw [R.sub _ _ e] at hp; cases hp
/-- a new object of one's own -/
theorem Rep.new_ow {o : Own} {p : Addr} {ho : HO} (R : Rep K w β S σ H Hs) (hp : H p = none) (q : OwnAt K w (upd H p ho) Hs o p [p]) : Rep K w β (.ow o :: S) (some (.ref p) :: σ) (upd H p ho) Hs := by
  have R' := R.newH (o := ho) hp
  obtain ⟨F, h1, h2, h3⟩ := R.ex
  obtain ⟨hl, hsub, _⟩ := R'
  have tr : ∀ i, i < S.length → p ∉ F i := fun i hi ha => by
    have hj : i < σ.length := R.len ▸ hi
    exact (h1 i S[i] σ[i] (by simp [hi]) (by simp [hj])).tracked p ha hp
  refine ⟨by simp [hl], hsub, fun i => match i with | 0 => [p] | i + 1 => F i, fun i s' x' e1 e2 => ?_, fun i j a hi hj ha hb => ?_, fun i a hi ha => ?_⟩
  · cases i with
    | zero => simp at e1 e2; subst e1; subst e2; exact ⟨p, rfl, q⟩
    | succ i =>
      have hi : i < S.length := by have e1' : S[i]? = some s' := by simpa using e1
                                   exact (List.getElem?_eq_some_iff.mp e1').1
      refine (h1 i s' x' (by simpa using e1) (by simpa using e2)).congr (fun b hb => upd_ne fun e => ?_) Sub.refl
      subst e
      exact tr i hi hb
  · cases i with
    | zero =>
      cases j with
      | zero => rfl
      | succ j =>
        have : a = p := by simpa using ha
        subst this
        exact absurd hb (tr j (by simpa using hj))
    | succ i =>
      cases j with
      | zero =>
        have : a = p := by simpa using hb
        subst this
        exact absurd ha (tr i (by simpa using hi))
      | succ j => rw [h2 i j a (by simpa using hi) (by simpa using hj) ha hb]
  · cases i with
    | zero =>
      have : a = p := by simpa using ha
      subst this
      exact R.hs_none hp
    | succ i => exact h3 i a (by simpa using hi) ha
theorem SV.own_slot {s : SV} {o : Own} {x : Option V} {fp : List Addr} (e : s.own? = some o) (q : Slot K w β H Hs s x fp) :
    ∃ a, x = some (.ref a) ∧ OwnAt K w H Hs o a fp ∧ ∀ H' Hs' o' fp', OwnAt K w H' Hs' o' a fp' → Slot K w β H' Hs' (s.put o') x fp' := by
  cases s with
  | un => cases e
  | sh d => cases e
  | ow o1 =>
    cases e
    obtain ⟨a, rfl, q⟩ := q
    exact ⟨a, rfl, q, fun H' Hs' o' fp' q' => ⟨a, rfl, q'⟩⟩
  | bo j o1 =>
    cases e
    obtain ⟨rfl, q⟩ := q
    exact ⟨_, rfl, q, fun H' Hs' o' fp' q' => ⟨rfl, q'⟩⟩
/-- an object of one's own is changed in place -/
theorem Rep.change {i : Nat} {s : SV} {o : Own} (R : Rep K w β S σ H Hs) (e : S[i]? = some s) (eo : s.own? = some o) :
    ∃ a fp, σ[i]? = some (some (.ref a)) ∧ OwnAt K w H Hs o a fp ∧ (∀ b ∈ fp, Hs b = none) ∧
      ∀ H' o', (∀ b, b ∉ fp → H' b = H b) → OwnAt K w H' Hs o' a fp → Rep K w β (S.set i (s.put o')) σ H' Hs := by
  obtain ⟨F, h1, h2, h3⟩ := R.ex
  have hi : i < S.length := (List.getElem?_eq_some_iff.mp e).1
  have hj : i < σ.length := R.len ▸ hi
  obtain ⟨a, ex, q, put⟩ := SV.own_slot eo (h1 i s _ e (List.getElem?_eq_getElem hj))
  refine ⟨a, F i, by rw [List.getElem?_eq_getElem hj, ex], q, fun b hb => h3 i b hi hb, fun H' o' k q' => ?_⟩
  refine ⟨by simp [R.len], fun b u eb => ?_, F, fun j s' x' e1 e2 => ?_, fun j l b hj hl hb hc => h2 j l b (by simpa using hj) (by simpa using hl) hb hc, fun j b hj hb => h3 j b (by simpa using hj) hb⟩
  · rw [k b fun hb => ?_]
    · exact R.sub b u eb
    · rw [h3 i b hi hb] at eb; cases eb
  · by_cases hji : j = i
    · subst hji
      rw [List.getElem?_set_self hi] at e1
      cases e1
      rw [List.getElem?_eq_getElem hj] at e2
      cases e2
      exact put _ _ _ _ q'
    · rw [List.getElem?_set_ne (Ne.symm hji)] at e1
      have hjl : j < S.length := (List.getElem?_eq_some_iff.mp e1).1
      exact (h1 j s' x' e1 e2).congr (fun b hb => k b fun hb' => hji (h2 j i b hjl hi hb hb')) Sub.refl
theorem LL.den : ∀ {xss : List (List D)} {as : List Addr}, (∀ b ∈ as, Hs' b = H b) → Sub Hs Hs' → LL K w H Hs xss as → DenL K w Hs' (xss.map .lst) (as.map V.ref)
  | [], [], _, _, _ => DenL.nil
  | xs :: xss, a :: as, h, s, ⟨⟨vs, e, q⟩, t⟩ => by
    refine DenL.cons ?_ (LL.den (fun b hb => h b (by simp [hb])) s t)
    rw [Den]
    exact ⟨a, vs, rfl, SqL.of ((h a (by simp)).trans e), q.sub s⟩
  | [], _ :: _, _, _, h => h.elim
  | _ :: _, [], _, _, h => h.elim
theorem OwnAt.den {o : Own} {a : Addr} {fp : List Addr} (h : ∀ b ∈ fp, Hs' b = H b) (s : Sub Hs Hs') (q : OwnAt K w H Hs o a fp) : Den K w Hs' o.D (.ref a) := by
  cases o with
  | l xs =>
    obtain ⟨rfl, vs, e, q⟩ := q
    show Den K w Hs' (.lst xs) _
    rw [Den]
    exact ⟨a, vs, rfl, SqL.of ((h a (by simp)).trans e), q.sub s⟩
  | d ks ws =>
    obtain ⟨rfl, kn, kv, vv, e, q1, q2, q3⟩ := q
    show Den K w Hs' (.dic ks ws) _
    rw [Den]
    exact ⟨a, kn, kv, vv, rfl, e.congr (h a (by simp)), q1, q2.sub s, q3.sub s⟩
  | ll xss =>
    obtain ⟨as, rfl, n, e, q⟩ := q
    show Den K w Hs' (.lst (xss.map .lst)) _
    rw [Den]
    exact ⟨a, as.map V.ref, rfl, SqL.of ((h a (by simp)).trans e), q.den (fun b hb => h b (by simp [hb])) s⟩
/-- an object of one's own is given away -/
theorem Rep.freeze {i : Nat} {s : SV} {o : Own} (R : Rep K w β S σ H Hs) (e : S[i]? = some s) (eo : s.own? = some o) :
    ∃ Hs', Rep K w β (S.set i (.sh o.D)) σ H Hs' ∧ Sub Hs Hs' := by
  obtain ⟨F, h1, h2, h3⟩ := R.ex
  have hi : i < S.length := (List.getElem?_eq_some_iff.mp e).1
  have hj : i < σ.length := R.len ▸ hi
  obtain ⟨a, ex, q, put⟩ := SV.own_slot eo (h1 i s _ e (List.getElem?_eq_getElem hj))
  have su : Sub Hs (fun b => if b ∈ F i then H b else Hs b) := fun b u eb => by
    show (if b ∈ F i then H b else Hs b) = some u
    split
    · exact R.sub b u eb
    · exact eb
  refine ⟨fun b => if b ∈ F i then H b else Hs b, ⟨by simp [R.len], fun b u eb => ?_, fun j => if j = i then [] else F j, fun j s' x' e1 e2 => ?_, fun j l b hj hl hb hc => ?_, fun j b hj hb => ?_⟩, su⟩
  · have eb' : (if b ∈ F i then H b else Hs b) = some u := eb
    split at eb'
    · exact eb'
    · exact R.sub b u eb'
  · by_cases hji : j = i
    · subst hji
      rw [List.getElem?_set_self hi] at e1
      cases e1
      rw [List.getElem?_eq_getElem hj] at e2
      cases e2
      show Slot K w β H _ (SV.sh o.D) _ (if j = j then [] else F j)
      rw [if_pos rfl]
      exact ⟨rfl, _, ex, q.den (fun b hb => if_pos hb) su⟩
    · rw [List.getElem?_set_ne (Ne.symm hji)] at e1
      show Slot K w β H _ s' x' (if j = i then [] else F j)
      rw [if_neg hji]
      exact (h1 j s' x' e1 e2).congr (fun b hb => rfl) su
  · have hb' : b ∈ (if j = i then [] else F j) := hb
    have hc' : b ∈ (if l = i then [] else F l) := hc
    split at hb'
    · simp at hb'
    · split at hc'
      · simp at hc'
      · exact h2 j l b (by simpa using hj) (by simpa using hl) hb' hc'
  · have hb' : b ∈ (if j = i then [] else F j) := hb
    split at hb'
    · simp at hb'
    · rename_i hji
      show (if b ∈ F i then H b else Hs b) = none
      rw [if_neg fun hbi => hji (h2 j i b (by simpa using hj) hi hb' hbi)]
      exact h3 j b (by simpa using hj) hb'
/-- .. at the head -/
theorem Rep.shr {s : SV} {x : Option V} (R : Rep K w β (s :: S) (x :: σ) H Hs) : ∃ Hs', Rep K w β (s.shr :: S) (x :: σ) H Hs' ∧ Sub Hs Hs' := by
  cases s with
  | un => exact ⟨Hs, R, Sub.refl⟩
  | sh d => exact ⟨Hs, R, Sub.refl⟩
  | bo j o => exact ⟨Hs, R, Sub.refl⟩
  | ow o =>
    obtain ⟨Hs', R', s'⟩ := R.freeze (i := 0) (s := .ow o) (o := o) rfl rfl
    exact ⟨Hs', R', s'⟩
end
end Ev
end

section
set_option Elab.async false
set_option linter.all false
set_option maxRecDepth 100000
set_option maxHeartbeats 4000000
/-! Ev, part 3: what runs (M), the readings tD of the hand layer by functions over slots, arguments. -/
namespace Ev
open PySem PySem.Spec PyProof.Rows L2

inductive Res (α : Type) where
  | ok (a : α) (S : List SV) | exc (c : Str) (v : D) (S : List SV) | stuck
abbrev M (α : Type) := List SV → Res α
def Res.bind {α γ : Type} (r : Res α) (k : α → M γ) : Res γ :=
  match r with
  | .ok a S => k a S
  | .exc c v S => .exc c v S
  | .stuck => .stuck
@[simp] theorem Res.bind_ok {α γ : Type} (a : α) (S : List SV) (k : α → M γ) : (Res.ok a S).bind k = k a S := rfl
@[simp] theorem Res.bind_exc {α γ : Type} (c : Str) (v : D) (S : List SV) (k : α → M γ) : (Res.exc c v S : Res α).bind k = .exc c v S := rfl
@[simp] theorem Res.bind_stuck {α γ : Type} (k : α → M γ) : (Res.stuck : Res α).bind k = .stuck := rfl

/-- what the context of the readings is -/
structure Ct where
  K : PySem.W.Frag
  w : World
  mg : Str → Option Value
  β : Nat → Addr
  W : WX
/-- an exception's way out -/
def Ct.Out (C : Ct) (T : List SV) (τ : List (Option V)) (σ : L2.St) (c : Str) (d : D) (S' : List SV) : Prop :=
  ∀ Cl dx vv H' Hs', C.mg c = some (.ref Cl) → Hs' dx = some (.xd [(("value" : Str), vv)]) → Den C.K C.w Hs' d vv → Rep C.K C.w C.β (T ++ S') (τ ++ σ) H' Hs' → C.W (.ref Cl) (some dx) σ H'
/-- where a run r leads -/
def Ct.Goes (C : Ct) {α : Type} (T : List SV) (τ : List (Option V)) (σ : L2.St) (r : Res α) (Q : α → List SV → Prop) : Prop :=
  match r with
  | .ok a S' => Q a S'
  | .exc c d S' => C.Out T τ σ c d S'
  | .stuck => False
abbrev Ct.Rep (C : Ct) := Ev.Rep C.K C.w C.β
/-- an expression's reading by its function -/
def tD (C : Ct) (f : M SV) : TE := fun σ H Q => ∃ S T τ Hs, T.length = τ.length ∧ C.Rep (T ++ S) (τ ++ σ) H Hs ∧
  C.Goes T τ σ (f S) fun r S' => ∀ v H' Hs', C.Rep (r :: (T ++ S')) (some v :: (τ ++ σ)) H' Hs' → Q v H'
/-- a test's -/
def tDT (C : Ct) (f : M Bool) : TT := fun σ H Q => ∃ S T τ Hs, T.length = τ.length ∧ C.Rep (T ++ S) (τ ++ σ) H Hs ∧
  C.Goes T τ σ (f S) fun b S' => ∀ H' Hs', C.Rep (T ++ S') (τ ++ σ) H' Hs' → Q b H'
def cx (X : Cx) (β : Nat → Addr) (W : WX) : Ct := ⟨X.K, X.w, X.mg, β, W⟩
def PD (X : Cx) (β : Nat → Addr) (W : WX) (e : Expr) (f : M SV) : Prop := PE X e (tD (cx X β W) f)
def PTD (X : Cx) (β : Nat → Addr) (W : WX) (e : Expr) (f : M Bool) : Prop := PT X e (tDT (cx X β W) f)
def PWD (X : Cx) (β : Nat → Addr) (W : WX) (e : Expr) (f : M Bool) : Prop := PW X e (tDT (cx X β W) f)

theorem PE.imp {X : Cx} {e : Expr} {t t' : TE} (h : PE X e t) (i : ∀ σ H Q, t' σ H Q → t σ H Q) : PE X e t' := ⟨fun pins s σ H Q I hw => h.run pins s σ H Q I (i σ H Q hw)⟩
theorem PT.imp {X : Cx} {e : Expr} {t t' : TT} (h : PT X e t) (i : ∀ σ H Q, t' σ H Q → t σ H Q) : PT X e t' := ⟨fun pins s σ H Q I hw => h.run pins s σ H Q I (i σ H Q hw)⟩
theorem PW.imp {X : Cx} {e : Expr} {t t' : TT} (h : PW X e t) (i : ∀ σ H Q, t' σ H Q → t σ H Q) : PW X e t' := ⟨fun wh pins s σ H Q I hw => h.run wh pins s σ H Q I (i σ H Q hw)⟩
theorem PA.imp {X : Cx} {e : List Expr} {t t' : TA} (h : PA X e t) (i : ∀ σ H Q, t' σ H Q → t σ H Q) : PA X e t' := ⟨fun pos pins s σ H Q I hw => h.run pos pins s σ H Q I (i σ H Q hw)⟩
theorem PS.imp {X : Cx} {e : Stmt} {t t' : TS} (h : PS X e t) (i : ∀ D σ H, t' D σ H → t D σ H) : PS X e t' := ⟨fun pins s σ H Q I hw => h.run pins s σ H Q I (i Q σ H hw)⟩
theorem PSs.imp {X : Cx} {e : List Stmt} {t t' : TS} (h : PSs X e t) (i : ∀ D σ H, t' D σ H → t D σ H) : PSs X e t' := ⟨fun pins s σ H Q I hw => h.run pins s σ H Q I (i Q σ H hw)⟩

section
variable {C : Ct} {T U : List SV} {τ υ : List (Option V)} {σ : L2.St} {S : List SV} {H Hs : Hp}
theorem Ct.Goes.mono {α : Type} {r : Res α} {Q Q' : α → List SV → Prop} (g : C.Goes T τ σ r Q) (h : ∀ a S, Q a S → Q' a S) : C.Goes T τ σ r Q' := by
  cases r with
  | ok a S => exact h a S g
  | exc c d S => exact g
  | stuck => exact g
/-- entries at the head are dropped -/
theorem Rep.dropU {K : PySem.W.Frag} {w : World} {β : Nat → Addr} : ∀ {U : List SV} {υ : List (Option V)} {S : List SV} {σ : List (Option V)}, U.length = υ.length → Ev.Rep K w β (U ++ S) (υ ++ σ) H Hs → Ev.Rep K w β S σ H Hs
  | [], [], _, _, _, R => R
  | _ :: _, _ :: _, _, _, h, R => Rep.dropU (by simpa using h) R.tail
  | [], _ :: _, _, _, h, _ => by simp at h
  | _ :: _, [], _, _, h, _ => by simp at h
theorem Ct.Out.deeper {c : Str} {d : D} {S' : List SV} (hl : U.length = υ.length) (o : C.Out T τ σ c d S') : C.Out (U ++ T) (υ ++ τ) σ c d S' :=
  fun Cl dx vv H' Hs' h1 h2 h3 R => o Cl dx vv H' Hs' h1 h2 h3 (by rw [List.append_assoc, List.append_assoc] at R; exact R.dropU hl)
/-- a part of a run, U in flight -/
theorem tD_bind {γ : Type} {f : M SV} {k : SV → M γ} {Q : γ → List SV → Prop} {Q1 : VK} (hu : U.length = υ.length) (hl : T.length = τ.length) (R : C.Rep (U ++ (T ++ S)) (υ ++ (τ ++ σ)) H Hs)
    (g : C.Goes T τ σ ((f S).bind k) Q) (h : ∀ r S1 v H1 Hs1, C.Rep (r :: (U ++ (T ++ S1))) (some v :: (υ ++ (τ ++ σ))) H1 Hs1 → C.Goes T τ σ (k r S1) Q → Q1 v H1) : tD C f σ H Q1 := by
  refine ⟨S, U ++ T, υ ++ τ, Hs, by simp [hu, hl], by rw [List.append_assoc, List.append_assoc]; exact R, ?_⟩
  cases e : f S with
  | ok r S1 =>
    rw [e] at g
    intro v H' Hs' R'
    rw [List.append_assoc, List.append_assoc] at R'
    exact h r S1 v H' Hs' R' g
  | exc c d S1 =>
    rw [e] at g
    exact Ct.Out.deeper hu g
  | stuck => rw [e] at g; exact g
theorem tDT_bind {γ : Type} {f : M Bool} {k : Bool → M γ} {Q : γ → List SV → Prop} {Q1 : Bool → Hp → Prop} (hu : U.length = υ.length) (hl : T.length = τ.length) (R : C.Rep (U ++ (T ++ S)) (υ ++ (τ ++ σ)) H Hs)
    (g : C.Goes T τ σ ((f S).bind k) Q) (h : ∀ b S1 H1 Hs1, C.Rep (U ++ (T ++ S1)) (υ ++ (τ ++ σ)) H1 Hs1 → C.Goes T τ σ (k b S1) Q → Q1 b H1) : tDT C f σ H Q1 := by
  refine ⟨S, U ++ T, υ ++ τ, Hs, by simp [hu, hl], by rw [List.append_assoc, List.append_assoc]; exact R, ?_⟩
  cases e : f S with
  | ok r S1 =>
    rw [e] at g
    intro H' Hs' R'
    rw [List.append_assoc, List.append_assoc] at R'
    exact h r S1 H' Hs' R' g
  | exc c d S1 =>
    rw [e] at g
    exact Ct.Out.deeper hu g
  | stuck => rw [e] at g; exact g
end

/-! ### data seen at its top -/
/-- the data of a slot that may be looked at -/
def SV.dat? : SV → Option D
  | .sh d => some d
  | .ow (.l xs) => some (.lst xs)
  | .ow (.d ks vs) => some (.dic ks vs)
  | .bo _ (.l xs) => some (.lst xs)
  | .bo _ (.d ks vs) => some (.dic ks vs)
  | _ => none
/-- its top in H, what is below in Hs -/
def View (K : PySem.W.Frag) (w : World) (H Hs : Hp) : D → V → Prop
  | .tup ds, v => ∃ a vs, v = .ref a ∧ SqT K H a vs ∧ DenL K w Hs ds vs ∧ TpN Hs a vs
  | .lst ds, v => ∃ a vs, v = .ref a ∧ SqL K H a vs ∧ DenL K w Hs ds vs
  | .dic ks ws, v => ∃ a kn kv vv, v = .ref a ∧ IsDic w H a kn kv vv ∧ dKey.dKeys ks = some kn ∧ DenL K w Hs ks kv ∧ DenL K w Hs ws vv
  | .rng lo hi, v => ∃ a, v = .ref a ∧ H a = some (.rng lo hi)
  | d, v => Den K w Hs d v
theorem Den.view {K : PySem.W.Frag} {w : World} {H Hs : Hp} (s : Sub Hs H) : ∀ {d : D} {v : V}, Den K w Hs d v → View K w H Hs d v
  | .non, _, h => h
  | .bl b, _, h => h
  | .int i, _, h => h
  | .str x, _, h => h
  | .tup ds, _, h => by
    rw [Den] at h
    obtain ⟨a, vs, e, h1, h2⟩ := h
    exact ⟨a, vs, e, SqT.sub s h1.sq, h2, h1⟩
  | .lst ds, _, h => by
    rw [Den] at h
    obtain ⟨a, vs, e, h1, h2⟩ := h
    exact ⟨a, vs, e, SqL.sub s h1, h2⟩
  | .dic ks ws, _, h => by
    rw [Den] at h
    obtain ⟨a, kn, kv, vv, e, h1, h2, h3, h4⟩ := h
    exact ⟨a, kn, kv, vv, e, h1.sub s, h2, h3, h4⟩
  | .rng lo hi, _, h => by
    rw [Den] at h
    obtain ⟨a, e, h1⟩ := h
    exact ⟨a, e, s _ _ h1⟩
  | .exn c x, _, h => h
  | .prs ds, _, h => h
theorem Den.non {K w H v} : Den K w H .non v ↔ v = .non := by rw [Den]
theorem Den.bl {K w H v b} : Den K w H (.bl b) v ↔ v = .bl b := by rw [Den]
theorem Den.int {K w H v i} : Den K w H (.int i) v ↔ v = .int i := by rw [Den]
theorem Den.str {K w H v x} : Den K w H (.str x) v ↔ v = .str x := by rw [Den]
theorem Rep.view {K : PySem.W.Frag} {w : World} {β : Nat → Addr} {S : List SV} {σ : List (Option V)} {H Hs : Hp} {i : Nat} {s : SV} {d : D} (R : Ev.Rep K w β S σ H Hs) (e : S[i]? = some s) (ed : s.dat? = some d) :
    ∃ v, σ[i]? = some (some v) ∧ View K w H Hs d v := by
  obtain ⟨x, ex, fp, q⟩ := R.at e
  cases s with
  | un => cases ed
  | sh d' =>
    cases ed
    obtain ⟨_, v, rfl, q⟩ := q
    exact ⟨v, ex, q.view R.sub⟩
  | ow o =>
    obtain ⟨a, rfl, q⟩ := q
    cases o with
    | l xs => cases ed; obtain ⟨_, vs, e1, q⟩ := q; exact ⟨_, ex, a, vs, rfl, SqL.of e1, q⟩
    | d ks ws => cases ed; obtain ⟨_, kn, kv, vv, q⟩ := q; exact ⟨_, ex, a, kn, kv, vv, rfl, q⟩
    | ll xss => cases ed
  | bo j o =>
    obtain ⟨rfl, q⟩ := q
    cases o with
    | l xs => cases ed; obtain ⟨_, vs, e1, q⟩ := q; exact ⟨_, ex, _, vs, rfl, SqL.of e1, q⟩
    | d ks ws => cases ed; obtain ⟨_, kn, kv, vv, q⟩ := q; exact ⟨_, ex, _, kn, kv, vv, rfl, q⟩
    | ll xss => cases ed
inductive ViewL (K : PySem.W.Frag) (w : World) (H Hs : Hp) : List D → List V → Prop
  | nil : ViewL K w H Hs [] []
  | cons {d : D} {ds : List D} {v : V} {vs : List V} : View K w H Hs d v → ViewL K w H Hs ds vs → ViewL K w H Hs (d :: ds) (v :: vs)

/-! ### arguments: run, or a slot looked at -/
inductive AF where
  | ex (f : M SV) | pk (i : Nat)
inductive AV where
  | v (r : SV) | s (i : Nat)
def AV.dat? (S : List SV) : AV → Option D
  | .v r => r.dat?
  | .s i => S[i]?.bind SV.dat?
def runAs : List AF → M (List AV)
  | [] => fun S => .ok [] S
  | .ex f :: r => fun S => (f S).bind fun a S1 => (runAs r S1).bind fun as S2 => .ok (.v a :: as) S2
  | .pk i :: r => fun S => match S[i]?.bind SV.dat? with
    | some _ => (runAs r S).bind fun as S2 => .ok (.s i :: as) S2
    | none => .stuck
def datL (S : List SV) : List AV → Option (List D)
  | [] => some []
  | a :: r => match a.dat? S, datL S r with
    | some d, some ds => some (d :: ds)
    | _, _ => none
def tAF (C : Ct) : AF → TE
  | .ex f => tD C f
  | .pk i => tVar i
def tAs (C : Ct) : List AF → TA
  | [] => tNil
  | a :: r => tCons (tAF C a) (tAs C r)
/-- what is in flight: the arguments come so far, from the last one -/
inductive Pend (σ : L2.St) : List AV → List V → List SV → List (Option V) → Prop
  | nil : Pend σ [] [] [] []
  | ex {as vs U υ} {r : SV} {v : V} : Pend σ as vs U υ → Pend σ (.v r :: as) (v :: vs) (r :: U) (some v :: υ)
  | pk {as vs U υ} {i : Nat} {v : V} : σ[i]? = some (some v) → Pend σ as vs U υ → Pend σ (.s i :: as) (v :: vs) U υ
theorem Pend.len {σ : L2.St} {as vs U υ} (p : Pend σ as vs U υ) : U.length = υ.length := by
  induction p with
  | nil => rfl
  | ex p ih => simp [ih]
  | pk e p ih => exact ih
theorem datL_len {S : List SV} : ∀ {as : List AV} {ds : List D}, datL S as = some ds → as.length = ds.length
  | [], _, h => by cases h; rfl
  | a :: r, ds, h => by
    unfold datL at h
    cases e1 : a.dat? S with
    | none => rw [e1] at h; cases h
    | some d =>
      cases e2 : datL S r with
      | none => rw [e1, e2] at h; cases h
      | some ds' =>
        rw [e1, e2] at h
        cases h
        simp [datL_len e2]
section
variable {C : Ct} {T U : List SV} {τ υ : List (Option V)} {σ : L2.St} {S : List SV} {H Hs : Hp}
theorem Rep.lenS (hu : U.length = υ.length) (R : C.Rep (U ++ S) (υ ++ σ) H Hs) : S.length = σ.length := by
  have := R.len
  simp at this
  omega
theorem Pend.views (hl : T.length = τ.length) {as : List AV} {vs : List V} (p : Pend σ as vs U υ) : ∀ {ds : List D} {U0 : List SV} {υ0 : List (Option V)}, U0.length = υ0.length → C.Rep (U0 ++ (U ++ (T ++ S))) (υ0 ++ (υ ++ (τ ++ σ))) H Hs → datL S as = some ds → ViewL C.K C.w H Hs ds vs := by
  induction p with
  | nil => intro ds U0 υ0 h0 R e; cases e; exact .nil
  | @ex as vs U υ r v p ih =>
    intro ds U0 υ0 h0 R e
    unfold datL at e
    cases e1 : AV.dat? S (.v r) with
    | none => rw [e1] at e; cases e
    | some d =>
      cases e2 : datL S as with
      | none => rw [e1, e2] at e; cases e
      | some ds' =>
        rw [e1, e2] at e
        cases e
        refine .cons ?_ (ih (U0 := U0 ++ [r]) (υ0 := υ0 ++ [some v]) (by simp [h0]) (by simpa using R) e2)
        have hi : (U0 ++ (r :: U ++ (T ++ S)))[U0.length]? = some r := by simp
        obtain ⟨v', ev, q⟩ := Rep.view R hi e1
        have : (υ0 ++ (some v :: υ ++ (τ ++ σ)))[U0.length]? = some (some v) := by rw [h0]; simp
        rw [this] at ev
        cases ev
        exact q
  | @pk as vs U υ i v hv p ih =>
    intro ds U0 υ0 h0 R e
    unfold datL at e
    cases e1 : AV.dat? S (.s i) with
    | none => rw [e1] at e; cases e
    | some d =>
      cases e2 : datL S as with
      | none => rw [e1, e2] at e; cases e
      | some ds' =>
        rw [e1, e2] at e
        cases e
        refine .cons ?_ (ih h0 R e2)
        have e1' : S[i]?.bind SV.dat? = some d := e1
        cases es : S[i]? with
        | none => rw [es] at e1'; cases e1'
        | some s =>
          rw [es] at e1'
          have hlen := p.len
          have R1 : C.Rep S σ H Hs := (R.dropU h0).dropU hlen |>.dropU hl
          obtain ⟨v', ev, q⟩ := Rep.view R1 es e1'
          rw [hv] at ev
          cases ev
          exact q
/-- arguments run, from the left -/
theorem tAs_run {γ : Type} (hl : T.length = τ.length) {Q : γ → List SV → Prop} : ∀ {fs : List AF} {as0 : List AV} {vs0 : List V} {U : List SV} {υ : List (Option V)} {S : List SV} {H Hs : Hp} {k : List AV → M γ} {R1 : List V → Hp → Prop},
    Pend σ as0 vs0 U υ → C.Rep (U ++ (T ++ S)) (υ ++ (τ ++ σ)) H Hs → C.Goes T τ σ ((runAs fs S).bind k) Q →
    (∀ as vs U' υ' S' H' Hs', Pend σ (as.reverse ++ as0) (vs.reverse ++ vs0) U' υ' → C.Rep (U' ++ (T ++ S')) (υ' ++ (τ ++ σ)) H' Hs' → C.Goes T τ σ (k as S') Q → R1 vs H') → tAs C fs σ H R1
  | [], as0, vs0, U, υ, S, H, Hs, k, R1, p, R, g, h => h [] [] U υ S H Hs p R g
  | .ex f :: r, as0, vs0, U, υ, S, H, Hs, k, R1, p, R, g, h => by
    have g' : C.Goes T τ σ ((f S).bind fun a S1 => (runAs r S1).bind fun as S2 => k (.v a :: as) S2) Q := by
      have e : ((runAs (.ex f :: r) S).bind k) = ((f S).bind fun a S1 => (runAs r S1).bind fun as S2 => k (.v a :: as) S2) := by
        show (((f S).bind fun a S1 => (runAs r S1).bind fun as S2 => .ok (.v a :: as) S2).bind k) = _
        cases f S with
        | ok a S1 =>
          show (((runAs r S1).bind fun as S2 => .ok (.v a :: as) S2).bind k) = ((runAs r S1).bind fun as S2 => k (.v a :: as) S2)
          cases runAs r S1 <;> rfl
        | exc c d S1 => rfl
        | stuck => rfl
      rw [← e]; exact g
    refine tD_bind p.len hl R g' fun a S1 v H1 Hs1 R' g1 => ?_
    refine tAs_run hl (Q := Q) (.ex p) R' g1 fun as vs U' υ' S' H' Hs' p' R'' g2 => ?_
    exact h (.v a :: as) (v :: vs) U' υ' S' H' Hs' (by simpa using p') R'' g2
  | .pk i :: r, as0, vs0, U, υ, S, H, Hs, k, R1, p, R, g, h => by
    have g1 : C.Goes T τ σ ((match S[i]?.bind SV.dat? with
      | some _ => (runAs r S).bind fun as S2 => Res.ok (AV.s i :: as) S2
      | none => Res.stuck).bind k) Q := g
    cases es : S[i]? with
    | none => rw [es] at g1; exact g1.elim
    | some s =>
      cases ed : s.dat? with
      | none =>
        rw [es] at g1
        have g2 : C.Goes T τ σ ((match s.dat? with
          | some _ => (runAs r S).bind fun as S2 => Res.ok (AV.s i :: as) S2
          | none => Res.stuck).bind k) Q := g1
        rw [ed] at g2; exact g2.elim
      | some d =>
        rw [es] at g1
        have g2 : C.Goes T τ σ ((match s.dat? with
          | some _ => (runAs r S).bind fun as S2 => Res.ok (AV.s i :: as) S2
          | none => Res.stuck).bind k) Q := g1
        rw [ed] at g2
        have g' : C.Goes T τ σ ((runAs r S).bind fun as S2 => k (.s i :: as) S2) Q := by
          have e : (((runAs r S).bind fun as S2 => Res.ok (AV.s i :: as) S2).bind k) = ((runAs r S).bind fun as S2 => k (.s i :: as) S2) := by
            cases runAs r S <;> rfl
          rw [← e]; exact g2
        have R1 : C.Rep S σ H Hs := (R.dropU p.len).dropU hl
        obtain ⟨v, ev, q⟩ := Rep.view R1 es ed
        refine ⟨v, ev, tAs_run hl (Q := Q) (.pk ev p) R g' fun as vs U' υ' S' H' Hs' p' R'' g2 => ?_⟩
        exact h (.s i :: as) (v :: vs) U' υ' S' H' Hs' (by simpa using p') R'' g2
end
end Ev
end

section
set_option Elab.async false
set_option linter.all false
set_option maxRecDepth 100000
set_option maxHeartbeats 4000000
/-! Ev, part 4: expressions: names, constants, displays, operations on data, tests, and, or, if. -/
namespace Ev
open PySem PySem.Spec PyProof.Rows L2

/-- data handed on: what is in flight is given away -/
def AV.shr? (S : List SV) : AV → Option D
  | .v (.sh d) => some d
  | .v (.ow o) => some o.D
  | .s i => match S[i]? with
    | some (.sh d) => some d
    | _ => none
  | _ => none
def shL (S : List SV) : List AV → Option (List D)
  | [] => some []
  | a :: r => match a.shr? S, shL S r with
    | some d, some ds => some (d :: ds)
    | _, _ => none
theorem ViewL.append {K : PySem.W.Frag} {w : World} {H Hs : Hp} : ∀ {ds es : List D} {vs us : List V}, ViewL K w H Hs ds vs → ViewL K w H Hs es us → ViewL K w H Hs (ds ++ es) (vs ++ us)
  | _, _, _, _, .nil, h => h
  | _, _, _, _, .cons q t, h => .cons q (t.append h)
theorem ViewL.reverse {K : PySem.W.Frag} {w : World} {H Hs : Hp} : ∀ {ds : List D} {vs : List V}, ViewL K w H Hs ds vs → ViewL K w H Hs ds.reverse vs.reverse
  | _, _, .nil => .nil
  | _, _, .cons q t => by rw [List.reverse_cons, List.reverse_cons]; exact t.reverse.append (.cons q .nil)
theorem datL_append {S : List SV} : ∀ {as bs : List AV} {ds es : List D}, datL S as = some ds → datL S bs = some es → datL S (as ++ bs) = some (ds ++ es)
  | [], bs, ds, es, h, h' => by cases h; exact h'
  | a :: r, bs, ds, es, h, h' => by
    unfold datL at h
    cases e1 : a.dat? S with
    | none => rw [e1] at h; cases h
    | some d =>
      cases e2 : datL S r with
      | none => rw [e1, e2] at h; cases h
      | some ds' =>
        rw [e1, e2] at h; cases h
        show datL S (a :: (r ++ bs)) = _
        unfold datL
        rw [e1, datL_append e2 h']; rfl
theorem datL_reverse {S : List SV} : ∀ {as : List AV} {ds : List D}, datL S as = some ds → datL S as.reverse = some ds.reverse
  | [], ds, h => by cases h; rfl
  | a :: r, ds, h => by
    unfold datL at h
    cases e1 : a.dat? S with
    | none => rw [e1] at h; cases h
    | some d =>
      cases e2 : datL S r with
      | none => rw [e1, e2] at h; cases h
      | some ds' =>
        rw [e1, e2] at h; cases h
        rw [List.reverse_cons, List.reverse_cons]
        exact datL_append (datL_reverse e2) (by unfold datL; rw [e1]; rfl)
theorem shL_append {S : List SV} : ∀ {as bs : List AV} {ds es : List D}, shL S as = some ds → shL S bs = some es → shL S (as ++ bs) = some (ds ++ es)
  | [], bs, ds, es, h, h' => by cases h; exact h'
  | a :: r, bs, ds, es, h, h' => by
    unfold shL at h
    cases e1 : a.shr? S with
    | none => rw [e1] at h; cases h
    | some d =>
      cases e2 : shL S r with
      | none => rw [e1, e2] at h; cases h
      | some ds' =>
        rw [e1, e2] at h; cases h
        show shL S (a :: (r ++ bs)) = _
        unfold shL
        rw [e1, shL_append e2 h']; rfl
theorem shL_reverse {S : List SV} : ∀ {as : List AV} {ds : List D}, shL S as = some ds → shL S as.reverse = some ds.reverse
  | [], ds, h => by cases h; rfl
  | a :: r, ds, h => by
    unfold shL at h
    cases e1 : a.shr? S with
    | none => rw [e1] at h; cases h
    | some d =>
      cases e2 : shL S r with
      | none => rw [e1, e2] at h; cases h
      | some ds' =>
        rw [e1, e2] at h; cases h
        rw [List.reverse_cons, List.reverse_cons]
        exact shL_append (shL_reverse e2) (by unfold shL; rw [e1]; rfl)
section
variable {C : Ct} {T U : List SV} {τ υ : List (Option V)} {σ : L2.St} {S : List SV} {H Hs : Hp}
theorem Pend.share (hl : T.length = τ.length) {as : List AV} {vs : List V} (p : Pend σ as vs U υ) : ∀ {ds : List D} {Hs : Hp}, C.Rep (U ++ (T ++ S)) (υ ++ (τ ++ σ)) H Hs → shL S as = some ds →
    ∃ Hs', C.Rep (T ++ S) (τ ++ σ) H Hs' ∧ Sub Hs Hs' ∧ DenL C.K C.w Hs' ds vs := by
  induction p with
  | nil => intro ds Hs R e; cases e; exact ⟨Hs, R, Sub.refl, DenL.nil⟩
  | @ex as vs U υ r v p ih =>
    intro ds Hs R e
    unfold shL at e
    cases e1 : AV.shr? S (.v r) with
    | none => rw [e1] at e; cases e
    | some d =>
      cases e2 : shL S as with
      | none => rw [e1, e2] at e; cases e
      | some ds' =>
        rw [e1, e2] at e; cases e
        obtain ⟨Hs1, R1, s1⟩ := Rep.shr (R : Ev.Rep C.K C.w C.β (r :: (U ++ (T ++ S))) (some v :: (υ ++ (τ ++ σ))) H Hs)
        have er : r.shr = .sh d := by
          cases r with
          | un => cases e1
          | sh d' => cases e1; rfl
          | ow o => cases e1; rfl
          | bo j o => cases e1
        rw [er] at R1
        obtain ⟨v', ev, q⟩ := R1.sh (i := 0) rfl
        cases ev
        obtain ⟨Hs2, R2, s2, q2⟩ := ih R1.tail e2
        exact ⟨Hs2, R2, s1.trans s2, DenL.cons (q.sub s2) q2⟩
  | @pk as vs U υ i v hv p ih =>
    intro ds Hs R e
    unfold shL at e
    cases e1 : AV.shr? S (.s i) with
    | none => rw [e1] at e; cases e
    | some d =>
      cases e2 : shL S as with
      | none => rw [e1, e2] at e; cases e
      | some ds' =>
        rw [e1, e2] at e; cases e
        obtain ⟨Hs2, R2, s2, q2⟩ := ih R e2
        refine ⟨Hs2, R2, s2, DenL.cons ?_ q2⟩
        have R3 : C.Rep S σ H Hs2 := Rep.dropU hl R2
        have es : S[i]? = some (.sh d) := by
          have e1' : (match S[i]? with | some (.sh d) => some d | _ => none) = some d := e1
          cases es : S[i]? with
          | none => rw [es] at e1'; cases e1'
          | some s =>
            cases s <;> rw [es] at e1' <;> cases e1'
            rfl
        obtain ⟨v', ev, q⟩ := R3.sh es
        rw [hv] at ev
        cases ev
        exact q
/-- arguments run, then seen or handed on -/
theorem tAs_use {γ : Type} (hl : T.length = τ.length) {Q : γ → List SV → Prop} {fs : List AF} {k : List AV → M γ} {R1 : List V → Hp → Prop} (R : C.Rep (T ++ S) (τ ++ σ) H Hs) (g : C.Goes T τ σ ((runAs fs S).bind k) Q)
    (h : ∀ as vs S' H' Hs', C.Rep (T ++ S') (τ ++ σ) H' Hs' → (∀ ds, datL S' as = some ds → ViewL C.K C.w H' Hs' ds vs) → (∀ ds, shL S' as = some ds → ∃ Hs'', C.Rep (T ++ S') (τ ++ σ) H' Hs'' ∧ DenL C.K C.w Hs'' ds vs) →
      C.Goes T τ σ (k as S') Q → R1 vs H') : tAs C fs σ H R1 := by
  refine tAs_run hl (Q := Q) (U := []) (υ := []) .nil R g fun as vs U' υ' S' H' Hs' p R' g' => ?_
  rw [List.append_nil, List.append_nil] at p
  refine h as vs S' H' Hs' (R'.dropU p.len) (fun ds e => ?_) (fun ds e => ?_) g'
  · have := p.views (U0 := []) (υ0 := []) hl rfl R' (datL_reverse e)
    simpa using this.reverse
  · obtain ⟨Hs2, R2, _, q⟩ := p.share hl R' (shL_reverse e)
    exact ⟨Hs2, R2, by simpa using q.reverse⟩
end

/-! ### argument lists -/
def PDA (X : Cx) (β : Nat → Addr) (W : WX) (es : List Expr) (fs : List AF) : Prop := PA X es (tAs (cx X β W) fs)
def PF (X : Cx) (β : Nat → Addr) (W : WX) (e : Expr) (f : AF) : Prop := PE X e (tAF (cx X β W) f)
def isStar : Expr → Bool
  | .Starred .. => true
  | _ => false
theorem star_cons {e : Expr} {es : List Expr} {env : Env} (h : isStar e = false) : starEach (e :: es) env = (false, eval e env) :: starEach es env := by
  cases e <;> first | rfl | cases h
section
variable {X : Cx} {β : Nat → Addr} {W : WX}
theorem pda_nil : PDA X β W [] [] := pa_nil
theorem pda_cons {e : Expr} {es : List Expr} {f : AF} {fs : List AF} (hs : isStar e = false) (h : PF X β W e f) (t : PDA X β W es fs) : PDA X β W (e :: es) (f :: fs) := pa_cons h t (star_cons hs)
theorem pf_ex {e : Expr} {f : M SV} (h : PD X β W e f) : PF X β W e (.ex f) := h
theorem pf_pk {i : Nat} {x : Str} {pos : Pos} (hN : X.N[i]? = some x) (hv : Vis X.env.scope x) (h1 : (x == ("__debug__" : Str)) = false) (h2 : (x == ("__classdict__" : Str)) = false) : PF X β W (.Name x pos) (.pk i) := pe_var hN hv h1 h2

/-! ### names, constants -/
def varM (i : Nat) : M SV := fun S => match S[i]? with
  | some (.sh d) => .ok (.sh d) S
  | _ => .stuck
def conM (d : D) : M SV := fun S => .ok (.sh d) S
theorem Rep.push0 {C : Ct} {T S : List SV} {τ : List (Option V)} {σ : L2.St} {H Hs : Hp} {d : D} {v : V} (R : C.Rep (T ++ S) (τ ++ σ) H Hs) (q : Den C.K C.w Hs d v) : C.Rep (.sh d :: (T ++ S)) (some v :: (τ ++ σ)) H Hs := Rep.push_sh R q
theorem pd_var {i : Nat} {x : Str} {pos : Pos} (hN : X.N[i]? = some x) (hv : Vis X.env.scope x) (h1 : (x == ("__debug__" : Str)) = false) (h2 : (x == ("__classdict__" : Str)) = false) : PD X β W (.Name x pos) (varM i) := by
  refine PE.imp (pe_var hN hv h1 h2) fun σ H Q ⟨S, T, τ, Hs, hl, R, g⟩ => ?_
  unfold varM at g
  cases es : S[i]? with
  | none => rw [es] at g; exact g.elim
  | some s =>
    cases s with
    | sh d =>
      rw [es] at g
      have R1 : (cx X β W).Rep S σ H Hs := Rep.dropU hl R
      obtain ⟨v, ev, q⟩ := R1.sh es
      exact ⟨v, ev, g v H Hs (Rep.push0 R q)⟩
    | un => rw [es] at g; exact g.elim
    | ow o => rw [es] at g; exact g.elim
    | bo j o => rw [es] at g; exact g.elim
/-- an atom as a value -/
def atom : D → Option V
  | .non => some .non
  | .bl b => some (.bl b)
  | .int i => some (.int i)
  | .str x => some (.str x)
  | _ => none
theorem atom_den {K w H d v} (h : atom d = some v) : Den K w H d v := by
  cases d <;> cases h
  · exact Den.non.mpr rfl
  · exact Den.bl.mpr rfl
  · exact Den.int.mpr rfl
  · exact Den.str.mpr rfl
theorem pd_const {e : Expr} {d : D} {v : V} (ha : atom d = some v) (h : PE X e (tC v)) : PD X β W e (conM d) :=
  PE.imp h fun σ H Q ⟨S, T, τ, Hs, hl, R, g⟩ => g v H Hs (Rep.push0 R (atom_den ha))

/-! ### operations -/
def opM (f : List D → Option SV) (fs : List AF) : M SV := fun S => (runAs fs S).bind fun as S' => match datL S' as with
  | some ds => (match f ds with
    | some r => .ok r S'
    | none => .stuck)
  | none => .stuck
def OkOp (C : Ct) (r : List V → Hp → VK → Prop) (f : List D → Option SV) : Prop :=
  ∀ (T : List SV) (τ : List (Option V)) (H Hs : Hp) (vs : List V) (ds : List D) (sv : SV) (Q : VK), C.Rep T τ H Hs → ViewL C.K C.w H Hs ds vs → f ds = some sv →
    (∀ v H' Hs', C.Rep (sv :: T) (some v :: τ) H' Hs' → Q v H') → r vs H Q
theorem tAs_op {r : List V → Hp → VK → Prop} {f : List D → Option SV} {fs : List AF} {σ : L2.St} {H : Hp} {Q : VK} (ok : OkOp (cx X β W) r f) (h : tD (cx X β W) (opM f fs) σ H Q) : tAs (cx X β W) fs σ H fun vs H' => r vs H' Q := by
  obtain ⟨S, T, τ, Hs, hl, R, g⟩ := h
  refine tAs_use hl R g fun as vs S' H' Hs' R' hv hs g' => ?_
  cases e : datL S' as with
  | none => rw [e] at g'; exact g'.elim
  | some ds =>
    rw [e] at g'
    have g2 : (cx X β W).Goes T τ σ (match f ds with
      | some r => .ok r S'
      | none => .stuck) _ := g'
    cases ef : f ds with
    | none => rw [ef] at g2; exact g2.elim
    | some sv =>
      rw [ef] at g2
      exact ok (T ++ S') (τ ++ σ) H' Hs' vs ds sv Q R' (hv ds e) ef g2
/-- a two-place rule as a rule on lists -/
def two (r : R2) : List V → Hp → VK → Prop := fun vs H Q => match vs with
  | [x, y] => r x y H Q
  | _ => False
def onee (r : V → Hp → VK → Prop) : List V → Hp → VK → Prop := fun vs H Q => match vs with
  | [x] => r x H Q
  | _ => False
theorem pd_bin {op : Operator} {r : R2} {f : List D → Option SV} {a b : Expr} {fa fb : AF} {pos : Pos} (ho : OpR X (binaryOp op) r) (ok : OkOp (cx X β W) (two r) f) (ha : PF X β W a fa) (hb : PF X β W b fb) : PD X β W (.BinOp a op b pos) (opM f [fa, fb]) :=
  PE.imp (pe_op ho ha hb) fun _ _ _ h => tAs_op ok h
theorem pd_un {op : UnaryOp} {r : V → Hp → VK → Prop} {f : List D → Option SV} {a : Expr} {fa : AF} {pos : Pos} (ho : UnR X (unaryOp op) r) (ok : OkOp (cx X β W) (onee r) f) (ha : PF X β W a fa) : PD X β W (.UnaryOp op a pos) (opM f [fa]) :=
  PE.imp (pe_un ho ha) fun _ _ _ h => tAs_op ok h
theorem pd_cmp {op : CmpOp} {r : R2} {f : List D → Option SV} {a b : Expr} {fa fb : AF} {pos : Pos} (ho : OpR X (compareOp op) r) (ok : OkOp (cx X β W) (two r) f) (ha : PF X β W a fa) (hb : PF X β W b fb) (hm : behindInMarks op b = false) : PD X β W (.Compare a [op] [b] pos) (opM f [fa, fb]) :=
  PE.imp (pe_cmpR ho ha hb hm) fun _ _ _ h => tAs_op ok h
theorem pd_ix {r : R2} {f : List D → Option SV} {a b : Expr} {fa fb : AF} {pos : Pos} (hr : IxR X r) (ok : OkOp (cx X β W) (two r) f) (ha : PF X β W a fa) (hb : PF X β W b fb) (hs : PlainIx b) : PD X β W (.Subscript a b pos) (opM f [fa, fb]) :=
  PE.imp (pe_ix hr ha hb hs) fun _ _ _ h => tAs_op ok h
theorem pd_callB {id : String} {x : Str} {r : List V → Hp → VK → Prop} {f : List D → Option SV} {e : Expr} {es : List Expr} {fs : List AF} {p pos : Pos} (hc : CallR X (.builtin id) r) (ok : OkOp (cx X β W) r f) (hg : Gl X x) (hm : X.mg x = none) (hv : bootBuiltins x = some (.builtin id))
    (ha : PDA X β W (e :: es) fs) (hn : x ≠ "__name__") (hdb : (x == ("__debug__" : Str)) = false) (he : starEach (e :: es) X.env = (false, eval e X.env) :: starEach es X.env) (hpl : (backTo pos (starEach es X.env)).any (·.1) = false) :
    PD X β W (.Call (.Name x p) (e :: es) [] pos) (opM f fs) :=
  PE.imp (pe_callB hc hg hm hv ha hn hdb he hpl) fun _ _ _ h => tAs_op ok h
theorem pd_callTy {T : String} {x : Str} {r : List V → Hp → VK → Prop} {f : List D → Option SV} {e : Expr} {es : List Expr} {fs : List AF} {p pos : Pos} (hc : CallR X (.type T) r) (ok : OkOp (cx X β W) r f) (hg : Gl X x) (hm : X.mg x = none) (hv : bootBuiltins x = some (.type T))
    (ha : PDA X β W (e :: es) fs) (hn : x ≠ "__name__") (hdb : (x == ("__debug__" : Str)) = false) (he : starEach (e :: es) X.env = (false, eval e X.env) :: starEach es X.env) (hpl : (backTo pos (starEach es X.env)).any (·.1) = false) :
    PD X β W (.Call (.Name x p) (e :: es) [] pos) (opM f fs) :=
  PE.imp (pe_callTy hc hg hm hv ha hn hdb he hpl) fun _ _ _ h => tAs_op ok h
end
end Ev
end

section
set_option Elab.async false
set_option linter.all false
set_option maxRecDepth 100000
set_option maxHeartbeats 4000000
/-! Ev, part 5: displays, tests, and, or, not, if. -/
namespace Ev
open PySem PySem.Spec PyProof.Rows L2
section
variable {X : Cx} {β : Nat → Addr} {W : WX}
/-! ### displays -/
def tupM (fs : List AF) : M SV := fun S => (runAs fs S).bind fun as S' => match shL S' as with
  | some ds => if ds.length ≤ sizeLine then .ok (.sh (.tup ds)) S' else .stuck
  | none => .stuck
def lstM (fs : List AF) : M SV := fun S => (runAs fs S).bind fun as S' => match shL S' as with
  | some ds => if ds.length ≤ sizeLine then .ok (.ow (.l ds)) S' else .stuck
  | none => .stuck
theorem Rep.new_tup {C : Ct} {T : List SV} {τ : List (Option V)} {H Hs : Hp} {p : Addr} {ob : Obj} {ds : List D} {vs : List V} (R : C.Rep T τ H Hs) (ho : ob.dict = none) (hp : H p = none) (q : DenL C.K C.w Hs ds vs) :
    C.Rep (.sh (.tup ds) :: T) (some (.ref p) :: τ) (upd H p (.frz ob (.tup vs))) (upd Hs p (.frz ob (.tup vs))) := by
  have n := Rep.hs_none R hp
  refine Rep.push_sh (Rep.new R hp) ?_
  rw [Den]
  exact ⟨p, vs, rfl, ⟨ob, upd_same, ho⟩, q.sub (Sub.upd n)⟩
theorem Rep.new_lst {C : Ct} {T : List SV} {τ : List (Option V)} {H Hs : Hp} {p : Addr} {ds : List D} {vs : List V} (R : C.Rep T τ H Hs) (hp : H p = none) (q : DenL C.K C.w Hs ds vs) :
    C.Rep (.ow (.l ds) :: T) (some (.ref p) :: τ) (upd H p (.lst vs)) Hs := Rep.new_ow R hp ⟨rfl, vs, upd_same, q⟩
theorem pd_tup {es : List Expr} {fs : List AF} {k : Nat} {pos : Pos} (h : PDA X β W es fs) : PD X β W (.Tuple es k pos) (tupM fs) := by
  refine PE.imp (pe_tupN h) fun σ H Q ⟨S, T, τ, Hs, hl, R, g⟩ => ?_
  refine tAs_use hl R g fun as vs S' H' Hs' R' hv hs g' => ?_
  cases e : shL S' as with
  | none => rw [e] at g'; exact g'.elim
  | some ds =>
    rw [e] at g'
    have g2 : (cx X β W).Goes T τ σ (if ds.length ≤ sizeLine then Res.ok (SV.sh (.tup ds)) S' else Res.stuck) _ := g'
    obtain ⟨Hs2, R2, q⟩ := hs ds e
    by_cases hz : ds.length ≤ sizeLine
    · rw [if_pos hz] at g2
      refine ⟨by rw [← q.len]; exact hz, fun p ob ho hp => g2 _ _ _ (R2.new_tup ho hp q)⟩
    · rw [if_neg hz] at g2; exact g2.elim
theorem pd_lst {es : List Expr} {fs : List AF} {pos : Pos} (h : PDA X β W es fs) : PD X β W (.List es pos) (lstM fs) := by
  refine PE.imp (pe_lst h) fun σ H Q ⟨S, T, τ, Hs, hl, R, g⟩ => ?_
  refine tAs_use hl R g fun as vs S' H' Hs' R' hv hs g' => ?_
  cases e : shL S' as with
  | none => rw [e] at g'; exact g'.elim
  | some ds =>
    rw [e] at g'
    have g2 : (cx X β W).Goes T τ σ (if ds.length ≤ sizeLine then Res.ok (SV.ow (.l ds)) S' else Res.stuck) _ := g'
    obtain ⟨Hs2, R2, q⟩ := hs ds e
    by_cases hz : ds.length ≤ sizeLine
    · rw [if_pos hz] at g2
      refine ⟨by rw [← q.len]; exact hz, fun p hp => g2 _ _ _ (R2.new_lst hp q)⟩
    · rw [if_neg hz] at g2; exact g2.elim

/-! ### tests -/
def SV.bool? : SV → Option Bool
  | .sh (.bl b) => some b
  | _ => none
def asT (f : M SV) : M Bool := fun S => (f S).bind fun r S' => match r.bool? with
  | some b => .ok b S'
  | none => .stuck
theorem SV.bool_eq {r : SV} {b : Bool} (h : r.bool? = some b) : r = .sh (.bl b) := by
  cases r with
  | sh d => cases d <;> cases h; rfl
  | un => cases h
  | ow o => cases h
  | bo j o => cases h
theorem Rep.bl {C : Ct} {T : List SV} {τ : List (Option V)} {H Hs : Hp} {v : V} {b : Bool} (R : C.Rep (.sh (.bl b) :: T) (some v :: τ) H Hs) : v = .bl b := by
  obtain ⟨v', ev, q⟩ := Rep.sh (i := 0) R rfl
  cases ev
  exact Den.bl.mp q
/-- a value that is a bool, as a test; h1: what an expression's test is where it is no comparison -/
theorem ptd_tD {f : M SV} {σ : L2.St} {H : Hp} {Q : Bool → Hp → Prop} (h : tDT (cx X β W) (asT f) σ H Q) : tB (tD (cx X β W) f) σ H Q := by
  obtain ⟨S, T, τ, Hs, hl, R, g⟩ := h
  refine tD_bind (U := []) (υ := []) rfl hl R g fun r S1 v H1 Hs1 R1 g1 => ?_
  cases e : r.bool? with
  | none => rw [e] at g1; exact g1.elim
  | some b =>
    rw [e] at g1
    have er := SV.bool_eq e
    subst er
    exact ⟨b, Rep.bl (C := cx X β W) R1, g1 H1 Hs1 (Rep.tail R1)⟩
theorem ptd_val {e : Expr} {f : M SV} (h : PD X β W e f) (he : ∀ whole, isTrue e X.env whole = (do let v ← whole; standAt e.pos; holding [v] (truthy v))) : PTD X β W e (asT f) :=
  PT.imp (pt_val h he) fun _ _ _ q => ptd_tD q
theorem ptd_cmp {op : CmpOp} {r : R2} {f : List D → Option SV} {a b : Expr} {fa fb : AF} {pos : Pos} (ho : OpR X (compareOp op) r) (ok : OkOp (cx X β W) (two r) f) (ha : PF X β W a fa) (hb : PF X β W b fb) (hm : behindInMarks op b = false) : PTD X β W (.Compare a [op] [b] pos) (asT (opM f [fa, fb])) :=
  PT.imp (pt_cmpR ho ha hb hm) fun σ H Q q => by
    obtain ⟨S, T, τ, Hs, hl, R, g⟩ := ptd_tD q
    exact tAs_op ok ⟨S, T, τ, Hs, hl, R, g⟩

/-! ### and, or, not, if -/
def andT (f g : M Bool) : M Bool := fun S => (f S).bind fun b S' => if b = true then g S' else .ok false S'
def orT (f g : M Bool) : M Bool := fun S => (f S).bind fun b S' => if b = true then .ok true S' else g S'
def notT (f : M Bool) : M Bool := fun S => (f S).bind fun b S' => .ok (!b) S'
theorem pwd_and1 {a : Expr} {f : M Bool} {pos : Pos} (h : PTD X β W a f) : PWD X β W (.BoolOp .And [a] pos) f := pw_and1 h
theorem pwd_or1 {a : Expr} {f : M Bool} {pos : Pos} (h : PTD X β W a f) : PWD X β W (.BoolOp .Or [a] pos) f := pw_or1 h
theorem pwd_and {a b : Expr} {rest : List Expr} {f g : M Bool} {pos : Pos} (h : PTD X β W a f) (h' : PWD X β W (.BoolOp .And (b :: rest) pos) g) : PWD X β W (.BoolOp .And (a :: b :: rest) pos) (andT f g) := by
  refine PW.imp (pw_and h h') fun σ H Q ⟨S, T, τ, Hs, hl, R, q⟩ => ?_
  refine tDT_bind (U := []) (υ := []) rfl hl R q fun c S1 H1 Hs1 R1 g1 => ?_
  cases c with
  | true => exact ⟨S1, T, τ, Hs1, hl, R1, g1⟩
  | false => exact g1 H1 Hs1 R1
theorem pwd_or {a b : Expr} {rest : List Expr} {f g : M Bool} {pos : Pos} (h : PTD X β W a f) (h' : PWD X β W (.BoolOp .Or (b :: rest) pos) g) : PWD X β W (.BoolOp .Or (a :: b :: rest) pos) (orT f g) := by
  refine PW.imp (pw_or h h') fun σ H Q ⟨S, T, τ, Hs, hl, R, q⟩ => ?_
  refine tDT_bind (U := []) (υ := []) rfl hl R q fun c S1 H1 Hs1 R1 g1 => ?_
  cases c with
  | true => exact g1 H1 Hs1 R1
  | false => exact ⟨S1, T, τ, Hs1, hl, R1, g1⟩
theorem ptd_not {a : Expr} {f : M Bool} {pos : Pos} (h : PTD X β W a f) : PTD X β W (.UnaryOp .Not a pos) (notT f) := by
  refine PT.imp (pt_not h) fun σ H Q ⟨S, T, τ, Hs, hl, R, q⟩ => ?_
  refine tDT_bind (U := []) (υ := []) rfl hl R q fun c S1 H1 Hs1 R1 g1 => ?_
  exact g1 H1 Hs1 R1
theorem PWD.ptd {e : Expr} {f : M Bool} (h : PWD X β W e f) : PTD X β W e f := PW.pt h
/-- .. as values -/
def andM (f g : M SV) : M SV := fun S => (f S).bind fun r S' => match r.bool? with
  | some true => g S'
  | some false => .ok (.sh (.bl false)) S'
  | none => .stuck
def orM (f g : M SV) : M SV := fun S => (f S).bind fun r S' => match r.bool? with
  | some true => .ok (.sh (.bl true)) S'
  | some false => g S'
  | none => .stuck
def notM (f : M SV) : M SV := fun S => (f S).bind fun r S' => match r.bool? with
  | some b => .ok (.sh (.bl (!b))) S'
  | none => .stuck
theorem pd_one {op : BoolOp} {a : Expr} {f : M SV} {pos : Pos} (h : PD X β W a f) : PD X β W (.BoolOp op [a] pos) f := pe_one h
theorem pd_and {a b : Expr} {rest : List Expr} {f g : M SV} {pos : Pos} (h : PD X β W a f) (h' : PD X β W (.BoolOp .And (b :: rest) pos) g) : PD X β W (.BoolOp .And (a :: b :: rest) pos) (andM f g) := by
  refine PE.imp (pe_and h h') fun σ H Q ⟨S, T, τ, Hs, hl, R, q⟩ => ?_
  refine tD_bind (U := []) (υ := []) rfl hl R q fun r S1 v H1 Hs1 R1 g1 => ?_
  cases e : r.bool? with
  | none => rw [e] at g1; exact g1.elim
  | some b =>
    rw [e] at g1
    have er := SV.bool_eq e
    subst er
    refine ⟨b, Rep.bl (C := cx X β W) R1, ?_⟩
    cases b with
    | true => exact ⟨S1, T, τ, Hs1, hl, Rep.tail R1, g1⟩
    | false => exact g1 (.bl false) H1 Hs1 (Rep.push0 (C := cx X β W) (Rep.tail R1) (Den.bl.mpr rfl))
theorem pd_or {a b : Expr} {rest : List Expr} {f g : M SV} {pos : Pos} (h : PD X β W a f) (h' : PD X β W (.BoolOp .Or (b :: rest) pos) g) : PD X β W (.BoolOp .Or (a :: b :: rest) pos) (orM f g) := by
  refine PE.imp (pe_or h h') fun σ H Q ⟨S, T, τ, Hs, hl, R, q⟩ => ?_
  refine tD_bind (U := []) (υ := []) rfl hl R q fun r S1 v H1 Hs1 R1 g1 => ?_
  cases e : r.bool? with
  | none => rw [e] at g1; exact g1.elim
  | some b =>
    rw [e] at g1
    have er := SV.bool_eq e
    subst er
    refine ⟨b, Rep.bl (C := cx X β W) R1, ?_⟩
    cases b with
    | false => exact ⟨S1, T, τ, Hs1, hl, Rep.tail R1, g1⟩
    | true => exact g1 (.bl true) H1 Hs1 (Rep.push0 (C := cx X β W) (Rep.tail R1) (Den.bl.mpr rfl))
theorem pd_not {a : Expr} {f : M SV} {pos : Pos} (h : PD X β W a f) : PD X β W (.UnaryOp .Not a pos) (notM f) := by
  refine PE.imp (pe_not h) fun σ H Q ⟨S, T, τ, Hs, hl, R, q⟩ => ?_
  refine tD_bind (U := []) (υ := []) rfl hl R q fun r S1 v H1 Hs1 R1 g1 => ?_
  cases e : r.bool? with
  | none => rw [e] at g1; exact g1.elim
  | some b =>
    rw [e] at g1
    have er := SV.bool_eq e
    subst er
    exact ⟨b, Rep.bl (C := cx X β W) R1, g1 _ H1 Hs1 (Rep.push0 (C := cx X β W) (Rep.tail R1) (Den.bl.mpr rfl))⟩
def ifM (c : M Bool) (f g : M SV) : M SV := fun S => (c S).bind fun b S' => if b = true then f S' else g S'
theorem pd_if {c a b : Expr} {fc : M Bool} {f g : M SV} {pos : Pos} (hc : PTD X β W c fc) (ha : PD X β W a f) (hb : PD X β W b g) : PD X β W (.IfExp c a b pos) (ifM fc f g) := by
  refine PE.imp (pe_ifExp hc ha hb) fun σ H Q ⟨S, T, τ, Hs, hl, R, q⟩ => ?_
  refine tDT_bind (U := []) (υ := []) rfl hl R q fun b S1 H1 Hs1 R1 g1 => ?_
  cases b with
  | true => exact ⟨S1, T, τ, Hs1, hl, R1, g1⟩
  | false => exact ⟨S1, T, τ, Hs1, hl, R1, g1⟩
end
end Ev
end

section
set_option Elab.async false
set_option linter.all false
set_option maxRecDepth 100000
set_option maxHeartbeats 4000000
/-! Ev, part 6: statements: blocks, stores, return, if, while. -/
namespace Ev
open PySem PySem.Spec PyProof.Rows L2

inductive Fl where
  | nx | rt (r : SV) | bk | ct
abbrev MS := M Fl
def Ct.GoesS (C : Ct) (T : List SV) (τ : List (Option V)) (r : Res Fl) (D : Ends) : Prop :=
  match r with
  | .ok .nx S' => ∀ σ' H' Hs', C.Rep (T ++ S') (τ ++ σ') H' Hs' → D.nx σ' H'
  | .ok (.rt r) S' => ∀ v σ' H' Hs', C.Rep (r :: (T ++ S')) (some v :: (τ ++ σ')) H' Hs' → D.rt v H'
  | .ok .bk S' => ∀ σ' H' Hs', C.Rep (T ++ S') (τ ++ σ') H' Hs' → D.bk σ' H'
  | .ok .ct S' => ∀ σ' H' Hs', C.Rep (T ++ S') (τ ++ σ') H' Hs' → D.ct σ' H'
  | .exc c d S' => ∀ σ', C.Out T τ σ' c d S'
  | .stuck => False
def tS (C : Ct) (g : MS) : TS := fun D σ H => ∃ S T τ Hs, T.length = τ.length ∧ C.Rep (T ++ S) (τ ++ σ) H Hs ∧ C.GoesS T τ (g S) D
def SD (X : Cx) (β : Nat → Addr) (W : WX) (st : Stmt) (g : MS) : Prop := PS X st (tS (cx X β W) g)
def SDs (X : Cx) (β : Nat → Addr) (W : WX) (sts : List Stmt) (g : MS) : Prop := PSs X sts (tS (cx X β W) g)

section
variable {C : Ct} {T U : List SV} {τ υ : List (Option V)} {σ : L2.St} {S : List SV} {H Hs : Hp}
/-- an expression's run in a statement -/
theorem tD_bindS {f : M SV} {k : SV → MS} {D : Ends} {Q1 : VK} (hl : T.length = τ.length) (R : C.Rep (T ++ S) (τ ++ σ) H Hs) (g : C.GoesS T τ ((f S).bind k) D)
    (h : ∀ r S1 v H1 Hs1, C.Rep (r :: (T ++ S1)) (some v :: (τ ++ σ)) H1 Hs1 → C.GoesS T τ (k r S1) D → Q1 v H1) : tD C f σ H Q1 := by
  refine ⟨S, T, τ, Hs, hl, R, ?_⟩
  cases e : f S with
  | ok r S1 => rw [e] at g; exact fun v H' Hs' R' => h r S1 v H' Hs' R' g
  | exc c d S1 => rw [e] at g; exact g σ
  | stuck => rw [e] at g; exact g
theorem tDT_bindS {f : M Bool} {k : Bool → MS} {D : Ends} {Q1 : Bool → Hp → Prop} (hl : T.length = τ.length) (R : C.Rep (T ++ S) (τ ++ σ) H Hs) (g : C.GoesS T τ ((f S).bind k) D)
    (h : ∀ b S1 H1 Hs1, C.Rep (T ++ S1) (τ ++ σ) H1 Hs1 → C.GoesS T τ (k b S1) D → Q1 b H1) : tDT C f σ H Q1 := by
  refine ⟨S, T, τ, Hs, hl, R, ?_⟩
  cases e : f S with
  | ok r S1 => rw [e] at g; exact fun H' Hs' R' => h r S1 H' Hs' R' g
  | exc c d S1 => rw [e] at g; exact g σ
  | stuck => rw [e] at g; exact g
theorem Ct.OutS.deeper {c : Str} {d : D} {S' : List SV} (hl : U.length = υ.length) (o : ∀ σ, C.Out T τ σ c d S') : ∀ σ, C.Out (U ++ T) (υ ++ τ) σ c d S' := fun σ => Ct.Out.deeper hl (o σ)
/-- the value at the head goes to slot i -/
theorem Rep.store {K : PySem.W.Frag} {w : World} {β : Nat → Addr} {r : SV} {x : Option V} {i : Nat} (hl : T.length = τ.length) (R : Ev.Rep K w β (r :: (T ++ S)) (x :: (τ ++ σ)) H Hs) : Ev.Rep K w β (T ++ S.set i r) (τ ++ σ.set i x) H Hs := by
  have hS : S.length = σ.length := by have := R.len; simp at this; omega
  refine R.sel (fun j => if j = T.length + i then 0 else j + 1) (by simp [hl, hS]) (fun j hj => ?_) (fun a b ha hb e => ?_)
  · have hj' : j < T.length + S.length := by simpa using hj
    by_cases hji : j = T.length + i
    · subst hji
      have hi : i < S.length := by omega
      have hi' : i < σ.length := by omega
      refine ⟨by simp, ?_, ?_⟩
      · rw [if_pos rfl, List.getElem?_append_right (by omega), show T.length + i - T.length = i by omega, List.getElem?_set_self hi]; rfl
      · rw [if_pos rfl, List.getElem?_append_right (by omega), show T.length + i - τ.length = i by omega, List.getElem?_set_self hi']; rfl
    · refine ⟨by rw [if_neg hji]; simp; omega, ?_, ?_⟩
      · rw [if_neg hji, List.getElem?_cons_succ]
        by_cases hjt : j < T.length
        · rw [List.getElem?_append_left hjt, List.getElem?_append_left hjt]
        · rw [List.getElem?_append_right (by omega), List.getElem?_append_right (by omega), List.getElem?_set_ne (by omega)]
      · rw [if_neg hji, List.getElem?_cons_succ]
        by_cases hjt : j < τ.length
        · rw [List.getElem?_append_left hjt, List.getElem?_append_left hjt]
        · rw [List.getElem?_append_right (by omega), List.getElem?_append_right (by omega), List.getElem?_set_ne (by omega)]
  · have e' : (if a = T.length + i then 0 else a + 1) = (if b = T.length + i then 0 else b + 1) := e
    split at e' <;> split at e' <;> omega
/-- slot i is forgotten, x whatever -/
theorem Rep.unset {K : PySem.W.Frag} {w : World} {β : Nat → Addr} {x : Option V} {i : Nat} (hl : T.length = τ.length) (R : Ev.Rep K w β (T ++ S) (τ ++ σ) H Hs) : Ev.Rep K w β (T ++ S.set i .un) (τ ++ σ.set i x) H Hs := Rep.store hl R.push_un
/-- slot i is taken to the head -/
theorem Rep.take {K : PySem.W.Frag} {w : World} {β : Nat → Addr} {i : Nat} {s : SV} {x : Option V} (hl : T.length = τ.length) (R : Ev.Rep K w β (T ++ S) (τ ++ σ) H Hs) (es : S[i]? = some s) (ex : σ[i]? = some x) : Ev.Rep K w β (s :: (T ++ S.set i .un)) (x :: (τ ++ σ.set i none)) H Hs := by
  have hS : S.length = σ.length := by have := R.len; simp at this; omega
  have hi : i < S.length := (List.getElem?_eq_some_iff.mp es).1
  have hi' : i < σ.length := by omega
  have R' := R.push_un (x := none)
  refine R'.sel (fun j => match j with | 0 => T.length + i + 1 | j + 1 => if j = T.length + i then 0 else j + 1) (by simp [hl, hS]) (fun j hj => ?_) (fun a b ha hb e => ?_)
  · cases j with
    | zero =>
      refine ⟨by simp; omega, ?_, ?_⟩
      · show some s = (SV.un :: (T ++ S))[T.length + i + 1]?
        rw [List.getElem?_cons_succ, List.getElem?_append_right (by omega), show T.length + i - T.length = i by omega, es]
      · show some x = (none :: (τ ++ σ))[T.length + i + 1]?
        rw [List.getElem?_cons_succ, List.getElem?_append_right (by omega), show T.length + i - τ.length = i by omega, ex]
    | succ j =>
      have hj' : j < T.length + S.length := by simpa using hj
      show (if j = T.length + i then 0 else j + 1) < _ ∧ _ = (SV.un :: (T ++ S))[if j = T.length + i then 0 else j + 1]? ∧ _ = (none :: (τ ++ σ))[if j = T.length + i then 0 else j + 1]?
      by_cases hji : j = T.length + i
      · subst hji
        rw [if_pos rfl]
        refine ⟨by simp, ?_, ?_⟩
        · rw [List.getElem?_cons_succ, List.getElem?_append_right (by omega), show T.length + i - T.length = i by omega, List.getElem?_set_self hi]; rfl
        · rw [List.getElem?_cons_succ, List.getElem?_append_right (by omega), show T.length + i - τ.length = i by omega, List.getElem?_set_self hi']; rfl
      · rw [if_neg hji]
        refine ⟨by simp; omega, ?_, ?_⟩
        · rw [List.getElem?_cons_succ, List.getElem?_cons_succ]
          by_cases hjt : j < T.length
          · rw [List.getElem?_append_left hjt, List.getElem?_append_left hjt]
          · rw [List.getElem?_append_right (by omega), List.getElem?_append_right (by omega), List.getElem?_set_ne (by omega)]
        · rw [List.getElem?_cons_succ, List.getElem?_cons_succ]
          by_cases hjt : j < τ.length
          · rw [List.getElem?_append_left hjt, List.getElem?_append_left hjt]
          · rw [List.getElem?_append_right (by omega), List.getElem?_append_right (by omega), List.getElem?_set_ne (by omega)]
  · cases a with
    | zero =>
      cases b with
      | zero => rfl
      | succ b =>
        have e' : T.length + i + 1 = (if b = T.length + i then 0 else b + 1) := e
        split at e' <;> omega
    | succ a =>
      cases b with
      | zero =>
        have e' : (if a = T.length + i then 0 else a + 1) = T.length + i + 1 := e
        split at e' <;> omega
      | succ b =>
        have e' : (if a = T.length + i then 0 else a + 1) = (if b = T.length + i then 0 else b + 1) := e
        split at e' <;> split at e' <;> omega
end

section
variable {X : Cx} {β : Nat → Addr} {W : WX}
/-! ### blocks -/
def skipM : MS := fun S => .ok .nx S
def seqM (f g : MS) : MS := fun S => (f S).bind fun fl S' => match fl with
  | .nx => g S'
  | fl => .ok fl S'
theorem sds_nil : SDs X β W [] skipM := PSs.imp pss_nil fun D σ H ⟨S, T, τ, Hs, hl, R, g⟩ => g σ H Hs R
theorem sds_cons {st : Stmt} {sts : List Stmt} {f g : MS} (h : SD X β W st f) (h' : SDs X β W sts g) : SDs X β W (st :: sts) (seqM f g) := by
  refine PSs.imp (pss_cons h h') fun D σ H ⟨S, T, τ, Hs, hl, R, q⟩ => ⟨S, T, τ, Hs, hl, R, ?_⟩
  have q1 : (cx X β W).GoesS T τ ((f S).bind fun fl S' => match fl with | .nx => g S' | fl => .ok fl S') D := q
  cases e : f S with
  | ok fl S' =>
    rw [e] at q1
    cases fl with
    | nx => exact fun σ' H' Hs' R' => ⟨S', T, τ, Hs', hl, R', q1⟩
    | rt r => exact q1
    | bk => exact q1
    | ct => exact q1
  | exc c d S' => rw [e] at q1; exact q1
  | stuck => rw [e] at q1; exact q1
theorem sds_one {st : Stmt} {f : MS} (h : SD X β W st f) : SDs X β W [st] f := pss_one h
theorem sd_pass {pos : Pos} : SD X β W (.Pass pos) skipM := PS.imp ps_pass fun D σ H ⟨S, T, τ, Hs, hl, R, g⟩ => g σ H Hs R
def brkM : MS := fun S => .ok .bk S
def cntM : MS := fun S => .ok .ct S
theorem sd_brk {pos : Pos} : SD X β W (.Break pos) brkM := PS.imp ps_break fun D σ H ⟨S, T, τ, Hs, hl, R, g⟩ => g σ H Hs R
theorem sd_cnt {pos : Pos} : SD X β W (.Continue pos) cntM := PS.imp ps_continue fun D σ H ⟨S, T, τ, Hs, hl, R, g⟩ => g σ H Hs R
theorem sd_never {st : Stmt} : SD X β W st (fun _ => .stuck) := PS.imp ps_never fun D σ H ⟨S, T, τ, Hs, hl, R, g⟩ => g
/-! ### return, expressions, stores -/
def retM (f : M SV) : MS := fun S => (f S).bind fun r S' => .ok (.rt r) S'
theorem sd_ret {e : Expr} {f : M SV} {pos : Pos} (h : PD X β W e f) : SD X β W (.Return (some e) pos) (retM f) := by
  refine PS.imp (ps_ret h) fun D σ H ⟨S, T, τ, Hs, hl, R, q⟩ => ?_
  exact tD_bindS hl R q fun r S1 v H1 Hs1 R1 g1 => g1 v σ H1 Hs1 R1
def exprM (f : M SV) : MS := fun S => (f S).bind fun _ S' => .ok .nx S'
theorem sd_expr {e : Expr} {f : M SV} {pos : Pos} (h : PD X β W e f) (hs : swapsWith e none pos.line X.env = pure false) : SD X β W (.Expr e pos) (exprM f) := by
  refine PS.imp (ps_expr h hs) fun D σ H ⟨S, T, τ, Hs, hl, R, q⟩ => ?_
  exact tD_bindS hl R q fun r S1 v H1 Hs1 R1 g1 => g1 σ H1 Hs1 (Rep.tail R1)
def asgM (i : Nat) (f : M SV) : MS := fun S => (f S).bind fun r S' => .ok .nx (S'.set i r)
theorem sd_asg {i : Nat} {x : Str} {e : Expr} {f : M SV} {pos pos' : Pos} (hN : X.N.Nodup) (hi : X.N[i]? = some x) (hx : Loc X.env.scope x) (h : PD X β W e f) (hs : swapsWith e (some (.Name x pos')) pos.line X.env = pure false) (hf : X.fn x = true ∨ X.env.scope.names.lookup x = some .local) :
    SD X β W (.Assign [.Name x pos'] e pos) (asgM i f) := by
  refine PS.imp (ps_set hN hi hx h hs hf) fun D σ H ⟨S, T, τ, Hs, hl, R, q⟩ => ?_
  exact tD_bindS hl R q fun r S1 v H1 Hs1 R1 g1 => g1 _ H1 Hs1 (Rep.store hl R1)
/-! ### if, while -/
def iteM (c : M Bool) (f g : MS) : MS := fun S => (c S).bind fun b S' => if b = true then f S' else g S'
theorem sd_if {c : Expr} {a b : List Stmt} {fc : M Bool} {f g : MS} {pos : Pos} (hc : PTD X β W c fc) (ha : SDs X β W a f) (hb : SDs X β W b g) : SD X β W (.If c a b pos) (iteM fc f g) := by
  refine PS.imp (ps_if hc ha hb) fun D σ H ⟨S, T, τ, Hs, hl, R, q⟩ => ?_
  refine tDT_bindS hl R q fun b S1 H1 Hs1 R1 g1 => ?_
  cases b with
  | true => exact ⟨S1, T, τ, Hs1, hl, R1, g1⟩
  | false => exact ⟨S1, T, τ, Hs1, hl, R1, g1⟩
def whlM (c : M Bool) (b : MS) : Nat → MS
  | 0 => fun _ => .stuck
  | n + 1 => fun S => (c S).bind fun t S1 => if t = true then (b S1).bind fun fl S2 => (match fl with
      | .nx => whlM c b n S2
      | .ct => whlM c b n S2
      | .bk => .ok .nx S2
      | .rt r => .ok (.rt r) S2) else .ok .nx S1
theorem sd_whl {c : Expr} {body : List Stmt} {fc : M Bool} {f : MS} {pos : Pos} (n : Nat) (hp : PassesOwn (model X.prog X.w) X.A X.env X.xe) (hc : PTD X β W c fc) (hb : SDs X β W body f) : SD X β W (.While c body [] pos) (whlM fc f n) := by
  refine PS.imp (ps_while hp hc hb) fun D σ H ⟨S, T, τ, Hs, hl, R, q⟩ => ?_
  refine ⟨fun m σ H => ∃ S Hs, (cx X β W).Rep (T ++ S) (τ ++ σ) H Hs ∧ (cx X β W).GoesS T τ (whlM fc f m S) D, ⟨n, S, Hs, R, q⟩, ?_⟩
  rintro m σ1 H1 ⟨S1, Hs1, R1, q1⟩
  cases m with
  | zero => exact q1.elim
  | succ m =>
    refine tDT_bindS hl R1 q1 fun b S2 H2 Hs2 R2 g2 => ?_
    cases b with
    | false => exact g2 σ1 H2 Hs2 R2
    | true =>
      rw [if_pos rfl]
      refine ⟨fun σ' H' => ∃ S Hs, (cx X β W).Rep (T ++ S) (τ ++ σ') H' Hs ∧ (cx X β W).GoesS T τ (whlM fc f m S) D, fun σ' H' h => ⟨m, Nat.lt_succ_self m, h⟩, ?_⟩
      refine ⟨S2, T, τ, Hs2, hl, R2, ?_⟩
      have g3 : (cx X β W).GoesS T τ ((f S2).bind fun fl S2 => (match fl with
        | .nx => whlM fc f m S2
        | .ct => whlM fc f m S2
        | .bk => .ok .nx S2
        | .rt r => .ok (.rt r) S2)) D := g2
      cases e : f S2 with
      | ok fl S3 =>
        rw [e] at g3
        cases fl with
        | nx => exact fun σ' H' Hs' R' => ⟨S3, Hs', R', g3⟩
        | ct => exact fun σ' H' Hs' R' => ⟨S3, Hs', R', g3⟩
        | bk => exact g3
        | rt r => exact g3
      | exc c d S3 => rw [e] at g3; exact g3
      | stuck => rw [e] at g3; exact g3
end
end Ev
end

section
set_option Elab.async false
set_option linter.all false
set_option maxRecDepth 100000
set_option maxHeartbeats 4000000
/-! Ev, part 7: targets, what is walked, for. -/
namespace Ev
open PySem PySem.Spec PyProof.Rows L2

/-- a target: a name, or a tuple of targets (nil, cons) -/
inductive Tg where
  | nm (i : Nat) | nil | cons (a r : Tg)
def Tg.len : Tg → Nat
  | .cons _ r => r.len + 1
  | _ => 0
def Tg.ixs : Tg → List Nat
  | .nm i => [i]
  | .nil => []
  | .cons a r => a.ixs ++ r.ixs
mutual
/-- shared data stored to a target -/
def Tg.put : Tg → D → List SV → Option (List SV)
  | .nm i, d, S => some (S.set i (.sh d))
  | .nil, .tup [], S => some S
  | .cons a r, .tup xs, S => Tg.puts (.cons a r) xs S
  | .cons a r, .prs xs, S => Tg.puts (.cons a r) xs S
  | .cons a r, .lst xs, S => Tg.puts (.cons a r) xs S
  | _, _, _ => none
def Tg.puts : Tg → List D → List SV → Option (List SV)
  | .nil, [], S => some S
  | .cons a r, x :: xs, S => match Tg.put a x S with
    | some S' => Tg.puts r xs S'
    | none => none
  | _, _, _ => none
end
mutual
def Tg.rd (K : PySem.W.Frag) : Tg → TG
  | .nm i => gName i
  | .nil => gTup K 0 gNil
  | .cons a r => gTL K (r.len + 1) (gCons (Tg.rd K a) (Tg.rds K r))
def Tg.rds (K : PySem.W.Frag) : Tg → TGs
  | .cons a r => gCons (Tg.rd K a) (Tg.rds K r)
  | _ => gNil
end
theorem wipe_in {σ : L2.St} {i : Nat} : ∀ {vs : List Nat}, i ∈ vs → i < σ.length → (wipe σ vs)[i]? = some none
  | [], h, _ => by simp at h
  | v :: r, h, hl => by
    show ((wipe σ r).set v none)[i]? = some none
    by_cases e : v = i
    · subst e
      exact List.getElem?_set_self (by rw [wipe_length]; exact hl)
    · rw [List.getElem?_set_ne e]
      rcases List.mem_cons.mp h with z | z
      · exact absurd z.symm e
      · exact wipe_in z hl
theorem wipe_set {σ : L2.St} {i : Nat} {x : Option V} {vs : List Nat} (h : i ∈ vs) : wipe (σ.set i x) vs = wipe σ vs := by
  refine List.ext_getElem? fun k => ?_
  by_cases hk : k ∈ vs
  · by_cases hl : k < σ.length
    · rw [wipe_in hk hl, wipe_in hk (by rw [List.length_set]; exact hl)]
    · rw [List.getElem?_eq_none (by rw [wipe_length, List.length_set]; omega), List.getElem?_eq_none (by rw [wipe_length]; omega)]
  · rw [wipe_out hk, wipe_out hk, List.getElem?_set_ne (show i ≠ k from fun e => hk (by rw [← e]; exact h))]
section
variable {C : Ct} {T U : List SV} {τ υ : List (Option V)} {σ : L2.St} {S : List SV} {H Hs : Hp}
theorem Tg.puts_len : ∀ {t : Tg} {xs : List D} {S S' : List SV}, Tg.puts t xs S = some S' → t.len = xs.length
  | .nil, [], _, _, h => rfl
  | .cons a r, x :: xs, S, S', h => by
    unfold Tg.puts at h
    cases e : Tg.put a x S with
    | none => rw [e] at h; cases h
    | some S1 =>
      rw [e] at h
      show r.len + 1 = xs.length + 1
      rw [Tg.puts_len h]
  | .nm _, _, _, _, h => by unfold Tg.puts at h; cases h
  | .nil, _ :: _, _, _, h => by unfold Tg.puts at h; cases h
  | .cons _ _, [], _, _, h => by unfold Tg.puts at h; cases h
mutual
theorem Tg.put_ok (hl : T.length = τ.length) : ∀ {t : Tg} {d : D} {S S' : List SV} {σ : L2.St} {v : V} {G : L2.St → Hp → Prop}, C.Rep (T ++ S) (τ ++ σ) H Hs → Den C.K C.w Hs d v → t.put d S = some S' →
    (∀ σ', C.Rep (T ++ S') (τ ++ σ') H Hs → (∀ vs, (∀ i ∈ t.ixs, i ∈ vs) → wipe σ' vs = wipe σ vs) → G σ' H) → Tg.rd C.K t v σ H G
  | .nm i, d, S, S', σ, v, G, R, q, e, h => by
    unfold Tg.put at e
    cases e
    refine h _ (Rep.store hl (Rep.push_sh R q)) fun vs hv => ?_
    exact wipe_set (hv i (by simp [Tg.ixs]))
  | .nil, d, S, S', σ, v, G, R, q, e, h => by
    cases d with
    | tup xs =>
      cases xs with
      | nil =>
        unfold Tg.put at e
        cases e
        rw [Den] at q
        obtain ⟨a, vs, rfl, q1, q2⟩ := q
        rw [DenL.nil_iff] at q2
        subst q2
        exact ⟨a, [], rfl, SqT.sub R.sub q1.sq, rfl, rfl, h σ R fun _ _ => rfl⟩
      | cons x xs => unfold Tg.put at e; cases e
    | _ => unfold Tg.put at e; cases e
  | .cons a r, d, S, S', σ, v, G, R, q, e, h => by
    cases d with
    | tup xs =>
      have e' : Tg.puts (.cons a r) xs S = some S' := by unfold Tg.put at e; exact e
      rw [Den] at q
      obtain ⟨p, vs, rfl, q1, q2⟩ := q
      refine .inl ⟨p, vs, rfl, SqT.sub R.sub q1.sq, ?_, ?_⟩
      · rw [← q2.len, ← Tg.puts_len e']; rfl
      · have := Tg.puts_ok (G := G) hl R q2 e' h
        unfold Tg.rds at this
        exact this
    | prs xs =>
      have e' : Tg.puts (.cons a r) xs S = some S' := by unfold Tg.put at e; exact e
      rw [Den] at q
      obtain ⟨p, vs, rfl, q1, q2⟩ := q
      refine .inl ⟨p, vs, rfl, SqT.sub R.sub q1, ?_, ?_⟩
      · rw [← q2.len, ← Tg.puts_len e']; rfl
      · have := Tg.puts_ok (G := G) hl R q2 e' h
        unfold Tg.rds at this
        exact this
    | lst xs =>
      have e' : Tg.puts (.cons a r) xs S = some S' := by unfold Tg.put at e; exact e
      rw [Den] at q
      obtain ⟨p, vs, rfl, q1, q2⟩ := q
      refine .inr ⟨p, vs, rfl, SqL.sub R.sub q1, ?_, ?_⟩
      · rw [← q2.len, ← Tg.puts_len e']; rfl
      · have := Tg.puts_ok (G := G) hl R q2 e' h
        unfold Tg.rds at this
        exact this
    | _ => unfold Tg.put at e; cases e
theorem Tg.puts_ok (hl : T.length = τ.length) : ∀ {t : Tg} {ds : List D} {S S' : List SV} {σ : L2.St} {vs : List V} {G : L2.St → Hp → Prop}, C.Rep (T ++ S) (τ ++ σ) H Hs → DenL C.K C.w Hs ds vs → t.puts ds S = some S' →
    (∀ σ', C.Rep (T ++ S') (τ ++ σ') H Hs → (∀ vs, (∀ i ∈ t.ixs, i ∈ vs) → wipe σ' vs = wipe σ vs) → G σ' H) → Tg.rds C.K t vs σ H G
  | .nm i, ds, S, S', σ, vs, G, R, q, e, h => by unfold Tg.puts at e; cases e
  | .nil, ds, S, S', σ, vs, G, R, q, e, h => by
    cases ds with
    | nil =>
      rw [DenL.nil_iff] at q
      subst q
      unfold Tg.puts at e
      cases e
      unfold Tg.rds
      exact ⟨rfl, h σ R fun _ _ => rfl⟩
    | cons _ _ => unfold Tg.puts at e; cases e
  | .cons a r, ds, S, S', σ, vs, G, R, q, e, h => by
    cases ds with
    | nil => unfold Tg.puts at e; cases e
    | cons x xs =>
      unfold Tg.puts at e
      cases e1 : Tg.put a x S with
      | none => rw [e1] at e; cases e
      | some S1 =>
        rw [e1] at e
        rw [DenL.cons_iff] at q
        obtain ⟨v, rr, rfl, q1, q2⟩ := q
        unfold Tg.rds
        refine ⟨v, rr, rfl, Tg.put_ok hl R q1 e1 fun σ1 R1 w1 => ?_⟩
        refine Tg.puts_ok hl R1 q2 e fun σ2 R2 w2 => h σ2 R2 fun vs hv => ?_
        rw [w2 vs fun i hi => hv i (by simp [Tg.ixs, hi]), w1 vs fun i hi => hv i (by simp [Tg.ixs, hi])]
end
end

/-! ### what is walked: its items, what is in flight meanwhile -/
structure Walk where
  items : List D
  U : List SV
def IterOk (C : Ct) (J : It) (wk : Walk) (υ : List (Option V)) : Prop :=
  ∀ (i : Nat) (Y : List SV) (ξ : List (Option V)) (H Hs : Hp), C.Rep (wk.U ++ Y) (υ ++ ξ) H Hs →
    (∀ d, wk.items[i]? = some d → J.go i H ∧ ∀ x H', J.yld i H x H' → ∃ Hs', C.Rep (wk.U ++ Y) (υ ++ ξ) H' Hs' ∧ Den C.K C.w Hs' d x ∧ ∀ Z ζ, C.Rep (Z ++ (wk.U ++ Y)) (ζ ++ (υ ++ ξ)) H Hs → C.Rep (Z ++ (wk.U ++ Y)) (ζ ++ (υ ++ ξ)) H' Hs') ∧ (wk.items.length ≤ i → J.stop i H)
def tI (C : Ct) (f : M Walk) : TI := fun σ H R => ∃ S T τ Hs, T.length = τ.length ∧ C.Rep (T ++ S) (τ ++ σ) H Hs ∧
  C.Goes T τ σ (f S) fun wk S' => ∀ υ J H' Hs', wk.U.length = υ.length → C.Rep (wk.U ++ (T ++ S')) (υ ++ (τ ++ σ)) H' Hs' → IterOk C J wk υ → R J H'
def PId (X : Cx) (β : Nat → Addr) (W : WX) (tg e : Expr) (f : M Walk) : Prop := PI X tg e (tI (cx X β W) f)
theorem PI.imp {X : Cx} {tg e : Expr} {t t' : TI} (h : PI X tg e t) (i : ∀ σ H Q, t' σ H Q → t σ H Q) : PI X tg e t' := ⟨fun pins s σ H Q I hw => h.run pins s σ H Q I (i σ H Q hw)⟩

theorem skip {α : Type} (U : List α) {Y : List α} {j : Nat} : (U ++ Y)[U.length + j]? = Y[j]? := by
  rw [List.getElem?_append_right (by omega), show U.length + j - U.length = j by omega]
/-! ### for -/
def forL (tg : Tg) (b : MS) : List D → MS
  | [] => fun S => .ok .nx S
  | d :: ds => fun S => match tg.put d S with
    | none => .stuck
    | some S1 => (b S1).bind fun fl S2 => match fl with
      | .nx => forL tg b ds S2
      | .ct => forL tg b ds S2
      | .bk => .ok .nx S2
      | .rt r => .ok (.rt r) S2
def forM' (src : M Walk) (tg : Tg) (b : MS) : MS := fun S => (src S).bind fun wk S1 => forL tg b wk.items S1
theorem tI_bindS {C : Ct} {T : List SV} {τ : List (Option V)} {σ : L2.St} {S : List SV} {H Hs : Hp} {f : M Walk} {k : Walk → MS} {D : Ends} {R1 : It → Hp → Prop} (hl : T.length = τ.length) (R : C.Rep (T ++ S) (τ ++ σ) H Hs) (g : C.GoesS T τ ((f S).bind k) D)
    (h : ∀ wk S1 υ J H1 Hs1, wk.U.length = υ.length → C.Rep (wk.U ++ (T ++ S1)) (υ ++ (τ ++ σ)) H1 Hs1 → IterOk C J wk υ → C.GoesS T τ (k wk S1) D → R1 J H1) : tI C f σ H R1 := by
  refine ⟨S, T, τ, Hs, hl, R, ?_⟩
  cases e : f S with
  | ok r S1 => rw [e] at g; exact fun υ J H' Hs' hu R' ok => h r S1 υ J H' Hs' hu R' ok g
  | exc c d S1 => rw [e] at g; exact g σ
  | stuck => rw [e] at g; exact g
section
variable {X : Cx} {β : Nat → Addr} {W : WX}
theorem sd_for {tg iter : Expr} {body : List Stmt} {src : M Walk} {t : Tg} {b : MS} {pos : Pos} (hp : PassesOwn (model X.prog X.w) X.A X.env X.xe) (hc : X.calm = true) (hi : PId X β W tg iter src) (hg : PG X tg (t.rd X.K)) (hb : SDs X β W body b) (hs : ∀ x, foldedSetIterable iter X.env x = pure x) :
    SD X β W (.For tg iter body [] pos) (forM' src t b) := by
  refine PS.imp (ps_for hp hc hi hg hb hs) fun D σ H ⟨S, T, τ, Hs, hl, R, q⟩ => ?_
  refine tI_bindS hl R q fun wk S1 υ J H1 Hs1 hu R1 ok g1 => ?_
  refine ⟨fun i m σ H => m = wk.items.length - i ∧ ∃ S Hs, (cx X β W).Rep (wk.U ++ (T ++ S)) (υ ++ (τ ++ σ)) H Hs ∧ (cx X β W).GoesS T τ (forL t b (wk.items.drop i) S) D, ⟨_, rfl, S1, Hs1, R1, g1⟩, ?_⟩
  rintro i m σ2 H2 ⟨rfl, S2, Hs2, R2, g2⟩
  by_cases hlt : i < wk.items.length
  · refine .inr ?_
    have hd : wk.items[i]? = some wk.items[i] := List.getElem?_eq_getElem hlt
    obtain ⟨go, yld⟩ := (ok i (T ++ S2) (τ ++ σ2) H2 Hs2 R2).1 _ hd
    refine ⟨go, fun σ' H' => ∃ S Hs, (cx X β W).Rep (wk.U ++ (T ++ S)) (υ ++ (τ ++ σ')) H' Hs ∧ (cx X β W).GoesS T τ (forL t b (wk.items.drop (i + 1)) S) D, fun σ' H' hN => ⟨wk.items.length - (i + 1), by omega, rfl, hN⟩, fun x H' hy => ?_⟩
    obtain ⟨Hs', R3, q3, _⟩ := yld x H' hy
    rw [List.drop_eq_getElem_cons hlt] at g2
    have g3 : (cx X β W).GoesS T τ (match t.put wk.items[i] S2 with
      | none => .stuck
      | some S1 => (b S1).bind fun fl S2 => match fl with
        | .nx => forL t b (wk.items.drop (i + 1)) S2
        | .ct => forL t b (wk.items.drop (i + 1)) S2
        | .bk => .ok .nx S2
        | .rt r => .ok (.rt r) S2) D := g2
    cases ep : t.put wk.items[i] S2 with
    | none => rw [ep] at g3; exact g3.elim
    | some S3 =>
      rw [ep] at g3
      have hl2 : (wk.U ++ T).length = (υ ++ τ).length := by simp [hu, hl]
      refine Tg.put_ok (C := cx X β W) (T := wk.U ++ T) (τ := υ ++ τ) hl2 (by rw [List.append_assoc, List.append_assoc]; exact R3) q3 ep fun σ3 R4 _ => ?_
      refine ⟨S3, wk.U ++ T, υ ++ τ, Hs', hl2, R4, ?_⟩
      have g4 : (cx X β W).GoesS T τ ((b S3).bind fun fl S2 => match fl with
        | .nx => forL t b (wk.items.drop (i + 1)) S2
        | .ct => forL t b (wk.items.drop (i + 1)) S2
        | .bk => .ok .nx S2
        | .rt r => .ok (.rt r) S2) D := g3
      have drop : ∀ {Y : List SV} {σ' : L2.St} {H' Hs' : Hp}, (cx X β W).Rep (wk.U ++ T ++ Y) (υ ++ τ ++ σ') H' Hs' → (cx X β W).Rep (T ++ Y) (τ ++ σ') H' Hs' := fun R' => by
        rw [List.append_assoc, List.append_assoc] at R'
        exact Rep.dropU hu R'
      cases e : b S3 with
      | ok fl S4 =>
        rw [e] at g4
        cases fl with
        | nx => exact fun σ' H' Hs' R' => ⟨S4, Hs', by rw [List.append_assoc, List.append_assoc] at R'; exact R', g4⟩
        | ct => exact fun σ' H' Hs' R' => ⟨S4, Hs', by rw [List.append_assoc, List.append_assoc] at R'; exact R', g4⟩
        | bk => exact fun σ' H' Hs' R' => g4 σ' H' Hs' (drop R')
        | rt r => exact fun v σ' H' Hs' R' => g4 v σ' H' Hs' (by
            have hlu : (r :: wk.U).length = (some v :: υ).length := by simp [hu]
            -- r stays, U goes
            have R'' : Ev.Rep X.K X.w β (r :: (wk.U ++ (T ++ S4))) (some v :: (υ ++ (τ ++ σ'))) H' Hs' := by
              have := R'
              rw [List.append_assoc, List.append_assoc] at this
              exact this
            refine R''.sel (fun j => match j with | 0 => 0 | j + 1 => wk.U.length + j + 1) (by have := R''.len; simp at this ⊢; omega) (fun j hj => ?_) (fun a b' ha hb' e => ?_)
            · cases j with
              | zero => exact ⟨by simp, rfl, rfl⟩
              | succ j =>
                have hj' : j < T.length + S4.length := by simpa using hj
                refine ⟨by simp; omega, ?_, ?_⟩
                · show (T ++ S4)[j]? = (r :: (wk.U ++ (T ++ S4)))[wk.U.length + j + 1]?
                  rw [List.getElem?_cons_succ, skip wk.U]
                · show (τ ++ σ')[j]? = (some v :: (υ ++ (τ ++ σ')))[wk.U.length + j + 1]?
                  rw [List.getElem?_cons_succ, hu, skip υ]
            · cases a with
              | zero =>
                cases b' with
                | zero => rfl
                | succ b' => have e' : 0 = wk.U.length + b' + 1 := e; omega
              | succ a =>
                cases b' with
                | zero => have e' : wk.U.length + a + 1 = 0 := e; omega
                | succ b' => have e' : wk.U.length + a + 1 = wk.U.length + b' + 1 := e; omega)
      | exc c d S4 => rw [e] at g4; exact Ct.OutS.deeper hu g4
      | stuck => rw [e] at g4; exact g4
  · refine .inl ⟨(ok i (T ++ S2) (τ ++ σ2) H2 Hs2 R2).2 (by omega), ?_⟩
    rw [List.drop_eq_nil_of_le (by omega)] at g2
    exact g2 σ2 H2 Hs2 (Rep.dropU hu R2)
end
end Ev
end

section
set_option Elab.async false
set_option linter.all false
set_option maxRecDepth 100000
set_option maxHeartbeats 4000000
/-! Ev, part 8: sequences and ranges walked. -/
namespace Ev
open PySem PySem.Spec PyProof.Rows L2

def inR (i : Int) : Bool := decide (-4611686018427387904 ≤ i) && decide (i < 4611686018427387904)
theorem inR_ok {i : Int} (h : inR i = true) : -(2 ^ 62) ≤ i ∧ i < 2 ^ 62 := by
  unfold inR at h
  rw [Bool.and_eq_true, decide_eq_true_eq, decide_eq_true_eq] at h
  omega
/-- a list, a tuple, a range or a text, walked -/
def iAny (K : PySem.W.Frag) (tl : TE) : TI := fun σ H R => tl σ H fun x G => (∃ a, x = .ref a ∧ (∃ ws, SqL K G a ws) ∧ R (Itl K a) G) ∨ (∃ a, x = .ref a ∧ (∃ ws, SqT K G a ws) ∧ R (Itt K a) G) ∨ (∃ a lo hi, x = .ref a ∧ G a = some (.rng lo hi) ∧ inR lo = true ∧ inR hi = true ∧ R (Itr lo (hi - lo).toNat) G) ∨ ∃ z, x = .str z ∧ R (Its z) G
theorem pi_any {X : Cx} {tg l : Expr} {tl : TE} (hl : PE X l tl) : PI X tg l (iAny X.K tl) := by
  refine ⟨fun pins s σ H R I h => thn (hl.run pins s σ H _ I h) fun v t ⟨x, G, J, r, q⟩ => ?_⟩
  rcases q with ⟨a, rfl, ⟨ws, sq⟩, q⟩ | ⟨a, rfl, ⟨ws, sq⟩, q⟩ | ⟨a, lo, hi, rfl, ha, r1, r2, q⟩ | ⟨z, rfl, q⟩
  · cases r
    obtain ⟨us, _, pl, _⟩ := J.list sq
    exact wpAny_pyIter_list pl.isList (pi_one (tk := t.toks) J _ (turn_list a _) ⟨_, Heap.get?_push_size _ rfl, rfl, rfl⟩ q)
  · cases r
    obtain ⟨us, _, pl, _⟩ := J.tuple sq
    exact wpAny_pyIter_tuple (show t.heap.IsTuple a us.toArray from pl) (pi_one (tk := t.toks) J _ (turn_tuple a _) ⟨_, Heap.get?_push_size _ rfl, rfl, rfl⟩ q)
  · cases r
    obtain ⟨_, _, _, ho⟩ := J.hok a _ ha
    refine wpAny_pyIter_range ho (small_one (inR_ok r1).1 (inR_ok r1).2 (inR_ok r2).1 (inR_ok r2).2) (pi_one (tk := t.toks) J _ (turn_range _ lo (hi - lo).toNat) ?_ q)
    have e2 : (((hi - lo).toNat : Nat) : Int) - ((0 : Nat) : Int) = Builtin.Range.rangeSize lo hi 1 := by rw [rangeSize_one]; split <;> omega
    show IsRangeIter _ _ (lo + ((0 : Nat) : Int) * 1) ((((hi - lo).toNat : Nat) : Int) - ((0 : Nat) : Int)) 1
    rw [show lo + ((0 : Nat) : Int) * 1 = lo by simp, e2]
    exact Heap.get?_push_size _ rfl
  · obtain ⟨k, rfl⟩ := r
    cases ha : z.cps.all (· < 128) with
    | false => exact wpAny_pyIter_wide ha (pi_one (tk := t.toks) J _ (turn_str _ z k "str_iterator" (.inr rfl)) ⟨_, Heap.get?_push_size _ rfl, rfl, rfl⟩ q)
    | true => exact wpAny_pyIter_ascii ha (pi_one (tk := t.toks) J _ (turn_str _ z k "str_ascii_iterator" (.inl rfl)) ⟨_, Heap.get?_push_size _ rfl, rfl, rfl⟩ q)
def strItems (x : Str) : List D := x.cps.toList.map fun c => .str ⟨#[c]⟩
def rngItems (lo : Int) (n : Nat) : List D := (List.range n).map fun i => .int (lo + (i : Nat))
def seqItems : SV → Option (List D)
  | .sh (.tup xs) => some xs
  | .sh (.lst xs) => some xs
  | .ow (.l xs) => some xs
  | .sh (.str x) => some (strItems x)
  | .sh (.rng lo hi) => if (inR lo && inR hi) = true then some (rngItems lo (hi - lo).toNat) else none
  | _ => none
def wSeq (f : M SV) : M Walk := fun S => (f S).bind fun r S' => match seqItems r with
  | some xs => .ok ⟨xs, [r]⟩ S'
  | none => .stuck
section
variable {C : Ct} {υ : List (Option V)}
/-- nothing is made at a turn -/
theorem iter_still {J : It} {wk : Walk} (h : ∀ (i : Nat) (Y : List SV) (ξ : List (Option V)) (H Hs : Hp), C.Rep (wk.U ++ Y) (υ ++ ξ) H Hs →
    (∀ d, wk.items[i]? = some d → J.go i H ∧ ∀ x H', J.yld i H x H' → H' = H ∧ Den C.K C.w Hs d x) ∧ (wk.items.length ≤ i → J.stop i H)) : IterOk C J wk υ := fun i Y ξ H Hs R =>
  ⟨fun d hd => ⟨((h i Y ξ H Hs R).1 d hd).1, fun x H' hy => by
    obtain ⟨rfl, q⟩ := ((h i Y ξ H Hs R).1 d hd).2 x H' hy
    exact ⟨Hs, R, q, fun _ _ R' => R'⟩⟩, (h i Y ξ H Hs R).2⟩
theorem SqL.uniq {K : PySem.W.Frag} {H Hs : Hp} {a : Addr} : True := trivial
theorem iter_list {xs : List D} {r : SV} {a : Addr} (e : r = .sh (.lst xs) ∨ r = .ow (.l xs)) : IterOk C (Itl C.K a) ⟨xs, [r]⟩ [some (.ref a)] := by
  refine iter_still fun i Y ξ H Hs R => ?_
  have hv : ∃ vs, SqL C.K H a vs ∧ DenL C.K C.w Hs xs vs := by
    have ed : r.dat? = some (.lst xs) := by rcases e with rfl | rfl <;> rfl
    obtain ⟨v, ev, q⟩ := Rep.view R (i := 0) (s := r) rfl ed
    have ev' : some (some (V.ref a)) = some (some v) := ev
    cases ev'
    obtain ⟨b, vs, eb, q1, q2⟩ := q
    cases eb
    exact ⟨vs, q1, q2⟩
  obtain ⟨vs, q1, q2⟩ := hv
  refine ⟨fun d hd => ?_, fun hl => ⟨vs, q1, by rw [← q2.len]; exact hl⟩⟩
  obtain ⟨u, hu, q⟩ := q2.get hd
  refine ⟨⟨vs, u, q1, hu⟩, fun x H' hy => ?_⟩
  obtain ⟨rfl, hx⟩ := hy
  have := hx vs q1
  rw [hu] at this
  cases this
  exact ⟨rfl, q⟩
theorem iter_tup {xs : List D} {a : Addr} : IterOk C (Itt C.K a) ⟨xs, [.sh (.tup xs)]⟩ [some (.ref a)] := by
  refine iter_still fun i Y ξ H Hs R => ?_
  obtain ⟨v, ev, q⟩ := Rep.view R (i := 0) (s := .sh (.tup xs)) rfl rfl
  have ev' : some (some (V.ref a)) = some (some v) := ev
  cases ev'
  obtain ⟨b, vs, eb, q1, q2, _⟩ := q
  cases eb
  refine ⟨fun d hd => ?_, fun hl => ⟨vs, q1, by rw [← q2.len]; exact hl⟩⟩
  obtain ⟨u, hu, q⟩ := q2.get hd
  refine ⟨⟨vs, u, q1, hu⟩, fun x H' hy => ?_⟩
  obtain ⟨rfl, hx⟩ := hy
  have := hx vs q1
  rw [hu] at this
  cases this
  exact ⟨rfl, q⟩
theorem iter_str {x : Str} {υ : List (Option V)} {U : List SV} : IterOk C (Its x) ⟨strItems x, U⟩ υ := by
  refine iter_still fun i Y ξ H Hs R => ⟨fun d hd => ?_, fun hl => ?_⟩
  · have hd' : (x.cps.toList.map fun c => D.str ⟨#[c]⟩)[i]? = some d := hd
    rw [List.getElem?_map] at hd'
    cases hc : x.cps.toList[i]? with
    | none => rw [hc] at hd'; cases hd'
    | some c =>
      rw [hc] at hd'
      cases hd'
      have hi : i < x.cps.size := by have := (List.getElem?_eq_some_iff.mp hc).1; simpa using this
      refine ⟨hi, fun v H' hy => ?_⟩
      obtain ⟨rfl, c', hc', rfl⟩ := hy
      have : x.cps.toList[i]? = some c' := by rw [Array.getElem?_toList]; exact hc'
      rw [hc] at this
      cases this
      exact ⟨rfl, Den.str.mpr rfl⟩
  · show x.cps.size ≤ i
    have : (strItems x).length ≤ i := hl
    simpa [strItems] using this
theorem rngItems_get {lo : Int} {n i : Nat} {d : D} (h : (rngItems lo n)[i]? = some d) : i < n ∧ d = .int (lo + (i : Nat)) := by
  unfold rngItems at h
  rw [List.getElem?_map] at h
  cases hc : (List.range n)[i]? with
  | none => rw [hc] at h; cases h
  | some c =>
    rw [hc] at h
    cases h
    obtain ⟨h1, h2⟩ := List.getElem?_eq_some_iff.mp hc
    simp at h1 h2
    subst h2
    exact ⟨h1, rfl⟩
theorem iter_rng {lo : Int} {n : Nat} {υ : List (Option V)} {U : List SV} : IterOk C (Itr lo n) ⟨rngItems lo n, U⟩ υ := by
  refine iter_still fun i Y ξ H Hs R => ⟨fun d hd => ?_, fun hl => ?_⟩
  · obtain ⟨h1, rfl⟩ := rngItems_get hd
    refine ⟨h1, fun v H' hy => ?_⟩
    obtain ⟨rfl, rfl⟩ := hy
    exact ⟨rfl, Den.int.mpr rfl⟩
  · show n ≤ i
    have : (rngItems lo n).length ≤ i := hl
    simpa [rngItems] using this
end
section
variable {X : Cx} {β : Nat → Addr} {W : WX}
theorem pid_seq {tg e : Expr} {f : M SV} (h : PD X β W e f) : PId X β W tg e (wSeq f) := by
  refine PI.imp (pi_any h) fun σ H R ⟨S, T, τ, Hs, hl, R0, g⟩ => ?_
  refine tD_bind (U := []) (υ := []) rfl hl R0 g fun r S1 v H1 Hs1 R1 g1 => ?_
  have R1' : (cx X β W).Rep ([r] ++ (T ++ S1)) ([some v] ++ (τ ++ σ)) H1 Hs1 := R1
  cases e : seqItems r with
  | none => rw [e] at g1; exact g1.elim
  | some xs =>
    rw [e] at g1
    have g2 : ∀ υ J H' Hs', ([r] : List SV).length = υ.length → (cx X β W).Rep ([r] ++ (T ++ S1)) (υ ++ (τ ++ σ)) H' Hs' → IterOk (cx X β W) J ⟨xs, [r]⟩ υ → R J H' := g1
    have lcase : (r = .sh (.lst xs) ∨ r = .ow (.l xs)) → (∃ a, v = .ref a ∧ (∃ ws, SqL X.K H1 a ws) ∧ R (Itl X.K a) H1) := fun er => by
      have ed : r.dat? = some (.lst xs) := by rcases er with rfl | rfl <;> rfl
      obtain ⟨v', ev, q⟩ := Rep.view R1 (i := 0) (s := r) rfl ed
      have ev' : some (some v) = some (some v') := ev
      cases ev'
      obtain ⟨a, vs, rfl, q1, q2⟩ := q
      exact ⟨a, rfl, ⟨vs, q1⟩, g2 [some (.ref a)] _ H1 Hs1 rfl R1' (iter_list er)⟩
    cases r with
    | un => cases e
    | bo j o => cases e
    | ow o =>
      cases o with
      | l ys => cases e; exact .inl (lcase (.inr rfl))
      | d _ _ => cases e
      | ll _ => cases e
    | sh d =>
      cases d with
      | lst ys => cases e; exact .inl (lcase (.inl rfl))
      | tup ys =>
        cases e
        refine .inr (.inl ?_)
        obtain ⟨v', ev, q⟩ := Rep.view R1 (i := 0) (s := .sh (.tup xs)) rfl rfl
        have ev' : some (some v) = some (some v') := ev
        cases ev'
        obtain ⟨a, vs, rfl, q1, q2⟩ := q
        exact ⟨a, rfl, ⟨vs, q1⟩, g2 [some (.ref a)] _ H1 Hs1 rfl R1' iter_tup⟩
      | str x =>
        cases e
        refine .inr (.inr (.inr ?_))
        obtain ⟨v', ev, q⟩ := Rep.sh R1 (i := 0) rfl
        have ev' : some (some v) = some (some v') := ev
        cases ev'
        rw [Den.str] at q
        subst q
        exact ⟨x, rfl, g2 [some (.str x)] _ H1 Hs1 rfl R1' iter_str⟩
      | rng lo hi =>
        have e0 : (if (inR lo && inR hi) = true then some (rngItems lo (hi - lo).toNat) else none) = some xs := e
        split at e0
        · rename_i hb
          cases e0
          rw [Bool.and_eq_true] at hb
          obtain ⟨v', ev, q⟩ := Rep.view R1 (i := 0) (s := .sh (.rng lo hi)) rfl rfl
          have ev' : some (some v) = some (some v') := ev
          cases ev'
          obtain ⟨a, rfl, ha⟩ := q
          exact .inr (.inr (.inl ⟨a, lo, hi, rfl, ha, hb.1, hb.2, g2 [some (.ref a)] _ H1 Hs1 rfl R1' iter_rng⟩))
        · cases e0
      | _ => cases e
/-! ### ranges -/
def rngOf : List D → Option (Int × Nat)
  | [.int j] => if inR j then some (0, j.toNat) else none
  | [.int i, .int j] => if inR i && inR j then some (i, (j - i).toNat) else none
  | _ => none
def wRng (fs : List AF) : M Walk := fun S => (runAs fs S).bind fun as S' => match datL S' as with
  | some ds => (match rngOf ds with
    | some (lo, n) => .ok ⟨rngItems lo n, []⟩ S'
    | none => .stuck)
  | none => .stuck
theorem ViewL.one {K w H Hs d vs} (h : ViewL K w H Hs [d] vs) : ∃ v, vs = [v] ∧ View K w H Hs d v := by
  cases h with
  | cons q t => cases t; exact ⟨_, rfl, q⟩
theorem ViewL.two {K w H Hs d d' vs} (h : ViewL K w H Hs [d, d'] vs) : ∃ v v', vs = [v, v'] ∧ View K w H Hs d v ∧ View K w H Hs d' v' := by
  cases h with
  | cons q t =>
    cases t with
    | cons q' t => cases t; exact ⟨_, _, rfl, q, q'⟩
theorem ViewL.three {K w H Hs d d' d'' vs} (h : ViewL K w H Hs [d, d', d''] vs) : ∃ v v' v'', vs = [v, v', v''] ∧ View K w H Hs d v ∧ View K w H Hs d' v' ∧ View K w H Hs d'' v'' := by
  cases h with
  | cons q t =>
    obtain ⟨v, v', rfl, h1, h2⟩ := t.two
    exact ⟨_, _, _, rfl, q, h1, h2⟩
theorem View.int {K w H Hs i v} : View K w H Hs (.int i) v ↔ v = .int i := Den.int (K := K) (w := w) (H := Hs)
theorem tAs_rng {fs : List AF} {σ : L2.St} {H : Hp} {R : It → Hp → Prop} (h : tI (cx X β W) (wRng fs) σ H R) :
    tAs (cx X β W) fs σ H fun vs H' => (∃ j, vs = [.int j] ∧ inR j = true ∧ R (Itr 0 j.toNat) H') ∨ ∃ i j, vs = [.int i, .int j] ∧ inR i = true ∧ inR j = true ∧ R (Itr i (j - i).toNat) H' := by
  obtain ⟨S, T, τ, Hs, hl, R0, g⟩ := h
  refine tAs_use hl R0 g fun as vs S' H' Hs' R' hv hs g' => ?_
  cases e : datL S' as with
  | none => rw [e] at g'; exact g'.elim
  | some ds =>
    rw [e] at g'
    have g2 : (cx X β W).Goes T τ σ (match rngOf ds with
      | some (lo, n) => Res.ok (⟨rngItems lo n, []⟩ : Walk) S'
      | none => Res.stuck) _ := g'
    have hv' := hv ds e
    cases er : rngOf ds with
    | none => rw [er] at g2; exact g2.elim
    | some p =>
      obtain ⟨lo, n⟩ := p
      rw [er] at g2
      have fin : R (Itr lo n) H' := g2 [] _ H' Hs' rfl R' iter_rng
      unfold rngOf at er
      split at er
      · rename_i j
        split at er
        · rename_i hj
          cases er
          obtain ⟨v, rfl, q⟩ := hv'.one
          rw [View.int] at q
          subst q
          exact .inl ⟨j, rfl, hj, fin⟩
        · cases er
      · rename_i i j
        split at er
        · rename_i hj
          cases er
          obtain ⟨v, v', rfl, q, q'⟩ := hv'.two
          rw [View.int] at q q'
          subst q q'
          rw [Bool.and_eq_true] at hj
          exact .inr ⟨lo, j, rfl, hj.1, hj.2, fin⟩
        · cases er
      · cases er
theorem pid_rng1 {tg a : Expr} {f : AF} {p pos : Pos} (hg : Gl X "range") (hm : X.mg "range" = none) (ha : PDA X β W [a] [f]) (hs : starEach [a] X.env = [(false, eval a X.env)]) : PId X β W tg (.Call (.Name "range" p) [a] [] pos) (wRng [f]) := by
  refine PI.imp (pi_range1 hg hm ha hs) fun σ H R h => ?_
  have h1 := tAs_rng h
  have mono : ∀ (f : AF) (σ : L2.St) (H : Hp) (Q Q' : VK), tAF (cx X β W) f σ H Q → (∀ v H, Q v H → Q' v H) → tAF (cx X β W) f σ H Q' := fun f σ H Q Q' q hq => by
    cases f with
    | ex f =>
      obtain ⟨S, T, τ, Hs, hl, R0, g⟩ := q
      exact ⟨S, T, τ, Hs, hl, R0, g.mono fun a S k v H' Hs' R' => hq _ _ (k v H' Hs' R')⟩
    | pk i =>
      obtain ⟨v, e, q⟩ := q
      exact ⟨v, e, hq _ _ q⟩
  refine mono f σ H _ _ h1 fun v H' q => ?_
  rcases q with ⟨j, e, hj, q⟩ | ⟨i, j, e, _⟩
  · cases e; exact ⟨j, rfl, (inR_ok hj).1, (inR_ok hj).2, q⟩
  · cases e
theorem pid_rng2 {tg a b : Expr} {f f' : AF} {p pos : Pos} (hg : Gl X "range") (hm : X.mg "range" = none) (ha : PDA X β W [a, b] [f, f']) (hs : starEach [a, b] X.env = [(false, eval a X.env), (false, eval b X.env)]) (hs2 : starEach [b] X.env = [(false, eval b X.env)]) :
    PId X β W tg (.Call (.Name "range" p) [a, b] [] pos) (wRng [f, f']) := by
  refine PI.imp (pi_range2 hg hm ha hs hs2) fun σ H R h => ?_
  have h1 := tAs_rng h
  have mono : ∀ (f : AF) (σ : L2.St) (H : Hp) (Q Q' : VK), tAF (cx X β W) f σ H Q → (∀ v H, Q v H → Q' v H) → tAF (cx X β W) f σ H Q' := fun f σ H Q Q' q hq => by
    cases f with
    | ex f =>
      obtain ⟨S, T, τ, Hs, hl, R0, g⟩ := q
      exact ⟨S, T, τ, Hs, hl, R0, g.mono fun a S k v H' Hs' R' => hq _ _ (k v H' Hs' R')⟩
    | pk i =>
      obtain ⟨v, e, q⟩ := q
      exact ⟨v, e, hq _ _ q⟩
  refine mono f σ H _ _ h1 fun v H' q0 => mono f' σ H' _ _ q0 fun v' H'' q => ?_
  clear q0
  rcases q with ⟨j, e, hj, q⟩ | ⟨i, j, e, hi, hj, q⟩
  · cases e
  · exact ⟨i, j, e, ⟨(inR_ok hi).1, (inR_ok hi).2, (inR_ok hj).1, (inR_ok hj).2⟩, q⟩
end
end Ev
end

section
set_option Elab.async false
set_option linter.all false
set_option maxRecDepth 100000
set_option maxHeartbeats 4000000
/-! Ev, part 9: list comprehensions. -/
namespace Ev
open PySem PySem.Spec PyProof.Rows L2

def wipeS (S : List SV) : List Nat → List SV
  | [] => S
  | v :: r => (wipeS S r).set v .un
def backS (S0 : List SV) : List SV → List Nat → List SV
  | S, [] => S
  | S, v :: r => backS S0 (S.set v (S0.getD v .un)) r
theorem wipeS_out {S : List SV} {i : Nat} : ∀ {vs : List Nat}, i ∉ vs → (wipeS S vs)[i]? = S[i]?
  | [], _ => rfl
  | v :: r, h => by
    show ((wipeS S r).set v .un)[i]? = S[i]?
    rw [List.getElem?_set_ne (fun e => h (by simp [e]))]
    exact wipeS_out fun z => h (by simp [z])
theorem wipe_wipe {σ : L2.St} {vs us : List Nat} (h : ∀ i ∈ us, i ∈ vs) : wipe (wipe σ us) vs = wipe σ vs := by
  induction us with
  | nil => rfl
  | cons u r ih =>
    show wipe ((wipe σ r).set u none) vs = wipe σ vs
    rw [wipe_set (h u (by simp)), ih fun i hi => h i (by simp [hi])]
section
variable {K : PySem.W.Frag} {w : World} {β : Nat → Addr} {S T A : List SV} {τ α : List (Option V)} {σ : L2.St} {H Hs : Hp}
theorem Rep.swap {s : SV} {x : Option V} (hA : A.length = α.length) (R : Ev.Rep K w β (A ++ (s :: S)) (α ++ (x :: σ)) H Hs) : Ev.Rep K w β (s :: (A ++ S)) (x :: (α ++ σ)) H Hs := by
  have hS : S.length = σ.length := by have := R.len; simp at this; omega
  refine R.sel (fun j => match j with | 0 => A.length | j + 1 => if j < A.length then j else j + 1) (by simp [hA, hS]) (fun j hj => ?_) (fun a b ha hb e => ?_)
  · cases j with
    | zero => exact ⟨by simp, by simp, by simp [hA]⟩
    | succ j =>
      have hj' : j < A.length + S.length := by simpa using hj
      show (if j < A.length then j else j + 1) < _ ∧ (A ++ S)[j]? = (A ++ (s :: S))[if j < A.length then j else j + 1]? ∧ (α ++ σ)[j]? = (α ++ (x :: σ))[if j < A.length then j else j + 1]?
      by_cases h : j < A.length
      · rw [if_pos h]
        refine ⟨by simp; omega, ?_, ?_⟩
        · rw [List.getElem?_append_left h, List.getElem?_append_left h]
        · rw [List.getElem?_append_left (by omega), List.getElem?_append_left (by omega)]
      · rw [if_neg h]
        refine ⟨by simp; omega, ?_, ?_⟩
        · rw [List.getElem?_append_right (by omega), List.getElem?_append_right (by omega), show j + 1 - A.length = (j - A.length) + 1 by omega, List.getElem?_cons_succ]
        · rw [List.getElem?_append_right (by omega), List.getElem?_append_right (by omega), show j + 1 - α.length = (j - α.length) + 1 by omega, List.getElem?_cons_succ]
  · cases a with
    | zero =>
      cases b with
      | zero => rfl
      | succ b => have e' : A.length = (if b < A.length then b else b + 1) := e; split at e' <;> omega
    | succ a =>
      cases b with
      | zero => have e' : (if a < A.length then a else a + 1) = A.length := e; split at e' <;> omega
      | succ b => have e' : (if a < A.length then a else a + 1) = (if b < A.length then b else b + 1) := e; split at e' <;> split at e' <;> omega
theorem Rep.unswap {s : SV} {x : Option V} (hA : A.length = α.length) (R : Ev.Rep K w β (s :: (A ++ S)) (x :: (α ++ σ)) H Hs) : Ev.Rep K w β (A ++ (s :: S)) (α ++ (x :: σ)) H Hs := by
  have hS : S.length = σ.length := by have := R.len; simp at this; omega
  refine R.sel (fun j => if j < A.length then j + 1 else if j = A.length then 0 else j) (by simp [hA, hS]) (fun j hj => ?_) (fun a b ha hb e => ?_)
  · have hj' : j < A.length + (S.length + 1) := by simpa using hj
    by_cases h : j < A.length
    · rw [if_pos h]
      refine ⟨by simp; omega, ?_, ?_⟩
      · rw [List.getElem?_append_left h, List.getElem?_cons_succ, List.getElem?_append_left h]
      · rw [List.getElem?_append_left (by omega), List.getElem?_cons_succ, List.getElem?_append_left (by omega)]
    · rw [if_neg h]
      by_cases h2 : j = A.length
      · rw [if_pos h2]
        subst h2
        exact ⟨by simp, by simp, by rw [hA]; simp⟩
      · rw [if_neg h2]
        refine ⟨by simp; omega, ?_, ?_⟩
        · rw [List.getElem?_append_right (by omega), show j = (j - 1) + 1 by omega, List.getElem?_cons_succ, List.getElem?_append_right (by omega), show j - 1 + 1 - A.length = (j - 1 - A.length) + 1 by omega, List.getElem?_cons_succ]
        · rw [List.getElem?_append_right (by omega), show j = (j - 1) + 1 by omega, List.getElem?_cons_succ, List.getElem?_append_right (by omega), show j - 1 + 1 - α.length = (j - 1 - α.length) + 1 by omega, List.getElem?_cons_succ]
  · have e' : (if a < A.length then a + 1 else if a = A.length then 0 else a) = (if b < A.length then b + 1 else if b = A.length then 0 else b) := e
    split at e' <;> split at e' <;> (try split at e') <;> (try split at e') <;> omega
/-- slot v to the head, whatever it is -/
theorem Rep.takeD {v : Nat} (hl : T.length = τ.length) (R : Ev.Rep K w β (T ++ S) (τ ++ σ) H Hs) : Ev.Rep K w β (S.getD v .un :: (T ++ S.set v .un)) (σ.getD v none :: (τ ++ σ.set v none)) H Hs := by
  have hS : S.length = σ.length := by have := R.len; simp at this; omega
  by_cases hv : v < S.length
  · have e1 : S[v]? = some (S.getD v .un) := by rw [List.getD_eq_getElem?_getD, List.getElem?_eq_getElem hv]; rfl
    have hv' : v < σ.length := by omega
    have e2 : σ[v]? = some (σ.getD v none) := by rw [List.getD_eq_getElem?_getD, List.getElem?_eq_getElem hv']; rfl
    exact R.take hl e1 e2
  · rw [List.set_eq_of_length_le (by omega), List.set_eq_of_length_le (by omega)]
    have : S.getD v .un = .un := by rw [List.getD_eq_getElem?_getD, List.getElem?_eq_none (by omega)]; rfl
    rw [this]
    exact R.push_un
theorem wipe_back {σ : L2.St} {v : Nat} {r : List Nat} : (wipe σ (v :: r)).set v ((wipe σ r).getD v none) = wipe σ r := by
  show ((wipe σ r).set v none).set v ((wipe σ r).getD v none) = wipe σ r
  rw [List.set_set]
  by_cases hv : v < (wipe σ r).length
  · rw [List.getD_eq_getElem?_getD, List.getElem?_eq_getElem hv, Option.getD_some, List.set_getElem_self]
  · rw [List.set_eq_of_length_le (by omega)]
/-- the slots vs go aside, behind A; they come back as they were -/
theorem Rep.aside (hA : A.length = α.length) (hl : T.length = τ.length) (S0 : List SV) : ∀ {vs : List Nat} {S : List SV}, vs.Nodup → (∀ i : Nat, S[i]? = S0[i]?) → Ev.Rep K w β (A ++ (T ++ S)) (α ++ (τ ++ σ)) H Hs → ∃ O ο, O.length = ο.length ∧ Ev.Rep K w β (A ++ (O ++ (T ++ wipeS S vs))) (α ++ (ο ++ (τ ++ L2.wipe σ vs))) H Hs ∧
    ∀ (Z : List SV) (ζ : List (Option V)) (S2 : List SV) (H' Hs' : Hp), Z.length = ζ.length → Ev.Rep K w β (Z ++ (O ++ (T ++ S2))) (ζ ++ (ο ++ (τ ++ L2.wipe σ vs))) H' Hs' → Ev.Rep K w β (Z ++ (T ++ backS S0 S2 vs)) (ζ ++ (τ ++ σ)) H' Hs'
  | [], S, _, _, R => ⟨[], [], rfl, R, fun Z ζ S2 H' Hs' _ R' => R'⟩
  | v :: r, S, nd, e0, R => by
    obtain ⟨nv, nr⟩ := List.nodup_cons.mp nd
    obtain ⟨O, ο, ho, R1, back⟩ := Rep.aside hA hl S0 nr e0 R
    have R1' : Ev.Rep K w β ((A ++ (O ++ T)) ++ wipeS S r) ((α ++ (ο ++ τ)) ++ L2.wipe σ r) H Hs := by simpa only [List.append_assoc] using R1
    have R2 := Rep.takeD (v := v) (by simp [hA, ho, hl]) R1'
    have R2' : Ev.Rep K w β ((wipeS S r).getD v .un :: (A ++ (O ++ (T ++ wipeS S (v :: r))))) ((L2.wipe σ r).getD v none :: (α ++ (ο ++ (τ ++ L2.wipe σ (v :: r))))) H Hs := by
      have e1 : wipeS S (v :: r) = (wipeS S r).set v .un := rfl
      have e2 : L2.wipe σ (v :: r) = (L2.wipe σ r).set v none := rfl
      rw [e1, e2]
      simpa only [List.append_assoc] using R2
    refine ⟨(wipeS S r).getD v .un :: O, (L2.wipe σ r).getD v none :: ο, by simp [ho], R2'.unswap hA, fun Z ζ S2 H' Hs' hz R' => ?_⟩
    have R3 : Ev.Rep K w β (Z ++ ((wipeS S r).getD v .un :: ((O ++ T) ++ S2))) (ζ ++ ((L2.wipe σ r).getD v none :: ((ο ++ τ) ++ L2.wipe σ (v :: r)))) H' Hs' := by
      rw [List.append_assoc, List.append_assoc]; exact R'
    have R4 := R3.swap hz
    have R4' : Ev.Rep K w β ((wipeS S r).getD v .un :: ((Z ++ (O ++ T)) ++ S2)) ((L2.wipe σ r).getD v none :: ((ζ ++ (ο ++ τ)) ++ L2.wipe σ (v :: r))) H' Hs' := by
      simpa only [List.append_assoc] using R4
    have R5 := Rep.store (i := v) (by simp [hz, ho, hl]) R4'
    rw [wipe_back] at R5
    have R6 := back Z ζ (S2.set v ((wipeS S r).getD v .un)) H' Hs' hz (by simpa only [List.append_assoc] using R5)
    have ev : (wipeS S r).getD v .un = S0.getD v .un := by
      rw [List.getD_eq_getElem?_getD, List.getD_eq_getElem?_getD, wipeS_out nv, e0]
    rw [ev] at R6
    exact R6
theorem Rep.wipe (hl : T.length = τ.length) (R : Ev.Rep K w β (T ++ S) (τ ++ σ) H Hs) : ∀ vs : List Nat, Ev.Rep K w β (T ++ wipeS S vs) (τ ++ L2.wipe σ vs) H Hs
  | [] => R
  | v :: r => Rep.unset hl (Rep.wipe hl R r)
/-- an item more for a list in flight -/
theorem Rep.app {acc : List D} {y : D} {p : Addr} {v : V} (hA : A.length = α.length) (R : Ev.Rep K w β (A ++ (.ow (.l acc) :: S)) (α ++ (some (.ref p) :: σ)) H Hs) (q : Den K w Hs y v) :
    ∃ vs, H p = some (.lst vs) ∧ vs.length = acc.length ∧ Ev.Rep K w β (A ++ (.ow (.l (acc ++ [y])) :: S)) (α ++ (some (.ref p) :: σ)) (upd H p (.lst (vs ++ [v]))) Hs := by
  have hi : (A ++ (SV.ow (.l acc) :: S))[A.length]? = some (.ow (.l acc)) := by simp
  obtain ⟨a, fp, ea, oa, _, ch⟩ := Rep.change R hi rfl
  rw [hA] at ea
  have ea' : some (some (V.ref p)) = some (some (V.ref a)) := by simpa using ea
  cases ea'
  obtain ⟨rfl, vs, hv, qd⟩ := oa
  refine ⟨vs, hv, qd.len.symm, ?_⟩
  have := ch (upd H p (.lst (vs ++ [v]))) (.l (acc ++ [y])) (fun b hb => upd_ne (by simpa using hb)) ⟨rfl, _, upd_same, qd.append (DenL.cons q DenL.nil)⟩
  simpa [SV.put] using this
end

def noexc {α : Type} : Res α → Res α
  | .exc _ _ _ => .stuck
  | r => r
@[simp] theorem noexc_ok {α : Type} {a : α} {S : List SV} : noexc (.ok a S) = .ok a S := rfl
@[simp] theorem noexc_stuck {α : Type} : noexc (.stuck : Res α) = .stuck := rfl
def SV.shd : SV → Option D
  | .sh d => some d
  | .ow o => some o.D
  | _ => none
def yesT : M Bool := fun S => .ok true S
def lcL (vs : List Nat) (tg : Tg) (c : M Bool) (f : M SV) : List D → M (List D)
  | [] => fun S => .ok [] S
  | d :: ds => fun S => match tg.put d S with
    | none => .stuck
    | some S1 => (noexc (c S1)).bind fun b S2 => if b = true then (noexc (f S2)).bind fun r S3 => (match r.shd with
        | some y => (lcL vs tg c f ds (wipeS S3 vs)).bind fun ys S4 => .ok (y :: ys) S4
        | none => .stuck)
      else lcL vs tg c f ds (wipeS S2 vs)
def lcM (src : M Walk) (tg : Tg) (c : M Bool) (f : M SV) : M SV := fun S => (src S).bind fun wk S1 =>
  if wk.items.length ≤ sizeLine then (lcL tg.ixs tg c f wk.items (wipeS S1 tg.ixs)).bind fun ys S2 => .ok (.ow (.l ys)) (backS S1 S2 tg.ixs) else .stuck
def Ct.blk (C : Ct) : Ct := { C with W := fun _ _ _ _ => False }
/-- where a block's loop leads: P of the heap behind it -/
def EndsL (C : Ct) (U B : List SV) (υ b : List (Option V)) (p : Addr) (σw : L2.St) (acc : List D) (P : List D → List SV → Hp → Prop) (r : Res (List D)) : Prop :=
  match r with
  | .ok ys S2 => ∀ H Hs, C.Rep (U ++ (.ow (.l (acc ++ ys)) :: (B ++ S2))) (υ ++ (some (.ref p) :: (b ++ σw))) H Hs → P (acc ++ ys) S2 H
  | _ => False
theorem noexc_of {α γ : Type} {r : Res α} {k : α → M γ} (h : (noexc r).bind k ≠ .stuck) : ∃ a S, r = .ok a S := by
  cases r with
  | ok a S => exact ⟨a, S, rfl⟩
  | exc c d S => exact absurd rfl h
  | stuck => exact absurd rfl h
section
variable {C : Ct} {wk : Walk} {B : List SV} {υ b : List (Option V)} {p : Addr} {σ0 : L2.St} {J : It} {tg : Tg} {c : M Bool} {f : M SV} {vs : List Nat} {P : List D → List SV → Hp → Prop}
/-- the loop of a block, its invariant -/
theorem lc_loop (hu : wk.U.length = υ.length) (hb : B.length = b.length) (ok : IterOk C J wk υ) (htg : ∀ i ∈ tg.ixs, i ∈ vs) {S : List SV} {acc : List D} {H Hs : Hp} (hz : acc.length + wk.items.length ≤ sizeLine)
    (R : C.Rep (wk.U ++ (.ow (.l acc) :: (B ++ S))) (υ ++ (some (.ref p) :: (b ++ wipe σ0 vs))) H Hs) (g : EndsL C wk.U B υ b p (wipe σ0 vs) acc P (lcL vs tg c f wk.items S)) :
    ∃ W : Nat → Nat → Hp → Prop, (∃ m, W 0 m H) ∧ ∀ i m H, W i m H →
      (J.stop i H ∧ ∃ a S2, P a S2 H) ∨ (J.go i H ∧ ∃ Nx : Hp → Prop, (∀ H', Nx H' → ∃ m', m' < m ∧ W (i + 1) m' H') ∧ ∀ x H', J.yld i H x H' → Tg.rd C.K tg x (wipe σ0 vs) H' fun σ2 H2 => wipe σ2 vs = wipe σ0 vs ∧ tDT C.blk c σ2 H2 fun b H3 =>
        if b = true then tD C.blk f σ2 H3 fun y H4 => ∃ acc, H4 p = some (.lst acc) ∧ acc.length < sizeLine ∧ Nx (upd H4 p (.lst (acc ++ [y]))) else Nx H3) := by
  refine ⟨fun i m H => m = wk.items.length - i ∧ ∃ S acc Hs, acc.length + (wk.items.length - i) ≤ sizeLine ∧ C.Rep (wk.U ++ (.ow (.l acc) :: (B ++ S))) (υ ++ (some (.ref p) :: (b ++ wipe σ0 vs))) H Hs ∧ EndsL C wk.U B υ b p (wipe σ0 vs) acc P (lcL vs tg c f (wk.items.drop i) S),
    ⟨_, rfl, S, acc, Hs, by simpa using hz, R, g⟩, ?_⟩
  clear R g hz
  rintro i m H1 ⟨rfl, S1, acc1, Hs1, hz1, R1, g1⟩
  by_cases hlt : i < wk.items.length
  · refine .inr ?_
    have hd : wk.items[i]? = some wk.items[i] := List.getElem?_eq_getElem hlt
    obtain ⟨go, yld⟩ := (ok i _ _ H1 Hs1 R1).1 _ hd
    refine ⟨go, fun H' => ∃ S acc Hs, acc.length + (wk.items.length - (i + 1)) ≤ sizeLine ∧ C.Rep (wk.U ++ (.ow (.l acc) :: (B ++ S))) (υ ++ (some (.ref p) :: (b ++ wipe σ0 vs))) H' Hs ∧ EndsL C wk.U B υ b p (wipe σ0 vs) acc P (lcL vs tg c f (wk.items.drop (i + 1)) S),
      fun H' hN => ⟨_, by omega, rfl, hN⟩, fun x H' hy => ?_⟩
    obtain ⟨Hs', R3, q3, _⟩ := yld x H' hy
    rw [List.drop_eq_getElem_cons hlt] at g1
    have g2 : EndsL C wk.U B υ b p (wipe σ0 vs) acc1 P (match tg.put wk.items[i] S1 with
      | none => .stuck
      | some S1 => (noexc (c S1)).bind fun b S2 => if b = true then (noexc (f S2)).bind fun r S3 => (match r.shd with
          | some y => (lcL vs tg c f (wk.items.drop (i + 1)) (wipeS S3 vs)).bind fun ys S4 => .ok (y :: ys) S4
          | none => .stuck)
        else lcL vs tg c f (wk.items.drop (i + 1)) (wipeS S2 vs)) := g1
    cases ep : tg.put wk.items[i] S1 with
    | none => rw [ep] at g2; exact g2.elim
    | some S2 =>
      rw [ep] at g2
      have hl2 : (wk.U ++ (SV.ow (.l acc1) :: B)).length = (υ ++ (some (V.ref p) :: b)).length := by simp [hu, hb]
      have asc : ∀ {Y : List SV} {ξ : L2.St} {H' Hs' : Hp} {a : List D}, C.Rep (wk.U ++ (SV.ow (.l a) :: B) ++ Y) (υ ++ (some (V.ref p) :: b) ++ ξ) H' Hs' ↔ C.Rep (wk.U ++ (SV.ow (.l a) :: (B ++ Y))) (υ ++ (some (V.ref p) :: (b ++ ξ))) H' Hs' := by
        intros; rw [List.append_assoc, List.append_assoc]; exact Iff.rfl
      refine Tg.put_ok (C := C) (T := wk.U ++ (SV.ow (.l acc1) :: B)) (τ := υ ++ (some (V.ref p) :: b)) hl2 (asc.mpr R3) q3 ep fun σ2 R4 hw => ?_
      have hw2 : wipe σ2 vs = wipe σ0 vs := (hw vs htg).trans (wipe_wipe fun _ h => h)
      refine ⟨hw2, ?_⟩
      have g3 : EndsL C wk.U B υ b p (wipe σ0 vs) acc1 P ((noexc (c S2)).bind fun b S2 => if b = true then (noexc (f S2)).bind fun r S3 => (match r.shd with
          | some y => (lcL vs tg c f (wk.items.drop (i + 1)) (wipeS S3 vs)).bind fun ys S4 => .ok (y :: ys) S4
          | none => .stuck)
        else lcL vs tg c f (wk.items.drop (i + 1)) (wipeS S2 vs)) := g2
      refine ⟨S2, _, _, Hs', hl2, R4, ?_⟩
      cases ec : c S2 with
      | exc _ _ _ => rw [ec] at g3; exact g3.elim
      | stuck => rw [ec] at g3; exact g3.elim
      | ok t S3 =>
        rw [ec] at g3
        intro H5 Hs5 R5
        cases t with
        | false =>
          rw [if_neg (by decide)]
          have R6 := Rep.wipe hl2 R5 vs
          rw [hw2] at R6
          exact ⟨_, acc1, Hs5, by omega, asc.mp R6, g3⟩
        | true =>
          rw [if_pos rfl]
          have g4 : EndsL C wk.U B υ b p (wipe σ0 vs) acc1 P ((noexc (f S3)).bind fun r S3 => (match r.shd with
            | some y => (lcL vs tg c f (wk.items.drop (i + 1)) (wipeS S3 vs)).bind fun ys S4 => .ok (y :: ys) S4
            | none => .stuck)) := g3
          refine ⟨S3, _, _, Hs5, hl2, R5, ?_⟩
          cases ef : f S3 with
          | exc _ _ _ => rw [ef] at g4; exact g4.elim
          | stuck => rw [ef] at g4; exact g4.elim
          | ok r S4 =>
            rw [ef] at g4
            intro v H6 Hs6 R6
            have g5 : EndsL C wk.U B υ b p (wipe σ0 vs) acc1 P (match r.shd with
              | some y => (lcL vs tg c f (wk.items.drop (i + 1)) (wipeS S4 vs)).bind fun ys S4 => .ok (y :: ys) S4
              | none => .stuck) := g4
            cases ey : r.shd with
            | none => rw [ey] at g5; exact g5.elim
            | some y =>
              rw [ey] at g5
              obtain ⟨Hs7, R7, _⟩ := Rep.shr (R6 : Ev.Rep C.K C.w C.β (r :: (wk.U ++ (SV.ow (.l acc1) :: B) ++ S4)) (some v :: (υ ++ (some (V.ref p) :: b) ++ σ2)) H6 Hs6)
              have er : r.shr = .sh y := by
                cases r with
                | un => cases ey
                | sh d => cases ey; rfl
                | ow o => cases ey; rfl
                | bo j o => cases ey
              rw [er] at R7
              obtain ⟨v', ev, qy⟩ := Rep.sh R7 (i := 0) rfl
              have ev' : some (some v) = some (some v') := ev
              cases ev'
              have R8 := Rep.wipe hl2 R7.tail vs
              rw [hw2] at R8
              obtain ⟨ws, hp, hlw, R9⟩ := Rep.app hu (asc.mp R8) qy
              refine ⟨ws, hp, by omega, _, acc1 ++ [y], Hs7, by simp; omega, R9, ?_⟩
              cases el : lcL vs tg c f (wk.items.drop (i + 1)) (wipeS S4 vs) with
              | exc _ _ _ => rw [el] at g5; exact g5.elim
              | stuck => rw [el] at g5; exact g5.elim
              | ok ys S5 =>
                rw [el] at g5
                intro H9 Hs9 R10
                have := g5 H9 Hs9 (by simpa using R10)
                simpa using this
  · refine .inl ⟨(ok i _ _ H1 Hs1 R1).2 (by omega), acc1, S1, ?_⟩
    rw [List.drop_eq_nil_of_le (by omega)] at g1
    have := g1 H1 Hs1 (by simpa using R1)
    simpa using this
end
end Ev
end

section
set_option Elab.async false
set_option linter.all false
set_option maxRecDepth 100000
set_option maxHeartbeats 4000000
/-! Ev, part 10: list comprehensions of one clause, of two. -/
namespace Ev
open PySem PySem.Spec PyProof.Rows L2
section
variable {C : Ct} {T U : List SV} {τ υ : List (Option V)} {σ : L2.St} {S : List SV} {H Hs : Hp}
theorem tI_bind {γ : Type} {f : M Walk} {k : Walk → M γ} {Q : γ → List SV → Prop} {R1 : It → Hp → Prop} (hl : T.length = τ.length) (R : C.Rep (T ++ S) (τ ++ σ) H Hs) (g : C.Goes T τ σ ((f S).bind k) Q)
    (h : ∀ wk S1 υ J H1 Hs1, wk.U.length = υ.length → C.Rep (wk.U ++ (T ++ S1)) (υ ++ (τ ++ σ)) H1 Hs1 → IterOk C J wk υ → C.Goes T τ σ (k wk S1) Q → R1 J H1) : tI C f σ H R1 := by
  refine ⟨S, T, τ, Hs, hl, R, ?_⟩
  cases e : f S with
  | ok r S1 => rw [e] at g; exact fun υ J H' Hs' hu R' ok => h r S1 υ J H' Hs' hu R' ok g
  | exc c d S1 => rw [e] at g; exact g
  | stuck => rw [e] at g; exact g
theorem lcL_noexc {vs : List Nat} {tg : Tg} {c : M Bool} {f : M SV} : ∀ {ds : List D} {S : List SV} {a : Str} {b : D} {d : List SV}, lcL vs tg c f ds S = .exc a b d → False
  | [], S, a, b, d, h => by cases h
  | x :: ds, S, a, b, d, h => by
    unfold lcL at h
    cases ep : tg.put x S with
    | none => rw [ep] at h; cases h
    | some S1 =>
      rw [ep] at h
      dsimp only at h
      cases ec : c S1 with
      | exc _ _ _ => rw [ec] at h; cases h
      | stuck => rw [ec] at h; cases h
      | ok t S2 =>
        rw [ec] at h
        have h1 : (if t = true then (noexc (f S2)).bind fun r S3 => (match r.shd with
            | some y => (lcL vs tg c f ds (wipeS S3 vs)).bind fun ys S4 => .ok (y :: ys) S4
            | none => .stuck)
          else lcL vs tg c f ds (wipeS S2 vs)) = Res.exc a b d := h
        cases t with
        | false => rw [if_neg (by decide)] at h1; exact lcL_noexc h1
        | true =>
          rw [if_pos rfl] at h1
          cases ef : f S2 with
          | exc _ _ _ => rw [ef] at h1; cases h1
          | stuck => rw [ef] at h1; cases h1
          | ok r S3 =>
            rw [ef] at h1
            have h2 : (match r.shd with
              | some y => (lcL vs tg c f ds (wipeS S3 vs)).bind fun ys S4 => Res.ok (y :: ys) S4
              | none => Res.stuck) = Res.exc a b d := h1
            cases ey : r.shd with
            | none => rw [ey] at h2; cases h2
            | some y =>
              rw [ey] at h2
              cases el : lcL vs tg c f ds (wipeS S3 vs) with
              | ok ys S4 => rw [el] at h2; cases h2
              | stuck => rw [el] at h2; cases h2
              | exc a' b' d' => exact lcL_noexc el
theorem lc_imp {src : M Walk} {tg : Tg} {c : M Bool} {f : M SV} {Q : VK} (nd : tg.ixs.Nodup) (h : tD C (lcM src tg c f) σ H Q) : tLc (tI C src) (tg.rd C.K) (tDT C.blk c) (tD C.blk f) tg.ixs σ H Q := by
  obtain ⟨S, T, τ, Hs, hl, R, g⟩ := h
  refine tI_bind hl R g fun wk S1 υ J H1 Hs1 hu R1 ok g1 => fun p hp => ?_
  have g2 : C.Goes T τ σ (if wk.items.length ≤ sizeLine then (lcL tg.ixs tg c f wk.items (wipeS S1 tg.ixs)).bind fun ys S2 => Res.ok (SV.ow (.l ys)) (backS S1 S2 tg.ixs) else Res.stuck)
    (fun r S' => ∀ v H' Hs', C.Rep (r :: (T ++ S')) (some v :: (τ ++ σ)) H' Hs' → Q v H') := g1
  by_cases hz : wk.items.length ≤ sizeLine
  · rw [if_pos hz] at g2
    obtain ⟨O, ο, ho, R2, back⟩ := Rep.aside (K := C.K) (w := C.w) (β := C.β) hu hl S1 nd (fun _ => rfl) R1
    have R3 : C.Rep (SV.ow (.l []) :: (wk.U ++ (O ++ (T ++ wipeS S1 tg.ixs)))) (some (V.ref p) :: (υ ++ (ο ++ (τ ++ L2.wipe σ tg.ixs)))) (upd H1 p (.lst [])) Hs1 := Rep.new_ow R2 hp ⟨rfl, [], upd_same, DenL.nil⟩
    have R4 := Rep.unswap hu R3
    have R5 : C.Rep (wk.U ++ (SV.ow (.l []) :: ((O ++ T) ++ wipeS S1 tg.ixs))) (υ ++ (some (V.ref p) :: ((ο ++ τ) ++ L2.wipe σ tg.ixs))) (upd H1 p (.lst [])) Hs1 := by
      rw [List.append_assoc, List.append_assoc]; exact R4
    have L := lc_loop (C := C) (P := fun _ _ H => Q (.ref p) H) hu (by simp [ho, hl] : (O ++ T).length = (ο ++ τ).length) ok (fun i hi => hi) (by simpa using hz) R5 (by
      show EndsL C wk.U (O ++ T) υ (ο ++ τ) p (L2.wipe σ tg.ixs) [] _ (lcL tg.ixs tg c f wk.items (wipeS S1 tg.ixs))
      cases e : lcL tg.ixs tg c f wk.items (wipeS S1 tg.ixs) with
      | exc a b d =>
        -- a block lets nothing out
        exfalso
        exact lcL_noexc e
      | stuck => rw [e] at g2; exact g2.elim
      | ok ys S2 =>
        rw [e] at g2
        intro H' Hs' R'
        refine g2 (.ref p) H' Hs' ?_
        have R6 := Rep.dropU hu R'
        exact back [SV.ow (.l ys)] [some (V.ref p)] S2 H' Hs' rfl (by simpa using R6))
    obtain ⟨W, h0, hW⟩ := L
    refine ⟨W, h0, fun i m H hi => ?_⟩
    rcases hW i m H hi with ⟨hs, _, _, hq⟩ | h
    · exact .inl ⟨hs, hq⟩
    · exact .inr h
  · rw [if_neg hz] at g2; exact g2.elim
end
end Ev
end

section
set_option Elab.async false
set_option linter.all false
set_option maxRecDepth 100000
set_option maxHeartbeats 4000000
/-! Ev, part 11: list comprehensions of two clauses. -/
namespace Ev
open PySem PySem.Spec PyProof.Rows L2
def lc2L (vs vs1 : List Nat) (tg : Tg) (c : M Bool) (src1 : M Walk) (tg1 : Tg) (c1 : M Bool) (f : M SV) : Nat → List D → M (List D)
  | _, [] => fun S => .ok [] S
  | k, d :: ds => fun S => match tg.put d S with
    | none => .stuck
    | some S1 => (noexc (c S1)).bind fun b S2 => if b = true then (noexc (src1 S2)).bind fun wk S3 => (if k + wk.items.length ≤ sizeLine then
          (lcL vs1 tg1 c1 f wk.items (wipeS S3 vs1)).bind fun ys S4 => (lc2L vs vs1 tg c src1 tg1 c1 f (k + ys.length) ds (wipeS S4 vs)).bind fun zs S5 => .ok (ys ++ zs) S5
        else .stuck)
      else lc2L vs vs1 tg c src1 tg1 c1 f k ds (wipeS S2 vs)
def lc2M (src : M Walk) (tg : Tg) (c : M Bool) (src1 : M Walk) (tg1 : Tg) (c1 : M Bool) (f : M SV) : M SV := fun S => (src S).bind fun wk S1 =>
  (noexc (lc2L (tg.ixs ++ tg1.ixs) tg1.ixs tg c src1 tg1 c1 f 0 wk.items (wipeS S1 (tg.ixs ++ tg1.ixs)))).bind fun ys S2 => .ok (.ow (.l ys)) (backS S1 S2 (tg.ixs ++ tg1.ixs))
theorem lcL_len {vs : List Nat} {tg : Tg} {c : M Bool} {f : M SV} : ∀ {ds : List D} {S : List SV} {ys : List D} {S' : List SV}, lcL vs tg c f ds S = .ok ys S' → ys.length ≤ ds.length
  | [], S, ys, S', h => by cases h; exact Nat.le_refl _
  | x :: ds, S, ys, S', h => by
    unfold lcL at h
    cases ep : tg.put x S with
    | none => rw [ep] at h; cases h
    | some S1 =>
      rw [ep] at h
      dsimp only at h
      cases ec : c S1 with
      | exc _ _ _ => rw [ec] at h; cases h
      | stuck => rw [ec] at h; cases h
      | ok t S2 =>
        rw [ec] at h
        have h1 : (if t = true then (noexc (f S2)).bind fun r S3 => (match r.shd with
            | some y => (lcL vs tg c f ds (wipeS S3 vs)).bind fun ys S4 => .ok (y :: ys) S4
            | none => .stuck)
          else lcL vs tg c f ds (wipeS S2 vs)) = Res.ok ys S' := h
        cases t with
        | false => rw [if_neg (by decide)] at h1; exact Nat.le_succ_of_le (lcL_len h1)
        | true =>
          rw [if_pos rfl] at h1
          cases ef : f S2 with
          | exc _ _ _ => rw [ef] at h1; cases h1
          | stuck => rw [ef] at h1; cases h1
          | ok r S3 =>
            rw [ef] at h1
            have h2 : (match r.shd with
              | some y => (lcL vs tg c f ds (wipeS S3 vs)).bind fun ys S4 => Res.ok (y :: ys) S4
              | none => Res.stuck) = Res.ok ys S' := h1
            cases ey : r.shd with
            | none => rw [ey] at h2; cases h2
            | some y =>
              rw [ey] at h2
              cases el : lcL vs tg c f ds (wipeS S3 vs) with
              | ok zs S4 =>
                rw [el] at h2
                cases h2
                have := lcL_len el
                simp; omega
              | stuck => rw [el] at h2; cases h2
              | exc a' b' d' => exact (lcL_noexc el).elim
section
variable {C : Ct} {T : List SV} {τ : List (Option V)} {σ : L2.St} {S : List SV} {H Hs : Hp}
theorem lc2_imp {src src1 : M Walk} {tg tg1 : Tg} {c c1 : M Bool} {f : M SV} {Q : VK} (nd : (tg.ixs ++ tg1.ixs).Nodup) (h : tD C (lc2M src tg c src1 tg1 c1 f) σ H Q) :
    tLc2 (tI C src) (tg.rd C.K) (tDT C.blk c) (tI C.blk src1) (tg1.rd C.K) (tDT C.blk c1) (tD C.blk f) (tg.ixs ++ tg1.ixs) tg1.ixs σ H Q := by
  obtain ⟨S, T, τ, Hs, hl, R, g⟩ := h
  refine tI_bind hl R g fun wk S1 υ J H1 Hs1 hu R1 ok g1 => fun p hp => ?_
  generalize hvs : tg.ixs ++ tg1.ixs = vs at *
  have g2 : C.Goes T τ σ ((noexc (lc2L vs tg1.ixs tg c src1 tg1 c1 f 0 wk.items (wipeS S1 vs))).bind fun ys S2 => Res.ok (SV.ow (.l ys)) (backS S1 S2 vs))
    (fun r S' => ∀ v H' Hs', C.Rep (r :: (T ++ S')) (some v :: (τ ++ σ)) H' Hs' → Q v H') := g1
  clear g1 g
  have htg : ∀ i ∈ tg.ixs, i ∈ vs := fun i hi => by rw [← hvs]; simp [hi]
  have htg1 : ∀ i ∈ tg1.ixs, i ∈ vs := fun i hi => by rw [← hvs]; simp [hi]
  obtain ⟨O, ο, ho, R2, back⟩ := Rep.aside (K := C.K) (w := C.w) (β := C.β) hu hl S1 nd (fun _ => rfl) R1
  have R3 : C.Rep (SV.ow (.l []) :: (wk.U ++ (O ++ (T ++ wipeS S1 vs)))) (some (V.ref p) :: (υ ++ (ο ++ (τ ++ L2.wipe σ vs)))) (upd H1 p (.lst [])) Hs1 := Rep.new_ow R2 hp ⟨rfl, [], upd_same, DenL.nil⟩
  have R4 := Rep.unswap hu R3
  have hb : (O ++ T).length = (ο ++ τ).length := by simp [ho, hl]
  have R5 : C.Rep (wk.U ++ (SV.ow (.l []) :: ((O ++ T) ++ wipeS S1 vs))) (υ ++ (some (V.ref p) :: ((ο ++ τ) ++ L2.wipe σ vs))) (upd H1 p (.lst [])) Hs1 := by
    rw [List.append_assoc, List.append_assoc]; exact R4
  -- where the outer loop leads
  have g3 : EndsL C wk.U (O ++ T) υ (ο ++ τ) p (L2.wipe σ vs) [] (fun _ _ H => Q (.ref p) H) (lc2L vs tg1.ixs tg c src1 tg1 c1 f 0 wk.items (wipeS S1 vs)) := by
    cases e : lc2L vs tg1.ixs tg c src1 tg1 c1 f 0 wk.items (wipeS S1 vs) with
    | exc a b d => rw [e] at g2; exact g2.elim
    | stuck => rw [e] at g2; exact g2.elim
    | ok ys S2 =>
      rw [e] at g2
      intro H' Hs' R'
      refine g2 (.ref p) H' Hs' ?_
      have R6 := Rep.dropU hu R'
      exact back [SV.ow (.l ys)] [some (V.ref p)] S2 H' Hs' rfl (by simpa using R6)
  clear g2 back R1 R2 R3 R4
  refine ⟨fun i m H => m = wk.items.length - i ∧ ∃ S acc Hs, C.Rep (wk.U ++ (.ow (.l acc) :: ((O ++ T) ++ S))) (υ ++ (some (.ref p) :: ((ο ++ τ) ++ L2.wipe σ vs))) H Hs ∧ EndsL C wk.U (O ++ T) υ (ο ++ τ) p (L2.wipe σ vs) acc (fun _ _ H => Q (.ref p) H) (lc2L vs tg1.ixs tg c src1 tg1 c1 f acc.length (wk.items.drop i) S),
    ⟨_, rfl, _, [], Hs1, R5, g3⟩, ?_⟩
  clear R5 g3 hp
  rintro i m H1 ⟨rfl, S1, acc1, Hs1, R1, g1⟩
  by_cases hlt : i < wk.items.length
  · refine .inr ?_
    have hd : wk.items[i]? = some wk.items[i] := List.getElem?_eq_getElem hlt
    obtain ⟨go, yld⟩ := (ok i _ _ H1 Hs1 R1).1 _ hd
    refine ⟨go, fun H' => ∃ S acc Hs, C.Rep (wk.U ++ (.ow (.l acc) :: ((O ++ T) ++ S))) (υ ++ (some (.ref p) :: ((ο ++ τ) ++ L2.wipe σ vs))) H' Hs ∧ EndsL C wk.U (O ++ T) υ (ο ++ τ) p (L2.wipe σ vs) acc (fun _ _ H => Q (.ref p) H) (lc2L vs tg1.ixs tg c src1 tg1 c1 f acc.length (wk.items.drop (i + 1)) S),
      fun H' hN => ⟨_, by omega, rfl, hN⟩, fun x H' hy => ?_⟩
    obtain ⟨Hs', R3, q3, _⟩ := yld x H' hy
    rw [List.drop_eq_getElem_cons hlt] at g1
    unfold lc2L at g1
    cases ep : tg.put wk.items[i] S1 with
    | none => rw [ep] at g1; exact g1.elim
    | some S2 =>
      rw [ep] at g1
      dsimp only at g1
      have hl2 : (wk.U ++ (SV.ow (.l acc1) :: (O ++ T))).length = (υ ++ (some (V.ref p) :: (ο ++ τ))).length := by simp [hu, ho, hl]
      have asc : ∀ {Y : List SV} {ξ : L2.St} {H' Hs' : Hp} {a : List D}, C.Rep (wk.U ++ (SV.ow (.l a) :: (O ++ T)) ++ Y) (υ ++ (some (V.ref p) :: (ο ++ τ)) ++ ξ) H' Hs' ↔ C.Rep (wk.U ++ (SV.ow (.l a) :: ((O ++ T) ++ Y))) (υ ++ (some (V.ref p) :: ((ο ++ τ) ++ ξ))) H' Hs' := by
        intros; rw [List.append_assoc wk.U, List.append_assoc υ]; exact Iff.rfl
      refine Tg.put_ok (C := C) (T := wk.U ++ (SV.ow (.l acc1) :: (O ++ T))) (τ := υ ++ (some (V.ref p) :: (ο ++ τ))) hl2 (asc.mpr R3) q3 ep fun σ2 R4 hw => ?_
      have hw2 : L2.wipe σ2 vs = L2.wipe σ vs := (hw vs htg).trans (wipe_wipe fun _ h => h)
      refine ⟨hw2, ?_⟩
      refine ⟨S2, _, _, Hs', hl2, R4, ?_⟩
      cases ec : c S2 with
      | exc _ _ _ => rw [ec] at g1; exact g1.elim
      | stuck => rw [ec] at g1; exact g1.elim
      | ok t S3 =>
        rw [ec] at g1
        rw [noexc_ok, Res.bind_ok] at g1
        intro H5 Hs5 R5
        cases t with
        | false =>
          rw [if_neg (by decide)] at g1 ⊢
          have R6 := Rep.wipe hl2 R5 vs
          rw [hw2] at R6
          exact ⟨_, acc1, Hs5, asc.mp R6, g1⟩
        | true =>
          rw [if_pos rfl] at g1 ⊢
          refine ⟨S3, _, _, Hs5, hl2, R5, ?_⟩
          cases es : src1 S3 with
          | exc _ _ _ => rw [es] at g1; exact g1.elim
          | stuck => rw [es] at g1; exact g1.elim
          | ok wk1 S4 =>
            rw [es, noexc_ok, Res.bind_ok] at g1
            intro υ1 J1 H6 Hs6 hu1 R6 ok1
            by_cases hz : acc1.length + wk1.items.length ≤ sizeLine
            · rw [if_pos hz] at g1
              have R7 : C.Rep (wk1.U ++ ((wk.U ++ (SV.ow (.l acc1) :: (O ++ T))) ++ wipeS S4 tg1.ixs)) (υ1 ++ ((υ ++ (some (V.ref p) :: (ο ++ τ))) ++ L2.wipe σ2 tg1.ixs)) H6 Hs6 := by
                have := Rep.wipe (T := wk1.U ++ (wk.U ++ (SV.ow (.l acc1) :: (O ++ T)))) (τ := υ1 ++ (υ ++ (some (V.ref p) :: (ο ++ τ)))) (by simp [hu1, hu, ho, hl]) (by rw [List.append_assoc wk1.U, List.append_assoc υ1]; exact R6) tg1.ixs
                rw [List.append_assoc wk1.U, List.append_assoc υ1] at this
                exact this
              have R8 : C.Rep (wk1.U ++ (SV.ow (.l acc1) :: ((wk.U ++ (O ++ T)) ++ wipeS S4 tg1.ixs))) (υ1 ++ (some (V.ref p) :: ((υ ++ (ο ++ τ)) ++ L2.wipe σ2 tg1.ixs))) H6 Hs6 := by
                have a1 : C.Rep ((wk1.U ++ wk.U) ++ (SV.ow (.l acc1) :: ((O ++ T) ++ wipeS S4 tg1.ixs))) ((υ1 ++ υ) ++ (some (V.ref p) :: ((ο ++ τ) ++ L2.wipe σ2 tg1.ixs))) H6 Hs6 := by
                  simpa only [List.append_assoc, List.cons_append] using R7
                have a2 := Rep.swap (by simp [hu1, hu]) a1
                have a3 : C.Rep (SV.ow (.l acc1) :: (wk1.U ++ ((wk.U ++ (O ++ T)) ++ wipeS S4 tg1.ixs))) (some (V.ref p) :: (υ1 ++ ((υ ++ (ο ++ τ)) ++ L2.wipe σ2 tg1.ixs))) H6 Hs6 := by
                  simpa only [List.append_assoc] using a2
                exact Rep.unswap hu1 a3
              have L := lc_loop (C := C) (tg := tg1) (c := c1) (f := f) (vs := tg1.ixs) (σ0 := σ2) (B := wk.U ++ (O ++ T)) (b := υ ++ (ο ++ τ))
                (P := fun _ _ H' => ∃ S acc Hs, C.Rep (wk.U ++ (.ow (.l acc) :: ((O ++ T) ++ S))) (υ ++ (some (.ref p) :: ((ο ++ τ) ++ L2.wipe σ vs))) H' Hs ∧ EndsL C wk.U (O ++ T) υ (ο ++ τ) p (L2.wipe σ vs) acc (fun _ _ H => Q (.ref p) H) (lc2L vs tg1.ixs tg c src1 tg1 c1 f acc.length (wk.items.drop (i + 1)) S))
                hu1 (by simp [hu, ho, hl]) ok1 (fun _ h => h) hz R8 (by
                  cases el : lcL tg1.ixs tg1 c1 f wk1.items (wipeS S4 tg1.ixs) with
                  | exc _ _ _ => exact (lcL_noexc el).elim
                  | stuck => rw [el] at g1; exact g1.elim
                  | ok ys S5 =>
                    rw [el, Res.bind_ok] at g1
                    intro H9 Hs9 R9
                    have b1 := Rep.dropU hu1 R9
                    have b2 : C.Rep (SV.ow (.l (acc1 ++ ys)) :: (wk.U ++ ((O ++ T) ++ S5))) (some (V.ref p) :: (υ ++ ((ο ++ τ) ++ L2.wipe σ2 tg1.ixs))) H9 Hs9 := by
                      simpa only [List.append_assoc] using b1
                    have b3 := Rep.unswap hu b2
                    have b4 := Rep.wipe (T := wk.U ++ (SV.ow (.l (acc1 ++ ys)) :: (O ++ T))) (τ := υ ++ (some (V.ref p) :: (ο ++ τ))) (by simp [hu, ho, hl]) (asc.mpr b3) vs
                    rw [wipe_wipe htg1, hw2] at b4
                    refine ⟨_, acc1 ++ ys, Hs9, asc.mp b4, ?_⟩
                    rw [List.length_append]
                    cases ez : lc2L vs tg1.ixs tg c src1 tg1 c1 f (acc1.length + ys.length) (wk.items.drop (i + 1)) (wipeS S5 vs) with
                    | exc _ _ _ => rw [ez] at g1; exact g1.elim
                    | stuck => rw [ez] at g1; exact g1.elim
                    | ok zs S6 =>
                      rw [ez] at g1
                      intro H10 Hs10 R10
                      exact g1 H10 Hs10 (by simpa using R10))
              obtain ⟨W1, h0, hW⟩ := L
              refine ⟨W1, h0, fun j k H hj => ?_⟩
              rcases hW j k H hj with ⟨hs, _, _, hq⟩ | h
              · exact .inl ⟨hs, hq⟩
              · exact .inr h
            · rw [if_neg hz] at g1; exact g1.elim
  · refine .inl ⟨(ok i _ _ H1 Hs1 R1).2 (by omega), ?_⟩
    rw [List.drop_eq_nil_of_le (by omega)] at g1
    have := g1 H1 Hs1 (by simpa using R1)
    exact this
end
end Ev
end

section
set_option Elab.async false
set_option linter.all false
set_option maxRecDepth 100000
set_option maxHeartbeats 4000000
/-! Ev, part 12: a def's promise by its function; calls. -/
namespace Ev
open PySem PySem.Spec PyProof.Rows L2
section
variable {K : PySem.W.Frag} {w : World} {β β' : Nat → Addr} {S L A : List SV} {σ l a : List (Option V)} {H Hs : Hp}
/-- entries chosen, each once, or forgotten -/
theorem Rep.pick {S' : List SV} {σ' : List (Option V)} (R : Ev.Rep K w β S σ H Hs) (φ : Nat → Nat) (hl : S'.length = σ'.length)
    (h : ∀ i, i < S'.length → S'[i]? = some .un ∨ (φ i < S.length ∧ S'[i]? = S[φ i]? ∧ σ'[i]? = σ[φ i]?)) (inj : ∀ i j, i < S'.length → j < S'.length → S'[i]? ≠ some .un → S'[j]? ≠ some .un → φ i = φ j → i = j) : Ev.Rep K w β S' σ' H Hs := by
  obtain ⟨F, h1, h2, h3⟩ := R.ex
  let G : Nat → List Addr := fun i => match S'[i]? with
    | some .un => []
    | _ => F (φ i)
  have hG : ∀ i, i < S'.length → (S'[i]? = some .un ∧ G i = []) ∨ (φ i < S.length ∧ S'[i]? = S[φ i]? ∧ σ'[i]? = σ[φ i]? ∧ S'[i]? ≠ some .un ∧ G i = F (φ i)) := fun i hi => by
    by_cases hu : S'[i]? = some .un
    · refine .inl ⟨hu, ?_⟩
      show (match S'[i]? with | some .un => [] | _ => F (φ i)) = []
      rw [hu]
    · rcases h i hi with z | ⟨q1, q2, q3⟩
      · exact absurd z hu
      · refine .inr ⟨q1, q2, q3, hu, ?_⟩
        show (match S'[i]? with | some .un => [] | _ => F (φ i)) = F (φ i)
        split
        · rename_i e; exact absurd e hu
        · rfl
  refine ⟨hl, R.sub, G, fun i s x e1 e2 => ?_, fun i j b hi hj ha hb => ?_, fun i b hi ha => ?_⟩
  · have hi : i < S'.length := (List.getElem?_eq_some_iff.mp e1).1
    rcases hG i hi with ⟨z, g⟩ | ⟨q1, q2, q3, _, g⟩
    · rw [z] at e1; cases e1; rw [g]; exact (rfl : ([] : List Addr) = [])
    · rw [g]; exact h1 _ s x (q2 ▸ e1) (q3 ▸ e2)
  · rcases hG i hi with ⟨z, g⟩ | ⟨q1, q2, q3, n, g⟩
    · rw [g] at ha; simp at ha
    · rcases hG j hj with ⟨z', g'⟩ | ⟨q1', q2', q3', n', g'⟩
      · rw [g'] at hb; simp at hb
      · rw [g] at ha; rw [g'] at hb
        exact inj i j hi hj n n' (h2 _ _ b q1 q1' ha hb)
  · rcases hG i hi with ⟨z, g⟩ | ⟨q1, q2, q3, n, g⟩
    · rw [g] at ha; simp at ha
    · rw [g] at ha; exact h3 _ b q1 ha
theorem Rep.rot (hA : A.length = a.length) (R : Ev.Rep K w β (A ++ L) (a ++ l) H Hs) : Ev.Rep K w β (L ++ A) (l ++ a) H Hs := by
  have hL : L.length = l.length := by have := R.len; simp at this; omega
  refine R.sel (fun i => if i < L.length then A.length + i else i - L.length) (by simp [hA, hL]) (fun i hi => ?_) (fun i j hi hj e => ?_)
  · have hi' : i < L.length + A.length := by simpa using hi
    by_cases h : i < L.length
    · rw [if_pos h]
      refine ⟨by simp; omega, ?_, ?_⟩
      · rw [List.getElem?_append_left h, skip]
      · rw [List.getElem?_append_left (by omega), hA, skip]
    · rw [if_neg h]
      refine ⟨by simp; omega, ?_, ?_⟩
      · rw [List.getElem?_append_right (by omega), List.getElem?_append_left (by omega)]
      · rw [List.getElem?_append_right (by omega), List.getElem?_append_left (by omega), hL]
  · have hi' : i < L.length + A.length := by simpa using hi
    have hj' : j < L.length + A.length := by simpa using hj
    have e' : (if i < L.length then A.length + i else i - L.length) = (if j < L.length then A.length + j else j - L.length) := e
    split at e' <;> split at e' <;> omega
theorem Rep.uns : ∀ (n : Nat), Ev.Rep K w β L l H Hs → Ev.Rep K w β (List.replicate n .un ++ L) (List.replicate n none ++ l) H Hs
  | 0, R => R
  | n + 1, R => by rw [List.replicate_succ, List.replicate_succ]; exact Rep.push_un (Rep.uns n R)
theorem Rep.pushL : ∀ {ds : List D} {vs : List V}, Ev.Rep K w β L l H Hs → DenL K w Hs ds vs → Ev.Rep K w β (ds.map .sh ++ L) (vs.map some ++ l) H Hs
  | [], vs, R, q => by rw [DenL.nil_iff] at q; subst q; exact R
  | d :: ds, vs, R, q => by
    rw [DenL.cons_iff] at q
    obtain ⟨v, r, rfl, q1, q2⟩ := q
    exact Rep.push_sh (Rep.pushL R q2) q1

/-! ### tags -/
def SV.unt : SV → SV
  | .bo _ o => .ow o
  | s => s
theorem Slot.unt {s : SV} {x : Option V} {fp : List Addr} (q : Slot K w β H Hs s x fp) : Slot K w β' H Hs s.unt x fp := by
  cases s with
  | un => exact q
  | sh d => exact q
  | ow o => exact q
  | bo j o => obtain ⟨rfl, q⟩ := q; exact ⟨_, rfl, q⟩
theorem Slot.tag {s : SV} {x : Option V} {fp : List Addr} (q : Slot K w β' H Hs s.unt x fp) (h : ∀ j o, s = .bo j o → x = some (.ref (β j))) : Slot K w β H Hs s x fp := by
  cases s with
  | un => exact q
  | sh d => exact q
  | ow o => exact q
  | bo j o =>
    have e := h j o rfl
    subst e
    obtain ⟨b, eb, q⟩ := q
    cases eb
    exact ⟨rfl, q⟩
theorem Rep.unt (R : Ev.Rep K w β S σ H Hs) : Ev.Rep K w β' (S.map SV.unt) σ H Hs := by
  obtain ⟨F, h1, h2, h3⟩ := R.ex
  refine ⟨by simp [R.len], R.sub, F, fun i s x e1 e2 => ?_, fun i j b hi hj => h2 i j b (by simpa using hi) (by simpa using hj), fun i b hi => h3 i b (by simpa using hi)⟩
  rw [List.getElem?_map] at e1
  cases e : S[i]? with
  | none => rw [e] at e1; cases e1
  | some s0 => rw [e] at e1; cases e1; exact (h1 i s0 x e e2).unt
theorem Rep.tag (R : Ev.Rep K w β' (S.map SV.unt) σ H Hs) (h : ∀ (i j : Nat) (o : Own), S[i]? = some (.bo j o) → σ[i]? = some (some (.ref (β j)))) : Ev.Rep K w β S σ H Hs := by
  obtain ⟨F, h1, h2, h3⟩ := R.ex
  refine ⟨by have := R.len; simpa using this, R.sub, F, fun i s x e1 e2 => ?_, fun i j b hi hj => h2 i j b (by simpa using hi) (by simpa using hj), fun i b hi => h3 i b (by simpa using hi)⟩
  refine (h1 i s.unt x (by rw [List.getElem?_map, e1]; rfl) e2).tag fun j o es => ?_
  subst es
  rw [h i j o e1] at e2
  cases e2
  rfl
theorem Rep.tags (R : Ev.Rep K w β S σ H Hs) (i j : Nat) (o : Own) (e : S[i]? = some (.bo j o)) : σ[i]? = some (some (.ref (β j))) := by
  obtain ⟨x, ex, fp, q⟩ := R.at e
  rw [ex, q.1]
end

/-! ### a def's promise -/
abbrev Fn := List SV → Res SV
/-- F over the arguments: shared ones, one borrowed at most -/
def spF (K : PySem.W.Frag) (w : World) (mg : Str → Option Value) (F : Fn) : Sp := fun vs H Q E => ∃ A T τ Hs β, T.length = τ.length ∧ Ev.Rep K w β (T ++ A) (τ ++ vs.map some) H Hs ∧ (match F A with
  | .ok r A' => ∀ v H' Hs', Ev.Rep K w β (r :: (T ++ A')) (some v :: (τ ++ vs.map some)) H' Hs' → Q v H'
  | .exc c d A' => ∀ Cl dx vv H' Hs', mg c = some (.ref Cl) → Hs' dx = some (.xd [(("value" : Str), vv)]) → Den K w Hs' d vv → Ev.Rep K w β (T ++ A') (τ ++ vs.map some) H' Hs' → E (.ref Cl) (some dx) H'
  | .stuck => False)
/-- what is left of the arguments: the borrowed one -/
def finA : List SV → List SV → Option (List SV)
  | [], _ => some []
  | .bo j _ :: A, .bo j' o' :: S => if j = j' then (finA A S).map (.bo j o' :: ·) else none
  | .bo _ _ :: _, _ => none
  | _ :: A, _ :: S => (finA A S).map (.un :: ·)
  | _ :: _, [] => none
/-- a def of np parameters by its body: n more slots -/
def runDef (np n : Nat) (b : MS) : Fn := fun A => if A.length = np then runBody n b A else .stuck
where runBody (n : Nat) (b : MS) : Fn := fun A => match b (A ++ List.replicate n .un) with
  | .ok (.rt r) S' => (match finA A S' with
    | some A' => .ok r A'
    | none => .stuck)
  | .ok .nx S' => (match finA A S' with
    | some A' => .ok (.sh .non) A'
    | none => .stuck)
  | .exc c d S' => (match finA A S' with
    | some A' => .exc c d A'
    | none => .stuck)
  | _ => .stuck
theorem finA_len : ∀ {A S A' : List SV}, finA A S = some A' → A'.length = A.length ∧ A.length ≤ S.length
  | [], S, A', h => by unfold finA at h; cases h; exact ⟨rfl, Nat.zero_le _⟩
  | a :: A, S, A', h => by
    cases S with
    | nil => cases a <;> (unfold finA at h; cases h)
    | cons s S =>
      have key : ∀ {s0 : SV}, (finA A S).map (s0 :: ·) = some A' → A'.length = (a :: A).length ∧ (a :: A).length ≤ (s :: S).length := fun {s0} e => by
        cases e1 : finA A S with
        | none => rw [e1] at e; cases e
        | some A1 =>
          rw [e1] at e
          cases e
          obtain ⟨h1, h2⟩ := finA_len e1
          exact ⟨by simp [h1], by simp [h2]⟩
      cases a with
      | un => unfold finA at h; exact key h
      | sh d => unfold finA at h; exact key h
      | ow o => unfold finA at h; exact key h
      | bo j o =>
        cases s with
        | bo j' o' =>
          unfold finA at h
          split at h
          · exact key h
          · cases h
        | _ => unfold finA at h; cases h
theorem finA_at : ∀ {A S A' : List SV} {i : Nat} {s : SV}, finA A S = some A' → A'[i]? = some s → s = .un ∨ ∃ j o o', s = .bo j o' ∧ S[i]? = some (.bo j o') ∧ A[i]? = some (.bo j o)
  | [], S, A', i, s, h, e => by unfold finA at h; cases h; simp at e
  | a :: A, S, A', i, s, h, e => by
    cases S with
    | nil => cases a <;> (unfold finA at h; cases h)
    | cons t S =>
      have key : ∀ {s0 : SV}, (s0 = .un ∨ ∃ j o o', s0 = .bo j o' ∧ t = .bo j o' ∧ a = .bo j o) → (finA A S).map (s0 :: ·) = some A' → s = .un ∨ ∃ j o o', s = .bo j o' ∧ (t :: S)[i]? = some (.bo j o') ∧ (a :: A)[i]? = some (.bo j o) := fun {s0} h0 e' => by
        cases e1 : finA A S with
        | none => rw [e1] at e'; cases e'
        | some A1 =>
          rw [e1] at e'
          cases e'
          cases i with
          | zero =>
            have : s0 = s := by simpa using e
            subst this
            rcases h0 with z | ⟨j, o, o', z1, z2, z3⟩
            · exact .inl z
            · exact .inr ⟨j, o, o', z1, by simp [z2], by simp [z3]⟩
          | succ i =>
            rcases finA_at (i := i) e1 (by simpa using e) with z | ⟨j, o, o', z1, z2, z3⟩
            · exact .inl z
            · exact .inr ⟨j, o, o', z1, by simpa using z2, by simpa using z3⟩
      cases a with
      | un => unfold finA at h; exact key (.inl rfl) h
      | sh d => unfold finA at h; exact key (.inl rfl) h
      | ow o => unfold finA at h; exact key (.inl rfl) h
      | bo j o =>
        cases t with
        | bo j' o' =>
          unfold finA at h
          split at h
          · rename_i ej
            subst ej
            exact key (.inr ⟨j, o, o', rfl, rfl, rfl⟩) h
          · cases h
        | _ => unfold finA at h; cases h
section
variable {K : PySem.W.Frag} {w : World} {β : Nat → Addr} {A A' S T P : List SV} {a σ τ π : List (Option V)} {H H' Hs Hs' : Hp}
theorem at_mid {α : Type} {P T A : List α} {i : Nat} (h1 : P.length ≤ i) (h2 : i < P.length + T.length) : (P ++ (T ++ A))[i]? = T[i - P.length]? := by
  rw [List.getElem?_append_right h1, List.getElem?_append_left (by omega)]
theorem at_end {α : Type} {P T A : List α} {i : Nat} (h : P.length + T.length ≤ i) : (P ++ (T ++ A))[i]? = A[i - P.length - T.length]? := by
  rw [List.getElem?_append_right (by omega), List.getElem?_append_right (by omega)]
/-- behind a body: the arguments' entries as they are left (P: the result, perhaps) -/
theorem Rep.fin (hP : P.length = π.length) (hl : T.length = τ.length) (R0 : Ev.Rep K w β (T ++ A) (τ ++ a) H Hs) (R : Ev.Rep K w β (P ++ (T ++ S)) (π ++ (τ ++ σ)) H' Hs') (e : finA A S = some A') : Ev.Rep K w β (P ++ (T ++ A')) (π ++ (τ ++ a)) H' Hs' := by
  obtain ⟨l1, l2⟩ := finA_len e
  have hA : A.length = a.length := by have := R0.len; simp at this; omega
  have hS : S.length = σ.length := by have := R.len; simp at this; omega
  refine R.pick id (by simp [hP, hl, l1, hA]) (fun i hi => ?_) (fun i j _ _ _ _ h => h)
  have hi' : i < P.length + (T.length + A'.length) := by simpa using hi
  by_cases h1 : i < P.length
  · refine .inr ⟨by simp; omega, ?_, ?_⟩
    · show (P ++ (T ++ A'))[i]? = (P ++ (T ++ S))[i]?
      rw [List.getElem?_append_left h1, List.getElem?_append_left h1]
    · show (π ++ (τ ++ a))[i]? = (π ++ (τ ++ σ))[i]?
      rw [List.getElem?_append_left (by omega), List.getElem?_append_left (by omega)]
  · by_cases h2 : i < P.length + T.length
    · refine .inr ⟨by simp; omega, ?_, ?_⟩
      · show (P ++ (T ++ A'))[i]? = (P ++ (T ++ S))[i]?
        rw [at_mid (by omega) h2, at_mid (by omega) h2]
      · show (π ++ (τ ++ a))[i]? = (π ++ (τ ++ σ))[i]?
        rw [at_mid (by omega) (by omega), at_mid (by omega) (by omega)]
    · have ea : (P ++ (T ++ A'))[i]? = A'[i - P.length - T.length]? := at_end (by omega)
      have hk : i - P.length - T.length < A'.length := by omega
      have es : A'[i - P.length - T.length]? = some A'[i - P.length - T.length] := List.getElem?_eq_getElem hk
      rcases finA_at e es with z | ⟨j, o, o', z1, z2, z3⟩
      · refine .inl ?_
        rw [ea, es, z]
      · refine .inr ⟨by simp; omega, ?_, ?_⟩
        · show (P ++ (T ++ A'))[i]? = (P ++ (T ++ S))[i]?
          rw [ea, es, z1, at_end (A := S) (by omega), z2]
        · show (π ++ (τ ++ a))[i]? = (π ++ (τ ++ σ))[i]?
          rw [at_end (by omega), at_end (by omega)]
          have t1 := R0.tags (T.length + (i - P.length - T.length)) j o (by rw [skip]; exact z3)
          have t2 := (Rep.dropU hP R).tags (T.length + (i - P.length - T.length)) j o' (by rw [skip]; exact z2)
          rw [hl, skip] at t1 t2
          rw [show i - π.length - τ.length = i - P.length - τ.length by omega, t1, t2]
end
/-- THE RULE for a def of the text -/
theorem fn_ok {P : Program} {w : World} {K : PySem.W.Frag} {mg : Str → Option Value} {base : Heap} {x qual : Str} {params : Arguments} {body : List Stmt} {scope : Scope} {f : Addr} {fd : FuncData} {N ps : List Str} {k : Nat} {b : MS} {CX : CXT}
    (F : FunD K x qual params body scope [] [] f fd) (Sc : FnScope N ps scope) (hN : ps.length ≤ N.length)
    (hb : ∀ (cdv : Value) (A : Around) (outer : List Env) (s : Shared) (H : Hp) (E : XK) (β : Nat → Addr), Room k (A.deeper (envOfC qual scope s.heap.objs.size f cdv)) →
      SDs (cxOf CX P w K mg base N qual scope f cdv A outer s H E) β (fun cls d _ H => E cls d H) body b)
    : FnOk P w K mg base CX (k + 1) f fd ps (spF K w mg (runDef ps.length (N.length - ps.length) b)) := by
  have len : ∀ vs H Q E, spF K w mg (runDef ps.length (N.length - ps.length) b) vs H Q E → vs.length = ps.length := fun vs H Q E ⟨A, T, τ, Hs, β, hl, R, g⟩ => by
    have e : A.length = vs.length := by have := R.len; simp at this; omega
    by_cases h : A.length = ps.length
    · rw [← e]; exact h
    · unfold runDef at g
      rw [if_neg h] at g
      exact g.elim
  refine F.ok Sc len fun cdv A0 outer s H vs Q E hr hsp => ?_
  have hv := len vs H Q E hsp
  obtain ⟨A, T, τ, Hs, β, hl, R, g⟩ := hsp
  have hA : A.length = vs.length := by have := R.len; simp at this; omega
  unfold runDef at g
  rw [if_pos (hA.trans hv)] at g
  refine ⟨_, hb cdv A0 outer s H E β hr, A ++ List.replicate (N.length - ps.length) .un, T, τ, Hs, hl, ?_, ?_⟩
  · have R1 := Rep.rot (by simp) (Rep.uns (N.length - ps.length) R)
    have e : L2.start N vs = vs.map some ++ List.replicate (N.length - ps.length) none := by unfold L2.start; rw [hv]
    rw [e]
    have R2 : Ev.Rep K w β (T ++ (A ++ List.replicate (N.length - ps.length) .un)) (τ ++ (vs.map some ++ List.replicate (N.length - ps.length) none)) H Hs := by
      simpa only [List.append_assoc] using R1
    exact R2
  · show Ct.GoesS _ T τ (b (A ++ List.replicate (N.length - ps.length) .un)) _
    unfold runDef.runBody at g
    cases eb : b (A ++ List.replicate (N.length - ps.length) .un) with
    | stuck => rw [eb] at g; exact g.elim
    | exc c d S' =>
      rw [eb] at g
      dsimp only at g
      cases ef : finA A S' with
      | none => rw [ef] at g; exact g.elim
      | some A' =>
        rw [ef] at g
        intro σ' Cl dx vv H' Hs' h1 h2 h3 R'
        exact g Cl dx vv H' Hs' h1 h2 h3 (Rep.fin (P := []) (π := []) rfl hl R R' ef)
    | ok fl S' =>
      rw [eb] at g
      cases fl with
      | bk => exact g.elim
      | ct => exact g.elim
      | nx =>
        dsimp only at g
        cases ef : finA A S' with
        | none => rw [ef] at g; exact g.elim
        | some A' =>
          rw [ef] at g
          intro σ' H' Hs' R'
          exact g .non H' Hs' (Rep.push_sh (Rep.fin (P := []) (π := []) rfl hl R R' ef) (Den.non.mpr rfl))
      | rt r =>
        dsimp only at g
        cases ef : finA A S' with
        | none => rw [ef] at g; exact g.elim
        | some A' =>
          rw [ef] at g
          intro v σ' H' Hs' R'
          exact g v H' Hs' (Rep.fin (P := [r]) (π := [some v]) rfl hl R R' ef)
end Ev
end

section
set_option Elab.async false
set_option linter.all false
set_option maxRecDepth 100000
set_option maxHeartbeats 4000000
/-! Ev, part 13: calls of defs. -/
namespace Ev
open PySem PySem.Spec PyProof.Rows L2
/-- the callee's arguments: shared data, and one slot borrowed (at place k, slot i) -/
def mkA (S : List SV) : List AV → Option (List SV × Option (Nat × Nat))
  | [] => some ([], none)
  | .v r :: as => match r.shd, mkA S as with
    | some d, some (A, b) => some (.sh d :: A, b.map fun p => (p.1 + 1, p.2))
    | _, _ => none
  | .s i :: as => match S[i]?.bind SV.own?, mkA S as with
    | some o, some (A, none) => some (.bo 0 o :: A, some (0, i))
    | _, _ => none
def backA (b : Option (Nat × Nat)) (A' S : List SV) : Option (List SV) :=
  match b with
  | none => some S
  | some (k, i) => match A'[k]?, S[i]? with
    | some (.bo _ o), some s => some (S.set i (s.put o))
    | _, _ => none
def AV.res (S : List SV) : AV → AV
  | .s i => match S[i]? with
    | some (.sh d) => .v (.sh d)
    | _ => .s i
  | a => a
def callM (F : Fn) (fs : List AF) : M SV := fun S => (runAs fs S).bind fun as S1 => match mkA S1 (as.map (AV.res S1)) with
  | none => .stuck
  | some (A, b) => match F A with
    | .ok r A' => (match backA b A' S1 with
      | some S2 => .ok r.unt S2
      | none => .stuck)
    | .exc c d A' => (match backA b A' S1 with
      | some S2 => .exc c d S2
      | none => .stuck)
    | .stuck => .stuck
theorem mkA_v {S : List SV} {r : SV} : ∀ {xs : List AV} {A : List SV} {b : Option (Nat × Nat)}, mkA S (xs ++ [.v r]) = some (A, b) → ∃ A1 d, A = A1 ++ [.sh d] ∧ r.shd = some d ∧ mkA S xs = some (A1, b)
  | [], A, b, h => by
    have h' : mkA S [.v r] = some (A, b) := h
    unfold mkA at h'
    cases e : r.shd with
    | none => rw [e] at h'; cases h'
    | some d =>
      rw [e] at h'
      have h2 : (some ((SV.sh d :: [] : List SV), (none : Option (Nat × Nat)))) = some (A, b) := h'
      cases h2
      exact ⟨[], d, rfl, rfl, rfl⟩
  | .v q :: xs, A, b, h => by
    have h' : mkA S (.v q :: (xs ++ [.v r])) = some (A, b) := h
    unfold mkA at h'
    cases e : q.shd with
    | none => rw [e] at h'; cases h'
    | some dq =>
      cases e2 : mkA S (xs ++ [.v r]) with
      | none => rw [e, e2] at h'; cases h'
      | some p =>
        obtain ⟨A2, b2⟩ := p
        rw [e, e2] at h'
        cases h'
        obtain ⟨A1, d, rfl, hd, hm⟩ := mkA_v e2
        refine ⟨.sh dq :: A1, d, rfl, hd, ?_⟩
        unfold mkA
        rw [e, hm]
  | .s i :: xs, A, b, h => by
    have h' : mkA S (.s i :: (xs ++ [.v r])) = some (A, b) := h
    unfold mkA at h'
    cases e : S[i]?.bind SV.own? with
    | none => rw [e] at h'; cases h'
    | some o =>
      cases e2 : mkA S (xs ++ [.v r]) with
      | none => rw [e, e2] at h'; cases h'
      | some p =>
        obtain ⟨A2, b2⟩ := p
        cases b2 with
        | some _ => rw [e, e2] at h'; cases h'
        | none =>
          rw [e, e2] at h'
          cases h'
          obtain ⟨A1, d, rfl, hd, hm⟩ := mkA_v e2
          refine ⟨.bo 0 o :: A1, d, rfl, hd, ?_⟩
          unfold mkA
          rw [e, hm]
theorem mkA_s {S : List SV} {j : Nat} : ∀ {xs : List AV} {A : List SV} {b : Option (Nat × Nat)}, mkA S (xs ++ [.s j]) = some (A, b) → ∃ A1 o, A = A1 ++ [.bo 0 o] ∧ S[j]?.bind SV.own? = some o ∧ mkA S xs = some (A1, none) ∧ b = some (xs.length, j)
  | [], A, b, h => by
    have h' : mkA S [.s j] = some (A, b) := h
    unfold mkA at h'
    cases e : S[j]?.bind SV.own? with
    | none => rw [e] at h'; cases h'
    | some o =>
      rw [e] at h'
      have h2 : (some ((SV.bo 0 o :: [] : List SV), some ((0 : Nat), j))) = some (A, b) := h'
      cases h2
      exact ⟨[], o, rfl, rfl, rfl, rfl⟩
  | .v q :: xs, A, b, h => by
    have h' : mkA S (.v q :: (xs ++ [.s j])) = some (A, b) := h
    unfold mkA at h'
    cases e : q.shd with
    | none => rw [e] at h'; cases h'
    | some dq =>
      cases e2 : mkA S (xs ++ [.s j]) with
      | none => rw [e, e2] at h'; cases h'
      | some p =>
        obtain ⟨A2, b2⟩ := p
        rw [e, e2] at h'
        cases h'
        obtain ⟨A1, o, rfl, ho, hm, rfl⟩ := mkA_s e2
        refine ⟨.sh dq :: A1, o, rfl, ho, ?_, rfl⟩
        unfold mkA
        rw [e, hm]; rfl
  | .s i :: xs, A, b, h => by
    have h' : mkA S (.s i :: (xs ++ [.s j])) = some (A, b) := h
    unfold mkA at h'
    cases e : S[i]?.bind SV.own? with
    | none => rw [e] at h'; cases h'
    | some o =>
      cases e2 : mkA S (xs ++ [.s j]) with
      | none => rw [e, e2] at h'; cases h'
      | some p =>
        obtain ⟨A2, b2⟩ := p
        cases b2 with
        | some _ => rw [e, e2] at h'; cases h'
        | none =>
          obtain ⟨_, _, _, _, _, z⟩ := mkA_s e2
          cases z
/-- the slot that is borrowed is taken -/
def unB (S : List SV) : Option (Nat × Nat) → List SV
  | none => S
  | some (_, i) => S.set i .un
theorem unt_put {s : SV} {o : Own} : (s.put o).unt = .ow o := by cases s <;> rfl
theorem unt_own {s : SV} {o : Own} (h : s.own? = some o) : s.unt = .ow o := by cases s <;> cases h <;> rfl
theorem unt_unt {s : SV} : s.unt.unt = s.unt := by cases s <;> rfl
section
variable {K : PySem.W.Frag} {w : World} {β : Nat → Addr} {S T : List SV} {τ : List (Option V)} {σ : L2.St} {H Hs : Hp}
/-- slot i to the head; its place stays, forgotten -/
theorem Rep.takeU {i : Nat} {s : SV} (hl : T.length = τ.length) (R : Ev.Rep K w β (T ++ S) (τ ++ σ) H Hs) (es : S[i]? = some s) : ∃ x, σ[i]? = some x ∧ Ev.Rep K w β (s :: (T ++ S.set i .un)) (x :: (τ ++ σ)) H Hs := by
  have R1 : Ev.Rep K w β S σ H Hs := Rep.dropU hl R
  obtain ⟨x, ex, _⟩ := R1.at es
  refine ⟨x, ex, ?_⟩
  have R2 := Rep.take hl R es ex
  have R3 := Rep.unset (T := s :: T) (τ := x :: τ) (x := x) (i := i) (by simp [hl]) R2
  have hi : i < σ.length := (List.getElem?_eq_some_iff.mp ex).1
  have e2 : (σ.set i none).set i x = σ := by
    rw [List.set_set]
    have : σ[i] = x := (List.getElem?_eq_some_iff.mp ex).2
    rw [← this, List.set_getElem_self]
  rw [List.set_set, e2] at R3
  exact R3
theorem Pend.build (hl : T.length = τ.length) {ar : List AV} {vr : List V} {U : List SV} {υ : List (Option V)} (p : Pend σ ar vr U υ) : ∀ {A0 : List SV} {a0 : List (Option V)} {Hs : Hp} {A : List SV} {b : Option (Nat × Nat)} {S' : List SV},
    (S' = S ∨ b = none) → Ev.Rep K w β (U ++ ((T ++ S') ++ A0)) (υ ++ ((τ ++ σ) ++ a0)) H Hs → S'.length = σ.length → mkA S ar.reverse = some (A, b) →
    ∃ Hs' Ar, Ar.map SV.unt = A.map SV.unt ∧ Ev.Rep K w β ((T ++ unB S' b) ++ (Ar ++ A0)) ((τ ++ σ) ++ (vr.reverse.map some ++ a0)) H Hs' ∧ A.length = vr.length ∧
      ∀ k i, b = some (k, i) → ∃ v, vr.reverse[k]? = some v ∧ σ[i]? = some (some v) ∧ k < A.length ∧ i < S.length := by
  induction p with
  | nil =>
    intro A0 a0 Hs A b S' hb R hS e
    have e' : some (([] : List SV), (none : Option (Nat × Nat))) = some (A, b) := e
    cases e'
    exact ⟨Hs, [], rfl, R, rfl, fun k i h => by cases h⟩
  | @ex as vs U υ r v p ih =>
    intro A0 a0 Hs A b S' hb R hS e
    rw [List.reverse_cons] at e
    obtain ⟨A1, d, rfl, hd, hm⟩ := mkA_v e
    obtain ⟨Hs1, R1, s1⟩ := Rep.shr (R : Ev.Rep K w β (r :: (U ++ ((T ++ S') ++ A0))) (some v :: (υ ++ ((τ ++ σ) ++ a0))) H Hs)
    have er : r.shr = .sh d := by
      cases r with
      | un => cases hd
      | sh d' => cases hd; rfl
      | ow o => cases hd; rfl
      | bo j o => cases hd
    rw [er] at R1
    have hlU := p.len
    have R2 : Ev.Rep K w β ((U ++ (T ++ S')) ++ (SV.sh d :: A0)) ((υ ++ (τ ++ σ)) ++ (some v :: a0)) H Hs1 := by
      refine Rep.unswap (by simp [hlU, hl, hS]) ?_
      have R1' : Ev.Rep K w β (SV.sh d :: (U ++ ((T ++ S') ++ A0))) (some v :: (υ ++ ((τ ++ σ) ++ a0))) H Hs1 := R1
      simpa only [List.append_assoc] using R1'
    obtain ⟨Hs2, Ar, h1, R3, h2, h3⟩ := ih (A0 := SV.sh d :: A0) (a0 := some v :: a0) hb (by simpa only [List.append_assoc] using R2) hS hm
    refine ⟨Hs2, Ar ++ [SV.sh d], by simp [h1], ?_, by simp [h2], fun k i h => ?_⟩
    · simpa only [List.append_assoc, List.reverse_cons, List.map_append, List.map_cons, List.map_nil, List.cons_append, List.nil_append] using R3
    · obtain ⟨v', q1, q2, q3, q4⟩ := h3 k i h
      refine ⟨v', ?_, q2, by simp; omega, q4⟩
      rw [List.reverse_cons, List.getElem?_append_left (by simp; omega)]
      exact q1
  | @pk as vs U υ i v hv p ih =>
    intro A0 a0 Hs A b S' hb R hS e
    rw [List.reverse_cons] at e
    obtain ⟨A1, o, rfl, ho, hm, rfl⟩ := mkA_s e
    have hSS : S' = S := by
      rcases hb with z | z
      · exact z
      · cases z
    subst hSS
    cases es : S'[i]? with
    | none => rw [es] at ho; cases ho
    | some s =>
      rw [es] at ho
      have ho' : s.own? = some o := ho
      have hlU := p.len
      have hi : i < S'.length := (List.getElem?_eq_some_iff.mp es).1
      -- bring the arguments done behind, so that the slots stand last
      have R0 : Ev.Rep K w β ((A0 ++ (U ++ T)) ++ S') ((a0 ++ (υ ++ τ)) ++ σ) H Hs := by
        have hA0 : A0.length = a0.length := by have := R.len; simp at this; omega
        have := Rep.rot (A := U ++ (T ++ S')) (a := υ ++ (τ ++ σ)) (L := A0) (l := a0) (by simp [hlU, hl, hS]) (by simpa only [List.append_assoc] using R)
        simpa only [List.append_assoc] using this
      have hA0 : A0.length = a0.length := by have := R0.len; simp at this; omega
      obtain ⟨x, ex, R1⟩ := Rep.takeU (T := A0 ++ (U ++ T)) (τ := a0 ++ (υ ++ τ)) (by simp [hA0, hlU, hl]) R0 es
      rw [hv] at ex
      cases ex
      have R2 : Ev.Rep K w β (U ++ ((T ++ S'.set i .un) ++ (s :: A0))) (υ ++ ((τ ++ σ) ++ (some v :: a0))) H Hs := by
        have := Rep.rot (A := s :: A0) (a := some v :: a0) (L := U ++ (T ++ S'.set i .un)) (l := υ ++ (τ ++ σ)) (by simp [hA0]) (by simpa only [List.append_assoc, List.cons_append] using R1)
        simpa only [List.append_assoc] using this
      obtain ⟨Hs2, Ar, h1, R3, h2, h3⟩ := ih (A0 := s :: A0) (a0 := some v :: a0) (b := none) (S' := S'.set i .un) (.inr rfl) R2 (by simpa using hS) hm
      have hrl : as.reverse.length = vs.length := by
        have : ∀ {as vs U υ}, Pend σ as vs U υ → as.length = vs.length := fun q => by
          induction q with
          | nil => rfl
          | ex q ih => simp [ih]
          | pk e q ih => simp [ih]
        simp [this p]
      have hst : s.unt = (SV.bo 0 o).unt := unt_own ho'
      refine ⟨Hs2, Ar ++ [s], by rw [List.map_append, List.map_append, h1, List.map_cons, List.map_cons, hst], ?_, by simp [h2], fun k i' h => ?_⟩
      · have R3' : Ev.Rep K w β ((T ++ S'.set i .un) ++ (Ar ++ s :: A0)) ((τ ++ σ) ++ (List.map some vs.reverse ++ some v :: a0)) H Hs2 := R3
        show Ev.Rep K w β ((T ++ S'.set i .un) ++ ((Ar ++ [s]) ++ A0)) _ H Hs2
        simpa only [List.append_assoc, List.reverse_cons, List.map_append, List.map_cons, List.map_nil, List.cons_append, List.nil_append] using R3'
      · cases h
        refine ⟨v, ?_, hv, by rw [List.length_append, h2, hrl, List.length_singleton]; omega, hi⟩
        rw [List.reverse_cons, hrl, List.getElem?_append_right (by simp)]
        simp
/-- a slot from ahead goes to the place i -/
theorem Rep.plug {A X : List SV} {a x : List (Option V)} {k i : Nat} {s : SV} {y : Option V} (hA : A.length = a.length) (R : Ev.Rep K w β (A ++ X) (a ++ x) H Hs) (es : A[k]? = some s) (ey : a[k]? = some y) :
    Ev.Rep K w β (X.set i s) (x.set i y) H Hs := by
  have hX : X.length = x.length := by have := R.len; simp at this; omega
  have hk : k < A.length := (List.getElem?_eq_some_iff.mp es).1
  refine R.sel (fun j => if j = i then k else A.length + j) (by simp [hX]) (fun j hj => ?_) (fun j j' hj hj' h => ?_)
  · have hj' : j < X.length := by simpa using hj
    by_cases e : j = i
    · subst e
      rw [if_pos rfl]
      refine ⟨by simp; omega, ?_, ?_⟩
      · rw [List.getElem?_set_self hj', List.getElem?_append_left hk, es]
      · rw [List.getElem?_set_self (by omega), List.getElem?_append_left (by omega), ey]
    · rw [if_neg e]
      refine ⟨by simp; omega, ?_, ?_⟩
      · rw [List.getElem?_set_ne (by omega), skip]
      · rw [List.getElem?_set_ne (by omega), hA, skip]
  · have h' : (if j = i then k else A.length + j) = (if j' = i then k else A.length + j') := h
    split at h' <;> split at h' <;> omega
theorem unt_map : ∀ (L : List SV), (L.map SV.unt).map SV.unt = L.map SV.unt
  | [] => rfl
  | s :: L => by
    show s.unt.unt :: (L.map SV.unt).map SV.unt = _
    rw [unt_unt, unt_map L]; rfl
/-- behind a call: the borrowed object goes back -/
theorem Rep.backed {S2 A' : List SV} {P : List SV} {π : List (Option V)} {β' : Nat → Addr} {b : Option (Nat × Nat)} {vs : List V} {H0 Hs0 : Hp} (hP : P.length = π.length) (hl : T.length = τ.length) (R0 : Ev.Rep K w β (T ++ S) (τ ++ σ) H0 Hs0)
    (R : Ev.Rep K w β' (P ++ ((T ++ unB S b).map SV.unt ++ A')) (π ++ ((τ ++ σ) ++ vs.map some)) H Hs) (hb : ∀ k i, b = some (k, i) → ∃ v, vs[k]? = some v ∧ σ[i]? = some (some v) ∧ i < S.length) (e : backA b A' S = some S2) :
    Ev.Rep K w β (P.map SV.unt ++ (T ++ S2)) (π ++ (τ ++ σ)) H Hs := by
  have hS : S.length = σ.length := by have := R0.len; simp at this; omega
  have hU : (unB S b).length = S.length := by cases b with | none => rfl | some p => exact List.length_set
  have hA : A'.length = vs.length := by have := R.len; simp at this; omega
  have R1 : Ev.Rep K w (fun _ => 0) ((P ++ ((T ++ unB S b).map SV.unt ++ A')).map SV.unt) (π ++ ((τ ++ σ) ++ vs.map some)) H Hs := R.unt
  have R2 : Ev.Rep K w (fun _ => 0) (A'.map SV.unt ++ (P.map SV.unt ++ (T ++ unB S b).map SV.unt)) (vs.map some ++ (π ++ (τ ++ σ))) H Hs := by
    refine Rep.rot (A := P.map SV.unt ++ (T ++ unB S b).map SV.unt) (a := π ++ (τ ++ σ)) (by simp [hP, hl, hS, hU]) ?_
    simpa only [List.map_append, unt_map, List.append_assoc] using R1
  cases b with
  | none =>
    have e' : some S = some S2 := e
    cases e'
    have R3 : Ev.Rep K w (fun _ => 0) ((P.map SV.unt ++ (T ++ S)).map SV.unt) (π ++ (τ ++ σ)) H Hs := by
      have := Rep.dropU (by simp [hA]) R2
      simpa only [List.map_append, unt_map, unB] using this
    refine R3.tag fun i j o ei => ?_
    by_cases h1 : i < P.length
    · rw [List.getElem?_append_left (by simpa using h1), List.getElem?_map] at ei
      cases eP : P[i]? with
      | none => rw [eP] at ei; cases ei
      | some s => rw [eP] at ei; cases s <;> cases ei
    · rw [List.getElem?_append_right (by simp; omega), List.length_map] at ei
      have := R0.tags _ j o ei
      rw [List.getElem?_append_right (by omega), show i - π.length = i - P.length by omega]
      exact this
  | some p =>
    obtain ⟨k, i0⟩ := p
    obtain ⟨v, hv, hσ, hi0⟩ := hb k i0 rfl
    unfold backA at e
    dsimp only at e
    cases ek : A'[k]? with
    | none => rw [ek] at e; cases e
    | some sa =>
      cases es : S[i0]? with
      | none => rw [ek, es] at e; cases sa <;> cases e
      | some s =>
        rw [ek, es] at e
        cases sa with
        | un => cases e
        | sh d => cases e
        | ow o => cases e
        | bo jj o =>
          have e' : some (S.set i0 (s.put o)) = some S2 := e
          cases e'
          have R3 : Ev.Rep K w (fun _ => 0) ((P.map SV.unt ++ (T ++ S.set i0 (s.put o))).map SV.unt) (π ++ (τ ++ σ)) H Hs := by
            have q := Rep.plug (i := P.length + (T.length + i0)) (s := .ow o) (y := some v) (by simp [hA]) R2 (by rw [List.getElem?_map, ek]; rfl) (by rw [List.getElem?_map, hv]; rfl)
            have e1 : (π ++ (τ ++ σ)).set (P.length + (T.length + i0)) (some v) = π ++ (τ ++ σ) := by
              rw [List.set_append_right _ _ (by omega), List.set_append_right _ _ (by omega), show P.length + (T.length + i0) - π.length - τ.length = i0 by omega]
              congr 2
              have : σ[i0]'(by omega) = some v := (List.getElem?_eq_some_iff.mp hσ).2
              rw [← this, List.set_getElem_self]
            have e2 : (List.map SV.unt P ++ List.map SV.unt (T ++ unB S (some (k, i0)))).set (P.length + (T.length + i0)) (SV.ow o) = (P.map SV.unt ++ (T ++ S.set i0 (s.put o))).map SV.unt := by
              rw [List.map_append, List.set_append_right _ _ (by simp), List.set_append_right _ _ (by simp), List.map_append, unt_map, List.map_append]
              congr 2
              show (List.map SV.unt (S.set i0 .un)).set _ _ = _
              rw [List.map_set, List.map_set, show P.length + (T.length + i0) - (List.map SV.unt P).length - (List.map SV.unt T).length = i0 by simp, List.set_set, unt_put]
            rw [e1, e2] at q
            exact q
          refine R3.tag fun i j o' ei => ?_
          by_cases h1 : i < P.length
          · rw [List.getElem?_append_left (by simpa using h1), List.getElem?_map] at ei
            cases eP : P[i]? with
            | none => rw [eP] at ei; cases ei
            | some s => rw [eP] at ei; cases s <;> cases ei
          · rw [List.getElem?_append_right (by simp; omega), List.length_map] at ei
            rw [List.getElem?_append_right (by omega), show i - π.length = i - P.length by omega]
            by_cases h2 : i - P.length = T.length + i0
            · rw [h2, skip, List.getElem?_set_self hi0] at ei
              have := R0.tags (T.length + i0)
              rw [skip, es] at this
              rw [h2]
              cases s with
              | un => cases ei
              | sh d => cases ei
              | ow o => cases ei
              | bo j2 o2 =>
                cases ei
                exact this j o2 rfl
            · have e3 : (T ++ S.set i0 (s.put o))[i - P.length]? = (T ++ S)[i - P.length]? := by
                by_cases h2 : i - P.length < T.length
                · rw [List.getElem?_append_left h2, List.getElem?_append_left h2]
                · rw [List.getElem?_append_right (by omega), List.getElem?_append_right (by omega), List.getElem?_set_ne (by omega)]
              rw [e3] at ei
              exact R0.tags _ j o' ei
end
section
variable {C : Ct} {T U P : List SV} {τ υ π : List (Option V)} {σ : L2.St} {S : List SV} {H Hs : Hp}
theorem Pend.res (hl : T.length = τ.length) {ar : List AV} {vr : List V} {U : List SV} {υ : List (Option V)} (p : Pend σ ar vr U υ) : ∀ {P : List SV} {π : List (Option V)}, P.length = π.length → C.Rep (P ++ (U ++ (T ++ S))) (π ++ (υ ++ (τ ++ σ))) H Hs →
    ∃ U' υ', Pend σ (ar.map (AV.res S)) vr U' υ' ∧ C.Rep (P ++ (U' ++ (T ++ S))) (π ++ (υ' ++ (τ ++ σ))) H Hs := by
  induction p with
  | nil => intro P π hP R; exact ⟨[], [], .nil, R⟩
  | @ex as vs U υ r v p ih =>
    intro P π hP R
    obtain ⟨U', υ', p', R'⟩ := ih (P := P ++ [r]) (π := π ++ [some v]) (by simp [hP]) (by simpa using R)
    exact ⟨r :: U', some v :: υ', .ex p', by simpa using R'⟩
  | @pk as vs U υ i v hv p ih =>
    intro P π hP R
    obtain ⟨U', υ', p', R'⟩ := ih hP R
    have stay : AV.res S (.s i) = .s i → ∃ U' υ', Pend σ ((AV.s i :: as).map (AV.res S)) (v :: vs) U' υ' ∧ C.Rep (P ++ (U' ++ (T ++ S))) (π ++ (υ' ++ (τ ++ σ))) H Hs := fun e => by
      refine ⟨U', υ', ?_, R'⟩
      rw [List.map_cons, e]
      exact .pk hv p'
    cases es : S[i]? with
    | none => exact stay (by show (match S[i]? with | some (.sh d) => AV.v (.sh d) | _ => .s i) = _; rw [es])
    | some s =>
      cases s with
      | un => exact stay (by show (match S[i]? with | some (.sh d) => AV.v (.sh d) | _ => .s i) = _; rw [es])
      | ow o => exact stay (by show (match S[i]? with | some (.sh d) => AV.v (.sh d) | _ => .s i) = _; rw [es])
      | bo j o => exact stay (by show (match S[i]? with | some (.sh d) => AV.v (.sh d) | _ => .s i) = _; rw [es])
      | sh d =>
        have R1 : C.Rep S σ H Hs := Rep.dropU hl (Rep.dropU p'.len (Rep.dropU hP R'))
        obtain ⟨v', ev, q⟩ := Rep.sh R1 es
        rw [hv] at ev
        cases ev
        refine ⟨.sh d :: U', some v :: υ', ?_, Rep.unswap hP (Rep.push_sh R' q)⟩
        have e : AV.res S (.s i) = .v (.sh d) := by show (match S[i]? with | some (.sh d) => AV.v (.sh d) | _ => .s i) = _; rw [es]
        rw [List.map_cons, e]
        exact .ex p'
end
end Ev
end

section
set_option Elab.async false
set_option linter.all false
set_option maxRecDepth 100000
set_option maxHeartbeats 4000000
/-! Ev, part 14: the rule for a call. -/
namespace Ev
open PySem PySem.Spec PyProof.Rows L2
theorem mkA_bo {S : List SV} : ∀ {as : List AV} {A : List SV} {b : Option (Nat × Nat)} {k j : Nat} {o : Own}, mkA S as = some (A, b) → A[k]? = some (.bo j o) → j = 0 ∧ ∃ i, b = some (k, i)
  | [], A, b, k, j, o, h, e => by
    have h' : some (([] : List SV), (none : Option (Nat × Nat))) = some (A, b) := h
    cases h'
    simp at e
  | .v r :: as, A, b, k, j, o, h, e => by
    unfold mkA at h
    cases e1 : r.shd with
    | none => rw [e1] at h; cases h
    | some d =>
      cases e2 : mkA S as with
      | none => rw [e1, e2] at h; cases h
      | some p =>
        obtain ⟨A2, b2⟩ := p
        rw [e1, e2] at h
        cases h
        cases k with
        | zero => simp at e
        | succ k =>
          obtain ⟨z, i, q⟩ := mkA_bo (k := k) e2 (by simpa using e)
          exact ⟨z, i, by rw [q]; rfl⟩
  | .s i :: as, A, b, k, j, o, h, e => by
    unfold mkA at h
    cases e1 : S[i]?.bind SV.own? with
    | none => rw [e1] at h; cases h
    | some o' =>
      cases e2 : mkA S as with
      | none => rw [e1, e2] at h; cases h
      | some p =>
        obtain ⟨A2, b2⟩ := p
        cases b2 with
        | some _ => rw [e1, e2] at h; cases h
        | none =>
          rw [e1, e2] at h
          cases h
          cases k with
          | zero => simp at e; exact ⟨e.1.symm, i, rfl⟩
          | succ k =>
            obtain ⟨z, i', q⟩ := mkA_bo (k := k) e2 (by simpa using e)
            cases q
theorem tCall_imp {C : Ct} {F : Fn} {fs : List AF} {σ : L2.St} {H : Hp} {Q : VK} (h : tD C (callM F fs) σ H Q) : tCallS (spF C.K C.w C.mg F) (WE C.W) (tAs C fs) σ H Q := by
  obtain ⟨S, T, τ, Hs, hl, R, g⟩ := h
  refine tAs_run hl (U := []) (υ := []) .nil R g fun as vs U' υ' S' H' Hs' p R' g' => ?_
  rw [List.append_nil, List.append_nil] at p
  obtain ⟨U', υ', p, R'⟩ := Pend.res (P := []) (π := []) hl p rfl R'
  rw [List.map_reverse] at p
  generalize as.map (AV.res S') = as at p g'
  have R' : Ev.Rep C.K C.w C.β (U' ++ (T ++ S')) (υ' ++ (τ ++ σ)) H' Hs' := R'
  have hlU := p.len
  have R0 : Ev.Rep C.K C.w C.β (T ++ S') (τ ++ σ) H' Hs' := Rep.dropU hlU R'
  have hS : S'.length = σ.length := by have := R0.len; simp at this; omega
  cases em : mkA S' as with
  | none => rw [em] at g'; exact g'.elim
  | some q =>
    obtain ⟨A, b⟩ := q
    obtain ⟨Hs2, Ar, h1, R3, h2, h3⟩ := Pend.build hl p (A0 := []) (a0 := []) (S' := S') (.inl rfl) (by rw [List.append_nil, List.append_nil]; exact R') hS (by rw [List.reverse_reverse]; exact em)
    rw [List.append_nil, List.append_nil, List.reverse_reverse] at R3
    rw [List.reverse_reverse] at h3
    rw [List.length_reverse] at h2
    have hArl : Ar.length = A.length := by have := congrArg List.length h1; simpa using this
    have hTl : (T ++ unB S' b).length = (τ ++ σ).length := by have := R3.len; simp at this ⊢; omega
    have R4 : Ev.Rep C.K C.w (fun _ => 0) (((T ++ unB S' b).map SV.unt ++ A).map SV.unt) ((τ ++ σ) ++ vs.map some) H' Hs2 := by
      have := R3.unt (β' := fun _ => 0)
      rw [List.map_append, h1] at this
      rw [List.map_append, unt_map]
      exact this
    have key : ∃ β', Ev.Rep C.K C.w β' ((T ++ unB S' b).map SV.unt ++ A) ((τ ++ σ) ++ vs.map some) H' Hs2 := by
      have noT : ∀ {i j : Nat} {o : Own}, ((T ++ unB S' b).map SV.unt ++ A)[i]? = some (.bo j o) → (T ++ unB S' b).length ≤ i ∧ A[i - (T ++ unB S' b).length]? = some (.bo j o) := fun {i j o} ei => by
        by_cases hi : i < (T ++ unB S' b).length
        · rw [List.getElem?_append_left (by rw [List.length_map]; exact hi), List.getElem?_map] at ei
          cases eP : (T ++ unB S' b)[i]? with
          | none => rw [eP] at ei; cases ei
          | some s => rw [eP] at ei; cases s <;> cases ei
        · rw [List.getElem?_append_right (by rw [List.length_map]; omega), List.length_map] at ei
          exact ⟨by omega, ei⟩
      cases b with
      | none =>
        refine ⟨fun _ => 0, R4.tag fun i j o ei => ?_⟩
        obtain ⟨_, ea⟩ := noT ei
        obtain ⟨_, i', z⟩ := mkA_bo em ea
        cases z
      | some bb =>
        obtain ⟨k, i0⟩ := bb
        by_cases hk : ∃ j o, A[k]? = some (.bo j o)
        · obtain ⟨j, o, hk⟩ := hk
          have e4 : ((((T ++ unB S' (some (k, i0))).map SV.unt ++ A)).map SV.unt)[(T ++ unB S' (some (k, i0))).length + k]? = some (.ow o) := by
            rw [List.getElem?_map, List.getElem?_append_right (by rw [List.length_map]; omega), List.length_map, show (T ++ unB S' (some (k, i0))).length + k - (T ++ unB S' (some (k, i0))).length = k by omega, hk]; rfl
          obtain ⟨x, ex, fp, qq⟩ := R4.at e4
          obtain ⟨a, rfl, _⟩ := qq
          refine ⟨fun _ => a, R4.tag fun i j' o' ei => ?_⟩
          obtain ⟨hle, ea⟩ := noT ei
          obtain ⟨_, i', z⟩ := mkA_bo em ea
          have z1 : k = i - (T ++ unB S' (some (k, i0))).length := (Prod.mk.inj (Option.some.inj z)).1
          rw [show i = (T ++ unB S' (some (k, i0))).length + k by omega]
          exact ex
        · refine ⟨fun _ => 0, R4.tag fun i j o ei => ?_⟩
          obtain ⟨_, ea⟩ := noT ei
          obtain ⟨_, i', z⟩ := mkA_bo em ea
          have z1 : k = i - (T ++ unB S' (some (k, i0))).length := (Prod.mk.inj (Option.some.inj z)).1
          rw [← z1] at ea
          exact absurd ⟨j, o, ea⟩ hk
    obtain ⟨β', R5⟩ := key
    rw [em] at g'
    refine ⟨A, (T ++ unB S' b).map SV.unt, τ ++ σ, Hs2, β', by rw [List.length_map]; exact hTl, R5, ?_⟩
    have hb : ∀ k i, b = some (k, i) → ∃ v, vs[k]? = some v ∧ σ[i]? = some (some v) ∧ i < S'.length := fun k i e => by
      obtain ⟨v, q1, q2, _, q4⟩ := h3 k i e
      exact ⟨v, q1, q2, q4⟩
    cases eF : F A with
    | stuck =>
      dsimp only at g'
      rw [eF] at g'
      exact g'.elim
    | ok r A' =>
      dsimp only at g'
      rw [eF] at g'
      dsimp only at g'
      cases eb : backA b A' S' with
      | none => rw [eb] at g'; exact g'.elim
      | some S2 =>
        rw [eb] at g'
        intro v H3 Hs3 R6
        have R7 := Rep.backed (P := [r]) (π := [some v]) (S2 := S2) rfl hl R0 R6 hb eb
        exact g' v H3 Hs3 R7
    | exc c d A' =>
      dsimp only at g'
      rw [eF] at g'
      dsimp only at g'
      cases eb : backA b A' S' with
      | none => rw [eb] at g'; exact g'.elim
      | some S2 =>
        rw [eb] at g'
        intro Cl dx vv H3 Hs3 q1 q2 q3 R6
        have R7 := Rep.backed (P := []) (π := []) (S2 := S2) rfl hl R0 R6 hb eb
        exact g' Cl dx vv H3 Hs3 q1 q2 q3 R7
section
variable {X : Cx} {β : Nat → Addr} {W : WX}
/-- f(args) -/
theorem pd_call {k : Nat} {f : Addr} {fd : FuncData} {ps : List Str} {F : Fn} {x : Str} {p pos : Pos} {e : Expr} {es : List Expr} {fs : List AF}
    (ok : FnOk X.prog X.w X.K X.mg X.base (L2.CX X.prog X.w) k f fd ps (spF X.K X.w X.mg F)) (hr : Room k X.A) (hg : Gl X x) (hm : X.mg x = some (.ref f)) (hk : PySem.W.keepIn X.K (.ref f) = true) (hb : Binds X.K fd ps []) (tk : Takes X W)
    (ha : PDA X β W (e :: es) fs) (hdb : (x == ("__debug__" : Str)) = false) (he : starEach (e :: es) X.env = (false, eval e X.env) :: starEach es X.env) (hpl : (backTo pos (starEach es X.env)).any (·.1) = false) :
    PD X β W (.Call (.Name x p) (e :: es) [] pos) (callM F fs) :=
  PE.imp (pe_callS ok hr hg hm hk hb (fun σ => passAt tk σ) ha hdb he hpl) fun _ _ _ h => tCall_imp h
end
end Ev
end

section
set_option Elab.async false
set_option linter.all false
set_option maxRecDepth 100000
set_option maxHeartbeats 4000000
/-! Ev, part 15: f(a = .., b = ..). -/
namespace Ev
open PySem PySem.Spec PyProof.Rows L2
def pmD {α : Type} (z : α) (js : List Nat) (l : List α) : List α := js.map fun j => (l[j]?).getD z
/-- the data of slots that are all shared -/
def shds : List SV → Option (List D)
  | [] => some []
  | .sh d :: A => (shds A).map (d :: ·)
  | _ :: _ => none
def pmF (js : List Nat) (F : Fn) : Fn := fun A => match shds A with
  | some ds => (match F ((pmD .non js ds).map .sh) with
    | .ok r _ => .ok r (List.replicate A.length .un)
    | .exc c d _ => .exc c d (List.replicate A.length .un)
    | .stuck => .stuck)
  | none => .stuck
theorem shds_eq : ∀ {A : List SV} {ds : List D}, shds A = some ds → A = ds.map .sh
  | [], ds, h => by cases h; rfl
  | .sh d :: A, ds, h => by
    unfold shds at h
    cases e : shds A with
    | none => rw [e] at h; cases h
    | some ds' => rw [e] at h; cases h; rw [shds_eq e]; rfl
  | .un :: _, _, h => by cases h
  | .ow _ :: _, _, h => by cases h
  | .bo _ _ :: _, _, h => by cases h
section
variable {K : PySem.W.Frag} {w : World} {β : Nat → Addr} {S L : List SV} {σ l : List (Option V)} {H Hs : Hp}
theorem DenL.pm : ∀ {js : List Nat} {ds : List D} {vs : List V}, DenL K w H ds vs → DenL K w H (pmD .non js ds) (pmD .non js vs)
  | [], _, _, _ => DenL.nil
  | j :: js, ds, vs, q => by
    refine DenL.cons ?_ (DenL.pm (js := js) q)
    cases e : ds[j]? with
    | none =>
      have : vs[j]? = none := by
        have := q.len
        rw [List.getElem?_eq_none_iff] at e ⊢
        omega
      show Den K w H ((ds[j]?).getD .non) ((vs[j]?).getD .non)
      rw [e, this]
      exact Den.non.mpr rfl
    | some d =>
      obtain ⟨v, ev, q'⟩ := q.get e
      show Den K w H ((ds[j]?).getD .non) ((vs[j]?).getD .non)
      rw [e, ev]
      exact q'
theorem Vals.pm {vs : List V} {us : List Value} (r : Vals vs us) : ∀ {js : List Nat}, Vals (pmD .non js vs) (pmD .none js us)
  | [] => .nil
  | j :: js => by
    refine .cons ?_ (Vals.pm r (js := js))
    show RelV ((vs[j]?).getD .non) ((us[j]?).getD .none)
    cases e : vs[j]? with
    | none => rw [Vals.none_of r e]; rfl
    | some v =>
      obtain ⟨u, eu, q⟩ := Vals.get r e
      rw [eu]
      exact q
theorem Rep.dens : ∀ {ds : List D} {vs : List V}, Ev.Rep K w β (ds.map .sh ++ L) (vs.map some ++ l) H Hs → ds.length = vs.length → DenL K w Hs ds vs
  | [], [], _, _ => DenL.nil
  | d :: ds, v :: vs, R, h => by
    obtain ⟨v', ev, q⟩ := Rep.sh (i := 0) R rfl
    have : v = v' := by simpa using ev
    subst this
    exact DenL.cons q (Rep.dens (Rep.tail R) (by simpa using h))
  | [], _ :: _, _, h => by simp at h
  | _ :: _, [], _, h => by simp at h
theorem Rep.unsA {a : List (Option V)} (R : Ev.Rep K w β L l H Hs) : Ev.Rep K w β (L ++ List.replicate a.length .un) (l ++ a) H Hs := by
  refine Rep.pick R id (by simp [R.len]) (fun i hi => ?_) (fun i j _ _ _ _ h => h)
  by_cases h : i < L.length
  · have hl := R.len
    exact .inr ⟨h, by rw [List.getElem?_append_left h]; rfl, by rw [List.getElem?_append_left (by omega)]; rfl⟩
  · refine .inl ?_
    rw [List.getElem?_append_right (by omega), List.getElem?_replicate, if_pos (by simp at hi; omega)]
theorem spF_pm {mg : Str → Option Value} {F : Fn} {js : List Nat} {zs : List V} {Q : VK} {E : XK} (h : spF K w mg (pmF js F) zs H Q E) : spF K w mg F (pmD .non js zs) H Q E := by
  obtain ⟨A, T, τ, Hs, β, hl, R, g⟩ := h
  have hA : A.length = zs.length := by have := R.len; simp at this; omega
  unfold pmF at g
  cases ea : shds A with
  | none => rw [ea] at g; exact g.elim
  | some ds =>
    rw [ea] at g
    dsimp only at g
    have eA := shds_eq ea
    have hd : ds.length = zs.length := by rw [eA] at hA; simpa using hA
    have R1 : Ev.Rep K w β (ds.map .sh ++ T) (zs.map some ++ τ) H Hs := by rw [← eA]; exact Rep.rot hl R
    have q := Rep.dens R1 hd
    have R2 : Ev.Rep K w β T τ H Hs := Rep.dropU (by simp [hd]) R1
    have qp := DenL.pm (js := js) q
    have R3 := Rep.rot (by have := qp.len; simp [this]) (Rep.pushL R2 qp)
    refine ⟨(pmD .non js ds).map .sh, T, τ, Hs, β, hl, R3, ?_⟩
    cases eF : F ((pmD .non js ds).map .sh) with
    | stuck => rw [eF] at g; exact g.elim
    | ok r A' =>
      rw [eF] at g
      intro v H' Hs' R4
      have hA' : A'.length = (pmD .non js zs).length := by have := R4.len; simp at this ⊢; omega
      have R5 : Ev.Rep K w β (r :: T) (some v :: τ) H' Hs' := Rep.dropU (by simp [hA']) (Rep.rot (A := r :: T) (a := some v :: τ) (by simp [hl]) R4)
      have R6 := Rep.unsA (a := zs.map some) R5
      refine g v H' Hs' ?_
      rw [hA]
      simpa using R6
    | exc c d A' =>
      rw [eF] at g
      intro Cl dx vv H' Hs' q1 q2 q3 R4
      have hA' : A'.length = (pmD .non js zs).length := by have := R4.len; simp at this ⊢; omega
      have R5 : Ev.Rep K w β T τ H' Hs' := Rep.dropU (by simp [hA']) (Rep.rot (A := T) (a := τ) hl R4)
      have R6 := Rep.unsA (a := zs.map some) R5
      refine g Cl dx vv H' Hs' q1 q2 q3 ?_
      rw [hA]
      simpa using R6
end
section
variable {X : Cx} {CX : CXT} {k : Nat} {f : Addr} {fd : FuncData} {ps ks : List Str} {sp : Sp} {E : L2.St → XK} {x : Str} {p pos kpos : Pos} {e : Expr} {kws : List Keyword} {t tk : TA} {g : List Value → List Value → List Value} {gV : List V → List V → List V} {β : Nat → Addr} {W : WX}
/-- the keywords' values -/
def PDK (X : Cx) (β : Nat → Addr) (W : WX) (kws : List Keyword) (fs : List AF) : Prop := PK X kws (tAs (cx X β W) fs)
theorem pdk_nil : PDK X β W [] [] := pk_nil
theorem pdk_cons {nm : Option Str} {f : AF} {fs : List AF} (h : PF X β W e f) (t : PDK X β W kws fs) : PDK X β W (⟨nm, e, kpos⟩ :: kws) (f :: fs) := pk_cons h t
theorem pe_callN0 (F : FnOk X.prog X.w X.K X.mg X.base CX k f fd ps sp) (hr : Room k X.A) (hg : Gl X x) (hm : X.mg x = some (.ref f)) (hk : PySem.W.keepIn X.K (.ref f) = true) (hb : KBn X.K fd ps 0 ks g gV) (hx : ∀ σ, PassesAt CX X σ (E σ))
    (hkw : PK X kws tk) (hall : (backToKw pos (keywordEach kws X.env)).all (·.1.isSome) = true) (hks : (backToKw pos (keywordEach kws X.env)).filterMap (·.1) = ks)
    (hdb : (x == ("__debug__" : Str)) = false)
    (hpl : ((backTo pos (starEach [] X.env)).any (·.1) || (backToKw pos (keywordEach kws X.env)).any (·.1.isNone)) = false) :
    PE X (.Call (.Name x p) [] kws pos) (fun σ H Q => tk σ H fun zs H2 => zs.length = ks.length ∧ sp (gV [] zs) H2 Q (E σ)) := by
  refine ⟨fun pins s σ H Q I h => ?_⟩
  refine wpAny_Call_Name_kw (ld_glob I hg hm ?_ hdb)
  refine PySem.W.callWith_KW0 (h₀ := X.base) I.ok.mod.kin hk hall ?_ hpl
  refine thn (hkw.run pos pins s σ H _ I h) fun ws s2 ⟨zs, H2, I2, rz, l2, q2⟩ => ⟨I2.kIn, ?_⟩
  rw [hks]
  refine wpAny_call (codeAny_mono (F.run X.A X.stack s2 H2 ⟨[], ks.zip ws⟩ (g [] ws) (gV [] zs) Q (E σ) hr I2.env0 (hb.to s2 [] ws I2.kIn rfl (rz.length.symm.trans l2)) (hb.rel .nil rz) q2) fun r s' hq => ?_)
  cases r with
  | error e => exact hx σ pins H2 s2 e s' I2 hq
  | ok fl =>
    cases fl with
    | ret u => exact I2.after hq
    | next => exact False.elim hq
    | brk => exact False.elim hq
    | cont => exact False.elim hq
theorem spF_len {K : PySem.W.Frag} {w : World} {mg : Str → Option Value} {F : Fn} {n : Nat} (hF : ∀ A, A.length ≠ n → F A = .stuck) {zs : List V} {H : Hp} {Q : VK} {E : XK} (h : spF K w mg F zs H Q E) : zs.length = n := by
  obtain ⟨A, T, τ, Hs, β, hl, R, g⟩ := h
  have hA : A.length = zs.length := by have := R.len; simp at this; omega
  by_cases e : A.length = n
  · omega
  · rw [hF A e] at g; exact g.elim
theorem tD_mono {C : Ct} {f : M SV} {σ : L2.St} {H : Hp} {Q Q' : VK} (i : ∀ v H, Q v H → Q' v H) (h : tD C f σ H Q) : tD C f σ H Q' := by
  obtain ⟨S, T, τ, Hs, hl, R, g⟩ := h
  exact ⟨S, T, τ, Hs, hl, R, g.mono fun a S1 q v H1 Hs1 r => i _ _ (q v H1 Hs1 r)⟩
theorem tAs_mono {C : Ct} : ∀ {fs : List AF} {σ : L2.St} {H : Hp} {Q Q' : List V → Hp → Prop}, (∀ v H, Q v H → Q' v H) → tAs C fs σ H Q → tAs C fs σ H Q'
  | [], _, _, _, _, i, h => i _ _ h
  | .ex f :: fs, _, _, _, _, i, h => tD_mono (fun v H1 h1 => tAs_mono (fun vs H2 h2 => i _ _ h2) h1) h
  | .pk j :: fs, _, _, _, _, i, ⟨x, e, h⟩ => ⟨x, e, tAs_mono (fun vs H2 h2 => i _ _ h2) h⟩
/-- n keywords only -/
def lenF (n : Nat) (F : Fn) : Fn := fun A => if A.length = n then F A else .stuck
/-- f(k = v, ..): js says where each parameter's value stands among the keywords -/
theorem pd_callK {F : Fn} {js : List Nat} {fs : List AF} (ok : FnOk X.prog X.w X.K X.mg X.base (L2.CX X.prog X.w) k f fd ps (spF X.K X.w X.mg F)) (hr : Room k X.A) (hg : Gl X x) (hm : X.mg x = some (.ref f)) (hk : PySem.W.keepIn X.K (.ref f) = true)
    (hb : ∀ (s : Shared) (ws : List Value), X.K.In s.heap → ws.length = ks.length → BindsTo s fd ⟨[], ks.zip ws⟩ (ps.zip (pmD .none js ws))) (tk : Takes X W) (ha : PDK X β W kws fs)
    (hall : (backToKw pos (keywordEach kws X.env)).all (·.1.isSome) = true) (hks : (backToKw pos (keywordEach kws X.env)).filterMap (·.1) = ks)
    (hdb : (x == ("__debug__" : Str)) = false)
    (hpl : ((backTo pos (starEach [] X.env)).any (·.1) || (backToKw pos (keywordEach kws X.env)).any (·.1.isNone)) = false) :
    PD X β W (.Call (.Name x p) [] kws pos) (callM (lenF ks.length (pmF js F)) fs) := by
  have hb' : KBn X.K fd ps 0 ks (fun us ws => pmD .none js ws) (fun vs zs => pmD .non js zs) := ⟨fun s us ws X hu hw => by
    have : us = [] := List.length_eq_zero_iff.mp hu
    subst this
    exact hb s ws X hw, fun r1 r2 => Vals.pm r2⟩
  refine PE.imp (pe_callN0 (E := WE W) ok hr hg hm hk hb' (fun σ => passAt tk σ) ha hall hks hdb hpl) fun σ H Q h => ?_
  have h1 := tCall_imp h
  refine tAs_mono (fun zs H2 h2 => ?_) h1
  have hn : zs.length = ks.length := spF_len (n := ks.length) (fun A hA => by unfold lenF; rw [if_neg hA]) h2
  refine ⟨hn, spF_pm ?_⟩
  obtain ⟨A, T, τ, Hs, β, hl, R, g⟩ := h2
  refine ⟨A, T, τ, Hs, β, hl, R, ?_⟩
  have hA : A.length = zs.length := by have := R.len; simp at this; omega
  unfold lenF at g
  rw [if_pos (hA.trans hn)] at g
  exact g
end
end Ev
end

section
set_option Elab.async false
set_option linter.all false
set_option maxRecDepth 100000
set_option maxHeartbeats 4000000
/-! Ev, part 16: a name's value that is kept (frozen) or moved; arguments that are slots, shared or borrowed. -/
namespace Ev
open PySem PySem.Spec PyProof.Rows L2
/-- a name's value; an owned object is frozen -/
def varF (i : Nat) : M SV := fun S => match S[i]? with
  | some (.sh d) => .ok (.sh d) S
  | some (.ow o) => .ok (.sh o.D) (S.set i (.sh o.D))
  | _ => .stuck
/-- a name's value, moved out of its slot -/
def movM (i : Nat) : M SV := fun S => match S[i]? with
  | some (.sh d) => .ok (.sh d) S
  | some (.ow o) => .ok (.ow o) (S.set i .un)
  | _ => .stuck
section
variable {C : Ct} {T U P : List SV} {τ υ π : List (Option V)} {σ : L2.St} {S : List SV} {H Hs : Hp}
theorem Rep.frz {i : Nat} {o : Own} (hl : T.length = τ.length) (R : C.Rep (T ++ S) (τ ++ σ) H Hs) (e : S[i]? = some (.ow o)) : ∃ Hs' v, σ[i]? = some (some v) ∧ C.Rep (.sh o.D :: (T ++ S.set i (.sh o.D))) (some v :: (τ ++ σ)) H Hs' := by
  obtain ⟨Hs', R1, _⟩ := Rep.freeze (i := T.length + i) (s := .ow o) (o := o) R (by rw [skip]; exact e) rfl
  rw [List.set_append_right _ _ (by omega), show T.length + i - T.length = i by omega] at R1
  have hi : i < S.length := (List.getElem?_eq_some_iff.mp e).1
  obtain ⟨v, ev, q⟩ := Rep.sh (i := T.length + i) R1 (by rw [skip, List.getElem?_set_self hi])
  rw [hl, skip] at ev
  exact ⟨Hs', v, ev, Rep.push_sh R1 q⟩
end
section
variable {X : Cx} {β : Nat → Addr} {W : WX}
theorem pd_varF {i : Nat} {x : Str} {pos : Pos} (hN : X.N[i]? = some x) (hv : Vis X.env.scope x) (h1 : (x == ("__debug__" : Str)) = false) (h2 : (x == ("__classdict__" : Str)) = false) : PD X β W (.Name x pos) (varF i) := by
  refine PE.imp (pe_var hN hv h1 h2) fun σ H Q ⟨S, T, τ, Hs, hl, R, g⟩ => ?_
  unfold varF at g
  cases es : S[i]? with
  | none => rw [es] at g; exact g.elim
  | some s =>
    cases s with
    | sh d =>
      rw [es] at g
      have R1 : (cx X β W).Rep S σ H Hs := Rep.dropU hl R
      obtain ⟨v, ev, q⟩ := R1.sh es
      exact ⟨v, ev, g v H Hs (Rep.push0 R q)⟩
    | un => rw [es] at g; exact g.elim
    | ow o =>
      rw [es] at g
      obtain ⟨Hs', v, ev, R1⟩ := Rep.frz hl R es
      exact ⟨v, ev, g v H Hs' R1⟩
    | bo j o => rw [es] at g; exact g.elim
theorem pd_movM {i : Nat} {x : Str} {pos : Pos} (hN : X.N[i]? = some x) (hv : Vis X.env.scope x) (h1 : (x == ("__debug__" : Str)) = false) (h2 : (x == ("__classdict__" : Str)) = false) : PD X β W (.Name x pos) (movM i) := by
  refine PE.imp (pe_var hN hv h1 h2) fun σ H Q ⟨S, T, τ, Hs, hl, R, g⟩ => ?_
  unfold movM at g
  cases es : S[i]? with
  | none => rw [es] at g; exact g.elim
  | some s =>
    cases s with
    | sh d =>
      rw [es] at g
      have R1 : (cx X β W).Rep S σ H Hs := Rep.dropU hl R
      obtain ⟨v, ev, q⟩ := R1.sh es
      exact ⟨v, ev, g v H Hs (Rep.push0 R q)⟩
    | un => rw [es] at g; exact g.elim
    | ow o =>
      rw [es] at g
      obtain ⟨x, ex, R1⟩ := Rep.takeU hl R es
      have R2 : (cx X β W).Rep (.ow o :: (T ++ S.set i .un)) (x :: (τ ++ σ)) H Hs := R1
      obtain ⟨x', ex', fp, a, ea, _⟩ := Rep.at (i := 0) R2 rfl
      have : x = x' := by simpa using ex'
      subst this
      subst ea
      exact ⟨.ref a, ex, g _ H Hs R2⟩
    | bo j o => rw [es] at g; exact g.elim
end
end Ev
end

section
set_option Elab.async false
set_option linter.all false
set_option maxRecDepth 100000
set_option maxHeartbeats 4000000
/-! Ev, part 17: + - * // % **. -/
namespace Ev
open PySem PySem.Spec PyProof.Rows L2
section
variable {X : Cx}
def rCatL (K : PySem.W.Frag) : R2 := fun x y H Q => ∃ l b xs zs, x = .ref l ∧ y = .ref b ∧ SqL K H l xs ∧ SqL K H b zs ∧ xs.length + zs.length ≤ sizeLine ∧ ∀ p, H p = none → Q (.ref p) (upd H p (.lst (xs ++ zs)))
theorem op_catL : OpR X (binaryOp .Add) (rCatL X.K) := by
  intro pins s σ H x y v u Q I rx ry h
  obtain ⟨l, b, xs, zs, rfl, rfl, hH, hB, hz, q⟩ := h
  cases rx
  cases ry
  obtain ⟨vs, r, pl, _⟩ := I.list hH
  obtain ⟨ws, r2, pl2, _⟩ := I.list hB
  obtain ⟨⟨cls, dd, data, sl⟩, ho, hc, n, hd⟩ := pl.isList
  obtain ⟨⟨cls2, dd2, data2, sl2⟩, ho2, hc2, n2, hd2⟩ := pl2.isList
  simp only at hc hd hc2 hd2
  subst hc hd hc2 hd2
  have e : vs.toArray ++ ws.toArray = (vs ++ ws).toArray := by simp
  have h1 := r.length
  have h2 := r2.length
  refine concat_meets ⟨_, ho, rfl⟩ ⟨_, ho2, rfl⟩ noFill_list_add seq_list_add PySem.F.slot_list_add PySem.F.entry_list_add (PySem.F.args_list_add_2 _ _) (list_addW l b vs.toArray ws.toArray n n2 dd dd2 sl sl2 (by rw [List.size_toArray, List.size_toArray]; omega)) ⟨ho, ho2, ?_⟩
  rw [e]
  exact ⟨.ref _, _, I.lnew (t' := s.toks) (r.append r2) (by rw [List.length_append]; omega), rfl, q _ I.fresh⟩
def rRepL (K : PySem.W.Frag) : R2 := fun x y H Q => ∃ l k xs, x = .ref l ∧ y = .int k ∧ SqL K H l xs ∧ -(2 ^ 63) ≤ k ∧ k < 2 ^ 63 ∧ xs.length * k.toNat ≤ 2 ^ 24 ∧
  ∀ p, H p = none → Q (.ref p) (upd H p (.lst (List.replicate k.toNat xs).flatten))
theorem op_repL : OpR X (binaryOp .Mult) (rRepL X.K) := by
  intro pins s σ H x y v u Q I rx ry h
  obtain ⟨l, k, xs, rfl, rfl, hH, h1, h2, hz, q⟩ := h
  cases rx
  obtain ⟨t, rfl⟩ := ry
  obtain ⟨vs, r, pl, _⟩ := I.list hH
  obtain ⟨⟨cls, d, data, sl⟩, ho, hcl, n, hd⟩ := pl.isList
  simp only at hcl hd
  subst hcl hd
  have hl := r.length
  have hsz' : vs.toArray.size * k.toNat ≤ 2 ^ 24 := by rw [List.size_toArray, ← hl]; exact hz
  refine wpAny_binaryOp_repeat_ref (T := "list") (U := "int") (by decide) ⟨_, ho, rfl⟩ (fun s' => typeIs_int s' k t) noFill_list_mul F.fills_int_mul F.slot_int_rmul repeat_list F.slot_int_index.lookup
    (call_meets F.slot_int_rmul (typeIs_int s k t) F.entry_int_rmul (F.args_int_rmul_2 _ _) (lm_int_rmul_list_any k t l vs.toArray n d sl)
      ⟨ho, rfl, ⟨_, ho, rfl⟩, call_meets F.slot_list_mul ⟨_, ho, rfl⟩ F.entry_list_mul (F.args_list_mul_2 _ _)
        (lm_list_mul_any l vs.toArray n d sl k t (by simp [Builtin.List.listFitsIndex]; omega) (by omega) (by simp [Builtin.List.listTooLong, sizeLine]; omega))
        ⟨ho, ?_⟩⟩)
  rw [listMul_foldl_if]
  exact ⟨.ref _, _, I.lnew (t' := s.toks) (r.rep k.toNat) (by rw [PyProof.Rows.lm_len_rep_flat, Nat.mul_comm, sizeLine_eq]; omega), rfl, q _ I.fresh⟩
end
/-! ### on data -/
def fitD (r : SV) (n : Nat) : Option SV := if n ≤ sizeLine then some r else none
def addD : List D → Option SV
  | [.int i, .int j] => some (.sh (.int (i + j)))
  | [.str x, .str y] => if x.length + y.length ≤ sizeLine then some (.sh (.str (x ++ y))) else none
  | [.tup xs, .tup ys] => if xs.length + ys.length ≤ sizeLine then some (.sh (.tup (xs ++ ys))) else none
  | [.lst xs, .lst ys] => if xs.length + ys.length ≤ sizeLine then some (.ow (.l (xs ++ ys))) else none
  | _ => none
def subD : List D → Option SV
  | [.int i, .int j] => some (.sh (.int (i - j)))
  | _ => none
instance {i j : Int} : Decidable (CMulW i j) := inferInstanceAs (Decidable (_ < _))
instance {i j : Int} : Decidable (CDivW i j) := inferInstanceAs (Decidable (_ ∧ _))
instance {i j : Int} : Decidable (CPow i j) := inferInstanceAs (Decidable (_ ∧ _))
def repsD (xs : List D) (k : Nat) : List D := (List.replicate k xs).flatten
instance (i j : Int) : Decidable (CMul i j) := inferInstanceAs (Decidable ((-(2 ^ 64) < i ∧ i < 2 ^ 64) ∨ (-(2 ^ 64) < j ∧ j < 2 ^ 64)))
def mulD : List D → Option SV
  | [.int i, .int j] => if CMulW i j then some (.sh (.int (i * j))) else if CMul i j then some (.sh (.int (i * j))) else none
  | [.lst xs, .int k] => if -(2 ^ 63) ≤ k ∧ k < 2 ^ 63 ∧ xs.length * k.toNat ≤ 2 ^ 24 then some (.ow (.l (repsD xs k.toNat))) else none
  | [.tup xs, .int k] => if xs ≠ [] ∧ 2 ≤ k ∧ k ≤ 1000 ∧ xs.length ≤ 1000 then some (.sh (.tup (repsD xs k.toNat))) else none
  | _ => none
def fdivD : List D → Option SV
  | [.int i, .int j] => if CDivW i j then some (.sh (.int (i / j))) else none
  | _ => none
def modD : List D → Option SV
  | [.int i, .int j] => if 0 < j then some (.sh (.int (i % j))) else none
  | _ => none
def powD : List D → Option SV
  | [.int i, .int j] => if CPow i j then some (.sh (.int (i ^ j.toNat))) else none
  | _ => none
def rAdd (K : PySem.W.Frag) : R2 := fun x y H Q => rI0 (fun i j => .int (i + j)) x y H Q ∨ (rCatS x y H Q ∨ (rCatN K x y H Q ∨ rCatL K x y H Q))
def rMul (K : PySem.W.Frag) : R2 := fun x y H Q => rI (fun i j => CMulW i j ∨ CMul i j) (fun i j => .int (i * j)) x y H Q ∨ (rRepL K x y H Q ∨ rRepN K x y H Q)
section
variable {X : Cx} {C : Ct}
theorem View.isInt {K w H Hs i v} (h : View K w H Hs (.int i) v) : v = .int i := (Den.int (K := K) (w := w) (H := Hs)).mp h
theorem View.isStr {K w H Hs x v} (h : View K w H Hs (.str x) v) : v = .str x := (Den.str (K := K) (w := w) (H := Hs)).mp h
theorem View.isBl {K w H Hs x v} (h : View K w H Hs (.bl x) v) : v = .bl x := (Den.bl (K := K) (w := w) (H := Hs)).mp h
theorem View.isNon {K w H Hs v} (h : View K w H Hs .non v) : v = .non := (Den.non (K := K) (w := w) (H := Hs)).mp h
theorem ViewL.inv {K : PySem.W.Frag} {w : World} {H Hs : Hp} {d : D} {ds : List D} {vs : List V} (h : ViewL K w H Hs (d :: ds) vs) : ∃ v vs', vs = v :: vs' ∧ View K w H Hs d v ∧ ViewL K w H Hs ds vs' := by
  cases h with
  | cons a b => exact ⟨_, _, rfl, a, b⟩
theorem ViewL.inv0 {K : PySem.W.Frag} {w : World} {H Hs : Hp} {vs : List V} (h : ViewL K w H Hs [] vs) : vs = [] := by cases h; rfl
theorem op_catSt : OpR X (binaryOp .Add) rCatS := op_add_str
theorem op_addA : OpR X (binaryOp .Add) (rAdd X.K) := OpR.or op_add (OpR.or op_catSt (OpR.or op_catN op_catL))
theorem op_mulB : OpR X (binaryOp .Mult) (rI (fun i j => CMulW i j ∨ CMul i j) fun i j => .int (i * j)) := opI fun _ _ _ _ _ _ _ hc q => mul_int q (hc.elim CMulW.ok CMul.ok)
theorem op_mulA : OpR X (binaryOp .Mult) (rMul X.K) := OpR.or op_mulB (OpR.or op_repL op_repN)
theorem DenL.repl {K w H} {ds : List D} {vs : List V} (q : DenL K w H ds vs) : ∀ k : Nat, DenL K w H (repsD ds k) (List.replicate k vs).flatten
  | 0 => by show DenL K w H (List.replicate 0 ds).flatten _; simp; exact DenL.nil
  | k + 1 => by
    show DenL K w H (List.replicate (k + 1) ds).flatten _
    rw [List.replicate_succ, List.replicate_succ, List.flatten_cons, List.flatten_cons]
    exact q.append (DenL.repl q k)
theorem ok_add : OkOp C (two (rAdd C.K)) addD := fun T τ H Hs vs ds sv Q R vw e hq => by
  unfold addD at e
  split at e
  · rename_i i j
    obtain ⟨x, _, rfl, v1, vw⟩ := vw.inv
    obtain ⟨y, _, rfl, v2, vw⟩ := vw.inv
    cases vw.inv0
    cases v1.isInt; cases v2.isInt
    cases e
    exact .inl ⟨i, j, rfl, rfl, hq _ _ _ (Rep.push_sh R (Den.int.mpr rfl))⟩
  · rename_i x y
    obtain ⟨_, _, rfl, v1, vw⟩ := vw.inv
    obtain ⟨_, _, rfl, v2, vw⟩ := vw.inv
    cases vw.inv0
    cases v1.isStr; cases v2.isStr
    split at e
    · rename_i hz
      cases e
      exact .inr (.inl ⟨x, y, rfl, rfl, hz, hq _ _ _ (Rep.push_sh R (Den.str.mpr rfl))⟩)
    · cases e
  · rename_i xs ys
    obtain ⟨_, _, rfl, v1, vw⟩ := vw.inv
    obtain ⟨_, _, rfl, v2, vw⟩ := vw.inv
    cases vw.inv0
    obtain ⟨a, us, rfl, s1, d1, t1⟩ := v1
    obtain ⟨b, ws, rfl, s2, d2, t2⟩ := v2
    split at e
    · rename_i hz
      cases e
      have l1 := d1.len
      have l2 := d2.len
      have tupOf : ∀ {a : Addr} {zs : List V} {ds : List D}, TpN Hs a zs → DenL C.K C.w Hs ds zs → Den C.K C.w Hs (.tup ds) (.ref a) := fun {a zs ds} h1 h2 => by
        rw [Den]; exact ⟨a, zs, rfl, h1, h2⟩
      refine .inr (.inr (.inl ⟨a, b, us, ws, rfl, rfl, s1, s2, by omega, fun hn => ?_, fun hn hm => ?_, fun hn hm p ob ho hp => ?_⟩))
      · subst hn
        have : xs = [] := List.eq_nil_of_length_eq_zero l1
        subst this
        exact hq _ _ _ (Rep.push_sh R (tupOf t2 d2))
      · subst hm
        have : ys = [] := List.eq_nil_of_length_eq_zero l2
        subst this
        rw [List.append_nil] at hq
        exact hq _ _ _ (Rep.push_sh R (tupOf t1 d1))
      · exact hq _ _ _ (Rep.new_tup R ho hp (d1.append d2))
    · cases e
  · rename_i xs ys
    obtain ⟨_, _, rfl, v1, vw⟩ := vw.inv
    obtain ⟨_, _, rfl, v2, vw⟩ := vw.inv
    cases vw.inv0
    obtain ⟨a, us, rfl, s1, d1⟩ := v1
    obtain ⟨b, ws, rfl, s2, d2⟩ := v2
    split at e
    · rename_i hz
      cases e
      have l1 := d1.len
      have l2 := d2.len
      refine .inr (.inr (.inr ⟨a, b, us, ws, rfl, rfl, s1, s2, by omega, fun p hp => ?_⟩))
      exact hq _ _ _ (Rep.new_lst R hp (d1.append d2))
    · cases e
  · cases e
/-- a rule for two views -/
theorem ok_two {r : R2} {f : List D → Option SV} (h : ∀ (T : List SV) (τ : List (Option V)) (H Hs : Hp) (x y : V) (a b : D) (sv : SV) (Q : VK), C.Rep T τ H Hs → View C.K C.w H Hs a x → View C.K C.w H Hs b y → f [a, b] = some sv →
    (∀ v H' Hs', C.Rep (sv :: T) (some v :: τ) H' Hs' → Q v H') → r x y H Q) (hf : ∀ ds sv, f ds = some sv → ∃ a b, ds = [a, b]) : OkOp C (two r) f := fun T τ H Hs vs ds sv Q R vw e hq => by
  obtain ⟨a, b, rfl⟩ := hf ds sv e
  obtain ⟨x, _, rfl, v1, vw⟩ := vw.inv
  obtain ⟨y, _, rfl, v2, vw⟩ := vw.inv
  cases vw.inv0
  exact h T τ H Hs x y a b sv Q R v1 v2 e hq
theorem ok_sub : OkOp C (two (rI0 fun i j => .int (i - j))) subD := ok_two (fun T τ H Hs x y a b sv Q R v1 v2 e hq => by
  unfold subD at e
  split at e
  · rename_i i j h
    cases h
    cases v1.isInt; cases v2.isInt
    cases e
    exact ⟨i, j, rfl, rfl, hq _ _ _ (Rep.push_sh R (Den.int.mpr rfl))⟩
  · cases e) fun ds sv e => by unfold subD at e; split at e <;> first | exact ⟨_, _, rfl⟩ | cases e
theorem ok_mul : OkOp C (two (rMul C.K)) mulD := ok_two (fun T τ H Hs x y a b sv Q R v1 v2 e hq => by
  unfold mulD at e
  split at e
  · rename_i i j h
    cases h
    cases v1.isInt; cases v2.isInt
    split at e
    · rename_i hc
      cases e
      exact .inl ⟨i, j, rfl, rfl, .inl hc, hq _ _ _ (Rep.push_sh R (Den.int.mpr rfl))⟩
    · split at e
      · rename_i hc
        cases e
        exact .inl ⟨i, j, rfl, rfl, .inr hc, hq _ _ _ (Rep.push_sh R (Den.int.mpr rfl))⟩
      · cases e
  · rename_i xs k h
    cases h
    cases v2.isInt
    obtain ⟨a, us, rfl, s1, d1⟩ := v1
    split at e
    · rename_i hc
      cases e
      have l1 := d1.len
      exact .inr (.inl ⟨a, k, us, rfl, rfl, s1, hc.1, hc.2.1, by rw [← l1]; exact hc.2.2, fun p hp => hq _ _ _ (Rep.new_lst R hp (d1.repl _))⟩)
    · cases e
  · rename_i xs k h
    cases h
    cases v2.isInt
    obtain ⟨a, us, rfl, s1, d1, t1⟩ := v1
    split at e
    · rename_i hc
      cases e
      have l1 := d1.len
      refine .inr (.inr ⟨a, k, us, rfl, rfl, s1, fun hn => hc.1 ?_, hc.2.1, hc.2.2.1, by omega, fun p ob ho hp => hq _ _ _ (Rep.new_tup R ho hp (d1.repl _))⟩)
      subst hn
      exact List.eq_nil_of_length_eq_zero l1
    · cases e
  · cases e) fun ds sv e => by unfold mulD at e; split at e <;> first | exact ⟨_, _, rfl⟩ | cases e
theorem ok_fdiv : OkOp C (two (rI CDivW fun i j => .int (i / j))) fdivD := ok_two (fun T τ H Hs x y a b sv Q R v1 v2 e hq => by
  unfold fdivD at e
  split at e
  · rename_i i j h
    cases h
    cases v1.isInt; cases v2.isInt
    split at e
    · rename_i hc
      cases e
      exact ⟨i, j, rfl, rfl, hc, hq _ _ _ (Rep.push_sh R (Den.int.mpr rfl))⟩
    · cases e
  · cases e) fun ds sv e => by unfold fdivD at e; split at e <;> first | exact ⟨_, _, rfl⟩ | cases e
theorem ok_mod : OkOp C (two (rI (fun _ j => 0 < j) fun i j => .int (i % j))) modD := ok_two (fun T τ H Hs x y a b sv Q R v1 v2 e hq => by
  unfold modD at e
  split at e
  · rename_i i j h
    cases h
    cases v1.isInt; cases v2.isInt
    split at e
    · rename_i hc
      cases e
      exact ⟨i, j, rfl, rfl, hc, hq _ _ _ (Rep.push_sh R (Den.int.mpr rfl))⟩
    · cases e
  · cases e) fun ds sv e => by unfold modD at e; split at e <;> first | exact ⟨_, _, rfl⟩ | cases e
theorem ok_pow : OkOp C (two (rI CPow fun i j => .int (i ^ j.toNat))) powD := ok_two (fun T τ H Hs x y a b sv Q R v1 v2 e hq => by
  unfold powD at e
  split at e
  · rename_i i j h
    cases h
    cases v1.isInt; cases v2.isInt
    split at e
    · rename_i hc
      cases e
      exact ⟨i, j, rfl, rfl, hc, hq _ _ _ (Rep.push_sh R (Den.int.mpr rfl))⟩
    · cases e
  · cases e) fun ds sv e => by unfold powD at e; split at e <;> first | exact ⟨_, _, rfl⟩ | cases e
def negD : List D → Option SV
  | [.int i] => some (.sh (.int (-i)))
  | _ => none
theorem ok_neg : OkOp C (onee (rU fun i => .int (-i))) negD := fun T τ H Hs vs ds sv Q R vw e hq => by
  unfold negD at e
  split at e
  · rename_i i
    obtain ⟨x, _, rfl, v1, vw⟩ := vw.inv
    cases vw.inv0
    cases v1.isInt
    cases e
    exact ⟨i, rfl, hq _ _ _ (Rep.push_sh R (Den.int.mpr rfl))⟩
  · cases e
/-- the operators -/
def binD : Operator → Option (List D → Option SV)
  | .Add => some addD
  | .Sub => some subD
  | .Mult => some mulD
  | .FloorDiv => some fdivD
  | .Mod => some modD
  | .Pow => some powD
  | _ => none
theorem binD_ok {op : Operator} {f : List D → Option SV} (h : binD op = some f) : ∃ r : PySem.W.Frag → R2, (∀ X : Cx, OpR X (binaryOp op) (r X.K)) ∧ ∀ C : Ct, OkOp C (two (r C.K)) f := by
  unfold binD at h
  split at h <;> cases h
  · exact ⟨rAdd, fun X => op_addA, fun C => ok_add⟩
  · exact ⟨fun _ => _, fun X => op_sub, fun C => ok_sub⟩
  · exact ⟨rMul, fun X => op_mulA, fun C => ok_mul⟩
  · exact ⟨fun _ => _, fun X => op_fdivW, fun C => ok_fdiv⟩
  · exact ⟨fun _ => _, fun X => op_mod, fun C => ok_mod⟩
  · exact ⟨fun _ => _, fun X => op_pow, fun C => ok_pow⟩
end
end Ev
end

section
set_option Elab.async false
set_option linter.all false
set_option maxRecDepth 100000
set_option maxHeartbeats 4000000
/-! Ev, part 18: == != < <= > >= in, not in, is, is not. -/
namespace Ev
open PySem PySem.Spec PyProof.Rows L2
mutual
def D.py : D → Option PyData
  | .non => some .none
  | .bl b => some (.bool b)
  | .int i => some (.int i)
  | .str x => some (.str x)
  | .tup ds => (D.pys ds).map .tuple
  | .lst ds => (D.pys ds).map .list
  | _ => none
def D.pys : List D → Option (List PyData)
  | [] => some []
  | d :: ds => match D.py d, D.pys ds with
    | some p, some ps => some (p :: ps)
    | _, _ => none
end
section
variable {K : PySem.W.Frag} {w : World} {H Hs : Hp}
mutual
theorem Den.dp (s : Sub Hs H) : ∀ {d : D} {v : V} {p : PyData}, Den K w Hs d v → d.py = some p → Dp K H v p
  | .non, _, _, q, e => by cases e; rw [Den.non.mp q]; exact .non
  | .bl b, _, _, q, e => by cases e; rw [Den.bl.mp q]; exact .bl b
  | .int b, _, _, q, e => by cases e; rw [Den.int.mp q]; exact .int b
  | .str b, _, _, q, e => by cases e; rw [Den.str.mp q]; exact .str b
  | .tup ds, v, p, q, e => by
    unfold D.py at e
    cases e1 : D.pys ds with
    | none => rw [e1] at e; cases e
    | some ps =>
      rw [e1] at e
      cases e
      rw [Den] at q
      obtain ⟨a, vs, rfl, h1, h2⟩ := q
      exact .tup (SqT.sub s h1.sq) (DenL.dp s h2 e1)
  | .lst ds, v, p, q, e => by
    unfold D.py at e
    cases e1 : D.pys ds with
    | none => rw [e1] at e; cases e
    | some ps =>
      rw [e1] at e
      cases e
      rw [Den] at q
      obtain ⟨a, vs, rfl, h1, h2⟩ := q
      exact .lst (SqL.sub s h1) (DenL.dp s h2 e1)
  | .dic _ _, _, _, _, e => by cases e
  | .rng _ _, _, _, _, e => by cases e
  | .exn _ _, _, _, _, e => by cases e
  | .prs _, _, _, _, e => by cases e
theorem DenL.dp (s : Sub Hs H) : ∀ {ds : List D} {vs : List V} {ps : List PyData}, DenL K w Hs ds vs → D.pys ds = some ps → DpAll K H vs ps
  | [], _, _, q, e => by cases e; rw [DenL.nil_iff] at q; subst q; exact .nil
  | d :: ds, _, _, q, e => by
    rw [DenL.cons_iff] at q
    obtain ⟨v, r, rfl, q1, q2⟩ := q
    unfold D.pys at e
    cases e1 : D.py d with
    | none => rw [e1] at e; cases e
    | some p =>
      cases e2 : D.pys ds with
      | none => rw [e1, e2] at e; cases e
      | some ps =>
        rw [e1, e2] at e
        cases e
        exact .cons (Den.dp s q1 e1) (DenL.dp s q2 e2)
end
theorem View.dp (s : Sub Hs H) {d : D} {v : V} {p : PyData} (q : View K w H Hs d v) (e : d.py = some p) : Dp K H v p := by
  cases d with
  | non => exact Den.dp (w := w) s (show Den K w Hs .non v from q) e
  | bl b => exact Den.dp (w := w) s (show Den K w Hs (.bl b) v from q) e
  | int b => exact Den.dp (w := w) s (show Den K w Hs (.int b) v from q) e
  | str b => exact Den.dp (w := w) s (show Den K w Hs (.str b) v from q) e
  | tup ds =>
    obtain ⟨a, vs, rfl, h1, h2, h3⟩ := q
    unfold D.py at e
    cases e1 : D.pys ds with
    | none => rw [e1] at e; cases e
    | some ps => rw [e1] at e; cases e; exact .tup h1 (DenL.dp s h2 e1)
  | lst ds =>
    obtain ⟨a, vs, rfl, h1, h2⟩ := q
    unfold D.py at e
    cases e1 : D.pys ds with
    | none => rw [e1] at e; cases e
    | some ps => rw [e1] at e; cases e; exact .lst h1 (DenL.dp s h2 e1)
  | dic _ _ => cases e
  | rng _ _ => cases e
  | exn _ _ => cases e
  | prs _ => cases e
end
/-- data that == may be asked of -/
def shp (d : D) : Option PyData := match d.py with
  | some p => if SeqAt.shaped p = true then some p else none
  | none => none
theorem shp_eq {d : D} {p : PyData} (h : shp d = some p) : d.py = some p ∧ SeqAt.shaped p = true := by
  unfold shp at h
  cases e : d.py with
  | none => rw [e] at h; cases h
  | some p' =>
    rw [e] at h
    dsimp only at h
    split at h
    · cases h; exact ⟨rfl, by assumption⟩
    · cases h
def eqD (neg : Bool) : List D → Option SV
  | [a, b] => match shp a, shp b with
    | some p, some q => some (.sh (.bl (if neg then !PyData.eqv p q else PyData.eqv p q)))
    | _, _ => none
  | _ => none
def strD (f : Str → Str → Bool) (g : Int → Int → Bool) : List D → Option SV
  | [.int i, .int j] => some (.sh (.bl (g i j)))
  | [.str x, .str y] => some (.sh (.bl (f x y)))
  | _ => none
def ltS (x y : Str) : Bool := decide (x.cps.toList < y.cps.toList)
def inD (neg : Bool) : List D → Option SV
  | [.str x, .str y] => some (.sh (.bl (if neg then !(!(Builtin.Str.occurrences y x 0 y.length 1).isEmpty) else !(Builtin.Str.occurrences y x 0 y.length 1).isEmpty)))
  | [a, .lst ys] => match shp a, shp (.lst ys) with
    | some p, some (.list qs) => some (.sh (.bl (if neg then !(qs.any fun z => PyData.eqv z p) else qs.any fun z => PyData.eqv z p)))
    | _, _ => none
  | [a, .tup ys] => match shp a, shp (.tup ys) with
    | some p, some (.tuple qs) => some (.sh (.bl (if neg then !(qs.any fun z => PyData.eqv z p) else qs.any fun z => PyData.eqv z p)))
    | _, _ => none
  | _ => none
def isD (neg : Bool) : List D → Option SV
  | [.non, .non] => some (.sh (.bl (!neg)))
  | [.bl _, .non] => some (.sh (.bl neg))
  | [.int _, .non] => some (.sh (.bl neg))
  | [.str _, .non] => some (.sh (.bl neg))
  | [.tup _, .non] => some (.sh (.bl neg))
  | [.lst _, .non] => some (.sh (.bl neg))
  | [.dic _ _, .non] => some (.sh (.bl neg))
  | [.exn _ _, .non] => some (.sh (.bl neg))
  | _ => none
section
variable {X : Cx} {C : Ct}
def rInT (K : PySem.W.Frag) (neg : Bool) : R2 := fun x y H Q => ∃ d ds, Dp K H x d ∧ Dp K H y (.tuple ds) ∧ SeqAt.shaped d = true ∧ SeqAt.shaped (.tuple ds) = true ∧ Q (.bl (if neg then !(ds.any fun z => PyData.eqv z d) else ds.any fun z => PyData.eqv z d)) H
theorem room_in_shapedT {A : Around} {d : PyData} {n : Nat} (sd : SeqAt.shaped d = true) (hu : A.units + 65 < cLine) : A.units + 1 + min n d.depth < cLine := by
  have h1 := SeqAt.depth_of_shaped sd
  have h2 : min n d.depth ≤ d.depth := Nat.min_le_right _ _
  omega
theorem op_inT (hu : X.A.units + 65 < cLine) : OpR X (compareOp .In) (rInT X.K false) := by
  intro pins s σ H x y v u Q I rx ry h
  obtain ⟨d, ds, hd, he, sd, se, q⟩ := h
  obtain ⟨as, r1⟩ := Dp.reads I d x v hd rx
  obtain ⟨bs, r2⟩ := Dp.reads I (.tuple ds) y u he ry
  exact SeqAt.in_tuple_reads r2 r1 (SeqAt.canLay_of_shaped se) (SeqAt.canLay_of_shaped sd) (room_in_shapedT sd hu) ⟨.bl _, H, I, rfl, q⟩
theorem op_notInT (hu : X.A.units + 65 < cLine) : OpR X (compareOp .NotIn) (rInT X.K true) := by
  intro pins s σ H x y v u Q I rx ry h
  obtain ⟨d, ds, hd, he, sd, se, q⟩ := h
  obtain ⟨as, r1⟩ := Dp.reads I d x v hd rx
  obtain ⟨bs, r2⟩ := Dp.reads I (.tuple ds) y u he ry
  exact SeqAt.notIn_tuple_reads r2 r1 (SeqAt.canLay_of_shaped se) (SeqAt.canLay_of_shaped sd) (room_in_shapedT sd hu) ⟨.bl _, H, I, rfl, q⟩
theorem push_bl {T : List SV} {τ : List (Option V)} {H Hs : Hp} {b : Bool} (R : C.Rep T τ H Hs) : C.Rep (.sh (.bl b) :: T) (some (.bl b) :: τ) H Hs := Rep.push_sh R (Den.bl.mpr rfl)
theorem ok_eq : OkOp C (two (rEqD C.K)) (eqD false) := ok_two (fun T τ H Hs x y a b sv Q R v1 v2 e hq => by
  unfold eqD at e
  dsimp only at e
  split at e
  · rename_i p q e1 e2
    cases e
    exact ⟨p, q, v1.dp R.sub (shp_eq e1).1, v2.dp R.sub (shp_eq e2).1, (shp_eq e1).2, (shp_eq e2).2, hq _ _ _ (push_bl R)⟩
  · cases e) fun ds sv e => by unfold eqD at e; split at e <;> first | exact ⟨_, _, rfl⟩ | cases e
theorem ok_ne : OkOp C (two (rNeD C.K)) (eqD true) := ok_two (fun T τ H Hs x y a b sv Q R v1 v2 e hq => by
  unfold eqD at e
  dsimp only at e
  split at e
  · rename_i p q e1 e2
    cases e
    exact ⟨p, q, v1.dp R.sub (shp_eq e1).1, v2.dp R.sub (shp_eq e2).1, (shp_eq e1).2, (shp_eq e2).2, hq _ _ _ (push_bl R)⟩
  · cases e) fun ds sv e => by unfold eqD at e; split at e <;> first | exact ⟨_, _, rfl⟩ | cases e
def rStr (f : Str → Str → Bool) (g : Int → Int → Bool) : R2 := fun x y H Q => rI0 (fun i j => .bl (g i j)) x y H Q ∨ ∃ i j, x = .str i ∧ y = .str j ∧ Q (.bl (f i j)) H
theorem ok_str {f : Str → Str → Bool} {g : Int → Int → Bool} : OkOp C (two (rStr f g)) (strD f g) := ok_two (fun T τ H Hs x y a b sv Q R v1 v2 e hq => by
  unfold strD at e
  split at e
  · rename_i i j h
    cases h
    cases v1.isInt; cases v2.isInt
    cases e
    exact .inl ⟨i, j, rfl, rfl, hq _ _ _ (push_bl R)⟩
  · rename_i i j h
    cases h
    cases v1.isStr; cases v2.isStr
    cases e
    exact .inr ⟨i, j, rfl, rfl, hq _ _ _ (push_bl R)⟩
  · cases e) fun ds sv e => by unfold strD at e; split at e <;> first | exact ⟨_, _, rfl⟩ | cases e
def rInA (K : PySem.W.Frag) : R2 := fun x y H Q => (∃ i j, x = .str i ∧ y = .str j ∧ Q (.bl (!(Builtin.Str.occurrences j i 0 j.length 1).isEmpty)) H) ∨ (rInD K x y H Q ∨ rInT K false x y H Q)
def rNotInA (K : PySem.W.Frag) : R2 := fun x y H Q => (∃ i j, x = .str i ∧ y = .str j ∧ Q (.bl (!(!(Builtin.Str.occurrences j i 0 j.length 1).isEmpty))) H) ∨ (rNotInD K x y H Q ∨ rInT K true x y H Q)
theorem ok_in : OkOp C (two (rInA C.K)) (inD false) := ok_two (fun T τ H Hs x y a b sv Q R v1 v2 e hq => by
  unfold inD at e
  split at e
  · rename_i i j h
    cases h
    cases v1.isStr; cases v2.isStr
    cases e
    exact .inl ⟨i, j, rfl, rfl, hq _ _ _ (push_bl R)⟩
  · rename_i a ys h
    cases h
    split at e
    · rename_i p qs e1 e2
      cases e
      exact .inr (.inl ⟨p, qs, v1.dp R.sub (shp_eq e1).1, v2.dp R.sub (shp_eq e2).1, (shp_eq e1).2, (shp_eq e2).2, hq _ _ _ (push_bl R)⟩)
    · cases e
  · rename_i a ys h
    cases h
    split at e
    · rename_i p qs e1 e2
      cases e
      exact .inr (.inr ⟨p, qs, v1.dp R.sub (shp_eq e1).1, v2.dp R.sub (shp_eq e2).1, (shp_eq e1).2, (shp_eq e2).2, hq _ _ _ (push_bl R)⟩)
    · cases e
  · cases e) fun ds sv e => by unfold inD at e; split at e <;> first | exact ⟨_, _, rfl⟩ | cases e
theorem ok_notIn : OkOp C (two (rNotInA C.K)) (inD true) := ok_two (fun T τ H Hs x y a b sv Q R v1 v2 e hq => by
  unfold inD at e
  split at e
  · rename_i i j h
    cases h
    cases v1.isStr; cases v2.isStr
    cases e
    exact .inl ⟨i, j, rfl, rfl, hq _ _ _ (push_bl R)⟩
  · rename_i a ys h
    cases h
    split at e
    · rename_i p qs e1 e2
      cases e
      exact .inr (.inl ⟨p, qs, v1.dp R.sub (shp_eq e1).1, v2.dp R.sub (shp_eq e2).1, (shp_eq e1).2, (shp_eq e2).2, hq _ _ _ (push_bl R)⟩)
    · cases e
  · rename_i a ys h
    cases h
    split at e
    · rename_i p qs e1 e2
      cases e
      exact .inr (.inr ⟨p, qs, v1.dp R.sub (shp_eq e1).1, v2.dp R.sub (shp_eq e2).1, (shp_eq e1).2, (shp_eq e2).2, hq _ _ _ (push_bl R)⟩)
    · cases e
  · cases e) fun ds sv e => by unfold inD at e; split at e <;> first | exact ⟨_, _, rfl⟩ | cases e
theorem view_ref {K : PySem.W.Frag} {w : World} {H Hs : Hp} {d : D} {v : V} (h : View K w H Hs d v) : (∃ xs, d = .tup xs ∨ d = .lst xs) ∨ (∃ ks vs, d = .dic ks vs ∨ ∃ c x, d = .exn c x) → ∃ a, v = .ref a := by
  rintro (⟨xs, rfl | rfl⟩ | ⟨ks, vs, rfl | ⟨c, x, rfl⟩⟩)
  · obtain ⟨a, vs, rfl, _⟩ := h; exact ⟨a, rfl⟩
  · obtain ⟨a, vs, rfl, _⟩ := h; exact ⟨a, rfl⟩
  · obtain ⟨a, _, _, _, rfl, _⟩ := h; exact ⟨a, rfl⟩
  · have h : Den K w Hs (.exn c x) v := h
    rw [Den] at h
    obtain ⟨a, _, rfl, _⟩ := h; exact ⟨a, rfl⟩
def rIsNo (neg : Bool) : R2 := fun x y H Q => y = .non ∧ Q (.bl (if neg then !decide (x = .non) else decide (x = .non))) H
theorem isD_ok {neg : Bool} {a b : D} {sv : SV} (e : isD neg [a, b] = some sv) {x y : V} {H Hs : Hp} (v1 : View C.K C.w H Hs a x) (v2 : View C.K C.w H Hs b y) : y = .non ∧ sv = .sh (.bl (if neg then !decide (x = .non) else decide (x = .non))) := by
  have rf : ((∃ xs, a = .tup xs ∨ a = .lst xs) ∨ ∃ ks vs, a = .dic ks vs ∨ ∃ c x, a = .exn c x) → decide (x = .non) = false := fun h => by
    obtain ⟨p, rfl⟩ := view_ref v1 h
    simp
  unfold isD at e
  split at e
  · rename_i h; cases h; cases e; cases v1.isNon; cases v2.isNon; exact ⟨rfl, by cases neg <;> rfl⟩
  · rename_i h; cases h; cases e; cases v1.isBl; cases v2.isNon; exact ⟨rfl, by cases neg <;> rfl⟩
  · rename_i h; cases h; cases e; cases v1.isInt; cases v2.isNon; exact ⟨rfl, by cases neg <;> rfl⟩
  · rename_i h; cases h; cases e; cases v1.isStr; cases v2.isNon; exact ⟨rfl, by cases neg <;> rfl⟩
  · rename_i xs h; cases h; cases e; cases v2.isNon; refine ⟨rfl, ?_⟩; rw [rf (.inl ⟨xs, .inl rfl⟩)]; cases neg <;> rfl
  · rename_i xs h; cases h; cases e; cases v2.isNon; refine ⟨rfl, ?_⟩; rw [rf (.inl ⟨xs, .inr rfl⟩)]; cases neg <;> rfl
  · rename_i ks vs h; cases h; cases e; cases v2.isNon; refine ⟨rfl, ?_⟩; rw [rf (.inr ⟨ks, vs, .inl rfl⟩)]; cases neg <;> rfl
  · rename_i c x h; cases h; cases e; cases v2.isNon; refine ⟨rfl, ?_⟩; rw [rf (.inr ⟨[], [], .inr ⟨c, x, rfl⟩⟩)]; cases neg <;> rfl
  · cases e
theorem ok_is {neg : Bool} : OkOp C (two (rIsNo neg)) (isD neg) := ok_two (fun T τ H Hs x y a b sv Q R v1 v2 e hq => by
  obtain ⟨rfl, rfl⟩ := isD_ok (C := C) e v1 v2
  exact ⟨rfl, hq _ _ _ (push_bl R)⟩) fun ds sv e => by unfold isD at e; split at e <;> first | exact ⟨_, _, rfl⟩ | cases e
def leS (x y : Str) : Bool := !decide (y.cps.toList < x.cps.toList)
def cmpD : CmpOp → Option (List D → Option SV)
  | .Eq => some (eqD false)
  | .NotEq => some (eqD true)
  | .Lt => some (strD ltS fun i j => decide (i < j))
  | .LtE => some (strD leS fun i j => decide (i ≤ j))
  | .Gt => some (strD (fun x y => ltS y x) fun i j => decide (j < i))
  | .GtE => some (strD (fun x y => leS y x) fun i j => decide (j ≤ i))
  | .In => some (inD false)
  | .NotIn => some (inD true)
  | .Is => some (isD false)
  | .IsNot => some (isD true)
theorem cmpD_ok {op : CmpOp} {f : List D → Option SV} (h : cmpD op = some f) : ∃ r : PySem.W.Frag → R2, (∀ X : Cx, X.A.units + 65 < cLine → OpR X (compareOp op) (r X.K)) ∧ ∀ C : Ct, OkOp C (two (r C.K)) f := by
  unfold cmpD at h
  split at h <;> cases h
  · exact ⟨rEqD, fun X hu => op_eqD (by omega), fun C => ok_eq⟩
  · exact ⟨rNeD, fun X hu => op_neD (by omega), fun C => ok_ne⟩
  · exact ⟨fun _ => _, fun X hu => OpR.or op_lt op_lt_str, fun C => ok_str⟩
  · exact ⟨fun _ => _, fun X hu => OpR.or op_le op_le_str, fun C => ok_str⟩
  · exact ⟨fun _ => _, fun X hu => OpR.or op_gt op_gt_str, fun C => ok_str⟩
  · exact ⟨fun _ => _, fun X hu => OpR.or op_ge op_ge_str, fun C => ok_str⟩
  · exact ⟨rInA, fun X hu => OpR.or op_in_str (OpR.or (op_inD hu) (op_inT hu)), fun C => ok_in⟩
  · exact ⟨rNotInA, fun X hu => OpR.or op_notin_str (OpR.or (op_notInD hu) (op_notInT hu)), fun C => ok_notIn⟩
  · exact ⟨fun _ => rIsNo false, fun X hu => op_isN, fun C => ok_is⟩
  · exact ⟨fun _ => rIsNo true, fun X hu => op_notN, fun C => ok_is⟩
end
end Ev
end

section
set_option Elab.async false
set_option linter.all false
set_option maxRecDepth 100000
set_option maxHeartbeats 4000000
/-! Ev, part 19: subscripts, slices. -/
namespace Ev
open PySem PySem.Spec PyProof.Rows L2
def ixD : List D → Option SV
  | [.lst xs, .int i] => (atI xs i).map .sh
  | [.tup xs, .int i] => (atI xs i).map .sh
  | [.str z, .int i] => if z.length ≤ sizeLine then (atI z.cps.toList i).map fun c => .sh (.str ⟨#[c]⟩) else none
  | _ => none
section
variable {X : Cx} {C : Ct}
theorem DenL.atI {K w H} {ds : List D} {vs : List V} {i : Int} {d : D} (q : DenL K w H ds vs) (e : atI ds i = some d) : ∃ v, L2.atI vs i = some v ∧ Den K w H d v := by
  unfold L2.atI at e ⊢
  rw [← q.len]
  cases h : ixN ds.length i with
  | none => rw [h] at e; cases e
  | some j =>
    rw [h] at e
    exact q.get (show ds[j]? = some d from e)
theorem ok_ix : OkOp C (two (rIx C.K)) ixD := ok_two (fun T τ H Hs x y a b sv Q R v1 v2 e hq => by
  unfold ixD at e
  split at e
  · rename_i xs i h
    cases h
    cases v2.isInt
    obtain ⟨p, us, rfl, s1, d1⟩ := v1
    cases ea : atI xs i with
    | none => rw [ea] at e; cases e
    | some d =>
      rw [ea] at e
      cases e
      obtain ⟨v, ev, q⟩ := d1.atI ea
      exact .inl ⟨p, us, i, v, rfl, rfl, s1, ev, hq _ _ _ (Rep.push_sh R q)⟩
  · rename_i xs i h
    cases h
    cases v2.isInt
    obtain ⟨p, us, rfl, s1, d1, t1⟩ := v1
    cases ea : atI xs i with
    | none => rw [ea] at e; cases e
    | some d =>
      rw [ea] at e
      cases e
      obtain ⟨v, ev, q⟩ := d1.atI ea
      exact .inr (.inl ⟨p, us, i, v, rfl, rfl, s1, ev, hq _ _ _ (Rep.push_sh R q)⟩)
  · rename_i z i h
    cases h
    cases v1.isStr
    cases v2.isInt
    split at e
    · rename_i hz
      cases ea : atI z.cps.toList i with
      | none => rw [ea] at e; cases e
      | some c =>
        rw [ea] at e
        cases e
        exact .inr (.inr ⟨z, i, c, rfl, rfl, hz, ea, hq _ _ _ (Rep.push_sh R (Den.str.mpr rfl))⟩)
    · cases e
  · cases e) fun ds sv e => by unfold ixD at e; split at e <;> first | exact ⟨_, _, rfl⟩ | cases e
/-! ### slices -/
def cutD {α : Type} (xs : List α) (lo hi : Option Int) : List α := (xs.drop (HT.sIx xs.length 0 lo)).take (HT.sIx xs.length xs.length hi - HT.sIx xs.length 0 lo)
def slD : D → Option Int → Option Int → Option SV
  | .lst xs, lo, hi => some (.ow (.l (cutD xs lo hi)))
  | .tup xs, lo, hi => some (.sh (.tup (cutD xs lo hi)))
  | .str z, lo, hi => if z.length ≤ sizeLine then some (.sh (.str (cutS z lo hi))) else none
  | _, _, _ => none
def partM : Option (M SV) → M (Option Int)
  | none => fun S => .ok none S
  | some f => fun S => (f S).bind fun r S' => match r with
    | .sh (.int i) => .ok (some i) S'
    | _ => .stuck
def slM (fe : AF) (lo hi : Option (M SV)) : M SV := fun S => (runAs [fe] S).bind fun as S1 => (partM lo S1).bind fun l S2 => (partM hi S2).bind fun h S3 => match datL S3 as with
  | some [d] => (match slD d l h with
    | some r => .ok r S3
    | none => .stuck)
  | _ => .stuck
def rSl (K : PySem.W.Frag) : V → Option Int → Option Int → Hp → VK → Prop := fun x lo hi H Q => rSlL K x lo hi H Q ∨ (rSlN K x lo hi H Q ∨ rSlS x lo hi H Q)
theorem sl_all : SlR X (rSl X.K) := SlR.or sl_list (SlR.or sl_tupN sl_str)
theorem DenL.cut {K w H} {ds : List D} {vs : List V} (q : DenL K w H ds vs) (lo hi : Option Int) : DenL K w H (cutD ds lo hi) (cutV vs lo hi) := by
  unfold cutD cutV
  rw [← q.len]
  exact DenL.take _ (DenL.drop _ q)
theorem cut_whole {α : Type} {xs : List α} {lo hi : Option Int} (h : HT.sIx xs.length 0 lo = 0 ∧ HT.sIx xs.length xs.length hi = xs.length) : cutD xs lo hi = xs := by
  unfold cutD
  rw [h.1, h.2]
  simp
theorem slD_ok {T : List SV} {τ : List (Option V)} {H Hs : Hp} {x : V} {d : D} {lo hi : Option Int} {sv : SV} {Q : VK} (R : C.Rep T τ H Hs) (v : View C.K C.w H Hs d x) (e : slD d lo hi = some sv) (hq : ∀ v H' Hs', C.Rep (sv :: T) (some v :: τ) H' Hs' → Q v H') : rSl C.K x lo hi H Q := by
  unfold slD at e
  split at e
  · rename_i xs lo hi
    cases e
    obtain ⟨p, us, rfl, s1, d1⟩ := v
    exact .inl ⟨p, us, rfl, s1, fun l hl => hq _ _ _ (Rep.new_lst R hl (d1.cut _ _))⟩
  · rename_i xs lo hi
    cases e
    obtain ⟨p, us, rfl, s1, d1, t1⟩ := v
    refine .inr (.inl ⟨p, us, rfl, s1, fun hw => ?_, fun _ l ob ho hl => hq _ _ _ (Rep.new_tup R ho hl (d1.cut _ _))⟩)
    rw [← d1.len] at hw
    rw [cut_whole hw] at hq
    refine hq _ _ _ (Rep.push_sh R ?_)
    rw [Den]
    exact ⟨p, us, rfl, t1, d1⟩
  · rename_i z lo hi
    split at e
    · rename_i hz
      cases e
      cases v.isStr
      exact .inr (.inr ⟨_, rfl, by assumption, hq _ _ _ (Rep.push_sh R (Den.str.mpr rfl))⟩)
    · cases e
  · cases e
def tPt (C : Ct) : Option (M SV) → TO
  | none => tNoPart
  | some f => tPart (tD C f)
theorem tPt_bind {γ : Type} {C : Ct} {T U S : List SV} {τ υ : List (Option V)} {σ : L2.St} {H Hs : Hp} {o : Option (M SV)} {k : Option Int → M γ} {Q : γ → List SV → Prop} {Q1 : Option Int → Hp → Prop} (hu : U.length = υ.length) (hl : T.length = τ.length) (R : C.Rep (U ++ (T ++ S)) (υ ++ (τ ++ σ)) H Hs)
    (g : C.Goes T τ σ ((partM o S).bind k) Q) (h : ∀ i S1 H1 Hs1, C.Rep (U ++ (T ++ S1)) (υ ++ (τ ++ σ)) H1 Hs1 → C.Goes T τ σ (k i S1) Q → Q1 i H1) : tPt C o σ H Q1 := by
  cases o with
  | none => exact h none S H Hs R g
  | some f =>
    have e : ((partM (some f) S).bind k) = ((f S).bind fun r S' => (match r with | .sh (.int i) => k (some i) S' | _ => .stuck)) := by
      show (((f S).bind fun r S' => (match r with | .sh (.int i) => Res.ok (some i) S' | _ => .stuck)).bind k) = _
      cases f S with
      | ok a S1 =>
        show ((match a with | .sh (.int i) => Res.ok (some i) S1 | _ => .stuck).bind k) = (match a with | .sh (.int i) => k (some i) S1 | _ => .stuck)
        split <;> rfl
      | exc c d S1 => rfl
      | stuck => rfl
    rw [e] at g
    refine tD_bind hu hl R g fun r S1 v H1 Hs1 R1 g1 => ?_
    split at g1
    · rename_i i
      obtain ⟨v', ev, q⟩ := Rep.sh (i := 0) R1 rfl
      have : v = v' := by simpa using ev
      subst this
      exact ⟨i, Den.int.mp q, h (some i) S1 H1 Hs1 (Rep.tail R1) g1⟩
    · exact g1.elim
theorem tSl_imp {C : Ct} {fe : AF} {lo hi : Option (M SV)} {σ : L2.St} {H : Hp} {Q : VK} (h : tD C (slM fe lo hi) σ H Q) : tSl (rSl C.K) (tAF C fe) (tPt C lo) (tPt C hi) σ H Q := by
  obtain ⟨S, T, τ, Hs, hl, R, g⟩ := h
  show tAs C [fe] σ H fun vs H1 => match vs with
    | [x] => tPt C lo σ H1 fun l H2 => tPt C hi σ H2 fun u H3 => rSl C.K x l u H3 Q
    | _ => True
  refine tAs_run hl (U := []) (υ := []) .nil R g fun as vs U' υ' S' H' Hs' p R' g' => ?_
  rw [List.append_nil, List.append_nil] at p
  split
  · rename_i x
    refine tPt_bind p.len hl R' g' fun l S2 H2 Hs2 R2 g2 => ?_
    refine tPt_bind p.len hl R2 g2 fun u S3 H3 Hs3 R3 g3 => ?_
    split at g3
    · rename_i d ed
      split at g3
      · rename_i r er
        have vw := p.views (U0 := []) (υ0 := []) hl rfl R3 (datL_reverse ed)
        have vw1 : ViewL C.K C.w H3 Hs3 [d] [x] := by simpa using vw.reverse
        obtain ⟨_, _, e1, v1, _⟩ := vw1.inv
        cases e1
        exact slD_ok (Rep.dropU p.len R3) v1 er g3
      · exact g3.elim
    · exact g3.elim
  · trivial
end
section
variable {X : Cx} {β : Nat → Addr} {W : WX}
/-- a part of a slice -/
def PPart (X : Cx) (β : Nat → Addr) (W : WX) (e : Option Expr) (f : Option (M SV)) : Prop := PO X e (tPt (cx X β W) f)
theorem ppart_none : PPart X β W none none := po_none
theorem ppart_some {e : Expr} {f : M SV} (h : PD X β W e f) : PPart X β W (some e) (some f) := po_some h
theorem pd_slice {e : Expr} {lo hi : Option Expr} {fe : AF} {fl fh : Option (M SV)} {p2 pos : Pos} (he : PF X β W e fe) (hl : PPart X β W lo fl) (hh : PPart X β W hi fh) : PD X β W (.Subscript e (.Slice lo hi none p2) pos) (slM fe fl fh) :=
  PE.imp (pe_slice sl_all he hl hh) fun _ _ _ h => tSl_imp h
end
end Ev
end

section
set_option Elab.async false
set_option linter.all false
set_option maxRecDepth 100000
set_option maxHeartbeats 4000000
/-! Ev, part 19b: sorted, of data; tuples with an empty one among them too. -/
namespace Ev
open PySem PySem.Spec PySem.W PyProof.Rows PySem.SeqAt
/-- the call of tuple's own __lt__ -/
theorem call_tuple_lt {prog : Program} {w : World} {A : Around} {s : Shared} {E : Value → Shared → Prop} {Q : Value → Shared → Prop} {l b : Addr} {items items2 : Array Value} {e r : Nat → Bool} (hl : s.heap.IsTuple l items) (hb : s.heap.IsTuple b items2)
    (he : ∀ j (h1 : j < items.size) (h2 : j < items2.size), SeqAt.EqAt A.in1 s items[j] items2[j] (e j)) (hr : ∀ j (h1 : j < items.size) (h2 : j < items2.size), e j = false → SeqAt.RcLt A.in1 s items[j] items2[j] (r j))
    (h : Q (.bool (SeqAt.firstLt e r (decide (items.size < items2.size)) (List.range (min items.size items2.size)))) s) : wpAny (model prog w) A (call (.builtin "tuple.__lt__") [.ref l, .ref b]) Q E s := by
  obtain ⟨⟨cls, dd, data, sl⟩, ho, hc, n, hd⟩ := id hl
  obtain ⟨⟨cls2, dd2, data2, sl2⟩, ho2, hc2, n2, hd2⟩ := id hb
  simp only at hc hd hc2 hd2
  subst hc hd hc2 hd2
  exact call_meets F.slot_tuple_lt ⟨_, ho, rfl⟩ F.entry_tuple_lt (F.args_tuple_lt_2 _ _) (SeqAt.tuple_ltAt l b items items2 n n2 dd dd2 sl sl2 e r) ⟨ho, ho2, he, hr, h⟩
theorem oneLt_tup {prog : Program} {w : World} {A : Around} {s : Shared} {E : Value → Shared → Prop} {xs ys : List PyData} {a b : Value} {as bs : List Addr} {Q : Bool → Shared → Prop} (ra : Reads s.heap a (.tuple xs) as) (rb : Reads s.heap b (.tuple ys) bs) (h : alike (.tuple xs) (.tuple ys) = true)
    (hu : A.units + min (PyData.tuple xs).depth (PyData.tuple ys).depth < cLine) (hq : Q (dataLt (.tuple xs) (.tuple ys)) s) : wpAny (model prog w) A (oneLt' true a b) Q E s := by
  have hal : alikeAll xs ys = true := by simpa [alike] using h
  cases ra with
  | @tuple l o vs n _ as₁ h1 h2 h3 h4 =>
    cases rb with
    | @tuple l' o' vs' n' _ bs₁ k1 k2 k3 k4 =>
      have n1 : vs.size = xs.length := by simpa using SeqAt.ReadsAll.length _ _ _ h4
      have n2 : vs'.size = ys.length := by simpa using SeqAt.ReadsAll.length _ _ _ k4
      rw [dataLt_tuple, ← firstLt_toks xs ys hal, ← n1, ← n2] at hq
      rw [oneLt'_eq]
      simp only [if_true]
      refine wpAny_bind (wpAny_cRoomFor (SeqAt.room_here hu) ?_)
      refine wpAny_bind (wpAny_callSpecialIfBound?_slot (T := "tuple") ⟨_, h1, h2⟩ F.slot_tuple_lt (call_tuple_lt (e := pairEq xs ys) (r := fun j => dataLt (xs.getD j .none) (ys.getD j .none)) ⟨_, h1, h2, _, h3⟩ ⟨_, k1, k2, _, k3⟩ (fun j j1 j2 => ?_) (fun j j1 j2 hj => ?_) ?_))
      · have := eqAt_alikeAll xs ys A.in1 s vs.toList vs'.toList _ _ h4 k4 hal (SeqAt.room_in hu) j (by simpa using j1) (by simpa using j2)
        simpa using this
      · have := rcLt_alikeAll xs ys A.in1 s vs.toList vs'.toList _ _ h4 k4 hal (SeqAt.room_in hu) j (by simpa using j1) (by simpa using j2) hj
        simpa using this
      · exact wpAny_truthy_bool hq
theorem tup_firsts {M : Model} {A : Around} {E : Value → Shared → Prop} {s : Shared} : ∀ (vs : List Value) (ds : List PyData) {Q : List (Option Value) → Shared → Prop}, EachIs (fun v d => ∃ as, Reads s.heap v d as) vs ds → (∀ d, d ∈ ds → ∃ xs, d = .tuple xs) →
    (∀ fs : List (Option Value), fs.length = vs.length → (∀ (i : Nat) (f : Option Value), fs[i]? = some f → ∃ xs, ds[i]? = some (.tuple xs) ∧ f.isSome = !xs.isEmpty) → Q fs s) → wpAny M A (vs.mapM firstOfTuple') Q E s
  | [], ds, Q, e, ht, h => by
    cases e
    rw [List.mapM_nil]
    exact wpAny_pure (h [] rfl fun i f z => by simp at z)
  | v :: vs, _, Q, .cons (b := d) (bs := ds) ⟨as, r⟩ t, ht, h => by
    obtain ⟨xs, rfl⟩ := ht d (List.mem_cons_self ..)
    rw [List.mapM_cons]
    refine wpAny_bind ?_
    rw [kas_first_eq]
    cases r with
    | @tuple a o its n _ _ ho hc hd hr =>
      have hlen : its.size = xs.length := by simpa using ReadsAll.length _ _ _ hr
      have hT : Looks M s.heap (typeOf (.ref a)) (.type "tuple") := by
        show Looks M s.heap (typeOf (Value.ref _)) (Value.type "tuple")
        exact hc ▸ (Looks.ld ho).andThen .now
      refine wpAny_bind (hT.here ?_)
      rw [if_neg (by decide)]
      refine wpAny_bind (listItems_at ho hd (wpAny_pure ?_))
      refine (wpAny_bind (tup_firsts vs ds t (fun d' hd' => ht d' (List.mem_cons_of_mem _ hd')) fun fs h1 h2 => wpAny_pure ?_))
      refine h (its[0]? :: fs) (by simp [h1]) fun i f hf => ?_
      cases i with
      | zero =>
        have : its[0]? = f := by simpa using hf
        subst this
        refine ⟨xs, rfl, ?_⟩
        cases xs with
        | nil =>
          have : its.size = 0 := hlen
          simp [Array.getElem?_eq_none (by omega : its.size ≤ 0)]
        | cons x r =>
          have : 0 < its.size := by rw [hlen]; simp
          simp [Array.getElem?_eq_getElem this]
      | succ i =>
        obtain ⟨ys, e1, e2⟩ := h2 i f (by simpa using hf)
        exact ⟨ys, by simpa using e1, e2⟩
/-- tuples, an empty one among them -/
theorem sortsAt_tups {prog : Program} {w : World} {A : Around} {s : Shared} {vs : List Value} {ds : List PyData} (e : EachIs (fun v d => ∃ as, Reads s.heap v d as) vs ds) (hal : AllAlike ds) (ht : ∀ d, d ∈ ds → ∃ xs, d = .tuple xs) (h0 : PyData.tuple [] ∈ ds) (hu : ∀ d, d ∈ ds → A.units + d.depth < cLine) : SortsAt prog w A s (dataKind s.heap ds) vs := by
  have room : ∀ {d d' : PyData}, d ∈ ds → A.units + min d.depth d'.depth < cLine := fun {d d'} hd => Nat.lt_of_le_of_lt (Nat.add_le_add_left (Nat.min_le_left _ _) _) (hu d hd)
  have hlen := e.length
  refine ⟨fun v hv => ?_, ?_⟩
  · obtain ⟨d, hd, as, r⟩ := e.left v hv
    exact ⟨_, dataKind_some hal hd r⟩
  · cases ds with
    | nil => cases h0
    | cons d0 dr =>
      obtain ⟨x0, rfl⟩ := ht d0 (List.mem_cons_self ..)
      have notall : ∀ fs : List (Option Value), fs.length = vs.length → (∀ (i : Nat) (f : Option Value), fs[i]? = some f → ∃ xs, (PyData.tuple x0 :: dr)[i]? = some (.tuple xs) ∧ f.isSome = !xs.isEmpty) → ¬ (fs.toArray.all (·.isSome)) = true := fun fs l1 hf hc => by
        obtain ⟨i, hi⟩ := List.getElem?_of_mem h0
        have hi' : i < fs.length := by
          have := (List.getElem?_eq_some_iff.mp hi).1
          omega
        obtain ⟨xs, e1, e2⟩ := hf i _ (List.getElem?_eq_getElem hi')
        rw [hi] at e1
        cases e1
        rw [List.all_toArray, List.all_eq_true] at hc
        rw [hc _ (List.getElem_mem hi')] at e2
        cases e2
      cases x0 with
      | nil =>
        refine ⟨oneType', ?_, fun h2 E Q hq => ?_⟩
        · intro E x y a b Q ha hb hq
          obtain ⟨d, as, hd, ra, rfl⟩ := dataKind_inv ha
          obtain ⟨d', as', hd', rb, rfl⟩ := dataKind_inv hb
          obtain ⟨xs, rfl⟩ := ht d hd
          obtain ⟨ys, rfl⟩ := ht d' hd'
          rw [keyLt'_oneType]
          exact oneLt_tup ra rb (hal _ hd _ hd') (room hd) hq
        · rw [keyKind'_eq, List.mapM_toArray, map_eq_pure_bind]
          refine wpAny_bind (wpAny_bind (tup_firsts vs _ e ht fun fs l1 hf => wpAny_pure ?_))
          rw [if_neg (notall fs l1 hf)]
          have h1 : ¬ ((fs.toArray[0]?.bind id).isSome) = true := fun hc => by
            cases hf0 : fs[0]? with
            | none => simp [hf0] at hc
            | some f =>
              obtain ⟨xs, e1, e2⟩ := hf 0 f hf0
              cases (Option.some.inj e1)
              have : f.isSome = true := by simpa [hf0] using hc
              rw [this] at e2
              cases e2
          rw [if_neg h1]
          rw [oneTypeOnly'_eq, List.mapM_toArray, map_eq_pure_bind]
          refine wpAny_bind (wpAny_bind (wpAny_bind (kas_mapM (r := Value.type "tuple") _ (fun v hv Q' hq' => ?_) (wpAny_pure ?_))))
          · obtain ⟨d, hd, as, r⟩ := e.left v hv
            obtain ⟨xs, rfl⟩ := ht d hd
            exact (looks_reads (M := model prog w) r).here hq'
          · have hall : ((List.map (fun _ => Value.type "tuple") vs).toArray.all fun x => x == Value.type "tuple") = true := by
              simp only [List.all_toArray, List.all_map, List.all_eq_true]
              intro _ _
              show (Value.type "tuple" == Value.type "tuple") = true
              decide
            have hv : ∃ v r, vs = v :: r := by
              cases vs with
              | nil => simp at h2
              | cons v r => exact ⟨v, r, rfl⟩
            obtain ⟨v, r, rfl⟩ := hv
            have h00 : (List.map (fun _ => Value.type "tuple") (v :: r)).toArray[0]? = some (Value.type "tuple") := by simp
            rw [h00]
            simp only [hall, if_true]
            exact wpAny_pure (wpAny_pure hq)
      | cons x xr =>
        refine ⟨general', ?_, fun h2 E Q hq => ?_⟩
        · intro E x y a b Q ha hb hq
          obtain ⟨d, as, hd, ra, rfl⟩ := dataKind_inv ha
          obtain ⟨d', as', hd', rb, rfl⟩ := dataKind_inv hb
          obtain ⟨xs, rfl⟩ := ht d hd
          show wpAny _ _ (oneLt' false _ _) _ _ _
          exact oneLt_alike (fun z => by cases z) ra rb (hal _ hd _ hd') (by simp) (room hd) hq
        · rw [keyKind'_eq, List.mapM_toArray, map_eq_pure_bind]
          refine wpAny_bind (wpAny_bind (tup_firsts vs _ e ht fun fs l1 hf => wpAny_pure ?_))
          rw [if_neg (notall fs l1 hf)]
          have h1 : ((fs.toArray[0]?.bind id).isSome) = true := by
            have hl : 0 < fs.length := by rw [l1, hlen]; simp
            obtain ⟨xs, e1, e2⟩ := hf 0 _ (List.getElem?_eq_getElem hl)
            cases (Option.some.inj e1)
            simp only [List.isEmpty_cons, Bool.not_false] at e2
            simp [List.getElem?_eq_getElem hl, e2]
          rw [if_pos h1]
          exact wpAny_pure hq
/-- alike data; all tuples, or none a tuple or None -/
def sortB (ps : List PyData) : Bool := (ps.all fun d => ps.all fun e => alike d e) && (ps.all fun d => decide (d.depth ≤ 64)) && ((ps.all fun d => match d with | .tuple _ => true | _ => false) || ps.all fun d => match d with | .none => false | .tuple _ => false | _ => true)
theorem sortsAt_any {prog : Program} {w : World} {A : Around} {s : Shared} {vs : List Value} {ds : List PyData} (e : EachIs (fun v d => ∃ as, Reads s.heap v d as) vs ds) (hb : sortB ds = true) (hu : A.units + 64 < cLine) : SortsAt prog w A s (dataKind s.heap ds) vs := by
  unfold sortB at hb
  simp only [Bool.and_eq_true, Bool.or_eq_true, List.all_eq_true, decide_eq_true_eq] at hb
  obtain ⟨⟨h1, h2⟩, h3⟩ := hb
  have hal : AllAlike ds := fun d hd d' hd' => h1 d hd d' hd'
  have hu' : ∀ d, d ∈ ds → A.units + d.depth < cLine := fun d hd => by have := h2 d hd; omega
  rcases h3 with h3 | h3
  · have ht : ∀ d, d ∈ ds → ∃ xs, d = .tuple xs := fun d hd => by
      have := h3 d hd
      cases d <;> first | exact ⟨_, rfl⟩ | cases this
    by_cases h0 : PyData.tuple [] ∈ ds
    · exact sortsAt_tups e hal ht h0 hu'
    · refine SortsAt.data e hal (.inl fun d hd => ?_) hu'
      obtain ⟨xs, rfl⟩ := ht d hd
      cases xs with
      | nil => exact absurd hd h0
      | cons x r => exact ⟨x, r, rfl⟩
  · refine SortsAt.data e hal (.inr fun d hd => ?_) hu'
    have := h3 d hd
    cases d <;> first | (cases this; done) | exact ⟨by simp, fun xs => by simp⟩
/-! ### the rule -/
section
open L2
def srtK (b : V × D) : PyData := (b.2.py).getD .none
def rSrt (K : PySem.W.Frag) : List V → Hp → VK → Prop := fun vs H Q => ∃ (a : Addr) (xs : List V) (ds : List D) (ps : List PyData), vs = [V.ref a] ∧ SqL K H a xs ∧ D.pys ds = some ps ∧ DpAll K H xs ps ∧ sortB ps = true ∧
  ∀ p, H p = none → Q (.ref p) (upd H p (.lst (((xs.zip ds).mergeSort (dataLe false srtK)).map (·.1))))
theorem srt_each {X : Cx} {pins : List (Addr × Obj)} {σ : L2.St} {H : Hp} {s : Shared} (I : Inv X pins σ H s) : ∀ {xs : List V} {its : List Value} {ds : List D} {ps : List PyData}, Vals xs its → D.pys ds = some ps → DpAll X.K H xs ps →
    EachIs (fun v b => RelV b.1 v) its (xs.zip ds) ∧ EachIs (fun v b => ∃ as, Reads s.heap v (srtK b) as) its (xs.zip ds) ∧ (xs.zip ds).map srtK = ps
  | [], _, ds, ps, .nil, e, h => by
    cases h
    cases ds with
    | nil => exact ⟨.nil, .nil, rfl⟩
    | cons d ds =>
      exfalso
      unfold D.pys at e
      split at e <;> cases e
  | x :: xs, _, ds, ps, .cons r t, e, h => by
    cases h with
    | cons h1 h2 =>
      cases ds with
      | nil => cases e
      | cons d ds =>
        unfold D.pys at e
        cases e1 : d.py with
        | none => rw [e1] at e; cases e
        | some p =>
          cases e2 : D.pys ds with
          | none => rw [e1, e2] at e; cases e
          | some ps' =>
            rw [e1, e2] at e
            cases e
            obtain ⟨i1, i2, i3⟩ := srt_each I t e2 h2
            obtain ⟨as, rd⟩ := Dp.reads I _ _ _ h1 r
            have hk2 : srtK (x, d) = (d.py).getD .none := rfl
            rw [e1] at hk2
            refine ⟨.cons r i1, .cons ⟨as, by rw [hk2]; exact rd⟩ i2, ?_⟩
            show srtK (x, d) :: (xs.zip ds).map srtK = _
            rw [hk2, i3]; rfl
theorem vals_of_each : ∀ {out : List Value} {bs : List (V × D)}, EachIs (fun v b => RelV b.1 v) out bs → Vals (bs.map (·.1)) out
  | _, _, .nil => .nil
  | _, _, .cons h t => .cons h (vals_of_each t)
theorem cr_srt {X : Cx} (hu : X.A.units + 100 < cLine) : CallR X (.builtin "sorted") (rSrt X.K) := by
  intro pins s σ H vs us Q I r h
  obtain ⟨a, xs, ds, ps, rfl, hs, hp, hd, hb, q⟩ := h
  obtain ⟨its, rv, hl, hz⟩ := I.list hs
  obtain ⟨u, rfl, ru⟩ := vals1 r
  obtain rfl : u = Value.ref a := ru
  obtain ⟨e1, e2, e3⟩ := srt_each I rv hp hd
  have hlen := rv.length
  have er' : EachIs (fun v b => ∃ as, Reads (sortingHeap (copyHeap s.heap its) (s.heap.objs.size + 1) its) v (srtK b) as) its (xs.zip ds) := e2.mono fun _ _ ⟨as, r⟩ => ⟨as, PyProof.Rows.Reads.keeps (fun _ _ => sorting_copy_old) r⟩
  have hal : AllAlike ((xs.zip ds).map srtK) := by
    rw [e3]
    unfold sortB at hb
    simp only [Bool.and_eq_true, List.all_eq_true] at hb
    exact fun d hd d' hd' => hb.1.1 d hd d' hd'
  refine sorted_vals hl.isList (sortsAt_any (s := { s with heap := sortingHeap (copyHeap s.heap its) (s.heap.objs.size + 1) its }) (each_map (R := fun v d => ∃ as, Reads (sortingHeap (copyHeap s.heap its) (s.heap.objs.size + 1) its) v d as) srtK er') (by rw [e3]; exact hb) (by show X.A.units + 2 + 64 < cLine; omega)) (by omega) ?_
  have out := sortVals_data (R := fun v b => RelV b.1 v) false e1 er' hal
  have ov := vals_of_each out
  obtain ⟨c, hc⟩ := sortedAll_at s.heap its (sortVals (dataKind (sortingHeap (copyHeap s.heap its) (s.heap.objs.size + 1) its) ((xs.zip ds).map srtK)) false its its).toArray
  have hn : (((xs.zip ds).mergeSort (dataLe false srtK)).map (·.1)).length ≤ sizeLine := by
    rw [List.length_map, List.length_mergeSort, List.length_zip]
    omega
  refine ⟨.ref (s.heap.objs.size + 1), _, I.laid (t' := s.toks) (o := .lst _) (fun b u e => sortedAll_old e) (Nat.le_succ _) ⟨hn, _, c, ov, hc⟩, rfl, q _ (I.hok.fresh (Nat.le_succ _))⟩
/-! ### sorted(a tuple) -/
section
open PySem.W PyProof.Rows
variable {prog : Program} {w : World} {A : Around} {E : Value → Shared → Prop} {s : Shared} {κ : PyProof.Rows.KeyKind}
theorem coll_tup {l : Addr} {o : Obj} {n : Nat} {us : List Value} {Q : List Value → Shared → Prop} (ho : s.heap.get? l = some o) (hc : o.cls = .type "tuple") (hd : o.data = .seq us.toArray n)
    (h : Q us { s with heap := (s.heap.push (seqObj "list" #[] 0)).update s.heap.objs.size (Obj.mapSeq (· ++ us.toArray)) }) (hz : us.length ≤ sizeLine) : wpAny (model prog w) A (collect (.ref l)) Q E s := by
  have k := Heap.get?_push_of_some (seqObj "list" #[] 0) ho
  have kS : (s.heap.push (seqObj "list" #[] 0)).get? s.heap.objs.size = some (seqObj "list" #[] 0) := Heap.get?_push_size _ rfl
  unfold collect
  refine wpAny_bind (wpAny_runValue (codeAny_builtin entry_proto_collect' ?_))
  show wpAny _ _ (do again (.builtin "list.__iadd__" ⟨[← newList [], .ref l], []⟩)) _ _ s
  refine wpAny_bind (wpAny_newList (wpAny_pure ⟨Code.quiet_builtin _ (by decide +kernel), codeAny_builtin entry_list_iadd' ?_⟩))
  show wpAny _ _ (Builtin.List.listExtendWith (.ref s.heap.objs.size) (.ref l) (.ref s.heap.objs.size)) _ _ { s with heap := s.heap.push (seqObj "list" #[] 0) }
  unfold Builtin.List.listExtendWith
  refine wpAny_bind (wpAny_typeOf (T := "tuple") ⟨o, k, hc⟩ ?_)
  have ht : (Value.type "tuple" == Value.type "tuple") = true := by rfl
  rw [if_pos (by rw [ht]; simp)]
  refine wpAny_bind (listItems_at k hd ?_)
  refine wpAny_bind (listItems_at (xs := #[]) (n := 0) kS rfl ?_)
  rw [if_neg (by simp)]
  refine wpAny_bind (listUpdate_at (xs := #[]) (n := 0) kS rfl ?_ (Nat.zero_le _) (by show (#[] ++ us.toArray).size ≤ sizeLine + 1; simp only [Array.size_append, List.size_toArray, List.length_nil]; omega))
  refine wpAny_pure ?_
  refine wpAny_bind (wpAny_load (get?_update_seq kS _) ?_)
  show wpAny _ _ (pure ((#[] : Array Value) ++ us.toArray).toList) Q E _
  have e : ((#[] : Array Value) ++ us.toArray).toList = us := by simp
  rw [e]
  exact wpAny_pure h
theorem sorted_tup {l : Addr} {o : Obj} {n : Nat} {us : List Value} {Q : Value → Shared → Prop} (ho : s.heap.get? l = some o) (hc : o.cls = .type "tuple") (hd : o.data = .seq us.toArray n) (S : SortsAt prog w A.in1.in1 { s with heap := sortingHeap (copyHeap s.heap us) (s.heap.objs.size + 1) us } κ us) (hz : us.length ≤ sizeLine)
    (h : Q (.ref (s.heap.objs.size + 1)) { s with heap := sortedAll s.heap us (sortVals κ false us us).toArray }) : wpAny (model prog w) A (call (.builtin "sorted") [.ref l]) Q E s := by
  refine call_function_entry_kw kind_sorted plain_sorted entry_sorted (args_sorted1 _) ?_
  unfold Builtin.«sorted»
  refine wpAny_bind (m := checkCount "sorted" 1 1 _) (wpAny_pure ?_)
  refine wpAny_bind (coll_tup ho hc hd ?_ hz)
  refine wpAny_bind (wpAny_newList ?_ hz)
  have e : ((s.heap.push (seqObj "list" #[] 0)).update s.heap.objs.size (Obj.mapSeq (· ++ us.toArray))).objs.size = s.heap.objs.size + 1 := by
    rw [Heap.size_update, size_push']
  show wpAny _ _ _ _ _ { s with heap := copyHeap s.heap us }
  rw [e]
  refine wpAny_bind (wpAny_holding (wpAny_call_entry_kw slot_list_sort ⟨_, copyHeap_at s.heap us, rfl⟩ entry_list_sort ?_ (args_list_sort _)))
  show wpAny (model prog w) A.in1.in1 (Builtin.«list.sort» ⟨[.ref (s.heap.objs.size + 1)], []⟩) _ _ _
  refine wpAny_mono (list_sort_vals (s := { s with heap := copyHeap s.heap us }) (copyHeap_at s.heap us) S hz (P := fun f s' => f = .done (.ret .none) ∧ Q (.ref (s.heap.objs.size + 1)) s') ⟨rfl, h⟩) (fun f s' hf => ?_) fun _ _ e => e
  obtain ⟨rfl, hq⟩ := hf
  exact ⟨_, rfl, wpAny_pure ⟨_, rfl, hq⟩⟩
end
def rSrtT (K : PySem.W.Frag) : List V → Hp → VK → Prop := fun vs H Q => ∃ (a : Addr) (xs : List V) (ds : List D) (ps : List PyData), vs = [V.ref a] ∧ SqT K H a xs ∧ D.pys ds = some ps ∧ DpAll K H xs ps ∧ sortB ps = true ∧
  ∀ p, H p = none → Q (.ref p) (upd H p (.lst (((xs.zip ds).mergeSort (dataLe false srtK)).map (·.1))))
theorem cr_srtT {X : Cx} (hu : X.A.units + 100 < cLine) : CallR X (.builtin "sorted") (rSrtT X.K) := by
  intro pins s σ H vs us Q I r h
  obtain ⟨a, xs, ds, ps, rfl, hs, hp, hd, hb, q⟩ := h
  obtain ⟨its, rv, ⟨ob, ho, hc, n, hd2⟩, hz⟩ := I.tuple hs
  obtain ⟨u, rfl, ru⟩ := vals1 r
  obtain rfl : u = Value.ref a := ru
  obtain ⟨e1, e2, e3⟩ := srt_each I rv hp hd
  have hlen := rv.length
  have er' : EachIs (fun v b => ∃ as, Reads (sortingHeap (copyHeap s.heap its) (s.heap.objs.size + 1) its) v (srtK b) as) its (xs.zip ds) := e2.mono fun _ _ ⟨as, r⟩ => ⟨as, PyProof.Rows.Reads.keeps (fun _ _ => sorting_copy_old) r⟩
  have hal : AllAlike ((xs.zip ds).map srtK) := by
    rw [e3]
    unfold sortB at hb
    simp only [Bool.and_eq_true, List.all_eq_true] at hb
    exact fun d hd d' hd' => hb.1.1 d hd d' hd'
  refine sorted_tup ho hc hd2 (sortsAt_any (s := { s with heap := sortingHeap (copyHeap s.heap its) (s.heap.objs.size + 1) its }) (each_map (R := fun v d => ∃ as, Reads (sortingHeap (copyHeap s.heap its) (s.heap.objs.size + 1) its) v d as) srtK er') (by rw [e3]; exact hb) (by show X.A.units + 2 + 64 < cLine; omega)) (by omega) ?_
  have out := sortVals_data (R := fun v b => RelV b.1 v) false e1 er' hal
  have ov := vals_of_each out
  obtain ⟨c, hc⟩ := sortedAll_at s.heap its (sortVals (dataKind (sortingHeap (copyHeap s.heap its) (s.heap.objs.size + 1) its) ((xs.zip ds).map srtK)) false its its).toArray
  have hn : (((xs.zip ds).mergeSort (dataLe false srtK)).map (·.1)).length ≤ sizeLine := by
    rw [List.length_map, List.length_mergeSort, List.length_zip]
    omega
  refine ⟨.ref (s.heap.objs.size + 1), _, I.laid (t' := s.toks) (o := .lst _) (fun b u e => sortedAll_old e) (Nat.le_succ _) ⟨hn, _, c, ov, hc⟩, rfl, q _ (I.hok.fresh (Nat.le_succ _))⟩
/-! ### the sort by insertion, which the kernel can run -/
def insB {α : Type} (le : α → α → Bool) (a : α) : List α → List α
  | [] => [a]
  | b :: l => if le a b = true then a :: b :: l else b :: insB le a l
def isrt {α : Type} (le : α → α → Bool) : List α → List α
  | [] => []
  | a :: l => insB le a (isrt le l)
theorem insB_mid {α : Type} {le : α → α → Bool} {a : α} : ∀ {l₁ l₂ : List α}, (∀ b ∈ l₁, le a b = false) → (∀ b ∈ l₂, le a b = true) → insB le a (l₁ ++ l₂) = l₁ ++ a :: l₂
  | [], [], _, _ => rfl
  | [], b :: l₂, _, h => by
    show (if le a b = true then _ else _) = _
    rw [if_pos (h b List.mem_cons_self)]; rfl
  | b :: l₁, l₂, h1, h2 => by
    show (if le a b = true then _ else _) = _
    rw [if_neg (by rw [h1 b List.mem_cons_self]; decide)]
    show b :: insB le a (l₁ ++ l₂) = _
    rw [insB_mid (fun c hc => h1 c (List.mem_cons_of_mem _ hc)) h2]; rfl
theorem isrt_eq {α : Type} {le : α → α → Bool} (tr : ∀ a b c, le a b = true → le b c = true → le a c = true) (to : ∀ a b, (le a b || le b a) = true) : ∀ l : List α, l.mergeSort le = isrt le l
  | [] => by simp [isrt]
  | a :: l => by
    obtain ⟨l₁, l₂, h1, h2, h3⟩ := List.mergeSort_cons tr to a l
    have hp := List.pairwise_mergeSort tr to (a :: l)
    rw [h1] at hp
    rw [h1]
    show _ = insB le a (isrt le l)
    rw [← isrt_eq tr to l, h2]
    refine (insB_mid (fun b hb => by simpa using h3 b hb) fun b hb => ?_).symm
    rw [List.pairwise_append] at hp
    exact (List.pairwise_cons.mp hp.2.1).1 b hb
theorem dle_trans {β : Type} (k : β → PyData) (a b c : β) (h : dataLe false k a b = true) (h' : dataLe false k b c = true) : dataLe false k a c = true := by
  rw [dataLe_eq] at h h' ⊢
  simp only [cond_false, Bool.not_eq_true'] at h h' ⊢
  cases e : dataLt (k c) (k a) with
  | false => rfl
  | true =>
    exfalso
    unfold dataLt at h h' e
    cases e2 : lexLt itemOrd (keyToks (k a)) (keyToks (k b)) with
    | true => rw [lex_trans _ _ _ e e2] at h'; cases h'
    | false =>
      rw [lex_total _ _ e2 h] at e
      rw [e] at h'; cases h'
theorem dle_total {β : Type} (k : β → PyData) (a b : β) : (dataLe false k a b || dataLe false k b a) = true := by
  rw [dataLe_eq]
  simp only [cond_false]
  cases e : dataLt (k b) (k a) with
  | false => rfl
  | true =>
    cases e2 : dataLt (k a) (k b) with
    | false => rfl
    | true =>
      exfalso
      unfold dataLt at e e2
      have := lex_trans _ _ _ e e2
      rw [lex_irrefl] at this; cases this
def leD (a b : D) : Bool := dataLe false (fun d : D => (d.py).getD .none) a b
def srtD : List D → Option SV
  | [.lst xs] => (match D.pys xs with
    | some ps => if sortB ps = true then some (.ow (.l (isrt leD xs))) else none
    | none => none)
  | [.tup xs] => (match D.pys xs with
    | some ps => if sortB ps = true then some (.ow (.l (isrt leD xs))) else none
    | none => none)
  | _ => none
def rSrtA (K : PySem.W.Frag) : List V → Hp → VK → Prop := fun xs H Q => rSrt K xs H Q ∨ rSrtT K xs H Q
theorem denL_pairs {K : PySem.W.Frag} {w : World} {H : Hp} : ∀ {L : List (V × D)}, (∀ p ∈ L, Den K w H p.2 p.1) → DenL K w H (L.map (·.2)) (L.map (·.1))
  | [], _ => DenL.nil
  | p :: L, h => DenL.cons (h p List.mem_cons_self) (denL_pairs fun q hq => h q (List.mem_cons_of_mem _ hq))
theorem den_zip {K : PySem.W.Frag} {w : World} {H : Hp} : ∀ {ds : List D} {vs : List V}, DenL K w H ds vs → ∀ p ∈ vs.zip ds, Den K w H p.2 p.1
  | [], vs, q, p, hp => by rw [DenL.nil_iff] at q; subst q; simp at hp
  | d :: ds, vs, q, p, hp => by
    rw [DenL.cons_iff] at q
    obtain ⟨v, r, rfl, q1, q2⟩ := q
    rcases List.mem_cons.mp hp with e | e
    · subst e; exact q1
    · exact den_zip q2 p e
theorem ok_srt {C : Ct} : OkOp C (rSrtA C.K) srtD := fun T τ H Hs vs ds sv Q R vw e hq => by
  unfold srtD at e
  split at e
  · rename_i xs
    split at e
    · rename_i ps ep
      split at e
      · rename_i hb
        cases e
        obtain ⟨v, _, rfl, v1, vw⟩ := vw.inv
        cases vw.inv0
        obtain ⟨a, us, rfl, s1, d1⟩ := v1
        refine .inl ⟨a, us, xs, ps, rfl, s1, ep, DenL.dp R.sub d1 ep, hb, fun p hp => hq _ _ Hs ?_⟩
        have e2 : xs.mergeSort leD = ((us.zip xs).mergeSort (dataLe false srtK)).map (·.2) := by
          have h1 : ((us.zip xs).mergeSort (dataLe false srtK)).map (·.2) = ((us.zip xs).map (·.2)).mergeSort leD := List.map_mergeSort (fun a _ b _ => rfl)
          rw [h1, List.map_snd_zip (by rw [d1.len]; exact Nat.le_refl _)]
        rw [show isrt leD xs = _ from (isrt_eq (le := leD) (dle_trans _) (dle_total _) xs).symm.trans e2]
        refine Rep.new_lst R hp (denL_pairs fun p hp => den_zip d1 p ?_)
        exact (List.mergeSort_perm _ _).mem_iff.mp hp
      · cases e
    · cases e
  · rename_i xs
    split at e
    · rename_i ps ep
      split at e
      · rename_i hb
        cases e
        obtain ⟨v, _, rfl, v1, vw⟩ := vw.inv
        cases vw.inv0
        obtain ⟨a, us, rfl, s1, d1, _⟩ := v1
        refine .inr ⟨a, us, xs, ps, rfl, s1, ep, DenL.dp R.sub d1 ep, hb, fun p hp => hq _ _ Hs ?_⟩
        have e2 : xs.mergeSort leD = ((us.zip xs).mergeSort (dataLe false srtK)).map (·.2) := by
          have h1 : ((us.zip xs).mergeSort (dataLe false srtK)).map (·.2) = ((us.zip xs).map (·.2)).mergeSort leD := List.map_mergeSort (fun a _ b _ => rfl)
          rw [h1, List.map_snd_zip (by rw [d1.len]; exact Nat.le_refl _)]
        rw [show isrt leD xs = _ from (isrt_eq (le := leD) (dle_trans _) (dle_total _) xs).symm.trans e2]
        refine Rep.new_lst R hp (denL_pairs fun p hp => den_zip d1 p ?_)
        exact (List.mergeSort_perm _ _).mem_iff.mp hp
      · cases e
    · cases e
  · cases e
end
end Ev
end

section
set_option Elab.async false
set_option linter.all false
set_option maxRecDepth 100000
set_option maxHeartbeats 4000000
/-! Ev, part 19c: sum, max, min of tuples of ints; list of a text. -/
namespace Ev
open PySem PySem.Spec PyProof.Rows L2
section
variable {X : Cx}
def rSumT (K : PySem.W.Frag) : List V → Hp → VK → Prop := fun vs H Q => ∃ (a : Addr) (ns : List Int), vs = [V.ref a] ∧ SqT K H a (ns.map V.int) ∧ Q (.int ns.sum) H
theorem cr_sumT (hc : X.calm = true) : CallR X (.builtin "sum") (rSumT X.K) := by
  intro pins s σ H vs us Q I r h
  obtain ⟨a, ns, rfl, hs, q⟩ := h
  obtain ⟨its, rv, hl, _⟩ := I.tuple hs
  rw [Vals.ref1 r]
  have hi := rv.ints
  obtain ⟨xs, hx⟩ := hi.allInts.items
  have hn : numsOf its.toArray.toList = ns := by rw [show its.toArray.toList = its from rfl, hi.numsOf]
  rw [hx] at hl hn
  rw [nums_intItems] at hn
  refine PySem.W.ktm_sumG (I.ok.hd hc) hl fun h' tk t' hk => ?_
  rw [preSum_eq, List.take_of_length_le (by simp), hn]
  exact ⟨.int _, H, I.kept hk, ⟨_, rfl⟩, q⟩
theorem alike_ints (ns : List Int) : PySem.W.AlikeAll (ns.map PyData.int) := by
  refine ⟨fun x hx y hy => ?_, fun x hx => ?_⟩
  · obtain ⟨n, _, rfl⟩ := List.mem_map.mp hx
    obtain ⟨m, _, rfl⟩ := List.mem_map.mp hy
    rfl
  · obtain ⟨n, _, rfl⟩ := List.mem_map.mp hx
    simp
theorem dp_ints {K : PySem.W.Frag} {H : Hp} : ∀ ns : List Int, DpAll K H (ns.map V.int) (ns.map PyData.int)
  | [] => .nil
  | n :: ns => .cons (.int n) (dp_ints ns)
theorem depth_ints : ∀ ns : List Int, PyData.depthAll (ns.map PyData.int) ≤ 1
  | [] => by simp [PyData.depthAll]
  | n :: ns => by
    have := depth_ints ns
    simp [PyData.depthAll, PyData.depth]
    omega
def rMaxT (K : PySem.W.Frag) : List V → Hp → VK → Prop := fun vs H Q => ∃ (a : Addr) (n : Int) (ns : List Int), vs = [V.ref a] ∧ SqT K H a ((n :: ns).map V.int) ∧ Q (.int (ns.foldl max n)) H
def rMinT (K : PySem.W.Frag) : List V → Hp → VK → Prop := fun vs H Q => ∃ (a : Addr) (n : Int) (ns : List Int), vs = [V.ref a] ∧ SqT K H a ((n :: ns).map V.int) ∧ Q (.int (ns.foldl min n)) H
theorem cr_maxT (hc : X.calm = true) (hu : X.A.units + 100 < cLine) : CallR X (.builtin "max") (rMaxT X.K) := by
  intro pins s σ H vs us Q I r h
  obtain ⟨a, n, ns, rfl, hs, q⟩ := h
  obtain ⟨its, rv, hl, _⟩ := I.tuple hs
  rw [Vals.ref1 r]
  obtain ⟨as, rd⟩ := Dp.readsAll I _ _ _ (dp_ints (K := X.K) (H := H) (n :: ns)) rv
  have hd := depth_ints (n :: ns)
  refine PySem.W.max_tuple_data (x := .int n) (xs := ns.map .int) (I.ok.hd hc) hl rd (alike_ints (n :: ns)) (by show X.A.units + 1 + PyData.depthAll ((n :: ns).map PyData.int) < cLine; omega) fun i v h' tk bs hv hr hk => ?_
  rw [PySem.W.maxD_ints] at hr
  cases hr
  exact ⟨.int _, H, I.kept hk, ⟨_, rfl⟩, q⟩
theorem cr_minT (hc : X.calm = true) (hu : X.A.units + 100 < cLine) : CallR X (.builtin "min") (rMinT X.K) := by
  intro pins s σ H vs us Q I r h
  obtain ⟨a, n, ns, rfl, hs, q⟩ := h
  obtain ⟨its, rv, hl, _⟩ := I.tuple hs
  rw [Vals.ref1 r]
  obtain ⟨as, rd⟩ := Dp.readsAll I _ _ _ (dp_ints (K := X.K) (H := H) (n :: ns)) rv
  have hd := depth_ints (n :: ns)
  refine PySem.W.min_tuple_data (x := .int n) (xs := ns.map .int) (I.ok.hd hc) hl rd (alike_ints (n :: ns)) (by show X.A.units + 1 + PyData.depthAll ((n :: ns).map PyData.int) < cLine; omega) fun i v h' tk bs hv hr hk => ?_
  rw [PySem.W.minD_ints] at hr
  cases hr
  exact ⟨.int _, H, I.kept hk, ⟨_, rfl⟩, q⟩
theorem vals_at : ∀ {xs : List V} {us : List Value}, xs.length = us.length → (∀ (i : Nat) (x : V) (u : Value), xs[i]? = some x → us[i]? = some u → RelV x u) → Vals xs us
  | [], [], _, _ => .nil
  | x :: xs, u :: us, hl, h => .cons (h 0 x u rfl rfl) (vals_at (by simpa using hl) fun i y v hy hv => h (i + 1) y v (by simpa using hy) (by simpa using hv))
  | [], _ :: _, hl, _ => by simp at hl
  | _ :: _, [], hl, _ => by simp at hl
def rLisS : List V → Hp → VK → Prop := fun vs H Q => ∃ x : Str, vs = [.str x] ∧ x.cps.size ≤ sizeLine ∧ ∀ l, H l = none → Q (.ref l) (upd H l (.lst (x.cps.toList.map fun c => V.str ⟨#[c]⟩)))
theorem cr_lisS (hc : X.calm = true) : CallR X (.type "list") rLisS := by
  intro pins s σ H vs us Q I r h
  obtain ⟨x, rfl, hz, q⟩ := h
  obtain ⟨u, rfl, t, rfl⟩ := vals1 r
  refine call_list_str (I.ok.hd hc) x t (fun h' tk acc c' hk hS hacc => ?_) hz
  have hv : Vals (x.cps.toList.map fun c => V.str ⟨#[c]⟩) acc.toList := by
    refine vals_at (by rw [List.length_map, Array.length_toList, Array.length_toList]; exact hacc.1.symm) fun i v w hv hw => ?_
    rw [List.getElem?_map] at hv
    obtain ⟨c, u, hc1, rfl⟩ := hacc.2 i w (by simpa using hw)
    rw [Array.getElem?_toList, hc1] at hv
    cases hv
    exact ⟨u, rfl⟩
  refine ⟨.ref s.heap.objs.size, _, I.laid (t' := tk) (o := .lst _) hk (Nat.le_refl _) ⟨by simpa using hz, acc.toList, c', hv, by simpa using hS⟩, rfl, q _ (I.hok.fresh (Nat.le_refl _))⟩
end
end Ev
end

section
set_option Elab.async false
set_option linter.all false
set_option maxRecDepth 100000
set_option maxHeartbeats 4000000
/-! Ev, part 20: builtins called with values. -/
namespace Ev
open PySem PySem.Spec PyProof.Rows L2
def intsD : List D → Option (List Int)
  | [] => some []
  | .int i :: r => (intsD r).map (i :: ·)
  | _ :: _ => none
def blsD : List D → Option (List Bool)
  | [] => some []
  | .bl i :: r => (blsD r).map (i :: ·)
  | _ :: _ => none
def strsD : List D → Option (List Str)
  | [] => some []
  | .str i :: r => (strsD r).map (i :: ·)
  | _ :: _ => none
section
variable {K : PySem.W.Frag} {w : World} {H : Hp}
theorem DenL.ints : ∀ {ds : List D} {vs : List V} {ns : List Int}, DenL K w H ds vs → intsD ds = some ns → vs = ns.map V.int
  | [], _, _, q, e => by cases e; rw [DenL.nil_iff] at q; subst q; rfl
  | d :: ds, _, _, q, e => by
    rw [DenL.cons_iff] at q
    obtain ⟨v, r, rfl, q1, q2⟩ := q
    cases d <;> first | (cases e; done) | skip
    case int i =>
      unfold intsD at e
      cases e1 : intsD ds with
      | none => rw [e1] at e; cases e
      | some ps => rw [e1] at e; cases e; rw [Den.int.mp q1, DenL.ints q2 e1]; rfl
theorem DenL.bls : ∀ {ds : List D} {vs : List V} {ns : List Bool}, DenL K w H ds vs → blsD ds = some ns → vs = ns.map V.bl
  | [], _, _, q, e => by cases e; rw [DenL.nil_iff] at q; subst q; rfl
  | d :: ds, _, _, q, e => by
    rw [DenL.cons_iff] at q
    obtain ⟨v, r, rfl, q1, q2⟩ := q
    cases d <;> first | (cases e; done) | skip
    case bl i =>
      unfold blsD at e
      cases e1 : blsD ds with
      | none => rw [e1] at e; cases e
      | some ps => rw [e1] at e; cases e; rw [Den.bl.mp q1, DenL.bls q2 e1]; rfl
theorem DenL.strs : ∀ {ds : List D} {vs : List V} {ns : List Str}, DenL K w H ds vs → strsD ds = some ns → vs = ns.map V.str
  | [], _, _, q, e => by cases e; rw [DenL.nil_iff] at q; subst q; rfl
  | d :: ds, _, _, q, e => by
    rw [DenL.cons_iff] at q
    obtain ⟨v, r, rfl, q1, q2⟩ := q
    cases d <;> first | (cases e; done) | skip
    case str i =>
      unfold strsD at e
      cases e1 : strsD ds with
      | none => rw [e1] at e; cases e
      | some ps => rw [e1] at e; cases e; rw [Den.str.mp q1, DenL.strs q2 e1]; rfl
theorem DenL.ofStrs : ∀ {xs : List Str}, DenL K w H (xs.map D.str) (xs.map V.str)
  | [] => DenL.nil
  | x :: xs => DenL.cons (Den.str.mpr rfl) (DenL.ofStrs (xs := xs))
end
/-! ### what they give -/
def lenD : List D → Option SV
  | [.tup xs] => some (.sh (.int xs.length))
  | [.lst xs] => some (.sh (.int xs.length))
  | [.str z] => if z.length ≤ sizeLine then some (.sh (.int z.length)) else none
  | _ => none
def tupD : List D → Option SV
  | [.tup xs] => some (.sh (.tup xs))
  | [.lst xs] => some (.sh (.tup xs))
  | _ => none
def charsD (z : Str) : List D := z.cps.toList.map fun c => .str ⟨#[c]⟩
def lisD : List D → Option SV
  | [.tup xs] => some (.ow (.l xs))
  | [.lst xs] => some (.ow (.l xs))
  | [.str x] => if x.cps.size ≤ sizeLine then some (.ow (.l (charsD x))) else none
  | _ => none
def intD : List D → Option SV
  | [.int i] => some (.sh (.int i))
  | [.bl k] => some (.sh (.int (if k then 1 else 0)))
  | [.str x] => if x.length ≤ 640 then (PySem.intText? x).map fun n => .sh (.int n) else none
  | _ => none
def absD : List D → Option SV
  | [.int i] => some (.sh (.int (if i < 0 then -i else i)))
  | _ => none
def sumD : List D → Option SV
  | [.lst xs] => (intsD xs).map fun ns => .sh (.int ns.sum)
  | [.tup xs] => (intsD xs).map fun ns => .sh (.int ns.sum)
  | _ => none
def anyD : List D → Option SV
  | [.lst xs] => (blsD xs).map fun ns => .sh (.bl (ns.any id))
  | _ => none
def allD : List D → Option SV
  | [.lst xs] => (blsD xs).map fun ns => .sh (.bl (ns.all id))
  | _ => none
def maxI : List Int → Option Int
  | [] => none
  | x :: xs => some (xs.foldl max x)
def minI : List Int → Option Int
  | [] => none
  | x :: xs => some (xs.foldl min x)
def maxD : List D → Option SV
  | [.lst xs] => (intsD xs).bind fun ns => (maxI ns).map fun m => .sh (.int m)
  | [.tup xs] => (intsD xs).bind fun ns => (maxI ns).map fun m => .sh (.int m)
  | [.int i, .int j] => some (.sh (.int (if j > i then j else i)))
  | _ => none
def minD : List D → Option SV
  | [.lst xs] => (intsD xs).bind fun ns => (minI ns).map fun m => .sh (.int m)
  | [.tup xs] => (intsD xs).bind fun ns => (minI ns).map fun m => .sh (.int m)
  | [.int i, .int j] => some (.sh (.int (if j < i then j else i)))
  | _ => none
def strI : List D → Option SV
  | [.int i] => if i.natAbs.log2 < 1920 then some (.sh (.str (toString i))) else none
  | _ => none
theorem foldl_max_mem : ∀ (xs : List Int) (x : Int), xs.foldl max x ∈ x :: xs ∧ ∀ y ∈ x :: xs, y ≤ xs.foldl max x
  | [], x => by simp
  | a :: xs, x => by
    obtain ⟨h1, h2⟩ := foldl_max_mem xs (max x a)
    rw [List.foldl_cons]
    refine ⟨?_, fun y hy => ?_⟩
    · rcases List.mem_cons.mp h1 with e | e
      · rw [e]
        rcases Int.le_total x a with q | q
        · rw [Int.max_eq_right q]; simp
        · rw [Int.max_eq_left q]; simp
      · exact List.mem_cons_of_mem _ (List.mem_cons_of_mem _ e)
    · have h3 := h2 (max x a) (List.mem_cons_self)
      rcases List.mem_cons.mp hy with e | e
      · subst e; have := Int.le_max_left y a; omega
      · rcases List.mem_cons.mp e with e | e
        · subst e; have := Int.le_max_right x y; omega
        · exact h2 y (List.mem_cons_of_mem _ e)
theorem foldl_min_mem : ∀ (xs : List Int) (x : Int), xs.foldl min x ∈ x :: xs ∧ ∀ y ∈ x :: xs, xs.foldl min x ≤ y
  | [], x => by simp
  | a :: xs, x => by
    obtain ⟨h1, h2⟩ := foldl_min_mem xs (min x a)
    rw [List.foldl_cons]
    refine ⟨?_, fun y hy => ?_⟩
    · rcases List.mem_cons.mp h1 with e | e
      · rw [e]
        rcases Int.le_total x a with q | q
        · rw [Int.min_eq_left q]; simp
        · rw [Int.min_eq_right q]; simp
      · exact List.mem_cons_of_mem _ (List.mem_cons_of_mem _ e)
    · have h3 := h2 (min x a) (List.mem_cons_self)
      rcases List.mem_cons.mp hy with e | e
      · subst e; have := Int.min_le_left y a; omega
      · rcases List.mem_cons.mp e with e | e
        · subst e; have := Int.min_le_right x y; omega
        · exact h2 y (List.mem_cons_of_mem _ e)
section
variable {X : Cx} {C : Ct}
/-- a rule for one view -/
theorem ok_one {r : List V → Hp → VK → Prop} {f : List D → Option SV} (h : ∀ (T : List SV) (τ : List (Option V)) (H Hs : Hp) (x : V) (a : D) (sv : SV) (Q : VK), C.Rep T τ H Hs → View C.K C.w H Hs a x → f [a] = some sv →
    (∀ v H' Hs', C.Rep (sv :: T) (some v :: τ) H' Hs' → Q v H') → r [x] H Q) (hf : ∀ ds sv, f ds = some sv → ∃ a, ds = [a]) : OkOp C r f := fun T τ H Hs vs ds sv Q R vw e hq => by
  obtain ⟨a, rfl⟩ := hf ds sv e
  obtain ⟨x, _, rfl, v1, vw⟩ := vw.inv
  cases vw.inv0
  exact h T τ H Hs x a sv Q R v1 e hq
def rLen (K : PySem.W.Frag) : List V → Hp → VK → Prop := fun xs H Q => ∃ x n, xs = [x] ∧ LenV K x H n ∧ Q (.int n) H
theorem ok_len : OkOp C (rLen C.K) lenD := ok_one (fun T τ H Hs x a sv Q R v1 e hq => by
  unfold lenD at e
  split at e
  · rename_i xs h
    cases h
    cases e
    obtain ⟨p, us, rfl, s1, d1, _⟩ := v1
    refine ⟨_, us.length, rfl, .inr ⟨us, s1, rfl⟩, ?_⟩
    rw [d1.len] at hq
    exact hq _ _ _ (Rep.push_sh R (Den.int.mpr rfl))
  · rename_i xs h
    cases h
    cases e
    obtain ⟨p, us, rfl, s1, d1⟩ := v1
    refine ⟨_, us.length, rfl, .inl ⟨us, s1, rfl⟩, ?_⟩
    rw [d1.len] at hq
    exact hq _ _ _ (Rep.push_sh R (Den.int.mpr rfl))
  · rename_i z h
    cases h
    split at e
    · rename_i hz
      cases e
      cases v1.isStr
      exact ⟨_, z.length, rfl, ⟨hz, rfl⟩, hq _ _ _ (Rep.push_sh R (Den.int.mpr rfl))⟩
    · cases e
  · cases e) fun ds sv e => by unfold lenD at e; split at e <;> first | exact ⟨_, rfl⟩ | cases e
def rTup (K : PySem.W.Frag) : List V → Hp → VK → Prop := fun xs H Q => ∃ p ys, xs = [.ref p] ∧ ((SqL K H p ys ∧ NwT H Q ys) ∨ (SqT K H p ys ∧ Q (.ref p) H))
theorem ok_tup : OkOp C (rTup C.K) tupD := ok_one (fun T τ H Hs x a sv Q R v1 e hq => by
  unfold tupD at e
  split at e
  · rename_i xs h
    cases h
    cases e
    obtain ⟨p, us, rfl, s1, d1, t1⟩ := v1
    refine ⟨p, us, rfl, .inr ⟨s1, hq _ _ _ (Rep.push_sh R ?_)⟩⟩
    rw [Den]; exact ⟨p, us, rfl, t1, d1⟩
  · rename_i xs h
    cases h
    cases e
    obtain ⟨p, us, rfl, s1, d1⟩ := v1
    exact ⟨p, us, rfl, .inl ⟨s1, fun l ob ho hl => hq _ _ _ (Rep.new_tup R ho hl d1)⟩⟩
  · cases e) fun ds sv e => by unfold tupD at e; split at e <;> first | exact ⟨_, rfl⟩ | cases e
def rLis0 (K : PySem.W.Frag) : List V → Hp → VK → Prop := fun xs H Q => ∃ p ys, xs = [.ref p] ∧ (SqL K H p ys ∨ SqT K H p ys) ∧ ∀ l, H l = none → Q (.ref l) (upd H l (.lst ys))
def rLis (K : PySem.W.Frag) : List V → Hp → VK → Prop := fun xs H Q => rLis0 K xs H Q ∨ rLisS xs H Q
theorem den_chars {K : PySem.W.Frag} {w : World} {H : Hp} (x : Str) : DenL K w H (charsD x) (x.cps.toList.map fun c => V.str ⟨#[c]⟩) := by
  unfold charsD
  generalize x.cps.toList = l
  induction l with
  | nil => exact DenL.nil
  | cons c l ih => exact DenL.cons (Den.str.mpr rfl) ih
theorem ok_lis : OkOp C (rLis C.K) lisD := ok_one (fun T τ H Hs x a sv Q R v1 e hq => by
  unfold lisD at e
  split at e
  · rename_i xs h
    cases h
    cases e
    obtain ⟨p, us, rfl, s1, d1, t1⟩ := v1
    exact .inl ⟨p, us, rfl, .inr s1, fun l hl => hq _ _ _ (Rep.new_lst R hl d1)⟩
  · rename_i xs h
    cases h
    cases e
    obtain ⟨p, us, rfl, s1, d1⟩ := v1
    exact .inl ⟨p, us, rfl, .inl s1, fun l hl => hq _ _ _ (Rep.new_lst R hl d1)⟩
  · rename_i z h
    cases h
    split at e
    · rename_i hz
      cases e
      cases v1.isStr
      exact .inr ⟨z, rfl, hz, fun l hl => hq _ _ _ (Rep.new_lst R hl (den_chars z))⟩
    · cases e
  · cases e) fun ds sv e => by unfold lisD at e; split at e <;> first | exact ⟨_, rfl⟩ | cases e
def rInt1 : List V → Hp → VK → Prop := fun xs H Q => ((∃ i, xs = [.int i] ∧ Q (.int i) H) ∨ ∃ k, xs = [.bl k] ∧ Q (.int (if k then 1 else 0)) H) ∨ ∃ a n, xs = [.str a] ∧ PySem.intText? a = some n ∧ a.length ≤ 640 ∧ Q (.int n) H
theorem ok_int : OkOp C rInt1 intD := ok_one (fun T τ H Hs x a sv Q R v1 e hq => by
  unfold intD at e
  split at e
  · rename_i i h
    cases h
    cases e
    cases v1.isInt
    exact .inl (.inl ⟨i, rfl, hq _ _ _ (Rep.push_sh R (Den.int.mpr rfl))⟩)
  · rename_i i h
    cases h
    cases e
    cases v1.isBl
    exact .inl (.inr ⟨i, rfl, hq _ _ _ (Rep.push_sh R (Den.int.mpr rfl))⟩)
  · rename_i x h
    cases h
    split at e
    · rename_i hl
      simp only [Option.map_eq_some_iff] at e
      obtain ⟨n, hn, rfl⟩ := e
      cases v1.isStr
      exact .inr ⟨x, n, rfl, hn, hl, hq _ _ _ (Rep.push_sh R (Den.int.mpr rfl))⟩
    · cases e
  · cases e) fun ds sv e => by unfold intD at e; split at e <;> first | exact ⟨_, rfl⟩ | cases e
def rAbs : List V → Hp → VK → Prop := fun xs H Q => ∃ i, xs = [.int i] ∧ Q (.int (if i < 0 then -i else i)) H
theorem ok_abs : OkOp C rAbs absD := ok_one (fun T τ H Hs x a sv Q R v1 e hq => by
  unfold absD at e
  split at e
  · rename_i i h
    cases h
    cases e
    cases v1.isInt
    exact ⟨i, rfl, hq _ _ _ (Rep.push_sh R (Den.int.mpr rfl))⟩
  · cases e) fun ds sv e => by unfold absD at e; split at e <;> first | exact ⟨_, rfl⟩ | cases e
def rSumA (K : PySem.W.Frag) : List V → Hp → VK → Prop := fun xs H Q => rSum K xs H Q ∨ rSumT K xs H Q
theorem ok_sum : OkOp C (rSumA C.K) sumD := ok_one (fun T τ H Hs x a sv Q R v1 e hq => by
  unfold sumD at e
  split at e
  · rename_i xs h
    cases h
    cases ei : intsD xs with
    | none => rw [ei] at e; cases e
    | some ns =>
      rw [ei] at e
      cases e
      obtain ⟨p, us, rfl, s1, d1⟩ := v1
      rw [d1.ints ei] at s1
      exact .inl ⟨p, ns, rfl, s1, hq _ _ _ (Rep.push_sh R (Den.int.mpr rfl))⟩
  · rename_i xs h
    cases h
    cases ei : intsD xs with
    | none => rw [ei] at e; cases e
    | some ns =>
      rw [ei] at e
      cases e
      obtain ⟨p, us, rfl, s1, d1, _⟩ := v1
      rw [d1.ints ei] at s1
      exact .inr ⟨p, ns, rfl, s1, hq _ _ _ (Rep.push_sh R (Den.int.mpr rfl))⟩
  · cases e) fun ds sv e => by unfold sumD at e; split at e <;> first | exact ⟨_, rfl⟩ | cases e
theorem ok_any : OkOp C (rAny C.K) anyD := ok_one (fun T τ H Hs x a sv Q R v1 e hq => by
  unfold anyD at e
  split at e
  · rename_i xs h
    cases h
    cases ei : blsD xs with
    | none => rw [ei] at e; cases e
    | some ns =>
      rw [ei] at e
      cases e
      obtain ⟨p, us, rfl, s1, d1⟩ := v1
      rw [d1.bls ei] at s1
      exact ⟨p, ns, rfl, s1, hq _ _ _ (Rep.push_sh R (Den.bl.mpr rfl))⟩
  · cases e) fun ds sv e => by unfold anyD at e; split at e <;> first | exact ⟨_, rfl⟩ | cases e
theorem ok_all : OkOp C (rAll C.K) allD := ok_one (fun T τ H Hs x a sv Q R v1 e hq => by
  unfold allD at e
  split at e
  · rename_i xs h
    cases h
    cases ei : blsD xs with
    | none => rw [ei] at e; cases e
    | some ns =>
      rw [ei] at e
      cases e
      obtain ⟨p, us, rfl, s1, d1⟩ := v1
      rw [d1.bls ei] at s1
      exact ⟨p, ns, rfl, s1, hq _ _ _ (Rep.push_sh R (Den.bl.mpr rfl))⟩
  · cases e) fun ds sv e => by unfold allD at e; split at e <;> first | exact ⟨_, rfl⟩ | cases e
def rMaxA (K : PySem.W.Frag) : List V → Hp → VK → Prop := fun xs H Q => rMax K xs H Q ∨ rMaxT K xs H Q ∨ ∃ i j, xs = [.int i, .int j] ∧ Q (.int (if j > i then j else i)) H
def rMinA (K : PySem.W.Frag) : List V → Hp → VK → Prop := fun xs H Q => rMin K xs H Q ∨ rMinT K xs H Q ∨ ∃ i j, xs = [.int i, .int j] ∧ Q (.int (if j < i then j else i)) H
theorem ok_max : OkOp C (rMaxA C.K) maxD := fun T τ H Hs vs ds sv Q R vw e hq => by
  unfold maxD at e
  split at e
  · rename_i xs
    obtain ⟨x, _, rfl, v1, vw⟩ := vw.inv
    cases vw.inv0
    cases ei : intsD xs with
    | none => rw [ei] at e; cases e
    | some ns =>
      rw [ei] at e
      cases ns with
      | nil => cases e
      | cons n ns =>
        cases e
        obtain ⟨p, us, rfl, s1, d1⟩ := v1
        rw [d1.ints ei] at s1
        refine .inl ⟨p, n :: ns, rfl, s1, Nat.zero_lt_succ _, fun m hm hall => ?_⟩
        obtain ⟨h1, h2⟩ := foldl_max_mem ns n
        have : m = ns.foldl max n := Int.le_antisymm (h2 m hm) (hall _ h1)
        rw [this]
        exact hq _ _ _ (Rep.push_sh R (Den.int.mpr rfl))
  · rename_i xs
    obtain ⟨x, _, rfl, v1, vw⟩ := vw.inv
    cases vw.inv0
    cases ei : intsD xs with
    | none => rw [ei] at e; cases e
    | some ns =>
      rw [ei] at e
      cases ns with
      | nil => cases e
      | cons n ns =>
        cases e
        obtain ⟨p, us, rfl, s1, d1, _⟩ := v1
        rw [d1.ints ei] at s1
        exact .inr (.inl ⟨p, n, ns, rfl, s1, hq _ _ _ (Rep.push_sh R (Den.int.mpr rfl))⟩)
  · rename_i i j
    obtain ⟨x, _, rfl, v1, vw⟩ := vw.inv
    obtain ⟨y, _, rfl, v2, vw⟩ := vw.inv
    cases vw.inv0
    cases v1.isInt
    cases v2.isInt
    cases e
    exact .inr (.inr ⟨i, j, rfl, hq _ _ _ (Rep.push_sh R (Den.int.mpr rfl))⟩)
  · cases e
theorem ok_min : OkOp C (rMinA C.K) minD := fun T τ H Hs vs ds sv Q R vw e hq => by
  unfold minD at e
  split at e
  · rename_i xs
    obtain ⟨x, _, rfl, v1, vw⟩ := vw.inv
    cases vw.inv0
    cases ei : intsD xs with
    | none => rw [ei] at e; cases e
    | some ns =>
      rw [ei] at e
      cases ns with
      | nil => cases e
      | cons n ns =>
        cases e
        obtain ⟨p, us, rfl, s1, d1⟩ := v1
        rw [d1.ints ei] at s1
        refine .inl ⟨p, n :: ns, rfl, s1, Nat.zero_lt_succ _, fun m hm hall => ?_⟩
        obtain ⟨h1, h2⟩ := foldl_min_mem ns n
        have : m = ns.foldl min n := Int.le_antisymm (hall _ h1) (h2 m hm)
        rw [this]
        exact hq _ _ _ (Rep.push_sh R (Den.int.mpr rfl))
  · rename_i xs
    obtain ⟨x, _, rfl, v1, vw⟩ := vw.inv
    cases vw.inv0
    cases ei : intsD xs with
    | none => rw [ei] at e; cases e
    | some ns =>
      rw [ei] at e
      cases ns with
      | nil => cases e
      | cons n ns =>
        cases e
        obtain ⟨p, us, rfl, s1, d1, _⟩ := v1
        rw [d1.ints ei] at s1
        exact .inr (.inl ⟨p, n, ns, rfl, s1, hq _ _ _ (Rep.push_sh R (Den.int.mpr rfl))⟩)
  · rename_i i j
    obtain ⟨x, _, rfl, v1, vw⟩ := vw.inv
    obtain ⟨y, _, rfl, v2, vw⟩ := vw.inv
    cases vw.inv0
    cases v1.isInt
    cases v2.isInt
    cases e
    exact .inr (.inr ⟨i, j, rfl, hq _ _ _ (Rep.push_sh R (Den.int.mpr rfl))⟩)
  · cases e
def rStrI : List V → Hp → VK → Prop := fun xs H Q => ∃ i, xs = [.int i] ∧ i.natAbs.log2 < 1920 ∧ Q (.str (toString i)) H
theorem ok_strI : OkOp C rStrI strI := ok_one (fun T τ H Hs x a sv Q R v1 e hq => by
  unfold strI at e
  split at e
  · rename_i i h
    cases h
    cases v1.isInt
    split at e
    · rename_i hz
      cases e
      exact ⟨i, rfl, hz, hq _ _ _ (Rep.push_sh R (Den.str.mpr rfl))⟩
    · cases e
  · cases e) fun ds sv e => by unfold strI at e; split at e <;> first | exact ⟨_, rfl⟩ | cases e
/-! ### ranges as values -/
def rRng (K : PySem.W.Frag) : List V → Hp → VK → Prop := fun vs H Q => ∃ i j, (vs = [V.int j] ∧ i = 0 ∨ vs = [V.int i, V.int j]) ∧ ∀ p, H p = none → Q (.ref p) (upd H p (.rng i j))
theorem cr_rng {X : Cx} : CallR X (.type "range") (rRng X.K) := by
  intro pins s σ H vs us Q I r h
  obtain ⟨i, j, hv | hv, q⟩ := h
  · obtain ⟨rfl, rfl⟩ := hv
    obtain ⟨u, rfl, ru⟩ := vals1 r
    obtain ⟨t, rfl⟩ := ru
    exact call_range_1 ⟨.ref s.heap.objs.size, _, I.laid (t' := s.toks + 1 + 1) (o := .rng 0 j) (fun b o e => Heap.get?_push_of_some _ e) (Nat.le_refl _) ⟨_, _, _, Heap.get?_push_size _ rfl⟩, rfl, q _ (I.hok.fresh (Nat.le_refl _))⟩
  · subst hv
    exact cr_range2 pins s σ H _ us Q I r ⟨i, j, rfl, q⟩
def rngD : List D → Option SV
  | [.int j] => some (.sh (.rng 0 j))
  | [.int i, .int j] => some (.sh (.rng i j))
  | _ => none
theorem Rep.new_rng {C : Ct} {T : List SV} {τ : List (Option V)} {H Hs : Hp} {p : Addr} {i j : Int} (R : C.Rep T τ H Hs) (hp : H p = none) :
    C.Rep (.sh (.rng i j) :: T) (some (.ref p) :: τ) (upd H p (.rng i j)) (upd Hs p (.rng i j)) := by
  refine Rep.push_sh (Rep.new R hp) ?_
  rw [Den]
  exact ⟨p, rfl, upd_same⟩
theorem ok_rng {C : Ct} : OkOp C (rRng C.K) rngD := fun T τ H Hs vs ds sv Q R vw e hq => by
  unfold rngD at e
  split at e
  · rename_i j
    cases e
    obtain ⟨v, _, rfl, v1, vw⟩ := vw.inv
    cases vw.inv0
    cases v1.isInt
    exact ⟨0, j, .inl ⟨rfl, rfl⟩, fun p hp => hq _ _ _ (Rep.new_rng R hp)⟩
  · rename_i i j
    cases e
    obtain ⟨v, _, rfl, v1, vw⟩ := vw.inv
    obtain ⟨u, _, rfl, v2, vw⟩ := vw.inv
    cases vw.inv0
    cases v1.isInt
    cases v2.isInt
    exact ⟨i, j, .inr rfl, fun p hp => hq _ _ _ (Rep.new_rng R hp)⟩
  · cases e
/-! ### the table -/
inductive BiK where
  | fn (id : String) | ty (T : String)
def BiK.val : BiK → Value
  | .fn id => .builtin id
  | .ty T => .type T
structure Bi where
  name : Str
  k : BiK
  f : List D → Option SV
  r : PySem.W.Frag → List V → Hp → VK → Prop
def bis : List Bi := [
  ⟨"len", .fn "len", lenD, rLen⟩, ⟨"tuple", .ty "tuple", tupD, rTup⟩, ⟨"list", .ty "list", lisD, rLis⟩, ⟨"int", .ty "int", intD, fun _ => rInt1⟩, ⟨"abs", .fn "abs", absD, fun _ => rAbs⟩,
  ⟨"sum", .fn "sum", sumD, rSumA⟩, ⟨"any", .fn "any", anyD, rAny⟩, ⟨"all", .fn "all", allD, rAll⟩, ⟨"max", .fn "max", maxD, rMaxA⟩, ⟨"min", .fn "min", minD, rMinA⟩, ⟨"str", .ty "str", strI, fun _ => rStrI⟩, ⟨"sorted", .fn "sorted", srtD, rSrtA⟩, ⟨"range", .ty "range", rngD, rRng⟩]
def Bi.Ok (b : Bi) : Prop := bootBuiltins b.name = some b.k.val ∧ b.name ≠ "__name__" ∧ (b.name == ("__debug__" : Str)) = false ∧ (∀ X : Cx, X.calm = true → X.A.units + 100 < cLine → CallR X b.k.val (b.r X.K)) ∧ ∀ C : Ct, OkOp C (b.r C.K) b.f
theorem bis_ok : ∀ b ∈ bis, b.Ok := by
  intro b hb
  simp only [bis, List.mem_cons, List.not_mem_nil, or_false] at hb
  rcases hb with rfl | rfl | rfl | rfl | rfl | rfl | rfl | rfl | rfl | rfl | rfl | rfl | rfl
  · exact ⟨by kernel_rfl, by decide, by decide, fun X hc hu => call_len, fun C => ok_len⟩
  · exact ⟨by kernel_rfl, by decide, by decide, fun X hc hu => call_tupleN, fun C => ok_tup⟩
  · exact ⟨by kernel_rfl, by decide, by decide, fun X hc hu => CallR.or call_list_of (cr_lisS hc), fun C => ok_lis⟩
  · exact ⟨by kernel_rfl, by decide, by decide, fun X hc hu => CallR.or call_int1 call_int_str, fun C => ok_int⟩
  · exact ⟨by kernel_rfl, by decide, by decide, fun X hc hu => call_abs, fun C => ok_abs⟩
  · exact ⟨by kernel_rfl, by decide, by decide, fun X hc hu => CallR.or (cr_sum hc) (cr_sumT hc), fun C => ok_sum⟩
  · exact ⟨by kernel_rfl, by decide, by decide, fun X hc hu => cr_any hc, fun C => ok_any⟩
  · exact ⟨by kernel_rfl, by decide, by decide, fun X hc hu => cr_all hc, fun C => ok_all⟩
  · exact ⟨by kernel_rfl, by decide, by decide, fun X hc hu => CallR.or (cr_max hc) (CallR.or (cr_maxT hc hu) (call_max2 hc)), fun C => ok_max⟩
  · exact ⟨by kernel_rfl, by decide, by decide, fun X hc hu => CallR.or (cr_min hc) (CallR.or (cr_minT hc hu) (call_min2 hc)), fun C => ok_min⟩
  · exact ⟨by kernel_rfl, by decide, by decide, fun X hc hu => call_str_int, fun C => ok_strI⟩
  · exact ⟨by kernel_rfl, by decide, by decide, fun X hc hu => CallR.or (cr_srt hu) (cr_srtT hu), fun C => ok_srt⟩
  · exact ⟨by kernel_rfl, by decide, by decide, fun X hc hu => cr_rng, fun C => ok_rng⟩
/-- x(args), x a builtin of the table -/
theorem pd_bi {X : Cx} {β : Nat → Addr} {W : WX} {b : Bi} (hb : b ∈ bis) {e : Expr} {es : List Expr} {fs : List AF} {p pos : Pos} (hg : Gl X b.name) (hm : X.mg b.name = none) (hc : X.calm = true) (hu : X.A.units + 100 < cLine)
    (ha : PDA X β W (e :: es) fs) (he : starEach (e :: es) X.env = (false, eval e X.env) :: starEach es X.env) (hpl : (backTo pos (starEach es X.env)).any (·.1) = false) :
    PD X β W (.Call (.Name b.name p) (e :: es) [] pos) (opM b.f fs) := by
  obtain ⟨h1, h2, h3, h4, h5⟩ := bis_ok b hb
  obtain ⟨nm, k, f, r⟩ := b
  cases k with
  | fn id => exact pd_callB (h4 X hc hu) (h5 _) hg hm h1 ha h2 h3 he hpl
  | ty T => exact pd_callTy (h4 X hc hu) (h5 _) hg hm h1 ha h2 h3 he hpl
end
end Ev
end

section
set_option Elab.async false
set_option linter.all false
set_option maxRecDepth 100000
set_option maxHeartbeats 4000000
/-! Ev, part 21: statements: op=, stores to items, several targets. -/
namespace Ev
open PySem PySem.Spec PyProof.Rows L2
section
variable {X : Cx} {C : Ct}
/-! ### name op= e, of ints -/
def augI : Operator → Option (Int → Int → Int)
  | .Add => some (· + ·)
  | .Sub => some (· - ·)
  | _ => none
def augM (i : Nat) (g : Int → Int → Int) (f : M SV) : MS := fun S => match S[i]? with
  | some (.sh (.int a)) => (f S).bind fun r S' => (match r with
    | .sh (.int b) => .ok .nx (S'.set i (.sh (.int (g a b))))
    | _ => .stuck)
  | _ => .stuck
theorem augI_ok {op : Operator} {g : Int → Int → Int} (h : augI op = some g) : ∀ X : Cx, PIp X op (ipI g) := by
  unfold augI at h
  split at h <;> cases h
  · exact fun X => ip_add
  · exact fun X => ip_sub
theorem sd_aug {β : Nat → Addr} {W : WX} {i : Nat} {x : Str} {e : Expr} {f : M SV} {op : Operator} {g : Int → Int → Int} {pos pos' : Pos} (hN : X.N.Nodup) (hi : X.N[i]? = some x) (hx : Loc X.env.scope x) (h : PD X β W e f) (ho : augI op = some g) (hf : X.fn x = true ∨ X.env.scope.names.lookup x = some .local) :
    SD X β W (.AugAssign (.Name x pos') op e pos) (augM i g f) := by
  refine PS.imp (ps_aug hN hi hx h (augI_ok ho X) hf) fun D σ H ⟨S, T, τ, Hs, hl, R, q⟩ => ?_
  unfold augM at q
  cases es : S[i]? with
  | none => rw [es] at q; exact q.elim
  | some s =>
    cases s with
    | un => rw [es] at q; exact q.elim
    | ow o => rw [es] at q; exact q.elim
    | bo j o => rw [es] at q; exact q.elim
    | sh d =>
      cases d with
      | int a =>
        rw [es] at q
        have R0 : (cx X β W).Rep S σ H Hs := Rep.dropU hl R
        obtain ⟨v, ev, q0⟩ := R0.sh es
        cases (Den.int.mp q0 : v = .int a)
        refine ⟨_, ev, ?_⟩
        refine tD_bindS hl R q fun r S1 w H1 Hs1 R1 g1 => ?_
        cases r with
        | un => exact g1.elim
        | ow o => exact g1.elim
        | bo j o => exact g1.elim
        | sh d =>
          cases d with
          | int b =>
            obtain ⟨v', ev', q'⟩ := Rep.sh (i := 0) R1 rfl
            have : w = v' := by simpa using ev'
            subst this
            cases (Den.int.mp q' : w = .int b)
            exact ⟨a, b, rfl, rfl, g1 _ H1 Hs1 (Rep.store hl (Rep.push_sh (Rep.tail R1) (Den.int.mpr rfl)))⟩
          | _ => exact g1.elim
      | _ => rw [es] at q; exact q.elim
/-! ### xs[i] = v, xs[i] op= v, xs a local list of its own -/
def rGetL (K : PySem.W.Frag) : V → V → Hp → VK → Prop := rIxL K
theorem get_list : PGet X (rGetL X.K) := by
  intro pins s σ H x y v u Q I rx ry h
  obtain ⟨p, xs, i, z, rfl, rfl, hq, he, q⟩ := h
  cases rx
  obtain ⟨t, rfl⟩ := ry
  obtain ⟨its, r, pl, hz⟩ := I.list hq
  obtain ⟨j, h1, h2, h3, h4, h5⟩ := atI_get he
  obtain ⟨w, ew, rw'⟩ := r.get h2
  have hl := r.length
  have hn := line63
  have fin : EP X pins σ Q w s := ⟨z, H, I, rw', q⟩
  by_cases h0 : 0 ≤ i
  · have hj : i.toNat = j := by
      rw [seqIndex_of h0 h5] at h1
      exact Option.some.inj h1
    exact wpAny_getItem_list pl.isList h0 (by omega) (by rw [hj]; simpa using ew) fin
  · have hj : (i + (its.toArray.size : Int)).toNat = j := by
      rw [seqIndex_neg (by omega) h4] at h1
      rw [List.size_toArray, ← hl]
      exact Option.some.inj h1
    exact wpAny_getItem_list_neg (Q := EP X pins σ Q) pl.isList (by omega) (by rw [List.size_toArray] <;> omega) (by omega) (by rw [hj]; simpa using ew) fin
/-- the item k of the slot's list becomes d -/
def putI (S : List SV) (i : Nat) (k : Int) (d : D) : Option (List SV) := match S[i]? with
  | some s => (match s.own? with
    | some (.l xs) => (ixN xs.length k).map fun j => S.set i (s.put (.l (xs.set j d)))
    | _ => none)
  | none => none
theorem putI_ok {T S S' : List SV} {τ : List (Option V)} {σ : L2.St} {H Hs : Hp} {i : Nat} {k : Int} {d : D} {v : V} (hl : T.length = τ.length) (R : C.Rep (T ++ S) (τ ++ σ) H Hs) (q : Den C.K C.w Hs d v) (e : putI S i k d = some S') :
    ∃ a xs, σ[i]? = some (some (.ref a)) ∧ H a = some (.lst xs) ∧ ∃ j, ixN xs.length k = some j ∧ C.Rep (T ++ S') (τ ++ σ) (upd H a (.lst (xs.set j v))) Hs := by
  unfold putI at e
  cases es : S[i]? with
  | none => rw [es] at e; cases e
  | some s =>
    rw [es] at e
    dsimp only at e
    cases eo : s.own? with
    | none => rw [eo] at e; cases e
    | some o =>
      rw [eo] at e
      cases o with
      | d ks vs => cases e
      | ll xss => cases e
      | l xs =>
        dsimp only at e
        cases ej : ixN xs.length k with
        | none => rw [ej] at e; cases e
        | some j =>
          rw [ej] at e
          cases e
          obtain ⟨a, fp, ea, ⟨ef, vs, eh, dl⟩, hn, ch⟩ := Rep.change (i := T.length + i) (s := s) (o := .l xs) R (by rw [skip]; exact es) eo
          rw [hl, skip] at ea
          refine ⟨a, vs, ea, eh, j, by rw [← dl.len]; exact ej, ?_⟩
          have := ch (upd H a (.lst (vs.set j v))) (.l (xs.set j d)) (fun b hb => upd_ne fun z => hb (by rw [ef, z]; exact List.mem_cons_self)) ⟨ef, _, upd_same, dl.set j q⟩
          rw [List.set_append_right _ _ (by omega), show T.length + i - T.length = i by omega] at this
          exact this
end
end Ev
end

section
set_option Elab.async false
set_option linter.all false
set_option maxRecDepth 100000
set_option maxHeartbeats 4000000
/-! Ev, part 22: xs[i] = v, xs[i] op= v, xs.append(v), a, b = v, w. -/
namespace Ev
open PySem PySem.Spec PyProof.Rows L2
section
variable {C : Ct} {T U : List SV} {τ υ : List (Option V)} {σ : L2.St} {S : List SV} {H Hs : Hp}
theorem tD_bindSU {f : M SV} {k : SV → MS} {D : Ends} {Q1 : VK} (hu : U.length = υ.length) (hl : T.length = τ.length) (R : C.Rep (U ++ (T ++ S)) (υ ++ (τ ++ σ)) H Hs) (g : C.GoesS T τ ((f S).bind k) D)
    (h : ∀ r S1 v H1 Hs1, C.Rep (r :: (U ++ (T ++ S1))) (some v :: (υ ++ (τ ++ σ))) H1 Hs1 → C.GoesS T τ (k r S1) D → Q1 v H1) : tD C f σ H Q1 := by
  refine ⟨S, U ++ T, υ ++ τ, Hs, by simp [hu, hl], by rw [List.append_assoc, List.append_assoc]; exact R, ?_⟩
  cases e : f S with
  | ok r S1 =>
    rw [e] at g
    intro v H' Hs' R'
    rw [List.append_assoc, List.append_assoc] at R'
    exact h r S1 v H' Hs' R' g
  | exc c d S1 =>
    rw [e] at g
    exact Ct.OutS.deeper hu g σ
  | stuck => rw [e] at g; exact g
theorem SV.shr_of {r : SV} {d : D} (h : r.shd = some d) : r.shr = .sh d := by
  cases r with
  | un => cases h
  | sh d' => cases h; rfl
  | ow o => cases h; rfl
  | bo j o => cases h
/-- what is in flight at the head is shared -/
theorem Rep.toSh {r : SV} {v : V} {d : D} (R : C.Rep (r :: S) (some v :: σ) H Hs) (h : r.shd = some d) : ∃ Hs', C.Rep (.sh d :: S) (some v :: σ) H Hs' ∧ Den C.K C.w Hs' d v := by
  obtain ⟨Hs1, R1, s1⟩ := Rep.shr (R : Ev.Rep C.K C.w C.β (r :: S) (some v :: σ) H Hs)
  rw [SV.shr_of h] at R1
  obtain ⟨v', ev, q⟩ := Rep.sh (i := 0) R1 rfl
  have : v = v' := by simpa using ev
  subst this
  exact ⟨Hs1, R1, q⟩
theorem Rep.intOf {v : V} {k : Int} (R : C.Rep (.sh (.int k) :: S) (some v :: σ) H Hs) : v = .int k := by
  obtain ⟨v', ev, q⟩ := Rep.sh (i := 0) R rfl
  have : v = v' := by simpa using ev
  subst this
  exact Den.int.mp q
/-- the slot's value is there -/
theorem Rep.ownRef {i : Nat} {o : Own} (hl : T.length = τ.length) (R : C.Rep (T ++ S) (τ ++ σ) H Hs) (e : S[i]?.bind SV.own? = some o) : ∃ a, σ[i]? = some (some (.ref a)) := by
  have R0 : C.Rep S σ H Hs := Rep.dropU hl R
  cases es : S[i]? with
  | none => rw [es] at e; cases e
  | some s =>
    rw [es] at e
    obtain ⟨a, fp, ea, _⟩ := Rep.change (K := C.K) (w := C.w) (β := C.β) R0 es e
    exact ⟨a, ea⟩
end
/-- xs[k] = v -/
def setM (i : Nat) (fi fv : M SV) : MS := fun S => (fv S).bind fun r S1 => match r.shd, S1[i]?.bind SV.own? with
  | some d, some _ => (fi S1).bind fun kr S2 => (match kr with
    | .sh (.int k) => (match putI S2 i k d with
      | some S3 => .ok .nx S3
      | none => .stuck)
    | _ => .stuck)
  | _, _ => .stuck
/-- the item k of the slot's list -/
def getI (S : List SV) (i : Nat) (k : Int) : Option D := match S[i]?.bind SV.own? with
  | some (.l xs) => atI xs k
  | _ => none
/-- xs[k] op= v, of ints -/
def augS (i : Nat) (g : Int → Int → Int) (fi fv : M SV) : MS := fun S => match S[i]?.bind SV.own? with
  | some _ => (fi S).bind fun kr S1 => (match kr with
    | .sh (.int k) => (match getI S1 i k with
      | some (.int a) => (fv S1).bind fun r S2 => (match r with
        | .sh (.int b) => (match putI S2 i k (.int (g a b)) with
          | some S3 => .ok .nx S3
          | none => .stuck)
        | _ => .stuck)
      | _ => .stuck)
    | _ => .stuck)
  | none => .stuck
/-- xs.append(v) -/
def appI (S : List SV) (i : Nat) (d : D) : Option (List SV) := match S[i]? with
  | some s => (match s.own? with
    | some (.l xs) => if xs.length < sizeLine then some (S.set i (s.put (.l (xs ++ [d])))) else none
    | _ => none)
  | none => none
def isL (S : List SV) (i : Nat) : Bool := match S[i]?.bind SV.own? with
  | some (.l _) => true
  | _ => false
def appM (i : Nat) (fv : M SV) : M SV := fun S => if isL S i = true then (fv S).bind fun r S1 => (match r.shd with
    | some d => (match appI S1 i d with
      | some S2 => .ok (.sh .non) S2
      | none => .stuck)
    | none => .stuck) else .stuck
section
variable {X : Cx} {β : Nat → Addr} {W : WX}
theorem getI_ok {C : Ct} {T S : List SV} {τ : List (Option V)} {σ : L2.St} {H Hs : Hp} {i : Nat} {k : Int} {d : D} (hl : T.length = τ.length) (R : C.Rep (T ++ S) (τ ++ σ) H Hs) (e : getI S i k = some d) :
    ∃ a xs v, σ[i]? = some (some (.ref a)) ∧ SqL C.K H a xs ∧ atI xs k = some v ∧ Den C.K C.w Hs d v := by
  have R0 : C.Rep S σ H Hs := Rep.dropU hl R
  unfold getI at e
  cases es : S[i]? with
  | none => rw [es] at e; cases e
  | some s =>
    rw [es] at e
    have e' : (match s.own? with | some (.l xs) => atI xs k | _ => none) = some d := e
    cases eo : s.own? with
    | none => rw [eo] at e'; cases e'
    | some o =>
      rw [eo] at e'
      cases o with
      | d ks vs => cases e'
      | ll xss => cases e'
      | l xs =>
        obtain ⟨a, fp, ea, ⟨ef, vs, eh, dl⟩, _⟩ := Rep.change (K := C.K) (w := C.w) (β := C.β) R0 es eo
        obtain ⟨v, ev, q⟩ := dl.atI e'
        exact ⟨a, vs, v, ea, SqL.of eh, ev, q⟩
theorem sd_setI {i : Nat} {x : Str} {ie e : Expr} {fi fv : M SV} {px ps pos : Pos} (hN : X.N[i]? = some x) (hvs : Vis X.env.scope x) (h1 : (x == ("__debug__" : Str)) = false) (h2 : (x == ("__classdict__" : Str)) = false) (hi : PD X β W ie fi) (hv : PD X β W e fv)
    (ha : ∀ v, assign (.Subscript (.Name x px) ie ps) X.env v = (do
      let ov ← holding [v] (eval (.Name x px) X.env)
      let iv ← holding [v, ov] (eval ie X.env)
      standAt ps
      holding [v, ov, iv] (setItem ov iv v)
      release [v, ov, iv] [])) (hs : swapsWithSole [.Subscript (.Name x px) ie ps] e pos.line X.env = pure false) (hw : swappedStores [.Subscript (.Name x px) ie ps] e X.env = pure none) :
    SD X β W (.Assign [.Subscript (.Name x px) ie ps] e pos) (setM i fi fv) := by
  refine PS.imp (ps_asg hv (pg_sub (pe_var hN hvs h1 h2) hi set_list ha) hs hw) fun D σ H ⟨S, T, τ, Hs, hl, R, q⟩ => ?_
  refine tD_bindS hl R q fun r S1 v H1 Hs1 R1 g1 => ?_
  cases ed : r.shd with
  | none => rw [ed] at g1; exact g1.elim
  | some d =>
    cases eo : S1[i]?.bind SV.own? with
    | none => rw [ed, eo] at g1; exact g1.elim
    | some o =>
      rw [ed, eo] at g1
      obtain ⟨Hs2, R2, qd⟩ := Rep.toSh R1 ed
      obtain ⟨a, ea⟩ := Rep.ownRef hl (Rep.tail R2) eo
      refine ⟨.ref a, ea, ?_⟩
      refine tD_bindSU (U := [.sh d]) (υ := [some v]) rfl hl R2 g1 fun kr S2 kv H3 Hs3 R3 g3 => ?_
      split at g3
      · rename_i k
        cases (Rep.intOf R3)
        split at g3
        · rename_i S3 e3
          obtain ⟨v', ev, qd'⟩ := Rep.sh (i := 1) R3 rfl
          have : v = v' := by simpa using ev
          subst this
          obtain ⟨a', xs, ea', eh, j, ej, R4⟩ := putI_ok (C := cx X β W) hl (Rep.tail (Rep.tail R3)) qd' e3
          rw [ea] at ea'
          cases ea'
          exact ⟨a, xs, k, j, rfl, rfl, eh, ej, g3 _ _ _ R4⟩
        · exact g3.elim
      · exact g3.elim
theorem sd_augS {i : Nat} {x : Str} {ie e : Expr} {fi fv : M SV} {op : Operator} {g : Int → Int → Int} {px ps pos : Pos} (hN : X.N[i]? = some x) (hvs : Vis X.env.scope x) (h1 : (x == ("__debug__" : Str)) = false) (h2 : (x == ("__classdict__" : Str)) = false) (hi : PD X β W ie fi) (hv : PD X β W e fv) (ho : augI op = some g)
    (ha : ∀ ov iv new, augStore ie ov iv new = (do holding [new, ov, iv] (setItem ov iv new); release [new, ov, iv] []; pure .next)) :
    SD X β W (.AugAssign (.Subscript (.Name x px) ie ps) op e pos) (augS i g fi fv) := by
  refine PS.imp (ps_augS (pe_var hN hvs h1 h2) hi get_list hv (augI_ok ho X) set_list ha) fun D σ H ⟨S, T, τ, Hs, hl, R, q⟩ => ?_
  unfold augS at q
  cases eo : S[i]?.bind SV.own? with
  | none => rw [eo] at q; exact q.elim
  | some o =>
    rw [eo] at q
    obtain ⟨a, ea⟩ := Rep.ownRef hl R eo
    refine ⟨.ref a, ea, ?_⟩
    refine tD_bindS hl R q fun kr S1 kv H1 Hs1 R1 g1 => ?_
    split at g1
    · rename_i k
      cases (Rep.intOf R1)
      split at g1
      · rename_i n en
        obtain ⟨a', xs, v, ea', sq, ev, qd⟩ := getI_ok (C := cx X β W) hl (Rep.tail R1) en
        rw [ea] at ea'
        cases ea'
        cases (Den.int.mp qd : v = .int n)
        refine ⟨a, xs, k, _, rfl, rfl, sq, ev, ?_⟩
        refine tD_bindS hl (Rep.tail R1) g1 fun r S2 w H3 Hs3 R3 g3 => ?_
        split at g3
        · rename_i b
          cases (Rep.intOf R3)
          split at g3
          · rename_i S3 e3
            obtain ⟨a', xs, ea', eh, j, ej, R4⟩ := putI_ok (C := cx X β W) (v := .int (g n b)) hl (Rep.tail R3) (Den.int.mpr rfl) e3
            rw [ea] at ea'
            cases ea'
            exact ⟨n, b, rfl, rfl, a, xs, k, j, rfl, rfl, eh, ej, g3 _ _ _ R4⟩
          · exact g3.elim
        · exact g3.elim
      · exact g1.elim
    · exact g1.elim
  done
theorem appI_ok {C : Ct} {T S S' : List SV} {τ : List (Option V)} {σ : L2.St} {H Hs : Hp} {i : Nat} {d : D} {v : V} (hl : T.length = τ.length) (R : C.Rep (T ++ S) (τ ++ σ) H Hs) (q : Den C.K C.w Hs d v) (e : appI S i d = some S') :
    ∃ a xs, σ[i]? = some (some (.ref a)) ∧ H a = some (.lst xs) ∧ xs.length < sizeLine ∧ C.Rep (T ++ S') (τ ++ σ) (upd H a (.lst (xs ++ [v]))) Hs := by
  unfold appI at e
  cases es : S[i]? with
  | none => rw [es] at e; cases e
  | some s =>
    rw [es] at e
    dsimp only at e
    cases eo : s.own? with
    | none => rw [eo] at e; cases e
    | some o =>
      rw [eo] at e
      cases o with
      | d ks vs => cases e
      | ll xss => cases e
      | l xs =>
        dsimp only at e
        split at e
        · rename_i hz
          cases e
          obtain ⟨a, fp, ea, ⟨ef, vs, eh, dl⟩, hn, ch⟩ := Rep.change (i := T.length + i) (s := s) (o := .l xs) R (by rw [skip]; exact es) eo
          rw [hl, skip] at ea
          refine ⟨a, vs, ea, eh, by rw [← dl.len]; exact hz, ?_⟩
          have := ch (upd H a (.lst (vs ++ [v]))) (.l (xs ++ [d])) (fun b hb => upd_ne fun z => hb (by rw [ef, z]; exact List.mem_cons_self)) ⟨ef, _, upd_same, dl.append (DenL.cons q DenL.nil)⟩
          rw [List.set_append_right _ _ (by omega), show T.length + i - T.length = i by omega] at this
          exact this
        · cases e
theorem isL_ok {C : Ct} {T S : List SV} {τ : List (Option V)} {σ : L2.St} {H Hs : Hp} {i : Nat} (hl : T.length = τ.length) (R : C.Rep (T ++ S) (τ ++ σ) H Hs) (e : isL S i = true) : ∃ a xs, σ[i]? = some (some (.ref a)) ∧ H a = some (.lst xs) := by
  have R0 : C.Rep S σ H Hs := Rep.dropU hl R
  unfold isL at e
  cases es : S[i]? with
  | none => rw [es] at e; cases e
  | some s =>
    rw [es] at e
    have e' : (match s.own? with | some (.l _) => true | _ => false) = true := e
    cases eo : s.own? with
    | none => rw [eo] at e'; cases e'
    | some o =>
      rw [eo] at e'
      cases o with
      | d ks vs => cases e'
      | ll xss => cases e'
      | l xs =>
        obtain ⟨a, fp, ea, ⟨ef, vs, eh, dl⟩, _⟩ := Rep.change (K := C.K) (w := C.w) (β := C.β) R0 es eo
        exact ⟨a, vs, ea, eh⟩
theorem pd_append {i : Nat} {x : Str} {e : Expr} {fv : M SV} {p apos pos : Pos} (hN : X.N[i]? = some x) (hvs : Vis X.env.scope x) (h1 : (x == ("__debug__" : Str)) = false) (h2 : (x == ("__classdict__" : Str)) = false) (hv : PD X β W e fv) (hst : isStar e = false)
    (hbase : attributeBase (.Name x p) "append" X.env (eval (.Name x p) X.env) = eval (.Name x p) X.env)
    (hfew : ((backTo pos (starEach [e] X.env)).all (fun x => !x.1) && (backToKw pos (keywordEach [] X.env)).all (fun x => x.1.isSome) && decide ([e].length + ([] : List Keyword).length + (if ([] : List Keyword).isEmpty then 0 else 1) < 30)) = true)
    (hline : (apos.endLine == pos.line) = true) (hplain : (backTo pos (starEach [] X.env)).any (·.1) = false) :
    PD X β W (.Call (.Attribute (.Name x p) "append" apos) [e] [] pos) (appM i fv) := by
  have ha : PA X [e] (tCons (tD (cx X β W) fv) tNil) := pa_cons hv pa_nil (star_cons hst)
  refine PE.imp (pe_bm (T := "list") (id := "list.append") F.plainAttrs_list F.slot_list_append (by show builtinType _ = _; rw [builtinType_eq_fast]; kernel_rfl) mt_append (pe_var hN hvs h1 h2) ha hbase hfew hline (star_cons hst) hplain) fun σ H Q ⟨S, T, τ, Hs, hl, R, q⟩ => ?_
  unfold appM at q
  by_cases hb : isL S i = true
  · rw [if_pos hb] at q
    obtain ⟨a, xs, ea, eh⟩ := isL_ok hl R hb
    refine ⟨.ref a, ea, .inl ⟨rfl, xs, SqL.of eh⟩, ?_⟩
    refine tD_bind (U := []) (υ := []) rfl hl R q fun r S1 v H1 Hs1 R1 g1 => ?_
    cases ed : r.shd with
    | none => rw [ed] at g1; exact g1.elim
    | some d =>
      rw [ed] at g1
      have g2 : (cx X β W).Goes T τ σ (match appI S1 i d with
        | some S2 => Res.ok (SV.sh .non) S2
        | none => Res.stuck) (fun r S' => ∀ (v : V) (H' Hs' : Hp), (cx X β W).Rep (r :: (T ++ S')) (some v :: (τ ++ σ)) H' Hs' → Q v H') := g1
      cases e2 : appI S1 i d with
      | none => rw [e2] at g2; exact g2.elim
      | some S2 =>
        rw [e2] at g2
        obtain ⟨Hs2, R2, qd⟩ := Rep.toSh R1 ed
        obtain ⟨a', ys, ea', eh', hz, R3⟩ := appI_ok hl (Rep.tail R2) qd e2
        rw [ea] at ea'
        cases ea'
        exact ⟨a, ys, v, rfl, rfl, eh', hz, g2 .non _ _ (Rep.push_sh R3 (Den.non.mpr rfl))⟩
  · rw [if_neg hb] at q; exact q.elim
end
end Ev
end

section
set_option Elab.async false
set_option linter.all false
set_option maxRecDepth 100000
set_option maxHeartbeats 4000000
/-! Ev, part 23: a, b = v, w; tuple targets; comprehensions as expressions; isinstance; join. -/
namespace Ev
open PySem PySem.Spec PyProof.Rows L2
/-- a, b = v, w, of local names: each value keeps its owner -/
def parM (i j : Nat) (f g : M SV) : MS := fun S => (f S).bind fun r S1 => (g S1).bind fun q S2 => .ok .nx ((S2.set i r).set j q)
def asgT (t : Tg) (f : M SV) : MS := fun S => (f S).bind fun r S1 => match r.shd with
  | some d => (match t.put d S1 with
    | some S2 => .ok .nx S2
    | none => .stuck)
  | none => .stuck
section
variable {X : Cx} {β : Nat → Addr} {W : WX}
theorem sd_par {i j : Nat} {x y : Str} {a b : Expr} {f g : M SV} {px py pt pos : Pos} {kt k2 pt2} (hc : X.calm = true) (hN : X.N.Nodup) (hi : X.N[i]? = some x) (hj : X.N[j]? = some y) (hij : i ≠ j)
    (hx : X.env.scope.names.lookup x = some .local) (hy : X.env.scope.names.lookup y = some .local) (ha : PD X β W a f) (hb : PD X β W b g) (sa : isStar a = false) (sb : isStar b = false)
    (hw : swappedStores [.Tuple [.Name x px, .Name y py] kt pt] (.Tuple [a, b] k2 pt2) X.env = pure (some [x, y]))
    (hs : swapsWithSole [.Tuple [.Name x px, .Name y py] kt pt] (.Tuple [a, b] k2 pt2) pos.line X.env = pure false) :
    SD X β W (.Assign [.Tuple [.Name x px, .Name y py] kt pt] (.Tuple [a, b] k2 pt2) pos) (parM i j f g) := by
  have hA : PA X [a, b] (tCons (tD (cx X β W) f) (tCons (tD (cx X β W) g) tNil)) := pa_cons ha (pa_cons hb pa_nil (star_cons sb)) (star_cons sa)
  refine PS.imp (ps_par hc hN hi hj hij hx hy hA hw hs) fun D σ H ⟨S, T, τ, Hs, hl, R, q⟩ => ?_
  refine tD_bindS hl R q fun r S1 v H1 Hs1 R1 g1 => ?_
  refine tD_bindSU (U := [r]) (υ := [some v]) rfl hl R1 g1 fun r2 S2 w H2 Hs2 R2 g2 => ?_
  refine ⟨v, w, rfl, g2 _ H2 Hs2 ?_⟩
  have R3 : (cx X β W).Rep (r :: (r2 :: (T ++ S2))) (some v :: (some w :: (τ ++ σ))) H2 Hs2 := Rep.unswap (A := [r]) (α := [some v]) rfl R2
  have R4 : (cx X β W).Rep ((r2 :: T) ++ S2.set i r) ((some w :: τ) ++ σ.set i (some v)) H2 Hs2 := Rep.store (T := r2 :: T) (τ := some w :: τ) (by simp [hl]) R3
  exact Rep.store hl R4
theorem sd_asgT {tg e : Expr} {t : Tg} {f : M SV} {pos : Pos} (h : PD X β W e f) (hg : PG X tg (t.rd X.K)) (hs : swapsWithSole [tg] e pos.line X.env = pure false) (hw : swappedStores [tg] e X.env = pure none)
    (h1 : (assignEach [tg] X.env).map (·.2) = [assign tg X.env]) : SD X β W (.Assign [tg] e pos) (asgT t f) := by
  refine PS.imp (ps_asg h hg hs hw h1) fun D σ H ⟨S, T, τ, Hs, hl, R, q⟩ => ?_
  refine tD_bindS hl R q fun r S1 v H1 Hs1 R1 g1 => ?_
  cases ed : r.shd with
  | none => rw [ed] at g1; exact g1.elim
  | some d =>
    rw [ed] at g1
    have g2 : (cx X β W).GoesS T τ (match t.put d S1 with
      | some S2 => Res.ok Fl.nx S2
      | none => Res.stuck) D := g1
    cases e2 : t.put d S1 with
    | none => rw [e2] at g2; exact g2.elim
    | some S2 =>
      rw [e2] at g2
      obtain ⟨Hs2, R2, qd⟩ := Rep.toSh R1 ed
      exact Tg.put_ok (C := cx X β W) hl (Rep.tail R2) qd e2 fun σ' R3 _ => g2 _ _ _ R3
/-! ### comprehensions -/
theorem pd_lc {elt tg iter : Expr} {ifs : List Expr} {scope : Scope} {own : List (Str × Nat)} {pos : Pos} {src : M Walk} {t : Tg} {c : M Bool} {f : M SV} (hc : X.calm = true) (hN : X.N.Nodup) (ho : own.map (·.2) = t.ixs) (nd : t.ixs.Nodup)
    (hi : PId X β W tg iter src) (ok : BlkOk X.N X.env.scope scope own)
    (hg : ∀ (s : Shared) (H : Hp) (C : Addr) (cl : List (Str × Addr)) (fp : List Addr), PG (X.blk s H scope (compEnvC scope cl C X.env) fp) tg (t.rd X.K))
    (ht : ∀ (s : Shared) (H : Hp) (C : Addr) (cl : List (Str × Addr)) (fp : List Addr), PTs (X.blk s H scope (compEnvC scope cl C X.env) fp) ifs (tDT (cx X β W).blk c))
    (he : ∀ (s : Shared) (H : Hp) (C : Addr) (cl : List (Str × Addr)) (fp : List Addr), PD (X.blk s H scope (compEnvC scope cl C X.env) fp) β (fun _ _ _ _ => False) elt f) (hs : ∀ x, foldedSetIterable iter X.env x = pure x) :
    PD X β W (.ListComp elt [⟨tg, iter, ifs, 0⟩] scope pos) (lcM src t c f) :=
  PE.imp (pe_lc (te := tD (cx X β W).blk f) hc hN hi ok hg ht he hs) fun _ _ _ h => by rw [ho]; exact lc_imp nd h
theorem sd_setLc {i : Nat} {y : Str} {py : Pos} {elt tg iter : Expr} {ifs : List Expr} {scope : Scope} {own : List (Str × Nat)} {pos spos : Pos} {src : M Walk} {t : Tg} {c : M Bool} {f : M SV} (hc : X.calm = true) (hN : X.N.Nodup) (hy : X.N[i]? = some y) (hyl : X.env.scope.names.lookup y = some .local)
    (hsw : swapsWith (.ListComp elt [⟨tg, iter, ifs, 0⟩] scope pos) (some (.Name y py)) spos.line X.env = pure true) (ho : own.map (·.2) = t.ixs) (nd : t.ixs.Nodup)
    (hi : PId X β W tg iter src) (ok : BlkOk X.N X.env.scope scope own)
    (hg : ∀ (s : Shared) (H : Hp) (C : Addr) (cl : List (Str × Addr)) (fp : List Addr), PG (X.blk s H scope (compEnvC scope cl C X.env) fp) tg (t.rd X.K))
    (ht : ∀ (s : Shared) (H : Hp) (C : Addr) (cl : List (Str × Addr)) (fp : List Addr), PTs (X.blk s H scope (compEnvC scope cl C X.env) fp) ifs (tDT (cx X β W).blk c))
    (he : ∀ (s : Shared) (H : Hp) (C : Addr) (cl : List (Str × Addr)) (fp : List Addr), PD (X.blk s H scope (compEnvC scope cl C X.env) fp) β (fun _ _ _ _ => False) elt f) (hs : ∀ x, foldedSetIterable iter X.env x = pure x) :
    SD X β W (.Assign [.Name y py] (.ListComp elt [⟨tg, iter, ifs, 0⟩] scope pos) spos) (asgM i (lcM src t c f)) := by
  refine PS.imp (ps_setLc (te := tD (cx X β W).blk f) hc hN hy hyl hsw hi ok hg ht he hs) fun D σ H ⟨S, T, τ, Hs, hl, R, q⟩ => ?_
  rw [ho]
  have h1 : tD (cx X β W) (lcM src t c f) σ H fun x H1 => gName i x σ H1 D.nx := tD_bindS hl R q fun r S1 v H1 Hs1 R1 g1 => g1 _ H1 Hs1 (Rep.store hl R1)
  exact lc_imp nd h1
theorem pd_lc2 {elt tg iter tg1 iter1 : Expr} {ifs ifs1 : List Expr} {scope : Scope} {own : List (Str × Nat)} {pos : Pos} {src src1 : M Walk} {t t1 : Tg} {c c1 : M Bool} {f : M SV} (hc : X.calm = true) (hN : X.N.Nodup) (ho : own.map (·.2) = t.ixs ++ t1.ixs) (nd : (t.ixs ++ t1.ixs).Nodup)
    (hi : PId X β W tg iter src) (ok : BlkOk X.N X.env.scope scope own)
    (hg : ∀ (s : Shared) (H : Hp) (C : Addr) (cl : List (Str × Addr)) (fp : List Addr), PG (X.blk s H scope (compEnvC scope cl C X.env) fp) tg (t.rd X.K))
    (ht : ∀ (s : Shared) (H : Hp) (C : Addr) (cl : List (Str × Addr)) (fp : List Addr), PTs (X.blk s H scope (compEnvC scope cl C X.env) fp) ifs (tDT (cx X β W).blk c))
    (hi1 : ∀ (s : Shared) (H : Hp) (C : Addr) (cl : List (Str × Addr)) (fp : List Addr), PId (X.blk s H scope (compEnvC scope cl C X.env) fp) β (fun _ _ _ _ => False) tg1 iter1 src1)
    (hg1 : ∀ (s : Shared) (H : Hp) (C : Addr) (cl : List (Str × Addr)) (fp : List Addr), PG (X.blk s H scope (compEnvC scope cl C X.env) fp) tg1 (t1.rd X.K))
    (ht1 : ∀ (s : Shared) (H : Hp) (C : Addr) (cl : List (Str × Addr)) (fp : List Addr), PTs (X.blk s H scope (compEnvC scope cl C X.env) fp) ifs1 (tDT (cx X β W).blk c1))
    (he : ∀ (s : Shared) (H : Hp) (C : Addr) (cl : List (Str × Addr)) (fp : List Addr), PD (X.blk s H scope (compEnvC scope cl C X.env) fp) β (fun _ _ _ _ => False) elt f) (hs : ∀ x, foldedSetIterable iter X.env x = pure x) (hs1 : ∀ env x, foldedSetIterable iter1 env x = pure x) :
    PD X β W (.ListComp elt [⟨tg, iter, ifs, 0⟩, ⟨tg1, iter1, ifs1, 0⟩] scope pos) (lc2M src t c src1 t1 c1 f) :=
  PE.imp (pe_lc2 (te := tD (cx X β W).blk f) (wi1 := tI (cx X β W).blk src1) (vs1 := t1.ixs) hc hN hi ok (fun i h => by rw [ho]; exact List.mem_append_right _ h) hg ht hi1 hg1 ht1 he hs hs1) fun _ _ _ h => by rw [ho]; exact lc2_imp nd h
theorem sd_setLc2 {i : Nat} {y : Str} {py : Pos} {elt tg iter tg1 iter1 : Expr} {ifs ifs1 : List Expr} {scope : Scope} {own : List (Str × Nat)} {pos spos : Pos} {src src1 : M Walk} {t t1 : Tg} {c c1 : M Bool} {f : M SV} (hc : X.calm = true) (hN : X.N.Nodup) (hy : X.N[i]? = some y) (hyl : X.env.scope.names.lookup y = some .local)
    (hsw : swapsWith (.ListComp elt [⟨tg, iter, ifs, 0⟩, ⟨tg1, iter1, ifs1, 0⟩] scope pos) (some (.Name y py)) spos.line X.env = pure true) (ho : own.map (·.2) = t.ixs ++ t1.ixs) (nd : (t.ixs ++ t1.ixs).Nodup)
    (hi : PId X β W tg iter src) (ok : BlkOk X.N X.env.scope scope own)
    (hg : ∀ (s : Shared) (H : Hp) (C : Addr) (cl : List (Str × Addr)) (fp : List Addr), PG (X.blk s H scope (compEnvC scope cl C X.env) fp) tg (t.rd X.K))
    (ht : ∀ (s : Shared) (H : Hp) (C : Addr) (cl : List (Str × Addr)) (fp : List Addr), PTs (X.blk s H scope (compEnvC scope cl C X.env) fp) ifs (tDT (cx X β W).blk c))
    (hi1 : ∀ (s : Shared) (H : Hp) (C : Addr) (cl : List (Str × Addr)) (fp : List Addr), PId (X.blk s H scope (compEnvC scope cl C X.env) fp) β (fun _ _ _ _ => False) tg1 iter1 src1)
    (hg1 : ∀ (s : Shared) (H : Hp) (C : Addr) (cl : List (Str × Addr)) (fp : List Addr), PG (X.blk s H scope (compEnvC scope cl C X.env) fp) tg1 (t1.rd X.K))
    (ht1 : ∀ (s : Shared) (H : Hp) (C : Addr) (cl : List (Str × Addr)) (fp : List Addr), PTs (X.blk s H scope (compEnvC scope cl C X.env) fp) ifs1 (tDT (cx X β W).blk c1))
    (he : ∀ (s : Shared) (H : Hp) (C : Addr) (cl : List (Str × Addr)) (fp : List Addr), PD (X.blk s H scope (compEnvC scope cl C X.env) fp) β (fun _ _ _ _ => False) elt f) (hs : ∀ x, foldedSetIterable iter X.env x = pure x) (hs1 : ∀ env x, foldedSetIterable iter1 env x = pure x) :
    SD X β W (.Assign [.Name y py] (.ListComp elt [⟨tg, iter, ifs, 0⟩, ⟨tg1, iter1, ifs1, 0⟩] scope pos) spos) (asgM i (lc2M src t c src1 t1 c1 f)) := by
  refine PS.imp (ps_setLc2 (te := tD (cx X β W).blk f) (wi1 := tI (cx X β W).blk src1) (vs1 := t1.ixs) hc hN hy hyl hsw hi ok (fun i h => by rw [ho]; exact List.mem_append_right _ h) hg ht hi1 hg1 ht1 he hs hs1) fun D σ H ⟨S, T, τ, Hs, hl, R, q⟩ => ?_
  rw [ho]
  have h1 : tD (cx X β W) (lc2M src t c src1 t1 c1 f) σ H fun x H1 => gName i x σ H1 D.nx := tD_bindS hl R q fun r S1 v H1 Hs1 R1 g1 => g1 _ H1 Hs1 (Rep.store hl R1)
  exact lc2_imp nd h1
theorem pts_yes : PTs X [] (tDT (cx X β W) yesT) := ⟨fun pins s σ H Q I h => pts_nil.run pins s σ H Q I (by obtain ⟨S, T, τ, Hs, hl, R, g⟩ := h; exact g H Hs R)⟩
theorem pts_if {c : Expr} {f : M Bool} (h : PTD X β W c f) : PTs X [c] (tDT (cx X β W) f) := pts_one h
/-! ### isinstance -/
def tyD : D → Option String
  | .non => some "NoneType"
  | .bl _ => some "bool"
  | .int _ => some "int"
  | .str _ => some "str"
  | .tup _ => some "tuple"
  | .lst _ => some "list"
  | _ => none
def subT (a b : String) : Bool := a == b || (a == "bool" && b == "int")
def tyNames : List String := ["int", "str", "bool", "tuple", "list", "dict"]
theorem kit_sub {K : PySem.W.Frag} {d : D} {a b : String} (ha : tyD d = some a) (hb : b ∈ tyNames) : PySem.W.kitOne K (.type a) (.type b) = some (subT a b) := by
  have h1 : a ∈ ["NoneType", "bool", "int", "str", "tuple", "list"] := by
    cases d <;> first | (cases ha; done) | (cases ha; simp)
  simp only [tyNames, List.mem_cons, List.not_mem_nil, or_false] at hb h1
  rcases h1 with rfl | rfl | rfl | rfl | rfl | rfl <;> rcases hb with rfl | rfl | rfl | rfl | rfl | rfl <;> rfl
theorem kit_any {K : PySem.W.Frag} {d : D} {a : String} (ha : tyD d = some a) : ∀ {bs : List String}, (∀ b ∈ bs, b ∈ tyNames) → PySem.W.kitAny K (.type a) (bs.map .type) = some (bs.any (subT a))
  | [], _ => rfl
  | b :: bs, h => by
    have h1 := kit_sub (K := K) ha (h b List.mem_cons_self)
    have h2 := kit_any (K := K) ha fun c hc => h c (List.mem_cons_of_mem _ hc)
    show (match PySem.W.kitOne K (.type a) (.type b) with | some true => some true | some false => PySem.W.kitAny K (.type a) (bs.map .type) | none => none) = _
    rw [h1, List.any_cons]
    cases subT a b with
    | true => rfl
    | false => simpa using h2
theorem View.tyx {K : PySem.W.Frag} {w : World} {H Hs : Hp} {d : D} {v : V} {a : String} (h : View K w H Hs d v) (ha : tyD d = some a) : TyX K H v (.type a) := by
  cases d with
  | non => cases ha; cases h.isNon; exact .base .non
  | bl b => cases ha; cases h.isBl; exact .base (.bl b)
  | int b => cases ha; cases h.isInt; exact .base (.int b)
  | str b => cases ha; cases h.isStr; exact .base (.str b)
  | tup ds =>
    cases ha
    obtain ⟨p, vs, rfl, (z | ⟨o, z⟩) | ⟨o, its, n, k1, k2, _⟩, _⟩ := h
    · exact .base (.tup z)
    · exact .fTuple z
    · exact .kTuple k1 k2
  | lst ds =>
    cases ha
    obtain ⟨p, vs, rfl, (z | ⟨o, z⟩) | ⟨o, its, n, k1, k2, _⟩, _⟩ := h
    · exact .base (.lst z)
    · exact .base (.frz z)
    · exact .kList k1 k2
  | dic _ _ => cases ha
  | rng _ _ => cases ha
  | exn _ _ => cases ha
  | prs _ => cases ha
def isiM (bs : List String) (f : AF) : M SV := opM (fun ds => match ds with
  | [d] => (tyD d).map fun a => .sh (.bl (bs.any (subT a)))
  | _ => none) [f]
theorem pd_isi1 {a : Expr} {f : AF} {b : String} {x : Str} {p q pos : Pos} (hg : Gl X "isinstance") (hm : X.mg "isinstance" = none) (hgx : Gl X x) (hmx : X.mg x = none) (hvx : bootBuiltins x = some (.type b)) (hx1 : x ≠ "__name__") (hx2 : (x == ("__debug__" : Str)) = false) (hb : b ∈ tyNames)
    (ha : PF X β W a f) (sa : isStar a = false) : PD X β W (.Call (.Name "isinstance" p) [a, .Name x q] [] pos) (isiM [b] f) := by
  have hT : PE X (.Name x q) (tC (.ty b)) := pe_bltn hgx hmx hvx rfl hx1 hx2
  have hA : PA X [a, .Name x q] (tCons (tAF (cx X β W) f) (tCons (tC (.ty b)) tNil)) := pa_cons ha (pa_cons hT pa_nil (star_cons rfl)) (star_cons sa)
  refine PE.imp (pe_callB call_isi hg hm (by kernel_rfl) hA (by decide) (by decide) (star_cons sa) rfl) fun σ H Q ⟨S, T, τ, Hs, hl, R, g⟩ => ?_
  show tAs (cx X β W) [f] σ H fun vs H1 => rIsi X.K (vs ++ [.ty b]) H1 Q
  refine tAs_use hl R g fun as vs S' H' Hs' R' hv hs g' => ?_
  cases e : datL S' as with
  | none => rw [e] at g'; exact g'.elim
  | some ds =>
    rw [e] at g'
    dsimp only at g'
    have vw := hv ds e
    cases ds with
    | nil => exact g'.elim
    | cons d ds =>
      cases ds with
      | cons _ _ => exact g'.elim
      | nil =>
        obtain ⟨v, _, rfl, v1, vw⟩ := vw.inv
        cases vw.inv0
        dsimp only at g'
        cases et : tyD d with
        | none => rw [et] at g'; exact g'.elim
        | some t =>
          rw [et] at g'
          refine ⟨v, .ty b, .type t, .type b, subT t b, rfl, .ty b, v1.tyx et, kit_sub et hb, ?_⟩
          have : ([b].any (subT t)) = subT t b := by simp
          have g2 := g' (.bl ([b].any (subT t))) H' Hs' (push_bl R')
          rw [this] at g2
          exact g2
/-! ### "..".join(xs) -/
def joinM (a : Str) (f : AF) : M SV := opM (fun ds => match ds with
  | [.lst xs] => (strsD xs).bind fun ys => if (ys.map (·.length)).sum + ys.length * a.length ≤ 16777216 then some (.sh (.str (Txt.join a ys))) else none
  | _ => none) [f]
theorem pd_join {a : Str} {e : Expr} {f : AF} {k : Nat} {p apos pos : Pos} (he : PF X β W e f) (se : isStar e = false) (hbase : attributeBase (.Constant (.str a) k p) "join" X.env (eval (.Constant (.str a) k p) X.env) = eval (.Constant (.str a) k p) X.env) (hline : (apos.endLine == pos.line) = true) :
    PD X β W (.Call (.Attribute (.Constant (.str a) k p) "join" apos) [e] [] pos) (joinM a f) := by
  refine PE.imp (pe_join pe_str he (star_cons se) hbase hline) fun σ H Q ⟨S, T, τ, Hs, hl, R, g⟩ => ?_
  refine ⟨⟨a, rfl⟩, ?_⟩
  show tAs (cx X β W) [f] σ H fun vs H1 => ∃ a' p, ∃ ys : List Str, V.str a = .str a' ∧ vs = [.ref p] ∧ (SqL X.K H1 p (ys.map V.str) ∨ SqT X.K H1 p (ys.map V.str)) ∧ (ys.map (·.length)).sum + ys.length * a'.length ≤ 16777216 ∧ Q (.str (Txt.join a' ys)) H1
  refine tAs_use hl R g fun as vs S' H' Hs' R' hv hs g' => ?_
  cases e : datL S' as with
  | none => rw [e] at g'; exact g'.elim
  | some ds =>
    rw [e] at g'
    dsimp only at g'
    have vw := hv ds e
    split at g'
    · rename_i r er
      split at er
      · rename_i xs
        obtain ⟨v, _, rfl, v1, vw⟩ := vw.inv
        cases vw.inv0
        cases es : strsD xs with
        | none => rw [es] at er; cases er
        | some ys =>
          rw [es] at er
          have er2 : (if (ys.map (·.length)).sum + ys.length * a.length ≤ 16777216 then some (SV.sh (.str (Txt.join a ys))) else none) = some r := er
          split at er2
          · rename_i hz
            cases er2
            obtain ⟨p, us, rfl, s1, d1⟩ := v1
            rw [d1.strs es] at s1
            exact ⟨a, p, ys, rfl, rfl, .inl s1, hz, g' _ _ _ (Rep.push_sh R' (Den.str.mpr rfl))⟩
          · cases er2
      · cases er
    · exact g'.elim
end
end Ev
end

section
set_option Elab.async false
set_option linter.all false
set_option maxRecDepth 100000
set_option maxHeartbeats 4000000
/-! Ev, part 23b: isinstance with several classes; chained comparisons. -/
namespace Ev
open PySem PySem.Spec PyProof.Rows L2
theorem View.grow {K : PySem.W.Frag} {w : World} {H H' Hs : Hp} {d : D} {v : V} (s : Sub H H') (h : View K w H Hs d v) : View K w H' Hs d v := by
  cases d with
  | non => exact h
  | bl b => exact h
  | int b => exact h
  | str b => exact h
  | exn c x => exact h
  | prs xs => exact h
  | tup ds => obtain ⟨a, vs, e, h1, h2⟩ := h; exact ⟨a, vs, e, SqT.sub s h1, h2⟩
  | lst ds => obtain ⟨a, vs, e, h1, h2⟩ := h; exact ⟨a, vs, e, SqL.sub s h1, h2⟩
  | dic ks ws => obtain ⟨a, kn, kv, vv, e, h1, h2⟩ := h; exact ⟨a, kn, kv, vv, e, h1.sub s, h2⟩
  | rng lo hi => obtain ⟨a, e, h1⟩ := h; exact ⟨a, e, s _ _ h1⟩
/-- names of builtin types, as values -/
inductive TyNs (X : Cx) : List Expr → List String → Prop
  | nil : TyNs X [] []
  | cons {x : Str} {q : Pos} {b : String} {es : List Expr} {bs : List String} : Gl X x → X.mg x = none → bootBuiltins x = some (.type b) → x ≠ "__name__" → (x == ("__debug__" : Str)) = false → b ∈ tyNames → TyNs X es bs → TyNs X (.Name x q :: es) (b :: bs)
def tTys : List String → TA
  | [] => tNil
  | b :: bs => tCons (tC (.ty b)) (tTys bs)
theorem tys_pa {X : Cx} {es : List Expr} {bs : List String} (h : TyNs X es bs) : PA X es (tTys bs) := by
  induction h with
  | nil => exact pa_nil
  | cons h1 h2 h3 h4 h5 h6 _ ih => exact pa_cons (pe_bltn h1 h2 h3 rfl h4 h5) ih (star_cons rfl)
theorem tys_at : ∀ {bs : List String} {σ : L2.St} {H : Hp} {Q : List V → Hp → Prop}, Q (bs.map V.ty) H → tTys bs σ H Q
  | [], _, _, _, h => h
  | b :: bs, _, _, _, h => tys_at (bs := bs) h
theorem tys_in {X : Cx} {es : List Expr} {bs : List String} (h : TyNs X es bs) : ∀ b ∈ bs, b ∈ tyNames := by
  induction h with
  | nil => intro b hb; cases hb
  | cons h1 h2 h3 h4 h5 h6 _ ih => intro b hb; rcases List.mem_cons.mp hb with e | e; exact e ▸ h6; exact ih b e
theorem tys_paired : ∀ bs : List String, Paired ClsV (bs.map V.ty) (bs.map Value.type)
  | [] => .nil
  | b :: bs => .cons (.ty b) (tys_paired bs)
section
variable {X : Cx} {β : Nat → Addr} {W : WX}
theorem pd_isiT {a : Expr} {f : AF} {es : List Expr} {bs : List String} {k : Nat} {p q pos : Pos} (hg : Gl X "isinstance") (hm : X.mg "isinstance" = none) (ht : TyNs X es bs) (hl : bs.length ≤ 100) (ha : PF X β W a f) (sa : isStar a = false) :
    PD X β W (.Call (.Name "isinstance" p) [a, .Tuple es k q] [] pos) (isiM bs f) := by
  have hA : PA X [a, .Tuple es k q] (tCons (tAF (cx X β W) f) (tCons (tTup (tTys bs)) tNil)) := pa_cons ha (pa_cons (pe_tup (tys_pa ht)) pa_nil (star_cons rfl)) (star_cons sa)
  refine PE.imp (pe_callB call_isiT hg hm (by kernel_rfl) hA (by decide) (by decide) (star_cons sa) rfl) fun σ H Q ⟨S, T, τ, Hs, hl', R, g⟩ => ?_
  show tAs (cx X β W) [f] σ H fun vs H1 => (tTys bs) σ H1 fun xs H2 => xs.length ≤ sizeLine ∧ ∀ p, H2 p = none → rIsiT X.K (vs ++ [.ref p]) (upd H2 p (.tup xs)) Q
  refine tAs_use hl' R g fun as vs S' H' Hs' R' hv hs g' => tys_at ?_
  cases e : datL S' as with
  | none => rw [e] at g'; exact g'.elim
  | some ds =>
    rw [e] at g'
    dsimp only at g'
    have vw := hv ds e
    cases ds with
    | nil => exact g'.elim
    | cons d ds =>
      cases ds with
      | cons _ _ => exact g'.elim
      | nil =>
        obtain ⟨v, _, rfl, v1, vw⟩ := vw.inv
        cases vw.inv0
        dsimp only at g'
        cases et : tyD d with
        | none => rw [et] at g'; exact g'.elim
        | some t =>
          rw [et] at g'
          refine ⟨by rw [List.length_map, sizeLine_eq]; omega, fun tp htp => ?_⟩
          have v2 : View X.K X.w (upd H' tp (.tup (bs.map V.ty))) Hs' d v := v1.grow (Sub.upd htp)
          refine ⟨v, tp, bs.map V.ty, .type t, bs.map .type, bs.any (subT t), rfl, upd_same, tys_paired bs, v2.tyx et, kit_any et (tys_in ht), ?_⟩
          exact g' _ _ _ (push_bl (Rep.newH R' htp))
/-! ### a op b op c -/
def chM (f g : List D → Option SV) (fa fb fc : AF) : M SV := fun S => (runAs [fa, fb] S).bind fun as S1 => match datL S1 as with
  | some ds => (match f ds with
    | some (.sh (.bl true)) => (runAs [fc] S1).bind fun cs S2 => (match datL S2 (as ++ cs) with
      | some [_, d, e] => (match g [d, e] with
        | some r => .ok r S2
        | none => .stuck)
      | _ => .stuck)
    | some (.sh (.bl false)) => .ok (.sh (.bl false)) S1
    | _ => .stuck)
  | _ => .stuck
theorem chain_imp {r r' : R2} {f g : List D → Option SV} {fa fb fc : AF} {σ : L2.St} {H : Hp} {Q : VK} (okf : OkOp (cx X β W) (two r) f) (okg : OkOp (cx X β W) (two r') g) (h : tD (cx X β W) (chM f g fa fb fc) σ H Q) :
    tChain r r' (tAF (cx X β W) fa) (tAF (cx X β W) fb) (tAF (cx X β W) fc) σ H Q := by
  obtain ⟨S, T, τ, Hs, hl, R, q⟩ := h
  show tAs (cx X β W) [fa, fb] σ H fun vs H2 => match vs with
    | [x, y] => r x y H2 fun z H3 => ∃ k, z = .bl k ∧ (if k = true then tAF (cx X β W) fc σ H3 fun w' H4 => r' y w' H4 Q else Q (.bl false) H3)
    | _ => True
  refine tAs_run hl (U := []) (υ := []) .nil R q fun as vs U' υ' S1 H1 Hs1 p R1 g1 => ?_
  rw [List.append_nil, List.append_nil] at p
  split
  · rename_i x y
    cases ed : datL S1 as with
    | none => rw [ed] at g1; exact g1.elim
    | some ds =>
      rw [ed] at g1
      dsimp only at g1
      have vw := p.views (U0 := []) (υ0 := []) hl rfl R1 (datL_reverse ed)
      have vw1 : ViewL (cx X β W).K (cx X β W).w H1 Hs1 ds [x, y] := by simpa using vw.reverse
      split at g1
      · rename_i ef
        refine okf (U' ++ (T ++ S1)) (υ' ++ (τ ++ σ)) H1 Hs1 [x, y] ds _ _ R1 vw1 ef fun v H3 Hs3 R3 => ?_
        have R3' := Rep.tail R3
        obtain ⟨v', ev, qb⟩ := Rep.sh (i := 0) R3 rfl
        have : v = v' := by simpa using ev
        subst this
        cases (Den.bl.mp qb : v = .bl true)
        refine ⟨true, rfl, ?_⟩
        rw [if_pos rfl]
        show tAs (cx X β W) [fc] σ H3 fun vs H4 => match vs with
          | [w'] => r' y w' H4 Q
          | _ => True
        refine tAs_run hl p R3' g1 fun cs ws U2 υ2 S2 H4 Hs4 p2 R4 g4 => ?_
        split
        · rename_i w'
          split at g4
          · rename_i d0 d1 d2 ee
            split at g4
            · rename_i r0 er
              have ee' : datL S2 (cs.reverse ++ as.reverse) = some [d0, d1, d2].reverse := by
                have := datL_reverse ee
                rwa [List.reverse_append] at this
              have vw2 := p2.views (U0 := []) (υ0 := []) hl rfl R4 ee'
              have vw3 : ViewL (cx X β W).K (cx X β W).w H4 Hs4 [d0, d1, d2] [x, y, w'] := by simpa using vw2.reverse
              obtain ⟨_, _, e0, _, vw4⟩ := vw3.inv
              cases e0
              exact okg (T ++ S2) (τ ++ σ) H4 Hs4 [y, w'] [d1, d2] _ _ (Rep.dropU p2.len R4) vw4 er g4
            · exact g4.elim
          · exact g4.elim
        · trivial
      · rename_i ef
        refine okf (U' ++ (T ++ S1)) (υ' ++ (τ ++ σ)) H1 Hs1 [x, y] ds _ _ R1 vw1 ef fun v H3 Hs3 R3 => ?_
        have R3' := Rep.tail R3
        obtain ⟨v', ev, qb⟩ := Rep.sh (i := 0) R3 rfl
        have : v = v' := by simpa using ev
        subst this
        cases (Den.bl.mp qb : v = .bl false)
        refine ⟨false, rfl, ?_⟩
        rw [if_neg (by simp)]
        exact g1 _ _ _ (push_bl (Rep.dropU p.len R3'))
      · exact g1.elim
  · trivial
theorem pd_chain {op op' : CmpOp} {r r' : R2} {f g : List D → Option SV} {a b c : Expr} {fa fb fc : AF} {pos : Pos} (ho : OpR X (compareOp op) r) (ho' : OpR X (compareOp op') r') (okf : OkOp (cx X β W) (two r) f) (okg : OkOp (cx X β W) (two r') g)
    (ha : PF X β W a fa) (hb : PF X β W b fb) (hc : PF X β W c fc) (hm : lastMarks [op, op'] [b, c] = false) : PD X β W (.Compare a [op, op'] [b, c] pos) (chM f g fa fb fc) :=
  PE.imp (pe_chain ho ho' ha hb hc hm) fun _ _ _ h => chain_imp okf okg h
theorem ptd_chain {op op' : CmpOp} {r r' : R2} {f g : List D → Option SV} {a b c : Expr} {fa fb fc : AF} {pos : Pos} (ho : OpR X (compareOp op) r) (ho' : OpR X (compareOp op') r') (okf : OkOp (cx X β W) (two r) f) (okg : OkOp (cx X β W) (two r') g)
    (ha : PF X β W a fa) (hb : PF X β W b fb) (hc : PF X β W c fc) (hm : lastMarks [op, op'] [b, c] = false) : PTD X β W (.Compare a [op, op'] [b, c] pos) (asT (chM f g fa fb fc)) :=
  PT.imp (pt_chain ho ho' ha hb hc hm) fun _ _ _ q => by
    obtain ⟨S, T, τ, Hs, hl, R, g0⟩ := ptd_tD q
    exact chain_imp okf okg ⟨S, T, τ, Hs, hl, R, g0⟩
end
end Ev
end

section
set_option Elab.async false
set_option linter.all false
set_option maxRecDepth 100000
set_option maxHeartbeats 4000000
/-! Ev, part 23c: zip, enumerate, reversed. -/
namespace Ev
open PySem PySem.Spec PyProof.Rows L2
def zipI : List D → List D → List D
  | x :: xs, y :: ys => .prs [x, y] :: zipI xs ys
  | _, _ => []
theorem zipI_get : ∀ {xs ys : List D} {i : Nat} {d : D}, (zipI xs ys)[i]? = some d → ∃ x y, xs[i]? = some x ∧ ys[i]? = some y ∧ d = .prs [x, y]
  | x :: xs, y :: ys, 0, d, h => by
    have : D.prs [x, y] = d := by simpa [zipI] using h
    exact ⟨x, y, rfl, rfl, this.symm⟩
  | x :: xs, y :: ys, i + 1, d, h => by
    obtain ⟨a, b, h1, h2, h3⟩ := zipI_get (xs := xs) (ys := ys) (i := i) (d := d) (by simpa [zipI] using h)
    exact ⟨a, b, by simpa using h1, by simpa using h2, h3⟩
  | [], _, i, d, h => by simp [zipI] at h
  | _ :: _, [], i, d, h => by simp [zipI] at h
theorem zipI_len : ∀ {xs ys : List D} {i : Nat}, (zipI xs ys).length ≤ i → xs.length ≤ i ∨ ys.length ≤ i
  | x :: xs, y :: ys, 0, h => by simp [zipI] at h
  | x :: xs, y :: ys, i + 1, h => by
    have := zipI_len (xs := xs) (ys := ys) (i := i) (by simpa [zipI] using h)
    simpa using this
  | [], _, i, h => .inl (by simp)
  | _ :: _, [], i, h => .inr (by simp)
def isLs : SV → Option (List D)
  | .sh (.lst xs) => some xs
  | .ow (.l xs) => some xs
  | _ => none
def isTs : SV → Option (List D)
  | .sh (.tup xs) => some xs
  | _ => none
def wZip (f g : M SV) : M Walk := fun S => (f S).bind fun r S1 => (g S1).bind fun q S2 => match isLs r, isLs q with
  | some xs, some ys => .ok ⟨zipI xs ys, [q, r]⟩ S2
  | _, _ => (match isTs r, isTs q with
    | some xs, some ys => .ok ⟨zipI xs ys, [q, r]⟩ S2
    | _, _ => .stuck)
def enumI (n : Nat) : List D → List D
  | [] => []
  | x :: xs => .prs [.int (n : Nat), x] :: enumI (n + 1) xs
theorem enumI_get : ∀ {xs : List D} {n i : Nat} {d : D}, (enumI n xs)[i]? = some d → ∃ x, xs[i]? = some x ∧ d = .prs [.int ((n + i : Nat) : Int), x]
  | x :: xs, n, 0, d, h => by
    have : D.prs [.int (n : Nat), x] = d := by simpa [enumI] using h
    exact ⟨x, rfl, this.symm⟩
  | x :: xs, n, i + 1, d, h => by
    obtain ⟨a, h1, h2⟩ := enumI_get (xs := xs) (n := n + 1) (i := i) (d := d) (by simpa [enumI] using h)
    exact ⟨a, by simpa using h1, by rw [h2]; congr 3; omega⟩
  | [], _, i, d, h => by simp [enumI] at h
theorem enumI_len : ∀ {xs : List D} {n : Nat}, (enumI n xs).length = xs.length
  | [], _ => rfl
  | x :: xs, n => by simp [enumI, enumI_len (xs := xs)]
def wEnum (f : M SV) : M Walk := fun S => (f S).bind fun r S1 => match isLs r with
  | some xs => .ok ⟨enumI 0 xs, [r]⟩ S1
  | none => .stuck
def wRev (f : M SV) : M Walk := fun S => (f S).bind fun r S1 => match isLs r with
  | some xs => .ok ⟨xs.reverse, [r]⟩ S1
  | none => (match isTs r with
    | some xs => .ok ⟨xs.reverse, [r]⟩ S1
    | none => .stuck)
section
variable {C : Ct}
theorem isLs_dat {r : SV} {xs : List D} (h : isLs r = some xs) : r.dat? = some (.lst xs) := by
  unfold isLs at h
  split at h <;> cases h <;> rfl
theorem isTs_eq {r : SV} {xs : List D} (h : isTs r = some xs) : r = .sh (.tup xs) := by
  unfold isTs at h
  split at h <;> cases h; rfl
theorem viewLs {S : List SV} {σ : List (Option V)} {H Hs : Hp} {i : Nat} {r : SV} {xs : List D} (R : C.Rep S σ H Hs) (e : S[i]? = some r) (h : isLs r = some xs) : ∃ a vs, σ[i]? = some (some (.ref a)) ∧ SqL C.K H a vs ∧ DenL C.K C.w Hs xs vs := by
  obtain ⟨v, ev, q⟩ := Rep.view R e (isLs_dat h)
  obtain ⟨a, vs, rfl, q1, q2⟩ := q
  exact ⟨a, vs, ev, q1, q2⟩
theorem viewTs {S : List SV} {σ : List (Option V)} {H Hs : Hp} {i : Nat} {r : SV} {xs : List D} (R : C.Rep S σ H Hs) (e : S[i]? = some r) (h : isTs r = some xs) : ∃ a vs, σ[i]? = some (some (.ref a)) ∧ SqT C.K H a vs ∧ DenL C.K C.w Hs xs vs := by
  rw [isTs_eq h] at e
  obtain ⟨v, ev, q⟩ := Rep.view R e rfl
  obtain ⟨a, vs, rfl, q1, q2, _⟩ := q
  exact ⟨a, vs, ev, q1, q2⟩
/-- a pair is made at a turn -/
theorem pair_step {Y Z : List SV} {ξ : List (Option V)} {H Hs : Hp} {p : Addr} {x y : V} {d e : D} {U : List SV} {υ : List (Option V)} (R : C.Rep (U ++ Y) (υ ++ ξ) H Hs) (hp : H p = none) (qx : Den C.K C.w Hs d x) (qy : Den C.K C.w Hs e y) :
    ∃ Hs', C.Rep (U ++ Y) (υ ++ ξ) (upd H p (.tup [x, y])) Hs' ∧ Den C.K C.w Hs' (.prs [d, e]) (.ref p) ∧ ∀ Z ζ, C.Rep (Z ++ (U ++ Y)) (ζ ++ (υ ++ ξ)) H Hs → C.Rep (Z ++ (U ++ Y)) (ζ ++ (υ ++ ξ)) (upd H p (.tup [x, y])) Hs' := by
  have n := Rep.hs_none R hp
  refine ⟨upd Hs p (.tup [x, y]), Rep.new R hp, ?_, fun Z ζ R' => Rep.new R' hp⟩
  rw [Den]
  exact ⟨p, _, rfl, SqT.of upd_same, DenL.cons (qx.sub (Sub.upd n)) (DenL.cons (qy.sub (Sub.upd n)) DenL.nil)⟩
theorem iter_zip {r q : SV} {xs ys : List D} {a b : Addr} (hr : isLs r = some xs) (hq : isLs q = some ys) : IterOk C (Itz C.K a b) ⟨zipI xs ys, [q, r]⟩ [some (.ref b), some (.ref a)] := by
  intro i Y ξ H Hs R
  obtain ⟨b', vb, eb, sb, db⟩ := viewLs (i := 0) R rfl hq
  obtain ⟨a', va, ea, sa, da⟩ := viewLs (i := 1) R rfl hr
  have e1 : (some (some (V.ref b)) : Option (Option V)) = some (some (V.ref b')) := eb
  have e2 : (some (some (V.ref a)) : Option (Option V)) = some (some (V.ref a')) := ea
  cases e1; cases e2
  refine ⟨fun d hd => ?_, fun hl => ?_⟩
  · obtain ⟨x, y, hx, hy, rfl⟩ := zipI_get hd
    obtain ⟨vx, ex, qx⟩ := da.get hx
    obtain ⟨vy, ey, qy⟩ := db.get hy
    refine ⟨⟨va, vb, vx, vy, sa, sb, ex, ey⟩, fun z H' hz => ?_⟩
    obtain ⟨T, x', y', rfl, hT, rfl, h1, h2⟩ := hz
    have := h1 va sa
    rw [ex] at this; cases this
    have := h2 vb sb
    rw [ey] at this; cases this
    exact pair_step (Z := []) R hT qx qy
  · rcases zipI_len hl with z | z
    · exact ⟨va, vb, sa, sb, .inl (by rw [← da.len]; exact z)⟩
    · exact ⟨va, vb, sa, sb, .inr (by rw [← db.len]; exact z)⟩
theorem iter_zipT {r q : SV} {xs ys : List D} {a b : Addr} (hr : isTs r = some xs) (hq : isTs q = some ys) : IterOk C (RZ.ItzT C.K a b) ⟨zipI xs ys, [q, r]⟩ [some (.ref b), some (.ref a)] := by
  intro i Y ξ H Hs R
  obtain ⟨b', vb, eb, sb, db⟩ := viewTs (i := 0) R rfl hq
  obtain ⟨a', va, ea, sa, da⟩ := viewTs (i := 1) R rfl hr
  have e1 : (some (some (V.ref b)) : Option (Option V)) = some (some (V.ref b')) := eb
  have e2 : (some (some (V.ref a)) : Option (Option V)) = some (some (V.ref a')) := ea
  cases e1; cases e2
  refine ⟨fun d hd => ?_, fun hl => ?_⟩
  · obtain ⟨x, y, hx, hy, rfl⟩ := zipI_get hd
    obtain ⟨vx, ex, qx⟩ := da.get hx
    obtain ⟨vy, ey, qy⟩ := db.get hy
    refine ⟨⟨va, vb, vx, vy, sa, sb, ex, ey⟩, fun z H' hz => ?_⟩
    obtain ⟨T, x', y', rfl, hT, rfl, h1, h2⟩ := hz
    have := h1 va sa
    rw [ex] at this; cases this
    have := h2 vb sb
    rw [ey] at this; cases this
    exact pair_step (Z := []) R hT qx qy
  · rcases zipI_len hl with z | z
    · exact ⟨va, vb, sa, sb, .inl (by rw [← da.len]; exact z)⟩
    · exact ⟨va, vb, sa, sb, .inr (by rw [← db.len]; exact z)⟩
theorem iter_enum {r : SV} {xs : List D} {a : Addr} (hr : isLs r = some xs) : IterOk C (Ite C.K a) ⟨enumI 0 xs, [r]⟩ [some (.ref a)] := by
  intro i Y ξ H Hs R
  obtain ⟨a', va, ea, sa, da⟩ := viewLs (i := 0) R rfl hr
  have e2 : (some (some (V.ref a)) : Option (Option V)) = some (some (V.ref a')) := ea
  cases e2
  refine ⟨fun d hd => ?_, fun hl => ⟨va, sa, by rw [← da.len, ← enumI_len (n := 0)]; exact hl⟩⟩
  obtain ⟨x, hx, rfl⟩ := enumI_get hd
  obtain ⟨vx, ex, qx⟩ := da.get hx
  refine ⟨⟨va, vx, sa, ex⟩, fun z H' hz => ?_⟩
  obtain ⟨T, x', rfl, hT, rfl, h1⟩ := hz
  have := h1 va sa
  rw [ex] at this; cases this
  rw [Nat.zero_add]
  exact pair_step (Z := []) R hT (Den.int.mpr rfl) qx
theorem rev_get {α : Type} {xs : List α} {i : Nat} {x : α} (h : xs.reverse[i]? = some x) : i < xs.length ∧ xs[xs.length - 1 - i]? = some x := by
  have hi : i < xs.length := by have := (List.getElem?_eq_some_iff.mp h).1; simpa using this
  rw [List.getElem?_reverse hi] at h
  exact ⟨hi, h⟩
theorem iter_rev {r : SV} {xs : List D} {a : Addr} {n : Nat} (hn : n = xs.length) (hr : isLs r = some xs) : IterOk C (Itv C.K a n) ⟨xs.reverse, [r]⟩ [some (.ref a)] := by
  refine iter_still fun i Y ξ H Hs R => ?_
  obtain ⟨a', va, ea, sa, da⟩ := viewLs (i := 0) R rfl hr
  have e2 : (some (some (V.ref a)) : Option (Option V)) = some (some (V.ref a')) := ea
  cases e2
  refine ⟨fun d hd => ?_, fun hl => by subst hn; show xs.length ≤ i; simpa using hl⟩
  obtain ⟨h1, h2⟩ := rev_get hd
  obtain ⟨vx, ex, qx⟩ := da.get h2
  subst hn
  refine ⟨⟨h1, va, vx, sa, ex⟩, fun z H' hz => ?_⟩
  obtain ⟨rfl, hz⟩ := hz
  have := hz va sa
  rw [ex] at this; cases this
  exact ⟨rfl, qx⟩
theorem iter_revT {r : SV} {xs : List D} {a : Addr} {n : Nat} (hn : n = xs.length) (hr : isTs r = some xs) : IterOk C (RT.ItvT C.K a n) ⟨xs.reverse, [r]⟩ [some (.ref a)] := by
  refine iter_still fun i Y ξ H Hs R => ?_
  obtain ⟨a', va, ea, sa, da⟩ := viewTs (i := 0) R rfl hr
  have e2 : (some (some (V.ref a)) : Option (Option V)) = some (some (V.ref a')) := ea
  cases e2
  refine ⟨fun d hd => ?_, fun hl => by subst hn; show xs.length ≤ i; simpa using hl⟩
  obtain ⟨h1, h2⟩ := rev_get hd
  obtain ⟨vx, ex, qx⟩ := da.get h2
  subst hn
  refine ⟨⟨h1, va, vx, sa, ex⟩, fun z H' hz => ?_⟩
  obtain ⟨rfl, hz⟩ := hz
  have := hz va sa
  rw [ex] at this; cases this
  exact ⟨rfl, qx⟩
end
section
variable {X : Cx} {β : Nat → Addr} {W : WX}
theorem pid_zip {e e2 : Expr} {f g : M SV} {p pos tpos : Pos} {elts : List Expr} {kk : Nat} (hg : Gl X "zip") (hm : X.mg "zip" = none) (h1 : PD X β W e f) (h2 : PD X β W e2 g) (s1 : isStar e = false) (s2 : isStar e2 = false) :
    PId X β W (.Tuple elts kk tpos) (.Call (.Name "zip" p) [e, e2] [] pos) (wZip f g) := by
  have hA : PA X [e, e2] (tCons (tD (cx X β W) f) (tCons (tD (cx X β W) g) tNil)) := pa_cons h1 (pa_cons h2 pa_nil (star_cons s2)) (star_cons s1)
  refine PI.imp (RZ.pi_zipA hg hm hA (star_cons s1) (by rw [star_cons s2]; rfl)) fun σ H R0 ⟨S, T, τ, Hs, hl, R, q⟩ => ?_
  refine tD_bind (U := []) (υ := []) rfl hl R q fun r S1 v H1 Hs1 R1 g1 => ?_
  refine tD_bind (U := [r]) (υ := [some v]) rfl hl R1 g1 fun r2 S2 w H2 Hs2 R2 g2 => ?_
  have R2' : (cx X β W).Rep ([r2, r] ++ (T ++ S2)) ([some w, some v] ++ (τ ++ σ)) H2 Hs2 := R2
  split at g2
  · rename_i xs ys ex ey
    obtain ⟨b, vb, eb, sb, db⟩ := viewLs (i := 0) R2' rfl ey
    obtain ⟨a, va, ea, sa, da⟩ := viewLs (i := 1) R2' rfl ex
    have e1 : (some (some w) : Option (Option V)) = some (some (V.ref b)) := eb
    have e2' : (some (some v) : Option (Option V)) = some (some (V.ref a)) := ea
    cases e1; cases e2'
    exact ⟨a, b, va, vb, rfl, .inl ⟨sa, sb, g2 [some (.ref b), some (.ref a)] _ H2 Hs2 rfl R2' (iter_zip ex ey)⟩⟩
  · split at g2
    · rename_i xs ys ex ey
      obtain ⟨b, vb, eb, sb, db⟩ := viewTs (i := 0) R2' rfl ey
      obtain ⟨a, va, ea, sa, da⟩ := viewTs (i := 1) R2' rfl ex
      have e1 : (some (some w) : Option (Option V)) = some (some (V.ref b)) := eb
      have e2' : (some (some v) : Option (Option V)) = some (some (V.ref a)) := ea
      cases e1; cases e2'
      exact ⟨a, b, va, vb, rfl, .inr ⟨sa, sb, g2 [some (.ref b), some (.ref a)] _ H2 Hs2 rfl R2' (iter_zipT ex ey)⟩⟩
    · exact g2.elim
theorem pid_enum {e : Expr} {f : M SV} {p pos tpos : Pos} {elts : List Expr} {kk : Nat} (hg : Gl X "enumerate") (hm : X.mg "enumerate" = none) (h1 : PD X β W e f) (s1 : isStar e = false) :
    PId X β W (.Tuple elts kk tpos) (.Call (.Name "enumerate" p) [e] [] pos) (wEnum f) := by
  have hA : PA X [e] (tCons (tD (cx X β W) f) tNil) := pa_cons h1 pa_nil (star_cons s1)
  refine PI.imp (pi_enum hg hm hA (star_cons s1)) fun σ H R0 ⟨S, T, τ, Hs, hl, R, q⟩ => ?_
  refine tD_bind (U := []) (υ := []) rfl hl R q fun r S1 v H1 Hs1 R1 g1 => ?_
  have R1' : (cx X β W).Rep ([r] ++ (T ++ S1)) ([some v] ++ (τ ++ σ)) H1 Hs1 := R1
  split at g1
  · rename_i xs ex
    obtain ⟨a, va, ea, sa, da⟩ := viewLs (i := 0) R1' rfl ex
    have e1 : (some (some v) : Option (Option V)) = some (some (V.ref a)) := ea
    cases e1
    exact ⟨a, va, rfl, sa, g1 [some (.ref a)] _ H1 Hs1 rfl R1' (iter_enum ex)⟩
  · exact g1.elim
theorem pid_rev {tg e : Expr} {f : M SV} {p pos : Pos} (hg : Gl X "reversed") (hm : X.mg "reversed" = none) (h1 : PD X β W e f) (s1 : isStar e = false) :
    PId X β W tg (.Call (.Name "reversed" p) [e] [] pos) (wRev f) := by
  refine PI.imp (RT.pi_revA hg hm h1 (star_cons s1)) fun σ H R0 ⟨S, T, τ, Hs, hl, R, q⟩ => ?_
  refine tD_bind (U := []) (υ := []) rfl hl R q fun r S1 v H1 Hs1 R1 g1 => ?_
  have R1' : (cx X β W).Rep ([r] ++ (T ++ S1)) ([some v] ++ (τ ++ σ)) H1 Hs1 := R1
  split at g1
  · rename_i xs ex
    obtain ⟨a, va, ea, sa, da⟩ := viewLs (i := 0) R1' rfl ex
    have e1 : (some (some v) : Option (Option V)) = some (some (V.ref a)) := ea
    cases e1
    exact ⟨a, va, rfl, .inl ⟨sa, g1 [some (.ref a)] _ H1 Hs1 rfl R1' (iter_rev da.len.symm ex)⟩⟩
  · split at g1
    · rename_i xs ex
      obtain ⟨a, va, ea, sa, da⟩ := viewTs (i := 0) R1' rfl ex
      have e1 : (some (some v) : Option (Option V)) = some (some (V.ref a)) := ea
      cases e1
      exact ⟨a, va, rfl, .inr ⟨sa, g1 [some (.ref a)] _ H1 Hs1 rfl R1' (iter_revT da.len.symm ex)⟩⟩
    · exact g1.elim
end
end Ev
end

section
set_option Elab.async false
set_option linter.all false
set_option maxRecDepth 100000
set_option maxHeartbeats 4000000
/-! Ev, part 23d: x[::-1]. -/
namespace Ev
open PySem PySem.Spec PyProof.Rows L2
theorem fm_congr {α β : Type} {f g : α → Option β} : ∀ (l : List α), (∀ x ∈ l, f x = g x) → l.filterMap f = l.filterMap g
  | [], _ => rfl
  | x :: l, h => by
    rw [List.filterMap_cons, List.filterMap_cons, h x List.mem_cons_self, fm_congr l fun y hy => h y (List.mem_cons_of_mem _ hy)]
section
variable {prog : Program} {w : World} {A : Around} {E : Value → Shared → Prop} {s : Shared}
theorem adjust_rev (n : Nat) : Builtin.Slice.sliceAdjust none none (-1) (n : Int) = ((n : Int) - 1, -1) := by
  unfold Builtin.Slice.sliceAdjust
  simp
theorem places_rev (n : Nat) : Builtin.Slice.slicePlaces ((n : Int) - 1) (-1) (-1) = n := by
  unfold Builtin.Slice.slicePlaces
  have h1 : ¬ ((-1 : Int) > 0) := by omega
  simp only [h1, if_false]
  by_cases h : n = 0
  · subst h; simp
  · rw [if_pos (by omega)]
    simp
theorem sliceApplied_rev {sl : Addr} {vl vu vs : Value} {n : Nat} {Q : Int × Int × Nat → Shared → Prop} (hs : s.heap.IsSliceOf sl vl vu vs) (pl : IsPart vl none) (pu : IsPart vu none) (ps : IsPart vs (some (-1)))
    (h : Q ((n : Int) - 1, -1, n) s) : wpAny (model prog w) A (Builtin.Slice.sliceApplied (.ref sl) (pure (n : Int))) Q E s := by
  obtain ⟨os, hos, hcs, hds⟩ := id hs
  unfold Builtin.Slice.sliceApplied Builtin.Slice.sliceFields
  refine wpAny_bind (wpAny_bind (wpAny_field hos hds (x := vl) rfl (wpAny_bind (wpAny_field hos hds (x := vu) rfl (wpAny_bind (wpAny_field hos hds (x := vs) rfl (wpAny_pure ?_)))))))
  refine wpAny_bind (HT.slicePart_ ps ?_)
  show wpAny _ _ (if ((-1 : Int) == 0) = true then _ else _) _ _ s
  rw [if_neg (by decide)]
  refine wpAny_bind (HT.slicePart_ pl (wpAny_bind (HT.slicePart_ pu (wpAny_bind (wpAny_pure ?_)))))
  show wpAny _ _ (match Builtin.Slice.sliceAdjust none none (-1) (n : Int) with | (lo, hi) => pure (lo, (-1 : Int), Builtin.Slice.slicePlaces lo hi (-1))) _ _ s
  rw [adjust_rev n]
  show wpAny _ _ (pure ((n : Int) - 1, (-1 : Int), Builtin.Slice.slicePlaces ((n : Int) - 1) (-1) (-1))) _ _ s
  rw [places_rev]
  exact wpAny_pure h
theorem pick_rev (xs : Array Value) : ((List.range xs.size).filterMap fun (m : Nat) => xs[((xs.size : Int) - 1 + (m : Int) * (-1)).toNat]?).toArray = xs.toList.reverse.toArray := by
  have e : (List.range xs.size).filterMap (fun (m : Nat) => xs[((xs.size : Int) - 1 + (m : Int) * (-1)).toNat]?) = ((List.range xs.size).map fun k => xs.size - 1 - k).filterMap (xs[·]?) := by
    rw [List.filterMap_map]
    refine fm_congr _ fun m hm => ?_
    have : m < xs.size := List.mem_range.mp hm
    show xs[((xs.size : Int) - 1 + (m : Int) * (-1)).toNat]? = xs[xs.size - 1 - m]?
    congr 1
    omega
  rw [e, PySem.W.krv_range, List.filterMap_reverse, PySem.W.krv_all]
theorem getItem_tuple_rev {t sl : Addr} {items : Array Value} {vl vu vs : Value} {Q : Value → Shared → Prop} (ht : IsTup s.heap t items) (hs : s.heap.IsSliceOf sl vl vu vs) (pl : IsPart vl none) (pu : IsPart vu none) (ps : IsPart vs (some (-1)))
    (h : Q (.ref s.heap.objs.size) { s with heap := s.heap.push { cls := .type "tuple", data := .seq items.toList.reverse.toArray } })
    (hsz : items.size ≤ sizeLine) : wpAny (model prog w) A (getItem (.ref t) (.ref sl)) Q E s := by
  have htake : sizeOk (.seq items.toList.reverse.toArray) := by
    show items.toList.reverse.toArray.size ≤ sizeLine
    rw [List.size_toArray, List.length_reverse, Array.length_toList]
    exact hsz
  obtain ⟨os, hos, hcs, hds⟩ := id hs
  have hTs : s.TypeIs (.ref sl) "slice" := ⟨os, hos, hcs⟩
  unfold getItem
  try with_reducible refine wpAny_holding ?_
  first | refine wpAny_bind (wpAny_pure ?_) | skip
  refine wpAny_bind (wpAny_sequenceKey ht.typeIs (by decide) ?_)
  refine wpAny_bind (wpAny_callSpecial?_slot (name := Str.ofString "__getitem__") ht.typeIs PyProof.Rows.slot_tuple_getitem
    (wpAny_call_entry PyProof.Rows.slot_tuple_getitem ht.typeIs entry_tuple_getitem ?_ (args_tuple_getitem _ _)))
  show wpAny _ _ (Builtin.Tuple.tupleItemsOf (.ref t) >>= _) _ _ s
  refine wpAny_bind (tupleItemsOf_ ht ?_)
  refine wpAny_bind (wpAny_typeOf hTs ?_)
  rw [if_pos (by decide)]
  refine wpAny_bind (sliceApplied_rev hs pl pu ps ?_)
  have hno : ¬ ((((items.size : Int) - 1) == 0 && (-1 : Int) == 1 && items.size == items.size) = true) := by
    intro q
    rw [Bool.and_eq_true, Bool.and_eq_true] at q
    exact absurd q.1.2 (by decide)
  show wpAny _ _ (if (((items.size : Int) - 1) == 0 && (-1 : Int) == 1 && items.size == items.size) = true then _ else _) _ _ s
  rw [if_neg hno, pick_rev]
  first
    | exact wpAny_bind (m := Builtin.Tuple.tupleExact _) (wpAny_newObj_type (wpAny_pure ⟨_, rfl, wpAny_pure h⟩) htake)
    | exact wpAny_bind (m := Builtin.Tuple.tupleExact _) (wpAny_newObj_type (wpAny_bind (wpAny_pure (wpAny_pure ⟨_, rfl, wpAny_pure h⟩))) htake)
    | exact wpAny_bind (wpAny_bind (m := Builtin.Tuple.tupleExact _) (wpAny_newObj_type (wpAny_pure (wpAny_pure ⟨_, rfl, wpAny_pure h⟩)) htake))
    | exact wpAny_bind (wpAny_bind (m := Builtin.Tuple.tupleExact _) (wpAny_newObj_type (wpAny_pure ⟨_, rfl, wpAny_pure h⟩) htake))
end
def revS (z : Str) : Str := ⟨z.cps.toList.reverse.toArray⟩
theorem sidx_rev (z : Str) : ((Builtin.Str.strSliceIndices none none (-1) z.length).filterMap (z.cps[·]?)) = z.cps.toList.reverse := by
  have e : Builtin.Str.strSliceIndices none none (-1) z.length = sliceRange ((z.cps.size : Int) - 1) (-1) (-1) := by
    unfold Builtin.Str.strSliceIndices
    rfl
  rw [e, PySem.W.krv_sliceRange, PySem.W.krv_range, List.filterMap_reverse, PySem.W.krv_all]
def rRev (K : PySem.W.Frag) : V → Hp → VK → Prop := fun x H Q => (∃ a xs, x = .ref a ∧ SqL K H a xs ∧ ∀ p, H p = none → Q (.ref p) (upd H p (.lst xs.reverse))) ∨
  ((∃ a xs, x = .ref a ∧ SqT K H a xs ∧ NwT H Q xs.reverse) ∨ ∃ z, x = .str z ∧ z.length ≤ sizeLine ∧ Q (.str (revS z)) H)
def tRevA (K : PySem.W.Frag) (te : TE) : TE := fun σ H Q => te σ H fun x H1 => rRev K x H1 Q
theorem pe_revX {X : Cx} {e : Expr} {te : TE} {k : Nat} {p1 p2 p3 pos : Pos} (he : PE X e te) : PE X (.Subscript e (.Slice none none (some (.UnaryOp .USub (.Constant (.int 1) k p1) p2)) p3) pos) (tRevA X.K te) := by
  refine ⟨fun pins s σ H Q I h => ?_⟩
  refine Subscript_ (thn (he.run pins s σ H _ I h) fun v s1 ⟨x, H1, I1, r1, q1⟩ => ?_)
  have hst : PO X (some (.UnaryOp .USub (.Constant (.int 1) k p1) p2)) (tPart (tUn (rU fun i => .int (-i)) (tC (.int 1)))) := po_some (pe_un un_neg pe_int)
  refine wpAny_Slice (thn (po_none.run pins s1 σ H1 (fun o H2 => o = none ∧ H2 = H1) I1 ⟨rfl, rfl⟩) fun vl s2 ⟨l, H2, I2, pl, el, e2⟩ => ?_)
  subst el e2
  refine thn (po_none.run pins s2 σ H2 (fun o H3 => o = none ∧ H3 = H2) I2 ⟨rfl, rfl⟩) fun vu s3 ⟨u, H3, I3, pu, eu, e3⟩ => ?_
  subst eu e3
  refine thn (hst.run pins s3 σ H3 (fun o H4 => o = some (-1) ∧ H4 = H3) I3 ⟨1, rfl, -1, rfl, rfl, rfl⟩) fun vs s4 ⟨o, H4, I4, ps, eo, e4⟩ => ?_
  subst eo e4
  have I5 : Inv X pins σ H4 { s4 with heap := s4.heap.push { cls := .type "slice", data := .fields #[vl, vu, vs] } } := I4.kept (t' := s4.toks) fun b ob q => Heap.get?_push_of_some _ q
  rcases q1 with ⟨a, xs, ex, hx, q⟩ | ⟨a, xs, ex, hx, q⟩ | ⟨z, ex, hz, q⟩
  · subst ex
    cases r1
    obtain ⟨its, r, ht, hz⟩ := I5.list hx
    have hlen := r.length
    show wpAny (model X.prog X.w) X.A (subscriptTail e (.Slice none none (some (.UnaryOp .USub (.Constant (.int 1) k p1) p2)) p3) (.ref a) (.ref s4.heap.objs.size)) (EP X pins σ Q) X.xe { s4 with heap := s4.heap.push { cls := .type "slice", data := .fields #[vl, vu, vs] } }
    refine tail_any (ops := [.ref a, .ref s4.heap.objs.size]) ht.isList.typeIs (PySem.slot_list_getitem.lookup) ?_ (by with_unfolding_all rfl)
    refine wpAny_getItem_list_slice ht.isList (Heap.IsSliceOf.new _ vl vu vs) pl pu ps (by decide) ?_ (by rw [List.size_toArray]; omega)
    rw [PySem.W.krv_pick]
    refine ⟨.ref _, _, I5.laid (t' := s4.toks) (o := .lst xs.reverse) (fun b ob q => Heap.get?_push_of_some _ q) (Nat.le_refl _) ?_, rfl, q _ (I5.hok.fresh (Nat.le_refl _))⟩
    exact ⟨by rw [List.length_reverse]; exact hz, _, 0, r.reverse, Heap.get?_push_size _ rfl⟩
  · subst ex
    cases r1
    obtain ⟨its, r, ht, hz⟩ := I5.tuple hx
    have hlen := r.length
    show wpAny (model X.prog X.w) X.A (subscriptTail e (.Slice none none (some (.UnaryOp .USub (.Constant (.int 1) k p1) p2)) p3) (.ref a) (.ref s4.heap.objs.size)) (EP X pins σ Q) X.xe { s4 with heap := s4.heap.push { cls := .type "slice", data := .fields #[vl, vu, vs] } }
    refine tail_any (ops := [.ref a, .ref s4.heap.objs.size]) ht.typeIs (PyProof.Rows.slot_tuple_getitem.lookup) ?_ (by with_unfolding_all rfl)
    refine getItem_tuple_rev ht (Heap.IsSliceOf.new _ vl vu vs) pl pu ps ?_ (by rw [List.size_toArray]; omega)
    exact nwt_ok I5 r.reverse (by rw [List.length_reverse]; exact hz) q
  · subst ex
    obtain ⟨t, rfl⟩ := r1
    show wpAny (model X.prog X.w) X.A (subscriptTail e (.Slice none none (some (.UnaryOp .USub (.Constant (.int 1) k p1) p2)) p3) (.str z t) (.ref s4.heap.objs.size)) (EP X pins σ Q) X.xe { s4 with heap := s4.heap.push { cls := .type "slice", data := .fields #[vl, vu, vs] } }
    refine tail_any (ops := [.str z t, .ref s4.heap.objs.size]) (typeIs_str _ _ _) F.slot_str_getitem.lookup ?_ (by with_unfolding_all rfl)
    obtain ⟨l', rfl, hl'⟩ := IsPart.raw pl
    obtain ⟨u', rfl, hu'⟩ := IsPart.raw pu
    obtain ⟨w', rfl, hw'⟩ := IsPart.raw ps
    refine wpAny_getItem_str_slice (l := l') (u := u') (st := w') (Heap.IsSliceOf.new _ _ _ _) (by rw [hw']; rfl) ?_
    have e1 : l'.map (·.1) = none := hl'
    have e2 : u'.map (·.1) = none := hu'
    have e3 : w'.map (·.1) = some (-1) := hw'
    unfold sliceMade slicePicked
    rw [e1, e2, e3]
    show Made.post (if ((-1 : Int) == 1 && (Builtin.Str.strSliceIndices none none (-1) z.length).length == z.length) = true then Made.val (.str z t)
      else Made.str ⟨((Builtin.Str.strSliceIndices none none (-1) z.length).filterMap (z.cps[·]?)).toArray⟩) (EP X pins σ Q) _
    rw [if_neg (by simp), sidx_rev]
    refine ⟨?_, .str _, H4, I5.tok _, ⟨_, rfl⟩, q⟩
    show z.cps.toList.reverse.toArray.size ≤ sizeLine
    rw [List.size_toArray, List.length_reverse, Array.length_toList]
    exact hz
/-! ### on data -/
def revD : List D → Option SV
  | [.lst xs] => some (.ow (.l xs.reverse))
  | [.tup xs] => some (.sh (.tup xs.reverse))
  | [.str z] => if z.length ≤ sizeLine then some (.sh (.str (revS z))) else none
  | _ => none
theorem ok_rev {C : Ct} : OkOp C (onee (rRev C.K)) revD := ok_one (fun T τ H Hs x a sv Q R v1 e hq => by
  unfold revD at e
  split at e
  · rename_i xs h
    cases h
    cases e
    obtain ⟨p, us, rfl, s1, d1⟩ := v1
    exact .inl ⟨p, us, rfl, s1, fun l hl => hq _ _ _ (Rep.new_lst R hl d1.reverse)⟩
  · rename_i xs h
    cases h
    cases e
    obtain ⟨p, us, rfl, s1, d1, _⟩ := v1
    exact .inr (.inl ⟨p, us, rfl, s1, fun l ob ho hl => hq _ _ _ (Rep.new_tup R ho hl d1.reverse)⟩)
  · rename_i z h
    cases h
    split at e
    · rename_i hz
      cases e
      cases v1.isStr
      exact .inr (.inr ⟨z, rfl, hz, hq _ _ _ (Rep.push_sh R (Den.str.mpr rfl))⟩)
    · cases e
  · cases e) fun ds sv e => by unfold revD at e; split at e <;> first | exact ⟨_, rfl⟩ | cases e
theorem pd_rev {X : Cx} {β : Nat → Addr} {W : WX} {e : Expr} {f : AF} {k : Nat} {p1 p2 p3 pos : Pos} (he : PF X β W e f) : PD X β W (.Subscript e (.Slice none none (some (.UnaryOp .USub (.Constant (.int 1) k p1) p2)) p3) pos) (opM revD [f]) :=
  PE.imp (pe_revX he) fun σ H Q h => tAs_op (r := onee (rRev X.K)) ok_rev h
end Ev
end

section
set_option Elab.async false
set_option linter.all false
set_option maxRecDepth 100000
set_option maxHeartbeats 4000000
/-! Ev, part 23e: reversed of a text (turned from the kit's rule for tuples). -/
namespace Ev
open PySem PySem.Spec PyProof.Rows L2 RT
theorem norev_str : typeLookup (.type "str") "__reversed__" = pure none := by rw [typeLookup_type, builtinLookup_eq_fast]; kernel_rfl
theorem get_str : typeLookup (.type "str") "__getitem__" = pure (some (.builtin "str.__getitem__")) := by rw [typeLookup_type, builtinLookup_eq_fast]; kernel_rfl
def rsObj (x : Str) (t : Tok) (i : Int) : Obj := { cls := .type "reversed", data := .fields #[.str x t, rawInt i] }
/-- reversed(x), the next place i -/
def IsRs (h : Heap) (a : Addr) (x : Str) (t : Tok) (i : Int) : Prop := ∃ o, h.get? a = some o ∧ o.cls = .type "reversed" ∧ o.data = .fields #[.str x t, rawInt i]
theorem IsRs.at {h h' : Heap} {a : Addr} {x : Str} {t : Tok} {i : Int} (q : IsRs h a x t i) (e : ∀ o, h.get? a = some o → h'.get? a = some o) : IsRs h' a x t i := let ⟨o, ho, r⟩ := q; ⟨o, e _ ho, r⟩
section
variable {prog : Program} {w : World} {A : Around} {E : Value → Shared → Prop} {s : Shared}
theorem IsRs.typeIs {a : Addr} {x : Str} {t : Tok} {i : Int} (q : IsRs s.heap a x t i) : s.TypeIs (.ref a) "reversed" := let ⟨o, ho, hc, _⟩ := q; ⟨o, ho, hc⟩
theorem code_reversed_str {x : Str} {t : Tok} {Q₁ : Value → Shared → Prop} (hz : x.length ≤ sizeLine)
    (h : Q₁ (.ref s.heap.objs.size) { s with heap := s.heap.push (rsObj x t ((x.length : Int) - 1)), toks := s.toks + 1 + 1 }) :
    codeAny (model prog w) A (.call (.builtin "reversed.__new__") ⟨[.type "reversed", .str x t], []⟩) (wants Q₁ E) s := by
  have hT : s.TypeIs (.str x t) "str" := typeIs_str s x t
  have h63 := line63
  refine codeAny_of_tree ?_
  show wpAny _ A.in1 (do checkBuiltinCall "reversed.__new__" ⟨[.type "reversed", .str x t], []⟩; again (.builtin "reversed.__new__" ⟨[.type "reversed", .str x t], []⟩)) _ _ s
  refine wpAny_bind (wpAny_of_eq (F.newCall_reversed_1 _) (wpAny_pure ⟨plainId_quiet F.plain_reversed_new _, codeAny_builtin F.entry_reversed_new ?_⟩))
  rw [Around.under_plainId F.plain_reversed_new _]
  unfold Builtin.«reversed.__new__»
  refine wpAny_bind (wpAny_of_eq (newClass_reversed _) ?_)
  try dsimp only
  refine wpAny_bind (wpAny_of_eq (a := ()) (by first | rfl | kernel_rfl) ?_)
  try dsimp only
  refine wpAny_bind (wpAny_of_eq (a := ()) (by first | rfl | kernel_rfl) ?_)
  try dsimp only
  refine wpAny_bind (wpAny_specialOf hT norev_str ?_)
  try dsimp only
  refine wpAny_bind ?_
  wp_delta
  refine wpAny_bind (wpAny_isInstance (T := "str") (U := "dict") (b := false) hT PySem.F.sub_str_dict ?_)
  try dsimp only
  try rw [if_neg Bool.false_ne_true]
  try dsimp only
  refine wpAny_bind (wpAny_specialOf hT get_str ?_)
  try dsimp only
  try rw [if_pos (by decide +kernel)]
  refine wpAny_pure ?_
  try dsimp only
  try rw [if_neg (by decide)]
  try dsimp only
  refine wpAny_bind (PySem.P.len_str (by omega) ?_)
  refine wpAny_bind (wpAny_of_eq (a := some ((x.length : Nat) : Int)) rfl ?_)
  try dsimp only
  refine wpAny_bind ?_
  show wpAny _ _ (newObj (.type "reversed") (.fields #[.str x t, rawInt ((x.length : Int) - 1)])) _ _ _
  refine wpAny_newObj_type ?_
  exact wpAny_pure h
theorem call_reversed_str {x : Str} {t : Tok} {Q : Value → Shared → Prop} (hz : x.length ≤ sizeLine)
    (h : Q (.ref s.heap.objs.size) { s with heap := s.heap.push (rsObj x t ((x.length : Int) - 1)), toks := s.toks + 1 + 1 }) : wpAny (model prog w) A (call (.type "reversed") [.str x t]) Q E s := by
  refine callType_codes (Q₁ := fun obj s₁ => s₁.TypeIs obj "reversed" ∧ Q obj s₁) called_rt (F.typeCall_reversed_1 _) F.entry_object_init
    (code_reversed_str (A := A.in1) hz ⟨⟨_, Heap.get?_push_size _ rfl, rfl⟩, h⟩) fun obj s₁ h₁ => ?_
  exact ⟨h₁.1, F.args_object_init_2 obj _, object_init_meets called_rt.init.lookup called_rt.made (by decide) prog w A.in1 _ s₁ ⟨h₁.1, rfl, h₁.2⟩⟩
theorem next_rs_item {it : Addr} {x : Str} {t : Tok} {i : Nat} {c : Nat} {Q : Option Value → Shared → Prop} (hit : IsRs s.heap it x t (i : Int)) (hx : x.cps[i]? = some c) (hsz : x.length ≤ sizeLine)
    (hQ : ∀ h' u k, IsRs h' it x t ((i : Int) - 1) → Heap.SameBut it s.heap h' → Q (some (.str ⟨#[c]⟩ u)) { s with heap := h', toks := k }) : wpAny (model prog w) A (pyNext (.ref it)) Q E s := by
  obtain ⟨o, ho, hc, hd⟩ := id hit
  have hi : i < x.cps.size := (Array.getElem?_eq_some_iff.mp hx).1
  have hl : x.length = x.cps.size := rfl
  have hT : s.TypeIs (.str x t) "str" := typeIs_str s x t
  rw [sizeLine_eq] at hsz
  unfold pyNext
  refine wpAny_bind (wpAny_attempt (wpAny_callSpecial?_slot (name := Str.ofString "__next__") hit.typeIs slot_rt_next
    (wpAny_call_entry slot_rt_next hit.typeIs entry_rt_next ?_ (args_rt_next _))))
  unfold Builtin.«reversed.__next__»
  refine wpAny_bind (wpAny_of_eq (a := (Value.ref it, [])) rfl ?_)
  try dsimp only
  refine wpAny_bind (wpAny_field ho hd (x := .str x t) rfl ?_)
  try dsimp only
  refine wpAny_bind (wpAny_field ho hd (x := rawInt (i : Int)) rfl ?_)
  show wpAny _ _ (if (i : Int) < 0 then _ else _) _ _ s
  rw [if_neg (by omega)]
  try dsimp only
  refine wpAny_bind (wpAny_specialOf hT get_str ?_)
  try dsimp only
  try rw [if_neg (by decide)]
  try dsimp only
  refine wpAny_bind (wpAny_mkInt ?_)
  refine wpAny_bind (wpAny_attempt ?_)
  have fin : seqIndex? (i : Int) x.length = some i := seqIndex_of (by omega) (by omega)
  refine PySem.P.getItem_str (s := { s with toks := s.toks + 1 }) (c := c) (by
    have e1 : decide ((i : Int) < -(2 ^ 63 : Int)) = false := decide_eq_false (by omega)
    have e2 : decide ((i : Int) ≥ 2 ^ 63) = false := decide_eq_false (by omega)
    rw [e1, e2, Bool.or_false]) (by rw [fin]; exact hx) ?_
  try dsimp only
  refine wpAny_bind (wpAny_field (s := { s with toks := s.toks + 1 + 1 }) ho hd (x := rawInt (i : Int)) rfl ?_)
  try dsimp only
  refine wpAny_bind (wpAny_setField (s := { s with toks := s.toks + 1 + 1 }) ho hd (by simp) ?_)
  first
  | refine wpAny_pure ⟨_, rfl, wpAny_pure (hQ _ _ _ ?_ (Heap.SameBut.update ..))⟩
  | refine wpAny_bind (wpAny_pure (wpAny_pure ⟨_, rfl, wpAny_pure (hQ _ _ _ ?_ (Heap.SameBut.update ..))⟩))
  exact ⟨_, Heap.get?_update_self _ ho (Obj.isFreed_of_fields (Obj.data_mapFields hd _)), (Obj.cls_mapFields ..).trans hc, by
    rw [Obj.data_mapFields hd]; simp⟩
theorem next_rs_end {it : Addr} {x : Str} {t : Tok} {Q : Option Value → Shared → Prop} (hh : A.handled = none) (hit : IsRs s.heap it x t (-1))
    (hQ : ∀ h', Heap.ExtBut it s.heap h' → Q none { s with heap := h' }) : wpAny (model prog w) A (pyNext (.ref it)) Q E s := by
  obtain ⟨o, ho, hc, hd⟩ := id hit
  unfold pyNext
  refine wpAny_bind (wpAny_attempt (wpAny_callSpecial?_slot (name := Str.ofString "__next__") hit.typeIs slot_rt_next
    (wpAny_call_entry slot_rt_next hit.typeIs entry_rt_next ?_ (args_rt_next _))))
  unfold Builtin.«reversed.__next__»
  refine wpAny_bind (wpAny_of_eq (a := (Value.ref it, [])) rfl ?_)
  try dsimp only
  refine wpAny_bind (wpAny_field ho hd (x := .str x t) rfl ?_)
  try dsimp only
  refine wpAny_bind (wpAny_field ho hd (x := rawInt (-1)) rfl ?_)
  show wpAny _ _ (if (-1 : Int) < 0 then _ else _) _ _ s
  rw [if_pos (by decide)]
  try dsimp only
  refine wpAny_bind (wpAny_rule ?_)
  refine wpAny_bind ?_
  wp_delta
  refine wpAny_bind (wpAny_setField ho hd (by simp) ?_)
  have ho2 := Heap.get?_update_self (Obj.mapFields (·.setIfInBounds 1 (rawInt (-1)))) ho (Obj.isFreed_of_fields (Obj.data_mapFields hd _))
  refine wpAny_setField (s := { s with heap := s.heap.update it (Obj.mapFields (·.setIfInBounds 1 (rawInt (-1)))) }) ho2 (Obj.data_mapFields hd _) (by simp) ?_
  try dsimp only
  first
  | show wpAny _ _ (newExc (.type "StopIteration") [] >>= _) _ _ _
  | (refine wpAny_bind ?_; show wpAny _ _ (newExc (.type "StopIteration") [] >>= _) _ _ _)
  | (refine wpAny_bind ?_; wp_delta; show wpAny _ _ (newExc (.type "StopIteration") [] >>= _) _ _ _)
  refine wpAny_bind ?_
  simp only [newExc, newTuple]
  refine wpAny_bind (wpAny_newObj_type ?_ (by size_fits))
  refine wpAny_bind (m := firstArgMember _ _) (wpAny_of_eq (a := Value.none) (by first | rfl | (simp only [firstArgMember]; rfl)) ?_)
  refine wpAny_newObj_type ?_ (by size_fits)
  simp only [raiseNew]
  refine wpAny_bind (wpAny_handled ?_)
  first | rw [show A.in1.handled = none from hh] | rw [hh]
  refine wpAny_bind (wpAny_pure (wpAny_throw ?_))
  refine wpAny_bind (wpAny_isInstance (T := "StopIteration") (b := true) ⟨_, Heap.get?_push_size _ rfl, rfl⟩ isSubtype_stop ?_)
  refine wpAny_pure (hQ _ ?_)
  refine ((?_ : Heap.ExtBut it s.heap _).push _).push _
  exact fun b ob hb e => (Heap.get?_update_other _ _ (Ne.symm hb)).trans ((Heap.get?_update_other _ _ (Ne.symm hb)).trans e)
theorem iter_rs {it : Addr} {x : Str} {t : Tok} {i : Int} {Q : Value → Shared → Prop} (hit : IsRs s.heap it x t i) (h : Q (.ref it) s) : wpAny (model prog w) A (pyIter (.ref it)) Q E s := by
  refine wpAny_pyIter_slot hit.typeIs slot_rt_iter (wpAny_call_entry slot_rt_iter hit.typeIs entry_rt_iter ?_ (args_rt_iter _))
  show wpAny _ _ (ret (.ref it)) _ _ s
  exact wpAny_pure ⟨_, rfl, "reversed", _, hit.typeIs, slot_rt_next.lookup, h⟩
end
def ItvS (x : Str) : It :=
  ⟨fun i _ => i < x.length, fun i H v H' => H' = H ∧ ∃ c, x.cps[x.length - 1 - i]? = some c ∧ v = .str ⟨#[c]⟩, fun i _ => x.length ≤ i⟩
theorem turn_rs {P : Program} {w : World} {K : PySem.W.Frag} {tg : Expr} (x : Str) (t : Tok) (it : Addr) (hz : x.length ≤ sizeLine) : Turn P w K tg (ItvS x) [it] it (fun i h => i ≤ x.length ∧ IsRs h it x t ((x.length : Int) - 1 - (i : Nat))) where
  mem := by simp
  obj := fun i h st b hb => by
    have e : b = it := by simpa using hb
    subst e
    obtain ⟨_, o, e, c, d⟩ := st
    exact ⟨o, e, fun v z => by rw [d] at z; cases z⟩
  keep := fun i h h' st k => ⟨st.1, st.2.at fun o e => k it (by simp) o e⟩
  item := by
    intro X hP hw hK hc i pins s σ H E I hf st hg
    subst hP hw hK
    have hin : i < x.length := hg
    obtain ⟨f0, f1, f2, f3, f4, f5⟩ := hf it (by simp)
    obtain ⟨_, hit⟩ := st
    have e1 : (x.length : Int) - 1 - ((i : Nat) : Int) = ((x.length - 1 - i : Nat) : Int) := by omega
    rw [e1] at hit
    have hl : x.length = x.cps.size := rfl
    obtain ⟨c, hc0⟩ : ∃ c, x.cps[x.length - 1 - i]? = some c := ⟨_, Array.getElem?_eq_getElem (by omega)⟩
    refine next_rs_item hit hc0 hz fun h' u k st' sb => ?_
    have e2 : ((x.length - 1 - i : Nat) : Int) - 1 = (x.length : Int) - 1 - ((i + 1 : Nat) : Int) := by omega
    rw [e2] at st'
    have I1 : Inv X pins σ H { s with heap := h', toks := k } := I.turned (t' := k) (fun b o hb e => (sb.2 b hb).trans e) f0 f1 f3 f4 f5
    obtain ⟨o, e, c', d⟩ := id st'
    exact ⟨_, rfl, go_of (s := { s with heap := h', toks := k }) e c' d (by decide) ⟨.str ⟨#[c]⟩, H, I1, ⟨u, rfl⟩, ⟨rfl, c, hc0, rfl⟩, ⟨hin, st'⟩, fun b hb => (hf b hb).1⟩⟩
  done := by
    intro X hP hw hK hc i pins s σ H E I hf st hg
    subst hP hw hK
    obtain ⟨f0, f1, f2, f3, f4, f5⟩ := hf it (by simp)
    obtain ⟨hin, hit⟩ := st
    have hge : x.length ≤ i := hg
    have e1 : (x.length : Int) - 1 - ((i : Nat) : Int) = -1 := by omega
    rw [e1] at hit
    exact next_rs_end (I.ok.hd hc) hit fun h' eb => ⟨rfl, I.turned (t' := s.toks) (fun b o hb e => eb b o hb e) f0 f1 f3 f4 f5⟩
  self := fun A i s Q E st h => iter_rs st.2 h
def iRevX (K : PySem.W.Frag) (te : TE) : TI := fun σ H R => te σ H fun v H1 => (∃ (a : Addr) (xs : List V), v = .ref a ∧ ((SqL K H1 a xs ∧ R (Itv K a xs.length) H1) ∨ (SqT K H1 a xs ∧ R (ItvT K a xs.length) H1))) ∨ ∃ x : Str, v = .str x ∧ x.length ≤ sizeLine ∧ R (ItvS x) H1
theorem pi_revX {X : Cx} {tg : Expr} {e : Expr} {te : TE} {p pos : Pos} (hg : Gl X "reversed") (hm : X.mg "reversed" = none) (he : PE X e te) (hs : starEach [e] X.env = (false, eval e X.env) :: starEach [] X.env) : PI X tg (.Call (.Name "reversed" p) [e] [] pos) (iRevX X.K te) := by
  refine ⟨fun pins s σ H R I h => ?_⟩
  refine Call_ (ld_blt I hg hm PyProof.Rows.boot_reversed (PyProof.Rows.callWith_type1 (args_cons (thn (he.run pins s σ H _ I h) fun u s1 ⟨v, H1, I1, r1, q1⟩ => args_nil ?_) hs) hs rfl))
  rcases q1 with ⟨a, xs, ev, q⟩ | ⟨x, ev, hz, q⟩
  · subst ev
    obtain rfl : u = Value.ref a := r1
    rcases q with ⟨hq, q⟩ | ⟨hq, q⟩
    · obtain ⟨its, rv, p', hz⟩ := I1.list hq
      have hl := rv.length
      have e1 : ((its.toArray.size : Nat) : Int) - 1 = (xs.length : Int) - 1 - ((0 : Nat) : Int) := by simp only [List.size_toArray]; omega
      refine call_reversed_list p'.isList (wpAny_pyIter_revIter (l := a) (i := ((its.toArray.size : Nat) : Int) - 1) ⟨_, Heap.get?_push_size _ rfl, rfl, rfl⟩ ?_)
      refine pi_one (tk := s1.toks) I1 _ (turn_rev a _ xs.length) ⟨Nat.zero_le _, ?_⟩ q
      rw [← e1]
      exact ⟨_, Heap.get?_push_size _ rfl, rfl, rfl⟩
    · obtain ⟨its, rv, p', hz⟩ := I1.tuple hq
      have hl := rv.length
      have hn := line63
      have e1 : ((its.toArray.size : Nat) : Int) - 1 = (xs.length : Int) - 1 - ((0 : Nat) : Int) := by simp only [List.size_toArray]; omega
      refine call_reversed_tup p' (fun A E Q k => len_tuple p' (by simp only [List.size_toArray] <;> omega) k) (iter_rt (t := a) (i := ((its.toArray.size : Nat) : Int) - 1) ⟨_, Heap.get?_push_size _ rfl, rfl, rfl⟩ ?_)
      refine pi_one (tk := s1.toks + 1 + 1) I1 _ (turn_rt a _ xs.length) ⟨Nat.zero_le _, ?_⟩ q
      rw [← e1]
      exact ⟨_, Heap.get?_push_size _ rfl, rfl, rfl⟩
  · subst ev
    obtain ⟨t, rfl⟩ := r1
    refine call_reversed_str hz (iter_rs (x := x) (t := t) (i := (x.length : Int) - 1) ⟨_, Heap.get?_push_size _ rfl, rfl, rfl⟩ ?_)
    refine pi_one (tk := s1.toks + 1 + 1) I1 _ (turn_rs x t _ hz) ⟨Nat.zero_le _, ?_⟩ q
    exact ⟨_, Heap.get?_push_size _ rfl, rfl, by simp [rsObj]⟩
/-! ### on data -/
def wRevX (f : M SV) : M Walk := fun S => (f S).bind fun r S1 => match r with
  | .sh (.str x) => if x.length ≤ sizeLine then .ok ⟨(charsD x).reverse, []⟩ S1 else .stuck
  | _ => (match isLs r with
    | some xs => .ok ⟨xs.reverse, [r]⟩ S1
    | none => (match isTs r with
      | some xs => .ok ⟨xs.reverse, [r]⟩ S1
      | none => .stuck))
theorem iter_revS {C : Ct} {x : Str} : IterOk C (ItvS x) ⟨(charsD x).reverse, []⟩ [] := by
  have hl : (charsD x).length = x.length := by unfold charsD; rw [List.length_map, Array.length_toList]; rfl
  refine iter_still fun i Y ξ H Hs R => ⟨fun d hd => ?_, fun h => by show x.length ≤ i; have : (charsD x).reverse.length ≤ i := h; rw [List.length_reverse, hl] at this; exact this⟩
  obtain ⟨h1, h2⟩ := rev_get hd
  rw [hl] at h1 h2
  refine ⟨h1, fun v H' hy => ?_⟩
  obtain ⟨rfl, c, hc, rfl⟩ := hy
  refine ⟨rfl, ?_⟩
  unfold charsD at h2
  rw [List.getElem?_map, Array.getElem?_toList, hc] at h2
  cases h2
  exact Den.str.mpr rfl
theorem pid_revX {X : Cx} {β : Nat → Addr} {W : WX} {tg e : Expr} {f : M SV} {p pos : Pos} (hg : Gl X "reversed") (hm : X.mg "reversed" = none) (h1 : PD X β W e f) (s1 : isStar e = false) :
    PId X β W tg (.Call (.Name "reversed" p) [e] [] pos) (wRevX f) := by
  refine PI.imp (pi_revX hg hm h1 (star_cons s1)) fun σ H R0 ⟨S, T, τ, Hs, hl, R, q⟩ => ?_
  refine tD_bind (U := []) (υ := []) rfl hl R q fun r S1 v H1 Hs1 R1 g1 => ?_
  have R1' : (cx X β W).Rep ([r] ++ (T ++ S1)) ([some v] ++ (τ ++ σ)) H1 Hs1 := R1
  split at g1
  · rename_i x
    split at g1
    · rename_i hz
      obtain ⟨v', ev, q⟩ := Rep.sh (i := 0) R1 rfl
      have : v = v' := by simpa using ev
      subst this
      cases (Den.str.mp q : v = .str x)
      exact .inr ⟨x, rfl, hz, g1 [] _ H1 Hs1 rfl (Rep.tail R1) iter_revS⟩
    · exact g1.elim
  · split at g1
    · rename_i xs ex
      obtain ⟨a, va, ea, sa, da⟩ := viewLs (i := 0) R1' rfl ex
      have e1 : (some (some v) : Option (Option V)) = some (some (V.ref a)) := ea
      cases e1
      exact .inl ⟨a, va, rfl, .inl ⟨sa, g1 [some (.ref a)] _ H1 Hs1 rfl R1' (iter_rev da.len.symm ex)⟩⟩
    · split at g1
      · rename_i xs ex
        obtain ⟨a, va, ea, sa, da⟩ := viewTs (i := 0) R1' rfl ex
        have e1 : (some (some v) : Option (Option V)) = some (some (V.ref a)) := ea
        cases e1
        exact .inl ⟨a, va, rfl, .inr ⟨sa, g1 [some (.ref a)] _ H1 Hs1 rfl R1' (iter_revT da.len.symm ex)⟩⟩
      · exact g1.elim
end Ev
end

section
set_option Elab.async false
set_option linter.all false
set_option maxRecDepth 100000
set_option maxHeartbeats 4000000
/-! Ev, part 23f: dicts of the module with text keys and atoms in them. -/
namespace Ev
open PySem PySem.Spec PyProof.Rows L2
structure GTab where
  x : Str
  kv : List (Str × D)
def gGet (kv : List (Str × D)) (z : Str) : Option D := (kv.find? fun p => decide (p.1 = z)).map (·.2)
/-- the name holds the dict -/
def GOk (K : PySem.W.Frag) (w : World) (mg : Str → Option Value) (p : GTab) : Prop :=
  ∃ a es n, mg p.x = some (.ref a) ∧ KDict K w a es n ∧ (p.x == ("__debug__" : Str)) = false ∧
    ∀ z, match gGet p.kv z with
      | some d => ∃ u v, PySem.W.nsIn K a z = some (some u) ∧ atom d = some v ∧ RelV v u
      | none => PySem.W.nsIn K a z = some none
def gInD (neg : Bool) (kv : List (Str × D)) : List D → Option SV
  | [.str z] => some (.sh (.bl (if neg then !(gGet kv z).isSome else (gGet kv z).isSome)))
  | _ => none
def gIxD (kv : List (Str × D)) : List D → Option SV
  | [.str z] => (gGet kv z).map .sh
  | _ => none
section
variable {X : Cx} {β : Nat → Addr} {W : WX}
def rG (f : V → Hp → VK → Prop) : V → Hp → VK → Prop := f
theorem gin_ok {p : GTab} {neg : Bool} {a : Addr} {C : Ct} (hz : ∀ z, match gGet p.kv z with
      | some d => ∃ u v, PySem.W.nsIn C.K a z = some (some u) ∧ atom d = some v ∧ RelV v u
      | none => PySem.W.nsIn C.K a z = some none) : OkOp C (onee fun x H Q => ∃ (z : Str) (r : Option Value), x = .str z ∧ V.ref a = .ref a ∧ PySem.W.nsIn C.K a z = some r ∧ Q (.bl (if neg then !r.isSome else r.isSome)) H) (gInD neg p.kv) := by
  intro T τ H Hs vs ds sv Q R hv e hq
  unfold gInD at e
  split at e
  · rename_i z
    cases e
    cases hv with
    | cons h1 h2 =>
      cases h2
      cases h1.isStr
      have := hz z
      cases eg : gGet p.kv z with
      | none =>
        rw [eg] at this hq
        exact ⟨z, none, rfl, rfl, this, hq _ _ _ (Rep.push_sh R (Den.bl.mpr rfl))⟩
      | some d =>
        rw [eg] at this hq
        obtain ⟨u, v, h3, _, _⟩ := this
        exact ⟨z, some u, rfl, rfl, h3, hq _ _ _ (Rep.push_sh R (Den.bl.mpr rfl))⟩
  · cases e
theorem gix_ok {p : GTab} {a : Addr} {C : Ct} (hz : ∀ z, match gGet p.kv z with
      | some d => ∃ u v, PySem.W.nsIn C.K a z = some (some u) ∧ atom d = some v ∧ RelV v u
      | none => PySem.W.nsIn C.K a z = some none) {es : Array DictEntry} {n : Nat} (D0 : KDict C.K C.w a es n) : OkOp C (onee fun y H Q => rIxD C.K C.w (.ref a) y H Q) (gIxD p.kv) := by
  intro T τ H Hs vs ds sv Q R hv e hq
  unfold gIxD at e
  split at e
  · rename_i z
    cases hv with
    | cons h1 h2 =>
      cases h2
      cases h1.isStr
      have := hz z
      cases eg : gGet p.kv z with
      | none => rw [eg] at e; cases e
      | some d =>
        rw [eg] at this e
        cases e
        obtain ⟨u, v, h3, h4, h5⟩ := this
        exact ⟨a, z, v, rfl, rfl, ⟨es, n, u, D0.at_, D0.lit, h3, h5⟩, hq _ _ _ (Rep.push_sh R (atom_den h4))⟩
  · cases e
theorem pd_gin {p : GTab} (G : GOk X.K X.w X.mg p) (hg : Gl X p.x) {a : Expr} {fa : AF} {q pos : Pos} (ha : PF X β W a fa) : PD X β W (.Compare a [.In] [.Name p.x q] pos) (opM (gInD false p.kv) [fa]) := by
  obtain ⟨d, es, n, hm, D0, hd, hz⟩ := G
  exact PE.imp (pe_cmpR (op_in_kd D0) ha (pe_glob (v := .ref d) hg hm rfl hd) (by rfl)) fun _ _ _ h => tAs_op (gin_ok (C := cx X β W) (neg := false) hz) h
theorem pd_gnin {p : GTab} (G : GOk X.K X.w X.mg p) (hg : Gl X p.x) {a : Expr} {fa : AF} {q pos : Pos} (ha : PF X β W a fa) : PD X β W (.Compare a [.NotIn] [.Name p.x q] pos) (opM (gInD true p.kv) [fa]) := by
  obtain ⟨d, es, n, hm, D0, hd, hz⟩ := G
  exact PE.imp (pe_cmpR (op_notIn_kd D0) ha (pe_glob (v := .ref d) hg hm rfl hd) (by rfl)) fun _ _ _ h => tAs_op (gin_ok (C := cx X β W) (neg := true) hz) h
theorem pd_gix {p : GTab} (G : GOk X.K X.w X.mg p) (hg : Gl X p.x) {b : Expr} {fb : AF} {q pos : Pos} (hb : PF X β W b fb) (hs : PlainIx b) : PD X β W (.Subscript (.Name p.x q) b pos) (opM (gIxD p.kv) [fb]) := by
  obtain ⟨d, es, n, hm, D0, hd, hz⟩ := G
  exact PE.imp (pe_ix ix_kdict (pe_glob (v := .ref d) hg hm rfl hd) hb hs) fun _ _ _ h => tAs_op (gix_ok (C := cx X β W) hz D0) h
theorem ptd_gin {p : GTab} (G : GOk X.K X.w X.mg p) (hg : Gl X p.x) {a : Expr} {fa : AF} {q pos : Pos} (ha : PF X β W a fa) : PTD X β W (.Compare a [.In] [.Name p.x q] pos) (asT (opM (gInD false p.kv) [fa])) := by
  obtain ⟨d, es, n, hm, D0, hd, hz⟩ := G
  refine PT.imp (pt_cmpR (op_in_kd D0) ha (pe_glob (v := .ref d) hg hm rfl hd) (by rfl)) fun σ H Q q => ?_
  obtain ⟨S, T, τ, Hs, hl, R, g⟩ := ptd_tD q
  exact tAs_op (gin_ok (C := cx X β W) (neg := false) hz) ⟨S, T, τ, Hs, hl, R, g⟩
theorem ptd_gnin {p : GTab} (G : GOk X.K X.w X.mg p) (hg : Gl X p.x) {a : Expr} {fa : AF} {q pos : Pos} (ha : PF X β W a fa) : PTD X β W (.Compare a [.NotIn] [.Name p.x q] pos) (asT (opM (gInD true p.kv) [fa])) := by
  obtain ⟨d, es, n, hm, D0, hd, hz⟩ := G
  refine PT.imp (pt_cmpR (op_notIn_kd D0) ha (pe_glob (v := .ref d) hg hm rfl hd) (by rfl)) fun σ H Q q => ?_
  obtain ⟨S, T, τ, Hs, hl, R, g⟩ := ptd_tD q
  exact tAs_op (gin_ok (C := cx X β W) (neg := true) hz) ⟨S, T, τ, Hs, hl, R, g⟩
end
end Ev
end

section
set_option Elab.async false
set_option linter.all false
set_option maxRecDepth 100000
set_option maxHeartbeats 4000000
/-! Ev, part 23g: data as keys of dicts. -/
namespace Ev
open PySem PySem.Spec PyProof.Rows L2
mutual
theorem nested_den {X : Cx} {pins : List (Addr × Obj)} {σ : L2.St} {H : Hp} {s : Shared} (I : Inv X pins σ H s) : ∀ {d : D} {k : NestedKey} {v : V} {u : Value}, Den X.K X.w H d v → dKey d = some k → RelV v u → NestedIs s.heap k u
  | .non, k, v, u, q, e, r => by
    rw [Den.non] at q
    subst q
    cases e
    obtain rfl : u = Value.none := r
    exact .none
  | .bl b, k, v, u, q, e, r => by
    rw [Den.bl] at q
    subst q
    cases e
    obtain rfl : u = Value.bool b := r
    exact .bool rfl
  | .int i, k, v, u, q, e, r => by
    rw [Den.int] at q
    subst q
    cases e
    obtain ⟨t, rfl⟩ := r
    exact .int i t
  | .str x, k, v, u, q, e, r => by
    rw [Den.str] at q
    subst q
    cases e
    obtain ⟨t, rfl⟩ := r
    exact .text x t
  | .tup xs, k, v, u, q, e, r => by
    rw [Den] at q
    obtain ⟨a, vs, rfl, h1, h2⟩ := q
    have e' : (dKey.dKeys xs).map NestedKey.tup = some k := e
    cases ek : dKey.dKeys xs with
    | none => rw [ek] at e'; cases e'
    | some ks =>
      rw [ek] at e'
      cases e'
      obtain rfl : u = Value.ref a := r
      obtain ⟨its, rv, ⟨o, g1, g2, n, g3⟩, _⟩ := I.tuple h1.sq
      exact .tup g1 g2 g3 (by simpa using nested_denL I h2 ek rv)
  | .lst _, _, _, _, _, e, _ => by cases e
  | .dic _ _, _, _, _, _, e, _ => by cases e
  | .rng _ _, _, _, _, _, e, _ => by cases e
  | .exn _ _, _, _, _, _, e, _ => by cases e
  | .prs _, _, _, _, _, e, _ => by cases e
theorem nested_denL {X : Cx} {pins : List (Addr × Obj)} {σ : L2.St} {H : Hp} {s : Shared} (I : Inv X pins σ H s) : ∀ {ds : List D} {ks : List NestedKey} {vs : List V} {us : List Value}, DenL X.K X.w H ds vs → dKey.dKeys ds = some ks → Vals vs us → NestedAll s.heap ks us
  | [], ks, vs, us, q, e, r => by
    rw [DenL.nil_iff] at q
    subst q
    cases e
    cases r
    exact .nil
  | d :: ds, ks, vs, us, q, e, r => by
    rw [DenL.cons_iff] at q
    obtain ⟨v, vr, rfl, q1, q2⟩ := q
    unfold dKey.dKeys at e
    cases e1 : dKey d with
    | none => rw [e1] at e; cases e
    | some k =>
      cases e2 : dKey.dKeys ds with
      | none => rw [e1, e2] at e; cases e
      | some kr =>
        rw [e1, e2] at e
        cases e
        cases r with
        | cons r1 r2 => exact .cons (nested_den I q1 e1 r1) (nested_denL I q2 e2 r2)
end
def isTupD : D → Bool
  | .tup _ => true
  | _ => false
section
variable {X : Cx} {pins : List (Addr × Obj)} {σ : L2.St} {H : Hp} {s : Shared}
theorem dic_xs (I : Inv X pins σ H s) : ∀ {es : List (Int × V × V)} {ar : List DictEntry} {ds : List D} {kn : List NestedKey},
    Paired (fun (p : Int × V × V) (e : DictEntry) => p.1 = e.hash ∧ RelV p.2.1 e.key ∧ RelV p.2.2 e.val) es ar → es.map (·.1) = kn.map (NestedKey.hash X.w) → DenL X.K X.w H ds (es.map (·.2.1)) → dKey.dKeys ds = some kn →
    (∀ d ∈ ds, isTupD d = true) → (∀ k ∈ kn, k.depth ≤ 8) →
    ∃ xs : List (NestedKey × Addr × Value), ar = xs.map (entryOfKey (nestedKind X.prog X.w)) ∧ (∀ x ∈ xs, (nestedKind X.prog X.w).is s.heap x.1 x.2.1) ∧ xs.map (·.1) = kn ∧ Vals (es.map (·.2.2)) (xs.map (·.2.2)) ∧ es.map (·.2.1) = xs.map fun x => V.ref x.2.1
  | [], ar, ds, kn, p, h1, h2, h3, h4, h5 => by
    cases p
    cases kn with
    | cons _ _ => cases h1
    | nil => exact ⟨[], rfl, fun x hx => absurd hx (by simp), rfl, .nil, rfl⟩
  | e :: es, ar, ds, kn, p, h1, h2, h3, h4, h5 => by
    cases p with
    | @cons _ q _ ar' r t =>
      cases kn with
      | nil => cases h1
      | cons k kn =>
        rw [List.map_cons, List.map_cons, List.cons.injEq] at h1
        cases ds with
        | nil => rw [DenL.nil_iff] at h2; cases h2
        | cons d ds =>
          rw [DenL.cons_iff] at h2
          obtain ⟨v, vr, ev, q1, q2⟩ := h2
          rw [List.map_cons, List.cons.injEq] at ev
          obtain ⟨rfl, rfl⟩ := ev
          unfold dKey.dKeys at h3
          cases e1 : dKey d with
          | none => rw [e1] at h3; cases h3
          | some k1 =>
            cases e2 : dKey.dKeys ds with
            | none => rw [e1, e2] at h3; cases h3
            | some kr =>
              rw [e1, e2] at h3
              cases h3
              obtain ⟨xs, x1, x2, x3, x4, x5⟩ := dic_xs I t h1.2 q2 e2 (fun d hd => h4 d (List.mem_cons_of_mem _ hd)) fun k hk => h5 k (List.mem_cons_of_mem _ hk)
              obtain ⟨r1, r2, r3⟩ := r
              have n1 := nested_den I q1 e1 r2
              have ht := h4 d List.mem_cons_self
              cases d with
              | tup zs =>
                rw [Den] at q1
                obtain ⟨a, vs, ea, _⟩ := q1
                rw [ea] at r2
                have er : q.key = Value.ref a := r2
                rw [er] at n1
                refine ⟨(k, a, q.val) :: xs, ?_, fun x hx => ?_, by rw [List.map_cons, x3], .cons r3 x4, by rw [List.map_cons, List.map_cons, x5, ea]⟩
                · rw [List.map_cons, ← x1]
                  have : q = entryOfKey (nestedKind X.prog X.w) (k, a, q.val) := by
                    obtain ⟨qh, qk, qv⟩ := q
                    show DictEntry.mk qh qk qv = ⟨k.hash X.w, .ref a, qv⟩
                    rw [← h1.1]
                    rw [show e.1 = qh from r1, show qk = Value.ref a from er]
                  rw [← this]
                · rcases List.mem_cons.mp hx with rfl | hx
                  · exact ⟨n1, h5 k List.mem_cons_self⟩
                  · exact x2 x hx
              | _ => cases ht
/-- a dict with tuples as keys, as the library's rules see it -/
theorem dic_open (I : Inv X pins σ H s) {a : Addr} {kn : List NestedKey} {kv vv : List V} {ds : List D} (hd : IsDic X.w H a kn kv vv) (hq : DenL X.K X.w H ds kv) (hk : dKey.dKeys ds = some kn) (ht : ∀ d ∈ ds, isTupD d = true) (h8 : ∀ k ∈ kn, k.depth ≤ 8) :
    ∃ xs : List (NestedKey × Addr × Value), s.heap.DictOfH (nestedKind X.prog X.w) a xs ∧ xs.map (·.1) = kn ∧ Vals vv (xs.map (·.2.2)) ∧ (kv = xs.map fun x => V.ref x.2.1) ∧ xs.length ≤ sizeLine := by
  obtain ⟨_, hn, hz, es, ha, e1, rfl, rfl⟩ := hd
  obtain ⟨⟨o, ar, ep, g1, g2, g3, g4⟩, _⟩ := I.hok a _ ha
  obtain ⟨xs, x1, x2, x3, x4, x5⟩ := dic_xs I g4 e1 hq hk ht h8
  refine ⟨xs, ⟨o, ar, ep, g1, g2, g3, x1, x2, by rw [x3]; exact hn⟩, x3, x4, x5, ?_⟩
  have : kn.length = xs.length := by rw [← x3, List.length_map]
  omega
/-- and back: what the library's rules leave is the tracked dict -/
theorem dic_shut {P : Program} {w : World} {H' : Hp} {h' : Heap} {a : Addr} {xs : List (NestedKey × Addr × Value)} {vv : List V} (hd : h'.DictOfH (nestedKind P w) a xs) (hv : Vals vv (xs.map (·.2.2))) :
    ObjOk P w H' h' a (DicO a ((xs.map fun x => (x.1.hash w, V.ref x.2.1)).zipWith (fun p v => (p.1, p.2, v)) vv)) := by
  obtain ⟨o, es, ep, g1, g2, g3, g4, g5, g6⟩ := hd
  refine ⟨⟨o, es, ep, g1, g2, g3, ?_⟩, ⟨o, g1⟩, fun h1 h2 ⟨o, ar, ep, p1, p2⟩ k => ⟨o, ar, ep, k o p1, p2⟩⟩
  rw [g4]
  clear g1 g2 g3 g4 g5 g6
  induction xs generalizing vv with
  | nil => exact .nil
  | cons x xs ih =>
    cases hv with
    | cons r t => exact .cons ⟨rfl, rfl, r⟩ (ih t)
end
end Ev
end

section
set_option Elab.async false
set_option linter.all false
set_option maxRecDepth 100000
set_option maxHeartbeats 4000000
/-! Ev, part 23h: a dict with tuples as keys gets an entry. -/
namespace Ev
open PySem PySem.Spec PyProof.Rows L2
/-- the keys, the values after d[k] = v -/
def putKs {α : Type} (kn : List NestedKey) (ks : List α) (k : NestedKey) (y : α) : List α := if k ∈ kn then ks else ks ++ [y]
def putVs {α : Type} (kn : List NestedKey) (vs : List α) (k : NestedKey) (v : α) : List α := if k ∈ kn then List.zipWith (fun q u => if q = k then v else u) kn vs else vs ++ [v]
theorem atKey_iff {xs : List (NestedKey × Addr × Value)} {k : NestedKey} : (atKey xs k).isSome = true ↔ k ∈ xs.map (·.1) := by
  unfold atKey
  rw [Option.isSome_map, List.find?_isSome]
  simp
theorem stored_keys {xs : List (NestedKey × Addr × Value)} {k : NestedKey} {a : Addr} {u : Value} : (storedH xs k a u).map (·.1) = putKs (xs.map (·.1)) (xs.map (·.1)) k k := by
  unfold storedH putKs
  by_cases h : k ∈ xs.map (·.1)
  · rw [if_pos (atKey_iff.mpr h), if_pos h, keys_map_putAt]
  · rw [if_neg (fun q => h (atKey_iff.mp q)), if_neg h]; simp
theorem stored_refs {xs : List (NestedKey × Addr × Value)} {k : NestedKey} {a : Addr} {u : Value} : ((storedH xs k a u).map fun x => V.ref x.2.1) = putKs (xs.map (·.1)) (xs.map fun x => V.ref x.2.1) k (.ref a) := by
  unfold storedH putKs
  by_cases h : k ∈ xs.map (·.1)
  · rw [if_pos (atKey_iff.mpr h), if_pos h, List.map_map]
    refine List.map_congr_left fun x _ => ?_
    show V.ref (putAt k u x).2.1 = _
    unfold putAt
    split <;> rfl
  · rw [if_neg (fun q => h (atKey_iff.mp q)), if_neg h]; simp
theorem vals_put {k : NestedKey} {v : V} {u : Value} (r : RelV v u) : ∀ {xs : List (NestedKey × Addr × Value)} {vv : List V}, Vals vv (xs.map (·.2.2)) → Vals (List.zipWith (fun q y => if q = k then v else y) (xs.map (·.1)) vv) ((xs.map (putAt k u)).map (·.2.2))
  | [], _, h => by cases h; exact .nil
  | x :: xs, _, h => by
    cases h with
    | cons h1 h2 =>
      refine .cons ?_ (vals_put r h2)
      show RelV (if x.1 = k then _ else _) (putAt k u x).2.2
      unfold putAt
      split
      · exact r
      · exact h1
theorem vals_snoc {v : V} {u : Value} (r : RelV v u) : ∀ {vs : List V} {us : List Value}, Vals vs us → Vals (vs ++ [v]) (us ++ [u])
  | _, _, .nil => .cons r .nil
  | _, _, .cons h t => .cons h (vals_snoc r t)
theorem stored_vals {xs : List (NestedKey × Addr × Value)} {k : NestedKey} {a : Addr} {v : V} {u : Value} {vv : List V} (r : RelV v u) (h : Vals vv (xs.map (·.2.2))) : Vals (putVs (xs.map (·.1)) vv k v) ((storedH xs k a u).map (·.2.2)) := by
  unfold storedH putVs
  by_cases hk : k ∈ xs.map (·.1)
  · rw [if_pos (atKey_iff.mpr hk), if_pos hk]
    exact vals_put r h
  · rw [if_neg (fun q => hk (atKey_iff.mp q)), if_neg hk, List.map_append]
    exact vals_snoc r h
theorem denL_put {K : PySem.W.Frag} {w : World} {H : Hp} {k : NestedKey} {z : D} {v : V} (q : Den K w H z v) : ∀ {kn : List NestedKey} {ds : List D} {vs : List V}, DenL K w H ds vs → DenL K w H (List.zipWith (fun c u => if c = k then z else u) kn ds) (List.zipWith (fun c u => if c = k then v else u) kn vs)
  | [], _, _, _ => by simp only [List.zipWith_nil_left]; exact DenL.nil
  | c :: kn, [], vs, h => by rw [DenL.nil_iff] at h; subst h; exact DenL.nil
  | c :: kn, d :: ds, vs, h => by
    rw [DenL.cons_iff] at h
    obtain ⟨x, r, rfl, h1, h2⟩ := h
    rw [List.zipWith_cons_cons, List.zipWith_cons_cons]
    refine DenL.cons ?_ (denL_put q h2)
    split
    · exact q
    · exact h1
theorem denL_putVs {K : PySem.W.Frag} {w : World} {H : Hp} {k : NestedKey} {z : D} {v : V} {kn : List NestedKey} {ds : List D} {vs : List V} (q : Den K w H z v) (h : DenL K w H ds vs) : DenL K w H (putVs kn ds k z) (putVs kn vs k v) := by
  unfold putVs
  split
  · exact denL_put q h
  · exact h.append (DenL.cons q DenL.nil)
theorem denL_putKs {K : PySem.W.Frag} {w : World} {H : Hp} {k : NestedKey} {z : D} {v : V} {kn : List NestedKey} {ds : List D} {vs : List V} (q : Den K w H z v) (h : DenL K w H ds vs) : DenL K w H (putKs kn ds k z) (putKs kn vs k v) := by
  unfold putKs
  split
  · exact h
  · exact h.append (DenL.cons q DenL.nil)
theorem dKeys_snoc {y : D} {k : NestedKey} (hy : dKey y = some k) : ∀ {ds : List D} {kn : List NestedKey}, dKey.dKeys ds = some kn → dKey.dKeys (ds ++ [y]) = some (kn ++ [k])
  | [], kn, h => by
    cases h
    show (match dKey y, dKey.dKeys [] with
      | some k, some ks => some (k :: ks)
      | _, _ => none) = _
    rw [hy]; rfl
  | d :: ds, kn, h => by
    unfold dKey.dKeys at h
    cases e1 : dKey d with
    | none => rw [e1] at h; cases h
    | some k1 =>
      cases e2 : dKey.dKeys ds with
      | none => rw [e1, e2] at h; cases h
      | some kr =>
        rw [e1, e2] at h
        cases h
        show (match dKey d, dKey.dKeys (ds ++ [y]) with
          | some k, some ks => some (k :: ks)
          | _, _ => none) = _
        rw [e1, dKeys_snoc hy e2]; rfl
theorem dKeys_put {y : D} {k : NestedKey} {ds : List D} {kn : List NestedKey} (hy : dKey y = some k) (h : dKey.dKeys ds = some kn) : dKey.dKeys (putKs kn ds k y) = some (putKs kn kn k k) := by
  unfold putKs
  split
  · exact h
  · exact dKeys_snoc hy h
theorem nodup_put {k : NestedKey} {kn : List NestedKey} (h : kn.Nodup) : (putKs kn kn k k).Nodup := by
  unfold putKs
  split
  · exact h
  · rename_i hk
    rw [List.nodup_append]
    refine ⟨h, by simp, fun a ha b hb e => ?_⟩
    rw [List.mem_singleton] at hb
    subst hb e
    exact hk ha
theorem length_putKs {k : NestedKey} {kn : List NestedKey} : (putKs kn kn k k).length ≤ kn.length + 1 := by
  unfold putKs
  split <;> simp
end Ev
end

section
set_option Elab.async false
set_option linter.all false
set_option maxRecDepth 100000
set_option maxHeartbeats 4000000
/-! Ev, part 23i: d[k] = v for a dict with tuples as keys; the tracked dict. -/
namespace Ev
open PySem PySem.Spec PyProof.Rows L2
theorem zw3 : ∀ {ps : List (Int × V)} {vs : List V}, ps.length = vs.length → (List.zipWith (fun p v => (p.1, p.2, v)) ps vs).map (·.1) = ps.map (·.1) ∧ (List.zipWith (fun p v => (p.1, p.2, v)) ps vs).map (·.2.1) = ps.map (·.2) ∧ (List.zipWith (fun (p : Int × V) (v : V) => (p.1, p.2, v)) ps vs).map (·.2.2) = vs
  | [], [], _ => ⟨rfl, rfl, rfl⟩
  | [], _ :: _, h => by simp at h
  | _ :: _, [], h => by simp at h
  | p :: ps, v :: vs, h => by
    obtain ⟨h1, h2, h3⟩ := zw3 (ps := ps) (vs := vs) (by simpa using h)
    refine ⟨?_, ?_, ?_⟩
    · rw [List.zipWith_cons_cons, List.map_cons, List.map_cons, h1]
    · rw [List.zipWith_cons_cons, List.map_cons, List.map_cons, h2]
    · rw [List.zipWith_cons_cons, List.map_cons, h3]
/-- the tracked dict that the entries xs and the values vv make -/
def esOf (w : World) (xs : List (NestedKey × Addr × Value)) (vv : List V) : List (Int × V × V) := List.zipWith (fun p v => (p.1, p.2, v)) (xs.map fun x => (x.1.hash w, V.ref x.2.1)) vv
section
variable {X : Cx} {pins : List (Addr × Obj)} {σ : L2.St} {H : Hp} {s : Shared}
theorem esOf_dic {w : World} {H' : Hp} {a : Addr} {xs : List (NestedKey × Addr × Value)} {vv : List V} (lo : (a == sysModules) = false) (nd : (xs.map (·.1)).Nodup) (hz : xs.length ≤ sizeLine) (hv : Vals vv (xs.map (·.2.2))) (ha : H' a = some (DicO a (esOf w xs vv))) :
    IsDic w H' a (xs.map (·.1)) (xs.map fun x => V.ref x.2.1) vv := by
  have hl : (xs.map fun x => (x.1.hash w, V.ref x.2.1)).length = vv.length := by have := hv.length; simp at this ⊢; omega
  obtain ⟨z1, z2, z3⟩ := zw3 hl
  refine ⟨lo, nd, by simpa using hz, esOf w xs vv, ha, ?_, ?_, z3⟩
  · show (esOf w xs vv).map (·.1) = _
    unfold esOf
    rw [z1, List.map_map, List.map_map]; rfl
  · show (esOf w xs vv).map (·.2.1) = _
    unfold esOf
    rw [z2, List.map_map]; rfl
theorem dic_set {E : Value → Shared → Prop} {Q : Unit → Shared → Prop} {a : Addr} {kn : List NestedKey} {kv vv : List V} {ds : List D} {y : D} {k : NestedKey} {v z : V} {u r : Value} (I : Inv X pins σ H s) (hu : X.A.units + 8 < cLine)
    (hd : IsDic X.w H a kn kv vv) (hq : DenL X.K X.w H ds kv) (hk : dKey.dKeys ds = some kn) (ht : ∀ d ∈ ds, isTupD d = true) (h8 : ∀ k ∈ kn, k.depth ≤ 8) (hz : kn.length < sizeLine)
    (yq : Den X.K X.w H y v) (yk : dKey y = some k) (yt : isTupD y = true) (y8 : k.depth ≤ 8) (ry : RelV v u) (rz : RelV z r)
    (h : ∀ o s', IsDic X.w (upd H a o) a (putKs kn kn k k) (putKs kn kv k v) (putVs kn vv k z) → Inv X pins σ (upd H a o) s' → Q () s') : wpAny (model X.prog X.w) X.A (dictSet a u r) Q E s := by
  obtain ⟨xs, x1, rfl, x3, rfl, x5⟩ := dic_open I hd hq hk ht h8
  have nk := nested_den I yq yk ry
  cases y with
  | tup zs =>
    rw [Den] at yq
    obtain ⟨b, vs, rfl, _⟩ := yq
    obtain rfl : u = Value.ref b := ry
    refine wpAny_dictSet_heap (knd := nestedKind X.prog X.w) (show X.A.units + 8 < cLine from hu) ⟨nk, y8⟩ x1 (fun h' dd sb => ?_) x5
    have sv := stored_vals (k := k) (a := b) rz x3
    have sl : (storedH xs k b r).length ≤ sizeLine := by
      have e1 : ((storedH xs k b r).map (·.1)).length ≤ (xs.map (·.1)).length + 1 := by rw [stored_keys]; exact length_putKs
      simp at e1 hz
      omega
    have nd : ((storedH xs k b r).map (·.1)).Nodup := by rw [stored_keys]; exact nodup_put hd.2.1
    have he : ∃ q, h'.get? a = some q := let ⟨q, _, _, hq, _⟩ := dd; ⟨q, hq⟩
    have mu : Mut (H a) := by obtain ⟨_, _, _, es, ha, _⟩ := hd; rw [ha]; exact True.intro
    refine h (DicO a (esOf X.w (storedH xs k b r) (putVs (xs.map (·.1)) vv k z))) _ ?_ (d_write I mu sb he (dic_shut dd sv))
    have := esOf_dic (H' := upd H a (DicO a (esOf X.w (storedH xs k b r) (putVs (xs.map (·.1)) vv k z)))) hd.1 nd sl sv upd_same
    rw [stored_keys, stored_refs] at this
    exact this
  | _ => cases yt
end
end Ev
end

section
set_option Elab.async false
set_option linter.all false
set_option maxRecDepth 100000
set_option maxHeartbeats 4000000
/-! Ev, part 23j: comprehensions that make dicts with tuples as keys. -/
namespace Ev
open PySem PySem.Spec PyProof.Rows L2
/-- the dict at D may take the entry y, z; then go holds -/
def TakesIn (K : PySem.W.Frag) (w : World) (D : Addr) (y z : V) (G : Hp) (go : Hp → Prop) : Prop :=
  ∃ kn kv vv ds yd k, IsDic w G D kn kv vv ∧ DenL K w G ds kv ∧ dKey.dKeys ds = some kn ∧ (∀ d ∈ ds, isTupD d = true) ∧ (∀ k ∈ kn, k.depth ≤ 8) ∧ kn.length < sizeLine ∧
    Den K w G yd y ∧ dKey yd = some k ∧ isTupD yd = true ∧ k.depth ≤ 8 ∧ ∀ o, IsDic w (upd G D o) D (putKs kn kn k k) (putKs kn kv k y) (putVs kn vv k z) → go (upd G D o)
def tDcX (K : PySem.W.Frag) (w : World) (wi : TI) (g : TG) (tt : TT) (tk tv : TE) (vs : List Nat) : TE := fun σ H Q => wi σ H fun J G => ∀ D, G D = none → (D == sysModules) = false → ∃ Z : Nat → Nat → Hp → Prop, (∃ m, Z 0 m (upd G D (DicO D []))) ∧ ∀ i m H, Z i m H →
  (J.stop i H ∧ Q (.ref D) H) ∨ (J.go i H ∧ ∃ go : Hp → Prop, (∀ H', go H' → ∃ l, l < m ∧ Z (i + 1) l H') ∧ ∀ x H', J.yld i H x H' → g x (wipe σ vs) H' fun σ2 G2 => wipe σ2 vs = wipe σ vs ∧ tt σ2 G2 fun b G3 =>
    if b = true then tk σ2 G3 fun y G4 => tv σ2 G4 fun z G5 => TakesIn K w D y z G5 go else go G3)
section
variable {X : Cx}
theorem emptyDic {P : Program} {w : World} {H : Hp} (h : Heap) : ObjOk P w H (h.push { cls := .type "dict", data := .dict #[] }) h.objs.size (DicO h.objs.size []) := by
  obtain ⟨o, ar, ep, e1, e2, e3, e4, _⟩ := (Heap.DictOfH.new (knd := nestedKind P w) h)
  have : ar.toList = [] := by rw [e4]; rfl
  exact ⟨⟨o, ar, ep, e1, e2, e3, by rw [this]; exact .nil⟩, ⟨o, e1⟩, fun _ _ ⟨o, ar, ep, p1, p2⟩ kp => ⟨o, ar, ep, kp o p1, p2⟩⟩
theorem dcX_core {pins : List (Addr × Obj)} {t : Shared} {σ : L2.St} {G : Hp} {Q : VK} {kx vx tg src : Expr} {ifs : List Expr} {sco : Scope} {own : List (Str × Nat)} {pos pos' : Pos} {wi : TI} {g : TG} {tt : TT} {tk tv : TE} {use : Option (Value → Sem Unit)} {Qf : Value → Shared → Prop}
    (calm : X.calm = true) (nodup : X.N.Nodup) (room : X.A.units + 8 < cLine) (I0 : Inv X pins σ G t) (walk : PI X tg src wi) (blk : BlkOk X.N X.env.scope sco own)
    (pg : ∀ (s : Shared) (H : Hp) (C : Addr) (cl : List (Str × Addr)) (fp : List Addr), PG (X.blk s H sco (compEnvC sco cl C X.env) fp) tg g)
    (pt : ∀ (s : Shared) (H : Hp) (C : Addr) (cl : List (Str × Addr)) (fp : List Addr), PTs (X.blk s H sco (compEnvC sco cl C X.env) fp) ifs tt)
    (pk : ∀ (s : Shared) (H : Hp) (C : Addr) (cl : List (Str × Addr)) (fp : List Addr), PE (X.blk s H sco (compEnvC sco cl C X.env) fp) kx tk)
    (pv : ∀ (s : Shared) (H : Hp) (C : Addr) (cl : List (Str × Addr)) (fp : List Addr), PE (X.blk s H sco (compEnvC sco cl C X.env) fp) vx tv) (fold : ∀ x, foldedSetIterable src X.env x = pure x)
    (how : tDcX X.K X.w wi g tt tk tv (own.map (·.2)) σ G Q)
    (done : ∀ D C s' m H', Inv X pins σ H' s' → Q (.ref D) H' → s'.heap.Ns C m → FpOk X pins H' C → compPost (model X.prog X.w) X.A X.xe use Qf (.ref D) C (.ok .next) s') :
    wpAny (model X.prog X.w) X.A (comprehension (.DictComp kx vx [⟨tg, src, ifs, 0⟩] sco pos) sco X.env pos' newDict false (eval src X.env) use) Qf X.xe t := by
  have free : ∀ y ∈ sco.names, y.2 = .free → ∃ c, X.env.cells.lookup y.1 = some c := fun y hy e => (blk.free y hy e).elim (fun z => I0.ok.has _ (.inl z)) fun z => I0.ok.has _ (.inr z)
  refine wpAny_comprehension_free (use := use) rfl fold (closure_ok free) blk.kind (fun y hy e => by rw [blk.uniq y hy, e])
    (thn (walk.run pins t σ G _ I0 how) fun xv t1 hx => thn hx fun itv t2 ⟨it, fp, tn, J, G2, eit, I2, T, st2, f2, q⟩ => ?_)
  subst eit
  refine wpAny_newObj_type (newEnv_comp ?_)
  generalize hD : t2.heap.objs.size = D
  obtain ⟨Z, ⟨m0, z0⟩, turn⟩ := q D (I2.hok.fresh (Nat.le_of_eq hD)) (beq_eq_false_iff_ne.mpr fun z => absurd I2.big (by rw [← z, hD]; exact Nat.lt_irrefl _))
  generalize ht3 : ({ t2 with heap := t2.heap.push { cls := .type "dict", data := .dict #[] } } : Shared) = t3
  have I3 : Inv X pins σ (upd G2 D (DicO D [])) t3 := by
    rw [← ht3]
    refine I2.laid (t' := t2.toks) (fun b o e => Heap.get?_push_of_some _ e) (Nat.le_of_eq hD) ?_
    rw [← hD]
    exact emptyDic t2.heap
  have e3 : t3.heap = t2.heap.push { cls := .type "dict", data := .dict #[] } := by rw [← ht3]
  have f3 : ∀ b ∈ fp, FpOk X pins (upd G2 D (DicO D [])) b ∧ b < t3.heap.objs.size := fun b hb => by
    obtain ⟨o, e, _⟩ := T.obj _ _ st2 b hb
    have lt := Heap.lt_size e
    refine ⟨⟨?_, (f2 b hb).2⟩, by rw [e3, Heap.size_push]; exact Nat.lt_succ_of_lt lt⟩
    rw [upd_ne (by rw [← hD]; exact Nat.ne_of_lt lt)]
    exact (f2 b hb).1
  have st3 : tn 0 t3.heap := T.keep _ _ _ st2 fun b _ o e => by rw [e3]; exact Heap.get?_push_of_some _ e
  have I4 := block_start I3 blk nodup f3
  generalize hcl : cellsFrom (t3.heap.objs.size + 1) sco.names (cloFrom X.env.cells sco.names []) = cl at I4
  have pg := pg t3 (upd G2 D (DicO D [])) t3.heap.objs.size cl fp
  have pt := pt t3 (upd G2 D (DicO D [])) t3.heap.objs.size cl fp
  have pk := pk t3 (upd G2 D (DicO D [])) t3.heap.objs.size cl fp
  have pv := pv t3 (upd G2 D (DicO D [])) t3.heap.objs.size cl fp
  show codeAny _ _ (.compStart (.DictComp kx vx [⟨tg, src, ifs, 0⟩] sco pos) 0 (.ref it) (.ref D) (compEnvC sco cl t3.heap.objs.size X.env)) (compPost (model X.prog X.w) X.A X.xe use Qf (.ref D) t3.heap.objs.size) { t3 with heap := pushCells (t3.heap.push { cls := .type "dict", data := .dict #[] }) sco.names }
  have nfp : ∀ b ∈ fp, (upd G2 D (DicO D [])) b = none := fun b hb => (f3 b hb).1.1
  generalize hce : compEnvC sco cl t3.heap.objs.size X.env = ce at I4 pg pt pk pv ⊢
  have cL : ce.locals = t3.heap.objs.size := by subst hce; rfl
  generalize hG3 : upd G2 D (DicO D []) = G3 at I3 I4 pg pt pk pv z0 nfp f3
  generalize ht4 : ({ t3 with heap := pushCells (t3.heap.push { cls := .type "dict", data := .dict #[] }) sco.names } : Shared) = t4 at I4 ⊢
  have st4 : tn 0 t4.heap := T.keep _ _ _ st3 fun b _ o e => by rw [← ht4]; exact pushCells_keeps _ _ _ _ (Heap.get?_push_of_some _ e)
  have still : ∀ {σ' : L2.St} {H' : Hp} {s' : Shared}, Inv (X.blk t3 G3 sco ce fp) [] σ' H' s' → (∀ b ∈ fp, H' b = none) → ∀ b ∈ fp, FpOk (X.blk t3 G3 sco ce fp) [] H' b := fun {σ' H' s'} I' hn b hb =>
    ⟨hn b hb, (I'.ok.exf b hb).1, I'.ok.exfs b hb, .inl hb, fun x c e => (I'.ok.exf b hb).2 x c e, fun p hp => absurd (show p ∈ ([] : List (Addr × Obj)) ++ [] from hp) (by simp)⟩
  have loop : codeAny (model X.prog X.w) X.A (.compLoop (.DictComp kx vx [⟨tg, src, ifs, 0⟩] sco pos) 0 (.ref it) (.ref D) ce) (compPost (model X.prog X.w) X.A X.xe use Qf (.ref D) t3.heap.objs.size) t4 := by
    refine compLoop_anyD (fun n s' => ∃ i H', Inv (X.blk t3 G3 sco ce fp) [] (wipe σ (own.map (·.2))) H' s' ∧ tn i s'.heap ∧ (∀ b ∈ fp, H' b = none) ∧ Z i n H') ?_ m0 ⟨0, G3, I4, st4, nfp, z0⟩
    rintro n t5 ⟨i, G5, I5, st5, n5, z5⟩
    rcases turn i n G5 z5 with ⟨stop, qq⟩ | ⟨go, nx, hnx, step⟩
    · refine thnF (T.done (X.blk t3 G3 sco ce fp) rfl rfl rfl calm i [] t5 _ G5 (fun _ _ => False) I5 (still I5 n5) st5 stop) fun r t6 ⟨hr, I6⟩ => ?_
      subst hr
      have I7 : Inv X pins σ G5 t6 := I3.call' (ch := fp) I6.os I6.base I6.hok I6.bare fun b hb => ⟨(f3 b hb).1.2.2.2.1, (f3 b hb).1.2.1, (f3 b hb).1.2.2.2.2.1, (f3 b hb).1.2.2.2.2.2⟩
      have nC : G5 t3.heap.objs.size = none := by
        have z : G5 ce.locals = none := I6.free
        rwa [cL] at z
      obtain ⟨m, hn, _⟩ := I6.loc
      have hn : t6.heap.Ns ce.locals m := hn
      rw [cL] at hn
      exact done D t3.heap.objs.size t6 m G5 I7 qq hn (I3.fpOk (Nat.le_refl _) nC)
    · refine thnF (T.item (X.blk t3 G3 sco ce fp) rfl rfl rfl calm i [] t5 _ G5 (fun _ _ => False) I5 (still I5 n5) st5 go) fun r t6 ⟨u, hr, h6⟩ => ?_
      subst hr
      refine thnF h6 fun _ t7 ⟨x, G7, I7, r7, y7, st7, n7⟩ => ?_
      have I7' := I7.pinned (still I7 n7) (T.obj _ _ st7)
      refine thnF (pg.run _ t7 _ G7 x u _ I7' r7 (step x G7 y7)) fun _ t8 ⟨σ8, G8, I8, hw8, q8⟩ => ?_
      refine thnF (pt.run _ t8 σ8 G8 _ I8 q8) fun b t9 ⟨G9, I9, q9⟩ => ?_
      have fin : ∀ {s' : Shared} {H' : Hp}, Inv (X.blk t3 G3 sco ce fp) ([] ++ pinsAt fp t7.heap) σ8 H' s' → nx H' → ∃ m, m < n ∧ ∃ i H', Inv (X.blk t3 G3 sco ce fp) [] (wipe σ (own.map (·.2))) H' s' ∧ tn i s'.heap ∧ (∀ b ∈ fp, H' b = none) ∧ Z i m H' := fun {s' H'} I' z' => by
        obtain ⟨l, hl, w'⟩ := hnx H' z'
        have pin' : ∀ b ∈ fp, ∀ o, t7.heap.get? b = some o → s'.heap.get? b = some o ∧ H' b = none := fun b hb o e =>
          let z := I'.pin (b, o) (List.mem_append_right _ (List.mem_append_right _ (mem_pinsAt hb e)))
          ⟨z.1, z.2.1⟩
        refine ⟨l, hl, i + 1, H', (I'.unpinned (pins := [])).weak (by rw [← hw8, wipe_length]) (fun j v e => ?_), T.keep _ _ _ st7 fun b hb o e => (pin' b hb o e).1, fun b hb => ?_, w'⟩
        · rw [← hw8] at e
          exact (wipe_some e).1
        · obtain ⟨o, e, _⟩ := T.obj _ _ st7 b hb
          exact (pin' b hb o e).2
      cases b with
      | false =>
        simp only [Bool.false_eq_true, if_false] at q9 ⊢
        exact fin I9 q9
      | true =>
        simp only [if_true] at q9 ⊢
        refine thnF (pk.run _ t9 σ8 G9 _ I9 q9) fun z ta ⟨yk, Ga, Ia, ra, qa⟩ => ?_
        refine thnF (pv.run _ ta σ8 Ga _ Ia qa) fun z2 tb ⟨yv, Gb, Ib, rb, kn, kv, vv, ds, yd, k, c1, c2, c3, c4, c5, c6, c7, c8, c9, c10, c11⟩ => ?_
        exact dic_set (X := X.blk t3 G3 sco ce fp) Ib room c1 c2 c3 c4 c5 c6 c7 c8 c9 c10 ra rb fun o tc isd Ic => fin Ic (c11 o isd)
  exact codeAny_compStart_dict loop (T.self X.A 0 _ _ _ st4 loop)
/-- the dict as a value -/
theorem pe_dcX {kx vx tg src : Expr} {ifs : List Expr} {sco : Scope} {own : List (Str × Nat)} {pos : Pos} {wi : TI} {g : TG} {tt : TT} {tk tv : TE}
    (calm : X.calm = true) (nodup : X.N.Nodup) (room : X.A.units + 8 < cLine) (walk : PI X tg src wi) (blk : BlkOk X.N X.env.scope sco own)
    (pg : ∀ (s : Shared) (H : Hp) (C : Addr) (cl : List (Str × Addr)) (fp : List Addr), PG (X.blk s H sco (compEnvC sco cl C X.env) fp) tg g)
    (pt : ∀ (s : Shared) (H : Hp) (C : Addr) (cl : List (Str × Addr)) (fp : List Addr), PTs (X.blk s H sco (compEnvC sco cl C X.env) fp) ifs tt)
    (pk : ∀ (s : Shared) (H : Hp) (C : Addr) (cl : List (Str × Addr)) (fp : List Addr), PE (X.blk s H sco (compEnvC sco cl C X.env) fp) kx tk)
    (pv : ∀ (s : Shared) (H : Hp) (C : Addr) (cl : List (Str × Addr)) (fp : List Addr), PE (X.blk s H sco (compEnvC sco cl C X.env) fp) vx tv) (fold : ∀ x, foldedSetIterable src X.env x = pure x) :
    PE X (.DictComp kx vx [⟨tg, src, ifs, 0⟩] sco pos) (tDcX X.K X.w wi g tt tk tv (own.map (·.2))) := by
  refine ⟨fun pins t σ G Q I0 how => ?_⟩
  rw [arm_eval_DictComp]
  refine dcX_core calm nodup room I0 walk blk pg pt pk pv fold how fun D C t' m G' I' q hn f => ⟨m, hn, fun h'' sb => ?_⟩
  obtain ⟨f0, f1, _, f3, f4, f5⟩ := f
  exact ⟨.ref D, G', I'.turned (t' := t'.toks) (fun b o hb e => (sb.2 b hb).trans e) f0 f1 f3 f4 f5, rfl, q⟩
end
end Ev
end

section
set_option Elab.async false
set_option linter.all false
set_option maxRecDepth 100000
set_option maxHeartbeats 4000000
/-! Ev, part 23k: dict comprehensions as functions. -/
namespace Ev
open PySem PySem.Spec PyProof.Rows L2
/-- keys up to ==, keys, values so far -/
structure Dc where
  kn : List NestedKey
  ks : List D
  ws : List D
def Dc.put (a : Dc) (y z : D) : Option Dc := match dKey y with
  | some k => if (isTupD y && decide (k.depth ≤ 8)) = true then some ⟨putKs a.kn a.kn k k, putKs a.kn a.ks k y, putVs a.kn a.ws k z⟩ else none
  | none => none
structure Dc.Ok (a : Dc) : Prop where
  kn : dKey.dKeys a.ks = some a.kn
  tup : ∀ d ∈ a.ks, isTupD d = true
  dep : ∀ k ∈ a.kn, k.depth ≤ 8
def dcL (vs : List Nat) (tg : Tg) (c : M Bool) (fk fv : M SV) : List D → Dc → M Dc
  | [], a => fun S => .ok a S
  | d :: ds, a => fun S => match tg.put d S with
    | none => .stuck
    | some S1 => (noexc (c S1)).bind fun b S2 => if b = true then (noexc (fk S2)).bind fun r S3 => (match r.shd with
        | some y => (noexc (fv S3)).bind fun r2 S4 => (match r2.shd with
          | some z => (match a.put y z with
            | some a' => dcL vs tg c fk fv ds a' (wipeS S4 vs)
            | none => .stuck)
          | none => .stuck)
        | none => .stuck)
      else dcL vs tg c fk fv ds a (wipeS S2 vs)
def dcM (src : M Walk) (tg : Tg) (c : M Bool) (fk fv : M SV) : M SV := fun S => (src S).bind fun wk S1 =>
  if wk.items.length ≤ sizeLine then (dcL tg.ixs tg c fk fv wk.items ⟨[], [], []⟩ (wipeS S1 tg.ixs)).bind fun a S2 => .ok (.ow (.d a.ks a.ws)) (backS S1 S2 tg.ixs) else .stuck
theorem Dc.put_ok {a a' : Dc} {y z : D} (h : a.put y z = some a') : ∃ k, dKey y = some k ∧ isTupD y = true ∧ k.depth ≤ 8 ∧ a' = ⟨putKs a.kn a.kn k k, putKs a.kn a.ks k y, putVs a.kn a.ws k z⟩ := by
  unfold Dc.put at h
  split at h
  · rename_i k hk
    split at h
    · rename_i hb
      rw [Bool.and_eq_true, decide_eq_true_eq] at hb
      cases h
      exact ⟨k, hk, hb.1, hb.2, rfl⟩
    · cases h
  · cases h
theorem mem_putKs {α : Type} {kn : List NestedKey} {ks : List α} {k : NestedKey} {y x : α} (h : x ∈ putKs kn ks k y) : x ∈ ks ∨ x = y := by
  unfold putKs at h
  split at h
  · exact .inl h
  · rcases List.mem_append.mp h with h | h
    · exact .inl h
    · exact .inr (List.mem_singleton.mp h)
theorem Dc.Ok.put {a a' : Dc} {y z : D} (o : a.Ok) (h : a.put y z = some a') : a'.Ok ∧ a'.kn.length ≤ a.kn.length + 1 := by
  obtain ⟨k, h1, h2, h3, rfl⟩ := Dc.put_ok h
  refine ⟨⟨dKeys_put h1 o.kn, fun d hd => ?_, fun q hq => ?_⟩, length_putKs⟩
  · rcases mem_putKs hd with hd | rfl
    · exact o.tup d hd
    · exact h2
  · rcases mem_putKs hq with hq | rfl
    · exact o.dep q hq
    · exact h3
theorem Dc.empty_ok : (⟨[], [], []⟩ : Dc).Ok := ⟨rfl, fun d hd => by simp at hd, fun k hk => by simp at hk⟩
section
variable {K : PySem.W.Frag} {w : World} {β : Nat → Addr} {S A : List SV} {α : List (Option V)} {σ : L2.St} {H Hs : Hp}
/-- an entry more for a dict in flight -/
theorem Rep.dput {a a' : Dc} {y z : D} {p : Addr} {u v : V} (hA : A.length = α.length) (o : a.Ok) (R : Ev.Rep K w β (A ++ (.ow (.d a.ks a.ws) :: S)) (α ++ (some (.ref p) :: σ)) H Hs) (hz : a.kn.length < sizeLine) (qy : Den K w Hs y u) (qz : Den K w Hs z v) (h : a.put y z = some a') (go : Hp → Prop)
    (hg : ∀ o, Ev.Rep K w β (A ++ (.ow (.d a'.ks a'.ws) :: S)) (α ++ (some (.ref p) :: σ)) (upd H p o) Hs → go (upd H p o)) : TakesIn K w p u v H go := by
  obtain ⟨k, h1, h2, h3, rfl⟩ := Dc.put_ok h
  have hi : (A ++ (SV.ow (.d a.ks a.ws) :: S))[A.length]? = some (.ow (.d a.ks a.ws)) := by simp
  obtain ⟨b, fp, ea, oa, _, ch⟩ := Rep.change R hi rfl
  rw [hA] at ea
  have ea' : some (some (V.ref p)) = some (some (V.ref b)) := by simpa using ea
  cases ea'
  obtain ⟨rfl, kn, kv, vv, d1, d2, d3, d4⟩ := oa
  rw [o.kn] at d2
  cases d2
  refine ⟨a.kn, kv, vv, a.ks, y, k, d1, d3.sub R.sub, o.kn, o.tup, o.dep, hz, qy.sub R.sub, h1, h2, h3, fun ob isd => hg ob ?_⟩
  have := ch (upd H p ob) (.d (putKs a.kn a.ks k y) (putVs a.kn a.ws k z)) (fun b hb => upd_ne (by simpa using hb)) ⟨rfl, _, _, _, isd, dKeys_put h1 o.kn, denL_putKs qy d3, denL_putVs qz d4⟩
  simpa [SV.put] using this
end
end Ev
end

section
set_option Elab.async false
set_option linter.all false
set_option maxRecDepth 100000
set_option maxHeartbeats 4000000
/-! Ev, part 23l: the loop of a dict comprehension. -/
namespace Ev
open PySem PySem.Spec PyProof.Rows L2
def EndsD (C : Ct) (U B : List SV) (υ b : List (Option V)) (p : Addr) (σw : L2.St) (P : Dc → List SV → Hp → Prop) (r : Res Dc) : Prop :=
  match r with
  | .ok a S2 => ∀ H Hs, C.Rep (U ++ (.ow (.d a.ks a.ws) :: (B ++ S2))) (υ ++ (some (.ref p) :: (b ++ σw))) H Hs → P a S2 H
  | _ => False
theorem SV.shd_shr {r : SV} {y : D} (e : r.shd = some y) : r.shr = .sh y := by
  cases r with
  | un => cases e
  | sh d => cases e; rfl
  | ow o => cases e; rfl
  | bo j o => cases e
section
variable {C : Ct} {wk : Walk} {B : List SV} {υ b : List (Option V)} {p : Addr} {σ0 : L2.St} {J : It} {tg : Tg} {c : M Bool} {fk fv : M SV} {vs : List Nat} {P : Dc → List SV → Hp → Prop}
theorem dc_loop (hu : wk.U.length = υ.length) (hb : B.length = b.length) (ok : IterOk C J wk υ) (htg : ∀ i ∈ tg.ixs, i ∈ vs) {S : List SV} {a : Dc} (oa : a.Ok) {H Hs : Hp} (hz : a.kn.length + wk.items.length ≤ sizeLine)
    (R : C.Rep (wk.U ++ (.ow (.d a.ks a.ws) :: (B ++ S))) (υ ++ (some (.ref p) :: (b ++ wipe σ0 vs))) H Hs) (g : EndsD C wk.U B υ b p (wipe σ0 vs) P (dcL vs tg c fk fv wk.items a S)) :
    ∃ Z : Nat → Nat → Hp → Prop, (∃ m, Z 0 m H) ∧ ∀ i m H, Z i m H →
      (J.stop i H ∧ ∃ a S2, P a S2 H) ∨ (J.go i H ∧ ∃ go : Hp → Prop, (∀ H', go H' → ∃ l, l < m ∧ Z (i + 1) l H') ∧ ∀ x H', J.yld i H x H' → Tg.rd C.K tg x (wipe σ0 vs) H' fun σ2 G2 => wipe σ2 vs = wipe σ0 vs ∧ tDT C.blk c σ2 G2 fun b G3 =>
        if b = true then tD C.blk fk σ2 G3 fun y G4 => tD C.blk fv σ2 G4 fun z G5 => TakesIn C.K C.w p y z G5 go else go G3) := by
  refine ⟨fun i m G => m = wk.items.length - i ∧ ∃ S a Hs, a.Ok ∧ a.kn.length + (wk.items.length - i) ≤ sizeLine ∧ C.Rep (wk.U ++ (.ow (.d a.ks a.ws) :: (B ++ S))) (υ ++ (some (.ref p) :: (b ++ wipe σ0 vs))) G Hs ∧ EndsD C wk.U B υ b p (wipe σ0 vs) P (dcL vs tg c fk fv (wk.items.drop i) a S),
    ⟨_, rfl, S, a, Hs, oa, by simpa using hz, R, g⟩, ?_⟩
  clear R g hz oa a S
  rintro i m G1 ⟨rfl, S1, a1, Hs1, o1, hz1, R1, g1⟩
  by_cases hlt : i < wk.items.length
  · refine .inr ?_
    obtain ⟨go, yld⟩ := (ok i _ _ G1 Hs1 R1).1 _ (List.getElem?_eq_getElem hlt)
    refine ⟨go, fun G => ∃ S a Hs, a.Ok ∧ a.kn.length + (wk.items.length - (i + 1)) ≤ sizeLine ∧ C.Rep (wk.U ++ (.ow (.d a.ks a.ws) :: (B ++ S))) (υ ++ (some (.ref p) :: (b ++ wipe σ0 vs))) G Hs ∧ EndsD C wk.U B υ b p (wipe σ0 vs) P (dcL vs tg c fk fv (wk.items.drop (i + 1)) a S),
      fun H' hN => ⟨_, by omega, rfl, hN⟩, fun x H' hy => ?_⟩
    obtain ⟨Hs', R3, q3, _⟩ := yld x H' hy
    rw [List.drop_eq_getElem_cons hlt] at g1
    unfold dcL at g1
    cases ep : tg.put wk.items[i] S1 with
    | none => rw [ep] at g1; exact g1.elim
    | some S2 =>
      rw [ep] at g1
      dsimp only at g1
      have hl2 : (wk.U ++ (SV.ow (.d a1.ks a1.ws) :: B)).length = (υ ++ (some (V.ref p) :: b)).length := by simp [hu, hb]
      have asc : ∀ {Y : List SV} {ξ : L2.St} {H' Hs' : Hp} {k v : List D}, C.Rep (wk.U ++ (SV.ow (.d k v) :: B) ++ Y) (υ ++ (some (V.ref p) :: b) ++ ξ) H' Hs' ↔ C.Rep (wk.U ++ (SV.ow (.d k v) :: (B ++ Y))) (υ ++ (some (V.ref p) :: (b ++ ξ))) H' Hs' := by
        intros; rw [List.append_assoc, List.append_assoc]; exact Iff.rfl
      refine Tg.put_ok (C := C) (T := wk.U ++ (SV.ow (.d a1.ks a1.ws) :: B)) (τ := υ ++ (some (V.ref p) :: b)) hl2 (asc.mpr R3) q3 ep fun σ2 R4 hw => ?_
      have hw2 : wipe σ2 vs = wipe σ0 vs := (hw vs htg).trans (wipe_wipe fun _ h => h)
      refine ⟨hw2, S2, _, _, Hs', hl2, R4, ?_⟩
      cases ec : c S2 with
      | exc _ _ _ => rw [ec] at g1; exact g1.elim
      | stuck => rw [ec] at g1; exact g1.elim
      | ok t S3 =>
        rw [ec] at g1
        intro H5 Hs5 R5
        simp only [noexc_ok, Res.bind_ok] at g1
        cases t with
        | false =>
          rw [if_neg (by decide)] at g1 ⊢
          have R6 := Rep.wipe hl2 R5 vs
          rw [hw2] at R6
          exact ⟨_, a1, Hs5, o1, by omega, asc.mp R6, g1⟩
        | true =>
          rw [if_pos rfl] at g1 ⊢
          refine ⟨S3, _, _, Hs5, hl2, R5, ?_⟩
          cases ef : fk S3 with
          | exc _ _ _ => rw [ef] at g1; exact g1.elim
          | stuck => rw [ef] at g1; exact g1.elim
          | ok r S4 =>
            rw [ef] at g1
            intro u H6 Hs6 R6
            simp only [noexc_ok, Res.bind_ok] at g1
            cases ey : r.shd with
            | none => rw [ey] at g1; exact g1.elim
            | some y =>
              rw [ey] at g1
              dsimp only at g1
              obtain ⟨Hs7, R7, _⟩ := Rep.shr (R6 : Ev.Rep C.K C.w C.β (r :: (wk.U ++ (SV.ow (.d a1.ks a1.ws) :: B) ++ S4)) (some u :: (υ ++ (some (V.ref p) :: b) ++ σ2)) H6 Hs6)
              rw [SV.shd_shr ey] at R7
              refine ⟨S4, SV.sh y :: (wk.U ++ (SV.ow (.d a1.ks a1.ws) :: B)), some u :: (υ ++ (some (V.ref p) :: b)), Hs7, by simp [hu, hb], R7, ?_⟩
              cases ev : fv S4 with
              | exc _ _ _ => rw [ev] at g1; exact g1.elim
              | stuck => rw [ev] at g1; exact g1.elim
              | ok r2 S5 =>
                rw [ev] at g1
                intro v H8 Hs8 R8
                simp only [noexc_ok, Res.bind_ok] at g1
                cases ez : r2.shd with
                | none => rw [ez] at g1; exact g1.elim
                | some z =>
                  rw [ez] at g1
                  dsimp only at g1
                  cases ea : a1.put y z with
                  | none => rw [ea] at g1; exact g1.elim
                  | some a2 =>
                    rw [ea] at g1
                    dsimp only at g1
                    obtain ⟨Hs9, R9, _⟩ := Rep.shr (R8 : Ev.Rep C.K C.w C.β (r2 :: (SV.sh y :: (wk.U ++ (SV.ow (.d a1.ks a1.ws) :: B)) ++ S5)) (some v :: (some u :: (υ ++ (some (V.ref p) :: b)) ++ σ2)) H8 Hs8)
                    rw [SV.shd_shr ez] at R9
                    obtain ⟨v', e1, qz⟩ := Rep.sh R9 (i := 0) rfl
                    have e1' : some (some v) = some (some v') := e1
                    cases e1'
                    obtain ⟨u', e2, qy⟩ := Rep.sh R9 (i := 1) rfl
                    have e2' : some (some u) = some (some u') := e2
                    cases e2'
                    have RA := Rep.wipe hl2 (Rep.tail (Rep.tail R9)) vs
                    rw [hw2] at RA
                    obtain ⟨o2, l2⟩ := o1.put ea
                    exact Rep.dput hu o1 (asc.mp RA) (by omega) qy qz ea _ fun ob RB => ⟨_, a2, Hs9, o2, by omega, RB, g1⟩
  · refine .inl ⟨(ok i _ _ G1 Hs1 R1).2 (by omega), a1, S1, ?_⟩
    rw [List.drop_eq_nil_of_le (by omega)] at g1
    exact g1 G1 Hs1 R1
end
end Ev
end

section
set_option Elab.async false
set_option linter.all false
set_option maxRecDepth 100000
set_option maxHeartbeats 4000000
/-! Ev, part 23m: the rule of dict comprehensions. -/
namespace Ev
open PySem PySem.Spec PyProof.Rows L2
theorem dcL_noexc {vs : List Nat} {tg : Tg} {c : M Bool} {fk fv : M SV} : ∀ {ds : List D} {a : Dc} {S : List SV} {x : Str} {b : D} {d : List SV}, dcL vs tg c fk fv ds a S = .exc x b d → False
  | [], a, S, x, b, d, h => by cases h
  | y :: ds, a, S, x, b, d, h => by
    unfold dcL at h
    cases ep : tg.put y S with
    | none => rw [ep] at h; cases h
    | some S1 =>
      rw [ep] at h
      dsimp only at h
      cases ec : c S1 with
      | exc _ _ _ => rw [ec] at h; cases h
      | stuck => rw [ec] at h; cases h
      | ok t S2 =>
        rw [ec] at h
        simp only [noexc_ok, Res.bind_ok] at h
        cases t with
        | false => rw [if_neg (by decide)] at h; exact dcL_noexc h
        | true =>
          rw [if_pos rfl] at h
          cases ef : fk S2 with
          | exc _ _ _ => rw [ef] at h; cases h
          | stuck => rw [ef] at h; cases h
          | ok r S3 =>
            rw [ef] at h
            simp only [noexc_ok, Res.bind_ok] at h
            cases ey : r.shd with
            | none => rw [ey] at h; cases h
            | some k =>
              rw [ey] at h
              dsimp only at h
              cases ev : fv S3 with
              | exc _ _ _ => rw [ev] at h; cases h
              | stuck => rw [ev] at h; cases h
              | ok r2 S4 =>
                rw [ev] at h
                simp only [noexc_ok, Res.bind_ok] at h
                cases ez : r2.shd with
                | none => rw [ez] at h; cases h
                | some z =>
                  rw [ez] at h
                  dsimp only at h
                  cases ea : a.put k z with
                  | none => rw [ea] at h; cases h
                  | some a2 => rw [ea] at h; exact dcL_noexc h
section
variable {C : Ct} {σ : L2.St} {H : Hp}
theorem dc_imp {src : M Walk} {tg : Tg} {c : M Bool} {fk fv : M SV} {Q : VK} (nd : tg.ixs.Nodup) (h : tD C (dcM src tg c fk fv) σ H Q) : tDcX C.K C.w (tI C src) (tg.rd C.K) (tDT C.blk c) (tD C.blk fk) (tD C.blk fv) tg.ixs σ H Q := by
  obtain ⟨S, T, τ, Hs, hl, R, g⟩ := h
  refine tI_bind hl R g fun wk S1 υ J H1 Hs1 hu R1 ok g1 => fun p hp lo => ?_
  have g2 : C.Goes T τ σ (if wk.items.length ≤ sizeLine then (dcL tg.ixs tg c fk fv wk.items ⟨[], [], []⟩ (wipeS S1 tg.ixs)).bind fun a S2 => Res.ok (SV.ow (.d a.ks a.ws)) (backS S1 S2 tg.ixs) else Res.stuck)
    (fun r S' => ∀ v H' Hs', C.Rep (r :: (T ++ S')) (some v :: (τ ++ σ)) H' Hs' → Q v H') := g1
  by_cases hz : wk.items.length ≤ sizeLine
  · rw [if_pos hz] at g2
    obtain ⟨O, ο, ho, R2, back⟩ := Rep.aside (K := C.K) (w := C.w) (β := C.β) hu hl S1 nd (fun _ => rfl) R1
    have R3 : C.Rep (SV.ow (.d [] []) :: (wk.U ++ (O ++ (T ++ wipeS S1 tg.ixs)))) (some (V.ref p) :: (υ ++ (ο ++ (τ ++ L2.wipe σ tg.ixs)))) (upd H1 p (DicO p [])) Hs1 :=
      Rep.new_ow R2 hp ⟨rfl, [], [], [], ⟨lo, List.nodup_nil, Nat.zero_le _, [], upd_same, rfl, rfl, rfl⟩, rfl, DenL.nil, DenL.nil⟩
    have R4 := Rep.unswap hu R3
    have R5 : C.Rep (wk.U ++ (SV.ow (.d [] []) :: ((O ++ T) ++ wipeS S1 tg.ixs))) (υ ++ (some (V.ref p) :: ((ο ++ τ) ++ L2.wipe σ tg.ixs))) (upd H1 p (DicO p [])) Hs1 := by
      rw [List.append_assoc, List.append_assoc]; exact R4
    have L := dc_loop (C := C) (P := fun _ _ H => Q (.ref p) H) (a := ⟨[], [], []⟩) hu (by simp [ho, hl] : (O ++ T).length = (ο ++ τ).length) ok (fun i hi => hi) Dc.empty_ok (by simpa using hz) R5 (by
      show EndsD C wk.U (O ++ T) υ (ο ++ τ) p (L2.wipe σ tg.ixs) _ (dcL tg.ixs tg c fk fv wk.items ⟨[], [], []⟩ (wipeS S1 tg.ixs))
      cases e : dcL tg.ixs tg c fk fv wk.items ⟨[], [], []⟩ (wipeS S1 tg.ixs) with
      | exc a b d => exact (dcL_noexc e).elim
      | stuck => rw [e] at g2; exact g2.elim
      | ok a S2 =>
        rw [e] at g2
        intro H' Hs' R'
        refine g2 (.ref p) H' Hs' ?_
        have R6 := Rep.dropU hu R'
        exact back [SV.ow (.d a.ks a.ws)] [some (V.ref p)] S2 H' Hs' rfl (by simpa using R6))
    obtain ⟨Z, h0, hZ⟩ := L
    refine ⟨Z, h0, fun i m H hi => ?_⟩
    rcases hZ i m H hi with ⟨hs, _, _, hq⟩ | h
    · exact .inl ⟨hs, hq⟩
    · exact .inr h
  · rw [if_neg hz] at g2; exact g2.elim
end
section
variable {X : Cx} {β : Nat → Addr} {W : WX}
theorem pd_dc {kx vx tg src : Expr} {ifs : List Expr} {sco : Scope} {own : List (Str × Nat)} {pos : Pos} {fs : M Walk} {t : Tg} {c : M Bool} {fk fv : M SV} (calm : X.calm = true) (nodup : X.N.Nodup) (room : X.A.units + 8 < cLine) (ho : own.map (·.2) = t.ixs) (nd : t.ixs.Nodup)
    (walk : PId X β W tg src fs) (blk : BlkOk X.N X.env.scope sco own)
    (pg : ∀ (s : Shared) (H : Hp) (C : Addr) (cl : List (Str × Addr)) (fp : List Addr), PG (X.blk s H sco (compEnvC sco cl C X.env) fp) tg (t.rd X.K))
    (pt : ∀ (s : Shared) (H : Hp) (C : Addr) (cl : List (Str × Addr)) (fp : List Addr), PTs (X.blk s H sco (compEnvC sco cl C X.env) fp) ifs (tDT (cx X β W).blk c))
    (pk : ∀ (s : Shared) (H : Hp) (C : Addr) (cl : List (Str × Addr)) (fp : List Addr), PD (X.blk s H sco (compEnvC sco cl C X.env) fp) β (fun _ _ _ _ => False) kx fk)
    (pv : ∀ (s : Shared) (H : Hp) (C : Addr) (cl : List (Str × Addr)) (fp : List Addr), PD (X.blk s H sco (compEnvC sco cl C X.env) fp) β (fun _ _ _ _ => False) vx fv) (fold : ∀ x, foldedSetIterable src X.env x = pure x) :
    PD X β W (.DictComp kx vx [⟨tg, src, ifs, 0⟩] sco pos) (dcM fs t c fk fv) :=
  PE.imp (pe_dcX (tk := tD (cx X β W).blk fk) (tv := tD (cx X β W).blk fv) calm nodup room walk blk pg pt pk pv fold) fun _ _ _ h => by rw [ho]; exact dc_imp nd h
end
end Ev
end

section
set_option Elab.async false
set_option linter.all false
set_option maxRecDepth 100000
set_option maxHeartbeats 4000000
/-! Ev, part 23n: exceptions of the text as values: X(e), X(value = e), e.value, isinstance(e, X). -/
namespace Ev
open PySem PySem.Spec PyProof.Rows L2
/-- the exception classes: each name, and all that it is under (itself too) -/
abbrev XTab : Type := List (Str × List Str)
def tyAll : List String := ["NoneType", "bool", "int", "str", "tuple", "list"]
/-- what is known of one class -/
structure XOk (P : Program) (K : PySem.W.Frag) (mg : Str → Option Value) (t : XTab) (p : Str × List Str) : Prop where
  T : XCls P K (He.ga K p.1)
  m : mg p.1 = some (.ref (He.ga K p.1))
  db : (p.1 == ("__debug__" : Str)) = false
  is : ∀ q ∈ t, PySem.W.kitOne K (.ref (He.ga K q.1)) (.ref (He.ga K p.1)) = some (decide (p.1 ∈ q.2))
  ve : PySem.W.kitOne K (.ref (He.ga K p.1)) (.type "ValueError") = some (decide ((Str.ofString "ValueError") ∈ p.2))
  no : ∀ a ∈ tyAll, PySem.W.kitOne K (.type a) (.ref (He.ga K p.1)) = some false
  ex : ∀ q ∈ t, PySem.W.exmOne K (.ref (He.ga K q.1)) (.ref (He.ga K p.1)) = some (decide (p.1 ∈ q.2))
def xmkM (c : Str) (f : AF) : M SV := fun S => (runAs [f] S).bind fun as S' => match shL S' as with
  | some [d] => .ok (.sh (.exn c d)) S'
  | _ => .stuck
def xvalD (t : XTab) : List D → Option SV
  | [.exn c d] => if (t.any fun p => decide (p.1 = c)) = true then some (.sh d) else none
  | _ => none
def isxD (t : XTab) (x : Str) : List D → Option SV
  | [.exn c d] => (t.find? fun p => decide (p.1 = c)).map fun p => .sh (.bl (decide (x ∈ p.2)))
  | [d] => (tyD d).map fun _ => .sh (.bl false)
  | _ => none
theorem sub_xput {H : Hp} {a C dx : Addr} {y : V} (n1 : H a = none) (n2 : H dx = none) (ne : a ≠ dx) : Sub H (xput H a C dx y) := (Sub.upd n2).trans (Sub.upd (by rw [upd_ne ne]; exact n1))
section
variable {X : Cx} {β : Nat → Addr} {W : WX}
theorem Rep.xput {C : Ct} {T : List SV} {τ : List (Option V)} {H Hs : Hp} {c : Str} {d : D} {a dx : Addr} {y : V} (R : C.Rep T τ H Hs) (n1 : H a = none) (n2 : H dx = none) (ne : a ≠ dx) (q : Den C.K C.w Hs d y) :
    C.Rep (.sh (.exn c d) :: T) (some (.ref a) :: τ) (xput H a (He.ga C.K c) dx y) (Ev.xput Hs a (He.ga C.K c) dx y) := by
  have R3 := Rep.new (o := .xd [("value", y)]) R n2
  have R4 := Rep.new (p := a) (o := exq a (He.ga C.K c) dx) R3 (by rw [upd_ne ne]; exact n1)
  refine Rep.push_sh R4 ?_
  rw [Den]
  exact ⟨a, y, rfl, xput_at ne, q.sub (sub_xput (R.hs_none n1) (R.hs_none n2) ne)⟩
theorem xmk_imp {c : Str} {f : AF} {σ : L2.St} {H : Hp} {Q : VK} (h : tD (cx X β W) (xmkM c f) σ H Q) : tAF (cx X β W) f σ H fun y H1 => ∀ a dx, H1 a = none → H1 dx = none → a ≠ dx → Q (.ref a) (xput H1 a (He.ga X.K c) dx y) := by
  obtain ⟨S, T, τ, Hs, hl, R, g⟩ := h
  show tAs (cx X β W) [f] σ H (fun vs H1 => match vs with
    | [y] => ∀ a dx, H1 a = none → H1 dx = none → a ≠ dx → Q (.ref a) (xput H1 a (He.ga X.K c) dx y)
    | _ => False)
  refine tAs_use hl R g fun as vs S' H' Hs' R' hv hs g' => ?_
  cases e : shL S' as with
  | none => rw [e] at g'; exact g'.elim
  | some ds =>
    rw [e] at g'
    cases ds with
    | nil => exact g'.elim
    | cons d ds =>
      cases ds with
      | cons _ _ => exact g'.elim
      | nil =>
        obtain ⟨Hs2, R2, q⟩ := hs _ e
        rw [DenL.cons_iff] at q
        obtain ⟨y, r, rfl, q1, q2⟩ := q
        rw [DenL.nil_iff] at q2
        subst q2
        intro a dx n1 n2 ne
        exact g' (.ref a) _ _ (Rep.xput R2 n1 n2 ne q1)
theorem pd_xmk1 {t : XTab} {p : Str × List Str} {e : Expr} {f : AF} {q pos : Pos} (O : XOk X.prog X.K X.mg t p) (hr : Room 1 X.A) (hmg : X.mg "super" = none) (hg : Gl X p.1) (ha : PF X β W e f) (sa : isStar e = false) :
    PD X β W (.Call (.Name p.1 q) [e] [] pos) (xmkM p.1 f) :=
  PE.imp (pe_xmk1 O.T hr hmg hg O.m ha O.db (star_cons sa)) fun _ _ _ h => xmk_imp h
theorem pd_xmkK {t : XTab} {p : Str × List Str} {e : Expr} {f : AF} {q kpos pos : Pos} (O : XOk X.prog X.K X.mg t p) (hr : Room 1 X.A) (hmg : X.mg "super" = none) (hg : Gl X p.1) (ha : PF X β W e f) :
    PD X β W (.Call (.Name p.1 q) [] [⟨some "value", e, kpos⟩] pos) (xmkM p.1 f) :=
  PE.imp (pe_xmkK O.T hr hmg hg O.m ha O.db) fun _ _ _ h => xmk_imp h
theorem XAt.sub {H H' : Hp} {a C : Addr} {y : V} (s : Sub H H') (h : XAt H a C y) : XAt H' a C y := by
  obtain ⟨dx, h1, h2⟩ := h
  exact ⟨dx, s _ _ h1, s _ _ h2⟩
theorem View.exn {K : PySem.W.Frag} {w : World} {H Hs : Hp} {c : Str} {d : D} {v : V} (s : Sub Hs H) (h : View K w H Hs (.exn c d) v) : ∃ a y, v = .ref a ∧ XAt H a (He.ga K c) y ∧ Den K w Hs d y := by
  have h : Den K w Hs (.exn c d) v := h
  rw [Den] at h
  obtain ⟨a, y, e, h1, h2⟩ := h
  exact ⟨a, y, e, h1.sub s, h2⟩
/-- one argument, looked at -/
theorem op1_use {f : AF} {g : List D → Option SV} {σ : L2.St} {H : Hp} {Q : VK} {R1 : List V → Hp → Prop} (h : tD (cx X β W) (opM g [f]) σ H Q)
    (k : ∀ (d : D) (v : V) (T : List SV) (τ : List (Option V)) (H' Hs' : Hp) (sv : SV), (cx X β W).Rep T τ H' Hs' → View X.K X.w H' Hs' d v → g [d] = some sv → (∀ u H2 Hs2, (cx X β W).Rep (sv :: T) (some u :: τ) H2 Hs2 → Q u H2) → R1 [v] H') (h0 : g [] = none) (h2 : ∀ a b r, g (a :: b :: r) = none) : tAs (cx X β W) [f] σ H R1 := by
  obtain ⟨S, T, τ, Hs, hl, R, q⟩ := h
  refine tAs_use hl R q fun as vs S' H' Hs' R' hv hs g' => ?_
  cases e : datL S' as with
  | none => rw [e] at g'; exact g'.elim
  | some ds =>
    rw [e] at g'
    dsimp only at g'
    have vw := hv ds e
    cases ds with
    | nil => rw [h0] at g'; exact g'.elim
    | cons d ds =>
      cases ds with
      | cons _ _ => rw [h2] at g'; exact g'.elim
      | nil =>
        obtain ⟨v, _, rfl, v1, vw⟩ := vw.inv
        cases vw.inv0
        cases eg : g [d] with
        | none => rw [eg] at g'; exact g'.elim
        | some sv =>
          rw [eg] at g'
          exact k d v _ _ H' Hs' sv R' v1 eg g'
theorem pd_xval {t : XTab} {e : Expr} {f : AF} {pos : Pos} (O : ∀ p ∈ t, XOk X.prog X.K X.mg t p) (ha : PF X β W e f) (hb : attributeBase e "value" X.env (eval e X.env) = eval e X.env) : PD X β W (.Attribute e "value" pos) (opM (xvalD t) [f]) := by
  refine PE.imp (pe_xval ha hb) fun σ H Q h => ?_
  show tAs (cx X β W) [f] σ H (fun vs H1 => match vs with
    | [x] => ∃ a C y, x = .ref a ∧ XCls X.prog X.K C ∧ XAt H1 a C y ∧ Q y H1
    | _ => False)
  refine op1_use h (fun d v T τ H' Hs' sv R v1 e hq => ?_) rfl fun a b r => (by cases a <;> rfl)
  unfold xvalD at e
  split at e
  · rename_i c d' h1
    cases h1
    split at e
    · rename_i h2
      cases e
      obtain ⟨a, y, rfl, x1, q⟩ := View.exn R.sub v1
      simp only [List.any_eq_true, decide_eq_true_eq] at h2
      obtain ⟨p, hp, rfl⟩ := h2
      exact ⟨a, _, y, rfl, (O p hp).T, x1, hq y H' Hs' (Rep.push_sh R q)⟩
    · cases e
  · cases e
theorem isx_core {t : XTab} {e : Expr} {x : Str} {f : AF} {q p pos : Pos} {c : V} {cv : Value} (O : ∀ p ∈ t, XOk X.prog X.K X.mg t p) (hg : Gl X "isinstance") (hm : X.mg "isinstance" = none) (hx : PE X (.Name x q) (tC c)) (hc : ClsV c cv)
    (ask : ∀ p ∈ t, PySem.W.kitOne X.K (.ref (He.ga X.K p.1)) cv = some (decide (x ∈ p.2))) (no : ∀ a ∈ tyAll, PySem.W.kitOne X.K (.type a) cv = some false) (ha : PF X β W e f) (sa : isStar e = false) :
    PD X β W (.Call (.Name "isinstance" p) [e, .Name x q] [] pos) (opM (isxD t x) [f]) := by
  have hA : PA X [e, .Name x q] (tCons (tAF (cx X β W) f) (tCons (tC c) tNil)) := pa_cons ha (pa_cons hx pa_nil (star_cons rfl)) (star_cons sa)
  refine PE.imp (pe_callB (CallR.or call_isX call_isi) hg hm (by kernel_rfl) hA (by decide) (by decide) (star_cons sa) rfl) fun σ H Q h => ?_
  show tAs (cx X β W) [f] σ H fun vs H1 => rIsX X.prog X.K (vs ++ [c]) H1 Q ∨ rIsi X.K (vs ++ [c]) H1 Q
  refine op1_use h (fun d v T τ H' Hs' sv R v1 e hq => ?_) rfl fun a b r => (by cases a <;> rfl)
  have rest : ∀ a, tyD d = some a → sv = .sh (.bl false) → rIsX X.prog X.K ([v] ++ [c]) H' Q ∨ rIsi X.K ([v] ++ [c]) H' Q := fun a ha es => by
    subst es
    refine .inr ⟨v, c, .type a, cv, false, rfl, hc, v1.tyx ha, no a ?_, hq _ _ _ (push_bl R)⟩
    cases d <;> first | (cases ha; done) | (cases ha; decide)
  unfold isxD at e
  split at e
  · rename_i c' d' h1
    cases h1
    simp only [Option.map_eq_some_iff] at e
    obtain ⟨p, h2, rfl⟩ := e
    have hp := List.mem_of_find?_eq_some h2
    have hc' := List.find?_some h2
    simp only [decide_eq_true_eq] at hc'
    subst hc'
    obtain ⟨a, y, rfl, x1, q⟩ := View.exn R.sub v1
    exact .inl ⟨a, _, y, c, cv, _, rfl, (O p hp).T, x1, fun u r => hc.eq r, ask p hp, hq _ _ _ (push_bl R)⟩
  · rename_i d' _ h1
    cases h1
    simp only [Option.map_eq_some_iff] at e
    obtain ⟨a, h2, rfl⟩ := e
    exact rest a h2 rfl
  · cases e
theorem pd_isx {t : XTab} {p : Str × List Str} {e : Expr} {f : AF} {q r pos : Pos} (O : ∀ p ∈ t, XOk X.prog X.K X.mg t p) (hp : p ∈ t) (hg : Gl X "isinstance") (hm : X.mg "isinstance" = none) (hgx : Gl X p.1) (ha : PF X β W e f) (sa : isStar e = false) :
    PD X β W (.Call (.Name "isinstance" r) [e, .Name p.1 q] [] pos) (opM (isxD t p.1) [f]) :=
  isx_core (c := .ref (He.ga X.K p.1)) O hg hm (pe_glob (v := .ref (He.ga X.K p.1)) hgx (O p hp).m rfl (O p hp).db) (.own _) (fun q hq => (O p hp).is q hq) (O p hp).no ha sa
theorem pd_isv {t : XTab} {e : Expr} {f : AF} {q r pos : Pos} (O : ∀ p ∈ t, XOk X.prog X.K X.mg t p) (hg : Gl X "isinstance") (hm : X.mg "isinstance" = none) (hgx : Gl X "ValueError") (hmx : X.mg "ValueError" = none) (ha : PF X β W e f) (sa : isStar e = false) :
    PD X β W (.Call (.Name "isinstance" r) [e, .Name "ValueError" q] [] pos) (opM (isxD t "ValueError") [f]) :=
  isx_core (c := .ty "ValueError") O hg hm (pe_bltn (v := .ty "ValueError") (u := .type "ValueError") hgx hmx (by kernel_rfl) rfl (by decide) (by decide)) (.ty _) (fun q hq => (O q hq).ve) (fun a ha => by
    simp only [tyAll, List.mem_cons, List.not_mem_nil, or_false] at ha
    rcases ha with rfl | rfl | rfl | rfl | rfl | rfl <;> kernel_rfl) ha sa
end
end Ev
end

section
set_option Elab.async false
set_option linter.all false
set_option maxRecDepth 100000
set_option maxHeartbeats 4000000
/-! Ev, part 23p: list(range(a, b, c)), list(range(a, b)), {"a": 1, ..}[x]. -/
namespace Ev
open PySem PySem.Spec PyProof.Rows L2
/-! ### list(range(..)) -/
def lrgV (i k : Int) (n : Nat) : List V := (List.range n).map fun (m : Nat) => V.int (i + (m : Int) * k)
def lrgL (i k : Int) (n : Nat) : List D := (List.range n).map fun (m : Nat) => D.int (i + (m : Int) * k)
theorem den_lrg {K : PySem.W.Frag} {w : World} {H : Hp} (i k : Int) (n : Nat) : DenL K w H (lrgL i k n) (lrgV i k n) := by
  unfold lrgL lrgV
  generalize List.range n = l
  induction l with
  | nil => exact DenL.nil
  | cons m l ih => exact DenL.cons (Den.int.mpr rfl) ih
/-- how many, if all is small -/
def lrgN (i j k : Int) : Option Nat := if k ≠ 0 ∧ k.natAbs < 1073741824 ∧ Builtin.Range.small i j k = true ∧ Builtin.Range.rangeSize i j k = ((Builtin.Range.rangeSize i j k).toNat : Int) ∧ (Builtin.Range.rangeSize i j k).toNat ≤ 2 ^ 24 then some (Builtin.Range.rangeSize i j k).toNat else none
def lrgD : List D → Option SV
  | [.int i, .int j] => (lrgN i j 1).map fun n => .ow (.l (lrgL i 1 n))
  | [.int i, .int j, .int k] => (lrgN i j k).map fun n => .ow (.l (lrgL i k n))
  | _ => none
section
variable {X : Cx} {pins : List (Addr × Obj)} {σ : L2.St} {H : Hp} {s : Shared} {Q : VK}
theorem lrg_end {r : Addr} {i j k : Int} {t u v : Tok} {n : Nat} (hc : X.calm = true) (I : Inv X pins σ H s) (hr : IsRange s.heap r i j k t u v) (h : lrgN i j k = some n) (q : ∀ p, H p = none → Q (.ref p) (upd H p (.lst (lrgV i k n)))) :
    wpAny (model X.prog X.w) X.A (call (.type "list") [.ref r]) (EP X pins σ Q) X.xe s := by
  unfold lrgN at h
  split at h
  · rename_i hh
    obtain ⟨h1, h2, h3, h4, h5⟩ := hh
    have hn := Option.some.inj h
    rw [hn] at h4 h5
    refine call_list_range (n := n) (I.ok.hd hc) hr h3 h4 h5 fun h' tk acc c' hk e' hi => ?_
    have e : acc.toList.length = n := by rw [Array.length_toList]; exact hi.1
    have vs : Vals (lrgV i k n) acc.toList := by
      unfold lrgV
      rw [← e]
      refine vals_of_get acc.toList _ fun m w hm => ?_
      obtain ⟨z, rfl⟩ := hi.2 m w (by rw [← hm, Array.getElem?_toList])
      exact ⟨z, rfl⟩
    refine ⟨.ref s.heap.objs.size, upd H s.heap.objs.size (.lst (lrgV i k n)), I.laid hk (Nat.le_refl _) (show ObjOk X.prog X.w _ _ _ (.lst (lrgV i k n)) from ⟨?_, acc.toList, c', vs, ?_⟩), rfl, q _ (I.hok.fresh (Nat.le_refl _))⟩
    · unfold lrgV; rw [List.length_map, List.length_range, sizeLine_eq]; omega
    · rw [Array.toArray_toList]; exact e'
  · cases h
end
def tLrg (ta : TA) : TE := fun σ H Q => ta σ H fun vs H1 => (∃ i j n, vs = [.int i, .int j] ∧ lrgN i j 1 = some n ∧ ∀ p, H1 p = none → Q (.ref p) (upd H1 p (.lst (lrgV i 1 n)))) ∨
  ∃ i j k n, vs = [.int i, .int j, .int k] ∧ lrgN i j k = some n ∧ ∀ p, H1 p = none → Q (.ref p) (upd H1 p (.lst (lrgV i k n)))
section
variable {X : Cx} {e : Expr} {es : List Expr} {ta : TA} {p p2 pos pos2 : Pos}
theorem pe_lrg (hc : X.calm = true) (hg1 : Gl X "list") (hm1 : X.mg "list" = none) (hg : Gl X "range") (hm : X.mg "range" = none) (ha : PA X (e :: es) ta) (hs : starEach (e :: es) X.env = (false, eval e X.env) :: starEach es X.env) (hpl : (backTo pos2 (starEach es X.env)).any (·.1) = false) :
    PE X (.Call (.Name "list" p) [.Call (.Name "range" p2) (e :: es) [] pos2] [] pos) (tLrg ta) := by
  refine ⟨fun pins s σ H Q I h => ?_⟩
  have na : starEach [.Call (.Name "range" p2) (e :: es) [] pos2] X.env = (false, eval (.Call (.Name "range" p2) (e :: es) [] pos2) X.env) :: starEach [] X.env := rfl
  refine Call_ (ld_blt I hg1 hm1 boot_list (PyProof.Rows.callWith_type1 (args_cons (thn (Q := fun x s1 => ∃ r i j k t u v n H1, x = .ref r ∧ IsRange s1.heap r i j k t u v ∧ lrgN i j k = some n ∧ Inv X pins σ H1 s1 ∧ ∀ p, H1 p = none → Q (.ref p) (upd H1 p (.lst (lrgV i k n)))) ?_
    fun x s1 ⟨r, i, j, k, t, u, v, n, H1, ex, hr, hn, I1, q⟩ => args_nil ?_) na) na))
  · refine Call_ (ld_blt I hg hm boot_range (PyProof.Rows.callWith_type1 (thn (ha.run pos2 pins s σ H _ I h) fun us s1 ⟨vs, H1, I1, r1, q1⟩ => ?_) hs hpl))
    rcases q1 with ⟨i, j, n, ev, hn, q⟩ | ⟨i, j, k, n, ev, hn, q⟩
    · subst ev
      obtain ⟨u1, u2, rfl, ⟨t, rfl⟩, ⟨t', rfl⟩⟩ := vals2 r1
      exact call_range_2 ⟨_, i, j, 1, _, _, _, n, H1, rfl, IsRange.new _ _ _ _ _ _ _, hn, I1.kept fun b u e => Heap.get?_push_of_some _ e, q⟩
    · subst ev
      cases r1 with
      | cons r rr =>
        cases rr with
        | cons r' rr =>
          cases rr with
          | cons r'' rr =>
            cases rr
            obtain ⟨t, rfl⟩ := r
            obtain ⟨t', rfl⟩ := r'
            obtain ⟨t'', rfl⟩ := r''
            have hk : k ≠ 0 ∧ k.natAbs < 1073741824 := by
              unfold lrgN at hn
              split at hn
              · rename_i hh; exact ⟨hh.1, hh.2.1⟩
              · cases hn
            refine call_range_3 hk.1 ?_ (.inl (PyProof.noPylong_small hk.2))
            exact ⟨_, i, j, k, _, _, _, n, H1, rfl, IsRange.new _ _ _ _ _ _ _, hn, I1.kept (t' := s1.toks) fun b u e => Heap.get?_push_of_some _ e, q⟩
  · subst ex
    exact lrg_end hc I1 hr hn q
variable {β : Nat → Addr} {W : WX}
theorem pd_lrg {fs : List AF} (hc : X.calm = true) (hg1 : Gl X "list") (hm1 : X.mg "list" = none) (hg : Gl X "range") (hm : X.mg "range" = none) (ha : PDA X β W (e :: es) fs) (hs : starEach (e :: es) X.env = (false, eval e X.env) :: starEach es X.env) (hpl : (backTo pos2 (starEach es X.env)).any (·.1) = false) :
    PD X β W (.Call (.Name "list" p) [.Call (.Name "range" p2) (e :: es) [] pos2] [] pos) (opM lrgD fs) := by
  refine PE.imp (pe_lrg hc hg1 hm1 hg hm ha hs hpl) fun σ H Q ⟨S, T, τ, Hs, hl, R, g⟩ => ?_
  refine tAs_use hl R g fun as vs S' H' Hs' R' hv hs g' => ?_
  cases e : datL S' as with
  | none => rw [e] at g'; exact g'.elim
  | some ds =>
    rw [e] at g'
    dsimp only at g'
    have vw := hv ds e
    cases ef : lrgD ds with
    | none => rw [ef] at g'; exact g'.elim
    | some sv =>
      rw [ef] at g'
      unfold lrgD at ef
      split at ef
      · rename_i i j
        obtain ⟨x, _, rfl, v1, vw⟩ := vw.inv
        obtain ⟨y, _, rfl, v2, vw⟩ := vw.inv
        cases vw.inv0
        cases v1.isInt; cases v2.isInt
        simp only [Option.map_eq_some_iff] at ef
        obtain ⟨n, hn, rfl⟩ := ef
        exact .inl ⟨i, j, n, rfl, hn, fun p hp => g' _ _ _ (Rep.new_lst R' hp (den_lrg i 1 n))⟩
      · rename_i i j k
        obtain ⟨x, _, rfl, v1, vw⟩ := vw.inv
        obtain ⟨y, _, rfl, v2, vw⟩ := vw.inv
        obtain ⟨z, _, rfl, v3, vw⟩ := vw.inv
        cases vw.inv0
        cases v1.isInt; cases v2.isInt; cases v3.isInt
        simp only [Option.map_eq_some_iff] at ef
        obtain ⟨n, hn, rfl⟩ := ef
        exact .inr ⟨i, j, k, n, rfl, hn, fun p hp => g' _ _ _ (Rep.new_lst R' hp (den_lrg i k n))⟩
      · cases ef
end
/-! ### {"a": .., ..}[x]: constants, lists of constants -/
inductive Ca where
  | int (i : Int) | str (x : Str)
inductive Cv where
  | on (a : Ca) | ls (as : List Ca)
def Ca.d : Ca → D
  | .int i => .int i
  | .str x => .str x
def Ca.v : Ca → V
  | .int i => .int i
  | .str x => .str x
def Cv.d : Cv → D
  | .on a => a.d
  | .ls as => .lst (as.map Ca.d)
theorem den_ca {K w H} (a : Ca) : Den K w H a.d a.v := by
  cases a
  · exact Den.int.mpr rfl
  · exact Den.str.mpr rfl
theorem den_cas {K w H} : ∀ as : List Ca, DenL K w H (as.map Ca.d) (as.map Ca.v)
  | [] => DenL.nil
  | a :: as => DenL.cons (den_ca a) (den_cas as)
def Cv.ok : Cv → Bool
  | .on _ => true
  | .ls as => decide (as.length ≤ 1000)
def caOf : Expr → Option Ca
  | .Constant (.int i) _ _ => some (.int i)
  | .Constant (.str x) _ _ => some (.str x)
  | _ => none
def casOf : List Expr → Option (List Ca)
  | [] => some []
  | e :: es => match caOf e, casOf es with
    | some a, some as => some (a :: as)
    | _, _ => none
def cvOf : Expr → Option Cv
  | .List es _ => (casOf es).map .ls
  | e => (caOf e).map .on
def keyOf : Option Expr → Option Str
  | some (.Constant (.str x) _ _) => some x
  | _ => none
def pairsOf : List (Option Expr) → List Expr → Option (List (Str × Cv))
  | [], [] => some []
  | k :: ks, v :: vs => match keyOf k, cvOf v, pairsOf ks vs with
    | some x, some c, some r => some ((x, c) :: r)
    | _, _, _ => none
  | _, _ => none
def tCas : List Ca → TA
  | [] => tNil
  | a :: r => tCons (tC a.v) (tCas r)
def tCv : Cv → TE
  | .on a => tC a.v
  | .ls as => tLst (tCas as)
def tPs : List (Str × Cv) → List (TE × TE)
  | [] => []
  | p :: r => (tC (.str p.1), tCv p.2) :: tPs r
section
variable {X : Cx} {β : Nat → Addr} {W : WX}
theorem pe_ca {e : Expr} {a : Ca} (h : caOf e = some a) : PE X e (tC a.v) := by
  unfold caOf at h
  split at h <;> cases h
  · exact pe_int
  · exact pe_str
theorem pa_cas : ∀ {es : List Expr} {as : List Ca}, casOf es = some as → PA X es (tCas as)
  | [], as, h => by cases h; exact pa_nil
  | e :: es, as, h => by
    unfold casOf at h
    cases e1 : caOf e with
    | none => rw [e1] at h; cases h
    | some a =>
      cases e2 : casOf es with
      | none => rw [e1, e2] at h; cases h
      | some r =>
        rw [e1, e2] at h; cases h
        refine pa_cons (pe_ca e1) (pa_cas e2) ?_
        cases e <;> first | rfl | (cases e1; done)
theorem pe_cv {e : Expr} {c : Cv} (h : cvOf e = some c) : PE X e (tCv c) := by
  unfold cvOf at h
  split at h
  · simp only [Option.map_eq_some_iff] at h
    obtain ⟨as, ha, rfl⟩ := h
    exact pe_lst (pa_cas ha)
  · simp only [Option.map_eq_some_iff] at h
    obtain ⟨a, ha, rfl⟩ := h
    exact pe_ca ha
theorem pps_of {pos : Pos} : ∀ {ks : List (Option Expr)} {vs : List Expr} {kv : List (Str × Cv)}, pairsOf ks vs = some kv → PPs X pos ks vs (tPs kv) ∧ ks.all (·.isSome) = true ∧ ks.length = vs.length ∧ ks.length = kv.length
  | [], [], kv, h => by cases h; exact ⟨pps_nil, rfl, rfl, rfl⟩
  | [], _ :: _, _, h => by cases h
  | _ :: _, [], _, h => by cases h
  | k :: ks, v :: vs, kv, h => by
    unfold pairsOf at h
    cases e1 : keyOf k with
    | none => rw [e1] at h; cases h
    | some x =>
      cases e2 : cvOf v with
      | none => rw [e1, e2] at h; cases h
      | some c =>
        cases e3 : pairsOf ks vs with
        | none => rw [e1, e2, e3] at h; cases h
        | some r =>
          rw [e1, e2, e3] at h; cases h
          obtain ⟨h1, h2, h3, h4⟩ := pps_of (pos := pos) e3
          unfold keyOf at e1
          split at e1
          · cases e1
            exact ⟨pps_cons pe_str (pe_cv e2) h1, by rw [List.all_cons, h2]; rfl, by simp [h3], by simp [h4]⟩
          · cases e1
/-- the last one wins -/
def lookC : List (Str × Cv) → Str → Option Cv
  | [], _ => none
  | p :: r, x => match lookC r x with
    | some c => some c
    | none => if p.1 = x then some p.2 else none
def lastV : List (Key × V) → Key → Option V
  | [], _ => none
  | p :: r, k => match lastV r k with
    | some c => some c
    | none => if p.1 = k then some p.2 else none
theorem valV_merge (k : Key) : ∀ (more acc : List (Key × V)), valV (mergeK acc more) k = match lastV more k with
    | some v => some v
    | none => valV acc k
  | [], acc => rfl
  | p :: r, acc => by
    show valV (mergeK (putK acc p.1 p.2) r) k = _
    rw [valV_merge k r, show lastV (p :: r) k = (match lastV r k with
      | some c => some c
      | none => if p.1 = k then some p.2 else none) from rfl]
    cases lastV r k with
    | some v => rfl
    | none =>
      show valV (putK acc p.1 p.2) k = _
      rw [valV_put]
      by_cases h : p.1 = k
      · rw [if_pos h.symm, if_pos h]
      · rw [if_neg (fun z => h z.symm), if_neg h]
def zipK (kv : List (Str × Cv)) (vs : List V) : List (Key × V) := List.zipWith (fun q v => ((.inr q.1 : Key), v)) kv vs
theorem look_zip {K : PySem.W.Frag} {w : World} {H : Hp} {x : Str} : ∀ {kv : List (Str × Cv)} {vs : List V}, DenL K w H (kv.map fun q => q.2.d) vs →
    match lookC kv x with
    | some c => ∃ v, lastV (zipK kv vs) (.inr x) = some v ∧ Den K w H c.d v
    | none => lastV (zipK kv vs) (.inr x) = none
  | [], vs, h => by rw [List.map_nil, DenL.nil_iff] at h; subst h; rfl
  | q :: kv, vs, h => by
    rw [List.map_cons, DenL.cons_iff] at h
    obtain ⟨v, r, rfl, h1, h2⟩ := h
    have ih := look_zip (x := x) h2
    unfold lookC
    show match (match lookC kv x with
      | some c => some c
      | none => if q.1 = x then some q.2 else none) with
      | some c => ∃ u, (match lastV (zipK kv r) (.inr x) with
        | some c => some c
        | none => if (Sum.inr q.1 : Key) = .inr x then some v else none) = some u ∧ Den K w H c.d u
      | none => (match lastV (zipK kv r) (.inr x) with
        | some c => some c
        | none => if (Sum.inr q.1 : Key) = .inr x then some v else none) = none
    cases el : lookC kv x with
    | some c =>
      rw [el] at ih
      obtain ⟨u, e, d⟩ := ih
      rw [e]
      exact ⟨u, rfl, d⟩
    | none =>
      rw [el] at ih
      have ih : lastV (zipK kv r) (.inr x) = none := ih
      rw [ih]
      by_cases e : q.1 = x
      · rw [if_pos e]
        exact ⟨v, if_pos (by rw [e]), h1⟩
      · rw [if_neg e]
        exact if_neg (fun z => e (Sum.inr.inj z))
theorem zip_ps : ∀ {kv : List (Str × Cv)} {ps : List (V × V)}, ps.map (·.1) = kv.map (fun q => V.str q.1) → ps = (zipK kv (ps.map (·.2))).map fun p => (kV p.1, p.2)
  | [], [], _ => rfl
  | [], _ :: _, h => by cases h
  | _ :: _, [], h => by cases h
  | q :: kv, p :: ps, h => by
    rw [List.map_cons, List.map_cons, List.cons.injEq] at h
    obtain ⟨p1, p2⟩ := p
    have h1 : p1 = V.str q.1 := h.1
    subst h1
    show (V.str q.1, p2) :: ps = (V.str q.1, p2) :: (zipK kv (ps.map (·.2))).map fun p => (kV p.1, p.2)
    rw [← zip_ps h.2]
theorem tcas_at : ∀ {as : List Ca} {σ : L2.St} {H : Hp} {Q : List V → Hp → Prop}, Q (as.map Ca.v) H → tCas as σ H Q
  | [], _, _, _, h => h
  | a :: as, _, _, _, h => tcas_at (as := as) h
theorem upd_comm {H : Hp} {a b : Addr} {o u : HO} (ne : a ≠ b) : upd (upd H a o) b u = upd (upd H b u) a o := by
  funext c
  by_cases h1 : c = a
  · subst h1
    rw [upd_same, upd_ne ne, upd_same]
  · by_cases h2 : c = b
    · subst h2
      rw [upd_same, upd_ne h1, upd_same]
    · rw [upd_ne h2, upd_ne h1, upd_ne h1, upd_ne h2]
/-- the pairs are made: the dict stands at p -/
theorem tps_run {C : Ct} {T : List SV} {τ : List (Option V)} {σ : L2.St} {p : Addr} : ∀ {kv : List (Str × Cv)} {H Hs : Hp} {Q : List (V × V) → Hp → Prop}, kv.all (fun q => q.2.ok) = true → C.Rep T τ H Hs → H p = none →
    (∀ ps H1 Hs1, C.Rep T τ H1 Hs1 → H1 p = none → Sub Hs Hs1 → ps.map (·.1) = kv.map (fun q => V.str q.1) → DenL C.K C.w Hs1 (kv.map fun q => q.2.d) (ps.map (·.2)) → Q ps (upd H1 p (.dK []))) → tPairs (tPs kv) σ (upd H p (.dK [])) Q
  | [], H, Hs, Q, _, R, hp, h => h [] H Hs R hp Sub.refl rfl DenL.nil
  | (x, c) :: kv, H, Hs, Q, hz, R, hp, h => by
    rw [List.all_cons, Bool.and_eq_true] at hz
    obtain ⟨hz1, hz⟩ := hz
    show tCv c σ (upd H p (.dK [])) fun y H2 => tPairs (tPs kv) σ H2 fun ps H3 => Q ((V.str x, y) :: ps) H3
    cases c with
    | on a =>
      show tPairs (tPs kv) σ (upd H p (.dK [])) fun ps H3 => Q ((V.str x, a.v) :: ps) H3
      refine tps_run hz R hp fun ps H1 Hs1 R1 hp1 s1 e1 q1 => h _ H1 Hs1 R1 hp1 s1 (by simp [e1]) (DenL.cons (den_ca a) q1)
    | ls as =>
      refine tcas_at ⟨?_, fun q hq => ?_⟩
      · rw [List.length_map, sizeLine_eq]
        have := of_decide_eq_true hz1
        omega
      · have ne : q ≠ p := fun z => by rw [z, upd_same] at hq; cases hq
        rw [upd_ne ne] at hq
        rw [upd_comm (Ne.symm ne)]
        have R1 := Rep.new (o := .lst (as.map Ca.v)) R hq
        refine tps_run hz R1 (by rw [upd_ne (Ne.symm ne)]; exact hp) fun ps H1 Hs1 R2 hp1 s1 e1 q1 => h _ H1 Hs1 R2 hp1 ((Sub.upd (R.hs_none hq)).trans s1) (by simp [e1]) (DenL.cons ?_ q1)
        show Den _ _ _ (.lst (as.map Ca.d)) _
        rw [Den]
        exact ⟨q, _, rfl, .inl (.inl (s1 _ _ upd_same)), den_cas as⟩
/-- {..}[name] -/
def dixM (kv : List (Str × Cv)) (i : Nat) : M SV := fun S => match S[i]? with
  | some (.sh (.str x)) => (match lookC kv x with
    | some c => .ok (.sh c.d) S
    | none => .stuck)
  | _ => .stuck
theorem pd_dix {ks : List (Option Expr)} {vs : List Expr} {kv : List (Str × Cv)} {i : Nat} {x : Str} {pk px pos : Pos} (hu : X.A.units + 1 < cLine) (hkv : pairsOf ks vs = some kv) (hz : kv.all (fun q => q.2.ok) = true) (h0 : ks ≠ []) (h15 : ks.length ≤ 15)
    (hN : X.N[i]? = some x) (hv : Vis X.env.scope x) (h1 : (x == ("__debug__" : Str)) = false) (h2 : (x == ("__classdict__" : Str)) = false) : PD X β W (.Subscript (.Dict ks vs pk) (.Name x px) pos) (dixM kv i) := by
  obtain ⟨p1, p2, p3, p4⟩ := pps_of (X := X) (pos := pk) hkv
  refine PE.imp (pe_dget hu (pe_disp p1 p2 p3 h0 h15) (pe_var hN hv h1 h2) (fun o i => rfl)) fun σ H Q ⟨S, T, τ, Hs, hl, R, g⟩ => ?_
  unfold dixM at g
  cases es : S[i]? with
  | none => rw [es] at g; exact g.elim
  | some s =>
    rw [es] at g
    cases s with
    | un => exact g.elim
    | ow o => exact g.elim
    | bo j o => exact g.elim
    | sh d =>
      cases d <;> first | exact g.elim | skip
      rename_i z
      dsimp only at g
      cases ec : lookC kv z with
      | none => rw [ec] at g; exact g.elim
      | some c =>
        rw [ec] at g
        intro p hp
        refine tps_run hz R hp fun ps H1 Hs1 R1 hp1 s1 e1 q1 => ⟨upd_same, zipK kv (ps.map (·.2)), zip_ps e1, ?_, ?_⟩
        · unfold zipK
          rw [List.length_zipWith]
          omega
        · have R2 : (cx X β W).Rep S σ H1 Hs1 := Rep.dropU hl R1
          obtain ⟨u, eu, qu⟩ := R2.sh es
          have := Den.str.mp qu
          subst this
          have lz := look_zip (x := z) q1
          rw [ec] at lz
          obtain ⟨v, ev, dv⟩ := lz
          refine ⟨.str z, eu, p, v, rfl, .inl ⟨_, .inr z, .inl upd_same, rfl, ?_⟩, ?_⟩
          · rw [valV_merge, ev]
          · have e2 : upd (upd H1 p (.dK [])) p (.dK (mergeK [] (zipK kv (ps.map (·.2))))) = upd H1 p (.dK (mergeK [] (zipK kv (ps.map (·.2))))) := by
              funext b
              by_cases hb : b = p
              · subst hb; rw [upd_same, upd_same]
              · rw [upd_ne hb, upd_ne hb, upd_ne hb]
            rw [e2]
            exact g v _ Hs1 (Rep.push0 (Rep.newH R1 hp1) dv)
end
end Ev
end

section
set_option Elab.async false
set_option linter.all false
set_option maxRecDepth 100000
set_option maxHeartbeats 4000000
/-! Ev, part 23q: x.index(y), x.count(y) of lists and tuples; enumerate of tuples. -/
namespace Ev
open PySem PySem.Spec PyProof.Rows L2
section
variable {X : Cx}
/-- a sequence of data and its items in the heap -/
theorem dp_list {pins : List (Addr × Obj)} {σ : L2.St} {H : Hp} {s : Shared} (I : Inv X pins σ H s) {a : Addr} {ds : List PyData} (h : Dp X.K H (.ref a) (.list ds)) : ∃ its as, PlainL s.heap a its.toArray ∧ ReadsAll s.heap its ds as ∧ its.length = ds.length ∧ ds.length ≤ sizeLine := by
  cases h with
  | lst hs ha =>
    obtain ⟨its, rv, p, hz⟩ := I.list hs
    obtain ⟨as, h4⟩ := Dp.readsAll I ds _ its ha rv
    have := SeqAt.ReadsAll.length ds its as h4
    have := rv.length
    exact ⟨its, as, p, h4, by omega, by omega⟩
theorem dp_tup {pins : List (Addr × Obj)} {σ : L2.St} {H : Hp} {s : Shared} (I : Inv X pins σ H s) {a : Addr} {ds : List PyData} (h : Dp X.K H (.ref a) (.tuple ds)) : ∃ its as, IsTup s.heap a its.toArray ∧ ReadsAll s.heap its ds as ∧ its.length = ds.length ∧ ds.length ≤ sizeLine := by
  cases h with
  | tup hs ha =>
    obtain ⟨its, rv, p, hz⟩ := I.tuple hs
    obtain ⟨as, h4⟩ := Dp.readsAll I ds _ its ha rv
    have := SeqAt.ReadsAll.length ds its as h4
    have := rv.length
    exact ⟨its, as, p, h4, by omega, by omega⟩
/-- the first place: what stands there, and before it -/
theorem place_at {h : Heap} {its : List Value} {ds : List PyData} {as : List Addr} {d : PyData} {j : Nat} (hr : ReadsAll h its ds as) (hx : PyData.canLayAll0 ds = true) (hj : ds.findIdx? (fun z => PyData.eqv z d) = some j) :
    ∃ hj : j < its.toArray.size, PyData.eqv (SeqAt.readOf h its.toArray[j]) d = true ∧ ∀ m (hm : m < its.toArray.size), m < j → PyData.eqv (SeqAt.readOf h its.toArray[m]) d = false := by
  have hm : its.map (SeqAt.readOf h) = ds := SeqAt.readsAll_map ds its as hx hr
  subst hm
  obtain ⟨h1, h2, h3⟩ := List.findIdx?_eq_some_iff_getElem.mp hj
  rw [List.length_map] at h1
  refine ⟨by simpa using h1, by simpa using h2, fun m hm hmj => ?_⟩
  have h4 := h3 m hmj
  simpa using h4
def rIdxL (K : PySem.W.Frag) : V → V → Hp → VK → Prop := fun x y H Q => ∃ (a : Addr) (d : PyData) (ds : List PyData) (j : Nat), x = V.ref a ∧ Dp K H (V.ref a) (.list ds) ∧ Dp K H y d ∧ SeqAt.shaped (.list ds) = true ∧ SeqAt.shaped d = true ∧ ds.findIdx? (fun z => PyData.eqv z d) = some j ∧ Q (.int (j : Nat)) H
def rIdxT (K : PySem.W.Frag) : V → V → Hp → VK → Prop := fun x y H Q => ∃ (a : Addr) (d : PyData) (ds : List PyData) (j : Nat), x = V.ref a ∧ Dp K H (V.ref a) (.tuple ds) ∧ Dp K H y d ∧ SeqAt.shaped (.tuple ds) = true ∧ SeqAt.shaped d = true ∧ ds.findIdx? (fun z => PyData.eqv z d) = some j ∧ Q (.int (j : Nat)) H
def rCntL (K : PySem.W.Frag) : V → V → Hp → VK → Prop := fun x y H Q => ∃ (a : Addr) (d : PyData) (ds : List PyData), x = V.ref a ∧ Dp K H (V.ref a) (.list ds) ∧ Dp K H y d ∧ SeqAt.shaped (.list ds) = true ∧ SeqAt.shaped d = true ∧ Q (.int (ds.countP fun z => PyData.eqv z d : Nat)) H
def rCntT (K : PySem.W.Frag) : V → V → Hp → VK → Prop := fun x y H Q => ∃ (a : Addr) (d : PyData) (ds : List PyData), x = V.ref a ∧ Dp K H (V.ref a) (.tuple ds) ∧ Dp K H y d ∧ SeqAt.shaped (.tuple ds) = true ∧ SeqAt.shaped d = true ∧ Q (.int (ds.countP fun z => PyData.eqv z d : Nat)) H
/-- a method of one argument -/
def MtO (X : Cx) (id : String) (r : V → V → Hp → VK → Prop) : Prop :=
  ∀ (pins : List (Addr × Obj)) (s : Shared) (σ : L2.St) (H : Hp) (x y : V) (v u : Value) (Q : VK), Inv X pins σ H s → RelV x v → RelV y u → r x y H Q → wpAny (model X.prog X.w) X.A (call (.builtin id) [v, u]) (EP X pins σ Q) X.xe s
theorem mo_idxL (hu : X.A.units + 65 < cLine) : MtO X "list.index" (rIdxL X.K) := fun pins s σ H x y v u Q I rx ry ⟨a, d, ds, j, ex, hl, hy, sl, sd, hj, q⟩ => by
  subst ex; cases rx
  obtain ⟨bs, r1⟩ := Dp.reads I d y u hy ry
  obtain ⟨its, as, ⟨⟨cl, di, da, sls⟩, n, ho, hc, hdn, hdt⟩, h4, hn, hz⟩ := dp_list I hl
  cases (hc : cl = _); cases (hdt : da = _)
  have hxs : PyData.canLayAll0 ds = true := SeqAt.canLay_of_shaped sl
  obtain ⟨hjs, hit, hno⟩ := place_at h4 hxs hj
  have hsl := sizeLine_eq
  have hj2 : j < its.length := by simpa using hjs
  refine call_meets PySem.F.slot_list_index ⟨_, ho, rfl⟩ PySem.F.entry_list_index (PySem.F.args_list_index_2 _ _) (SeqAt.list_indexAt a its.toArray n di sls u (fun z => PyData.eqv (SeqAt.readOf s.heap z) d) j hjs (by omega) hit hno) ⟨ho, ?_, .int (j : Nat), H, I.tok _, ⟨_, rfl⟩, q⟩
  exact SeqAt.items_eqAt (vs := its.toArray) h4 r1 hxs (SeqAt.canLay_of_shaped sd) (room_in_shaped sd hu)
theorem mo_idxT (hu : X.A.units + 65 < cLine) : MtO X "tuple.index" (rIdxT X.K) := fun pins s σ H x y v u Q I rx ry ⟨a, d, ds, j, ex, hl, hy, sl, sd, hj, q⟩ => by
  subst ex; cases rx
  obtain ⟨bs, r1⟩ := Dp.reads I d y u hy ry
  obtain ⟨its, as, ⟨⟨cl, di, da, sls⟩, ho, hc, n, hdt⟩, h4, hn, hz⟩ := dp_tup I hl
  cases (hc : cl = _); cases (hdt : da = _)
  have hxs : PyData.canLayAll0 ds = true := SeqAt.canLay_of_shaped sl
  obtain ⟨hjs, hit, hno⟩ := place_at h4 hxs hj
  refine call_meets PySem.F.slot_tuple_index ⟨_, ho, rfl⟩ PySem.F.entry_tuple_index (PySem.F.args_tuple_index_2 _ _) (TI.tuple_indexAt a its.toArray n di sls u (fun z => PyData.eqv (SeqAt.readOf s.heap z) d) j hjs hit hno) ⟨ho, ?_, .int (j : Nat), H, I.tok _, ⟨_, rfl⟩, q⟩
  exact SeqAt.items_eqAt (vs := its.toArray) h4 r1 hxs (SeqAt.canLay_of_shaped sd) (room_in_shaped sd hu)
theorem count_map {h : Heap} {its : List Value} {ds : List PyData} {as : List Addr} {d : PyData} (hr : ReadsAll h its ds as) (hx : PyData.canLayAll0 ds = true) : its.toArray.toList.countP (fun u => PyData.eqv (SeqAt.readOf h u) d) = ds.countP fun z => PyData.eqv z d := by
  have hm : its.map (SeqAt.readOf h) = ds := SeqAt.readsAll_map ds its as hx hr
  rw [← hm, List.countP_map]
  rfl
theorem mo_cntL (hu : X.A.units + 65 < cLine) : MtO X "list.count" (rCntL X.K) := fun pins s σ H x y v u Q I rx ry ⟨a, d, ds, ex, hl, hy, sl, sd, q⟩ => by
  subst ex; cases rx
  obtain ⟨bs, r1⟩ := Dp.reads I d y u hy ry
  obtain ⟨its, as, ⟨⟨cl, di, da, sls⟩, n, ho, hc, hdn, hdt⟩, h4, hn, hz⟩ := dp_list I hl
  cases (hc : cl = _); cases (hdt : da = _)
  have hxs : PyData.canLayAll0 ds = true := SeqAt.canLay_of_shaped sl
  have hcm := count_map (d := d) h4 hxs
  refine call_meets PySem.F.slot_list_count ⟨_, ho, rfl⟩ PySem.F.entry_list_count (PySem.F.args_list_count_2 _ _) (SeqAt.list_countAt a its.toArray n di sls u (fun z => PyData.eqv (SeqAt.readOf s.heap z) d)) ⟨ho, ?_, ?_⟩
  · exact SeqAt.items_eqAt (vs := its.toArray) h4 r1 hxs (SeqAt.canLay_of_shaped sd) (room_in_shaped sd hu)
  · rw [hcm]
    exact ⟨.int _, H, I.tok _, ⟨_, rfl⟩, q⟩
theorem mo_cntT (hu : X.A.units + 65 < cLine) : MtO X "tuple.count" (rCntT X.K) := fun pins s σ H x y v u Q I rx ry ⟨a, d, ds, ex, hl, hy, sl, sd, q⟩ => by
  subst ex; cases rx
  obtain ⟨bs, r1⟩ := Dp.reads I d y u hy ry
  obtain ⟨its, as, ⟨⟨cl, di, da, sls⟩, ho, hc, n, hdt⟩, h4, hn, hz⟩ := dp_tup I hl
  cases (hc : cl = _); cases (hdt : da = _)
  have hxs : PyData.canLayAll0 ds = true := SeqAt.canLay_of_shaped sl
  have hcm := count_map (d := d) h4 hxs
  refine call_meets PySem.F.slot_tuple_count ⟨_, ho, rfl⟩ PySem.F.entry_tuple_count (PySem.F.args_tuple_count_2 _ _) (SeqAt.tuple_countAt a its.toArray n di sls u (fun z => PyData.eqv (SeqAt.readOf s.heap z) d)) ⟨ho, ?_, ?_⟩
  · exact SeqAt.items_eqAt (vs := its.toArray) h4 r1 hxs (SeqAt.canLay_of_shaped sd) (room_in_shaped sd hu)
  · rw [hcm]
    exact ⟨.int _, H, I.tok _, ⟨_, rfl⟩, q⟩
/-- o.m(e), o a list or a tuple -/
def tLT (K : PySem.W.Frag) (rL rT : V → V → Hp → VK → Prop) (to te : TE) : TE := fun σ H Q => to σ H fun x H1 => (∃ a xs, x = .ref a ∧ SqL K H1 a xs ∧ te σ H1 fun y H2 => rL x y H2 Q) ∨ (∃ a xs, x = .ref a ∧ TpN H1 a xs ∧ te σ H1 fun y H2 => rT x y H2 Q)
theorem pe_lt {o e : Expr} {to te : TE} {nm : Str} {idL idT : String} {rL rT : V → V → Hp → VK → Prop} {apos pos : Pos} (sL : PySem.Slot "list" nm idL) (sT : PySem.Slot "tuple" nm idT) (yL : typeOf (.builtin idL) = pure (.type "method_descriptor")) (yT : typeOf (.builtin idT) = pure (.type "method_descriptor"))
    (mL : MtO X idL rL) (mT : MtO X idT rT) (ho : PE X o to) (he : PE X e te) (hs : isStar e = false)
    (hbase : attributeBase o nm X.env (eval o X.env) = eval o X.env)
    (hfew : ((backTo pos (starEach [e] X.env)).all (fun x => !x.1) && (backToKw pos (keywordEach [] X.env)).all (fun x => x.1.isSome) && decide ([e].length + ([] : List Keyword).length + (if ([] : List Keyword).isEmpty then 0 else 1) < 30)) = true)
    (hline : (apos.endLine == pos.line) = true) (hplain : (backTo pos (starEach [] X.env)).any (·.1) = false) : PE X (.Call (.Attribute o nm apos) [e] [] pos) (tLT X.K rL rT to te) := by
  refine ⟨fun pins s σ H Q I h => wpAny_Call_method_late hbase hfew hline rfl (thn (ho.run pins s σ H _ I h) fun v s1 ⟨x, H1, I1, r1, q1⟩ => ?_)⟩
  have ha : PA X [e] (tCons te tNil) := pa_cons he pa_nil (star_cons hs)
  have fin : ∀ {id : String} {r : V → V → Hp → VK → Prop}, MtO X id r → (te σ H1 fun y H2 => r x y H2 Q) → wpAny (model X.prog X.w) X.A (callWith pos (.builtin id) [v] (backTo pos (starEach [e] X.env)) []) (EP X pins σ Q) X.xe s1 := by
    intro id r m hq
    have q2 : tCons te tNil σ H1 fun ys H2 => match ys with
        | [y] => r x y H2 Q
        | _ => False := hq
    have hA := ha.run pos pins s1 σ H1 _ I1 q2
    rw [star_cons hs] at hA ⊢
    refine Calls.callWith_builtin (by show (false || (backTo pos (starEach [] X.env)).any (·.1)) = false; rw [hplain]; rfl) (Calls.evalArgs_plain ?_)
    refine thn hA fun us s2 ⟨vs, H2, I2, r2, q3⟩ => ?_
    cases r2 with
    | nil => exact q3.elim
    | cons ry rt =>
      cases rt with
      | nil => exact m pins s2 σ H2 x _ v _ Q I2 r1 ry q3
      | cons _ _ => exact q3.elim
  rcases q1 with ⟨a, xs, ex, hq, q⟩ | ⟨a, xs, ex, ⟨ob, hq, hd⟩, q⟩
  · subst ex
    cases r1
    obtain ⟨its, _, pl, _⟩ := I1.list hq
    refine ⟨"list", idL, PySem.F.plainAttrs_list, sL, yL, pl.isList.typeIs, fun b e => ?_, fin mL q⟩
    cases e
    obtain ⟨o, n, e, c, hd, _⟩ := pl
    exact ⟨o, e, hd⟩
  · subst ex
    cases r1
    have hob := (I1.hok a _ hq).1
    obtain ⟨its, _, pt, _⟩ := I1.tuple (show SqT X.K H1 a xs from .inl (.inr ⟨ob, hq⟩))
    refine ⟨"tuple", idT, PySem.F.plainAttrs_tuple, sT, yT, pt.typeIs, fun b e => ?_, fin mT q⟩
    cases e
    exact ⟨ob, hob, hd⟩
end
/-! ### on data -/
def idxD : List D → Option SV
  | [.lst ys, a] => (match shp a, shp (.lst ys) with
    | some p, some (.list qs) => (qs.findIdx? fun z => PyData.eqv z p).map fun (j : Nat) => .sh (.int j)
    | _, _ => none)
  | [.tup ys, a] => (match shp a, shp (.tup ys) with
    | some p, some (.tuple qs) => (qs.findIdx? fun z => PyData.eqv z p).map fun (j : Nat) => .sh (.int j)
    | _, _ => none)
  | _ => none
def cntD : List D → Option SV
  | [.lst ys, a] => (match shp a, shp (.lst ys) with
    | some p, some (.list qs) => some (.sh (.int (qs.countP fun z => PyData.eqv z p : Nat)))
    | _, _ => none)
  | [.tup ys, a] => (match shp a, shp (.tup ys) with
    | some p, some (.tuple qs) => some (.sh (.int (qs.countP fun z => PyData.eqv z p : Nat)))
    | _, _ => none)
  | _ => none
def onL (g : List D → Option SV) : List D → Option SV
  | [.lst ys, a] => g [.lst ys, a]
  | _ => none
def onT (g : List D → Option SV) : List D → Option SV
  | [.tup ys, a] => g [.tup ys, a]
  | _ => none
def lmM (g : List D → Option SV) (i : Nat) (fe : AF) : M SV := fun S => match S[i]?.bind SV.dat? with
  | some (.lst _) => opM (onL g) [.pk i, fe] S
  | some (.tup _) => opM (onT g) [.pk i, fe] S
  | _ => .stuck
section
variable {C : Ct}
theorem ok_idxL : OkOp C (two (rIdxL C.K)) (onL idxD) := ok_two (fun T τ H Hs x y a b sv Q R v1 v2 e hq => by
  unfold onL at e
  split at e
  · rename_i ys a0 h0
    cases h0
    dsimp only [idxD] at e
    split at e
    · rename_i p qs e1 e2
      cases ej : qs.findIdx? (fun z => PyData.eqv z p) with
      | none => rw [ej] at e; cases e
      | some j =>
        rw [ej] at e
        cases e
        obtain ⟨c, _, rfl, _⟩ := id v1
        exact ⟨c, p, qs, j, rfl, v1.dp R.sub (shp_eq e2).1, v2.dp R.sub (shp_eq e1).1, (shp_eq e2).2, (shp_eq e1).2, ej, hq _ _ _ (Rep.push_sh R (Den.int.mpr rfl))⟩
    · cases e
  · cases e) fun ds sv e => by unfold onL at e; split at e <;> first | exact ⟨_, _, rfl⟩ | cases e
theorem ok_idxT : OkOp C (two (rIdxT C.K)) (onT idxD) := ok_two (fun T τ H Hs x y a b sv Q R v1 v2 e hq => by
  unfold onT at e
  split at e
  · rename_i ys a0 h0
    cases h0
    dsimp only [idxD] at e
    split at e
    · rename_i p qs e1 e2
      cases ej : qs.findIdx? (fun z => PyData.eqv z p) with
      | none => rw [ej] at e; cases e
      | some j =>
        rw [ej] at e
        cases e
        obtain ⟨c, _, rfl, _⟩ := id v1
        exact ⟨c, p, qs, j, rfl, v1.dp R.sub (shp_eq e2).1, v2.dp R.sub (shp_eq e1).1, (shp_eq e2).2, (shp_eq e1).2, ej, hq _ _ _ (Rep.push_sh R (Den.int.mpr rfl))⟩
    · cases e
  · cases e) fun ds sv e => by unfold onT at e; split at e <;> first | exact ⟨_, _, rfl⟩ | cases e
theorem ok_cntL : OkOp C (two (rCntL C.K)) (onL cntD) := ok_two (fun T τ H Hs x y a b sv Q R v1 v2 e hq => by
  unfold onL at e
  split at e
  · rename_i ys a0 h0
    cases h0
    dsimp only [cntD] at e
    split at e
    · rename_i p qs e1 e2
      cases e
      obtain ⟨c, _, rfl, _⟩ := id v1
      exact ⟨c, p, qs, rfl, v1.dp R.sub (shp_eq e2).1, v2.dp R.sub (shp_eq e1).1, (shp_eq e2).2, (shp_eq e1).2, hq _ _ _ (Rep.push_sh R (Den.int.mpr rfl))⟩
    · cases e
  · cases e) fun ds sv e => by unfold onL at e; split at e <;> first | exact ⟨_, _, rfl⟩ | cases e
theorem ok_cntT : OkOp C (two (rCntT C.K)) (onT cntD) := ok_two (fun T τ H Hs x y a b sv Q R v1 v2 e hq => by
  unfold onT at e
  split at e
  · rename_i ys a0 h0
    cases h0
    dsimp only [cntD] at e
    split at e
    · rename_i p qs e1 e2
      cases e
      obtain ⟨c, _, rfl, _⟩ := id v1
      exact ⟨c, p, qs, rfl, v1.dp R.sub (shp_eq e2).1, v2.dp R.sub (shp_eq e1).1, (shp_eq e2).2, (shp_eq e1).2, hq _ _ _ (Rep.push_sh R (Den.int.mpr rfl))⟩
    · cases e
  · cases e) fun ds sv e => by unfold onT at e; split at e <;> first | exact ⟨_, _, rfl⟩ | cases e
end
section
variable {X : Cx} {β : Nat → Addr} {W : WX}
theorem pd_lt {g : List D → Option SV} {i : Nat} {x nm : Str} {e : Expr} {fe : AF} {p apos pos : Pos} {idL idT : String} {rL rT : V → V → Hp → VK → Prop} (sL : PySem.Slot "list" nm idL) (sT : PySem.Slot "tuple" nm idT) (yL : typeOf (.builtin idL) = pure (.type "method_descriptor")) (yT : typeOf (.builtin idT) = pure (.type "method_descriptor"))
    (mL : MtO X idL rL) (mT : MtO X idT rT) (oL : OkOp (cx X β W) (two rL) (onL g)) (oT : OkOp (cx X β W) (two rT) (onT g))
    (hN : X.N[i]? = some x) (hvs : Vis X.env.scope x) (h1 : (x == ("__debug__" : Str)) = false) (h2 : (x == ("__classdict__" : Str)) = false) (he : PF X β W e fe) (hst : isStar e = false)
    (hbase : attributeBase (.Name x p) nm X.env (eval (.Name x p) X.env) = eval (.Name x p) X.env)
    (hfew : ((backTo pos (starEach [e] X.env)).all (fun x => !x.1) && (backToKw pos (keywordEach [] X.env)).all (fun x => x.1.isSome) && decide ([e].length + ([] : List Keyword).length + (if ([] : List Keyword).isEmpty then 0 else 1) < 30)) = true)
    (hline : (apos.endLine == pos.line) = true) (hplain : (backTo pos (starEach [] X.env)).any (·.1) = false) :
    PD X β W (.Call (.Attribute (.Name x p) nm apos) [e] [] pos) (lmM g i fe) := by
  refine PE.imp (pe_lt sL sT yL yT mL mT (pe_var hN hvs h1 h2) he hst hbase hfew hline hplain) fun σ H Q ⟨S, T, τ, Hs, hl, R, q⟩ => ?_
  unfold lmM at q
  have run : ∀ {f : List D → Option SV} {r : V → V → Hp → VK → Prop}, OkOp (cx X β W) (two r) f → (cx X β W).Goes T τ σ (opM f [.pk i, fe] S) (fun r S' => ∀ (v : V) (H' Hs' : Hp), (cx X β W).Rep (r :: (T ++ S')) (some v :: (τ ++ σ)) H' Hs' → Q v H') →
      ∃ v, σ[i]? = some (some v) ∧ tAF (cx X β W) fe σ H fun y H2 => r v y H2 Q := fun ok h => by
    have h3 := tAs_op (X := X) (β := β) (W := W) ok ⟨S, T, τ, Hs, hl, R, h⟩
    obtain ⟨v, ev, h4⟩ := h3
    exact ⟨v, ev, h4⟩
  have view : ∀ {d : D}, S[i]?.bind SV.dat? = some d → ∃ v, σ[i]? = some (some v) ∧ View X.K X.w H Hs d v := fun {d} hd => by
    cases es : S[i]? with
    | none => rw [es] at hd; cases hd
    | some s =>
      rw [es] at hd
      obtain ⟨v, ev, q⟩ := Rep.view (i := T.length + i) (s := s) R (by rw [List.getElem?_append_right (by omega)]; simpa using es) hd
      refine ⟨v, ?_, q⟩
      rw [hl, List.getElem?_append_right (by omega)] at ev
      simpa using ev
  split at q
  · rename_i xs hd
    obtain ⟨v, ev, h4⟩ := run oL q
    obtain ⟨v', ev', vw⟩ := view hd
    rw [ev] at ev'
    cases ev'
    obtain ⟨a, vs, rfl, hs, _⟩ := vw
    exact ⟨_, ev, .inl ⟨a, vs, rfl, hs, h4⟩⟩
  · rename_i xs hd
    obtain ⟨v, ev, h4⟩ := run oT q
    obtain ⟨v', ev', vw⟩ := view hd
    rw [ev] at ev'
    cases ev'
    obtain ⟨a, vs, rfl, _, _, ht⟩ := vw
    exact ⟨_, ev, .inr ⟨a, vs, rfl, ht.up R.sub, h4⟩⟩
  · exact q.elim
/-- the methods of lists and tuples with one argument -/
def lmD (nm : Str) : Option (List D → Option SV) := if nm = "index" then some idxD else if nm = "count" then some cntD else none
theorem pd_lmD {nm : Str} {g : List D → Option SV} (hg : lmD nm = some g) (hu : X.A.units + 65 < cLine) {i : Nat} {x : Str} {e : Expr} {fe : AF} {p apos pos : Pos}
    (hN : X.N[i]? = some x) (hvs : Vis X.env.scope x) (h1 : (x == ("__debug__" : Str)) = false) (h2 : (x == ("__classdict__" : Str)) = false) (he : PF X β W e fe) (hst : isStar e = false)
    (hbase : attributeBase (.Name x p) nm X.env (eval (.Name x p) X.env) = eval (.Name x p) X.env)
    (hfew : ((backTo pos (starEach [e] X.env)).all (fun x => !x.1) && (backToKw pos (keywordEach [] X.env)).all (fun x => x.1.isSome) && decide ([e].length + ([] : List Keyword).length + (if ([] : List Keyword).isEmpty then 0 else 1) < 30)) = true)
    (hline : (apos.endLine == pos.line) = true) (hplain : (backTo pos (starEach [] X.env)).any (·.1) = false) :
    PD X β W (.Call (.Attribute (.Name x p) nm apos) [e] [] pos) (lmM g i fe) := by
  unfold lmD at hg
  split at hg
  · rename_i hn
    subst hn
    cases hg
    exact pd_lt PySem.F.slot_list_index PySem.F.slot_tuple_index PySem.F.type_list_index PySem.F.type_tuple_index (mo_idxL hu) (mo_idxT hu) ok_idxL ok_idxT hN hvs h1 h2 he hst hbase hfew hline hplain
  · split at hg
    · rename_i hn
      subst hn
      cases hg
      exact pd_lt PySem.F.slot_list_count PySem.F.slot_tuple_count PySem.F.type_list_count PySem.F.type_tuple_count (mo_cntL hu) (mo_cntT hu) ok_cntL ok_cntT hN hvs h1 h2 he hst hbase hfew hline hplain
    · cases hg
end
end Ev
/-! ### enumerate(t), t a tuple -/
namespace Ev
open PySem PySem.Spec PyProof.Rows L2
def IteT (K : PySem.W.Frag) (a : Addr) : It :=
  ⟨fun i H => ∃ (xs : List V) (x : V), SqT K H a xs ∧ xs[i]? = some x, fun i H v H' => ∃ T x, v = .ref T ∧ H T = none ∧ H' = upd H T (.tup [.int (i : Nat), x]) ∧ ∀ xs, SqT K H a xs → xs[i]? = some x, fun i H => ∃ xs : List V, SqT K H a xs ∧ xs.length ≤ i⟩
def StE (a e it : Addr) (i : Nat) (h : Heap) : Prop := (∃ old, IsEnum h e it ((i : Nat) : Int) old) ∧ h.IsTupleIter it a i ∧ e ≠ it
theorem ste_ne {a e it : Addr} {i : Nat} {h : Heap} {xs : Array Value} (st : StE a e it i h) (ht : IsTup h a xs) : a ≠ it ∧ e ≠ a := by
  obtain ⟨⟨old, he⟩, ⟨o1, g1, c1, _⟩, hne⟩ := st
  obtain ⟨o2, g2, c2, _⟩ := ht
  refine ⟨fun z => ?_, fun z => ?_⟩
  · subst z; rw [g1] at g2; cases g2; rw [c1] at c2; exact absurd (Value.type.inj c2) (by decide)
  · subst z; rw [show h.get? e = _ from he] at g2; cases g2; exact absurd (Value.type.inj c2) (by decide)
theorem turn_enumT {P : Program} {w : World} {K : PySem.W.Frag} {elts : List Expr} {kk : Nat} {tpos : Pos} (a e it : Addr) : Turn P w K (.Tuple elts kk tpos) (IteT K a) [e, it] e (StE a e it) where
  mem := by simp
  obj := fun i h ⟨⟨old, he⟩, ⟨o, ho, hc, hd⟩, _⟩ b hb => by
    rcases (show b = e ∨ b = it by simpa using hb) with rfl | rfl
    · exact ⟨_, he, fun v q => nomatch q⟩
    · exact ⟨o, ho, fun v q => by rw [hd] at q; cases q⟩
  keep := fun i h h' ⟨⟨old, he⟩, hi, hne⟩ k => ⟨⟨old, k e (by simp) _ he⟩, hi.at fun o q => k it (by simp) o q, hne⟩
  item := by
    intro X hP hw hK hc i pins s σ H E I hf st ⟨xs, x, hq, hx⟩
    subst hP hw hK
    obtain ⟨its, rv, pt, hz⟩ := I.tuple hq
    obtain ⟨u, hu, ru⟩ := rv.get hx
    obtain ⟨n1, n2⟩ := ste_ne st pt
    obtain ⟨⟨old, he⟩, hit, hne⟩ := st
    have hel : e < s.heap.objs.size := Heap.lt_size he
    have hil : it < s.heap.objs.size := by obtain ⟨_, q, _⟩ := hit; exact Heap.lt_size q
    have hii : i < its.toArray.size := by rw [List.size_toArray]; exact (List.getElem?_eq_some_iff.mp hu).1
    have dr := Draws.tuple (prog := X.prog) (w := X.w) (A := X.A.in1) (I.ok.hd hc) it a n1 its.toArray
    refine wpAny_pyNext_enum_itemC dr he ⟨hit, pt⟩ hii hne (by simp [n2.symm, hne, n2]) fun y h' tk hy ho st' hT hsz hk => ?_
    have ey : y = u := by
      have h1 : its[i]? = some y := by simpa using hy
      rw [hu] at h1
      exact (Option.some.inj h1).symm
    subst ey
    refine ⟨_, rfl, wpAny_letOwnedTupleGo_enum (s := { s with heap := h', toks := tk + 1 }) ho fun h2 he2 sb => ?_⟩
    have hT2 := (sb.2 _ (Nat.ne_of_gt hel)).trans hT
    have I1 := I.turnedNew (ch := [e, it]) (t' := tk + 1) (ob := .tup [.int (i : Nat), x]) (fun b ob hb q => (sb.2 b (fun z => hb (by simp [z]))).trans (hk b ob (fun z => hb (by simp [z])) (fun z => hb (by simp [z])) q)) hf (Nat.le_refl _)
      ⟨by show 2 ≤ sizeLine; decide, [.int i tk, y], .cons ⟨_, rfl⟩ (.cons ru .nil), ⟨_, hT2, rfl, _, rfl⟩⟩
    have yl : (IteT X.K a).yld i H (.ref s.heap.objs.size) (upd H s.heap.objs.size (.tup [.int (i : Nat), x])) := ⟨_, x, rfl, I.hok.fresh (Nat.le_refl _), rfl, fun ys hy => by rw [I.tuple_inj hy hq]; exact hx⟩
    have e1 : ((i + 1 : Nat) : Int) = (i : Int) + 1 := by omega
    refine ⟨.ref s.heap.objs.size, _, I1, rfl, yl, ⟨⟨y, by rw [e1]; exact he2⟩, st'.1.at fun o q => (sb.2 it (Ne.symm hne)).trans q, hne⟩, fun b hb => ?_⟩
    have hb' : b < s.heap.objs.size := by
      rcases (show b = e ∨ b = it by simpa using hb) with z | z
      · rw [z]; exact hel
      · rw [z]; exact hil
    rw [upd_ne (Nat.ne_of_lt hb')]
    exact (hf b hb).1
  done := by
    intro X hP hw hK hc i pins s σ H E I hf st ⟨xs, hq, hx⟩
    subst hP hw hK
    obtain ⟨its, rv, pt, hz⟩ := I.tuple hq
    have n12 := ste_ne st pt
    obtain ⟨⟨old, he⟩, hit, hne⟩ := st
    obtain ⟨f0, f1, f2, f3, f4, f5⟩ := hf it (by simp)
    have hnone : its.toArray[i]? = none := by
      have hl := rv.length
      simp; omega
    have dr : Draws X.prog X.w X.A.in1 it [it, a] i (fun _ _ => False) (fun j h => j = i ∧ h.IsTupleIter it a j ∧ h.IsTuple a its.toArray) :=
      { live := fun _ _ st => let ⟨o, ho, _⟩ := st.2.1; ⟨o, ho⟩
        frame := fun _ _ _ st hk => ⟨st.1, st.2.1.at fun o e => hk it (by simp) o e, st.2.2.at fun o e => hk a (by simp) o e⟩
        item := fun j s Q E hj st hQ => absurd st.1 (by omega)
        done := fun s Q E st hE => wpAny_nextOf_tuple_end (A := X.A.in1) (I.ok.hd hc) st.2.1 st.2.2 hnone hE }
    exact wpAny_pyNext_enum_endD dr he ⟨rfl, hit, pt⟩ fun h' eb => ⟨rfl, I.turned (t' := s.toks) (fun b ob hb q => eb b ob hb q) f0 f1 f3 f4 f5⟩
  self := fun A i s Q E ⟨⟨_, he⟩, _⟩ h => wpAny_pyIter_enum he h
end Ev
end

section
set_option Elab.async false
set_option linter.all false
set_option maxRecDepth 100000
set_option maxHeartbeats 4000000
/-! Ev, part 23r: enumerate of lists and tuples. -/
namespace Ev
open PySem PySem.Spec PyProof.Rows L2
abbrev enO (a : Addr) : Obj := { cls := .type "enumerate", data := .fields #[.none, .bool false, .ref a, rawInt 0, .none, .none] }
set_option maxHeartbeats 1000000 in
theorem meets_enum1 {v : Value} {o : Obj} {H : Heap → Prop} (B : Begins v o H) : Meets (Builtin.«enumerate.__new__» ⟨[.type "enumerate", v], []⟩) (fun _ R s => H s.heap ∧
    R (.ok (.ret (.ref (s.heap.push o).objs.size))) { s with heap := (s.heap.push o).push (enO s.heap.objs.size) }) :=
  .of_wp fun prog w A R ⟨hp, g, d, tk, os⟩ ⟨h1, h⟩ => by
    have hsub := sub_enumerate
    have it1 : ∀ {A' : Around} {E : Value → Shared → Prop} {Q : Value → Shared → Prop}, Q (.ref hp.objs.size) ⟨hp.push o, g, d, tk, os⟩ → wpAny (model prog w) A' (pyIter v) Q E ⟨hp, g, d, tk, os⟩ := fun q => B.iter prog w _ _ _ _ h1 q
    wp_walk using it1
    refine wpAny_stack_any fun st => wpAny_pure ?_
    split
    · rename_i c _ _ _ _ _
      cases (c == Value.type "enumerate") <;> (wp_walk using it1; exact ⟨_, rfl, h⟩)
    · wp_walk using it1
      exact ⟨_, rfl, h⟩
theorem call_enum1 {prog : Program} {w : World} {A : Around} {E : Value → Shared → Prop} {s : Shared} {v : Value} {o : Obj} {H : Heap → Prop} {Q : Value → Shared → Prop} (B : Begins v o H) (h1 : H s.heap)
    (h : ∀ h', IsEnum h' (s.heap.objs.size + 1) s.heap.objs.size 0 .none → h'.get? s.heap.objs.size = some o → (∀ b q, s.heap.get? b = some q → h'.get? b = some q) → Q (.ref (s.heap.objs.size + 1)) { s with heap := h' }) :
    wpAny (model prog w) A (call (.type "enumerate") [v]) Q E s := by
  refine callType_new F.called_enumerate (by decide) (F.typeCall_enumerate_1 _) (F.newCall_enumerate_1 _) (fun obj => F.args_object_init_2 obj _) F.entry_enumerate_new (meets_enum1 B) ⟨h1, ?_⟩
  have hz : (s.heap.push o).objs.size = s.heap.objs.size + 1 := Heap.size_push ..
  show _ ∧ _
  rw [hz]
  have he : IsEnum ((s.heap.push o).push (enO s.heap.objs.size)) (s.heap.objs.size + 1) s.heap.objs.size 0 .none := by
    have q := Heap.get?_push_size (s.heap.push o) (o := enO s.heap.objs.size) rfl
    rwa [hz] at q
  exact ⟨⟨_, he, rfl⟩, h _ he (Heap.get?_push_of_some _ (Heap.get?_push_size _ B.free)) fun b q x => Heap.get?_push_of_some _ (Heap.get?_push_of_some _ x)⟩
def iEnumA (K : PySem.W.Frag) (ta : TA) : TI := fun σ H R => ta σ H fun vs H1 => ∃ a, vs = [V.ref a] ∧ ((∃ xs, SqL K H1 a xs ∧ R (Ite K a) H1) ∨ ∃ xs, SqT K H1 a xs ∧ R (IteT K a) H1)
theorem pi_enumA {X : Cx} {e : Expr} {ta : TA} {p pos tpos : Pos} {elts : List Expr} {kk : Nat} (hg : Gl X "enumerate") (hm : X.mg "enumerate" = none) (ha : PA X [e] ta) (hs : starEach [e] X.env = [(false, eval e X.env)]) :
    PI X (.Tuple elts kk tpos) (.Call (.Name "enumerate" p) [e] [] pos) (iEnumA X.K ta) := by
  refine ⟨fun pins s σ H R I h => Call_ (ld_blt I hg hm boot_enumerate (PyProof.Rows.callWith_type1 (thn (ha.run pos pins s σ H _ I h) fun us s1 ⟨vs, H1, I1, r1, q1⟩ => ?_) hs rfl))⟩
  obtain ⟨a, ex, q1⟩ := q1
  subst ex
  cases r1 with
  | cons r rr =>
    cases rr
    cases r
    have hb : ∀ b, b ∈ [s1.heap.objs.size + 1, s1.heap.objs.size] → s1.heap.objs.size ≤ b := fun b hb => by
      rcases (show b = s1.heap.objs.size + 1 ∨ b = s1.heap.objs.size by simpa using hb) with z | z <;> omega
    rcases q1 with ⟨xs, hq, q⟩ | ⟨xs, hq, q⟩
    · obtain ⟨its, rv, p', hz⟩ := I1.list hq
      refine call_enum1 (begins_list a its.toArray) p'.isList fun h' he ho hk => wpAny_pyIter_enum he ?_
      exact ⟨s1.heap.objs.size + 1, [s1.heap.objs.size + 1, s1.heap.objs.size], _, _, H1, rfl, I1.kept (t' := s1.toks) hk, turn_enum a (s1.heap.objs.size + 1) s1.heap.objs.size, ⟨⟨.none, he⟩, ⟨_, ho, rfl, rfl⟩, Nat.succ_ne_self _⟩, fun b h => I1.fpOk (hb b h) (I1.hok.fresh (hb b h)), q⟩
    · obtain ⟨its, rv, p', hz⟩ := I1.tuple hq
      refine call_enum1 (begins_tuple a its.toArray) p' fun h' he ho hk => wpAny_pyIter_enum he ?_
      exact ⟨s1.heap.objs.size + 1, [s1.heap.objs.size + 1, s1.heap.objs.size], _, _, H1, rfl, I1.kept (t' := s1.toks) hk, turn_enumT a (s1.heap.objs.size + 1) s1.heap.objs.size, ⟨⟨.none, he⟩, ⟨_, ho, rfl, rfl⟩, Nat.succ_ne_self _⟩, fun b h => I1.fpOk (hb b h) (I1.hok.fresh (hb b h)), q⟩
def wEnumA (f : M SV) : M Walk := fun S => (f S).bind fun r S1 => match isLs r with
  | some xs => .ok ⟨enumI 0 xs, [r]⟩ S1
  | none => (match isTs r with
    | some xs => .ok ⟨enumI 0 xs, [r]⟩ S1
    | none => .stuck)
theorem iter_enumT {C : Ct} {r : SV} {xs : List D} {a : Addr} (hr : isTs r = some xs) : IterOk C (IteT C.K a) ⟨enumI 0 xs, [r]⟩ [some (.ref a)] := by
  intro i Y ξ H Hs R
  obtain ⟨a', va, ea, sa, da⟩ := viewTs (i := 0) R rfl hr
  have e2 : (some (some (V.ref a)) : Option (Option V)) = some (some (V.ref a')) := ea
  cases e2
  refine ⟨fun d hd => ?_, fun hl => ⟨va, sa, by rw [← da.len, ← enumI_len (n := 0)]; exact hl⟩⟩
  obtain ⟨x, hx, rfl⟩ := enumI_get hd
  obtain ⟨vx, ex, qx⟩ := da.get hx
  refine ⟨⟨va, vx, sa, ex⟩, fun z H' hz => ?_⟩
  obtain ⟨T, x', rfl, hT, rfl, h1⟩ := hz
  have := h1 va sa
  rw [ex] at this; cases this
  rw [Nat.zero_add]
  exact pair_step (Z := []) R hT (Den.int.mpr rfl) qx
section
variable {X : Cx} {β : Nat → Addr} {W : WX}
theorem pid_enumA {e : Expr} {f : M SV} {p pos tpos : Pos} {elts : List Expr} {kk : Nat} (hg : Gl X "enumerate") (hm : X.mg "enumerate" = none) (h1 : PD X β W e f) (s1 : isStar e = false) :
    PId X β W (.Tuple elts kk tpos) (.Call (.Name "enumerate" p) [e] [] pos) (wEnumA f) := by
  have hA : PA X [e] (tCons (tD (cx X β W) f) tNil) := pa_cons h1 pa_nil (star_cons s1)
  refine PI.imp (pi_enumA hg hm hA (star_cons s1)) fun σ H R0 ⟨S, T, τ, Hs, hl, R, q⟩ => ?_
  refine tD_bind (U := []) (υ := []) rfl hl R q fun r S1 v H1 Hs1 R1 g1 => ?_
  have R1' : (cx X β W).Rep ([r] ++ (T ++ S1)) ([some v] ++ (τ ++ σ)) H1 Hs1 := R1
  split at g1
  · rename_i xs ex
    obtain ⟨a, va, ea, sa, da⟩ := viewLs (i := 0) R1' rfl ex
    have e1 : (some (some v) : Option (Option V)) = some (some (V.ref a)) := ea
    cases e1
    exact ⟨a, rfl, .inl ⟨va, sa, g1 [some (.ref a)] _ H1 Hs1 rfl R1' (iter_enum ex)⟩⟩
  · split at g1
    · rename_i xs ex
      obtain ⟨a, va, ea, sa, da⟩ := viewTs (i := 0) R1' rfl ex
      have e1 : (some (some v) : Option (Option V)) = some (some (V.ref a)) := ea
      cases e1
      exact ⟨a, rfl, .inr ⟨va, sa, g1 [some (.ref a)] _ H1 Hs1 rfl R1' (iter_enumT ex)⟩⟩
    · exact g1.elim
end
end Ev
end

section
set_option Elab.async false
set_option linter.all false
set_option maxRecDepth 100000
set_option maxHeartbeats 4000000
/-! Ev, part 24: the translation of expressions, and that it is right. -/
namespace Ev
open PySem PySem.Spec PyProof.Rows L2
/-- a def as it may be called: which arguments are lent -/
structure FnE where
  x : Str
  lend : List Bool
  F : Fn
structure KwE where
  x : Str
  ks : List Str
  F : Fn
structure En where
  N : List Str
  sc : Scope
  ow : Scope
  fns : List FnE
  kws : List KwE
  bi : List Str
  gd : List GTab
  xs : XTab
def visB (sc : Scope) (x : Str) : Bool := match sc.names.lookup x with
  | some .local => true
  | some .cell => true
  | some .free => true
  | _ => false
def locB (sc ow : Scope) (x : Str) : Bool := match sc.names.lookup x with
  | some .local => true
  | some .cell => decide (ow.names.lookup x = some .cell)
  | _ => false
def glB (sc : Scope) (x : Str) : Bool := match sc.names.lookup x with
  | some .globalImplicit => true
  | _ => false
def idxOf (x : Str) : List Str → Nat → Option Nat
  | [], _ => none
  | y :: r, n => if y = x then some n else idxOf x r (n + 1)
theorem idxOf_ok {x : Str} : ∀ {l : List Str} {n i : Nat}, idxOf x l n = some i → n ≤ i ∧ l[i - n]? = some x
  | [], _, _, h => by cases h
  | y :: r, n, i, h => by
    unfold idxOf at h
    split at h
    · rename_i e
      cases h
      subst e
      exact ⟨Nat.le_refl _, by simp⟩
    · obtain ⟨h1, h2⟩ := idxOf_ok h
      refine ⟨by omega, ?_⟩
      rw [show i - n = (i - (n + 1)) + 1 by omega, List.getElem?_cons_succ]
      exact h2
def guardB (b : Bool) : Option Unit := if b = true then some () else none
theorem guardB_iff {b : Bool} {u : Unit} : guardB b = some u ↔ b = true := by
  unfold guardB
  cases b <;> simp
def nameB (x : Str) : Bool := (x == ("__debug__" : Str)) == false && (x == ("__classdict__" : Str)) == false
def En.var (E : En) (x : Str) : Option Nat := (guardB (visB E.sc x && nameB x)).bind fun _ => idxOf x E.N 0
def En.loc (E : En) (x : Str) : Option Nat := (guardB (locB E.sc E.ow x)).bind fun _ => idxOf x E.N 0

structure EnOk (X : Cx) (E : En) : Prop where
  N : X.N = E.N
  nd : X.N.Nodup
  sc : X.env.scope = E.sc
  calm : X.calm = true
  un : X.A.units + 100 < cLine
  fnc : ∀ x, E.ow.names.lookup x = some .cell → X.fn x = true
  fns : ∀ p ∈ E.fns, ∃ k f fd ps, FnOk X.prog X.w X.K X.mg X.base (L2.CX X.prog X.w) k f fd ps (spF X.K X.w X.mg p.F) ∧ Room k X.A ∧ X.mg p.x = some (.ref f) ∧ PySem.W.keepIn X.K (.ref f) = true ∧ Binds X.K fd ps [] ∧ (p.x == ("__debug__" : Str)) = false
  kws : ∀ p ∈ E.kws, ∃ k f fd ps js F, p.F = lenF p.ks.length (pmF js F) ∧ FnOk X.prog X.w X.K X.mg X.base (L2.CX X.prog X.w) k f fd ps (spF X.K X.w X.mg F) ∧ Room k X.A ∧ X.mg p.x = some (.ref f) ∧ PySem.W.keepIn X.K (.ref f) = true ∧
    (∀ (s : Shared) (ws : List Value), X.K.In s.heap → ws.length = p.ks.length → BindsTo s fd ⟨[], p.ks.zip ws⟩ (ps.zip (pmD .none js ws))) ∧ (p.x == ("__debug__" : Str)) = false
  bi : ∀ x ∈ E.bi, X.mg x = none
  gd : ∀ p ∈ E.gd, GOk X.K X.w X.mg p
  xs : ∀ p ∈ E.xs, XOk X.prog X.K X.mg E.xs p
  sup : ∀ p ∈ E.xs, X.mg "super" = none ∧ Room 1 X.A
section
variable {X : Cx} {E : En}
theorem EnOk.var (ok : EnOk X E) {x : Str} {i : Nat} (h : E.var x = some i) : X.N[i]? = some x ∧ Vis X.env.scope x ∧ (x == ("__debug__" : Str)) = false ∧ (x == ("__classdict__" : Str)) = false := by
  unfold En.var at h
  simp only [Option.bind_eq_some_iff, guardB_iff, Bool.and_eq_true] at h
  obtain ⟨_, ⟨hv, hn⟩, hi⟩ := h
  have h2 := (idxOf_ok hi).2
  unfold nameB at hn
  simp only [Bool.and_eq_true, beq_iff_eq] at hn
  refine ⟨by rw [ok.N]; simpa using h2, ?_, hn.1, hn.2⟩
  rw [ok.sc]
  unfold visB at hv
  unfold Vis
  split at hv <;> first | exact .inl (by assumption) | exact .inr (.inl (by assumption)) | exact .inr (.inr (by assumption)) | cases hv
theorem EnOk.loc (ok : EnOk X E) {x : Str} {i : Nat} (h : E.loc x = some i) : X.N[i]? = some x ∧ Loc X.env.scope x ∧ (X.fn x = true ∨ X.env.scope.names.lookup x = some .local) := by
  unfold En.loc at h
  simp only [Option.bind_eq_some_iff, guardB_iff] at h
  obtain ⟨_, hv, hi⟩ := h
  have h2 := (idxOf_ok hi).2
  refine ⟨by rw [ok.N]; simpa using h2, ?_, ?_⟩
  · rw [ok.sc]
    unfold locB at hv
    unfold L2.Loc
    split at hv <;> first | exact .inl (by assumption) | exact .inr (by assumption) | cases hv
  · rw [ok.sc]
    unfold locB at hv
    split at hv
    · exact .inr (by assumption)
    · exact .inl (ok.fnc _ (of_decide_eq_true hv))
    · cases hv
theorem EnOk.gl (ok : EnOk X E) {x : Str} (h : glB E.sc x = true) : Gl X x := by
  show X.env.scope.names.lookup x = some .globalImplicit
  rw [ok.sc]
  unfold glB at h
  split at h
  · assumption
  · cases h
end
/-! ### the translation, a layer at a time -/
structure Tr where
  e : En → Expr → Option (M SV)
  t : En → Expr → Option (M Bool)
  w : En → Bool → Expr → Option (M Walk)
def Tr.a (tr : Tr) (E : En) : Expr → Option AF
  | .Name x p => (match E.var x with
    | some i => some (.pk i)
    | none => (tr.e E (.Name x p)).map .ex)
  | e => (guardB (!isStar e)).bind fun _ => (tr.e E e).map .ex
/-- an argument of a def's call: lent or not -/
def Tr.al (tr : Tr) (E : En) (lend : Bool) (e : Expr) : Option AF := if lend = true then tr.a E e else (guardB (!isStar e)).bind fun _ => (tr.e E e).map .ex
def Tr.es (tr : Tr) (E : En) : List Expr → Option (List AF)
  | [] => some []
  | e :: es => (tr.al E false e).bind fun f => (Tr.es tr E es).map (f :: ·)
def Tr.as (tr : Tr) (E : En) : List Expr → Option (List AF)
  | [] => some []
  | e :: es => (tr.a E e).bind fun f => (Tr.as tr E es).map (f :: ·)
def Tr.als (tr : Tr) (E : En) : List Bool → List Expr → Option (List AF)
  | _, [] => some []
  | [], _ :: _ => none
  | b :: bs, e :: es => (tr.al E b e).bind fun f => (Tr.als tr E bs es).map (f :: ·)
def Tr.ks (tr : Tr) (E : En) : List Keyword → Option (List AF)
  | [] => some []
  | ⟨nm, e, _⟩ :: es => (tr.al E false e).bind fun f => (guardB nm.isSome).bind fun _ => (Tr.ks tr E es).map (f :: ·)
mutual
def trTg (E : En) : Expr → Option Tg
  | .Name x _ => (E.loc x).map .nm
  | .Tuple es _ _ => trTgs E es
  | _ => none
def trTgs (E : En) : List Expr → Option Tg
  | [] => some .nil
  | e :: es => (trTg E e).bind fun a => (trTgs E es).map (.cons a ·)
end
mutual
def tgNames : Expr → List Str
  | .Name x _ => [x]
  | .Tuple es _ _ => tgNamesL es
  | _ => []
def tgNamesL : List Expr → List Str
  | [] => []
  | e :: es => tgNames e ++ tgNamesL es
end
def isSet : Expr → Bool
  | .Set .. => true
  | _ => false
def isTupV : Expr → Bool
  | .Tuple .. => true
  | _ => false
def isSl : Expr → Bool
  | .Slice .. => true
  | _ => false
def typeOfName (x : Str) : Option String := (["int", "str", "bool", "tuple", "list"] : List String).find? fun s => decide (Str.ofString s = x)
def En.xcls (E : En) (x : Str) : Option (Str × List Str) := E.xs.find? fun p => decide (p.1 = x)
/-- a class of exceptions called by place -/
def stepMk (tr : Tr) (E : En) (c : Str) : List Expr → Option (M SV)
  | [e] => (tr.al E false e).map (xmkM c)
  | _ => none
/-- .. by name -/
def stepMkK (tr : Tr) (E : En) (c : Str) : List Keyword → Option (M SV)
  | [⟨some nm, e, _⟩] => (guardB (decide (nm = "value"))).bind fun _ => (tr.al E false e).map (xmkM c)
  | _ => none
/-- list(range(..)) -/
def stepLrg (tr : Tr) (E : En) (x : Str) : List Expr → Option (M SV)
  | [.Call (.Name y _) (e :: es) [] _] => (guardB (decide (x = "list") && decide (y = "range") && glB E.sc "range" && decide ((Str.ofString "list") ∈ E.bi) && decide ((Str.ofString "range") ∈ E.bi))).bind fun _ => (tr.as E (e :: es)).map (opM lrgD)
  | _ => none
def stepCall (tr : Tr) (E : En) (x : Str) (es : List Expr) : Option (M SV) :=
  (guardB (glB E.sc x)).bind fun _ =>
  match stepLrg tr E x es with
  | some f => some f
  | none =>
  match E.xcls x with
  | some p => stepMk tr E p.1 es
  | none =>
  match E.fns.find? fun p => decide (p.x = x) with
  | some p => (guardB (!es.isEmpty)).bind fun _ => (tr.als E p.lend es).map (callM p.F)
  | none => (guardB (decide (x ∈ E.bi))).bind fun _ => match bis.find? fun b => decide (b.name = x) with
    | some b => (guardB (!es.isEmpty)).bind fun _ => (tr.as E es).map (opM b.f)
    | none => none
def tysOf (E : En) : List Expr → Option (List String)
  | [] => some []
  | .Name x _ :: es => (typeOfName x).bind fun b => (guardB (glB E.sc x && decide (x ∈ E.bi))).bind fun _ => (tysOf E es).map (b :: ·)
  | _ :: _ => none
/-- isinstance(a, x), x a class of exceptions -/
def stepIsx (tr : Tr) (E : En) (a : Expr) (x : Str) : Option (M SV) := match E.xcls x with
  | some p => (guardB (glB E.sc "isinstance" && glB E.sc p.1 && decide ((Str.ofString "isinstance") ∈ E.bi))).bind fun _ => (tr.a E a).map fun f => opM (isxD E.xs p.1) [f]
  | none => (guardB (decide (x = "ValueError") && glB E.sc "isinstance" && glB E.sc "ValueError" && decide ((Str.ofString "isinstance") ∈ E.bi) && decide ((Str.ofString "ValueError") ∈ E.bi))).bind fun _ => (tr.a E a).map fun f => opM (isxD E.xs "ValueError") [f]
def noCall : Expr → Bool
  | .Call .. => false
  | _ => true
def stepIsi (tr : Tr) (E : En) : List Expr → Option (M SV)
  | [a, .Tuple es _ _] => (tysOf E es).bind fun bs => (guardB (glB E.sc "isinstance" && decide ((Str.ofString "isinstance") ∈ E.bi) && decide (bs.length ≤ 100))).bind fun _ => (tr.a E a).map (isiM bs)
  | [a, .Name x _] => match typeOfName x with
    | none => stepIsx tr E a x
    | some b => (guardB (glB E.sc "isinstance" && glB E.sc x && decide ((Str.ofString "isinstance") ∈ E.bi) && decide (x ∈ E.bi))).bind fun _ => (tr.a E a).map (isiM [b])
  | _ => none
def stepPart (tr : Tr) (E : En) : Option Expr → Option (Option (M SV))
  | none => some none
  | some e => (tr.e E e).map some
def stepIfs (tr : Tr) (E : En) : List Expr → Option (M Bool)
  | [] => some yesT
  | [c] => tr.t E c
  | _ => none
/-- a dict of the module -/
def En.glob (E : En) : Expr → Option GTab
  | .Name x _ => (guardB (glB E.sc x)).bind fun _ => E.gd.find? fun p => decide (p.x = x)
  | _ => none
def gNeg : CmpOp → Option Bool
  | .In => some false
  | .NotIn => some true
  | _ => none
def stepCmp (tr : Tr) (E : En) (a : Expr) (op : CmpOp) (b : Expr) : Option (M SV) := match E.glob b with
  | some p => (gNeg op).bind fun neg => (tr.a E a).map fun fa => opM (gInD neg p.kv) [fa]
  | none => (cmpD op).bind fun f => (guardB (!isSet b)).bind fun _ => (tr.a E a).bind fun fa => (tr.a E b).map fun fb => opM f [fa, fb]
def stepIx (tr : Tr) (E : En) (a b : Expr) : Option (M SV) := match E.glob a with
  | some p => (guardB (!isSl b)).bind fun _ => (tr.a E b).map fun fb => opM (gIxD p.kv) [fb]
  | none => (guardB (!isSl b)).bind fun _ => (tr.a E a).bind fun fa => (tr.a E b).map fun fb => opM ixD [fa, fb]
def stepE (tr : Tr) (E : En) : Expr → Option (M SV)
  | .Name x _ => (E.var x).map varF
  | .Constant (.int i) _ _ => some (conM (.int i))
  | .Constant (.str i) _ _ => some (conM (.str i))
  | .Constant (.bool i) _ _ => some (conM (.bl i))
  | .Constant .none _ _ => some (conM .non)
  | .BinOp a op b _ => (binD op).bind fun f => (tr.a E a).bind fun fa => (tr.a E b).map fun fb => opM f [fa, fb]
  | .UnaryOp .USub a _ => (tr.a E a).map fun fa => opM negD [fa]
  | .UnaryOp .Not a _ => (tr.e E a).map notM
  | .BoolOp op [a] _ => tr.e E a
  | .BoolOp .And (a :: b :: r) p => (tr.e E a).bind fun f => (tr.e E (.BoolOp .And (b :: r) p)).map (andM f)
  | .BoolOp .Or (a :: b :: r) p => (tr.e E a).bind fun f => (tr.e E (.BoolOp .Or (b :: r) p)).map (orM f)
  | .IfExp c a b _ => (tr.t E c).bind fun fc => (tr.e E a).bind fun fa => (tr.e E b).map (ifM fc fa)
  | .Compare a [op] [b] _ => stepCmp tr E a op b
  | .Compare a [op, op'] [b, c] _ => (cmpD op).bind fun f => (cmpD op').bind fun g => (guardB (!isSet b && !isSet c)).bind fun _ => (tr.a E a).bind fun fa => (tr.a E b).bind fun fb => (tr.a E c).map fun fc => chM f g fa fb fc
  | .Call (.Name x _) es [] _ => if x = "isinstance" then stepIsi tr E es else stepCall tr E x es
  | .Attribute e nm _ => (guardB (decide (nm = "value") && noCall e)).bind fun _ => (tr.a E e).map fun f => opM (xvalD E.xs) [f]
  | .Call (.Name x _) [] kws _ => (guardB (glB E.sc x)).bind fun _ => match E.xcls x with
    | some p => stepMkK tr E p.1 kws
    | none => (match E.kws.find? fun p => decide (p.x = x) && decide (p.ks = kws.filterMap (·.arg)) with
    | some p => (tr.ks E kws).map (callM p.F)
    | none => none)
  | .Call (.Attribute (.Constant (.str a) _ _) nm ap) [e] [] p => (guardB (decide (nm = "join") && ap.endLine == p.line)).bind fun _ => (tr.a E e).map (joinM a)
  | .Call (.Attribute (.Name x _) nm ap) [e] [] p => (guardB (ap.endLine == p.line && !isStar e)).bind fun _ => (E.var x).bind fun i => if nm = "append" then (tr.e E e).map (appM i) else (lmD nm).bind fun g => (tr.a E e).map (lmM g i)
  | .Subscript (.Dict ks vs _) (.Name x _) _ => (pairsOf ks vs).bind fun kv => (guardB (kv.all (fun q => q.2.ok) && !ks.isEmpty && decide (ks.length ≤ 15))).bind fun _ => (E.var x).map (dixM kv)
  | .Subscript e (.Slice none none (some (.UnaryOp .USub (.Constant (.int 1) _ _) _)) _) _ => (tr.a E e).map fun f => opM revD [f]
  | .Subscript e (.Slice lo hi none _) _ => (tr.a E e).bind fun fe => (stepPart tr E lo).bind fun fl => (stepPart tr E hi).map (slM fe fl)
  | .Subscript a b _ => stepIx tr E a b
  | .List es _ => (tr.es E es).map lstM
  | .Tuple es _ _ => (tr.es E es).map tupM
  | .ListComp elt [⟨tg, iter, ifs, 0⟩] scope _ =>
    let E' : En := { E with sc := relS scope E.sc, ow := scope }
    (guardB (!isSet iter)).bind fun _ => (trTg E' tg).bind fun t => (guardB (blkC E.N E.sc scope ((tgNames tg).zip t.ixs) && decide (t.ixs.Nodup) && decide ((tgNames tg).length = t.ixs.length))).bind fun _ =>
    (tr.w E (isTupV tg) iter).bind fun src => (stepIfs tr E' ifs).bind fun c => (tr.e E' elt).map (lcM src t c)
  | .ListComp elt [⟨tg, iter, ifs, 0⟩, ⟨tg1, iter1, ifs1, 0⟩] scope _ =>
    let E' : En := { E with sc := relS scope E.sc, ow := scope }
    (guardB (!isSet iter && !isSet iter1)).bind fun _ => (trTg E' tg).bind fun t => (trTg E' tg1).bind fun t1 => (guardB (blkC E.N E.sc scope ((tgNames tg ++ tgNames tg1).zip (t.ixs ++ t1.ixs)) && decide ((t.ixs ++ t1.ixs).Nodup) && decide ((tgNames tg ++ tgNames tg1).length = (t.ixs ++ t1.ixs).length))).bind fun _ =>
    (tr.w E (isTupV tg) iter).bind fun src => (stepIfs tr E' ifs).bind fun c => (tr.w E' (isTupV tg1) iter1).bind fun src1 => (stepIfs tr E' ifs1).bind fun c1 => (tr.e E' elt).map (lc2M src t c src1 t1 c1)
  | .DictComp kx vx [⟨tg, iter, ifs, 0⟩] scope _ =>
    let E' : En := { E with sc := relS scope E.sc, ow := scope }
    (guardB (!isSet iter)).bind fun _ => (trTg E' tg).bind fun t => (guardB (blkC E.N E.sc scope ((tgNames tg).zip t.ixs) && decide (t.ixs.Nodup) && decide ((tgNames tg).length = t.ixs.length))).bind fun _ =>
    (tr.w E (isTupV tg) iter).bind fun src => (stepIfs tr E' ifs).bind fun c => (tr.e E' kx).bind fun fk => (tr.e E' vx).map (dcM src t c fk)
  | _ => none
def stepT (tr : Tr) (E : En) : Expr → Option (M Bool)
  | .UnaryOp .Not a _ => (tr.t E a).map notT
  | .BoolOp op [a] _ => tr.t E a
  | .BoolOp .And (a :: b :: r) p => (tr.t E a).bind fun f => (tr.t E (.BoolOp .And (b :: r) p)).map (andT f)
  | .BoolOp .Or (a :: b :: r) p => (tr.t E a).bind fun f => (tr.t E (.BoolOp .Or (b :: r) p)).map (orT f)
  | .Compare a [op] [b] _ => (stepCmp tr E a op b).map asT
  | .Compare a [op, op'] [b, c] _ => (cmpD op).bind fun f => (cmpD op').bind fun g => (guardB (!isSet b && !isSet c)).bind fun _ => (tr.a E a).bind fun fa => (tr.a E b).bind fun fb => (tr.a E c).map fun fc => asT (chM f g fa fb fc)
  | .Name x p => (tr.e E (.Name x p)).map asT
  | .Call f a k p => (tr.e E (.Call f a k p)).map asT
  | .Subscript a b p => (tr.e E (.Subscript a b p)).map asT
  | .Constant c k p => (tr.e E (.Constant c k p)).map asT
  | _ => none
def stepW (tr : Tr) (E : En) (tt : Bool) : Expr → Option (M Walk)
  | .Call (.Name x q) es [] p => if x = "range" then (guardB (glB E.sc "range" && decide ((Str.ofString "range") ∈ E.bi))).bind fun _ => (match es with
      | [a] => (tr.a E a).map fun f => wRng [f]
      | [a, b] => (tr.a E a).bind fun f => (tr.a E b).map fun g => wRng [f, g]
      | _ => none)
    else if x = "zip" then (guardB (tt && glB E.sc "zip" && decide ((Str.ofString "zip") ∈ E.bi))).bind fun _ => (match es with
      | [a, b] => (guardB (!isStar a && !isStar b)).bind fun _ => (tr.e E a).bind fun f => (tr.e E b).map fun g => wZip f g
      | _ => none)
    else if x = "enumerate" then (guardB (tt && glB E.sc "enumerate" && decide ((Str.ofString "enumerate") ∈ E.bi))).bind fun _ => (match es with
      | [a] => (guardB (!isStar a)).bind fun _ => (tr.e E a).map fun f => wEnumA f
      | _ => none)
    else if x = "reversed" then (guardB (glB E.sc "reversed" && decide ((Str.ofString "reversed") ∈ E.bi))).bind fun _ => (match es with
      | [a] => (guardB (!isStar a)).bind fun _ => (tr.e E a).map fun f => wRevX f
      | _ => none)
    else (tr.e E (.Call (.Name x q) es [] p)).map wSeq
  | e => (tr.e E e).map wSeq
def Tr.step (tr : Tr) : Tr := ⟨stepE tr, stepT tr, stepW tr⟩
def Tr.none : Tr := ⟨fun _ _ => .none, fun _ _ => .none, fun _ _ _ => .none⟩
def tr : Nat → Tr
  | 0 => Tr.none
  | n + 1 => (tr n).step
end Ev
end

section
set_option Elab.async false
set_option linter.all false
set_option maxRecDepth 100000
set_option maxHeartbeats 4000000
/-! Ev, part 25: the translation of expressions is right. -/
namespace Ev
open PySem PySem.Spec PyProof.Rows L2
theorem folded_of {e : Expr} (h : isSet e = false) (env : Env) (x : Value) : foldedSetIterable e env x = pure x := by
  cases e <;> first | rfl | cases h
theorem plain_of {b : Expr} (h : isSl b = false) : PlainIx b := by
  intro o i
  cases b <;> first | rfl | cases h
theorem marks_of {op : CmpOp} {b : Expr} (h : isSet b = false) : behindInMarks op b = false := by
  cases b <;> first | rfl | cases h
theorem star_any : ∀ {es : List Expr} {env : Env} {pos : Pos}, (∀ e ∈ es, isStar e = false) → (backTo pos (starEach es env)).any (·.1) = false
  | [], _, _, _ => rfl
  | e :: es, env, pos, h => by
    rw [star_cons (h e List.mem_cons_self)]
    show (false || (backTo pos (starEach es env)).any (·.1)) = false
    rw [star_any fun e' he => h e' (List.mem_cons_of_mem _ he)]
    rfl
theorem ptd_pwd {X : Cx} {β : Nat → Addr} {W : WX} {op : BoolOp} {vs : List Expr} {p : Pos} {f : M Bool} (h : PTD X β W (.BoolOp op vs p) f) : PWD X β W (.BoolOp op vs p) f := ⟨fun wh pins s σ H Q I hw => h.run pins s σ H Q I hw⟩
theorem takes_no {X : Cx} : Takes X (fun _ _ _ _ => False) := fun u s' ⟨a, B, sI, pins, σ, H, cls, d, e, I, nb, up, sky, na, os, ag, w⟩ => w.elim
def TrOk (tr : Tr) : Prop := ∀ (X : Cx) (E : En) (β : Nat → Addr) (W : WX), EnOk X E → Takes X W →
  (∀ e f, tr.e E e = some f → PD X β W e f) ∧ (∀ e f, tr.t E e = some f → PTD X β W e f) ∧ ∀ tg e f, tr.w E (isTupV tg) e = some f → PId X β W tg e f
theorem TrOk.none : TrOk Tr.none := fun X E β W _ _ => ⟨fun e f h => (by cases h), fun e f h => (by cases h), fun tg e f h => (by cases h)⟩
section
variable {tr : Tr} {X : Cx} {E : En} {β : Nat → Addr} {W : WX}
theorem EnOk.blk (ok : EnOk X E) {scope : Scope} (s : Shared) (H : Hp) (C : Addr) (cl : List (Str × Addr)) (fp : List Addr) : EnOk (X.blk s H scope (compEnvC scope cl C X.env) fp) { E with sc := relS scope E.sc, ow := scope } where
  N := ok.N
  nd := ok.nd
  sc := by rw [← ok.sc]; rfl
  calm := ok.calm
  un := ok.un
  fnc := fun x h => by show (scope.names.lookup x == some .cell) = true; rw [show scope.names.lookup x = some .cell from h]; rfl
  fns := ok.fns
  kws := ok.kws
  bi := ok.bi
  gd := ok.gd
  xs := ok.xs
  sup := ok.sup
theorem tr_a (ok : EnOk X E) (he : ∀ e f, tr.e E e = some f → PD X β W e f) {e : Expr} {f : AF} (h : tr.a E e = some f) : PF X β W e f ∧ isStar e = false := by
  unfold Tr.a at h
  split at h
  · rename_i x p
    split at h
    · rename_i i hi
      cases h
      obtain ⟨h1, h2, h3, h4⟩ := ok.var hi
      exact ⟨pf_pk h1 h2 h3 h4, rfl⟩
    · cases e1 : tr.e E (.Name x p) with
      | none => rw [e1] at h; cases h
      | some g => rw [e1] at h; cases h; exact ⟨pf_ex (he _ _ e1), rfl⟩
  · simp only [Option.bind_eq_some_iff, guardB_iff, Option.map_eq_some_iff, Bool.not_eq_true'] at h
    obtain ⟨_, hs, g, e1, rfl⟩ := h
    exact ⟨pf_ex (he _ _ e1), hs⟩
theorem tr_al (ok : EnOk X E) (he : ∀ e f, tr.e E e = some f → PD X β W e f) {b : Bool} {e : Expr} {f : AF} (h : tr.al E b e = some f) : PF X β W e f ∧ isStar e = false := by
  unfold Tr.al at h
  split at h
  · exact tr_a ok he h
  · simp only [Option.bind_eq_some_iff, guardB_iff, Option.map_eq_some_iff, Bool.not_eq_true'] at h
    obtain ⟨_, hs, g, e1, rfl⟩ := h
    exact ⟨pf_ex (he _ _ e1), hs⟩
theorem tr_as (ok : EnOk X E) (he : ∀ e f, tr.e E e = some f → PD X β W e f) : ∀ {es : List Expr} {fs : List AF}, tr.as E es = some fs → PDA X β W es fs ∧ ∀ e ∈ es, isStar e = false
  | [], fs, h => by cases h; exact ⟨pda_nil, fun e he => nomatch he⟩
  | e :: es, fs, h => by
    unfold Tr.as at h
    simp only [Option.bind_eq_some_iff, Option.map_eq_some_iff] at h
    obtain ⟨f, hf, gs, hg, rfl⟩ := h
    obtain ⟨h1, h2⟩ := tr_a ok he hf
    obtain ⟨h3, h4⟩ := tr_as ok he hg
    exact ⟨pda_cons h2 h1 h3, fun e' m => by rcases List.mem_cons.mp m with z | z; exact z ▸ h2; exact h4 e' z⟩
theorem tr_es (ok : EnOk X E) (he : ∀ e f, tr.e E e = some f → PD X β W e f) : ∀ {es : List Expr} {fs : List AF}, tr.es E es = some fs → PDA X β W es fs ∧ ∀ e ∈ es, isStar e = false
  | [], fs, h => by cases h; exact ⟨pda_nil, fun e he => nomatch he⟩
  | e :: es, fs, h => by
    unfold Tr.es at h
    simp only [Option.bind_eq_some_iff, Option.map_eq_some_iff] at h
    obtain ⟨f, hf, gs, hg, rfl⟩ := h
    obtain ⟨h1, h2⟩ := tr_al ok he hf
    obtain ⟨h3, h4⟩ := tr_es ok he hg
    exact ⟨pda_cons h2 h1 h3, fun e' m => by rcases List.mem_cons.mp m with z | z; exact z ▸ h2; exact h4 e' z⟩
theorem tr_als (ok : EnOk X E) (he : ∀ e f, tr.e E e = some f → PD X β W e f) : ∀ {bs : List Bool} {es : List Expr} {fs : List AF}, tr.als E bs es = some fs → PDA X β W es fs ∧ ∀ e ∈ es, isStar e = false
  | _, [], fs, h => by
    unfold Tr.als at h
    cases h
    exact ⟨pda_nil, fun e he => nomatch he⟩
  | [], _ :: _, fs, h => by unfold Tr.als at h; cases h
  | b :: bs, e :: es, fs, h => by
    unfold Tr.als at h
    simp only [Option.bind_eq_some_iff, Option.map_eq_some_iff] at h
    obtain ⟨f, hf, gs, hg, rfl⟩ := h
    obtain ⟨h1, h2⟩ := tr_al ok he hf
    obtain ⟨h3, h4⟩ := tr_als ok he hg
    exact ⟨pda_cons h2 h1 h3, fun e' m => by rcases List.mem_cons.mp m with z | z; exact z ▸ h2; exact h4 e' z⟩
theorem tr_ks (ok : EnOk X E) (he : ∀ e f, tr.e E e = some f → PD X β W e f) : ∀ {ks : List Keyword} {fs : List AF}, tr.ks E ks = some fs → PDK X β W ks fs ∧ ∀ k ∈ ks, k.arg.isSome = true
  | [], fs, h => by cases h; exact ⟨pdk_nil, fun e he => nomatch he⟩
  | ⟨nm, e, p⟩ :: es, fs, h => by
    unfold Tr.ks at h
    simp only [Option.bind_eq_some_iff, Option.map_eq_some_iff, guardB_iff] at h
    obtain ⟨f, hf, _, hn, gs, hg, rfl⟩ := h
    obtain ⟨h1, h2⟩ := tr_al ok he hf
    obtain ⟨h3, h4⟩ := tr_ks ok he hg
    exact ⟨pdk_cons h1 h3, fun e' m => by rcases List.mem_cons.mp m with z | z; exact z ▸ hn; exact h4 e' z⟩
theorem kw_all : ∀ {ks : List Keyword} {env : Env} {pos : Pos}, (∀ k ∈ ks, k.arg.isSome = true) → (backToKw pos (keywordEach ks env)).all (·.1.isSome) = true ∧ (backToKw pos (keywordEach ks env)).any (·.1.isNone) = false ∧ (backToKw pos (keywordEach ks env)).filterMap (·.1) = ks.filterMap (·.arg)
  | [], _, _, _ => ⟨rfl, rfl, rfl⟩
  | ⟨nm, e, p⟩ :: ks, env, pos, h => by
    obtain ⟨h1, h2, h3⟩ := kw_all (ks := ks) (env := env) (pos := pos) fun k m => h k (List.mem_cons_of_mem _ m)
    have hn := h ⟨nm, e, p⟩ List.mem_cons_self
    cases nm with
    | none => cases hn
    | some n =>
      refine ⟨?_, ?_, ?_⟩
      · show (true && (backToKw pos (keywordEach ks env)).all (·.1.isSome)) = true
        rw [h1]; rfl
      · show (false || (backToKw pos (keywordEach ks env)).any (·.1.isNone)) = false
        rw [h2]; rfl
      · show n :: (backToKw pos (keywordEach ks env)).filterMap (·.1) = n :: ks.filterMap (·.arg)
        rw [h3]
mutual
theorem tg_ok (ok : EnOk X E) : ∀ (e : Expr) (t : Tg), trTg E e = some t → PG X e (t.rd X.K)
  | .Name x p, t, h => by
    unfold trTg at h
    simp only [Option.map_eq_some_iff] at h
    obtain ⟨i, hi, rfl⟩ := h
    obtain ⟨h1, h2, h3⟩ := ok.loc hi
    exact pg_name ok.nd h1 h2 h3
  | .Tuple es k p, t, h => by
    unfold trTg at h
    obtain ⟨h1, h2, h3, h4⟩ := tgs_ok ok es t h
    cases t with
    | nm i => exact (h4 i rfl).elim
    | nil => exact pg_tup ok.calm (h1 : PGs X es (Tg.rds X.K .nil)) h2 h3
    | cons a r =>
      have q : PGs X es (gCons (Tg.rd X.K a) (Tg.rds X.K r)) := by
        have := h1
        unfold Tg.rds at this
        exact this
      have := pg_tl (n := r.len + 1) (pos := p) (k := k) ok.calm q h2 h3
      unfold Tg.rd
      exact this
  | .BoolOp .., _, h => by unfold trTg at h; cases h
  | .NamedExpr .., _, h => by unfold trTg at h; cases h
  | .BinOp .., _, h => by unfold trTg at h; cases h
  | .UnaryOp .., _, h => by unfold trTg at h; cases h
  | .Lambda .., _, h => by unfold trTg at h; cases h
  | .IfExp .., _, h => by unfold trTg at h; cases h
  | .Dict .., _, h => by unfold trTg at h; cases h
  | .Set .., _, h => by unfold trTg at h; cases h
  | .ListComp .., _, h => by unfold trTg at h; cases h
  | .SetComp .., _, h => by unfold trTg at h; cases h
  | .DictComp .., _, h => by unfold trTg at h; cases h
  | .GeneratorExp .., _, h => by unfold trTg at h; cases h
  | .Await .., _, h => by unfold trTg at h; cases h
  | .Yield .., _, h => by unfold trTg at h; cases h
  | .YieldFrom .., _, h => by unfold trTg at h; cases h
  | .Compare .., _, h => by unfold trTg at h; cases h
  | .Call .., _, h => by unfold trTg at h; cases h
  | .FormattedValue .., _, h => by unfold trTg at h; cases h
  | .JoinedStr .., _, h => by unfold trTg at h; cases h
  | .Constant .., _, h => by unfold trTg at h; cases h
  | .Attribute .., _, h => by unfold trTg at h; cases h
  | .Subscript .., _, h => by unfold trTg at h; cases h
  | .Starred .., _, h => by unfold trTg at h; cases h
  | .List .., _, h => by unfold trTg at h; cases h
  | .Slice .., _, h => by unfold trTg at h; cases h
theorem tgs_ok (ok : EnOk X E) : ∀ (es : List Expr) (t : Tg), trTgs E es = some t → PGs X es (t.rds X.K) ∧ (assignEach es X.env).length = t.len ∧ (assignEach es X.env).findIdx? (·.1) = none ∧ ∀ i, t ≠ .nm i
  | [], t, h => by
    unfold trTgs at h
    cases h
    exact ⟨pgs_nil, rfl, rfl, fun i h => nomatch h⟩
  | e :: es, t, h => by
    unfold trTgs at h
    simp only [Option.bind_eq_some_iff, Option.map_eq_some_iff] at h
    obtain ⟨a, ha, r, hr, rfl⟩ := h
    have h1 := tg_ok ok e a ha
    obtain ⟨h2, h3, h4, _⟩ := tgs_ok ok es r hr
    have key : assignEach (e :: es) X.env = (false, assign e X.env) :: assignEach es X.env := by
      cases e <;> first | rfl | (unfold trTg at ha; cases ha)
    refine ⟨?_, ?_, ?_, fun i h => nomatch h⟩
    · have := pgs_cons h1 h2 (by rw [key]; rfl)
      unfold Tg.rds
      exact this
    · rw [key, List.length_cons, h3]; rfl
    · rw [key, List.findIdx?_cons, h4]; rfl
end
theorem marks2 {op op' : CmpOp} {b c : Expr} (h : isSet c = false) : lastMarks [op, op'] [b, c] = false := marks_of h
theorem tname_ok {x : Str} {b : String} (h : typeOfName x = some b) : b ∈ tyNames ∧ bootBuiltins x = some (.type b) ∧ x ≠ "__name__" ∧ (x == ("__debug__" : Str)) = false := by
  unfold typeOfName at h
  have h1 := List.find?_some h
  have h2 := List.mem_of_find?_eq_some h
  have h3 : Str.ofString b = x := of_decide_eq_true h1
  subst h3
  simp only [List.mem_cons, List.not_mem_nil, or_false] at h2
  rcases h2 with rfl | rfl | rfl | rfl | rfl
  · exact ⟨by decide, by kernel_rfl, by decide, by decide⟩
  · exact ⟨by decide, by kernel_rfl, by decide, by decide⟩
  · exact ⟨by decide, by kernel_rfl, by decide, by decide⟩
  · exact ⟨by decide, by kernel_rfl, by decide, by decide⟩
  · exact ⟨by decide, by kernel_rfl, by decide, by decide⟩
theorem tys_ok (ok : EnOk X E) : ∀ {es : List Expr} {bs : List String}, tysOf E es = some bs → TyNs X es bs
  | [], bs, h => by cases h; exact .nil
  | e :: es, bs, h => by
    cases e <;> first | (unfold tysOf at h; cases h; done) | skip
    case Name x q =>
      unfold tysOf at h
      simp only [Option.bind_eq_some_iff, Option.map_eq_some_iff, guardB_iff, Bool.and_eq_true, decide_eq_true_eq] at h
      obtain ⟨b, hb, _, ⟨h1, h2⟩, cs, hc, rfl⟩ := h
      obtain ⟨t1, t2, t3, t4⟩ := tname_ok hb
      exact .cons (ok.gl h1) (ok.bi _ h2) t2 t3 t4 t1 (tys_ok ok hc)
end
end Ev
end

section
set_option Elab.async false
set_option linter.all false
set_option maxRecDepth 100000
set_option maxHeartbeats 4000000
/-! Ev, part 26: the translation of expressions is right: a layer more. -/
namespace Ev
open PySem PySem.Spec PyProof.Rows L2
section
variable {tr : Tr} {X : Cx} {E : En} {β : Nat → Addr} {W : WX}
theorem find_ok {α : Type} {p : α → Bool} {l : List α} {a : α} (h : l.find? p = some a) : a ∈ l ∧ p a = true := ⟨List.mem_of_find?_eq_some h, List.find?_some h⟩
theorem xcls_ok {x : Str} {p : Str × List Str} (h : E.xcls x = some p) : p ∈ E.xs ∧ p.1 = x := by
  obtain ⟨h1, h2⟩ := find_ok h
  exact ⟨h1, of_decide_eq_true h2⟩
theorem step_mk (ok : EnOk X E) (he : ∀ e f, tr.e E e = some f → PD X β W e f) {p : Str × List Str} {es : List Expr} {f : M SV} {q pos : Pos} (hp : p ∈ E.xs) (hG : Gl X p.1) (h : stepMk tr E p.1 es = some f) : PD X β W (.Call (.Name p.1 q) es [] pos) f := by
  unfold stepMk at h
  split at h
  · simp only [Option.map_eq_some_iff] at h
    obtain ⟨fa, ha, rfl⟩ := h
    obtain ⟨h1, h2⟩ := tr_al ok he ha
    exact pd_xmk1 (ok.xs p hp) (ok.sup p hp).2 (ok.sup p hp).1 hG h1 h2
  · cases h
theorem step_mkK (ok : EnOk X E) (he : ∀ e f, tr.e E e = some f → PD X β W e f) {p : Str × List Str} {ks : List Keyword} {f : M SV} {q pos : Pos} (hp : p ∈ E.xs) (hG : Gl X p.1) (h : stepMkK tr E p.1 ks = some f) : PD X β W (.Call (.Name p.1 q) [] ks pos) f := by
  unfold stepMkK at h
  split at h
  · simp only [Option.bind_eq_some_iff, Option.map_eq_some_iff, guardB_iff, decide_eq_true_eq] at h
    obtain ⟨_, rfl, fa, ha, rfl⟩ := h
    obtain ⟨h1, h2⟩ := tr_al ok he ha
    exact pd_xmkK (ok.xs p hp) (ok.sup p hp).2 (ok.sup p hp).1 hG h1
  · cases h
theorem base_of {e : Expr} (h : noCall e = true) (nm : Str) (env : Env) (m : Sem Value) : attributeBase e nm env m = m := by
  cases e <;> first | rfl | cases h
theorem step_isx (ok : EnOk X E) (he : ∀ e f, tr.e E e = some f → PD X β W e f) {a : Expr} {x : Str} {f : M SV} {p q pos : Pos} (h : stepIsx tr E a x = some f) : PD X β W (.Call (.Name (Str.ofString "isinstance") p) [a, .Name x q] [] pos) f := by
  unfold stepIsx at h
  split at h
  · rename_i r ex
    obtain ⟨hm, hx⟩ := xcls_ok ex
    subst hx
    simp only [Option.bind_eq_some_iff, guardB_iff, Option.map_eq_some_iff, Bool.and_eq_true, decide_eq_true_eq] at h
    obtain ⟨_, ⟨⟨h1, h2⟩, h3⟩, fa, hfa, rfl⟩ := h
    obtain ⟨ha, hs⟩ := tr_a ok he hfa
    exact pd_isx ok.xs hm (ok.gl h1) (ok.bi _ h3) (ok.gl h2) ha hs
  · simp only [Option.bind_eq_some_iff, guardB_iff, Option.map_eq_some_iff, Bool.and_eq_true, decide_eq_true_eq] at h
    obtain ⟨_, ⟨⟨⟨⟨rfl, h1⟩, h2⟩, h3⟩, h4⟩, fa, hfa, rfl⟩ := h
    obtain ⟨ha, hs⟩ := tr_a ok he hfa
    exact pd_isv ok.xs (ok.gl h1) (ok.bi _ h3) (ok.gl h2) (ok.bi _ h4) ha hs
theorem step_call (ok : EnOk X E) (tk : Takes X W) (he : ∀ e f, tr.e E e = some f → PD X β W e f) {x : Str} {es : List Expr} {f : M SV} {p pos : Pos} (h : stepCall tr E x es = some f) : PD X β W (.Call (.Name x p) es [] pos) f := by
  unfold stepCall at h
  simp only [Option.bind_eq_some_iff, guardB_iff] at h
  obtain ⟨_, hg, h⟩ := h
  have hG := ok.gl hg
  split at h
  · rename_i f0 el
    cases h
    unfold stepLrg at el
    split at el
    · rename_i y q e es p2
      simp only [Option.bind_eq_some_iff, guardB_iff, Option.map_eq_some_iff, Bool.and_eq_true, decide_eq_true_eq] at el
      obtain ⟨_, ⟨⟨⟨⟨rfl, rfl⟩, g1⟩, g2⟩, g3⟩, fs, hfs, rfl⟩ := el
      obtain ⟨h1, h2⟩ := tr_as ok he hfs
      exact pd_lrg ok.calm hG (ok.bi _ g2) (ok.gl g1) (ok.bi _ g3) h1 (star_cons (h2 e List.mem_cons_self)) (star_any fun e' m => h2 e' (List.mem_cons_of_mem _ m))
    · cases el
  split at h
  · rename_i q ex
    obtain ⟨hm, hx⟩ := xcls_ok ex
    subst hx
    exact step_mk ok he hm hG h
  split at h
  · rename_i q eq
    obtain ⟨hm, hx⟩ := find_ok eq
    have hx : q.x = x := of_decide_eq_true hx
    simp only [Option.bind_eq_some_iff, guardB_iff, Option.map_eq_some_iff, Bool.not_eq_true'] at h
    obtain ⟨_, hne, fs, hfs, rfl⟩ := h
    obtain ⟨h1, h2⟩ := tr_als ok he hfs
    obtain ⟨k, fa, fd, ps, F1, F2, F3, F4, F5, F6⟩ := ok.fns q hm
    subst hx
    cases es with
    | nil => cases hne
    | cons e es =>
      exact pd_call F1 F2 hG F3 F4 F5 tk h1 F6 (star_cons (h2 e List.mem_cons_self)) (star_any fun e' m => h2 e' (List.mem_cons_of_mem _ m))
  · simp only [Option.bind_eq_some_iff, guardB_iff] at h
    obtain ⟨_, hb, h⟩ := h
    have hb : x ∈ E.bi := of_decide_eq_true hb
    split at h
    · rename_i b eb
      obtain ⟨hm, hx⟩ := find_ok eb
      have hx : b.name = x := of_decide_eq_true hx
      simp only [Option.bind_eq_some_iff, guardB_iff, Option.map_eq_some_iff, Bool.not_eq_true'] at h
      obtain ⟨_, hne, fs, hfs, rfl⟩ := h
      obtain ⟨h1, h2⟩ := tr_as ok he hfs
      subst hx
      cases es with
      | nil => cases hne
      | cons e es => exact pd_bi hm hG (ok.bi _ hb) ok.calm ok.un h1 (star_cons (h2 e List.mem_cons_self)) (star_any fun e' m => h2 e' (List.mem_cons_of_mem _ m))
    · cases h
theorem step_isi (ok : EnOk X E) (he : ∀ e f, tr.e E e = some f → PD X β W e f) {es : List Expr} {f : M SV} {p pos : Pos} (h : stepIsi tr E es = some f) : PD X β W (.Call (.Name (Str.ofString "isinstance") p) es [] pos) f := by
  unfold stepIsi at h
  split at h
  · rename_i a es k q
    simp only [Option.bind_eq_some_iff, guardB_iff, Option.map_eq_some_iff, Bool.and_eq_true, decide_eq_true_eq] at h
    obtain ⟨bs, hb, _, ⟨⟨h1, h2⟩, h3⟩, fa, hfa, rfl⟩ := h
    obtain ⟨ha, hs⟩ := tr_a ok he hfa
    exact pd_isiT (ok.gl h1) (ok.bi _ h2) (tys_ok ok hb) h3 ha hs
  · rename_i a x q
    split at h
    · exact step_isx ok he h
    rename_i b hb
    simp only [Option.bind_eq_some_iff, guardB_iff, Option.map_eq_some_iff, Bool.and_eq_true, decide_eq_true_eq] at h
    obtain ⟨_, ⟨⟨⟨h1, h2⟩, h3⟩, h4⟩, fa, hfa, rfl⟩ := h
    obtain ⟨t1, t2, t3, t4⟩ := tname_ok hb
    obtain ⟨ha, hs⟩ := tr_a ok he hfa
    exact pd_isi1 (ok.gl h1) (ok.bi _ h3) (ok.gl h2) (ok.bi _ h4) t2 t3 t4 t1 ha hs
  · cases h
theorem glob_ok (ok : EnOk X E) {e : Expr} {p : GTab} (h : E.glob e = some p) : ∃ q, e = .Name p.x q ∧ Gl X p.x ∧ GOk X.K X.w X.mg p := by
  unfold En.glob at h
  split at h
  · rename_i x q
    simp only [Option.bind_eq_some_iff, guardB_iff] at h
    obtain ⟨_, hg, h⟩ := h
    obtain ⟨hm, hx⟩ := find_ok h
    have hx : p.x = x := of_decide_eq_true hx
    subst hx
    exact ⟨q, rfl, ok.gl hg, ok.gd p hm⟩
  · cases h
theorem neg_ok {op : CmpOp} {neg : Bool} (h : gNeg op = some neg) : (op = .In ∧ neg = false) ∨ (op = .NotIn ∧ neg = true) := by
  unfold gNeg at h
  split at h <;> cases h
  · exact .inl ⟨rfl, rfl⟩
  · exact .inr ⟨rfl, rfl⟩
theorem step_cmp (ok : EnOk X E) (he : ∀ e f, tr.e E e = some f → PD X β W e f) {a b : Expr} {op : CmpOp} {f : M SV} {pos : Pos} (h : stepCmp tr E a op b = some f) : PD X β W (.Compare a [op] [b] pos) f := by
  unfold stepCmp at h
  split at h
  · rename_i p eg
    obtain ⟨q, rfl, hG, G⟩ := glob_ok ok eg
    simp only [Option.bind_eq_some_iff, Option.map_eq_some_iff] at h
    obtain ⟨neg, hn, fa, ha, rfl⟩ := h
    rcases neg_ok hn with ⟨rfl, rfl⟩ | ⟨rfl, rfl⟩
    · exact pd_gin G hG (tr_a ok he ha).1
    · exact pd_gnin G hG (tr_a ok he ha).1
  · simp only [Option.bind_eq_some_iff, Option.map_eq_some_iff, guardB_iff, Bool.not_eq_true'] at h
    obtain ⟨g, hg, _, hs, fa, ha, fb, hb, rfl⟩ := h
    obtain ⟨r, r1, r2⟩ := cmpD_ok hg
    exact pd_cmp (r1 X (by have := ok.un; omega)) (r2 _) (tr_a ok he ha).1 (tr_a ok he hb).1 (marks_of hs)
theorem step_cmpT (ok : EnOk X E) (he : ∀ e f, tr.e E e = some f → PD X β W e f) {a b : Expr} {op : CmpOp} {f : M SV} {pos : Pos} (h : stepCmp tr E a op b = some f) : PTD X β W (.Compare a [op] [b] pos) (asT f) := by
  unfold stepCmp at h
  split at h
  · rename_i p eg
    obtain ⟨q, rfl, hG, G⟩ := glob_ok ok eg
    simp only [Option.bind_eq_some_iff, Option.map_eq_some_iff] at h
    obtain ⟨neg, hn, fa, ha, rfl⟩ := h
    rcases neg_ok hn with ⟨rfl, rfl⟩ | ⟨rfl, rfl⟩
    · exact ptd_gin G hG (tr_a ok he ha).1
    · exact ptd_gnin G hG (tr_a ok he ha).1
  · simp only [Option.bind_eq_some_iff, Option.map_eq_some_iff, guardB_iff, Bool.not_eq_true'] at h
    obtain ⟨g, hg, _, hs, fa, ha, fb, hb, rfl⟩ := h
    obtain ⟨r, r1, r2⟩ := cmpD_ok hg
    exact ptd_cmp (r1 X (by have := ok.un; omega)) (r2 _) (tr_a ok he ha).1 (tr_a ok he hb).1 (marks_of hs)
theorem step_ix (ok : EnOk X E) (he : ∀ e f, tr.e E e = some f → PD X β W e f) {a b : Expr} {f : M SV} {pos : Pos} (h : stepIx tr E a b = some f) : PD X β W (.Subscript a b pos) f := by
  unfold stepIx at h
  split at h
  · rename_i p eg
    obtain ⟨q, rfl, hG, G⟩ := glob_ok ok eg
    simp only [Option.bind_eq_some_iff, Option.map_eq_some_iff, guardB_iff, Bool.not_eq_true'] at h
    obtain ⟨_, hs, fb, hb, rfl⟩ := h
    exact pd_gix G hG (tr_a ok he hb).1 (plain_of hs)
  · simp only [Option.bind_eq_some_iff, Option.map_eq_some_iff, guardB_iff, Bool.not_eq_true'] at h
    obtain ⟨_, hs, fa, ha, fb, hb, rfl⟩ := h
    exact pd_ix ix_seq ok_ix (tr_a ok he ha).1 (tr_a ok he hb).1 (plain_of hs)
theorem step_part (he : ∀ e f, tr.e E e = some f → PD X β W e f) {o : Option Expr} {f : Option (M SV)} (h : stepPart tr E o = some f) : PPart X β W o f := by
  cases o with
  | none => cases h; exact ppart_none
  | some e =>
    unfold stepPart at h
    simp only [Option.map_eq_some_iff] at h
    obtain ⟨g, hg, rfl⟩ := h
    exact ppart_some (he _ _ hg)
theorem step_ifs (ht : ∀ e f, tr.t E e = some f → PTD X β W e f) {cs : List Expr} {f : M Bool} (h : stepIfs tr E cs = some f) : PTs X cs (tDT (cx X β W) f) := by
  unfold stepIfs at h
  split at h
  · cases h; exact pts_yes
  · exact pts_if (ht _ _ h)
  · cases h
theorem ixs_own {ns : List Str} {is : List Nat} (h : ns.length = is.length) : (ns.zip is).map (·.2) = is := by
  rw [List.map_snd_zip (by omega)]
theorem step_e (T : TrOk tr) (ok : EnOk X E) (tk : Takes X W) : ∀ (e : Expr) (f : M SV), stepE tr E e = some f → PD X β W e f := by
  obtain ⟨he, ht, hw⟩ := T X E β W ok tk
  intro e f h
  unfold stepE at h
  split at h
  · rename_i x p
    simp only [Option.map_eq_some_iff] at h
    obtain ⟨i, hi, rfl⟩ := h
    obtain ⟨h1, h2, h3, h4⟩ := ok.var hi
    exact pd_varF h1 h2 h3 h4
  · cases h; exact pd_const rfl pe_int
  · cases h; exact pd_const rfl pe_str
  · cases h; exact pd_const rfl pe_bl
  · cases h; exact pd_const rfl pe_non
  · simp only [Option.bind_eq_some_iff, Option.map_eq_some_iff] at h
    obtain ⟨g, hg, fa, ha, fb, hb, rfl⟩ := h
    obtain ⟨r, r1, r2⟩ := binD_ok hg
    exact pd_bin (r1 X) (r2 _) (tr_a ok he ha).1 (tr_a ok he hb).1
  · simp only [Option.map_eq_some_iff] at h
    obtain ⟨fa, ha, rfl⟩ := h
    exact pd_un un_neg ok_neg (tr_a ok he ha).1
  · simp only [Option.map_eq_some_iff] at h
    obtain ⟨fa, ha, rfl⟩ := h
    exact pd_not (he _ _ ha)
  · exact pd_one (he _ _ h)
  · simp only [Option.bind_eq_some_iff, Option.map_eq_some_iff] at h
    obtain ⟨fa, ha, fb, hb, rfl⟩ := h
    exact pd_and (he _ _ ha) (he _ _ hb)
  · simp only [Option.bind_eq_some_iff, Option.map_eq_some_iff] at h
    obtain ⟨fa, ha, fb, hb, rfl⟩ := h
    exact pd_or (he _ _ ha) (he _ _ hb)
  · simp only [Option.bind_eq_some_iff, Option.map_eq_some_iff] at h
    obtain ⟨fc, hc, fa, ha, fb, hb, rfl⟩ := h
    exact pd_if (ht _ _ hc) (he _ _ ha) (he _ _ hb)
  · exact step_cmp ok he h
  · simp only [Option.bind_eq_some_iff, Option.map_eq_some_iff, guardB_iff, Bool.and_eq_true, Bool.not_eq_true'] at h
    obtain ⟨g, hg, g', hg', _, ⟨_, hs⟩, fa, ha, fb, hb, fc, hc, rfl⟩ := h
    obtain ⟨r, r1, r2⟩ := cmpD_ok hg
    obtain ⟨r', r1', r2'⟩ := cmpD_ok hg'
    exact pd_chain (r1 X (by have := ok.un; omega)) (r1' X (by have := ok.un; omega)) (r2 _) (r2' _) (tr_a ok he ha).1 (tr_a ok he hb).1 (tr_a ok he hc).1 (marks2 hs)
  · split at h
    · rename_i hx
      subst hx
      exact step_isi ok he h
    · exact step_call ok tk he h
  · simp only [Option.bind_eq_some_iff, Option.map_eq_some_iff, guardB_iff, Bool.and_eq_true, decide_eq_true_eq] at h
    obtain ⟨_, ⟨rfl, hc⟩, fa, ha, rfl⟩ := h
    exact pd_xval ok.xs (tr_a ok he ha).1 (base_of hc _ _ _)
  · simp only [Option.bind_eq_some_iff, guardB_iff] at h
    obtain ⟨_, hg, h⟩ := h
    split at h
    · rename_i q ex
      obtain ⟨hm, hx⟩ := xcls_ok ex
      have hG := ok.gl hg
      subst hx
      exact step_mkK ok he hm hG h
    split at h
    · rename_i q eq
      obtain ⟨hm, hx⟩ := find_ok eq
      simp only [Bool.and_eq_true, decide_eq_true_eq] at hx
      obtain ⟨hx, hk⟩ := hx
      simp only [Option.map_eq_some_iff] at h
      obtain ⟨fs, hfs, rfl⟩ := h
      obtain ⟨k1, k2⟩ := tr_ks ok he hfs
      obtain ⟨k, fa, fd, ps, js, F, F0, F1, F2, F3, F4, F5, F6⟩ := ok.kws q hm
      obtain ⟨a1, a2, a3⟩ := kw_all (env := X.env) k2
      have hG := ok.gl hg
      rw [← hx] at hG ⊢
      rw [F0]
      refine pd_callK F1 F2 hG F3 F4 F5 tk k1 a1 (by rw [a3]; exact hk.symm) F6 ?_
      rw [a2]; rfl
    · cases h
  · simp only [Option.bind_eq_some_iff, Option.map_eq_some_iff, guardB_iff, Bool.and_eq_true, decide_eq_true_eq] at h
    obtain ⟨_, ⟨hj, hl⟩, fa, ha, rfl⟩ := h
    subst hj
    exact pd_join (tr_a ok he ha).1 (tr_a ok he ha).2 rfl hl
  · simp only [Option.bind_eq_some_iff, Option.map_eq_some_iff, guardB_iff, Bool.and_eq_true, decide_eq_true_eq, Bool.not_eq_true'] at h
    obtain ⟨_, ⟨hl, hs⟩, i, hi, h⟩ := h
    obtain ⟨h1, h2, h3, h4⟩ := ok.var hi
    split at h
    · rename_i hj
      subst hj
      simp only [Option.map_eq_some_iff] at h
      obtain ⟨fv, hv, rfl⟩ := h
      exact pd_append h1 h2 h3 h4 (he _ _ hv) hs rfl (by rw [star_cons hs]; rfl) hl rfl
    · simp only [Option.bind_eq_some_iff, Option.map_eq_some_iff] at h
      obtain ⟨g, hg, fa, ha, rfl⟩ := h
      exact pd_lmD hg (by have := ok.un; omega) h1 h2 h3 h4 (tr_a ok he ha).1 (tr_a ok he ha).2 rfl (by rw [star_cons hs]; rfl) hl rfl
  · simp only [Option.bind_eq_some_iff, Option.map_eq_some_iff, guardB_iff, Bool.and_eq_true, decide_eq_true_eq, Bool.not_eq_true'] at h
    obtain ⟨kv, hkv, _, ⟨⟨hz, h0⟩, h15⟩, i, hi, rfl⟩ := h
    obtain ⟨h1, h2, h3, h4⟩ := ok.var hi
    exact pd_dix (by have := ok.un; omega) hkv hz (fun z => by rw [z] at h0; cases h0) h15 h1 h2 h3 h4
  · simp only [Option.map_eq_some_iff] at h
    obtain ⟨fe, h1, rfl⟩ := h
    exact pd_rev (tr_a ok he h1).1
  · simp only [Option.bind_eq_some_iff, Option.map_eq_some_iff] at h
    obtain ⟨fe, h1, fl, h2, fh, h3, rfl⟩ := h
    exact pd_slice (tr_a ok he h1).1 (step_part he h2) (step_part he h3)
  · exact step_ix ok he h
  · simp only [Option.map_eq_some_iff] at h
    obtain ⟨fs, hfs, rfl⟩ := h
    exact pd_lst (tr_es ok he hfs).1
  · simp only [Option.map_eq_some_iff] at h
    obtain ⟨fs, hfs, rfl⟩ := h
    exact pd_tup (tr_es ok he hfs).1
  · rename_i elt tg iter ifs scope pos
    simp only [Option.bind_eq_some_iff, Option.map_eq_some_iff, guardB_iff, Bool.and_eq_true, decide_eq_true_eq, Bool.not_eq_true'] at h
    obtain ⟨_, hs, t, h1, _, ⟨⟨hb, hn⟩, hl⟩, src, h2, c, h3, fe, h4, rfl⟩ := h
    refine pd_lc ok.calm ok.nd (ixs_own hl) hn (hw _ _ _ h2) ?_ (fun s H C cl fp => ?_) (fun s H C cl fp => ?_) (fun s H C cl fp => ?_) (folded_of hs _)
    · rw [ok.N, ok.sc]; exact blkOk_by hb
    · exact tg_ok (EnOk.blk ok s H C cl fp) tg t h1
    · exact step_ifs (T _ _ β (fun _ _ _ _ => False) (EnOk.blk ok s H C cl fp) takes_no).2.1 h3
    · exact (T _ _ β (fun _ _ _ _ => False) (EnOk.blk ok s H C cl fp) takes_no).1 _ _ h4
  · rename_i elt tg iter ifs tg1 iter1 ifs1 scope pos
    simp only [Option.bind_eq_some_iff, Option.map_eq_some_iff, guardB_iff, Bool.and_eq_true, decide_eq_true_eq, Bool.not_eq_true'] at h
    obtain ⟨_, ⟨hs, hs1⟩, t, h1, t1, h11, _, ⟨⟨hb, hn⟩, hl⟩, src, h2, c, h3, src1, h21, c1, h31, fe, h4, rfl⟩ := h
    refine pd_lc2 ok.calm ok.nd (ixs_own hl) hn (hw _ _ _ h2) ?_ (fun s H C cl fp => ?_) (fun s H C cl fp => ?_) (fun s H C cl fp => ?_) (fun s H C cl fp => ?_) (fun s H C cl fp => ?_) (fun s H C cl fp => ?_) (folded_of hs _) (folded_of hs1)
    · rw [ok.N, ok.sc]; exact blkOk_by hb
    · exact tg_ok (EnOk.blk ok s H C cl fp) tg t h1
    · exact step_ifs (T _ _ β (fun _ _ _ _ => False) (EnOk.blk ok s H C cl fp) takes_no).2.1 h3
    · exact (T _ _ β (fun _ _ _ _ => False) (EnOk.blk ok s H C cl fp) takes_no).2.2 _ _ _ h21
    · exact tg_ok (EnOk.blk ok s H C cl fp) tg1 t1 h11
    · exact step_ifs (T _ _ β (fun _ _ _ _ => False) (EnOk.blk ok s H C cl fp) takes_no).2.1 h31
    · exact (T _ _ β (fun _ _ _ _ => False) (EnOk.blk ok s H C cl fp) takes_no).1 _ _ h4
  · rename_i kx vx tg iter ifs scope pos
    simp only [Option.bind_eq_some_iff, Option.map_eq_some_iff, guardB_iff, Bool.and_eq_true, decide_eq_true_eq, Bool.not_eq_true'] at h
    obtain ⟨_, hs, t, h1, _, ⟨⟨hb, hn⟩, hl⟩, src, h2, c, h3, fk, h4, fv, h5, rfl⟩ := h
    refine pd_dc ok.calm ok.nd (by have := ok.un; omega) (ixs_own hl) hn (hw _ _ _ h2) ?_ (fun s H C cl fp => ?_) (fun s H C cl fp => ?_) (fun s H C cl fp => ?_) (fun s H C cl fp => ?_) (folded_of hs _)
    · rw [ok.N, ok.sc]; exact blkOk_by hb
    · exact tg_ok (EnOk.blk ok s H C cl fp) tg t h1
    · exact step_ifs (T _ _ β (fun _ _ _ _ => False) (EnOk.blk ok s H C cl fp) takes_no).2.1 h3
    · exact (T _ _ β (fun _ _ _ _ => False) (EnOk.blk ok s H C cl fp) takes_no).1 _ _ h4
    · exact (T _ _ β (fun _ _ _ _ => False) (EnOk.blk ok s H C cl fp) takes_no).1 _ _ h5
  · cases h
theorem step_t (T : TrOk tr) (ok : EnOk X E) (tk : Takes X W) : ∀ (e : Expr) (f : M Bool), stepT tr E e = some f → PTD X β W e f := by
  obtain ⟨he, ht, hw⟩ := T X E β W ok tk
  intro e f h
  unfold stepT at h
  split at h
  · simp only [Option.map_eq_some_iff] at h
    obtain ⟨fa, ha, rfl⟩ := h
    exact ptd_not (ht _ _ ha)
  · rename_i op a p
    cases op with
    | And => exact (pwd_and1 (ht _ _ h)).ptd
    | Or => exact (pwd_or1 (ht _ _ h)).ptd
  · simp only [Option.bind_eq_some_iff, Option.map_eq_some_iff] at h
    obtain ⟨fa, ha, fb, hb, rfl⟩ := h
    exact (pwd_and (ht _ _ ha) (ptd_pwd (ht _ _ hb))).ptd
  · simp only [Option.bind_eq_some_iff, Option.map_eq_some_iff] at h
    obtain ⟨fa, ha, fb, hb, rfl⟩ := h
    exact (pwd_or (ht _ _ ha) (ptd_pwd (ht _ _ hb))).ptd
  · simp only [Option.map_eq_some_iff] at h
    obtain ⟨g, hg, rfl⟩ := h
    exact step_cmpT ok he hg
  · simp only [Option.bind_eq_some_iff, Option.map_eq_some_iff, guardB_iff, Bool.and_eq_true, Bool.not_eq_true'] at h
    obtain ⟨g, hg, g', hg', _, ⟨_, hs⟩, fa, ha, fb, hb, fc, hc, rfl⟩ := h
    obtain ⟨r, r1, r2⟩ := cmpD_ok hg
    obtain ⟨r', r1', r2'⟩ := cmpD_ok hg'
    exact ptd_chain (r1 X (by have := ok.un; omega)) (r1' X (by have := ok.un; omega)) (r2 _) (r2' _) (tr_a ok he ha).1 (tr_a ok he hb).1 (tr_a ok he hc).1 (marks2 hs)
  · simp only [Option.map_eq_some_iff] at h
    obtain ⟨fa, ha, rfl⟩ := h
    exact ptd_val (he _ _ ha) fun _ => rfl
  · simp only [Option.map_eq_some_iff] at h
    obtain ⟨fa, ha, rfl⟩ := h
    exact ptd_val (he _ _ ha) fun _ => rfl
  · simp only [Option.map_eq_some_iff] at h
    obtain ⟨fa, ha, rfl⟩ := h
    exact ptd_val (he _ _ ha) fun _ => rfl
  · simp only [Option.map_eq_some_iff] at h
    obtain ⟨fa, ha, rfl⟩ := h
    exact ptd_val (he _ _ ha) fun _ => rfl
  · cases h
theorem step_w (T : TrOk tr) (ok : EnOk X E) (tk : Takes X W) : ∀ (tg e : Expr) (f : M Walk), stepW tr E (isTupV tg) e = some f → PId X β W tg e f := by
  obtain ⟨he, ht, hw⟩ := T X E β W ok tk
  intro tg e f h
  unfold stepW at h
  split at h
  · rename_i x q es p
    split at h
    · rename_i hx
      subst hx
      simp only [Option.bind_eq_some_iff, guardB_iff, Bool.and_eq_true, decide_eq_true_eq] at h
      obtain ⟨_, ⟨h1, h2⟩, h⟩ := h
      split at h
      · simp only [Option.map_eq_some_iff] at h
        obtain ⟨fa, ha, rfl⟩ := h
        obtain ⟨a1, a2⟩ := tr_a ok he ha
        exact pid_rng1 (ok.gl h1) (ok.bi _ h2) (pda_cons a2 a1 pda_nil) (star_cons a2)
      · simp only [Option.bind_eq_some_iff, Option.map_eq_some_iff] at h
        obtain ⟨fa, ha, fb, hb, rfl⟩ := h
        obtain ⟨a1, a2⟩ := tr_a ok he ha
        obtain ⟨b1, b2⟩ := tr_a ok he hb
        exact pid_rng2 (ok.gl h1) (ok.bi _ h2) (pda_cons a2 a1 (pda_cons b2 b1 pda_nil)) (by rw [star_cons a2, star_cons b2]; rfl) (star_cons b2)
      · cases h
    · split at h
      · rename_i hx
        subst hx
        simp only [Option.bind_eq_some_iff, guardB_iff, Bool.and_eq_true, decide_eq_true_eq] at h
        obtain ⟨_, ⟨⟨h0, h1⟩, h2⟩, h⟩ := h
        split at h
        · simp only [Option.bind_eq_some_iff, Option.map_eq_some_iff, guardB_iff, Bool.and_eq_true, Bool.not_eq_true'] at h
          obtain ⟨_, ⟨s1, s2⟩, fa, ha, fb, hb, rfl⟩ := h
          cases tg <;> first | (cases h0; done) | skip
          exact pid_zip (ok.gl h1) (ok.bi _ h2) (he _ _ ha) (he _ _ hb) s1 s2
        · cases h
      · split at h
        · rename_i hx
          subst hx
          simp only [Option.bind_eq_some_iff, guardB_iff, Bool.and_eq_true, decide_eq_true_eq] at h
          obtain ⟨_, ⟨⟨h0, h1⟩, h2⟩, h⟩ := h
          split at h
          · simp only [Option.bind_eq_some_iff, Option.map_eq_some_iff, guardB_iff, Bool.not_eq_true'] at h
            obtain ⟨_, s1, fa, ha, rfl⟩ := h
            cases tg <;> first | (cases h0; done) | skip
            exact pid_enumA (ok.gl h1) (ok.bi _ h2) (he _ _ ha) s1
          · cases h
        · split at h
          · rename_i hx
            subst hx
            simp only [Option.bind_eq_some_iff, guardB_iff, Bool.and_eq_true, decide_eq_true_eq] at h
            obtain ⟨_, ⟨h1, h2⟩, h⟩ := h
            split at h
            · simp only [Option.bind_eq_some_iff, Option.map_eq_some_iff, guardB_iff, Bool.not_eq_true'] at h
              obtain ⟨_, s1, fa, ha, rfl⟩ := h
              exact pid_revX (ok.gl h1) (ok.bi _ h2) (he _ _ ha) s1
            · cases h
          · simp only [Option.map_eq_some_iff] at h
            obtain ⟨fa, ha, rfl⟩ := h
            exact pid_seq (he _ _ ha)
  · simp only [Option.map_eq_some_iff] at h
    obtain ⟨fa, ha, rfl⟩ := h
    exact pid_seq (he _ _ ha)
end
theorem TrOk.step {tr : Tr} (T : TrOk tr) : TrOk tr.step := fun X E β W ok tk => ⟨step_e T ok tk, step_t T ok tk, step_w T ok tk⟩
theorem tr_ok : ∀ n, TrOk (tr n)
  | 0 => TrOk.none
  | n + 1 => (tr_ok n).step
end Ev
end

section
set_option Elab.async false
set_option linter.all false
set_option maxRecDepth 100000
set_option maxHeartbeats 4000000
/-! Ev, part 27: the translation of statements, and that it is right. -/
namespace Ev
open PySem PySem.Spec PyProof.Rows L2
def isComp : Expr → Bool
  | .ListComp .. => true
  | .SetComp .. => true
  | .DictComp .. => true
  | _ => false
def isTup : Expr → Bool
  | .Tuple .. => true
  | .List .. => true
  | _ => false
theorem swaps_no {e : Expr} (h : isComp e = false) (t : Option Expr) (n : Nat) (env : Env) : swapsWith e t n env = pure false := by
  cases e <;> first | rfl | cases h
theorem swaps_not_name {e : Expr} (t : Expr) (n : Nat) (env : Env) (h : ∀ x p, t ≠ .Name x p) : swapsWith e (some t) n env = pure false := by
  cases e <;> first | rfl | (cases t <;> first | rfl | exact absurd rfl (h _ _))
def bkOf (sc : Scope) : ScopeKind := if sc.kind.isAnnotationScope then .function else sc.kind
def sw1 (ts vs : List Expr) (sc : Scope) : Bool := !(ts.length == 2 || ts.length == 3) || vs.length != ts.length || bkOf sc != .function
def sw2 (vs : List Expr) : Bool := vs.any fun | .Starred .. => true | _ => false
def swN (ts : List Expr) (sc : Scope) : List Str := ts.filterMap fun
      | .Name id pos => if sc.names.lookup id == some .local && pos.line == (ts.head?.map (·.pos.line)).getD 0 then some id else none
      | _ => none
def sw3 (ts : List Expr) (sc : Scope) : Bool := (swN ts sc).length != ts.length || (swN ts sc).eraseDups.length != (swN ts sc).length
def swS (ts vs : List Expr) (sc : Scope) : Option (Option (List Str)) :=
  if sw1 ts vs sc = true then some none
  else if sw2 vs = true then some none
  else if sw3 ts sc = true then some none
  else if vs.all (foldedForSure 8) = true then some none
  else if vs.all (constantsAlone 8) = true then none
  else some (some (swN ts sc))
theorem swS_ok {ts vs : List Expr} {env : Env} {r : Option (List Str)} {k k2 : Nat} {tp vp : Pos} (h : swS ts vs env.scope = some r) : swappedStores [.Tuple ts k tp] (.Tuple vs k2 vp) env = pure r := by
  unfold swS at h
  show (if sw1 ts vs env.scope = true then (pure none : Sem (Option (List Str))) else (pure PUnit.unit >>= fun _ => if sw2 vs = true then pure none else (pure PUnit.unit >>= fun _ => if sw3 ts env.scope = true then pure none else (pure PUnit.unit >>= fun _ => if vs.all (foldedForSure 8) = true then pure none else (pure PUnit.unit >>= fun _ => if vs.all (constantsAlone 8) = true then unsupported "assign.tuple-of-constant-expressions:order-of-the-stores" else (pure PUnit.unit >>= fun _ => pure (some (swN ts env.scope)))))))) = pure r
  by_cases h1 : sw1 ts vs env.scope = true
  · rw [if_pos h1] at h ⊢; cases h; rfl
  · rw [if_neg h1] at h ⊢
    show (if sw2 vs = true then _ else _) = _
    by_cases h2 : sw2 vs = true
    · rw [if_pos h2] at h ⊢; cases h; rfl
    · rw [if_neg h2] at h ⊢
      show (if sw3 ts env.scope = true then _ else _) = _
      by_cases h3 : sw3 ts env.scope = true
      · rw [if_pos h3] at h ⊢; cases h; rfl
      · rw [if_neg h3] at h ⊢
        show (if vs.all (foldedForSure 8) = true then _ else _) = _
        by_cases h4 : vs.all (foldedForSure 8) = true
        · rw [if_pos h4] at h ⊢; cases h; rfl
        · rw [if_neg h4] at h ⊢
          show (if vs.all (constantsAlone 8) = true then _ else _) = _
          by_cases h5 : vs.all (constantsAlone 8) = true
          · rw [if_pos h5] at h; cases h
          · rw [if_neg h5] at h ⊢; cases h; rfl
end Ev
end

section
set_option Elab.async false
set_option linter.all false
set_option maxRecDepth 100000
set_option maxHeartbeats 4000000
/-! Ev, part 27b: raise X(e); try .. except X as n; the suite. -/
namespace Ev
open PySem PySem.Spec PyProof.Rows L2
def raiM (c : Str) (f : M SV) : MS := fun S => (f S).bind fun r S1 => match r.shd with
  | some d => .exc c d S1
  | none => .stuck
def tryM (t : XTab) (x : Str) (i : Nat) (f g : MS) : MS := fun S => match f S with
  | .ok fl S1 => .ok fl S1
  | .stuck => .stuck
  | .exc c d S1 => (match t.find? fun p => decide (p.1 = c) with
    | none => .stuck
    | some p => if x ∈ p.2 then (match g (S1.set i (.sh (.exn c d))) with
      | .ok fl S2 => .ok fl (S2.set i .un)
      | _ => .stuck) else .exc c d S1)
section
variable {X : Cx} {β : Nat → Addr} {W : WX}
theorem sd_raise {t : XTab} {p : Str × List Str} {e : Expr} {f : M SV} {q pos pos2 : Pos} (hc : X.calm = true) (tk : Takes X W) (O : XOk X.prog X.K X.mg t p) (hr : Room 1 X.A) (hmg : X.mg "super" = none) (hg : Gl X p.1) (ha : PD X β W e f) (sa : isStar e = false) :
    SD X β W (.Raise (some (.Call (.Name p.1 q) [e] [] pos)) none pos2) (raiM p.1 f) := by
  refine PS.imp (ps_raise hc tk (pmk_x1 (te := tD (cx X β W) f) O.T hr hmg hg O.m ha O.db (star_cons sa))) fun D σ H ⟨S, T, τ, Hs, hl, R, g⟩ => ?_
  refine tD_bindS hl R g fun r S1 v H1 Hs1 R1 g1 a dx n1 n2 ne => ?_
  cases e : r.shd with
  | none => rw [e] at g1; exact g1.elim
  | some d =>
    rw [e] at g1
    obtain ⟨Hs2, R2, q2⟩ := Rep.toSh R1 e
    have g2 : ∀ σ', (cx X β W).Out T τ σ' p.1 d S1 := g1
    exact g2 σ (He.ga X.K p.1) dx v _ (upd Hs2 dx (.xd [("value", v)])) O.m upd_same (q2.sub (Sub.upd (Rep.hs_none R2 n2))) (Rep.new R2.tail n2)
theorem Rep.unsetN {T S : List SV} {τ : List (Option V)} {σ : L2.St} {H Hs : Hp} {K : PySem.W.Frag} {w : World} {β : Nat → Addr} {i : Nat} (hl : T.length = τ.length) (R : Ev.Rep K w β (T ++ S) (τ ++ σ) H Hs) : Ev.Rep K w β (T ++ S.set i .un) (τ ++ σ.set i none) H Hs :=
  Rep.store (r := .un) (x := none) hl R.push_un
theorem sd_try {t : XTab} {p : Str × List Str} {body suite : List Stmt} {b0 : Stmt} {f g : MS} {n : Str} {i : Nat} {np pos pos2 : Pos} (hst : X.stack = X.env :: X.outer) (hfr : X.env.frame = some X.env.locals) (hN : X.N.Nodup) (hi : X.N[i]? = some n) (hln : X.env.kindOf n = some .local) (tk : Takes X W)
    (O : ∀ p ∈ t, XOk X.prog X.K X.mg t p) (hp : p ∈ t) (hg : Gl X p.1)
    (hb : ∀ (W : WX) (pn : List (Addr × Obj)) (xe : Value → Shared → Prop), Takes (X.tr pn xe) W → PassesOwn (model X.prog X.w) X.A X.env xe → SDs (X.tr pn xe) β W body f)
    (hsu : ∀ (a : Addr) (pn : List (Addr × Obj)), SDs (X.suite a pn) β (fun _ _ _ _ => False) (b0 :: suite) g) :
    SD X β W (.Try body [.ExceptHandler (some (.Name p.1 np)) (some n) (b0 :: suite) pos2] [] [] pos) (tryM t p.1 i f g) := by
  have Op := O p hp
  refine PS.imp (ps_tryX (tb := fun W => tS (cx X β W) f) (ts := tS (cx X β fun _ _ _ _ => False) g) hst hfr hN hi hln ⟨hg, Op.db, .inl Op.m⟩ tk (fun W pn xe h1 h2 => hb W pn xe h1 h2) hsu) fun D σ H ⟨S, T, τ, Hs, hl, R, q⟩ => ⟨S, T, τ, Hs, hl, R, ?_⟩
  unfold tryM at q
  cases e : f S with
  | ok fl S1 => rw [e] at q; cases fl <;> exact q
  | stuck => rw [e] at q; exact q.elim
  | exc c d S1 =>
    rw [e] at q
    dsimp only at q
    intro σ2 Cl dx vv H2 Hs2 h1 h2 h3 R2
    have h1 : X.mg c = some (.ref Cl) := h1
    cases ef : t.find? fun p => decide (p.1 = c) with
    | none => rw [ef] at q; exact q.elim
    | some r =>
      rw [ef] at q
      dsimp only at q
      have hr := List.mem_of_find?_eq_some ef
      have hrc := List.find?_some ef
      simp only [decide_eq_true_eq] at hrc
      subst hrc
      have eC : Cl = He.ga X.K r.1 := by
        have := h1.symm.trans (O r hr).m
        exact Value.ref.inj (Option.some.inj this)
      subst eC
      refine ⟨decide (p.1 ∈ r.2), Op.ex r hr, fun hb => ?_, fun hb => ?_⟩
      · have hb := of_decide_eq_true hb
        rw [if_pos hb] at q
        refine ⟨_, dx, vv, rfl, rfl, R2.sub _ _ h2, fun a na ne => ?_⟩
        have R3 := Rep.new (p := a) (o := exq a (He.ga X.K r.1) dx) R2 na
        have hd : Den X.K X.w (upd Hs2 a (exq a (He.ga X.K r.1) dx)) (.exn r.1 d) (.ref a) := by
          rw [Den]
          exact ⟨a, vv, rfl, ⟨dx, upd_same, by rw [upd_ne (Ne.symm ne)]; exact h2⟩, Den.sub (Sub.upd (Rep.hs_none R2 na)) h3⟩
        have R4 := Rep.store (i := i) hl (Rep.push_sh R3 hd)
        refine ⟨_, T, τ, _, hl, R4, ?_⟩
        cases eg : g (S1.set i (.sh (.exn r.1 d))) with
        | stuck => rw [eg] at q; exact q.elim
        | exc c2 d2 S2 => rw [eg] at q; exact q.elim
        | ok fl S2 =>
          rw [eg] at q
          cases fl with
          | nx => exact fun σ' H' Hs' R' => q _ _ _ (Rep.unsetN hl R')
          | bk => exact fun σ' H' Hs' R' => q _ _ _ (Rep.unsetN hl R')
          | ct => exact fun σ' H' Hs' R' => q _ _ _ (Rep.unsetN hl R')
          | rt r' => exact fun v σ' H' Hs' R' => q v _ _ _ (Rep.unsetN (T := r' :: T) (τ := some v :: τ) (by simp [hl]) R')
      · have hb := of_decide_eq_false hb
        rw [if_neg hb] at q
        have q2 : ∀ σ', (cx X β W).Out T τ σ' r.1 d S1 := q
        exact q2 σ2 _ dx vv H2 Hs2 h1 h2 h3 R2
end
/-! ### the suite: names, constants, displays, isinstance, .value, a if c else b, list + list -/
structure HotOk (X : Cx) (E : En) : Prop where
  N : X.N = E.N
  nd : X.N.Nodup
  sc : X.env.scope = E.sc
  fnc : ∀ x, E.ow.names.lookup x = some .cell → X.fn x = true
  bi : ∀ x ∈ E.bi, X.mg x = none
  xs : ∀ p ∈ E.xs, XOk X.prog X.K X.mg E.xs p
theorem EnOk.hot {X : Cx} {E : En} (ok : EnOk X E) (a : Addr) (pn : List (Addr × Obj)) : HotOk (X.suite a pn) E := ⟨ok.N, ok.nd, ok.sc, ok.fnc, ok.bi, ok.xs⟩
section
variable {X : Cx} {E : En} {β : Nat → Addr} {W : WX}
theorem HotOk.var (ok : HotOk X E) {x : Str} {i : Nat} (h : E.var x = some i) : X.N[i]? = some x ∧ Vis X.env.scope x ∧ (x == ("__debug__" : Str)) = false ∧ (x == ("__classdict__" : Str)) = false := by
  unfold En.var at h
  simp only [Option.bind_eq_some_iff, guardB_iff, Bool.and_eq_true] at h
  obtain ⟨_, ⟨hv, hn⟩, hi⟩ := h
  have h2 := (idxOf_ok hi).2
  unfold nameB at hn
  simp only [Bool.and_eq_true, beq_iff_eq] at hn
  refine ⟨by rw [ok.N]; simpa using h2, ?_, hn.1, hn.2⟩
  rw [ok.sc]
  unfold visB at hv
  unfold Vis
  split at hv <;> first | exact .inl (by assumption) | exact .inr (.inl (by assumption)) | exact .inr (.inr (by assumption)) | cases hv
theorem HotOk.loc (ok : HotOk X E) {x : Str} {i : Nat} (h : E.loc x = some i) : X.N[i]? = some x ∧ L2.Loc X.env.scope x ∧ (X.fn x = true ∨ X.env.scope.names.lookup x = some .local) := by
  unfold En.loc at h
  simp only [Option.bind_eq_some_iff, guardB_iff] at h
  obtain ⟨_, hv, hi⟩ := h
  have h2 := (idxOf_ok hi).2
  refine ⟨by rw [ok.N]; simpa using h2, ?_, ?_⟩
  · rw [ok.sc]
    unfold locB at hv
    unfold L2.Loc
    split at hv <;> first | exact .inl (by assumption) | exact .inr (by assumption) | cases hv
  · rw [ok.sc]
    unfold locB at hv
    split at hv
    · exact .inr (by assumption)
    · exact .inl (ok.fnc _ (of_decide_eq_true hv))
    · cases hv
theorem HotOk.gl (ok : HotOk X E) {x : Str} (h : glB E.sc x = true) : Gl X x := by
  show X.env.scope.names.lookup x = some .globalImplicit
  rw [ok.sc]
  unfold glB at h
  split at h
  · assumption
  · cases h
def trX (E : En) : Nat → Expr → Option (M SV)
  | 0, _ => none
  | n + 1, e => match e with
    | .Name x _ => (E.var x).map varF
    | .Constant (.int i) _ _ => some (conM (.int i))
    | .Constant (.str i) _ _ => some (conM (.str i))
    | .Constant (.bool i) _ _ => some (conM (.bl i))
    | .Constant .none _ _ => some (conM .non)
    | .List es _ => (go n es).map lstM
    | .Tuple es _ _ => (go n es).map tupM
    | .IfExp c a b _ => (trX E n c).bind fun fc => (guardB (isCall c)).bind fun _ => (trX E n a).bind fun fa => (trX E n b).map (ifM (asT fc) fa)
    | .BinOp a .Add b _ => (trX E n a).bind fun fa => (trX E n b).map fun fb => opM addD [.ex fa, .ex fb]
    | .Attribute (.Name x _) nm _ => (guardB (decide (nm = "value"))).bind fun _ => (E.var x).map fun i => opM (xvalD E.xs) [.pk i]
    | .Call (.Name f _) [.Name y _, .Name x _] [] _ => (guardB (decide (f = "isinstance") && glB E.sc "isinstance" && decide ((Str.ofString "isinstance") ∈ E.bi))).bind fun _ => (E.var y).bind fun i => (E.xcls x).bind fun p => (guardB (glB E.sc p.1)).map fun _ => opM (isxD E.xs p.1) [.pk i]
    | _ => none
where
  go (n : Nat) : List Expr → Option (List AF)
    | [] => some []
    | e :: es => (guardB (!isStar e)).bind fun _ => (trX E n e).bind fun f => (go n es).map (.ex f :: ·)
  isCall : Expr → Bool
    | .Call .. => true
    | _ => false
theorem trX_ok (ok : HotOk X E) : ∀ (n : Nat) (e : Expr) (f : M SV), trX E n e = some f → PD X β W e f
  | 0, _, _, h => by unfold trX at h; cases h
  | n + 1, e, f, h => by
    have ih := trX_ok ok n
    have hgo : ∀ {es : List Expr} {fs : List AF}, trX.go E n es = some fs → PDA X β W es fs := by
      intro es
      induction es with
      | nil => intro fs h; cases h; exact pda_nil
      | cons e es ihe =>
        intro fs h
        unfold trX.go at h
        simp only [Option.bind_eq_some_iff, Option.map_eq_some_iff, guardB_iff, Bool.not_eq_true'] at h
        obtain ⟨_, hs, f, hf, gs, hg, rfl⟩ := h
        exact pda_cons hs (pf_ex (ih _ _ hf)) (ihe hg)
    unfold trX at h
    split at h
    · simp only [Option.map_eq_some_iff] at h
      obtain ⟨i, hi, rfl⟩ := h
      obtain ⟨h1, h2, h3, h4⟩ := ok.var hi
      exact pd_varF h1 h2 h3 h4
    · cases h; exact pd_const rfl pe_int
    · cases h; exact pd_const rfl pe_str
    · cases h; exact pd_const rfl pe_bl
    · cases h; exact pd_const rfl pe_non
    · simp only [Option.map_eq_some_iff] at h
      obtain ⟨fs, hfs, rfl⟩ := h
      exact pd_lst (hgo hfs)
    · simp only [Option.map_eq_some_iff] at h
      obtain ⟨fs, hfs, rfl⟩ := h
      exact pd_tup (hgo hfs)
    · rename_i c a b p
      simp only [Option.bind_eq_some_iff, Option.map_eq_some_iff, guardB_iff] at h
      obtain ⟨fc, hc, _, hk, fa, ha, fb, hb, rfl⟩ := h
      refine pd_if ?_ (ih _ _ ha) (ih _ _ hb)
      cases c <;> first | (cases hk; done) | exact ptd_val (ih _ _ hc) fun _ => rfl
    · simp only [Option.bind_eq_some_iff, Option.map_eq_some_iff] at h
      obtain ⟨fa, ha, fb, hb, rfl⟩ := h
      obtain ⟨r, r1, r2⟩ := binD_ok (op := .Add) rfl
      exact pd_bin (r1 X) (r2 _) (pf_ex (ih _ _ ha)) (pf_ex (ih _ _ hb))
    · simp only [Option.bind_eq_some_iff, Option.map_eq_some_iff, guardB_iff, decide_eq_true_eq] at h
      obtain ⟨_, rfl, i, hi, rfl⟩ := h
      obtain ⟨h1, h2, h3, h4⟩ := ok.var hi
      exact pd_xval ok.xs (pf_pk h1 h2 h3 h4) rfl
    · simp only [Option.bind_eq_some_iff, Option.map_eq_some_iff, guardB_iff, Bool.and_eq_true, decide_eq_true_eq] at h
      obtain ⟨_, ⟨⟨rfl, g1⟩, g2⟩, i, hi, p, hp, _, g3, rfl⟩ := h
      obtain ⟨h1, h2, h3, h4⟩ := ok.var hi
      have hm := List.mem_of_find?_eq_some hp
      have hx := List.find?_some hp
      simp only [decide_eq_true_eq] at hx
      subst hx
      exact pd_isx ok.xs hm (ok.gl g1) (ok.bi _ g2) (ok.gl g3) (pf_pk h1 h2 h3 h4) rfl
    · cases h
def trXs (E : En) (n : Nat) : List Stmt → Option MS
  | [] => some skipM
  | .Assign [.Name x tp] e _ :: r => (guardB (!isComp e)).bind fun _ => (E.loc x).bind fun i => (trX E n e).bind fun f => (trXs E n r).map (seqM (asgM i f))
  | _ :: _ => none
theorem trXs_ok (ok : HotOk X E) {n : Nat} : ∀ {b : List Stmt} {f : MS}, trXs E n b = some f → SDs X β W b f
  | [], f, h => by cases h; exact sds_nil
  | s :: r, f, h => by
    unfold trXs at h
    split at h
    · rename_i h0; cases h0
    · rename_i x tp e p r' h0
      cases h0
      simp only [Option.bind_eq_some_iff, Option.map_eq_some_iff, guardB_iff, Bool.not_eq_true'] at h
      obtain ⟨_, hc, i, hi, f0, hf, g, hg, rfl⟩ := h
      obtain ⟨l1, l2, l3⟩ := ok.loc hi
      exact sds_cons (sd_asg ok.nd l1 l2 (trX_ok ok n _ _ hf) (swaps_no hc _ _ _) l3) (trXs_ok ok hg)
    · cases h
end
end Ev
end

section
set_option Elab.async false
set_option linter.all false
set_option maxRecDepth 100000
set_option maxHeartbeats 4000000
/-! Ev, part 28: the translation of statements. -/
namespace Ev
open PySem PySem.Spec PyProof.Rows L2
/-- whether a comprehension's value goes to a name by a swap -/
def swB (E : En) (scope : Scope) (e : Expr) (x : Str) (tp : Pos) : Bool := bkOf E.sc == .function && E.sc.names.lookup x == some .local && tp.line == e.pos.line && !(scope.names.any fun (n, k) => n == x && (k == .local || k == .cell))
def lcScope : Expr → Option Scope
  | .ListComp _ _ s _ => some s
  | _ => none
def trL (ts : Stmt → Option MS) : List Stmt → Option MS
  | [] => some skipM
  | [s] => ts s
  | s :: r => (ts s).bind fun f => (trL ts r).map (seqM f)
def stepS (tr : Tr) (E : En) (wh : Nat) (ts : Stmt → Option MS) : Stmt → Option MS
  | .Pass _ => some skipM
  | .Break _ => some brkM
  | .Continue _ => some cntM
  | .Raise (some (.Call (.Name x _) [e] [] _)) none _ => (match E.xcls x with
    | some c => (guardB (glB E.sc c.1 && !isStar e)).bind fun _ => (tr.e E e).map (raiM c.1)
    | none => some fun _ => .stuck)
  | .Raise .. => some fun _ => .stuck
  | .Try body [.ExceptHandler (some (.Name x _)) (some n) (s0 :: suite) _] [] [] _ => (E.xcls x).bind fun p => (guardB (glB E.sc p.1 && E.sc.names.lookup n == some .local)).bind fun _ => (idxOf n E.N 0).bind fun i => (trL ts body).bind fun f => (trXs E 20 (s0 :: suite)).map (tryM E.xs p.1 i f)
  | .Return (some (.Name x p)) _ => (match E.var x with
    | some i => some (retM (movM i))
    | none => (tr.e E (.Name x p)).map retM)
  | .Return (some e) _ => (tr.e E e).map retM
  | .Expr e _ => (guardB (!isComp e)).bind fun _ => (tr.e E e).map exprM
  | .Assign [.Name x tp] e _ => (E.loc x).bind fun i => (guardB (match lcScope e with
      | some s => true
      | none => !isComp e)).bind fun _ => (tr.e E e).map (asgM i)
  | .Assign [.Tuple [.Name x px, .Name y py] k tp] (.Tuple [a, b] k2 vp) _ => (match swS [.Name x px, .Name y py] [a, b] E.sc with
    | some (some [x', y']) => (guardB (decide (x' = x) && decide (y' = y) && !isStar a && !isStar b)).bind fun _ => (E.loc x).bind fun i => (E.loc y).bind fun j => (guardB (decide (i ≠ j) && E.sc.names.lookup x == some .local && E.sc.names.lookup y == some .local)).bind fun _ => (tr.e E a).bind fun f => (tr.e E b).map (parM i j f)
    | some none => (trTg E (.Tuple [.Name x px, .Name y py] k tp)).bind fun t => (tr.e E (.Tuple [a, b] k2 vp)).map (asgT t)
    | _ => none)
  | .Assign [.Tuple es k tp] (.Tuple vs k2 vp) _ => (match swS es vs E.sc with
    | some none => (trTg E (.Tuple es k tp)).bind fun t => (tr.e E (.Tuple vs k2 vp)).map (asgT t)
    | _ => none)
  | .Assign [.Tuple es k tp] e _ => (guardB (!isTupV e)).bind fun _ => (trTg E (.Tuple es k tp)).bind fun t => (tr.e E e).map (asgT t)
  | .Assign [.Subscript (.Name x px) ie ps] e _ => (guardB (!isSl ie)).bind fun _ => (E.var x).bind fun i => (tr.e E ie).bind fun fi => (tr.e E e).map (setM i fi)
  | .AugAssign (.Name x _) op e _ => (E.loc x).bind fun i => (augI op).bind fun g => (tr.e E e).map (augM i g)
  | .AugAssign (.Subscript (.Name x px) ie ps) op e _ => (guardB (!isSl ie)).bind fun _ => (E.var x).bind fun i => (augI op).bind fun g => (tr.e E ie).bind fun fi => (tr.e E e).map (augS i g fi)
  | .If c a b _ => (tr.t E c).bind fun fc => (trL ts a).bind fun fa => (trL ts b).map (iteM fc fa)
  | .While c body [] _ => (tr.t E c).bind fun fc => (trL ts body).map fun f => whlM fc f wh
  | .For tg iter body [] _ => (guardB (!isSet iter)).bind fun _ => (trTg E tg).bind fun t => (tr.w E (isTupV tg) iter).bind fun src => (trL ts body).map (forM' src t)
  | _ => none
/-- statements: n, k: how deep expressions and statements may be -/
def trS (n wh : Nat) (E : En) : Nat → Stmt → Option MS
  | 0 => fun _ => none
  | k + 1 => stepS (tr (n + 1)) E wh (trS n wh E k)
def trB (n wh : Nat) (E : En) (k : Nat) (b : List Stmt) : Option MS := trL (trS n wh E k) b
section
variable {X : Cx} {E : En} {β : Nat → Addr} {W : WX}
theorem trL_ok {ts : Stmt → Option MS} (h : ∀ s f, ts s = some f → SD X β W s f) : ∀ {b : List Stmt} {f : MS}, trL ts b = some f → SDs X β W b f
  | [], f, e => by cases e; exact sds_nil
  | [s], f, e => sds_one (h _ _ e)
  | s :: s2 :: r, f, e => by
    unfold trL at e
    simp only [Option.bind_eq_some_iff, Option.map_eq_some_iff] at e
    obtain ⟨g, hg, q, hq, rfl⟩ := e
    exact sds_cons (h _ _ hg) (trL_ok h hq)
theorem asg_lc {n : Nat} (ok : EnOk X E) (tk : Takes X W) {x : Str} {tp pos : Pos} {i : Nat} {elt : Expr} {gens : List Comprehension} {scope : Scope} {p : Pos} {f : M SV} (hi : E.loc x = some i) (h : stepE (tr n) E (.ListComp elt gens scope p) = some f) :
    SD X β W (.Assign [.Name x tp] (.ListComp elt gens scope p) pos) (asgM i f) := by
  obtain ⟨l1, l2, l3⟩ := ok.loc hi
  have T := tr_ok n
  obtain ⟨he, ht, hw⟩ := T X E β W ok tk
  have hsw : swapsWith (.ListComp elt gens scope p) (some (.Name x tp)) pos.line X.env = pure (swB E scope (.ListComp elt gens scope p) x tp) := by
    unfold swB
    rw [← ok.sc]; rfl
  cases hb0 : swB E scope (.ListComp elt gens scope p) x tp with
  | false =>
    rw [hb0] at hsw
    exact sd_asg ok.nd l1 l2 (step_e T ok tk _ _ h) hsw l3
  | true =>
    rw [hb0] at hsw
    have hloc : X.env.scope.names.lookup x = some .local := by
      unfold swB at hb0
      simp only [Bool.and_eq_true, beq_iff_eq] at hb0
      rw [ok.sc]
      exact hb0.1.1.2
    unfold stepE at h
    split at h
    all_goals first | (rename_i e0; cases e0; done) | skip
    all_goals first | (rename_i e1 e0; cases e0; done) | skip
    all_goals first | (rename_i e2 e1 e0; cases e0; done) | skip
    · rename_i elt tg iter ifs scope pos0 heq
      cases heq
      simp only [Option.bind_eq_some_iff, Option.map_eq_some_iff, guardB_iff, Bool.and_eq_true, decide_eq_true_eq, Bool.not_eq_true'] at h
      obtain ⟨_, hs, t, h1, _, ⟨⟨hb, hn⟩, hl⟩, src, h2, c, h3, fe, h4, rfl⟩ := h
      refine sd_setLc ok.calm ok.nd l1 hloc hsw (ixs_own hl) hn (hw _ _ _ h2) ?_ (fun s H C cl fp => ?_) (fun s H C cl fp => ?_) (fun s H C cl fp => ?_) (folded_of hs _)
      · rw [ok.N, ok.sc]; exact blkOk_by hb
      · exact tg_ok (EnOk.blk ok s H C cl fp) tg t h1
      · exact step_ifs (T _ _ β (fun _ _ _ _ => False) (EnOk.blk ok s H C cl fp) takes_no).2.1 h3
      · exact (T _ _ β (fun _ _ _ _ => False) (EnOk.blk ok s H C cl fp) takes_no).1 _ _ h4
    · rename_i elt tg iter ifs tg1 iter1 ifs1 scope pos0 heq
      cases heq
      simp only [Option.bind_eq_some_iff, Option.map_eq_some_iff, guardB_iff, Bool.and_eq_true, decide_eq_true_eq, Bool.not_eq_true'] at h
      obtain ⟨_, ⟨hs, hs1⟩, t, h1, t1, h11, _, ⟨⟨hb, hn⟩, hl⟩, src, h2, c, h3, src1, h21, c1, h31, fe, h4, rfl⟩ := h
      refine sd_setLc2 ok.calm ok.nd l1 hloc hsw (ixs_own hl) hn (hw _ _ _ h2) ?_ (fun s H C cl fp => ?_) (fun s H C cl fp => ?_) (fun s H C cl fp => ?_) (fun s H C cl fp => ?_) (fun s H C cl fp => ?_) (fun s H C cl fp => ?_) (folded_of hs _) (folded_of hs1)
      · rw [ok.N, ok.sc]; exact blkOk_by hb
      · exact tg_ok (EnOk.blk ok s H C cl fp) tg t h1
      · exact step_ifs (T _ _ β (fun _ _ _ _ => False) (EnOk.blk ok s H C cl fp) takes_no).2.1 h3
      · exact (T _ _ β (fun _ _ _ _ => False) (EnOk.blk ok s H C cl fp) takes_no).2.2 _ _ _ h21
      · exact tg_ok (EnOk.blk ok s H C cl fp) tg1 t1 h11
      · exact step_ifs (T _ _ β (fun _ _ _ _ => False) (EnOk.blk ok s H C cl fp) takes_no).2.1 h31
      · exact (T _ _ β (fun _ _ _ _ => False) (EnOk.blk ok s H C cl fp) takes_no).1 _ _ h4
    · cases h
theorem EnOk.tr (ok : EnOk X E) (pn : List (Addr × Obj)) (xe : Value → Shared → Prop) : EnOk (X.tr pn xe) E := ⟨ok.N, ok.nd, ok.sc, ok.calm, ok.un, ok.fnc, ok.fns, ok.kws, ok.bi, ok.gd, ok.xs, ok.sup⟩
theorem stepS_ok {n wh : Nat} {ts : Stmt → Option MS} (ok : EnOk X E) (tk : Takes X W) (hp : PassesOwn (model X.prog X.w) X.A X.env X.xe) (hst : X.stack = X.env :: X.outer) (hfr : X.env.frame = some X.env.locals)
    (hts1 : ∀ (X : Cx) (W : WX), EnOk X E → Takes X W → PassesOwn (model X.prog X.w) X.A X.env X.xe → X.stack = X.env :: X.outer → X.env.frame = some X.env.locals → ∀ s f, ts s = some f → SD X β W s f) : ∀ (s : Stmt) (f : MS), stepS (tr (n + 1)) E wh ts s = some f → SD X β W s f := by
  obtain ⟨he, ht, hw⟩ := tr_ok (n + 1) X E β W ok tk
  have hts := hts1 X W ok tk hp hst hfr
  intro s f h
  unfold stepS at h
  split at h
  · cases h; exact sd_pass
  · cases h; exact sd_brk
  · cases h; exact sd_cnt
  · rename_i x q e p pos
    split at h
    · rename_i c ec
      obtain ⟨hm, hx⟩ := xcls_ok ec
      subst hx
      simp only [Option.bind_eq_some_iff, Option.map_eq_some_iff, guardB_iff, Bool.and_eq_true, Bool.not_eq_true'] at h
      obtain ⟨_, ⟨hg, hs⟩, g, hg2, rfl⟩ := h
      exact sd_raise ok.calm tk (ok.xs c hm) (ok.sup c hm).2 (ok.sup c hm).1 (ok.gl hg) (he _ _ hg2) hs
    · cases h; exact sd_never
  · cases h; exact sd_never
  · rename_i body x np n s0 suite pos2 pos
    simp only [Option.bind_eq_some_iff, Option.map_eq_some_iff, guardB_iff, Bool.and_eq_true, beq_iff_eq] at h
    obtain ⟨p, ep, _, ⟨hg, hl⟩, i, hi, f0, hf, g, hgs, rfl⟩ := h
    obtain ⟨hm, hx⟩ := xcls_ok ep
    subst hx
    exact sd_try hst hfr ok.nd (by rw [ok.N]; simpa using (idxOf_ok hi).2) (by show X.env.scope.names.lookup n = some .local; rw [ok.sc]; exact hl) tk ok.xs hm (ok.gl hg)
      (fun W pn xe h1 h2 => trL_ok (hts1 (X.tr pn xe) W (ok.tr pn xe) h1 h2 hst hfr) hf) fun a pn => trXs_ok (ok.hot a pn) hgs
  · rename_i x p pos
    split at h
    · rename_i i hi
      cases h
      obtain ⟨h1, h2, h3, h4⟩ := ok.var hi
      exact sd_ret (pd_movM h1 h2 h3 h4)
    · simp only [Option.map_eq_some_iff] at h
      obtain ⟨g, hg, rfl⟩ := h
      exact sd_ret (he _ _ hg)
  · simp only [Option.map_eq_some_iff] at h
    obtain ⟨g, hg, rfl⟩ := h
    exact sd_ret (he _ _ hg)
  · simp only [Option.bind_eq_some_iff, Option.map_eq_some_iff, guardB_iff, Bool.not_eq_true'] at h
    obtain ⟨_, hc, g, hg, rfl⟩ := h
    exact sd_expr (he _ _ hg) (swaps_no hc _ _ _)
  · rename_i x tp e pos
    simp only [Option.bind_eq_some_iff, Option.map_eq_some_iff, guardB_iff] at h
    obtain ⟨i, hi, _, hc, g, hg, rfl⟩ := h
    obtain ⟨l1, l2, l3⟩ := ok.loc hi
    split at hc
    · rename_i s es
      cases e <;> first | (cases es; done) | skip
      exact asg_lc ok tk hi hg
    · exact sd_asg ok.nd l1 l2 (he _ _ hg) (swaps_no (by simpa using hc) _ _ _) l3
  · rename_i x px y py k tp a b k2 vp pos
    split at h
    · rename_i x' y' hsw
      simp only [Option.bind_eq_some_iff, Option.map_eq_some_iff, guardB_iff, Bool.and_eq_true, decide_eq_true_eq, Bool.not_eq_true', beq_iff_eq] at h
      obtain ⟨_, ⟨⟨⟨rfl, rfl⟩, sa⟩, sb⟩, i, hi, j, hj, _, ⟨⟨hij, hx⟩, hy⟩, fa, ha, fb, hb, rfl⟩ := h
      obtain ⟨i1, i2, i3⟩ := ok.loc hi
      obtain ⟨j1, j2, j3⟩ := ok.loc hj
      rw [← ok.sc] at hsw hx hy
      exact sd_par ok.calm ok.nd i1 j1 hij hx hy (he _ _ ha) (he _ _ hb) sa sb (swS_ok hsw) rfl
    · rename_i hsw
      simp only [Option.bind_eq_some_iff, Option.map_eq_some_iff] at h
      obtain ⟨t, h1, g, hg, rfl⟩ := h
      rw [← ok.sc] at hsw
      exact sd_asgT (he _ _ hg) (tg_ok ok _ _ h1) rfl (swS_ok hsw) rfl
    · cases h
  · split at h
    · rename_i hsw
      simp only [Option.bind_eq_some_iff, Option.map_eq_some_iff] at h
      obtain ⟨t, h1, g, hg, rfl⟩ := h
      rw [← ok.sc] at hsw
      exact sd_asgT (he _ _ hg) (tg_ok ok _ _ h1) rfl (swS_ok hsw) rfl
    · cases h
  · rename_i es k tp e pos _ _
    simp only [Option.bind_eq_some_iff, Option.map_eq_some_iff, guardB_iff, Bool.not_eq_true'] at h
    obtain ⟨_, hv, t, h1, g, hg, rfl⟩ := h
    refine sd_asgT (he _ _ hg) (tg_ok ok _ _ h1) (by show swapsWith e (some (.Tuple es k tp)) pos.line X.env = pure false; exact swaps_not_name _ _ _ (fun x p z => by cases z)) ?_ rfl
    cases e <;> first | rfl | cases hv
  · rename_i x px ie ps e pos
    simp only [Option.bind_eq_some_iff, Option.map_eq_some_iff, guardB_iff, Bool.not_eq_true'] at h
    obtain ⟨_, hs, i, hi, fi, h1, g, hg, rfl⟩ := h
    obtain ⟨v1, v2, v3, v4⟩ := ok.var hi
    refine sd_setI v1 v2 v3 v4 (he _ _ h1) (he _ _ hg) (fun v => ?_) (by show swapsWith e (some (.Subscript (.Name x px) ie ps)) pos.line X.env = pure false; exact swaps_not_name _ _ _ (fun x p z => by cases z)) ?_
    · cases ie <;> first | rfl | cases hs
    · cases e <;> rfl
  · simp only [Option.bind_eq_some_iff, Option.map_eq_some_iff] at h
    obtain ⟨i, hi, g, hg, f0, hf, rfl⟩ := h
    obtain ⟨l1, l2, l3⟩ := ok.loc hi
    exact sd_aug ok.nd l1 l2 (he _ _ hf) hg l3
  · rename_i x px ie ps op e pos
    simp only [Option.bind_eq_some_iff, Option.map_eq_some_iff, guardB_iff, Bool.not_eq_true'] at h
    obtain ⟨_, hs, i, hi, g, hg, fi, h1, f0, hf, rfl⟩ := h
    obtain ⟨v1, v2, v3, v4⟩ := ok.var hi
    refine sd_augS v1 v2 v3 v4 (he _ _ h1) (he _ _ hf) hg (fun ov iv new => ?_)
    cases ie <;> first | rfl | cases hs
  · simp only [Option.bind_eq_some_iff, Option.map_eq_some_iff] at h
    obtain ⟨fc, hc, fa, ha, fb, hb, rfl⟩ := h
    exact sd_if (ht _ _ hc) (trL_ok hts ha) (trL_ok hts hb)
  · simp only [Option.bind_eq_some_iff, Option.map_eq_some_iff] at h
    obtain ⟨fc, hc, fa, ha, rfl⟩ := h
    exact sd_whl wh hp (ht _ _ hc) (trL_ok hts ha)
  · simp only [Option.bind_eq_some_iff, Option.map_eq_some_iff, guardB_iff, Bool.not_eq_true'] at h
    obtain ⟨_, hs, t, h1, src, h2, fb, hb, rfl⟩ := h
    exact sd_for hp ok.calm (hw _ _ _ h2) (tg_ok ok _ _ h1) (trL_ok hts hb) (folded_of hs _)
  · cases h
theorem trS_ok {n wh : Nat} : ∀ (k : Nat) (X : Cx) (W : WX), EnOk X E → Takes X W → PassesOwn (model X.prog X.w) X.A X.env X.xe → X.stack = X.env :: X.outer → X.env.frame = some X.env.locals → ∀ (s : Stmt) (f : MS), trS n wh E k s = some f → SD X β W s f
  | 0, X, W, ok, tk, hp, hst, hfr, s, f, h => by cases h
  | k + 1, X, W, ok, tk, hp, hst, hfr, s, f, h => stepS_ok ok tk hp hst hfr (trS_ok k) s f h
theorem trB_ok {n wh k : Nat} (ok : EnOk X E) (tk : Takes X W) (hp : PassesOwn (model X.prog X.w) X.A X.env X.xe) (hst : X.stack = X.env :: X.outer) (hfr : X.env.frame = some X.env.locals) {b : List Stmt} {f : MS} (h : trB n wh E k b = some f) : SDs X β W b f := trL_ok (trS_ok k X W ok tk hp hst hfr) h
end
end Ev
end

section
set_option Elab.async false
set_option linter.all false
set_option maxRecDepth 100000
set_option maxHeartbeats 4000000
/-! Ev, part 29: the defs of a text, each with its function. -/
namespace Ev
open PySem PySem.Spec PyProof.Rows L2
/-- the def x keeps F -/
def Good (P : Program) (w : World) (K : PySem.W.Frag) (mg : Str → Option Value) (base : Heap) (k : Nat) (x : Str) (F : Fn) : Prop :=
  ∃ f fd ps, FnOk P w K mg base (L2.CX P w) k f fd ps (spF K w mg F) ∧ mg x = some (.ref f) ∧ PySem.W.keepIn K (.ref f) = true ∧ Binds K fd ps [] ∧ (x == ("__debug__" : Str)) = false
/-- .. called by names -/
def GoodK (P : Program) (w : World) (K : PySem.W.Frag) (mg : Str → Option Value) (base : Heap) (k : Nat) (x : Str) (ks : List Str) (G : Fn) : Prop :=
  ∃ f fd ps js F, G = lenF ks.length (pmF js F) ∧ FnOk P w K mg base (L2.CX P w) k f fd ps (spF K w mg F) ∧ mg x = some (.ref f) ∧ PySem.W.keepIn K (.ref f) = true ∧
    (∀ (s : Shared) (ws : List Value), K.In s.heap → ws.length = ks.length → BindsTo s fd ⟨[], ks.zip ws⟩ (ps.zip (pmD .none js ws))) ∧ (x == ("__debug__" : Str)) = false
section
variable {P : Program} {w : World} {K : PySem.W.Frag} {mg : Str → Option Value} {base : Heap}
theorem fn_env {x qual : Str} {params : Arguments} {body : List Stmt} {scope : Scope} {f : Addr} {fd : FuncData} {ps : List Str} {k : Nat} {E : En} {n wh kk : Nat} {m : MS}
    (F : FunD K x qual params body scope [] [] f fd) (Sc : FnScope E.N ps scope) (hN : ps.length ≤ E.N.length) (hsc : E.sc = scope) (how : E.ow = scope) (ht : trB n wh E kk body = some m)
    (hf : ∀ p ∈ E.fns, ∃ j, j ≤ k ∧ Good P w K mg base j p.x p.F) (hk : ∀ p ∈ E.kws, ∃ j, j ≤ k ∧ GoodK P w K mg base j p.x p.ks p.F) (hb : ∀ x ∈ E.bi, mg x = none) (hgd : ∀ p ∈ E.gd, GOk K w mg p) (hxs : ∀ p ∈ E.xs, XOk P K mg E.xs p) (hsp : ∀ p ∈ E.xs, mg "super" = none ∧ 1 ≤ k) :
    FnOk P w K mg base (L2.CX P w) (k + 1) f fd ps (spF K w mg (runDef ps.length (E.N.length - ps.length) m)) := by
  refine fn_ok F Sc hN fun cdv A outer s H E0 β hr => ?_
  have ok : EnOk (cxOf (L2.CX P w) P w K mg base E.N qual scope f cdv A outer s H E0) E := by
    refine ⟨rfl, Sc.nd, hsc.symm, rfl, ?_, fun _ _ => rfl, fun p hp => ?_, fun p hp => ?_, hb, hgd, hxs, fun p hp => ⟨(hsp p hp).1, hr.mono (hsp p hp).2⟩⟩
    · have := hr.un
      show (A.deeper (envOfC qual scope s.heap.objs.size f cdv)).units + 100 < cLine
      omega
    · obtain ⟨j, hj, f', fd', ps', g1, g2, g3, g4, g5⟩ := hf p hp
      exact ⟨j, f', fd', ps', g1, hr.mono hj, g2, g3, g4, g5⟩
    · obtain ⟨j, hj, f', fd', ps', js, F', g0, g1, g2, g3, g4, g5⟩ := hk p hp
      exact ⟨j, f', fd', ps', js, F', g0, g1, hr.mono hj, g2, g3, g4, g5⟩
  exact trB_ok ok (L2.takes_of rfl rfl rfl rfl) (L2.passes_of rfl) rfl rfl ht
theorem good_of {x qual : Str} {params : Arguments} {body : List Stmt} {scope : Scope} {f : Addr} {fd : FuncData} {ps : List Str} {k : Nat} {Fx : Fn} (F : FunD K x qual params body scope [] [] f fd)
    (ok : FnOk P w K mg base (L2.CX P w) k f fd ps (spF K w mg Fx)) (hm : mg x = some (.ref f)) (hd : (x == ("__debug__" : Str)) = false)
    (h : ∀ (kV doc pm : Value) (an : Option Addr) (cdv ct : Value) (us : List Value), us.length = ps.length → bindArgs (PySem.W.fnOf x qual params body scope .none kV doc pm an cdv ct) ⟨us, []⟩ = pure (ps.zip us)) : Good P w K mg base k x Fx :=
  ⟨f, fd, ps, ok, hm, F.kp, F.bindsN h, hd⟩
theorem goodK_of {x qual : Str} {params : Arguments} {body : List Stmt} {scope : Scope} {f : Addr} {fd : FuncData} {ps : List Str} {k : Nat} {Fx : Fn} (F : FunD K x qual params body scope [] [] f fd)
    (ok : FnOk P w K mg base (L2.CX P w) k f fd ps (spF K w mg Fx)) (hm : mg x = some (.ref f)) (hd : (x == ("__debug__" : Str)) = false) (ks : List Str) (js : List Nat)
    (h : ∀ (kV doc pm : Value) (an : Option Addr) (cdv ct : Value) (ws : List Value), ws.length = ks.length → bindArgs (PySem.W.fnOf x qual params body scope .none kV doc pm an cdv ct) ⟨[], ks.zip ws⟩ = pure (ps.zip (pmD .none js ws))) : GoodK P w K mg base k x ks (lenF ks.length (pmF js Fx)) := by
  refine ⟨f, fd, ps, js, Fx, rfl, ok, hm, F.kp, fun s ws X hl => ?_, hd⟩
  obtain ⟨oc, od, dV, kV, doc, pm, an, cdv, ct, osl, rfl, lk, hcd, hD, hK⟩ := F.ex
  rcases hD with ⟨_, rfl⟩ | ⟨e, _⟩
  · exact .of_eq (h kV doc pm an cdv ct ws hl)
  · exact absurd rfl e
/-- the law's end -/
theorem law_sp {F : Fn} {H : Hp} {a : Addr} {ns : List Int} (hs : SqL K H a (ns.map V.int)) (h : ∃ A', F [.sh (.lst (ns.map .int))] = .ok (.sh (.bl true)) A') : spF K w mg F [.ref a] H (fun v _ => v = .bl true) fun _ _ _ => False := by
  have dn : ∀ ns : List Int, DenL K w H (ns.map D.int) (ns.map V.int) := fun ns => by
    induction ns with
    | nil => exact DenL.nil
    | cons n ns ih => exact DenL.cons (Den.int.mpr rfl) ih
  have R0 : Ev.Rep K w (fun _ => 0) [] [] H H := ⟨rfl, Sub.refl, fun _ => [], fun i s x e _ => by simp at e, fun i j a hi => by simp at hi, fun i a hi => by simp at hi⟩
  have R1 : Ev.Rep K w (fun _ => 0) [.sh (.lst (ns.map .int))] [some (.ref a)] H H := Rep.push_sh R0 (by rw [Den]; exact ⟨a, _, rfl, hs, dn ns⟩)
  obtain ⟨A', e⟩ := h
  refine ⟨[.sh (.lst (ns.map .int))], [], [], H, fun _ => 0, rfl, R1, ?_⟩
  rw [e]
  intro v H' Hs' R
  obtain ⟨v', ev, q⟩ := Rep.sh (i := 0) R rfl
  have : v = v' := by simpa using ev
  subst this
  exact Den.bl.mp q
end
end Ev
end

section
set_option Elab.async false
set_option linter.all false
set_option maxRecDepth 100000
set_option maxHeartbeats 4000000
/-! Ev, part 30: what a law's own text uses. -/
namespace Ev
open PySem PySem.Spec PyProof.Rows L2
theorem some_getD {α : Type} {o : Option α} {z : α} (h : o.isSome = true) : o = some (o.getD z) := by
  cases o with
  | none => cases h
  | some a => rfl
def toDef : Stmt → Option He.DefD
  | .FunctionDef name args body _ _ _ scope _ _ _ => some ⟨(name, none), name, name, args, body, scope, [], []⟩
  | _ => none
def nameOf : Stmt → Option Str
  | .FunctionDef name _ _ _ _ _ _ _ _ _ => some name
  | .ClassDef (name := name) .. => some name
  | .Assign [.Name x _] _ _ => some x
  | _ => none
section
variable {P : Program} {w : World} {K : PySem.W.Frag} {h base : Heap} {mg : Str → Option Value} {fa : List He.Fa} {fn : List He.DefD}
theorem def_get (X : K.In h) (G : h.Ns mainGlobals mg) (c : He.SaysD fa fn K) {i : Nat} {d : He.DefD} {x : Str} (e : fn[i]? = some d) (h1 : d.at_ = (x, none)) (h2 : d.name = x) (h3 : d.dfl = []) (h4 : d.kwd = []) (hf : fa[i]? = some (.glo x)) :
    ∃ f fd, FunD K x d.qual d.params d.body d.scope [] [] f fd ∧ mg x = some (.ref f) := by
  obtain ⟨fd, F⟩ := c.def_ i e
  unfold He.DefD.dvs He.DefD.kws at F
  rw [h1, h2, h3, h4] at F
  exact ⟨_, fd, F, He.glo_ok X G (c.fact i hf)⟩
theorem FnOk.up {CX : CXT} {j k : Nat} {f : Addr} {fd : FuncData} {ps : List Str} {sp : Sp} (o : FnOk P w K mg base CX j f fd ps sp) (hjk : j ≤ k) : FnOk P w K mg base CX k f fd ps sp :=
  { o with run := fun A outer s H args us vs Q E hr => o.run A outer s H args us vs Q E (hr.mono hjk) }
theorem Good.up {j k : Nat} {x : Str} {F : Fn} (hjk : j ≤ k) (g : Good P w K mg base j x F) : Good P w K mg base k x F := by
  obtain ⟨f, fd, ps, g1, g⟩ := g
  exact ⟨f, fd, ps, FnOk.up g1 hjk, g⟩
theorem good_stuck {x qual : Str} {params : Arguments} {body : List Stmt} {scope : Scope} {N ps : List Str} {k : Nat} (Sc : FnScope N ps scope) (hF : ∃ f fd, FunD K x qual params body scope [] [] f fd ∧ mg x = some (.ref f)) (hd : (x == ("__debug__" : Str)) = false)
    (hb : ∀ (kV doc pm : Value) (an : Option Addr) (cdv ct : Value) (us : List Value), us.length = ps.length → bindArgs (PySem.W.fnOf x qual params body scope .none kV doc pm an cdv ct) ⟨us, []⟩ = pure (ps.zip us)) : Good P w K mg base (k + 1) x (fun _ => .stuck) := by
  obtain ⟨f, fd, F, hm⟩ := hF
  refine good_of F (F.ok Sc (fun vs H Q E hsp => ?_) fun cdv A outer s H vs Q E hr hsp => ?_) hm hd hb
  · obtain ⟨A, T, τ, Hs, β, hl, R, g⟩ := hsp
    exact g.elim
  · obtain ⟨A, T, τ, Hs, β, hl, R, g⟩ := hsp
    exact g.elim
theorem good_kw {x qual : Str} {params : Arguments} {body : List Stmt} {scope : Scope} {ps ks : List Str} {js : List Nat} {k : Nat} {Fx : Fn} (hF : ∃ f fd, FunD K x qual params body scope [] [] f fd ∧ mg x = some (.ref f) ∧ FnOk P w K mg base (L2.CX P w) k f fd ps (spF K w mg Fx)) (hd : (x == ("__debug__" : Str)) = false)
    (h : ∀ (kV doc pm : Value) (an : Option Addr) (cdv ct : Value) (ws : List Value), ws.length = ks.length → bindArgs (PySem.W.fnOf x qual params body scope .none kV doc pm an cdv ct) ⟨[], ks.zip ws⟩ = pure (ps.zip (pmD .none js ws))) : GoodK P w K mg base k x ks (lenF ks.length (pmF js Fx)) := by
  obtain ⟨f, fd, F, hm, ok⟩ := hF
  exact goodK_of F ok hm hd ks js h
/-- what is shown of a def once: its object, its promise -/
def Kept (P : Program) (w : World) (K : PySem.W.Frag) (mg : Str → Option Value) (base : Heap) (k : Nat) (x : Str) (d : He.DefD) (ps : List Str) (F : Fn) : Prop :=
  ∃ f fd, FunD K x d.qual d.params d.body d.scope [] [] f fd ∧ mg x = some (.ref f) ∧ FnOk P w K mg base (L2.CX P w) k f fd ps (spF K w mg F)
theorem Kept.good {k : Nat} {x : Str} {d : He.DefD} {ps : List Str} {F : Fn} (h : Kept P w K mg base k x d ps F) (hd : (x == ("__debug__" : Str)) = false)
    (hb : ∀ (kV doc pm : Value) (an : Option Addr) (cdv ct : Value) (us : List Value), us.length = ps.length → bindArgs (PySem.W.fnOf x d.qual d.params d.body d.scope .none kV doc pm an cdv ct) ⟨us, []⟩ = pure (ps.zip us)) : Good P w K mg base k x F := by
  obtain ⟨f, fd, F, hm, ok⟩ := h
  exact good_of F ok hm hd hb
theorem Kept.up {j k : Nat} {x : Str} {d : He.DefD} {ps : List Str} {F : Fn} (hjk : j ≤ k) (h : Kept P w K mg base j x d ps F) : Kept P w K mg base k x d ps F := by
  obtain ⟨f, fd, F, hm, ok⟩ := h
  exact ⟨f, fd, F, hm, FnOk.up ok hjk⟩
theorem kept_stuck {k : Nat} {x : Str} {d : He.DefD} {N ps : List Str} (Sc : FnScope N ps d.scope) (hF : ∃ f fd, FunD K x d.qual d.params d.body d.scope [] [] f fd ∧ mg x = some (.ref f)) : Kept P w K mg base (k + 1) x d ps (fun _ => .stuck) := by
  obtain ⟨f, fd, F, hm⟩ := hF
  refine ⟨f, fd, F, hm, F.ok Sc (fun vs H Q E hsp => ?_) fun cdv A outer s H vs Q E hr hsp => ?_⟩
  · obtain ⟨A, T, τ, Hs, β, hl, R, g⟩ := hsp
    exact g.elim
  · obtain ⟨A, T, τ, Hs, β, hl, R, g⟩ := hsp
    exact g.elim
theorem kept_of {k : Nat} {x : Str} {d : He.DefD} {ps : List Str} {E : En} {n wh kk : Nat} {m : MS} (hF : ∃ f fd, FunD K x d.qual d.params d.body d.scope [] [] f fd ∧ mg x = some (.ref f)) (Sc : FnScope E.N ps d.scope) (hN : ps.length ≤ E.N.length) (hsc : E.sc = d.scope) (how : E.ow = d.scope) (ht : trB n wh E kk d.body = some m)
    (hf : ∀ p ∈ E.fns, ∃ j, j ≤ k ∧ Good P w K mg base j p.x p.F) (hk : ∀ p ∈ E.kws, ∃ j, j ≤ k ∧ GoodK P w K mg base j p.x p.ks p.F) (hb : ∀ x ∈ E.bi, mg x = none) (hgd : ∀ p ∈ E.gd, GOk K w mg p) (hxs : ∀ p ∈ E.xs, XOk P K mg E.xs p) (hsp : ∀ p ∈ E.xs, mg "super" = none ∧ 1 ≤ k) : Kept P w K mg base (k + 1) x d ps (runDef ps.length (E.N.length - ps.length) m) := by
  obtain ⟨f, fd, F, hm⟩ := hF
  exact ⟨f, fd, F, hm, fn_env F Sc hN hsc how ht hf hk hb hgd hxs hsp⟩
end
end Ev
end

section
set_option Elab.async false
set_option linter.all false
set_option maxRecDepth 100000
set_option maxHeartbeats 4000000
/-! Ev, part 31: what a looked-at heap says of the dicts of the module. -/
namespace Ev
open PySem PySem.Spec PyProof.Rows L2
inductive At where
  | non | bl (b : Bool) | int (i : Int) | str (x : Str)
def At.d : At → D
  | .non => .non
  | .bl b => .bl b
  | .int i => .int i
  | .str x => .str x
def At.v : At → V
  | .non => .non
  | .bl b => .bl b
  | .int i => .int i
  | .str x => .str x
def atV : Value → Option At
  | .none => some .non
  | .bool b => some (.bl b)
  | .int i _ => some (.int i)
  | .str x _ => some (.str x)
  | _ => none
theorem atV_ok {u : Value} {a : At} (h : atV u = some a) : atom a.d = some a.v ∧ RelV a.v u := by
  unfold atV at h
  split at h <;> cases h
  · exact ⟨rfl, rfl⟩
  · exact ⟨rfl, rfl⟩
  · exact ⟨rfl, ⟨_, rfl⟩⟩
  · exact ⟨rfl, ⟨_, rfl⟩⟩
/-- a table: its name, its entries in order -/
abbrev GD : Type := Str × List (Str × At)
def GD.tab (g : GD) : GTab := ⟨g.1, g.2.map fun p => (p.1, p.2.d)⟩
def entG (e : DictEntry) : Option (Str × At) := match e.key with
  | .str x _ => (atV e.val).map fun a => (x, a)
  | _ => none
def seenG (K : PySem.W.Frag) (a : Addr) : Option (List (Option (Str × At))) := match K.lookup a with
  | some ⟨_, _, .dict es _, _⟩ => some (es.toList.map entG)
  | _ => none
theorem entG_ok {e : DictEntry} {x : Str} {a : At} (h : entG e = some (x, a)) : (∃ t, e.key = .str x t) ∧ atV e.val = some a := by
  unfold entG at h
  split at h
  · rename_i y t q
    simp only [Option.map_eq_some_iff, Prod.mk.injEq] at h
    obtain ⟨b, h1, rfl, rfl⟩ := h
    exact ⟨⟨t, q⟩, h1⟩
  · cases h
theorem find_ent {z : Str} : ∀ {es : List DictEntry} {kv : List (Str × At)}, es.map entG = kv.map some →
    (match gGet (kv.map fun p => (p.1, p.2.d)) z with
      | some d => ∃ e v, es.find? (·.key.isStr z) = some e ∧ atom d = some v ∧ RelV v e.val
      | none => es.find? (·.key.isStr z) = none) ∧ es.any (·.refKey) = false
  | [], [], _ => ⟨rfl, rfl⟩
  | [], _ :: _, h => by cases h
  | _ :: _, [], h => by cases h
  | e :: es, (x, a) :: kv, h => by
    rw [List.map_cons, List.map_cons, List.cons.injEq] at h
    obtain ⟨⟨t, hk⟩, hv⟩ := entG_ok h.1
    obtain ⟨h1, h2⟩ := find_ent (z := z) h.2
    obtain ⟨a1, a2⟩ := atV_ok hv
    have hi : e.key.isStr z = decide (x = z) := by rw [hk]; first | rfl | (show (x == z) = decide (x = z); exact (by by_cases q : x = z <;> simp [q]))
    refine ⟨?_, ?_⟩
    · by_cases q : x = z
      · have e1 : gGet (((x, a) :: kv).map fun p => (p.1, p.2.d)) z = some a.d := by
          unfold gGet
          rw [List.map_cons, List.find?_cons_of_pos (by simpa using q)]; rfl
        rw [e1]
        exact ⟨e, a.v, List.find?_cons_of_pos (by rw [hi]; simpa using q), a1, a2⟩
      · have e1 : gGet (((x, a) :: kv).map fun p => (p.1, p.2.d)) z = gGet (kv.map fun p => (p.1, p.2.d)) z := by
          unfold gGet
          rw [List.map_cons, List.find?_cons_of_neg (by simpa using q)]
        rw [e1]
        have e2 : (e :: es).find? (·.key.isStr z) = es.find? (·.key.isStr z) := List.find?_cons_of_neg (by rw [hi]; simpa using q)
        rw [e2]
        exact h1
    · rw [List.any_cons, h2]
      show (e.refKey || false) = false
      unfold DictEntry.refKey
      rw [hk]
      rfl
/-! ### the Hook -/
def keysG (g : GD) : List Str := g.2.map (·.1)
def tabsG (gs : List GD) : List He.Tab := gs.map fun g => (fun K => He.ga K g.1, keysG g)
abbrev AlG : Type := He.AlT × List (Option (List (Option (Str × At))))
def obsG (fa : List He.Fa) (fn : List He.DefD) (gs : List GD) (K : PySem.W.Frag) : AlG := (He.obsT fa fn (tabsG gs) K, gs.map fun g => seenG K (He.ga K g.1))
def valG (fn : List He.DefD) (gs : List GD) (w : World) : AlG := (He.valT fn (tabsG gs) w, gs.map fun g => some (g.2.map some))
def lookG (n : Nat) (fa : List He.Fa) (fn : List He.DefD) (gs : List GD) (g : Addr → Option Obj) : AlG := obsG fa fn gs (He.frG g (He.asD g n))
def SaysG (fa : List He.Fa) (fn : List He.DefD) (gs : List GD) (w : World) (K : PySem.W.Frag) : Prop := obsG fa fn gs K = valG fn gs w
def hookG (n : Nat) (fa : List He.Fa) (fn : List He.DefD) (gs : List GD) : PySem.W.Hook where
  α := AlG
  obs := fun sh => lookG n fa fn gs sh.heap.get?
  val := valG fn gs
  says := fun wo he => ∃ fr : PySem.W.Frag, fr.In he ∧ SaysG fa fn gs wo fr
  of := fun wo sh eq => ⟨_, He.frG_in, eq⟩
  keeps := fun wo h₁ h₂ ⟨fr, inn, say⟩ kp => ⟨fr, PySem.W.Frag.In.keeps inn kp, say⟩
theorem lookG_eq {n : Nat} {fa : List He.Fa} {fn : List He.DefD} {gs : List GD} {g : Addr → Option Obj} {sh : Shared} (h : ∀ a, g a = sh.heap.get? a) : lookG n fa fn gs g = (hookG n fa fn gs).obs sh := by
  rw [show g = sh.heap.get? from funext h] <;> rfl
section
variable {fa : List He.Fa} {fn : List He.DefD} {gs : List GD} {w : World} {K : PySem.W.Frag}
theorem SaysG.t (c : SaysG fa fn gs w K) : He.SaysT fa fn (tabsG gs) w K := congrArg (fun z : AlG => z.1) c
theorem SaysG.d (c : SaysG fa fn gs w K) : He.SaysD fa fn K := c.t.d
theorem SaysG.seen (c : SaysG fa fn gs w K) (i : Nat) {g : GD} (h : gs[i]? = some g) : seenG K (He.ga K g.1) = some (g.2.map some) := by
  have e : gs.map (fun g => seenG K (He.ga K g.1)) = gs.map fun g => some (g.2.map some) := congrArg (fun z : AlG => z.2) c
  have e2 : (gs.map fun g => seenG K (He.ga K g.1))[i]? = (gs.map fun g => some (g.2.map some))[i]? := by rw [e]
  rw [List.getElem?_map, List.getElem?_map, h] at e2
  exact Option.some.inj e2
theorem gtab_ok {h : Heap} {mg : Str → Option Value} (X : K.In h) (G : h.Ns mainGlobals mg) (c : SaysG fa fn gs w K) (i : Nat) {g : GD} (hi : gs[i]? = some g) (hm : (He.Fa.glo g.1).ok K = true) (hd : (g.1 == ("__debug__" : Str)) = false) : GOk K w mg g.tab := by
  obtain ⟨es, n, D0⟩ := c.t.tab i (t := (fun K => He.ga K g.1, keysG g)) (by unfold tabsG; rw [List.getElem?_map, hi]; rfl)
  have hs := c.seen i hi
  unfold seenG at hs
  rw [show K.lookup (He.ga K g.1) = _ from D0.at_] at hs
  have hs := Option.some.inj hs
  refine ⟨He.ga K g.1, es, n, He.glo_ok X G hm, D0, hd, fun z => ?_⟩
  obtain ⟨h1, h2⟩ := find_ent (z := z) hs
  have hn : PySem.W.nsIn K (He.ga K g.1) z = match es.toList.find? (·.key.isStr z) with
      | some e => some (some e.val)
      | none => if es.toList.any (·.refKey) then none else some none := by
    unfold PySem.W.nsIn
    rw [show K.lookup (He.ga K g.1) = _ from D0.at_]
    rfl
  show match gGet (g.2.map fun p => (p.1, p.2.d)) z with
      | some d => _
      | none => _
  cases eg : gGet (g.2.map fun p => (p.1, p.2.d)) z with
  | none =>
    rw [eg] at h1
    rw [hn, show es.toList.find? (·.key.isStr z) = none from h1]
    show (if _ then _ else _) = _
    rw [h2]; rfl
  | some d =>
    rw [eg] at h1
    obtain ⟨e, v, h3, h4, h5⟩ := h1
    exact ⟨e.val, v, by rw [hn, h3], h4, h5⟩
end
/-! ### the classes of exceptions -/
abbrev IniV : Type := Arguments × FuncBody × Scope × Addr × Value × Addr
def iniObs (K : PySem.W.Frag) (x : Str) : Option IniV := match K.lookup (He.ma K (He.ga K x) "__init__") with
  | some ⟨_, _, .func fd, _⟩ => some (fd.params, fd.body, fd.scope, fd.globals, fd.defaults, fd.builtins)
  | _ => none
def iniVal (p1 p2 : Pos) (q : Nat → Pos) : IniV := (xPar p1 p2, .stmts (xBod q), xSco, mainGlobals, .none, builtinsNs)
def clsB1 (K : PySem.W.Frag) (C : Addr) : Bool := match K.lookup C with
  | some ⟨.type t, _, .cls cd, sl⟩ => (match cd.mro, sl.toList with
    | .ref C' :: bm, [_, _, _, _, some (.builtin n), _] => decide (t = "type") && (decide (C' = C) && (decide (n = "ValueError.__new__") && (!cd.hasDel && (PySem.HandSPX.refsVE bm && cd.hasDict))))
    | _, _ => false)
  | _ => false
def clsB2 (P : Program) (K : PySem.W.Frag) (C : Addr) : FuncData → Bool := fun fd => (match fd.code with
    | .ref cda => PySem.W.codeIn K (.ref cda) fd.qualname && (match K.lookup cda with
      | some ⟨_, _, .fields vs, _⟩ => (match (vs[2]? : Option Value) with
        | some (.str file _) => ((P.main.file : Str) == file)
        | _ => false)
      | _ => false)
    | _ => false) && (match fd.closure with
    | [(nm, cc)] => decide (nm = "__class__") && (match K.lookup cc with
      | some ⟨_, _, .cell (some (.ref D)), _⟩ => (PySem.W.clsIn K D).isSome && (decide (PySem.W.mroIn K C (.ref D) = some true) && He.eqO (PySem.W.ks_superIn K C D "__init__") (some (some (.builtin "ValueError.__init__"))))
      | _ => false)
    | _ => false)
def clsB3 (P : Program) (K : PySem.W.Frag) (C : Addr) : Bool := He.eqO (PySem.W.findIn K (.ref C) "__init__") (some (some (.ref (He.ma K C "__init__")))) && (decide (PySem.W.typeIn K (.ref (He.ma K C "__init__")) = some (.type "function")) && (match K.lookup (He.ma K C "__init__") with
  | some ⟨_, _, .func fd, _⟩ => clsB2 P K C fd
  | _ => false))
def clsB4 (P : Program) (K : PySem.W.Frag) (C : Addr) : Bool := [!(P.main.scope.names.lookup ("super" : Str)).isSome, He.eqO (PySem.W.nsIn K cStatics "thirdparty.any") (some none), decide (PySem.W.subIn K (.ref C) (.type "ValueError") = some true),
  He.eqO (PySem.W.findIn K (.ref C) "__setattr__") (some (some (.builtin "object.__setattr__"))), He.eqO (PySem.W.findIn K (.ref C) "value") (some none), decide (PySem.W.instIn K (.ref C) (.type "type") = some true), PySem.W.keepIn K (.ref C),
  He.eqO (PySem.W.findIn K (.ref C) "__getattribute__") (some (some (.builtin "BaseException.__getattribute__"))), He.eqO (PySem.W.findIn K (.ref C) "__getattr__") (some none), decide (PySem.W.subIn K (.ref C) (.type "BaseException") = some true), PySem.W.hasDictIn K C,
  He.eqO (PySem.W.findIn K (.ref C) "__class__") (some (some (.builtin "object.__class__"))), He.eqO (PySem.W.specialIn K (.builtin "object.__class__") "__get__") (some (some (.builtin "getset_descriptor.__get__"))), decide (PySem.W.takesIn K (.builtin "object.__class__") = some true), decide (PySem.W.mroIn K C (.type "object") = some true)].all id
def relB (K : PySem.W.Frag) (xs : XTab) (p : Str × List Str) : Bool := (xs.all fun q => decide (PySem.W.exmOne K (.ref (He.ga K q.1)) (.ref (He.ga K p.1)) = some (decide (p.1 ∈ q.2)))) && ((xs.all fun q => decide (PySem.W.kitOne K (.ref (He.ga K q.1)) (.ref (He.ga K p.1)) = some (decide (p.1 ∈ q.2)))) &&
  (decide (PySem.W.kitOne K (.ref (He.ga K p.1)) (.type "ValueError") = some (decide ((Str.ofString "ValueError") ∈ p.2))) && tyAll.all fun a => decide (PySem.W.kitOne K (.type a) (.ref (He.ga K p.1)) = some false)))
def clsB (P : Program) (K : PySem.W.Frag) (xs : XTab) (p : Str × List Str) : Bool := clsB1 K (He.ga K p.1) && (clsB3 P K (He.ga K p.1) && (clsB4 P K (He.ga K p.1) && relB K xs p))
theorem xcls_of {P : Program} {K : PySem.W.Frag} {x : Str} {p1 p2 : Pos} {q : Nat → Pos} (h24 : ((q 2).endLine == (q 4).line) = true) (hi : iniObs K x = some (iniVal p1 p2 q)) (h1 : clsB1 K (He.ga K x) = true) (h3 : clsB3 P K (He.ga K x) = true) (h4 : clsB4 P K (He.ga K x) = true) : XCls P K (He.ga K x) := by
  unfold clsB4 at h4
  simp only [List.all_cons, List.all_nil, Bool.and_true, Bool.and_eq_true, id, decide_eq_true_eq, Bool.not_eq_true'] at h4
  obtain ⟨a1, a2, a3, a4, a5, a6, a7, a8, a9, a10, a11, a12, a13, a14, a15⟩ := h4
  refine ⟨?_, ?_, a1, He.eqO_ok a2, a3, He.eqO_ok a4, He.eqO_ok a5, a6, a7, He.eqO_ok a8, He.eqO_ok a9, a10, a11, He.eqO_ok a12, He.eqO_ok a13, a14, a15⟩
  · unfold clsB1 at h1
    split at h1
    · rename_i t dd cd sl ho
      split at h1
      · rename_i C' bm k0 k1 k2 k3 n k5 hm hs
        simp only [Bool.and_eq_true, decide_eq_true_eq, Bool.not_eq_true'] at h1
        obtain ⟨rfl, rfl, rfl, hdel, hT, hd⟩ := h1
        obtain ⟨nm, bs, mro, ns, qn, hd', sn, sub, ab, col, del⟩ := cd
        dsimp only at hm hdel hd
        subst hm hdel hd
        have hsl : sl = #[k0, k1, k2, k3, some (.builtin "ValueError.__new__"), k5] := by
          obtain ⟨l⟩ := sl
          simp only at hs
          rw [hs]
        subst hsl
        exact ⟨nm, qn, ns, bs, bm, sn, sub, ab, col, dd, k0, k1, k2, k3, k5, ho, hT⟩
      · cases h1
    · cases h1
  · unfold clsB3 at h3
    unfold iniObs at hi
    obtain ⟨b1, h3⟩ := He.ba h3
    obtain ⟨b2, h3⟩ := He.ba h3
    split at h3
    · rename_i oc od fd sl ho
      rw [ho] at hi
      have hi := Option.some.inj hi
      obtain ⟨fnm, fqn, fpar, fbod, fsco, fgl, fclo, fdef, fkw, fdoc, fpm, fan, fcode, fct, fbi⟩ := fd
      unfold iniVal at hi
      simp only [Prod.mk.injEq] at hi
      obtain ⟨rfl, rfl, rfl, rfl, rfl, rfl⟩ := hi
      unfold clsB2 at h3
      obtain ⟨c1, c2⟩ := He.ba h3
      dsimp only at c1 c2
      split at c1
      · rename_i cda
        obtain ⟨c3, c4⟩ := He.ba c1
        split at c4
        · rename_i ccl cdd vs ccs hcode
          split at c4
          · rename_i file tf hvs
            split at c2
            · rename_i nm cc
              obtain ⟨c5, c6⟩ := He.ba c2
              have c5 := of_decide_eq_true c5
              subst c5
              split at c6
              · rename_i cl cld D csl hcell
                obtain ⟨c7, c8⟩ := He.ba c6
                obtain ⟨c8, c9⟩ := He.ba c8
                obtain ⟨cdD, hcdD⟩ := Option.isSome_iff_exists.mp c7
                exact ⟨He.ma K (He.ga K x) "__init__", oc, od, sl, fnm, fqn, p1, p2, q, fkw, fdoc, fpm, fan, cda, fct, cc, ccl, cdd, vs, ccs, cl, cld, D, csl, file, tf, cdD,
                  He.eqO_ok b1, of_decide_eq_true b2, h24, ho, c3, hcode, hvs, c4, hcell, hcdD, of_decide_eq_true c8, He.eqO_ok c9⟩
              · cases c6
            · cases c2
          · cases c4
        · cases c4
      · cases c1
    · cases h3
/-! ### the Hook -/
abbrev AlX : Type := AlG × List (Bool × Option IniV)
def obsX (P : Program) (fa : List He.Fa) (fn : List He.DefD) (gs : List GD) (xs : XTab) (K : PySem.W.Frag) : AlX := (obsG fa fn gs K, xs.map fun p => (clsB P K xs p, iniObs K p.1))
def valX (fn : List He.DefD) (gs : List GD) (xs : XTab) (iv : IniV) (w : World) : AlX := (valG fn gs w, xs.map fun _ => (true, some iv))
def asX (g : Addr → Option Obj) (n : Nat) : List Addr := cStatics :: He.asD g n
def lookX (n : Nat) (P : Program) (fa : List He.Fa) (fn : List He.DefD) (gs : List GD) (xs : XTab) (g : Addr → Option Obj) : AlX := obsX P fa fn gs xs (He.frG g (asX g n))
def SaysX (P : Program) (fa : List He.Fa) (fn : List He.DefD) (gs : List GD) (xs : XTab) (iv : IniV) (w : World) (K : PySem.W.Frag) : Prop := obsX P fa fn gs xs K = valX fn gs xs iv w
def hookX (n : Nat) (P : Program) (fa : List He.Fa) (fn : List He.DefD) (gs : List GD) (xs : XTab) (iv : IniV) : PySem.W.Hook where
  α := AlX
  obs := fun sh => lookX n P fa fn gs xs sh.heap.get?
  val := valX fn gs xs iv
  says := fun wo he => ∃ fr : PySem.W.Frag, fr.In he ∧ SaysX P fa fn gs xs iv wo fr
  of := fun wo sh eq => ⟨_, He.frG_in, eq⟩
  keeps := fun wo h1 h2 ⟨fr, inn, say⟩ kp => ⟨fr, PySem.W.Frag.In.keeps inn kp, say⟩
theorem lookX_eq {n : Nat} {P : Program} {fa : List He.Fa} {fn : List He.DefD} {gs : List GD} {xs : XTab} {iv : IniV} {g : Addr → Option Obj} {sh : Shared} (h : ∀ a, g a = sh.heap.get? a) : lookX n P fa fn gs xs g = (hookX n P fa fn gs xs iv).obs sh := by
  rw [show g = sh.heap.get? from funext h] <;> rfl
section
variable {P : Program} {fa : List He.Fa} {fn : List He.DefD} {gs : List GD} {xs : XTab} {iv : IniV} {w : World} {K : PySem.W.Frag}
theorem SaysX.g (c : SaysX P fa fn gs xs iv w K) : SaysG fa fn gs w K := congrArg (fun z : AlX => z.1) c
theorem SaysX.at_ (c : SaysX P fa fn gs xs iv w K) {p : Str × List Str} (hp : p ∈ xs) : clsB P K xs p = true ∧ iniObs K p.1 = some iv := by
  have e : xs.map (fun p => (clsB P K xs p, iniObs K p.1)) = xs.map fun _ => (true, some iv) := congrArg (fun z : AlX => z.2) c
  have := List.map_inj_left.mp e p hp
  exact ⟨congrArg Prod.fst this, congrArg Prod.snd this⟩
theorem xok_of {h : Heap} {mg : Str → Option Value} {p1 p2 : Pos} {q : Nat → Pos} (X : K.In h) (G : h.Ns mainGlobals mg) (c : SaysX P fa fn gs xs (iniVal p1 p2 q) w K) (h24 : ((q 2).endLine == (q 4).line) = true) (hf : ∀ p ∈ xs, (He.Fa.glo p.1).ok K = true ∧ (p.1 == ("__debug__" : Str)) = false) : ∀ p ∈ xs, XOk P K mg xs p := by
  intro p hp
  obtain ⟨h1, hi⟩ := c.at_ hp
  unfold clsB at h1
  obtain ⟨b1, h1⟩ := He.ba h1
  obtain ⟨b3, h1⟩ := He.ba h1
  obtain ⟨b4, b5⟩ := He.ba h1
  unfold relB at b5
  obtain ⟨r0, b5⟩ := He.ba b5
  obtain ⟨r1, r2⟩ := He.ba b5
  obtain ⟨r2, r3⟩ := He.ba r2
  exact ⟨xcls_of h24 hi b1 b3 b4, He.glo_ok X G (hf p hp).1, (hf p hp).2, fun q hq => of_decide_eq_true (List.all_eq_true.mp r1 q hq), of_decide_eq_true r2, fun a ha => of_decide_eq_true (List.all_eq_true.mp r3 a ha), fun q hq => of_decide_eq_true (List.all_eq_true.mp r0 q hq)⟩
end
end Ev
end

section
set_option Elab.async false
set_option linter.all false
set_option maxRecDepth 100000
set_option maxHeartbeats 4000000
/-! Ev, part 32: the law's end. -/
namespace Ev
open PySem PySem.Spec PyProof.Rows L2
section
variable {P : Program} {w : World} {K : PySem.W.Frag} {mg : Str → Option Value} {base : Heap} {k : Nat} {f : Addr} {fd : FuncData} {ps : List Str} {sp : Sp}
/-- nothing is let out: no class of what it lets out is asked -/
theorem FnOk.noE (F : FnOk P w K mg base (L2.CX P w) k f fd ps sp) : FnOk P w K mg base CX0 k f fd ps (fun vs H Q _ => sp vs H Q fun _ _ _ => False) where
  len := fun vs H Q E h => F.len _ _ _ _ h
  run := fun A outer s H args us vs Q E hr he hb hv hs => codeAny_mono (F.run A outer s H args us vs Q _ hr he hb hv hs) fun r s' h => by
    cases r with
    | ok fl => cases fl <;> exact h
    | error e =>
      obtain ⟨_, _, _, _, _, _, _, _, _, _, _, _, z⟩ := h
      exact z.elim
theorem kept_fd {x : Str} {d : He.DefD} {F : Fn} (D : FunD K x d.qual d.params d.body d.scope [] [] f fd) (hm : mg x = some (.ref f)) (h : Kept P w K mg base k x d ps F) : FnOk P w K mg base (L2.CX P w) k f fd ps (spF K w mg F) := by
  obtain ⟨f', fd', D', hm', ok⟩ := h
  cases hm.symm.trans hm'
  obtain ⟨oc, od, dV, kV, doc, pm, an, cdv, ct, osl, e1, lk, _⟩ := D.ex
  obtain ⟨oc', od', dV', kV', doc', pm', an', cdv', ct', osl', e2, lk', _⟩ := D'.ex
  have := lk.symm.trans lk'
  have e : fd = fd' := by
    injection this with this
    injection this with _ _ h3 _
    injection h3
  rw [e]
  exact ok
/-- the law's facts -/
theorem law_facts {d : He.DefD} {F : Fn} {x p : Str} (D : ∃ f fd, FunD K x d.qual d.params d.body d.scope [] [] f fd ∧ mg x = some (.ref f)) (hm : mg x = some (.ref f)) (hk : ∀ base : Heap, K.In base → base.Ns mainGlobals mg → Kept P w K mg base k x d [p] F)
    (hb : ∀ (kV doc pm : Value) (an : Option Addr) (cdv ct : Value) (us : List Value), us.length = 1 → bindArgs (PySem.W.fnOf x d.qual d.params d.body d.scope .none kV doc pm an cdv ct) ⟨us, []⟩ = pure (([p] : List Str).zip us)) {n : Nat}
    (hl : ∀ ns : List Int, ns.length ≤ n → ∃ A', F [.sh (.lst (ns.map .int))] = .ok (.sh (.bl true)) A') :
    ∃ (fd : FuncData) (sp : Sp), (∀ (s : Shared) (u : Value), BindsTo s fd ⟨[u], []⟩ [(p, u)]) ∧
      (∀ (H : Hp) (a : Addr) (ns : List Int), ns.length ≤ n → SqL K H a (ns.map V.int) → sp [.ref a] H (fun v _ => v = .bl true) fun _ _ _ => False) ∧
      ∀ base : Heap, K.In base → base.Ns mainGlobals mg → FnOk P w K mg base CX0 k f fd [p] sp := by
  obtain ⟨f', fd, D, hm'⟩ := D
  cases hm.symm.trans hm'
  refine ⟨fd, (fun vs H Q _ => spF K w mg F vs H Q fun _ _ _ => False), fun s u => ?_, fun H a ns h1 hS => law_sp hS (hl ns h1), fun base X G => FnOk.noE (kept_fd D hm (hk base X G))⟩
  obtain ⟨oc, od, dV, kV, doc, pm, an, cdv, ct, osl, rfl, lk, hcd, hD, hK⟩ := D.ex
  rcases hD with ⟨_, rfl⟩ | ⟨e, _⟩
  · exact .of_eq (hb kV doc pm an cdv ct [u] rfl)
  · exact absurd rfl e
end
end Ev
end

section
set_option Elab.async false
set_option linter.all false
set_option maxRecDepth 100000
set_option maxHeartbeats 4000000
/-! Ev, part 33: the laws' draws: plain Lean. -/
namespace Ev
open PySem PySem.Spec PyProof.Rows L2
/-! ### operations on numbers -/
theorem eqD_int (i j : Int) : eqD false [.int i, .int j] = some (.sh (.bl (decide (i = j)))) := by
  have h : ∀ i : Int, shp (.int i) = some (.int i) := fun i => by rfl
  show (match shp (.int i), shp (.int j) with
      | some p, some q => some (SV.sh (D.bl (if false = true then !p.eqv q else p.eqv q)))
      | _, _ => none) = _
  rw [h, h]
  rfl
theorem mulw {i j : Int} (h1 : i.natAbs < 2 ^ 64) (h2 : j.natAbs < 2 ^ 64) : CMulW i j := by
  unfold CMulW
  have k : ∀ n : Nat, n < 2 ^ 64 → n.log2 < 65 := fun n h => by
    by_cases e : n = 0
    · subst e; decide
    · exact Nat.lt_of_lt_of_le ((Nat.log2_lt e).mpr h) (by decide)
  have := k _ h1
  have := k _ h2
  omega
theorem mulD_int {i j : Int} (h1 : i.natAbs < 2 ^ 64) (h2 : j.natAbs < 2 ^ 64) : mulD [.int i, .int j] = some (.sh (.int (i * j))) := if_pos (mulw h1 h2)
theorem modD_int {i j : Int} (h : 0 < j) : modD [.int i, .int j] = some (.sh (.int (i % j))) := if_pos h
theorem fdivD_int {i j : Int} (h : 0 < j) (h2 : j < 2 ^ 64) : fdivD [.int i, .int j] = some (.sh (.int (i / j))) := if_pos ⟨h, by
  have e : j.natAbs ≠ 0 := by omega
  exact Nat.lt_of_lt_of_le ((Nat.log2_lt e).mpr (show j.natAbs < 2 ^ 64 by omega)) (by decide)⟩
theorem ixD_nat (xs : List D) (k : Nat) : ixD [.lst xs, .int (k : Int)] = (xs[k]?).map .sh := by
  show (L2.atI xs (k : Int)).map SV.sh = _
  unfold L2.atI L2.ixN
  rw [if_pos (Int.natCast_nonneg k)]
  by_cases h : k < xs.length
  · rw [if_pos (by omega)]
    rfl
  · rw [if_neg (by omega), List.getElem?_eq_none (by omega)]
    rfl
theorem ixD0 (a : D) (r : List D) : ixD [.lst (a :: r), .int 0] = some (.sh a) := ixD_nat (a :: r) 0
theorem ixD1 (a b : D) (r : List D) : ixD [.lst (a :: b :: r), .int 1] = some (.sh b) := ixD_nat (a :: b :: r) 1
theorem ixD2 (a b c : D) (r : List D) : ixD [.lst (a :: b :: c :: r), .int 2] = some (.sh c) := ixD_nat (a :: b :: c :: r) 2
/-! ### the state of a draw: the pot, how many, three names -/
abbrev stP (a b c : Int) (r : List D) (m : Int) (x y z : SV) : List SV := [.bo 0 (.l (.int a :: .int b :: .int c :: r)), .sh (.int m), x, y, z]
section
variable {a b c m : Int} {r : List D} {x y z : SV}
theorem rd0 : opM ixD [.pk 0, .ex (conM (.int 0))] (stP a b c r m x y z) = .ok (.sh (.int a)) (stP a b c r m x y z) := by
  show (match ixD [.lst (.int a :: .int b :: .int c :: r), .int 0] with
    | some r => Res.ok r _
    | none => .stuck) = _
  rw [ixD0]
theorem rd1 : opM ixD [.pk 0, .ex (conM (.int 1))] (stP a b c r m x y z) = .ok (.sh (.int b)) (stP a b c r m x y z) := by
  show (match ixD [.lst (.int a :: .int b :: .int c :: r), .int 1] with
    | some r => Res.ok r _
    | none => .stuck) = _
  rw [ixD1]
theorem rd2 : opM ixD [.pk 0, .ex (conM (.int 2))] (stP a b c r m x y z) = .ok (.sh (.int c)) (stP a b c r m x y z) := by
  show (match ixD [.lst (.int a :: .int b :: .int c :: r), .int 2] with
    | some r => Res.ok r _
    | none => .stuck) = _
  rw [ixD2]
theorem ixN_lt {n k : Nat} (h : k < n) : L2.ixN n (k : Int) = some k := by
  unfold L2.ixN
  rw [if_pos (Int.natCast_nonneg k), if_pos (by omega)]
  rfl
theorem putI_nat {S : List SV} {i k : Nat} {s : SV} {xs : List D} {d : D} (h : S[i]? = some s) (ho : s.own? = some (.l xs)) (hk : k < xs.length) : putI S i (k : Int) d = some (S.set i (s.put (.l (xs.set k d)))) := by
  unfold putI
  rw [h]
  show (match s.own? with
    | some (.l xs) => (L2.ixN xs.length (k : Int)).map fun j => S.set i (s.put (.l (xs.set j d)))
    | _ => none) = _
  rw [ho]
  show (L2.ixN xs.length (k : Int)).map _ = _
  rw [ixN_lt hk]
  rfl
theorem setM_nat {S S1 : List SV} {i k : Nat} {s : SV} {xs : List D} {d : D} {f : M SV} (hf : f S = .ok (.sh d) S1) (h : S1[i]? = some s) (ho : s.own? = some (.l xs)) (hk : k < xs.length) : setM i (conM (.int (k : Int))) f S = .ok .nx (S1.set i (s.put (.l (xs.set k d)))) := by
  unfold setM
  rw [hf]
  show (match some d, S1[i]?.bind SV.own? with
    | some d, some _ => (match putI S1 i (k : Int) d with
      | some S3 => Res.ok Fl.nx S3
      | none => .stuck)
    | _, _ => .stuck) = _
  rw [h]
  show (match some d, s.own? with
    | some d, some _ => (match putI S1 i (k : Int) d with
      | some S3 => Res.ok Fl.nx S3
      | none => .stuck)
    | _, _ => .stuck) = _
  rw [ho]
  show (match putI S1 i (k : Int) d with
      | some S3 => Res.ok Fl.nx S3
      | none => .stuck) = _
  rw [putI_nat h ho hk]
theorem wr0 {f : M SV} {v : Int} (h : f (stP a b c r m x y z) = .ok (.sh (.int v)) (stP a b c r m x y z)) : setM 0 (conM (.int 0)) f (stP a b c r m x y z) = .ok .nx (stP v b c r m x y z) :=
  setM_nat (i := 0) (k := 0) (s := .bo 0 (.l (.int a :: .int b :: .int c :: r))) (xs := .int a :: .int b :: .int c :: r) h rfl rfl (by simp)
theorem wr1 {f : M SV} {v : Int} (h : f (stP a b c r m x y z) = .ok (.sh (.int v)) (stP a b c r m x y z)) : setM 0 (conM (.int 1)) f (stP a b c r m x y z) = .ok .nx (stP a v c r m x y z) :=
  setM_nat (i := 0) (k := 1) (s := .bo 0 (.l (.int a :: .int b :: .int c :: r))) (xs := .int a :: .int b :: .int c :: r) h rfl rfl (by simp)
/-- two numbers, run one behind the other, an operation -/
theorem op2 {g : List D → Option SV} {f f' : M SV} {S S' S'' : List SV} {i j : D} {v : SV} (h : f S = .ok (.sh i) S') (h' : f' S' = .ok (.sh j) S'') (e : g [i, j] = some v) : opM g [.ex f, .ex f'] S = .ok v S'' := by
  unfold opM runAs
  rw [h]
  show (((runAs [.ex f'] S').bind fun as S2 => Res.ok (AV.v (.sh i) :: as) S2).bind _) = _
  unfold runAs
  rw [h']
  show (match g [i, j] with
    | some r => Res.ok r S''
    | none => .stuck) = _
  rw [e]
theorem op1 {g : List D → Option SV} {f : M SV} {S S' : List SV} {i : D} {v : SV} (h : f S = .ok (.sh i) S') (e : g [i] = some v) : opM g [.ex f] S = .ok v S' := by
  unfold opM runAs
  rw [h]
  show (match g [i] with
    | some r => Res.ok r S'
    | none => .stuck) = _
  rw [e]
/-- the second one looked at -/
theorem op2s {g : List D → Option SV} {f : M SV} {S S' : List SV} {i j : D} {k : Nat} {v : SV} (h : f S = .ok (.sh i) S') (h' : S'[k]? = some (.sh j)) (e : g [i, j] = some v) : opM g [.ex f, .pk k] S = .ok v S' := by
  unfold opM runAs
  rw [h]
  show (((runAs [.pk k] S').bind fun as S2 => Res.ok (AV.v (.sh i) :: as) S2).bind _) = _
  unfold runAs
  rw [h']
  show (match datL S' [.v (.sh i), .s k] with
    | some ds => (match g ds with
      | some r => Res.ok r S'
      | none => .stuck)
    | none => .stuck) = _
  have : datL S' [.v (.sh i), .s k] = some [i, j] := by
    simp [datL, AV.dat?, SV.dat?, h']
  rw [this]
  show (match g [i, j] with
    | some r => Res.ok r S'
    | none => .stuck) = _
  rw [e]
/-! ### statements -/
theorem seq_nx {f g : MS} {S S' : List SV} (h : f S = .ok .nx S') : seqM f g S = g S' := by
  unfold seqM
  rw [h]
  rfl
theorem seq_rt {f g : MS} {S S' : List SV} {r : SV} (h : f S = .ok (.rt r) S') : seqM f g S = .ok (.rt r) S' := by
  unfold seqM
  rw [h]
  rfl
theorem ite_t {t : M Bool} {f g : MS} {S S' : List SV} (h : t S = .ok true S') : iteM t f g S = f S' := by
  unfold iteM
  rw [h]
  rfl
theorem ite_f {t : M Bool} {f g : MS} {S S' : List SV} (h : t S = .ok false S') : iteM t f g S = g S' := by
  unfold iteM
  rw [h]
  rfl
theorem asT_ok {f : M SV} {S S' : List SV} {b : Bool} (h : f S = .ok (.sh (.bl b)) S') : asT f S = .ok b S' := by
  unfold asT
  rw [h]
  rfl
theorem andT_t {f g : M Bool} {S S' : List SV} (h : f S = .ok true S') : andT f g S = g S' := by
  unfold andT
  rw [h]
  rfl
theorem andT_f {f g : M Bool} {S S' : List SV} (h : f S = .ok false S') : andT f g S = .ok false S' := by
  unfold andT
  rw [h]
  rfl
theorem asg_ok {i : Nat} {f : M SV} {S S' : List SV} {v : SV} (h : f S = .ok v S') : asgM i f S = .ok .nx (S'.set i v) := by
  unfold asgM
  rw [h]
  rfl
theorem ret_ok {f : M SV} {S S' : List SV} {v : SV} (h : f S = .ok v S') : retM f S = .ok (.rt v) S' := by
  unfold retM
  rw [h]
  rfl
theorem con_ok {d : D} {S : List SV} : conM d S = .ok (.sh d) S := rfl
theorem op1s {g : List D → Option SV} {S : List SV} {i : D} {k : Nat} {v : SV} (h : S[k]?.bind SV.dat? = some i) (e : g [i] = some v) : opM g [.pk k] S = .ok v S := by
  unfold opM runAs
  rw [h]
  show (match datL S [.s k] with
    | some ds => (match g ds with
      | some r => Res.ok r S
      | none => .stuck)
    | none => .stuck) = _
  have : datL S [.s k] = some [i] := by
    have h' : AV.dat? S (.s k) = some i := h
    simp [datL, h']
  rw [this]
  show (match g [i] with
    | some r => Res.ok r S
    | none => .stuck) = _
  rw [e]
/-- the first one looked at -/
theorem op2l {g : List D → Option SV} {f : M SV} {S S' : List SV} {i i' j : D} {k : Nat} {v : SV} (h0 : S[k]?.bind SV.dat? = some i') (h : f S = .ok (.sh j) S') (h' : S'[k]?.bind SV.dat? = some i) (e : g [i, j] = some v) : opM g [.pk k, .ex f] S = .ok v S' := by
  unfold opM runAs
  rw [h0]
  show (((runAs [.ex f] S).bind fun as S2 => Res.ok (AV.s k :: as) S2).bind _) = _
  unfold runAs
  rw [h]
  show (match datL S' [.s k, .v (.sh j)] with
    | some ds => (match g ds with
      | some r => Res.ok r S'
      | none => .stuck)
    | none => .stuck) = _
  have : datL S' [.s k, .v (.sh j)] = some [i, j] := by
    have h2 : AV.dat? S' (.s k) = some i := h'
    have h3 : AV.dat? S' (.v (.sh j)) = some j := rfl
    simp [datL, h2, h3]
  rw [this]
  show (match g [i, j] with
    | some r => Res.ok r S'
    | none => .stuck) = _
  rw [e]
/-- both looked at -/
theorem op2b {g : List D → Option SV} {S : List SV} {i j : D} {k l : Nat} {v : SV} (h : S[k]?.bind SV.dat? = some i) (h' : S[l]?.bind SV.dat? = some j) (e : g [i, j] = some v) : opM g [.pk k, .pk l] S = .ok v S := by
  unfold opM runAs
  rw [h]
  show (((runAs [.pk l] S).bind fun as S2 => Res.ok (AV.s k :: as) S2).bind _) = _
  unfold runAs
  rw [h']
  show (match datL S [.s k, .s l] with
    | some ds => (match g ds with
      | some r => Res.ok r S
      | none => .stuck)
    | none => .stuck) = _
  have : datL S [.s k, .s l] = some [i, j] := by
    have h2 : AV.dat? S (.s k) = some i := h
    have h3 : AV.dat? S (.s l) = some j := h'
    simp [datL, h2, h3]
  rw [this]
  show (match g [i, j] with
    | some r => Res.ok r S
    | none => .stuck) = _
  rw [e]
/-- xs[k] += v -/
theorem augS_nat {S : List SV} {i k : Nat} {s : SV} {xs : List D} {p q : Int} {f : Int → Int → Int} (h : S[i]? = some s) (ho : s.own? = some (.l xs)) (hk : xs[k]? = some (.int p)) : augS i f (conM (.int (k : Int))) (conM (.int q)) S = .ok .nx (S.set i (s.put (.l (xs.set k (.int (f p q)))))) := by
  have hlt : k < xs.length := (List.getElem?_eq_some_iff.mp hk).1
  unfold augS
  rw [h]
  show (match s.own? with
    | some _ => (match getI S i (k : Int) with
      | some (.int a) => (match putI S i (k : Int) (.int (f a q)) with
          | some S3 => Res.ok Fl.nx S3
          | none => .stuck)
      | _ => .stuck)
    | none => .stuck) = _
  rw [ho]
  have hg : getI S i (k : Int) = some (.int p) := by
    unfold getI
    rw [h]
    show (match s.own? with
      | some (.l xs) => L2.atI xs (k : Int)
      | _ => none) = _
    rw [ho]
    show L2.atI xs (k : Int) = _
    unfold L2.atI
    rw [ixN_lt hlt]
    exact hk
  show (match getI S i (k : Int) with
      | some (.int a) => (match putI S i (k : Int) (.int (f a q)) with
          | some S3 => Res.ok Fl.nx S3
          | none => .stuck)
      | _ => .stuck) = _
  rw [hg]
  show (match putI S i (k : Int) (.int (f p q)) with
          | some S3 => Res.ok Fl.nx S3
          | none => .stuck) = _
  rw [putI_nat h ho hlt]
/-! ### a pot -/
structure PotOk (a b c : Int) (r : List D) : Prop where
  a0 : 0 ≤ a
  b0 : 0 ≤ b
  b1 : b < 2147483648
  c0 : 3 ≤ c
  c1 : c ≤ 1000
  rl : r.length ≤ 900
  ri : ∀ d ∈ r, ∃ i, d = .int i
end
/-- the draw of half of the laws -/
def takeA : MS := seqM (iteM (andT (asT (opM (eqD false) [.ex (opM ixD [.pk 0, .ex (conM (.int 0))]), .ex (conM (.int 0))])) (asT (opM (strD ltS fun i j => decide (i < j)) [.ex (opM ixD [.pk 0, .ex (conM (.int 2))]), .ex (opM lenD [.pk 0])])))
    (seqM (asgM 2 (opM ixD [.pk 0, .ex (opM ixD [.pk 0, .ex (conM (.int 2))])]))
      (seqM (augS 0 (· + ·) (conM (.int 2)) (conM (.int 1)))
        (iteM (asT (opM (strD (fun x y => leS y x) fun i j => decide (j ≤ i)) [.pk 2, .ex (opM powD [.ex (conM (.int 10)), .ex (conM (.int 18))])]))
          (setM 0 (conM (.int 0)) (opM subD [.pk 2, .ex (opM powD [.ex (conM (.int 10)), .ex (conM (.int 18))])]))
          (seqM (asgM 3 (opM modD [.ex (opM intD [.pk 2]), .ex (conM (.int 2147483647))]))
            (seqM (asgM 3 (opM modD [.ex (opM intD [.ex (opM addD [.ex (opM addD [.ex (opM mulD [.pk 3, .pk 3]), .ex (opM mulD [.ex (conM (.int 69621)), .pk 3])]), .ex (opM mulD [.ex (conM (.int 1201)), .ex (opM ixD [.pk 0, .ex (conM (.int 2))])])])]), .ex (conM (.int 2147483629))]))
              (setM 0 (conM (.int 1)) (opM modD [.ex (opM intD [.ex (opM addD [.ex (opM ixD [.pk 0, .ex (conM (.int 1))]), .pk 3])]), .ex (conM (.int 2147483629))])))))))
    skipM)
  (seqM (iteM (asT (opM (strD (fun x y => ltS y x) fun i j => decide (j < i)) [.ex (opM ixD [.pk 0, .ex (conM (.int 0))]), .ex (conM (.int 0))]))
      (seqM (asgM 4 (opM modD [.ex (opM intD [.ex (opM ixD [.pk 0, .ex (conM (.int 0))])]), .pk 1]))
        (seqM (setM 0 (conM (.int 0)) (opM fdivD [.ex (opM ixD [.pk 0, .ex (conM (.int 0))]), .pk 1])) (retM (movM 4)))) skipM)
    (seqM (setM 0 (conM (.int 1)) (opM modD [.ex (opM intD [.ex (opM addD [.ex (opM addD [.ex (opM mulD [.ex (opM ixD [.pk 0, .ex (conM (.int 1))]), .ex (conM (.int 39373))]), .ex (opM mulD [.ex (conM (.int 45991)), .ex (opM ixD [.pk 0, .ex (conM (.int 2))])])]), .ex (conM (.int 19))])]), .ex (conM (.int 2147483647))]))
      (seqM (setM 0 (conM (.int 1)) (opM modD [.ex (opM intD [.ex (opM addD [.ex (opM mulD [.ex (opM ixD [.pk 0, .ex (conM (.int 1))]), .ex (opM ixD [.pk 0, .ex (conM (.int 1))])]), .ex (conM (.int 11))])]), .ex (conM (.int 2147483629))]))
        (retM (opM modD [.ex (opM intD [.ex (opM fdivD [.ex (opM ixD [.pk 0, .ex (conM (.int 1))]), .ex (conM (.int 8))])]), .pk 1])))))
section
variable {a b c m : Int} {r : List D} {x y z : SV}
theorem lt_int (i j : Int) : strD ltS (fun i j => decide (i < j)) [.int i, .int j] = some (.sh (.bl (decide (i < j)))) := rfl
theorem ge_int (i j : Int) : strD (fun x y => leS y x) (fun i j => decide (j ≤ i)) [.int i, .int j] = some (.sh (.bl (decide (j ≤ i)))) := rfl
theorem gt_int (i j : Int) : strD (fun x y => ltS y x) (fun i j => decide (j < i)) [.int i, .int j] = some (.sh (.bl (decide (j < i)))) := rfl
theorem p18 {S : List SV} : opM powD [.ex (conM (.int 10)), .ex (conM (.int 18))] S = .ok (.sh (.int 1000000000000000000)) S := op2 con_ok con_ok (by kernel_rfl)
theorem mod_lt {i j : Int} (h : 0 < j) : 0 ≤ i % j ∧ i % j < j := ⟨Int.emod_nonneg _ (by omega), Int.emod_lt_of_pos _ h⟩
/-- the first part -/
theorem takeA1 (h : PotOk a b c r) : ∃ a' b' c' x' y', (iteM (andT (asT (opM (eqD false) [.ex (opM ixD [.pk 0, .ex (conM (.int 0))]), .ex (conM (.int 0))])) (asT (opM (strD ltS fun i j => decide (i < j)) [.ex (opM ixD [.pk 0, .ex (conM (.int 2))]), .ex (opM lenD [.pk 0])])))
    (seqM (asgM 2 (opM ixD [.pk 0, .ex (opM ixD [.pk 0, .ex (conM (.int 2))])]))
      (seqM (augS 0 (· + ·) (conM (.int 2)) (conM (.int 1)))
        (iteM (asT (opM (strD (fun x y => leS y x) fun i j => decide (j ≤ i)) [.pk 2, .ex (opM powD [.ex (conM (.int 10)), .ex (conM (.int 18))])]))
          (setM 0 (conM (.int 0)) (opM subD [.pk 2, .ex (opM powD [.ex (conM (.int 10)), .ex (conM (.int 18))])]))
          (seqM (asgM 3 (opM modD [.ex (opM intD [.pk 2]), .ex (conM (.int 2147483647))]))
            (seqM (asgM 3 (opM modD [.ex (opM intD [.ex (opM addD [.ex (opM addD [.ex (opM mulD [.pk 3, .pk 3]), .ex (opM mulD [.ex (conM (.int 69621)), .pk 3])]), .ex (opM mulD [.ex (conM (.int 1201)), .ex (opM ixD [.pk 0, .ex (conM (.int 2))])])])]), .ex (conM (.int 2147483629))]))
              (setM 0 (conM (.int 1)) (opM modD [.ex (opM intD [.ex (opM addD [.ex (opM ixD [.pk 0, .ex (conM (.int 1))]), .pk 3])]), .ex (conM (.int 2147483629))])))))))
    skipM) (stP a b c r m x y z) = .ok .nx (stP a' b' c' r m x' y' z) ∧ PotOk a' b' c' r := by
  have hc0 := h.c0
  by_cases h1 : a = 0
  case neg =>
    refine ⟨a, b, c, x, y, ?_, h⟩
    rw [ite_f (andT_f (asT_ok (op2 rd0 con_ok (by rw [eqD_int, decide_eq_false h1]))))]
    rfl
  by_cases h2 : c < (r.length + 3 : Nat)
  case neg =>
    refine ⟨a, b, c, x, y, ?_, h⟩
    rw [ite_f (S' := stP a b c r m x y z) ?_]
    · rfl
    rw [andT_t (asT_ok (op2 rd0 con_ok (by rw [eqD_int, decide_eq_true h1])))]
    exact asT_ok (op2 rd2 (op1s (k := 0) (i := .lst (.int a :: .int b :: .int c :: r)) rfl (rfl : lenD _ = some (.sh (.int ((r.length + 3 : Nat) : Int))))) (by rw [lt_int, decide_eq_false h2]))
  obtain ⟨k, rfl⟩ : ∃ k : Nat, c = ((k + 3 : Nat) : Int) := ⟨(c - 3).toNat, by omega⟩
  have hk : k < r.length := by omega
  obtain ⟨cell, hcell⟩ := h.ri r[k] (List.getElem_mem hk)
  have e1 : opM ixD [.pk 0, .ex (opM ixD [.pk 0, .ex (conM (.int 2))])] (stP a b ((k + 3 : Nat) : Int) r m x y z) = .ok (.sh (.int cell)) (stP a b ((k + 3 : Nat) : Int) r m x y z) := by
    refine op2l (i := .lst (.int a :: .int b :: .int ((k + 3 : Nat) : Int) :: r)) (i' := .lst (.int a :: .int b :: .int ((k + 3 : Nat) : Int) :: r)) rfl rd2 rfl ?_
    rw [ixD_nat]
    show (r[k]?).map SV.sh = _
    rw [List.getElem?_eq_getElem hk, hcell]
    rfl
  have e2 : augS 0 (· + ·) (conM (.int 2)) (conM (.int 1)) (stP a b ((k + 3 : Nat) : Int) r m (.sh (.int cell)) y z) = .ok .nx (stP a b (((k + 3 : Nat) : Int) + 1) r m (.sh (.int cell)) y z) :=
    augS_nat (i := 0) (k := 2) (s := .bo 0 (.l (.int a :: .int b :: .int ((k + 3 : Nat) : Int) :: r))) (p := ((k + 3 : Nat) : Int)) (q := 1) (f := (· + ·)) (xs := .int a :: .int b :: .int ((k + 3 : Nat) : Int) :: r) rfl rfl rfl
  rw [ite_t (S' := stP a b ((k + 3 : Nat) : Int) r m x y z) (by
    rw [andT_t (asT_ok (op2 rd0 con_ok (by rw [eqD_int, decide_eq_true h1])))]
    exact asT_ok (op2 rd2 (op1s (k := 0) (i := .lst (.int a :: .int b :: .int ((k + 3 : Nat) : Int) :: r)) rfl (rfl : lenD _ = some (.sh (.int ((r.length + 3 : Nat) : Int))))) (by rw [lt_int, decide_eq_true h2])))]
  rw [seq_nx (asg_ok e1)]
  show ∃ a' b' c' x' y', seqM _ _ (stP a b ((k + 3 : Nat) : Int) r m (.sh (.int cell)) y z) = _ ∧ _
  rw [seq_nx e2]
  generalize hC : ((k + 3 : Nat) : Int) + 1 = C
  have hrl := h.rl
  have hC0 : 3 ≤ C ∧ C ≤ 1000 := by omega
  by_cases h3 : 1000000000000000000 ≤ cell
  · refine ⟨cell - 1000000000000000000, b, C, .sh (.int cell), y, ?_, ⟨by omega, h.b0, h.b1, hC0.1, hC0.2, h.rl, h.ri⟩⟩
    rw [ite_t (S' := stP a b C r m (.sh (.int cell)) y z) (asT_ok (op2l (i := .int cell) (i' := .int cell) rfl p18 rfl (by rw [ge_int, decide_eq_true h3])))]
    exact wr0 (op2l (i := .int cell) (i' := .int cell) rfl p18 rfl rfl)
  · rw [ite_f (S' := stP a b C r m (.sh (.int cell)) y z) (asT_ok (op2l (i := .int cell) (i' := .int cell) rfl p18 rfl (by rw [ge_int, decide_eq_false h3])))]
    have m1 := mod_lt (i := cell) (j := 2147483647) (by decide)
    rw [seq_nx (asg_ok (op2 (op1s (k := 2) (i := .int cell) rfl (rfl : intD _ = some (.sh (.int cell)))) con_ok (modD_int (by decide))))]
    show ∃ a' b' c' x' y', seqM _ _ (stP a b C r m (.sh (.int cell)) (.sh (.int (cell % 2147483647))) z) = _ ∧ _
    generalize cell % 2147483647 = mx at m1
    have m2 := mod_lt (i := mx * mx + 69621 * mx + 1201 * C) (j := 2147483629) (by decide)
    have f1 : opM modD [.ex (opM intD [.ex (opM addD [.ex (opM addD [.ex (opM mulD [.pk 3, .pk 3]), .ex (opM mulD [.ex (conM (.int 69621)), .pk 3])]), .ex (opM mulD [.ex (conM (.int 1201)), .ex (opM ixD [.pk 0, .ex (conM (.int 2))])])])]), .ex (conM (.int 2147483629))] (stP a b C r m (.sh (.int cell)) (.sh (.int mx)) z) =
        .ok (.sh (.int ((mx * mx + 69621 * mx + 1201 * C) % 2147483629))) (stP a b C r m (.sh (.int cell)) (.sh (.int mx)) z) := by
      refine op2 (op1 (op2 (op2 (op2b (i := .int mx) (j := .int mx) rfl rfl (mulD_int (by omega) (by omega))) (op2s con_ok rfl (mulD_int (by decide) (by omega))) rfl) (op2 con_ok rd2 (mulD_int (by decide) (by omega))) rfl) rfl) con_ok (modD_int (by decide))
    rw [seq_nx (asg_ok f1)]
    show ∃ a' b' c' x' y', setM _ _ _ (stP a b C r m (.sh (.int cell)) (.sh (.int ((mx * mx + 69621 * mx + 1201 * C) % 2147483629))) z) = _ ∧ _
    generalize (mx * mx + 69621 * mx + 1201 * C) % 2147483629 = my at m2
    have m3 := mod_lt (i := b + my) (j := 2147483629) (by decide)
    exact ⟨a, (b + my) % 2147483629, C, .sh (.int cell), .sh (.int my), wr1 (op2 (op1 (op2s rd1 rfl rfl) rfl) con_ok (modD_int (by decide))), ⟨h.a0, m3.1, by omega, hC0.1, hC0.2, h.rl, h.ri⟩⟩
theorem takeA_ok (h : PotOk a b c r) (hm : 0 < m) (hm2 : m < 2 ^ 64) : ∃ a' b' c' v x' y' z', takeA (stP a b c r m x y z) = .ok (.rt (.sh (.int v))) (stP a' b' c' r m x' y' z') ∧ PotOk a' b' c' r ∧ 0 ≤ v ∧ v < m := by
  obtain ⟨a1, b1, c1, x1, y1, e, h1⟩ := takeA1 (m := m) (x := x) (y := y) (z := z) h
  unfold takeA
  rw [seq_nx e]
  by_cases h2 : 0 < a1
  · have g := mod_lt (i := a1) hm
    refine ⟨a1 / m, b1, c1, a1 % m, x1, y1, .sh (.int (a1 % m)), ?_, ⟨Int.ediv_nonneg h1.a0 (Int.le_of_lt hm), h1.b0, h1.b1, h1.c0, h1.c1, h1.rl, h1.ri⟩, g.1, g.2⟩
    rw [seq_rt (S' := stP (a1 / m) b1 c1 r m x1 y1 (.sh (.int (a1 % m)))) (r := .sh (.int (a1 % m))) ?_]
    rw [ite_t (S' := stP a1 b1 c1 r m x1 y1 z) (asT_ok (op2 rd0 con_ok (by rw [gt_int, decide_eq_true h2])))]
    rw [seq_nx (asg_ok (op2s (op1 rd0 rfl) rfl (modD_int hm)))]
    show seqM _ _ (stP a1 b1 c1 r m x1 y1 (.sh (.int (a1 % m)))) = _
    rw [seq_nx (wr0 (op2s rd0 rfl (fdivD_int hm hm2)))]
    exact ret_ok rfl
  · have q1 := mod_lt (i := b1 * 39373 + 45991 * c1 + 19) (j := 2147483647) (by decide)
    have h0 := h1.b0
    have h1' := h1.b1
    have hc := h1.c0
    have hc1 := h1.c1
    rw [seq_nx (S' := stP a1 b1 c1 r m x1 y1 z) (by
      rw [ite_f (asT_ok (op2 rd0 con_ok (by rw [gt_int, decide_eq_false h2])))]
      rfl)]
    rw [seq_nx (wr1 (op2 (op1 (op2 (op2 (op2 rd1 con_ok (mulD_int (by omega) (by decide))) (op2 con_ok rd2 (mulD_int (by decide) (by omega))) rfl) con_ok rfl) rfl) con_ok (modD_int (by decide))))]
    generalize (b1 * 39373 + 45991 * c1 + 19) % 2147483647 = b2 at q1
    have q2 := mod_lt (i := b2 * b2 + 11) (j := 2147483629) (by decide)
    rw [seq_nx (wr1 (op2 (op1 (op2 (op2 rd1 rd1 (mulD_int (by omega) (by omega))) con_ok rfl) rfl) con_ok (modD_int (by decide))))]
    generalize (b2 * b2 + 11) % 2147483629 = b3 at q2
    have g := mod_lt (i := b3 / 8) hm
    refine ⟨a1, b3, c1, b3 / 8 % m, x1, y1, z, ?_, ⟨h1.a0, q2.1, by omega, hc, hc1, h1.rl, h1.ri⟩, g.1, g.2⟩
    exact ret_ok (op2s (op1 (op2 rd1 con_ok (fdivD_int (by decide) (by decide))) rfl) rfl (modD_int hm))
/-- the draw called: the pot in slot i -/
theorem takeA_call {S : List SV} {i : Nat} {s : SV} {f : M SV} (hi : S[i]? = some s) (ho : s.own? = some (.l (.int a :: .int b :: .int c :: r))) (hf : f S = .ok (.sh (.int m)) S) (h : PotOk a b c r) (hm : 0 < m) (hm2 : m < 2 ^ 64) : ∃ a' b' c' v, callM (runDef 2 3 takeA) [.pk i, .ex f] S = .ok (.sh (.int v)) (S.set i (s.put (.l (.int a' :: .int b' :: .int c' :: r)))) ∧ PotOk a' b' c' r ∧ 0 ≤ v ∧ v < m := by
  obtain ⟨a', b', c', v, x', y', z', e, h'⟩ := takeA_ok (x := .un) (y := .un) (z := .un) h hm hm2
  refine ⟨a', b', c', v, ?_, h'⟩
  have eF : runDef 2 3 takeA [.bo 0 (.l (.int a :: .int b :: .int c :: r)), .sh (.int m)] = .ok (.sh (.int v)) [.bo 0 (.l (.int a' :: .int b' :: .int c' :: r)), .un] := by
    show (match takeA (stP a b c r m .un .un .un) with
      | .ok (.rt r) S' => (match finA _ S' with
        | some A' => Res.ok r A'
        | none => .stuck)
      | .ok .nx S' => (match finA _ S' with
        | some A' => .ok (.sh .non) A'
        | none => .stuck)
      | .exc c d S' => (match finA _ S' with
        | some A' => .exc c d A'
        | none => .stuck)
      | _ => .stuck) = _
    rw [e]
    rfl
  have hdat : s.dat? = some (.lst (.int a :: .int b :: .int c :: r)) := by
    cases s <;> first | (cases ho; done) | (cases ho; rfl)
  have e1 : runAs [.pk i, .ex f] S = .ok [.s i, .v (.sh (.int m))] S := by
    unfold runAs
    rw [hi]
    show (match s.dat? with
      | some _ => (runAs [.ex f] S).bind fun as S2 => Res.ok (AV.s i :: as) S2
      | none => .stuck) = _
    rw [hdat]
    show ((runAs [.ex f] S).bind _) = _
    unfold runAs
    rw [hf]
    rfl
  unfold callM
  rw [e1]
  show (match mkA S [AV.res S (.s i), .v (.sh (.int m))] with
    | none => Res.stuck
    | some (A, b) => _) = _
  have e2 : AV.res S (.s i) = .s i := by
    show (match S[i]? with
      | some (.sh d) => AV.v (.sh d)
      | _ => .s i) = _
    rw [hi]
    cases s <;> first | (cases ho; done) | rfl
  have e3 : mkA S [.s i, .v (.sh (.int m))] = some ([.bo 0 (.l (.int a :: .int b :: .int c :: r)), .sh (.int m)], some (0, i)) := by
    unfold mkA
    rw [hi]
    show (match s.own?, mkA S [.v (.sh (.int m))] with
      | some o, some (A, none) => some (SV.bo 0 o :: A, some (0, i))
      | _, _ => none) = _
    rw [ho]
    rfl
  rw [e2, e3]
  show (match runDef 2 3 takeA [.bo 0 (.l (.int a :: .int b :: .int c :: r)), .sh (.int m)] with
    | .ok r A' => (match backA (some (0, i)) A' S with
      | some S2 => Res.ok r.unt S2
      | none => .stuck)
    | .exc c d A' => (match backA (some (0, i)) A' S with
      | some S2 => .exc c d S2
      | none => .stuck)
    | .stuck => .stuck) = _
  rw [eF]
  have e4 : backA (some (0, i)) [.bo 0 (.l (.int a' :: .int b' :: .int c' :: r)), .un] S = some (S.set i (s.put (.l (.int a' :: .int b' :: .int c' :: r)))) := by
    simp [backA, hi]
  show (match backA (some (0, i)) [.bo 0 (.l (.int a' :: .int b' :: .int c' :: r)), .un] S with
      | some S2 => Res.ok (SV.sh (D.int v)) S2
      | none => Res.stuck) = _
  rw [e4]
end
end Ev
end

section
set_option Elab.async false
set_option linter.all false
set_option maxRecDepth 100000
set_option maxHeartbeats 4000000
/-! Ev, part 34: comprehensions, loops, in plain Lean; _law_same of equal things. -/
namespace Ev
open PySem PySem.Spec PyProof.Rows L2
theorem put_nm (i : Nat) (d : D) (S : List SV) : Tg.put (.nm i) d S = some (S.set i (.sh d)) := by
  unfold Tg.put
  rfl
theorem runDef_rt {np n : Nat} {b : MS} {A S' A' : List SV} {r : SV} (hl : A.length = np) (h : b (A ++ List.replicate n .un) = .ok (.rt r) S') (hf : finA A S' = some A') : runDef np n b A = .ok r A' := by
  unfold runDef
  rw [if_pos hl]
  unfold runDef.runBody
  rw [h]
  show (match finA A S' with
    | some A' => Res.ok r A'
    | none => .stuck) = _
  rw [hf]
theorem runDef_nx {np n : Nat} {b : MS} {A S' A' : List SV} (hl : A.length = np) (h : b (A ++ List.replicate n .un) = .ok .nx S') (hf : finA A S' = some A') : runDef np n b A = .ok (.sh .non) A' := by
  unfold runDef
  rw [if_pos hl]
  unfold runDef.runBody
  rw [h]
  show (match finA A S' with
    | some A' => Res.ok (SV.sh .non) A'
    | none => .stuck) = _
  rw [hf]
theorem op1v {g : List D → Option SV} {f : M SV} {S S' : List SV} {r v : SV} {i : D} (h : f S = .ok r S') (hd : r.dat? = some i) (e : g [i] = some v) : opM g [.ex f] S = .ok v S' := by
  have e0 : opM g [.ex f] S = ((f S).bind fun a S1 => (runAs [] S1).bind fun as S2 => Res.ok (AV.v a :: as) S2).bind fun as S' => match datL S' as with
    | some ds => (match g ds with
      | some r => Res.ok r S'
      | none => .stuck)
    | none => .stuck := rfl
  rw [e0, h]
  show (match (match r.dat?, datL S' [] with
    | some d, some ds => some (d :: ds)
    | _, _ => none) with
    | some ds => (match g ds with
      | some r => Res.ok r S'
      | none => .stuck)
    | none => .stuck) = _
  rw [hd]
  show (match g [i] with
    | some r => Res.ok r S'
    | none => .stuck) = _
  rw [e]
theorem op2v {g : List D → Option SV} {f f' : M SV} {S S' S'' : List SV} {r r' v : SV} {i j : D} (h : f S = .ok r S') (h' : f' S' = .ok r' S'') (hd : r.dat? = some i) (hd' : r'.dat? = some j) (e : g [i, j] = some v) : opM g [.ex f, .ex f'] S = .ok v S'' := by
  have e0 : opM g [.ex f, .ex f'] S = ((f S).bind fun a S1 => ((f' S1).bind fun a' S2 => (runAs [] S2).bind fun as S3 => Res.ok (AV.v a' :: as) S3).bind fun as S2 => Res.ok (AV.v a :: as) S2).bind fun as S' => match datL S' as with
    | some ds => (match g ds with
      | some r => Res.ok r S'
      | none => .stuck)
    | none => .stuck := rfl
  rw [e0, h]
  show (((f' S').bind fun a' S2 => (runAs [] S2).bind fun as S3 => Res.ok (AV.v a' :: as) S3).bind fun as S2 => Res.ok (AV.v r :: as) S2).bind _ = _
  rw [h']
  show (match (match r.dat?, (match r'.dat?, datL S'' [] with
    | some d, some ds => some (d :: ds)
    | _, _ => none) with
    | some d, some ds => some (d :: ds)
    | _, _ => none) with
    | some ds => (match g ds with
      | some r => Res.ok r S''
      | none => .stuck)
    | none => .stuck) = _
  rw [hd, hd']
  show (match g [i, j] with
    | some r => Res.ok r S''
    | none => .stuck) = _
  rw [e]
theorem wRng1 {f : M SV} {S S' : List SV} {j : Nat} (h : f S = .ok (.sh (.int (j : Int))) S') (hj : j ≤ 1000000) : wRng [.ex f] S = .ok ⟨rngItems 0 j, []⟩ S' := by
  have e0 : wRng [.ex f] S = ((f S).bind fun a S1 => (runAs [] S1).bind fun as S2 => Res.ok (AV.v a :: as) S2).bind fun as S' => match datL S' as with
    | some ds => (match rngOf ds with
      | some (lo, n) => Res.ok (⟨rngItems lo n, []⟩ : Walk) S'
      | none => .stuck)
    | none => .stuck := rfl
  have e7 : inR (j : Int) = true := by
    unfold inR
    rw [Bool.and_eq_true]
    exact ⟨decide_eq_true (by omega), decide_eq_true (by omega)⟩
  have e8 : rngOf [.int (j : Int)] = some (0, j) := by
    show (if inR (j : Int) = true then some ((0 : Int), ((j : Int)).toNat) else none) = _
    rw [if_pos e7, Int.toNat_natCast]
  have key : ∀ R : List D → Option (Int × Nat), R [.int (j : Int)] = some (0, j) → (((f S).bind fun a S1 => (runAs [] S1).bind fun as S2 => Res.ok (AV.v a :: as) S2).bind fun as S' => match datL S' as with
    | some ds => (match R ds with
      | some (lo, n) => Res.ok (⟨rngItems lo n, []⟩ : Walk) S'
      | none => .stuck)
    | none => .stuck) = .ok ⟨rngItems 0 j, []⟩ S' := fun R hR => by
    rw [h]
    show (match R [.int (j : Int)] with
      | some (lo, n) => Res.ok (⟨rngItems lo n, []⟩ : Walk) S'
      | none => Res.stuck) = _
    rw [hR]
  exact e0.trans (key rngOf e8)
/-- a comprehension over one name, no test, of a loop that leaves the state alone but for that name -/
theorem lcL_pure {i : Nat} {f : M SV} {S0 : List SV} {r : D → D} : ∀ {ds : List D}, (∀ d ∈ ds, ∃ v S', f (S0.set i (.sh d)) = .ok v S' ∧ v.shd = some (r d) ∧ S'.set i .un = S0.set i .un) →
    lcL [i] (.nm i) yesT f ds (S0.set i .un) = .ok (ds.map r) (S0.set i .un)
  | [], _ => rfl
  | d :: ds, h => by
    obtain ⟨v, S', e1, e2, e3⟩ := h d List.mem_cons_self
    have ih := lcL_pure (r := r) fun d' hd => h d' (List.mem_cons_of_mem _ hd)
    have e0 : (S0.set i .un).set i (.sh d) = S0.set i (.sh d) := List.set_set ..
    have e5 : lcL [i] (.nm i) yesT f (d :: ds) (S0.set i .un) = (noexc (f ((S0.set i .un).set i (.sh d)))).bind fun r S3 => (match r.shd with
        | some y => (lcL [i] (.nm i) yesT f ds (wipeS S3 [i])).bind fun ys S4 => .ok (y :: ys) S4
        | none => .stuck) := by
      show (match Tg.put (.nm i) d (S0.set i .un) with
        | none => Res.stuck
        | some S1 => (noexc (yesT S1)).bind fun b S2 => if b = true then (noexc (f S2)).bind fun r S3 => (match r.shd with
            | some y => (lcL [i] (.nm i) yesT f ds (wipeS S3 [i])).bind fun ys S4 => .ok (y :: ys) S4
            | none => .stuck)
          else lcL [i] (.nm i) yesT f ds (wipeS S2 [i])) = _
      rw [put_nm]
      rfl
    rw [e5, e0, e1]
    show (match v.shd with
      | some y => (lcL [i] (.nm i) yesT f ds (S'.set i .un)).bind fun ys S4 => .ok (y :: ys) S4
      | none => Res.stuck) = _
    rw [e2, e3]
    show (lcL [i] (.nm i) yesT f ds (S0.set i .un)).bind (fun ys S4 => Res.ok (r d :: ys) S4) = _
    rw [ih]
    rfl
theorem lcM_pure {i : Nat} {src : M Walk} {f : M SV} {S S0 : List SV} {wk : Walk} {r : D → D} (hs : src S = .ok wk S0) (hz : wk.items.length ≤ sizeLine) (hi : S0.set i (S0.getD i .un) = S0) (h : ∀ d ∈ wk.items, ∃ v S', f (S0.set i (.sh d)) = .ok v S' ∧ v.shd = some (r d) ∧ S'.set i .un = S0.set i .un) :
    lcM src (.nm i) yesT f S = .ok (.ow (.l (wk.items.map r))) S0 := by
  unfold lcM
  rw [hs]
  show (if wk.items.length ≤ sizeLine then _ else _) = _
  rw [if_pos hz]
  show (lcL [i] (.nm i) yesT f wk.items (S0.set i .un)).bind _ = _
  rw [lcL_pure h]
  show Res.ok _ (((S0.set i .un)).set i (S0.getD i .un)) = _
  rw [List.set_set, hi]
theorem and_t {f g : M SV} {S S' : List SV} (h : f S = .ok (.sh (.bl true)) S') : andM f g S = g S' := by
  unfold andM
  rw [h]
  rfl
theorem orT_f {f g : M Bool} {S S' : List SV} (h : f S = .ok false S') : orT f g S = g S' := by
  unfold orT
  rw [h]
  rfl
theorem orT_t {f g : M Bool} {S S' : List SV} (h : f S = .ok true S') : orT f g S = .ok true S' := by
  unfold orT
  rw [h]
  rfl
theorem notT_ok {f : M Bool} {S S' : List SV} {b : Bool} (h : f S = .ok b S') : notT f S = .ok (!b) S' := by
  unfold notT
  rw [h]
  rfl
theorem expr_ok {f : M SV} {S S' : List SV} {v : SV} (h : f S = .ok v S') : exprM f S = .ok .nx S' := by
  unfold exprM
  rw [h]
  rfl
/-! ### the law's own equality, of equal data -/
/-- plain data, n deep at most, short -/
def flat : Nat → D → Bool
  | _, .non => true
  | _, .bl _ => true
  | _, .int _ => true
  | _, .str x => SeqAt.shaped (.str x)
  | n + 1, .tup ds => decide (ds.length ≤ 1000) && ds.all (flat n)
  | n + 1, .lst ds => decide (ds.length ≤ 1000) && ds.all (flat n)
  | _, _ => false
def sameA (G : Fn) : MS := (seqM (iteM (asT (opM (isD false) [.pk 1, .ex (conM .non)])) (retM (opM (isD false) [.pk 0, .ex (conM .non)])) skipM)
  (seqM (iteM (asT (isiM ["bool", "str"] (.pk 1))) (retM (andM (opM (eqD false) [.ex (isiM ["bool"] (.pk 0)), .ex (isiM ["bool"] (.pk 1))]) (andM (isiM ["bool", "str"] (.pk 0)) (opM (eqD false) [.pk 0, .pk 1])))) skipM)
  (seqM (iteM (asT (isiM ["int"] (.pk 1))) (retM (andM (isiM ["int"] (.pk 0)) (andM (notM (isiM ["bool"] (.pk 0))) (opM (eqD false) [.pk 0, .pk 1])))) skipM)
  (seqM (iteM (orT (asT (opM (eqD true) [.ex (isiM ["list"] (.pk 1)), .ex (isiM ["list"] (.pk 0))])) (asT (opM (eqD true) [.ex (isiM ["tuple"] (.pk 1)), .ex (isiM ["tuple"] (.pk 0))]))) (retM (conM (.bl false))) skipM)
  (retM (andM (opM (eqD false) [.ex (opM lenD [.pk 0]), .ex (opM lenD [.pk 1])]) (opM allD [.ex (lcM (wRng [.ex (opM lenD [.pk 1])]) (.nm 2) yesT (callM G [.ex (opM ixD [.pk 0, .pk 2]), .ex (opM ixD [.pk 1, .pk 2])]))])))))))
def runSame (G : Nat → Fn) : Prop := ∀ n, G (n + 1) = runDef 2 1 (sameA (G n))
theorem eqD_refl {d : D} (p : PyData) (hp : d.py = some p) (hs : SeqAt.shaped p = true) (he : PyData.eqv p p = true) : eqD false [d, d] = some (.sh (.bl true)) := by
  have h : shp d = some p := by
    unfold shp
    rw [hp]
    exact if_pos hs
  show (match shp d, shp d with
      | some p, some q => some (SV.sh (D.bl (if false = true then !p.eqv q else p.eqv q)))
      | _, _ => none) = _
  rw [h]
  show some (SV.sh (D.bl (p.eqv p))) = _
  rw [he]
theorem eqD_strR {x : Str} (h : SeqAt.shaped (.str x) = true) : eqD false [.str x, .str x] = some (.sh (.bl true)) := eqD_refl (.str x) rfl h (by show (x == x) = true; simp)
theorem eqD_intR (i : Int) : eqD false [.int i, .int i] = some (.sh (.bl true)) := by rw [eqD_int, decide_eq_true rfl]
theorem allD_true : ∀ n : Nat, blsD (List.replicate n (.bl true)) = some (List.replicate n true)
  | 0 => rfl
  | n + 1 => by
    rw [List.replicate_succ, List.replicate_succ]
    show (blsD (List.replicate n (.bl true))).map _ = _
    rw [allD_true n]
    rfl
section
variable {G : Nat → Fn}
theorem same_atom (hG : runSame G) (n : Nat) (d : D) (h : d = .non ∨ (∃ b, d = .bl b) ∨ (∃ i, d = .int i) ∨ ∃ x, d = .str x ∧ SeqAt.shaped (.str x) = true) : G (n + 1) [.sh d, .sh d] = .ok (.sh (.bl true)) [.un, .un] := by
  rw [hG n]
  rcases h with rfl | ⟨b, rfl⟩ | ⟨i, rfl⟩ | ⟨x, rfl, hx⟩
  · rfl
  · cases b <;> rfl
  · have e : sameA (G n) [.sh (.int i), .sh (.int i), .un] = .ok (.rt (.sh (.bl true))) [.sh (.int i), .sh (.int i), .un] := by
      unfold sameA
      refine Eq.trans (seq_nx (S' := [.sh (.int i), .sh (.int i), .un]) ?h1) ?_
      case h1 => rfl
      refine Eq.trans (seq_nx (S' := [.sh (.int i), .sh (.int i), .un]) ?h1) ?_
      case h1 => rfl
      refine seq_rt ?_
      refine Eq.trans (ite_t (S' := [.sh (.int i), .sh (.int i), .un]) ?h1) ?_
      case h1 => rfl
      refine ret_ok ?_
      refine Eq.trans (and_t (S' := [.sh (.int i), .sh (.int i), .un]) ?h1) ?_
      case h1 => rfl
      refine Eq.trans (and_t (S' := [.sh (.int i), .sh (.int i), .un]) ?h1) ?_
      case h1 => rfl
      exact op2b (i := .int i) (j := .int i) rfl rfl (eqD_intR i)
    exact runDef_rt rfl e rfl
  · have e : sameA (G n) [.sh (.str x), .sh (.str x), .un] = .ok (.rt (.sh (.bl true))) [.sh (.str x), .sh (.str x), .un] := by
      unfold sameA
      refine Eq.trans (seq_nx (S' := [.sh (.str x), .sh (.str x), .un]) ?h1) ?_
      case h1 => rfl
      refine seq_rt ?_
      refine Eq.trans (ite_t (S' := [.sh (.str x), .sh (.str x), .un]) ?h1) ?_
      case h1 => rfl
      refine ret_ok ?_
      refine Eq.trans (and_t (S' := [.sh (.str x), .sh (.str x), .un]) ?h1) ?_
      case h1 => rfl
      refine Eq.trans (and_t (S' := [.sh (.str x), .sh (.str x), .un]) ?h1) ?_
      case h1 => rfl
      exact op2b (i := .str x) (j := .str x) rfl rfl (eqD_strR hx)
    exact runDef_rt rfl e rfl
/-- the part behind the looks at the kinds -/
theorem same_seq (n : Nat) (q : D) (ds : List D) (hq : q = .tup ds ∨ q = .lst ds) (hl : ds.length ≤ 1000) (h : ∀ d ∈ ds, G n [.sh d, .sh d] = .ok (.sh (.bl true)) [.un, .un]) (hG : runSame G) : G (n + 1) [.sh q, .sh q] = .ok (.sh (.bl true)) [.un, .un] := by
  have len : lenD [q] = some (.sh (.int ds.length)) := by rcases hq with rfl | rfl <;> rfl
  have e1 : ∀ S : List SV, S[0]?.bind SV.dat? = some q → opM lenD [.pk 0] S = .ok (.sh (.int ds.length)) S := fun S hS => op1s hS len
  have e2 : ∀ S : List SV, S[1]?.bind SV.dat? = some q → opM lenD [.pk 1] S = .ok (.sh (.int ds.length)) S := fun S hS => op1s hS len
  have ix : ∀ k : Nat, k < ds.length → ∃ d, ds[k]? = some d ∧ d ∈ ds ∧ ixD [q, .int (k : Int)] = some (.sh d) := fun k hk => by
    refine ⟨ds[k], List.getElem?_eq_getElem hk, List.getElem_mem hk, ?_⟩
    rcases hq with rfl | rfl
    · show (L2.atI ds (k : Int)).map SV.sh = _
      unfold L2.atI
      rw [ixN_lt hk]
      show (ds[k]?).map SV.sh = _
      rw [List.getElem?_eq_getElem hk]
      rfl
    · rw [ixD_nat, List.getElem?_eq_getElem hk]
      rfl
  have lc : lcM (wRng [.ex (opM lenD [.pk 1])]) (.nm 2) yesT (callM (G n) [.ex (opM ixD [.pk 0, .pk 2]), .ex (opM ixD [.pk 1, .pk 2])]) [.sh q, .sh q, .un] = .ok (.ow (.l ((rngItems 0 ds.length).map fun _ => D.bl true))) [.sh q, .sh q, .un] := by
    refine lcM_pure (wk := ⟨rngItems 0 ds.length, []⟩) ?_ ?_ rfl fun d hd => ?_
    · exact wRng1 (e2 _ rfl) (by omega)
    · show (rngItems 0 ds.length).length ≤ sizeLine
      unfold rngItems
      rw [List.length_map, List.length_range, sizeLine_eq]
      omega
    · have hd : d ∈ rngItems 0 ds.length := hd
      unfold rngItems at hd
      obtain ⟨k, hk, rfl⟩ := List.mem_map.mp hd
      have hk := List.mem_range.mp hk
      obtain ⟨d, _, hm, hx⟩ := ix k hk
      refine ⟨.sh (.bl true), [.sh q, .sh q, .sh (.int (0 + (k : Int)))], ?_, rfl, rfl⟩
      have hx' : ixD [q, .int (0 + (k : Int))] = some (.sh d) := by rw [Int.zero_add]; exact hx
      show callM (G n) [.ex (opM ixD [.pk 0, .pk 2]), .ex (opM ixD [.pk 1, .pk 2])] [.sh q, .sh q, .sh (.int (0 + (k : Int)))] = _
      have a1 : opM ixD [.pk 0, .pk 2] [.sh q, .sh q, .sh (.int (0 + (k : Int)))] = .ok (.sh d) [.sh q, .sh q, .sh (.int (0 + (k : Int)))] := op2b rfl rfl hx'
      have a2 : opM ixD [.pk 1, .pk 2] [.sh q, .sh q, .sh (.int (0 + (k : Int)))] = .ok (.sh d) [.sh q, .sh q, .sh (.int (0 + (k : Int)))] := op2b rfl rfl hx'
      have e : runAs [.ex (opM ixD [.pk 0, .pk 2]), .ex (opM ixD [.pk 1, .pk 2])] [.sh q, .sh q, .sh (.int (0 + (k : Int)))] = .ok [.v (.sh d), .v (.sh d)] [.sh q, .sh q, .sh (.int (0 + (k : Int)))] := by
        unfold runAs
        rw [a1]
        show ((runAs [.ex (opM ixD [.pk 1, .pk 2])] _).bind _) = _
        unfold runAs
        rw [a2]
        rfl
      unfold callM
      rw [e]
      show (match G n [.sh d, .sh d] with
        | .ok r A' => Res.ok r.unt _
        | .exc c d A' => _
        | .stuck => _) = _
      rw [h d hm]
      rfl
  have fin : retM (andM (opM (eqD false) [.ex (opM lenD [.pk 0]), .ex (opM lenD [.pk 1])]) (opM allD [.ex (lcM (wRng [.ex (opM lenD [.pk 1])]) (.nm 2) yesT (callM (G n) [.ex (opM ixD [.pk 0, .pk 2]), .ex (opM ixD [.pk 1, .pk 2])]))])) [.sh q, .sh q, .un] = .ok (.rt (.sh (.bl true))) [.sh q, .sh q, .un] := by
    refine ret_ok ?_
    rw [and_t (op2 (e1 _ rfl) (e2 _ rfl) (eqD_intR _))]
    have e3 : (rngItems 0 ds.length).map (fun _ => D.bl true) = List.replicate ds.length (.bl true) := by
      unfold rngItems
      rw [List.map_map]
      exact List.map_const' .. |>.trans (by rw [List.length_range])
    refine op1v lc rfl ?_
    rw [e3]
    show (blsD (List.replicate ds.length (.bl true))).map (fun ns => SV.sh (.bl (ns.all id))) = _
    rw [allD_true]
    show some (SV.sh (.bl ((List.replicate ds.length true).all id))) = _
    have e4 : (List.replicate ds.length true).all id = true := by simp
    rw [e4]
  rw [hG n]
  have e : sameA (G n) [.sh q, .sh q, .un] = .ok (.rt (.sh (.bl true))) [.sh q, .sh q, .un] := by
    unfold sameA
    rcases hq with rfl | rfl
    · refine Eq.trans (seq_nx (S' := [.sh (.tup ds), .sh (.tup ds), .un]) ?h1) ?_
      case h1 => rfl
      refine Eq.trans (seq_nx (S' := [.sh (.tup ds), .sh (.tup ds), .un]) ?h1) ?_
      case h1 => rfl
      refine Eq.trans (seq_nx (S' := [.sh (.tup ds), .sh (.tup ds), .un]) ?h1) ?_
      case h1 => rfl
      refine Eq.trans (seq_nx (S' := [.sh (.tup ds), .sh (.tup ds), .un]) ?h1) ?_
      case h1 => rfl
      exact fin
    · refine Eq.trans (seq_nx (S' := [.sh (.lst ds), .sh (.lst ds), .un]) ?h1) ?_
      case h1 => rfl
      refine Eq.trans (seq_nx (S' := [.sh (.lst ds), .sh (.lst ds), .un]) ?h1) ?_
      case h1 => rfl
      refine Eq.trans (seq_nx (S' := [.sh (.lst ds), .sh (.lst ds), .un]) ?h1) ?_
      case h1 => rfl
      refine Eq.trans (seq_nx (S' := [.sh (.lst ds), .sh (.lst ds), .un]) ?h1) ?_
      case h1 => rfl
      exact fin
  exact runDef_rt rfl e rfl
theorem same_refl (hG : runSame G) : ∀ (n : Nat) (d : D), flat n d = true → G (n + 1) [.sh d, .sh d] = .ok (.sh (.bl true)) [.un, .un]
  | n, .non, _ => same_atom hG n _ (.inl rfl)
  | n, .bl b, _ => same_atom hG n _ (.inr (.inl ⟨b, rfl⟩))
  | n, .int i, _ => same_atom hG n _ (.inr (.inr (.inl ⟨i, rfl⟩)))
  | n, .str x, h => same_atom hG n _ (.inr (.inr (.inr ⟨x, rfl, by cases n <;> exact h⟩)))
  | 0, .tup _, h => by cases h
  | 0, .lst _, h => by cases h
  | n + 1, .tup ds, h => by
    have h : (decide (ds.length ≤ 1000) && ds.all (flat n)) = true := h
    rw [Bool.and_eq_true] at h
    exact same_seq (n + 1) _ ds (.inl rfl) (of_decide_eq_true h.1) (fun d hd => same_refl hG n d (List.all_eq_true.mp h.2 d hd)) hG
  | n + 1, .lst ds, h => by
    have h : (decide (ds.length ≤ 1000) && ds.all (flat n)) = true := h
    rw [Bool.and_eq_true] at h
    exact same_seq (n + 1) _ ds (.inr rfl) (of_decide_eq_true h.1) (fun d hd => same_refl hG n d (List.all_eq_true.mp h.2 d hd)) hG
  | n, .dic _ _, h => by cases n <;> cases h
  | n, .rng _ _, h => by cases n <;> cases h
  | n, .exn _ _, h => by cases n <;> cases h
  | n, .prs _, h => by cases n <;> cases h
end
end Ev
end

section
set_option Elab.async false
set_option linter.all false
set_option maxRecDepth 100000
set_option maxHeartbeats 4000000
/-! Ev, part 35: more plain laws: data equal to itself, sorted lists, calls, lists built. -/
namespace Ev
open PySem PySem.Spec PyProof.Rows L2
/-! ### data equal to itself -/
mutual
theorem eqv_self : ∀ {d : D} {p : PyData}, d.py = some p → PyData.eqv p p = true
  | .non, _, h => by cases h; rfl
  | .bl b, _, h => by cases h; show (b == b) = true; simp
  | .int b, _, h => by cases h; show (b == b) = true; simp
  | .str b, _, h => by cases h; show (b == b) = true; simp
  | .tup ds, p, h => by
    have h : (D.pys ds).map PyData.tuple = some p := h
    cases e : D.pys ds with
    | none => rw [e] at h; cases h
    | some ps =>
      rw [e] at h
      cases h
      exact eqvs_self e
  | .lst ds, p, h => by
    have h : (D.pys ds).map PyData.list = some p := h
    cases e : D.pys ds with
    | none => rw [e] at h; cases h
    | some ps =>
      rw [e] at h
      cases h
      exact eqvs_self e
  | .dic _ _, _, h => by cases h
  | .rng _ _, _, h => by cases h
  | .exn _ _, _, h => by cases h
  | .prs _, _, h => by cases h
theorem eqvs_self : ∀ {ds : List D} {ps : List PyData}, D.pys ds = some ps → PyData.eqvAll ps ps = true
  | [], _, h => by cases h; rfl
  | d :: ds, ps, h => by
    have h : (match D.py d, D.pys ds with
      | some p, some ps => some (p :: ps)
      | _, _ => none) = some ps := h
    cases e1 : D.py d with
    | none => rw [e1] at h; cases h
    | some p =>
      cases e2 : D.pys ds with
      | none => rw [e1, e2] at h; cases h
      | some qs =>
        rw [e1, e2] at h
        cases h
        show (PyData.eqv p p && PyData.eqvAll qs qs) = true
        rw [eqv_self e1, eqvs_self e2]
        rfl
end
theorem eqD_self {d : D} {p : PyData} (h : d.py = some p) (hs : SeqAt.shaped p = true) : eqD false [d, d] = some (.sh (.bl true)) := eqD_refl p h hs (eqv_self h)
theorem neD_self {d : D} {p : PyData} (h : d.py = some p) (hs : SeqAt.shaped p = true) : eqD true [d, d] = some (.sh (.bl false)) := by
  have h' : shp d = some p := by
    unfold shp
    rw [h]
    exact if_pos hs
  show (match shp d, shp d with
      | some p, some q => some (SV.sh (D.bl (if true = true then !p.eqv q else p.eqv q)))
      | _, _ => none) = _
  rw [h']
  show some (SV.sh (D.bl (!p.eqv p))) = _
  rw [eqv_self h]
  rfl
theorem pys_map {α : Type} {f : α → D} {g : α → PyData} : ∀ {l : List α}, (∀ x ∈ l, (f x).py = some (g x)) → D.pys (l.map f) = some (l.map g)
  | [], _ => rfl
  | x :: l, h => by
    show (match D.py (f x), D.pys (l.map f) with
      | some p, some ps => some (p :: ps)
      | _, _ => none) = _
    rw [h x List.mem_cons_self, pys_map fun y hy => h y (List.mem_cons_of_mem _ hy)]
    rfl
theorem lay_all : ∀ {ps : List PyData} {n : Nat}, (∀ p ∈ ps, p.canLay0 = true ∧ p.depth ≤ n) → PyData.canLayAll0 ps = true ∧ PyData.depthAll ps ≤ n
  | [], n, _ => ⟨by rfl, by show 0 ≤ n; omega⟩
  | p :: ps, n, h => by
    obtain ⟨h1, h2⟩ := h p List.mem_cons_self
    obtain ⟨h3, h4⟩ := lay_all fun q hq => h q (List.mem_cons_of_mem _ hq)
    refine ⟨?_, ?_⟩
    · show (p.canLay0 && PyData.canLayAll0 ps) = true
      rw [h1, h3]
      rfl
    · show max p.depth (PyData.depthAll ps) ≤ n
      omega
theorem shaped_list {ps : List PyData} {n : Nat} (h : ∀ p ∈ ps, p.canLay0 = true ∧ p.depth ≤ n) (hn : n ≤ 60) : SeqAt.shaped (.list ps) = true ∧ SeqAt.shaped (.tuple ps) = true := by
  obtain ⟨h1, h2⟩ := lay_all h
  have e : (PyData.canLayAll0 ps && decide (PyData.depthAll ps + 1 ≤ 64)) = true := by
    rw [h1, decide_eq_true (by omega)]
    rfl
  exact ⟨e, e⟩
theorem lay_of_shaped {p : PyData} (h : SeqAt.shaped p = true) : p.canLay0 = true := SeqAt.canLay_of_shaped h
/-! ### sorted lists -/
theorem leD_trans (a b c : D) (h : leD a b = true) (h' : leD b c = true) : leD a c = true := dle_trans _ a b c h h'
theorem leD_total (a b : D) : (leD a b || leD b a) = true := dle_total _ a b
section
variable {α β : Type} {le : α → α → Bool}
theorem insB_map {le : β → β → Bool} {f : α → β} (a : α) : ∀ l : List α, insB le (f a) (l.map f) = (insB (fun x y => le (f x) (f y)) a l).map f
  | [] => rfl
  | b :: l => by
    show (if le (f a) (f b) = true then f a :: f b :: l.map f else f b :: insB le (f a) (l.map f)) = (if le (f a) (f b) = true then a :: b :: l else b :: insB _ a l).map f
    rw [insB_map a l]
    split <;> rfl
theorem isrt_map {le : β → β → Bool} {f : α → β} : ∀ l : List α, isrt le (l.map f) = (isrt (fun x y => le (f x) (f y)) l).map f
  | [] => rfl
  | a :: l => by
    show insB le (f a) (isrt le (l.map f)) = _
    rw [isrt_map l, insB_map]
    rfl
theorem isrt_pair (tr : ∀ a b c, le a b = true → le b c = true → le a c = true) (to : ∀ a b, (le a b || le b a) = true) (l : List α) : (isrt le l).Pairwise fun a b => le a b = true := by
  rw [← isrt_eq tr to]
  exact List.pairwise_mergeSort tr to l
theorem isrt_sorted (tr : ∀ a b c, le a b = true → le b c = true → le a c = true) (to : ∀ a b, (le a b || le b a) = true) {l : List α} (h : l.Pairwise fun a b => le a b = true) : isrt le l = l := by
  rw [← isrt_eq tr to]
  exact List.mergeSort_of_pairwise h
theorem isrt_idem (tr : ∀ a b c, le a b = true → le b c = true → le a c = true) (to : ∀ a b, (le a b || le b a) = true) (l : List α) : isrt le (isrt le l) = isrt le l := isrt_sorted tr to (isrt_pair tr to l)
theorem isrt_perm (tr : ∀ a b c, le a b = true → le b c = true → le a c = true) (to : ∀ a b, (le a b || le b a) = true) (l : List α) : (isrt le l).Perm l := by
  rw [← isrt_eq tr to]
  exact List.mergeSort_perm l le
end
theorem sortB_atoms {ps : List PyData} (h : (∀ p ∈ ps, ∃ i, p = .int i) ∨ ∀ p ∈ ps, ∃ x, p = .str x) : sortB ps = true := by
  unfold sortB
  have h1 : (ps.all fun d => ps.all fun e => PySem.W.alike d e) = true := by
    rw [List.all_eq_true]
    intro d hd
    rw [List.all_eq_true]
    intro e he
    rcases h with h | h
    · obtain ⟨i, rfl⟩ := h d hd
      obtain ⟨j, rfl⟩ := h e he
      rfl
    · obtain ⟨i, rfl⟩ := h d hd
      obtain ⟨j, rfl⟩ := h e he
      rfl
  have h2 : (ps.all fun d => decide (d.depth ≤ 64)) = true := by
    rw [List.all_eq_true]
    intro d hd
    rcases h with h | h
    · obtain ⟨i, rfl⟩ := h d hd
      rfl
    · obtain ⟨i, rfl⟩ := h d hd
      rfl
  have h3 : (ps.all fun d => match d with | .none => false | .tuple _ => false | _ => true) = true := by
    rw [List.all_eq_true]
    intro d hd
    rcases h with h | h
    · obtain ⟨i, rfl⟩ := h d hd
      rfl
    · obtain ⟨i, rfl⟩ := h d hd
      rfl
  rw [h1, h2, Bool.true_and, Bool.true_and, Bool.or_eq_true]
  exact .inr h3
theorem srtD_ok {q : D} {ds : List D} {ps : List PyData} (hq : q = .tup ds ∨ q = .lst ds) (h : D.pys ds = some ps) (hs : sortB ps = true) : srtD [q] = some (.ow (.l (isrt leD ds))) := by
  have e : ∀ o : Option (List PyData), o = some ps → (match o with
    | some ps => if sortB ps = true then some (SV.ow (.l (isrt leD ds))) else none
    | none => none) = some (.ow (.l (isrt leD ds))) := fun o ho => by
    rw [ho]
    exact if_pos hs
  rcases hq with rfl | rfl
  · exact e (D.pys ds) h
  · exact e (D.pys ds) h
/-! ### calls -/
theorem runAs_ex {f : M SV} {fs : List AF} {S S1 S2 : List SV} {v : SV} {as : List AV} (h : f S = .ok v S1) (h2 : runAs fs S1 = .ok as S2) : runAs (.ex f :: fs) S = .ok (.v v :: as) S2 := by
  have e0 : runAs (.ex f :: fs) S = (f S).bind fun a S1 => (runAs fs S1).bind fun as S2 => Res.ok (AV.v a :: as) S2 := rfl
  rw [e0, h]
  show (runAs fs S1).bind _ = _
  rw [h2]
  rfl
theorem runAs_pk {i : Nat} {fs : List AF} {S S2 : List SV} {d : D} {as : List AV} (h : S[i]?.bind SV.dat? = some d) (h2 : runAs fs S = .ok as S2) : runAs (.pk i :: fs) S = .ok (.s i :: as) S2 := by
  have e0 : runAs (.pk i :: fs) S = match S[i]?.bind SV.dat? with
    | some _ => (runAs fs S).bind fun as S2 => Res.ok (AV.s i :: as) S2
    | none => .stuck := rfl
  rw [e0, h]
  show (runAs fs S).bind _ = _
  rw [h2]
  rfl
theorem runAs_nil {S : List SV} : runAs [] S = .ok [] S := rfl
theorem lst_ok {fs : List AF} {S S' : List SV} {as : List AV} {ds : List D} (h : runAs fs S = .ok as S') (hs : shL S' as = some ds) (hl : ds.length ≤ 1000) : lstM fs S = .ok (.ow (.l ds)) S' := by
  unfold lstM
  rw [h]
  show (match shL S' as with
    | some ds => if ds.length ≤ sizeLine then Res.ok (SV.ow (.l ds)) S' else .stuck
    | none => .stuck) = _
  rw [hs]
  exact if_pos (by rw [sizeLine_eq]; omega)
theorem tup_ok {fs : List AF} {S S' : List SV} {as : List AV} {ds : List D} (h : runAs fs S = .ok as S') (hs : shL S' as = some ds) (hl : ds.length ≤ 1000) : tupM fs S = .ok (.sh (.tup ds)) S' := by
  unfold tupM
  rw [h]
  show (match shL S' as with
    | some ds => if ds.length ≤ sizeLine then Res.ok (SV.sh (.tup ds)) S' else .stuck
    | none => .stuck) = _
  rw [hs]
  exact if_pos (by rw [sizeLine_eq]; omega)
/-- any operation, its arguments run -/
theorem op_ok {g : List D → Option SV} {fs : List AF} {S S' : List SV} {as : List AV} {ds : List D} {v : SV} (h : runAs fs S = .ok as S') (hd : datL S' as = some ds) (e : g ds = some v) : opM g fs S = .ok v S' := by
  unfold opM
  rw [h]
  show (match datL S' as with
    | some ds => (match g ds with
      | some r => Res.ok r S'
      | none => .stuck)
    | none => .stuck) = _
  rw [hd]
  show (match g ds with
      | some r => Res.ok r S'
      | none => .stuck) = _
  rw [e]
/-- any call of a def that borrows nothing -/
theorem call_ok {F : Fn} {fs : List AF} {S S' A A' : List SV} {as : List AV} {r : SV} (h : runAs fs S = .ok as S') (hm : mkA S' (as.map (AV.res S')) = some (A, none)) (hF : F A = .ok r A') : callM F fs S = .ok r.unt S' := by
  unfold callM
  rw [h]
  show (match mkA S' (as.map (AV.res S')) with
    | none => Res.stuck
    | some (A, b) => match F A with
      | .ok r A' => (match backA b A' S' with
        | some S2 => Res.ok r.unt S2
        | none => .stuck)
      | .exc c d A' => (match backA b A' S' with
        | some S2 => Res.exc c d S2
        | none => .stuck)
      | .stuck => .stuck) = _
  rw [hm]
  show (match F A with
      | .ok r A' => Res.ok r.unt S'
      | .exc c d A' => Res.exc c d S'
      | .stuck => .stuck) = _
  rw [hF]
/-- a call that borrows slot i at place k -/
theorem call_bo {F : Fn} {fs : List AF} {S S' A A' : List SV} {as : List AV} {r s : SV} {k i j : Nat} {o : Own} (h : runAs fs S = .ok as S') (hm : mkA S' (as.map (AV.res S')) = some (A, some (k, i))) (hF : F A = .ok r A') (hk : A'[k]? = some (.bo j o)) (hi : S'[i]? = some s) : callM F fs S = .ok r.unt (S'.set i (s.put o)) := by
  unfold callM
  rw [h]
  show (match mkA S' (as.map (AV.res S')) with
    | none => Res.stuck
    | some (A, b) => match F A with
      | .ok r A' => (match backA b A' S' with
        | some S2 => Res.ok r.unt S2
        | none => .stuck)
      | .exc c d A' => (match backA b A' S' with
        | some S2 => Res.exc c d S2
        | none => .stuck)
      | .stuck => .stuck) = _
  rw [hm]
  show (match F A with
      | .ok r A' => (match backA (some (k, i)) A' S' with
        | some S2 => Res.ok r.unt S2
        | none => .stuck)
      | .exc c d A' => (match backA (some (k, i)) A' S' with
        | some S2 => Res.exc c d S2
        | none => .stuck)
      | .stuck => .stuck) = _
  rw [hF]
  have e : backA (some (k, i)) A' S' = some (S'.set i (s.put o)) := by
    show (match A'[k]?, S'[i]? with
      | some (.bo _ o), some s => some (S'.set i (s.put o))
      | _, _ => none) = _
    rw [hk, hi]
  show (match backA (some (k, i)) A' S' with
        | some S2 => Res.ok r.unt S2
        | none => .stuck) = _
  rw [e]
theorem call1 {F : Fn} {f : M SV} {S S' A' : List SV} {v r : SV} {d : D} (hf : f S = .ok v S') (hv : v.shd = some d) (hF : F [.sh d] = .ok r A') : callM F [.ex f] S = .ok r.unt S' := by
  refine call_ok (runAs_ex hf runAs_nil) (A := [.sh d]) ?_ hF
  show (match v.shd, mkA S' [] with
    | some d, some (A, b) => some (SV.sh d :: A, b.map fun (p : Nat × Nat) => (p.1 + 1, p.2))
    | _, _ => none) = _
  rw [hv]
  rfl
theorem call2 {F : Fn} {f g : M SV} {S S1 S2 A' : List SV} {v w r : SV} {d e : D} (hf : f S = .ok v S1) (hg : g S1 = .ok w S2) (hv : v.shd = some d) (hw : w.shd = some e) (hF : F [.sh d, .sh e] = .ok r A') : callM F [.ex f, .ex g] S = .ok r.unt S2 := by
  refine call_ok (runAs_ex hf (runAs_ex hg runAs_nil)) (A := [.sh d, .sh e]) ?_ hF
  show (match v.shd, (match w.shd, mkA S2 [] with
    | some d, some (A, b) => some (SV.sh d :: A, b.map fun (p : Nat × Nat) => (p.1 + 1, p.2))
    | _, _ => none) with
    | some d, some (A, b) => some (SV.sh d :: A, b.map fun (p : Nat × Nat) => (p.1 + 1, p.2))
    | _, _ => none) = _
  rw [hv, hw]
  rfl
/-! ### statements, loops -/
theorem seq_assoc (f g h : MS) (S : List SV) : seqM f (seqM g h) S = seqM (seqM f g) h S := by
  unfold seqM
  cases f S with
  | ok fl S1 =>
    cases fl with
    | nx =>
      dsimp only [Res.bind_ok]
    | rt r => rfl
    | bk => rfl
    | ct => rfl
  | exc c d S1 => rfl
  | stuck => rfl
theorem asgT_ok {t : Tg} {f : M SV} {S S1 S2 : List SV} {v : SV} {d : D} (h : f S = .ok v S1) (hv : v.shd = some d) (ht : t.put d S1 = some S2) : asgT t f S = .ok .nx S2 := by
  unfold asgT
  rw [h]
  show (match v.shd with
    | some d => (match t.put d S1 with
      | some S2 => Res.ok Fl.nx S2
      | none => .stuck)
    | none => .stuck) = _
  rw [hv]
  show (match t.put d S1 with
      | some S2 => Res.ok Fl.nx S2
      | none => .stuck) = _
  rw [ht]
theorem par_ok {i j : Nat} {f g : M SV} {S S1 S2 : List SV} {v w : SV} (h : f S = .ok v S1) (h' : g S1 = .ok w S2) : parM i j f g S = .ok .nx ((S2.set i v).set j w) := by
  unfold parM
  rw [h]
  show Res.bind (g S1) _ = _
  rw [h']
  rfl
theorem forL_cons {i : Nat} {b : MS} {d : D} {ds : List D} {S S1 : List SV} (h : b (S.set i (.sh d)) = .ok .nx S1) : forL (.nm i) b (d :: ds) S = forL (.nm i) b ds S1 := by
  have e0 : forL (.nm i) b (d :: ds) S = match Tg.put (.nm i) d S with
    | none => .stuck
    | some S1 => (b S1).bind fun fl S2 => match fl with
      | .nx => forL (.nm i) b ds S2
      | .ct => forL (.nm i) b ds S2
      | .bk => .ok .nx S2
      | .rt r => .ok (.rt r) S2 := rfl
  rw [e0, put_nm]
  show (b (S.set i (.sh d))).bind _ = _
  rw [h]
  rfl
theorem for_ok {src : M Walk} {t : Tg} {b : MS} {S S1 : List SV} {wk : Walk} (h : src S = .ok wk S1) : forM' src t b S = forL t b wk.items S1 := by
  unfold forM'
  rw [h]
  rfl
theorem wSeq_ok {f : M SV} {S S1 : List SV} {v : SV} {ds : List D} (h : f S = .ok v S1) (hv : seqItems v = some ds) : wSeq f S = .ok ⟨ds, [v]⟩ S1 := by
  unfold wSeq
  rw [h]
  show (match seqItems v with
    | some xs => Res.ok (⟨xs, [v]⟩ : Walk) S1
    | none => .stuck) = _
  rw [hv]
/-- a comprehension whose element changes the state: by what holds of the state -/
theorem lcL_inv {i : Nat} {f : M SV} {I : List SV → Prop} {R : D → Prop} : ∀ {ds : List D}, (∀ d ∈ ds, ∀ S, I S → ∃ v S' e, f (S.set i (.sh d)) = .ok v S' ∧ v.shd = some e ∧ R e ∧ I (S'.set i .un)) →
    ∀ S, I S → ∃ es S', lcL [i] (.nm i) yesT f ds S = .ok es S' ∧ es.length = ds.length ∧ (∀ e ∈ es, R e) ∧ I S'
  | [], _, S, hS => ⟨[], S, rfl, rfl, fun _ he => absurd he List.not_mem_nil, hS⟩
  | d :: ds, h, S, hS => by
    obtain ⟨v, S1, e, e1, e2, e3, e4⟩ := h d List.mem_cons_self S hS
    obtain ⟨es, S2, e5, e6, e7, e8⟩ := lcL_inv (fun d' hd => h d' (List.mem_cons_of_mem _ hd)) _ e4
    refine ⟨e :: es, S2, ?_, by rw [List.length_cons, List.length_cons, e6], fun x hx => ?_, e8⟩
    · have e0 : lcL [i] (.nm i) yesT f (d :: ds) S = (noexc (f (S.set i (.sh d)))).bind fun r S3 => (match r.shd with
          | some y => (lcL [i] (.nm i) yesT f ds (wipeS S3 [i])).bind fun ys S4 => .ok (y :: ys) S4
          | none => .stuck) := by
        show (match Tg.put (.nm i) d S with
          | none => Res.stuck
          | some S1 => (noexc (yesT S1)).bind fun b S2 => if b = true then (noexc (f S2)).bind fun r S3 => (match r.shd with
              | some y => (lcL [i] (.nm i) yesT f ds (wipeS S3 [i])).bind fun ys S4 => .ok (y :: ys) S4
              | none => .stuck)
            else lcL [i] (.nm i) yesT f ds (wipeS S2 [i])) = _
        rw [put_nm]
        rfl
      rw [e0, e1]
      show (match v.shd with
        | some y => (lcL [i] (.nm i) yesT f ds (S1.set i .un)).bind fun ys S4 => .ok (y :: ys) S4
        | none => Res.stuck) = _
      rw [e2]
      show (lcL [i] (.nm i) yesT f ds (S1.set i .un)).bind (fun ys S4 => Res.ok (e :: ys) S4) = _
      rw [e5]
      rfl
    · rcases List.mem_cons.mp hx with rfl | hx
      · exact e3
      · exact e7 x hx
theorem lcM_inv {i : Nat} {src : M Walk} {f : M SV} {S S0 : List SV} {wk : Walk} {I : List SV → Prop} {R : D → Prop} (hs : src S = .ok wk S0) (hz : wk.items.length ≤ 1000) (h : ∀ d ∈ wk.items, ∀ S, I S → ∃ v S' e, f (S.set i (.sh d)) = .ok v S' ∧ v.shd = some e ∧ R e ∧ I (S'.set i .un)) (h0 : I (S0.set i .un)) :
    ∃ es S', lcM src (.nm i) yesT f S = .ok (.ow (.l es)) (S'.set i (S0.getD i .un)) ∧ es.length = wk.items.length ∧ (∀ e ∈ es, R e) ∧ I S' := by
  obtain ⟨es, S', e1, e2, e3, e4⟩ := lcL_inv h _ h0
  refine ⟨es, S', ?_, e2, e3, e4⟩
  unfold lcM
  rw [hs]
  show (if wk.items.length ≤ sizeLine then _ else _) = _
  rw [if_pos (by rw [sizeLine_eq]; omega)]
  show (lcL [i] (.nm i) yesT f wk.items (S0.set i .un)).bind _ = _
  rw [e1]
  rfl
end Ev
end

section
set_option Elab.async false
set_option linter.all false
set_option maxRecDepth 100000
set_option maxHeartbeats 4000000
/-! Ev, part 36: the draw and the equality of the laws that begin with [0, 27644437, 3, 4]. -/
namespace Ev
open PySem PySem.Spec PyProof.Rows L2
theorem mulD_sm {i j : Int} (h : -(2 ^ 64) < j ∧ j < 2 ^ 64) : mulD [.int i, .int j] = some (.sh (.int (i * j))) := by
  show (if CMulW i j then some (SV.sh (.int (i * j))) else if CMul i j then some (.sh (.int (i * j))) else none) = _
  split
  · rfl
  · exact if_pos (.inr h)
theorem mulD_sml {i j : Int} (h : -(2 ^ 64) < i ∧ i < 2 ^ 64) : mulD [.int i, .int j] = some (.sh (.int (i * j))) := by
  show (if CMulW i j then some (SV.sh (.int (i * j))) else if CMul i j then some (.sh (.int (i * j))) else none) = _
  split
  · rfl
  · exact if_pos (.inl h)
theorem sqD {i : Int} (h : i.natAbs < 2 ^ 64) : powD [.int i, .int 2] = some (.sh (.int (i ^ 2))) := if_pos ⟨by decide, by decide, h⟩
theorem rd_at {S : List SV} {i k : Nat} {xs : List D} {v : D} (hi : S[i]?.bind SV.dat? = some (.lst xs)) (hk : xs[k]? = some v) : opM ixD [.pk i, .ex (conM (.int (k : Int)))] S = .ok (.sh v) S :=
  op2l hi con_ok hi (by rw [ixD_nat, hk]; rfl)
/-- the pot, after n draws at most -/
structure PotC (n : Nat) (a b c d : Int) (r : List D) : Prop where
  a0 : 0 ≤ a
  b0 : 0 ≤ b
  b1 : b < 4611686018427387847
  c0 : 3 ≤ c
  c1 : c ≤ 3 + n
  d0 : 4 ≤ d
  d1 : d ≤ 1000
  rl : r.length ≤ 900
  ri : ∀ d ∈ r, ∃ i, d = .int i
theorem PotC.up {n m : Nat} {a b c d : Int} {r : List D} (h : PotC n a b c d r) (hm : n ≤ m) : PotC m a b c d r := ⟨h.a0, h.b0, h.b1, h.c0, by have := h.c1; omega, h.d0, h.d1, h.rl, h.ri⟩
abbrev ptC (a b c d : Int) (r : List D) : List D := .int a :: .int b :: .int c :: .int d :: r
abbrev stC (a b c d : Int) (r : List D) (m : Int) (x y z : SV) : List SV := [.bo 0 (.l (ptC a b c d r)), .sh (.int m), x, y, z]
def tkC1 : MS := iteM (andT (asT (opM (eqD false) [.ex (opM ixD [.pk 0, .ex (conM (.int 0))]), .ex (conM (.int 0))])) (asT (opM (strD ltS fun i j => decide (i < j)) [.ex (opM ixD [.pk 0, .ex (conM (.int 3))]), .ex (opM lenD [.pk 0])])))
    (seqM (asgM 2 (opM ixD [.pk 0, .ex (opM ixD [.pk 0, .ex (conM (.int 3))])]))
      (seqM (augS 0 (· + ·) (conM (.int 3)) (conM (.int 1)))
        (iteM (asT (opM (strD (fun x y => leS y x) fun i j => decide (j ≤ i)) [.pk 2, .ex (opM powD [.ex (conM (.int 10)), .ex (conM (.int 18))])]))
          (setM 0 (conM (.int 0)) (opM subD [.pk 2, .ex (opM powD [.ex (conM (.int 10)), .ex (conM (.int 18))])]))
          (setM 0 (conM (.int 1)) (opM modD [.ex (opM intD [.ex (opM addD [.ex (opM addD [.ex (opM mulD [.ex (opM ixD [.pk 0, .ex (conM (.int 1))]), .ex (conM (.int 6906969069))]), .ex (opM mulD [.pk 2, .ex (conM (.int 1597))])]), .ex (opM mulD [.ex (conM (.int 51)), .ex (opM ixD [.pk 0, .ex (conM (.int 3))])])])]), .ex (conM (.int 4611686018427387847))])))))
    skipM
def takeC : MS := seqM tkC1
  (seqM (iteM (asT (opM (strD (fun x y => ltS y x) fun i j => decide (j < i)) [.ex (opM ixD [.pk 0, .ex (conM (.int 0))]), .ex (conM (.int 0))]))
      (seqM (asgM 3 (opM modD [.ex (opM intD [.ex (opM ixD [.pk 0, .ex (conM (.int 0))])]), .pk 1]))
        (seqM (setM 0 (conM (.int 0)) (opM fdivD [.ex (opM ixD [.pk 0, .ex (conM (.int 0))]), .pk 1])) (retM (movM 3)))) skipM)
    (seqM (augS 0 (· + ·) (conM (.int 2)) (conM (.int 1)))
      (seqM (asgM 4 (opM modD [.ex (opM intD [.ex (opM addD [.ex (opM mulD [.ex (opM powD [.ex (opM addD [.ex (opM ixD [.pk 0, .ex (conM (.int 1))]), .ex (opM mulD [.ex (conM (.int 93911)), .ex (opM ixD [.pk 0, .ex (conM (.int 2))])])]), .ex (conM (.int 2))]), .ex (conM (.int 25214903917))]), .ex (opM mulD [.ex (conM (.int 11)), .ex (opM ixD [.pk 0, .ex (conM (.int 2))])])])]), .ex (conM (.int 1152921504606846883))]))
        (seqM (asgM 4 (opM modD [.ex (opM intD [.ex (opM addD [.ex (opM powD [.ex (opM addD [.pk 4, .ex (conM (.int 3935559000370003845))]), .ex (conM (.int 2))]), .ex (opM ixD [.pk 0, .ex (conM (.int 2))])])]), .ex (conM (.int 900000000000000046043660025881))]))
          (retM (opM modD [.ex (opM intD [.ex (opM fdivD [.pk 4, .ex (conM (.int 4096))])]), .pk 1]))))))
section
variable {n : Nat} {a b c d m : Int} {r : List D} {x y z : SV}
theorem rc0 : opM ixD [.pk 0, .ex (conM (.int 0))] (stC a b c d r m x y z) = .ok (.sh (.int a)) (stC a b c d r m x y z) := rd_at (k := 0) (xs := ptC a b c d r) rfl rfl
theorem rc1 : opM ixD [.pk 0, .ex (conM (.int 1))] (stC a b c d r m x y z) = .ok (.sh (.int b)) (stC a b c d r m x y z) := rd_at (k := 1) (xs := ptC a b c d r) rfl rfl
theorem rc2 : opM ixD [.pk 0, .ex (conM (.int 2))] (stC a b c d r m x y z) = .ok (.sh (.int c)) (stC a b c d r m x y z) := rd_at (k := 2) (xs := ptC a b c d r) rfl rfl
theorem rc3 : opM ixD [.pk 0, .ex (conM (.int 3))] (stC a b c d r m x y z) = .ok (.sh (.int d)) (stC a b c d r m x y z) := rd_at (k := 3) (xs := ptC a b c d r) rfl rfl
theorem wc0 {f : M SV} {v : Int} (h : f (stC a b c d r m x y z) = .ok (.sh (.int v)) (stC a b c d r m x y z)) : setM 0 (conM (.int 0)) f (stC a b c d r m x y z) = .ok .nx (stC v b c d r m x y z) :=
  setM_nat (i := 0) (k := 0) (s := .bo 0 (.l (ptC a b c d r))) (xs := ptC a b c d r) h rfl rfl (by simp)
theorem wc1 {f : M SV} {v : Int} (h : f (stC a b c d r m x y z) = .ok (.sh (.int v)) (stC a b c d r m x y z)) : setM 0 (conM (.int 1)) f (stC a b c d r m x y z) = .ok .nx (stC a v c d r m x y z) :=
  setM_nat (i := 0) (k := 1) (s := .bo 0 (.l (ptC a b c d r))) (xs := ptC a b c d r) h rfl rfl (by simp)
theorem takeC1 (h : PotC n a b c d r) : ∃ a' b' d' x', tkC1 (stC a b c d r m x y z) = .ok .nx (stC a' b' c d' r m x' y z) ∧ PotC n a' b' c d' r := by
  have hd0 := h.d0
  have hlen : opM lenD [.pk 0] (stC a b c d r m x y z) = .ok (.sh (.int ((r.length + 4 : Nat) : Int))) (stC a b c d r m x y z) := op1s (k := 0) (i := .lst (ptC a b c d r)) rfl rfl
  unfold tkC1
  by_cases h1 : a = 0
  case neg =>
    refine ⟨a, b, d, x, ?_, h⟩
    rw [ite_f (andT_f (asT_ok (op2 rc0 con_ok (by rw [eqD_int, decide_eq_false h1]))))]
    rfl
  by_cases h2 : d < (r.length + 4 : Nat)
  case neg =>
    refine ⟨a, b, d, x, ?_, h⟩
    rw [ite_f (S' := stC a b c d r m x y z) ?_]
    · rfl
    rw [andT_t (asT_ok (op2 rc0 con_ok (by rw [eqD_int, decide_eq_true h1])))]
    exact asT_ok (op2 rc3 hlen (by rw [lt_int, decide_eq_false h2]))
  obtain ⟨k, rfl⟩ : ∃ k : Nat, d = ((k + 4 : Nat) : Int) := ⟨(d - 4).toNat, by omega⟩
  have hk : k < r.length := by omega
  obtain ⟨cell, hcell⟩ := h.ri r[k] (List.getElem_mem hk)
  have e1 : opM ixD [.pk 0, .ex (opM ixD [.pk 0, .ex (conM (.int 3))])] (stC a b c ((k + 4 : Nat) : Int) r m x y z) = .ok (.sh (.int cell)) (stC a b c ((k + 4 : Nat) : Int) r m x y z) := by
    refine op2l (i := .lst (ptC a b c ((k + 4 : Nat) : Int) r)) (i' := .lst (ptC a b c ((k + 4 : Nat) : Int) r)) rfl rc3 rfl ?_
    rw [ixD_nat]
    show (r[k]?).map SV.sh = _
    rw [List.getElem?_eq_getElem hk, hcell]
    rfl
  have e2 : augS 0 (· + ·) (conM (.int 3)) (conM (.int 1)) (stC a b c ((k + 4 : Nat) : Int) r m (.sh (.int cell)) y z) = .ok .nx (stC a b c (((k + 4 : Nat) : Int) + 1) r m (.sh (.int cell)) y z) :=
    augS_nat (i := 0) (k := 3) (s := .bo 0 (.l (ptC a b c ((k + 4 : Nat) : Int) r))) (p := ((k + 4 : Nat) : Int)) (q := 1) (f := (· + ·)) (xs := ptC a b c ((k + 4 : Nat) : Int) r) rfl rfl rfl
  rw [ite_t (S' := stC a b c ((k + 4 : Nat) : Int) r m x y z) (by
    rw [andT_t (asT_ok (op2 rc0 con_ok (by rw [eqD_int, decide_eq_true h1])))]
    exact asT_ok (op2 rc3 hlen (by rw [lt_int, decide_eq_true h2])))]
  rw [seq_nx (asg_ok e1)]
  show ∃ a' b' d' x', seqM _ _ (stC a b c ((k + 4 : Nat) : Int) r m (.sh (.int cell)) y z) = _ ∧ _
  rw [seq_nx e2]
  generalize hC : ((k + 4 : Nat) : Int) + 1 = C
  have hrl := h.rl
  have hC0 : 4 ≤ C ∧ C ≤ 1000 := by omega
  by_cases h3 : 1000000000000000000 ≤ cell
  · refine ⟨cell - 1000000000000000000, b, C, .sh (.int cell), ?_, ⟨by omega, h.b0, h.b1, h.c0, h.c1, hC0.1, hC0.2, h.rl, h.ri⟩⟩
    rw [ite_t (S' := stC a b c C r m (.sh (.int cell)) y z) (asT_ok (op2l (i := .int cell) (i' := .int cell) rfl p18 rfl (by rw [ge_int, decide_eq_true h3])))]
    exact wc0 (op2l (i := .int cell) (i' := .int cell) rfl p18 rfl rfl)
  · rw [ite_f (S' := stC a b c C r m (.sh (.int cell)) y z) (asT_ok (op2l (i := .int cell) (i' := .int cell) rfl p18 rfl (by rw [ge_int, decide_eq_false h3])))]
    have m1 := mod_lt (i := b * 6906969069 + cell * 1597 + 51 * C) (j := 4611686018427387847) (by decide)
    refine ⟨a, (b * 6906969069 + cell * 1597 + 51 * C) % 4611686018427387847, C, .sh (.int cell), ?_, ⟨h.a0, m1.1, m1.2, h.c0, h.c1, hC0.1, hC0.2, h.rl, h.ri⟩⟩
    exact wc1 (op2 (op1 (op2 (op2 (op2 rc1 con_ok (mulD_sm (by decide))) (op2l (i := .int cell) (i' := .int cell) rfl con_ok rfl (mulD_sm (by decide))) rfl) (op2 con_ok rc3 (mulD_sml (by decide))) rfl) rfl) con_ok (modD_int (by decide)))
theorem takeC_ok (h : PotC n a b c d r) (hn : n ≤ 1000000) (hm : 0 < m) (hm2 : m < 2 ^ 64) : ∃ a' b' c' d' v x' y' z', takeC (stC a b c d r m x y z) = .ok (.rt (.sh (.int v))) (stC a' b' c' d' r m x' y' z') ∧ PotC (n + 1) a' b' c' d' r ∧ 0 ≤ v ∧ v < m := by
  obtain ⟨a1, b1, d1, x1, e, h1⟩ := takeC1 (m := m) (x := x) (y := y) (z := z) h
  unfold takeC
  rw [seq_nx e]
  by_cases h2 : 0 < a1
  · have g := mod_lt (i := a1) hm
    refine ⟨a1 / m, b1, c, d1, a1 % m, x1, .sh (.int (a1 % m)), z, ?_, (⟨Int.ediv_nonneg h1.a0 (Int.le_of_lt hm), h1.b0, h1.b1, h1.c0, h1.c1, h1.d0, h1.d1, h1.rl, h1.ri⟩ : PotC n _ _ _ _ _).up (by omega), g.1, g.2⟩
    rw [seq_rt (S' := stC (a1 / m) b1 c d1 r m x1 (.sh (.int (a1 % m))) z) (r := .sh (.int (a1 % m))) ?_]
    rw [ite_t (S' := stC a1 b1 c d1 r m x1 y z) (asT_ok (op2 rc0 con_ok (by rw [gt_int, decide_eq_true h2])))]
    rw [seq_nx (asg_ok (op2s (op1 rc0 rfl) rfl (modD_int hm)))]
    show seqM _ _ (stC a1 b1 c d1 r m x1 (.sh (.int (a1 % m))) z) = _
    rw [seq_nx (wc0 (op2s rc0 rfl (fdivD_int hm hm2)))]
    exact ret_ok rfl
  · rw [seq_nx (S' := stC a1 b1 c d1 r m x1 y z) (by
      rw [ite_f (S' := stC a1 b1 c d1 r m x1 y z) (asT_ok (op2 rc0 con_ok (by rw [gt_int, decide_eq_false h2])))]
      rfl)]
    have e2 : augS 0 (· + ·) (conM (.int 2)) (conM (.int 1)) (stC a1 b1 c d1 r m x1 y z) = .ok .nx (stC a1 b1 (c + 1) d1 r m x1 y z) :=
      augS_nat (i := 0) (k := 2) (s := .bo 0 (.l (ptC a1 b1 c d1 r))) (p := c) (q := 1) (f := (· + ·)) (xs := ptC a1 b1 c d1 r) rfl rfl rfl
    rw [seq_nx e2]
    have hc0 := h1.c0
    have hc1 := h1.c1
    have hb0 := h1.b0
    have hb1 := h1.b1
    generalize hC : c + 1 = C
    have hC0 : 3 ≤ C ∧ C ≤ 3 + (n + 1 : Nat) := by omega
    have g1 := mod_lt (i := (b1 + 93911 * C) ^ 2 * 25214903917 + 11 * C) (j := 1152921504606846883) (by decide)
    have f1 : opM modD [.ex (opM intD [.ex (opM addD [.ex (opM mulD [.ex (opM powD [.ex (opM addD [.ex (opM ixD [.pk 0, .ex (conM (.int 1))]), .ex (opM mulD [.ex (conM (.int 93911)), .ex (opM ixD [.pk 0, .ex (conM (.int 2))])])]), .ex (conM (.int 2))]), .ex (conM (.int 25214903917))]), .ex (opM mulD [.ex (conM (.int 11)), .ex (opM ixD [.pk 0, .ex (conM (.int 2))])])])]), .ex (conM (.int 1152921504606846883))] (stC a1 b1 C d1 r m x1 y z) =
        .ok (.sh (.int (((b1 + 93911 * C) ^ 2 * 25214903917 + 11 * C) % 1152921504606846883))) (stC a1 b1 C d1 r m x1 y z) :=
      op2 (op1 (op2 (op2 (op2 (op2 rc1 (op2 con_ok rc2 (mulD_sml (by decide))) rfl) con_ok (sqD (by omega))) con_ok (mulD_sm (by decide))) (op2 con_ok rc2 (mulD_sml (by decide))) rfl) rfl) con_ok (modD_int (by decide))
    rw [seq_nx (asg_ok f1)]
    show ∃ a' b' c' d' v x' y' z', seqM _ _ (stC a1 b1 C d1 r m x1 y (.sh (.int (((b1 + 93911 * C) ^ 2 * 25214903917 + 11 * C) % 1152921504606846883)))) = _ ∧ _
    generalize ((b1 + 93911 * C) ^ 2 * 25214903917 + 11 * C) % 1152921504606846883 = mx at g1
    have f2 : opM modD [.ex (opM intD [.ex (opM addD [.ex (opM powD [.ex (opM addD [.pk 4, .ex (conM (.int 3935559000370003845))]), .ex (conM (.int 2))]), .ex (opM ixD [.pk 0, .ex (conM (.int 2))])])]), .ex (conM (.int 900000000000000046043660025881))] (stC a1 b1 C d1 r m x1 y (.sh (.int mx))) =
        .ok (.sh (.int (((mx + 3935559000370003845) ^ 2 + C) % 900000000000000046043660025881))) (stC a1 b1 C d1 r m x1 y (.sh (.int mx))) :=
      op2 (op1 (op2 (op2 (op2l (i := .int mx) (i' := .int mx) rfl con_ok rfl rfl) con_ok (sqD (by omega))) rc2 rfl) rfl) con_ok (modD_int (by decide))
    rw [seq_nx (asg_ok f2)]
    show ∃ a' b' c' d' v x' y' z', retM _ (stC a1 b1 C d1 r m x1 y (.sh (.int (((mx + 3935559000370003845) ^ 2 + C) % 900000000000000046043660025881)))) = _ ∧ _
    generalize ((mx + 3935559000370003845) ^ 2 + C) % 900000000000000046043660025881 = my
    have g3 := mod_lt (i := my / 4096) hm
    exact ⟨a1, b1, C, d1, my / 4096 % m, x1, y, .sh (.int my), ret_ok (op2s (op1 (op2l (i := .int my) (i' := .int my) rfl con_ok rfl (fdivD_int (by decide) (by decide))) rfl) rfl (modD_int hm)), ⟨h1.a0, h1.b0, h1.b1, hC0.1, hC0.2, h1.d0, h1.d1, h1.rl, h1.ri⟩, g3.1, g3.2⟩
theorem takeC_F (h : PotC n a b c d r) (hn : n ≤ 1000000) (hm : 0 < m) (hm2 : m < 2 ^ 64) : ∃ a' b' c' d', ∃ k : Nat, runDef 2 3 takeC [.bo 0 (.l (ptC a b c d r)), .sh (.int m)] = .ok (.sh (.int k)) [.bo 0 (.l (ptC a' b' c' d' r)), .un] ∧ PotC (n + 1) a' b' c' d' r ∧ (k : Int) < m := by
  obtain ⟨a', b', c', d', v, x', y', z', e, h1, h2, h3⟩ := takeC_ok (x := .un) (y := .un) (z := .un) h hn hm hm2
  obtain ⟨k, rfl⟩ : ∃ k : Nat, v = (k : Int) := ⟨v.toNat, by omega⟩
  exact ⟨a', b', c', d', k, runDef_rt rfl e rfl, h1, h3⟩
/-- the call: the pot in slot i, how many by any argument -/
theorem takeC_call {F : Fn} (hF : F = runDef 2 3 takeC) {S : List SV} {i : Nat} {s : SV} {f : M SV} (hi : S[i]? = some s) (ho : s.own? = some (.l (ptC a b c d r))) (hf : f S = .ok (.sh (.int m)) S) (h : PotC n a b c d r) (hn : n ≤ 1000000) (hm : 0 < m) (hm2 : m < 2 ^ 64) :
    ∃ a' b' c' d', ∃ k : Nat, callM F [.pk i, .ex f] S = .ok (.sh (.int k)) (S.set i (s.put (.l (ptC a' b' c' d' r)))) ∧ PotC (n + 1) a' b' c' d' r ∧ (k : Int) < m := by
  subst hF
  obtain ⟨a', b', c', d', k, e, h1, h2⟩ := takeC_F h hn hm hm2
  have hdat : s.dat? = some (.lst (ptC a b c d r)) := by
    cases s <;> first | (cases ho; done) | (cases ho; rfl)
  refine ⟨a', b', c', d', k, call_bo (k := 0) (s := s) (o := .l (ptC a' b' c' d' r)) (runAs_pk (d := .lst (ptC a b c d r)) (by rw [hi]; exact hdat) (runAs_ex hf runAs_nil)) ?_ e rfl hi, h1, h2⟩
  have e2 : AV.res S (.s i) = .s i := by
    show (match S[i]? with
      | some (.sh d) => AV.v (.sh d)
      | _ => .s i) = _
    rw [hi]
    cases s <;> first | (cases ho; done) | rfl
  show mkA S [AV.res S (.s i), AV.v (.sh (.int m))] = _
  rw [e2]
  unfold mkA
  rw [hi]
  show (match s.own?, mkA S [.v (.sh (.int m))] with
    | some o, some (A, none) => some (SV.bo 0 o :: A, some (0, i))
    | _, _ => none) = _
  rw [ho]
  rfl
end
/-! ### the equality of that family -/
def sameC (G : Fn) : MS := (seqM (iteM (asT (isiM ["tuple", "list"] (.pk 1))) (seqM (iteM (orT (asT (opM (eqD true) [.ex (isiM ["tuple"] (.pk 0)), .ex (isiM ["tuple"] (.pk 1))])) (asT (opM (eqD true) [.ex (isiM ["list"] (.pk 0)), .ex (isiM ["list"] (.pk 1))]))) (retM (conM (.bl false))) skipM)
  (retM (andM (opM (eqD false) [.ex (opM lenD [.pk 0]), .ex (opM lenD [.pk 1])]) (opM allD [.ex (lcM (wRng [.ex (opM lenD [.pk 1])]) (.nm 2) yesT (callM G [.ex (opM ixD [.pk 0, .pk 2]), .ex (opM ixD [.pk 1, .pk 2])]))])))) skipM)
  (seqM (iteM (orT (asT (opM (isD false) [.pk 1, .ex (conM .non)])) (asT (opM (isD false) [.pk 0, .ex (conM .non)]))) (retM (andM (opM (isD false) [.pk 1, .ex (conM .non)]) (opM (isD false) [.pk 0, .ex (conM .non)]))) skipM)
  (seqM (iteM (orT (asT (isiM ["bool"] (.pk 1))) (asT (isiM ["bool"] (.pk 0)))) (retM (andM (isiM ["bool"] (.pk 1)) (andM (isiM ["bool"] (.pk 0)) (opM (eqD false) [.pk 0, .pk 1])))) skipM)
  (seqM (iteM (asT (isiM ["str"] (.pk 1))) (retM (andM (isiM ["str"] (.pk 0)) (opM (eqD false) [.pk 0, .pk 1]))) skipM)
  (retM (andM (isiM ["int"] (.pk 1)) (andM (isiM ["int"] (.pk 0)) (opM (eqD false) [.pk 0, .pk 1]))))))))
def runSameC (G : Nat → Fn) : Prop := ∀ n, G (n + 1) = runDef 2 1 (sameC (G n))
section
variable {G : Nat → Fn}
theorem sameC_atom (hG : runSameC G) (n : Nat) (d : D) (h : d = .non ∨ (∃ b, d = .bl b) ∨ (∃ i, d = .int i) ∨ ∃ x, d = .str x ∧ SeqAt.shaped (.str x) = true) : G (n + 1) [.sh d, .sh d] = .ok (.sh (.bl true)) [.un, .un] := by
  rw [hG n]
  rcases h with rfl | ⟨b, rfl⟩ | ⟨i, rfl⟩ | ⟨x, rfl, hx⟩
  · rfl
  · cases b <;> rfl
  · refine runDef_rt (S' := [.sh (.int i), .sh (.int i), .un]) rfl ?_ rfl
    refine (seq_nx (S' := [.sh (.int i), .sh (.int i), .un]) rfl).trans ?_
    refine (seq_nx (S' := [.sh (.int i), .sh (.int i), .un]) rfl).trans ?_
    refine (seq_nx (S' := [.sh (.int i), .sh (.int i), .un]) rfl).trans ?_
    refine (seq_nx (S' := [.sh (.int i), .sh (.int i), .un]) rfl).trans ?_
    refine ret_ok ((and_t (S' := [.sh (.int i), .sh (.int i), .un]) rfl).trans ((and_t (S' := [.sh (.int i), .sh (.int i), .un]) rfl).trans ?_))
    exact op2b (i := .int i) (j := .int i) rfl rfl (eqD_intR i)
  · refine runDef_rt (S' := [.sh (.str x), .sh (.str x), .un]) rfl ?_ rfl
    refine (seq_nx (S' := [.sh (.str x), .sh (.str x), .un]) rfl).trans ?_
    refine (seq_nx (S' := [.sh (.str x), .sh (.str x), .un]) rfl).trans ?_
    refine (seq_nx (S' := [.sh (.str x), .sh (.str x), .un]) rfl).trans ?_
    refine seq_rt ((ite_t (S' := [.sh (.str x), .sh (.str x), .un]) rfl).trans (ret_ok ((and_t (S' := [.sh (.str x), .sh (.str x), .un]) rfl).trans ?_)))
    exact op2b (i := .str x) (j := .str x) rfl rfl (eqD_strR hx)
theorem sameC_seq (n : Nat) (q : D) (ds : List D) (hq : q = .tup ds ∨ q = .lst ds) (hl : ds.length ≤ 1000) (h : ∀ d ∈ ds, G n [.sh d, .sh d] = .ok (.sh (.bl true)) [.un, .un]) (hG : runSameC G) : G (n + 1) [.sh q, .sh q] = .ok (.sh (.bl true)) [.un, .un] := by
  have len : lenD [q] = some (.sh (.int ds.length)) := by rcases hq with rfl | rfl <;> rfl
  have e1 : ∀ S : List SV, S[0]?.bind SV.dat? = some q → opM lenD [.pk 0] S = .ok (.sh (.int ds.length)) S := fun S hS => op1s hS len
  have e2 : ∀ S : List SV, S[1]?.bind SV.dat? = some q → opM lenD [.pk 1] S = .ok (.sh (.int ds.length)) S := fun S hS => op1s hS len
  have ix : ∀ k : Nat, k < ds.length → ∃ d, ds[k]? = some d ∧ d ∈ ds ∧ ixD [q, .int (k : Int)] = some (.sh d) := fun k hk => by
    refine ⟨ds[k], List.getElem?_eq_getElem hk, List.getElem_mem hk, ?_⟩
    rcases hq with rfl | rfl
    · show (L2.atI ds (k : Int)).map SV.sh = _
      unfold L2.atI
      rw [ixN_lt hk]
      show (ds[k]?).map SV.sh = _
      rw [List.getElem?_eq_getElem hk]
      rfl
    · rw [ixD_nat, List.getElem?_eq_getElem hk]
      rfl
  have lc : lcM (wRng [.ex (opM lenD [.pk 1])]) (.nm 2) yesT (callM (G n) [.ex (opM ixD [.pk 0, .pk 2]), .ex (opM ixD [.pk 1, .pk 2])]) [.sh q, .sh q, .un] = .ok (.ow (.l ((rngItems 0 ds.length).map fun _ => D.bl true))) [.sh q, .sh q, .un] := by
    refine lcM_pure (wk := ⟨rngItems 0 ds.length, []⟩) (wRng1 (e2 _ rfl) (by omega)) ?_ rfl fun d hd => ?_
    · show (rngItems 0 ds.length).length ≤ sizeLine
      unfold rngItems
      rw [List.length_map, List.length_range, sizeLine_eq]
      omega
    · have hd : d ∈ rngItems 0 ds.length := hd
      unfold rngItems at hd
      obtain ⟨k, hk, rfl⟩ := List.mem_map.mp hd
      have hk := List.mem_range.mp hk
      obtain ⟨d, _, hm, hx⟩ := ix k hk
      have hx' : ixD [q, .int (0 + (k : Int))] = some (.sh d) := by rw [Int.zero_add]; exact hx
      have a1 : opM ixD [.pk 0, .pk 2] [.sh q, .sh q, .sh (.int (0 + (k : Int)))] = .ok (.sh d) [.sh q, .sh q, .sh (.int (0 + (k : Int)))] := op2b rfl rfl hx'
      have a2 : opM ixD [.pk 1, .pk 2] [.sh q, .sh q, .sh (.int (0 + (k : Int)))] = .ok (.sh d) [.sh q, .sh q, .sh (.int (0 + (k : Int)))] := op2b rfl rfl hx'
      exact ⟨.sh (.bl true), [.sh q, .sh q, .sh (.int (0 + (k : Int)))], call2 a1 a2 rfl rfl (h d hm), rfl, rfl⟩
  have fin : retM (andM (opM (eqD false) [.ex (opM lenD [.pk 0]), .ex (opM lenD [.pk 1])]) (opM allD [.ex (lcM (wRng [.ex (opM lenD [.pk 1])]) (.nm 2) yesT (callM (G n) [.ex (opM ixD [.pk 0, .pk 2]), .ex (opM ixD [.pk 1, .pk 2])]))])) [.sh q, .sh q, .un] = .ok (.rt (.sh (.bl true))) [.sh q, .sh q, .un] := by
    refine ret_ok ((and_t (op2 (e1 _ rfl) (e2 _ rfl) (eqD_intR _))).trans (op1v lc rfl ?_))
    have e3 : (rngItems 0 ds.length).map (fun _ => D.bl true) = List.replicate ds.length (.bl true) := by
      unfold rngItems
      rw [List.map_map]
      exact List.map_const' .. |>.trans (by rw [List.length_range])
    rw [e3]
    show (blsD (List.replicate ds.length (.bl true))).map (fun ns => SV.sh (.bl (ns.all id))) = _
    rw [allD_true]
    show some (SV.sh (.bl ((List.replicate ds.length true).all id))) = _
    have e4 : (List.replicate ds.length true).all id = true := by simp
    rw [e4]
  rw [hG n]
  refine runDef_rt (S' := [.sh q, .sh q, .un]) rfl ?_ rfl
  unfold sameC
  rcases hq with rfl | rfl
  · exact seq_rt ((ite_t (S' := [.sh (.tup ds), .sh (.tup ds), .un]) rfl).trans ((seq_nx (S' := [.sh (.tup ds), .sh (.tup ds), .un]) rfl).trans fin))
  · exact seq_rt ((ite_t (S' := [.sh (.lst ds), .sh (.lst ds), .un]) rfl).trans ((seq_nx (S' := [.sh (.lst ds), .sh (.lst ds), .un]) rfl).trans fin))
theorem sameC_refl (hG : runSameC G) : ∀ (n : Nat) (d : D), flat n d = true → G (n + 1) [.sh d, .sh d] = .ok (.sh (.bl true)) [.un, .un]
  | n, .non, _ => sameC_atom hG n _ (.inl rfl)
  | n, .bl b, _ => sameC_atom hG n _ (.inr (.inl ⟨b, rfl⟩))
  | n, .int i, _ => sameC_atom hG n _ (.inr (.inr (.inl ⟨i, rfl⟩)))
  | n, .str x, h => sameC_atom hG n _ (.inr (.inr (.inr ⟨x, rfl, by cases n <;> exact h⟩)))
  | 0, .tup _, h => by cases h
  | 0, .lst _, h => by cases h
  | n + 1, .tup ds, h => by
    have h : (decide (ds.length ≤ 1000) && ds.all (flat n)) = true := h
    rw [Bool.and_eq_true] at h
    exact sameC_seq (n + 1) _ ds (.inl rfl) (of_decide_eq_true h.1) (fun d hd => sameC_refl hG n d (List.all_eq_true.mp h.2 d hd)) hG
  | n + 1, .lst ds, h => by
    have h : (decide (ds.length ≤ 1000) && ds.all (flat n)) = true := h
    rw [Bool.and_eq_true] at h
    exact sameC_seq (n + 1) _ ds (.inr rfl) (of_decide_eq_true h.1) (fun d hd => sameC_refl hG n d (List.all_eq_true.mp h.2 d hd)) hG
  | n, .dic _ _, h => by cases n <;> cases h
  | n, .rng _ _, h => by cases n <;> cases h
  | n, .exn _ _, h => by cases n <;> cases h
  | n, .prs _, h => by cases n <;> cases h
end
end Ev
end

set_option Elab.async false
set_option linter.all false
set_option maxRecDepth 100000
set_option maxHeartbeats 0
namespace Lw
open PySem PySem.Spec PyProof.Rows L2 Ev
abbrev RL := PySem.Challenge.rw_wholeseeds_k53_triples_by_exchanges
abbrev R : PySem.W.OpenRow := PySem.W.OpenLaw.row RL
def fn : List He.DefD := R.prog.main.body.filterMap toDef
def WH : Nat := 1000000
/-! ### the defs of the text, by their places -/
def fa : List He.Fa := [.glo "is_integer", .glo "is_natural", .glo "are_integers", .glo "check_below", .glo "is_triple", .glo "check_triple", .glo "exchanged_triple", .glo "triple_exchanged", .glo "triple_at", .glo "row_down", .glo "_law_pot", .glo "_law_take", .glo "_law_same", .glo "_law_row", .glo "_law_is_tuple", .glo "_law_step", .glo "_law_is_right", .glo "_law_asked", .glo "law", .free "list", .free "int", .free "len", .free "tuple", .free "range", .free "isinstance", .free "bool", .free "all", .free "min", .free "enumerate", .free "max", .free "str", .glo "SeedsError", .glo "InvalidInteger", .glo "InvalidRow", .glo "InvalidRows", .free "super"]
def gds0 : List GD := []
def xs0 : XTab := [("SeedsError", ["SeedsError", "ValueError"]), ("InvalidInteger", ["InvalidInteger", "SeedsError", "ValueError"]), ("InvalidRow", ["InvalidRow", "SeedsError", "ValueError"]), ("InvalidRows", ["InvalidRows", "SeedsError", "ValueError"])]
def q0 : Nat → Pos := fun n => [⟨5, 8, 5, 13⟩, ⟨5, 8, 5, 15⟩, ⟨5, 8, 5, 24⟩, ⟨5, 25, 5, 30⟩, ⟨5, 8, 5, 31⟩, ⟨5, 8, 5, 31⟩, ⟨6, 8, 6, 12⟩, ⟨6, 8, 6, 18⟩, ⟨6, 21, 6, 26⟩, ⟨6, 8, 6, 26⟩].getD n ⟨0, 0, 0, 0⟩
def iv0 : IniV := iniVal ⟨4, 17, 4, 21⟩ ⟨4, 23, 4, 28⟩ q0
def gd0 : List GTab := gds0.map GD.tab
def dAt (i : Nat) : He.DefD := fn.getD i ⟨("", none), "", "", default, [], default, [], []⟩
def bis0 : List Str := ["list", "int", "len", "tuple", "range", "isinstance", "bool", "all", "min", "enumerate", "max", "str"]
/-- _law_pot -/
def E_law_pot : En := ⟨["script"], (dAt 10).scope, (dAt 10).scope, [], [], bis0, gd0, []⟩
def m_law_pot : MS := (trB 60 WH E_law_pot 20 (dAt 10).body).getD fun _ => .stuck
def F_law_pot : Fn := runDef 1 0 m_law_pot
theorem s_law_pot : (trB 60 WH E_law_pot 20 (dAt 10).body).isSome = true := by kernel_rfl
/-- _law_take -/
def E_law_take : En := ⟨["pot", "many", "cell", "drawn", "mixed"], (dAt 11).scope, (dAt 11).scope, [], [], bis0, gd0, []⟩
def m_law_take : MS := (trB 60 WH E_law_take 20 (dAt 11).body).getD fun _ => .stuck
def F_law_take : Fn := runDef 2 3 m_law_take
theorem s_law_take : (trB 60 WH E_law_take 20 (dAt 11).body).isSome = true := by kernel_rfl
/-- _law_row -/
def E_law_row : En := ⟨["pot", "many", "most", "turn"], (dAt 13).scope, (dAt 13).scope, [⟨"_law_take", [true, false], F_law_take⟩], [], bis0, gd0, []⟩
def m_law_row : MS := (trB 60 WH E_law_row 20 (dAt 13).body).getD fun _ => .stuck
def F_law_row : Fn := runDef 3 1 m_law_row
theorem s_law_row : (trB 60 WH E_law_row 20 (dAt 13).body).isSome = true := by kernel_rfl
/-- is_integer -/
def E_p_is_integer : En := ⟨["value"], (dAt 0).scope, (dAt 0).scope, [], [], bis0, gd0, []⟩
def m_p_is_integer : MS := (trB 60 WH E_p_is_integer 20 (dAt 0).body).getD fun _ => .stuck
def F_p_is_integer : Fn := runDef 1 0 m_p_is_integer
theorem s_p_is_integer : (trB 60 WH E_p_is_integer 20 (dAt 0).body).isSome = true := by kernel_rfl
/-- are_integers -/
def E_p_are_integers : En := ⟨["value", "many", "own"], (dAt 2).scope, (dAt 2).scope, [⟨"is_integer", [false], F_p_is_integer⟩], [], bis0, gd0, []⟩
def m_p_are_integers : MS := (trB 60 WH E_p_are_integers 20 (dAt 2).body).getD fun _ => .stuck
def F_p_are_integers : Fn := runDef 2 1 m_p_are_integers
theorem s_p_are_integers : (trB 60 WH E_p_are_integers 20 (dAt 2).body).isSome = true := by kernel_rfl
/-- is_triple -/
def E_p_is_triple : En := ⟨["value", "a", "b", "c"], (dAt 4).scope, (dAt 4).scope, [⟨"are_integers", [false, false], F_p_are_integers⟩], [], bis0, gd0, []⟩
def m_p_is_triple : MS := (trB 60 WH E_p_is_triple 20 (dAt 4).body).getD fun _ => .stuck
def F_p_is_triple : Fn := runDef 1 3 m_p_is_triple
theorem s_p_is_triple : (trB 60 WH E_p_is_triple 20 (dAt 4).body).isSome = true := by kernel_rfl
/-- check_triple -/
def E_p_check_triple : En := ⟨["rows"], (dAt 5).scope, (dAt 5).scope, [⟨"is_triple", [false], F_p_is_triple⟩], [], bis0, gd0, xs0⟩
def m_p_check_triple : MS := (trB 60 WH E_p_check_triple 20 (dAt 5).body).getD fun _ => .stuck
def F_p_check_triple : Fn := runDef 1 0 m_p_check_triple
theorem s_p_check_triple : (trB 60 WH E_p_check_triple 20 (dAt 5).body).isSome = true := by kernel_rfl
/-- is_natural -/
def E_p_is_natural : En := ⟨["value"], (dAt 1).scope, (dAt 1).scope, [⟨"is_integer", [false], F_p_is_integer⟩], [], bis0, gd0, []⟩
def m_p_is_natural : MS := (trB 60 WH E_p_is_natural 20 (dAt 1).body).getD fun _ => .stuck
def F_p_is_natural : Fn := runDef 1 0 m_p_is_natural
theorem s_p_is_natural : (trB 60 WH E_p_is_natural 20 (dAt 1).body).isSome = true := by kernel_rfl
/-- check_below -/
def E_p_check_below : En := ⟨["value", "many"], (dAt 3).scope, (dAt 3).scope, [⟨"is_natural", [false], F_p_is_natural⟩], [], bis0, gd0, xs0⟩
def m_p_check_below : MS := (trB 60 WH E_p_check_below 20 (dAt 3).body).getD fun _ => .stuck
def F_p_check_below : Fn := runDef 2 0 m_p_check_below
theorem s_p_check_below : (trB 60 WH E_p_check_below 20 (dAt 3).body).isSome = true := by kernel_rfl
/-- exchanged_triple -/
def E_p_exchanged_triple : En := ⟨["rows", "index", "one", "other", "at", "own"], (dAt 6).scope, (dAt 6).scope, [], [], bis0, gd0, []⟩
def m_p_exchanged_triple : MS := (trB 60 WH E_p_exchanged_triple 20 (dAt 6).body).getD fun _ => .stuck
def F_p_exchanged_triple : Fn := runDef 2 4 m_p_exchanged_triple
theorem s_p_exchanged_triple : (trB 60 WH E_p_exchanged_triple 20 (dAt 6).body).isSome = true := by kernel_rfl
/-- triple_exchanged -/
def E_p_triple_exchanged : En := ⟨["rows", "index"], (dAt 7).scope, (dAt 7).scope, [⟨"check_triple", [false], F_p_check_triple⟩, ⟨"check_below", [false, false], F_p_check_below⟩, ⟨"exchanged_triple", [false, false], F_p_exchanged_triple⟩], [], bis0, gd0, []⟩
def m_p_triple_exchanged : MS := (trB 60 WH E_p_triple_exchanged 20 (dAt 7).body).getD fun _ => .stuck
def F_p_triple_exchanged : Fn := runDef 2 0 m_p_triple_exchanged
theorem s_p_triple_exchanged : (trB 60 WH E_p_triple_exchanged 20 (dAt 7).body).isSome = true := by kernel_rfl
/-- row_down -/
def E_p_row_down : En := ⟨["rows", "found"], (dAt 9).scope, (dAt 9).scope, [⟨"check_triple", [false], F_p_check_triple⟩, ⟨"exchanged_triple", [false, false], F_p_exchanged_triple⟩], [], bis0, gd0, []⟩
def m_p_row_down : MS := (trB 60 WH E_p_row_down 20 (dAt 9).body).getD fun _ => .stuck
def F_p_row_down : Fn := runDef 1 1 m_p_row_down
theorem s_p_row_down : (trB 60 WH E_p_row_down 20 (dAt 9).body).isSome = true := by kernel_rfl
/-- _law_step -/
def E_law_step : En := ⟨["rows", "at", "found"], (dAt 15).scope, (dAt 15).scope, [], [], bis0, gd0, []⟩
def m_law_step : MS := (trB 60 WH E_law_step 20 (dAt 15).body).getD fun _ => .stuck
def F_law_step : Fn := runDef 2 1 m_law_step
theorem s_law_step : (trB 60 WH E_law_step 20 (dAt 15).body).isSome = true := by kernel_rfl
/-- _law_same -/
def E_law_same (G : Fn) : En := ⟨["got", "due", "k"], (dAt 12).scope, (dAt 12).scope, [⟨"_law_same", [false, false], G⟩], [], bis0, gd0, []⟩
def m_law_same (G : Fn) : MS := (trB 60 WH (E_law_same G) 20 (dAt 12).body).getD fun _ => .stuck
def F_law_same : Nat → Fn
  | 0 => fun _ => .stuck
  | n + 1 => runDef 2 1 (m_law_same (F_law_same n))
theorem s_law_same (G : Fn) : (trB 60 WH (E_law_same G) 20 (dAt 12).body).isSome = true := by kernel_rfl
/-- _law_is_right -/
def E_law_is_right : En := ⟨["rows", "a", "b", "c"], (dAt 16).scope, (dAt 16).scope, [], [], bis0, gd0, []⟩
def m_law_is_right : MS := (trB 60 WH E_law_is_right 20 (dAt 16).body).getD fun _ => .stuck
def F_law_is_right : Fn := runDef 1 3 m_law_is_right
theorem s_law_is_right : (trB 60 WH E_law_is_right 20 (dAt 16).body).isSome = true := by kernel_rfl
/-- _law_is_tuple -/
def E_law_is_tuple : En := ⟨["value", "size", "own"], (dAt 14).scope, (dAt 14).scope, [], [], bis0, gd0, []⟩
def m_law_is_tuple : MS := (trB 60 WH E_law_is_tuple 20 (dAt 14).body).getD fun _ => .stuck
def F_law_is_tuple : Fn := runDef 2 1 m_law_is_tuple
theorem s_law_is_tuple : (trB 60 WH E_law_is_tuple 20 (dAt 14).body).isSome = true := by kernel_rfl
/-- triple_at -/
def E_p_triple_at : En := ⟨["row", "own", "rows", "index"], (dAt 8).scope, (dAt 8).scope, [⟨"exchanged_triple", [false, false], F_p_exchanged_triple⟩, ⟨"is_natural", [false], F_p_is_natural⟩], [], bis0, gd0, xs0⟩
def m_p_triple_at : MS := (trB 60 WH E_p_triple_at 20 (dAt 8).body).getD fun _ => .stuck
def F_p_triple_at : Fn := runDef 1 3 m_p_triple_at
theorem s_p_triple_at : (trB 60 WH E_p_triple_at 20 (dAt 8).body).isSome = true := by kernel_rfl
/-- _law_asked -/
def E_law_asked : En := ⟨["value", "at", "way", "caught", "told", "e", "kinds"], (dAt 17).scope, (dAt 17).scope, [⟨"triple_exchanged", [false, false], F_p_triple_exchanged⟩, ⟨"row_down", [false], F_p_row_down⟩, ⟨"triple_at", [false], F_p_triple_at⟩], [], bis0, gd0, xs0⟩
def m_law_asked : MS := (trB 60 WH E_law_asked 20 (dAt 17).body).getD fun _ => .stuck
def F_law_asked : Fn := runDef 3 4 m_law_asked
theorem s_law_asked : (trB 60 WH E_law_asked 20 (dAt 17).body).isSome = true := by kernel_rfl
/-- law -/
def E_p_law : En := ⟨["script", "pot", "turn", "row", "rows", "at", "once", "down", "now", "step", "told", "near", "place", "some", "value", "due", "odd", "wrong"], (dAt 18).scope, (dAt 18).scope, [⟨"_law_pot", [false], F_law_pot⟩, ⟨"_law_row", [true, false, false], F_law_row⟩, ⟨"_law_take", [true, false], F_law_take⟩, ⟨"triple_exchanged", [false, false], F_p_triple_exchanged⟩, ⟨"row_down", [false], F_p_row_down⟩, ⟨"_law_step", [false, false], F_law_step⟩, ⟨"_law_same", [false, false], F_law_same 8⟩, ⟨"_law_is_right", [false], F_law_is_right⟩, ⟨"_law_is_tuple", [false, false], F_law_is_tuple⟩, ⟨"_law_asked", [false, false, false], F_law_asked⟩, ⟨"triple_at", [false], F_p_triple_at⟩], [⟨"triple_exchanged", ["index", "rows"], lenF 2 (pmF [1, 0] (F_p_triple_exchanged))⟩, ⟨"triple_at", ["row"], lenF 1 (pmF [0] (F_p_triple_at))⟩, ⟨"row_down", ["rows"], lenF 1 (pmF [0] (F_p_row_down))⟩], bis0, gd0, []⟩
def m_p_law : MS := (trB 60 WH E_p_law 20 (dAt 18).body).getD fun _ => .stuck
def F_p_law : Fn := runDef 1 17 m_p_law
theorem s_p_law : (trB 60 WH E_p_law 20 (dAt 18).body).isSome = true := by kernel_rfl
section
variable {P : Program} {w : World} {K : PySem.W.Frag} {h base : Heap} {mg : Str → Option Value}
theorem bi_ok (X : K.In h) (G : h.Ns mainGlobals mg) (c : SaysX P fa fn gds0 xs0 iv0 w K) : ∀ x ∈ bis0, mg x = none := by
  intro x hx
  simp only [bis0, List.mem_cons, List.not_mem_nil, or_false] at hx
  rcases hx with rfl | rfl | rfl | rfl | rfl | rfl | rfl | rfl | rfl | rfl | rfl | rfl
  · exact He.free_ok X G (c.g.d.fact 19 (f := .free "list") (by kernel_rfl))
  · exact He.free_ok X G (c.g.d.fact 20 (f := .free "int") (by kernel_rfl))
  · exact He.free_ok X G (c.g.d.fact 21 (f := .free "len") (by kernel_rfl))
  · exact He.free_ok X G (c.g.d.fact 22 (f := .free "tuple") (by kernel_rfl))
  · exact He.free_ok X G (c.g.d.fact 23 (f := .free "range") (by kernel_rfl))
  · exact He.free_ok X G (c.g.d.fact 24 (f := .free "isinstance") (by kernel_rfl))
  · exact He.free_ok X G (c.g.d.fact 25 (f := .free "bool") (by kernel_rfl))
  · exact He.free_ok X G (c.g.d.fact 26 (f := .free "all") (by kernel_rfl))
  · exact He.free_ok X G (c.g.d.fact 27 (f := .free "min") (by kernel_rfl))
  · exact He.free_ok X G (c.g.d.fact 28 (f := .free "enumerate") (by kernel_rfl))
  · exact He.free_ok X G (c.g.d.fact 29 (f := .free "max") (by kernel_rfl))
  · exact He.free_ok X G (c.g.d.fact 30 (f := .free "str") (by kernel_rfl))
theorem gd_ok (X : K.In h) (G : h.Ns mainGlobals mg) (c : SaysX P fa fn gds0 xs0 iv0 w K) : ∀ p ∈ gd0, GOk K w mg p := by
  intro p hp
  simp only [gd0, gds0, List.map_cons, List.map_nil, List.mem_cons, List.not_mem_nil, or_false] at hp
theorem xs_ok (X : K.In h) (G : h.Ns mainGlobals mg) (c : SaysX P fa fn gds0 xs0 iv0 w K) : ∀ p ∈ xs0, XOk P K mg xs0 p := xok_of X G c (by kernel_rfl) fun p hp => by
  simp only [xs0, List.mem_cons, List.not_mem_nil, or_false] at hp
  rcases hp with rfl | rfl | rfl | rfl
  · exact ⟨c.g.d.fact 31 (f := .glo "SeedsError") (by kernel_rfl), by decide⟩
  · exact ⟨c.g.d.fact 32 (f := .glo "InvalidInteger") (by kernel_rfl), by decide⟩
  · exact ⟨c.g.d.fact 33 (f := .glo "InvalidRow") (by kernel_rfl), by decide⟩
  · exact ⟨c.g.d.fact 34 (f := .glo "InvalidRows") (by kernel_rfl), by decide⟩
theorem sup_ok (X : K.In h) (G : h.Ns mainGlobals mg) (c : SaysX P fa fn gds0 xs0 iv0 w K) : mg "super" = none := He.free_ok X G (c.g.d.fact 35 (f := .free "super") (by kernel_rfl))
theorem d_law_pot (X : K.In h) (G : h.Ns mainGlobals mg) (c : SaysX P fa fn gds0 xs0 iv0 w K) : ∃ f fd, FunD K "_law_pot" (dAt 10).qual (dAt 10).params (dAt 10).body (dAt 10).scope [] [] f fd ∧ mg "_law_pot" = some (.ref f) := def_get (i := 10) (d := dAt 10) X G c.g.d (by kernel_rfl) (by kernel_rfl) (by kernel_rfl) (by kernel_rfl) (by kernel_rfl) (by kernel_rfl)
theorem sc_law_pot : FnScope ["script"] ["script"] (dAt 10).scope := ⟨by kernel_rfl, by kernel_rfl, by kernel_rfl, by decide +kernel, by kernel_rfl, by decide +kernel, by decide +kernel⟩
theorem b_law_pot (kV doc pm : Value) (an : Option Addr) (cdv ct : Value) (us : List Value) (hl : us.length = 1) : bindArgs (PySem.W.fnOf "_law_pot" (dAt 10).qual (dAt 10).params (dAt 10).body (dAt 10).scope .none kV doc pm an cdv ct) ⟨us, []⟩ = pure ((["script"] : List Str).zip us) := match us, hl with | [_], _ => by kernel_rfl
theorem t_law_pot (X : K.In h) (G : h.Ns mainGlobals mg) (c : SaysX P fa fn gds0 xs0 iv0 w K) : Kept P w K mg base 1 "_law_pot" (dAt 10) (["script"] : List Str) F_law_pot := kept_of (k := 0) (E := E_law_pot) (d_law_pot X G c) sc_law_pot (by decide) rfl rfl (some_getD s_law_pot)
      (fun p hp => by cases hp)
      (fun p hp => by cases hp) (bi_ok X G c) (gd_ok X G c) (fun p hp => by cases hp) (fun p hp => by cases hp)
theorem g_law_pot (X : K.In h) (G : h.Ns mainGlobals mg) (c : SaysX P fa fn gds0 xs0 iv0 w K) : Good P w K mg base 1 "_law_pot" F_law_pot := (t_law_pot X G c).good (by decide) b_law_pot
theorem d_law_take (X : K.In h) (G : h.Ns mainGlobals mg) (c : SaysX P fa fn gds0 xs0 iv0 w K) : ∃ f fd, FunD K "_law_take" (dAt 11).qual (dAt 11).params (dAt 11).body (dAt 11).scope [] [] f fd ∧ mg "_law_take" = some (.ref f) := def_get (i := 11) (d := dAt 11) X G c.g.d (by kernel_rfl) (by kernel_rfl) (by kernel_rfl) (by kernel_rfl) (by kernel_rfl) (by kernel_rfl)
theorem sc_law_take : FnScope ["pot", "many", "cell", "drawn", "mixed"] ["pot", "many"] (dAt 11).scope := ⟨by kernel_rfl, by kernel_rfl, by kernel_rfl, by decide +kernel, by kernel_rfl, by decide +kernel, by decide +kernel⟩
theorem b_law_take (kV doc pm : Value) (an : Option Addr) (cdv ct : Value) (us : List Value) (hl : us.length = 2) : bindArgs (PySem.W.fnOf "_law_take" (dAt 11).qual (dAt 11).params (dAt 11).body (dAt 11).scope .none kV doc pm an cdv ct) ⟨us, []⟩ = pure ((["pot", "many"] : List Str).zip us) := match us, hl with | [_, _], _ => by kernel_rfl
theorem t_law_take (X : K.In h) (G : h.Ns mainGlobals mg) (c : SaysX P fa fn gds0 xs0 iv0 w K) : Kept P w K mg base 1 "_law_take" (dAt 11) (["pot", "many"] : List Str) F_law_take := kept_of (k := 0) (E := E_law_take) (d_law_take X G c) sc_law_take (by decide) rfl rfl (some_getD s_law_take)
      (fun p hp => by cases hp)
      (fun p hp => by cases hp) (bi_ok X G c) (gd_ok X G c) (fun p hp => by cases hp) (fun p hp => by cases hp)
theorem g_law_take (X : K.In h) (G : h.Ns mainGlobals mg) (c : SaysX P fa fn gds0 xs0 iv0 w K) : Good P w K mg base 1 "_law_take" F_law_take := (t_law_take X G c).good (by decide) b_law_take
theorem d_law_row (X : K.In h) (G : h.Ns mainGlobals mg) (c : SaysX P fa fn gds0 xs0 iv0 w K) : ∃ f fd, FunD K "_law_row" (dAt 13).qual (dAt 13).params (dAt 13).body (dAt 13).scope [] [] f fd ∧ mg "_law_row" = some (.ref f) := def_get (i := 13) (d := dAt 13) X G c.g.d (by kernel_rfl) (by kernel_rfl) (by kernel_rfl) (by kernel_rfl) (by kernel_rfl) (by kernel_rfl)
theorem sc_law_row : FnScope ["pot", "many", "most", "turn"] ["pot", "many", "most"] (dAt 13).scope := ⟨by kernel_rfl, by kernel_rfl, by kernel_rfl, by decide +kernel, by kernel_rfl, by decide +kernel, by decide +kernel⟩
theorem b_law_row (kV doc pm : Value) (an : Option Addr) (cdv ct : Value) (us : List Value) (hl : us.length = 3) : bindArgs (PySem.W.fnOf "_law_row" (dAt 13).qual (dAt 13).params (dAt 13).body (dAt 13).scope .none kV doc pm an cdv ct) ⟨us, []⟩ = pure ((["pot", "many", "most"] : List Str).zip us) := match us, hl with | [_, _, _], _ => by kernel_rfl
theorem t_law_row (X : K.In h) (G : h.Ns mainGlobals mg) (c : SaysX P fa fn gds0 xs0 iv0 w K) : Kept P w K mg base 2 "_law_row" (dAt 13) (["pot", "many", "most"] : List Str) F_law_row := kept_of (k := 1) (E := E_law_row) (d_law_row X G c) sc_law_row (by decide) rfl rfl (some_getD s_law_row)
      (fun p hp => by
      simp only [E_law_row, List.mem_cons, List.not_mem_nil, or_false] at hp
      rcases hp with rfl
      · exact ⟨1, by omega, g_law_take X G c⟩)
      (fun p hp => by cases hp) (bi_ok X G c) (gd_ok X G c) (fun p hp => by cases hp) (fun p hp => by cases hp)
theorem g_law_row (X : K.In h) (G : h.Ns mainGlobals mg) (c : SaysX P fa fn gds0 xs0 iv0 w K) : Good P w K mg base 2 "_law_row" F_law_row := (t_law_row X G c).good (by decide) b_law_row
theorem d_p_is_integer (X : K.In h) (G : h.Ns mainGlobals mg) (c : SaysX P fa fn gds0 xs0 iv0 w K) : ∃ f fd, FunD K "is_integer" (dAt 0).qual (dAt 0).params (dAt 0).body (dAt 0).scope [] [] f fd ∧ mg "is_integer" = some (.ref f) := def_get (i := 0) (d := dAt 0) X G c.g.d (by kernel_rfl) (by kernel_rfl) (by kernel_rfl) (by kernel_rfl) (by kernel_rfl) (by kernel_rfl)
theorem sc_p_is_integer : FnScope ["value"] ["value"] (dAt 0).scope := ⟨by kernel_rfl, by kernel_rfl, by kernel_rfl, by decide +kernel, by kernel_rfl, by decide +kernel, by decide +kernel⟩
theorem b_p_is_integer (kV doc pm : Value) (an : Option Addr) (cdv ct : Value) (us : List Value) (hl : us.length = 1) : bindArgs (PySem.W.fnOf "is_integer" (dAt 0).qual (dAt 0).params (dAt 0).body (dAt 0).scope .none kV doc pm an cdv ct) ⟨us, []⟩ = pure ((["value"] : List Str).zip us) := match us, hl with | [_], _ => by kernel_rfl
theorem t_p_is_integer (X : K.In h) (G : h.Ns mainGlobals mg) (c : SaysX P fa fn gds0 xs0 iv0 w K) : Kept P w K mg base 1 "is_integer" (dAt 0) (["value"] : List Str) F_p_is_integer := kept_of (k := 0) (E := E_p_is_integer) (d_p_is_integer X G c) sc_p_is_integer (by decide) rfl rfl (some_getD s_p_is_integer)
      (fun p hp => by cases hp)
      (fun p hp => by cases hp) (bi_ok X G c) (gd_ok X G c) (fun p hp => by cases hp) (fun p hp => by cases hp)
theorem g_p_is_integer (X : K.In h) (G : h.Ns mainGlobals mg) (c : SaysX P fa fn gds0 xs0 iv0 w K) : Good P w K mg base 1 "is_integer" F_p_is_integer := (t_p_is_integer X G c).good (by decide) b_p_is_integer
theorem d_p_are_integers (X : K.In h) (G : h.Ns mainGlobals mg) (c : SaysX P fa fn gds0 xs0 iv0 w K) : ∃ f fd, FunD K "are_integers" (dAt 2).qual (dAt 2).params (dAt 2).body (dAt 2).scope [] [] f fd ∧ mg "are_integers" = some (.ref f) := def_get (i := 2) (d := dAt 2) X G c.g.d (by kernel_rfl) (by kernel_rfl) (by kernel_rfl) (by kernel_rfl) (by kernel_rfl) (by kernel_rfl)
theorem sc_p_are_integers : FnScope ["value", "many", "own"] ["value", "many"] (dAt 2).scope := ⟨by kernel_rfl, by kernel_rfl, by kernel_rfl, by decide +kernel, by kernel_rfl, by decide +kernel, by decide +kernel⟩
theorem b_p_are_integers (kV doc pm : Value) (an : Option Addr) (cdv ct : Value) (us : List Value) (hl : us.length = 2) : bindArgs (PySem.W.fnOf "are_integers" (dAt 2).qual (dAt 2).params (dAt 2).body (dAt 2).scope .none kV doc pm an cdv ct) ⟨us, []⟩ = pure ((["value", "many"] : List Str).zip us) := match us, hl with | [_, _], _ => by kernel_rfl
theorem t_p_are_integers (X : K.In h) (G : h.Ns mainGlobals mg) (c : SaysX P fa fn gds0 xs0 iv0 w K) : Kept P w K mg base 2 "are_integers" (dAt 2) (["value", "many"] : List Str) F_p_are_integers := kept_of (k := 1) (E := E_p_are_integers) (d_p_are_integers X G c) sc_p_are_integers (by decide) rfl rfl (some_getD s_p_are_integers)
      (fun p hp => by
      simp only [E_p_are_integers, List.mem_cons, List.not_mem_nil, or_false] at hp
      rcases hp with rfl
      · exact ⟨1, by omega, g_p_is_integer X G c⟩)
      (fun p hp => by cases hp) (bi_ok X G c) (gd_ok X G c) (fun p hp => by cases hp) (fun p hp => by cases hp)
theorem g_p_are_integers (X : K.In h) (G : h.Ns mainGlobals mg) (c : SaysX P fa fn gds0 xs0 iv0 w K) : Good P w K mg base 2 "are_integers" F_p_are_integers := (t_p_are_integers X G c).good (by decide) b_p_are_integers
theorem d_p_is_triple (X : K.In h) (G : h.Ns mainGlobals mg) (c : SaysX P fa fn gds0 xs0 iv0 w K) : ∃ f fd, FunD K "is_triple" (dAt 4).qual (dAt 4).params (dAt 4).body (dAt 4).scope [] [] f fd ∧ mg "is_triple" = some (.ref f) := def_get (i := 4) (d := dAt 4) X G c.g.d (by kernel_rfl) (by kernel_rfl) (by kernel_rfl) (by kernel_rfl) (by kernel_rfl) (by kernel_rfl)
theorem sc_p_is_triple : FnScope ["value", "a", "b", "c"] ["value"] (dAt 4).scope := ⟨by kernel_rfl, by kernel_rfl, by kernel_rfl, by decide +kernel, by kernel_rfl, by decide +kernel, by decide +kernel⟩
theorem b_p_is_triple (kV doc pm : Value) (an : Option Addr) (cdv ct : Value) (us : List Value) (hl : us.length = 1) : bindArgs (PySem.W.fnOf "is_triple" (dAt 4).qual (dAt 4).params (dAt 4).body (dAt 4).scope .none kV doc pm an cdv ct) ⟨us, []⟩ = pure ((["value"] : List Str).zip us) := match us, hl with | [_], _ => by kernel_rfl
theorem t_p_is_triple (X : K.In h) (G : h.Ns mainGlobals mg) (c : SaysX P fa fn gds0 xs0 iv0 w K) : Kept P w K mg base 3 "is_triple" (dAt 4) (["value"] : List Str) F_p_is_triple := kept_of (k := 2) (E := E_p_is_triple) (d_p_is_triple X G c) sc_p_is_triple (by decide) rfl rfl (some_getD s_p_is_triple)
      (fun p hp => by
      simp only [E_p_is_triple, List.mem_cons, List.not_mem_nil, or_false] at hp
      rcases hp with rfl
      · exact ⟨2, by omega, g_p_are_integers X G c⟩)
      (fun p hp => by cases hp) (bi_ok X G c) (gd_ok X G c) (fun p hp => by cases hp) (fun p hp => by cases hp)
theorem g_p_is_triple (X : K.In h) (G : h.Ns mainGlobals mg) (c : SaysX P fa fn gds0 xs0 iv0 w K) : Good P w K mg base 3 "is_triple" F_p_is_triple := (t_p_is_triple X G c).good (by decide) b_p_is_triple
theorem d_p_check_triple (X : K.In h) (G : h.Ns mainGlobals mg) (c : SaysX P fa fn gds0 xs0 iv0 w K) : ∃ f fd, FunD K "check_triple" (dAt 5).qual (dAt 5).params (dAt 5).body (dAt 5).scope [] [] f fd ∧ mg "check_triple" = some (.ref f) := def_get (i := 5) (d := dAt 5) X G c.g.d (by kernel_rfl) (by kernel_rfl) (by kernel_rfl) (by kernel_rfl) (by kernel_rfl) (by kernel_rfl)
theorem sc_p_check_triple : FnScope ["rows"] ["rows"] (dAt 5).scope := ⟨by kernel_rfl, by kernel_rfl, by kernel_rfl, by decide +kernel, by kernel_rfl, by decide +kernel, by decide +kernel⟩
theorem b_p_check_triple (kV doc pm : Value) (an : Option Addr) (cdv ct : Value) (us : List Value) (hl : us.length = 1) : bindArgs (PySem.W.fnOf "check_triple" (dAt 5).qual (dAt 5).params (dAt 5).body (dAt 5).scope .none kV doc pm an cdv ct) ⟨us, []⟩ = pure ((["rows"] : List Str).zip us) := match us, hl with | [_], _ => by kernel_rfl
theorem t_p_check_triple (X : K.In h) (G : h.Ns mainGlobals mg) (c : SaysX P fa fn gds0 xs0 iv0 w K) : Kept P w K mg base 4 "check_triple" (dAt 5) (["rows"] : List Str) F_p_check_triple := kept_of (k := 3) (E := E_p_check_triple) (d_p_check_triple X G c) sc_p_check_triple (by decide) rfl rfl (some_getD s_p_check_triple)
      (fun p hp => by
      simp only [E_p_check_triple, List.mem_cons, List.not_mem_nil, or_false] at hp
      rcases hp with rfl
      · exact ⟨3, by omega, g_p_is_triple X G c⟩)
      (fun p hp => by cases hp) (bi_ok X G c) (gd_ok X G c) (xs_ok X G c) (fun p hp => ⟨sup_ok X G c, by decide⟩)
theorem g_p_check_triple (X : K.In h) (G : h.Ns mainGlobals mg) (c : SaysX P fa fn gds0 xs0 iv0 w K) : Good P w K mg base 4 "check_triple" F_p_check_triple := (t_p_check_triple X G c).good (by decide) b_p_check_triple
theorem d_p_is_natural (X : K.In h) (G : h.Ns mainGlobals mg) (c : SaysX P fa fn gds0 xs0 iv0 w K) : ∃ f fd, FunD K "is_natural" (dAt 1).qual (dAt 1).params (dAt 1).body (dAt 1).scope [] [] f fd ∧ mg "is_natural" = some (.ref f) := def_get (i := 1) (d := dAt 1) X G c.g.d (by kernel_rfl) (by kernel_rfl) (by kernel_rfl) (by kernel_rfl) (by kernel_rfl) (by kernel_rfl)
theorem sc_p_is_natural : FnScope ["value"] ["value"] (dAt 1).scope := ⟨by kernel_rfl, by kernel_rfl, by kernel_rfl, by decide +kernel, by kernel_rfl, by decide +kernel, by decide +kernel⟩
theorem b_p_is_natural (kV doc pm : Value) (an : Option Addr) (cdv ct : Value) (us : List Value) (hl : us.length = 1) : bindArgs (PySem.W.fnOf "is_natural" (dAt 1).qual (dAt 1).params (dAt 1).body (dAt 1).scope .none kV doc pm an cdv ct) ⟨us, []⟩ = pure ((["value"] : List Str).zip us) := match us, hl with | [_], _ => by kernel_rfl
theorem t_p_is_natural (X : K.In h) (G : h.Ns mainGlobals mg) (c : SaysX P fa fn gds0 xs0 iv0 w K) : Kept P w K mg base 2 "is_natural" (dAt 1) (["value"] : List Str) F_p_is_natural := kept_of (k := 1) (E := E_p_is_natural) (d_p_is_natural X G c) sc_p_is_natural (by decide) rfl rfl (some_getD s_p_is_natural)
      (fun p hp => by
      simp only [E_p_is_natural, List.mem_cons, List.not_mem_nil, or_false] at hp
      rcases hp with rfl
      · exact ⟨1, by omega, g_p_is_integer X G c⟩)
      (fun p hp => by cases hp) (bi_ok X G c) (gd_ok X G c) (fun p hp => by cases hp) (fun p hp => by cases hp)
theorem g_p_is_natural (X : K.In h) (G : h.Ns mainGlobals mg) (c : SaysX P fa fn gds0 xs0 iv0 w K) : Good P w K mg base 2 "is_natural" F_p_is_natural := (t_p_is_natural X G c).good (by decide) b_p_is_natural
theorem d_p_check_below (X : K.In h) (G : h.Ns mainGlobals mg) (c : SaysX P fa fn gds0 xs0 iv0 w K) : ∃ f fd, FunD K "check_below" (dAt 3).qual (dAt 3).params (dAt 3).body (dAt 3).scope [] [] f fd ∧ mg "check_below" = some (.ref f) := def_get (i := 3) (d := dAt 3) X G c.g.d (by kernel_rfl) (by kernel_rfl) (by kernel_rfl) (by kernel_rfl) (by kernel_rfl) (by kernel_rfl)
theorem sc_p_check_below : FnScope ["value", "many"] ["value", "many"] (dAt 3).scope := ⟨by kernel_rfl, by kernel_rfl, by kernel_rfl, by decide +kernel, by kernel_rfl, by decide +kernel, by decide +kernel⟩
theorem b_p_check_below (kV doc pm : Value) (an : Option Addr) (cdv ct : Value) (us : List Value) (hl : us.length = 2) : bindArgs (PySem.W.fnOf "check_below" (dAt 3).qual (dAt 3).params (dAt 3).body (dAt 3).scope .none kV doc pm an cdv ct) ⟨us, []⟩ = pure ((["value", "many"] : List Str).zip us) := match us, hl with | [_, _], _ => by kernel_rfl
theorem t_p_check_below (X : K.In h) (G : h.Ns mainGlobals mg) (c : SaysX P fa fn gds0 xs0 iv0 w K) : Kept P w K mg base 3 "check_below" (dAt 3) (["value", "many"] : List Str) F_p_check_below := kept_of (k := 2) (E := E_p_check_below) (d_p_check_below X G c) sc_p_check_below (by decide) rfl rfl (some_getD s_p_check_below)
      (fun p hp => by
      simp only [E_p_check_below, List.mem_cons, List.not_mem_nil, or_false] at hp
      rcases hp with rfl
      · exact ⟨2, by omega, g_p_is_natural X G c⟩)
      (fun p hp => by cases hp) (bi_ok X G c) (gd_ok X G c) (xs_ok X G c) (fun p hp => ⟨sup_ok X G c, by decide⟩)
theorem g_p_check_below (X : K.In h) (G : h.Ns mainGlobals mg) (c : SaysX P fa fn gds0 xs0 iv0 w K) : Good P w K mg base 3 "check_below" F_p_check_below := (t_p_check_below X G c).good (by decide) b_p_check_below
theorem d_p_exchanged_triple (X : K.In h) (G : h.Ns mainGlobals mg) (c : SaysX P fa fn gds0 xs0 iv0 w K) : ∃ f fd, FunD K "exchanged_triple" (dAt 6).qual (dAt 6).params (dAt 6).body (dAt 6).scope [] [] f fd ∧ mg "exchanged_triple" = some (.ref f) := def_get (i := 6) (d := dAt 6) X G c.g.d (by kernel_rfl) (by kernel_rfl) (by kernel_rfl) (by kernel_rfl) (by kernel_rfl) (by kernel_rfl)
theorem sc_p_exchanged_triple : FnScope ["rows", "index", "one", "other", "at", "own"] ["rows", "index"] (dAt 6).scope := ⟨by kernel_rfl, by kernel_rfl, by kernel_rfl, by decide +kernel, by kernel_rfl, by decide +kernel, by decide +kernel⟩
theorem b_p_exchanged_triple (kV doc pm : Value) (an : Option Addr) (cdv ct : Value) (us : List Value) (hl : us.length = 2) : bindArgs (PySem.W.fnOf "exchanged_triple" (dAt 6).qual (dAt 6).params (dAt 6).body (dAt 6).scope .none kV doc pm an cdv ct) ⟨us, []⟩ = pure ((["rows", "index"] : List Str).zip us) := match us, hl with | [_, _], _ => by kernel_rfl
theorem t_p_exchanged_triple (X : K.In h) (G : h.Ns mainGlobals mg) (c : SaysX P fa fn gds0 xs0 iv0 w K) : Kept P w K mg base 1 "exchanged_triple" (dAt 6) (["rows", "index"] : List Str) F_p_exchanged_triple := kept_of (k := 0) (E := E_p_exchanged_triple) (d_p_exchanged_triple X G c) sc_p_exchanged_triple (by decide) rfl rfl (some_getD s_p_exchanged_triple)
      (fun p hp => by cases hp)
      (fun p hp => by cases hp) (bi_ok X G c) (gd_ok X G c) (fun p hp => by cases hp) (fun p hp => by cases hp)
theorem g_p_exchanged_triple (X : K.In h) (G : h.Ns mainGlobals mg) (c : SaysX P fa fn gds0 xs0 iv0 w K) : Good P w K mg base 1 "exchanged_triple" F_p_exchanged_triple := (t_p_exchanged_triple X G c).good (by decide) b_p_exchanged_triple
theorem d_p_triple_exchanged (X : K.In h) (G : h.Ns mainGlobals mg) (c : SaysX P fa fn gds0 xs0 iv0 w K) : ∃ f fd, FunD K "triple_exchanged" (dAt 7).qual (dAt 7).params (dAt 7).body (dAt 7).scope [] [] f fd ∧ mg "triple_exchanged" = some (.ref f) := def_get (i := 7) (d := dAt 7) X G c.g.d (by kernel_rfl) (by kernel_rfl) (by kernel_rfl) (by kernel_rfl) (by kernel_rfl) (by kernel_rfl)
theorem sc_p_triple_exchanged : FnScope ["rows", "index"] ["rows", "index"] (dAt 7).scope := ⟨by kernel_rfl, by kernel_rfl, by kernel_rfl, by decide +kernel, by kernel_rfl, by decide +kernel, by decide +kernel⟩
theorem b_p_triple_exchanged (kV doc pm : Value) (an : Option Addr) (cdv ct : Value) (us : List Value) (hl : us.length = 2) : bindArgs (PySem.W.fnOf "triple_exchanged" (dAt 7).qual (dAt 7).params (dAt 7).body (dAt 7).scope .none kV doc pm an cdv ct) ⟨us, []⟩ = pure ((["rows", "index"] : List Str).zip us) := match us, hl with | [_, _], _ => by kernel_rfl
theorem t_p_triple_exchanged (X : K.In h) (G : h.Ns mainGlobals mg) (c : SaysX P fa fn gds0 xs0 iv0 w K) : Kept P w K mg base 5 "triple_exchanged" (dAt 7) (["rows", "index"] : List Str) F_p_triple_exchanged := kept_of (k := 4) (E := E_p_triple_exchanged) (d_p_triple_exchanged X G c) sc_p_triple_exchanged (by decide) rfl rfl (some_getD s_p_triple_exchanged)
      (fun p hp => by
      simp only [E_p_triple_exchanged, List.mem_cons, List.not_mem_nil, or_false] at hp
      rcases hp with rfl | rfl | rfl
      · exact ⟨4, by omega, g_p_check_triple X G c⟩
      · exact ⟨3, by omega, g_p_check_below X G c⟩
      · exact ⟨1, by omega, g_p_exchanged_triple X G c⟩)
      (fun p hp => by cases hp) (bi_ok X G c) (gd_ok X G c) (fun p hp => by cases hp) (fun p hp => by cases hp)
theorem g_p_triple_exchanged (X : K.In h) (G : h.Ns mainGlobals mg) (c : SaysX P fa fn gds0 xs0 iv0 w K) : Good P w K mg base 5 "triple_exchanged" F_p_triple_exchanged := (t_p_triple_exchanged X G c).good (by decide) b_p_triple_exchanged
theorem k_p_triple_exchanged_index_rows (X : K.In h) (G : h.Ns mainGlobals mg) (c : SaysX P fa fn gds0 xs0 iv0 w K) : GoodK P w K mg base 5 "triple_exchanged" ["index", "rows"] (lenF 2 (pmF [1, 0] F_p_triple_exchanged)) := good_kw (t_p_triple_exchanged X G c) (by decide) (fun kV doc pm an cdv ct ws hl => match ws, hl with | [_, _], _ => by kernel_rfl)
theorem d_p_row_down (X : K.In h) (G : h.Ns mainGlobals mg) (c : SaysX P fa fn gds0 xs0 iv0 w K) : ∃ f fd, FunD K "row_down" (dAt 9).qual (dAt 9).params (dAt 9).body (dAt 9).scope [] [] f fd ∧ mg "row_down" = some (.ref f) := def_get (i := 9) (d := dAt 9) X G c.g.d (by kernel_rfl) (by kernel_rfl) (by kernel_rfl) (by kernel_rfl) (by kernel_rfl) (by kernel_rfl)
theorem sc_p_row_down : FnScope ["rows", "found"] ["rows"] (dAt 9).scope := ⟨by kernel_rfl, by kernel_rfl, by kernel_rfl, by decide +kernel, by kernel_rfl, by decide +kernel, by decide +kernel⟩
theorem b_p_row_down (kV doc pm : Value) (an : Option Addr) (cdv ct : Value) (us : List Value) (hl : us.length = 1) : bindArgs (PySem.W.fnOf "row_down" (dAt 9).qual (dAt 9).params (dAt 9).body (dAt 9).scope .none kV doc pm an cdv ct) ⟨us, []⟩ = pure ((["rows"] : List Str).zip us) := match us, hl with | [_], _ => by kernel_rfl
theorem t_p_row_down (X : K.In h) (G : h.Ns mainGlobals mg) (c : SaysX P fa fn gds0 xs0 iv0 w K) : Kept P w K mg base 5 "row_down" (dAt 9) (["rows"] : List Str) F_p_row_down := kept_of (k := 4) (E := E_p_row_down) (d_p_row_down X G c) sc_p_row_down (by decide) rfl rfl (some_getD s_p_row_down)
      (fun p hp => by
      simp only [E_p_row_down, List.mem_cons, List.not_mem_nil, or_false] at hp
      rcases hp with rfl | rfl
      · exact ⟨4, by omega, g_p_check_triple X G c⟩
      · exact ⟨1, by omega, g_p_exchanged_triple X G c⟩)
      (fun p hp => by cases hp) (bi_ok X G c) (gd_ok X G c) (fun p hp => by cases hp) (fun p hp => by cases hp)
theorem g_p_row_down (X : K.In h) (G : h.Ns mainGlobals mg) (c : SaysX P fa fn gds0 xs0 iv0 w K) : Good P w K mg base 5 "row_down" F_p_row_down := (t_p_row_down X G c).good (by decide) b_p_row_down
theorem k_p_row_down_rows (X : K.In h) (G : h.Ns mainGlobals mg) (c : SaysX P fa fn gds0 xs0 iv0 w K) : GoodK P w K mg base 5 "row_down" ["rows"] (lenF 1 (pmF [0] F_p_row_down)) := good_kw (t_p_row_down X G c) (by decide) (fun kV doc pm an cdv ct ws hl => match ws, hl with | [_], _ => by kernel_rfl)
theorem d_law_step (X : K.In h) (G : h.Ns mainGlobals mg) (c : SaysX P fa fn gds0 xs0 iv0 w K) : ∃ f fd, FunD K "_law_step" (dAt 15).qual (dAt 15).params (dAt 15).body (dAt 15).scope [] [] f fd ∧ mg "_law_step" = some (.ref f) := def_get (i := 15) (d := dAt 15) X G c.g.d (by kernel_rfl) (by kernel_rfl) (by kernel_rfl) (by kernel_rfl) (by kernel_rfl) (by kernel_rfl)
theorem sc_law_step : FnScope ["rows", "at", "found"] ["rows", "at"] (dAt 15).scope := ⟨by kernel_rfl, by kernel_rfl, by kernel_rfl, by decide +kernel, by kernel_rfl, by decide +kernel, by decide +kernel⟩
theorem b_law_step (kV doc pm : Value) (an : Option Addr) (cdv ct : Value) (us : List Value) (hl : us.length = 2) : bindArgs (PySem.W.fnOf "_law_step" (dAt 15).qual (dAt 15).params (dAt 15).body (dAt 15).scope .none kV doc pm an cdv ct) ⟨us, []⟩ = pure ((["rows", "at"] : List Str).zip us) := match us, hl with | [_, _], _ => by kernel_rfl
theorem t_law_step (X : K.In h) (G : h.Ns mainGlobals mg) (c : SaysX P fa fn gds0 xs0 iv0 w K) : Kept P w K mg base 1 "_law_step" (dAt 15) (["rows", "at"] : List Str) F_law_step := kept_of (k := 0) (E := E_law_step) (d_law_step X G c) sc_law_step (by decide) rfl rfl (some_getD s_law_step)
      (fun p hp => by cases hp)
      (fun p hp => by cases hp) (bi_ok X G c) (gd_ok X G c) (fun p hp => by cases hp) (fun p hp => by cases hp)
theorem g_law_step (X : K.In h) (G : h.Ns mainGlobals mg) (c : SaysX P fa fn gds0 xs0 iv0 w K) : Good P w K mg base 1 "_law_step" F_law_step := (t_law_step X G c).good (by decide) b_law_step
theorem d_law_same (X : K.In h) (G : h.Ns mainGlobals mg) (c : SaysX P fa fn gds0 xs0 iv0 w K) : ∃ f fd, FunD K "_law_same" (dAt 12).qual (dAt 12).params (dAt 12).body (dAt 12).scope [] [] f fd ∧ mg "_law_same" = some (.ref f) := def_get (i := 12) (d := dAt 12) X G c.g.d (by kernel_rfl) (by kernel_rfl) (by kernel_rfl) (by kernel_rfl) (by kernel_rfl) (by kernel_rfl)
theorem sc_law_same : FnScope ["got", "due", "k"] ["got", "due"] (dAt 12).scope := ⟨by kernel_rfl, by kernel_rfl, by kernel_rfl, by decide +kernel, by kernel_rfl, by decide +kernel, by decide +kernel⟩
theorem b_law_same (kV doc pm : Value) (an : Option Addr) (cdv ct : Value) (us : List Value) (hl : us.length = 2) : bindArgs (PySem.W.fnOf "_law_same" (dAt 12).qual (dAt 12).params (dAt 12).body (dAt 12).scope .none kV doc pm an cdv ct) ⟨us, []⟩ = pure ((["got", "due"] : List Str).zip us) := match us, hl with | [_, _], _ => by kernel_rfl
theorem t0_law_same (X : K.In h) (G : h.Ns mainGlobals mg) (c : SaysX P fa fn gds0 xs0 iv0 w K) : ∀ n, Kept P w K mg base (1 + n) "_law_same" (dAt 12) (["got", "due"] : List Str) (F_law_same n)
  | 0 => kept_stuck (k := 0) sc_law_same (d_law_same X G c)
  | n + 1 => kept_of (k := 1 + n) (E := E_law_same (F_law_same n)) (d_law_same X G c) sc_law_same (Nat.le_of_ble_eq_true rfl) rfl rfl (some_getD (s_law_same _))
      (fun p hp => by
      simp only [E_law_same, List.mem_cons, List.not_mem_nil, or_false] at hp
      rcases hp with rfl
      · exact ⟨1 + n, Nat.le_refl _, (t0_law_same X G c n).good (by decide) b_law_same⟩)
      (fun p hp => by cases hp) (bi_ok X G c) (gd_ok X G c) (fun p hp => by cases hp) (fun p hp => by cases hp)
theorem t_law_same (X : K.In h) (G : h.Ns mainGlobals mg) (c : SaysX P fa fn gds0 xs0 iv0 w K) : Kept P w K mg base 9 "_law_same" (dAt 12) (["got", "due"] : List Str) (F_law_same 8) := Kept.up (by decide) (t0_law_same X G c 8)
theorem g_law_same (X : K.In h) (G : h.Ns mainGlobals mg) (c : SaysX P fa fn gds0 xs0 iv0 w K) : Good P w K mg base 9 "_law_same" (F_law_same 8) := (t_law_same X G c).good (by decide) b_law_same
theorem d_law_is_right (X : K.In h) (G : h.Ns mainGlobals mg) (c : SaysX P fa fn gds0 xs0 iv0 w K) : ∃ f fd, FunD K "_law_is_right" (dAt 16).qual (dAt 16).params (dAt 16).body (dAt 16).scope [] [] f fd ∧ mg "_law_is_right" = some (.ref f) := def_get (i := 16) (d := dAt 16) X G c.g.d (by kernel_rfl) (by kernel_rfl) (by kernel_rfl) (by kernel_rfl) (by kernel_rfl) (by kernel_rfl)
theorem sc_law_is_right : FnScope ["rows", "a", "b", "c"] ["rows"] (dAt 16).scope := ⟨by kernel_rfl, by kernel_rfl, by kernel_rfl, by decide +kernel, by kernel_rfl, by decide +kernel, by decide +kernel⟩
theorem b_law_is_right (kV doc pm : Value) (an : Option Addr) (cdv ct : Value) (us : List Value) (hl : us.length = 1) : bindArgs (PySem.W.fnOf "_law_is_right" (dAt 16).qual (dAt 16).params (dAt 16).body (dAt 16).scope .none kV doc pm an cdv ct) ⟨us, []⟩ = pure ((["rows"] : List Str).zip us) := match us, hl with | [_], _ => by kernel_rfl
theorem t_law_is_right (X : K.In h) (G : h.Ns mainGlobals mg) (c : SaysX P fa fn gds0 xs0 iv0 w K) : Kept P w K mg base 1 "_law_is_right" (dAt 16) (["rows"] : List Str) F_law_is_right := kept_of (k := 0) (E := E_law_is_right) (d_law_is_right X G c) sc_law_is_right (by decide) rfl rfl (some_getD s_law_is_right)
      (fun p hp => by cases hp)
      (fun p hp => by cases hp) (bi_ok X G c) (gd_ok X G c) (fun p hp => by cases hp) (fun p hp => by cases hp)
theorem g_law_is_right (X : K.In h) (G : h.Ns mainGlobals mg) (c : SaysX P fa fn gds0 xs0 iv0 w K) : Good P w K mg base 1 "_law_is_right" F_law_is_right := (t_law_is_right X G c).good (by decide) b_law_is_right
theorem d_law_is_tuple (X : K.In h) (G : h.Ns mainGlobals mg) (c : SaysX P fa fn gds0 xs0 iv0 w K) : ∃ f fd, FunD K "_law_is_tuple" (dAt 14).qual (dAt 14).params (dAt 14).body (dAt 14).scope [] [] f fd ∧ mg "_law_is_tuple" = some (.ref f) := def_get (i := 14) (d := dAt 14) X G c.g.d (by kernel_rfl) (by kernel_rfl) (by kernel_rfl) (by kernel_rfl) (by kernel_rfl) (by kernel_rfl)
theorem sc_law_is_tuple : FnScope ["value", "size", "own"] ["value", "size"] (dAt 14).scope := ⟨by kernel_rfl, by kernel_rfl, by kernel_rfl, by decide +kernel, by kernel_rfl, by decide +kernel, by decide +kernel⟩
theorem b_law_is_tuple (kV doc pm : Value) (an : Option Addr) (cdv ct : Value) (us : List Value) (hl : us.length = 2) : bindArgs (PySem.W.fnOf "_law_is_tuple" (dAt 14).qual (dAt 14).params (dAt 14).body (dAt 14).scope .none kV doc pm an cdv ct) ⟨us, []⟩ = pure ((["value", "size"] : List Str).zip us) := match us, hl with | [_, _], _ => by kernel_rfl
theorem t_law_is_tuple (X : K.In h) (G : h.Ns mainGlobals mg) (c : SaysX P fa fn gds0 xs0 iv0 w K) : Kept P w K mg base 1 "_law_is_tuple" (dAt 14) (["value", "size"] : List Str) F_law_is_tuple := kept_of (k := 0) (E := E_law_is_tuple) (d_law_is_tuple X G c) sc_law_is_tuple (by decide) rfl rfl (some_getD s_law_is_tuple)
      (fun p hp => by cases hp)
      (fun p hp => by cases hp) (bi_ok X G c) (gd_ok X G c) (fun p hp => by cases hp) (fun p hp => by cases hp)
theorem g_law_is_tuple (X : K.In h) (G : h.Ns mainGlobals mg) (c : SaysX P fa fn gds0 xs0 iv0 w K) : Good P w K mg base 1 "_law_is_tuple" F_law_is_tuple := (t_law_is_tuple X G c).good (by decide) b_law_is_tuple
theorem d_p_triple_at (X : K.In h) (G : h.Ns mainGlobals mg) (c : SaysX P fa fn gds0 xs0 iv0 w K) : ∃ f fd, FunD K "triple_at" (dAt 8).qual (dAt 8).params (dAt 8).body (dAt 8).scope [] [] f fd ∧ mg "triple_at" = some (.ref f) := def_get (i := 8) (d := dAt 8) X G c.g.d (by kernel_rfl) (by kernel_rfl) (by kernel_rfl) (by kernel_rfl) (by kernel_rfl) (by kernel_rfl)
theorem sc_p_triple_at : FnScope ["row", "own", "rows", "index"] ["row"] (dAt 8).scope := ⟨by kernel_rfl, by kernel_rfl, by kernel_rfl, by decide +kernel, by kernel_rfl, by decide +kernel, by decide +kernel⟩
theorem b_p_triple_at (kV doc pm : Value) (an : Option Addr) (cdv ct : Value) (us : List Value) (hl : us.length = 1) : bindArgs (PySem.W.fnOf "triple_at" (dAt 8).qual (dAt 8).params (dAt 8).body (dAt 8).scope .none kV doc pm an cdv ct) ⟨us, []⟩ = pure ((["row"] : List Str).zip us) := match us, hl with | [_], _ => by kernel_rfl
theorem t_p_triple_at (X : K.In h) (G : h.Ns mainGlobals mg) (c : SaysX P fa fn gds0 xs0 iv0 w K) : Kept P w K mg base 3 "triple_at" (dAt 8) (["row"] : List Str) F_p_triple_at := kept_of (k := 2) (E := E_p_triple_at) (d_p_triple_at X G c) sc_p_triple_at (by decide) rfl rfl (some_getD s_p_triple_at)
      (fun p hp => by
      simp only [E_p_triple_at, List.mem_cons, List.not_mem_nil, or_false] at hp
      rcases hp with rfl | rfl
      · exact ⟨1, by omega, g_p_exchanged_triple X G c⟩
      · exact ⟨2, by omega, g_p_is_natural X G c⟩)
      (fun p hp => by cases hp) (bi_ok X G c) (gd_ok X G c) (xs_ok X G c) (fun p hp => ⟨sup_ok X G c, by decide⟩)
theorem g_p_triple_at (X : K.In h) (G : h.Ns mainGlobals mg) (c : SaysX P fa fn gds0 xs0 iv0 w K) : Good P w K mg base 3 "triple_at" F_p_triple_at := (t_p_triple_at X G c).good (by decide) b_p_triple_at
theorem k_p_triple_at_row (X : K.In h) (G : h.Ns mainGlobals mg) (c : SaysX P fa fn gds0 xs0 iv0 w K) : GoodK P w K mg base 3 "triple_at" ["row"] (lenF 1 (pmF [0] F_p_triple_at)) := good_kw (t_p_triple_at X G c) (by decide) (fun kV doc pm an cdv ct ws hl => match ws, hl with | [_], _ => by kernel_rfl)
theorem d_law_asked (X : K.In h) (G : h.Ns mainGlobals mg) (c : SaysX P fa fn gds0 xs0 iv0 w K) : ∃ f fd, FunD K "_law_asked" (dAt 17).qual (dAt 17).params (dAt 17).body (dAt 17).scope [] [] f fd ∧ mg "_law_asked" = some (.ref f) := def_get (i := 17) (d := dAt 17) X G c.g.d (by kernel_rfl) (by kernel_rfl) (by kernel_rfl) (by kernel_rfl) (by kernel_rfl) (by kernel_rfl)
theorem sc_law_asked : FnScope ["value", "at", "way", "caught", "told", "e", "kinds"] ["value", "at", "way"] (dAt 17).scope := ⟨by kernel_rfl, by kernel_rfl, by kernel_rfl, by decide +kernel, by kernel_rfl, by decide +kernel, by decide +kernel⟩
theorem b_law_asked (kV doc pm : Value) (an : Option Addr) (cdv ct : Value) (us : List Value) (hl : us.length = 3) : bindArgs (PySem.W.fnOf "_law_asked" (dAt 17).qual (dAt 17).params (dAt 17).body (dAt 17).scope .none kV doc pm an cdv ct) ⟨us, []⟩ = pure ((["value", "at", "way"] : List Str).zip us) := match us, hl with | [_, _, _], _ => by kernel_rfl
theorem t_law_asked (X : K.In h) (G : h.Ns mainGlobals mg) (c : SaysX P fa fn gds0 xs0 iv0 w K) : Kept P w K mg base 6 "_law_asked" (dAt 17) (["value", "at", "way"] : List Str) F_law_asked := kept_of (k := 5) (E := E_law_asked) (d_law_asked X G c) sc_law_asked (by decide) rfl rfl (some_getD s_law_asked)
      (fun p hp => by
      simp only [E_law_asked, List.mem_cons, List.not_mem_nil, or_false] at hp
      rcases hp with rfl | rfl | rfl
      · exact ⟨5, by omega, g_p_triple_exchanged X G c⟩
      · exact ⟨5, by omega, g_p_row_down X G c⟩
      · exact ⟨3, by omega, g_p_triple_at X G c⟩)
      (fun p hp => by cases hp) (bi_ok X G c) (gd_ok X G c) (xs_ok X G c) (fun p hp => ⟨sup_ok X G c, by decide⟩)
theorem g_law_asked (X : K.In h) (G : h.Ns mainGlobals mg) (c : SaysX P fa fn gds0 xs0 iv0 w K) : Good P w K mg base 6 "_law_asked" F_law_asked := (t_law_asked X G c).good (by decide) b_law_asked
theorem d_p_law (X : K.In h) (G : h.Ns mainGlobals mg) (c : SaysX P fa fn gds0 xs0 iv0 w K) : ∃ f fd, FunD K "law" (dAt 18).qual (dAt 18).params (dAt 18).body (dAt 18).scope [] [] f fd ∧ mg "law" = some (.ref f) := def_get (i := 18) (d := dAt 18) X G c.g.d (by kernel_rfl) (by kernel_rfl) (by kernel_rfl) (by kernel_rfl) (by kernel_rfl) (by kernel_rfl)
theorem sc_p_law : FnScope ["script", "pot", "turn", "row", "rows", "at", "once", "down", "now", "step", "told", "near", "place", "some", "value", "due", "odd", "wrong"] ["script"] (dAt 18).scope := ⟨by kernel_rfl, by kernel_rfl, by kernel_rfl, by decide +kernel, by kernel_rfl, by decide +kernel, by decide +kernel⟩
theorem b_p_law (kV doc pm : Value) (an : Option Addr) (cdv ct : Value) (us : List Value) (hl : us.length = 1) : bindArgs (PySem.W.fnOf "law" (dAt 18).qual (dAt 18).params (dAt 18).body (dAt 18).scope .none kV doc pm an cdv ct) ⟨us, []⟩ = pure ((["script"] : List Str).zip us) := match us, hl with | [_], _ => by kernel_rfl
theorem t_p_law (X : K.In h) (G : h.Ns mainGlobals mg) (c : SaysX P fa fn gds0 xs0 iv0 w K) : Kept P w K mg base 10 "law" (dAt 18) (["script"] : List Str) F_p_law := kept_of (k := 9) (E := E_p_law) (d_p_law X G c) sc_p_law (by decide) rfl rfl (some_getD s_p_law)
      (fun p hp => by
      simp only [E_p_law, List.mem_cons, List.not_mem_nil, or_false] at hp
      rcases hp with rfl | rfl | rfl | rfl | rfl | rfl | rfl | rfl | rfl | rfl | rfl
      · exact ⟨1, by omega, g_law_pot X G c⟩
      · exact ⟨2, by omega, g_law_row X G c⟩
      · exact ⟨1, by omega, g_law_take X G c⟩
      · exact ⟨5, by omega, g_p_triple_exchanged X G c⟩
      · exact ⟨5, by omega, g_p_row_down X G c⟩
      · exact ⟨1, by omega, g_law_step X G c⟩
      · exact ⟨9, by omega, g_law_same X G c⟩
      · exact ⟨1, by omega, g_law_is_right X G c⟩
      · exact ⟨1, by omega, g_law_is_tuple X G c⟩
      · exact ⟨6, by omega, g_law_asked X G c⟩
      · exact ⟨3, by omega, g_p_triple_at X G c⟩)
      (fun p hp => by
      simp only [E_p_law, List.mem_cons, List.not_mem_nil, or_false] at hp
      rcases hp with rfl | rfl | rfl
      · exact ⟨5, by omega, k_p_triple_exchanged_index_rows X G c⟩
      · exact ⟨3, by omega, k_p_triple_at_row X G c⟩
      · exact ⟨5, by omega, k_p_row_down_rows X G c⟩) (bi_ok X G c) (gd_ok X G c) (fun p hp => by cases hp) (fun p hp => by cases hp)
theorem g_p_law (X : K.In h) (G : h.Ns mainGlobals mg) (c : SaysX P fa fn gds0 xs0 iv0 w K) : Good P w K mg base 10 "law" F_p_law := (t_p_law X G c).good (by decide) b_p_law
end
/-! ### the head -/
def nameOf : Stmt → Option Str
  | .FunctionDef name _ _ _ _ _ _ _ _ _ => some name
  | .ClassDef (name := name) .. => some name
  | .Assign [.Name x _] _ _ => some x
  | _ => none
abbrev hk : PySem.W.Hook := hookX 4 R.prog fa fn gds0 xs0 iv0
def ob (s : PySem.W.SharedT) : AlX := lookX 4 R.prog fa fn gds0 xs0 (HandSHeadRun.getT s)
theorem ob_eq (s : PySem.W.SharedT) : ob s = hk.obs s.abs := lookX_eq (HandSHeadRun.getT_eq s)
def nms : List Str := ((R.prog.main.body.filterMap nameOf).filter (fun x => !(x == ("__name__" : Str)) && !(x == ("law" : Str)))).eraseDups
abbrev lawIx : Nat := 26
theorem run (w : World) : HandSHeadRun.RunEq R (PySem.W.view R.prog [lawIx]) hk ob 4000 nms w :=
  PySem.W.byRow2 "special-get-raises" (P := fun w => HandSHeadRun.RunEq R (PySem.W.view R.prog [lawIx]) hk ob 4000 nms w)
    (fun w => by intro os; kernel_rfl) (fun w => by intro os; kernel_rfl) w
def w_law_pot : MS := (retM (opM addD [.ex (lstM [.ex (conM (.int 0)), .ex (conM (.int 27644437)), .ex (conM (.int 3)), .ex (conM (.int 4))]), .ex (opM lisD [.pk 0])]))
theorem e_law_pot : m_law_pot = w_law_pot := by kernel_rfl
def w_law_take : MS := (seqM (iteM (andT (asT (opM (eqD false) [.ex (opM ixD [.pk 0, .ex (conM (.int 0))]), .ex (conM (.int 0))])) (asT (opM (strD ltS fun i j => decide (i < j)) [.ex (opM ixD [.pk 0, .ex (conM (.int 3))]), .ex (opM lenD [.pk 0])]))) (seqM (asgM 2 (opM ixD [.pk 0, .ex (opM ixD [.pk 0, .ex (conM (.int 3))])]))
  (seqM (augS 0 (· + ·) (conM (.int 3)) (conM (.int 1)))
  (iteM (asT (opM (strD (fun x y => leS y x) fun i j => decide (j ≤ i)) [.pk 2, .ex (opM powD [.ex (conM (.int 10)), .ex (conM (.int 18))])])) (setM 0 (conM (.int 0)) (opM subD [.pk 2, .ex (opM powD [.ex (conM (.int 10)), .ex (conM (.int 18))])])) (setM 0 (conM (.int 1)) (opM modD [.ex (opM intD [.ex (opM addD [.ex (opM addD [.ex (opM mulD [.ex (opM ixD [.pk 0, .ex (conM (.int 1))]), .ex (conM (.int 6906969069))]), .ex (opM mulD [.pk 2, .ex (conM (.int 1597))])]), .ex (opM mulD [.ex (conM (.int 51)), .ex (opM ixD [.pk 0, .ex (conM (.int 3))])])])]), .ex (conM (.int 4611686018427387847))]))))) skipM)
  (seqM (iteM (asT (opM (strD (fun x y => ltS y x) fun i j => decide (j < i)) [.ex (opM ixD [.pk 0, .ex (conM (.int 0))]), .ex (conM (.int 0))])) (seqM (asgM 3 (opM modD [.ex (opM intD [.ex (opM ixD [.pk 0, .ex (conM (.int 0))])]), .pk 1]))
  (seqM (setM 0 (conM (.int 0)) (opM fdivD [.ex (opM ixD [.pk 0, .ex (conM (.int 0))]), .pk 1]))
  (retM (movM 3)))) skipM)
  (seqM (augS 0 (· + ·) (conM (.int 2)) (conM (.int 1)))
  (seqM (asgM 4 (opM modD [.ex (opM intD [.ex (opM addD [.ex (opM mulD [.ex (opM powD [.ex (opM addD [.ex (opM ixD [.pk 0, .ex (conM (.int 1))]), .ex (opM mulD [.ex (conM (.int 93911)), .ex (opM ixD [.pk 0, .ex (conM (.int 2))])])]), .ex (conM (.int 2))]), .ex (conM (.int 25214903917))]), .ex (opM mulD [.ex (conM (.int 11)), .ex (opM ixD [.pk 0, .ex (conM (.int 2))])])])]), .ex (conM (.int 1152921504606846883))]))
  (seqM (asgM 4 (opM modD [.ex (opM intD [.ex (opM addD [.ex (opM powD [.ex (opM addD [.pk 4, .ex (conM (.int 3935559000370003845))]), .ex (conM (.int 2))]), .ex (opM ixD [.pk 0, .ex (conM (.int 2))])])]), .ex (conM (.int 900000000000000046043660025881))]))
  (retM (opM modD [.ex (opM intD [.ex (opM fdivD [.pk 4, .ex (conM (.int 4096))])]), .pk 1])))))))
theorem e_law_take : m_law_take = w_law_take := by kernel_rfl
def w_law_row : MS := (retM (opM tupD [.ex (lcM (wRng [.ex (callM F_law_take [.pk 0, .ex (opM addD [.pk 2, .ex (conM (.int 1))])])]) (.nm 3) yesT (callM F_law_take [.pk 0, .ex (varF 1)]))]))
theorem e_law_row : m_law_row = w_law_row := by kernel_rfl
def w_p_is_integer : MS := (retM (andM (isiM ["int"] (.pk 0)) (notM (isiM ["bool"] (.pk 0)))))
theorem e_p_is_integer : m_p_is_integer = w_p_is_integer := by kernel_rfl
def w_p_are_integers : MS := (retM (andM (isiM ["tuple"] (.pk 0)) (andM (opM (eqD false) [.ex (opM lenD [.pk 0]), .pk 1]) (opM allD [.ex (lcM (wSeq (varF 0)) (.nm 2) yesT (callM F_p_is_integer [.ex (varF 2)]))]))))
theorem e_p_are_integers : m_p_are_integers = w_p_are_integers := by kernel_rfl
def w_p_is_triple : MS := (seqM (iteM (orT (notT (asT (callM F_p_are_integers [.ex (varF 0), .ex (conM (.int 3))]))) (asT (opM (strD ltS fun i j => decide (i < j)) [.ex (opM minD [.pk 0]), .ex (conM (.int 1))]))) (retM (conM (.bl false))) skipM)
  (seqM (asgT (.cons (.nm 1) (.cons (.nm 2) (.cons (.nm 3) .nil))) (varF 0))
  (retM (opM (eqD false) [.ex (opM addD [.ex (opM addD [.ex (opM mulD [.pk 1, .pk 1]), .ex (opM mulD [.pk 2, .pk 2])]), .ex (opM mulD [.pk 3, .pk 3])]), .ex (opM mulD [.ex (opM mulD [.ex (opM mulD [.ex (conM (.int 3)), .pk 1]), .pk 2]), .pk 3])]))))
theorem e_p_is_triple : m_p_is_triple = w_p_is_triple := by kernel_rfl
def w_p_check_triple : MS := (iteM (notT (asT (callM F_p_is_triple [.ex (varF 0)]))) (raiM "InvalidRows" (varF 0)) skipM)
theorem e_p_check_triple : m_p_check_triple = w_p_check_triple := by kernel_rfl
def w_p_is_natural : MS := (retM (andM (callM F_p_is_integer [.ex (varF 0)]) (opM (strD (fun x y => leS y x) fun i j => decide (j ≤ i)) [.pk 0, .ex (conM (.int 0))])))
theorem e_p_is_natural : m_p_is_natural = w_p_is_natural := by kernel_rfl
def w_p_check_below : MS := (iteM (orT (notT (asT (callM F_p_is_natural [.ex (varF 0)]))) (asT (opM (strD (fun x y => leS y x) fun i j => decide (j ≤ i)) [.pk 0, .pk 1]))) (raiM "InvalidInteger" (varF 0)) skipM)
theorem e_p_check_below : m_p_check_below = w_p_check_below := by kernel_rfl
def w_p_exchanged_triple : MS := (seqM (asgT (.cons (.nm 2) (.cons (.nm 3) .nil)) (lcM (wEnumA (varF 0)) (.cons (.nm 4) (.cons (.nm 5) .nil)) (asT (opM (eqD true) [.pk 4, .pk 1])) (varF 5)))
  (retM (opM addD [.ex (opM addD [.ex (slM (.pk 0) none (some (varF 1))), .ex (tupM [.ex (opM subD [.ex (opM mulD [.ex (opM mulD [.ex (conM (.int 3)), .pk 2]), .pk 3]), .ex (opM ixD [.pk 0, .pk 1])])])]), .ex (slM (.pk 0) (some (opM addD [.pk 1, .ex (conM (.int 1))])) none)])))
theorem e_p_exchanged_triple : m_p_exchanged_triple = w_p_exchanged_triple := by kernel_rfl
def w_p_triple_exchanged : MS := (seqM (exprM (callM F_p_check_triple [.ex (varF 0)]))
  (seqM (exprM (callM F_p_check_below [.ex (varF 1), .ex (conM (.int 3))]))
  (retM (callM F_p_exchanged_triple [.ex (varF 0), .ex (varF 1)]))))
theorem e_p_triple_exchanged : m_p_triple_exchanged = w_p_triple_exchanged := by kernel_rfl
def w_p_row_down : MS := (seqM (exprM (callM F_p_check_triple [.ex (varF 0)]))
  (seqM (asgM 1 (lstM []))
  (seqM (whlM (asT (opM (eqD true) [.pk 0, .ex (tupM [.ex (conM (.int 1)), .ex (conM (.int 1)), .ex (conM (.int 1))])])) (seqM (exprM (appM 1 (lmM idxD 0 (.ex (opM maxD [.pk 0])))))
  (asgM 0 (callM F_p_exchanged_triple [.ex (varF 0), .ex (opM ixD [.pk 1, .ex (opM negD [.ex (conM (.int 1))])])]))) WH)
  (retM (opM tupD [.pk 1])))))
theorem e_p_row_down : m_p_row_down = w_p_row_down := by kernel_rfl
def w_law_step : MS := (seqM (asgM 2 (opM lisD [.pk 0]))
  (seqM (setM 2 (varF 1) (opM subD [.ex (opM mulD [.ex (opM mulD [.ex (conM (.int 3)), .ex (opM ixD [.pk 0, .ex (opM subD [.pk 1, .ex (conM (.int 1))])])]), .ex (opM ixD [.pk 0, .ex (opM subD [.pk 1, .ex (conM (.int 2))])])]), .ex (opM ixD [.pk 0, .pk 1])]))
  (retM (opM tupD [.pk 2]))))
theorem e_law_step : m_law_step = w_law_step := by kernel_rfl
def w_law_same (G : Fn) : MS := (seqM (iteM (asT (isiM ["tuple", "list"] (.pk 1))) (seqM (iteM (orT (asT (opM (eqD true) [.ex (isiM ["tuple"] (.pk 0)), .ex (isiM ["tuple"] (.pk 1))])) (asT (opM (eqD true) [.ex (isiM ["list"] (.pk 0)), .ex (isiM ["list"] (.pk 1))]))) (retM (conM (.bl false))) skipM)
  (retM (andM (opM (eqD false) [.ex (opM lenD [.pk 0]), .ex (opM lenD [.pk 1])]) (opM allD [.ex (lcM (wRng [.ex (opM lenD [.pk 1])]) (.nm 2) yesT (callM G [.ex (opM ixD [.pk 0, .pk 2]), .ex (opM ixD [.pk 1, .pk 2])]))])))) skipM)
  (seqM (iteM (orT (asT (opM (isD false) [.pk 1, .ex (conM .non)])) (asT (opM (isD false) [.pk 0, .ex (conM .non)]))) (retM (andM (opM (isD false) [.pk 1, .ex (conM .non)]) (opM (isD false) [.pk 0, .ex (conM .non)]))) skipM)
  (seqM (iteM (orT (asT (isiM ["bool"] (.pk 1))) (asT (isiM ["bool"] (.pk 0)))) (retM (andM (isiM ["bool"] (.pk 1)) (andM (isiM ["bool"] (.pk 0)) (opM (eqD false) [.pk 0, .pk 1])))) skipM)
  (seqM (iteM (asT (isiM ["str"] (.pk 1))) (retM (andM (isiM ["str"] (.pk 0)) (opM (eqD false) [.pk 0, .pk 1]))) skipM)
  (retM (andM (isiM ["int"] (.pk 1)) (andM (isiM ["int"] (.pk 0)) (opM (eqD false) [.pk 0, .pk 1]))))))))
theorem e_law_same (G : Fn) : m_law_same G = w_law_same G := by kernel_rfl
def w_law_is_right : MS := (seqM (asgT (.cons (.nm 1) (.cons (.nm 2) (.cons (.nm 3) .nil))) (varF 0))
  (retM (andM (opM (strD (fun x y => ltS y x) fun i j => decide (j < i)) [.ex (opM minD [.pk 0]), .ex (conM (.int 0))]) (opM (eqD false) [.ex (opM addD [.ex (opM addD [.ex (opM mulD [.pk 1, .pk 1]), .ex (opM mulD [.pk 2, .pk 2])]), .ex (opM mulD [.pk 3, .pk 3])]), .ex (opM mulD [.ex (opM mulD [.ex (opM mulD [.ex (conM (.int 3)), .pk 1]), .pk 2]), .pk 3])]))))
theorem e_law_is_right : m_law_is_right = w_law_is_right := by kernel_rfl
def w_law_is_tuple : MS := (retM (andM (isiM ["tuple"] (.pk 0)) (andM (opM (eqD false) [.ex (opM lenD [.pk 0]), .pk 1]) (opM allD [.ex (lcM (wSeq (varF 0)) (.nm 2) yesT (andM (isiM ["int"] (.pk 2)) (notM (isiM ["bool"] (.pk 2)))))]))))
theorem e_law_is_tuple : m_law_is_tuple = w_law_is_tuple := by kernel_rfl
def w_p_triple_at : MS := (seqM (iteM (orT (notT (asT (isiM ["tuple"] (.pk 0)))) (notT (asT (opM allD [.ex (lcM (wSeq (varF 0)) (.nm 1) yesT (andM (callM F_p_is_natural [.ex (varF 1)]) (opM (strD ltS fun i j => decide (i < j)) [.pk 1, .ex (conM (.int 3))])))])))) (raiM "InvalidRow" (varF 0)) skipM)
  (seqM (asgM 2 (tupM [.ex (conM (.int 1)), .ex (conM (.int 1)), .ex (conM (.int 1))]))
  (seqM (forM' (wSeq (varF 0)) (.nm 3) (asgM 2 (callM F_p_exchanged_triple [.ex (varF 2), .ex (varF 3)])))
  (retM (movM 2)))))
theorem e_p_triple_at : m_p_triple_at = w_p_triple_at := by kernel_rfl
def w_law_asked : MS := (seqM (parM 3 4 (conM .non) (conM .non))
  (seqM (tryM xs0 "SeedsError" 5 (iteM (asT (opM (eqD false) [.pk 2, .ex (conM (.int 0))])) (asgM 4 (callM F_p_triple_exchanged [.ex (varF 0), .ex (varF 1)])) (iteM (asT (opM (eqD false) [.pk 2, .ex (conM (.int 1))])) (asgM 4 (callM F_p_row_down [.ex (varF 0)])) (asgM 4 (callM F_p_triple_at [.ex (varF 0)])))) (seqM (asgM 3 (varF 5)) skipM))
  (seqM (iteM (asT (opM (isD false) [.pk 3, .ex (conM .non)])) (retM (lstM [.ex (conM (.str "told")), .ex (varF 4)])) skipM)
  (seqM (asgM 6 (lstM [.ex (opM (isxD xs0 "InvalidRows") [.pk 3]), .ex (opM (isxD xs0 "InvalidRow") [.pk 3]), .ex (opM (isxD xs0 "InvalidInteger") [.pk 3])]))
  (retM (lstM [.ex (ifM (asT (opM (inD false) [.ex (conM (.bl true)), .pk 6])) (opM ixD [.ex (lstM [.ex (conM (.str "rows")), .ex (conM (.str "row")), .ex (conM (.str "integer"))]), .ex (lmM idxD 6 (.ex (conM (.bl true))))]) (conM (.str "other"))), .ex (opM (xvalD xs0) [.pk 3])]))))))
theorem e_law_asked : m_law_asked = w_law_asked := by kernel_rfl
def w_p_law : MS := (seqM (asgM 1 (callM F_law_pot [.ex (varF 0)]))
  (seqM (forM' (wRng [.ex (conM (.int 4))]) (.nm 2) (seqM (asgM 3 (callM F_law_row [.pk 1, .ex (conM (.int 3)), .ex (conM (.int 9))]))
  (seqM (asgM 4 (tupM [.ex (conM (.int 1)), .ex (conM (.int 1)), .ex (conM (.int 1))]))
  (seqM (forM' (wSeq (varF 3)) (.nm 5) (asgM 4 (callM F_law_step [.ex (varF 4), .ex (varF 5)])))
  (seqM (iteM (orT (notT (asT (callM (F_law_same 8) [.ex (lstM [.ex (callM F_p_triple_at [.ex (varF 3)]), .ex (callM (lenF 1 (pmF [0] F_p_triple_at)) [.ex (varF 3)])]), .ex (lstM [.ex (varF 4), .ex (varF 4)])]))) (notT (asT (callM F_law_is_right [.ex (varF 4)])))) (retM (conM (.bl false))) skipM)
  (seqM (asgM 5 (callM F_law_take [.pk 1, .ex (conM (.int 3))]))
  (seqM (asgM 6 (callM F_p_triple_exchanged [.ex (varF 4), .ex (varF 5)]))
  (seqM (iteM (notT (asT (callM (F_law_same 8) [.ex (lstM [.ex (varF 6), .ex (callM (lenF 2 (pmF [1, 0] F_p_triple_exchanged)) [.ex (varF 5), .ex (varF 6)])]), .ex (lstM [.ex (callM F_law_step [.ex (varF 4), .ex (varF 5)]), .ex (varF 4)])]))) (retM (conM (.bl false))) skipM)
  (seqM (parM 7 8 (lstM []) (varF 4))
  (seqM (forM' (wRng [.ex (conM (.int 40))]) (.nm 9) (seqM (iteM (asT (opM (eqD false) [.pk 8, .ex (tupM [.ex (conM (.int 1)), .ex (conM (.int 1)), .ex (conM (.int 1))])])) brkM skipM)
  (seqM (exprM (appM 7 (lmM idxD 8 (.ex (opM maxD [.pk 8])))))
  (seqM (iteM (asT (opM (eqD true) [.ex (lmM cntD 8 (.ex (opM maxD [.pk 8]))), .ex (conM (.int 1))])) (retM (conM (.bl false))) skipM)
  (asgM 8 (callM F_law_step [.ex (varF 8), .ex (opM ixD [.pk 7, .ex (opM negD [.ex (conM (.int 1))])])]))))))
  (seqM (asgM 10 (callM F_p_row_down [.ex (varF 4)]))
  (seqM (iteM (orT (asT (opM (eqD true) [.pk 8, .ex (tupM [.ex (conM (.int 1)), .ex (conM (.int 1)), .ex (conM (.int 1))])])) (notT (asT (callM (F_law_same 8) [.ex (lstM [.ex (varF 10), .ex (callM (lenF 1 (pmF [0] F_p_row_down)) [.ex (varF 4)]), .ex (callM F_p_triple_at [.ex (opM revD [.pk 10])])]), .ex (lstM [.ex (opM tupD [.pk 7]), .ex (opM tupD [.pk 7]), .ex (varF 4)])])))) (retM (conM (.bl false))) skipM)
  (seqM (asgM 11 (opM tupD [.ex (lcM (wRng [.ex (conM (.int 3))]) (.nm 12) yesT (opM addD [.ex (opM ixD [.pk 4, .pk 12]), .ex (opM mulD [.ex (opM subD [.ex (callM F_law_take [.pk 1, .ex (conM (.int 3))]), .ex (conM (.int 1))]), .ex (opM intD [.ex (opM (eqD false) [.pk 12, .pk 5])])])]))]))
  (seqM (asgM 13 (lstM [.ex (varF 11), .ex (opM lisD [.pk 4]), .ex (slM (.pk 4) none (some (conM (.int 2)))), .ex (opM addD [.pk 4, .ex (tupM [.ex (conM (.int 1))])]), .ex (tupM [.ex (conM (.int 0)), .ex (conM (.int 0)), .ex (conM (.int 0))]), .ex (tupM [.ex (opM negD [.ex (conM (.int 1))]), .ex (opM negD [.ex (conM (.int 1))]), .ex (conM (.int 1))]), .ex (tupM [.ex (conM (.int 1)), .ex (conM (.int 1)), .ex (conM (.int 0))]), .ex (conM .non), .ex (conM (.int 1)), .ex (tupM [.ex (conM (.bl true)), .ex (conM (.int 1)), .ex (conM (.int 1))]), .ex (conM (.str "111")), .ex (tupM [.ex (conM (.int 3)), .ex (conM (.int 3)), .ex (conM (.int 3))]), .ex (tupM [.ex (conM (.int 1)), .ex (conM (.int 2)), .ex (conM (.int 3))])]))
  (seqM (asgM 14 (opM ixD [.pk 13, .ex (callM F_law_take [.pk 1, .ex (conM (.int 13))])]))
  (seqM (asgM 15 (ifM (andT (asT (isiM ["tuple"] (.pk 14))) (andT (asT (callM F_law_is_tuple [.ex (varF 14), .ex (conM (.int 3))])) (asT (callM F_law_is_right [.ex (varF 14)])))) (lstM [.ex (conM (.str "told")), .ex (callM F_law_step [.ex (varF 14), .ex (varF 5)])]) (lstM [.ex (conM (.str "rows")), .ex (varF 14)])))
  (seqM (iteM (notT (asT (callM (F_law_same 8) [.ex (callM F_law_asked [.ex (varF 14), .ex (varF 5), .ex (conM (.int 0))]), .ex (varF 15)]))) (retM (conM (.bl false))) skipM)
  (seqM (iteM (andT (asT (opM (eqD false) [.ex (opM ixD [.pk 15, .ex (conM (.int 0))]), .ex (conM (.str "rows"))])) (notT (asT (callM (F_law_same 8) [.ex (callM F_law_asked [.ex (varF 14), .ex (varF 5), .ex (conM (.int 1))]), .ex (varF 15)])))) (retM (conM (.bl false))) skipM)
  (seqM (asgM 16 (opM ixD [.ex (lstM [.ex (conM (.int 3)), .ex (opM negD [.ex (conM (.int 1))]), .ex (conM .non), .ex (conM (.str "0")), .ex (conM (.bl true)), .ex (tupM [.ex (conM (.int 0))])]), .ex (callM F_law_take [.pk 1, .ex (conM (.int 6))])]))
  (seqM (asgM 17 (opM ixD [.ex (lstM [.ex (lstM [.ex (conM (.int 0))]), .ex (tupM [.ex (conM (.int 3))]), .ex (tupM [.ex (conM (.int 0)), .ex (opM negD [.ex (conM (.int 1))])]), .ex (conM .non), .ex (conM (.str "01")), .ex (tupM [.ex (conM (.int 0)), .ex (conM .non)]), .ex (tupM [.ex (conM (.bl true))]), .ex (conM (.int 0))]), .ex (callM F_law_take [.pk 1, .ex (conM (.int 8))])]))
  (iteM (notT (asT (callM (F_law_same 8) [.ex (lstM [.ex (callM F_law_asked [.ex (varF 4), .ex (varF 16), .ex (conM (.int 0))]), .ex (callM F_law_asked [.ex (varF 17), .ex (conM (.int 0)), .ex (conM (.int 2))])]), .ex (lstM [.ex (lstM [.ex (conM (.str "integer")), .ex (varF 16)]), .ex (lstM [.ex (conM (.str "row")), .ex (varF 17)])])]))) (retM (conM (.bl false))) skipM)))))))))))))))))))))
  (retM (conM (.bl true)))))
theorem e_p_law : m_p_law = w_p_law := by kernel_rfl
/-! ### triples, in plain Lean -/
abbrev T3 := Int × Int × Int
def tr (t : T3) : D := .tup [.int t.1, .int t.2.1, .int t.2.2]
def nx : Nat → T3 → T3
  | 0, t => (3 * t.2.1 * t.2.2 - t.1, t.2.1, t.2.2)
  | 1, t => (t.1, 3 * t.1 * t.2.2 - t.2.1, t.2.2)
  | _ + 2, t => (t.1, t.2.1, 3 * t.1 * t.2.1 - t.2.2)
def ones : T3 := (1, 1, 1)
def mk (t : T3) : Prop := (0 < t.1 ∧ 0 < t.2.1 ∧ 0 < t.2.2) ∧ t.1 * t.1 + t.2.1 * t.2.1 + t.2.2 * t.2.2 = 3 * t.1 * t.2.1 * t.2.2
def mx : Nat → T3 → Prop
  | 0, t => t.2.1 < t.1 ∧ t.2.2 < t.1
  | 1, t => t.1 < t.2.1 ∧ t.2.2 < t.2.1
  | _ + 2, t => t.1 < t.2.2 ∧ t.2.1 < t.2.2
theorem nx_nx : ∀ (i : Nat) (t : T3), nx i (nx i t) = t
  | 0, (x, y, z) => by show ((3 * y * z - (3 * y * z - x) : Int), y, z) = _; rw [show (3 * y * z - (3 * y * z - x) : Int) = x by omega]
  | 1, (x, y, z) => by show (x, (3 * x * z - (3 * x * z - y) : Int), z) = _; rw [show (3 * x * z - (3 * x * z - y) : Int) = y by omega]
  | _ + 2, (x, y, z) => by show (x, y, (3 * x * y - (3 * x * y - z) : Int)) = _; rw [show (3 * x * y - (3 * x * y - z) : Int) = z by omega]
theorem mk_one {x y z : Int} (hx : 0 < x) (hy : 0 < y) (hz : 0 < z) (h : x * x + y * y + z * z = 3 * x * y * z) : 0 < 3 * y * z - x ∧ (3 * y * z - x) * (3 * y * z - x) + y * y + z * z = 3 * (3 * y * z - x) * y * z := by
  have e1 : x * (3 * y * z - x) = y * y + z * z := by grind
  have e2 : (3 * y * z - x) * (3 * y * z - x) + y * y + z * z = 3 * (3 * y * z - x) * y * z := by grind
  refine ⟨?_, e2⟩
  have p1 : 0 < y * y := Int.mul_pos hy hy
  have p2 : 0 < z * z := Int.mul_pos hz hz
  by_cases hp : 0 < 3 * y * z - x
  · exact hp
  · have : x * (3 * y * z - x) ≤ 0 := Int.mul_nonpos_of_nonneg_of_nonpos (by omega) (by omega)
    omega
theorem mk_nx {t : T3} (h : mk t) : ∀ i, mk (nx i t)
  | 0 => by
    obtain ⟨⟨h1, h2, h3⟩, h⟩ := h
    obtain ⟨p, q⟩ := mk_one h1 h2 h3 h
    exact ⟨⟨p, h2, h3⟩, q⟩
  | 1 => by
    obtain ⟨⟨h1, h2, h3⟩, h⟩ := h
    obtain ⟨x, y, z⟩ := t
    dsimp only at h h1 h2 h3
    obtain ⟨p, q⟩ := mk_one h2 h1 h3 (by grind)
    exact ⟨⟨h1, p, h3⟩, by show x * x + (3 * x * z - y) * (3 * x * z - y) + z * z = 3 * x * (3 * x * z - y) * z; grind⟩
  | _ + 2 => by
    obtain ⟨⟨h1, h2, h3⟩, h⟩ := h
    obtain ⟨x, y, z⟩ := t
    dsimp only at h h1 h2 h3
    obtain ⟨p, q⟩ := mk_one h3 h1 h2 (by grind)
    exact ⟨⟨h1, h2, p⟩, by show x * x + y * y + (3 * x * y - z) * (3 * x * y - z) = 3 * x * y * (3 * x * y - z); grind⟩
theorem flip_one {x y z : Int} (hy : 0 < y) (hz : 0 < z) : (y < x ∧ z < x) ∨ (y < 3 * y * z - x ∧ z < 3 * y * z - x) := by
  have e1 : y ≤ y * z := by
    have := Int.mul_le_mul_of_nonneg_left (show 1 ≤ z by omega) (show 0 ≤ y by omega)
    rwa [Int.mul_one] at this
  have e2 : z ≤ y * z := by
    have := Int.mul_le_mul_of_nonneg_right (show 1 ≤ y by omega) (show 0 ≤ z by omega)
    rwa [Int.one_mul] at this
  have e3 : 3 * y * z = 3 * (y * z) := Int.mul_assoc ..
  rw [e3]
  omega
theorem flip {t : T3} (h : mk t) : ∀ i, mx i t ∨ mx i (nx i t)
  | 0 => flip_one h.1.2.1 h.1.2.2
  | 1 => flip_one (x := t.2.1) (y := t.1) (z := t.2.2) h.1.1 h.1.2.2
  | _ + 2 => flip_one (x := t.2.2) (y := t.1) (z := t.2.1) h.1.1 h.1.2.1
def Dn : List Nat → T3 → Prop
  | [], t => t = ones
  | i :: l, t => i < 3 ∧ mx i t ∧ Dn l (nx i t)
def walk (l : List Nat) (t : T3) : T3 := l.foldl (fun t i => nx i t) t
theorem walk_snoc (l : List Nat) (i : Nat) (t : T3) : walk (l ++ [i]) t = nx i (walk l t) := by
  unfold walk
  rw [List.foldl_append]
  rfl
theorem dn_walk : ∀ {l : List Nat} {t : T3}, Dn l t → walk l.reverse ones = t
  | [], t, h => (show t = ones from h).symm
  | i :: l, t, h => by
    obtain ⟨_, _, h2⟩ := h
    rw [List.reverse_cons, walk_snoc, dn_walk h2, nx_nx]
theorem mx_inj {t : T3} : ∀ {i j : Nat}, i < 3 → j < 3 → mx i t → mx j t → i = j
  | 0, 0, _, _, _, _ => rfl
  | 1, 1, _, _, _, _ => rfl
  | 2, 2, _, _, _, _ => rfl
  | 0, 1, _, _, h, h' => by have := h.1; have := h'.1; omega
  | 0, 2, _, _, h, h' => by have := h.2; have := h'.1; omega
  | 1, 0, _, _, h, h' => by have := h.1; have := h'.1; omega
  | 1, 2, _, _, h, h' => by have := h.2; have := h'.2; omega
  | 2, 0, _, _, h, h' => by have := h.1; have := h'.2; omega
  | 2, 1, _, _, h, h' => by have := h.2; have := h'.2; omega
  | i + 3, _, h, _, _, _ => by omega
  | _, j + 3, _, h, _, _ => by omega
theorem mx_ones : ∀ {i : Nat}, ¬ mx i ones
  | 0, h => by have : (1 : Int) < 1 := h.1; omega
  | 1, h => by have : (1 : Int) < 1 := h.1; omega
  | _ + 2, h => by have : (1 : Int) < 1 := h.1; omega
theorem dn_step {l : List Nat} {t : T3} {i : Nat} (hm : mk t) (h : Dn l t) (hi : i < 3) : ∃ l', Dn l' (nx i t) ∧ l'.length ≤ l.length + 1 := by
  rcases flip hm i with q | q
  · cases l with
    | nil =>
      rw [show t = ones from h] at q
      exact absurd q mx_ones
    | cons j l =>
      obtain ⟨hj, h1, h2⟩ := h
      rw [mx_inj hi hj q h1]
      exact ⟨l, h2, by rw [List.length_cons]; omega⟩
  · refine ⟨i :: l, ⟨hi, q, ?_⟩, by rw [List.length_cons]; omega⟩
    rw [nx_nx]
    exact h
theorem mk_ones : mk ones := ⟨⟨by decide, by decide, by decide⟩, by decide⟩
theorem reach : ∀ (l : List Nat) (t : T3) (m : List Nat), (∀ i ∈ l, i < 3) → mk t → Dn m t → ∃ l', Dn l' (walk l t) ∧ l'.length ≤ m.length + l.length ∧ mk (walk l t)
  | [], t, m, _, hm, h => ⟨m, h, by simp, hm⟩
  | i :: l, t, m, hl, hm, h => by
    obtain ⟨m', h1, h2⟩ := dn_step hm h (hl i List.mem_cons_self)
    obtain ⟨l', h3, h4, h5⟩ := reach l (nx i t) m' (fun j hj => hl j (List.mem_cons_of_mem _ hj)) (mk_nx hm i) h1
    exact ⟨l', h3, by rw [List.length_cons]; omega, h5⟩
def bd (n : Nat) (t : T3) : Prop := t.1.natAbs < 2 ^ n ∧ t.2.1.natAbs < 2 ^ n ∧ t.2.2.natAbs < 2 ^ n
theorem bd_up {n m : Nat} {t : T3} (h : bd n t) (hm : n ≤ m) : bd m t := by
  have := Nat.pow_le_pow_right (show 0 < 2 by decide) hm
  obtain ⟨h1, h2, h3⟩ := h
  exact ⟨by omega, by omega, by omega⟩
theorem bd_one {n : Nat} {x y z : Int} (hx : x.natAbs < 2 ^ n) (hy : y.natAbs < 2 ^ n) (hz : z.natAbs < 2 ^ n) : (3 * y * z - x).natAbs < 2 ^ (2 * n + 2) := by
  have e1 : (3 * y * z).natAbs = 3 * (y.natAbs * z.natAbs) := by
    rw [Int.natAbs_mul, Int.natAbs_mul, Nat.mul_assoc]
    rfl
  have e2 := Int.natAbs_sub_le (3 * y * z) x
  have e3 : y.natAbs * z.natAbs ≤ 2 ^ n * 2 ^ n := Nat.mul_le_mul (by omega) (by omega)
  have e4 : 2 ^ n * 1 ≤ 2 ^ n * 2 ^ n := Nat.mul_le_mul_left _ (Nat.one_le_two_pow)
  have e5 : 2 ^ (2 * n + 2) = 4 * (2 ^ n * 2 ^ n) := by
    rw [Nat.pow_add, Nat.two_mul, Nat.pow_add]
    omega
  omega
theorem bd_nx {n : Nat} {t : T3} (h : bd n t) : ∀ i, bd (2 * n + 2) (nx i t)
  | 0 => by
    have q := bd_up h (show n ≤ 2 * n + 2 by omega)
    exact ⟨bd_one h.1 h.2.1 h.2.2, q.2.1, q.2.2⟩
  | 1 => by
    have q := bd_up h (show n ≤ 2 * n + 2 by omega)
    exact ⟨q.1, bd_one h.2.1 h.1 h.2.2, q.2.2⟩
  | _ + 2 => by
    have q := bd_up h (show n ≤ 2 * n + 2 by omega)
    exact ⟨q.1, q.2.1, bd_one h.2.2 h.1 h.2.1⟩
/-! ### what raises -/
theorem runDef_ex {np n : Nat} {b : MS} {A S' A' : List SV} {c : Str} {d : D} (hl : A.length = np) (h : b (A ++ List.replicate n .un) = .exc c d S') (hf : finA A S' = some A') : runDef np n b A = .exc c d A' := by
  unfold runDef
  rw [if_pos hl]
  unfold runDef.runBody
  rw [h]
  show (match finA A S' with
    | some A' => Res.exc c d A'
    | none => .stuck) = _
  rw [hf]
theorem seq_ex {f g : MS} {S S' : List SV} {c : Str} {d : D} (h : f S = .exc c d S') : seqM f g S = .exc c d S' := by
  unfold seqM
  rw [h]
  rfl
theorem expr_ex {f : M SV} {S S' : List SV} {c : Str} {d : D} (h : f S = .exc c d S') : exprM f S = .exc c d S' := by
  unfold exprM
  rw [h]
  rfl
theorem asg_ex {i : Nat} {f : M SV} {S S' : List SV} {c : Str} {d : D} (h : f S = .exc c d S') : asgM i f S = .exc c d S' := by
  unfold asgM
  rw [h]
  rfl
theorem call_ex {F : Fn} {fs : List AF} {S S' A A' : List SV} {as : List AV} {c : Str} {d : D} (h : runAs fs S = .ok as S') (hm : mkA S' (as.map (AV.res S')) = some (A, none)) (hF : F A = .exc c d A') : callM F fs S = .exc c d S' := by
  unfold callM
  rw [h]
  show (match mkA S' (as.map (AV.res S')) with
    | none => Res.stuck
    | some (A, b) => match F A with
      | .ok r A' => (match backA b A' S' with
        | some S2 => Res.ok r.unt S2
        | none => .stuck)
      | .exc c d A' => (match backA b A' S' with
        | some S2 => Res.exc c d S2
        | none => .stuck)
      | .stuck => .stuck) = _
  rw [hm]
  show (match F A with
      | .ok r A' => Res.ok r.unt S'
      | .exc c d A' => Res.exc c d S'
      | .stuck => .stuck) = _
  rw [hF]
theorem call1_ex {F : Fn} {f : M SV} {S S' A' : List SV} {v : SV} {d e : D} {c : Str} (hf : f S = .ok v S') (hv : v.shd = some d) (hF : F [.sh d] = .exc c e A') : callM F [.ex f] S = .exc c e S' := by
  refine call_ex (runAs_ex hf runAs_nil) (A := [.sh d]) ?_ hF
  show (match v.shd, mkA S' [] with
    | some d, some (A, b) => some (SV.sh d :: A, b.map fun (p : Nat × Nat) => (p.1 + 1, p.2))
    | _, _ => none) = _
  rw [hv]
  rfl
theorem call2_ex {F : Fn} {f g : M SV} {S S1 S2 A' : List SV} {v w : SV} {d e x : D} {c : Str} (hf : f S = .ok v S1) (hg : g S1 = .ok w S2) (hv : v.shd = some d) (hw : w.shd = some e) (hF : F [.sh d, .sh e] = .exc c x A') : callM F [.ex f, .ex g] S = .exc c x S2 := by
  refine call_ex (runAs_ex hf (runAs_ex hg runAs_nil)) (A := [.sh d, .sh e]) ?_ hF
  show (match v.shd, (match w.shd, mkA S2 [] with
    | some d, some (A, b) => some (SV.sh d :: A, b.map fun (p : Nat × Nat) => (p.1 + 1, p.2))
    | _, _ => none) with
    | some d, some (A, b) => some (SV.sh d :: A, b.map fun (p : Nat × Nat) => (p.1 + 1, p.2))
    | _, _ => none) = _
  rw [hv, hw]
  rfl
theorem call3 {F : Fn} {f g h : M SV} {S S1 S2 S3 A' : List SV} {u v w r : SV} {d e x : D} (hf : f S = .ok u S1) (hg : g S1 = .ok v S2) (hh : h S2 = .ok w S3) (hu : u.shd = some d) (hv : v.shd = some e) (hw : w.shd = some x) (hF : F [.sh d, .sh e, .sh x] = .ok r A') : callM F [.ex f, .ex g, .ex h] S = .ok r.unt S3 := by
  refine call_ok (runAs_ex hf (runAs_ex hg (runAs_ex hh runAs_nil))) (A := [.sh d, .sh e, .sh x]) ?_ hF
  show (match u.shd, (match v.shd, (match w.shd, mkA S3 [] with
    | some d, some (A, b) => some (SV.sh d :: A, b.map fun (p : Nat × Nat) => (p.1 + 1, p.2))
    | _, _ => none) with
    | some d, some (A, b) => some (SV.sh d :: A, b.map fun (p : Nat × Nat) => (p.1 + 1, p.2))
    | _, _ => none) with
    | some d, some (A, b) => some (SV.sh d :: A, b.map fun (p : Nat × Nat) => (p.1 + 1, p.2))
    | _, _ => none) = _
  rw [hu, hv, hw]
  rfl
theorem mulB {i j : Int} {n m : Nat} (h1 : i.natAbs < 2 ^ n) (h2 : j.natAbs < 2 ^ m) (h : n + m ≤ 100000) : mulD [.int i, .int j] = some (.sh (.int (i * j))) := by
  have k : ∀ (x n : Nat), x < 2 ^ n → x.log2 < n + 1 := fun x n h => by
    by_cases e : x = 0
    · subst e
      have : Nat.log2 0 = 0 := by decide
      omega
    · exact Nat.lt_succ_of_lt ((Nat.log2_lt e).mpr h)
  refine if_pos ?_
  unfold CMulW
  have := k _ _ h1
  have := k _ _ h2
  omega
theorem absB {i j : Int} {n m : Nat} (h1 : i.natAbs < 2 ^ n) (h2 : j.natAbs < 2 ^ m) : (i * j).natAbs < 2 ^ (n + m) := by
  rw [Int.natAbs_mul, Nat.pow_add]
  exact Nat.mul_lt_mul'' h1 h2
/-! ### the functions on triples -/
def mn (t : T3) : Int := min (min t.1 t.2.1) t.2.2
def isT (t : T3) : Bool := !decide (mn t < 1) && decide (t.1 * t.1 + t.2.1 * t.2.1 + t.2.2 * t.2.2 = 3 * t.1 * t.2.1 * t.2.2)
theorem isT_mk {t : T3} (h : mk t) : isT t = true := by
  obtain ⟨⟨h1, h2, h3⟩, h⟩ := h
  unfold isT mn
  rw [decide_eq_true h, decide_eq_false (by omega)]
  rfl
theorem mk_isT {t : T3} (h : isT t = true) : mk t := by
  unfold isT mn at h
  rw [Bool.and_eq_true, Bool.not_eq_true', decide_eq_false_iff_not, decide_eq_true_eq] at h
  obtain ⟨h1, h2⟩ := h
  exact ⟨⟨by omega, by omega, by omega⟩, h2⟩
theorem ints_ok (x y z : Int) : F_p_are_integers [.sh (.tup [.int x, .int y, .int z]), .sh (.int 3)] = .ok (.sh (.bl true)) [.un, .un] := by kernel_rfl
theorem eqn_ok {n : Nat} {t : T3} (h : bd n t) (hn : n ≤ 20000) (s0 : SV) : opM (eqD false) [.ex (opM addD [.ex (opM addD [.ex (opM mulD [.pk 1, .pk 1]), .ex (opM mulD [.pk 2, .pk 2])]), .ex (opM mulD [.pk 3, .pk 3])]), .ex (opM mulD [.ex (opM mulD [.ex (opM mulD [.ex (conM (.int 3)), .pk 1]), .pk 2]), .pk 3])] [s0, .sh (.int t.1), .sh (.int t.2.1), .sh (.int t.2.2)] =
    .ok (.sh (.bl (decide (t.1 * t.1 + t.2.1 * t.2.1 + t.2.2 * t.2.2 = 3 * t.1 * t.2.1 * t.2.2)))) [s0, .sh (.int t.1), .sh (.int t.2.1), .sh (.int t.2.2)] := by
  obtain ⟨h1, h2, h3⟩ := h
  have b3 : (3 : Int).natAbs < 2 ^ 2 := by decide
  refine op2 (op2 (op2 (op2b (i := .int t.1) (j := .int t.1) rfl rfl (mulB h1 h1 (by omega))) (op2b (i := .int t.2.1) (j := .int t.2.1) rfl rfl (mulB h2 h2 (by omega))) rfl) (op2b (i := .int t.2.2) (j := .int t.2.2) rfl rfl (mulB h3 h3 (by omega))) rfl) ?_ (eqD_int _ _)
  exact op2s (op2s (op2s con_ok rfl (mulB b3 h1 (by omega))) rfl (mulB (absB b3 h1) h2 (by omega))) rfl (mulB (absB (absB b3 h1) h2) h3 (by omega))
theorem min_ok (t : T3) (S : List SV) (h : S[0]?.bind SV.dat? = some (tr t)) : opM minD [.pk 0] S = .ok (.sh (.int (mn t))) S := op1s h rfl
theorem isT_ok {n : Nat} {t : T3} (h : bd n t) (hn : n ≤ 20000) : F_p_is_triple [.sh (tr t)] = .ok (.sh (.bl (isT t))) [.un] := by
  show runDef 1 3 m_p_is_triple _ = _
  rw [e_p_is_triple]
  have t1 : asT (opM (strD ltS fun i j => decide (i < j)) [.ex (opM minD [.pk 0]), .ex (conM (.int 1))]) [.sh (tr t), .un, .un, .un] = .ok (decide (mn t < 1)) [.sh (tr t), .un, .un, .un] :=
    asT_ok (op2 (min_ok t _ rfl) con_ok (lt_int _ _))
  have t0 : notT (asT (callM F_p_are_integers [.ex (varF 0), .ex (conM (.int 3))])) [.sh (tr t), .un, .un, .un] = .ok false [.sh (tr t), .un, .un, .un] :=
    notT_ok (b := true) (asT_ok (call2 (v := .sh (tr t)) (w := .sh (.int 3)) rfl rfl rfl rfl (ints_ok _ _ _)))
  by_cases hm : mn t < 1
  · refine runDef_rt (S' := [.sh (tr t), .un, .un, .un]) rfl ?_ rfl
    refine seq_rt ((ite_t ((orT_f t0).trans (by rw [t1, decide_eq_true hm]))).trans (ret_ok ?_))
    unfold isT
    rw [decide_eq_true hm]
    rfl
  · refine runDef_rt (S' := [.sh (tr t), .sh (.int t.1), .sh (.int t.2.1), .sh (.int t.2.2)]) rfl ?_ rfl
    refine (seq_nx (S' := [.sh (tr t), .un, .un, .un]) ((ite_f ((orT_f t0).trans (by rw [t1, decide_eq_false hm]))).trans rfl)).trans ?_
    refine (seq_nx (S' := [.sh (tr t), .sh (.int t.1), .sh (.int t.2.1), .sh (.int t.2.2)]) rfl).trans ?_
    refine ret_ok ?_
    rw [eqn_ok h hn]
    unfold isT
    rw [decide_eq_false hm]
    rfl
theorem right_ok {n : Nat} {t : T3} (h : bd n t) (hn : n ≤ 20000) : F_law_is_right [.sh (tr t)] = .ok (.sh (.bl (isT t))) [.un] := by
  show runDef 1 3 m_law_is_right _ = _
  rw [e_law_is_right]
  refine runDef_rt (S' := [.sh (tr t), .sh (.int t.1), .sh (.int t.2.1), .sh (.int t.2.2)]) rfl ?_ rfl
  refine (seq_nx (S' := [.sh (tr t), .sh (.int t.1), .sh (.int t.2.1), .sh (.int t.2.2)]) rfl).trans (ret_ok ?_)
  have t1 : opM (strD (fun x y => ltS y x) fun i j => decide (j < i)) [.ex (opM minD [.pk 0]), .ex (conM (.int 0))] [.sh (tr t), .sh (.int t.1), .sh (.int t.2.1), .sh (.int t.2.2)] = .ok (.sh (.bl (decide (0 < mn t)))) [.sh (tr t), .sh (.int t.1), .sh (.int t.2.1), .sh (.int t.2.2)] :=
    op2 (min_ok t _ rfl) con_ok (gt_int _ _)
  by_cases hm : mn t < 1
  · unfold Ev.andM
    rw [t1, decide_eq_false (by omega)]
    unfold isT
    rw [decide_eq_true hm]
    rfl
  · rw [and_t (by rw [t1, decide_eq_true (by omega)]), eqn_ok h hn]
    unfold isT
    rw [decide_eq_false hm]
    rfl
theorem check_ok {n : Nat} {t : T3} (h : bd n t) (hn : n ≤ 20000) (ht : isT t = true) : F_p_check_triple [.sh (tr t)] = .ok (.sh .non) [.un] := by
  show runDef 1 0 m_p_check_triple _ = _
  rw [e_p_check_triple]
  refine runDef_nx (S' := [.sh (tr t)]) rfl ?_ rfl
  exact (ite_f (S' := [.sh (tr t)]) (notT_ok (b := true) (asT_ok (call1 (v := .sh (tr t)) (r := .sh (.bl true)) (A' := [.un]) (F := F_p_is_triple) rfl rfl (by rw [isT_ok h hn, ht]))))).trans rfl
theorem check_no {n : Nat} {t : T3} (h : bd n t) (hn : n ≤ 20000) (ht : isT t = false) : F_p_check_triple [.sh (tr t)] = .exc "InvalidRows" (tr t) [.un] := by
  show runDef 1 0 m_p_check_triple _ = _
  rw [e_p_check_triple]
  refine runDef_ex (S' := [.sh (tr t)]) rfl ?_ rfl
  exact (ite_t (S' := [.sh (tr t)]) (notT_ok (b := false) (asT_ok (call1 (v := .sh (tr t)) (r := .sh (.bl false)) (A' := [.un]) (F := F_p_is_triple) rfl rfl (by rw [isT_ok h hn, ht]))))).trans rfl
theorem cat_tup {a b : List D} (h : a.length + b.length ≤ 1000) : addD [.tup a, .tup b] = some (.sh (.tup (a ++ b))) := if_pos (by rw [sizeLine_eq]; omega)
theorem ex_ret {n : Nat} {S : List SV} {o1 o2 v : Int} {pre post : List D} (h1 : slM (.pk 0) none (some (varF 1)) S = .ok (.sh (.tup pre)) S) (h2 : opM ixD [.pk 0, .pk 1] S = .ok (.sh (.int v)) S) (h3 : slM (.pk 0) (some (opM addD [.pk 1, .ex (conM (.int 1))])) none S = .ok (.sh (.tup post)) S)
    (k2 : S[2]? = some (.sh (.int o1))) (k3 : S[3]? = some (.sh (.int o2))) (b1 : o1.natAbs < 2 ^ n) (b2 : o2.natAbs < 2 ^ n) (hn : n ≤ 20000) (hl : pre.length + post.length ≤ 10) :
    retM (opM addD [.ex (opM addD [.ex (slM (.pk 0) none (some (varF 1))), .ex (tupM [.ex (opM subD [.ex (opM mulD [.ex (opM mulD [.ex (conM (.int 3)), .pk 2]), .pk 3]), .ex (opM ixD [.pk 0, .pk 1])])])]), .ex (slM (.pk 0) (some (opM addD [.pk 1, .ex (conM (.int 1))])) none)]) S = .ok (.rt (.sh (.tup (pre ++ [.int (3 * o1 * o2 - v)] ++ post)))) S := by
  have b3 : (3 : Int).natAbs < 2 ^ 2 := by decide
  have e1 : opM subD [.ex (opM mulD [.ex (opM mulD [.ex (conM (.int 3)), .pk 2]), .pk 3]), .ex (opM ixD [.pk 0, .pk 1])] S = .ok (.sh (.int (3 * o1 * o2 - v))) S :=
    op2 (op2s (op2s con_ok k2 (mulB b3 b1 (by omega))) k3 (mulB (absB b3 b1) b2 (by omega))) h2 rfl
  exact ret_ok (op2 (op2 h1 (tup_ok (runAs_ex e1 runAs_nil) rfl (show 1 ≤ 1000 by decide)) (cat_tup (by show pre.length + 1 ≤ 1000; omega))) h3 (cat_tup (by rw [List.length_append]; show pre.length + 1 + post.length ≤ 1000; omega)))
theorem ex_ok {n : Nat} {t : T3} (h : bd n t) (hn : n ≤ 20000) : ∀ {i : Nat}, i < 3 → F_p_exchanged_triple [.sh (tr t), .sh (.int i)] = .ok (.sh (tr (nx i t))) [.un, .un]
  | 0, _ => by
    show runDef 2 4 m_p_exchanged_triple _ = _
    rw [e_p_exchanged_triple]
    refine runDef_rt (S' := [.sh (tr t), .sh (.int 0), .sh (.int t.2.1), .sh (.int t.2.2), .un, .un]) rfl ?_ rfl
    refine (seq_nx (S' := [.sh (tr t), .sh (.int 0), .sh (.int t.2.1), .sh (.int t.2.2), .un, .un]) (by kernel_rfl)).trans ?_
    exact ex_ret (pre := []) (post := [.int t.2.1, .int t.2.2]) (by kernel_rfl) (by kernel_rfl) (by kernel_rfl) rfl rfl h.2.1 h.2.2 hn (show 2 ≤ 10 by decide)
  | 1, _ => by
    show runDef 2 4 m_p_exchanged_triple _ = _
    rw [e_p_exchanged_triple]
    refine runDef_rt (S' := [.sh (tr t), .sh (.int 1), .sh (.int t.1), .sh (.int t.2.2), .un, .un]) rfl ?_ rfl
    refine (seq_nx (S' := [.sh (tr t), .sh (.int 1), .sh (.int t.1), .sh (.int t.2.2), .un, .un]) (by kernel_rfl)).trans ?_
    exact ex_ret (pre := [.int t.1]) (post := [.int t.2.2]) (by kernel_rfl) (by kernel_rfl) (by kernel_rfl) rfl rfl h.1 h.2.2 hn (show 2 ≤ 10 by decide)
  | 2, _ => by
    show runDef 2 4 m_p_exchanged_triple _ = _
    rw [e_p_exchanged_triple]
    refine runDef_rt (S' := [.sh (tr t), .sh (.int 2), .sh (.int t.1), .sh (.int t.2.1), .un, .un]) rfl ?_ rfl
    refine (seq_nx (S' := [.sh (tr t), .sh (.int 2), .sh (.int t.1), .sh (.int t.2.1), .un, .un]) (by kernel_rfl)).trans ?_
    exact ex_ret (pre := [.int t.1, .int t.2.1]) (post := []) (by kernel_rfl) (by kernel_rfl) (by kernel_rfl) rfl rfl h.1 h.2.1 hn (show 2 ≤ 10 by decide)
  | i + 3, hi => by omega
theorem setM_ok {i : Nat} {fi fv : M SV} {S S1 S2 S3 : List SV} {r : SV} {d : D} {k : Int} {o : Own} (h : fv S = .ok r S1) (hd : r.shd = some d) (ho : S1[i]?.bind SV.own? = some o) (hi : fi S1 = .ok (.sh (.int k)) S2) (hp : putI S2 i k d = some S3) : setM i fi fv S = .ok .nx S3 := by
  unfold setM
  rw [h]
  show (match r.shd, S1[i]?.bind SV.own? with
    | some d, some _ => (fi S1).bind fun kr S2 => (match kr with
      | .sh (.int k) => (match putI S2 i k d with
        | some S3 => Res.ok Fl.nx S3
        | none => .stuck)
      | _ => .stuck)
    | _, _ => .stuck) = _
  rw [hd, ho]
  show (fi S1).bind _ = _
  rw [hi]
  show (match putI S2 i k d with
        | some S3 => Res.ok Fl.nx S3
        | none => .stuck) = _
  rw [hp]
theorem step_ret {n : Nat} {S : List SV} {x y v : Int} (h1 : opM ixD [.pk 0, .ex (opM subD [.pk 1, .ex (conM (.int 1))])] S = .ok (.sh (.int x)) S) (h2 : opM ixD [.pk 0, .ex (opM subD [.pk 1, .ex (conM (.int 2))])] S = .ok (.sh (.int y)) S) (h3 : opM ixD [.pk 0, .pk 1] S = .ok (.sh (.int v)) S)
    (b1 : x.natAbs < 2 ^ n) (b2 : y.natAbs < 2 ^ n) (hn : n ≤ 20000) : opM subD [.ex (opM mulD [.ex (opM mulD [.ex (conM (.int 3)), .ex (opM ixD [.pk 0, .ex (opM subD [.pk 1, .ex (conM (.int 1))])])]), .ex (opM ixD [.pk 0, .ex (opM subD [.pk 1, .ex (conM (.int 2))])])]), .ex (opM ixD [.pk 0, .pk 1])] S = .ok (.sh (.int (3 * y * x - v))) S := by
  have b3 : (3 : Int).natAbs < 2 ^ 2 := by decide
  rw [Int.mul_right_comm]
  exact op2 (op2 (op2 con_ok h1 (mulB b3 b1 (by omega))) h2 (mulB (absB b3 b1) b2 (by omega))) h3 rfl
theorem step_ok {n : Nat} {t : T3} (h : bd n t) (hn : n ≤ 20000) : ∀ {i : Nat}, i < 3 → F_law_step [.sh (tr t), .sh (.int i)] = .ok (.sh (tr (nx i t))) [.un, .un]
  | 0, _ => by
    show runDef 2 1 m_law_step _ = _
    rw [e_law_step]
    refine runDef_rt (S' := [.sh (tr t), .sh (.int 0), .ow (.l [.int (3 * t.2.1 * t.2.2 - t.1), .int t.2.1, .int t.2.2])]) rfl ?_ rfl
    refine (seq_nx (S' := [.sh (tr t), .sh (.int 0), .ow (.l [.int t.1, .int t.2.1, .int t.2.2])]) (by kernel_rfl)).trans ?_
    refine (seq_nx (setM_ok (i := 2) (fi := varF 1) (o := .l [.int t.1, .int t.2.1, .int t.2.2]) (step_ret (v := t.1) (by kernel_rfl) (by kernel_rfl) (by kernel_rfl) h.2.2 h.2.1 hn) rfl rfl (k := 0) (S2 := [.sh (tr t), .sh (.int 0), .ow (.l [.int t.1, .int t.2.1, .int t.2.2])]) rfl rfl)).trans ?_
    exact ret_ok rfl
  | 1, _ => by
    show runDef 2 1 m_law_step _ = _
    rw [e_law_step]
    refine runDef_rt (S' := [.sh (tr t), .sh (.int 1), .ow (.l [.int t.1, .int (3 * t.2.2 * t.1 - t.2.1), .int t.2.2])]) (r := .sh (tr (t.1, 3 * t.2.2 * t.1 - t.2.1, t.2.2))) rfl ?_ rfl |>.trans ?_
    · refine (seq_nx (S' := [.sh (tr t), .sh (.int 1), .ow (.l [.int t.1, .int t.2.1, .int t.2.2])]) (by kernel_rfl)).trans ?_
      refine (seq_nx (setM_ok (i := 2) (fi := varF 1) (o := .l [.int t.1, .int t.2.1, .int t.2.2]) (step_ret (v := t.2.1) (by kernel_rfl) (by kernel_rfl) (by kernel_rfl) h.1 h.2.2 hn) rfl rfl (k := 1) (S2 := [.sh (tr t), .sh (.int 1), .ow (.l [.int t.1, .int t.2.1, .int t.2.2])]) rfl rfl)).trans ?_
      exact ret_ok rfl
    · rw [Int.mul_right_comm]
      rfl
  | 2, _ => by
    show runDef 2 1 m_law_step _ = _
    rw [e_law_step]
    refine runDef_rt (S' := [.sh (tr t), .sh (.int 2), .ow (.l [.int t.1, .int t.2.1, .int (3 * t.1 * t.2.1 - t.2.2)])]) rfl ?_ rfl
    refine (seq_nx (S' := [.sh (tr t), .sh (.int 2), .ow (.l [.int t.1, .int t.2.1, .int t.2.2])]) (by kernel_rfl)).trans ?_
    refine (seq_nx (setM_ok (i := 2) (fi := varF 1) (o := .l [.int t.1, .int t.2.1, .int t.2.2]) (step_ret (v := t.2.2) (by kernel_rfl) (by kernel_rfl) (by kernel_rfl) h.2.1 h.1 hn) rfl rfl (k := 2) (S2 := [.sh (tr t), .sh (.int 2), .ow (.l [.int t.1, .int t.2.1, .int t.2.2])]) rfl rfl)).trans ?_
    exact ret_ok rfl
  | i + 3, hi => by omega
/-! ### bounds along a walk -/
theorem bd_walk : ∀ (l : List Nat) (t : T3) (n : Nat), bd (3 * 2 ^ n - 2) t → bd (3 * 2 ^ (n + l.length) - 2) (walk l t)
  | [], t, n, h => h
  | i :: l, t, n, h => by
    have h1 := bd_nx h i
    have e : 2 * (3 * 2 ^ n - 2) + 2 = 3 * 2 ^ (n + 1) - 2 := by
      have := Nat.one_le_two_pow (n := n)
      rw [Nat.pow_succ]
      omega
    rw [e] at h1
    have h2 := bd_walk l (nx i t) (n + 1) h1
    rw [show n + 1 + l.length = n + (i :: l).length by rw [List.length_cons]; omega] at h2
    exact h2
theorem bd_w {l : List Nat} (h : l.length ≤ 10) : bd 4000 (walk l ones) := by
  have h1 := bd_walk l ones 0 ⟨by decide, by decide, by decide⟩
  refine bd_up h1 ?_
  have : 2 ^ (0 + l.length) ≤ 2 ^ 10 := Nat.pow_le_pow_right (by decide) (by omega)
  omega
def iDs (l : List Nat) : List D := l.map fun (i : Nat) => D.int (i : Int)
theorem walk_app (l0 l : List Nat) (i : Nat) : walk (l0 ++ i :: l) ones = walk l (nx i (walk l0 ones)) := by
  unfold walk
  rw [List.foldl_append]
  rfl
/-! ### triple_at -/
theorem at_loop {s0 s1 : SV} : ∀ (l l0 : List Nat) (x : SV), (∀ i ∈ l, i < 3) → l0.length + l.length ≤ 10 → ∃ y, forL (.nm 3) (asgM 2 (callM F_p_exchanged_triple [.ex (varF 2), .ex (varF 3)])) (iDs l) [s0, s1, .sh (tr (walk l0 ones)), x] = .ok .nx [s0, s1, .sh (tr (walk (l0 ++ l) ones)), y]
  | [], l0, x, _, _ => ⟨x, by rw [List.append_nil]; rfl⟩
  | i :: l, l0, x, hl, hn => by
    rw [List.length_cons] at hn
    obtain ⟨y, e⟩ := at_loop (s0 := s0) (s1 := s1) l (l0 ++ [i]) (.sh (.int i)) (fun j hj => hl j (List.mem_cons_of_mem _ hj)) (by rw [List.length_append]; show l0.length + 1 + l.length ≤ 10; omega)
    rw [List.append_assoc, walk_snoc] at e
    refine ⟨y, Eq.trans ?_ e⟩
    refine forL_cons (asg_ok (S' := [s0, s1, .sh (tr (walk l0 ones)), .sh (.int i)]) ?_)
    exact call2 (v := .sh (tr (walk l0 ones))) (w := .sh (.int i)) rfl rfl rfl rfl (ex_ok (bd_w (by omega)) (by decide) (hl i List.mem_cons_self))
theorem nat_ok (s0 : SV) : ∀ {i : Nat}, i < 3 → andM (callM F_p_is_natural [.ex (varF 1)]) (opM (strD ltS fun i j => decide (i < j)) [.pk 1, .ex (conM (.int 3))]) [s0, .sh (.int i), .un, .un] = .ok (.sh (.bl true)) [s0, .sh (.int i), .un, .un]
  | 0, _ => by kernel_rfl
  | 1, _ => by kernel_rfl
  | 2, _ => by kernel_rfl
  | i + 3, h => by omega
theorem all_true {s : List SV} {f : M SV} {n : Nat} {ds : List D} (h : f s = .ok (.ow (.l (ds.map fun _ => .bl true))) s) : opM allD [.ex f] s = .ok (.sh (.bl true)) s := by
  refine op1v h rfl ?_
  have e3 : ds.map (fun _ => D.bl true) = List.replicate ds.length (.bl true) := List.map_const' ..
  rw [e3]
  show (blsD (List.replicate ds.length (.bl true))).map (fun ns => SV.sh (.bl (ns.all id))) = _
  rw [allD_true]
  show some (SV.sh (.bl ((List.replicate ds.length true).all id))) = _
  have e4 : (List.replicate ds.length true).all id = true := by simp
  rw [e4]
theorem at_ok {l : List Nat} (hl : ∀ i ∈ l, i < 3) (hn : l.length ≤ 10) : F_p_triple_at [.sh (.tup (iDs l))] = .ok (.sh (tr (walk l ones))) [.un] := by
  show runDef 1 3 m_p_triple_at _ = _
  rw [e_p_triple_at]
  obtain ⟨y, e⟩ := at_loop (s0 := .sh (.tup (iDs l))) (s1 := .un) l [] .un hl (by show 0 + l.length ≤ 10; omega)
  refine runDef_rt (S' := [.sh (.tup (iDs l)), .un, .sh (tr (walk l ones)), y]) rfl ?_ rfl
  have lc : lcM (wSeq (varF 0)) (.nm 1) yesT (andM (callM F_p_is_natural [.ex (varF 1)]) (opM (strD ltS fun i j => decide (i < j)) [.pk 1, .ex (conM (.int 3))])) [.sh (.tup (iDs l)), .un, .un, .un] = .ok (.ow (.l ((iDs l).map fun _ => .bl true))) [.sh (.tup (iDs l)), .un, .un, .un] := by
    refine lcM_pure (wk := ⟨iDs l, [.sh (.tup (iDs l))]⟩) (wSeq_ok rfl rfl) ?_ rfl fun d hd => ?_
    · show (iDs l).length ≤ sizeLine
      unfold iDs
      rw [List.length_map, sizeLine_eq]
      omega
    · obtain ⟨i, hi, rfl⟩ := List.mem_map.mp hd
      exact ⟨.sh (.bl true), _, nat_ok _ (hl i hi), rfl, rfl⟩
  refine (seq_nx (S' := [.sh (.tup (iDs l)), .un, .un, .un]) ?_).trans ?_
  · refine (ite_f (S' := [.sh (.tup (iDs l)), .un, .un, .un]) ?_).trans rfl
    exact (orT_f (S' := [.sh (.tup (iDs l)), .un, .un, .un]) (notT_ok (b := true) rfl)).trans (notT_ok (b := true) (asT_ok (all_true (n := 0) lc)))
  · refine (seq_nx (S' := [.sh (.tup (iDs l)), .un, .sh (tr ones), .un]) rfl).trans ?_
    refine (seq_nx ((for_ok (wSeq_ok (f := varF 0) (v := .sh (.tup (iDs l))) rfl rfl)).trans e)).trans ?_
    rfl
/-! ### row_down -/
def mxv (t : T3) : Int := max (max t.1 t.2.1) t.2.2
def tp (t : T3) : List PyData := [.int t.1, .int t.2.1, .int t.2.2]
theorem shp_tr (t : T3) : shp (tr t) = some (.tuple (tp t)) := by kernel_rfl
theorem idx_at {t : T3} : ∀ {i : Nat}, i < 3 → mx i t → idxD [tr t, .int (mxv t)] = some (.sh (.int (i : Nat))) ∧ cntD [tr t, .int (mxv t)] = some (.sh (.int 1)) := fun {i} hi h => by
  have e1 : idxD [tr t, .int (mxv t)] = ((tp t).findIdx? fun z => PyData.eqv z (.int (mxv t))).map fun (j : Nat) => SV.sh (.int j) := by
    show (match shp (.int (mxv t)), shp (tr t) with
      | some p, some (.tuple qs) => (qs.findIdx? fun z => PyData.eqv z p).map fun (j : Nat) => SV.sh (.int j)
      | _, _ => none) = _
    rw [shp_tr]
    rfl
  have e2 : cntD [tr t, .int (mxv t)] = some (.sh (.int ((tp t).countP fun z => PyData.eqv z (.int (mxv t)) : Nat))) := by
    show (match shp (.int (mxv t)), shp (tr t) with
      | some p, some (.tuple qs) => some (SV.sh (.int (qs.countP fun z => PyData.eqv z p : Nat)))
      | _, _ => none) = _
    rw [shp_tr]
    rfl
  have q : ∀ x : Int, PyData.eqv (.int x) (.int (mxv t)) = decide (x = mxv t) := fun x => rfl
  rw [e1, e2]
  unfold tp
  rw [List.findIdx?_cons, List.findIdx?_cons, List.findIdx?_cons, List.countP_cons, List.countP_cons, List.countP_cons, q, q, q]
  unfold mxv
  match i, hi, h with
  | 0, _, h =>
    obtain ⟨h1, h2⟩ := h
    rw [decide_eq_true (show t.1 = max (max t.1 t.2.1) t.2.2 by omega), decide_eq_false (show ¬ t.2.1 = max (max t.1 t.2.1) t.2.2 by omega), decide_eq_false (show ¬ t.2.2 = max (max t.1 t.2.1) t.2.2 by omega)]
    exact ⟨rfl, rfl⟩
  | 1, _, h =>
    obtain ⟨h1, h2⟩ := h
    rw [decide_eq_false (show ¬ t.1 = max (max t.1 t.2.1) t.2.2 by omega), decide_eq_true (show t.2.1 = max (max t.1 t.2.1) t.2.2 by omega), decide_eq_false (show ¬ t.2.2 = max (max t.1 t.2.1) t.2.2 by omega)]
    exact ⟨rfl, rfl⟩
  | 2, _, h =>
    obtain ⟨h1, h2⟩ := h
    rw [decide_eq_false (show ¬ t.1 = max (max t.1 t.2.1) t.2.2 by omega), decide_eq_false (show ¬ t.2.1 = max (max t.1 t.2.1) t.2.2 by omega), decide_eq_true (show t.2.2 = max (max t.1 t.2.1) t.2.2 by omega)]
    exact ⟨rfl, rfl⟩
theorem ne_ones {t : T3} {neg : Bool} (h : t ≠ ones) : eqD neg [tr t, tr ones] = some (.sh (.bl neg)) := by
  show (match shp (tr t), shp (tr ones) with
      | some p, some q => some (SV.sh (D.bl (if neg then !p.eqv q else p.eqv q)))
      | _, _ => none) = _
  rw [shp_tr, shp_tr]
  have e : PyData.eqv (.tuple (tp t)) (.tuple (tp ones)) = false := by
    show (decide (t.1 = 1) && (decide (t.2.1 = 1) && (decide (t.2.2 = 1) && true))) = false
    by_cases h1 : t.1 = 1
    · by_cases h2 : t.2.1 = 1
      · by_cases h3 : t.2.2 = 1
        · exact absurd (Prod.ext h1 (Prod.ext h2 h3)) h
        · rw [decide_eq_false h3]; simp
      · rw [decide_eq_false h2]; simp
    · rw [decide_eq_false h1]; rfl
  show some (SV.sh (.bl (if neg = true then !PyData.eqv (.tuple (tp t)) (.tuple (tp ones)) else PyData.eqv (.tuple (tp t)) (.tuple (tp ones))))) = _
  rw [e]
  cases neg <;> rfl
theorem eq_ones (neg : Bool) : eqD neg [tr ones, tr ones] = some (.sh (.bl (!neg))) := by cases neg <;> kernel_rfl
theorem last_ix (acc : List D) (d : D) : ixD [.lst (acc ++ [d]), .int (-1)] = some (.sh d) := by
  show (L2.atI (acc ++ [d]) (-1)).map SV.sh = _
  unfold L2.atI L2.ixN
  rw [if_neg (by decide), if_pos (by rw [List.length_append]; show -((acc.length + 1 : Nat) : Int) ≤ -1; omega)]
  show ((acc ++ [d])[((-1 : Int) + ((acc ++ [d]).length : Nat)).toNat]?).map SV.sh = _
  rw [show ((-1 : Int) + ((acc ++ [d]).length : Nat)).toNat = acc.length by rw [List.length_append]; show ((-1 : Int) + ((acc.length + 1 : Nat) : Int)).toNat = _; omega, List.getElem?_append_right (Nat.le_refl _), Nat.sub_self]
  rfl
theorem app_ok {i : Nat} {fv : M SV} {S S1 : List SV} {s : SV} {r : SV} {d : D} {xs : List D} (hl : isL S i = true) (h : fv S = .ok r S1) (hd : r.shd = some d) (hs : S1[i]? = some s) (ho : s.own? = some (.l xs)) (hz : xs.length ≤ 1000) : appM i fv S = .ok (.sh .non) (S1.set i (s.put (.l (xs ++ [d])))) := by
  have e : appI S1 i d = some (S1.set i (s.put (.l (xs ++ [d])))) := by
    unfold appI
    rw [hs]
    show (match s.own? with
      | some (.l xs) => if xs.length < sizeLine then some (S1.set i (s.put (.l (xs ++ [d])))) else none
      | _ => none) = _
    rw [ho]
    exact if_pos (by rw [sizeLine_eq]; omega)
  unfold appM
  rw [if_pos hl, h]
  show (match r.shd with
    | some d => (match appI S1 i d with
      | some S2 => Res.ok (SV.sh .non) S2
      | none => .stuck)
    | none => .stuck) = _
  rw [hd]
  show (match appI S1 i d with
      | some S2 => Res.ok (SV.sh .non) S2
      | none => .stuck) = _
  rw [e]
theorem lm_tup {g : List D → Option SV} {i : Nat} {fe : AF} {S : List SV} {ys : List D} (h : S[i]?.bind SV.dat? = some (.tup ys)) : lmM g i fe S = opM (onT g) [.pk i, fe] S := by
  unfold lmM
  rw [h]
theorem max_ok (t : T3) {k : Nat} (S : List SV) (h : S[k]?.bind SV.dat? = some (tr t)) : opM maxD [.pk k] S = .ok (.sh (.int (mxv t))) S := op1s h rfl
theorem lix_ok {t : T3} {k i : Nat} {S : List SV} (h : S[k]?.bind SV.dat? = some (tr t)) (hi : i < 3) (hm : mx i t) : lmM idxD k (.ex (opM maxD [.pk k])) S = .ok (.sh (.int i)) S :=
  (lm_tup h).trans (op2l h (max_ok t S h) h (idx_at hi hm).1)
theorem lcn_ok {t : T3} {k i : Nat} {S : List SV} (h : S[k]?.bind SV.dat? = some (tr t)) (hi : i < 3) (hm : mx i t) : lmM cntD k (.ex (opM maxD [.pk k])) S = .ok (.sh (.int 1)) S :=
  (lm_tup h).trans (op2l h (max_ok t S h) h (idx_at hi hm).2)
theorem whl_f {c : M Bool} {b : MS} {n : Nat} {S S' : List SV} (h : c S = .ok false S') : whlM c b (n + 1) S = .ok .nx S' := by
  show (c S).bind _ = _
  rw [h]
  rfl
theorem whl_t {c : M Bool} {b : MS} {n : Nat} {S S1 S2 : List SV} (h : c S = .ok true S1) (h2 : b S1 = .ok .nx S2) : whlM c b (n + 1) S = whlM c b n S2 := by
  show (c S).bind _ = _
  rw [h]
  show (b S1).bind _ = _
  rw [h2]
  rfl
def cnd0 : M Bool := asT (opM (eqD true) [.pk 0, .ex (tupM [.ex (conM (.int 1)), .ex (conM (.int 1)), .ex (conM (.int 1))])])
def bdy0 : MS := seqM (exprM (appM 1 (lmM idxD 0 (.ex (opM maxD [.pk 0]))))) (asgM 0 (callM F_p_exchanged_triple [.ex (varF 0), .ex (opM ixD [.pk 1, .ex (opM negD [.ex (conM (.int 1))])])]))
theorem mx_ne {t : T3} {i : Nat} (h : mx i t) : t ≠ ones := fun e => by
  rw [e] at h
  exact mx_ones h
theorem down_loop : ∀ (l : List Nat) (t : T3) (acc : List D) (n : Nat), l.length < n → l.length ≤ 10 → acc.length + l.length ≤ 100 → Dn l t → whlM cnd0 bdy0 n [.sh (tr t), .ow (.l acc)] = .ok .nx [.sh (tr ones), .ow (.l (acc ++ iDs l))]
  | [], t, acc, n + 1, _, _, _, h => by
    rw [show t = ones from h]
    refine (whl_f (c := cnd0) (b := bdy0) (S' := [.sh (tr ones), .ow (.l acc)]) (asT_ok (op2l (i := tr ones) (i' := tr ones) rfl rfl rfl (eq_ones true)))).trans ?_
    show _ = Res.ok Fl.nx [.sh (tr ones), .ow (.l (acc ++ []))]
    rw [List.append_nil]
  | i :: l, t, acc, n + 1, hn, hl, ha, h => by
    have hw := bd_w (l := (i :: l).reverse) (by rw [List.length_reverse]; exact hl)
    rw [dn_walk h] at hw
    obtain ⟨hi, hm, h2⟩ := h
    rw [List.length_cons] at hn hl ha
    have ih := down_loop l (nx i t) (acc ++ [.int i]) n (by omega) (by omega) (by rw [List.length_append]; show acc.length + 1 + l.length ≤ 100; omega) h2
    rw [List.append_assoc] at ih
    refine (whl_t (c := cnd0) (b := bdy0) (S1 := [.sh (tr t), .ow (.l acc)]) (S2 := [.sh (tr (nx i t)), .ow (.l (acc ++ [.int i]))]) (asT_ok (op2l (i := tr t) (i' := tr t) (j := tr ones) rfl rfl rfl (ne_ones (mx_ne hm)))) ?_).trans ih
    refine (seq_nx (expr_ok (app_ok (S1 := [.sh (tr t), .ow (.l acc)]) (s := .ow (.l acc)) rfl (lix_ok rfl hi hm) rfl rfl rfl (by omega)))).trans ?_
    refine asg_ok (S' := [.sh (tr t), .ow (.l (acc ++ [.int i]))]) (call2 (v := .sh (tr t)) (w := .sh (.int i)) rfl ?_ rfl rfl (ex_ok hw (by decide) hi))
    exact op2l (i := .lst (acc ++ [.int i])) (i' := .lst (acc ++ [.int i])) (j := .int (-1)) rfl rfl rfl (last_ix _ _)
theorem down_ok {l : List Nat} {t : T3} (h : Dn l t) (hm : mk t) (hl : l.length ≤ 10) : F_p_row_down [.sh (tr t)] = .ok (.sh (.tup (iDs l))) [.un] := by
  have hw := bd_w (l := l.reverse) (by rw [List.length_reverse]; exact hl)
  rw [dn_walk h] at hw
  show runDef 1 1 m_p_row_down _ = _
  rw [e_p_row_down]
  refine runDef_rt (S' := [.sh (tr ones), .ow (.l ([] ++ iDs l))]) rfl ?_ rfl
  refine (seq_nx (S' := [.sh (tr t), .un]) (expr_ok (call1 (v := .sh (tr t)) rfl rfl (check_ok hw (by decide) (isT_mk hm))))).trans ?_
  refine (seq_nx (S' := [.sh (tr t), .ow (.l [])]) rfl).trans ?_
  refine (seq_nx (down_loop l t [] WH (by unfold WH; omega) hl (by show 0 + l.length ≤ 100; omega) h)).trans ?_
  rfl
theorem take_is : F_law_take = runDef 2 3 takeC := by
  show runDef 2 3 m_law_take = _
  rw [e_law_take]
  rfl
theorem same_is : runSameC F_law_same := fun n => by
  show runDef 2 1 (m_law_same (F_law_same n)) = _
  rw [e_law_same]
  rfl
theorem same_ok {d : D} (h : flat 7 d = true) : F_law_same 8 [.sh d, .sh d] = .ok (.sh (.bl true)) [.un, .un] := sameC_refl same_is 7 d h
/-! ### what is refused -/
theorem below_ok : ∀ {i : Nat}, i < 3 → F_p_check_below [.sh (.int i), .sh (.int 3)] = .ok (.sh .non) [.un, .un]
  | 0, _ => by kernel_rfl
  | 1, _ => by kernel_rfl
  | 2, _ => by kernel_rfl
  | i + 3, h => by omega
theorem tex_ok {n : Nat} {t : T3} (h : bd n t) (hn : n ≤ 20000) (ht : isT t = true) {i : Nat} (hi : i < 3) : F_p_triple_exchanged [.sh (tr t), .sh (.int i)] = .ok (.sh (tr (nx i t))) [.un, .un] := by
  show runDef 2 0 m_p_triple_exchanged _ = _
  rw [e_p_triple_exchanged]
  refine runDef_rt (S' := [.sh (tr t), .sh (.int i)]) rfl ?_ rfl
  refine (seq_nx (S' := [.sh (tr t), .sh (.int i)]) (expr_ok (call1 (v := .sh (tr t)) rfl rfl (check_ok h hn ht)))).trans ?_
  refine (seq_nx (S' := [.sh (tr t), .sh (.int i)]) (expr_ok (call2 (v := .sh (.int i)) (w := .sh (.int 3)) rfl rfl rfl rfl (below_ok hi)))).trans ?_
  exact ret_ok (call2 (v := .sh (tr t)) (w := .sh (.int i)) rfl rfl rfl rfl (ex_ok h hn hi))
theorem tex_no {v x : D} (h : F_p_check_triple [.sh v] = .exc "InvalidRows" v [.un]) : F_p_triple_exchanged [.sh v, .sh x] = .exc "InvalidRows" v [.un, .un] := by
  show runDef 2 0 m_p_triple_exchanged _ = _
  rw [e_p_triple_exchanged]
  refine runDef_ex (S' := [.sh v, .sh x]) rfl ?_ rfl
  exact seq_ex (expr_ex (call1_ex (v := .sh v) rfl rfl h))
theorem tex_odd {n : Nat} {t : T3} (h : bd n t) (hn : n ≤ 20000) (ht : isT t = true) {x : D} (hx : F_p_check_below [.sh x, .sh (.int 3)] = .exc "InvalidInteger" x [.un, .un]) : F_p_triple_exchanged [.sh (tr t), .sh x] = .exc "InvalidInteger" x [.un, .un] := by
  show runDef 2 0 m_p_triple_exchanged _ = _
  rw [e_p_triple_exchanged]
  refine runDef_ex (S' := [.sh (tr t), .sh x]) rfl ?_ rfl
  refine (seq_nx (S' := [.sh (tr t), .sh x]) (expr_ok (call1 (v := .sh (tr t)) rfl rfl (check_ok h hn ht)))).trans ?_
  exact seq_ex (expr_ex (call2_ex (v := .sh x) (w := .sh (.int 3)) rfl rfl rfl rfl hx))
theorem down_no {v : D} (h : F_p_check_triple [.sh v] = .exc "InvalidRows" v [.un]) : F_p_row_down [.sh v] = .exc "InvalidRows" v [.un] := by
  show runDef 1 1 m_p_row_down _ = _
  rw [e_p_row_down]
  refine runDef_ex (S' := [.sh v, .un]) rfl ?_ rfl
  exact seq_ex (expr_ex (call1_ex (v := .sh v) rfl rfl h))
def odds : List D := [.int 3, .int (-1), .non, .str "0", .bl true, .tup [.int 0]]
def wrongs : List D := [.lst [.int 0], .tup [.int 3], .tup [.int 0, .int (-1)], .non, .str "01", .tup [.int 0, .non], .tup [.bl true], .int 0]
theorem all_odds : (odds.map fun x => F_p_check_below [.sh x, .sh (.int 3)]) = odds.map fun x => .exc "InvalidInteger" x [.un, .un] := by kernel_rfl
theorem all_wrongs : (wrongs.map fun x => F_p_triple_at [.sh x]) = wrongs.map fun x => .exc "InvalidRow" x [.un] := by kernel_rfl
def vals1 (t : T3) : List D := [.lst [.int t.1, .int t.2.1, .int t.2.2], .tup [.int t.1, .int t.2.1], .tup [.int t.1, .int t.2.1, .int t.2.2, .int 1], .tup [.int 0, .int 0, .int 0], .tup [.int (-1), .int (-1), .int 1], .tup [.int 1, .int 1, .int 0], .non, .int 1, .tup [.bl true, .int 1, .int 1], .str "111", .tup [.int 3, .int 3, .int 3], .tup [.int 1, .int 2, .int 3]]
theorem all_vals (t : T3) : ((vals1 t).map fun v => F_p_check_triple [.sh v]) = (vals1 t).map fun v => .exc "InvalidRows" v [.un] := by kernel_rfl
theorem flat_vals (t : T3) : ((vals1 t).all fun v => flat 6 v) = true := by kernel_rfl
theorem flat_odds : (odds.all fun v => flat 5 v) = true := by kernel_rfl
theorem flat_wrongs : (wrongs.all fun v => flat 5 v) = true := by kernel_rfl
/-! ### _law_asked -/
def tB0 : MS := iteM (asT (opM (eqD false) [.pk 2, .ex (conM (.int 0))])) (asgM 4 (callM F_p_triple_exchanged [.ex (varF 0), .ex (varF 1)])) (iteM (asT (opM (eqD false) [.pk 2, .ex (conM (.int 1))])) (asgM 4 (callM F_p_row_down [.ex (varF 0)])) (asgM 4 (callM F_p_triple_at [.ex (varF 0)])))
def hB0 : MS := seqM (asgM 3 (varF 5)) skipM
def rB0 : MS := (seqM (iteM (asT (opM (isD false) [.pk 3, .ex (conM .non)])) (retM (lstM [.ex (conM (.str "told")), .ex (varF 4)])) skipM)
  (seqM (asgM 6 (lstM [.ex (opM (isxD xs0 "InvalidRows") [.pk 3]), .ex (opM (isxD xs0 "InvalidRow") [.pk 3]), .ex (opM (isxD xs0 "InvalidInteger") [.pk 3])]))
  (retM (lstM [.ex (ifM (asT (opM (inD false) [.ex (conM (.bl true)), .pk 6])) (opM ixD [.ex (lstM [.ex (conM (.str "rows")), .ex (conM (.str "row")), .ex (conM (.str "integer"))]), .ex (lmM idxD 6 (.ex (conM (.bl true))))]) (conM (.str "other"))), .ex (opM (xvalD xs0) [.pk 3])]))))
theorem asked_is : m_law_asked = seqM (parM 3 4 (conM .non) (conM .non)) (seqM (tryM xs0 "SeedsError" 5 tB0 hB0) rB0) := by
  rw [e_law_asked]
  rfl
theorem try_ok {tb : XTab} {x : Str} {i : Nat} {f g : MS} {S S1 : List SV} {fl : Fl} (h : f S = .ok fl S1) : tryM tb x i f g S = .ok fl S1 := by
  unfold tryM
  rw [h]
theorem try_ex {tb : XTab} {x c : Str} {i : Nat} {f g : MS} {S S1 S2 : List SV} {fl : Fl} {d : D} {p : Str × List Str} (h : f S = .exc c d S1) (hp : (tb.find? fun p => decide (p.1 = c)) = some p) (hx : x ∈ p.2) (hg : g (S1.set i (.sh (.exn c d))) = .ok fl S2) : tryM tb x i f g S = .ok fl (S2.set i .un) := by
  unfold tryM
  rw [h]
  show (match tb.find? fun p => decide (p.1 = c) with
    | none => Res.stuck
    | some p => if x ∈ p.2 then (match g (S1.set i (.sh (.exn c d))) with
      | .ok fl S2 => .ok fl (S2.set i .un)
      | _ => .stuck) else .exc c d S1) = _
  rw [hp]
  show (if x ∈ p.2 then (match g (S1.set i (.sh (.exn c d))) with
      | .ok fl S2 => Res.ok fl (S2.set i .un)
      | _ => .stuck) else .exc c d S1) = _
  rw [if_pos hx, hg]
theorem asked_told {v a w r : D} (h : tB0 [.sh v, .sh a, .sh w, .sh .non, .sh .non, .un, .un] = .ok .nx [.sh v, .sh a, .sh w, .sh .non, .sh r, .un, .un]) : F_law_asked [.sh v, .sh a, .sh w] = .ok (.ow (.l [.str "told", r])) [.un, .un, .un] := by
  show runDef 3 4 m_law_asked _ = _
  rw [asked_is]
  refine runDef_rt (S' := [.sh v, .sh a, .sh w, .sh .non, .sh r, .un, .un]) rfl ?_ rfl
  refine (seq_nx (S' := [.sh v, .sh a, .sh w, .sh .non, .sh .non, .un, .un]) rfl).trans ?_
  refine (seq_nx (try_ok h)).trans ?_
  kernel_rfl
theorem fin_rows (v a w d : D) : rB0 [.sh v, .sh a, .sh w, .sh (.exn "InvalidRows" d), .sh .non, .un, .un] = .ok (.rt (.ow (.l [.str "rows", d]))) [.sh v, .sh a, .sh w, .sh (.exn "InvalidRows" d), .sh .non, .un, .ow (.l [.bl true, .bl false, .bl false])] := by kernel_rfl
theorem fin_row (v a w d : D) : rB0 [.sh v, .sh a, .sh w, .sh (.exn "InvalidRow" d), .sh .non, .un, .un] = .ok (.rt (.ow (.l [.str "row", d]))) [.sh v, .sh a, .sh w, .sh (.exn "InvalidRow" d), .sh .non, .un, .ow (.l [.bl false, .bl true, .bl false])] := by kernel_rfl
theorem fin_int (v a w d : D) : rB0 [.sh v, .sh a, .sh w, .sh (.exn "InvalidInteger" d), .sh .non, .un, .un] = .ok (.rt (.ow (.l [.str "integer", d]))) [.sh v, .sh a, .sh w, .sh (.exn "InvalidInteger" d), .sh .non, .un, .ow (.l [.bl false, .bl false, .bl true])] := by kernel_rfl
theorem asked_exc {v a w d : D} {c : Str} {nm : Str} {x6 : SV} {p : Str × List Str} (h : tB0 [.sh v, .sh a, .sh w, .sh .non, .sh .non, .un, .un] = .exc c d [.sh v, .sh a, .sh w, .sh .non, .sh .non, .un, .un]) (hp : (xs0.find? fun p => decide (p.1 = c)) = some p) (hx : ("SeedsError" : Str) ∈ p.2)
    (hr : rB0 [.sh v, .sh a, .sh w, .sh (.exn c d), .sh .non, .un, .un] = .ok (.rt (.ow (.l [.str nm, d]))) [.sh v, .sh a, .sh w, .sh (.exn c d), .sh .non, .un, x6]) : F_law_asked [.sh v, .sh a, .sh w] = .ok (.ow (.l [.str nm, d])) [.un, .un, .un] := by
  show runDef 3 4 m_law_asked _ = _
  rw [asked_is]
  refine runDef_rt (S' := [.sh v, .sh a, .sh w, .sh (.exn c d), .sh .non, .un, x6]) rfl ?_ rfl
  refine (seq_nx (S' := [.sh v, .sh a, .sh w, .sh .non, .sh .non, .un, .un]) rfl).trans ?_
  refine (seq_nx (try_ex (S2 := [.sh v, .sh a, .sh w, .sh (.exn c d), .sh .non, .sh (.exn c d), .un]) h hp hx rfl)).trans ?_
  exact hr
theorem asked_ex {n : Nat} {t : T3} (h : bd n t) (hn : n ≤ 20000) (ht : isT t = true) {i : Nat} (hi : i < 3) : F_law_asked [.sh (tr t), .sh (.int i), .sh (.int 0)] = .ok (.ow (.l [.str "told", tr (nx i t)])) [.un, .un, .un] := by
  refine asked_told ?_
  refine (ite_t (S' := [.sh (tr t), .sh (.int i), .sh (.int 0), .sh .non, .sh .non, .un, .un]) rfl).trans ?_
  exact asg_ok (S' := [.sh (tr t), .sh (.int i), .sh (.int 0), .sh .non, .sh .non, .un, .un]) (call2 (v := .sh (tr t)) (w := .sh (.int i)) rfl rfl rfl rfl (tex_ok h hn ht hi))
theorem asked_no0 {v a : D} (h : F_p_check_triple [.sh v] = .exc "InvalidRows" v [.un]) : F_law_asked [.sh v, .sh a, .sh (.int 0)] = .ok (.ow (.l [.str "rows", v])) [.un, .un, .un] := by
  refine asked_exc (c := "InvalidRows") (p := ("InvalidRows", ["InvalidRows", "SeedsError", "ValueError"])) ?_ (by kernel_rfl) (by decide) (fin_rows ..)
  refine (ite_t (S' := [.sh v, .sh a, .sh (.int 0), .sh .non, .sh .non, .un, .un]) rfl).trans ?_
  exact asg_ex (S' := [.sh v, .sh a, .sh (.int 0), .sh .non, .sh .non, .un, .un]) (call2_ex (v := .sh v) (w := .sh a) rfl rfl rfl rfl (tex_no h))
theorem asked_no1 {v a : D} (h : F_p_check_triple [.sh v] = .exc "InvalidRows" v [.un]) : F_law_asked [.sh v, .sh a, .sh (.int 1)] = .ok (.ow (.l [.str "rows", v])) [.un, .un, .un] := by
  refine asked_exc (c := "InvalidRows") (p := ("InvalidRows", ["InvalidRows", "SeedsError", "ValueError"])) ?_ (by kernel_rfl) (by decide) (fin_rows ..)
  refine (ite_f (S' := [.sh v, .sh a, .sh (.int 1), .sh .non, .sh .non, .un, .un]) rfl).trans ?_
  refine (ite_t (S' := [.sh v, .sh a, .sh (.int 1), .sh .non, .sh .non, .un, .un]) rfl).trans ?_
  exact asg_ex (S' := [.sh v, .sh a, .sh (.int 1), .sh .non, .sh .non, .un, .un]) (call1_ex (v := .sh v) rfl rfl (down_no h))
theorem asked_odd {n : Nat} {t : T3} (h : bd n t) (hn : n ≤ 20000) (ht : isT t = true) {x : D} (hx : x ∈ odds) : F_law_asked [.sh (tr t), .sh x, .sh (.int 0)] = .ok (.ow (.l [.str "integer", x])) [.un, .un, .un] := by
  refine asked_exc (c := "InvalidInteger") (p := ("InvalidInteger", ["InvalidInteger", "SeedsError", "ValueError"])) ?_ (by kernel_rfl) (by decide) (fin_int ..)
  refine (ite_t (S' := [.sh (tr t), .sh x, .sh (.int 0), .sh .non, .sh .non, .un, .un]) rfl).trans ?_
  exact asg_ex (S' := [.sh (tr t), .sh x, .sh (.int 0), .sh .non, .sh .non, .un, .un]) (call2_ex (v := .sh (tr t)) (w := .sh x) rfl rfl rfl rfl (tex_odd h hn ht (List.map_inj_left.mp all_odds x hx)))
theorem asked_wrong {x : D} (hx : x ∈ wrongs) : F_law_asked [.sh x, .sh (.int 0), .sh (.int 2)] = .ok (.ow (.l [.str "row", x])) [.un, .un, .un] := by
  refine asked_exc (c := "InvalidRow") (p := ("InvalidRow", ["InvalidRow", "SeedsError", "ValueError"])) ?_ (by kernel_rfl) (by decide) (fin_row ..)
  refine (ite_f (S' := [.sh x, .sh (.int 0), .sh (.int 2), .sh .non, .sh .non, .un, .un]) rfl).trans ?_
  refine (ite_f (S' := [.sh x, .sh (.int 0), .sh (.int 2), .sh .non, .sh .non, .un, .un]) rfl).trans ?_
  exact asg_ex (S' := [.sh x, .sh (.int 0), .sh (.int 2), .sh .non, .sh .non, .un, .un]) (call1_ex (v := .sh x) rfl rfl (List.map_inj_left.mp all_wrongs x hx))
/-- a comprehension whose element changes the state, counted -/
theorem lcL_cnt {i N : Nat} {f : M SV} {I : Nat → List SV → Prop} {R : D → Prop} : ∀ {ds : List D} {k : Nat}, k + ds.length ≤ N → (∀ d ∈ ds, ∀ k S, k < N → I k S → ∃ v S' e, f (S.set i (.sh d)) = .ok v S' ∧ v.shd = some e ∧ R e ∧ I (k + 1) (S'.set i .un)) →
    ∀ S, I k S → ∃ es S', lcL [i] (.nm i) yesT f ds S = .ok es S' ∧ es.length = ds.length ∧ (∀ e ∈ es, R e) ∧ I (k + ds.length) S'
  | [], k, _, _, S, hS => ⟨[], S, rfl, rfl, fun _ he => absurd he List.not_mem_nil, hS⟩
  | d :: ds, k, hN, h, S, hS => by
    rw [List.length_cons] at hN
    obtain ⟨v, S1, e, e1, e2, e3, e4⟩ := h d List.mem_cons_self k S (by omega) hS
    obtain ⟨es, S2, e5, e6, e7, e8⟩ := lcL_cnt (by omega) (fun d' hd => h d' (List.mem_cons_of_mem _ hd)) _ e4
    refine ⟨e :: es, S2, ?_, by rw [List.length_cons, List.length_cons, e6], fun x hx => ?_, by rw [List.length_cons, show k + (ds.length + 1) = k + 1 + ds.length by omega]; exact e8⟩
    · have e0 : lcL [i] (.nm i) yesT f (d :: ds) S = (noexc (f (S.set i (.sh d)))).bind fun r S3 => (match r.shd with
          | some y => (lcL [i] (.nm i) yesT f ds (wipeS S3 [i])).bind fun ys S4 => .ok (y :: ys) S4
          | none => .stuck) := by
        show (match Tg.put (.nm i) d S with
          | none => Res.stuck
          | some S1 => (noexc (yesT S1)).bind fun b S2 => if b = true then (noexc (f S2)).bind fun r S3 => (match r.shd with
              | some y => (lcL [i] (.nm i) yesT f ds (wipeS S3 [i])).bind fun ys S4 => .ok (y :: ys) S4
              | none => .stuck)
            else lcL [i] (.nm i) yesT f ds (wipeS S2 [i])) = _
        rw [put_nm]
        rfl
      rw [e0, e1]
      show (match v.shd with
        | some y => (lcL [i] (.nm i) yesT f ds (S1.set i .un)).bind fun ys S4 => .ok (y :: ys) S4
        | none => Res.stuck) = _
      rw [e2]
      show (lcL [i] (.nm i) yesT f ds (S1.set i .un)).bind (fun ys S4 => Res.ok (e :: ys) S4) = _
      rw [e5]
      rfl
    · rcases List.mem_cons.mp hx with rfl | hx
      · exact e3
      · exact e7 x hx
theorem lcM_cnt {i N : Nat} {src : M Walk} {f : M SV} {S S0 : List SV} {wk : Walk} {k : Nat} {I : Nat → List SV → Prop} {R : D → Prop} (hs : src S = .ok wk S0) (hz : wk.items.length ≤ 1000) (hN : k + wk.items.length ≤ N) (h : ∀ d ∈ wk.items, ∀ k S, k < N → I k S → ∃ v S' e, f (S.set i (.sh d)) = .ok v S' ∧ v.shd = some e ∧ R e ∧ I (k + 1) (S'.set i .un)) (h0 : I k (S0.set i .un)) :
    ∃ es S', lcM src (.nm i) yesT f S = .ok (.ow (.l es)) (S'.set i (S0.getD i .un)) ∧ es.length = wk.items.length ∧ (∀ e ∈ es, R e) ∧ I (k + wk.items.length) S' := by
  obtain ⟨es, S', e1, e2, e3, e4⟩ := lcL_cnt hN h _ h0
  refine ⟨es, S', ?_, e2, e3, e4⟩
  unfold lcM
  rw [hs]
  show (if wk.items.length ≤ sizeLine then _ else _) = _
  rw [if_pos (by rw [sizeLine_eq]; omega)]
  show (lcL [i] (.nm i) yesT f wk.items (S0.set i .un)).bind _ = _
  rw [e1]
  rfl
theorem ex_iDs {R : Nat → Prop} : ∀ {es : List D}, (∀ e ∈ es, ∃ k : Nat, R k ∧ e = .int (k : Int)) → ∃ l : List Nat, es = iDs l ∧ ∀ k ∈ l, R k
  | [], _ => ⟨[], rfl, fun _ h => absurd h List.not_mem_nil⟩
  | e :: es, h => by
    obtain ⟨k, hk, rfl⟩ := h e List.mem_cons_self
    obtain ⟨l, rfl, hl⟩ := ex_iDs fun e' he => h e' (List.mem_cons_of_mem _ he)
    exact ⟨k :: l, rfl, fun q hq => by
      rcases List.mem_cons.mp hq with rfl | hq
      · exact hk
      · exact hl q hq⟩
theorem rng_len (n : Nat) : (rngItems 0 n).length = n := by unfold rngItems; rw [List.length_map, List.length_range]
/-- _law_row -/
theorem row_ok {n : Nat} {a b c d : Int} {r : List D} (h : PotC n a b c d r) (hn : n ≤ 900000) : ∃ a' b' c' d' l, PotC (n + 10) a' b' c' d' r ∧ (∀ i ∈ l, i < 3) ∧ l.length ≤ 9 ∧
    F_law_row [.bo 0 (.l (ptC a b c d r)), .sh (.int 3), .sh (.int 9)] = .ok (.sh (.tup (iDs l))) [.bo 0 (.l (ptC a' b' c' d' r)), .un, .un] := by
  have hm : opM addD [.pk 2, .ex (conM (.int 1))] [.bo 0 (.l (ptC a b c d r)), .sh (.int 3), .sh (.int 9), .un] = .ok (.sh (.int 10)) [.bo 0 (.l (ptC a b c d r)), .sh (.int 3), .sh (.int 9), .un] := op2l (i := .int 9) (i' := .int 9) rfl con_ok rfl rfl
  obtain ⟨a1, b1, c1, d1, k, e1, h1, hk⟩ := takeC_call take_is (S := [.bo 0 (.l (ptC a b c d r)), .sh (.int 3), .sh (.int 9), .un]) (i := 0) (m := 10) rfl rfl hm h (by omega) (by decide) (by decide)
  obtain ⟨es, S', e2, e3, e4, e5⟩ := lcM_cnt (i := 3) (k := 1) (N := 10) (f := callM F_law_take [.pk 0, .ex (varF 1)]) (I := fun j S => ∃ a b c d, PotC (n + j) a b c d r ∧ S = [.bo 0 (.l (ptC a b c d r)), .sh (.int 3), .sh (.int 9), .un]) (R := fun e => ∃ k : Nat, k < 3 ∧ e = .int (k : Int))
    (wk := ⟨rngItems 0 k, []⟩) (wRng1 e1 (by omega)) (by rw [rng_len]; omega) (by rw [rng_len]; omega)
    (fun x _ j S hj ⟨a, b, c, d, hp, hS⟩ => by
      subst hS
      obtain ⟨a', b', c', d', q, e, h', hq⟩ := takeC_call take_is (S := [.bo 0 (.l (ptC a b c d r)), .sh (.int 3), .sh (.int 9), .sh x]) (i := 0) (m := 3) (f := varF 1) rfl rfl rfl hp (by omega) (by decide) (by decide)
      exact ⟨.sh (.int q), _, .int q, e, rfl, ⟨q, by omega, rfl⟩, a', b', c', d', h', rfl⟩) ⟨a1, b1, c1, d1, h1, rfl⟩
  rw [rng_len] at e3 e5
  obtain ⟨a2, b2, c2, d2, h2, rfl⟩ := e5
  obtain ⟨l, rfl, hl⟩ := ex_iDs e4
  have hll : l.length = k := by
    unfold iDs at e3
    rw [List.length_map] at e3
    exact e3
  refine ⟨a2, b2, c2, d2, l, h2.up (by omega), hl, by omega, ?_⟩
  show runDef 3 1 m_law_row _ = _
  rw [e_law_row]
  refine runDef_rt (S' := [.bo 0 (.l (ptC a2 b2 c2 d2 r)), .sh (.int 3), .sh (.int 9), .un]) rfl ?_ rfl
  exact ret_ok (op1v e2 rfl rfl)
def t0 : MS := (asgM 3 (callM F_law_row [.pk 1, .ex (conM (.int 3)), .ex (conM (.int 9))]))
def t1 : MS := (asgM 4 (tupM [.ex (conM (.int 1)), .ex (conM (.int 1)), .ex (conM (.int 1))]))
def t2 : MS := (forM' (wSeq (varF 3)) (.nm 5) (asgM 4 (callM F_law_step [.ex (varF 4), .ex (varF 5)])))
def t3 : MS := (iteM (orT (notT (asT (callM (F_law_same 8) [.ex (lstM [.ex (callM F_p_triple_at [.ex (varF 3)]), .ex (callM (lenF 1 (pmF [0] F_p_triple_at)) [.ex (varF 3)])]), .ex (lstM [.ex (varF 4), .ex (varF 4)])]))) (notT (asT (callM F_law_is_right [.ex (varF 4)])))) (retM (conM (.bl false))) skipM)
def t4 : MS := (asgM 5 (callM F_law_take [.pk 1, .ex (conM (.int 3))]))
def t5 : MS := (asgM 6 (callM F_p_triple_exchanged [.ex (varF 4), .ex (varF 5)]))
def t6 : MS := (iteM (notT (asT (callM (F_law_same 8) [.ex (lstM [.ex (varF 6), .ex (callM (lenF 2 (pmF [1, 0] F_p_triple_exchanged)) [.ex (varF 5), .ex (varF 6)])]), .ex (lstM [.ex (callM F_law_step [.ex (varF 4), .ex (varF 5)]), .ex (varF 4)])]))) (retM (conM (.bl false))) skipM)
def t7 : MS := (parM 7 8 (lstM []) (varF 4))
def t8 : MS := (forM' (wRng [.ex (conM (.int 40))]) (.nm 9) (seqM (iteM (asT (opM (eqD false) [.pk 8, .ex (tupM [.ex (conM (.int 1)), .ex (conM (.int 1)), .ex (conM (.int 1))])])) brkM skipM) (seqM (exprM (appM 7 (lmM idxD 8 (.ex (opM maxD [.pk 8]))))) (seqM (iteM (asT (opM (eqD true) [.ex (lmM cntD 8 (.ex (opM maxD [.pk 8]))), .ex (conM (.int 1))])) (retM (conM (.bl false))) skipM) (asgM 8 (callM F_law_step [.ex (varF 8), .ex (opM ixD [.pk 7, .ex (opM negD [.ex (conM (.int 1))])])]))))))
def t9 : MS := (asgM 10 (callM F_p_row_down [.ex (varF 4)]))
def t10 : MS := (iteM (orT (asT (opM (eqD true) [.pk 8, .ex (tupM [.ex (conM (.int 1)), .ex (conM (.int 1)), .ex (conM (.int 1))])])) (notT (asT (callM (F_law_same 8) [.ex (lstM [.ex (varF 10), .ex (callM (lenF 1 (pmF [0] F_p_row_down)) [.ex (varF 4)]), .ex (callM F_p_triple_at [.ex (opM revD [.pk 10])])]), .ex (lstM [.ex (opM tupD [.pk 7]), .ex (opM tupD [.pk 7]), .ex (varF 4)])])))) (retM (conM (.bl false))) skipM)
def t11 : MS := (asgM 11 (opM tupD [.ex (lcM (wRng [.ex (conM (.int 3))]) (.nm 12) yesT (opM addD [.ex (opM ixD [.pk 4, .pk 12]), .ex (opM mulD [.ex (opM subD [.ex (callM F_law_take [.pk 1, .ex (conM (.int 3))]), .ex (conM (.int 1))]), .ex (opM intD [.ex (opM (eqD false) [.pk 12, .pk 5])])])]))]))
def t12 : MS := (asgM 13 (lstM [.ex (varF 11), .ex (opM lisD [.pk 4]), .ex (slM (.pk 4) none (some (conM (.int 2)))), .ex (opM addD [.pk 4, .ex (tupM [.ex (conM (.int 1))])]), .ex (tupM [.ex (conM (.int 0)), .ex (conM (.int 0)), .ex (conM (.int 0))]), .ex (tupM [.ex (opM negD [.ex (conM (.int 1))]), .ex (opM negD [.ex (conM (.int 1))]), .ex (conM (.int 1))]), .ex (tupM [.ex (conM (.int 1)), .ex (conM (.int 1)), .ex (conM (.int 0))]), .ex (conM .non), .ex (conM (.int 1)), .ex (tupM [.ex (conM (.bl true)), .ex (conM (.int 1)), .ex (conM (.int 1))]), .ex (conM (.str "111")), .ex (tupM [.ex (conM (.int 3)), .ex (conM (.int 3)), .ex (conM (.int 3))]), .ex (tupM [.ex (conM (.int 1)), .ex (conM (.int 2)), .ex (conM (.int 3))])]))
def t13 : MS := (asgM 14 (opM ixD [.pk 13, .ex (callM F_law_take [.pk 1, .ex (conM (.int 13))])]))
def t14 : MS := (asgM 15 (ifM (andT (asT (isiM ["tuple"] (.pk 14))) (andT (asT (callM F_law_is_tuple [.ex (varF 14), .ex (conM (.int 3))])) (asT (callM F_law_is_right [.ex (varF 14)])))) (lstM [.ex (conM (.str "told")), .ex (callM F_law_step [.ex (varF 14), .ex (varF 5)])]) (lstM [.ex (conM (.str "rows")), .ex (varF 14)])))
def t15 : MS := (iteM (notT (asT (callM (F_law_same 8) [.ex (callM F_law_asked [.ex (varF 14), .ex (varF 5), .ex (conM (.int 0))]), .ex (varF 15)]))) (retM (conM (.bl false))) skipM)
def t16 : MS := (iteM (andT (asT (opM (eqD false) [.ex (opM ixD [.pk 15, .ex (conM (.int 0))]), .ex (conM (.str "rows"))])) (notT (asT (callM (F_law_same 8) [.ex (callM F_law_asked [.ex (varF 14), .ex (varF 5), .ex (conM (.int 1))]), .ex (varF 15)])))) (retM (conM (.bl false))) skipM)
def t17 : MS := (asgM 16 (opM ixD [.ex (lstM [.ex (conM (.int 3)), .ex (opM negD [.ex (conM (.int 1))]), .ex (conM .non), .ex (conM (.str "0")), .ex (conM (.bl true)), .ex (tupM [.ex (conM (.int 0))])]), .ex (callM F_law_take [.pk 1, .ex (conM (.int 6))])]))
def t18 : MS := (asgM 17 (opM ixD [.ex (lstM [.ex (lstM [.ex (conM (.int 0))]), .ex (tupM [.ex (conM (.int 3))]), .ex (tupM [.ex (conM (.int 0)), .ex (opM negD [.ex (conM (.int 1))])]), .ex (conM .non), .ex (conM (.str "01")), .ex (tupM [.ex (conM (.int 0)), .ex (conM .non)]), .ex (tupM [.ex (conM (.bl true))]), .ex (conM (.int 0))]), .ex (callM F_law_take [.pk 1, .ex (conM (.int 8))])]))
def t19 : MS := (iteM (notT (asT (callM (F_law_same 8) [.ex (lstM [.ex (callM F_law_asked [.ex (varF 4), .ex (varF 16), .ex (conM (.int 0))]), .ex (callM F_law_asked [.ex (varF 17), .ex (conM (.int 0)), .ex (conM (.int 2))])]), .ex (lstM [.ex (lstM [.ex (conM (.str "integer")), .ex (varF 16)]), .ex (lstM [.ex (conM (.str "row")), .ex (varF 17)])])]))) (retM (conM (.bl false))) skipM)
def trn0 : MS := seqM t0 (seqM t1 (seqM t2 (seqM t3 (seqM t4 (seqM t5 (seqM t6 (seqM t7 (seqM t8 (seqM t9 (seqM t10 (seqM t11 (seqM t12 (seqM t13 (seqM t14 (seqM t15 (seqM t16 (seqM t17 (seqM t18 (t19)))))))))))))))))))

abbrev sL (s0 s1 s2 s3 s4 s5 s6 s7 s8 s9 s10 s11 s12 s13 s14 s15 s16 s17 : SV) : List SV := [s0, s1, s2, s3, s4, s5, s6, s7, s8, s9, s10, s11, s12, s13, s14, s15, s16, s17]
theorem law_is : m_p_law = seqM (asgM 1 (callM F_law_pot [.ex (varF 0)])) (seqM (forM' (wRng [.ex (conM (.int 4))]) (.nm 2) trn0) (retM (conM (.bl true)))) := by
  rw [e_p_law]
  rfl
def pt (a b c d : Int) (r : List D) : SV := .ow (.l (ptC a b c d r))
theorem kw1 {F : Fn} {x : D} {r : SV} (h : F [.sh x] = .ok r [.un]) : lenF 1 (pmF [0] F) [.sh x] = .ok r [.un] := by
  show (match F [.sh x] with
    | .ok r _ => Res.ok r [SV.un]
    | .exc c d _ => .exc c d [.un]
    | .stuck => .stuck) = _
  rw [h]
theorem kw2 {F : Fn} {x y : D} {r : SV} (h : F [.sh y, .sh x] = .ok r [.un, .un]) : lenF 2 (pmF [1, 0] F) [.sh x, .sh y] = .ok r [.un, .un] := by
  show (match F [.sh y, .sh x] with
    | .ok r _ => Res.ok r [SV.un, .un]
    | .exc c d _ => .exc c d [.un, .un]
    | .stuck => .stuck) = _
  rw [h]
theorem seq_bk {f g : MS} {S S' : List SV} (h : f S = .ok .bk S') : seqM f g S = .ok .bk S' := by
  unfold seqM
  rw [h]
  rfl
theorem forL_bk {i : Nat} {b : MS} {d : D} {ds : List D} {S S1 : List SV} (h : b (S.set i (.sh d)) = .ok .bk S1) : forL (.nm i) b (d :: ds) S = .ok .nx S1 := by
  have e0 : forL (.nm i) b (d :: ds) S = match Tg.put (.nm i) d S with
    | none => .stuck
    | some S1 => (b S1).bind fun fl S2 => match fl with
      | .nx => forL (.nm i) b ds S2
      | .ct => forL (.nm i) b ds S2
      | .bk => .ok .nx S2
      | .rt r => .ok (.rt r) S2 := rfl
  rw [e0, put_nm]
  show (b (S.set i (.sh d))).bind _ = _
  rw [h]
  rfl
section
variable {s0 s1 s2 s3 s4 s5 s6 s7 s8 s9 s10 s11 s12 s13 s14 s15 s16 s17 : SV} {a b c d : Int} {r : List D} {n : Nat}
theorem t0_ok (h : PotC n a b c d r) (hn : n ≤ 900000) : ∃ a' b' c' d' l, PotC (n + 10) a' b' c' d' r ∧ (∀ i ∈ l, i < 3) ∧ l.length ≤ 9 ∧ t0 (sL s0 (pt a b c d r) s2 s3 s4 s5 s6 s7 s8 s9 s10 s11 s12 s13 s14 s15 s16 s17) = .ok .nx (sL s0 (pt a' b' c' d' r) s2 (.sh (.tup (iDs l))) s4 s5 s6 s7 s8 s9 s10 s11 s12 s13 s14 s15 s16 s17) := by
  obtain ⟨a', b', c', d', l, h1, hl, hll, e⟩ := row_ok h hn
  refine ⟨a', b', c', d', l, h1, hl, hll, ?_⟩
  exact asg_ok (call_bo (S' := (sL s0 (pt a b c d r) s2 s3 s4 s5 s6 s7 s8 s9 s10 s11 s12 s13 s14 s15 s16 s17)) (i := 1) (k := 0) (s := pt a b c d r) (runAs_pk (d := .lst (ptC a b c d r)) rfl (runAs_ex con_ok (runAs_ex con_ok runAs_nil))) rfl e rfl rfl)
theorem t1_ok : t1 (sL s0 s1 s2 s3 s4 s5 s6 s7 s8 s9 s10 s11 s12 s13 s14 s15 s16 s17) = .ok .nx (sL s0 s1 s2 s3 (.sh (tr ones)) s5 s6 s7 s8 s9 s10 s11 s12 s13 s14 s15 s16 s17) := by kernel_rfl
theorem t2_loop : ∀ (l l0 : List Nat) (s5 : SV), (∀ i ∈ l, i < 3) → l0.length + l.length ≤ 10 → ∃ y, forL (.nm 5) (asgM 4 (callM F_law_step [.ex (varF 4), .ex (varF 5)])) (iDs l) (sL s0 s1 s2 s3 (.sh (tr (walk l0 ones))) s5 s6 s7 s8 s9 s10 s11 s12 s13 s14 s15 s16 s17) = .ok .nx (sL s0 s1 s2 s3 (.sh (tr (walk (l0 ++ l) ones))) y s6 s7 s8 s9 s10 s11 s12 s13 s14 s15 s16 s17)
  | [], l0, s5, _, _ => ⟨s5, by rw [List.append_nil]; rfl⟩
  | i :: l, l0, s5, hl, hn => by
    rw [List.length_cons] at hn
    obtain ⟨y, e⟩ := t2_loop l (l0 ++ [i]) (.sh (.int i)) (fun j hj => hl j (List.mem_cons_of_mem _ hj)) (by rw [List.length_append]; show l0.length + 1 + l.length ≤ 10; omega)
    rw [List.append_assoc, walk_snoc] at e
    refine ⟨y, Eq.trans ?_ e⟩
    refine forL_cons (asg_ok (S' := (sL s0 s1 s2 s3 (.sh (tr (walk l0 ones))) (.sh (.int i)) s6 s7 s8 s9 s10 s11 s12 s13 s14 s15 s16 s17)) ?_)
    exact call2 (v := .sh (tr (walk l0 ones))) (w := .sh (.int i)) rfl rfl rfl rfl (step_ok (bd_w (by omega)) (by decide) (hl i List.mem_cons_self))
theorem t2_ok {l : List Nat} (hl : ∀ i ∈ l, i < 3) (hn : l.length ≤ 9) : ∃ y, t2 (sL s0 s1 s2 (.sh (.tup (iDs l))) (.sh (tr ones)) s5 s6 s7 s8 s9 s10 s11 s12 s13 s14 s15 s16 s17) = .ok .nx (sL s0 s1 s2 (.sh (.tup (iDs l))) (.sh (tr (walk l ones))) y s6 s7 s8 s9 s10 s11 s12 s13 s14 s15 s16 s17) := by
  obtain ⟨y, e⟩ := t2_loop (s0 := s0) (s1 := s1) (s2 := s2) (s3 := .sh (.tup (iDs l))) (s6 := s6) (s7 := s7) (s8 := s8) (s9 := s9) (s10 := s10) (s11 := s11) (s12 := s12) (s13 := s13) (s14 := s14) (s15 := s15) (s16 := s16) (s17 := s17) l [] s5 hl (by show 0 + l.length ≤ 10; omega)
  exact ⟨y, (for_ok (wSeq_ok (f := varF 3) (v := .sh (.tup (iDs l))) rfl rfl)).trans e⟩
theorem t3_ok {l : List Nat} (hl : ∀ i ∈ l, i < 3) (hn : l.length ≤ 9) (hm : mk (walk l ones)) (S : List SV) (hS : S = (sL s0 s1 s2 (.sh (.tup (iDs l))) (.sh (tr (walk l ones))) s5 s6 s7 s8 s9 s10 s11 s12 s13 s14 s15 s16 s17)) : t3 S = .ok .nx S := by
  have v3 : varF 3 S = .ok (.sh (.tup (iDs l))) S := by subst hS; rfl
  have v4 : varF 4 S = .ok (.sh (tr (walk l ones))) S := by subst hS; rfl
  have f1 : lstM [.ex (callM F_p_triple_at [.ex (varF 3)]), .ex (callM (lenF 1 (pmF [0] F_p_triple_at)) [.ex (varF 3)])] S = .ok (.ow (.l [tr (walk l ones), tr (walk l ones)])) S :=
    lst_ok (runAs_ex (call1 v3 rfl (at_ok hl (by omega))) (runAs_ex (call1 v3 rfl (kw1 (at_ok hl (by omega)))) runAs_nil)) rfl (show 2 ≤ 1000 by decide)
  have f2 : lstM [.ex (varF 4), .ex (varF 4)] S = .ok (.ow (.l [tr (walk l ones), tr (walk l ones)])) S := lst_ok (runAs_ex v4 (runAs_ex v4 runAs_nil)) rfl (show 2 ≤ 1000 by decide)
  refine (ite_f (S' := S) ?_).trans rfl
  refine (orT_f (S' := S) (notT_ok (b := true) (asT_ok (call2 f1 f2 rfl rfl (same_ok rfl))))).trans ?_
  refine notT_ok (b := true) (asT_ok (call1 (r := .sh (.bl true)) (A' := [.un]) (F := F_law_is_right) v4 rfl ?_))
  rw [right_ok (bd_w (by omega)) (by decide), isT_mk hm]
theorem t4_ok (h : PotC n a b c d r) (hn : n ≤ 900000) : ∃ a' b' c' d', ∃ k : Nat, PotC (n + 1) a' b' c' d' r ∧ k < 3 ∧ t4 (sL s0 (pt a b c d r) s2 s3 s4 s5 s6 s7 s8 s9 s10 s11 s12 s13 s14 s15 s16 s17) = .ok .nx (sL s0 (pt a' b' c' d' r) s2 s3 s4 (.sh (.int k)) s6 s7 s8 s9 s10 s11 s12 s13 s14 s15 s16 s17) := by
  obtain ⟨a', b', c', d', k, e, h1, hk⟩ := takeC_call take_is (S := (sL s0 (pt a b c d r) s2 s3 s4 s5 s6 s7 s8 s9 s10 s11 s12 s13 s14 s15 s16 s17)) (i := 1) (m := 3) (f := conM (.int 3)) rfl rfl rfl h (by omega) (by decide) (by decide)
  exact ⟨a', b', c', d', k, h1, by omega, asg_ok e⟩
theorem t5_ok {t : T3} {m i : Nat} (h : bd m t) (hm : m ≤ 20000) (ht : isT t = true) (hi : i < 3) : t5 (sL s0 s1 s2 s3 (.sh (tr t)) (.sh (.int i)) s6 s7 s8 s9 s10 s11 s12 s13 s14 s15 s16 s17) = .ok .nx (sL s0 s1 s2 s3 (.sh (tr t)) (.sh (.int i)) (.sh (tr (nx i t))) s7 s8 s9 s10 s11 s12 s13 s14 s15 s16 s17) :=
  asg_ok (S' := (sL s0 s1 s2 s3 (.sh (tr t)) (.sh (.int i)) s6 s7 s8 s9 s10 s11 s12 s13 s14 s15 s16 s17)) (call2 (v := .sh (tr t)) (w := .sh (.int i)) rfl rfl rfl rfl (tex_ok h hm ht hi))
theorem t6_ok {t : T3} {m i : Nat} (h : bd m t) (hm : m ≤ 4000) (ht : mk t) (hi : i < 3) (S : List SV) (hS : S = (sL s0 s1 s2 s3 (.sh (tr t)) (.sh (.int i)) (.sh (tr (nx i t))) s7 s8 s9 s10 s11 s12 s13 s14 s15 s16 s17)) : t6 S = .ok .nx S := by
  have v4 : varF 4 S = .ok (.sh (tr t)) S := by subst hS; rfl
  have v5 : varF 5 S = .ok (.sh (.int i)) S := by subst hS; rfl
  have v6 : varF 6 S = .ok (.sh (tr (nx i t))) S := by subst hS; rfl
  have f1 : callM (lenF 2 (pmF [1, 0] F_p_triple_exchanged)) [.ex (varF 5), .ex (varF 6)] S = .ok (.sh (tr t)) S := by
    refine call2 (r := .sh (tr t)) v5 v6 rfl rfl (kw2 ?_)
    rw [tex_ok (bd_nx h i) (by omega) (isT_mk (mk_nx ht i)) hi, nx_nx]
  have f2 : callM F_law_step [.ex (varF 4), .ex (varF 5)] S = .ok (.sh (tr (nx i t))) S := call2 v4 v5 rfl rfl (step_ok h (by omega) hi)
  have f3 : lstM [.ex (varF 6), .ex (callM (lenF 2 (pmF [1, 0] F_p_triple_exchanged)) [.ex (varF 5), .ex (varF 6)])] S = .ok (.ow (.l [tr (nx i t), tr t])) S := lst_ok (runAs_ex v6 (runAs_ex f1 runAs_nil)) rfl (show 2 ≤ 1000 by decide)
  have f4 : lstM [.ex (callM F_law_step [.ex (varF 4), .ex (varF 5)]), .ex (varF 4)] S = .ok (.ow (.l [tr (nx i t), tr t])) S := lst_ok (runAs_ex f2 (runAs_ex v4 runAs_nil)) rfl (show 2 ≤ 1000 by decide)
  exact (ite_f (S' := S) (notT_ok (b := true) (asT_ok (call2 f3 f4 rfl rfl (same_ok rfl))))).trans rfl
theorem t7_ok {t : T3} : t7 (sL s0 s1 s2 s3 (.sh (tr t)) s5 s6 s7 s8 s9 s10 s11 s12 s13 s14 s15 s16 s17) = .ok .nx (sL s0 s1 s2 s3 (.sh (tr t)) s5 s6 (.ow (.l [])) (.sh (tr t)) s9 s10 s11 s12 s13 s14 s15 s16 s17) := by kernel_rfl
end
def bd8 : MS := (seqM (iteM (asT (opM (eqD false) [.pk 8, .ex (tupM [.ex (conM (.int 1)), .ex (conM (.int 1)), .ex (conM (.int 1))])])) brkM skipM) (seqM (exprM (appM 7 (lmM idxD 8 (.ex (opM maxD [.pk 8]))))) (seqM (iteM (asT (opM (eqD true) [.ex (lmM cntD 8 (.ex (opM maxD [.pk 8]))), .ex (conM (.int 1))])) (retM (conM (.bl false))) skipM) (asgM 8 (callM F_law_step [.ex (varF 8), .ex (opM ixD [.pk 7, .ex (opM negD [.ex (conM (.int 1))])])])))))
theorem t8_is : t8 = forM' (wRng [.ex (conM (.int 40))]) (.nm 9) bd8 := rfl
section
variable {s0 s1 s2 s3 s4 s5 s6 s7 s8 s9 s10 s11 s12 s13 s14 s15 s16 s17 : SV} {a b c d : Int} {r : List D} {n : Nat}
theorem t8_loop : ∀ (ds : List D) (l : List Nat) (t : T3) (acc : List D) (s9 : SV), l.length < ds.length → l.length ≤ 10 → acc.length + l.length ≤ 100 → Dn l t → ∃ y, forL (.nm 9) bd8 ds (sL s0 s1 s2 s3 s4 s5 s6 (.ow (.l acc)) (.sh (tr t)) s9 s10 s11 s12 s13 s14 s15 s16 s17) = .ok .nx (sL s0 s1 s2 s3 s4 s5 s6 (.ow (.l (acc ++ iDs l))) (.sh (tr ones)) y s10 s11 s12 s13 s14 s15 s16 s17)
  | x :: ds, [], t, acc, s9, _, _, _, h => by
    rw [show t = ones from h]
    refine ⟨.sh x, (forL_bk (S1 := (sL s0 s1 s2 s3 s4 s5 s6 (.ow (.l acc)) (.sh (tr ones)) (.sh x) s10 s11 s12 s13 s14 s15 s16 s17)) ?_).trans ?_⟩
    · refine seq_bk ((ite_t (S' := (sL s0 s1 s2 s3 s4 s5 s6 (.ow (.l acc)) (.sh (tr ones)) (.sh x) s10 s11 s12 s13 s14 s15 s16 s17)) (asT_ok (op2l (i := tr ones) (i' := tr ones) (j := tr ones) rfl rfl rfl (eq_ones false)))).trans rfl)
    · show _ = Res.ok Fl.nx (sL s0 s1 s2 s3 s4 s5 s6 (.ow (.l (acc ++ []))) (.sh (tr ones)) (.sh x) s10 s11 s12 s13 s14 s15 s16 s17)
      rw [List.append_nil]
  | x :: ds, i :: l, t, acc, s9, hn, hl, ha, h => by
    have hw := bd_w (l := (i :: l).reverse) (by rw [List.length_reverse]; exact hl)
    rw [dn_walk h] at hw
    obtain ⟨hi, hm, h2⟩ := h
    rw [List.length_cons, List.length_cons] at hn
    rw [List.length_cons] at hl ha
    obtain ⟨y, ih⟩ := t8_loop ds l (nx i t) (acc ++ [.int i]) (.sh x) (by omega) (by omega) (by rw [List.length_append]; show acc.length + 1 + l.length ≤ 100; omega) h2
    rw [List.append_assoc] at ih
    refine ⟨y, Eq.trans (forL_cons ?_) ih⟩
    let S1 := (sL s0 s1 s2 s3 s4 s5 s6 (.ow (.l acc)) (.sh (tr t)) (.sh x) s10 s11 s12 s13 s14 s15 s16 s17)
    let S2 := (sL s0 s1 s2 s3 s4 s5 s6 (.ow (.l (acc ++ [.int i]))) (.sh (tr t)) (.sh x) s10 s11 s12 s13 s14 s15 s16 s17)
    show bd8 S1 = _
    refine (seq_nx (S' := S1) ((ite_f (S' := S1) (asT_ok (op2l (i := tr t) (i' := tr t) (j := tr ones) rfl rfl rfl (ne_ones (mx_ne hm))))).trans rfl)).trans ?_
    refine (seq_nx (S' := S2) (expr_ok (app_ok (S1 := S1) (s := .ow (.l acc)) rfl (lix_ok rfl hi hm) rfl rfl rfl (by omega)))).trans ?_
    refine (seq_nx (S' := S2) ((ite_f (S' := S2) (asT_ok (op2 (lcn_ok rfl hi hm) con_ok (by kernel_rfl)))).trans rfl)).trans ?_
    refine asg_ok (S' := S2) (call2 (v := .sh (tr t)) (w := .sh (.int i)) rfl ?_ rfl rfl (step_ok hw (by decide) hi))
    exact op2l (i := .lst (acc ++ [.int i])) (i' := .lst (acc ++ [.int i])) (j := .int (-1)) rfl rfl rfl (last_ix _ _)
  | [], l, _, _, _, hn, _, _, _ => absurd hn (Nat.not_lt_zero _)
theorem t8_ok {l : List Nat} {t : T3} (h : Dn l t) (hl : l.length ≤ 9) : ∃ y, t8 (sL s0 s1 s2 s3 s4 s5 s6 (.ow (.l [])) (.sh (tr t)) s9 s10 s11 s12 s13 s14 s15 s16 s17) = .ok .nx (sL s0 s1 s2 s3 s4 s5 s6 (.ow (.l (iDs l))) (.sh (tr ones)) y s10 s11 s12 s13 s14 s15 s16 s17) := by
  obtain ⟨y, e⟩ := t8_loop (s0 := s0) (s1 := s1) (s2 := s2) (s3 := s3) (s4 := s4) (s5 := s5) (s6 := s6) (s10 := s10) (s11 := s11) (s12 := s12) (s13 := s13) (s14 := s14) (s15 := s15) (s16 := s16) (s17 := s17) (rngItems 0 40) l t [] s9 (by rw [rng_len]; omega) (by omega) (by show 0 + l.length ≤ 100; omega) h
  refine ⟨y, ?_⟩
  rw [t8_is]
  exact (for_ok (wRng1 (j := 40) con_ok (by decide))).trans e
theorem t9_ok {l : List Nat} {t : T3} (h : Dn l t) (hm : mk t) (hl : l.length ≤ 9) : t9 (sL s0 s1 s2 s3 (.sh (tr t)) s5 s6 s7 s8 s9 s10 s11 s12 s13 s14 s15 s16 s17) = .ok .nx (sL s0 s1 s2 s3 (.sh (tr t)) s5 s6 s7 s8 s9 (.sh (.tup (iDs l))) s11 s12 s13 s14 s15 s16 s17) :=
  asg_ok (S' := (sL s0 s1 s2 s3 (.sh (tr t)) s5 s6 s7 s8 s9 s10 s11 s12 s13 s14 s15 s16 s17)) (call1 (v := .sh (tr t)) rfl rfl (down_ok h hm (by omega)))
theorem dn_lt : ∀ {l : List Nat} {t : T3}, Dn l t → ∀ i ∈ l, i < 3
  | [], _, _, i, hi => absurd hi List.not_mem_nil
  | j :: l, t, h, i, hi => by
    obtain ⟨h1, _, h2⟩ := h
    rcases List.mem_cons.mp hi with rfl | hi
    · exact h1
    · exact dn_lt h2 i hi
theorem flat_ids (l : List Nat) (hl : l.length ≤ 1000) (n : Nat) : flat (n + 1) (.tup (iDs l)) = true := by
  show (decide ((iDs l).length ≤ 1000) && (iDs l).all (flat n)) = true
  have e : (iDs l).length = l.length := by unfold iDs; rw [List.length_map]
  rw [e, decide_eq_true hl, Bool.true_and, List.all_eq_true]
  intro d hd
  obtain ⟨i, _, rfl⟩ := List.mem_map.mp hd
  cases n <;> rfl
theorem t10_ok {l : List Nat} {t : T3} (h : Dn l t) (hm : mk t) (hl : l.length ≤ 9) (S : List SV) (hS : S = (sL s0 s1 s2 s3 (.sh (tr t)) s5 s6 (.ow (.l (iDs l))) (.sh (tr ones)) s9 (.sh (.tup (iDs l))) s11 s12 s13 s14 s15 s16 s17)) : t10 S = .ok .nx S := by
  have v4 : varF 4 S = .ok (.sh (tr t)) S := by subst hS; rfl
  have v10 : varF 10 S = .ok (.sh (.tup (iDs l))) S := by subst hS; rfl
  have f1 : callM (lenF 1 (pmF [0] F_p_row_down)) [.ex (varF 4)] S = .ok (.sh (.tup (iDs l))) S := call1 v4 rfl (kw1 (down_ok h hm (by omega)))
  have fr : opM revD [.pk 10] S = .ok (.sh (.tup (iDs l.reverse))) S := by
    refine op1s (i := .tup (iDs l)) (by subst hS; rfl) ?_
    unfold iDs
    rw [List.map_reverse]
    rfl
  have f2 : callM F_p_triple_at [.ex (opM revD [.pk 10])] S = .ok (.sh (tr t)) S := by
    refine call1 (r := .sh (tr t)) (A' := [.un]) (F := F_p_triple_at) fr rfl ?_
    rw [at_ok (l := l.reverse) (fun i hi => dn_lt h i (List.mem_reverse.mp hi)) (by rw [List.length_reverse]; omega), dn_walk h]
  have f7 : opM tupD [.pk 7] S = .ok (.sh (.tup (iDs l))) S := op1s (i := .lst (iDs l)) (by subst hS; rfl) rfl
  have f3 : lstM [.ex (varF 10), .ex (callM (lenF 1 (pmF [0] F_p_row_down)) [.ex (varF 4)]), .ex (callM F_p_triple_at [.ex (opM revD [.pk 10])])] S = .ok (.ow (.l [.tup (iDs l), .tup (iDs l), tr t])) S := lst_ok (runAs_ex v10 (runAs_ex f1 (runAs_ex f2 runAs_nil))) rfl (show 3 ≤ 1000 by decide)
  have f4 : lstM [.ex (opM tupD [.pk 7]), .ex (opM tupD [.pk 7]), .ex (varF 4)] S = .ok (.ow (.l [.tup (iDs l), .tup (iDs l), tr t])) S := lst_ok (runAs_ex f7 (runAs_ex f7 (runAs_ex v4 runAs_nil))) rfl (show 3 ≤ 1000 by decide)
  have ff : flat 7 (.lst [.tup (iDs l), .tup (iDs l), tr t]) = true := by
    show (true && (flat 6 (.tup (iDs l)) && (flat 6 (.tup (iDs l)) && (flat 6 (tr t) && true)))) = true
    rw [flat_ids l (by omega)]
    rfl
  refine (ite_f (S' := S) ?_).trans rfl
  refine (orT_f (S' := S) (asT_ok (op2l (i := tr ones) (i' := tr ones) (j := tr ones) (by subst hS; rfl) rfl (by subst hS; rfl) (eq_ones true)))).trans ?_
  exact notT_ok (b := true) (asT_ok (call2 f3 f4 rfl rfl (same_ok ff)))
def cmp (p : Nat) (t : T3) : Int := match p with
  | 0 => t.1
  | 1 => t.2.1
  | _ => t.2.2
theorem cmp_ix (t : T3) : ∀ {p : Nat}, p < 3 → ixD [tr t, .int (p : Int)] = some (.sh (.int (cmp p t)))
  | 0, _ => rfl
  | 1, _ => rfl
  | 2, _ => rfl
  | p + 3, h => by omega
theorem cmp_bd {m : Nat} {t : T3} (h : bd m t) : ∀ {p : Nat}, p < 3 → (cmp p t).natAbs < 2 ^ m
  | 0, _ => h.1
  | 1, _ => h.2.1
  | 2, _ => h.2.2
  | p + 3, h => by omega
theorem t11_ok {t : T3} {i : Nat} (hb : bd 4000 t) (hi : i < 3) (h : PotC n a b c d r) (hn : n ≤ 900000) : ∃ a' b' c' d' q, PotC (n + 3) a' b' c' d' r ∧ bd 4001 q ∧ t11 (sL s0 (pt a b c d r) s2 s3 (.sh (tr t)) (.sh (.int i)) s6 s7 s8 s9 s10 s11 s12 s13 s14 s15 s16 s17) = .ok .nx (sL s0 (pt a' b' c' d' r) s2 s3 (.sh (tr t)) (.sh (.int i)) s6 s7 s8 s9 s10 (.sh (tr q)) s12 s13 s14 s15 s16 s17) := by
  obtain ⟨es, S', e2, e3, e4, e5⟩ := lcM_cnt (i := 12) (k := 0) (N := 3) (src := wRng [.ex (conM (.int 3))]) (S := (sL s0 (pt a b c d r) s2 s3 (.sh (tr t)) (.sh (.int i)) s6 s7 s8 s9 s10 s11 s12 s13 s14 s15 s16 s17)) (f := opM addD [.ex (opM ixD [.pk 4, .pk 12]), .ex (opM mulD [.ex (opM subD [.ex (callM F_law_take [.pk 1, .ex (conM (.int 3))]), .ex (conM (.int 1))]), .ex (opM intD [.ex (opM (eqD false) [.pk 12, .pk 5])])])])
    (I := fun j S => ∃ a b c d, PotC (n + j) a b c d r ∧ S = (sL s0 (pt a b c d r) s2 s3 (.sh (tr t)) (.sh (.int i)) s6 s7 s8 s9 s10 s11 .un s13 s14 s15 s16 s17)) (R := fun e => ∃ v : Int, e = .int v ∧ v.natAbs < 2 ^ 4001)
    (wk := ⟨rngItems 0 3, []⟩) (wRng1 (j := 3) con_ok (by decide)) (by rw [rng_len]; decide) (by rw [rng_len]; decide)
    (fun x hx j S hj ⟨a, b, c, d, hp, hS⟩ => by
      subst hS
      have hx : x ∈ rngItems 0 3 := hx
      unfold rngItems at hx
      obtain ⟨p, hp3, rfl⟩ := List.mem_map.mp hx
      have hp3 := List.mem_range.mp hp3
      rw [Int.zero_add]
      let S0 := (sL s0 (pt a b c d r) s2 s3 (.sh (tr t)) (.sh (.int i)) s6 s7 s8 s9 s10 s11 (.sh (.int p)) s13 s14 s15 s16 s17)
      obtain ⟨a', b', c', d', k, e, h', hk⟩ := takeC_call take_is (S := S0) (i := 1) (m := 3) (f := conM (.int 3)) rfl rfl rfl hp (by omega) (by decide) (by decide)
      let S1 := (sL s0 (pt a' b' c' d' r) s2 s3 (.sh (tr t)) (.sh (.int i)) s6 s7 s8 s9 s10 s11 (.sh (.int p)) s13 s14 s15 s16 s17)
      have g1 : opM ixD [.pk 4, .pk 12] S0 = .ok (.sh (.int (cmp p t))) S0 := op2b (i := tr t) (j := .int p) rfl rfl (cmp_ix t hp3)
      have g2 : opM intD [.ex (opM (eqD false) [.pk 12, .pk 5])] S1 = .ok (.sh (.int (if decide ((p : Int) = i) = true then 1 else 0))) S1 := op1 (op2b (i := .int p) (j := .int i) rfl rfl (eqD_int _ _)) rfl
      have g3 : opM mulD [.ex (opM subD [.ex (callM F_law_take [.pk 1, .ex (conM (.int 3))]), .ex (conM (.int 1))]), .ex (opM intD [.ex (opM (eqD false) [.pk 12, .pk 5])])] S0 = .ok (.sh (.int (((k : Int) - 1) * (if decide ((p : Int) = i) = true then 1 else 0)))) S1 :=
        op2 (S' := S1) (op2 (S' := S1) e con_ok rfl) g2 (mulD_sm (by split <;> decide))
      have hc := cmp_bd hb hp3
      refine ⟨.sh (.int (cmp p t + ((k : Int) - 1) * (if decide ((p : Int) = i) = true then 1 else 0))), S1, _, op2 g1 g3 rfl, rfl, ⟨_, rfl, ?_⟩, a', b', c', d', h', rfl⟩
      have e1 : (((k : Int) - 1) * (if decide ((p : Int) = i) = true then 1 else 0)).natAbs ≤ 1 := by
        split
        · rw [Int.mul_one]; omega
        · rw [Int.mul_zero]; decide
      have e2 := Int.natAbs_add_le (cmp p t) (((k : Int) - 1) * (if decide ((p : Int) = i) = true then 1 else 0))
      have e3 : 2 ^ 4001 = 2 * 2 ^ 4000 := Nat.pow_succ'
      generalize (2 : Nat) ^ 4000 = P at hc e3
      rw [e3]
      omega) ⟨a, b, c, d, h, rfl⟩
  rw [rng_len] at e3 e5
  obtain ⟨a2, b2, c2, d2, h2, rfl⟩ := e5
  match es, e3, e4, e2 with
  | [x, y, z], _, e4, e2 =>
    obtain ⟨v0, rfl, w0⟩ := e4 x (by simp)
    obtain ⟨v1, rfl, w1⟩ := e4 y (by simp)
    obtain ⟨v2, rfl, w2⟩ := e4 z (by simp)
    exact ⟨a2, b2, c2, d2, (v0, v1, v2), h2, ⟨w0, w1, w2⟩, asg_ok (S' := (sL s0 (pt a2 b2 c2 d2 r) s2 s3 (.sh (tr t)) (.sh (.int i)) s6 s7 s8 s9 s10 s11 s12 s13 s14 s15 s16 s17)) (op1v e2 rfl rfl)⟩
theorem t12_ok {t q : T3} : t12 (sL s0 s1 s2 s3 (.sh (tr t)) s5 s6 s7 s8 s9 s10 (.sh (tr q)) s12 s13 s14 s15 s16 s17) = .ok .nx (sL s0 s1 s2 s3 (.sh (tr t)) s5 s6 s7 s8 s9 s10 (.sh (tr q)) s12 (.ow (.l (tr q :: vals1 t))) s14 s15 s16 s17) := by kernel_rfl
theorem pick_ok {vs : List D} {m : Nat} (hv : vs.length = m) {k : Nat} (hk : (k : Int) < m) : ∃ v, v ∈ vs ∧ ixD [.lst vs, .int (k : Int)] = some (.sh v) := by
  have hl : k < vs.length := by omega
  refine ⟨vs[k], List.getElem_mem hl, ?_⟩
  rw [ixD_nat, List.getElem?_eq_getElem hl]
  rfl
theorem t13_ok {t q : T3} (h : PotC n a b c d r) (hn : n ≤ 900000) : ∃ a' b' c' d' v, PotC (n + 1) a' b' c' d' r ∧ v ∈ tr q :: vals1 t ∧ t13 (sL s0 (pt a b c d r) s2 s3 s4 s5 s6 s7 s8 s9 s10 s11 s12 (.ow (.l (tr q :: vals1 t))) s14 s15 s16 s17) = .ok .nx (sL s0 (pt a' b' c' d' r) s2 s3 s4 s5 s6 s7 s8 s9 s10 s11 s12 (.ow (.l (tr q :: vals1 t))) (.sh v) s15 s16 s17) := by
  obtain ⟨a', b', c', d', k, e, h1, hk⟩ := takeC_call take_is (S := (sL s0 (pt a b c d r) s2 s3 s4 s5 s6 s7 s8 s9 s10 s11 s12 (.ow (.l (tr q :: vals1 t))) s14 s15 s16 s17)) (i := 1) (m := 13) (f := conM (.int 13)) rfl rfl rfl h (by omega) (by decide) (by decide)
  obtain ⟨v, hv, hx⟩ := pick_ok (vs := tr q :: vals1 t) (m := 13) rfl hk
  exact ⟨a', b', c', d', v, h1, hv, asg_ok (op2l (i := .lst (tr q :: vals1 t)) (i' := .lst (tr q :: vals1 t)) rfl e rfl hx)⟩
end
theorem flat_two {n : Nat} {x y : D} (hx : flat n x = true) (hy : flat n y = true) : flat (n + 1) (.lst [x, y]) = true := by
  show (decide (2 ≤ 1000) && (flat n x && (flat n y && true))) = true
  rw [hx, hy]
  rfl
theorem ifM_t {c : M Bool} {f g : M SV} {S S' : List SV} (h : c S = .ok true S') : ifM c f g S = f S' := by
  unfold ifM
  rw [h]
  rfl
theorem ifM_f {c : M Bool} {f g : M SV} {S S' : List SV} (h : c S = .ok false S') : ifM c f g S = g S' := by
  unfold ifM
  rw [h]
  rfl
section
variable {s0 s1 s2 s3 s4 s5 s6 s7 s8 s9 s10 s11 s12 s13 s14 s15 s16 s17 : SV} {a b c d : Int} {r : List D} {n : Nat}
theorem all_due (t : T3) : ((vals1 t).map fun v => t14 (sL s0 s1 s2 s3 s4 s5 s6 s7 s8 s9 s10 s11 s12 s13 (.sh v) s15 s16 s17)) = (vals1 t).map fun v => .ok .nx (sL s0 s1 s2 s3 s4 s5 s6 s7 s8 s9 s10 s11 s12 s13 (.sh v) (.ow (.l [.str "rows", v])) s16 s17) := by kernel_rfl
theorem tup_q (q : T3) : F_law_is_tuple [.sh (tr q), .sh (.int 3)] = .ok (.sh (.bl true)) [.un, .un] := by kernel_rfl
theorem due_q {q : T3} {i : Nat} (hb : bd 4001 q) (hi : i < 3) : t14 (sL s0 s1 s2 s3 s4 (.sh (.int i)) s6 s7 s8 s9 s10 s11 s12 s13 (.sh (tr q)) s15 s16 s17) = .ok .nx (sL s0 s1 s2 s3 s4 (.sh (.int i)) s6 s7 s8 s9 s10 s11 s12 s13 (.sh (tr q)) (.ow (.l (if isT q = true then [.str "told", tr (nx i q)] else [.str "rows", tr q]))) s16 s17) := by
  let S := (sL s0 s1 s2 s3 s4 (.sh (.int i)) s6 s7 s8 s9 s10 s11 s12 s13 (.sh (tr q)) s15 s16 s17)
  have v14 : varF 14 S = .ok (.sh (tr q)) S := rfl
  have v5 : varF 5 S = .ok (.sh (.int i)) S := rfl
  have c1 : andT (asT (isiM ["tuple"] (.pk 14))) (andT (asT (callM F_law_is_tuple [.ex (varF 14), .ex (conM (.int 3))])) (asT (callM F_law_is_right [.ex (varF 14)]))) S = .ok (isT q) S := by
    refine (andT_t (S' := S) rfl).trans ?_
    refine (andT_t (S' := S) (asT_ok (call2 v14 con_ok rfl rfl (tup_q q)))).trans ?_
    exact asT_ok (call1 v14 rfl (right_ok hb (by decide)))
  refine asg_ok (S' := S) ?_
  by_cases ht : isT q = true
  · rw [ifM_t (by rw [c1, ht]), if_pos ht]
    exact lst_ok (runAs_ex con_ok (runAs_ex (call2 v14 v5 rfl rfl (step_ok hb (by decide) hi)) runAs_nil)) rfl (show 2 ≤ 1000 by decide)
  · rw [ifM_f (by rw [c1]; congr 1; simpa using ht), if_neg ht]
    exact lst_ok (runAs_ex con_ok (runAs_ex v14 runAs_nil)) rfl (show 2 ≤ 1000 by decide)
theorem t15_ok {v : D} {i : Nat} {due : List D} {A : List SV} (h : F_law_asked [.sh v, .sh (.int i), .sh (.int 0)] = .ok (.ow (.l due)) A) (hf : flat 7 (.lst due) = true) : t15 (sL s0 s1 s2 s3 s4 (.sh (.int i)) s6 s7 s8 s9 s10 s11 s12 s13 (.sh v) (.ow (.l due)) s16 s17) = .ok .nx (sL s0 s1 s2 s3 s4 (.sh (.int i)) s6 s7 s8 s9 s10 s11 s12 s13 (.sh v) (.sh (.lst due)) s16 s17) := by
  let S := (sL s0 s1 s2 s3 s4 (.sh (.int i)) s6 s7 s8 s9 s10 s11 s12 s13 (.sh v) (.ow (.l due)) s16 s17)
  let S' := (sL s0 s1 s2 s3 s4 (.sh (.int i)) s6 s7 s8 s9 s10 s11 s12 s13 (.sh v) (.sh (.lst due)) s16 s17)
  have f1 : callM F_law_asked [.ex (varF 14), .ex (varF 5), .ex (conM (.int 0))] S = .ok (.ow (.l due)) S := call3 (u := .sh v) (v := .sh (.int i)) (w := .sh (.int 0)) rfl rfl rfl rfl rfl rfl h
  exact (ite_f (S' := S') (notT_ok (b := true) (asT_ok (call2 (S2 := S') (w := .sh (.lst due)) f1 rfl rfl rfl (same_ok hf))))).trans rfl
theorem t16_told {x : D} (S : List SV) (hS : S[15]?.bind SV.dat? = some (.lst [.str "told", x])) : t16 S = .ok .nx S := by
  refine (ite_f (S' := S) (andT_f (asT_ok (op2 (op2l (i := .lst [.str "told", x]) (i' := .lst [.str "told", x]) hS con_ok hS rfl) con_ok (by kernel_rfl))))).trans rfl
theorem t16_rows {v : D} {i : Nat} {A : List SV} (h : F_law_asked [.sh v, .sh (.int i), .sh (.int 1)] = .ok (.ow (.l [.str "rows", v])) A) (hf : flat 7 (.lst [.str "rows", v]) = true) (S : List SV) (hS : S = (sL s0 s1 s2 s3 s4 (.sh (.int i)) s6 s7 s8 s9 s10 s11 s12 s13 (.sh v) (.sh (.lst [.str "rows", v])) s16 s17)) : t16 S = .ok .nx S := by
  have v14 : varF 14 S = .ok (.sh v) S := by subst hS; rfl
  have v5 : varF 5 S = .ok (.sh (.int i)) S := by subst hS; rfl
  have v15 : varF 15 S = .ok (.sh (.lst [.str "rows", v])) S := by subst hS; rfl
  have d15 : S[15]?.bind SV.dat? = some (.lst [.str "rows", v]) := by subst hS; rfl
  have f1 : callM F_law_asked [.ex (varF 14), .ex (varF 5), .ex (conM (.int 1))] S = .ok (.ow (.l [.str "rows", v])) S := call3 v14 v5 con_ok rfl rfl rfl h
  refine (ite_f (S' := S) ?_).trans rfl
  refine (andT_t (S' := S) (asT_ok (op2 (op2l (i := .lst [.str "rows", v]) (i' := .lst [.str "rows", v]) d15 con_ok d15 rfl) con_ok (by kernel_rfl)))).trans ?_
  exact notT_ok (b := true) (asT_ok (call2 f1 v15 rfl rfl (same_ok hf)))
theorem t17_ok (h : PotC n a b c d r) (hn : n ≤ 900000) : ∃ a' b' c' d' v, PotC (n + 1) a' b' c' d' r ∧ v ∈ odds ∧ t17 (sL s0 (pt a b c d r) s2 s3 s4 s5 s6 s7 s8 s9 s10 s11 s12 s13 s14 s15 s16 s17) = .ok .nx (sL s0 (pt a' b' c' d' r) s2 s3 s4 s5 s6 s7 s8 s9 s10 s11 s12 s13 s14 s15 (.sh v) s17) := by
  obtain ⟨a', b', c', d', k, e, h1, hk⟩ := takeC_call take_is (S := (sL s0 (pt a b c d r) s2 s3 s4 s5 s6 s7 s8 s9 s10 s11 s12 s13 s14 s15 s16 s17)) (i := 1) (m := 6) (f := conM (.int 6)) rfl rfl rfl h (by omega) (by decide) (by decide)
  obtain ⟨v, hv, hx⟩ := pick_ok (vs := odds) (m := 6) rfl hk
  exact ⟨a', b', c', d', v, h1, hv, asg_ok (op2v (r := .ow (.l odds)) (i := .lst odds) (j := .int k) (by kernel_rfl) e rfl rfl hx)⟩
theorem t18_ok (h : PotC n a b c d r) (hn : n ≤ 900000) : ∃ a' b' c' d' v, PotC (n + 1) a' b' c' d' r ∧ v ∈ wrongs ∧ t18 (sL s0 (pt a b c d r) s2 s3 s4 s5 s6 s7 s8 s9 s10 s11 s12 s13 s14 s15 s16 s17) = .ok .nx (sL s0 (pt a' b' c' d' r) s2 s3 s4 s5 s6 s7 s8 s9 s10 s11 s12 s13 s14 s15 s16 (.sh v)) := by
  obtain ⟨a', b', c', d', k, e, h1, hk⟩ := takeC_call take_is (S := (sL s0 (pt a b c d r) s2 s3 s4 s5 s6 s7 s8 s9 s10 s11 s12 s13 s14 s15 s16 s17)) (i := 1) (m := 8) (f := conM (.int 8)) rfl rfl rfl h (by omega) (by decide) (by decide)
  obtain ⟨v, hv, hx⟩ := pick_ok (vs := wrongs) (m := 8) rfl hk
  exact ⟨a', b', c', d', v, h1, hv, asg_ok (op2v (r := .ow (.l wrongs)) (i := .lst wrongs) (j := .int k) (by kernel_rfl) e rfl rfl hx)⟩
theorem t19_ok {t : T3} {x y : D} (hb : bd 4000 t) (hm : mk t) (hx : x ∈ odds) (hy : y ∈ wrongs) (S : List SV) (hS : S = (sL s0 s1 s2 s3 (.sh (tr t)) s5 s6 s7 s8 s9 s10 s11 s12 s13 s14 s15 (.sh x) (.sh y))) : t19 S = .ok .nx S := by
  have v4 : varF 4 S = .ok (.sh (tr t)) S := by subst hS; rfl
  have v16 : varF 16 S = .ok (.sh x) S := by subst hS; rfl
  have v17 : varF 17 S = .ok (.sh y) S := by subst hS; rfl
  have f1 : callM F_law_asked [.ex (varF 4), .ex (varF 16), .ex (conM (.int 0))] S = .ok (.ow (.l [.str "integer", x])) S := call3 v4 v16 con_ok rfl rfl rfl (asked_odd hb (by decide) (isT_mk hm) hx)
  have f2 : callM F_law_asked [.ex (varF 17), .ex (conM (.int 0)), .ex (conM (.int 2))] S = .ok (.ow (.l [.str "row", y])) S := call3 v17 con_ok con_ok rfl rfl rfl (asked_wrong hy)
  have f3 : lstM [.ex (callM F_law_asked [.ex (varF 4), .ex (varF 16), .ex (conM (.int 0))]), .ex (callM F_law_asked [.ex (varF 17), .ex (conM (.int 0)), .ex (conM (.int 2))])] S = .ok (.ow (.l [.lst [.str "integer", x], .lst [.str "row", y]])) S := lst_ok (runAs_ex f1 (runAs_ex f2 runAs_nil)) rfl (show 2 ≤ 1000 by decide)
  have f4 : lstM [.ex (lstM [.ex (conM (.str "integer")), .ex (varF 16)]), .ex (lstM [.ex (conM (.str "row")), .ex (varF 17)])] S = .ok (.ow (.l [.lst [.str "integer", x], .lst [.str "row", y]])) S :=
    lst_ok (runAs_ex (lst_ok (runAs_ex con_ok (runAs_ex v16 runAs_nil)) rfl (show 2 ≤ 1000 by decide)) (runAs_ex (lst_ok (runAs_ex con_ok (runAs_ex v17 runAs_nil)) rfl (show 2 ≤ 1000 by decide)) runAs_nil)) rfl (show 2 ≤ 1000 by decide)
  have ff : flat 7 (.lst [.lst [.str "integer", x], .lst [.str "row", y]]) = true := by
    exact flat_two (flat_two (by kernel_rfl) (List.all_eq_true.mp flat_odds x hx)) (flat_two (by kernel_rfl) (List.all_eq_true.mp flat_wrongs y hy))
  exact (ite_f (S' := S) (notT_ok (b := true) (asT_ok (call2 f3 f4 rfl rfl (same_ok ff))))).trans rfl
/-- what comes of a drawn value -/
theorem val_no {v : D} {i : Nat} (hc : F_p_check_triple [.sh v] = .exc "InvalidRows" v [.un]) (hf : flat 6 v = true) (e : t14 (sL s0 s1 s2 s3 s4 (.sh (.int i)) s6 s7 s8 s9 s10 s11 s12 s13 (.sh v) s15 s16 s17) = .ok .nx (sL s0 s1 s2 s3 s4 (.sh (.int i)) s6 s7 s8 s9 s10 s11 s12 s13 (.sh v) (.ow (.l [.str "rows", v])) s16 s17)) : ∃ due, t14 (sL s0 s1 s2 s3 s4 (.sh (.int i)) s6 s7 s8 s9 s10 s11 s12 s13 (.sh v) s15 s16 s17) = .ok .nx (sL s0 s1 s2 s3 s4 (.sh (.int i)) s6 s7 s8 s9 s10 s11 s12 s13 (.sh v) (.ow (.l due)) s16 s17) ∧
    t15 (sL s0 s1 s2 s3 s4 (.sh (.int i)) s6 s7 s8 s9 s10 s11 s12 s13 (.sh v) (.ow (.l due)) s16 s17) = .ok .nx (sL s0 s1 s2 s3 s4 (.sh (.int i)) s6 s7 s8 s9 s10 s11 s12 s13 (.sh v) (.sh (.lst due)) s16 s17) ∧
    t16 (sL s0 s1 s2 s3 s4 (.sh (.int i)) s6 s7 s8 s9 s10 s11 s12 s13 (.sh v) (.sh (.lst due)) s16 s17) = .ok .nx (sL s0 s1 s2 s3 s4 (.sh (.int i)) s6 s7 s8 s9 s10 s11 s12 s13 (.sh v) (.sh (.lst due)) s16 s17) := by
  have ff : flat 7 (.lst [.str "rows", v]) = true := flat_two (by kernel_rfl) hf
  exact ⟨[.str "rows", v], e, t15_ok (asked_no0 hc) ff, t16_rows (asked_no1 hc) ff _ rfl⟩
theorem val_ok {t q : T3} {v : D} {i : Nat} (hq : bd 4001 q) (hi : i < 3) (hv : v ∈ tr q :: vals1 t) : ∃ due, t14 (sL s0 s1 s2 s3 s4 (.sh (.int i)) s6 s7 s8 s9 s10 s11 s12 s13 (.sh v) s15 s16 s17) = .ok .nx (sL s0 s1 s2 s3 s4 (.sh (.int i)) s6 s7 s8 s9 s10 s11 s12 s13 (.sh v) (.ow (.l due)) s16 s17) ∧
    t15 (sL s0 s1 s2 s3 s4 (.sh (.int i)) s6 s7 s8 s9 s10 s11 s12 s13 (.sh v) (.ow (.l due)) s16 s17) = .ok .nx (sL s0 s1 s2 s3 s4 (.sh (.int i)) s6 s7 s8 s9 s10 s11 s12 s13 (.sh v) (.sh (.lst due)) s16 s17) ∧
    t16 (sL s0 s1 s2 s3 s4 (.sh (.int i)) s6 s7 s8 s9 s10 s11 s12 s13 (.sh v) (.sh (.lst due)) s16 s17) = .ok .nx (sL s0 s1 s2 s3 s4 (.sh (.int i)) s6 s7 s8 s9 s10 s11 s12 s13 (.sh v) (.sh (.lst due)) s16 s17) := by
  rcases List.mem_cons.mp hv with rfl | hv
  · have e := due_q (s0 := s0) (s1 := s1) (s2 := s2) (s3 := s3) (s4 := s4) (s6 := s6) (s7 := s7) (s8 := s8) (s9 := s9) (s10 := s10) (s11 := s11) (s12 := s12) (s13 := s13) (s15 := s15) (s16 := s16) (s17 := s17) hq hi
    by_cases ht : isT q = true
    · rw [if_pos ht] at e
      exact ⟨[.str "told", tr (nx i q)], e, t15_ok (asked_ex hq (by decide) ht hi) (flat_two (by kernel_rfl) rfl), t16_told _ rfl⟩
    · rw [if_neg ht] at e
      exact val_no (check_no hq (by decide) (by simpa using ht)) rfl e
  · exact val_no (List.map_inj_left.mp (all_vals t) v hv) (List.all_eq_true.mp (flat_vals t) v hv) (List.map_inj_left.mp (all_due (s0 := s0) (s1 := s1) (s2 := s2) (s3 := s3) (s4 := s4) (s6 := s6) (s7 := s7) (s8 := s8) (s9 := s9) (s10 := s10) (s11 := s11) (s12 := s12) (s13 := s13) (s15 := s15) (s16 := s16) (s17 := s17) (s5 := .sh (.int i)) t) v hv)
theorem turn_ok (h : PotC n a b c d r) (hn : n ≤ 800000) : ∃ a' b' c' d' y3 y4 y5 y6 y7 y8 y9 y10 y11 y12 y13 y14 y15 y16 y17, PotC (n + 20) a' b' c' d' r ∧ trn0 (sL s0 (pt a b c d r) s2 s3 s4 s5 s6 s7 s8 s9 s10 s11 s12 s13 s14 s15 s16 s17) = .ok .nx (sL s0 (pt a' b' c' d' r) s2 y3 y4 y5 y6 y7 y8 y9 y10 y11 y12 y13 y14 y15 y16 y17) := by
  obtain ⟨a1, b1, c1, d1, l, h1, hl, hll, e0⟩ := t0_ok (s0 := s0) (s2 := s2) (s3 := s3) (s4 := s4) (s5 := s5) (s6 := s6) (s7 := s7) (s8 := s8) (s9 := s9) (s10 := s10) (s11 := s11) (s12 := s12) (s13 := s13) (s14 := s14) (s15 := s15) (s16 := s16) (s17 := s17) h (by omega)
  obtain ⟨m, hD, hml, hm⟩ := reach l ones [] hl mk_ones rfl
  have hml : m.length ≤ 9 := by have : m.length ≤ 0 + l.length := hml; omega
  have hb := bd_w (l := l) (by omega)
  obtain ⟨y5, e2⟩ := t2_ok (s0 := s0) (s2 := s2) (s5 := s5) (s6 := s6) (s7 := s7) (s8 := s8) (s9 := s9) (s10 := s10) (s11 := s11) (s12 := s12) (s13 := s13) (s14 := s14) (s15 := s15) (s16 := s16) (s17 := s17) (s1 := pt a1 b1 c1 d1 r) hl hll
  obtain ⟨a2, b2, c2, d2, i, h2, hi, e4⟩ := t4_ok (s0 := s0) (s2 := s2) (s6 := s6) (s7 := s7) (s8 := s8) (s9 := s9) (s10 := s10) (s11 := s11) (s12 := s12) (s13 := s13) (s14 := s14) (s15 := s15) (s16 := s16) (s17 := s17) (s3 := .sh (.tup (iDs l))) (s4 := .sh (tr (walk l ones))) (s5 := y5) h1 (by omega)
  obtain ⟨y9, e8⟩ := t8_ok (s0 := s0) (s1 := pt a2 b2 c2 d2 r) (s2 := s2) (s3 := .sh (.tup (iDs l))) (s4 := .sh (tr (walk l ones))) (s5 := .sh (.int i)) (s6 := .sh (tr (nx i (walk l ones)))) (s9 := s9) (s10 := s10) (s11 := s11) (s12 := s12) (s13 := s13) (s14 := s14) (s15 := s15) (s16 := s16) (s17 := s17) hD hml
  obtain ⟨a3, b3, c3, d3, q, h3, hq, e11⟩ := t11_ok (s0 := s0) (s2 := s2) (s3 := .sh (.tup (iDs l))) (s6 := .sh (tr (nx i (walk l ones)))) (s7 := .ow (.l (iDs m))) (s8 := .sh (tr ones)) (s9 := y9) (s10 := .sh (.tup (iDs m))) (s11 := s11) (s12 := s12) (s13 := s13) (s14 := s14) (s15 := s15) (s16 := s16) (s17 := s17) hb hi h2 (by omega)
  obtain ⟨a4, b4, c4, d4, v, h4, hv, e13⟩ := t13_ok (t := walk l ones) (q := q) (s0 := s0) (s2 := s2) (s3 := .sh (.tup (iDs l))) (s4 := .sh (tr (walk l ones))) (s5 := .sh (.int i)) (s6 := .sh (tr (nx i (walk l ones)))) (s7 := .ow (.l (iDs m))) (s8 := .sh (tr ones)) (s9 := y9) (s10 := .sh (.tup (iDs m))) (s11 := .sh (tr q)) (s12 := s12) (s14 := s14) (s15 := s15) (s16 := s16) (s17 := s17) h3 (by omega)
  obtain ⟨due, e14, e15, e16⟩ := val_ok (t := walk l ones) (q := q) (v := v) (i := i) (s0 := s0) (s1 := pt a4 b4 c4 d4 r) (s2 := s2) (s3 := .sh (.tup (iDs l))) (s4 := .sh (tr (walk l ones))) (s6 := .sh (tr (nx i (walk l ones)))) (s7 := .ow (.l (iDs m))) (s8 := .sh (tr ones)) (s9 := y9) (s10 := .sh (.tup (iDs m))) (s11 := .sh (tr q)) (s12 := s12) (s13 := .ow (.l (tr q :: vals1 (walk l ones)))) (s15 := s15) (s16 := s16) (s17 := s17) hq hi hv
  obtain ⟨a5, b5, c5, d5, x, h5, hx, e17⟩ := t17_ok (s0 := s0) (s2 := s2) (s3 := .sh (.tup (iDs l))) (s4 := .sh (tr (walk l ones))) (s5 := .sh (.int i)) (s6 := .sh (tr (nx i (walk l ones)))) (s7 := .ow (.l (iDs m))) (s8 := .sh (tr ones)) (s9 := y9) (s10 := .sh (.tup (iDs m))) (s11 := .sh (tr q)) (s12 := s12) (s13 := .ow (.l (tr q :: vals1 (walk l ones)))) (s14 := .sh v) (s15 := .sh (.lst due)) (s16 := s16) (s17 := s17) h4 (by omega)
  obtain ⟨a6, b6, c6, d6, y, h6, hy, e18⟩ := t18_ok (s0 := s0) (s2 := s2) (s3 := .sh (.tup (iDs l))) (s4 := .sh (tr (walk l ones))) (s5 := .sh (.int i)) (s6 := .sh (tr (nx i (walk l ones)))) (s7 := .ow (.l (iDs m))) (s8 := .sh (tr ones)) (s9 := y9) (s10 := .sh (.tup (iDs m))) (s11 := .sh (tr q)) (s12 := s12) (s13 := .ow (.l (tr q :: vals1 (walk l ones)))) (s14 := .sh v) (s15 := .sh (.lst due)) (s16 := .sh x) (s17 := s17) h5 (by omega)
  refine ⟨a6, b6, c6, d6, .sh (.tup (iDs l)), .sh (tr (walk l ones)), .sh (.int i), .sh (tr (nx i (walk l ones))), .ow (.l (iDs m)), .sh (tr ones), y9, .sh (.tup (iDs m)), .sh (tr q), s12, .ow (.l (tr q :: vals1 (walk l ones))), .sh v, .sh (.lst due), .sh x, .sh y, h6.up (by omega), ?_⟩
  unfold trn0
  refine (seq_nx e0).trans ?_
  refine (seq_nx t1_ok).trans ?_
  refine (seq_nx e2).trans ?_
  refine (seq_nx (t3_ok hl hll hm _ rfl)).trans ?_
  refine (seq_nx e4).trans ?_
  refine (seq_nx (t5_ok hb (by decide) (isT_mk hm) hi)).trans ?_
  refine (seq_nx (t6_ok hb (by decide) hm hi _ rfl)).trans ?_
  refine (seq_nx t7_ok).trans ?_
  refine (seq_nx e8).trans ?_
  refine (seq_nx (t9_ok hD hm hml)).trans ?_
  refine (seq_nx (t10_ok hD hm hml _ rfl)).trans ?_
  refine (seq_nx e11).trans ?_
  refine (seq_nx t12_ok).trans ?_
  refine (seq_nx e13).trans ?_
  refine (seq_nx e14).trans ?_
  refine (seq_nx e15).trans ?_
  refine (seq_nx e16).trans ?_
  refine (seq_nx e17).trans ?_
  refine (seq_nx e18).trans ?_
  exact t19_ok hb hm hx hy _ rfl
end
theorem turns_ok (s0 : SV) {r : List D} : ∀ (l : List D) (n : Nat) (a b c d : Int) (s2 s3 s4 s5 s6 s7 s8 s9 s10 s11 s12 s13 s14 s15 s16 s17 : SV), PotC n a b c d r → n + 20 * l.length ≤ 800000 →
    ∃ y1 y2 y3 y4 y5 y6 y7 y8 y9 y10 y11 y12 y13 y14 y15 y16 y17, forL (.nm 2) trn0 l (sL s0 (pt a b c d r) s2 s3 s4 s5 s6 s7 s8 s9 s10 s11 s12 s13 s14 s15 s16 s17) = .ok .nx (sL s0 y1 y2 y3 y4 y5 y6 y7 y8 y9 y10 y11 y12 y13 y14 y15 y16 y17)
  | [], n, a, b, c, d, s2, s3, s4, s5, s6, s7, s8, s9, s10, s11, s12, s13, s14, s15, s16, s17, _, _ => ⟨pt a b c d r, s2, s3, s4, s5, s6, s7, s8, s9, s10, s11, s12, s13, s14, s15, s16, s17, rfl⟩
  | x :: l, n, a, b, c, d, s2, s3, s4, s5, s6, s7, s8, s9, s10, s11, s12, s13, s14, s15, s16, s17, h, hn => by
    rw [List.length_cons] at hn
    obtain ⟨a1, b1, c1, d1, y3, y4, y5, y6, y7, y8, y9, y10, y11, y12, y13, y14, y15, y16, y17, h1, e1⟩ := turn_ok (s0 := s0) (s2 := .sh x) (s3 := s3) (s4 := s4) (s5 := s5) (s6 := s6) (s7 := s7) (s8 := s8) (s9 := s9) (s10 := s10) (s11 := s11) (s12 := s12) (s13 := s13) (s14 := s14) (s15 := s15) (s16 := s16) (s17 := s17) h (by omega)
    obtain ⟨z1, z2, z3, z4, z5, z6, z7, z8, z9, z10, z11, z12, z13, z14, z15, z16, z17, e2⟩ := turns_ok s0 l (n + 20) a1 b1 c1 d1 (.sh x) y3 y4 y5 y6 y7 y8 y9 y10 y11 y12 y13 y14 y15 y16 y17 h1 (by omega)
    exact ⟨z1, z2, z3, z4, z5, z6, z7, z8, z9, z10, z11, z12, z13, z14, z15, z16, z17, (forL_cons (i := 2) (S := (sL s0 (pt a b c d r) s2 s3 s4 s5 s6 s7 s8 s9 s10 s11 s12 s13 s14 s15 s16 s17)) e1).trans e2⟩
theorem pot_ok (ns : List Int) (hl : ns.length ≤ 63) : F_law_pot [.sh (.lst (ns.map .int))] = .ok (pt 0 27644437 3 4 (ns.map .int)) [.un] := by
  show runDef 1 0 m_law_pot _ = _
  rw [e_law_pot]
  refine runDef_rt (S' := [.sh (.lst (ns.map .int))]) rfl (ret_ok ?_) rfl
  show (match (if 4 + (ns.map D.int).length ≤ sizeLine then some (pt 0 27644437 3 4 (ns.map .int)) else none) with
    | some r => Res.ok r _
    | none => .stuck) = _
  rw [if_pos (by rw [List.length_map, sizeLine_eq]; omega)]
  rfl
theorem lawTrue (ns : List Int) (hl : ns.length ≤ 63) : ∃ A', F_p_law [.sh (.lst (ns.map .int))] = .ok (.sh (.bl true)) A' := by
  have h0 : PotC 0 0 27644437 3 4 (ns.map D.int) := ⟨by decide, by decide, by decide, by decide, by decide, by decide, by decide, by rw [List.length_map]; omega, fun d hd => by
    obtain ⟨i, _, rfl⟩ := List.mem_map.mp hd
    exact ⟨i, rfl⟩⟩
  obtain ⟨y1, y2, y3, y4, y5, y6, y7, y8, y9, y10, y11, y12, y13, y14, y15, y16, y17, e2⟩ := turns_ok (.sh (.lst (ns.map .int))) (rngItems 0 4) 0 0 27644437 3 4 .un .un .un .un .un .un .un .un .un .un .un .un .un .un .un .un h0 (by rw [rng_len]; decide)
  refine ⟨[.un], ?_⟩
  show runDef 1 17 m_p_law _ = _
  refine runDef_rt (S' := [.sh (.lst (ns.map .int)), y1, y2, y3, y4, y5, y6, y7, y8, y9, y10, y11, y12, y13, y14, y15, y16, y17]) rfl ?_ rfl
  rw [law_is]
  refine (seq_nx (S' := sL (.sh (.lst (ns.map .int))) (pt 0 27644437 3 4 (ns.map .int)) .un .un .un .un .un .un .un .un .un .un .un .un .un .un .un .un) (asg_ok (S' := sL (.sh (.lst (ns.map .int))) .un .un .un .un .un .un .un .un .un .un .un .un .un .un .un .un .un) (call1 (v := .sh (.lst (ns.map .int))) rfl rfl (pot_ok ns hl)))).trans ?_
  refine (seq_nx ((for_ok (wRng1 (j := 4) con_ok (by decide))).trans e2)).trans ?_
  rfl

end Lw
open PySem PySem.W PySem.Calls PyProof.Rows
theorem PySem.Challenge.cw_wholeseeds_k53_triples_by_exchanges_holds : PySem.Challenge.rw_wholeseeds_k53_triples_by_exchanges.Holds := by
  w_on; o_law
  refine HandSHeadRun.head_any (r := OpenLaw.row PySem.Challenge.rw_wholeseeds_k53_triples_by_exchanges) (q := view (OpenLaw.row PySem.Challenge.rw_wholeseeds_k53_triples_by_exchanges).prog [Lw.lawIx]) (H := Lw.hk) (ob := Lw.ob) (M := 4000) (loose := Lw.nms) (d := HandSHeadRun.topDef (OpenLaw.row PySem.Challenge.rw_wholeseeds_k53_triples_by_exchanges).prog Lw.lawIx) (kwd := []) Lw.ob_eq
    (by kernel_rfl) (fun s => by kernel_rfl) Lw.run (by kernel_rfl) (by kernel_rfl) (by kernel_rfl) (by rfl) (by first | assumption | decide +kernel) (by decide +kernel) ⟨rfl, rfl, rfl, rfl, rfl, by decide +kernel⟩ ?hw ?hc
  case hw => w_witness2
  case hc =>
    refine L2.walk_ofE (l := PySem.Challenge.rw_wholeseeds_k53_triples_by_exchanges) (n := 63) (k := 10) (x := "script") (CX := L2.CX0) rfl (by decide) (by kernel_rfl) ⟨rfl, by decide, by decide⟩ ?F (fun _ _ _ _ z => z)
    intro w mg fa h Y G hmg0
    obtain ⟨K, KX, c⟩ := Y
    have hmg : mg ("law" : PySem.Str) = some (.ref fa) := by
      have e : (HandSHeadRun.topDef (OpenLaw.row PySem.Challenge.rw_wholeseeds_k53_triples_by_exchanges).prog Lw.lawIx).name = ("law" : PySem.Str) := by kernel_rfl
      rw [← e]
      exact hmg0
    obtain ⟨fd, sp, h1, h2, h3⟩ := Ev.law_facts (P := (PySem.Challenge.rw_wholeseeds_k53_triples_by_exchanges).prog) (w := w) (Lw.d_p_law KX G c) hmg (fun base X' G' => Lw.t_p_law X' G' c) (fun kV doc pm an cdv ct us hl => Lw.b_p_law kV doc pm an cdv ct us hl) Lw.lawTrue
    exact ⟨K, fd, sp, KX, h1, fun H a ns hl _ hS => h2 H a ns hl hS, h3⟩

