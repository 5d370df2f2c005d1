import PyProof.Rows.All
import Wide.All
import OpenK.AllK
import Wide.FinOn
import KE.KExcSuper
import HandS.ForMost
import HandS.Exc
import HandS.ExcInit
import HandS.Defaults
import HandS.HeadWalk
import HandS.ExcIs
import HandS.ExcField
import HandS.IsInst
import KE.KExcIs
import PyProof.ReprRoads
import HandS.HeadEnd
import PySem.Challenge.RW_oddlamps_k01_errors_made
import HandS.WideBits
import HandS.Style
import KE.IntBitsLaws
import HandS.OwnEq
import HandS.ExcBuiltin
import HandS.Codes
import HandS.Head0
import HandS.Head1
import HandS.Head2
import HandS.HeadHook1
import HandS.HeadHook2
import KE.KIsAll
import PyProof.StrLawsRepr
import PyProof.FitsInt
import HandS.Small
/-! from Oe.lean -/
set_option Elab.async false
set_option linter.all false
set_option maxRecDepth 100000
set_option maxHeartbeats 4000000
namespace Oe
open PySem PySem.Spec PyProof.Rows L2
open PySem.W (Frag ksFn ksEnv ks_superIn kxs_mw)
/-! ### the text of __init__(self, value=None): super().__init__(); self.value = value -/
def iA (p1 p2 p3 : Pos) : Arguments := { posonlyargs := [], args := [{ arg := "self", annotation := none, pos := p1 }, { arg := "value", annotation := none, pos := p2 }], vararg := none, kwonlyargs := [], kw_defaults := [], kwarg := none, defaults := [.Constant .none 0 p3] }
def iB (q1 q2 q3 q4 q5 r1 r2 r3 r4 : Pos) : List Stmt := [.Expr (.Call (.Attribute (.Call (.Name "super" q1) [] [] q2) "__init__" q3) [] [] q4) q5, .Assign [.Attribute (.Name "self" r1) "value" r2] (.Name "value" r3) r4]
def iS : Scope := { kind := .function, names := [(PySem.Str.ofString "self", .local), (PySem.Str.ofString "value", .local), (PySem.Str.ofString "__class__", .free), (PySem.Str.ofString "super", .globalImplicit)], isGenerator := false, isCoroutine := false, more := [] }
/-- what the written part says of an own exception class at C with such an __init__ at fI -/
structure InitTxt (P : Program) (K : Frag) (mg : Str → Option Value) (C fI : Addr) (fd : FuncData) (qual : Str) : Prop where
  oex : OexC K C
  noN : PySem.W.findIn K (.ref C) "value" = some none
  iC : PySem.W.findIn K (.ref C) "__init__" = some (some (.ref fI))
  tI : PySem.W.typeIn K (.ref fI) = some (.type "function")
  sup : ks_superIn K C C "__init__" = some (some (.builtin "ValueError.__init__"))
  sve : PySem.W.subIn K (.ref C) (.type "ValueError") = some true
  mroC : PySem.W.mroIn K C (.ref C) = some true
  opq : PySem.W.nsIn K cStatics "thirdparty.any" = some none
  nsup : mg "super" = none
  top : (P.main.scope.names.lookup ("super" : Str)).isSome = false
  fn : ∃ (oc : Value) (od : Option Addr) (osl : Array (Option Value)) (dV kV doc pm : Value) (an : Option Addr) (cda : Addr) (ct : Value) (cc : Addr) (p1 p2 p3 q1 q2 q3 q4 q5 r1 r2 r3 r4 : Pos),
    fd = ksFn "__init__" qual (iA p1 p2 p3) (iB q1 q2 q3 q4 q5 r1 r2 r3 r4) iS dV kV doc pm an (.ref cda) ct cc ∧ K.lookup fI = some ⟨oc, od, .func fd, osl⟩ ∧ PySem.W.codeIn K (.ref cda) qual = true ∧
    (∃ ccl cdd vs ccs file tf, K.lookup cda = some ⟨ccl, cdd, .fields vs, ccs⟩ ∧ vs[2]? = some (.str file tf) ∧ ((P.main.file : Str) == file) = true) ∧
    (∃ cl cld csl, K.lookup cc = some ⟨cl, cld, .cell (some (.ref C)), csl⟩) ∧ (q3.endLine == q4.line) = true ∧ (∃ (T : Addr) (oT : Obj) (nT : Nat), dV = .ref T ∧ K.lookup T = some oT ∧ oT.data = .seq #[.none] nT)
/-- ValueError.__init__ bound to the exception at e, called with nothing -/
theorem call_mw {prog : Program} {w : World} {A : Around} {E : Value → Shared → Prop} {h : Heap} {g : Array GenState} {d : Drawn} {t : Nat} {os : OsState} {nm q : Str} {C N : Addr} {bs bm : List Value} {hdct : Bool} {sn : List Str} {sub : List Value} {ab : Bool} {col : Option Bool} {dd : Option Addr} {k0 k1 k2 k3 k5 : Option Value} {u e t0 : Addr} {rest : List Value} {Q : Value → Shared → Prop}
    (hC : h.get? C = some (excClassObj nm q C N bs bm hdct sn sub ab col dd k0 k1 k2 k3 k5 "ValueError.__new__")) (he : h.get? e = some (HandSPX.excO C t0)) (hu : h.get? u = some (kxs_mw "ValueError.__init__" e)) (hrest : rest.length ≤ sizeLine)
    (hq : ∀ h' t1, (∀ b o, b ≠ e → h.get? b = some o → h'.get? b = some o) → h'.get? e = some (HandSPX.excO C t1) → Q .none ⟨h', g, d, t, os⟩) :
    wpAny (model prog w) A (call (.ref u) rest) Q E ⟨h, g, d, t, os⟩ := by
  refine wpAny_call (codeAny_of_tree ?_)
  show wpAny _ A.in1 (callAny (.ref u) ⟨rest, []⟩) _ _ _
  simp only [callAny]
  refine wpAny_bind (wpAny_load hu ?_)
  simp only [kxs_mw, show (Value.type "method-wrapper" == Value.type "method" || Value.type "method-wrapper" == Value.type "builtin_function_or_method" || Value.type "method-wrapper" == Value.type "method-wrapper") = true by decide, if_true]
  refine W.KFB.if_so (by decide) ?_
  refine wpAny_bind (PySem.W.check_bound_init F.excBase_ValueError.toExcCallFacts hC he rfl ?_)
  refine wpAny_bind (wpAny_pure (wpAny_pure ?_))
  refine ⟨plainId_quiet F.excBase_ValueError.init.plain _, codeAny_builtin F.excBase_ValueError.initEntry ?_⟩
  exact PySem.W.exc_init_tree (cls := .ref C) (t0 := t0) (dv := none) (c2 := .none) (c3 := .none) (b4 := .bool false) he hrest fun h' k hx _ => hq h' h.objs.size k hx

/-- __init__(self, value) of a fresh exception -/
def spInit (C : Addr) : Sp := fun vs H Q _ => ∃ (a : Addr) (v : V), vs = [.ref a, v] ∧ H a = some (exo a C none) ∧ ∀ dx, H dx = none → dx ≠ a → Q .non (upd (upd H dx (exd dx [("value", v)])) a (exo a C (some dx)))
section
variable {P : Program} {w : World} {K : Frag} {mg : Str → Option Value} {base : Heap} {CX : CXT} {C fI : Addr} {fd : FuncData} {qual : Str}
theorem init_ok (T : InitTxt P K mg C fI fd qual) : FnOk P w K mg base CX 1 fI fd ["self", "value"] (spInit C) := by
  refine ⟨fun vs H Q E h => ?_, fun A outer s H args us vs Q E hr e0 hb r hsp => ?_⟩
  · obtain ⟨a, v, rfl, _⟩ := h
    rfl
  obtain ⟨a, v, rfl, ea, hq⟩ := hsp
  obtain ⟨oc, od, osl, dV, kV, doc, pm, an, cda, ct, cc, p1, p2, p3, q1, q2, q3, q4, q5, r1, r2, r3, r4, rfl, lk, hcd, ⟨ccl, cdd, cvs, ccs, file, tf, hco, hvs, hfile⟩, ⟨cl, cld, csl, hcell⟩, hline, _⟩ := T.fn
  cases r with
  | @cons _ u0 _ ur ra rr =>
  cases rr with
  | @cons _ u _ ur2 rv rr2 =>
  cases rr2
  obtain rfl : u0 = Value.ref a := ra
  obtain ⟨nm, q, N, bs, bm, sn, sub, ab, col, dd, k0, k1, k2, k3, k5, hC, hbm⟩ := T.oex.cls
  have hcl : PySem.W.clsIn K C = some { name := nm, bases := bs, mro := .ref C :: bm, ns := N, qualname := q, hasDict := true, slotNames := sn, subclasses := sub, abstract := ab, collection := col, hasDel := false } := by unfold PySem.W.clsIn; rw [hC] <;> rfl
  have KX : K.In s.heap := e0.mod.kin.keeps fun b o e => (e0.bs b o e).1
  have lim : s.heap.NoLimit := e0.mod.nolimit.keeps fun b o e => (e0.bs b o e).1
  obtain ⟨t1, ho⟩ := exo_at e0.hok ea
  have hb2 : BindsTo s (ksFn "__init__" qual (iA p1 p2 p3) (iB q1 q2 q3 q4 q5 r1 r2 r3 r4) iS dV kV doc pm an (.ref cda) ct cc) args [("self", .ref a), ("value", u)] := hb
  refine ks_codeAny_call_defAt (binds := [("self", .ref a), ("value", u)]) hr.depth (KX _ _ lk) rfl lim (PySem.W.codeRec_of KX hcd) rfl hb2 (show ∀ x ∈ iS.names, x.2 ≠ .cell by decide) (fun y hy => ?_) (fun h₁ hns k₁ => ?_) rfl rfl rfl
  · have hy2 : y ∈ ([("self", .ref a), ("value", u)] : List (Str × Value)) := hy
    rcases List.mem_cons.mp hy2 with rfl | hy2
    · rfl
    · rcases List.mem_cons.mp hy2 with rfl | hy2
      · rfl
      · cases hy2
  have X₁ : K.In h₁ := KX.keeps k₁
  have hxL : s.heap.objs.size ≠ a := Nat.ne_of_gt (Heap.lt_size ho)
  have ho₁ := k₁ _ _ ho
  -- super().__init__()
  obtain ⟨env, henv⟩ : ∃ env, env = callEnv (ksFn "__init__" qual (iA p1 p2 p3) (iB q1 q2 q3 q4 q5 r1 r2 r3 r4) iS dV kV doc pm an (.ref cda) ct cc) s.heap.objs.size fI := ⟨_, rfl⟩
  have hev : env = ksEnv qual iS s.heap.objs.size fI (.ref cda) cc := henv
  rw [← henv]
  subst hev
  have hcall : eval (.Call (.Attribute (.Call (.Name "super" q1) [] [] q2) "__init__" q3) [] [] q4) (ksEnv qual iS s.heap.objs.size fI (.ref cda) cc) = (do
        let ov ← attributeBase (.Call (.Name "super" q1) [] [] q2) "__init__" (ksEnv qual iS s.heap.objs.size fI (.ref cda) cc) (eval (.Call (.Name "super" q1) [] [] q2) (ksEnv qual iS s.heap.objs.size fI (.ref cda) cc))
        standAt q3.atName
        let (f, first) ← holding [ov] (getMethod ov "__init__" (plainOf (.Call (.Name "super" q1) [] [] q2) (ksEnv qual iS s.heap.objs.size fI (.ref cda) cc)))
        callWith q4 f first (backTo q4 (starEach [] (ksEnv qual iS s.heap.objs.size fI (.ref cda) cc))) []) := by
    refine Eq.trans (b := (do
        let ov ← attributeBase (.Call (.Name "super" q1) [] [] q2) "__init__" (ksEnv qual iS s.heap.objs.size fI (.ref cda) cc) (eval (.Call (.Name "super" q1) [] [] q2) (ksEnv qual iS s.heap.objs.size fI (.ref cda) cc))
        standAt q3.atName
        methodCall (.Call (.Name "super" q1) [] [] q2) "__init__" q3 q4 (ksEnv qual iS s.heap.objs.size fI (.ref cda) cc) ov 0 (backTo q4 (starEach [] (ksEnv qual iS s.heap.objs.size fI (.ref cda) cc))) (backToKw q4 (keywordEach [] (ksEnv qual iS s.heap.objs.size fI (.ref cda) cc))))) rfl ?_
    congr 1
    funext ov
    congr 1
    funext _
    exact mcall_line rfl hline
  refine ks_wpAt_execs_cons (ks_wpAt_Expr_any (ks_wpAt_MethodCall (pl := plainOf (.Call (.Name "super" q1) [] [] q2) (ksEnv qual iS s.heap.objs.size fI (.ref cda) cc)) ?_ hcall))
  obtain ⟨mb, hmb, hbu⟩ := e0.mod.blt
  have kb : ∀ b o, base.get? b = some o → h₁.get? b = some o := fun b o e => k₁ b o (e0.bs b o e).1
  refine ks_wpAt_super_base (fd := ksFn "__init__" qual (iA p1 p2 p3) (iB q1 q2 q3 q4 q5 r1 r2 r3 r4) iS dV kV doc pm an (.ref cda) ct cc) (ar := { arg := "self", annotation := none, pos := p1 }) rfl rfl (by decide) rfl (X₁ _ _ lk) rfl rfl rfl (X₁ _ _ hco) rfl hvs hfile T.top ?_
  refine PySem.W.ks_loadName_global rfl rfl (PySem.Calls.loadGlobal_builtin (env := ksEnv qual iS s.heap.objs.size fI (.ref cda) cc) (e0.mod.glob.keeps kb) T.nsup (hmb.keeps kb) ((hbu _ (by decide)).trans (by first | boot_by_name | rfl | kernel_rfl)) ⟨rfl, ?_⟩)
  refine wpAny_loadName_free rfl rfl rfl ⟨_, X₁ _ _ hcell, rfl⟩ ?_
  refine wpAny_loadName_local rfl rfl hns rfl ?_
  refine ks_wpAny_isType_cls (X₁ _ _ hC) rfl ⟨rfl, ?_⟩
  refine ks_wpAny_call_super (X₁ _ _ hC) rfl ho₁ rfl (fun c e => by cases e) (PySem.W.looks_mroIn X₁ T.mroC) (fun h2 es k2 => ?_)
  have X₂ : K.In h2 := X₁.keeps k2
  have ho₂ := k2 _ _ ho₁
  have I2 : PySem.W.InstAt h2 a (HandSPX.excO C t1) C none := ⟨ho₂, rfl, rfl, trivial⟩
  have hI : PySem.W.Looks (model P w) h2 (isInstance (.ref a) (.type "ValueError")) true := I2.type.andThen (PySem.W.looks_subIn X₂ T.sve)
  have hM : PySem.W.Looks (model P w) h2 (mroOf (.ref C)) (.ref C :: bm) := fun A Q E s k q => wpAny_bind ((PySem.W.looks_clsIn X₂ hcl) A _ E s k (wpAny_pure q))
  have hsup : PySem.W.alongIn K "__init__" (((Value.ref C :: bm).dropWhile (· != .ref C)).drop 1) = some (some (.builtin "ValueError.__init__")) := by
    have z := T.sup
    unfold ks_superIn at z
    rw [hcl] at z
    exact z
  refine PySem.W.kxs_getMethod PySem.W.kxs_ValueError es (PySem.W.looks_opaque X₂ T.opq) hM rfl X₂ hsup hI (PySem.W.ks_ne X₂ I2 hcl) (by decide) ?_
  have k3 : ∀ b o, h2.get? b = some o → (h2.push (kxs_mw "ValueError.__init__" a)).get? b = some o := fun b o e => Heap.get?_push_of_some _ e
  have ho₃ := k3 _ _ ho₂
  have hw : (h2.push (kxs_mw "ValueError.__init__" a)).get? h2.objs.size = some (kxs_mw "ValueError.__init__" a) := Heap.get?_push_at rfl rfl
  refine PySem.W.kxs_callWith (i := "ValueError.__init__") (x := a) rfl (PyProof.Rows.evalArgs_empty ⟨hw, ?_⟩)
  refine call_mw (X₂.keeps k3 _ _ hC) ho₃ hw (by show 0 ≤ sizeLine; exact Nat.zero_le _) (fun h4 t4 k4 ho₄ => ?_)
  -- self.value = value
  have k04 : ∀ b o, b ≠ a → s.heap.get? b = some o → h4.get? b = some o := fun b o hb e => k4 b o hb (k3 _ _ (k2 _ _ (k₁ _ _ e)))
  have nax : ∀ b o, base.get? b = some o → b ≠ a := fun b o e z => by
    have y := (e0.bs b o e).2
    rw [z, ea] at y
    cases y
  have X₄ : K.In h4 := e0.mod.kin.keeps fun b o e => k04 b o (nax b o e) (e0.bs b o e).1
  have hxL2 : s.heap.objs.size ≠ a := Nat.ne_of_gt (Heap.lt_size ho)
  have hns4 : h4.Ns s.heap.objs.size fun x => List.lookup x ([("self", Value.ref a), ("value", u)] : List (Str × Value)).reverse := hns.at fun o e => k4 _ o hxL2 (k3 _ _ (k2 _ _ e))
  refine wpAt_of_wpAny ?_
  refine wpAny_execs_cons (plainObj_wpAny_Assign_Attribute ?_)
  refine wpAny_Name (wpAny_loadName_local rfl rfl hns4 rfl ?_) (by decide)
  refine wpAny_Name (wpAny_loadName_local rfl rfl hns4 rfl ?_) (by decide)
  refine PySem.W.set_plain X₄ (ox := HandSPX.excO C t4) (od := none) ⟨ho₄, rfl, rfl, trivial⟩ T.oex.sa ?_
  refine HandSPX.exc_osa X₄ ho₄ hcl (show HandSPX.refsVE (.ref C :: bm) = true from hbm) rfl T.noN (fun h5 tk5 dx k5 dn dne hx5 hn5 => ?_)
  refine wpAny_execs_nil ?_
  have sz : s.heap.objs.size ≤ h4.objs.size := by
    obtain ⟨o, _, _, e, _⟩ := hns4
    exact Nat.le_of_lt (Heap.lt_size e)
  have dn0 : s.heap.objs.size ≤ dx := Nat.le_trans sz dn
  have hnd : H dx = none := e0.hok.fresh dn0
  have k05 : ∀ b o, b ≠ a → s.heap.get? b = some o → h5.get? b = some o := fun b o hb e => k5 b o hb (k04 b o hb e)
  have nd : ∀ {b : Addr} {o : Obj}, s.heap.get? b = some o → b ≠ dx := fun {b o} q => Nat.ne_of_lt (Nat.lt_of_lt_of_le (Heap.lt_size q) dn0)
  have na : ∀ {b : Addr}, H b = none → b ≠ a := fun {b} n z => by
    rw [z, ea] at n
    cases n
  refine ⟨.non, upd (upd H dx (exd dx [("value", v)])) a (exo a C (some dx)), rfl, e0.bare, ?_, ?_, rfl, hq dx hnd dne⟩
  · exact {
      keep := fun b o q n _ _ => k05 b o (na n) q
      slot := fun b o q n _ _ => ⟨o.slots, k05 b o (na n) q⟩
      free := fun b o q n _ => by rw [upd_ne (na n), upd_ne (nd q)]; exact n
      there := fun b o q _ => by
        by_cases hb : b = a
        · exact ⟨_, by rw [hb]; exact hx5⟩
        · exact ⟨o, k05 b o hb q⟩
      tups := fun b xs q => by rw [upd_ne (at_ne ea q exo_tup), upd_ne (ne_of_none q hnd)]; exact q
      frzs := fun b o v q => by rw [upd_ne (at_ne ea q exo_frz), upd_ne (ne_of_none q hnd)]; exact q
      tbls := fun b ps q => ⟨#[], by rw [upd_ne (at_ne ea q exo_tbl), upd_ne (ne_of_none q hnd), q]; simp⟩ }
  · intro b o q
    by_cases hb : b = a
    · subst hb
      rw [upd_same] at q
      cases q
      exact exo_ok hx5
    · rw [upd_ne hb] at q
      by_cases hd : b = dx
      · subst hd
        rw [upd_same] at q
        cases q
        exact exd_ok hn5 (relO_put (fs := []) rv fun g => True.intro)
      · rw [upd_ne hd] at q
        exact (e0.hok b o q).stay (fun c v hc z => k05 c v (by
            rcases hc with hc | hc
            · rw [hc]
              exact hb
            · exact at_ne ea hc exo_own) z)
          (fun c hc => by rw [upd_ne (at_ne ea hc exo_own), upd_ne (ne_of_none hc hnd)]; exact hc) (fun c xs hc => by rw [upd_ne (at_ne ea hc exo_tup), upd_ne (ne_of_none hc hnd)]; exact hc)
end
end Oe

/-! from Oe2.lean -/
set_option Elab.async false
set_option linter.all false
set_option maxRecDepth 100000
set_option maxHeartbeats 4000000
namespace Oe
open PySem HandSPX
section
variable {prog : Program} {w : World} {A : Around} {E : Value → Shared → Prop} {R : Result → Shared → Prop} {h : Heap} {g : Array GenState} {d : Drawn} {t : Nat} {os : OsState}
variable {M : Model} {nm q : Str} {C N : Addr} {bs bm bmB : List Value} {hdct : Bool} {sn : List Str} {sub : List Value} {ab : Bool} {col : Option Bool} {dd : Option Addr} {k0 k1 k2 k3 k5 : Option Value} {B newId initId : String}
theorem check_new_ownK (F : ExcBaseFacts B newId initId bmB) (hT : ∀ X : String, bm.contains (.type X) = bmB.contains (.type X)) {rest : List Value} {x : Str} {u : Value} {Q : Unit → Shared → Prop}
    (hC : h.get? C = some (excClassObj nm q C N bs bm hdct sn sub ab col dd k0 k1 k2 k3 k5 newId)) (hq : Q () ⟨h, g, d, t, os⟩) : wpAny M A (checkBuiltinCall newId ⟨.ref C :: rest, [(x, u)]⟩) Q E ⟨h, g, d, t, os⟩ := by
  have hcont : (Value.ref C :: bm).contains (.type B) = true := by rw [List.contains_cons, hT, F.hasB, Bool.or_true]
  have hstar := F.noStar
  simp only [checkBuiltinCall, F.newKind, F.newSplit, F.newRow]
  repeat (first | refine wpAny_loadPart_at hC ?_ | (refine wpAny_isSubtype_exc hC ?_; rw [hcont]) | refine wpAny_staticBase_exc hC ?_ | refine wpAny_madeBy_exc hC ?_ | simp only [bne_self_eq_false, Bool.false_eq_true, if_false] | wp_step)
  exact hq
theorem new_ownK (F : ExcBaseFacts B newId initId bmB) (hT : ∀ X : String, bm.contains (.type X) = bmB.contains (.type X)) {rest : List Value} {kw : List (Str × Value)}
    (hC : h.get? C = some (excClassObj nm q C N bs bm hdct sn sub ab col dd k0 k1 k2 k3 k5 newId))
    (hq : R (.ok (.ret (.ref (h.objs.size + 1)))) ⟨(h.push { cls := .type "tuple", data := .seq rest.toArray }).push
      { cls := .ref C, data := .fields #[.ref h.objs.size, .none, .none, .none, .bool false, .none] }, g, d, t, os⟩) (hrest : rest.length ≤ sizeLine) :
    codeAny (model prog w) A (.builtin newId ⟨.ref C :: rest, kw⟩) R ⟨h, g, d, t, os⟩ := by
  have hends := F.ends
  have hcB : (Value.ref C :: bm).contains (.type B) = true := by rw [List.contains_cons, hT, F.hasB, Bool.or_true]
  have hcA : (Value.ref C :: bm).contains (.type "AttributeError") = false := by rw [List.contains_cons, hT, F.noAttr]; rfl
  have hcN : (Value.ref C :: bm).contains (.type "NameError") = false := by rw [List.contains_cons, hT, F.noName]; rfl
  refine codeAny_builtinAt F.entry ?_
  unfold Builtin.«BaseException.__new__»
  refine wpAt_bind ?_
  show wpAt _ _ _ (stack >>= _) _ _ _
  refine wpAt_bind (wpAt_stack fun p below => wpAt_of_wpAny ?_)
  wp_walk
  refine wpAt_of_wpAny ?_
  rw [F.owner]
  repeat (first | with_reducible refine wpAny_madeHere_exc F.canon hC ?_ | with_reducible refine wpAny_loadPart_at hC ?_ | (with_reducible refine wpAny_isSubtype_exc hC ?_; first | rw [hcB] | rw [hcA] | rw [hcN]) | wp_step)
  show R _ _
  rw [Heap.size_push]
  exact hq
theorem check_type_callK {rest : List Value} {x : Str} {u : Value} {Q : Unit → Shared → Prop} (hC : h.get? C = some (excClassObj nm q C N bs bm hdct sn sub ab col dd k0 k1 k2 k3 k5 newId))
    (hq : Q () ⟨h, g, d, t, os⟩) : wpAny M A (checkBuiltinCall "type.__call__" ⟨.ref C :: rest, [(x, u)]⟩) Q E ⟨h, g, d, t, os⟩ := by
  have f3 := tc_sub
  have hT : (⟨h, g, d, t, os⟩ : Shared).TypeIs (.ref C) "type" := ⟨_, hC, rfl⟩
  simp only [checkBuiltinCall, tc_kind, tc_split]
  repeat (any_goals (first | assumption | with_reducible refine wpAny_loadPart_at hC ?_ | with_reducible refine wpAny_onRaise ?_ | with_reducible refine wpAny_map ?_ | wp_step))
theorem type_call_ownK (F : ExcBaseFacts B newId initId bmB) (hT : ∀ X : String, bm.contains (.type X) = bmB.contains (.type X)) {rest : List Value} {x : Str} {u : Value} {fI : Addr} {Q : Fin → Shared → Prop}
    (hC : h.get? C = some (excClassObj nm q C N bs bm hdct sn sub ab col dd k0 k1 k2 k3 k5 newId))
    (hi : W.Looks (model prog w) h (typeLookup (.ref C) "__init__") (some (.ref fI))) (hb : ∀ self, W.Looks (model prog w) h (bindSpecial (.ref fI) self) (.ref fI, [self])) (hrest : rest.length ≤ sizeLine)
    (hq : codeAny (model prog w) A (.call (.ref fI) ⟨.ref (h.objs.size + 1) :: rest, [(x, u)]⟩)
      (fun r s' => match r with | .ok (.ret v) => v = .none ∧ Q (.done (.ret (.ref (h.objs.size + 1)))) s' | .ok _ => False | .error e => E e s')
      ⟨(h.push (W.kdv_tup rest)).push (excO C h.objs.size), g, d, t, os⟩) :
    wpAny (model prog w) A (Builtin.«type.__call__» ⟨.ref C :: rest, [(x, u)]⟩) Q E ⟨h, g, d, t, os⟩ := by
  repeat (first | with_reducible refine wpAny_loadPart_at hC ?_ | with_reducible refine wpAny_madeBy_exc hC ?_ | wp_step)
  refine codeAny_call_builtin_code (Code.quiet_builtin _ F.quiet) (check_new_ownK F hT hC ?_)
  refine new_ownK F hT hC ?_ hrest
  show wpAny _ _ _ _ _ _
  have k : ∀ b o, h.get? b = some o → ((h.push (W.kdv_tup rest)).push (excO C h.objs.size)).get? b = some o := fun b o e => Heap.get?_push_of_some _ (Heap.get?_push_of_some _ e)
  have hC₁ := k _ _ hC
  have hget : ((h.push (W.kdv_tup rest)).push (excO C h.objs.size)).get? (h.objs.size + 1) = some (excO C h.objs.size) := by heap_get
  have hcC : (Value.ref C :: bm).contains (.ref C) = true := by simp
  have i1 := hi.keeps k
  have b1 := (hb (.ref (h.objs.size + 1))).keeps k
  unfold isInstance
  repeat (first | with_reducible refine wpAny_loadPart_at hget ?_ | (with_reducible refine wpAny_isSubtype_exc hC₁ ?_; rw [hcC]) | wp_step)
  show wpAny _ _ (typeLookup (.ref C) _) _ _ _
  refine i1.at ?_
  refine wpAny_holding (wpAny_bind (b1.at ?_))
  refine wpAny_bind (wpAny_call (codeAny_mono hq fun r s' z => ?_))
  rcases r with e | (v | _ | _ | _) <;> first | exact z | exact z.elim | skip
  obtain ⟨rfl, z⟩ := z
  first
    | exact wpAny_pure (wpAny_pure z)
    | (wp_walk; exact z)
theorem call_ownK (F : ExcBaseFacts B newId initId bmB) (hT : ∀ X : String, bm.contains (.type X) = bmB.contains (.type X)) {rest : List Value} {x : Str} {u : Value} {fI : Addr}
    (hC : h.get? C = some (excClassObj nm q C N bs bm hdct sn sub ab col dd k0 k1 k2 k3 k5 newId))
    (hi : W.Looks (model prog w) h (typeLookup (.ref C) "__init__") (some (.ref fI))) (hb : ∀ self, W.Looks (model prog w) h (bindSpecial (.ref fI) self) (.ref fI, [self])) (hrest : rest.length ≤ sizeLine)
    (hq : codeAny (model prog w) (A.under (.builtin "type.__call__" ⟨.ref C :: rest, [(x, u)]⟩)) (.call (.ref fI) ⟨.ref (h.objs.size + 1) :: rest, [(x, u)]⟩) (W.InitBack (h.objs.size + 1) R)
      ⟨(h.push (W.kdv_tup rest)).push (excO C h.objs.size), g, d, t, os⟩) :
    codeAny (model prog w) A (.call (.ref C) ⟨rest, [(x, u)]⟩) R ⟨h, g, d, t, os⟩ := by
  have f1 := tc_lookup
  have f2 := tc_bind (.ref C)
  have hTy : (⟨h, g, d, t, os⟩ : Shared).TypeIs (.ref C) "type" := ⟨_, hC, rfl⟩
  refine codeAny_of_tree ?_
  show wpAny _ _ (callAny (.ref C) _) _ _ _
  repeat (any_goals (first | assumption | with_reducible refine wpAny_loadPart_at hC ?_ | wp_step))
  refine ⟨rfl, ?_⟩
  refine codeAny_call_builtin_at (Code.quiet_builtin _ (by decide +kernel)) entry_typeCall (check_type_callK hC (type_call_ownK F hT hC hi hb hrest ?_))
  refine codeAny_mono hq fun r s' z => ?_
  rcases r with e | (v | _ | _ | _) <;> exact z
end
end Oe

/-! from Oe3.lean -/
set_option Elab.async false
set_option linter.all false
set_option maxRecDepth 100000
set_option maxHeartbeats 4000000
namespace L2
open PySem PySem.Spec PyProof.Rows Oe
/-- the heap with a new exception at a, its dict at d -/
def mkE (H : Hp) (a d C : Addr) (v : V) : Hp := upd (upd H d (exd d [("value", v)])) a (exo a C (some d))
theorem mkE_a {H : Hp} {a d C : Addr} {v : V} : mkE H a d C v a = some (exo a C (some d)) := upd_same
theorem mkE_d {H : Hp} {a d C : Addr} {v : V} (h : d ≠ a) : mkE H a d C v d = some (exd d [("value", v)]) := by
  unfold mkE
  rw [upd_ne h, upd_same]
theorem mkE_ne {H : Hp} {a d C b : Addr} {v : V} (h1 : b ≠ a) (h2 : b ≠ d) : mkE H a d C v b = H b := by
  unfold mkE
  rw [upd_ne h1, upd_ne h2]
theorem mkE_same {H : Hp} {a d C : Addr} {v : V} (ha : H a = none) (hd : H d = none) : Same H (mkE H a d C v) := fun b o e => by
  rw [mkE_ne (ne_of_none e ha) (ne_of_none e hd)]
  exact e
theorem mkE_eq {H : Hp} {a d C : Addr} {v : V} {o : HO} (h : d ≠ a) : upd (upd (upd H a o) d (exd d [("value", v)])) a (exo a C (some d)) = mkE H a d C v := by
  funext b
  by_cases hb : b = a
  · subst hb
    rw [upd_same, mkE_a]
  · by_cases hd : b = d
    · subst hd
      rw [upd_ne hb, upd_same, mkE_d h]
    · rw [upd_ne hb, upd_ne hd, upd_ne hb, mkE_ne hb hd]
section
variable {X : Cx} {pins : List (Addr × Obj)} {σ : St} {H : Hp} {C fI : Addr} {fd : FuncData} {qual : Str} {v : V} {u : Value} {Q : VK}
/-- the object is laid, __init__ runs -/
theorem mk_core {rest : List Value} {kw : List (Str × Value)} {hp : Heap} {g : Array GenState} {dr : Drawn} {tk : Nat} {os : OsState} (T : InitTxt X.prog X.K X.mg C fI fd qual) (I1 : Inv X pins σ H ⟨hp, g, dr, tk, os⟩) (hr : Room 2 X.A) (rv : L2.RelV v u)
    (hb : ∀ (s : Shared) (a : Addr), X.K.In s.heap → BindsTo s fd ⟨.ref a :: rest, kw⟩ [("self", .ref a), ("value", u)])
    (h : ∀ a d, H a = none → H d = none → d ≠ a → Q (.ref a) (mkE H a d C v)) {R : Result → Shared → Prop} (hR : ∀ a s', EP X pins σ Q (.ref a) s' → R (.ok (.ret (.ref a))) s') :
    codeAny (model X.prog X.w) (X.A.under (.builtin "type.__call__" ⟨.ref C :: rest, kw⟩)) (.call (.ref fI) ⟨.ref (hp.objs.size + 1) :: rest, kw⟩) (PySem.W.InitBack (hp.objs.size + 1) R)
      ⟨(hp.push (PySem.W.kdv_tup rest)).push (HandSPX.excO C hp.objs.size), g, dr, tk, os⟩ := by
  have hsz : hp.objs.size ≤ hp.objs.size + 1 := Nat.le_succ _
  have hn : H (hp.objs.size + 1) = none := I1.hok.fresh hsz
  have kk : ∀ b o, hp.get? b = some o → ((hp.push (PySem.W.kdv_tup rest)).push (HandSPX.excO C hp.objs.size)).get? b = some o := fun b o e => Heap.get?_push_of_some _ (Heap.get?_push_of_some _ e)
  have hget : ((hp.push (PySem.W.kdv_tup rest)).push (HandSPX.excO C hp.objs.size)).get? (hp.objs.size + 1) = some (HandSPX.excO C hp.objs.size) := by heap_get
  have I2 : Inv X pins σ (upd H (hp.objs.size + 1) (exo (hp.objs.size + 1) C none)) ⟨(hp.push (PySem.W.kdv_tup rest)).push (HandSPX.excO C hp.objs.size), g, dr, tk, os⟩ :=
    I1.laid (t' := tk) (a := hp.objs.size + 1) (o := exo (hp.objs.size + 1) C none) (h' := (hp.push (PySem.W.kdv_tup rest)).push (HandSPX.excO C hp.objs.size)) kk hsz (exo_ok hget)
  have F1 := init_ok (w := X.w) (base := X.base) (CX := fun _ _ _ _ _ _ => False) T
  have r2 : Vals [V.ref (hp.objs.size + 1), v] [Value.ref (hp.objs.size + 1), u] := .cons rfl (.cons rv .nil)
  refine codeAny_mono (F1.run _ X.stack _ _ ⟨Value.ref (hp.objs.size + 1) :: rest, kw⟩ [Value.ref (hp.objs.size + 1), u] [V.ref (hp.objs.size + 1), v] (fun x H2 => x = .non ∧ Q (.ref (hp.objs.size + 1)) H2) (fun _ _ _ => False) (hr.make C rest kw) (I2.env0.make C rest kw) (hb _ _ I2.kIn) r2 ⟨_, _, rfl, upd_same, fun dx hdx ne => ⟨rfl, ?_⟩⟩) fun r s' hq' => ?_
  · rw [mkE_eq ne]
    exact h _ dx hn (by rw [upd_ne ne] at hdx; exact hdx) ne
  · cases r with
    | error er => exact False.elim hq'
    | ok fl =>
      cases fl with
      | ret u2 =>
        obtain ⟨z, H2, os2, bare2, un2, hok2, rz, ez, q2⟩ := hq'
        subst ez
        refine ⟨rz, hR _ _ ⟨.ref (hp.objs.size + 1), H2, ?_, rfl, q2⟩⟩
        exact I1.call' (ch := []) os2 ((Un.laid kk hsz hn).trans un2) hok2 bare2 (fun b z => absurd z (by simp))
      | next => exact False.elim hq'
      | brk => exact False.elim hq'
      | cont => exact False.elim hq'
/-! ### how the arguments bind -/
theorem init_bind1 {P : Program} {K : PySem.W.Frag} {mg : Str → Option Value} (T : InitTxt P K mg C fI fd qual) (s : Shared) (a : Addr) (X : K.In s.heap) : BindsTo s fd ⟨[.ref a, u], []⟩ [("self", .ref a), ("value", u)] := by
  obtain ⟨oc, od, osl, dV, kV, doc, pm, an, cda, ct, cc, p1, p2, p3, q1, q2, q3, q4, q5, r1, r2, r3, r4, rfl, _, _, _, _, _, D, oT, nT, rfl, lT, dT⟩ := T.fn
  refine BindsTo.of_looks fun M => ?_
  have key : ∃ k, bindArgs (PySem.W.ksFn "__init__" qual (iA p1 p2 p3) (iB q1 q2 q3 q4 q5 r1 r2 r3 r4) iS (.ref D) kV doc pm an (.ref cda) ct cc) ⟨[.ref a, u], []⟩ = seqItems? (.ref D) >>= k ∧ k (some #[.none]) = (pure ([("self", .ref a), ("value", u)] : List (Str × Value)) : Sem (List (Str × Value))) := ⟨_, rfl, rfl⟩
  obtain ⟨k, e1, e2⟩ := key
  rw [e1]
  exact looks_items X lT dT (.of_pure e2)
theorem init_bind0 {P : Program} {K : PySem.W.Frag} {mg : Str → Option Value} (T : InitTxt P K mg C fI fd qual) (s : Shared) (a : Addr) (X : K.In s.heap) : BindsTo s fd ⟨[.ref a], []⟩ [("self", .ref a), ("value", .none)] := by
  obtain ⟨oc, od, osl, dV, kV, doc, pm, an, cda, ct, cc, p1, p2, p3, q1, q2, q3, q4, q5, r1, r2, r3, r4, rfl, _, _, _, _, _, D, oT, nT, rfl, lT, dT⟩ := T.fn
  refine BindsTo.of_looks fun M => ?_
  have key : ∃ k, bindArgs (PySem.W.ksFn "__init__" qual (iA p1 p2 p3) (iB q1 q2 q3 q4 q5 r1 r2 r3 r4) iS (.ref D) kV doc pm an (.ref cda) ct cc) ⟨[.ref a], []⟩ = seqItems? (.ref D) >>= k ∧ k (some #[.none]) = (pure ([("self", .ref a), ("value", .none)] : List (Str × Value)) : Sem (List (Str × Value))) := ⟨_, rfl, rfl⟩
  obtain ⟨k, e1, e2⟩ := key
  rw [e1]
  exact looks_items X lT dT (.of_pure e2)
theorem init_bindK {P : Program} {K : PySem.W.Frag} {mg : Str → Option Value} (T : InitTxt P K mg C fI fd qual) (s : Shared) (a : Addr) (X : K.In s.heap) : BindsTo s fd ⟨[.ref a], [("value", u)]⟩ [("self", .ref a), ("value", u)] := by
  obtain ⟨oc, od, osl, dV, kV, doc, pm, an, cda, ct, cc, p1, p2, p3, q1, q2, q3, q4, q5, r1, r2, r3, r4, rfl, _, _, _, _, _, D, oT, nT, rfl, lT, dT⟩ := T.fn
  refine BindsTo.of_looks fun M => ?_
  have key : ∃ k, bindArgs (PySem.W.ksFn "__init__" qual (iA p1 p2 p3) (iB q1 q2 q3 q4 q5 r1 r2 r3 r4) iS (.ref D) kV doc pm an (.ref cda) ct cc) ⟨[.ref a], [("value", u)]⟩ = seqItems? (.ref D) >>= k ∧ k (some #[.none]) = (pure ([("self", .ref a), ("value", u)] : List (Str × Value)) : Sem (List (Str × Value))) := ⟨_, rfl, rfl⟩
  obtain ⟨k, e1, e2⟩ := key
  rw [e1]
  exact looks_items X lT dT (.of_pure e2)
/-- C(..) as a value: a new exception, its dict -/
def tMkV (C : Addr) (te : TE) : TE := fun σ H Q => te σ H fun v H1 => ∀ a d, H1 a = none → H1 d = none → d ≠ a → Q (.ref a) (mkE H1 a d C v)
def tMkV0 (C : Addr) : TE := fun σ H Q => ∀ a d, H a = none → H d = none → d ≠ a → Q (.ref a) (mkE H a d C .non)
theorem ib_of {x : Addr} {Q : Value → Shared → Prop} {E : Value → Shared → Prop} : True := trivial
section
variable {x : Str} {e : Expr} {te : TE} {p pos kpos : Pos}
theorem run_mkV {s : Shared} (T : InitTxt X.prog X.K X.mg C fI fd qual) (hr : Room 2 X.A) (I : Inv X pins σ H s) (rv : L2.RelV v u) (h : ∀ a d, H a = none → H d = none → d ≠ a → Q (.ref a) (mkE H a d C v)) :
    wpAny (model X.prog X.w) X.A (call (.ref C) [u]) (EP X pins σ Q) X.xe s := by
  obtain ⟨nm, q, N, bs, bm, sn, sub, ab, col, dd, k0, k1, k2, k3, k5, hC, hbm⟩ := T.oex.cls
  obtain ⟨hp, g, dr, tk, os⟩ := s
  refine wpAny_call (PySem.HandSPX.call_own F.excBase_ValueError (fun Y => PySem.HandSPX.refsVE_contains Y bm hbm) (I.kIn _ _ hC) (PySem.W.looks_findIn I.kIn T.iC) (fun self => PySem.W.bind_fn I.kIn self T.tI) (by show 1 ≤ sizeLine; rw [sizeLine_eq]; omega) ?_)
  exact mk_core T I hr rv (fun s a X => init_bind1 T s a X) h fun a s' z => z
theorem run_mkV0 {s : Shared} (T : InitTxt X.prog X.K X.mg C fI fd qual) (hr : Room 2 X.A) (I : Inv X pins σ H s) (h : ∀ a d, H a = none → H d = none → d ≠ a → Q (.ref a) (mkE H a d C .non)) :
    wpAny (model X.prog X.w) X.A (call (.ref C) []) (EP X pins σ Q) X.xe s := by
  obtain ⟨nm, q, N, bs, bm, sn, sub, ab, col, dd, k0, k1, k2, k3, k5, hC, hbm⟩ := T.oex.cls
  obtain ⟨hp, g, dr, tk, os⟩ := s
  refine wpAny_call (PySem.HandSPX.call_own F.excBase_ValueError (fun Y => PySem.HandSPX.refsVE_contains Y bm hbm) (I.kIn _ _ hC) (PySem.W.looks_findIn I.kIn T.iC) (fun self => PySem.W.bind_fn I.kIn self T.tI) (Nat.zero_le _) ?_)
  exact mk_core (u := .none) (v := .non) T I hr (show L2.RelV .non .none from rfl) (fun s a X => init_bind0 T s a X) h fun a s' z => z
theorem run_mkVK {s : Shared} (T : InitTxt X.prog X.K X.mg C fI fd qual) (hr : Room 2 X.A) (I : Inv X pins σ H s) (rv : L2.RelV v u) (h : ∀ a d, H a = none → H d = none → d ≠ a → Q (.ref a) (mkE H a d C v)) :
    wpAny (model X.prog X.w) X.A (call (.ref C) [] [("value", u)]) (EP X pins σ Q) X.xe s := by
  obtain ⟨nm, q, N, bs, bm, sn, sub, ab, col, dd, k0, k1, k2, k3, k5, hC, hbm⟩ := T.oex.cls
  obtain ⟨hp, g, dr, tk, os⟩ := s
  refine wpAny_call (Oe.call_ownK F.excBase_ValueError (fun Y => PySem.HandSPX.refsVE_contains Y bm hbm) (I.kIn _ _ hC) (PySem.W.looks_findIn I.kIn T.iC) (fun self => PySem.W.bind_fn I.kIn self T.tI) (Nat.zero_le _) ?_)
  exact mk_core T I hr rv (fun s a X => init_bindK T s a X) h fun a s' z => z
theorem pe_mkV (T : InitTxt X.prog X.K X.mg C fI fd qual) (hr : Room 2 X.A) (hm : X.mg x = some (.ref C)) (he : PE X e te) (hg : Gl X x := by rfl) (hdb : (x == ("__debug__" : Str)) = false := by decide)
    (hs : starEach [e] X.env = (false, eval e X.env) :: starEach [] X.env := by rfl) : PE X (.Call (.Name x p) [e] [] pos) (tMkV C te) := by
  refine ⟨fun pins s σ H Q I h => ?_⟩
  refine wpAny_Call_Name_kw (ld_glob I hg hm ?_ hdb)
  refine PySem.W.callWith_K (h₀ := X.base) I.ok.mod.kin T.oex.kC ?_ hs (by rfl)
  rw [hs]
  show wpAny _ _ (spliced ((false, eval e X.env) :: backTo pos (starEach [] X.env))) _ _ s
  refine Calls.spliced_cons (thn (he.run pins s σ H _ I h) fun u s1 ⟨v, H1, I1, r1, q1⟩ => ?_)
  exact Calls.spliced_nil ⟨I1.kIn, run_mkV T hr I1 r1 q1⟩
theorem pe_mkV0 (T : InitTxt X.prog X.K X.mg C fI fd qual) (hr : Room 2 X.A) (hm : X.mg x = some (.ref C)) (hg : Gl X x := by rfl) (hdb : (x == ("__debug__" : Str)) = false := by decide) : PE X (.Call (.Name x p) [] [] pos) (tMkV0 C) := by
  refine ⟨fun pins s σ H Q I h => ?_⟩
  refine wpAny_Call_Name_kw (ld_glob I hg hm ?_ hdb)
  exact PySem.W.callWith_K0 I.kIn T.oex.kC (run_mkV0 T hr I h)
theorem pe_mkVK (T : InitTxt X.prog X.K X.mg C fI fd qual) (hr : Room 2 X.A) (hm : X.mg x = some (.ref C)) (he : PE X e te) (hg : Gl X x := by rfl) (hdb : (x == ("__debug__" : Str)) = false := by decide) : PE X (.Call (.Name x p) [] [⟨some "value", e, kpos⟩] pos) (tMkV C te) := by
  refine ⟨fun pins s σ H Q I h => ?_⟩
  refine wpAny_Call_Name_kw (ld_glob I hg hm ?_ hdb)
  have hk : PK X [⟨some "value", e, kpos⟩] (tCons te tNil) := pk_cons he pk_nil
  refine PySem.W.callWith_KW0 (h₀ := X.base) I.ok.mod.kin T.oex.kC rfl (thn (hk.run pos pins s σ H _ I (show (tCons te tNil) σ H (fun vs H1 => match vs with
      | [v] => ∀ a d, H1 a = none → H1 d = none → d ≠ a → Q (.ref a) (mkE H1 a d C v)
      | _ => False) from h)) fun us s1 ⟨vs, H1, I1, r1, q1⟩ => ⟨I1.kIn, ?_⟩) rfl
  match vs, r1, q1 with
  | [v], .cons rv .nil, q1 => exact run_mkVK T hr I1 rv q1
  | [], _, q1 => exact q1.elim
  | _ :: _ :: _, _, q1 => exact q1.elim
end
end
end L2

/-! from Oe4.lean -/
set_option Elab.async false
set_option linter.all false
set_option maxRecDepth 100000
set_option maxHeartbeats 4000000
namespace L2
open PySem PySem.Spec PyProof.Rows Oe
/-! ### exceptions without an __init__ of their own -/
structure BareTxt (K : PySem.W.Frag) (C : Addr) : Prop where
  oex : OexC K C
  iB : PySem.W.findIn K (.ref C) "__init__" = some (some (.builtin "ValueError.__init__"))
section
variable {X : Cx} {pins : List (Addr × Obj)} {σ : St} {H : Hp} {s : Shared} {C : Addr} {Q : VK}
theorem run_bare (T : BareTxt X.K C) (I : Inv X pins σ H s) (h : ∀ a, H a = none → Q (.ref a) (upd H a (exo a C none))) : wpAny (model X.prog X.w) X.A (call (.ref C) []) (EP X pins σ Q) X.xe s := by
  obtain ⟨nm, q, N, bs, bm, sn, sub, ab, col, dd, k0, k1, k2, k3, k5, hC, hbm⟩ := T.oex.cls
  obtain ⟨hp, g, dr, tk, os⟩ := s
  refine PySem.W.call_B F.excBase_ValueError (fun Y => PySem.HandSPX.refsVE_contains Y bm hbm) (I.kIn _ _ hC) (PySem.W.looks_findIn I.kIn T.iB) (Nat.zero_le _) fun h' k he ht => ?_
  have hn : H (hp.objs.size + 1) = none := I.hok.fresh (Nat.le_succ _)
  exact ⟨.ref (hp.objs.size + 1), _, I.laid (t' := tk) (a := hp.objs.size + 1) (o := exo (hp.objs.size + 1) C none) k (Nat.le_succ _) (exo_ok he), rfl, h _ hn⟩
def tBare (C : Addr) : TE := fun σ H Q => ∀ a, H a = none → Q (.ref a) (upd H a (exo a C none))
theorem pe_bare {x : Str} {p pos : Pos} (T : BareTxt X.K C) (hm : X.mg x = some (.ref C)) (hg : Gl X x := by rfl) (hdb : (x == ("__debug__" : Str)) = false := by decide) : PE X (.Call (.Name x p) [] [] pos) (tBare C) := by
  refine ⟨fun pins s σ H Q I h => ?_⟩
  refine wpAny_Call_Name_kw (ld_glob I hg hm ?_ hdb)
  exact PySem.W.callWith_K0 I.kIn T.oex.kC (run_bare T I h)
end
/-! ### isinstance of a standing exception -/
/-- its dict, if it has one, stands -/
def DOk (H : Hp) (d : Option Addr) : Prop := ∀ dx, d = some dx → ∃ fs, H dx = some (exd dx fs)
theorem exo_inst {P : Program} {w : World} {H : Hp} {h : Heap} {a C : Addr} {d : Option Addr} (hok : HOk P w H h) (e : H a = some (exo a C d)) (hd : DOk H d) : ∃ ox od, PySem.W.InstAt h a ox C od := by
  obtain ⟨t1, ho⟩ := exo_at hok e
  cases d with
  | none => exact ⟨_, none, ho, rfl, rfl, trivial⟩
  | some dx =>
    obtain ⟨fs, ed⟩ := hd dx rfl
    obtain ⟨mA, ⟨o, es, ep, hdx, _⟩, _⟩ := exd_at hok ed
    exact ⟨_, some o, ho, rfl, rfl, hdx⟩
/-- isinstance(e, c), e a standing exception -/
def rIsiE (K : PySem.W.Frag) : List V → Hp → VK → Prop := fun xs H Q => ∃ (a C : Addr) (d : Option Addr) (c : V) (u : Value) (b : Bool), xs = [.ref a, c] ∧ H a = some (exo a C d) ∧ DOk H d ∧ ClsV c u ∧ ExcC K C ∧ PySem.W.kitOne K (.ref C) u = some b ∧ Q (.bl b) H
section
variable {X : Cx}
theorem call_isiE : CallR X (.builtin "isinstance") (rIsiE X.K) := by
  intro pins s σ H xs us Q I r h
  obtain ⟨a, C, d, c, u, b, rfl, ea, hd, k, T, e, q⟩ := h
  obtain ⟨u1, u2, rfl, r1, r2⟩ := vals2 r
  have e2 := k.eq r2
  subst e2
  obtain rfl : u1 = Value.ref a := r1
  obtain ⟨ox, od, J⟩ := exo_inst I.hok ea hd
  have hcl : (PySem.W.clsIn X.K C).isSome = true := by
    obtain ⟨cd, hc, _⟩ := PySem.W.any_some T.hd
    rw [hc]
    rfl
  exact PySem.W.kia_one (PySem.W.kitx_exc (od := od) (ox := ox) hcl T.hg T.hk T.hs T.ha T.hn T.ht T.hm) I.kIn J e (fun z => nomatch z) fun tk => ⟨.bl b, H, I.tok tk, rfl, q⟩
/-- e.value of a standing exception -/
def tVal (K : PySem.W.Frag) (f : Str) (te : TE) : TE := fun σ H Q => te σ H fun x H1 => ∃ (a C dx : Addr) (fs : List (Str × V)) (v : V), x = .ref a ∧ XfC K C ∧ PySem.W.findIn K (.ref C) f = some none ∧ H1 a = some (exo a C (some dx)) ∧ H1 dx = some (exd dx fs) ∧ fs.lookup f = some v ∧ Q v H1
theorem pe_val {e : Expr} {te : TE} {pos : Pos} {n : Str} (he : PE X e te) (hb : attributeBase e n X.env (eval e X.env) = eval e X.env := by rfl) : PE X (.Attribute e n pos) (tVal X.K n te) := by
  refine ⟨fun pins s σ H Q I h => ?_⟩
  refine attr_of hb (thn (he.run pins s σ H _ I h) fun u s1 hh => ?_)
  obtain ⟨x, H1, I1, rx, a, C, dx, fs, v, ex, T, hno, ea, ed, l, q⟩ := hh
  subst ex
  obtain rfl : u = Value.ref a := rx
  obtain ⟨t1, ho⟩ := exo_at I1.hok ea
  obtain ⟨mA, hns, hr⟩ := exd_at I1.hok ed
  obtain ⟨od, hod, hl⟩ := lookIn_ns hns
  obtain ⟨u, hu, ru⟩ := RelO.some_of (v := v) (o := mA n) (by rw [← l]; exact hr n)
  have J : PySem.W.InstAt s1.heap a _ C (some od) := ⟨ho, rfl, rfl, hod⟩
  exact HandSPX.exc_get I1.kIn J T.ga T.gg T.exC (PySem.W.findObj_own T.hdC hno rfl (by rw [hl, hu])) (handed_of ru) ⟨v, H1, I1.tok _, ru, q⟩
end
end L2

/-! from Oe5.lean -/
set_option Elab.async false
set_option linter.all false
set_option maxRecDepth 100000
set_option maxHeartbeats 4000000
namespace L2
open PySem PySem.Spec PyProof.Rows Oe
/-! ### data read off the abstract heap, dicts too -/
def kD : Key → PyData
  | .inl i => .int i
  | .inr x => .str x
mutual
inductive Dr (H : Hp) : V → PyData → Prop
  | non : Dr H .non .none
  | bl (b : Bool) : Dr H (.bl b) (.bool b)
  | int (i : Int) : Dr H (.int i) (.int i)
  | str (x : Str) : Dr H (.str x) (.str x)
  | lst {a : Addr} {xs : List V} {ds : List PyData} : H a = some (.lst xs) → DrAll H xs ds → Dr H (.ref a) (.list ds)
  | tup {a : Addr} {xs : List V} {ds : List PyData} : H a = some (.tup xs) → DrAll H xs ds → Dr H (.ref a) (.tuple ds)
  | dct {a : Addr} {kvs : List (Key × V)} {ds : List PyData} : H a = some (.dK kvs) → DrAll H (kvs.map (·.2)) ds → Dr H (.ref a) (.dict ((kvs.map fun p => kD p.1).zip ds))
inductive DrAll (H : Hp) : List V → List PyData → Prop
  | nil : DrAll H [] []
  | cons {v : V} {vs : List V} {d : PyData} {ds : List PyData} : Dr H v d → DrAll H vs ds → DrAll H (v :: vs) (d :: ds)
end
theorem DrAll.len {H : Hp} : ∀ {vs : List V} {ds : List PyData}, DrAll H vs ds → vs.length = ds.length
  | [], _, h => by cases h; rfl
  | _ :: _, _, h => by
    cases h with
    | cons _ t => exact congrArg Nat.succ t.len
section
variable {X : Cx} {pins : List (Addr × Obj)} {σ : St} {H : Hp} {s : Shared}
/-- keys of a dict with int and text keys -/
theorem reads_keys {h : Heap} {P : Program} {w : World} {es : List DictEntry} {vs : List (Key × Value)} (p : PySem.Pairs (mixKind P w) es vs) : ReadsAll h (es.map (·.key)) (vs.map fun p => kD p.1) [] := by
  induction p with
  | nil => exact ReadsAll.nil
  | @cons e kv es kvs h1 h2 _ ih =>
    have z : ∃ k, kv.1 = k := ⟨_, rfl⟩
    obtain ⟨k, hk⟩ := z
    rw [hk] at h1
    have r : Reads h e.key (kD kv.1) [] := by
      rw [hk]
      rcases keyIs_shape (show keyIs k e.key = true from h1) with ⟨i, t, rfl, q⟩ | ⟨x, t, rfl, q⟩
      · rw [q]
        exact Reads.int i t
      · rw [q]
        exact Reads.str x t
    exact ReadsAll.cons (as := []) (bs := []) r ih
theorem kv_vals : ∀ {kvs : List (Key × V)} {vs : List (Key × Value)}, KV kvs vs → Vals (kvs.map (·.2)) (vs.map (·.2)) ∧ kvs.map (·.1) = vs.map (·.1)
  | [], _, h => by cases h; exact ⟨.nil, rfl⟩
  | p :: ps, _, h => by
    cases h with
    | cons r t =>
      obtain ⟨a, b⟩ := kv_vals t
      exact ⟨.cons r.2 a, by simp only [List.map_cons]; rw [b, r.1]⟩
theorem pairs_vals {P : Program} {w : World} {es : List DictEntry} {vs : List (Key × Value)} (p : PySem.Pairs (mixKind P w) es vs) : es.map (·.val) = vs.map (·.2) := by
  induction p with
  | nil => rfl
  | cons _ h2 _ ih => simp only [List.map_cons]; rw [h2, ih]
theorem zip_fst : ∀ {α β : Type} {as : List α} {bs : List β}, as.length = bs.length → (as.zip bs).map (·.1) = as
  | _, _, [], _, _ => rfl
  | _, _, a :: as, b :: bs, h => by simp only [List.zip_cons_cons, List.map_cons]; rw [zip_fst (Nat.succ.inj h)]
  | _, _, _ :: _, [], h => by cases h
theorem zip_snd : ∀ {α β : Type} {as : List α} {bs : List β}, as.length = bs.length → (as.zip bs).map (·.2) = bs
  | _, _, [], [], _ => rfl
  | _, _, [], _ :: _, h => by cases h
  | _, _, a :: as, b :: bs, h => by simp only [List.zip_cons_cons, List.map_cons]; rw [zip_snd (Nat.succ.inj h)]
  | _, _, _ :: _, [], h => by cases h
/-- tracked data as the library reads it; nothing tracked is sys.modules -/
theorem Dr.reads {P : Program} {w : World} {h : Heap} (ok : HOk P w H h) (hs : H sysModules = none) {v : V} {d : PyData} (x : Dr H v d) : ∀ u, RelV v u → ∃ as, Reads h u d as ∧ sysModules ∉ as := by
  have ne : ∀ {a : Addr} {o : HO}, H a = some o → sysModules ≠ a := fun e z => by
    rw [← z, hs] at e
    cases e
  refine Dr.rec (H := H) (motive_1 := fun v d _ => ∀ u, RelV v u → ∃ as, Reads h u d as ∧ sysModules ∉ as) (motive_2 := fun vs ds _ => ∀ us, Vals vs us → ∃ as, ReadsAll h us ds as ∧ sysModules ∉ as) ?_ ?_ ?_ ?_ ?_ ?_ ?_ ?_ ?_ x
  · intro u r
    cases (show u = Value.none from r)
    exact ⟨[], Reads.none, fun z => nomatch z⟩
  · intro b u r
    cases (show u = Value.bool b from r)
    exact ⟨[], Reads.bool b, fun z => nomatch z⟩
  · intro i u r
    obtain ⟨t, rfl⟩ := (show ∃ t, u = Value.int i t from r)
    exact ⟨[], Reads.int i t, fun z => nomatch z⟩
  · intro i u r
    obtain ⟨t, rfl⟩ := (show ∃ t, u = Value.str i t from r)
    exact ⟨[], Reads.str i t, fun z => nomatch z⟩
  · intro a xs ds e _ ih u r
    cases (show u = Value.ref a from r)
    obtain ⟨_, its, n, rv, e1⟩ := (show ObjOk P w H h a (.lst xs) from ok a _ e)
    obtain ⟨as, q, nq⟩ := ih its rv
    exact ⟨a :: as, Reads.list e1 rfl rfl (by simpa using q), fun z => (List.mem_cons.mp z).elim (ne e) nq⟩
  · intro a xs ds e _ ih u r
    cases (show u = Value.ref a from r)
    obtain ⟨_, its, rv, o, e1, e2, n, e3⟩ := (show ObjOk P w H h a (.tup xs) from ok a _ e)
    obtain ⟨as, q, nq⟩ := ih its rv
    exact ⟨as, Reads.tuple e1 e2 e3 (by simpa using q), nq⟩
  · intro a kvs ds e hd ih u r
    cases (show u = Value.ref a from r)
    obtain ⟨_, _, vs, rv, o, es, ep, e1, e2, e3, _, e5, _⟩ := (show ObjOk P w H h a (.dK kvs) from ok a _ e)
    obtain ⟨r1, r2⟩ := kv_vals rv
    obtain ⟨as, q, nq⟩ := ih _ r1
    have hl : (kvs.map fun p => kD p.1).length = ds.length := by rw [← hd.len, List.length_map, List.length_map]
    have k1 : (vs.map fun p => kD p.1) = kvs.map fun p => kD p.1 := by
      have z := congrArg (List.map kD) r2
      rw [List.map_map, List.map_map] at z
      exact z.symm
    refine ⟨a :: [] ++ as, Reads.dict e1 e2.1 e3 (as := []) (bs := as) ?_ ?_, fun z => (List.mem_cons.mp z).elim (ne e) nq⟩
    · rw [zip_fst hl, ← k1]
      exact reads_keys e5
    · rw [zip_snd hl, pairs_vals e5]
      exact q
  · intro us r
    cases r
    exact ⟨[], ReadsAll.nil, fun z => nomatch z⟩
  · intro v vs d ds _ _ ih1 ih2 us r
    cases r with
    | cons r1 r2 =>
      obtain ⟨as, q1, n1⟩ := ih1 _ r1
      obtain ⟨bs, q2, n2⟩ := ih2 _ r2
      exact ⟨as ++ bs, ReadsAll.cons q1 q2, fun z => (List.mem_append.mp z).elim n1 n2⟩
end
end L2

/-! from Oe6.lean -/
set_option Elab.async false
set_option linter.all false
set_option maxRecDepth 100000
set_option maxHeartbeats 4000000
namespace L2
open PySem PySem.Spec PyProof.Rows Oe
/-! ### repr of data, where no repr is under way -/
def rRepr : List V → Hp → VK → Prop := fun xs H Q => ∃ (x : V) (d : PyData), xs = [x] ∧ Dr H x d ∧ d.showable = true ∧ d.depth ≤ 60 ∧ d.shown.length ≤ sizeLine ∧ Q (.str d.shown) H
section
variable {X : Cx}
theorem call_repr (hg : X.A.guards = some []) (hu : X.A.units + 64 < cLine) (hs : ∃ o, X.K.lookup sysModules = some o) : CallR X (.builtin "repr") rRepr := by
  intro pins s σ H xs us Q I r h
  obtain ⟨x, d, rfl, hd, h1, h2, h3, q⟩ := h
  obtain ⟨o, ho⟩ := hs
  have hsn : H sysModules = none := (I.bs _ _ (I.ok.mod.kin _ _ ho)).2
  match us, r with
  | [u], .cons ru .nil =>
    cases hd with
    | non =>
      cases (show u = Value.none from ru)
      exact PySem.P.repr_of_none ⟨.str "None", H, I.tok _, ⟨_, rfl⟩, q⟩
    | bl b =>
      cases (show u = Value.bool b from ru)
      exact PySem.P.repr_of_bool ⟨.str (if b then "True" else "False"), H, I.tok _, ⟨_, rfl⟩, q⟩
    | int i =>
      obtain ⟨t, rfl⟩ := (show ∃ t, u = Value.int i t from ru)
      exact PySem.P.repr_of_int (of_decide_eq_true h1) ⟨.str (toString i), H, I.tok _, ⟨_, rfl⟩, q⟩
    | str z =>
      obtain ⟨t, rfl⟩ := (show ∃ t, u = Value.str z t from ru)
      exact PySem.P.repr_of_str ⟨.str (reprText z), H, I.tok _, ⟨_, rfl⟩, q⟩ h3
    | lst e a =>
      cases (show u = Value.ref _ from ru)
      obtain ⟨as, R, n⟩ := (Dr.lst e a).reads I.hok hsn _ rfl
      exact repr_of_reads' R h1 (fun _ => n) hg (by omega) (fun _ _ z => z) (fun h' u tk k => ⟨.str _, H, I.kept (t' := tk) k, ⟨_, rfl⟩, q⟩) h3
    | tup e a =>
      cases (show u = Value.ref _ from ru)
      obtain ⟨as, R, n⟩ := (Dr.tup e a).reads I.hok hsn _ rfl
      exact repr_of_reads' R h1 (fun _ => n) hg (by omega) (fun _ _ z => z) (fun h' u tk k => ⟨.str _, H, I.kept (t' := tk) k, ⟨_, rfl⟩, q⟩) h3
    | dct e a =>
      cases (show u = Value.ref _ from ru)
      obtain ⟨as, R, n⟩ := (Dr.dct e a).reads I.hok hsn _ rfl
      exact repr_of_reads' R h1 (fun _ => n) hg (by omega) (fun _ _ z => z) (fun h' u tk k => ⟨.str _, H, I.kept (t' := tk) k, ⟨_, rfl⟩, q⟩) h3
end
/-! ### defs that are run where no repr is under way -/
structure FnOkG (P : Program) (w : World) (K : PySem.W.Frag) (mg : Str → Option Value) (base : Heap) (k : Nat) (f : Addr) (fd : FuncData) (ps : List Str) (sp : Sp) : Prop where
  len : ∀ vs H Q E, sp vs H Q E → vs.length = ps.length
  run : ∀ (A : Around) (outer : List Env) (s : Shared) (H : Hp) (args : Args) (us : List Value) (vs : List V) (Q : VK) (E : XK), A.guards = some [] → Room k A → Env0 P w K mg base A outer s H → BindsTo s fd args (ps.zip us) → Vals vs us → sp vs H Q E →
    codeAny (model P w) A (.call (.ref f) args) (CR CX0 outer P w H s Q E) s
section
variable {P : Program} {w : World} {K : PySem.W.Frag} {mg : Str → Option Value} {base : Heap} {x qual : Str} {params : Arguments} {body : List Stmt} {scope : Scope} {dvs : List V} {kws : List (Str × V)} {f : Addr} {fd : FuncData}
theorem guards_deeper {A : Around} {env : Env} (h : A.guards = some []) : (A.deeper env).guards = some [] := by
  first
    | exact h
    | (unfold Around.deeper; simpa using h)
    | simpa [Around.deeper] using h
theorem FunD.okG {N ps : List Str} {k : Nat} {sp : Sp} (F : FunD K x qual params body scope dvs kws f fd) (S : FnScope N ps scope) (len : ∀ vs H Q E, sp vs H Q E → vs.length = ps.length)
    (hbody : ∀ (cdv : Value) (A : Around) (outer : List Env) (s : Shared) (H : Hp) (vs : List V) (Q : VK) (E : XK), (A.deeper (envOfC qual scope s.heap.objs.size f cdv)).guards = some [] → Room k (A.deeper (envOfC qual scope s.heap.objs.size f cdv)) → sp vs H Q E →
      ∃ t, PSs (cxOf CX0 P w K mg base N qual scope f cdv A outer s H E).nox body t ∧ t { nx := fun _ H' => Q .non H', rt := Q } (start N vs) H) : FnOkG P w K mg base (k + 1) f fd ps sp := by
  obtain ⟨oc, od, dV, kV, doc, pm, an, cdv, ct, osl, rfl, lk, hcd, _, _⟩ := F.ex
  refine ⟨len, fun A outer s H args us vs Q E hg hr e0 hb r hsp => ?_⟩
  -- the promise, told of this very call alone
  have hl := len _ _ _ _ hsp
  have KX : K.In s.heap := e0.mod.kin.keeps fun b o e => (e0.bs b o e).1
  have lim : s.heap.NoLimit := e0.mod.nolimit.keeps fun b o e => (e0.bs b o e).1
  refine codeAny_call_function hr.depth (KX _ _ lk) rfl S.co S.gen rfl (PySem.W.codeRec_of KX hcd) (hb _ _ _ _ ?_)
  refine wpAny_newFunctionEnv_cells S.kind (fun ⟨n, v⟩ hy => ?_) fun env he s1 y => ?_
  · rcases S.par n (List.of_mem_zip hy).1 with q | q
    · exact .inl q
    · exact .inr ⟨q, PySem.W.cellsFrom_some _ _ _ (.inl q)⟩
  subst he
  refine ⟨lim.keeps y.toInCall.keep, codeAny_func ?_⟩
  obtain ⟨t, ht, hq⟩ := hbody cdv A outer s H vs Q E (guards_deeper hg) (hr.deeper _) hsp
  refine wpAny_mono (ht.nox.run [] s1 (start N vs) H _ (inv_start S hr.hd e0 hl r y) hq) (fun fl s' hs => ?_) fun e s' hs => hs
  cases fl with
  | ret u =>
    obtain ⟨v, σ', H', J, rv, q⟩ := hs
    exact ⟨v, H', J.os, J.bare, J.base, J.hok, rv, q⟩
  | next =>
    obtain ⟨σ', H', J, q⟩ := hs
    exact ⟨V.non, H', J.os, J.bare, J.base, J.hok, rfl, q⟩
  | brk =>
    obtain ⟨_, _, _, q⟩ := hs
    exact False.elim q
  | cont =>
    obtain ⟨_, _, _, q⟩ := hs
    exact False.elim q
end
section
variable {X : Cx} {k : Nat} {f : Addr} {fd : FuncData} {ps : List Str} {sp : Sp} {x : Str} {p pos : Pos} {e : Expr} {es : List Expr} {t : TA}
theorem pe_callG (F : FnOkG X.prog X.w X.K X.mg X.base k f fd ps sp) (hg : X.A.guards = some []) (hr : Room k X.A) (hm : X.mg x = some (.ref f)) (hk : PySem.W.keepIn X.K (.ref f) = true) (hb : Binds X.K fd ps []) (ha : PA X (e :: es) t) (hgl : Gl X x := by rfl) (hdb : (x == ("__debug__" : Str)) = false := by decide)
    (he : starEach (e :: es) X.env = (false, eval e X.env) :: starEach es X.env := by rfl) (hpl : (backTo pos (starEach es X.env)).any (·.1) = false := by rfl) : PE X (.Call (.Name x p) (e :: es) [] pos) (tCall sp [] E0 t) := by
  refine ⟨fun pins s σ H Q I h => ?_⟩
  refine wpAny_Call_Name_kw (ld_glob I hgl hm ?_ hdb)
  refine PySem.W.callWith_K (h₀ := X.base) I.ok.mod.kin hk (thn (ha.run pos pins s σ H _ I h) fun us s1 ⟨vs, H1, I1, r, q⟩ => ⟨I1.kIn, ?_⟩) he hpl
  show wpAny _ _ (call (.ref f) us) _ _ _
  have q : sp (vs ++ []) H1 Q E0 := q
  rw [List.append_nil] at q
  have hl : us.length = ps.length := by rw [← r.length]; exact F.len _ _ _ _ q
  have b := hb s1 us I1.kIn (by rw [List.append_nil]; exact hl)
  rw [List.append_nil] at b
  refine wpAny_call (codeAny_mono (F.run X.A X.stack s1 H1 ⟨us, []⟩ us vs Q E0 hg hr I1.env0 b r q) fun z s' hq => ?_)
  cases z with
  | error er => exact False.elim hq
  | ok fl =>
    cases fl with
    | ret u => exact I1.after hq
    | next => exact False.elim hq
    | brk => exact False.elim hq
    | cont => exact False.elim hq
end
end L2

/-! from Oe7.lean -/
set_option Elab.async false
set_option linter.all false
set_option maxRecDepth 100000
set_option maxHeartbeats 4000000
namespace L2
open PySem PySem.Spec PyProof.Rows Oe
/-! ### the end of a law row, the law's def run where no repr is under way -/
section
variable {P : Program} {w : World} {K : PySem.W.Frag} {mg mb : Str → Option Value} {k : Nat} {fa a : Addr} {fd : FuncData} {x : Str} {sp : Sp} {s₁ : Shared} {vs : List Value} {ns : List Int} {H : Hp}
/-- the base: what stands but is not tracked -/
theorem hid_mod (KX : K.In s₁.heap) (hns : s₁.heap.Ns mainGlobals mg) (hb : s₁.heap.Ns builtinsNs mb) (hbb : ∀ x : Str, x ≠ "__name__" → mb x = bootBuiltins x) (hlim : s₁.heap.NoLimit)
    (hd : ∀ {b : Addr} {o : Obj} {es : Array DictEntry} {ep : Nat}, s₁.heap.get? b = some o → o.data = .dict es ep → H b = none) (hK : ∀ {b : Addr} {o : Obj}, K.lookup b = some o → H b = none) : Mod K mg (hidT s₁.heap H) := by
  have nsK : ∀ {b : Addr} {m : Str → Option Value}, s₁.heap.Ns b m → (hidT s₁.heap H).Ns b m := fun {b m} ⟨o, es, ep, e, d, r⟩ => ⟨o, es, ep, hidT_get e (hd e d), d, r⟩
  obtain ⟨mc, h1, h2⟩ := hlim
  exact ⟨fun b o e => hidT_get (KX b o e) (hK e), nsK hns, ⟨mb, nsK hb, hbb⟩, mc, nsK h1, h2⟩
theorem law_coreG (hM : Mod K mg (hidT s₁.heap H)) (hg : s₁.gens = #[]) (hok : HOk P w H s₁.heap) (hO : Only H) (hr : Room k callerA) (F : FnOkG P w K mg (hidT s₁.heap H) k fa fd [x] sp)
    (hbind : BindsTo s₁ fd ⟨[.ref a], []⟩ [(x, .ref a)]) (hsp : sp [.ref a] H (fun v _ => v = .bl true) E0) :
    codeAny (model P w) callerA (.call (.ref fa) ⟨[.ref a], []⟩) (fun r s' => r = .ok (.ret (.bool true)) ∧ OldK s₁.heap s'.heap ∧ s'.os = s₁.os ∧ AllBare s'.gens) s₁ := by
  have no : ∀ b : Addr, b ∉ ([] : List Addr) := fun b z => nomatch z
  have e0 : Env0 P w K mg (hidT s₁.heap H) callerA [] s₁ H := ⟨rfl, hM, fun b o e => of_hidT e, Nat.le_of_eq (hidT_size _ _), trivial, fun b hb => (no b hb).elim, hok, .of_eq hg⟩
  refine codeAny_mono (F.run callerA [] s₁ H ⟨[.ref a], []⟩ [.ref a] [.ref a] _ _ rfl hr e0 hbind (.cons rfl .nil) hsp) fun r s' h => ?_
  match r, h with
  | .ok (.ret u), h =>
    obtain ⟨v, H', os, bare, un, hok', r', q⟩ := h
    have q' : v = .bl true := q
    subst q'
    have hu : u = Value.bool true := r'
    subst hu
    refine ⟨rfl, OldK.of_keep fun b o e => ?_, os, bare⟩
    rcases hO b with z | ⟨ob, xs, z⟩
    · exact un.keep b o e z (no b) (no b)
    · have e1 := (hok b _ z).1
      have e2 := (hok' b _ (un.frzs b ob _ z)).1
      exact e2.trans (e1.symm.trans e)
  | .ok .next, h => exact False.elim h
  | .ok .brk, h => exact False.elim h
  | .ok .cont, h => exact False.elim h
  | .error e, h => exact False.elim h
theorem law_callG (KX : K.In s₁.heap) (hns : s₁.heap.Ns mainGlobals mg) (hb : s₁.heap.Ns builtinsNs mb) (hbb : ∀ x : Str, x ≠ "__name__" → mb x = bootBuiltins x) (hlim : s₁.heap.NoLimit) (hg : s₁.gens = #[])
    (ha : s₁.heap.get? a = some { cls := .type "list", data := .seq vs.toArray }) (hi : IntsAre vs ns) (hl : ns.length ≤ sizeLine) (hr : Room k callerA)
    (F : ∀ base : Heap, K.In base → base.Ns mainGlobals mg → FnOkG P w K mg base k fa fd [x] sp) (hbind : ∀ (s : Shared) (u : Value), BindsTo s fd ⟨[u], []⟩ [(x, u)])
    (hsp : ∀ H : Hp, Only H → SqL K H a (ns.map V.int) → sp [.ref a] H (fun v _ => v = .bl true) E0) :
    codeAny (model P w) callerA (.call (.ref fa) ⟨[.ref a], []⟩) (fun r s' => r = .ok (.ret (.bool true)) ∧ OldK s₁.heap s'.heap ∧ s'.os = s₁.os ∧ AllBare s'.gens) s₁ := by
  have rv := vals_ints hi
  cases hk : K.lookup a with
  | some o =>
    have e := KX a o hk
    rw [ha] at e
    cases e
    have hO : Only fun _ => none := fun _ => .inl rfl
    have hM : Mod K mg (hidT s₁.heap fun _ => none) := hid_mod KX hns hb hbb hlim (fun _ _ => rfl) fun _ => rfl
    exact law_coreG hM hg (fun b u z => nomatch (show (none : Option HO) = some u from z)) hO hr (F _ hM.kin hM.glob) (hbind _ _) (hsp _ hO (.inr ⟨_, vs.toArray, _, hk, rfl, rfl, rfl, by rw [List.size_toArray, hi.length]; exact hl, by simpa using rv⟩))
  | none =>
    have hA : ∀ {b : Addr}, b ≠ a → (fun c : Addr => if c = a then some (HO.frz { cls := .type "list", data := .seq vs.toArray } (.lst (ns.map V.int))) else none) b = none := fun h => if_neg h
    have hO : Only fun b => if b = a then some (.frz { cls := .type "list", data := .seq vs.toArray } (.lst (ns.map V.int))) else none := fun b => by
      by_cases hb : b = a
      · exact .inr ⟨_, _, if_pos hb⟩
      · exact .inl (if_neg hb)
    have hM : Mod K mg (hidT s₁.heap fun b => if b = a then some (.frz { cls := .type "list", data := .seq vs.toArray } (.lst (ns.map V.int))) else none) := hid_mod KX hns hb hbb hlim (fun {b o es ep} e d => hA fun z => by
      rw [z, ha] at e
      cases e
      cases (show Data.seq vs.toArray _ = Data.dict es ep from d)) fun {b o} e => hA fun z => by
      rw [z, hk] at e
      cases e
    refine law_coreG hM hg (fun b u z => ?_) hO hr (F _ hM.kin hM.glob) (hbind _ _) (hsp _ hO (.inl (.inr ⟨{ cls := .type "list", data := .seq vs.toArray }, if_pos rfl⟩)))
    by_cases hb : b = a
    · subst hb
      have z' := (if_pos rfl).symm.trans z
      cases z'
      exact ⟨ha, by rw [List.length_map]; exact hl, vs, _, rv, ha⟩
    · have z' := (hA hb).symm.trans z
      cases z'
end
theorem walk_ofEG {l : PySem.W.OpenLaw} {n k : Nat} {q : Program} {loose : List Str} {XP : (Str → Option Value) → Heap → Prop} {YP : World → Heap → Prop} {d : DefRec} {x : Str}
    (hn : l.most = some n) (hn2 : n ≤ sizeLine) (hdf : d.params.defaults = []) (hr : Room k callerA)
    (F : ∀ (w : World) (mg : Str → Option Value) (fa : Addr) (h : Heap), YP w h → h.Ns mainGlobals mg → mg d.name = some (.ref fa) →
      ∃ (K : PySem.W.Frag) (fd : FuncData) (sp : Sp), K.In h ∧ (∀ (s : Shared) (u : Value), BindsTo s fd ⟨[u], []⟩ [(x, u)]) ∧
        (∀ (H : Hp) (a : Addr) (ns : List Int), ns.length ≤ n → Only H → SqL K H a (ns.map V.int) → sp [.ref a] H (fun v _ => v = .bl true) E0) ∧
        ∀ base : Heap, K.In base → base.Ns mainGlobals mg → FnOkG l.prog w K mg base k fa fd [x] sp) :
    PySem.W.WalkO q loose XP YP l.row.toRowW d [] (fun f vs => PySem.call f vs) := by
  refine Att.attach_call hn hdf fun w s₀ s₁ mg mb fa o pm cd doc a vs ns G Y ho hd hcd hmg hobj hints hlen hg => ?_
  obtain ⟨K, fd, sp, KX, hb, hsp, hF⟩ := F w mg fa _ Y G.T.g hmg
  exact law_callG KX G.T.g G.T.b G.T.builtins G.T.nolimit hg hobj hints (Nat.le_trans hlen hn2) hr hF hb fun H hO hS => hsp H a ns hlen hO hS
end L2

/-! from Lh.lean -/
set_option Elab.async false
set_option linter.all false
set_option maxRecDepth 100000
set_option maxHeartbeats 4000000
namespace Law
open PySem PySem.Spec PyProof.Rows L2
/-! ### the text by places -/
def top (i : Nat) : Stmt := PySem.Challenge.pw_oddlamps_k01_errors_made.main.body.getD i (.Pass ⟨0, 0, 0, 0⟩)
abbrev FnP (K : PySem.W.Frag) (x : Str) (st : Stmt) (f : Addr) (fd : FuncData) : Prop := FunD K x x (defArgs st) (defBody st) (defScope st) [] [] f fd
abbrev sPurse : Stmt := top 32
abbrev sMixed : Stmt := top 33
abbrev sDraw : Stmt := top 34
abbrev sPurses : Stmt := top 35
abbrev sOneOf : Stmt := top 36
abbrev sWord : Stmt := top 37
/-! ### numbers -/
def CPowW (i j : Int) : Prop := 0 ≤ j ∧ (Builtin.Int.intBits i : Int) * j ≤ 2 ^ 27
theorem op_powW {X : Cx} : OpR X (binaryOp .Pow) (rI CPowW fun i j => .int (i ^ j.toNat)) := opI fun _ _ _ _ _ _ _ hc q => pow_int hc.1 hc.2 q
/-! ### mixed(seed, spin, at): some number -/
def spMixed : Sp := fun vs H Q _ => ∃ (a b c : Int), vs = [.int a, .int b, .int c] ∧ 0 ≤ b ∧ b < 2 ^ 40 ∧ ∀ r : Int, 0 ≤ r → r < 2147483587 → Q (.int r) H
section
variable {P : Program} {w : World} {K : PySem.W.Frag} {mg : Str → Option Value} {base : Heap} {f : Addr} {fd : FuncData}
theorem scMixed : FnScope ["_law_seed", "_law_spin", "_law_at", "_law_mixed_here"] ["_law_seed", "_law_spin", "_law_at"] (defScope sMixed) := ⟨rfl, rfl, rfl, by decide +kernel, rfl, by decide +kernel, by decide +kernel⟩
theorem ok_mixed (F : FnP K "_law_mixed" sMixed f fd) (gI : mg "int" = none) : FnOk P w K mg base CX0 1 f fd ["_law_seed", "_law_spin", "_law_at"] spMixed := by
  refine F.ok scMixed (fun vs H Q E h => ?_) (fun cdv A outer s H vs Q E hr h => ?_)
  · obtain ⟨a, b, c, rfl, _⟩ := h
    rfl
  · obtain ⟨a, b, c, rfl, h0, h1, k⟩ := h
    refine ⟨_, PSs.nox (pss_cons (ps_set (i := 3) scMixed.nd rfl (Or.inl rfl) (pe_op op_add (pe_op op_mul (pv 0) pe_int) (pe_op op_mul (pe_op op_mul pe_int (pv 1)) (pv 1))))
      (pss_cons (ps_set (i := 3) scMixed.nd rfl (Or.inl rfl) (pe_op op_mod (pe_callTy call_int1 (by rfl) gI (by decide +kernel) (pa_cons (pe_op op_add (pe_op op_add (pv 3) (pe_op op_mul pe_int (pv 2))) (pv 1)) pa_nil)) pe_int))
      (pss_cons (ps_set (i := 3) scMixed.nd rfl (Or.inl rfl) (pe_op op_mod (pe_callTy call_int1 (by rfl) gI (by decide +kernel) (pa_cons (pe_op op_add (pe_op op_mul (pv 3) (pv 3)) pe_int) pa_nil)) pe_int))
      (pss_one (ps_ret (pe_op op_mod (pe_callTy call_int1 (by rfl) gI (by decide +kernel) (pa_cons (pe_op op_mul (pv 3) pe_int) pa_nil)) pe_int)))))), ?_⟩
    refine ⟨_, rfl, _, _, rfl, rfl, .inr ⟨by decide, by decide⟩, ?_⟩
    refine ⟨_, rfl, _, _, rfl, rfl, .inl ⟨by decide, by decide⟩, _, rfl, _, _, rfl, rfl, .inr ⟨by omega, by omega⟩, ?_⟩
    refine ⟨_, _, rfl, rfl, ?_⟩
    refine ⟨_, rfl, _, rfl, _, _, rfl, rfl, .inl ⟨by decide, by decide⟩, _, _, rfl, rfl, _, rfl, _, _, rfl, rfl, .inl ⟨_, rfl, _, _, rfl, rfl, (show (0 : Int) < 2147483647 by decide), ?_⟩⟩
    generalize hx : (a * 69069 + 104729 * b * b + 7919 * c + b) % 2147483647 = x
    have x0 : 0 ≤ x := by rw [← hx]; exact Int.emod_nonneg _ (by decide)
    have x1 : x < 2147483647 := by rw [← hx]; exact Int.emod_lt_of_pos _ (by decide)
    refine ⟨_, rfl, _, rfl, _, _, rfl, rfl, .inl ⟨by omega, by omega⟩, _, _, rfl, rfl, .inl ⟨_, rfl, _, _, rfl, rfl, (show (0 : Int) < 2147483629 by decide), ?_⟩⟩
    generalize (x * x + 40503) % 2147483629 = y
    refine ⟨_, rfl, _, _, rfl, rfl, .inr ⟨by decide, by decide⟩, .inl ⟨_, rfl, _, _, rfl, rfl, (show (0 : Int) < 2147483587 by decide), ?_⟩⟩
    exact k _ (Int.emod_nonneg _ (by decide)) (Int.emod_lt_of_pos _ (by decide))
/-! ### the purse: a number's digits, a seed, how often it was asked, its place -/
def PurseAt (H : Hp) (p : Addr) (n : Nat) : Prop := ∃ a b c d : Int, H p = some (.lst [.int a, .int b, .int c, .int d]) ∧ 0 ≤ a ∧ (0 ≤ b ∧ b < 2147483648) ∧ 0 ≤ c ∧ c ≤ n
theorem PurseAt.mono {H : Hp} {p : Addr} {n m : Nat} (h : PurseAt H p n) (l : n ≤ m) : PurseAt H p m := by
  obtain ⟨a, b, c, d, e, h1, hb, h2, h3⟩ := h
  exact ⟨a, b, c, d, e, h1, hb, h2, by omega⟩
/-- all but p is as it was -/
def But (p : Addr) (H H' : Hp) : Prop := ∀ b, b ≠ p → H' b = H b
theorem But.upd {p : Addr} {H : Hp} {o : HO} : But p H (upd H p o) := fun b h => upd_ne h
theorem But.trans {p : Addr} {H H1 H2 : Hp} (a : But p H H1) (b : But p H1 H2) : But p H H2 := fun c h => (b c h).trans (a c h)
theorem But.refl {p : Addr} {H : Hp} : But p H H := fun _ _ => rfl
/-- draw(purse, many): some number below many; the purse goes on -/
def spDraw : Sp := fun vs H Q _ => ∃ (p : Addr) (m : Int) (n : Nat), vs = [.ref p, .int m] ∧ PurseAt H p n ∧ n ≤ 1000000 ∧ 1 ≤ m ∧ m < 134217728 ∧ ∀ (r : Int) (H' : Hp), 0 ≤ r → r < m → But p H H' → PurseAt H' p (n + 1) → Q (.int r) H'
theorem intBits_small {m : Int} (h1 : 1 ≤ m) (h2 : m < 134217728) : (Builtin.Int.intBits m : Nat) ≤ 27 := PySem.intBits_le_iff.mpr (by omega)
theorem scDraw : FnScope ["_law_purse_here", "_law_many", "_law_drawn", "_law_found", "_law_piece"] ["_law_purse_here", "_law_many"] (defScope sDraw) := ⟨rfl, rfl, rfl, by decide +kernel, rfl, by decide +kernel, by decide +kernel⟩
theorem ok_draw {fM : Addr} {fdM : FuncData} (F : FnP K "_law_draw" sDraw f fd) (FM : FnP K "_law_mixed" sMixed fM fdM) (gM : mg "_law_mixed" = some (.ref fM)) (gI : mg "int" = none) (gR : mg "range" = none) : FnOk P w K mg base CX0 2 f fd ["_law_purse_here", "_law_many"] spDraw := by
  have GM : FnOk P w K mg base CX0 1 fM fdM ["_law_seed", "_law_spin", "_law_at"] spMixed := ok_mixed FM gI
  have bM : Binds K fdM ["_law_seed", "_law_spin", "_law_at"] [] := FM.bindsN fun _ _ _ _ _ _ us hl => match us, hl with | [_, _, _], _ => rfl
  refine F.ok scDraw (fun vs H Q E h => ?_) (fun cdv A outer s H vs Q E hr h => ?_)
  · obtain ⟨p, m, n, rfl, _⟩ := h
    rfl
  · obtain ⟨p, m, n, rfl, ⟨a, b, c, d, hp, a0, b0, c0, c1⟩, hn, m1, m2, k⟩ := h
    refine ⟨_, PSs.nox (pss_cons (ps_if (pt_cmpR op_gt (pe_ix ix_list (pv 0) pe_int (fun _ _ => rfl)) pe_int (nomark _))
        (pss_cons (ps_set (i := 2) scDraw.nd rfl (Or.inl rfl) (pe_op op_modN (pe_callTy call_int1 (by rfl) gI (by decide +kernel) (pa_cons (pe_ix ix_list (pv 0) pe_int (fun _ _ => rfl)) pa_nil)) (pv 1)))
        (pss_cons (ps_asg (pe_op op_fdivN (pe_ix ix_list (pv 0) pe_int (fun _ _ => rfl)) (pv 1)) (pg_sub (pv 0) pe_int set_list))
        (pss_one (ps_ret (pv 2))))) pss_nil)
      (pss_cons (ps_set (i := 3) scDraw.nd rfl (Or.inl rfl) pe_int)
      (pss_cons (ps_for PassesOwn.never rfl (pi_range1 rfl gR (pa_cons (pe_op op_add pe_int (pe_op op_fdivN (pe_bits (pv 1)) pe_int)) pa_nil)) (pg_name (i := 4) scDraw.nd rfl (Or.inl rfl))
        (pss_cons (ps_asg (pe_op op_add (pe_ix ix_list (pv 0) pe_int (fun _ _ => rfl)) pe_int) (pg_sub (pv 0) pe_int set_list))
        (pss_one (ps_set (i := 3) scDraw.nd rfl (Or.inl rfl) (pe_op op_add (pe_op op_mul (pv 3) pe_int)
          (pe_call GM hr rfl gM FM.kp bM .nil pass0 (pa_cons (pe_ix ix_list (pv 0) pe_int (fun _ _ => rfl)) (pa_cons (pe_ix ix_list (pv 0) pe_int (fun _ _ => rfl)) (pa_cons (pe_ix ix_list (pv 0) pe_int (fun _ _ => rfl)) pa_nil)))))))))
      (pss_one (ps_ret (pe_op op_modN (pe_callTy call_int1 (by rfl) gI (by decide +kernel) (pa_cons (pv 3) pa_nil)) (pv 1))))))), ?_⟩
    refine ⟨_, rfl, p, _, _, _, rfl, rfl, SqL.of hp, rfl, _, _, rfl, rfl, _, rfl, ?_⟩
    refine ite2 (fun ha => ?_) (fun ha => ?_)
    · refine ⟨_, rfl, p, _, _, _, rfl, rfl, SqL.of hp, rfl, .inl ⟨_, rfl, _, rfl, _, _, rfl, rfl, (show m ≠ 0 by omega), ?_⟩⟩
      refine ⟨_, rfl, p, _, _, _, rfl, rfl, SqL.of hp, rfl, _, rfl, _, _, rfl, rfl, ⟨(show m ≠ 0 by omega), by omega⟩, ?_⟩
      refine ⟨_, rfl, p, _, _, 0, rfl, rfl, hp, rfl, ?_⟩
      refine ⟨_, rfl, ?_⟩
      have e : Int.fmod a m = a % m := Int.fmod_eq_emod_of_nonneg _ (by omega)
      show Q (.int (a.fmod m)) _
      rw [e]
      refine k _ _ (Int.emod_nonneg _ (by omega)) (Int.emod_lt_of_pos _ (by omega)) But.upd ⟨_, b, c, d, upd_same, ?_, b0, c0, by omega⟩
      rw [Int.fdiv_eq_ediv_of_nonneg _ (by omega)]
      exact Int.ediv_nonneg a0 (by omega)
    · have hb := intBits_small m1 m2
      have e1 : (1 + ((Builtin.Int.intBits m : Nat) : Int).fdiv 28) = 1 := by
        rw [Int.fdiv_eq_ediv_of_nonneg _ (by omega)]
        omega
      refine ⟨_, rfl, _, rfl, _, _, rfl, rfl, ⟨by decide, by decide⟩, _, _, rfl, rfl, ?_⟩
      refine ⟨_, rfl, (by show -(2 ^ 62) ≤ 1 + ((Builtin.Int.intBits m : Nat) : Int).fdiv 28; rw [e1]; decide), (by show 1 + ((Builtin.Int.intBits m : Nat) : Int).fdiv 28 < 2 ^ 62; rw [e1]; decide), ?_⟩
      have e2 : (1 + ((Builtin.Int.intBits m : Nat) : Int).fdiv 28).toNat = 1 := by rw [e1]; rfl
      show ∃ W : Nat → Nat → L2.St → Hp → Prop, _
      rw [e2]
      refine for_range (lo := 0) (n := 1) (fun i σ H' => ∃ (z : Int) (v : Option V), σ = [some (.ref p), some (.int m), none, some (.int z), v] ∧ But p H H' ∧ PurseAt H' p (n + i)) ⟨0, none, rfl, But.refl, a, b, c, d, hp, a0, b0, c0, c1⟩ ?_ ?_
      · rintro i σ H1 hi ⟨z, v, rfl, hbut, a, b, c, d, hp, a0, b0, c0, c1⟩
        refine ⟨_, rfl, p, _, _, _, rfl, rfl, SqL.of hp, rfl, _, _, rfl, rfl, ?_⟩
        refine ⟨_, rfl, p, _, _, 2, rfl, rfl, hp, rfl, ?_⟩
        refine ⟨_, rfl, _, _, rfl, rfl, .inr ⟨by decide, by decide⟩, ?_⟩
        refine ⟨_, rfl, p, _, _, _, rfl, rfl, SqL.of upd_same, rfl, _, rfl, p, _, _, _, rfl, rfl, SqL.of upd_same, rfl, _, rfl, p, _, _, _, rfl, rfl, SqL.of upd_same, rfl, ?_⟩
        refine ⟨b, c + 1, d, rfl, by omega, by omega, fun r r0 r1 => ⟨_, _, rfl, rfl, ?_⟩⟩
        exact ⟨_, _, rfl, hbut.trans But.upd, a, b, c + 1, d, upd_same, a0, b0, by omega, by omega⟩
      · rintro σ H1 ⟨z, v, rfl, hbut, hpu⟩
        refine ⟨_, rfl, .inl ⟨_, rfl, _, rfl, _, _, rfl, rfl, (show m ≠ 0 by omega), ?_⟩⟩
        have e : Int.fmod z m = z % m := Int.fmod_eq_emod_of_nonneg _ (by omega)
        show Q (.int (z.fmod m)) _
        rw [e]
        exact k _ _ (Int.emod_nonneg _ (by omega)) (Int.emod_lt_of_pos _ (by omega)) hbut hpu
end
end Law

/-! from Lh2.lean -/
set_option Elab.async false
set_option linter.all false
set_option maxRecDepth 100000
set_option maxHeartbeats 4000000
namespace Law
open PySem PySem.Spec PyProof.Rows L2
/-- all that is tracked stays, but what is at p -/
def Kp (p : Addr) (H H' : Hp) : Prop := ∀ b o, b ≠ p → H b = some o → H' b = some o
theorem Kp.refl {p : Addr} {H : Hp} : Kp p H H := fun _ _ _ h => h
theorem Kp.trans {p : Addr} {H H1 H2 : Hp} (a : Kp p H H1) (b : Kp p H1 H2) : Kp p H H2 := fun c o h e => b c o h (a c o h e)
theorem But.kp {p : Addr} {H H' : Hp} (h : But p H H') : Kp p H H' := fun b o e q => (h b e).trans q
theorem Kp.of {p : Addr} {H H' : Hp} (h : Ext H H') : Kp p H H' := fun b o _ q => h b o q
theorem Kp.upd {p q : Addr} {H : Hp} {o : HO} (h : H q = none) : Kp p H (upd H q o) := .of (Ext.upd h)
theorem PurseAt.ext {H H' : Hp} {p : Addr} {n : Nat} (h : PurseAt H p n) (e : Ext H H') : PurseAt H' p n := by
  obtain ⟨a, b, c, d, q, r⟩ := h
  exact ⟨a, b, c, d, e _ _ q, r⟩
theorem PurseAt.ne {H : Hp} {p q : Addr} {n : Nat} (h : PurseAt H p n) (e : H q = none) : p ≠ q := by
  obtain ⟨a, b, c, d, z, r⟩ := h
  exact ne_of_none z e
theorem cut_int (ns : List Int) (lo hi : Option Int) : ∃ ms : List Int, cutV (ns.map V.int) lo hi = ms.map V.int := by
  unfold cutV
  rw [List.length_map, ← List.map_drop, ← List.map_take]
  exact ⟨_, rfl⟩
section
variable {P : Program} {w : World} {K : PySem.W.Frag} {mg : Str → Option Value} {base : Heap} {f : Addr} {fd : FuncData}
/-- purse(script, at): a purse made -/
def spPurse (K : PySem.W.Frag) : Sp := fun vs H Q _ => ∃ (a : Addr) (ns : List Int) (i : Int), vs = [.ref a, .int i] ∧ SqL K H a (ns.map V.int) ∧ ∀ p H', H p = none → Ext H H' → PurseAt H' p 0 → Q (.ref p) H'
theorem scPurse : FnScope ["_law_script", "_law_at", "_law_seed"] ["_law_script", "_law_at"] (defScope sPurse) := ⟨rfl, rfl, rfl, by decide +kernel, rfl, by decide +kernel, by decide +kernel⟩
theorem ok_purse (F : FnP K "_law_purse" sPurse f fd) (gI : mg "int" = none) (gM : mg "max" = none) (gS : mg "sum" = none) : FnOk P w K mg base CX0 1 f fd ["_law_script", "_law_at"] (spPurse K) := by
  refine F.ok scPurse (fun vs H Q E h => ?_) (fun cdv A outer s H vs Q E hr h => ?_)
  · obtain ⟨a, ns, i, rfl, _⟩ := h
    rfl
  · obtain ⟨a, ns, i, rfl, hs, k⟩ := h
    refine ⟨_, PSs.nox (pss_cons (ps_set (i := 2) scPurse.nd rfl (Or.inl rfl) (pe_callB (cr_sum (by rfl)) (by rfl) gS (by decide +kernel) (pa_cons (pe_slice sl_list (pv 0) (po_some (pv 1)) (po_some (pe_op op_add (pv 1) pe_int))) pa_nil)))
      (pss_one (ps_ret (pe_lst (pa_cons (pe_op op_mod (pe_callTy call_int1 (by rfl) gI (by decide +kernel) (pa_cons (pe_callB (call_max2 (by rfl)) (by rfl) gM (by decide +kernel) (pa_cons (pe_op op_sub (pv 2) (pe_op op_powW pe_int pe_int)) (pa_cons pe_int pa_nil))) pa_nil)) (pe_op op_powW (pe_op op_powW pe_int pe_int) pe_int))
        (pa_cons (pe_op op_mod (pe_callTy call_int1 (by rfl) gI (by decide +kernel) (pa_cons (pv 2) pa_nil)) pe_int)
        (pa_cons pe_int (pa_cons (pv 1) pa_nil)))))))), ?_⟩
    obtain ⟨ms, hm⟩ := cut_int ns (some i) (some (i + 1))
    refine ⟨_, rfl, _, rfl, i, rfl, _, rfl, _, _, rfl, rfl, i + 1, rfl, a, _, rfl, hs, fun q hq => ?_⟩
    rw [hm]
    refine ⟨q, ms, rfl, SqL.of upd_same, ?_⟩
    refine ⟨_, rfl, _, _, rfl, rfl, ⟨by decide, ?_⟩, _, _, rfl, rfl, _, _, rfl, .inl ⟨_, rfl, _, _, rfl, rfl, ⟨by decide, ?_⟩, _, _, rfl, rfl, ⟨by decide, ?_⟩, _, _, rfl, rfl, ?_, ?_⟩⟩
    · decide +kernel
    · decide +kernel
    · decide +kernel
    · exact (show (0 : Int) < (10 ^ Int.toNat 60) ^ Int.toNat 8 by decide +kernel)
    refine ⟨_, rfl, .inl ⟨_, rfl, _, _, rfl, rfl, (show (0 : Int) < 2147483629 by decide), ?_⟩⟩
    refine ⟨_, rfl, (show (4 : Nat) ≤ sizeLine by decide), fun p hp => ?_⟩
    have hp0 : (upd H q (.lst (ms.map V.int))) p = none := hp
    have hpq : p ≠ q := fun z => by
      rw [z, upd_same] at hp0
      cases hp0
    refine k p _ ((upd_ne hpq).symm.trans hp0) ((Ext.upd hq).upd' hp) ⟨_, _, _, _, upd_same, ?_, ⟨Int.emod_nonneg _ (by decide), Int.lt_trans (Int.emod_lt_of_pos _ (by decide)) (by decide)⟩, by decide, by decide⟩
    exact Int.emod_nonneg _ (by decide +kernel)
theorem fewB (L few : Int) (h0 : 0 ≤ L) (hf : few ≤ 1000) : 1 ≤ (if (if L < few then L else few) > 1 then (if L < few then L else few) else 1) ∧ (if (if L < few then L else few) > 1 then (if L < few then L else few) else 1) ≤ max 1 few ∧
    -(2 ^ 62) ≤ (if (if L < few then L else few) > 1 then (if L < few then L else few) else 1) ∧ (if (if L < few then L else few) > 1 then (if L < few then L else few) else 1) < 2 ^ 62 := by
  by_cases h : L < few <;> simp only [h, if_true, if_false] <;> split <;> omega
/-- purses(script, few): a list of purses made -/
def spPurses (K : PySem.W.Frag) : Sp := fun vs H Q _ => ∃ (a : Addr) (ns : List Int) (few : Int), vs = [.ref a, .int few] ∧ SqL K H a (ns.map V.int) ∧ few ≤ 1000 ∧
  ∀ (D : Addr) (ps : List Addr) H', H D = none → Ext H H' → H' D = some (.lst (ps.map V.ref)) → 1 ≤ ps.length → (ps.length : Int) ≤ max 1 few → ps.Nodup → (∀ p ∈ ps, H p = none ∧ p ≠ D ∧ PurseAt H' p 0) → Q (.ref D) H'
theorem scPurses : FnScope ["_law_script", "_law_few", "_law_at"] ["_law_script", "_law_few"] (defScope sPurses) := ⟨rfl, rfl, rfl, by decide +kernel, rfl, by decide +kernel, by decide +kernel⟩
theorem ok_purses {fP : Addr} {fdP : FuncData} (F : FnP K "_law_purses" sPurses f fd) (FP : FnP K "_law_purse" sPurse fP fdP) (gP : mg "_law_purse" = some (.ref fP)) (gI : mg "int" = none) (gM : mg "max" = none) (gS : mg "sum" = none) (gN : mg "min" = none) (gL : mg "len" = none) (gR : mg "range" = none) :
    FnOk P w K mg base CX0 2 f fd ["_law_script", "_law_few"] (spPurses K) := by
  have GP : FnOk P w K mg base CX0 1 fP fdP ["_law_script", "_law_at"] (spPurse K) := ok_purse FP gI gM gS
  have bP : Binds K fdP ["_law_script", "_law_at"] [] := FP.bindsN fun _ _ _ _ _ _ us hl => match us, hl with | [_, _], _ => rfl
  refine F.ok scPurses (fun vs H Q E h => ?_) (fun cdv A outer s H vs Q E hr h => ?_)
  · obtain ⟨a, ns, few, rfl, _⟩ := h
    rfl
  · obtain ⟨a, ns, few, rfl, hs, hf, k⟩ := h
    refine ⟨_, PSs.nox (pss_one (ps_ret (pe_lc (own := [("_law_at", 2)]) (g := gName 2) (tt := tYes) rfl scPurses.nd
      (pi_range1 rfl gR (pa_cons (pe_callB (call_max2 (by rfl)) (by rfl) gM (by decide +kernel) (pa_cons pe_int (pa_cons (pe_callB (call_min2 (by rfl)) (by rfl) gN (by decide +kernel) (pa_cons (pv 1) (pa_cons (pe_callB call_len_seq (by rfl) gL (by decide +kernel) (pa_cons (pv 0) pa_nil)) pa_nil))) pa_nil))) pa_nil))
      (blkOk_by (N := ["_law_script", "_law_few", "_law_at"]) (sc := defScope sPurses) (by decide +kernel)) (fun _ _ _ _ _ => pg_name (i := 2) scPurses.nd rfl (Or.inl rfl)) (fun _ _ _ _ _ => pts_nil)
      (fun _ _ _ _ _ => pe_call GP hr rfl gP FP.kp bP .nil pass0 (pa_cons (pv 0) (pa_cons (pv 2) pa_nil)))))), ?_⟩
    refine ⟨_, rfl, _, rfl, a, _, rfl, .inl hs, _, _, rfl, _, _, rfl, _, rfl, ?_, ?_, ?_⟩
    · exact (fewB _ few (Int.natCast_nonneg _) hf).2.2.1
    · exact (fewB _ few (Int.natCast_nonneg _) hf).2.2.2
    show ∀ (D : Addr), H D = none → ∃ W : Nat → Nat → Hp → Prop, _
    have j1 := fewB ((List.map V.int ns).length : Int) few (Int.natCast_nonneg _) hf
    revert j1
    generalize (if (if ((List.map V.int ns).length : Int) < few then ((List.map V.int ns).length : Int) else few) > 1 then (if ((List.map V.int ns).length : Int) < few then ((List.map V.int ns).length : Int) else few) else (1 : Int)) = j
    intro j1
    intro D hD
    show ∃ W : Nat → Nat → Hp → Prop, _
    refine lc_range (lo := 0) (n := j.toNat) (fun i H' => ∃ ps : List Addr, ps.length = i ∧ H' D = some (.lst (ps.map V.ref)) ∧ Ext H H' ∧ ps.Nodup ∧ ∀ p ∈ ps, H p = none ∧ p ≠ D ∧ PurseAt H' p 0) ⟨[], rfl, upd_same, Ext.upd hD, List.nodup_nil, fun p z => nomatch z⟩ ?_ ?_
    · rintro i H1 hi ⟨ps, hl, h1, hx, nd, hp⟩
      refine ⟨rfl, _, rfl, _, rfl, a, ns, _, rfl, hs.ext hx, fun p H2 p0 x2 q => ?_⟩
      have h2 : H2 D = some (.lst (ps.map V.ref)) := x2 _ _ h1
      have pD : p ≠ D := fun z => by
        rw [z, h1] at p0
        cases p0
      refine ⟨_, h2, by rw [List.length_map]; show ps.length < 16777216; omega, ps ++ [p], by simp [hl], by rw [upd_same, List.map_append]; rfl, fun b o e => ?_, ?_, fun r hr => ?_⟩
      · have : b ≠ D := ne_of_none e hD
        exact (upd_ne this).trans (x2 _ _ (hx _ _ e))
      · refine List.nodup_append.mpr ⟨nd, by simp, fun a ha b hb => ?_⟩
        rw [List.mem_singleton] at hb
        subst hb
        exact (hp a ha).2.2.ne p0
      · have hr' : r ≠ D ∧ H r = none ∧ PurseAt H2 r 0 := by
          rcases List.mem_append.mp hr with z | z
          · exact ⟨(hp r z).2.1, (hp r z).1, (hp r z).2.2.ext x2⟩
          · rw [List.mem_singleton] at z
            subst z
            refine ⟨pD, ?_, q⟩
            cases e : H r with
            | none => rfl
            | some o => exact absurd (hx _ _ e) (by rw [p0]; exact fun z => nomatch z)
        obtain ⟨x0, x1, a', b', c', d', e', q'⟩ := hr'
        exact ⟨x1, x0, a', b', c', d', (upd_ne x0).trans e', q'⟩
    · rintro H1 ⟨ps, hl, h1, hx, nd, hp⟩
      exact k D ps H1 hD hx h1 (by omega) (by omega) nd hp
/-- one_of(purse, some) -/
def spOneOf (K : PySem.W.Frag) : Sp := fun vs H Q _ => ∃ (p a : Addr) (xs : List V) (n : Nat), vs = [.ref p, .ref a] ∧ PurseAt H p n ∧ n ≤ 1000000 ∧ SqL K H a xs ∧ a ≠ p ∧ 1 ≤ xs.length ∧ xs.length < 134217728 ∧
  ∀ (j : Nat) (x : V) H', xs[j]? = some x → But p H H' → PurseAt H' p (n + 1) → Q x H'
theorem scOneOf : FnScope ["_law_purse_here", "_law_some"] ["_law_purse_here", "_law_some"] (defScope sOneOf) := ⟨rfl, rfl, rfl, by decide +kernel, rfl, by decide +kernel, by decide +kernel⟩
theorem But.sqL {p a : Addr} {H H' : Hp} {xs : List V} (b : But p H H') (h : SqL K H a xs) (ne : a ≠ p) : SqL K H' a xs :=
  h.elim (fun h => .inl (h.elim (fun h => .inl ((b a ne).trans h)) fun ⟨o, h⟩ => .inr ⟨o, (b a ne).trans h⟩)) fun h => .inr h
theorem atI_nat {xs : List V} {r : Int} (h0 : 0 ≤ r) (h1 : r < xs.length) : ∃ x, atI xs r = some x ∧ xs[r.toNat]? = some x := by
  refine ⟨xs[r.toNat]'(by omega), ?_, List.getElem?_eq_getElem (by omega)⟩
  unfold atI ixN
  rw [if_pos h0, if_pos h1]
  exact List.getElem?_eq_getElem (by omega)
theorem ok_one_of {fM fD : Addr} {fdM fdD : FuncData} (F : FnP K "_law_one_of" sOneOf f fd) (FD : FnP K "_law_draw" sDraw fD fdD) (FM : FnP K "_law_mixed" sMixed fM fdM) (gD : mg "_law_draw" = some (.ref fD)) (gM : mg "_law_mixed" = some (.ref fM)) (gI : mg "int" = none) (gR : mg "range" = none) (gL : mg "len" = none) :
    FnOk P w K mg base CX0 3 f fd ["_law_purse_here", "_law_some"] (spOneOf K) := by
  have GD : FnOk P w K mg base CX0 2 fD fdD ["_law_purse_here", "_law_many"] spDraw := ok_draw FD FM gM gI gR
  have bD : Binds K fdD ["_law_purse_here", "_law_many"] [] := FD.bindsN fun _ _ _ _ _ _ us hl => match us, hl with | [_, _], _ => rfl
  refine F.ok scOneOf (fun vs H Q E h => ?_) (fun cdv A outer s H vs Q E hr h => ?_)
  · obtain ⟨p, a, xs, n, rfl, _⟩ := h
    rfl
  · obtain ⟨p, a, xs, n, rfl, hp, hn, hs, ne, l1, l2, k⟩ := h
    refine ⟨_, PSs.nox (pss_one (ps_ret (pe_ix ix_list (pv 1) (pe_call GD hr rfl gD FD.kp bD .nil pass0 (pa_cons (pv 0) (pa_cons (pe_callB call_len_seq (by rfl) gL (by decide +kernel) (pa_cons (pv 1) pa_nil)) pa_nil))) (fun _ _ => rfl)))), ?_⟩
    refine ⟨_, rfl, _, rfl, _, rfl, a, xs, rfl, .inl hs, p, _, n, rfl, hp, hn, by omega, by omega, fun r H' r0 r1 hb hp' => ?_⟩
    obtain ⟨x, e1, e2⟩ := atI_nat r0 r1
    exact ⟨a, xs, r, x, rfl, rfl, hb.sqL hs ne, e1, k _ _ _ e2 hb hp'⟩
/-- word(purse): one to eight letters -/
def WordOk (x : Str) : Prop := ∃ l : List Nat, x = SX.S l ∧ 1 ≤ l.length ∧ l.length ≤ 8 ∧ ∀ c ∈ l, 97 ≤ c ∧ c ≤ 122
def spWord : Sp := fun vs H Q _ => ∃ (p : Addr) (n : Nat), vs = [.ref p] ∧ PurseAt H p n ∧ n ≤ 100000 ∧ ∀ (x : Str) H', WordOk x → Kp p H H' → PurseAt H' p (n + 10) → Q (.str x) H'
theorem scWord : FnScope ["_law_purse_here", "_law_size", "_law_spin"] ["_law_purse_here"] (defScope sWord) := ⟨rfl, rfl, rfl, by decide +kernel, rfl, by decide +kernel, by decide +kernel⟩
theorem join_one : ∀ l : List Nat, TL.joinL [] (l.map fun c => [c]) = l
  | [] => rfl
  | [_] => rfl
  | a :: b :: r => by
    have h := join_one (b :: r)
    show a :: TL.joinL [] ((b :: r).map fun c => [c]) = _
    rw [h]
theorem Kp.sqL {p a : Addr} {H H' : Hp} {xs : List V} (b : Kp p H H') (h : SqL K H a xs) (ne : a ≠ p) : SqL K H' a xs :=
  h.elim (fun h => .inl (h.elim (fun h => .inl (b a _ ne h)) fun ⟨o, h⟩ => .inr ⟨o, b a _ ne h⟩)) fun h => .inr h
theorem alpha_at {r : Int} (h0 : 0 ≤ r) (h1 : r < 26) : ∃ c : Nat, atI ("abcdefghijklmnopqrstuvwxyz" : Str).cps.toList r = some c ∧ 97 ≤ c ∧ c ≤ 122 := by
  have h : ∀ i : Fin 26, ∃ c : Nat, atI ("abcdefghijklmnopqrstuvwxyz" : Str).cps.toList ((i.val : Nat) : Int) = some c ∧ 97 ≤ c ∧ c ≤ 122 := fun i => by
    refine ⟨97 + i.val, ?_, by omega, by omega⟩
    revert i
    decide +kernel
  have e : r = ((r.toNat : Nat) : Int) := by omega
  rw [e]
  exact h ⟨r.toNat, by omega⟩
theorem sum_ones : ∀ l : List Nat, (l.map ((fun x : List Nat => x.length) ∘ fun c => [c])).sum = l.length
  | [] => rfl
  | a :: l => by
    rw [List.map_cons, List.sum_cons, sum_ones l]
    show 1 + l.length = l.length + 1
    omega
theorem ok_word {fM fD : Addr} {fdM fdD : FuncData} (FW : FnP K "_law_word" sWord f fd) (FD : FnP K "_law_draw" sDraw fD fdD) (FM : FnP K "_law_mixed" sMixed fM fdM) (gD : mg "_law_draw" = some (.ref fD)) (gM : mg "_law_mixed" = some (.ref fM)) (gI : mg "int" = none) (gR : mg "range" = none) :
    FnOk P w K mg base CX0 3 f fd ["_law_purse_here"] spWord := by
  have GD : FnOk P w K mg base CX0 2 fD fdD ["_law_purse_here", "_law_many"] spDraw := ok_draw FD FM gM gI gR
  have bD : Binds K fdD ["_law_purse_here", "_law_many"] [] := FD.bindsN fun _ _ _ _ _ _ us hl => match us, hl with | [_, _], _ => rfl
  refine FW.ok scWord (fun vs H Q E h => ?_) (fun cdv A outer s H vs Q E hr h => ?_)
  · obtain ⟨p, n, rfl, _⟩ := h
    rfl
  · obtain ⟨p, n, rfl, hp, hn, k⟩ := h
    refine ⟨_, PSs.nox (pss_cons (ps_set (i := 1) scWord.nd rfl (Or.inl rfl) (pe_op op_add pe_int (pe_call GD hr rfl gD FD.kp bD .nil pass0 (pa_cons (pv 0) (pa_cons
          (pe_ifExp (pt_cmpR op_eq (pe_call GD hr rfl gD FD.kp bD .nil pass0 (pa_cons (pv 0) (pa_cons pe_int pa_nil))) pe_int (nomark _)) pe_int pe_int) pa_nil)))))
      (pss_one (ps_ret (pe_bm F.plainAttrs_str F.slot_str_join F.type_str_join mt_join pe_str (pa_cons (pe_lc (own := [("_law_spin", 2)]) (g := gName 2) (tt := tYes) rfl scWord.nd
        (pi_range1 rfl gR (pa_cons (pv 1) pa_nil)) (blkOk_by (N := ["_law_purse_here", "_law_size", "_law_spin"]) (sc := defScope sWord) (by decide +kernel)) (fun _ _ _ _ _ => pg_name (i := 2) scWord.nd rfl (Or.inl rfl)) (fun _ _ _ _ _ => pts_nil)
        (fun _ _ _ _ _ => pe_ix ix_str pe_str (pe_call GD hr rfl gD FD.kp bD .nil pass0 (pa_cons (pv 0) (pa_cons pe_int pa_nil))) (fun _ _ => rfl))) pa_nil))))), ?_⟩
    refine ⟨_, rfl, _, rfl, p, _, n, rfl, hp, by omega, by decide, by decide, fun r0 H0 r00 r01 hb0 hp0 => ⟨rfl, _, rfl, ?_⟩⟩
    refine ite2 (fun _ => ⟨p, 8, n + 1, rfl, hp0, by omega, by decide, by decide, fun r1 H1 r10 r11 hb1 hp1 => ?_⟩) (fun _ => ⟨p, 3, n + 1, rfl, hp0, by omega, by decide, by decide, fun r1 H1 r10 r11 hb1 hp1 => ?_⟩)
    all_goals
      refine ⟨_, _, rfl, rfl, ?_⟩
      refine ⟨rfl, _, rfl, _, rfl, by omega, by omega, fun D hD => ?_⟩
      show ∃ W : Nat → Nat → Hp → Prop, _
      have hD0 : H D = none ∧ D ≠ p := by
        have z : D ≠ p := fun z => by
          obtain ⟨a', b', c', d', e', q'⟩ := hp1
          rw [z, e'] at hD
          cases hD
        exact ⟨((hb1 D z).trans (hb0 D z)).symm.trans hD, z⟩
      refine lc_range (lo := 0) (n := (1 + r1).toNat) (fun i H' => ∃ l : List Nat, l.length = i ∧ H' D = some (.lst (l.map fun c => V.str (SX.S [c]))) ∧ Kp p H H' ∧ PurseAt H' p (n + 1 + 1 + i) ∧ ∀ c ∈ l, 97 ≤ c ∧ c ≤ 122)
        ⟨[], rfl, upd_same, fun b o hb e => ?_, ?_, fun c z => nomatch z⟩ ?_ ?_
      · have : b ≠ D := ne_of_none e hD0.1
        exact (upd_ne this).trans ((hb1 b hb).trans ((hb0 b hb).trans e))
      · exact hp1.ext (Ext.upd hD)
      · rintro i H2 hi ⟨l, hl, h2, hk, hp2, hc⟩
        refine ⟨rfl, _, rfl, p, 26, _, rfl, hp2, by omega, by decide, by decide, fun r H3 r0 r1 hb hp3 => ?_⟩
        obtain ⟨c, e, c0, c1⟩ := alpha_at r0 r1
        refine ⟨_, r, c, rfl, rfl, by decide +kernel, e, ?_⟩
        have h3 : H3 D = some (.lst (l.map fun c => V.str (SX.S [c]))) := (hb D hD0.2).trans h2
        refine ⟨_, h3, by rw [List.length_map]; show l.length < 16777216; omega, l ++ [c], by simp [hl], by rw [upd_same, List.map_append]; rfl, fun b o hb' e' => ?_, ?_, fun c' hc' => ?_⟩
        · have : b ≠ D := ne_of_none e' hD0.1
          exact (upd_ne this).trans ((hb b hb').trans (hk b o hb' e'))
        · obtain ⟨a', b', c', d', e', q'⟩ := hp3
          exact ⟨a', b', c', d', (upd_ne (Ne.symm hD0.2)).trans e', q'.1, q'.2.1, q'.2.2.1, by omega⟩
        · rcases List.mem_append.mp hc' with z | z
          · exact hc c' z
          · rw [List.mem_singleton] at z
            subst z
            exact ⟨c0, c1⟩
      · rintro H2 ⟨l, hl, h2, hk, hp2, hc⟩
        have hm : (l.map fun c => V.str (SX.S [c])) = ((l.map fun c => [c]).map SX.S).map V.str := by
          rw [List.map_map, List.map_map]
          rfl
        refine ⟨SX.S [], D, (l.map fun c => [c]).map SX.S, rfl, rfl, .inl (hm ▸ SqL.of h2), ?_, ?_⟩
        · rw [SX.lens, List.map_map]
          rw [sum_ones, SX.S_len]
          show l.length + _ * 0 ≤ _
          omega
        · show Q (.str (Txt.join (SX.S []) ((l.map fun c => [c]).map SX.S))) H2
          rw [SX.join_S, join_one]
          exact k _ _ ⟨l, rfl, by omega, by omega, hc⟩ hk (hp2.mono (by omega))
end
end Law

/-! from Lk1.lean -/
set_option Elab.async false
set_option linter.all false
set_option maxRecDepth 100000
set_option maxHeartbeats 4000000
namespace Law
open PySem PySem.Spec PyProof.Rows L2 Oe
abbrev sFirst : Stmt := top 38
abbrev sCalled : Stmt := top 39
abbrev sBare : Stmt := top 40
def nmL : List Str := ["InvalidLamp", "InvalidLamps", "InvalidTies", "InvalidWishes", "InvalidNet", "InvalidMap", "InvalidSetting", "InvalidRoad", "InvalidPiece", "InvalidWork", "InvalidPoints", "InvalidHeights", "InvalidCount", "InvalidForm", "InvalidShow", "InvalidWeights", "InvalidChange", "InvalidChanges", "InvalidHall", "InvalidSpot", "InvalidScript", "InvalidText", "InvalidLog", "Unlike", "Unpaired", "Apart", "Refused", "NothingToUndo", "NothingToRedo"]
def nm (i : Nat) : Str := nmL.getD i ""
/-- an error class with a value -/
structure VCls (P : Program) (K : PySem.W.Frag) (mg : Str → Option Value) (x : Str) (C : Addr) : Prop where
  m : mg x = some (.ref C)
  T : ∃ fI fd qual, InitTxt P K mg C fI fd qual
section
variable {X : Cx} {x : Str} {C : Addr} {e : Expr} {te : TE} {p pos kpos : Pos}
theorem pe_mk1 (h : VCls X.prog X.K X.mg x C) (hr : Room 2 X.A) (he : PE X e te) (hg : Gl X x := by rfl) (hdb : (x == ("__debug__" : Str)) = false := by decide)
    (hs : starEach [e] X.env = (false, eval e X.env) :: starEach [] X.env := by rfl) : PE X (.Call (.Name x p) [e] [] pos) (tMkV C te) := by
  obtain ⟨fI, fd, q, T⟩ := h.T
  exact pe_mkV T hr h.m he hg hdb hs
theorem pe_mk0 (h : VCls X.prog X.K X.mg x C) (hr : Room 2 X.A) (hg : Gl X x := by rfl) (hdb : (x == ("__debug__" : Str)) = false := by decide) : PE X (.Call (.Name x p) [] [] pos) (tMkV C (tC .non)) := by
  obtain ⟨fI, fd, q, T⟩ := h.T
  exact pe_mkV0 T hr h.m hg hdb
theorem pe_mkK (h : VCls X.prog X.K X.mg x C) (hr : Room 2 X.A) (he : PE X e te) (hg : Gl X x := by rfl) (hdb : (x == ("__debug__" : Str)) = false := by decide) : PE X (.Call (.Name x p) [] [⟨some "value", e, kpos⟩] pos) (tMkV C te) := by
  obtain ⟨fI, fd, q, T⟩ := h.T
  exact pe_mkVK T hr h.m he hg hdb
end
/-- an error of the class C with the value v stands at a -/
def ErrAt (H : Hp) (v : V) (C a : Addr) : Prop := ∃ d, H a = some (exo a C (some d)) ∧ H d = some (exd d [("value", v)])
theorem ErrAt.ext {H H' : Hp} {v : V} {C a : Addr} (h : ErrAt H v C a) (x : Ext H H') : ErrAt H' v C a := by
  obtain ⟨d, h1, h2⟩ := h
  exact ⟨d, x _ _ h1, x _ _ h2⟩
theorem errs_ext {H H' : Hp} {v : V} {Cs as : List Addr} (h : Paired (ErrAt H v) Cs as) (x : Ext H H') : Paired (ErrAt H' v) Cs as := Paired.mono (fun _ _ e => e.ext x) h
theorem paired_app {α β : Type} {R : α → β → Prop} : ∀ {l1 : List α} {l2 : List β} {k1 : List α} {k2 : List β}, Paired R l1 l2 → Paired R k1 k2 → Paired R (l1 ++ k1) (l2 ++ k2)
  | _, _, _, _, .nil, h => h
  | _, _, _, _, .cons a b, h => .cons a (paired_app b h)
theorem pre_none {H H' : Hp} {l : Addr} (x : Ext H H') (n : H' l = none) : H l = none := by
  cases e : H l with
  | none => rfl
  | some o => exact absurd (x _ _ e) (by rw [n]; exact fun z => nomatch z)
def tMks (te : TE) : List Addr → TA
  | [] => tNil
  | C :: Cs => tCons (tMkV C te) (tMks te Cs)
theorem mks_read {te : TE} {v : V} {σ : L2.St} (ht : ∀ (H : Hp) (Q : VK), Q v H → te σ H Q) : ∀ (Cs : List Addr) (H : Hp) (Q : List V → Hp → Prop), (∀ as H', Ext H H' → Paired (ErrAt H' v) Cs as → Q (as.map V.ref) H') → tMks te Cs σ H Q
  | [], H, Q, k => k [] H Ext.rfl' .nil
  | C :: Cs, H, Q, k => ht H _ fun a d ha hd ne => mks_read ht Cs _ _ fun as H' x p => by
    have x0 : Ext H (mkE H a d C v) := fun b o e => mkE_same ha hd b o e
    exact k (a :: as) H' (x0.trans x) (.cons (ErrAt.ext ⟨d, mkE_a, mkE_d ne⟩ x) p)
theorem lst_mks {te : TE} {v : V} {σ : L2.St} {H : Hp} {Q : VK} {Cs : List Addr} (ht : ∀ (H : Hp) (Q : VK), Q v H → te σ H Q) (hl : Cs.length ≤ 16777216)
    (k : ∀ l as H', H l = none → Ext H H' → H' l = some (.lst (as.map V.ref)) → Paired (ErrAt H' v) Cs as → Q (.ref l) H') : tLst (tMks te Cs) σ H Q := by
  refine mks_read ht Cs H _ fun as H' x p => ⟨?_, fun l hn => ?_⟩
  · rw [List.length_map, ← p.length]
    exact hl
  · exact k l as _ (pre_none x hn) (x.upd' hn) upd_same (errs_ext p (Ext.upd hn))
theorem cat_mks {te : TE} {v : V} {σ : L2.St} {H : Hp} {Q : VK} {i : Nat} {Cs Cs0 : List Addr} {l0 : Addr} {as0 : List Addr} (h1 : σ[i]? = some (some (.ref l0))) (ht : ∀ (H : Hp) (Q : VK), Q v H → te σ H Q) (e0 : H l0 = some (.lst (as0.map V.ref))) (p0 : Paired (ErrAt H v) Cs0 as0)
    (hl : Cs.length + Cs0.length ≤ 16777216) (k : ∀ l as H', H l = none → Ext H H' → H' l = some (.lst (as.map V.ref)) → Paired (ErrAt H' v) (Cs0 ++ Cs) as → Q (.ref l) H') : tOp rCat (tVar i) (tLst (tMks te Cs)) σ H Q := by
  refine ⟨_, h1, lst_mks ht (by omega) fun m as1 H1 n1 x1 e1 p1 => ?_⟩
  refine ⟨l0, m, _, _, rfl, rfl, x1 _ _ e0, e1, ?_, fun l hn => ?_⟩
  · rw [List.length_map, List.length_map, ← p0.length, ← p1.length]
    show _ ≤ 16777216
    omega
  · refine k l (as0 ++ as1) _ (pre_none x1 hn) (x1.upd' hn) ?_ (errs_ext (paired_app (errs_ext p0 x1) p1) (Ext.upd hn))
    rw [upd_same, List.map_append]
theorem lst_seq {te : TE} {v : V} {σ : L2.St} {H : Hp} {R : TS} {D : L2.Ends} {i : Nat} {Cs : List Addr} (ht : ∀ (H : Hp) (Q : VK), Q v H → te σ H Q) (hl : Cs.length ≤ 16777216)
    (k : ∀ l as H', H l = none → Ext H H' → H' l = some (.lst (as.map V.ref)) → Paired (ErrAt H' v) Cs as → R D (σ.set i (some (.ref l))) H') : tSeq (tAsg (tLst (tMks te Cs)) (gName i)) R D σ H := by
  show tLst (tMks te Cs) σ H fun x H1 => gName i x σ H1 (R D)
  exact lst_mks ht hl k
theorem cat_seq {te : TE} {v : V} {σ : L2.St} {H : Hp} {R : TS} {D : L2.Ends} {i : Nat} {Cs Cs0 : List Addr} {l0 : Addr} {as0 : List Addr} (h1 : σ[i]? = some (some (.ref l0))) (ht : ∀ (H : Hp) (Q : VK), Q v H → te σ H Q) (e0 : H l0 = some (.lst (as0.map V.ref))) (p0 : Paired (ErrAt H v) Cs0 as0)
    (hl : Cs.length + Cs0.length ≤ 16777216) (k : ∀ l as H', H l = none → Ext H H' → H' l = some (.lst (as.map V.ref)) → Paired (ErrAt H' v) (Cs0 ++ Cs) as → R D (σ.set i (some (.ref l))) H') : tSeq (tAsg (tOp rCat (tVar i) (tLst (tMks te Cs))) (gName i)) R D σ H := by
  show tOp rCat (tVar i) (tLst (tMks te Cs)) σ H fun x H1 => gName i x σ H1 (R D)
  exact cat_mks h1 ht e0 p0 hl k
def spMk (Cs : List Addr) : Sp := fun vs H Q _ => ∃ v : V, vs = [v] ∧ ∀ (l : Addr) (as : List Addr) H', Ext H H' → H l = none → H' l = some (.lst (as.map V.ref)) → Paired (ErrAt H' v) Cs as → Q (.ref l) H'
def spMk0 (Cs : List Addr) : Sp := fun vs H Q _ => vs = [] ∧ ∀ (l : Addr) (as : List Addr) H', Ext H H' → H l = none → H' l = some (.lst (as.map V.ref)) → Paired (ErrAt H' .non) Cs as → Q (.ref l) H'
section
variable {P : Program} {w : World} {K : PySem.W.Frag} {mg : Str → Option Value} {base : Heap} {f : Addr} {fd : FuncData} {C : Nat → Addr}
theorem scFirst : FnScope ["_law_thing", "_law_found"] ["_law_thing"] (defScope sFirst) := ⟨rfl, rfl, rfl, by decide +kernel, rfl, by decide +kernel, by decide +kernel⟩
theorem ok_first (F : FnP K "_law_first" sFirst f fd) (hC : ∀ i, i < 27 → VCls P K mg (nm i) (C i)) : FnOk P w K mg base CX0 3 f fd ["_law_thing"] (spMk ((List.range 27).map C)) := by
  refine F.ok scFirst (fun vs H Q E h => ?_) (fun cdv A outer s H vs Q E hr h => ?_)
  · obtain ⟨v, rfl, _⟩ := h
    rfl
  · obtain ⟨v, rfl, k⟩ := h
    refine ⟨_, PSs.nox (pss_cons (ps_set (i := 1) scFirst.nd rfl (Or.inl rfl) (pe_lst (t := tMks (tVar 0) [C 0, C 1, C 2, C 3, C 4]) (pa_cons (pe_mk1 (x := "InvalidLamp") (hC 0 (by decide)) hr (pv 0)) (pa_cons (pe_mk1 (x := "InvalidLamps") (hC 1 (by decide)) hr (pv 0)) (pa_cons (pe_mk1 (x := "InvalidTies") (hC 2 (by decide)) hr (pv 0)) (pa_cons (pe_mk1 (x := "InvalidWishes") (hC 3 (by decide)) hr (pv 0)) (pa_cons (pe_mk1 (x := "InvalidNet") (hC 4 (by decide)) hr (pv 0)) pa_nil)))))))
      (pss_cons (ps_set (i := 1) scFirst.nd rfl (Or.inl rfl) (pe_op op_cat (pv 1) (pe_lst (t := tMks (tVar 0) [C 5, C 6, C 7, C 8]) (pa_cons (pe_mk1 (x := "InvalidMap") (hC 5 (by decide)) hr (pv 0)) (pa_cons (pe_mk1 (x := "InvalidSetting") (hC 6 (by decide)) hr (pv 0)) (pa_cons (pe_mk1 (x := "InvalidRoad") (hC 7 (by decide)) hr (pv 0)) (pa_cons (pe_mk1 (x := "InvalidPiece") (hC 8 (by decide)) hr (pv 0)) pa_nil)))))))
      (pss_cons (ps_set (i := 1) scFirst.nd rfl (Or.inl rfl) (pe_op op_cat (pv 1) (pe_lst (t := tMks (tVar 0) [C 9, C 10, C 11, C 12]) (pa_cons (pe_mk1 (x := "InvalidWork") (hC 9 (by decide)) hr (pv 0)) (pa_cons (pe_mk1 (x := "InvalidPoints") (hC 10 (by decide)) hr (pv 0)) (pa_cons (pe_mk1 (x := "InvalidHeights") (hC 11 (by decide)) hr (pv 0)) (pa_cons (pe_mk1 (x := "InvalidCount") (hC 12 (by decide)) hr (pv 0)) pa_nil)))))))
      (pss_cons (ps_set (i := 1) scFirst.nd rfl (Or.inl rfl) (pe_op op_cat (pv 1) (pe_lst (t := tMks (tVar 0) [C 13, C 14, C 15, C 16]) (pa_cons (pe_mk1 (x := "InvalidForm") (hC 13 (by decide)) hr (pv 0)) (pa_cons (pe_mk1 (x := "InvalidShow") (hC 14 (by decide)) hr (pv 0)) (pa_cons (pe_mk1 (x := "InvalidWeights") (hC 15 (by decide)) hr (pv 0)) (pa_cons (pe_mk1 (x := "InvalidChange") (hC 16 (by decide)) hr (pv 0)) pa_nil)))))))
      (pss_cons (ps_set (i := 1) scFirst.nd rfl (Or.inl rfl) (pe_op op_cat (pv 1) (pe_lst (t := tMks (tVar 0) [C 17, C 18, C 19, C 20]) (pa_cons (pe_mk1 (x := "InvalidChanges") (hC 17 (by decide)) hr (pv 0)) (pa_cons (pe_mk1 (x := "InvalidHall") (hC 18 (by decide)) hr (pv 0)) (pa_cons (pe_mk1 (x := "InvalidSpot") (hC 19 (by decide)) hr (pv 0)) (pa_cons (pe_mk1 (x := "InvalidScript") (hC 20 (by decide)) hr (pv 0)) pa_nil)))))))
      (pss_cons (ps_set (i := 1) scFirst.nd rfl (Or.inl rfl) (pe_op op_cat (pv 1) (pe_lst (t := tMks (tVar 0) [C 21, C 22, C 23, C 24, C 25]) (pa_cons (pe_mk1 (x := "InvalidText") (hC 21 (by decide)) hr (pv 0)) (pa_cons (pe_mk1 (x := "InvalidLog") (hC 22 (by decide)) hr (pv 0)) (pa_cons (pe_mk1 (x := "Unlike") (hC 23 (by decide)) hr (pv 0)) (pa_cons (pe_mk1 (x := "Unpaired") (hC 24 (by decide)) hr (pv 0)) (pa_cons (pe_mk1 (x := "Apart") (hC 25 (by decide)) hr (pv 0)) pa_nil))))))))
      (pss_cons (ps_set (i := 1) scFirst.nd rfl (Or.inl rfl) (pe_op op_cat (pv 1) (pe_lst (t := tMks (tVar 0) [C 26]) (pa_cons (pe_mk1 (x := "Refused") (hC 26 (by decide)) hr (pv 0)) pa_nil))))
      (pss_one (ps_ret (pv 1)))))))))), ?_⟩
    refine lst_seq (v := v) (Cs := [C 0, C 1, C 2, C 3, C 4]) (te := tVar 0) ?_ (show (5 : Nat) ≤ 16777216 by decide) fun l0 as0 H0 n0 x0 e0 p0 => ?_
    · exact (fun _ _ q => ⟨_, rfl, q⟩)
    refine cat_seq (v := v) (Cs := [C 5, C 6, C 7, C 8]) (te := tVar 0) (l0 := l0) rfl ?_ e0 p0 (show (9 : Nat) ≤ 16777216 by decide) fun l1 as1 H1 n1 x1 e1 p1 => ?_
    · exact (fun _ _ q => ⟨_, rfl, q⟩)
    have x1 := x0.trans x1
    refine cat_seq (v := v) (Cs := [C 9, C 10, C 11, C 12]) (te := tVar 0) (l0 := l1) rfl ?_ e1 p1 (show (13 : Nat) ≤ 16777216 by decide) fun l2 as2 H2 n2 x2 e2 p2 => ?_
    · exact (fun _ _ q => ⟨_, rfl, q⟩)
    have x2 := x1.trans x2
    refine cat_seq (v := v) (Cs := [C 13, C 14, C 15, C 16]) (te := tVar 0) (l0 := l2) rfl ?_ e2 p2 (show (17 : Nat) ≤ 16777216 by decide) fun l3 as3 H3 n3 x3 e3 p3 => ?_
    · exact (fun _ _ q => ⟨_, rfl, q⟩)
    have x3 := x2.trans x3
    refine cat_seq (v := v) (Cs := [C 17, C 18, C 19, C 20]) (te := tVar 0) (l0 := l3) rfl ?_ e3 p3 (show (21 : Nat) ≤ 16777216 by decide) fun l4 as4 H4 n4 x4 e4 p4 => ?_
    · exact (fun _ _ q => ⟨_, rfl, q⟩)
    have x4 := x3.trans x4
    refine cat_seq (v := v) (Cs := [C 21, C 22, C 23, C 24, C 25]) (te := tVar 0) (l0 := l4) rfl ?_ e4 p4 (show (26 : Nat) ≤ 16777216 by decide) fun l5 as5 H5 n5 x5 e5 p5 => ?_
    · exact (fun _ _ q => ⟨_, rfl, q⟩)
    have x5 := x4.trans x5
    refine cat_seq (v := v) (Cs := [C 26]) (te := tVar 0) (l0 := l5) rfl ?_ e5 p5 (show (27 : Nat) ≤ 16777216 by decide) fun l6 as6 H6 n6 x6 e6 p6 => ?_
    · exact (fun _ _ q => ⟨_, rfl, q⟩)
    have x6 := x5.trans x6
    exact ⟨_, rfl, k l6 as6 H6 x6 (pre_none x5 n6) e6 p6⟩
theorem scCalled : FnScope ["_law_thing", "_law_found"] ["_law_thing"] (defScope sCalled) := ⟨rfl, rfl, rfl, by decide +kernel, rfl, by decide +kernel, by decide +kernel⟩
theorem ok_called (F : FnP K "_law_called" sCalled f fd) (hC : ∀ i, i < 27 → VCls P K mg (nm i) (C i)) : FnOk P w K mg base CX0 3 f fd ["_law_thing"] (spMk ((List.range 27).map C)) := by
  refine F.ok scCalled (fun vs H Q E h => ?_) (fun cdv A outer s H vs Q E hr h => ?_)
  · obtain ⟨v, rfl, _⟩ := h
    rfl
  · obtain ⟨v, rfl, k⟩ := h
    refine ⟨_, PSs.nox (pss_cons (ps_set (i := 1) scCalled.nd rfl (Or.inl rfl) (pe_lst (t := tMks (tVar 0) [C 0, C 1, C 2]) (pa_cons (pe_mkK (x := "InvalidLamp") (hC 0 (by decide)) hr (pv 0)) (pa_cons (pe_mkK (x := "InvalidLamps") (hC 1 (by decide)) hr (pv 0)) (pa_cons (pe_mkK (x := "InvalidTies") (hC 2 (by decide)) hr (pv 0)) pa_nil)))))
      (pss_cons (ps_set (i := 1) scCalled.nd rfl (Or.inl rfl) (pe_op op_cat (pv 1) (pe_lst (t := tMks (tVar 0) [C 3, C 4, C 5]) (pa_cons (pe_mkK (x := "InvalidWishes") (hC 3 (by decide)) hr (pv 0)) (pa_cons (pe_mkK (x := "InvalidNet") (hC 4 (by decide)) hr (pv 0)) (pa_cons (pe_mkK (x := "InvalidMap") (hC 5 (by decide)) hr (pv 0)) pa_nil))))))
      (pss_cons (ps_set (i := 1) scCalled.nd rfl (Or.inl rfl) (pe_op op_cat (pv 1) (pe_lst (t := tMks (tVar 0) [C 6, C 7, C 8]) (pa_cons (pe_mkK (x := "InvalidSetting") (hC 6 (by decide)) hr (pv 0)) (pa_cons (pe_mkK (x := "InvalidRoad") (hC 7 (by decide)) hr (pv 0)) (pa_cons (pe_mkK (x := "InvalidPiece") (hC 8 (by decide)) hr (pv 0)) pa_nil))))))
      (pss_cons (ps_set (i := 1) scCalled.nd rfl (Or.inl rfl) (pe_op op_cat (pv 1) (pe_lst (t := tMks (tVar 0) [C 9, C 10, C 11]) (pa_cons (pe_mkK (x := "InvalidWork") (hC 9 (by decide)) hr (pv 0)) (pa_cons (pe_mkK (x := "InvalidPoints") (hC 10 (by decide)) hr (pv 0)) (pa_cons (pe_mkK (x := "InvalidHeights") (hC 11 (by decide)) hr (pv 0)) pa_nil))))))
      (pss_cons (ps_set (i := 1) scCalled.nd rfl (Or.inl rfl) (pe_op op_cat (pv 1) (pe_lst (t := tMks (tVar 0) [C 12, C 13, C 14]) (pa_cons (pe_mkK (x := "InvalidCount") (hC 12 (by decide)) hr (pv 0)) (pa_cons (pe_mkK (x := "InvalidForm") (hC 13 (by decide)) hr (pv 0)) (pa_cons (pe_mkK (x := "InvalidShow") (hC 14 (by decide)) hr (pv 0)) pa_nil))))))
      (pss_cons (ps_set (i := 1) scCalled.nd rfl (Or.inl rfl) (pe_op op_cat (pv 1) (pe_lst (t := tMks (tVar 0) [C 15, C 16, C 17]) (pa_cons (pe_mkK (x := "InvalidWeights") (hC 15 (by decide)) hr (pv 0)) (pa_cons (pe_mkK (x := "InvalidChange") (hC 16 (by decide)) hr (pv 0)) (pa_cons (pe_mkK (x := "InvalidChanges") (hC 17 (by decide)) hr (pv 0)) pa_nil))))))
      (pss_cons (ps_set (i := 1) scCalled.nd rfl (Or.inl rfl) (pe_op op_cat (pv 1) (pe_lst (t := tMks (tVar 0) [C 18, C 19, C 20]) (pa_cons (pe_mkK (x := "InvalidHall") (hC 18 (by decide)) hr (pv 0)) (pa_cons (pe_mkK (x := "InvalidSpot") (hC 19 (by decide)) hr (pv 0)) (pa_cons (pe_mkK (x := "InvalidScript") (hC 20 (by decide)) hr (pv 0)) pa_nil))))))
      (pss_cons (ps_set (i := 1) scCalled.nd rfl (Or.inl rfl) (pe_op op_cat (pv 1) (pe_lst (t := tMks (tVar 0) [C 21, C 22, C 23]) (pa_cons (pe_mkK (x := "InvalidText") (hC 21 (by decide)) hr (pv 0)) (pa_cons (pe_mkK (x := "InvalidLog") (hC 22 (by decide)) hr (pv 0)) (pa_cons (pe_mkK (x := "Unlike") (hC 23 (by decide)) hr (pv 0)) pa_nil))))))
      (pss_cons (ps_set (i := 1) scCalled.nd rfl (Or.inl rfl) (pe_op op_cat (pv 1) (pe_lst (t := tMks (tVar 0) [C 24, C 25, C 26]) (pa_cons (pe_mkK (x := "Unpaired") (hC 24 (by decide)) hr (pv 0)) (pa_cons (pe_mkK (x := "Apart") (hC 25 (by decide)) hr (pv 0)) (pa_cons (pe_mkK (x := "Refused") (hC 26 (by decide)) hr (pv 0)) pa_nil))))))
      (pss_one (ps_ret (pv 1)))))))))))), ?_⟩
    refine lst_seq (v := v) (Cs := [C 0, C 1, C 2]) (te := tVar 0) ?_ (show (3 : Nat) ≤ 16777216 by decide) fun l0 as0 H0 n0 x0 e0 p0 => ?_
    · exact (fun _ _ q => ⟨_, rfl, q⟩)
    refine cat_seq (v := v) (Cs := [C 3, C 4, C 5]) (te := tVar 0) (l0 := l0) rfl ?_ e0 p0 (show (6 : Nat) ≤ 16777216 by decide) fun l1 as1 H1 n1 x1 e1 p1 => ?_
    · exact (fun _ _ q => ⟨_, rfl, q⟩)
    have x1 := x0.trans x1
    refine cat_seq (v := v) (Cs := [C 6, C 7, C 8]) (te := tVar 0) (l0 := l1) rfl ?_ e1 p1 (show (9 : Nat) ≤ 16777216 by decide) fun l2 as2 H2 n2 x2 e2 p2 => ?_
    · exact (fun _ _ q => ⟨_, rfl, q⟩)
    have x2 := x1.trans x2
    refine cat_seq (v := v) (Cs := [C 9, C 10, C 11]) (te := tVar 0) (l0 := l2) rfl ?_ e2 p2 (show (12 : Nat) ≤ 16777216 by decide) fun l3 as3 H3 n3 x3 e3 p3 => ?_
    · exact (fun _ _ q => ⟨_, rfl, q⟩)
    have x3 := x2.trans x3
    refine cat_seq (v := v) (Cs := [C 12, C 13, C 14]) (te := tVar 0) (l0 := l3) rfl ?_ e3 p3 (show (15 : Nat) ≤ 16777216 by decide) fun l4 as4 H4 n4 x4 e4 p4 => ?_
    · exact (fun _ _ q => ⟨_, rfl, q⟩)
    have x4 := x3.trans x4
    refine cat_seq (v := v) (Cs := [C 15, C 16, C 17]) (te := tVar 0) (l0 := l4) rfl ?_ e4 p4 (show (18 : Nat) ≤ 16777216 by decide) fun l5 as5 H5 n5 x5 e5 p5 => ?_
    · exact (fun _ _ q => ⟨_, rfl, q⟩)
    have x5 := x4.trans x5
    refine cat_seq (v := v) (Cs := [C 18, C 19, C 20]) (te := tVar 0) (l0 := l5) rfl ?_ e5 p5 (show (21 : Nat) ≤ 16777216 by decide) fun l6 as6 H6 n6 x6 e6 p6 => ?_
    · exact (fun _ _ q => ⟨_, rfl, q⟩)
    have x6 := x5.trans x6
    refine cat_seq (v := v) (Cs := [C 21, C 22, C 23]) (te := tVar 0) (l0 := l6) rfl ?_ e6 p6 (show (24 : Nat) ≤ 16777216 by decide) fun l7 as7 H7 n7 x7 e7 p7 => ?_
    · exact (fun _ _ q => ⟨_, rfl, q⟩)
    have x7 := x6.trans x7
    refine cat_seq (v := v) (Cs := [C 24, C 25, C 26]) (te := tVar 0) (l0 := l7) rfl ?_ e7 p7 (show (27 : Nat) ≤ 16777216 by decide) fun l8 as8 H8 n8 x8 e8 p8 => ?_
    · exact (fun _ _ q => ⟨_, rfl, q⟩)
    have x8 := x7.trans x8
    exact ⟨_, rfl, k l8 as8 H8 x8 (pre_none x7 n8) e8 p8⟩
theorem scBare : FnScope ["_law_found"] [] (defScope sBare) := ⟨rfl, rfl, rfl, by decide +kernel, rfl, by decide +kernel, by decide +kernel⟩
theorem ok_bare (F : FnP K "_law_bare" sBare f fd) (hC : ∀ i, i < 27 → VCls P K mg (nm i) (C i)) : FnOk P w K mg base CX0 3 f fd [] (spMk0 ((List.range 27).map C)) := by
  refine F.ok scBare (fun vs H Q E h => ?_) (fun cdv A outer s H vs Q E hr h => ?_)
  · obtain ⟨rfl, _⟩ := h
    rfl
  · obtain ⟨rfl, k⟩ := h
    refine ⟨_, PSs.nox (pss_cons (ps_set (i := 0) scBare.nd rfl (Or.inl rfl) (pe_lst (t := tMks (tC .non) [C 0, C 1, C 2, C 3, C 4, C 5]) (pa_cons (pe_mk0 (x := "InvalidLamp") (hC 0 (by decide)) hr) (pa_cons (pe_mk0 (x := "InvalidLamps") (hC 1 (by decide)) hr) (pa_cons (pe_mk0 (x := "InvalidTies") (hC 2 (by decide)) hr) (pa_cons (pe_mk0 (x := "InvalidWishes") (hC 3 (by decide)) hr) (pa_cons (pe_mk0 (x := "InvalidNet") (hC 4 (by decide)) hr) (pa_cons (pe_mk0 (x := "InvalidMap") (hC 5 (by decide)) hr) pa_nil))))))))
      (pss_cons (ps_set (i := 0) scBare.nd rfl (Or.inl rfl) (pe_op op_cat (pv 0) (pe_lst (t := tMks (tC .non) [C 6, C 7, C 8, C 9, C 10]) (pa_cons (pe_mk0 (x := "InvalidSetting") (hC 6 (by decide)) hr) (pa_cons (pe_mk0 (x := "InvalidRoad") (hC 7 (by decide)) hr) (pa_cons (pe_mk0 (x := "InvalidPiece") (hC 8 (by decide)) hr) (pa_cons (pe_mk0 (x := "InvalidWork") (hC 9 (by decide)) hr) (pa_cons (pe_mk0 (x := "InvalidPoints") (hC 10 (by decide)) hr) pa_nil))))))))
      (pss_cons (ps_set (i := 0) scBare.nd rfl (Or.inl rfl) (pe_op op_cat (pv 0) (pe_lst (t := tMks (tC .non) [C 11, C 12, C 13, C 14, C 15]) (pa_cons (pe_mk0 (x := "InvalidHeights") (hC 11 (by decide)) hr) (pa_cons (pe_mk0 (x := "InvalidCount") (hC 12 (by decide)) hr) (pa_cons (pe_mk0 (x := "InvalidForm") (hC 13 (by decide)) hr) (pa_cons (pe_mk0 (x := "InvalidShow") (hC 14 (by decide)) hr) (pa_cons (pe_mk0 (x := "InvalidWeights") (hC 15 (by decide)) hr) pa_nil))))))))
      (pss_cons (ps_set (i := 0) scBare.nd rfl (Or.inl rfl) (pe_op op_cat (pv 0) (pe_lst (t := tMks (tC .non) [C 16, C 17, C 18, C 19, C 20]) (pa_cons (pe_mk0 (x := "InvalidChange") (hC 16 (by decide)) hr) (pa_cons (pe_mk0 (x := "InvalidChanges") (hC 17 (by decide)) hr) (pa_cons (pe_mk0 (x := "InvalidHall") (hC 18 (by decide)) hr) (pa_cons (pe_mk0 (x := "InvalidSpot") (hC 19 (by decide)) hr) (pa_cons (pe_mk0 (x := "InvalidScript") (hC 20 (by decide)) hr) pa_nil))))))))
      (pss_cons (ps_set (i := 0) scBare.nd rfl (Or.inl rfl) (pe_op op_cat (pv 0) (pe_lst (t := tMks (tC .non) [C 21, C 22, C 23, C 24, C 25, C 26]) (pa_cons (pe_mk0 (x := "InvalidText") (hC 21 (by decide)) hr) (pa_cons (pe_mk0 (x := "InvalidLog") (hC 22 (by decide)) hr) (pa_cons (pe_mk0 (x := "Unlike") (hC 23 (by decide)) hr) (pa_cons (pe_mk0 (x := "Unpaired") (hC 24 (by decide)) hr) (pa_cons (pe_mk0 (x := "Apart") (hC 25 (by decide)) hr) (pa_cons (pe_mk0 (x := "Refused") (hC 26 (by decide)) hr) pa_nil)))))))))
      (pss_one (ps_ret (pv 0)))))))), ?_⟩
    refine lst_seq (v := .non) (Cs := [C 0, C 1, C 2, C 3, C 4, C 5]) (te := tC .non) ?_ (show (6 : Nat) ≤ 16777216 by decide) fun l0 as0 H0 n0 x0 e0 p0 => ?_
    · exact (fun _ _ q => q)
    refine cat_seq (v := .non) (Cs := [C 6, C 7, C 8, C 9, C 10]) (te := tC .non) (l0 := l0) rfl ?_ e0 p0 (show (11 : Nat) ≤ 16777216 by decide) fun l1 as1 H1 n1 x1 e1 p1 => ?_
    · exact (fun _ _ q => q)
    have x1 := x0.trans x1
    refine cat_seq (v := .non) (Cs := [C 11, C 12, C 13, C 14, C 15]) (te := tC .non) (l0 := l1) rfl ?_ e1 p1 (show (16 : Nat) ≤ 16777216 by decide) fun l2 as2 H2 n2 x2 e2 p2 => ?_
    · exact (fun _ _ q => q)
    have x2 := x1.trans x2
    refine cat_seq (v := .non) (Cs := [C 16, C 17, C 18, C 19, C 20]) (te := tC .non) (l0 := l2) rfl ?_ e2 p2 (show (21 : Nat) ≤ 16777216 by decide) fun l3 as3 H3 n3 x3 e3 p3 => ?_
    · exact (fun _ _ q => q)
    have x3 := x2.trans x3
    refine cat_seq (v := .non) (Cs := [C 21, C 22, C 23, C 24, C 25, C 26]) (te := tC .non) (l0 := l3) rfl ?_ e3 p3 (show (27 : Nat) ≤ 16777216 by decide) fun l4 as4 H4 n4 x4 e4 p4 => ?_
    · exact (fun _ _ q => q)
    have x4 := x3.trans x4
    exact ⟨_, rfl, k l4 as4 H4 x4 (pre_none x3 n4) e4 p4⟩
end
end Law

/-! from Lk2.lean -/
set_option Elab.async false
set_option linter.all false
set_option maxRecDepth 100000
set_option maxHeartbeats 4000000
namespace Law
open PySem PySem.Spec PyProof.Rows L2 Oe
abbrev sCode : Stmt := top 41
abbrev sIsErr : Stmt := top 42
abbrev sRight : Stmt := top 43
/-- what isinstance says of an object of the class Ca and the class c -/
def kb (K : PySem.W.Frag) (Ca c : Addr) : Bool := (PySem.W.kitOne K (.ref Ca) (.ref c)).getD false
def tIsE (K : PySem.W.Frag) (c : V) : TE := tCB (rIsiE K) (tCons (tVar 0) (tCons (tC c) tNil))
theorem dok_ext {H H' : Hp} {d : Option Addr} (h : DOk H d) (x : Ext H H') : DOk H' d := fun dx e => by
  obtain ⟨fs, q⟩ := h dx e
  exact ⟨fs, x _ _ q⟩
section
variable {X : Cx} {x : Str} {c : Addr} {e : Expr} {te : TE} {p p2 p3 pos : Pos}
theorem pe_isE (hm : X.mg x = some (.ref c)) (gi : X.mg "isinstance" = none) (he : PE X e te) (hgi : Gl X "isinstance" := by rfl) (hg : Gl X x := by rfl) (hdb : (x == ("__debug__" : Str)) = false := by decide)
    (hs : starEach (e :: [Expr.Name x p3]) X.env = (false, eval e X.env) :: starEach [Expr.Name x p3] X.env := by rfl) : PE X (.Call (.Name "isinstance" p) [e, .Name x p3] [] pos) (tCB (rIsiE X.K) (tCons te (tCons (tC (.ref c)) tNil))) :=
  pe_callB call_isiE hgi gi (by decide +kernel) (pa_cons he (pa_cons (pe_glob hg hm rfl hdb) pa_nil) hs) (he := hs)
end
def tIss (K : PySem.W.Frag) : List Addr → TA
  | [] => tNil
  | C :: Cs => tCons (tCB (rIsiE K) (tCons (tVar 0) (tCons (tC (.ref C)) tNil))) (tIss K Cs)
theorem isE_read {K : PySem.W.Frag} {σ : L2.St} {H : Hp} {Q : VK} {a Ca c : Addr} {d : Option Addr} {b : Bool} {i : Nat} (h0 : σ[i]? = some (some (.ref a))) (ha : H a = some (exo a Ca d)) (hd : DOk H d) (T : ExcC K Ca) (hk : PySem.W.kitOne K (.ref Ca) (.ref c) = some b) (h : Q (.bl b) H) :
    tCB (rIsiE K) (tCons (tVar i) (tCons (tC (.ref c)) tNil)) σ H Q := ⟨_, h0, a, Ca, d, _, _, b, rfl, ha, hd, ClsV.own c, T, hk, h⟩
theorem iss_read {K : PySem.W.Frag} {σ : L2.St} {H : Hp} {a Ca : Addr} {d : Option Addr} (h0 : σ[0]? = some (some (.ref a))) (ha : H a = some (exo a Ca d)) (hd : DOk H d) (T : ExcC K Ca) :
    ∀ (Cs : List Addr) {Q : List V → Hp → Prop}, (∀ c ∈ Cs, (PySem.W.kitOne K (.ref Ca) (.ref c)).isSome = true) → Q (Cs.map fun c => V.bl (kb K Ca c)) H → tIss K Cs σ H Q
  | [], Q, hk, h => h
  | C :: Cs, Q, hk, h => by
    obtain ⟨b, e⟩ := Option.isSome_iff_exists.mp (hk C (List.mem_cons_self ..))
    have eb : kb K Ca C = b := by unfold kb; rw [e]; rfl
    refine isE_read h0 ha hd T e (iss_read h0 ha hd T Cs (fun c hc => hk c (List.mem_cons_of_mem _ hc)) ?_)
    rw [← eb]
    exact h
theorem lstP_seq {t : TA} {σ : L2.St} {H : Hp} {R : TS} {D : L2.Ends} {i : Nat} {xs : List V} (ht : ∀ H', Ext H H' → ∀ Q : List V → Hp → Prop, Q xs H' → t σ H' Q) (hl : xs.length ≤ 16777216) (f : Addr → L2.St) (hf : ∀ l, σ.set i (some (.ref l)) = f l)
    (k : ∀ l H', H l = none → Ext H H' → H' l = some (.lst xs) → R D (f l) H') : tSeq (tAsg (tLst t) (gName i)) R D σ H := by
  show tLst t σ H fun x H1 => gName i x σ H1 (R D)
  refine ht H Ext.rfl' _ ⟨hl, fun l hn => ?_⟩
  show R D (σ.set i (some (.ref l))) _
  rw [hf]
  exact k l _ hn (Ext.upd hn) upd_same
theorem catP_seq {t : TA} {σ : L2.St} {H : Hp} {R : TS} {D : L2.Ends} {i : Nat} {l0 : Addr} {xs0 xs : List V} (h1 : σ[i]? = some (some (.ref l0))) (ht : ∀ H', Ext H H' → ∀ Q : List V → Hp → Prop, Q xs H' → t σ H' Q) (e0 : H l0 = some (.lst xs0)) (hl : xs0.length + xs.length ≤ 16777216) (f : Addr → L2.St) (hf : ∀ l, σ.set i (some (.ref l)) = f l)
    (k : ∀ l H', H l = none → Ext H H' → H' l = some (.lst (xs0 ++ xs)) → R D (f l) H') : tSeq (tAsg (tOp rCat (tVar i) (tLst t)) (gName i)) R D σ H := by
  show tOp rCat (tVar i) (tLst t) σ H fun x H1 => gName i x σ H1 (R D)
  refine ⟨_, h1, ht H Ext.rfl' _ ⟨?_, fun m hm => ?_⟩⟩
  · show xs.length ≤ 16777216
    omega
  · refine ⟨l0, m, xs0, xs, rfl, rfl, Ext.upd hm _ _ e0, upd_same, hl, fun l hn => ?_⟩
    show R D (σ.set i (some (.ref l))) _
    rw [hf]
    exact k l _ (pre_none (Ext.upd hm) hn) ((Ext.upd hm).upd' hn) upd_same
/-- code(error): the places of the classes that it is of -/
def codeL (K : PySem.W.Frag) (C : Nat → Addr) (Ca : Addr) (n : Nat) : List V := ((List.range n).filter fun j => kb K Ca (C j)).map fun (j : Nat) => V.int (j : Int)
def spCode (K : PySem.W.Frag) (C : Nat → Addr) : Sp := fun vs H Q _ => ∃ (a Ca : Addr) (d : Option Addr), vs = [.ref a] ∧ H a = some (exo a Ca d) ∧ DOk H d ∧ ExcC K Ca ∧ (∀ j, j < 29 → (PySem.W.kitOne K (.ref Ca) (.ref (C j))).isSome = true) ∧
  ∀ l H', Ext H H' → H l = none → H' l = some (.lst (codeL K C Ca 29)) → Q (.ref l) H'
theorem codeL_succ {K : PySem.W.Frag} {C : Nat → Addr} {Ca : Addr} {i : Nat} : codeL K C Ca (i + 1) = codeL K C Ca i ++ (if kb K Ca (C i) = true then [V.int (i : Int)] else []) := by
  unfold codeL
  rw [List.range_succ, List.filter_append, List.map_append]
  congr 1
  cases h : kb K Ca (C i) <;> simp [h]
theorem codeL_len {K : PySem.W.Frag} {C : Nat → Addr} {Ca : Addr} {n : Nat} : (codeL K C Ca n).length ≤ n := by
  unfold codeL
  rw [List.length_map]
  have := List.length_filter_le (fun j => kb K Ca (C j)) (List.range n)
  rw [List.length_range] at this
  exact this
section
variable {P : Program} {w : World} {K : PySem.W.Frag} {mg : Str → Option Value} {base : Heap} {f : Addr} {fd : FuncData} {C : Nat → Addr}
theorem scCode : FnScope ["_law_error", "_law_found", "_law_at"] ["_law_error"] (defScope sCode) := ⟨rfl, rfl, rfl, by decide +kernel, rfl, by decide +kernel, by decide +kernel⟩
theorem ok_code (F : FnP K "_law_code" sCode f fd) (hM : ∀ i, i < 29 → mg (nm i) = some (.ref (C i))) (gIs : mg "isinstance" = none) (gL : mg "len" = none) (gR : mg "range" = none) : FnOk P w K mg base CX0 1 f fd ["_law_error"] (spCode K C) := by
  refine F.ok scCode (fun vs H Q E h => ?_) (fun cdv A outer s H vs Q E hr h => ?_)
  · obtain ⟨a, Ca, d, rfl, _⟩ := h
    rfl
  · obtain ⟨a, Ca, d, rfl, ha, hd, T, hkk, k⟩ := h
    refine ⟨_, PSs.nox (pss_cons (ps_set (i := 1) scCode.nd rfl (Or.inr rfl) (pe_lst (t := tIss K [C 0, C 1, C 2]) (pa_cons (pe_isE (x := "InvalidLamp") (hM 0 (by decide)) gIs (pv 0)) (pa_cons (pe_isE (x := "InvalidLamps") (hM 1 (by decide)) gIs (pv 0)) (pa_cons (pe_isE (x := "InvalidTies") (hM 2 (by decide)) gIs (pv 0)) pa_nil)))))
      (pss_cons (ps_set (i := 1) scCode.nd rfl (Or.inr rfl) (pe_op op_cat (pv 1) (pe_lst (t := tIss K [C 3, C 4]) (pa_cons (pe_isE (x := "InvalidWishes") (hM 3 (by decide)) gIs (pv 0)) (pa_cons (pe_isE (x := "InvalidNet") (hM 4 (by decide)) gIs (pv 0)) pa_nil)))))
      (pss_cons (ps_set (i := 1) scCode.nd rfl (Or.inr rfl) (pe_op op_cat (pv 1) (pe_lst (t := tIss K [C 5, C 6]) (pa_cons (pe_isE (x := "InvalidMap") (hM 5 (by decide)) gIs (pv 0)) (pa_cons (pe_isE (x := "InvalidSetting") (hM 6 (by decide)) gIs (pv 0)) pa_nil)))))
      (pss_cons (ps_set (i := 1) scCode.nd rfl (Or.inr rfl) (pe_op op_cat (pv 1) (pe_lst (t := tIss K [C 7, C 8]) (pa_cons (pe_isE (x := "InvalidRoad") (hM 7 (by decide)) gIs (pv 0)) (pa_cons (pe_isE (x := "InvalidPiece") (hM 8 (by decide)) gIs (pv 0)) pa_nil)))))
      (pss_cons (ps_set (i := 1) scCode.nd rfl (Or.inr rfl) (pe_op op_cat (pv 1) (pe_lst (t := tIss K [C 9, C 10]) (pa_cons (pe_isE (x := "InvalidWork") (hM 9 (by decide)) gIs (pv 0)) (pa_cons (pe_isE (x := "InvalidPoints") (hM 10 (by decide)) gIs (pv 0)) pa_nil)))))
      (pss_cons (ps_set (i := 1) scCode.nd rfl (Or.inr rfl) (pe_op op_cat (pv 1) (pe_lst (t := tIss K [C 11, C 12]) (pa_cons (pe_isE (x := "InvalidHeights") (hM 11 (by decide)) gIs (pv 0)) (pa_cons (pe_isE (x := "InvalidCount") (hM 12 (by decide)) gIs (pv 0)) pa_nil)))))
      (pss_cons (ps_set (i := 1) scCode.nd rfl (Or.inr rfl) (pe_op op_cat (pv 1) (pe_lst (t := tIss K [C 13, C 14]) (pa_cons (pe_isE (x := "InvalidForm") (hM 13 (by decide)) gIs (pv 0)) (pa_cons (pe_isE (x := "InvalidShow") (hM 14 (by decide)) gIs (pv 0)) pa_nil)))))
      (pss_cons (ps_set (i := 1) scCode.nd rfl (Or.inr rfl) (pe_op op_cat (pv 1) (pe_lst (t := tIss K [C 15, C 16]) (pa_cons (pe_isE (x := "InvalidWeights") (hM 15 (by decide)) gIs (pv 0)) (pa_cons (pe_isE (x := "InvalidChange") (hM 16 (by decide)) gIs (pv 0)) pa_nil)))))
      (pss_cons (ps_set (i := 1) scCode.nd rfl (Or.inr rfl) (pe_op op_cat (pv 1) (pe_lst (t := tIss K [C 17, C 18]) (pa_cons (pe_isE (x := "InvalidChanges") (hM 17 (by decide)) gIs (pv 0)) (pa_cons (pe_isE (x := "InvalidHall") (hM 18 (by decide)) gIs (pv 0)) pa_nil)))))
      (pss_cons (ps_set (i := 1) scCode.nd rfl (Or.inr rfl) (pe_op op_cat (pv 1) (pe_lst (t := tIss K [C 19, C 20]) (pa_cons (pe_isE (x := "InvalidSpot") (hM 19 (by decide)) gIs (pv 0)) (pa_cons (pe_isE (x := "InvalidScript") (hM 20 (by decide)) gIs (pv 0)) pa_nil)))))
      (pss_cons (ps_set (i := 1) scCode.nd rfl (Or.inr rfl) (pe_op op_cat (pv 1) (pe_lst (t := tIss K [C 21, C 22, C 23]) (pa_cons (pe_isE (x := "InvalidText") (hM 21 (by decide)) gIs (pv 0)) (pa_cons (pe_isE (x := "InvalidLog") (hM 22 (by decide)) gIs (pv 0)) (pa_cons (pe_isE (x := "Unlike") (hM 23 (by decide)) gIs (pv 0)) pa_nil))))))
      (pss_cons (ps_set (i := 1) scCode.nd rfl (Or.inr rfl) (pe_op op_cat (pv 1) (pe_lst (t := tIss K [C 24, C 25, C 26]) (pa_cons (pe_isE (x := "Unpaired") (hM 24 (by decide)) gIs (pv 0)) (pa_cons (pe_isE (x := "Apart") (hM 25 (by decide)) gIs (pv 0)) (pa_cons (pe_isE (x := "Refused") (hM 26 (by decide)) gIs (pv 0)) pa_nil))))))
      (pss_cons (ps_set (i := 1) scCode.nd rfl (Or.inr rfl) (pe_op op_cat (pv 1) (pe_lst (t := tIss K [C 27, C 28]) (pa_cons (pe_isE (x := "NothingToUndo") (hM 27 (by decide)) gIs (pv 0)) (pa_cons (pe_isE (x := "NothingToRedo") (hM 28 (by decide)) gIs (pv 0)) pa_nil)))))
      (pss_one (ps_ret (pe_lc (own := [("_law_at", 2)]) (g := gName 2) (tt := tB (tOp (rIxL K) (tVar 1) (tVar 2))) rfl scCode.nd
      (pi_range1 rfl gR (pa_cons (pe_callB call_len_seq (by rfl) gL (by decide +kernel) (pa_cons (pv 1) pa_nil)) pa_nil)) (blkOk_by (N := ["_law_error", "_law_found", "_law_at"]) (sc := defScope sCode) (by decide +kernel)) (fun _ _ _ _ _ => pg_name (i := 2) scCode.nd rfl (Or.inl rfl))
      (fun _ _ _ _ _ => pts_one (pt_val (pe_ix ix_list (pv 1) (pv 2) (fun _ _ => rfl)))) (fun _ _ _ _ _ => pv 2))))))))))))))))), ?_⟩
    have hk : ∀ (js : List Nat), (∀ j ∈ js, j < 29) → ∀ c ∈ js.map C, (PySem.W.kitOne K (.ref Ca) (.ref c)).isSome = true := fun js hj c hc => by
      obtain ⟨j, h1, rfl⟩ := List.mem_map.mp hc
      exact hkk j (hj j h1)
    refine lstP_seq (xs := [C 0, C 1, C 2].map fun c => V.bl (kb K Ca c)) (t := tIss K [C 0, C 1, C 2]) ?_ (show (3 : Nat) ≤ 16777216 by decide) (fun l => [some (.ref a), some (.ref l), none]) (fun _ => rfl) fun l0 H0 n0 x0 e0 => ?_
    · exact fun H' x Q h => iss_read rfl (x _ _ ha) (dok_ext hd x) T _ (hk [0, 1, 2] (by decide)) h
    refine catP_seq (l0 := l0) (xs0 := _) (xs := [C 3, C 4].map fun c => V.bl (kb K Ca c)) (t := tIss K [C 3, C 4]) rfl ?_ e0 (show (5 : Nat) ≤ 16777216 by decide) (fun l => [some (.ref a), some (.ref l), none]) (fun _ => rfl) fun l1 H1 n1 x1 e1 => ?_
    · exact fun H' x Q h => iss_read rfl ((x0.trans x) _ _ ha) (dok_ext hd (x0.trans x)) T _ (hk [3, 4] (by decide)) h
    have x1 := x0.trans x1
    refine catP_seq (l0 := l1) (xs0 := _) (xs := [C 5, C 6].map fun c => V.bl (kb K Ca c)) (t := tIss K [C 5, C 6]) rfl ?_ e1 (show (7 : Nat) ≤ 16777216 by decide) (fun l => [some (.ref a), some (.ref l), none]) (fun _ => rfl) fun l2 H2 n2 x2 e2 => ?_
    · exact fun H' x Q h => iss_read rfl ((x1.trans x) _ _ ha) (dok_ext hd (x1.trans x)) T _ (hk [5, 6] (by decide)) h
    have x2 := x1.trans x2
    refine catP_seq (l0 := l2) (xs0 := _) (xs := [C 7, C 8].map fun c => V.bl (kb K Ca c)) (t := tIss K [C 7, C 8]) rfl ?_ e2 (show (9 : Nat) ≤ 16777216 by decide) (fun l => [some (.ref a), some (.ref l), none]) (fun _ => rfl) fun l3 H3 n3 x3 e3 => ?_
    · exact fun H' x Q h => iss_read rfl ((x2.trans x) _ _ ha) (dok_ext hd (x2.trans x)) T _ (hk [7, 8] (by decide)) h
    have x3 := x2.trans x3
    refine catP_seq (l0 := l3) (xs0 := _) (xs := [C 9, C 10].map fun c => V.bl (kb K Ca c)) (t := tIss K [C 9, C 10]) rfl ?_ e3 (show (11 : Nat) ≤ 16777216 by decide) (fun l => [some (.ref a), some (.ref l), none]) (fun _ => rfl) fun l4 H4 n4 x4 e4 => ?_
    · exact fun H' x Q h => iss_read rfl ((x3.trans x) _ _ ha) (dok_ext hd (x3.trans x)) T _ (hk [9, 10] (by decide)) h
    have x4 := x3.trans x4
    refine catP_seq (l0 := l4) (xs0 := _) (xs := [C 11, C 12].map fun c => V.bl (kb K Ca c)) (t := tIss K [C 11, C 12]) rfl ?_ e4 (show (13 : Nat) ≤ 16777216 by decide) (fun l => [some (.ref a), some (.ref l), none]) (fun _ => rfl) fun l5 H5 n5 x5 e5 => ?_
    · exact fun H' x Q h => iss_read rfl ((x4.trans x) _ _ ha) (dok_ext hd (x4.trans x)) T _ (hk [11, 12] (by decide)) h
    have x5 := x4.trans x5
    refine catP_seq (l0 := l5) (xs0 := _) (xs := [C 13, C 14].map fun c => V.bl (kb K Ca c)) (t := tIss K [C 13, C 14]) rfl ?_ e5 (show (15 : Nat) ≤ 16777216 by decide) (fun l => [some (.ref a), some (.ref l), none]) (fun _ => rfl) fun l6 H6 n6 x6 e6 => ?_
    · exact fun H' x Q h => iss_read rfl ((x5.trans x) _ _ ha) (dok_ext hd (x5.trans x)) T _ (hk [13, 14] (by decide)) h
    have x6 := x5.trans x6
    refine catP_seq (l0 := l6) (xs0 := _) (xs := [C 15, C 16].map fun c => V.bl (kb K Ca c)) (t := tIss K [C 15, C 16]) rfl ?_ e6 (show (17 : Nat) ≤ 16777216 by decide) (fun l => [some (.ref a), some (.ref l), none]) (fun _ => rfl) fun l7 H7 n7 x7 e7 => ?_
    · exact fun H' x Q h => iss_read rfl ((x6.trans x) _ _ ha) (dok_ext hd (x6.trans x)) T _ (hk [15, 16] (by decide)) h
    have x7 := x6.trans x7
    refine catP_seq (l0 := l7) (xs0 := _) (xs := [C 17, C 18].map fun c => V.bl (kb K Ca c)) (t := tIss K [C 17, C 18]) rfl ?_ e7 (show (19 : Nat) ≤ 16777216 by decide) (fun l => [some (.ref a), some (.ref l), none]) (fun _ => rfl) fun l8 H8 n8 x8 e8 => ?_
    · exact fun H' x Q h => iss_read rfl ((x7.trans x) _ _ ha) (dok_ext hd (x7.trans x)) T _ (hk [17, 18] (by decide)) h
    have x8 := x7.trans x8
    refine catP_seq (l0 := l8) (xs0 := _) (xs := [C 19, C 20].map fun c => V.bl (kb K Ca c)) (t := tIss K [C 19, C 20]) rfl ?_ e8 (show (21 : Nat) ≤ 16777216 by decide) (fun l => [some (.ref a), some (.ref l), none]) (fun _ => rfl) fun l9 H9 n9 x9 e9 => ?_
    · exact fun H' x Q h => iss_read rfl ((x8.trans x) _ _ ha) (dok_ext hd (x8.trans x)) T _ (hk [19, 20] (by decide)) h
    have x9 := x8.trans x9
    refine catP_seq (l0 := l9) (xs0 := _) (xs := [C 21, C 22, C 23].map fun c => V.bl (kb K Ca c)) (t := tIss K [C 21, C 22, C 23]) rfl ?_ e9 (show (24 : Nat) ≤ 16777216 by decide) (fun l => [some (.ref a), some (.ref l), none]) (fun _ => rfl) fun l10 H10 n10 x10 e10 => ?_
    · exact fun H' x Q h => iss_read rfl ((x9.trans x) _ _ ha) (dok_ext hd (x9.trans x)) T _ (hk [21, 22, 23] (by decide)) h
    have x10 := x9.trans x10
    refine catP_seq (l0 := l10) (xs0 := _) (xs := [C 24, C 25, C 26].map fun c => V.bl (kb K Ca c)) (t := tIss K [C 24, C 25, C 26]) rfl ?_ e10 (show (27 : Nat) ≤ 16777216 by decide) (fun l => [some (.ref a), some (.ref l), none]) (fun _ => rfl) fun l11 H11 n11 x11 e11 => ?_
    · exact fun H' x Q h => iss_read rfl ((x10.trans x) _ _ ha) (dok_ext hd (x10.trans x)) T _ (hk [24, 25, 26] (by decide)) h
    have x11 := x10.trans x11
    refine catP_seq (l0 := l11) (xs0 := _) (xs := [C 27, C 28].map fun c => V.bl (kb K Ca c)) (t := tIss K [C 27, C 28]) rfl ?_ e11 (show (29 : Nat) ≤ 16777216 by decide) (fun l => [some (.ref a), some (.ref l), none]) (fun _ => rfl) fun l12 H12 n12 x12 e12 => ?_
    · exact fun H' x Q h => iss_read rfl ((x11.trans x) _ _ ha) (dok_ext hd (x11.trans x)) T _ (hk [27, 28] (by decide)) h
    have x12 := x11.trans x12
    refine ⟨_, rfl, l12, _, rfl, .inl (SqL.of e12), 29, rfl, by decide, by decide, fun D hD => ?_⟩
    show ∃ W : Nat → Nat → Hp → Prop, _
    have eL : H12 l12 = some (.lst ((List.range 29).map fun j => V.bl (kb K Ca (C j)))) := e12
    refine lc_range (lo := 0) (n := 29) (fun i H' => H' D = some (.lst (codeL K C Ca i)) ∧ Ext H12 H') ⟨upd_same, Ext.upd hD⟩ ?_ ?_
    · rintro i H' hi ⟨h1, h2⟩
      have hl : H' l12 = some (.lst ((List.range 29).map fun j => V.bl (kb K Ca (C j)))) := h2 _ _ eL
      refine ⟨rfl, _, rfl, _, rfl, l12, _, (0 : Int) + i, _, rfl, rfl, SqL.of hl, ?_, kb K Ca (C i), rfl, ?_⟩
      · unfold atI ixN
        rw [if_pos (by omega), if_pos (by rw [List.length_map, List.length_range]; omega)]
        show ((List.range 29).map fun j => V.bl (kb K Ca (C j)))[((0 : Int) + i).toNat]? = _
        rw [show ((0 : Int) + i).toNat = i by omega, List.getElem?_map, List.getElem?_range hi]
        rfl
      · have sc := codeL_succ (K := K) (C := C) (Ca := Ca) (i := i)
        refine ite2 (fun hb => ?_) (fun hb => ?_)
        · rw [if_pos hb] at sc
          refine ⟨_, rfl, _, h1, Nat.lt_of_le_of_lt codeL_len (by show i < 16777216; omega), ?_, fun b o e => ?_⟩
          · rw [upd_same, sc]
            show some (HO.lst (codeL K C Ca i ++ [V.int ((0 : Int) + i)])) = _
            rw [Int.zero_add]
          · have : b ≠ D := fun z => by
              rw [z, hD] at e
              cases e
            exact (upd_ne this).trans (h2 b o e)
        · rw [if_neg hb, List.append_nil] at sc
          exact ⟨by rw [sc]; exact h1, h2⟩
    · rintro H' ⟨h1, h2⟩
      exact k D H' (x12.trans h2) (pre_none x12 hD) h1
end
end Law

/-! from Lk3.lean -/
set_option Elab.async false
set_option linter.all false
set_option maxRecDepth 100000
set_option maxHeartbeats 4000000
namespace Law
open PySem PySem.Spec PyProof.Rows L2 Oe
/-- is_error(error) -/
def spIsErr (K : PySem.W.Frag) (L : Addr) : Sp := fun vs H Q _ => ∃ (a Ca : Addr) (d : Option Addr), vs = [.ref a] ∧ H a = some (exo a Ca d) ∧ DOk H d ∧ ExcC K Ca ∧ PySem.W.kitOne K (.ref Ca) (.ref L) = some true ∧ PySem.W.kitOne K (.ref Ca) (.type "ValueError") = some true ∧ Q (.bl true) H
/-- what stands of the error classes -/
structure Cls (K : PySem.W.Frag) (C : Nat → Addr) (L : Addr) (i : Nat) : Prop where
  exc : ExcC K (C i)
  xf : XfC K (C i)
  nov : i < 27 → PySem.W.findIn K (.ref (C i)) "value" = some none
  kit : ∀ j, j < 29 → PySem.W.kitOne K (.ref (C i)) (.ref (C j)) = some (decide (i = j))
  kL : PySem.W.kitOne K (.ref (C i)) (.ref L) = some true
  kV : PySem.W.kitOne K (.ref (C i)) (.type "ValueError") = some true
/-- right(some, noted) -/
def spRight (C : Nat → Addr) : Sp := fun vs H Q _ => ∃ (l : Addr) (as : List Addr) (v : V) (d : PyData), vs = [.ref l, .str d.shown] ∧ H l = some (.lst (as.map V.ref)) ∧ Paired (ErrAt H v) ((List.range 27).map C) as ∧ Dr H v d ∧ d.showable = true ∧ d.depth ≤ 60 ∧ d.shown.length ≤ sizeLine ∧
  ∀ H', Ext H H' → Q (.bl true) H'
theorem dr_ext {H H' : Hp} (x : Ext H H') {v : V} {d : PyData} (h : Dr H v d) : Dr H' v d := by
  refine Dr.rec (H := H) (motive_1 := fun v d _ => Dr H' v d) (motive_2 := fun vs ds _ => DrAll H' vs ds) ?_ ?_ ?_ ?_ ?_ ?_ ?_ ?_ ?_ h
  · exact .non
  · exact fun b => .bl b
  · exact fun i => .int i
  · exact fun x => .str x
  · exact fun e _ a => .lst (x _ _ e) a
  · exact fun e _ a => .tup (x _ _ e) a
  · exact fun e _ a => .dct (x _ _ e) a
  · exact .nil
  · exact fun _ _ a b => .cons a b
theorem dpAll_of {K : PySem.W.Frag} {H : Hp} {g : Nat → PyData} : ∀ (acc : List V) (n : Nat), (∀ j v, acc[j]? = some v → Dp K H v (g (n + j))) → DpAll K H acc ((List.range' n acc.length).map g)
  | [], _, _ => .nil
  | v :: acc, n, h => by
    refine .cons (h 0 v rfl) (dpAll_of acc (n + 1) fun j u e => ?_)
    have z := h (j + 1) u e
    rw [show n + (j + 1) = n + 1 + j by omega] at z
    exact z
/-- lists of one number each -/
def ones (K : PySem.W.Frag) (H : Hp) (D : Addr) (acc : List V) : Prop := ∀ (j : Nat) (v : V), acc[j]? = some v → ∃ l, v = .ref l ∧ l ≠ D ∧ H l = some (.lst [.int (j : Int)])
theorem ones_nil {K : PySem.W.Frag} {H : Hp} {D : Addr} : ones K H D [] := fun j v e => by simp at e
theorem ones_snoc {K : PySem.W.Frag} {H H' : Hp} {D l : Addr} {acc : List V} (h : ones K H D acc) (x : Ext H H') (ne : l ≠ D) (e : H' l = some (.lst [.int (acc.length : Int)])) : ones K (upd H' D (.lst (acc ++ [.ref l]))) D (acc ++ [.ref l]) := fun j v q => by
  by_cases hj : j < acc.length
  · rw [List.getElem?_append_left hj] at q
    obtain ⟨l', rfl, n', e'⟩ := h j v q
    exact ⟨l', rfl, n', (upd_ne n').trans (x _ _ e')⟩
  · have hj' : j = acc.length := by
      have := List.getElem?_eq_some_iff.mp q
      obtain ⟨z, _⟩ := this
      rw [List.length_append] at z
      have z : j < acc.length + 1 := z
      omega
    subst hj'
    rw [List.getElem?_append_right (Nat.le_refl _), Nat.sub_self] at q
    cases q
    exact ⟨l, rfl, ne, (upd_ne ne).trans e⟩
def onesD (n : Nat) : PyData := .list ((List.range' 0 n).map fun (j : Nat) => .list [.int (j : Int)])
theorem ones_dp {K : PySem.W.Frag} {H : Hp} {D : Addr} {acc : List V} (e : H D = some (.lst acc)) (h : ones K H D acc) : Dp K H (.ref D) (onesD acc.length) := by
  refine .lst (SqL.of e) (dpAll_of (g := fun j => PyData.list [.int (j : Int)]) acc 0 fun j v q => ?_)
  obtain ⟨l, rfl, n, e'⟩ := h j v q
  rw [Nat.zero_add]
  exact .lst (SqL.of e') (.cons (.int _) .nil)
theorem ones_ext {K : PySem.W.Frag} {H H' : Hp} {D : Addr} {acc : List V} (h : ones K H D acc) (x : Ext H H') : ones K H' D acc := fun j v q => by
  obtain ⟨l, a, b, c⟩ := h j v q
  exact ⟨l, a, b, x _ _ c⟩
theorem paired_at {α β : Type} {R : α → β → Prop} : ∀ {l1 : List α} {l2 : List β}, Paired R l1 l2 → ∀ (i : Nat) (b : β), l2[i]? = some b → ∃ a, l1[i]? = some a ∧ R a b
  | _, _, .nil, i, b, e => by simp at e
  | _, _, .cons (a := a) h t, 0, b, e => by cases e; exact ⟨a, rfl, h⟩
  | _, _, .cons h t, i + 1, b, e => paired_at t i b e
theorem codeL_one {K : PySem.W.Frag} {C : Nat → Addr} {L : Addr} {i : Nat} (hi : i < 29) (h : Cls K C L i) : codeL K C (C i) 29 = [V.int (i : Int)] := by
  have e : ∀ n, n ≤ 29 → codeL K C (C i) n = if i < n then [V.int (i : Int)] else [] := fun n => by
    induction n with
    | zero => intro _; rfl
    | succ n ih =>
      intro hn
      have kb1 : kb K (C i) (C n) = decide (i = n) := by unfold kb; rw [h.kit n (by omega)]; rfl
      rw [codeL_succ, ih (by omega), kb1]
      by_cases h1 : i < n
      · rw [if_pos h1, if_neg (show ¬ decide (i = n) = true by simp; omega), if_pos (show i < n + 1 by omega)]; rfl
      · rw [if_neg h1]
        by_cases h2 : i = n
        · subst h2
          rw [if_pos (show decide (i = i) = true by simp), if_pos (show i < i + 1 by omega)]; rfl
        · rw [if_neg (show ¬ decide (i = n) = true by simp [h2]), if_neg (show ¬ i < n + 1 by omega)]; rfl
  rw [e 29 (Nat.le_refl _), if_pos hi]
section
variable {P : Program} {w : World} {K : PySem.W.Frag} {mg : Str → Option Value} {base : Heap} {f : Addr} {fd : FuncData} {C : Nat → Addr} {L : Addr}
theorem scIsErr : FnScope ["_law_error"] ["_law_error"] (defScope sIsErr) := ⟨rfl, rfl, rfl, by decide +kernel, rfl, by decide +kernel, by decide +kernel⟩
theorem ok_isErr (F : FnP K "_law_is_error" sIsErr f fd) (gL : mg "LampError" = some (.ref L)) (gV : mg "ValueError" = none) (gIs : mg "isinstance" = none) : FnOk P w K mg base CX0 1 f fd ["_law_error"] (spIsErr K L) := by
  refine F.ok scIsErr (fun vs H Q E h => ?_) (fun cdv A outer s H vs Q E hr h => ?_)
  · obtain ⟨a, Ca, d, rfl, _⟩ := h
    rfl
  · obtain ⟨a, Ca, d, rfl, ha, hd, T, h1, h2, k⟩ := h
    refine ⟨_, PSs.nox (pss_one (ps_ret (pe_and (pe_isE (x := "LampError") gL gIs (pv 0)) (pe_one (pe_callB call_isiE (by rfl) gIs (by decide +kernel) (pa_cons (pv 0) (pa_cons (pe_bltn (v := .ty "ValueError") rfl gV boot_ValueError rfl) pa_nil))))))), ?_⟩
    refine isE_read (b := true) rfl ha hd T h1 ⟨true, rfl, ?_⟩
    exact ⟨_, rfl, a, Ca, d, _, _, true, rfl, ha, hd, ClsV.ty "ValueError", T, h2, k⟩
theorem scRight : FnScope ["_law_some", "_law_noted", "_law_error", "_law_at"] ["_law_some", "_law_noted"] (defScope sRight) := ⟨rfl, rfl, rfl, by decide +kernel, rfl, by decide +kernel, by decide +kernel⟩
theorem ok_right {fC fE : Addr} {fdC fdE : FuncData} (F : FnP K "_law_right" sRight f fd) (FC : FnP K "_law_code" sCode fC fdC) (FE : FnP K "_law_is_error" sIsErr fE fdE) (gC : mg "_law_code" = some (.ref fC)) (gE : mg "_law_is_error" = some (.ref fE))
    (hM : ∀ i, i < 29 → mg (nm i) = some (.ref (C i))) (hCl : ∀ i, i < 27 → Cls K C L i) (gLE : mg "LampError" = some (.ref L)) (gV : mg "ValueError" = none) (gIs : mg "isinstance" = none) (gL : mg "len" = none) (gR : mg "range" = none) (gRe : mg "repr" = none) (hs : ∃ o, K.lookup sysModules = some o) :
    FnOkG P w K mg base 2 f fd ["_law_some", "_law_noted"] (spRight C) := by
  have GC : FnOk P w K mg base CX0 1 fC fdC ["_law_error"] (spCode K C) := ok_code FC hM gIs gL gR
  have GE : FnOk P w K mg base CX0 1 fE fdE ["_law_error"] (spIsErr K L) := ok_isErr FE gLE gV gIs
  have bC : Binds K fdC ["_law_error"] [] := FC.bindsN fun _ _ _ _ _ _ us hl => match us, hl with | [_], _ => rfl
  have bE : Binds K fdE ["_law_error"] [] := FE.bindsN fun _ _ _ _ _ _ us hl => match us, hl with | [_], _ => rfl
  refine F.okG scRight (fun vs H Q E h => ?_) (fun cdv A outer s H vs Q E hg hr h => ?_)
  · obtain ⟨l, as, v, d, rfl, _⟩ := h
    rfl
  · obtain ⟨l, as, v, d, rfl, hl, hp, hd, d1, d2, d3, k⟩ := h
    have hlen : as.length = 27 := by rw [← hp.length, List.length_map, List.length_range]
    have at_ : ∀ (i : Nat) (x : V), (as.map V.ref)[i]? = some x → ∃ a dx, i < 27 ∧ x = .ref a ∧ H a = some (exo a (C i) (some dx)) ∧ H dx = some (exd dx [("value", v)]) := fun i x e => by
      rw [List.getElem?_map] at e
      cases ea : as[i]? with
      | none => rw [ea] at e; cases e
      | some a =>
        rw [ea] at e
        obtain ⟨c, ec, dx, q1, q2⟩ := paired_at hp i a ea
        have hi : i < 27 := by
          have := (List.getElem?_eq_some_iff.mp ea).1
          omega
        rw [List.getElem?_map, List.getElem?_range hi] at ec
        cases ec
        cases e
        exact ⟨a, dx, hi, rfl, q1, q2⟩
    refine ⟨_, PSs.nox (pss_cons (ps_if (pt_cmpR (op_neD hr.units) (pe_lc (own := [("_law_error", 2)]) (g := gName 2) (tt := tYes) rfl scRight.nd (pi_list (pv 0)) (blkOk_by (N := ["_law_some", "_law_noted", "_law_error", "_law_at"]) (sc := defScope sRight) (by decide +kernel)) (fun _ _ _ _ _ => pg_name (i := 2) scRight.nd rfl (Or.inl rfl)) (fun _ _ _ _ _ => pts_nil)
            (fun _ _ _ _ _ => pe_call GC hr rfl gC FC.kp bC .nil pass0 (pa_cons (pv 2) pa_nil)))
          (pe_lc (own := [("_law_at", 3)]) (g := gName 3) (tt := tYes) rfl scRight.nd (pi_range1 rfl gR (pa_cons pe_int pa_nil)) (blkOk_by (N := ["_law_some", "_law_noted", "_law_error", "_law_at"]) (sc := defScope sRight) (by decide +kernel)) (fun _ _ _ _ _ => pg_name (i := 3) scRight.nd rfl (Or.inl rfl)) (fun _ _ _ _ _ => pts_nil)
            (fun _ _ _ _ _ => pe_lst (pa_cons (pv 3) pa_nil))) (nomark _))
        (pss_one (ps_ret pe_bl)) pss_nil)
      (pss_one (ps_ret (pe_cmpR (op_eqD hr.units) (pe_lc (own := [("_law_error", 2)]) (g := gName 2) (tt := tOr (tNot (tB (tCall (spIsErr K L) [] E0 (tCons (tVar 2) tNil)))) (tB (tOp rNe (tCB rRepr (tCons (tVal K "value" (tVar 2)) tNil)) (tVar 1)))) rfl scRight.nd (pi_list (pv 0)) (blkOk_by (N := ["_law_some", "_law_noted", "_law_error", "_law_at"]) (sc := defScope sRight) (by decide +kernel)) (fun _ _ _ _ _ => pg_name (i := 2) scRight.nd rfl (Or.inl rfl))
          (fun _ _ _ _ _ => pts_one (PW.pt (pw_or (pt_not (pt_val (pe_call GE hr rfl gE FE.kp bE .nil pass0 (pa_cons (pv 2) pa_nil)))) (pw_or1 (pt_cmpR op_ne (pe_callB (call_repr hg hr.units hs) (by rfl) gRe (by decide +kernel) (pa_cons (pe_val (pv 2)) pa_nil)) (pv 1) (nomark _))))))
          (fun _ _ _ _ _ => pv 2)) (pe_lst pa_nil) (nomark _))))), ?_⟩
    refine ⟨_, rfl, l, rfl, ⟨_, SqL.of hl⟩, fun D hD => ?_⟩
    show ∃ W : Nat → Nat → Hp → Prop, _
    refine lc_list (xs := as.map V.ref) (fun i H' => ∃ acc : List V, acc.length = i ∧ H' D = some (.lst acc) ∧ Ext H H' ∧ ones K H' D acc) ⟨[], rfl, upd_same, Ext.upd hD, ones_nil⟩ (fun i H' _ p => by
      obtain ⟨acc, _, _, hx, _⟩ := p
      exact SqL.of (hx _ _ hl)) ?_ ?_
    · rintro i x H' e ⟨acc, hal, h1, hx, ho⟩
      obtain ⟨a, dx, hi, rfl, q1, q2⟩ := at_ i x e
      refine ⟨rfl, _, rfl, a, C i, some dx, rfl, hx _ _ q1, fun d' e' => by cases e'; exact ⟨_, hx _ _ q2⟩, (hCl i hi).exc, fun j hj => by rw [(hCl i hi).kit j hj]; rfl, fun m H2 x2 n2 e2 => ?_⟩
      have ne : m ≠ D := fun z => by
        rw [z, h1] at n2
        cases n2
      rw [codeL_one (by omega) (hCl i hi)] at e2
      refine ⟨acc, x2 _ _ h1, by show acc.length < 16777216; omega, acc ++ [.ref m], by simp [hal], upd_same, fun b o eb => ?_, ones_snoc ho x2 ne (by rw [hal]; exact e2)⟩
      have : b ≠ D := ne_of_none eb hD
      exact (upd_ne this).trans (x2 _ _ (hx _ _ eb))
    rintro H1 ⟨acc, hal, h1, hx, ho⟩
    refine ⟨27, rfl, by decide, by decide, fun D2 hD2 => ?_⟩
    show ∃ W : Nat → Nat → Hp → Prop, _
    refine lc_range (lo := 0) (n := 27) (fun i H' => ∃ acc2 : List V, acc2.length = i ∧ H' D2 = some (.lst acc2) ∧ Ext H1 H' ∧ ones K H' D2 acc2) ⟨[], rfl, upd_same, Ext.upd hD2, ones_nil⟩ ?_ ?_
    · rintro i H' hi ⟨acc2, hal2, h2, hx2, ho2⟩
      refine ⟨rfl, _, rfl, (show (1 : Nat) ≤ 16777216 by decide), fun m hm => ?_⟩
      have ne : m ≠ D2 := fun z => by
        rw [z, h2] at hm
        cases hm
      refine ⟨acc2, Ext.upd hm _ _ h2, by show acc2.length < 16777216; omega, acc2 ++ [.ref m], by simp [hal2], upd_same, fun b o eb => ?_, ones_snoc ho2 (Ext.upd hm) ne (by rw [upd_same, hal2]; show some (HO.lst [V.int ((0 : Int) + i)]) = _; rw [Int.zero_add])⟩
      have : b ≠ D2 := ne_of_none eb hD2
      exact (upd_ne this).trans (Ext.upd hm _ _ (hx2 _ _ eb))
    rintro H2 ⟨acc2, hal2, h2, hx2, ho2⟩
    have x02 : Ext H H2 := hx.trans hx2
    have hal' : acc.length = 27 := by rw [hal, List.length_map, hlen]
    have dp1 : Dp K H2 (.ref D) (onesD 27) := by
      have z := ones_dp (hx2 _ _ h1) (ones_ext ho hx2)
      rw [hal'] at z
      exact z
    have dp2 : Dp K H2 (.ref D2) (onesD 27) := by
      have z := ones_dp h2 ho2
      rw [hal2] at z
      exact z
    have eqt : PyData.eqv (onesD 27) (onesD 27) = true := by decide +kernel
    refine ⟨onesD 27, onesD 27, dp1, dp2, by decide +kernel, by decide +kernel, _, rfl, ?_⟩
    rw [eqt]
    refine ⟨_, rfl, l, rfl, ⟨_, SqL.of (x02 _ _ hl)⟩, fun D3 hD3 => ?_⟩
    show ∃ W : Nat → Nat → Hp → Prop, _
    refine lc_list (xs := as.map V.ref) (fun i H' => H' D3 = some (.lst []) ∧ Ext H2 H') ⟨upd_same, Ext.upd hD3⟩ (fun i H' _ p => SqL.of (p.2 _ _ (x02 _ _ hl))) ?_ ?_
    · rintro i x H' e ⟨h3, hx3⟩
      obtain ⟨a, dx, hi, rfl, q1, q2⟩ := at_ i x e
      have xx : Ext H H' := x02.trans hx3
      refine ⟨rfl, _, rfl, a, C i, some dx, rfl, xx _ _ q1, fun d' e' => by cases e'; exact ⟨_, xx _ _ q2⟩, (hCl i hi).exc, (hCl i hi).kL, (hCl i hi).kV, true, rfl, ?_⟩
      refine ⟨_, rfl, a, C i, dx, _, v, rfl, (hCl i hi).xf, (hCl i hi).nov hi, xx _ _ q1, xx _ _ q2, rfl, v, d, rfl, dr_ext xx hd, d1, d2, d3, _, rfl, rfl, _, rfl, ?_⟩
      rw [decide_eq_true (rfl : V.str d.shown = V.str d.shown)]
      exact ⟨h3, hx3⟩
    rintro H3 ⟨h3, hx3⟩
    refine ⟨(show (0 : Nat) ≤ 16777216 by decide), fun m hm => ?_⟩
    have eq0 : PyData.eqv (.list []) (.list []) = true := by decide +kernel
    refine ⟨.list [], .list [], .lst (SqL.of (Ext.upd hm _ _ h3)) .nil, .lst (SqL.of upd_same) .nil, by decide +kernel, by decide +kernel, ?_⟩
    rw [eq0]
    exact k _ ((x02.trans hx3).upd' hm)
end
end Law

/-! from Hk.lean -/
set_option Elab.async false
set_option linter.all false
set_option maxRecDepth 100000
set_option maxHeartbeats 2000000
/-! a head's Hook that also looks at two places that no name of the module reaches, and the facts of own exception classes -/
namespace Ho
open PySem PySem.Spec PyProof.Rows L2 Oe He
open PySem.W (Frag findIn typeIn specialIn takesIn clsIn subIn mroIn nsIn keepIn kitOne kitCls ks_superIn)
def asO (g : Addr → Option Obj) (n : Nat) : List Addr := cStatics :: sysModules :: asD g n
abbrev FnO : Type := Option (Str × Str × Arguments × FuncBody × Scope × Addr × List Str × Addr)
def fnO (K : Frag) (p : Str × Option Str) : FnO := match K.lookup (fAd K p) with
  | some ⟨_, _, .func fd, _⟩ => some (fd.name, fd.qualname, fd.params, fd.body, fd.scope, fd.globals, fd.closure.map (·.1), fd.builtins)
  | _ => none
/-- an own error's __init__: the class, the qualified name, the text -/
structure InD where
  cls : Str
  qual : Str
  st : Stmt
def InD.val (d : InD) : FnO := some ("__init__", d.qual, defArgs d.st, .stmts (defBody d.st), defScope d.st, mainGlobals, ["__class__"], builtinsNs)
abbrev AlO : Type := AlD × Bool × List FnO
def obsO (fa : List Fa) (fn : List DefD) (ins : List InD) (ex : Frag → Bool) (K : Frag) : AlO := (obsD fa fn K, ex K, ins.map fun d => fnO K (d.cls, some "__init__"))
def valO (fn : List DefD) (ins : List InD) : AlO := (valD fn, true, ins.map InD.val)
def obsOG (n : Nat) (fa : List Fa) (fn : List DefD) (ins : List InD) (ex : Frag → Bool) (g : Addr → Option Obj) : AlO := obsO fa fn ins ex (frG g (asO g n))
def SaysO (fa : List Fa) (fn : List DefD) (ins : List InD) (ex : Frag → Bool) (K : Frag) : Prop := obsO fa fn ins ex K = valO fn ins
def hookO (n : Nat) (fa : List Fa) (fn : List DefD) (ins : List InD) (ex : Frag → Bool) : PySem.W.Hook where
  α := AlO
  obs := fun s => obsOG n fa fn ins ex s.heap.get?
  val := fun _ => valO fn ins
  says := fun _ h => ∃ K : Frag, K.In h ∧ SaysO fa fn ins ex K
  of := fun _ _ e => ⟨_, frG_in, e⟩
  keeps := fun _ _ _ ⟨K, hK, c⟩ k => ⟨K, PySem.W.Frag.In.keeps hK k, c⟩
theorem obsOG_eq {n : Nat} {fa : List Fa} {fn : List DefD} {ins : List InD} {ex : Frag → Bool} {g : Addr → Option Obj} {s : Shared} (h : ∀ a, g a = s.heap.get? a) : obsOG n fa fn ins ex g = (hookO n fa fn ins ex).obs s := by
  have e : g = s.heap.get? := funext h
  rw [e] <;> rfl
section
variable {fa : List Fa} {fn : List DefD} {ins : List InD} {ex : Frag → Bool} {K : Frag}
theorem SaysO.d (c : SaysO fa fn ins ex K) : SaysD fa fn K := congrArg (fun z : AlO => z.1) c
theorem SaysO.more (c : SaysO fa fn ins ex K) : ex K = true := congrArg (fun z : AlO => z.2.1) c
theorem SaysO.ini (c : SaysO fa fn ins ex K) (i : Nat) {d : InD} (h : ins[i]? = some d) : fnO K (d.cls, some "__init__") = d.val := by
  have e : ins.map (fun d => fnO K (d.cls, some "__init__")) = ins.map InD.val := congrArg (fun z : AlO => z.2.2) c
  have e2 : (ins.map fun d => fnO K (d.cls, some "__init__"))[i]? = (ins.map InD.val)[i]? := by rw [e]
  rw [List.getElem?_map, List.getElem?_map, h] at e2
  exact Option.some.inj e2
end
/-! ### an own error class -/
def clB (K : Frag) (C : Addr) (bm : List Value) : Bool := (match K.lookup C with
  | some ⟨.type ct, dd, .cls cd, sl⟩ => (match sl.toList with
    | [_, _, _, _, some (.builtin n), _] => decide (ct = "type") && (decide (n = "ValueError.__new__") && (!cd.hasDel && (cd.hasDict && decide (cd.mro = .ref C :: bm))))
    | _ => false)
  | _ => false)
def clM (K : Frag) (C : Addr) : Bool := eqO (findIn K (.ref C) "__setattr__") (some (some (.builtin "object.__setattr__"))) && (keepIn K (.ref C) && (eqO (findIn K (.ref C) "__getattribute__") (some (some (.builtin "BaseException.__getattribute__"))) &&
  (eqO (findIn K (.ref C) "__getattr__") (some none) && eqO (findIn K (.ref C) "__class__") (some (some (.builtin "object.__class__"))))))
/-- said once -/
def clX (K : Frag) : Bool := eqO (specialIn K (.builtin "object.__class__") "__get__") (some (some (.builtin "getset_descriptor.__get__"))) && (decide (takesIn K (.builtin "object.__class__") = some true) &&
  (eqO (nsIn K cStatics "thirdparty.any") (some none) && (K.lookup sysModules).isSome))
structure ClT (K : Frag) (C : Addr) (bm : List Value) : Prop where
  obj : ∃ nm q N bs sn sub ab col dd k0 k1 k2 k3 k5, K.lookup C = some (excClassObj nm q C N bs bm true sn sub ab col dd k0 k1 k2 k3 k5 "ValueError.__new__")
  sa : findIn K (.ref C) "__setattr__" = some (some (.builtin "object.__setattr__"))
  kC : keepIn K (.ref C) = true
  ga : findIn K (.ref C) "__getattribute__" = some (some (.builtin "BaseException.__getattribute__"))
  gg : findIn K (.ref C) "__getattr__" = some none
  ha : findIn K (.ref C) "__class__" = some (some (.builtin "object.__class__"))
section
variable {K : Frag} {C D : Addr} {bm bmD : List Value}
theorem clT_of (h : clB K C bm = true) (m : clM K C = true) : ClT K C bm := by
  obtain ⟨m1, m⟩ := ba m
  obtain ⟨m2, m⟩ := ba m
  obtain ⟨m3, m⟩ := ba m
  obtain ⟨m4, m5⟩ := ba m
  refine ⟨?_, eqO_ok m1, m2, eqO_ok m3, eqO_ok m4, eqO_ok m5⟩
  unfold clB at h
  split at h
  · rename_i ct dd cd sl ho
    split at h
    · rename_i k0 k1 k2 k3 n k5 hs
      obtain ⟨h1, h⟩ := ba h
      obtain ⟨h2, h⟩ := ba h
      obtain ⟨h3, h⟩ := ba h
      obtain ⟨h4, h5⟩ := ba h
      have e1 : ct = "type" := of_decide_eq_true h1
      have e2 : n = "ValueError.__new__" := of_decide_eq_true h2
      have e5 : cd.mro = .ref C :: bm := of_decide_eq_true h5
      obtain ⟨nm, bs, mro, ns, qn, hd, sn, sub, ab, col, del⟩ := cd
      simp only [Bool.not_eq_true'] at h3
      dsimp only at e5 h3 h4
      subst e1 e2 e5 h3 h4
      have hsl : sl = #[k0, k1, k2, k3, some (.builtin "ValueError.__new__"), k5] := by
        obtain ⟨l⟩ := sl
        simp only at hs
        rw [hs]
      subst hsl
      exact ⟨nm, qn, ns, bs, sn, sub, ab, col, dd, k0, k1, k2, k3, k5, ho⟩
    · cases h
  · cases h
theorem ClT.cls (T : ClT K C bm) : ∃ cd, clsIn K C = some cd ∧ cd.mro = .ref C :: bm ∧ cd.hasDict = true := by
  obtain ⟨nm, q, N, bs, sn, sub, ab, col, dd, k0, k1, k2, k3, k5, e⟩ := T.obj
  have h : clsIn K C = some { name := nm, bases := bs, mro := .ref C :: bm, ns := N, qualname := q, hasDict := true, slotNames := sn, subclasses := sub, abstract := ab, collection := col, hasDel := false } := by
    unfold clsIn
    rw [e]
  exact ⟨_, h, rfl, rfl⟩
theorem ClT.mro (T : ClT K C bm) (b : Value) : mroIn K C b = some ((Value.ref C :: bm).contains b) := by
  obtain ⟨cd, e, m, _⟩ := T.cls
  unfold mroIn
  rw [e]
  show (if cd.mro.isEmpty then none else some (cd.mro.contains b)) = _
  rw [m]
  rfl
theorem ClT.ty (T : ClT K C bm) : typeIn K (.ref C) = some (.type "type") := by
  obtain ⟨nm, q, N, bs, sn, sub, ab, col, dd, k0, k1, k2, k3, k5, e⟩ := T.obj
  show (K.lookup C).map (·.cls) = _
  rw [e]
  rfl
theorem ClT.oex (T : ClT K C bm) (hb : PySem.HandSPX.refsVE bm = true) (hx : bm.contains (.type "BaseException") = true) : OexC K C := by
  obtain ⟨nm, q, N, bs, sn, sub, ab, col, dd, k0, k1, k2, k3, k5, e⟩ := T.obj
  refine ⟨⟨nm, q, N, bs, bm, sn, sub, ab, col, dd, k0, k1, k2, k3, k5, e, hb⟩, T.sa, ?_, T.ty, T.kC⟩
  show mroIn K C _ = _
  rw [T.mro]
  show some (Value.type "BaseException" == Value.ref C || bm.contains (.type "BaseException")) = _
  rw [hx, Bool.or_true]
theorem ClT.sub (T : ClT K C bm) {n : String} (hx : bm.contains (.type n) = true) : subIn K (.ref C) (.type n) = some true := by
  show mroIn K C _ = _
  rw [T.mro]
  show some (Value.type n == Value.ref C || bm.contains (.type n)) = _
  rw [hx, Bool.or_true]
theorem ClT.exc (T : ClT K C bm) (X : clX K = true) (hx : bm.contains (.type "BaseException") = true) (ho : bm.contains (.type "object") = true) : ExcC K C := by
  obtain ⟨x1, X⟩ := ba X
  obtain ⟨x2, X⟩ := ba X
  obtain ⟨cd, e, m, d⟩ := T.cls
  refine ⟨T.ga, T.gg, T.sub hx, ?_, T.ha, eqO_ok x1, of_decide_eq_true x2, T.sub ho⟩
  unfold PySem.W.hasDictIn
  rw [e]
  exact d
theorem ClT.xf (T : ClT K C bm) (hx : bm.contains (.type "BaseException") = true) : XfC K C := by
  obtain ⟨cd, e, m, d⟩ := T.cls
  refine ⟨T.ga, T.gg, T.sub hx, ?_⟩
  unfold PySem.W.hasDictIn
  rw [e]
  exact d
theorem ClT.kit (T : ClT K C bm) (U : ClT K D bmD) : kitOne K (.ref C) (.ref D) = some ((Value.ref C :: bm).contains (.ref D)) := by
  obtain ⟨cd, e, m, _⟩ := U.cls
  unfold kitOne
  by_cases h : (Value.ref C == Value.ref D) = true
  · rw [if_pos h]
    have e2 : Value.ref C = Value.ref D := eq_of_beq h
    rw [← e2]
    simp
  · rw [if_neg h]
    show (if ((clsIn K D).isSome && typeIn K (.ref D) == some (.type "type")) = true then subIn K (.ref C) (.ref D) else none) = _
    rw [e, U.ty]
    show (if (true && (some (Value.type "type") == some (.type "type"))) = true then subIn K (.ref C) (.ref D) else none) = _
    rw [if_pos (by decide)]
    exact T.mro _
theorem ClT.kitT (T : ClT K C bm) {n : String} (hm : PySem.W.kitMeta n = true) (hx : bm.contains (.type n) = true) : kitOne K (.ref C) (.type n) = some true := by
  unfold kitOne
  by_cases h : (Value.ref C == Value.type n) = true
  · rw [if_pos h]
  · rw [if_neg h]
    show (if PySem.W.kitMeta n = true then subIn K (.ref C) (.type n) else none) = _
    rw [if_pos hm]
    exact T.sub hx
end
/-! ### its __init__ -/
def inB (K : Frag) (C fI : Addr) (qual file : Str) : Bool := eqO (findIn K (.ref C) "value") (some none) && (eqO (findIn K (.ref C) "__init__") (some (some (.ref fI))) && (eqO (ks_superIn K C C "__init__") (some (some (.builtin "ValueError.__init__"))) &&
  (match K.lookup fI with
  | some ⟨.type ct, _, .func fd, _⟩ => decide (ct = "function") && ((match fd.code with
      | .ref cda => PySem.W.codeIn K (.ref cda) qual && (match K.lookup cda with
        | some ⟨_, _, .fields vs, _⟩ => (match (vs : Array Value)[2]? with
          | some (Value.str fl _) => file == fl
          | _ => false)
        | _ => false)
      | _ => false) && ((match fd.closure with
      | [(_, cc)] => (match K.lookup cc with
        | some ⟨_, _, .cell (some (.ref D)), _⟩ => decide (D = C)
        | _ => false)
      | _ => false) && (match fd.defaults with
      | .ref T => (match K.lookup T with
        | some ⟨_, _, .seq its _, _⟩ => (match its.toList with
          | [.none] => true
          | _ => false)
        | _ => false)
      | _ => false)))
  | _ => false)))
theorem init_of {P : Program} {K : Frag} {mg : Str → Option Value} {L : Addr} {d : InD} {file : Str} (T : ClT K (ga K d.cls) (.ref L :: PySem.HandSPX.veTail)) (X : clX K = true)
    (v : fnO K (d.cls, some "__init__") = d.val) (b : inB K (ga K d.cls) (fAd K (d.cls, some "__init__")) d.qual file = true) (hf : P.main.file = file) (ns : mg "super" = none) (tp : (P.main.scope.names.lookup ("super" : Str)).isSome = false)
    (tx : ∃ p1 p2 p3 q1 q2 q3 q4 q5 r1 r2 r3 r4, defArgs d.st = iA p1 p2 p3 ∧ defBody d.st = iB q1 q2 q3 q4 q5 r1 r2 r3 r4 ∧ defScope d.st = iS ∧ (q3.endLine == q4.line) = true) :
    ∃ fI fd qual, InitTxt P K mg (ga K d.cls) fI fd qual := by
  obtain ⟨x1, X⟩ := ba X
  obtain ⟨x2, X⟩ := ba X
  obtain ⟨x3, x4⟩ := ba X
  obtain ⟨b1, b⟩ := ba b
  obtain ⟨b2, b⟩ := ba b
  obtain ⟨b3, b⟩ := ba b
  obtain ⟨p1, p2, p3, q1, q2, q3, q4, q5, r1, r2, r3, r4, t1, t2, t3, t4⟩ := tx
  unfold fnO at v
  split at b
  · rename_i ct od fd osl ho
    rw [ho] at v
    obtain ⟨b4, b⟩ := ba b
    obtain ⟨b5, b⟩ := ba b
    obtain ⟨b6, b7⟩ := ba b
    have ect : ct = "function" := of_decide_eq_true b4
    subst ect
    split at b5
    · rename_i cda hcode
      obtain ⟨b8, b9⟩ := ba b5
      split at b9
      · rename_i ccl cdd vs ccs hcd
        split at b9
        · rename_i fl tf hfl
          split at b6
          · rename_i cn cc hcl
            split at b6
            · rename_i c1 c2 D c4 hcc
              have eD : D = ga K d.cls := of_decide_eq_true b6
              subst eD
              split at b7
              · rename_i Td hdf
                split at b7
                · rename_i t1' t2' its t3' t4' hT
                  split at b7
                  · rename_i hits
                    obtain ⟨n1, n2, n3, n4, n5, n6, n7, n8, n9, n10, n11, n12, n13, n14, n15⟩ := fd
                    simp only at hcode hcl hdf
                    subst hcode hcl hdf
                    have v2 : (some (n1, n2, n3, n4, n5, n6, [cn], n15) : FnO) = some (("__init__" : Str), d.qual, defArgs d.st, FuncBody.stmts (defBody d.st), defScope d.st, mainGlobals, [("__class__" : Str)], builtinsNs) := v
                    simp only [Option.some.injEq, Prod.mk.injEq, List.cons.injEq, and_true] at v2
                    obtain ⟨h1, h2, h3, h4, h5, h6, h7, h8⟩ := v2
                    rw [t1] at h3
                    rw [t2] at h4
                    rw [t3] at h5
                    subst h1 h2 h3 h4 h5 h6 h7 h8
                    have hits2 : its = #[Value.none] := by
                      obtain ⟨l⟩ := its
                      simp only at hits
                      rw [hits]
                    subst hits2
                    refine ⟨fAd K (d.cls, some "__init__"), PySem.W.ksFn "__init__" d.qual (iA p1 p2 p3) (iB q1 q2 q3 q4 q5 r1 r2 r3 r4) iS (.ref Td) n9 n10 n11 n12 (.ref cda) n14 cc, d.qual, T.oex rfl rfl, eqO_ok b1, eqO_ok b2, ?_, eqO_ok b3, T.sub rfl, ?_, eqO_ok x3, ns, tp, ?_⟩
                    · show (K.lookup _).map (·.cls) = _
                      rw [ho]
                      rfl
                    · rw [T.mro]
                      show some (Value.ref (ga K d.cls) == Value.ref (ga K d.cls) || _) = _
                      rw [beq_self_eq_true]
                      rfl
                    · exact ⟨_, od, osl, .ref Td, n9, n10, n11, n12, cda, n14, cc, p1, p2, p3, q1, q2, q3, q4, q5, r1, r2, r3, r4, rfl, ho, b8, ⟨ccl, cdd, vs, ccs, fl, tf, hcd, hfl, by rw [hf]; exact b9⟩, ⟨c1, c2, c4, hcc⟩, t4, ⟨Td, _, t3', rfl, hT, rfl⟩⟩
                  · cases b7
                · cases b7
              · cases b7
            · cases b6
          · cases b6
        · cases b9
      · cases b9
    · cases b5
  · cases b
end Ho

/-! from Hd.lean -/
set_option Elab.async false
set_option linter.all false
set_option maxRecDepth 100000
set_option maxHeartbeats 0
namespace HeadK
open PySem PySem.Spec PyProof.Rows L2 Law
abbrev R : PySem.W.OpenRow := PySem.W.OpenLaw.row PySem.Challenge.rw_oddlamps_k01_errors_made
abbrev qv : Program := PySem.W.view R.prog [44]
def namesA : List PySem.Str := ["LampError", "InvalidLamp", "InvalidLamps", "InvalidTies", "InvalidWishes", "InvalidNet", "InvalidMap", "InvalidSetting", "InvalidRoad", "InvalidPiece", "InvalidWork", "InvalidPoints", "InvalidHeights", "InvalidCount", "InvalidForm", "InvalidShow", "InvalidWeights", "InvalidChange", "InvalidChanges", "InvalidHall", "InvalidSpot", "InvalidScript", "InvalidText", "InvalidLog", "Unlike", "Unpaired", "Apart", "Refused", "NothingToUndo", "NothingToRedo"]
def namesB : List PySem.Str := ["_law_purse", "_law_mixed", "_law_draw", "_law_purses", "_law_one_of", "_law_word", "_law_first", "_law_called", "_law_bare", "_law_code", "_law_is_error", "_law_right"]
def names : List PySem.Str := namesA ++ namesB
def cin (i : Nat) : Stmt := (C8.clsBody (top i)).getD 0 (.Pass ⟨0, 0, 0, 0⟩)
def file : PySem.Str := PySem.Challenge.pw_oddlamps_k01_errors_made.main.file

def ins : List Ho.InD := [⟨"InvalidLamp", "InvalidLamp.__init__", cin 2⟩,
  ⟨"InvalidLamps", "InvalidLamps.__init__", cin 3⟩,
  ⟨"InvalidTies", "InvalidTies.__init__", cin 4⟩,
  ⟨"InvalidWishes", "InvalidWishes.__init__", cin 5⟩,
  ⟨"InvalidNet", "InvalidNet.__init__", cin 6⟩,
  ⟨"InvalidMap", "InvalidMap.__init__", cin 7⟩,
  ⟨"InvalidSetting", "InvalidSetting.__init__", cin 8⟩,
  ⟨"InvalidRoad", "InvalidRoad.__init__", cin 9⟩,
  ⟨"InvalidPiece", "InvalidPiece.__init__", cin 10⟩,
  ⟨"InvalidWork", "InvalidWork.__init__", cin 11⟩,
  ⟨"InvalidPoints", "InvalidPoints.__init__", cin 12⟩,
  ⟨"InvalidHeights", "InvalidHeights.__init__", cin 13⟩,
  ⟨"InvalidCount", "InvalidCount.__init__", cin 14⟩,
  ⟨"InvalidForm", "InvalidForm.__init__", cin 15⟩,
  ⟨"InvalidShow", "InvalidShow.__init__", cin 16⟩,
  ⟨"InvalidWeights", "InvalidWeights.__init__", cin 17⟩,
  ⟨"InvalidChange", "InvalidChange.__init__", cin 18⟩,
  ⟨"InvalidChanges", "InvalidChanges.__init__", cin 19⟩,
  ⟨"InvalidHall", "InvalidHall.__init__", cin 20⟩,
  ⟨"InvalidSpot", "InvalidSpot.__init__", cin 21⟩,
  ⟨"InvalidScript", "InvalidScript.__init__", cin 22⟩,
  ⟨"InvalidText", "InvalidText.__init__", cin 23⟩,
  ⟨"InvalidLog", "InvalidLog.__init__", cin 24⟩,
  ⟨"Unlike", "Unlike.__init__", cin 25⟩,
  ⟨"Unpaired", "Unpaired.__init__", cin 26⟩,
  ⟨"Apart", "Apart.__init__", cin 27⟩,
  ⟨"Refused", "Refused.__init__", cin 28⟩]
def d32 : He.DefD := ⟨("_law_purse", none), "_law_purse", "_law_purse", defArgs (top 32), defBody (top 32), defScope (top 32), [], []⟩
def d33 : He.DefD := ⟨("_law_mixed", none), "_law_mixed", "_law_mixed", defArgs (top 33), defBody (top 33), defScope (top 33), [], []⟩
def d34 : He.DefD := ⟨("_law_draw", none), "_law_draw", "_law_draw", defArgs (top 34), defBody (top 34), defScope (top 34), [], []⟩
def d35 : He.DefD := ⟨("_law_purses", none), "_law_purses", "_law_purses", defArgs (top 35), defBody (top 35), defScope (top 35), [], []⟩
def d36 : He.DefD := ⟨("_law_one_of", none), "_law_one_of", "_law_one_of", defArgs (top 36), defBody (top 36), defScope (top 36), [], []⟩
def d37 : He.DefD := ⟨("_law_word", none), "_law_word", "_law_word", defArgs (top 37), defBody (top 37), defScope (top 37), [], []⟩
def d38 : He.DefD := ⟨("_law_first", none), "_law_first", "_law_first", defArgs (top 38), defBody (top 38), defScope (top 38), [], []⟩
def d39 : He.DefD := ⟨("_law_called", none), "_law_called", "_law_called", defArgs (top 39), defBody (top 39), defScope (top 39), [], []⟩
def d40 : He.DefD := ⟨("_law_bare", none), "_law_bare", "_law_bare", defArgs (top 40), defBody (top 40), defScope (top 40), [], []⟩
def d41 : He.DefD := ⟨("_law_code", none), "_law_code", "_law_code", defArgs (top 41), defBody (top 41), defScope (top 41), [], []⟩
def d42 : He.DefD := ⟨("_law_is_error", none), "_law_is_error", "_law_is_error", defArgs (top 42), defBody (top 42), defScope (top 42), [], []⟩
def d43 : He.DefD := ⟨("_law_right", none), "_law_right", "_law_right", defArgs (top 43), defBody (top 43), defScope (top 43), [], []⟩
def d44 : He.DefD := ⟨("law", none), "law", "law", defArgs (top 44), defBody (top 44), defScope (top 44), [], []⟩
def fn : List He.DefD := [d32, d33, d34, d35, d36, d37, d38, d39, d40, d41, d42, d43, d44]
def fa : List He.Fa := [.glo "LampError", .glo "InvalidLamp", .glo "InvalidLamps", .glo "InvalidTies", .glo "InvalidWishes", .glo "InvalidNet", .glo "InvalidMap", .glo "InvalidSetting", .glo "InvalidRoad", .glo "InvalidPiece", .glo "InvalidWork", .glo "InvalidPoints", .glo "InvalidHeights", .glo "InvalidCount", .glo "InvalidForm", .glo "InvalidShow", .glo "InvalidWeights", .glo "InvalidChange", .glo "InvalidChanges", .glo "InvalidHall", .glo "InvalidSpot", .glo "InvalidScript", .glo "InvalidText", .glo "InvalidLog", .glo "Unlike", .glo "Unpaired", .glo "Apart", .glo "Refused", .glo "NothingToUndo", .glo "NothingToRedo", .glo "_law_purse", .glo "_law_mixed", .glo "_law_draw", .glo "_law_purses", .glo "_law_one_of", .glo "_law_word", .glo "_law_first", .glo "_law_called", .glo "_law_bare", .glo "_law_code", .glo "_law_is_error", .glo "_law_right", .glo "law", .free "len", .free "int", .free "range", .free "max", .free "min", .free "sum", .free "isinstance", .free "repr", .free "super", .free "ValueError", .free "all", .free "list", .free "dict", .free "tuple"]
def dis : List Addr → Bool
  | [] => true
  | a :: r => r.all (fun b => !(a == b)) && dis r
def sub : List PySem.Str := namesA.drop 1
def ex (K : PySem.W.Frag) : Bool := Ho.clX K && ((Ho.clB K (He.ga K "LampError") PySem.HandSPX.veTail && Ho.clM K (He.ga K "LampError")) && ((sub.all fun x => Ho.clB K (He.ga K x) (.ref (He.ga K "LampError") :: PySem.HandSPX.veTail) && Ho.clM K (He.ga K x)) &&
  (dis (namesA.map (He.ga K)) && ((ins.all fun d => Ho.inB K (He.ga K d.cls) (He.fAd K (d.cls, some "__init__")) d.qual file) && ((["LampError", "NothingToUndo", "NothingToRedo"] : List PySem.Str).all fun x => He.eqO (PySem.W.findIn K (.ref (He.ga K x)) "__init__") (some (some (.builtin "ValueError.__init__"))))))))
abbrev hk : PySem.W.Hook := Ho.hookO 4 fa fn ins ex
def ob (s : PySem.W.SharedT) : Ho.AlO := Ho.obsOG 4 fa fn ins ex (HandSHeadRun.getT s)
theorem ob_eq (s : PySem.W.SharedT) : ob s = hk.obs s.abs := Ho.obsOG_eq (HandSHeadRun.getT_eq s)
theorem run (w : World) : HandSHeadRun.RunEq R qv hk ob 9000 names w := by
  intro os
  kernel_rfl
end HeadK

/-! from Lk4.lean -/
set_option Elab.async false
set_option linter.all false
set_option maxRecDepth 100000
set_option maxHeartbeats 4000000
namespace Law
open PySem PySem.Spec PyProof.Rows L2 Oe
/-! ### small data: can be shown, not deep, the text is short -/
structure Sm (d : PyData) (n k : Nat) : Prop where
  sh : d.showable = true
  dp : d.depth ≤ k
  ln : d.shown.length ≤ n
structure SmL (ds : List PyData) (n k : Nat) : Prop where
  sh : PyData.showableAll ds = true
  dp : PyData.depthAll ds ≤ k
  ln : ((PyData.shownAll ds).map (·.length)).sum + 2 * ds.length ≤ n
structure SmK (ds : List (PyData × PyData)) (n k : Nat) : Prop where
  sh : PyData.showableKv ds = true
  dp : PyData.depthKv ds ≤ k
  ln : ((PyData.shownKv ds).map (·.length)).sum + 2 * ds.length ≤ n
theorem len_shownAll : ∀ ds : List PyData, (PyData.shownAll ds).length = ds.length
  | [] => by simp [PyData.shownAll]
  | d :: ds => by simp [PyData.shownAll, len_shownAll ds]
theorem len_shownKv : ∀ ds : List (PyData × PyData), (PyData.shownKv ds).length = ds.length
  | [] => by simp [PyData.shownKv]
  | (a, b) :: ds => by simp [PyData.shownKv, len_shownKv ds]
theorem textFrom_le : ∀ (ts : List Str) (k : Nat) (acc : Str), (textFrom k acc ts).length ≤ acc.length + (ts.map (·.length)).sum + 2 * ts.length
  | [], k, acc => by show acc.length ≤ _; simp
  | t :: r, k, acc => by
    have ih := textFrom_le r (k + 1) (acc ++ (if k > 0 then ", " else "" : String) ++ t)
    show (textFrom (k + 1) (acc ++ (if k > 0 then ", " else "" : String) ++ t) r).length ≤ _
    have h2 : (Str.ofString (if k > 0 then ", " else "" : String)).length ≤ 2 := by
      split <;> decide +kernel
    rw [strLen_append, strLen_append] at ih
    simp only [List.map_cons, List.sum_cons, List.length_cons]
    omega
theorem Sm.non {k : Nat} : Sm .none 4 k := ⟨by simp [PyData.showable], by simp [PyData.depth], by rw [show PyData.shown .none = ("None" : Str) by simp [PyData.shown]]; decide +kernel⟩
theorem Sm.bl {b : Bool} {k : Nat} : Sm (.bool b) 5 k := ⟨by simp [PyData.showable], by simp [PyData.depth], by
  cases b
  · rw [show PyData.shown (.bool false) = ("False" : Str) by simp [PyData.shown]]; decide +kernel
  · rw [show PyData.shown (.bool true) = ("True" : Str) by simp [PyData.shown]]; decide +kernel⟩
theorem Sm.int {i : Int} {k : Nat} (h : i.natAbs < 2 ^ 40) : Sm (.int i) 42 k := by
  have h1 : i.natAbs.log2 < 41 := by
    by_cases h0 : i.natAbs = 0
    · rw [h0]; decide
    · exact (Nat.log2_lt h0).mpr (by omega)
  refine ⟨?_, by simp [PyData.depth], ?_⟩
  · simp only [PyData.showable]
    exact decide_eq_true (by omega)
  · simp only [PyData.shown]
    show (Str.ofString (toString i)).length ≤ 42
    rw [PySem.ofString_length]
    exact int_text_length_le (k := 41) (by decide) h1
theorem Sm.str {l : List Nat} {k : Nat} (h : ∀ c ∈ l, c < 16 ^ 8) : Sm (.str (SX.S l)) (10 * l.length + 2) k := ⟨by simp [PyData.showable], by simp [PyData.depth], by
  simp only [PyData.shown]
  have z := StrLaws.reprText_len (SX.S l) (fun c hc => h c (by simpa using hc))
  rw [SX.S_len] at z
  exact z⟩
theorem SmL.nil {k : Nat} : SmL [] 0 k := ⟨by simp [PyData.showableAll], by simp [PyData.depthAll], by simp [PyData.shownAll]⟩
theorem SmL.cons {d : PyData} {ds : List PyData} {n m k : Nat} (a : Sm d n k) (b : SmL ds m k) : SmL (d :: ds) (n + 2 + m) k := ⟨by simp only [PyData.showableAll]; rw [a.sh, b.sh]; rfl, by
  simp only [PyData.depthAll]
  have := a.dp
  have := b.dp
  omega, by
  simp only [PyData.shownAll, List.map_cons, List.sum_cons, List.length_cons]
  have := a.ln
  have := b.ln
  omega⟩
theorem Sm.list {ds : List PyData} {n k : Nat} (h : SmL ds n k) : Sm (.list ds) (n + 2) (k + 1) := ⟨by simp only [PyData.showable]; exact h.sh, by simp only [PyData.depth]; have := h.dp; omega, by
  simp only [PyData.shown]
  unfold listText
  rw [strLen_append]
  have z := textFrom_le (PyData.shownAll ds) 0 "["
  rw [len_shownAll] at z
  have := h.ln
  have e1 : (Str.ofString "[").length = 1 := by decide +kernel
  have e2 : (Str.ofString "]").length = 1 := by decide +kernel
  omega⟩
theorem Sm.tuple {ds : List PyData} {n k : Nat} (h : SmL ds n k) : Sm (.tuple ds) (n + 3) (k + 1) := ⟨by simp only [PyData.showable]; exact h.sh, by simp only [PyData.depth]; have := h.dp; omega, by
  simp only [PyData.shown]
  unfold tupleText
  rw [strLen_append, strLen_append]
  have z := StrLaws.join_length_le ", " (PyData.shownAll ds)
  rw [len_shownAll] at z
  have := h.ln
  have e1 : (Str.ofString "(").length = 1 := by decide +kernel
  have e3 : (Str.ofString ", ").length = 2 := by decide +kernel
  rw [e3] at z
  have e2 : (Str.ofString (if (PyData.shownAll ds).length == 1 then ",)" else ")" : String)).length ≤ 2 := by
    split <;> decide +kernel
  omega⟩
theorem SmK.nil {k : Nat} : SmK [] 0 k := ⟨by simp [PyData.showableKv], by simp [PyData.depthKv], by simp [PyData.shownKv]⟩
theorem SmK.cons {a b : PyData} {ds : List (PyData × PyData)} {n n' m k : Nat} (x : Sm a n k) (y : Sm b n' k) (z : SmK ds m k) : SmK ((a, b) :: ds) (n + n' + 4 + m) k := ⟨by simp only [PyData.showableKv]; rw [x.sh, y.sh, z.sh]; rfl, by
  simp only [PyData.depthKv]
  have := x.dp
  have := y.dp
  have := z.dp
  omega, by
  simp only [PyData.shownKv, List.map_cons, List.sum_cons, List.length_cons]
  rw [strLen_append, strLen_append]
  have := x.ln
  have := y.ln
  have := z.ln
  have e3 : (Str.ofString ": ").length = 2 := by decide +kernel
  omega⟩
theorem Sm.dict {ds : List (PyData × PyData)} {n k : Nat} (h : SmK ds n k) : Sm (.dict ds) (n + 2) (k + 1) := ⟨by simp only [PyData.showable]; exact h.sh, by simp only [PyData.depth]; have := h.dp; omega, by
  simp only [PyData.shown]
  unfold dictText
  rw [strLen_append, strLen_append]
  have z := StrLaws.join_length_le ", " (PyData.shownKv ds)
  rw [len_shownKv] at z
  have := h.ln
  have e1 : (Str.ofString "{").length = 1 := by decide +kernel
  have e3 : (Str.ofString ", ").length = 2 := by decide +kernel
  rw [e3] at z
  have e2 : (Str.ofString "}").length = 1 := by decide +kernel
  omega⟩
/-- a thing that stands, with what it shows -/
structure Thing (H : Hp) (v : V) (d : PyData) : Prop where
  dr : Dr H v d
  sm : Sm d 10000 10
theorem Sm.le {d : PyData} {n k m j : Nat} (h : Sm d n k) (a : n ≤ m) (b : k ≤ j) : Sm d m j := ⟨h.sh, Nat.le_trans h.dp b, Nat.le_trans h.ln a⟩
theorem Thing.ext {H H' : Hp} {v : V} {d : PyData} (h : Thing H v d) (x : Ext H H') : Thing H' v d := ⟨dr_ext x h.dr, h.sm⟩
/-- a list of errors that hold v -/
def EL (H : Hp) (v : V) (Cs : List Addr) (l : Addr) : Prop := ∃ as : List Addr, H l = some (.lst (as.map V.ref)) ∧ Paired (ErrAt H v) Cs as
theorem EL.ext {H H' : Hp} {v : V} {Cs : List Addr} {l : Addr} (h : EL H v Cs l) (x : Ext H H') : EL H' v Cs l := by
  obtain ⟨as, a, b⟩ := h
  exact ⟨as, x _ _ a, errs_ext b x⟩
end Law

/-! from Lk5.lean -/
set_option Elab.async false
set_option linter.all false
set_option maxRecDepth 100000
set_option maxHeartbeats 4000000
namespace Law
open PySem PySem.Spec PyProof.Rows L2 Oe
abbrev sLaw : Stmt := top 44
theorem ps_weak {X : Cx} {st : Stmt} {t t' : TS} (h : PS X st t) (w : ∀ D σ H, t' D σ H → t D σ H) : PS X st t' := ⟨fun pins s σ H D I q => h.run pins s σ H D I (w D σ H q)⟩
theorem Sm.lit {x : Str} {n k : Nat} (h : (reprText x).length ≤ n) : Sm (.str x) n k := ⟨by simp [PyData.showable], by simp [PyData.depth], by simp only [PyData.shown]; exact h⟩
theorem shown_none : PyData.shown .none = ("None" : Str) := by simp [PyData.shown]
theorem WordOk.sm {w : Str} {k : Nat} (h : WordOk w) : Sm (.str w) 82 k := by
  obtain ⟨l, rfl, h1, h2, h3⟩ := h
  exact (Sm.str fun c hc => by have := h3 c hc; omega).le (by omega) (Nat.le_refl _)
theorem WordOk.ne {w : Str} (h : WordOk w) : w ≠ ("LATER" : Str) := fun e => by
  obtain ⟨l, rfl, h1, h2, h3⟩ := h
  have e1 : l = ("LATER" : Str).cps.toList := congrArg (fun x : Str => x.cps.toList) e
  have e2 : (76 : Nat) ∈ l := by
    rw [e1]
    decide +kernel
  have := h3 76 e2
  omega
/-! ### the things that are drawn -/
def dB (w : Str) : PyData := .tuple [.str "says", .str w, .int 1, .int 2]
def dC (w : Str) (x : List PyData) : PyData := .tuple [.str w, .list (.str w :: x)]
def dD (w : Str) (x : List PyData) (y : List (PyData × PyData)) : PyData := .dict ((.str w, .list (.str w :: x)) :: y)
def dE (w : Str) (x : List PyData) : PyData := .list (.str w :: x)
def dF (w : Str) (x : List PyData) : PyData := .list (.list [.str w] :: .dict [(.str "odd", .str w)] :: x)
/-- x is one of the things; l0 is not changed with it -/
inductive Kind (H : Hp) (w : Str) (l0 : Addr) : V → Prop
  | plain {x : V} {d : PyData} {T : String} : (∀ H', Dr H' x d) → (∀ K H', TyX K H' x (.type T)) → kitB T "list" = some false → kitB T "dict" = some false → kitB T "tuple" = some false → Sm d 10000 10 → Kind H w l0 x
  | says {t : Addr} : H t = some (.tup [.str "says", .str w, .int 1, .int 2]) → Kind H w l0 (.ref t)
  | pair {t m : Addr} : H t = some (.tup [.str w, .ref m]) → H m = some (.lst [.str w]) → m ≠ l0 → Kind H w l0 (.ref t)
  | dct {t m : Addr} : H t = some (.dK [(.inr w, .ref m)]) → H m = some (.lst [.str w]) → m ≠ l0 → t ≠ l0 → Kind H w l0 (.ref t)
  | one {t : Addr} : H t = some (.lst [.str w]) → t ≠ l0 → Kind H w l0 (.ref t)
  | two {t m c : Addr} : H t = some (.lst [.ref m, .ref c]) → H m = some (.lst [.str w]) → H c = some (.dK [(.inr "odd", .str w)]) → t ≠ l0 → Kind H w l0 (.ref t)
section
variable {H H' : Hp} {w : Str} {l0 : Addr} {x : V}
theorem Kind.ext (h : Kind H w l0 x) (e : Ext H H') : Kind H' w l0 x := by
  cases h with
  | plain a b c d f g => exact .plain a b c d f g
  | says a => exact .says (e _ _ a)
  | pair a b c => exact .pair (e _ _ a) (e _ _ b) c
  | dct a b c d => exact .dct (e _ _ a) (e _ _ b) c d
  | one a b => exact .one (e _ _ a) b
  | two a b c d => exact .two (e _ _ a) (e _ _ b) (e _ _ c) d
theorem smB {k : Nat} (hw : WordOk w) : Sm (dB w) 10000 (k + 1) := (Sm.tuple (k := k) (.cons (.lit (n := 100) (by decide +kernel)) (.cons hw.sm (.cons (.int (by decide)) (.cons (.int (by decide)) .nil))))).le (by omega) (by omega)
theorem sm_later {k : Nat} : SmL [PyData.str "later"] 102 k := .cons (.lit (n := 100) (by decide +kernel)) .nil
theorem smC {k n : Nat} {y : List PyData} (hw : WordOk w) (hy : SmL y n k) (hn : n ≤ 1000) : Sm (dC w y) 10000 (k + 2) := (Sm.tuple (.cons hw.sm (.cons (.list (.cons hw.sm hy)) .nil))).le (by omega) (by omega)
theorem smD {k n m : Nat} {y : List PyData} {z : List (PyData × PyData)} (hw : WordOk w) (hy : SmL y n k) (hn : n ≤ 1000) (hz : SmK z m (k + 1)) (hm : m ≤ 1000) : Sm (dD w y z) 10000 (k + 2) := (Sm.dict (.cons hw.sm (.list (.cons hw.sm hy)) hz)).le (by omega) (by omega)
theorem smE {k n : Nat} {y : List PyData} (hw : WordOk w) (hy : SmL y n k) (hn : n ≤ 1000) : Sm (dE w y) 10000 (k + 1) := (Sm.list (.cons hw.sm hy)).le (by omega) (by omega)
theorem smF {k n : Nat} {y : List PyData} (hw : WordOk w) (hy : SmL y n (k + 1)) (hn : n ≤ 1000) : Sm (dF w y) 10000 (k + 2) := (Sm.list (.cons (.list (.cons hw.sm .nil)) (.cons (.dict (.cons (.lit (n := 100) (by decide +kernel)) hw.sm .nil)) hy))).le (by omega) (by omega)
theorem drC {t m : Addr} {xs : List V} {ds : List PyData} (a : H t = some (.tup [.str w, .ref m])) (b : H m = some (.lst (.str w :: xs))) (c : DrAll H xs ds) : Dr H (.ref t) (dC w ds) := .tup a (.cons (.str _) (.cons (.lst b (.cons (.str _) c)) .nil))
theorem drD {t m : Addr} {xs : List V} {ds : List PyData} (a : H t = some (.dK [(.inr w, .ref m)])) (b : H m = some (.lst (.str w :: xs))) (c : DrAll H xs ds) : Dr H (.ref t) (dD w ds []) := .dct a (.cons (.lst b (.cons (.str _) c)) .nil)
theorem drD2 {t m : Addr} {xs : List V} {ds : List PyData} (a : H t = some (.dK [(.inr w, .ref m), (.inr "LATER", .int 1)])) (b : H m = some (.lst (.str w :: xs))) (c : DrAll H xs ds) : Dr H (.ref t) (dD w ds [(.str "LATER", .int 1)]) := .dct a (.cons (.lst b (.cons (.str _) c)) (.cons (.int _) .nil))
theorem drF {t m c : Addr} {xs : List V} {ds : List PyData} (a : H t = some (.lst (.ref m :: .ref c :: xs))) (b : H m = some (.lst [.str w])) (e : H c = some (.dK [(.inr "odd", .str w)])) (f : DrAll H xs ds) : Dr H (.ref t) (dF w ds) :=
  .lst a (.cons (.lst b (.cons (.str _) .nil)) (.cons (.dct e (.cons (.str _) .nil)) f))
theorem Kind.thing (h : Kind H w l0 x) (hw : WordOk w) : ∃ d, Thing H x d := by
  cases h with
  | plain a b c d f g => exact ⟨_, a _, g⟩
  | says a => exact ⟨dB w, .tup a (.cons (.str _) (.cons (.str _) (.cons (.int _) (.cons (.int _) .nil)))), (smB (k := 1) hw).le (Nat.le_refl _) (by omega)⟩
  | pair a b c => exact ⟨dC w [], drC a b .nil, (smC (k := 1) hw .nil (by omega)).le (Nat.le_refl _) (by omega)⟩
  | dct a b c d => exact ⟨dD w [] [], drD a b .nil, (smD (k := 1) hw .nil (by omega) .nil (by omega)).le (Nat.le_refl _) (by omega)⟩
  | one a b => exact ⟨dE w [], .lst a (.cons (.str _) .nil), (smE (k := 1) hw .nil (by omega)).le (Nat.le_refl _) (by omega)⟩
  | two a b c d => exact ⟨dF w [], drF a b c .nil, (smF (k := 1) hw .nil (by omega)).le (Nat.le_refl _) (by omega)⟩
end
/-! ### a change of a small list or a table leaves the errors -/
def NotE (o : HO) : Prop := (∃ xs : List V, o = .lst xs ∧ xs.length < 27) ∨ ∃ kvs : List (Key × V), o = .dK kvs
theorem EL.upd {H : Hp} {v : V} {C : Nat → Addr} {l q : Addr} {o o' : HO} (h : EL H v ((List.range 27).map C) l) (e : H q = some o) (n : NotE o) : EL (upd H q o') v ((List.range 27).map C) l := by
  obtain ⟨as, h1, h2⟩ := h
  have hlen : as.length = 27 := by rw [← h2.length, List.length_map, List.length_range]
  have q1 : l ≠ q := fun z => by
    rw [z, e] at h1
    cases h1
    rcases n with ⟨xs, z1, z2⟩ | ⟨kvs, z1⟩
    · cases z1
      rw [List.length_map, hlen] at z2
      omega
    · cases z1
  refine ⟨as, (upd_ne q1).trans h1, Paired.mono (fun C a z => ?_) h2⟩
  obtain ⟨d, z1, z2⟩ := z
  have a1 : a ≠ q := fun z => by
    rw [z, e] at z1
    rcases n with ⟨xs, y1, y2⟩ | ⟨kvs, y1⟩ <;> (subst y1; cases z1)
  have a2 : d ≠ q := fun z => by
    rw [z, e] at z2
    rcases n with ⟨xs, y1, y2⟩ | ⟨kvs, y1⟩ <;> (subst y1; cases z2)
  exact ⟨d, (upd_ne a1).trans z1, (upd_ne a2).trans z2⟩
theorem right_of {C : Nat → Addr} {H : Hp} {l : Addr} {v : V} {d : PyData} {noted : Str} {Q : VK} {E : XK} (el : EL H v ((List.range 27).map C) l) (th : Thing H v d) (hn : noted = d.shown) (k : ∀ H', Ext H H' → Q (.bl true) H') : spRight C [.ref l, .str noted] H Q E := by
  obtain ⟨as, h1, h2⟩ := el
  exact ⟨l, as, v, d, by rw [hn], h1, h2, th.dr, th.sm.sh, Nat.le_trans th.sm.dp (by decide), Nat.le_trans th.sm.ln (by decide), k⟩
theorem isi_read {K : PySem.W.Frag} {σ : L2.St} {H : Hp} {Q : Bool → Hp → Prop} {i : Nat} {v : V} {T n : String} {b : Bool} (h0 : σ[i]? = some (some v)) (ty : TyX K H v (.type T)) (hk : kitB T n = some b) (q : Q b H) :
    tB (tCB (rIsi K) (tCons (tVar i) (tCons (tC (.ty n)) tNil))) σ H Q := ⟨_, h0, v, .ty n, .type T, .type n, b, rfl, ClsV.ty n, ty, kit_ty hk, b, rfl, q⟩
theorem boot_list_ : bootBuiltins "list" = some (.type "list") := by decide +kernel
theorem boot_dict_ : bootBuiltins "dict" = some (.type "dict") := by decide +kernel
theorem boot_tuple_ : bootBuiltins "tuple" = some (.type "tuple") := by decide +kernel
end Law

/-! from Lk6.lean -/
set_option Elab.async false
set_option linter.all false
set_option maxRecDepth 100000
set_option maxHeartbeats 4000000
namespace Law
open PySem PySem.Spec PyProof.Rows L2 Oe
def spLaw (K : PySem.W.Frag) : Sp := fun vs H Q _ => ∃ (a : Addr) (ns : List Int), vs = [.ref a] ∧ SqL K H a (ns.map V.int) ∧ ∀ H', Q (.bl true) H'
abbrev lawN : List Str := ["_law_script", "_law_purse_here", "_law_word_here", "_law_plain", "_law_thing", "_law_noted", "_law_some", "_law_called_here", "_law_later", "_law_rest", "_law_error"]
theorem scLaw : FnScope lawN ["_law_script"] (defScope sLaw) := ⟨rfl, rfl, rfl, by decide +kernel, rfl, by decide +kernel, by decide +kernel⟩
/-- all that the law's def leans on -/
structure Env (P : Program) (K : PySem.W.Frag) (mg : Str → Option Value) (C : Nat → Addr) (L : Addr) where
  (fPurse fMixed fDraw fPurses fOne fWord fFirst fCalled fBare fCode fIs fRight : Addr)
  (dPurse dMixed dDraw dPurses dOne dWord dFirst dCalled dBare dCode dIs dRight : FuncData)
  Purse : FnP K "_law_purse" sPurse fPurse dPurse
  Mixed : FnP K "_law_mixed" sMixed fMixed dMixed
  Draw : FnP K "_law_draw" sDraw fDraw dDraw
  Purses : FnP K "_law_purses" sPurses fPurses dPurses
  One : FnP K "_law_one_of" sOneOf fOne dOne
  Word : FnP K "_law_word" sWord fWord dWord
  First : FnP K "_law_first" sFirst fFirst dFirst
  Called : FnP K "_law_called" sCalled fCalled dCalled
  Bare : FnP K "_law_bare" sBare fBare dBare
  Code : FnP K "_law_code" sCode fCode dCode
  Is : FnP K "_law_is_error" sIsErr fIs dIs
  Right : FnP K "_law_right" sRight fRight dRight
  gPurse : mg "_law_purse" = some (.ref fPurse)
  gMixed : mg "_law_mixed" = some (.ref fMixed)
  gDraw : mg "_law_draw" = some (.ref fDraw)
  gPurses : mg "_law_purses" = some (.ref fPurses)
  gOne : mg "_law_one_of" = some (.ref fOne)
  gWord : mg "_law_word" = some (.ref fWord)
  gFirst : mg "_law_first" = some (.ref fFirst)
  gCalled : mg "_law_called" = some (.ref fCalled)
  gBare : mg "_law_bare" = some (.ref fBare)
  gCode : mg "_law_code" = some (.ref fCode)
  gIs : mg "_law_is_error" = some (.ref fIs)
  gRight : mg "_law_right" = some (.ref fRight)
  len : mg "len" = none
  int : mg "int" = none
  range : mg "range" = none
  max : mg "max" = none
  min : mg "min" = none
  sum : mg "sum" = none
  isin : mg "isinstance" = none
  repr : mg "repr" = none
  val : mg "ValueError" = none
  all : mg "all" = none
  list : mg "list" = none
  dict : mg "dict" = none
  tuple : mg "tuple" = none
  V : ∀ i, i < 27 → VCls P K mg (nm i) (C i)
  M : ∀ i, i < 29 → mg (nm i) = some (.ref (C i))
  cl : ∀ i, i < 29 → Cls K C L i
  B27 : BareTxt K (C 27)
  B28 : BareTxt K (C 28)
  BL : BareTxt K L
  mL : mg "LampError" = some (.ref L)
  eL : ExcC K L
  kL : ∀ j, j < 29 → PySem.W.kitOne K (.ref L) (.ref (C j)) = some false
  kLL : PySem.W.kitOne K (.ref L) (.ref L) = some true
  kLV : PySem.W.kitOne K (.ref L) (.type "ValueError") = some true
  sys : ∃ o, K.lookup sysModules = some o
theorem codeL_none {K : PySem.W.Frag} {C : Nat → Addr} {L : Addr} (h : ∀ j, j < 29 → PySem.W.kitOne K (.ref L) (.ref (C j)) = some false) : codeL K C L 29 = [] := by
  have e : ∀ n, n ≤ 29 → codeL K C L n = [] := fun n => by
    induction n with
    | zero => intro _; rfl
    | succ n ih =>
      intro hn
      have kb1 : kb K L (C n) = false := by unfold kb; rw [h n (by omega)]; rfl
      rw [codeL_succ, ih (by omega), kb1]
      rfl
  exact e 29 (Nat.le_refl _)
theorem PurseAt.notLst {H : Hp} {p t : Addr} {n : Nat} {o : HO} (h : PurseAt H p n) (e : H t = some o) (ho : ∀ a b c d : Int, o ≠ .lst [.int a, .int b, .int c, .int d]) : t ≠ p := fun z => by
  obtain ⟨a, b, c, d, ep, _⟩ := h
  rw [z, ep] at e
  cases e
  exact ho _ _ _ _ rfl
theorem Kind.but {H H' : Hp} {w : Str} {l0 p : Addr} {x : V} {n : Nat} (h : Kind H w l0 x) (hp : PurseAt H p n) (b : But p H H') : Kind H' w l0 x := by
  have go : ∀ {t : Addr} {o : HO}, H t = some o → (∀ a b c d : Int, o ≠ .lst [.int a, .int b, .int c, .int d]) → H' t = some o := fun e ho => (b _ (hp.notLst e ho)).trans e
  cases h with
  | plain a b c d f g => exact .plain a b c d f g
  | says a => exact .says (go a fun _ _ _ _ z => by cases z)
  | pair a b c => exact .pair (go a fun _ _ _ _ z => by cases z) (go b fun _ _ _ _ z => by cases z) c
  | dct a b c d => exact .dct (go a fun _ _ _ _ z => by cases z) (go b fun _ _ _ _ z => by cases z) c d
  | one a b => exact .one (go a fun _ _ _ _ z => by cases z) b
  | two a b c d => exact .two (go a fun _ _ _ _ z => by cases z) (go b fun _ _ _ _ z => by cases z) (go c fun _ _ _ _ z => by cases z) d
def onesG (g : Nat → Int) (H : Hp) (D : Addr) (acc : List V) : Prop := ∀ (j : Nat) (v : V), acc[j]? = some v → ∃ l, v = .ref l ∧ l ≠ D ∧ H l = some (.lst [.int (g j)])
theorem onesG_snoc {g : Nat → Int} {H H' : Hp} {D l : Addr} {acc : List V} (h : onesG g H D acc) (x : Ext H H') (ne : l ≠ D) (e : H' l = some (.lst [.int (g acc.length)])) : onesG g (upd H' D (.lst (acc ++ [.ref l]))) D (acc ++ [.ref l]) := fun j v q => by
  by_cases hj : j < acc.length
  · rw [List.getElem?_append_left hj] at q
    obtain ⟨l', rfl, n', e'⟩ := h j v q
    exact ⟨l', rfl, n', (upd_ne n').trans (x _ _ e')⟩
  · have hj' : j = acc.length := by
      have := List.getElem?_eq_some_iff.mp q
      obtain ⟨z, _⟩ := this
      rw [List.length_append] at z
      have z : j < acc.length + 1 := z
      omega
    subst hj'
    rw [List.getElem?_append_right (Nat.le_refl _), Nat.sub_self] at q
    cases q
    exact ⟨l, rfl, ne, (upd_ne ne).trans e⟩
theorem onesG_dp {g : Nat → Int} {K : PySem.W.Frag} {H H' : Hp} {D : Addr} {acc : List V} (e : H D = some (.lst acc)) (h : onesG g H D acc) (x : Ext H H') : Dp K H' (.ref D) (.list ((List.range' 0 acc.length).map fun j => .list [.int (g j)])) := by
  refine .lst (SqL.of (x _ _ e)) (dpAll_of (g := fun j => PyData.list [.int (g j)]) acc 0 fun j v q => ?_)
  obtain ⟨l, rfl, n, e'⟩ := h j v q
  rw [Nat.zero_add]
  exact .lst (SqL.of (x _ _ e')) (.cons (.int _) .nil)
theorem put_later {w : Str} {m : Addr} (h : w ≠ ("LATER" : Str)) : putK [((.inr w : Key), V.ref m)] (.inr "LATER") (.int 1) = [(.inr w, .ref m), (.inr "LATER", .int 1)] := by
  unfold putK
  have : (([((.inr w : Key), V.ref m)] : List (Key × V)).any fun kv => decide (kv.1 = (.inr "LATER" : Key))) = false := by
    show (decide ((.inr w : Key) = .inr "LATER") || false) = false
    rw [Bool.or_false]
    exact decide_eq_false fun e => h (Sum.inr.inj e)
  rw [this]
  rfl
/-- the last test of a turn: the things hold what is shown now -/
def tLast (C : Nat → Addr) : TS := fun D σ H => ∃ (v : V) (d : PyData) (so ca : Addr), σ[4]? = some (some v) ∧ σ[6]? = some (some (.ref so)) ∧ σ[7]? = some (some (.ref ca)) ∧ Thing H v d ∧ EL H v ((List.range 27).map C) so ∧ EL H v ((List.range 27).map C) ca ∧ ∀ H', Ext H H' → D.nx σ H'
theorem disp_ext {H H2 : Hp} {d : Addr} {o o' : HO} (h : H d = none) (x : Ext (upd H d o) H2) : Ext H (upd H2 d o') := fun b u e => by
  have : b ≠ d := ne_of_none e h
  exact (upd_ne this).trans (x _ _ ((upd_ne this).trans e))
section
variable {P : Program} {w : World} {K : PySem.W.Frag} {mg : Str → Option Value} {base : Heap} {f : Addr} {fd : FuncData} {C : Nat → Addr} {L : Addr}
theorem ok_law (F : FnP K "law" sLaw f fd) (T : Env P K mg C L) : FnOkG P w K mg base 4 f fd ["_law_script"] (spLaw K) := by
  have GPs : FnOk P w K mg base CX0 2 T.fPurses T.dPurses ["_law_script", "_law_few"] (spPurses K) := ok_purses T.Purses T.Purse T.gPurse T.int T.max T.sum T.min T.len T.range
  have GW : FnOk P w K mg base CX0 3 T.fWord T.dWord ["_law_purse_here"] spWord := ok_word T.Word T.Draw T.Mixed T.gDraw T.gMixed T.int T.range
  have GO : FnOk P w K mg base CX0 3 T.fOne T.dOne ["_law_purse_here", "_law_some"] (spOneOf K) := ok_one_of T.One T.Draw T.Mixed T.gDraw T.gMixed T.int T.range T.len
  have GF : FnOk P w K mg base CX0 3 T.fFirst T.dFirst ["_law_thing"] (spMk ((List.range 27).map C)) := ok_first T.First T.V
  have GC : FnOk P w K mg base CX0 3 T.fCalled T.dCalled ["_law_thing"] (spMk ((List.range 27).map C)) := ok_called T.Called T.V
  have GB : FnOk P w K mg base CX0 3 T.fBare T.dBare [] (spMk0 ((List.range 27).map C)) := ok_bare T.Bare T.V
  have GK : FnOk P w K mg base CX0 1 T.fCode T.dCode ["_law_error"] (spCode K C) := ok_code T.Code T.M T.isin T.len T.range
  have GI : FnOk P w K mg base CX0 1 T.fIs T.dIs ["_law_error"] (spIsErr K L) := ok_isErr T.Is T.mL T.val T.isin
  have GR : FnOkG P w K mg base 2 T.fRight T.dRight ["_law_some", "_law_noted"] (spRight C) := ok_right T.Right T.Code T.Is T.gCode T.gIs T.M (fun i hi => T.cl i (by omega)) T.mL T.val T.isin T.len T.range T.repr T.sys
  have bPs : Binds K T.dPurses ["_law_script", "_law_few"] [] := T.Purses.bindsN fun _ _ _ _ _ _ us hl => match us, hl with | [_, _], _ => rfl
  have bW : Binds K T.dWord ["_law_purse_here"] [] := T.Word.bindsN fun _ _ _ _ _ _ us hl => match us, hl with | [_], _ => rfl
  have bO : Binds K T.dOne ["_law_purse_here", "_law_some"] [] := T.One.bindsN fun _ _ _ _ _ _ us hl => match us, hl with | [_, _], _ => rfl
  have bF : Binds K T.dFirst ["_law_thing"] [] := T.First.bindsN fun _ _ _ _ _ _ us hl => match us, hl with | [_], _ => rfl
  have bC : Binds K T.dCalled ["_law_thing"] [] := T.Called.bindsN fun _ _ _ _ _ _ us hl => match us, hl with | [_], _ => rfl
  have bB : Binds K T.dBare [] [] := T.Bare.bindsN fun _ _ _ _ _ _ us hl => match us, hl with | [], _ => rfl
  have bK : Binds K T.dCode ["_law_error"] [] := T.Code.bindsN fun _ _ _ _ _ _ us hl => match us, hl with | [_], _ => rfl
  have bI : Binds K T.dIs ["_law_error"] [] := T.Is.bindsN fun _ _ _ _ _ _ us hl => match us, hl with | [_], _ => rfl
  have bR : Binds K T.dRight ["_law_some", "_law_noted"] [] := T.Right.bindsN fun _ _ _ _ _ _ us hl => match us, hl with | [_, _], _ => rfl
  refine F.okG scLaw (fun vs H Q E h => ?_) (fun cdv A outer s H vs Q E hg hr h => ?_)
  · obtain ⟨a, ns, rfl, _⟩ := h
    rfl
  · obtain ⟨a, ns, rfl, hs, k⟩ := h
    have hr2 : Room 2 _ := hr.mono (by decide)
    have hr1 : Room 1 _ := hr.mono (by decide)
    have hu1 : (A.deeper (envOfC "law" (defScope sLaw) s.heap.objs.size f cdv)).units + 1 < cLine := by have := hr.units; omega
    refine ⟨_, PSs.nox (pss_cons (ps_for PassesOwn.never rfl (pi_list (pe_call GPs hr2 rfl T.gPurses T.Purses.kp bPs .nil pass0 (pa_cons (pv 0) (pa_cons pe_int pa_nil)))) (pg_name (i := 1) scLaw.nd rfl (Or.inl rfl))
        (pss_cons (ps_set (i := 2) scLaw.nd rfl (Or.inl rfl) (pe_call GW hr rfl T.gWord T.Word.kp bW .nil pass0 (pa_cons (pv 1) pa_nil)))
        (pss_cons (ps_set (i := 3) scLaw.nd rfl (Or.inl rfl) (pe_lst (pa_cons pe_non (pa_cons pe_bl (pa_cons pe_bl (pa_cons pe_int (pa_cons (pv 2) (pa_cons (pe_un un_neg (pe_ix ix_list (pv 1) pe_int (fun _ _ => rfl)))
          (pa_cons (pe_tup (pa_cons pe_str (pa_cons (pv 2) (pa_cons pe_int (pa_cons pe_int pa_nil))))) (pa_cons (pe_tup (pa_cons (pv 2) (pa_cons (pe_lst (pa_cons (pv 2) pa_nil)) pa_nil)))
          (pa_cons (pe_disp (pps_cons (pv 2) (pe_lst (pa_cons (pv 2) pa_nil)) pps_nil) rfl rfl (List.cons_ne_nil _ _) (show (1 : Nat) ≤ 15 by decide)) pa_nil)))))))))))
        (pss_cons (ps_set (i := 4) scLaw.nd rfl (Or.inl rfl) (pe_call GO hr rfl T.gOne T.One.kp bO .nil pass0 (pa_cons (pv 1) (pa_cons (pe_op op_cat (pv 3) (pe_lst (pa_cons (pe_lst (pa_cons (pv 2) pa_nil))
          (pa_cons (pe_lst (pa_cons (pe_lst (pa_cons (pv 2) pa_nil)) (pa_cons (pe_disp (pps_cons pe_str (pv 2) pps_nil) rfl rfl (List.cons_ne_nil _ _) (show (1 : Nat) ≤ 15 by decide)) pa_nil))) pa_nil)))) pa_nil))))
        (pss_cons (ps_set (i := 5) scLaw.nd rfl (Or.inl rfl) (pe_callB (call_repr hg hr.units T.sys) (by rfl) T.repr (by decide +kernel) (pa_cons (pv 4) pa_nil)))
        (pss_cons (ps_par3 (i := 6) (j := 7) (l := 8) rfl scLaw.nd rfl rfl rfl (by decide) (by decide) (by decide) rfl rfl rfl (pa_cons (pe_call GF hr rfl T.gFirst T.First.kp bF .nil pass0 (pa_cons (pv 4) pa_nil))
          (pa_cons (pe_call GC hr rfl T.gCalled T.Called.kp bC .nil pass0 (pa_cons (pv 4) pa_nil)) (pa_cons (pe_call GF hr rfl T.gFirst T.First.kp bF .nil pass0 (pa_cons (pe_tup (pa_cons pe_str (pa_cons (pv 2) pa_nil))) pa_nil)) pa_nil))) (by rfl))
        (pss_cons (ps_if (PW.pt (pw_or (pt_not (pt_val (pe_callG GR hg hr2 T.gRight T.Right.kp bR (pa_cons (pe_call0 GB hr rfl T.gBare T.Bare.kp bB .nil pass0) (pa_cons pe_str pa_nil)))))
            (pw_or1 (pt_not (pt_val (pe_callG GR hg hr2 T.gRight T.Right.kp bR (pa_cons (pv 8) (pa_cons (pe_callB (call_repr hg hr.units T.sys) (by rfl) T.repr (by decide +kernel) (pa_cons (pe_tup (pa_cons pe_str (pa_cons (pv 2) pa_nil))) pa_nil)) pa_nil)))))))) (pss_one (ps_ret pe_bl)) pss_nil)
        (pss_cons (ps_if (PW.pt (pw_or (pt_not (pt_val (pe_callG GR hg hr2 T.gRight T.Right.kp bR (pa_cons (pv 6) (pa_cons (pv 5) pa_nil)))))
            (pw_or1 (pt_not (pt_val (pe_callG GR hg hr2 T.gRight T.Right.kp bR (pa_cons (pv 7) (pa_cons (pv 5) pa_nil)))))))) (pss_one (ps_ret pe_bl)) pss_nil)
        (pss_cons (ps_if (pt_val (pe_callB call_isi (by rfl) T.isin (by decide +kernel) (pa_cons (pv 4) (pa_cons (pe_bltn (v := .ty "list") rfl T.list boot_list_ rfl) pa_nil)))) (pss_one (ps_expr (pe_bm PySem.F.plainAttrs_list PySem.F.slot_list_append PySem.F.type_list_append mt_append (pv 4) (pa_cons pe_str pa_nil)))) pss_nil)
        (pss_cons (ps_if (pt_val (pe_callB call_isi (by rfl) T.isin (by decide +kernel) (pa_cons (pv 4) (pa_cons (pe_bltn (v := .ty "dict") rfl T.dict boot_dict_ rfl) pa_nil)))) (pss_cons (ps_expr (pe_bm PySem.F.plainAttrs_list PySem.F.slot_list_append PySem.F.type_list_append mt_append (pe_dget hu1 (pv 4) (pv 2) (fun _ _ => rfl)) (pa_cons pe_str pa_nil)))
            (pss_one (ps_asg pe_int (pg_sub (pv 4) pe_str (set_dict hu1))))) pss_nil)
        (pss_cons (ps_if (PW.pt (pw_and (pt_val (pe_callB call_isi (by rfl) T.isin (by decide +kernel) (pa_cons (pv 4) (pa_cons (pe_bltn (v := .ty "tuple") rfl T.tuple boot_tuple_ rfl) pa_nil))))
            (pw_and1 (pt_val (pe_callB call_isi (by rfl) T.isin (by decide +kernel) (pa_cons (pe_ix ix_tup (pv 4) pe_int (fun _ _ => rfl)) (pa_cons (pe_bltn (v := .ty "list") rfl T.list boot_list_ rfl) pa_nil)))))))
            (pss_one (ps_expr (pe_bm PySem.F.plainAttrs_list PySem.F.slot_list_append PySem.F.type_list_append mt_append (pe_ix ix_tup (pv 4) pe_int (fun _ _ => rfl)) (pa_cons pe_str pa_nil)))) pss_nil)
        (pss_one (ps_weak (t' := tLast C) (ps_if (PW.pt (pw_or (pt_not (pt_val (pe_callG GR hg hr2 T.gRight T.Right.kp bR (pa_cons (pv 6) (pa_cons (pe_callB (call_repr hg hr.units T.sys) (by rfl) T.repr (by decide +kernel) (pa_cons (pv 4) pa_nil)) pa_nil)))))
            (pw_or1 (pt_not (pt_val (pe_callG GR hg hr2 T.gRight T.Right.kp bR (pa_cons (pv 7) (pa_cons (pe_callB (call_repr hg hr.units T.sys) (by rfl) T.repr (by decide +kernel) (pa_cons (pv 4) pa_nil)) pa_nil)))))))) (pss_one (ps_ret pe_bl)) pss_nil) ?last)))))))))))))
      (pss_cons (ps_set (i := 9) scLaw.nd rfl (Or.inl rfl) (pe_lst (pa_cons (pe_bare (x := "NothingToUndo") T.B27 (T.M 27 (by decide))) (pa_cons (pe_bare (x := "NothingToRedo") T.B28 (T.M 28 (by decide))) pa_nil))))
      (pss_cons (ps_if (pt_cmpR (op_neD hr.units) (pe_lc (own := [("_law_error", 10)]) (g := gName 10) (tt := tYes) rfl scLaw.nd (pi_list (pv 9)) (blkOk_by (N := lawN) (sc := defScope sLaw) (by decide +kernel)) (fun _ _ _ _ _ => pg_name (i := 10) scLaw.nd rfl (Or.inl rfl)) (fun _ _ _ _ _ => pts_nil)
            (fun _ _ _ _ _ => pe_call GK hr1 rfl T.gCode T.Code.kp bK .nil pass0 (pa_cons (pv 10) pa_nil))) (pe_lst (pa_cons (pe_lst (pa_cons pe_int pa_nil)) (pa_cons (pe_lst (pa_cons pe_int pa_nil)) pa_nil))) (nomark _)) (pss_one (ps_ret pe_bl)) pss_nil)
      (pss_cons (ps_expr (pe_bm PySem.F.plainAttrs_list PySem.F.slot_list_append PySem.F.type_list_append mt_append (pv 9) (pa_cons (pe_bare (x := "LampError") T.BL T.mL) pa_nil)))
      (pss_one (ps_ret (pe_and (pe_callB (cr_all (by rfl)) (by rfl) T.all (by decide +kernel) (pa_cons (pe_lc (own := [("_law_error", 10)]) (g := gName 10) (tt := tYes) rfl scLaw.nd (pi_list (pv 9)) (blkOk_by (N := lawN) (sc := defScope sLaw) (by decide +kernel)) (fun _ _ _ _ _ => pg_name (i := 10) scLaw.nd rfl (Or.inl rfl)) (fun _ _ _ _ _ => pts_nil)
            (fun _ _ _ _ _ => pe_call GI hr1 rfl T.gIs T.Is.kp bI .nil pass0 (pa_cons (pv 10) pa_nil))) pa_nil))
          (pe_one (pe_cmpR (op_eqD hr.units) (pe_call GK hr1 rfl T.gCode T.Code.kp bK .nil pass0 (pa_cons (pe_ix ix_list (pv 9) pe_int (fun _ _ => rfl)) pa_nil)) (pe_lst pa_nil) (nomark _)))))))))), ?_⟩
    case last =>
      rintro D σ H ⟨v, d, so, ca, h4, h6, h7, th, el1, el2, kk⟩
      obtain ⟨as1, f1, g1⟩ := el1
      obtain ⟨as2, f2, g2⟩ := el2
      have c1 := th.sm.sh
      have c2 : d.depth ≤ 60 := Nat.le_trans th.sm.dp (by decide)
      have c3 : d.shown.length ≤ sizeLine := Nat.le_trans th.sm.ln (by decide)
      refine ⟨_, h6, _, h4, v, d, rfl, th.dr, c1, c2, c3, so, as1, v, d, rfl, f1, g1, th.dr, c1, c2, c3, fun H1 x1 => ⟨true, rfl, ?_⟩⟩
      have th1 := dr_ext x1 th.dr
      exact ⟨_, h7, _, h4, v, d, rfl, th1, c1, c2, c3, ca, as2, v, d, rfl, x1 _ _ f2, errs_ext g2 x1, th1, c1, c2, c3, fun H2 x2 => ⟨true, rfl, kk H2 (x1.trans x2)⟩⟩
    refine ⟨_, rfl, a, ns, 1, rfl, hs, by decide, fun D ps H0 hD x0 eD l1 l2 nd hps => ?_⟩
    have l3 : ps.length = 1 := by
      have : (ps.length : Int) ≤ 1 := l2
      omega
    obtain ⟨p, rfl⟩ : ∃ p, ps = [p] := match ps, l3 with | [p], _ => ⟨p, rfl⟩
    obtain ⟨hp0, pD, hpu⟩ := hps p (List.mem_singleton.mpr rfl)
    refine ⟨D, rfl, ⟨_, SqL.of eD⟩, ?_⟩
    show ∃ W : Nat → Nat → L2.St → Hp → Prop, _
    refine for_list (xs := [V.ref p]) (fun i σ H' => (∃ v1 v2 v3 v4 v5 v6 v7 v8 v9 v10, σ = [some (.ref a), v1, v2, v3, v4, v5, v6, v7, v8, v9, v10]) ∧ H' D = some (.lst [.ref p]) ∧ (i = 0 → PurseAt H' p 0)) ⟨⟨none, none, none, none, none, none, none, none, none, none, rfl⟩, eD, fun _ => hpu⟩ (fun i σ H' _ q => SqL.of q.2.1) ?_ ?_
    · rintro i x σ H1 e ⟨⟨v1, v2, v3, v4, v5, v6, v7, v8, v9, v10, rfl⟩, h1, hp⟩
      obtain ⟨rfl, rfl⟩ : i = 0 ∧ x = .ref p := by
        cases i with
        | zero => cases e; exact ⟨rfl, rfl⟩
        | succ i => cases e
      refine ⟨_, rfl, p, 0, rfl, hp rfl, by decide, fun w H2 hw k2 hp2 => ?_⟩
      have eD2 : H2 D = some (.lst [.ref p]) := k2 D _ (Ne.symm pD) h1
      obtain ⟨pa, pb, pc, pd, ep, ha, hb, hc⟩ := hp2
      have hp2 : PurseAt H2 p (0 + 10) := ⟨pa, pb, pc, pd, ep, ha, hb, hc⟩
      refine ⟨_, rfl, _, rfl, p, _, 1, .int pb, rfl, rfl, SqL.of ep, rfl, pb, rfl, ?_⟩
      refine ⟨_, rfl, (show (4 : Nat) ≤ 16777216 by decide), fun t1 ht1 => ?_⟩
      refine ⟨_, rfl, _, rfl, (show (1 : Nat) ≤ 16777216 by decide), fun m1 hm1 => ⟨(show (2 : Nat) ≤ 16777216 by decide), fun t2 ht2 => ?_⟩⟩
      refine fun d1 hd1 => ⟨_, rfl, _, rfl, (show (1 : Nat) ≤ 16777216 by decide), fun m2 hm2 => ⟨Ext.upd hm2 _ _ upd_same, [(.inr w, .ref m2)], rfl, (show (1 : Nat) ≤ 15 by decide), ?_⟩⟩
      refine ⟨(show (9 : Nat) ≤ 16777216 by decide), fun pl hpl => ?_⟩
      have xa := Ext.upd (o := .tup [.str "says", .str w, .int 1, .int 2]) ht1
      have xb := Ext.upd (o := .lst [.str w]) hm1
      have xc := Ext.upd (o := .tup [.str w, .ref m1]) ht2
      have xd := Ext.upd (o := .lst [.str w]) hm2
      have xe := disp_ext (o' := .dK [(.inr w, .ref m2)]) hd1 xd
      have xg := Ext.upd (o := .lst [.non, .bl true, .bl false, .int 0, .str w, .int (-pb), .ref t1, .ref t2, .ref d1]) hpl
      have fm2 : m2 ≠ d1 := fun z => by
        have q := hm2
        rw [z] at q
        cases (upd_same.symm.trans q)
      refine ⟨_, rfl, _, rfl, _, rfl, (show (1 : Nat) ≤ 16777216 by decide), fun m3 hm3 => ⟨_, rfl, (show (1 : Nat) ≤ 16777216 by decide), fun m4 hm4 => ?_⟩⟩
      refine fun d2 hd2 => ⟨_, rfl, upd_same, [(.inr "odd", .str w)], rfl, (show (1 : Nat) ≤ 15 by decide), (show (2 : Nat) ≤ 16777216 by decide), fun l10 hl10 => ⟨(show (2 : Nat) ≤ 16777216 by decide), fun m5 hm5 => ?_⟩⟩
      have xh := Ext.upd (o := .lst [.str w]) hm3
      have xi := Ext.upd (o := .lst [.str w]) hm4
      have xj := disp_ext (o := .dK []) (o' := .dK [(.inr "odd", .str w)]) hd2 Ext.rfl'
      have xk := Ext.upd (o := .lst [.ref m4, .ref d2]) hl10
      have xl := Ext.upd (o := .lst [.ref m3, .ref l10]) hm5
      have xq := ((xh.trans xi).trans xj).trans (xk.trans xl)
      refine ⟨pl, m5, _, _, rfl, rfl, xq _ _ upd_same, upd_same, (show (11 : Nat) ≤ 16777216 by decide), fun l hl => ?_⟩
      have xm := Ext.upd (o := .lst [.non, .bl true, .bl false, .int 0, .str w, .int (-pb), .ref t1, .ref t2, .ref d1, .ref m3, .ref l10]) hl
      have x2g := ((xa.trans xb).trans (xc.trans xe)).trans xg
      have hpm := hp2.ext ((x2g.trans xq).trans xm)
      refine ⟨p, l, _, 0 + 10, rfl, hpm, by decide, SqL.of upd_same, (hpm.notLst upd_same fun _ _ _ _ z => by cases z), (show 1 ≤ (11 : Nat) by decide), (show (11 : Nat) < 134217728 by decide), fun j x H3 ej hb3 hp3 => ?_⟩
      have xF := xg.trans (xq.trans xm)
      have hk3 : Kind H3 w D x := by
        refine Kind.but ?_ hpm hb3
        have ft1 := (xb.trans (xc.trans (xe.trans xF))) _ _ upd_same
        have fm1 := (xc.trans (xe.trans xF)) _ _ upd_same
        have ft2 := (xe.trans xF) _ _ upd_same
        have fm2' := xF _ _ ((upd_ne fm2).trans upd_same)
        have fd1 := xF _ _ upd_same
        have fm3 := (((xi.trans xj).trans (xk.trans xl)).trans xm) _ _ upd_same
        have fm4 := ((xj.trans (xk.trans xl)).trans xm) _ _ upd_same
        have fd2 := ((xk.trans xl).trans xm) _ _ upd_same
        have fl10 := (xl.trans xm) _ _ upd_same
        have nm1 : m1 ≠ D := (ne_of_none (xa _ _ eD2) hm1).symm
        have nd1 : d1 ≠ D := (ne_of_none ((xa.trans (xb.trans xc)) _ _ eD2) hd1).symm
        have nm2 : m2 ≠ D := (ne_of_none (Ext.upd (o := .dK []) hd1 _ _ ((xa.trans (xb.trans xc)) _ _ eD2)) hm2).symm
        have nm3 : m3 ≠ D := (ne_of_none (x2g _ _ eD2) hm3).symm
        have nl10 : l10 ≠ D := (ne_of_none ((x2g.trans ((xh.trans xi).trans xj)) _ _ eD2) hl10).symm
        have ej' : ([.non, .bl true, .bl false, .int 0, .str w, .int (-pb), .ref t1, .ref t2, .ref d1, .ref m3, .ref l10] : List V)[j]? = some x := ej
        match j, ej' with
        | 0, e => cases e; exact .plain (fun _ => .non) (fun _ _ => .base .non) (by decide +kernel) (by decide +kernel) (by decide +kernel) (Sm.non.le (by omega) (Nat.le_refl _))
        | 1, e => cases e; exact .plain (fun _ => .bl _) (fun _ _ => .base (.bl _)) (by decide +kernel) (by decide +kernel) (by decide +kernel) (Sm.bl.le (by omega) (Nat.le_refl _))
        | 2, e => cases e; exact .plain (fun _ => .bl _) (fun _ _ => .base (.bl _)) (by decide +kernel) (by decide +kernel) (by decide +kernel) (Sm.bl.le (by omega) (Nat.le_refl _))
        | 3, e => cases e; exact .plain (fun _ => .int _) (fun _ _ => .base (.int _)) (by decide +kernel) (by decide +kernel) (by decide +kernel) ((Sm.int (by decide)).le (by omega) (Nat.le_refl _))
        | 4, e => cases e; exact .plain (fun _ => .str _) (fun _ _ => .base (.str _)) (by decide +kernel) (by decide +kernel) (by decide +kernel) (hw.sm.le (by omega) (Nat.le_refl _))
        | 5, e => cases e; exact .plain (fun _ => .int _) (fun _ _ => .base (.int _)) (by decide +kernel) (by decide +kernel) (by decide +kernel) ((Sm.int (by omega)).le (by omega) (Nat.le_refl _))
        | 6, e => cases e; exact .says ft1
        | 7, e => cases e; exact .pair ft2 fm1 nm1
        | 8, e => cases e; exact .dct fd1 fm2' nm2 nd1
        | 9, e => cases e; exact .one fm3 nm3
        | 10, e => cases e; exact .two fl10 fm4 fd2 nl10
        | n + 11, e => cases e
      have eD3 : H3 D = some (.lst [.ref p]) := (hb3 D (Ne.symm pD)).trans (((x2g.trans xq).trans xm) _ _ eD2)
      obtain ⟨d, th⟩ := hk3.thing hw
      have c1 := th.sm.sh
      have c2 : d.depth ≤ 60 := Nat.le_trans th.sm.dp (by decide)
      have c3 : d.shown.length ≤ sizeLine := Nat.le_trans th.sm.ln (by decide)
      refine ⟨_, rfl, x, d, rfl, th.dr, c1, c2, c3, ?_⟩
      refine ⟨_, rfl, x, rfl, fun so as1 H4 x4 n4 e4 p4 => ⟨_, rfl, x, rfl, fun ca as2 H5 x5 n5 e5 p5 => ?_⟩⟩
      refine ⟨_, rfl, (show (2 : Nat) ≤ 16777216 by decide), fun tl htl => ⟨.ref tl, rfl, fun la as3 H6 x6 n6 e6 p6 => ⟨_, _, _, rfl, ?_⟩⟩⟩
      have y6 := (Ext.upd (o := .tup [.str "later", .str w]) htl).trans x6
      have dl6 : Dr H6 (.ref tl) (.tuple [.str "later", .str w]) := .tup (x6 _ _ upd_same) (.cons (.str _) (.cons (.str _) .nil))
      have sl : Sm (.tuple [.str "later", .str w]) 1000 10 := (Sm.tuple (k := 5) (.cons (.lit (n := 100) (by decide +kernel)) (.cons hw.sm .nil))).le (by omega) (by omega)
      have b1 := sl.sh
      have b2 : (PyData.tuple [.str "later", .str w]).depth ≤ 60 := Nat.le_trans sl.dp (by decide)
      have b3 : (PyData.tuple [.str "later", .str w]).shown.length ≤ sizeLine := Nat.le_trans sl.ln (by decide)
      have sn : Sm .none 4 10 := Sm.non
      refine ⟨rfl, fun ba as4 H7 x7 n7 e7 p7 => ⟨ba, as4, .non, .none, by rw [shown_none]; rfl, e7, p7, .non, sn.sh, Nat.le_trans sn.dp (by decide), Nat.le_trans sn.ln (by decide), fun H8 x8 => ⟨true, rfl, ?_⟩⟩⟩
      have y8 := x7.trans x8
      refine ⟨_, rfl, _, rfl, (show (2 : Nat) ≤ 16777216 by decide), fun t3 ht3 => ⟨.ref t3, .tuple [.str "later", .str w], rfl, .tup upd_same (.cons (.str _) (.cons (.str _) .nil)), b1, b2, b3, la, as3, .ref tl, .tuple [.str "later", .str w], rfl, ?_, ?_, ?_, b1, b2, b3, fun H9 x9 => ⟨true, rfl, ?_⟩⟩⟩
      · exact Ext.upd ht3 _ _ (y8 _ _ e6)
      · exact errs_ext p6 (y8.trans (Ext.upd ht3))
      · exact dr_ext (y8.trans (Ext.upd ht3)) dl6
      have y9 := (y8.trans (Ext.upd (o := .tup [.str "later", .str w]) ht3)).trans x9
      have z49 := (x5.trans y6).trans y9
      have z59 := y6.trans y9
      have z39 := x4.trans z49
      refine ⟨_, rfl, _, rfl, so, as1, x, d, rfl, z49 _ _ e4, errs_ext p4 z49, dr_ext z39 th.dr, c1, c2, c3, fun H10 x10 => ⟨true, rfl, ?_⟩⟩
      refine ⟨_, rfl, _, rfl, ca, as2, x, d, rfl, (z59.trans x10) _ _ e5, errs_ext p5 (z59.trans x10), dr_ext (z39.trans x10) th.dr, c1, c2, c3, fun H11 x11 => ⟨true, rfl, ?_⟩⟩
      have zz := x10.trans x11
      have els : EL H11 x ((List.range 27).map C) so := ⟨as1, (z49.trans zz) _ _ e4, errs_ext p4 (z49.trans zz)⟩
      have elc : EL H11 x ((List.range 27).map C) ca := ⟨as2, (z59.trans zz) _ _ e5, errs_ext p5 (z59.trans zz)⟩
      have hk11 : Kind H11 w D x := hk3.ext (z39.trans zz)
      have eD11 : H11 D = some (.lst [.ref p]) := (z39.trans zz) _ _ eD3
      have ne_c : ∀ {b c : Addr} {u v : HO}, H11 b = some u → H11 c = some v → u ≠ v → b ≠ c := fun e1 e2 ne z => ne (by rw [z, e2] at e1; exact (Option.some.inj e1).symm)
      cases hk11 with
      | plain a0 a1 a2 a3 a4 a5 =>
        refine ⟨_, rfl, _, .ty "list", .type _, .type "list", false, rfl, ClsV.ty _, a1 _ _, kit_ty a2, false, rfl, ?_⟩
        refine ⟨_, rfl, _, .ty "dict", .type _, .type "dict", false, rfl, ClsV.ty _, a1 _ _, kit_ty a3, false, rfl, ?_⟩
        refine ⟨_, rfl, _, .ty "tuple", .type _, .type "tuple", false, rfl, ClsV.ty _, a1 _ _, kit_ty a4, false, rfl, ?_⟩
        exact ⟨_, _, so, ca, rfl, rfl, rfl, ⟨a0 _, a5⟩, els, elc, fun H' x' => ⟨⟨_, _, _, _, _, _, _, _, _, _, rfl⟩, x' _ _ eD11, fun z => by cases z⟩⟩
      | says a0 =>
        refine ⟨_, rfl, _, .ty "list", .type "tuple", .type "list", false, rfl, ClsV.ty _, .base (.tup a0), kit_ty (by decide +kernel), false, rfl, ?_⟩
        refine ⟨_, rfl, _, .ty "dict", .type "tuple", .type "dict", false, rfl, ClsV.ty _, .base (.tup a0), kit_ty (by decide +kernel), false, rfl, ?_⟩
        refine ⟨_, rfl, _, .ty "tuple", .type "tuple", .type "tuple", true, rfl, ClsV.ty _, .base (.tup a0), kit_ty (by decide +kernel), true, rfl, ?_⟩
        refine ⟨_, rfl, _, _, 1, .str w, rfl, rfl, SqT.of a0, rfl, .str w, .ty "list", .type "str", .type "list", false, rfl, ClsV.ty _, .base (.str w), kit_ty (by decide +kernel), false, rfl, ?_⟩
        exact ⟨_, _, so, ca, rfl, rfl, rfl, ⟨.tup a0 (.cons (.str _) (.cons (.str _) (.cons (.int _) (.cons (.int _) .nil)))), (smB (k := 1) hw).le (Nat.le_refl _) (by omega)⟩, els, elc, fun H' x' => ⟨⟨_, _, _, _, _, _, _, _, _, _, rfl⟩, x' _ _ eD11, fun z => by cases z⟩⟩
      | @pair t m a0 a1 a2 =>
        refine ⟨_, rfl, _, .ty "list", .type "tuple", .type "list", false, rfl, ClsV.ty _, .base (.tup a0), kit_ty (by decide +kernel), false, rfl, ?_⟩
        refine ⟨_, rfl, _, .ty "dict", .type "tuple", .type "dict", false, rfl, ClsV.ty _, .base (.tup a0), kit_ty (by decide +kernel), false, rfl, ?_⟩
        refine ⟨_, rfl, _, .ty "tuple", .type "tuple", .type "tuple", true, rfl, ClsV.ty _, .base (.tup a0), kit_ty (by decide +kernel), true, rfl, ?_⟩
        refine ⟨_, rfl, _, _, 1, .ref m, rfl, rfl, SqT.of a0, rfl, .ref m, .ty "list", .type "list", .type "list", true, rfl, ClsV.ty _, .base (.lst a1), kit_ty (by decide +kernel), true, rfl, ?_⟩
        refine ⟨_, rfl, _, _, 1, .ref m, rfl, rfl, SqT.of a0, rfl, .inl ⟨rfl, _, SqL.of a1⟩, m, _, .str "later", rfl, rfl, a1, (show (1 : Nat) < 16777216 by decide), ?_⟩
        have tm : t ≠ m := ne_c a0 a1 fun z => by cases z
        exact ⟨_, _, so, ca, rfl, rfl, rfl, ⟨drC ((upd_ne tm).trans a0) upd_same (.cons (.str _) .nil), (smC (k := 1) hw sm_later (by omega)).le (Nat.le_refl _) (by omega)⟩, els.upd a1 (.inl ⟨_, rfl, by simp⟩), elc.upd a1 (.inl ⟨_, rfl, by simp⟩),
          fun H' x' => ⟨⟨_, _, _, _, _, _, _, _, _, _, rfl⟩, x' _ _ ((upd_ne a2.symm).trans eD11), fun z => by cases z⟩⟩
      | @dct t m a0 a1 a2 a3 =>
        have tm : t ≠ m := ne_c a0 a1 fun z => by cases z
        have g : DGet H11 t (.str w) (some (.ref m)) := by
          have z := DGet.k (k := .inr w) a0
          rw [valV_pos rfl] at z
          exact z
        refine ⟨_, rfl, _, .ty "list", .type "dict", .type "list", false, rfl, ClsV.ty _, .base (.dK a0), kit_ty (by decide +kernel), false, rfl, ?_⟩
        refine ⟨_, rfl, _, .ty "dict", .type "dict", .type "dict", true, rfl, ClsV.ty _, .base (.dK a0), kit_ty (by decide +kernel), true, rfl, ?_⟩
        refine ⟨_, rfl, _, rfl, t, .ref m, rfl, g, .inl ⟨rfl, _, SqL.of a1⟩, m, _, .str "later", rfl, rfl, a1, (show (1 : Nat) < 16777216 by decide), ?_⟩
        have a0' : upd H11 m (.lst [.str w, .str "later"]) t = some (.dK [(.inr w, .ref m)]) := (upd_ne tm).trans a0
        refine ⟨_, rfl, t, _, rfl, .inl ⟨_, .inr "LATER", a0', rfl, (show (1 : Nat) < 16777216 by decide), rfl⟩, ?_⟩
        rw [put_later hw.ne]
        refine ⟨_, rfl, _, .ty "tuple", .type "dict", .type "tuple", false, rfl, ClsV.ty _, .base (.dK upd_same), kit_ty (by decide +kernel), false, rfl, ?_⟩
        exact ⟨_, _, so, ca, rfl, rfl, rfl, ⟨drD2 upd_same ((upd_ne tm.symm).trans upd_same) (.cons (.str _) .nil), (smD (k := 1) hw sm_later (by omega) (.cons (.lit (n := 100) (by decide +kernel)) (.int (by decide)) .nil) (by omega)).le (Nat.le_refl _) (by omega)⟩,
          (els.upd a1 (.inl ⟨_, rfl, by simp⟩)).upd a0' (.inr ⟨_, rfl⟩), (elc.upd a1 (.inl ⟨_, rfl, by simp⟩)).upd a0' (.inr ⟨_, rfl⟩),
          fun H' x' => ⟨⟨_, _, _, _, _, _, _, _, _, _, rfl⟩, x' _ _ ((upd_ne a3.symm).trans ((upd_ne a2.symm).trans eD11)), fun z => by cases z⟩⟩
      | @one t a0 a1 =>
        refine ⟨_, rfl, _, .ty "list", .type "list", .type "list", true, rfl, ClsV.ty _, .base (.lst a0), kit_ty (by decide +kernel), true, rfl, ?_⟩
        refine ⟨_, rfl, .inl ⟨rfl, _, SqL.of a0⟩, t, _, .str "later", rfl, rfl, a0, (show (1 : Nat) < 16777216 by decide), ?_⟩
        refine ⟨_, rfl, _, .ty "dict", .type "list", .type "dict", false, rfl, ClsV.ty _, .base (.lst upd_same), kit_ty (by decide +kernel), false, rfl, ?_⟩
        refine ⟨_, rfl, _, .ty "tuple", .type "list", .type "tuple", false, rfl, ClsV.ty _, .base (.lst upd_same), kit_ty (by decide +kernel), false, rfl, ?_⟩
        exact ⟨_, _, so, ca, rfl, rfl, rfl, ⟨.lst upd_same (.cons (.str _) (.cons (.str _) .nil)), (smE (k := 1) hw sm_later (by omega)).le (Nat.le_refl _) (by omega)⟩, els.upd a0 (.inl ⟨_, rfl, by simp⟩), elc.upd a0 (.inl ⟨_, rfl, by simp⟩),
          fun H' x' => ⟨⟨_, _, _, _, _, _, _, _, _, _, rfl⟩, x' _ _ ((upd_ne a1.symm).trans eD11), fun z => by cases z⟩⟩
      | @two t m c a0 a1 a2 a3 =>
        have mt : m ≠ t := ne_c a1 a0 fun z => by cases z
        have ct : c ≠ t := ne_c a2 a0 fun z => by cases z
        refine ⟨_, rfl, _, .ty "list", .type "list", .type "list", true, rfl, ClsV.ty _, .base (.lst a0), kit_ty (by decide +kernel), true, rfl, ?_⟩
        refine ⟨_, rfl, .inl ⟨rfl, _, SqL.of a0⟩, t, _, .str "later", rfl, rfl, a0, (show (2 : Nat) < 16777216 by decide), ?_⟩
        refine ⟨_, rfl, _, .ty "dict", .type "list", .type "dict", false, rfl, ClsV.ty _, .base (.lst upd_same), kit_ty (by decide +kernel), false, rfl, ?_⟩
        refine ⟨_, rfl, _, .ty "tuple", .type "list", .type "tuple", false, rfl, ClsV.ty _, .base (.lst upd_same), kit_ty (by decide +kernel), false, rfl, ?_⟩
        exact ⟨_, _, so, ca, rfl, rfl, rfl, ⟨drF upd_same ((upd_ne mt).trans a1) ((upd_ne ct).trans a2) (.cons (.str _) .nil), (smF (k := 1) hw sm_later (by omega)).le (Nat.le_refl _) (by omega)⟩, els.upd a0 (.inl ⟨_, rfl, by simp⟩), elc.upd a0 (.inl ⟨_, rfl, by simp⟩),
          fun H' x' => ⟨⟨_, _, _, _, _, _, _, _, _, _, rfl⟩, x' _ _ ((upd_ne a3.symm).trans eD11), fun z => by cases z⟩⟩
    rintro σ H1 ⟨⟨v1, v2, v3, v4, v5, v6, v7, v8, v9, v10, rfl⟩, h1, hp⟩
    refine fun a27 ha27 => fun a28 ha28 => ⟨(show (2 : Nat) ≤ 16777216 by decide), fun rl hrl => ?_⟩
    have xb := Ext.upd (o := exo a28 (C 28) none) ha28
    have xc := Ext.upd (o := .lst [.ref a27, .ref a28]) hrl
    have f27 := (xb.trans xc) _ _ upd_same
    have f28 := xc _ _ upd_same
    refine ⟨_, rfl, rl, rfl, ⟨_, SqL.of upd_same⟩, fun D2 hD2 => ?_⟩
    show ∃ W : Nat → Nat → Hp → Prop, _
    have xD := Ext.upd (o := .lst []) hD2
    refine lc_list (xs := [.ref a27, .ref a28]) (fun i H' => ∃ acc : List V, acc.length = i ∧ H' D2 = some (.lst acc) ∧ onesG (fun j => ((27 + j : Nat) : Int)) H' D2 acc ∧ H' a27 = some (exo a27 (C 27) none) ∧ H' a28 = some (exo a28 (C 28) none) ∧ H' rl = some (.lst [.ref a27, .ref a28]))
      ⟨[], rfl, upd_same, fun j v e => by simp at e, xD _ _ f27, xD _ _ f28, xD _ _ upd_same⟩ (fun i H' _ q => by
        obtain ⟨acc, _, _, _, _, _, krl⟩ := q
        exact SqL.of krl) ?_ ?_
    · rintro i x H' e ⟨acc, hal, g1, ho, k27, k28, krl⟩
      obtain ⟨a, rfl, hax, hi⟩ : ∃ a, x = .ref a ∧ H' a = some (exo a (C (27 + i)) none) ∧ i < 2 := by
        match i, e with
        | 0, e => cases e; exact ⟨a27, rfl, k27, by omega⟩
        | 1, e => cases e; exact ⟨a28, rfl, k28, by omega⟩
        | n + 2, e => cases e
      refine ⟨rfl, _, rfl, a, C (27 + i), none, rfl, hax, (fun _ z => by cases z), (T.cl (27 + i) (by omega)).exc, fun j hj => by rw [(T.cl (27 + i) (by omega)).kit j hj]; rfl, fun m H2 x2 n2 e2 => ?_⟩
      rw [codeL_one (by omega) (T.cl (27 + i) (by omega))] at e2
      have ne : m ≠ D2 := fun z => by
        rw [z, g1] at n2
        cases n2
      have q27 : a27 ≠ D2 := fun z => by
        rw [z, g1] at k27
        cases k27
      have q28 : a28 ≠ D2 := fun z => by
        rw [z, g1] at k28
        cases k28
      have qrl : rl ≠ D2 := fun z => by
        rw [z, g1] at krl
        have krl := HO.lst.inj (Option.some.inj krl)
        have : acc.length = 2 := by rw [krl]; rfl
        omega
      exact ⟨acc, x2 _ _ g1, by show acc.length < 16777216; omega, acc ++ [.ref m], by simp [hal], upd_same, onesG_snoc ho x2 ne (by rw [hal]; exact e2), (upd_ne q27).trans (x2 _ _ k27), (upd_ne q28).trans (x2 _ _ k28), (upd_ne qrl).trans (x2 _ _ krl)⟩
    rintro H2 ⟨acc, hal, g1, ho, k27, k28, krl⟩
    have hal2 : acc.length = 2 := hal
    refine ⟨(show (1 : Nat) ≤ 16777216 by decide), fun b1 hb1 => ⟨(show (1 : Nat) ≤ 16777216 by decide), fun b2 hb2 => ⟨(show (2 : Nat) ≤ 16777216 by decide), fun bl hbl => ?_⟩⟩⟩
    have y1 := Ext.upd (o := .lst [.int 27]) hb1
    have y2 := Ext.upd (o := .lst [.int 28]) hb2
    have y3 := Ext.upd (o := .lst [.ref b1, .ref b2]) hbl
    have y13 := y1.trans (y2.trans y3)
    have eqt : PyData.eqv (.list [.list [.int 27], .list [.int 28]]) (.list [.list [.int 27], .list [.int 28]]) = true := by decide +kernel
    have dp1 := onesG_dp (K := K) g1 ho y13
    rw [hal2] at dp1
    refine ⟨.list [.list [.int 27], .list [.int 28]], .list [.list [.int 27], .list [.int 28]], dp1, .lst (SqL.of upd_same) (.cons (.lst (SqL.of ((y2.trans y3) _ _ upd_same)) (.cons (.int _) .nil)) (.cons (.lst (SqL.of (y3 _ _ upd_same)) (.cons (.int _) .nil)) .nil)), by decide +kernel, by decide +kernel, _, rfl, ?_⟩
    rw [eqt]
    have w27 := y13 _ _ k27
    have w28 := y13 _ _ k28
    have wrl := y13 _ _ krl
    refine ⟨_, rfl, .inl ⟨rfl, _, SqL.of wrl⟩, fun aL haL => ⟨rl, _, .ref aL, rfl, rfl, (Ext.upd haL _ _ wrl), (show (2 : Nat) < 16777216 by decide), ?_⟩⟩
    have nL : aL ≠ rl := (ne_of_none wrl haL).symm
    have n27 : a27 ≠ rl := fun z => by
      rw [z, krl] at k27
      cases k27
    have n28 : a28 ≠ rl := fun z => by
      rw [z, krl] at k28
      cases k28
    refine ⟨_, rfl, rl, rfl, ⟨_, SqL.of upd_same⟩, fun D3 hD3 => ?_⟩
    show ∃ W : Nat → Nat → Hp → Prop, _
    have xE := Ext.upd (o := .lst []) hD3
    refine lc_list (xs := [.ref a27, .ref a28, .ref aL]) (fun i H' => H' D3 = some (.lst ((List.replicate i true).map V.bl)) ∧ H' a27 = some (exo a27 (C 27) none) ∧ H' a28 = some (exo a28 (C 28) none) ∧ H' aL = some (exo aL L none) ∧ H' rl = some (.lst [.ref a27, .ref a28, .ref aL]))
      ⟨upd_same, xE _ _ ((upd_ne n27).trans (Ext.upd haL _ _ w27)), xE _ _ ((upd_ne n28).trans (Ext.upd haL _ _ w28)), xE _ _ ((upd_ne nL).trans upd_same), xE _ _ upd_same⟩ (fun i H' _ q => SqL.of q.2.2.2.2) ?_ ?_
    · rintro i x H' e ⟨g3, u27, u28, uL, url⟩
      obtain ⟨a, Ca, rfl, ea, exc, kL, kV, hi⟩ : ∃ a Ca, x = .ref a ∧ H' a = some (exo a Ca none) ∧ ExcC K Ca ∧ PySem.W.kitOne K (.ref Ca) (.ref L) = some true ∧ PySem.W.kitOne K (.ref Ca) (.type "ValueError") = some true ∧ i < 3 := by
        match i, e with
        | 0, e => cases e; exact ⟨a27, C 27, rfl, u27, (T.cl 27 (by decide)).exc, (T.cl 27 (by decide)).kL, (T.cl 27 (by decide)).kV, by omega⟩
        | 1, e => cases e; exact ⟨a28, C 28, rfl, u28, (T.cl 28 (by decide)).exc, (T.cl 28 (by decide)).kL, (T.cl 28 (by decide)).kV, by omega⟩
        | 2, e => cases e; exact ⟨aL, L, rfl, uL, T.eL, T.kLL, T.kLV, by omega⟩
        | n + 3, e => cases e
      have q27 : a27 ≠ D3 := fun z => by
        rw [z, g3] at u27
        cases u27
      have q28 : a28 ≠ D3 := fun z => by
        rw [z, g3] at u28
        cases u28
      have qL : aL ≠ D3 := fun z => by
        rw [z, g3] at uL
        cases uL
      have qrl : rl ≠ D3 := fun z => by
        rw [z, g3] at url
        have url := congrArg List.length (HO.lst.inj (Option.some.inj url))
        rw [List.length_map, List.length_replicate] at url
        have url : i = 3 := url
        omega
      exact ⟨rfl, _, rfl, a, Ca, none, rfl, ea, (fun _ z => by cases z), exc, kL, kV, _, g3, by rw [List.length_map, List.length_replicate]; show i < 16777216; omega, by rw [upd_same, List.replicate_succ', List.map_append]; rfl, (upd_ne q27).trans u27, (upd_ne q28).trans u28, (upd_ne qL).trans uL, (upd_ne qrl).trans url⟩
    rintro H4 ⟨g3, u27, u28, uL, url⟩
    refine ⟨D3, [true, true, true], rfl, SqL.of g3, _, rfl, ?_⟩
    refine ⟨_, rfl, rl, _, 2, .ref aL, rfl, rfl, SqL.of url, rfl, aL, L, none, rfl, uL, (fun _ z => by cases z), T.eL, fun j hj => by rw [T.kL j hj]; rfl, fun m H5 x5 n5 e5 => ?_⟩
    rw [codeL_none T.kL] at e5
    have eq0 : PyData.eqv (.list []) (.list []) = true := by decide +kernel
    refine ⟨(show (0 : Nat) ≤ 16777216 by decide), fun m2 hm2 => ⟨.list [], .list [], .lst (SqL.of (Ext.upd hm2 _ _ e5)) .nil, .lst (SqL.of upd_same) .nil, by decide +kernel, by decide +kernel, ?_⟩⟩
    rw [eq0]
    exact k _
end
end Law

/-! from Fin.lean -/
set_option Elab.async false
set_option linter.all false
set_option maxRecDepth 100000
set_option maxHeartbeats 0
namespace HeadK
open PySem PySem.Spec PyProof.Rows L2 Law Oe
theorem sub_nm : sub = nmL := by rfl
theorem names_nm : namesA = ("LampError" : PySem.Str) :: nmL := by rfl
theorem nm_at {i : Nat} (h : i < 29) : nmL[i]? = some (nm i) := by
  unfold nm
  rw [List.getD_eq_getElem?_getD]
  have e : nmL[i]? = some (nmL[i]'h) := List.getElem?_eq_getElem h
  rw [e]
  rfl
theorem fa_at : ∀ i, i < 29 → fa[1 + i]? = some (.glo (nm i))
  | 0, _ => rfl
  | 1, _ => rfl
  | 2, _ => rfl
  | 3, _ => rfl
  | 4, _ => rfl
  | 5, _ => rfl
  | 6, _ => rfl
  | 7, _ => rfl
  | 8, _ => rfl
  | 9, _ => rfl
  | 10, _ => rfl
  | 11, _ => rfl
  | 12, _ => rfl
  | 13, _ => rfl
  | 14, _ => rfl
  | 15, _ => rfl
  | 16, _ => rfl
  | 17, _ => rfl
  | 18, _ => rfl
  | 19, _ => rfl
  | 20, _ => rfl
  | 21, _ => rfl
  | 22, _ => rfl
  | 23, _ => rfl
  | 24, _ => rfl
  | 25, _ => rfl
  | 26, _ => rfl
  | 27, _ => rfl
  | 28, _ => rfl
  | n + 29, h => absurd h (by omega)
def Tx (d : Ho.InD) : Prop := ∃ p1 p2 p3 q1 q2 q3 q4 q5 r1 r2 r3 r4, defArgs d.st = iA p1 p2 p3 ∧ defBody d.st = iB q1 q2 q3 q4 q5 r1 r2 r3 r4 ∧ defScope d.st = iS ∧ (q3.endLine == q4.line) = true
theorem tx_at : ∀ (i : Nat) (d : Ho.InD), ins[i]? = some d → d.cls = nm i ∧ Tx d
  | 0, _, e => by cases e; exact ⟨rfl, _, _, _, _, _, _, _, _, _, _, _, _, rfl, rfl, rfl, rfl⟩
  | 1, _, e => by cases e; exact ⟨rfl, _, _, _, _, _, _, _, _, _, _, _, _, rfl, rfl, rfl, rfl⟩
  | 2, _, e => by cases e; exact ⟨rfl, _, _, _, _, _, _, _, _, _, _, _, _, rfl, rfl, rfl, rfl⟩
  | 3, _, e => by cases e; exact ⟨rfl, _, _, _, _, _, _, _, _, _, _, _, _, rfl, rfl, rfl, rfl⟩
  | 4, _, e => by cases e; exact ⟨rfl, _, _, _, _, _, _, _, _, _, _, _, _, rfl, rfl, rfl, rfl⟩
  | 5, _, e => by cases e; exact ⟨rfl, _, _, _, _, _, _, _, _, _, _, _, _, rfl, rfl, rfl, rfl⟩
  | 6, _, e => by cases e; exact ⟨rfl, _, _, _, _, _, _, _, _, _, _, _, _, rfl, rfl, rfl, rfl⟩
  | 7, _, e => by cases e; exact ⟨rfl, _, _, _, _, _, _, _, _, _, _, _, _, rfl, rfl, rfl, rfl⟩
  | 8, _, e => by cases e; exact ⟨rfl, _, _, _, _, _, _, _, _, _, _, _, _, rfl, rfl, rfl, rfl⟩
  | 9, _, e => by cases e; exact ⟨rfl, _, _, _, _, _, _, _, _, _, _, _, _, rfl, rfl, rfl, rfl⟩
  | 10, _, e => by cases e; exact ⟨rfl, _, _, _, _, _, _, _, _, _, _, _, _, rfl, rfl, rfl, rfl⟩
  | 11, _, e => by cases e; exact ⟨rfl, _, _, _, _, _, _, _, _, _, _, _, _, rfl, rfl, rfl, rfl⟩
  | 12, _, e => by cases e; exact ⟨rfl, _, _, _, _, _, _, _, _, _, _, _, _, rfl, rfl, rfl, rfl⟩
  | 13, _, e => by cases e; exact ⟨rfl, _, _, _, _, _, _, _, _, _, _, _, _, rfl, rfl, rfl, rfl⟩
  | 14, _, e => by cases e; exact ⟨rfl, _, _, _, _, _, _, _, _, _, _, _, _, rfl, rfl, rfl, rfl⟩
  | 15, _, e => by cases e; exact ⟨rfl, _, _, _, _, _, _, _, _, _, _, _, _, rfl, rfl, rfl, rfl⟩
  | 16, _, e => by cases e; exact ⟨rfl, _, _, _, _, _, _, _, _, _, _, _, _, rfl, rfl, rfl, rfl⟩
  | 17, _, e => by cases e; exact ⟨rfl, _, _, _, _, _, _, _, _, _, _, _, _, rfl, rfl, rfl, rfl⟩
  | 18, _, e => by cases e; exact ⟨rfl, _, _, _, _, _, _, _, _, _, _, _, _, rfl, rfl, rfl, rfl⟩
  | 19, _, e => by cases e; exact ⟨rfl, _, _, _, _, _, _, _, _, _, _, _, _, rfl, rfl, rfl, rfl⟩
  | 20, _, e => by cases e; exact ⟨rfl, _, _, _, _, _, _, _, _, _, _, _, _, rfl, rfl, rfl, rfl⟩
  | 21, _, e => by cases e; exact ⟨rfl, _, _, _, _, _, _, _, _, _, _, _, _, rfl, rfl, rfl, rfl⟩
  | 22, _, e => by cases e; exact ⟨rfl, _, _, _, _, _, _, _, _, _, _, _, _, rfl, rfl, rfl, rfl⟩
  | 23, _, e => by cases e; exact ⟨rfl, _, _, _, _, _, _, _, _, _, _, _, _, rfl, rfl, rfl, rfl⟩
  | 24, _, e => by cases e; exact ⟨rfl, _, _, _, _, _, _, _, _, _, _, _, _, rfl, rfl, rfl, rfl⟩
  | 25, _, e => by cases e; exact ⟨rfl, _, _, _, _, _, _, _, _, _, _, _, _, rfl, rfl, rfl, rfl⟩
  | 26, _, e => by cases e; exact ⟨rfl, _, _, _, _, _, _, _, _, _, _, _, _, rfl, rfl, rfl, rfl⟩
  | n + 27, _, e => by cases e
theorem dis_at : ∀ {l : List Addr}, dis l = true → ∀ {i j : Nat} {a b : Addr}, l[i]? = some a → l[j]? = some b → i ≠ j → a ≠ b
  | [], _, i, j, a, b, e, _, _ => by simp at e
  | x :: r, h, i, j, a, b, e1, e2, n => by
    obtain ⟨h1, h2⟩ := He.ba (show (r.all (fun b => !(x == b)) && dis r) = true from h)
    have key : ∀ {k : Nat} {y : Addr}, r[k]? = some y → x ≠ y := fun e => by
      have z := List.all_eq_true.mp h1 _ (List.mem_of_getElem? e)
      intro q
      rw [q] at z
      simp at z
    cases i with
    | zero =>
      cases e1
      cases j with
      | zero => exact absurd rfl n
      | succ j => exact key e2
    | succ i =>
      cases j with
      | zero =>
        cases e2
        exact (key e1).symm
      | succ j => exact dis_at h2 e1 e2 (fun q => n (by rw [q]))
abbrev P1 : Program := (PySem.Challenge.rw_oddlamps_k01_errors_made).prog
/-- the parts of ex -/
structure Ex (K : PySem.W.Frag) : Prop where
  x : Ho.clX K = true
  lam : Ho.ClT K (He.ga K "LampError") PySem.HandSPX.veTail
  sub : ∀ i, i < 29 → Ho.ClT K (He.ga K (nm i)) (.ref (He.ga K "LampError") :: PySem.HandSPX.veTail)
  dis : HeadK.dis (namesA.map (He.ga K)) = true
  ini : ∀ d ∈ ins, Ho.inB K (He.ga K d.cls) (He.fAd K (d.cls, some "__init__")) d.qual file = true
  bare : ∀ x ∈ (["LampError", "NothingToUndo", "NothingToRedo"] : List PySem.Str), PySem.W.findIn K (.ref (He.ga K x)) "__init__" = some (some (.builtin "ValueError.__init__"))
theorem ex_of {K : PySem.W.Frag} (h : ex K = true) : Ex K := by
  obtain ⟨h1, h⟩ := He.ba h
  obtain ⟨h2, h⟩ := He.ba h
  obtain ⟨h2, h2'⟩ := He.ba h2
  obtain ⟨h3, h⟩ := He.ba h
  obtain ⟨h4, h⟩ := He.ba h
  obtain ⟨h5, h6⟩ := He.ba h
  refine ⟨h1, Ho.clT_of h2 h2', fun i hi => ?_, h4, fun d hd => List.all_eq_true.mp h5 d hd, fun x hx => He.eqO_ok (List.all_eq_true.mp h6 x hx)⟩
  rw [sub_nm] at h3
  obtain ⟨a, b⟩ := He.ba (List.all_eq_true.mp h3 (nm i) (List.mem_of_getElem? (nm_at hi)))
  exact Ho.clT_of a b
section
variable {K : PySem.W.Frag}
theorem ga_at (i : Nat) (h : i < 29) : (namesA.map (He.ga K))[i + 1]? = some (He.ga K (nm i)) := by
  rw [names_nm, List.map_cons, List.getElem?_cons_succ, List.getElem?_map, nm_at h]
  rfl
theorem Ex.ne (E : Ex K) {i j : Nat} (hi : i < 29) (hj : j < 29) (n : i ≠ j) : He.ga K (nm i) ≠ He.ga K (nm j) := dis_at E.dis (ga_at i hi) (ga_at j hj) (by omega)
theorem Ex.neL (E : Ex K) {i : Nat} (hi : i < 29) : He.ga K "LampError" ≠ He.ga K (nm i) := dis_at E.dis (i := 0) (j := i + 1) (by rw [names_nm]; rfl) (ga_at i hi) (by omega)
theorem not_ve (b : Addr) : PySem.HandSPX.veTail.contains (Value.ref b) = false := by
  simp [PySem.HandSPX.veTail]
theorem Ex.cls (E : Ex K) {i : Nat} (hi : i < 29) : Law.Cls K (fun i => He.ga K (nm i)) (He.ga K "LampError") i := by
  have T := E.sub i hi
  refine ⟨T.exc E.x rfl rfl, T.xf rfl, fun h27 => ?_, fun j hj => ?_, ?_, T.kitT (by decide +kernel) rfl⟩
  · have hd : ins[i]? = some (ins[i]'h27) := List.getElem?_eq_getElem h27
    have z := He.eqO_ok (He.ba (E.ini _ (List.mem_of_getElem? hd))).1
    rw [(tx_at i _ hd).1] at z
    exact z
  · rw [T.kit (E.sub j hj)]
    by_cases h : i = j
    · subst h
      simp
    · have n1 := E.ne hi hj h
      have n2 := E.neL hj
      have e1 : (Value.ref (He.ga K (nm j)) == Value.ref (He.ga K (nm i))) = false := beq_eq_false_iff_ne.mpr fun q => n1 (Value.ref.inj q).symm
      have e2 : (Value.ref (He.ga K (nm j)) == Value.ref (He.ga K "LampError")) = false := beq_eq_false_iff_ne.mpr fun q => n2 (Value.ref.inj q).symm
      rw [List.contains_cons, List.contains_cons, e1, e2, not_ve, decide_eq_false h]
      rfl
  · rw [T.kit E.lam, List.contains_cons, List.contains_cons, beq_self_eq_true]
    simp
end

theorem facts {w : World} {K : PySem.W.Frag} {h : Heap} {mg : Str → Option Value} {f : Addr} (X : K.In h) (G : h.Ns mainGlobals mg) (hfa : mg ("law" : Str) = some (.ref f)) (c : Ho.SaysO fa fn ins ex K) :
    ∃ fd : FuncData, (∀ (s : Shared) (v : Value), BindsTo s fd ⟨[v], []⟩ [("_law_script", v)]) ∧ ∀ base : Heap, FnOkG P1 w K mg base 4 f fd ["_law_script"] (spLaw K) := by
  obtain ⟨dPurse, FPurse⟩ := c.d.def_ 0 (d := d32) rfl
  obtain ⟨dMixed, FMixed⟩ := c.d.def_ 1 (d := d33) rfl
  obtain ⟨dDraw, FDraw⟩ := c.d.def_ 2 (d := d34) rfl
  obtain ⟨dPurses, FPurses⟩ := c.d.def_ 3 (d := d35) rfl
  obtain ⟨dOne, FOne⟩ := c.d.def_ 4 (d := d36) rfl
  obtain ⟨dWord, FWord⟩ := c.d.def_ 5 (d := d37) rfl
  obtain ⟨dFirst, FFirst⟩ := c.d.def_ 6 (d := d38) rfl
  obtain ⟨dCalled, FCalled⟩ := c.d.def_ 7 (d := d39) rfl
  obtain ⟨dBare, FBare⟩ := c.d.def_ 8 (d := d40) rfl
  obtain ⟨dCode, FCode⟩ := c.d.def_ 9 (d := d41) rfl
  obtain ⟨dIs, FIs⟩ := c.d.def_ 10 (d := d42) rfl
  obtain ⟨dRight, FRight⟩ := c.d.def_ 11 (d := d43) rfl
  obtain ⟨dLaw, FLaw⟩ := c.d.def_ 12 (d := d44) rfl
  have e := hfa.symm.trans (He.glo_ok X G (c.d.fact 42 (f := .glo "law") rfl))
  cases e
  have E := ex_of c.more
  have bnd := FunD.bindsA (ps := ["_law_script"]) FLaw fun _ _ _ _ _ _ us hl => match us, hl with | [_], _ => rfl
  have hV : ∀ i, i < 27 → VCls P1 K mg (nm i) (He.ga K (nm i)) := fun i hi => by
    have hd : ins[i]? = some (ins[i]'hi) := List.getElem?_eq_getElem hi
    obtain ⟨hcl, tx⟩ := tx_at i _ hd
    have T := E.sub i (by omega)
    rw [← hcl] at T
    have z := Ho.init_of (P := P1) (mg := mg) (d := ins[i]'hi) (file := file) T E.x (c.ini i hd) (E.ini _ (List.mem_of_getElem? hd)) rfl (He.free_ok X G (c.d.fact 51 (f := .free "super") rfl)) (by rfl) tx
    rw [hcl] at z
    exact ⟨He.glo_ok X G (c.d.fact (1 + i) (fa_at i (by omega))), z⟩
  exact ⟨dLaw, fun s v => bnd s [v] rfl, fun base => ok_law FLaw {
    fPurse := _
    dPurse := _
    Purse := FPurse
    gPurse := He.glo_ok X G (c.d.fact 30 (f := .glo "_law_purse") rfl)
    fMixed := _
    dMixed := _
    Mixed := FMixed
    gMixed := He.glo_ok X G (c.d.fact 31 (f := .glo "_law_mixed") rfl)
    fDraw := _
    dDraw := _
    Draw := FDraw
    gDraw := He.glo_ok X G (c.d.fact 32 (f := .glo "_law_draw") rfl)
    fPurses := _
    dPurses := _
    Purses := FPurses
    gPurses := He.glo_ok X G (c.d.fact 33 (f := .glo "_law_purses") rfl)
    fOne := _
    dOne := _
    One := FOne
    gOne := He.glo_ok X G (c.d.fact 34 (f := .glo "_law_one_of") rfl)
    fWord := _
    dWord := _
    Word := FWord
    gWord := He.glo_ok X G (c.d.fact 35 (f := .glo "_law_word") rfl)
    fFirst := _
    dFirst := _
    First := FFirst
    gFirst := He.glo_ok X G (c.d.fact 36 (f := .glo "_law_first") rfl)
    fCalled := _
    dCalled := _
    Called := FCalled
    gCalled := He.glo_ok X G (c.d.fact 37 (f := .glo "_law_called") rfl)
    fBare := _
    dBare := _
    Bare := FBare
    gBare := He.glo_ok X G (c.d.fact 38 (f := .glo "_law_bare") rfl)
    fCode := _
    dCode := _
    Code := FCode
    gCode := He.glo_ok X G (c.d.fact 39 (f := .glo "_law_code") rfl)
    fIs := _
    dIs := _
    Is := FIs
    gIs := He.glo_ok X G (c.d.fact 40 (f := .glo "_law_is_error") rfl)
    fRight := _
    dRight := _
    Right := FRight
    gRight := He.glo_ok X G (c.d.fact 41 (f := .glo "_law_right") rfl)
    len := He.free_ok X G (c.d.fact 43 (f := .free "len") rfl)
    int := He.free_ok X G (c.d.fact 44 (f := .free "int") rfl)
    range := He.free_ok X G (c.d.fact 45 (f := .free "range") rfl)
    max := He.free_ok X G (c.d.fact 46 (f := .free "max") rfl)
    min := He.free_ok X G (c.d.fact 47 (f := .free "min") rfl)
    sum := He.free_ok X G (c.d.fact 48 (f := .free "sum") rfl)
    isin := He.free_ok X G (c.d.fact 49 (f := .free "isinstance") rfl)
    repr := He.free_ok X G (c.d.fact 50 (f := .free "repr") rfl)
    val := He.free_ok X G (c.d.fact 52 (f := .free "ValueError") rfl)
    all := He.free_ok X G (c.d.fact 53 (f := .free "all") rfl)
    list := He.free_ok X G (c.d.fact 54 (f := .free "list") rfl)
    dict := He.free_ok X G (c.d.fact 55 (f := .free "dict") rfl)
    tuple := He.free_ok X G (c.d.fact 56 (f := .free "tuple") rfl)
    V := hV
    M := fun i hi => He.glo_ok X G (c.d.fact (1 + i) (fa_at i hi))
    cl := fun i hi => E.cls hi
    B27 := ⟨(E.sub 27 (by decide)).oex rfl rfl, E.bare "NothingToUndo" (by simp)⟩
    B28 := ⟨(E.sub 28 (by decide)).oex rfl rfl, E.bare "NothingToRedo" (by simp)⟩
    BL := ⟨E.lam.oex rfl rfl, E.bare "LampError" (by simp)⟩
    mL := He.glo_ok X G (c.d.fact 0 (f := .glo "LampError") rfl)
    eL := E.lam.exc E.x rfl rfl
    kL := fun j hj => by
      rw [E.lam.kit (E.sub j hj)]
      have n2 := E.neL hj
      have e2 : (Value.ref (He.ga K (nm j)) == Value.ref (He.ga K "LampError")) = false := beq_eq_false_iff_ne.mpr fun q => n2 (Value.ref.inj q).symm
      rw [List.contains_cons, e2, not_ve]
      rfl
    kLL := by
      rw [E.lam.kit E.lam, List.contains_cons, beq_self_eq_true]
      rfl
    kLV := E.lam.kitT (by decide +kernel) rfl
    sys := Option.isSome_iff_exists.mp (He.ba (He.ba (He.ba E.x).2).2).2 }⟩
end HeadK

open PySem PySem.W PySem.Calls PyProof.Rows
theorem PySem.Challenge.cw_oddlamps_k01_errors_made_holds : PySem.Challenge.rw_oddlamps_k01_errors_made.Holds := by
  w_on; o_law
  refine HandSHeadRun.head_any (r := OpenLaw.row PySem.Challenge.rw_oddlamps_k01_errors_made) (q := HeadK.qv) (H := HeadK.hk) (ob := HeadK.ob) (M := 9000) (loose := HeadK.names) (d := HandSHeadRun.topDef (OpenLaw.row PySem.Challenge.rw_oddlamps_k01_errors_made).prog 44) (kwd := []) HeadK.ob_eq
    (by kernel_rfl) (fun s => by kernel_rfl) HeadK.run (by kernel_rfl) (by kernel_rfl) (by kernel_rfl) (by rfl) (by first | assumption | decide +kernel) (by decide +kernel) ⟨rfl, rfl, rfl, rfl, rfl, by decide +kernel⟩ ?hw ?hc
  case hw => w_witness2
  case hc =>
    refine L2.walk_ofEG (l := PySem.Challenge.rw_oddlamps_k01_errors_made) (n := 63) (k := 4) (x := "_law_script") rfl (by decide) (by kernel_rfl) ⟨rfl, by decide, by decide⟩ ?F
    intro w mg fa h Y G hmg0
    obtain ⟨K, KX, c⟩ := Y
    have hmg : mg ("law" : PySem.Str) = some (.ref fa) := by
      have e : (HandSHeadRun.topDef (OpenLaw.row PySem.Challenge.rw_oddlamps_k01_errors_made).prog 44).name = ("law" : PySem.Str) := by kernel_rfl
      rw [← e]
      exact hmg0
    obtain ⟨fd, hb, hF⟩ := HeadK.facts (w := w) KX G hmg c
    exact ⟨K, fd, Law.spLaw K, KX, hb, fun H a ns hl _ hS => ⟨a, ns, rfl, hS, fun _ => rfl⟩, fun base _ _ => hF base⟩
