import PyProof.Rows.All
import Wide.All
import OpenK.AllK
import Wide.FinOn
import HandS.ForMost
import HandS.ForExc
import HandS.ExcInit
import KE.KExcSuper
import HandS.ExcValue
import HandS.IsInst
import HandS.ExcField
import HandS.ExcIs
import KE.KExcIs
import HandS.EndBits
import HandS.CallSlots
import HandS.ClsMeth
import HandS.Property
import HandS.MakeKw
import HandS.SlotsOwn
import KE.KCallOwn
import HandS.Codes
import HandS.Gcd
import HandS.FStr
import HandS.Walk
import HandS.Evl
import HandS.Wide
import HandS.Text
import HandS.Conv
import HandS.Replace
import HandS.Dict
import PyProof.InstEq
import PyProof.Conv_bool
import KE.KOpsOwn
import HandS.Defaults
import PySem.Challenge.RW_peekproof_k01_ratios_by_an_own_walk
import PyProof.EqAt
import HandS.Style
import HandS.TupMul
/-! # PkExc1 -/
set_option Elab.async false
set_option linter.all false
set_option maxRecDepth 100000
set_option maxHeartbeats 4000000
namespace Pk
open PySem PySem.W PySem.Calls PyProof.Rows PySem.HandSPX

/-! ## An own exception class over ValueError whose __init__ says super().__init__('..') and stores its arguments -/
/-- what the written part says of such a class C, whose __init__ stands in D -/
structure ExI (K : Frag) (C D : Addr) : Prop where
  oex : L2.OexC K C
  sub : mroIn K C (.ref D) = some true
  sup : ks_superIn K C D "__init__" = some (some (.builtin "ValueError.__init__"))
  ve : subIn K (.ref C) (.type "ValueError") = some true
/-- what the written part says of the __init__ at f: its class cell, its code -/
structure ExF (prog : Program) (K : Frag) (qual : Str) (st : Stmt) (f D : Addr) (fd : FuncData) : Prop where
  ex : ∃ (oc : Value) (od : Option Addr) (kV doc pm : Value) (an : Option Addr) (ct : Value) (osl : Array (Option Value)) (cc cda : Addr) (ccl : Value) (cdd : Option Addr) (vs : Array Value) (ccs : Array (Option Value)) (tf : Tok) (cl : Value) (cld : Option Addr) (csl : Array (Option Value)) (cdD : ClassData),
    fd = ksFn "__init__" qual (L2.defArgs st) (L2.defBody st) (L2.defScope st) .none kV doc pm an (.ref cda) ct cc ∧ K.lookup f = some ⟨oc, od, .func fd, osl⟩ ∧ codeIn K (.ref cda) qual = true ∧
    K.lookup cda = some ⟨ccl, cdd, .fields vs, ccs⟩ ∧ vs[2]? = some (.str prog.main.file tf) ∧ K.lookup cc = some ⟨cl, cld, .cell (some (.ref D)), csl⟩ ∧ clsIn K D = some cdD
  noSuper : (prog.main.scope.names.lookup ("super" : Str)).isSome = false
  third : nsIn K cStatics "thirdparty.any" = some none
section
variable {prog : Program} {w : World} {A : Around} {E : Value → Shared → Prop} {s : Shared} {K : Frag} {mg : Str → Option Value}

/-- the method-wrapper of ValueError.__init__ is called -/
theorem mw_call {u x C t0 : Addr} {rest : List Value} {Q : Value → Shared → Prop} {nm q : Str} {N : Addr} {bs bm : List Value} {sn : List Str} {sub : List Value} {ab : Bool} {col : Option Bool} {dd : Option Addr} {k0 k1 k2 k3 k5 : Option Value}
    (hC : s.heap.get? C = some (excClassObj nm q C N bs bm true sn sub ab col dd k0 k1 k2 k3 k5 "ValueError.__new__"))
    (hu : s.heap.get? u = some (kxs_mw "ValueError.__init__" x)) (hx : s.heap.get? x = some (excO C t0)) (hz : rest.length ≤ sizeLine)
    (hq : ∀ h' t1, (∀ b o, b ≠ x → s.heap.get? b = some o → h'.get? b = some o) → h'.get? x = some (excO C t1) → Q .none { s with heap := h' }) :
    wpAny (model prog w) A (call (.ref u) rest) Q E s := by
  obtain ⟨hh, g, d, tk, os⟩ := s
  have FB := F.excBase_ValueError
  refine wpAny_call (codeAny_of_tree ?_)
  show wpAny _ A.in1 (callAny (.ref u) ⟨rest, []⟩) _ _ _
  simp only [callAny]
  refine wpAny_bind (wpAny_load hu ?_)
  simp only [kxs_mw, show (Value.type "method-wrapper" == Value.type "method" || Value.type "method-wrapper" == Value.type "builtin_function_or_method" || Value.type "method-wrapper" == Value.type "method-wrapper") = true by decide, if_true]
  refine KFB.if_so (by decide) ?_
  refine wpAny_bind (check_bound_init FB.toExcCallFacts hC hx rfl ?_)
  refine wpAny_bind (wpAny_pure (wpAny_pure ?_))
  refine ⟨plainId_quiet FB.init.plain _, codeAny_builtin FB.initEntry ?_⟩
  exact exc_init_tree (cls := .ref C) (t0 := t0) (dv := none) (c2 := .none) (c3 := .none) (b4 := .bool false) hx hz fun h' k e _ => hq h' hh.objs.size k e

/-- super().__init__('..') as a statement -/
theorem super_stmt {body : List Stmt} {qual : Str} {scope : Scope} {L f cc cda C D x t0 : Addr} {p0 p1 p2 p3 p4 p5 : Pos} {z : Str} {kz : Nat} {m mb : Str → Option Value} {fd : FuncData} {ar : Arg} {vs : Array Value} {tf : Tok} {oc ccl cl : Value} {od cdd cld : Option Addr} {osl ccs csl : Array (Option Value)} {cdD : ClassData} {Q : Flow → Shared → Prop} {pl : Sem Bool}
    (T : ExI K C D) (X : K.In s.heap) (hg : s.heap.Ns mainGlobals mg) (hb : s.heap.Ns builtinsNs mb) (hmb : mb "super" = some (.type "super")) (hmg : mg "super" = none) (hn : s.heap.Ns L m) (hself : m ar.arg = some (.ref x)) (hx : s.heap.get? x = some (excO C t0))
    (hf : K.lookup f = some ⟨oc, od, .func fd, osl⟩) (hp : (fd.params.posonlyargs ++ fd.params.args).head? = some ar)
    (hcode : K.lookup cda = some ⟨ccl, cdd, .fields vs, ccs⟩) (hvs : vs[2]? = some (.str prog.main.file tf)) (hcell : K.lookup cc = some ⟨cl, cld, .cell (some (.ref D)), csl⟩) (hD : clsIn K D = some cdD)
    (hks : scope.names.lookup ("super" : Str) = some .globalImplicit) (hkc : scope.names.lookup ("__class__" : Str) = some .free) (hka : scope.names.lookup ar.arg = some .local) (hk : scope.kind = .function)
    (htop : (prog.main.scope.names.lookup ("super" : Str)).isSome = false) (ho : nsIn K cStatics "thirdparty.any" = some none)
    (he : eval (.Call (.Attribute (.Call (.Name "super" p0) [] [] p1) "__init__" p2) [.Constant (.str z) kz p3] [] p4) (ksEnv qual scope L f (.ref cda) cc) = (do
      let ov ← attributeBase (.Call (.Name "super" p0) [] [] p1) "__init__" (ksEnv qual scope L f (.ref cda) cc) (eval (.Call (.Name "super" p0) [] [] p1) (ksEnv qual scope L f (.ref cda) cc))
      standAt p2.atName
      let (fu, first) ← holding [ov] (getMethod ov "__init__" pl)
      callWith p4 fu first (backTo p4 (starEach [.Constant (.str z) kz p3] (ksEnv qual scope L f (.ref cda) cc))) []))
    (hq : ∀ h' tk t1, (∀ b o, b ≠ x → s.heap.get? b = some o → h'.get? b = some o) → h'.get? x = some (excO C t1) → Q .next { s with heap := h', toks := tk }) :
    _root_.PySem.wpAt (model prog w) A (.func body (ksEnv qual scope L f (.ref cda) cc)) (exec (.Expr (.Call (.Attribute (.Call (.Name "super" p0) [] [] p1) "__init__" p2) [.Constant (.str z) kz p3] [] p4) p5) (ksEnv qual scope L f (.ref cda) cc)) Q E s := by
  obtain ⟨nm, q, N, bs, bm, sn, sub, ab, col, dd, k0, k1, k2, k3, k5, hC, hbm⟩ := T.oex.cls
  obtain ⟨hh, g, d, t, os⟩ := s
  obtain ⟨oD, hD1, hD2⟩ : ∃ oD, hh.get? D = some oD ∧ oD.data = .cls cdD := by
    unfold clsIn at hD
    split at hD
    · rename_i c d cd' sl ho'
      cases hD
      exact ⟨_, X _ _ ho', rfl⟩
    · cases hD
  have hcl : clsIn K C = some { name := nm, bases := bs, mro := .ref C :: bm, ns := N, qualname := q, hasDict := true, slotNames := sn, subclasses := sub, abstract := ab, collection := col, hasDel := false } := by unfold clsIn; rw [hC] <;> rfl
  have hint : interactive (ksEnv qual scope L f (.ref cda) cc) = false := by
    show (scope.kind == .module && _) = false
    rw [hk]; rfl
  have I : InstAt hh x (excO C t0) C none := ⟨hx, rfl, rfl, trivial⟩
  have hxC : x ≠ C := ks_ne X I hcl
  refine ks_wpAt_Expr_any ?_ hint rfl
  refine ks_wpAt_MethodCall ?_ he
  refine ks_wpAt_super_base (env := ksEnv qual scope L f (.ref cda) cc) hks hkc (by decide) rfl (X _ _ hf) rfl hp rfl (X _ _ hcode) rfl hvs (by simp) htop ?_
  refine ks_loadName_global hk hks (loadGlobal_builtin (env := ksEnv qual scope L f (.ref cda) cc) hg hmg hb hmb ⟨rfl, ?_⟩)
  refine wpAny_loadName_free hk hkc rfl ⟨_, X _ _ hcell, rfl⟩ ?_
  refine wpAny_loadName_local hk hka hn hself ?_
  refine ks_wpAny_isType_cls hD1 hD2 ⟨rfl, ?_⟩
  refine ks_wpAny_call_super hD1 hD2 hx rfl (fun c e => nomatch e) (looks_mroIn X T.sub) (fun h1 e1 kk1 => ?_)
  have X1 : K.In h1 := X.keeps kk1
  have hI : Looks (model prog w) h1 (isInstance (.ref x) (.type "ValueError")) true := (show InstAt h1 x (excO C t0) C none from ⟨kk1 _ _ hx, rfl, rfl, trivial⟩).type.andThen (looks_subIn X1 T.ve)
  have hsup := T.sup
  unfold ks_superIn at hsup
  rw [hcl] at hsup
  refine kxs_getMethod kxs_ValueError e1 (looks_opaque X1 ho) (l₀ := .ref C :: bm) ?_ rfl X1 hsup hI hxC (by decide) ?_
  · exact fun A Q E s k q => wpAny_bind ((looks_clsIn X1 hcl) A _ E s k (wpAny_pure q))
  have k2 : ∀ b o, hh.get? b = some o → (h1.push (kxs_mw "ValueError.__init__" x)).get? b = some o := fun b o e => Heap.get?_push_of_some _ (kk1 b o e)
  have hu : (h1.push (kxs_mw "ValueError.__init__" x)).get? h1.objs.size = some (kxs_mw "ValueError.__init__" x) := Heap.get?_push_at rfl rfl
  refine kxs_callWith (i := "ValueError.__init__") (x := x) rfl (evalArgs_plain ?_)
  show wpAny _ _ (spliced ((false, eval (.Constant (.str z) kz p3) (ksEnv qual scope L f (.ref cda) cc)) :: backTo p4 (starEach [] (ksEnv qual scope L f (.ref cda) cc)))) _ _ _
  refine Calls.spliced_cons (Calls.Constant_str ?_)
  refine Calls.spliced_nil ⟨hu, ?_⟩
  refine mw_call (s := ⟨h1.push (kxs_mw "ValueError.__init__" x), g, d, _, os⟩) (k2 _ _ (X _ _ hC)) hu (k2 _ _ hx) (by rw [sizeLine_eq]; exact (by decide : 1 ≤ 16777216)) fun h' t1 k e => ?_
  exact hq h' _ t1 (fun b o hb e => k b o hb (k2 b o e)) e

theorem ldX {M : Model} {qual : Str} {scope : Scope} {L f cc : Addr} {cd : Value} {m : Str → Option Value} {x : Str} {pos : Pos} {v : Value} {Q : Value → Shared → Prop} (hn : s.heap.Ns L m) (hv : m x = some v) (h : Q v s)
    (hk : scope.kind = .function) (hl : scope.names.lookup x = some .local) (hd : (x == ("__debug__" : Str)) = false) :
    wpAny M A (eval (.Name x pos) (ksEnv qual scope L f cd cc)) Q E s := wpAny_Name (wpAny_loadName_local hk hl hn hv h) hd
/-- self.f = f, the first field -/
theorem asg_new {qual : Str} {scope : Scope} {L fu cc C x t0 : Addr} {cd v : Value} {m : Str → Option Value} {f : Str} {q1 q2 q3 q4 : Pos} {Q : Flow → Shared → Prop} (T : L2.OexC K C) (X : K.In s.heap) (hno : findIn K (.ref C) f = some none)
    (hn : s.heap.Ns L m) (hself : m "self" = some (.ref x)) (hv : m f = some v) (hk : scope.kind = .function) (hls : scope.names.lookup ("self" : Str) = some .local) (hlf : scope.names.lookup f = some .local) (hd : (f == ("__debug__" : Str)) = false)
    (hx : s.heap.get? x = some (excO C t0))
    (hq : ∀ h' tk dx, (∀ b o, b ≠ x → s.heap.get? b = some o → h'.get? b = some o) → s.heap.objs.size ≤ dx → dx ≠ x → h'.get? x = some ({ cls := .ref C, dict := some dx, data := .fields #[.ref t0, .none, .none, .none, .bool false, .none] } : Obj) →
      h'.Ns1 dx (fun y => if y = f then some v else none) → Q .next { s with heap := h', toks := tk }) :
    wpAny (model prog w) A (exec (.Assign [.Attribute (.Name "self" q1) f q2] (.Name f q3) q4) (ksEnv qual scope L fu cd cc)) Q E s := by
  obtain ⟨nm, q, N, bs, bm, sn, sub, ab, col, dd, k0, k1, k2, k3, k5, hC, hbm⟩ := T.cls
  have hcl : clsIn K C = some { name := nm, bases := bs, mro := .ref C :: bm, ns := N, qualname := q, hasDict := true, slotNames := sn, subclasses := sub, abstract := ab, collection := col, hasDel := false } := by unfold clsIn; rw [hC] <;> rfl
  obtain ⟨hh, g, d, t, os⟩ := s
  refine plainObj_wpAny_Assign_Attribute ?_ rfl
  refine ldX hn hv (ldX hn hself ?_ hk hls (by decide)) hk hlf hd
  refine set_plain X (ox := excO C t0) (od := none) ⟨hx, rfl, rfl, trivial⟩ T.sa ?_
  exact exc_osa X hx hcl (show refsVE (.ref C :: bm) = true from hbm) rfl hno (fun h' tk' dx k dn dne hx' hn' => hq h' tk' dx k dn dne hx' hn')
/-- self.f = f, a further field -/
theorem asg_old {qual : Str} {scope : Scope} {L fu cc C x t0 dx : Addr} {cd v : Value} {m m0 : Str → Option Value} {f : Str} {nl : List Str} {q1 q2 q3 q4 : Pos} {Q : Flow → Shared → Prop} (T : L2.OexC K C) (X : K.In s.heap) (hno : findIn K (.ref C) f = some none)
    (hn : s.heap.Ns L m) (hself : m "self" = some (.ref x)) (hv : m f = some v) (hk : scope.kind = .function) (hls : scope.names.lookup ("self" : Str) = some .local) (hlf : scope.names.lookup f = some .local) (hd : (f == ("__debug__" : Str)) = false)
    (hx : s.heap.get? x = some ({ cls := .ref C, dict := some dx, data := .fields #[.ref t0, .none, .none, .none, .bool false, .none] } : Obj)) (hns : s.heap.Ns1 dx m0) (hw : Within m0 nl) (hz : nl.length ≤ 1000)
    (hq : ∀ h' tk, (∀ b o, b ≠ dx → s.heap.get? b = some o → h'.get? b = some o) → h'.Ns1 dx (fun y => if y = f then some v else m0 y) → Q .next { s with heap := h', toks := tk }) :
    wpAny (model prog w) A (exec (.Assign [.Attribute (.Name "self" q1) f q2] (.Name f q3) q4) (ksEnv qual scope L fu cd cc)) Q E s := by
  obtain ⟨nm, q, N, bs, bm, sn, sub, ab, col, dd, k0, k1, k2, k3, k5, hC, hbm⟩ := T.cls
  have hcl : clsIn K C = some { name := nm, bases := bs, mro := .ref C :: bm, ns := N, qualname := q, hasDict := true, slotNames := sn, subclasses := sub, abstract := ab, collection := col, hasDel := false } := by unfold clsIn; rw [hC] <;> rfl
  obtain ⟨oD, _, _, hoD, _, _⟩ := hns.count hw
  obtain ⟨hh, g, d, t, os⟩ := s
  refine plainObj_wpAny_Assign_Attribute ?_ rfl
  refine ldX hn hv (ldX hn hself ?_ hk hls (by decide)) hk hlf hd
  refine set_plain X (ox := { cls := .ref C, dict := some dx, data := .fields #[.ref t0, .none, .none, .none, .bool false, .none] }) (od := some oD) ⟨hx, rfl, rfl, hoD⟩ T.sa ?_
  exact OEX.osa_old X hx hns hw hz hcl (show refsVE (.ref C :: bm) = true from hbm) rfl hno (fun h' tk' k hn' => hq h' tk' k hn')
end
end Pk

/-! # PkExc2 -/
set_option Elab.async false
set_option linter.all false
set_option maxRecDepth 100000
set_option maxHeartbeats 4000000
namespace Pk
open PySem PySem.W PySem.Calls PyProof.Rows PySem.HandSPX L2

section
variable {P : Program} {w : World} {H : Hp} {h h' : Heap} {a C dx : Addr} {F : List (Str × V)}
theorem un_exc {fs ex : List Addr} (ea : H a = some (exo a C none)) (hnd : H dx = none) (hs : h.objs.size ≤ dx) (k : ∀ b o, b ≠ a → h.get? b = some o → h'.get? b = some o) (hx : ∃ o, h'.get? a = some o) :
    Un fs ex H (upd (upd H dx (exd dx F)) a (exo a C (some dx))) h h' := by
  have nd : ∀ {b : Addr} {o : Obj}, h.get? b = some o → b ≠ dx := fun {b o} q => Nat.ne_of_lt (Nat.lt_of_lt_of_le (Heap.lt_size q) hs)
  have na : ∀ {b : Addr}, H b = none → b ≠ a := fun {b} n z => by rw [z, ea] at n; cases n
  exact {
    keep := fun b o q n _ _ => k b o (na n) q
    slot := fun b o q n _ _ => ⟨o.slots, k b o (na n) q⟩
    free := fun b o q n _ => by rw [upd_ne (na n), upd_ne (nd q)]; exact n
    there := fun b o q _ => by
      by_cases hb : b = a
      · rw [hb]; exact hx
      · exact ⟨o, k b o hb q⟩
    tups := fun b xs q => by rw [upd_ne (at_ne ea q exo_tup), upd_ne (ne_of_none q hnd)]; exact q
    frzs := fun b o v q => by rw [upd_ne (at_ne ea q exo_frz), upd_ne (ne_of_none q hnd)]; exact q
    tbls := fun b ps q => ⟨#[], by rw [upd_ne (at_ne ea q exo_tbl), upd_ne (ne_of_none q hnd), q]; simp⟩ }
theorem hok_exc {t1 : Addr} {mA : Str → Option Value} (hok : HOk P w H h) (ea : H a = some (exo a C none)) (hnd : H dx = none) (k : ∀ b o, b ≠ a → h.get? b = some o → h'.get? b = some o)
    (hx : h'.get? a = some ({ cls := .ref C, dict := some dx, data := .fields #[.ref t1, .none, .none, .none, .bool false, .none] } : Obj)) (hn : h'.Ns1 dx mA) (rel : ∀ f, RelO (F.lookup f) (mA f)) :
    HOk P w (upd (upd H dx (exd dx F)) a (exo a C (some dx))) h' := fun b o q => by
  by_cases hb : b = a
  · subst hb
    rw [upd_same] at q
    cases q
    exact exo_ok hx
  · rw [upd_ne hb] at q
    by_cases hd : b = dx
    · subst hd
      rw [upd_same] at q
      cases q
      exact exd_ok hn rel
    · rw [upd_ne hd] at q
      refine (hok b o q).stay (fun c v hc z => k c v ?_ z) (fun c hc => ?_) (fun c xs hc => ?_)
      · rcases hc with hc | hc
        · rw [hc]; exact hb
        · exact at_ne ea hc exo_own
      · rw [upd_ne (at_ne ea hc exo_own), upd_ne (ne_of_none hc hnd)]; exact hc
      · rw [upd_ne (at_ne ea hc exo_tup), upd_ne (ne_of_none hc hnd)]; exact hc
end

section
variable {P : Program} {w : World} {H : Hp} {h h' : Heap} {a C : Addr}
theorem un_exc0 {fs ex : List Addr} (ea : H a = some (exo a C none)) (k : ∀ b o, b ≠ a → h.get? b = some o → h'.get? b = some o) (hx : ∃ o, h'.get? a = some o) : Un fs ex H H h h' := by
  have na : ∀ {b : Addr}, H b = none → b ≠ a := fun {b} n z => by rw [z, ea] at n; cases n
  exact {
    keep := fun b o q n _ _ => k b o (na n) q
    slot := fun b o q n _ _ => ⟨o.slots, k b o (na n) q⟩
    free := fun b o q n _ => n
    there := fun b o q _ => by
      by_cases hb : b = a
      · rw [hb]; exact hx
      · exact ⟨o, k b o hb q⟩
    tups := fun b xs q => q
    frzs := fun b o v q => q
    tbls := fun b ps q => ⟨#[], by rw [q]; simp⟩ }
theorem hok_exc0 {t1 : Addr} (hok : HOk P w H h) (ea : H a = some (exo a C none)) (k : ∀ b o, b ≠ a → h.get? b = some o → h'.get? b = some o)
    (hx : h'.get? a = some ({ cls := .ref C, dict := none, data := .fields #[.ref t1, .none, .none, .none, .bool false, .none] } : Obj)) : HOk P w H h' := fun b o q => by
  by_cases hb : b = a
  · subst hb
    rw [ea] at q
    cases q
    exact exo_ok hx
  · refine (hok b o q).stay (fun c v hc z => k c v ?_ z) (fun c hc => hc) (fun c xs hc => hc)
    rcases hc with hc | hc
    · rw [hc]; exact hb
    · exact at_ne ea hc exo_own
end
/-- C(..): what __init__ promises of an object of a class C that has it from D; F: what it stores -/
def spXI (K : Frag) (D : Addr) (fs : List Str) : Sp := fun vs H Q _ => ∃ (a C : Addr) (ws : List V), vs = .ref a :: ws ∧ ws.length = fs.length ∧ ExI K C D ∧ (∀ f ∈ fs, findIn K (.ref C) f = some none) ∧ H a = some (exo a C none) ∧
  (fs = [] → Q .non H) ∧ (fs ≠ [] → ∀ dx, H dx = none → dx ≠ a → Q .non (upd (upd H dx (exd dx (fs.zip ws).reverse)) a (exo a C (some dx))))

abbrev eSup (z : Str) (kz : Nat) (p0 p1 p2 p3 p4 : Pos) : Expr := .Call (.Attribute (.Call (.Name "super" p0) [] [] p1) "__init__" p2) [.Constant (.str z) kz p3] [] p4
/-- self.f = f for each of these -/
inductive AsgB : List Stmt → List Str → Prop
  | nil : AsgB [] []
  | cons {st : List Stmt} {fs : List Str} {f : Str} {q1 q2 q3 q4 : Pos} : AsgB st fs → AsgB (.Assign [.Attribute (.Name "self" q1) f q2] (.Name f q3) q4 :: st) (f :: fs)
section
variable {P : Program} {w : World} {K : Frag} {A : Around} {E : Value → Shared → Prop} {qual : Str} {scope : Scope} {L fu cc C x dx t0 : Addr} {cd : Value} {m : Str → Option Value}
structure FldL (K : Frag) (C : Addr) (scope : Scope) (m : Str → Option Value) (f : Str) (y : V) : Prop where
  val : ∃ u, m f = some u ∧ RelV y u
  loc : scope.names.lookup f = some .local
  nd : (f == ("__debug__" : Str)) = false
  no : findIn K (.ref C) f = some none
theorem asgs_old (T : OexC K C) (hk : scope.kind = .function) (hls : scope.names.lookup ("self" : Str) = some .local) (hself : m "self" = some (.ref x)) (hL : L ≠ dx) (hxd : x ≠ dx) (hKd : K.lookup dx = none) {st : List Stmt} {fs : List Str} (b : AsgB st fs) :
    ∀ {ws : List V} {F : List (Str × V)} {mA : Str → Option Value} {s : Shared} {Q : Flow → Shared → Prop}, Paired (FldL K C scope m) fs ws → F.length + fs.length ≤ 900 → K.In s.heap → s.heap.Ns L m →
      s.heap.get? x = some ({ cls := .ref C, dict := some dx, data := .fields #[.ref t0, .none, .none, .none, .bool false, .none] } : Obj) → s.heap.Ns1 dx mA → (∀ f, RelO (F.lookup f) (mA f)) →
      (∀ h' tk mA', (∀ b o, b ≠ dx → s.heap.get? b = some o → h'.get? b = some o) → h'.Ns1 dx mA' → (∀ f, RelO (((fs.zip ws).reverse ++ F).lookup f) (mA' f)) → Q .next { s with heap := h', toks := tk }) →
      wpAny (model P w) A (execs st (ksEnv qual scope L fu cd cc)) Q E s := by
  induction b with
  | nil =>
    intro ws F mA s Q hp _ X hn hx hns rel hq
    cases hp
    exact wpAny_execs_nil (hq s.heap s.toks mA (fun _ _ _ e => e) hns rel)
  | @cons st fs f q1 q2 q3 q4 b ih =>
    intro ws F mA s Q hp hz X hn hx hns rel hq
    cases hp with
    | @cons _ y _ ws p ps =>
      obtain ⟨u, hu, ru⟩ := p.val
      refine wpAny_execs_cons (asg_old T X p.no hn hself hu hk hls p.loc p.nd hx hns (within_of rel) (by rw [List.length_map]; omega) fun h1 tk1 k1 n1 => ?_)
      obtain ⟨oL, es, ep, hoL, r⟩ := hn
      refine ih (s := { s with heap := h1, toks := tk1 }) (F := (f, y) :: F) ps (by simp only [List.length_cons] at hz ⊢; omega) (fun c o e => k1 c o (fun z => by rw [z, hKd] at e; cases e) (X c o e)) ⟨oL, es, ep, k1 _ _ hL hoL, r⟩ (k1 _ _ hxd hx) n1 (relO_put ru rel) fun h2 tk2 mA2 k2 n2 rel2 => ?_
      refine hq h2 tk2 mA2 (fun c o hc e => k2 c o hc (k1 c o hc e)) n2 fun g => ?_
      have e : ((f :: fs).zip (y :: ws)).reverse ++ F = (fs.zip ws).reverse ++ (f, y) :: F := by simp
      rw [e]
      exact rel2 g
/-- .. from the exception as it is made -/
theorem asgs_new (T : OexC K C) (hk : scope.kind = .function) (hls : scope.names.lookup ("self" : Str) = some .local) (hself : m "self" = some (.ref x)) {st : List Stmt} {fs : List Str} (b : AsgB st fs) {ws : List V} {s : Shared} {Q : Flow → Shared → Prop}
    (hp : Paired (FldL K C scope m) fs ws) (hz : fs.length ≤ 800) (X : K.In s.heap) (hKx : K.lookup x = none) (hn : s.heap.Ns L m) (hLx : L ≠ x) (hx : s.heap.get? x = some (excO C t0))
    (h0 : fs = [] → Q .next s)
    (hq : fs ≠ [] → ∀ h' tk dx mA', (∀ b o, b ≠ x → s.heap.get? b = some o → h'.get? b = some o) → s.heap.objs.size ≤ dx → dx ≠ x → h'.get? x = some ({ cls := .ref C, dict := some dx, data := .fields #[.ref t0, .none, .none, .none, .bool false, .none] } : Obj) → h'.Ns1 dx mA' →
      (∀ f, RelO ((fs.zip ws).reverse.lookup f) (mA' f)) → Q .next { s with heap := h', toks := tk }) :
    wpAny (model P w) A (execs st (ksEnv qual scope L fu cd cc)) Q E s := by
  cases b with
  | nil => exact wpAny_execs_nil (h0 rfl)
  | @cons st fs f q1 q2 q3 q4 b =>
    cases hp with
    | @cons _ y _ ws p ps =>
      obtain ⟨u, hu, ru⟩ := p.val
      refine wpAny_execs_cons (asg_new T X p.no hn hself hu hk hls p.loc p.nd hx fun h1 tk1 dx k1 dn dne hx1 n1 => ?_)
      have nd : ∀ {c : Addr} {o : Obj}, s.heap.get? c = some o → c ≠ dx := fun {c o} e => Nat.ne_of_lt (Nat.lt_of_lt_of_le (Heap.lt_size e) dn)
      obtain ⟨oL, es, ep, hoL, r⟩ := hn
      have hKd : K.lookup dx = none := by
        cases e : K.lookup dx with
        | none => rfl
        | some o => exact absurd rfl (nd (X _ _ e))
      refine asgs_old T hk hls hself (dx := dx) (nd hoL) dne.symm hKd b (s := { s with heap := h1, toks := tk1 }) (F := [(f, y)]) ps (by simp only [List.length_cons, List.length_nil] at hz ⊢; omega) (fun c o e => k1 c o (fun z => by rw [z, hKx] at e; cases e) (X c o e)) ⟨oL, es, ep, k1 _ _ hLx hoL, r⟩ hx1 n1 (relO_put (fs := []) ru fun g => True.intro) fun h2 tk2 mA2 k2 n2 rel2 => ?_
      refine hq (fun z => nomatch z) h2 tk2 dx mA2 (fun c o hc e => k2 c o (nd e) (k1 c o hc e)) dn dne (k2 _ _ dne.symm hx1) n2 fun g => ?_
      have e : ((f :: fs).zip (y :: ws)).reverse = (fs.zip ws).reverse ++ [(f, y)] := by simp
      rw [e]
      exact rel2 g
end

theorem paired_at {α β : Type} {Fq : α → β → Prop} : ∀ {fs : List α} {ws : List β}, fs.length = ws.length → (∀ (i : Nat) f y, fs[i]? = some f → ws[i]? = some y → Fq f y) → Paired Fq fs ws
  | [], [], _, _ => .nil
  | [], _ :: _, h, _ => by simp at h
  | _ :: _, [], h, _ => by simp at h
  | f :: fs, y :: ws, h, k => .cons (k 0 f y rfl rfl) (paired_at (by simpa using h) fun i f' y' e1 e2 => k (i + 1) f' y' (by simpa using e1) (by simpa using e2))
theorem look_none {ps : List Str} {x : Str} : ∀ {us : List Value}, x ∉ ps → (ps.zip us).reverse.lookup x = none := by
  induction ps with
  | nil => intro us _; rfl
  | cons p ps ih =>
    intro us h
    cases us with
    | nil => rfl
    | cons u us =>
      have h1 : x ≠ p := fun e => h (e ▸ List.mem_cons_self)
      have h2 : x ∉ ps := fun e => h (List.mem_cons_of_mem _ e)
      have e1 : (x == p) = false := by simpa using h1
      simp only [List.zip_cons_cons, List.reverse_cons, List.lookup_append, ih h2, Option.none_or]
      simp [List.lookup, e1]
theorem look_at {ps : List Str} {x : Str} {u : Value} : ∀ {us : List Value} {i : Nat}, ps.Nodup → ps[i]? = some x → us[i]? = some u → (ps.zip us).reverse.lookup x = some u := by
  induction ps with
  | nil => intro us i _ h; simp at h
  | cons p ps ih =>
    intro us i nd h1 h2
    cases us with
    | nil => simp at h2
    | cons v us =>
      have nd' := List.nodup_cons.mp nd
      cases i with
      | zero =>
        simp at h1 h2
        subst h1; subst h2
        simp only [List.zip_cons_cons, List.reverse_cons, List.lookup_append, look_none nd'.1, Option.none_or]
        simp [List.lookup]
      | succ i =>
        have := ih (us := us) (i := i) nd'.2 (by simpa using h1) (by simpa using h2)
        simp only [List.zip_cons_cons, List.reverse_cons, List.lookup_append, this, Option.some_or]

section
variable {P : Program} {w : World} {K : Frag} {mg : Str → Option Value} {base : Heap} {CX : CXT} {qual : Str} {st : Stmt} {f D : Addr} {fd : FuncData} {z : Str} {kz : Nat} {p0 p1 p2 p3 p4 p5 : Pos}
/-- how such a def's names stand -/
structure XScope (st : Stmt) (fs : List Str) : Prop where
  hp : ∃ ar, ((defArgs st).posonlyargs ++ (defArgs st).args).head? = some ar ∧ ar.arg = "self"
  hks : (defScope st).names.lookup ("super" : Str) = some .globalImplicit
  hkc : (defScope st).names.lookup ("__class__" : Str) = some .free
  nd : (("self" : Str) :: fs).Nodup
  hl : ∀ x ∈ ("self" : Str) :: fs, (defScope st).names.lookup x = some .local ∧ (x == ("__debug__" : Str)) = false
  hk : (defScope st).kind = .function
  hcell : ∀ x ∈ (defScope st).names, x.2 ≠ .cell
  hco : (defScope st).isCoroutine = false
  hgen : (defScope st).isGenerator = false
  hz : fs.length ≤ 800

theorem ok_init {fs : List Str} {rest : List Stmt} {pl : Sem Bool} (Fn : ExF P K qual st f D fd) (hmg : mg "super" = none) (S : XScope st fs) (hb : defBody st = .Expr (eSup z kz p0 p1 p2 p3 p4) p5 :: rest) (hr : AsgB rest fs)
    (he : ∀ (L cda cc : Addr), eval (eSup z kz p0 p1 p2 p3 p4) (ksEnv qual (defScope st) L f (.ref cda) cc) = (do
      let ov ← attributeBase (.Call (.Name "super" p0) [] [] p1) "__init__" (ksEnv qual (defScope st) L f (.ref cda) cc) (eval (.Call (.Name "super" p0) [] [] p1) (ksEnv qual (defScope st) L f (.ref cda) cc))
      standAt p2.atName
      let (fu, first) ← holding [ov] (getMethod ov "__init__" pl)
      callWith p4 fu first (backTo p4 (starEach [.Constant (.str z) kz p3] (ksEnv qual (defScope st) L f (.ref cda) cc))) [])) :
    FnOk P w K mg base CX 1 f fd (("self" : Str) :: fs) (spXI K D fs) := by
  obtain ⟨oc, od, kV, doc, pm, an, ct, osl, cc, cda, ccl, cdd, vs, ccs, tf, cl, cld, csl, cdD, rfl, lk, hcd, hcode, hvs, hcl, hD⟩ := Fn.ex
  refine ⟨fun vs H Q E ⟨a, C, ws, e, hl, _⟩ => by rw [e]; simpa using hl, fun A outer s H args us vs' Q E hroom e0 hbind r hsp => ?_⟩
  obtain ⟨a, C, ws, rfl, hlen, T, hno, ea, hq0, hq⟩ := hsp
  have KX : K.In s.heap := e0.mod.kin.keeps fun b o e => (e0.bs b o e).1
  have lim : s.heap.NoLimit := e0.mod.nolimit.keeps fun b o e => (e0.bs b o e).1
  obtain ⟨mb, hmb, hbb⟩ := e0.mod.blt
  have hgl : s.heap.Ns mainGlobals mg := e0.mod.glob.keeps fun b o e => (e0.bs b o e).1
  have hbl : s.heap.Ns builtinsNs mb := hmb.keeps fun b o e => (e0.bs b o e).1
  cases r with
  | @cons _ ua _ ur ra rw' =>
    obtain rfl : ua = Value.ref a := ra
    obtain ⟨t0, hx⟩ := exo_at e0.hok ea
    have hKa : K.lookup a = none := by
      cases e : K.lookup a with
      | none => rfl
      | some o =>
        have z := (e0.bs a o (e0.mod.kin _ _ e)).2
        rw [ea] at z
        cases z
    have hxL : s.heap.objs.size ≠ a := Nat.ne_of_gt (Heap.lt_size hx)
    obtain ⟨ar, hp, har⟩ := S.hp
    refine ks_codeAny_call_defAt (fd := ksFn "__init__" qual (defArgs st) (defBody st) (defScope st) .none kV doc pm an (.ref cda) ct cc) hroom.depth (KX _ _ lk) rfl lim (codeRec_of KX hcd) rfl hbind S.hcell (fun x hxm => (S.hl x.1 (List.of_mem_zip hxm).1).1) (fun h0 hns k0 => ?_) S.hco S.hgen S.hk
    have X0 : K.In h0 := KX.keeps k0
    have mself := look_at (us := Value.ref a :: ur) (i := 0) S.nd rfl rfl
    show _root_.PySem.wpAt _ _ _ (execs (defBody st) _) _ _ _
    rw [hb]
    refine ks_wpAt_execs_cons ?_
    refine super_stmt (mg := mg) (mb := mb) (ar := ar) (L := s.heap.objs.size) (x := a) (t0 := t0) T X0 (hgl.keeps k0) (hbl.keeps k0) ((hbb _ (by decide)).trans PyProof.Rows.Boot.«super») hmg hns (by rw [har]; exact mself) (k0 _ _ hx) lk hp hcode hvs hcl hD S.hks S.hkc (by rw [har]; exact (S.hl _ List.mem_cons_self).1) S.hk Fn.noSuper Fn.third (he _ _ _) fun h1 tk1 t1 k1 e1 => ?_
    show _root_.PySem.wpAt _ _ _ (execs _ _) _ _ _
    have X1 : K.In h1 := fun c o e => k1 c o (fun z => by rw [z, hKa] at e; cases e) (X0 c o e)
    obtain ⟨oL, es, ep, hoL, rL⟩ := hns
    have kk : ∀ b o, b ≠ a → s.heap.get? b = some o → h1.get? b = some o := fun b o hb e => k1 b o hb (k0 b o e)
    refine wpAt_of_wpAny ?_
    have hpair : Paired (FldL K C (defScope st) (fun x => ((("self" : Str) :: fs).zip (Value.ref a :: ur)).reverse.lookup x)) fs ws := by
      refine paired_at hlen.symm fun i g y e1 e2 => ?_
      obtain ⟨u, hu, ru⟩ := L2.Vals.get rw' e2
      have hm : g ∈ fs := List.mem_of_getElem? e1
      have hl := S.hl g (List.mem_cons_of_mem _ hm)
      exact ⟨⟨u, look_at (i := i + 1) S.nd (by simpa using e1) (by simpa using hu), ru⟩, hl.1, hl.2, hno g hm⟩
    refine asgs_new (m := fun x => ((("self" : Str) :: fs).zip (Value.ref a :: ur)).reverse.lookup x) T.oex S.hk (S.hl _ List.mem_cons_self).1 mself hr (s := { s with heap := h1, toks := tk1 }) hpair S.hz X1 hKa ⟨oL, es, ep, k1 _ _ hxL hoL, rL⟩ hxL e1 (fun e => ?_) (fun hne h2 tk2 dx mA k2 dn dne hx2 hn2 rel2 => ?_)
    · show CE outer P w H s Q .none { s with heap := h1, toks := tk1 }
      exact ⟨.non, H, rfl, e0.bare, un_exc0 ea kk ⟨_, e1⟩, hok_exc0 e0.hok ea kk e1, rfl, hq0 e⟩
    · show CE outer P w H s Q .none { s with heap := h2, toks := tk2 }
      have kk2 : ∀ b o, b ≠ a → s.heap.get? b = some o → h2.get? b = some o := fun b o hb e => k2 b o hb (kk b o hb e)
      have sz : s.heap.objs.size ≤ dx := by
        have z : s.heap.objs.size < h1.objs.size := Heap.lt_size (k1 _ _ hxL hoL)
        exact Nat.le_of_lt (Nat.lt_of_lt_of_le z dn)
      have hnd : H dx = none := e0.hok.fresh sz
      exact ⟨.non, _, rfl, e0.bare, un_exc ea hnd sz kk2 ⟨_, hx2⟩, hok_exc e0.hok ea hnd kk2 hx2 hn2 rel2, rfl, hq hne dx hnd dne⟩
end
end Pk

/-! # PkExc3 -/
set_option Elab.async false
set_option linter.all false
set_option maxRecDepth 100000
set_option maxHeartbeats 4000000
namespace Pk
open PySem PySem.W PySem.Calls PyProof.Rows PySem.HandSPX L2

/-- an error class of the text, called x: at C, its __init__ (of D) at fI, storing the fields fs -/
structure XCls (P : Program) (w : World) (K : Frag) (mg : Str → Option Value) (base : Heap) (x : Str) (C : Addr) (fs : List Str) : Prop where
  ex : ∃ (D fI : Addr) (fd : FuncData), ExI K C D ∧ (∀ f ∈ fs, findIn K (.ref C) f = some none) ∧ findIn K (.ref C) "__init__" = some (some (.ref fI)) ∧ typeIn K (.ref fI) = some (.type "function") ∧
    FnOk P w K mg base CX0 1 fI fd (("self" : Str) :: fs) (spXI K D fs) ∧ Binds K fd (("self" : Str) :: fs) []
  gC : mg x = some (.ref C)

theorem xd_heap {H : Hp} {a d C : Addr} {F : List (Str × V)} (ha : H a = none) (hda : d ≠ a) : upd (del (upd (upd (upd H a (exo a C none)) d (exd d F)) a (exo a C (some d))) a) d (.xd F) = upd H d (.xd F) := by
  funext b
  by_cases hb : b = d
  · subst hb; rw [upd_same, upd_same]
  · rw [upd_ne hb, upd_ne hb]
    by_cases hba : b = a
    · subst hba; rw [del_same, ha]
    · rw [del_ne hba, upd_ne hba, upd_ne hb, upd_ne hba]

/-- arguments whose end may be weakened -/
def tMonoA (t : TA) : TA := fun σ H Q => ∃ Q0 : List V → Hp → Prop, t σ H Q0 ∧ ∀ vs H1, Q0 vs H1 → Q vs H1
theorem pa_mono {X : Cx} {es : List Expr} {t : TA} (h : PA X es t) : PA X es (tMonoA t) := ⟨fun pos pins s σ H Q I ⟨Q0, h0, hq⟩ => thn (h.run pos pins s σ H Q0 I h0) fun us s1 ⟨vs, H1, I1, r1, q1⟩ => ⟨vs, H1, I1, r1, hq vs H1 q1⟩⟩

section
variable {X : Cx} {x : Str} {C : Addr} {fs : List Str} {e : Expr} {es : List Expr} {ta : TA} {W : WX} {p pos pos2 : Pos} {k : Nat}
def tRaiseX (C : Addr) (fs : List Str) (W : WX) (ta : TA) : TS := fun _ σ H => ta σ H fun vs H1 => vs.length = fs.length ∧ ∀ d, H1 d = none → W (.ref C) (some d) σ (upd H1 d (.xd (fs.zip vs).reverse))
/-- raise C(e, ..) -/
theorem ps_raiseX (hc : X.calm = true) (T : XCls X.prog X.w X.K X.mg X.base x C fs) (hne : fs ≠ []) (hr : Room (k + 2) X.A) (tk : Takes X W) (ha : PA X (e :: es) ta) (hg : Gl X x) (hz : fs.length ≤ 900 := by decide)
    (hdb : (x == ("__debug__" : Str)) = false := by decide) (he : starEach (e :: es) X.env = (false, eval e X.env) :: starEach es X.env := by rfl) (hpl : (backTo pos (starEach es X.env)).any (·.1) = false := by rfl) :
    PS X (.Raise (some (.Call (.Name x p) (e :: es) [] pos)) none pos2) (tRaiseX C fs W ta) := by
  obtain ⟨D, fI, fd, TI, hno, iC, tI, F1, bd⟩ := T.ex
  have h0 := ps_raise (pos := pos2) hc tk (pmk_oex (p := p) (pos := pos) (dvs := []) (ds := []) TI.oex iC tI F1 (hr.mono (by omega)) bd .nil pass0 hg T.gC (pa_mono ha) hdb he hpl)
  refine ⟨fun pins s σ H Dn I h => h0.run pins s σ H Dn I ⟨_, h, fun vs H1 ⟨hl, q⟩ => ⟨by omega, fun a na => ?_⟩⟩⟩
  rw [List.append_nil]
  refine ⟨a, C, vs, rfl, hl, TI, hno, upd_same, fun z => absurd z hne, fun _ dx ndx dxa => ⟨rfl, dx, (fs.zip vs).reverse, upd_same, by rw [upd_ne dxa, upd_same], ?_, ?_⟩⟩
  · rw [upd_ne dxa] at ndx
    exact ndx
  · rw [xd_heap na dxa]
    refine q dx ?_
    rw [upd_ne dxa] at ndx
    exact ndx
end
end Pk

/-! # PkTry -/
set_option Elab.async false
set_option linter.all false
set_option maxRecDepth 100000
set_option maxHeartbeats 4000000
namespace Pk
open PySem PySem.Spec PyProof.Rows L2

/-! ## an exception that was caught, kept as a value -/
/-- at a: an exception object of the class cls, its dict d -/
def exT (cls : Value) (d : Option Addr) (a : Addr) : HO := .ext fun h => ∃ (oe : Obj) (vs : Array Value), h.get? a = some oe ∧ Zc cls d oe ∧ oe.data = .fields vs
theorem exT_ok {P : Program} {w : World} {H : Hp} {h : Heap} {a : Addr} {cls : Value} {d : Option Addr} {oe : Obj} {vs : Array Value} (e : h.get? a = some oe) (z : Zc cls d oe) (q : oe.data = .fields vs) : ObjOk P w H h a (exT cls d a) :=
  ⟨⟨oe, vs, e, z, q⟩, ⟨oe, e⟩, fun _ _ ⟨o, v, e1, r⟩ k => ⟨o, v, k o e1, r⟩⟩
theorem exT_at {P : Program} {w : World} {H : Hp} {h : Heap} {a : Addr} {cls : Value} {d : Option Addr} (hok : HOk P w H h) (e : H a = some (exT cls d a)) : ∃ (oe : Obj) (vs : Array Value), h.get? a = some oe ∧ Zc cls d oe ∧ oe.data = .fields vs := by
  have x : ObjOk P w H h a (.ext fun h => ∃ (oe : Obj) (vs : Array Value), h.get? a = some oe ∧ Zc cls d oe ∧ oe.data = .fields vs) := hok a _ e
  exact x.1
section
variable {X : Cx} {pins : List (Addr × Obj)} {σ : L2.St} {H : Hp} {s : Shared}
/-- an object of ours that is not tracked may be tracked -/
theorem track {a : Addr} {o : HO} (I : Inv X pins σ H s) (ha : H a = none) (h0 : X.s_0.heap.get? a = none) (hL : a ≠ X.env.locals) (hc : ∀ x c, X.env.cells.lookup x = some c → c ≠ a) (hp : ∀ p ∈ X.pn ++ pins, p.1 ≠ a)
    (new : ObjOk X.prog X.w (upd H a o) s.heap a o) : Inv X pins σ (upd H a o) s := by
  have n0 : ∀ {b : Addr} {u : Obj}, X.s_0.heap.get? b = some u → b ≠ a := fun {b u} e z => by rw [z, h0] at e; cases e
  refine ⟨I.ok, I.os, I.bare, ⟨I.base.keep, I.base.slot, fun b u e n hx => ?_, I.base.there, fun b xs e => ?_, fun b u v e => ?_, fun b ps e => ?_⟩, I.loc, I.cell, ?_, fun x c e => ?_, fun p hpp => ?_, I.hok.laidN (fun _ _ z => z) ha new, I.len⟩
  · rw [upd_ne (n0 e)]
    exact I.base.free b u e n hx
  · have q := I.base.tups b xs e
    rw [upd_ne (ne_of_none q ha)]; exact q
  · have q := I.base.frzs b u v e
    rw [upd_ne (ne_of_none q ha)]; exact q
  · obtain ⟨m, q⟩ := I.base.tbls b ps e
    exact ⟨m, by rw [upd_ne (ne_of_none q ha)]; exact q⟩
  · rw [upd_ne (Ne.symm hL)]; exact I.free
  · rw [upd_ne (hc x c e)]; exact I.freeC x c e
  · obtain ⟨q1, q2, q3⟩ := I.pin p hpp
    exact ⟨q1, by rw [upd_ne (hp p hpp)]; exact q2, q3⟩
end

/-- what the clause 'except x as n' wishes: behind the suite the exception stands tracked -/
def wAsT (K : PySem.W.Frag) (c : Value) (i : Nat) (ts : Addr → Value → Option Addr → TS) (Wout : WX) (D : Ends) : WX := fun cls d σ H =>
  ∃ b, PySem.W.exmOne K cls c = some b ∧ (b = true → ∀ a, H a = none → ts a cls d { nx := fun σ' H' => D.nx (σ'.set i none) (upd H' a (exT cls d a)), rt := fun v H' => D.rt v (upd H' a (exT cls d a)), bk := fun σ' H' => D.bk (σ'.set i none) (upd H' a (exT cls d a)), ct := fun σ' H' => D.ct (σ'.set i none) (upd H' a (exT cls d a)) } (σ.set i (some (.ref a))) H) ∧
    (b = false → Wout cls d σ H)
section
variable {X : Cx} {x n : Str} {c : Value} {i : Nat} {body suite : List Stmt} {b₀ : Stmt} {np pos pos' : Pos} {tb : WX → TS} {ts : Addr → Value → Option Addr → TS} {Wout : WX}
theorem ps_try_asT (hs : X.stack = X.env :: X.outer) (hf : X.env.frame = some X.env.locals) (hex : X.ex = []) (hN : X.N.Nodup) (hi : X.N[i]? = some n) (hln : X.env.kindOf n = some .local) (hc : Names X x c) (tk : Takes X Wout)
    (hb : ∀ (W : WX) (pn : List (Addr × Obj)) (xe : Value → Shared → Prop), Takes (X.tr pn xe) W → PassesOwn (model X.prog X.w) X.A X.env xe → PSs (X.tr pn xe) body (tb W))
    (hsu : ∀ (a : Addr) (oe : Obj) (cls : Value) (d : Option Addr) (pn : List (Addr × Obj)), Zc cls d oe → (∃ vs, oe.data = .fields vs) → PSs (X.suite a ((a, oe) :: pn)) (b₀ :: suite) (ts a cls d)) :
    PS X (.Try body [.ExceptHandler (some (.Name x np)) (some n) (b₀ :: suite) pos'] [] [] pos) (fun D σ H => tb (wAsT X.K c i ts Wout D) D σ H) := by
  refine ⟨fun pins s σ H D I h => ?_⟩
  have ok := I.ok
  have hfr : X.A.frames = some (X.env :: X.outer) := by rw [ok.frames, hs]
  have hloc : Loc X.env.scope n := .inl hln
  refine wpAny_Try_except ?_
  refine wpAny_mono ((hb (wAsT X.K c i ts Wout D) (X.pn ++ pins) (fun e s₁ => wpAny (model X.prog X.w) X.A (noteFrame e X.env) (fun _ s₂ => wpAny (model X.prog X.w) X.A (setFlight e none) (fun _ s₃ =>
    wpAny (model X.prog X.w) X.A (handleBy e X.env [.ExceptHandler (some (.Name x np)) (some n) (b₀ :: suite) pos']) (SP X pins D) X.xe s₃) X.xe s₂) X.xe s₁) (fun u s' xx => ?_) PassesOwn.looking).run [] s σ H D (I.toTry _) h) (fun f s1 hsp => ?_) (fun e s1 he => he)
  · obtain ⟨a, B, sI, pins', σ', H', cls, d, rfl, J', nb, up, sky, na, os, ag, b, hb1, hyes, hno⟩ := xx
    have J : Inv X pins σ' H' sI := J'.ofTry ok
    have sky' : Sky B (X.env :: X.outer) a (Zc cls d) X.env.locals s'.heap := by rw [← hs]; exact sky
    have Ba : B.get? a = none := by
      rcases sky' with z | z | z
      · exact z.2.1
      · exact z.2.1
      · exact z.2.1
    show wpAny (model X.prog X.w) X.A (noteFrame (.ref a) X.env) _ _ _
    refine Sky.land Zc.steady hfr hf sky' fun h3 fl3 up3 => ?_
    have J3 : Inv X pins σ' H' { s' with heap := h3 } := J.landed nb fl3.1 (up.trans up3) os ag
    obtain ⟨oe3, vs3, he3, hz3, hd3⟩ := fl3.there
    have nfr : a ∉ frs (X.env :: X.outer) := fun hm => by
      obtain ⟨_, o', e', hnf⟩ := fl3.2.2.1.mem hm
      rw [he3] at e'; cases e'
      exact hnf _ hd3
    have nL : a ≠ X.env.locals := fun z => nfr (List.mem_filterMap.mpr ⟨X.env, List.mem_cons_self, by rw [hf, z]⟩)
    have nF : a ∉ X.fs := fun hm => by
      obtain ⟨e, he, q⟩ := List.mem_filterMap.mp hm
      exact nfr (List.mem_filterMap.mpr ⟨e, List.mem_cons_of_mem _ he, q⟩)
    have sIa : sI.heap.get? a = none := by
      cases e : sI.heap.get? a with
      | none => rfl
      | some o => rw [nb a o e (by rw [hs]; exact nfr)] at Ba; cases Ba
    have s0a : X.s_0.heap.get? a = none := by
      cases e : X.s_0.heap.get? a with
      | none => rfl
      | some o =>
        obtain ⟨o', e'⟩ := J.base.there a o e (by rw [hex]; exact fun z => nomatch z)
        rw [sIa] at e'; cases e'
    have pna : ∀ p ∈ X.pn ++ pins, p.1 ≠ a := fun p hp z => by
      have q := (J.pin p hp).1
      rw [z, sIa] at q; cases q
    have S3 := J3.suite he3 hd3 na nL nF
    refine wpAny_handleBy_cons (codeAny_handlers_test ?_) (by intro q; cases q)
    have LT : PySem.W.Looks (model X.prog X.w) h3 (typeOf (.ref a)) cls := fun A Q E s k q => wpAny_typeOf_ref (k _ _ he3) (by rw [hz3.1]; exact q)
    have LM := PySem.W.exm_one (M := model X.prog X.w) (J3.kIn) LT hb1
    have test : ∀ {Q : Value → Shared → Prop} {E : Value → Shared → Prop}, Q c { s' with heap := h3 } → wpAny (model X.prog X.w) (X.A.mark (some (.ref a))) (eval (.Name x np) X.env) Q E { s' with heap := h3 } := fun {Q E} q => by
      obtain ⟨hg, hdbg, hm | ⟨hm, hv, hnn⟩⟩ := hc
      · exact ld_glob (X := X.suite a ((a, oe3) :: (X.pn ++ pins))) S3 hg hm q hdbg
      · exact ld_blt (X := X.suite a ((a, oe3) :: (X.pn ++ pins))) S3 hg hm hv q hnn hdbg
    refine test (LM.here ?_)
    cases b with
    | true =>
      refine codeAny_handlers_suite_as ?_
      refine HandSPX.lands_againZ fl3 fun h4 fl4 up4 => ?_
      have J4 : Inv X pins σ' H' { s' with heap := h4 } := J.landed nb fl4.1 ((up.trans up3).trans up4) os ag
      obtain ⟨oe4, vs4, he4, hz4, hd4⟩ := fl4.there
      have S4 := J4.suite he4 hd4 na nL nF
      refine store_ok (X := X.suite a ((a, oe4) :: (X.pn ++ pins))) (v := .ref a) S4 hN hi hloc rfl (fun s5 S5 => ?_) (.inr hln)
      refine wpAny_mono ((hsu a oe4 cls d (X.pn ++ pins) hz4 ⟨_, hd4⟩).run [] s5 _ H' _ S5 (hyes rfl a na)) (fun f s6 hsp => ?_) (fun _ _ z => False.elim z)
      have end_ : ∀ {σ6 : L2.St} {H6 : Hp} {Q : Shared → Prop}, Inv (X.suite a ((a, oe4) :: (X.pn ++ pins))) [] σ6 H6 s6 → (∀ s7, Inv X pins (σ6.set i none) (upd H6 a (exT cls d a)) s7 → Q s7) →
          wpAny (model X.prog X.w) X.A (do bindName X.env n .none; unbindBehindTheSuite X.env n pos') (fun _ s7 => Q s7) X.xe s6 := fun {σ6 H6 Q} S6 hq => by
        obtain ⟨ga, gn, _, _, _⟩ := S6.pin (a, oe4) (List.mem_append_left _ List.mem_cons_self)
        have J6 := S6.unsuite ok
        have J7 : Inv X pins σ6 (upd H6 a (exT cls d a)) s6 := track J6 gn s0a nL (fun y cl e z => by
          obtain ⟨v, o, ho, hdd⟩ := J6.cell y cl e
          rw [z, ga] at ho
          cases ho
          rw [hd4] at hdd
          cases hdd) pna (exT_ok ga hz4 hd4)
        exact gone_ok J7 hN hi hln hq
      cases f with
      | next =>
        obtain ⟨σ6, H6, S6, q6⟩ := hsp
        exact end_ S6 fun s7 J7 => ⟨_, _, J7, q6⟩
      | brk =>
        obtain ⟨σ6, H6, S6, q6⟩ := hsp
        exact end_ S6 fun s7 J7 => ⟨_, _, J7, q6⟩
      | cont =>
        obtain ⟨σ6, H6, S6, q6⟩ := hsp
        exact end_ S6 fun s7 J7 => ⟨_, _, J7, q6⟩
      | ret u =>
        obtain ⟨v6, σ6, H6, S6, r6, q6⟩ := hsp
        exact end_ S6 fun s7 J7 => ⟨_, _, _, J7, r6, q6⟩
    | false =>
      show wpAny _ X.A (handleBy (.ref a) X.env []) _ _ _
      refine wpAny_handleBy_nil ?_
      obtain ⟨k1, k2, k3, oe, vs, T, oT, ts', he, hz, hd, h1, hr⟩ := id fl3
      unfold PySem.passOn
      refine wpAny_bind (wpAny_field he hd h1 ?_)
      rw [if_neg (show ¬ ((Value.ref T == Value.none) = true) from by simp)]
      have fin : wpAny (model X.prog X.w) X.A (setFlight (.ref a) X.env.frame) (fun _ s4 => wpAny (model X.prog X.w) X.A (throw (.ref a) : Sem Flow) (SP X pins D) X.xe s4) X.xe { s' with heap := h3 } := by
        rw [hf]
        refine HandSPX.setFlight_upZ fl3 fun h4 hh4 up4 => wpAny_throw (tk _ _ ?_)
        exact ⟨a, B, sI, pins, σ', H', cls, d, rfl, J, nb, (up.trans up3).trans up4, .inr (.inr (by rw [hs]; exact hh4)), na, os, ag, hno rfl⟩
      first
        | exact wpAny_bind (wpAny_pure (wpAny_bind fin))
        | exact wpAny_bind fin
  · cases f with
    | next =>
      obtain ⟨σ', H', J', q⟩ := hsp
      exact wpAny_execs_nil ⟨σ', H', J'.ofTry ok, q⟩
    | brk =>
      obtain ⟨σ', H', J', q⟩ := hsp
      exact ⟨σ', H', J'.ofTry ok, q⟩
    | cont =>
      obtain ⟨σ', H', J', q⟩ := hsp
      exact ⟨σ', H', J'.ofTry ok, q⟩
    | ret u =>
      obtain ⟨v, σ', H', J', r, q⟩ := hsp
      exact ⟨v, σ', H', J'.ofTry ok, r, q⟩
end

/-- e.n, e a caught exception that is kept -/
def tXfT (K : PySem.W.Frag) (n : Str) (te : TE) : TE := fun σ H Q => te σ H fun x H1 => ∃ (a C dd : Addr) (fs : List (Str × V)) (v : V), x = .ref a ∧ H1 a = some (exT (.ref C) (some dd) a) ∧ XfC K C ∧ PySem.W.findIn K (.ref C) n = some none ∧ H1 dd = some (.xd fs) ∧ fs.lookup n = some v ∧ Q v H1
/-- isinstance(e, c), e such an exception -/
def rIsX (K : PySem.W.Frag) : List V → Hp → VK → Prop := fun xs H Q => ∃ (a D dd : Addr) (fs : List (Str × V)) (c : V) (u : Value) (b : Bool), xs = [.ref a, c] ∧ H a = some (exT (.ref D) (some dd) a) ∧ H dd = some (.xd fs) ∧ ExcC K D ∧ ClsV c u ∧ PySem.W.kitOne K (.ref D) u = some b ∧ Q (.bl b) H
section
variable {X : Cx}
theorem exT_inst {pins : List (Addr × Obj)} {σ : L2.St} {H : Hp} {s : Shared} {a C dd : Addr} {fs : List (Str × V)} (I : Inv X pins σ H s) (ha : H a = some (exT (.ref C) (some dd) a)) (hd : H dd = some (.xd fs)) :
    ∃ (oe od : Obj) (mA : Str → Option Value), PySem.W.InstAt s.heap a oe C (some od) ∧ (∀ f, PySem.W.lookIn f od = some (mA f)) ∧ ∀ f, RelO (fs.lookup f) (mA f) := by
  obtain ⟨oe, vs, e, z, q⟩ := exT_at I.hok ha
  obtain ⟨mA, hns, hr⟩ := (show ObjOk X.prog X.w H s.heap dd (.xd fs) from I.hok dd _ hd)
  obtain ⟨od, ho, hl⟩ := lookIn_ns hns
  exact ⟨oe, od, mA, ⟨e, z.1, by unfold PySem.W.notCls; rw [q] <;> rfl, by rw [z.2]; exact ho⟩, hl, hr⟩
theorem pe_xfT {e : Expr} {te : TE} {pos : Pos} {n : Str} (he : PE X e te) (hb : attributeBase e n X.env (eval e X.env) = eval e X.env := by rfl) : PE X (.Attribute e n pos) (tXfT X.K n te) := by
  refine ⟨fun pins s σ H Q I h => ?_⟩
  refine attr_of hb (thn (he.run pins s σ H _ I h) fun u s1 hh => ?_)
  obtain ⟨x, H1, I1, rx, a, C, dd, fs, v, ex, ea, T, hno, ed, l, q⟩ := hh
  subst ex
  obtain rfl : u = Value.ref a := rx
  obtain ⟨oe, od, mA, J, hl, hr⟩ := exT_inst I1 ea ed
  obtain ⟨u, hu, ru⟩ := RelO.some_of (v := v) (o := mA n) (by rw [← l]; exact hr n)
  exact HandSPX.exc_get I1.kIn J T.ga T.gg T.exC (PySem.W.findObj_own T.hdC hno rfl (by rw [hl, hu])) (handed_of ru) ⟨v, H1, I1.tok _, ru, q⟩
theorem call_isX : CallR X (.builtin "isinstance") (rIsX X.K) := by
  intro pins s σ H xs us Q I r h
  obtain ⟨a, D, dd, fs, c, u, b, rfl, ea, ed, C, k, e, q⟩ := h
  obtain ⟨u1, u2, rfl, r1, r2⟩ := vals2 r
  have e2 := k.eq r2
  subst e2
  obtain rfl : u1 = Value.ref a := r1
  obtain ⟨oe, od, mA, J, _, _⟩ := exT_inst I ea ed
  obtain ⟨cd, hc, _⟩ := PySem.W.any_some C.hd
  exact PySem.W.kia_one (PySem.W.kitx_exc (by rw [hc]; rfl) C.hg C.hk C.hs C.ha C.hn C.ht C.hm) I.kIn J e (fun z => nomatch z) fun tk => ⟨.bl b, H, I.tok tk, rfl, q⟩
end
end Pk

/-! # PkG -/
set_option Elab.async false
set_option linter.all false
set_option maxRecDepth 100000
set_option maxHeartbeats 4000000
namespace Pk
open PySem PySem.Spec PyProof.Rows L2

/-! ## Promises of defs that are called where nothing is being shown (repr): room, and no guard -/
structure Rm (k : Nat) (A : Around) : Prop where
  r : Room k A
  g : A.guards = some []
theorem Rm.mono {j k : Nat} {A : Around} (h : Rm k A) (e : j ≤ k) : Rm j A := ⟨h.r.mono e, h.g⟩
theorem Rm.in1 {k : Nat} {A : Around} (h : Rm (k + 1) A) : Rm k A.in1 := ⟨h.r.in1, h.g⟩
theorem Rm.deeper {k : Nat} {A : Around} (h : Rm (k + 1) A) (env : Env) : Rm k (A.deeper env) := ⟨h.r.deeper env, h.g⟩
theorem guards_make {A : Around} {C : Addr} {us : List Value} {kw : List (Str × Value)} : (A.under (.builtin "type.__call__" ⟨.ref C :: us, kw⟩)).guards = A.guards := by
  have e : (Code.builtin "type.__call__" ⟨.ref C :: us, kw⟩).guards = [] := by
    unfold Code.guards
    rw [if_neg (by show ¬ guardIds.contains "type.__call__" = true; decide +kernel)]
  show pushGuards (Code.builtin "type.__call__" ⟨.ref C :: us, kw⟩).guards A.guards = A.guards
  rw [e]; rfl
theorem Rm.make {k : Nat} {A : Around} (h : Rm (k + 1) A) (C : Addr) (us : List Value) (kw : List (Str × Value)) : Rm k (A.under (.builtin "type.__call__" ⟨.ref C :: us, kw⟩)) := ⟨h.r.make C us kw, by rw [guards_make]; exact h.g⟩

/-- the def at f keeps its promise where nothing is being shown -/
structure FnG (P : Program) (w : World) (K : PySem.W.Frag) (mg : Str → Option Value) (base : Heap) (k : Nat) (f : Addr) (fd : FuncData) (ps : List Str) (sp : Sp) : Prop where
  len : ∀ vs H Q E, sp vs H Q E → vs.length = ps.length
  run : ∀ (A : Around) (outer : List Env) (s : Shared) (H : Hp) (args : Args) (us : List Value) (vs : List V) (Q : VK) (E : XK), Rm k A → Env0 P w K mg base A outer s H → BindsTo s fd args (ps.zip us) → Vals vs us → sp vs H Q E →
    codeAny (model P w) A (.call (.ref f) args) (CR (CX P w) outer P w H s Q E) s
section
variable {P : Program} {w : World} {K : PySem.W.Frag} {mg : Str → Option Value} {base : Heap} {k : Nat} {f : Addr} {fd : FuncData} {ps : List Str} {sp : Sp}
theorem FnG.of (F : FnOk P w K mg base (CX P w) k f fd ps sp) : FnG P w K mg base k f fd ps sp := ⟨F.len, fun A outer s H args us vs Q E hr => F.run A outer s H args us vs Q E hr.r⟩
theorem FnG.mono {j : Nat} (F : FnG P w K mg base j f fd ps sp) (h : j ≤ k) : FnG P w K mg base k f fd ps sp := ⟨F.len, fun A outer s H args us vs Q E hr => F.run A outer s H args us vs Q E (hr.mono h)⟩
/-- a def as it stands behind the top, whatever its defaults -/
structure FunX (K : PySem.W.Frag) (x qual : Str) (st : Stmt) (f : Addr) (fd : FuncData) : Prop where
  ex : ∃ (oc : Value) (od : Option Addr) (dV kV doc pm : Value) (an : Option Addr) (cdv ct : Value) (osl : Array (Option Value)),
    fd = PySem.W.fnOf x qual (defArgs st) (defBody st) (defScope st) dV kV doc pm an cdv ct ∧ K.lookup f = some ⟨oc, od, .func fd, osl⟩ ∧ PySem.W.codeIn K cdv qual = true
  kp : PySem.W.keepIn K (.ref f) = true
theorem fun_x {x qual : Str} {st : Stmt} (F : Fun K x qual st f fd) : FunX K x qual st f fd := by
  obtain ⟨⟨oc, od, kV, doc, pm, an, cdv, ct, osl, h1, h2, h3⟩, kp⟩ := F
  exact ⟨⟨oc, od, .none, kV, doc, pm, an, cdv, ct, osl, h1, h2, h3⟩, kp⟩
/-- THE RULE for a def -/
theorem okX {x qual : Str} {st : Stmt} {N : List Str} (F : FunX K x qual st f fd) (S : FnScope N ps (defScope st)) (len : ∀ vs H Q E, sp vs H Q E → vs.length = ps.length)
    (hbody : ∀ (cdv : Value) (A : Around) (outer : List Env) (s : Shared) (H : Hp) (vs : List V) (Q : VK) (E : XK), Rm k (A.deeper (envOfC qual (defScope st) s.heap.objs.size f cdv)) → sp vs H Q E →
      ∃ t, PSs (cxOf (CX P w) P w K mg base N qual (defScope st) f cdv A outer s H E) (defBody st) t ∧ t { nx := fun _ H' => Q .non H', rt := Q } (start N vs) H) : FnG P w K mg base (k + 1) f fd ps sp := by
  obtain ⟨oc, od, dV, kV, doc, pm, an, cdv, ct, osl, rfl, lk, hcd⟩ := F.ex
  refine ⟨len, fun A outer s H args us vs Q E hr e0 hb r hsp => ?_⟩
  have hl := len _ _ _ _ hsp
  have KX : K.In s.heap := e0.mod.kin.keeps fun b o e => (e0.bs b o e).1
  have lim : s.heap.NoLimit := e0.mod.nolimit.keeps fun b o e => (e0.bs b o e).1
  have hkind : ∀ y ∈ ps.zip us, (defScope st).names.lookup y.1 = some .local ∨ ((defScope st).names.lookup y.1 = some .cell ∧ ((cellsFrom (s.heap.objs.size + 1) (defScope st).names []).lookup y.1).isSome = true) := fun ⟨n, v⟩ hy => by
    rcases S.par n (List.of_mem_zip hy).1 with q | q
    · exact .inl q
    · exact .inr ⟨q, PySem.W.cellsFrom_some _ _ _ (.inl q)⟩
  refine codeAny_call_function hr.r.depth (KX _ _ lk) rfl S.co S.gen rfl (PySem.W.codeRec_of KX hcd) (hb _ _ _ _ ?_)
  refine wpAny_newFunctionEnv_cells S.kind hkind fun env he s1 x => ?_
  subst he
  refine ⟨lim.keeps x.toInCall.keep, codeAny_func ?_⟩
  obtain ⟨t, ht, hq⟩ := hbody cdv A outer s H vs Q E (hr.deeper _) hsp
  have I : Inv (cxOf (CX P w) P w K mg base N qual (defScope st) f cdv A outer s H E) [] (start N vs) H s1 := inv_start S hr.r.hd e0 hl r x
  refine wpAny_mono (ht.run [] s1 (start N vs) H _ I hq) (fun fl s' hs => ?_) fun e s' hs => hs
  have fin : ∀ {σ' : L2.St} {H' : Hp} {v : V} {u : Value}, Inv (cxOf (CX P w) P w K mg base N qual (defScope st) f cdv A outer s H E) [] σ' H' s' → RelV v u → Q v H' → CE outer P w H s Q u s' :=
    fun {σ' H' v u} J rv q => ⟨v, H', J.os, J.bare, J.base, J.hok, rv, q⟩
  cases fl with
  | ret u =>
    obtain ⟨v, σ', H', J, rv, q⟩ := hs
    exact fin J rv q
  | next =>
    obtain ⟨σ', H', J, q⟩ := hs
    exact fin (v := V.non) (u := Value.none) J rfl q
  | brk =>
    obtain ⟨_, _, _, q⟩ := hs
    exact False.elim q
  | cont =>
    obtain ⟨_, _, _, q⟩ := hs
    exact False.elim q
theorem okG {x qual : Str} {st : Stmt} {N : List Str} (F : Fun K x qual st f fd) (S : FnScope N ps (defScope st)) (len : ∀ vs H Q E, sp vs H Q E → vs.length = ps.length)
    (hbody : ∀ (cdv : Value) (A : Around) (outer : List Env) (s : Shared) (H : Hp) (vs : List V) (Q : VK) (E : XK), Rm k (A.deeper (envOfC qual (defScope st) s.heap.objs.size f cdv)) → sp vs H Q E →
      ∃ t, PSs (cxOf (CX P w) P w K mg base N qual (defScope st) f cdv A outer s H E) (defBody st) t ∧ t { nx := fun _ H' => Q .non H', rt := Q } (start N vs) H) : FnG P w K mg base (k + 1) f fd ps sp := okX (fun_x F) S len hbody
end

/-! ### the end of a law -/
theorem lawG {P : Program} {w : World} {K : PySem.W.Frag} {mg mb : Str → Option Value} {k : Nat} {fa a : Addr} {fd : FuncData} {x : Str} {sp : Sp} {s₁ : Shared} {vs : List Value} {ns : List Int}
    (KX : K.In s₁.heap) (hns : s₁.heap.Ns mainGlobals mg) (hb : s₁.heap.Ns builtinsNs mb) (hbb : ∀ x : Str, x ≠ "__name__" → mb x = bootBuiltins x) (hlim : s₁.heap.NoLimit) (hg : s₁.gens = #[])
    (ha : s₁.heap.get? a = some { cls := .type "list", data := .seq vs.toArray }) (hi : IntsAre vs ns) (hl : ns.length ≤ sizeLine) (hr : Room k callerA)
    (F : ∀ base : Heap, K.In base → base.Ns mainGlobals mg → FnG P w K mg base k fa fd [x] sp) (hbind : ∀ (s : Shared) (u : Value), BindsTo s fd ⟨[u], []⟩ [(x, u)])
    (hsp : ∀ H : Hp, Only H → SqL K H a (ns.map V.int) → sp [.ref a] H (fun v _ => v = .bl true) fun _ _ _ => False) :
    codeAny (model P w) callerA (.call (.ref fa) ⟨[.ref a], []⟩) (fun r s' => r = .ok (.ret (.bool true)) ∧ OldK s₁.heap s'.heap ∧ s'.os = s₁.os ∧ AllBare s'.gens) s₁ := by
  have rv := vals_ints hi
  have lenV := hi.length
  have core : ∀ H : Hp, Only H → SqL K H a (ns.map V.int) → HOk P w H s₁.heap → (∀ b, H b ≠ none → b = a) → (H a ≠ none → K.lookup a = none) →
      codeAny (model P w) callerA (.call (.ref fa) ⟨[.ref a], []⟩) (fun r s' => r = .ok (.ret (.bool true)) ∧ OldK s₁.heap s'.heap ∧ s'.os = s₁.os ∧ AllBare s'.gens) s₁ := by
    intro H hO hS hok hA hK
    have base_of : ∀ {b : Addr} {o : Obj}, s₁.heap.get? b = some o → H b = none → (hidT s₁.heap H).get? b = some o := fun e n => hidT_get e n
    have noA : ∀ {b : Addr} {o : Obj} {es : Array DictEntry} {ep : Nat}, s₁.heap.get? b = some o → o.data = .dict es ep → H b = none := fun {b o es ep} e d => by
      cases q : H b with
      | none => rfl
      | some u =>
        have e' : b = a := hA b (by rw [q]; simp)
        subst e'
        rw [ha] at e; cases e
        have d' : Data.seq vs.toArray _ = Data.dict es ep := d
        cases d'
    have nsK : ∀ {b : Addr} {m : Str → Option Value}, s₁.heap.Ns b m → (hidT s₁.heap H).Ns b m := fun {b m} ⟨o, es, ep, e, d, r⟩ => ⟨o, es, ep, base_of e (noA e d), d, r⟩
    have hKb : K.In (hidT s₁.heap H) := fun b o e => base_of (KX b o e) (by
      cases q : H b with
      | none => rfl
      | some u =>
        have e' : b = a := hA b (by rw [q]; simp)
        subst e'
        rw [hK (by rw [q]; simp)] at e; cases e)
    have hM : Mod K mg (hidT s₁.heap H) := ⟨hKb, nsK hns, ⟨mb, nsK hb, hbb⟩, let ⟨mc, h1, h2⟩ := hlim; ⟨mc, nsK h1, h2⟩⟩
    have e0 : Env0 P w K mg (hidT s₁.heap H) callerA [] s₁ H := ⟨rfl, hM, fun b o e => of_hidT e, Nat.le_of_eq (hidT_size _ _), trivial, fun b hb => absurd (show b ∈ ([] : List Addr) from hb) (by simp), hok, .of_eq hg⟩
    refine codeAny_mono ((F _ hKb (nsK hns)).run callerA [] s₁ H ⟨[.ref a], []⟩ [.ref a] [.ref a] _ _ ⟨hr, rfl⟩ e0 (hbind s₁ (.ref a)) (.cons rfl .nil) (hsp H hO hS)) fun r s' h => ?_
    cases r with
    | error e =>
      obtain ⟨_, _, _, _, _, _, _, _, _, _, _, _, z⟩ := h
      exact z.elim
    | ok fl =>
      cases fl with
      | next => exact False.elim h
      | brk => exact False.elim h
      | cont => exact False.elim h
      | ret u =>
        obtain ⟨v, H', os, bare, un, hok', r', q⟩ := h
        have q' : v = .bl true := q
        subst q'
        obtain rfl : u = Value.bool true := r'
        refine ⟨rfl, OldK.of_keep fun b o e => ?_, os, bare⟩
        cases q : H b with
        | none => exact un.keep b o e q (by intro z; exact absurd (show b ∈ ([] : List Addr) from z) (by simp)) (by simp)
        | some u =>
          rcases hO b with z | ⟨ob, xs, z⟩
          · rw [q] at z; cases z
          · have z2 := un.frzs b ob _ z
            obtain ⟨e1, _⟩ := hok b _ z
            obtain ⟨e2, _⟩ := hok' b _ z2
            rw [e] at e1; cases e1
            exact e2
  cases hk : K.lookup a with
  | some o =>
    have e := KX a o hk
    rw [ha] at e
    cases e
    refine core (fun _ => none) (fun _ => .inl rfl) (.inr ⟨_, vs.toArray, _, hk, rfl, rfl, rfl, by rw [List.size_toArray, lenV]; exact hl, by simpa using rv⟩) (fun b u z => by have z' : (none : Option HO) = some u := z; cases z') (fun b z => absurd rfl z) fun z => absurd rfl z
  | none =>
    refine core (fun b => if b = a then some (.frz { cls := .type "list", data := .seq vs.toArray } (.lst (ns.map V.int))) else none) (fun b => ?_) (.inl (.inr ⟨{ cls := .type "list", data := .seq vs.toArray }, if_pos rfl⟩)) (fun b u z => ?_) (fun b z => ?_) fun _ => hk
    · by_cases hb : b = a
      · exact .inr ⟨_, _, if_pos hb⟩
      · exact .inl (if_neg hb)
    · by_cases hb : b = a
      · have z' := (if_pos hb).symm.trans z
        cases z'
        subst hb
        exact ⟨ha, by rw [List.length_map]; exact hl, vs, _, rv, ha⟩
      · have z' := (if_neg hb).symm.trans z
        cases z'
    · by_cases hb : b = a
      · exact hb
      · exact absurd (if_neg hb) z
theorem walkG {l : PySem.W.OpenLaw} {n k : Nat} {q : Program} {loose : List Str} {XP : (Str → Option Value) → Heap → Prop} {YP : World → Heap → Prop} {d : DefRec} {K : Params → PySem.W.Frag} {sp : PySem.W.Frag → Sp} {x : Str}
    (hn : l.most = some n) (hn2 : n ≤ sizeLine) (hdf : d.params.defaults = []) (hr : Room k callerA)
    (hY : ∀ (w : World) (h : Heap), YP w h → (K w.params).In h)
    (F : ∀ (w : World) (mg : Str → Option Value) (fa : Addr) (h : Heap), (K w.params).In h → h.Ns mainGlobals mg → mg d.name = some (.ref fa) →
      ∃ fd : FuncData, (∀ (s : Shared) (u : Value), BindsTo s fd ⟨[u], []⟩ [(x, u)]) ∧
        ∀ base : Heap, (K w.params).In base → base.Ns mainGlobals mg → FnG l.prog w (K w.params) mg base k fa fd [x] (sp (K w.params)))
    (hsp : ∀ (K : PySem.W.Frag) (H : Hp) (a : Addr) (ns : List Int), ns.length ≤ n → (∀ z ∈ ns, Builtin.Int.intBits z ≤ 1048576) → Only H → SqL K H a (ns.map V.int) → sp K [.ref a] H (fun v _ => v = .bl true) fun _ _ _ => False) :
    PySem.W.WalkO q loose XP YP l.row.toRowW d [] (fun f vs => PySem.call f vs) := by
  refine Att.attach_callB hn hdf fun w s₀ s₁ mg mb fa o pm cd doc a vs ns G Y ho hd hcd hmg hobj hints hlen hbits hg => ?_
  have KX := hY w _ Y
  obtain ⟨fd, hb, hF⟩ := F w mg fa _ KX G.T.g hmg
  exact lawG KX G.T.g G.T.b G.T.builtins G.T.nolimit hg hobj hints (Nat.le_trans hlen hn2) hr hF hb (fun H hO hS => hsp _ H a ns hlen hbits hO hS)
end Pk

/-! # PkCall -/
set_option Elab.async false
set_option linter.all false
set_option maxRecDepth 100000
set_option maxHeartbeats 4000000
namespace Pk
open PySem PySem.Spec PyProof.Rows L2

/-! ## Calls of the text's own defs, methods, classes, static methods: one form each, what they raise goes to the caller's wish W at its slots -/
theorem fn_any {P : Program} {w : World} {K : PySem.W.Frag} {mg : Str → Option Value} {base : Heap} {CX : CXT} {k : Nat} {f : Addr} {fd : FuncData} {ps : List Str} {sp : Sp} (F : FnOk P w K mg base CX0 k f fd ps sp) : FnOk P w K mg base CX k f fd ps sp :=
  ⟨F.len, fun A outer s H args us vs Q E hr e0 hb r h => codeAny_mono (F.run A outer s H args us vs Q E hr e0 hb r h) fun r s' q => by
    cases r with
    | ok fl => cases fl <;> exact q
    | error e => exact q.elim⟩

/-- a def at f with its parameters ps, the last of them with the defaults dvs -/
structure Fd (P : Program) (w : World) (K : PySem.W.Frag) (mg : Str → Option Value) (base : Heap) (k : Nat) (f : Addr) (sp : Sp) (dvs : List V) : Prop where
  ex : ∃ (fd : FuncData) (ps : List Str) (ds : List Value), FnG P w K mg base k f fd ps sp ∧ Binds K fd ps ds ∧ Vals dvs ds
  kp : PySem.W.keepIn K (.ref f) = true
/-- a def of the module, called x -/
structure GF (P : Program) (w : World) (K : PySem.W.Frag) (mg : Str → Option Value) (base : Heap) (k : Nat) (x : Str) (sp : Sp) (dvs : List V) : Prop where
  ex : ∃ f, mg x = some (.ref f) ∧ Fd P w K mg base k f sp dvs
/-- a method m of the class at C -/
structure GM (P : Program) (w : World) (K : PySem.W.Frag) (mg : Str → Option Value) (base : Heap) (k : Nat) (C : Addr) (m : Str) (sp : Sp) (dvs : List V) : Prop where
  cl : Cls K C
  ex : ∃ f, Meth K C m f ∧ Fd P w K mg base k f sp dvs
/-- a class called x, at C, by its __init__ -/
structure GC (P : Program) (w : World) (K : PySem.W.Frag) (mg : Str → Option Value) (base : Heap) (k : Nat) (x : Str) (C : Addr) (sp : Sp) (dvs : List V) : Prop where
  gl : mg x = some (.ref C)
  ex : ∃ f, Mk K C f ∧ Fd P w K mg base k f sp dvs
/-- a static method m of the class called x, at C -/
structure GS (P : Program) (w : World) (K : PySem.W.Frag) (mg : Str → Option Value) (base : Heap) (k : Nat) (x : Str) (C : Addr) (m : Str) (sp : Sp) (dvs : List V) : Prop where
  gl : mg x = some (.ref C)
  ex : ∃ (mc : Value) (p f : Addr) (rest : List Value), ClX.CRead K C mc ∧ PySem.W.findCls K (.ref C) mc m = some (.get (.builtin "staticmethod.__get__") (.ref p) .none (.ref C)) ∧ PySem.W.recIn K p "staticmethod" = some (.ref f :: rest) ∧ Fd P w K mg base k f sp dvs

section
variable {X : Cx} {k : Nat} {f C : Addr} {sp : Sp} {dvs : List V} {W : WX} {x m : Str} {p pos apos p2 : Pos} {e o : Expr} {es : List Expr} {ta : TE} {t : TA}
theorem run_fd {pins : List (Addr × Obj)} {σ : L2.St} {H : Hp} {s : Shared} {Q : VK} {us : List Value} {vs : List V} (F : Fd X.prog X.w X.K X.mg X.base k f sp dvs) (hr : Rm k X.A) (tk : Takes X W)
    (I : Inv X pins σ H s) (r : Vals vs us) (h : sp (vs ++ dvs) H Q (WE W σ)) : wpAny (model X.prog X.w) X.A (call (.ref f) us) (EP X pins σ Q) X.xe s := by
  obtain ⟨fd, ps, ds, G, hb, hd⟩ := F.ex
  have r2 : Vals (vs ++ dvs) (us ++ ds) := r.append hd
  have hl : (us ++ ds).length = ps.length := by rw [← r2.length]; exact G.len _ _ _ _ h
  refine wpAny_call (codeAny_mono (G.run X.A X.stack s H ⟨us, []⟩ (us ++ ds) (vs ++ dvs) Q (WE W σ) hr I.env0 (hb s us I.kIn hl) r2 h) fun r s' hq => ?_)
  cases r with
  | error e => exact passAt tk σ pins H s e s' I hq
  | ok fl =>
    cases fl with
    | ret u => exact I.after hq
    | next => exact False.elim hq
    | brk => exact False.elim hq
    | cont => exact False.elim hq
/-- the same with keywords: names ks, g puts the values in the parameters' order -/
structure FdK (P : Program) (w : World) (K : PySem.W.Frag) (mg : Str → Option Value) (base : Heap) (k : Nat) (f : Addr) (sp : Sp) (ks : List Str) (gV : List V → List V → List V) : Prop where
  ex : ∃ (fd : FuncData) (ps : List Str) (g : List Value → List Value → List Value), FnG P w K mg base k f fd ps sp ∧ KBinds K fd ps ks g gV
  kp : PySem.W.keepIn K (.ref f) = true
theorem run_fdK {pins : List (Addr × Obj)} {σ : L2.St} {H : Hp} {s : Shared} {Q : VK} {us ws : List Value} {vs zs : List V} {ks : List Str} {gV : List V → List V → List V} (F : FdK X.prog X.w X.K X.mg X.base k f sp ks gV) (hr : Rm k X.A) (tk : Takes X W)
    (I : Inv X pins σ H s) (r : Vals vs us) (rz : Vals zs ws) (h : sp (gV vs zs) H Q (WE W σ)) : wpAny (model X.prog X.w) X.A (call (.ref f) us (ks.zip ws)) (EP X pins σ Q) X.xe s := by
  obtain ⟨fd, ps, g, G, hb⟩ := F.ex
  have r2 := hb.rel r rz
  have hl : (g us ws).length = ps.length := by rw [← r2.length]; exact G.len _ _ _ _ h
  refine wpAny_call (codeAny_mono (G.run X.A X.stack s H ⟨us, ks.zip ws⟩ (g us ws) (gV vs zs) Q (WE W σ) hr I.env0 (hb.to s us ws I.kIn hl) r2 h) fun r s' hq => ?_)
  cases r with
  | error e => exact passAt tk σ pins H s e s' I hq
  | ok fl =>
    cases fl with
    | ret u => exact I.after hq
    | next => exact False.elim hq
    | brk => exact False.elim hq
    | cont => exact False.elim hq
/-- f(e, ..) -/
theorem pe_gf (G : GF X.prog X.w X.K X.mg X.base k x sp dvs) (hr : Rm k X.A) (tk : Takes X W) (hg : Gl X x) (ha : PA X (e :: es) t) (hdb : (x == ("__debug__" : Str)) = false := by decide)
    (he : starEach (e :: es) X.env = (false, eval e X.env) :: starEach es X.env := by rfl) (hpl : (backTo pos (starEach es X.env)).any (·.1) = false := by rfl) : PE X (.Call (.Name x p) (e :: es) [] pos) (tCallSD sp dvs (WE W) t) := by
  obtain ⟨f, hm, F⟩ := G.ex
  refine ⟨fun pins s σ H Q I h => ?_⟩
  refine wpAny_Call_Name_kw (ld_glob I hg hm ?_ hdb)
  refine PySem.W.callWith_K (h₀ := X.base) I.ok.mod.kin F.kp (thn (ha.run pos pins s σ H _ I h) fun us s1 ⟨vs, H1, I1, r, q⟩ => ⟨I1.kIn, ?_⟩) he hpl
  exact run_fd F hr tk I1 r q
/-- o.m(e, ..), o.m() -/
def tGM (C : Addr) (m : Str) (sp : Sp) (dvs : List V) (W : WX) (ta : TE) (t : TA) : TE := fun σ H Q => ta σ H fun x H1 => ∃ a dx fs, x = .ref a ∧ H1 a = some (.ins C dx fs) ∧ fs.lookup m = none ∧ t σ H1 fun vs H2 => sp (x :: (vs ++ dvs)) H2 Q (WE W σ)
theorem pe_gm {pl : Sem Bool} (he : PE X o ta) (G : GM X.prog X.w X.K X.mg X.base k C m sp dvs) (hr : Rm k X.A) (tk : Takes X W) (ha : PA X (e :: es) t)
    (hst : starEach (e :: es) X.env = (false, eval e X.env) :: starEach es X.env := by rfl) (hpl : (backTo pos (starEach es X.env)).any (·.1) = false := by rfl)
    (ht : eval (.Call (.Attribute o m apos) (e :: es) [] pos) X.env = (do
      let ov ← eval o X.env
      standAt apos.atName
      let (f, first) ← holding [ov] (getMethod ov m pl)
      callWith pos f first (backTo pos (starEach (e :: es) X.env)) (backToKw pos (keywordEach [] X.env))) := by rfl) :
    PE X (.Call (.Attribute o m apos) (e :: es) [] pos) (tGM C m sp dvs W ta t) := by
  obtain ⟨f, hm, F⟩ := G.ex
  refine ⟨fun pins s σ H Q I h => ?_⟩
  refine PySem.W.methodCall_KW (pl := pl) (thn (he.run pins s σ H _ I h) fun u s1 ⟨x, H1, I1, rx, a, dx, fs, ex, ea, l, q⟩ => ?_) ht
  subst ex
  obtain rfl : u = Value.ref a := rx
  refine getmeth_ok I1 ea G.cl hm l ?_
  refine PySem.W.callWith_K (first := [.ref a]) (h₀ := X.base) I.ok.mod.kin hm.kp (thn (ha.run pos pins s1 σ H1 _ I1 q) fun us s2 ⟨vs, H2, I2, r, q2⟩ => ⟨I2.kIn, ?_⟩) hst hpl
  exact run_fd (us := .ref a :: us) (vs := .ref a :: vs) F hr tk I2 (.cons rfl r) q2
theorem pe_gm0 {pl : Sem Bool} (he : PE X o ta) (G : GM X.prog X.w X.K X.mg X.base k C m sp dvs) (hr : Rm k X.A) (tk : Takes X W)
    (ht : eval (.Call (.Attribute o m apos) [] [] pos) X.env = (do
      let ov ← eval o X.env
      standAt apos.atName
      let (f, first) ← holding [ov] (getMethod ov m pl)
      callWith pos f first (backTo pos (starEach [] X.env)) (backToKw pos (keywordEach [] X.env))) := by rfl) :
    PE X (.Call (.Attribute o m apos) [] [] pos) (tGM C m sp dvs W ta tNil) := by
  obtain ⟨f, hm, F⟩ := G.ex
  refine ⟨fun pins s σ H Q I h => ?_⟩
  refine PySem.W.methodCall_KW (pl := pl) (thn (he.run pins s σ H _ I h) fun u s1 ⟨x, H1, I1, rx, a, dx, fs, ex, ea, l, q⟩ => ?_) ht
  subst ex
  obtain rfl : u = Value.ref a := rx
  refine getmeth_ok I1 ea G.cl hm l ?_
  exact PySem.W.callWith_K0 (first := [.ref a]) I1.kIn hm.kp (run_fd (us := [.ref a]) (vs := [.ref a]) F hr tk I1 (.cons rfl .nil) q)
/-- C(e, ..) -/
def tGC (C : Addr) (sp : Sp) (dvs : List V) (W : WX) (t : TA) : TE := fun σ H Q => t σ H fun vs H1 => ∀ x dx, H1 x = none → H1 dx = none → dx ≠ x → sp (.ref x :: (vs ++ dvs)) (upd (upd H1 dx (.own x)) x (.ins C dx [])) (fun v H2 => v = .non ∧ Q (.ref x) H2) (WE W σ)
theorem run_mk {pins : List (Addr × Obj)} {σ : L2.St} {H : Hp} {s : Shared} {Q : VK} {us : List Value} {vs : List V} (M : Mk X.K C f) (F : Fd X.prog X.w X.K X.mg X.base k f sp dvs) (hr : Rm (k + 1) X.A) (tk : Takes X W) (I : Inv X pins σ H s) (r : Vals vs us)
    (h : ∀ x dx, H x = none → H dx = none → dx ≠ x → sp (.ref x :: (vs ++ dvs)) (upd (upd H dx (.own x)) x (.ins C dx [])) (fun v H2 => v = .non ∧ Q (.ref x) H2) (WE W σ)) :
    wpAny (model X.prog X.w) X.A (call (.ref C) us) (EP X pins σ Q) X.xe s := by
  obtain ⟨fd, ps, ds, G, hb, hd⟩ := F.ex
  have hq := h (s.heap.objs.size + 1) s.heap.objs.size (I.hok.fresh (Nat.le_succ _)) (I.hok.fresh (Nat.le_refl _)) (Nat.ne_of_lt (Nat.lt_succ_self _))
  have I2 := Inv.made (C := C) I
  have r2 : Vals (V.ref (s.heap.objs.size + 1) :: (vs ++ dvs)) (Value.ref (s.heap.objs.size + 1) :: (us ++ ds)) := .cons rfl (r.append hd)
  have hl : (Value.ref (s.heap.objs.size + 1) :: us ++ ds).length = ps.length := by
    have e := r2.length
    rw [G.len _ _ _ _ hq] at e
    exact e.symm
  refine wpAny_call (make_map (f := f) I.kIn M.makes M.init (beq_iff_eq.mp M.fn) (codeAny_mono (G.run _ X.stack _ _ ⟨Value.ref (s.heap.objs.size + 1) :: us, []⟩ (Value.ref (s.heap.objs.size + 1) :: (us ++ ds)) _ _ (WE W σ) (hr.make C us [])
    (I2.env0.make C us []) (hb _ (Value.ref (s.heap.objs.size + 1) :: us) I2.kIn hl) r2 hq) fun r s' hq' => ?_))
  cases r with
  | error e => exact passAt tk σ pins _ _ e s' I2 hq'
  | ok fl =>
    cases fl with
    | ret u =>
      obtain ⟨v, H', I3, rv, ev, q3⟩ := I2.after hq'
      subst ev
      exact ⟨rv, ⟨V.ref (s.heap.objs.size + 1), H', I3, rfl, q3⟩⟩
    | next => exact False.elim hq'
    | brk => exact False.elim hq'
    | cont => exact False.elim hq'
theorem pe_gc (G : GC X.prog X.w X.K X.mg X.base k x C sp dvs) (hr : Rm (k + 1) X.A) (tk : Takes X W) (hg : Gl X x) (ha : PA X (e :: es) t) (hdb : (x == ("__debug__" : Str)) = false := by decide)
    (he : starEach (e :: es) X.env = (false, eval e X.env) :: starEach es X.env := by rfl) (hpl : (backTo pos (starEach es X.env)).any (·.1) = false := by rfl) : PE X (.Call (.Name x p) (e :: es) [] pos) (tGC C sp dvs W t) := by
  obtain ⟨f, M, F⟩ := G.ex
  refine ⟨fun pins s σ H Q I h => ?_⟩
  refine wpAny_Call_Name_kw (ld_glob I hg G.gl ?_ hdb)
  refine PySem.W.callWith_K (h₀ := X.base) I.ok.mod.kin M.kp (thn (ha.run pos pins s σ H _ I h) fun us s1 ⟨vs, H1, I1, r, q⟩ => ⟨I1.kIn, ?_⟩) he hpl
  exact run_mk M F hr tk I1 r q
/-- C.m(e, ..), m a static method -/
theorem getsm_ok {pins : List (Addr × Obj)} {σ : L2.St} {H : Hp} {s : Shared} {A : Around} {E : Value → Shared → Prop} {pl : Sem Bool} {mc : Value} {q : Addr} {rest : List Value} {Q : Value × List Value → Shared → Prop} (I : Inv X pins σ H s) (r : ClX.CRead X.K C mc)
    (h1 : PySem.W.findCls X.K (.ref C) mc m = some (.get (.builtin "staticmethod.__get__") (.ref q) .none (.ref C))) (h2 : PySem.W.recIn X.K q "staticmethod" = some (.ref f :: rest)) (h : ∀ s', Inv X pins σ H s' → Q (.ref f, []) s') :
    wpAny (model X.prog X.w) A (getMethod (.ref C) m pl) Q E s :=
  PySem.W.method_cls I.kIn r.ga (PySem.W.cls_bind I.kIn r.rd h1 (wpAny_call (PySem.W.sm_get (s := { s with toks := s.toks + 1 }) I.kIn h2 (PySem.W.handed_on rfl (h _ (I.tok _))))))
theorem pe_gs {pl : Sem Bool} (G : GS X.prog X.w X.K X.mg X.base k x C m sp dvs) (hr : Rm k X.A) (tk : Takes X W) (hg : Gl X x) (ha : PA X (e :: es) t) (hdb : (x == ("__debug__" : Str)) = false := by decide)
    (hst : starEach (e :: es) X.env = (false, eval e X.env) :: starEach es X.env := by rfl) (hpl : (backTo pos (starEach es X.env)).any (·.1) = false := by rfl)
    (ht : eval (.Call (.Attribute (.Name x p2) m apos) (e :: es) [] pos) X.env = (do
      let ov ← eval (.Name x p2) X.env
      standAt apos.atName
      let (f, first) ← holding [ov] (getMethod ov m pl)
      callWith pos f first (backTo pos (starEach (e :: es) X.env)) (backToKw pos (keywordEach [] X.env))) := by rfl) :
    PE X (.Call (.Attribute (.Name x p2) m apos) (e :: es) [] pos) (tCallSD sp dvs (WE W) t) := by
  obtain ⟨mc, q, f, rest, r, h1, h2, F⟩ := G.ex
  refine ⟨fun pins s σ H Q I h => ?_⟩
  refine PySem.W.methodCall_KW (pl := pl) (ld_glob I hg G.gl ?_ hdb) ht
  refine getsm_ok I r h1 h2 fun s1 I1 => ?_
  refine PySem.W.callWith_K (first := []) (h₀ := X.base) I.ok.mod.kin F.kp (thn (ha.run pos pins s1 σ H _ I1 h) fun us s2 ⟨vs, H2, I2, r, q2⟩ => ⟨I2.kIn, ?_⟩) hst hpl
  exact run_fd F hr tk I2 r q2
/-- a static method m of the class called x, at C, called with keywords alone -/
structure GSK (P : Program) (w : World) (K : PySem.W.Frag) (mg : Str → Option Value) (base : Heap) (k : Nat) (x : Str) (C : Addr) (m : Str) (sp : Sp) (ks : List Str) (gV : List V → List V → List V) : Prop where
  gl : mg x = some (.ref C)
  ex : ∃ (mc : Value) (p f : Addr) (rest : List Value), ClX.CRead K C mc ∧ PySem.W.findCls K (.ref C) mc m = some (.get (.builtin "staticmethod.__get__") (.ref p) .none (.ref C)) ∧ PySem.W.recIn K p "staticmethod" = some (.ref f :: rest) ∧ FdK P w K mg base k f sp ks gV
def tGSK (sp : Sp) (gV : List V → List V → List V) (W : WX) (t : TA) : TE := fun σ H Q => t σ H fun zs H1 => sp (gV [] zs) H1 Q (WE W σ)
theorem pe_gsK {pl : Sem Bool} {kws : List Keyword} {ks : List Str} {gV : List V → List V → List V} (G : GSK X.prog X.w X.K X.mg X.base k x C m sp ks gV) (hr : Rm k X.A) (tk : Takes X W) (hg : Gl X x) (ha : PK X kws t) (hdb : (x == ("__debug__" : Str)) = false := by decide)
    (hall : (backToKw pos (keywordEach kws X.env)).all (·.1.isSome) = true := by rfl) (hks : (backToKw pos (keywordEach kws X.env)).filterMap (·.1) = ks := by rfl)
    (hpl : ((backTo pos (starEach [] X.env)).any (·.1) || (backToKw pos (keywordEach kws X.env)).any (·.1.isNone)) = false := by rfl)
    (ht : eval (.Call (.Attribute (.Name x p2) m apos) [] kws pos) X.env = (do
      let ov ← eval (.Name x p2) X.env
      standAt apos.atName
      let (f, first) ← holding [ov] (getMethod ov m pl)
      callWith pos f first (backTo pos (starEach [] X.env)) (backToKw pos (keywordEach kws X.env))) := by rfl) :
    PE X (.Call (.Attribute (.Name x p2) m apos) [] kws pos) (tGSK sp gV W t) := by
  obtain ⟨mc, q, f, rest, r, h1, h2, F⟩ := G.ex
  refine ⟨fun pins s σ H Q I h => ?_⟩
  refine PySem.W.methodCall_KW (pl := pl) (ld_glob I hg G.gl ?_ hdb) ht
  refine getsm_ok I r h1 h2 fun s1 I1 => ?_
  refine PySem.W.callWith_KW0 (first := []) (h₀ := X.base) I.ok.mod.kin F.kp hall (thn (ha.run pos pins s1 σ H _ I1 h) fun ws s2 ⟨zs, H2, I2, rz, q2⟩ => ⟨I2.kIn, ?_⟩) hpl
  rw [hks]
  exact run_fdK (us := []) (vs := []) F hr tk I2 .nil rz q2
end
end Pk

/-! # PkOwn -/
set_option Elab.async false
set_option linter.all false
set_option maxRecDepth 100000
set_option maxHeartbeats 4000000
namespace Pk
open PySem PySem.Spec PyProof.Rows L2

/-! ## Operators and built-ins that an own class answers: nothing is raised -/
section
variable {X : Cx} {k : Nat} {f C : Addr} {sp : Sp}
theorem passes0 : Passes (CX X.prog X.w) X E0 := fun _ _ _ _ _ _ _ ⟨_, _, _, _, _, _, _, _, _, _, _, _, z⟩ => z.elim
/-- the def at f is called in another room -/
theorem run_fdA {pins : List (Addr × Obj)} {σ : L2.St} {H : Hp} {s : Shared} {Q : VK} {us : List Value} {vs : List V} {A : Around} {R : Value → Shared → Prop} (F : Fd X.prog X.w X.K X.mg X.base k f sp []) (hr : Rm k A)
    (e0 : Env0 X.prog X.w X.K X.mg X.base A X.stack s H) (I : Inv X pins σ H s) (r : Vals vs us) (h : sp vs H Q E0) (hq : ∀ u s', EP X pins σ Q u s' → R u s') : wpAny (model X.prog X.w) A (call (.ref f) us) R X.xe s := by
  obtain ⟨fd, ps, ds, G, hb, hd⟩ := F.ex
  cases hd
  have hl : (us ++ []).length = ps.length := by rw [List.append_nil, ← r.length]; exact G.len _ _ _ _ h
  refine wpAny_call (codeAny_mono (G.run A X.stack s H ⟨us, []⟩ us vs Q E0 hr e0 (by have := hb s us I.kIn hl; rwa [List.append_nil] at this) r h) fun r s' q => ?_)
  cases r with
  | error e =>
    obtain ⟨_, _, _, _, _, _, _, _, _, _, _, _, z⟩ := q
    exact z.elim
  | ok fl =>
    cases fl with
    | ret u => exact hq u s' (I.after q)
    | next => exact False.elim q
    | brk => exact False.elim q
    | cont => exact False.elim q
/-- an instance's method m by the def at f, for an operator -/
structure OM (P : Program) (w : World) (K : PySem.W.Frag) (mg : Str → Option Value) (base : Heap) (k : Nat) (C : Addr) (m : Str) (sp : Sp) : Prop where
  ex : ∃ f, PySem.W.findIn K (.ref C) m = some (some (.ref f)) ∧ PySem.W.isFn K (.ref f) = true ∧ Fd P w K mg base k f sp []
theorem GM.om {P : Program} {w : World} {K : PySem.W.Frag} {mg : Str → Option Value} {base : Heap} {k : Nat} {C : Addr} {m : Str} {sp : Sp} (G : GM P w K mg base k C m sp []) : OM P w K mg base k C m sp :=
  let ⟨f, hm, F⟩ := G.ex
  ⟨f, hm.at_, hm.fn, F⟩
/-- x == y, x an instance of C -/
def rEqO (K : PySem.W.Frag) (C : Addr) (sp : Sp) : R2 := fun x y H Q => ∃ a dx fs t, x = .ref a ∧ H a = some (.ins C dx fs) ∧ TyX K H y t ∧ PySem.W.notFirst K C t = true ∧ sp [x, y] H Q E0
theorem op_cmpO {op : CmpOp} (hop : ∀ a b, compareOp op a b = richCompare op a b) (G : OM X.prog X.w X.K X.mg X.base k C (cmpInfo op).2.1 sp) (hr : Rm k X.A) : OpR X (compareOp op) (rEqO X.K C sp) := by
  obtain ⟨f, hs, hf, F⟩ := G.ex
  intro pins s σ H x y v u Q I rx ry h
  obtain ⟨a, dx, fs, t, rfl, ea, ty, hn, q⟩ := h
  cases (show v = Value.ref a from rx)
  obtain ⟨mA, O, _⟩ := ins_get I.hok ea
  obtain ⟨od, J, _⟩ := O.look
  obtain ⟨P, Z, p, _⟩ := kit_of I ry ty
  obtain ⟨m, hF⟩ := I.fr
  rw [hop]
  refine PySem.W.cmp_K (op := op) (tb := t) hr.r.units0 hF I.ok.mod.kin J (Z.ty _ _ I.kIn p) hn hs hf ?_
  refine run_fdA (us := [.ref a, u]) (vs := [.ref a, y]) F hr I.env0 I (.cons rfl (.cons ry .nil)) q fun w s' z => ?_
  obtain ⟨z', H', I', rz, qz⟩ := z
  exact SlX.cmpback rz ⟨z', H', I', rz, qz⟩
theorem op_eqO (G : OM X.prog X.w X.K X.mg X.base k C "__eq__" sp) (hr : Rm k X.A) : OpR X (compareOp .Eq) (rEqO X.K C sp) := op_cmpO (op := .Eq) (fun _ _ => rfl) G hr
/-- str(x), repr(x), x an instance of C -/
def rStrO (C : Addr) (sp : Sp) : List V → Hp → VK → Prop := fun xs H Q => ∃ a dx fs, xs = [.ref a] ∧ H a = some (.ins C dx fs) ∧ sp [.ref a] H (fun v H' => (∃ z, v = .str z) ∧ Q v H') E0
theorem call_strO (G : OM X.prog X.w X.K X.mg X.base k C "__str__" sp) (hr : Rm (k + 2) X.A) : CallR X (.type "str") (rStrO C sp) := by
  obtain ⟨f, hs, hf, F⟩ := G.ex
  intro pins s σ H xs us Q I r h
  obtain ⟨a, dx, fs, rfl, ea, q⟩ := h
  cases r with
  | cons ra rn =>
    cases rn
    rename_i ua
    obtain rfl : ua = Value.ref a := ra
    obtain ⟨mA, O, _⟩ := ins_get I.hok ea
    obtain ⟨od, J, _⟩ := O.look
    refine PySem.W.kso_call (hr.in1.in1.r.units0) I.kIn J hs hf ?_
    refine run_fdA (us := [.ref a]) (vs := [.ref a]) F (hr.in1.in1) I.env0.in1.in1 I (.cons rfl .nil) q fun w s' z => ?_
    obtain ⟨z', H', I', rz, ⟨y, ey⟩, qz⟩ := z
    subst ey
    obtain ⟨tk, rfl⟩ := (show ∃ t, w = Value.str y t from rz)
    exact ⟨_, H', I', rz, qz⟩
theorem call_reprO (G : OM X.prog X.w X.K X.mg X.base k C "__repr__" sp) (hr : Rm (k + 1) X.A) : CallR X (.builtin "repr") (rStrO C sp) := by
  obtain ⟨f, hs, hf, F⟩ := G.ex
  intro pins s σ H xs us Q I r h
  obtain ⟨a, dx, fs, rfl, ea, q⟩ := h
  cases r with
  | cons ra rn =>
    cases rn
    rename_i ua
    obtain rfl : ua = Value.ref a := ra
    obtain ⟨mA, O, _⟩ := ins_get I.hok ea
    obtain ⟨od, J, _⟩ := O.look
    obtain ⟨m, hF⟩ := I.fr
    refine PySem.W.repr_K (hr.in1.r.units0) hF I.ok.mod.kin J hs hf ?_
    refine run_fdA (us := [.ref a]) (vs := [.ref a]) F hr.in1 I.env0.in1 I (.cons rfl .nil) q fun w s' z => ?_
    obtain ⟨z', H', I', rz, ⟨y, ey⟩, qz⟩ := z
    subst ey
    obtain ⟨tk, rfl⟩ := (show ∃ t, w = Value.str y t from rz)
    exact ⟨_, H', I', rz, qz⟩
end
end Pk

/-! # PkRepr -/
set_option Elab.async false
set_option linter.all false
set_option maxRecDepth 100000
set_option maxHeartbeats 4000000
namespace Pk
open PySem PySem.Spec PyProof.Rows L2

/-! ## repr of plain data of any depth -/
def rReprD (K : PySem.W.Frag) : List V → Hp → VK → Prop := fun xs H Q => ∃ (x : V) (d : PyData), xs = [x] ∧ Dp K H x d ∧ d.showable = true ∧ d.hasDict = false ∧ d.depth ≤ 50 ∧ d.shown.length ≤ sizeLine ∧ Q (.str d.shown) H
theorem call_reprD {X : Cx} {k : Nat} (hr : Rm k X.A) : CallR X (.builtin "repr") (rReprD X.K) := by
  intro pins s σ H xs us Q I r h
  obtain ⟨x, d, rfl, hd, hs, hnd, hdp, hz, q⟩ := h
  cases r with
  | cons rx rn =>
    cases rn
    rename_i u
    have hu : X.A.units + (d.depth + 1) < cLine := by have := hr.r.un; omega
    have ref : ∀ {a : Addr}, u = .ref a → wpAny (model X.prog X.w) X.A (call (.builtin "repr") [u]) (EP X pins σ Q) X.xe s := fun {a} e => by
      subst e
      obtain ⟨as, rd⟩ := Dp.reads I d x _ hd rx
      exact repr_of_reads' (h₀ := s.heap) rd hs (PyData.noDict_hsm hnd) hr.g hu (fun _ _ e => e) (fun h' t tk k => ⟨.str d.shown, H, I.kept k, ⟨t, rfl⟩, q⟩) hz
    cases hd with
    | non =>
      cases (show u = Value.none from rx)
      exact PySem.P.repr_of_none ⟨.str _, H, I.tok _, ⟨_, rfl⟩, q⟩
    | bl b =>
      cases (show u = Value.bool b from rx)
      exact PySem.P.repr_of_bool ⟨.str _, H, I.tok _, ⟨_, by cases b <;> rfl⟩, q⟩
    | int i =>
      obtain ⟨t, rfl⟩ := (show ∃ t, u = Value.int i t from rx)
      exact PySem.P.repr_of_int (by simpa [PyData.showable] using hs) ⟨.str _, H, I.tok _, ⟨_, rfl⟩, q⟩
    | str y =>
      obtain ⟨t, rfl⟩ := (show ∃ t, u = Value.str y t from rx)
      exact PySem.P.repr_of_str (⟨.str _, H, I.tok _, ⟨_, rfl⟩, q⟩) hz
    | @lst a _ _ _ _ => exact ref (show u = Value.ref a from rx)
    | @tup a _ _ _ _ => exact ref (show u = Value.ref a from rx)
end Pk

/-! # PkEv -/
set_option Elab.async false
set_option linter.all false
set_option maxRecDepth 100000
set_option maxHeartbeats 4000000
namespace Pk
open PySem PyProof.Rows L2 Evl

/-! ## What readings come to (over HandS.Evl): more values, results told by a predicate -/
section
variable {K : PySem.W.Frag} {σ : L2.St} {H H' : Hp} {te ta tb tl : TE} {v x y z : V} {D : Ends} {tu tw tz : TS} {t : TT}
theorem ev_sl {a : Str} {lo hi : Option Int} {tlo thi : TO} (h : Ev te σ H (.str a)) (h1 : EvO tlo σ H lo) (h2 : EvO thi σ H hi) (hz : a.length ≤ sizeLine) : Ev (tSl C8.rSlX te tlo thi) σ H (.str (Txt.slice a lo hi)) := fun H1 e Q q =>
  h H1 e _ fun H2 e2 => h1 H2 (e.trans e2) _ fun H3 e3 => h2 H3 ((e.trans e2).trans e3) _ fun H4 e4 => ⟨a, rfl, hz, q H4 ((e2.trans e3).trans e4)⟩
theorem rc_lenS {a : Str} (hz : a.length ≤ sizeLine) : RC (fun xs H Q => ∃ z, xs = [V.str z] ∧ z.length ≤ sizeLine ∧ Q (.int z.length) H) [.str a] H (.int a.length) := fun H1 _ _ q => ⟨a, rfl, hz, q H1 (Ex.refl H1)⟩
theorem rc_lenL {p : Addr} {xs : List V} (h : SqL K H p xs ∨ SqT K H p xs) : RC (fun xs H Q => ∃ p ys, xs = [V.ref p] ∧ (SqL K H p ys ∨ SqT K H p ys) ∧ Q (.int ys.length) H) [.ref p] H (.int xs.length) := fun H1 e _ q =>
  ⟨p, xs, rfl, h.imp (ex_l e) (ex_t e), q H1 (Ex.refl H1)⟩
theorem rc_any {p : Addr} {bs : List Bool} (h : SqL K H p (bs.map V.bl)) : RC (rAny K) [.ref p] H (.bl (bs.any id)) := fun H1 e _ q => ⟨p, bs, rfl, ex_l e h, q H1 (Ex.refl H1)⟩
theorem rc_all {p : Addr} {bs : List Bool} (h : SqL K H p (bs.map V.bl)) : RC (rAll K) [.ref p] H (.bl (bs.all id)) := fun H1 e _ q => ⟨p, bs, rfl, ex_l e h, q H1 (Ex.refl H1)⟩
/-- any([..]), all([..]) of a new list -/
theorem ev_anyN {bs : List Bool} (h : EvL tl σ H (bs.map V.bl)) : Ev (tCB (rAny K) (tCons tl tNil)) σ H (.bl (bs.any id)) := fun H1 e Q q => h H1 e _ fun p H2 _ e2 hp => ⟨p, bs, rfl, sq_of hp, q H2 e2⟩
theorem ev_allN {bs : List Bool} (h : EvL tl σ H (bs.map V.bl)) : Ev (tCB (rAll K) (tCons tl tNil)) σ H (.bl (bs.all id)) := fun H1 e Q q => h H1 e _ fun p H2 _ e2 hp => ⟨p, bs, rfl, sq_of hp, q H2 e2⟩
theorem rc_intS {a : Str} {n : Int} (h : intText? a = some n) (hz : a.length ≤ 640) : RC (fun xs H Q => ∃ a n, xs = [V.str a] ∧ intText? a = some n ∧ a.length ≤ 640 ∧ Q (.int n) H) [.str a] H (.int n) := fun H1 _ _ q => ⟨a, n, rfl, h, hz, q H1 (Ex.refl H1)⟩
theorem rc_strI {n : Int} (h : n.natAbs.log2 < 1920) : RC (fun xs H Q => ∃ i : Int, xs = [V.int i] ∧ i.natAbs.log2 < 1920 ∧ Q (.str (toString i)) H) [.int n] H (.str (toString n)) := fun H1 _ _ q => ⟨n, rfl, h, q H1 (Ex.refl H1)⟩
theorem rc_int1 {n : Int} : RC (fun xs H Q => (∃ i, xs = [V.int i] ∧ Q (.int i) H) ∨ ∃ k : Bool, xs = [V.bl k] ∧ Q (.int (if k then 1 else 0)) H) [.int n] H (.int n) := fun H1 _ _ q => .inl ⟨n, rfl, q H1 (Ex.refl H1)⟩
theorem rc_abs {n : Int} : RC (fun xs H Q => ∃ i : Int, xs = [V.int i] ∧ Q (.int (if i < 0 then -i else i)) H) [.int n] H (.int (if n < 0 then -n else n)) := fun H1 _ _ q => ⟨n, rfl, q H1 (Ex.refl H1)⟩
theorem rc_gcd {a b : Int} : RC rGcd [.int a, .int b] H (.int ((Nat.gcd a.natAbs b.natAbs : Nat) : Int)) := fun H1 _ _ q => ⟨a, b, rfl, q H1 (Ex.refl H1)⟩
theorem rc_isi {c : V} {tv u : Value} {b : Bool} (hc : ClsV c u) (ht : ∀ H1, Ex H H1 → TyX K H1 x tv) (hk : PySem.W.kitOne K tv u = some b) : RC (rIsi K) [x, c] H (.bl b) := fun H1 e _ q => ⟨x, c, tv, u, b, rfl, hc, ht H1 e, hk, q H1 (Ex.refl H1)⟩
theorem rv_inS {c : Nat} {w : Str} : RV (fun x y H Q => ∃ (c : Nat) (z : Str), x = .str ⟨#[c]⟩ ∧ y = .str z ∧ Q (.bl (decide (c ∈ z.cps.toList))) H) (.str ⟨#[c]⟩) (.str w) H (.bl (decide (c ∈ w.cps.toList))) := fun H1 _ _ q => ⟨c, w, rfl, rfl, q H1 (Ex.refl H1)⟩
theorem rv_niS {c : Nat} {w : Str} : RV (fun x y H Q => ∃ (c : Nat) (z : Str), x = .str ⟨#[c]⟩ ∧ y = .str z ∧ Q (.bl (!decide (c ∈ z.cps.toList))) H) (.str ⟨#[c]⟩) (.str w) H (.bl (!decide (c ∈ w.cps.toList))) := fun H1 _ _ q => ⟨c, w, rfl, rfl, q H1 (Ex.refl H1)⟩
theorem rv_isN : RV (fun x y H Q => y = .non ∧ Q (.bl (decide (x = .non))) H) x .non H (.bl (decide (x = .non))) := fun H1 _ _ q => ⟨rfl, q H1 (Ex.refl H1)⟩
theorem rv_notN : RV (fun x y H Q => y = .non ∧ Q (.bl (!decide (x = .non))) H) x .non H (.bl (!decide (x = .non))) := fun H1 _ _ q => ⟨rfl, q H1 (Ex.refl H1)⟩
theorem rv_addS {a b : Str} (hz : a.length + b.length ≤ sizeLine) : RV (fun x y H Q => ∃ i j, x = .str i ∧ y = .str j ∧ i.length + j.length ≤ sizeLine ∧ Q (.str (i ++ j)) H) (.str a) (.str b) H (.str (a ++ b)) := fun H1 _ _ q => ⟨a, b, rfl, rfl, hz, q H1 (Ex.refl H1)⟩
theorem ev_fld {a C dx : Addr} {fs : List (Str × V)} {f : Str} (h : Ev ta σ H (.ref a)) (ho : H a = some (.ins C dx fs)) (hc : Cls K C) (hn : NoAttr K C f) (hl : fs.lookup f = some v) : Ev (tFld K ta f) σ H v := fun H1 e Q q =>
  h H1 e _ fun H2 e2 => ⟨a, C, dx, fs, v, rfl, e2 _ _ (e _ _ ho), hc, hn, hl, q H2 e2⟩
/-- a call of one's own def whose value is z -/
theorem ev_gf {sp : Sp} {dvs vs : List V} {E : L2.St → XK} {tA : TA} (h : EvA tA σ H vs) (hs : SpV sp (vs ++ dvs) H z) : Ev (tCallSD sp dvs E tA) σ H z := fun H1 e Q q =>
  h H1 e _ fun H2 e2 => hs H2 (e.trans e2) Q (fun H3 e3 => q H3 (e2.trans e3)) (E σ)
/-- a comprehension over a text -/
theorem el_lcS {a : Str} {j : Nat} {vs : List Nat} (f : Nat → Bool) (g : Nat → V) (h : Ev tl σ H (.str a)) (hz : a.cps.size ≤ 40000) (hw : ∀ x, wipe ((wipe σ vs).set j (some x)) vs = wipe σ vs)
    (ht : ∀ (i c : Nat) H1, Ex H H1 → a.cps[i]? = some c → EvT t ((wipe σ vs).set j (some (.str ⟨#[c]⟩))) H1 (f i)) (he : ∀ (i c : Nat) H1, Ex H H1 → a.cps[i]? = some c → f i = true → Ev te ((wipe σ vs).set j (some (.str ⟨#[c]⟩))) H1 (g i)) :
    EvL (tLc (iStr tl) (gName j) t te vs) σ H (given a.cps.size f g) := fun H0 e Q q => h H0 e _ fun H1 e1 => ⟨a, rfl, fun Dl hD =>
  lc_it (n := a.cps.size) walk_str (Cw H1 f g Dl) ⟨hD, Ex.new hD, upd_same⟩ (fun _ _ _ _ => True.intro) (fun i x H2 H3 hi p hy => by
    obtain ⟨rfl, c, hc, rfl⟩ := hy
    exact ⟨hw _, cw_turn p (by omega) (ht i c H1 (e.trans e1) hc) (fun hf => he i c H1 (e.trans e1) hc hf)⟩)
    (fun H' p => q Dl H' (fresh_back e1 p.1) (e1.trans p.2.1) p.2.2)⟩
theorem given_all {n : Nat} {g : Nat → V} : given n (fun _ => true) g = (List.range n).map g := by
  unfold given
  rw [List.filter_eq_self.mpr (fun _ _ => rfl)]
theorem range_map {l : List Nat} {g : Nat → V} : (List.range l.length).map (fun i => g (l.getD i 0)) = l.map g := by
  apply List.ext_getElem
  · simp
  · intro i h1 h2
    simp at h1 h2
    simp [List.getD_eq_getElem?_getD, h1]
/-- .. [g(c) for c in text] -/
theorem el_lcS1 {l : List Nat} {j : Nat} {vs : List Nat} (g : Nat → V) (h : Ev tl σ H (.str (SX.S l))) (hz : l.length ≤ 40000) (hw : ∀ x, wipe ((wipe σ vs).set j (some x)) vs = wipe σ vs)
    (he : ∀ (c : Nat) H1, Ex H H1 → c ∈ l → Ev te ((wipe σ vs).set j (some (.str (SX.S [c])))) H1 (g c)) : EvL (tLc (iStr tl) (gName j) tYes te vs) σ H (l.map g) := by
  have hsz : (SX.S l).cps.size = l.length := by simp [SX.S]
  have e0 := el_lcS (te := te) (t := tYes) (a := SX.S l) (j := j) (vs := vs) (fun _ => true) (fun i => g (l.getD i 0)) h (by rw [hsz]; exact hz) hw (fun i c H1 _ _ H2 _ Q q => q H2 (Ex.refl H2)) (fun i c H1 e hc _ => by
    have hc' : l[i]? = some c := by simpa [SX.S] using hc
    have e1 : l.getD i 0 = c := by rw [List.getD_eq_getElem?_getD, hc']; rfl
    show Ev te _ H1 (g (l.getD i 0))
    rw [e1]
    exact he c H1 e (List.mem_of_getElem? hc'))
  rw [given_all, hsz, range_map] at e0
  exact e0

/-! ### results told by a predicate -/
def EvP (te : TE) (σ : L2.St) (H : Hp) (P : V → Hp → Prop) : Prop := ∀ H1, Ex H H1 → ∀ Q : VK, (∀ v H2, Ex H1 H2 → P v H2 → Q v H2) → te σ H1 Q
def SpP (sp : Sp) (vs : List V) (H : Hp) (P : V → Hp → Prop) : Prop := ∀ H1, Ex H H1 → ∀ Q : VK, (∀ v H2, Ex H1 H2 → P v H2 → Q v H2) → ∀ E : XK, sp vs H1 Q E
variable {P : V → Hp → Prop}
theorem ep_gf {sp : Sp} {dvs vs : List V} {E : L2.St → XK} {tA : TA} (h : EvA tA σ H vs) (hs : SpP sp (vs ++ dvs) H P) : EvP (tCallSD sp dvs E tA) σ H P := fun H1 e Q q =>
  h H1 e _ fun H2 e2 => hs H2 (e.trans e2) Q (fun v H3 e3 p => q v H3 (e2.trans e3) p) (E σ)
theorem Ev.ep (h : Ev te σ H v) : EvP te σ H (fun x _ => x = v) := fun H1 e Q q => h H1 e Q fun H2 e2 => q v H2 e2 rfl
theorem ep_if {b : Bool} (h : EvT t σ H b) (h1 : b = true → EvP ta σ H P) (h2 : b = false → EvP tb σ H P) : EvP (tIf t ta tb) σ H P := fun H1 e Q q => h H1 e _ fun H2 e2 => by
  cases b with
  | true => exact iteT (h1 rfl H2 (e.trans e2) Q fun v H3 e3 p => q v H3 (e2.trans e3) p)
  | false => exact iteF (h2 rfl H2 (e.trans e2) Q fun v H3 e3 p => q v H3 (e2.trans e3) p)
theorem q_asgP {i : Nat} (h : EvP te σ H P) (k : ∀ v H1, Ex H H1 → P v H1 → tz D (σ.set i (some v)) H1) : tSeq (tAsg te (gName i)) tz D σ H := h H (Ex.refl H) _ fun v H1 e p => k v H1 e p
theorem s_retP (h : EvP te σ H P) (k : ∀ v H1, Ex H H1 → P v H1 → D.rt v H1) : tRet te D σ H := h H (Ex.refl H) _ k
end
theorem same_ex {H H' : Hp} : Same H H' ↔ Ex H H' := Iff.rfl
end Pk

/-! # PkEv2 -/
set_option Elab.async false
set_option linter.all false
set_option maxRecDepth 100000
set_option maxHeartbeats 4000000
namespace Pk
open PySem PyProof.Rows L2 Evl

/-! ## more readings: raises, fields, splits, negative divisors -/
/-- an error of the class C with these fields (last stored first) leaves -/
def Raises (C : Addr) (F : List (Str × V)) (H : Hp) (E : XK) : Prop := ∀ d H', Ex H H' → H d = none → H' d = some (.xd F) → E (.ref C) (some d) H'
theorem Raises.mono {C : Addr} {F : List (Str × V)} {H H1 : Hp} {E : XK} (h : Raises C F H E) (e : Ex H H1) : Raises C F H1 E := fun d H' e1 n q => h d H' (e.trans e1) (fresh_back e n) q
section
variable {K : PySem.W.Frag} {σ : L2.St} {H H' : Hp} {te ta tb tl : TE} {v x y z : V} {D : Ends} {tu tw tz : TS} {t : TT}
theorem s_raiseX {C : Addr} {fs : List Str} {vs : List V} {E : XK} {tA : TA} (h : EvA tA σ H vs) (hl : vs.length = fs.length) (k : Raises C (fs.zip vs).reverse H E) : tRaiseX C fs (fun cls d _ H => E cls d H) tA D σ H :=
  h H (Ex.refl H) _ fun H1 e1 => ⟨hl, fun d hd => k d _ (e1.trans (Ex.new hd)) (fresh_back e1 hd) upd_same⟩
/-- self.f = e -/
theorem q_fld {a C dx : Addr} {fs : List (Str × V)} {f : Str} (hv : Ev te σ H y) (h : Ev ta σ H (.ref a)) (ho : H a = some (.ins C dx fs)) (hc : Cls K C) (hn : NoAttr K C f) (hl : fs.length < 1000) (k : ∀ H1, Ex H H1 → tz D σ (upd H1 a (.ins C dx (putF f y fs)))) :
    tSeq (sFld K ta te f) tz D σ H := hv H (Ex.refl H) _ fun H1 e1 => h H1 e1 _ fun H2 e2 => ⟨a, C, dx, fs, rfl, (e1.trans e2) _ _ ho, hc, hn, hl, k H2 (e1.trans e2)⟩
theorem s_fld {a C dx : Addr} {fs : List (Str × V)} {f : Str} (hv : Ev te σ H y) (h : Ev ta σ H (.ref a)) (ho : H a = some (.ins C dx fs)) (hc : Cls K C) (hn : NoAttr K C f) (hl : fs.length < 1000) (k : ∀ H1, Ex H H1 → D.nx σ (upd H1 a (.ins C dx (putF f y fs)))) :
    sFld K ta te f D σ H := hv H (Ex.refl H) _ fun H1 e1 => h H1 e1 _ fun H2 e2 => ⟨a, C, dx, fs, rfl, (e1.trans e2) _ _ ho, hc, hn, hl, k H2 (e1.trans e2)⟩
theorem q_fldU {a C dx : Addr} {fs : List (Str × V)} {f : Str} {xs : List V} (hv : EvU te σ H xs) (h : Ev ta σ H (.ref a)) (ho : H a = some (.ins C dx fs)) (hc : Cls K C) (hn : NoAttr K C f) (hl : fs.length < 1000) (k : ∀ p H1, H p = none → Ex H H1 → H1 p = some (.tup xs) → tz D σ (upd H1 a (.ins C dx (putF f (.ref p) fs)))) :
    tSeq (sFld K ta te f) tz D σ H := hv H (Ex.refl H) _ fun p H1 hp e1 hq => h H1 e1 _ fun H2 e2 => ⟨a, C, dx, fs, rfl, (e1.trans e2) _ _ ho, hc, hn, hl, k p H2 hp (e1.trans e2) (e2 _ _ hq)⟩
/-- text.split(sep) -/
theorem el_split {a b : List Nat} (h : Ev ta σ H (.str (SX.S a))) (h2 : Ev tb σ H (.str (SX.S b))) (hb : b ≠ []) (hk : b.all (· < 256) = true) (hz : a.length ≤ 100000) :
    EvL (tM1 (fun x xs H Q => ∃ a b, x = .str a ∧ xs = [.str b] ∧ (b.length == 0) = false ∧ a.length + 2 ≤ sizeLine ∧ rNewStrs (Txt.split a b) H Q) ta tb) σ H ((TL.spl b 0 [] a).map fun w => V.str (SX.S w)) := fun H1 e Q q =>
  h H1 e _ fun H2 e2 => ⟨⟨_, rfl⟩, h2 H2 (e.trans e2) _ fun H3 e3 => ⟨SX.S a, SX.S b, rfl, rfl, by
    rw [SX.S_len]
    cases b with
    | nil => exact absurd rfl hb
    | cons _ _ => rfl, by
    rw [SX.S_len]
    have : 100002 ≤ sizeLine := by decide
    omega, fun p hp => by
    have := q p (upd H3 p (.lst ((TL.spl b 0 [] a).map fun w => V.str (SX.S w)))) (fresh_back (e2.trans e3) hp) ((e2.trans e3).trans (Ex.new hp)) upd_same
    rw [SX.split_S hb hk, List.map_map]
    exact this⟩⟩
/-- tuple(new list) -/
theorem eu_tuple {xs : List V} (h : EvL ta σ H xs) : EvU (tCB (fun xs H Q => ∃ p ys, xs = [V.ref p] ∧ ((SqL K H p ys ∧ ∀ l, H l = none → Q (.ref l) (upd H l (.tup ys))) ∨ (SqT K H p ys ∧ Q (.ref p) H))) (tCons ta tNil)) σ H xs := fun H1 e Q q =>
  h H1 e _ fun p H2 hp e2 h2 => ⟨p, xs, rfl, .inl ⟨sq_of h2, fun l hl => q l _ (fresh_back e2 hl) (e2.trans (Ex.new hl)) upd_same⟩⟩
end
/-- // by any divisor but 0 within 2 ^ 9000 -/
def CDivNW (_ j : Int) : Prop := j ≠ 0 ∧ j.natAbs.log2 < 9000
theorem op_fdivNW {X : Cx} : OpR X (binaryOp .FloorDiv) (rI CDivNW fun i j => .int (i.fdiv j)) := opI fun _ _ _ _ _ _ _ hc q => floordiv_int hc.1 q (.inl (PyProof.noPylong_of_log2 hc.2))
end Pk

/-! # PkBase -/
set_option Elab.async false
set_option linter.all false
set_option maxRecDepth 100000
set_option maxHeartbeats 4000000
namespace Pk
open PySem PyProof.Rows L2 Evl
/-! ### from K02a.lean -/
/-! ### plain functions -/
def isDig (c : Nat) : Bool := decide (48 ≤ c) && decide (c ≤ 57)
def plainOf (l : List Nat) : List Nat := if l.take 1 = [45] then l.drop 1 else l
def numIn (l : List Nat) : Option Int :=
  if plainOf l = [] ∨ 60 < (plainOf l).length ∨ (plainOf l).any (fun c => !isDig c) = true then none
  else if (plainOf l).take 1 = [48] ∧ l ≠ [48] then none
  else some (if l.take 1 = [45] then -((NumText.digitsVal (plainOf l) : Nat) : Int) else ((NumText.digitsVal (plainOf l) : Nat) : Int))
def numV : Option Int → V
  | none => .non
  | some n => .int n

/-- the built-ins that the text calls stand as they are -/
structure Bi (mg : Str → Option Value) : Prop where
  len : mg "len" = none
  isinstance : mg "isinstance" = none
  int : mg "int" = none
  bool : mg "bool" = none
  str : mg "str" = none
  any : mg "any" = none
  tuple : mg "tuple" = none
  repr : mg "repr" = none
  abs : mg "abs" = none
  range : mg "range" = none
  list : mg "list" = none
/-- the module's constants -/
structure Gl0 (mg : Str → Option Value) : Prop where
  LONGEST : ∃ u, mg "LONGEST" = some u ∧ RelV (.int 60) u
  FIGURES : ∃ u, mg "FIGURES" = some u ∧ RelV (.str "0123456789") u
  gcd : mg "gcd" = some (.builtin "math.gcd")

theorem strEq (a b : List Nat) : decide (V.str (SX.S a) = V.str (SX.S b)) = decide (a = b) := by
  by_cases h : a = b
  · subst h; simp
  · rw [decide_eq_false h, decide_eq_false]
    intro e
    exact h (SX.S_inj (V.str.inj e))
theorem strLit {a : List Nat} {z : Str} (b : List Nat) (hz : z = SX.S b) : decide (V.str (SX.S a) = V.str z) = decide (a = b) := by rw [hz, strEq]
theorem strLitN {a : List Nat} {z : Str} (b : List Nat) (hz : z = SX.S b) : (!decide (V.str (SX.S a) = V.str z)) = decide (a ≠ b) := by rw [strLit b hz, decide_not]
theorem allDig {l : List Nat} (h : ¬ (l.any (fun c => !isDig c) = true)) : NumText.AllDigits l := by
  intro c hc
  have : isDig c = true := by
    cases e : isDig c with
    | true => rfl
    | false => exact absurd (List.any_eq_true.mpr ⟨c, hc, by rw [e]; rfl⟩) h
  simpa [isDig] using this
theorem plain_neg {l : List Nat} (h : l.take 1 = [45]) : l = 45 :: plainOf l := by
  unfold plainOf
  rw [if_pos h]
  cases l with
  | nil => simp at h
  | cons a r => simp at h ⊢; exact h
theorem plain_pos {l : List Nat} (h : l.take 1 ≠ [45]) : plainOf l = l := by
  unfold plainOf
  rw [if_neg h]
theorem num_text {l : List Nat} (h0 : plainOf l ≠ []) (h1 : ¬ 60 < (plainOf l).length) (h2 : ¬ ((plainOf l).any (fun c => !isDig c) = true)) :
    intText? (SX.S l) = some (if l.take 1 = [45] then -((NumText.digitsVal (plainOf l) : Nat) : Int) else ((NumText.digitsVal (plainOf l) : Nat) : Int)) ∧ l.length ≤ 61 := by
  have hd := allDig h2
  by_cases h : l.take 1 = [45]
  · rw [if_pos h]
    have e := plain_neg h
    have hl : l.length ≤ 61 := by rw [e]; simp only [List.length_cons]; omega
    exact ⟨intText_neg (cs := plainOf l) e hd h0 (by rw [SX.S_len]; omega), hl⟩
  · rw [if_neg h]
    have e := plain_pos h
    rw [e] at h0 h1 hd ⊢
    exact ⟨intText_digits (x := SX.S l) hd h0 (by rw [SX.S_len]; omega), by omega⟩
theorem figs (c : Nat) : decide (c ∈ (Str.ofString "0123456789").cps.toList) = isDig c := by
  have e : (Str.ofString "0123456789").cps.toList = [48, 49, 50, 51, 52, 53, 54, 55, 56, 57] := by decide +kernel
  rw [e, isDig, Bool.eq_iff_iff]
  simp
  omega
section
variable {P : Program} {w : World} {K : PySem.W.Frag} {mg : Str → Option Value} {base : Heap}
def spNum : Sp := fun vs H Q _ => ∃ l : List Nat, vs = [.str (SX.S l)] ∧ l.length ≤ 100000 ∧ ∀ H', Same H H' → Q (numV (numIn l)) H'
end

/-! ### from K02b.lean -/
/-- a class of the text whose objects isinstance knows -/
structure TyC (K : PySem.W.Frag) (C : Addr) : Prop where
  cl : Cls K C
  ha : PySem.W.findIn K (.ref C) "__class__" = some (some (.builtin "object.__class__"))
  hn : PySem.W.specialIn K (.builtin "object.__class__") "__get__" = some (some (.builtin "getset_descriptor.__get__"))
  htk : PySem.W.takesIn K (.builtin "object.__class__") = some true
  hm : PySem.W.mroIn K C (.type "object") = some true
theorem TyC.ty {K : PySem.W.Frag} {C a dx : Addr} {H : Hp} {fs : List (Str × V)} (T : TyC K C) (e : H a = some (.ins C dx fs)) : TyX K H (.ref a) (.ref C) := .base (.ins e T.cl T.ha T.hn T.htk T.hm)
/-- the type of v, here and later -/
def TyE (K : PySem.W.Frag) (H : Hp) (v : V) (tv : Value) : Prop := ∀ H1, Ex H H1 → TyX K H1 v tv
theorem TyE.mono {K : PySem.W.Frag} {H H1 : Hp} {v : V} {tv : Value} (h : TyE K H v tv) (e : Ex H H1) : TyE K H1 v tv := fun H2 e2 => h H2 (e.trans e2)
theorem ty_int {K : PySem.W.Frag} {H : Hp} {i : Int} : TyE K H (.int i) (.type "int") := fun _ _ => .base (.int i)
theorem ty_str {K : PySem.W.Frag} {H : Hp} {z : Str} : TyE K H (.str z) (.type "str") := fun _ _ => .base (.str z)
/-- H' is H but for what stands at a -/
def ExB (a : Addr) (H H' : Hp) : Prop := ∀ b o, b ≠ a → H b = some o → H' b = some o
theorem ExB.of {a : Addr} {H H' : Hp} (e : Ex H H') : ExB a H H' := fun b o _ h => e b o h
theorem ExB.trans {a : Addr} {H H1 H2 : Hp} (e : ExB a H H1) (f : ExB a H1 H2) : ExB a H H2 := fun b o n h => f b o n (e b o n h)
theorem ExB.put {a : Addr} {H H' : Hp} {o : HO} (e : ExB a H H') : ExB a H (upd H' a o) := fun b u n h => by rw [upd_ne n]; exact e b u n h
/-- .. if a was new, all that was known stays -/
theorem ExB.ex {a : Addr} {H H' : Hp} (e : ExB a H H') (n : H a = none) : Ex H H' := fun b o h => e b o (fun z => by rw [z, n] at h; cases h) h

section
variable {P : Program} {w : World} {K : PySem.W.Frag} {mg : Str → Option Value} {base : Heap} {cBR cBT cS cR : Addr}
/-! ### is_integer -/
def spIsI (K : PySem.W.Frag) : Sp := fun vs H Q _ => ∃ v tv b1 b2, vs = [v] ∧ TyE K H v tv ∧ PySem.W.kitOne K tv (.type "int") = some b1 ∧ PySem.W.kitOne K tv (.type "bool") = some b2 ∧ ∀ H', Same H H' → Q (.bl (b1 && !b2)) H'
theorem spv_isI_int {H : Hp} {i : Int} : SpV (spIsI K) [.int i] H (.bl true) := fun H1 e Q q E => ⟨.int i, .type "int", true, false, rfl, ty_int, kit_ty (by decide +kernel), kit_ty (by decide +kernel), q⟩

/-! ### Scan -/
structure ScC (K : PySem.W.Frag) (C : Addr) : Prop where
  cl : Cls K C
  line : NoAttr K C "line"
  words : NoAttr K C "words"
  spot : NoAttr K C "spot"
abbrev scF (l : V) (tp : Addr) (i : Int) : List (Str × V) := [("line", l), ("words", .ref tp), ("spot", .int i)]
abbrev btF (l w : V) : List (Str × V) := [("word", w), ("line", l)]
abbrev wordsV (l : List Nat) : List V := (TL.spl [32] 0 [] l).map fun w => V.str (SX.S w)
def spScI (K : PySem.W.Frag) (cS cBT : Addr) : Sp := fun vs H Q E => ∃ (a dx : Addr) (t l : V), vs = [.ref a, t, l] ∧ H a = some (.ins cS dx []) ∧
  ((∃ cs : List Nat, t = .str (SX.S cs) ∧ cs.length ≤ 100000 ∧ ∀ tp H', tp ≠ a → ExB a H H' → H' tp = some (.tup (wordsV cs)) → H' a = some (.ins cS dx (scF l tp 0)) → Q .non H') ∨
   (∃ tv, TyE K H t tv ∧ PySem.W.kitOne K tv (.type "str") = some false ∧ Raises cBT (btF l (.int 0)) H E))
def spRef (cS cBT : Addr) : Sp := fun vs H Q E => ∃ (a dx tp : Addr) (l : V) (i : Int), vs = [.ref a, .non] ∧ H a = some (.ins cS dx (scF l tp i)) ∧ Raises cBT (btF l (.int i)) H E
def spOv (K : PySem.W.Frag) (cS : Addr) : Sp := fun vs H Q E => ∃ (a dx tp : Addr) (l : V) (i : Int) (xs : List V), vs = [.ref a] ∧ H a = some (.ins cS dx (scF l tp i)) ∧ SqT K H tp xs ∧ ∀ H', Same H H' → Q (.bl (decide (i ≥ (xs.length : Int)))) H'
theorem spv_ov {H : Hp} {a dx tp : Addr} {l : V} {i : Int} {xs : List V} (ha : H a = some (.ins cS dx (scF l tp i))) (ht : SqT K H tp xs) : SpV (spOv K cS) [.ref a] H (.bl (decide (i ≥ (xs.length : Int)))) :=
  fun H1 e Q q E => ⟨a, dx, tp, l, i, xs, rfl, e _ _ ha, ex_t e ht, q⟩

def spFin (K : PySem.W.Frag) (cS cBT : Addr) : Sp := fun vs H Q E => ∃ (a dx tp : Addr) (l : V) (i : Int) (xs : List V), vs = [.ref a] ∧ H a = some (.ins cS dx (scF l tp i)) ∧ SqT K H tp xs ∧
  ((i ≥ (xs.length : Int) ∧ ∀ H', Same H H' → Q .non H') ∨ (i < (xs.length : Int) ∧ Raises cBT (btF l (.int i)) H E))
theorem ev_gm {C : Addr} {m : Str} {sp : Sp} {dvs vs : List V} {W : WX} {ta : TE} {tA : TA} {σ : L2.St} {H : Hp} {a dx : Addr} {fs : List (Str × V)} {z : V} (h : Ev ta σ H (.ref a)) (ho : H a = some (.ins C dx fs)) (hl : fs.lookup m = none) (hA : EvA tA σ H vs) (hs : SpV sp (.ref a :: (vs ++ dvs)) H z) :
    Ev (tGM C m sp dvs W ta tA) σ H z := fun H1 e Q q => h H1 e _ fun H2 e2 => ⟨a, dx, fs, rfl, (e.trans e2) _ _ ho, hl, hA H2 (e.trans e2) _ fun H3 e3 => hs H3 ((e.trans e2).trans e3) Q (fun H4 e4 => q H4 ((e2.trans e3).trans e4)) _⟩
/-- .. a call whose promise is looked at -/
theorem go_gm {C : Addr} {m : Str} {sp : Sp} {dvs vs : List V} {W : WX} {ta : TE} {tA : TA} {σ : L2.St} {H : Hp} {a dx : Addr} {fs : List (Str × V)} {Q : VK} (h : Ev ta σ H (.ref a)) (ho : H a = some (.ins C dx fs)) (hl : fs.lookup m = none) (hA : EvA tA σ H vs)
    (hs : ∀ H1, Ex H H1 → sp (.ref a :: (vs ++ dvs)) H1 Q (WE W σ)) : tGM C m sp dvs W ta tA σ H Q := h H (Ex.refl H) _ fun H2 e2 => ⟨a, dx, fs, rfl, e2 _ _ ho, hl, hA H2 e2 _ fun H3 e3 => hs H3 (e2.trans e3)⟩
end

/-! ### from K02c.lean -/
/-! ### more readings -/
section
variable {K : PySem.W.Frag} {σ : L2.St} {H H' : Hp} {te ta tb tl : TE} {v x y z : V} {D : Ends} {tu tw tz : TS} {t : TT} {W : WX} {tA : TA}
theorem go_gc {C : Addr} {sp : Sp} {dvs vs : List V} {Q : VK} (h : EvA tA σ H vs)
    (hs : ∀ x dx H1, Ex H H1 → H1 x = none → H1 dx = none → dx ≠ x → sp (.ref x :: (vs ++ dvs)) (upd (upd H1 dx (.own x)) x (.ins C dx [])) (fun v H2 => v = .non ∧ Q (.ref x) H2) (WE W σ)) : tGC C sp dvs W tA σ H Q :=
  h H (Ex.refl H) _ fun H1 e1 x dx hx hdx hne => hs x dx H1 e1 hx hdx hne
theorem go_gf {sp : Sp} {dvs vs : List V} {E : L2.St → XK} {Q : VK} (h : EvA tA σ H vs) (hs : ∀ H1, Ex H H1 → sp (vs ++ dvs) H1 Q (E σ)) : tCallSD sp dvs E tA σ H Q := h H (Ex.refl H) _ fun H1 e1 => hs H1 e1
theorem made_ex {H1 : Hp} {x dx C : Addr} {H2 : Hp} (hx : H1 x = none) (hdx : H1 dx = none) (hne : dx ≠ x) (e : ExB x (upd (upd H1 dx (.own x)) x (.ins C dx [])) H2) : Ex H1 H2 := fun b o hb => by
  have n1 : b ≠ x := ne_of_none hb hx
  have n2 : b ≠ dx := ne_of_none hb hdx
  exact e b o n1 (by rw [upd_ne n1, upd_ne n2]; exact hb)
end
/-! ### Ratio -/
structure RtC (K : PySem.W.Frag) (C : Addr) : Prop extends TyC K C where
  top : NoAttr K C "top"
  bottom : NoAttr K C "bottom"
abbrev ratF (t b : Int) : List (Str × V) := [("top", .int t), ("bottom", .int b)]
def IsR (C : Addr) (H : Hp) (a : Addr) (t b : Int) : Prop := ∃ dx, H a = some (.ins C dx (ratF t b))
theorem IsR.mono {C : Addr} {H H' : Hp} {a : Addr} {t b : Int} (h : IsR C H a t b) (e : Ex H H') : IsR C H' a t b := let ⟨dx, q⟩ := h; ⟨dx, e _ _ q⟩
def comI (t b : Int) : Int := if b < 0 then -((Nat.gcd t.natAbs b.natAbs : Nat) : Int) else ((Nat.gcd t.natAbs b.natAbs : Nat) : Int)
theorem comI_ok {t b : Int} (h : b ≠ 0) (hb : b.natAbs < 2 ^ 2000) : CDivNW t (comI t b) := by
  have h1 : 0 < Nat.gcd t.natAbs b.natAbs := Nat.gcd_pos_of_pos_right _ (by omega)
  have h2 : Nat.gcd t.natAbs b.natAbs ≤ b.natAbs := Nat.le_of_dvd (by omega) (Nat.gcd_dvd_right _ _)
  have e : (comI t b).natAbs = Nat.gcd t.natAbs b.natAbs := by
    unfold comI
    split <;> simp
  refine ⟨fun z => ?_, ?_⟩
  · rw [z] at e
    simp at e
    omega
  · rw [e]
    refine Nat.lt_of_lt_of_le (PySem.Flt.log2_lt_of (k := 2000) (by decide) (Nat.lt_of_le_of_lt h2 hb)) (by decide)
section
variable {P : Program} {w : World} {K : PySem.W.Frag} {mg : Str → Option Value} {base : Heap} {cBR cBT cS cR : Addr}
def spRI (cR : Addr) : Sp := fun vs H Q _ => ∃ (a dx : Addr) (t b : Int), vs = [.ref a, .int t, .int b] ∧ H a = some (.ins cR dx []) ∧ b ≠ 0 ∧ b.natAbs < 2 ^ 2000 ∧
  ∀ H', ExB a H H' → H' a = some (.ins cR dx (ratF (t.fdiv (comI t b)) (b.fdiv (comI t b)))) → Q .non H'
/-- Ratio(t, b) -/
theorem ep_Rat {σ : L2.St} {H : Hp} {W : WX} {tA : TA} {vs dvs : List V} {t b : Int} (h : EvA tA σ H vs) (hv : vs ++ dvs = [.int t, .int b]) (hb0 : b ≠ 0) (hb : b.natAbs < 2 ^ 2000) :
    EvP (tGC cR (spRI cR) dvs W tA) σ H (fun v H2 => ∃ a, v = .ref a ∧ IsR cR H2 a (t.fdiv (comI t b)) (b.fdiv (comI t b))) := fun H0 e0 Q q =>
  go_gc (h.mono e0) fun x dx H1 e1 hx hdx hne => ⟨x, dx, t, b, by rw [hv], upd_same, hb0, hb, fun H2 e2 hq => ⟨rfl, q _ H2 (e1.trans (made_ex hx hdx hne e2)) ⟨x, rfl, dx, hq⟩⟩⟩

/-! ### what the texts come to -/
theorem digs_lt0 : ∀ (cs : List Nat) (acc : Nat), (∀ c ∈ cs, c ≤ 57) → cs.foldl (fun acc c => acc * 10 + (c - 48)) acc < (acc + 1) * 10 ^ cs.length := by
  intro cs
  induction cs with
  | nil => intro acc _; simp
  | cons c cs ih =>
    intro acc h
    have h1 := ih (acc * 10 + (c - 48)) fun x hx => h x (by simp [hx])
    have h2 := h c (by simp)
    rw [List.foldl_cons, List.length_cons, Nat.pow_succ]
    refine Nat.lt_of_lt_of_le h1 ?_
    have h3 : acc * 10 + (c - 48) + 1 ≤ (acc + 1) * 10 := by omega
    calc (acc * 10 + (c - 48) + 1) * 10 ^ cs.length ≤ ((acc + 1) * 10) * 10 ^ cs.length := Nat.mul_le_mul_right _ h3
      _ = (acc + 1) * (10 ^ cs.length * 10) := by rw [Nat.mul_assoc, Nat.mul_comm 10]
theorem digs_lt (cs : List Nat) (h : ∀ c ∈ cs, c ≤ 57) : NumText.digitsVal cs < 10 ^ cs.length := by
  have := digs_lt0 cs 0 h
  rw [Nat.zero_add, Nat.one_mul] at this
  exact this
theorem ten60 : (10 : Nat) ^ 60 < 2 ^ 200 := by decide +kernel
theorem numIn_lt {l : List Nat} {n : Int} (h : numIn l = some n) : n.natAbs < 2 ^ 200 := by
  unfold numIn at h
  split at h
  · cases h
  rename_i hg
  split at h
  · cases h
  have h1 : ¬ 60 < (plainOf l).length := fun z => hg (.inr (.inl z))
  have h2 : ¬ ((plainOf l).any (fun c => !isDig c) = true) := fun z => hg (.inr (.inr z))
  have hd := allDig h2
  have hlt := digs_lt (plainOf l) fun c hc => (hd c hc).2
  have hp : (10 : Nat) ^ (plainOf l).length ≤ 10 ^ 60 := Nat.pow_le_pow_right (by decide) (by omega)
  have h6 := ten60
  have hn : n.natAbs = NumText.digitsVal (plainOf l) := by
    have := Option.some.inj h
    rw [← this]
    split <;> simp
  omega
def ratIn (l : List Nat) : Option (Int × Int) :=
  match TL.spl [47] 0 [] l with
  | [] => none
  | [p] => (numIn p).map fun t => (t, 1)
  | [p, q] => match numIn p, numIn q with
    | some t, some b => if b < 2 ∨ Nat.gcd t.natAbs b.natAbs ≠ 1 then none else some (t, b)
    | _, _ => none
  | _ => none
theorem ratIn0 {l p : List Nat} {r : List (List Nat)} (h : TL.spl [47] 0 [] l = p :: r) (hg : numIn p = none ∨ 1 < r.length) : ratIn l = none := by
  unfold ratIn
  rw [h]
  rcases hg with z | z
  · cases r with
    | nil => simp [z]
    | cons q r => cases r <;> simp [z]
  · cases r with
    | nil => simp at z
    | cons q r => cases r with
      | nil => simp at z
      | cons _ _ => rfl
theorem ratIn1 {l p : List Nat} {t : Int} (h : TL.spl [47] 0 [] l = [p]) (hn : numIn p = some t) : ratIn l = some (t, 1) := by
  unfold ratIn
  rw [h]
  simp [hn]
theorem ratIn2n {l p q : List Nat} (h : TL.spl [47] 0 [] l = [p, q]) (hm : numIn q = none) : ratIn l = none := by
  unfold ratIn
  rw [h]
  simp only [hm]
  cases numIn p <;> rfl
theorem ratIn2 {l p q : List Nat} {t b : Int} (h : TL.spl [47] 0 [] l = [p, q]) (hn : numIn p = some t) (hm : numIn q = some b) : ratIn l = if b < 2 ∨ Nat.gcd t.natAbs b.natAbs ≠ 1 then none else some (t, b) := by
  unfold ratIn
  rw [h]
  simp only [hn, hm]
def PRat (C : Addr) : Option (Int × Int) → V → Hp → Prop
  | none, v, _ => v = .non
  | some (t, b), v, H => ∃ a, v = .ref a ∧ IsR C H a t b
theorem com1 {t b : Int} (hb : 0 ≤ b) (h : Nat.gcd t.natAbs b.natAbs = 1) : comI t b = 1 := by
  unfold comI
  rw [if_neg (by omega), h]
  rfl
def spRin (cR : Addr) : Sp := fun vs H Q _ => ∃ l : List Nat, vs = [.str (SX.S l)] ∧ l.length ≤ 100000 ∧ ∀ v H', Same H H' → PRat cR (ratIn l) v H' → Q v H'
theorem spv_num {H : Hp} {l : List Nat} (hl : l.length ≤ 100000) : SpV spNum [.str (SX.S l)] H (numV (numIn l)) := fun H1 e Q q E => ⟨l, rfl, hl, q⟩
theorem spl_len (S : List Nat) : ∀ (l : List Nat) (k : Nat) (acc : List Nat) (p : List Nat), p ∈ TL.spl S k acc l → p.length ≤ acc.length + l.length := by
  intro l
  induction l with
  | nil =>
    intro k acc p hp
    rw [TL.spl_nil] at hp
    simp at hp
    subst hp
    simp
  | cons c r ih =>
    intro k acc p hp
    cases k with
    | zero =>
      cases hpre : TL.pre S (c :: r) with
      | true =>
        rw [TL.spl_hit hpre] at hp
        rcases List.mem_cons.mp hp with rfl | hp
        · simp
        · have := ih _ _ _ hp
          simp at this ⊢
          omega
      | false =>
        rw [TL.spl_miss hpre] at hp
        have := ih _ _ _ hp
        simp at this ⊢
        omega
    | succ k =>
      have hp' : p ∈ TL.spl S k acc r := hp
      have := ih _ _ _ hp'
      simp
      omega
theorem spl_ne (S : List Nat) (k : Nat) (acc l : List Nat) : TL.spl S k acc l ≠ [] := by
  induction l generalizing k acc with
  | nil => rw [TL.spl_nil]; simp
  | cons c r ih =>
    cases k with
    | zero =>
      cases hpre : TL.pre S (c :: r) with
      | true => rw [TL.spl_hit hpre]; simp
      | false => rw [TL.spl_miss hpre]; exact ih _ _
    | succ k => exact ih _ _
theorem gcd_one (n : Nat) : Nat.gcd n 1 = 1 := by simp
end

/-! ### from K02d.lean -/
section
variable {P : Program} {w : World} {K : PySem.W.Frag} {mg : Str → Option Value} {base : Heap} {cBR cBT cS cR : Addr}
theorem spp_Rin {H : Hp} {l : List Nat} (hl : l.length ≤ 100000) : SpP (spRin cR) [.str (SX.S l)] H (fun v H' => PRat cR (ratIn l) v H') := fun H1 e Q q E => ⟨l, rfl, hl, fun v H' e' p => q v H' e' p⟩
theorem q_set {σ : L2.St} {H : Hp} {te : TE} {tz : TS} {D : Ends} {i : Nat} (h : te σ H fun v H1 => tz D (σ.set i (some v)) H1) : tSeq (tAsg te (gName i)) tz D σ H := h
theorem q_do {σ : L2.St} {H : Hp} {te : TE} {tz : TS} {D : Ends} (h : te σ H fun _ H1 => tz D σ H1) : tSeq (tDrop te) tz D σ H := h
/-! ### take_ratio -/
def spTR (K : PySem.W.Frag) (cS cBT cR : Addr) : Sp := fun vs H Q E => ∃ (a dx tp : Addr) (l : V) (ws : List (List Nat)) (w : List Nat), vs = [.ref a] ∧ H a = some (.ins cS dx (scF l tp 0)) ∧ SqT K H tp (ws.map fun w => V.str (SX.S w)) ∧ ws.head? = some w ∧ w.length ≤ 100000 ∧
  (ratIn w = none → Raises cBT (btF l (.int 0)) H E) ∧
  (∀ t b, ratIn w = some (t, b) → ∀ r H', ExB a H H' → H' a = some (.ins cS dx (scF l tp 1)) → IsR cR H' r t b → Q (.ref r) H')
/-! ### Ratio.read -/
/-- the error's word, or the ratio -/
def rdIn (cs : List Nat) : Sum Int (Int × Int) :=
  match TL.spl [32] 0 [] cs with
  | [] => .inl 0
  | w :: r => match ratIn w with
    | none => .inl 0
    | some tb => if r = [] then .inr tb else .inl 1
def spRd (K : PySem.W.Frag) (cBT cR : Addr) : Sp := fun vs H Q E => ∃ t : V, vs = [t] ∧
  ((∃ cs : List Nat, t = .str (SX.S cs) ∧ cs.length ≤ 100000 ∧ (∀ i, rdIn cs = .inl i → Raises cBT (btF (.int 0) (.int i)) H E) ∧ (∀ t b, rdIn cs = .inr (t, b) → ∀ r H', Ex H H' → IsR cR H' r t b → Q (.ref r) H')) ∨
   (∃ tv, TyE K H t tv ∧ PySem.W.kitOne K tv (.type "str") = some false ∧ Raises cBT (btF (.int 0) (.int 0)) H E))
end

/-! ### from K02e.lean -/
/-! ### numbers as texts -/
def intL (i : Int) : List Nat := if i < 0 then 45 :: TL.numL i.natAbs else TL.numL i.natAbs
theorem int_text (i : Int) : Str.ofString (toString i) = SX.S (intL i) := by
  cases i with
  | ofNat n =>
    have : intL (Int.ofNat n) = TL.numL n := by
      unfold intL
      rw [if_neg (by simp)]
      rfl
    rw [this]
    exact SX.num_S n
  | negSucc n =>
    have : intL (Int.negSucc n) = 45 :: TL.numL (n + 1) := by
      unfold intL
      rw [if_pos (Int.negSucc_lt_zero n)]
      rfl
    rw [this]
    refine TL.ext_tl ?_
    have h1 : TL.tl (Str.ofString (toString (((n + 1 : Nat) : Nat) : Int))) = TL.numL (n + 1) := TL.tl_num (n + 1)
    rw [TL.tl_ofString] at h1 ⊢
    have e : toString (Int.negSucc n) = "-" ++ toString (((n + 1 : Nat) : Nat) : Int) := rfl
    rw [e, String.toList_append, List.map_append, h1]
    rfl
theorem numL_le {n k : Nat} (hk : 0 < k) (h : n < 10 ^ k) : (TL.numL n).length ≤ k := TL.numL_len hk h
theorem intL_le {i : Int} {k : Nat} (hk : 0 < k) (h : i.natAbs < 10 ^ k) : (intL i).length ≤ k + 1 := by
  have := numL_le hk h
  unfold intL
  split
  · simp
    exact this
  · omega
def ratS (t b : Int) : List Nat := if b = 1 then intL t else intL t ++ ([47] ++ intL b)
section
variable {K : PySem.W.Frag} {σ : L2.St} {H H' : Hp} {te ta tb tc tl : TE} {v x y z : V}
theorem ev_fmtI {i : Int} (h : Ev te σ H (.int i)) (hz : i.natAbs.log2 < 1920) : Ev (tFmt te) σ H (.str (SX.S (intL i))) := fun H1 e Q q => h H1 e _ fun H2 e2 => .inr ⟨i, rfl, hz, by rw [int_text]; exact q H2 e2⟩
theorem S_empty : Str.empty = SX.S [] := rfl
theorem ev_join3 {a b c : List Nat} (h1 : Ev ta σ H (.str (SX.S a))) (h2 : Ev tb σ H (.str (SX.S b))) (h3 : Ev tc σ H (.str (SX.S c))) (hz : a.length + b.length + c.length ≤ 100000) :
    Ev (fun σ H Q => tJs [ta, tb, tc] Str.empty σ H fun out H1 => Q (.str out) H1) σ H (.str (SX.S (a ++ (b ++ c)))) := fun H1 e Q q =>
  h1 H1 e _ fun H2 e2 => ⟨_, rfl, by rw [S_empty, SX.S_cat, SX.S_len]; exact sz_of (by simp; omega), h2 H2 (e.trans e2) _ fun H3 e3 => ⟨_, rfl, by rw [S_empty, SX.S_cat, SX.S_cat, SX.S_len]; exact sz_of (by simp; omega),
    h3 H3 ((e.trans e2).trans e3) _ fun H4 e4 => ⟨_, rfl, by rw [S_empty, SX.S_cat, SX.S_cat, SX.S_cat, SX.S_len]; exact sz_of (by simp; omega), by
      show Q (.str (Str.empty ++ SX.S a ++ SX.S b ++ SX.S c)) H4
      rw [S_empty, SX.S_cat, SX.S_cat, SX.S_cat, List.nil_append, List.append_assoc]
      exact q H4 ((e2.trans e3).trans e4)⟩⟩⟩
theorem rc_strI2 {n : Int} (h : n.natAbs.log2 < 1920) : RC (fun xs H Q => ∃ i : Int, xs = [V.int i] ∧ i.natAbs.log2 < 1920 ∧ Q (.str (toString i)) H) [.int n] H (.str (SX.S (intL n))) := fun H1 _ _ q => ⟨n, rfl, h, by rw [int_text]; exact q H1 (Ex.refl H1)⟩
theorem rc_strO {C a dx : Addr} {fs : List (Str × V)} {sp : Sp} {w : Str} (ho : H a = some (.ins C dx fs)) (hs : SpV sp [.ref a] H (.str w)) : RC (rStrO C sp) [.ref a] H (.str w) := fun H1 e Q q =>
  ⟨a, dx, fs, rfl, e _ _ ho, hs H1 e _ (fun H2 e2 => ⟨⟨w, rfl⟩, q H2 e2⟩) _⟩
end
theorem lg {n : Nat} (h : n < 2 ^ 1900) : n.log2 < 1920 := Nat.lt_of_lt_of_le (PySem.Flt.log2_lt_of (k := 1900) (by decide) h) (by decide)
section
variable {P : Program} {w : World} {K : PySem.W.Frag} {mg : Str → Option Value} {base : Heap} {cBR cBT cS cR : Addr}
/-! ### __eq__, __str__, __repr__ -/
def spEq (cR : Addr) : Sp := fun vs H Q _ => ∃ (a b : Addr) (t u t' u' : Int), vs = [.ref a, .ref b] ∧ IsR cR H a t u ∧ IsR cR H b t' u' ∧ ∀ H', Same H H' → Q (.bl (decide (t = t') && decide (u = u'))) H'
theorem intEq (a b : Int) : decide (V.int a = V.int b) = decide (a = b) := by simp
theorem kit_self (C : Addr) : PySem.W.kitOne K (.ref C) (.ref C) = some true := if_pos (by simp)
def spStr (cR : Addr) : Sp := fun vs H Q _ => ∃ (a : Addr) (t b : Int), vs = [.ref a] ∧ IsR cR H a t b ∧ t.natAbs < 10 ^ 100 ∧ b.natAbs < 10 ^ 100 ∧ ∀ H', Same H H' → Q (.str (SX.S (ratS t b))) H'
theorem ten100 : (10 : Nat) ^ 100 < 2 ^ 1900 := by decide +kernel
theorem spv_Str {H : Hp} {a : Addr} {t b : Int} (h : IsR cR H a t b) (ht : t.natAbs < 10 ^ 100) (hb : b.natAbs < 10 ^ 100) : SpV (spStr cR) [.ref a] H (.str (SX.S (ratS t b))) := fun H1 e Q q E => ⟨a, t, b, rfl, h.mono e, ht, hb, q⟩
end

/-! ### from K02f.lean -/
/-! ### the pen -/
/-- the pen at p: a list of the cells, the turn (at most B), what is left -/
def Pen (K : PySem.W.Frag) (H : Hp) (p : Addr) (B : Nat) : Prop := ∃ (c : Addr) (ns : List Int) (turn : Nat) (left : Int), H p = some (.lst [.ref c, .int turn, .int left]) ∧ SqL K H c (ns.map V.int) ∧ c ≠ p ∧ ns.length ≤ 100000 ∧ turn ≤ B
theorem exb_rd {H H' : Hp} {a p : Addr} {u : HO} (e : ExB p H H') (n : a ≠ p) (h : Rd H a u) : Rd H' a u := by
  rcases h with h | ⟨o, h⟩
  · exact Or.inl (e a _ n h)
  · exact Or.inr ⟨o, e a _ n h⟩
theorem exb_l {K : PySem.W.Frag} {H H' : Hp} {a p : Addr} {xs : List V} (e : ExB p H H') (n : a ≠ p) (h : SqL K H a xs) : SqL K H' a xs := by
  rcases h with h | h
  · exact Or.inl (exb_rd e n h)
  · exact Or.inr h
theorem exb_t {K : PySem.W.Frag} {H H' : Hp} {a p : Addr} {xs : List V} (e : ExB p H H') (n : a ≠ p) (h : SqT K H a xs) : SqT K H' a xs := by
  rcases h with h | h
  · exact Or.inl (exb_rd e n h)
  · exact Or.inr h
theorem Pen.mono {K : PySem.W.Frag} {H H' : Hp} {p : Addr} {B B' : Nat} (h : Pen K H p B) (e : Ex H H') (hb : B ≤ B') : Pen K H' p B' := by
  obtain ⟨c, ns, t, l, h1, h2, h3, h4, h5⟩ := h
  exact ⟨c, ns, t, l, e _ _ h1, ex_l e h2, h3, h4, by omega⟩
theorem Pen.ne {K : PySem.W.Frag} {H : Hp} {p a : Addr} {B : Nat} (h : Pen K H p B) (n : H a = none) : a ≠ p := fun z => by
  obtain ⟨c, ns, t, l, h1, _⟩ := h
  rw [z, h1] at n
  cases n
theorem dp_ints {K : PySem.W.Frag} {H : Hp} {ns : List Int} : DpAll K H (ns.map V.int) (ns.map PyData.int) := by
  induction ns with
  | nil => exact .nil
  | cons n ns ih => exact .cons (.int n) ih
theorem shaped_ints (ns : List Int) : SeqAt.shaped (.list (ns.map PyData.int)) = true := by
  have h : PyData.canLayAll0 (ns.map PyData.int) = true ∧ PyData.depthAll (ns.map PyData.int) = 0 := by
    induction ns with
    | nil => exact ⟨rfl, rfl⟩
    | cons n ns ih =>
      constructor
      · show (PyData.canLay0 (.int n) && PyData.canLayAll0 (ns.map PyData.int)) = true
        rw [ih.1]
        rfl
      · show max (PyData.depth (.int n)) (PyData.depthAll (ns.map PyData.int)) = 0
        rw [ih.2]
        rfl
  unfold SeqAt.shaped
  have h1 : PyData.canLay0 (.list (ns.map PyData.int)) = true := h.1
  have h2 : PyData.depth (.list (ns.map PyData.int)) = 1 := by
    show PyData.depthAll (ns.map PyData.int) + 1 = 1
    rw [h.2]
  rw [h1, h2]
  rfl
theorem eqv_nil (ns : List Int) : PyData.eqv (.list (ns.map PyData.int)) (.list []) = decide (ns = []) := by
  cases ns <;> rfl
section
variable {P : Program} {w : World} {K : PySem.W.Frag} {mg : Str → Option Value} {base : Heap}
/-! ### _law_pen -/
def spPen (K : PySem.W.Frag) : Sp := fun vs H Q _ => ∃ (a : Addr) (ns : List Int), vs = [.ref a] ∧ SqL K H a (ns.map V.int) ∧ ns.length ≤ 40000 ∧ ∀ p H', H p = none → Ex H H' → Pen K H' p 0 → Q (.ref p) H'
theorem given_ints {ns : List Int} {xs : List V} (h : xs = ns.map V.int) : given xs.length (fun _ => true) (fun i => V.int (ns.getD i 0)) = ns.map V.int := by
  rw [given_all, h, List.length_map]
  apply List.ext_getElem
  · simp
  · intro i h1 h2
    simp at h1 h2
    simp [List.getD_eq_getElem?_getD, h1]
theorem cut_ints (ns : List Int) (lo hi : Option Int) : ∃ ms : List Int, cutV (ns.map V.int) lo hi = ms.map V.int ∧ ms.length ≤ ns.length := by
  refine ⟨(ns.drop (HT.sIx (ns.map V.int).length 0 lo)).take (HT.sIx (ns.map V.int).length (ns.map V.int).length hi - HT.sIx (ns.map V.int).length 0 lo), ?_, ?_⟩
  · unfold cutV
    rw [List.map_take, List.map_drop]
  · rw [List.length_take, List.length_drop]
    omega
theorem s_retLst1 {σ : L2.St} {H : Hp} {ta : TE} {tr : TA} {D : Ends} {xs vs : List V} (h : EvL ta σ H xs) (hr : EvA tr σ H vs) (hl : vs.length < 100000)
    (k : ∀ q p H1, q ≠ p → H p = none → Ex H H1 → H1 q = some (.lst xs) → H1 p = some (.lst (.ref q :: vs)) → D.rt (.ref p) H1) : tRet (tLst (tCons ta tr)) D σ H :=
  h H (Ex.refl H) _ fun q H1 hq e1 h1 => hr H1 e1 _ fun H2 e2 => ⟨sz_of (by simp; omega), fun p hp => k q p _ (ne_of_none (e2 _ _ h1) hp) (fresh_back (e1.trans e2) hp) ((e1.trans e2).trans (Ex.new hp)) (by rw [upd_ne (ne_of_none (e2 _ _ h1) hp)]; exact e2 _ _ h1) upd_same⟩
/-! ### _law_draw -/
def spDraw (K : PySem.W.Frag) : Sp := fun vs H Q _ => ∃ (p : Addr) (many : Int) (B : Nat), vs = [.ref p, .int many] ∧ Pen K H p B ∧ B < 1000000 ∧ 0 < many ∧ many < 1073741824 ∧
  ∀ (r : Int) H', 0 ≤ r → r < many → ExB p H H' → Pen K H' p (B + 1) → Q (.int r) H'
theorem pen_put {H H1 : Hp} {p c : Addr} {ns : List Int} {t : Nat} {l : Int} {B : Nat} (h2 : SqL K H c (ns.map V.int)) (h3 : c ≠ p) (h4 : ns.length ≤ 100000) (e : ExB p H H1) (hq : H1 p = some (.lst [.ref c, .int t, .int l])) (hb : t ≤ B) : Pen K H1 p B :=
  ⟨c, ns, t, l, hq, exb_l e h3 h2, h3, h4, hb⟩
/-- if c: x = e; what x has then is told by Pv -/
theorem q_ifAsgP {σ : L2.St} {H : Hp} {t : TT} {te : TE} {tz : TS} {D : Ends} {b : Bool} {i : Nat} (Pv : V → Prop) (h : EvT t σ H b) (h1 : b = true → ∃ v, Pv v ∧ Ev te σ H v) (h2 : b = false → ∃ v, Pv v ∧ σ.set i (some v) = σ) (k : ∀ v H1, Pv v → Ex H H1 → tz D (σ.set i (some v)) H1) :
    tSeq (tIfS t (tAsg te (gName i)) tNext) tz D σ H := by
  cases b with
  | true =>
    obtain ⟨v, hv, he⟩ := h1 rfl
    exact q_ifAsg h (fun _ => he) (fun z => nomatch z) fun H1 e1 => k v H1 hv e1
  | false =>
    obtain ⟨v, hv, he⟩ := h2 rfl
    exact q_ifAsg h (fun z => nomatch z) (fun _ => he) fun H1 e1 => k v H1 hv e1
end

/-! ### from K02g.lean -/
section
variable {P : Program} {w : World} {K : PySem.W.Frag} {mg : Str → Option Value} {base : Heap}
theorem go_draw {σ : L2.St} {H : Hp} {tA : TA} {E : L2.St → XK} {Q : VK} {p : Addr} {many : Int} {B : Nat} (h : EvA tA σ H [.ref p, .int many]) (hp : Pen K H p B) (hB : B < 1000000) (h0 : 0 < many) (h1 : many < 1073741824)
    (k : ∀ (r : Int) H', 0 ≤ r → r < many → ExB p H H' → Pen K H' p (B + 1) → Q (.int r) H') : tCallSD (spDraw K) [] E tA σ H Q :=
  go_gf h fun H1 e1 => ⟨p, many, B, rfl, hp.mono e1 (Nat.le_refl _), hB, h0, h1, fun r H' a b c d => k r H' a b ((ExB.of e1).trans c) d⟩
/-! ### _law_pick -/
def spPick (K : PySem.W.Frag) : Sp := fun vs H Q _ => ∃ (p : Addr) (B : Nat), Pen K H p B ∧ B < 1000000 ∧
  ((∃ (a : Addr) (xs : List V), vs = [.ref p, .ref a] ∧ SqL K H a xs ∧ a ≠ p ∧ xs ≠ [] ∧ xs.length ≤ 100000 ∧ ∀ x H', x ∈ xs → ExB p H H' → Pen K H' p (B + 1) → Q x H') ∨
   (∃ l : List Nat, vs = [.ref p, .str (SX.S l)] ∧ l ≠ [] ∧ l.length ≤ 100000 ∧ ∀ c H', c ∈ l → ExB p H H' → Pen K H' p (B + 1) → Q (.str (SX.S [c])) H'))
theorem at_nn {α : Type} {xs : List α} {r : Int} (h0 : 0 ≤ r) (h1 : r < (xs.length : Int)) : ∃ x, x ∈ xs ∧ atI xs r = some x := by
  obtain ⟨n, rfl⟩ := Int.eq_ofNat_of_zero_le h0
  have hn : n < xs.length := by omega
  exact ⟨xs[n], List.getElem_mem hn, atI_nat (List.getElem?_eq_getElem hn)⟩
theorem go_pickS {σ : L2.St} {H : Hp} {tA : TA} {E : L2.St → XK} {Q : VK} {p : Addr} {l : List Nat} {B : Nat} (h : EvA tA σ H [.ref p, .str (SX.S l)]) (hp : Pen K H p B) (hB : B < 1000000) (hl : l ≠ []) (hz : l.length ≤ 100000)
    (k : ∀ c H', c ∈ l → ExB p H H' → Pen K H' p (B + 1) → Q (.str (SX.S [c])) H') : tCallSD (spPick K) [] E tA σ H Q :=
  go_gf h fun H1 e1 => ⟨p, B, hp.mono e1 (Nat.le_refl _), hB, .inr ⟨l, rfl, hl, hz, fun c H' a b d => k c H' a ((ExB.of e1).trans b) d⟩⟩
/-- the list a new one -/
theorem go_pickN {σ : L2.St} {H : Hp} {tl : TE} {te : TE} {E : L2.St → XK} {Q : VK} {p : Addr} {xs : List V} {B : Nat} (h0 : Ev te σ H (.ref p)) (h : EvL tl σ H xs) (hp : Pen K H p B) (hB : B < 1000000) (hne : xs ≠ []) (hz : xs.length ≤ 100000)
    (k : ∀ x H', x ∈ xs → ExB p H H' → Pen K H' p (B + 1) → Q x H') : tCallSD (spPick K) [] E (tCons te (tCons tl tNil)) σ H Q :=
  h0 H (Ex.refl H) _ fun H1 e1 => h H1 e1 _ fun a H2 ha e2 h2 => ⟨p, B, (hp.mono e1 (Nat.le_refl _)).mono e2 (Nat.le_refl _), hB, .inl ⟨a, xs, rfl, sq_of h2, (hp.mono e1 (Nat.le_refl _)).ne ha, hne, hz, fun x H' a b d => k x H' a ((ExB.of (e1.trans e2)).trans b) d⟩⟩
/-! ### _law_common -/
def spCom : Sp := fun vs H Q _ => ∃ a b : Int, vs = [.int a, .int b] ∧ a.natAbs < 2 ^ 290 ∧ b.natAbs < 2 ^ 290 ∧ ∀ H', Same H H' → Q (.int ((Nat.gcd a.natAbs b.natAbs : Nat) : Int)) H'
theorem q_par {σ : L2.St} {H : Hp} {tA : TA} {tz : TS} {D : Ends} {i j : Nat} {v w : V} (h : EvA tA σ H [v, w]) (k : ∀ H1, Ex H H1 → tz D ((σ.set i (some v)).set j (some w)) H1) : tSeq (tPar i j tA) tz D σ H := h H (Ex.refl H) _ fun H1 e1 => ⟨v, w, rfl, k H1 e1⟩
theorem s_par {σ : L2.St} {H : Hp} {tA : TA} {D : Ends} {i j : Nat} {v w : V} (h : EvA tA σ H [v, w]) (k : ∀ H1, Ex H H1 → D.nx ((σ.set i (some v)).set j (some w)) H1) : tPar i j tA D σ H := h H (Ex.refl H) _ fun H1 e1 => ⟨v, w, rfl, k H1 e1⟩
theorem abs_nat (a : Int) : (if a < 0 then -a else a) = ((a.natAbs : Nat) : Int) := by split <;> omega
/-- what Euclid's pair keeps at turn i -/
def Eu (g : Nat) (i x y : Nat) : Prop := Nat.gcd x y = g ∧ (i = 0 → x < 2 ^ 290 ∧ y < 2 ^ 290) ∧ (0 < i → y < x ∧ x * y * 2 ^ (i - 1) < 2 ^ 580)
theorem Eu.step {g i x y : Nat} (h : Eu g i x y) (hy : y ≠ 0) : Eu g (i + 1) y (x % y) := by
  obtain ⟨h1, h2, h3⟩ := h
  have hm : x % y < y := Nat.mod_lt _ (by omega)
  refine ⟨?_, fun z => by omega, fun _ => ⟨hm, ?_⟩⟩
  · rw [← h1, Nat.gcd_comm, ← Nat.gcd_rec, Nat.gcd_comm]
  · rw [Nat.add_sub_cancel]
    by_cases hi : i = 0
    · subst hi
      obtain ⟨hx, hy'⟩ := h2 rfl
      rw [Nat.pow_zero, Nat.mul_one]
      have h4 : x % y < 2 ^ 290 := Nat.lt_trans hm hy'
      calc y * (x % y) < 2 ^ 290 * 2 ^ 290 := Nat.mul_lt_mul'' hy' h4
        _ = 2 ^ 580 := by rw [← Nat.pow_add]
    · obtain ⟨h5, h6⟩ := h3 (by omega)
      have h7 : 2 * (x % y) ≤ x := by
        have := Nat.div_add_mod x y
        have h8 : 1 ≤ x / y := (Nat.le_div_iff_mul_le (by omega)).mpr (by omega)
        have h9 : y * 1 ≤ y * (x / y) := Nat.mul_le_mul_left _ h8
        omega
      have e : 2 ^ i = 2 * 2 ^ (i - 1) := by
        rw [← Nat.pow_succ']
        congr 1
        omega
      calc y * (x % y) * 2 ^ i = y * (2 * (x % y)) * 2 ^ (i - 1) := by rw [e]; simp [Nat.mul_assoc, Nat.mul_left_comm, Nat.mul_comm]
        _ ≤ y * x * 2 ^ (i - 1) := Nat.mul_le_mul_right _ (Nat.mul_le_mul_left _ h7)
        _ = x * y * 2 ^ (i - 1) := by rw [Nat.mul_comm y x]
        _ < 2 ^ 580 := h6
theorem Eu.done {g x y : Nat} (h : Eu g 600 x y) : y = 0 := by
  obtain ⟨_, _, h3⟩ := h
  obtain ⟨h5, h6⟩ := h3 (by decide)
  cases y with
  | zero => rfl
  | succ y =>
    exfalso
    have h7 : 1 ≤ x * (y + 1) := Nat.mul_pos (by omega) (by omega)
    have h8 : 2 ^ 599 ≤ x * (y + 1) * 2 ^ 599 := Nat.le_mul_of_pos_left _ h7
    have h9 : (2 : Nat) ^ 580 < 2 ^ 599 := Nat.pow_lt_pow_right (by decide) (by decide)
    have h10 : x * (y + 1) * 2 ^ 599 < 2 ^ 580 := h6
    omega
theorem spv_com {H : Hp} {a b : Int} (ha : a.natAbs < 2 ^ 290) (hb : b.natAbs < 2 ^ 290) : SpV spCom [.int a, .int b] H (.int ((Nat.gcd a.natAbs b.natAbs : Nat) : Int)) := fun H1 e Q q E => ⟨a, b, rfl, ha, hb, q⟩
end

/-! ### from K02h.lean -/
/-- digits without a zero ahead -/
def Canon (l : List Nat) : Prop := NumText.AllDigits l ∧ ∃ c r, l = c :: r ∧ 49 ≤ c
theorem canon_app {l m : List Nat} (h : Canon l) (hm : NumText.AllDigits m) : Canon (l ++ m) := by
  obtain ⟨h1, c, r, rfl, hc⟩ := h
  refine ⟨fun x hx => ?_, c, r ++ m, rfl, hc⟩
  rcases List.mem_append.mp hx with z | z
  · exact h1 x z
  · exact hm x z
theorem canon_take {l : List Nat} {n : Nat} (h : Canon l) (hn : 0 < n) : Canon (l.take n) := by
  obtain ⟨h1, c, r, rfl, hc⟩ := h
  cases n with
  | zero => omega
  | succ n => exact ⟨fun x hx => h1 x (List.mem_of_mem_take hx), c, r.take n, rfl, hc⟩
theorem numL_two {n : Nat} (h : 10 ≤ n) : 2 ≤ (TL.numL n).length := by
  rw [TL.numL_step h, List.length_append, List.length_singleton]
  have := List.length_pos_iff.mpr (TL.numL_ne (n / 10))
  omega
theorem S_slice_to (l : List Nat) (n : Nat) (h : l.length ≤ 100000) : Txt.slice (SX.S l) none (some (n : Int)) = SX.S (l.take n) := by
  rw [SX.slice_to (by omega)]
  rfl
section
variable {σ : L2.St} {H : Hp} {ta tb te : TE} {r : R2} {Q : VK} {x y : V} {D : Ends} {i : Nat} {tl th : TO} {rc : List V → Hp → VK → Prop} {rs : V → Option Int → Option Int → Hp → VK → Prop}
theorem s_set (h : te σ H fun v H1 => D.nx (σ.set i (some v)) H1) : tAsg te (gName i) D σ H := h
theorem g_op (ha : Ev ta σ H x) (h : ∀ H1, Ex H H1 → tb σ H1 fun y H2 => r x y H2 Q) : tOp r ta tb σ H Q := ha H (Ex.refl H) _ h
theorem g_op1 (h : ta σ H fun x H1 => tb σ H1 fun y H2 => r x y H2 Q) : tOp r ta tb σ H Q := h
theorem g_cb1 (h : ta σ H fun x H1 => rc [x] H1 Q) : tCB rc (tCons ta tNil) σ H Q := h
theorem g_sl (h : te σ H fun x H1 => tl σ H1 fun l H2 => th σ H2 fun m H3 => rs x l m H3 Q) : tSl rs te tl th σ H Q := h
end
section
variable {P : Program} {w : World} {K : PySem.W.Frag} {mg : Str → Option Value} {base : Heap}
/-! ### _law_digits -/
def spDig (K : PySem.W.Frag) : Sp := fun vs H Q _ => ∃ (p : Addr) (n B : Nat), vs = [.ref p, .int (n : Int)] ∧ Pen K H p B ∧ B < 900000 ∧ 0 < n ∧ n ≤ 1000 ∧ ∀ l H', Canon l → l.length = n → ExB p H H' → Pen K H' p (B + n) → Q (.str (SX.S l)) H'
end

/-! ### from K02i.lean -/
section
variable {σ : L2.St} {H : Hp} {tl : TE} {tu tz : TS} {D : Ends} {j : Nat}
theorem q_forS {l : List Nat} (h : Ev tl σ H (.str (SX.S l))) (Pv : Nat → L2.St → Hp → Prop) (h0 : ∀ H1, Ex H H1 → Pv 0 σ H1)
    (hs : ∀ i c σ' H', l[i]? = some c → Pv i σ' H' → tu { D with nx := Pv (i + 1), ct := Pv (i + 1), bk := tz D } (σ'.set j (some (.str (SX.S [c])))) H') (hd : ∀ σ' H', Pv l.length σ' H' → tz D σ' H') : tSeq (tFor (iStr tl) (gName j) tu) tz D σ H :=
  h H (Ex.refl H) _ fun H1 e => ⟨SX.S l, rfl, by
    have hn : (SX.S l).cps.size = l.length := by simp [SX.S]
    refine for_it (D := { D with nx := tz D }) (n := (SX.S l).cps.size) walk_str Pv (h0 H1 e) (fun _ _ _ _ _ => True.intro) (fun i x σ' H2 H3 hi p hy => ?_) (fun σ' H' p => ?_)
    · obtain ⟨rfl, c, hc, rfl⟩ := hy
      exact hs i c σ' _ (by simpa [SX.S] using hc) p
    · rw [hn] at p
      exact hd σ' H' p⟩
end
section
variable {P : Program} {w : World} {K : PySem.W.Frag} {mg : Str → Option Value} {base : Heap}
/-! ### _law_whole -/
theorem dig_index : ∀ k : Nat, k < 10 → Builtin.Str.occurrences (Str.ofString "0123456789") (SX.S [48 + k]) 0 (Str.ofString "0123456789").length 1 = [k] := by decide +kernel
theorem notDig_numIn {l : List Nat} {c : Nat} (hc : c ∈ plainOf l) (hd : isDig c = false) : numIn l = none := by
  unfold numIn
  rw [if_pos]
  exact .inr (.inr (List.any_eq_true.mpr ⟨c, hc, by rw [hd]; rfl⟩))
theorem take1 {l : List Nat} {c : Nat} {r : List Nat} (h : l = c :: r) : l.take 1 = [c] := by rw [h]; rfl
end

/-! ### from K02j.lean -/
theorem idx_one {p q : List Nat} {c : Nat} (h : c ∉ p) : ∃ r, Builtin.Str.occurrences (SX.S (p ++ c :: q)) (SX.S [c]) 0 (SX.S (p ++ c :: q)).length 1 = p.length :: r := by
  have at_iff : ∀ i, StrLaws.At (SX.S (p ++ c :: q)) (SX.S [c]) (SX.S (p ++ c :: q)).length i ↔ (p ++ c :: q)[i]? = some c := fun i => StrLaws.subAt_one (SX.S (p ++ c :: q)) c i
  have h1 : (p ++ c :: q)[p.length]? = some c := by simp
  rcases StrLaws.occ_head (SX.S (p ++ c :: q)) (SX.S [c]) 1 (Nat.le_refl 1) with ⟨_, hn⟩ | ⟨i, r, e, ha, hm⟩
  · exact absurd ((at_iff _).mpr h1) (hn p.length)
  · refine ⟨r, ?_⟩
    rw [e]
    have hi := (at_iff i).mp ha
    have h2 : ¬ i < p.length := fun z => by
      rw [List.getElem?_append_left z] at hi
      exact h (List.mem_of_getElem? hi)
    have h3 : ¬ p.length < i := fun z => hm p.length z ((at_iff _).mpr h1)
    have h4 : i = p.length := by omega
    rw [h4]
theorem split1 {l : List Nat} {c : Nat} (h : c ∈ l) : ∃ p q, l = p ++ c :: q ∧ c ∉ p := List.eq_append_cons_of_mem h
theorem ratIn_none {l : List Nat} (h : 47 ∉ l) : ratIn l = (numIn l).map fun t => (t, 1) := by
  have hs : TL.spl [47] 0 [] l = [l] := TL.spl_last1 h
  unfold ratIn
  rw [hs]
theorem ratIn_cut {p q : List Nat} (h : 47 ∉ p) : ratIn (p ++ 47 :: q) = match numIn p, numIn q with
    | some t, some b => if b < 2 ∨ Nat.gcd t.natAbs b.natAbs ≠ 1 then none else some (t, b)
    | _, _ => none := by
  have hs : TL.spl [47] 0 [] (p ++ 47 :: q) = p :: TL.spl [47] 0 [] q := TL.spl_part1 (S := []) (acc := []) (rest := q) h
  by_cases hq : 47 ∈ q
  · have hn : numIn q = none := notDig_numIn (c := 47) (by
      unfold plainOf
      split
      · rename_i z
        cases q with
        | nil => simp at hq
        | cons a r =>
          simp at z hq ⊢
          rcases hq with e | e
          · omega
          · exact e
      · exact hq) (by decide)
    obtain ⟨a, b, rfl, ha⟩ := split1 hq
    have hs2 : TL.spl [47] 0 [] (a ++ 47 :: b) = a :: TL.spl [47] 0 [] b := TL.spl_part1 (S := []) (acc := []) (rest := b) ha
    rw [hs2] at hs
    rw [ratIn0 hs (.inr (by
      have := List.length_pos_iff.mpr (spl_ne [47] 0 [] b)
      simp only [List.length_cons]
      omega)), hn]
    cases numIn p <;> rfl
  · have hs2 : TL.spl [47] 0 [] q = [q] := TL.spl_last1 hq
    rw [hs2] at hs
    unfold ratIn
    rw [hs] <;> rfl
section
variable {P : Program} {w : World} {K : PySem.W.Frag} {mg : Str → Option Value} {base : Heap}
/-! ### _law_pair -/
def PPair : Option (Int × Int) → V → Hp → Prop
  | none, v, _ => v = .non
  | some (t, b), v, H => ∃ q, v = .ref q ∧ H q = some (.tup [.int t, .int b])
def spPair : Sp := fun vs H Q _ => ∃ l : List Nat, vs = [.str (SX.S l)] ∧ l.length ≤ 100000 ∧ ∀ v H', Ex H H' → PPair (ratIn l) v H' → Q v H'
theorem b290 : ∀ n : Nat, n < 10 ^ 60 → n < 2 ^ 290 := fun n h => Nat.lt_of_lt_of_le (Nat.lt_trans h ten60) (Nat.pow_le_pow_right (by decide) (by decide))
theorem lt290 {n : Nat} (h : n < 2 ^ 200) : n < 2 ^ 290 := Nat.lt_of_lt_of_le h (Nat.pow_le_pow_right (by decide) (by decide))
end

/-! ### from K02k.lean -/
section
variable {P : Program} {w : World} {K : PySem.W.Frag} {mg : Str → Option Value} {base : Heap} {cPE cBR cBT cS cR : Addr}
/-! ### _law_heard -/
/-- what the caught error's class lets one do -/
structure BtC (K : PySem.W.Frag) (cPE cBT : Addr) : Prop where
  xf : XfC K cBT
  ex : ExcC K cBT
  line : PySem.W.findIn K (.ref cBT) "line" = some none
  word : PySem.W.findIn K (.ref cBT) "word" = some none
  under : PySem.W.exmOne K (.ref cBT) (.ref cPE) = some true
def PHeard (C : Addr) : Sum Int (Int × Int) → V → Hp → Prop
  | .inl i, v, H => ∃ q, v = .ref q ∧ H q = some (.tup [.int 0, .int i])
  | .inr (t, b), v, H => ∃ q r, v = .ref q ∧ H q = some (.lst [.ref r]) ∧ IsR C H r t b
def spHeard (K : PySem.W.Frag) (cR : Addr) : Sp := fun vs H Q _ => ∃ (t : V) (o : Sum Int (Int × Int)), vs = [t] ∧
  ((∃ cs : List Nat, t = .str (SX.S cs) ∧ cs.length ≤ 100000 ∧ o = rdIn cs) ∨ (∃ tv, TyE K H t tv ∧ PySem.W.kitOne K tv (.type "str") = some false ∧ o = .inl 0)) ∧ ∀ v H', Ex H H' → PHeard cR o v H' → Q v H'
end

/-! ### from K02l.lean -/
theorem canon_int {l : List Nat} (h : Canon l) (hl : l.length ≤ 60) : intText? (SX.S l) = some ((NumText.digitsVal l : Nat) : Int) ∧ 0 < NumText.digitsVal l ∧ NumText.digitsVal l < 10 ^ 60 := by
  obtain ⟨h1, c, r, e, hc⟩ := h
  refine ⟨intText_digits (x := SX.S l) h1 (by show l ≠ []; rw [e]; simp) (by rw [SX.S_len]; omega), by rw [e]; exact NumText.digitsVal_pos hc, ?_⟩
  have := digs_lt l fun c hc => (h1 c hc).2
  exact Nat.lt_of_lt_of_le this (Nat.pow_le_pow_right (by decide) hl)
theorem coprime_div {t b : Int} {c : Nat} (hb : b ≠ 0) (hc : c = Nat.gcd t.natAbs b.natAbs) : Nat.gcd (t / (c : Int)).natAbs (b / (c : Int)).natAbs = 1 ∧ (0 < b → 0 < b / (c : Int)) ∧ (t / (c : Int)).natAbs ≤ t.natAbs ∧ (b / (c : Int)).natAbs ≤ b.natAbs := by
  have hpos : 0 < c := by rw [hc]; exact Nat.gcd_pos_of_pos_right _ (by omega)
  have d1 : (c : Int) ∣ t := Int.ofNat_dvd_left.mpr (by rw [hc]; exact Nat.gcd_dvd_left _ _)
  have d2 : (c : Int) ∣ b := Int.ofNat_dvd_left.mpr (by rw [hc]; exact Nat.gcd_dvd_right _ _)
  obtain ⟨x, rfl⟩ := d1
  obtain ⟨y, rfl⟩ := d2
  have hc0 : (c : Int) ≠ 0 := by omega
  rw [Int.mul_ediv_cancel_left _ hc0, Int.mul_ediv_cancel_left _ hc0]
  refine ⟨?_, fun h => ?_, ?_, ?_⟩
  · have e : c = c * Nat.gcd x.natAbs y.natAbs := by
      rw [← Nat.gcd_mul_left]
      conv => lhs; rw [hc]
      rw [Int.natAbs_mul, Int.natAbs_mul, Int.natAbs_natCast]
    have : c * 1 = c * Nat.gcd x.natAbs y.natAbs := by rw [Nat.mul_one]; exact e
    exact (Nat.eq_of_mul_eq_mul_left hpos this).symm
  · exact Int.pos_of_mul_pos_right h (by omega)
  · rw [Int.natAbs_mul, Int.natAbs_natCast]
    exact Nat.le_mul_of_pos_left _ hpos
  · rw [Int.natAbs_mul, Int.natAbs_natCast]
    exact Nat.le_mul_of_pos_left _ hpos
section
variable {P : Program} {w : World} {K : PySem.W.Frag} {mg : Str → Option Value} {base : Heap} {cPE cBR cBT cS cR : Addr}
/-! ### _law_numbers -/
def Good (t b : Int) : Prop := 0 < b ∧ Nat.gcd t.natAbs b.natAbs = 1 ∧ t.natAbs < 10 ^ 60 ∧ b.natAbs < 10 ^ 60
def spNums (K : PySem.W.Frag) : Sp := fun vs H Q _ => ∃ (p : Addr) (B : Nat), vs = [.ref p] ∧ Pen K H p B ∧ B < 800000 ∧ ∀ q t b H', Good t b → q ≠ p → H' q = some (.tup [.int t, .int b]) → ExB p H H' → Pen K H' p (B + 200) → Q (.ref q) H'
abbrev lens : List V := [.int 1, .int 1, .int 2, .int 5, .int 30, .int 59, .int 60]
theorem lens_in {x : V} (h : x ∈ lens) : ∃ n : Nat, x = .int (n : Int) ∧ 0 < n ∧ n ≤ 60 := by
  simp [lens] at h
  rcases h with rfl | rfl | rfl | rfl | rfl | rfl
  · exact ⟨1, rfl, by decide, by decide⟩
  · exact ⟨2, rfl, by decide, by decide⟩
  · exact ⟨5, rfl, by decide, by decide⟩
  · exact ⟨30, rfl, by decide, by decide⟩
  · exact ⟨59, rfl, by decide, by decide⟩
  · exact ⟨60, rfl, by decide, by decide⟩
/-- int(_law_digits(pen, _law_pick(pen, [1, 1, 2, ..]))) -/
theorem go_num {σ : L2.St} {H : Hp} {Q : VK} {p : Addr} {B : Nat} {E1 E2 : L2.St → XK} {te te2 : TE} {ta : TA} (h1 : Ev te σ H (.ref p)) (h2 : Ev te2 σ H (.ref p)) (h3 : EvA ta σ H lens) (hp : Pen K H p B) (hB : B < 850000)
    (k : ∀ (n : Nat) H', 0 < n → n < 10 ^ 60 → ExB p H H' → Pen K H' p (B + 61) → Q (.int (n : Int)) H') :
    tCB (fun xs H Q => ∃ a n, xs = [V.str a] ∧ intText? a = some n ∧ a.length ≤ 640 ∧ Q (.int n) H) (tCons (tCallSD (spDig K) [] E1 (tCons te (tCons (tCallSD (spPick K) [] E2 (tCons te2 (tCons (tLst ta) tNil))) tNil))) tNil) σ H Q := by
  refine h1 H (Ex.refl H) _ fun H1 e1 => ?_
  refine go_pickN (h2.mono e1) ((el_lst h3 (by decide)).mono e1) (hp.mono e1 (Nat.le_refl _)) (by omega) (by decide) (by decide) fun x H2 hx e2 hp2 => ?_
  obtain ⟨n, rfl, n0, n1⟩ := lens_in hx
  refine ⟨p, n, B + 1, rfl, hp2, by omega, n0, by omega, fun l H3 hl hln e3 hp3 => ?_⟩
  obtain ⟨a, b, c⟩ := canon_int hl (by omega)
  exact ⟨_, _, rfl, a, by rw [SX.S_len]; omega, k _ H3 b c (((ExB.of e1).trans e2).trans e3) (hp3.mono (Ex.refl _) (by omega))⟩
end

/-! ### from K02m.lean -/
/-! ### texts of numbers are told back -/
theorem numL_of {cs : List Nat} (h : NumText.AllDigits cs) (h0 : cs ≠ []) (h1 : cs.length = 1 ∨ ∃ c r, cs = c :: r ∧ 49 ≤ c) : TL.numL (NumText.digitsVal cs) = cs := by
  obtain ⟨c, r, e⟩ := List.exists_cons_of_ne_nil h0
  have hl : cs.length = (cs.length - 1) + 1 := by rw [e]; simp
  have := NumText.toDigits_digitsVal (cs.length - 1) cs hl h (by
    rcases h1 with z | z
    · left; omega
    · exact .inr z)
  unfold TL.numL
  rw [this, List.map_map]
  have : ∀ x ∈ cs, (Char.toNat ∘ Char.ofNat) x = x := fun x hx => by
    have hd := h x hx
    have hb : ∀ y : Nat, y < 128 → (Char.ofNat y).toNat = y := by decide
    exact hb x (by have := hd.2; omega)
  rw [List.map_congr_left this, List.map_id']
theorem numIn_back {l : List Nat} {t : Int} (h : numIn l = some t) : intL t = l := by
  unfold numIn at h
  split at h
  · cases h
  rename_i hg
  split at h
  · cases h
  rename_i hg2
  have h0 : plainOf l ≠ [] := fun z => hg (.inl z)
  have h2 : ¬ ((plainOf l).any (fun c => !isDig c) = true) := fun z => hg (.inr (.inr z))
  have hd := allDig h2
  obtain ⟨c, r, ec⟩ := List.exists_cons_of_ne_nil h0
  have hc := hd c (by rw [ec]; exact List.mem_cons_self)
  have ht := Option.some.inj h
  by_cases hn : l.take 1 = [45]
  · rw [if_pos hn] at ht
    have el := plain_neg hn
    have hc9 : 49 ≤ c := by
      by_cases z : c = 48
      · exfalso
        refine hg2 ⟨by rw [ec, z]; rfl, fun q => ?_⟩
        rw [q] at hn
        exact absurd hn (by decide)
      · have := hc.1
        omega
    have hb := numL_of hd h0 (.inr ⟨c, r, ec, hc9⟩)
    have hpos : 0 < NumText.digitsVal (plainOf l) := by rw [ec]; exact NumText.digitsVal_pos hc9
    have : t < 0 := by omega
    unfold intL
    rw [if_pos this]
    have e2 : t.natAbs = NumText.digitsVal (plainOf l) := by omega
    rw [e2, hb]
    exact el.symm
  · rw [if_neg hn] at ht
    have el := plain_pos hn
    rw [el] at h0 hd ec ht hg2
    have : ¬ t < 0 := by omega
    unfold intL
    rw [if_neg this]
    have e2 : t.natAbs = NumText.digitsVal l := by omega
    rw [e2]
    refine numL_of hd h0 ?_
    by_cases z : c = 48
    · left
      by_cases q : l = [48]
      · rw [q]; rfl
      · exact absurd ⟨by rw [ec, z]; rfl, q⟩ hg2
    · exact .inr ⟨c, r, ec, by have := hc.1; omega⟩
theorem ratIn_back {l : List Nat} {t b : Int} (h : ratIn l = some (t, b)) : ratS t b = l ∧ t.natAbs < 2 ^ 200 ∧ b.natAbs < 2 ^ 200 ∧ 0 < b ∧ Nat.gcd t.natAbs b.natAbs = 1 := by
  by_cases hm : 47 ∈ l
  · obtain ⟨p, q, rfl, hp⟩ := split1 hm
    rw [ratIn_cut hp] at h
    cases hP : numIn p with
    | none => rw [hP] at h; cases h
    | some t' =>
      cases hQ : numIn q with
      | none => rw [hP, hQ] at h; cases h
      | some b' =>
        rw [hP, hQ] at h
        have h' : (if b' < 2 ∨ Nat.gcd t'.natAbs b'.natAbs ≠ 1 then none else some (t', b')) = some (t, b) := h
        by_cases hc : b' < 2 ∨ Nat.gcd t'.natAbs b'.natAbs ≠ 1
        · rw [if_pos hc] at h'; cases h'
        · rw [if_neg hc] at h'
          cases h'
          have h2 : ¬ b < 2 := fun z => hc (.inl z)
          have h3 : Nat.gcd t.natAbs b.natAbs = 1 := by
            by_cases z : Nat.gcd t.natAbs b.natAbs = 1
            · exact z
            · exact absurd (.inr z) hc
          refine ⟨?_, numIn_lt hP, numIn_lt hQ, by omega, h3⟩
          unfold ratS
          rw [if_neg (by omega), numIn_back hP, numIn_back hQ]
          rfl
  · rw [ratIn_none hm] at h
    cases hP : numIn l with
    | none => rw [hP] at h; cases h
    | some t' =>
      rw [hP] at h
      cases h
      refine ⟨?_, numIn_lt hP, by decide, by decide, by simp⟩
      unfold ratS
      rw [if_pos rfl]
      exact numIn_back hP
/-- one word alone: the text itself -/
theorem one_word {cs w : List Nat} (h : TL.spl [32] 0 [] cs = [w]) : w = cs := by
  by_cases hm : 32 ∈ cs
  · obtain ⟨p, q, rfl, hp⟩ := split1 hm
    have hs2 : TL.spl [32] 0 [] (p ++ 32 :: q) = p :: TL.spl [32] 0 [] q := TL.spl_part1 (S := []) (acc := []) (rest := q) hp
    rw [hs2] at h
    have := congrArg List.length h
    have h3 := List.length_pos_iff.mpr (spl_ne [32] 0 [] q)
    simp only [List.length_cons, List.length_nil] at this
    omega
  · have hs : TL.spl [32] 0 [] cs = [cs] := TL.spl_last1 hm
    rw [hs] at h
    simpa using h.symm
theorem shown2_len {t b : Int} (ht : t.natAbs < 10 ^ 100) (hb : b.natAbs < 10 ^ 100) : (PyData.tuple [.int t, .int b]).shown.length ≤ sizeLine ∧ (PyData.tuple [.int t, .int b]).showable = true := by
  have lt := lg (Nat.lt_trans ht ten100)
  have lb := lg (Nat.lt_trans hb ten100)
  constructor
  · have h := tupleText_len_le (PyData.shownAll [.int t, .int b])
    have h1 := intL_le (by decide) ht
    have h2 := intL_le (by decide) hb
    have e1 : ((toString t : String) : Str).length = (intL t).length := by rw [int_text, SX.S_len]
    have e2 : ((toString b : String) : Str).length = (intL b).length := by rw [int_text, SX.S_len]
    have h3 : ((PyData.shownAll [.int t, .int b]).map (·.length)).sum = (intL t).length + (intL b).length := by
      show List.sum [((toString t : String) : Str).length, ((toString b : String) : Str).length] = _
      rw [e1, e2]
      simp
    have h4 : (PyData.shownAll [.int t, .int b]).length = 2 := rfl
    rw [h3, h4] at h
    show (tupleText (PyData.shownAll [.int t, .int b])).length ≤ sizeLine
    have : 1000 ≤ sizeLine := by decide
    omega
  · show (decide (t.natAbs.log2 < 1920) && (decide (b.natAbs.log2 < 1920) && true)) = true
    rw [decide_eq_true lt, decide_eq_true lb]
    rfl
section
variable {P : Program} {w : World} {K : PySem.W.Frag} {mg : Str → Option Value} {base : Heap} {cPE cBR cBT cS cR : Addr} {σ : L2.St} {H : Hp}
/-- repr of a pair of ints -/
theorem rc_repr2 {q : Addr} {t b : Int} (h : SqT K H q [.int t, .int b]) (ht : t.natAbs < 10 ^ 100) (hb : b.natAbs < 10 ^ 100) : RC (rReprD K) [.ref q] H (.str (PyData.tuple [.int t, .int b]).shown) := fun H1 e Q k =>
  ⟨.ref q, .tuple [.int t, .int b], rfl, .tup (ex_t e h) (.cons (.int t) (.cons (.int b) .nil)), (shown2_len ht hb).2, rfl, by show 1 ≤ 50; decide, (shown2_len ht hb).1, k H1 (Ex.refl H1)⟩
theorem ev_reprN {tA : TA} {t b : Int} (h : EvA tA σ H [.int t, .int b]) (ht : t.natAbs < 10 ^ 100) (hb : b.natAbs < 10 ^ 100) : Ev (tCB (rReprD K) (tCons (tTup tA) tNil)) σ H (.str (PyData.tuple [.int t, .int b]).shown) := fun H1 e Q k =>
  g_cb1 (eu_tup h (by show 2 ≤ 100000; decide) H1 e _ fun q H2 hq e2 h2 => rc_repr2 (K := K) (st_of h2) ht hb H2 (Ex.refl H2) Q fun H3 e3 => k H3 (e2.trans e3))
end

/-! ### from K02n.lean -/
section
variable {K : PySem.W.Frag} {σ : L2.St} {H : Hp} {ta tb te : TE} {tz : TS} {D : Ends} {i j : Nat} {w : V} {xs ys : List V} {P1 P2 : V → Hp → Prop} {Q : VK}
theorem q_parL (h : EvL ta σ H xs) (h2 : Ev tb σ H w) (k : ∀ p H1, H p = none → Ex H H1 → H1 p = some (.lst xs) → tz D ((σ.set i (some (.ref p))).set j (some w)) H1) : tSeq (tPar i j (tCons ta (tCons tb tNil))) tz D σ H :=
  h H (Ex.refl H) _ fun p H1 hp e1 h1 => h2 H1 e1 _ fun H2 e2 => ⟨.ref p, w, rfl, k p H2 hp (e1.trans e2) (e2 _ _ h1)⟩
theorem s_parL (h : EvL ta σ H xs) (h2 : Ev tb σ H w) (k : ∀ p H1, H p = none → Ex H H1 → H1 p = some (.lst xs) → D.nx ((σ.set i (some (.ref p))).set j (some w)) H1) : tPar i j (tCons ta (tCons tb tNil)) D σ H :=
  h H (Ex.refl H) _ fun p H1 hp e1 h1 => h2 H1 e1 _ fun H2 e2 => ⟨.ref p, w, rfl, k p H2 hp (e1.trans e2) (e2 _ _ h1)⟩
theorem q_parP (h : EvP ta σ H P1) (h2 : ∀ v H1, Ex H H1 → P1 v H1 → EvP tb σ H1 P2) (k : ∀ v w H1 H2, Ex H H1 → P1 v H1 → Ex H1 H2 → P2 w H2 → tz D ((σ.set i (some v)).set j (some w)) H2) : tSeq (tPar i j (tCons ta (tCons tb tNil))) tz D σ H :=
  h H (Ex.refl H) _ fun v H1 e1 p1 => h2 v H1 e1 p1 H1 (Ex.refl H1) _ fun w H2 e2 p2 => ⟨v, w, rfl, k v w H1 H2 e1 p1 e2 p2⟩
theorem el_cat {a : Addr} (h : Ev ta σ H (.ref a)) (ha : H a = some (.lst xs)) (h2 : EvL tb σ H ys) (hz : xs.length + ys.length ≤ 100000) : EvL (tOp rCat ta tb) σ H (xs ++ ys) := fun H1 e Q q =>
  h H1 e _ fun H2 e2 => h2 H2 (e.trans e2) _ fun b H3 hb e3 h3 => ⟨a, b, xs, ys, rfl, rfl, ((e.trans e2).trans e3) _ _ ha, h3, sz_of hz, fun p hp => q p _ (fresh_back (e2.trans e3) hp) ((e2.trans e3).trans (Ex.new hp)) upd_same⟩
end
section
variable {P : Program} {w : World} {K : PySem.W.Frag} {mg : Str → Option Value} {base : Heap} {cPE cBR cBT cS cR : Addr}
/-! ### _law_read_right -/
def spRR : Sp := fun vs H Q _ => ∃ cs : List Nat, vs = [.str (SX.S cs)] ∧ cs.length ≤ 50000 ∧ ∀ H', Ex H H' → Q (.bl true) H'
theorem spl_count (S : List Nat) : ∀ (l : List Nat) (k : Nat) (acc : List Nat), (TL.spl S k acc l).length ≤ l.length + 1 := by
  intro l
  induction l with
  | nil => intro k acc; rw [TL.spl_nil]; simp
  | cons c r ih =>
    intro k acc
    cases k with
    | zero =>
      cases hpre : TL.pre S (c :: r) with
      | true =>
        rw [TL.spl_hit hpre]
        have := ih (S.length - 1) []
        simp only [List.length_cons] at this ⊢
        omega
      | false =>
        rw [TL.spl_miss hpre]
        have := ih 0 (acc ++ [c])
        simp only [List.length_cons] at this ⊢
        omega
    | succ k =>
      have := ih k acc
      show (TL.spl S k acc r).length ≤ _
      simp only [List.length_cons]
      omega
theorem strs_at {ws : List (List Nat)} : (ws.map fun w => V.str (SX.S w)) = (ws.map fun w => V.str (SX.S w)) := rfl
theorem notFirst_self : PySem.W.notFirst K cR (.ref cR) = true := by
  unfold PySem.W.notFirst
  simp
theorem ten200 : ∀ n : Nat, n < 2 ^ 200 → n < 10 ^ 100 := fun n h => Nat.lt_trans h (by decide +kernel)
end

/-! ### from K02o.lean -/
/-! ### text * int -/
def reps (n : Nat) (a : List Nat) : List Nat := (List.replicate n a).flatten
theorem foldl_reps (a : List Nat) : ∀ (n : Nat) (acc : Array Nat), (List.replicate n (SX.S a).cps).foldl (· ++ ·) acc = acc ++ (reps n a).toArray := by
  intro n
  induction n with
  | zero => intro acc; simp [reps]
  | succ n ih =>
    intro acc
    rw [List.replicate_succ, List.foldl_cons, ih]
    unfold reps
    rw [List.replicate_succ, List.flatten_cons]
    show acc ++ a.toArray ++ _ = _
    simp [Array.append_assoc]
theorem reps_len (n : Nat) (a : List Nat) : (reps n a).length = n * a.length := by
  unfold reps
  induction n with
  | zero => simp
  | succ n ih => rw [List.replicate_succ, List.flatten_cons, List.length_append, ih, Nat.succ_mul]; omega
def rMulS : R2 := fun x y H Q => ∃ (c : Nat) (n : Int), x = .str (SX.S [c]) ∧ y = .int n ∧ 2 ≤ n ∧ n ≤ 50000 ∧ Q (.str (SX.S (reps n.toNat [c]))) H
theorem op_mulS {X : Cx} : OpR X (binaryOp .Mult) rMulS := by
  intro pins s σ H x y v u Q I rx ry h
  obtain ⟨c, n, rfl, rfl, h2, hn, q⟩ := h
  obtain ⟨t, rfl⟩ := rx
  obtain ⟨t', rfl⟩ := ry
  have hl : (SX.S [c]).length = 1 := SX.S_len [c]
  refine PySem.P.mul_str ?_ ?_ ?_ ?_
  · rw [decide_eq_false (by omega), decide_eq_false (by omega)]; rfl
  · intro _ _ z
    rw [hl] at z
    have : (1 : Int) ≤ (2 ^ 63 - 1) / n := Int.le_ediv_of_mul_le (by omega) (by omega)
    have z' : (1 : Int) > (2 ^ 63 - 1) / n := z
    omega
  · intro _ _
    rw [hl]
    unfold Builtin.Str.tooLong
    have : sizeLine ≥ 100000 := by decide
    exact decide_eq_false (by omega)
  · rw [if_neg (by omega), if_neg (by rw [hl]; simp; omega), foldl_reps]
    have e : (⟨#[] ++ (reps n.toNat [c]).toArray⟩ : Str) = SX.S (reps n.toNat [c]) := by
      show (⟨#[] ++ (reps n.toNat [c]).toArray⟩ : Str) = ⟨(reps n.toNat [c]).toArray⟩
      simp
    rw [e]
    exact ⟨by rw [SX.S_len, reps_len]; exact sz_of (by simp; omega), .str _, H, I.tok _, ⟨_, rfl⟩, q⟩
/-! ### texts of whose length alone one speaks -/
def EvS (te : TE) (σ : L2.St) (H : Hp) (n : Nat) : Prop := ∃ l : List Nat, l.length ≤ n ∧ Ev te σ H (.str (SX.S l))
theorem S_of (z : Str) : z = SX.S z.cps.toList := by
  cases z
  simp [SX.S]
section
variable {K : PySem.W.Frag} {σ : L2.St} {H : Hp} {ta tb te : TE} {n m : Nat}
theorem ev_cat2 {a b : List Nat} (h1 : Ev ta σ H (.str (SX.S a))) (h2 : Ev tb σ H (.str (SX.S b))) (hz : a.length + b.length ≤ 100000) : Ev (tOp (fun x y H Q => ∃ i j, x = .str i ∧ y = .str j ∧ i.length + j.length ≤ sizeLine ∧ Q (.str (i ++ j)) H) ta tb) σ H (.str (SX.S (a ++ b))) :=
  ev_is (ev_op h1 h2 (rv_addS (by rw [SX.S_len, SX.S_len]; exact sz_of hz))) (by rw [SX.S_cat])
theorem es_cat (h1 : EvS ta σ H n) (h2 : EvS tb σ H m) (hz : n + m ≤ 100000) : EvS (tOp (fun x y H Q => ∃ i j, x = .str i ∧ y = .str j ∧ i.length + j.length ≤ sizeLine ∧ Q (.str (i ++ j)) H) ta tb) σ H (n + m) := by
  obtain ⟨a, ha, h1⟩ := h1
  obtain ⟨b, hb, h2⟩ := h2
  exact ⟨a ++ b, by rw [List.length_append]; omega, ev_cat2 h1 h2 (by omega)⟩
theorem es_c {z : Str} (h : z.cps.toList.length ≤ n) : EvS (tC (.str z)) σ H n := ⟨z.cps.toList, h, ev_is ev_c (by rw [← S_of])⟩
theorem es_of {l : List Nat} (h : Ev te σ H (.str (SX.S l))) (hl : l.length ≤ n) : EvS te σ H n := ⟨l, hl, h⟩
theorem es_str {i : Int} {k : Nat} (h : Ev te σ H (.int i)) (hk : 0 < k) (hi : i.natAbs < 10 ^ k) (hk2 : k ≤ 100) : EvS (tCB (fun xs H Q => ∃ i : Int, xs = [V.int i] ∧ i.natAbs.log2 < 1920 ∧ Q (.str (toString i)) H) (tCons te tNil)) σ H (k + 1) :=
  ⟨intL i, intL_le hk hi, ev_cb (ea_cons h ea_nil) (rc_strI2 (lg (Nat.lt_trans (Nat.lt_of_lt_of_le hi (Nat.pow_le_pow_right (by decide) hk2)) ten100)))⟩
theorem es_mul {c : Nat} {i : Int} (h1 : Ev ta σ H (.str (SX.S [c]))) (h2 : Ev tb σ H (.int i)) (h3 : 2 ≤ i) (h4 : i ≤ 50000) (h5 : i.toNat ≤ n) : EvS (tOp rMulS ta tb) σ H n :=
  ⟨reps i.toNat [c], by rw [reps_len]; simpa using h5, ev_op h1 h2 fun H1 _ _ q => ⟨c, i, rfl, rfl, h3, h4, q H1 (Ex.refl H1)⟩⟩
/-- a display of c such texts -/
def ElS (tA : TA) (σ : L2.St) (H : Hp) (n c : Nat) : Prop := ∃ ls : List (List Nat), (∀ l ∈ ls, l.length ≤ n) ∧ ls.length = c ∧ EvA tA σ H (ls.map fun l => V.str (SX.S l))
theorem els_nil : ElS tNil σ H n 0 := ⟨[], fun _ h => by simp at h, rfl, ea_nil⟩
theorem els_cons {tA : TA} {c : Nat} (h : EvS te σ H m) (hm : m ≤ n) (hr : ElS tA σ H n c) : ElS (tCons te tA) σ H n (c + 1) := by
  obtain ⟨l, hl, h⟩ := h
  obtain ⟨ls, h1, h2, h3⟩ := hr
  refine ⟨l :: ls, fun x hx => ?_, by simp [h2], ea_cons h h3⟩
  rcases List.mem_cons.mp hx with rfl | hx
  · omega
  · exact h1 x hx
theorem mem_strs {ls : List (List Nat)} {x : V} (h : x ∈ ls.map fun l => V.str (SX.S l)) (hn : ∀ l ∈ ls, l.length ≤ n) : ∃ l : List Nat, x = .str (SX.S l) ∧ l.length ≤ n := by
  obtain ⟨l, hl, e⟩ := List.mem_map.mp h
  exact ⟨l, e.symm, hn l hl⟩
end
section
variable {P : Program} {w : World} {K : PySem.W.Frag} {mg : Str → Option Value} {base : Heap} {cPE cBR cBT cS cR : Addr}
/-! ### _law_bent -/
def spBent (K : PySem.W.Frag) : Sp := fun vs H Q _ => ∃ (p : Addr) (B : Nat) (cs : List Nat), vs = [.ref p, .str (SX.S cs)] ∧ cs.length ≤ 20000 ∧ Pen K H p B ∧ B < 900000 ∧ ∀ (l : List Nat) H', l.length ≤ 2 * cs.length + 10 → ExB p H H' → Pen K H' p (B + 10) → Q (.str (SX.S l)) H'
theorem g_if {t : TT} {ta tb : TE} {σ : L2.St} {H : Hp} {Q : VK} (h : t σ H fun b H1 => if b = true then ta σ H1 Q else tb σ H1 Q) : tIf t ta tb σ H Q := h
theorem g_test {te : TE} {σ : L2.St} {H : Hp} {Q : Bool → Hp → Prop} (h : te σ H fun v H1 => ∃ b, v = .bl b ∧ Q b H1) : tTest te σ H Q := h
/-- what te gives is told by Pz (any heap behind) -/
def EvQ (te : TE) (σ : L2.St) (H : Hp) (Pz : V → Hp → Prop) : Prop := ∀ Q : VK, (∀ v H', Pz v H' → Q v H') → te σ H Q
theorem ite_both {c : Prop} [Decidable c] {t1 t2 : TE} {σ : L2.St} {H : Hp} {Q : VK} {Pz : V → Hp → Prop} (h1 : EvQ t1 σ H Pz) (h2 : EvQ t2 σ H Pz) (k : ∀ v H', Pz v H' → Q v H') : if c then t1 σ H Q else t2 σ H Q := by
  split
  · exact h1 Q k
  · exact h2 Q k
theorem q_parQ {σ : L2.St} {H : Hp} {ta tb : TE} {tz : TS} {D : Ends} {i j : Nat} {P1 : V → Hp → Prop} {P2 : V → V → Hp → Prop} (h1 : EvQ ta σ H P1) (h2 : ∀ v H1, P1 v H1 → EvQ tb σ H1 (P2 v)) (k : ∀ v w H2, P2 v w H2 → tz D ((σ.set i (some v)).set j (some w)) H2) :
    tSeq (tPar i j (tCons ta (tCons tb tNil))) tz D σ H := h1 _ fun v H1 p1 => h2 v H1 p1 _ fun w H2 p2 => ⟨v, w, rfl, k v w H2 p2⟩
end

/-! ### from K02p.lean -/
section
variable {P : Program} {w : World} {K : PySem.W.Frag} {mg : Str → Option Value} {base : Heap} {cPE cBR cBT cS cR : Addr}
/-! ### _law_turned -/
def spTu (K : PySem.W.Frag) : Sp := fun vs H Q _ => ∃ (p q : Addr) (B : Nat) (t b : Int), vs = [.ref p, .ref q] ∧ SqT K H q [.int t, .int b] ∧ q ≠ p ∧ t.natAbs < 10 ^ 60 ∧ b.natAbs < 10 ^ 60 ∧ Pen K H p B ∧ B < 900000 ∧ ∀ (l : List Nat) H', l.length ≤ 6000 → ExB p H H' → Pen K H' p (B + 10) → Q (.str (SX.S l)) H'
theorem q_asgLs {σ : L2.St} {H : Hp} {te : TE} {tz : TS} {D : Ends} {i : Nat} {tA : TA} {n c : Nat} (h : ElS tA σ H n c) (hc : c ≤ 1000) (ht : te = tLst tA) (k : ∀ (ls : List (List Nat)) p H1, (∀ l ∈ ls, l.length ≤ n) → ls.length = c → H p = none → Ex H H1 → H1 p = some (.lst (ls.map fun l => V.str (SX.S l))) → tz D (σ.set i (some (.ref p))) H1) : tSeq (tAsg te (gName i)) tz D σ H := by
  subst ht
  obtain ⟨ls, h1, h2, h3⟩ := h
  exact q_asgL (el_lst h3 (by rw [List.length_map]; omega)) fun p H1 hp e1 hq => k ls p H1 h1 h2 hp e1 hq
/-- xs = xs + [..] -/
theorem q_catLs {σ : L2.St} {H : Hp} {te : TE} {tz : TS} {D : Ends} {i a : Nat} {tA : TA} {n c : Nat} {ls0 : List (List Nat)} (h0 : Ev te σ H (.ref a)) (ha : H a = some (.lst (ls0.map fun l => V.str (SX.S l)))) (hl0 : ∀ l ∈ ls0, l.length ≤ n) (hc0 : ls0.length ≤ 1000) (h : ElS tA σ H n c) (hc : c ≤ 1000)
    (k : ∀ (ls : List (List Nat)) p H1, (∀ l ∈ ls, l.length ≤ n) → ls.length = ls0.length + c → H p = none → Ex H H1 → H1 p = some (.lst (ls.map fun l => V.str (SX.S l))) → tz D (σ.set i (some (.ref p))) H1) : tSeq (tAsg (tOp rCat te (tLst tA)) (gName i)) tz D σ H := by
  obtain ⟨ls, h1, h2, h3⟩ := h
  refine q_asgL (xs := (ls0 ++ ls).map fun l => V.str (SX.S l)) (by rw [List.map_append]; exact el_cat h0 ha (el_lst h3 (by rw [List.length_map]; omega)) (by rw [List.length_map, List.length_map]; omega)) fun p H1 hp e1 hq => k (ls0 ++ ls) p H1 (fun l hl => ?_) (by rw [List.length_append, h2]) hp e1 hq
  rcases List.mem_append.mp hl with z | z
  · exact hl0 l z
  · exact h1 l z
end

/-! ### from K02q.lean -/
/-! ### tests that draw -/
def EvTQ (tt : TT) (σ : L2.St) (H : Hp) (b : Bool) (Pz : Hp → Prop) : Prop := ∀ Q : Bool → Hp → Prop, (∀ H', Pz H' → Q b H') → tt σ H Q
section
variable {σ : L2.St} {H : Hp} {t u : TT} {te : TE} {P1 P2 : Hp → Prop} {b : Bool} {D : Ends} {tu tz : TS}
theorem tq_or (h1 : EvTQ t σ H false P1) (h2 : ∀ H1, P1 H1 → EvTQ u σ H1 b P2) : EvTQ (tOr t u) σ H b P2 := fun Q q => h1 _ fun H1 p1 => by
  show u σ H1 Q
  exact h2 H1 p1 Q q
theorem tq_not (h : EvTQ t σ H b P1) : EvTQ (tNot t) σ H (!b) P1 := fun Q q => h _ fun H1 p1 => q H1 p1
theorem tq_B (h : EvQ te σ H (fun v H' => v = .bl b ∧ P1 H')) : EvTQ (tB te) σ H b P1 := fun Q q => h _ fun v H1 ⟨hv, p1⟩ => ⟨b, hv, q H1 p1⟩
theorem tq_of (h : EvT t σ H b) : EvTQ t σ H b (fun H' => Ex H H') := fun Q q => h H (Ex.refl H) Q q
theorem s_whenQ (h : EvTQ t σ H false P1) (k : ∀ H1, P1 H1 → D.nx σ H1) : tIfS t tu tNext D σ H := h _ fun H1 p1 => k H1 p1
end
/-! ### what is no text -/
def Odd (cR p : Addr) (H : Hp) (v : V) : Prop := v = .non ∨ (∃ i, v = .int i) ∨ (∃ b, v = .bl b) ∨ ∃ a, v = .ref a ∧ a ≠ p ∧ ((∃ xs, H a = some (.lst xs)) ∨ (∃ xs, H a = some (.tup xs)) ∨ (∃ kvs, H a = some (.dK kvs)) ∨ (∃ dx fs, H a = some (.ins cR dx fs)))
theorem Odd.mono {cR p : Addr} {H H' : Hp} {v : V} (h : Odd cR p H v) (e : ExB p H H') : Odd cR p H' v := by
  rcases h with h | h | h | ⟨a, rfl, n, h⟩
  · exact .inl h
  · exact .inr (.inl h)
  · exact .inr (.inr (.inl h))
  · refine .inr (.inr (.inr ⟨a, rfl, n, ?_⟩))
    rcases h with ⟨xs, h⟩ | ⟨xs, h⟩ | ⟨xs, h⟩ | ⟨dx, fs, h⟩
    · exact .inl ⟨xs, e _ _ n h⟩
    · exact .inr (.inl ⟨xs, e _ _ n h⟩)
    · exact .inr (.inr (.inl ⟨xs, e _ _ n h⟩))
    · exact .inr (.inr (.inr ⟨dx, fs, e _ _ n h⟩))
section
variable {P : Program} {w : World} {K : PySem.W.Frag} {mg : Str → Option Value} {base : Heap} {cPE cBR cBT cS cR p : Addr}
theorem Odd.ty {H : Hp} {v : V} (h : Odd cR p H v) (T : TyC K cR) (hk : PySem.W.kitOne K (.ref cR) (.type "str") = some false) : ∃ tv, TyE K H v tv ∧ PySem.W.kitOne K tv (.type "str") = some false := by
  rcases h with rfl | ⟨i, rfl⟩ | ⟨b, rfl⟩ | ⟨a, rfl, n, h⟩
  · exact ⟨_, fun _ _ => .base .non, kit_ty (by decide +kernel)⟩
  · exact ⟨_, fun _ _ => .base (.int i), kit_ty (by decide +kernel)⟩
  · exact ⟨_, fun _ _ => .base (.bl b), kit_ty (by decide +kernel)⟩
  · rcases h with ⟨xs, h⟩ | ⟨xs, h⟩ | ⟨xs, h⟩ | ⟨dx, fs, h⟩
    · exact ⟨_, fun _ e => .base (.lst (e _ _ h)), kit_ty (by decide +kernel)⟩
    · exact ⟨_, fun _ e => .base (.tup (e _ _ h)), kit_ty (by decide +kernel)⟩
    · exact ⟨_, fun _ e => .base (.dK (e _ _ h)), kit_ty (by decide +kernel)⟩
    · exact ⟨_, fun _ e => T.ty (e _ _ h), hk⟩
/-- a display of such values -/
def OdA (K : PySem.W.Frag) (cR p : Addr) (tA : TA) (σ : L2.St) (H : Hp) (c : Nat) : Prop := ∀ H1, Ex H H1 → ∀ Q : List V → Hp → Prop, (∀ vs H2, Ex H1 H2 → (∀ v ∈ vs, Odd cR p H2 v) → vs.length = c → Q vs H2) → tA σ H1 Q
variable {σ : L2.St} {H : Hp} {te : TE} {tA : TA} {c B : Nat}
theorem oda_nil : OdA K cR p tNil σ H 0 := fun H1 e Q q => q [] H1 (Ex.refl H1) (fun _ h => by simp at h) rfl
theorem oda_cons (h : EvP te σ H (fun v H2 => Odd cR p H2 v)) (hr : OdA K cR p tA σ H c) : OdA K cR p (tCons te tA) σ H (c + 1) := fun H1 e Q q => h H1 e _ fun v H2 e2 ov => hr H2 (e.trans e2) _ fun vs H3 e3 ovs hl => q (v :: vs) H3 (e2.trans e3) (fun x hx => by
  rcases List.mem_cons.mp hx with rfl | hx
  · exact ov.mono (ExB.of e3)
  · exact ovs x hx) (by simp [hl])
theorem od_c {v : V} (h : ∀ H, Odd cR p H v) : EvP (tC v) σ H (fun v H2 => Odd cR p H2 v) := fun H1 e Q q => q v H1 (Ex.refl H1) (h H1)
theorem od_lst {vs : List V} (hp : Pen K H p B) (h : EvA tA σ H vs) (hl : vs.length ≤ 100000) : EvP (tLst tA) σ H (fun v H2 => Odd cR p H2 v) := fun H1 e Q q => el_lst h hl H1 e _ fun a H2 ha e2 h2 => q _ H2 e2 (.inr (.inr (.inr ⟨a, rfl, (hp.mono e (Nat.le_refl _)).ne ha, .inl ⟨_, h2⟩⟩)))
theorem od_tup {vs : List V} (hp : Pen K H p B) (h : EvA tA σ H vs) (hl : vs.length ≤ 100000) : EvP (tTup tA) σ H (fun v H2 => Odd cR p H2 v) := fun H1 e Q q => eu_tup h hl H1 e _ fun a H2 ha e2 h2 => q _ H2 e2 (.inr (.inr (.inr ⟨a, rfl, (hp.mono e (Nat.le_refl _)).ne ha, .inr (.inl ⟨_, h2⟩)⟩)))
theorem od_d0 (hp : Pen K H p B) : EvP tDNewK σ H (fun v H2 => Odd cR p H2 v) := fun H1 e Q q a ha => q _ _ (Ex.new ha) (.inr (.inr (.inr ⟨a, rfl, (hp.mono e (Nat.le_refl _)).ne ha, .inr (.inr (.inl ⟨_, upd_same⟩))⟩)))
theorem od_d1 (hp : Pen K H p B) : EvP (tDisp [(tC (.str "1"), tC (.int 1))]) σ H (fun v H2 => Odd cR p H2 v) := fun H1 e Q q a ha =>
  ⟨upd_same, [(.inr "1", .int 1)], rfl, by decide, q _ _ (Ex.mut (Ex.new ha) ha) (.inr (.inr (.inr ⟨a, rfl, (hp.mono e (Nat.le_refl _)).ne ha, .inr (.inr (.inl ⟨_, upd_same⟩))⟩)))⟩
theorem od_rat {W : WX} (hp : Pen K H p B) (h : EvA tA σ H [.int 1, .int 2]) : EvP (tGC cR (spRI cR) [] W tA) σ H (fun v H2 => Odd cR p H2 v) := fun H1 e Q q =>
  go_gc (h.mono e) fun x dx H2 e2 hx hdx hne => ⟨x, dx, 1, 2, rfl, upd_same, by decide, by decide, fun H3 e3 h3 => ⟨rfl, q _ H3 (e2.trans (made_ex hx hdx hne e3)) (.inr (.inr (.inr ⟨x, rfl, ((hp.mono e (Nat.le_refl _)).mono e2 (Nat.le_refl _)).ne hx, .inr (.inr (.inr ⟨_, _, h3⟩))⟩)))⟩⟩
theorem go_pickO {Q : VK} {E : L2.St → XK} (h0 : Ev te σ H (.ref p)) (h : OdA K cR p tA σ H c) (hp : Pen K H p B) (hB : B < 1000000) (hc : 0 < c) (hc2 : c ≤ 1000) (k : ∀ x H', Odd cR p H' x → Pen K H' p (B + 1) → Q x H') : tCallSD (spPick K) [] E (tCons te (tCons (tLst tA) tNil)) σ H Q :=
  h0 H (Ex.refl H) _ fun H1 e1 => h H1 e1 _ fun vs H2 e2 ho hl => ⟨sz_of (by omega), fun a ha => ⟨p, B, (hp.mono (e1.trans e2) (Nat.le_refl _)).mono (Ex.new ha) (Nat.le_refl _), hB, .inl ⟨a, vs, rfl, sq_of upd_same, (hp.mono (e1.trans e2) (Nat.le_refl _)).ne ha, fun z => by rw [z] at hl; simp at hl; omega, by omega, fun x H3 hx e3 hp3 => k x H3 (((ho x hx).mono (ExB.of (Ex.new ha))).mono e3) hp3⟩⟩⟩
theorem g_gf1 {sp : Sp} {E : L2.St → XK} {Q : VK} (h : te σ H fun x H1 => sp [x] H1 Q (E σ)) : tCallSD sp [] E (tCons te tNil) σ H Q := h
/-! ### law -/
def spLaw (K : PySem.W.Frag) : Sp := fun vs H Q _ => ∃ (a : Addr) (ns : List Int), vs = [.ref a] ∧ SqL K H a (ns.map V.int) ∧ ns.length ≤ 40000 ∧ ∀ H', Q (.bl true) H'
theorem spv_rr {H : Hp} {cs : List Nat} (h : cs.length ≤ 50000) : SpV spRR [.str (SX.S cs)] H (.bl true) := fun H1 e Q q E => ⟨cs, rfl, h, q⟩
theorem ratS_eq (t b : Int) : ratS t b = intL t ++ (if b = 1 then [] else [47] ++ intL b) := by
  unfold ratS
  split <;> simp
end
end Pk

/-! # PkOp -/
set_option Elab.async false
set_option linter.all false
set_option maxRecDepth 100000
set_option maxHeartbeats 4000000
namespace Pk
open PySem PySem.Spec PySem.W PySem.Calls PyProof.Rows

/-! ## Operators of own classes that may raise; !=, abs, bool, properties -/
section
variable {prog : Program} {w : World} {A : Around} {E : Value → Shared → Prop} {s : Shared} {K : Frag} {x C L f : Addr} {h₀ : Heap} {m : Str → Option Value} {ox : Obj} {od : Option Obj} {T : String}
/-- x op b, b of a built-in type -/
theorem bin_look {op : Operator} {b : Value} {fo ro rc : Option Value} {Q : Value → Shared → Prop} (F : Fr h₀ L s.heap m) (X₀ : K.In h₀) (I : InstAt s.heap x ox C od) (hb : Looks (model prog w) s.heap (typeOf b) (.type T)) (hc : selfFirst K C = true)
    (hs : findIn K (.ref C) (PySem.dunder op.info.2) = some (some (.ref f))) (hf : isFn K (.ref f) = true) (hr : findIn K (.ref C) (dunderR op.info.2) = some rc) (hp : rc = none ∨ ∃ g : Addr, rc = some (.ref g))
    (h1 : findIn K (.type T) (PySem.dunder op.info.2) = some fo) (h2 : findIn K (.type T) (dunderR op.info.2) = some ro) (hsub : subIn K (.type T) (.ref C) = some false)
    (h : wpAny (model prog w) A (call (.ref f) [.ref x, b]) (PySem.W.CmpBack Q) E s) : wpAny (model prog w) A (binaryOp op (.ref x) b) Q E s := by
  have X := X₀.keeps F.keep
  obtain ⟨cd, rest, hcd, hm⟩ := ksp_first hc
  rcases hi : op.info with ⟨sym, nm'⟩
  rw [hi] at hs hr h1 h2
  dsimp only at hs hr h1 h2
  have one := ksp_try X I hs hf h
  obtain ⟨hh, g, d, tt, os⟩ := s
  have L1 : Looks (model prog w) hh (typeOf (.ref x)) (.ref C) := I.type
  have L2 : Looks (model prog w) hh (typeOf b) (.type T) := hb
  have L3 : Looks (model prog w) hh (fillsNumberSlot (.ref C) nm') true := fills_K X hcd hm hs
  have L4 : Looks (model prog w) hh (fillsNumberSlot (.type T) nm') ((fo.isSome && !isSeqSlot fo) || (ro.isSome && !isSeqSlot ro)) := ksp_fillsT X h1 h2
  have L5 : Looks (model prog w) hh (isSubtype (.type T) (.ref C)) false := looks_subIn X hsub
  have L6 : Looks (model prog w) hh (numberSlotInPython (.ref C) nm') true := ksp_inPy X hs hr hp
  have L7 : Looks (model prog w) hh (numberSlotInPython (.type T) nm') false := Looks.of_pure rfl
  have L8 : Looks (model prog w) hh (typeLookup (.type T) (dunderR nm')) ro := looks_findIn X h2
  generalize ((fo.isSome && !isSeqSlot fo) || (ro.isSome && !isSeqSlot ro)) = right at L4
  have hne : (Value.ref C == Value.type T) = false := Bool.eq_false_iff.mpr fun q => by cases beq_iff_eq.mp q
  simp only [binaryOp, hi]
  refine wpAny_holding (wpAny_bind ?_)
  unfold binaryOp1
  refine wpAny_bind (L1.at (wpAny_bind (L2.at (wpAny_bind (L3.at ?_)))))
  simp only [hne, Bool.false_eq_true, if_false]
  cases right with
  | false =>
    ksp_lk
    refine wpAny_mono one (fun r s' hr' => ?_) fun _ _ e => e
    obtain ⟨v, rfl, hq⟩ := hr'
    ksp_lk
    exact hq
  | true =>
    ksp_lk
    refine wpAny_mono one (fun r s' hr' => ?_) fun _ _ e => e
    obtain ⟨v, rfl, hq⟩ := hr'
    ksp_lk
    exact hq
theorem ne_bind (self : Value) : bindSpecial (.builtin "object.__ne__") self = pure (.builtin "object.__ne__", [self]) :=
  (Slot.of (T := "object") (name := "__ne__") (owner := "object") (n := "__ne__") (by rw [typeLookup_type, builtinLookup_eq_fast]; kernel_rfl) (by decide +kernel) (by decide +kernel) (by decide +kernel)
    (.inl (by decide +kernel)) (by rw [isSubtype_type]; kernel_rfl)).bind self
theorem ne_plain : plainId "object.__ne__" = true := by decide +kernel
theorem ifBound_ne {M : Model} {args : List Value} {Q : Option Value → Shared → Prop} (X : K.In s.heap) (I : InstAt s.heap x ox C od) (hs : findIn K (.ref C) "__ne__" = some (some (.builtin "object.__ne__")))
    (h : wpAny M A (call (.builtin "object.__ne__") (.ref x :: args)) (fun v => Q (some v)) E s) : wpAny M A (callSpecialIfBound? (.ref x) "__ne__" args) Q E s := by
  simp only [callSpecialIfBound?, bindSpecialIfBound?]
  refine wpAny_holding (wpAny_bind (wpAny_bind (wpAny_bind (I.type.here ((looks_findIn X hs).here ?_)))))
  refine wpAny_bind (wpAny_askSetting (wpAny_ite ?_))
  have fin : wpAny M A (call (.builtin "object.__ne__") ([.ref x] ++ args) >>= fun v => pure (some v)) Q E s := wpAny_bind (wpAny_mono h (fun v s' h' => wpAny_pure h') fun _ _ h' => h')
  have L : Looks M s.heap (bindSpecial (.builtin "object.__ne__") (.ref x)) (.builtin "object.__ne__", [.ref x]) := Looks.of_pure (ne_bind _)
  split
  · exact wpAny_bind (L.here (wpAny_pure (by exact fin)))
  · exact wpAny_tryCatch (wpAny_bind (L.here (wpAny_pure (by exact fin))))
/-- x != b by x's own __eq__ -/
theorem ne_K {b tb : Value} {Q : Value → Shared → Prop} (hu : A.units + 1 < cLine) (F : Fr h₀ L s.heap m) (X₀ : K.In h₀) (I : InstAt s.heap x ox C od) (hb : Looks (model prog w) s.heap (typeOf b) tb) (hn : notFirst K C tb = true)
    (hne : findIn K (.ref C) "__ne__" = some (some (.builtin "object.__ne__"))) (hs : findIn K (.ref C) "__eq__" = some (some (.ref f))) (hf : isFn K (.ref f) = true) (hm : mroIn K C (.type "object") = some true)
    (h : wpAny (model prog w) A.in1 (call (.ref f) [.ref x, b]) (fun v s' => ∃ k, v = .bool k ∧ Q (.bool (!k)) s') E s) : wpAny (model prog w) A (richCompare .NotEq (.ref x) b) Q E s := by
  have X := X₀.keeps F.keep
  have inst : Looks (model prog w) s.heap (isInstance (.ref x) (.type "object")) true := (I.type).andThen (looks_mroIn X hm)
  have one : wpAny (model prog w) A (tryCompare (.ref x) "__ne__" b) (fun r s' => ∃ v, r = some v ∧ Q v s') E s := by
    unfold tryCompare
    have body : wpAny (model prog w) A (call (.builtin "object.__ne__") [.ref x, b]) (fun v s' => ∃ k, v = .bool k ∧ Q (.bool k) s') E s := by
      refine wpAny_call (codeAny_call_builtin ne_plain PySem.F.cmpEntry_ne (check_slot PySem.F.cmpKind_ne PySem.F.cmpSplit_ne inst (PySem.F.cmpArgs_ne _ _) ?_))
      obtain ⟨hh, g, d, tt, os⟩ := s
      unfold Builtin.«object.__ne__»
      repeat (first
        | with_reducible refine wpAny_cRoomFor hu ?_
        | (refine wpAny_bind (m := callSpecialIfBound? (.ref x) (Str.ofString "__eq__") [b])
            (ifBound_K X I hs hf (wpAny_mono h (fun r s' hr => by
              obtain ⟨k, rfl, hq⟩ := hr
              have hq' : ∃ v, Value.bool (!k) = v ∧ (∃ k', v = .bool k' ∧ Q (.bool k') s') := ⟨_, rfl, _, rfl, hq⟩
              repeat (first | exact ⟨!k, rfl, hq⟩ | exact wpAny_pure ⟨_, rfl, _, rfl, hq⟩ | (refine wpAny_bind (m := truthy (.bool _)) (wpAny_truthy_bool ?_)) | wp_step)) fun _ _ e => e)))
        | wp_step)
    refine wpAny_bind (ifBound_ne X I hne (wpAny_mono body (fun v s' hv => ?_) fun _ _ e => e))
    obtain ⟨k, rfl, hq⟩ := hv
    exact wpAny_pure ⟨_, rfl, hq⟩
  unfold richCompare
  simp only [oneThing_ref]
  refine wpAny_holding (wpAny_bind (wpAny_cRoomFor (Nat.lt_of_succ_lt hu) ?_))
  refine wpAny_bind (I.type.here (wpAny_bind (hb.here ?_)))
  split
  · rename_i q
    have e : subIn K tb (.ref C) = some false := by
      rcases Bool.or_eq_true_iff.mp hn with e | e
      · rw [beq_iff_eq.mp e] at q; simp at q
      · exact beq_iff_eq.mp e
    refine wpAny_bind ((looks_subIn X e).here ?_)
    simp only [Bool.false_eq_true, if_false]
    refine wpAny_bind (wpAny_mono one (fun r s' z => ?_) fun _ _ e => e)
    obtain ⟨v, rfl, hq⟩ := z
    exact wpAny_pure hq
  · refine wpAny_bind (wpAny_pure ?_)
    simp only [Bool.false_eq_true, if_false]
    refine wpAny_bind (wpAny_mono one (fun r s' z => ?_) fun _ _ e => e)
    obtain ⟨v, rfl, hq⟩ := z
    exact wpAny_pure hq
/-- abs(x) by x's own __abs__ -/
theorem abs_K {Q : Value → Shared → Prop} (X : K.In s.heap) (I : InstAt s.heap x ox C od) (hs : findIn K (.ref C) "__abs__" = some (some (.ref f))) (hf : isFn K (.ref f) = true)
    (h : wpAny (model prog w) A.in1 (call (.ref f) [.ref x]) Q E s) : wpAny (model prog w) A (call (.builtin "abs") [.ref x]) Q E s := by
  refine call_function_entry kind_abs plain_abs entry_abs (args_abs _) ?_
  unfold Builtin.«abs»
  refine wpAny_bind (m := oneArg "abs" _) (wpAny_pure ?_)
  refine wpAny_bind (m := callSpecial? (.ref x) (Str.ofString "__abs__")) (special_fn X I hs (beq_iff_eq.mp hf) (wpAny_mono h (fun v s' hv => ?_) fun _ _ e => e))
  exact wpAny_pure ⟨_, rfl, hv⟩
/-- bool(x) by x's own __bool__ -/
theorem bool_K {Q : Value → Shared → Prop} (F : Fr h₀ L s.heap m) (X₀ : K.In h₀) (I : InstAt s.heap x ox C od) (hs : findIn K (.ref C) "__bool__" = some (some (.ref f))) (hf : isFn K (.ref f) = true)
    (h : wpAny (model prog w) A.in1.in1 (call (.ref f) [.ref x]) (fun v s' => ∃ k, v = .bool k ∧ Q (.bool k) s') E s) : wpAny (model prog w) A (call (.type "bool") [.ref x]) Q E s := by
  refine callType_codes (T := "bool") (Bi := Builtin.«object.__init__») (Q₁ := fun r s₁ => ∃ k, r = .bool k ∧ Q r s₁) PySem.F.called_bool (PySem.F.typeCall_bool_1 _) PySem.F.entry_object_init ?_ ?_
  · refine codeAny_of_tree ?_
    show wpAny _ A.in1.in1 (do checkBuiltinCall "bool.__new__" ⟨[.type "bool", .ref x], []⟩; again (.builtin "bool.__new__" ⟨[.type "bool", .ref x], []⟩)) _ _ s
    refine wpAny_bind (wpAny_of_eq (PySem.F.newCall_bool_1 _) (wpAny_pure ⟨plainId_quiet (by decide +kernel) _, codeAny_builtin PySem.F.entry_bool_new ?_⟩))
    rw [Around.under_plainId (by decide +kernel) _]
    obtain ⟨hh, g, d, tt, os⟩ := s
    have f1 := PySem.F.conv_sub_bool
    unfold Builtin.«bool.__new__»
    have tr : ∀ {R : Bool → Shared → Prop}, (∀ k s', Q (.bool k) s' → R k s') → wpAny (model prog w) A.in1.in1 (truthy (.ref x)) R E ⟨hh, g, d, tt, os⟩ := fun {R} hR => truthy_K F X₀ I hs hf (wpAny_mono h (fun v s' hv => by
      obtain ⟨k, rfl, hq⟩ := hv
      exact hR k s' hq) fun _ _ e => e)
    repeat (any_goals (first | assumption | (refine wpAny_bind (m := truthy (.ref x)) (tr fun k s' hq => ?_)) | (refine tr fun k s' hq => ?_) | exact ⟨_, rfl, hq⟩ | exact ⟨_, rfl, _, rfl, hq⟩ | wp_step))
  · rintro obj s₁ ⟨k, rfl, hq⟩
    exact ⟨rfl, PySem.F.args_object_init_2 _ _, object_init_meets PySem.F.called_bool.init.lookup PySem.F.called_bool.made (by decide) prog w A.in1 _ s₁ ⟨rfl, rfl, hq⟩⟩
end
end Pk

/-! # PkEnd -/
set_option Elab.async false
set_option linter.all false
set_option maxRecDepth 100000
set_option maxHeartbeats 4000000
namespace Pk
open PySem PySem.W PyProof.Rows L2
/-! ## What the top has written: facts that k_is finds, made into the structures of the walks -/
section
variable {P : Program} {w : World} {K : Frag} {mg : Str → Option Value} {base : Heap} {k : Nat} {f C D : Addr} {fd : FuncData} {x qual : Str} {st : Stmt} {ps : List Str} {sp : Sp}
theorem exm_of {cls C : Addr} {b : Bool} (h1 : subIn K (.ref C) (.type "BaseException") = some true) (h2 : isClsIn K C = true) (h3 : typeIn K (.ref C) = some (.type "type")) (h4 : subIn K (.ref cls) (.ref C) = some b) : exmOne K (.ref cls) (.ref C) = some b := by
  have e1 : (subIn K (.ref C) (.type "BaseException") == some true) = true := by rw [h1] <;> rfl
  have e2 : ((clsIn K C).isSome && typeIn K (.ref C) == some (.type "type")) = true := by
    have h2' : (clsIn K C).isSome = true := h2
    rw [h2', h3] <;> rfl
  show (if (subIn K (.ref C) (.type "BaseException") == some true) = true then (if ((clsIn K C).isSome && typeIn K (.ref C) == some (.type "type")) = true then subIn K (.ref cls) (.ref C) else none) else none) = some b
  rw [if_pos e1, if_pos e2]
  exact h4
theorem kit_of_sub {T : String} {b : Bool} (hm : kitMeta T = true) (h : subIn K (.ref C) (.type T) = some b) : kitOne K (.ref C) (.type T) = some b := by
  show (if (Value.ref C == Value.type T) = true then some true else (if kitMeta T = true then subIn K (.ref C) (.type T) else none)) = some b
  rw [if_neg (by intro z; exact absurd (eq_of_beq z) (by simp)), if_pos hm]
  exact h
theorem kit_of_ref {t : Value} {b : Bool} (h2 : isClsIn K C = true) (h3 : typeIn K (.ref C) = some (.type "type")) (hne : (t == .ref C) = false) (h : subIn K t (.ref C) = some b) : kitOne K t (.ref C) = some b := by
  have e2 : ((clsIn K C).isSome && typeIn K (.ref C) == some (.type "type")) = true := by
    have h2' : (clsIn K C).isSome = true := h2
    rw [h2', h3] <;> rfl
  show (if (t == .ref C) = true then some true else (if ((clsIn K C).isSome && typeIn K (.ref C) == some (.type "type")) = true then subIn K t (.ref C) else none)) = some b
  rw [if_neg (by rw [hne]; decide), if_pos e2]
  exact h
theorem along_of {cd : ClassData} {n : Str} {r : Option Value} (h : clsIn K C = some cd) (e : findIn K (.ref C) n = some r) : alongIn K n cd.mro = some r := by
  unfold clsIn at h
  split at h
  · rename_i q
    cases h
    have e' : (match K.lookup C with
      | some ⟨_, _, .cls cd, _⟩ => alongIn K n cd.mro
      | _ => none) = some r := e
    rw [q] at e'
    exact e'
  · cases h
/-- super().m of C, seen from D = C: what the class B next behind it has -/
theorem sup_of {B : Addr} {cd cb : ClassData} {n : Str} {r : Option Value} (h : clsIn K C = some cd) (hb : clsIn K B = some cb) (hm : (cd.mro.dropWhile (· != .ref D)).drop 1 = cb.mro) (e : findIn K (.ref B) n = some r) : ks_superIn K C D n = some r := by
  unfold ks_superIn
  rw [h]
  show alongIn K n ((cd.mro.dropWhile (· != .ref D)).drop 1) = some r
  rw [hm]
  exact along_of hb e
/-- f(..) without defaults -/
theorem fd_all (F : FnG P w K mg base k f fd ps sp) (hb : Binds K fd ps []) (kp : keepIn K (.ref f) = true) : Fd P w K mg base k f sp [] := ⟨⟨fd, ps, [], F, hb, .nil⟩, kp⟩
theorem fd_dfl {dvs : List V} (F : FnG P w K mg base k f fd ps sp) (hb : ∃ ds, Vals dvs ds ∧ Binds K fd ps ds) (kp : keepIn K (.ref f) = true) : Fd P w K mg base k f sp dvs :=
  let ⟨ds, r, b⟩ := hb
  ⟨⟨fd, ps, ds, F, b, r⟩, kp⟩
/-- a def with defaults: its tuple at T -/
theorem funD_mk {oc : Value} {od an : Option Addr} {osl : Array (Option Value)} {kV doc pm cdv ct : Value} {T : Addr} {o : Obj} {its : List Value} {n : Nat} {dvs : List V} (l : K.lookup f = some ⟨oc, od, .func (fnOf x qual (defArgs st) (defBody st) (defScope st) (.ref T) kV doc pm an cdv ct), osl⟩)
    (c : codeIn K cdv qual = true) (kp : keepIn K (.ref f) = true) (lT : K.lookup T = some o) (oT : o.data = .seq its.toArray n) (hd : dvs ≠ []) (r : Vals dvs its) :
    FunD K x qual (defArgs st) (defBody st) (defScope st) dvs [] f (fnOf x qual (defArgs st) (defBody st) (defScope st) (.ref T) kV doc pm an cdv ct) :=
  ⟨⟨oc, od, .ref T, kV, doc, pm, an, cdv, ct, osl, rfl, l, c, .inr ⟨hd, T, o, its, n, rfl, lT, oT, r⟩, .inl rfl⟩, kp⟩
theorem funX_mk {oc : Value} {od an : Option Addr} {osl : Array (Option Value)} {dV kV doc pm cdv ct : Value} (l : K.lookup f = some ⟨oc, od, .func (fnOf x qual (defArgs st) (defBody st) (defScope st) dV kV doc pm an cdv ct), osl⟩)
    (c : codeIn K cdv qual = true) (kp : keepIn K (.ref f) = true) : FunX K x qual st f (fnOf x qual (defArgs st) (defBody st) (defScope st) dV kV doc pm an cdv ct) := ⟨⟨oc, od, dV, kV, doc, pm, an, cdv, ct, osl, rfl, l, c⟩, kp⟩
end
end Pk

/-! # PkOp2 -/
set_option Elab.async false
set_option linter.all false
set_option maxRecDepth 100000
set_option maxHeartbeats 4000000
namespace Pk
open PySem PySem.Spec PyProof.Rows L2
/-! ## the same as rules of the hand layer -/
/-- a two-place operation whose word may look at the slots -/
def tOpS (r : L2.St → R2) (ta tb : TE) : TE := fun σ H Q => ta σ H fun x H1 => tb σ H1 fun y H2 => r σ x y H2 Q
def OpS (X : Cx) (f : Value → Value → Sem Value) (r : L2.St → R2) : Prop :=
  ∀ (pins : List (Addr × Obj)) (s : Shared) (σ : L2.St) (H : Hp) (x y : V) (v u : Value) (Q : VK), Inv X pins σ H s → RelV x v → RelV y u → r σ x y H Q → wpAny (model X.prog X.w) X.A (f v u) (EP X pins σ Q) X.xe s
section
variable {X : Cx} {k : Nat} {C : Addr} {sp : Sp} {W : WX} {a b : Expr} {pos : Pos} {ta tb : TE}
theorem pe_opS {op : Operator} {r : L2.St → R2} (ho : OpS X (binaryOp op) r) (ha : PE X a ta) (hb : PE X b tb) : PE X (.BinOp a op b pos) (tOpS r ta tb) := by
  refine ⟨fun pins s σ H Q I h => ?_⟩
  exact wpAny_BinOp (binT ha hb I h fun v u s2 x y H2 I2 rx ry q => ho pins s2 σ H2 x y v u Q I2 rx ry q)
/-- what the other operand's type t must be -/
def BinTy (K : PySem.W.Frag) (C : Addr) (nm : String) (t : Value) : Prop := t = .ref C ∨ ∃ (T : String) (fo ro rc : Option Value), t = .type T ∧ PySem.W.findIn K (.ref C) (dunderR nm) = some rc ∧ (rc = none ∨ ∃ g : Addr, rc = some (.ref g)) ∧ PySem.W.findIn K (.type T) (PySem.dunder nm) = some fo ∧ PySem.W.findIn K (.type T) (dunderR nm) = some ro ∧ PySem.W.subIn K (.type T) (.ref C) = some false
def rBinO (K : PySem.W.Frag) (C : Addr) (nm : String) (sp : Sp) (W : WX) : L2.St → R2 := fun σ x y H Q => ∃ a dx fs t, x = .ref a ∧ H a = some (.ins C dx fs) ∧ TyX K H y t ∧ BinTy K C nm t ∧ sp [x, y] H Q (WE W σ)
theorem op_binO {op : Operator} (G : OM X.prog X.w X.K X.mg X.base k C (PySem.dunder op.info.2) sp) (hc : PySem.W.selfFirst X.K C = true) (hr : Rm k X.A) (tk : Takes X W) : OpS X (binaryOp op) (rBinO X.K C op.info.2 sp W) := by
  obtain ⟨f, hs, hf, F⟩ := G.ex
  intro pins s σ H x y v u Q I rx ry h
  obtain ⟨a, dx, fs, t, rfl, ea, ty, hb, q⟩ := h
  cases (show v = Value.ref a from rx)
  obtain ⟨mA, O, _⟩ := ins_get I.hok ea
  obtain ⟨od, J, _⟩ := O.look
  obtain ⟨P, Z, p, _⟩ := kit_of I ry ty
  obtain ⟨m, hF⟩ := I.fr
  have run : wpAny (model X.prog X.w) X.A (call (.ref f) [.ref a, u]) (PySem.W.CmpBack (EP X pins σ Q)) X.xe s := by
    refine wpAny_mono (run_fd (us := [.ref a, u]) (vs := [.ref a, y]) F hr tk I (.cons rfl (.cons ry .nil)) q) (fun w s' z => ?_) fun _ _ e => e
    obtain ⟨z', H', I', rz, qz⟩ := z
    exact SlX.cmpback rz ⟨z', H', I', rz, qz⟩
  rcases hb with rfl | ⟨T, fo, ro, rc, rfl, h1, h2, h3, h4, h5⟩
  · exact PySem.W.binop_K hF I.ok.mod.kin J (Z.ty _ _ I.kIn p) hc hs hf run
  · exact bin_look hF I.ok.mod.kin J (Z.ty _ _ I.kIn p) hc hs hf h1 h2 h3 h4 h5 run
/-- x != y -/
def rNeO (K : PySem.W.Frag) (C : Addr) (sp : Sp) : R2 := fun x y H Q => ∃ a dx fs t, x = .ref a ∧ H a = some (.ins C dx fs) ∧ TyX K H y t ∧ PySem.W.notFirst K C t = true ∧ sp [x, y] H (fun v H' => ∃ b, v = .bl b ∧ Q (.bl (!b)) H') E0
theorem op_neO (G : OM X.prog X.w X.K X.mg X.base k C "__eq__" sp) (hne : PySem.W.findIn X.K (.ref C) "__ne__" = some (some (.builtin "object.__ne__"))) (hm : PySem.W.mroIn X.K C (.type "object") = some true) (hr : Rm (k + 1) X.A) : OpR X (compareOp .NotEq) (rNeO X.K C sp) := by
  obtain ⟨f, hs, hf, F⟩ := G.ex
  intro pins s σ H x y v u Q I rx ry h
  obtain ⟨a, dx, fs, t, rfl, ea, ty, hn, q⟩ := h
  cases (show v = Value.ref a from rx)
  obtain ⟨mA, O, _⟩ := ins_get I.hok ea
  obtain ⟨od, J, _⟩ := O.look
  obtain ⟨P, Z, p, _⟩ := kit_of I ry ty
  obtain ⟨m, hF⟩ := I.fr
  show wpAny _ _ (richCompare .NotEq _ _) _ _ _
  refine ne_K (tb := t) (hu_of hr.r) hF I.ok.mod.kin J (Z.ty _ _ I.kIn p) hn hne hs hf hm ?_
  refine run_fdA (us := [.ref a, u]) (vs := [.ref a, y]) F hr.in1 I.env0.in1 I (.cons rfl (.cons ry .nil)) q fun w s' z => ?_
  obtain ⟨z', H', I', rz, b, rfl, qz⟩ := z
  exact ⟨b, rz, .bl (!b), H', I', rfl, qz⟩
/-- -x, abs(x), bool(x) -/
def rUnO (C : Addr) (sp : Sp) : V → Hp → VK → Prop := fun x H Q => ∃ a dx fs, x = .ref a ∧ H a = some (.ins C dx fs) ∧ sp [x] H Q E0
theorem un_negO (G : OM X.prog X.w X.K X.mg X.base k C "__neg__" sp) (hr : Rm k X.A) : UnR X (unaryOp .USub) (rUnO C sp) := by
  obtain ⟨f, hs, hf, F⟩ := G.ex
  intro pins s σ H x v Q I rx h
  obtain ⟨a, dx, fs, rfl, ea, q⟩ := h
  cases (show v = Value.ref a from rx)
  obtain ⟨mA, O, _⟩ := ins_get I.hok ea
  obtain ⟨od, J, _⟩ := O.look
  obtain ⟨m, hF⟩ := I.fr
  exact PySem.W.ksp_neg hF I.ok.mod.kin J hs hf (run_fdA (us := [.ref a]) (vs := [.ref a]) F hr I.env0 I (.cons rfl .nil) q fun w s' z => z)
theorem call_absO (G : OM X.prog X.w X.K X.mg X.base k C "__abs__" sp) (hr : Rm (k + 1) X.A) : CallR X (.builtin "abs") (fun xs H Q => ∃ x, xs = [x] ∧ rUnO C sp x H Q) := by
  obtain ⟨f, hs, hf, F⟩ := G.ex
  intro pins s σ H xs us Q I r h
  obtain ⟨x, rfl, a, dx, fs, rfl, ea, q⟩ := h
  obtain ⟨u, rfl, ru⟩ := vals1 r
  obtain rfl : u = Value.ref a := ru
  obtain ⟨mA, O, _⟩ := ins_get I.hok ea
  obtain ⟨od, J, _⟩ := O.look
  exact abs_K I.kIn J hs hf (run_fdA (us := [.ref a]) (vs := [.ref a]) F hr.in1 I.env0.in1 I (.cons rfl .nil) q fun w s' z => z)
theorem call_boolO (G : OM X.prog X.w X.K X.mg X.base k C "__bool__" sp) (hr : Rm (k + 2) X.A) : CallR X (.type "bool") (fun xs H Q => ∃ x, xs = [x] ∧ rUnO C sp x H (fun v H' => (∃ b, v = .bl b) ∧ Q v H')) := by
  obtain ⟨f, hs, hf, F⟩ := G.ex
  intro pins s σ H xs us Q I r h
  obtain ⟨x, rfl, a, dx, fs, rfl, ea, q⟩ := h
  obtain ⟨u, rfl, ru⟩ := vals1 r
  obtain rfl : u = Value.ref a := ru
  obtain ⟨mA, O, _⟩ := ins_get I.hok ea
  obtain ⟨od, J, _⟩ := O.look
  obtain ⟨m, hF⟩ := I.fr
  refine bool_K hF I.ok.mod.kin J hs hf (run_fdA (us := [.ref a]) (vs := [.ref a]) F hr.in1.in1 I.env0.in1.in1 I (.cons rfl .nil) q fun w s' z => ?_)
  obtain ⟨z', H', I', rz, ⟨b, rfl⟩, qz⟩ := z
  obtain rfl : w = Value.bool b := rz
  exact ⟨b, rfl, .bl b, H', I', rfl, qz⟩
/-- a property f of the class at C -/
structure GP (P : Program) (w : World) (K : PySem.W.Frag) (mg : Str → Option Value) (base : Heap) (k : Nat) (C : Addr) (f : Str) (sp : Sp) : Prop where
  cl : Cls K C
  ex : ∃ p g, PropOf K C f p g ∧ Fd P w K mg base k g sp []
def tPropO (C : Addr) (sp : Sp) (ta : TE) : TE := fun σ H Q => ta σ H fun x H1 => rUnO C sp x H1 Q
theorem pe_propG {f : Str} (he : PE X a ta) (G : GP X.prog X.w X.K X.mg X.base k C f sp) (hr : Rm (k + 1) X.A) (hab : attributeBase a f X.env (eval a X.env) = eval a X.env := by rfl) : PE X (.Attribute a f pos) (tPropO C sp ta) := by
  obtain ⟨p, g, hp, F⟩ := G.ex
  refine ⟨fun pins s σ H Q I h => ?_⟩
  refine attr_of hab (thn (he.run pins s σ H _ I h) fun u s1 ⟨x, H1, I1, rx, a, dx, fs, ex, ea, q⟩ => ?_)
  subst ex
  obtain rfl : u = Value.ref a := rx
  obtain ⟨fd, ps, ds, Fg, hb, hd⟩ := F.ex
  cases hd
  obtain ⟨mA, O, _⟩ := ins_get I1.hok ea
  obtain ⟨od, J, _⟩ := O.look
  obtain ⟨rest, hrec⟩ := hp.rec_
  have I2 := I1.tok (s1.toks + 1)
  have hl : ([Value.ref a] ++ []).length = ps.length := by rw [← Fg.len _ _ _ _ q]; rfl
  have hc : (PySem.W.clsIn X.K C).isSome = true := by
    obtain ⟨cd, hc, _⟩ := PySem.W.any_some G.cl.hd
    rw [hc]
    rfl
  refine PySem.W.get_bind I1.kIn J (PySem.W.plainGet_of (G.cl.get f)).1 (PySem.W.findObj_data hc hp.at_ hp.get hp.tak) (PySem.W.plainGet_of (G.cl.get f)).2 (wpAny_call (PySem.W.prop_get (s := { s1 with toks := s1.toks + 1 }) I1.kIn hrec ?_))
  refine codeAny_mono (Fg.run X.A.in1 X.stack { s1 with toks := s1.toks + 1 } H1 ⟨[.ref a], []⟩ [.ref a] [.ref a] Q E0 hr.in1 I2.env0.in1 (by have := hb { s1 with toks := s1.toks + 1 } [.ref a] I2.kIn hl; rwa [List.append_nil] at this) (.cons rfl .nil) q) fun r s' hq => ?_
  cases r with
  | error er =>
    obtain ⟨_, _, _, _, _, _, _, _, _, _, _, _, z⟩ := hq
    exact z.elim
  | ok fl =>
    cases fl with
    | ret u =>
      obtain ⟨v, H', I3, rv, q3⟩ := I2.after hq
      show wpAny _ _ (handedOut u) _ _ _
      rw [PySem.W.handedOut_of (handed_of rv)]
      exact wpAny_pure ⟨v, H', I3, rv, q3⟩
    | next => exact False.elim hq
    | brk => exact False.elim hq
    | cont => exact False.elim hq
end
theorem sub_ty {K : PySem.W.Frag} {C : Addr} : ∀ T ∈ ["int", "bool", "NoneType", "str", "list", "tuple", "dict"], PySem.W.subIn K (.type T) (.ref C) = some false := by
  intro T hT
  simp at hT
  rcases hT with rfl | rfl | rfl | rfl | rfl | rfl | rfl <;> rfl
end Pk

/-! # PkRat -/
set_option Elab.async false
set_option linter.all false
set_option maxRecDepth 100000
set_option maxHeartbeats 4000000
namespace Pk
open PySem PyProof.Rows L2 Evl
/-! ## Ratios as rational numbers -/
theorem nf {t b : Int} (hb : b ≠ 0) : t.fdiv (comI t b) = (Rat.divInt t b).num ∧ b.fdiv (comI t b) = ((Rat.divInt t b).den : Int) := by
  have hg : 0 < Nat.gcd t.natAbs b.natAbs := Nat.gcd_pos_of_pos_right _ (by omega)
  have d1 : ((Nat.gcd t.natAbs b.natAbs : Nat) : Int) ∣ t := Int.ofNat_dvd_left.mpr (Nat.gcd_dvd_left _ _)
  have d2 : ((Nat.gcd t.natAbs b.natAbs : Nat) : Int) ∣ b := Int.ofNat_dvd_left.mpr (Nat.gcd_dvd_right _ _)
  have hgc : (b.gcd t : Nat) = Nat.gcd t.natAbs b.natAbs := by unfold Int.gcd; rw [Nat.gcd_comm]
  have hcom : comI t b = if b < 0 then -((Nat.gcd t.natAbs b.natAbs : Nat) : Int) else ((Nat.gcd t.natAbs b.natAbs : Nat) : Int) := rfl
  rw [Rat.num_divInt, Rat.den_divInt, if_neg hb, hgc, hcom]
  generalize Nat.gcd t.natAbs b.natAbs = g at *
  have hg0 : (g : Int) ≠ 0 := by omega
  obtain ⟨x, rfl⟩ := d1
  obtain ⟨y, rfl⟩ := d2
  have hn : ((g : Int) * y).natAbs / g = y.natAbs := by
    rw [Int.natAbs_mul, Int.natAbs_natCast]
    exact Nat.mul_div_cancel_left _ hg
  rw [hn]
  by_cases hneg : (g : Int) * y < 0
  · have hy : y < 0 := by
      rcases Int.lt_trichotomy y 0 with z | z | z
      · exact z
      · rw [z] at hneg; simp at hneg
      · have := Int.mul_pos (show (0 : Int) < g by omega) z
        omega
    rw [if_pos hneg, Int.sign_eq_neg_one_of_neg hneg]
    constructor
    · rw [show (g : Int) * x = -(g : Int) * (-x) by rw [Int.neg_mul_neg], Int.mul_fdiv_cancel_left _ (by omega)]
      rw [show (-1 : Int) * (-(g : Int) * (-x)) = (g : Int) * (-x) by rw [Int.neg_mul_neg, Int.mul_neg, Int.neg_mul, Int.one_mul], Int.mul_ediv_cancel_left _ hg0]
    · rw [show (g : Int) * y = -(g : Int) * (-y) by rw [Int.neg_mul_neg], Int.mul_fdiv_cancel_left _ (by omega)]
      omega
  · have hy : 0 < y := by
      rcases Int.lt_trichotomy y 0 with z | z | z
      · have := Int.mul_neg_of_pos_of_neg (show (0 : Int) < g by omega) z
        omega
      · rw [z] at hb; simp at hb
      · exact z
    have hpos : 0 < (g : Int) * y := Int.mul_pos (by omega) hy
    rw [if_neg hneg, Int.sign_eq_one_of_pos hpos, Int.one_mul]
    constructor
    · rw [Int.mul_fdiv_cancel_left _ hg0, Int.mul_ediv_cancel_left _ hg0]
    · rw [Int.mul_fdiv_cancel_left _ hg0]
      omega
def IsQ (C : Addr) (H : Hp) (a : Addr) (q : Rat) : Prop := IsR C H a q.num (q.den : Int)
theorem IsQ.mono {C : Addr} {H H' : Hp} {a : Addr} {q : Rat} (h : IsQ C H a q) (e : Ex H H') : IsQ C H' a q := IsR.mono h e
/-- v stands for the number q: a Ratio, or an int -/
def Num (C : Addr) (H : Hp) (v : V) (q : Rat) : Prop := (∃ a, v = .ref a ∧ IsQ C H a q) ∨ (v = .int q.num ∧ q.den = 1)
theorem Num.mono {C : Addr} {H H' : Hp} {v : V} {q : Rat} (h : Num C H v q) (e : Ex H H') : Num C H' v q := by
  rcases h with ⟨a, h1, h2⟩ | h
  · exact .inl ⟨a, h1, h2.mono e⟩
  · exact .inr h
/-- numerator and denominator within 2 ^ n -/
def Sz (n : Nat) (q : Rat) : Prop := q.num.natAbs < 2 ^ n ∧ q.den < 2 ^ n
theorem Sz.mono {n m : Nat} {q : Rat} (h : Sz n q) (e : n ≤ m) : Sz m q := ⟨Nat.lt_of_lt_of_le h.1 (Nat.pow_le_pow_right (by decide) e), Nat.lt_of_lt_of_le h.2 (Nat.pow_le_pow_right (by decide) e)⟩
theorem sz_div {t b : Int} {n : Nat} (hb : b ≠ 0) (h1 : t.natAbs < 2 ^ n) (h2 : b.natAbs < 2 ^ n) : Sz n (Rat.divInt t b) := by
  have hg : 0 < b.gcd t := Nat.gcd_pos_of_pos_left _ (by omega)
  refine ⟨?_, ?_⟩
  · rw [Rat.num_divInt]
    refine Nat.lt_of_le_of_lt ?_ h1
    have hs : (b.sign * t).natAbs = t.natAbs := by
      rw [Int.natAbs_mul]
      have : b.sign.natAbs = 1 := by
        rcases Int.lt_trichotomy b 0 with z | z | z
        · rw [Int.sign_eq_neg_one_of_neg z]; rfl
        · exact absurd z hb
        · rw [Int.sign_eq_one_of_pos z]; rfl
      rw [this, Nat.one_mul]
    calc (b.sign * t / ↑(b.gcd t)).natAbs ≤ (b.sign * t).natAbs := Int.natAbs_ediv_le_natAbs _ _
      _ = t.natAbs := hs
  · rw [Rat.den_divInt, if_neg hb]
    exact Nat.lt_of_le_of_lt (Nat.div_le_self _ _) h2
theorem den_pos (q : Rat) : 0 < (q.den : Int) := by have := q.den_nz; omega
theorem sz_add {n m : Nat} {q r : Rat} (h : Sz n q) (k : Sz m r) : (q.num * (r.den : Int) + r.num * (q.den : Int)).natAbs < 2 ^ (n + m + 1) ∧ (q.num * (r.den : Int) - r.num * (q.den : Int)).natAbs < 2 ^ (n + m + 1) ∧ ((q.den : Int) * (r.den : Int)).natAbs < 2 ^ (n + m) ∧ (q.num * r.num).natAbs < 2 ^ (n + m) ∧ (q.num * (r.den : Int)).natAbs < 2 ^ (n + m) ∧ (r.num * (q.den : Int)).natAbs < 2 ^ (n + m) := by
  have a1 : (q.num * (r.den : Int)).natAbs < 2 ^ (n + m) := wide_lt h.1 (by rw [Int.natAbs_natCast]; exact k.2)
  have a2 : (r.num * (q.den : Int)).natAbs < 2 ^ (n + m) := by rw [Nat.add_comm]; exact wide_lt k.1 (by rw [Int.natAbs_natCast]; exact h.2)
  have a3 : ((q.den : Int) * (r.den : Int)).natAbs < 2 ^ (n + m) := wide_lt (by rw [Int.natAbs_natCast]; exact h.2) (by rw [Int.natAbs_natCast]; exact k.2)
  have e : 2 ^ (n + m + 1) = 2 ^ (n + m) + 2 ^ (n + m) := by rw [Nat.pow_succ]; omega
  exact ⟨by omega, by omega, a3, wide_lt h.1 k.1, a1, a2⟩
theorem add_q (q r : Rat) : Rat.divInt (q.num * (r.den : Int) + r.num * (q.den : Int)) ((q.den : Int) * (r.den : Int)) = q + r := by rw [Rat.add_def', ← Rat.divInt_ofNat, Int.natCast_mul]
theorem sub_q (q r : Rat) : Rat.divInt (q.num * (r.den : Int) - r.num * (q.den : Int)) ((q.den : Int) * (r.den : Int)) = q - r := by rw [Rat.sub_def', ← Rat.divInt_ofNat, Int.natCast_mul]
theorem mul_q (q r : Rat) : Rat.divInt (q.num * r.num) ((q.den : Int) * (r.den : Int)) = q * r := by rw [Rat.mul_def', ← Rat.divInt_ofNat, Int.natCast_mul]
theorem self_q (q : Rat) : Rat.divInt q.num (q.den : Int) = q := by rw [Rat.divInt_ofNat]; exact Rat.mkRat_self q
theorem int_q (n : Int) : Rat.divInt n 1 = (n : Rat) := by have h := self_q (n : Rat); exact h
end Pk

/-! # K01a -/
set_option Elab.async false
set_option linter.all false
set_option maxRecDepth 100000
set_option maxHeartbeats 4000000
namespace K1
open PySem PyProof.Rows L2 Pk Evl
def top (i : Nat) : Stmt := PySem.Challenge.pw_peekproof_k01_ratios_by_an_own_walk.main.body.getD i (.Pass ⟨0, 0, 0, 0⟩)
structure Bj (mg : Str → Option Value) : Prop where
  len : mg "len" = none
  isinstance : mg "isinstance" = none
  int : mg "int" = none
  bool : mg "bool" = none
  str : mg "str" = none
  all : mg "all" = none
  tuple : mg "tuple" = none
  repr : mg "repr" = none
  abs : mg "abs" = none
  range : mg "range" = none
  list : mg "list" = none
  gcd : mg "gcd" = some (.builtin "math.gcd")
/-- what the written part says of the class Ratio -/
structure RC1 (K : PySem.W.Frag) (C : Addr) : Prop extends RtC K C where
  isc : PySem.W.isClsIn K C = true
  tyc : PySem.W.typeIn K (.ref C) = some (.type "type")
  self : PySem.W.selfFirst K C = true
  ne : PySem.W.findIn K (.ref C) "__ne__" = some (some (.builtin "object.__ne__"))
  radd : PySem.W.findIn K (.ref C) "__radd__" = some none
  rsub : PySem.W.findIn K (.ref C) "__rsub__" = some none
  rmul : PySem.W.findIn K (.ref C) "__rmul__" = some none
abbrev oddTs : List String := ["bool", "NoneType", "str", "list", "tuple", "dict"]
/-- v is neither a ratio nor an integer -/
def OddQ (K : PySem.W.Frag) (H : Hp) (v : V) : Prop := ∃ T, T ∈ oddTs ∧ TyE K H v (.type T)
theorem OddQ.mono {K : PySem.W.Frag} {H H' : Hp} {v : V} (h : OddQ K H v) (e : Ex H H') : OddQ K H' v := let ⟨T, h1, h2⟩ := h; ⟨T, h1, h2.mono e⟩
section
variable {P : Program} {w : World} {K : PySem.W.Frag} {mg : Str → Option Value} {base : Heap} {cPE cBR cR : Addr}
theorem odd_sub {T : String} (h : T ∈ oddTs) : PySem.W.subIn K (.type T) (.ref cR) = some false := sub_ty T (by simp [oddTs] at h ⊢; rcases h with rfl | rfl | rfl | rfl | rfl | rfl <;> simp)
theorem kit_oddR {T : String} (C : RC1 K cR) (h : T ∈ "int" :: oddTs) : PySem.W.kitOne K (.type T) (.ref cR) = some false := kit_of_ref C.isc C.tyc (by simp) (sub_ty T (by simp [oddTs] at h ⊢; rcases h with rfl | rfl | rfl | rfl | rfl | rfl | rfl <;> simp))
theorem spv_isI_odd {H : Hp} {v : V} (h : OddQ K H v) : SpV (spIsI K) [v] H (.bl false) := fun H1 e Q q E => by
  obtain ⟨T, hT, ty⟩ := h
  have ty1 := ty.mono e
  simp [oddTs] at hT
  rcases hT with rfl | rfl | rfl | rfl | rfl | rfl
  · exact ⟨v, _, true, true, rfl, ty1, kit_ty (by decide +kernel), kit_ty (by decide +kernel), q⟩
  all_goals exact ⟨v, _, false, false, rfl, ty1, kit_ty (by decide +kernel), kit_ty (by decide +kernel), q⟩
theorem ty_num {H : Hp} {v : V} {q : Rat} (C : RC1 K cR) (h : Num cR H v q) : TyE K H v (.ref cR) ∨ TyE K H v (.type "int") := by
  rcases h with ⟨a, rfl, dx, h⟩ | ⟨rfl, _⟩
  · exact .inl fun H1 e => C.ty (e _ _ h)
  · exact .inr ty_int
/-! ### is_integer -/
abbrev s_isI : Stmt := top 8
theorem sc_isI : FnScope ["value"] ["value"] (defScope s_isI) := ⟨rfl, rfl, rfl, by decide +kernel, rfl, by decide +kernel, by decide +kernel⟩
theorem ok_isI {f : Addr} {fd : FuncData} (F : Fun K "is_integer" "is_integer" s_isI f fd) (B : Bj mg) : FnG P w K mg base 1 f fd ["value"] (spIsI K) := by
  refine okG F sc_isI (fun vs H Q E h => ?_) (fun cdv A outer s H vs Q E hr h => ?_)
  · obtain ⟨v, tv, b1, b2, rfl, _⟩ := h
    rfl
  · obtain ⟨v, tv, b1, b2, rfl, hv, h1, h2, k⟩ := h
    refine ⟨_, (pss_one (ps_ret (pe_and (pe_callB call_isi (by rfl) B.isinstance Boot.«isinstance» (pa_cons (pv 0) (pa_cons (pe_bltn (v := .ty "int") (by rfl) B.int Boot.«int» rfl) pa_nil))) (pe_one (pe_not (pe_callB call_isi (by rfl) B.isinstance Boot.«isinstance» (pa_cons (pv 0) (pa_cons (pe_bltn (v := .ty "bool") (by rfl) B.bool Boot.«bool» rfl) pa_nil)))))))), ?_⟩
    refine s_ret (ev_andV (ev_cb (ea_cons (ev_var rfl) (ea_cons ev_c ea_nil)) (rc_isi (.ty _) hv h1)) fun _ => ev_notV (ev_cb (ea_cons (ev_var rfl) (ea_cons ev_c ea_nil)) (rc_isi (.ty _) hv h2))) fun H1 e1 => k H1 e1
/-! ### Ratio.__init__ -/
def spQI (K : PySem.W.Frag) (cR cBR : Addr) : Sp := fun vs H Q E => ∃ (a dx : Addr) (t b : V), vs = [.ref a, t, b] ∧ H a = some (.ins cR dx []) ∧
  ((∃ i j : Int, t = .int i ∧ b = .int j ∧ j ≠ 0 ∧ j.natAbs < 2 ^ 2000 ∧ ∀ H', ExB a H H' → IsQ cR H' a (Rat.divInt i j) → Q .non H') ∨
   (OddQ K H t ∧ Raises cBR [("part", .str "top")] H E) ∨
   (∃ i : Int, t = .int i ∧ (OddQ K H b ∨ b = .int 0) ∧ Raises cBR [("part", .str "bottom")] H E))
abbrev s_QI : Stmt := inClass (top 18) 1
theorem sc_QI : FnScope ["self", "top", "bottom", "common"] ["self", "top", "bottom"] (defScope s_QI) := ⟨rfl, rfl, rfl, by decide +kernel, rfl, by decide +kernel, by decide +kernel⟩
theorem ok_QI {f : Addr} {fd : FuncData} (F : FunX K "__init__" "Ratio.__init__" s_QI f fd) (B : Bj mg) (C : RC1 K cR) (GI : GF P w K mg base 1 "is_integer" (spIsI K) []) (XR : XCls P w K mg base "BadRatio" cBR ["part"]) : FnG P w K mg base 3 f fd ["self", "top", "bottom"] (spQI K cR cBR) := by
  refine okX F sc_QI (fun vs H Q E h => ?_) (fun cdv A outer s H vs Q E hr h => ?_)
  · obtain ⟨a, dx, t, b, rfl, _⟩ := h
    rfl
  · obtain ⟨a, dx, t, b, rfl, ha, h⟩ := h
    have nd := sc_QI.nd
    refine ⟨_, (pss_cons (ps_if (pt_not (pt_val (pe_gf GI (hr.mono (by decide)) (takes_of rfl rfl rfl rfl) (by rfl) (pa_cons (pv 1) pa_nil))))
        (pss_one (ps_raiseX (k := 0) rfl XR (by decide) hr.r (takes_of rfl rfl rfl rfl) (pa_cons pe_str pa_nil) (by rfl)))
        pss_nil)
      (pss_cons (ps_if (PW.pt (pw_or (pt_not (pt_val (pe_gf GI (hr.mono (by decide)) (takes_of rfl rfl rfl rfl) (by rfl) (pa_cons (pv 2) pa_nil)))) (pw_or1 (pt_cmpR op_eq (pv 2) pe_int (nomark _)))))
        (pss_one (ps_raiseX (k := 0) rfl XR (by decide) hr.r (takes_of rfl rfl rfl rfl) (pa_cons pe_str pa_nil) (by rfl)))
        pss_nil)
      (pss_cons (ps_set (i := 3) nd rfl (Or.inl rfl) (pe_callBfun cr_gcd (by rfl) B.gcd (pa_cons (pv 1) (pa_cons (pv 2) pa_nil))))
      (pss_cons (ps_if (pt_cmpR op_lt (pv 2) pe_int (nomark _))
        (pss_one (ps_set (i := 3) nd rfl (Or.inl rfl) (pe_un un_neg (pv 3))))
        pss_nil)
      (pss_cons (ps_fld (pv 0) (pe_op op_fdivNW (pv 1) (pv 3)) rfl)
      (pss_one (ps_fld (pv 0) (pe_op op_fdivNW (pv 2) (pv 3)) rfl))))))), ?_⟩
    rcases h with ⟨t, b, rfl, rfl, hb0, hb, k⟩ | ⟨ho, kr⟩ | ⟨i, rfl, ho, kr⟩
    · refine q_when (b := false) (et_not (a := true) (et_B (ev_gf (ea_cons (ev_var rfl) ea_nil) spv_isI_int))) (fun z => nomatch z) (fun _ H1 e1 => ?_)
      refine q_when (b := false) (et_is (et_or (a := false) (et_not (a := true) (et_B (ev_gf (ea_cons (ev_var rfl) ea_nil) spv_isI_int))) fun _ => et_test (ev_op (ev_var rfl) ev_c (rv_eq rfl))) ?_) (fun z => nomatch z) (fun _ H2 e2 => ?_)
      · rw [Bool.false_or]
        exact decide_eq_false fun z => hb0 (V.int.inj z)
      refine q_asg (ev_cb (ea_cons (ev_var rfl) (ea_cons (ev_var rfl) ea_nil)) rc_gcd) fun H3 e3 => ?_
      refine q_ifAsg (v := .int (comI t b)) (b := decide (b < 0)) (et_test (ev_op (ev_var rfl) ev_c rv_I0)) (fun hb1 => ev_is (ev_un (ev_var rfl) ru_neg) ?_) (fun hb1 => ?_) fun H4 e4 => ?_
      · rw [comI, if_pos (of_decide_eq_true hb1)]
      · rw [comI, if_neg (of_decide_eq_false hb1)]
        rfl
      have ha4 : H4 a = some (.ins cR dx []) := e4 _ _ (e3 _ _ (e2 _ _ (e1 _ _ ha)))
      refine q_fld (ev_op (ev_var rfl) (ev_var rfl) (rv_I (comI_ok hb0 hb))) (ev_var rfl) ha4 C.cl C.top (by decide) fun H5 e5 => ?_
      refine s_fld (ev_op (ev_var rfl) (ev_var rfl) (rv_I (comI_ok (t := t) hb0 hb))) (ev_var rfl) upd_same C.cl C.bottom (by show 1 < 1000; decide) fun H6 e6 => ?_
      obtain ⟨n1, n2⟩ := nf (t := t) hb0
      refine k _ ?_ ⟨dx, ?_⟩
      · exact ((((((ExB.of e1).trans (ExB.of e2)).trans (ExB.of e3)).trans (ExB.of e4)).trans (ExB.of e5)).put.trans (ExB.of e6)).put
      · rw [← n1, ← n2]
        exact upd_same
    · refine q_when (b := true) (et_not (a := false) (et_B (ev_gf (ea_cons (ev_var rfl) ea_nil) (spv_isI_odd ho)))) (fun _ H1 e1 => ?_) (fun z => nomatch z)
      exact s_raiseX (ea_cons ev_c ea_nil) rfl (kr.mono e1)
    · refine q_when (b := false) (et_not (a := true) (et_B (ev_gf (ea_cons (ev_var rfl) ea_nil) spv_isI_int))) (fun z => nomatch z) (fun _ H1 e1 => ?_)
      rcases ho with ho | rfl
      · refine q_when (b := true) (et_is (et_or (a := true) (b := true) (et_not (a := false) (et_B (ev_gf (ea_cons (ev_var rfl) ea_nil) (spv_isI_odd (ho.mono e1))))) fun z => nomatch z) rfl) (fun _ H2 e2 => ?_) (fun z => nomatch z)
        exact s_raiseX (ea_cons ev_c ea_nil) rfl (kr.mono (e1.trans e2))
      · refine q_when (b := true) (et_is (et_or (a := false) (et_not (a := true) (et_B (ev_gf (ea_cons (ev_var rfl) ea_nil) spv_isI_int))) fun _ => et_test (ev_op (ev_var rfl) ev_c (rv_eq rfl))) rfl) (fun _ H2 e2 => ?_) (fun z => nomatch z)
        exact s_raiseX (ea_cons ev_c ea_nil) rfl (kr.mono (e1.trans e2))
/-- Ratio(i, j) -/
theorem ep_Q {σ : L2.St} {H : Hp} {W : WX} {tA : TA} {vs dvs : List V} {t b : Int} (h : EvA tA σ H vs) (hv : vs ++ dvs = [.int t, .int b]) (hb0 : b ≠ 0) (hb : b.natAbs < 2 ^ 2000) :
    EvP (tGC cR (spQI K cR cBR) dvs W tA) σ H (fun v H2 => ∃ a, v = .ref a ∧ IsQ cR H2 a (Rat.divInt t b)) := fun H0 e0 Q q =>
  go_gc (h.mono e0) fun x dx H1 e1 hx hdx hne => ⟨x, dx, .int t, .int b, by rw [hv], upd_same, .inl ⟨t, b, rfl, rfl, hb0, hb, fun H2 e2 hq => ⟨rfl, q _ H2 (e1.trans (made_ex hx hdx hne e2)) ⟨x, rfl, hq⟩⟩⟩⟩
end
end K1

/-! # K01b -/
set_option Elab.async false
set_option linter.all false
set_option maxRecDepth 100000
set_option maxHeartbeats 4000000
namespace K1
open PySem PyProof.Rows L2 Pk Evl
theorem call_boolB {X : Cx} : CallR X (.type "bool") (fun xs H Q => ∃ b : Bool, xs = [V.bl b] ∧ Q (.bl b) H) := by
  intro pins s σ H xs us Q I r h
  obtain ⟨b, rfl, q⟩ := h
  obtain ⟨u, rfl, ru⟩ := vals1 r
  obtain rfl : u = Value.bool b := ru
  exact PySem.call_bool_bool ⟨.bl b, H, I, rfl, q⟩
section
variable {P : Program} {w : World} {K : PySem.W.Frag} {mg : Str → Option Value} {base : Heap} {cPE cBR cR : Addr}
theorem ev_top {σ : L2.St} {H : Hp} {te : TE} {a : Addr} {q : Rat} (C : RC1 K cR) (h : Ev te σ H (.ref a)) (hq : IsQ cR H a q) : Ev (tFld K te "top") σ H (.int q.num) := let ⟨_, e⟩ := hq; ev_fld h e C.cl C.top rfl
theorem ev_bot {σ : L2.St} {H : Hp} {te : TE} {a : Addr} {q : Rat} (C : RC1 K cR) (h : Ev te σ H (.ref a)) (hq : IsQ cR H a q) : Ev (tFld K te "bottom") σ H (.int (q.den : Int)) := let ⟨_, e⟩ := hq; ev_fld h e C.cl C.bottom rfl
/-! ### is_ratio -/
def spIsR (K : PySem.W.Frag) (cR : Addr) : Sp := fun vs H Q _ => ∃ (v : V) (b : Bool), vs = [v] ∧ (if b then ∃ q, Num cR H v q else OddQ K H v) ∧ ∀ H', Ex H H' → Q (.bl b) H'
abbrev s_isR : Stmt := top 14
theorem sc_isR : FnScope ["value"] ["value"] (defScope s_isR) := ⟨rfl, rfl, rfl, by decide +kernel, rfl, by decide +kernel, by decide +kernel⟩
theorem ok_isR {f : Addr} {fd : FuncData} (F : Fun K "is_ratio" "is_ratio" s_isR f fd) (B : Bj mg) (C : RC1 K cR) (gR : mg "Ratio" = some (.ref cR)) (GI : GF P w K mg base 1 "is_integer" (spIsI K) []) : FnG P w K mg base 2 f fd ["value"] (spIsR K cR) := by
  refine okG F sc_isR (fun vs H Q E h => ?_) (fun cdv A outer s H vs Q E hr h => ?_)
  · obtain ⟨v, b, rfl, _⟩ := h
    rfl
  · obtain ⟨v, b, rfl, h, k⟩ := h
    refine ⟨_, (pss_one (ps_ret (pe_or (pe_callB call_isi (by rfl) B.isinstance Boot.«isinstance» (pa_cons (pv 0) (pa_cons (pe_glob (v := .ref cR) (by rfl) gR rfl) pa_nil))) (pe_one (pe_gf GI hr (takes_of rfl rfl rfl rfl) (by rfl) (pa_cons (pv 0) pa_nil)))))), ?_⟩
    cases b with
    | true =>
      obtain ⟨q, ⟨a, rfl, dx, ha⟩ | ⟨rfl, _⟩⟩ := (show ∃ q, Num cR H v q from h)
      · exact s_ret (ev_orV (a := true) (b := true) (ev_cb (ea_cons (ev_var rfl) (ea_cons ev_c ea_nil)) (rc_isi (.own _) (fun H1 e1 => C.ty (e1 _ _ ha)) (kit_self cR))) fun z => nomatch z) k
      · exact s_ret (ev_orV (a := false) (b := true) (ev_cb (ea_cons (ev_var rfl) (ea_cons ev_c ea_nil)) (rc_isi (.own _) ty_int (kit_oddR C (by simp)))) fun _ => ev_gf (ea_cons (ev_var rfl) ea_nil) spv_isI_int) k
    | false =>
      have ho : OddQ K H v := h
      obtain ⟨T, hT, ty⟩ := id ho
      exact s_ret (ev_orV (a := false) (b := false) (ev_cb (ea_cons (ev_var rfl) (ea_cons ev_c ea_nil)) (rc_isi (.own _) ty (kit_oddR C (List.mem_cons_of_mem _ hT)))) fun _ => ev_gf (ea_cons (ev_var rfl) ea_nil) (spv_isI_odd ho)) k
/-! ### ratio_from, Ratio.of -/
def spRF (K : PySem.W.Frag) (cR cBR : Addr) : Sp := fun vs H Q E => ∃ (v : V) (z : Str), vs = [v, .str z] ∧ ((∃ q, Num cR H v q ∧ ∀ a H', Ex H H' → IsQ cR H' a q → Q (.ref a) H') ∨ (OddQ K H v ∧ Raises cBR [("part", .str z)] H E))
abbrev s_RF : Stmt := top 15
theorem sc_RF : FnScope ["value", "part"] ["value", "part"] (defScope s_RF) := ⟨rfl, rfl, rfl, by decide +kernel, rfl, by decide +kernel, by decide +kernel⟩
theorem ok_RF {f : Addr} {fd : FuncData} (F : Fun K "ratio_from" "ratio_from" s_RF f fd) (B : Bj mg) (C : RC1 K cR) (gR : mg "Ratio" = some (.ref cR)) (GI : GF P w K mg base 1 "is_integer" (spIsI K) []) (XR : XCls P w K mg base "BadRatio" cBR ["part"]) (GR : GC P w K mg base 3 "Ratio" cR (spQI K cR cBR) [.int 1]) :
    FnG P w K mg base 5 f fd ["value", "part"] (spRF K cR cBR) := by
  refine okG F sc_RF (fun vs H Q E h => ?_) (fun cdv A outer s H vs Q E hr h => ?_)
  · obtain ⟨v, z, rfl, _⟩ := h
    rfl
  · obtain ⟨v, z, rfl, h⟩ := h
    refine ⟨_, (pss_cons (ps_if (pt_val (pe_callB call_isi (by rfl) B.isinstance Boot.«isinstance» (pa_cons (pv 0) (pa_cons (pe_glob (v := .ref cR) (by rfl) gR rfl) pa_nil))))
    (pss_one (ps_ret (pv 0)))
    pss_nil)
  (pss_cons (ps_if (pt_not (pt_val (pe_gf GI (hr.mono (by decide)) (takes_of rfl rfl rfl rfl) (by rfl) (pa_cons (pv 0) pa_nil))))
    (pss_one (ps_raiseX (k := 2) rfl XR (by decide) hr.r (takes_of rfl rfl rfl rfl) (pa_cons (pv 1) pa_nil) (by rfl)))
    pss_nil)
  (pss_one (ps_ret (pe_gc GR hr (takes_of rfl rfl rfl rfl) (by rfl) (pa_cons (pv 0) pa_nil)))))), ?_⟩
    rcases h with ⟨q, ⟨a, rfl, hq⟩ | ⟨rfl, hd⟩, k⟩ | ⟨ho, kr⟩
    · obtain ⟨dx, ha⟩ := id hq
      refine q_when (b := true) (et_B (ev_cb (ea_cons (ev_var rfl) (ea_cons ev_c ea_nil)) (rc_isi (.own _) (fun H1 e1 => C.ty (e1 _ _ ha)) (kit_self cR)))) (fun _ H1 e1 => ?_) (fun z => nomatch z)
      exact s_ret (ev_var rfl) fun H2 e2 => k a H2 (e1.trans e2) (hq.mono (e1.trans e2))
    · refine q_when (b := false) (et_B (ev_cb (ea_cons (ev_var rfl) (ea_cons ev_c ea_nil)) (rc_isi (.own _) ty_int (kit_oddR C (by simp))))) (fun z => nomatch z) (fun _ H1 e1 => ?_)
      refine q_when (b := false) (et_not (a := true) (et_B (ev_gf (ea_cons (ev_var rfl) ea_nil) spv_isI_int))) (fun z => nomatch z) (fun _ H2 e2 => ?_)
      refine s_retP (ep_Q (K := K) (cBR := cBR) (t := q.num) (b := 1) (ea_cons (ev_var rfl) ea_nil) rfl (by decide) (by decide)) fun v H3 e3 ⟨a, hv, hq⟩ => ?_
      subst hv
      have e : Rat.divInt q.num 1 = q := by have := self_q q; rwa [hd] at this
      rw [e] at hq
      exact k a H3 ((e1.trans e2).trans e3) hq
    · obtain ⟨T, hT, ty⟩ := id ho
      refine q_when (b := false) (et_B (ev_cb (ea_cons (ev_var rfl) (ea_cons ev_c ea_nil)) (rc_isi (.own _) ty (kit_oddR C (List.mem_cons_of_mem _ hT))))) (fun z => nomatch z) (fun _ H1 e1 => ?_)
      refine q_when (b := true) (et_not (a := false) (et_B (ev_gf (ea_cons (ev_var rfl) ea_nil) (spv_isI_odd (ho.mono e1))))) (fun _ H2 e2 => ?_) (fun z => nomatch z)
      exact s_raiseX (ea_cons (ev_var rfl) ea_nil) rfl (kr.mono (e1.trans e2))
def spOf (K : PySem.W.Frag) (cR cBR : Addr) : Sp := fun vs H Q E => ∃ v : V, vs = [v] ∧ spRF K cR cBR [v, .str "value"] H Q E
abbrev s_of : Stmt := inClass (top 18) 2
theorem sc_of : FnScope ["value"] ["value"] (defScope s_of) := ⟨rfl, rfl, rfl, by decide +kernel, rfl, by decide +kernel, by decide +kernel⟩
theorem spRF_mono {H H1 : Hp} {v : V} {z : Str} {Q : VK} {E : XK} (h : spRF K cR cBR [v, .str z] H Q E) (e : Ex H H1) : spRF K cR cBR [v, .str z] H1 Q E := by
  obtain ⟨v', z', hv, h⟩ := h
  cases hv
  refine ⟨v, z, rfl, ?_⟩
  rcases h with ⟨q, hn, k⟩ | ⟨ho, kr⟩
  · exact .inl ⟨q, hn.mono e, fun a H' e' => k a H' (e.trans e')⟩
  · exact .inr ⟨ho.mono e, kr.mono e⟩
theorem ok_of {f : Addr} {fd : FuncData} (F : Fun K "of" "Ratio.of" s_of f fd) (GF' : GF P w K mg base 5 "ratio_from" (spRF K cR cBR) []) : FnG P w K mg base 6 f fd ["value"] (spOf K cR cBR) := by
  refine okG F sc_of (fun vs H Q E h => ?_) (fun cdv A outer s H vs Q E hr h => ?_)
  · obtain ⟨v, rfl, _⟩ := h
    rfl
  · obtain ⟨v, rfl, h⟩ := h
    refine ⟨_, (pss_one (ps_ret (pe_gf GF' hr (takes_of rfl rfl rfl rfl) (by rfl) (pa_cons (pv 0) (pa_cons pe_str pa_nil))))), ?_⟩
    exact go_gf (vs := [v, .str "value"]) (ea_cons (ev_var rfl) (ea_cons ev_c ea_nil)) fun H1 e1 => spRF_mono h e1
/-! ### sign, is_whole -/
def sgn (n : Int) : Int := if n < 0 then -1 else if 0 < n then 1 else 0
def spSg (cR : Addr) : Sp := fun vs H Q _ => ∃ a q, vs = [.ref a] ∧ IsQ cR H a q ∧ ∀ H', Ex H H' → Q (.int (sgn q.num)) H'
abbrev s_sg : Stmt := inClass (top 18) 4
theorem sc_sg : FnScope ["self"] ["self"] (defScope s_sg) := ⟨rfl, rfl, rfl, by decide +kernel, rfl, by decide +kernel, by decide +kernel⟩
theorem ok_sg {f : Addr} {fd : FuncData} (F : Fun K "sign" "Ratio.sign" s_sg f fd) (C : RC1 K cR) : FnG P w K mg base 1 f fd ["self"] (spSg cR) := by
  refine okG F sc_sg (fun vs H Q E h => ?_) (fun cdv A outer s H vs Q E hr h => ?_)
  · obtain ⟨a, q, rfl, _⟩ := h
    rfl
  · obtain ⟨a, q, rfl, hq, k⟩ := h
    refine ⟨_, (pss_cons (ps_if (pt_cmpR op_lt (pe_fld (pv 0) rfl) pe_int (nomark _))
    (pss_one (ps_ret (pe_un un_neg pe_int)))
    pss_nil)
  (pss_one (ps_ret (pe_ifExp (pt_cmpR op_gt (pe_fld (pv 0) rfl) pe_int (nomark _)) pe_int pe_int)))), ?_⟩
    refine q_when (et_test (ev_op (ev_top C (ev_var rfl) hq) ev_c rv_I0)) (fun hb H1 e1 => ?_) (fun hb H1 e1 => ?_)
    · refine s_ret (v := .int (sgn q.num)) (ev_is (ev_un ev_c ru_neg) ?_) fun H2 e2 => k H2 (e1.trans e2)
      unfold sgn
      rw [if_pos (of_decide_eq_true hb)]
    · refine s_ret (v := .int (sgn q.num)) (ev_if (et_test (ev_op (ev_top C (ev_var rfl) (hq.mono e1)) ev_c rv_I0)) (fun hb2 => ev_is ev_c ?_) (fun hb2 => ev_is ev_c ?_)) fun H2 e2 => k H2 (e1.trans e2)
      · unfold sgn
        rw [if_neg (of_decide_eq_false hb), if_pos (of_decide_eq_true hb2)]
      · unfold sgn
        rw [if_neg (of_decide_eq_false hb), if_neg (of_decide_eq_false hb2)]
def spWh (cR : Addr) : Sp := fun vs H Q _ => ∃ a q, vs = [.ref a] ∧ IsQ cR H a q ∧ ∀ H', Ex H H' → Q (.bl (decide ((q.den : Int) = 1))) H'
abbrev s_wh : Stmt := inClass (top 18) 5
theorem sc_wh : FnScope ["self"] ["self"] (defScope s_wh) := ⟨rfl, rfl, rfl, by decide +kernel, rfl, by decide +kernel, by decide +kernel⟩
theorem ok_wh {f : Addr} {fd : FuncData} (F : Fun K "is_whole" "Ratio.is_whole" s_wh f fd) (C : RC1 K cR) : FnG P w K mg base 1 f fd ["self"] (spWh cR) := by
  refine okG F sc_wh (fun vs H Q E h => ?_) (fun cdv A outer s H vs Q E hr h => ?_)
  · obtain ⟨a, q, rfl, _⟩ := h
    rfl
  · obtain ⟨a, q, rfl, hq, k⟩ := h
    refine ⟨_, (pss_one (ps_ret (pe_cmpR op_eq (pe_fld (pv 0) rfl) pe_int (nomark _)))), ?_⟩
    exact s_ret (ev_is (ev_op (ev_bot C (ev_var rfl) hq) ev_c (rv_eq rfl)) (by rw [intEq])) k
/-! ### + - * -/
/-- x f y -/
def spBin (K : PySem.W.Frag) (cR cBR : Addr) (f : Rat → Rat → Rat) : Sp := fun vs H Q E => ∃ (a : Addr) (v : V) (q : Rat), vs = [.ref a, v] ∧ IsQ cR H a q ∧
  ((∃ r, Num cR H v r ∧ Sz 900 q ∧ Sz 900 r ∧ ∀ c H', Ex H H' → IsQ cR H' c (f q r) → Q (.ref c) H') ∨ (OddQ K H v ∧ Raises cBR [("part", .str "other")] H E))
theorem mulw {i j : Int} (hi : i.natAbs < 2 ^ 900) (hj : j.natAbs < 2 ^ 900) : CMulW i j := wide_mul hi hj (by decide) (by decide) (by decide)
theorem szd {q : Rat} (h : Sz 900 q) : ((q.den : Int)).natAbs < 2 ^ 900 := by rw [Int.natAbs_natCast]; exact h.2
theorem den0 (q r : Rat) : (q.den : Int) * (r.den : Int) ≠ 0 := by
  have h1 := den_pos q
  have h2 := den_pos r
  have := Int.mul_pos h1 h2
  omega
theorem lt2000 {n : Nat} (h : n < 2 ^ 1800) : n < 2 ^ 2000 := Nat.lt_of_lt_of_le h (Nat.pow_le_pow_right (by decide) (by decide))
/-- more = ratio_from(other, 'other'), then the rest -/
theorem q_from {σ : L2.St} {H : Hp} {E : XK} {tA : TA} {tz : TS} {D : Ends} {i : Nat} {v : V} {z : Str} (h : EvA tA σ H [v, .str z])
    (hs : (∃ r, Num cR H v r ∧ ∀ m H1, Ex H H1 → IsQ cR H1 m r → tz D (σ.set i (some (.ref m))) H1) ∨ (OddQ K H v ∧ Raises cBR [("part", .str z)] H E)) :
    tSeq (tAsg (tCallSD (spRF K cR cBR) [] (WE fun cls d _ H => E cls d H) tA) (gName i)) tz D σ H :=
  q_set (go_gf (vs := [v, .str z]) h fun H1 e1 => spRF_mono (H := H) ⟨v, z, rfl, by
    rcases hs with ⟨r, hn, k⟩ | ⟨ho, kr⟩
    · exact .inl ⟨r, hn, fun a H' e' hq => k a H' e' hq⟩
    · exact .inr ⟨ho, kr⟩⟩ e1)
abbrev s_add : Stmt := inClass (top 18) 6
theorem sc_add : FnScope ["self", "other", "more"] ["self", "other"] (defScope s_add) := ⟨rfl, rfl, rfl, by decide +kernel, rfl, by decide +kernel, by decide +kernel⟩
abbrev s_sub : Stmt := inClass (top 18) 7
theorem sc_sub : FnScope ["self", "other", "less"] ["self", "other"] (defScope s_sub) := ⟨rfl, rfl, rfl, by decide +kernel, rfl, by decide +kernel, by decide +kernel⟩
abbrev s_mul : Stmt := inClass (top 18) 8
theorem sc_mul : FnScope ["self", "other", "times"] ["self", "other"] (defScope s_mul) := ⟨rfl, rfl, rfl, by decide +kernel, rfl, by decide +kernel, by decide +kernel⟩
theorem ok_add {f : Addr} {fd : FuncData} (F : Fun K "__add__" "Ratio.__add__" s_add f fd) (C : RC1 K cR) (GF' : GF P w K mg base 5 "ratio_from" (spRF K cR cBR) []) (GR2 : GC P w K mg base 3 "Ratio" cR (spQI K cR cBR) []) : FnG P w K mg base 6 f fd ["self", "other"] (spBin K cR cBR (· + ·)) := by
  refine okG F sc_add (fun vs H Q E h => ?_) (fun cdv A outer s H vs Q E hr h => ?_)
  · obtain ⟨a, v, q, rfl, _⟩ := h
    rfl
  · obtain ⟨a, v, q, rfl, hq, h⟩ := h
    have nd := sc_add.nd
    refine ⟨_, (pss_cons (ps_set (i := 2) nd rfl (Or.inl rfl) (pe_gf GF' hr (takes_of rfl rfl rfl rfl) (by rfl) (pa_cons (pv 1) (pa_cons pe_str pa_nil))))
  (pss_one (ps_ret (pe_gc GR2 (hr.mono (by decide)) (takes_of rfl rfl rfl rfl) (by rfl) (pa_cons (pe_op op_add (pe_op op_mulW (pe_fld (pv 0) rfl) (pe_fld (pv 2) rfl)) (pe_op op_mulW (pe_fld (pv 2) rfl) (pe_fld (pv 0) rfl))) (pa_cons (pe_op op_mulW (pe_fld (pv 0) rfl) (pe_fld (pv 2) rfl)) pa_nil)))))), ?_⟩
    refine q_from (ea_cons (ev_var rfl) (ea_cons ev_c ea_nil)) ?_
    rcases h with ⟨r, hn, s1, s2, k⟩ | h
    · refine .inl ⟨r, hn, fun m H1 e1 hm => ?_⟩
      have hq1 := hq.mono e1
      obtain ⟨_, _, b3, _⟩ := sz_add s1 s2
      refine s_retP (ep_Q (K := K) (cBR := cBR) (ea_cons (ev_op (ev_op (ev_top C (ev_var rfl) hq1) (ev_bot C (ev_var rfl) hm) (rv_I (mulw s1.1 (szd s2)))) (ev_op (ev_top C (ev_var rfl) hm) (ev_bot C (ev_var rfl) hq1) (rv_I (mulw s2.1 (szd s1)))) rv_I0) (ea_cons (ev_op (ev_bot C (ev_var rfl) hq1) (ev_bot C (ev_var rfl) hm) (rv_I (mulw (szd s1) (szd s2)))) ea_nil)) rfl (den0 q r) (lt2000 b3)) fun v H2 e2 ⟨c, hv, hc⟩ => ?_
      subst hv
      rw [add_q] at hc
      exact k c H2 (e1.trans e2) hc
    · exact .inr h
theorem ok_sub {f : Addr} {fd : FuncData} (F : Fun K "__sub__" "Ratio.__sub__" s_sub f fd) (C : RC1 K cR) (GF' : GF P w K mg base 5 "ratio_from" (spRF K cR cBR) []) (GR2 : GC P w K mg base 3 "Ratio" cR (spQI K cR cBR) []) : FnG P w K mg base 6 f fd ["self", "other"] (spBin K cR cBR (· - ·)) := by
  refine okG F sc_sub (fun vs H Q E h => ?_) (fun cdv A outer s H vs Q E hr h => ?_)
  · obtain ⟨a, v, q, rfl, _⟩ := h
    rfl
  · obtain ⟨a, v, q, rfl, hq, h⟩ := h
    have nd := sc_sub.nd
    refine ⟨_, (pss_cons (ps_set (i := 2) nd rfl (Or.inl rfl) (pe_gf GF' hr (takes_of rfl rfl rfl rfl) (by rfl) (pa_cons (pv 1) (pa_cons pe_str pa_nil))))
  (pss_one (ps_ret (pe_gc GR2 (hr.mono (by decide)) (takes_of rfl rfl rfl rfl) (by rfl) (pa_cons (pe_op op_sub (pe_op op_mulW (pe_fld (pv 0) rfl) (pe_fld (pv 2) rfl)) (pe_op op_mulW (pe_fld (pv 2) rfl) (pe_fld (pv 0) rfl))) (pa_cons (pe_op op_mulW (pe_fld (pv 0) rfl) (pe_fld (pv 2) rfl)) pa_nil)))))), ?_⟩
    refine q_from (ea_cons (ev_var rfl) (ea_cons ev_c ea_nil)) ?_
    rcases h with ⟨r, hn, s1, s2, k⟩ | h
    · refine .inl ⟨r, hn, fun m H1 e1 hm => ?_⟩
      have hq1 := hq.mono e1
      obtain ⟨_, _, b3, _⟩ := sz_add s1 s2
      refine s_retP (ep_Q (K := K) (cBR := cBR) (ea_cons (ev_op (ev_op (ev_top C (ev_var rfl) hq1) (ev_bot C (ev_var rfl) hm) (rv_I (mulw s1.1 (szd s2)))) (ev_op (ev_top C (ev_var rfl) hm) (ev_bot C (ev_var rfl) hq1) (rv_I (mulw s2.1 (szd s1)))) rv_I0) (ea_cons (ev_op (ev_bot C (ev_var rfl) hq1) (ev_bot C (ev_var rfl) hm) (rv_I (mulw (szd s1) (szd s2)))) ea_nil)) rfl (den0 q r) (lt2000 b3)) fun v H2 e2 ⟨c, hv, hc⟩ => ?_
      subst hv
      rw [sub_q] at hc
      exact k c H2 (e1.trans e2) hc
    · exact .inr h
theorem ok_mul {f : Addr} {fd : FuncData} (F : Fun K "__mul__" "Ratio.__mul__" s_mul f fd) (C : RC1 K cR) (GF' : GF P w K mg base 5 "ratio_from" (spRF K cR cBR) []) (GR2 : GC P w K mg base 3 "Ratio" cR (spQI K cR cBR) []) : FnG P w K mg base 6 f fd ["self", "other"] (spBin K cR cBR (· * ·)) := by
  refine okG F sc_mul (fun vs H Q E h => ?_) (fun cdv A outer s H vs Q E hr h => ?_)
  · obtain ⟨a, v, q, rfl, _⟩ := h
    rfl
  · obtain ⟨a, v, q, rfl, hq, h⟩ := h
    have nd := sc_mul.nd
    refine ⟨_, (pss_cons (ps_set (i := 2) nd rfl (Or.inl rfl) (pe_gf GF' hr (takes_of rfl rfl rfl rfl) (by rfl) (pa_cons (pv 1) (pa_cons pe_str pa_nil))))
  (pss_one (ps_ret (pe_gc GR2 (hr.mono (by decide)) (takes_of rfl rfl rfl rfl) (by rfl) (pa_cons (pe_op op_mulW (pe_fld (pv 0) rfl) (pe_fld (pv 2) rfl)) (pa_cons (pe_op op_mulW (pe_fld (pv 0) rfl) (pe_fld (pv 2) rfl)) pa_nil)))))), ?_⟩
    refine q_from (ea_cons (ev_var rfl) (ea_cons ev_c ea_nil)) ?_
    rcases h with ⟨r, hn, s1, s2, k⟩ | h
    · refine .inl ⟨r, hn, fun m H1 e1 hm => ?_⟩
      have hq1 := hq.mono e1
      obtain ⟨_, _, b3, _⟩ := sz_add s1 s2
      refine s_retP (ep_Q (K := K) (cBR := cBR) (ea_cons (ev_op (ev_top C (ev_var rfl) hq1) (ev_top C (ev_var rfl) hm) (rv_I (mulw s1.1 s2.1))) (ea_cons (ev_op (ev_bot C (ev_var rfl) hq1) (ev_bot C (ev_var rfl) hm) (rv_I (mulw (szd s1) (szd s2)))) ea_nil)) rfl (den0 q r) (lt2000 b3)) fun v H2 e2 ⟨c, hv, hc⟩ => ?_
      subst hv
      rw [mul_q] at hc
      exact k c H2 (e1.trans e2) hc
    · exact .inr h
end
end K1

/-! # K01c -/
set_option Elab.async false
set_option linter.all false
set_option maxRecDepth 100000
set_option maxHeartbeats 4000000
namespace K1
open PySem PyProof.Rows L2 Pk Evl
theorem rat_eq {q r : Rat} : (decide (q.num = r.num) && decide ((q.den : Int) = (r.den : Int))) = decide (q = r) := by
  rw [Bool.eq_iff_iff]
  simp only [Bool.and_eq_true, decide_eq_true_eq]
  constructor
  · rintro ⟨h1, h2⟩
    exact Rat.ext h1 (by omega)
  · rintro rfl
    exact ⟨rfl, rfl⟩
theorem neg_q (q : Rat) : Rat.divInt (-q.num) (q.den : Int) = -q := by
  have h := self_q (-q)
  rwa [Rat.neg_num, Rat.neg_den] at h
def absQ (q : Rat) : Rat := if q.num < 0 then -q else q
theorem abs_q (q : Rat) : Rat.divInt (if q.num < 0 then -q.num else q.num) (q.den : Int) = absQ q := by
  unfold absQ
  split
  · exact neg_q q
  · exact self_q q
theorem abs_den (q : Rat) : (absQ q).den = q.den := by
  unfold absQ
  split
  · exact Rat.neg_den _
  · rfl
theorem abs_num (q : Rat) : (absQ q).num = (if q.num < 0 then -q.num else q.num) := by
  unfold absQ
  split
  · exact Rat.neg_num _
  · rfl
section
variable {P : Program} {w : World} {K : PySem.W.Frag} {mg : Str → Option Value} {base : Heap} {cPE cBR cR : Addr}
/-! ### -x, abs(x), bool(x) -/
def spUn (cR : Addr) (f : Rat → Rat) : Sp := fun vs H Q _ => ∃ (a : Addr) (q : Rat), vs = [.ref a] ∧ IsQ cR H a q ∧ Sz 900 q ∧ ∀ c H', Ex H H' → IsQ cR H' c (f q) → Q (.ref c) H'
theorem den1 (q : Rat) : (q.den : Int) ≠ 0 := by have := den_pos q; omega
theorem szd2 {q : Rat} (h : Sz 900 q) : ((q.den : Int)).natAbs < 2 ^ 2000 := Nat.lt_of_lt_of_le (szd h) (Nat.pow_le_pow_right (by decide) (by decide))
abbrev s_neg : Stmt := inClass (top 18) 9
theorem sc_neg : FnScope ["self"] ["self"] (defScope s_neg) := ⟨rfl, rfl, rfl, by decide +kernel, rfl, by decide +kernel, by decide +kernel⟩
theorem ok_neg {f : Addr} {fd : FuncData} (F : Fun K "__neg__" "Ratio.__neg__" s_neg f fd) (C : RC1 K cR) (GR2 : GC P w K mg base 3 "Ratio" cR (spQI K cR cBR) []) : FnG P w K mg base 5 f fd ["self"] (spUn cR (fun q => -q)) := by
  refine okG F sc_neg (fun vs H Q E h => ?_) (fun cdv A outer s H vs Q E hr h => ?_)
  · obtain ⟨a, q, rfl, _⟩ := h
    rfl
  · obtain ⟨a, q, rfl, hq, s1, k⟩ := h
    refine ⟨_, (pss_one (ps_ret (pe_gc GR2 hr (takes_of rfl rfl rfl rfl) (by rfl) (pa_cons (pe_un un_neg (pe_fld (pv 0) rfl)) (pa_cons (pe_fld (pv 0) rfl) pa_nil))))), ?_⟩
    refine s_retP (ep_Q (K := K) (cBR := cBR) (ea_cons (ev_un (ev_top C (ev_var rfl) hq) ru_neg) (ea_cons (ev_bot C (ev_var rfl) hq) ea_nil)) rfl (den1 q) (szd2 s1)) fun v H2 e2 ⟨c, hv, hc⟩ => ?_
    subst hv
    rw [neg_q] at hc
    exact k c H2 e2 hc
abbrev s_abs : Stmt := inClass (top 18) 10
theorem sc_abs : FnScope ["self"] ["self"] (defScope s_abs) := ⟨rfl, rfl, rfl, by decide +kernel, rfl, by decide +kernel, by decide +kernel⟩
theorem ok_abs {f : Addr} {fd : FuncData} (F : Fun K "__abs__" "Ratio.__abs__" s_abs f fd) (B : Bj mg) (C : RC1 K cR) (GR2 : GC P w K mg base 3 "Ratio" cR (spQI K cR cBR) []) : FnG P w K mg base 5 f fd ["self"] (spUn cR absQ) := by
  refine okG F sc_abs (fun vs H Q E h => ?_) (fun cdv A outer s H vs Q E hr h => ?_)
  · obtain ⟨a, q, rfl, _⟩ := h
    rfl
  · obtain ⟨a, q, rfl, hq, s1, k⟩ := h
    refine ⟨_, (pss_one (ps_ret (pe_gc GR2 hr (takes_of rfl rfl rfl rfl) (by rfl) (pa_cons (pe_callB call_abs (by rfl) B.abs Boot.«abs» (pa_cons (pe_fld (pv 0) rfl) pa_nil)) (pa_cons (pe_fld (pv 0) rfl) pa_nil))))), ?_⟩
    refine s_retP (ep_Q (K := K) (cBR := cBR) (ea_cons (ev_cb (ea_cons (ev_top C (ev_var rfl) hq) ea_nil) rc_abs) (ea_cons (ev_bot C (ev_var rfl) hq) ea_nil)) rfl (den1 q) (szd2 s1)) fun v H2 e2 ⟨c, hv, hc⟩ => ?_
    subst hv
    rw [abs_q] at hc
    exact k c H2 e2 hc
def spBo (cR : Addr) : Sp := fun vs H Q _ => ∃ (a : Addr) (q : Rat), vs = [.ref a] ∧ IsQ cR H a q ∧ ∀ H', Ex H H' → Q (.bl (decide (q.num ≠ 0))) H'
abbrev s_bo : Stmt := inClass (top 18) 11
theorem sc_bo : FnScope ["self"] ["self"] (defScope s_bo) := ⟨rfl, rfl, rfl, by decide +kernel, rfl, by decide +kernel, by decide +kernel⟩
theorem ok_bo {f : Addr} {fd : FuncData} (F : Fun K "__bool__" "Ratio.__bool__" s_bo f fd) (B : Bj mg) (C : RC1 K cR) : FnG P w K mg base 1 f fd ["self"] (spBo cR) := by
  refine okG F sc_bo (fun vs H Q E h => ?_) (fun cdv A outer s H vs Q E hr h => ?_)
  · obtain ⟨a, q, rfl, _⟩ := h
    rfl
  · obtain ⟨a, q, rfl, hq, k⟩ := h
    refine ⟨_, (pss_one (ps_ret (pe_callTy call_boolB (by rfl) B.bool Boot.«bool» (pa_cons (pe_cmpR op_ne (pe_fld (pv 0) rfl) pe_int (nomark _)) pa_nil)))), ?_⟩
    exact s_ret (ev_cb (ea_cons (ev_is (ev_op (ev_top C (ev_var rfl) hq) ev_c (rv_ne rfl)) (by rw [intEq, decide_not])) ea_nil) (fun H1 _ _ q => ⟨_, rfl, q H1 (Ex.refl H1)⟩)) k
/-! ### x == y -/
def spEqQ (K : PySem.W.Frag) (cR : Addr) : Sp := fun vs H Q _ => ∃ (a : Addr) (v : V) (q : Rat) (b : Bool), vs = [.ref a, v] ∧ IsQ cR H a q ∧ ((∃ r, Num cR H v r ∧ b = decide (q = r)) ∨ (OddQ K H v ∧ b = false)) ∧ ∀ H', Ex H H' → Q (.bl b) H'
abbrev s_eq : Stmt := inClass (top 18) 12
theorem sc_eq : FnScope ["self", "other"] ["self", "other"] (defScope s_eq) := ⟨rfl, rfl, rfl, by decide +kernel, rfl, by decide +kernel, by decide +kernel⟩
theorem ok_eq {f : Addr} {fd : FuncData} (F : Fun K "__eq__" "Ratio.__eq__" s_eq f fd) (B : Bj mg) (C : RC1 K cR) (gR : mg "Ratio" = some (.ref cR)) (GI : GF P w K mg base 1 "is_integer" (spIsI K) []) : FnG P w K mg base 2 f fd ["self", "other"] (spEqQ K cR) := by
  refine okG F sc_eq (fun vs H Q E h => ?_) (fun cdv A outer s H vs Q E hr h => ?_)
  · obtain ⟨a, v, q, b, rfl, _⟩ := h
    rfl
  · obtain ⟨a, v, q, b, rfl, hq, h, k⟩ := h
    refine ⟨_, (pss_cons (ps_if (pt_val (pe_callB call_isi (by rfl) B.isinstance Boot.«isinstance» (pa_cons (pv 1) (pa_cons (pe_glob (v := .ref cR) (by rfl) gR rfl) pa_nil))))
        (pss_one (ps_ret (pe_and (pe_cmpR op_eq (pe_fld (pv 0) rfl) (pe_fld (pv 1) rfl) (nomark _)) (pe_one (pe_cmpR op_eq (pe_fld (pv 0) rfl) (pe_fld (pv 1) rfl) (nomark _))))))
        pss_nil)
      (pss_one (ps_ret (pe_and (pe_gf GI hr (takes_of rfl rfl rfl rfl) (by rfl) (pa_cons (pv 1) pa_nil)) (pe_and (pe_cmpR op_eq (pe_fld (pv 0) rfl) pe_int (nomark _)) (pe_one (pe_cmpR op_eq (pe_fld (pv 0) rfl) (pv 1) (nomark _)))))))), ?_⟩
    rcases h with ⟨r, ⟨c, rfl, hr'⟩ | ⟨rfl, hd⟩, rfl⟩ | ⟨ho, rfl⟩
    · obtain ⟨dx, hc⟩ := id hr'
      refine q_when (b := true) (et_B (ev_cb (ea_cons (ev_var rfl) (ea_cons ev_c ea_nil)) (rc_isi (.own _) (fun H1 e1 => C.ty (e1 _ _ hc)) (kit_self cR)))) (fun _ H1 e1 => ?_) (fun z => nomatch z)
      have hq1 := hq.mono e1
      have hr1 := hr'.mono e1
      refine s_ret (v := .bl (decide (q = r))) (ev_is (ev_andV (ev_op (ev_top C (ev_var rfl) hq1) (ev_top C (ev_var rfl) hr1) (rv_eq rfl)) fun _ => ev_op (ev_bot C (ev_var rfl) hq1) (ev_bot C (ev_var rfl) hr1) (rv_eq rfl)) ?_) fun H2 e2 => k H2 (e1.trans e2)
      rw [intEq, intEq, rat_eq]
    · refine q_when (b := false) (et_B (ev_cb (ea_cons (ev_var rfl) (ea_cons ev_c ea_nil)) (rc_isi (.own _) ty_int (kit_oddR C (by simp))))) (fun z => nomatch z) (fun _ H1 e1 => ?_)
      have hq1 := hq.mono e1
      refine s_ret (v := .bl (decide (q = r))) (ev_is (ev_andV (a := true) (ev_gf (ea_cons (ev_var rfl) ea_nil) spv_isI_int) fun _ => ev_andV (ev_op (ev_bot C (ev_var rfl) hq1) ev_c (rv_eq rfl)) fun _ => ev_op (ev_top C (ev_var rfl) hq1) (ev_var rfl) (rv_eq rfl)) ?_) fun H2 e2 => k H2 (e1.trans e2)
      rw [intEq, intEq, ← rat_eq (q := q) (r := r), Bool.true_and, Bool.and_comm, hd]
      rfl
    · obtain ⟨T, hT, ty⟩ := id ho
      refine q_when (b := false) (et_B (ev_cb (ea_cons (ev_var rfl) (ea_cons ev_c ea_nil)) (rc_isi (.own _) ty (kit_oddR C (List.mem_cons_of_mem _ hT))))) (fun z => nomatch z) (fun _ H1 e1 => ?_)
      exact s_ret (v := .bl false) (ev_is (ev_andV (a := false) (b := false) (ev_gf (ea_cons (ev_var rfl) ea_nil) (spv_isI_odd (ho.mono e1))) fun z => nomatch z) rfl) fun H2 e2 => k H2 (e1.trans e2)
/-! ### str, repr -/
abbrev s_str : Stmt := inClass (top 18) 13
theorem sc_str : FnScope ["self"] ["self"] (defScope s_str) := ⟨rfl, rfl, rfl, by decide +kernel, rfl, by decide +kernel, by decide +kernel⟩
def spStQ (cR : Addr) : Sp := fun vs H Q _ => ∃ (a : Addr) (q : Rat), vs = [.ref a] ∧ IsQ cR H a q ∧ Sz 1000 q ∧ ∀ H', Ex H H' → Q (.str (SX.S (ratS q.num (q.den : Int)))) H'
theorem lg1000 {n : Nat} (h : n < 2 ^ 1000) : n.log2 < 1920 := lg (Nat.lt_of_lt_of_le h (Nat.pow_le_pow_right (by decide) (by decide)))
theorem p1000 : (2 : Nat) ^ 1000 < 10 ^ 400 := by decide +kernel
theorem intL1000 {i : Int} (h : i.natAbs < 2 ^ 1000) : (intL i).length ≤ 401 := intL_le (by decide) (Nat.lt_trans h p1000)
theorem ok_str {f : Addr} {fd : FuncData} (F : Fun K "__str__" "Ratio.__str__" s_str f fd) (B : Bj mg) (C : RC1 K cR) : FnG P w K mg base 1 f fd ["self"] (spStQ cR) := by
  refine okG F sc_str (fun vs H Q E h => ?_) (fun cdv A outer s H vs Q E hr h => ?_)
  · obtain ⟨a, q, rfl, _⟩ := h
    rfl
  · obtain ⟨a, q, rfl, hq, s1, k⟩ := h
    have hd : ((q.den : Int)).natAbs < 2 ^ 1000 := by rw [Int.natAbs_natCast]; exact s1.2
    refine ⟨_, (pss_cons (ps_if (pt_cmpR op_eq (pe_fld (pv 0) rfl) pe_int (nomark _))
        (pss_one (ps_ret (pe_callTy call_str_int (by rfl) B.str Boot.«str» (pa_cons (pe_fld (pv 0) rfl) pa_nil))))
        pss_nil)
      (pss_one (ps_ret (pe_joined (.cons (pe_fmt (pe_fld (pv 0) rfl)) (.cons pe_str (.cons (pe_fmt (pe_fld (pv 0) rfl)) .nil))))))), ?_⟩
    refine q_when (b := decide ((q.den : Int) = 1)) (et_is (et_test (ev_op (ev_bot C (ev_var rfl) hq) ev_c (rv_eq rfl))) (intEq _ 1)) (fun hb1 H1 e1 => ?_) (fun hb1 H1 e1 => ?_)
    · refine s_ret (ev_cb (ea_cons (ev_top C (ev_var rfl) (hq.mono e1)) ea_nil) (rc_strI2 (lg1000 s1.1))) fun H2 e2 => ?_
      have := k H2 (e1.trans e2)
      rwa [ratS, if_pos (of_decide_eq_true hb1)] at this
    · refine s_ret (ev_join3 (b := [47]) (ev_fmtI (ev_top C (ev_var rfl) (hq.mono e1)) (lg1000 s1.1)) ev_c (ev_fmtI (ev_bot C (ev_var rfl) (hq.mono e1)) (lg1000 hd)) ?_) fun H2 e2 => ?_
      · have h1 := intL1000 s1.1
        have h2 := intL1000 hd
        simp
        omega
      · have := k H2 (e1.trans e2)
        rwa [ratS, if_neg (of_decide_eq_false hb1)] at this
abbrev s_rep : Stmt := inClass (top 18) 14
theorem sc_rep : FnScope ["self"] ["self"] (defScope s_rep) := ⟨rfl, rfl, rfl, by decide +kernel, rfl, by decide +kernel, by decide +kernel⟩
theorem spv_StQ {H : Hp} {a : Addr} {q : Rat} (h : IsQ cR H a q) (s1 : Sz 1000 q) : SpV (spStQ cR) [.ref a] H (.str (SX.S (ratS q.num (q.den : Int)))) := fun H1 e Q k E => ⟨a, q, rfl, h.mono e, s1, k⟩
theorem ok_rep {f : Addr} {fd : FuncData} (F : Fun K "__repr__" "Ratio.__repr__" s_rep f fd) (B : Bj mg) (GS' : OM P w K mg base 1 cR "__str__" (spStQ cR)) : FnG P w K mg base 4 f fd ["self"] (spStQ cR) := by
  refine okG F sc_rep (fun vs H Q E h => ?_) (fun cdv A outer s H vs Q E hr h => ?_)
  · obtain ⟨a, q, rfl, _⟩ := h
    rfl
  · obtain ⟨a, q, rfl, hq, s1, k⟩ := h
    obtain ⟨dx, ha⟩ := id hq
    refine ⟨_, (pss_one (ps_ret (pe_callTy (call_strO GS' hr) (by rfl) B.str Boot.«str» (pa_cons (pv 0) pa_nil)))), ?_⟩
    exact s_ret (ev_cb (ea_cons (ev_var rfl) ea_nil) (rc_strO ha (spv_StQ hq s1))) fun H1 e1 => k H1 e1
/-! ### over, compared, is_below -/
def overQ (q r : Rat) : Rat := Rat.divInt (q.num * (r.den : Int)) ((q.den : Int) * r.num)
def spOver (K : PySem.W.Frag) (cR cBR : Addr) : Sp := fun vs H Q E => ∃ (a : Addr) (v : V) (q : Rat), vs = [.ref a, v] ∧ IsQ cR H a q ∧
  ((∃ r, Num cR H v r ∧ Sz 900 q ∧ Sz 900 r ∧ ((r.num ≠ 0 ∧ ∀ c H', Ex H H' → IsQ cR H' c (overQ q r) → Q (.ref c) H') ∨ (r.num = 0 ∧ Raises cBR [("part", .str "zero")] H E))) ∨ (OddQ K H v ∧ Raises cBR [("part", .str "other")] H E))
abbrev s_over : Stmt := inClass (top 18) 15
theorem sc_over : FnScope ["self", "other", "under"] ["self", "other"] (defScope s_over) := ⟨rfl, rfl, rfl, by decide +kernel, rfl, by decide +kernel, by decide +kernel⟩
theorem ok_over {f : Addr} {fd : FuncData} (F : Fun K "over" "Ratio.over" s_over f fd) (C : RC1 K cR) (GF' : GF P w K mg base 5 "ratio_from" (spRF K cR cBR) []) (GR2 : GC P w K mg base 3 "Ratio" cR (spQI K cR cBR) []) (XR : XCls P w K mg base "BadRatio" cBR ["part"]) : FnG P w K mg base 6 f fd ["self", "other"] (spOver K cR cBR) := by
  refine okG F sc_over (fun vs H Q E h => ?_) (fun cdv A outer s H vs Q E hr h => ?_)
  · obtain ⟨a, v, q, rfl, _⟩ := h
    rfl
  · obtain ⟨a, v, q, rfl, hq, h⟩ := h
    have nd := sc_over.nd
    refine ⟨_, (pss_cons (ps_set (i := 2) nd rfl (Or.inl rfl) (pe_gf GF' hr (takes_of rfl rfl rfl rfl) (by rfl) (pa_cons (pv 1) (pa_cons pe_str pa_nil))))
  (pss_cons (ps_if (pt_cmpR op_eq (pe_fld (pv 2) rfl) pe_int (nomark _))
    (pss_one (ps_raiseX (k := 3) rfl XR (by decide) hr.r (takes_of rfl rfl rfl rfl) (pa_cons pe_str pa_nil) (by rfl)))
    pss_nil)
  (pss_one (ps_ret (pe_gc GR2 (hr.mono (by decide)) (takes_of rfl rfl rfl rfl) (by rfl) (pa_cons (pe_op op_mulW (pe_fld (pv 0) rfl) (pe_fld (pv 2) rfl)) (pa_cons (pe_op op_mulW (pe_fld (pv 0) rfl) (pe_fld (pv 2) rfl)) pa_nil))))))), ?_⟩
    refine q_from (ea_cons (ev_var rfl) (ea_cons ev_c ea_nil)) ?_
    rcases h with ⟨r, hn, s1, s2, h⟩ | h
    · refine .inl ⟨r, hn, fun m H1 e1 hm => ?_⟩
      have hq1 := hq.mono e1
      refine q_when (b := decide (r.num = 0)) (et_is (et_test (ev_op (ev_top C (ev_var rfl) hm) ev_c (rv_eq rfl))) (intEq _ 0)) (fun hb H2 e2 => ?_) (fun hb H2 e2 => ?_)
      · rcases h with ⟨h0, _⟩ | ⟨_, kr⟩
        · exact absurd (of_decide_eq_true hb) h0
        · exact s_raiseX (ea_cons ev_c ea_nil) rfl (kr.mono (e1.trans e2))
      · rcases h with ⟨h0, k⟩ | ⟨h0, _⟩
        · have hb3 : ((q.den : Int) * r.num).natAbs < 2 ^ (900 + 900) := wide_lt (szd s1) s2.1
          have hne : (q.den : Int) * r.num ≠ 0 := fun z => by
            rcases Int.mul_eq_zero.mp z with z | z
            · exact den1 q z
            · exact h0 z
          refine s_retP (ep_Q (K := K) (cBR := cBR) (ea_cons (ev_op (ev_top C (ev_var rfl) (hq1.mono e2)) (ev_bot C (ev_var rfl) (hm.mono e2)) (rv_I (mulw s1.1 (szd s2)))) (ea_cons (ev_op (ev_bot C (ev_var rfl) (hq1.mono e2)) (ev_top C (ev_var rfl) (hm.mono e2)) (rv_I (mulw (szd s1) s2.1))) ea_nil)) rfl hne (lt2000 hb3)) fun v H3 e3 ⟨c, hv, hc⟩ => ?_
          subst hv
          exact k c H3 ((e1.trans e2).trans e3) hc
        · exact absurd h0 (of_decide_eq_false hb)
    · exact .inr h
def spCmp (K : PySem.W.Frag) (cR cBR : Addr) (g : Int → V) : Sp := fun vs H Q E => ∃ (a : Addr) (v : V) (q : Rat), vs = [.ref a, v] ∧ IsQ cR H a q ∧
  ((∃ r, Num cR H v r ∧ Sz 900 q ∧ Sz 900 r ∧ ∀ H', Ex H H' → Q (g (sgn (q.num * (r.den : Int) - r.num * (q.den : Int)))) H') ∨ (OddQ K H v ∧ Raises cBR [("part", .str "other")] H E))
abbrev s_cmp : Stmt := inClass (top 18) 16
theorem sc_cmp : FnScope ["self", "other", "less", "apart"] ["self", "other"] (defScope s_cmp) := ⟨rfl, rfl, rfl, by decide +kernel, rfl, by decide +kernel, by decide +kernel⟩
theorem ok_cmp {f : Addr} {fd : FuncData} (F : Fun K "compared" "Ratio.compared" s_cmp f fd) (C : RC1 K cR) (GF' : GF P w K mg base 5 "ratio_from" (spRF K cR cBR) []) : FnG P w K mg base 6 f fd ["self", "other"] (spCmp K cR cBR V.int) := by
  refine okG F sc_cmp (fun vs H Q E h => ?_) (fun cdv A outer s H vs Q E hr h => ?_)
  · obtain ⟨a, v, q, rfl, _⟩ := h
    rfl
  · obtain ⟨a, v, q, rfl, hq, h⟩ := h
    have nd := sc_cmp.nd
    refine ⟨_, (pss_cons (ps_set (i := 2) nd rfl (Or.inl rfl) (pe_gf GF' hr (takes_of rfl rfl rfl rfl) (by rfl) (pa_cons (pv 1) (pa_cons pe_str pa_nil))))
  (pss_cons (ps_set (i := 3) nd rfl (Or.inl rfl) (pe_op op_sub (pe_op op_mulW (pe_fld (pv 0) rfl) (pe_fld (pv 2) rfl)) (pe_op op_mulW (pe_fld (pv 2) rfl) (pe_fld (pv 0) rfl))))
  (pss_cons (ps_if (pt_cmpR op_lt (pv 3) pe_int (nomark _))
    (pss_one (ps_ret (pe_un un_neg pe_int)))
    pss_nil)
  (pss_one (ps_ret (pe_ifExp (pt_cmpR op_gt (pv 3) pe_int (nomark _)) pe_int pe_int)))))), ?_⟩
    refine q_from (ea_cons (ev_var rfl) (ea_cons ev_c ea_nil)) ?_
    rcases h with ⟨r, hn, s1, s2, k⟩ | h
    · refine .inl ⟨r, hn, fun m H1 e1 hm => ?_⟩
      have hq1 := hq.mono e1
      refine q_asg (ev_op (ev_op (ev_top C (ev_var rfl) hq1) (ev_bot C (ev_var rfl) hm) (rv_I (mulw s1.1 (szd s2)))) (ev_op (ev_top C (ev_var rfl) hm) (ev_bot C (ev_var rfl) hq1) (rv_I (mulw s2.1 (szd s1)))) rv_I0) fun H2 e2 => ?_
      generalize q.num * (r.den : Int) - r.num * (q.den : Int) = x at k ⊢
      refine q_when (et_test (ev_op (ev_var rfl) ev_c rv_I0)) (fun hb H3 e3 => ?_) (fun hb H3 e3 => ?_)
      · refine s_ret (v := .int (sgn x)) (ev_is (ev_un ev_c ru_neg) ?_) fun H4 e4 => k H4 (((e1.trans e2).trans e3).trans e4)
        unfold sgn
        rw [if_pos (of_decide_eq_true hb)]
      · refine s_ret (v := .int (sgn x)) (ev_if (et_test (ev_op (ev_var rfl) ev_c rv_I0)) (fun hb2 => ev_is ev_c ?_) (fun hb2 => ev_is ev_c ?_)) fun H4 e4 => k H4 (((e1.trans e2).trans e3).trans e4)
        · unfold sgn
          rw [if_neg (of_decide_eq_false hb), if_pos (of_decide_eq_true hb2)]
        · unfold sgn
          rw [if_neg (of_decide_eq_false hb), if_neg (of_decide_eq_false hb2)]
    · exact .inr h
abbrev s_bel : Stmt := inClass (top 18) 17
theorem sc_bel : FnScope ["self", "other"] ["self", "other"] (defScope s_bel) := ⟨rfl, rfl, rfl, by decide +kernel, rfl, by decide +kernel, by decide +kernel⟩
theorem ok_bel {f : Addr} {fd : FuncData} (F : Fun K "is_below" "Ratio.is_below" s_bel f fd) (C : RC1 K cR) (GCm : GM P w K mg base 6 cR "compared" (spCmp K cR cBR V.int) []) : FnG P w K mg base 7 f fd ["self", "other"] (spCmp K cR cBR (fun i => .bl (decide (i = -1)))) := by
  refine okG F sc_bel (fun vs H Q E h => ?_) (fun cdv A outer s H vs Q E hr h => ?_)
  · obtain ⟨a, v, q, rfl, _⟩ := h
    rfl
  · obtain ⟨a, v, q, rfl, hq, h⟩ := h
    obtain ⟨dx, ha⟩ := id hq
    refine ⟨_, (pss_one (ps_ret (pe_cmpR op_eq (pe_gm (pv 0) GCm hr (takes_of rfl rfl rfl rfl) (pa_cons (pv 1) pa_nil)) (pe_un un_neg pe_int) (nomark _)))), ?_⟩
    refine g_op1 (go_gm (vs := [v]) (ev_var rfl) ha rfl (ea_cons (ev_var rfl) ea_nil) fun H1 e1 => ⟨a, v, q, rfl, hq.mono e1, ?_⟩)
    rcases h with ⟨r, hn, s1, s2, k⟩ | ⟨ho, kr⟩
    · refine .inl ⟨r, hn.mono e1, s1, s2, fun H2 e2 => ?_⟩
      refine ev_un ev_c ru_neg H2 (Ex.refl H2) _ fun H3 e3 => ⟨rfl, ?_⟩
      have := k H3 ((e1.trans e2).trans e3)
      rw [intEq]
      exact this
    · exact .inr ⟨ho.mono e1, kr.mono e1⟩
end
end K1

/-! # PkSeq -/
set_option Elab.async false
set_option linter.all false
set_option maxRecDepth 100000
set_option maxHeartbeats 4000000
namespace Pk
open PySem PyProof.Rows L2 Evl
/-! ## lists or tuples: loops and comprehensions; calls within comprehensions -/
theorem pi_or {X : Cx} {tg l : Expr} {w1 w2 : TI} (h1 : PI X tg l w1) (h2 : PI X tg l w2) : PI X tg l (fun σ H R => w1 σ H R ∨ w2 σ H R) := ⟨fun pins s σ H R I h => h.elim (fun z => h1.run pins s σ H R I z) (fun z => h2.run pins s σ H R I z)⟩
/-- a list or a tuple -/
def iSq (K : PySem.W.Frag) (tl : TE) : TI := fun σ H R => iList K tl σ H R ∨ iTup K tl σ H R
theorem pi_sq {X : Cx} {tg l : Expr} {tl : TE} (h : PE X l tl) : PI X tg l (iSq X.K tl) := pi_or (pi_list h) (pi_tup h)
def SqX (K : PySem.W.Frag) (H : Hp) (a : Addr) (xs : List V) : Prop := SqL K H a xs ∨ SqT K H a xs
theorem SqX.mono {K : PySem.W.Frag} {H H' : Hp} {a : Addr} {xs : List V} (h : SqX K H a xs) (e : Ex H H') : SqX K H' a xs := h.imp (ex_l e) (ex_t e)
section
variable {K : PySem.W.Frag} {σ : L2.St} {H : Hp} {tl te : TE} {t : TT} {tu tz : TS} {D : Ends} {j : Nat} {a : Addr} {xs : List V}
theorem q_forSq (h : Ev tl σ H (.ref a)) (hx : SqX K H a xs) (Pv : Nat → L2.St → Hp → Prop) (h0 : ∀ H1, Ex H H1 → Pv 0 σ H1) (hl : ∀ i σ' H', i ≤ xs.length → Pv i σ' H' → SqX K H' a xs)
    (hk : ∀ i σ' H', i ≤ xs.length → Pv i σ' H' → (SqL K H a xs → SqL K H' a xs) ∧ (SqT K H a xs → SqT K H' a xs))
    (hs : ∀ i x σ' H', xs[i]? = some x → Pv i σ' H' → tu { D with nx := Pv (i + 1), ct := Pv (i + 1), bk := tz D } (σ'.set j (some x)) H') (hd : ∀ σ' H', Pv xs.length σ' H' → tz D σ' H') : tSeq (tFor (iSq K tl) (gName j) tu) tz D σ H := by
  rcases hx with hx | hx
  · exact .inl (h H (Ex.refl H) _ fun H1 e => ⟨a, rfl, ⟨xs, ex_l e hx⟩, for_it (D := { D with nx := tz D }) walk_list Pv (h0 H1 e) (fun i σ' H' hi p => (hk i σ' H' hi p).1 hx) (fun i x σ' H2 H3 hi p hy => by
      obtain ⟨rfl, hy⟩ := hy
      exact hs i x σ' _ hy p) hd⟩)
  · exact .inr (h H (Ex.refl H) _ fun H1 e => ⟨a, rfl, ⟨xs, ex_t e hx⟩, for_it (D := { D with nx := tz D }) walk_tup Pv (h0 H1 e) (fun i σ' H' hi p => (hk i σ' H' hi p).2 hx) (fun i x σ' H2 H3 hi p hy => by
      obtain ⟨rfl, hy⟩ := hy
      exact hs i x σ' _ hy p) hd⟩)
/-- .. where the heap only grows -/
theorem q_forSqE (h : Ev tl σ H (.ref a)) (hx : SqX K H a xs) (Pv : Nat → L2.St → Hp → Prop) (h0 : ∀ H1, Ex H H1 → Pv 0 σ H1) (hE : ∀ i σ' H', Pv i σ' H' → Ex H H')
    (hs : ∀ i x σ' H', xs[i]? = some x → Pv i σ' H' → tu { D with nx := Pv (i + 1), ct := Pv (i + 1), bk := tz D } (σ'.set j (some x)) H') (hd : ∀ σ' H', Pv xs.length σ' H' → tz D σ' H') : tSeq (tFor (iSq K tl) (gName j) tu) tz D σ H :=
  q_forSq h hx Pv h0 (fun i σ' H' _ p => hx.mono (hE i σ' H' p)) (fun i σ' H' _ p => ⟨ex_l (hE i σ' H' p), ex_t (hE i σ' H' p)⟩) hs hd
/-- what a comprehension has laid by turn i -/
def Lw (H : Hp) (P : Nat → V → Hp → Prop) (Dl : Addr) (i : Nat) (H' : Hp) : Prop := H Dl = none ∧ Ex H H' ∧ ∃ ys : List V, H' Dl = some (.lst ys) ∧ ys.length = i ∧ ∀ k y, ys[k]? = some y → P k y H'
/-- P stays, whatever is laid at the list D -/
def Stays (P : Nat → V → Hp → Prop) : Prop := ∀ k y H1 H2 (Dl : Addr) l, H1 Dl = some (.lst l) → ExB Dl H1 H2 → P k y H1 → P k y H2
theorem Stays.ex {P : Nat → V → Hp → Prop} (s : Stays P) (hm : ∀ k y H1 H2, Ex H1 H2 → P k y H1 → P k y H2) : True := True.intro
/-- [e for x in xs] without tests: each e told by P -/
def EvLP (te : TE) (σ : L2.St) (H : Hp) (n : Nat) (P : Nat → V → Hp → Prop) : Prop := ∀ H1, Ex H H1 → ∀ Q : VK, (∀ p H2 ys, H1 p = none → Ex H1 H2 → H2 p = some (.lst ys) → ys.length = n → (∀ k y, ys[k]? = some y → P k y H2) → Q (.ref p) H2) → te σ H1 Q
theorem lw_turn {P : Nat → V → Hp → Prop} {H0 H' : Hp} {Dl : Addr} {i : Nat} {σ2 : L2.St} (st : Stays P) (hm : ∀ k y H1 H2, Ex H1 H2 → P k y H1 → P k y H2) (p : Lw H0 P Dl i H') (hi : i < 50000) (he : EvP te σ2 H0 (P i)) :
    tYes σ2 H' fun b H3 => if b = true then te σ2 H3 fun y H4 => ∃ acc, H4 Dl = some (.lst acc) ∧ acc.length < sizeLine ∧ Lw H0 P Dl (i + 1) (upd H4 Dl (.lst (acc ++ [y]))) else Lw H0 P Dl (i + 1) H3 := by
  obtain ⟨p1, p2, ys, p3, p4, p5⟩ := p
  show te σ2 H' _
  refine he H' p2 _ fun y H4 e4 hy => ⟨ys, e4 _ _ p3, sz_lt (by omega), p1, Ex.mut (p2.trans e4) p1, ys ++ [y], upd_same, by simp [p4], fun k z hz => ?_⟩
  have hD4 := e4 _ _ p3
  have stay : ∀ k z, P k z H4 → P k z (upd H4 Dl (.lst (ys ++ [y]))) := fun k z h => st k z H4 _ Dl ys hD4 (ExB.of (Ex.refl H4)).put h
  by_cases hk : k < ys.length
  · rw [List.getElem?_append_left hk] at hz
    exact stay k z (hm k z _ _ e4 (p5 k z hz))
  · have hk2 : k = ys.length := by
      have := (List.getElem?_eq_some_iff.mp hz).1
      simp at this
      omega
    subst hk2
    rw [List.getElem?_append_right (Nat.le_refl _)] at hz
    simp at hz
    subst hz
    rw [p4]
    exact stay i y hy
theorem elp_lcSq {vs : List Nat} {P : Nat → V → Hp → Prop} (st : Stays P) (hm : ∀ k y H1 H2, Ex H1 H2 → P k y H1 → P k y H2) (h : Ev tl σ H (.ref a)) (hx : SqX K H a xs) (hz : xs.length ≤ 40000) (hw : ∀ x, wipe ((wipe σ vs).set j (some x)) vs = wipe σ vs)
    (he : ∀ (i : Nat) (x : V) H1, Ex H H1 → xs[i]? = some x → EvP te ((wipe σ vs).set j (some x)) H1 (P i)) : EvLP (tLc (iSq K tl) (gName j) tYes te vs) σ H xs.length P := fun H0 e Q q => by
  have fin : ∀ (H1 : Hp) (Dl : Addr) H', Ex H0 H1 → Lw H1 P Dl xs.length H' → Q (.ref Dl) H' := fun H1 Dl H' e1 p => by
    obtain ⟨p1, p2, ys, p3, p4, p5⟩ := p
    exact q Dl H' ys (fresh_back e1 p1) (e1.trans p2) p3 p4 p5
  have go : ∀ (H1 : Hp), Ex H0 H1 → ∀ (Dl : Addr) i x H', xs[i]? = some x → Lw H1 P Dl i H' → _ := fun H1 e1 Dl i x H' hi p => lw_turn (te := te) st hm p (by have := (List.getElem?_eq_some_iff.mp hi).1; omega) (he i x H1 (e.trans e1) hi)
  rcases hx with hx | hx
  · exact .inl (h H0 e _ fun H1 e1 => ⟨a, rfl, ⟨xs, ex_l (e.trans e1) hx⟩, fun Dl hD =>
      lc_it (n := xs.length) walk_list (Lw H1 P Dl) ⟨hD, Ex.new hD, [], upd_same, rfl, fun k y hk => by simp at hk⟩ (fun i H' _ p => ex_l ((e.trans e1).trans p.2.1) hx) (fun i x H2 H3 hi p hy => by
        obtain ⟨rfl, hy⟩ := hy
        exact ⟨hw x, go H1 e1 Dl i x _ hy p⟩) (fun H' p => fin H1 Dl H' e1 p)⟩)
  · exact .inr (h H0 e _ fun H1 e1 => ⟨a, rfl, ⟨xs, ex_t (e.trans e1) hx⟩, fun Dl hD =>
      lc_it (n := xs.length) walk_tup (Lw H1 P Dl) ⟨hD, Ex.new hD, [], upd_same, rfl, fun k y hk => by simp at hk⟩ (fun i H' _ p => ex_t ((e.trans e1).trans p.2.1) hx) (fun i x H2 H3 hi p hy => by
        obtain ⟨rfl, hy⟩ := hy
        exact ⟨hw x, go H1 e1 Dl i x _ hy p⟩) (fun H' p => fin H1 Dl H' e1 p)⟩)
/-- values told by a word, not by the heap -/
theorem EvLP.vals {g : Nat → V} {n : Nat} (h : EvLP te σ H n (fun k y _ => y = g k)) : EvL te σ H ((List.range n).map g) := fun H1 e Q q => h H1 e Q fun p H2 ys hp e2 h2 hl hy => q p H2 hp e2 (by
  have : ys = (List.range n).map g := by
    apply List.ext_getElem?
    intro i
    by_cases hi : i < n
    · have h1 : ys[i]? = some ys[i] := List.getElem?_eq_getElem (by omega)
      rw [h1, hy i _ h1]
      simp [hi]
    · rw [List.getElem?_eq_none (by omega), List.getElem?_eq_none (by simp; omega)]
  rw [← this]
  exact h2)
theorem stays_v {g : Nat → V} : Stays (fun k y _ => y = g k) := fun _ _ _ _ _ _ _ _ h => h
end
end Pk

/-! # K01d -/
set_option Elab.async false
set_option linter.all false
set_option maxRecDepth 100000
set_option maxHeartbeats 4000000
namespace K1
open PySem PyProof.Rows L2 Pk Evl
theorem look_some : ∀ T ∈ "int" :: oddTs, ∀ nm ∈ ["add", "sub", "mul"], (PySem.fastLookup T (PySem.dunder nm)).isSome = true ∧ (PySem.fastLookup T (dunderR nm)).isSome = true := by decide +kernel
section
variable {P : Program} {w : World} {K : PySem.W.Frag} {mg : Str → Option Value} {base : Heap} {cPE cBR cR : Addr} {σ : L2.St} {H : Hp}
theorem binTy_T {T nm : String} (hT : T ∈ "int" :: oddTs) (hn : nm ∈ ["add", "sub", "mul"]) (C : RC1 K cR) : BinTy K cR nm (.type T) := by
  obtain ⟨h1, h2⟩ := look_some T hT nm hn
  obtain ⟨fo, e1⟩ := Option.isSome_iff_exists.mp h1
  obtain ⟨ro, e2⟩ := Option.isSome_iff_exists.mp h2
  have hr : PySem.W.findIn K (.ref cR) (dunderR nm) = some none := by
    simp at hn
    rcases hn with rfl | rfl | rfl
    · exact C.radd
    · exact C.rsub
    · exact C.rmul
  exact .inr ⟨T, fo, ro, none, rfl, hr, .inl rfl, e1, e2, sub_ty T (by simp [oddTs] at hT ⊢; rcases hT with rfl | rfl | rfl | rfl | rfl | rfl | rfl <;> simp)⟩
theorem num_ty {v : V} {q : Rat} {nm : String} (C : RC1 K cR) (hn : nm ∈ ["add", "sub", "mul"]) (h : Num cR H v q) : ∃ t, TyX K H v t ∧ BinTy K cR nm t ∧ PySem.W.notFirst K cR t = true := by
  rcases h with ⟨a, rfl, dx, e⟩ | ⟨rfl, _⟩
  · exact ⟨.ref cR, C.ty e, .inl rfl, notFirst_self⟩
  · exact ⟨.type "int", ty_int H (Ex.refl H), binTy_T (by simp) hn C, by
      unfold PySem.W.notFirst
      rw [sub_ty "int" (by simp)]
      rfl⟩
theorem odd_ty {v : V} {nm : String} (C : RC1 K cR) (hn : nm ∈ ["add", "sub", "mul"]) (h : OddQ K H v) : ∃ t, TyX K H v t ∧ BinTy K cR nm t ∧ PySem.W.notFirst K cR t = true := by
  obtain ⟨T, hT, ty⟩ := h
  exact ⟨.type T, ty H (Ex.refl H), binTy_T (List.mem_cons_of_mem _ hT) hn C, by
    unfold PySem.W.notFirst
    rw [odd_sub hT]
    simp⟩
/-- x op y for ratios: what it comes to -/
theorem rBin_q {nm : String} {f : Rat → Rat → Rat} {W : WX} {a : Addr} {v : V} {q r : Rat} {Q : VK} (C : RC1 K cR) (hn : nm ∈ ["add", "sub", "mul"]) (hq : IsQ cR H a q) (hr : Num cR H v r) (s1 : Sz 900 q) (s2 : Sz 900 r)
    (k : ∀ c H', Ex H H' → IsQ cR H' c (f q r) → Q (.ref c) H') : rBinO K cR nm (spBin K cR cBR f) W σ (.ref a) v H Q := by
  obtain ⟨t, ty, bt, _⟩ := num_ty C hn hr
  obtain ⟨dx, e⟩ := id hq
  exact ⟨a, dx, _, t, rfl, e, ty, bt, a, v, q, rfl, hq, .inl ⟨r, hr, s1, s2, k⟩⟩
theorem rBin_x {nm : String} {f : Rat → Rat → Rat} {W : WX} {a : Addr} {v : V} {q : Rat} {Q : VK} (C : RC1 K cR) (hn : nm ∈ ["add", "sub", "mul"]) (hq : IsQ cR H a q) (ho : OddQ K H v) (kr : Raises cBR [("part", .str "other")] H (WE W σ)) : rBinO K cR nm (spBin K cR cBR f) W σ (.ref a) v H Q := by
  obtain ⟨t, ty, bt, _⟩ := odd_ty C hn ho
  obtain ⟨dx, e⟩ := id hq
  exact ⟨a, dx, _, t, rfl, e, ty, bt, a, v, q, rfl, hq, .inr ⟨ho, kr⟩⟩
/-! ### rows -/
theorem ty_L {a : Addr} {xs : List V} (h : SqL K H a xs) : TyX K H (.ref a) (.type "list") := by
  rcases h with (e | ⟨o, e⟩) | ⟨o, _, _, e, c, _⟩
  · exact .base (.lst e)
  · exact .base (.frz e)
  · exact .kList e c
theorem ty_T {a : Addr} {xs : List V} (h : SqT K H a xs) : TyX K H (.ref a) (.type "tuple") := by
  rcases h with (e | ⟨o, e⟩) | ⟨o, _, _, e, c, _⟩
  · exact .base (.tup e)
  · exact .fTuple e
  · exact .kTuple e c
abbrev rowTs : List Value := [.type "list", .type "tuple"]
theorem kitA {K : PySem.W.Frag} {t : Value} {b1 b2 : Bool} (h1 : PySem.W.kitOne K t (.type "list") = some b1) (h2 : PySem.W.kitOne K t (.type "tuple") = some b2) : PySem.W.kitAny K t rowTs = some (b1 || b2) := by
  refine kitAny_cons h1 (fun hb => ?_) (fun hb => by rw [hb]; rfl)
  refine kitAny_cons h2 (fun hb2 => ?_) (fun hb2 => by rw [hb2, Bool.or_true])
  rw [hb, hb2]
  rfl
theorem row_ty {a : Addr} {xs : List V} (h : SqX K H a xs) : ∃ tv, TyX K H (.ref a) tv ∧ PySem.W.kitAny K tv rowTs = some true := by
  rcases h with h | h
  · exact ⟨_, ty_L h, kitA (kit_ty (r := true) (by decide +kernel)) (kit_ty (r := false) (by decide +kernel))⟩
  · exact ⟨_, ty_T h, kitA (kit_ty (r := false) (by decide +kernel)) (kit_ty (r := true) (by decide +kernel))⟩
/-- isinstance(x, (list, tuple)) -/
theorem ev_isRow {te : TE} {v : V} {b : Bool} (h : Ev te σ H v) (hb : ∀ H1, Ex H H1 → ∃ tv, TyX K H1 v tv ∧ PySem.W.kitAny K tv rowTs = some b) :
    Ev (tCB (rIsiT K) (tCons te (tCons (tTup (tCons (tC (.ty "list")) (tCons (tC (.ty "tuple")) tNil))) tNil))) σ H (.bl b) := fun H1 e Q q =>
  h H1 e _ fun H2 e2 => eu_tup (ea_cons ev_c (ea_cons ev_c ea_nil)) (by decide) H2 (e.trans e2) _ fun tp H3 _ e3 h3 => by
    obtain ⟨tv, ty, kk⟩ := hb H3 ((e.trans e2).trans e3)
    exact ⟨v, tp, _, tv, rowTs, b, rfl, h3, .cons (.ty _) (.cons (.ty _) .nil), ty, kk, q H3 (e2.trans e3)⟩
/-- the elements xs stand for the numbers qs -/
def NumL (cR : Addr) (H : Hp) (xs : List V) (qs : List Rat) : Prop := xs.length = qs.length ∧ ∀ i x, xs[i]? = some x → Num cR H x (qs.getD i 0)
theorem NumL.mono {H' : Hp} {xs : List V} {qs : List Rat} (h : NumL cR H xs qs) (e : Ex H H') : NumL cR H' xs qs := ⟨h.1, fun i x hx => (h.2 i x hx).mono e⟩
/-- a row with something in it that is no ratio; or no row at all -/
def BadRow (K : PySem.W.Frag) (cR : Addr) (H : Hp) (v : V) : Prop := (∃ tv, TyE K H v tv ∧ PySem.W.kitAny K tv rowTs = some false) ∨
  (∃ (a : Addr) (xs : List V) (bs : List Bool), v = .ref a ∧ SqX K H a xs ∧ xs.length ≤ 1000 ∧ xs.length = bs.length ∧ (∀ i x, xs[i]? = some x → if bs.getD i false then ∃ q, Num cR H x q else OddQ K H x) ∧ bs.all id = false)
theorem el_mono {H' : Hp} {x : V} {b : Bool} (h : if b then ∃ q, Num cR H x q else OddQ K H x) (e : Ex H H') : if b then ∃ q, Num cR H' x q else OddQ K H' x := by
  cases b with
  | true => obtain ⟨q, h⟩ := (show ∃ q, Num cR H x q from h); exact ⟨q, h.mono e⟩
  | false => exact (show OddQ K H x from h).mono e
/-- all([is_ratio(one) for one in ratios]) -/
theorem ev_allR {te : TE} {a : Addr} {xs : List V} {bs : List Bool} {j : Nat} {W : WX} {vs : List Nat} {tone : TE} (h : Ev te σ H (.ref a)) (hx : SqX K H a xs) (hz : xs.length ≤ 1000) (hl : xs.length = bs.length) (hb : ∀ i x, xs[i]? = some x → if bs.getD i false then ∃ q, Num cR H x q else OddQ K H x)
    (hw : ∀ x, wipe ((wipe σ vs).set j (some x)) vs = wipe σ vs) (ho : ∀ x H1, Ev tone ((wipe σ vs).set j (some x)) H1 x) :
    Ev (tCB (rAll K) (tCons (tLc (iSq K te) (gName j) tYes (tCallSD (spIsR K cR) [] (WE W) (tCons tone tNil)) vs) tNil)) σ H (.bl (bs.all id)) := by
  have h1 : EvL (tLc (iSq K te) (gName j) tYes (tCallSD (spIsR K cR) [] (WE W) (tCons tone tNil)) vs) σ H ((List.range xs.length).map fun i => V.bl (bs.getD i false)) :=
    (elp_lcSq (P := fun k y _ => y = V.bl (bs.getD k false)) stays_v (fun _ _ _ _ _ h => h) h hx (by omega) hw fun i x H1 e1 hi => Ev.ep (ev_gf (ea_cons (ho x H1) ea_nil) fun H2 e2 Q q E => ⟨x, bs.getD i false, rfl, el_mono (hb i x hi) (e1.trans e2), q⟩)).vals
  have e : ((List.range xs.length).map fun i => V.bl (bs.getD i false)) = bs.map V.bl := by
    rw [hl]
    apply List.ext_getElem
    · simp
    · intro i h1 h2
      simp at h1 h2
      simp [List.getD_eq_getElem?_getD, h1]
  rw [e] at h1
  exact ev_allN h1
end
end K1

/-! # K01e -/
set_option Elab.async false
set_option linter.all false
set_option maxRecDepth 100000
set_option maxHeartbeats 4000000
namespace K1
open PySem PyProof.Rows L2 Pk Evl
def sumQ (qs : List Rat) : Rat := qs.foldl (· + ·) 0
theorem sumQ_take {qs : List Rat} {i : Nat} (h : i < qs.length) : sumQ (qs.take (i + 1)) = sumQ (qs.take i) + qs.getD i 0 := by
  unfold sumQ
  rw [List.take_add_one, List.foldl_append]
  have : qs[i]? = some qs[i] := List.getElem?_eq_getElem h
  rw [this, List.getD_eq_getElem?_getD, this]
  rfl
/-- the first of the greatest -/
def gmax (b : Rat) (qs : List Rat) : Rat := qs.foldl (fun b q => if b < q then q else b) b
theorem gmax_take {b : Rat} {qs : List Rat} {i : Nat} (h : i < qs.length) : gmax b (qs.take (i + 1)) = if gmax b (qs.take i) < qs.getD i 0 then qs.getD i 0 else gmax b (qs.take i) := by
  unfold gmax
  rw [List.take_add_one, List.foldl_append]
  have : qs[i]? = some qs[i] := List.getElem?_eq_getElem h
  rw [this, List.getD_eq_getElem?_getD, this]
  rfl
theorem gmax_sz {b : Rat} {qs : List Rat} {n : Nat} (hb : Sz n b) (h : ∀ q ∈ qs, Sz n q) : Sz n (gmax b qs) := by
  unfold gmax
  induction qs generalizing b with
  | nil => exact hb
  | cons q r ih =>
    refine ih ?_ (fun x hx => h x (List.mem_cons_of_mem _ hx))
    show Sz n (if b < q then q else b)
    split
    · exact h q List.mem_cons_self
    · exact hb
theorem mem_take {α : Type} {l : List α} {n : Nat} {x : α} (h : x ∈ l.take n) : x ∈ l := List.mem_of_mem_take h
theorem lt_sgn (q r : Rat) : decide (sgn (q.num * (r.den : Int) - r.num * (q.den : Int)) = -1) = decide (q < r) := by
  rw [decide_eq_decide, Rat.lt_iff]
  unfold sgn
  constructor
  · intro h
    by_cases z : q.num * (r.den : Int) - r.num * (q.den : Int) < 0
    · omega
    · rw [if_neg z] at h
      split at h <;> cases h
  · intro h
    rw [if_pos (by omega)]
theorem getD_mem {qs : List Rat} {i : Nat} (h : i < qs.length) : qs.getD i 0 ∈ qs := by
  rw [List.getD_eq_getElem?_getD, List.getElem?_eq_getElem h]
  exact List.getElem_mem h
section
variable {P : Program} {w : World} {K : PySem.W.Frag} {mg : Str → Option Value} {base : Heap} {cPE cBR cR : Addr}
def GoodRow (K : PySem.W.Frag) (cR : Addr) (H : Hp) (v : V) (qs : List Rat) : Prop := ∃ (a : Addr) (xs : List V), v = .ref a ∧ SqX K H a xs ∧ NumL cR H xs qs ∧ xs.length ≤ 1000 ∧ ∀ q ∈ qs, Sz 900 q
def spAdd (K : PySem.W.Frag) (cR cBR : Addr) : Sp := fun vs H Q E => ∃ v : V, vs = [v] ∧ ((∃ qs, GoodRow K cR H v qs ∧ (∀ k, Sz 900 (sumQ (qs.take k))) ∧ ∀ c H', Ex H H' → IsQ cR H' c (sumQ qs) → Q (.ref c) H') ∨ (BadRow K cR H v ∧ Raises cBR [("part", .str "ratios")] H E))
abbrev s_added : Stmt := top 19
theorem sc_added : FnScope ["ratios", "one", "total"] ["ratios"] (defScope s_added) := ⟨rfl, rfl, rfl, by decide +kernel, rfl, by decide +kernel, by decide +kernel⟩
theorem numL_bs {H : Hp} {xs : List V} {qs : List Rat} (h : NumL cR H xs qs) : ∀ i x, xs[i]? = some x → if (List.replicate xs.length true).getD i false then ∃ q, Num cR H x q else OddQ K H x := fun i x hx => by
  have hi := (List.getElem?_eq_some_iff.mp hx).1
  have e : (List.replicate xs.length true).getD i false = true := by simp [List.getD_eq_getElem?_getD, hi]
  rw [e]
  exact ⟨_, h.2 i x hx⟩
theorem all_rep (n : Nat) : (List.replicate n true).all id = true := by simp
theorem sz0 : Sz 900 0 := ⟨by decide, by decide⟩
theorem ok_added {f : Addr} {fd : FuncData} (F : Fun K "added" "added" s_added f fd) (B : Bj mg) (C : RC1 K cR) (GIR : GF P w K mg base 2 "is_ratio" (spIsR K cR) []) (XR : XCls P w K mg base "BadRatio" cBR ["part"]) (GR : GC P w K mg base 3 "Ratio" cR (spQI K cR cBR) [.int 1]) (GA : OM P w K mg base 6 cR "__add__" (spBin K cR cBR (· + ·))) :
    FnG P w K mg base 7 f fd ["ratios"] (spAdd K cR cBR) := by
  refine okG F sc_added (fun vs H Q E h => ?_) (fun cdv A outer s H vs Q E hr h => ?_)
  · obtain ⟨v, rfl, _⟩ := h
    rfl
  · obtain ⟨v, rfl, h⟩ := h
    have nd := sc_added.nd
    have hr2 := hr.mono (j := 2) (by decide)
    refine ⟨_, (pss_cons (ps_if (PW.pt (pw_or (pt_not (pt_val (pe_callB call_isiT (by rfl) B.isinstance Boot.«isinstance» (pa_cons (pv 0) (pa_cons (pe_tup (pa_cons (pe_bltn (v := .ty "list") (by rfl) B.list Boot.«list» rfl) (pa_cons (pe_bltn (v := .ty "tuple") (by rfl) B.tuple Boot.«tuple» rfl) pa_nil))) pa_nil))))) (pw_or1 (pt_not (pt_val (pe_callB (cr_all rfl) (by rfl) B.all Boot.«all» (pa_cons (pe_lc (own := [("one", 1)]) rfl nd (pi_sq (pv 0)) (blkOk_by (N := ["ratios", "one", "total"]) (sc := defScope s_added) (by decide +kernel)) (fun _ _ _ _ _ => (pg_name (i := 1) nd rfl (Or.inl rfl))) (fun _ _ _ _ _ => pts_nil) (fun _ _ _ _ _ => (pe_gf GIR hr2 L2.takes0 (by rfl) (pa_cons (pv 1) pa_nil)))) pa_nil)))))))
    (pss_one (ps_raiseX (k := 0) rfl XR (by decide) (hr.mono (by decide)).r (takes_of rfl rfl rfl rfl) (pa_cons pe_str pa_nil) (by rfl)))
    pss_nil)
  (pss_cons (ps_set (i := 2) nd rfl (Or.inl rfl) (pe_gc GR (hr.mono (by decide)) (takes_of rfl rfl rfl rfl) (by rfl) (pa_cons pe_int pa_nil)))
  (pss_cons (ps_for (passes_of rfl) rfl (pi_sq (pv 0)) (pg_name (i := 1) nd rfl (Or.inl rfl))
    (pss_one (ps_set (i := 2) nd rfl (Or.inl rfl) (pe_opS (op_binO (op := .Add) GA C.self hr (takes_of rfl rfl rfl rfl)) (pv 2) (pv 1)))))
  (pss_one (ps_ret (pv 2)))))), ?_⟩
    rcases h with ⟨qs, ⟨a, xs, rfl, hx, hn, hz, hsz⟩, hsum, k⟩ | ⟨hbad, kr⟩
    · refine q_when (b := false) (et_is (et_or (a := false) (b := false) (et_not (a := true) (et_B (ev_isRow (ev_var rfl) fun H1 e1 => row_ty (hx.mono e1)))) fun _ => et_is (et_not (et_B (ev_allR (cR := cR) (ev_var rfl) hx hz (by simp) (numL_bs hn) (fun _ => rfl) (fun x H1 => ev_var rfl)))) (by rw [all_rep]; rfl)) rfl) (fun z => nomatch z) (fun _ H1 e1 => ?_)
      refine q_asgP (ep_Q (K := K) (cBR := cBR) (t := 0) (b := 1) (ea_cons ev_c ea_nil) rfl (by decide) (by decide)) fun v H2 e2 ⟨c0, hv, hc0⟩ => ?_
      subst hv
      have e12 := e1.trans e2
      refine q_forSqE (ev_var rfl) (hx.mono e12) (fun i σ' H' => ∃ (c : Addr) (t : Option V), σ' = [some (.ref a), t, some (.ref c)] ∧ Ex H2 H' ∧ IsQ cR H' c (sumQ (qs.take i))) (fun H3 e3 => ⟨c0, _, rfl, e3, hc0.mono e3⟩) (fun i σ' H' ⟨c, t, _, e, _⟩ => e) (fun i x σ' H' hi h => ?_) (fun σ' H' h => ?_)
      · obtain ⟨c, t, rfl, e3, hc⟩ := h
        have hil : i < qs.length := by have := (List.getElem?_eq_some_iff.mp hi).1; have := hn.1; omega
        have hx3 := (hn.2 i x hi).mono (e12.trans e3)
        refine s_set (ev_var (v := .ref c) rfl H' (Ex.refl H') _ fun H4 e4 => ev_var (v := x) rfl H4 (Ex.refl H4) _ fun H5 e5 => ?_)
        refine rBin_q (nm := "add") C (by simp) (hc.mono (e4.trans e5)) (hx3.mono (e4.trans e5)) (hsum i) (hsz _ (getD_mem hil)) fun c' H6 e6 hc' => ?_
        refine ⟨c', _, rfl, ((e3.trans e4).trans e5).trans e6, ?_⟩
        rw [sumQ_take hil]
        exact hc'
      · obtain ⟨c, t, rfl, e3, hc⟩ := h
        refine s_ret (ev_var rfl) fun H4 e4 => k c H4 ((e12.trans e3).trans e4) ?_
        rw [hn.1, List.take_length] at hc
        exact hc.mono e4
    · rcases hbad with ⟨tv, ty, kk⟩ | ⟨a, xs, bs, rfl, hx, hz, hl, hb, hall⟩
      · refine q_when (b := true) (et_is (et_or (a := true) (b := true) (et_not (a := false) (et_B (ev_isRow (ev_var rfl) fun H1 e1 => ⟨tv, ty H1 e1, kk⟩))) fun z => nomatch z) rfl) (fun _ H1 e1 => ?_) (fun z => nomatch z)
        exact s_raiseX (ea_cons ev_c ea_nil) rfl (kr.mono e1)
      · refine q_when (b := true) (et_is (et_or (a := false) (b := true) (et_not (a := true) (et_B (ev_isRow (ev_var rfl) fun H1 e1 => row_ty (hx.mono e1)))) fun _ => et_is (et_not (et_B (ev_allR (cR := cR) (ev_var rfl) hx hz hl hb (fun _ => rfl) (fun x H1 => ev_var rfl)))) (by rw [hall]; rfl)) rfl) (fun _ H1 e1 => ?_) (fun z => nomatch z)
        exact s_raiseX (ea_cons ev_c ea_nil) rfl (kr.mono e1)
end
end K1

/-! # K01f -/
set_option Elab.async false
set_option linter.all false
set_option maxRecDepth 100000
set_option maxHeartbeats 4000000
namespace K1
open PySem PyProof.Rows L2 Pk Evl
def gmin (b : Rat) (qs : List Rat) : Rat := qs.foldl (fun b q => if q < b then q else b) b
theorem neg_lt (b q : Rat) : (-b < -q) ↔ q < b := by
  constructor
  · intro h; grind
  · intro h; grind
theorem gmin_eq (b : Rat) (qs : List Rat) : -(gmax (-b) (qs.map fun q => -q)) = gmin b qs := by
  unfold gmax gmin
  induction qs generalizing b with
  | nil => simp
  | cons q r ih =>
    rw [List.map_cons, List.foldl_cons, List.foldl_cons]
    show -(List.foldl _ (if -b < -q then -q else -b) _) = List.foldl _ (if q < b then q else b) r
    by_cases h : q < b
    · rw [if_pos h, if_pos ((neg_lt b q).mpr h)]
      exact ih q
    · rw [if_neg h, if_neg (fun z => h ((neg_lt b q).mp z))]
      exact ih b
theorem sz_neg {n : Nat} {q : Rat} (h : Sz n q) : Sz n (-q) := ⟨by rw [Rat.neg_num, Int.natAbs_neg]; exact h.1, by rw [Rat.neg_den]; exact h.2⟩
section
variable {P : Program} {w : World} {K : PySem.W.Frag} {mg : Str → Option Value} {base : Heap} {cPE cBR cR : Addr} {σ : L2.St} {H : Hp}
def spGr (K : PySem.W.Frag) (cR cBR : Addr) (g : Rat → List Rat → Rat) : Sp := fun vs H Q E => ∃ v : V, vs = [v] ∧ ((∃ qs, GoodRow K cR H v qs ∧ qs ≠ [] ∧ ∀ c H', Ex H H' → IsQ cR H' c (g (qs.getD 0 0) qs) → Q (.ref c) H') ∨ ((BadRow K cR H v ∨ ∃ a, v = .ref a ∧ SqX K H a []) ∧ Raises cBR [("part", .str "ratios")] H E))
theorem spp_of {v : V} {r : Rat} (h : Num cR H v r) : SpP (spOf K cR cBR) [v] H (fun u H' => ∃ c, u = .ref c ∧ IsQ cR H' c r) := fun H1 e Q q E => ⟨v, rfl, v, _, rfl, .inl ⟨r, h.mono e, fun a H' e' hq => q _ H' e' ⟨a, rfl, hq⟩⟩⟩
theorem spv_bel {a : Addr} {v : V} {q r : Rat} (hq : IsQ cR H a q) (hr : Num cR H v r) (s1 : Sz 900 q) (s2 : Sz 900 r) : SpV (spCmp K cR cBR (fun i => .bl (decide (i = -1)))) [.ref a, v] H (.bl (decide (q < r))) := fun H1 e Q k E =>
  ⟨a, v, q, rfl, hq.mono e, .inl ⟨r, hr.mono e, s1, s2, fun H2 e2 => by have := k H2 e2; rw [← lt_sgn] at this; exact this⟩⟩
theorem rv_ixSq {a : Addr} {xs : List V} {v : V} {i : Int} (h : SqX K H a xs) (ha : atI xs i = some v) : RV (rIx K) (.ref a) (.int i) H v := fun H1 e _ q => by
  rcases h with h | h
  · exact .inl ⟨a, xs, i, v, rfl, rfl, ex_l e h, ha, q H1 (Ex.refl H1)⟩
  · exact .inr (.inl ⟨a, xs, i, v, rfl, rfl, ex_t e h, ha, q H1 (Ex.refl H1)⟩)
abbrev s_gr : Stmt := top 20
theorem sc_gr : FnScope ["ratios", "one", "best"] ["ratios"] (defScope s_gr) := ⟨rfl, rfl, rfl, by decide +kernel, rfl, by decide +kernel, by decide +kernel⟩
theorem ok_gr {f : Addr} {fd : FuncData} (F : Fun K "greatest_of" "greatest_of" s_gr f fd) (B : Bj mg) (C : RC1 K cR) (GIR : GF P w K mg base 2 "is_ratio" (spIsR K cR) []) (XR : XCls P w K mg base "BadRatio" cBR ["part"]) (GO : GS P w K mg base 6 "Ratio" cR "of" (spOf K cR cBR) [])
    (GB : GM P w K mg base 7 cR "is_below" (spCmp K cR cBR (fun i => .bl (decide (i = -1)))) []) : FnG P w K mg base 8 f fd ["ratios"] (spGr K cR cBR gmax) := by
  refine okG F sc_gr (fun vs H Q E h => ?_) (fun cdv A outer s H vs Q E hr h => ?_)
  · obtain ⟨v, rfl, _⟩ := h
    rfl
  · obtain ⟨v, rfl, h⟩ := h
    have nd := sc_gr.nd
    have hr2 := hr.mono (j := 2) (by decide)
    refine ⟨_, (pss_cons (ps_if (PW.pt (pw_or (pt_not (pt_val (pe_callB call_isiT (by rfl) B.isinstance Boot.«isinstance» (pa_cons (pv 0) (pa_cons (pe_tup (pa_cons (pe_bltn (v := .ty "list") (by rfl) B.list Boot.«list» rfl) (pa_cons (pe_bltn (v := .ty "tuple") (by rfl) B.tuple Boot.«tuple» rfl) pa_nil))) pa_nil))))) (pw_or (pt_cmpR op_eq (pe_callB call_len_seq (by rfl) B.len Boot.«len» (pa_cons (pv 0) pa_nil)) pe_int (nomark _)) (pw_or1 (pt_not (pt_val (pe_callB (cr_all rfl) (by rfl) B.all Boot.«all» (pa_cons (pe_lc (own := [("one", 1)]) rfl nd (pi_sq (pv 0)) (blkOk_by (N := ["ratios", "one", "best"]) (sc := defScope s_gr) (by decide +kernel)) (fun _ _ _ _ _ => (pg_name (i := 1) nd rfl (Or.inl rfl))) (fun _ _ _ _ _ => pts_nil) (fun _ _ _ _ _ => (pe_gf GIR hr2 L2.takes0 (by rfl) (pa_cons (pv 1) pa_nil)))) pa_nil))))))))
    (pss_one (ps_raiseX (k := 0) rfl XR (by decide) (hr.mono (by decide)).r (takes_of rfl rfl rfl rfl) (pa_cons pe_str pa_nil) (by rfl)))
    pss_nil)
  (pss_cons (ps_set (i := 2) nd rfl (Or.inl rfl) (pe_gs GO (hr.mono (by decide)) (takes_of rfl rfl rfl rfl) (by rfl) (pa_cons (pe_ix ix_seq (pv 0) pe_int (fun _ _ => rfl)) pa_nil)))
  (pss_cons (ps_for (passes_of rfl) rfl (pi_sq (pv 0)) (pg_name (i := 1) nd rfl (Or.inl rfl))
    (pss_one (ps_if (pt_val (pe_gm (pv 2) GB hr (takes_of rfl rfl rfl rfl) (pa_cons (pv 1) pa_nil)))
      (pss_one (ps_set (i := 2) nd rfl (Or.inl rfl) (pe_gs GO (hr.mono (by decide)) (takes_of rfl rfl rfl rfl) (by rfl) (pa_cons (pv 1) pa_nil))))
      pss_nil)))
  (pss_one (ps_ret (pv 2)))))), ?_⟩
    rcases h with ⟨qs, ⟨a, xs, rfl, hx, hn, hz, hsz⟩, hne, k⟩ | ⟨hbad, kr⟩
    · have hpos : 0 < qs.length := List.length_pos_iff.mpr hne
      refine q_when (b := false) (et_is (et_or (a := false) (b := false) (et_not (a := true) (et_B (ev_isRow (ev_var rfl) fun H1 e1 => row_ty (hx.mono e1)))) fun _ => et_or (a := false) (b := false) (et_is (et_test (ev_op (ev_cb (ea_cons (ev_var rfl) ea_nil) (rc_lenL (K := K) hx)) ev_c (rv_eq rfl))) ?_) fun _ => et_is (et_not (et_B (ev_allR (cR := cR) (ev_var rfl) hx hz (by simp) (numL_bs hn) (fun _ => rfl) (fun x H1 => ev_var rfl)))) (by rw [all_rep]; rfl)) rfl) (fun z => nomatch z) (fun _ H1 e1 => ?_)
      · rw [intEq]
        exact decide_eq_false (by have := hn.1; omega)
      have hxl : 0 < xs.length := by have := hn.1; omega
      have hx0 : xs[0]? = some (xs[0]'hxl) := List.getElem?_eq_getElem hxl
      refine q_asgP (ep_gf (ea_cons (ev_op (ev_var rfl) ev_c (rv_ixSq (hx.mono e1) (atI_nat (j := 0) hx0))) ea_nil) (spp_of ((hn.2 0 _ hx0).mono e1))) fun v H2 e2 ⟨c0, hv, hc0⟩ => ?_
      subst hv
      have e12 := e1.trans e2
      have sz1 : ∀ i, Sz 900 (gmax (qs.getD 0 0) (qs.take i)) := fun i => gmax_sz (hsz _ (getD_mem hpos)) fun q hq => hsz q (mem_take hq)
      refine q_forSqE (ev_var rfl) (hx.mono e12) (fun i σ' H' => ∃ (c : Addr) (t : Option V), σ' = [some (.ref a), t, some (.ref c)] ∧ Ex H2 H' ∧ IsQ cR H' c (gmax (qs.getD 0 0) (qs.take i))) (fun H3 e3 => ⟨c0, _, rfl, e3, hc0.mono e3⟩) (fun i σ' H' ⟨c, t, _, e, _⟩ => e) (fun i x σ' H' hi h => ?_) (fun σ' H' h => ?_)
      · obtain ⟨c, t, rfl, e3, hc⟩ := h
        have hil : i < qs.length := by have := (List.getElem?_eq_some_iff.mp hi).1; have := hn.1; omega
        have hx3 := (hn.2 i x hi).mono (e12.trans e3)
        obtain ⟨dc, hcd⟩ := id hc
        refine s_when (et_B (ev_gm (vs := [x]) (ev_var rfl) hcd rfl (ea_cons (ev_var rfl) ea_nil) (spv_bel hc hx3 (sz1 i) (hsz _ (getD_mem hil))))) (fun hb H4 e4 => ?_) (fun hb H4 e4 => ?_)
        · refine s_set (ep_gf (ea_cons (ev_var rfl) ea_nil) (spp_of (hx3.mono e4)) H4 (Ex.refl H4) _ fun u H5 e5 ⟨c', hu, hc'⟩ => ?_)
          subst hu
          refine ⟨c', _, rfl, (e3.trans e4).trans e5, ?_⟩
          rw [gmax_take hil, if_pos (of_decide_eq_true hb)]
          exact hc'
        · refine ⟨c, _, rfl, e3.trans e4, ?_⟩
          rw [gmax_take hil, if_neg (of_decide_eq_false hb)]
          exact hc.mono e4
      · obtain ⟨c, t, rfl, e3, hc⟩ := h
        refine s_ret (ev_var rfl) fun H4 e4 => k c H4 ((e12.trans e3).trans e4) ?_
        rw [hn.1, List.take_length] at hc
        exact hc.mono e4
    · rcases hbad with (⟨tv, ty, kk⟩ | ⟨a, xs, bs, rfl, hx, hz, hl, hb, hall⟩) | ⟨a, rfl, hx⟩
      · refine q_when (b := true) (et_is (et_or (a := true) (b := true) (et_not (a := false) (et_B (ev_isRow (ev_var rfl) fun H1 e1 => ⟨tv, ty H1 e1, kk⟩))) fun z => nomatch z) rfl) (fun _ H1 e1 => ?_) (fun z => nomatch z)
        exact s_raiseX (ea_cons ev_c ea_nil) rfl (kr.mono e1)
      · refine q_when (b := true) (et_is (et_or (a := false) (b := true) (et_not (a := true) (et_B (ev_isRow (ev_var rfl) fun H1 e1 => row_ty (hx.mono e1)))) fun _ => et_is (et_or (et_test (ev_op (ev_cb (ea_cons (ev_var rfl) ea_nil) (rc_lenL (K := K) hx)) ev_c (rv_eq rfl))) fun _ => et_is (et_not (et_B (ev_allR (cR := cR) (ev_var rfl) hx hz hl hb (fun _ => rfl) (fun x H1 => ev_var rfl)))) (b := true) (by rw [hall]; rfl)) (by rw [Bool.or_true])) rfl) (fun _ H1 e1 => ?_) (fun z => nomatch z)
        exact s_raiseX (ea_cons ev_c ea_nil) rfl (kr.mono e1)
      · refine q_when (b := true) (et_is (et_or (a := false) (b := true) (et_not (a := true) (et_B (ev_isRow (ev_var rfl) fun H1 e1 => row_ty (hx.mono e1)))) fun _ => et_is (et_or (a := true) (b := true) (et_test (ev_op (ev_cb (ea_cons (ev_var rfl) ea_nil) (rc_lenL (K := K) hx)) ev_c (rv_eq rfl))) fun z => nomatch z) rfl) rfl) (fun _ H1 e1 => ?_) (fun z => nomatch z)
        exact s_raiseX (ea_cons ev_c ea_nil) rfl (kr.mono e1)
abbrev s_le : Stmt := top 21
theorem sc_le : FnScope ["ratios", "one"] ["ratios"] (defScope s_le) := ⟨rfl, rfl, rfl, by decide +kernel, rfl, by decide +kernel, by decide +kernel⟩
theorem g_un1 {r : V → Hp → VK → Prop} {ta : TE} {Q : VK} (h : ta σ H fun x H1 => r x H1 Q) : tUn r ta σ H Q := h
theorem s_ret0 {te : TE} {D : Ends} (h : te σ H D.rt) : tRet te D σ H := h
theorem negD (qs : List Rat) (i : Nat) (h : i < qs.length) : (qs.map fun q => -q).getD i 0 = -(qs.getD i 0) := by
  simp [List.getD_eq_getElem?_getD, h]
theorem stays_q {f : Nat → Rat} : Stays (fun k y H => ∃ c, y = .ref c ∧ IsQ cR H c (f k)) := fun k y H1 H2 Dl l hD e h => by
  obtain ⟨c, rfl, dx, hc⟩ := h
  have hne : c ≠ Dl := fun z => by
    rw [z, hD] at hc
    cases hc
  exact ⟨c, rfl, dx, e _ _ hne hc⟩
theorem ok_le {f : Addr} {fd : FuncData} (F : Fun K "least_of" "least_of" s_le f fd) (B : Bj mg) (C : RC1 K cR) (GIR : GF P w K mg base 2 "is_ratio" (spIsR K cR) []) (XR : XCls P w K mg base "BadRatio" cBR ["part"]) (GO : GS P w K mg base 6 "Ratio" cR "of" (spOf K cR cBR) [])
    (GN : OM P w K mg base 5 cR "__neg__" (spUn cR (fun q => -q))) (GG : GF P w K mg base 8 "greatest_of" (spGr K cR cBR gmax) []) : FnG P w K mg base 9 f fd ["ratios"] (spGr K cR cBR gmin) := by
  refine okG F sc_le (fun vs H Q E h => ?_) (fun cdv A outer s H vs Q E hr h => ?_)
  · obtain ⟨v, rfl, _⟩ := h
    rfl
  · obtain ⟨v, rfl, h⟩ := h
    have nd := sc_le.nd
    have hr2 := hr.mono (j := 2) (by decide)
    have hr6 := hr.mono (j := 6) (by decide)
    have hr5 := hr.mono (j := 5) (by decide)
    refine ⟨_, (pss_cons (ps_if (PW.pt (pw_or (pt_not (pt_val (pe_callB call_isiT (by rfl) B.isinstance Boot.«isinstance» (pa_cons (pv 0) (pa_cons (pe_tup (pa_cons (pe_bltn (v := .ty "list") (by rfl) B.list Boot.«list» rfl) (pa_cons (pe_bltn (v := .ty "tuple") (by rfl) B.tuple Boot.«tuple» rfl) pa_nil))) pa_nil))))) (pw_or (pt_cmpR op_eq (pe_callB call_len_seq (by rfl) B.len Boot.«len» (pa_cons (pv 0) pa_nil)) pe_int (nomark _)) (pw_or1 (pt_not (pt_val (pe_callB (cr_all rfl) (by rfl) B.all Boot.«all» (pa_cons (pe_lc (own := [("one", 1)]) rfl nd (pi_sq (pv 0)) (blkOk_by (N := ["ratios", "one"]) (sc := defScope s_le) (by decide +kernel)) (fun _ _ _ _ _ => (pg_name (i := 1) nd rfl (Or.inl rfl))) (fun _ _ _ _ _ => pts_nil) (fun _ _ _ _ _ => (pe_gf GIR hr2 L2.takes0 (by rfl) (pa_cons (pv 1) pa_nil)))) pa_nil))))))))
    (pss_one (ps_raiseX (k := 0) rfl XR (by decide) (hr.mono (by decide)).r (takes_of rfl rfl rfl rfl) (pa_cons pe_str pa_nil) (by rfl)))
    pss_nil)
  (pss_one (ps_ret (pe_un (un_negO GN hr5) (pe_gf GG hr (takes_of rfl rfl rfl rfl) (by rfl) (pa_cons (pe_lc (own := [("one", 1)]) rfl nd (pi_sq (pv 0)) (blkOk_by (N := ["ratios", "one"]) (sc := defScope s_le) (by decide +kernel)) (fun _ _ _ _ _ => (pg_name (i := 1) nd rfl (Or.inl rfl))) (fun _ _ _ _ _ => pts_nil) (fun _ _ _ _ _ => (pe_un (un_negO GN hr5) (pe_gs GO hr6 L2.takes0 (by rfl) (pa_cons (pv 1) pa_nil))))) pa_nil)))))), ?_⟩
    rcases h with ⟨qs, ⟨a, xs, rfl, hx, hn, hz, hsz⟩, hne, k⟩ | ⟨hbad, kr⟩
    · have hpos : 0 < qs.length := List.length_pos_iff.mpr hne
      refine q_when (b := false) (et_is (et_or (a := false) (b := false) (et_not (a := true) (et_B (ev_isRow (ev_var rfl) fun H1 e1 => row_ty (hx.mono e1)))) fun _ => et_or (a := false) (b := false) (et_is (et_test (ev_op (ev_cb (ea_cons (ev_var rfl) ea_nil) (rc_lenL (K := K) hx)) ev_c (rv_eq rfl))) ?_) fun _ => et_is (et_not (et_B (ev_allR (cR := cR) (ev_var rfl) hx hz (by simp) (numL_bs hn) (fun _ => rfl) (fun x H1 => ev_var rfl)))) (by rw [all_rep]; rfl)) rfl) (fun z => nomatch z) (fun _ H1 e1 => ?_)
      · rw [intEq]
        exact decide_eq_false (by have := hn.1; omega)
      refine s_ret0 (g_un1 (g_gf1 (elp_lcSq (P := fun k y H => ∃ c, y = .ref c ∧ IsQ cR H c (-(qs.getD k 0))) stays_q (fun k y H2 H3 e h => let ⟨c, h1, h2⟩ := h; ⟨c, h1, h2.mono e⟩) (ev_var rfl) (hx.mono e1) (by omega) (fun _ => rfl) (fun i x H2 e2 hi => ?_) H1 (Ex.refl H1) _ fun p H2 ys hp e2 h2 hlen hys => ?_)))
      · have hil : i < qs.length := by have := (List.getElem?_eq_some_iff.mp hi).1; have := hn.1; omega
        intro H3 e3 Q3 q3
        refine g_un1 (ep_gf (ea_cons (ev_var rfl) ea_nil) (spp_of ((hn.2 i x hi).mono (e1.trans (e2.trans e3)))) H3 (Ex.refl H3) _ fun u H4 e4 ⟨c, hu, hc⟩ => ?_)
        subst hu
        obtain ⟨dc, hcd⟩ := id hc
        exact ⟨c, dc, _, rfl, hcd, c, _, rfl, hc, hsz _ (getD_mem hil), fun c' H5 e5 hc' => q3 _ H5 (e4.trans e5) ⟨c', rfl, hc'⟩⟩
      · have hl2 : ys.length = (qs.map fun q => -q).length := by rw [hlen, List.length_map]; exact hn.1
        refine ⟨.ref p, rfl, .inl ⟨qs.map fun q => -q, ⟨p, ys, rfl, .inl (sq_of h2), ⟨hl2, fun i y hi => ?_⟩, by omega, fun q hq => ?_⟩, by simpa using hne, fun c H3 e3 hc => ?_⟩⟩
        · have hil : i < qs.length := by have := (List.getElem?_eq_some_iff.mp hi).1; rw [List.length_map] at hl2; omega
          rw [negD qs i hil]
          exact .inl (hys i y hi)
        · obtain ⟨r, hr', rfl⟩ := List.mem_map.mp hq
          exact sz_neg (hsz r hr')
        · obtain ⟨dc, hcd⟩ := id hc
          rw [negD qs 0 hpos] at hc
          have sg : Sz 900 (gmax (-(qs.getD 0 0)) (qs.map fun q => -q)) := gmax_sz (sz_neg (hsz _ (getD_mem hpos))) fun q hq => by
            obtain ⟨r, hr', rfl⟩ := List.mem_map.mp hq
            exact sz_neg (hsz r hr')
          refine ⟨c, dc, _, rfl, hcd, c, _, rfl, hc, sg, fun c' H4 e4 hc' => k c' H4 ((e1.trans e2).trans (e3.trans e4)) ?_⟩
          rw [← gmin_eq]
          exact hc'
    · rcases hbad with (⟨tv, ty, kk⟩ | ⟨a, xs, bs, rfl, hx, hz, hl, hb, hall⟩) | ⟨a, rfl, hx⟩
      · refine q_when (b := true) (et_is (et_or (a := true) (b := true) (et_not (a := false) (et_B (ev_isRow (ev_var rfl) fun H1 e1 => ⟨tv, ty H1 e1, kk⟩))) fun z => nomatch z) rfl) (fun _ H1 e1 => ?_) (fun z => nomatch z)
        exact s_raiseX (ea_cons ev_c ea_nil) rfl (kr.mono e1)
      · refine q_when (b := true) (et_is (et_or (a := false) (b := true) (et_not (a := true) (et_B (ev_isRow (ev_var rfl) fun H1 e1 => row_ty (hx.mono e1)))) fun _ => et_is (et_or (et_test (ev_op (ev_cb (ea_cons (ev_var rfl) ea_nil) (rc_lenL (K := K) hx)) ev_c (rv_eq rfl))) fun _ => et_is (et_not (et_B (ev_allR (cR := cR) (ev_var rfl) hx hz hl hb (fun _ => rfl) (fun x H1 => ev_var rfl)))) (b := true) (by rw [hall]; rfl)) (by rw [Bool.or_true])) rfl) (fun _ H1 e1 => ?_) (fun z => nomatch z)
        exact s_raiseX (ea_cons ev_c ea_nil) rfl (kr.mono e1)
      · refine q_when (b := true) (et_is (et_or (a := false) (b := true) (et_not (a := true) (et_B (ev_isRow (ev_var rfl) fun H1 e1 => row_ty (hx.mono e1)))) fun _ => et_is (et_or (a := true) (b := true) (et_test (ev_op (ev_cb (ea_cons (ev_var rfl) ea_nil) (rc_lenL (K := K) hx)) ev_c (rv_eq rfl))) fun z => nomatch z) rfl) rfl) (fun _ H1 e1 => ?_) (fun z => nomatch z)
        exact s_raiseX (ea_cons ev_c ea_nil) rfl (kr.mono e1)
end
end K1

/-! # K01g -/
set_option Elab.async false
set_option linter.all false
set_option maxRecDepth 100000
set_option maxHeartbeats 4000000
namespace K1
open PySem PyProof.Rows L2 Pk Evl
section
variable {P : Program} {w : World} {K : PySem.W.Frag} {mg : Str → Option Value} {base : Heap}
abbrev s_pen : Stmt := top 23
theorem sc_pen : FnScope ["_law_script", "_law_cell"] ["_law_script"] (defScope s_pen) := ⟨rfl, rfl, rfl, by decide +kernel, rfl, by decide +kernel, by decide +kernel⟩
theorem ok_pen {f : Addr} {fd : FuncData} (F : Fun K "_law_pen" "_law_pen" s_pen f fd) (B : Bj mg) : FnG P w K mg base 1 f fd ["_law_script"] (spPen K) := by
  refine okG F sc_pen (fun vs H Q E h => ?_) (fun cdv A outer s H vs Q E hr h => ?_)
  · obtain ⟨a, ns, rfl, _⟩ := h
    rfl
  · obtain ⟨a, ns, rfl, ha, hl, k⟩ := h
    have nd := sc_pen.nd
    refine ⟨_, (pss_one (ps_ret (pe_lst (pa_cons (pe_lc (own := [("_law_cell", 1)]) rfl nd (pi_list (pe_slice sl_list (pv 0) po_none (po_some pe_int))) (blkOk_by (N := ["_law_script", "_law_cell"]) (sc := defScope s_pen) (by decide +kernel)) (fun _ _ _ _ _ => (pg_name (i := 1) nd rfl (Or.inl rfl))) (fun _ _ _ _ _ => pts_nil) (fun _ _ _ _ _ => (pe_callTy call_int1 (by rfl) B.int Boot.«int» (pa_cons (pv 1) pa_nil)))) (pa_cons pe_int (pa_cons pe_int pa_nil)))))), ?_⟩
    obtain ⟨ms, em, lm⟩ := cut_ints ns none (some 63)
    have hz : (cutV (ns.map V.int) none (some 63)).length ≤ 40000 := by rw [em, List.length_map]; omega
    refine s_retLst1 (el_lcNL (fun _ => true) (fun i => V.int (ms.getD i 0)) (el_sl (K := K) (ev_var rfl) eo_none (eo_some ev_c) ha) hz (fun _ => rfl) (fun i x H1 _ _ H2 _ Q q => q H2 (Ex.refl H2)) (fun i x H1 _ hx _ => ?_)) (ea_cons ev_c (ea_cons ev_c ea_nil)) (by decide) fun q p H1 hqp hp e1 h1 h2 => ?_
    · rw [em, List.getElem?_map] at hx
      cases hm : ms[i]? with
      | none => rw [hm] at hx; cases hx
      | some n =>
        rw [hm] at hx
        cases hx
        have e : ms.getD i 0 = n := by rw [List.getD_eq_getElem?_getD, hm]; rfl
        show Ev _ _ _ (V.int (ms.getD i 0))
        rw [e]
        exact ev_cb (ea_cons (ev_var rfl) ea_nil) rc_int1
    · rw [given_ints em] at h1
      exact k p H1 hp e1 ⟨q, ms, 0, 0, h2, sq_of h1, hqp, by omega, Nat.le_refl _⟩

abbrev s_draw : Stmt := top 24
theorem sc_draw : FnScope ["_law_pen_here", "_law_many", "_law_left", "_law_turn", "_law_cell", "_law_mixed"] ["_law_pen_here", "_law_many"] (defScope s_draw) := ⟨rfl, rfl, rfl, by decide +kernel, rfl, by decide +kernel, by decide +kernel⟩
theorem ok_draw {f : Addr} {fd : FuncData} (F : Fun K "_law_draw" "_law_draw" s_draw f fd) (B : Bj mg) : FnG P w K mg base 1 f fd ["_law_pen_here", "_law_many"] (spDraw K) := by
  refine okG F sc_draw (fun vs H Q E h => ?_) (fun cdv A outer s H vs Q E hr h => ?_)
  · obtain ⟨p, m, b, rfl, _⟩ := h
    rfl
  · obtain ⟨p, many, N, rfl, ⟨c, ns, turn, left, hp, hc, hcp, hlen, hturn⟩, hN, hm0, hm1, k⟩ := h
    have nd := sc_draw.nd
    refine ⟨_, (pss_cons (ps_if (pt_cmpR op_gt (pe_ix ix_list (pv 0) pe_int (fun _ _ => rfl)) pe_int (nomark _))
    (pss_cons (ps_set (i := 2) nd rfl (Or.inl rfl) (pe_ix ix_list (pv 0) pe_int (fun _ _ => rfl)))
    (pss_cons (ps_asg (pe_op op_fdiv (pe_callTy call_int1 (by rfl) B.int Boot.«int» (pa_cons (pv 2) pa_nil)) (pv 1)) (pg_sub (pv 0) pe_int set_list))
    (pss_one (ps_ret (pe_op op_mod (pe_callTy call_int1 (by rfl) B.int Boot.«int» (pa_cons (pv 2) pa_nil)) (pv 1))))))
    pss_nil)
  (pss_cons (ps_set (i := 3) nd rfl (Or.inl rfl) (pe_ix ix_list (pv 0) pe_int (fun _ _ => rfl)))
  (pss_cons (ps_asg (pe_op op_add (pv 3) pe_int) (pg_sub (pv 0) pe_int set_list))
  (pss_cons (ps_set (i := 4) nd rfl (Or.inl rfl) (pe_op op_add (pe_op op_mul pe_int (pv 3)) pe_int))
  (pss_cons (ps_if (pt_cmpR (op_neD hr.r.units) (pe_ix ix_list (pv 0) pe_int (fun _ _ => rfl)) (pe_lst pa_nil) (nomark _))
    (pss_one (ps_set (i := 4) nd rfl (Or.inl rfl) (pe_ix ix_list (pe_ix ix_list (pv 0) pe_int (fun _ _ => rfl)) (pe_op op_mod (pe_callTy call_int1 (by rfl) B.int Boot.«int» (pa_cons (pv 3) pa_nil)) (pe_callB call_len_seq (by rfl) B.len Boot.«len» (pa_cons (pe_ix ix_list (pv 0) pe_int (fun _ _ => rfl)) pa_nil))) (fun _ _ => rfl))))
    pss_nil)
  (pss_cons (ps_if (PW.pt (pw_and (pt_cmpR op_lt (pv 3) (pe_callB call_len_seq (by rfl) B.len Boot.«len» (pa_cons (pe_ix ix_list (pv 0) pe_int (fun _ _ => rfl)) pa_nil)) (nomark _)) (pw_and1 (pt_cmpR op_ge (pe_callB call_abs (by rfl) B.abs Boot.«abs» (pa_cons (pv 4) pa_nil)) (pe_op op_pow pe_int pe_int) (nomark _)))))
    (pss_cons (ps_set (i := 2) nd rfl (Or.inl rfl) (pe_op op_sub (pe_callB call_abs (by rfl) B.abs Boot.«abs» (pa_cons (pv 4) pa_nil)) (pe_op op_pow pe_int pe_int)))
    (pss_cons (ps_asg (pe_op op_fdiv (pe_callTy call_int1 (by rfl) B.int Boot.«int» (pa_cons (pv 2) pa_nil)) (pv 1)) (pg_sub (pv 0) pe_int set_list))
    (pss_one (ps_ret (pe_op op_mod (pe_callTy call_int1 (by rfl) B.int Boot.«int» (pa_cons (pv 2) pa_nil)) (pv 1))))))
    pss_nil)
  (pss_cons (ps_set (i := 5) nd rfl (Or.inl rfl) (pe_op op_mod (pe_callTy call_int1 (by rfl) B.int Boot.«int» (pa_cons (pe_op op_pow (pe_op op_add (pe_op op_add (pe_op op_mod (pe_callTy call_int1 (by rfl) B.int Boot.«int» (pa_cons (pv 4) pa_nil)) pe_int) (pe_op op_mul pe_int (pv 3))) pe_int) pe_int) pa_nil)) pe_int))
  (pss_cons (ps_set (i := 5) nd rfl (Or.inl rfl) (pe_op op_mod (pe_callTy call_int1 (by rfl) B.int Boot.«int» (pa_cons (pe_op op_pow (pe_op op_add (pe_op op_add (pe_op op_mul (pv 5) (pe_op op_add (pe_op op_mul pe_int (pv 3)) pe_int)) (pe_op op_mul (pe_op op_mul pe_int (pv 3)) (pv 3))) pe_int) pe_int) pa_nil)) pe_int))
  (pss_one (ps_ret (pe_op op_mod (pe_callTy call_int1 (by rfl) B.int Boot.«int» (pa_cons (pe_op op_fdiv (pv 5) pe_int) pa_nil)) (pv 1)))))))))))), ?_⟩
    have fin : ∀ (H1 : Hp) (t2 : Nat) (l : Int) (H2 : Hp), ExB p H H1 → t2 ≤ N + 1 → H1 p = some (.lst [.ref c, .int t2, .int l]) → ∀ x : Int, Ex H1 H2 → Q (.int (x % many)) H2 := fun H1 t2 l H2 e1 ht hq x e2 =>
      k _ H2 (Int.emod_nonneg _ (by omega)) (Int.emod_lt_of_pos _ hm0) (e1.trans (ExB.of e2)) (pen_put hc hcp hlen (e1.trans (ExB.of e2)) (e2 _ _ hq) ht)
    refine q_when (et_test (ev_op (ev_op (ev_var rfl) ev_c (rv_ixL (K := K) (sq_of hp) (atI_nat (j := 2) rfl))) ev_c rv_I0)) (fun hb H1 e1 => ?_) (fun hb H1 e1 => ?_)
    · refine q_asg (ev_op (ev_var rfl) ev_c (rv_ixL (K := K) (sq_of (e1 _ _ hp)) (atI_nat (j := 2) rfl))) fun H2 e2 => ?_
      refine q_setL (j := 2) ((e1.trans e2) _ _ hp) (ev_op (ev_cb (ea_cons (ev_var rfl) ea_nil) rc_int1) (ev_var rfl) (rv_I (show CDiv left many from ⟨hm0, hm1⟩))) (ev_var rfl) ev_c (by show 2 < 3; decide) fun H3 e3 => ?_
      refine s_ret (ev_op (ev_cb (ea_cons (ev_var rfl) ea_nil) rc_int1) (ev_var rfl) (rv_I hm0)) fun H4 e4 => ?_
      exact fin _ turn (left / many) H4 (((ExB.of e1).trans (ExB.of e2)).trans (ExB.of e3)).put (by omega) upd_same left e4
    refine q_asg (ev_op (ev_var rfl) ev_c (rv_ixL (K := K) (sq_of (e1 _ _ hp)) (atI_nat (j := 1) rfl))) fun H2 e2 => ?_
    refine q_setL (j := 1) ((e1.trans e2) _ _ hp) (ev_op (ev_var rfl) ev_c rv_I0) (ev_var rfl) ev_c (by show 1 < 3; decide) fun H3 e3 => ?_
    have x3 : ExB p H (upd H3 p (.lst [.ref c, .int ((turn : Int) + 1), .int left])) := (((ExB.of e1).trans (ExB.of e2)).trans (ExB.of e3)).put
    have hH3 : (upd H3 p (.lst [.ref c, .int ((turn : Int) + 1), .int left])) p = some (.lst [.ref c, .int ((turn + 1 : Nat) : Int), .int left]) := by rw [upd_same]; rfl
    have ht64 : -(2 ^ 64 : Int) < (turn : Int) ∧ (turn : Int) < 2 ^ 64 := ⟨by omega, by omega⟩
    refine q_asg (ev_op (ev_op ev_c (ev_var rfl) (rv_I (.inr ht64))) ev_c rv_I0) fun H4 e4 => ?_
    have hp4 := e4 _ _ hH3
    have hc4 := exb_l (x3.trans (ExB.of e4)) hcp hc
    refine q_ifAsgP (b := !decide (ns = [])) (fun v => ∃ x : Int, v = .int x) (et_is (et_test (ev_opL (ev_op (ev_var rfl) ev_c (rv_ixL (K := K) (sq_of hp4) (atI_nat (j := 0) rfl))) (el_lst ea_nil (by decide)) fun q H5 h5 e5 => rv_val fun H6 e6 Q' q' => ⟨_, _, .lst (ex_l (e5.trans e6) hc4) dp_ints, .lst (sq_of (e6 _ _ h5)) .nil, shaped_ints ns, rfl, q'⟩)) ?_) (fun hb2 => ?_) (fun hb2 => ⟨_, ⟨_, rfl⟩, rfl⟩) fun v H5 ⟨cell, hcell⟩ e5 => ?_
    · rw [eqv_nil]
    · have hne : ns ≠ [] := by simpa using hb2
      have hpos : 0 < ns.length := List.length_pos_iff.mpr hne
      have hlt : turn % ns.length < ns.length := Nat.mod_lt _ hpos
      refine ⟨.int (ns.getD (turn % ns.length) 0), ⟨_, rfl⟩, ?_⟩
      refine ev_op (ev_op (ev_var rfl) ev_c (rv_ixL (K := K) (sq_of hp4) (atI_nat (j := 0) rfl))) (ev_is (w := .int ((turn % ns.length : Nat) : Int)) (ev_op (ev_cb (ea_cons (ev_var rfl) ea_nil) rc_int1) (ev_is (w := .int (ns.length : Int)) (ev_cb (ea_cons (ev_op (ev_var rfl) ev_c (rv_ixL (K := K) (sq_of hp4) (atI_nat (j := 0) rfl))) ea_nil) (rc_lenL (K := K) (.inl hc4))) (by rw [List.length_map])) (rv_I (show (0 : Int) < (ns.length : Int) by omega))) (by rw [Int.natCast_emod])) (rv_ixL (K := K) hc4 (atI_nat ?_))
      rw [List.getElem?_map, List.getD_eq_getElem?_getD, List.getElem?_eq_getElem hlt]
      rfl
    subst hcell
    have hp5 := e5 _ _ hp4
    have hc5 := ex_l e5 hc4
    have x5 := (x3.trans (ExB.of e4)).trans (ExB.of e5)
    have p10 : CPow (10 : Int) (18 : Int) := ⟨by decide, by decide, by decide⟩
    refine q_when (et_and (et_test (ev_op (ev_var rfl) (ev_cb (ea_cons (ev_op (ev_var rfl) ev_c (rv_ixL (K := K) (sq_of hp5) (atI_nat (j := 0) rfl))) ea_nil) (rc_lenL (K := K) (.inl hc5))) rv_I0)) fun _ => et_test (ev_op (ev_cb (ea_cons (ev_var rfl) ea_nil) rc_abs) (ev_op ev_c ev_c (rv_I p10)) rv_I0)) (fun hb3 H6 e6 => ?_) (fun hb3 H6 e6 => ?_)
    · refine q_asg (ev_op (ev_cb (ea_cons (ev_var rfl) ea_nil) rc_abs) (ev_op ev_c ev_c (rv_I p10)) rv_I0) fun H7 e7 => ?_
      refine q_setL (j := 2) ((e6.trans e7) _ _ hp5) (ev_op (ev_cb (ea_cons (ev_var rfl) ea_nil) rc_int1) (ev_var rfl) (rv_I (show CDiv _ many from ⟨hm0, hm1⟩))) (ev_var rfl) ev_c (by show 2 < 3; decide) fun H8 e8 => ?_
      refine s_ret (ev_op (ev_cb (ea_cons (ev_var rfl) ea_nil) rc_int1) (ev_var rfl) (rv_I hm0)) fun H9 e9 => ?_
      exact fin _ (turn + 1) _ H9 (((x5.trans (ExB.of e6)).trans (ExB.of e7)).trans (ExB.of e8)).put (by omega) upd_same _ e9
    have m1 : ∀ x : Int, 0 ≤ x % 2147483549 ∧ x % 2147483549 < 2147483549 := fun x => ⟨Int.emod_nonneg _ (by decide), Int.emod_lt_of_pos _ (by decide)⟩
    have m2 : ∀ x : Int, 0 ≤ x % 2147483647 ∧ x % 2147483647 < 2147483647 := fun x => ⟨Int.emod_nonneg _ (by decide), Int.emod_lt_of_pos _ (by decide)⟩
    have c1 := m1 cell
    refine q_asg (ev_op (ev_cb (ea_cons (ev_op (ev_op (ev_op (ev_op (ev_cb (ea_cons (ev_var rfl) ea_nil) rc_int1) ev_c (rv_I (by decide))) (ev_op ev_c (ev_var rfl) (rv_I (.inr ht64))) rv_I0) ev_c rv_I0) ev_c (rv_I ⟨by decide, by decide, ?_⟩)) ea_nil) rc_int1) ev_c (rv_I (by decide))) fun H7 e7 => ?_
    · omega
    generalize hmx : (cell % 2147483549 + 70313 * (turn : Int) + 977) ^ (Int.toNat 5) % 2147483647 = mx
    have c2 : 0 ≤ mx ∧ mx < 2147483647 := by rw [← hmx]; exact m2 _
    have htN : (turn : Int) < 1000001 := by omega
    have sq : 0 ≤ (turn : Int) * turn ∧ (turn : Int) * turn ≤ 1000001 * 1000001 := ⟨Int.mul_nonneg (by omega) (by omega), Int.mul_le_mul (by omega) (by omega) (by omega) (by decide)⟩
    have pr : 0 ≤ mx * (2 * (turn : Int) + 1511) ∧ mx * (2 * (turn : Int) + 1511) ≤ 2147483647 * 3000000 := ⟨Int.mul_nonneg c2.1 (by omega), Int.mul_le_mul (by omega) (by omega) (by omega) (by decide)⟩
    have as : 61027 * (turn : Int) * (turn : Int) = 61027 * ((turn : Int) * turn) := Int.mul_assoc _ _ _
    refine q_asg (ev_op (ev_cb (ea_cons (ev_op (ev_op (ev_op (ev_op (ev_var rfl) (ev_op (ev_op ev_c (ev_var rfl) (rv_I (.inr ht64))) ev_c rv_I0) (rv_I (.inl ⟨by omega, by omega⟩))) (ev_op (ev_op ev_c (ev_var rfl) (rv_I (.inr ht64))) (ev_var rfl) (rv_I (.inr ht64))) rv_I0) ev_c rv_I0) ev_c (rv_I ⟨by decide, by decide, ?_⟩)) ea_nil) rc_int1) ev_c (rv_I (by decide))) fun H8 e8 => ?_
    · omega
    refine s_ret (ev_op (ev_cb (ea_cons (ev_op (ev_var rfl) ev_c (rv_I ⟨by decide, by decide⟩)) ea_nil) rc_int1) (ev_var rfl) (rv_I hm0)) fun H9 e9 => ?_
    exact fin _ (turn + 1) left H9 (((x5.trans (ExB.of e6)).trans (ExB.of e7)).trans (ExB.of e8)) (by omega) (e8 _ _ (e7 _ _ (e6 _ _ hp5))) _ e9
abbrev s_pick : Stmt := top 25
theorem sc_pick : FnScope ["_law_pen_here", "_law_some"] ["_law_pen_here", "_law_some"] (defScope s_pick) := ⟨rfl, rfl, rfl, by decide +kernel, rfl, by decide +kernel, by decide +kernel⟩
theorem ok_pick {f : Addr} {fd : FuncData} (F : Fun K "_law_pick" "_law_pick" s_pick f fd) (B : Bj mg) (GD : GF P w K mg base 1 "_law_draw" (spDraw K) []) : FnG P w K mg base 2 f fd ["_law_pen_here", "_law_some"] (spPick K) := by
  refine okG F sc_pick (fun vs H Q E h => ?_) (fun cdv A outer s H vs Q E hr h => ?_)
  · obtain ⟨p, N, _, _, ⟨a, xs, rfl, _⟩ | ⟨l, rfl, _⟩⟩ := h <;> rfl
  · obtain ⟨p, N, hp, hN, h⟩ := h
    refine ⟨_, (pss_one (ps_ret (pe_ix ix_seq (pv 1) (pe_gf GD hr (takes_of rfl rfl rfl rfl) (by rfl) (pa_cons (pv 0) (pa_cons (pe_callB (call_len_seq.or call_len_str) (by rfl) B.len Boot.«len» (pa_cons (pv 1) pa_nil)) pa_nil))) (fun _ _ => rfl)))), ?_⟩
    rcases h with ⟨a, xs, rfl, ha, hap, hne, hz, k⟩ | ⟨l, rfl, hne, hz, k⟩
    · have hpos : 0 < xs.length := List.length_pos_iff.mpr hne
      refine ⟨.ref a, rfl, go_draw (p := p) (many := (xs.length : Int)) (ea_cons (ev_var rfl) (ea_cons (fun H1 e1 Q' q' => ⟨.ref a, rfl, .inl ⟨a, xs, rfl, .inl (ex_l e1 ha), q' H1 (Ex.refl H1)⟩⟩) ea_nil)) hp hN (by omega) (by omega) fun r H' h0 h1 e1 hp' => ?_⟩
      obtain ⟨x, hx, hat⟩ := at_nn h0 h1
      exact .inl ⟨a, xs, r, x, rfl, rfl, exb_l e1 hap ha, hat, k x H' hx e1 hp'⟩
    · have hpos : 0 < l.length := List.length_pos_iff.mpr hne
      refine ⟨.str (SX.S l), rfl, go_draw (p := p) (many := (l.length : Int)) (ea_cons (ev_var rfl) (ea_cons (fun H1 e1 Q' q' => ⟨.str (SX.S l), rfl, .inr ⟨SX.S l, rfl, by rw [SX.S_len]; exact sz_of hz, by rw [SX.S_len]; exact q' H1 (Ex.refl H1)⟩⟩) ea_nil)) hp hN (by omega) (by omega) fun r H' h0 h1 e1 hp' => ?_⟩
      obtain ⟨c, hc, hat⟩ := at_nn h0 h1
      exact .inr (.inr ⟨SX.S l, r, c, rfl, rfl, by rw [SX.S_len]; exact sz_of hz, hat, k c H' hc e1 hp'⟩)
end
end K1

/-! # K01h -/
set_option Elab.async false
set_option linter.all false
set_option maxRecDepth 100000
set_option maxHeartbeats 4000000
namespace K1
open PySem PyProof.Rows L2 Pk Evl
/-- Euclid's pair at turn i, the second below 2 ^ 640 -/
def Eu2 (g : Nat) (i x y : Nat) : Prop := Nat.gcd x y = g ∧ (i = 0 → y < 2 ^ 640) ∧ (0 < i → y < x ∧ x * y * 2 ^ (i - 1) < 2 ^ 1280)
theorem Eu2.step {g i x y : Nat} (h : Eu2 g i x y) (hy : y ≠ 0) : Eu2 g (i + 1) y (x % y) := by
  obtain ⟨h1, h2, h3⟩ := h
  have hm : x % y < y := Nat.mod_lt _ (by omega)
  refine ⟨?_, fun z => by omega, fun _ => ⟨hm, ?_⟩⟩
  · rw [← h1, Nat.gcd_comm, ← Nat.gcd_rec, Nat.gcd_comm]
  · rw [Nat.add_sub_cancel]
    by_cases hi : i = 0
    · subst hi
      have hy' := h2 rfl
      rw [Nat.pow_zero, Nat.mul_one]
      have h4 : x % y < 2 ^ 640 := Nat.lt_trans hm hy'
      calc y * (x % y) < 2 ^ 640 * 2 ^ 640 := Nat.mul_lt_mul'' hy' h4
        _ = 2 ^ 1280 := by rw [← Nat.pow_add]
    · obtain ⟨h5, h6⟩ := h3 (by omega)
      have h7 : 2 * (x % y) ≤ x := by
        have := Nat.div_add_mod x y
        have h8 : 1 ≤ x / y := (Nat.le_div_iff_mul_le (by omega)).mpr (by omega)
        have h9 : y * 1 ≤ y * (x / y) := Nat.mul_le_mul_left _ h8
        omega
      have e : 2 ^ i = 2 * 2 ^ (i - 1) := by
        rw [← Nat.pow_succ']
        congr 1
        omega
      calc y * (x % y) * 2 ^ i = y * (2 * (x % y)) * 2 ^ (i - 1) := by rw [e]; simp [Nat.mul_assoc, Nat.mul_left_comm, Nat.mul_comm]
        _ ≤ y * x * 2 ^ (i - 1) := Nat.mul_le_mul_right _ (Nat.mul_le_mul_left _ h7)
        _ = x * y * 2 ^ (i - 1) := by rw [Nat.mul_comm y x]
        _ < 2 ^ 1280 := h6
theorem Eu2.done {g x y : Nat} (h : Eu2 g 1300 x y) : y = 0 := by
  obtain ⟨_, _, h3⟩ := h
  obtain ⟨h5, h6⟩ := h3 (by decide)
  cases y with
  | zero => rfl
  | succ y =>
    exfalso
    have h7 : 1 ≤ x * (y + 1) := Nat.mul_pos (by omega) (by omega)
    have h8 : 2 ^ 1299 ≤ x * (y + 1) * 2 ^ 1299 := Nat.le_mul_of_pos_left _ h7
    have h9 : (2 : Nat) ^ 1280 < 2 ^ 1299 := Nat.pow_lt_pow_right (by decide) (by decide)
    have h10 : x * (y + 1) * 2 ^ 1299 < 2 ^ 1280 := h6
    omega
theorem q_forR1Q {σ : L2.St} {H : Hp} {te : TE} {tu tz : TS} {D : Ends} {j : Nat} {R : Nat → Hp → Prop} (h : EvQ te σ H (fun v H1 => ∃ n : Nat, v = .int (n : Int) ∧ n ≤ 100000 ∧ R n H1))
    (k : ∀ n H1, n ≤ 100000 → R n H1 → ∃ Pv : Nat → L2.St → Hp → Prop, Pv 0 σ H1 ∧ (∀ (i : Nat) σ' H', i < n → Pv i σ' H' → tu { D with nx := Pv (i + 1), ct := Pv (i + 1), bk := tz D } (σ'.set j (some (.int (i : Int)))) H') ∧ (∀ σ' H', Pv n σ' H' → tz D σ' H')) : tSeq (tFor (iRng1 (tCons te tNil)) (gName j) tu) tz D σ H :=
  h _ fun v H1 ⟨n, hv, hn, hR⟩ => by
    subst hv
    obtain ⟨Pv, h0, hs, hd⟩ := k n H1 hn hR
    exact ⟨(n : Int), rfl, by omega, by omega, for_range (D := { D with nx := tz D }) (lo := 0) (n := ((n : Int)).toNat) Pv h0 (fun i σ' H' hi p => by
      have e0 : (0 : Int) + (i : Int) = (i : Int) := Int.zero_add _
      show tu { D with nx := Pv (i + 1), ct := Pv (i + 1), bk := tz D } (σ'.set j (some (.int ((0 : Int) + (i : Int))))) H'
      rw [e0]
      exact hs i σ' H' (by omega) p) (fun σ' H' p => hd σ' H' (by have e : ((n : Int)).toNat = n := by omega
                                                                  rw [e] at p; exact p))⟩
section
variable {P : Program} {w : World} {K : PySem.W.Frag} {mg : Str → Option Value} {base : Heap} {cPE cBR cR : Addr}
/-! ### _law_integer -/
def spInt (K : PySem.W.Frag) : Sp := fun vs H Q _ => ∃ (p : Addr) (B : Nat), vs = [.ref p] ∧ Pen K H p B ∧ B < 900000 ∧ ∀ (n : Int) H', n.natAbs < 10 ^ 60 → ExB p H H' → Pen K H' p (B + 20) → Q (.int n) H'
abbrev s_int : Stmt := top 26
theorem sc_int : FnScope ["_law_pen_here", "_law_found", "_law_turn"] ["_law_pen_here"] (defScope s_int) := ⟨rfl, rfl, rfl, by decide +kernel, rfl, by decide +kernel, by decide +kernel⟩
theorem ok_int {f : Addr} {fd : FuncData} (F : Fun K "_law_integer" "_law_integer" s_int f fd) (B : Bj mg) (GD : GF P w K mg base 1 "_law_draw" (spDraw K) []) (GP : GF P w K mg base 2 "_law_pick" (spPick K) []) : FnG P w K mg base 3 f fd ["_law_pen_here"] (spInt K) := by
  refine okG F sc_int (fun vs H Q E h => ?_) (fun cdv A outer s H vs Q E hr h => ?_)
  · obtain ⟨p, N, rfl, _⟩ := h
    rfl
  · obtain ⟨p, N, rfl, hp, hN, k⟩ := h
    have nd := sc_int.nd
    have hr1 := hr.mono (j := 1) (by decide)
    refine ⟨_, (pss_cons (ps_set (i := 1) nd rfl (Or.inl rfl) pe_int)
  (pss_cons (ps_for (passes_of rfl) rfl (pi_range1 (by rfl) B.range (pa_cons (pe_gf GP hr (takes_of rfl rfl rfl rfl) (by rfl) (pa_cons (pv 0) (pa_cons (pe_lst (pa_cons pe_int (pa_cons pe_int (pa_cons pe_int (pa_cons pe_int (pa_cons pe_int (pa_cons pe_int pa_nil))))))) pa_nil))) pa_nil)) (pg_name (i := 2) nd rfl (Or.inl rfl))
    (pss_one (ps_set (i := 1) nd rfl (Or.inl rfl) (pe_op op_add (pe_op op_mul (pv 1) pe_int) (pe_gf GD hr1 (takes_of rfl rfl rfl rfl) (by rfl) (pa_cons (pv 0) (pa_cons pe_int pa_nil)))))))
  (pss_cons (ps_if (pt_cmpR op_eq (pe_gf GD hr1 (takes_of rfl rfl rfl rfl) (by rfl) (pa_cons (pv 0) (pa_cons pe_int pa_nil))) pe_int (nomark _))
    (pss_one (ps_set (i := 1) nd rfl (Or.inl rfl) (pe_op op_mod (pe_callTy call_int1 (by rfl) B.int Boot.«int» (pa_cons (pv 1) pa_nil)) pe_int)))
    pss_nil)
  (pss_one (ps_ret (pe_op op_mul (pe_gf GP hr (takes_of rfl rfl rfl rfl) (by rfl) (pa_cons (pv 0) (pa_cons (pe_lst (pa_cons pe_int (pa_cons (pe_un un_neg pe_int) pa_nil))) pa_nil))) (pv 1))))))), ?_⟩
    refine q_asg ev_c fun H1 e1 => ?_
    refine q_forR1Q (R := fun n H2 => n ≤ 12 ∧ ExB p H H2 ∧ Pen K H2 p (N + 1)) (fun Q' q' => go_pickN (p := p) (xs := [.int 0, .int 1, .int 1, .int 2, .int 3, .int 12]) (ev_var rfl) (el_lst (ea_cons ev_c (ea_cons ev_c (ea_cons ev_c (ea_cons ev_c (ea_cons ev_c (ea_cons ev_c ea_nil)))))) (by decide)) (hp.mono e1 (Nat.le_refl _)) (by omega) (by decide) (by decide) fun x H2 hx e2 hp2 => ?_) (fun n H2 _ ⟨hn12, e2, hp2⟩ => ⟨fun i σ' H' => ∃ (m : Nat) (t : Option V), σ' = [some (.ref p), some (.int (m : Int)), t] ∧ m < 100000 ^ i ∧ ExB p H H' ∧ Pen K H' p (N + 1 + i), ⟨0, _, rfl, by decide, e2, hp2⟩, fun i σ' H' hi h => ?_, fun σ' H' h => ?_⟩)
    · have hq : ∀ n : Nat, n ≤ 12 → x = .int (n : Int) → Q' x H2 := fun n hn e => q' _ _ ⟨n, e, by omega, hn, (ExB.of e1).trans e2, hp2⟩
      simp at hx
      rcases hx with rfl | rfl | rfl | rfl | rfl
      · exact hq 0 (by decide) rfl
      · exact hq 1 (by decide) rfl
      · exact hq 2 (by decide) rfl
      · exact hq 3 (by decide) rfl
      · exact hq 12 (by decide) rfl
    · obtain ⟨m, t, rfl, hm, e3, hp3⟩ := h
      refine s_set (g_op (ev_op (ev_var rfl) ev_c (rv_I (.inr ⟨by decide, by decide⟩))) fun H4 e4 => ?_)
      refine go_draw (p := p) (many := 100000) (B := N + 1 + i) (ea_cons (ev_var rfl) (ea_cons ev_c ea_nil)) (hp3.mono e4 (Nat.le_refl _)) (by omega) (by decide) (by decide) fun r H5 r0 r1 e5 hp5 => ?_
      obtain ⟨rn, rfl⟩ := Int.eq_ofNat_of_zero_le r0
      refine ⟨_, _, rfl, rfl, m * 100000 + rn, _, by rw [Int.natCast_add, Int.natCast_mul]; rfl, ?_, (e3.trans (ExB.of e4)).trans e5, hp5⟩
      rw [Nat.pow_succ]
      omega
    · obtain ⟨m, t, rfl, hm, e3, hp3⟩ := h
      have hm60 : m < 10 ^ 60 := by
        have h1 : (100000 : Nat) ^ n ≤ 100000 ^ 12 := Nat.pow_le_pow_right (by decide) hn12
        have h2 : (100000 : Nat) ^ 12 = 10 ^ 60 := by decide
        omega
      have fin : ∀ (m : Nat) (t : Option V) (H5 : Hp), m < 10 ^ 60 → ExB p H H5 → Pen K H5 p (N + 1 + n + 1) → tRet (tOp (rI CMul fun i j => V.int (i * j)) (tCallSD (spPick K) [] (WE fun cls d _ H => E cls d H) (tCons (tVar 0) (tCons (tLst (tCons (tC (.int 1)) (tCons (tUn (rU fun i => V.int (-i)) (tC (.int 1))) tNil))) tNil))) (tVar 1)) { nx := fun _ H' => Q .non H', rt := Q } [some (.ref p), some (.int (m : Int)), t] H5 := fun m t H5 hm e5 hp5 => by
        refine s_ret0 (g_op1 (go_pickN (p := p) (xs := [.int 1, .int (-1)]) (ev_var rfl) (el_lst (ea_cons ev_c (ea_cons (ev_un ev_c ru_neg) ea_nil)) (by decide)) hp5 (by omega) (by decide) (by decide) fun x H6 hx e6 hp6 => ?_))
        have go : ∀ z : Int, z = 1 ∨ z = -1 → x = .int z → tVar 1 [some (.ref p), some (.int (m : Int)), t] H6 (fun y H2 => rI CMul (fun i j => V.int (i * j)) x y H2 Q) := fun z hz e => by
          subst e
          refine ⟨_, rfl, z, _, rfl, rfl, .inl ⟨by omega, by omega⟩, k _ H6 ?_ (e5.trans e6) (hp6.mono (Ex.refl _) (by omega))⟩
          rcases hz with rfl | rfl
          · rw [Int.one_mul]
            exact hm
          · rw [Int.neg_mul, Int.one_mul, Int.natAbs_neg]
            exact hm
        simp at hx
        rcases hx with rfl | rfl
        · exact go 1 (.inl rfl) rfl
        · exact go (-1) (.inr rfl) rfl
      refine g_test (g_op1 (go_draw (p := p) (many := 3) (ea_cons (ev_var rfl) (ea_cons ev_c ea_nil)) hp3 (by omega) (by decide) (by decide) fun r H4 r0 r1 e4 hp4 => ?_))
      refine ⟨rfl, _, rfl, ?_⟩
      by_cases hz : r = 0
      · rw [decide_eq_true (by rw [hz])]
        rw [if_pos rfl]
        refine s_asg (v := .int ((m % 7 : Nat) : Int)) (ev_is (ev_op (ev_cb (ea_cons (ev_var rfl) ea_nil) rc_int1) ev_c (rv_I (by decide))) (by rw [Int.natCast_emod]; rfl)) fun H5 e5 => ?_
        exact fin (m % 7) _ H5 (by have := Nat.mod_lt m (show 0 < 7 by decide); omega) ((e3.trans e4).trans (ExB.of e5)) (hp4.mono e5 (Nat.le_refl _))
      · rw [decide_eq_false (fun z => hz (V.int.inj z)), if_neg (by decide)]
        exact fin m _ H4 hm60 (e3.trans e4) hp4
end
end K1

/-! # K01i -/
set_option Elab.async false
set_option linter.all false
set_option maxRecDepth 100000
set_option maxHeartbeats 4000000
namespace K1
open PySem PyProof.Rows L2 Pk Evl
/-- the pair of q as a tuple -/
abbrev prV (q : Rat) : List V := [.int q.num, .int (q.den : Int)]
section
variable {P : Program} {w : World} {K : PySem.W.Frag} {mg : Str → Option Value} {base : Heap} {cPE cBR cR : Addr} {σ : L2.St} {H : Hp}
/-! ### _law_low -/
def spLow : Sp := fun vs H Q _ => ∃ t b : Int, vs = [.int t, .int b] ∧ b ≠ 0 ∧ b.natAbs < 2 ^ 640 ∧ ∀ p H', H p = none → Ex H H' → H' p = some (.tup (prV (Rat.divInt t b))) → Q (.ref p) H'
abbrev s_low : Stmt := top 27
theorem sc_low : FnScope ["_law_top", "_law_bottom", "_law_one", "_law_other", "_law_turn"] ["_law_top", "_law_bottom"] (defScope s_low) := ⟨rfl, rfl, rfl, by decide +kernel, rfl, by decide +kernel, by decide +kernel⟩
theorem ok_low {f : Addr} {fd : FuncData} (F : Fun K "_law_low" "_law_low" s_low f fd) (B : Bj mg) : FnG P w K mg base 1 f fd ["_law_top", "_law_bottom"] spLow := by
  refine okG F sc_low (fun vs H Q E h => ?_) (fun cdv A outer s H vs Q E hr h => ?_)
  · obtain ⟨t, b, rfl, _⟩ := h
    rfl
  · obtain ⟨t, b, rfl, hb0, hb, k⟩ := h
    have nd := sc_low.nd
    refine ⟨_, (pss_cons (ps_par (i := 2) (j := 3) rfl nd rfl rfl (by decide) rfl rfl (pa_cons (pe_callB call_abs (by rfl) B.abs Boot.«abs» (pa_cons (pv 0) pa_nil)) (pa_cons (pe_callB call_abs (by rfl) B.abs Boot.«abs» (pa_cons (pv 1) pa_nil)) pa_nil)) (by rfl))
  (pss_cons (ps_for (passes_of rfl) rfl (pi_range1 (by rfl) B.range (pa_cons pe_int pa_nil)) (pg_name (i := 4) nd rfl (Or.inl rfl))
    (pss_cons (ps_if (pt_cmpR op_eq (pv 3) pe_int (nomark _))
      (pss_one ps_break)
      pss_nil)
    (pss_one (ps_par (i := 2) (j := 3) rfl nd rfl rfl (by decide) rfl rfl (pa_cons (pv 3) (pa_cons (pe_op op_mod (pe_callTy call_int1 (by rfl) B.int Boot.«int» (pa_cons (pv 2) pa_nil)) (pv 3)) pa_nil)) (by rfl)))))
  (pss_cons (ps_set (i := 2) nd rfl (Or.inl rfl) (pe_ifExp (pt_cmpR op_lt (pv 1) pe_int (nomark _)) (pe_un un_neg (pv 2)) (pv 2)))
  (pss_one (ps_ret (pe_tup (pa_cons (pe_op op_fdivNW (pv 0) (pv 2)) (pa_cons (pe_op op_fdivNW (pv 1) (pv 2)) pa_nil)))))))), ?_⟩
    have hb2 : b.natAbs < 2 ^ 2000 := Nat.lt_of_lt_of_le hb (Nat.pow_le_pow_right (by decide) (by decide))
    refine q_par (ea_cons (ev_is (ev_cb (ea_cons (ev_var rfl) ea_nil) rc_abs) (by rw [abs_nat])) (ea_cons (ev_is (ev_cb (ea_cons (ev_var rfl) ea_nil) rc_abs) (by rw [abs_nat])) ea_nil)) fun H1 e1 => ?_
    have fin : ∀ (o t4 : Option V) (H2 : Hp), Ex H H2 → tSeq (tAsg (tIf (tTest (tOp (rI0 fun i j => V.bl (decide (i < j))) (tVar 1) (tC (.int 0)))) (tUn (rU fun i => V.int (-i)) (tVar 2)) (tVar 2)) (gName 2)) (tRet (tTup (tCons (tOp (rI CDivNW fun i j => V.int (i.fdiv j)) (tVar 0) (tVar 2)) (tCons (tOp (rI CDivNW fun i j => V.int (i.fdiv j)) (tVar 1) (tVar 2)) tNil)))) { nx := fun _ H' => Q .non H', rt := Q } [some (.int t), some (.int b), some (.int ((Nat.gcd t.natAbs b.natAbs : Nat) : Int)), o, t4] H2 := fun o t4 H2 e2 => by
      refine q_asg (v := .int (comI t b)) (ev_if (b := decide (b < 0)) (et_test (ev_op (ev_var rfl) ev_c rv_I0)) (fun hb1 => ev_is (ev_un (ev_var rfl) ru_neg) ?_) (fun hb1 => ev_is (ev_var rfl) ?_)) fun H3 e3 => ?_
      · rw [comI, if_pos (of_decide_eq_true hb1)]
      · rw [comI, if_neg (of_decide_eq_false hb1)]
      obtain ⟨n1, n2⟩ := nf (t := t) hb0
      refine s_retU (xs := prV (Rat.divInt t b)) (by
        show EvU _ _ _ [V.int (Rat.divInt t b).num, V.int ((Rat.divInt t b).den : Int)]
        rw [← n1, ← n2]
        exact eu_tup (ea_cons (ev_op (ev_var rfl) (ev_var rfl) (rv_I (comI_ok hb0 hb2))) (ea_cons (ev_op (ev_var rfl) (ev_var rfl) (rv_I (comI_ok (t := t) hb0 hb2))) ea_nil)) (by show 2 ≤ 100000; decide)) fun p H4 hp e4 h4 => k p H4 (fresh_back (e2.trans e3) hp) ((e2.trans e3).trans e4) h4
    refine q_forR1 (ea_cons ev_c ea_nil) (by decide) (fun i σ' H' => ∃ (x y : Nat) (t4 : Option V), σ' = [some (.int t), some (.int b), some (.int (x : Int)), some (.int (y : Int)), t4] ∧ Ex H H' ∧ Eu2 (Nat.gcd t.natAbs b.natAbs) i x y) (fun H2 e2 => ⟨_, _, _, rfl, e1.trans e2, rfl, fun _ => hb, fun z => absurd z (by decide)⟩) (fun i σ' H' hi h => ?_) (fun σ' H' h => ?_)
    · obtain ⟨x, y, t4, rfl, e2, hE⟩ := h
      refine q_when (et_is (b := decide (y = 0)) (et_test (ev_op (ev_var rfl) ev_c (rv_eq rfl))) ?_) (fun hb3 H3 e3 => ?_) (fun hb3 H3 e3 => ?_)
      · rw [intEq, decide_eq_decide]
        omega
      · have hy : y = 0 := of_decide_eq_true hb3
        have hg : x = Nat.gcd t.natAbs b.natAbs := by rw [← hE.1, hy, Nat.gcd_zero_right]
        rw [hg]
        exact fin _ _ H3 (e2.trans e3)
      · have hy : y ≠ 0 := of_decide_eq_false hb3
        refine s_par (ea_cons (ev_var rfl) (ea_cons (ev_is (w := .int ((x % y : Nat) : Int)) (ev_op (ev_cb (ea_cons (ev_var rfl) ea_nil) rc_int1) (ev_var rfl) (rv_I (show (0 : Int) < (y : Int) by omega))) (by rw [Int.natCast_emod])) ea_nil)) fun H4 e4 => ?_
        exact ⟨y, x % y, _, rfl, (e2.trans e3).trans e4, hE.step hy⟩
    · obtain ⟨x, y, t4, rfl, e2, hE⟩ := h
      have hy := Eu2.done hE
      have hg : x = Nat.gcd t.natAbs b.natAbs := by rw [← hE.1, hy, Nat.gcd_zero_right]
      rw [hg]
      exact fin _ _ H' e2
/-! ### repr of short data -/
theorem int_shown {i : Int} (h : i.natAbs < 2 ^ 1000) : (PyData.int i).shown.length ≤ 401 := by
  show ((toString i : String) : Str).length ≤ 401
  rw [int_text, SX.S_len]
  exact intL1000 h
theorem pair_shown {d e : PyData} (h1 : d.shown.length ≤ 401) (h2 : e.shown.length ≤ 401) : (PyData.tuple [d, e]).shown.length ≤ sizeLine := by
  have h := tupleText_len_le (PyData.shownAll [d, e])
  have h3 : ((PyData.shownAll [d, e]).map (·.length)).sum = d.shown.length + e.shown.length := by
    show List.sum [d.shown.length, e.shown.length] = _
    simp
  have h4 : (PyData.shownAll [d, e]).length = 2 := rfl
  rw [h3, h4] at h
  show (tupleText (PyData.shownAll [d, e])).length ≤ sizeLine
  have : 1000 ≤ sizeLine := by decide
  omega
theorem int_ok {i : Int} (h : i.natAbs < 2 ^ 1000) : (PyData.int i).showable = true := decide_eq_true (lg1000 h)
/-- repr((x, y)) of a tuple of two plain values -/
theorem rc_reprP {q : Addr} {x y : V} {d e : PyData} (h : SqT K H q [x, y]) (hx : ∀ H1, Dp K H1 x d) (hy : ∀ H1, Dp K H1 y e) (h1 : d.shown.length ≤ 401) (h2 : e.shown.length ≤ 401) (s1 : d.showable = true) (s2 : e.showable = true) (n1 : d.hasDict = false) (n2 : e.hasDict = false) (p1 : d.depth = 0) (p2 : e.depth = 0) :
    RC (rReprD K) [.ref q] H (.str (PyData.tuple [d, e]).shown) := fun H1 ex Q k =>
  ⟨.ref q, .tuple [d, e], rfl, .tup (ex_t ex h) (.cons (hx H1) (.cons (hy H1) .nil)), by
    show (d.showable && (e.showable && true)) = true
    rw [s1, s2]; rfl, by
    show (d.hasDict || (e.hasDict || false)) = false
    rw [n1, n2]; rfl, by
    show max d.depth (max e.depth 0) + 1 ≤ 50
    rw [p1, p2]; decide, pair_shown h1 h2, k H1 (Ex.refl H1)⟩
theorem rc_reprI {q : Addr} {i j : Int} (h : SqT K H q [.int i, .int j]) (h1 : i.natAbs < 2 ^ 1000) (h2 : j.natAbs < 2 ^ 1000) : RC (rReprD K) [.ref q] H (.str (PyData.tuple [.int i, .int j]).shown) :=
  rc_reprP h (fun _ => .int i) (fun _ => .int j) (int_shown h1) (int_shown h2) (int_ok h1) (int_ok h2) rfl rfl rfl rfl
theorem ev_reprTup {tA : TA} {x y : V} {z : Str} (h : EvA tA σ H [x, y]) (hr : ∀ q H1, H1 q = some (.tup [x, y]) → RC (rReprD K) [.ref q] H1 (.str z)) : Ev (tCB (rReprD K) (tCons (tTup tA) tNil)) σ H (.str z) := fun H1 e Q k =>
  g_cb1 (eu_tup h (by show 2 ≤ 100000; decide) H1 e _ fun q H2 hq e2 h2 => hr q H2 h2 H2 (Ex.refl H2) Q fun H3 e3 => k H3 (e2.trans e3))
theorem bl_shown (b : Bool) : (PyData.bool b).shown.length ≤ 401 := by cases b <;> decide
end
end K1

/-! # K01j -/
set_option Elab.async false
set_option linter.all false
set_option maxRecDepth 100000
set_option maxHeartbeats 4000000
namespace K1
open PySem PyProof.Rows L2 Pk Evl
theorem intL_sign {i : Int} {c : Nat} (h : c ∈ intL i) : c < 100 := by
  unfold intL at h
  split at h
  · rcases List.mem_cons.mp h with rfl | h
    · decide
    · have := (TL.numL_digits _ c h).2
      omega
  · have := (TL.numL_digits _ c h).2
    omega
theorem ratS_sign {t b : Int} {c : Nat} (h : c ∈ ratS t b) : c < 100 := by
  unfold ratS at h
  split at h
  · exact intL_sign h
  · rcases List.mem_append.mp h with h | h
    · exact intL_sign h
    · rcases List.mem_append.mp h with h | h
      · simp at h
        omega
      · exact intL_sign h
theorem ratS_len {q : Rat} (h : Sz 1000 q) : (ratS q.num (q.den : Int)).length ≤ 803 := by
  have h1 := intL1000 h.1
  have h2 : (intL (q.den : Int)).length ≤ 401 := intL1000 (by rw [Int.natAbs_natCast]; exact h.2)
  unfold ratS
  split
  · omega
  · simp only [List.length_append, List.length_singleton]
    omega
theorem repr_fits {q : Rat} (h : Sz 1000 q) : (PyData.str (SX.S (ratS q.num (q.den : Int)))).shown.length ≤ sizeLine := by
  have h1 := StrLaws.reprText_len (SX.S (ratS q.num (q.den : Int))) (fun c hc => Nat.lt_of_lt_of_le (ratS_sign (show c ∈ ratS q.num (q.den : Int) from hc)) (by decide))
  have h3 : (SX.S (ratS q.num (q.den : Int))).length = (ratS q.num (q.den : Int)).length := SX.S_len _
  have h2 := ratS_len h
  show (reprText _).length ≤ sizeLine
  have : 10000 ≤ sizeLine := by decide
  omega
section
variable {P : Program} {w : World} {K : PySem.W.Frag} {mg : Str → Option Value} {base : Heap} {cPE cBR cR : Addr} {σ : L2.St} {H : Hp}
/-! ### _law_is -/
def spIs (K : PySem.W.Frag) (cR : Addr) : Sp := fun vs H Q _ => ∃ (a p : Addr) (q : Rat), vs = [.ref a, .ref p] ∧ IsQ cR H a q ∧ SqT K H p (prV q) ∧ Sz 1000 q ∧ ∀ H', Ex H H' → Q (.bl true) H'
abbrev s_is : Stmt := top 28
theorem sc_is : FnScope ["_law_value", "_law_pair", "_law_text", "_law_sign"] ["_law_value", "_law_pair"] (defScope s_is) := ⟨rfl, rfl, rfl, by decide +kernel, rfl, by decide +kernel, by decide +kernel⟩
theorem ev_sg {te : TE} {a : Addr} {q : Rat} (h : Ev te σ H (.ref a)) (hq : IsQ cR H a q) : Ev (tPropO cR (spSg cR) te) σ H (.int (sgn q.num)) := fun H1 e Q k => h H1 e _ fun H2 e2 => by
  obtain ⟨dx, ha⟩ := hq.mono (e.trans e2)
  exact ⟨a, dx, _, rfl, ha, a, q, rfl, ⟨dx, ha⟩, fun H3 e3 => k H3 (e2.trans e3)⟩
theorem ev_wh {te : TE} {a : Addr} {q : Rat} (h : Ev te σ H (.ref a)) (hq : IsQ cR H a q) : Ev (tPropO cR (spWh cR) te) σ H (.bl (decide ((q.den : Int) = 1))) := fun H1 e Q k => h H1 e _ fun H2 e2 => by
  obtain ⟨dx, ha⟩ := hq.mono (e.trans e2)
  exact ⟨a, dx, _, rfl, ha, a, q, rfl, ⟨dx, ha⟩, fun H3 e3 => k H3 (e2.trans e3)⟩
theorem rc_boolQ {a : Addr} {q : Rat} (hq : IsQ cR H a q) : RC (fun xs H Q => ∃ x, xs = [x] ∧ rUnO cR (spBo cR) x H (fun v H' => (∃ b, v = .bl b) ∧ Q v H')) [.ref a] H (.bl (decide (q.num ≠ 0))) := fun H1 e Q k => by
  obtain ⟨dx, ha⟩ := hq.mono e
  exact ⟨.ref a, rfl, a, dx, _, rfl, ha, a, q, rfl, ⟨dx, ha⟩, fun H2 e2 => ⟨⟨_, rfl⟩, k H2 e2⟩⟩
theorem rc_reprB {b : Bool} : RC (rReprD K) [.bl b] H (.str (PyData.bool b).shown) := fun H1 e Q k => ⟨.bl b, .bool b, rfl, .bl b, rfl, rfl, by show 0 ≤ 50; decide, sz_of (Nat.le_trans (bl_shown b) (by decide)), k H1 (Ex.refl H1)⟩
theorem rc_reprS {q : Rat} (h : Sz 1000 q) : RC (rReprD K) [.str (SX.S (ratS q.num (q.den : Int)))] H (.str (PyData.str (SX.S (ratS q.num (q.den : Int)))).shown) := fun H1 e Q k => ⟨_, .str _, rfl, .str _, rfl, rfl, by show 0 ≤ 50; decide, repr_fits h, k H1 (Ex.refl H1)⟩
theorem sgn_lt (n : Int) : (sgn n).natAbs < 2 ^ 1000 := by
  have : (2 : Nat) ≤ 2 ^ 1000 := by decide +kernel
  unfold sgn
  split
  · show 1 < _; omega
  · split
    · show 1 < _; omega
    · show 0 < _; omega
theorem ok_is {f : Addr} {fd : FuncData} (F : Fun K "_law_is" "_law_is" s_is f fd) (B : Bj mg) (C : RC1 K cR) (gR : mg "Ratio" = some (.ref cR)) (GSg : GP P w K mg base 1 cR "sign" (spSg cR)) (GWh : GP P w K mg base 1 cR "is_whole" (spWh cR)) (GBo : OM P w K mg base 1 cR "__bool__" (spBo cR))
    (GSt : OM P w K mg base 1 cR "__str__" (spStQ cR)) (GRp : OM P w K mg base 4 cR "__repr__" (spStQ cR)) : FnG P w K mg base 6 f fd ["_law_value", "_law_pair"] (spIs K cR) := by
  refine okG F sc_is (fun vs H Q E h => ?_) (fun cdv A outer s H vs Q E hr h => ?_)
  · obtain ⟨a, p, q, rfl, _⟩ := h
    rfl
  · obtain ⟨a, p, q, rfl, hq, hp, sz, k⟩ := h
    have nd := sc_is.nd
    have hr2 := hr.mono (j := 2) (by decide)
    have hr3 := hr.mono (j := 3) (by decide)
    refine ⟨_, (pss_cons (ps_if (PW.pt (pw_or (pt_not (pt_val (pe_callB call_isi (by rfl) B.isinstance Boot.«isinstance» (pa_cons (pv 0) (pa_cons (pe_glob (v := .ref cR) (by rfl) gR rfl) pa_nil))))) (pw_or1 (pt_cmpR op_ne (pe_callB (call_reprD hr) (by rfl) B.repr Boot.«repr» (pa_cons (pe_tup (pa_cons (pe_fld (pv 0) rfl) (pa_cons (pe_fld (pv 0) rfl) pa_nil))) pa_nil)) (pe_callB (call_reprD hr) (by rfl) B.repr Boot.«repr» (pa_cons (pv 1) pa_nil)) (nomark _)))))
    (pss_one (ps_ret pe_bl))
    pss_nil)
  (pss_cons (ps_set (i := 2) nd rfl (Or.inl rfl) (pe_op op_add_str (pe_callTy call_str_int (by rfl) B.str Boot.«str» (pa_cons (pe_ix ix_tup (pv 1) pe_int (fun _ _ => rfl)) pa_nil)) (pe_ifExp (pt_cmpR op_eq (pe_ix ix_tup (pv 1) pe_int (fun _ _ => rfl)) pe_int (nomark _)) pe_str (pe_op op_add_str pe_str (pe_callTy call_str_int (by rfl) B.str Boot.«str» (pa_cons (pe_ix ix_tup (pv 1) pe_int (fun _ _ => rfl)) pa_nil))))))
  (pss_cons (ps_set (i := 3) nd rfl (Or.inl rfl) (pe_ifExp (pt_cmpR op_lt (pe_ix ix_tup (pv 1) pe_int (fun _ _ => rfl)) pe_int (nomark _)) (pe_un un_neg pe_int) (pe_ifExp (pt_cmpR op_eq (pe_ix ix_tup (pv 1) pe_int (fun _ _ => rfl)) pe_int (nomark _)) pe_int pe_int)))
  (pss_cons (ps_if (PW.pt (pw_or (pt_cmpR op_ne (pe_callB (call_reprD hr) (by rfl) B.repr Boot.«repr» (pa_cons (pe_tup (pa_cons (pe_propG (pv 0) GSg hr2) (pa_cons (pe_propG (pv 0) GWh hr2) pa_nil))) pa_nil)) (pe_callB (call_reprD hr) (by rfl) B.repr Boot.«repr» (pa_cons (pe_tup (pa_cons (pv 3) (pa_cons (pe_cmpR op_eq (pe_ix ix_tup (pv 1) pe_int (fun _ _ => rfl)) pe_int (nomark _)) pa_nil))) pa_nil)) (nomark _)) (pw_or1 (pt_cmpR op_ne (pe_callB (call_reprD hr) (by rfl) B.repr Boot.«repr» (pa_cons (pe_callTy (call_boolO GBo hr3) (by rfl) B.bool Boot.«bool» (pa_cons (pv 0) pa_nil)) pa_nil)) (pe_callB (call_reprD hr) (by rfl) B.repr Boot.«repr» (pa_cons (pe_cmpR op_ne (pv 3) pe_int (nomark _)) pa_nil)) (nomark _)))))
    (pss_one (ps_ret pe_bl))
    pss_nil)
  (pss_one (ps_ret (pe_and (pe_cmpR op_eq (pe_callB (call_reprD hr) (by rfl) B.repr Boot.«repr» (pa_cons (pe_callTy (call_strO GSt hr3) (by rfl) B.str Boot.«str» (pa_cons (pv 0) pa_nil)) pa_nil)) (pe_callB (call_reprD hr) (by rfl) B.repr Boot.«repr» (pa_cons (pv 2) pa_nil)) (nomark _)) (pe_one (pe_cmpR op_eq (pe_callB (call_reprO GRp hr) (by rfl) B.repr Boot.«repr» (pa_cons (pv 0) pa_nil)) (pv 2) (nomark _)))))))))), ?_⟩
    obtain ⟨dx, ha⟩ := id hq
    have szd1 : ((q.den : Int)).natAbs < 2 ^ 1000 := by rw [Int.natAbs_natCast]; exact sz.2
    refine q_when (b := false) (et_is (et_or (a := false) (b := false) (et_not (a := true) (et_B (ev_cb (ea_cons (ev_var rfl) (ea_cons ev_c ea_nil)) (rc_isi (.own _) (fun H1 e1 => C.ty (e1 _ _ ha)) (kit_self cR))))) fun _ => et_is (et_test (ev_op (ev_reprTup (K := K) (ea_cons (ev_top C (ev_var rfl) hq) (ea_cons (ev_bot C (ev_var rfl) hq) ea_nil)) fun u H1 h1 => rc_reprI (st_of h1) sz.1 szd1) (ev_cb (ea_cons (ev_var rfl) ea_nil) (rc_reprI hp sz.1 szd1)) (rv_ne rfl))) (by simp)) rfl) (fun z => nomatch z) (fun _ H1 e1 => ?_)
    have hq1 := hq.mono e1
    have hp1 := ex_t e1 hp
    have E0 : ∀ (σ' : L2.St) (H' : Hp), Ex H1 H' → σ'[1]? = some (some (.ref p)) → Ev (tOp (rIxT K) (tVar 1) (tC (.int 0))) σ' H' (.int q.num) := fun σ' H' e' h => ev_op (ev_var h) ev_c (rv_ixT (ex_t e' hp1) (atI_nat (j := 0) rfl))
    have E1 : ∀ (σ' : L2.St) (H' : Hp), Ex H1 H' → σ'[1]? = some (some (.ref p)) → Ev (tOp (rIxT K) (tVar 1) (tC (.int 1))) σ' H' (.int (q.den : Int)) := fun σ' H' e' h => ev_op (ev_var h) ev_c (rv_ixT (ex_t e' hp1) (atI_nat (j := 1) rfl))
    have il := intL1000 sz.1
    have jl := intL1000 szd1
    refine q_asg (v := .str (SX.S (ratS q.num (q.den : Int)))) (ev_is (ev_cat2 (b := if (q.den : Int) = 1 then [] else [47] ++ intL (q.den : Int)) (ev_cb (ea_cons (E0 _ _ (Ex.refl _) rfl) ea_nil) (rc_strI2 (lg1000 sz.1))) (ev_if (b := decide ((q.den : Int) = 1)) (et_is (et_test (ev_op (E1 _ _ (Ex.refl _) rfl) ev_c (rv_eq rfl))) (intEq _ 1)) (fun hb1 => ?_) (fun hb1 => ?_)) ?_) (by rw [ratS_eq])) fun H2 e2 => ?_
    · rw [if_pos (of_decide_eq_true hb1)]
      exact ev_c (v := .str (SX.S []))
    · rw [if_neg (of_decide_eq_false hb1)]
      exact ev_cat2 (ev_c (v := .str (SX.S [47]))) (ev_cb (ea_cons (E1 _ _ (Ex.refl _) rfl) ea_nil) (rc_strI2 (lg1000 szd1))) (by simp; omega)
    · split
      · simp; omega
      · simp only [List.length_append, List.length_singleton]
        omega
    refine q_asg (v := .int (sgn q.num)) (ev_if (et_test (ev_op (E0 _ _ e2 rfl) ev_c rv_I0)) (fun hb => ev_is (ev_un ev_c ru_neg) ?_) (fun hb => ev_if (b := decide (q.num = 0)) (et_is (et_test (ev_op (E0 _ _ e2 rfl) ev_c (rv_eq rfl))) (intEq _ 0)) (fun hb2 => ev_is ev_c ?_) (fun hb2 => ev_is ev_c ?_))) fun H3 e3 => ?_
    · unfold sgn
      rw [if_pos (of_decide_eq_true hb)]
    · have z := of_decide_eq_true hb2
      unfold sgn
      rw [z]
      rfl
    · have z := of_decide_eq_false hb2
      have z2 := of_decide_eq_false hb
      unfold sgn
      rw [if_neg z2, if_pos (by omega)]
    have e13 := e2.trans e3
    have hq3 := hq1.mono e13
    have hsg : (!decide (V.int (sgn q.num) = V.int 0)) = decide (q.num ≠ 0) := by
      rw [intEq, ← decide_not, decide_eq_decide]
      unfold sgn
      split
      · omega
      · split <;> omega
    refine q_when (b := false) (et_is (et_or (a := false) (b := false) (et_is (et_test (ev_op (ev_reprTup (K := K) (ea_cons (ev_sg (ev_var rfl) hq3) (ea_cons (ev_wh (ev_var rfl) hq3) ea_nil)) fun u H4 h4 => rc_reprP (st_of h4) (fun _ => .int _) (fun _ => .bl _) (int_shown (sgn_lt _)) (bl_shown _) (int_ok (sgn_lt _)) rfl rfl rfl rfl rfl) (ev_reprTup (K := K) (ea_cons (ev_var rfl) (ea_cons (ev_is (w := .bl (decide ((q.den : Int) = 1))) (ev_op (E1 _ _ e13 rfl) ev_c (rv_eq rfl)) (by rw [intEq])) ea_nil)) fun u H4 h4 => rc_reprP (st_of h4) (fun _ => .int _) (fun _ => .bl _) (int_shown (sgn_lt _)) (bl_shown _) (int_ok (sgn_lt _)) rfl rfl rfl rfl rfl) (rv_ne rfl))) (by simp)) fun _ => et_is (et_test (ev_op (ev_cb (ea_cons (ev_cb (ea_cons (ev_var rfl) ea_nil) (rc_boolQ hq3)) ea_nil) (rc_reprB (K := K))) (ev_cb (ea_cons (ev_is (w := .bl (decide (q.num ≠ 0))) (ev_op (ev_var rfl) ev_c (rv_ne rfl)) (by rw [hsg])) ea_nil) (rc_reprB (K := K))) (rv_ne rfl))) (by simp)) rfl) (fun z => nomatch z) (fun _ H4 e4 => ?_)
    have hq4 := hq3.mono e4
    obtain ⟨d4, ha4⟩ := id hq4
    refine s_ret (v := .bl true) (ev_is (ev_andV (ev_op (ev_cb (ea_cons (ev_cb (ea_cons (ev_var rfl) ea_nil) (rc_strO ha4 (spv_StQ hq4 sz))) ea_nil) (rc_reprS (K := K) sz)) (ev_cb (ea_cons (ev_var rfl) ea_nil) (rc_reprS (K := K) sz)) (rv_eq rfl)) fun _ => ev_op (ev_cb (ea_cons (ev_var rfl) ea_nil) (rc_strO ha4 (spv_StQ hq4 sz))) (ev_var rfl) (rv_eq rfl)) (by simp)) fun H5 e5 => k H5 (((e1.trans e13).trans e4).trans e5)
theorem spv_is {a p : Addr} {q : Rat} (hq : IsQ cR H a q) (hp : SqT K H p (prV q)) (sz : Sz 1000 q) : SpV (spIs K cR) [.ref a, .ref p] H (.bl true) := fun H1 e Q k E => ⟨a, p, q, rfl, hq.mono e, ex_t e hp, sz, k⟩
end
end K1

/-! # K01k -/
set_option Elab.async false
set_option linter.all false
set_option maxRecDepth 100000
set_option maxHeartbeats 4000000
namespace K1
open PySem PyProof.Rows L2 Pk Evl
theorem q_any {t u : TS} {D : Ends} {σ : L2.St} {H : Hp} (h : t { D with nx := u D } σ H) : tSeq t u D σ H := h
section
variable {P : Program} {w : World} {K : PySem.W.Frag} {mg : Str → Option Value} {base : Heap} {cPE cBR cR : Addr} {σ : L2.St} {H : Hp}
theorem g_ifT {t : TT} {ta tb : TE} {Q : VK} (h : EvT t σ H true) (k : ∀ H1, Ex H H1 → ta σ H1 Q) : tIf t ta tb σ H Q := h H (Ex.refl H) _ fun H1 e => k H1 e
theorem g_ifF {t : TT} {ta tb : TE} {Q : VK} (h : EvT t σ H false) (k : ∀ H1, Ex H H1 → tb σ H1 Q) : tIf t ta tb σ H Q := h H (Ex.refl H) _ fun H1 e => k H1 e
/-! ### _law_part -/
structure BrC (K : PySem.W.Frag) (cPE cBR : Addr) : Prop where
  xf : XfC K cBR
  ex : ExcC K cBR
  part : PySem.W.findIn K (.ref cBR) "part" = some none
  under : PySem.W.exmOne K (.ref cBR) (.ref cPE) = some true
def EmptyRow (K : PySem.W.Frag) (H : Hp) (v : V) : Prop := ∃ a, v = .ref a ∧ SqX K H a []
def PartDue (K : PySem.W.Frag) (cR : Addr) (H : Hp) (q : Rat) (v : V) (i : Int) (due : Str) : Prop :=
  (0 ≤ i ∧ i < 6 ∧ OddQ K H v ∧ due = "other") ∨ (i = 6 ∧ OddQ K H v ∧ due = "value") ∨ (i = 7 ∧ OddQ K H v ∧ due = "top") ∨ (i = 8 ∧ (OddQ K H v ∨ v = .int 0) ∧ due = "bottom") ∨
  (i = 3 ∧ (∃ r, Num cR H v r ∧ Sz 900 q ∧ Sz 900 r ∧ r.num = 0) ∧ due = "zero") ∨ (9 ≤ i ∧ i < 12 ∧ BadRow K cR H v ∧ due = "ratios") ∨ (10 ≤ i ∧ i < 12 ∧ EmptyRow K H v ∧ due = "ratios") ∨ (12 ≤ i ∧ i < 15 ∧ OddQ K H v ∧ due = "ratios")
def spPart (K : PySem.W.Frag) (cR : Addr) : Sp := fun vs H Q _ => ∃ (a : Addr) (v : V) (q : Rat) (i : Int) (due : Str), vs = [.int i, .ref a, v] ∧ IsQ cR H a q ∧ PartDue K cR H q v i due ∧ ∀ H', Ex H H' → Q (.str due) H'
abbrev s_part : Stmt := top 29
theorem sc_part : FnScope ["_law_way", "_law_ratio", "_law_odd", "_law_caught", "_law_told", "error"] ["_law_way", "_law_ratio", "_law_odd"] (defScope s_part) := ⟨rfl, rfl, rfl, by decide +kernel, rfl, by decide +kernel, by decide +kernel⟩
theorem BadRow.mono {H' : Hp} {v : V} (h : BadRow K cR H v) (e : Ex H H') : BadRow K cR H' v := by
  rcases h with ⟨tv, ty, kk⟩ | ⟨a, xs, bs, h0, hx, hz, hl, hb, hall⟩
  · exact .inl ⟨tv, ty.mono e, kk⟩
  · exact .inr ⟨a, xs, bs, h0, hx.mono e, hz, hl, fun i x hi => el_mono (hb i x hi) e, hall⟩
theorem EmptyRow.mono {H' : Hp} {v : V} (h : EmptyRow K H v) (e : Ex H H') : EmptyRow K H' v := let ⟨a, h1, h2⟩ := h; ⟨a, h1, h2.mono e⟩
theorem made0 {H1 : Hp} {x dx C : Addr} (hx : H1 x = none) (hdx : H1 dx = none) (hne : dx ≠ x) : Ex H1 (upd (upd H1 dx (.own x)) x (.ins C dx [])) := made_ex hx hdx hne (ExB.of (Ex.refl _))
theorem ok_part {f : Addr} {fd : FuncData} (F : Fun K "_law_part" "_law_part" s_part f fd) (B : Bj mg) (C : RC1 K cR) (BR : BrC K cPE cBR) (gPE : mg "PeekError" = some (.ref cPE)) (gBR : mg "BadRatio" = some (.ref cBR))
    (GA : OM P w K mg base 6 cR "__add__" (spBin K cR cBR (· + ·))) (GSu : OM P w K mg base 6 cR "__sub__" (spBin K cR cBR (· - ·))) (GMu : OM P w K mg base 6 cR "__mul__" (spBin K cR cBR (· * ·)))
    (GOv : GM P w K mg base 6 cR "over" (spOver K cR cBR) []) (GCm : GM P w K mg base 6 cR "compared" (spCmp K cR cBR V.int) []) (GBe : GM P w K mg base 7 cR "is_below" (spCmp K cR cBR (fun i => .bl (decide (i = -1)))) [])
    (GO : GS P w K mg base 6 "Ratio" cR "of" (spOf K cR cBR) []) (GR2 : GC P w K mg base 3 "Ratio" cR (spQI K cR cBR) []) (GAd : GF P w K mg base 7 "added" (spAdd K cR cBR) []) (GLe : GF P w K mg base 9 "least_of" (spGr K cR cBR gmin) []) (GGr : GF P w K mg base 8 "greatest_of" (spGr K cR cBR gmax) []) :
    FnG P w K mg base 10 f fd ["_law_way", "_law_ratio", "_law_odd"] (spPart K cR) := by
  refine okG F sc_part (fun vs H Q E h => ?_) (fun cdv A outer s H vs Q E hr h => ?_)
  · obtain ⟨a, v, q, i, due, rfl, _⟩ := h
    rfl
  · obtain ⟨a, v, q, i, due, rfl, hq, hdue, k⟩ := h
    have nd := sc_part.nd
    have h6 := hr.mono (j := 6) (by decide)
    have h7 := hr.mono (j := 7) (by decide)
    have h8 := hr.mono (j := 8) (by decide)
    have h4 := hr.mono (j := 4) (by decide)
    refine ⟨_, (pss_cons (ps_set (i := 3) nd rfl (Or.inl rfl) pe_non)
  (pss_cons (ps_try_asT (i := 5) (c := .ref cPE) rfl rfl rfl nd rfl rfl ⟨by rfl, by decide, .inl gPE⟩ (takes_of rfl rfl rfl rfl)
    (fun W pn xe tk ps => (pss_cons (ps_if (pt_cmpR op_lt (pv 0) pe_int (nomark _))
      (pss_one (ps_set (i := 4) nd rfl (Or.inl rfl) (pe_ifExp (pt_cmpR op_eq (pv 0) pe_int (nomark _)) (pe_opS (show OpS _ (binaryOp .Add) (rBinO K cR "add" (spBin K cR cBR (· + ·)) W) from op_binO (op := .Add) GA C.self h6 tk) (pv 1) (pv 2)) (pe_ifExp (pt_cmpR op_eq (pv 0) pe_int (nomark _)) (pe_opS (show OpS _ (binaryOp .Sub) (rBinO K cR "sub" (spBin K cR cBR (· - ·)) W) from op_binO (op := .Sub) GSu C.self h6 tk) (pv 1) (pv 2)) (pe_opS (show OpS _ (binaryOp .Mult) (rBinO K cR "mul" (spBin K cR cBR (· * ·)) W) from op_binO (op := .Mult) GMu C.self h6 tk) (pv 1) (pv 2))))))
      (pss_one (ps_if (pt_cmpR op_lt (pv 0) pe_int (nomark _))
        (pss_one (ps_set (i := 4) nd rfl (Or.inl rfl) (pe_ifExp (pt_cmpR op_eq (pv 0) pe_int (nomark _)) (pe_gm (pv 1) GOv h6 tk (pa_cons (pv 2) pa_nil)) (pe_ifExp (pt_cmpR op_eq (pv 0) pe_int (nomark _)) (pe_gm (pv 1) GCm h6 tk (pa_cons (pv 2) pa_nil)) (pe_gm (pv 1) GBe h7 tk (pa_cons (pv 2) pa_nil))))))
        (pss_one (ps_if (pt_cmpR op_lt (pv 0) pe_int (nomark _))
          (pss_one (ps_set (i := 4) nd rfl (Or.inl rfl) (pe_ifExp (pt_cmpR op_eq (pv 0) pe_int (nomark _)) (pe_gs GO h6 tk (by rfl) (pa_cons (pv 2) pa_nil)) (pe_ifExp (pt_cmpR op_eq (pv 0) pe_int (nomark _)) (pe_gc GR2 h4 tk (by rfl) (pa_cons (pv 2) (pa_cons (pv 2) pa_nil))) (pe_gc GR2 h4 tk (by rfl) (pa_cons pe_int (pa_cons (pv 2) pa_nil)))))))
          (pss_one (ps_if (pt_cmpR op_lt (pv 0) pe_int (nomark _))
            (pss_one (ps_set (i := 4) nd rfl (Or.inl rfl) (pe_ifExp (pt_cmpR op_eq (pv 0) pe_int (nomark _)) (pe_gf GAd h7 tk (by rfl) (pa_cons (pv 2) pa_nil)) (pe_ifExp (pt_cmpR op_eq (pv 0) pe_int (nomark _)) (pe_gf GLe hr tk (by rfl) (pa_cons (pv 2) pa_nil)) (pe_gf GGr h8 tk (by rfl) (pa_cons (pv 2) pa_nil))))))
            (pss_one (ps_set (i := 4) nd rfl (Or.inl rfl) (pe_ifExp (pt_cmpR op_eq (pv 0) pe_int (nomark _)) (pe_gf GAd h7 tk (by rfl) (pa_cons (pe_lst (pa_cons (pv 1) (pa_cons (pv 2) pa_nil))) pa_nil)) (pe_ifExp (pt_cmpR op_eq (pv 0) pe_int (nomark _)) (pe_gf GLe hr tk (by rfl) (pa_cons (pe_tup (pa_cons (pv 2) (pa_cons pe_int pa_nil))) pa_nil)) (pe_gf GGr h8 tk (by rfl) (pa_cons (pe_lst (pa_cons pe_int (pa_cons (pv 1) (pa_cons (pv 2) pa_nil)))) pa_nil)))))))))))))
    (pss_one (ps_ret (pe_ifExp (pt_cmpR op_notN (pv 4) pe_non (nomark _)) pe_str pe_str)))))
    (fun a oe cls d pn hz hf => (pss_one (ps_set (i := 3) nd rfl (Or.inl rfl) (pv 5)))))
  (pss_one (ps_ret (pe_ifExp (pt_val (pe_callB call_isX (by rfl) B.isinstance Boot.«isinstance» (pa_cons (pv 3) (pa_cons (pe_glob (v := .ref cBR) (by rfl) gBR rfl) pa_nil)))) (pe_xfT (pv 3)) pe_str))))), ?_⟩
    refine q_asg ev_c fun H1 e1 => ?_
    have fin : ∀ (σ2 : L2.St) (H2 : Hp) (d c : Addr), σ2[3]? = some (some (.ref c)) → Ex H H2 → H2 d = some (.xd [("part", .str due)]) → H2 c = some (exT (.ref cBR) (some d) c) →
        tRet (tIf (tB (tCB (rIsX K) (tCons (tVar 3) (tCons (tC (.ref cBR)) tNil)))) (tXfT K "part" (tVar 3)) (tC (.str "other class"))) { nx := fun _ H' => Q .non H', rt := Q } σ2 H2 := fun σ2 H2 d c hσ e2 hd hc => by
      have hv : Ev (tVar 3) σ2 H2 (.ref c) := ev_var hσ
      refine s_ret (v := .str due) (ev_if (b := true) (et_B (ev_cb (ea_cons hv (ea_cons ev_c ea_nil)) (fun H4 e4 Q2 q2 => ⟨c, cBR, d, _, .ref cBR, .ref cBR, true, rfl, e4 _ _ hc, e4 _ _ hd, BR.ex, .own _, kit_self cBR, q2 H4 (Ex.refl H4)⟩))) (fun _ H5 e5 Q5 q5 => hv H5 e5 _ fun H6 e6 => ⟨c, cBR, d, _, .str due, rfl, (e5.trans e6) _ _ hc, BR.xf, BR.part, (e5.trans e6) _ _ hd, rfl, q5 H6 e6⟩) (fun z => nomatch z)) fun H4 e4 => k H4 (e2.trans e4)
    have hup : ∀ (H2 : Hp) (σ2 : L2.St) (D : Ends), Ex H H2 → σ2.length = 6 → D.nx = tRet (tIf (tB (tCB (rIsX K) (tCons (tVar 3) (tCons (tC (.ref cBR)) tNil)))) (tXfT K "part" (tVar 3)) (tC (.str "other class"))) { nx := fun _ H' => Q .non H', rt := Q } →
        ∀ Wout, Raises cBR [("part", .str due)] H2 (WE (wAsT K (.ref cPE) 5 (fun _ _ _ => tAsg (tVar 5) (gName 3)) Wout D) σ2) := fun H2 σ2 D e2 hlen hD Wout d H3 e3 hd h3 => by
      refine ⟨true, BR.under, fun _ c hc => ?_, fun z => nomatch z⟩
      have hdc : d ≠ c := ne_of_none h3 hc
      refine s_asg (v := .ref c) (ev_var ?_) fun H4 e4 => ?_
      · rw [List.getElem?_set_self (by omega)]
      · show D.nx _ _
        rw [hD]
        refine fin _ _ d c ?_ ?_ ?_ upd_same
        · rw [List.getElem?_set_ne (by decide), List.getElem?_set_self (by simp; omega)]
        · exact Ex.mut ((e2.trans e3).trans e4) (fresh_back (e2.trans e3) hc)
        · rw [upd_ne hdc]
          exact e4 _ _ h3
    obtain ⟨dx, ha⟩ := id hq
    have lt : ∀ (c : Int) (b : Bool) (H2 : Hp), decide (i < c) = b → EvT (tTest (tOp (rI0 fun i j => V.bl (decide (i < j))) (tVar 0) (tC (.int c)))) [some (.int i), some (.ref a), some v, some .non, none, none] H2 b := fun c b H2 e => et_is (et_test (ev_op (ev_var rfl) ev_c rv_I0)) e
    have eq : ∀ (c : Int) (b : Bool) (H2 : Hp), decide (i = c) = b → EvT (tTest (tOp rEq (tVar 0) (tC (.int c)))) [some (.int i), some (.ref a), some v, some .non, none, none] H2 b := fun c b H2 e => et_is (et_test (ev_op (ev_var rfl) ev_c (rv_eq rfl))) (by rw [intEq]; exact e)
    refine q_any ?_
    have kx : ∀ (D : Ends) (H2 : Hp), Ex H H2 → D.nx = tRet (tIf (tB (tCB (rIsX K) (tCons (tVar 3) (tCons (tC (.ref cBR)) tNil)))) (tXfT K "part" (tVar 3)) (tC (.str "other class"))) { nx := fun _ H' => Q .non H', rt := Q } → ∀ Wout, Raises cBR [("part", .str due)] H2 (WE (wAsT K (.ref cPE) 5 (fun _ _ _ => tAsg (tVar 5) (gName 3)) Wout D) [some (.int i), some (.ref a), some v, some .non, none, none]) := fun D H2 e2 hD Wout => hup H2 _ D e2 rfl hD Wout
    rcases hdue with ⟨i0, i1, ho, rfl⟩ | ⟨rfl, ho, rfl⟩ | ⟨rfl, ho, rfl⟩ | ⟨rfl, ho, rfl⟩ | ⟨rfl, ⟨r, hn, s1, s2, h0⟩, rfl⟩ | ⟨i0, i1, hb, rfl⟩ | ⟨i0, i1, he, rfl⟩ | ⟨i0, i1, ho, rfl⟩
    · have hi : i = 0 ∨ i = 1 ∨ i = 2 ∨ i = 3 ∨ i = 4 ∨ i = 5 := by omega
      rcases hi with rfl | rfl | rfl | rfl | rfl | rfl
      · refine q_if (b := true) (lt 3 true _ (by decide)) (fun _ H2 e2 => ?_) (fun z => nomatch z)
        refine s_set (g_ifT (eq 0 true _ (by decide)) fun H3 e3 => ?_)
        have ez : Ex H H3 := ((e1.trans e2).trans e3)
        exact ⟨_, rfl, _, rfl, rBin_x (nm := "add") C (by simp) (hq.mono ez) (ho.mono ez) (kx _ H3 ez rfl _)⟩
      · refine q_if (b := true) (lt 3 true _ (by decide)) (fun _ H2 e2 => ?_) (fun z => nomatch z)
        refine s_set (g_ifF (eq 0 false _ (by decide)) fun H3 e3 => ?_)
        refine g_ifT (eq 1 true _ (by decide)) fun H4 e4 => ?_
        have ez : Ex H H4 := (((e1.trans e2).trans e3).trans e4)
        exact ⟨_, rfl, _, rfl, rBin_x (nm := "sub") C (by simp) (hq.mono ez) (ho.mono ez) (kx _ H4 ez rfl _)⟩
      · refine q_if (b := true) (lt 3 true _ (by decide)) (fun _ H2 e2 => ?_) (fun z => nomatch z)
        refine s_set (g_ifF (eq 0 false _ (by decide)) fun H3 e3 => ?_)
        refine g_ifF (eq 1 false _ (by decide)) fun H4 e4 => ?_
        have ez : Ex H H4 := (((e1.trans e2).trans e3).trans e4)
        exact ⟨_, rfl, _, rfl, rBin_x (nm := "mul") C (by simp) (hq.mono ez) (ho.mono ez) (kx _ H4 ez rfl _)⟩
      · refine q_if (b := false) (lt 3 false _ (by decide)) (fun z => nomatch z) (fun _ H2 e2 => ?_)
        refine s_if (b := true) (lt 6 true _ (by decide)) (fun _ H3 e3 => ?_) (fun z => nomatch z)
        refine s_set (g_ifT (eq 3 true _ (by decide)) fun H4 e4 => ?_)
        have ez : Ex H H4 := (((e1.trans e2).trans e3).trans e4)
        exact go_gm (vs := [v]) (ev_var rfl) (ez _ _ ha) rfl (ea_cons (ev_var rfl) ea_nil) fun Hy ey => ⟨a, v, q, rfl, hq.mono (ez.trans ey), .inr ⟨ho.mono (ez.trans ey), ((kx _ H4 ez rfl _).mono ey)⟩⟩
      · refine q_if (b := false) (lt 3 false _ (by decide)) (fun z => nomatch z) (fun _ H2 e2 => ?_)
        refine s_if (b := true) (lt 6 true _ (by decide)) (fun _ H3 e3 => ?_) (fun z => nomatch z)
        refine s_set (g_ifF (eq 3 false _ (by decide)) fun H4 e4 => ?_)
        refine g_ifT (eq 4 true _ (by decide)) fun H5 e5 => ?_
        have ez : Ex H H5 := ((((e1.trans e2).trans e3).trans e4).trans e5)
        exact go_gm (vs := [v]) (ev_var rfl) (ez _ _ ha) rfl (ea_cons (ev_var rfl) ea_nil) fun Hy ey => ⟨a, v, q, rfl, hq.mono (ez.trans ey), .inr ⟨ho.mono (ez.trans ey), ((kx _ H5 ez rfl _).mono ey)⟩⟩
      · refine q_if (b := false) (lt 3 false _ (by decide)) (fun z => nomatch z) (fun _ H2 e2 => ?_)
        refine s_if (b := true) (lt 6 true _ (by decide)) (fun _ H3 e3 => ?_) (fun z => nomatch z)
        refine s_set (g_ifF (eq 3 false _ (by decide)) fun H4 e4 => ?_)
        refine g_ifF (eq 4 false _ (by decide)) fun H5 e5 => ?_
        have ez : Ex H H5 := ((((e1.trans e2).trans e3).trans e4).trans e5)
        exact go_gm (vs := [v]) (ev_var rfl) (ez _ _ ha) rfl (ea_cons (ev_var rfl) ea_nil) fun Hy ey => ⟨a, v, q, rfl, hq.mono (ez.trans ey), .inr ⟨ho.mono (ez.trans ey), ((kx _ H5 ez rfl _).mono ey)⟩⟩
    · refine q_if (b := false) (lt 3 false _ (by decide)) (fun z => nomatch z) (fun _ H2 e2 => ?_)
      refine s_if (b := false) (lt 6 false _ (by decide)) (fun z => nomatch z) (fun _ H3 e3 => ?_)
      refine s_if (b := true) (lt 9 true _ (by decide)) (fun _ H4 e4 => ?_) (fun z => nomatch z)
      refine s_set (g_ifT (eq 6 true _ (by decide)) fun H5 e5 => ?_)
      have ez : Ex H H5 := ((((e1.trans e2).trans e3).trans e4).trans e5)
      exact go_gf (vs := [v]) (ea_cons (ev_var rfl) ea_nil) fun Hy ey => ⟨v, rfl, v, _, rfl, .inr ⟨ho.mono (ez.trans ey), ((kx _ H5 ez rfl _).mono ey)⟩⟩
    · refine q_if (b := false) (lt 3 false _ (by decide)) (fun z => nomatch z) (fun _ H2 e2 => ?_)
      refine s_if (b := false) (lt 6 false _ (by decide)) (fun z => nomatch z) (fun _ H3 e3 => ?_)
      refine s_if (b := true) (lt 9 true _ (by decide)) (fun _ H4 e4 => ?_) (fun z => nomatch z)
      refine s_set (g_ifF (eq 6 false _ (by decide)) fun H5 e5 => ?_)
      refine g_ifT (eq 7 true _ (by decide)) fun H6 e6 => ?_
      have ez : Ex H H6 := (((((e1.trans e2).trans e3).trans e4).trans e5).trans e6)
      exact go_gc (vs := [v, v]) (ea_cons (ev_var rfl) (ea_cons (ev_var rfl) ea_nil)) fun x dz Hy ey hx hdx hne => ⟨x, dz, v, v, rfl, upd_same, .inr (.inl ⟨ho.mono ((ez.trans ey).trans (made0 hx hdx hne)), ((kx _ H6 ez rfl _).mono (ey.trans (made0 hx hdx hne)))⟩)⟩
    · refine q_if (b := false) (lt 3 false _ (by decide)) (fun z => nomatch z) (fun _ H2 e2 => ?_)
      refine s_if (b := false) (lt 6 false _ (by decide)) (fun z => nomatch z) (fun _ H3 e3 => ?_)
      refine s_if (b := true) (lt 9 true _ (by decide)) (fun _ H4 e4 => ?_) (fun z => nomatch z)
      refine s_set (g_ifF (eq 6 false _ (by decide)) fun H5 e5 => ?_)
      refine g_ifF (eq 7 false _ (by decide)) fun H6 e6 => ?_
      have ez : Ex H H6 := (((((e1.trans e2).trans e3).trans e4).trans e5).trans e6)
      exact go_gc (vs := [.int 3, v]) (ea_cons ev_c (ea_cons (ev_var rfl) ea_nil)) fun x dz Hy ey hx hdx hne => ⟨x, dz, .int 3, v, rfl, upd_same, .inr (.inr ⟨3, rfl, ho.imp (fun z => z.mono ((ez.trans ey).trans (made0 hx hdx hne))) id, ((kx _ H6 ez rfl _).mono (ey.trans (made0 hx hdx hne)))⟩)⟩
    · refine q_if (b := false) (lt 3 false _ (by decide)) (fun z => nomatch z) (fun _ H2 e2 => ?_)
      refine s_if (b := true) (lt 6 true _ (by decide)) (fun _ H3 e3 => ?_) (fun z => nomatch z)
      refine s_set (g_ifT (eq 3 true _ (by decide)) fun H4 e4 => ?_)
      have ez : Ex H H4 := (((e1.trans e2).trans e3).trans e4)
      exact go_gm (vs := [v]) (ev_var rfl) (ez _ _ ha) rfl (ea_cons (ev_var rfl) ea_nil) fun Hy ey => ⟨a, v, q, rfl, hq.mono (ez.trans ey), .inl ⟨r, hn.mono (ez.trans ey), s1, s2, .inr ⟨h0, ((kx _ H4 ez rfl _).mono ey)⟩⟩⟩
    · have hi : i = 9 ∨ i = 10 ∨ i = 11 := by omega
      rcases hi with rfl | rfl | rfl
      · refine q_if (b := false) (lt 3 false _ (by decide)) (fun z => nomatch z) (fun _ H2 e2 => ?_)
        refine s_if (b := false) (lt 6 false _ (by decide)) (fun z => nomatch z) (fun _ H3 e3 => ?_)
        refine s_if (b := false) (lt 9 false _ (by decide)) (fun z => nomatch z) (fun _ H4 e4 => ?_)
        refine s_if (b := true) (lt 12 true _ (by decide)) (fun _ H5 e5 => ?_) (fun z => nomatch z)
        refine s_set (g_ifT (eq 9 true _ (by decide)) fun H6 e6 => ?_)
        have ez : Ex H H6 := (((((e1.trans e2).trans e3).trans e4).trans e5).trans e6)
        exact go_gf (vs := [v]) (ea_cons (ev_var rfl) ea_nil) fun Hy ey => ⟨v, rfl, .inr ⟨hb.mono (ez.trans ey), ((kx _ H6 ez rfl _).mono ey)⟩⟩
      · refine q_if (b := false) (lt 3 false _ (by decide)) (fun z => nomatch z) (fun _ H2 e2 => ?_)
        refine s_if (b := false) (lt 6 false _ (by decide)) (fun z => nomatch z) (fun _ H3 e3 => ?_)
        refine s_if (b := false) (lt 9 false _ (by decide)) (fun z => nomatch z) (fun _ H4 e4 => ?_)
        refine s_if (b := true) (lt 12 true _ (by decide)) (fun _ H5 e5 => ?_) (fun z => nomatch z)
        refine s_set (g_ifF (eq 9 false _ (by decide)) fun H6 e6 => ?_)
        refine g_ifT (eq 10 true _ (by decide)) fun H7 e7 => ?_
        have ez : Ex H H7 := ((((((e1.trans e2).trans e3).trans e4).trans e5).trans e6).trans e7)
        exact go_gf (vs := [v]) (ea_cons (ev_var rfl) ea_nil) fun Hy ey => ⟨v, rfl, .inr ⟨.inl (hb.mono (ez.trans ey)), ((kx _ H7 ez rfl _).mono ey)⟩⟩
      · refine q_if (b := false) (lt 3 false _ (by decide)) (fun z => nomatch z) (fun _ H2 e2 => ?_)
        refine s_if (b := false) (lt 6 false _ (by decide)) (fun z => nomatch z) (fun _ H3 e3 => ?_)
        refine s_if (b := false) (lt 9 false _ (by decide)) (fun z => nomatch z) (fun _ H4 e4 => ?_)
        refine s_if (b := true) (lt 12 true _ (by decide)) (fun _ H5 e5 => ?_) (fun z => nomatch z)
        refine s_set (g_ifF (eq 9 false _ (by decide)) fun H6 e6 => ?_)
        refine g_ifF (eq 10 false _ (by decide)) fun H7 e7 => ?_
        have ez : Ex H H7 := ((((((e1.trans e2).trans e3).trans e4).trans e5).trans e6).trans e7)
        exact go_gf (vs := [v]) (ea_cons (ev_var rfl) ea_nil) fun Hy ey => ⟨v, rfl, .inr ⟨.inl (hb.mono (ez.trans ey)), ((kx _ H7 ez rfl _).mono ey)⟩⟩
    · have hi : i = 10 ∨ i = 11 := by omega
      rcases hi with rfl | rfl
      · refine q_if (b := false) (lt 3 false _ (by decide)) (fun z => nomatch z) (fun _ H2 e2 => ?_)
        refine s_if (b := false) (lt 6 false _ (by decide)) (fun z => nomatch z) (fun _ H3 e3 => ?_)
        refine s_if (b := false) (lt 9 false _ (by decide)) (fun z => nomatch z) (fun _ H4 e4 => ?_)
        refine s_if (b := true) (lt 12 true _ (by decide)) (fun _ H5 e5 => ?_) (fun z => nomatch z)
        refine s_set (g_ifF (eq 9 false _ (by decide)) fun H6 e6 => ?_)
        refine g_ifT (eq 10 true _ (by decide)) fun H7 e7 => ?_
        have ez : Ex H H7 := ((((((e1.trans e2).trans e3).trans e4).trans e5).trans e6).trans e7)
        exact go_gf (vs := [v]) (ea_cons (ev_var rfl) ea_nil) fun Hy ey => ⟨v, rfl, .inr ⟨.inr (he.mono (ez.trans ey)), ((kx _ H7 ez rfl _).mono ey)⟩⟩
      · refine q_if (b := false) (lt 3 false _ (by decide)) (fun z => nomatch z) (fun _ H2 e2 => ?_)
        refine s_if (b := false) (lt 6 false _ (by decide)) (fun z => nomatch z) (fun _ H3 e3 => ?_)
        refine s_if (b := false) (lt 9 false _ (by decide)) (fun z => nomatch z) (fun _ H4 e4 => ?_)
        refine s_if (b := true) (lt 12 true _ (by decide)) (fun _ H5 e5 => ?_) (fun z => nomatch z)
        refine s_set (g_ifF (eq 9 false _ (by decide)) fun H6 e6 => ?_)
        refine g_ifF (eq 10 false _ (by decide)) fun H7 e7 => ?_
        have ez : Ex H H7 := ((((((e1.trans e2).trans e3).trans e4).trans e5).trans e6).trans e7)
        exact go_gf (vs := [v]) (ea_cons (ev_var rfl) ea_nil) fun Hy ey => ⟨v, rfl, .inr ⟨.inr (he.mono (ez.trans ey)), ((kx _ H7 ez rfl _).mono ey)⟩⟩
    · have hi : i = 12 ∨ i = 13 ∨ i = 14 := by omega
      rcases hi with rfl | rfl | rfl
      · refine q_if (b := false) (lt 3 false _ (by decide)) (fun z => nomatch z) (fun _ H2 e2 => ?_)
        refine s_if (b := false) (lt 6 false _ (by decide)) (fun z => nomatch z) (fun _ H3 e3 => ?_)
        refine s_if (b := false) (lt 9 false _ (by decide)) (fun z => nomatch z) (fun _ H4 e4 => ?_)
        refine s_if (b := false) (lt 12 false _ (by decide)) (fun z => nomatch z) (fun _ H5 e5 => ?_)
        refine s_set (g_ifT (eq 12 true _ (by decide)) fun H6 e6 => ?_)
        have ez : Ex H H6 := (((((e1.trans e2).trans e3).trans e4).trans e5).trans e6)
        refine g_gf1 (el_lst (ea_cons (ev_var rfl) (ea_cons (ev_var rfl) ea_nil)) (by show 2 ≤ 100000; decide) H6 (Ex.refl H6) _ fun p Hy hp ey h1 => ⟨.ref p, rfl, .inr ⟨.inr ⟨p, [.ref a, v], [true, false], rfl, .inl (sq_of h1), by show 2 ≤ 1000; decide, rfl, fun j x hj => ?_, rfl⟩, ((kx _ H6 ez rfl _).mono ey)⟩⟩)
        match j, hj with
        | 0, hj => cases hj; exact ⟨q, .inl ⟨a, rfl, hq.mono (ez.trans ey)⟩⟩
        | 1, hj => cases hj; exact ho.mono (ez.trans ey)
        | (j + 2), hj => simp at hj
      · refine q_if (b := false) (lt 3 false _ (by decide)) (fun z => nomatch z) (fun _ H2 e2 => ?_)
        refine s_if (b := false) (lt 6 false _ (by decide)) (fun z => nomatch z) (fun _ H3 e3 => ?_)
        refine s_if (b := false) (lt 9 false _ (by decide)) (fun z => nomatch z) (fun _ H4 e4 => ?_)
        refine s_if (b := false) (lt 12 false _ (by decide)) (fun z => nomatch z) (fun _ H5 e5 => ?_)
        refine s_set (g_ifF (eq 12 false _ (by decide)) fun H6 e6 => ?_)
        refine g_ifT (eq 13 true _ (by decide)) fun H7 e7 => ?_
        have ez : Ex H H7 := ((((((e1.trans e2).trans e3).trans e4).trans e5).trans e6).trans e7)
        refine g_gf1 (eu_tup (ea_cons (ev_var rfl) (ea_cons ev_c ea_nil)) (by show 2 ≤ 100000; decide) H7 (Ex.refl H7) _ fun p Hy hp ey h1 => ⟨.ref p, rfl, .inr ⟨.inl (.inr ⟨p, [v, .int 1], [false, true], rfl, .inr (st_of h1), by show 2 ≤ 1000; decide, rfl, fun j x hj => ?_, rfl⟩), ((kx _ H7 ez rfl _).mono ey)⟩⟩)
        match j, hj with
        | 0, hj => cases hj; exact ho.mono (ez.trans ey)
        | 1, hj => cases hj; exact ⟨1, .inr ⟨rfl, rfl⟩⟩
        | (j + 2), hj => simp at hj
      · refine q_if (b := false) (lt 3 false _ (by decide)) (fun z => nomatch z) (fun _ H2 e2 => ?_)
        refine s_if (b := false) (lt 6 false _ (by decide)) (fun z => nomatch z) (fun _ H3 e3 => ?_)
        refine s_if (b := false) (lt 9 false _ (by decide)) (fun z => nomatch z) (fun _ H4 e4 => ?_)
        refine s_if (b := false) (lt 12 false _ (by decide)) (fun z => nomatch z) (fun _ H5 e5 => ?_)
        refine s_set (g_ifF (eq 12 false _ (by decide)) fun H6 e6 => ?_)
        refine g_ifF (eq 13 false _ (by decide)) fun H7 e7 => ?_
        have ez : Ex H H7 := ((((((e1.trans e2).trans e3).trans e4).trans e5).trans e6).trans e7)
        refine g_gf1 (el_lst (ea_cons ev_c (ea_cons (ev_var rfl) (ea_cons (ev_var rfl) ea_nil))) (by show 3 ≤ 100000; decide) H7 (Ex.refl H7) _ fun p Hy hp ey h1 => ⟨.ref p, rfl, .inr ⟨.inl (.inr ⟨p, [.int 1, .ref a, v], [true, true, false], rfl, .inl (sq_of h1), by show 3 ≤ 1000; decide, rfl, fun j x hj => ?_, rfl⟩), ((kx _ H7 ez rfl _).mono ey)⟩⟩)
        match j, hj with
        | 0, hj => cases hj; exact ⟨1, .inr ⟨rfl, rfl⟩⟩
        | 1, hj => cases hj; exact ⟨q, .inl ⟨a, rfl, hq.mono (ez.trans ey)⟩⟩
        | 2, hj => cases hj; exact ho.mono (ez.trans ey)
        | (j + 3), hj => simp at hj
end
end K1

/-! # K01l -/
set_option Elab.async false
set_option linter.all false
set_option maxRecDepth 100000
set_option maxHeartbeats 4000000
namespace K1
open PySem PyProof.Rows L2 Pk Evl
/-! ### sizes and sums of ratios -/
theorem sz_addq {n m : Nat} {q r : Rat} (h : Sz n q) (k : Sz m r) : Sz (n + m + 1) (q + r) := by
  obtain ⟨b1, _, b3, _⟩ := sz_add h k
  rw [← add_q]
  exact sz_div (den0 q r) b1 (Nat.lt_of_lt_of_le b3 (Nat.pow_le_pow_right (by decide) (by omega)))
theorem sz_subq {n m : Nat} {q r : Rat} (h : Sz n q) (k : Sz m r) : Sz (n + m + 1) (q - r) := by
  obtain ⟨_, b1, b3, _⟩ := sz_add h k
  rw [← sub_q]
  exact sz_div (den0 q r) b1 (Nat.lt_of_lt_of_le b3 (Nat.pow_le_pow_right (by decide) (by omega)))
theorem sz_mulq {n m : Nat} {q r : Rat} (h : Sz n q) (k : Sz m r) : Sz (n + m) (q * r) := by
  obtain ⟨_, _, b3, b4, _⟩ := sz_add h k
  rw [← mul_q]
  exact sz_div (den0 q r) b4 b3
theorem over_den {q r : Rat} (h : r.num ≠ 0) : (q.den : Int) * r.num ≠ 0 := Int.mul_ne_zero (den1 q) h
theorem sz_overq {n m : Nat} {q r : Rat} (h : Sz n q) (k : Sz m r) (h0 : r.num ≠ 0) : Sz (n + m) (overQ q r) := by
  obtain ⟨_, _, b3, b4, b5, b6⟩ := sz_add h k
  refine sz_div (over_den h0) b5 ?_
  rw [Int.mul_comm]
  exact b6
theorem sz_abs {n : Nat} {q : Rat} (h : Sz n q) : Sz n (absQ q) := by
  unfold absQ
  split
  · exact sz_neg h
  · exact h
theorem over_mul {q r : Rat} (h : r.num ≠ 0) : overQ q r * r = q := by
  have e : r = Rat.divInt r.num (r.den : Int) := (self_q r).symm
  have e2 : overQ q r * r = overQ q r * Rat.divInt r.num (r.den : Int) := by rw [self_q]
  rw [e2]
  unfold overQ
  rw [Rat.divInt_mul_divInt]
  have e3 : q.num * (r.den : Int) * r.num = q.num * ((r.den : Int) * r.num) := Int.mul_assoc _ _ _
  have e4 : (q.den : Int) * r.num * (r.den : Int) = (q.den : Int) * ((r.den : Int) * r.num) := by rw [Int.mul_assoc, Int.mul_comm r.num]
  rw [e3, e4, Rat.divInt_mul_right (over_den h), self_q]
theorem sgn0 (q r : Rat) : decide (sgn (q.num * (r.den : Int) - r.num * (q.den : Int)) = 0) = decide (q = r) := by
  rw [decide_eq_decide, Rat.eq_iff_mul_eq_mul]
  unfold sgn
  split
  · constructor <;> intro z <;> omega
  · split
    · constructor <;> intro z <;> omega
    · constructor <;> intro z <;> omega
section
variable {P : Program} {w : World} {K : PySem.W.Frag} {mg : Str → Option Value} {base : Heap} {cPE cBR cR : Addr} {σ : L2.St} {H : Hp} {ta tb te : TE} {tA : TA} {q r : Rat} {W : WX}
/-! ### expressions that give ratios -/
def EQ (cR : Addr) (te : TE) (σ : L2.St) (H : Hp) (q : Rat) : Prop := EvP te σ H (fun v H2 => ∃ c, v = .ref c ∧ IsQ cR H2 c q)
def EN (cR : Addr) (te : TE) (σ : L2.St) (H : Hp) (q : Rat) : Prop := EvP te σ H (fun v H2 => Num cR H2 v q)
def EU (K : PySem.W.Frag) (te : TE) (σ : L2.St) (H : Hp) (q : Rat) : Prop := EvP te σ H (fun v H2 => ∃ p, v = .ref p ∧ SqT K H2 p (prV q))
theorem EQ.en (h : EQ cR te σ H q) : EN cR te σ H q := fun H1 e Q k => h H1 e Q fun v H2 e2 ⟨c, hv, hc⟩ => k v H2 e2 (.inl ⟨c, hv, hc⟩)
theorem eq_var {i : Nat} {a : Addr} (h : σ[i]? = some (some (.ref a))) (hq : IsQ cR H a q) : EQ cR (tVar i) σ H q := fun H1 e Q k => ev_var h H1 e Q fun H2 e2 => k _ H2 e2 ⟨a, rfl, hq.mono (e.trans e2)⟩
theorem en_var {i : Nat} {v : V} (h : σ[i]? = some (some v)) (hq : Num cR H v q) : EN cR (tVar i) σ H q := fun H1 e Q k => ev_var h H1 e Q fun H2 e2 => k _ H2 e2 (hq.mono (e.trans e2))
theorem en_c {n : Int} : EN cR (tC (.int n)) σ H (n : Rat) := fun H1 e Q k => k _ H1 (Ex.refl H1) (.inr ⟨rfl, rfl⟩)
theorem eu_var {i : Nat} {a : Addr} (h : σ[i]? = some (some (.ref a))) (hq : SqT K H a (prV q)) : EU K (tVar i) σ H q := fun H1 e Q k => ev_var h H1 e Q fun H2 e2 => k _ H2 e2 ⟨a, rfl, ex_t (e.trans e2) hq⟩
theorem eq_bin {nm : String} {f : Rat → Rat → Rat} (C : RC1 K cR) (hn : nm ∈ ["add", "sub", "mul"]) (h1 : EQ cR ta σ H q) (h2 : EN cR tb σ H r) (s1 : Sz 900 q) (s2 : Sz 900 r) : EQ cR (tOpS (rBinO K cR nm (spBin K cR cBR f) W) ta tb) σ H (f q r) := fun H1 e Q k =>
  h1 H1 e _ fun v H2 e2 ⟨c, hv, hc⟩ => h2 H2 (e.trans e2) _ fun u H3 e3 hu => by
    subst hv
    exact rBin_q C hn (hc.mono e3) hu s1 s2 fun d H4 e4 hd => k _ H4 ((e2.trans e3).trans e4) ⟨d, rfl, hd⟩
theorem eq_un {f : Rat → Rat} (h1 : EQ cR ta σ H q) (s1 : Sz 900 q) : EQ cR (tUn (rUnO cR (spUn cR f)) ta) σ H (f q) := fun H1 e Q k =>
  h1 H1 e _ fun v H2 e2 ⟨c, hv, hc⟩ => by
    subst hv
    obtain ⟨dx, hd⟩ := id hc
    exact ⟨c, dx, _, rfl, hd, c, q, rfl, hc, s1, fun d H4 e4 hd => k _ H4 (e2.trans e4) ⟨d, rfl, hd⟩⟩
theorem eq_abs {f : Rat → Rat} (h1 : EQ cR ta σ H q) (s1 : Sz 900 q) : EQ cR (tCB (fun xs H Q => ∃ x, xs = [x] ∧ rUnO cR (spUn cR f) x H Q) (tCons ta tNil)) σ H (f q) := fun H1 e Q k =>
  h1 H1 e _ fun v H2 e2 ⟨c, hv, hc⟩ => by
    subst hv
    obtain ⟨dx, hd⟩ := id hc
    exact ⟨.ref c, rfl, c, dx, _, rfl, hd, c, q, rfl, hc, s1, fun d H4 e4 hd => k _ H4 (e2.trans e4) ⟨d, rfl, hd⟩⟩
theorem eq_over (h1 : EQ cR ta σ H q) (h2 : EN cR tb σ H r) (s1 : Sz 900 q) (s2 : Sz 900 r) (h0 : r.num ≠ 0) : EQ cR (tGM cR "over" (spOver K cR cBR) [] W ta (tCons tb tNil)) σ H (overQ q r) := fun H1 e Q k =>
  h1 H1 e _ fun v H2 e2 ⟨c, hv, hc⟩ => by
    subst hv
    obtain ⟨dx, hd⟩ := id hc
    exact ⟨c, dx, _, rfl, hd, rfl, h2 H2 (e.trans e2) _ fun u H3 e3 hu => ⟨c, u, q, rfl, hc.mono e3, .inl ⟨r, hu, s1, s2, .inl ⟨h0, fun d H4 e4 hd => k _ H4 ((e2.trans e3).trans e4) ⟨d, rfl, hd⟩⟩⟩⟩⟩
theorem ev_cmp {g : Int → V} {m : Str} (hm : (ratF q.num (q.den : Int)).lookup m = none) (h1 : EQ cR ta σ H q) (h2 : EN cR tb σ H r) (s1 : Sz 900 q) (s2 : Sz 900 r) : Ev (tGM cR m (spCmp K cR cBR g) [] W ta (tCons tb tNil)) σ H (g (sgn (q.num * (r.den : Int) - r.num * (q.den : Int)))) := fun H1 e Q k =>
  h1 H1 e _ fun v H2 e2 ⟨c, hv, hc⟩ => by
    subst hv
    obtain ⟨dx, hd⟩ := id hc
    exact ⟨c, dx, _, rfl, hd, hm, h2 H2 (e.trans e2) _ fun u H3 e3 hu => ⟨c, u, q, rfl, hc.mono e3, .inl ⟨r, hu, s1, s2, fun H4 e4 => k H4 ((e2.trans e3).trans e4)⟩⟩⟩
theorem ev_eqQ (C : RC1 K cR) (h1 : EQ cR ta σ H q) (h2 : EN cR tb σ H r) : Ev (tOp (rEqO K cR (spEqQ K cR)) ta tb) σ H (.bl (decide (q = r))) := fun H1 e Q k =>
  h1 H1 e _ fun v H2 e2 ⟨c, hv, hc⟩ => h2 H2 (e.trans e2) _ fun u H3 e3 hu => by
    subst hv
    obtain ⟨dx, hd⟩ := hc.mono e3
    obtain ⟨t, ty, _, hn⟩ := num_ty (nm := "add") C (by simp) hu
    exact ⟨c, dx, _, t, rfl, hd, ty, hn, c, u, q, _, rfl, ⟨dx, hd⟩, .inl ⟨r, hu, rfl⟩, fun H4 e4 => k H4 ((e2.trans e3).trans e4)⟩
theorem ev_neQ (C : RC1 K cR) (h1 : EQ cR ta σ H q) (h2 : EN cR tb σ H r) : Ev (tOp (rNeO K cR (spEqQ K cR)) ta tb) σ H (.bl (!decide (q = r))) := fun H1 e Q k =>
  h1 H1 e _ fun v H2 e2 ⟨c, hv, hc⟩ => h2 H2 (e.trans e2) _ fun u H3 e3 hu => by
    subst hv
    obtain ⟨dx, hd⟩ := hc.mono e3
    obtain ⟨t, ty, _, hn⟩ := num_ty (nm := "add") C (by simp) hu
    exact ⟨c, dx, _, t, rfl, hd, ty, hn, c, u, q, _, rfl, ⟨dx, hd⟩, .inl ⟨r, hu, rfl⟩, fun H4 e4 => ⟨_, rfl, k H4 ((e2.trans e3).trans e4)⟩⟩
theorem ev_eqX {v : V} (C : RC1 K cR) (h1 : EQ cR ta σ H q) (h2 : Ev tb σ H v) (ho : OddQ K H v) : Ev (tOp (rEqO K cR (spEqQ K cR)) ta tb) σ H (.bl false) := fun H1 e Q k =>
  h1 H1 e _ fun u H2 e2 ⟨c, hv, hc⟩ => h2 H2 (e.trans e2) _ fun H3 e3 => by
    subst hv
    obtain ⟨dx, hd⟩ := hc.mono e3
    have ho3 := ho.mono ((e.trans e2).trans e3)
    obtain ⟨t, ty, _, hn⟩ := odd_ty (nm := "add") C (by simp) ho3
    exact ⟨c, dx, _, t, rfl, hd, ty, hn, c, v, q, _, rfl, ⟨dx, hd⟩, .inr ⟨ho3, rfl⟩, fun H4 e4 => k H4 ((e2.trans e3).trans e4)⟩
theorem ev_neX {v : V} (C : RC1 K cR) (h1 : EQ cR ta σ H q) (h2 : Ev tb σ H v) (ho : OddQ K H v) : Ev (tOp (rNeO K cR (spEqQ K cR)) ta tb) σ H (.bl true) := fun H1 e Q k =>
  h1 H1 e _ fun u H2 e2 ⟨c, hv, hc⟩ => h2 H2 (e.trans e2) _ fun H3 e3 => by
    subst hv
    obtain ⟨dx, hd⟩ := hc.mono e3
    have ho3 := ho.mono ((e.trans e2).trans e3)
    obtain ⟨t, ty, _, hn⟩ := odd_ty (nm := "add") C (by simp) ho3
    exact ⟨c, dx, _, t, rfl, hd, ty, hn, c, v, q, _, rfl, ⟨dx, hd⟩, .inr ⟨ho3, rfl⟩, fun H4 e4 => ⟨false, rfl, k H4 ((e2.trans e3).trans e4)⟩⟩
theorem eu_low {E : L2.St → XK} {t b : Int} (h : EvA tA σ H [.int t, .int b]) (h0 : b ≠ 0) (hb : b.natAbs < 2 ^ 640) (hq : Rat.divInt t b = q) : EU K (tCallSD spLow [] E tA) σ H q := fun H1 e Q k => h H1 e _ fun H2 e2 =>
  ⟨t, b, rfl, h0, hb, fun p H3 hp e3 h3 => k _ H3 (e2.trans e3) ⟨p, rfl, by rw [← hq]; exact st_of h3⟩⟩
theorem ev_isQ {E : L2.St → XK} (h1 : EQ cR ta σ H q) (h2 : EU K tb σ H q) (s : Sz 1000 q) : Ev (tCallSD (spIs K cR) [] E (tCons ta (tCons tb tNil))) σ H (.bl true) := fun H1 e Q k =>
  h1 H1 e _ fun v H2 e2 ⟨c, hv, hc⟩ => h2 H2 (e.trans e2) _ fun u H3 e3 ⟨p, hu, hp⟩ => by
    subst hv
    subst hu
    exact ⟨c, p, q, rfl, hc.mono e3, hp, s, fun H4 e4 => k H4 ((e2.trans e3).trans e4)⟩
/-- not .., of what is true -/
theorem et_no (h : Ev te σ H (.bl true)) : EvT (tNot (tB te)) σ H false := et_not (a := true) (et_B h)
theorem q_unp {a : Addr} {x y : V} {i j : Nat} {D : Ends} {tz : TS} (h : Ev te σ H (.ref a)) (hs : SqT K H a [x, y]) (k : ∀ H1, Ex H H1 → tz D ((σ.set i (some x)).set j (some y)) H1) : tSeq (tAsg te (gTup K 2 (gCons (gName i) (gCons (gName j) gNil)))) tz D σ H :=
  h H (Ex.refl H) _ fun H1 e1 => ⟨a, [x, y], rfl, ex_t e1 hs, rfl, x, [y], rfl, y, [], rfl, rfl, k H1 e1⟩
end
end K1

/-! # K01m -/
set_option Elab.async false
set_option linter.all false
set_option maxRecDepth 100000
set_option maxHeartbeats 4000000
namespace K1
open PySem PyProof.Rows L2 Pk Evl
section
variable {P : Program} {w : World} {K : PySem.W.Frag} {mg : Str → Option Value} {base : Heap} {cPE cBR cR : Addr} {σ : L2.St} {H : Hp}
/-! ### _law_two_right -/
def spTwo (K : PySem.W.Frag) (cR : Addr) : Sp := fun vs H Q _ => ∃ (a p t : Addr) (v : V) (q r : Rat), vs = [.ref a, .ref p, v, .ref t] ∧ IsQ cR H a q ∧ SqT K H p (prV q) ∧ Num cR H v r ∧ SqT K H t (prV r) ∧ Sz 200 q ∧ Sz 200 r ∧ ∀ H', Ex H H' → Q (.bl true) H'
abbrev s_two : Stmt := top 30
theorem sc_two : FnScope ["_law_one", "_law_first", "_law_other", "_law_second", "_law_a", "_law_b", "_law_c", "_law_d", "_law_order"] ["_law_one", "_law_first", "_law_other", "_law_second"] (defScope s_two) := ⟨rfl, rfl, rfl, by decide +kernel, rfl, by decide +kernel, by decide +kernel⟩
theorem ok_two {f : Addr} {fd : FuncData} (F : Fun K "_law_two_right" "_law_two_right" s_two f fd) (B : Bj mg) (C : RC1 K cR) (hne : PySem.W.findIn K (.ref cR) "__ne__" = some (some (.builtin "object.__ne__"))) (hm : PySem.W.mroIn K cR (.type "object") = some true)
    (GA : OM P w K mg base 6 cR "__add__" (spBin K cR cBR (· + ·))) (GSu : OM P w K mg base 6 cR "__sub__" (spBin K cR cBR (· - ·))) (GMu : OM P w K mg base 6 cR "__mul__" (spBin K cR cBR (· * ·))) (GEq : OM P w K mg base 2 cR "__eq__" (spEqQ K cR))
    (GOv : GM P w K mg base 6 cR "over" (spOver K cR cBR) []) (GCm : GM P w K mg base 6 cR "compared" (spCmp K cR cBR V.int) []) (GBe : GM P w K mg base 7 cR "is_below" (spCmp K cR cBR (fun i => .bl (decide (i = -1)))) [])
    (GIs : GF P w K mg base 6 "_law_is" (spIs K cR) []) (GLo : GF P w K mg base 1 "_law_low" spLow []) (GPa : GF P w K mg base 10 "_law_part" (spPart K cR) []) :
    FnG P w K mg base 11 f fd ["_law_one", "_law_first", "_law_other", "_law_second"] (spTwo K cR) := by
  refine okG F sc_two (fun vs H Q E h => ?_) (fun cdv A outer s H vs Q E hr h => ?_)
  · obtain ⟨a, p, t, v, q, r, rfl, _⟩ := h
    rfl
  · obtain ⟨a, p, t, v, q, r, rfl, hq, hp, hn, ht, s1, s2, k⟩ := h
    have nd := sc_two.nd
    have h1 := hr.mono (j := 1) (by decide)
    have h2 := hr.mono (j := 2) (by decide)
    have h3 := hr.mono (j := 3) (by decide)
    have h6 := hr.mono (j := 6) (by decide)
    have h7 := hr.mono (j := 7) (by decide)
    have h10 := hr.mono (j := 10) (by decide)
    refine ⟨_, (pss_cons (ps_asg (pv 1) (pg_tup rfl (pgs_cons (pg_name (i := 4) nd rfl (Or.inl rfl)) (pgs_cons (pg_name (i := 5) nd rfl (Or.inl rfl)) pgs_nil))))
  (pss_cons (ps_asg (pv 3) (pg_tup rfl (pgs_cons (pg_name (i := 6) nd rfl (Or.inl rfl)) (pgs_cons (pg_name (i := 7) nd rfl (Or.inl rfl)) pgs_nil))))
  (pss_cons (ps_if (PW.pt (pw_or (pt_not (pt_val (pe_gf GIs h6 (takes_of rfl rfl rfl rfl) (by rfl) (pa_cons (pe_opS (op_binO (op := .Add) GA C.self h6 (takes_of rfl rfl rfl rfl)) (pv 0) (pv 2)) (pa_cons (pe_gf GLo h1 (takes_of rfl rfl rfl rfl) (by rfl) (pa_cons (pe_op op_add (pe_op op_mulW (pv 4) (pv 7)) (pe_op op_mulW (pv 6) (pv 5))) (pa_cons (pe_op op_mulW (pv 5) (pv 7)) pa_nil))) pa_nil))))) (pw_or1 (pt_not (pt_val (pe_gf GIs h6 (takes_of rfl rfl rfl rfl) (by rfl) (pa_cons (pe_opS (op_binO (op := .Sub) GSu C.self h6 (takes_of rfl rfl rfl rfl)) (pv 0) (pv 2)) (pa_cons (pe_gf GLo h1 (takes_of rfl rfl rfl rfl) (by rfl) (pa_cons (pe_op op_sub (pe_op op_mulW (pv 4) (pv 7)) (pe_op op_mulW (pv 6) (pv 5))) (pa_cons (pe_op op_mulW (pv 5) (pv 7)) pa_nil))) pa_nil))))))))
    (pss_one (ps_ret pe_bl))
    pss_nil)
  (pss_cons (ps_if (pt_not (pt_val (pe_gf GIs h6 (takes_of rfl rfl rfl rfl) (by rfl) (pa_cons (pe_opS (op_binO (op := .Mult) GMu C.self h6 (takes_of rfl rfl rfl rfl)) (pv 0) (pv 2)) (pa_cons (pe_gf GLo h1 (takes_of rfl rfl rfl rfl) (by rfl) (pa_cons (pe_op op_mulW (pv 4) (pv 6)) (pa_cons (pe_op op_mulW (pv 5) (pv 7)) pa_nil))) pa_nil)))))
    (pss_one (ps_ret pe_bl))
    pss_nil)
  (pss_cons (ps_set (i := 8) nd rfl (Or.inl rfl) (pe_ifExp (pt_cmpR op_lt (pe_op op_mulW (pv 4) (pv 7)) (pe_op op_mulW (pv 6) (pv 5)) (nomark _)) (pe_un un_neg pe_int) (pe_ifExp (pt_cmpR op_gt (pe_op op_mulW (pv 4) (pv 7)) (pe_op op_mulW (pv 6) (pv 5)) (nomark _)) pe_int pe_int)))
  (pss_cons (ps_if (pt_cmpR op_ne (pe_callB (call_reprD h3) (by rfl) B.repr Boot.«repr» (pa_cons (pe_tup (pa_cons (pe_gm (pv 0) GCm h6 (takes_of rfl rfl rfl rfl) (pa_cons (pv 2) pa_nil)) (pa_cons (pe_gm (pv 0) GBe h7 (takes_of rfl rfl rfl rfl) (pa_cons (pv 2) pa_nil)) pa_nil))) pa_nil)) (pe_callB (call_reprD h3) (by rfl) B.repr Boot.«repr» (pa_cons (pe_tup (pa_cons (pv 8) (pa_cons (pe_cmpR op_eq (pv 8) (pe_un un_neg pe_int) (nomark _)) pa_nil))) pa_nil)) (nomark _))
    (pss_one (ps_ret pe_bl))
    pss_nil)
  (pss_cons (ps_if (pt_cmpR op_ne (pe_callB (call_reprD h3) (by rfl) B.repr Boot.«repr» (pa_cons (pe_tup (pa_cons (pe_cmpR (op_eqO GEq h2) (pv 0) (pv 2) (nomark _)) (pa_cons (pe_cmpR (op_neO GEq hne hm h3) (pv 0) (pv 2) (nomark _)) pa_nil))) pa_nil)) (pe_callB (call_reprD h3) (by rfl) B.repr Boot.«repr» (pa_cons (pe_tup (pa_cons (pe_cmpR op_eq (pv 8) pe_int (nomark _)) (pa_cons (pe_cmpR op_ne (pv 8) pe_int (nomark _)) pa_nil))) pa_nil)) (nomark _))
    (pss_one (ps_ret pe_bl))
    pss_nil)
  (pss_cons (ps_if (pt_cmpR op_eq (pv 6) pe_int (nomark _))
    (pss_one (ps_ret (pe_cmpR op_eq (pe_gf GPa h10 (takes_of rfl rfl rfl rfl) (by rfl) (pa_cons pe_int (pa_cons (pv 0) (pa_cons (pv 2) pa_nil)))) pe_str (nomark _))))
    pss_nil)
  (pss_one (ps_ret (pe_and (pe_gf GIs h6 (takes_of rfl rfl rfl rfl) (by rfl) (pa_cons (pe_gm (pv 0) GOv h6 (takes_of rfl rfl rfl rfl) (pa_cons (pv 2) pa_nil)) (pa_cons (pe_gf GLo h1 (takes_of rfl rfl rfl rfl) (by rfl) (pa_cons (pe_op op_mulW (pv 4) (pv 7)) (pa_cons (pe_op op_mulW (pv 5) (pv 6)) pa_nil))) pa_nil))) (pe_one (pe_cmpR (op_eqO GEq h2) (pe_opS (op_binO (op := .Mult) GMu C.self h6 (takes_of rfl rfl rfl rfl)) (pe_gm (pv 0) GOv h6 (takes_of rfl rfl rfl rfl) (pa_cons (pv 2) pa_nil)) (pv 2)) (pv 0) (nomark _)))))))))))))), ?_⟩
    have z1 : Sz 900 q := s1.mono (by decide)
    have z2 : Sz 900 r := s2.mono (by decide)
    obtain ⟨_, _, b3, _, _, b6⟩ := sz_add s1 s2
    have up : ∀ {n : Nat}, n < 2 ^ (200 + 200) → n < 2 ^ 640 := fun h => Nat.lt_of_lt_of_le h (Nat.pow_le_pow_right (by decide) (by decide))
    refine q_unp (ev_var rfl) hp fun H1 e1 => ?_
    refine q_unp (ev_var rfl) (ex_t e1 ht) fun H2 e2 => ?_
    have e12 := e1.trans e2
    have m47 : ∀ (σ' : L2.St) (H' : Hp) (i j : Nat), σ'[i]? = some (some (.int q.num)) → σ'[j]? = some (some (.int (r.den : Int))) → Ev (tOp (rI CMulW fun i j => .int (i * j)) (tVar i) (tVar j)) σ' H' (.int (q.num * (r.den : Int))) := fun σ' H' i j x y => ev_op (ev_var x) (ev_var y) (rv_I (mulw z1.1 (szd z2)))
    have m65 : ∀ (σ' : L2.St) (H' : Hp) (i j : Nat), σ'[i]? = some (some (.int r.num)) → σ'[j]? = some (some (.int (q.den : Int))) → Ev (tOp (rI CMulW fun i j => .int (i * j)) (tVar i) (tVar j)) σ' H' (.int (r.num * (q.den : Int))) := fun σ' H' i j x y => ev_op (ev_var x) (ev_var y) (rv_I (mulw z2.1 (szd z1)))
    have m57 : ∀ (σ' : L2.St) (H' : Hp) (i j : Nat), σ'[i]? = some (some (.int (q.den : Int))) → σ'[j]? = some (some (.int (r.den : Int))) → Ev (tOp (rI CMulW fun i j => .int (i * j)) (tVar i) (tVar j)) σ' H' (.int ((q.den : Int) * (r.den : Int))) := fun σ' H' i j x y => ev_op (ev_var x) (ev_var y) (rv_I (mulw (szd z1) (szd z2)))
    have hqx : ∀ H', Ex H2 H' → IsQ cR H' a q := fun H' e => hq.mono (e12.trans e)
    have hnx : ∀ H', Ex H2 H' → Num cR H' v r := fun H' e => hn.mono (e12.trans e)
    refine q_when (b := false) (et_is (et_or (a := false) (b := false) (et_no (ev_isQ (q := q + r) (eq_bin (nm := "add") (f := (· + ·)) C (by simp) (eq_var rfl (hqx _ (Ex.refl _))) (en_var rfl (hnx _ (Ex.refl _))) z1 z2) (eu_low (ea_cons (ev_op (m47 _ _ _ _ rfl rfl) (m65 _ _ _ _ rfl rfl) rv_I0) (ea_cons (m57 _ _ _ _ rfl rfl) ea_nil)) (den0 q r) (up b3) (add_q q r)) ((sz_addq s1 s2).mono (by decide)))) fun _ => et_no (ev_isQ (q := q - r) (eq_bin (nm := "sub") (f := (· - ·)) C (by simp) (eq_var rfl (hqx _ (Ex.refl _))) (en_var rfl (hnx _ (Ex.refl _))) z1 z2) (eu_low (ea_cons (ev_op (m47 _ _ _ _ rfl rfl) (m65 _ _ _ _ rfl rfl) rv_I0) (ea_cons (m57 _ _ _ _ rfl rfl) ea_nil)) (den0 q r) (up b3) (sub_q q r)) ((sz_subq s1 s2).mono (by decide)))) rfl) (fun z => nomatch z) (fun _ H3 e3 => ?_)
    refine q_when (b := false) (et_no (ev_isQ (q := q * r) (eq_bin (nm := "mul") (f := (· * ·)) C (by simp) (eq_var rfl (hqx _ e3)) (en_var rfl (hnx _ e3)) z1 z2) (eu_low (ea_cons (ev_op (ev_var rfl) (ev_var rfl) (rv_I (mulw z1.1 z2.1))) (ea_cons (m57 _ _ _ _ rfl rfl) ea_nil)) (den0 q r) (up b3) (mul_q q r)) ((sz_mulq s1 s2).mono (by decide)))) (fun z => nomatch z) (fun _ H4 e4 => ?_)
    have e34 := e3.trans e4
    generalize ho : sgn (q.num * (r.den : Int) - r.num * (q.den : Int)) = o
    refine q_asg (v := .int o) (ev_if (et_test (ev_op (m47 _ _ _ _ rfl rfl) (m65 _ _ _ _ rfl rfl) rv_I0)) (fun hb => ev_is (ev_un ev_c ru_neg) ?_) (fun hb => ev_if (et_test (ev_op (m47 _ _ _ _ rfl rfl) (m65 _ _ _ _ rfl rfl) rv_I0)) (fun hb2 => ev_is ev_c ?_) (fun hb2 => ev_is ev_c ?_))) fun H5 e5 => ?_
    · have z := of_decide_eq_true hb
      rw [← ho]
      unfold sgn
      rw [if_pos (by omega)]
    · have z := of_decide_eq_true hb2
      rw [← ho]
      unfold sgn
      rw [if_neg (by omega), if_pos (by omega)]
    · have z := of_decide_eq_false hb
      have z2 := of_decide_eq_false hb2
      rw [← ho]
      unfold sgn
      rw [if_neg (by omega), if_neg (by omega)]
    have e35 := e34.trans e5
    have hoz : o.natAbs < 2 ^ 1000 := by rw [← ho]; exact sgn_lt _
    refine q_when (b := false) (et_is (et_test (ev_op (ev_reprTup (K := K) (ea_cons (ev_is (w := .int o) (ev_cmp (g := V.int) rfl (eq_var rfl (hqx _ e35)) (en_var rfl (hnx _ e35)) z1 z2) (by rw [ho])) (ea_cons (ev_is (w := .bl (decide (o = -1))) (ev_cmp (g := fun i => .bl (decide (i = -1))) rfl (eq_var rfl (hqx _ e35)) (en_var rfl (hnx _ e35)) z1 z2) (by rw [ho])) ea_nil)) fun u H4 h4 => rc_reprP (st_of h4) (fun _ => .int _) (fun _ => .bl _) (int_shown hoz) (bl_shown _) (int_ok hoz) rfl rfl rfl rfl rfl) (ev_reprTup (K := K) (ea_cons (ev_var rfl) (ea_cons (ev_is (w := .bl (decide (o = -1))) (ev_op (ev_var rfl) (ev_un ev_c ru_neg) (rv_eq rfl)) (by rw [intEq])) ea_nil)) fun u H4 h4 => rc_reprP (st_of h4) (fun _ => .int _) (fun _ => .bl _) (int_shown hoz) (bl_shown _) (int_ok hoz) rfl rfl rfl rfl rfl) (rv_ne rfl))) (by simp)) (fun z => nomatch z) (fun _ H6 e6 => ?_)
    have e36 := e35.trans e6
    have hs0 : decide (o = 0) = decide (q = r) := by rw [← ho]; exact sgn0 q r
    refine q_when (b := false) (et_is (et_test (ev_op (ev_reprTup (K := K) (ea_cons (ev_eqQ C (eq_var rfl (hqx _ e36)) (en_var rfl (hnx _ e36))) (ea_cons (ev_neQ C (eq_var rfl (hqx _ e36)) (en_var rfl (hnx _ e36))) ea_nil)) fun u H4 h4 => rc_reprP (st_of h4) (fun _ => .bl _) (fun _ => .bl _) (bl_shown _) (bl_shown _) rfl rfl rfl rfl rfl rfl) (ev_reprTup (K := K) (ea_cons (ev_is (w := .bl (decide (q = r))) (ev_op (ev_var rfl) ev_c (rv_eq rfl)) (by rw [intEq, hs0])) (ea_cons (ev_is (w := .bl (!decide (q = r))) (ev_op (ev_var rfl) ev_c (rv_ne rfl)) (by rw [intEq, hs0])) ea_nil)) fun u H4 h4 => rc_reprP (st_of h4) (fun _ => .bl _) (fun _ => .bl _) (bl_shown _) (bl_shown _) rfl rfl rfl rfl rfl rfl) (rv_ne rfl))) (by simp)) (fun z => nomatch z) (fun _ H7 e7 => ?_)
    have e37 := e36.trans e7
    refine q_when (b := decide (r.num = 0)) (et_is (et_test (ev_op (ev_var rfl) ev_c (rv_eq rfl))) (intEq _ _)) (fun hb H8 e8 => ?_) (fun hb H8 e8 => ?_)
    · have h0 := of_decide_eq_true hb
      have e38 := e37.trans e8
      refine s_ret (v := .bl true) (ev_is (ev_op (ev_gf (ea_cons ev_c (ea_cons (ev_var rfl) (ea_cons (ev_var rfl) ea_nil))) (z := .str "zero") fun H9 e9 Q9 k9 _ => ⟨a, v, q, 3, "zero", rfl, hqx _ (e38.trans e9), .inr (.inr (.inr (.inr (.inl ⟨rfl, ⟨r, hnx _ (e38.trans e9), z1, z2, h0⟩, rfl⟩)))), k9⟩) ev_c (rv_eq rfl)) (by simp)) fun H9 e9 => k H9 (e12.trans (e38.trans e9))
    · have h0 := of_decide_eq_false hb
      have e38 := e37.trans e8
      have b7 : ((q.den : Int) * r.num).natAbs < 2 ^ 640 := by rw [Int.mul_comm]; exact up b6
      have EO : ∀ W : WX, EQ cR (tGM cR "over" (spOver K cR cBR) [] W (tVar 0) (tCons (tVar 2) tNil)) [some (.ref a), some (.ref p), some v, some (.ref t), some (.int q.num), some (.int (q.den : Int)), some (.int r.num), some (.int (r.den : Int)), some (.int o)] H8 (overQ q r) := fun W => eq_over (eq_var rfl (hqx _ e38)) (en_var rfl (hnx _ e38)) z1 z2 h0
      refine s_ret (v := .bl true) (ev_is (ev_andV (ev_isQ (EO _) (eu_low (ea_cons (m47 _ _ _ _ rfl rfl) (ea_cons (ev_op (ev_var rfl) (ev_var rfl) (rv_I (mulw (szd z1) z2.1))) ea_nil)) (over_den h0) b7 rfl) ((sz_overq s1 s2 h0).mono (by decide))) fun _ => ev_eqQ C (eq_bin (nm := "mul") (f := (· * ·)) C (by simp) (EO _) (en_var rfl (hnx _ e38)) ((sz_overq s1 s2 h0).mono (by decide)) z2) (EQ.en (eq_var rfl (hqx _ e38)))) (by simp [over_mul h0])) fun H9 e9 => k H9 (e12.trans (e38.trans e9))
end
end K1

/-! # PkKw -/
set_option Elab.async false
set_option linter.all false
set_option maxRecDepth 100000
set_option maxHeartbeats 4000000
namespace Pk
open PySem PySem.Spec PyProof.Rows L2 Evl
/-! ## calls by keywords alone -/
/-- a def of the module, called with keywords alone -/
structure GFK (P : Program) (w : World) (K : PySem.W.Frag) (mg : Str → Option Value) (base : Heap) (k : Nat) (x : Str) (sp : Sp) (ks : List Str) (gV : List V → List V → List V) : Prop where
  ex : ∃ f, mg x = some (.ref f) ∧ FdK P w K mg base k f sp ks gV
/-- a class called x, at C, called with keywords alone -/
structure GCK (P : Program) (w : World) (K : PySem.W.Frag) (mg : Str → Option Value) (base : Heap) (k : Nat) (x : Str) (C : Addr) (sp : Sp) (ks : List Str) (gV : List V → List V → List V) : Prop where
  gl : mg x = some (.ref C)
  ex : ∃ (f : Addr) (fd : FuncData) (ps : List Str) (g : List Value → List Value → List Value), Mk K C f ∧ FnG P w K mg base k f fd ps sp ∧ KBn K fd ps 1 ks g gV
section
variable {X : Cx} {k : Nat} {C : Addr} {sp : Sp} {W : WX} {x : Str} {p pos : Pos} {t : TA} {kws : List Keyword} {ks : List Str} {gV : List V → List V → List V}
theorem pe_gfK (G : GFK X.prog X.w X.K X.mg X.base k x sp ks gV) (hr : Rm k X.A) (tk : Takes X W) (hg : Gl X x) (ha : PK X kws t) (hdb : (x == ("__debug__" : Str)) = false := by decide)
    (hall : (backToKw pos (keywordEach kws X.env)).all (·.1.isSome) = true := by rfl) (hks : (backToKw pos (keywordEach kws X.env)).filterMap (·.1) = ks := by rfl)
    (hpl : ((backTo pos (starEach [] X.env)).any (·.1) || (backToKw pos (keywordEach kws X.env)).any (·.1.isNone)) = false := by rfl) :
    PE X (.Call (.Name x p) [] kws pos) (tGSK sp gV W t) := by
  obtain ⟨f, hm, F⟩ := G.ex
  refine ⟨fun pins s σ H Q I h => ?_⟩
  refine wpAny_Call_Name_kw (ld_glob I hg hm ?_ hdb)
  refine PySem.W.callWith_KW0 (first := []) (h₀ := X.base) I.ok.mod.kin F.kp hall (thn (ha.run pos pins s σ H _ I h) fun ws s2 ⟨zs, H2, I2, rz, q2⟩ => ⟨I2.kIn, ?_⟩) hpl
  rw [hks]
  exact run_fdK (us := []) (vs := []) F hr tk I2 .nil rz q2
def tGCK (C : Addr) (m : Nat) (sp : Sp) (gV : List V → List V → List V) (W : WX) (t : TA) : TE := fun σ H Q => t σ H fun zs H1 => zs.length = m ∧
  ∀ x dx, H1 x = none → H1 dx = none → dx ≠ x → sp (gV [.ref x] zs) (upd (upd H1 dx (.own x)) x (.ins C dx [])) (fun v H2 => v = .non ∧ Q (.ref x) H2) (WE W σ)
theorem run_mkK {pins : List (Addr × Obj)} {σ : L2.St} {H : Hp} {s : Shared} {Q : VK} {ws : List Value} {zs : List V} (G : GCK X.prog X.w X.K X.mg X.base k x C sp ks gV) (hr : Rm (k + 1) X.A) (tk : Takes X W) (I : Inv X pins σ H s) (rz : Vals zs ws) (l2 : zs.length = ks.length)
    (h : ∀ x dx, H x = none → H dx = none → dx ≠ x → sp (gV [.ref x] zs) (upd (upd H dx (.own x)) x (.ins C dx [])) (fun v H2 => v = .non ∧ Q (.ref x) H2) (WE W σ)) :
    wpAny (model X.prog X.w) X.A (call (.ref C) [] (ks.zip ws)) (EP X pins σ Q) X.xe s := by
  obtain ⟨f, fd, ps, g, M, F, hb⟩ := G.ex
  have hq := h (s.heap.objs.size + 1) s.heap.objs.size (I.hok.fresh (Nat.le_succ _)) (I.hok.fresh (Nat.le_refl _)) (Nat.ne_of_lt (Nat.lt_succ_self _))
  have I2 := Inv.made (C := C) I
  have r1 : Vals [V.ref (s.heap.objs.size + 1)] [Value.ref (s.heap.objs.size + 1)] := .cons rfl .nil
  have r2 := hb.rel r1 rz
  have e2 : ws.length = ks.length := rz.length.symm.trans l2
  refine wpAny_call (make_map (f := f) I.kIn M.makes M.init (beq_iff_eq.mp M.fn) (codeAny_mono (F.run _ X.stack _ _ ⟨[Value.ref (s.heap.objs.size + 1)], ks.zip ws⟩ (g [Value.ref (s.heap.objs.size + 1)] ws) _ _ (WE W σ) (hr.make C [] (ks.zip ws))
    (I2.env0.make C [] (ks.zip ws)) (hb.to _ [Value.ref (s.heap.objs.size + 1)] ws I2.kIn rfl e2) r2 hq) fun r s' hq' => ?_))
  cases r with
  | error e => exact passAt tk σ pins _ _ e s' I2 hq'
  | ok fl =>
    cases fl with
    | ret u =>
      obtain ⟨v, H', I3, rv, ev, q3⟩ := I2.after hq'
      subst ev
      exact ⟨rv, ⟨V.ref (s.heap.objs.size + 1), H', I3, rfl, q3⟩⟩
    | next => exact False.elim hq'
    | brk => exact False.elim hq'
    | cont => exact False.elim hq'
theorem pe_gcK (G : GCK X.prog X.w X.K X.mg X.base k x C sp ks gV) (hr : Rm (k + 1) X.A) (tk : Takes X W) (hg : Gl X x) (ha : PK X kws t) (hdb : (x == ("__debug__" : Str)) = false := by decide)
    (hall : (backToKw pos (keywordEach kws X.env)).all (·.1.isSome) = true := by rfl) (hks : (backToKw pos (keywordEach kws X.env)).filterMap (·.1) = ks := by rfl)
    (hpl : ((backTo pos (starEach [] X.env)).any (·.1) || (backToKw pos (keywordEach kws X.env)).any (·.1.isNone)) = false := by rfl) :
    PE X (.Call (.Name x p) [] kws pos) (tGCK C ks.length sp gV W t) := by
  obtain ⟨f, fd, ps, g, M, F, hb⟩ := id G.ex
  refine ⟨fun pins s σ H Q I h => ?_⟩
  refine wpAny_Call_Name_kw (ld_glob I hg G.gl ?_ hdb)
  refine PySem.W.callWith_KW0 (first := []) (h₀ := X.base) I.ok.mod.kin M.kp hall (thn (ha.run pos pins s σ H _ I h) fun ws s2 ⟨zs, H2, I2, rz, l2, q2⟩ => ⟨I2.kIn, ?_⟩) hpl
  rw [hks]
  exact run_mkK G hr tk I2 rz l2 q2
end
end Pk

/-! # PkList -/
set_option Elab.async false
set_option linter.all false
set_option maxRecDepth 100000
set_option maxHeartbeats 4000000
namespace Pk
open PySem PySem.Spec PyProof.Rows L2 Evl
/-! ## lists of own objects: == [], a step of one or minus one -/
section
variable {X : Cx}
/-- xs == [] -/
def rEqE (K : PySem.W.Frag) : R2 := fun x y H Q => ∃ a b xs, x = .ref a ∧ y = .ref b ∧ SqL K H a xs ∧ SqL K H b [] ∧ Q (.bl (decide (xs = []))) H
theorem op_eqE (hu : X.A.units < cLine) : OpR X (compareOp .Eq) (rEqE X.K) := by
  intro pins s σ H x y v u Q I rx ry h
  obtain ⟨a, b, xs, rfl, rfl, ha, hb, q⟩ := h
  cases rx
  cases ry
  obtain ⟨its, r, ht, hz⟩ := I.list ha
  obtain ⟨its2, r2, ht2, hz2⟩ := I.list hb
  have hlen := r.length
  cases r2
  show wpAny _ _ (richCompare .Eq _ _) _ _ _
  cases xs with
  | nil =>
    cases r
    have z := SeqAt.RcAt.lists (A := X.A) (e := fun _ => true) ht.isList ht2.isList rfl hu (fun j h1 _ => absurd h1 (Nat.not_lt_zero j)) X.prog X.w X.xe (EP X pins σ Q)
    exact z ⟨.bl true, H, I, rfl, q⟩
  | cons c cs =>
    have hsz : (its.toArray.size != ([] : List Value).toArray.size) = true := by
      rw [List.size_toArray, ← hlen]
      rfl
    exact SeqAt.RcAt.lists_lengths (A := X.A) ht.isList ht2.isList hsz hu X.prog X.w X.xe (EP X pins σ Q) ⟨.bl false, H, I, rfl, q⟩
/-- xs[::k], k one or minus one -/
def tStepL (K : PySem.W.Frag) (te ts : TE) : TE := fun σ H Q => te σ H fun x H1 => ts σ H1 fun k H2 => ∃ a xs, x = .ref a ∧ SqL K H2 a xs ∧
  ((k = .int 1 ∧ ∀ p, H2 p = none → Q (.ref p) (upd H2 p (.lst xs))) ∨ (k = .int (-1) ∧ ∀ p, H2 p = none → Q (.ref p) (upd H2 p (.lst xs.reverse))))
theorem pick_one (its : List Value) : slicePick its.toArray none none (some 1) = its.toArray := by
  have e : slicePick its.toArray none none (some 1) = slicePick its.toArray none none none := rfl
  rw [e, slicePick_cut]
  simp [HT.sIx]
theorem pe_stepL {e st : Expr} {te ts : TE} {p3 pos : Pos} (he : PE X e te) (hst : PE X st ts) : PE X (.Subscript e (.Slice none none (some st) p3) pos) (tStepL X.K te ts) := by
  refine ⟨fun pins s σ H Q I h => ?_⟩
  refine Subscript_ (thn (he.run pins s σ H _ I h) fun v s1 ⟨x, H1, I1, r1, q1⟩ => ?_)
  refine wpAny_Slice (thn (po_none.run pins s1 σ H1 (fun o H2 => o = none ∧ H2 = H1) I1 ⟨rfl, rfl⟩) fun vl s2 ⟨l, H2, I2, pl, el, e2⟩ => ?_)
  subst el e2
  refine thn (po_none.run pins s2 σ H2 (fun o H3 => o = none ∧ H3 = H2) I2 ⟨rfl, rfl⟩) fun vu s3 ⟨u, H3, I3, pu, eu, e3⟩ => ?_
  subst eu e3
  rw [evalPart_some]
  refine thn (hst.run pins s3 σ H3 _ I3 q1) fun vs s4 ⟨o, H4, I4, ps, q4⟩ => ?_
  obtain ⟨a, xs, ex, hx, q⟩ := q4
  subst ex
  cases r1
  have I5 : Inv X pins σ H4 { s4 with heap := s4.heap.push { cls := .type "slice", data := .fields #[vl, vu, vs] } } := I4.kept (t' := s4.toks) fun b ob q => Heap.get?_push_of_some _ q
  obtain ⟨its, r, ht, hz⟩ := I5.list hx
  have hlen := r.length
  show wpAny (model X.prog X.w) X.A (subscriptTail e (.Slice none none (some st) p3) (.ref a) (.ref s4.heap.objs.size)) (EP X pins σ Q) X.xe { s4 with heap := s4.heap.push { cls := .type "slice", data := .fields #[vl, vu, vs] } }
  refine tail_any (ops := [.ref a, .ref s4.heap.objs.size]) ht.isList.typeIs (PySem.slot_list_getitem.lookup) ?_ (by with_unfolding_all rfl)
  rcases q with ⟨rfl, q⟩ | ⟨rfl, q⟩
  · obtain ⟨t, rfl⟩ := ps
    refine wpAny_getItem_list_slice ht.isList (Heap.IsSliceOf.new _ vl vu _) pl pu (.int 1 t) (by decide) ?_ (by rw [List.size_toArray]; omega)
    rw [pick_one]
    refine ⟨.ref _, _, I5.laid (t' := s4.toks) (o := .lst xs) (fun b ob q => Heap.get?_push_of_some _ q) (Nat.le_refl _) ?_, rfl, q _ (I5.hok.fresh (Nat.le_refl _))⟩
    exact ⟨hz, _, 0, r, Heap.get?_push_size _ rfl⟩
  · obtain ⟨t, rfl⟩ := ps
    refine wpAny_getItem_list_slice ht.isList (Heap.IsSliceOf.new _ vl vu _) pl pu (.int (-1) t) (by decide) ?_ (by rw [List.size_toArray]; omega)
    rw [PySem.W.krv_pick]
    refine ⟨.ref _, _, I5.laid (t' := s4.toks) (o := .lst xs.reverse) (fun b ob q => Heap.get?_push_of_some _ q) (Nat.le_refl _) ?_, rfl, q _ (I5.hok.fresh (Nat.le_refl _))⟩
    exact ⟨by rw [List.length_reverse]; exact hz, _, 0, r.reverse, Heap.get?_push_size _ rfl⟩
end
end Pk

/-! # K01n -/
set_option Elab.async false
set_option linter.all false
set_option maxRecDepth 100000
set_option maxHeartbeats 4000000
set_option exponentiation.threshold 4000
namespace K1
open PySem PyProof.Rows L2 Pk Evl
theorem gmin_take {b : Rat} {qs : List Rat} {i : Nat} (h : i < qs.length) : gmin b (qs.take (i + 1)) = if qs.getD i 0 < gmin b (qs.take i) then qs.getD i 0 else gmin b (qs.take i) := by
  unfold gmin
  rw [List.take_succ, List.getElem?_eq_getElem h, List.foldl_append]
  simp only [Option.toList_some, List.foldl_cons, List.foldl_nil]
  rw [List.getD_eq_getElem?_getD, List.getElem?_eq_getElem h]
  rfl
theorem gmin_sz {b : Rat} {qs : List Rat} {n : Nat} (hb : Sz n b) (h : ∀ q ∈ qs, Sz n q) : Sz n (gmin b qs) := by
  rw [← gmin_eq]
  refine sz_neg (gmax_sz (sz_neg hb) fun q hq => ?_)
  obtain ⟨r, hr, rfl⟩ := List.mem_map.mp hq
  exact sz_neg (h r hr)
section
variable {P : Program} {w : World} {K : PySem.W.Frag} {mg : Str → Option Value} {base : Heap} {cPE cBR cR : Addr} {σ : L2.St} {H : Hp} {ta tb te : TE} {tA : TA} {W : WX} {qs : List Rat}
/-! ### _law_lists_right -/
def PairL (K : PySem.W.Frag) (H : Hp) (ps : List V) (qs : List Rat) : Prop := ps.length = qs.length ∧ ∀ i x, ps[i]? = some x → ∃ t, x = .ref t ∧ SqT K H t (prV (qs.getD i 0))
theorem PairL.mono {H' : Hp} {ps : List V} (h : PairL K H ps qs) (e : Ex H H') : PairL K H' ps qs := ⟨h.1, fun i x hx => let ⟨t, h1, h2⟩ := h.2 i x hx; ⟨t, h1, ex_t e h2⟩⟩
def SumOk (s : Rat) : Prop := s.num.natAbs < 2 ^ 700 ∧ s.den < 2 ^ 400
theorem SumOk.sz {s : Rat} (h : SumOk s) : Sz 700 s := ⟨h.1, Nat.lt_of_lt_of_le h.2 (Nat.pow_le_pow_right (by decide) (by decide))⟩
def EG (K : PySem.W.Frag) (cR : Addr) (te : TE) (σ : L2.St) (H : Hp) (qs : List Rat) : Prop := EvP te σ H (fun v H2 => GoodRow K cR H2 v qs)
theorem GoodRow.mono {H' : Hp} {v : V} (h : GoodRow K cR H v qs) (e : Ex H H') : GoodRow K cR H' v qs := let ⟨a, xs, h1, h2, h3, h4, h5⟩ := h; ⟨a, xs, h1, h2.mono e, h3.mono e, h4, h5⟩
theorem eg_var {i : Nat} {v : V} (h : σ[i]? = some (some v)) (hg : GoodRow K cR H v qs) : EG K cR (tVar i) σ H qs := fun H1 e Q k => ev_var h H1 e Q fun H2 e2 => k _ H2 e2 (hg.mono (e.trans e2))
theorem eg_tup {i : Nat} {a : Addr} {xs : List V} (h : σ[i]? = some (some (.ref a))) (hx : SqL K H a xs) (hn : NumL cR H xs qs) (hl : xs.length ≤ 1000) (hs : ∀ q ∈ qs, Sz 900 q) :
    EG K cR (tCB (fun xs H Q => ∃ p ys, xs = [V.ref p] ∧ ((SqL K H p ys ∧ ∀ l, H l = none → Q (.ref l) (upd H l (.tup ys))) ∨ (SqT K H p ys ∧ Q (.ref p) H))) (tCons (tVar i) tNil)) σ H qs := fun H1 e Q k => ev_var h H1 e _ fun H2 e2 =>
  ⟨a, xs, rfl, .inl ⟨ex_l (e.trans e2) hx, fun l hlN => k _ _ (e2.trans (Ex.new hlN)) ⟨l, xs, rfl, .inr (st_of upd_same), hn.mono ((e.trans e2).trans (Ex.new hlN)), hl, hs⟩⟩⟩
theorem eq_added {E : L2.St → XK} (h : EG K cR te σ H qs) (hs : ∀ k, Sz 900 (sumQ (qs.take k))) : EQ cR (tCallSD (spAdd K cR cBR) [] E (tCons te tNil)) σ H (sumQ qs) := fun H1 e Q k => h H1 e _ fun v H2 e2 hg =>
  ⟨v, rfl, .inl ⟨qs, hg, hs, fun c H3 e3 hc => k _ H3 (e2.trans e3) ⟨c, rfl, hc⟩⟩⟩
theorem eq_addedK {gV : List V → List V → List V} (hgv : ∀ z, gV [] [z] = [z]) (h : EG K cR te σ H qs) (hs : ∀ k, Sz 900 (sumQ (qs.take k))) : EQ cR (tGSK (spAdd K cR cBR) gV W (tCons te tNil)) σ H (sumQ qs) := fun H1 e Q k => h H1 e _ fun v H2 e2 hg => by
  show spAdd K cR cBR (gV [] [v]) H2 Q (WE W σ)
  rw [hgv]
  exact ⟨v, rfl, .inl ⟨qs, hg, hs, fun c H3 e3 hc => k _ H3 (e2.trans e3) ⟨c, rfl, hc⟩⟩⟩
theorem eq_gr {E : L2.St → XK} {g : Rat → List Rat → Rat} (h : EG K cR te σ H qs) (h0 : qs ≠ []) : EQ cR (tCallSD (spGr K cR cBR g) [] E (tCons te tNil)) σ H (g (qs.getD 0 0) qs) := fun H1 e Q k => h H1 e _ fun v H2 e2 hg =>
  ⟨v, rfl, .inl ⟨qs, hg, h0, fun c H3 e3 hc => k _ H3 (e2.trans e3) ⟨c, rfl, hc⟩⟩⟩
theorem eq_grK {gV : List V → List V → List V} {g : Rat → List Rat → Rat} (hgv : ∀ z, gV [] [z] = [z]) (h : EG K cR te σ H qs) (h0 : qs ≠ []) : EQ cR (tGSK (spGr K cR cBR g) gV W (tCons te tNil)) σ H (g (qs.getD 0 0) qs) := fun H1 e Q k => h H1 e _ fun v H2 e2 hg => by
  show spGr K cR cBR g (gV [] [v]) H2 Q (WE W σ)
  rw [hgv]
  exact ⟨v, rfl, .inl ⟨qs, hg, h0, fun c H3 e3 hc => k _ H3 (e2.trans e3) ⟨c, rfl, hc⟩⟩⟩
/-- rows of texts -/
theorem dp_strs {zs : List Str} : DpAll K H (zs.map V.str) (zs.map PyData.str) := by
  induction zs with
  | nil => exact .nil
  | cons n ns ih => exact .cons (.str n) ih
theorem ev_strsEq {zs : List Str} (h1 : EvL ta σ H (zs.map V.str)) (h2 : EvL tb σ H (zs.map V.str)) (hs : SeqAt.shaped (.list (zs.map PyData.str)) = true) (he : PyData.eqv (.list (zs.map PyData.str)) (.list (zs.map PyData.str)) = true) : Ev (tOp (rEqD K) ta tb) σ H (.bl true) := fun H1 e Q k =>
  h1 H1 e _ fun p H2 hp e2 hq => h2 H2 (e.trans e2) _ fun r H3 hr e3 hs3 => ⟨_, _, .lst (sq_of (e3 _ _ hq)) dp_strs, .lst (sq_of hs3) dp_strs, hs, hs, by rw [he]; exact k H3 (e2.trans e3)⟩
theorem ev_strsNe {zs : List Str} (h1 : EvL ta σ H (zs.map V.str)) (h2 : EvL tb σ H (zs.map V.str)) (hs : SeqAt.shaped (.list (zs.map PyData.str)) = true) (he : PyData.eqv (.list (zs.map PyData.str)) (.list (zs.map PyData.str)) = true) : Ev (tOp (rNeD K) ta tb) σ H (.bl false) := fun H1 e Q k =>
  h1 H1 e _ fun p H2 hp e2 hq => h2 H2 (e.trans e2) _ fun r H3 hr e3 hs3 => ⟨_, _, .lst (sq_of (e3 _ _ hq)) dp_strs, .lst (sq_of hs3) dp_strs, hs, hs, by rw [he]; exact k H3 (e2.trans e3)⟩
theorem el_repS {z : Str} {n : Nat} (hn : n ≤ 1000) : EvL (tOp rRep (tLst (tCons (tC (.str z)) tNil)) (tC (.int (n : Int)))) σ H ((List.replicate n z).map V.str) := fun H1 e Q k =>
  el_lst (ea_cons ev_c ea_nil) (by show 1 ≤ 100000; decide) H1 e _ fun p H2 hp e2 hq => ⟨p, (n : Int), [.str z], rfl, rfl, hq, by omega, by omega, by
    rw [Int.toNat_natCast]
    show 1 * n ≤ _
    exact sz_of (by omega), fun l hl => k l _ (fresh_back e2 hl) (e2.trans (Ex.new hl)) (by
      rw [upd_same, Int.toNat_natCast, List.map_replicate]
      congr 2
      clear hn k
      induction n with
      | zero => rfl
      | succ n ih => rw [List.replicate_succ, List.replicate_succ, List.flatten_cons, ih]; rfl)⟩
theorem ev_eqE {i : Nat} {a : Addr} {xs : List V} (h : σ[i]? = some (some (.ref a))) (hx : SqL K H a xs) : Ev (tOp (rEqE K) (tVar i) (tLst tNil)) σ H (.bl (decide (xs = []))) := fun H1 e Q k =>
  ev_var h H1 e _ fun H2 e2 => el_lst ea_nil (by show 0 ≤ 100000; decide) H2 (Ex.refl _) _ fun p H3 hp e3 hq => ⟨a, p, xs, rfl, rfl, ex_l ((e.trans e2).trans e3) hx, sq_of hq, k H3 (e2.trans e3)⟩
end
end K1

/-! # K01o -/
set_option Elab.async false
set_option linter.all false
set_option maxRecDepth 100000
set_option maxHeartbeats 4000000
set_option exponentiation.threshold 4000
namespace K1
open PySem PyProof.Rows L2 Pk Evl
section
variable {P : Program} {w : World} {K : PySem.W.Frag} {mg : Str → Option Value} {base : Heap} {cPE cBR cR : Addr} {σ : L2.St} {H : Hp}
def spLists (K : PySem.W.Frag) (cR : Addr) : Sp := fun vs H Q _ => ∃ (a b : Addr) (xs ps : List V) (qs : List Rat), vs = [.ref a, .ref b] ∧ SqL K H a xs ∧ NumL cR H xs qs ∧ SqL K H b ps ∧ PairL K H ps qs ∧ qs.length ≤ 6 ∧ (∀ q ∈ qs, Sz 200 q) ∧ (∀ k, SumOk (sumQ (qs.take k))) ∧ ∀ H', Ex H H' → Q (.bl true) H'
abbrev s_lists : Stmt := top 31
theorem sc_lists : FnScope ["_law_values", "_law_pairs", "_law_total", "_law_top", "_law_bottom", "_law_low_here", "_law_high", "_law_pair", "_law_way"] ["_law_values", "_law_pairs"] (defScope s_lists) := ⟨rfl, rfl, rfl, by decide +kernel, rfl, by decide +kernel, by decide +kernel⟩
theorem g_cons {te : TE} {tr : TA} {Q : List V → Hp → Prop} (h : te σ H fun x H1 => tr σ H1 fun vs H2 => Q (x :: vs) H2) : tCons te tr σ H Q := h
theorem g_gfA {sp : Sp} {E : L2.St → XK} {tA : TA} {Q : VK} (h : tA σ H fun vs H1 => sp (vs ++ []) H1 Q (E σ)) : tCallSD sp [] E tA σ H Q := h
theorem prV0 : prV 0 = [.int 0, .int 1] := rfl
theorem ok_lists {f : Addr} {fd : FuncData} {gV : List V → List V → List V} (hgv : ∀ z, gV [] [z] = [z]) (F : Fun K "_law_lists_right" "_law_lists_right" s_lists f fd) (B : Bj mg) (C : RC1 K cR)
    (GIs : GF P w K mg base 6 "_law_is" (spIs K cR) []) (GLo : GF P w K mg base 1 "_law_low" spLow []) (GPa : GF P w K mg base 10 "_law_part" (spPart K cR) []) (GAd : GF P w K mg base 7 "added" (spAdd K cR cBR) []) (GAdK : GFK P w K mg base 7 "added" (spAdd K cR cBR) ["ratios"] gV)
    (GLe : GF P w K mg base 9 "least_of" (spGr K cR cBR gmin) []) (GGrK : GFK P w K mg base 8 "greatest_of" (spGr K cR cBR gmax) ["ratios"] gV) (GR : GC P w K mg base 3 "Ratio" cR (spQI K cR cBR) [.int 1]) :
    FnG P w K mg base 11 f fd ["_law_values", "_law_pairs"] (spLists K cR) := by
  refine okG F sc_lists (fun vs H Q E h => ?_) (fun cdv A outer s H vs Q E hr h => ?_)
  · obtain ⟨a, b, xs, ps, qs, rfl, _⟩ := h
    rfl
  · obtain ⟨a, b, xs, ps, qs, rfl, hx, hn, hp, hpl, hl6, hsz, hsum, k⟩ := h
    have nd := sc_lists.nd
    have h1 := hr.mono (j := 1) (by decide)
    have h4 := hr.mono (j := 4) (by decide)
    have h6 := hr.mono (j := 6) (by decide)
    have h7 := hr.mono (j := 7) (by decide)
    have h8 := hr.mono (j := 8) (by decide)
    have h9 := hr.mono (j := 9) (by decide)
    have hu : (A.deeper (envOfC "_law_lists_right" (defScope s_lists) s.heap.objs.size f cdv)).units < cLine := by have := hr.r.units; omega
    refine ⟨_, (pss_cons (ps_set (i := 2) nd rfl (Or.inl rfl) (pe_tup (pa_cons pe_int (pa_cons pe_int pa_nil))))
  (pss_cons (ps_for (passes_of rfl) rfl (pi_list (pv 1)) (pg_tup rfl (pgs_cons (pg_name (i := 3) nd rfl (Or.inl rfl)) (pgs_cons (pg_name (i := 4) nd rfl (Or.inl rfl)) pgs_nil)))
    (pss_one (ps_set (i := 2) nd rfl (Or.inl rfl) (pe_gf GLo h1 (takes_of rfl rfl rfl rfl) (by rfl) (pa_cons (pe_op op_add (pe_op op_mulW (pe_ix ix_tup (pv 2) pe_int (fun _ _ => rfl)) (pv 4)) (pe_op op_mulW (pv 3) (pe_ix ix_tup (pv 2) pe_int (fun _ _ => rfl)))) (pa_cons (pe_op op_mulW (pe_ix ix_tup (pv 2) pe_int (fun _ _ => rfl)) (pv 4)) pa_nil))))))
  (pss_cons (ps_if (PW.pt (pw_or (pt_not (pt_val (pe_gf GIs h6 (takes_of rfl rfl rfl rfl) (by rfl) (pa_cons (pe_gf GAd h7 (takes_of rfl rfl rfl rfl) (by rfl) (pa_cons (pv 0) pa_nil)) (pa_cons (pv 2) pa_nil))))) (pw_or1 (pt_not (pt_val (pe_gf GIs h6 (takes_of rfl rfl rfl rfl) (by rfl) (pa_cons (pe_gfK GAdK h7 (takes_of rfl rfl rfl rfl) (by rfl) (pk_cons (pe_callTy call_tuple_of (by rfl) B.tuple Boot.«tuple» (pa_cons (pv 0) pa_nil)) pk_nil)) (pa_cons (pv 2) pa_nil))))))))
    (pss_one (ps_ret pe_bl))
    pss_nil)
  (pss_cons (ps_if (pt_cmpR (op_eqE hu) (pv 0) (pe_lst pa_nil) (nomark _))
    (pss_one (ps_ret (pe_cmpR (op_eqD hr.r.units) (pe_lc (own := [("_law_way", 8)]) rfl nd (pi_list (pe_lst (pa_cons pe_int (pa_cons pe_int pa_nil)))) (blkOk_by (N := ["_law_values", "_law_pairs", "_law_total", "_law_top", "_law_bottom", "_law_low_here", "_law_high", "_law_pair", "_law_way"]) (sc := defScope s_lists) (by decide +kernel)) (fun _ _ _ _ _ => (pg_name (i := 8) nd rfl (Or.inl rfl))) (fun _ _ _ _ _ => pts_nil) (fun _ _ _ _ _ => (pe_gf GPa hr L2.takes0 (by rfl) (pa_cons (pv 8) (pa_cons (pe_gc GR h4 L2.takes0 (by rfl) (pa_cons pe_int pa_nil)) (pa_cons (pe_lst pa_nil) pa_nil)))))) (pe_op op_rep (pe_lst (pa_cons pe_str pa_nil)) pe_int) (nomark _))))
    pss_nil)
  (pss_cons (ps_par (i := 5) (j := 6) rfl nd rfl rfl (by decide) rfl rfl (pa_cons (pe_ix ix_list (pv 1) pe_int (fun _ _ => rfl)) (pa_cons (pe_ix ix_list (pv 1) pe_int (fun _ _ => rfl)) pa_nil)) (by rfl))
  (pss_cons (ps_for (passes_of rfl) rfl (pi_list (pv 1)) (pg_name (i := 7) nd rfl (Or.inl rfl))
    (pss_cons (ps_if (pt_cmpR op_lt (pe_op op_mulW (pe_ix ix_tup (pv 7) pe_int (fun _ _ => rfl)) (pe_ix ix_tup (pv 5) pe_int (fun _ _ => rfl))) (pe_op op_mulW (pe_ix ix_tup (pv 5) pe_int (fun _ _ => rfl)) (pe_ix ix_tup (pv 7) pe_int (fun _ _ => rfl))) (nomark _))
      (pss_one (ps_set (i := 5) nd rfl (Or.inl rfl) (pv 7)))
      pss_nil)
    (pss_one (ps_if (pt_cmpR op_gt (pe_op op_mulW (pe_ix ix_tup (pv 7) pe_int (fun _ _ => rfl)) (pe_ix ix_tup (pv 6) pe_int (fun _ _ => rfl))) (pe_op op_mulW (pe_ix ix_tup (pv 6) pe_int (fun _ _ => rfl)) (pe_ix ix_tup (pv 7) pe_int (fun _ _ => rfl))) (nomark _))
      (pss_one (ps_set (i := 6) nd rfl (Or.inl rfl) (pv 7)))
      pss_nil))))
  (pss_one (ps_ret (pe_and (pe_gf GIs h6 (takes_of rfl rfl rfl rfl) (by rfl) (pa_cons (pe_gf GLe h9 (takes_of rfl rfl rfl rfl) (by rfl) (pa_cons (pe_callTy call_tuple_of (by rfl) B.tuple Boot.«tuple» (pa_cons (pv 0) pa_nil)) pa_nil)) (pa_cons (pv 5) pa_nil))) (pe_one (pe_gf GIs h6 (takes_of rfl rfl rfl rfl) (by rfl) (pa_cons (pe_gfK GGrK h8 (takes_of rfl rfl rfl rfl) (by rfl) (pk_cons (pv 0) pk_nil)) (pa_cons (pv 6) pa_nil))))))))))))), ?_⟩
    have up : ∀ q ∈ qs, Sz 900 q := fun q hq => (hsz q hq).mono (by decide)
    have hxl : xs.length = qs.length := hn.1
    have hpn : ps.length = qs.length := hpl.1
    have hs9 : ∀ k, Sz 900 (sumQ (qs.take k)) := fun k => (hsum k).sz.mono (by decide)
    have gd : ∀ H', Ex H H' → GoodRow K cR H' (.ref a) qs := fun H' e => ⟨a, xs, rfl, .inl (ex_l e hx), hn.mono e, by omega, up⟩
    refine q_set (eu_tup (ea_cons ev_c (ea_cons ev_c ea_nil)) (by show 2 ≤ 100000; decide) H (Ex.refl H) _ fun tp H1 htp e1 h1t => ?_)
    refine q_forL (ev_var rfl) (ex_l e1 hp) (fun i σ' H' => ∃ (t : Addr) (x y : Option V), σ' = [some (.ref a), some (.ref b), some (.ref t), x, y, none, none, none, none] ∧ Ex H H' ∧ SqT K H' t (prV (sumQ (qs.take i)))) (fun H2 e2 => ⟨tp, none, none, rfl, e1.trans e2, st_of (e2 _ _ h1t)⟩) (fun i σ' H' _ ⟨_, _, _, _, e, _⟩ => ex_l e hp) (fun i x σ' H' hi hpv => ?_) (fun σ' H2 hpv => ?_)
    · obtain ⟨t, x0, y0, rfl, e2, ht⟩ := hpv
      obtain ⟨tx, rfl, htx⟩ := hpl.2 i x hi
      have hil : i < qs.length := by have := (List.getElem?_eq_some_iff.mp hi).1; omega
      have htx2 := ex_t e2 htx
      generalize hS : sumQ (qs.take i) = S at ht
      generalize hR : qs.getD i 0 = R at htx htx2
      have sS : SumOk S := by rw [← hS]; exact hsum i
      have sR : Sz 200 R := by rw [← hR]; exact hsz _ (getD_mem hil)
      have sS9 : Sz 900 S := sS.sz.mono (by decide)
      have sR9 : Sz 900 R := sR.mono (by decide)
      refine ⟨tx, _, rfl, htx2, rfl, _, _, rfl, _, _, rfl, rfl, ?_⟩
      have E0 : ∀ H3, Ex H' H3 → Ev (tOp (rIxT K) (tVar 2) (tC (.int 0))) [some (.ref a), some (.ref b), some (.ref t), some (.int R.num), some (.int (R.den : Int)), none, none, none, none] H3 (.int S.num) := fun H3 e3 => ev_op (ev_var rfl) ev_c (rv_ixT (ex_t e3 ht) (atI_nat (j := 0) rfl))
      have E1 : ∀ H3, Ex H' H3 → Ev (tOp (rIxT K) (tVar 2) (tC (.int 1))) [some (.ref a), some (.ref b), some (.ref t), some (.int R.num), some (.int (R.den : Int)), none, none, none, none] H3 (.int (S.den : Int)) := fun H3 e3 => ev_op (ev_var rfl) ev_c (rv_ixT (ex_t e3 ht) (atI_nat (j := 1) rfl))
      have hb : ((S.den : Int) * (R.den : Int)).natAbs < 2 ^ 640 := by
        have := wide_lt (i := (S.den : Int)) (j := (R.den : Int)) (a := 400) (b := 200) (by rw [Int.natAbs_natCast]; exact sS.2) (by rw [Int.natAbs_natCast]; exact sR.2)
        exact Nat.lt_of_lt_of_le this (Nat.pow_le_pow_right (by decide) (by decide))
      refine s_set (eu_low (K := K) (q := S + R) (ea_cons (ev_op (ev_op (E0 _ (Ex.refl _)) (ev_var rfl) (rv_I (mulw sS9.1 (szd sR9)))) (ev_op (ev_var rfl) (E1 _ (Ex.refl _)) (rv_I (mulw sR9.1 (szd sS9)))) rv_I0) (ea_cons (ev_op (E1 _ (Ex.refl _)) (ev_var rfl) (rv_I (mulw (szd sS9) (szd sR9)))) ea_nil)) (den0 S R) hb (add_q S R) H' (Ex.refl H') _ fun v H3 e3 ⟨p, hv, hp3⟩ => ?_)
      subst hv
      refine ⟨p, _, _, rfl, e2.trans e3, ?_⟩
      rw [sumQ_take hil, hS, hR]
      exact hp3
    · obtain ⟨t, x0, y0, rfl, e2, ht⟩ := hpv
      rw [hpn, List.take_length] at ht
      have hS : Sz 1000 (sumQ qs) := by have := hs9 qs.length; rw [List.take_length] at this; exact this.mono (by decide)
      refine q_when (b := false) (et_is (et_or (a := false) (b := false) (et_no (ev_isQ (eq_added (eg_var rfl (gd _ e2)) hs9) (eu_var rfl ht) hS)) fun _ => et_no (ev_isQ (eq_addedK hgv (eg_tup rfl (ex_l e2 hx) (hn.mono e2) (by omega) up) hs9) (eu_var rfl ht) hS)) rfl) (fun z => nomatch z) (fun _ H3 e3 => ?_)
      have e23 := e2.trans e3
      refine q_when (et_test (ev_eqE rfl (ex_l e23 hx))) (fun hb H4 e4 => ?_) (fun hb H4 e4 => ?_)
      · refine s_ret (v := .bl true) (ev_strsEq (zs := ["ratios", "ratios"]) (K := K) (el_lcNL (xs := [.int 10, .int 11]) (fun _ => true) (fun _ => .str "ratios") (el_lst (ea_cons ev_c (ea_cons ev_c ea_nil)) (by show 2 ≤ 100000; decide)) (by show 2 ≤ 40000; decide) (fun _ => rfl) (fun _ _ _ _ _ Hy _ Qy ky => ky Hy (Ex.refl Hy)) (fun i x H5 e5 hi _ => ?_)) (el_repS (z := "ratios") (n := 2) (by decide)) (by decide +kernel) (by decide +kernel)) fun H5 e5 => k H5 ((e23.trans e4).trans e5)
        intro H6 e6 Q6 k6
        have hx2 : x = .int 10 ∨ x = .int 11 := by
          match i, hi with
          | 0, hi => cases hi; exact .inl rfl
          | 1, hi => cases hi; exact .inr rfl
          | (i + 2), hi => simp at hi
        obtain ⟨n, rfl, hn1, hn2⟩ : ∃ n : Int, x = .int n ∧ 10 ≤ n ∧ n < 12 := by rcases hx2 with rfl | rfl <;> exact ⟨_, rfl, by decide, by decide⟩
        refine g_gfA (g_cons (ev_var (v := .int n) rfl H6 (Ex.refl H6) _ fun H7 e7 => g_cons (ep_Q (K := K) (cBR := cBR) (t := 1) (b := 1) (ea_cons ev_c ea_nil) rfl (by decide) (by decide) H7 (Ex.refl H7) _ fun v H8 e8 ⟨c, hv, hc⟩ => g_cons (el_lst ea_nil (by show 0 ≤ 100000; decide) H8 (Ex.refl H8) _ fun p H9 hp9 e9 h9 => ?_))))
        subst hv
        exact ⟨c, .ref p, _, n, "ratios", rfl, hc.mono e9, .inr (.inr (.inr (.inr (.inr (.inr (.inl ⟨hn1, hn2, ⟨p, rfl, .inl (sq_of h9)⟩, rfl⟩)))))), fun H10 e10 => k6 H10 ((((e7.trans e8).trans e9).trans e10))⟩
      · have hne : xs ≠ [] := of_decide_eq_false hb
        have hq0 : qs ≠ [] := fun z => hne (List.eq_nil_of_length_eq_zero (by rw [hxl, z]; rfl))
        have hpos : 0 < qs.length := List.length_pos_iff.mpr hq0
        have e24 := e23.trans e4
        obtain ⟨p0, hp0⟩ : ∃ p0, ps[0]? = some p0 := ⟨_, List.getElem?_eq_getElem (by omega)⟩
        obtain ⟨t0, rfl, ht0⟩ := hpl.2 0 p0 hp0
        have hb0 : Sz 200 (qs.getD 0 0) := hsz _ (getD_mem hpos)
        have P0 : ∀ (σ' : L2.St) H5, Ex H4 H5 → σ'[1]? = some (some (.ref b)) → Ev (tOp (rIxL K) (tVar 1) (tC (.int 0))) σ' H5 (.ref t0) := fun σ' H5 e5 hσ => ev_op (ev_var hσ) ev_c (rv_ixL (ex_l (e24.trans e5) hp) (atI_nat (j := 0) hp0))
        refine q_par (ea_cons (P0 _ _ (Ex.refl _) rfl) (ea_cons (P0 _ _ (Ex.refl _) rfl) ea_nil)) fun H5 e5 => ?_
        have e25 := e24.trans e5
        refine q_forLn (ev_var rfl) (ex_l e25 hp) (fun i σ' H' => ∃ (l h : Addr) (x : Option V), σ' = [some (.ref a), some (.ref b), some (.ref t), x0, y0, some (.ref l), some (.ref h), x, none] ∧ Ex H H' ∧ SqT K H' l (prV (gmin (qs.getD 0 0) (qs.take i))) ∧ SqT K H' h (prV (gmax (qs.getD 0 0) (qs.take i)))) (fun H6 e6 => ⟨t0, t0, none, rfl, e25.trans e6, ex_t (e25.trans e6) ht0, ex_t (e25.trans e6) ht0⟩) (fun i σ' H' _ ⟨_, _, _, _, e, _⟩ => ex_l e hp) (fun i x σ' H' hi hpv => ?_) (fun σ' H6 hpv => ?_)
        · obtain ⟨l, h, x1, rfl, e6, hl, hh⟩ := hpv
          obtain ⟨tx, rfl, htx⟩ := hpl.2 i x hi
          have hil : i < qs.length := by have := (List.getElem?_eq_some_iff.mp hi).1; omega
          have htx6 := ex_t e6 htx
          have sm := (gmin_sz (qs := qs.take i) hb0 fun q hq => hsz q (mem_take hq)).mono (m := 900) (by decide)
          have sM := (gmax_sz (qs := qs.take i) hb0 fun q hq => hsz q (mem_take hq)).mono (m := 900) (by decide)
          have sR := (hsz _ (getD_mem hil)).mono (m := 900) (by decide)
          rw [show gmin (qs.getD 0 0) (qs.take i) = gmin (qs.getD 0 0) (qs.take i) from rfl] at hl
          have gmn := gmin_take (b := qs.getD 0 0) hil
          have gmx := gmax_take (b := qs.getD 0 0) hil
          generalize qs.getD i 0 = R at gmn gmx htx6 sR
          generalize gmin (qs.getD 0 0) (qs.take i) = m at gmn hl sm
          generalize gmax (qs.getD 0 0) (qs.take i) = M at gmx hh sM
          have I : ∀ (σ' : L2.St) (H7 : Hp) (j : Nat) (u : Addr) (q : Rat), σ'[j]? = some (some (.ref u)) → SqT K H7 u (prV q) → Ev (tOp (rIxT K) (tVar j) (tC (.int 0))) σ' H7 (.int q.num) ∧ Ev (tOp (rIxT K) (tVar j) (tC (.int 1))) σ' H7 (.int (q.den : Int)) := fun σ' H7 j u q hσ hu => ⟨ev_op (ev_var hσ) ev_c (rv_ixT hu (atI_nat (j := 0) rfl)), ev_op (ev_var hσ) ev_c (rv_ixT hu (atI_nat (j := 1) rfl))⟩
          have second : ∀ (D : Ends), (∀ (l' h' : Addr) (H7 : Hp), Ex H' H7 → SqT K H7 l' (prV (if R < m then R else m)) → SqT K H7 h' (prV (if M < R then R else M)) → D.nx [some (.ref a), some (.ref b), some (.ref t), x0, y0, some (.ref l'), some (.ref h'), some (.ref tx), none] H7) → ∀ (l' : Addr) (H7 : Hp), Ex H' H7 → SqT K H7 l' (prV (if R < m then R else m)) →
              tIfS (tTest (tOp (rI0 fun i j => V.bl (decide (i > j))) (tOp (rI CMulW fun i j => V.int (i * j)) (tOp (rIxT K) (tVar 7) (tC (.int 0))) (tOp (rIxT K) (tVar 6) (tC (.int 1)))) (tOp (rI CMulW fun i j => V.int (i * j)) (tOp (rIxT K) (tVar 6) (tC (.int 0))) (tOp (rIxT K) (tVar 7) (tC (.int 1)))))) (tAsg (tVar 7) (gName 6)) tNext D [some (.ref a), some (.ref b), some (.ref t), x0, y0, some (.ref l'), some (.ref h), some (.ref tx), none] H7 := fun D hD l' H7 e7 hl' => s_when (b := decide (M < R)) (et_is (et_test (ev_op (ev_op (I _ _ 7 _ _ rfl (ex_t e7 htx6)).1 (I _ _ 6 _ _ rfl (ex_t e7 hh)).2 (rv_I (mulw sR.1 (szd sM)))) (ev_op (I _ _ 6 _ _ rfl (ex_t e7 hh)).1 (I _ _ 7 _ _ rfl (ex_t e7 htx6)).2 (rv_I (mulw sM.1 (szd sR)))) rv_I0)) (by rw [decide_eq_decide, Rat.lt_iff])) (fun hb2 H8 e8 => s_asg (ev_var rfl) fun H9 e9 => hD l' tx H9 ((e7.trans e8).trans e9) (ex_t (e8.trans e9) hl') (by rw [if_pos (of_decide_eq_true hb2)]; exact ex_t ((e7.trans e8).trans e9) htx6)) (fun hb2 H8 e8 => hD l' h H8 (e7.trans e8) (ex_t e8 hl') (by rw [if_neg (of_decide_eq_false hb2)]; exact ex_t (e7.trans e8) hh))
          refine q_when (b := decide (R < m)) (et_is (et_test (ev_op (ev_op (I _ _ 7 _ _ rfl htx6).1 (I _ _ 5 _ _ rfl hl).2 (rv_I (mulw sR.1 (szd sm)))) (ev_op (I _ _ 5 _ _ rfl hl).1 (I _ _ 7 _ _ rfl htx6).2 (rv_I (mulw sm.1 (szd sR)))) rv_I0)) (by rw [decide_eq_decide, Rat.lt_iff])) (fun hb2 H7 e7 => ?_) (fun hb2 H7 e7 => ?_)
          · refine s_asg (ev_var rfl) fun H8 e8 => ?_
            refine second _ (fun l' h' H9 e9 h1 h2 => ?_) tx H8 (e7.trans e8) (by rw [if_pos (of_decide_eq_true hb2)]; exact ex_t (e7.trans e8) htx6)
            exact ⟨l', h', _, rfl, e6.trans e9, by rw [gmn]; exact h1, by rw [gmx]; exact h2⟩
          · refine second _ (fun l' h' H9 e9 h1 h2 => ?_) l H7 e7 (by rw [if_neg (of_decide_eq_false hb2)]; exact ex_t e7 hl)
            exact ⟨l', h', _, rfl, e6.trans e9, by rw [gmn]; exact h1, by rw [gmx]; exact h2⟩
        · obtain ⟨l, h, x1, rfl, e6, hl, hh⟩ := hpv
          rw [hpn, List.take_length] at hl hh
          have sm := (gmin_sz (qs := qs) hb0 hsz).mono (m := 1000) (by decide)
          have sM := (gmax_sz (qs := qs) hb0 hsz).mono (m := 1000) (by decide)
          refine s_ret (v := .bl true) (ev_is (ev_andV (ev_isQ (eq_gr (g := gmin) (eg_tup rfl (ex_l e6 hx) (hn.mono e6) (by omega) up) hq0) (eu_var rfl hl) sm) fun _ => ev_isQ (eq_grK (g := gmax) hgv (eg_var rfl (gd _ e6)) hq0) (eu_var rfl hh) sM) rfl) fun H7 e7 => k H7 (e6.trans e7)
end
end K1

/-! # K01p -/
set_option Elab.async false
set_option linter.all false
set_option maxRecDepth 100000
set_option maxHeartbeats 4000000
set_option exponentiation.threshold 4000
namespace K1
open PySem PyProof.Rows L2 Pk Evl
section
variable {P : Program} {w : World} {K : PySem.W.Frag} {mg : Str → Option Value} {base : Heap} {cPE cBR cR p : Addr} {σ : L2.St} {H : Hp} {ta tb te : TE} {tA : TA} {c B : Nat}
/-! ### picks out of rows of odd values -/
/-- what stays as it is where only p is changed -/
def Pm (p : Addr) (R : V → Hp → Prop) : Prop := ∀ v H1 H2, ExB p H1 H2 → R v H1 → R v H2
def RwA (R : V → Hp → Prop) (tA : TA) (σ : L2.St) (H : Hp) (c : Nat) : Prop := ∀ H1, Ex H H1 → ∀ Q : List V → Hp → Prop, (∀ vs H2, Ex H1 H2 → (∀ v ∈ vs, R v H2) → vs.length = c → Q vs H2) → tA σ H1 Q
variable {R : V → Hp → Prop}
theorem rw_nil : RwA R tNil σ H 0 := fun H1 e Q q => q [] H1 (Ex.refl H1) (fun _ h => by simp at h) rfl
theorem rw_cons (m : Pm p R) (h : EvP te σ H R) (hr : RwA R tA σ H c) : RwA R (tCons te tA) σ H (c + 1) := fun H1 e Q q => h H1 e _ fun v H2 e2 ov => hr H2 (e.trans e2) _ fun vs H3 e3 ovs hl => q (v :: vs) H3 (e2.trans e3) (fun x hx => by
  rcases List.mem_cons.mp hx with rfl | hx
  · exact m _ _ _ (ExB.of e3) ov
  · exact ovs x hx) (by simp [hl])
theorem rw_c {v : V} (h : ∀ H, R v H) : EvP (tC v) σ H R := fun H1 e Q q => q v H1 (Ex.refl H1) (h H1)
theorem go_pickR {Q : VK} {E : L2.St → XK} (m : Pm p R) (h0 : Ev te σ H (.ref p)) (h : RwA R tA σ H c) (hp : Pen K H p B) (hB : B < 1000000) (hc : 0 < c) (hc2 : c ≤ 1000) (k : ∀ x H', R x H' → ExB p H H' → Pen K H' p (B + 1) → Q x H') : tCallSD (spPick K) [] E (tCons te (tCons (tLst tA) tNil)) σ H Q :=
  h0 H (Ex.refl H) _ fun H1 e1 => h H1 e1 _ fun vs H2 e2 ho hl => ⟨sz_of (by omega), fun a ha => ⟨p, B, (hp.mono (e1.trans e2) (Nat.le_refl _)).mono (Ex.new ha) (Nat.le_refl _), hB, .inl ⟨a, vs, rfl, sq_of upd_same, (hp.mono (e1.trans e2) (Nat.le_refl _)).ne ha, fun z => by rw [z] at hl; simp at hl; omega, by omega, fun x H3 hx e3 hp3 => k x H3 (m _ _ _ e3 (m _ _ _ (ExB.of (Ex.new ha)) (ho x hx))) ((ExB.of ((e1.trans e2).trans (Ex.new ha))).trans e3) hp3⟩⟩⟩
/-- odd as a ratio -/
def Od1 (p : Addr) (v : V) (H : Hp) : Prop := v = .non ∨ (∃ b, v = .bl b) ∨ (∃ z, v = .str z) ∨ ∃ a, v = .ref a ∧ a ≠ p ∧ ((∃ xs, H a = some (.lst xs)) ∨ (∃ xs, H a = some (.tup xs)) ∨ (∃ kvs, H a = some (.dK kvs)))
theorem od1_m : Pm p (Od1 p) := fun v H1 H2 e h => by
  rcases h with h | h | h | ⟨a, h1, h2, h3⟩
  · exact .inl h
  · exact .inr (.inl h)
  · exact .inr (.inr (.inl h))
  · refine .inr (.inr (.inr ⟨a, h1, h2, ?_⟩))
    rcases h3 with ⟨xs, h⟩ | ⟨xs, h⟩ | ⟨kvs, h⟩
    · exact .inl ⟨xs, e _ _ h2 h⟩
    · exact .inr (.inl ⟨xs, e _ _ h2 h⟩)
    · exact .inr (.inr ⟨kvs, e _ _ h2 h⟩)
theorem od1_q {v : V} (h : Od1 p v H) : OddQ K H v := by
  rcases h with rfl | ⟨b, rfl⟩ | ⟨z, rfl⟩ | ⟨a, rfl, _, h3⟩
  · exact ⟨"NoneType", by simp, fun _ _ => .base .non⟩
  · exact ⟨"bool", by simp, fun _ _ => .base (.bl b)⟩
  · exact ⟨"str", by simp, ty_str⟩
  · rcases h3 with ⟨xs, h⟩ | ⟨xs, h⟩ | ⟨kvs, h⟩
    · exact ⟨"list", by simp, fun H1 e => ty_L (sq_of (e _ _ h))⟩
    · exact ⟨"tuple", by simp, fun H1 e => ty_T (st_of (e _ _ h))⟩
    · exact ⟨"dict", by simp, fun H1 e => .base (.dK (e _ _ h))⟩
theorem o1_lst {vs : List V} (hp : Pen K H p B) (h : EvA tA σ H vs) (hl : vs.length ≤ 100000) : EvP (tLst tA) σ H (Od1 p) := fun H1 e Q q => el_lst h hl H1 e _ fun a H2 ha e2 h2 => q _ H2 e2 (.inr (.inr (.inr ⟨a, rfl, (hp.mono e (Nat.le_refl _)).ne ha, .inl ⟨_, h2⟩⟩)))
theorem g_lst {Q : VK} (h : tA σ H fun vs H1 => vs.length ≤ sizeLine ∧ ∀ p, H1 p = none → Q (.ref p) (upd H1 p (.lst vs))) : tLst tA σ H Q := h
theorem o1_lst2 {vs : List V} {tB' : TA} (hp : Pen K H p B) (h : EvA tB' σ H vs) (hl : vs.length ≤ 100000) : EvP (tLst (tCons (tLst tB') tNil)) σ H (Od1 p) := fun H1 e Q q => g_lst (g_cons (el_lst h hl H1 e _ fun a H2 ha e2 h2 => ⟨sz_of (by show 1 ≤ 100000; decide), fun b hb => q _ _ (e2.trans (Ex.new hb)) (.inr (.inr (.inr ⟨b, rfl, (hp.mono (e.trans e2) (Nat.le_refl _)).ne hb, .inl ⟨_, upd_same⟩⟩)))⟩))
theorem o1_tup {vs : List V} (hp : Pen K H p B) (h : EvA tA σ H vs) (hl : vs.length ≤ 100000) : EvP (tTup tA) σ H (Od1 p) := fun H1 e Q q => eu_tup h hl H1 e _ fun a H2 ha e2 h2 => q _ H2 e2 (.inr (.inr (.inr ⟨a, rfl, (hp.mono e (Nat.le_refl _)).ne ha, .inr (.inl ⟨_, h2⟩)⟩)))
theorem o1_d0 (hp : Pen K H p B) : EvP tDNewK σ H (Od1 p) := fun H1 e Q q a ha => q _ _ (Ex.new ha) (.inr (.inr (.inr ⟨a, rfl, (hp.mono e (Nat.le_refl _)).ne ha, .inr (.inr ⟨_, upd_same⟩)⟩)))
theorem o1_d1 (hp : Pen K H p B) : EvP (tDisp [(tC (.int 1), tC (.int 2))]) σ H (Od1 p) := fun H1 e Q q a ha =>
  ⟨upd_same, [(.inl 1, .int 2)], rfl, by decide, q _ _ (Ex.mut (Ex.new ha) ha) (.inr (.inr (.inr ⟨a, rfl, (hp.mono e (Nat.le_refl _)).ne ha, .inr (.inr ⟨_, upd_same⟩)⟩)))⟩
/-- no row -/
def Od2 (cR p : Addr) (v : V) (H : Hp) : Prop := v = .non ∨ (∃ i, v = .int i) ∨ (∃ b, v = .bl b) ∨ (∃ z, v = .str z) ∨ ∃ a, v = .ref a ∧ a ≠ p ∧ ((∃ kvs, H a = some (.dK kvs)) ∨ (∃ dx fs, H a = some (.ins cR dx fs)))
theorem od2_m : Pm p (Od2 cR p) := fun v H1 H2 e h => by
  rcases h with h | h | h | h | ⟨a, h1, h2, h3⟩
  · exact .inl h
  · exact .inr (.inl h)
  · exact .inr (.inr (.inl h))
  · exact .inr (.inr (.inr (.inl h)))
  · refine .inr (.inr (.inr (.inr ⟨a, h1, h2, ?_⟩)))
    rcases h3 with ⟨kvs, h⟩ | ⟨dx, fs, h⟩
    · exact .inl ⟨kvs, e _ _ h2 h⟩
    · exact .inr ⟨dx, fs, e _ _ h2 h⟩
theorem od2_b {v : V} (C : RC1 K cR) (hk : PySem.W.kitAny K (.ref cR) rowTs = some false) (h : Od2 cR p v H) : BadRow K cR H v := by
  have kt : ∀ T : String, T ∈ ["NoneType", "int", "bool", "str", "dict"] → PySem.W.kitAny K (.type T) rowTs = some false := fun T hT => by
    simp at hT
    rcases hT with rfl | rfl | rfl | rfl | rfl <;> exact kitA (b1 := false) (b2 := false) (kit_ty (by decide +kernel)) (kit_ty (by decide +kernel))
  rcases h with rfl | ⟨i, rfl⟩ | ⟨b, rfl⟩ | ⟨z, rfl⟩ | ⟨a, rfl, _, h3⟩
  · exact .inl ⟨.type "NoneType", fun _ _ => .base .non, kt _ (by simp)⟩
  · exact .inl ⟨.type "int", ty_int, kt _ (by simp)⟩
  · exact .inl ⟨.type "bool", fun _ _ => .base (.bl b), kt _ (by simp)⟩
  · exact .inl ⟨.type "str", ty_str, kt _ (by simp)⟩
  · rcases h3 with ⟨kvs, h⟩ | ⟨dx, fs, h⟩
    · exact .inl ⟨.type "dict", fun H1 e => .base (.dK (e _ _ h)), kt _ (by simp)⟩
    · exact .inl ⟨.ref cR, fun H1 e => C.ty (e _ _ h), hk⟩
theorem o2_d0 (hp : Pen K H p B) : EvP tDNewK σ H (Od2 cR p) := fun H1 e Q q a ha => q _ _ (Ex.new ha) (.inr (.inr (.inr (.inr ⟨a, rfl, (hp.mono e (Nat.le_refl _)).ne ha, .inl ⟨_, upd_same⟩⟩))))
theorem o2_d1 (hp : Pen K H p B) : EvP (tDisp [(tC (.int 1), tC (.int 2))]) σ H (Od2 cR p) := fun H1 e Q q a ha =>
  ⟨upd_same, [(.inl 1, .int 2)], rfl, by decide, q _ _ (Ex.mut (Ex.new ha) ha) (.inr (.inr (.inr (.inr ⟨a, rfl, (hp.mono e (Nat.le_refl _)).ne ha, .inl ⟨_, upd_same⟩⟩))))⟩
theorem ev_part {E : L2.St → XK} {a : Addr} {v : V} {i : Int} {q : Rat} {due : Str} (h : EvA tA σ H [.int i, .ref a, v]) (hq : IsQ cR H a q) (hd : ∀ H1, Ex H H1 → PartDue K cR H1 q v i due) : Ev (tCallSD (spPart K cR) [] E tA) σ H (.str due) := ev_gf h fun H1 e Q k _ => ⟨a, v, q, i, due, rfl, hq.mono e, hd H1 e, k⟩
theorem ev_strsNeV {zs : List Str} {d : Addr} (h1 : EvL ta σ H (zs.map V.str)) (h2 : Ev tb σ H (.ref d)) (hd : SqL K H d (zs.map V.str)) (hs : SeqAt.shaped (.list (zs.map PyData.str)) = true) (he : PyData.eqv (.list (zs.map PyData.str)) (.list (zs.map PyData.str)) = true) : Ev (tOp (rNeD K) ta tb) σ H (.bl false) := fun H1 e Q k =>
  h1 H1 e _ fun p H2 hp e2 hq => h2 H2 (e.trans e2) _ fun H3 e3 => ⟨_, _, .lst (sq_of (e3 _ _ hq)) dp_strs, .lst (ex_l ((e.trans e2).trans e3) hd) dp_strs, hs, hs, by rw [he]; exact k H3 (e2.trans e3)⟩
theorem isq_b {H' : Hp} {a : Addr} {q : Rat} (h : IsQ cR H a q) (e : ExB p H H') (n : a ≠ p) : IsQ cR H' a q := let ⟨dx, h⟩ := h; ⟨dx, e _ _ n h⟩
theorem isq_ne {a : Addr} {q : Rat} (h : IsQ cR H a q) (hp : Pen K H p B) : a ≠ p := fun z => by
  obtain ⟨dx, h⟩ := h
  obtain ⟨_, _, _, _, h2, _⟩ := hp
  rw [z, h2] at h
  cases h
end
end K1

/-! # K01q -/
set_option Elab.async false
set_option linter.all false
set_option maxRecDepth 100000
set_option maxHeartbeats 4000000
set_option exponentiation.threshold 4000
namespace K1
open PySem PyProof.Rows L2 Pk Evl
section
variable {P : Program} {w : World} {K : PySem.W.Frag} {mg : Str → Option Value} {base : Heap} {cPE cBR cR : Addr} {σ : L2.St} {H : Hp}
/-! ### _law_refused_right -/
def spRef1 (K : PySem.W.Frag) (cR : Addr) : Sp := fun vs H Q _ => ∃ (p a : Addr) (B : Nat) (q : Rat), vs = [.ref p, .ref a] ∧ Pen K H p B ∧ B < 900000 ∧ IsQ cR H a q ∧ Sz 900 q ∧ ∀ H', ExB p H H' → Pen K H' p (B + 2) → Q (.bl true) H'
abbrev s_ref : Stmt := top 32
theorem sc_ref : FnScope ["_law_pen_here", "_law_ratio", "_law_odd", "_law_due", "_law_some", "_law_way"] ["_law_pen_here", "_law_ratio"] (defScope s_ref) := ⟨rfl, rfl, rfl, by decide +kernel, rfl, by decide +kernel, by decide +kernel⟩
abbrev dues : List Str := ["other", "other", "other", "other", "other", "other", "value", "top", "bottom"]
theorem due9 {v : V} {q : Rat} (ho : OddQ K H v) {i : Nat} (hi : i < 9) : PartDue K cR H q v (i : Int) (dues.getD i "") := by
  match i, hi with
  | 0, _ => exact .inl ⟨by decide, by decide, ho, rfl⟩
  | 1, _ => exact .inl ⟨by decide, by decide, ho, rfl⟩
  | 2, _ => exact .inl ⟨by decide, by decide, ho, rfl⟩
  | 3, _ => exact .inl ⟨by decide, by decide, ho, rfl⟩
  | 4, _ => exact .inl ⟨by decide, by decide, ho, rfl⟩
  | 5, _ => exact .inl ⟨by decide, by decide, ho, rfl⟩
  | 6, _ => exact .inr (.inl ⟨rfl, ho, rfl⟩)
  | 7, _ => exact .inr (.inr (.inl ⟨rfl, ho, rfl⟩))
  | 8, _ => exact .inr (.inr (.inr (.inl ⟨rfl, .inl ho, rfl⟩)))
theorem ok_ref {f : Addr} {fd : FuncData} (F : Fun K "_law_refused_right" "_law_refused_right" s_ref f fd) (B : Bj mg) (C : RC1 K cR) (hk : PySem.W.kitAny K (.ref cR) rowTs = some false) (hne : PySem.W.findIn K (.ref cR) "__ne__" = some (some (.builtin "object.__ne__"))) (hm : PySem.W.mroIn K cR (.type "object") = some true)
    (GEq : OM P w K mg base 2 cR "__eq__" (spEqQ K cR)) (GSt : OM P w K mg base 1 cR "__str__" (spStQ cR)) (GPi : GF P w K mg base 2 "_law_pick" (spPick K) []) (GPa : GF P w K mg base 10 "_law_part" (spPart K cR) []) :
    FnG P w K mg base 11 f fd ["_law_pen_here", "_law_ratio"] (spRef1 K cR) := by
  refine okG F sc_ref (fun vs H Q E h => ?_) (fun cdv A outer s H vs Q E hr h => ?_)
  · obtain ⟨p, a, N, q, rfl, _⟩ := h
    rfl
  · obtain ⟨p, a, N, q, rfl, hp, hN, hq, s1, k⟩ := h
    have nd := sc_ref.nd
    have h2 := hr.mono (j := 2) (by decide)
    have h3 := hr.mono (j := 3) (by decide)
    refine ⟨_, (pss_cons (ps_set (i := 2) nd rfl (Or.inr rfl) (pe_gf GPi h2 (takes_of rfl rfl rfl rfl) (by rfl) (pa_cons (pv 0) (pa_cons (pe_lst (pa_cons pe_non (pa_cons pe_bl (pa_cons pe_bl (pa_cons pe_str (pa_cons pe_str (pa_cons (pe_tup (pa_cons pe_int (pa_cons pe_int pa_nil))) (pa_cons (pe_lst (pa_cons (pe_lst (pa_cons pe_int pa_nil)) pa_nil)) (pa_cons pe_dnewK (pa_cons (pe_disp (pps_cons pe_int pe_int pps_nil) rfl rfl (by simp) (by decide)) pa_nil)))))))))) pa_nil))))
  (pss_cons (ps_set (i := 3) nd rfl (Or.inl rfl) (pe_lst (pa_cons pe_str (pa_cons pe_str (pa_cons pe_str (pa_cons pe_str (pa_cons pe_str (pa_cons pe_str (pa_cons pe_str (pa_cons pe_str (pa_cons pe_str pa_nil)))))))))))
  (pss_cons (ps_if (PW.pt (pw_or (pt_cmpR (op_neD hr.r.units) (pe_lc (own := [("_law_way", 5)]) rfl nd (pi_range1 (by rfl) B.range (pa_cons pe_int pa_nil)) (blkOk_by (N := ["_law_pen_here", "_law_ratio", "_law_odd", "_law_due", "_law_some", "_law_way"]) (sc := defScope s_ref) (by decide +kernel)) (fun _ _ _ _ _ => (pg_name (i := 5) nd rfl (Or.inl rfl))) (fun _ _ _ _ _ => pts_nil) (fun _ _ _ _ _ => (pe_gf GPa hr L2.takes0 (by rfl) (pa_cons (pv 5) (pa_cons (pv 1) (pa_cons (pv 2) pa_nil)))))) (pv 3) (nomark _)) (pw_or (pt_cmpR (op_eqO GEq h2) (pv 1) (pv 2) (nomark _)) (pw_or1 (pt_not (pt_cmpR (op_neO GEq hne hm h3) (pv 1) (pv 2) (nomark _)))))))
    (pss_one (ps_ret pe_bl))
    pss_nil)
  (pss_cons (ps_if (pt_cmpR (op_neD hr.r.units) (pe_lc (own := [("_law_way", 5)]) rfl nd (pi_list (pe_lst (pa_cons pe_int (pa_cons pe_int (pa_cons pe_int pa_nil))))) (blkOk_by (N := ["_law_pen_here", "_law_ratio", "_law_odd", "_law_due", "_law_some", "_law_way"]) (sc := defScope s_ref) (by decide +kernel)) (fun _ _ _ _ _ => (pg_name (i := 5) nd rfl (Or.inl rfl))) (fun _ _ _ _ _ => pts_nil) (fun _ _ _ _ _ => (pe_gf GPa hr L2.takes0 (by rfl) (pa_cons (pv 5) (pa_cons (pv 1) (pa_cons (pv 2) pa_nil)))))) (pe_op op_rep (pe_lst (pa_cons pe_str pa_nil)) pe_int) (nomark _))
    (pss_one (ps_ret pe_bl))
    pss_nil)
  (pss_cons (ps_set (i := 4) nd rfl (Or.inr rfl) (pe_gf GPi h2 (takes_of rfl rfl rfl rfl) (by rfl) (pa_cons (pv 0) (pa_cons (pe_lst (pa_cons pe_non (pa_cons pe_int (pa_cons pe_bl (pa_cons pe_str (pa_cons pe_dnewK (pa_cons (pe_disp (pps_cons pe_int pe_int pps_nil) rfl rfl (by simp) (by decide)) (pa_cons (pv 1) pa_nil)))))))) pa_nil))))
  (pss_cons (ps_if (pt_cmpR (op_neD hr.r.units) (pe_lc (own := [("_law_way", 5)]) rfl nd (pi_list (pe_lst (pa_cons pe_int (pa_cons pe_int (pa_cons pe_int pa_nil))))) (blkOk_by (N := ["_law_pen_here", "_law_ratio", "_law_odd", "_law_due", "_law_some", "_law_way"]) (sc := defScope s_ref) (by decide +kernel)) (fun _ _ _ _ _ => (pg_name (i := 5) nd rfl (Or.inl rfl))) (fun _ _ _ _ _ => pts_nil) (fun _ _ _ _ _ => (pe_gf GPa hr L2.takes0 (by rfl) (pa_cons (pv 5) (pa_cons (pv 1) (pa_cons (pv 4) pa_nil)))))) (pe_op op_rep (pe_lst (pa_cons pe_str pa_nil)) pe_int) (nomark _))
    (pss_one (ps_ret pe_bl))
    pss_nil)
  (pss_one (ps_ret (pe_and (pe_cmpR op_eq (pe_gf GPa hr (takes_of rfl rfl rfl rfl) (by rfl) (pa_cons pe_int (pa_cons (pv 1) (pa_cons pe_int pa_nil)))) pe_str (nomark _)) (pe_and (pe_cmpR op_eq (pe_gf GPa hr (takes_of rfl rfl rfl rfl) (by rfl) (pa_cons pe_int (pa_cons (pv 1) (pa_cons pe_str pa_nil)))) pe_str (nomark _)) (pe_one (pe_cmpR (op_neO GEq hne hm h3) (pv 1) (pe_callTy (call_strO GSt h3) (by rfl) B.str Boot.«str» (pa_cons (pv 1) pa_nil)) (nomark _))))))))))))), ?_⟩
    have n1 := isq_ne hq hp
    refine q_set (go_pickR (p := p) (R := Od1 p) (B := N) od1_m (ev_var rfl) (rw_cons od1_m (rw_c fun _ => .inl rfl) (rw_cons od1_m (rw_c fun _ => .inr (.inl ⟨_, rfl⟩)) (rw_cons od1_m (rw_c fun _ => .inr (.inl ⟨_, rfl⟩)) (rw_cons od1_m (rw_c fun _ => .inr (.inr (.inl ⟨_, rfl⟩))) (rw_cons od1_m (rw_c fun _ => .inr (.inr (.inl ⟨_, rfl⟩))) (rw_cons od1_m (o1_tup hp (ea_cons ev_c (ea_cons ev_c ea_nil)) (by show 2 ≤ 100000; decide)) (rw_cons od1_m (o1_lst2 hp (ea_cons ev_c ea_nil) (by show 1 ≤ 100000; decide)) (rw_cons od1_m (o1_d0 hp) (rw_cons od1_m (o1_d1 hp) rw_nil))))))))) hp (by omega) (by decide) (by decide) fun v H1 ho1 e1 hp1 => ?_)
    have hq1 := isq_b hq e1 n1
    have od : OddQ K H1 v := od1_q ho1
    refine q_set (el_lst (ea_cons ev_c (ea_cons ev_c (ea_cons ev_c (ea_cons ev_c (ea_cons ev_c (ea_cons ev_c (ea_cons ev_c (ea_cons ev_c (ea_cons ev_c ea_nil))))))))) (by show 9 ≤ 100000; decide) H1 (Ex.refl H1) _ fun d H2 hd e2 hd2 => ?_)
    have hq2 := hq1.mono e2
    have od2 := od.mono e2
    refine q_when (b := false) (et_is (et_or (a := false) (b := false) (et_test (ev_strsNeV (K := K) (zs := dues) (el_lcR1 (n := 9) (fun _ => true) (fun i => .str (dues.getD i "")) (ea_cons ev_c ea_nil) (by decide) (fun _ => rfl) (fun _ _ _ _ Hy _ Qy ky => ky Hy (Ex.refl Hy)) (fun i H3 e3 hi _ => ev_part (ea_cons (ev_var rfl) (ea_cons (ev_var rfl) (ea_cons (ev_var rfl) ea_nil))) (hq2.mono e3) fun H4 e4 => due9 (od2.mono (e3.trans e4)) (by omega))) (ev_var rfl) (sq_of hd2) (by decide +kernel) (by decide +kernel))) fun _ => et_or (a := false) (b := false) (et_test (ev_eqX C (eq_var rfl hq2) (ev_var rfl) od2)) fun _ => et_not (a := true) (et_test (ev_neX C (eq_var rfl hq2) (ev_var rfl) od2))) rfl) (fun z => nomatch z) (fun _ H3 e3 => ?_)
    have hq3 := hq2.mono e3
    have od3 := od2.mono e3
    refine q_when (b := false) (et_test (ev_strsNe (zs := ["ratios", "ratios", "ratios"]) (K := K) (el_lcNL (xs := [.int 12, .int 13, .int 14]) (fun _ => true) (fun _ => .str "ratios") (el_lst (ea_cons ev_c (ea_cons ev_c (ea_cons ev_c ea_nil))) (by show 3 ≤ 100000; decide)) (by show 3 ≤ 40000; decide) (fun _ => rfl) (fun _ _ _ _ _ Hy _ Qy ky => ky Hy (Ex.refl Hy)) (fun i x H5 e5 hi _ => ?_)) (el_repS (z := "ratios") (n := 3) (by decide)) (by decide +kernel) (by decide +kernel))) (fun z => nomatch z) (fun _ H4 e4 => ?_)
    · have hx2 : ∃ n : Int, x = .int n ∧ 12 ≤ n ∧ n < 15 := by
        match i, hi with
        | 0, hi => cases hi; exact ⟨_, rfl, by decide, by decide⟩
        | 1, hi => cases hi; exact ⟨_, rfl, by decide, by decide⟩
        | 2, hi => cases hi; exact ⟨_, rfl, by decide, by decide⟩
        | (i + 3), hi => simp at hi
      obtain ⟨n, rfl, hn1, hn2⟩ := hx2
      exact ev_part (ea_cons (ev_var rfl) (ea_cons (ev_var rfl) (ea_cons (ev_var rfl) ea_nil))) (hq3.mono e5) fun H6 e6 => .inr (.inr (.inr (.inr (.inr (.inr (.inr ⟨hn1, hn2, od3.mono (e5.trans e6), rfl⟩))))))
    have e24 := (e2.trans e3).trans e4
    have hp4 := hp1.mono e24 (Nat.le_refl _)
    have hq4 := hq3.mono e4
    obtain ⟨dx4, ha4⟩ := id hq4
    refine q_set (go_pickR (p := p) (R := Od2 cR p) (B := N + 1) od2_m (ev_var rfl) (rw_cons od2_m (rw_c fun _ => .inl rfl) (rw_cons od2_m (rw_c fun _ => .inr (.inl ⟨_, rfl⟩)) (rw_cons od2_m (rw_c fun _ => .inr (.inr (.inl ⟨_, rfl⟩))) (rw_cons od2_m (rw_c fun _ => .inr (.inr (.inr (.inl ⟨_, rfl⟩)))) (rw_cons od2_m (o2_d0 hp4) (rw_cons od2_m (o2_d1 hp4) (rw_cons od2_m (fun Hy ey Qy ky => ev_var (v := .ref a) rfl Hy ey Qy fun Hz ez => ky _ Hz ez (.inr (.inr (.inr (.inr ⟨a, rfl, n1, .inr ⟨dx4, _, (ey.trans ez) _ _ ha4⟩⟩))))) rw_nil))))))) hp4 (by omega) (by decide) (by decide) fun u H5 ho5 e5 hp5 => ?_)
    have hq5 := isq_b hq4 e5 n1
    have bad := od2_b C hk ho5
    refine q_when (b := false) (et_test (ev_strsNe (zs := ["ratios", "ratios", "ratios"]) (K := K) (el_lcNL (xs := [.int 9, .int 10, .int 11]) (fun _ => true) (fun _ => .str "ratios") (el_lst (ea_cons ev_c (ea_cons ev_c (ea_cons ev_c ea_nil))) (by show 3 ≤ 100000; decide)) (by show 3 ≤ 40000; decide) (fun _ => rfl) (fun _ _ _ _ _ Hy _ Qy ky => ky Hy (Ex.refl Hy)) (fun i x H6 e6 hi _ => ?_)) (el_repS (z := "ratios") (n := 3) (by decide)) (by decide +kernel) (by decide +kernel))) (fun z => nomatch z) (fun _ H6 e6 => ?_)
    · have hx2 : ∃ n : Int, x = .int n ∧ 9 ≤ n ∧ n < 12 := by
        match i, hi with
        | 0, hi => cases hi; exact ⟨_, rfl, by decide, by decide⟩
        | 1, hi => cases hi; exact ⟨_, rfl, by decide, by decide⟩
        | 2, hi => cases hi; exact ⟨_, rfl, by decide, by decide⟩
        | (i + 3), hi => simp at hi
      obtain ⟨n, rfl, hn1, hn2⟩ := hx2
      exact ev_part (ea_cons (ev_var rfl) (ea_cons (ev_var rfl) (ea_cons (ev_var rfl) ea_nil))) (hq5.mono e6) fun H7 e7 => .inr (.inr (.inr (.inr (.inr (.inl ⟨hn1, hn2, bad.mono (e6.trans e7), rfl⟩)))))
    have hq6 := hq5.mono e6
    obtain ⟨dx6, ha6⟩ := id hq6
    have sO : ∀ H7 (z : Str), OddQ K H7 (.str z) := fun H7 z => ⟨"str", by simp, ty_str⟩
    refine s_ret (v := .bl true) (ev_is (ev_andV (ev_op (ev_part (due := "bottom") (ea_cons ev_c (ea_cons (ev_var rfl) (ea_cons ev_c ea_nil))) hq6 fun H7 e7 => .inr (.inr (.inr (.inl ⟨rfl, .inr rfl, rfl⟩)))) ev_c (rv_eq rfl)) fun _ => ev_andV (ev_op (ev_part (due := "top") (ea_cons ev_c (ea_cons (ev_var rfl) (ea_cons ev_c ea_nil))) hq6 fun H7 e7 => .inr (.inr (.inl ⟨rfl, sO _ _, rfl⟩))) ev_c (rv_eq rfl)) fun _ => ev_neX C (eq_var rfl hq6) (ev_cb (ea_cons (ev_var rfl) ea_nil) (rc_strO ha6 (spv_StQ hq6 (s1.mono (by decide))))) (sO _ _)) (by simp)) fun H7 e7 => ?_
    exact k H7 (((e1.trans (ExB.of e24)).trans e5).trans (ExB.of (e6.trans e7))) (hp5.mono (e6.trans e7) (by omega))
end
end K1

/-! # K01r -/
set_option Elab.async false
set_option linter.all false
set_option maxRecDepth 100000
set_option maxHeartbeats 4000000
set_option exponentiation.threshold 4000
namespace K1
open PySem PyProof.Rows L2 Pk Evl
/-! ### sums over one denominator -/
theorem num_le {t b : Int} (hb : b ≠ 0) : (Rat.divInt t b).num.natAbs ≤ t.natAbs := by
  rw [Rat.num_divInt]
  have hs : (b.sign * t).natAbs = t.natAbs := by
    rw [Int.natAbs_mul]
    have : b.sign.natAbs = 1 := by
      rcases Int.lt_trichotomy b 0 with z | z | z
      · rw [Int.sign_eq_neg_one_of_neg z]; rfl
      · exact absurd z hb
      · rw [Int.sign_eq_one_of_pos z]; rfl
    rw [this, Nat.one_mul]
  calc (b.sign * t / ↑(b.gcd t)).natAbs ≤ (b.sign * t).natAbs := Int.natAbs_ediv_le_natAbs _ _
    _ = t.natAbs := hs
theorem den_le {t b : Int} (hb : b ≠ 0) : (Rat.divInt t b).den ≤ b.natAbs := by
  rw [Rat.den_divInt, if_neg hb]
  exact Nat.div_le_self _ _
theorem div_add {n m d : Int} (hd : d ≠ 0) : Rat.divInt n d + Rat.divInt m d = Rat.divInt (n + m) d := by
  rw [Rat.divInt_add_divInt _ _ hd hd, ← Int.add_mul, Rat.divInt_mul_right hd]
theorem sum_in {D : Int} (hD : D ≠ 0) : ∀ (qs : List Rat) (acc : Rat) (A : Int), acc = Rat.divInt A D → (∀ q ∈ qs, ∃ n : Int, q = Rat.divInt n D ∧ n.natAbs < 2 ^ 600) → ∃ N : Int, qs.foldl (· + ·) acc = Rat.divInt N D ∧ N.natAbs ≤ A.natAbs + qs.length * 2 ^ 600 := by
  intro qs
  induction qs with
  | nil => intro acc A h _; exact ⟨A, h, by omega⟩
  | cons q qs ih =>
    intro acc A h hq
    obtain ⟨n, rfl, hn⟩ := hq q (by simp)
    subst h
    obtain ⟨N, e, hN⟩ := ih (Rat.divInt A D + Rat.divInt n D) (A + n) (div_add hD) (fun r hr => hq r (List.mem_cons_of_mem _ hr))
    refine ⟨N, e, ?_⟩
    rw [List.length_cons, Nat.add_mul]
    omega
theorem sum_ok {D : Int} (hD : D ≠ 0) (hd : D.natAbs < 2 ^ 400) {qs : List Rat} (hl : qs.length ≤ 6) (h : ∀ q ∈ qs, ∃ n : Int, q = Rat.divInt n D ∧ n.natAbs < 2 ^ 600) (k : Nat) : SumOk (sumQ (qs.take k)) := by
  obtain ⟨N, e, hN⟩ := sum_in hD (qs.take k) 0 0 (by rw [Rat.zero_divInt]) (fun q hq => h q (List.mem_of_mem_take hq))
  unfold sumQ
  rw [e]
  have hk : (qs.take k).length ≤ 6 := by rw [List.length_take]; omega
  have h6 : (qs.take k).length * 2 ^ 600 ≤ 6 * 2 ^ 600 := Nat.mul_le_mul_right _ hk
  have h7 : 6 * 2 ^ 600 < 2 ^ 700 := by decide +kernel
  refine ⟨Nat.lt_of_le_of_lt (num_le hD) ?_, Nat.lt_of_le_of_lt (den_le hD) hd⟩
  simp only [Int.natAbs_zero, Nat.zero_add] at hN
  exact Nat.lt_of_le_of_lt (Nat.le_trans hN h6) h7
/-- the three, over the first two's denominators -/
theorem three_in {q r : Rat} {n : Int} (s1 : Sz 200 q) (s2 : Sz 200 r) (hn : n.natAbs < 2 ^ 200) : (q.den : Int) * (r.den : Int) ≠ 0 ∧ ((q.den : Int) * (r.den : Int)).natAbs < 2 ^ 400 ∧
    ∀ x ∈ [q, r, (n : Rat)], ∃ m : Int, x = Rat.divInt m ((q.den : Int) * (r.den : Int)) ∧ m.natAbs < 2 ^ 600 := by
  obtain ⟨_, _, b3, _, b5, b6⟩ := sz_add s1 s2
  have up : ∀ {k : Nat}, k < 2 ^ (200 + 200) → k < 2 ^ 600 := fun h => Nat.lt_of_lt_of_le h (Nat.pow_le_pow_right (by decide) (by decide))
  refine ⟨den0 q r, b3, fun x hx => ?_⟩
  simp only [List.mem_cons, List.not_mem_nil, or_false] at hx
  rcases hx with rfl | rfl | rfl
  · exact ⟨x.num * (r.den : Int), by rw [Rat.divInt_mul_right (den1 r), self_q], up b5⟩
  · exact ⟨x.num * (q.den : Int), by rw [Int.mul_comm (q.den : Int), Rat.divInt_mul_right (den1 q), self_q], up b6⟩
  · refine ⟨n * ((q.den : Int) * (r.den : Int)), ?_, wide_lt (a := 200) (b := 400) hn b3⟩
    have := Rat.divInt_mul_right (n := n) (d := 1) (a := (q.den : Int) * (r.den : Int)) (den0 q r)
    rw [Int.one_mul] at this
    rw [this, int_q]
section
variable {P : Program} {w : World} {K : PySem.W.Frag} {mg : Str → Option Value} {base : Heap} {cPE cBR cR p : Addr} {σ : L2.St} {H H' : Hp} {ta tb te : TE} {tA : TA} {c B : Nat} {q : Rat} {W : WX}
/-! ### what stays where only the pen moves -/
theorem sqt_b {t : Addr} {xs : List V} (h : SqT K H t xs) (hp : Pen K H p B) (e : ExB p H H') : SqT K H' t xs := by
  obtain ⟨_, _, _, _, h2, _⟩ := hp
  rcases h with h | h
  · refine .inl (exb_rd e (fun z => ?_) h)
    rcases h with h | ⟨o, h⟩
    · rw [z, h2] at h; cases h
    · rw [z, h2] at h; cases h
  · exact .inr h
theorem isq_p {a : Addr} (h : IsQ cR H a q) (hp : Pen K H p B) (e : ExB p H H') : IsQ cR H' a q := isq_b h e (isq_ne h hp)
theorem num_p {v : V} (h : Num cR H v q) (hp : Pen K H p B) (e : ExB p H H') : Num cR H' v q := h.imp (fun ⟨a, h1, h2⟩ => ⟨a, h1, isq_p h2 hp e⟩) id
/-! ### the law's own expressions -/
theorem eq_mk {tA : TA} {vs dvs : List V} {t b : Int} (h : EvA tA σ H vs) (hv : vs ++ dvs = [.int t, .int b]) (hb0 : b ≠ 0) (hb : b.natAbs < 2 ^ 2000) (hq : Rat.divInt t b = q) : EQ cR (tGC cR (spQI K cR cBR) dvs W tA) σ H q := by
  rw [← hq]
  exact ep_Q h hv hb0 hb
theorem eq_mkK {gV : List V → List V → List V} {t b : Int} (hgv : ∀ s x y, gV [s] [x, y] = [s, y, x]) (h : EvA tA σ H [.int b, .int t]) (hb0 : b ≠ 0) (hb : b.natAbs < 2 ^ 2000) (hq : Rat.divInt t b = q) : EQ cR (tGCK cR 2 (spQI K cR cBR) gV W tA) σ H q := fun H0 e0 Q k =>
  h H0 e0 _ fun H1 e1 => ⟨rfl, fun x dx hx hdx hne => by
    rw [hgv]
    exact ⟨x, dx, .int t, .int b, rfl, upd_same, .inl ⟨t, b, rfl, rfl, hb0, hb, fun H2 e2 hq2 => ⟨rfl, k _ H2 (e1.trans (made_ex hx hdx hne e2)) ⟨x, rfl, by rw [← hq]; exact hq2⟩⟩⟩⟩⟩
theorem eq_of {E : L2.St → XK} (h : EN cR te σ H q) : EQ cR (tCallSD (spOf K cR cBR) [] E (tCons te tNil)) σ H q := fun H1 e Q k => h H1 e _ fun v H2 e2 hv => ⟨v, rfl, v, _, rfl, .inl ⟨q, hv, fun a H' e' hq => k _ H' (e2.trans e') ⟨a, rfl, hq⟩⟩⟩
theorem eu_pair (h1 : Ev ta σ H (.int q.num)) (h2 : Ev tb σ H (.int (q.den : Int))) : EU K (tTup (tCons ta (tCons tb tNil))) σ H q := fun H1 e Q k => eu_tup (ea_cons h1 (ea_cons h2 ea_nil)) (by show 2 ≤ 100000; decide) H1 e _ fun p H2 hp e2 hq => k _ H2 e2 ⟨p, rfl, st_of hq⟩
end
end K1

/-! # K01s -/
set_option Elab.async false
set_option linter.all false
set_option maxRecDepth 100000
set_option maxHeartbeats 4000000
set_option exponentiation.threshold 4000
namespace K1
open PySem PyProof.Rows L2 Pk Evl
theorem num_sgn {n d : Int} (hd : 0 < d) : (Rat.divInt n d).num < 0 ↔ n < 0 := by
  rw [Rat.num_divInt, Int.sign_eq_one_of_pos hd, Int.one_mul]
  have hg : 0 < d.gcd n := Nat.gcd_pos_of_pos_left _ (by omega)
  have hdv : ((d.gcd n : Nat) : Int) ∣ n := Int.gcd_dvd_right ..
  obtain ⟨c, hc⟩ := hdv
  have hp : (0 : Int) < ((d.gcd n : Nat) : Int) := by omega
  have e : n / ((d.gcd n : Nat) : Int) = c := by
    conv => lhs; lhs; rw [hc]
    rw [Int.mul_ediv_cancel_left _ (by omega)]
  rw [e]
  constructor
  · intro h
    rw [hc]
    exact Int.mul_neg_of_pos_of_neg hp h
  · intro h
    rw [hc] at h
    rcases Int.lt_or_le c 0 with z | z
    · exact z
    · have := Int.mul_nonneg (Int.le_of_lt hp) z
      omega
theorem mul_sgn (q r : Rat) : (q * r).num < 0 ↔ q.num * r.num < 0 := by
  rw [← mul_q]
  exact num_sgn (Int.mul_pos (den_pos q) (den_pos r))
theorem num0 {q : Rat} (h : q.num = 0) : q = 0 := by
  rw [← self_q q, h, Rat.zero_divInt]
theorem abs_mul (q r : Rat) : absQ (q * r) = absQ q * absQ r := by
  have h := mul_sgn q r
  unfold absQ
  by_cases h1 : q.num < 0
  · by_cases h2 : r.num < 0
    · have := Int.mul_pos_of_neg_of_neg h1 h2
      rw [if_neg (by rw [h]; omega), if_pos h1, if_pos h2]
      grind
    · by_cases h3 : r.num = 0
      · have z := num0 h3
        subst z
        rw [if_neg (by rw [h, h3]; omega), if_pos h1, if_neg h2]
        grind
      · have := Int.mul_neg_of_neg_of_pos h1 (show 0 < r.num by omega)
        rw [if_pos (by rw [h]; omega), if_pos h1, if_neg h2]
        grind
  · by_cases h2 : r.num < 0
    · by_cases h3 : q.num = 0
      · have z := num0 h3
        subst z
        rw [if_neg (by rw [h, h3]; omega), if_neg h1, if_pos h2]
        grind
      · have := Int.mul_neg_of_pos_of_neg (show 0 < q.num by omega) h2
        rw [if_pos (by rw [h]; omega), if_neg h1, if_pos h2]
        grind
    · have := Int.mul_nonneg (show 0 ≤ q.num by omega) (show 0 ≤ r.num by omega)
      rw [if_neg (by rw [h]; omega), if_neg h1, if_neg h2]
section
variable {P : Program} {w : World} {K : PySem.W.Frag} {mg : Str → Option Value} {base : Heap} {cPE cBR cR p va pa : Addr} {σ : L2.St} {H H' : Hp} {ta tb te : TE} {tA : TA} {c B i j : Nat} {q : Rat} {W : WX} {D : Ends} {tz : TS}
/-! ### the rows of the law -/
structure Row (K : PySem.W.Frag) (cR p va pa : Addr) (as ts : List Addr) (qs : List Rat) (H : Hp) : Prop where
  v : H va = some (.lst (as.map V.ref))
  pr : H pa = some (.lst (ts.map V.ref))
  nv : va ≠ p
  np : pa ≠ p
  la : as.length = qs.length
  lt : ts.length = qs.length
  ia : ∀ (k : Nat) (a : Addr), as[k]? = some a → IsQ cR H a (qs.getD k 0)
  it : ∀ (k : Nat) (t : Addr), ts[k]? = some t → SqT K H t (prV (qs.getD k 0))
  sz : ∀ q ∈ qs, Sz 200 q
variable {as ts : List Addr} {qs : List Rat}
theorem Row.mono (h : Row K cR p va pa as ts qs H) (e : Ex H H') : Row K cR p va pa as ts qs H' := ⟨e _ _ h.v, e _ _ h.pr, h.nv, h.np, h.la, h.lt, fun k a x => (h.ia k a x).mono e, fun k t x => ex_t e (h.it k t x), h.sz⟩
theorem Row.pen (h : Row K cR p va pa as ts qs H) (hp : Pen K H p B) (e : ExB p H H') : Row K cR p va pa as ts qs H' := ⟨e _ _ h.nv h.v, e _ _ h.np h.pr, h.nv, h.np, h.la, h.lt, fun k a x => isq_p (h.ia k a x) hp e, fun k t x => sqt_b (h.it k t x) hp e, h.sz⟩
theorem getD_app {α : Type} {l : List α} {x d : α} {k : Nat} : (l ++ [x]).getD k d = if k < l.length then l.getD k d else if k = l.length then x else d := by
  simp only [List.getD_eq_getElem?_getD]
  split
  · rename_i h
    rw [List.getElem?_append_left h]
  · split
    · rename_i h1 h2
      subst h2
      simp
    · rename_i h1 h2
      rw [List.getElem?_append_right (by omega), List.getElem?_eq_none (by simp; omega)]
      rfl
/-- one more of each -/
theorem Row.add {v2 p2 a t : Addr} (h : Row K cR p va pa as ts qs H) (e : Ex H H') (hv : H' v2 = some (.lst (as.map V.ref ++ [V.ref a]))) (hp : H' p2 = some (.lst (ts.map V.ref ++ [V.ref t]))) (nv : v2 ≠ p) (np : p2 ≠ p) (ha : IsQ cR H' a q) (ht : SqT K H' t (prV q)) (hs : Sz 200 q) :
    Row K cR p v2 p2 (as ++ [a]) (ts ++ [t]) (qs ++ [q]) H' := by
  have h' := h.mono e
  refine ⟨by rw [hv, List.map_append]; rfl, by rw [hp, List.map_append]; rfl, nv, np, by simp [h.la], by simp [h.lt], fun k b x => ?_, fun k b x => ?_, fun r hr => ?_⟩
  · rw [getD_app]
    have hl := (List.getElem?_eq_some_iff.mp x).1
    rw [List.length_append] at hl
    by_cases hk : k < as.length
    · rw [List.getElem?_append_left hk] at x
      rw [if_pos (by rw [← h.la]; exact hk)]
      exact h'.ia k b x
    · have hk2 : k = as.length := by simp at hl; omega
      subst hk2
      simp at x
      subst x
      rw [if_neg (by rw [← h.la]; omega), if_pos h.la]
      exact ha
  · rw [getD_app]
    have hl := (List.getElem?_eq_some_iff.mp x).1
    rw [List.length_append] at hl
    by_cases hk : k < ts.length
    · rw [List.getElem?_append_left hk] at x
      rw [if_pos (by rw [← h.lt]; exact hk)]
      exact h'.it k b x
    · have hk2 : k = ts.length := by simp at hl; omega
      subst hk2
      simp at x
      subst x
      rw [if_neg (by rw [← h.lt]; omega), if_pos h.lt]
      exact ht
  · rcases List.mem_append.mp hr with hr | hr
    · exact h.sz r hr
    · rw [List.mem_singleton.mp hr]
      exact hs
/-- two new lists -/
theorem q_parLL {xs ys : List V} (h1 : EvL ta σ H xs) (h2 : EvL tb σ H ys) (k : ∀ l m H2, H l = none → H m = none → Ex H H2 → H2 l = some (.lst xs) → H2 m = some (.lst ys) → tz D ((σ.set i (some (.ref l))).set j (some (.ref m))) H2) : tSeq (tPar i j (tCons ta (tCons tb tNil))) tz D σ H :=
  h1 H (Ex.refl H) _ fun l H1 hl e1 hx => h2 H1 e1 _ fun m H2 hm e2 hy => ⟨.ref l, .ref m, rfl, k l m H2 hl (fresh_back e1 hm) (e1.trans e2) (e2 _ _ hx) hy⟩
theorem s_parLL {xs ys : List V} (h1 : EvL ta σ H xs) (h2 : EvL tb σ H ys) (k : ∀ l m H2, H l = none → H m = none → Ex H H2 → H2 l = some (.lst xs) → H2 m = some (.lst ys) → D.nx ((σ.set i (some (.ref l))).set j (some (.ref m))) H2) : tPar i j (tCons ta (tCons tb tNil)) D σ H :=
  h1 H (Ex.refl H) _ fun l H1 hl e1 hx => h2 H1 e1 _ fun m H2 hm e2 hy => ⟨.ref l, .ref m, rfl, k l m H2 hl (fresh_back e1 hm) (e1.trans e2) (e2 _ _ hx) hy⟩
/-- the second with a new tuple at its end -/
theorem q_parLT {xs ys zs : List V} {m : Addr} (h1 : EvL ta σ H xs) (h0 : Ev tb σ H (.ref m)) (hm : H m = some (.lst ys)) (hy : ys.length ≤ 1000) (hA : EvA tA σ H zs) (hz : zs.length ≤ 100000) (k : ∀ l m' t H2, H l = none → H m' = none → Ex H H2 → H2 l = some (.lst xs) → H2 m' = some (.lst (ys ++ [.ref t])) → H2 t = some (.tup zs) → tz D ((σ.set i (some (.ref l))).set j (some (.ref m'))) H2) :
    tSeq (tPar i j (tCons ta (tCons (tOp rCat tb (tLst (tCons (tTup tA) tNil))) tNil))) tz D σ H :=
  h1 H (Ex.refl H) _ fun l H1 hl e1 hx => g_cons (g_op1 (h0 H1 e1 _ fun H2 e2 => g_lst (g_cons (eu_tup hA hz H2 (e1.trans e2) _ fun t H3 ht e3 h3 => ⟨sz_of (by show 1 ≤ 100000; decide), fun b hb => ⟨m, b, ys, [.ref t], rfl, rfl, (((e1.trans e2).trans e3).trans (Ex.new hb)) _ _ hm, upd_same, sz_of (by show ys.length + 1 ≤ 100000; omega), fun m' hm' =>
    have e4 := ((e2.trans e3).trans (Ex.new hb)).trans (Ex.new hm')
    ⟨.ref l, .ref m', rfl, k l m' t _ hl (fresh_back (((e1.trans e2).trans e3).trans (Ex.new hb)) hm') (e1.trans e4) (e4 _ _ hx) upd_same (((Ex.new hb).trans (Ex.new hm')) _ _ h3)⟩⟩⟩))))
/-- xs[::k] of a new list, the sum of two new lists -/
theorem el_step {xs : List V} {k : Int} (h : EvL te σ H xs) (hk : Ev ta σ H (.int k)) (h1 : k = 1 ∨ k = -1) : EvL (tStepL K te ta) σ H (if k = 1 then xs else xs.reverse) := fun H1 e Q q =>
  h H1 e _ fun a H2 ha e2 h2 => hk H2 (e.trans e2) _ fun H3 e3 => ⟨a, xs, rfl, sq_of (e3 _ _ h2), by
    rcases h1 with rfl | rfl
    · exact .inl ⟨rfl, fun l hl => q l _ (fresh_back (e2.trans e3) hl) ((e2.trans e3).trans (Ex.new hl)) upd_same⟩
    · exact .inr ⟨rfl, fun l hl => q l _ (fresh_back (e2.trans e3) hl) ((e2.trans e3).trans (Ex.new hl)) upd_same⟩⟩
theorem el_catLL {xs ys : List V} (h1 : EvL ta σ H xs) (h2 : EvL tb σ H ys) (hz : xs.length + ys.length ≤ 100000) : EvL (tOp rCat ta tb) σ H (xs ++ ys) := fun H1 e Q q =>
  h1 H1 e _ fun a H2 ha e2 hx => h2 H2 (e.trans e2) _ fun b H3 hb e3 hy => ⟨a, b, xs, ys, rfl, rfl, e3 _ _ hx, hy, sz_of hz, fun l hl => q l _ (fresh_back (e2.trans e3) hl) ((e2.trans e3).trans (Ex.new hl)) upd_same⟩
theorem cut_take (xs : List V) (m : Nat) (h : m ≤ 1000) : cutV xs none (some (m : Int)) = xs.take m := by
  unfold cutV
  simp only [HT.sIx]
  rw [if_neg (by omega)]
  simp only [List.drop_zero, Nat.sub_zero]
  rw [Int.toNat_natCast]
  rcases Nat.le_total m xs.length with z | z
  · rw [Nat.min_eq_left z]
  · rw [Nat.min_eq_right z, List.take_length, List.take_of_length_le z]
end
end K1

/-! # K01t -/
set_option Elab.async false
set_option linter.all false
set_option maxRecDepth 100000
set_option maxHeartbeats 8000000
set_option exponentiation.threshold 4000
namespace K1
open PySem PyProof.Rows L2 Pk Evl
section
variable {P : Program} {w : World} {K : PySem.W.Frag} {mg : Str → Option Value} {base : Heap} {cPE cBR cR : Addr} {σ : L2.St} {H : Hp}
/-! ### law -/
abbrev s_law : Stmt := top 33
abbrev Nl : List Str := ["_law_script", "_law_pen_here", "_law_values", "_law_pairs", "_law_turn", "_law_top", "_law_bottom", "_law_more", "_law_value", "_law_pair", "_law_whole", "_law_one", "_law_other", "_law_at", "_law_many", "_law_turned"]
theorem sc_law : FnScope Nl ["_law_script"] (defScope s_law) := ⟨rfl, rfl, rfl, by decide +kernel, rfl, by decide +kernel, by decide +kernel⟩
theorem ten30 : ∀ m ∈ [(1 : Int), 1, -1, 2, -6, 10 ^ (30 : Int).toNat + 57], m ≠ 0 ∧ m.natAbs < 2 ^ 110 := by decide +kernel
theorem ev_two {E : L2.St → XK} {tA : TA} {a p t : Addr} {v : V} {q r : Rat} (h : EvA tA σ H [.ref a, .ref p, v, .ref t]) (hq : IsQ cR H a q) (hp : SqT K H p (prV q)) (hn : Num cR H v r) (ht : SqT K H t (prV r)) (s1 : Sz 200 q) (s2 : Sz 200 r) : Ev (tCallSD (spTwo K cR) [] E tA) σ H (.bl true) :=
  ev_gf h fun H1 e Q k _ => ⟨a, p, t, v, q, r, rfl, hq.mono e, ex_t e hp, hn.mono e, ex_t e ht, s1, s2, k⟩
structure Done (K : PySem.W.Frag) (cR p va pa a0 a1 t0 t1 t2 : Addr) (q0 q1 : Rat) (n : Int) (H : Hp) : Prop where
  v : H va = some (.lst [.ref a0, .ref a1, .int n])
  pr : H pa = some (.lst [.ref t0, .ref t1, .ref t2])
  nv : va ≠ p
  np : pa ≠ p
  i0 : IsQ cR H a0 q0
  i1 : IsQ cR H a1 q1
  s0 : SqT K H t0 (prV q0)
  s1 : SqT K H t1 (prV q1)
  s2 : SqT K H t2 (prV (n : Rat))
variable {p va pa a0 a1 t0 t1 t2 : Addr} {q0 q1 : Rat} {n : Int} {B : Nat}
theorem Done.mono {H' : Hp} (h : Done K cR p va pa a0 a1 t0 t1 t2 q0 q1 n H) (e : Ex H H') : Done K cR p va pa a0 a1 t0 t1 t2 q0 q1 n H' := ⟨e _ _ h.v, e _ _ h.pr, h.nv, h.np, h.i0.mono e, h.i1.mono e, ex_t e h.s0, ex_t e h.s1, ex_t e h.s2⟩
theorem Done.pen {H' : Hp} (h : Done K cR p va pa a0 a1 t0 t1 t2 q0 q1 n H) (hp : Pen K H p B) (e : ExB p H H') : Done K cR p va pa a0 a1 t0 t1 t2 q0 q1 n H' := ⟨e _ _ h.nv h.v, e _ _ h.np h.pr, h.nv, h.np, isq_p h.i0 hp e, isq_p h.i1 hp e, sqt_b h.s0 hp e, sqt_b h.s1 hp e, sqt_b h.s2 hp e⟩
/-- the row handed to the lists: picked by index -/
theorem done_num {H' : Hp} (h : Done K cR p va pa a0 a1 t0 t1 t2 q0 q1 n H) : NumL cR H [.ref a0, .ref a1, .int n] [q0, q1, (n : Rat)] := ⟨rfl, fun i x hx => by
  match i, hx with
  | 0, hx => cases hx; exact .inl ⟨a0, rfl, h.i0⟩
  | 1, hx => cases hx; exact .inl ⟨a1, rfl, h.i1⟩
  | 2, hx => cases hx; exact .inr ⟨rfl, rfl⟩
  | (i + 3), hx => simp at hx⟩
theorem done_pair {H' : Hp} (h : Done K cR p va pa a0 a1 t0 t1 t2 q0 q1 n H) : PairL K H [.ref t0, .ref t1, .ref t2] [q0, q1, (n : Rat)] := ⟨rfl, fun i x hx => by
  match i, hx with
  | 0, hx => cases hx; exact ⟨t0, rfl, h.s0⟩
  | 1, hx => cases hx; exact ⟨t1, rfl, h.s1⟩
  | 2, hx => cases hx; exact ⟨t2, rfl, h.s2⟩
  | (i + 3), hx => simp at hx⟩
/-- lists and their ratios, side by side -/
inductive Side (R : V → Rat → Prop) : List V → List Rat → Prop
  | nil : Side R [] []
  | cons {x : V} {q : Rat} {xs : List V} {qs : List Rat} : R x q → Side R xs qs → Side R (x :: xs) (q :: qs)
theorem Side.append {R : V → Rat → Prop} {xs ys : List V} {qs rs : List Rat} (h : Side R xs qs) (k : Side R ys rs) : Side R (xs ++ ys) (qs ++ rs) := by
  induction h with
  | nil => exact k
  | cons h _ ih => exact .cons h ih
theorem Side.reverse {R : V → Rat → Prop} {xs : List V} {qs : List Rat} (h : Side R xs qs) : Side R xs.reverse qs.reverse := by
  induction h with
  | nil => exact .nil
  | cons h _ ih => rw [List.reverse_cons, List.reverse_cons]; exact ih.append (.cons h .nil)
theorem Side.take {R : V → Rat → Prop} {xs : List V} {qs : List Rat} (h : Side R xs qs) (m : Nat) : Side R (xs.take m) (qs.take m) := by
  induction h generalizing m with
  | nil => rw [List.take_nil, List.take_nil]; exact .nil
  | cons h _ ih => cases m with
    | zero => exact .nil
    | succ m => exact .cons h (ih m)
theorem Side.length {R : V → Rat → Prop} {xs : List V} {qs : List Rat} (h : Side R xs qs) : xs.length = qs.length := by
  induction h with
  | nil => rfl
  | cons _ _ ih => simp [ih]
theorem Side.get {R : V → Rat → Prop} {xs : List V} {qs : List Rat} (h : Side R xs qs) : ∀ i x, xs[i]? = some x → R x (qs.getD i 0) := by
  induction h with
  | nil => intro i x hx; simp at hx
  | cons h _ ih => intro i x hx; cases i with
    | zero => simp at hx; subst hx; exact h
    | succ i => simp at hx; simpa using ih i x hx
theorem Side.num {xs : List V} {qs : List Rat} (h : Side (Num cR H) xs qs) : NumL cR H xs qs := ⟨h.length, h.get⟩
theorem Side.pair {xs : List V} {qs : List Rat} (h : Side (fun x q => ∃ t, x = .ref t ∧ SqT K H t (prV q)) xs qs) : PairL K H xs qs := ⟨h.length, h.get⟩
theorem Side.turn {R : V → Rat → Prop} {xs : List V} {qs : List Rat} (h : Side R xs qs) (k : Int) (m : Nat) : Side R ((if k = 1 then xs.take m else (xs.take m).reverse) ++ xs.take m) ((if k = 1 then qs.take m else (qs.take m).reverse) ++ qs.take m) := by
  split
  · exact (h.take m).append (h.take m)
  · exact (h.take m).reverse.append (h.take m)
theorem turn_mem {qs : List Rat} {k : Int} {m : Nat} {q : Rat} (h : q ∈ (if k = 1 then qs.take m else (qs.take m).reverse) ++ qs.take m) : q ∈ qs := by
  rcases List.mem_append.mp h with h | h
  · split at h
    · exact List.mem_of_mem_take h
    · exact List.mem_of_mem_take (List.mem_reverse.mp h)
  · exact List.mem_of_mem_take h
theorem turn_len {α : Type} {qs : List α} {k : Int} {m : Nat} (h : qs.length = 3) : ((if k = 1 then qs.take m else (qs.take m).reverse) ++ qs.take m).length ≤ 6 := by
  rw [List.length_append]
  split <;> simp <;> omega
end
end K1

/-! # K01u -/
set_option Elab.async false
set_option linter.all false
set_option maxRecDepth 100000
set_option maxHeartbeats 8000000
set_option exponentiation.threshold 4000
namespace K1
open PySem PyProof.Rows L2 Pk Evl
section
variable {P : Program} {w : World} {K : PySem.W.Frag} {mg : Str → Option Value} {base : Heap} {cPE cBR cR : Addr} {σ : L2.St} {H : Hp}
theorem eq_int {E : L2.St → XK} {te : TE} {p : Addr} {B : Nat} (h : Ev te σ H (.ref p)) (hp : Pen K H p B) (hB : B < 900000) : EvQ (tCallSD (spInt K) [] E (tCons te tNil)) σ H (fun v H' => ∃ n : Int, v = .int n ∧ n.natAbs < 10 ^ 60 ∧ ExB p H H' ∧ Pen K H' p (B + 20)) := fun Q q =>
  go_gf (vs := [.ref p]) (ea_cons h ea_nil) fun H1 e1 => ⟨p, B, rfl, hp.mono e1 (Nat.le_refl _), hB, fun n H' hn e hp' => q _ H' ⟨n, rfl, hn, (ExB.of e1).trans e, hp'⟩⟩
theorem t200 {n : Nat} (h : n < 10 ^ 60) : n < 2 ^ 200 := Nat.lt_trans h (by decide)
theorem divsz {t b : Int} (ht : t.natAbs < 2 ^ 200) (hb0 : b ≠ 0) (hb : b.natAbs < 2 ^ 200) : Sz 200 (Rat.divInt t b) := ⟨Nat.lt_of_le_of_lt (num_le hb0) ht, Nat.lt_of_le_of_lt (den_le hb0) hb⟩
theorem ten_lt {n : Nat} (h : n < 20) : n < 10 ^ 60 := Nat.lt_trans h (by decide)
theorem eu_at {te : TE} {t : Addr} {q : Rat} (h : Ev te σ H (.ref t)) (ht : SqT K H t (prV q)) : EU K te σ H q := fun H1 e Q k => h H1 e Q fun H2 e2 => k _ H2 e2 ⟨t, rfl, ex_t (e.trans e2) ht⟩
theorem cut_len (xs : List V) (m : Nat) (tk : Int) (hk : tk = 1 ∨ tk = -1) (h : xs.length ≤ 1000) : (if tk = 1 then cutV xs none (some (m : Int)) else (cutV xs none (some (m : Int))).reverse).length + (cutV xs none (some (m : Int))).length ≤ 100000 := by
  have hc : (cutV xs none (some (m : Int))).length ≤ 1000 := by
    unfold cutV
    simp only [List.length_take, List.length_drop]
    omega
  split
  · omega
  · rw [List.length_reverse]
    omega
theorem ok_law {f : Addr} {fd : FuncData} {mc u60 : Value} {gK : List V → List V → List V} (hgK : ∀ s x y, gK [s] [x, y] = [s, y, x]) (F : Fun K "law" "law" s_law f fd) (B : Bj mg) (C : RC1 K cR) (gR : mg "Ratio" = some (.ref cR))
    (hne : PySem.W.findIn K (.ref cR) "__ne__" = some (some (.builtin "object.__ne__"))) (hm : PySem.W.mroIn K cR (.type "object") = some true) (cr : ClX.CRead K cR mc) (cv : ClX.CVal K cR mc "MOST_DIGITS" (.int 60) u60)
    (GA : OM P w K mg base 6 cR "__add__" (spBin K cR cBR (· + ·))) (GSu : OM P w K mg base 6 cR "__sub__" (spBin K cR cBR (· - ·))) (GMu : OM P w K mg base 6 cR "__mul__" (spBin K cR cBR (· * ·))) (GEq : OM P w K mg base 2 cR "__eq__" (spEqQ K cR))
    (GNg : OM P w K mg base 5 cR "__neg__" (spUn cR (fun q => -q))) (GAb : OM P w K mg base 5 cR "__abs__" (spUn cR absQ))
    (GO : GS P w K mg base 6 "Ratio" cR "of" (spOf K cR cBR) []) (GR2 : GC P w K mg base 3 "Ratio" cR (spQI K cR cBR) []) (GR : GC P w K mg base 3 "Ratio" cR (spQI K cR cBR) [.int 1]) (GRK : GCK P w K mg base 3 "Ratio" cR (spQI K cR cBR) ["bottom", "top"] gK)
    (GPn : GF P w K mg base 1 "_law_pen" (spPen K) []) (GDr : GF P w K mg base 1 "_law_draw" (spDraw K) []) (GPi : GF P w K mg base 2 "_law_pick" (spPick K) []) (GIn : GF P w K mg base 3 "_law_integer" (spInt K) []) (GLo : GF P w K mg base 1 "_law_low" spLow []) (GIs : GF P w K mg base 6 "_law_is" (spIs K cR) [])
    (GTw : GF P w K mg base 11 "_law_two_right" (spTwo K cR) []) (GLi : GF P w K mg base 11 "_law_lists_right" (spLists K cR) []) (GRf : GF P w K mg base 11 "_law_refused_right" (spRef1 K cR) []) :
    FnG P w K mg base 12 f fd ["_law_script"] (spLaw K) := by
  refine okG F sc_law (fun vs H Q E h => ?_) (fun cdv A outer s H vs Q E hr h => ?_)
  · obtain ⟨a, ns, rfl, _⟩ := h
    rfl
  · obtain ⟨sa, ns, rfl, hsa, hns, k⟩ := h
    have nd := sc_law.nd
    have h1 := hr.mono (j := 1) (by decide)
    have h2 := hr.mono (j := 2) (by decide)
    have h3 := hr.mono (j := 3) (by decide)
    have h4 := hr.mono (j := 4) (by decide)
    have h5 := hr.mono (j := 5) (by decide)
    have h6 := hr.mono (j := 6) (by decide)
    refine ⟨_, (pss_cons (ps_set (i := 1) nd rfl (Or.inl rfl) (pe_gf GPn h1 (takes_of rfl rfl rfl rfl) (by rfl) (pa_cons (pv 0) pa_nil)))
  (pss_cons (ps_par (i := 2) (j := 3) rfl nd rfl rfl (by decide) rfl rfl (pa_cons (pe_lst pa_nil) (pa_cons (pe_lst pa_nil) pa_nil)) (by rfl))
  (pss_cons (ps_for (passes_of rfl) rfl (pi_range1 (by rfl) B.range (pa_cons pe_int pa_nil)) (pg_name (i := 4) nd rfl (Or.inl rfl))
    (pss_cons (ps_par (i := 5) (j := 6) rfl nd rfl rfl (by decide) rfl rfl (pa_cons (pe_gf GIn h3 (takes_of rfl rfl rfl rfl) (by rfl) (pa_cons (pv 1) pa_nil)) (pa_cons (pe_gf GIn h3 (takes_of rfl rfl rfl rfl) (by rfl) (pa_cons (pv 1) pa_nil)) pa_nil)) (by rfl))
    (pss_cons (ps_set (i := 6) nd rfl (Or.inl rfl) (pe_ifExp (pt_cmpR op_ne (pv 6) pe_int (nomark _)) (pv 6) (pe_op op_add pe_int (pe_gf GDr h1 (takes_of rfl rfl rfl rfl) (by rfl) (pa_cons (pv 1) (pa_cons pe_int pa_nil))))))
    (pss_cons (ps_set (i := 7) nd rfl (Or.inl rfl) (pe_gf GPi h2 (takes_of rfl rfl rfl rfl) (by rfl) (pa_cons (pv 1) (pa_cons (pe_lst (pa_cons pe_int (pa_cons pe_int (pa_cons (pe_un un_neg pe_int) (pa_cons pe_int (pa_cons (pe_un un_neg pe_int) (pa_cons (pe_op op_add (pe_op op_pow pe_int pe_int) pe_int) pa_nil))))))) pa_nil))))
    (pss_cons (ps_par (i := 8) (j := 9) rfl nd rfl rfl (by decide) rfl rfl (pa_cons (pe_gc GR2 h4 (takes_of rfl rfl rfl rfl) (by rfl) (pa_cons (pe_op op_mulW (pv 5) (pv 7)) (pa_cons (pe_op op_mulW (pv 6) (pv 7)) pa_nil))) (pa_cons (pe_gf GLo h1 (takes_of rfl rfl rfl rfl) (by rfl) (pa_cons (pv 5) (pa_cons (pv 6) pa_nil))) pa_nil)) (by rfl))
    (pss_cons (ps_if (PW.pt (pw_or (pt_not (pt_val (pe_gf GIs h6 (takes_of rfl rfl rfl rfl) (by rfl) (pa_cons (pv 8) (pa_cons (pv 9) pa_nil))))) (pw_or (pt_cmpR (op_neO GEq hne hm h3) (pv 8) (pe_gc GR2 h4 (takes_of rfl rfl rfl rfl) (by rfl) (pa_cons (pv 5) (pa_cons (pv 6) pa_nil))) (nomark _)) (pw_or1 (pt_not (pt_val (pe_gf GIs h6 (takes_of rfl rfl rfl rfl) (by rfl) (pa_cons (pe_gcK GRK h4 (takes_of rfl rfl rfl rfl) (by rfl) (pk_cons (pv 6) (pk_cons (pv 5) pk_nil))) (pa_cons (pv 9) pa_nil)))))))))
      (pss_one (ps_ret pe_bl))
      pss_nil)
    (pss_cons (ps_if (PW.pt (pw_or (pt_not (pt_val (pe_gf GIs h6 (takes_of rfl rfl rfl rfl) (by rfl) (pa_cons (pe_un (un_negO GNg h5) (pv 8)) (pa_cons (pe_tup (pa_cons (pe_un un_neg (pe_ix ix_tup (pv 9) pe_int (fun _ _ => rfl))) (pa_cons (pe_ix ix_tup (pv 9) pe_int (fun _ _ => rfl)) pa_nil))) pa_nil))))) (pw_or1 (pt_not (pt_val (pe_gf GIs h6 (takes_of rfl rfl rfl rfl) (by rfl) (pa_cons (pe_callB (call_absO GAb h6) (by rfl) B.abs Boot.«abs» (pa_cons (pv 8) pa_nil)) (pa_cons (pe_tup (pa_cons (pe_callB call_abs (by rfl) B.abs Boot.«abs» (pa_cons (pe_ix ix_tup (pv 9) pe_int (fun _ _ => rfl)) pa_nil)) (pa_cons (pe_ix ix_tup (pv 9) pe_int (fun _ _ => rfl)) pa_nil))) pa_nil))))))))
      (pss_one (ps_ret pe_bl))
      pss_nil)
    (pss_cons (ps_if (PW.pt (pw_or (pt_not (pt_val (pe_gf GIs h6 (takes_of rfl rfl rfl rfl) (by rfl) (pa_cons (pe_gs GO h6 (takes_of rfl rfl rfl rfl) (by rfl) (pa_cons (pv 8) pa_nil)) (pa_cons (pv 9) pa_nil))))) (pw_or (pt_not (pt_val (pe_gf GIs h6 (takes_of rfl rfl rfl rfl) (by rfl) (pa_cons (pe_gs GO h6 (takes_of rfl rfl rfl rfl) (by rfl) (pa_cons (pv 5) pa_nil)) (pa_cons (pe_tup (pa_cons (pv 5) (pa_cons pe_int pa_nil))) pa_nil))))) (pw_or1 (pt_not (pt_val (pe_gf GIs h6 (takes_of rfl rfl rfl rfl) (by rfl) (pa_cons (pe_gc GR h4 (takes_of rfl rfl rfl rfl) (by rfl) (pa_cons (pv 5) pa_nil)) (pa_cons (pe_tup (pa_cons (pv 5) (pa_cons pe_int pa_nil))) pa_nil)))))))))
      (pss_one (ps_ret pe_bl))
      pss_nil)
    (pss_one (ps_par (i := 2) (j := 3) rfl nd rfl rfl (by decide) rfl rfl (pa_cons (pe_op op_cat (pv 2) (pe_lst (pa_cons (pv 8) pa_nil))) (pa_cons (pe_op op_cat (pv 3) (pe_lst (pa_cons (pv 9) pa_nil))) pa_nil)) (by rfl)))))))))))
  (pss_cons (ps_set (i := 10) nd rfl (Or.inl rfl) (pe_gf GIn h3 (takes_of rfl rfl rfl rfl) (by rfl) (pa_cons (pv 1) pa_nil)))
  (pss_cons (ps_par (i := 2) (j := 3) rfl nd rfl rfl (by decide) rfl rfl (pa_cons (pe_op op_cat (pv 2) (pe_lst (pa_cons (pv 10) pa_nil))) (pa_cons (pe_op op_cat (pv 3) (pe_lst (pa_cons (pe_tup (pa_cons (pv 10) (pa_cons pe_int pa_nil))) pa_nil))) pa_nil)) (by rfl))
  (pss_cons (ps_par (i := 11) (j := 12) rfl nd rfl rfl (by decide) rfl rfl (pa_cons (pe_ix ix_list (pv 2) pe_int (fun _ _ => rfl)) (pa_cons (pe_ix ix_list (pv 2) pe_int (fun _ _ => rfl)) pa_nil)) (by rfl))
  (pss_cons (ps_for (passes_of rfl) rfl (pi_range1 (by rfl) B.range (pa_cons pe_int pa_nil)) (pg_name (i := 13) nd rfl (Or.inl rfl))
    (pss_one (ps_if (PW.pt (pw_or (pt_not (pt_val (pe_gf GTw hr (takes_of rfl rfl rfl rfl) (by rfl) (pa_cons (pv 11) (pa_cons (pe_ix ix_list (pv 3) pe_int (fun _ _ => rfl)) (pa_cons (pe_ix ix_list (pv 2) (pv 13) (fun _ _ => rfl)) (pa_cons (pe_ix ix_list (pv 3) (pv 13) (fun _ _ => rfl)) pa_nil))))))) (pw_or1 (pt_not (pt_val (pe_gf GTw hr (takes_of rfl rfl rfl rfl) (by rfl) (pa_cons (pv 12) (pa_cons (pe_ix ix_list (pv 3) pe_int (fun _ _ => rfl)) (pa_cons (pe_ix ix_list (pv 2) (pv 13) (fun _ _ => rfl)) (pa_cons (pe_ix ix_list (pv 3) (pv 13) (fun _ _ => rfl)) pa_nil))))))))))
      (pss_one (ps_ret pe_bl))
      pss_nil)))
  (pss_cons (ps_if (PW.pt (pw_or (pt_cmpR (op_neO GEq hne hm h3) (pe_opS (op_binO (op := .Mult) GMu C.self h6 (takes_of rfl rfl rfl rfl)) (pe_opS (op_binO (op := .Add) GA C.self h6 (takes_of rfl rfl rfl rfl)) (pv 11) (pv 12)) (pe_opS (op_binO (op := .Sub) GSu C.self h6 (takes_of rfl rfl rfl rfl)) (pv 11) (pv 12))) (pe_opS (op_binO (op := .Sub) GSu C.self h6 (takes_of rfl rfl rfl rfl)) (pe_opS (op_binO (op := .Mult) GMu C.self h6 (takes_of rfl rfl rfl rfl)) (pv 11) (pv 11)) (pe_opS (op_binO (op := .Mult) GMu C.self h6 (takes_of rfl rfl rfl rfl)) (pv 12) (pv 12))) (nomark _)) (pw_or1 (pt_cmpR (op_neO GEq hne hm h3) (pe_opS (op_binO (op := .Add) GA C.self h6 (takes_of rfl rfl rfl rfl)) (pe_opS (op_binO (op := .Sub) GSu C.self h6 (takes_of rfl rfl rfl rfl)) (pv 11) (pv 12)) (pe_opS (op_binO (op := .Sub) GSu C.self h6 (takes_of rfl rfl rfl rfl)) (pv 12) (pv 11))) pe_int (nomark _)))))
    (pss_one (ps_ret pe_bl))
    pss_nil)
  (pss_cons (ps_if (PW.pt (pw_or (pt_cmpR (op_neO GEq hne hm h3) (pe_opS (op_binO (op := .Mult) GMu C.self h6 (takes_of rfl rfl rfl rfl)) (pe_opS (op_binO (op := .Add) GA C.self h6 (takes_of rfl rfl rfl rfl)) (pv 11) (pv 12)) (pv 10)) (pe_opS (op_binO (op := .Add) GA C.self h6 (takes_of rfl rfl rfl rfl)) (pe_opS (op_binO (op := .Mult) GMu C.self h6 (takes_of rfl rfl rfl rfl)) (pv 11) (pv 10)) (pe_opS (op_binO (op := .Mult) GMu C.self h6 (takes_of rfl rfl rfl rfl)) (pv 12) (pv 10))) (nomark _)) (pw_or1 (pt_cmpR (op_neO GEq hne hm h3) (pe_callB (call_absO GAb h6) (by rfl) B.abs Boot.«abs» (pa_cons (pe_opS (op_binO (op := .Mult) GMu C.self h6 (takes_of rfl rfl rfl rfl)) (pv 11) (pv 12)) pa_nil)) (pe_opS (op_binO (op := .Mult) GMu C.self h6 (takes_of rfl rfl rfl rfl)) (pe_callB (call_absO GAb h6) (by rfl) B.abs Boot.«abs» (pa_cons (pv 11) pa_nil)) (pe_callB (call_absO GAb h6) (by rfl) B.abs Boot.«abs» (pa_cons (pv 12) pa_nil))) (nomark _)))))
    (pss_one (ps_ret pe_bl))
    pss_nil)
  (pss_cons (ps_par (i := 14) (j := 15) rfl nd rfl rfl (by decide) rfl rfl (pa_cons (pe_gf GDr h1 (takes_of rfl rfl rfl rfl) (by rfl) (pa_cons (pv 1) (pa_cons pe_int pa_nil))) (pa_cons (pe_gf GPi h2 (takes_of rfl rfl rfl rfl) (by rfl) (pa_cons (pv 1) (pa_cons (pe_lst (pa_cons pe_int (pa_cons (pe_un un_neg pe_int) pa_nil))) pa_nil))) pa_nil)) (by rfl))
  (pss_cons (ps_if (pt_not (pt_val (pe_gf GLi hr (takes_of rfl rfl rfl rfl) (by rfl) (pa_cons (pe_op op_cat (pe_stepL (pe_slice sl_list (pv 2) po_none (po_some (pv 14))) (pv 15)) (pe_slice sl_list (pv 2) po_none (po_some (pv 14)))) (pa_cons (pe_op op_cat (pe_stepL (pe_slice sl_list (pv 3) po_none (po_some (pv 14))) (pv 15)) (pe_slice sl_list (pv 3) po_none (po_some (pv 14)))) pa_nil)))))
    (pss_one (ps_ret pe_bl))
    pss_nil)
  (pss_cons (ps_if (PW.pt (pw_or (pt_not (pt_val (pe_gf GRf hr (takes_of rfl rfl rfl rfl) (by rfl) (pa_cons (pv 1) (pa_cons (pv 11) pa_nil))))) (pw_or1 (pt_cmpR op_ne (ClX.pe_cval (pe_glob (v := .ref cR) (by rfl) gR rfl)) pe_int (nomark _)))))
    (pss_one (ps_ret pe_bl))
    pss_nil)
  (pss_one (ps_ret (pe_and (pe_gf GIs h6 (takes_of rfl rfl rfl rfl) (by rfl) (pa_cons (pv 11) (pa_cons (pe_ix ix_list (pv 3) pe_int (fun _ _ => rfl)) pa_nil))) (pe_one (pe_gf GIs h6 (takes_of rfl rfl rfl rfl) (by rfl) (pa_cons (pv 12) (pa_cons (pe_ix ix_list (pv 3) pe_int (fun _ _ => rfl)) pa_nil))))))))))))))))))), ?_⟩
    refine q_set (go_gf (vs := [.ref sa]) (ea_cons (ev_var rfl) ea_nil) fun H1 e1 => ⟨sa, ns, rfl, ex_l e1 hsa, hns, fun p H2 hpn e2 hp2 => ?_⟩)
    refine q_parLL (el_lst ea_nil (by decide)) (el_lst ea_nil (by decide)) fun va pa H3 hva hpa e3 h3v h3p => ?_
    refine q_forR1 (ea_cons ev_c ea_nil) (by decide) (fun i σ' H' => ∃ (va pa : Addr) (as ts : List Addr) (qs : List Rat) (t4 t5 t6 t7 t8 t9 : Option V), σ' = [some (.ref sa), some (.ref p), some (.ref va), some (.ref pa), t4, t5, t6, t7, t8, t9, none, none, none, none, none, none] ∧ Row K cR p va pa as ts qs H' ∧ qs.length = i ∧ Pen K H' p (i * 100)) (fun H4 e4 => ⟨va, pa, [], [], [], _, _, _, _, _, _, rfl, ⟨e4 _ _ h3v, e4 _ _ h3p, hp2.ne hva, hp2.ne hpa, rfl, rfl, fun k a z => by simp at z, fun k t z => by simp at z, fun q z => by simp at z⟩, rfl, (hp2.mono e3 (Nat.le_refl _)).mono e4 (by omega)⟩) (fun i σ' H' hi h => ?_) (fun σ' H' h => ?_)
    · obtain ⟨va, pa, as, ts, qs, t4, t5, t6, t7, t8, t9, rfl, hrow, hlen, hp3⟩ := h
      refine q_parQ (eq_int (ev_var rfl) hp3 (by omega)) (P2 := fun v w H5 => (∃ n : Int, v = .int n ∧ n.natAbs < 10 ^ 60) ∧ ∃ m : Int, w = .int m ∧ m.natAbs < 10 ^ 60 ∧ ExB p H' H5 ∧ Pen K H5 p (i * 100 + 20 + 20)) (fun v H4 ⟨n, hv, hn, e4, hp4⟩ Q q => eq_int (ev_var rfl) hp4 (by omega) Q fun w H5 ⟨m, hw, hm, e5, hp5⟩ => q w H5 ⟨⟨n, hv, hn⟩, m, hw, hm, e4.trans e5, hp5⟩) fun v w H5 h5 => ?_
      obtain ⟨⟨top, rfl, ht⟩, bot0, rfl, hb0, e5, hp5⟩ := h5
      refine q_set ((show EvQ _ _ _ (fun v H6 => ∃ bot : Int, v = .int bot ∧ bot ≠ 0 ∧ bot.natAbs < 10 ^ 60 ∧ ExB p H5 H6 ∧ Pen K H6 p (i * 100 + 41)) from fun Q q => ?_) _ fun v H6 ⟨bot, hv, hbz, hb, e6, hp6⟩ => ?_)
      · refine g_if (et_test (ev_op (x := .int bot0) (ev_var rfl) ev_c (rv_ne rfl)) H5 (Ex.refl _) _ fun H6 e6 => ?_)
        by_cases hz : bot0 = 0
        · subst hz
          rw [if_neg (by decide)]
          exact g_op (x := .int 1) ev_c fun H7 e7 => go_draw (ea_cons (ev_var rfl) (ea_cons ev_c ea_nil)) ((hp5.mono e6 (Nat.le_refl _)).mono e7 (Nat.le_refl _)) (by omega) (by decide) (by decide) fun r H8 h0 h1 e8 hp8 => ⟨1, r, rfl, rfl, q _ H8 ⟨1 + r, rfl, by omega, ten_lt (by omega), (ExB.of (e6.trans e7)).trans e8, hp8⟩⟩
        · rw [if_pos (by simp [hz])]
          exact ev_var (v := .int bot0) rfl H6 (Ex.refl _) _ fun H7 e7 => q _ H7 ⟨bot0, rfl, hz, hb0, ExB.of (e6.trans e7), hp5.mono (e6.trans e7) (by omega)⟩
      subst hv
      refine q_set (go_pickN (xs := [(1 : Int), 1, -1, 2, -6, 10 ^ (30 : Int).toNat + 57].map V.int) (ev_var rfl) (el_lst (ea_cons ev_c (ea_cons ev_c (ea_cons (ev_un ev_c ru_neg) (ea_cons ev_c (ea_cons (ev_un ev_c ru_neg) (ea_cons (ev_op (ev_op ev_c ev_c (rv_I ⟨by decide, by decide, by decide⟩)) ev_c rv_I0) ea_nil)))))) (by show 6 ≤ 100000; decide)) hp6 (by omega) (by simp) (by show 6 ≤ 100000; decide) fun x H7 hx e7 hp7 => ?_)
      obtain ⟨m, hm, rfl⟩ := List.mem_map.mp hx
      obtain ⟨hm0, hm1⟩ := ten30 m hm
      have e57 : ExB p H' H7 := (e5.trans e6).trans e7
      have hrow7 := hrow.pen hp3 e57
      have ht2 := t200 ht
      have hb2 := t200 hb
      have up9 : ∀ {a : Nat}, a < 2 ^ 200 → a < 2 ^ 900 := fun h => Nat.lt_of_lt_of_le h (Nat.pow_le_pow_right (by decide) (by decide))
      have up20 : ∀ {a : Nat}, a < 2 ^ 200 → a < 2 ^ 2000 := fun h => Nat.lt_of_lt_of_le h (Nat.pow_le_pow_right (by decide) (by decide))
      have hm9 : m.natAbs < 2 ^ 900 := Nat.lt_of_lt_of_le hm1 (Nat.pow_le_pow_right (by decide) (by decide))
      have sq := divsz ht2 hbz hb2
      have hbm0 : bot * m ≠ 0 := Int.mul_ne_zero hbz hm0
      have hbm : (bot * m).natAbs < 2 ^ 2000 := Nat.lt_of_lt_of_le (wide_lt (a := 200) (b := 110) hb2 hm1) (Nat.pow_le_pow_right (by decide) (by decide))
      refine q_parP (eq_mk (q := Rat.divInt top bot) (ea_cons (ev_op (ev_var rfl) (ev_var rfl) (rv_I (mulw (up9 ht2) hm9))) (ea_cons (ev_op (ev_var rfl) (ev_var rfl) (rv_I (mulw (up9 hb2) hm9))) ea_nil)) rfl hbm0 hbm (Rat.divInt_mul_right hm0)) (fun v H8 e8 _ => eu_low (K := K) (q := Rat.divInt top bot) (ea_cons (ev_var rfl) (ea_cons (ev_var rfl) ea_nil)) hbz (Nat.lt_of_lt_of_le hb2 (Nat.pow_le_pow_right (by decide) (by decide))) rfl) fun v w H8 H9 e8 ⟨c, hv, hc⟩ e9 ⟨tp, hw, htp⟩ => ?_
      subst hv hw
      have hc9 := hc.mono e9
      have mkq : Rat.divInt top bot = Rat.divInt top bot := rfl
      generalize hq : Rat.divInt top bot = q at *
      have s10 : Sz 1000 q := sq.mono (by decide)
      have s9 : Sz 900 q := sq.mono (by decide)
      have stop : Sz 1000 (top : Rat) := ⟨Nat.lt_of_lt_of_le ht2 (Nat.pow_le_pow_right (by decide) (by decide)), by show 1 < 2 ^ 1000; decide⟩
      refine q_when (b := false) (et_is (et_or (a := false) (b := false) (et_no (ev_isQ (eq_var rfl hc9) (eu_var rfl htp) s10)) fun _ => et_or (a := false) (b := false) (et_is (et_test (ev_neQ C (eq_var rfl hc9) (EQ.en (eq_mk (q := q) (ea_cons (ev_var rfl) (ea_cons (ev_var rfl) ea_nil)) rfl hbz (up20 hb2) hq)))) (by simp)) fun _ => et_no (ev_isQ (q := q) (eq_mkK hgK (ea_cons (ev_var rfl) (ea_cons (ev_var rfl) ea_nil)) hbz (up20 hb2) hq) (eu_var rfl htp) s10)) rfl) (fun z => nomatch z) (fun _ H10 e10 => ?_)
      have hc10 := hc9.mono e10
      have htp10 := ex_t e10 htp
      have ix : ∀ (σ' : L2.St) H', Ex H10 H' → σ'[9]? = some (some (.ref tp)) → Ev (tOp (rIxT K) (tVar 9) (tC (.int 0))) σ' H' (.int q.num) ∧ Ev (tOp (rIxT K) (tVar 9) (tC (.int 1))) σ' H' (.int (q.den : Int)) := fun σ' H' e hσ => ⟨ev_op (ev_var hσ) ev_c (rv_ixT (ex_t e htp10) (atI_nat (j := 0) rfl)), ev_op (ev_var hσ) ev_c (rv_ixT (ex_t e htp10) (atI_nat (j := 1) rfl))⟩
      refine q_when (b := false) (et_is (et_or (a := false) (b := false) (et_no (ev_isQ (q := -q) (eq_un (f := fun q => -q) (eq_var rfl hc10) s9) (eu_pair (ev_is (ev_un (ix _ _ (Ex.refl _) rfl).1 ru_neg) (by rw [Rat.neg_num])) (ev_is (ix _ _ (Ex.refl _) rfl).2 (by rw [Rat.neg_den]))) (sz_neg s10))) fun _ => et_no (ev_isQ (q := absQ q) (eq_abs (f := absQ) (eq_var rfl hc10) s9) (eu_pair (ev_is (ev_cb (ea_cons (ix _ _ (Ex.refl _) rfl).1 ea_nil) rc_abs) (by rw [abs_num])) (ev_is (ix _ _ (Ex.refl _) rfl).2 (by rw [abs_den]))) (sz_abs s10))) rfl) (fun z => nomatch z) (fun _ H11 e11 => ?_)
      have hc11 := hc10.mono e11
      have htp11 := ex_t e11 htp10
      refine q_when (b := false) (et_is (et_or (a := false) (b := false) (et_no (ev_isQ (eq_of (EQ.en (eq_var rfl hc11))) (eu_var rfl htp11) s10)) fun _ => et_or (a := false) (b := false) (et_no (ev_isQ (q := (top : Rat)) (eq_of (en_var (v := .int top) rfl (.inr ⟨rfl, rfl⟩))) (eu_pair (ev_var rfl) ev_c) stop)) fun _ => et_no (ev_isQ (q := (top : Rat)) (eq_mk (ea_cons (ev_var rfl) ea_nil) rfl (by decide) (by decide) (int_q top)) (eu_pair (ev_var rfl) ev_c) stop)) rfl) (fun z => nomatch z) (fun _ H12 e12 => ?_)
      have e7t := (((e8.trans e9).trans e10).trans e11).trans e12
      have hrow12 := hrow7.mono e7t
      have hal : as.length ≤ 2 := by have := hrow.la; omega
      have htl : ts.length ≤ 2 := by have := hrow.lt; omega
      refine s_parLL (el_cat (ev_var rfl) hrow12.v (el_lst (ea_cons (ev_var rfl) ea_nil) (by show 1 ≤ 100000; decide)) (by rw [List.length_map]; show _ + 1 ≤ _; omega)) (el_cat (ev_var rfl) hrow12.pr (el_lst (ea_cons (ev_var rfl) ea_nil) (by show 1 ≤ 100000; decide)) (by rw [List.length_map]; show _ + 1 ≤ _; omega)) fun l mm H13 hl hm13 e13 hv13 hp13 => ?_
      have hp12 := hp7.mono e7t (Nat.le_refl _)
      exact ⟨l, mm, as ++ [c], ts ++ [tp], qs ++ [q], _, _, _, _, _, _, rfl, hrow12.add e13 hv13 hp13 (hp12.ne hl) (hp12.ne hm13) ((hc11.mono e12).mono e13) (ex_t (e12.trans e13) htp11) sq, by simp [hlen], hp12.mono e13 (by omega)⟩
    · obtain ⟨va, pa, as, ts, qs, t4, t5, t6, t7, t8, t9, rfl, hrow, hlen, hp3⟩ := h
      obtain ⟨q0, q1, rfl⟩ : ∃ q0 q1, qs = [q0, q1] := by
        match qs, hlen with
        | [q0, q1], _ => exact ⟨q0, q1, rfl⟩
      obtain ⟨a0, a1, rfl⟩ : ∃ a0 a1, as = [a0, a1] := by
        match as, hrow.la with
        | [q0, q1], _ => exact ⟨q0, q1, rfl⟩
      obtain ⟨t0, t1, rfl⟩ : ∃ a0 a1, ts = [a0, a1] := by
        match ts, hrow.lt with
        | [q0, q1], _ => exact ⟨q0, q1, rfl⟩
      have sq0 : Sz 200 q0 := hrow.sz q0 (by simp)
      have sq1 : Sz 200 q1 := hrow.sz q1 (by simp)
      refine q_set (eq_int (ev_var rfl) hp3 (by decide) _ fun v H4 ⟨n, hv, hn, e4, hp4⟩ => ?_)
      subst hv
      have hrow4 := hrow.pen hp3 e4
      refine q_parLT (xs := [.ref a0, .ref a1, .int n]) (el_cat (ev_var rfl) hrow4.v (el_lst (ea_cons (ev_var rfl) ea_nil) (by show 1 ≤ 100000; decide)) (by show 2 + 1 ≤ 100000; decide)) (ev_var rfl) hrow4.pr (by show 2 ≤ 1000; decide) (ea_cons (ev_var rfl) (ea_cons ev_c ea_nil)) (by show 2 ≤ 100000; decide) fun vb pb t2 H5 hvb hpb e5 h5v h5p h5t => ?_
      have hrow5 := hrow4.mono e5
      have dn : Done K cR p vb pb a0 a1 t0 t1 t2 q0 q1 n H5 := ⟨h5v, h5p, hp4.ne hvb, hp4.ne hpb, hrow5.ia 0 a0 rfl, hrow5.ia 1 a1 rfl, hrow5.it 0 t0 rfl, hrow5.it 1 t1 rfl, st_of h5t⟩
      have hp5 := hp4.mono e5 (Nat.le_refl _)
      have sn : Sz 200 (n : Rat) := ⟨t200 hn, by show 1 < 2 ^ 200; decide⟩
      refine q_par (v := .ref a0) (w := .ref a1) (ea_cons (ev_op (ev_var rfl) ev_c (rv_ixL (sq_of dn.v) (atI_nat (j := 0) rfl))) (ea_cons (ev_op (ev_var rfl) ev_c (rv_ixL (sq_of dn.v) (atI_nat (j := 1) rfl))) ea_nil)) fun H6 e6 => ?_
      refine q_forR1 (ea_cons ev_c ea_nil) (by decide) (fun i σ' H' => ∃ (t13 : Option V), σ' = [some (.ref sa), some (.ref p), some (.ref vb), some (.ref pb), t4, t5, t6, t7, t8, t9, some (.int n), some (.ref a0), some (.ref a1), t13, none, none] ∧ Ex H5 H') (fun H7 e7 => ⟨_, rfl, e6.trans e7⟩) (fun i σ' H' hi h => ?_) (fun σ' H' h => ?_)
      · obtain ⟨t13, rfl, e7⟩ := h
        have dn7 := dn.mono e7
        obtain ⟨v, t, r, hv, ht, hnv, hst, sr⟩ : ∃ (v : V) (t : Addr) (r : Rat), ([.ref a0, .ref a1, .int n] : List V)[i]? = some v ∧ ([.ref t0, .ref t1, .ref t2] : List V)[i]? = some (.ref t) ∧ Num cR H' v r ∧ SqT K H' t (prV r) ∧ Sz 200 r := by
          match i, hi with
          | 0, _ => exact ⟨_, _, q0, rfl, rfl, .inl ⟨a0, rfl, dn7.i0⟩, dn7.s0, sq0⟩
          | 1, _ => exact ⟨_, _, q1, rfl, rfl, .inl ⟨a1, rfl, dn7.i1⟩, dn7.s1, sq1⟩
          | 2, _ => exact ⟨_, _, n, rfl, rfl, .inr ⟨rfl, rfl⟩, dn7.s2, sn⟩
          | (i + 3), hi => exact absurd hi (by omega)
        have ix : ∀ (σ' : L2.St) H2, Ex H' H2 → σ'[2]? = some (some (.ref vb)) → σ'[13]? = some (some (.int (i : Int))) → Ev (tOp (rIxL K) (tVar 2) (tVar 13)) σ' H2 v := fun σ' H2 e hσ h13 => ev_op (ev_var hσ) (ev_var h13) (rv_ixL (sq_of (e _ _ dn7.v)) (atI_nat hv))
        have iy : ∀ (σ' : L2.St) H2, Ex H' H2 → σ'[3]? = some (some (.ref pb)) → σ'[13]? = some (some (.int (i : Int))) → Ev (tOp (rIxL K) (tVar 3) (tVar 13)) σ' H2 (.ref t) := fun σ' H2 e hσ h13 => ev_op (ev_var hσ) (ev_var h13) (rv_ixL (sq_of (e _ _ dn7.pr)) (atI_nat ht))
        have iz : ∀ (σ' : L2.St) H2 (j : Nat) (u : Addr), Ex H' H2 → σ'[3]? = some (some (.ref pb)) → ([.ref t0, .ref t1, .ref t2] : List V)[j]? = some (.ref u) → Ev (tOp (rIxL K) (tVar 3) (tC (.int (j : Int)))) σ' H2 (.ref u) := fun σ' H2 j u e hσ hj => ev_op (ev_var hσ) ev_c (rv_ixL (sq_of (e _ _ dn7.pr)) (atI_nat hj))
        refine s_when (b := false) (et_is (et_or (a := false) (b := false) (et_no (ev_two (ea_cons (ev_var rfl) (ea_cons (iz _ _ 0 t0 (Ex.refl _) rfl rfl) (ea_cons (ix _ _ (Ex.refl _) rfl rfl) (ea_cons (iy _ _ (Ex.refl _) rfl rfl) ea_nil)))) dn7.i0 dn7.s0 hnv hst sq0 sr)) fun _ => et_no (ev_two (ea_cons (ev_var rfl) (ea_cons (iz _ _ 1 t1 (Ex.refl _) rfl rfl) (ea_cons (ix _ _ (Ex.refl _) rfl rfl) (ea_cons (iy _ _ (Ex.refl _) rfl rfl) ea_nil)))) dn7.i1 dn7.s1 hnv hst sq1 sr)) rfl) (fun z => nomatch z) (fun _ H8 e8 => ⟨_, rfl, e7.trans e8⟩)
      · obtain ⟨t13, rfl, e7⟩ := h
        have dn7 := dn.mono e7
        have z0 : Sz 900 q0 := sq0.mono (by decide)
        have z1 : Sz 900 q1 := sq1.mono (by decide)
        have zn : Sz 900 (n : Rat) := sn.mono (by decide)
        have za : Sz 900 (q0 + q1) := (sz_addq sq0 sq1).mono (by decide)
        have zs : Sz 900 (q0 - q1) := (sz_subq sq0 sq1).mono (by decide)
        have zt : Sz 900 (q1 - q0) := (sz_subq sq1 sq0).mono (by decide)
        have zm0 : Sz 900 (q0 * q0) := (sz_mulq sq0 sq0).mono (by decide)
        have zm1 : Sz 900 (q1 * q1) := (sz_mulq sq1 sq1).mono (by decide)
        have zm : Sz 900 (q0 * q1) := (sz_mulq sq0 sq1).mono (by decide)
        have zn0 : Sz 900 (q0 * (n : Rat)) := (sz_mulq sq0 sn).mono (by decide)
        have zn1 : Sz 900 (q1 * (n : Rat)) := (sz_mulq sq1 sn).mono (by decide)
        have V0 : ∀ H2 (σ' : L2.St), Ex H' H2 → σ'[11]? = some (some (.ref a0)) → EQ cR (tVar 11) σ' H2 q0 := fun H2 σ' e h => eq_var h (dn7.i0.mono e)
        have V1 : ∀ H2 (σ' : L2.St), Ex H' H2 → σ'[12]? = some (some (.ref a1)) → EQ cR (tVar 12) σ' H2 q1 := fun H2 σ' e h => eq_var h (dn7.i1.mono e)
        have VN : ∀ H2 (σ' : L2.St), σ'[10]? = some (some (.int n)) → EN cR (tVar 10) σ' H2 (n : Rat) := fun H2 σ' h => en_var h (.inr ⟨rfl, rfl⟩)
        have ad : ∀ {W : WX} {ta tb : TE} {σ' : L2.St} {H2 : Hp} {q r : Rat}, EQ cR ta σ' H2 q → EN cR tb σ' H2 r → Sz 900 q → Sz 900 r → EQ cR (tOpS (rBinO K cR "add" (spBin K cR cBR (· + ·)) W) ta tb) σ' H2 (q + r) := fun h1 h2 s1 s2 => eq_bin (nm := "add") (f := (· + ·)) C (by simp) h1 h2 s1 s2
        have sb : ∀ {W : WX} {ta tb : TE} {σ' : L2.St} {H2 : Hp} {q r : Rat}, EQ cR ta σ' H2 q → EN cR tb σ' H2 r → Sz 900 q → Sz 900 r → EQ cR (tOpS (rBinO K cR "sub" (spBin K cR cBR (· - ·)) W) ta tb) σ' H2 (q - r) := fun h1 h2 s1 s2 => eq_bin (nm := "sub") (f := (· - ·)) C (by simp) h1 h2 s1 s2
        have mu : ∀ {W : WX} {ta tb : TE} {σ' : L2.St} {H2 : Hp} {q r : Rat}, EQ cR ta σ' H2 q → EN cR tb σ' H2 r → Sz 900 q → Sz 900 r → EQ cR (tOpS (rBinO K cR "mul" (spBin K cR cBR (· * ·)) W) ta tb) σ' H2 (q * r) := fun h1 h2 s1 s2 => eq_bin (nm := "mul") (f := (· * ·)) C (by simp) h1 h2 s1 s2
        refine q_when (b := false) (et_is (et_or (a := false) (b := false) (et_is (et_test (ev_neQ C (mu (ad (V0 _ _ (Ex.refl _) rfl) (EQ.en (V1 _ _ (Ex.refl _) rfl)) z0 z1) (EQ.en (sb (V0 _ _ (Ex.refl _) rfl) (EQ.en (V1 _ _ (Ex.refl _) rfl)) z0 z1)) za zs) (EQ.en (sb (mu (V0 _ _ (Ex.refl _) rfl) (EQ.en (V0 _ _ (Ex.refl _) rfl)) z0 z0) (EQ.en (mu (V1 _ _ (Ex.refl _) rfl) (EQ.en (V1 _ _ (Ex.refl _) rfl)) z1 z1)) zm0 zm1)))) (by rw [decide_eq_true (by grind)]; rfl)) fun _ => et_is (et_test (ev_neQ C (ad (sb (V0 _ _ (Ex.refl _) rfl) (EQ.en (V1 _ _ (Ex.refl _) rfl)) z0 z1) (EQ.en (sb (V1 _ _ (Ex.refl _) rfl) (EQ.en (V0 _ _ (Ex.refl _) rfl)) z1 z0)) zs zt) en_c)) (by rw [decide_eq_true (by grind)]; rfl)) rfl) (fun z => nomatch z) (fun _ H8 e8 => ?_)
        refine q_when (b := false) (et_is (et_or (a := false) (b := false) (et_is (et_test (ev_neQ C (mu (ad (V0 _ _ e8 rfl) (EQ.en (V1 _ _ e8 rfl)) z0 z1) (VN _ _ rfl) za zn) (EQ.en (ad (mu (V0 _ _ e8 rfl) (VN _ _ rfl) z0 zn) (EQ.en (mu (V1 _ _ e8 rfl) (VN _ _ rfl) z1 zn)) zn0 zn1)))) (by rw [decide_eq_true (by grind)]; rfl)) fun _ => et_is (et_test (ev_neQ C (eq_abs (f := absQ) (mu (V0 _ _ e8 rfl) (EQ.en (V1 _ _ e8 rfl)) z0 z1) zm) (EQ.en (mu (eq_abs (f := absQ) (V0 _ _ e8 rfl) z0) (EQ.en (eq_abs (f := absQ) (V1 _ _ e8 rfl) z1)) (sz_abs z0) (sz_abs z1))))) (by rw [decide_eq_true (abs_mul q0 q1)]; rfl)) rfl) (fun z => nomatch z) (fun _ H9 e9 => ?_)
        have hp9 := hp5.mono (e7.trans (e8.trans e9)) (Nat.le_refl _)
        have dn9 := dn7.mono (e8.trans e9)
        refine q_parQ (P1 := fun v H10 => ∃ r : Int, v = .int r ∧ 0 ≤ r ∧ r < 4 ∧ ExB p H9 H10 ∧ Pen K H10 p 221) (fun Q q => go_draw (ea_cons (ev_var rfl) (ea_cons ev_c ea_nil)) hp9 (by decide) (by decide) (by decide) fun r H10 h0 h1 e10 hp10 => q _ H10 ⟨r, rfl, h0, h1, e10, hp10⟩) (P2 := fun v w H11 => ∃ r k : Int, v = .int r ∧ w = .int k ∧ 0 ≤ r ∧ r < 4 ∧ (k = 1 ∨ k = -1) ∧ ExB p H9 H11 ∧ Pen K H11 p 222) (fun v H10 ⟨r, hv, h0, h1, e10, hp10⟩ Q q => go_pickN (xs := [.int 1, .int (-1)]) (ev_var rfl) (el_lst (ea_cons ev_c (ea_cons (ev_un ev_c ru_neg) ea_nil)) (by show 2 ≤ 100000; decide)) hp10 (by decide) (by simp) (by show 2 ≤ 100000; decide) fun x H11 hx e11 hp11 => by
          simp only [List.mem_cons, List.not_mem_nil, or_false] at hx
          rcases hx with rfl | rfl
          · exact q _ H11 ⟨r, 1, hv, rfl, h0, h1, .inl rfl, e10.trans e11, hp11⟩
          · exact q _ H11 ⟨r, -1, hv, rfl, h0, h1, .inr rfl, e10.trans e11, hp11⟩) fun v w H11 h11 => ?_
        obtain ⟨r, tk, rfl, rfl, h0, h1, hk, e11, hp11⟩ := h11
        obtain ⟨m, rfl⟩ := Int.eq_ofNat_of_zero_le h0
        have dn11 := dn9.pen hp9 e11
        have cv1 : ∀ (xs : List V), cutV xs none (some (m : Int)) = xs.take m := fun xs => cut_take xs m (by omega)
        refine q_when (b := false) (et_no fun H12 e12 Q12 k12 => ?_) (fun z => nomatch z) (fun _ H12 e12 => ?_)
        · have dn12 := dn11.mono e12
          refine g_gfA (g_cons (el_catLL (el_step (el_sl (ev_var rfl) eo_none (eo_some (ev_var rfl)) (sq_of dn12.v)) (ev_var rfl) hk) (el_sl (ev_var rfl) eo_none (eo_some (ev_var rfl)) (sq_of dn12.v)) (cut_len _ _ _ hk (by show 3 ≤ 1000; decide)) H12 (Ex.refl _) _ fun a H13 ha e13 h13 => g_cons (el_catLL (el_step (el_sl (ev_var rfl) eo_none (eo_some (ev_var rfl)) (sq_of (e13 _ _ dn12.pr))) (ev_var rfl) hk) (el_sl (ev_var rfl) eo_none (eo_some (ev_var rfl)) (sq_of (e13 _ _ dn12.pr))) (cut_len _ _ _ hk (by show 3 ≤ 1000; decide)) H13 (Ex.refl _) _ fun b H14 hb e14 h14 => ?_)))
          rw [cv1] at h13 h14
          have dn14 := dn12.mono (e13.trans e14)
          obtain ⟨hD, hd, hall⟩ := three_in sq0 sq1 (t200 hn)
          have hN : Side (Num cR H14) [.ref a0, .ref a1, .int n] [q0, q1, (n : Rat)] := .cons (.inl ⟨a0, rfl, dn14.i0⟩) (.cons (.inl ⟨a1, rfl, dn14.i1⟩) (.cons (.inr ⟨rfl, rfl⟩) .nil))
          have hP : Side (fun x q => ∃ t, x = .ref t ∧ SqT K H14 t (prV q)) [.ref t0, .ref t1, .ref t2] [q0, q1, (n : Rat)] := .cons ⟨t0, rfl, dn14.s0⟩ (.cons ⟨t1, rfl, dn14.s1⟩ (.cons ⟨t2, rfl, dn14.s2⟩ .nil))
          exact ⟨a, b, _, _, _, rfl, sq_of (e14 _ _ h13), (hN.turn tk m).num, sq_of h14, (hP.turn tk m).pair, turn_len rfl, fun q hq => by
            have hq := turn_mem hq
            simp only [List.mem_cons, List.not_mem_nil, or_false] at hq
            rcases hq with rfl | rfl | rfl
            · exact sq0
            · exact sq1
            · exact sn, fun k => sum_ok hD hd (turn_len rfl) (fun q hq => hall q (turn_mem hq)) k, fun H15 e15 => k12 H15 ((e13.trans e14).trans e15)⟩
        have dn12 := dn11.mono e12
        have hp12 := hp11.mono e12 (Nat.le_refl _)
        refine tq_or (P1 := fun H' => ExB p H12 H') (P2 := fun H' => ExB p H12 H') (b := false) (tq_not (b := true) (tq_B fun Q q => go_gf (vs := [.ref p, .ref a0]) (ea_cons (ev_var rfl) (ea_cons (ev_var rfl) ea_nil)) fun H13 e13 => ⟨p, a0, 222, q0, rfl, hp12.mono e13 (Nat.le_refl _), by decide, dn12.i0.mono e13, z0, fun H14 e14 hp14 => q _ _ ⟨rfl, (ExB.of e13).trans e14⟩⟩)) (fun H13 e13 Q q => tq_of (b := false) (et_is (et_test (ev_op (x := .int 60) (fun H1 _ Q q => ⟨cR, mc, .int 60, u60, rfl, cr, cv, q H1 (Ex.refl _)⟩) ev_c (rv_ne rfl))) (by simp)) Q fun H14 e14 => q H14 (e13.trans (ExB.of e14))) _ fun H14 e14 => ?_
        have dn14 := dn12.pen hp12 e14
        refine s_ret (v := .bl true) (ev_is (ev_andV (ev_isQ (eq_var rfl dn14.i0) (eu_at (ev_op (ev_var rfl) ev_c (rv_ixL (sq_of dn14.pr) (atI_nat (j := 0) rfl))) dn14.s0) (sq0.mono (by decide))) fun _ => ev_isQ (eq_var rfl dn14.i1) (eu_at (ev_op (ev_var rfl) ev_c (rv_ixL (sq_of dn14.pr) (atI_nat (j := 1) rfl))) dn14.s1) (sq1.mono (by decide))) rfl) fun H15 _ => k H15
end
end K1

/-! # K01z -/
set_option Elab.async false
set_option linter.all false
set_option maxRecDepth 100000
set_option maxHeartbeats 4000000
namespace K1
open PySem PyProof.Rows L2 Pk Evl
theorem vals_rev {zs : List V} {ws : List Value} (h : Vals zs ws) : Vals zs.reverse ws.reverse := by
  induction h with
  | nil => exact .nil
  | cons r _ ih => rw [List.reverse_cons, List.reverse_cons]; exact Vals.append ih (.cons r .nil)
theorem all_mk {P : Program} {w : World} {K : PySem.W.Frag} {h : Heap} {mg : Str → Option Value} {fa : Addr} (X : K.In h) (G : h.Ns mainGlobals mg) (hfa : mg "law" = some (.ref fa))
    {cPE : Addr} {cBR : Addr} {cR : Addr} {nmBR qBR : Str} {NBR : Addr} {bsBR bmBR : List Value} {snBR : List Str} {subBR : List Value} {abBR : Bool} {colBR : Option Bool} {ddBR : Option Addr} {m0BR m1BR m2BR m3BR m5BR : Option Value} {fBR cdaBR ccBR : Addr} {odBR anBR cddBR cldBR : Option Addr} {slBR ccsBR cslBR : Array (Option Value)} {ocBR kVBR dcBR pmBR ctBR cclBR clBR : Value} {vsBR : Array Value} {tfBR : Tok} {cdCBR cdBBR : ClassData} {mc_cR : Value} {t60 : Tok} {fisI : Addr} {odisI anisI : Option Addr} {slisI : Array (Option Value)} {ocisI kVisI dcisI pmisI cdisI ctisI : Value} {fQI : Addr} {odQI anQI : Option Addr} {slQI : Array (Option Value)} {ocQI kVQI dcQI pmQI cdQI ctQI : Value} {TQI : Addr} {oTQI : Obj} {itsQI : List Value} {nTQI : Nat} {fisR : Addr} {odisR anisR : Option Addr} {slisR : Array (Option Value)} {ocisR kVisR dcisR pmisR cdisR ctisR : Value} {fRF : Addr} {odRF anRF : Option Addr} {slRF : Array (Option Value)} {ocRF kVRF dcRF pmRF cdRF ctRF : Value} {fof : Addr} {odof anof : Option Addr} {slof : Array (Option Value)} {ocof kVof dcof pmof cdof ctof : Value} {pof : Addr} {rsof : List Value} {ppsg : Addr} {rrsg : List Value} {fsg : Addr} {odsg ansg : Option Addr} {slsg : Array (Option Value)} {ocsg kVsg dcsg pmsg cdsg ctsg : Value} {ppwh : Addr} {rrwh : List Value} {fwh : Addr} {odwh anwh : Option Addr} {slwh : Array (Option Value)} {ocwh kVwh dcwh pmwh cdwh ctwh : Value} {fadd : Addr} {odadd anadd : Option Addr} {sladd : Array (Option Value)} {ocadd kVadd dcadd pmadd cdadd ctadd : Value} {fsub : Addr} {odsub ansub : Option Addr} {slsub : Array (Option Value)} {ocsub kVsub dcsub pmsub cdsub ctsub : Value} {fmul : Addr} {odmul anmul : Option Addr} {slmul : Array (Option Value)} {ocmul kVmul dcmul pmmul cdmul ctmul : Value} {fneg : Addr} {odneg anneg : Option Addr} {slneg : Array (Option Value)} {ocneg kVneg dcneg pmneg cdneg ctneg : Value} {fabs : Addr} {odabs anabs : Option Addr} {slabs : Array (Option Value)} {ocabs kVabs dcabs pmabs cdabs ctabs : Value} {fbo : Addr} {odbo anbo : Option Addr} {slbo : Array (Option Value)} {ocbo kVbo dcbo pmbo cdbo ctbo : Value} {feq : Addr} {odeq aneq : Option Addr} {sleq : Array (Option Value)} {oceq kVeq dceq pmeq cdeq cteq : Value} {fstr : Addr} {odstr anstr : Option Addr} {slstr : Array (Option Value)} {ocstr kVstr dcstr pmstr cdstr ctstr : Value} {frep : Addr} {odrep anrep : Option Addr} {slrep : Array (Option Value)} {ocrep kVrep dcrep pmrep cdrep ctrep : Value} {fover : Addr} {odover anover : Option Addr} {slover : Array (Option Value)} {ocover kVover dcover pmover cdover ctover : Value} {fcmp : Addr} {odcmp ancmp : Option Addr} {slcmp : Array (Option Value)} {occmp kVcmp dccmp pmcmp cdcmp ctcmp : Value} {fbel : Addr} {odbel anbel : Option Addr} {slbel : Array (Option Value)} {ocbel kVbel dcbel pmbel cdbel ctbel : Value} {fadded : Addr} {odadded anadded : Option Addr} {sladded : Array (Option Value)} {ocadded kVadded dcadded pmadded cdadded ctadded : Value} {fgr : Addr} {odgr angr : Option Addr} {slgr : Array (Option Value)} {ocgr kVgr dcgr pmgr cdgr ctgr : Value} {fle : Addr} {odle anle : Option Addr} {slle : Array (Option Value)} {ocle kVle dcle pmle cdle ctle : Value} {fpen : Addr} {odpen anpen : Option Addr} {slpen : Array (Option Value)} {ocpen kVpen dcpen pmpen cdpen ctpen : Value} {fdraw : Addr} {oddraw andraw : Option Addr} {sldraw : Array (Option Value)} {ocdraw kVdraw dcdraw pmdraw cddraw ctdraw : Value} {fpick : Addr} {odpick anpick : Option Addr} {slpick : Array (Option Value)} {ocpick kVpick dcpick pmpick cdpick ctpick : Value} {fint : Addr} {odint anint : Option Addr} {slint : Array (Option Value)} {ocint kVint dcint pmint cdint ctint : Value} {flow : Addr} {odlow anlow : Option Addr} {sllow : Array (Option Value)} {oclow kVlow dclow pmlow cdlow ctlow : Value} {fis : Addr} {odis anis : Option Addr} {slis : Array (Option Value)} {ocis kVis dcis pmis cdis ctis : Value} {fpart : Addr} {odpart anpart : Option Addr} {slpart : Array (Option Value)} {ocpart kVpart dcpart pmpart cdpart ctpart : Value} {ftwo : Addr} {odtwo antwo : Option Addr} {sltwo : Array (Option Value)} {octwo kVtwo dctwo pmtwo cdtwo cttwo : Value} {flists : Addr} {odlists anlists : Option Addr} {sllists : Array (Option Value)} {oclists kVlists dclists pmlists cdlists ctlists : Value} {fref : Addr} {odref anref : Option Addr} {slref : Array (Option Value)} {ocref kVref dcref pmref cdref ctref : Value} {flaw : Addr} {odlaw anlaw : Option Addr} {sllaw : Array (Option Value)} {oclaw kVlaw dclaw pmlaw cdlaw ctlaw : Value}
    (a_cPE : PySem.W.nsIn K mainGlobals "PeekError" = some (some (.ref cPE)))
    (a_cBR : PySem.W.nsIn K mainGlobals "BadRatio" = some (some (.ref cBR)))
    (a_cR : PySem.W.nsIn K mainGlobals "Ratio" = some (some (.ref cR)))
    (th : PySem.W.nsIn K cStatics "thirdparty.any" = some none)
    (ns : (P.main.scope.names.lookup ("super" : Str)).isSome = false)
    (z_len : PySem.W.nsIn K mainGlobals "len" = some none)
    (z_isinstance : PySem.W.nsIn K mainGlobals "isinstance" = some none)
    (z_int : PySem.W.nsIn K mainGlobals "int" = some none)
    (z_bool : PySem.W.nsIn K mainGlobals "bool" = some none)
    (z_str : PySem.W.nsIn K mainGlobals "str" = some none)
    (z_all : PySem.W.nsIn K mainGlobals "all" = some none)
    (z_tuple : PySem.W.nsIn K mainGlobals "tuple" = some none)
    (z_repr : PySem.W.nsIn K mainGlobals "repr" = some none)
    (z_abs : PySem.W.nsIn K mainGlobals "abs" = some none)
    (z_range : PySem.W.nsIn K mainGlobals "range" = some none)
    (z_list : PySem.W.nsIn K mainGlobals "list" = some none)
    (z_super : PySem.W.nsIn K mainGlobals "super" = some none)
    (gG : PySem.W.nsIn K mainGlobals "gcd" = some (some (.builtin "math.gcd")))
    (xLBR : K.lookup cBR = some (excClassObj nmBR qBR cBR NBR bsBR bmBR true snBR subBR abBR colBR ddBR m0BR m1BR m2BR m3BR m5BR "ValueError.__new__"))
    (xBBR : PySem.HandSPX.refsVE bmBR = true)
    (xsBR : PySem.W.findIn K (.ref cBR) "__setattr__" = some (some (.builtin "object.__setattr__")))
    (xgBR : PySem.W.findIn K (.ref cBR) "__getattribute__" = some (some (.builtin "BaseException.__getattribute__")))
    (xhBR : PySem.W.findIn K (.ref cBR) "__getattr__" = some none)
    (xeBR : PySem.W.subIn K (.ref cBR) (.type "BaseException") = some true)
    (xtBR : PySem.W.typeIn K (.ref cBR) = some (.type "type"))
    (xkBR : PySem.W.keepIn K (.ref cBR) = true)
    (xdBR : PySem.W.hasDictIn K cBR = true)
    (xmBR : PySem.W.mroIn K cBR (.ref cBR) = some true)
    (xoBR : PySem.W.mroIn K cBR (.type "object") = some true)
    (xaBR : PySem.W.findIn K (.ref cBR) "__class__" = some (some (.builtin "object.__class__")))
    (xvBR : PySem.W.subIn K (.ref cBR) (.type "ValueError") = some true)
    (xcBR : PySem.W.clsIn K cBR = some cdCBR)
    (xbBR : PySem.W.clsIn K cPE = some cdBBR)
    (xqBR : (cdCBR.mro.dropWhile (· != .ref cBR)).drop 1 = cdBBR.mro)
    (xfBR : PySem.W.findIn K (.ref cPE) "__init__" = some (some (.builtin "ValueError.__init__")))
    (n_cBR_part : PySem.W.findIn K (.ref cBR) "part" = some none)
    (aBR : PySem.W.findIn K (.ref cBR) "__init__" = some (some (.ref fBR)))
    (tBR : PySem.W.typeIn K (.ref fBR) = some (.type "function"))
    (lBR : K.lookup fBR = some ⟨ocBR, odBR, .func (PySem.W.ksFn "__init__" "BadRatio.__init__" (defArgs (inClass (top 4) 0)) (defBody (inClass (top 4) 0)) (defScope (inClass (top 4) 0)) .none kVBR dcBR pmBR anBR (.ref cdaBR) ctBR ccBR), slBR⟩)
    (coBR : PySem.W.codeIn K (.ref cdaBR) "BadRatio.__init__" = true)
    (lcBR : K.lookup cdaBR = some ⟨cclBR, cddBR, .fields vsBR, ccsBR⟩)
    (lvBR : vsBR[2]? = some (.str P.main.file tfBR))
    (lzBR : K.lookup ccBR = some ⟨clBR, cldBR, .cell (some (.ref cBR)), cslBR⟩)
    (pe1 : PySem.W.subIn K (.ref cPE) (.type "BaseException") = some true)
    (pe2 : PySem.W.isClsIn K cPE = true)
    (pe3 : PySem.W.typeIn K (.ref cPE) = some (.type "type"))
    (pe4 : PySem.W.subIn K (.ref cBR) (.ref cPE) = some true)
    (pg_cR : PySem.W.plainGet K cR Str.empty = true)
    (hd_cR : PySem.W.hasDictIn K cR = true)
    (po_cR : PySem.W.plainOver K cR = true)
    (sa_cR : PySem.W.findIn K (.ref cR) "__setattr__" = some (some (.builtin "object.__setattr__")))
    (mk_cR : PySem.W.makesIn K cR = true)
    (kp_cR : PySem.W.keepIn K (.ref cR) = true)
    (n_cR_top : PySem.W.findIn K (.ref cR) "top" = some none)
    (n_cR_bottom : PySem.W.findIn K (.ref cR) "bottom" = some none)
    (ha_cR : PySem.W.findIn K (.ref cR) "__class__" = some (some (.builtin "object.__class__")))
    (hm_cR : PySem.W.mroIn K cR (.type "object") = some true)
    (oc1 : PySem.W.specialIn K (.builtin "object.__class__") "__get__" = some (some (.builtin "getset_descriptor.__get__")))
    (oc2 : PySem.W.takesIn K (.builtin "object.__class__") = some true)
    (rl : PySem.W.subIn K (.ref cR) (.type "list") = some false)
    (rt : PySem.W.subIn K (.ref cR) (.type "tuple") = some false)
    (ty_cR : PySem.W.typeIn K (.ref cR) = some mc_cR)
    (rd_cR : PySem.W.readsIn K cR mc_cR = true)
    (cg_cR : PySem.W.specialIn K (.ref cR) "__getattribute__" = some (some (.builtin "type.__getattribute__")))
    (isc_cR : PySem.W.isClsIn K cR = true)
    (tyc_cR : PySem.W.typeIn K (.ref cR) = some (.type "type"))
    (self_cR : PySem.W.selfFirst K cR = true)
    (ne_cR : PySem.W.findIn K (.ref cR) "__ne__" = some (some (.builtin "object.__ne__")))
    (radd_cR : PySem.W.findIn K (.ref cR) "__radd__" = some none)
    (rsub_cR : PySem.W.findIn K (.ref cR) "__rsub__" = some none)
    (rmul_cR : PySem.W.findIn K (.ref cR) "__rmul__" = some none)
    (md_cR : PySem.W.findCls K (.ref cR) mc_cR "MOST_DIGITS" = some (.val (.int 60 t60)))
    (aisI : PySem.W.nsIn K mainGlobals "is_integer" = some (some (.ref fisI)))
    (lisI : K.lookup fisI = some ⟨ocisI, odisI, .func (PySem.W.fnOf "is_integer" "is_integer" (defArgs s_isI) (defBody s_isI) (defScope s_isI) .none kVisI dcisI pmisI anisI cdisI ctisI), slisI⟩)
    (cisI : PySem.W.codeIn K cdisI "is_integer" = true)
    (kisI : PySem.W.keepIn K (.ref fisI) = true)
    (aQI : PySem.W.findIn K (.ref cR) "__init__" = some (some (.ref fQI)))
    (iQI : PySem.W.isFn K (.ref fQI) = true)
    (lQI : K.lookup fQI = some ⟨ocQI, odQI, .func (PySem.W.fnOf "__init__" "Ratio.__init__" (defArgs s_QI) (defBody s_QI) (defScope s_QI) (.ref TQI) kVQI dcQI pmQI anQI cdQI ctQI), slQI⟩)
    (cQI : PySem.W.codeIn K cdQI "Ratio.__init__" = true)
    (kQI : PySem.W.keepIn K (.ref fQI) = true)
    (tQI : K.lookup TQI = some oTQI)
    (dQI : oTQI.data = .seq itsQI.toArray nTQI)
    (vQI : Vals [.int 1] itsQI)
    (aisR : PySem.W.nsIn K mainGlobals "is_ratio" = some (some (.ref fisR)))
    (lisR : K.lookup fisR = some ⟨ocisR, odisR, .func (PySem.W.fnOf "is_ratio" "is_ratio" (defArgs s_isR) (defBody s_isR) (defScope s_isR) .none kVisR dcisR pmisR anisR cdisR ctisR), slisR⟩)
    (cisR : PySem.W.codeIn K cdisR "is_ratio" = true)
    (kisR : PySem.W.keepIn K (.ref fisR) = true)
    (aRF : PySem.W.nsIn K mainGlobals "ratio_from" = some (some (.ref fRF)))
    (lRF : K.lookup fRF = some ⟨ocRF, odRF, .func (PySem.W.fnOf "ratio_from" "ratio_from" (defArgs s_RF) (defBody s_RF) (defScope s_RF) .none kVRF dcRF pmRF anRF cdRF ctRF), slRF⟩)
    (cRF : PySem.W.codeIn K cdRF "ratio_from" = true)
    (kRF : PySem.W.keepIn K (.ref fRF) = true)
    (sof : PySem.W.findCls K (.ref cR) mc_cR "of" = some (.get (.builtin "staticmethod.__get__") (.ref pof) .none (.ref cR)))
    (rof : PySem.W.recIn K pof "staticmethod" = some (.ref fof :: rsof))
    (lof : K.lookup fof = some ⟨ocof, odof, .func (PySem.W.fnOf "of" "Ratio.of" (defArgs s_of) (defBody s_of) (defScope s_of) .none kVof dcof pmof anof cdof ctof), slof⟩)
    (cof : PySem.W.codeIn K cdof "Ratio.of" = true)
    (kof : PySem.W.keepIn K (.ref fof) = true)
    (pasg : PySem.W.findIn K (.ref cR) "sign" = some (some (.ref ppsg)))
    (pgsg : PySem.W.specialIn K (.ref ppsg) "__get__" = some (some (.builtin "property.__get__")))
    (ptsg : PySem.W.takesIn K (.ref ppsg) = some true)
    (prsg : PySem.W.recIn K ppsg "property" = some (.ref fsg :: rrsg))
    (lsg : K.lookup fsg = some ⟨ocsg, odsg, .func (PySem.W.fnOf "sign" "Ratio.sign" (defArgs s_sg) (defBody s_sg) (defScope s_sg) .none kVsg dcsg pmsg ansg cdsg ctsg), slsg⟩)
    (csg : PySem.W.codeIn K cdsg "Ratio.sign" = true)
    (ksg : PySem.W.keepIn K (.ref fsg) = true)
    (pawh : PySem.W.findIn K (.ref cR) "is_whole" = some (some (.ref ppwh)))
    (pgwh : PySem.W.specialIn K (.ref ppwh) "__get__" = some (some (.builtin "property.__get__")))
    (ptwh : PySem.W.takesIn K (.ref ppwh) = some true)
    (prwh : PySem.W.recIn K ppwh "property" = some (.ref fwh :: rrwh))
    (lwh : K.lookup fwh = some ⟨ocwh, odwh, .func (PySem.W.fnOf "is_whole" "Ratio.is_whole" (defArgs s_wh) (defBody s_wh) (defScope s_wh) .none kVwh dcwh pmwh anwh cdwh ctwh), slwh⟩)
    (cwh : PySem.W.codeIn K cdwh "Ratio.is_whole" = true)
    (kwh : PySem.W.keepIn K (.ref fwh) = true)
    (aadd : PySem.W.findIn K (.ref cR) "__add__" = some (some (.ref fadd)))
    (iadd : PySem.W.isFn K (.ref fadd) = true)
    (ladd : K.lookup fadd = some ⟨ocadd, odadd, .func (PySem.W.fnOf "__add__" "Ratio.__add__" (defArgs s_add) (defBody s_add) (defScope s_add) .none kVadd dcadd pmadd anadd cdadd ctadd), sladd⟩)
    (cadd : PySem.W.codeIn K cdadd "Ratio.__add__" = true)
    (kadd : PySem.W.keepIn K (.ref fadd) = true)
    (asub : PySem.W.findIn K (.ref cR) "__sub__" = some (some (.ref fsub)))
    (isub : PySem.W.isFn K (.ref fsub) = true)
    (lsub : K.lookup fsub = some ⟨ocsub, odsub, .func (PySem.W.fnOf "__sub__" "Ratio.__sub__" (defArgs s_sub) (defBody s_sub) (defScope s_sub) .none kVsub dcsub pmsub ansub cdsub ctsub), slsub⟩)
    (csub : PySem.W.codeIn K cdsub "Ratio.__sub__" = true)
    (ksub : PySem.W.keepIn K (.ref fsub) = true)
    (amul : PySem.W.findIn K (.ref cR) "__mul__" = some (some (.ref fmul)))
    (imul : PySem.W.isFn K (.ref fmul) = true)
    (lmul : K.lookup fmul = some ⟨ocmul, odmul, .func (PySem.W.fnOf "__mul__" "Ratio.__mul__" (defArgs s_mul) (defBody s_mul) (defScope s_mul) .none kVmul dcmul pmmul anmul cdmul ctmul), slmul⟩)
    (cmul : PySem.W.codeIn K cdmul "Ratio.__mul__" = true)
    (kmul : PySem.W.keepIn K (.ref fmul) = true)
    (aneg : PySem.W.findIn K (.ref cR) "__neg__" = some (some (.ref fneg)))
    (ineg : PySem.W.isFn K (.ref fneg) = true)
    (lneg : K.lookup fneg = some ⟨ocneg, odneg, .func (PySem.W.fnOf "__neg__" "Ratio.__neg__" (defArgs s_neg) (defBody s_neg) (defScope s_neg) .none kVneg dcneg pmneg anneg cdneg ctneg), slneg⟩)
    (cneg : PySem.W.codeIn K cdneg "Ratio.__neg__" = true)
    (kneg : PySem.W.keepIn K (.ref fneg) = true)
    (aabs : PySem.W.findIn K (.ref cR) "__abs__" = some (some (.ref fabs)))
    (iabs : PySem.W.isFn K (.ref fabs) = true)
    (labs : K.lookup fabs = some ⟨ocabs, odabs, .func (PySem.W.fnOf "__abs__" "Ratio.__abs__" (defArgs s_abs) (defBody s_abs) (defScope s_abs) .none kVabs dcabs pmabs anabs cdabs ctabs), slabs⟩)
    (cabs : PySem.W.codeIn K cdabs "Ratio.__abs__" = true)
    (kabs : PySem.W.keepIn K (.ref fabs) = true)
    (abo : PySem.W.findIn K (.ref cR) "__bool__" = some (some (.ref fbo)))
    (ibo : PySem.W.isFn K (.ref fbo) = true)
    (lbo : K.lookup fbo = some ⟨ocbo, odbo, .func (PySem.W.fnOf "__bool__" "Ratio.__bool__" (defArgs s_bo) (defBody s_bo) (defScope s_bo) .none kVbo dcbo pmbo anbo cdbo ctbo), slbo⟩)
    (cbo : PySem.W.codeIn K cdbo "Ratio.__bool__" = true)
    (kbo : PySem.W.keepIn K (.ref fbo) = true)
    (aeq : PySem.W.findIn K (.ref cR) "__eq__" = some (some (.ref feq)))
    (ieq : PySem.W.isFn K (.ref feq) = true)
    (leq : K.lookup feq = some ⟨oceq, odeq, .func (PySem.W.fnOf "__eq__" "Ratio.__eq__" (defArgs s_eq) (defBody s_eq) (defScope s_eq) .none kVeq dceq pmeq aneq cdeq cteq), sleq⟩)
    (ceq : PySem.W.codeIn K cdeq "Ratio.__eq__" = true)
    (keq : PySem.W.keepIn K (.ref feq) = true)
    (astr : PySem.W.findIn K (.ref cR) "__str__" = some (some (.ref fstr)))
    (istr : PySem.W.isFn K (.ref fstr) = true)
    (lstr : K.lookup fstr = some ⟨ocstr, odstr, .func (PySem.W.fnOf "__str__" "Ratio.__str__" (defArgs s_str) (defBody s_str) (defScope s_str) .none kVstr dcstr pmstr anstr cdstr ctstr), slstr⟩)
    (cstr : PySem.W.codeIn K cdstr "Ratio.__str__" = true)
    (kstr : PySem.W.keepIn K (.ref fstr) = true)
    (arep : PySem.W.findIn K (.ref cR) "__repr__" = some (some (.ref frep)))
    (irep : PySem.W.isFn K (.ref frep) = true)
    (lrep : K.lookup frep = some ⟨ocrep, odrep, .func (PySem.W.fnOf "__repr__" "Ratio.__repr__" (defArgs s_rep) (defBody s_rep) (defScope s_rep) .none kVrep dcrep pmrep anrep cdrep ctrep), slrep⟩)
    (crep : PySem.W.codeIn K cdrep "Ratio.__repr__" = true)
    (krep : PySem.W.keepIn K (.ref frep) = true)
    (aover : PySem.W.findIn K (.ref cR) "over" = some (some (.ref fover)))
    (iover : PySem.W.isFn K (.ref fover) = true)
    (lover : K.lookup fover = some ⟨ocover, odover, .func (PySem.W.fnOf "over" "Ratio.over" (defArgs s_over) (defBody s_over) (defScope s_over) .none kVover dcover pmover anover cdover ctover), slover⟩)
    (cover : PySem.W.codeIn K cdover "Ratio.over" = true)
    (kover : PySem.W.keepIn K (.ref fover) = true)
    (acmp : PySem.W.findIn K (.ref cR) "compared" = some (some (.ref fcmp)))
    (icmp : PySem.W.isFn K (.ref fcmp) = true)
    (lcmp : K.lookup fcmp = some ⟨occmp, odcmp, .func (PySem.W.fnOf "compared" "Ratio.compared" (defArgs s_cmp) (defBody s_cmp) (defScope s_cmp) .none kVcmp dccmp pmcmp ancmp cdcmp ctcmp), slcmp⟩)
    (ccmp : PySem.W.codeIn K cdcmp "Ratio.compared" = true)
    (kcmp : PySem.W.keepIn K (.ref fcmp) = true)
    (abel : PySem.W.findIn K (.ref cR) "is_below" = some (some (.ref fbel)))
    (ibel : PySem.W.isFn K (.ref fbel) = true)
    (lbel : K.lookup fbel = some ⟨ocbel, odbel, .func (PySem.W.fnOf "is_below" "Ratio.is_below" (defArgs s_bel) (defBody s_bel) (defScope s_bel) .none kVbel dcbel pmbel anbel cdbel ctbel), slbel⟩)
    (cbel : PySem.W.codeIn K cdbel "Ratio.is_below" = true)
    (kbel : PySem.W.keepIn K (.ref fbel) = true)
    (aadded : PySem.W.nsIn K mainGlobals "added" = some (some (.ref fadded)))
    (ladded : K.lookup fadded = some ⟨ocadded, odadded, .func (PySem.W.fnOf "added" "added" (defArgs s_added) (defBody s_added) (defScope s_added) .none kVadded dcadded pmadded anadded cdadded ctadded), sladded⟩)
    (cadded : PySem.W.codeIn K cdadded "added" = true)
    (kadded : PySem.W.keepIn K (.ref fadded) = true)
    (agr : PySem.W.nsIn K mainGlobals "greatest_of" = some (some (.ref fgr)))
    (lgr : K.lookup fgr = some ⟨ocgr, odgr, .func (PySem.W.fnOf "greatest_of" "greatest_of" (defArgs s_gr) (defBody s_gr) (defScope s_gr) .none kVgr dcgr pmgr angr cdgr ctgr), slgr⟩)
    (cgr : PySem.W.codeIn K cdgr "greatest_of" = true)
    (kgr : PySem.W.keepIn K (.ref fgr) = true)
    (ale : PySem.W.nsIn K mainGlobals "least_of" = some (some (.ref fle)))
    (lle : K.lookup fle = some ⟨ocle, odle, .func (PySem.W.fnOf "least_of" "least_of" (defArgs s_le) (defBody s_le) (defScope s_le) .none kVle dcle pmle anle cdle ctle), slle⟩)
    (cle : PySem.W.codeIn K cdle "least_of" = true)
    (kle : PySem.W.keepIn K (.ref fle) = true)
    (apen : PySem.W.nsIn K mainGlobals "_law_pen" = some (some (.ref fpen)))
    (lpen : K.lookup fpen = some ⟨ocpen, odpen, .func (PySem.W.fnOf "_law_pen" "_law_pen" (defArgs s_pen) (defBody s_pen) (defScope s_pen) .none kVpen dcpen pmpen anpen cdpen ctpen), slpen⟩)
    (cpen : PySem.W.codeIn K cdpen "_law_pen" = true)
    (kpen : PySem.W.keepIn K (.ref fpen) = true)
    (adraw : PySem.W.nsIn K mainGlobals "_law_draw" = some (some (.ref fdraw)))
    (ldraw : K.lookup fdraw = some ⟨ocdraw, oddraw, .func (PySem.W.fnOf "_law_draw" "_law_draw" (defArgs s_draw) (defBody s_draw) (defScope s_draw) .none kVdraw dcdraw pmdraw andraw cddraw ctdraw), sldraw⟩)
    (cdraw : PySem.W.codeIn K cddraw "_law_draw" = true)
    (kdraw : PySem.W.keepIn K (.ref fdraw) = true)
    (apick : PySem.W.nsIn K mainGlobals "_law_pick" = some (some (.ref fpick)))
    (lpick : K.lookup fpick = some ⟨ocpick, odpick, .func (PySem.W.fnOf "_law_pick" "_law_pick" (defArgs s_pick) (defBody s_pick) (defScope s_pick) .none kVpick dcpick pmpick anpick cdpick ctpick), slpick⟩)
    (cpick : PySem.W.codeIn K cdpick "_law_pick" = true)
    (kpick : PySem.W.keepIn K (.ref fpick) = true)
    (aint : PySem.W.nsIn K mainGlobals "_law_integer" = some (some (.ref fint)))
    (lint : K.lookup fint = some ⟨ocint, odint, .func (PySem.W.fnOf "_law_integer" "_law_integer" (defArgs s_int) (defBody s_int) (defScope s_int) .none kVint dcint pmint anint cdint ctint), slint⟩)
    (cint : PySem.W.codeIn K cdint "_law_integer" = true)
    (kint : PySem.W.keepIn K (.ref fint) = true)
    (alow : PySem.W.nsIn K mainGlobals "_law_low" = some (some (.ref flow)))
    (llow : K.lookup flow = some ⟨oclow, odlow, .func (PySem.W.fnOf "_law_low" "_law_low" (defArgs s_low) (defBody s_low) (defScope s_low) .none kVlow dclow pmlow anlow cdlow ctlow), sllow⟩)
    (clow : PySem.W.codeIn K cdlow "_law_low" = true)
    (klow : PySem.W.keepIn K (.ref flow) = true)
    (ais : PySem.W.nsIn K mainGlobals "_law_is" = some (some (.ref fis)))
    (lis : K.lookup fis = some ⟨ocis, odis, .func (PySem.W.fnOf "_law_is" "_law_is" (defArgs s_is) (defBody s_is) (defScope s_is) .none kVis dcis pmis anis cdis ctis), slis⟩)
    (cis : PySem.W.codeIn K cdis "_law_is" = true)
    (kis : PySem.W.keepIn K (.ref fis) = true)
    (apart : PySem.W.nsIn K mainGlobals "_law_part" = some (some (.ref fpart)))
    (lpart : K.lookup fpart = some ⟨ocpart, odpart, .func (PySem.W.fnOf "_law_part" "_law_part" (defArgs s_part) (defBody s_part) (defScope s_part) .none kVpart dcpart pmpart anpart cdpart ctpart), slpart⟩)
    (cpart : PySem.W.codeIn K cdpart "_law_part" = true)
    (kpart : PySem.W.keepIn K (.ref fpart) = true)
    (atwo : PySem.W.nsIn K mainGlobals "_law_two_right" = some (some (.ref ftwo)))
    (ltwo : K.lookup ftwo = some ⟨octwo, odtwo, .func (PySem.W.fnOf "_law_two_right" "_law_two_right" (defArgs s_two) (defBody s_two) (defScope s_two) .none kVtwo dctwo pmtwo antwo cdtwo cttwo), sltwo⟩)
    (ctwo : PySem.W.codeIn K cdtwo "_law_two_right" = true)
    (ktwo : PySem.W.keepIn K (.ref ftwo) = true)
    (alists : PySem.W.nsIn K mainGlobals "_law_lists_right" = some (some (.ref flists)))
    (llists : K.lookup flists = some ⟨oclists, odlists, .func (PySem.W.fnOf "_law_lists_right" "_law_lists_right" (defArgs s_lists) (defBody s_lists) (defScope s_lists) .none kVlists dclists pmlists anlists cdlists ctlists), sllists⟩)
    (clists : PySem.W.codeIn K cdlists "_law_lists_right" = true)
    (klists : PySem.W.keepIn K (.ref flists) = true)
    (aref : PySem.W.nsIn K mainGlobals "_law_refused_right" = some (some (.ref fref)))
    (lref : K.lookup fref = some ⟨ocref, odref, .func (PySem.W.fnOf "_law_refused_right" "_law_refused_right" (defArgs s_ref) (defBody s_ref) (defScope s_ref) .none kVref dcref pmref anref cdref ctref), slref⟩)
    (cref : PySem.W.codeIn K cdref "_law_refused_right" = true)
    (kref : PySem.W.keepIn K (.ref fref) = true)
    (alaw : PySem.W.nsIn K mainGlobals "law" = some (some (.ref flaw)))
    (llaw : K.lookup flaw = some ⟨oclaw, odlaw, .func (PySem.W.fnOf "law" "law" (defArgs s_law) (defBody s_law) (defScope s_law) .none kVlaw dclaw pmlaw anlaw cdlaw ctlaw), sllaw⟩)
    (claw : PySem.W.codeIn K cdlaw "law" = true)
    (klaw : PySem.W.keepIn K (.ref flaw) = true) :
    ∃ fd : FuncData, (∀ (s : Shared) (u : Value), BindsTo s fd ⟨[u], []⟩ [("_law_script", u)]) ∧ ∀ base : Heap, K.In base → base.Ns mainGlobals mg → FnG P w K mg base 12 fa fd ["_law_script"] (spLaw K) := by
  have e := hfa.symm.trans (PySem.W.mg_of X G alaw)
  cases e
  have g := fun {n : Str} {v : Value} (e : PySem.W.nsIn K mainGlobals n = some (some v)) => PySem.W.mg_of X G e
  have z := fun {n : Str} (e : PySem.W.nsIn K mainGlobals n = some none) => PySem.W.mg_none_of X G e
  have B : Bj mg := ⟨z z_len, z z_isinstance, z z_int, z z_bool, z z_str, z z_all, z z_tuple, z z_repr, z z_abs, z z_range, z z_list, g gG⟩
  have cR' : Cls K cR := ⟨pg_cR, hd_cR, po_cR, sa_cR⟩
  have C : RC1 K cR := ⟨⟨⟨cR', ha_cR, oc1, oc2, hm_cR⟩, n_cR_top, n_cR_bottom⟩, isc_cR, tyc_cR, self_cR, ne_cR, radd_cR, rsub_cR, rmul_cR⟩
  have r_cR : ClX.CRead K cR mc_cR := ⟨rd_cR, cg_cR⟩
  have OBR : OexC K cBR := ⟨⟨nmBR, qBR, NBR, bsBR, bmBR, snBR, subBR, abBR, colBR, ddBR, m0BR, m1BR, m2BR, m3BR, m5BR, xLBR, xBBR⟩, xsBR, xeBR, xtBR, xkBR⟩
  have EBR : ExI K cBR cBR := ⟨OBR, xmBR, sup_of xcBR xbBR xqBR xfBR, xvBR⟩
  have FBR : ExF P K "BadRatio.__init__" (inClass (top 4) 0) fBR cBR (PySem.W.ksFn "__init__" "BadRatio.__init__" (defArgs (inClass (top 4) 0)) (defBody (inClass (top 4) 0)) (defScope (inClass (top 4) 0)) .none kVBR dcBR pmBR anBR (.ref cdaBR) ctBR ccBR) :=
    ⟨⟨_, _, _, _, _, _, _, _, _, _, _, _, _, _, _, _, _, _, _, rfl, lBR, coBR, lcBR, lvBR, lzBR, xcBR⟩, ns, th⟩
  have XBR : ∀ base : Heap, XCls P w K mg base "BadRatio" cBR ["part"] := fun base => ⟨⟨cBR, fBR, _, EBR, fun f hf => by simp at hf; subst hf; exact n_cBR_part, aBR, tBR, ok_init FBR (z z_super) ⟨⟨_, rfl, rfl⟩, rfl, rfl, by decide +kernel, by decide +kernel, rfl, by decide +kernel, rfl, rfl, by decide⟩ rfl (.cons .nil) (fun _ _ _ => rfl), .all fun us hl => match us, hl with | [_, _], _ => rfl⟩, g a_cBR⟩
  have BR : BrC K cPE cBR := ⟨⟨xgBR, xhBR, xeBR, xdBR⟩, ⟨xgBR, xhBR, xeBR, xdBR, xaBR, oc1, oc2, xoBR⟩, n_cBR_part, exm_of pe1 pe2 pe3 pe4⟩
  have kbadded : KBinds K (PySem.W.fnOf "added" "added" (defArgs s_added) (defBody s_added) (defScope s_added) .none kVadded dcadded pmadded anadded cdadded ctadded) ["ratios"] ["ratios"] (fun us ws => us ++ ws) (fun vs zs => vs ++ zs) := by
    refine ⟨fun s us ws _ hl => ?_, fun r1 r2 => r1.append r2⟩
    match us, ws, hl with
    | [], [_], _ => exact .of_eq rfl
    | [_], [], _ => exact .of_eq rfl
  have kbgr : KBinds K (PySem.W.fnOf "greatest_of" "greatest_of" (defArgs s_gr) (defBody s_gr) (defScope s_gr) .none kVgr dcgr pmgr angr cdgr ctgr) ["ratios"] ["ratios"] (fun us ws => us ++ ws) (fun vs zs => vs ++ zs) := by
    refine ⟨fun s us ws _ hl => ?_, fun r1 r2 => r1.append r2⟩
    match us, ws, hl with
    | [], [_], _ => exact .of_eq rfl
    | [_], [], _ => exact .of_eq rfl
  have FisI := fun_mk (st := s_isI) lisI cisI kisI
  have bisI := FisI.binds (ps := ["value"]) fun _ _ _ _ _ _ us hl => match us, hl with | [_], _ => rfl
  have FQI := funX_mk (st := s_QI) lQI cQI kQI
  have DQI := funD_mk (st := s_QI) (dvs := [.int 1]) lQI cQI kQI tQI dQI (by simp) vQI
  have bQI_1 := DQI.binds1 (ps := ["self", "top", "bottom"]) 2 0 (by simp) rfl (fun _ _ _ _ _ _ _ us its hu hi => match us, its, hu, hi with | [_, _], [_], _, _ => ⟨_, rfl, rfl⟩)
  have bQI_0 := DQI.binds1 (ps := ["self", "top", "bottom"]) 3 1 (by simp) rfl (fun _ _ _ _ _ _ _ us its hu hi => match us, its, hu, hi with | [_, _, _], [_], _, _ => ⟨_, rfl, rfl⟩)
  have FisR := fun_mk (st := s_isR) lisR cisR kisR
  have bisR := FisR.binds (ps := ["value"]) fun _ _ _ _ _ _ us hl => match us, hl with | [_], _ => rfl
  have FRF := fun_mk (st := s_RF) lRF cRF kRF
  have bRF := FRF.binds (ps := ["value", "part"]) fun _ _ _ _ _ _ us hl => match us, hl with | [_, _], _ => rfl
  have Fof := fun_mk (st := s_of) lof cof kof
  have bof := Fof.binds (ps := ["value"]) fun _ _ _ _ _ _ us hl => match us, hl with | [_], _ => rfl
  have Fsg := fun_mk (st := s_sg) lsg csg ksg
  have bsg := Fsg.binds (ps := ["self"]) fun _ _ _ _ _ _ us hl => match us, hl with | [_], _ => rfl
  have Fwh := fun_mk (st := s_wh) lwh cwh kwh
  have bwh := Fwh.binds (ps := ["self"]) fun _ _ _ _ _ _ us hl => match us, hl with | [_], _ => rfl
  have Fadd := fun_mk (st := s_add) ladd cadd kadd
  have badd := Fadd.binds (ps := ["self", "other"]) fun _ _ _ _ _ _ us hl => match us, hl with | [_, _], _ => rfl
  have Fsub := fun_mk (st := s_sub) lsub csub ksub
  have bsub := Fsub.binds (ps := ["self", "other"]) fun _ _ _ _ _ _ us hl => match us, hl with | [_, _], _ => rfl
  have Fmul := fun_mk (st := s_mul) lmul cmul kmul
  have bmul := Fmul.binds (ps := ["self", "other"]) fun _ _ _ _ _ _ us hl => match us, hl with | [_, _], _ => rfl
  have Fneg := fun_mk (st := s_neg) lneg cneg kneg
  have bneg := Fneg.binds (ps := ["self"]) fun _ _ _ _ _ _ us hl => match us, hl with | [_], _ => rfl
  have Fabs := fun_mk (st := s_abs) labs cabs kabs
  have babs := Fabs.binds (ps := ["self"]) fun _ _ _ _ _ _ us hl => match us, hl with | [_], _ => rfl
  have Fbo := fun_mk (st := s_bo) lbo cbo kbo
  have bbo := Fbo.binds (ps := ["self"]) fun _ _ _ _ _ _ us hl => match us, hl with | [_], _ => rfl
  have Feq := fun_mk (st := s_eq) leq ceq keq
  have beq := Feq.binds (ps := ["self", "other"]) fun _ _ _ _ _ _ us hl => match us, hl with | [_, _], _ => rfl
  have Fstr := fun_mk (st := s_str) lstr cstr kstr
  have bstr := Fstr.binds (ps := ["self"]) fun _ _ _ _ _ _ us hl => match us, hl with | [_], _ => rfl
  have Frep := fun_mk (st := s_rep) lrep crep krep
  have brep := Frep.binds (ps := ["self"]) fun _ _ _ _ _ _ us hl => match us, hl with | [_], _ => rfl
  have Fover := fun_mk (st := s_over) lover cover kover
  have bover := Fover.binds (ps := ["self", "other"]) fun _ _ _ _ _ _ us hl => match us, hl with | [_, _], _ => rfl
  have Fcmp := fun_mk (st := s_cmp) lcmp ccmp kcmp
  have bcmp := Fcmp.binds (ps := ["self", "other"]) fun _ _ _ _ _ _ us hl => match us, hl with | [_, _], _ => rfl
  have Fbel := fun_mk (st := s_bel) lbel cbel kbel
  have bbel := Fbel.binds (ps := ["self", "other"]) fun _ _ _ _ _ _ us hl => match us, hl with | [_, _], _ => rfl
  have Fadded := fun_mk (st := s_added) ladded cadded kadded
  have badded := Fadded.binds (ps := ["ratios"]) fun _ _ _ _ _ _ us hl => match us, hl with | [_], _ => rfl
  have Fgr := fun_mk (st := s_gr) lgr cgr kgr
  have bgr := Fgr.binds (ps := ["ratios"]) fun _ _ _ _ _ _ us hl => match us, hl with | [_], _ => rfl
  have Fle := fun_mk (st := s_le) lle cle kle
  have ble := Fle.binds (ps := ["ratios"]) fun _ _ _ _ _ _ us hl => match us, hl with | [_], _ => rfl
  have Fpen := fun_mk (st := s_pen) lpen cpen kpen
  have bpen := Fpen.binds (ps := ["_law_script"]) fun _ _ _ _ _ _ us hl => match us, hl with | [_], _ => rfl
  have Fdraw := fun_mk (st := s_draw) ldraw cdraw kdraw
  have bdraw := Fdraw.binds (ps := ["_law_pen_here", "_law_many"]) fun _ _ _ _ _ _ us hl => match us, hl with | [_, _], _ => rfl
  have Fpick := fun_mk (st := s_pick) lpick cpick kpick
  have bpick := Fpick.binds (ps := ["_law_pen_here", "_law_some"]) fun _ _ _ _ _ _ us hl => match us, hl with | [_, _], _ => rfl
  have Fint := fun_mk (st := s_int) lint cint kint
  have bint := Fint.binds (ps := ["_law_pen_here"]) fun _ _ _ _ _ _ us hl => match us, hl with | [_], _ => rfl
  have Flow := fun_mk (st := s_low) llow clow klow
  have blow := Flow.binds (ps := ["_law_top", "_law_bottom"]) fun _ _ _ _ _ _ us hl => match us, hl with | [_, _], _ => rfl
  have Fis := fun_mk (st := s_is) lis cis kis
  have bis := Fis.binds (ps := ["_law_value", "_law_pair"]) fun _ _ _ _ _ _ us hl => match us, hl with | [_, _], _ => rfl
  have Fpart := fun_mk (st := s_part) lpart cpart kpart
  have bpart := Fpart.binds (ps := ["_law_way", "_law_ratio", "_law_odd"]) fun _ _ _ _ _ _ us hl => match us, hl with | [_, _, _], _ => rfl
  have Ftwo := fun_mk (st := s_two) ltwo ctwo ktwo
  have btwo := Ftwo.binds (ps := ["_law_one", "_law_first", "_law_other", "_law_second"]) fun _ _ _ _ _ _ us hl => match us, hl with | [_, _, _, _], _ => rfl
  have Flists := fun_mk (st := s_lists) llists clists klists
  have blists := Flists.binds (ps := ["_law_values", "_law_pairs"]) fun _ _ _ _ _ _ us hl => match us, hl with | [_, _], _ => rfl
  have Fref := fun_mk (st := s_ref) lref cref kref
  have bref := Fref.binds (ps := ["_law_pen_here", "_law_ratio"]) fun _ _ _ _ _ _ us hl => match us, hl with | [_, _], _ => rfl
  have Flaw := fun_mk (st := s_law) llaw claw klaw
  have kbQI : KBn K (PySem.W.fnOf "__init__" "Ratio.__init__" (defArgs s_QI) (defBody s_QI) (defScope s_QI) (.ref TQI) kVQI dcQI pmQI anQI cdQI ctQI) ["self", "top", "bottom"] 1 ["bottom", "top"] (fun us ws => us ++ ws.reverse) (fun vs zs => vs ++ zs.reverse) := by
    refine ⟨fun s us ws hX hu hw => ?_, fun r1 r2 => r1.append (vals_rev r2)⟩
    have l1 : itsQI.length = 1 := vQI.length.symm
    obtain ⟨k, e1, e2⟩ : ∃ k, bindArgs (PySem.W.fnOf "__init__" "Ratio.__init__" (defArgs s_QI) (defBody s_QI) (defScope s_QI) (.ref TQI) kVQI dcQI pmQI anQI cdQI ctQI) ⟨us, (["bottom", "top"] : List Str).zip ws⟩ = seqItems? (.ref TQI) >>= k ∧ k (some itsQI.toArray) = pure ((["self", "top", "bottom"] : List Str).zip (us ++ ws.reverse)) := by
      match us, ws, hu, hw, itsQI, l1 with
      | [_], [_, _], _, _, [_], _ => exact ⟨_, rfl, rfl⟩
    refine BindsTo.of_looks fun M => ?_
    rw [e1]
    exact looks_items hX tQI dQI (.of_pure e2)
  refine ⟨PySem.W.fnOf "law" "law" (defArgs s_law) (defBody s_law) (defScope s_law) .none kVlaw dclaw pmlaw anlaw cdlaw ctlaw, fun s u => .of_eq rfl, fun base _ _ => ?_⟩
  have ooisI : FnG P w K mg base 1 fisI _ ["value"] (spIsI K) := ok_isI FisI B
  have ooQI : FnG P w K mg base 3 fQI _ ["self", "top", "bottom"] (spQI K cR cBR) := ok_QI FQI B C ⟨_, g aisI, (fd_all ooisI bisI kisI)⟩ (XBR base)
  have ooisR : FnG P w K mg base 2 fisR _ ["value"] (spIsR K cR) := ok_isR FisR B C (g a_cR) ⟨_, g aisI, (fd_all ooisI bisI kisI)⟩
  have ooRF : FnG P w K mg base 5 fRF _ ["value", "part"] (spRF K cR cBR) := ok_RF FRF B C (g a_cR) ⟨_, g aisI, (fd_all ooisI bisI kisI)⟩ (XBR base) ⟨g a_cR, _, ⟨mk_cR, aQI, iQI, kp_cR⟩, (fd_dfl ooQI bQI_1 kQI)⟩
  have ooof : FnG P w K mg base 6 fof _ ["value"] (spOf K cR cBR) := ok_of Fof ⟨_, g aRF, (fd_all ooRF bRF kRF)⟩
  have oosg : FnG P w K mg base 1 fsg _ ["self"] (spSg cR) := ok_sg Fsg C
  have oowh : FnG P w K mg base 1 fwh _ ["self"] (spWh cR) := ok_wh Fwh C
  have ooadd : FnG P w K mg base 6 fadd _ ["self", "other"] (spBin K cR cBR (· + ·)) := ok_add Fadd C ⟨_, g aRF, (fd_all ooRF bRF kRF)⟩ ⟨g a_cR, _, ⟨mk_cR, aQI, iQI, kp_cR⟩, (fd_dfl ooQI bQI_0 kQI)⟩
  have oosub : FnG P w K mg base 6 fsub _ ["self", "other"] (spBin K cR cBR (· - ·)) := ok_sub Fsub C ⟨_, g aRF, (fd_all ooRF bRF kRF)⟩ ⟨g a_cR, _, ⟨mk_cR, aQI, iQI, kp_cR⟩, (fd_dfl ooQI bQI_0 kQI)⟩
  have oomul : FnG P w K mg base 6 fmul _ ["self", "other"] (spBin K cR cBR (· * ·)) := ok_mul Fmul C ⟨_, g aRF, (fd_all ooRF bRF kRF)⟩ ⟨g a_cR, _, ⟨mk_cR, aQI, iQI, kp_cR⟩, (fd_dfl ooQI bQI_0 kQI)⟩
  have ooneg : FnG P w K mg base 5 fneg _ ["self"] (spUn cR (fun q => -q)) := ok_neg Fneg C ⟨g a_cR, _, ⟨mk_cR, aQI, iQI, kp_cR⟩, (fd_dfl ooQI bQI_0 kQI)⟩
  have ooabs : FnG P w K mg base 5 fabs _ ["self"] (spUn cR absQ) := ok_abs Fabs B C ⟨g a_cR, _, ⟨mk_cR, aQI, iQI, kp_cR⟩, (fd_dfl ooQI bQI_0 kQI)⟩
  have oobo : FnG P w K mg base 1 fbo _ ["self"] (spBo cR) := ok_bo Fbo B C
  have ooeq : FnG P w K mg base 2 feq _ ["self", "other"] (spEqQ K cR) := ok_eq Feq B C (g a_cR) ⟨_, g aisI, (fd_all ooisI bisI kisI)⟩
  have oostr : FnG P w K mg base 1 fstr _ ["self"] (spStQ cR) := ok_str Fstr B C
  have oorep : FnG P w K mg base 4 frep _ ["self"] (spStQ cR) := ok_rep Frep B ⟨_, astr, istr, (fd_all oostr bstr kstr)⟩
  have ooover : FnG P w K mg base 6 fover _ ["self", "other"] (spOver K cR cBR) := ok_over Fover C ⟨_, g aRF, (fd_all ooRF bRF kRF)⟩ ⟨g a_cR, _, ⟨mk_cR, aQI, iQI, kp_cR⟩, (fd_dfl ooQI bQI_0 kQI)⟩ (XBR base)
  have oocmp : FnG P w K mg base 6 fcmp _ ["self", "other"] (spCmp K cR cBR V.int) := ok_cmp Fcmp C ⟨_, g aRF, (fd_all ooRF bRF kRF)⟩
  have oobel : FnG P w K mg base 7 fbel _ ["self", "other"] (spCmp K cR cBR (fun i => .bl (decide (i = -1)))) := ok_bel Fbel C ⟨cR', _, ⟨acmp, icmp, kcmp⟩, (fd_all oocmp bcmp kcmp)⟩
  have ooadded : FnG P w K mg base 7 fadded _ ["ratios"] (spAdd K cR cBR) := ok_added Fadded B C ⟨_, g aisR, (fd_all ooisR bisR kisR)⟩ (XBR base) ⟨g a_cR, _, ⟨mk_cR, aQI, iQI, kp_cR⟩, (fd_dfl ooQI bQI_1 kQI)⟩ ⟨_, aadd, iadd, (fd_all ooadd badd kadd)⟩
  have oogr : FnG P w K mg base 8 fgr _ ["ratios"] (spGr K cR cBR gmax) := ok_gr Fgr B C ⟨_, g aisR, (fd_all ooisR bisR kisR)⟩ (XBR base) ⟨g a_cR, mc_cR, pof, fof, rsof, r_cR, sof, rof, (fd_all ooof bof kof)⟩ ⟨cR', _, ⟨abel, ibel, kbel⟩, (fd_all oobel bbel kbel)⟩
  have oole : FnG P w K mg base 9 fle _ ["ratios"] (spGr K cR cBR gmin) := ok_le Fle B C ⟨_, g aisR, (fd_all ooisR bisR kisR)⟩ (XBR base) ⟨g a_cR, mc_cR, pof, fof, rsof, r_cR, sof, rof, (fd_all ooof bof kof)⟩ ⟨_, aneg, ineg, (fd_all ooneg bneg kneg)⟩ ⟨_, g agr, (fd_all oogr bgr kgr)⟩
  have oopen : FnG P w K mg base 1 fpen _ ["_law_script"] (spPen K) := ok_pen Fpen B
  have oodraw : FnG P w K mg base 1 fdraw _ ["_law_pen_here", "_law_many"] (spDraw K) := ok_draw Fdraw B
  have oopick : FnG P w K mg base 2 fpick _ ["_law_pen_here", "_law_some"] (spPick K) := ok_pick Fpick B ⟨_, g adraw, (fd_all oodraw bdraw kdraw)⟩
  have ooint : FnG P w K mg base 3 fint _ ["_law_pen_here"] (spInt K) := ok_int Fint B ⟨_, g adraw, (fd_all oodraw bdraw kdraw)⟩ ⟨_, g apick, (fd_all oopick bpick kpick)⟩
  have oolow : FnG P w K mg base 1 flow _ ["_law_top", "_law_bottom"] spLow := ok_low Flow B
  have oois : FnG P w K mg base 6 fis _ ["_law_value", "_law_pair"] (spIs K cR) := ok_is Fis B C (g a_cR) ⟨cR', ppsg, fsg, ⟨pasg, pgsg, ptsg, ⟨_, prsg⟩⟩, (fd_all oosg bsg ksg)⟩ ⟨cR', ppwh, fwh, ⟨pawh, pgwh, ptwh, ⟨_, prwh⟩⟩, (fd_all oowh bwh kwh)⟩ ⟨_, abo, ibo, (fd_all oobo bbo kbo)⟩ ⟨_, astr, istr, (fd_all oostr bstr kstr)⟩ ⟨_, arep, irep, (fd_all oorep brep krep)⟩
  have oopart : FnG P w K mg base 10 fpart _ ["_law_way", "_law_ratio", "_law_odd"] (spPart K cR) := ok_part Fpart B C BR (g a_cPE) (g a_cBR) ⟨_, aadd, iadd, (fd_all ooadd badd kadd)⟩ ⟨_, asub, isub, (fd_all oosub bsub ksub)⟩ ⟨_, amul, imul, (fd_all oomul bmul kmul)⟩ ⟨cR', _, ⟨aover, iover, kover⟩, (fd_all ooover bover kover)⟩ ⟨cR', _, ⟨acmp, icmp, kcmp⟩, (fd_all oocmp bcmp kcmp)⟩ ⟨cR', _, ⟨abel, ibel, kbel⟩, (fd_all oobel bbel kbel)⟩ ⟨g a_cR, mc_cR, pof, fof, rsof, r_cR, sof, rof, (fd_all ooof bof kof)⟩ ⟨g a_cR, _, ⟨mk_cR, aQI, iQI, kp_cR⟩, (fd_dfl ooQI bQI_0 kQI)⟩ ⟨_, g aadded, (fd_all ooadded badded kadded)⟩ ⟨_, g ale, (fd_all oole ble kle)⟩ ⟨_, g agr, (fd_all oogr bgr kgr)⟩
  have ootwo : FnG P w K mg base 11 ftwo _ ["_law_one", "_law_first", "_law_other", "_law_second"] (spTwo K cR) := ok_two Ftwo B C ne_cR hm_cR ⟨_, aadd, iadd, (fd_all ooadd badd kadd)⟩ ⟨_, asub, isub, (fd_all oosub bsub ksub)⟩ ⟨_, amul, imul, (fd_all oomul bmul kmul)⟩ ⟨_, aeq, ieq, (fd_all ooeq beq keq)⟩ ⟨cR', _, ⟨aover, iover, kover⟩, (fd_all ooover bover kover)⟩ ⟨cR', _, ⟨acmp, icmp, kcmp⟩, (fd_all oocmp bcmp kcmp)⟩ ⟨cR', _, ⟨abel, ibel, kbel⟩, (fd_all oobel bbel kbel)⟩ ⟨_, g ais, (fd_all oois bis kis)⟩ ⟨_, g alow, (fd_all oolow blow klow)⟩ ⟨_, g apart, (fd_all oopart bpart kpart)⟩
  have oolists : FnG P w K mg base 11 flists _ ["_law_values", "_law_pairs"] (spLists K cR) := ok_lists (gV := fun vs zs => vs ++ zs) (fun _ => rfl) Flists B C ⟨_, g ais, (fd_all oois bis kis)⟩ ⟨_, g alow, (fd_all oolow blow klow)⟩ ⟨_, g apart, (fd_all oopart bpart kpart)⟩ ⟨_, g aadded, (fd_all ooadded badded kadded)⟩ ⟨_, g aadded, ⟨_, _, _, ooadded, kbadded⟩, kadded⟩ ⟨_, g ale, (fd_all oole ble kle)⟩ ⟨_, g agr, ⟨_, _, _, oogr, kbgr⟩, kgr⟩ ⟨g a_cR, _, ⟨mk_cR, aQI, iQI, kp_cR⟩, (fd_dfl ooQI bQI_1 kQI)⟩
  have ooref : FnG P w K mg base 11 fref _ ["_law_pen_here", "_law_ratio"] (spRef1 K cR) := ok_ref Fref B C (kitA (kit_of_sub (by decide +kernel) rl) (kit_of_sub (by decide +kernel) rt)) ne_cR hm_cR ⟨_, aeq, ieq, (fd_all ooeq beq keq)⟩ ⟨_, astr, istr, (fd_all oostr bstr kstr)⟩ ⟨_, g apick, (fd_all oopick bpick kpick)⟩ ⟨_, g apart, (fd_all oopart bpart kpart)⟩
  exact ok_law (gK := fun vs zs => vs ++ zs.reverse) (fun _ _ _ => rfl) Flaw B C (g a_cR) ne_cR hm_cR r_cR ⟨md_cR, ⟨_, rfl⟩⟩ ⟨_, aadd, iadd, (fd_all ooadd badd kadd)⟩ ⟨_, asub, isub, (fd_all oosub bsub ksub)⟩ ⟨_, amul, imul, (fd_all oomul bmul kmul)⟩ ⟨_, aeq, ieq, (fd_all ooeq beq keq)⟩ ⟨_, aneg, ineg, (fd_all ooneg bneg kneg)⟩ ⟨_, aabs, iabs, (fd_all ooabs babs kabs)⟩ ⟨g a_cR, mc_cR, pof, fof, rsof, r_cR, sof, rof, (fd_all ooof bof kof)⟩ ⟨g a_cR, _, ⟨mk_cR, aQI, iQI, kp_cR⟩, (fd_dfl ooQI bQI_0 kQI)⟩ ⟨g a_cR, _, ⟨mk_cR, aQI, iQI, kp_cR⟩, (fd_dfl ooQI bQI_1 kQI)⟩ ⟨g a_cR, fQI, _, _, _, ⟨mk_cR, aQI, iQI, kp_cR⟩, ooQI, kbQI⟩ ⟨_, g apen, (fd_all oopen bpen kpen)⟩ ⟨_, g adraw, (fd_all oodraw bdraw kdraw)⟩ ⟨_, g apick, (fd_all oopick bpick kpick)⟩ ⟨_, g aint, (fd_all ooint bint kint)⟩ ⟨_, g alow, (fd_all oolow blow klow)⟩ ⟨_, g ais, (fd_all oois bis kis)⟩ ⟨_, g atwo, (fd_all ootwo btwo ktwo)⟩ ⟨_, g alists, (fd_all oolists blists klists)⟩ ⟨_, g aref, (fd_all ooref bref kref)⟩
end K1

/-! # K01end -/
set_option Elab.async false
set_option linter.all false
set_option maxRecDepth 100000
open PySem PySem.W PyProof.Rows
set_option maxHeartbeats 0 in
theorem PySem.Challenge.cw_peekproof_k01_ratios_by_an_own_walk_holds : PySem.Challenge.rw_peekproof_k01_ratios_by_an_own_walk.Holds := by
  w_on; o_law; k_head; (case hw => w_witness2)
  k_fill
  refine Pk.walkG (l := PySem.Challenge.rw_peekproof_k01_ratios_by_an_own_walk) (k := 12) (x := "_law_script") (sp := Pk.spLaw) rfl (by decide) rfl ⟨rfl, by decide, by decide⟩ (fun w h Y => PySem.W.kIn_of Y) ?F (fun K H a ns hl _ _ hS => ⟨a, ns, rfl, hS, Nat.le_trans hl (by decide), fun _ => rfl⟩)
  case F =>
    intro w mg fa h KX G hmg
    refine' K1.all_mk KX G hmg ?a_cPE ?a_cBR ?a_cR ?th ?ns ?z_len ?z_isinstance ?z_int ?z_bool ?z_str ?z_all ?z_tuple ?z_repr ?z_abs ?z_range ?z_list ?z_super ?gG ?xLBR ?xBBR ?xsBR ?xgBR ?xhBR ?xeBR ?xtBR ?xkBR ?xdBR ?xmBR ?xoBR ?xaBR ?xvBR ?xcBR ?xbBR ?xqBR ?xfBR ?n_cBR_part ?aBR ?tBR ?lBR ?coBR ?lcBR ?lvBR ?lzBR ?pe1 ?pe2 ?pe3 ?pe4 ?pg_cR ?hd_cR ?po_cR ?sa_cR ?mk_cR ?kp_cR ?n_cR_top ?n_cR_bottom ?ha_cR ?hm_cR ?oc1 ?oc2 ?rl ?rt ?ty_cR ?rd_cR ?cg_cR ?isc_cR ?tyc_cR ?self_cR ?ne_cR ?radd_cR ?rsub_cR ?rmul_cR ?md_cR ?aisI ?lisI ?cisI ?kisI ?aQI ?iQI ?lQI ?cQI ?kQI ?tQI ?dQI ?vQI ?aisR ?lisR ?cisR ?kisR ?aRF ?lRF ?cRF ?kRF ?sof ?rof ?lof ?cof ?kof ?pasg ?pgsg ?ptsg ?prsg ?lsg ?csg ?ksg ?pawh ?pgwh ?ptwh ?prwh ?lwh ?cwh ?kwh ?aadd ?iadd ?ladd ?cadd ?kadd ?asub ?isub ?lsub ?csub ?ksub ?amul ?imul ?lmul ?cmul ?kmul ?aneg ?ineg ?lneg ?cneg ?kneg ?aabs ?iabs ?labs ?cabs ?kabs ?abo ?ibo ?lbo ?cbo ?kbo ?aeq ?ieq ?leq ?ceq ?keq ?astr ?istr ?lstr ?cstr ?kstr ?arep ?irep ?lrep ?crep ?krep ?aover ?iover ?lover ?cover ?kover ?acmp ?icmp ?lcmp ?ccmp ?kcmp ?abel ?ibel ?lbel ?cbel ?kbel ?aadded ?ladded ?cadded ?kadded ?agr ?lgr ?cgr ?kgr ?ale ?lle ?cle ?kle ?apen ?lpen ?cpen ?kpen ?adraw ?ldraw ?cdraw ?kdraw ?apick ?lpick ?cpick ?kpick ?aint ?lint ?cint ?kint ?alow ?llow ?clow ?klow ?ais ?lis ?cis ?kis ?apart ?lpart ?cpart ?kpart ?atwo ?ltwo ?ctwo ?ktwo ?alists ?llists ?clists ?klists ?aref ?lref ?cref ?kref ?alaw ?llaw ?claw ?klaw
    (case a_cPE => k_is)
    (case a_cBR => k_is)
    (case a_cR => k_is)
    (case th => k_is)
    (case ns => first | rfl | decide +kernel)
    (case z_len => k_is)
    (case z_isinstance => k_is)
    (case z_int => k_is)
    (case z_bool => k_is)
    (case z_str => k_is)
    (case z_all => k_is)
    (case z_tuple => k_is)
    (case z_repr => k_is)
    (case z_abs => k_is)
    (case z_range => k_is)
    (case z_list => k_is)
    (case z_super => k_is)
    (case gG => k_is)
    (case xLBR => k_is)
    (case xBBR => decide +kernel)
    (case xsBR => k_is)
    (case xgBR => k_is)
    (case xhBR => k_is)
    (case xeBR => k_is)
    (case xtBR => k_is)
    (case xkBR => k_is)
    (case xdBR => k_is)
    (case xmBR => k_is)
    (case xoBR => k_is)
    (case xaBR => k_is)
    (case xvBR => k_is)
    (case xcBR => k_is)
    (case xbBR => k_is)
    (case xqBR => first | rfl | decide +kernel)
    (case xfBR => k_is)
    (case n_cBR_part => k_is)
    (case aBR => k_is)
    (case tBR => k_is)
    (case lBR => k_is)
    (case coBR => k_is)
    (case lcBR => k_is)
    (case lvBR => rfl)
    (case lzBR => k_is)
    (case pe1 => k_is)
    (case pe2 => k_is)
    (case pe3 => k_is)
    (case pe4 => k_is)
    (case pg_cR => k_is)
    (case hd_cR => k_is)
    (case po_cR => k_is)
    (case sa_cR => k_is)
    (case mk_cR => k_is)
    (case kp_cR => k_is)
    (case n_cR_top => k_is)
    (case n_cR_bottom => k_is)
    (case ha_cR => k_is)
    (case hm_cR => k_is)
    (case oc1 => k_is)
    (case oc2 => k_is)
    (case rl => k_is)
    (case rt => k_is)
    (case ty_cR => k_is)
    (case rd_cR => k_is)
    (case cg_cR => k_is)
    (case isc_cR => k_is)
    (case tyc_cR => k_is)
    (case self_cR => k_is)
    (case ne_cR => k_is)
    (case radd_cR => k_is)
    (case rsub_cR => k_is)
    (case rmul_cR => k_is)
    (case md_cR => k_is)
    (case aisI => k_is)
    (case lisI => k_is)
    (case cisI => k_is)
    (case kisI => k_is)
    (case aQI => k_is)
    (case iQI => k_is)
    (case lQI => k_is)
    (case cQI => k_is)
    (case kQI => k_is)
    (case tQI => k_is)
    (case dQI => rfl)
    (case vQI => exact .cons ⟨_, rfl⟩ (.nil))
    (case aisR => k_is)
    (case lisR => k_is)
    (case cisR => k_is)
    (case kisR => k_is)
    (case aRF => k_is)
    (case lRF => k_is)
    (case cRF => k_is)
    (case kRF => k_is)
    (case sof => k_is)
    (case rof => k_is)
    (case lof => k_is)
    (case cof => k_is)
    (case kof => k_is)
    (case pasg => k_is)
    (case pgsg => k_is)
    (case ptsg => k_is)
    (case prsg => k_is)
    (case lsg => k_is)
    (case csg => k_is)
    (case ksg => k_is)
    (case pawh => k_is)
    (case pgwh => k_is)
    (case ptwh => k_is)
    (case prwh => k_is)
    (case lwh => k_is)
    (case cwh => k_is)
    (case kwh => k_is)
    (case aadd => k_is)
    (case iadd => k_is)
    (case ladd => k_is)
    (case cadd => k_is)
    (case kadd => k_is)
    (case asub => k_is)
    (case isub => k_is)
    (case lsub => k_is)
    (case csub => k_is)
    (case ksub => k_is)
    (case amul => k_is)
    (case imul => k_is)
    (case lmul => k_is)
    (case cmul => k_is)
    (case kmul => k_is)
    (case aneg => k_is)
    (case ineg => k_is)
    (case lneg => k_is)
    (case cneg => k_is)
    (case kneg => k_is)
    (case aabs => k_is)
    (case iabs => k_is)
    (case labs => k_is)
    (case cabs => k_is)
    (case kabs => k_is)
    (case abo => k_is)
    (case ibo => k_is)
    (case lbo => k_is)
    (case cbo => k_is)
    (case kbo => k_is)
    (case aeq => k_is)
    (case ieq => k_is)
    (case leq => k_is)
    (case ceq => k_is)
    (case keq => k_is)
    (case astr => k_is)
    (case istr => k_is)
    (case lstr => k_is)
    (case cstr => k_is)
    (case kstr => k_is)
    (case arep => k_is)
    (case irep => k_is)
    (case lrep => k_is)
    (case crep => k_is)
    (case krep => k_is)
    (case aover => k_is)
    (case iover => k_is)
    (case lover => k_is)
    (case cover => k_is)
    (case kover => k_is)
    (case acmp => k_is)
    (case icmp => k_is)
    (case lcmp => k_is)
    (case ccmp => k_is)
    (case kcmp => k_is)
    (case abel => k_is)
    (case ibel => k_is)
    (case lbel => k_is)
    (case cbel => k_is)
    (case kbel => k_is)
    (case aadded => k_is)
    (case ladded => k_is)
    (case cadded => k_is)
    (case kadded => k_is)
    (case agr => k_is)
    (case lgr => k_is)
    (case cgr => k_is)
    (case kgr => k_is)
    (case ale => k_is)
    (case lle => k_is)
    (case cle => k_is)
    (case kle => k_is)
    (case apen => k_is)
    (case lpen => k_is)
    (case cpen => k_is)
    (case kpen => k_is)
    (case adraw => k_is)
    (case ldraw => k_is)
    (case cdraw => k_is)
    (case kdraw => k_is)
    (case apick => k_is)
    (case lpick => k_is)
    (case cpick => k_is)
    (case kpick => k_is)
    (case aint => k_is)
    (case lint => k_is)
    (case cint => k_is)
    (case kint => k_is)
    (case alow => k_is)
    (case llow => k_is)
    (case clow => k_is)
    (case klow => k_is)
    (case ais => k_is)
    (case lis => k_is)
    (case cis => k_is)
    (case kis => k_is)
    (case apart => k_is)
    (case lpart => k_is)
    (case cpart => k_is)
    (case kpart => k_is)
    (case atwo => k_is)
    (case ltwo => k_is)
    (case ctwo => k_is)
    (case ktwo => k_is)
    (case alists => k_is)
    (case llists => k_is)
    (case clists => k_is)
    (case klists => k_is)
    (case aref => k_is)
    (case lref => k_is)
    (case cref => k_is)
    (case kref => k_is)
    (case alaw => k_is)
    (case llaw => k_is)
    (case claw => k_is)
    (case klaw => k_is)
