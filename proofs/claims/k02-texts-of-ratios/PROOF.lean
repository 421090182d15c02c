import PyProof.Rows.All
import Wide.All
import OpenK.AllK
import Wide.FinOn
import HandS.ForMost
import HandS.ForExc
import HandS.ExcInit
import KE.KExcSuper
import HandS.ExcValue
import HandS.IsInst
import HandS.ExcField
import HandS.ExcIs
import KE.KExcIs
import HandS.EndBits
import HandS.CallSlots
import HandS.ClsMeth
import HandS.Property
import HandS.MakeKw
import HandS.SlotsOwn
import KE.KCallOwn
import HandS.Codes
import HandS.Gcd
import HandS.FStr
import HandS.Walk
import HandS.Evl
import HandS.Wide
import HandS.Text
import HandS.Defaults
import HandS.Conv
import HandS.Replace
import PySem.Challenge.RW_peekproof_k02_texts_of_ratios_bent
import HandS.Dict
/-! # PkExc1 -/
set_option Elab.async false
set_option linter.all false
set_option maxRecDepth 100000
set_option maxHeartbeats 4000000
namespace Pk
open PySem PySem.W PySem.Calls PyProof.Rows PySem.HandSPX

/-! ## An own exception class over ValueError whose __init__ says super().__init__('..') and stores its arguments -/
/-- what the written part says of such a class C, whose __init__ stands in D -/
structure ExI (K : Frag) (C D : Addr) : Prop where
  oex : L2.OexC K C
  sub : mroIn K C (.ref D) = some true
  sup : ks_superIn K C D "__init__" = some (some (.builtin "ValueError.__init__"))
  ve : subIn K (.ref C) (.type "ValueError") = some true
/-- what the written part says of the __init__ at f: its class cell, its code -/
structure ExF (prog : Program) (K : Frag) (qual : Str) (st : Stmt) (f D : Addr) (fd : FuncData) : Prop where
  ex : ∃ (oc : Value) (od : Option Addr) (kV doc pm : Value) (an : Option Addr) (ct : Value) (osl : Array (Option Value)) (cc cda : Addr) (ccl : Value) (cdd : Option Addr) (vs : Array Value) (ccs : Array (Option Value)) (tf : Tok) (cl : Value) (cld : Option Addr) (csl : Array (Option Value)) (cdD : ClassData),
    fd = ksFn "__init__" qual (L2.defArgs st) (L2.defBody st) (L2.defScope st) .none kV doc pm an (.ref cda) ct cc ∧ K.lookup f = some ⟨oc, od, .func fd, osl⟩ ∧ codeIn K (.ref cda) qual = true ∧
    K.lookup cda = some ⟨ccl, cdd, .fields vs, ccs⟩ ∧ vs[2]? = some (.str prog.main.file tf) ∧ K.lookup cc = some ⟨cl, cld, .cell (some (.ref D)), csl⟩ ∧ clsIn K D = some cdD
  noSuper : (prog.main.scope.names.lookup ("super" : Str)).isSome = false
  third : nsIn K cStatics "thirdparty.any" = some none
section
variable {prog : Program} {w : World} {A : Around} {E : Value → Shared → Prop} {s : Shared} {K : Frag} {mg : Str → Option Value}

/-- the method-wrapper of ValueError.__init__ is called -/
theorem mw_call {u x C t0 : Addr} {rest : List Value} {Q : Value → Shared → Prop} {nm q : Str} {N : Addr} {bs bm : List Value} {sn : List Str} {sub : List Value} {ab : Bool} {col : Option Bool} {dd : Option Addr} {k0 k1 k2 k3 k5 : Option Value}
    (hC : s.heap.get? C = some (excClassObj nm q C N bs bm true sn sub ab col dd k0 k1 k2 k3 k5 "ValueError.__new__"))
    (hu : s.heap.get? u = some (kxs_mw "ValueError.__init__" x)) (hx : s.heap.get? x = some (excO C t0)) (hz : rest.length ≤ sizeLine)
    (hq : ∀ h' t1, (∀ b o, b ≠ x → s.heap.get? b = some o → h'.get? b = some o) → h'.get? x = some (excO C t1) → Q .none { s with heap := h' }) :
    wpAny (model prog w) A (call (.ref u) rest) Q E s := by
  obtain ⟨hh, g, d, tk, os⟩ := s
  have FB := F.excBase_ValueError
  refine wpAny_call (codeAny_of_tree ?_)
  show wpAny _ A.in1 (callAny (.ref u) ⟨rest, []⟩) _ _ _
  simp only [callAny]
  refine wpAny_bind (wpAny_load hu ?_)
  simp only [kxs_mw, show (Value.type "method-wrapper" == Value.type "method" || Value.type "method-wrapper" == Value.type "builtin_function_or_method" || Value.type "method-wrapper" == Value.type "method-wrapper") = true by decide, if_true]
  refine KFB.if_so (by decide) ?_
  refine wpAny_bind (check_bound_init FB.toExcCallFacts hC hx rfl ?_)
  refine wpAny_bind (wpAny_pure (wpAny_pure ?_))
  refine ⟨plainId_quiet FB.init.plain _, codeAny_builtin FB.initEntry ?_⟩
  exact exc_init_tree (cls := .ref C) (t0 := t0) (dv := none) (c2 := .none) (c3 := .none) (b4 := .bool false) hx hz fun h' k e _ => hq h' hh.objs.size k e

/-- super().__init__('..') as a statement -/
theorem super_stmt {body : List Stmt} {qual : Str} {scope : Scope} {L f cc cda C D x t0 : Addr} {p0 p1 p2 p3 p4 p5 : Pos} {z : Str} {kz : Nat} {m mb : Str → Option Value} {fd : FuncData} {ar : Arg} {vs : Array Value} {tf : Tok} {oc ccl cl : Value} {od cdd cld : Option Addr} {osl ccs csl : Array (Option Value)} {cdD : ClassData} {Q : Flow → Shared → Prop} {pl : Sem Bool}
    (T : ExI K C D) (X : K.In s.heap) (hg : s.heap.Ns mainGlobals mg) (hb : s.heap.Ns builtinsNs mb) (hmb : mb "super" = some (.type "super")) (hmg : mg "super" = none) (hn : s.heap.Ns L m) (hself : m ar.arg = some (.ref x)) (hx : s.heap.get? x = some (excO C t0))
    (hf : K.lookup f = some ⟨oc, od, .func fd, osl⟩) (hp : (fd.params.posonlyargs ++ fd.params.args).head? = some ar)
    (hcode : K.lookup cda = some ⟨ccl, cdd, .fields vs, ccs⟩) (hvs : vs[2]? = some (.str prog.main.file tf)) (hcell : K.lookup cc = some ⟨cl, cld, .cell (some (.ref D)), csl⟩) (hD : clsIn K D = some cdD)
    (hks : scope.names.lookup ("super" : Str) = some .globalImplicit) (hkc : scope.names.lookup ("__class__" : Str) = some .free) (hka : scope.names.lookup ar.arg = some .local) (hk : scope.kind = .function)
    (htop : (prog.main.scope.names.lookup ("super" : Str)).isSome = false) (ho : nsIn K cStatics "thirdparty.any" = some none)
    (he : eval (.Call (.Attribute (.Call (.Name "super" p0) [] [] p1) "__init__" p2) [.Constant (.str z) kz p3] [] p4) (ksEnv qual scope L f (.ref cda) cc) = (do
      let ov ← attributeBase (.Call (.Name "super" p0) [] [] p1) "__init__" (ksEnv qual scope L f (.ref cda) cc) (eval (.Call (.Name "super" p0) [] [] p1) (ksEnv qual scope L f (.ref cda) cc))
      standAt p2.atName
      let (fu, first) ← holding [ov] (getMethod ov "__init__" pl)
      callWith p4 fu first (backTo p4 (starEach [.Constant (.str z) kz p3] (ksEnv qual scope L f (.ref cda) cc))) []))
    (hq : ∀ h' tk t1, (∀ b o, b ≠ x → s.heap.get? b = some o → h'.get? b = some o) → h'.get? x = some (excO C t1) → Q .next { s with heap := h', toks := tk }) :
    _root_.PySem.wpAt (model prog w) A (.func body (ksEnv qual scope L f (.ref cda) cc)) (exec (.Expr (.Call (.Attribute (.Call (.Name "super" p0) [] [] p1) "__init__" p2) [.Constant (.str z) kz p3] [] p4) p5) (ksEnv qual scope L f (.ref cda) cc)) Q E s := by
  obtain ⟨nm, q, N, bs, bm, sn, sub, ab, col, dd, k0, k1, k2, k3, k5, hC, hbm⟩ := T.oex.cls
  obtain ⟨hh, g, d, t, os⟩ := s
  obtain ⟨oD, hD1, hD2⟩ : ∃ oD, hh.get? D = some oD ∧ oD.data = .cls cdD := by
    unfold clsIn at hD
    split at hD
    · rename_i c d cd' sl ho'
      cases hD
      exact ⟨_, X _ _ ho', rfl⟩
    · cases hD
  have hcl : clsIn K C = some { name := nm, bases := bs, mro := .ref C :: bm, ns := N, qualname := q, hasDict := true, slotNames := sn, subclasses := sub, abstract := ab, collection := col, hasDel := false } := by unfold clsIn; rw [hC] <;> rfl
  have hint : interactive (ksEnv qual scope L f (.ref cda) cc) = false := by
    show (scope.kind == .module && _) = false
    rw [hk]; rfl
  have I : InstAt hh x (excO C t0) C none := ⟨hx, rfl, rfl, trivial⟩
  have hxC : x ≠ C := ks_ne X I hcl
  refine ks_wpAt_Expr_any ?_ hint rfl
  refine ks_wpAt_MethodCall ?_ he
  refine ks_wpAt_super_base (env := ksEnv qual scope L f (.ref cda) cc) hks hkc (by decide) rfl (X _ _ hf) rfl hp rfl (X _ _ hcode) rfl hvs (by simp) htop ?_
  refine ks_loadName_global hk hks (loadGlobal_builtin (env := ksEnv qual scope L f (.ref cda) cc) hg hmg hb hmb ⟨rfl, ?_⟩)
  refine wpAny_loadName_free hk hkc rfl ⟨_, X _ _ hcell, rfl⟩ ?_
  refine wpAny_loadName_local hk hka hn hself ?_
  refine ks_wpAny_isType_cls hD1 hD2 ⟨rfl, ?_⟩
  refine ks_wpAny_call_super hD1 hD2 hx rfl (fun c e => nomatch e) (looks_mroIn X T.sub) (fun h1 e1 kk1 => ?_)
  have X1 : K.In h1 := X.keeps kk1
  have hI : Looks (model prog w) h1 (isInstance (.ref x) (.type "ValueError")) true := (show InstAt h1 x (excO C t0) C none from ⟨kk1 _ _ hx, rfl, rfl, trivial⟩).type.andThen (looks_subIn X1 T.ve)
  have hsup := T.sup
  unfold ks_superIn at hsup
  rw [hcl] at hsup
  refine kxs_getMethod kxs_ValueError e1 (looks_opaque X1 ho) (l₀ := .ref C :: bm) ?_ rfl X1 hsup hI hxC (by decide) ?_
  · exact fun A Q E s k q => wpAny_bind ((looks_clsIn X1 hcl) A _ E s k (wpAny_pure q))
  have k2 : ∀ b o, hh.get? b = some o → (h1.push (kxs_mw "ValueError.__init__" x)).get? b = some o := fun b o e => Heap.get?_push_of_some _ (kk1 b o e)
  have hu : (h1.push (kxs_mw "ValueError.__init__" x)).get? h1.objs.size = some (kxs_mw "ValueError.__init__" x) := Heap.get?_push_at rfl rfl
  refine kxs_callWith (i := "ValueError.__init__") (x := x) rfl (evalArgs_plain ?_)
  show wpAny _ _ (spliced ((false, eval (.Constant (.str z) kz p3) (ksEnv qual scope L f (.ref cda) cc)) :: backTo p4 (starEach [] (ksEnv qual scope L f (.ref cda) cc)))) _ _ _
  refine Calls.spliced_cons (Calls.Constant_str ?_)
  refine Calls.spliced_nil ⟨hu, ?_⟩
  refine mw_call (s := ⟨h1.push (kxs_mw "ValueError.__init__" x), g, d, _, os⟩) (k2 _ _ (X _ _ hC)) hu (k2 _ _ hx) (by rw [sizeLine_eq]; exact (by decide : 1 ≤ 16777216)) fun h' t1 k e => ?_
  exact hq h' _ t1 (fun b o hb e => k b o hb (k2 b o e)) e

theorem ldX {M : Model} {qual : Str} {scope : Scope} {L f cc : Addr} {cd : Value} {m : Str → Option Value} {x : Str} {pos : Pos} {v : Value} {Q : Value → Shared → Prop} (hn : s.heap.Ns L m) (hv : m x = some v) (h : Q v s)
    (hk : scope.kind = .function) (hl : scope.names.lookup x = some .local) (hd : (x == ("__debug__" : Str)) = false) :
    wpAny M A (eval (.Name x pos) (ksEnv qual scope L f cd cc)) Q E s := wpAny_Name (wpAny_loadName_local hk hl hn hv h) hd
/-- self.f = f, the first field -/
theorem asg_new {qual : Str} {scope : Scope} {L fu cc C x t0 : Addr} {cd v : Value} {m : Str → Option Value} {f : Str} {q1 q2 q3 q4 : Pos} {Q : Flow → Shared → Prop} (T : L2.OexC K C) (X : K.In s.heap) (hno : findIn K (.ref C) f = some none)
    (hn : s.heap.Ns L m) (hself : m "self" = some (.ref x)) (hv : m f = some v) (hk : scope.kind = .function) (hls : scope.names.lookup ("self" : Str) = some .local) (hlf : scope.names.lookup f = some .local) (hd : (f == ("__debug__" : Str)) = false)
    (hx : s.heap.get? x = some (excO C t0))
    (hq : ∀ h' tk dx, (∀ b o, b ≠ x → s.heap.get? b = some o → h'.get? b = some o) → s.heap.objs.size ≤ dx → dx ≠ x → h'.get? x = some ({ cls := .ref C, dict := some dx, data := .fields #[.ref t0, .none, .none, .none, .bool false, .none] } : Obj) →
      h'.Ns1 dx (fun y => if y = f then some v else none) → Q .next { s with heap := h', toks := tk }) :
    wpAny (model prog w) A (exec (.Assign [.Attribute (.Name "self" q1) f q2] (.Name f q3) q4) (ksEnv qual scope L fu cd cc)) Q E s := by
  obtain ⟨nm, q, N, bs, bm, sn, sub, ab, col, dd, k0, k1, k2, k3, k5, hC, hbm⟩ := T.cls
  have hcl : clsIn K C = some { name := nm, bases := bs, mro := .ref C :: bm, ns := N, qualname := q, hasDict := true, slotNames := sn, subclasses := sub, abstract := ab, collection := col, hasDel := false } := by unfold clsIn; rw [hC] <;> rfl
  obtain ⟨hh, g, d, t, os⟩ := s
  refine plainObj_wpAny_Assign_Attribute ?_ rfl
  refine ldX hn hv (ldX hn hself ?_ hk hls (by decide)) hk hlf hd
  refine set_plain X (ox := excO C t0) (od := none) ⟨hx, rfl, rfl, trivial⟩ T.sa ?_
  exact exc_osa X hx hcl (show refsVE (.ref C :: bm) = true from hbm) rfl hno (fun h' tk' dx k dn dne hx' hn' => hq h' tk' dx k dn dne hx' hn')
/-- self.f = f, a further field -/
theorem asg_old {qual : Str} {scope : Scope} {L fu cc C x t0 dx : Addr} {cd v : Value} {m m0 : Str → Option Value} {f : Str} {nl : List Str} {q1 q2 q3 q4 : Pos} {Q : Flow → Shared → Prop} (T : L2.OexC K C) (X : K.In s.heap) (hno : findIn K (.ref C) f = some none)
    (hn : s.heap.Ns L m) (hself : m "self" = some (.ref x)) (hv : m f = some v) (hk : scope.kind = .function) (hls : scope.names.lookup ("self" : Str) = some .local) (hlf : scope.names.lookup f = some .local) (hd : (f == ("__debug__" : Str)) = false)
    (hx : s.heap.get? x = some ({ cls := .ref C, dict := some dx, data := .fields #[.ref t0, .none, .none, .none, .bool false, .none] } : Obj)) (hns : s.heap.Ns1 dx m0) (hw : Within m0 nl) (hz : nl.length ≤ 1000)
    (hq : ∀ h' tk, (∀ b o, b ≠ dx → s.heap.get? b = some o → h'.get? b = some o) → h'.Ns1 dx (fun y => if y = f then some v else m0 y) → Q .next { s with heap := h', toks := tk }) :
    wpAny (model prog w) A (exec (.Assign [.Attribute (.Name "self" q1) f q2] (.Name f q3) q4) (ksEnv qual scope L fu cd cc)) Q E s := by
  obtain ⟨nm, q, N, bs, bm, sn, sub, ab, col, dd, k0, k1, k2, k3, k5, hC, hbm⟩ := T.cls
  have hcl : clsIn K C = some { name := nm, bases := bs, mro := .ref C :: bm, ns := N, qualname := q, hasDict := true, slotNames := sn, subclasses := sub, abstract := ab, collection := col, hasDel := false } := by unfold clsIn; rw [hC] <;> rfl
  obtain ⟨oD, _, _, hoD, _, _⟩ := hns.count hw
  obtain ⟨hh, g, d, t, os⟩ := s
  refine plainObj_wpAny_Assign_Attribute ?_ rfl
  refine ldX hn hv (ldX hn hself ?_ hk hls (by decide)) hk hlf hd
  refine set_plain X (ox := { cls := .ref C, dict := some dx, data := .fields #[.ref t0, .none, .none, .none, .bool false, .none] }) (od := some oD) ⟨hx, rfl, rfl, hoD⟩ T.sa ?_
  exact OEX.osa_old X hx hns hw hz hcl (show refsVE (.ref C :: bm) = true from hbm) rfl hno (fun h' tk' k hn' => hq h' tk' k hn')
end
end Pk

/-! # PkExc2 -/
set_option Elab.async false
set_option linter.all false
set_option maxRecDepth 100000
set_option maxHeartbeats 4000000
namespace Pk
open PySem PySem.W PySem.Calls PyProof.Rows PySem.HandSPX L2

section
variable {P : Program} {w : World} {H : Hp} {h h' : Heap} {a C dx : Addr} {F : List (Str × V)}
theorem un_exc {fs ex : List Addr} (ea : H a = some (exo a C none)) (hnd : H dx = none) (hs : h.objs.size ≤ dx) (k : ∀ b o, b ≠ a → h.get? b = some o → h'.get? b = some o) (hx : ∃ o, h'.get? a = some o) :
    Un fs ex H (upd (upd H dx (exd dx F)) a (exo a C (some dx))) h h' := by
  have nd : ∀ {b : Addr} {o : Obj}, h.get? b = some o → b ≠ dx := fun {b o} q => Nat.ne_of_lt (Nat.lt_of_lt_of_le (Heap.lt_size q) hs)
  have na : ∀ {b : Addr}, H b = none → b ≠ a := fun {b} n z => by rw [z, ea] at n; cases n
  exact {
    keep := fun b o q n _ _ => k b o (na n) q
    slot := fun b o q n _ _ => ⟨o.slots, k b o (na n) q⟩
    free := fun b o q n _ => by rw [upd_ne (na n), upd_ne (nd q)]; exact n
    there := fun b o q _ => by
      by_cases hb : b = a
      · rw [hb]; exact hx
      · exact ⟨o, k b o hb q⟩
    tups := fun b xs q => by rw [upd_ne (at_ne ea q exo_tup), upd_ne (ne_of_none q hnd)]; exact q
    frzs := fun b o v q => by rw [upd_ne (at_ne ea q exo_frz), upd_ne (ne_of_none q hnd)]; exact q
    tbls := fun b ps q => ⟨#[], by rw [upd_ne (at_ne ea q exo_tbl), upd_ne (ne_of_none q hnd), q]; simp⟩ }
theorem hok_exc {t1 : Addr} {mA : Str → Option Value} (hok : HOk P w H h) (ea : H a = some (exo a C none)) (hnd : H dx = none) (k : ∀ b o, b ≠ a → h.get? b = some o → h'.get? b = some o)
    (hx : h'.get? a = some ({ cls := .ref C, dict := some dx, data := .fields #[.ref t1, .none, .none, .none, .bool false, .none] } : Obj)) (hn : h'.Ns1 dx mA) (rel : ∀ f, RelO (F.lookup f) (mA f)) :
    HOk P w (upd (upd H dx (exd dx F)) a (exo a C (some dx))) h' := fun b o q => by
  by_cases hb : b = a
  · subst hb
    rw [upd_same] at q
    cases q
    exact exo_ok hx
  · rw [upd_ne hb] at q
    by_cases hd : b = dx
    · subst hd
      rw [upd_same] at q
      cases q
      exact exd_ok hn rel
    · rw [upd_ne hd] at q
      refine (hok b o q).stay (fun c v hc z => k c v ?_ z) (fun c hc => ?_) (fun c xs hc => ?_)
      · rcases hc with hc | hc
        · rw [hc]; exact hb
        · exact at_ne ea hc exo_own
      · rw [upd_ne (at_ne ea hc exo_own), upd_ne (ne_of_none hc hnd)]; exact hc
      · rw [upd_ne (at_ne ea hc exo_tup), upd_ne (ne_of_none hc hnd)]; exact hc
end

section
variable {P : Program} {w : World} {H : Hp} {h h' : Heap} {a C : Addr}
theorem un_exc0 {fs ex : List Addr} (ea : H a = some (exo a C none)) (k : ∀ b o, b ≠ a → h.get? b = some o → h'.get? b = some o) (hx : ∃ o, h'.get? a = some o) : Un fs ex H H h h' := by
  have na : ∀ {b : Addr}, H b = none → b ≠ a := fun {b} n z => by rw [z, ea] at n; cases n
  exact {
    keep := fun b o q n _ _ => k b o (na n) q
    slot := fun b o q n _ _ => ⟨o.slots, k b o (na n) q⟩
    free := fun b o q n _ => n
    there := fun b o q _ => by
      by_cases hb : b = a
      · rw [hb]; exact hx
      · exact ⟨o, k b o hb q⟩
    tups := fun b xs q => q
    frzs := fun b o v q => q
    tbls := fun b ps q => ⟨#[], by rw [q]; simp⟩ }
theorem hok_exc0 {t1 : Addr} (hok : HOk P w H h) (ea : H a = some (exo a C none)) (k : ∀ b o, b ≠ a → h.get? b = some o → h'.get? b = some o)
    (hx : h'.get? a = some ({ cls := .ref C, dict := none, data := .fields #[.ref t1, .none, .none, .none, .bool false, .none] } : Obj)) : HOk P w H h' := fun b o q => by
  by_cases hb : b = a
  · subst hb
    rw [ea] at q
    cases q
    exact exo_ok hx
  · refine (hok b o q).stay (fun c v hc z => k c v ?_ z) (fun c hc => hc) (fun c xs hc => hc)
    rcases hc with hc | hc
    · rw [hc]; exact hb
    · exact at_ne ea hc exo_own
end
/-- C(..): what __init__ promises of an object of a class C that has it from D; F: what it stores -/
def spXI (K : Frag) (D : Addr) (fs : List Str) : Sp := fun vs H Q _ => ∃ (a C : Addr) (ws : List V), vs = .ref a :: ws ∧ ws.length = fs.length ∧ ExI K C D ∧ (∀ f ∈ fs, findIn K (.ref C) f = some none) ∧ H a = some (exo a C none) ∧
  (fs = [] → Q .non H) ∧ (fs ≠ [] → ∀ dx, H dx = none → dx ≠ a → Q .non (upd (upd H dx (exd dx (fs.zip ws).reverse)) a (exo a C (some dx))))

abbrev eSup (z : Str) (kz : Nat) (p0 p1 p2 p3 p4 : Pos) : Expr := .Call (.Attribute (.Call (.Name "super" p0) [] [] p1) "__init__" p2) [.Constant (.str z) kz p3] [] p4
/-- self.f = f for each of these -/
inductive AsgB : List Stmt → List Str → Prop
  | nil : AsgB [] []
  | cons {st : List Stmt} {fs : List Str} {f : Str} {q1 q2 q3 q4 : Pos} : AsgB st fs → AsgB (.Assign [.Attribute (.Name "self" q1) f q2] (.Name f q3) q4 :: st) (f :: fs)
section
variable {P : Program} {w : World} {K : Frag} {A : Around} {E : Value → Shared → Prop} {qual : Str} {scope : Scope} {L fu cc C x dx t0 : Addr} {cd : Value} {m : Str → Option Value}
structure FldL (K : Frag) (C : Addr) (scope : Scope) (m : Str → Option Value) (f : Str) (y : V) : Prop where
  val : ∃ u, m f = some u ∧ RelV y u
  loc : scope.names.lookup f = some .local
  nd : (f == ("__debug__" : Str)) = false
  no : findIn K (.ref C) f = some none
theorem asgs_old (T : OexC K C) (hk : scope.kind = .function) (hls : scope.names.lookup ("self" : Str) = some .local) (hself : m "self" = some (.ref x)) (hL : L ≠ dx) (hxd : x ≠ dx) (hKd : K.lookup dx = none) {st : List Stmt} {fs : List Str} (b : AsgB st fs) :
    ∀ {ws : List V} {F : List (Str × V)} {mA : Str → Option Value} {s : Shared} {Q : Flow → Shared → Prop}, Paired (FldL K C scope m) fs ws → F.length + fs.length ≤ 900 → K.In s.heap → s.heap.Ns L m →
      s.heap.get? x = some ({ cls := .ref C, dict := some dx, data := .fields #[.ref t0, .none, .none, .none, .bool false, .none] } : Obj) → s.heap.Ns1 dx mA → (∀ f, RelO (F.lookup f) (mA f)) →
      (∀ h' tk mA', (∀ b o, b ≠ dx → s.heap.get? b = some o → h'.get? b = some o) → h'.Ns1 dx mA' → (∀ f, RelO (((fs.zip ws).reverse ++ F).lookup f) (mA' f)) → Q .next { s with heap := h', toks := tk }) →
      wpAny (model P w) A (execs st (ksEnv qual scope L fu cd cc)) Q E s := by
  induction b with
  | nil =>
    intro ws F mA s Q hp _ X hn hx hns rel hq
    cases hp
    exact wpAny_execs_nil (hq s.heap s.toks mA (fun _ _ _ e => e) hns rel)
  | @cons st fs f q1 q2 q3 q4 b ih =>
    intro ws F mA s Q hp hz X hn hx hns rel hq
    cases hp with
    | @cons _ y _ ws p ps =>
      obtain ⟨u, hu, ru⟩ := p.val
      refine wpAny_execs_cons (asg_old T X p.no hn hself hu hk hls p.loc p.nd hx hns (within_of rel) (by rw [List.length_map]; omega) fun h1 tk1 k1 n1 => ?_)
      obtain ⟨oL, es, ep, hoL, r⟩ := hn
      refine ih (s := { s with heap := h1, toks := tk1 }) (F := (f, y) :: F) ps (by simp only [List.length_cons] at hz ⊢; omega) (fun c o e => k1 c o (fun z => by rw [z, hKd] at e; cases e) (X c o e)) ⟨oL, es, ep, k1 _ _ hL hoL, r⟩ (k1 _ _ hxd hx) n1 (relO_put ru rel) fun h2 tk2 mA2 k2 n2 rel2 => ?_
      refine hq h2 tk2 mA2 (fun c o hc e => k2 c o hc (k1 c o hc e)) n2 fun g => ?_
      have e : ((f :: fs).zip (y :: ws)).reverse ++ F = (fs.zip ws).reverse ++ (f, y) :: F := by simp
      rw [e]
      exact rel2 g
/-- .. from the exception as it is made -/
theorem asgs_new (T : OexC K C) (hk : scope.kind = .function) (hls : scope.names.lookup ("self" : Str) = some .local) (hself : m "self" = some (.ref x)) {st : List Stmt} {fs : List Str} (b : AsgB st fs) {ws : List V} {s : Shared} {Q : Flow → Shared → Prop}
    (hp : Paired (FldL K C scope m) fs ws) (hz : fs.length ≤ 800) (X : K.In s.heap) (hKx : K.lookup x = none) (hn : s.heap.Ns L m) (hLx : L ≠ x) (hx : s.heap.get? x = some (excO C t0))
    (h0 : fs = [] → Q .next s)
    (hq : fs ≠ [] → ∀ h' tk dx mA', (∀ b o, b ≠ x → s.heap.get? b = some o → h'.get? b = some o) → s.heap.objs.size ≤ dx → dx ≠ x → h'.get? x = some ({ cls := .ref C, dict := some dx, data := .fields #[.ref t0, .none, .none, .none, .bool false, .none] } : Obj) → h'.Ns1 dx mA' →
      (∀ f, RelO ((fs.zip ws).reverse.lookup f) (mA' f)) → Q .next { s with heap := h', toks := tk }) :
    wpAny (model P w) A (execs st (ksEnv qual scope L fu cd cc)) Q E s := by
  cases b with
  | nil => exact wpAny_execs_nil (h0 rfl)
  | @cons st fs f q1 q2 q3 q4 b =>
    cases hp with
    | @cons _ y _ ws p ps =>
      obtain ⟨u, hu, ru⟩ := p.val
      refine wpAny_execs_cons (asg_new T X p.no hn hself hu hk hls p.loc p.nd hx fun h1 tk1 dx k1 dn dne hx1 n1 => ?_)
      have nd : ∀ {c : Addr} {o : Obj}, s.heap.get? c = some o → c ≠ dx := fun {c o} e => Nat.ne_of_lt (Nat.lt_of_lt_of_le (Heap.lt_size e) dn)
      obtain ⟨oL, es, ep, hoL, r⟩ := hn
      have hKd : K.lookup dx = none := by
        cases e : K.lookup dx with
        | none => rfl
        | some o => exact absurd rfl (nd (X _ _ e))
      refine asgs_old T hk hls hself (dx := dx) (nd hoL) dne.symm hKd b (s := { s with heap := h1, toks := tk1 }) (F := [(f, y)]) ps (by simp only [List.length_cons, List.length_nil] at hz ⊢; omega) (fun c o e => k1 c o (fun z => by rw [z, hKx] at e; cases e) (X c o e)) ⟨oL, es, ep, k1 _ _ hLx hoL, r⟩ hx1 n1 (relO_put (fs := []) ru fun g => True.intro) fun h2 tk2 mA2 k2 n2 rel2 => ?_
      refine hq (fun z => nomatch z) h2 tk2 dx mA2 (fun c o hc e => k2 c o (nd e) (k1 c o hc e)) dn dne (k2 _ _ dne.symm hx1) n2 fun g => ?_
      have e : ((f :: fs).zip (y :: ws)).reverse = (fs.zip ws).reverse ++ [(f, y)] := by simp
      rw [e]
      exact rel2 g
end

theorem paired_at {α β : Type} {Fq : α → β → Prop} : ∀ {fs : List α} {ws : List β}, fs.length = ws.length → (∀ (i : Nat) f y, fs[i]? = some f → ws[i]? = some y → Fq f y) → Paired Fq fs ws
  | [], [], _, _ => .nil
  | [], _ :: _, h, _ => by simp at h
  | _ :: _, [], h, _ => by simp at h
  | f :: fs, y :: ws, h, k => .cons (k 0 f y rfl rfl) (paired_at (by simpa using h) fun i f' y' e1 e2 => k (i + 1) f' y' (by simpa using e1) (by simpa using e2))
theorem look_none {ps : List Str} {x : Str} : ∀ {us : List Value}, x ∉ ps → (ps.zip us).reverse.lookup x = none := by
  induction ps with
  | nil => intro us _; rfl
  | cons p ps ih =>
    intro us h
    cases us with
    | nil => rfl
    | cons u us =>
      have h1 : x ≠ p := fun e => h (e ▸ List.mem_cons_self)
      have h2 : x ∉ ps := fun e => h (List.mem_cons_of_mem _ e)
      have e1 : (x == p) = false := by simpa using h1
      simp only [List.zip_cons_cons, List.reverse_cons, List.lookup_append, ih h2, Option.none_or]
      simp [List.lookup, e1]
theorem look_at {ps : List Str} {x : Str} {u : Value} : ∀ {us : List Value} {i : Nat}, ps.Nodup → ps[i]? = some x → us[i]? = some u → (ps.zip us).reverse.lookup x = some u := by
  induction ps with
  | nil => intro us i _ h; simp at h
  | cons p ps ih =>
    intro us i nd h1 h2
    cases us with
    | nil => simp at h2
    | cons v us =>
      have nd' := List.nodup_cons.mp nd
      cases i with
      | zero =>
        simp at h1 h2
        subst h1; subst h2
        simp only [List.zip_cons_cons, List.reverse_cons, List.lookup_append, look_none nd'.1, Option.none_or]
        simp [List.lookup]
      | succ i =>
        have := ih (us := us) (i := i) nd'.2 (by simpa using h1) (by simpa using h2)
        simp only [List.zip_cons_cons, List.reverse_cons, List.lookup_append, this, Option.some_or]

section
variable {P : Program} {w : World} {K : Frag} {mg : Str → Option Value} {base : Heap} {CX : CXT} {qual : Str} {st : Stmt} {f D : Addr} {fd : FuncData} {z : Str} {kz : Nat} {p0 p1 p2 p3 p4 p5 : Pos}
/-- how such a def's names stand -/
structure XScope (st : Stmt) (fs : List Str) : Prop where
  hp : ∃ ar, ((defArgs st).posonlyargs ++ (defArgs st).args).head? = some ar ∧ ar.arg = "self"
  hks : (defScope st).names.lookup ("super" : Str) = some .globalImplicit
  hkc : (defScope st).names.lookup ("__class__" : Str) = some .free
  nd : (("self" : Str) :: fs).Nodup
  hl : ∀ x ∈ ("self" : Str) :: fs, (defScope st).names.lookup x = some .local ∧ (x == ("__debug__" : Str)) = false
  hk : (defScope st).kind = .function
  hcell : ∀ x ∈ (defScope st).names, x.2 ≠ .cell
  hco : (defScope st).isCoroutine = false
  hgen : (defScope st).isGenerator = false
  hz : fs.length ≤ 800

theorem ok_init {fs : List Str} {rest : List Stmt} {pl : Sem Bool} (Fn : ExF P K qual st f D fd) (hmg : mg "super" = none) (S : XScope st fs) (hb : defBody st = .Expr (eSup z kz p0 p1 p2 p3 p4) p5 :: rest) (hr : AsgB rest fs)
    (he : ∀ (L cda cc : Addr), eval (eSup z kz p0 p1 p2 p3 p4) (ksEnv qual (defScope st) L f (.ref cda) cc) = (do
      let ov ← attributeBase (.Call (.Name "super" p0) [] [] p1) "__init__" (ksEnv qual (defScope st) L f (.ref cda) cc) (eval (.Call (.Name "super" p0) [] [] p1) (ksEnv qual (defScope st) L f (.ref cda) cc))
      standAt p2.atName
      let (fu, first) ← holding [ov] (getMethod ov "__init__" pl)
      callWith p4 fu first (backTo p4 (starEach [.Constant (.str z) kz p3] (ksEnv qual (defScope st) L f (.ref cda) cc))) [])) :
    FnOk P w K mg base CX 1 f fd (("self" : Str) :: fs) (spXI K D fs) := by
  obtain ⟨oc, od, kV, doc, pm, an, ct, osl, cc, cda, ccl, cdd, vs, ccs, tf, cl, cld, csl, cdD, rfl, lk, hcd, hcode, hvs, hcl, hD⟩ := Fn.ex
  refine ⟨fun vs H Q E ⟨a, C, ws, e, hl, _⟩ => by rw [e]; simpa using hl, fun A outer s H args us vs' Q E hroom e0 hbind r hsp => ?_⟩
  obtain ⟨a, C, ws, rfl, hlen, T, hno, ea, hq0, hq⟩ := hsp
  have KX : K.In s.heap := e0.mod.kin.keeps fun b o e => (e0.bs b o e).1
  have lim : s.heap.NoLimit := e0.mod.nolimit.keeps fun b o e => (e0.bs b o e).1
  obtain ⟨mb, hmb, hbb⟩ := e0.mod.blt
  have hgl : s.heap.Ns mainGlobals mg := e0.mod.glob.keeps fun b o e => (e0.bs b o e).1
  have hbl : s.heap.Ns builtinsNs mb := hmb.keeps fun b o e => (e0.bs b o e).1
  cases r with
  | @cons _ ua _ ur ra rw' =>
    obtain rfl : ua = Value.ref a := ra
    obtain ⟨t0, hx⟩ := exo_at e0.hok ea
    have hKa : K.lookup a = none := by
      cases e : K.lookup a with
      | none => rfl
      | some o =>
        have z := (e0.bs a o (e0.mod.kin _ _ e)).2
        rw [ea] at z
        cases z
    have hxL : s.heap.objs.size ≠ a := Nat.ne_of_gt (Heap.lt_size hx)
    obtain ⟨ar, hp, har⟩ := S.hp
    refine ks_codeAny_call_defAt (fd := ksFn "__init__" qual (defArgs st) (defBody st) (defScope st) .none kV doc pm an (.ref cda) ct cc) hroom.depth (KX _ _ lk) rfl lim (codeRec_of KX hcd) rfl hbind S.hcell (fun x hxm => (S.hl x.1 (List.of_mem_zip hxm).1).1) (fun h0 hns k0 => ?_) S.hco S.hgen S.hk
    have X0 : K.In h0 := KX.keeps k0
    have mself := look_at (us := Value.ref a :: ur) (i := 0) S.nd rfl rfl
    show _root_.PySem.wpAt _ _ _ (execs (defBody st) _) _ _ _
    rw [hb]
    refine ks_wpAt_execs_cons ?_
    refine super_stmt (mg := mg) (mb := mb) (ar := ar) (L := s.heap.objs.size) (x := a) (t0 := t0) T X0 (hgl.keeps k0) (hbl.keeps k0) ((hbb _ (by decide)).trans PyProof.Rows.Boot.«super») hmg hns (by rw [har]; exact mself) (k0 _ _ hx) lk hp hcode hvs hcl hD S.hks S.hkc (by rw [har]; exact (S.hl _ List.mem_cons_self).1) S.hk Fn.noSuper Fn.third (he _ _ _) fun h1 tk1 t1 k1 e1 => ?_
    show _root_.PySem.wpAt _ _ _ (execs _ _) _ _ _
    have X1 : K.In h1 := fun c o e => k1 c o (fun z => by rw [z, hKa] at e; cases e) (X0 c o e)
    obtain ⟨oL, es, ep, hoL, rL⟩ := hns
    have kk : ∀ b o, b ≠ a → s.heap.get? b = some o → h1.get? b = some o := fun b o hb e => k1 b o hb (k0 b o e)
    refine wpAt_of_wpAny ?_
    have hpair : Paired (FldL K C (defScope st) (fun x => ((("self" : Str) :: fs).zip (Value.ref a :: ur)).reverse.lookup x)) fs ws := by
      refine paired_at hlen.symm fun i g y e1 e2 => ?_
      obtain ⟨u, hu, ru⟩ := L2.Vals.get rw' e2
      have hm : g ∈ fs := List.mem_of_getElem? e1
      have hl := S.hl g (List.mem_cons_of_mem _ hm)
      exact ⟨⟨u, look_at (i := i + 1) S.nd (by simpa using e1) (by simpa using hu), ru⟩, hl.1, hl.2, hno g hm⟩
    refine asgs_new (m := fun x => ((("self" : Str) :: fs).zip (Value.ref a :: ur)).reverse.lookup x) T.oex S.hk (S.hl _ List.mem_cons_self).1 mself hr (s := { s with heap := h1, toks := tk1 }) hpair S.hz X1 hKa ⟨oL, es, ep, k1 _ _ hxL hoL, rL⟩ hxL e1 (fun e => ?_) (fun hne h2 tk2 dx mA k2 dn dne hx2 hn2 rel2 => ?_)
    · show CE outer P w H s Q .none { s with heap := h1, toks := tk1 }
      exact ⟨.non, H, rfl, e0.bare, un_exc0 ea kk ⟨_, e1⟩, hok_exc0 e0.hok ea kk e1, rfl, hq0 e⟩
    · show CE outer P w H s Q .none { s with heap := h2, toks := tk2 }
      have kk2 : ∀ b o, b ≠ a → s.heap.get? b = some o → h2.get? b = some o := fun b o hb e => k2 b o hb (kk b o hb e)
      have sz : s.heap.objs.size ≤ dx := by
        have z : s.heap.objs.size < h1.objs.size := Heap.lt_size (k1 _ _ hxL hoL)
        exact Nat.le_of_lt (Nat.lt_of_lt_of_le z dn)
      have hnd : H dx = none := e0.hok.fresh sz
      exact ⟨.non, _, rfl, e0.bare, un_exc ea hnd sz kk2 ⟨_, hx2⟩, hok_exc e0.hok ea hnd kk2 hx2 hn2 rel2, rfl, hq hne dx hnd dne⟩
end
end Pk

/-! # PkExc3 -/
set_option Elab.async false
set_option linter.all false
set_option maxRecDepth 100000
set_option maxHeartbeats 4000000
namespace Pk
open PySem PySem.W PySem.Calls PyProof.Rows PySem.HandSPX L2

/-- an error class of the text, called x: at C, its __init__ (of D) at fI, storing the fields fs -/
structure XCls (P : Program) (w : World) (K : Frag) (mg : Str → Option Value) (base : Heap) (x : Str) (C : Addr) (fs : List Str) : Prop where
  ex : ∃ (D fI : Addr) (fd : FuncData), ExI K C D ∧ (∀ f ∈ fs, findIn K (.ref C) f = some none) ∧ findIn K (.ref C) "__init__" = some (some (.ref fI)) ∧ typeIn K (.ref fI) = some (.type "function") ∧
    FnOk P w K mg base CX0 1 fI fd (("self" : Str) :: fs) (spXI K D fs) ∧ Binds K fd (("self" : Str) :: fs) []
  gC : mg x = some (.ref C)

theorem xd_heap {H : Hp} {a d C : Addr} {F : List (Str × V)} (ha : H a = none) (hda : d ≠ a) : upd (del (upd (upd (upd H a (exo a C none)) d (exd d F)) a (exo a C (some d))) a) d (.xd F) = upd H d (.xd F) := by
  funext b
  by_cases hb : b = d
  · subst hb; rw [upd_same, upd_same]
  · rw [upd_ne hb, upd_ne hb]
    by_cases hba : b = a
    · subst hba; rw [del_same, ha]
    · rw [del_ne hba, upd_ne hba, upd_ne hb, upd_ne hba]

/-- arguments whose end may be weakened -/
def tMonoA (t : TA) : TA := fun σ H Q => ∃ Q0 : List V → Hp → Prop, t σ H Q0 ∧ ∀ vs H1, Q0 vs H1 → Q vs H1
theorem pa_mono {X : Cx} {es : List Expr} {t : TA} (h : PA X es t) : PA X es (tMonoA t) := ⟨fun pos pins s σ H Q I ⟨Q0, h0, hq⟩ => thn (h.run pos pins s σ H Q0 I h0) fun us s1 ⟨vs, H1, I1, r1, q1⟩ => ⟨vs, H1, I1, r1, hq vs H1 q1⟩⟩

section
variable {X : Cx} {x : Str} {C : Addr} {fs : List Str} {e : Expr} {es : List Expr} {ta : TA} {W : WX} {p pos pos2 : Pos} {k : Nat}
def tRaiseX (C : Addr) (fs : List Str) (W : WX) (ta : TA) : TS := fun _ σ H => ta σ H fun vs H1 => vs.length = fs.length ∧ ∀ d, H1 d = none → W (.ref C) (some d) σ (upd H1 d (.xd (fs.zip vs).reverse))
/-- raise C(e, ..) -/
theorem ps_raiseX (hc : X.calm = true) (T : XCls X.prog X.w X.K X.mg X.base x C fs) (hne : fs ≠ []) (hr : Room (k + 2) X.A) (tk : Takes X W) (ha : PA X (e :: es) ta) (hg : Gl X x) (hz : fs.length ≤ 900 := by decide)
    (hdb : (x == ("__debug__" : Str)) = false := by decide) (he : starEach (e :: es) X.env = (false, eval e X.env) :: starEach es X.env := by rfl) (hpl : (backTo pos (starEach es X.env)).any (·.1) = false := by rfl) :
    PS X (.Raise (some (.Call (.Name x p) (e :: es) [] pos)) none pos2) (tRaiseX C fs W ta) := by
  obtain ⟨D, fI, fd, TI, hno, iC, tI, F1, bd⟩ := T.ex
  have h0 := ps_raise (pos := pos2) hc tk (pmk_oex (p := p) (pos := pos) (dvs := []) (ds := []) TI.oex iC tI F1 (hr.mono (by omega)) bd .nil pass0 hg T.gC (pa_mono ha) hdb he hpl)
  refine ⟨fun pins s σ H Dn I h => h0.run pins s σ H Dn I ⟨_, h, fun vs H1 ⟨hl, q⟩ => ⟨by omega, fun a na => ?_⟩⟩⟩
  rw [List.append_nil]
  refine ⟨a, C, vs, rfl, hl, TI, hno, upd_same, fun z => absurd z hne, fun _ dx ndx dxa => ⟨rfl, dx, (fs.zip vs).reverse, upd_same, by rw [upd_ne dxa, upd_same], ?_, ?_⟩⟩
  · rw [upd_ne dxa] at ndx
    exact ndx
  · rw [xd_heap na dxa]
    refine q dx ?_
    rw [upd_ne dxa] at ndx
    exact ndx
end
end Pk

/-! # PkTry -/
set_option Elab.async false
set_option linter.all false
set_option maxRecDepth 100000
set_option maxHeartbeats 4000000
namespace Pk
open PySem PySem.Spec PyProof.Rows L2

/-! ## an exception that was caught, kept as a value -/
/-- at a: an exception object of the class cls, its dict d -/
def exT (cls : Value) (d : Option Addr) (a : Addr) : HO := .ext fun h => ∃ (oe : Obj) (vs : Array Value), h.get? a = some oe ∧ Zc cls d oe ∧ oe.data = .fields vs
theorem exT_ok {P : Program} {w : World} {H : Hp} {h : Heap} {a : Addr} {cls : Value} {d : Option Addr} {oe : Obj} {vs : Array Value} (e : h.get? a = some oe) (z : Zc cls d oe) (q : oe.data = .fields vs) : ObjOk P w H h a (exT cls d a) :=
  ⟨⟨oe, vs, e, z, q⟩, ⟨oe, e⟩, fun _ _ ⟨o, v, e1, r⟩ k => ⟨o, v, k o e1, r⟩⟩
theorem exT_at {P : Program} {w : World} {H : Hp} {h : Heap} {a : Addr} {cls : Value} {d : Option Addr} (hok : HOk P w H h) (e : H a = some (exT cls d a)) : ∃ (oe : Obj) (vs : Array Value), h.get? a = some oe ∧ Zc cls d oe ∧ oe.data = .fields vs := by
  have x : ObjOk P w H h a (.ext fun h => ∃ (oe : Obj) (vs : Array Value), h.get? a = some oe ∧ Zc cls d oe ∧ oe.data = .fields vs) := hok a _ e
  exact x.1
section
variable {X : Cx} {pins : List (Addr × Obj)} {σ : L2.St} {H : Hp} {s : Shared}
/-- an object of ours that is not tracked may be tracked -/
theorem track {a : Addr} {o : HO} (I : Inv X pins σ H s) (ha : H a = none) (h0 : X.s_0.heap.get? a = none) (hL : a ≠ X.env.locals) (hc : ∀ x c, X.env.cells.lookup x = some c → c ≠ a) (hp : ∀ p ∈ X.pn ++ pins, p.1 ≠ a)
    (new : ObjOk X.prog X.w (upd H a o) s.heap a o) : Inv X pins σ (upd H a o) s := by
  have n0 : ∀ {b : Addr} {u : Obj}, X.s_0.heap.get? b = some u → b ≠ a := fun {b u} e z => by rw [z, h0] at e; cases e
  refine ⟨I.ok, I.os, I.bare, ⟨I.base.keep, I.base.slot, fun b u e n hx => ?_, I.base.there, fun b xs e => ?_, fun b u v e => ?_, fun b ps e => ?_⟩, I.loc, I.cell, ?_, fun x c e => ?_, fun p hpp => ?_, I.hok.laidN (fun _ _ z => z) ha new, I.len⟩
  · rw [upd_ne (n0 e)]
    exact I.base.free b u e n hx
  · have q := I.base.tups b xs e
    rw [upd_ne (ne_of_none q ha)]; exact q
  · have q := I.base.frzs b u v e
    rw [upd_ne (ne_of_none q ha)]; exact q
  · obtain ⟨m, q⟩ := I.base.tbls b ps e
    exact ⟨m, by rw [upd_ne (ne_of_none q ha)]; exact q⟩
  · rw [upd_ne (Ne.symm hL)]; exact I.free
  · rw [upd_ne (hc x c e)]; exact I.freeC x c e
  · obtain ⟨q1, q2, q3⟩ := I.pin p hpp
    exact ⟨q1, by rw [upd_ne (hp p hpp)]; exact q2, q3⟩
end

/-- what the clause 'except x as n' wishes: behind the suite the exception stands tracked -/
def wAsT (K : PySem.W.Frag) (c : Value) (i : Nat) (ts : Addr → Value → Option Addr → TS) (Wout : WX) (D : Ends) : WX := fun cls d σ H =>
  ∃ b, PySem.W.exmOne K cls c = some b ∧ (b = true → ∀ a, H a = none → ts a cls d { nx := fun σ' H' => D.nx (σ'.set i none) (upd H' a (exT cls d a)), rt := fun v H' => D.rt v (upd H' a (exT cls d a)), bk := fun σ' H' => D.bk (σ'.set i none) (upd H' a (exT cls d a)), ct := fun σ' H' => D.ct (σ'.set i none) (upd H' a (exT cls d a)) } (σ.set i (some (.ref a))) H) ∧
    (b = false → Wout cls d σ H)
section
variable {X : Cx} {x n : Str} {c : Value} {i : Nat} {body suite : List Stmt} {b₀ : Stmt} {np pos pos' : Pos} {tb : WX → TS} {ts : Addr → Value → Option Addr → TS} {Wout : WX}
theorem ps_try_asT (hs : X.stack = X.env :: X.outer) (hf : X.env.frame = some X.env.locals) (hex : X.ex = []) (hN : X.N.Nodup) (hi : X.N[i]? = some n) (hln : X.env.kindOf n = some .local) (hc : Names X x c) (tk : Takes X Wout)
    (hb : ∀ (W : WX) (pn : List (Addr × Obj)) (xe : Value → Shared → Prop), Takes (X.tr pn xe) W → PassesOwn (model X.prog X.w) X.A X.env xe → PSs (X.tr pn xe) body (tb W))
    (hsu : ∀ (a : Addr) (oe : Obj) (cls : Value) (d : Option Addr) (pn : List (Addr × Obj)), Zc cls d oe → (∃ vs, oe.data = .fields vs) → PSs (X.suite a ((a, oe) :: pn)) (b₀ :: suite) (ts a cls d)) :
    PS X (.Try body [.ExceptHandler (some (.Name x np)) (some n) (b₀ :: suite) pos'] [] [] pos) (fun D σ H => tb (wAsT X.K c i ts Wout D) D σ H) := by
  refine ⟨fun pins s σ H D I h => ?_⟩
  have ok := I.ok
  have hfr : X.A.frames = some (X.env :: X.outer) := by rw [ok.frames, hs]
  have hloc : Loc X.env.scope n := .inl hln
  refine wpAny_Try_except ?_
  refine wpAny_mono ((hb (wAsT X.K c i ts Wout D) (X.pn ++ pins) (fun e s₁ => wpAny (model X.prog X.w) X.A (noteFrame e X.env) (fun _ s₂ => wpAny (model X.prog X.w) X.A (setFlight e none) (fun _ s₃ =>
    wpAny (model X.prog X.w) X.A (handleBy e X.env [.ExceptHandler (some (.Name x np)) (some n) (b₀ :: suite) pos']) (SP X pins D) X.xe s₃) X.xe s₂) X.xe s₁) (fun u s' xx => ?_) PassesOwn.looking).run [] s σ H D (I.toTry _) h) (fun f s1 hsp => ?_) (fun e s1 he => he)
  · obtain ⟨a, B, sI, pins', σ', H', cls, d, rfl, J', nb, up, sky, na, os, ag, b, hb1, hyes, hno⟩ := xx
    have J : Inv X pins σ' H' sI := J'.ofTry ok
    have sky' : Sky B (X.env :: X.outer) a (Zc cls d) X.env.locals s'.heap := by rw [← hs]; exact sky
    have Ba : B.get? a = none := by
      rcases sky' with z | z | z
      · exact z.2.1
      · exact z.2.1
      · exact z.2.1
    show wpAny (model X.prog X.w) X.A (noteFrame (.ref a) X.env) _ _ _
    refine Sky.land Zc.steady hfr hf sky' fun h3 fl3 up3 => ?_
    have J3 : Inv X pins σ' H' { s' with heap := h3 } := J.landed nb fl3.1 (up.trans up3) os ag
    obtain ⟨oe3, vs3, he3, hz3, hd3⟩ := fl3.there
    have nfr : a ∉ frs (X.env :: X.outer) := fun hm => by
      obtain ⟨_, o', e', hnf⟩ := fl3.2.2.1.mem hm
      rw [he3] at e'; cases e'
      exact hnf _ hd3
    have nL : a ≠ X.env.locals := fun z => nfr (List.mem_filterMap.mpr ⟨X.env, List.mem_cons_self, by rw [hf, z]⟩)
    have nF : a ∉ X.fs := fun hm => by
      obtain ⟨e, he, q⟩ := List.mem_filterMap.mp hm
      exact nfr (List.mem_filterMap.mpr ⟨e, List.mem_cons_of_mem _ he, q⟩)
    have sIa : sI.heap.get? a = none := by
      cases e : sI.heap.get? a with
      | none => rfl
      | some o => rw [nb a o e (by rw [hs]; exact nfr)] at Ba; cases Ba
    have s0a : X.s_0.heap.get? a = none := by
      cases e : X.s_0.heap.get? a with
      | none => rfl
      | some o =>
        obtain ⟨o', e'⟩ := J.base.there a o e (by rw [hex]; exact fun z => nomatch z)
        rw [sIa] at e'; cases e'
    have pna : ∀ p ∈ X.pn ++ pins, p.1 ≠ a := fun p hp z => by
      have q := (J.pin p hp).1
      rw [z, sIa] at q; cases q
    have S3 := J3.suite he3 hd3 na nL nF
    refine wpAny_handleBy_cons (codeAny_handlers_test ?_) (by intro q; cases q)
    have LT : PySem.W.Looks (model X.prog X.w) h3 (typeOf (.ref a)) cls := fun A Q E s k q => wpAny_typeOf_ref (k _ _ he3) (by rw [hz3.1]; exact q)
    have LM := PySem.W.exm_one (M := model X.prog X.w) (J3.kIn) LT hb1
    have test : ∀ {Q : Value → Shared → Prop} {E : Value → Shared → Prop}, Q c { s' with heap := h3 } → wpAny (model X.prog X.w) (X.A.mark (some (.ref a))) (eval (.Name x np) X.env) Q E { s' with heap := h3 } := fun {Q E} q => by
      obtain ⟨hg, hdbg, hm | ⟨hm, hv, hnn⟩⟩ := hc
      · exact ld_glob (X := X.suite a ((a, oe3) :: (X.pn ++ pins))) S3 hg hm q hdbg
      · exact ld_blt (X := X.suite a ((a, oe3) :: (X.pn ++ pins))) S3 hg hm hv q hnn hdbg
    refine test (LM.here ?_)
    cases b with
    | true =>
      refine codeAny_handlers_suite_as ?_
      refine HandSPX.lands_againZ fl3 fun h4 fl4 up4 => ?_
      have J4 : Inv X pins σ' H' { s' with heap := h4 } := J.landed nb fl4.1 ((up.trans up3).trans up4) os ag
      obtain ⟨oe4, vs4, he4, hz4, hd4⟩ := fl4.there
      have S4 := J4.suite he4 hd4 na nL nF
      refine store_ok (X := X.suite a ((a, oe4) :: (X.pn ++ pins))) (v := .ref a) S4 hN hi hloc rfl (fun s5 S5 => ?_) (.inr hln)
      refine wpAny_mono ((hsu a oe4 cls d (X.pn ++ pins) hz4 ⟨_, hd4⟩).run [] s5 _ H' _ S5 (hyes rfl a na)) (fun f s6 hsp => ?_) (fun _ _ z => False.elim z)
      have end_ : ∀ {σ6 : L2.St} {H6 : Hp} {Q : Shared → Prop}, Inv (X.suite a ((a, oe4) :: (X.pn ++ pins))) [] σ6 H6 s6 → (∀ s7, Inv X pins (σ6.set i none) (upd H6 a (exT cls d a)) s7 → Q s7) →
          wpAny (model X.prog X.w) X.A (do bindName X.env n .none; unbindBehindTheSuite X.env n pos') (fun _ s7 => Q s7) X.xe s6 := fun {σ6 H6 Q} S6 hq => by
        obtain ⟨ga, gn, _, _, _⟩ := S6.pin (a, oe4) (List.mem_append_left _ List.mem_cons_self)
        have J6 := S6.unsuite ok
        have J7 : Inv X pins σ6 (upd H6 a (exT cls d a)) s6 := track J6 gn s0a nL (fun y cl e z => by
          obtain ⟨v, o, ho, hdd⟩ := J6.cell y cl e
          rw [z, ga] at ho
          cases ho
          rw [hd4] at hdd
          cases hdd) pna (exT_ok ga hz4 hd4)
        exact gone_ok J7 hN hi hln hq
      cases f with
      | next =>
        obtain ⟨σ6, H6, S6, q6⟩ := hsp
        exact end_ S6 fun s7 J7 => ⟨_, _, J7, q6⟩
      | brk =>
        obtain ⟨σ6, H6, S6, q6⟩ := hsp
        exact end_ S6 fun s7 J7 => ⟨_, _, J7, q6⟩
      | cont =>
        obtain ⟨σ6, H6, S6, q6⟩ := hsp
        exact end_ S6 fun s7 J7 => ⟨_, _, J7, q6⟩
      | ret u =>
        obtain ⟨v6, σ6, H6, S6, r6, q6⟩ := hsp
        exact end_ S6 fun s7 J7 => ⟨_, _, _, J7, r6, q6⟩
    | false =>
      show wpAny _ X.A (handleBy (.ref a) X.env []) _ _ _
      refine wpAny_handleBy_nil ?_
      obtain ⟨k1, k2, k3, oe, vs, T, oT, ts', he, hz, hd, h1, hr⟩ := id fl3
      unfold PySem.passOn
      refine wpAny_bind (wpAny_field he hd h1 ?_)
      rw [if_neg (show ¬ ((Value.ref T == Value.none) = true) from by simp)]
      have fin : wpAny (model X.prog X.w) X.A (setFlight (.ref a) X.env.frame) (fun _ s4 => wpAny (model X.prog X.w) X.A (throw (.ref a) : Sem Flow) (SP X pins D) X.xe s4) X.xe { s' with heap := h3 } := by
        rw [hf]
        refine HandSPX.setFlight_upZ fl3 fun h4 hh4 up4 => wpAny_throw (tk _ _ ?_)
        exact ⟨a, B, sI, pins, σ', H', cls, d, rfl, J, nb, (up.trans up3).trans up4, .inr (.inr (by rw [hs]; exact hh4)), na, os, ag, hno rfl⟩
      first
        | exact wpAny_bind (wpAny_pure (wpAny_bind fin))
        | exact wpAny_bind fin
  · cases f with
    | next =>
      obtain ⟨σ', H', J', q⟩ := hsp
      exact wpAny_execs_nil ⟨σ', H', J'.ofTry ok, q⟩
    | brk =>
      obtain ⟨σ', H', J', q⟩ := hsp
      exact ⟨σ', H', J'.ofTry ok, q⟩
    | cont =>
      obtain ⟨σ', H', J', q⟩ := hsp
      exact ⟨σ', H', J'.ofTry ok, q⟩
    | ret u =>
      obtain ⟨v, σ', H', J', r, q⟩ := hsp
      exact ⟨v, σ', H', J'.ofTry ok, r, q⟩
end

/-- e.n, e a caught exception that is kept -/
def tXfT (K : PySem.W.Frag) (n : Str) (te : TE) : TE := fun σ H Q => te σ H fun x H1 => ∃ (a C dd : Addr) (fs : List (Str × V)) (v : V), x = .ref a ∧ H1 a = some (exT (.ref C) (some dd) a) ∧ XfC K C ∧ PySem.W.findIn K (.ref C) n = some none ∧ H1 dd = some (.xd fs) ∧ fs.lookup n = some v ∧ Q v H1
/-- isinstance(e, c), e such an exception -/
def rIsX (K : PySem.W.Frag) : List V → Hp → VK → Prop := fun xs H Q => ∃ (a D dd : Addr) (fs : List (Str × V)) (c : V) (u : Value) (b : Bool), xs = [.ref a, c] ∧ H a = some (exT (.ref D) (some dd) a) ∧ H dd = some (.xd fs) ∧ ExcC K D ∧ ClsV c u ∧ PySem.W.kitOne K (.ref D) u = some b ∧ Q (.bl b) H
section
variable {X : Cx}
theorem exT_inst {pins : List (Addr × Obj)} {σ : L2.St} {H : Hp} {s : Shared} {a C dd : Addr} {fs : List (Str × V)} (I : Inv X pins σ H s) (ha : H a = some (exT (.ref C) (some dd) a)) (hd : H dd = some (.xd fs)) :
    ∃ (oe od : Obj) (mA : Str → Option Value), PySem.W.InstAt s.heap a oe C (some od) ∧ (∀ f, PySem.W.lookIn f od = some (mA f)) ∧ ∀ f, RelO (fs.lookup f) (mA f) := by
  obtain ⟨oe, vs, e, z, q⟩ := exT_at I.hok ha
  obtain ⟨mA, hns, hr⟩ := (show ObjOk X.prog X.w H s.heap dd (.xd fs) from I.hok dd _ hd)
  obtain ⟨od, ho, hl⟩ := lookIn_ns hns
  exact ⟨oe, od, mA, ⟨e, z.1, by unfold PySem.W.notCls; rw [q] <;> rfl, by rw [z.2]; exact ho⟩, hl, hr⟩
theorem pe_xfT {e : Expr} {te : TE} {pos : Pos} {n : Str} (he : PE X e te) (hb : attributeBase e n X.env (eval e X.env) = eval e X.env := by rfl) : PE X (.Attribute e n pos) (tXfT X.K n te) := by
  refine ⟨fun pins s σ H Q I h => ?_⟩
  refine attr_of hb (thn (he.run pins s σ H _ I h) fun u s1 hh => ?_)
  obtain ⟨x, H1, I1, rx, a, C, dd, fs, v, ex, ea, T, hno, ed, l, q⟩ := hh
  subst ex
  obtain rfl : u = Value.ref a := rx
  obtain ⟨oe, od, mA, J, hl, hr⟩ := exT_inst I1 ea ed
  obtain ⟨u, hu, ru⟩ := RelO.some_of (v := v) (o := mA n) (by rw [← l]; exact hr n)
  exact HandSPX.exc_get I1.kIn J T.ga T.gg T.exC (PySem.W.findObj_own T.hdC hno rfl (by rw [hl, hu])) (handed_of ru) ⟨v, H1, I1.tok _, ru, q⟩
theorem call_isX : CallR X (.builtin "isinstance") (rIsX X.K) := by
  intro pins s σ H xs us Q I r h
  obtain ⟨a, D, dd, fs, c, u, b, rfl, ea, ed, C, k, e, q⟩ := h
  obtain ⟨u1, u2, rfl, r1, r2⟩ := vals2 r
  have e2 := k.eq r2
  subst e2
  obtain rfl : u1 = Value.ref a := r1
  obtain ⟨oe, od, mA, J, _, _⟩ := exT_inst I ea ed
  obtain ⟨cd, hc, _⟩ := PySem.W.any_some C.hd
  exact PySem.W.kia_one (PySem.W.kitx_exc (by rw [hc]; rfl) C.hg C.hk C.hs C.ha C.hn C.ht C.hm) I.kIn J e (fun z => nomatch z) fun tk => ⟨.bl b, H, I.tok tk, rfl, q⟩
end
end Pk

/-! # PkG -/
set_option Elab.async false
set_option linter.all false
set_option maxRecDepth 100000
set_option maxHeartbeats 4000000
namespace Pk
open PySem PySem.Spec PyProof.Rows L2

/-! ## Promises of defs that are called where nothing is being shown (repr): room, and no guard -/
structure Rm (k : Nat) (A : Around) : Prop where
  r : Room k A
  g : A.guards = some []
theorem Rm.mono {j k : Nat} {A : Around} (h : Rm k A) (e : j ≤ k) : Rm j A := ⟨h.r.mono e, h.g⟩
theorem Rm.in1 {k : Nat} {A : Around} (h : Rm (k + 1) A) : Rm k A.in1 := ⟨h.r.in1, h.g⟩
theorem Rm.deeper {k : Nat} {A : Around} (h : Rm (k + 1) A) (env : Env) : Rm k (A.deeper env) := ⟨h.r.deeper env, h.g⟩
theorem guards_make {A : Around} {C : Addr} {us : List Value} {kw : List (Str × Value)} : (A.under (.builtin "type.__call__" ⟨.ref C :: us, kw⟩)).guards = A.guards := by
  have e : (Code.builtin "type.__call__" ⟨.ref C :: us, kw⟩).guards = [] := by
    unfold Code.guards
    rw [if_neg (by show ¬ guardIds.contains "type.__call__" = true; decide +kernel)]
  show pushGuards (Code.builtin "type.__call__" ⟨.ref C :: us, kw⟩).guards A.guards = A.guards
  rw [e]; rfl
theorem Rm.make {k : Nat} {A : Around} (h : Rm (k + 1) A) (C : Addr) (us : List Value) (kw : List (Str × Value)) : Rm k (A.under (.builtin "type.__call__" ⟨.ref C :: us, kw⟩)) := ⟨h.r.make C us kw, by rw [guards_make]; exact h.g⟩

/-- the def at f keeps its promise where nothing is being shown -/
structure FnG (P : Program) (w : World) (K : PySem.W.Frag) (mg : Str → Option Value) (base : Heap) (k : Nat) (f : Addr) (fd : FuncData) (ps : List Str) (sp : Sp) : Prop where
  len : ∀ vs H Q E, sp vs H Q E → vs.length = ps.length
  run : ∀ (A : Around) (outer : List Env) (s : Shared) (H : Hp) (args : Args) (us : List Value) (vs : List V) (Q : VK) (E : XK), Rm k A → Env0 P w K mg base A outer s H → BindsTo s fd args (ps.zip us) → Vals vs us → sp vs H Q E →
    codeAny (model P w) A (.call (.ref f) args) (CR (CX P w) outer P w H s Q E) s
section
variable {P : Program} {w : World} {K : PySem.W.Frag} {mg : Str → Option Value} {base : Heap} {k : Nat} {f : Addr} {fd : FuncData} {ps : List Str} {sp : Sp}
theorem FnG.of (F : FnOk P w K mg base (CX P w) k f fd ps sp) : FnG P w K mg base k f fd ps sp := ⟨F.len, fun A outer s H args us vs Q E hr => F.run A outer s H args us vs Q E hr.r⟩
theorem FnG.mono {j : Nat} (F : FnG P w K mg base j f fd ps sp) (h : j ≤ k) : FnG P w K mg base k f fd ps sp := ⟨F.len, fun A outer s H args us vs Q E hr => F.run A outer s H args us vs Q E (hr.mono h)⟩
/-- a def as it stands behind the top, whatever its defaults -/
structure FunX (K : PySem.W.Frag) (x qual : Str) (st : Stmt) (f : Addr) (fd : FuncData) : Prop where
  ex : ∃ (oc : Value) (od : Option Addr) (dV kV doc pm : Value) (an : Option Addr) (cdv ct : Value) (osl : Array (Option Value)),
    fd = PySem.W.fnOf x qual (defArgs st) (defBody st) (defScope st) dV kV doc pm an cdv ct ∧ K.lookup f = some ⟨oc, od, .func fd, osl⟩ ∧ PySem.W.codeIn K cdv qual = true
  kp : PySem.W.keepIn K (.ref f) = true
theorem fun_x {x qual : Str} {st : Stmt} (F : Fun K x qual st f fd) : FunX K x qual st f fd := by
  obtain ⟨⟨oc, od, kV, doc, pm, an, cdv, ct, osl, h1, h2, h3⟩, kp⟩ := F
  exact ⟨⟨oc, od, .none, kV, doc, pm, an, cdv, ct, osl, h1, h2, h3⟩, kp⟩
/-- THE RULE for a def -/
theorem okX {x qual : Str} {st : Stmt} {N : List Str} (F : FunX K x qual st f fd) (S : FnScope N ps (defScope st)) (len : ∀ vs H Q E, sp vs H Q E → vs.length = ps.length)
    (hbody : ∀ (cdv : Value) (A : Around) (outer : List Env) (s : Shared) (H : Hp) (vs : List V) (Q : VK) (E : XK), Rm k (A.deeper (envOfC qual (defScope st) s.heap.objs.size f cdv)) → sp vs H Q E →
      ∃ t, PSs (cxOf (CX P w) P w K mg base N qual (defScope st) f cdv A outer s H E) (defBody st) t ∧ t { nx := fun _ H' => Q .non H', rt := Q } (start N vs) H) : FnG P w K mg base (k + 1) f fd ps sp := by
  obtain ⟨oc, od, dV, kV, doc, pm, an, cdv, ct, osl, rfl, lk, hcd⟩ := F.ex
  refine ⟨len, fun A outer s H args us vs Q E hr e0 hb r hsp => ?_⟩
  have hl := len _ _ _ _ hsp
  have KX : K.In s.heap := e0.mod.kin.keeps fun b o e => (e0.bs b o e).1
  have lim : s.heap.NoLimit := e0.mod.nolimit.keeps fun b o e => (e0.bs b o e).1
  have hkind : ∀ y ∈ ps.zip us, (defScope st).names.lookup y.1 = some .local ∨ ((defScope st).names.lookup y.1 = some .cell ∧ ((cellsFrom (s.heap.objs.size + 1) (defScope st).names []).lookup y.1).isSome = true) := fun ⟨n, v⟩ hy => by
    rcases S.par n (List.of_mem_zip hy).1 with q | q
    · exact .inl q
    · exact .inr ⟨q, PySem.W.cellsFrom_some _ _ _ (.inl q)⟩
  refine codeAny_call_function hr.r.depth (KX _ _ lk) rfl S.co S.gen rfl (PySem.W.codeRec_of KX hcd) (hb _ _ _ _ ?_)
  refine wpAny_newFunctionEnv_cells S.kind hkind fun env he s1 x => ?_
  subst he
  refine ⟨lim.keeps x.toInCall.keep, codeAny_func ?_⟩
  obtain ⟨t, ht, hq⟩ := hbody cdv A outer s H vs Q E (hr.deeper _) hsp
  have I : Inv (cxOf (CX P w) P w K mg base N qual (defScope st) f cdv A outer s H E) [] (start N vs) H s1 := inv_start S hr.r.hd e0 hl r x
  refine wpAny_mono (ht.run [] s1 (start N vs) H _ I hq) (fun fl s' hs => ?_) fun e s' hs => hs
  have fin : ∀ {σ' : L2.St} {H' : Hp} {v : V} {u : Value}, Inv (cxOf (CX P w) P w K mg base N qual (defScope st) f cdv A outer s H E) [] σ' H' s' → RelV v u → Q v H' → CE outer P w H s Q u s' :=
    fun {σ' H' v u} J rv q => ⟨v, H', J.os, J.bare, J.base, J.hok, rv, q⟩
  cases fl with
  | ret u =>
    obtain ⟨v, σ', H', J, rv, q⟩ := hs
    exact fin J rv q
  | next =>
    obtain ⟨σ', H', J, q⟩ := hs
    exact fin (v := V.non) (u := Value.none) J rfl q
  | brk =>
    obtain ⟨_, _, _, q⟩ := hs
    exact False.elim q
  | cont =>
    obtain ⟨_, _, _, q⟩ := hs
    exact False.elim q
theorem okG {x qual : Str} {st : Stmt} {N : List Str} (F : Fun K x qual st f fd) (S : FnScope N ps (defScope st)) (len : ∀ vs H Q E, sp vs H Q E → vs.length = ps.length)
    (hbody : ∀ (cdv : Value) (A : Around) (outer : List Env) (s : Shared) (H : Hp) (vs : List V) (Q : VK) (E : XK), Rm k (A.deeper (envOfC qual (defScope st) s.heap.objs.size f cdv)) → sp vs H Q E →
      ∃ t, PSs (cxOf (CX P w) P w K mg base N qual (defScope st) f cdv A outer s H E) (defBody st) t ∧ t { nx := fun _ H' => Q .non H', rt := Q } (start N vs) H) : FnG P w K mg base (k + 1) f fd ps sp := okX (fun_x F) S len hbody
end

/-! ### the end of a law -/
theorem lawG {P : Program} {w : World} {K : PySem.W.Frag} {mg mb : Str → Option Value} {k : Nat} {fa a : Addr} {fd : FuncData} {x : Str} {sp : Sp} {s₁ : Shared} {vs : List Value} {ns : List Int}
    (KX : K.In s₁.heap) (hns : s₁.heap.Ns mainGlobals mg) (hb : s₁.heap.Ns builtinsNs mb) (hbb : ∀ x : Str, x ≠ "__name__" → mb x = bootBuiltins x) (hlim : s₁.heap.NoLimit) (hg : s₁.gens = #[])
    (ha : s₁.heap.get? a = some { cls := .type "list", data := .seq vs.toArray }) (hi : IntsAre vs ns) (hl : ns.length ≤ sizeLine) (hr : Room k callerA)
    (F : ∀ base : Heap, K.In base → base.Ns mainGlobals mg → FnG P w K mg base k fa fd [x] sp) (hbind : ∀ (s : Shared) (u : Value), BindsTo s fd ⟨[u], []⟩ [(x, u)])
    (hsp : ∀ H : Hp, Only H → SqL K H a (ns.map V.int) → sp [.ref a] H (fun v _ => v = .bl true) fun _ _ _ => False) :
    codeAny (model P w) callerA (.call (.ref fa) ⟨[.ref a], []⟩) (fun r s' => r = .ok (.ret (.bool true)) ∧ OldK s₁.heap s'.heap ∧ s'.os = s₁.os ∧ AllBare s'.gens) s₁ := by
  have rv := vals_ints hi
  have lenV := hi.length
  have core : ∀ H : Hp, Only H → SqL K H a (ns.map V.int) → HOk P w H s₁.heap → (∀ b, H b ≠ none → b = a) → (H a ≠ none → K.lookup a = none) →
      codeAny (model P w) callerA (.call (.ref fa) ⟨[.ref a], []⟩) (fun r s' => r = .ok (.ret (.bool true)) ∧ OldK s₁.heap s'.heap ∧ s'.os = s₁.os ∧ AllBare s'.gens) s₁ := by
    intro H hO hS hok hA hK
    have base_of : ∀ {b : Addr} {o : Obj}, s₁.heap.get? b = some o → H b = none → (hidT s₁.heap H).get? b = some o := fun e n => hidT_get e n
    have noA : ∀ {b : Addr} {o : Obj} {es : Array DictEntry} {ep : Nat}, s₁.heap.get? b = some o → o.data = .dict es ep → H b = none := fun {b o es ep} e d => by
      cases q : H b with
      | none => rfl
      | some u =>
        have e' : b = a := hA b (by rw [q]; simp)
        subst e'
        rw [ha] at e; cases e
        have d' : Data.seq vs.toArray _ = Data.dict es ep := d
        cases d'
    have nsK : ∀ {b : Addr} {m : Str → Option Value}, s₁.heap.Ns b m → (hidT s₁.heap H).Ns b m := fun {b m} ⟨o, es, ep, e, d, r⟩ => ⟨o, es, ep, base_of e (noA e d), d, r⟩
    have hKb : K.In (hidT s₁.heap H) := fun b o e => base_of (KX b o e) (by
      cases q : H b with
      | none => rfl
      | some u =>
        have e' : b = a := hA b (by rw [q]; simp)
        subst e'
        rw [hK (by rw [q]; simp)] at e; cases e)
    have hM : Mod K mg (hidT s₁.heap H) := ⟨hKb, nsK hns, ⟨mb, nsK hb, hbb⟩, let ⟨mc, h1, h2⟩ := hlim; ⟨mc, nsK h1, h2⟩⟩
    have e0 : Env0 P w K mg (hidT s₁.heap H) callerA [] s₁ H := ⟨rfl, hM, fun b o e => of_hidT e, Nat.le_of_eq (hidT_size _ _), trivial, fun b hb => absurd (show b ∈ ([] : List Addr) from hb) (by simp), hok, .of_eq hg⟩
    refine codeAny_mono ((F _ hKb (nsK hns)).run callerA [] s₁ H ⟨[.ref a], []⟩ [.ref a] [.ref a] _ _ ⟨hr, rfl⟩ e0 (hbind s₁ (.ref a)) (.cons rfl .nil) (hsp H hO hS)) fun r s' h => ?_
    cases r with
    | error e =>
      obtain ⟨_, _, _, _, _, _, _, _, _, _, _, _, z⟩ := h
      exact z.elim
    | ok fl =>
      cases fl with
      | next => exact False.elim h
      | brk => exact False.elim h
      | cont => exact False.elim h
      | ret u =>
        obtain ⟨v, H', os, bare, un, hok', r', q⟩ := h
        have q' : v = .bl true := q
        subst q'
        obtain rfl : u = Value.bool true := r'
        refine ⟨rfl, OldK.of_keep fun b o e => ?_, os, bare⟩
        cases q : H b with
        | none => exact un.keep b o e q (by intro z; exact absurd (show b ∈ ([] : List Addr) from z) (by simp)) (by simp)
        | some u =>
          rcases hO b with z | ⟨ob, xs, z⟩
          · rw [q] at z; cases z
          · have z2 := un.frzs b ob _ z
            obtain ⟨e1, _⟩ := hok b _ z
            obtain ⟨e2, _⟩ := hok' b _ z2
            rw [e] at e1; cases e1
            exact e2
  cases hk : K.lookup a with
  | some o =>
    have e := KX a o hk
    rw [ha] at e
    cases e
    refine core (fun _ => none) (fun _ => .inl rfl) (.inr ⟨_, vs.toArray, _, hk, rfl, rfl, rfl, by rw [List.size_toArray, lenV]; exact hl, by simpa using rv⟩) (fun b u z => by have z' : (none : Option HO) = some u := z; cases z') (fun b z => absurd rfl z) fun z => absurd rfl z
  | none =>
    refine core (fun b => if b = a then some (.frz { cls := .type "list", data := .seq vs.toArray } (.lst (ns.map V.int))) else none) (fun b => ?_) (.inl (.inr ⟨{ cls := .type "list", data := .seq vs.toArray }, if_pos rfl⟩)) (fun b u z => ?_) (fun b z => ?_) fun _ => hk
    · by_cases hb : b = a
      · exact .inr ⟨_, _, if_pos hb⟩
      · exact .inl (if_neg hb)
    · by_cases hb : b = a
      · have z' := (if_pos hb).symm.trans z
        cases z'
        subst hb
        exact ⟨ha, by rw [List.length_map]; exact hl, vs, _, rv, ha⟩
      · have z' := (if_neg hb).symm.trans z
        cases z'
    · by_cases hb : b = a
      · exact hb
      · exact absurd (if_neg hb) z
theorem walkG {l : PySem.W.OpenLaw} {n k : Nat} {q : Program} {loose : List Str} {XP : (Str → Option Value) → Heap → Prop} {YP : World → Heap → Prop} {d : DefRec} {K : Params → PySem.W.Frag} {sp : PySem.W.Frag → Sp} {x : Str}
    (hn : l.most = some n) (hn2 : n ≤ sizeLine) (hdf : d.params.defaults = []) (hr : Room k callerA)
    (hY : ∀ (w : World) (h : Heap), YP w h → (K w.params).In h)
    (F : ∀ (w : World) (mg : Str → Option Value) (fa : Addr) (h : Heap), (K w.params).In h → h.Ns mainGlobals mg → mg d.name = some (.ref fa) →
      ∃ fd : FuncData, (∀ (s : Shared) (u : Value), BindsTo s fd ⟨[u], []⟩ [(x, u)]) ∧
        ∀ base : Heap, (K w.params).In base → base.Ns mainGlobals mg → FnG l.prog w (K w.params) mg base k fa fd [x] (sp (K w.params)))
    (hsp : ∀ (K : PySem.W.Frag) (H : Hp) (a : Addr) (ns : List Int), ns.length ≤ n → (∀ z ∈ ns, Builtin.Int.intBits z ≤ 1048576) → Only H → SqL K H a (ns.map V.int) → sp K [.ref a] H (fun v _ => v = .bl true) fun _ _ _ => False) :
    PySem.W.WalkO q loose XP YP l.row.toRowW d [] (fun f vs => PySem.call f vs) := by
  refine Att.attach_callB hn hdf fun w s₀ s₁ mg mb fa o pm cd doc a vs ns G Y ho hd hcd hmg hobj hints hlen hbits hg => ?_
  have KX := hY w _ Y
  obtain ⟨fd, hb, hF⟩ := F w mg fa _ KX G.T.g hmg
  exact lawG KX G.T.g G.T.b G.T.builtins G.T.nolimit hg hobj hints (Nat.le_trans hlen hn2) hr hF hb (fun H hO hS => hsp _ H a ns hlen hbits hO hS)
end Pk

/-! # PkCall -/
set_option Elab.async false
set_option linter.all false
set_option maxRecDepth 100000
set_option maxHeartbeats 4000000
namespace Pk
open PySem PySem.Spec PyProof.Rows L2

/-! ## Calls of the text's own defs, methods, classes, static methods: one form each, what they raise goes to the caller's wish W at its slots -/
theorem fn_any {P : Program} {w : World} {K : PySem.W.Frag} {mg : Str → Option Value} {base : Heap} {CX : CXT} {k : Nat} {f : Addr} {fd : FuncData} {ps : List Str} {sp : Sp} (F : FnOk P w K mg base CX0 k f fd ps sp) : FnOk P w K mg base CX k f fd ps sp :=
  ⟨F.len, fun A outer s H args us vs Q E hr e0 hb r h => codeAny_mono (F.run A outer s H args us vs Q E hr e0 hb r h) fun r s' q => by
    cases r with
    | ok fl => cases fl <;> exact q
    | error e => exact q.elim⟩

/-- a def at f with its parameters ps, the last of them with the defaults dvs -/
structure Fd (P : Program) (w : World) (K : PySem.W.Frag) (mg : Str → Option Value) (base : Heap) (k : Nat) (f : Addr) (sp : Sp) (dvs : List V) : Prop where
  ex : ∃ (fd : FuncData) (ps : List Str) (ds : List Value), FnG P w K mg base k f fd ps sp ∧ Binds K fd ps ds ∧ Vals dvs ds
  kp : PySem.W.keepIn K (.ref f) = true
/-- a def of the module, called x -/
structure GF (P : Program) (w : World) (K : PySem.W.Frag) (mg : Str → Option Value) (base : Heap) (k : Nat) (x : Str) (sp : Sp) (dvs : List V) : Prop where
  ex : ∃ f, mg x = some (.ref f) ∧ Fd P w K mg base k f sp dvs
/-- a method m of the class at C -/
structure GM (P : Program) (w : World) (K : PySem.W.Frag) (mg : Str → Option Value) (base : Heap) (k : Nat) (C : Addr) (m : Str) (sp : Sp) (dvs : List V) : Prop where
  cl : Cls K C
  ex : ∃ f, Meth K C m f ∧ Fd P w K mg base k f sp dvs
/-- a class called x, at C, by its __init__ -/
structure GC (P : Program) (w : World) (K : PySem.W.Frag) (mg : Str → Option Value) (base : Heap) (k : Nat) (x : Str) (C : Addr) (sp : Sp) (dvs : List V) : Prop where
  gl : mg x = some (.ref C)
  ex : ∃ f, Mk K C f ∧ Fd P w K mg base k f sp dvs
/-- a static method m of the class called x, at C -/
structure GS (P : Program) (w : World) (K : PySem.W.Frag) (mg : Str → Option Value) (base : Heap) (k : Nat) (x : Str) (C : Addr) (m : Str) (sp : Sp) (dvs : List V) : Prop where
  gl : mg x = some (.ref C)
  ex : ∃ (mc : Value) (p f : Addr) (rest : List Value), ClX.CRead K C mc ∧ PySem.W.findCls K (.ref C) mc m = some (.get (.builtin "staticmethod.__get__") (.ref p) .none (.ref C)) ∧ PySem.W.recIn K p "staticmethod" = some (.ref f :: rest) ∧ Fd P w K mg base k f sp dvs

section
variable {X : Cx} {k : Nat} {f C : Addr} {sp : Sp} {dvs : List V} {W : WX} {x m : Str} {p pos apos p2 : Pos} {e o : Expr} {es : List Expr} {ta : TE} {t : TA}
theorem run_fd {pins : List (Addr × Obj)} {σ : L2.St} {H : Hp} {s : Shared} {Q : VK} {us : List Value} {vs : List V} (F : Fd X.prog X.w X.K X.mg X.base k f sp dvs) (hr : Rm k X.A) (tk : Takes X W)
    (I : Inv X pins σ H s) (r : Vals vs us) (h : sp (vs ++ dvs) H Q (WE W σ)) : wpAny (model X.prog X.w) X.A (call (.ref f) us) (EP X pins σ Q) X.xe s := by
  obtain ⟨fd, ps, ds, G, hb, hd⟩ := F.ex
  have r2 : Vals (vs ++ dvs) (us ++ ds) := r.append hd
  have hl : (us ++ ds).length = ps.length := by rw [← r2.length]; exact G.len _ _ _ _ h
  refine wpAny_call (codeAny_mono (G.run X.A X.stack s H ⟨us, []⟩ (us ++ ds) (vs ++ dvs) Q (WE W σ) hr I.env0 (hb s us I.kIn hl) r2 h) fun r s' hq => ?_)
  cases r with
  | error e => exact passAt tk σ pins H s e s' I hq
  | ok fl =>
    cases fl with
    | ret u => exact I.after hq
    | next => exact False.elim hq
    | brk => exact False.elim hq
    | cont => exact False.elim hq
/-- the same with keywords: names ks, g puts the values in the parameters' order -/
structure FdK (P : Program) (w : World) (K : PySem.W.Frag) (mg : Str → Option Value) (base : Heap) (k : Nat) (f : Addr) (sp : Sp) (ks : List Str) (gV : List V → List V → List V) : Prop where
  ex : ∃ (fd : FuncData) (ps : List Str) (g : List Value → List Value → List Value), FnG P w K mg base k f fd ps sp ∧ KBinds K fd ps ks g gV
  kp : PySem.W.keepIn K (.ref f) = true
theorem run_fdK {pins : List (Addr × Obj)} {σ : L2.St} {H : Hp} {s : Shared} {Q : VK} {us ws : List Value} {vs zs : List V} {ks : List Str} {gV : List V → List V → List V} (F : FdK X.prog X.w X.K X.mg X.base k f sp ks gV) (hr : Rm k X.A) (tk : Takes X W)
    (I : Inv X pins σ H s) (r : Vals vs us) (rz : Vals zs ws) (h : sp (gV vs zs) H Q (WE W σ)) : wpAny (model X.prog X.w) X.A (call (.ref f) us (ks.zip ws)) (EP X pins σ Q) X.xe s := by
  obtain ⟨fd, ps, g, G, hb⟩ := F.ex
  have r2 := hb.rel r rz
  have hl : (g us ws).length = ps.length := by rw [← r2.length]; exact G.len _ _ _ _ h
  refine wpAny_call (codeAny_mono (G.run X.A X.stack s H ⟨us, ks.zip ws⟩ (g us ws) (gV vs zs) Q (WE W σ) hr I.env0 (hb.to s us ws I.kIn hl) r2 h) fun r s' hq => ?_)
  cases r with
  | error e => exact passAt tk σ pins H s e s' I hq
  | ok fl =>
    cases fl with
    | ret u => exact I.after hq
    | next => exact False.elim hq
    | brk => exact False.elim hq
    | cont => exact False.elim hq
/-- f(e, ..) -/
theorem pe_gf (G : GF X.prog X.w X.K X.mg X.base k x sp dvs) (hr : Rm k X.A) (tk : Takes X W) (hg : Gl X x) (ha : PA X (e :: es) t) (hdb : (x == ("__debug__" : Str)) = false := by decide)
    (he : starEach (e :: es) X.env = (false, eval e X.env) :: starEach es X.env := by rfl) (hpl : (backTo pos (starEach es X.env)).any (·.1) = false := by rfl) : PE X (.Call (.Name x p) (e :: es) [] pos) (tCallSD sp dvs (WE W) t) := by
  obtain ⟨f, hm, F⟩ := G.ex
  refine ⟨fun pins s σ H Q I h => ?_⟩
  refine wpAny_Call_Name_kw (ld_glob I hg hm ?_ hdb)
  refine PySem.W.callWith_K (h₀ := X.base) I.ok.mod.kin F.kp (thn (ha.run pos pins s σ H _ I h) fun us s1 ⟨vs, H1, I1, r, q⟩ => ⟨I1.kIn, ?_⟩) he hpl
  exact run_fd F hr tk I1 r q
/-- o.m(e, ..), o.m() -/
def tGM (C : Addr) (m : Str) (sp : Sp) (dvs : List V) (W : WX) (ta : TE) (t : TA) : TE := fun σ H Q => ta σ H fun x H1 => ∃ a dx fs, x = .ref a ∧ H1 a = some (.ins C dx fs) ∧ fs.lookup m = none ∧ t σ H1 fun vs H2 => sp (x :: (vs ++ dvs)) H2 Q (WE W σ)
theorem pe_gm {pl : Sem Bool} (he : PE X o ta) (G : GM X.prog X.w X.K X.mg X.base k C m sp dvs) (hr : Rm k X.A) (tk : Takes X W) (ha : PA X (e :: es) t)
    (hst : starEach (e :: es) X.env = (false, eval e X.env) :: starEach es X.env := by rfl) (hpl : (backTo pos (starEach es X.env)).any (·.1) = false := by rfl)
    (ht : eval (.Call (.Attribute o m apos) (e :: es) [] pos) X.env = (do
      let ov ← eval o X.env
      standAt apos.atName
      let (f, first) ← holding [ov] (getMethod ov m pl)
      callWith pos f first (backTo pos (starEach (e :: es) X.env)) (backToKw pos (keywordEach [] X.env))) := by rfl) :
    PE X (.Call (.Attribute o m apos) (e :: es) [] pos) (tGM C m sp dvs W ta t) := by
  obtain ⟨f, hm, F⟩ := G.ex
  refine ⟨fun pins s σ H Q I h => ?_⟩
  refine PySem.W.methodCall_KW (pl := pl) (thn (he.run pins s σ H _ I h) fun u s1 ⟨x, H1, I1, rx, a, dx, fs, ex, ea, l, q⟩ => ?_) ht
  subst ex
  obtain rfl : u = Value.ref a := rx
  refine getmeth_ok I1 ea G.cl hm l ?_
  refine PySem.W.callWith_K (first := [.ref a]) (h₀ := X.base) I.ok.mod.kin hm.kp (thn (ha.run pos pins s1 σ H1 _ I1 q) fun us s2 ⟨vs, H2, I2, r, q2⟩ => ⟨I2.kIn, ?_⟩) hst hpl
  exact run_fd (us := .ref a :: us) (vs := .ref a :: vs) F hr tk I2 (.cons rfl r) q2
theorem pe_gm0 {pl : Sem Bool} (he : PE X o ta) (G : GM X.prog X.w X.K X.mg X.base k C m sp dvs) (hr : Rm k X.A) (tk : Takes X W)
    (ht : eval (.Call (.Attribute o m apos) [] [] pos) X.env = (do
      let ov ← eval o X.env
      standAt apos.atName
      let (f, first) ← holding [ov] (getMethod ov m pl)
      callWith pos f first (backTo pos (starEach [] X.env)) (backToKw pos (keywordEach [] X.env))) := by rfl) :
    PE X (.Call (.Attribute o m apos) [] [] pos) (tGM C m sp dvs W ta tNil) := by
  obtain ⟨f, hm, F⟩ := G.ex
  refine ⟨fun pins s σ H Q I h => ?_⟩
  refine PySem.W.methodCall_KW (pl := pl) (thn (he.run pins s σ H _ I h) fun u s1 ⟨x, H1, I1, rx, a, dx, fs, ex, ea, l, q⟩ => ?_) ht
  subst ex
  obtain rfl : u = Value.ref a := rx
  refine getmeth_ok I1 ea G.cl hm l ?_
  exact PySem.W.callWith_K0 (first := [.ref a]) I1.kIn hm.kp (run_fd (us := [.ref a]) (vs := [.ref a]) F hr tk I1 (.cons rfl .nil) q)
/-- C(e, ..) -/
def tGC (C : Addr) (sp : Sp) (dvs : List V) (W : WX) (t : TA) : TE := fun σ H Q => t σ H fun vs H1 => ∀ x dx, H1 x = none → H1 dx = none → dx ≠ x → sp (.ref x :: (vs ++ dvs)) (upd (upd H1 dx (.own x)) x (.ins C dx [])) (fun v H2 => v = .non ∧ Q (.ref x) H2) (WE W σ)
theorem run_mk {pins : List (Addr × Obj)} {σ : L2.St} {H : Hp} {s : Shared} {Q : VK} {us : List Value} {vs : List V} (M : Mk X.K C f) (F : Fd X.prog X.w X.K X.mg X.base k f sp dvs) (hr : Rm (k + 1) X.A) (tk : Takes X W) (I : Inv X pins σ H s) (r : Vals vs us)
    (h : ∀ x dx, H x = none → H dx = none → dx ≠ x → sp (.ref x :: (vs ++ dvs)) (upd (upd H dx (.own x)) x (.ins C dx [])) (fun v H2 => v = .non ∧ Q (.ref x) H2) (WE W σ)) :
    wpAny (model X.prog X.w) X.A (call (.ref C) us) (EP X pins σ Q) X.xe s := by
  obtain ⟨fd, ps, ds, G, hb, hd⟩ := F.ex
  have hq := h (s.heap.objs.size + 1) s.heap.objs.size (I.hok.fresh (Nat.le_succ _)) (I.hok.fresh (Nat.le_refl _)) (Nat.ne_of_lt (Nat.lt_succ_self _))
  have I2 := Inv.made (C := C) I
  have r2 : Vals (V.ref (s.heap.objs.size + 1) :: (vs ++ dvs)) (Value.ref (s.heap.objs.size + 1) :: (us ++ ds)) := .cons rfl (r.append hd)
  have hl : (Value.ref (s.heap.objs.size + 1) :: us ++ ds).length = ps.length := by
    have e := r2.length
    rw [G.len _ _ _ _ hq] at e
    exact e.symm
  refine wpAny_call (make_map (f := f) I.kIn M.makes M.init (beq_iff_eq.mp M.fn) (codeAny_mono (G.run _ X.stack _ _ ⟨Value.ref (s.heap.objs.size + 1) :: us, []⟩ (Value.ref (s.heap.objs.size + 1) :: (us ++ ds)) _ _ (WE W σ) (hr.make C us [])
    (I2.env0.make C us []) (hb _ (Value.ref (s.heap.objs.size + 1) :: us) I2.kIn hl) r2 hq) fun r s' hq' => ?_))
  cases r with
  | error e => exact passAt tk σ pins _ _ e s' I2 hq'
  | ok fl =>
    cases fl with
    | ret u =>
      obtain ⟨v, H', I3, rv, ev, q3⟩ := I2.after hq'
      subst ev
      exact ⟨rv, ⟨V.ref (s.heap.objs.size + 1), H', I3, rfl, q3⟩⟩
    | next => exact False.elim hq'
    | brk => exact False.elim hq'
    | cont => exact False.elim hq'
theorem pe_gc (G : GC X.prog X.w X.K X.mg X.base k x C sp dvs) (hr : Rm (k + 1) X.A) (tk : Takes X W) (hg : Gl X x) (ha : PA X (e :: es) t) (hdb : (x == ("__debug__" : Str)) = false := by decide)
    (he : starEach (e :: es) X.env = (false, eval e X.env) :: starEach es X.env := by rfl) (hpl : (backTo pos (starEach es X.env)).any (·.1) = false := by rfl) : PE X (.Call (.Name x p) (e :: es) [] pos) (tGC C sp dvs W t) := by
  obtain ⟨f, M, F⟩ := G.ex
  refine ⟨fun pins s σ H Q I h => ?_⟩
  refine wpAny_Call_Name_kw (ld_glob I hg G.gl ?_ hdb)
  refine PySem.W.callWith_K (h₀ := X.base) I.ok.mod.kin M.kp (thn (ha.run pos pins s σ H _ I h) fun us s1 ⟨vs, H1, I1, r, q⟩ => ⟨I1.kIn, ?_⟩) he hpl
  exact run_mk M F hr tk I1 r q
/-- C.m(e, ..), m a static method -/
theorem getsm_ok {pins : List (Addr × Obj)} {σ : L2.St} {H : Hp} {s : Shared} {A : Around} {E : Value → Shared → Prop} {pl : Sem Bool} {mc : Value} {q : Addr} {rest : List Value} {Q : Value × List Value → Shared → Prop} (I : Inv X pins σ H s) (r : ClX.CRead X.K C mc)
    (h1 : PySem.W.findCls X.K (.ref C) mc m = some (.get (.builtin "staticmethod.__get__") (.ref q) .none (.ref C))) (h2 : PySem.W.recIn X.K q "staticmethod" = some (.ref f :: rest)) (h : ∀ s', Inv X pins σ H s' → Q (.ref f, []) s') :
    wpAny (model X.prog X.w) A (getMethod (.ref C) m pl) Q E s :=
  PySem.W.method_cls I.kIn r.ga (PySem.W.cls_bind I.kIn r.rd h1 (wpAny_call (PySem.W.sm_get (s := { s with toks := s.toks + 1 }) I.kIn h2 (PySem.W.handed_on rfl (h _ (I.tok _))))))
theorem pe_gs {pl : Sem Bool} (G : GS X.prog X.w X.K X.mg X.base k x C m sp dvs) (hr : Rm k X.A) (tk : Takes X W) (hg : Gl X x) (ha : PA X (e :: es) t) (hdb : (x == ("__debug__" : Str)) = false := by decide)
    (hst : starEach (e :: es) X.env = (false, eval e X.env) :: starEach es X.env := by rfl) (hpl : (backTo pos (starEach es X.env)).any (·.1) = false := by rfl)
    (ht : eval (.Call (.Attribute (.Name x p2) m apos) (e :: es) [] pos) X.env = (do
      let ov ← eval (.Name x p2) X.env
      standAt apos.atName
      let (f, first) ← holding [ov] (getMethod ov m pl)
      callWith pos f first (backTo pos (starEach (e :: es) X.env)) (backToKw pos (keywordEach [] X.env))) := by rfl) :
    PE X (.Call (.Attribute (.Name x p2) m apos) (e :: es) [] pos) (tCallSD sp dvs (WE W) t) := by
  obtain ⟨mc, q, f, rest, r, h1, h2, F⟩ := G.ex
  refine ⟨fun pins s σ H Q I h => ?_⟩
  refine PySem.W.methodCall_KW (pl := pl) (ld_glob I hg G.gl ?_ hdb) ht
  refine getsm_ok I r h1 h2 fun s1 I1 => ?_
  refine PySem.W.callWith_K (first := []) (h₀ := X.base) I.ok.mod.kin F.kp (thn (ha.run pos pins s1 σ H _ I1 h) fun us s2 ⟨vs, H2, I2, r, q2⟩ => ⟨I2.kIn, ?_⟩) hst hpl
  exact run_fd F hr tk I2 r q2
/-- a static method m of the class called x, at C, called with keywords alone -/
structure GSK (P : Program) (w : World) (K : PySem.W.Frag) (mg : Str → Option Value) (base : Heap) (k : Nat) (x : Str) (C : Addr) (m : Str) (sp : Sp) (ks : List Str) (gV : List V → List V → List V) : Prop where
  gl : mg x = some (.ref C)
  ex : ∃ (mc : Value) (p f : Addr) (rest : List Value), ClX.CRead K C mc ∧ PySem.W.findCls K (.ref C) mc m = some (.get (.builtin "staticmethod.__get__") (.ref p) .none (.ref C)) ∧ PySem.W.recIn K p "staticmethod" = some (.ref f :: rest) ∧ FdK P w K mg base k f sp ks gV
def tGSK (sp : Sp) (gV : List V → List V → List V) (W : WX) (t : TA) : TE := fun σ H Q => t σ H fun zs H1 => sp (gV [] zs) H1 Q (WE W σ)
theorem pe_gsK {pl : Sem Bool} {kws : List Keyword} {ks : List Str} {gV : List V → List V → List V} (G : GSK X.prog X.w X.K X.mg X.base k x C m sp ks gV) (hr : Rm k X.A) (tk : Takes X W) (hg : Gl X x) (ha : PK X kws t) (hdb : (x == ("__debug__" : Str)) = false := by decide)
    (hall : (backToKw pos (keywordEach kws X.env)).all (·.1.isSome) = true := by rfl) (hks : (backToKw pos (keywordEach kws X.env)).filterMap (·.1) = ks := by rfl)
    (hpl : ((backTo pos (starEach [] X.env)).any (·.1) || (backToKw pos (keywordEach kws X.env)).any (·.1.isNone)) = false := by rfl)
    (ht : eval (.Call (.Attribute (.Name x p2) m apos) [] kws pos) X.env = (do
      let ov ← eval (.Name x p2) X.env
      standAt apos.atName
      let (f, first) ← holding [ov] (getMethod ov m pl)
      callWith pos f first (backTo pos (starEach [] X.env)) (backToKw pos (keywordEach kws X.env))) := by rfl) :
    PE X (.Call (.Attribute (.Name x p2) m apos) [] kws pos) (tGSK sp gV W t) := by
  obtain ⟨mc, q, f, rest, r, h1, h2, F⟩ := G.ex
  refine ⟨fun pins s σ H Q I h => ?_⟩
  refine PySem.W.methodCall_KW (pl := pl) (ld_glob I hg G.gl ?_ hdb) ht
  refine getsm_ok I r h1 h2 fun s1 I1 => ?_
  refine PySem.W.callWith_KW0 (first := []) (h₀ := X.base) I.ok.mod.kin F.kp hall (thn (ha.run pos pins s1 σ H _ I1 h) fun ws s2 ⟨zs, H2, I2, rz, q2⟩ => ⟨I2.kIn, ?_⟩) hpl
  rw [hks]
  exact run_fdK (us := []) (vs := []) F hr tk I2 .nil rz q2
end
end Pk

/-! # PkOwn -/
set_option Elab.async false
set_option linter.all false
set_option maxRecDepth 100000
set_option maxHeartbeats 4000000
namespace Pk
open PySem PySem.Spec PyProof.Rows L2

/-! ## Operators and built-ins that an own class answers: nothing is raised -/
section
variable {X : Cx} {k : Nat} {f C : Addr} {sp : Sp}
theorem passes0 : Passes (CX X.prog X.w) X E0 := fun _ _ _ _ _ _ _ ⟨_, _, _, _, _, _, _, _, _, _, _, _, z⟩ => z.elim
/-- the def at f is called in another room -/
theorem run_fdA {pins : List (Addr × Obj)} {σ : L2.St} {H : Hp} {s : Shared} {Q : VK} {us : List Value} {vs : List V} {A : Around} {R : Value → Shared → Prop} (F : Fd X.prog X.w X.K X.mg X.base k f sp []) (hr : Rm k A)
    (e0 : Env0 X.prog X.w X.K X.mg X.base A X.stack s H) (I : Inv X pins σ H s) (r : Vals vs us) (h : sp vs H Q E0) (hq : ∀ u s', EP X pins σ Q u s' → R u s') : wpAny (model X.prog X.w) A (call (.ref f) us) R X.xe s := by
  obtain ⟨fd, ps, ds, G, hb, hd⟩ := F.ex
  cases hd
  have hl : (us ++ []).length = ps.length := by rw [List.append_nil, ← r.length]; exact G.len _ _ _ _ h
  refine wpAny_call (codeAny_mono (G.run A X.stack s H ⟨us, []⟩ us vs Q E0 hr e0 (by have := hb s us I.kIn hl; rwa [List.append_nil] at this) r h) fun r s' q => ?_)
  cases r with
  | error e =>
    obtain ⟨_, _, _, _, _, _, _, _, _, _, _, _, z⟩ := q
    exact z.elim
  | ok fl =>
    cases fl with
    | ret u => exact hq u s' (I.after q)
    | next => exact False.elim q
    | brk => exact False.elim q
    | cont => exact False.elim q
/-- an instance's method m by the def at f, for an operator -/
structure OM (P : Program) (w : World) (K : PySem.W.Frag) (mg : Str → Option Value) (base : Heap) (k : Nat) (C : Addr) (m : Str) (sp : Sp) : Prop where
  ex : ∃ f, PySem.W.findIn K (.ref C) m = some (some (.ref f)) ∧ PySem.W.isFn K (.ref f) = true ∧ Fd P w K mg base k f sp []
theorem GM.om {P : Program} {w : World} {K : PySem.W.Frag} {mg : Str → Option Value} {base : Heap} {k : Nat} {C : Addr} {m : Str} {sp : Sp} (G : GM P w K mg base k C m sp []) : OM P w K mg base k C m sp :=
  let ⟨f, hm, F⟩ := G.ex
  ⟨f, hm.at_, hm.fn, F⟩
/-- x == y, x an instance of C -/
def rEqO (K : PySem.W.Frag) (C : Addr) (sp : Sp) : R2 := fun x y H Q => ∃ a dx fs t, x = .ref a ∧ H a = some (.ins C dx fs) ∧ TyX K H y t ∧ PySem.W.notFirst K C t = true ∧ sp [x, y] H Q E0
theorem op_cmpO {op : CmpOp} (hop : ∀ a b, compareOp op a b = richCompare op a b) (G : OM X.prog X.w X.K X.mg X.base k C (cmpInfo op).2.1 sp) (hr : Rm k X.A) : OpR X (compareOp op) (rEqO X.K C sp) := by
  obtain ⟨f, hs, hf, F⟩ := G.ex
  intro pins s σ H x y v u Q I rx ry h
  obtain ⟨a, dx, fs, t, rfl, ea, ty, hn, q⟩ := h
  cases (show v = Value.ref a from rx)
  obtain ⟨mA, O, _⟩ := ins_get I.hok ea
  obtain ⟨od, J, _⟩ := O.look
  obtain ⟨P, Z, p, _⟩ := kit_of I ry ty
  obtain ⟨m, hF⟩ := I.fr
  rw [hop]
  refine PySem.W.cmp_K (op := op) (tb := t) hr.r.units0 hF I.ok.mod.kin J (Z.ty _ _ I.kIn p) hn hs hf ?_
  refine run_fdA (us := [.ref a, u]) (vs := [.ref a, y]) F hr I.env0 I (.cons rfl (.cons ry .nil)) q fun w s' z => ?_
  obtain ⟨z', H', I', rz, qz⟩ := z
  exact SlX.cmpback rz ⟨z', H', I', rz, qz⟩
theorem op_eqO (G : OM X.prog X.w X.K X.mg X.base k C "__eq__" sp) (hr : Rm k X.A) : OpR X (compareOp .Eq) (rEqO X.K C sp) := op_cmpO (op := .Eq) (fun _ _ => rfl) G hr
/-- str(x), repr(x), x an instance of C -/
def rStrO (C : Addr) (sp : Sp) : List V → Hp → VK → Prop := fun xs H Q => ∃ a dx fs, xs = [.ref a] ∧ H a = some (.ins C dx fs) ∧ sp [.ref a] H (fun v H' => (∃ z, v = .str z) ∧ Q v H') E0
theorem call_strO (G : OM X.prog X.w X.K X.mg X.base k C "__str__" sp) (hr : Rm (k + 2) X.A) : CallR X (.type "str") (rStrO C sp) := by
  obtain ⟨f, hs, hf, F⟩ := G.ex
  intro pins s σ H xs us Q I r h
  obtain ⟨a, dx, fs, rfl, ea, q⟩ := h
  cases r with
  | cons ra rn =>
    cases rn
    rename_i ua
    obtain rfl : ua = Value.ref a := ra
    obtain ⟨mA, O, _⟩ := ins_get I.hok ea
    obtain ⟨od, J, _⟩ := O.look
    refine PySem.W.kso_call (hr.in1.in1.r.units0) I.kIn J hs hf ?_
    refine run_fdA (us := [.ref a]) (vs := [.ref a]) F (hr.in1.in1) I.env0.in1.in1 I (.cons rfl .nil) q fun w s' z => ?_
    obtain ⟨z', H', I', rz, ⟨y, ey⟩, qz⟩ := z
    subst ey
    obtain ⟨tk, rfl⟩ := (show ∃ t, w = Value.str y t from rz)
    exact ⟨_, H', I', rz, qz⟩
theorem call_reprO (G : OM X.prog X.w X.K X.mg X.base k C "__repr__" sp) (hr : Rm (k + 1) X.A) : CallR X (.builtin "repr") (rStrO C sp) := by
  obtain ⟨f, hs, hf, F⟩ := G.ex
  intro pins s σ H xs us Q I r h
  obtain ⟨a, dx, fs, rfl, ea, q⟩ := h
  cases r with
  | cons ra rn =>
    cases rn
    rename_i ua
    obtain rfl : ua = Value.ref a := ra
    obtain ⟨mA, O, _⟩ := ins_get I.hok ea
    obtain ⟨od, J, _⟩ := O.look
    obtain ⟨m, hF⟩ := I.fr
    refine PySem.W.repr_K (hr.in1.r.units0) hF I.ok.mod.kin J hs hf ?_
    refine run_fdA (us := [.ref a]) (vs := [.ref a]) F hr.in1 I.env0.in1 I (.cons rfl .nil) q fun w s' z => ?_
    obtain ⟨z', H', I', rz, ⟨y, ey⟩, qz⟩ := z
    subst ey
    obtain ⟨tk, rfl⟩ := (show ∃ t, w = Value.str y t from rz)
    exact ⟨_, H', I', rz, qz⟩
end
end Pk

/-! # PkRepr -/
set_option Elab.async false
set_option linter.all false
set_option maxRecDepth 100000
set_option maxHeartbeats 4000000
namespace Pk
open PySem PySem.Spec PyProof.Rows L2

/-! ## repr of plain data of any depth -/
def rReprD (K : PySem.W.Frag) : List V → Hp → VK → Prop := fun xs H Q => ∃ (x : V) (d : PyData), xs = [x] ∧ Dp K H x d ∧ d.showable = true ∧ d.hasDict = false ∧ d.depth ≤ 50 ∧ d.shown.length ≤ sizeLine ∧ Q (.str d.shown) H
theorem call_reprD {X : Cx} {k : Nat} (hr : Rm k X.A) : CallR X (.builtin "repr") (rReprD X.K) := by
  intro pins s σ H xs us Q I r h
  obtain ⟨x, d, rfl, hd, hs, hnd, hdp, hz, q⟩ := h
  cases r with
  | cons rx rn =>
    cases rn
    rename_i u
    have hu : X.A.units + (d.depth + 1) < cLine := by have := hr.r.un; omega
    have ref : ∀ {a : Addr}, u = .ref a → wpAny (model X.prog X.w) X.A (call (.builtin "repr") [u]) (EP X pins σ Q) X.xe s := fun {a} e => by
      subst e
      obtain ⟨as, rd⟩ := Dp.reads I d x _ hd rx
      exact repr_of_reads' (h₀ := s.heap) rd hs (PyData.noDict_hsm hnd) hr.g hu (fun _ _ e => e) (fun h' t tk k => ⟨.str d.shown, H, I.kept k, ⟨t, rfl⟩, q⟩) hz
    cases hd with
    | non =>
      cases (show u = Value.none from rx)
      exact PySem.P.repr_of_none ⟨.str _, H, I.tok _, ⟨_, rfl⟩, q⟩
    | bl b =>
      cases (show u = Value.bool b from rx)
      exact PySem.P.repr_of_bool ⟨.str _, H, I.tok _, ⟨_, by cases b <;> rfl⟩, q⟩
    | int i =>
      obtain ⟨t, rfl⟩ := (show ∃ t, u = Value.int i t from rx)
      exact PySem.P.repr_of_int (by simpa [PyData.showable] using hs) ⟨.str _, H, I.tok _, ⟨_, rfl⟩, q⟩
    | str y =>
      obtain ⟨t, rfl⟩ := (show ∃ t, u = Value.str y t from rx)
      exact PySem.P.repr_of_str (⟨.str _, H, I.tok _, ⟨_, rfl⟩, q⟩) hz
    | @lst a _ _ _ _ => exact ref (show u = Value.ref a from rx)
    | @tup a _ _ _ _ => exact ref (show u = Value.ref a from rx)
end Pk

/-! # PkEv -/
set_option Elab.async false
set_option linter.all false
set_option maxRecDepth 100000
set_option maxHeartbeats 4000000
namespace Pk
open PySem PyProof.Rows L2 Evl

/-! ## What readings come to (over HandS.Evl): more values, results told by a predicate -/
section
variable {K : PySem.W.Frag} {σ : L2.St} {H H' : Hp} {te ta tb tl : TE} {v x y z : V} {D : Ends} {tu tw tz : TS} {t : TT}
theorem ev_sl {a : Str} {lo hi : Option Int} {tlo thi : TO} (h : Ev te σ H (.str a)) (h1 : EvO tlo σ H lo) (h2 : EvO thi σ H hi) (hz : a.length ≤ sizeLine) : Ev (tSl C8.rSlX te tlo thi) σ H (.str (Txt.slice a lo hi)) := fun H1 e Q q =>
  h H1 e _ fun H2 e2 => h1 H2 (e.trans e2) _ fun H3 e3 => h2 H3 ((e.trans e2).trans e3) _ fun H4 e4 => ⟨a, rfl, hz, q H4 ((e2.trans e3).trans e4)⟩
theorem rc_lenS {a : Str} (hz : a.length ≤ sizeLine) : RC (fun xs H Q => ∃ z, xs = [V.str z] ∧ z.length ≤ sizeLine ∧ Q (.int z.length) H) [.str a] H (.int a.length) := fun H1 _ _ q => ⟨a, rfl, hz, q H1 (Ex.refl H1)⟩
theorem rc_lenL {p : Addr} {xs : List V} (h : SqL K H p xs ∨ SqT K H p xs) : RC (fun xs H Q => ∃ p ys, xs = [V.ref p] ∧ (SqL K H p ys ∨ SqT K H p ys) ∧ Q (.int ys.length) H) [.ref p] H (.int xs.length) := fun H1 e _ q =>
  ⟨p, xs, rfl, h.imp (ex_l e) (ex_t e), q H1 (Ex.refl H1)⟩
theorem rc_any {p : Addr} {bs : List Bool} (h : SqL K H p (bs.map V.bl)) : RC (rAny K) [.ref p] H (.bl (bs.any id)) := fun H1 e _ q => ⟨p, bs, rfl, ex_l e h, q H1 (Ex.refl H1)⟩
theorem rc_all {p : Addr} {bs : List Bool} (h : SqL K H p (bs.map V.bl)) : RC (rAll K) [.ref p] H (.bl (bs.all id)) := fun H1 e _ q => ⟨p, bs, rfl, ex_l e h, q H1 (Ex.refl H1)⟩
/-- any([..]), all([..]) of a new list -/
theorem ev_anyN {bs : List Bool} (h : EvL tl σ H (bs.map V.bl)) : Ev (tCB (rAny K) (tCons tl tNil)) σ H (.bl (bs.any id)) := fun H1 e Q q => h H1 e _ fun p H2 _ e2 hp => ⟨p, bs, rfl, sq_of hp, q H2 e2⟩
theorem ev_allN {bs : List Bool} (h : EvL tl σ H (bs.map V.bl)) : Ev (tCB (rAll K) (tCons tl tNil)) σ H (.bl (bs.all id)) := fun H1 e Q q => h H1 e _ fun p H2 _ e2 hp => ⟨p, bs, rfl, sq_of hp, q H2 e2⟩
theorem rc_intS {a : Str} {n : Int} (h : intText? a = some n) (hz : a.length ≤ 640) : RC (fun xs H Q => ∃ a n, xs = [V.str a] ∧ intText? a = some n ∧ a.length ≤ 640 ∧ Q (.int n) H) [.str a] H (.int n) := fun H1 _ _ q => ⟨a, n, rfl, h, hz, q H1 (Ex.refl H1)⟩
theorem rc_strI {n : Int} (h : n.natAbs.log2 < 1920) : RC (fun xs H Q => ∃ i : Int, xs = [V.int i] ∧ i.natAbs.log2 < 1920 ∧ Q (.str (toString i)) H) [.int n] H (.str (toString n)) := fun H1 _ _ q => ⟨n, rfl, h, q H1 (Ex.refl H1)⟩
theorem rc_int1 {n : Int} : RC (fun xs H Q => (∃ i, xs = [V.int i] ∧ Q (.int i) H) ∨ ∃ k : Bool, xs = [V.bl k] ∧ Q (.int (if k then 1 else 0)) H) [.int n] H (.int n) := fun H1 _ _ q => .inl ⟨n, rfl, q H1 (Ex.refl H1)⟩
theorem rc_abs {n : Int} : RC (fun xs H Q => ∃ i : Int, xs = [V.int i] ∧ Q (.int (if i < 0 then -i else i)) H) [.int n] H (.int (if n < 0 then -n else n)) := fun H1 _ _ q => ⟨n, rfl, q H1 (Ex.refl H1)⟩
theorem rc_gcd {a b : Int} : RC rGcd [.int a, .int b] H (.int ((Nat.gcd a.natAbs b.natAbs : Nat) : Int)) := fun H1 _ _ q => ⟨a, b, rfl, q H1 (Ex.refl H1)⟩
theorem rc_isi {c : V} {tv u : Value} {b : Bool} (hc : ClsV c u) (ht : ∀ H1, Ex H H1 → TyX K H1 x tv) (hk : PySem.W.kitOne K tv u = some b) : RC (rIsi K) [x, c] H (.bl b) := fun H1 e _ q => ⟨x, c, tv, u, b, rfl, hc, ht H1 e, hk, q H1 (Ex.refl H1)⟩
theorem rv_inS {c : Nat} {w : Str} : RV (fun x y H Q => ∃ (c : Nat) (z : Str), x = .str ⟨#[c]⟩ ∧ y = .str z ∧ Q (.bl (decide (c ∈ z.cps.toList))) H) (.str ⟨#[c]⟩) (.str w) H (.bl (decide (c ∈ w.cps.toList))) := fun H1 _ _ q => ⟨c, w, rfl, rfl, q H1 (Ex.refl H1)⟩
theorem rv_niS {c : Nat} {w : Str} : RV (fun x y H Q => ∃ (c : Nat) (z : Str), x = .str ⟨#[c]⟩ ∧ y = .str z ∧ Q (.bl (!decide (c ∈ z.cps.toList))) H) (.str ⟨#[c]⟩) (.str w) H (.bl (!decide (c ∈ w.cps.toList))) := fun H1 _ _ q => ⟨c, w, rfl, rfl, q H1 (Ex.refl H1)⟩
theorem rv_isN : RV (fun x y H Q => y = .non ∧ Q (.bl (decide (x = .non))) H) x .non H (.bl (decide (x = .non))) := fun H1 _ _ q => ⟨rfl, q H1 (Ex.refl H1)⟩
theorem rv_notN : RV (fun x y H Q => y = .non ∧ Q (.bl (!decide (x = .non))) H) x .non H (.bl (!decide (x = .non))) := fun H1 _ _ q => ⟨rfl, q H1 (Ex.refl H1)⟩
theorem rv_addS {a b : Str} (hz : a.length + b.length ≤ sizeLine) : RV (fun x y H Q => ∃ i j, x = .str i ∧ y = .str j ∧ i.length + j.length ≤ sizeLine ∧ Q (.str (i ++ j)) H) (.str a) (.str b) H (.str (a ++ b)) := fun H1 _ _ q => ⟨a, b, rfl, rfl, hz, q H1 (Ex.refl H1)⟩
theorem ev_fld {a C dx : Addr} {fs : List (Str × V)} {f : Str} (h : Ev ta σ H (.ref a)) (ho : H a = some (.ins C dx fs)) (hc : Cls K C) (hn : NoAttr K C f) (hl : fs.lookup f = some v) : Ev (tFld K ta f) σ H v := fun H1 e Q q =>
  h H1 e _ fun H2 e2 => ⟨a, C, dx, fs, v, rfl, e2 _ _ (e _ _ ho), hc, hn, hl, q H2 e2⟩
/-- a call of one's own def whose value is z -/
theorem ev_gf {sp : Sp} {dvs vs : List V} {E : L2.St → XK} {tA : TA} (h : EvA tA σ H vs) (hs : SpV sp (vs ++ dvs) H z) : Ev (tCallSD sp dvs E tA) σ H z := fun H1 e Q q =>
  h H1 e _ fun H2 e2 => hs H2 (e.trans e2) Q (fun H3 e3 => q H3 (e2.trans e3)) (E σ)
/-- a comprehension over a text -/
theorem el_lcS {a : Str} {j : Nat} {vs : List Nat} (f : Nat → Bool) (g : Nat → V) (h : Ev tl σ H (.str a)) (hz : a.cps.size ≤ 40000) (hw : ∀ x, wipe ((wipe σ vs).set j (some x)) vs = wipe σ vs)
    (ht : ∀ (i c : Nat) H1, Ex H H1 → a.cps[i]? = some c → EvT t ((wipe σ vs).set j (some (.str ⟨#[c]⟩))) H1 (f i)) (he : ∀ (i c : Nat) H1, Ex H H1 → a.cps[i]? = some c → f i = true → Ev te ((wipe σ vs).set j (some (.str ⟨#[c]⟩))) H1 (g i)) :
    EvL (tLc (iStr tl) (gName j) t te vs) σ H (given a.cps.size f g) := fun H0 e Q q => h H0 e _ fun H1 e1 => ⟨a, rfl, fun Dl hD =>
  lc_it (n := a.cps.size) walk_str (Cw H1 f g Dl) ⟨hD, Ex.new hD, upd_same⟩ (fun _ _ _ _ => True.intro) (fun i x H2 H3 hi p hy => by
    obtain ⟨rfl, c, hc, rfl⟩ := hy
    exact ⟨hw _, cw_turn p (by omega) (ht i c H1 (e.trans e1) hc) (fun hf => he i c H1 (e.trans e1) hc hf)⟩)
    (fun H' p => q Dl H' (fresh_back e1 p.1) (e1.trans p.2.1) p.2.2)⟩
theorem given_all {n : Nat} {g : Nat → V} : given n (fun _ => true) g = (List.range n).map g := by
  unfold given
  rw [List.filter_eq_self.mpr (fun _ _ => rfl)]
theorem range_map {l : List Nat} {g : Nat → V} : (List.range l.length).map (fun i => g (l.getD i 0)) = l.map g := by
  apply List.ext_getElem
  · simp
  · intro i h1 h2
    simp at h1 h2
    simp [List.getD_eq_getElem?_getD, h1]
/-- .. [g(c) for c in text] -/
theorem el_lcS1 {l : List Nat} {j : Nat} {vs : List Nat} (g : Nat → V) (h : Ev tl σ H (.str (SX.S l))) (hz : l.length ≤ 40000) (hw : ∀ x, wipe ((wipe σ vs).set j (some x)) vs = wipe σ vs)
    (he : ∀ (c : Nat) H1, Ex H H1 → c ∈ l → Ev te ((wipe σ vs).set j (some (.str (SX.S [c])))) H1 (g c)) : EvL (tLc (iStr tl) (gName j) tYes te vs) σ H (l.map g) := by
  have hsz : (SX.S l).cps.size = l.length := by simp [SX.S]
  have e0 := el_lcS (te := te) (t := tYes) (a := SX.S l) (j := j) (vs := vs) (fun _ => true) (fun i => g (l.getD i 0)) h (by rw [hsz]; exact hz) hw (fun i c H1 _ _ H2 _ Q q => q H2 (Ex.refl H2)) (fun i c H1 e hc _ => by
    have hc' : l[i]? = some c := by simpa [SX.S] using hc
    have e1 : l.getD i 0 = c := by rw [List.getD_eq_getElem?_getD, hc']; rfl
    show Ev te _ H1 (g (l.getD i 0))
    rw [e1]
    exact he c H1 e (List.mem_of_getElem? hc'))
  rw [given_all, hsz, range_map] at e0
  exact e0

/-! ### results told by a predicate -/
def EvP (te : TE) (σ : L2.St) (H : Hp) (P : V → Hp → Prop) : Prop := ∀ H1, Ex H H1 → ∀ Q : VK, (∀ v H2, Ex H1 H2 → P v H2 → Q v H2) → te σ H1 Q
def SpP (sp : Sp) (vs : List V) (H : Hp) (P : V → Hp → Prop) : Prop := ∀ H1, Ex H H1 → ∀ Q : VK, (∀ v H2, Ex H1 H2 → P v H2 → Q v H2) → ∀ E : XK, sp vs H1 Q E
variable {P : V → Hp → Prop}
theorem ep_gf {sp : Sp} {dvs vs : List V} {E : L2.St → XK} {tA : TA} (h : EvA tA σ H vs) (hs : SpP sp (vs ++ dvs) H P) : EvP (tCallSD sp dvs E tA) σ H P := fun H1 e Q q =>
  h H1 e _ fun H2 e2 => hs H2 (e.trans e2) Q (fun v H3 e3 p => q v H3 (e2.trans e3) p) (E σ)
theorem Ev.ep (h : Ev te σ H v) : EvP te σ H (fun x _ => x = v) := fun H1 e Q q => h H1 e Q fun H2 e2 => q v H2 e2 rfl
theorem ep_if {b : Bool} (h : EvT t σ H b) (h1 : b = true → EvP ta σ H P) (h2 : b = false → EvP tb σ H P) : EvP (tIf t ta tb) σ H P := fun H1 e Q q => h H1 e _ fun H2 e2 => by
  cases b with
  | true => exact iteT (h1 rfl H2 (e.trans e2) Q fun v H3 e3 p => q v H3 (e2.trans e3) p)
  | false => exact iteF (h2 rfl H2 (e.trans e2) Q fun v H3 e3 p => q v H3 (e2.trans e3) p)
theorem q_asgP {i : Nat} (h : EvP te σ H P) (k : ∀ v H1, Ex H H1 → P v H1 → tz D (σ.set i (some v)) H1) : tSeq (tAsg te (gName i)) tz D σ H := h H (Ex.refl H) _ fun v H1 e p => k v H1 e p
theorem s_retP (h : EvP te σ H P) (k : ∀ v H1, Ex H H1 → P v H1 → D.rt v H1) : tRet te D σ H := h H (Ex.refl H) _ k
end
theorem same_ex {H H' : Hp} : Same H H' ↔ Ex H H' := Iff.rfl
end Pk

/-! # PkEv2 -/
set_option Elab.async false
set_option linter.all false
set_option maxRecDepth 100000
set_option maxHeartbeats 4000000
namespace Pk
open PySem PyProof.Rows L2 Evl

/-! ## more readings: raises, fields, splits, negative divisors -/
/-- an error of the class C with these fields (last stored first) leaves -/
def Raises (C : Addr) (F : List (Str × V)) (H : Hp) (E : XK) : Prop := ∀ d H', Ex H H' → H d = none → H' d = some (.xd F) → E (.ref C) (some d) H'
theorem Raises.mono {C : Addr} {F : List (Str × V)} {H H1 : Hp} {E : XK} (h : Raises C F H E) (e : Ex H H1) : Raises C F H1 E := fun d H' e1 n q => h d H' (e.trans e1) (fresh_back e n) q
section
variable {K : PySem.W.Frag} {σ : L2.St} {H H' : Hp} {te ta tb tl : TE} {v x y z : V} {D : Ends} {tu tw tz : TS} {t : TT}
theorem s_raiseX {C : Addr} {fs : List Str} {vs : List V} {E : XK} {tA : TA} (h : EvA tA σ H vs) (hl : vs.length = fs.length) (k : Raises C (fs.zip vs).reverse H E) : tRaiseX C fs (fun cls d _ H => E cls d H) tA D σ H :=
  h H (Ex.refl H) _ fun H1 e1 => ⟨hl, fun d hd => k d _ (e1.trans (Ex.new hd)) (fresh_back e1 hd) upd_same⟩
/-- self.f = e -/
theorem q_fld {a C dx : Addr} {fs : List (Str × V)} {f : Str} (hv : Ev te σ H y) (h : Ev ta σ H (.ref a)) (ho : H a = some (.ins C dx fs)) (hc : Cls K C) (hn : NoAttr K C f) (hl : fs.length < 1000) (k : ∀ H1, Ex H H1 → tz D σ (upd H1 a (.ins C dx (putF f y fs)))) :
    tSeq (sFld K ta te f) tz D σ H := hv H (Ex.refl H) _ fun H1 e1 => h H1 e1 _ fun H2 e2 => ⟨a, C, dx, fs, rfl, (e1.trans e2) _ _ ho, hc, hn, hl, k H2 (e1.trans e2)⟩
theorem s_fld {a C dx : Addr} {fs : List (Str × V)} {f : Str} (hv : Ev te σ H y) (h : Ev ta σ H (.ref a)) (ho : H a = some (.ins C dx fs)) (hc : Cls K C) (hn : NoAttr K C f) (hl : fs.length < 1000) (k : ∀ H1, Ex H H1 → D.nx σ (upd H1 a (.ins C dx (putF f y fs)))) :
    sFld K ta te f D σ H := hv H (Ex.refl H) _ fun H1 e1 => h H1 e1 _ fun H2 e2 => ⟨a, C, dx, fs, rfl, (e1.trans e2) _ _ ho, hc, hn, hl, k H2 (e1.trans e2)⟩
theorem q_fldU {a C dx : Addr} {fs : List (Str × V)} {f : Str} {xs : List V} (hv : EvU te σ H xs) (h : Ev ta σ H (.ref a)) (ho : H a = some (.ins C dx fs)) (hc : Cls K C) (hn : NoAttr K C f) (hl : fs.length < 1000) (k : ∀ p H1, H p = none → Ex H H1 → H1 p = some (.tup xs) → tz D σ (upd H1 a (.ins C dx (putF f (.ref p) fs)))) :
    tSeq (sFld K ta te f) tz D σ H := hv H (Ex.refl H) _ fun p H1 hp e1 hq => h H1 e1 _ fun H2 e2 => ⟨a, C, dx, fs, rfl, (e1.trans e2) _ _ ho, hc, hn, hl, k p H2 hp (e1.trans e2) (e2 _ _ hq)⟩
/-- text.split(sep) -/
theorem el_split {a b : List Nat} (h : Ev ta σ H (.str (SX.S a))) (h2 : Ev tb σ H (.str (SX.S b))) (hb : b ≠ []) (hk : b.all (· < 256) = true) (hz : a.length ≤ 100000) :
    EvL (tM1 (fun x xs H Q => ∃ a b, x = .str a ∧ xs = [.str b] ∧ (b.length == 0) = false ∧ a.length + 2 ≤ sizeLine ∧ rNewStrs (Txt.split a b) H Q) ta tb) σ H ((TL.spl b 0 [] a).map fun w => V.str (SX.S w)) := fun H1 e Q q =>
  h H1 e _ fun H2 e2 => ⟨⟨_, rfl⟩, h2 H2 (e.trans e2) _ fun H3 e3 => ⟨SX.S a, SX.S b, rfl, rfl, by
    rw [SX.S_len]
    cases b with
    | nil => exact absurd rfl hb
    | cons _ _ => rfl, by
    rw [SX.S_len]
    have : 100002 ≤ sizeLine := by decide
    omega, fun p hp => by
    have := q p (upd H3 p (.lst ((TL.spl b 0 [] a).map fun w => V.str (SX.S w)))) (fresh_back (e2.trans e3) hp) ((e2.trans e3).trans (Ex.new hp)) upd_same
    rw [SX.split_S hb hk, List.map_map]
    exact this⟩⟩
/-- tuple(new list) -/
theorem eu_tuple {xs : List V} (h : EvL ta σ H xs) : EvU (tCB (fun xs H Q => ∃ p ys, xs = [V.ref p] ∧ ((SqL K H p ys ∧ ∀ l, H l = none → Q (.ref l) (upd H l (.tup ys))) ∨ (SqT K H p ys ∧ Q (.ref p) H))) (tCons ta tNil)) σ H xs := fun H1 e Q q =>
  h H1 e _ fun p H2 hp e2 h2 => ⟨p, xs, rfl, .inl ⟨sq_of h2, fun l hl => q l _ (fresh_back e2 hl) (e2.trans (Ex.new hl)) upd_same⟩⟩
end
/-- // by any divisor but 0 within 2 ^ 9000 -/
def CDivNW (_ j : Int) : Prop := j ≠ 0 ∧ j.natAbs.log2 < 9000
theorem op_fdivNW {X : Cx} : OpR X (binaryOp .FloorDiv) (rI CDivNW fun i j => .int (i.fdiv j)) := opI fun _ _ _ _ _ _ _ hc q => floordiv_int hc.1 q (.inl (PyProof.noPylong_of_log2 hc.2))
end Pk

/-! # PkEnd -/
set_option Elab.async false
set_option linter.all false
set_option maxRecDepth 100000
set_option maxHeartbeats 4000000
namespace Pk
open PySem PySem.W PyProof.Rows L2
/-! ## What the top has written: facts that k_is finds, made into the structures of the walks -/
section
variable {P : Program} {w : World} {K : Frag} {mg : Str → Option Value} {base : Heap} {k : Nat} {f C D : Addr} {fd : FuncData} {x qual : Str} {st : Stmt} {ps : List Str} {sp : Sp}
theorem exm_of {cls C : Addr} {b : Bool} (h1 : subIn K (.ref C) (.type "BaseException") = some true) (h2 : isClsIn K C = true) (h3 : typeIn K (.ref C) = some (.type "type")) (h4 : subIn K (.ref cls) (.ref C) = some b) : exmOne K (.ref cls) (.ref C) = some b := by
  have e1 : (subIn K (.ref C) (.type "BaseException") == some true) = true := by rw [h1] <;> rfl
  have e2 : ((clsIn K C).isSome && typeIn K (.ref C) == some (.type "type")) = true := by
    have h2' : (clsIn K C).isSome = true := h2
    rw [h2', h3] <;> rfl
  show (if (subIn K (.ref C) (.type "BaseException") == some true) = true then (if ((clsIn K C).isSome && typeIn K (.ref C) == some (.type "type")) = true then subIn K (.ref cls) (.ref C) else none) else none) = some b
  rw [if_pos e1, if_pos e2]
  exact h4
theorem kit_of_sub {T : String} {b : Bool} (hm : kitMeta T = true) (h : subIn K (.ref C) (.type T) = some b) : kitOne K (.ref C) (.type T) = some b := by
  show (if (Value.ref C == Value.type T) = true then some true else (if kitMeta T = true then subIn K (.ref C) (.type T) else none)) = some b
  rw [if_neg (by intro z; exact absurd (eq_of_beq z) (by simp)), if_pos hm]
  exact h
theorem kit_of_ref {t : Value} {b : Bool} (h2 : isClsIn K C = true) (h3 : typeIn K (.ref C) = some (.type "type")) (hne : (t == .ref C) = false) (h : subIn K t (.ref C) = some b) : kitOne K t (.ref C) = some b := by
  have e2 : ((clsIn K C).isSome && typeIn K (.ref C) == some (.type "type")) = true := by
    have h2' : (clsIn K C).isSome = true := h2
    rw [h2', h3] <;> rfl
  show (if (t == .ref C) = true then some true else (if ((clsIn K C).isSome && typeIn K (.ref C) == some (.type "type")) = true then subIn K t (.ref C) else none)) = some b
  rw [if_neg (by rw [hne]; decide), if_pos e2]
  exact h
theorem along_of {cd : ClassData} {n : Str} {r : Option Value} (h : clsIn K C = some cd) (e : findIn K (.ref C) n = some r) : alongIn K n cd.mro = some r := by
  unfold clsIn at h
  split at h
  · rename_i q
    cases h
    have e' : (match K.lookup C with
      | some ⟨_, _, .cls cd, _⟩ => alongIn K n cd.mro
      | _ => none) = some r := e
    rw [q] at e'
    exact e'
  · cases h
/-- super().m of C, seen from D = C: what the class B next behind it has -/
theorem sup_of {B : Addr} {cd cb : ClassData} {n : Str} {r : Option Value} (h : clsIn K C = some cd) (hb : clsIn K B = some cb) (hm : (cd.mro.dropWhile (· != .ref D)).drop 1 = cb.mro) (e : findIn K (.ref B) n = some r) : ks_superIn K C D n = some r := by
  unfold ks_superIn
  rw [h]
  show alongIn K n ((cd.mro.dropWhile (· != .ref D)).drop 1) = some r
  rw [hm]
  exact along_of hb e
/-- f(..) without defaults -/
theorem fd_all (F : FnG P w K mg base k f fd ps sp) (hb : Binds K fd ps []) (kp : keepIn K (.ref f) = true) : Fd P w K mg base k f sp [] := ⟨⟨fd, ps, [], F, hb, .nil⟩, kp⟩
theorem fd_dfl {dvs : List V} (F : FnG P w K mg base k f fd ps sp) (hb : ∃ ds, Vals dvs ds ∧ Binds K fd ps ds) (kp : keepIn K (.ref f) = true) : Fd P w K mg base k f sp dvs :=
  let ⟨ds, r, b⟩ := hb
  ⟨⟨fd, ps, ds, F, b, r⟩, kp⟩
/-- a def with defaults: its tuple at T -/
theorem funD_mk {oc : Value} {od an : Option Addr} {osl : Array (Option Value)} {kV doc pm cdv ct : Value} {T : Addr} {o : Obj} {its : List Value} {n : Nat} {dvs : List V} (l : K.lookup f = some ⟨oc, od, .func (fnOf x qual (defArgs st) (defBody st) (defScope st) (.ref T) kV doc pm an cdv ct), osl⟩)
    (c : codeIn K cdv qual = true) (kp : keepIn K (.ref f) = true) (lT : K.lookup T = some o) (oT : o.data = .seq its.toArray n) (hd : dvs ≠ []) (r : Vals dvs its) :
    FunD K x qual (defArgs st) (defBody st) (defScope st) dvs [] f (fnOf x qual (defArgs st) (defBody st) (defScope st) (.ref T) kV doc pm an cdv ct) :=
  ⟨⟨oc, od, .ref T, kV, doc, pm, an, cdv, ct, osl, rfl, l, c, .inr ⟨hd, T, o, its, n, rfl, lT, oT, r⟩, .inl rfl⟩, kp⟩
theorem funX_mk {oc : Value} {od an : Option Addr} {osl : Array (Option Value)} {dV kV doc pm cdv ct : Value} (l : K.lookup f = some ⟨oc, od, .func (fnOf x qual (defArgs st) (defBody st) (defScope st) dV kV doc pm an cdv ct), osl⟩)
    (c : codeIn K cdv qual = true) (kp : keepIn K (.ref f) = true) : FunX K x qual st f (fnOf x qual (defArgs st) (defBody st) (defScope st) dV kV doc pm an cdv ct) := ⟨⟨oc, od, dV, kV, doc, pm, an, cdv, ct, osl, rfl, l, c⟩, kp⟩
end
end Pk

/-! # K02a -/
set_option Elab.async false
set_option linter.all false
set_option maxRecDepth 100000
set_option maxHeartbeats 4000000
namespace K2
open PySem PyProof.Rows L2 Pk Evl
def top (i : Nat) : Stmt := PySem.Challenge.pw_peekproof_k02_texts_of_ratios_bent.main.body.getD i (.Pass ⟨0, 0, 0, 0⟩)

/-! ### plain functions -/
def isDig (c : Nat) : Bool := decide (48 ≤ c) && decide (c ≤ 57)
def plainOf (l : List Nat) : List Nat := if l.take 1 = [45] then l.drop 1 else l
def numIn (l : List Nat) : Option Int :=
  if plainOf l = [] ∨ 60 < (plainOf l).length ∨ (plainOf l).any (fun c => !isDig c) = true then none
  else if (plainOf l).take 1 = [48] ∧ l ≠ [48] then none
  else some (if l.take 1 = [45] then -((NumText.digitsVal (plainOf l) : Nat) : Int) else ((NumText.digitsVal (plainOf l) : Nat) : Int))
def numV : Option Int → V
  | none => .non
  | some n => .int n

/-- the built-ins that the text calls stand as they are -/
structure Bi (mg : Str → Option Value) : Prop where
  len : mg "len" = none
  isinstance : mg "isinstance" = none
  int : mg "int" = none
  bool : mg "bool" = none
  str : mg "str" = none
  any : mg "any" = none
  tuple : mg "tuple" = none
  repr : mg "repr" = none
  abs : mg "abs" = none
  range : mg "range" = none
  list : mg "list" = none
/-- the module's constants -/
structure Gl0 (mg : Str → Option Value) : Prop where
  LONGEST : ∃ u, mg "LONGEST" = some u ∧ RelV (.int 60) u
  FIGURES : ∃ u, mg "FIGURES" = some u ∧ RelV (.str "0123456789") u
  gcd : mg "gcd" = some (.builtin "math.gcd")

theorem strEq (a b : List Nat) : decide (V.str (SX.S a) = V.str (SX.S b)) = decide (a = b) := by
  by_cases h : a = b
  · subst h; simp
  · rw [decide_eq_false h, decide_eq_false]
    intro e
    exact h (SX.S_inj (V.str.inj e))
theorem strLit {a : List Nat} {z : Str} (b : List Nat) (hz : z = SX.S b) : decide (V.str (SX.S a) = V.str z) = decide (a = b) := by rw [hz, strEq]
theorem strLitN {a : List Nat} {z : Str} (b : List Nat) (hz : z = SX.S b) : (!decide (V.str (SX.S a) = V.str z)) = decide (a ≠ b) := by rw [strLit b hz, decide_not]
theorem allDig {l : List Nat} (h : ¬ (l.any (fun c => !isDig c) = true)) : NumText.AllDigits l := by
  intro c hc
  have : isDig c = true := by
    cases e : isDig c with
    | true => rfl
    | false => exact absurd (List.any_eq_true.mpr ⟨c, hc, by rw [e]; rfl⟩) h
  simpa [isDig] using this
theorem plain_neg {l : List Nat} (h : l.take 1 = [45]) : l = 45 :: plainOf l := by
  unfold plainOf
  rw [if_pos h]
  cases l with
  | nil => simp at h
  | cons a r => simp at h ⊢; exact h
theorem plain_pos {l : List Nat} (h : l.take 1 ≠ [45]) : plainOf l = l := by
  unfold plainOf
  rw [if_neg h]
theorem num_text {l : List Nat} (h0 : plainOf l ≠ []) (h1 : ¬ 60 < (plainOf l).length) (h2 : ¬ ((plainOf l).any (fun c => !isDig c) = true)) :
    intText? (SX.S l) = some (if l.take 1 = [45] then -((NumText.digitsVal (plainOf l) : Nat) : Int) else ((NumText.digitsVal (plainOf l) : Nat) : Int)) ∧ l.length ≤ 61 := by
  have hd := allDig h2
  by_cases h : l.take 1 = [45]
  · rw [if_pos h]
    have e := plain_neg h
    have hl : l.length ≤ 61 := by rw [e]; simp only [List.length_cons]; omega
    exact ⟨intText_neg (cs := plainOf l) e hd h0 (by rw [SX.S_len]; omega), hl⟩
  · rw [if_neg h]
    have e := plain_pos h
    rw [e] at h0 h1 hd ⊢
    exact ⟨intText_digits (x := SX.S l) hd h0 (by rw [SX.S_len]; omega), by omega⟩
theorem figs (c : Nat) : decide (c ∈ (Str.ofString "0123456789").cps.toList) = isDig c := by
  have e : (Str.ofString "0123456789").cps.toList = [48, 49, 50, 51, 52, 53, 54, 55, 56, 57] := by decide +kernel
  rw [e, isDig, Bool.eq_iff_iff]
  simp
  omega
section
variable {P : Program} {w : World} {K : PySem.W.Frag} {mg : Str → Option Value} {base : Heap}
def spNum : Sp := fun vs H Q _ => ∃ l : List Nat, vs = [.str (SX.S l)] ∧ l.length ≤ 100000 ∧ ∀ H', Same H H' → Q (numV (numIn l)) H'
abbrev s_num : Stmt := top 11
theorem sc_num : FnScope ["word", "plain", "sign"] ["word"] (defScope s_num) := ⟨rfl, rfl, rfl, by decide +kernel, rfl, by decide +kernel, by decide +kernel⟩
theorem ok_num {f : Addr} {fd : FuncData} (F : Fun K "number_in" "number_in" s_num f fd) (B : Bi mg) (T : Gl0 mg) : FnG P w K mg base 1 f fd ["word"] spNum := by
  refine okG F sc_num (fun vs H Q E h => ?_) (fun cdv A outer s H vs Q E hr h => ?_)
  · obtain ⟨l, rfl, _⟩ := h
    rfl
  · obtain ⟨l, rfl, hl, k⟩ := h
    have nd := sc_num.nd
    refine ⟨_, (pss_cons (ps_set (i := 1) nd rfl (Or.inl rfl) (pe_ifExp (pt_cmpR op_eq (pe_slice C8.sl_txt (pv 0) po_none (po_some pe_int)) pe_str (nomark _)) (pe_slice C8.sl_txt (pv 0) (po_some pe_int) po_none) (pv 0)))
      (pss_cons (ps_if (PW.pt (pw_or (pt_cmpR op_eq (pv 1) pe_str (nomark _)) (pw_or (pt_cmpR op_gt (pe_callB call_len_str (by rfl) B.len Boot.«len» (pa_cons (pv 1) pa_nil)) (C8.pe_gc (by rfl) T.LONGEST) (nomark _)) (pw_or1 (pt_val (pe_callB (cr_any rfl) (by rfl) B.any Boot.«any» (pa_cons (pe_lc (own := [("sign", 2)]) rfl nd (pi_str (pv 1)) (blkOk_by (N := ["word", "plain", "sign"]) (sc := defScope s_num) (by decide +kernel)) (fun _ _ _ _ _ => (pg_name (i := 2) nd rfl (Or.inl rfl))) (fun _ _ _ _ _ => pts_nil) (fun _ _ _ _ _ => (pe_cmpR op_notIn_sign (pv 2) (C8.pe_gc (by rfl) T.FIGURES) rfl))) pa_nil)))))))
        (pss_one (ps_ret pe_non))
        pss_nil)
      (pss_cons (ps_if (PW.pt (pw_and (pt_cmpR op_eq (pe_ix ix_str (pv 1) pe_int (fun _ _ => rfl)) pe_str (nomark _)) (pw_and1 (pt_cmpR op_ne (pv 0) pe_str (nomark _)))))
        (pss_one (ps_ret pe_non))
        pss_nil)
      (pss_one (ps_ret (pe_callTy call_int_str (by rfl) B.int Boot.«int» (pa_cons (pv 0) pa_nil))))))), ?_⟩
    have hz : (SX.S l).length ≤ sizeLine := by rw [SX.S_len]; exact sz_of hl
    have hpl : (plainOf l).length ≤ 100000 := by
      unfold plainOf
      split
      · rw [List.length_drop]; omega
      · exact hl
    have hz2 : (SX.S (plainOf l)).length ≤ sizeLine := by rw [SX.S_len]; exact sz_of hpl
    refine q_asg (v := .str (SX.S (plainOf l))) (ev_if (b := decide (l.take 1 = [45])) (et_is (et_test (ev_op (ev_sl (ev_var rfl) eo_none (eo_some ev_c) hz) ev_c (rv_eq rfl))) ?_) (fun hb => ev_is (ev_sl (ev_var rfl) (eo_some ev_c) eo_none hz) ?_) (fun hb => ev_is (ev_var rfl) ?_)) fun H1 e1 => ?_
    · rw [SX.slice_to (by decide)]
      exact strEq _ [45]
    · rw [SX.slice_from (by decide), plainOf, if_pos (of_decide_eq_true hb)]
      rfl
    · rw [plainOf, if_neg (of_decide_eq_false hb)]
    refine q_when (b := decide (plainOf l = [] ∨ 60 < (plainOf l).length ∨ (plainOf l).any (fun c => !isDig c) = true)) (et_is (et_or (et_test (ev_op (ev_var rfl) ev_c (rv_eq rfl))) fun _ => et_or (et_test (ev_op (ev_cb (ea_cons (ev_var rfl) ea_nil) (rc_lenS hz2)) ev_c rv_I0)) fun hs => et_B (ev_anyN (bs := (plainOf l).map fun c => !isDig c) ?_)) ?_) (fun hb H2 e2 => ?_) (fun hb H2 e2 => ?_)
    · rw [List.map_map]
      have h60 : (plainOf l).length ≤ 40000 := by
        rw [SX.S_len] at hs
        have := of_decide_eq_false hs
        omega
      refine el_lcS1 _ (ev_var rfl) h60 (fun _ => rfl) fun c H2 e2 hc => ?_
      exact ev_is (ev_op (ev_var rfl) ev_c rv_niS) (by rw [figs]; rfl)
    · rw [SX.S_len, strLit (z := Str.ofString "") [] rfl, Bool.eq_iff_iff, List.any_map]
      simp only [Bool.or_eq_true, decide_eq_true_eq, Function.comp_def, id]
      have e : (60 < ((plainOf l).length : Int)) ↔ 60 < (plainOf l).length := by omega
      rw [e]
    · have e : numIn l = none := by unfold numIn; rw [if_pos (of_decide_eq_true hb)]
      rw [e] at k
      exact k H2 (e1.trans e2)
    have hg := of_decide_eq_false hb
    have h0 : plainOf l ≠ [] := fun z => hg (.inl z)
    have h1 : ¬ 60 < (plainOf l).length := fun z => hg (.inr (.inl z))
    have h2 : ¬ ((plainOf l).any (fun c => !isDig c) = true) := fun z => hg (.inr (.inr z))
    obtain ⟨c0, r0, ec⟩ := List.exists_cons_of_ne_nil h0
    refine q_when (b := decide ((plainOf l).take 1 = [48] ∧ l ≠ [48])) (et_is (et_and (et_test (ev_op (ev_op (ev_var rfl) ev_c (rv_ixS (c := c0) (by rw [SX.S_len]; exact hpl) ?_)) ev_c (rv_eq rfl))) fun _ => et_test (ev_op (ev_var rfl) ev_c (rv_ne rfl))) ?_) (fun hb2 H3 e3 => ?_) (fun hb2 H3 e3 => ?_)
    · show atI (plainOf l) 0 = some c0
      rw [ec]
      exact atI_nat (j := 0) rfl
    · rw [strLitN (z := Str.ofString "0") [48] rfl, show (V.str ⟨#[c0]⟩ : V) = V.str (SX.S [c0]) from rfl, strLit (z := Str.ofString "0") [48] rfl, ec, Bool.eq_iff_iff]
      simp
    · have e : numIn l = none := by unfold numIn; rw [if_neg hg, if_pos (of_decide_eq_true hb2)]
      rw [e] at k
      exact k H3 ((e1.trans e2).trans e3)
    have hg2 := of_decide_eq_false hb2
    obtain ⟨hn, hl61⟩ := num_text h0 h1 h2
    refine s_ret (ev_cb (ea_cons (ev_var rfl) ea_nil) (rc_intS hn (by rw [SX.S_len]; omega))) fun H4 e4 => ?_
    have e : numIn l = some (if l.take 1 = [45] then -((NumText.digitsVal (plainOf l) : Nat) : Int) else ((NumText.digitsVal (plainOf l) : Nat) : Int)) := by unfold numIn; rw [if_neg hg, if_neg hg2]
    rw [e] at k
    exact k H4 (((e1.trans e2).trans e3).trans e4)
end
end K2

/-! # K02b -/
set_option Elab.async false
set_option linter.all false
set_option maxRecDepth 100000
set_option maxHeartbeats 4000000
namespace K2
open PySem PyProof.Rows L2 Pk Evl
/-- a class of the text whose objects isinstance knows -/
structure TyC (K : PySem.W.Frag) (C : Addr) : Prop where
  cl : Cls K C
  ha : PySem.W.findIn K (.ref C) "__class__" = some (some (.builtin "object.__class__"))
  hn : PySem.W.specialIn K (.builtin "object.__class__") "__get__" = some (some (.builtin "getset_descriptor.__get__"))
  htk : PySem.W.takesIn K (.builtin "object.__class__") = some true
  hm : PySem.W.mroIn K C (.type "object") = some true
theorem TyC.ty {K : PySem.W.Frag} {C a dx : Addr} {H : Hp} {fs : List (Str × V)} (T : TyC K C) (e : H a = some (.ins C dx fs)) : TyX K H (.ref a) (.ref C) := .base (.ins e T.cl T.ha T.hn T.htk T.hm)
/-- the type of v, here and later -/
def TyE (K : PySem.W.Frag) (H : Hp) (v : V) (tv : Value) : Prop := ∀ H1, Ex H H1 → TyX K H1 v tv
theorem TyE.mono {K : PySem.W.Frag} {H H1 : Hp} {v : V} {tv : Value} (h : TyE K H v tv) (e : Ex H H1) : TyE K H1 v tv := fun H2 e2 => h H2 (e.trans e2)
theorem ty_int {K : PySem.W.Frag} {H : Hp} {i : Int} : TyE K H (.int i) (.type "int") := fun _ _ => .base (.int i)
theorem ty_str {K : PySem.W.Frag} {H : Hp} {z : Str} : TyE K H (.str z) (.type "str") := fun _ _ => .base (.str z)
/-- H' is H but for what stands at a -/
def ExB (a : Addr) (H H' : Hp) : Prop := ∀ b o, b ≠ a → H b = some o → H' b = some o
theorem ExB.of {a : Addr} {H H' : Hp} (e : Ex H H') : ExB a H H' := fun b o _ h => e b o h
theorem ExB.trans {a : Addr} {H H1 H2 : Hp} (e : ExB a H H1) (f : ExB a H1 H2) : ExB a H H2 := fun b o n h => f b o n (e b o n h)
theorem ExB.put {a : Addr} {H H' : Hp} {o : HO} (e : ExB a H H') : ExB a H (upd H' a o) := fun b u n h => by rw [upd_ne n]; exact e b u n h
/-- .. if a was new, all that was known stays -/
theorem ExB.ex {a : Addr} {H H' : Hp} (e : ExB a H H') (n : H a = none) : Ex H H' := fun b o h => e b o (fun z => by rw [z, n] at h; cases h) h

section
variable {P : Program} {w : World} {K : PySem.W.Frag} {mg : Str → Option Value} {base : Heap} {cBR cBT cS cR : Addr}
/-! ### is_integer -/
def spIsI (K : PySem.W.Frag) : Sp := fun vs H Q _ => ∃ v tv b1 b2, vs = [v] ∧ TyE K H v tv ∧ PySem.W.kitOne K tv (.type "int") = some b1 ∧ PySem.W.kitOne K tv (.type "bool") = some b2 ∧ ∀ H', Same H H' → Q (.bl (b1 && !b2)) H'
abbrev s_isI : Stmt := top 8
theorem sc_isI : FnScope ["value"] ["value"] (defScope s_isI) := ⟨rfl, rfl, rfl, by decide +kernel, rfl, by decide +kernel, by decide +kernel⟩
theorem ok_isI {f : Addr} {fd : FuncData} (F : Fun K "is_integer" "is_integer" s_isI f fd) (B : Bi mg) : FnG P w K mg base 1 f fd ["value"] (spIsI K) := by
  refine okG F sc_isI (fun vs H Q E h => ?_) (fun cdv A outer s H vs Q E hr h => ?_)
  · obtain ⟨v, tv, b1, b2, rfl, _⟩ := h
    rfl
  · obtain ⟨v, tv, b1, b2, rfl, hv, h1, h2, k⟩ := h
    refine ⟨_, (pss_one (ps_ret (pe_and (pe_callB call_isi (by rfl) B.isinstance Boot.«isinstance» (pa_cons (pv 0) (pa_cons (pe_bltn (v := .ty "int") (by rfl) B.int Boot.«int» rfl) pa_nil))) (pe_one (pe_not (pe_callB call_isi (by rfl) B.isinstance Boot.«isinstance» (pa_cons (pv 0) (pa_cons (pe_bltn (v := .ty "bool") (by rfl) B.bool Boot.«bool» rfl) pa_nil)))))))), ?_⟩
    refine s_ret (ev_andV (ev_cb (ea_cons (ev_var rfl) (ea_cons ev_c ea_nil)) (rc_isi (.ty _) hv h1)) fun _ => ev_notV (ev_cb (ea_cons (ev_var rfl) (ea_cons ev_c ea_nil)) (rc_isi (.ty _) hv h2))) fun H1 e1 => k H1 e1
theorem spv_isI_int {H : Hp} {i : Int} : SpV (spIsI K) [.int i] H (.bl true) := fun H1 e Q q E => ⟨.int i, .type "int", true, false, rfl, ty_int, kit_ty (by decide +kernel), kit_ty (by decide +kernel), q⟩

/-! ### Scan -/
structure ScC (K : PySem.W.Frag) (C : Addr) : Prop where
  cl : Cls K C
  line : NoAttr K C "line"
  words : NoAttr K C "words"
  spot : NoAttr K C "spot"
abbrev scF (l : V) (tp : Addr) (i : Int) : List (Str × V) := [("line", l), ("words", .ref tp), ("spot", .int i)]
abbrev btF (l w : V) : List (Str × V) := [("word", w), ("line", l)]
abbrev wordsV (l : List Nat) : List V := (TL.spl [32] 0 [] l).map fun w => V.str (SX.S w)
def spScI (K : PySem.W.Frag) (cS cBT : Addr) : Sp := fun vs H Q E => ∃ (a dx : Addr) (t l : V), vs = [.ref a, t, l] ∧ H a = some (.ins cS dx []) ∧
  ((∃ cs : List Nat, t = .str (SX.S cs) ∧ cs.length ≤ 100000 ∧ ∀ tp H', tp ≠ a → ExB a H H' → H' tp = some (.tup (wordsV cs)) → H' a = some (.ins cS dx (scF l tp 0)) → Q .non H') ∨
   (∃ tv, TyE K H t tv ∧ PySem.W.kitOne K tv (.type "str") = some false ∧ Raises cBT (btF l (.int 0)) H E))
abbrev s_scI : Stmt := inClass (top 12) 0
theorem sc_scI : FnScope ["self", "text", "line"] ["self", "text", "line"] (defScope s_scI) := ⟨rfl, rfl, rfl, by decide +kernel, rfl, by decide +kernel, by decide +kernel⟩
theorem ok_scI {f : Addr} {fd : FuncData} (F : FunX K "__init__" "Scan.__init__" s_scI f fd) (B : Bi mg) (C : ScC K cS) (XT : XCls P w K mg base "BadText" cBT ["line", "word"]) : FnG P w K mg base 3 f fd ["self", "text", "line"] (spScI K cS cBT) := by
  refine okX F sc_scI (fun vs H Q E h => ?_) (fun cdv A outer s H vs Q E hr h => ?_)
  · obtain ⟨a, dx, t, l, rfl, _⟩ := h
    rfl
  · obtain ⟨a, dx, t, l, rfl, ha, h⟩ := h
    refine ⟨_, (pss_cons (ps_if (pt_not (pt_val (pe_callB call_isi (by rfl) B.isinstance Boot.«isinstance» (pa_cons (pv 1) (pa_cons (pe_bltn (v := .ty "str") (by rfl) B.str Boot.«str» rfl) pa_nil)))))
        (pss_one (ps_raiseX (k := 0) rfl XT (by decide) hr.r (takes_of rfl rfl rfl rfl) (pa_cons (pv 2) (pa_cons pe_int pa_nil)) (by rfl)))
        pss_nil)
      (pss_cons (ps_fld (pv 0) (pv 2) rfl)
      (pss_cons (ps_fld (pv 0) (pe_callTy call_tuple_of (by rfl) B.tuple Boot.«tuple» (pa_cons (pe_split (pv 1) pe_str) pa_nil)) rfl)
      (pss_one (ps_fld (pv 0) pe_int rfl))))), ?_⟩
    rcases h with ⟨cs, rfl, hl, k⟩ | ⟨tv, hv, hk, kr⟩
    · refine q_when (b := false) (et_not (a := true) (et_B (ev_cb (ea_cons (ev_var rfl) (ea_cons ev_c ea_nil)) (rc_isi (.ty _) ty_str (kit_ty (by decide +kernel)))))) (fun hb => nomatch hb) (fun _ H1 e1 => ?_)
      refine q_fld (ev_var rfl) (ev_var rfl) (e1 _ _ ha) C.cl C.line (by decide) fun H2 e2 => ?_
      refine q_fldU (eu_tuple (el_split (ev_var rfl) (ev_c (v := .str (SX.S [32]))) (by decide) (by decide) hl)) (ev_var rfl) upd_same C.cl C.words (by show 1 < 1000; decide) fun p H3 hp e3 h3 => ?_
      have hpa : p ≠ a := fun z => by rw [z, upd_same] at hp; cases hp
      refine s_fld ev_c (ev_var rfl) upd_same C.cl C.spot (by show 2 < 1000; decide) fun H4 e4 => ?_
      refine k p _ hpa ?_ ?_ upd_same
      · exact ExB.put ((((((ExB.of e1).trans (ExB.of e2)).put).trans (ExB.of e3)).put).trans (ExB.of e4))
      · rw [upd_ne hpa]
        refine e4 _ _ ?_
        rw [upd_ne hpa]
        exact h3
    · refine q_when (b := true) (et_not (a := false) (et_B (ev_cb (ea_cons (ev_var rfl) (ea_cons ev_c ea_nil)) (rc_isi (.ty _) hv hk)))) (fun _ H1 e1 => ?_) (fun hb => nomatch hb)
      exact s_raiseX (ea_cons (ev_var rfl) (ea_cons ev_c ea_nil)) rfl (kr.mono e1)

def spRef (cS cBT : Addr) : Sp := fun vs H Q E => ∃ (a dx tp : Addr) (l : V) (i : Int), vs = [.ref a, .non] ∧ H a = some (.ins cS dx (scF l tp i)) ∧ Raises cBT (btF l (.int i)) H E
abbrev s_ref : Stmt := inClass (top 12) 1
theorem sc_ref : FnScope ["self", "at"] ["self", "at"] (defScope s_ref) := ⟨rfl, rfl, rfl, by decide +kernel, rfl, by decide +kernel, by decide +kernel⟩
theorem ok_ref {f : Addr} {fd : FuncData} (F : FunX K "refuse" "Scan.refuse" s_ref f fd) (C : ScC K cS) (XT : XCls P w K mg base "BadText" cBT ["line", "word"]) : FnG P w K mg base 3 f fd ["self", "at"] (spRef cS cBT) := by
  refine okX F sc_ref (fun vs H Q E h => ?_) (fun cdv A outer s H vs Q E hr h => ?_)
  · obtain ⟨a, dx, tp, l, i, rfl, _⟩ := h
    rfl
  · obtain ⟨a, dx, tp, l, i, rfl, ha, kr⟩ := h
    refine ⟨_, (pss_one (ps_raiseX (k := 0) rfl XT (by decide) hr.r (takes_of rfl rfl rfl rfl) (pa_cons (pe_fld (pv 0) rfl) (pa_cons (pe_ifExp (pt_cmpR op_isN (pv 1) pe_non (nomark _)) (pe_fld (pv 0) rfl) (pv 1)) pa_nil)) (by rfl))), ?_⟩
    exact s_raiseX (ea_cons (ev_fld (ev_var rfl) ha C.cl C.line rfl) (ea_cons (ev_if (b := true) (et_test (ev_op (ev_var rfl) ev_c rv_isN)) (fun _ => ev_fld (ev_var rfl) ha C.cl C.spot rfl) (fun z => nomatch z)) ea_nil)) rfl kr

def spOv (K : PySem.W.Frag) (cS : Addr) : Sp := fun vs H Q E => ∃ (a dx tp : Addr) (l : V) (i : Int) (xs : List V), vs = [.ref a] ∧ H a = some (.ins cS dx (scF l tp i)) ∧ SqT K H tp xs ∧ ∀ H', Same H H' → Q (.bl (decide (i ≥ (xs.length : Int)))) H'
abbrev s_ov : Stmt := inClass (top 12) 2
theorem sc_ov : FnScope ["self"] ["self"] (defScope s_ov) := ⟨rfl, rfl, rfl, by decide +kernel, rfl, by decide +kernel, by decide +kernel⟩
theorem ok_ov {f : Addr} {fd : FuncData} (F : Fun K "is_over" "Scan.is_over" s_ov f fd) (B : Bi mg) (C : ScC K cS) : FnG P w K mg base 1 f fd ["self"] (spOv K cS) := by
  refine okG F sc_ov (fun vs H Q E h => ?_) (fun cdv A outer s H vs Q E hr h => ?_)
  · obtain ⟨a, dx, tp, l, i, xs, rfl, _⟩ := h
    rfl
  · obtain ⟨a, dx, tp, l, i, xs, rfl, ha, ht, k⟩ := h
    refine ⟨_, (pss_one (ps_ret (pe_cmpR op_ge (pe_fld (pv 0) rfl) (pe_callB call_len_seq (by rfl) B.len Boot.«len» (pa_cons (pe_fld (pv 0) rfl) pa_nil)) (nomark _)))), ?_⟩
    exact s_ret (ev_op (ev_fld (ev_var rfl) ha C.cl C.spot rfl) (ev_cb (ea_cons (ev_fld (ev_var rfl) ha C.cl C.words rfl) ea_nil) (rc_lenL (.inr ht))) rv_I0) fun H1 e1 => k H1 e1
theorem spv_ov {H : Hp} {a dx tp : Addr} {l : V} {i : Int} {xs : List V} (ha : H a = some (.ins cS dx (scF l tp i))) (ht : SqT K H tp xs) : SpV (spOv K cS) [.ref a] H (.bl (decide (i ≥ (xs.length : Int)))) :=
  fun H1 e Q q E => ⟨a, dx, tp, l, i, xs, rfl, e _ _ ha, ex_t e ht, q⟩

def spFin (K : PySem.W.Frag) (cS cBT : Addr) : Sp := fun vs H Q E => ∃ (a dx tp : Addr) (l : V) (i : Int) (xs : List V), vs = [.ref a] ∧ H a = some (.ins cS dx (scF l tp i)) ∧ SqT K H tp xs ∧
  ((i ≥ (xs.length : Int) ∧ ∀ H', Same H H' → Q .non H') ∨ (i < (xs.length : Int) ∧ Raises cBT (btF l (.int i)) H E))
abbrev s_fin : Stmt := inClass (top 12) 9
theorem sc_fin : FnScope ["self"] ["self"] (defScope s_fin) := ⟨rfl, rfl, rfl, by decide +kernel, rfl, by decide +kernel, by decide +kernel⟩
theorem ev_gm {C : Addr} {m : Str} {sp : Sp} {dvs vs : List V} {W : WX} {ta : TE} {tA : TA} {σ : L2.St} {H : Hp} {a dx : Addr} {fs : List (Str × V)} {z : V} (h : Ev ta σ H (.ref a)) (ho : H a = some (.ins C dx fs)) (hl : fs.lookup m = none) (hA : EvA tA σ H vs) (hs : SpV sp (.ref a :: (vs ++ dvs)) H z) :
    Ev (tGM C m sp dvs W ta tA) σ H z := fun H1 e Q q => h H1 e _ fun H2 e2 => ⟨a, dx, fs, rfl, (e.trans e2) _ _ ho, hl, hA H2 (e.trans e2) _ fun H3 e3 => hs H3 ((e.trans e2).trans e3) Q (fun H4 e4 => q H4 ((e2.trans e3).trans e4)) _⟩
/-- .. a call whose promise is looked at -/
theorem go_gm {C : Addr} {m : Str} {sp : Sp} {dvs vs : List V} {W : WX} {ta : TE} {tA : TA} {σ : L2.St} {H : Hp} {a dx : Addr} {fs : List (Str × V)} {Q : VK} (h : Ev ta σ H (.ref a)) (ho : H a = some (.ins C dx fs)) (hl : fs.lookup m = none) (hA : EvA tA σ H vs)
    (hs : ∀ H1, Ex H H1 → sp (.ref a :: (vs ++ dvs)) H1 Q (WE W σ)) : tGM C m sp dvs W ta tA σ H Q := h H (Ex.refl H) _ fun H2 e2 => ⟨a, dx, fs, rfl, e2 _ _ ho, hl, hA H2 e2 _ fun H3 e3 => hs H3 (e2.trans e3)⟩
theorem ok_fin {f : Addr} {fd : FuncData} (F : Fun K "finish" "Scan.finish" s_fin f fd) (GO : GM P w K mg base 1 cS "is_over" (spOv K cS) []) (GR : GM P w K mg base 3 cS "refuse" (spRef cS cBT) [.non]) : FnG P w K mg base 4 f fd ["self"] (spFin K cS cBT) := by
  refine okG F sc_fin (fun vs H Q E h => ?_) (fun cdv A outer s H vs Q E hr h => ?_)
  · obtain ⟨a, dx, tp, l, i, xs, rfl, _⟩ := h
    rfl
  · obtain ⟨a, dx, tp, l, i, xs, rfl, ha, ht, h⟩ := h
    refine ⟨_, (pss_one (ps_if (pt_not (pt_val (pe_gm0 (pv 0) GO (hr.mono (by decide)) (takes_of rfl rfl rfl rfl))))
      (pss_one (ps_expr (pe_gm0 (pv 0) GR hr (takes_of rfl rfl rfl rfl))))
      pss_nil)), ?_⟩
    refine s_when (et_not (et_B (ev_gm (vs := []) (ev_var rfl) ha rfl ea_nil (spv_ov ha ht)))) (fun hb H1 e1 => ?_) (fun hb H1 e1 => ?_)
    · have hlt : i < (xs.length : Int) := by simpa using hb
      rcases h with ⟨hge, _⟩ | ⟨_, kr⟩
      · omega
      · refine go_gm (vs := []) (ev_var rfl) (e1 _ _ ha) rfl ea_nil fun H2 e2 => ⟨a, dx, tp, l, i, rfl, (e1.trans e2) _ _ ha, kr.mono (e1.trans e2)⟩
    · have hge : i ≥ (xs.length : Int) := by simpa using hb
      rcases h with ⟨_, k⟩ | ⟨hlt, _⟩
      · exact k H1 e1
      · omega
end
end K2

/-! # K02c -/
set_option Elab.async false
set_option linter.all false
set_option maxRecDepth 100000
set_option maxHeartbeats 4000000
namespace K2
open PySem PyProof.Rows L2 Pk Evl
/-! ### more readings -/
section
variable {K : PySem.W.Frag} {σ : L2.St} {H H' : Hp} {te ta tb tl : TE} {v x y z : V} {D : Ends} {tu tw tz : TS} {t : TT} {W : WX} {tA : TA}
theorem go_gc {C : Addr} {sp : Sp} {dvs vs : List V} {Q : VK} (h : EvA tA σ H vs)
    (hs : ∀ x dx H1, Ex H H1 → H1 x = none → H1 dx = none → dx ≠ x → sp (.ref x :: (vs ++ dvs)) (upd (upd H1 dx (.own x)) x (.ins C dx [])) (fun v H2 => v = .non ∧ Q (.ref x) H2) (WE W σ)) : tGC C sp dvs W tA σ H Q :=
  h H (Ex.refl H) _ fun H1 e1 x dx hx hdx hne => hs x dx H1 e1 hx hdx hne
theorem go_gf {sp : Sp} {dvs vs : List V} {E : L2.St → XK} {Q : VK} (h : EvA tA σ H vs) (hs : ∀ H1, Ex H H1 → sp (vs ++ dvs) H1 Q (E σ)) : tCallSD sp dvs E tA σ H Q := h H (Ex.refl H) _ fun H1 e1 => hs H1 e1
theorem made_ex {H1 : Hp} {x dx C : Addr} {H2 : Hp} (hx : H1 x = none) (hdx : H1 dx = none) (hne : dx ≠ x) (e : ExB x (upd (upd H1 dx (.own x)) x (.ins C dx [])) H2) : Ex H1 H2 := fun b o hb => by
  have n1 : b ≠ x := ne_of_none hb hx
  have n2 : b ≠ dx := ne_of_none hb hdx
  exact e b o n1 (by rw [upd_ne n1, upd_ne n2]; exact hb)
end
/-! ### Ratio -/
structure RtC (K : PySem.W.Frag) (C : Addr) : Prop extends TyC K C where
  top : NoAttr K C "top"
  bottom : NoAttr K C "bottom"
abbrev ratF (t b : Int) : List (Str × V) := [("top", .int t), ("bottom", .int b)]
def IsR (C : Addr) (H : Hp) (a : Addr) (t b : Int) : Prop := ∃ dx, H a = some (.ins C dx (ratF t b))
theorem IsR.mono {C : Addr} {H H' : Hp} {a : Addr} {t b : Int} (h : IsR C H a t b) (e : Ex H H') : IsR C H' a t b := let ⟨dx, q⟩ := h; ⟨dx, e _ _ q⟩
def comI (t b : Int) : Int := if b < 0 then -((Nat.gcd t.natAbs b.natAbs : Nat) : Int) else ((Nat.gcd t.natAbs b.natAbs : Nat) : Int)
theorem comI_ok {t b : Int} (h : b ≠ 0) (hb : b.natAbs < 2 ^ 2000) : CDivNW t (comI t b) := by
  have h1 : 0 < Nat.gcd t.natAbs b.natAbs := Nat.gcd_pos_of_pos_right _ (by omega)
  have h2 : Nat.gcd t.natAbs b.natAbs ≤ b.natAbs := Nat.le_of_dvd (by omega) (Nat.gcd_dvd_right _ _)
  have e : (comI t b).natAbs = Nat.gcd t.natAbs b.natAbs := by
    unfold comI
    split <;> simp
  refine ⟨fun z => ?_, ?_⟩
  · rw [z] at e
    simp at e
    omega
  · rw [e]
    refine Nat.lt_of_lt_of_le (PySem.Flt.log2_lt_of (k := 2000) (by decide) (Nat.lt_of_le_of_lt h2 hb)) (by decide)
section
variable {P : Program} {w : World} {K : PySem.W.Frag} {mg : Str → Option Value} {base : Heap} {cBR cBT cS cR : Addr}
def spRI (cR : Addr) : Sp := fun vs H Q _ => ∃ (a dx : Addr) (t b : Int), vs = [.ref a, .int t, .int b] ∧ H a = some (.ins cR dx []) ∧ b ≠ 0 ∧ b.natAbs < 2 ^ 2000 ∧
  ∀ H', ExB a H H' → H' a = some (.ins cR dx (ratF (t.fdiv (comI t b)) (b.fdiv (comI t b)))) → Q .non H'
abbrev s_RI : Stmt := inClass (top 17) 1
theorem sc_RI : FnScope ["self", "top", "bottom", "common"] ["self", "top", "bottom"] (defScope s_RI) := ⟨rfl, rfl, rfl, by decide +kernel, rfl, by decide +kernel, by decide +kernel⟩
theorem ok_RI {f : Addr} {fd : FuncData} (F : FunX K "__init__" "Ratio.__init__" s_RI f fd) (T : Gl0 mg) (C : RtC K cR) (GI : GF P w K mg base 1 "is_integer" (spIsI K) []) (XR : XCls P w K mg base "BadRatio" cBR ["part"]) : FnG P w K mg base 3 f fd ["self", "top", "bottom"] (spRI cR) := by
  refine okX F sc_RI (fun vs H Q E h => ?_) (fun cdv A outer s H vs Q E hr h => ?_)
  · obtain ⟨a, dx, t, b, rfl, _⟩ := h
    rfl
  · obtain ⟨a, dx, t, b, rfl, ha, hb0, hb, k⟩ := h
    have nd := sc_RI.nd
    refine ⟨_, (pss_cons (ps_if (pt_not (pt_val (pe_gf GI (hr.mono (by decide)) (takes_of rfl rfl rfl rfl) (by rfl) (pa_cons (pv 1) pa_nil))))
        (pss_one (ps_raiseX (k := 0) rfl XR (by decide) hr.r (takes_of rfl rfl rfl rfl) (pa_cons pe_str pa_nil) (by rfl)))
        pss_nil)
      (pss_cons (ps_if (PW.pt (pw_or (pt_not (pt_val (pe_gf GI (hr.mono (by decide)) (takes_of rfl rfl rfl rfl) (by rfl) (pa_cons (pv 2) pa_nil)))) (pw_or1 (pt_cmpR op_eq (pv 2) pe_int (nomark _)))))
        (pss_one (ps_raiseX (k := 0) rfl XR (by decide) hr.r (takes_of rfl rfl rfl rfl) (pa_cons pe_str pa_nil) (by rfl)))
        pss_nil)
      (pss_cons (ps_set (i := 3) nd rfl (Or.inl rfl) (pe_callBfun cr_gcd (by rfl) T.gcd (pa_cons (pv 1) (pa_cons (pv 2) pa_nil))))
      (pss_cons (ps_if (pt_cmpR op_lt (pv 2) pe_int (nomark _))
        (pss_one (ps_set (i := 3) nd rfl (Or.inl rfl) (pe_un un_neg (pv 3))))
        pss_nil)
      (pss_cons (ps_fld (pv 0) (pe_op op_fdivNW (pv 1) (pv 3)) rfl)
      (pss_one (ps_fld (pv 0) (pe_op op_fdivNW (pv 2) (pv 3)) rfl))))))), ?_⟩
    refine q_when (b := false) (et_not (a := true) (et_B (ev_gf (ea_cons (ev_var rfl) ea_nil) spv_isI_int))) (fun z => nomatch z) (fun _ H1 e1 => ?_)
    refine q_when (b := false) (et_is (et_or (a := false) (et_not (a := true) (et_B (ev_gf (ea_cons (ev_var rfl) ea_nil) spv_isI_int))) fun _ => et_test (ev_op (ev_var rfl) ev_c (rv_eq rfl))) ?_) (fun z => nomatch z) (fun _ H2 e2 => ?_)
    · rw [Bool.false_or]
      exact decide_eq_false fun z => hb0 (V.int.inj z)
    refine q_asg (ev_cb (ea_cons (ev_var rfl) (ea_cons (ev_var rfl) ea_nil)) rc_gcd) fun H3 e3 => ?_
    refine q_ifAsg (v := .int (comI t b)) (b := decide (b < 0)) (et_test (ev_op (ev_var rfl) ev_c rv_I0)) (fun hb1 => ev_is (ev_un (ev_var rfl) ru_neg) ?_) (fun hb1 => ?_) fun H4 e4 => ?_
    · rw [comI, if_pos (of_decide_eq_true hb1)]
    · rw [comI, if_neg (of_decide_eq_false hb1)]
      rfl
    have ha4 : H4 a = some (.ins cR dx []) := e4 _ _ (e3 _ _ (e2 _ _ (e1 _ _ ha)))
    refine q_fld (ev_op (ev_var rfl) (ev_var rfl) (rv_I (comI_ok hb0 hb))) (ev_var rfl) ha4 C.cl C.top (by decide) fun H5 e5 => ?_
    refine s_fld (ev_op (ev_var rfl) (ev_var rfl) (rv_I (comI_ok (t := t) hb0 hb))) (ev_var rfl) upd_same C.cl C.bottom (by show 1 < 1000; decide) fun H6 e6 => ?_
    refine k _ ?_ upd_same
    exact ((((((ExB.of e1).trans (ExB.of e2)).trans (ExB.of e3)).trans (ExB.of e4)).trans (ExB.of e5)).put.trans (ExB.of e6)).put

/-- Ratio(t, b) -/
theorem ep_Rat {σ : L2.St} {H : Hp} {W : WX} {tA : TA} {vs dvs : List V} {t b : Int} (h : EvA tA σ H vs) (hv : vs ++ dvs = [.int t, .int b]) (hb0 : b ≠ 0) (hb : b.natAbs < 2 ^ 2000) :
    EvP (tGC cR (spRI cR) dvs W tA) σ H (fun v H2 => ∃ a, v = .ref a ∧ IsR cR H2 a (t.fdiv (comI t b)) (b.fdiv (comI t b))) := fun H0 e0 Q q =>
  go_gc (h.mono e0) fun x dx H1 e1 hx hdx hne => ⟨x, dx, t, b, by rw [hv], upd_same, hb0, hb, fun H2 e2 hq => ⟨rfl, q _ H2 (e1.trans (made_ex hx hdx hne e2)) ⟨x, rfl, dx, hq⟩⟩⟩

/-! ### what the texts come to -/
theorem digs_lt0 : ∀ (cs : List Nat) (acc : Nat), (∀ c ∈ cs, c ≤ 57) → cs.foldl (fun acc c => acc * 10 + (c - 48)) acc < (acc + 1) * 10 ^ cs.length := by
  intro cs
  induction cs with
  | nil => intro acc _; simp
  | cons c cs ih =>
    intro acc h
    have h1 := ih (acc * 10 + (c - 48)) fun x hx => h x (by simp [hx])
    have h2 := h c (by simp)
    rw [List.foldl_cons, List.length_cons, Nat.pow_succ]
    refine Nat.lt_of_lt_of_le h1 ?_
    have h3 : acc * 10 + (c - 48) + 1 ≤ (acc + 1) * 10 := by omega
    calc (acc * 10 + (c - 48) + 1) * 10 ^ cs.length ≤ ((acc + 1) * 10) * 10 ^ cs.length := Nat.mul_le_mul_right _ h3
      _ = (acc + 1) * (10 ^ cs.length * 10) := by rw [Nat.mul_assoc, Nat.mul_comm 10]
theorem digs_lt (cs : List Nat) (h : ∀ c ∈ cs, c ≤ 57) : NumText.digitsVal cs < 10 ^ cs.length := by
  have := digs_lt0 cs 0 h
  rw [Nat.zero_add, Nat.one_mul] at this
  exact this
theorem ten60 : (10 : Nat) ^ 60 < 2 ^ 200 := by decide +kernel
theorem numIn_lt {l : List Nat} {n : Int} (h : numIn l = some n) : n.natAbs < 2 ^ 200 := by
  unfold numIn at h
  split at h
  · cases h
  rename_i hg
  split at h
  · cases h
  have h1 : ¬ 60 < (plainOf l).length := fun z => hg (.inr (.inl z))
  have h2 : ¬ ((plainOf l).any (fun c => !isDig c) = true) := fun z => hg (.inr (.inr z))
  have hd := allDig h2
  have hlt := digs_lt (plainOf l) fun c hc => (hd c hc).2
  have hp : (10 : Nat) ^ (plainOf l).length ≤ 10 ^ 60 := Nat.pow_le_pow_right (by decide) (by omega)
  have h6 := ten60
  have hn : n.natAbs = NumText.digitsVal (plainOf l) := by
    have := Option.some.inj h
    rw [← this]
    split <;> simp
  omega
def ratIn (l : List Nat) : Option (Int × Int) :=
  match TL.spl [47] 0 [] l with
  | [] => none
  | [p] => (numIn p).map fun t => (t, 1)
  | [p, q] => match numIn p, numIn q with
    | some t, some b => if b < 2 ∨ Nat.gcd t.natAbs b.natAbs ≠ 1 then none else some (t, b)
    | _, _ => none
  | _ => none
theorem ratIn0 {l p : List Nat} {r : List (List Nat)} (h : TL.spl [47] 0 [] l = p :: r) (hg : numIn p = none ∨ 1 < r.length) : ratIn l = none := by
  unfold ratIn
  rw [h]
  rcases hg with z | z
  · cases r with
    | nil => simp [z]
    | cons q r => cases r <;> simp [z]
  · cases r with
    | nil => simp at z
    | cons q r => cases r with
      | nil => simp at z
      | cons _ _ => rfl
theorem ratIn1 {l p : List Nat} {t : Int} (h : TL.spl [47] 0 [] l = [p]) (hn : numIn p = some t) : ratIn l = some (t, 1) := by
  unfold ratIn
  rw [h]
  simp [hn]
theorem ratIn2n {l p q : List Nat} (h : TL.spl [47] 0 [] l = [p, q]) (hm : numIn q = none) : ratIn l = none := by
  unfold ratIn
  rw [h]
  simp only [hm]
  cases numIn p <;> rfl
theorem ratIn2 {l p q : List Nat} {t b : Int} (h : TL.spl [47] 0 [] l = [p, q]) (hn : numIn p = some t) (hm : numIn q = some b) : ratIn l = if b < 2 ∨ Nat.gcd t.natAbs b.natAbs ≠ 1 then none else some (t, b) := by
  unfold ratIn
  rw [h]
  simp only [hn, hm]
def PRat (C : Addr) : Option (Int × Int) → V → Hp → Prop
  | none, v, _ => v = .non
  | some (t, b), v, H => ∃ a, v = .ref a ∧ IsR C H a t b
theorem com1 {t b : Int} (hb : 0 ≤ b) (h : Nat.gcd t.natAbs b.natAbs = 1) : comI t b = 1 := by
  unfold comI
  rw [if_neg (by omega), h]
  rfl
def spRin (cR : Addr) : Sp := fun vs H Q _ => ∃ l : List Nat, vs = [.str (SX.S l)] ∧ l.length ≤ 100000 ∧ ∀ v H', Same H H' → PRat cR (ratIn l) v H' → Q v H'
abbrev s_Rin : Stmt := top 15
theorem sc_Rin : FnScope ["word", "parts", "top", "bottom"] ["word"] (defScope s_Rin) := ⟨rfl, rfl, rfl, by decide +kernel, rfl, by decide +kernel, by decide +kernel⟩
theorem spv_num {H : Hp} {l : List Nat} (hl : l.length ≤ 100000) : SpV spNum [.str (SX.S l)] H (numV (numIn l)) := fun H1 e Q q E => ⟨l, rfl, hl, q⟩
theorem spl_len (S : List Nat) : ∀ (l : List Nat) (k : Nat) (acc : List Nat) (p : List Nat), p ∈ TL.spl S k acc l → p.length ≤ acc.length + l.length := by
  intro l
  induction l with
  | nil =>
    intro k acc p hp
    rw [TL.spl_nil] at hp
    simp at hp
    subst hp
    simp
  | cons c r ih =>
    intro k acc p hp
    cases k with
    | zero =>
      cases hpre : TL.pre S (c :: r) with
      | true =>
        rw [TL.spl_hit hpre] at hp
        rcases List.mem_cons.mp hp with rfl | hp
        · simp
        · have := ih _ _ _ hp
          simp at this ⊢
          omega
      | false =>
        rw [TL.spl_miss hpre] at hp
        have := ih _ _ _ hp
        simp at this ⊢
        omega
    | succ k =>
      have hp' : p ∈ TL.spl S k acc r := hp
      have := ih _ _ _ hp'
      simp
      omega
theorem spl_ne (S : List Nat) (k : Nat) (acc l : List Nat) : TL.spl S k acc l ≠ [] := by
  induction l generalizing k acc with
  | nil => rw [TL.spl_nil]; simp
  | cons c r ih =>
    cases k with
    | zero =>
      cases hpre : TL.pre S (c :: r) with
      | true => rw [TL.spl_hit hpre]; simp
      | false => rw [TL.spl_miss hpre]; exact ih _ _
    | succ k => exact ih _ _
theorem gcd_one (n : Nat) : Nat.gcd n 1 = 1 := by simp
theorem ok_Rin {f : Addr} {fd : FuncData} (F : Fun K "ratio_in" "ratio_in" s_Rin f fd) (B : Bi mg) (T : Gl0 mg) (GN : GF P w K mg base 1 "number_in" spNum []) (GR : GC P w K mg base 3 "Ratio" cR (spRI cR) [.int 1]) (GR2 : GC P w K mg base 3 "Ratio" cR (spRI cR) []) :
    FnG P w K mg base 5 f fd ["word"] (spRin cR) := by
  refine okG F sc_Rin (fun vs H Q E h => ?_) (fun cdv A outer s H vs Q E hr h => ?_)
  · obtain ⟨l, rfl, _⟩ := h
    rfl
  · obtain ⟨l, rfl, hl, k⟩ := h
    have nd := sc_Rin.nd
    refine ⟨_, (pss_cons (ps_set (i := 1) nd rfl (Or.inl rfl) (pe_split (pv 0) pe_str))
      (pss_cons (ps_set (i := 2) nd rfl (Or.inl rfl) (pe_gf GN (hr.mono (by decide)) (takes_of rfl rfl rfl rfl) (by rfl) (pa_cons (pe_ix ix_list (pv 1) pe_int (fun _ _ => rfl)) pa_nil)))
      (pss_cons (ps_if (PW.pt (pw_or (pt_cmpR op_isN (pv 2) pe_non (nomark _)) (pw_or1 (pt_cmpR op_gt (pe_callB call_len_seq (by rfl) B.len Boot.«len» (pa_cons (pv 1) pa_nil)) pe_int (nomark _)))))
        (pss_one (ps_ret pe_non))
        pss_nil)
      (pss_cons (ps_if (pt_cmpR op_eq (pe_callB call_len_seq (by rfl) B.len Boot.«len» (pa_cons (pv 1) pa_nil)) pe_int (nomark _))
        (pss_one (ps_ret (pe_gc GR hr (takes_of rfl rfl rfl rfl) (by rfl) (pa_cons (pv 2) pa_nil))))
        pss_nil)
      (pss_cons (ps_set (i := 3) nd rfl (Or.inl rfl) (pe_gf GN (hr.mono (by decide)) (takes_of rfl rfl rfl rfl) (by rfl) (pa_cons (pe_ix ix_list (pv 1) pe_int (fun _ _ => rfl)) pa_nil)))
      (pss_cons (ps_if (PW.pt (pw_or (pt_cmpR op_isN (pv 3) pe_non (nomark _)) (pw_or (pt_cmpR op_lt (pv 3) pe_int (nomark _)) (pw_or1 (pt_cmpR op_ne (pe_callBfun cr_gcd (by rfl) T.gcd (pa_cons (pv 2) (pa_cons (pv 3) pa_nil))) pe_int (nomark _))))))
        (pss_one (ps_ret pe_non))
        pss_nil)
      (pss_one (ps_ret (pe_gc GR2 hr (takes_of rfl rfl rfl rfl) (by rfl) (pa_cons (pv 2) (pa_cons (pv 3) pa_nil))))))))))), ?_⟩
    refine q_asgL (el_split (ev_var rfl) (ev_c (v := .str (SX.S [47]))) (by decide) (by decide) hl) fun p H1 hp e1 h1 => ?_
    have hlen : ∀ q ∈ TL.spl [47] 0 [] l, q.length ≤ 100000 := fun q hq => by
      have := spl_len [47] l 0 [] q hq
      simp at this
      omega
    cases hsp : TL.spl [47] 0 [] l with
    | nil => exact absurd hsp (spl_ne _ _ _ _)
    | cons p0 r =>
      rw [hsp] at h1 hlen
      have hp0 := hlen p0 List.mem_cons_self
      refine q_asg (v := numV (numIn p0)) (ev_gf (ea_cons (ev_op (ev_var rfl) ev_c (rv_ixL (K := K) (sq_of h1) (atI_nat (j := 0) rfl))) ea_nil) (spv_num hp0)) fun H2 e2 => ?_
      refine q_when (b := decide (numIn p0 = none ∨ 1 < r.length)) (et_is (et_or (et_test (ev_op (ev_var rfl) ev_c rv_isN)) fun _ => et_test (ev_op (ev_cb (ea_cons (ev_var rfl) ea_nil) (rc_lenL (K := K) (.inl (sq_of (e2 _ _ h1))))) ev_c rv_I0)) ?_) (fun hb H3 e3 => ?_) (fun hb H3 e3 => ?_)
      · rw [Bool.eq_iff_iff]
        simp only [Bool.or_eq_true, decide_eq_true_eq]
        refine or_congr ?_ ?_
        · cases numIn p0 <;> simp [numV]
        · simp
          omega
      · refine k _ _ ((e1.trans e2).trans e3) ?_
        rw [ratIn0 hsp (of_decide_eq_true hb)]
        rfl
      have hg := of_decide_eq_false hb
      cases hn : numIn p0 with
      | none => exact absurd (.inl hn) hg
      | some t =>
        refine q_when (b := decide (r = [])) (et_is (et_test (ev_op (ev_cb (ea_cons (ev_var rfl) ea_nil) (rc_lenL (K := K) (.inl (sq_of (e3 _ _ (e2 _ _ h1)))))) ev_c (rv_eq rfl))) ?_) (fun hb2 H4 e4 => ?_) (fun hb2 H4 e4 => ?_)
        · rw [Bool.eq_iff_iff]
          simp only [decide_eq_true_eq]
          cases r with
          | nil => simp
          | cons q r => simp; omega
        · refine s_retP (ep_Rat (t := t) (b := 1) (ea_cons (ev_is (ev_var rfl) ?_) ea_nil) rfl (by decide) (by decide)) fun v H5 e5 hv => ?_
          · rfl
          refine k _ _ ((((e1.trans e2).trans e3).trans e4).trans e5) ?_
          have hr1 := of_decide_eq_true hb2
          rw [hr1] at hsp
          rw [ratIn1 hsp hn]
          have hc : comI t 1 = 1 := com1 (by decide) (by simp)
          rw [hc] at hv
          simpa [PRat, Int.fdiv_one] using hv
        have hr0 : r ≠ [] := of_decide_eq_false hb2
        obtain ⟨q0, r', er⟩ := List.exists_cons_of_ne_nil hr0
        have hr' : r' = [] := by
          cases r' with
          | nil => rfl
          | cons x y =>
            refine absurd (.inr ?_) hg
            rw [er]; simp
        subst hr'
        subst er
        have hq0 := hlen q0 (by simp)
        have h4 := e4 _ _ (e3 _ _ (e2 _ _ h1))
        refine q_asg (v := numV (numIn q0)) (ev_gf (ea_cons (ev_op (ev_var rfl) ev_c (rv_ixL (K := K) (sq_of h4) (atI_nat (j := 1) rfl))) ea_nil) (spv_num hq0)) fun H5 e5 => ?_
        have ex5 := ((((e1.trans e2).trans e3).trans e4).trans e5)
        cases hm : numIn q0 with
        | none =>
          refine q_when (b := true) (et_is (et_or (a := true) (b := true) (et_test (ev_op (ev_var rfl) ev_c rv_isN)) fun z => nomatch z) rfl) (fun _ H6 e6 => ?_) (fun z => nomatch z)
          refine k _ _ (ex5.trans e6) ?_
          rw [ratIn2n hsp hm]
          rfl
        | some b =>
          refine q_when (b := decide (b < 2 ∨ Nat.gcd t.natAbs b.natAbs ≠ 1)) (et_is (et_or (a := false) (et_test (ev_op (ev_var rfl) ev_c rv_isN)) fun _ => et_or (et_test (ev_op (ev_is (w := .int b) (ev_var rfl) rfl) ev_c rv_I0)) fun _ => et_test (ev_op (ev_cb (ea_cons (ev_is (w := .int t) (ev_var rfl) ?_) (ea_cons (ev_is (w := .int b) (ev_var rfl) rfl) ea_nil)) rc_gcd) ev_c (rv_ne rfl))) ?_) (fun hb3 H6 e6 => ?_) (fun hb3 H6 e6 => ?_)
          · rfl
          · rw [Bool.eq_iff_iff]
            simp only [Bool.or_eq_true, decide_eq_true_eq, Bool.false_or, Bool.not_eq_true', decide_eq_false_iff_not]
            refine or_congr Iff.rfl ?_
            simp
            omega
          · refine k _ _ (ex5.trans e6) ?_
            rw [ratIn2 hsp hn hm]
            rw [if_pos (of_decide_eq_true hb3)]
            rfl
          · have hg3 := of_decide_eq_false hb3
            have hb2' : ¬ b < 2 := fun z => hg3 (.inl z)
            have hgc : Nat.gcd t.natAbs b.natAbs = 1 := by
              by_cases z : Nat.gcd t.natAbs b.natAbs = 1
              · exact z
              · exact absurd (.inr z) hg3
            refine s_retP (ep_Rat (t := t) (b := b) (ea_cons (ev_is (ev_var rfl) ?_) (ea_cons (ev_is (ev_var rfl) rfl) ea_nil)) rfl (by omega) ?_) fun v H7 e7 hv => ?_
            · rfl
            · exact Nat.lt_of_lt_of_le (numIn_lt hm) (Nat.pow_le_pow_right (by decide) (by decide))
            refine k _ _ ((ex5.trans e6).trans e7) ?_
            rw [ratIn2 hsp hn hm]
            rw [if_neg hg3]
            rw [com1 (by omega) hgc] at hv
            simpa [PRat, Int.fdiv_one] using hv
end
end K2

/-! # K02d -/
set_option Elab.async false
set_option linter.all false
set_option maxRecDepth 100000
set_option maxHeartbeats 4000000
namespace K2
open PySem PyProof.Rows L2 Pk Evl
section
variable {P : Program} {w : World} {K : PySem.W.Frag} {mg : Str → Option Value} {base : Heap} {cBR cBT cS cR : Addr}
theorem spp_Rin {H : Hp} {l : List Nat} (hl : l.length ≤ 100000) : SpP (spRin cR) [.str (SX.S l)] H (fun v H' => PRat cR (ratIn l) v H') := fun H1 e Q q E => ⟨l, rfl, hl, fun v H' e' p => q v H' e' p⟩
theorem q_set {σ : L2.St} {H : Hp} {te : TE} {tz : TS} {D : Ends} {i : Nat} (h : te σ H fun v H1 => tz D (σ.set i (some v)) H1) : tSeq (tAsg te (gName i)) tz D σ H := h
theorem q_do {σ : L2.St} {H : Hp} {te : TE} {tz : TS} {D : Ends} (h : te σ H fun _ H1 => tz D σ H1) : tSeq (tDrop te) tz D σ H := h
/-! ### take_ratio -/
def spTR (K : PySem.W.Frag) (cS cBT cR : Addr) : Sp := fun vs H Q E => ∃ (a dx tp : Addr) (l : V) (ws : List (List Nat)) (w : List Nat), vs = [.ref a] ∧ H a = some (.ins cS dx (scF l tp 0)) ∧ SqT K H tp (ws.map fun w => V.str (SX.S w)) ∧ ws.head? = some w ∧ w.length ≤ 100000 ∧
  (ratIn w = none → Raises cBT (btF l (.int 0)) H E) ∧
  (∀ t b, ratIn w = some (t, b) → ∀ r H', ExB a H H' → H' a = some (.ins cS dx (scF l tp 1)) → IsR cR H' r t b → Q (.ref r) H')
abbrev s_TR : Stmt := top 16
theorem sc_TR : FnScope ["scan", "found"] ["scan"] (defScope s_TR) := ⟨rfl, rfl, rfl, by decide +kernel, rfl, by decide +kernel, by decide +kernel⟩
theorem ok_TR {f : Addr} {fd : FuncData} (F : Fun K "take_ratio" "take_ratio" s_TR f fd) (C : ScC K cS) (GO : GM P w K mg base 1 cS "is_over" (spOv K cS) []) (GF' : GM P w K mg base 3 cS "refuse" (spRef cS cBT) [.non]) (GI : GF P w K mg base 5 "ratio_in" (spRin cR) []) :
    FnG P w K mg base 6 f fd ["scan"] (spTR K cS cBT cR) := by
  refine okG F sc_TR (fun vs H Q E h => ?_) (fun cdv A outer s H vs Q E hr h => ?_)
  · obtain ⟨a, dx, tp, l, ws, w, rfl, _⟩ := h
    rfl
  · obtain ⟨a, dx, tp, l, ws, w, rfl, ha, ht, hw, hz, kr, k⟩ := h
    have nd := sc_TR.nd
    refine ⟨_, (pss_cons (ps_set (i := 1) nd rfl (Or.inl rfl) (pe_ifExp (pt_val (pe_gm0 (pv 0) GO (hr.mono (by decide)) (takes_of rfl rfl rfl rfl))) pe_non (pe_gf GI hr (takes_of rfl rfl rfl rfl) (by rfl) (pa_cons (pe_ix ix_tup (pe_fld (pv 0) rfl) (pe_fld (pv 0) rfl) (fun _ _ => rfl)) pa_nil))))
      (pss_cons (ps_if (pt_cmpR op_isN (pv 1) pe_non (nomark _))
        (pss_one (ps_expr (pe_gm0 (pv 0) GF' (hr.mono (by decide)) (takes_of rfl rfl rfl rfl))))
        pss_nil)
      (pss_cons (ps_fld (pv 0) (pe_op op_add (pe_fld (pv 0) rfl) pe_int) rfl)
      (pss_one (ps_ret (pv 1)))))), ?_⟩
    cases ws with
    | nil => simp at hw
    | cons w' ws =>
      have hw' : w' = w := by simpa using hw
      subst hw'
      refine q_asgP (P := fun v H' => PRat cR (ratIn w') v H') (ep_if (b := false) (et_is (et_B (ev_gm (vs := []) (ev_var rfl) ha rfl ea_nil (spv_ov ha ht))) ?_) (fun z => nomatch z) (fun _ => ep_gf (ea_cons (ev_op (ev_fld (ev_var rfl) ha C.cl C.words rfl) (ev_fld (ev_var rfl) ha C.cl C.spot rfl) (rv_ixT ht (atI_nat (j := 0) rfl))) ea_nil) (spp_Rin hz))) fun v H1 e1 hv => ?_
      · simp
      cases hR : ratIn w' with
      | none =>
        rw [hR] at hv
        have hv' : v = .non := hv
        subst hv'
        refine q_when (b := true) (et_test (ev_op (ev_var rfl) ev_c rv_isN)) (fun _ H2 e2 => ?_) (fun z => nomatch z)
        exact go_gm (vs := []) (ev_var rfl) ((e1.trans e2) _ _ ha) rfl ea_nil fun H3 e3 => ⟨a, dx, tp, l, 0, rfl, ((e1.trans e2).trans e3) _ _ ha, (kr hR).mono ((e1.trans e2).trans e3)⟩
      | some tb =>
        obtain ⟨t, b⟩ := tb
        rw [hR] at hv
        obtain ⟨r, rfl, hr1⟩ := (show ∃ a, v = .ref a ∧ IsR cR H1 a t b from hv)
        refine q_when (b := false) (et_test (ev_op (ev_var rfl) ev_c rv_isN)) (fun z => nomatch z) (fun _ H2 e2 => ?_)
        have ha2 := (e1.trans e2) _ _ ha
        refine q_fld (y := .int (0 + 1)) (ev_op (ev_fld (ev_var rfl) ha2 C.cl C.spot rfl) ev_c rv_I0) (ev_var rfl) ha2 C.cl C.spot (by show 3 < 1000; decide) fun H3 e3 => ?_
        refine s_ret (v := .ref r) (ev_var rfl) fun H4 e4 => ?_
        have ha3 := e3 _ _ ha2
        obtain ⟨dr, hr3⟩ := hr1.mono (e2.trans e3)
        have hne : r ≠ a := fun z => by
          rw [z, ha3] at hr3
          injection hr3 with hr3
          injection hr3 with _ _ q
          exact absurd (congrArg List.length q) (by show ¬ (3 : Nat) = 2; decide)
        refine k t b hR r H4 ((((ExB.of e1).trans (ExB.of e2)).trans (ExB.of e3)).put.trans (ExB.of e4)) (e4 _ _ upd_same) ⟨dr, e4 _ _ ?_⟩
        rw [upd_ne hne]
        exact hr3
/-! ### Ratio.read -/
/-- the error's word, or the ratio -/
def rdIn (cs : List Nat) : Sum Int (Int × Int) :=
  match TL.spl [32] 0 [] cs with
  | [] => .inl 0
  | w :: r => match ratIn w with
    | none => .inl 0
    | some tb => if r = [] then .inr tb else .inl 1
def spRd (K : PySem.W.Frag) (cBT cR : Addr) : Sp := fun vs H Q E => ∃ t : V, vs = [t] ∧
  ((∃ cs : List Nat, t = .str (SX.S cs) ∧ cs.length ≤ 100000 ∧ (∀ i, rdIn cs = .inl i → Raises cBT (btF (.int 0) (.int i)) H E) ∧ (∀ t b, rdIn cs = .inr (t, b) → ∀ r H', Ex H H' → IsR cR H' r t b → Q (.ref r) H')) ∨
   (∃ tv, TyE K H t tv ∧ PySem.W.kitOne K tv (.type "str") = some false ∧ Raises cBT (btF (.int 0) (.int 0)) H E))
abbrev s_Rd : Stmt := inClass (top 17) 3
theorem sc_Rd : FnScope ["text", "scan", "found"] ["text"] (defScope s_Rd) := ⟨rfl, rfl, rfl, by decide +kernel, rfl, by decide +kernel, by decide +kernel⟩
theorem ok_Rd {f : Addr} {fd : FuncData} (F : Fun K "read" "Ratio.read" s_Rd f fd) (GS' : GC P w K mg base 3 "Scan" cS (spScI K cS cBT) [.int 0]) (GT : GF P w K mg base 6 "take_ratio" (spTR K cS cBT cR) []) (GFi : GM P w K mg base 4 cS "finish" (spFin K cS cBT) []) :
    FnG P w K mg base 7 f fd ["text"] (spRd K cBT cR) := by
  refine okG F sc_Rd (fun vs H Q E h => ?_) (fun cdv A outer s H vs Q E hr h => ?_)
  · obtain ⟨t, rfl, _⟩ := h
    rfl
  · obtain ⟨t, rfl, h⟩ := h
    have nd := sc_Rd.nd
    refine ⟨_, (pss_cons (ps_set (i := 1) nd rfl (Or.inl rfl) (pe_gc GS' (hr.mono (by decide)) (takes_of rfl rfl rfl rfl) (by rfl) (pa_cons (pv 0) pa_nil)))
      (pss_cons (ps_set (i := 2) nd rfl (Or.inl rfl) (pe_gf GT hr (takes_of rfl rfl rfl rfl) (by rfl) (pa_cons (pv 1) pa_nil)))
      (pss_cons (ps_expr (pe_gm0 (pv 1) GFi (hr.mono (by decide)) (takes_of rfl rfl rfl rfl)))
      (pss_one (ps_ret (pv 2)))))), ?_⟩
    refine q_set (go_gc (vs := [t]) (ea_cons (ev_var rfl) ea_nil) fun x dx H1 e1 hx hdx hne => ⟨x, dx, t, .int 0, rfl, upd_same, ?_⟩)
    have emk : Ex H1 (upd (upd H1 dx (.own x)) x (.ins cS dx [])) := made_ex hx hdx hne (ExB.of (Ex.refl _))
    rcases h with ⟨cs, rfl, hl, kr, k⟩ | ⟨tv, hv, hk, kr⟩
    · refine .inl ⟨cs, rfl, hl, fun tp H2 htp e2 ht hs => ⟨rfl, ?_⟩⟩
      have e12 : Ex H H2 := e1.trans (made_ex hx hdx hne e2)
      refine q_set (go_gf (vs := [.ref x]) (ea_cons (ev_var rfl) ea_nil) fun H3 e3 => ?_)
      cases hsp : TL.spl [32] 0 [] cs with
      | nil => exact absurd hsp (spl_ne _ _ _ _)
      | cons w r =>
        have hwl : w.length ≤ 100000 := by
          have := spl_len [32] cs 0 [] w (by rw [hsp]; simp)
          simp at this
          omega
        have ht' : H2 tp = some (.tup ((w :: r).map fun w => V.str (SX.S w))) := by rw [← hsp]; exact ht
        refine ⟨x, dx, tp, .int 0, w :: r, w, rfl, e3 _ _ hs, st_of (e3 _ _ ht'), rfl, hwl, fun hR => ?_, fun t b hR rr H4 e4 hs4 hrr => ?_⟩
        · refine (kr 0 ?_).mono (e12.trans e3)
          unfold rdIn
          rw [hsp]
          simp [hR]
        · have hxx : H3 tp = some (.tup ((w :: r).map fun w => V.str (SX.S w))) := e3 _ _ ht'
          have ht4 := e4 _ _ htp hxx
          have hH : H x = none := fresh_back e1 hx
          have e14 : Ex H H4 := fun c o hc => e4 c o (ne_of_none hc hH) ((e12.trans e3) c o hc)
          refine q_do (go_gm (vs := []) (ev_var rfl) hs4 rfl ea_nil fun H5 e5 => ⟨x, dx, tp, .int 0, 1, _, rfl, e5 _ _ hs4, st_of (e5 _ _ ht4), ?_⟩)
          by_cases hrn : r = []
          · subst hrn
            refine .inl ⟨by simp, fun H6 e6 => ?_⟩
            refine s_ret (v := .ref rr) (ev_var rfl) fun H7 e7 => ?_
            refine k t b ?_ rr H7 (((e14.trans e5).trans e6).trans e7) (hrr.mono ((e5.trans e6).trans e7))
            unfold rdIn
            rw [hsp]
            simp [hR]
          · refine .inr ⟨?_, (kr 1 ?_).mono (e14.trans e5)⟩
            · cases r with
              | nil => exact absurd rfl hrn
              | cons _ _ => simp; omega
            · unfold rdIn
              rw [hsp]
              simp [hR, hrn]
    · exact .inr ⟨tv, hv.mono (e1.trans emk), hk, kr.mono (e1.trans emk)⟩
end
end K2

/-! # K02e -/
set_option Elab.async false
set_option linter.all false
set_option maxRecDepth 100000
set_option maxHeartbeats 4000000
namespace K2
open PySem PyProof.Rows L2 Pk Evl
/-! ### numbers as texts -/
def intL (i : Int) : List Nat := if i < 0 then 45 :: TL.numL i.natAbs else TL.numL i.natAbs
theorem int_text (i : Int) : Str.ofString (toString i) = SX.S (intL i) := by
  cases i with
  | ofNat n =>
    have : intL (Int.ofNat n) = TL.numL n := by
      unfold intL
      rw [if_neg (by simp)]
      rfl
    rw [this]
    exact SX.num_S n
  | negSucc n =>
    have : intL (Int.negSucc n) = 45 :: TL.numL (n + 1) := by
      unfold intL
      rw [if_pos (Int.negSucc_lt_zero n)]
      rfl
    rw [this]
    refine TL.ext_tl ?_
    have h1 : TL.tl (Str.ofString (toString (((n + 1 : Nat) : Nat) : Int))) = TL.numL (n + 1) := TL.tl_num (n + 1)
    rw [TL.tl_ofString] at h1 ⊢
    have e : toString (Int.negSucc n) = "-" ++ toString (((n + 1 : Nat) : Nat) : Int) := rfl
    rw [e, String.toList_append, List.map_append, h1]
    rfl
theorem numL_le {n k : Nat} (hk : 0 < k) (h : n < 10 ^ k) : (TL.numL n).length ≤ k := TL.numL_len hk h
theorem intL_le {i : Int} {k : Nat} (hk : 0 < k) (h : i.natAbs < 10 ^ k) : (intL i).length ≤ k + 1 := by
  have := numL_le hk h
  unfold intL
  split
  · simp
    exact this
  · omega
def ratS (t b : Int) : List Nat := if b = 1 then intL t else intL t ++ ([47] ++ intL b)
section
variable {K : PySem.W.Frag} {σ : L2.St} {H H' : Hp} {te ta tb tc tl : TE} {v x y z : V}
theorem ev_fmtI {i : Int} (h : Ev te σ H (.int i)) (hz : i.natAbs.log2 < 1920) : Ev (tFmt te) σ H (.str (SX.S (intL i))) := fun H1 e Q q => h H1 e _ fun H2 e2 => .inr ⟨i, rfl, hz, by rw [int_text]; exact q H2 e2⟩
theorem S_empty : Str.empty = SX.S [] := rfl
theorem ev_join3 {a b c : List Nat} (h1 : Ev ta σ H (.str (SX.S a))) (h2 : Ev tb σ H (.str (SX.S b))) (h3 : Ev tc σ H (.str (SX.S c))) (hz : a.length + b.length + c.length ≤ 100000) :
    Ev (fun σ H Q => tJs [ta, tb, tc] Str.empty σ H fun out H1 => Q (.str out) H1) σ H (.str (SX.S (a ++ (b ++ c)))) := fun H1 e Q q =>
  h1 H1 e _ fun H2 e2 => ⟨_, rfl, by rw [S_empty, SX.S_cat, SX.S_len]; exact sz_of (by simp; omega), h2 H2 (e.trans e2) _ fun H3 e3 => ⟨_, rfl, by rw [S_empty, SX.S_cat, SX.S_cat, SX.S_len]; exact sz_of (by simp; omega),
    h3 H3 ((e.trans e2).trans e3) _ fun H4 e4 => ⟨_, rfl, by rw [S_empty, SX.S_cat, SX.S_cat, SX.S_cat, SX.S_len]; exact sz_of (by simp; omega), by
      show Q (.str (Str.empty ++ SX.S a ++ SX.S b ++ SX.S c)) H4
      rw [S_empty, SX.S_cat, SX.S_cat, SX.S_cat, List.nil_append, List.append_assoc]
      exact q H4 ((e2.trans e3).trans e4)⟩⟩⟩
theorem rc_strI2 {n : Int} (h : n.natAbs.log2 < 1920) : RC (fun xs H Q => ∃ i : Int, xs = [V.int i] ∧ i.natAbs.log2 < 1920 ∧ Q (.str (toString i)) H) [.int n] H (.str (SX.S (intL n))) := fun H1 _ _ q => ⟨n, rfl, h, by rw [int_text]; exact q H1 (Ex.refl H1)⟩
theorem rc_strO {C a dx : Addr} {fs : List (Str × V)} {sp : Sp} {w : Str} (ho : H a = some (.ins C dx fs)) (hs : SpV sp [.ref a] H (.str w)) : RC (rStrO C sp) [.ref a] H (.str w) := fun H1 e Q q =>
  ⟨a, dx, fs, rfl, e _ _ ho, hs H1 e _ (fun H2 e2 => ⟨⟨w, rfl⟩, q H2 e2⟩) _⟩
end
theorem lg {n : Nat} (h : n < 2 ^ 1900) : n.log2 < 1920 := Nat.lt_of_lt_of_le (PySem.Flt.log2_lt_of (k := 1900) (by decide) h) (by decide)
section
variable {P : Program} {w : World} {K : PySem.W.Frag} {mg : Str → Option Value} {base : Heap} {cBR cBT cS cR : Addr}
/-! ### __eq__, __str__, __repr__ -/
def spEq (cR : Addr) : Sp := fun vs H Q _ => ∃ (a b : Addr) (t u t' u' : Int), vs = [.ref a, .ref b] ∧ IsR cR H a t u ∧ IsR cR H b t' u' ∧ ∀ H', Same H H' → Q (.bl (decide (t = t') && decide (u = u'))) H'
abbrev s_Eq : Stmt := inClass (top 17) 12
theorem sc_Eq : FnScope ["self", "other"] ["self", "other"] (defScope s_Eq) := ⟨rfl, rfl, rfl, by decide +kernel, rfl, by decide +kernel, by decide +kernel⟩
theorem intEq (a b : Int) : decide (V.int a = V.int b) = decide (a = b) := by simp
theorem kit_self (C : Addr) : PySem.W.kitOne K (.ref C) (.ref C) = some true := if_pos (by simp)
theorem ok_Eq {f : Addr} {fd : FuncData} (F : Fun K "__eq__" "Ratio.__eq__" s_Eq f fd) (B : Bi mg) (C : RtC K cR) (gl : mg "Ratio" = some (.ref cR)) (GI : GF P w K mg base 1 "is_integer" (spIsI K) []) : FnG P w K mg base 2 f fd ["self", "other"] (spEq cR) := by
  refine okG F sc_Eq (fun vs H Q E h => ?_) (fun cdv A outer s H vs Q E hr h => ?_)
  · obtain ⟨a, b, t, u, t', u', rfl, _⟩ := h
    rfl
  · obtain ⟨a, b, t, u, t', u', rfl, ⟨dx, ha⟩, ⟨dy, hb⟩, k⟩ := h
    refine ⟨_, (pss_cons (ps_if (pt_val (pe_callB call_isi (by rfl) B.isinstance Boot.«isinstance» (pa_cons (pv 1) (pa_cons (pe_glob (v := .ref cR) (by rfl) gl rfl) pa_nil))))
        (pss_one (ps_ret (pe_and (pe_cmpR op_eq (pe_fld (pv 0) rfl) (pe_fld (pv 1) rfl) (nomark _)) (pe_one (pe_cmpR op_eq (pe_fld (pv 0) rfl) (pe_fld (pv 1) rfl) (nomark _))))))
        pss_nil)
      (pss_one (ps_ret (pe_and (pe_gf GI hr (takes_of rfl rfl rfl rfl) (by rfl) (pa_cons (pv 1) pa_nil)) (pe_and (pe_cmpR op_eq (pe_fld (pv 0) rfl) pe_int (nomark _)) (pe_one (pe_cmpR op_eq (pe_fld (pv 0) rfl) (pv 1) (nomark _)))))))), ?_⟩
    refine q_when (b := true) (et_B (ev_cb (ea_cons (ev_var rfl) (ea_cons ev_c ea_nil)) (rc_isi (.own _) (fun H1 e1 => C.ty (e1 _ _ hb)) (kit_self cR)))) (fun _ H1 e1 => ?_) (fun z => nomatch z)
    have ha1 := e1 _ _ ha
    have hb1 := e1 _ _ hb
    refine s_ret (v := .bl (decide (t = t') && decide (u = u'))) (ev_is (ev_andV (ev_op (ev_fld (ev_var rfl) ha1 C.cl C.top rfl) (ev_fld (ev_var rfl) hb1 C.cl C.top rfl) (rv_eq rfl)) fun _ => ev_op (ev_fld (ev_var rfl) ha1 C.cl C.bottom rfl) (ev_fld (ev_var rfl) hb1 C.cl C.bottom rfl) (rv_eq rfl)) ?_) fun H2 e2 => k H2 (e1.trans e2)
    rw [intEq, intEq]
def spStr (cR : Addr) : Sp := fun vs H Q _ => ∃ (a : Addr) (t b : Int), vs = [.ref a] ∧ IsR cR H a t b ∧ t.natAbs < 10 ^ 100 ∧ b.natAbs < 10 ^ 100 ∧ ∀ H', Same H H' → Q (.str (SX.S (ratS t b))) H'
abbrev s_Str : Stmt := inClass (top 17) 13
theorem sc_Str : FnScope ["self"] ["self"] (defScope s_Str) := ⟨rfl, rfl, rfl, by decide +kernel, rfl, by decide +kernel, by decide +kernel⟩
theorem ten100 : (10 : Nat) ^ 100 < 2 ^ 1900 := by decide +kernel
theorem ok_Str {f : Addr} {fd : FuncData} (F : Fun K "__str__" "Ratio.__str__" s_Str f fd) (B : Bi mg) (C : RtC K cR) : FnG P w K mg base 1 f fd ["self"] (spStr cR) := by
  refine okG F sc_Str (fun vs H Q E h => ?_) (fun cdv A outer s H vs Q E hr h => ?_)
  · obtain ⟨a, t, b, rfl, _⟩ := h
    rfl
  · obtain ⟨a, t, b, rfl, ⟨dx, ha⟩, ht, hb, k⟩ := h
    have lt := lg (Nat.lt_trans ht ten100)
    have lb := lg (Nat.lt_trans hb ten100)
    refine ⟨_, (pss_cons (ps_if (pt_cmpR op_eq (pe_fld (pv 0) rfl) pe_int (nomark _))
        (pss_one (ps_ret (pe_callTy call_str_int (by rfl) B.str Boot.«str» (pa_cons (pe_fld (pv 0) rfl) pa_nil))))
        pss_nil)
      (pss_one (ps_ret (pe_joined (.cons (pe_fmt (pe_fld (pv 0) rfl)) (.cons pe_str (.cons (pe_fmt (pe_fld (pv 0) rfl)) .nil))))))), ?_⟩
    refine q_when (b := decide (b = 1)) (et_is (et_test (ev_op (ev_fld (ev_var rfl) ha C.cl C.bottom rfl) ev_c (rv_eq rfl))) (intEq b 1)) (fun hb1 H1 e1 => ?_) (fun hb1 H1 e1 => ?_)
    · refine s_ret (ev_cb (ea_cons (ev_fld (ev_var rfl) (e1 _ _ ha) C.cl C.top rfl) ea_nil) (rc_strI2 lt)) fun H2 e2 => ?_
      have := k H2 (e1.trans e2)
      rwa [ratS, if_pos (of_decide_eq_true hb1)] at this
    · refine s_ret (ev_join3 (b := [47]) (ev_fmtI (ev_fld (ev_var rfl) (e1 _ _ ha) C.cl C.top rfl) lt) ev_c (ev_fmtI (ev_fld (ev_var rfl) (e1 _ _ ha) C.cl C.bottom rfl) lb) ?_) fun H2 e2 => ?_
      · have h1 := intL_le (by decide) ht
        have h2 := intL_le (by decide) hb
        simp
        omega
      · have := k H2 (e1.trans e2)
        rwa [ratS, if_neg (of_decide_eq_false hb1)] at this
abbrev s_Rep : Stmt := inClass (top 17) 14
theorem sc_Rep : FnScope ["self"] ["self"] (defScope s_Rep) := ⟨rfl, rfl, rfl, by decide +kernel, rfl, by decide +kernel, by decide +kernel⟩
theorem spv_Str {H : Hp} {a : Addr} {t b : Int} (h : IsR cR H a t b) (ht : t.natAbs < 10 ^ 100) (hb : b.natAbs < 10 ^ 100) : SpV (spStr cR) [.ref a] H (.str (SX.S (ratS t b))) := fun H1 e Q q E => ⟨a, t, b, rfl, h.mono e, ht, hb, q⟩
theorem ok_Rep {f : Addr} {fd : FuncData} (F : Fun K "__repr__" "Ratio.__repr__" s_Rep f fd) (B : Bi mg) (GS' : OM P w K mg base 1 cR "__str__" (spStr cR)) : FnG P w K mg base 4 f fd ["self"] (spStr cR) := by
  refine okG F sc_Rep (fun vs H Q E h => ?_) (fun cdv A outer s H vs Q E hr h => ?_)
  · obtain ⟨a, t, b, rfl, _⟩ := h
    rfl
  · obtain ⟨a, t, b, rfl, hR, ht, hb, k⟩ := h
    obtain ⟨dx, ha⟩ := id hR
    refine ⟨_, (pss_one (ps_ret (pe_callTy (call_strO GS' hr) (by rfl) B.str Boot.«str» (pa_cons (pv 0) pa_nil)))), ?_⟩
    exact s_ret (ev_cb (ea_cons (ev_var rfl) ea_nil) (rc_strO ha (spv_Str hR ht hb))) fun H1 e1 => k H1 e1
end
end K2

/-! # K02f -/
set_option Elab.async false
set_option linter.all false
set_option maxRecDepth 100000
set_option maxHeartbeats 4000000
namespace K2
open PySem PyProof.Rows L2 Pk Evl
/-! ### the pen -/
/-- the pen at p: a list of the cells, the turn (at most B), what is left -/
def Pen (K : PySem.W.Frag) (H : Hp) (p : Addr) (B : Nat) : Prop := ∃ (c : Addr) (ns : List Int) (turn : Nat) (left : Int), H p = some (.lst [.ref c, .int turn, .int left]) ∧ SqL K H c (ns.map V.int) ∧ c ≠ p ∧ ns.length ≤ 100000 ∧ turn ≤ B
theorem exb_rd {H H' : Hp} {a p : Addr} {u : HO} (e : ExB p H H') (n : a ≠ p) (h : Rd H a u) : Rd H' a u := by
  rcases h with h | ⟨o, h⟩
  · exact Or.inl (e a _ n h)
  · exact Or.inr ⟨o, e a _ n h⟩
theorem exb_l {K : PySem.W.Frag} {H H' : Hp} {a p : Addr} {xs : List V} (e : ExB p H H') (n : a ≠ p) (h : SqL K H a xs) : SqL K H' a xs := by
  rcases h with h | h
  · exact Or.inl (exb_rd e n h)
  · exact Or.inr h
theorem exb_t {K : PySem.W.Frag} {H H' : Hp} {a p : Addr} {xs : List V} (e : ExB p H H') (n : a ≠ p) (h : SqT K H a xs) : SqT K H' a xs := by
  rcases h with h | h
  · exact Or.inl (exb_rd e n h)
  · exact Or.inr h
theorem Pen.mono {K : PySem.W.Frag} {H H' : Hp} {p : Addr} {B B' : Nat} (h : Pen K H p B) (e : Ex H H') (hb : B ≤ B') : Pen K H' p B' := by
  obtain ⟨c, ns, t, l, h1, h2, h3, h4, h5⟩ := h
  exact ⟨c, ns, t, l, e _ _ h1, ex_l e h2, h3, h4, by omega⟩
theorem Pen.ne {K : PySem.W.Frag} {H : Hp} {p a : Addr} {B : Nat} (h : Pen K H p B) (n : H a = none) : a ≠ p := fun z => by
  obtain ⟨c, ns, t, l, h1, _⟩ := h
  rw [z, h1] at n
  cases n
theorem dp_ints {K : PySem.W.Frag} {H : Hp} {ns : List Int} : DpAll K H (ns.map V.int) (ns.map PyData.int) := by
  induction ns with
  | nil => exact .nil
  | cons n ns ih => exact .cons (.int n) ih
theorem shaped_ints (ns : List Int) : SeqAt.shaped (.list (ns.map PyData.int)) = true := by
  have h : PyData.canLayAll0 (ns.map PyData.int) = true ∧ PyData.depthAll (ns.map PyData.int) = 0 := by
    induction ns with
    | nil => exact ⟨rfl, rfl⟩
    | cons n ns ih =>
      constructor
      · show (PyData.canLay0 (.int n) && PyData.canLayAll0 (ns.map PyData.int)) = true
        rw [ih.1]
        rfl
      · show max (PyData.depth (.int n)) (PyData.depthAll (ns.map PyData.int)) = 0
        rw [ih.2]
        rfl
  unfold SeqAt.shaped
  have h1 : PyData.canLay0 (.list (ns.map PyData.int)) = true := h.1
  have h2 : PyData.depth (.list (ns.map PyData.int)) = 1 := by
    show PyData.depthAll (ns.map PyData.int) + 1 = 1
    rw [h.2]
  rw [h1, h2]
  rfl
theorem eqv_nil (ns : List Int) : PyData.eqv (.list (ns.map PyData.int)) (.list []) = decide (ns = []) := by
  cases ns <;> rfl
section
variable {P : Program} {w : World} {K : PySem.W.Frag} {mg : Str → Option Value} {base : Heap}
/-! ### _law_pen -/
def spPen (K : PySem.W.Frag) : Sp := fun vs H Q _ => ∃ (a : Addr) (ns : List Int), vs = [.ref a] ∧ SqL K H a (ns.map V.int) ∧ ns.length ≤ 40000 ∧ ∀ p H', H p = none → Ex H H' → Pen K H' p 0 → Q (.ref p) H'
abbrev s_pen : Stmt := top 19
theorem sc_pen : FnScope ["_law_script", "_law_cell"] ["_law_script"] (defScope s_pen) := ⟨rfl, rfl, rfl, by decide +kernel, rfl, by decide +kernel, by decide +kernel⟩
theorem given_ints {ns : List Int} {xs : List V} (h : xs = ns.map V.int) : given xs.length (fun _ => true) (fun i => V.int (ns.getD i 0)) = ns.map V.int := by
  rw [given_all, h, List.length_map]
  apply List.ext_getElem
  · simp
  · intro i h1 h2
    simp at h1 h2
    simp [List.getD_eq_getElem?_getD, h1]
theorem cut_ints (ns : List Int) (lo hi : Option Int) : ∃ ms : List Int, cutV (ns.map V.int) lo hi = ms.map V.int ∧ ms.length ≤ ns.length := by
  refine ⟨(ns.drop (HT.sIx (ns.map V.int).length 0 lo)).take (HT.sIx (ns.map V.int).length (ns.map V.int).length hi - HT.sIx (ns.map V.int).length 0 lo), ?_, ?_⟩
  · unfold cutV
    rw [List.map_take, List.map_drop]
  · rw [List.length_take, List.length_drop]
    omega
theorem s_retLst1 {σ : L2.St} {H : Hp} {ta : TE} {tr : TA} {D : Ends} {xs vs : List V} (h : EvL ta σ H xs) (hr : EvA tr σ H vs) (hl : vs.length < 100000)
    (k : ∀ q p H1, q ≠ p → H p = none → Ex H H1 → H1 q = some (.lst xs) → H1 p = some (.lst (.ref q :: vs)) → D.rt (.ref p) H1) : tRet (tLst (tCons ta tr)) D σ H :=
  h H (Ex.refl H) _ fun q H1 hq e1 h1 => hr H1 e1 _ fun H2 e2 => ⟨sz_of (by simp; omega), fun p hp => k q p _ (ne_of_none (e2 _ _ h1) hp) (fresh_back (e1.trans e2) hp) ((e1.trans e2).trans (Ex.new hp)) (by rw [upd_ne (ne_of_none (e2 _ _ h1) hp)]; exact e2 _ _ h1) upd_same⟩
theorem ok_pen {f : Addr} {fd : FuncData} (F : Fun K "_law_pen" "_law_pen" s_pen f fd) (B : Bi mg) : FnG P w K mg base 1 f fd ["_law_script"] (spPen K) := by
  refine okG F sc_pen (fun vs H Q E h => ?_) (fun cdv A outer s H vs Q E hr h => ?_)
  · obtain ⟨a, ns, rfl, _⟩ := h
    rfl
  · obtain ⟨a, ns, rfl, ha, hl, k⟩ := h
    have nd := sc_pen.nd
    refine ⟨_, (pss_one (ps_ret (pe_lst (pa_cons (pe_lc (own := [("_law_cell", 1)]) rfl nd (pi_list (pe_slice sl_list (pv 0) po_none (po_some pe_int))) (blkOk_by (N := ["_law_script", "_law_cell"]) (sc := defScope s_pen) (by decide +kernel)) (fun _ _ _ _ _ => (pg_name (i := 1) nd rfl (Or.inl rfl))) (fun _ _ _ _ _ => pts_nil) (fun _ _ _ _ _ => (pe_callTy call_int1 (by rfl) B.int Boot.«int» (pa_cons (pv 1) pa_nil)))) (pa_cons pe_int (pa_cons pe_int pa_nil)))))), ?_⟩
    obtain ⟨ms, em, lm⟩ := cut_ints ns none (some 63)
    have hz : (cutV (ns.map V.int) none (some 63)).length ≤ 40000 := by rw [em, List.length_map]; omega
    refine s_retLst1 (el_lcNL (fun _ => true) (fun i => V.int (ms.getD i 0)) (el_sl (K := K) (ev_var rfl) eo_none (eo_some ev_c) ha) hz (fun _ => rfl) (fun i x H1 _ _ H2 _ Q q => q H2 (Ex.refl H2)) (fun i x H1 _ hx _ => ?_)) (ea_cons ev_c (ea_cons ev_c ea_nil)) (by decide) fun q p H1 hqp hp e1 h1 h2 => ?_
    · rw [em, List.getElem?_map] at hx
      cases hm : ms[i]? with
      | none => rw [hm] at hx; cases hx
      | some n =>
        rw [hm] at hx
        cases hx
        have e : ms.getD i 0 = n := by rw [List.getD_eq_getElem?_getD, hm]; rfl
        show Ev _ _ _ (V.int (ms.getD i 0))
        rw [e]
        exact ev_cb (ea_cons (ev_var rfl) ea_nil) rc_int1
    · rw [given_ints em] at h1
      exact k p H1 hp e1 ⟨q, ms, 0, 0, h2, sq_of h1, hqp, by omega, Nat.le_refl _⟩

/-! ### _law_draw -/
def spDraw (K : PySem.W.Frag) : Sp := fun vs H Q _ => ∃ (p : Addr) (many : Int) (B : Nat), vs = [.ref p, .int many] ∧ Pen K H p B ∧ B < 1000000 ∧ 0 < many ∧ many < 1073741824 ∧
  ∀ (r : Int) H', 0 ≤ r → r < many → ExB p H H' → Pen K H' p (B + 1) → Q (.int r) H'
abbrev s_draw : Stmt := top 20
theorem sc_draw : FnScope ["_law_pen_here", "_law_many", "_law_left", "_law_turn", "_law_cell", "_law_mixed"] ["_law_pen_here", "_law_many"] (defScope s_draw) := ⟨rfl, rfl, rfl, by decide +kernel, rfl, by decide +kernel, by decide +kernel⟩
theorem pen_put {H H1 : Hp} {p c : Addr} {ns : List Int} {t : Nat} {l : Int} {B : Nat} (h2 : SqL K H c (ns.map V.int)) (h3 : c ≠ p) (h4 : ns.length ≤ 100000) (e : ExB p H H1) (hq : H1 p = some (.lst [.ref c, .int t, .int l])) (hb : t ≤ B) : Pen K H1 p B :=
  ⟨c, ns, t, l, hq, exb_l e h3 h2, h3, h4, hb⟩
/-- if c: x = e; what x has then is told by Pv -/
theorem q_ifAsgP {σ : L2.St} {H : Hp} {t : TT} {te : TE} {tz : TS} {D : Ends} {b : Bool} {i : Nat} (Pv : V → Prop) (h : EvT t σ H b) (h1 : b = true → ∃ v, Pv v ∧ Ev te σ H v) (h2 : b = false → ∃ v, Pv v ∧ σ.set i (some v) = σ) (k : ∀ v H1, Pv v → Ex H H1 → tz D (σ.set i (some v)) H1) :
    tSeq (tIfS t (tAsg te (gName i)) tNext) tz D σ H := by
  cases b with
  | true =>
    obtain ⟨v, hv, he⟩ := h1 rfl
    exact q_ifAsg h (fun _ => he) (fun z => nomatch z) fun H1 e1 => k v H1 hv e1
  | false =>
    obtain ⟨v, hv, he⟩ := h2 rfl
    exact q_ifAsg h (fun z => nomatch z) (fun _ => he) fun H1 e1 => k v H1 hv e1
theorem ok_draw {f : Addr} {fd : FuncData} (F : Fun K "_law_draw" "_law_draw" s_draw f fd) (B : Bi mg) : FnG P w K mg base 1 f fd ["_law_pen_here", "_law_many"] (spDraw K) := by
  refine okG F sc_draw (fun vs H Q E h => ?_) (fun cdv A outer s H vs Q E hr h => ?_)
  · obtain ⟨p, m, b, rfl, _⟩ := h
    rfl
  · obtain ⟨p, many, N, rfl, ⟨c, ns, turn, left, hp, hc, hcp, hlen, hturn⟩, hN, hm0, hm1, k⟩ := h
    have nd := sc_draw.nd
    refine ⟨_, (pss_cons (ps_if (pt_cmpR op_gt (pe_ix ix_list (pv 0) pe_int (fun _ _ => rfl)) pe_int (nomark _))
    (pss_cons (ps_set (i := 2) nd rfl (Or.inl rfl) (pe_ix ix_list (pv 0) pe_int (fun _ _ => rfl)))
    (pss_cons (ps_asg (pe_op op_fdiv (pe_callTy call_int1 (by rfl) B.int Boot.«int» (pa_cons (pv 2) pa_nil)) (pv 1)) (pg_sub (pv 0) pe_int set_list))
    (pss_one (ps_ret (pe_op op_mod (pe_callTy call_int1 (by rfl) B.int Boot.«int» (pa_cons (pv 2) pa_nil)) (pv 1))))))
    pss_nil)
  (pss_cons (ps_set (i := 3) nd rfl (Or.inl rfl) (pe_ix ix_list (pv 0) pe_int (fun _ _ => rfl)))
  (pss_cons (ps_asg (pe_op op_add (pv 3) pe_int) (pg_sub (pv 0) pe_int set_list))
  (pss_cons (ps_set (i := 4) nd rfl (Or.inl rfl) (pe_op op_add (pe_op op_mul pe_int (pv 3)) pe_int))
  (pss_cons (ps_if (pt_cmpR (op_neD hr.r.units) (pe_ix ix_list (pv 0) pe_int (fun _ _ => rfl)) (pe_lst pa_nil) (nomark _))
    (pss_one (ps_set (i := 4) nd rfl (Or.inl rfl) (pe_ix ix_list (pe_ix ix_list (pv 0) pe_int (fun _ _ => rfl)) (pe_op op_mod (pe_callTy call_int1 (by rfl) B.int Boot.«int» (pa_cons (pv 3) pa_nil)) (pe_callB call_len_seq (by rfl) B.len Boot.«len» (pa_cons (pe_ix ix_list (pv 0) pe_int (fun _ _ => rfl)) pa_nil))) (fun _ _ => rfl))))
    pss_nil)
  (pss_cons (ps_if (PW.pt (pw_and (pt_cmpR op_lt (pv 3) (pe_callB call_len_seq (by rfl) B.len Boot.«len» (pa_cons (pe_ix ix_list (pv 0) pe_int (fun _ _ => rfl)) pa_nil)) (nomark _)) (pw_and1 (pt_cmpR op_ge (pe_callB call_abs (by rfl) B.abs Boot.«abs» (pa_cons (pv 4) pa_nil)) (pe_op op_pow pe_int pe_int) (nomark _)))))
    (pss_cons (ps_set (i := 2) nd rfl (Or.inl rfl) (pe_op op_sub (pe_callB call_abs (by rfl) B.abs Boot.«abs» (pa_cons (pv 4) pa_nil)) (pe_op op_pow pe_int pe_int)))
    (pss_cons (ps_asg (pe_op op_fdiv (pe_callTy call_int1 (by rfl) B.int Boot.«int» (pa_cons (pv 2) pa_nil)) (pv 1)) (pg_sub (pv 0) pe_int set_list))
    (pss_one (ps_ret (pe_op op_mod (pe_callTy call_int1 (by rfl) B.int Boot.«int» (pa_cons (pv 2) pa_nil)) (pv 1))))))
    pss_nil)
  (pss_cons (ps_set (i := 5) nd rfl (Or.inl rfl) (pe_op op_mod (pe_callTy call_int1 (by rfl) B.int Boot.«int» (pa_cons (pe_op op_pow (pe_op op_add (pe_op op_add (pe_op op_mod (pe_callTy call_int1 (by rfl) B.int Boot.«int» (pa_cons (pv 4) pa_nil)) pe_int) (pe_op op_mul pe_int (pv 3))) pe_int) pe_int) pa_nil)) pe_int))
  (pss_cons (ps_set (i := 5) nd rfl (Or.inl rfl) (pe_op op_mod (pe_callTy call_int1 (by rfl) B.int Boot.«int» (pa_cons (pe_op op_pow (pe_op op_add (pe_op op_add (pe_op op_mul (pv 5) (pe_op op_add (pe_op op_mul pe_int (pv 3)) pe_int)) (pe_op op_mul (pe_op op_mul pe_int (pv 3)) (pv 3))) pe_int) pe_int) pa_nil)) pe_int))
  (pss_one (ps_ret (pe_op op_mod (pe_callTy call_int1 (by rfl) B.int Boot.«int» (pa_cons (pe_op op_fdiv (pv 5) pe_int) pa_nil)) (pv 1)))))))))))), ?_⟩
    have fin : ∀ (H1 : Hp) (t2 : Nat) (l : Int) (H2 : Hp), ExB p H H1 → t2 ≤ N + 1 → H1 p = some (.lst [.ref c, .int t2, .int l]) → ∀ x : Int, Ex H1 H2 → Q (.int (x % many)) H2 := fun H1 t2 l H2 e1 ht hq x e2 =>
      k _ H2 (Int.emod_nonneg _ (by omega)) (Int.emod_lt_of_pos _ hm0) (e1.trans (ExB.of e2)) (pen_put hc hcp hlen (e1.trans (ExB.of e2)) (e2 _ _ hq) ht)
    refine q_when (et_test (ev_op (ev_op (ev_var rfl) ev_c (rv_ixL (K := K) (sq_of hp) (atI_nat (j := 2) rfl))) ev_c rv_I0)) (fun hb H1 e1 => ?_) (fun hb H1 e1 => ?_)
    · refine q_asg (ev_op (ev_var rfl) ev_c (rv_ixL (K := K) (sq_of (e1 _ _ hp)) (atI_nat (j := 2) rfl))) fun H2 e2 => ?_
      refine q_setL (j := 2) ((e1.trans e2) _ _ hp) (ev_op (ev_cb (ea_cons (ev_var rfl) ea_nil) rc_int1) (ev_var rfl) (rv_I (show CDiv left many from ⟨hm0, hm1⟩))) (ev_var rfl) ev_c (by show 2 < 3; decide) fun H3 e3 => ?_
      refine s_ret (ev_op (ev_cb (ea_cons (ev_var rfl) ea_nil) rc_int1) (ev_var rfl) (rv_I hm0)) fun H4 e4 => ?_
      exact fin _ turn (left / many) H4 (((ExB.of e1).trans (ExB.of e2)).trans (ExB.of e3)).put (by omega) upd_same left e4
    refine q_asg (ev_op (ev_var rfl) ev_c (rv_ixL (K := K) (sq_of (e1 _ _ hp)) (atI_nat (j := 1) rfl))) fun H2 e2 => ?_
    refine q_setL (j := 1) ((e1.trans e2) _ _ hp) (ev_op (ev_var rfl) ev_c rv_I0) (ev_var rfl) ev_c (by show 1 < 3; decide) fun H3 e3 => ?_
    have x3 : ExB p H (upd H3 p (.lst [.ref c, .int ((turn : Int) + 1), .int left])) := (((ExB.of e1).trans (ExB.of e2)).trans (ExB.of e3)).put
    have hH3 : (upd H3 p (.lst [.ref c, .int ((turn : Int) + 1), .int left])) p = some (.lst [.ref c, .int ((turn + 1 : Nat) : Int), .int left]) := by rw [upd_same]; rfl
    have ht64 : -(2 ^ 64 : Int) < (turn : Int) ∧ (turn : Int) < 2 ^ 64 := ⟨by omega, by omega⟩
    refine q_asg (ev_op (ev_op ev_c (ev_var rfl) (rv_I (.inr ht64))) ev_c rv_I0) fun H4 e4 => ?_
    have hp4 := e4 _ _ hH3
    have hc4 := exb_l (x3.trans (ExB.of e4)) hcp hc
    refine q_ifAsgP (b := !decide (ns = [])) (fun v => ∃ x : Int, v = .int x) (et_is (et_test (ev_opL (ev_op (ev_var rfl) ev_c (rv_ixL (K := K) (sq_of hp4) (atI_nat (j := 0) rfl))) (el_lst ea_nil (by decide)) fun q H5 h5 e5 => rv_val fun H6 e6 Q' q' => ⟨_, _, .lst (ex_l (e5.trans e6) hc4) dp_ints, .lst (sq_of (e6 _ _ h5)) .nil, shaped_ints ns, rfl, q'⟩)) ?_) (fun hb2 => ?_) (fun hb2 => ⟨_, ⟨_, rfl⟩, rfl⟩) fun v H5 ⟨cell, hcell⟩ e5 => ?_
    · rw [eqv_nil]
    · have hne : ns ≠ [] := by simpa using hb2
      have hpos : 0 < ns.length := List.length_pos_iff.mpr hne
      have hlt : turn % ns.length < ns.length := Nat.mod_lt _ hpos
      refine ⟨.int (ns.getD (turn % ns.length) 0), ⟨_, rfl⟩, ?_⟩
      refine ev_op (ev_op (ev_var rfl) ev_c (rv_ixL (K := K) (sq_of hp4) (atI_nat (j := 0) rfl))) (ev_is (w := .int ((turn % ns.length : Nat) : Int)) (ev_op (ev_cb (ea_cons (ev_var rfl) ea_nil) rc_int1) (ev_is (w := .int (ns.length : Int)) (ev_cb (ea_cons (ev_op (ev_var rfl) ev_c (rv_ixL (K := K) (sq_of hp4) (atI_nat (j := 0) rfl))) ea_nil) (rc_lenL (K := K) (.inl hc4))) (by rw [List.length_map])) (rv_I (show (0 : Int) < (ns.length : Int) by omega))) (by rw [Int.natCast_emod])) (rv_ixL (K := K) hc4 (atI_nat ?_))
      rw [List.getElem?_map, List.getD_eq_getElem?_getD, List.getElem?_eq_getElem hlt]
      rfl
    subst hcell
    have hp5 := e5 _ _ hp4
    have hc5 := ex_l e5 hc4
    have x5 := (x3.trans (ExB.of e4)).trans (ExB.of e5)
    have p10 : CPow (10 : Int) (18 : Int) := ⟨by decide, by decide, by decide⟩
    refine q_when (et_and (et_test (ev_op (ev_var rfl) (ev_cb (ea_cons (ev_op (ev_var rfl) ev_c (rv_ixL (K := K) (sq_of hp5) (atI_nat (j := 0) rfl))) ea_nil) (rc_lenL (K := K) (.inl hc5))) rv_I0)) fun _ => et_test (ev_op (ev_cb (ea_cons (ev_var rfl) ea_nil) rc_abs) (ev_op ev_c ev_c (rv_I p10)) rv_I0)) (fun hb3 H6 e6 => ?_) (fun hb3 H6 e6 => ?_)
    · refine q_asg (ev_op (ev_cb (ea_cons (ev_var rfl) ea_nil) rc_abs) (ev_op ev_c ev_c (rv_I p10)) rv_I0) fun H7 e7 => ?_
      refine q_setL (j := 2) ((e6.trans e7) _ _ hp5) (ev_op (ev_cb (ea_cons (ev_var rfl) ea_nil) rc_int1) (ev_var rfl) (rv_I (show CDiv _ many from ⟨hm0, hm1⟩))) (ev_var rfl) ev_c (by show 2 < 3; decide) fun H8 e8 => ?_
      refine s_ret (ev_op (ev_cb (ea_cons (ev_var rfl) ea_nil) rc_int1) (ev_var rfl) (rv_I hm0)) fun H9 e9 => ?_
      exact fin _ (turn + 1) _ H9 (((x5.trans (ExB.of e6)).trans (ExB.of e7)).trans (ExB.of e8)).put (by omega) upd_same _ e9
    have m1 : ∀ x : Int, 0 ≤ x % 2147483549 ∧ x % 2147483549 < 2147483549 := fun x => ⟨Int.emod_nonneg _ (by decide), Int.emod_lt_of_pos _ (by decide)⟩
    have m2 : ∀ x : Int, 0 ≤ x % 2147483647 ∧ x % 2147483647 < 2147483647 := fun x => ⟨Int.emod_nonneg _ (by decide), Int.emod_lt_of_pos _ (by decide)⟩
    have c1 := m1 cell
    refine q_asg (ev_op (ev_cb (ea_cons (ev_op (ev_op (ev_op (ev_op (ev_cb (ea_cons (ev_var rfl) ea_nil) rc_int1) ev_c (rv_I (by decide))) (ev_op ev_c (ev_var rfl) (rv_I (.inr ht64))) rv_I0) ev_c rv_I0) ev_c (rv_I ⟨by decide, by decide, ?_⟩)) ea_nil) rc_int1) ev_c (rv_I (by decide))) fun H7 e7 => ?_
    · omega
    generalize hmx : (cell % 2147483549 + 71059 * (turn : Int) + 389) ^ (Int.toNat 5) % 2147483647 = mx
    have c2 : 0 ≤ mx ∧ mx < 2147483647 := by rw [← hmx]; exact m2 _
    have htN : (turn : Int) < 1000001 := by omega
    have sq : 0 ≤ (turn : Int) * turn ∧ (turn : Int) * turn ≤ 1000001 * 1000001 := ⟨Int.mul_nonneg (by omega) (by omega), Int.mul_le_mul (by omega) (by omega) (by omega) (by decide)⟩
    have pr : 0 ≤ mx * (2 * (turn : Int) + 1429) ∧ mx * (2 * (turn : Int) + 1429) ≤ 2147483647 * 3000000 := ⟨Int.mul_nonneg c2.1 (by omega), Int.mul_le_mul (by omega) (by omega) (by omega) (by decide)⟩
    have as : 62017 * (turn : Int) * (turn : Int) = 62017 * ((turn : Int) * turn) := Int.mul_assoc _ _ _
    refine q_asg (ev_op (ev_cb (ea_cons (ev_op (ev_op (ev_op (ev_op (ev_var rfl) (ev_op (ev_op ev_c (ev_var rfl) (rv_I (.inr ht64))) ev_c rv_I0) (rv_I (.inl ⟨by omega, by omega⟩))) (ev_op (ev_op ev_c (ev_var rfl) (rv_I (.inr ht64))) (ev_var rfl) (rv_I (.inr ht64))) rv_I0) ev_c rv_I0) ev_c (rv_I ⟨by decide, by decide, ?_⟩)) ea_nil) rc_int1) ev_c (rv_I (by decide))) fun H8 e8 => ?_
    · omega
    refine s_ret (ev_op (ev_cb (ea_cons (ev_op (ev_var rfl) ev_c (rv_I ⟨by decide, by decide⟩)) ea_nil) rc_int1) (ev_var rfl) (rv_I hm0)) fun H9 e9 => ?_
    exact fin _ (turn + 1) left H9 (((x5.trans (ExB.of e6)).trans (ExB.of e7)).trans (ExB.of e8)) (by omega) (e8 _ _ (e7 _ _ (e6 _ _ hp5))) _ e9
end
end K2

/-! # K02g -/
set_option Elab.async false
set_option linter.all false
set_option maxRecDepth 100000
set_option maxHeartbeats 4000000
namespace K2
open PySem PyProof.Rows L2 Pk Evl
section
variable {P : Program} {w : World} {K : PySem.W.Frag} {mg : Str → Option Value} {base : Heap}
theorem go_draw {σ : L2.St} {H : Hp} {tA : TA} {E : L2.St → XK} {Q : VK} {p : Addr} {many : Int} {B : Nat} (h : EvA tA σ H [.ref p, .int many]) (hp : Pen K H p B) (hB : B < 1000000) (h0 : 0 < many) (h1 : many < 1073741824)
    (k : ∀ (r : Int) H', 0 ≤ r → r < many → ExB p H H' → Pen K H' p (B + 1) → Q (.int r) H') : tCallSD (spDraw K) [] E tA σ H Q :=
  go_gf h fun H1 e1 => ⟨p, many, B, rfl, hp.mono e1 (Nat.le_refl _), hB, h0, h1, fun r H' a b c d => k r H' a b ((ExB.of e1).trans c) d⟩
/-! ### _law_pick -/
def spPick (K : PySem.W.Frag) : Sp := fun vs H Q _ => ∃ (p : Addr) (B : Nat), Pen K H p B ∧ B < 1000000 ∧
  ((∃ (a : Addr) (xs : List V), vs = [.ref p, .ref a] ∧ SqL K H a xs ∧ a ≠ p ∧ xs ≠ [] ∧ xs.length ≤ 100000 ∧ ∀ x H', x ∈ xs → ExB p H H' → Pen K H' p (B + 1) → Q x H') ∨
   (∃ l : List Nat, vs = [.ref p, .str (SX.S l)] ∧ l ≠ [] ∧ l.length ≤ 100000 ∧ ∀ c H', c ∈ l → ExB p H H' → Pen K H' p (B + 1) → Q (.str (SX.S [c])) H'))
abbrev s_pick : Stmt := top 21
theorem sc_pick : FnScope ["_law_pen_here", "_law_some"] ["_law_pen_here", "_law_some"] (defScope s_pick) := ⟨rfl, rfl, rfl, by decide +kernel, rfl, by decide +kernel, by decide +kernel⟩
theorem at_nn {α : Type} {xs : List α} {r : Int} (h0 : 0 ≤ r) (h1 : r < (xs.length : Int)) : ∃ x, x ∈ xs ∧ atI xs r = some x := by
  obtain ⟨n, rfl⟩ := Int.eq_ofNat_of_zero_le h0
  have hn : n < xs.length := by omega
  exact ⟨xs[n], List.getElem_mem hn, atI_nat (List.getElem?_eq_getElem hn)⟩
theorem ok_pick {f : Addr} {fd : FuncData} (F : Fun K "_law_pick" "_law_pick" s_pick f fd) (B : Bi mg) (GD : GF P w K mg base 1 "_law_draw" (spDraw K) []) : FnG P w K mg base 2 f fd ["_law_pen_here", "_law_some"] (spPick K) := by
  refine okG F sc_pick (fun vs H Q E h => ?_) (fun cdv A outer s H vs Q E hr h => ?_)
  · obtain ⟨p, N, _, _, ⟨a, xs, rfl, _⟩ | ⟨l, rfl, _⟩⟩ := h <;> rfl
  · obtain ⟨p, N, hp, hN, h⟩ := h
    refine ⟨_, (pss_one (ps_ret (pe_ix ix_seq (pv 1) (pe_gf GD hr (takes_of rfl rfl rfl rfl) (by rfl) (pa_cons (pv 0) (pa_cons (pe_callB (call_len_seq.or call_len_str) (by rfl) B.len Boot.«len» (pa_cons (pv 1) pa_nil)) pa_nil))) (fun _ _ => rfl)))), ?_⟩
    rcases h with ⟨a, xs, rfl, ha, hap, hne, hz, k⟩ | ⟨l, rfl, hne, hz, k⟩
    · have hpos : 0 < xs.length := List.length_pos_iff.mpr hne
      refine ⟨.ref a, rfl, go_draw (p := p) (many := (xs.length : Int)) (ea_cons (ev_var rfl) (ea_cons (fun H1 e1 Q' q' => ⟨.ref a, rfl, .inl ⟨a, xs, rfl, .inl (ex_l e1 ha), q' H1 (Ex.refl H1)⟩⟩) ea_nil)) hp hN (by omega) (by omega) fun r H' h0 h1 e1 hp' => ?_⟩
      obtain ⟨x, hx, hat⟩ := at_nn h0 h1
      exact .inl ⟨a, xs, r, x, rfl, rfl, exb_l e1 hap ha, hat, k x H' hx e1 hp'⟩
    · have hpos : 0 < l.length := List.length_pos_iff.mpr hne
      refine ⟨.str (SX.S l), rfl, go_draw (p := p) (many := (l.length : Int)) (ea_cons (ev_var rfl) (ea_cons (fun H1 e1 Q' q' => ⟨.str (SX.S l), rfl, .inr ⟨SX.S l, rfl, by rw [SX.S_len]; exact sz_of hz, by rw [SX.S_len]; exact q' H1 (Ex.refl H1)⟩⟩) ea_nil)) hp hN (by omega) (by omega) fun r H' h0 h1 e1 hp' => ?_⟩
      obtain ⟨c, hc, hat⟩ := at_nn h0 h1
      exact .inr (.inr ⟨SX.S l, r, c, rfl, rfl, by rw [SX.S_len]; exact sz_of hz, hat, k c H' hc e1 hp'⟩)
theorem go_pickS {σ : L2.St} {H : Hp} {tA : TA} {E : L2.St → XK} {Q : VK} {p : Addr} {l : List Nat} {B : Nat} (h : EvA tA σ H [.ref p, .str (SX.S l)]) (hp : Pen K H p B) (hB : B < 1000000) (hl : l ≠ []) (hz : l.length ≤ 100000)
    (k : ∀ c H', c ∈ l → ExB p H H' → Pen K H' p (B + 1) → Q (.str (SX.S [c])) H') : tCallSD (spPick K) [] E tA σ H Q :=
  go_gf h fun H1 e1 => ⟨p, B, hp.mono e1 (Nat.le_refl _), hB, .inr ⟨l, rfl, hl, hz, fun c H' a b d => k c H' a ((ExB.of e1).trans b) d⟩⟩
/-- the list a new one -/
theorem go_pickN {σ : L2.St} {H : Hp} {tl : TE} {te : TE} {E : L2.St → XK} {Q : VK} {p : Addr} {xs : List V} {B : Nat} (h0 : Ev te σ H (.ref p)) (h : EvL tl σ H xs) (hp : Pen K H p B) (hB : B < 1000000) (hne : xs ≠ []) (hz : xs.length ≤ 100000)
    (k : ∀ x H', x ∈ xs → ExB p H H' → Pen K H' p (B + 1) → Q x H') : tCallSD (spPick K) [] E (tCons te (tCons tl tNil)) σ H Q :=
  h0 H (Ex.refl H) _ fun H1 e1 => h H1 e1 _ fun a H2 ha e2 h2 => ⟨p, B, (hp.mono e1 (Nat.le_refl _)).mono e2 (Nat.le_refl _), hB, .inl ⟨a, xs, rfl, sq_of h2, (hp.mono e1 (Nat.le_refl _)).ne ha, hne, hz, fun x H' a b d => k x H' a ((ExB.of (e1.trans e2)).trans b) d⟩⟩
/-! ### _law_common -/
def spCom : Sp := fun vs H Q _ => ∃ a b : Int, vs = [.int a, .int b] ∧ a.natAbs < 2 ^ 290 ∧ b.natAbs < 2 ^ 290 ∧ ∀ H', Same H H' → Q (.int ((Nat.gcd a.natAbs b.natAbs : Nat) : Int)) H'
abbrev s_com : Stmt := top 22
theorem sc_com : FnScope ["_law_one", "_law_other", "_law_turn"] ["_law_one", "_law_other"] (defScope s_com) := ⟨rfl, rfl, rfl, by decide +kernel, rfl, by decide +kernel, by decide +kernel⟩
theorem q_par {σ : L2.St} {H : Hp} {tA : TA} {tz : TS} {D : Ends} {i j : Nat} {v w : V} (h : EvA tA σ H [v, w]) (k : ∀ H1, Ex H H1 → tz D ((σ.set i (some v)).set j (some w)) H1) : tSeq (tPar i j tA) tz D σ H := h H (Ex.refl H) _ fun H1 e1 => ⟨v, w, rfl, k H1 e1⟩
theorem s_par {σ : L2.St} {H : Hp} {tA : TA} {D : Ends} {i j : Nat} {v w : V} (h : EvA tA σ H [v, w]) (k : ∀ H1, Ex H H1 → D.nx ((σ.set i (some v)).set j (some w)) H1) : tPar i j tA D σ H := h H (Ex.refl H) _ fun H1 e1 => ⟨v, w, rfl, k H1 e1⟩
theorem abs_nat (a : Int) : (if a < 0 then -a else a) = ((a.natAbs : Nat) : Int) := by split <;> omega
/-- what Euclid's pair keeps at turn i -/
def Eu (g : Nat) (i x y : Nat) : Prop := Nat.gcd x y = g ∧ (i = 0 → x < 2 ^ 290 ∧ y < 2 ^ 290) ∧ (0 < i → y < x ∧ x * y * 2 ^ (i - 1) < 2 ^ 580)
theorem Eu.step {g i x y : Nat} (h : Eu g i x y) (hy : y ≠ 0) : Eu g (i + 1) y (x % y) := by
  obtain ⟨h1, h2, h3⟩ := h
  have hm : x % y < y := Nat.mod_lt _ (by omega)
  refine ⟨?_, fun z => by omega, fun _ => ⟨hm, ?_⟩⟩
  · rw [← h1, Nat.gcd_comm, ← Nat.gcd_rec, Nat.gcd_comm]
  · rw [Nat.add_sub_cancel]
    by_cases hi : i = 0
    · subst hi
      obtain ⟨hx, hy'⟩ := h2 rfl
      rw [Nat.pow_zero, Nat.mul_one]
      have h4 : x % y < 2 ^ 290 := Nat.lt_trans hm hy'
      calc y * (x % y) < 2 ^ 290 * 2 ^ 290 := Nat.mul_lt_mul'' hy' h4
        _ = 2 ^ 580 := by rw [← Nat.pow_add]
    · obtain ⟨h5, h6⟩ := h3 (by omega)
      have h7 : 2 * (x % y) ≤ x := by
        have := Nat.div_add_mod x y
        have h8 : 1 ≤ x / y := (Nat.le_div_iff_mul_le (by omega)).mpr (by omega)
        have h9 : y * 1 ≤ y * (x / y) := Nat.mul_le_mul_left _ h8
        omega
      have e : 2 ^ i = 2 * 2 ^ (i - 1) := by
        rw [← Nat.pow_succ']
        congr 1
        omega
      calc y * (x % y) * 2 ^ i = y * (2 * (x % y)) * 2 ^ (i - 1) := by rw [e]; simp [Nat.mul_assoc, Nat.mul_left_comm, Nat.mul_comm]
        _ ≤ y * x * 2 ^ (i - 1) := Nat.mul_le_mul_right _ (Nat.mul_le_mul_left _ h7)
        _ = x * y * 2 ^ (i - 1) := by rw [Nat.mul_comm y x]
        _ < 2 ^ 580 := h6
theorem Eu.done {g x y : Nat} (h : Eu g 600 x y) : y = 0 := by
  obtain ⟨_, _, h3⟩ := h
  obtain ⟨h5, h6⟩ := h3 (by decide)
  cases y with
  | zero => rfl
  | succ y =>
    exfalso
    have h7 : 1 ≤ x * (y + 1) := Nat.mul_pos (by omega) (by omega)
    have h8 : 2 ^ 599 ≤ x * (y + 1) * 2 ^ 599 := Nat.le_mul_of_pos_left _ h7
    have h9 : (2 : Nat) ^ 580 < 2 ^ 599 := Nat.pow_lt_pow_right (by decide) (by decide)
    have h10 : x * (y + 1) * 2 ^ 599 < 2 ^ 580 := h6
    omega
theorem ok_com {f : Addr} {fd : FuncData} (F : Fun K "_law_common" "_law_common" s_com f fd) (B : Bi mg) : FnG P w K mg base 1 f fd ["_law_one", "_law_other"] spCom := by
  refine okG F sc_com (fun vs H Q E h => ?_) (fun cdv A outer s H vs Q E hr h => ?_)
  · obtain ⟨a, b, rfl, _⟩ := h
    rfl
  · obtain ⟨a, b, rfl, ha, hb, k⟩ := h
    have nd := sc_com.nd
    refine ⟨_, (pss_cons (ps_par (i := 0) (j := 1) rfl nd rfl rfl (by decide) rfl rfl (pa_cons (pe_callB call_abs (by rfl) B.abs Boot.«abs» (pa_cons (pv 0) pa_nil)) (pa_cons (pe_callB call_abs (by rfl) B.abs Boot.«abs» (pa_cons (pv 1) pa_nil)) pa_nil)) (by rfl))
  (pss_cons (ps_for (passes_of rfl) rfl (pi_range1 (by rfl) B.range (pa_cons pe_int pa_nil)) (pg_name (i := 2) nd rfl (Or.inl rfl))
    (pss_cons (ps_if (pt_cmpR op_eq (pv 1) pe_int (nomark _))
      (pss_one ps_break)
      pss_nil)
    (pss_one (ps_par (i := 0) (j := 1) rfl nd rfl rfl (by decide) rfl rfl (pa_cons (pv 1) (pa_cons (pe_op op_mod (pe_callTy call_int1 (by rfl) B.int Boot.«int» (pa_cons (pv 0) pa_nil)) (pv 1)) pa_nil)) (by rfl)))))
  (pss_one (ps_ret (pv 0))))), ?_⟩
    refine q_par (ea_cons (ev_is (ev_cb (ea_cons (ev_var rfl) ea_nil) rc_abs) (by rw [abs_nat])) (ea_cons (ev_is (ev_cb (ea_cons (ev_var rfl) ea_nil) rc_abs) (by rw [abs_nat])) ea_nil)) fun H1 e1 => ?_
    refine q_forR1 (ea_cons ev_c ea_nil) (by decide) (fun i σ' H' => ∃ (x y : Nat) (t : Option V), σ' = [some (.int x), some (.int y), t] ∧ Ex H H' ∧ Eu (Nat.gcd a.natAbs b.natAbs) i x y) (fun H2 e2 => ⟨_, _, _, rfl, e1.trans e2, rfl, fun _ => ⟨ha, hb⟩, fun z => absurd z (by decide)⟩) (fun i σ' H' hi h => ?_) (fun σ' H' h => ?_)
    · obtain ⟨x, y, t, rfl, e2, hE⟩ := h
      refine q_when (et_is (b := decide (y = 0)) (et_test (ev_op (ev_var rfl) ev_c (rv_eq rfl))) ?_) (fun hb2 H3 e3 => ?_) (fun hb2 H3 e3 => ?_)
      · rw [intEq, decide_eq_decide]
        omega
      · have hy : y = 0 := of_decide_eq_true hb2
        refine s_ret (ev_var rfl) fun H4 e4 => ?_
        have e := k H4 ((e2.trans e3).trans e4)
        rw [← hE.1, hy, Nat.gcd_zero_right] at e
        exact e
      · have hy : y ≠ 0 := of_decide_eq_false hb2
        refine s_par (ea_cons (ev_var rfl) (ea_cons (ev_is (w := .int ((x % y : Nat) : Int)) (ev_op (ev_cb (ea_cons (ev_var rfl) ea_nil) rc_int1) (ev_var rfl) (rv_I (show (0 : Int) < (y : Int) by omega))) (by rw [Int.natCast_emod])) ea_nil)) fun H4 e4 => ?_
        exact ⟨y, x % y, _, rfl, (e2.trans e3).trans e4, hE.step hy⟩
    · obtain ⟨x, y, t, rfl, e2, hE⟩ := h
      refine s_ret (ev_var rfl) fun H4 e4 => ?_
      have hy := Eu.done hE
      have e := k H4 (e2.trans e4)
      rw [← hE.1, hy, Nat.gcd_zero_right] at e
      exact e
theorem spv_com {H : Hp} {a b : Int} (ha : a.natAbs < 2 ^ 290) (hb : b.natAbs < 2 ^ 290) : SpV spCom [.int a, .int b] H (.int ((Nat.gcd a.natAbs b.natAbs : Nat) : Int)) := fun H1 e Q q E => ⟨a, b, rfl, ha, hb, q⟩
end
end K2

/-! # K02h -/
set_option Elab.async false
set_option linter.all false
set_option maxRecDepth 100000
set_option maxHeartbeats 4000000
namespace K2
open PySem PyProof.Rows L2 Pk Evl
/-- digits without a zero ahead -/
def Canon (l : List Nat) : Prop := NumText.AllDigits l ∧ ∃ c r, l = c :: r ∧ 49 ≤ c
theorem canon_app {l m : List Nat} (h : Canon l) (hm : NumText.AllDigits m) : Canon (l ++ m) := by
  obtain ⟨h1, c, r, rfl, hc⟩ := h
  refine ⟨fun x hx => ?_, c, r ++ m, rfl, hc⟩
  rcases List.mem_append.mp hx with z | z
  · exact h1 x z
  · exact hm x z
theorem canon_take {l : List Nat} {n : Nat} (h : Canon l) (hn : 0 < n) : Canon (l.take n) := by
  obtain ⟨h1, c, r, rfl, hc⟩ := h
  cases n with
  | zero => omega
  | succ n => exact ⟨fun x hx => h1 x (List.mem_of_mem_take hx), c, r.take n, rfl, hc⟩
theorem numL_two {n : Nat} (h : 10 ≤ n) : 2 ≤ (TL.numL n).length := by
  rw [TL.numL_step h, List.length_append, List.length_singleton]
  have := List.length_pos_iff.mpr (TL.numL_ne (n / 10))
  omega
theorem S_slice_to (l : List Nat) (n : Nat) (h : l.length ≤ 100000) : Txt.slice (SX.S l) none (some (n : Int)) = SX.S (l.take n) := by
  rw [SX.slice_to (by omega)]
  rfl
section
variable {σ : L2.St} {H : Hp} {ta tb te : TE} {r : R2} {Q : VK} {x y : V} {D : Ends} {i : Nat} {tl th : TO} {rc : List V → Hp → VK → Prop} {rs : V → Option Int → Option Int → Hp → VK → Prop}
theorem s_set (h : te σ H fun v H1 => D.nx (σ.set i (some v)) H1) : tAsg te (gName i) D σ H := h
theorem g_op (ha : Ev ta σ H x) (h : ∀ H1, Ex H H1 → tb σ H1 fun y H2 => r x y H2 Q) : tOp r ta tb σ H Q := ha H (Ex.refl H) _ h
theorem g_op1 (h : ta σ H fun x H1 => tb σ H1 fun y H2 => r x y H2 Q) : tOp r ta tb σ H Q := h
theorem g_cb1 (h : ta σ H fun x H1 => rc [x] H1 Q) : tCB rc (tCons ta tNil) σ H Q := h
theorem g_sl (h : te σ H fun x H1 => tl σ H1 fun l H2 => th σ H2 fun m H3 => rs x l m H3 Q) : tSl rs te tl th σ H Q := h
end
section
variable {P : Program} {w : World} {K : PySem.W.Frag} {mg : Str → Option Value} {base : Heap}
/-! ### _law_digits -/
def spDig (K : PySem.W.Frag) : Sp := fun vs H Q _ => ∃ (p : Addr) (n B : Nat), vs = [.ref p, .int (n : Int)] ∧ Pen K H p B ∧ B < 900000 ∧ 0 < n ∧ n ≤ 1000 ∧ ∀ l H', Canon l → l.length = n → ExB p H H' → Pen K H' p (B + n) → Q (.str (SX.S l)) H'
abbrev s_dig : Stmt := top 23
theorem sc_dig : FnScope ["_law_pen_here", "_law_many", "_law_found"] ["_law_pen_here", "_law_many"] (defScope s_dig) := ⟨rfl, rfl, rfl, by decide +kernel, rfl, by decide +kernel, by decide +kernel⟩
theorem ok_dig {f : Addr} {fd : FuncData} (F : Fun K "_law_digits" "_law_digits" s_dig f fd) (B : Bi mg) (GD : GF P w K mg base 1 "_law_draw" (spDraw K) []) (GP : GF P w K mg base 2 "_law_pick" (spPick K) []) : FnG P w K mg base 3 f fd ["_law_pen_here", "_law_many"] (spDig K) := by
  refine okG F sc_dig (fun vs H Q E h => ?_) (fun cdv A outer s H vs Q E hr h => ?_)
  · obtain ⟨p, n, N, rfl, _⟩ := h
    rfl
  · obtain ⟨p, n, N, rfl, hp, hN, hn0, hn1, k⟩ := h
    have nd := sc_dig.nd
    refine ⟨_, (pss_cons (ps_set (i := 2) nd rfl (Or.inl rfl) (pe_gf GP hr (takes_of rfl rfl rfl rfl) (by rfl) (pa_cons (pv 0) (pa_cons pe_str pa_nil))))
  (pss_cons (ps_while (passes_of rfl) (pt_cmpR op_lt (pe_callB call_len_str (by rfl) B.len Boot.«len» (pa_cons (pv 2) pa_nil)) (pv 1) (nomark _))
    (pss_one (ps_set (i := 2) nd rfl (Or.inl rfl) (pe_op op_add_str (pv 2) (pe_slice C8.sl_txt (pe_callTy call_str_int (by rfl) B.str Boot.«str» (pa_cons (pe_op op_add (pe_op op_pow pe_int pe_int) (pe_gf GD (hr.mono (by decide)) (takes_of rfl rfl rfl rfl) (by rfl) (pa_cons (pv 0) (pa_cons (pe_op op_pow pe_int pe_int) pa_nil)))) pa_nil)) (po_some pe_int) po_none)))))
  (pss_one (ps_ret (pe_slice C8.sl_txt (pv 2) po_none (po_some (pv 1))))))), ?_⟩
    have hlit : (Str.ofString "123456789") = SX.S [49, 50, 51, 52, 53, 54, 55, 56, 57] := rfl
    refine q_set (go_pickS (p := p) (l := [49, 50, 51, 52, 53, 54, 55, 56, 57]) (B := N) (ea_cons (ev_var rfl) (ea_cons ev_c ea_nil)) hp (by omega) (by decide) (by decide) fun c H1 hc e1 hp1 => ?_)
    have hc' : 49 ≤ c ∧ c ≤ 57 := by
      simp at hc
      omega
    refine q_while (fun m σ' H' => ∃ l : List Nat, σ' = [some (.ref p), some (.int (n : Int)), some (.str (SX.S l))] ∧ Canon l ∧ m = n - l.length ∧ ExB p H H' ∧ l.length ≤ n + 10 ∧ ∃ b, Pen K H' p b ∧ b ≤ N + l.length ∧ b ≤ N + n) (n - 1) ⟨[c], rfl, ⟨fun x hx => by simp at hx; omega, c, [], rfl, hc'.1⟩, rfl, e1, by simp, N + 1, hp1, by simp, by omega⟩ fun m σ' H' ⟨l, hσ, hl, hm, e2, hz, b, hp2, hb, hbn⟩ => ?_
    subst hσ
    have hzl : (SX.S l).length ≤ sizeLine := by rw [SX.S_len]; exact sz_of (by omega)
    refine ⟨decide (l.length < n), et_is (et_test (ev_op (ev_cb (ea_cons (ev_var rfl) ea_nil) (rc_lenS hzl)) (ev_var rfl) rv_I0)) ?_, fun hlt H3 e3 => ?_, fun hlt H3 e3 => ?_⟩
    · rw [SX.S_len, decide_eq_decide]
      omega
    · have hlt' : l.length < n := of_decide_eq_true hlt
      refine ⟨_, fun σ2 H2 h => h, ?_⟩
      have p5 : CPow (10 : Int) (5 : Int) := ⟨by decide, by decide, by decide⟩
      refine s_set (g_op (ev_var (v := .str (SX.S l)) rfl) fun H4 e4 => ?_)
      refine g_sl (g_cb1 (g_op (ev_op ev_c ev_c (rv_I p5)) fun H5 e5 => ?_))
      have e25 : Ex H' H5 := (e3.trans e4).trans e5
      refine go_draw (p := p) (many := (10 : Int) ^ (Int.toNat 5)) (B := b) (ea_cons (ev_var rfl) (ea_cons (ev_op ev_c ev_c (rv_I p5)) ea_nil)) (hp2.mono e25 (Nat.le_refl _)) (by omega) (by decide) (by decide) fun r H6 r0 r1 e6 hp6 => ?_
      have r1' : r < 100000 := r1
      obtain ⟨rn, rfl⟩ := Int.eq_ofNat_of_zero_le r0
      have hnum : (10 : Int) ^ (Int.toNat 5) + (rn : Int) = ((100000 + rn : Nat) : Int) := by
        have : (10 : Int) ^ (Int.toNat 5) = 100000 := by decide
        rw [this]
        omega
      have hlen6 : (TL.numL (100000 + rn)).length ≤ 6 := TL.numL_len (by decide) (by omega)
      have hlen2 : 2 ≤ (TL.numL (100000 + rn)).length := numL_two (by omega)
      refine rv_I0 (g := fun i j => V.int (i + j)) H6 (Ex.refl H6) _ fun H7 e7 => ?_
      rw [hnum]
      refine ⟨((100000 + rn : Nat) : Int), rfl, ?_, ?_⟩
      · exact lg (Nat.lt_of_lt_of_le (show (((100000 + rn : Nat) : Int)).natAbs < 2 ^ 20 by omega) (Nat.pow_le_pow_right (by decide) (by decide)))
      rw [SX.num_S]
      refine ⟨1, rfl, ?_⟩
      refine ⟨SX.S (TL.numL (100000 + rn)), rfl, by rw [SX.S_len]; exact sz_of (by omega), ?_⟩
      rw [SX.slice_from (by decide)]
      have hd : (List.drop (Int.toNat 1) (TL.numL (100000 + rn))) = (TL.numL (100000 + rn)).drop 1 := rfl
      rw [hd]
      refine ⟨_, _, rfl, rfl, by rw [SX.S_len, SX.S_len, List.length_drop]; exact sz_of (by omega), ?_⟩
      rw [SX.S_cat]
      have eH : ExB p H H7 := ((e2.trans (ExB.of e25)).trans e6).trans (ExB.of e7)
      refine ⟨n - (l ++ (TL.numL (100000 + rn)).drop 1).length, ?_, l ++ (TL.numL (100000 + rn)).drop 1, rfl, canon_app hl (fun x hx => TL.numL_digits _ x (List.mem_of_mem_drop hx)), rfl, eH, ?_, b + 1, hp6.mono e7 (Nat.le_refl _), ?_, ?_⟩
      · rw [List.length_append, List.length_drop]; omega
      · rw [List.length_append, List.length_drop]; omega
      · rw [List.length_append, List.length_drop]; omega
      · omega
    · have hge : ¬ l.length < n := of_decide_eq_false hlt
      refine s_ret (v := .str (SX.S (l.take n))) (ev_is (ev_sl (ev_var rfl) eo_none (eo_some (ev_var rfl)) hzl) ?_) fun H4 e4 => ?_
      · rw [S_slice_to _ _ (by omega)]
      · exact k _ H4 (canon_take hl hn0) (by rw [List.length_take]; omega) ((e2.trans (ExB.of e3)).trans (ExB.of e4)) ((hp2.mono e3 (Nat.le_refl _)).mono e4 (by omega))
end
end K2

/-! # K02i -/
set_option Elab.async false
set_option linter.all false
set_option maxRecDepth 100000
set_option maxHeartbeats 4000000
namespace K2
open PySem PyProof.Rows L2 Pk Evl
section
variable {σ : L2.St} {H : Hp} {tl : TE} {tu tz : TS} {D : Ends} {j : Nat}
theorem q_forS {l : List Nat} (h : Ev tl σ H (.str (SX.S l))) (Pv : Nat → L2.St → Hp → Prop) (h0 : ∀ H1, Ex H H1 → Pv 0 σ H1)
    (hs : ∀ i c σ' H', l[i]? = some c → Pv i σ' H' → tu { D with nx := Pv (i + 1), ct := Pv (i + 1), bk := tz D } (σ'.set j (some (.str (SX.S [c])))) H') (hd : ∀ σ' H', Pv l.length σ' H' → tz D σ' H') : tSeq (tFor (iStr tl) (gName j) tu) tz D σ H :=
  h H (Ex.refl H) _ fun H1 e => ⟨SX.S l, rfl, by
    have hn : (SX.S l).cps.size = l.length := by simp [SX.S]
    refine for_it (D := { D with nx := tz D }) (n := (SX.S l).cps.size) walk_str Pv (h0 H1 e) (fun _ _ _ _ _ => True.intro) (fun i x σ' H2 H3 hi p hy => ?_) (fun σ' H' p => ?_)
    · obtain ⟨rfl, c, hc, rfl⟩ := hy
      exact hs i c σ' _ (by simpa [SX.S] using hc) p
    · rw [hn] at p
      exact hd σ' H' p⟩
end
section
variable {P : Program} {w : World} {K : PySem.W.Frag} {mg : Str → Option Value} {base : Heap}
/-! ### _law_whole -/
abbrev s_who : Stmt := top 25
theorem sc_who : FnScope ["_law_word", "_law_plain", "_law_number", "_law_sign"] ["_law_word"] (defScope s_who) := ⟨rfl, rfl, rfl, by decide +kernel, rfl, by decide +kernel, by decide +kernel⟩
theorem dig_index : ∀ k : Nat, k < 10 → Builtin.Str.occurrences (Str.ofString "0123456789") (SX.S [48 + k]) 0 (Str.ofString "0123456789").length 1 = [k] := by decide +kernel
theorem notDig_numIn {l : List Nat} {c : Nat} (hc : c ∈ plainOf l) (hd : isDig c = false) : numIn l = none := by
  unfold numIn
  rw [if_pos]
  exact .inr (.inr (List.any_eq_true.mpr ⟨c, hc, by rw [hd]; rfl⟩))
theorem take1 {l : List Nat} {c : Nat} {r : List Nat} (h : l = c :: r) : l.take 1 = [c] := by rw [h]; rfl
theorem ok_who {f : Addr} {fd : FuncData} (F : Fun K "_law_whole" "_law_whole" s_who f fd) (B : Bi mg) : FnG P w K mg base 1 f fd ["_law_word"] spNum := by
  refine okG F sc_who (fun vs H Q E h => ?_) (fun cdv A outer s H vs Q E hr h => ?_)
  · obtain ⟨l, rfl, _⟩ := h
    rfl
  · obtain ⟨l, rfl, hl, k⟩ := h
    have nd := sc_who.nd
    refine ⟨_, (pss_cons (ps_set (i := 1) nd rfl (Or.inl rfl) (pv 0))
  (pss_cons (ps_if (PW.pt (pw_and (pt_cmpR op_ne (pv 0) pe_str (nomark _)) (pw_and1 (pt_cmpR op_eq (pe_ix ix_str (pv 0) pe_int (fun _ _ => rfl)) pe_str (nomark _)))))
    (pss_one (ps_set (i := 1) nd rfl (Or.inl rfl) (pe_slice C8.sl_txt (pv 0) (po_some pe_int) po_none)))
    pss_nil)
  (pss_cons (ps_if (PW.pt (pw_or (pt_cmpR op_lt (pe_callB call_len_str (by rfl) B.len Boot.«len» (pa_cons (pv 1) pa_nil)) pe_int (nomark _)) (pw_or1 (pt_cmpR op_gt (pe_callB call_len_str (by rfl) B.len Boot.«len» (pa_cons (pv 1) pa_nil)) pe_int (nomark _)))))
    (pss_one (ps_ret pe_non))
    pss_nil)
  (pss_cons (ps_set (i := 2) nd rfl (Or.inl rfl) pe_int)
  (pss_cons (ps_for (passes_of rfl) rfl (pi_str (pv 1)) (pg_name (i := 3) nd rfl (Or.inl rfl))
    (pss_cons (ps_if (pt_cmpR op_notIn_sign (pv 3) pe_str rfl)
      (pss_one (ps_ret pe_non))
      pss_nil)
    (pss_one (ps_set (i := 2) nd rfl (Or.inl rfl) (pe_op op_add (pe_op op_mul pe_int (pv 2)) (pe_bm PySem.F.plainAttrs_str PySem.F.slot_str_index PySem.F.type_str_index mt_sindex pe_str (pa_cons (pv 3) pa_nil)))))))
  (pss_cons (ps_if (PW.pt (pw_and (pt_cmpR op_eq (pe_ix ix_str (pv 1) pe_int (fun _ _ => rfl)) pe_str (nomark _)) (pw_and1 (PW.pt (pw_or (pt_cmpR op_gt (pe_callB call_len_str (by rfl) B.len Boot.«len» (pa_cons (pv 1) pa_nil)) pe_int (nomark _)) (pw_or1 (pt_cmpR op_ne (pv 1) (pv 0) (nomark _))))))))
    (pss_one (ps_ret pe_non))
    pss_nil)
  (pss_one (ps_ret (pe_ifExp (pt_cmpR op_eq (pv 1) (pv 0) (nomark _)) (pv 2) (pe_un un_neg (pv 2))))))))))), ?_⟩
    have hz : (SX.S l).length ≤ sizeLine := by rw [SX.S_len]; exact sz_of hl
    have hpl : (plainOf l).length ≤ 100000 := by
      unfold plainOf
      split
      · rw [List.length_drop]; omega
      · exact hl
    have hz2 : (SX.S (plainOf l)).length ≤ sizeLine := by rw [SX.S_len]; exact sz_of hpl
    refine q_asg (ev_var rfl) fun H1 e1 => ?_
    refine q_ifAsg (v := .str (SX.S (plainOf l))) (b := decide (l.take 1 = [45])) ?_ (fun hb => ev_is (ev_sl (ev_var rfl) (eo_some ev_c) eo_none hz) ?_) (fun hb => ?_) fun H2 e2 => ?_
    · cases l with
      | nil => exact et_is (et_and (a := false) (b := false) (et_test (ev_op (ev_var rfl) ev_c (rv_ne rfl))) fun z => nomatch z) rfl
      | cons c r =>
        refine et_is (et_and (et_test (ev_op (ev_var rfl) ev_c (rv_ne rfl))) fun _ => et_test (ev_op (ev_op (ev_var rfl) ev_c (rv_ixS (c := c) (by rw [SX.S_len]; exact hl) (atI_nat (j := 0) rfl))) ev_c (rv_eq rfl))) ?_
        rw [strLitN (z := Str.ofString "") [] rfl, show (V.str ⟨#[c]⟩ : V) = V.str (SX.S [c]) from rfl, strLit (z := Str.ofString "-") [45] rfl]
        simp
    · rw [SX.slice_from (by decide), plainOf, if_pos (of_decide_eq_true hb)]
      rfl
    · rw [plainOf, if_neg (of_decide_eq_false hb)]
      rfl
    refine q_when (b := decide (plainOf l = [] ∨ 60 < (plainOf l).length)) (et_is (et_or (et_test (ev_op (ev_cb (ea_cons (ev_var rfl) ea_nil) (rc_lenS hz2)) ev_c rv_I0)) fun _ => et_test (ev_op (ev_cb (ea_cons (ev_var rfl) ea_nil) (rc_lenS hz2)) ev_c rv_I0)) ?_) (fun hb H3 e3 => ?_) (fun hb H3 e3 => ?_)
    · rw [SX.S_len, Bool.eq_iff_iff]
      simp only [Bool.or_eq_true, decide_eq_true_eq]
      have : plainOf l = [] ↔ ((plainOf l).length : Int) < 1 := by
        rw [← List.length_eq_zero_iff]
        omega
      rw [this]
      omega
    · have e : numIn l = none := by
        unfold numIn
        rw [if_pos]
        rcases of_decide_eq_true hb with z | z
        · exact .inl z
        · exact .inr (.inl z)
      rw [e] at k
      exact k H3 ((e1.trans e2).trans e3)
    have hg := of_decide_eq_false hb
    have h0 : plainOf l ≠ [] := fun z => hg (.inl z)
    have h1 : ¬ 60 < (plainOf l).length := fun z => hg (.inr z)
    refine q_asg ev_c fun H4 e4 => ?_
    have ex4 := ((e1.trans e2).trans e3).trans e4
    refine q_forS (ev_var rfl) (fun i σ' H' => ∃ t : Option V, σ' = [some (.str (SX.S l)), some (.str (SX.S (plainOf l))), some (.int ((NumText.digitsVal ((plainOf l).take i) : Nat) : Int)), t] ∧ Ex H H' ∧ ∀ c ∈ (plainOf l).take i, isDig c = true) (fun H5 e5 => ⟨_, rfl, ex4.trans e5, fun c hc => by simp at hc⟩) (fun i c σ' H' hc h => ?_) (fun σ' H' h => ?_)
    · obtain ⟨t, rfl, ex, hd⟩ := h
      have hcm : c ∈ plainOf l := List.mem_of_getElem? hc
      refine q_when (b := !isDig c) (et_is (et_test (ev_op (ev_var rfl) ev_c rv_niS)) (by rw [figs])) (fun hb2 H5 e5 => ?_) (fun hb2 H5 e5 => ?_)
      · have e : numIn l = none := notDig_numIn hcm (by simpa using hb2)
        rw [e] at k
        exact k H5 (ex.trans e5)
      · have hdc : isDig c = true := by simpa using hb2
        have hr2 : 48 ≤ c ∧ c ≤ 57 := by simpa [isDig] using hdc
        have hlt := digs_lt ((plainOf l).take i) fun x hx => by
          have := hd x hx
          simp [isDig] at this
          omega
        refine s_set (g_op (x := .int (10 * ((NumText.digitsVal ((plainOf l).take i) : Nat) : Int))) (ev_op ev_c (ev_var rfl) (rv_I (.inl ⟨by decide, by decide⟩))) fun H6 e6 => ?_)
        have hidx := dig_index (c - 48) (by omega)
        rw [show 48 + (c - 48) = c by omega] at hidx
        refine ⟨rfl, ea_cons (ev_var rfl) ea_nil H6 (Ex.refl H6) _ fun H7 e7 => ⟨_, _, c - 48, [], rfl, rfl, hidx, _, _, rfl, rfl, ?_⟩⟩
        have hi : i < (plainOf l).length := (List.getElem?_eq_some_iff.mp hc).1
        have et : (plainOf l).take (i + 1) = (plainOf l).take i ++ [c] := by
          rw [List.take_add_one, hc]
          rfl
        refine ⟨some (.str (SX.S [c])), ?_, ((ex.trans e5).trans e6).trans e7, fun x hx => ?_⟩
        · rw [et, NumText.digitsVal_snoc]
          have : (10 * ((NumText.digitsVal ((plainOf l).take i) : Nat) : Int) + ((c - 48 : Nat) : Int)) = ((NumText.digitsVal ((plainOf l).take i) * 10 + (c - 48) : Nat) : Int) := by push_cast; omega
          rw [← this]
          rfl
        · rw [et] at hx
          rcases List.mem_append.mp hx with z | z
          · exact hd x z
          · simp at z
            rw [z]
            exact hdc
    · obtain ⟨t, rfl, ex, hd⟩ := h
      rw [List.take_length] at hd
      rw [List.take_length]
      have h2 : ¬ ((plainOf l).any (fun c => !isDig c) = true) := fun z => by
        obtain ⟨c, hc, hn⟩ := List.any_eq_true.mp z
        rw [hd c hc] at hn
        cases hn
      have hgg : ¬ (plainOf l = [] ∨ 60 < (plainOf l).length ∨ (plainOf l).any (fun c => !isDig c) = true) := fun z => by
        rcases z with z | z | z
        · exact h0 z
        · exact h1 z
        · exact h2 z
      obtain ⟨c0, r0, ec⟩ := List.exists_cons_of_ne_nil h0
      have hpe : plainOf l = l ↔ ¬ l.take 1 = [45] := by
        constructor
        · intro e z
          have := plain_neg z
          rw [e] at this
          exact absurd (congrArg List.length this) (by simp)
        · exact plain_pos
      have hcond : ((plainOf l).take 1 = [48] ∧ l ≠ [48]) ↔ (c0 = 48 ∧ (1 < (plainOf l).length ∨ plainOf l ≠ l)) := by
        rw [take1 ec]
        constructor
        · rintro ⟨a, b⟩
          have ha : c0 = 48 := by simpa using a
          refine ⟨ha, ?_⟩
          by_cases hh : plainOf l = l
          · left
            rw [hh] at ec
            cases r0 with
            | nil => rw [ec, ha] at b; exact absurd rfl b
            | cons _ _ => rw [hh, ec]; simp
          · exact .inr hh
        · rintro ⟨a, b⟩
          refine ⟨by rw [a], fun z => ?_⟩
          have hp1 : plainOf l = l := hpe.mpr (by rw [z]; decide)
          rcases b with b | b
          · rw [hp1, z] at b
            simp at b
          · exact b hp1
      refine q_when (b := decide ((plainOf l).take 1 = [48] ∧ l ≠ [48])) (et_is (et_and (et_test (ev_op (ev_op (ev_var rfl) ev_c (rv_ixS (c := c0) (by rw [SX.S_len]; exact hpl) ?_)) ev_c (rv_eq rfl))) fun _ => et_or (et_test (ev_op (ev_cb (ea_cons (ev_var rfl) ea_nil) (rc_lenS hz2)) ev_c rv_I0)) fun _ => et_test (ev_op (ev_var rfl) (ev_var rfl) (rv_ne rfl))) ?_) (fun hb2 H5 e5 => ?_) (fun hb2 H5 e5 => ?_)
      · show atI (plainOf l) 0 = some c0
        rw [ec]
        exact atI_nat (j := 0) rfl
      · rw [show (V.str ⟨#[c0]⟩ : V) = V.str (SX.S [c0]) from rfl, strLit (z := Str.ofString "0") [48] rfl, strEq, SX.S_len, Bool.eq_iff_iff, decide_eq_true_eq, hcond]
        simp only [Bool.and_eq_true, Bool.or_eq_true, decide_eq_true_eq, Bool.not_eq_true', decide_eq_false_iff_not]
        have : (1 : Int) < ((plainOf l).length : Int) ↔ 1 < (plainOf l).length := by omega
        rw [this]
        simp
      · have e : numIn l = none := by unfold numIn; rw [if_neg hgg, if_pos (of_decide_eq_true hb2)]
        rw [e] at k
        exact k H5 (ex.trans e5)
      · have hg2 := of_decide_eq_false hb2
        have e : numIn l = some (if l.take 1 = [45] then -((NumText.digitsVal (plainOf l) : Nat) : Int) else ((NumText.digitsVal (plainOf l) : Nat) : Int)) := by unfold numIn; rw [if_neg hgg, if_neg hg2]
        rw [e] at k
        refine s_ret (v := .int (if l.take 1 = [45] then -((NumText.digitsVal (plainOf l) : Nat) : Int) else ((NumText.digitsVal (plainOf l) : Nat) : Int))) (ev_if (b := decide (plainOf l = l)) (et_is (et_test (ev_op (ev_var rfl) (ev_var rfl) (rv_eq rfl))) (strEq _ _)) (fun hb3 => ev_is (ev_var rfl) ?_) (fun hb3 => ev_is (ev_un (ev_var rfl) ru_neg) ?_)) fun H6 e6 => k H6 ((ex.trans e5).trans e6)
        · rw [if_neg (hpe.mp (of_decide_eq_true hb3))]
        · have : l.take 1 = [45] := by
            by_cases z : l.take 1 = [45]
            · exact z
            · exact absurd (hpe.mpr z) (of_decide_eq_false hb3)
          rw [if_pos this]
end
end K2

/-! # K02j -/
set_option Elab.async false
set_option linter.all false
set_option maxRecDepth 100000
set_option maxHeartbeats 4000000
namespace K2
open PySem PyProof.Rows L2 Pk Evl
theorem idx_one {p q : List Nat} {c : Nat} (h : c ∉ p) : ∃ r, Builtin.Str.occurrences (SX.S (p ++ c :: q)) (SX.S [c]) 0 (SX.S (p ++ c :: q)).length 1 = p.length :: r := by
  have at_iff : ∀ i, StrLaws.At (SX.S (p ++ c :: q)) (SX.S [c]) (SX.S (p ++ c :: q)).length i ↔ (p ++ c :: q)[i]? = some c := fun i => StrLaws.subAt_one (SX.S (p ++ c :: q)) c i
  have h1 : (p ++ c :: q)[p.length]? = some c := by simp
  rcases StrLaws.occ_head (SX.S (p ++ c :: q)) (SX.S [c]) 1 (Nat.le_refl 1) with ⟨_, hn⟩ | ⟨i, r, e, ha, hm⟩
  · exact absurd ((at_iff _).mpr h1) (hn p.length)
  · refine ⟨r, ?_⟩
    rw [e]
    have hi := (at_iff i).mp ha
    have h2 : ¬ i < p.length := fun z => by
      rw [List.getElem?_append_left z] at hi
      exact h (List.mem_of_getElem? hi)
    have h3 : ¬ p.length < i := fun z => hm p.length z ((at_iff _).mpr h1)
    have h4 : i = p.length := by omega
    rw [h4]
theorem split1 {l : List Nat} {c : Nat} (h : c ∈ l) : ∃ p q, l = p ++ c :: q ∧ c ∉ p := List.eq_append_cons_of_mem h
theorem ratIn_none {l : List Nat} (h : 47 ∉ l) : ratIn l = (numIn l).map fun t => (t, 1) := by
  have hs : TL.spl [47] 0 [] l = [l] := TL.spl_last1 h
  unfold ratIn
  rw [hs]
theorem ratIn_cut {p q : List Nat} (h : 47 ∉ p) : ratIn (p ++ 47 :: q) = match numIn p, numIn q with
    | some t, some b => if b < 2 ∨ Nat.gcd t.natAbs b.natAbs ≠ 1 then none else some (t, b)
    | _, _ => none := by
  have hs : TL.spl [47] 0 [] (p ++ 47 :: q) = p :: TL.spl [47] 0 [] q := TL.spl_part1 (S := []) (acc := []) (rest := q) h
  by_cases hq : 47 ∈ q
  · have hn : numIn q = none := notDig_numIn (c := 47) (by
      unfold plainOf
      split
      · rename_i z
        cases q with
        | nil => simp at hq
        | cons a r =>
          simp at z hq ⊢
          rcases hq with e | e
          · omega
          · exact e
      · exact hq) (by decide)
    obtain ⟨a, b, rfl, ha⟩ := split1 hq
    have hs2 : TL.spl [47] 0 [] (a ++ 47 :: b) = a :: TL.spl [47] 0 [] b := TL.spl_part1 (S := []) (acc := []) (rest := b) ha
    rw [hs2] at hs
    rw [ratIn0 hs (.inr (by
      have := List.length_pos_iff.mpr (spl_ne [47] 0 [] b)
      simp only [List.length_cons]
      omega)), hn]
    cases numIn p <;> rfl
  · have hs2 : TL.spl [47] 0 [] q = [q] := TL.spl_last1 hq
    rw [hs2] at hs
    unfold ratIn
    rw [hs] <;> rfl
section
variable {P : Program} {w : World} {K : PySem.W.Frag} {mg : Str → Option Value} {base : Heap}
/-! ### _law_pair -/
def PPair : Option (Int × Int) → V → Hp → Prop
  | none, v, _ => v = .non
  | some (t, b), v, H => ∃ q, v = .ref q ∧ H q = some (.tup [.int t, .int b])
def spPair : Sp := fun vs H Q _ => ∃ l : List Nat, vs = [.str (SX.S l)] ∧ l.length ≤ 100000 ∧ ∀ v H', Ex H H' → PPair (ratIn l) v H' → Q v H'
abbrev s_pair : Stmt := top 26
theorem sc_pair : FnScope ["_law_word", "_law_spot", "_law_top", "_law_bottom"] ["_law_word"] (defScope s_pair) := ⟨rfl, rfl, rfl, by decide +kernel, rfl, by decide +kernel, by decide +kernel⟩
theorem b290 : ∀ n : Nat, n < 10 ^ 60 → n < 2 ^ 290 := fun n h => Nat.lt_of_lt_of_le (Nat.lt_trans h ten60) (Nat.pow_le_pow_right (by decide) (by decide))
theorem lt290 {n : Nat} (h : n < 2 ^ 200) : n < 2 ^ 290 := Nat.lt_of_lt_of_le h (Nat.pow_le_pow_right (by decide) (by decide))
theorem ok_pair {f : Addr} {fd : FuncData} (F : Fun K "_law_pair" "_law_pair" s_pair f fd) (GW : GF P w K mg base 1 "_law_whole" spNum []) (GCo : GF P w K mg base 1 "_law_common" spCom []) : FnG P w K mg base 2 f fd ["_law_word"] spPair := by
  refine okG F sc_pair (fun vs H Q E h => ?_) (fun cdv A outer s H vs Q E hr h => ?_)
  · obtain ⟨l, rfl, _⟩ := h
    rfl
  · obtain ⟨l, rfl, hl, k⟩ := h
    have nd := sc_pair.nd
    refine ⟨_, (pss_cons (ps_if (pt_cmpR op_notIn_sign pe_str (pv 0) rfl)
    (pss_one (ps_ret (pe_ifExp (pt_cmpR op_isN (pe_gf GW hr (takes_of rfl rfl rfl rfl) (by rfl) (pa_cons (pv 0) pa_nil)) pe_non (nomark _)) pe_non (pe_tup (pa_cons (pe_gf GW hr (takes_of rfl rfl rfl rfl) (by rfl) (pa_cons (pv 0) pa_nil)) (pa_cons pe_int pa_nil))))))
    pss_nil)
  (pss_cons (ps_set (i := 1) nd rfl (Or.inl rfl) (pe_bm PySem.F.plainAttrs_str PySem.F.slot_str_index PySem.F.type_str_index mt_sindex (pv 0) (pa_cons pe_str pa_nil)))
  (pss_cons (ps_par (i := 2) (j := 3) rfl nd rfl rfl (by decide) rfl rfl (pa_cons (pe_gf GW hr (takes_of rfl rfl rfl rfl) (by rfl) (pa_cons (pe_slice C8.sl_txt (pv 0) po_none (po_some (pv 1))) pa_nil)) (pa_cons (pe_gf GW hr (takes_of rfl rfl rfl rfl) (by rfl) (pa_cons (pe_slice C8.sl_txt (pv 0) (po_some (pe_op op_add (pv 1) pe_int)) po_none) pa_nil)) pa_nil)) (by rfl))
  (pss_cons (ps_if (PW.pt (pw_or (pt_cmpR op_isN (pv 2) pe_non (nomark _)) (pw_or (pt_cmpR op_isN (pv 3) pe_non (nomark _)) (pw_or (pt_cmpR op_lt (pv 3) pe_int (nomark _)) (pw_or1 (pt_cmpR op_ne (pe_gf GCo hr (takes_of rfl rfl rfl rfl) (by rfl) (pa_cons (pv 2) (pa_cons (pv 3) pa_nil))) pe_int (nomark _)))))))
    (pss_one (ps_ret pe_non))
    pss_nil)
  (pss_one (ps_ret (pe_tup (pa_cons (pv 2) (pa_cons (pv 3) pa_nil)))))))))
    , ?_⟩
    have hz : (SX.S l).length ≤ sizeLine := by rw [SX.S_len]; exact sz_of hl
    refine q_when (b := decide (47 ∉ l)) (et_is (et_test (ev_op (ev_is (w := .str ⟨#[47]⟩) ev_c rfl) (ev_var rfl) rv_niS)) ?_) (fun hb H1 e1 => ?_) (fun hb H1 e1 => ?_)
    · show (!decide (47 ∈ l)) = _
      rw [decide_not]
    · have hn : 47 ∉ l := of_decide_eq_true hb
      rw [ratIn_none hn] at k
      cases hN : numIn l with
      | none =>
        rw [hN] at k
        refine s_ret (v := .non) (ev_if (b := true) (et_is (et_test (ev_op (ev_gf (ea_cons (ev_var rfl) ea_nil) (spv_num hl)) ev_c rv_isN)) (by rw [hN]; rfl)) (fun _ => ev_c) (fun z => nomatch z)) fun H2 e2 => k _ H2 (e1.trans e2) rfl
      | some t =>
        rw [hN] at k
        refine s_retU (xs := [.int t, .int 1]) ?_ fun q H2 hq e2 h2 => k _ H2 (e1.trans e2) ⟨q, rfl, h2⟩
        have hev : ∀ E, Ev (tCallSD spNum [] E (tCons (tVar 0) tNil)) (L2.start ["_law_word", "_law_spot", "_law_top", "_law_bottom"] [V.str (SX.S l)]) H1 (.int t) := fun E => ev_is (ev_gf (ea_cons (ev_var rfl) ea_nil) (spv_num hl)) (by rw [hN]; rfl)
        intro H2 e2 Q' q'
        refine et_test (ev_op (ev_gf (ea_cons (ev_var rfl) ea_nil) (spv_num hl)) ev_c rv_isN) H2 e2 _ fun H3 e3 => ?_
        rw [hN]
        refine eu_tup (ea_cons (hev _) (ea_cons ev_c ea_nil)) (by show 2 ≤ 100000; decide) H3 (e2.trans e3) Q' fun p H4 hp e4 h4 => q' p H4 (fresh_back e3 hp) (e3.trans e4) h4
    · have hm : 47 ∈ l := by simpa using hb
      obtain ⟨p, q, rfl, hp⟩ := split1 hm
      obtain ⟨r, hoc⟩ := idx_one (q := q) hp
      have hpl : p.length ≤ 100000 := by simp at hl; omega
      have hql : q.length ≤ 100000 := by simp at hl; omega
      refine q_asg (v := .int (p.length : Int)) (fun H2 e2 Q' q' => ⟨.str (SX.S (p ++ 47 :: q)), rfl, rfl, ea_cons (ev_c (v := .str (SX.S [47]))) ea_nil H2 e2 _ fun H3 e3 => ⟨_, _, p.length, r, rfl, rfl, hoc, q' H3 e3⟩⟩) fun H2 e2 => ?_
      refine q_par (v := numV (numIn p)) (w := numV (numIn q)) (ea_cons (ev_gf (ea_cons (ev_is (w := .str (SX.S p)) (ev_sl (ev_var rfl) eo_none (eo_some (ev_var rfl)) hz) ?_) ea_nil) (spv_num hpl)) (ea_cons (ev_gf (ea_cons (ev_is (w := .str (SX.S q)) (ev_sl (ev_var rfl) (eo_some (ev_op (ev_var rfl) ev_c rv_I0)) eo_none hz) ?_) ea_nil) (spv_num hql)) ea_nil)) fun H3 e3 => ?_
      · rw [SX.slice_to (by omega)]
        simp
      · rw [SX.slice_from (by omega)]
        have : ((p.length : Int) + 1).toNat = p.length + 1 := by omega
        rw [this]
        have : (p ++ 47 :: q).drop (p.length + 1) = q := by
          rw [List.drop_append, List.drop_eq_nil_of_le (by omega)]
          simp
        rw [this]
      rw [ratIn_cut hp] at k
      have ex3 := (e1.trans e2).trans e3
      cases hP : numIn p with
      | none =>
        rw [hP] at k
        refine q_when (b := true) (et_is (et_or (a := true) (b := true) (et_test (ev_op (ev_var rfl) ev_c rv_isN)) fun z => nomatch z) rfl) (fun _ H4 e4 => k _ H4 (ex3.trans e4) rfl) (fun z => nomatch z)
      | some t =>
        cases hQ : numIn q with
        | none =>
          rw [hP, hQ] at k
          refine q_when (b := true) (et_is (et_or (a := false) (et_test (ev_op (ev_var rfl) ev_c rv_isN)) fun _ => et_or (a := true) (b := true) (et_test (ev_op (ev_var rfl) ev_c rv_isN)) fun z => nomatch z) rfl) (fun _ H4 e4 => k _ H4 (ex3.trans e4) rfl) (fun z => nomatch z)
        | some b =>
          rw [hP, hQ] at k
          have k' : ∀ (v : V) (H' : Hp), Ex H H' → PPair (if b < 2 ∨ Nat.gcd t.natAbs b.natAbs ≠ 1 then none else some (t, b)) v H' → Q v H' := k
          refine q_when (b := decide (b < 2 ∨ Nat.gcd t.natAbs b.natAbs ≠ 1)) (et_is (et_or (a := false) (et_test (ev_op (ev_var rfl) ev_c rv_isN)) fun _ => et_or (a := false) (et_test (ev_op (ev_var rfl) ev_c rv_isN)) fun _ => et_or (et_test (ev_op (ev_is (w := .int b) (ev_var rfl) rfl) ev_c rv_I0)) fun _ => et_test (ev_op (ev_gf (ea_cons (ev_is (w := .int t) (ev_var rfl) rfl) (ea_cons (ev_is (w := .int b) (ev_var rfl) rfl) ea_nil)) (spv_com (lt290 (numIn_lt hP)) (lt290 (numIn_lt hQ)))) ev_c (rv_ne rfl))) ?_) (fun hb3 H4 e4 => ?_) (fun hb3 H4 e4 => ?_)
          · rw [Bool.eq_iff_iff]
            simp only [Bool.or_eq_true, decide_eq_true_eq, Bool.false_or, Bool.not_eq_true', decide_eq_false_iff_not]
            refine or_congr Iff.rfl ?_
            simp
            omega
          · rw [if_pos (of_decide_eq_true hb3)] at k'
            exact k' _ H4 (ex3.trans e4) rfl
          · rw [if_neg (of_decide_eq_false hb3)] at k'
            exact s_retU (eu_tup (ea_cons (ev_is (w := .int t) (ev_var rfl) rfl) (ea_cons (ev_is (w := .int b) (ev_var rfl) rfl) ea_nil)) (by show 2 ≤ 100000; decide)) fun u H5 hu e5 h5 => k' _ H5 ((ex3.trans e4).trans e5) ⟨u, rfl, h5⟩
end
end K2

/-! # K02k -/
set_option Elab.async false
set_option linter.all false
set_option maxRecDepth 100000
set_option maxHeartbeats 4000000
namespace K2
open PySem PyProof.Rows L2 Pk Evl
section
variable {P : Program} {w : World} {K : PySem.W.Frag} {mg : Str → Option Value} {base : Heap} {cPE cBR cBT cS cR : Addr}
/-! ### _law_heard -/
/-- what the caught error's class lets one do -/
structure BtC (K : PySem.W.Frag) (cPE cBT : Addr) : Prop where
  xf : XfC K cBT
  ex : ExcC K cBT
  line : PySem.W.findIn K (.ref cBT) "line" = some none
  word : PySem.W.findIn K (.ref cBT) "word" = some none
  under : PySem.W.exmOne K (.ref cBT) (.ref cPE) = some true
def PHeard (C : Addr) : Sum Int (Int × Int) → V → Hp → Prop
  | .inl i, v, H => ∃ q, v = .ref q ∧ H q = some (.tup [.int 0, .int i])
  | .inr (t, b), v, H => ∃ q r, v = .ref q ∧ H q = some (.lst [.ref r]) ∧ IsR C H r t b
def spHeard (K : PySem.W.Frag) (cR : Addr) : Sp := fun vs H Q _ => ∃ (t : V) (o : Sum Int (Int × Int)), vs = [t] ∧
  ((∃ cs : List Nat, t = .str (SX.S cs) ∧ cs.length ≤ 100000 ∧ o = rdIn cs) ∨ (∃ tv, TyE K H t tv ∧ PySem.W.kitOne K tv (.type "str") = some false ∧ o = .inl 0)) ∧ ∀ v H', Ex H H' → PHeard cR o v H' → Q v H'
abbrev s_heard : Stmt := top 27
theorem sc_heard : FnScope ["_law_text", "_law_caught", "error"] ["_law_text"] (defScope s_heard) := ⟨rfl, rfl, rfl, by decide +kernel, rfl, by decide +kernel, by decide +kernel⟩
theorem ok_heard {f : Addr} {fd : FuncData} (F : Fun K "_law_heard" "_law_heard" s_heard f fd) (B : Bi mg) (gPE : mg "PeekError" = some (.ref cPE)) (gBT : mg "BadText" = some (.ref cBT)) (C : BtC K cPE cBT) (GR : GS P w K mg base 7 "Ratio" cR "read" (spRd K cBT cR) []) : FnG P w K mg base 8 f fd ["_law_text"] (spHeard K cR) := by
  refine okG F sc_heard (fun vs H Q E h => ?_) (fun cdv A outer s H vs Q E hr h => ?_)
  · obtain ⟨t, o, rfl, _⟩ := h
    rfl
  · obtain ⟨t, o, rfl, h, k⟩ := h
    have nd := sc_heard.nd
    refine ⟨_, (pss_cons (ps_set (i := 1) nd rfl (Or.inl rfl) pe_non)
  (pss_cons (ps_try_asT (i := 2) (c := .ref cPE) rfl rfl rfl nd rfl rfl ⟨by rfl, by decide, .inl gPE⟩ (takes_of rfl rfl rfl rfl)
    (fun W pn xe tk ps => (pss_one (ps_ret (pe_lst (pa_cons (pe_gs GR hr tk (by rfl) (pa_cons (pv 0) pa_nil)) pa_nil)))))
    (fun a oe cls d pn hz hf => (pss_one (ps_set (i := 1) nd rfl (Or.inl rfl) (pv 2)))))
  (pss_one (ps_ret (pe_ifExp (pt_val (pe_callB call_isX (by rfl) B.isinstance Boot.«isinstance» (pa_cons (pv 1) (pa_cons (pe_glob (v := .ref cBT) (by rfl) gBT rfl) pa_nil)))) (pe_tup (pa_cons (pe_xfT (pv 1)) (pa_cons (pe_xfT (pv 1)) pa_nil))) (pe_tup (pa_cons pe_str pa_nil))))))), ?_⟩
    refine q_asg ev_c fun H1 e1 => ?_
    have fin : ∀ (i : Int) (σ2 : L2.St) (H2 : Hp) (d a : Addr), σ2[1]? = some (some (.ref a)) → o = .inl i → Ex H H2 → H2 d = some (.xd (btF (.int 0) (.int i))) → H2 a = some (exT (.ref cBT) (some d) a) →
        tRet (tIf (tB (tCB (rIsX K) (tCons (tVar 1) (tCons (tC (.ref cBT)) tNil)))) (tTup (tCons (tXfT K "line" (tVar 1)) (tCons (tXfT K "word" (tVar 1)) tNil))) (tTup (tCons (tC (.str "other")) tNil))) { nx := fun _ H' => Q .non H', rt := Q } σ2 H2 := fun i σ2 H2 d a hσ ho e2 hd ha => by
      refine s_retU (xs := [.int 0, .int i]) (fun H3 e3 Q' q' => ?_) fun q H4 hq e4 h4 => k _ H4 (e2.trans e4) (by rw [ho]; exact ⟨q, rfl, h4⟩)
      have hv : Ev (tVar 1) σ2 H2 (.ref a) := ev_var hσ
      refine et_B (ev_cb (ea_cons hv (ea_cons ev_c ea_nil)) (fun H4 e4 Q2 q2 => ⟨a, cBT, d, _, .ref cBT, .ref cBT, true, rfl, e4 _ _ ha, e4 _ _ hd, C.ex, .own _, kit_self cBT, q2 H4 (Ex.refl H4)⟩)) H3 e3 _ fun H4 e4 => ?_
      have f : ∀ (n : Str) (v : V), PySem.W.findIn K (.ref cBT) n = some none → (btF (.int 0) (.int i)).lookup n = some v → Ev (tXfT K n (tVar 1)) σ2 H2 v := fun n v hn hl H5 e5 Q5 q5 => hv H5 e5 _ fun H6 e6 => ⟨a, cBT, d, _, v, rfl, (e5.trans e6) _ _ ha, C.xf, hn, (e5.trans e6) _ _ hd, hl, q5 H6 e6⟩
      exact eu_tup (ea_cons (f "line" (.int 0) C.line rfl) (ea_cons (f "word" (.int i) C.word rfl) ea_nil)) (by show 2 ≤ 100000; decide) H4 (e3.trans e4) Q' fun p H5 hp e5 h5 => q' p H5 (fresh_back e4 hp) (e4.trans e5) h5
    have hup : ∀ (i : Int) (H2 : Hp) (σ2 : L2.St) (D : Ends), Ex H H2 → o = .inl i → σ2.length = 3 → D.nx = tRet (tIf (tB (tCB (rIsX K) (tCons (tVar 1) (tCons (tC (.ref cBT)) tNil)))) (tTup (tCons (tXfT K "line" (tVar 1)) (tCons (tXfT K "word" (tVar 1)) tNil))) (tTup (tCons (tC (.str "other")) tNil))) { nx := fun _ H' => Q .non H', rt := Q } →
        ∀ Wout, Raises cBT (btF (.int 0) (.int i)) H2 (WE (wAsT K (.ref cPE) 2 (fun _ _ _ => tAsg (tVar 2) (gName 1)) Wout D) σ2) := fun i H2 σ2 D e2 ho hlen hD Wout d H3 e3 hd h3 => by
      refine ⟨true, C.under, fun _ a ha => ?_, fun z => nomatch z⟩
      have hda : d ≠ a := ne_of_none h3 ha
      refine s_asg (v := .ref a) (ev_var ?_) fun H4 e4 => ?_
      · rw [List.getElem?_set_self (by omega)]
      · show D.nx _ _
        rw [hD]
        refine fin i _ _ d a ?_ ho ?_ ?_ upd_same
        · rw [List.getElem?_set_ne (by decide), List.getElem?_set_self (by simp; omega)]
        · exact Ex.mut ((e2.trans e3).trans e4) (fresh_back (e2.trans e3) ha)
        · rw [upd_ne hda]
          exact e4 _ _ h3
    refine go_gf (vs := [t]) (E := WE _) (ea_cons (ev_var rfl) ea_nil) fun H2 e2 => ⟨t, rfl, ?_⟩
    rcases h with ⟨cs, rfl, hl, ho⟩ | ⟨tv, hv, hk, ho⟩
    · refine .inl ⟨cs, rfl, hl, fun i hi => hup i H2 _ _ (e1.trans e2) (by rw [ho, hi]) rfl rfl _, fun t b hi r H3 e3 hR => ⟨by show 1 ≤ sizeLine; decide, fun p hp => ?_⟩⟩
      refine k _ _ (((e1.trans e2).trans e3).trans (Ex.new hp)) ?_
      rw [ho, hi]
      exact ⟨p, r, rfl, upd_same, hR.mono (Ex.new hp)⟩
    · exact .inr ⟨tv, hv.mono (e1.trans e2), hk, hup 0 H2 _ _ (e1.trans e2) ho rfl rfl _⟩
end
end K2

/-! # K02l -/
set_option Elab.async false
set_option linter.all false
set_option maxRecDepth 100000
set_option maxHeartbeats 4000000
namespace K2
open PySem PyProof.Rows L2 Pk Evl
theorem canon_int {l : List Nat} (h : Canon l) (hl : l.length ≤ 60) : intText? (SX.S l) = some ((NumText.digitsVal l : Nat) : Int) ∧ 0 < NumText.digitsVal l ∧ NumText.digitsVal l < 10 ^ 60 := by
  obtain ⟨h1, c, r, e, hc⟩ := h
  refine ⟨intText_digits (x := SX.S l) h1 (by show l ≠ []; rw [e]; simp) (by rw [SX.S_len]; omega), by rw [e]; exact NumText.digitsVal_pos hc, ?_⟩
  have := digs_lt l fun c hc => (h1 c hc).2
  exact Nat.lt_of_lt_of_le this (Nat.pow_le_pow_right (by decide) hl)
theorem coprime_div {t b : Int} {c : Nat} (hb : b ≠ 0) (hc : c = Nat.gcd t.natAbs b.natAbs) : Nat.gcd (t / (c : Int)).natAbs (b / (c : Int)).natAbs = 1 ∧ (0 < b → 0 < b / (c : Int)) ∧ (t / (c : Int)).natAbs ≤ t.natAbs ∧ (b / (c : Int)).natAbs ≤ b.natAbs := by
  have hpos : 0 < c := by rw [hc]; exact Nat.gcd_pos_of_pos_right _ (by omega)
  have d1 : (c : Int) ∣ t := Int.ofNat_dvd_left.mpr (by rw [hc]; exact Nat.gcd_dvd_left _ _)
  have d2 : (c : Int) ∣ b := Int.ofNat_dvd_left.mpr (by rw [hc]; exact Nat.gcd_dvd_right _ _)
  obtain ⟨x, rfl⟩ := d1
  obtain ⟨y, rfl⟩ := d2
  have hc0 : (c : Int) ≠ 0 := by omega
  rw [Int.mul_ediv_cancel_left _ hc0, Int.mul_ediv_cancel_left _ hc0]
  refine ⟨?_, fun h => ?_, ?_, ?_⟩
  · have e : c = c * Nat.gcd x.natAbs y.natAbs := by
      rw [← Nat.gcd_mul_left]
      conv => lhs; rw [hc]
      rw [Int.natAbs_mul, Int.natAbs_mul, Int.natAbs_natCast]
    have : c * 1 = c * Nat.gcd x.natAbs y.natAbs := by rw [Nat.mul_one]; exact e
    exact (Nat.eq_of_mul_eq_mul_left hpos this).symm
  · exact Int.pos_of_mul_pos_right h (by omega)
  · rw [Int.natAbs_mul, Int.natAbs_natCast]
    exact Nat.le_mul_of_pos_left _ hpos
  · rw [Int.natAbs_mul, Int.natAbs_natCast]
    exact Nat.le_mul_of_pos_left _ hpos
section
variable {P : Program} {w : World} {K : PySem.W.Frag} {mg : Str → Option Value} {base : Heap} {cPE cBR cBT cS cR : Addr}
/-! ### _law_numbers -/
def Good (t b : Int) : Prop := 0 < b ∧ Nat.gcd t.natAbs b.natAbs = 1 ∧ t.natAbs < 10 ^ 60 ∧ b.natAbs < 10 ^ 60
def spNums (K : PySem.W.Frag) : Sp := fun vs H Q _ => ∃ (p : Addr) (B : Nat), vs = [.ref p] ∧ Pen K H p B ∧ B < 800000 ∧ ∀ q t b H', Good t b → q ≠ p → H' q = some (.tup [.int t, .int b]) → ExB p H H' → Pen K H' p (B + 200) → Q (.ref q) H'
abbrev s_nums : Stmt := top 24
theorem sc_nums : FnScope ["_law_pen_here", "_law_top", "_law_bottom", "_law_common_here"] ["_law_pen_here"] (defScope s_nums) := ⟨rfl, rfl, rfl, by decide +kernel, rfl, by decide +kernel, by decide +kernel⟩
abbrev lens : List V := [.int 1, .int 1, .int 2, .int 5, .int 30, .int 59, .int 60]
theorem lens_in {x : V} (h : x ∈ lens) : ∃ n : Nat, x = .int (n : Int) ∧ 0 < n ∧ n ≤ 60 := by
  simp [lens] at h
  rcases h with rfl | rfl | rfl | rfl | rfl | rfl
  · exact ⟨1, rfl, by decide, by decide⟩
  · exact ⟨2, rfl, by decide, by decide⟩
  · exact ⟨5, rfl, by decide, by decide⟩
  · exact ⟨30, rfl, by decide, by decide⟩
  · exact ⟨59, rfl, by decide, by decide⟩
  · exact ⟨60, rfl, by decide, by decide⟩
/-- int(_law_digits(pen, _law_pick(pen, [1, 1, 2, ..]))) -/
theorem go_num {σ : L2.St} {H : Hp} {Q : VK} {p : Addr} {B : Nat} {E1 E2 : L2.St → XK} {te te2 : TE} {ta : TA} (h1 : Ev te σ H (.ref p)) (h2 : Ev te2 σ H (.ref p)) (h3 : EvA ta σ H lens) (hp : Pen K H p B) (hB : B < 850000)
    (k : ∀ (n : Nat) H', 0 < n → n < 10 ^ 60 → ExB p H H' → Pen K H' p (B + 61) → Q (.int (n : Int)) H') :
    tCB (fun xs H Q => ∃ a n, xs = [V.str a] ∧ intText? a = some n ∧ a.length ≤ 640 ∧ Q (.int n) H) (tCons (tCallSD (spDig K) [] E1 (tCons te (tCons (tCallSD (spPick K) [] E2 (tCons te2 (tCons (tLst ta) tNil))) tNil))) tNil) σ H Q := by
  refine h1 H (Ex.refl H) _ fun H1 e1 => ?_
  refine go_pickN (h2.mono e1) ((el_lst h3 (by decide)).mono e1) (hp.mono e1 (Nat.le_refl _)) (by omega) (by decide) (by decide) fun x H2 hx e2 hp2 => ?_
  obtain ⟨n, rfl, n0, n1⟩ := lens_in hx
  refine ⟨p, n, B + 1, rfl, hp2, by omega, n0, by omega, fun l H3 hl hln e3 hp3 => ?_⟩
  obtain ⟨a, b, c⟩ := canon_int hl (by omega)
  exact ⟨_, _, rfl, a, by rw [SX.S_len]; omega, k _ H3 b c (((ExB.of e1).trans e2).trans e3) (hp3.mono (Ex.refl _) (by omega))⟩
theorem ok_nums {f : Addr} {fd : FuncData} (F : Fun K "_law_numbers" "_law_numbers" s_nums f fd) (B : Bi mg) (GDi : GF P w K mg base 3 "_law_digits" (spDig K) []) (GP : GF P w K mg base 2 "_law_pick" (spPick K) []) (GCo : GF P w K mg base 1 "_law_common" spCom []) :
    FnG P w K mg base 4 f fd ["_law_pen_here"] (spNums K) := by
  refine okG F sc_nums (fun vs H Q E h => ?_) (fun cdv A outer s H vs Q E hr h => ?_)
  · obtain ⟨p, N, rfl, _⟩ := h
    rfl
  · obtain ⟨p, N, rfl, hp, hN, k⟩ := h
    have nd := sc_nums.nd
    have hr2 := hr.mono (j := 2) (by decide)
    have hr1 := hr.mono (j := 1) (by decide)
    refine ⟨_, (pss_cons (ps_set (i := 1) nd rfl (Or.inl rfl) (pe_callTy call_int_str (by rfl) B.int Boot.«int» (pa_cons (pe_gf GDi hr (takes_of rfl rfl rfl rfl) (by rfl) (pa_cons (pv 0) (pa_cons (pe_gf GP hr2 (takes_of rfl rfl rfl rfl) (by rfl) (pa_cons (pv 0) (pa_cons (pe_lst (pa_cons pe_int (pa_cons pe_int (pa_cons pe_int (pa_cons pe_int (pa_cons pe_int (pa_cons pe_int (pa_cons pe_int pa_nil)))))))) pa_nil))) pa_nil))) pa_nil)))
  (pss_cons (ps_set (i := 2) nd rfl (Or.inl rfl) (pe_callTy call_int_str (by rfl) B.int Boot.«int» (pa_cons (pe_gf GDi hr (takes_of rfl rfl rfl rfl) (by rfl) (pa_cons (pv 0) (pa_cons (pe_gf GP hr2 (takes_of rfl rfl rfl rfl) (by rfl) (pa_cons (pv 0) (pa_cons (pe_lst (pa_cons pe_int (pa_cons pe_int (pa_cons pe_int (pa_cons pe_int (pa_cons pe_int (pa_cons pe_int (pa_cons pe_int pa_nil)))))))) pa_nil))) pa_nil))) pa_nil)))
  (pss_cons (ps_set (i := 1) nd rfl (Or.inl rfl) (pe_gf GP hr2 (takes_of rfl rfl rfl rfl) (by rfl) (pa_cons (pv 0) (pa_cons (pe_lst (pa_cons (pv 1) (pa_cons (pe_un un_neg (pv 1)) (pa_cons (pv 1) (pa_cons pe_int (pa_cons pe_int pa_nil)))))) pa_nil))))
  (pss_cons (ps_set (i := 2) nd rfl (Or.inl rfl) (pe_gf GP hr2 (takes_of rfl rfl rfl rfl) (by rfl) (pa_cons (pv 0) (pa_cons (pe_lst (pa_cons (pv 2) (pa_cons (pv 2) (pa_cons pe_int pa_nil)))) pa_nil))))
  (pss_cons (ps_set (i := 3) nd rfl (Or.inl rfl) (pe_gf GCo hr1 (takes_of rfl rfl rfl rfl) (by rfl) (pa_cons (pv 1) (pa_cons (pv 2) pa_nil))))
  (pss_one (ps_ret (pe_tup (pa_cons (pe_op op_fdivW (pv 1) (pv 3)) (pa_cons (pe_op op_fdivW (pv 2) (pv 3)) pa_nil)))))))))), ?_⟩
    have L : ∀ σ H, EvA (tCons (tC (.int 1)) (tCons (tC (.int 1)) (tCons (tC (.int 2)) (tCons (tC (.int 5)) (tCons (tC (.int 30)) (tCons (tC (.int 59)) (tCons (tC (.int 60)) tNil))))))) σ H lens := fun σ H => ea_cons ev_c (ea_cons ev_c (ea_cons ev_c (ea_cons ev_c (ea_cons ev_c (ea_cons ev_c (ea_cons ev_c ea_nil))))))
    refine q_set (go_num (B := N) (ev_var rfl) (ev_var rfl) (L _ _) hp (by omega) fun t0 H1 t00 t01 e1 hp1 => ?_)
    refine q_set (go_num (B := N + 61) (ev_var rfl) (ev_var rfl) (L _ _) hp1 (by omega) fun b0 H2 b00 b01 e2 hp2 => ?_)
    refine q_set (go_pickN (B := N + 61 + 61) (xs := [.int (t0 : Int), .int (-(t0 : Int)), .int (t0 : Int), .int 0, .int 1]) (ev_var rfl) (el_lst (ea_cons (ev_var rfl) (ea_cons (ev_un (ev_var rfl) ru_neg) (ea_cons (ev_var rfl) (ea_cons ev_c (ea_cons ev_c ea_nil))))) (by show 5 ≤ 100000; decide)) hp2 (by omega) (by simp) (by show 5 ≤ 100000; decide) fun x H3 hx e3 hp3 => ?_)
    obtain ⟨t, rfl, ht⟩ : ∃ t : Int, x = .int t ∧ t.natAbs < 10 ^ 60 := by
      have : (1 : Nat) < 10 ^ 60 := by decide
      simp at hx
      rcases hx with rfl | rfl | rfl | rfl | rfl
      · exact ⟨_, rfl, by omega⟩
      · exact ⟨_, rfl, by omega⟩
      · exact ⟨_, rfl, by omega⟩
      · exact ⟨_, rfl, by simp⟩
      · exact ⟨_, rfl, by simpa using this⟩
    refine q_set (go_pickN (B := N + 61 + 61 + 1) (xs := [.int (b0 : Int), .int (b0 : Int), .int 1]) (ev_var rfl) (el_lst (ea_cons (ev_var rfl) (ea_cons (ev_var rfl) (ea_cons ev_c ea_nil))) (by show 3 ≤ 100000; decide)) hp3 (by omega) (by simp) (by show 3 ≤ 100000; decide) fun x H4 hx e4 hp4 => ?_)
    obtain ⟨b, rfl, hb0, hb⟩ : ∃ b : Int, x = .int b ∧ 0 < b ∧ b.natAbs < 10 ^ 60 := by
      have : (1 : Nat) < 10 ^ 60 := by decide
      simp at hx
      rcases hx with rfl | rfl
      · exact ⟨_, rfl, by omega, by omega⟩
      · exact ⟨_, rfl, by decide, by simpa using this⟩
    have b290 : ∀ n : Nat, n < 10 ^ 60 → n < 2 ^ 290 := fun n h => lt290 (Nat.lt_trans h ten60)
    refine q_asg (ev_gf (ea_cons (ev_var rfl) (ea_cons (ev_var rfl) ea_nil)) (spv_com (b290 _ ht) (b290 _ hb))) fun H5 e5 => ?_
    generalize hc : Nat.gcd t.natAbs b.natAbs = c
    have hcpos : 0 < c := by rw [← hc]; exact Nat.gcd_pos_of_pos_right _ (by omega)
    have hcle : c ≤ b.natAbs := by rw [← hc]; exact Nat.le_of_dvd (by omega) (Nat.gcd_dvd_right _ _)
    have hdw : ∀ i : Int, CDivW i (c : Int) := fun i => wide_div (b := 290) (by omega) (by rw [Int.natAbs_natCast]; exact Nat.lt_of_le_of_lt hcle (b290 _ hb)) (by decide) (by decide)
    obtain ⟨g1, g2, g3, g4⟩ := coprime_div (t := t) (b := b) (c := c) (by omega) hc.symm
    refine s_retU (eu_tup (ea_cons (ev_op (ev_var rfl) (ev_var rfl) (rv_I (hdw t))) (ea_cons (ev_op (ev_var rfl) (ev_var rfl) (rv_I (hdw b))) ea_nil)) (by show 2 ≤ 100000; decide)) fun q H6 hq e6 h6 => ?_
    refine k q _ _ H6 ⟨g2 hb0, g1, Nat.lt_of_le_of_lt g3 ht, Nat.lt_of_le_of_lt g4 hb⟩ ((hp4.mono e5 (Nat.le_refl _)).ne hq) h6 (((((e1.trans e2).trans e3).trans e4).trans (ExB.of e5)).trans (ExB.of e6)) ((hp4.mono e5 (Nat.le_refl _)).mono e6 (by omega))
end
end K2

/-! # K02m -/
set_option Elab.async false
set_option linter.all false
set_option maxRecDepth 100000
set_option maxHeartbeats 4000000
namespace K2
open PySem PyProof.Rows L2 Pk Evl
/-! ### texts of numbers are told back -/
theorem numL_of {cs : List Nat} (h : NumText.AllDigits cs) (h0 : cs ≠ []) (h1 : cs.length = 1 ∨ ∃ c r, cs = c :: r ∧ 49 ≤ c) : TL.numL (NumText.digitsVal cs) = cs := by
  obtain ⟨c, r, e⟩ := List.exists_cons_of_ne_nil h0
  have hl : cs.length = (cs.length - 1) + 1 := by rw [e]; simp
  have := NumText.toDigits_digitsVal (cs.length - 1) cs hl h (by
    rcases h1 with z | z
    · left; omega
    · exact .inr z)
  unfold TL.numL
  rw [this, List.map_map]
  have : ∀ x ∈ cs, (Char.toNat ∘ Char.ofNat) x = x := fun x hx => by
    have hd := h x hx
    have hb : ∀ y : Nat, y < 128 → (Char.ofNat y).toNat = y := by decide
    exact hb x (by have := hd.2; omega)
  rw [List.map_congr_left this, List.map_id']
theorem numIn_back {l : List Nat} {t : Int} (h : numIn l = some t) : intL t = l := by
  unfold numIn at h
  split at h
  · cases h
  rename_i hg
  split at h
  · cases h
  rename_i hg2
  have h0 : plainOf l ≠ [] := fun z => hg (.inl z)
  have h2 : ¬ ((plainOf l).any (fun c => !isDig c) = true) := fun z => hg (.inr (.inr z))
  have hd := allDig h2
  obtain ⟨c, r, ec⟩ := List.exists_cons_of_ne_nil h0
  have hc := hd c (by rw [ec]; exact List.mem_cons_self)
  have ht := Option.some.inj h
  by_cases hn : l.take 1 = [45]
  · rw [if_pos hn] at ht
    have el := plain_neg hn
    have hc9 : 49 ≤ c := by
      by_cases z : c = 48
      · exfalso
        refine hg2 ⟨by rw [ec, z]; rfl, fun q => ?_⟩
        rw [q] at hn
        exact absurd hn (by decide)
      · have := hc.1
        omega
    have hb := numL_of hd h0 (.inr ⟨c, r, ec, hc9⟩)
    have hpos : 0 < NumText.digitsVal (plainOf l) := by rw [ec]; exact NumText.digitsVal_pos hc9
    have : t < 0 := by omega
    unfold intL
    rw [if_pos this]
    have e2 : t.natAbs = NumText.digitsVal (plainOf l) := by omega
    rw [e2, hb]
    exact el.symm
  · rw [if_neg hn] at ht
    have el := plain_pos hn
    rw [el] at h0 hd ec ht hg2
    have : ¬ t < 0 := by omega
    unfold intL
    rw [if_neg this]
    have e2 : t.natAbs = NumText.digitsVal l := by omega
    rw [e2]
    refine numL_of hd h0 ?_
    by_cases z : c = 48
    · left
      by_cases q : l = [48]
      · rw [q]; rfl
      · exact absurd ⟨by rw [ec, z]; rfl, q⟩ hg2
    · exact .inr ⟨c, r, ec, by have := hc.1; omega⟩
theorem ratIn_back {l : List Nat} {t b : Int} (h : ratIn l = some (t, b)) : ratS t b = l ∧ t.natAbs < 2 ^ 200 ∧ b.natAbs < 2 ^ 200 ∧ 0 < b ∧ Nat.gcd t.natAbs b.natAbs = 1 := by
  by_cases hm : 47 ∈ l
  · obtain ⟨p, q, rfl, hp⟩ := split1 hm
    rw [ratIn_cut hp] at h
    cases hP : numIn p with
    | none => rw [hP] at h; cases h
    | some t' =>
      cases hQ : numIn q with
      | none => rw [hP, hQ] at h; cases h
      | some b' =>
        rw [hP, hQ] at h
        have h' : (if b' < 2 ∨ Nat.gcd t'.natAbs b'.natAbs ≠ 1 then none else some (t', b')) = some (t, b) := h
        by_cases hc : b' < 2 ∨ Nat.gcd t'.natAbs b'.natAbs ≠ 1
        · rw [if_pos hc] at h'; cases h'
        · rw [if_neg hc] at h'
          cases h'
          have h2 : ¬ b < 2 := fun z => hc (.inl z)
          have h3 : Nat.gcd t.natAbs b.natAbs = 1 := by
            by_cases z : Nat.gcd t.natAbs b.natAbs = 1
            · exact z
            · exact absurd (.inr z) hc
          refine ⟨?_, numIn_lt hP, numIn_lt hQ, by omega, h3⟩
          unfold ratS
          rw [if_neg (by omega), numIn_back hP, numIn_back hQ]
          rfl
  · rw [ratIn_none hm] at h
    cases hP : numIn l with
    | none => rw [hP] at h; cases h
    | some t' =>
      rw [hP] at h
      cases h
      refine ⟨?_, numIn_lt hP, by decide, by decide, by simp⟩
      unfold ratS
      rw [if_pos rfl]
      exact numIn_back hP
/-- one word alone: the text itself -/
theorem one_word {cs w : List Nat} (h : TL.spl [32] 0 [] cs = [w]) : w = cs := by
  by_cases hm : 32 ∈ cs
  · obtain ⟨p, q, rfl, hp⟩ := split1 hm
    have hs2 : TL.spl [32] 0 [] (p ++ 32 :: q) = p :: TL.spl [32] 0 [] q := TL.spl_part1 (S := []) (acc := []) (rest := q) hp
    rw [hs2] at h
    have := congrArg List.length h
    have h3 := List.length_pos_iff.mpr (spl_ne [32] 0 [] q)
    simp only [List.length_cons, List.length_nil] at this
    omega
  · have hs : TL.spl [32] 0 [] cs = [cs] := TL.spl_last1 hm
    rw [hs] at h
    simpa using h.symm
theorem shown2_len {t b : Int} (ht : t.natAbs < 10 ^ 100) (hb : b.natAbs < 10 ^ 100) : (PyData.tuple [.int t, .int b]).shown.length ≤ sizeLine ∧ (PyData.tuple [.int t, .int b]).showable = true := by
  have lt := lg (Nat.lt_trans ht ten100)
  have lb := lg (Nat.lt_trans hb ten100)
  constructor
  · have h := tupleText_len_le (PyData.shownAll [.int t, .int b])
    have h1 := intL_le (by decide) ht
    have h2 := intL_le (by decide) hb
    have e1 : ((toString t : String) : Str).length = (intL t).length := by rw [int_text, SX.S_len]
    have e2 : ((toString b : String) : Str).length = (intL b).length := by rw [int_text, SX.S_len]
    have h3 : ((PyData.shownAll [.int t, .int b]).map (·.length)).sum = (intL t).length + (intL b).length := by
      show List.sum [((toString t : String) : Str).length, ((toString b : String) : Str).length] = _
      rw [e1, e2]
      simp
    have h4 : (PyData.shownAll [.int t, .int b]).length = 2 := rfl
    rw [h3, h4] at h
    show (tupleText (PyData.shownAll [.int t, .int b])).length ≤ sizeLine
    have : 1000 ≤ sizeLine := by decide
    omega
  · show (decide (t.natAbs.log2 < 1920) && (decide (b.natAbs.log2 < 1920) && true)) = true
    rw [decide_eq_true lt, decide_eq_true lb]
    rfl
section
variable {P : Program} {w : World} {K : PySem.W.Frag} {mg : Str → Option Value} {base : Heap} {cPE cBR cBT cS cR : Addr} {σ : L2.St} {H : Hp}
/-- repr of a pair of ints -/
theorem rc_repr2 {q : Addr} {t b : Int} (h : SqT K H q [.int t, .int b]) (ht : t.natAbs < 10 ^ 100) (hb : b.natAbs < 10 ^ 100) : RC (rReprD K) [.ref q] H (.str (PyData.tuple [.int t, .int b]).shown) := fun H1 e Q k =>
  ⟨.ref q, .tuple [.int t, .int b], rfl, .tup (ex_t e h) (.cons (.int t) (.cons (.int b) .nil)), (shown2_len ht hb).2, rfl, by show 1 ≤ 50; decide, (shown2_len ht hb).1, k H1 (Ex.refl H1)⟩
theorem ev_reprN {tA : TA} {t b : Int} (h : EvA tA σ H [.int t, .int b]) (ht : t.natAbs < 10 ^ 100) (hb : b.natAbs < 10 ^ 100) : Ev (tCB (rReprD K) (tCons (tTup tA) tNil)) σ H (.str (PyData.tuple [.int t, .int b]).shown) := fun H1 e Q k =>
  g_cb1 (eu_tup h (by show 2 ≤ 100000; decide) H1 e _ fun q H2 hq e2 h2 => rc_repr2 (K := K) (st_of h2) ht hb H2 (Ex.refl H2) Q fun H3 e3 => k H3 (e2.trans e3))
end
end K2

/-! # K02n -/
set_option Elab.async false
set_option linter.all false
set_option maxRecDepth 100000
set_option maxHeartbeats 4000000
namespace K2
open PySem PyProof.Rows L2 Pk Evl
section
variable {K : PySem.W.Frag} {σ : L2.St} {H : Hp} {ta tb te : TE} {tz : TS} {D : Ends} {i j : Nat} {w : V} {xs ys : List V} {P1 P2 : V → Hp → Prop} {Q : VK}
theorem q_parL (h : EvL ta σ H xs) (h2 : Ev tb σ H w) (k : ∀ p H1, H p = none → Ex H H1 → H1 p = some (.lst xs) → tz D ((σ.set i (some (.ref p))).set j (some w)) H1) : tSeq (tPar i j (tCons ta (tCons tb tNil))) tz D σ H :=
  h H (Ex.refl H) _ fun p H1 hp e1 h1 => h2 H1 e1 _ fun H2 e2 => ⟨.ref p, w, rfl, k p H2 hp (e1.trans e2) (e2 _ _ h1)⟩
theorem s_parL (h : EvL ta σ H xs) (h2 : Ev tb σ H w) (k : ∀ p H1, H p = none → Ex H H1 → H1 p = some (.lst xs) → D.nx ((σ.set i (some (.ref p))).set j (some w)) H1) : tPar i j (tCons ta (tCons tb tNil)) D σ H :=
  h H (Ex.refl H) _ fun p H1 hp e1 h1 => h2 H1 e1 _ fun H2 e2 => ⟨.ref p, w, rfl, k p H2 hp (e1.trans e2) (e2 _ _ h1)⟩
theorem q_parP (h : EvP ta σ H P1) (h2 : ∀ v H1, Ex H H1 → P1 v H1 → EvP tb σ H1 P2) (k : ∀ v w H1 H2, Ex H H1 → P1 v H1 → Ex H1 H2 → P2 w H2 → tz D ((σ.set i (some v)).set j (some w)) H2) : tSeq (tPar i j (tCons ta (tCons tb tNil))) tz D σ H :=
  h H (Ex.refl H) _ fun v H1 e1 p1 => h2 v H1 e1 p1 H1 (Ex.refl H1) _ fun w H2 e2 p2 => ⟨v, w, rfl, k v w H1 H2 e1 p1 e2 p2⟩
theorem el_cat {a : Addr} (h : Ev ta σ H (.ref a)) (ha : H a = some (.lst xs)) (h2 : EvL tb σ H ys) (hz : xs.length + ys.length ≤ 100000) : EvL (tOp rCat ta tb) σ H (xs ++ ys) := fun H1 e Q q =>
  h H1 e _ fun H2 e2 => h2 H2 (e.trans e2) _ fun b H3 hb e3 h3 => ⟨a, b, xs, ys, rfl, rfl, ((e.trans e2).trans e3) _ _ ha, h3, sz_of hz, fun p hp => q p _ (fresh_back (e2.trans e3) hp) ((e2.trans e3).trans (Ex.new hp)) upd_same⟩
end
section
variable {P : Program} {w : World} {K : PySem.W.Frag} {mg : Str → Option Value} {base : Heap} {cPE cBR cBT cS cR : Addr}
/-! ### _law_read_right -/
def spRR : Sp := fun vs H Q _ => ∃ cs : List Nat, vs = [.str (SX.S cs)] ∧ cs.length ≤ 50000 ∧ ∀ H', Ex H H' → Q (.bl true) H'
abbrev s_rr : Stmt := top 28
theorem sc_rr : FnScope ["_law_text", "_law_words", "_law_word", "_law_sign", "_law_pair_here", "_law_heard_here", "_law_found"] ["_law_text"] (defScope s_rr) := ⟨rfl, rfl, rfl, by decide +kernel, rfl, by decide +kernel, by decide +kernel⟩
theorem spl_count (S : List Nat) : ∀ (l : List Nat) (k : Nat) (acc : List Nat), (TL.spl S k acc l).length ≤ l.length + 1 := by
  intro l
  induction l with
  | nil => intro k acc; rw [TL.spl_nil]; simp
  | cons c r ih =>
    intro k acc
    cases k with
    | zero =>
      cases hpre : TL.pre S (c :: r) with
      | true =>
        rw [TL.spl_hit hpre]
        have := ih (S.length - 1) []
        simp only [List.length_cons] at this ⊢
        omega
      | false =>
        rw [TL.spl_miss hpre]
        have := ih 0 (acc ++ [c])
        simp only [List.length_cons] at this ⊢
        omega
    | succ k =>
      have := ih k acc
      show (TL.spl S k acc r).length ≤ _
      simp only [List.length_cons]
      omega
theorem strs_at {ws : List (List Nat)} : (ws.map fun w => V.str (SX.S w)) = (ws.map fun w => V.str (SX.S w)) := rfl
theorem notFirst_self : PySem.W.notFirst K cR (.ref cR) = true := by
  unfold PySem.W.notFirst
  simp
theorem ten200 : ∀ n : Nat, n < 2 ^ 200 → n < 10 ^ 100 := fun n h => Nat.lt_trans h (by decide +kernel)
theorem ok_rr {f : Addr} {fd : FuncData} (F : Fun K "_law_read_right" "_law_read_right" s_rr f fd) (B : Bi mg) (C : RtC K cR) (gR : mg "Ratio" = some (.ref cR)) (GPa : GF P w K mg base 2 "_law_pair" spPair []) (GHe : GF P w K mg base 8 "_law_heard" (spHeard K cR) [])
    (GR2 : GC P w K mg base 3 "Ratio" cR (spRI cR) []) (GEq : OM P w K mg base 2 cR "__eq__" (spEq cR)) (GSt : OM P w K mg base 1 cR "__str__" (spStr cR)) (GRp : OM P w K mg base 4 cR "__repr__" (spStr cR))
    (GRd : GSK P w K mg base 7 "Ratio" cR "read" (spRd K cBT cR) ["text"] (fun vs zs => vs ++ zs)) : FnG P w K mg base 9 f fd ["_law_text"] spRR := by
  refine okG F sc_rr (fun vs H Q E h => ?_) (fun cdv A outer s H vs Q E hr h => ?_)
  · obtain ⟨cs, rfl, _⟩ := h
    rfl
  · obtain ⟨cs, rfl, hl, k⟩ := h
    have nd := sc_rr.nd
    refine ⟨_, (pss_cons (ps_par (i := 1) (j := 2) rfl nd rfl rfl (by decide) rfl rfl (pa_cons (pe_lst pa_nil) (pa_cons pe_str pa_nil)) (by rfl))
  (pss_cons (ps_for (passes_of rfl) rfl (pi_str (pv 0)) (pg_name (i := 3) nd rfl (Or.inl rfl))
    (pss_one (ps_if (pt_cmpR op_eq (pv 3) pe_str (nomark _))
      (pss_one (ps_par (i := 1) (j := 2) rfl nd rfl rfl (by decide) rfl rfl (pa_cons (pe_op op_cat (pv 1) (pe_lst (pa_cons (pv 2) pa_nil))) (pa_cons pe_str pa_nil)) (by rfl)))
      (pss_one (ps_set (i := 2) nd rfl (Or.inl rfl) (pe_op op_add_str (pv 2) (pv 3)))))))
  (pss_cons (ps_set (i := 1) nd rfl (Or.inl rfl) (pe_op op_cat (pv 1) (pe_lst (pa_cons (pv 2) pa_nil))))
  (pss_cons (ps_par (i := 4) (j := 5) rfl nd rfl rfl (by decide) rfl rfl (pa_cons (pe_gf GPa (hr.mono (by decide)) (takes_of rfl rfl rfl rfl) (by rfl) (pa_cons (pe_ix ix_list (pv 1) pe_int (fun _ _ => rfl)) pa_nil)) (pa_cons (pe_gf GHe hr (takes_of rfl rfl rfl rfl) (by rfl) (pa_cons (pv 0) pa_nil)) pa_nil)) (by rfl))
  (pss_cons (ps_if (pt_cmpR op_isN (pv 4) pe_non (nomark _))
    (pss_one (ps_ret (pe_cmpR op_eq (pe_callB (call_reprD hr) (by rfl) B.repr Boot.«repr» (pa_cons (pv 5) pa_nil)) (pe_callB (call_reprD hr) (by rfl) B.repr Boot.«repr» (pa_cons (pe_tup (pa_cons pe_int (pa_cons pe_int pa_nil))) pa_nil)) (nomark _))))
    pss_nil)
  (pss_cons (ps_if (pt_cmpR op_gt (pe_callB call_len_seq (by rfl) B.len Boot.«len» (pa_cons (pv 1) pa_nil)) pe_int (nomark _))
    (pss_one (ps_ret (pe_cmpR op_eq (pe_callB (call_reprD hr) (by rfl) B.repr Boot.«repr» (pa_cons (pv 5) pa_nil)) (pe_callB (call_reprD hr) (by rfl) B.repr Boot.«repr» (pa_cons (pe_tup (pa_cons pe_int (pa_cons pe_int pa_nil))) pa_nil)) (nomark _))))
    pss_nil)
  (pss_cons (ps_if (PW.pt (pw_or (pt_not (pt_val (pe_callB call_isi (by rfl) B.isinstance Boot.«isinstance» (pa_cons (pv 5) (pa_cons (pe_bltn (v := .ty "list") (by rfl) B.list Boot.«list» rfl) pa_nil))))) (pw_or1 (pt_not (pt_val (pe_callB call_isi (by rfl) B.isinstance Boot.«isinstance» (pa_cons (pe_ix ix_list (pv 5) pe_int (fun _ _ => rfl)) (pa_cons (pe_glob (v := .ref cR) (by rfl) gR rfl) pa_nil))))))))
    (pss_one (ps_ret pe_bl))
    pss_nil)
  (pss_cons (ps_set (i := 6) nd rfl (Or.inl rfl) (pe_ix ix_list (pv 5) pe_int (fun _ _ => rfl)))
  (pss_cons (ps_if (PW.pt (pw_or (pt_cmpR op_ne (pe_callB (call_reprD hr) (by rfl) B.repr Boot.«repr» (pa_cons (pe_tup (pa_cons (pe_fld (pv 6) rfl) (pa_cons (pe_fld (pv 6) rfl) pa_nil))) pa_nil)) (pe_callB (call_reprD hr) (by rfl) B.repr Boot.«repr» (pa_cons (pv 4) pa_nil)) (nomark _)) (pw_or (pt_cmpR op_ne (pe_callTy (call_strO GSt (hr.mono (by decide))) (by rfl) B.str Boot.«str» (pa_cons (pv 6) pa_nil)) (pv 0) (nomark _)) (pw_or1 (pt_cmpR op_ne (pe_callB (call_reprO GRp (hr.mono (by decide))) (by rfl) B.repr Boot.«repr» (pa_cons (pv 6) pa_nil)) (pv 0) (nomark _))))))
    (pss_one (ps_ret pe_bl))
    pss_nil)
  (pss_one (ps_ret (pe_and (pe_cmpR (op_eqO GEq (hr.mono (by decide))) (pv 6) (pe_gc GR2 (hr.mono (by decide)) (takes_of rfl rfl rfl rfl) (by rfl) (pa_cons (pe_ix ix_tup (pv 4) pe_int (fun _ _ => rfl)) (pa_cons (pe_ix ix_tup (pv 4) pe_int (fun _ _ => rfl)) pa_nil))) (nomark _)) (pe_one (pe_cmpR (op_eqO GEq (hr.mono (by decide))) (pe_gsK GRd (hr.mono (by decide)) (takes_of rfl rfl rfl rfl) (by rfl) (pk_cons (pv 0) pk_nil)) (pv 6) (nomark _))))))))))))))), ?_⟩
    have k' : ∀ σ2 H2 {te : TE}, Ex H H2 → Ev te σ2 H2 (.bl true) → tRet te { nx := fun _ H' => Q .non H', rt := Q } σ2 H2 := fun σ2 H2 te e2 h => s_ret h fun H3 e3 => k H3 (e2.trans e3)
    refine q_parL (el_lst ea_nil (by decide)) (ev_c (v := .str (SX.S []))) fun a0 H1 ha0 e1 h1 => ?_
    have hcnt := spl_count [32] cs 0 []
    refine q_forS (ev_var rfl) (fun i σ' H' => ∃ (a : Addr) (ws : List (List Nat)) (w : List Nat) (t : Option V), σ' = [some (.str (SX.S cs)), some (.ref a), some (.str (SX.S w)), t, none, none, none] ∧ Ex H H' ∧ H' a = some (.lst (ws.map fun w => V.str (SX.S w))) ∧ TL.spl [32] 0 [] cs = ws ++ TL.spl [32] 0 w (cs.drop i) ∧ w.length ≤ i) (fun H2 e2 => ⟨a0, [], [], _, rfl, e1.trans e2, e2 _ _ h1, by simp, Nat.le_refl _⟩) (fun i c σ' H' hc h => ?_) (fun σ' H' h => ?_)
    · obtain ⟨a, ws, w, t, rfl, ex, ha, hsp, hwi⟩ := h
      have hi : i < cs.length := (List.getElem?_eq_some_iff.mp hc).1
      have hdr : cs.drop i = c :: cs.drop (i + 1) := by
        rw [List.drop_eq_getElem_cons hi]
        congr 1
        exact (List.getElem?_eq_some_iff.mp hc).2
      have hwl : ws.length ≤ 50001 := by
        have := congrArg List.length hsp
        rw [List.length_append] at this
        omega
      refine s_if (b := decide (c = 32)) (et_is (et_test (ev_op (ev_var rfl) ev_c (rv_eq rfl))) ?_) (fun hb H2 e2 => ?_) (fun hb H2 e2 => ?_)
      · rw [strLit (z := Str.ofString " ") [32] rfl]
        simp
      · have hc32 : c = 32 := of_decide_eq_true hb
        refine s_parL (xs := (ws ++ [w]).map fun w => V.str (SX.S w)) (by rw [List.map_append]; exact el_cat (ev_var rfl) (e2 _ _ ha) (el_lst (ea_cons (ev_var rfl) ea_nil) (by show 1 ≤ 100000; decide)) (by rw [List.length_map]; show _ + 1 ≤ _; omega)) (ev_c (v := .str (SX.S []))) fun p H3 hp e3 h3 => ?_
        refine ⟨p, ws ++ [w], [], _, rfl, (ex.trans e2).trans e3, h3, ?_, Nat.zero_le _⟩
        rw [hsp, hdr, TL.spl_hit (by rw [hc32]; rfl), List.append_assoc]
        rfl
      · have hc32 : c ≠ 32 := of_decide_eq_false hb
        refine s_asg (v := .str (SX.S (w ++ [c]))) (ev_is (ev_op (ev_var rfl) (ev_var rfl) (rv_addS (by rw [SX.S_len, SX.S_len]; exact sz_of (by simp; omega)))) (by rw [SX.S_cat])) fun H3 e3 => ?_
        refine ⟨a, ws, w ++ [c], _, rfl, (ex.trans e2).trans e3, e3 _ _ (e2 _ _ ha), ?_, by simp; omega⟩
        rw [hsp, hdr, TL.spl_miss (TL.pre_of_head _ _ hc32)]
    · obtain ⟨a, ws, w, t, rfl, ex, ha, hsp, hwi⟩ := h
      rw [List.drop_length, TL.spl_nil] at hsp
      have hwl : ws.length ≤ 50001 := by
        have := congrArg List.length hsp
        rw [List.length_append] at this
        omega
      refine q_asgL (xs := (TL.spl [32] 0 [] cs).map fun w => V.str (SX.S w)) (by rw [hsp, List.map_append]; exact el_cat (ev_var rfl) ha (el_lst (ea_cons (ev_var rfl) ea_nil) (by show 1 ≤ 100000; decide)) (by rw [List.length_map]; show _ + 1 ≤ _; omega)) fun p H2 hp e2 h2 => ?_
      clear ha hsp hwi hwl
      cases hsp : TL.spl [32] 0 [] cs with
      | nil => exact absurd hsp (spl_ne _ _ _ _)
      | cons w0 r =>
        rw [hsp] at h2
        have hw0 : w0.length ≤ 100000 := by
          have := spl_len [32] cs 0 [] w0 (by rw [hsp]; exact List.mem_cons_self)
          simp at this
          omega
        refine q_parP (P1 := PPair (ratIn w0)) (P2 := PHeard cR (rdIn cs)) (ep_gf (ea_cons (ev_op (ev_var rfl) ev_c (rv_ixL (K := K) (sq_of h2) (atI_nat (j := 0) rfl))) ea_nil) (fun H3 e3 Q3 q3 E3 => ⟨w0, rfl, hw0, q3⟩)) (fun v H3 e3 _ => ep_gf (ea_cons (ev_var rfl) ea_nil) (fun H4 e4 Q4 q4 E4 => ⟨_, rdIn cs, rfl, .inl ⟨cs, rfl, by omega, rfl⟩, q4⟩)) fun v u H3 H4 e3 pv' e4 pu => ?_
        have ex4 := ((ex.trans e2).trans e3).trans e4
        have hz : (0 : Int).natAbs < 10 ^ 100 := by decide
        have ho : (1 : Int).natAbs < 10 ^ 100 := by decide
        have hrd : rdIn cs = match ratIn w0 with
          | none => .inl 0
          | some tb => if r = [] then .inr tb else .inl 1 := by
          unfold rdIn
          rw [hsp] <;> rfl
        cases hR : ratIn w0 with
        | none =>
          rw [hR] at pv' hrd
          have hv : v = .non := pv'
          subst hv
          have hrd' : rdIn cs = .inl 0 := hrd
          rw [hrd'] at pu
          obtain ⟨q, rfl, hq⟩ := (show ∃ q, u = .ref q ∧ H4 q = some (.tup [.int 0, .int 0]) from pu)
          refine q_when (b := true) (et_test (ev_op (ev_var rfl) ev_c rv_isN)) (fun _ H5 e5 => ?_) (fun z => nomatch z)
          refine k' _ _ (ex4.trans e5) (ev_is (ev_op (ev_cb (ea_cons (ev_var rfl) ea_nil) (rc_repr2 (K := K) (st_of (e5 _ _ hq)) hz hz)) (ev_reprN (K := K) (ea_cons ev_c (ea_cons ev_c ea_nil)) hz hz) (rv_eq rfl)) (by simp))
        | some tb =>
          obtain ⟨t', b'⟩ := tb
          rw [hR] at pv' hrd
          obtain ⟨g, rfl, hg⟩ := (show ∃ q, v = .ref q ∧ H3 q = some (.tup [.int t', .int b']) from pv')
          have hg4 := e4 _ _ hg
          refine q_when (b := false) (et_test (ev_op (ev_var rfl) ev_c rv_isN)) (fun z => nomatch z) (fun _ H5 e5 => ?_)
          have h5 := e5 _ _ (e4 _ _ (e3 _ _ h2))
          refine q_when (b := decide (r ≠ [])) (et_is (et_test (ev_op (ev_cb (ea_cons (ev_var rfl) ea_nil) (rc_lenL (K := K) (.inl (sq_of h5)))) ev_c rv_I0)) ?_) (fun hb H6 e6 => ?_) (fun hb H6 e6 => ?_)
          · rw [List.length_map, decide_eq_decide, ← List.length_pos_iff]
            simp only [List.length_cons]
            omega
          · have hne : r ≠ [] := of_decide_eq_true hb
            have hrd' : rdIn cs = .inl 1 := by rw [hrd]; simp [hne]
            rw [hrd'] at pu
            obtain ⟨q, rfl, hq⟩ := (show ∃ q, u = .ref q ∧ H4 q = some (.tup [.int 0, .int 1]) from pu)
            refine k' _ _ ((ex4.trans e5).trans e6) (ev_is (ev_op (ev_cb (ea_cons (ev_var rfl) ea_nil) (rc_repr2 (K := K) (st_of ((e5.trans e6) _ _ hq)) hz ho)) (ev_reprN (K := K) (ea_cons ev_c (ea_cons ev_c ea_nil)) hz ho) (rv_eq rfl)) (by simp))
          · have hr0 : r = [] := by simpa using hb
            subst hr0
            have hw : w0 = cs := one_word hsp
            subst hw
            have hrd' : rdIn w0 = .inr (t', b') := by rw [hrd]; simp
            rw [hrd'] at pu
            obtain ⟨q, rr, rfl, hq, hRR⟩ := (show ∃ q r, u = .ref q ∧ H4 q = some (.lst [.ref r]) ∧ IsR cR H4 r t' b' from pu)
            obtain ⟨hback, ht2, hb2, hbpos, hgcd⟩ := ratIn_back hR
            have ht1 := ten200 _ ht2
            have hb1 := ten200 _ hb2
            have e46 := e5.trans e6
            have hq6 := e46 _ _ hq
            have hR6 := hRR.mono e46
            obtain ⟨dr, hrr6⟩ := id hR6
            refine q_when (b := false) (et_is (et_or (a := false) (b := false) (et_not (a := true) (et_B (ev_cb (ea_cons (ev_var rfl) (ea_cons ev_c ea_nil)) (rc_isi (.ty _) (fun H7 e7 => .base (.lst (e7 _ _ hq6))) (kit_ty (by decide +kernel)))))) fun _ => et_not (a := true) (et_B (ev_cb (ea_cons (ev_op (ev_var rfl) ev_c (rv_ixL (K := K) (sq_of hq6) (atI_nat (j := 0) rfl))) (ea_cons ev_c ea_nil)) (rc_isi (.own _) (fun H7 e7 => C.ty (e7 _ _ hrr6)) (kit_self cR))))) rfl) (fun z => nomatch z) (fun _ H7 e7 => ?_)
            refine q_asg (ev_op (ev_var rfl) ev_c (rv_ixL (K := K) (sq_of (e7 _ _ hq6)) (atI_nat (j := 0) rfl))) fun H8 e8 => ?_
            have e68 := e7.trans e8
            have hrr8 := e68 _ _ hrr6
            have hR8 := hR6.mono e68
            have hg8 := (e46.trans e68) _ _ hg4
            have hst : SX.S (ratS t' b') = SX.S w0 := by rw [hback]
            refine q_when (b := false) (et_is (et_or (a := false) (b := false) (et_is (et_test (ev_op (ev_reprN (K := K) (ea_cons (ev_fld (ev_var rfl) hrr8 C.cl C.top rfl) (ea_cons (ev_fld (ev_var rfl) hrr8 C.cl C.bottom rfl) ea_nil)) ht1 hb1) (ev_cb (ea_cons (ev_var rfl) ea_nil) (rc_repr2 (K := K) (st_of hg8) ht1 hb1)) (rv_ne rfl))) (by simp)) fun _ => et_is (et_or (a := false) (b := false) (et_is (et_test (ev_op (ev_cb (ea_cons (ev_var rfl) ea_nil) (rc_strO hrr8 (spv_Str hR8 ht1 hb1))) (ev_var rfl) (rv_ne rfl))) (by rw [hst]; simp)) fun _ => et_is (et_test (ev_op (ev_cb (ea_cons (ev_var rfl) ea_nil) (rc_strO hrr8 (spv_Str hR8 ht1 hb1))) (ev_var rfl) (rv_ne rfl))) (by rw [hst]; simp)) rfl) rfl) (fun z => nomatch z) (fun _ H9 e9 => ?_)
            have ex9 := (ex4.trans e46).trans (e68.trans e9)
            have hrr9 := e9 _ _ hrr8
            have hR9 := hR8.mono e9
            refine k' _ _ ex9 (ev_is (ev_andV (a := true) (b := true) (fun H10 e10 Q10 q10 => ?_) fun _ => fun H10 e10 Q10 q10 => ?_) rfl)
            · refine g_op (ev_var rfl) fun H11 e11 => ?_
              refine ep_Rat (t := t') (b := b') (ea_cons (ev_op (ev_var rfl) ev_c (rv_ixT (K := K) (st_of ((e9.trans (e10.trans e11)) _ _ hg8)) (atI_nat (j := 0) rfl))) (ea_cons (ev_op (ev_var rfl) ev_c (rv_ixT (K := K) (st_of ((e9.trans (e10.trans e11)) _ _ hg8)) (atI_nat (j := 1) rfl))) ea_nil)) rfl (by omega) (Nat.lt_of_lt_of_le hb2 (Nat.pow_le_pow_right (by decide) (by decide))) H11 (Ex.refl H11) _ fun v H12 e12 ⟨an, hv, hRa⟩ => ?_
              subst hv
              rw [com1 (by omega) hgcd, Int.fdiv_one, Int.fdiv_one] at hRa
              obtain ⟨dn, hn⟩ := id hRa
              have e912 := (e10.trans e11).trans e12
              refine ⟨rr, dr, _, .ref cR, rfl, e912 _ _ hrr9, C.ty hn, notFirst_self, rr, an, t', b', t', b', rfl, hR9.mono e912, hRa, fun H13 e13 => ?_⟩
              have := q10 H13 ((e11.trans e12).trans e13)
              simpa using this
            · refine g_op1 (ea_cons (ev_var rfl) ea_nil H10 (Ex.refl H10) _ fun H11 e11 => ⟨_, rfl, .inl ⟨w0, rfl, by omega, fun i hi => ?_, fun t2 b2 hi r2 H12 e12 hR2 => ?_⟩⟩)
              · rw [hrd'] at hi
                cases hi
              · rw [hrd'] at hi
                cases hi
                refine ev_var rfl H12 (Ex.refl H12) _ fun H13 e13 => ?_
                have e913 := ((e10.trans e11).trans e12).trans e13
                obtain ⟨d2, h2'⟩ := hR2.mono e13
                refine ⟨r2, d2, _, .ref cR, rfl, h2', C.ty (e913 _ _ hrr9), notFirst_self, r2, rr, _, _, _, _, rfl, hR2.mono e13, hR9.mono e913, fun H14 e14 => ?_⟩
                have := q10 H14 (((e11.trans e12).trans e13).trans e14)
                simpa using this
end
end K2

/-! # K02o -/
set_option Elab.async false
set_option linter.all false
set_option maxRecDepth 100000
set_option maxHeartbeats 4000000
namespace K2
open PySem PyProof.Rows L2 Pk Evl
/-! ### text * int -/
def reps (n : Nat) (a : List Nat) : List Nat := (List.replicate n a).flatten
theorem foldl_reps (a : List Nat) : ∀ (n : Nat) (acc : Array Nat), (List.replicate n (SX.S a).cps).foldl (· ++ ·) acc = acc ++ (reps n a).toArray := by
  intro n
  induction n with
  | zero => intro acc; simp [reps]
  | succ n ih =>
    intro acc
    rw [List.replicate_succ, List.foldl_cons, ih]
    unfold reps
    rw [List.replicate_succ, List.flatten_cons]
    show acc ++ a.toArray ++ _ = _
    simp [Array.append_assoc]
theorem reps_len (n : Nat) (a : List Nat) : (reps n a).length = n * a.length := by
  unfold reps
  induction n with
  | zero => simp
  | succ n ih => rw [List.replicate_succ, List.flatten_cons, List.length_append, ih, Nat.succ_mul]; omega
def rMulS : R2 := fun x y H Q => ∃ (c : Nat) (n : Int), x = .str (SX.S [c]) ∧ y = .int n ∧ 2 ≤ n ∧ n ≤ 50000 ∧ Q (.str (SX.S (reps n.toNat [c]))) H
theorem op_mulS {X : Cx} : OpR X (binaryOp .Mult) rMulS := by
  intro pins s σ H x y v u Q I rx ry h
  obtain ⟨c, n, rfl, rfl, h2, hn, q⟩ := h
  obtain ⟨t, rfl⟩ := rx
  obtain ⟨t', rfl⟩ := ry
  have hl : (SX.S [c]).length = 1 := SX.S_len [c]
  refine PySem.P.mul_str ?_ ?_ ?_ ?_
  · rw [decide_eq_false (by omega), decide_eq_false (by omega)]; rfl
  · intro _ _ z
    rw [hl] at z
    have : (1 : Int) ≤ (2 ^ 63 - 1) / n := Int.le_ediv_of_mul_le (by omega) (by omega)
    have z' : (1 : Int) > (2 ^ 63 - 1) / n := z
    omega
  · intro _ _
    rw [hl]
    unfold Builtin.Str.tooLong
    have : sizeLine ≥ 100000 := by decide
    exact decide_eq_false (by omega)
  · rw [if_neg (by omega), if_neg (by rw [hl]; simp; omega), foldl_reps]
    have e : (⟨#[] ++ (reps n.toNat [c]).toArray⟩ : Str) = SX.S (reps n.toNat [c]) := by
      show (⟨#[] ++ (reps n.toNat [c]).toArray⟩ : Str) = ⟨(reps n.toNat [c]).toArray⟩
      simp
    rw [e]
    exact ⟨by rw [SX.S_len, reps_len]; exact sz_of (by simp; omega), .str _, H, I.tok _, ⟨_, rfl⟩, q⟩
/-! ### texts of whose length alone one speaks -/
def EvS (te : TE) (σ : L2.St) (H : Hp) (n : Nat) : Prop := ∃ l : List Nat, l.length ≤ n ∧ Ev te σ H (.str (SX.S l))
theorem S_of (z : Str) : z = SX.S z.cps.toList := by
  cases z
  simp [SX.S]
section
variable {K : PySem.W.Frag} {σ : L2.St} {H : Hp} {ta tb te : TE} {n m : Nat}
theorem ev_cat2 {a b : List Nat} (h1 : Ev ta σ H (.str (SX.S a))) (h2 : Ev tb σ H (.str (SX.S b))) (hz : a.length + b.length ≤ 100000) : Ev (tOp (fun x y H Q => ∃ i j, x = .str i ∧ y = .str j ∧ i.length + j.length ≤ sizeLine ∧ Q (.str (i ++ j)) H) ta tb) σ H (.str (SX.S (a ++ b))) :=
  ev_is (ev_op h1 h2 (rv_addS (by rw [SX.S_len, SX.S_len]; exact sz_of hz))) (by rw [SX.S_cat])
theorem es_cat (h1 : EvS ta σ H n) (h2 : EvS tb σ H m) (hz : n + m ≤ 100000) : EvS (tOp (fun x y H Q => ∃ i j, x = .str i ∧ y = .str j ∧ i.length + j.length ≤ sizeLine ∧ Q (.str (i ++ j)) H) ta tb) σ H (n + m) := by
  obtain ⟨a, ha, h1⟩ := h1
  obtain ⟨b, hb, h2⟩ := h2
  exact ⟨a ++ b, by rw [List.length_append]; omega, ev_cat2 h1 h2 (by omega)⟩
theorem es_c {z : Str} (h : z.cps.toList.length ≤ n) : EvS (tC (.str z)) σ H n := ⟨z.cps.toList, h, ev_is ev_c (by rw [← S_of])⟩
theorem es_of {l : List Nat} (h : Ev te σ H (.str (SX.S l))) (hl : l.length ≤ n) : EvS te σ H n := ⟨l, hl, h⟩
theorem es_str {i : Int} {k : Nat} (h : Ev te σ H (.int i)) (hk : 0 < k) (hi : i.natAbs < 10 ^ k) (hk2 : k ≤ 100) : EvS (tCB (fun xs H Q => ∃ i : Int, xs = [V.int i] ∧ i.natAbs.log2 < 1920 ∧ Q (.str (toString i)) H) (tCons te tNil)) σ H (k + 1) :=
  ⟨intL i, intL_le hk hi, ev_cb (ea_cons h ea_nil) (rc_strI2 (lg (Nat.lt_trans (Nat.lt_of_lt_of_le hi (Nat.pow_le_pow_right (by decide) hk2)) ten100)))⟩
theorem es_mul {c : Nat} {i : Int} (h1 : Ev ta σ H (.str (SX.S [c]))) (h2 : Ev tb σ H (.int i)) (h3 : 2 ≤ i) (h4 : i ≤ 50000) (h5 : i.toNat ≤ n) : EvS (tOp rMulS ta tb) σ H n :=
  ⟨reps i.toNat [c], by rw [reps_len]; simpa using h5, ev_op h1 h2 fun H1 _ _ q => ⟨c, i, rfl, rfl, h3, h4, q H1 (Ex.refl H1)⟩⟩
/-- a display of c such texts -/
def ElS (tA : TA) (σ : L2.St) (H : Hp) (n c : Nat) : Prop := ∃ ls : List (List Nat), (∀ l ∈ ls, l.length ≤ n) ∧ ls.length = c ∧ EvA tA σ H (ls.map fun l => V.str (SX.S l))
theorem els_nil : ElS tNil σ H n 0 := ⟨[], fun _ h => by simp at h, rfl, ea_nil⟩
theorem els_cons {tA : TA} {c : Nat} (h : EvS te σ H m) (hm : m ≤ n) (hr : ElS tA σ H n c) : ElS (tCons te tA) σ H n (c + 1) := by
  obtain ⟨l, hl, h⟩ := h
  obtain ⟨ls, h1, h2, h3⟩ := hr
  refine ⟨l :: ls, fun x hx => ?_, by simp [h2], ea_cons h h3⟩
  rcases List.mem_cons.mp hx with rfl | hx
  · omega
  · exact h1 x hx
theorem mem_strs {ls : List (List Nat)} {x : V} (h : x ∈ ls.map fun l => V.str (SX.S l)) (hn : ∀ l ∈ ls, l.length ≤ n) : ∃ l : List Nat, x = .str (SX.S l) ∧ l.length ≤ n := by
  obtain ⟨l, hl, e⟩ := List.mem_map.mp h
  exact ⟨l, e.symm, hn l hl⟩
end
section
variable {P : Program} {w : World} {K : PySem.W.Frag} {mg : Str → Option Value} {base : Heap} {cPE cBR cBT cS cR : Addr}
/-! ### _law_bent -/
def spBent (K : PySem.W.Frag) : Sp := fun vs H Q _ => ∃ (p : Addr) (B : Nat) (cs : List Nat), vs = [.ref p, .str (SX.S cs)] ∧ cs.length ≤ 20000 ∧ Pen K H p B ∧ B < 900000 ∧ ∀ (l : List Nat) H', l.length ≤ 2 * cs.length + 10 → ExB p H H' → Pen K H' p (B + 10) → Q (.str (SX.S l)) H'
abbrev s_bent : Stmt := top 29
theorem sc_bent : FnScope ["_law_pen_here", "_law_text", "_law_signs", "_law_sign", "_law_spot", "_law_way"] ["_law_pen_here", "_law_text"] (defScope s_bent) := ⟨rfl, rfl, rfl, by decide +kernel, rfl, by decide +kernel, by decide +kernel⟩
theorem g_if {t : TT} {ta tb : TE} {σ : L2.St} {H : Hp} {Q : VK} (h : t σ H fun b H1 => if b = true then ta σ H1 Q else tb σ H1 Q) : tIf t ta tb σ H Q := h
theorem g_test {te : TE} {σ : L2.St} {H : Hp} {Q : Bool → Hp → Prop} (h : te σ H fun v H1 => ∃ b, v = .bl b ∧ Q b H1) : tTest te σ H Q := h
/-- what te gives is told by Pz (any heap behind) -/
def EvQ (te : TE) (σ : L2.St) (H : Hp) (Pz : V → Hp → Prop) : Prop := ∀ Q : VK, (∀ v H', Pz v H' → Q v H') → te σ H Q
theorem ite_both {c : Prop} [Decidable c] {t1 t2 : TE} {σ : L2.St} {H : Hp} {Q : VK} {Pz : V → Hp → Prop} (h1 : EvQ t1 σ H Pz) (h2 : EvQ t2 σ H Pz) (k : ∀ v H', Pz v H' → Q v H') : if c then t1 σ H Q else t2 σ H Q := by
  split
  · exact h1 Q k
  · exact h2 Q k
theorem q_parQ {σ : L2.St} {H : Hp} {ta tb : TE} {tz : TS} {D : Ends} {i j : Nat} {P1 : V → Hp → Prop} {P2 : V → V → Hp → Prop} (h1 : EvQ ta σ H P1) (h2 : ∀ v H1, P1 v H1 → EvQ tb σ H1 (P2 v)) (k : ∀ v w H2, P2 v w H2 → tz D ((σ.set i (some v)).set j (some w)) H2) :
    tSeq (tPar i j (tCons ta (tCons tb tNil))) tz D σ H := h1 _ fun v H1 p1 => h2 v H1 p1 _ fun w H2 p2 => ⟨v, w, rfl, k v w H2 p2⟩
theorem ok_bent {f : Addr} {fd : FuncData} (F : Fun K "_law_bent" "_law_bent" s_bent f fd) (B : Bi mg) (GD : GF P w K mg base 1 "_law_draw" (spDraw K) []) (GP : GF P w K mg base 2 "_law_pick" (spPick K) []) : FnG P w K mg base 3 f fd ["_law_pen_here", "_law_text"] (spBent K) := by
  refine okG F sc_bent (fun vs H Q E h => ?_) (fun cdv A outer s H vs Q E hr h => ?_)
  · obtain ⟨p, N, cs, rfl, _⟩ := h
    rfl
  · obtain ⟨p, N, cs, rfl, hl, hp, hN, k⟩ := h
    have nd := sc_bent.nd
    have hr1 := hr.mono (j := 1) (by decide)
    refine ⟨_, (pss_cons (ps_set (i := 2) nd rfl (Or.inl rfl) pe_str)
  (pss_cons (ps_set (i := 3) nd rfl (Or.inl rfl) (pe_ifExp (pt_cmpR op_eq (pe_gf GD hr1 (takes_of rfl rfl rfl rfl) (by rfl) (pa_cons (pv 0) (pa_cons pe_int pa_nil))) pe_int (nomark _)) (pe_gf GP hr (takes_of rfl rfl rfl rfl) (by rfl) (pa_cons (pv 0) (pa_cons (pv 2) pa_nil))) (pe_gf GP hr (takes_of rfl rfl rfl rfl) (by rfl) (pa_cons (pv 0) (pa_cons pe_str pa_nil)))))
  (pss_cons (ps_par (i := 4) (j := 5) rfl nd rfl rfl (by decide) rfl rfl (pa_cons (pe_gf GD hr1 (takes_of rfl rfl rfl rfl) (by rfl) (pa_cons (pv 0) (pa_cons (pe_op op_add (pe_callB call_len_str (by rfl) B.len Boot.«len» (pa_cons (pv 1) pa_nil)) pe_int) pa_nil))) (pa_cons (pe_gf GD hr1 (takes_of rfl rfl rfl rfl) (by rfl) (pa_cons (pv 0) (pa_cons pe_int pa_nil))) pa_nil)) (by rfl))
  (pss_cons (ps_if (pt_cmpR op_lt (pv 5) pe_int (nomark _))
    (pss_one (ps_ret (pe_op op_add_str (pe_op op_add_str (pe_slice C8.sl_txt (pv 1) po_none (po_some (pv 4))) (pv 3)) (pe_slice C8.sl_txt (pv 1) (po_some (pv 4)) po_none))))
    pss_nil)
  (pss_cons (ps_if (pt_cmpR op_lt (pv 5) pe_int (nomark _))
    (pss_one (ps_ret (pe_op op_add_str (pe_op op_add_str (pe_slice C8.sl_txt (pv 1) po_none (po_some (pv 4))) (pv 3)) (pe_slice C8.sl_txt (pv 1) (po_some (pe_op op_add (pv 4) pe_int)) po_none))))
    pss_nil)
  (pss_cons (ps_if (pt_cmpR op_eq (pv 5) pe_int (nomark _))
    (pss_one (ps_ret (pe_op op_add_str (pe_slice C8.sl_txt (pv 1) po_none (po_some (pv 4))) (pe_slice C8.sl_txt (pv 1) (po_some (pe_op op_add (pv 4) pe_int)) po_none))))
    pss_nil)
  (pss_one (ps_ret (pe_op op_add_str (pv 1) (pe_gf GP hr (takes_of rfl rfl rfl rfl) (by rfl) (pa_cons (pv 0) (pa_cons (pe_lst (pa_cons pe_str (pa_cons pe_str (pa_cons pe_str (pa_cons (pe_op op_add_str pe_str (pv 1)) (pa_cons (pe_op op_add_str pe_str (pv 1)) (pa_cons pe_str (pa_cons pe_str pa_nil)))))))) pa_nil)))))))))))), ?_⟩
    have hz : (SX.S cs).length ≤ sizeLine := by rw [SX.S_len]; exact sz_of (by omega)
    refine q_asg ev_c fun H1 e1 => ?_
    refine q_set (g_if (g_test (g_op1 (go_draw (p := p) (many := 3) (B := N) (ea_cons (ev_var rfl) (ea_cons ev_c ea_nil)) (hp.mono e1 (Nat.le_refl _)) (by omega) (by decide) (by decide) fun r H2 r0 r1 e2 hp2 => ?_))))
    refine ⟨rfl, _, rfl, ?_⟩
    refine ite_both (Pz := fun v H3 => ∃ c : Nat, v = .str (SX.S [c]) ∧ ExB p H2 H3 ∧ Pen K H3 p (N + 1 + 1)) (fun Q' q' => ?_) (fun Q' q' => ?_) fun v H3 hv => ?_
    · exact go_pickS (p := p) (l := (Str.ofString " !\"#$&'()*+,-./0123456789:;<=>?@ABCDEFGHIJKLMNOPQRSTUVWXYZ[\\]^_`abcdefghijklmnopqrstuvwxyz{|}~\n").cps.toList) (ea_cons (ev_var rfl) (ea_cons (ev_is (ev_var rfl) (by rw [← S_of])) ea_nil)) hp2 (by omega) (by decide +kernel) (by decide +kernel) fun c H3 _ e3 hp3 => q' _ _ ⟨c, rfl, e3, hp3⟩
    · exact go_pickS (p := p) (l := (Str.ofString "0/-+ 159.").cps.toList) (ea_cons (ev_var rfl) (ea_cons (ev_is ev_c (by rw [← S_of])) ea_nil)) hp2 (by omega) (by decide +kernel) (by decide +kernel) fun c H3 _ e3 hp3 => q' _ _ ⟨c, rfl, e3, hp3⟩
    obtain ⟨c, rfl, e3, hp3⟩ := hv
    refine q_parQ (P1 := fun v H4 => ∃ r : Nat, v = .int (r : Int) ∧ r ≤ cs.length ∧ ExB p H3 H4 ∧ Pen K H4 p (N + 1 + 1 + 1)) (P2 := fun v u H5 => ∃ (r : Nat) (y : Int), v = .int (r : Int) ∧ r ≤ cs.length ∧ u = .int y ∧ ExB p H3 H5 ∧ Pen K H5 p (N + 1 + 1 + 1 + 1))
      (fun Q' q' => go_draw (p := p) (many := (cs.length : Int) + 1) (ea_cons (ev_var rfl) (ea_cons (ev_is (ev_op (ev_cb (ea_cons (ev_var rfl) ea_nil) (rc_lenS hz)) ev_c rv_I0) (by rw [SX.S_len])) ea_nil)) hp3 (by omega) (by omega) (by omega) fun r H4 r0 r1 e4 hp4 => ?_)
      (fun v H4 ⟨r, hv, hr', e4, hp4⟩ Q' q' => go_draw (p := p) (many := 6) (ea_cons (ev_var rfl) (ea_cons ev_c ea_nil)) hp4 (by omega) (by decide) (by decide) fun y H5 y0 y1 e5 hp5 => q' _ _ ⟨r, y, hv, hr', rfl, e4.trans e5, hp5⟩) fun v u H5 hvu => ?_
    · obtain ⟨n, rfl⟩ := Int.eq_ofNat_of_zero_le r0
      exact q' _ _ ⟨n, rfl, by omega, e4, hp4⟩
    obtain ⟨r, y, rfl, hr', rfl, e5, hp5⟩ := hvu
    have exH : ExB p H H5 := ((ExB.of e1).trans (‹ExB p H1 H2›.trans e3)).trans e5
    have out : ∀ (l : List Nat) (H6 : Hp), l.length ≤ 2 * cs.length + 10 → Ex H5 H6 → Q (.str (SX.S l)) H6 := fun l H6 hl6 e6 => k l H6 hl6 (exH.trans (ExB.of e6)) (hp5.mono e6 (by omega))
    have tk : ∀ (σ' : L2.St) (H6 : Hp), σ'[1]? = some (some (.str (SX.S cs))) → σ'[4]? = some (some (.int (r : Int))) → Ev (tSl C8.rSlX (tVar 1) tNoPart (tPart (tVar 4))) σ' H6 (.str (SX.S (cs.take r))) := fun σ' H6 h1 h4 => ev_is (ev_sl (ev_var h1) eo_none (eo_some (ev_var h4)) hz) (by rw [SX.slice_to (by omega)]; rfl)
    have dr : ∀ (σ' : L2.St) (H6 : Hp), σ'[1]? = some (some (.str (SX.S cs))) → σ'[4]? = some (some (.int (r : Int))) → Ev (tSl C8.rSlX (tVar 1) (tPart (tVar 4)) tNoPart) σ' H6 (.str (SX.S (cs.drop r))) := fun σ' H6 h1 h4 => ev_is (ev_sl (ev_var h1) (eo_some (ev_var h4)) eo_none hz) (by rw [SX.slice_from (by omega)]; rfl)
    have dr1 : ∀ (σ' : L2.St) (H6 : Hp), σ'[1]? = some (some (.str (SX.S cs))) → σ'[4]? = some (some (.int (r : Int))) → Ev (tSl C8.rSlX (tVar 1) (tPart (tOp (rI0 fun i j => V.int (i + j)) (tVar 4) (tC (.int 1)))) tNoPart) σ' H6 (.str (SX.S (cs.drop (r + 1)))) := fun σ' H6 h1 h4 => ev_is (ev_sl (ev_var h1) (eo_some (ev_op (ev_var h4) ev_c rv_I0)) eo_none hz) (by rw [SX.slice_from (by omega)]; rfl)
    refine q_when (et_test (ev_op (ev_var rfl) ev_c rv_I0)) (fun _ H6 e6 => ?_) (fun _ H6 e6 => ?_)
    · refine s_ret (ev_cat2 (ev_cat2 (tk _ _ rfl rfl) (ev_var rfl) ?_) (dr _ _ rfl rfl) ?_) fun H7 e7 => out _ H7 ?_ (e6.trans e7)
      all_goals simp
      all_goals omega
    refine q_when (et_test (ev_op (ev_var rfl) ev_c rv_I0)) (fun _ H7 e7 => ?_) (fun _ H7 e7 => ?_)
    · refine s_ret (ev_cat2 (ev_cat2 (tk _ _ rfl rfl) (ev_var rfl) ?_) (dr1 _ _ rfl rfl) ?_) fun H8 e8 => out _ H8 ?_ ((e6.trans e7).trans e8)
      all_goals simp
      all_goals omega
    refine q_when (et_test (ev_op (ev_var rfl) ev_c (rv_eq rfl))) (fun _ H8 e8 => ?_) (fun _ H8 e8 => ?_)
    · refine s_ret (ev_cat2 (tk _ _ rfl rfl) (dr1 _ _ rfl rfl) ?_) fun H9 e9 => out _ H9 ?_ (((e6.trans e7).trans e8).trans e9)
      all_goals simp
      all_goals omega
    have e58 := (e6.trans e7).trans e8
    obtain ⟨ls, l1, l2, l3⟩ : ElS (tCons (tC (.str " ")) (tCons (tC (.str " 1")) (tCons (tC (.str " /")) (tCons (tOp (fun x y H Q => ∃ i j, x = .str i ∧ y = .str j ∧ i.length + j.length ≤ sizeLine ∧ Q (.str (i ++ j)) H) (tC (.str "/")) (tVar 1)) (tCons (tOp (fun x y H Q => ∃ i j, x = .str i ∧ y = .str j ∧ i.length + j.length ≤ sizeLine ∧ Q (.str (i ++ j)) H) (tC (.str " ")) (tVar 1)) (tCons (tC (.str "/1")) (tCons (tC (.str "/2")) tNil))))))) [some (.ref p), some (.str (SX.S cs)), some (.str " !\"#$&'()*+,-./0123456789:;<=>?@ABCDEFGHIJKLMNOPQRSTUVWXYZ[\\]^_`abcdefghijklmnopqrstuvwxyz{|}~\n"), some (.str (SX.S [c])), some (.int (r : Int)), some (.int y)] H8 (cs.length + 2) 7 := by
      have hv : EvS (tVar 1) [some (.ref p), some (.str (SX.S cs)), some (.str " !\"#$&'()*+,-./0123456789:;<=>?@ABCDEFGHIJKLMNOPQRSTUVWXYZ[\\]^_`abcdefghijklmnopqrstuvwxyz{|}~\n"), some (.str (SX.S [c])), some (.int (r : Int)), some (.int y)] H8 cs.length := ⟨cs, Nat.le_refl _, ev_var rfl⟩
      exact els_cons (es_c (n := 2) (by decide +kernel)) (by omega) (els_cons (es_c (n := 2) (by decide +kernel)) (by omega) (els_cons (es_c (n := 2) (by decide +kernel)) (by omega) (els_cons (es_cat (es_c (n := 2) (by decide +kernel)) hv (by omega)) (by omega) (els_cons (es_cat (es_c (n := 2) (by decide +kernel)) hv (by omega)) (by omega) (els_cons (es_c (n := 2) (by decide +kernel)) (by omega) (els_cons (es_c (n := 2) (by decide +kernel)) (by omega) els_nil))))))
    refine g_op (ev_var rfl) fun H9 e9 => ?_
    have hne : (ls.map fun l => V.str (SX.S l)) ≠ [] := fun z => by
      have := congrArg List.length z
      simp at this
      rw [this] at l2
      simp at l2
    refine go_pickN (p := p) (xs := ls.map fun l => V.str (SX.S l)) (ev_var rfl) ((el_lst l3 (by rw [List.length_map, l2]; decide)).mono e9) (hp5.mono (e58.trans e9) (Nat.le_refl _)) (by omega) hne (by rw [List.length_map, l2]; decide) fun x H10 hx e10 hp10 => ?_
    obtain ⟨l, rfl, hll⟩ := mem_strs hx l1
    refine ⟨_, _, rfl, rfl, by rw [SX.S_len, SX.S_len]; exact sz_of (by omega), ?_⟩
    rw [SX.S_cat]
    exact k _ H10 (by rw [List.length_append]; omega) ((exH.trans (ExB.of (e58.trans e9))).trans e10) (hp10.mono (Ex.refl _) (by omega))
end
end K2

/-! # K02p -/
set_option Elab.async false
set_option linter.all false
set_option maxRecDepth 100000
set_option maxHeartbeats 4000000
namespace K2
open PySem PyProof.Rows L2 Pk Evl
section
variable {P : Program} {w : World} {K : PySem.W.Frag} {mg : Str → Option Value} {base : Heap} {cPE cBR cBT cS cR : Addr}
/-! ### _law_turned -/
def spTu (K : PySem.W.Frag) : Sp := fun vs H Q _ => ∃ (p q : Addr) (B : Nat) (t b : Int), vs = [.ref p, .ref q] ∧ SqT K H q [.int t, .int b] ∧ q ≠ p ∧ t.natAbs < 10 ^ 60 ∧ b.natAbs < 10 ^ 60 ∧ Pen K H p B ∧ B < 900000 ∧ ∀ (l : List Nat) H', l.length ≤ 6000 → ExB p H H' → Pen K H' p (B + 10) → Q (.str (SX.S l)) H'
abbrev s_tu : Stmt := top 30
theorem sc_tu : FnScope ["_law_pen_here", "_law_pair_here", "_law_times", "_law_long", "_law_some"] ["_law_pen_here", "_law_pair_here"] (defScope s_tu) := ⟨rfl, rfl, rfl, by decide +kernel, rfl, by decide +kernel, by decide +kernel⟩
theorem q_asgLs {σ : L2.St} {H : Hp} {te : TE} {tz : TS} {D : Ends} {i : Nat} {tA : TA} {n c : Nat} (h : ElS tA σ H n c) (hc : c ≤ 1000) (ht : te = tLst tA) (k : ∀ (ls : List (List Nat)) p H1, (∀ l ∈ ls, l.length ≤ n) → ls.length = c → H p = none → Ex H H1 → H1 p = some (.lst (ls.map fun l => V.str (SX.S l))) → tz D (σ.set i (some (.ref p))) H1) : tSeq (tAsg te (gName i)) tz D σ H := by
  subst ht
  obtain ⟨ls, h1, h2, h3⟩ := h
  exact q_asgL (el_lst h3 (by rw [List.length_map]; omega)) fun p H1 hp e1 hq => k ls p H1 h1 h2 hp e1 hq
/-- xs = xs + [..] -/
theorem q_catLs {σ : L2.St} {H : Hp} {te : TE} {tz : TS} {D : Ends} {i a : Nat} {tA : TA} {n c : Nat} {ls0 : List (List Nat)} (h0 : Ev te σ H (.ref a)) (ha : H a = some (.lst (ls0.map fun l => V.str (SX.S l)))) (hl0 : ∀ l ∈ ls0, l.length ≤ n) (hc0 : ls0.length ≤ 1000) (h : ElS tA σ H n c) (hc : c ≤ 1000)
    (k : ∀ (ls : List (List Nat)) p H1, (∀ l ∈ ls, l.length ≤ n) → ls.length = ls0.length + c → H p = none → Ex H H1 → H1 p = some (.lst (ls.map fun l => V.str (SX.S l))) → tz D (σ.set i (some (.ref p))) H1) : tSeq (tAsg (tOp rCat te (tLst tA)) (gName i)) tz D σ H := by
  obtain ⟨ls, h1, h2, h3⟩ := h
  refine q_asgL (xs := (ls0 ++ ls).map fun l => V.str (SX.S l)) (by rw [List.map_append]; exact el_cat h0 ha (el_lst h3 (by rw [List.length_map]; omega)) (by rw [List.length_map, List.length_map]; omega)) fun p H1 hp e1 hq => k (ls0 ++ ls) p H1 (fun l hl => ?_) (by rw [List.length_append, h2]) hp e1 hq
  rcases List.mem_append.mp hl with z | z
  · exact hl0 l z
  · exact h1 l z
theorem ok_tu {f : Addr} {fd : FuncData} (F : Fun K "_law_turned" "_law_turned" s_tu f fd) (B : Bi mg) (GD : GF P w K mg base 1 "_law_draw" (spDraw K) []) (GP : GF P w K mg base 2 "_law_pick" (spPick K) []) : FnG P w K mg base 3 f fd ["_law_pen_here", "_law_pair_here"] (spTu K) := by
  refine okG F sc_tu (fun vs H Q E h => ?_) (fun cdv A outer s H vs Q E hr h => ?_)
  · obtain ⟨p, q, N, t, b, rfl, _⟩ := h
    rfl
  · obtain ⟨p, q, N, t, b, rfl, hq, hqp, ht, hb, hp, hN, k⟩ := h
    have nd := sc_tu.nd
    have hr1 := hr.mono (j := 1) (by decide)
    refine ⟨_, (pss_cons (ps_par (i := 2) (j := 3) rfl nd rfl rfl (by decide) rfl rfl (pa_cons (pe_op op_add pe_int (pe_gf GD hr1 (takes_of rfl rfl rfl rfl) (by rfl) (pa_cons (pv 0) (pa_cons pe_int pa_nil)))) (pa_cons (pe_gf GP hr (takes_of rfl rfl rfl rfl) (by rfl) (pa_cons (pv 0) (pa_cons (pe_lst (pa_cons pe_int (pa_cons pe_int (pa_cons pe_int (pa_cons pe_int (pa_cons pe_int pa_nil)))))) pa_nil))) pa_nil)) (by rfl))
  (pss_cons (ps_set (i := 4) nd rfl (Or.inl rfl) (pe_lst (pa_cons (pe_op op_add_str (pe_op op_add_str (pe_callTy call_str_int (by rfl) B.str Boot.«str» (pa_cons (pe_op op_mul (pe_ix ix_tup (pv 1) pe_int (fun _ _ => rfl)) (pv 2)) pa_nil)) pe_str) (pe_callTy call_str_int (by rfl) B.str Boot.«str» (pa_cons (pe_op op_mul (pe_ix ix_tup (pv 1) pe_int (fun _ _ => rfl)) (pv 2)) pa_nil))) (pa_cons (pe_op op_add_str (pe_op op_add_str (pe_callTy call_str_int (by rfl) B.str Boot.«str» (pa_cons (pe_un un_neg (pe_ix ix_tup (pv 1) pe_int (fun _ _ => rfl))) pa_nil)) pe_str) (pe_callTy call_str_int (by rfl) B.str Boot.«str» (pa_cons (pe_un un_neg (pe_ix ix_tup (pv 1) pe_int (fun _ _ => rfl))) pa_nil))) pa_nil))))
  (pss_cons (ps_set (i := 4) nd rfl (Or.inl rfl) (pe_op op_cat (pv 4) (pe_lst (pa_cons (pe_op op_add_str pe_str (pe_callTy call_str_int (by rfl) B.str Boot.«str» (pa_cons (pe_ix ix_tup (pv 1) pe_int (fun _ _ => rfl)) pa_nil))) (pa_cons (pe_op op_add_str pe_str (pe_callTy call_str_int (by rfl) B.str Boot.«str» (pa_cons (pe_ix ix_tup (pv 1) pe_int (fun _ _ => rfl)) pa_nil))) (pa_cons pe_str (pa_cons (pe_op op_add_str pe_str (pe_callTy call_str_int (by rfl) B.str Boot.«str» (pa_cons (pe_ix ix_tup (pv 1) pe_int (fun _ _ => rfl)) pa_nil))) (pa_cons (pe_op op_add_str (pe_callTy call_str_int (by rfl) B.str Boot.«str» (pa_cons (pe_ix ix_tup (pv 1) pe_int (fun _ _ => rfl)) pa_nil)) pe_str) (pa_cons (pe_op op_add_str (pe_callTy call_str_int (by rfl) B.str Boot.«str» (pa_cons (pe_ix ix_tup (pv 1) pe_int (fun _ _ => rfl)) pa_nil)) pe_str) pa_nil)))))))))
  (pss_cons (ps_set (i := 4) nd rfl (Or.inl rfl) (pe_op op_cat (pv 4) (pe_lst (pa_cons (pe_op op_add_str pe_str (pe_op op_mulS pe_str (pe_op op_sub (pv 3) pe_int))) (pa_cons (pe_op op_add_str pe_str (pe_op op_mulS pe_str (pv 3))) (pa_cons (pe_op op_add_str (pe_op op_add_str pe_str pe_str) (pe_op op_mulS pe_str (pe_op op_sub (pv 3) pe_int))) (pa_cons (pe_op op_add_str (pe_op op_add_str pe_str (pe_op op_mulS pe_str (pe_op op_sub (pv 3) pe_int))) pe_str) (pa_cons pe_str pa_nil))))))))
  (pss_one (ps_ret (pe_gf GP hr (takes_of rfl rfl rfl rfl) (by rfl) (pa_cons (pv 0) (pa_cons (pv 4) pa_nil))))))))), ?_⟩
    refine q_parQ (P1 := fun v H1 => ∃ r : Int, v = .int r ∧ 0 ≤ r ∧ r ≤ 20 ∧ ExB p H H1 ∧ Pen K H1 p (N + 1)) (P2 := fun v u H2 => ∃ r y : Int, v = .int r ∧ 0 ≤ r ∧ r ≤ 20 ∧ u = .int y ∧ 58 ≤ y ∧ y ≤ 5000 ∧ ExB p H H2 ∧ Pen K H2 p (N + 1 + 1))
      (fun Q' q' => g_op (ev_c) fun H1 e1 => go_draw (p := p) (many := 9) (ea_cons (ev_var rfl) (ea_cons ev_c ea_nil)) (hp.mono e1 (Nat.le_refl _)) (by omega) (by decide) (by decide) fun r H2 r0 r1 e2 hp2 => ⟨_, _, rfl, rfl, q' _ _ ⟨_, rfl, by omega, by omega, (ExB.of e1).trans e2, hp2⟩⟩)
      (fun v H1 ⟨r, hv, r0, r1, e1, hp1⟩ Q' q' => go_pickN (p := p) (xs := [.int 58, .int 59, .int 60, .int 61, .int 5000]) (ev_var rfl) (el_lst (ea_cons ev_c (ea_cons ev_c (ea_cons ev_c (ea_cons ev_c (ea_cons ev_c ea_nil))))) (by decide)) hp1 (by omega) (by decide) (by decide) fun x H2 hx e2 hp2 => ?_) fun v u H2 hvu => ?_
    · simp at hx
      rcases hx with rfl | rfl | rfl | rfl | rfl
      all_goals exact q' _ _ ⟨r, _, hv, r0, r1, rfl, by decide, by decide, e1.trans e2, hp2⟩
    obtain ⟨r, y, rfl, r0, r1, rfl, y0, y1, e2, hp2⟩ := hvu
    have hq2 := exb_t e2 hqp hq
    have ev0 : ∀ (σ' : L2.St) (H' : Hp), Ex H2 H' → σ'[1]? = some (some (.ref q)) → Ev (tOp (rIxT K) (tVar 1) (tC (.int 0))) σ' H' (.int t) := fun σ' H' e' h => ev_op (ev_var h) ev_c (rv_ixT (ex_t e' hq2) (atI_nat (j := 0) rfl))
    have ev1 : ∀ (σ' : L2.St) (H' : Hp), Ex H2 H' → σ'[1]? = some (some (.ref q)) → Ev (tOp (rIxT K) (tVar 1) (tC (.int 1))) σ' H' (.int b) := fun σ' H' e' h => ev_op (ev_var h) ev_c (rv_ixT (ex_t e' hq2) (atI_nat (j := 1) rfl))
    have big : ∀ z : Int, z.natAbs < 10 ^ 60 → (z * r).natAbs < 10 ^ 62 := fun z hz => by
      rw [Int.natAbs_mul]
      have h1 : r.natAbs ≤ 20 := by omega
      have h2 : z.natAbs * r.natAbs ≤ z.natAbs * 20 := Nat.mul_le_mul_left _ h1
      omega
    have cm : ∀ z : Int, CMul z r := fun z => .inr ⟨by omega, by omega⟩
    refine q_asgLs (n := 5100) (els_cons (es_cat (es_cat (es_str (k := 62) (ev_op (ev0 _ _ (Ex.refl _) rfl) (ev_var rfl) (rv_I (cm t))) (by decide) (big t ht) (by decide)) (es_c (n := 1) (by decide +kernel)) (by decide)) (es_str (k := 62) (ev_op (ev1 _ _ (Ex.refl _) rfl) (ev_var rfl) (rv_I (cm b))) (by decide) (big b hb) (by decide)) (by decide)) (by decide) (els_cons (es_cat (es_cat (es_str (k := 60) (ev_un (ev0 _ _ (Ex.refl _) rfl) ru_neg) (by decide) (by rw [Int.natAbs_neg]; exact ht) (by decide)) (es_c (n := 1) (by decide +kernel)) (by decide)) (es_str (k := 60) (ev_un (ev1 _ _ (Ex.refl _) rfl) ru_neg) (by decide) (by rw [Int.natAbs_neg]; exact hb) (by decide)) (by decide)) (by decide) els_nil)) (by decide) rfl fun ls1 p1 H3 hn1 hc1 hp1 e3 h3 => ?_
    have st : ∀ (σ' : L2.St) (H' : Hp), Ex H2 H' → σ'[1]? = some (some (.ref q)) → EvS (tCB (fun xs H Q => ∃ i : Int, xs = [V.int i] ∧ i.natAbs.log2 < 1920 ∧ Q (.str (toString i)) H) (tCons (tOp (rIxT K) (tVar 1) (tC (.int 0))) tNil)) σ' H' 61 := fun σ' H' e' h => es_str (k := 60) (ev0 _ _ e' h) (by decide) ht (by decide)
    have sb : ∀ (σ' : L2.St) (H' : Hp), Ex H2 H' → σ'[1]? = some (some (.ref q)) → EvS (tCB (fun xs H Q => ∃ i : Int, xs = [V.int i] ∧ i.natAbs.log2 < 1920 ∧ Q (.str (toString i)) H) (tCons (tOp (rIxT K) (tVar 1) (tC (.int 1))) tNil)) σ' H' 61 := fun σ' H' e' h => es_str (k := 60) (ev1 _ _ e' h) (by decide) hb (by decide)
    refine q_catLs (n := 5100) (ev_var rfl) h3 hn1 (by rw [hc1]; decide) (els_cons (es_cat (es_c (n := 2) (by decide +kernel)) (st _ _ e3 rfl) (by decide)) (by decide) (els_cons (es_cat (es_c (n := 2) (by decide +kernel)) (st _ _ e3 rfl) (by decide)) (by decide) (els_cons (es_c (n := 2) (by decide +kernel)) (by decide) (els_cons (es_cat (es_c (n := 2) (by decide +kernel)) (sb _ _ e3 rfl) (by decide)) (by decide) (els_cons (es_cat (st _ _ e3 rfl) (es_c (n := 2) (by decide +kernel)) (by decide)) (by decide) (els_cons (es_cat (st _ _ e3 rfl) (es_c (n := 2) (by decide +kernel)) (by decide)) (by decide) els_nil)))))) (by decide) fun ls2 p2 H4 hn2 hc2 hp2' e4 h4 => ?_
    refine q_catLs (n := 5100) (ev_var rfl) h4 hn2 (by rw [hc2, hc1]; decide) (els_cons (es_cat (es_c (n := 5) (by decide +kernel)) (es_mul (c := 48) (n := 5000) ev_c (ev_op (ev_var rfl) ev_c rv_I0) (by omega) (by omega) (by omega)) (by decide)) (by decide) (els_cons (es_cat (es_c (n := 5) (by decide +kernel)) (es_mul (c := 57) (n := 5000) ev_c (ev_var rfl) (by omega) (by omega) (by omega)) (by decide)) (by decide) (els_cons (es_cat (es_cat (es_c (n := 5) (by decide +kernel)) (es_c (n := 5) (by decide +kernel)) (by decide)) (es_mul (c := 48) (n := 5000) ev_c (ev_op (ev_var rfl) ev_c rv_I0) (by omega) (by omega) (by omega)) (by decide)) (by decide) (els_cons (es_cat (es_cat (es_c (n := 5) (by decide +kernel)) (es_mul (c := 48) (n := 5000) ev_c (ev_op (ev_var rfl) ev_c rv_I0) (by omega) (by omega) (by omega)) (by decide)) (es_c (n := 5) (by decide +kernel)) (by decide)) (by decide) (els_cons (es_c (n := 2) (by decide +kernel)) (by decide) els_nil))))) (by decide) fun ls3 p3 H5 hn3 hc3 hp3 e5 h5 => ?_
    have e25 := (e3.trans e4).trans e5
    have hp5 := hp2.mono e25 (Nat.le_refl _)
    have hp3p : p3 ≠ p := ((hp2.mono e3 (Nat.le_refl _)).mono e4 (Nat.le_refl _)).ne hp3
    refine go_gf (vs := [.ref p, .ref p3]) (ea_cons (ev_var rfl) (ea_cons (ev_var rfl) ea_nil)) fun H6 e6 => ⟨p, N + 1 + 1, hp5.mono e6 (Nat.le_refl _), by omega, .inl ⟨p3, _, rfl, sq_of (e6 _ _ h5), hp3p, ?_, ?_, fun x H7 hx e7 hp7 => ?_⟩⟩
    · intro z
      have := congrArg List.length z
      rw [List.length_map, hc3, hc2, hc1] at this
      cases this
    · rw [List.length_map, hc3, hc2, hc1]
      decide
    · obtain ⟨l, rfl, hll⟩ := mem_strs hx hn3
      exact k l H7 (by omega) ((e2.trans (ExB.of (e25.trans e6))).trans e7) (hp7.mono (Ex.refl _) (by omega))
end
end K2

/-! # K02q -/
set_option Elab.async false
set_option linter.all false
set_option maxRecDepth 100000
set_option maxHeartbeats 4000000
namespace K2
open PySem PyProof.Rows L2 Pk Evl
/-! ### tests that draw -/
def EvTQ (tt : TT) (σ : L2.St) (H : Hp) (b : Bool) (Pz : Hp → Prop) : Prop := ∀ Q : Bool → Hp → Prop, (∀ H', Pz H' → Q b H') → tt σ H Q
section
variable {σ : L2.St} {H : Hp} {t u : TT} {te : TE} {P1 P2 : Hp → Prop} {b : Bool} {D : Ends} {tu tz : TS}
theorem tq_or (h1 : EvTQ t σ H false P1) (h2 : ∀ H1, P1 H1 → EvTQ u σ H1 b P2) : EvTQ (tOr t u) σ H b P2 := fun Q q => h1 _ fun H1 p1 => by
  show u σ H1 Q
  exact h2 H1 p1 Q q
theorem tq_not (h : EvTQ t σ H b P1) : EvTQ (tNot t) σ H (!b) P1 := fun Q q => h _ fun H1 p1 => q H1 p1
theorem tq_B (h : EvQ te σ H (fun v H' => v = .bl b ∧ P1 H')) : EvTQ (tB te) σ H b P1 := fun Q q => h _ fun v H1 ⟨hv, p1⟩ => ⟨b, hv, q H1 p1⟩
theorem tq_of (h : EvT t σ H b) : EvTQ t σ H b (fun H' => Ex H H') := fun Q q => h H (Ex.refl H) Q q
theorem s_whenQ (h : EvTQ t σ H false P1) (k : ∀ H1, P1 H1 → D.nx σ H1) : tIfS t tu tNext D σ H := h _ fun H1 p1 => k H1 p1
end
/-! ### what is no text -/
def Odd (cR p : Addr) (H : Hp) (v : V) : Prop := v = .non ∨ (∃ i, v = .int i) ∨ (∃ b, v = .bl b) ∨ ∃ a, v = .ref a ∧ a ≠ p ∧ ((∃ xs, H a = some (.lst xs)) ∨ (∃ xs, H a = some (.tup xs)) ∨ (∃ kvs, H a = some (.dK kvs)) ∨ (∃ dx fs, H a = some (.ins cR dx fs)))
theorem Odd.mono {cR p : Addr} {H H' : Hp} {v : V} (h : Odd cR p H v) (e : ExB p H H') : Odd cR p H' v := by
  rcases h with h | h | h | ⟨a, rfl, n, h⟩
  · exact .inl h
  · exact .inr (.inl h)
  · exact .inr (.inr (.inl h))
  · refine .inr (.inr (.inr ⟨a, rfl, n, ?_⟩))
    rcases h with ⟨xs, h⟩ | ⟨xs, h⟩ | ⟨xs, h⟩ | ⟨dx, fs, h⟩
    · exact .inl ⟨xs, e _ _ n h⟩
    · exact .inr (.inl ⟨xs, e _ _ n h⟩)
    · exact .inr (.inr (.inl ⟨xs, e _ _ n h⟩))
    · exact .inr (.inr (.inr ⟨dx, fs, e _ _ n h⟩))
section
variable {P : Program} {w : World} {K : PySem.W.Frag} {mg : Str → Option Value} {base : Heap} {cPE cBR cBT cS cR p : Addr}
theorem Odd.ty {H : Hp} {v : V} (h : Odd cR p H v) (T : TyC K cR) (hk : PySem.W.kitOne K (.ref cR) (.type "str") = some false) : ∃ tv, TyE K H v tv ∧ PySem.W.kitOne K tv (.type "str") = some false := by
  rcases h with rfl | ⟨i, rfl⟩ | ⟨b, rfl⟩ | ⟨a, rfl, n, h⟩
  · exact ⟨_, fun _ _ => .base .non, kit_ty (by decide +kernel)⟩
  · exact ⟨_, fun _ _ => .base (.int i), kit_ty (by decide +kernel)⟩
  · exact ⟨_, fun _ _ => .base (.bl b), kit_ty (by decide +kernel)⟩
  · rcases h with ⟨xs, h⟩ | ⟨xs, h⟩ | ⟨xs, h⟩ | ⟨dx, fs, h⟩
    · exact ⟨_, fun _ e => .base (.lst (e _ _ h)), kit_ty (by decide +kernel)⟩
    · exact ⟨_, fun _ e => .base (.tup (e _ _ h)), kit_ty (by decide +kernel)⟩
    · exact ⟨_, fun _ e => .base (.dK (e _ _ h)), kit_ty (by decide +kernel)⟩
    · exact ⟨_, fun _ e => T.ty (e _ _ h), hk⟩
/-- a display of such values -/
def OdA (K : PySem.W.Frag) (cR p : Addr) (tA : TA) (σ : L2.St) (H : Hp) (c : Nat) : Prop := ∀ H1, Ex H H1 → ∀ Q : List V → Hp → Prop, (∀ vs H2, Ex H1 H2 → (∀ v ∈ vs, Odd cR p H2 v) → vs.length = c → Q vs H2) → tA σ H1 Q
variable {σ : L2.St} {H : Hp} {te : TE} {tA : TA} {c B : Nat}
theorem oda_nil : OdA K cR p tNil σ H 0 := fun H1 e Q q => q [] H1 (Ex.refl H1) (fun _ h => by simp at h) rfl
theorem oda_cons (h : EvP te σ H (fun v H2 => Odd cR p H2 v)) (hr : OdA K cR p tA σ H c) : OdA K cR p (tCons te tA) σ H (c + 1) := fun H1 e Q q => h H1 e _ fun v H2 e2 ov => hr H2 (e.trans e2) _ fun vs H3 e3 ovs hl => q (v :: vs) H3 (e2.trans e3) (fun x hx => by
  rcases List.mem_cons.mp hx with rfl | hx
  · exact ov.mono (ExB.of e3)
  · exact ovs x hx) (by simp [hl])
theorem od_c {v : V} (h : ∀ H, Odd cR p H v) : EvP (tC v) σ H (fun v H2 => Odd cR p H2 v) := fun H1 e Q q => q v H1 (Ex.refl H1) (h H1)
theorem od_lst {vs : List V} (hp : Pen K H p B) (h : EvA tA σ H vs) (hl : vs.length ≤ 100000) : EvP (tLst tA) σ H (fun v H2 => Odd cR p H2 v) := fun H1 e Q q => el_lst h hl H1 e _ fun a H2 ha e2 h2 => q _ H2 e2 (.inr (.inr (.inr ⟨a, rfl, (hp.mono e (Nat.le_refl _)).ne ha, .inl ⟨_, h2⟩⟩)))
theorem od_tup {vs : List V} (hp : Pen K H p B) (h : EvA tA σ H vs) (hl : vs.length ≤ 100000) : EvP (tTup tA) σ H (fun v H2 => Odd cR p H2 v) := fun H1 e Q q => eu_tup h hl H1 e _ fun a H2 ha e2 h2 => q _ H2 e2 (.inr (.inr (.inr ⟨a, rfl, (hp.mono e (Nat.le_refl _)).ne ha, .inr (.inl ⟨_, h2⟩)⟩)))
theorem od_d0 (hp : Pen K H p B) : EvP tDNewK σ H (fun v H2 => Odd cR p H2 v) := fun H1 e Q q a ha => q _ _ (Ex.new ha) (.inr (.inr (.inr ⟨a, rfl, (hp.mono e (Nat.le_refl _)).ne ha, .inr (.inr (.inl ⟨_, upd_same⟩))⟩)))
theorem od_d1 (hp : Pen K H p B) : EvP (tDisp [(tC (.str "1"), tC (.int 1))]) σ H (fun v H2 => Odd cR p H2 v) := fun H1 e Q q a ha =>
  ⟨upd_same, [(.inr "1", .int 1)], rfl, by decide, q _ _ (Ex.mut (Ex.new ha) ha) (.inr (.inr (.inr ⟨a, rfl, (hp.mono e (Nat.le_refl _)).ne ha, .inr (.inr (.inl ⟨_, upd_same⟩))⟩)))⟩
theorem od_rat {W : WX} (hp : Pen K H p B) (h : EvA tA σ H [.int 1, .int 2]) : EvP (tGC cR (spRI cR) [] W tA) σ H (fun v H2 => Odd cR p H2 v) := fun H1 e Q q =>
  go_gc (h.mono e) fun x dx H2 e2 hx hdx hne => ⟨x, dx, 1, 2, rfl, upd_same, by decide, by decide, fun H3 e3 h3 => ⟨rfl, q _ H3 (e2.trans (made_ex hx hdx hne e3)) (.inr (.inr (.inr ⟨x, rfl, ((hp.mono e (Nat.le_refl _)).mono e2 (Nat.le_refl _)).ne hx, .inr (.inr (.inr ⟨_, _, h3⟩))⟩)))⟩⟩
theorem go_pickO {Q : VK} {E : L2.St → XK} (h0 : Ev te σ H (.ref p)) (h : OdA K cR p tA σ H c) (hp : Pen K H p B) (hB : B < 1000000) (hc : 0 < c) (hc2 : c ≤ 1000) (k : ∀ x H', Odd cR p H' x → Pen K H' p (B + 1) → Q x H') : tCallSD (spPick K) [] E (tCons te (tCons (tLst tA) tNil)) σ H Q :=
  h0 H (Ex.refl H) _ fun H1 e1 => h H1 e1 _ fun vs H2 e2 ho hl => ⟨sz_of (by omega), fun a ha => ⟨p, B, (hp.mono (e1.trans e2) (Nat.le_refl _)).mono (Ex.new ha) (Nat.le_refl _), hB, .inl ⟨a, vs, rfl, sq_of upd_same, (hp.mono (e1.trans e2) (Nat.le_refl _)).ne ha, fun z => by rw [z] at hl; simp at hl; omega, by omega, fun x H3 hx e3 hp3 => k x H3 (((ho x hx).mono (ExB.of (Ex.new ha))).mono e3) hp3⟩⟩⟩
theorem g_gf1 {sp : Sp} {E : L2.St → XK} {Q : VK} (h : te σ H fun x H1 => sp [x] H1 Q (E σ)) : tCallSD sp [] E (tCons te tNil) σ H Q := h
/-! ### law -/
def spLaw (K : PySem.W.Frag) : Sp := fun vs H Q _ => ∃ (a : Addr) (ns : List Int), vs = [.ref a] ∧ SqL K H a (ns.map V.int) ∧ ns.length ≤ 40000 ∧ ∀ H', Q (.bl true) H'
abbrev s_law : Stmt := top 31
theorem sc_law : FnScope ["_law_script", "_law_pen_here", "_law_turn", "_law_pair_here", "_law_text", "_law_bent_here", "_law_odd"] ["_law_script"] (defScope s_law) := ⟨rfl, rfl, rfl, by decide +kernel, rfl, by decide +kernel, by decide +kernel⟩
theorem spv_rr {H : Hp} {cs : List Nat} (h : cs.length ≤ 50000) : SpV spRR [.str (SX.S cs)] H (.bl true) := fun H1 e Q q E => ⟨cs, rfl, h, q⟩
theorem ratS_eq (t b : Int) : ratS t b = intL t ++ (if b = 1 then [] else [47] ++ intL b) := by
  unfold ratS
  split <;> simp
theorem ok_law {f : Addr} {fd : FuncData} (F : Fun K "law" "law" s_law f fd) (B : Bi mg) (C : RtC K cR) (hk : PySem.W.kitOne K (.ref cR) (.type "str") = some false)
    (GPe : GF P w K mg base 1 "_law_pen" (spPen K) []) (GP : GF P w K mg base 2 "_law_pick" (spPick K) []) (GNu : GF P w K mg base 4 "_law_numbers" (spNums K) []) (GHe : GF P w K mg base 8 "_law_heard" (spHeard K cR) []) (GRr : GF P w K mg base 9 "_law_read_right" spRR [])
    (GBe : GF P w K mg base 3 "_law_bent" (spBent K) []) (GTu : GF P w K mg base 3 "_law_turned" (spTu K) []) (GR2 : GC P w K mg base 3 "Ratio" cR (spRI cR) []) (GSt : OM P w K mg base 1 cR "__str__" (spStr cR)) : FnG P w K mg base 10 f fd ["_law_script"] (spLaw K) := by
  refine okG F sc_law (fun vs H Q E h => ?_) (fun cdv A outer s H vs Q E hr h => ?_)
  · obtain ⟨a, ns, rfl, _⟩ := h
    rfl
  · obtain ⟨a, ns, rfl, ha, hl, k⟩ := h
    have nd := sc_law.nd
    refine ⟨_, (pss_cons (ps_set (i := 1) nd rfl (Or.inl rfl) (pe_gf GPe (hr.mono (by decide)) (takes_of rfl rfl rfl rfl) (by rfl) (pa_cons (pv 0) pa_nil)))
  (pss_cons (ps_for (passes_of rfl) rfl (pi_range1 (by rfl) B.range (pa_cons pe_int pa_nil)) (pg_name (i := 2) nd rfl (Or.inl rfl))
    (pss_cons (ps_set (i := 3) nd rfl (Or.inl rfl) (pe_gf GNu (hr.mono (by decide)) (takes_of rfl rfl rfl rfl) (by rfl) (pa_cons (pv 1) pa_nil)))
    (pss_cons (ps_set (i := 4) nd rfl (Or.inl rfl) (pe_op op_add_str (pe_callTy call_str_int (by rfl) B.str Boot.«str» (pa_cons (pe_ix ix_tup (pv 3) pe_int (fun _ _ => rfl)) pa_nil)) (pe_ifExp (pt_cmpR op_eq (pe_ix ix_tup (pv 3) pe_int (fun _ _ => rfl)) pe_int (nomark _)) pe_str (pe_op op_add_str pe_str (pe_callTy call_str_int (by rfl) B.str Boot.«str» (pa_cons (pe_ix ix_tup (pv 3) pe_int (fun _ _ => rfl)) pa_nil))))))
    (pss_cons (ps_if (PW.pt (pw_or (pt_cmpR op_ne (pe_callTy (call_strO GSt (hr.mono (by decide))) (by rfl) B.str Boot.«str» (pa_cons (pe_gc GR2 (hr.mono (by decide)) (takes_of rfl rfl rfl rfl) (by rfl) (pa_cons (pe_ix ix_tup (pv 3) pe_int (fun _ _ => rfl)) (pa_cons (pe_ix ix_tup (pv 3) pe_int (fun _ _ => rfl)) pa_nil))) pa_nil)) (pv 4) (nomark _)) (pw_or1 (pt_not (pt_val (pe_gf GRr hr (takes_of rfl rfl rfl rfl) (by rfl) (pa_cons (pv 4) pa_nil)))))))
      (pss_one (ps_ret pe_bl))
      pss_nil)
    (pss_cons (ps_set (i := 5) nd rfl (Or.inl rfl) (pe_gf GBe (hr.mono (by decide)) (takes_of rfl rfl rfl rfl) (by rfl) (pa_cons (pv 1) (pa_cons (pv 4) pa_nil))))
    (pss_one (ps_if (PW.pt (pw_or (pt_not (pt_val (pe_gf GRr hr (takes_of rfl rfl rfl rfl) (by rfl) (pa_cons (pv 5) pa_nil)))) (pw_or (pt_not (pt_val (pe_gf GRr hr (takes_of rfl rfl rfl rfl) (by rfl) (pa_cons (pe_gf GBe (hr.mono (by decide)) (takes_of rfl rfl rfl rfl) (by rfl) (pa_cons (pv 1) (pa_cons (pv 5) pa_nil))) pa_nil)))) (pw_or1 (pt_not (pt_val (pe_gf GRr hr (takes_of rfl rfl rfl rfl) (by rfl) (pa_cons (pe_gf GTu (hr.mono (by decide)) (takes_of rfl rfl rfl rfl) (by rfl) (pa_cons (pv 1) (pa_cons (pv 3) pa_nil))) pa_nil))))))))
      (pss_one (ps_ret pe_bl))
      pss_nil)))))))
  (pss_cons (ps_set (i := 6) nd rfl (Or.inl rfl) (pe_gf GP (hr.mono (by decide)) (takes_of rfl rfl rfl rfl) (by rfl) (pa_cons (pv 1) (pa_cons (pe_lst (pa_cons pe_non (pa_cons pe_int (pa_cons pe_int (pa_cons pe_bl (pa_cons (pe_lst (pa_cons pe_str pa_nil)) (pa_cons (pe_tup (pa_cons pe_str pa_nil)) (pa_cons pe_dnewK (pa_cons (pe_disp (pps_cons pe_str pe_int pps_nil) rfl rfl (by simp) (by decide)) (pa_cons (pe_gc GR2 (hr.mono (by decide)) (takes_of rfl rfl rfl rfl) (by rfl) (pa_cons pe_int (pa_cons pe_int pa_nil))) (pa_cons (pe_lst pa_nil) pa_nil))))))))))) pa_nil))))
  (pss_one (ps_ret (pe_cmpR op_eq (pe_callB (call_reprD hr) (by rfl) B.repr Boot.«repr» (pa_cons (pe_gf GHe (hr.mono (by decide)) (takes_of rfl rfl rfl rfl) (by rfl) (pa_cons (pv 6) pa_nil)) pa_nil)) (pe_callB (call_reprD hr) (by rfl) B.repr Boot.«repr» (pa_cons (pe_tup (pa_cons pe_int (pa_cons pe_int pa_nil))) pa_nil)) (nomark _))))))), ?_⟩
    refine q_set (go_gf (vs := [.ref a]) (ea_cons (ev_var rfl) ea_nil) fun H1 e1 => ⟨a, ns, rfl, ex_l e1 ha, hl, fun p H2 hpn e2 hp2 => ?_⟩)
    have b100 : ∀ n : Nat, n < 10 ^ 60 → n < 10 ^ 100 := fun n h => Nat.lt_of_lt_of_le h (Nat.pow_le_pow_right (by decide) (by decide))
    refine q_forR1 (ea_cons ev_c ea_nil) (by decide) (fun i σ' H' => ∃ (t2 t3 t4 t5 : Option V), σ' = [some (.ref a), some (.ref p), t2, t3, t4, t5, none] ∧ Pen K H' p (i * 500)) (fun H3 e3 => ⟨_, _, _, _, rfl, hp2.mono e3 (by omega)⟩) (fun i σ' H' hi h => ?_) (fun σ' H' h => ?_)
    · obtain ⟨t2, t3, t4, t5, rfl, hp3⟩ := h
      refine q_set (go_gf (vs := [.ref p]) (ea_cons (ev_var rfl) ea_nil) fun H3 e3 => ⟨p, i * 500, rfl, hp3.mono e3 (Nat.le_refl _), by omega, fun q t b H4 hG hqp hq e4 hp4 => ?_⟩)
      obtain ⟨hb0, hgcd, ht, hb⟩ := hG
      have lt := lg (Nat.lt_trans (b100 _ ht) ten100)
      have lb := lg (Nat.lt_trans (b100 _ hb) ten100)
      have it := intL_le (by decide) ht
      have ib := intL_le (by decide) hb
      have hrl : (ratS t b).length ≤ 130 := by
        unfold ratS
        split
        · omega
        · simp only [List.length_append, List.length_singleton]
          omega
      have ev0 : ∀ (σ' : L2.St) (H' : Hp), Ex H4 H' → σ'[3]? = some (some (.ref q)) → Ev (tOp (rIxT K) (tVar 3) (tC (.int 0))) σ' H' (.int t) := fun σ' H' e' h => ev_op (ev_var h) ev_c (rv_ixT (st_of (e' _ _ hq)) (atI_nat (j := 0) rfl))
      have ev1 : ∀ (σ' : L2.St) (H' : Hp), Ex H4 H' → σ'[3]? = some (some (.ref q)) → Ev (tOp (rIxT K) (tVar 3) (tC (.int 1))) σ' H' (.int b) := fun σ' H' e' h => ev_op (ev_var h) ev_c (rv_ixT (st_of (e' _ _ hq)) (atI_nat (j := 1) rfl))
      refine q_asg (v := .str (SX.S (ratS t b))) (ev_is (ev_cat2 (b := if b = 1 then [] else [47] ++ intL b) (ev_cb (ea_cons (ev0 _ _ (Ex.refl _) rfl) ea_nil) (rc_strI2 lt)) (ev_if (b := decide (b = 1)) (et_is (et_test (ev_op (ev1 _ _ (Ex.refl _) rfl) ev_c (rv_eq rfl))) (intEq b 1)) (fun hb1 => ?_) (fun hb1 => ?_)) ?_) (by rw [ratS_eq])) fun H5 e5 => ?_
      · rw [if_pos (of_decide_eq_true hb1)]
        exact ev_c (v := .str (SX.S []))
      · rw [if_neg (of_decide_eq_false hb1)]
        exact ev_cat2 (ev_c (v := .str (SX.S [47]))) (ev_cb (ea_cons (ev1 _ _ (Ex.refl _) rfl) ea_nil) (rc_strI2 lb)) (by simp; omega)
      · split
        · simp; omega
        · simp only [List.length_append, List.length_singleton]
          omega
      refine q_when (b := false) (et_is (et_or (a := false) (b := false) (et_is (et_test (ev_op (x := .str (SX.S (ratS t b))) (fun H6 e6 Q6 q6 => g_cb1 (ep_Rat (t := t) (b := b) (ea_cons (ev0 _ _ (e5.trans e6) rfl) (ea_cons (ev1 _ _ (e5.trans e6) rfl) ea_nil)) rfl (by omega) (Nat.lt_trans (b290 _ hb) (Nat.pow_lt_pow_right (by decide) (by decide))) H6 (Ex.refl H6) _ fun v H7 e7 ⟨x, hv, hR⟩ => ?_)) (ev_var rfl) (rv_ne rfl))) (by simp)) fun _ => et_not (a := true) (et_B (ev_gf (ea_cons (ev_var rfl) ea_nil) (spv_rr (by omega))))) rfl) (fun z => nomatch z) (fun _ H6 e6 => ?_)
      · subst hv
        rw [com1 (by omega) hgcd, Int.fdiv_one, Int.fdiv_one] at hR
        obtain ⟨dx, hx⟩ := id hR
        exact rc_strO hx (spv_Str hR (b100 _ ht) (b100 _ hb)) H7 (Ex.refl H7) _ fun H8 e8 => q6 H8 (e7.trans e8)
      have hp6 := (hp4.mono e5 (Nat.le_refl _)).mono e6 (Nat.le_refl _)
      refine q_set (go_gf (vs := [.ref p, .str (SX.S (ratS t b))]) (ea_cons (ev_var rfl) (ea_cons (ev_var rfl) ea_nil)) fun H7 e7 => ⟨p, i * 500 + 200, ratS t b, rfl, by omega, hp6.mono e7 (Nat.le_refl _), by omega, fun l H8 hl8 e8 hp8 => ?_⟩)
      have hq7 := (e5.trans (e6.trans e7)) _ _ hq
      have hq8 : H8 q = _ := e8 _ _ hqp hq7
      refine s_whenQ (P1 := fun H' => Pen K H' p (i * 500 + 500)) (tq_or (P1 := fun H' => Ex H8 H') (tq_of (et_not (a := true) (et_B (ev_gf (ea_cons (ev_var rfl) ea_nil) (spv_rr (cs := l) (by omega)))))) fun H9 e9 => tq_or (P1 := fun H' => ExB p H9 H' ∧ Pen K H' p (i * 500 + 200 + 10 + 10)) (tq_not (b := true) (tq_B fun Q9 q9 => ?_)) fun H10 ⟨e10, hp10⟩ => tq_not (b := true) (tq_B fun Q10 q10 => ?_)) fun H' h => ⟨_, _, _, _, rfl, h.mono (Ex.refl _) (by omega)⟩
      · refine g_gf1 (go_gf (vs := [.ref p, .str (SX.S l)]) (ea_cons (ev_var rfl) (ea_cons (ev_var rfl) ea_nil)) fun H10 e10 => ⟨p, i * 500 + 200 + 10, l, rfl, by omega, (hp8.mono e9 (Nat.le_refl _)).mono e10 (Nat.le_refl _), by omega, fun l2 H11 hl2 e11 hp11 => ⟨l2, rfl, by omega, fun H12 e12 => q9 _ _ ⟨rfl, ((ExB.of e10).trans e11).trans (ExB.of e12), hp11.mono e12 (Nat.le_refl _)⟩⟩⟩)
      · refine g_gf1 (go_gf (vs := [.ref p, .ref q]) (ea_cons (ev_var rfl) (ea_cons (ev_var rfl) ea_nil)) fun H11 e11 => ⟨p, q, i * 500 + 200 + 10 + 10, t, b, rfl, st_of (e11 _ _ (e10 _ _ hqp (e9 _ _ hq8))), hqp, ht, hb, hp10.mono e11 (Nat.le_refl _), by omega, fun l2 H12 hl2 e12 hp12 => ⟨l2, rfl, by omega, fun H13 e13 => q10 _ _ ⟨rfl, hp12.mono e13 (by omega)⟩⟩⟩)
    · obtain ⟨t2, t3, t4, t5, rfl, hp3⟩ := h
      refine q_set (go_pickO (p := p) (cR := cR) (B := 1500) (ev_var rfl) (oda_cons (od_c fun _ => .inl rfl) (oda_cons (od_c fun _ => .inr (.inl ⟨_, rfl⟩)) (oda_cons (od_c fun _ => .inr (.inl ⟨_, rfl⟩)) (oda_cons (od_c fun _ => .inr (.inr (.inl ⟨_, rfl⟩))) (oda_cons (od_lst hp3 (ea_cons ev_c ea_nil) (by show 1 ≤ 100000; decide)) (oda_cons (od_tup hp3 (ea_cons ev_c ea_nil) (by show 1 ≤ 100000; decide)) (oda_cons (od_d0 hp3) (oda_cons (od_d1 hp3) (oda_cons (od_rat hp3 (ea_cons ev_c (ea_cons ev_c ea_nil))) (oda_cons (od_lst hp3 ea_nil (by decide)) oda_nil)))))))))) hp3 (by decide) (by decide) (by decide) fun x H3 hx hp4 => ?_)
      obtain ⟨tv, hty, hkk⟩ := hx.ty C.toTyC hk
      have hz : (0 : Int).natAbs < 10 ^ 100 := by decide
      refine s_ret (v := .bl true) (ev_is (ev_op (x := .str (PyData.tuple [.int 0, .int 0]).shown) (fun H4 e4 Q4 q4 => g_cb1 (go_gf (vs := [x]) (ea_cons (ev_var rfl) ea_nil) fun H5 e5 => ⟨x, .inl 0, rfl, .inr ⟨tv, hty.mono (e4.trans e5), hkk, rfl⟩, fun v H6 e6 ⟨q, hv, hq⟩ => ?_⟩)) (ev_reprN (K := K) (ea_cons ev_c (ea_cons ev_c ea_nil)) hz hz) (rv_eq rfl)) (by simp)) fun H4 e4 => k H4
      subst hv
      exact rc_repr2 (K := K) (st_of hq) hz hz H6 (Ex.refl H6) _ fun H7 e7 => q4 H7 ((e5.trans e6).trans e7)
end
end K2

/-! # K02z -/
set_option Elab.async false
set_option linter.all false
set_option maxRecDepth 100000
set_option maxHeartbeats 4000000
namespace K2
open PySem PyProof.Rows L2 Pk Evl
theorem all_mk {P : Program} {w : World} {K : PySem.W.Frag} {h : Heap} {mg : Str → Option Value} {fa : Addr} (X : K.In h) (G : h.Ns mainGlobals mg) (hfa : mg "law" = some (.ref fa))
    {cPE : Addr} {cBR : Addr} {cBT : Addr} {cS : Addr} {cR : Addr} {tL tF : Tok} {nmBR qBR : Str} {NBR : Addr} {bsBR bmBR : List Value} {snBR : List Str} {subBR : List Value} {abBR : Bool} {colBR : Option Bool} {ddBR : Option Addr} {m0BR m1BR m2BR m3BR m5BR : Option Value} {fBR cdaBR ccBR : Addr} {odBR anBR cddBR cldBR : Option Addr} {slBR ccsBR cslBR : Array (Option Value)} {ocBR kVBR dcBR pmBR ctBR cclBR clBR : Value} {vsBR : Array Value} {tfBR : Tok} {cdCBR cdBBR : ClassData} {nmBT qBT : Str} {NBT : Addr} {bsBT bmBT : List Value} {snBT : List Str} {subBT : List Value} {abBT : Bool} {colBT : Option Bool} {ddBT : Option Addr} {m0BT m1BT m2BT m3BT m5BT : Option Value} {fBT cdaBT ccBT : Addr} {odBT anBT cddBT cldBT : Option Addr} {slBT ccsBT cslBT : Array (Option Value)} {ocBT kVBT dcBT pmBT ctBT cclBT clBT : Value} {vsBT : Array Value} {tfBT : Tok} {cdCBT cdBBT : ClassData} {mc_cR : Value} {fisI : Addr} {odisI anisI : Option Addr} {slisI : Array (Option Value)} {ocisI kVisI dcisI pmisI cdisI ctisI : Value} {fnum : Addr} {odnum annum : Option Addr} {slnum : Array (Option Value)} {ocnum kVnum dcnum pmnum cdnum ctnum : Value} {fRin : Addr} {odRin anRin : Option Addr} {slRin : Array (Option Value)} {ocRin kVRin dcRin pmRin cdRin ctRin : Value} {fTR : Addr} {odTR anTR : Option Addr} {slTR : Array (Option Value)} {ocTR kVTR dcTR pmTR cdTR ctTR : Value} {fscI : Addr} {odscI anscI : Option Addr} {slscI : Array (Option Value)} {ocscI kVscI dcscI pmscI cdscI ctscI : Value} {TscI : Addr} {oTscI : Obj} {itsscI : List Value} {nTscI : Nat} {fref : Addr} {odref anref : Option Addr} {slref : Array (Option Value)} {ocref kVref dcref pmref cdref ctref : Value} {Tref : Addr} {oTref : Obj} {itsref : List Value} {nTref : Nat} {fov : Addr} {odov anov : Option Addr} {slov : Array (Option Value)} {ocov kVov dcov pmov cdov ctov : Value} {ffin : Addr} {odfin anfin : Option Addr} {slfin : Array (Option Value)} {ocfin kVfin dcfin pmfin cdfin ctfin : Value} {fRI : Addr} {odRI anRI : Option Addr} {slRI : Array (Option Value)} {ocRI kVRI dcRI pmRI cdRI ctRI : Value} {TRI : Addr} {oTRI : Obj} {itsRI : List Value} {nTRI : Nat} {fRd : Addr} {odRd anRd : Option Addr} {slRd : Array (Option Value)} {ocRd kVRd dcRd pmRd cdRd ctRd : Value} {pRd : Addr} {rsRd : List Value} {fEq : Addr} {odEq anEq : Option Addr} {slEq : Array (Option Value)} {ocEq kVEq dcEq pmEq cdEq ctEq : Value} {fStr : Addr} {odStr anStr : Option Addr} {slStr : Array (Option Value)} {ocStr kVStr dcStr pmStr cdStr ctStr : Value} {fRep : Addr} {odRep anRep : Option Addr} {slRep : Array (Option Value)} {ocRep kVRep dcRep pmRep cdRep ctRep : Value} {fpen : Addr} {odpen anpen : Option Addr} {slpen : Array (Option Value)} {ocpen kVpen dcpen pmpen cdpen ctpen : Value} {fdraw : Addr} {oddraw andraw : Option Addr} {sldraw : Array (Option Value)} {ocdraw kVdraw dcdraw pmdraw cddraw ctdraw : Value} {fpick : Addr} {odpick anpick : Option Addr} {slpick : Array (Option Value)} {ocpick kVpick dcpick pmpick cdpick ctpick : Value} {fcom : Addr} {odcom ancom : Option Addr} {slcom : Array (Option Value)} {occom kVcom dccom pmcom cdcom ctcom : Value} {fdig : Addr} {oddig andig : Option Addr} {sldig : Array (Option Value)} {ocdig kVdig dcdig pmdig cddig ctdig : Value} {fnums : Addr} {odnums annums : Option Addr} {slnums : Array (Option Value)} {ocnums kVnums dcnums pmnums cdnums ctnums : Value} {fwho : Addr} {odwho anwho : Option Addr} {slwho : Array (Option Value)} {ocwho kVwho dcwho pmwho cdwho ctwho : Value} {fpair : Addr} {odpair anpair : Option Addr} {slpair : Array (Option Value)} {ocpair kVpair dcpair pmpair cdpair ctpair : Value} {fheard : Addr} {odheard anheard : Option Addr} {slheard : Array (Option Value)} {ocheard kVheard dcheard pmheard cdheard ctheard : Value} {frr : Addr} {odrr anrr : Option Addr} {slrr : Array (Option Value)} {ocrr kVrr dcrr pmrr cdrr ctrr : Value} {fbent : Addr} {odbent anbent : Option Addr} {slbent : Array (Option Value)} {ocbent kVbent dcbent pmbent cdbent ctbent : Value} {ftu : Addr} {odtu antu : Option Addr} {sltu : Array (Option Value)} {octu kVtu dctu pmtu cdtu cttu : Value} {flaw : Addr} {odlaw anlaw : Option Addr} {sllaw : Array (Option Value)} {oclaw kVlaw dclaw pmlaw cdlaw ctlaw : Value}
    (a_cPE : PySem.W.nsIn K mainGlobals "PeekError" = some (some (.ref cPE)))
    (a_cBR : PySem.W.nsIn K mainGlobals "BadRatio" = some (some (.ref cBR)))
    (a_cBT : PySem.W.nsIn K mainGlobals "BadText" = some (some (.ref cBT)))
    (a_cS : PySem.W.nsIn K mainGlobals "Scan" = some (some (.ref cS)))
    (a_cR : PySem.W.nsIn K mainGlobals "Ratio" = some (some (.ref cR)))
    (th : PySem.W.nsIn K cStatics "thirdparty.any" = some none)
    (ns : (P.main.scope.names.lookup ("super" : Str)).isSome = false)
    (z_len : PySem.W.nsIn K mainGlobals "len" = some none)
    (z_isinstance : PySem.W.nsIn K mainGlobals "isinstance" = some none)
    (z_int : PySem.W.nsIn K mainGlobals "int" = some none)
    (z_bool : PySem.W.nsIn K mainGlobals "bool" = some none)
    (z_str : PySem.W.nsIn K mainGlobals "str" = some none)
    (z_any : PySem.W.nsIn K mainGlobals "any" = some none)
    (z_tuple : PySem.W.nsIn K mainGlobals "tuple" = some none)
    (z_repr : PySem.W.nsIn K mainGlobals "repr" = some none)
    (z_abs : PySem.W.nsIn K mainGlobals "abs" = some none)
    (z_range : PySem.W.nsIn K mainGlobals "range" = some none)
    (z_list : PySem.W.nsIn K mainGlobals "list" = some none)
    (z_super : PySem.W.nsIn K mainGlobals "super" = some none)
    (gL : PySem.W.nsIn K mainGlobals "LONGEST" = some (some (.int 60 tL)))
    (gF : PySem.W.nsIn K mainGlobals "FIGURES" = some (some (.str "0123456789" tF)))
    (gG : PySem.W.nsIn K mainGlobals "gcd" = some (some (.builtin "math.gcd")))
    (xLBR : K.lookup cBR = some (excClassObj nmBR qBR cBR NBR bsBR bmBR true snBR subBR abBR colBR ddBR m0BR m1BR m2BR m3BR m5BR "ValueError.__new__"))
    (xBBR : PySem.HandSPX.refsVE bmBR = true)
    (xsBR : PySem.W.findIn K (.ref cBR) "__setattr__" = some (some (.builtin "object.__setattr__")))
    (xgBR : PySem.W.findIn K (.ref cBR) "__getattribute__" = some (some (.builtin "BaseException.__getattribute__")))
    (xhBR : PySem.W.findIn K (.ref cBR) "__getattr__" = some none)
    (xeBR : PySem.W.subIn K (.ref cBR) (.type "BaseException") = some true)
    (xtBR : PySem.W.typeIn K (.ref cBR) = some (.type "type"))
    (xkBR : PySem.W.keepIn K (.ref cBR) = true)
    (xdBR : PySem.W.hasDictIn K cBR = true)
    (xmBR : PySem.W.mroIn K cBR (.ref cBR) = some true)
    (xoBR : PySem.W.mroIn K cBR (.type "object") = some true)
    (xaBR : PySem.W.findIn K (.ref cBR) "__class__" = some (some (.builtin "object.__class__")))
    (xvBR : PySem.W.subIn K (.ref cBR) (.type "ValueError") = some true)
    (xcBR : PySem.W.clsIn K cBR = some cdCBR)
    (xbBR : PySem.W.clsIn K cPE = some cdBBR)
    (xqBR : (cdCBR.mro.dropWhile (· != .ref cBR)).drop 1 = cdBBR.mro)
    (xfBR : PySem.W.findIn K (.ref cPE) "__init__" = some (some (.builtin "ValueError.__init__")))
    (n_cBR_part : PySem.W.findIn K (.ref cBR) "part" = some none)
    (aBR : PySem.W.findIn K (.ref cBR) "__init__" = some (some (.ref fBR)))
    (tBR : PySem.W.typeIn K (.ref fBR) = some (.type "function"))
    (lBR : K.lookup fBR = some ⟨ocBR, odBR, .func (PySem.W.ksFn "__init__" "BadRatio.__init__" (defArgs (inClass (top 4) 0)) (defBody (inClass (top 4) 0)) (defScope (inClass (top 4) 0)) .none kVBR dcBR pmBR anBR (.ref cdaBR) ctBR ccBR), slBR⟩)
    (coBR : PySem.W.codeIn K (.ref cdaBR) "BadRatio.__init__" = true)
    (lcBR : K.lookup cdaBR = some ⟨cclBR, cddBR, .fields vsBR, ccsBR⟩)
    (lvBR : vsBR[2]? = some (.str P.main.file tfBR))
    (lzBR : K.lookup ccBR = some ⟨clBR, cldBR, .cell (some (.ref cBR)), cslBR⟩)
    (xLBT : K.lookup cBT = some (excClassObj nmBT qBT cBT NBT bsBT bmBT true snBT subBT abBT colBT ddBT m0BT m1BT m2BT m3BT m5BT "ValueError.__new__"))
    (xBBT : PySem.HandSPX.refsVE bmBT = true)
    (xsBT : PySem.W.findIn K (.ref cBT) "__setattr__" = some (some (.builtin "object.__setattr__")))
    (xgBT : PySem.W.findIn K (.ref cBT) "__getattribute__" = some (some (.builtin "BaseException.__getattribute__")))
    (xhBT : PySem.W.findIn K (.ref cBT) "__getattr__" = some none)
    (xeBT : PySem.W.subIn K (.ref cBT) (.type "BaseException") = some true)
    (xtBT : PySem.W.typeIn K (.ref cBT) = some (.type "type"))
    (xkBT : PySem.W.keepIn K (.ref cBT) = true)
    (xdBT : PySem.W.hasDictIn K cBT = true)
    (xmBT : PySem.W.mroIn K cBT (.ref cBT) = some true)
    (xoBT : PySem.W.mroIn K cBT (.type "object") = some true)
    (xaBT : PySem.W.findIn K (.ref cBT) "__class__" = some (some (.builtin "object.__class__")))
    (xvBT : PySem.W.subIn K (.ref cBT) (.type "ValueError") = some true)
    (xcBT : PySem.W.clsIn K cBT = some cdCBT)
    (xbBT : PySem.W.clsIn K cPE = some cdBBT)
    (xqBT : (cdCBT.mro.dropWhile (· != .ref cBT)).drop 1 = cdBBT.mro)
    (xfBT : PySem.W.findIn K (.ref cPE) "__init__" = some (some (.builtin "ValueError.__init__")))
    (n_cBT_line : PySem.W.findIn K (.ref cBT) "line" = some none)
    (n_cBT_word : PySem.W.findIn K (.ref cBT) "word" = some none)
    (aBT : PySem.W.findIn K (.ref cBT) "__init__" = some (some (.ref fBT)))
    (tBT : PySem.W.typeIn K (.ref fBT) = some (.type "function"))
    (lBT : K.lookup fBT = some ⟨ocBT, odBT, .func (PySem.W.ksFn "__init__" "BadText.__init__" (defArgs (inClass (top 5) 0)) (defBody (inClass (top 5) 0)) (defScope (inClass (top 5) 0)) .none kVBT dcBT pmBT anBT (.ref cdaBT) ctBT ccBT), slBT⟩)
    (coBT : PySem.W.codeIn K (.ref cdaBT) "BadText.__init__" = true)
    (lcBT : K.lookup cdaBT = some ⟨cclBT, cddBT, .fields vsBT, ccsBT⟩)
    (lvBT : vsBT[2]? = some (.str P.main.file tfBT))
    (lzBT : K.lookup ccBT = some ⟨clBT, cldBT, .cell (some (.ref cBT)), cslBT⟩)
    (pe1 : PySem.W.subIn K (.ref cPE) (.type "BaseException") = some true)
    (pe2 : PySem.W.isClsIn K cPE = true)
    (pe3 : PySem.W.typeIn K (.ref cPE) = some (.type "type"))
    (pe4 : PySem.W.subIn K (.ref cBT) (.ref cPE) = some true)
    (pg_cS : PySem.W.plainGet K cS Str.empty = true)
    (hd_cS : PySem.W.hasDictIn K cS = true)
    (po_cS : PySem.W.plainOver K cS = true)
    (sa_cS : PySem.W.findIn K (.ref cS) "__setattr__" = some (some (.builtin "object.__setattr__")))
    (mk_cS : PySem.W.makesIn K cS = true)
    (kp_cS : PySem.W.keepIn K (.ref cS) = true)
    (n_cS_line : PySem.W.findIn K (.ref cS) "line" = some none)
    (n_cS_words : PySem.W.findIn K (.ref cS) "words" = some none)
    (n_cS_spot : PySem.W.findIn K (.ref cS) "spot" = some none)
    (pg_cR : PySem.W.plainGet K cR Str.empty = true)
    (hd_cR : PySem.W.hasDictIn K cR = true)
    (po_cR : PySem.W.plainOver K cR = true)
    (sa_cR : PySem.W.findIn K (.ref cR) "__setattr__" = some (some (.builtin "object.__setattr__")))
    (mk_cR : PySem.W.makesIn K cR = true)
    (kp_cR : PySem.W.keepIn K (.ref cR) = true)
    (n_cR_top : PySem.W.findIn K (.ref cR) "top" = some none)
    (n_cR_bottom : PySem.W.findIn K (.ref cR) "bottom" = some none)
    (ha_cR : PySem.W.findIn K (.ref cR) "__class__" = some (some (.builtin "object.__class__")))
    (hm_cR : PySem.W.mroIn K cR (.type "object") = some true)
    (oc1 : PySem.W.specialIn K (.builtin "object.__class__") "__get__" = some (some (.builtin "getset_descriptor.__get__")))
    (oc2 : PySem.W.takesIn K (.builtin "object.__class__") = some true)
    (rs : PySem.W.subIn K (.ref cR) (.type "str") = some false)
    (ty_cR : PySem.W.typeIn K (.ref cR) = some mc_cR)
    (rd_cR : PySem.W.readsIn K cR mc_cR = true)
    (cg_cR : PySem.W.specialIn K (.ref cR) "__getattribute__" = some (some (.builtin "type.__getattribute__")))
    (aisI : PySem.W.nsIn K mainGlobals "is_integer" = some (some (.ref fisI)))
    (lisI : K.lookup fisI = some ⟨ocisI, odisI, .func (PySem.W.fnOf "is_integer" "is_integer" (defArgs s_isI) (defBody s_isI) (defScope s_isI) .none kVisI dcisI pmisI anisI cdisI ctisI), slisI⟩)
    (cisI : PySem.W.codeIn K cdisI "is_integer" = true)
    (kisI : PySem.W.keepIn K (.ref fisI) = true)
    (anum : PySem.W.nsIn K mainGlobals "number_in" = some (some (.ref fnum)))
    (lnum : K.lookup fnum = some ⟨ocnum, odnum, .func (PySem.W.fnOf "number_in" "number_in" (defArgs s_num) (defBody s_num) (defScope s_num) .none kVnum dcnum pmnum annum cdnum ctnum), slnum⟩)
    (cnum : PySem.W.codeIn K cdnum "number_in" = true)
    (knum : PySem.W.keepIn K (.ref fnum) = true)
    (aRin : PySem.W.nsIn K mainGlobals "ratio_in" = some (some (.ref fRin)))
    (lRin : K.lookup fRin = some ⟨ocRin, odRin, .func (PySem.W.fnOf "ratio_in" "ratio_in" (defArgs s_Rin) (defBody s_Rin) (defScope s_Rin) .none kVRin dcRin pmRin anRin cdRin ctRin), slRin⟩)
    (cRin : PySem.W.codeIn K cdRin "ratio_in" = true)
    (kRin : PySem.W.keepIn K (.ref fRin) = true)
    (aTR : PySem.W.nsIn K mainGlobals "take_ratio" = some (some (.ref fTR)))
    (lTR : K.lookup fTR = some ⟨ocTR, odTR, .func (PySem.W.fnOf "take_ratio" "take_ratio" (defArgs s_TR) (defBody s_TR) (defScope s_TR) .none kVTR dcTR pmTR anTR cdTR ctTR), slTR⟩)
    (cTR : PySem.W.codeIn K cdTR "take_ratio" = true)
    (kTR : PySem.W.keepIn K (.ref fTR) = true)
    (ascI : PySem.W.findIn K (.ref cS) "__init__" = some (some (.ref fscI)))
    (iscI : PySem.W.isFn K (.ref fscI) = true)
    (lscI : K.lookup fscI = some ⟨ocscI, odscI, .func (PySem.W.fnOf "__init__" "Scan.__init__" (defArgs s_scI) (defBody s_scI) (defScope s_scI) (.ref TscI) kVscI dcscI pmscI anscI cdscI ctscI), slscI⟩)
    (cscI : PySem.W.codeIn K cdscI "Scan.__init__" = true)
    (kscI : PySem.W.keepIn K (.ref fscI) = true)
    (tscI : K.lookup TscI = some oTscI)
    (dscI : oTscI.data = .seq itsscI.toArray nTscI)
    (vscI : Vals [.int 0] itsscI)
    (aref : PySem.W.findIn K (.ref cS) "refuse" = some (some (.ref fref)))
    (iref : PySem.W.isFn K (.ref fref) = true)
    (lref : K.lookup fref = some ⟨ocref, odref, .func (PySem.W.fnOf "refuse" "Scan.refuse" (defArgs s_ref) (defBody s_ref) (defScope s_ref) (.ref Tref) kVref dcref pmref anref cdref ctref), slref⟩)
    (cref : PySem.W.codeIn K cdref "Scan.refuse" = true)
    (kref : PySem.W.keepIn K (.ref fref) = true)
    (tref : K.lookup Tref = some oTref)
    (dref : oTref.data = .seq itsref.toArray nTref)
    (vref : Vals [.non] itsref)
    (aov : PySem.W.findIn K (.ref cS) "is_over" = some (some (.ref fov)))
    (iov : PySem.W.isFn K (.ref fov) = true)
    (lov : K.lookup fov = some ⟨ocov, odov, .func (PySem.W.fnOf "is_over" "Scan.is_over" (defArgs s_ov) (defBody s_ov) (defScope s_ov) .none kVov dcov pmov anov cdov ctov), slov⟩)
    (cov : PySem.W.codeIn K cdov "Scan.is_over" = true)
    (kov : PySem.W.keepIn K (.ref fov) = true)
    (afin : PySem.W.findIn K (.ref cS) "finish" = some (some (.ref ffin)))
    (ifin : PySem.W.isFn K (.ref ffin) = true)
    (lfin : K.lookup ffin = some ⟨ocfin, odfin, .func (PySem.W.fnOf "finish" "Scan.finish" (defArgs s_fin) (defBody s_fin) (defScope s_fin) .none kVfin dcfin pmfin anfin cdfin ctfin), slfin⟩)
    (cfin : PySem.W.codeIn K cdfin "Scan.finish" = true)
    (kfin : PySem.W.keepIn K (.ref ffin) = true)
    (aRI : PySem.W.findIn K (.ref cR) "__init__" = some (some (.ref fRI)))
    (iRI : PySem.W.isFn K (.ref fRI) = true)
    (lRI : K.lookup fRI = some ⟨ocRI, odRI, .func (PySem.W.fnOf "__init__" "Ratio.__init__" (defArgs s_RI) (defBody s_RI) (defScope s_RI) (.ref TRI) kVRI dcRI pmRI anRI cdRI ctRI), slRI⟩)
    (cRI : PySem.W.codeIn K cdRI "Ratio.__init__" = true)
    (kRI : PySem.W.keepIn K (.ref fRI) = true)
    (tRI : K.lookup TRI = some oTRI)
    (dRI : oTRI.data = .seq itsRI.toArray nTRI)
    (vRI : Vals [.int 1] itsRI)
    (sRd : PySem.W.findCls K (.ref cR) mc_cR "read" = some (.get (.builtin "staticmethod.__get__") (.ref pRd) .none (.ref cR)))
    (rRd : PySem.W.recIn K pRd "staticmethod" = some (.ref fRd :: rsRd))
    (lRd : K.lookup fRd = some ⟨ocRd, odRd, .func (PySem.W.fnOf "read" "Ratio.read" (defArgs s_Rd) (defBody s_Rd) (defScope s_Rd) .none kVRd dcRd pmRd anRd cdRd ctRd), slRd⟩)
    (cRd : PySem.W.codeIn K cdRd "Ratio.read" = true)
    (kRd : PySem.W.keepIn K (.ref fRd) = true)
    (aEq : PySem.W.findIn K (.ref cR) "__eq__" = some (some (.ref fEq)))
    (iEq : PySem.W.isFn K (.ref fEq) = true)
    (lEq : K.lookup fEq = some ⟨ocEq, odEq, .func (PySem.W.fnOf "__eq__" "Ratio.__eq__" (defArgs s_Eq) (defBody s_Eq) (defScope s_Eq) .none kVEq dcEq pmEq anEq cdEq ctEq), slEq⟩)
    (cEq : PySem.W.codeIn K cdEq "Ratio.__eq__" = true)
    (kEq : PySem.W.keepIn K (.ref fEq) = true)
    (aStr : PySem.W.findIn K (.ref cR) "__str__" = some (some (.ref fStr)))
    (iStr : PySem.W.isFn K (.ref fStr) = true)
    (lStr : K.lookup fStr = some ⟨ocStr, odStr, .func (PySem.W.fnOf "__str__" "Ratio.__str__" (defArgs s_Str) (defBody s_Str) (defScope s_Str) .none kVStr dcStr pmStr anStr cdStr ctStr), slStr⟩)
    (cStr : PySem.W.codeIn K cdStr "Ratio.__str__" = true)
    (kStr : PySem.W.keepIn K (.ref fStr) = true)
    (aRep : PySem.W.findIn K (.ref cR) "__repr__" = some (some (.ref fRep)))
    (iRep : PySem.W.isFn K (.ref fRep) = true)
    (lRep : K.lookup fRep = some ⟨ocRep, odRep, .func (PySem.W.fnOf "__repr__" "Ratio.__repr__" (defArgs s_Rep) (defBody s_Rep) (defScope s_Rep) .none kVRep dcRep pmRep anRep cdRep ctRep), slRep⟩)
    (cRep : PySem.W.codeIn K cdRep "Ratio.__repr__" = true)
    (kRep : PySem.W.keepIn K (.ref fRep) = true)
    (apen : PySem.W.nsIn K mainGlobals "_law_pen" = some (some (.ref fpen)))
    (lpen : K.lookup fpen = some ⟨ocpen, odpen, .func (PySem.W.fnOf "_law_pen" "_law_pen" (defArgs s_pen) (defBody s_pen) (defScope s_pen) .none kVpen dcpen pmpen anpen cdpen ctpen), slpen⟩)
    (cpen : PySem.W.codeIn K cdpen "_law_pen" = true)
    (kpen : PySem.W.keepIn K (.ref fpen) = true)
    (adraw : PySem.W.nsIn K mainGlobals "_law_draw" = some (some (.ref fdraw)))
    (ldraw : K.lookup fdraw = some ⟨ocdraw, oddraw, .func (PySem.W.fnOf "_law_draw" "_law_draw" (defArgs s_draw) (defBody s_draw) (defScope s_draw) .none kVdraw dcdraw pmdraw andraw cddraw ctdraw), sldraw⟩)
    (cdraw : PySem.W.codeIn K cddraw "_law_draw" = true)
    (kdraw : PySem.W.keepIn K (.ref fdraw) = true)
    (apick : PySem.W.nsIn K mainGlobals "_law_pick" = some (some (.ref fpick)))
    (lpick : K.lookup fpick = some ⟨ocpick, odpick, .func (PySem.W.fnOf "_law_pick" "_law_pick" (defArgs s_pick) (defBody s_pick) (defScope s_pick) .none kVpick dcpick pmpick anpick cdpick ctpick), slpick⟩)
    (cpick : PySem.W.codeIn K cdpick "_law_pick" = true)
    (kpick : PySem.W.keepIn K (.ref fpick) = true)
    (acom : PySem.W.nsIn K mainGlobals "_law_common" = some (some (.ref fcom)))
    (lcom : K.lookup fcom = some ⟨occom, odcom, .func (PySem.W.fnOf "_law_common" "_law_common" (defArgs s_com) (defBody s_com) (defScope s_com) .none kVcom dccom pmcom ancom cdcom ctcom), slcom⟩)
    (ccom : PySem.W.codeIn K cdcom "_law_common" = true)
    (kcom : PySem.W.keepIn K (.ref fcom) = true)
    (adig : PySem.W.nsIn K mainGlobals "_law_digits" = some (some (.ref fdig)))
    (ldig : K.lookup fdig = some ⟨ocdig, oddig, .func (PySem.W.fnOf "_law_digits" "_law_digits" (defArgs s_dig) (defBody s_dig) (defScope s_dig) .none kVdig dcdig pmdig andig cddig ctdig), sldig⟩)
    (cdig : PySem.W.codeIn K cddig "_law_digits" = true)
    (kdig : PySem.W.keepIn K (.ref fdig) = true)
    (anums : PySem.W.nsIn K mainGlobals "_law_numbers" = some (some (.ref fnums)))
    (lnums : K.lookup fnums = some ⟨ocnums, odnums, .func (PySem.W.fnOf "_law_numbers" "_law_numbers" (defArgs s_nums) (defBody s_nums) (defScope s_nums) .none kVnums dcnums pmnums annums cdnums ctnums), slnums⟩)
    (cnums : PySem.W.codeIn K cdnums "_law_numbers" = true)
    (knums : PySem.W.keepIn K (.ref fnums) = true)
    (awho : PySem.W.nsIn K mainGlobals "_law_whole" = some (some (.ref fwho)))
    (lwho : K.lookup fwho = some ⟨ocwho, odwho, .func (PySem.W.fnOf "_law_whole" "_law_whole" (defArgs s_who) (defBody s_who) (defScope s_who) .none kVwho dcwho pmwho anwho cdwho ctwho), slwho⟩)
    (cwho : PySem.W.codeIn K cdwho "_law_whole" = true)
    (kwho : PySem.W.keepIn K (.ref fwho) = true)
    (apair : PySem.W.nsIn K mainGlobals "_law_pair" = some (some (.ref fpair)))
    (lpair : K.lookup fpair = some ⟨ocpair, odpair, .func (PySem.W.fnOf "_law_pair" "_law_pair" (defArgs s_pair) (defBody s_pair) (defScope s_pair) .none kVpair dcpair pmpair anpair cdpair ctpair), slpair⟩)
    (cpair : PySem.W.codeIn K cdpair "_law_pair" = true)
    (kpair : PySem.W.keepIn K (.ref fpair) = true)
    (aheard : PySem.W.nsIn K mainGlobals "_law_heard" = some (some (.ref fheard)))
    (lheard : K.lookup fheard = some ⟨ocheard, odheard, .func (PySem.W.fnOf "_law_heard" "_law_heard" (defArgs s_heard) (defBody s_heard) (defScope s_heard) .none kVheard dcheard pmheard anheard cdheard ctheard), slheard⟩)
    (cheard : PySem.W.codeIn K cdheard "_law_heard" = true)
    (kheard : PySem.W.keepIn K (.ref fheard) = true)
    (arr : PySem.W.nsIn K mainGlobals "_law_read_right" = some (some (.ref frr)))
    (lrr : K.lookup frr = some ⟨ocrr, odrr, .func (PySem.W.fnOf "_law_read_right" "_law_read_right" (defArgs s_rr) (defBody s_rr) (defScope s_rr) .none kVrr dcrr pmrr anrr cdrr ctrr), slrr⟩)
    (crr : PySem.W.codeIn K cdrr "_law_read_right" = true)
    (krr : PySem.W.keepIn K (.ref frr) = true)
    (abent : PySem.W.nsIn K mainGlobals "_law_bent" = some (some (.ref fbent)))
    (lbent : K.lookup fbent = some ⟨ocbent, odbent, .func (PySem.W.fnOf "_law_bent" "_law_bent" (defArgs s_bent) (defBody s_bent) (defScope s_bent) .none kVbent dcbent pmbent anbent cdbent ctbent), slbent⟩)
    (cbent : PySem.W.codeIn K cdbent "_law_bent" = true)
    (kbent : PySem.W.keepIn K (.ref fbent) = true)
    (atu : PySem.W.nsIn K mainGlobals "_law_turned" = some (some (.ref ftu)))
    (ltu : K.lookup ftu = some ⟨octu, odtu, .func (PySem.W.fnOf "_law_turned" "_law_turned" (defArgs s_tu) (defBody s_tu) (defScope s_tu) .none kVtu dctu pmtu antu cdtu cttu), sltu⟩)
    (ctu : PySem.W.codeIn K cdtu "_law_turned" = true)
    (ktu : PySem.W.keepIn K (.ref ftu) = true)
    (alaw : PySem.W.nsIn K mainGlobals "law" = some (some (.ref flaw)))
    (llaw : K.lookup flaw = some ⟨oclaw, odlaw, .func (PySem.W.fnOf "law" "law" (defArgs s_law) (defBody s_law) (defScope s_law) .none kVlaw dclaw pmlaw anlaw cdlaw ctlaw), sllaw⟩)
    (claw : PySem.W.codeIn K cdlaw "law" = true)
    (klaw : PySem.W.keepIn K (.ref flaw) = true) :
    ∃ fd : FuncData, (∀ (s : Shared) (u : Value), BindsTo s fd ⟨[u], []⟩ [("_law_script", u)]) ∧ ∀ base : Heap, K.In base → base.Ns mainGlobals mg → FnG P w K mg base 10 fa fd ["_law_script"] (spLaw K) := by
  have e := hfa.symm.trans (PySem.W.mg_of X G alaw)
  cases e
  have g := fun {n : Str} {v : Value} (e : PySem.W.nsIn K mainGlobals n = some (some v)) => PySem.W.mg_of X G e
  have z := fun {n : Str} (e : PySem.W.nsIn K mainGlobals n = some none) => PySem.W.mg_none_of X G e
  have B : Bi mg := ⟨z z_len, z z_isinstance, z z_int, z z_bool, z z_str, z z_any, z z_tuple, z z_repr, z z_abs, z z_range, z z_list⟩
  have T : Gl0 mg := ⟨⟨_, g gL, ⟨_, rfl⟩⟩, ⟨_, g gF, ⟨_, rfl⟩⟩, g gG⟩
  have cS' : Cls K cS := ⟨pg_cS, hd_cS, po_cS, sa_cS⟩
  have CS : ScC K cS := ⟨cS', n_cS_line, n_cS_words, n_cS_spot⟩
  have cR' : Cls K cR := ⟨pg_cR, hd_cR, po_cR, sa_cR⟩
  have CR : RtC K cR := ⟨⟨cR', ha_cR, oc1, oc2, hm_cR⟩, n_cR_top, n_cR_bottom⟩

  have OBR : OexC K cBR := ⟨⟨nmBR, qBR, NBR, bsBR, bmBR, snBR, subBR, abBR, colBR, ddBR, m0BR, m1BR, m2BR, m3BR, m5BR, xLBR, xBBR⟩, xsBR, xeBR, xtBR, xkBR⟩
  have EBR : ExI K cBR cBR := ⟨OBR, xmBR, sup_of xcBR xbBR xqBR xfBR, xvBR⟩
  have FBR : ExF P K "BadRatio.__init__" (inClass (top 4) 0) fBR cBR (PySem.W.ksFn "__init__" "BadRatio.__init__" (defArgs (inClass (top 4) 0)) (defBody (inClass (top 4) 0)) (defScope (inClass (top 4) 0)) .none kVBR dcBR pmBR anBR (.ref cdaBR) ctBR ccBR) :=
    ⟨⟨_, _, _, _, _, _, _, _, _, _, _, _, _, _, _, _, _, _, _, rfl, lBR, coBR, lcBR, lvBR, lzBR, xcBR⟩, ns, th⟩
  have XBR : ∀ base : Heap, XCls P w K mg base "BadRatio" cBR ["part"] := fun base => ⟨⟨cBR, fBR, _, EBR, fun f hf => by simp at hf; subst hf; exact n_cBR_part, aBR, tBR, ok_init FBR (z z_super) ⟨⟨_, rfl, rfl⟩, rfl, rfl, by decide +kernel, by decide +kernel, rfl, by decide +kernel, rfl, rfl, by decide⟩ rfl (.cons .nil) (fun _ _ _ => rfl), .all fun us hl => match us, hl with | [_, _], _ => rfl⟩, g a_cBR⟩
  have OBT : OexC K cBT := ⟨⟨nmBT, qBT, NBT, bsBT, bmBT, snBT, subBT, abBT, colBT, ddBT, m0BT, m1BT, m2BT, m3BT, m5BT, xLBT, xBBT⟩, xsBT, xeBT, xtBT, xkBT⟩
  have EBT : ExI K cBT cBT := ⟨OBT, xmBT, sup_of xcBT xbBT xqBT xfBT, xvBT⟩
  have FBT : ExF P K "BadText.__init__" (inClass (top 5) 0) fBT cBT (PySem.W.ksFn "__init__" "BadText.__init__" (defArgs (inClass (top 5) 0)) (defBody (inClass (top 5) 0)) (defScope (inClass (top 5) 0)) .none kVBT dcBT pmBT anBT (.ref cdaBT) ctBT ccBT) :=
    ⟨⟨_, _, _, _, _, _, _, _, _, _, _, _, _, _, _, _, _, _, _, rfl, lBT, coBT, lcBT, lvBT, lzBT, xcBT⟩, ns, th⟩
  have XBT : ∀ base : Heap, XCls P w K mg base "BadText" cBT ["line", "word"] := fun base => ⟨⟨cBT, fBT, _, EBT, fun f hf => by simp at hf; rcases hf with rfl | rfl; exact n_cBT_line; exact n_cBT_word, aBT, tBT, ok_init FBT (z z_super) ⟨⟨_, rfl, rfl⟩, rfl, rfl, by decide +kernel, by decide +kernel, rfl, by decide +kernel, rfl, rfl, by decide⟩ rfl (.cons (.cons .nil)) (fun _ _ _ => rfl), .all fun us hl => match us, hl with | [_, _, _], _ => rfl⟩, g a_cBT⟩
  have BT : BtC K cPE cBT := ⟨⟨xgBT, xhBT, xeBT, xdBT⟩, ⟨xgBT, xhBT, xeBT, xdBT, xaBT, oc1, oc2, xoBT⟩, n_cBT_line, n_cBT_word, exm_of pe1 pe2 pe3 pe4⟩
  have FisI := fun_mk (st := s_isI) lisI cisI kisI
  have bisI := FisI.binds (ps := ["value"]) fun _ _ _ _ _ _ us hl => match us, hl with | [_], _ => rfl
  have Fnum := fun_mk (st := s_num) lnum cnum knum
  have bnum := Fnum.binds (ps := ["word"]) fun _ _ _ _ _ _ us hl => match us, hl with | [_], _ => rfl
  have FRin := fun_mk (st := s_Rin) lRin cRin kRin
  have bRin := FRin.binds (ps := ["word"]) fun _ _ _ _ _ _ us hl => match us, hl with | [_], _ => rfl
  have FTR := fun_mk (st := s_TR) lTR cTR kTR
  have bTR := FTR.binds (ps := ["scan"]) fun _ _ _ _ _ _ us hl => match us, hl with | [_], _ => rfl
  have FscI := funX_mk (st := s_scI) lscI cscI kscI
  have DscI := funD_mk (st := s_scI) (dvs := [.int 0]) lscI cscI kscI tscI dscI (by simp) vscI
  have Fref := funX_mk (st := s_ref) lref cref kref
  have Dref := funD_mk (st := s_ref) (dvs := [.non]) lref cref kref tref dref (by simp) vref
  have Fov := fun_mk (st := s_ov) lov cov kov
  have bov := Fov.binds (ps := ["self"]) fun _ _ _ _ _ _ us hl => match us, hl with | [_], _ => rfl
  have Ffin := fun_mk (st := s_fin) lfin cfin kfin
  have bfin := Ffin.binds (ps := ["self"]) fun _ _ _ _ _ _ us hl => match us, hl with | [_], _ => rfl
  have FRI := funX_mk (st := s_RI) lRI cRI kRI
  have DRI := funD_mk (st := s_RI) (dvs := [.int 1]) lRI cRI kRI tRI dRI (by simp) vRI
  have FRd := fun_mk (st := s_Rd) lRd cRd kRd
  have bRd := FRd.binds (ps := ["text"]) fun _ _ _ _ _ _ us hl => match us, hl with | [_], _ => rfl
  have FEq := fun_mk (st := s_Eq) lEq cEq kEq
  have bEq := FEq.binds (ps := ["self", "other"]) fun _ _ _ _ _ _ us hl => match us, hl with | [_, _], _ => rfl
  have FStr := fun_mk (st := s_Str) lStr cStr kStr
  have bStr := FStr.binds (ps := ["self"]) fun _ _ _ _ _ _ us hl => match us, hl with | [_], _ => rfl
  have FRep := fun_mk (st := s_Rep) lRep cRep kRep
  have bRep := FRep.binds (ps := ["self"]) fun _ _ _ _ _ _ us hl => match us, hl with | [_], _ => rfl
  have Fpen := fun_mk (st := s_pen) lpen cpen kpen
  have bpen := Fpen.binds (ps := ["_law_script"]) fun _ _ _ _ _ _ us hl => match us, hl with | [_], _ => rfl
  have Fdraw := fun_mk (st := s_draw) ldraw cdraw kdraw
  have bdraw := Fdraw.binds (ps := ["_law_pen_here", "_law_many"]) fun _ _ _ _ _ _ us hl => match us, hl with | [_, _], _ => rfl
  have Fpick := fun_mk (st := s_pick) lpick cpick kpick
  have bpick := Fpick.binds (ps := ["_law_pen_here", "_law_some"]) fun _ _ _ _ _ _ us hl => match us, hl with | [_, _], _ => rfl
  have Fcom := fun_mk (st := s_com) lcom ccom kcom
  have bcom := Fcom.binds (ps := ["_law_one", "_law_other"]) fun _ _ _ _ _ _ us hl => match us, hl with | [_, _], _ => rfl
  have Fdig := fun_mk (st := s_dig) ldig cdig kdig
  have bdig := Fdig.binds (ps := ["_law_pen_here", "_law_many"]) fun _ _ _ _ _ _ us hl => match us, hl with | [_, _], _ => rfl
  have Fnums := fun_mk (st := s_nums) lnums cnums knums
  have bnums := Fnums.binds (ps := ["_law_pen_here"]) fun _ _ _ _ _ _ us hl => match us, hl with | [_], _ => rfl
  have Fwho := fun_mk (st := s_who) lwho cwho kwho
  have bwho := Fwho.binds (ps := ["_law_word"]) fun _ _ _ _ _ _ us hl => match us, hl with | [_], _ => rfl
  have Fpair := fun_mk (st := s_pair) lpair cpair kpair
  have bpair := Fpair.binds (ps := ["_law_word"]) fun _ _ _ _ _ _ us hl => match us, hl with | [_], _ => rfl
  have Fheard := fun_mk (st := s_heard) lheard cheard kheard
  have bheard := Fheard.binds (ps := ["_law_text"]) fun _ _ _ _ _ _ us hl => match us, hl with | [_], _ => rfl
  have Frr := fun_mk (st := s_rr) lrr crr krr
  have brr := Frr.binds (ps := ["_law_text"]) fun _ _ _ _ _ _ us hl => match us, hl with | [_], _ => rfl
  have Fbent := fun_mk (st := s_bent) lbent cbent kbent
  have bbent := Fbent.binds (ps := ["_law_pen_here", "_law_text"]) fun _ _ _ _ _ _ us hl => match us, hl with | [_, _], _ => rfl
  have Ftu := fun_mk (st := s_tu) ltu ctu ktu
  have btu := Ftu.binds (ps := ["_law_pen_here", "_law_pair_here"]) fun _ _ _ _ _ _ us hl => match us, hl with | [_, _], _ => rfl
  have Flaw := fun_mk (st := s_law) llaw claw klaw
  have bscI := DscI.binds1 (ps := ["self", "text", "line"]) 2 0 (by simp) rfl (fun _ _ _ _ _ _ _ us its hu hi => match us, its, hu, hi with | [_, _], [_], _, _ => ⟨_, rfl, rfl⟩)
  have bref := Dref.binds1 (ps := ["self", "at"]) 1 0 (by simp) rfl (fun _ _ _ _ _ _ _ us its hu hi => match us, its, hu, hi with | [_], [_], _, _ => ⟨_, rfl, rfl⟩)
  have bRI := DRI.binds1 (ps := ["self", "top", "bottom"]) 2 0 (by simp) rfl (fun _ _ _ _ _ _ _ us its hu hi => match us, its, hu, hi with | [_, _], [_], _, _ => ⟨_, rfl, rfl⟩)
  have bRI2 := DRI.binds1 (ps := ["self", "top", "bottom"]) 3 1 (by simp) rfl (fun _ _ _ _ _ _ _ us its hu hi => match us, its, hu, hi with | [_, _, _], [_], _, _ => ⟨_, rfl, rfl⟩)
  have kbRd : KBinds K (PySem.W.fnOf "read" "Ratio.read" (defArgs s_Rd) (defBody s_Rd) (defScope s_Rd) .none kVRd dcRd pmRd anRd cdRd ctRd) ["text"] ["text"] (fun us ws => us ++ ws) (fun vs zs => vs ++ zs) := by
    refine ⟨fun s us ws _ hl => ?_, fun r1 r2 => r1.append r2⟩
    match us, ws, hl with
    | [], [_], _ => exact .of_eq rfl
    | [_], [], _ => exact .of_eq rfl
  refine ⟨PySem.W.fnOf "law" "law" (defArgs s_law) (defBody s_law) (defScope s_law) .none kVlaw dclaw pmlaw anlaw cdlaw ctlaw, fun s u => .of_eq rfl, fun base _ _ => ?_⟩
  have GisI : GF P w K mg base 1 "is_integer" (spIsI K) [] := ⟨_, g aisI, fd_all (ok_isI FisI B) bisI kisI⟩
  have Gnum : GF P w K mg base 1 "number_in" spNum [] := ⟨_, g anum, fd_all (ok_num Fnum B T) bnum knum⟩
  have oRI := ok_RI (P := P) (w := w) (base := base) FRI T CR GisI (XBR base)
  have MR : Mk K cR fRI := ⟨mk_cR, aRI, iRI, kp_cR⟩
  have GR1 : GC P w K mg base 3 "Ratio" cR (spRI cR) [.int 1] := ⟨g a_cR, _, MR, fd_dfl oRI bRI kRI⟩
  have GR2 : GC P w K mg base 3 "Ratio" cR (spRI cR) [] := ⟨g a_cR, _, MR, fd_dfl oRI bRI2 kRI⟩
  have GRin : GF P w K mg base 5 "ratio_in" (spRin cR) [] := ⟨_, g aRin, fd_all (ok_Rin FRin B T Gnum GR1 GR2) bRin kRin⟩
  have Gov : GM P w K mg base 1 cS "is_over" (spOv K cS) [] := ⟨cS', _, ⟨aov, iov, kov⟩, fd_all (ok_ov Fov B CS) bov kov⟩
  have Gref : GM P w K mg base 3 cS "refuse" (spRef cS cBT) [.non] := ⟨cS', _, ⟨aref, iref, kref⟩, fd_dfl (ok_ref Fref CS (XBT base)) bref kref⟩
  have GTR : GF P w K mg base 6 "take_ratio" (spTR K cS cBT cR) [] := ⟨_, g aTR, fd_all (ok_TR FTR CS Gov Gref GRin) bTR kTR⟩
  have Gfin : GM P w K mg base 4 cS "finish" (spFin K cS cBT) [] := ⟨cS', _, ⟨afin, ifin, kfin⟩, fd_all (ok_fin Ffin Gov Gref) bfin kfin⟩
  have GSc : GC P w K mg base 3 "Scan" cS (spScI K cS cBT) [.int 0] := ⟨g a_cS, _, ⟨mk_cS, ascI, iscI, kp_cS⟩, fd_dfl (ok_scI FscI B CS (XBT base)) bscI kscI⟩
  have oRd := ok_Rd (P := P) (w := w) (base := base) FRd GSc GTR Gfin
  have rC : ClX.CRead K cR mc_cR := ⟨rd_cR, cg_cR⟩
  have GRd : GS P w K mg base 7 "Ratio" cR "read" (spRd K cBT cR) [] := ⟨g a_cR, mc_cR, pRd, fRd, rsRd, rC, sRd, rRd, fd_all oRd bRd kRd⟩
  have GRdK : GSK P w K mg base 7 "Ratio" cR "read" (spRd K cBT cR) ["text"] (fun vs zs => vs ++ zs) := ⟨g a_cR, mc_cR, pRd, fRd, rsRd, rC, sRd, rRd, ⟨_, _, _, oRd, kbRd⟩, kRd⟩
  have GEq : OM P w K mg base 2 cR "__eq__" (spEq cR) := ⟨_, aEq, iEq, fd_all (ok_Eq FEq B CR (g a_cR) GisI) bEq kEq⟩
  have GSt : OM P w K mg base 1 cR "__str__" (spStr cR) := ⟨_, aStr, iStr, fd_all (ok_Str FStr B CR) bStr kStr⟩
  have GRp : OM P w K mg base 4 cR "__repr__" (spStr cR) := ⟨_, aRep, iRep, fd_all (ok_Rep FRep B GSt) bRep kRep⟩
  have Gpen : GF P w K mg base 1 "_law_pen" (spPen K) [] := ⟨_, g apen, fd_all (ok_pen Fpen B) bpen kpen⟩
  have Gdraw : GF P w K mg base 1 "_law_draw" (spDraw K) [] := ⟨_, g adraw, fd_all (ok_draw Fdraw B) bdraw kdraw⟩
  have Gpick : GF P w K mg base 2 "_law_pick" (spPick K) [] := ⟨_, g apick, fd_all (ok_pick Fpick B Gdraw) bpick kpick⟩
  have Gcom : GF P w K mg base 1 "_law_common" spCom [] := ⟨_, g acom, fd_all (ok_com Fcom B) bcom kcom⟩
  have Gdig : GF P w K mg base 3 "_law_digits" (spDig K) [] := ⟨_, g adig, fd_all (ok_dig Fdig B Gdraw Gpick) bdig kdig⟩
  have Gnums : GF P w K mg base 4 "_law_numbers" (spNums K) [] := ⟨_, g anums, fd_all (ok_nums Fnums B Gdig Gpick Gcom) bnums knums⟩
  have Gwho : GF P w K mg base 1 "_law_whole" spNum [] := ⟨_, g awho, fd_all (ok_who Fwho B) bwho kwho⟩
  have Gpair : GF P w K mg base 2 "_law_pair" spPair [] := ⟨_, g apair, fd_all (ok_pair Fpair Gwho Gcom) bpair kpair⟩
  have Gheard : GF P w K mg base 8 "_law_heard" (spHeard K cR) [] := ⟨_, g aheard, fd_all (ok_heard Fheard B (g a_cPE) (g a_cBT) BT GRd) bheard kheard⟩
  have Grr : GF P w K mg base 9 "_law_read_right" spRR [] := ⟨_, g arr, fd_all (ok_rr Frr B CR (g a_cR) Gpair Gheard GR2 GEq GSt GRp GRdK) brr krr⟩
  have Gbent : GF P w K mg base 3 "_law_bent" (spBent K) [] := ⟨_, g abent, fd_all (ok_bent Fbent B Gdraw Gpick) bbent kbent⟩
  have Gtu : GF P w K mg base 3 "_law_turned" (spTu K) [] := ⟨_, g atu, fd_all (ok_tu Ftu B Gdraw Gpick) btu ktu⟩
  exact ok_law Flaw B CR (kit_of_sub (by decide +kernel) rs) Gpen Gpick Gnums Gheard Grr Gbent Gtu GR2 GSt
end K2

/-! # K02end -/
set_option Elab.async false
set_option linter.all false
set_option maxRecDepth 100000
open PySem PySem.W PyProof.Rows
set_option maxHeartbeats 0 in
theorem PySem.Challenge.cw_peekproof_k02_texts_of_ratios_bent_holds : PySem.Challenge.rw_peekproof_k02_texts_of_ratios_bent.Holds := by
  w_on; o_law; k_head; (case hw => w_witness2)
  k_fill
  refine Pk.walkG (l := PySem.Challenge.rw_peekproof_k02_texts_of_ratios_bent) (k := 10) (x := "_law_script") (sp := K2.spLaw) rfl (by decide) rfl ⟨rfl, by decide, by decide⟩ (fun w h Y => PySem.W.kIn_of Y) ?F (fun K H a ns hl _ _ hS => ⟨a, ns, rfl, hS, Nat.le_trans hl (by decide), fun _ => rfl⟩)
  case F =>
    intro w mg fa h KX G hmg
    refine' K2.all_mk KX G hmg ?a_cPE ?a_cBR ?a_cBT ?a_cS ?a_cR ?th ?ns ?z_len ?z_isinstance ?z_int ?z_bool ?z_str ?z_any ?z_tuple ?z_repr ?z_abs ?z_range ?z_list ?z_super ?gL ?gF ?gG ?xLBR ?xBBR ?xsBR ?xgBR ?xhBR ?xeBR ?xtBR ?xkBR ?xdBR ?xmBR ?xoBR ?xaBR ?xvBR ?xcBR ?xbBR ?xqBR ?xfBR ?n_cBR_part ?aBR ?tBR ?lBR ?coBR ?lcBR ?lvBR ?lzBR ?xLBT ?xBBT ?xsBT ?xgBT ?xhBT ?xeBT ?xtBT ?xkBT ?xdBT ?xmBT ?xoBT ?xaBT ?xvBT ?xcBT ?xbBT ?xqBT ?xfBT ?n_cBT_line ?n_cBT_word ?aBT ?tBT ?lBT ?coBT ?lcBT ?lvBT ?lzBT ?pe1 ?pe2 ?pe3 ?pe4 ?pg_cS ?hd_cS ?po_cS ?sa_cS ?mk_cS ?kp_cS ?n_cS_line ?n_cS_words ?n_cS_spot ?pg_cR ?hd_cR ?po_cR ?sa_cR ?mk_cR ?kp_cR ?n_cR_top ?n_cR_bottom ?ha_cR ?hm_cR ?oc1 ?oc2 ?rs ?ty_cR ?rd_cR ?cg_cR ?aisI ?lisI ?cisI ?kisI ?anum ?lnum ?cnum ?knum ?aRin ?lRin ?cRin ?kRin ?aTR ?lTR ?cTR ?kTR ?ascI ?iscI ?lscI ?cscI ?kscI ?tscI ?dscI ?vscI ?aref ?iref ?lref ?cref ?kref ?tref ?dref ?vref ?aov ?iov ?lov ?cov ?kov ?afin ?ifin ?lfin ?cfin ?kfin ?aRI ?iRI ?lRI ?cRI ?kRI ?tRI ?dRI ?vRI ?sRd ?rRd ?lRd ?cRd ?kRd ?aEq ?iEq ?lEq ?cEq ?kEq ?aStr ?iStr ?lStr ?cStr ?kStr ?aRep ?iRep ?lRep ?cRep ?kRep ?apen ?lpen ?cpen ?kpen ?adraw ?ldraw ?cdraw ?kdraw ?apick ?lpick ?cpick ?kpick ?acom ?lcom ?ccom ?kcom ?adig ?ldig ?cdig ?kdig ?anums ?lnums ?cnums ?knums ?awho ?lwho ?cwho ?kwho ?apair ?lpair ?cpair ?kpair ?aheard ?lheard ?cheard ?kheard ?arr ?lrr ?crr ?krr ?abent ?lbent ?cbent ?kbent ?atu ?ltu ?ctu ?ktu ?alaw ?llaw ?claw ?klaw
    (case a_cPE => k_is)
    (case a_cBR => k_is)
    (case a_cBT => k_is)
    (case a_cS => k_is)
    (case a_cR => k_is)
    (case th => k_is)
    (case ns => first | rfl | decide +kernel)
    (case z_len => k_is)
    (case z_isinstance => k_is)
    (case z_int => k_is)
    (case z_bool => k_is)
    (case z_str => k_is)
    (case z_any => k_is)
    (case z_tuple => k_is)
    (case z_repr => k_is)
    (case z_abs => k_is)
    (case z_range => k_is)
    (case z_list => k_is)
    (case z_super => k_is)
    (case gL => k_is)
    (case gF => k_is)
    (case gG => k_is)
    (case xLBR => k_is)
    (case xBBR => decide +kernel)
    (case xsBR => k_is)
    (case xgBR => k_is)
    (case xhBR => k_is)
    (case xeBR => k_is)
    (case xtBR => k_is)
    (case xkBR => k_is)
    (case xdBR => k_is)
    (case xmBR => k_is)
    (case xoBR => k_is)
    (case xaBR => k_is)
    (case xvBR => k_is)
    (case xcBR => k_is)
    (case xbBR => k_is)
    (case xqBR => first | rfl | decide +kernel)
    (case xfBR => k_is)
    (case n_cBR_part => k_is)
    (case aBR => k_is)
    (case tBR => k_is)
    (case lBR => k_is)
    (case coBR => k_is)
    (case lcBR => k_is)
    (case lvBR => rfl)
    (case lzBR => k_is)
    (case xLBT => k_is)
    (case xBBT => decide +kernel)
    (case xsBT => k_is)
    (case xgBT => k_is)
    (case xhBT => k_is)
    (case xeBT => k_is)
    (case xtBT => k_is)
    (case xkBT => k_is)
    (case xdBT => k_is)
    (case xmBT => k_is)
    (case xoBT => k_is)
    (case xaBT => k_is)
    (case xvBT => k_is)
    (case xcBT => k_is)
    (case xbBT => k_is)
    (case xqBT => first | rfl | decide +kernel)
    (case xfBT => k_is)
    (case n_cBT_line => k_is)
    (case n_cBT_word => k_is)
    (case aBT => k_is)
    (case tBT => k_is)
    (case lBT => k_is)
    (case coBT => k_is)
    (case lcBT => k_is)
    (case lvBT => rfl)
    (case lzBT => k_is)
    (case pe1 => k_is)
    (case pe2 => k_is)
    (case pe3 => k_is)
    (case pe4 => k_is)
    (case pg_cS => k_is)
    (case hd_cS => k_is)
    (case po_cS => k_is)
    (case sa_cS => k_is)
    (case mk_cS => k_is)
    (case kp_cS => k_is)
    (case n_cS_line => k_is)
    (case n_cS_words => k_is)
    (case n_cS_spot => k_is)
    (case pg_cR => k_is)
    (case hd_cR => k_is)
    (case po_cR => k_is)
    (case sa_cR => k_is)
    (case mk_cR => k_is)
    (case kp_cR => k_is)
    (case n_cR_top => k_is)
    (case n_cR_bottom => k_is)
    (case ha_cR => k_is)
    (case hm_cR => k_is)
    (case oc1 => k_is)
    (case oc2 => k_is)
    (case rs => k_is)
    (case ty_cR => k_is)
    (case rd_cR => k_is)
    (case cg_cR => k_is)
    (case aisI => k_is)
    (case lisI => k_is)
    (case cisI => k_is)
    (case kisI => k_is)
    (case anum => k_is)
    (case lnum => k_is)
    (case cnum => k_is)
    (case knum => k_is)
    (case aRin => k_is)
    (case lRin => k_is)
    (case cRin => k_is)
    (case kRin => k_is)
    (case aTR => k_is)
    (case lTR => k_is)
    (case cTR => k_is)
    (case kTR => k_is)
    (case ascI => k_is)
    (case iscI => k_is)
    (case lscI => k_is)
    (case cscI => k_is)
    (case kscI => k_is)
    (case tscI => k_is)
    (case dscI => rfl)
    (case vscI => exact .cons ⟨_, rfl⟩ (.nil))
    (case aref => k_is)
    (case iref => k_is)
    (case lref => k_is)
    (case cref => k_is)
    (case kref => k_is)
    (case tref => k_is)
    (case dref => rfl)
    (case vref => exact .cons rfl (.nil))
    (case aov => k_is)
    (case iov => k_is)
    (case lov => k_is)
    (case cov => k_is)
    (case kov => k_is)
    (case afin => k_is)
    (case ifin => k_is)
    (case lfin => k_is)
    (case cfin => k_is)
    (case kfin => k_is)
    (case aRI => k_is)
    (case iRI => k_is)
    (case lRI => k_is)
    (case cRI => k_is)
    (case kRI => k_is)
    (case tRI => k_is)
    (case dRI => rfl)
    (case vRI => exact .cons ⟨_, rfl⟩ (.nil))
    (case sRd => k_is)
    (case rRd => k_is)
    (case lRd => k_is)
    (case cRd => k_is)
    (case kRd => k_is)
    (case aEq => k_is)
    (case iEq => k_is)
    (case lEq => k_is)
    (case cEq => k_is)
    (case kEq => k_is)
    (case aStr => k_is)
    (case iStr => k_is)
    (case lStr => k_is)
    (case cStr => k_is)
    (case kStr => k_is)
    (case aRep => k_is)
    (case iRep => k_is)
    (case lRep => k_is)
    (case cRep => k_is)
    (case kRep => k_is)
    (case apen => k_is)
    (case lpen => k_is)
    (case cpen => k_is)
    (case kpen => k_is)
    (case adraw => k_is)
    (case ldraw => k_is)
    (case cdraw => k_is)
    (case kdraw => k_is)
    (case apick => k_is)
    (case lpick => k_is)
    (case cpick => k_is)
    (case kpick => k_is)
    (case acom => k_is)
    (case lcom => k_is)
    (case ccom => k_is)
    (case kcom => k_is)
    (case adig => k_is)
    (case ldig => k_is)
    (case cdig => k_is)
    (case kdig => k_is)
    (case anums => k_is)
    (case lnums => k_is)
    (case cnums => k_is)
    (case knums => k_is)
    (case awho => k_is)
    (case lwho => k_is)
    (case cwho => k_is)
    (case kwho => k_is)
    (case apair => k_is)
    (case lpair => k_is)
    (case cpair => k_is)
    (case kpair => k_is)
    (case aheard => k_is)
    (case lheard => k_is)
    (case cheard => k_is)
    (case kheard => k_is)
    (case arr => k_is)
    (case lrr => k_is)
    (case crr => k_is)
    (case krr => k_is)
    (case abent => k_is)
    (case lbent => k_is)
    (case cbent => k_is)
    (case kbent => k_is)
    (case atu => k_is)
    (case ltu => k_is)
    (case ctu => k_is)
    (case ktu => k_is)
    (case alaw => k_is)
    (case llaw => k_is)
    (case claw => k_is)
    (case klaw => k_is)
