import PyProof.Rows.All
import Wide.All
import OpenK.AllK
import Wide.FinOn
import KE.KExcSuper
import KE.KSuper
import HandS.ForMost
import HandS.Exc
import HandS.ExcInit
import HandS.ExcField
import HandS.Defaults
import HandS.IsInst
import HandS.ExcIs
import HandS.ExcOwn
import HandS.WordsExc
import HandS.ExcValue
import HandS.Wide
import HandS.WideBits
import HandS.TupAny
import HandS.TupLe
import HandS.HeadHook1
import HandS.EndBits
import HandS.HeadHook2
import HandS.HeadEnd
import HandS.Head2
import PySem.Challenge.RW_instancewoods_k01_errors
set_option Elab.async false
set_option linter.all false
set_option maxRecDepth 100000
set_option maxHeartbeats 4000000
/-! Own exceptions whose __init__ says super().__init__(x); self.f = x : made. -/
namespace PySem
namespace ZX
open PySem.W PySem.Calls PyProof.Rows PySem.HandSPX
def xA (fld : Str) (p1 p2 p3 : Pos) : Arguments := { posonlyargs := [], args := [{ arg := "self", annotation := none, pos := p1 }, { arg := fld, annotation := none, pos := p2 }], vararg := none, kwonlyargs := [], kw_defaults := [], kwarg := none, defaults := [.Constant .none 0 p3] }
def xB (fld : Str) (q1 q2 q3 q4 q5 q6 q7 q8 q9 q10 : Pos) : List Stmt :=
  [.Expr (.Call (.Attribute (.Call (.Name "super" q1) [] [] q2) "__init__" q3) [.Name fld q4] [] q5) q6, .Assign [.Attribute (.Name "self" q7) fld q8] (.Name fld q9) q10]
def xS (fld : Str) : Scope := { kind := .function, names := [(PySem.Str.ofString "self", .local), (fld, .local), (PySem.Str.ofString "__class__", .free), (PySem.Str.ofString "super", .globalImplicit)], isGenerator := false, isCoroutine := false, more := [] }
theorem mcall_eq {o : Expr} {name : Str} {args : List Expr} {apos pos : Pos} {env : Env} (hpos : (apos.endLine == pos.line) = true) (hf : methodCallForm (args.length + ([] : List Keyword).length) (backTo pos (starEach args env)) (backToKw pos (keywordEach [] env)) = true) :
    eval (.Call (.Attribute o name apos) args [] pos) env = (do
      let ov ← attributeBase o name env (eval o env)
      standAt apos.atName
      let (f, first) ← holding [ov] (getMethod ov name (do return (← importBound o env).getD true))
      callWith pos f first (backTo pos (starEach args env)) []) := by
  show (attributeBase o name env (eval o env) >>= fun ov => standAt apos.atName >>= fun _ => methodCall o name apos pos env ov (args.length + ([] : List Keyword).length) (backTo pos (starEach args env)) (backToKw pos (keywordEach [] env))) = _
  have e1 : (!true || (apos.endLine == pos.line)) = true := by rw [hpos]; rfl
  have e2 : methodCallPos true o env apos pos = pure pos := by unfold methodCallPos; rw [if_pos e1]
  have e3 : ∀ ov, methodCall o name apos pos env ov (args.length + ([] : List Keyword).length) (backTo pos (starEach args env)) (backToKw pos (keywordEach [] env)) = (do
      let (f, first) ← holding [ov] (getMethod ov name (do return (← importBound o env).getD true))
      callWith pos f first (backTo pos (starEach args env)) []) := fun ov => by
    unfold methodCall
    rw [hf, e2]
    show _ = (holding [ov] (calleeOf true o env ov name) >>= fun p => callWith pos p.1 p.2 (backTo pos (starEach args env)) [])
    congr 1
  simp only [e3]
/-- what is known of an exception class of this form -/
structure ExT (prog : Program) (K : Frag) (fld : Str) (qual : Str) (C fI : Addr) : Prop where
  fl : fld = "value" ∨ fld = "name"
  cls : ∃ nm q N bs bm sn sub ab col dd k0 k1 k2 k3 k5, K.lookup C = some (excClassObj nm q C N bs bm true sn sub ab col dd k0 k1 k2 k3 k5 "ValueError.__new__") ∧ refsVE bm = true
  sa : findIn K (.ref C) "__setattr__" = some (some (.builtin "object.__setattr__"))
  noN : findIn K (.ref C) fld = some none
  sup : ks_superIn K C C "__init__" = some (some (.builtin "ValueError.__init__"))
  subV : subIn K (.ref C) (.type "ValueError") = some true
  any : nsIn K cStatics "thirdparty.any" = some none
  sg : nsIn K mainGlobals "super" = some none
  fn : ∃ (oc : Value) (od : Option Addr) (dV kV doc pm : Value) (an : Option Addr) (cda : Addr) (ct : Value) (cc : Addr) (osl : Array (Option Value)) (p1 p2 p3 q1 q2 q3 q4 q5 q6 q7 q8 q9 q10 : Pos)
      (cl ccl : Value) (cld cdd : Option Addr) (csl ccs : Array (Option Value)) (vs : Array Value) (file : Str) (tf : Tok),
    K.lookup fI = some ⟨oc, od, .func (ksFn "__init__" qual (xA fld p1 p2 p3) (xB fld q1 q2 q3 q4 q5 q6 q7 q8 q9 q10) (xS fld) dV kV doc pm an (.ref cda) ct cc), osl⟩ ∧ codeIn K (.ref cda) qual = true ∧
    K.lookup cc = some ⟨cl, cld, .cell (some (.ref C)), csl⟩ ∧ K.lookup cda = some ⟨ccl, cdd, .fields vs, ccs⟩ ∧ vs[2]? = some (.str file tf) ∧ ((prog.main.file : Str) == file) = true ∧ (q3.endLine == q5.line) = true
  top : (prog.main.scope.names.lookup ("super" : Str)).isSome = false
/-- what __init__ leaves of a fresh exception at x -/
structure InitEnd (h h' : Heap) (x C dx t1 : Addr) (fld : Str) (v : Value) : Prop where
  keep : ∀ b o, b ≠ x → h.get? b = some o → h'.get? b = some o
  obj : h'.get? x = some { cls := .ref C, dict := some dx, data := .fields #[.ref t1, .none, .none, .none, .bool false, .none] }
  dbig : h.objs.size ≤ dx
  dne : dx ≠ x
  ns : h'.Ns1 dx (fun y => if y = fld then some v else none)
section
variable {prog : Program} {w : World} {M : Model} {A : Around} {E : Value → Shared → Prop} {h : Heap} {g : Array GenState} {d : Drawn} {t : Nat} {os : OsState}
variable {nm q : Str} {C N : Addr} {bs bm : List Value} {hdct : Bool} {sn : List Str} {sub : List Value} {ab : Bool} {col : Option Bool} {dd : Option Addr} {k0 k1 k2 k3 k5 : Option Value}
/-- the bound ValueError.__init__, called -/
theorem call_mw {u e t0 : Addr} {rest : List Value} {Q : Value → Shared → Prop}
    (hC : h.get? C = some (excClassObj nm q C N bs bm hdct sn sub ab col dd k0 k1 k2 k3 k5 "ValueError.__new__")) (he : h.get? e = some (excO C t0)) (hu : h.get? u = some (kxs_mw "ValueError.__init__" e)) (hrest : rest.length ≤ sizeLine)
    (hq : ∀ h' t1, (∀ b o, b ≠ e → h.get? b = some o → h'.get? b = some o) → h'.get? e = some (excO C t1) → Q .none ⟨h', g, d, t, os⟩) :
    wpAny (model prog w) A (call (.ref u) rest) Q E ⟨h, g, d, t, os⟩ := by
  refine wpAny_call (codeAny_of_tree ?_)
  show wpAny _ A.in1 (callAny (.ref u) ⟨rest, []⟩) _ _ _
  simp only [callAny]
  refine wpAny_bind (wpAny_load hu ?_)
  simp only [kxs_mw, show (Value.type "method-wrapper" == Value.type "method" || Value.type "method-wrapper" == Value.type "builtin_function_or_method" || Value.type "method-wrapper" == Value.type "method-wrapper") = true by decide, if_true]
  refine KFB.if_so (by decide) ?_
  refine wpAny_bind (check_bound_init F.excBase_ValueError.toExcCallFacts hC he rfl ?_)
  refine wpAny_bind (wpAny_pure (wpAny_pure ?_))
  refine ⟨plainId_quiet F.excBase_ValueError.init.plain _, codeAny_builtin F.excBase_ValueError.initEntry ?_⟩
  rw [Around.under_plainId F.excBase_ValueError.init.plain _]
  wp_walk
  refine hq _ h.objs.size (fun b o hb ho => ?_) ?_
  · rw [Heap.get?_update_other _ _ (Ne.symm hb)]
    exact Heap.get?_push_of_some _ ho
  · rw [Heap.get?_update_self _ (Heap.get?_push_of_some _ he) rfl]
    rfl
end
section
variable {prog : Program} {w : World} {A : Around} {E : Value → Shared → Prop} {R : Result → Shared → Prop} {s : Shared} {K : Frag} {fld qual : Str} {C fI : Addr} {mg : Str → Option Value}
theorem ldX {M : Model} {s : Shared} {name : Str} {scope : Scope} {L a : Addr} {cd : Value} {cc : Addr} {m : Str → Option Value} {x : Str} {pos : Pos} {v : Value} {Q : Value → Shared → Prop} {A : Around} {E : Value → Shared → Prop} (hn : s.heap.Ns L m) (hv : m x = some v) (h : Q v s)
    (hk : scope.kind = .function) (hl : scope.names.lookup x = some .local) (hd : (x == ("__debug__" : Str)) = false) :
    wpAny M A (eval (.Name x pos) (ksEnv name scope L a cd cc)) Q E s := wpAny_Name (wpAny_loadName_local hk hl hn hv h) hd
theorem init_ok (T : ExT prog K fld qual C fI) {x t0 : Addr} {v : Value} {args : Args} (X : K.In s.heap) (hlim : s.heap.NoLimit) (hg : s.heap.Ns mainGlobals mg) {mb : Str → Option Value} (hb : s.heap.Ns builtinsNs mb) (hbt : ∀ x : Str, x ≠ "__name__" → mb x = bootBuiltins x)
    (hx : s.heap.get? x = some (excO C t0)) (hxC : x ≠ C) (hnx : K.lookup x = none) (hroom : A.depth < recursionLimit)
    (hbind : ∀ fd : FuncData, (∃ o, K.lookup fI = some o ∧ o.data = .func fd) → BindsTo s fd args [(PySem.Str.ofString "self", .ref x), (fld, v)])
    (hq : ∀ h' tk dx t1, InitEnd s.heap h' x C dx t1 fld v → R (.ok (.ret .none)) { s with heap := h', toks := tk }) :
    codeAny (model prog w) A (.call (.ref fI) args) R s := by
  obtain ⟨oc, od, dV, kV, doc, pm, an, cda, ct, cc, osl, p1, p2, p3, q1, q2, q3, q4, q5, q6, q7, q8, q9, q10, cl, ccl, cld, cdd, csl, ccs, vs, file, tf, ho, hcd, hcc, hcda, hvs, hfile, hpos⟩ := T.fn
  obtain ⟨nm, q, N, bs, bm, sn, sub, ab, col, dd, k0, k1, k2, k3, k5, hC, hbm⟩ := T.cls
  have hcl : clsIn K C = some { name := nm, bases := bs, mro := .ref C :: bm, ns := N, qualname := q, hasDict := true, slotNames := sn, subclasses := sub, abstract := ab, collection := col, hasDel := false } := by unfold clsIn; rw [hC] <;> rfl
  rcases T.fl with hfl | hfl
  · subst hfl
    have hbind' := hbind _ ⟨_, ho, rfl⟩
    have lself : (xS (PySem.Str.ofString "value")).names.lookup (PySem.Str.ofString "self") = some .local := by first | rfl | kernel_rfl
    have lfld : (xS (PySem.Str.ofString "value")).names.lookup (PySem.Str.ofString "value") = some .local := by first | rfl | kernel_rfl
    have lcls : (xS (PySem.Str.ofString "value")).names.lookup (PySem.Str.ofString "__class__") = some .free := by first | rfl | kernel_rfl
    have lsup : (xS (PySem.Str.ofString "value")).names.lookup (PySem.Str.ofString "super") = some .globalImplicit := by first | rfl | kernel_rfl
    have dfld : ((PySem.Str.ofString "value") == ("__debug__" : Str)) = false := by decide +kernel
    refine ks_codeAny_call_defAt (fd := ksFn "__init__" qual (xA (PySem.Str.ofString "value") p1 p2 p3) (xB (PySem.Str.ofString "value") q1 q2 q3 q4 q5 q6 q7 q8 q9 q10) (xS (PySem.Str.ofString "value")) dV kV doc pm an (.ref cda) ct cc) (body := xB (PySem.Str.ofString "value") q1 q2 q3 q4 q5 q6 q7 q8 q9 q10) hroom (X _ _ ho) rfl hlim (codeRec_of X hcd) rfl hbind'
      (fun y hy => by
        have hy' : y ∈ (xS (PySem.Str.ofString "value")).names := hy
        unfold xS at hy'
        simp only [List.mem_cons, List.not_mem_nil, or_false] at hy'
        rcases hy' with rfl | rfl | rfl | rfl <;> exact (fun z => NameKind.noConfusion z)) (by intro y hy; simp only [List.mem_cons, List.not_mem_nil, or_false] at hy; rcases hy with rfl | rfl; exact lself; exact lfld) (fun h1 hns k1 => ?_) rfl rfl rfl
    have X1 : K.In h1 := X.keeps k1
    have nself : (List.reverse [(PySem.Str.ofString "self", Value.ref x), ((PySem.Str.ofString "value"), v)]).lookup (PySem.Str.ofString "self") = some (.ref x) := by
      first | rfl | kernel_rfl
    have nfld : (List.reverse [(PySem.Str.ofString "self", Value.ref x), ((PySem.Str.ofString "value"), v)]).lookup (PySem.Str.ofString "value") = some v := by
      first | rfl | kernel_rfl
    have hx1 := k1 _ _ hx
    have I1 : InstAt h1 x (excO C t0) C none := ⟨hx1, rfl, rfl, trivial⟩
    have hsubC : mroIn K C (.ref C) = some true := by
      unfold mroIn
      rw [hcl, Option.bind_some, if_neg (show ¬ (List.isEmpty (Value.ref C :: bm) = true) from Bool.false_ne_true)]
      simp
    obtain ⟨oD, hD1, hD2⟩ : ∃ oD, h1.get? C = some oD ∧ ∃ cdD, oD.data = .cls cdD := ⟨_, X1 _ _ hC, _, rfl⟩
    obtain ⟨cdD, hD2⟩ := hD2
    show wpAt _ _ _ (execs (xB (PySem.Str.ofString "value") q1 q2 q3 q4 q5 q6 q7 q8 q9 q10) _) _ _ _
    unfold xB
    refine ks_wpAt_execs_cons (ks_wpAt_Expr_any (ks_wpAt_MethodCall ?_ (mcall_eq hpos rfl)))
    refine ks_wpAt_super_base (env := ksEnv qual (xS (PySem.Str.ofString "value")) s.heap.objs.size fI (.ref cda) cc) lsup lcls (by decide +kernel) rfl (X1 _ _ ho) rfl (ar := { arg := "self", annotation := none, pos := p1 }) rfl rfl (X1 _ _ hcda) rfl hvs hfile T.top ?_
    refine ks_loadName_global rfl lsup (loadGlobal_builtin (env := ksEnv qual (xS (PySem.Str.ofString "value")) s.heap.objs.size fI (.ref cda) cc) (hg.keeps k1) (mg_none_of X hg T.sg) (hb.keeps k1) ((hbt _ (by decide +kernel)).trans (by decide +kernel : bootBuiltins "super" = some (.type "super"))) ⟨rfl, ?_⟩)
    refine wpAny_loadName_free rfl lcls rfl ⟨_, X1 _ _ hcc, rfl⟩ ?_
    refine wpAny_loadName_local rfl lself hns nself ?_
    refine ks_wpAny_isType_cls hD1 hD2 ⟨rfl, ?_⟩
    refine ks_wpAny_call_super hD1 hD2 I1.at_ I1.cls (fun c e => ?_) (looks_mroIn X1 hsubC) (fun h2 hso k2 => ?_)
    · cases e
    have X2 : K.In h2 := X1.keeps k2
    have hx2 := k2 _ _ hx1
    have I2 : InstAt h2 x (excO C t0) C none := ⟨hx2, rfl, rfl, trivial⟩
    have hI : Looks (model prog w) h2 (isInstance (.ref x) (.type "ValueError")) true := I2.type.andThen (looks_subIn X2 T.subV)
    have hsup := T.sup
    unfold ks_superIn at hsup
    rw [hcl] at hsup
    refine kxs_getMethod kxs_ValueError hso (looks_opaque X2 T.any) (l₀ := .ref C :: bm) (fun A Q E s k q => wpAny_bind ((looks_clsIn X2 hcl) A _ E s k (wpAny_pure q))) rfl X2 hsup hI hxC (by decide +kernel) ?_
    -- the call
    have hu : (h2.push (kxs_mw "ValueError.__init__" x)).get? h2.objs.size = some (kxs_mw "ValueError.__init__" x) := Heap.get?_push_size _ rfl
    have k3 : ∀ b o, h2.get? b = some o → (h2.push (kxs_mw "ValueError.__init__" x)).get? b = some o := fun b o e => Heap.get?_push_of_some _ e
    have hns2 := (hns.keeps k2).keeps k3
    refine kxs_callWith (i := "ValueError.__init__") (x := x) rfl ?_
    refine evalArgs_plain (show wpAny _ _ (spliced ((false, eval (.Name (PySem.Str.ofString "value") q4) (ksEnv qual (xS (PySem.Str.ofString "value")) s.heap.objs.size fI (.ref cda) cc)) :: backTo q5 (starEach [] (ksEnv qual (xS (PySem.Str.ofString "value")) s.heap.objs.size fI (.ref cda) cc)))) _ _ _ from ?_)
    refine Calls.spliced_cons (ldX hns2 nfld ?_ rfl lfld dfld)
    refine Calls.spliced_nil ⟨hu, ?_⟩
    show wpAny _ _ (call (.ref h2.objs.size) [v]) _ _ _
    refine call_mw (k3 _ _ (X2 _ _ hC)) (k3 _ _ hx2) hu (by show 1 ≤ sizeLine; rw [sizeLine_eq]; decide) fun h4 t1 k4 hx4 => ?_
    -- self.f = f
    have kk : ∀ b o, b ≠ x → h1.get? b = some o → h4.get? b = some o := fun b o hb e => k4 b o hb (k3 _ _ (k2 _ _ e))
    have X4 : K.In h4 := fun a o e => kk a o (fun z => by rw [z, hnx] at e; cases e) (X1 a o e)
    refine wpAt_of_wpAny (wpAny_execs_cons (plainObj_wpAny_Assign_Attribute ?_))
    have hL : s.heap.objs.size ≠ x := Nat.ne_of_gt (Heap.lt_size hx)
    have hns4 : h4.Ns s.heap.objs.size (fun y => (List.reverse [(PySem.Str.ofString "self", Value.ref x), ((PySem.Str.ofString "value"), v)]).lookup y) := by
      obtain ⟨oL, es, ep, e1, e2⟩ := hns2
      exact ⟨oL, es, ep, k4 _ _ hL e1, e2⟩
    refine ldX hns4 nfld (ldX hns4 nself ?_ rfl lself (by decide +kernel)) rfl lfld dfld
    refine set_plain X4 (ox := excO C t1) (od := none) ⟨hx4, rfl, rfl, trivial⟩ T.sa ?_
    refine exc_osa X4 hx4 hcl (show refsVE (.ref C :: bm) = true from hbm) rfl T.noN (fun h5 tk5 dx k5 dn dne hx5 hn5 => ?_)
    show wpAny _ _ (execs [] _) _ _ _
    refine wpAny_execs_nil ?_
    have z1 : s.heap.objs.size < h4.objs.size := by
      obtain ⟨oL, es, ep, e1, e2⟩ := hns4
      exact Heap.lt_size e1
    exact hq h5 _ dx t1 ⟨fun b o hb e => k5 b o hb (kk b o hb (k1 b o e)), hx5, Nat.le_of_lt (Nat.lt_of_lt_of_le z1 dn), dne, hn5⟩
  · subst hfl
    have hbind' := hbind _ ⟨_, ho, rfl⟩
    have lself : (xS (PySem.Str.ofString "name")).names.lookup (PySem.Str.ofString "self") = some .local := by first | rfl | kernel_rfl
    have lfld : (xS (PySem.Str.ofString "name")).names.lookup (PySem.Str.ofString "name") = some .local := by first | rfl | kernel_rfl
    have lcls : (xS (PySem.Str.ofString "name")).names.lookup (PySem.Str.ofString "__class__") = some .free := by first | rfl | kernel_rfl
    have lsup : (xS (PySem.Str.ofString "name")).names.lookup (PySem.Str.ofString "super") = some .globalImplicit := by first | rfl | kernel_rfl
    have dfld : ((PySem.Str.ofString "name") == ("__debug__" : Str)) = false := by decide +kernel
    refine ks_codeAny_call_defAt (fd := ksFn "__init__" qual (xA (PySem.Str.ofString "name") p1 p2 p3) (xB (PySem.Str.ofString "name") q1 q2 q3 q4 q5 q6 q7 q8 q9 q10) (xS (PySem.Str.ofString "name")) dV kV doc pm an (.ref cda) ct cc) (body := xB (PySem.Str.ofString "name") q1 q2 q3 q4 q5 q6 q7 q8 q9 q10) hroom (X _ _ ho) rfl hlim (codeRec_of X hcd) rfl hbind'
      (fun y hy => by
        have hy' : y ∈ (xS (PySem.Str.ofString "name")).names := hy
        unfold xS at hy'
        simp only [List.mem_cons, List.not_mem_nil, or_false] at hy'
        rcases hy' with rfl | rfl | rfl | rfl <;> exact (fun z => NameKind.noConfusion z)) (by intro y hy; simp only [List.mem_cons, List.not_mem_nil, or_false] at hy; rcases hy with rfl | rfl; exact lself; exact lfld) (fun h1 hns k1 => ?_) rfl rfl rfl
    have X1 : K.In h1 := X.keeps k1
    have nself : (List.reverse [(PySem.Str.ofString "self", Value.ref x), ((PySem.Str.ofString "name"), v)]).lookup (PySem.Str.ofString "self") = some (.ref x) := by
      first | rfl | kernel_rfl
    have nfld : (List.reverse [(PySem.Str.ofString "self", Value.ref x), ((PySem.Str.ofString "name"), v)]).lookup (PySem.Str.ofString "name") = some v := by
      first | rfl | kernel_rfl
    have hx1 := k1 _ _ hx
    have I1 : InstAt h1 x (excO C t0) C none := ⟨hx1, rfl, rfl, trivial⟩
    have hsubC : mroIn K C (.ref C) = some true := by
      unfold mroIn
      rw [hcl, Option.bind_some, if_neg (show ¬ (List.isEmpty (Value.ref C :: bm) = true) from Bool.false_ne_true)]
      simp
    obtain ⟨oD, hD1, hD2⟩ : ∃ oD, h1.get? C = some oD ∧ ∃ cdD, oD.data = .cls cdD := ⟨_, X1 _ _ hC, _, rfl⟩
    obtain ⟨cdD, hD2⟩ := hD2
    show wpAt _ _ _ (execs (xB (PySem.Str.ofString "name") q1 q2 q3 q4 q5 q6 q7 q8 q9 q10) _) _ _ _
    unfold xB
    refine ks_wpAt_execs_cons (ks_wpAt_Expr_any (ks_wpAt_MethodCall ?_ (mcall_eq hpos rfl)))
    refine ks_wpAt_super_base (env := ksEnv qual (xS (PySem.Str.ofString "name")) s.heap.objs.size fI (.ref cda) cc) lsup lcls (by decide +kernel) rfl (X1 _ _ ho) rfl (ar := { arg := "self", annotation := none, pos := p1 }) rfl rfl (X1 _ _ hcda) rfl hvs hfile T.top ?_
    refine ks_loadName_global rfl lsup (loadGlobal_builtin (env := ksEnv qual (xS (PySem.Str.ofString "name")) s.heap.objs.size fI (.ref cda) cc) (hg.keeps k1) (mg_none_of X hg T.sg) (hb.keeps k1) ((hbt _ (by decide +kernel)).trans (by decide +kernel : bootBuiltins "super" = some (.type "super"))) ⟨rfl, ?_⟩)
    refine wpAny_loadName_free rfl lcls rfl ⟨_, X1 _ _ hcc, rfl⟩ ?_
    refine wpAny_loadName_local rfl lself hns nself ?_
    refine ks_wpAny_isType_cls hD1 hD2 ⟨rfl, ?_⟩
    refine ks_wpAny_call_super hD1 hD2 I1.at_ I1.cls (fun c e => ?_) (looks_mroIn X1 hsubC) (fun h2 hso k2 => ?_)
    · cases e
    have X2 : K.In h2 := X1.keeps k2
    have hx2 := k2 _ _ hx1
    have I2 : InstAt h2 x (excO C t0) C none := ⟨hx2, rfl, rfl, trivial⟩
    have hI : Looks (model prog w) h2 (isInstance (.ref x) (.type "ValueError")) true := I2.type.andThen (looks_subIn X2 T.subV)
    have hsup := T.sup
    unfold ks_superIn at hsup
    rw [hcl] at hsup
    refine kxs_getMethod kxs_ValueError hso (looks_opaque X2 T.any) (l₀ := .ref C :: bm) (fun A Q E s k q => wpAny_bind ((looks_clsIn X2 hcl) A _ E s k (wpAny_pure q))) rfl X2 hsup hI hxC (by decide +kernel) ?_
    -- the call
    have hu : (h2.push (kxs_mw "ValueError.__init__" x)).get? h2.objs.size = some (kxs_mw "ValueError.__init__" x) := Heap.get?_push_size _ rfl
    have k3 : ∀ b o, h2.get? b = some o → (h2.push (kxs_mw "ValueError.__init__" x)).get? b = some o := fun b o e => Heap.get?_push_of_some _ e
    have hns2 := (hns.keeps k2).keeps k3
    refine kxs_callWith (i := "ValueError.__init__") (x := x) rfl ?_
    refine evalArgs_plain (show wpAny _ _ (spliced ((false, eval (.Name (PySem.Str.ofString "name") q4) (ksEnv qual (xS (PySem.Str.ofString "name")) s.heap.objs.size fI (.ref cda) cc)) :: backTo q5 (starEach [] (ksEnv qual (xS (PySem.Str.ofString "name")) s.heap.objs.size fI (.ref cda) cc)))) _ _ _ from ?_)
    refine Calls.spliced_cons (ldX hns2 nfld ?_ rfl lfld dfld)
    refine Calls.spliced_nil ⟨hu, ?_⟩
    show wpAny _ _ (call (.ref h2.objs.size) [v]) _ _ _
    refine call_mw (k3 _ _ (X2 _ _ hC)) (k3 _ _ hx2) hu (by show 1 ≤ sizeLine; rw [sizeLine_eq]; decide) fun h4 t1 k4 hx4 => ?_
    -- self.f = f
    have kk : ∀ b o, b ≠ x → h1.get? b = some o → h4.get? b = some o := fun b o hb e => k4 b o hb (k3 _ _ (k2 _ _ e))
    have X4 : K.In h4 := fun a o e => kk a o (fun z => by rw [z, hnx] at e; cases e) (X1 a o e)
    refine wpAt_of_wpAny (wpAny_execs_cons (plainObj_wpAny_Assign_Attribute ?_))
    have hL : s.heap.objs.size ≠ x := Nat.ne_of_gt (Heap.lt_size hx)
    have hns4 : h4.Ns s.heap.objs.size (fun y => (List.reverse [(PySem.Str.ofString "self", Value.ref x), ((PySem.Str.ofString "name"), v)]).lookup y) := by
      obtain ⟨oL, es, ep, e1, e2⟩ := hns2
      exact ⟨oL, es, ep, k4 _ _ hL e1, e2⟩
    refine ldX hns4 nfld (ldX hns4 nself ?_ rfl lself (by decide +kernel)) rfl lfld dfld
    refine set_plain X4 (ox := excO C t1) (od := none) ⟨hx4, rfl, rfl, trivial⟩ T.sa ?_
    refine exc_osa X4 hx4 hcl (show refsVE (.ref C :: bm) = true from hbm) rfl T.noN (fun h5 tk5 dx k5 dn dne hx5 hn5 => ?_)
    show wpAny _ _ (execs [] _) _ _ _
    refine wpAny_execs_nil ?_
    have z1 : s.heap.objs.size < h4.objs.size := by
      obtain ⟨oL, es, ep, e1, e2⟩ := hns4
      exact Heap.lt_size e1
    exact hq h5 _ dx t1 ⟨fun b o hb e => k5 b o hb (kk b o hb (k1 b o e)), hx5, Nat.le_of_lt (Nat.lt_of_lt_of_le z1 dn), dne, hn5⟩
end
end ZX
end PySem

set_option maxHeartbeats 4000000
namespace PySem
namespace ZX
open PySem.W PySem.Calls PyProof.Rows PySem.HandSPX
section
variable {fld qual : Str} {dV kV doc pm : Value} {an : Option Addr} {cdv ct : Value} {cc T : Addr} {p1 p2 p3 : Pos} {body : List Stmt}
theorem bind2 (hf : fld = "value" ∨ fld = "name") (x u y : Value) : ∃ k, bindArgs (ksFn "__init__" qual (xA fld p1 p2 p3) body (xS fld) (.ref T) kV doc pm an cdv ct cc) ⟨[x, u], []⟩ = seqItems? (.ref T) >>= k ∧ k (some #[y]) = pure [(PySem.Str.ofString "self", x), (fld, u)] := by
  rcases hf with rfl | rfl <;> exact ⟨_, rfl, rfl⟩
theorem bind1 (hf : fld = "value" ∨ fld = "name") (x y : Value) : ∃ k, bindArgs (ksFn "__init__" qual (xA fld p1 p2 p3) body (xS fld) (.ref T) kV doc pm an cdv ct cc) ⟨[x], []⟩ = seqItems? (.ref T) >>= k ∧ k (some #[y]) = pure [(PySem.Str.ofString "self", x), (fld, y)] := by
  rcases hf with rfl | rfl <;> exact ⟨_, rfl, rfl⟩
theorem bindk (hf : fld = "value" ∨ fld = "name") (x u y : Value) : ∃ k, bindArgs (ksFn "__init__" qual (xA fld p1 p2 p3) body (xS fld) (.ref T) kV doc pm an cdv ct cc) ⟨[x], [(fld, u)]⟩ = seqItems? (.ref T) >>= k ∧ k (some #[y]) = pure [(PySem.Str.ofString "self", x), (fld, u)] := by
  rcases hf with rfl | rfl <;> exact ⟨_, rfl, rfl⟩
end
section
variable {M : Model} {A : Around} {E : Value → Shared → Prop} {h : Heap} {g : Array GenState} {d : Drawn} {t : Nat} {os : OsState}
variable {nm q : Str} {C N : Addr} {bs bm : List Value} {hdct : Bool} {sn : List Str} {sub : List Value} {ab : Bool} {col : Option Bool} {dd : Option Addr} {k0 k1 k2 k3 k5 : Option Value}
theorem chk_newK (hT : ∀ X : String, bm.contains (.type X) = veTail.contains (.type X)) {rest : List Value} {kw : List (Str × Value)} (hkw : kw = [] ∨ ∃ f u, kw = [(f, u)]) {Q : Unit → Shared → Prop}
    (hC : h.get? C = some (excClassObj nm q C N bs bm hdct sn sub ab col dd k0 k1 k2 k3 k5 "ValueError.__new__")) (hq : Q () ⟨h, g, d, t, os⟩) : wpAny M A (checkBuiltinCall "ValueError.__new__" ⟨.ref C :: rest, kw⟩) Q E ⟨h, g, d, t, os⟩ := by
  have F := PySem.F.excBase_ValueError
  have hcont : (Value.ref C :: bm).contains (.type "ValueError") = true := by rw [List.contains_cons, hT, F.hasB, Bool.or_true]
  have hstar := F.noStar
  rcases hkw with rfl | ⟨f, u, rfl⟩ <;>
  · simp only [checkBuiltinCall, F.newKind, F.newSplit, F.newRow]
    repeat (first | refine wpAny_loadPart_at hC ?_ | (refine wpAny_isSubtype_exc hC ?_; rw [hcont]) | refine wpAny_staticBase_exc hC ?_ | refine wpAny_madeBy_exc hC ?_ | simp only [bne_self_eq_false, Bool.false_eq_true, if_false] | wp_step)
    exact hq
end
section
variable {prog : Program} {w : World} {A : Around} {E : Value → Shared → Prop} {R : Result → Shared → Prop} {h : Heap} {g : Array GenState} {d : Drawn} {t : Nat} {os : OsState}
variable {nm q : Str} {C N : Addr} {bs bm : List Value} {hdct : Bool} {sn : List Str} {sub : List Value} {ab : Bool} {col : Option Bool} {dd : Option Addr} {k0 k1 k2 k3 k5 : Option Value}
theorem newK (hT : ∀ X : String, bm.contains (.type X) = veTail.contains (.type X)) {rest : List Value} {kw : List (Str × Value)}
    (hC : h.get? C = some (excClassObj nm q C N bs bm hdct sn sub ab col dd k0 k1 k2 k3 k5 "ValueError.__new__"))
    (hq : R (.ok (.ret (.ref (h.objs.size + 1)))) ⟨(h.push (W.kdv_tup rest)).push (excO C h.objs.size), g, d, t, os⟩) (hrest : rest.length ≤ sizeLine) :
    codeAny (model prog w) A (.builtin "ValueError.__new__" ⟨.ref C :: rest, kw⟩) R ⟨h, g, d, t, os⟩ := by
  have F := PySem.F.excBase_ValueError
  have hends := F.ends
  have hcB : (Value.ref C :: bm).contains (.type "ValueError") = true := by rw [List.contains_cons, hT, F.hasB, Bool.or_true]
  have hcA : (Value.ref C :: bm).contains (.type "AttributeError") = false := by rw [List.contains_cons, hT, F.noAttr]; rfl
  have hcN : (Value.ref C :: bm).contains (.type "NameError") = false := by rw [List.contains_cons, hT, F.noName]; rfl
  refine codeAny_builtinAt F.entry ?_
  unfold Builtin.«BaseException.__new__»
  refine wpAt_bind ?_
  show wpAt _ _ _ (stack >>= _) _ _ _
  refine wpAt_bind (wpAt_stack fun p below => wpAt_of_wpAny ?_)
  wp_walk
  refine wpAt_of_wpAny ?_
  rw [F.owner]
  repeat (first | with_reducible refine wpAny_madeHere_exc F.canon hC ?_ | with_reducible refine wpAny_loadPart_at hC ?_ | (with_reducible refine wpAny_isSubtype_exc hC ?_; first | rw [hcB] | rw [hcA] | rw [hcN]) | wp_step)
  show R _ _
  rw [Heap.size_push]
  exact hq
theorem typeCallK (hT : ∀ X : String, bm.contains (.type X) = veTail.contains (.type X)) {rest : List Value} {kw : List (Str × Value)} (hkw : kw = [] ∨ ∃ f u, kw = [(f, u)]) {fI : Addr} {Q : Fin → Shared → Prop}
    (hC : h.get? C = some (excClassObj nm q C N bs bm hdct sn sub ab col dd k0 k1 k2 k3 k5 "ValueError.__new__"))
    (hi : W.Looks (model prog w) h (typeLookup (.ref C) "__init__") (some (.ref fI))) (hb : ∀ self, W.Looks (model prog w) h (bindSpecial (.ref fI) self) (.ref fI, [self])) (hrest : rest.length ≤ sizeLine)
    (hq : codeAny (model prog w) A (.call (.ref fI) ⟨.ref (h.objs.size + 1) :: rest, kw⟩)
      (fun r s' => match r with | .ok (.ret v) => v = .none ∧ Q (.done (.ret (.ref (h.objs.size + 1)))) s' | .ok _ => False | .error e => E e s')
      ⟨(h.push (W.kdv_tup rest)).push (excO C h.objs.size), g, d, t, os⟩) :
    wpAny (model prog w) A (Builtin.«type.__call__» ⟨.ref C :: rest, kw⟩) Q E ⟨h, g, d, t, os⟩ := by
  have F := PySem.F.excBase_ValueError
  repeat (first | with_reducible refine wpAny_loadPart_at hC ?_ | with_reducible refine wpAny_madeBy_exc hC ?_ | wp_step)
  refine codeAny_call_builtin_code (Code.quiet_builtin _ F.quiet) (chk_newK hT hkw hC ?_)
  refine newK hT hC ?_ hrest
  show wpAny _ _ _ _ _ _
  have k : ∀ b o, h.get? b = some o → ((h.push (W.kdv_tup rest)).push (excO C h.objs.size)).get? b = some o := fun b o e => Heap.get?_push_of_some _ (Heap.get?_push_of_some _ e)
  have hC1 := k _ _ hC
  have hget : ((h.push (W.kdv_tup rest)).push (excO C h.objs.size)).get? (h.objs.size + 1) = some (excO C h.objs.size) := by heap_get
  have hcC : (Value.ref C :: bm).contains (.ref C) = true := by simp
  have i1 := hi.keeps k
  have b1 := (hb (.ref (h.objs.size + 1))).keeps k
  unfold isInstance
  repeat (first | with_reducible refine wpAny_loadPart_at hget ?_ | (with_reducible refine wpAny_isSubtype_exc hC1 ?_; rw [hcC]) | wp_step)
  show wpAny _ _ (typeLookup (.ref C) _) _ _ _
  refine i1.at ?_
  refine wpAny_holding (wpAny_bind (b1.at ?_))
  refine wpAny_bind (wpAny_call (codeAny_mono hq fun r s' z => ?_))
  rcases r with e | (v | _ | _ | _) <;> first | exact z | exact z.elim | skip
  obtain ⟨rfl, z⟩ := z
  first
    | exact wpAny_pure (wpAny_pure z)
    | (wp_walk; exact z)
theorem callK (hT : ∀ X : String, bm.contains (.type X) = veTail.contains (.type X)) {rest : List Value} {kw : List (Str × Value)} (hkw : kw = [] ∨ ∃ f u, kw = [(f, u)]) {fI : Addr}
    (hC : h.get? C = some (excClassObj nm q C N bs bm hdct sn sub ab col dd k0 k1 k2 k3 k5 "ValueError.__new__"))
    (hi : W.Looks (model prog w) h (typeLookup (.ref C) "__init__") (some (.ref fI))) (hb : ∀ self, W.Looks (model prog w) h (bindSpecial (.ref fI) self) (.ref fI, [self])) (hrest : rest.length ≤ sizeLine)
    (hq : codeAny (model prog w) (A.under (.builtin "type.__call__" ⟨.ref C :: rest, kw⟩)) (.call (.ref fI) ⟨.ref (h.objs.size + 1) :: rest, kw⟩) (W.InitBack (h.objs.size + 1) R)
      ⟨(h.push (W.kdv_tup rest)).push (excO C h.objs.size), g, d, t, os⟩) :
    codeAny (model prog w) A (.call (.ref C) ⟨rest, kw⟩) R ⟨h, g, d, t, os⟩ := by
  have f1 := tc_lookup
  have f2 := tc_bind (.ref C)
  have hTy : (⟨h, g, d, t, os⟩ : Shared).TypeIs (.ref C) "type" := ⟨_, hC, rfl⟩
  refine codeAny_of_tree ?_
  show wpAny _ _ (callAny (.ref C) _) _ _ _
  repeat (any_goals (first | assumption | with_reducible refine wpAny_loadPart_at hC ?_ | wp_step))
  refine ⟨rfl, ?_⟩
  refine codeAny_call_builtin_at (Code.quiet_builtin _ (by decide +kernel)) entry_typeCall (wpAny_check_type_call_sub hC (typeCallK hT hkw hC hi hb hrest ?_))
  refine codeAny_mono hq fun r s' z => ?_
  rcases r with e | (v | _ | _ | _) <;> exact z
end
end ZX
end PySem

set_option maxHeartbeats 4000000
/-! What must hold at a place so that a piece of syntax goes well from there (over HandS). -/
namespace L2.Z
open PySem PySem.Spec PyProof.Rows
section
variable (X : Cx)
def EW (e : Expr) (σ : St) (H : Hp) (Q : VK) : Prop := ∀ pins s, Inv X pins σ H s → wpAny (model X.prog X.w) X.A (eval e X.env) (EP X pins σ Q) X.xe s
def TW (e : Expr) (σ : St) (H : Hp) (Q : Bool → Hp → Prop) : Prop := ∀ pins s, Inv X pins σ H s → wpAny (model X.prog X.w) X.A (isTrue e X.env (eval e X.env)) (TP X pins σ Q) X.xe s
def PWW (e : Expr) (σ : St) (H : Hp) (Q : Bool → Hp → Prop) : Prop := ∀ whole pins s, Inv X pins σ H s → wpAny (model X.prog X.w) X.A (isTrue e X.env whole) (TP X pins σ Q) X.xe s
def AW (es : List Expr) (σ : St) (H : Hp) (Q : List V → Hp → Prop) : Prop := ∀ pos pins s, Inv X pins σ H s → wpAny (model X.prog X.w) X.A (spliced (backTo pos (starEach es X.env))) (AP X pins σ Q) X.xe s
def KWW (es : List Keyword) (σ : St) (H : Hp) (Q : List V → Hp → Prop) : Prop := ∀ pos pins s, Inv X pins σ H s → wpAny (model X.prog X.w) X.A (evalAll ((backToKw pos (keywordEach es X.env)).map (·.2))) (AP X pins σ Q) X.xe s
def SW (st : Stmt) (D : Ends) (σ : St) (H : Hp) : Prop := ∀ pins s, Inv X pins σ H s → wpAny (model X.prog X.w) X.A (exec st X.env) (SP X pins D) X.xe s
def BW (st : List Stmt) (D : Ends) (σ : St) (H : Hp) : Prop := ∀ pins s, Inv X pins σ H s → wpAny (model X.prog X.w) X.A (execs st X.env) (SP X pins D) X.xe s
def GW (tg : Expr) (v : V) (σ : St) (H : Hp) (Q : St → Hp → Prop) : Prop := ∀ pins s u, Inv X pins σ H s → RelV v u → wpAny (model X.prog X.w) X.A (assign tg X.env u) (fun _ s' => ∃ σ' H', Inv X pins σ' H' s' ∧ Q σ' H') X.xe s
def GsW (ts : List Expr) (vs : List V) (σ : St) (H : Hp) (Q : St → Hp → Prop) : Prop := ∀ pins s us, Inv X pins σ H s → Vals vs us → wpAny (model X.prog X.w) X.A (assignInOrder ((assignEach ts X.env).map (·.2)) us) (fun _ s' => ∃ σ' H', Inv X pins σ' H' s' ∧ Q σ' H') X.xe s
end
section
variable {X : Cx} {e a b c : Expr} {es rest : List Expr} {σ : St} {H : Hp} {Q Q' : VK} {R R' : Bool → Hp → Prop} {D : Ends} {pos : Pos} {st : Stmt} {sts : List Stmt} {x : Str}
theorem e_pe : PE X e (EW X e) := ⟨fun pins s σ H Q I h => h pins s I⟩
theorem t_pe : PT X e (TW X e) := ⟨fun pins s σ H Q I h => h pins s I⟩
theorem w_pe : PW X e (PWW X e) := ⟨fun wh pins s σ H Q I h => h wh pins s I⟩
theorem a_pe : PA X es (AW X es) := ⟨fun pos pins s σ H Q I h => h pos pins s I⟩
theorem k_pe {ks : List Keyword} : PK X ks (KWW X ks) := ⟨fun pos pins s σ H Q I h => h pos pins s I⟩
theorem s_pe : PS X st (SW X st) := ⟨fun pins s σ H D I h => h pins s I⟩
theorem b_pe : PSs X sts (BW X sts) := ⟨fun pins s σ H D I h => h pins s I⟩
theorem g_pe {tg : Expr} : PG X tg (GW X tg) := ⟨fun pins s σ H v u Q I r h => h pins s u I r⟩
theorem gs_pe {ts : List Expr} : PGs X ts (GsW X ts) := ⟨fun pins s σ H v u Q I r h => h pins s u I r⟩
theorem e_of {t : TE} (h : PE X e t) (q : t σ H Q) : EW X e σ H Q := fun pins s I => h.run pins s σ H Q I q
theorem t_of {t : TT} (h : PT X e t) (q : t σ H R) : TW X e σ H R := fun pins s I => h.run pins s σ H R I q
theorem w_of {t : TT} (h : PW X e t) (q : t σ H R) : PWW X e σ H R := fun wh pins s I => h.run wh pins s σ H R I q
theorem tw_of {t : TT} (h : PW X e t) (q : t σ H R) : TW X e σ H R := t_of h.pt q
theorem a_of {t : TA} {Q : List V → Hp → Prop} (h : PA X es t) (q : t σ H Q) : AW X es σ H Q := fun pos pins s I => h.run pos pins s σ H Q I q
theorem k_of {ks : List Keyword} {t : TA} {Q : List V → Hp → Prop} (h : PK X ks t) (q : t σ H Q) : KWW X ks σ H Q := fun pos pins s I => h.run pos pins s σ H Q I q
theorem s_of {t : TS} (h : PS X st t) (q : t D σ H) : SW X st D σ H := fun pins s I => h.run pins s σ H D I q
theorem b_of {t : TS} (h : PSs X sts t) (q : t D σ H) : BW X sts D σ H := fun pins s I => h.run pins s σ H D I q
theorem g_of {tg : Expr} {t : TG} {v : V} {N : St → Hp → Prop} (h : PG X tg t) (q : t v σ H N) : GW X tg v σ H N := fun pins s u I r => h.run pins s σ H v u N I r q
theorem EW.mono (h : EW X e σ H Q) (k : ∀ v H', Q v H' → Q' v H') : EW X e σ H Q' := fun pins s I => thn (h pins s I) fun v s' ⟨y, H', I', r, q⟩ => ⟨y, H', I', r, k _ _ q⟩
theorem TW.mono (h : TW X e σ H R) (k : ∀ v H', R v H' → R' v H') : TW X e σ H R' := fun pins s I => thn (h pins s I) fun v s' ⟨H', I', q⟩ => ⟨H', I', k _ _ q⟩
/-- the place of a name among the slots -/
def At (N : List Str) (i : Nat) (x : Str) : Prop := N[i]? = some x
theorem at_z {N : List Str} : At (x :: N) 0 x := rfl
theorem at_s {N : List Str} {i : Nat} {y : Str} (h : At N i x) : At (y :: N) (i + 1) x := by
  unfold At
  rw [List.getElem?_cons_succ]
  exact h
theorem e_nm {i : Nat} {N : List Str} {v : V} (hX : X.N = N) (h : At N i x) (hs : σ[i]? = some (some v)) (q : Q v H)
    (hv : Vis X.env.scope x := by first | exact Or.inl rfl | exact Or.inr (Or.inl rfl) | exact Or.inr (Or.inr rfl)) (hd : (x == ("__debug__" : Str)) = false := by decide) (hcd : (x == ("__classdict__" : Str)) = false := by decide) : EW X (.Name x pos) σ H Q :=
  e_of (pe_var (i := i) (by rw [hX]; exact h) hv hd hcd) ⟨v, hs, q⟩
theorem e_int {i j} (q : Q (.int i) H) : EW X (.Constant (.int i) j pos) σ H Q := e_of pe_int q
theorem e_bl {i j} (q : Q (.bl i) H) : EW X (.Constant (.bool i) j pos) σ H Q := e_of pe_bl q
theorem e_non {j} (q : Q .non H) : EW X (.Constant .none j pos) σ H Q := e_of pe_non q
theorem e_str {i j} (q : Q (.str i) H) : EW X (.Constant (.str i) j pos) σ H Q := e_of pe_str q
theorem e_op {op : Operator} {r : R2} (o : OpR X (binaryOp op) r) (h : EW X a σ H fun y H1 => EW X b σ H1 fun z H2 => r y z H2 Q) : EW X (.BinOp a op b pos) σ H Q := e_of (pe_op o e_pe e_pe) h
theorem e_un {op : UnaryOp} {r : V → Hp → VK → Prop} (o : UnR X (unaryOp op) r) (h : EW X a σ H fun y H1 => r y H1 Q) : EW X (.UnaryOp op a pos) σ H Q := e_of (pe_un o e_pe) h
theorem e_cmp {op : CmpOp} {r : R2} (o : OpR X (compareOp op) r) (h : EW X a σ H fun y H1 => EW X b σ H1 fun z H2 => r y z H2 Q) (hm : behindInMarks op b = false := by first | exact nomark _ | rfl) : EW X (.Compare a [op] [b] pos) σ H Q := e_of (pe_cmpR o e_pe e_pe hm) h
theorem t_cmp {op : CmpOp} {r : R2} (o : OpR X (compareOp op) r) (h : EW X a σ H fun y H1 => EW X b σ H1 fun z H2 => r y z H2 fun v H3 => ∃ k, v = .bl k ∧ R k H3) (hm : behindInMarks op b = false := by first | exact nomark _ | rfl) : TW X (.Compare a [op] [b] pos) σ H R := t_of (pt_cmpR o e_pe e_pe hm) h
theorem t_chain {op op' : CmpOp} {r r' : R2} (o : OpR X (compareOp op) r) (o' : OpR X (compareOp op') r')
    (h : EW X a σ H fun y H1 => EW X b σ H1 fun z H2 => r y z H2 fun v H3 => ∃ k, v = .bl k ∧ if k = true then EW X c σ H3 fun w' H4 => r' z w' H4 fun v H5 => ∃ k, v = .bl k ∧ R k H5 else ∃ k, V.bl false = .bl k ∧ R k H3)
    (hm : lastMarks [op, op'] [b, c] = false := by with_unfolding_all rfl) : TW X (.Compare a [op, op'] [b, c] pos) σ H R := t_of (pt_chain o o' e_pe e_pe e_pe hm) h
theorem e_and (h : EW X a σ H fun y H1 => ∃ k, y = .bl k ∧ if k = true then EW X (.BoolOp .And (b :: rest) pos) σ H1 Q else Q (.bl false) H1) : EW X (.BoolOp .And (a :: b :: rest) pos) σ H Q := e_of (pe_and e_pe e_pe) h
theorem e_or (h : EW X a σ H fun y H1 => ∃ k, y = .bl k ∧ if k = true then Q (.bl true) H1 else EW X (.BoolOp .Or (b :: rest) pos) σ H1 Q) : EW X (.BoolOp .Or (a :: b :: rest) pos) σ H Q := e_of (pe_or e_pe e_pe) h
theorem e_one {op} (h : EW X a σ H Q) : EW X (.BoolOp op [a] pos) σ H Q := e_of (pe_one e_pe) h
theorem e_not (h : TW X a σ H fun k H1 => Q (.bl (!k)) H1) (he : ∀ {M : Model} {A : Around} {Q' : Value → Shared → Prop} {E s}, wpAny M A (isTrue a X.env (eval a X.env)) (fun k s' => Q' (.bool (!k)) s') E s → wpAny M A (eval (.UnaryOp .Not a pos) X.env) Q' E s) : EW X (.UnaryOp .Not a pos) σ H Q :=
  fun pins s I => he (thn (h pins s I) fun k s' ⟨H', I', q⟩ => ⟨.bl (!k), H', I', rfl, q⟩)
theorem w_and1 (h : TW X a σ H R) : PWW X (.BoolOp .And [a] pos) σ H R := w_of (pw_and1 t_pe) h
theorem w_or1 (h : TW X a σ H R) : PWW X (.BoolOp .Or [a] pos) σ H R := w_of (pw_or1 t_pe) h
theorem w_and (h : TW X a σ H fun k H1 => if k = true then PWW X (.BoolOp .And (b :: rest) pos) σ H1 R else R false H1) : PWW X (.BoolOp .And (a :: b :: rest) pos) σ H R := w_of (pw_and t_pe w_pe) h
theorem w_or (h : TW X a σ H fun k H1 => if k = true then R true H1 else PWW X (.BoolOp .Or (b :: rest) pos) σ H1 R) : PWW X (.BoolOp .Or (a :: b :: rest) pos) σ H R := w_of (pw_or t_pe w_pe) h
theorem t_w (h : PWW X e σ H R) : TW X e σ H R := fun pins s I => h _ pins s I
theorem t_not (h : TW X a σ H fun k H1 => R (!k) H1) : TW X (.UnaryOp .Not a pos) σ H R := t_of (pt_not t_pe) h
theorem t_val (h : EW X e σ H fun y H1 => ∃ k, y = .bl k ∧ R k H1) (he : ∀ whole, isTrue e X.env whole = (do let v ← whole; standAt e.pos; holding [v] (truthy v)) := by intro _; rfl) : TW X e σ H R := t_of (pt_val e_pe he) h
theorem t_tru (h : EW X e σ H fun y H1 => ∃ k, TruV X.K y H1 k ∧ R k H1) (he : ∀ whole, isTrue e X.env whole = (do let v ← whole; standAt e.pos; holding [v] (truthy v)) := by intro _; rfl) : TW X e σ H R := t_of (pt_truth e_pe he) h
theorem e_if (h : TW X c σ H fun k H1 => if k = true then EW X a σ H1 Q else EW X b σ H1 Q) : EW X (.IfExp c a b pos) σ H Q := e_of (pe_ifExp t_pe e_pe e_pe) h
theorem a_nil {Q : List V → Hp → Prop} (h : Q [] H) : AW X [] σ H Q := a_of pa_nil h
theorem a_cons {Q : List V → Hp → Prop} (h : EW X e σ H fun y H1 => AW X es σ H1 fun ys H2 => Q (y :: ys) H2) (hs : starEach (e :: es) X.env = (false, eval e X.env) :: starEach es X.env := by rfl) : AW X (e :: es) σ H Q := a_of (pa_cons e_pe a_pe hs) h
theorem k_nil {Q : List V → Hp → Prop} (h : Q [] H) : KWW X [] σ H Q := k_of pk_nil h
theorem k_cons {Q : List V → Hp → Prop} {ks : List Keyword} {nm : Option Str} {kp : Pos} (h : EW X e σ H fun y H1 => KWW X ks σ H1 fun ys H2 => Q (y :: ys) H2) : KWW X (⟨nm, e, kp⟩ :: ks) σ H Q := k_of (pk_cons e_pe k_pe) h
theorem e_tup {z} (h : AW X es σ H fun ys H1 => ys.length ≤ sizeLine ∧ ∀ p, H1 p = none → Q (.ref p) (upd H1 p (.tup ys))) : EW X (.Tuple es z pos) σ H Q := e_of (pe_tup a_pe) h
theorem e_lst (h : AW X es σ H fun ys H1 => ys.length ≤ sizeLine ∧ ∀ p, H1 p = none → Q (.ref p) (upd H1 p (.lst ys))) : EW X (.List es pos) σ H Q := e_of (pe_lst a_pe) h
theorem e_fld {f : Str} (h : EW X e σ H fun y H1 => ∃ a C dx fs v, y = .ref a ∧ H1 a = some (.ins C dx fs) ∧ Cls X.K C ∧ NoAttr X.K C f ∧ fs.lookup f = some v ∧ Q v H1) (hb : attributeBase e f X.env (eval e X.env) = eval e X.env := by rfl) : EW X (.Attribute e f pos) σ H Q := e_of (pe_fld e_pe hb) h
theorem e_callB {p : Pos} {id : String} {r : List V → Hp → VK → Prop} (hc : CallR X (.builtin id) r) (hm : X.mg x = none) (hv : bootBuiltins x = some (.builtin id)) (h : AW X (e :: es) σ H fun vs H1 => r vs H1 Q) (hg : Gl X x := by rfl)
    (hn : x ≠ "__name__" := by decide) (hdb : (x == ("__debug__" : Str)) = false := by decide) (he : starEach (e :: es) X.env = (false, eval e X.env) :: starEach es X.env := by rfl) (hpl : (backTo pos (starEach es X.env)).any (·.1) = false := by rfl) : EW X (.Call (.Name x p) (e :: es) [] pos) σ H Q :=
  e_of (pe_callB hc hg hm hv a_pe hn hdb he hpl) h
theorem e_callT {p : Pos} {T : String} {r : List V → Hp → VK → Prop} (hc : CallR X (.type T) r) (hm : X.mg x = none) (hv : bootBuiltins x = some (.type T)) (h : AW X (e :: es) σ H fun vs H1 => r vs H1 Q) (hg : Gl X x := by rfl)
    (hn : x ≠ "__name__" := by decide) (hdb : (x == ("__debug__" : Str)) = false := by decide) (he : starEach (e :: es) X.env = (false, eval e X.env) :: starEach es X.env := by rfl) (hpl : (backTo pos (starEach es X.env)).any (·.1) = false := by rfl) : EW X (.Call (.Name x p) (e :: es) [] pos) σ H Q :=
  e_of (pe_callTy hc hg hm hv a_pe hn hdb he hpl) h
theorem e_bm {o : Expr} {name : Str} {apos cpos : Pos} {T id : String} {r : V → List V → Hp → VK → Prop} (pa : PlainAttrs T) (slot : Slot T name id) (hty : typeOf (.builtin id) = pure (.type "method_descriptor")) (hm : MtR X id r)
    (h : EW X o σ H fun y H1 => tyV X.K T y H1 ∧ AW X (e :: es) σ H1 fun ys H2 => r y ys H2 Q) (h1 : attributeBase o name X.env (eval o X.env) = eval o X.env := by rfl)
    (h2 : ((backTo cpos (starEach (e :: es) X.env)).all (fun x => !x.1) && (backToKw cpos (keywordEach [] X.env)).all (fun x => x.1.isSome) && decide ((e :: es).length + ([] : List Keyword).length + (if ([] : List Keyword).isEmpty then 0 else 1) < 30)) = true := by rfl)
    (h3 : (apos.endLine == cpos.line) = true := by rfl) (h4 : starEach (e :: es) X.env = (false, eval e X.env) :: starEach es X.env := by rfl) (h5 : (backTo cpos (starEach es X.env)).any (·.1) = false := by rfl) : EW X (.Call (.Attribute o name apos) (e :: es) [] cpos) σ H Q :=
  e_of (pe_bm pa slot hty hm e_pe a_pe h1 h2 h3 h4 h5) h
theorem e_bm0 {o : Expr} {name : Str} {apos cpos : Pos} {T id : String} {r : V → List V → Hp → VK → Prop} (pa : PlainAttrs T) (slot : Slot T name id) (hty : typeOf (.builtin id) = pure (.type "method_descriptor")) (hm : MtR X id r)
    (h : EW X o σ H fun y H1 => tyV X.K T y H1 ∧ r y [] H1 Q) (h1 : attributeBase o name X.env (eval o X.env) = eval o X.env := by rfl) (h3 : (apos.endLine == cpos.line) = true := by rfl) : EW X (.Call (.Attribute o name apos) [] [] cpos) σ H Q :=
  e_of (pe_bm0 pa slot hty hm e_pe h1 h3) h
theorem e_ix {r : R2} (hr : IxR X r) (h : EW X a σ H fun y H1 => EW X b σ H1 fun z H2 => r y z H2 Q) (hs : PlainIx b := by exact fun _ _ => rfl) : EW X (.Subscript a b pos) σ H Q := e_of (pe_ix hr e_pe e_pe hs) h
theorem s_ret (h : EW X e σ H D.rt) : SW X (.Return (some e) pos) D σ H := s_of (ps_ret e_pe) h
theorem s_expr (h : EW X e σ H fun _ H1 => D.nx σ H1) (hs : swapsWith e none pos.line X.env = pure false := by rfl) : SW X (.Expr e pos) D σ H := s_of (ps_expr e_pe hs) h
theorem s_if {A B : List Stmt} (h : TW X c σ H fun k H1 => if k = true then BW X A D σ H1 else BW X B D σ H1) : SW X (.If c A B pos) D σ H := s_of (ps_if t_pe b_pe b_pe) h
theorem b_nil (h : D.nx σ H) : BW X [] D σ H := b_of pss_nil h
theorem b_cons (h : SW X st { D with nx := fun σ' H' => BW X sts D σ' H' } σ H) : BW X (st :: sts) D σ H := b_of (pss_cons s_pe b_pe) h
theorem b_one (h : SW X st D σ H) : BW X [st] D σ H := b_of (pss_one s_pe) h
theorem s_set {i : Nat} {N : List Str} {pos' : Pos} (hN : X.N.Nodup) (hX : X.N = N) (hi : At N i x) (h : EW X e σ H fun v H1 => D.nx (σ.set i (some v)) H1) (hx : Loc X.env.scope x := by first | exact Or.inl rfl | exact Or.inr rfl)
    (hs : swapsWith e (some (.Name x pos')) pos.line X.env = pure false := by rfl) (hf : X.fn x = true ∨ X.env.scope.names.lookup x = some .local := by first | exact .inl rfl | exact .inr rfl | assumption) : SW X (.Assign [.Name x pos'] e pos) D σ H :=
  s_of (ps_set (i := i) hN (by rw [hX]; exact hi) hx e_pe hs hf) h
theorem s_asg {tg : Expr} (h : EW X e σ H fun v H1 => GW X tg v σ H1 D.nx) (hs : swapsWithSole [tg] e pos.line X.env = pure false := by rfl) (hw : swappedStores [tg] e X.env = pure none := by rfl) (h1 : (assignEach [tg] X.env).map (·.2) = [assign tg X.env] := by rfl) : SW X (.Assign [tg] e pos) D σ H :=
  s_of (ps_asg e_pe g_pe hs hw h1) h
theorem s_fld {o : Expr} {f : Str} {pos' : Pos} (h : EW X e σ H fun y H1 => EW X o σ H1 fun z H2 => ∃ a C dx fs, z = .ref a ∧ H2 a = some (.ins C dx fs) ∧ Cls X.K C ∧ NoAttr X.K C f ∧ fs.length < 1000 ∧ D.nx σ (upd H2 a (.ins C dx (putF f y fs))))
    (hs : swapsWith e (some (.Attribute o f pos')) pos.line X.env = pure false := by rfl) : SW X (.Assign [.Attribute o f pos'] e pos) D σ H := s_of (ps_fld e_pe e_pe hs) h
theorem g_nm {i : Nat} {N : List Str} {v : V} {n : St → Hp → Prop} (hN : X.N.Nodup) (hX : X.N = N) (hi : At N i x) (h : n (σ.set i (some v)) H) (hx : Loc X.env.scope x := by first | exact Or.inl rfl | exact Or.inr rfl)
    (hf : X.fn x = true ∨ X.env.scope.names.lookup x = some .local := by first | exact .inl rfl | exact .inr rfl | assumption) : GW X (.Name x pos) v σ H n := g_of (pg_name (i := i) hN (by rw [hX]; exact hi) hx hf) h
end
/-! ### what is walked -/
structure Wlk (J : It) (n : Nat) (S : Hp → Prop) (Y : Nat → Hp → V → Hp → Prop) : Prop where
  go : ∀ i H, S H → i < n → J.go i H
  yl : ∀ i H x H', S H → i < n → J.yld i H x H' → Y i H x H'
  st : ∀ i H, S H → n ≤ i → J.stop i H
def IW (X : Cx) (tg iter : Expr) (σ : St) (H : Hp) (k : Nat → (Hp → Prop) → (Nat → Hp → V → Hp → Prop) → Hp → Prop) : Prop :=
  ∃ wi, PI X tg iter wi ∧ ∀ R : It → Hp → Prop, (∀ J H1 n S Y, Wlk J n S Y → k n S Y H1 → R J H1) → wi σ H R
section
variable {X : Cx} {tg iter : Expr} {σ : St} {H : Hp} {k : Nat → (Hp → Prop) → (Nat → Hp → V → Hp → Prop) → Hp → Prop} {D : Ends} {pos : Pos} {body : List Stmt} {Q : VK}
theorem lt_some {α : Type} {xs : List α} {i : Nat} (h : i < xs.length) : ∃ x, xs[i]? = some x := ⟨xs[i], List.getElem?_eq_getElem h⟩
theorem i_list (h : EW X iter σ H fun y H1 => ∃ a xs, y = .ref a ∧ SqL X.K H1 a xs ∧ k xs.length (fun H' => SqL X.K H' a xs) (fun i H' x H2 => H2 = H' ∧ xs[i]? = some x) H1) : IW X tg iter σ H k :=
  ⟨_, pi_list e_pe, fun R hR => EW.mono h fun y H1 ⟨a, xs, e, hs, q⟩ => ⟨a, e, ⟨xs, hs⟩, hR _ _ xs.length _ _ ⟨fun i H' s hi => by
    obtain ⟨x, hx⟩ := lt_some hi
    exact ⟨xs, x, s, hx⟩, fun i H' x H2 s hi y => ⟨y.1, y.2 xs s⟩, fun i H' s hi => ⟨xs, s, hi⟩⟩ q⟩⟩
theorem i_tup (h : EW X iter σ H fun y H1 => ∃ a xs, y = .ref a ∧ SqT X.K H1 a xs ∧ k xs.length (fun H' => SqT X.K H' a xs) (fun i H' x H2 => H2 = H' ∧ xs[i]? = some x) H1) : IW X tg iter σ H k :=
  ⟨_, pi_tup e_pe, fun R hR => EW.mono h fun y H1 ⟨a, xs, e, hs, q⟩ => ⟨a, e, ⟨xs, hs⟩, hR _ _ xs.length _ _ ⟨fun i H' s hi => by
    obtain ⟨x, hx⟩ := lt_some hi
    exact ⟨xs, x, s, hx⟩, fun i H' x H2 s hi y => ⟨y.1, y.2 xs s⟩, fun i H' s hi => ⟨xs, s, hi⟩⟩ q⟩⟩
theorem i_str (h : EW X iter σ H fun y H1 => ∃ z, y = .str z ∧ k z.cps.size (fun _ => True) (fun i H' x H2 => H2 = H' ∧ ∃ c, z.cps[i]? = some c ∧ x = .str ⟨#[c]⟩) H1) : IW X tg iter σ H k :=
  ⟨_, pi_str e_pe, fun R hR => EW.mono h fun y H1 ⟨z, e, q⟩ => ⟨z, e, hR _ _ z.cps.size _ _ ⟨fun i H' _ hi => hi, fun i H' x H2 _ hi y => y, fun i H' _ hi => hi⟩ q⟩⟩
theorem AW.mono {es : List Expr} {Q Q' : List V → Hp → Prop} (h : AW X es σ H Q) (k : ∀ v H', Q v H' → Q' v H') : AW X es σ H Q' := fun p pins s I => thn (h p pins s I) fun v s' ⟨y, H', I', r, q⟩ => ⟨y, H', I', r, k _ _ q⟩
theorem i_range1 {a : Expr} {p : Pos} (hm : X.mg "range" = none) (h : AW X [a] σ H fun vs H1 => ∃ j : Int, vs = [.int j] ∧ -(2 ^ 62) ≤ j ∧ j < 2 ^ 62 ∧ k j.toNat (fun _ => True) (fun i H' x H2 => H2 = H' ∧ x = .int i) H1)
    (hg : Gl X "range" := by rfl) (hs : starEach [a] X.env = [(false, eval a X.env)] := by rfl) : IW X tg (.Call (.Name "range" p) [a] [] pos) σ H k :=
  ⟨_, pi_range1 hg hm a_pe hs, fun R hR => AW.mono h fun vs H1 ⟨j, e, h1, h2, q⟩ => ⟨j, e, h1, h2, hR _ _ j.toNat _ _ ⟨fun i H' _ hi => hi, fun i H' x H2 _ hi y => ⟨y.1, by rw [y.2, Int.zero_add]⟩, fun i H' _ hi => hi⟩ q⟩⟩
theorem i_range2 {a b : Expr} {p : Pos} (hm : X.mg "range" = none) (h : AW X [a, b] σ H fun vs H1 => ∃ i j : Int, vs = [.int i, .int j] ∧ (-(2 ^ 62) ≤ i ∧ i < 2 ^ 62 ∧ -(2 ^ 62) ≤ j ∧ j < 2 ^ 62) ∧ k (j - i).toNat (fun _ => True) (fun n H' x H2 => H2 = H' ∧ x = .int (i + n)) H1)
    (hg : Gl X "range" := by rfl) (hs : starEach [a, b] X.env = [(false, eval a X.env), (false, eval b X.env)] := by rfl) (hs2 : starEach [b] X.env = [(false, eval b X.env)] := by rfl) : IW X tg (.Call (.Name "range" p) [a, b] [] pos) σ H k :=
  ⟨_, pi_range2 hg hm a_pe hs hs2, fun R hR => AW.mono h fun vs H1 ⟨i, j, e, h1, q⟩ => ⟨i, j, e, h1, hR _ _ (j - i).toNat _ _ ⟨fun i H' _ hi => hi, fun i H' x H2 _ hi y => y, fun i H' _ hi => hi⟩ q⟩⟩
theorem i_zip {a b : Expr} {p tp : Pos} {elts : List Expr} {kk : Nat} (hm : X.mg "zip" = none) (h : AW X [a, b] σ H fun vs H1 => ∃ l m xs ys, vs = [.ref l, .ref m] ∧ SqL X.K H1 l xs ∧ SqL X.K H1 m ys ∧
      k (min xs.length ys.length) (fun H' => SqL X.K H' l xs ∧ SqL X.K H' m ys) (fun i H' v H2 => ∃ T x y, v = .ref T ∧ H' T = none ∧ H2 = upd H' T (.tup [x, y]) ∧ xs[i]? = some x ∧ ys[i]? = some y) H1)
    (hg : Gl X "zip" := by rfl) (hs : starEach [a, b] X.env = (false, eval a X.env) :: starEach [b] X.env := by rfl) (hpl : (backTo pos (starEach [b] X.env)).any (·.1) = false := by rfl) : IW X (.Tuple elts kk tp) (.Call (.Name "zip" p) [a, b] [] pos) σ H k :=
  ⟨_, pi_zip hg hm a_pe hs hpl, fun R hR => AW.mono h fun vs H1 ⟨l, m, xs, ys, e, h1, h2, q⟩ => ⟨l, m, xs, ys, e, h1, h2, hR _ _ (min xs.length ys.length) _ _ ⟨fun i H' s hi => by
    obtain ⟨x, hx⟩ := lt_some (show i < xs.length by omega)
    obtain ⟨y, hy⟩ := lt_some (show i < ys.length by omega)
    exact ⟨xs, ys, x, y, s.1, s.2, hx, hy⟩, fun i H' x H2 s hi y => by
    obtain ⟨T, x, y, e, n, eH, f, g⟩ := y
    exact ⟨T, x, y, e, n, eH, f _ s.1, g _ s.2⟩, fun i H' s hi => ⟨xs, ys, s.1, s.2, by omega⟩⟩ q⟩⟩
theorem s_for (h : IW X tg iter σ H fun n S Y H1 => ∃ Pv : Nat → St → Hp → Prop, Pv 0 σ H1 ∧ (∀ i σ' H', i ≤ n → Pv i σ' H' → S H') ∧
      (∀ i σ' H' x H2, i < n → Pv i σ' H' → Y i H' x H2 → GW X tg x σ' H2 fun σ3 H3 => BW X body { D with nx := Pv (i + 1), ct := Pv (i + 1), bk := D.nx } σ3 H3) ∧ ∀ σ' H', Pv n σ' H' → D.nx σ' H')
    (hp : PassesOwn (model X.prog X.w) X.A X.env X.xe := by first | exact PassesOwn.never | exact passes_of rfl | assumption) (hc : X.calm = true := by rfl) (hs : ∀ x, foldedSetIterable iter X.env x = pure x := by intro _; rfl) : SW X (.For tg iter body [] pos) D σ H := by
  obtain ⟨wi, p, q⟩ := h
  refine s_of (ps_for hp hc p g_pe b_pe hs) (q _ fun J H1 n S Y w hk => ?_)
  obtain ⟨Pv, h0, hS, ht, hd⟩ := hk
  refine ⟨fun i m σ' H' => m = n - i ∧ i ≤ n ∧ Pv i σ' H', ⟨n, by simp, Nat.zero_le _, h0⟩, ?_⟩
  rintro i m σ' H' ⟨rfl, hi, pv⟩
  have s := hS i σ' H' hi pv
  by_cases hlt : i < n
  · refine .inr ⟨w.go i H' s hlt, Pv (i + 1), fun σ2 H2 p2 => ⟨n - (i + 1), by omega, rfl, hlt, p2⟩, fun x H2 y => ?_⟩
    exact ht i σ' H' x H2 hlt pv (w.yl i H' x H2 s hlt y)
  · have e : i = n := by omega
    subst e
    exact .inl ⟨w.st i H' s (Nat.le_refl _), hd σ' H' pv⟩
/-- the contexts of a comprehension's block -/
def IsBlk (X : Cx) (scope : Scope) (X' : Cx) : Prop := ∃ (s : Shared) (H : Hp) (C : Addr) (cl : List (Str × Addr)) (fp : List Addr), X' = X.blk s H scope (compEnvC scope cl C X.env) fp
/-- the tests of a clause: none or one -/
def IfsW (X : Cx) (ifs : List Expr) (σ : St) (H : Hp) (R : Bool → Hp → Prop) : Prop := match ifs with
  | [] => R true H
  | [c] => TW X c σ H R
  | _ => False
theorem ifs_pe {X : Cx} {ifs : List Expr} {t : TT} (h : ∀ σ H R, t σ H R → IfsW X ifs σ H R) : PTs X ifs t := ⟨fun pins s σ H Q I q => by
  have z := h σ H Q q
  match ifs, z with
  | [], z => exact (pts_nil (X := X)).run pins s σ H Q I z
  | [c], z => exact (pts_one (X := X) (c := c) t_pe).run pins s σ H Q I z⟩
/-- a list comprehension of one clause: what must hold -/
def LcW (X : Cx) (elt tg iter : Expr) (ifs : List Expr) (scope : Scope) (own : List (Str × Nat)) (σ : St) (H : Hp) (Q : VK) : Prop :=
  IW X tg iter σ H fun n S Y H1 => ∀ L, H1 L = none → ∃ Pv : Nat → Hp → Prop, Pv 0 (upd H1 L (.lst [])) ∧ (∀ i H', i ≤ n → Pv i H' → S H') ∧
      (∀ i H' x H2, i < n → Pv i H' → Y i H' x H2 → ∀ X', IsBlk X scope X' → GW X' tg x (wipe σ (own.map (·.2))) H2 fun σ3 H3 => wipe σ3 (own.map (·.2)) = wipe σ (own.map (·.2)) ∧
        ∀ X', IsBlk X scope X' → IfsW X' ifs σ3 H3 fun b H4 => if b = true then ∀ X', IsBlk X scope X' → EW X' elt σ3 H4 fun y H5 => ∃ acc, H5 L = some (.lst acc) ∧ acc.length < sizeLine ∧ Pv (i + 1) (upd H5 L (.lst (acc ++ [y]))) else Pv (i + 1) H4) ∧
      ∀ H', Pv n H' → Q (.ref L) H'
theorem lc_of {elt : Expr} {ifs : List Expr} {scope : Scope} {own : List (Str × Nat)} (h : LcW X elt tg iter ifs scope own σ H Q) :
    ∃ wi, PI X tg iter wi ∧ tLc wi (fun v σ H N => ∀ X', IsBlk X scope X' → GW X' tg v σ H N) (fun σ H R => ∀ X', IsBlk X scope X' → IfsW X' ifs σ H R) (fun σ H Q => ∀ X', IsBlk X scope X' → EW X' elt σ H Q) (own.map (·.2)) σ H Q := by
  obtain ⟨wi, p, q⟩ := h
  refine ⟨wi, p, q _ fun J H1 n S Y w hk L hL => ?_⟩
  obtain ⟨Pv, h0, hS, ht, hd⟩ := hk L hL
  refine ⟨fun i m H' => m = n - i ∧ i ≤ n ∧ Pv i H', ⟨n, by simp, Nat.zero_le _, h0⟩, ?_⟩
  rintro i m H' ⟨rfl, hi, pv⟩
  have s := hS i H' hi pv
  by_cases hlt : i < n
  · refine .inr ⟨w.go i H' s hlt, Pv (i + 1), fun H2 p2 => ⟨n - (i + 1), by omega, rfl, hlt, p2⟩, fun x H2 y => ?_⟩
    exact ht i H' x H2 hlt pv (w.yl i H' x H2 s hlt y)
  · have e : i = n := by omega
    subst e
    exact .inl ⟨w.st i H' s (Nat.le_refl _), hd H' pv⟩
theorem isblk (s : Shared) (H : Hp) (scope : Scope) (C : Addr) (cl : List (Str × Addr)) (fp : List Addr) : IsBlk X scope (X.blk s H scope (compEnvC scope cl C X.env) fp) := ⟨s, H, C, cl, fp, rfl⟩
theorem e_lc {elt : Expr} {ifs : List Expr} {scope : Scope} {own : List (Str × Nat)} (hN : X.N.Nodup) (ok : blkC X.N X.env.scope scope own = true) (h : LcW X elt tg iter ifs scope own σ H Q)
    (hc : X.calm = true := by rfl) (hs : ∀ x, foldedSetIterable iter X.env x = pure x := by intro _; rfl) : EW X (.ListComp elt [⟨tg, iter, ifs, 0⟩] scope pos) σ H Q := by
  obtain ⟨wi, p, q⟩ := lc_of h
  exact e_of (pe_lc (own := own) (g := fun v σ H N => ∀ X', IsBlk X scope X' → GW X' tg v σ H N) (tt := fun σ H R => ∀ X', IsBlk X scope X' → IfsW X' ifs σ H R) (te := fun σ H Q => ∀ X', IsBlk X scope X' → EW X' elt σ H Q)
    hc hN p (blkOk_by ok) (fun s H C cl fp => ⟨fun pins s' σ H v u Q I r z => z _ (isblk _ _ _ _ _ _) pins s' u I r⟩) (fun s H C cl fp => ifs_pe fun σ H R z => z _ (isblk _ _ _ _ _ _)) (fun s H C cl fp => ⟨fun pins s' σ H Q I z => z _ (isblk _ _ _ _ _ _) pins s' I⟩) hs) q
/-- y = [..] -/
theorem s_lc {elt : Expr} {ifs : List Expr} {scope : Scope} {own : List (Str × Nat)} {i : Nat} {y : Str} {py spos : Pos} {N : List Str} (hN : X.N.Nodup) (hX : X.N = N) (hi : At N i y) (ok : blkC X.N X.env.scope scope own = true)
    (h : LcW X elt tg iter ifs scope own σ H fun v H1 => D.nx (σ.set i (some v)) H1) (hyl : X.env.scope.names.lookup y = some .local := by rfl)
    (hsw : swapsWith (.ListComp elt [⟨tg, iter, ifs, 0⟩] scope pos) (some (.Name y py)) spos.line X.env = pure true := by exact sw_true rfl rfl rfl (by decide +kernel))
    (hc : X.calm = true := by rfl) (hs : ∀ x, foldedSetIterable iter X.env x = pure x := by intro _; rfl) : SW X (.Assign [.Name y py] (.ListComp elt [⟨tg, iter, ifs, 0⟩] scope pos) spos) D σ H := by
  obtain ⟨wi, p, q⟩ := lc_of h
  exact s_of (ps_setLc (i := i) (own := own) (g := fun v σ H N => ∀ X', IsBlk X scope X' → GW X' tg v σ H N) (tt := fun σ H R => ∀ X', IsBlk X scope X' → IfsW X' ifs σ H R) (te := fun σ H Q => ∀ X', IsBlk X scope X' → EW X' elt σ H Q)
    hc hN (by rw [hX]; exact hi) hyl hsw p (blkOk_by ok) (fun s H C cl fp => ⟨fun pins s' σ H v u Q I r z => z _ (isblk _ _ _ _ _ _) pins s' u I r⟩) (fun s H C cl fp => ifs_pe fun σ H R z => z _ (isblk _ _ _ _ _ _)) (fun s H C cl fp => ⟨fun pins s' σ H Q I z => z _ (isblk _ _ _ _ _ _) pins s' I⟩) hs) q
/-- a, b = c, d -/
theorem s_par {i j : Nat} {x y : Str} {a b : Expr} {px py pt : Pos} {kt k2 pt2} {N : List Str} (hN : X.N.Nodup) (hX : X.N = N) (hi : At N i x) (hj : At N j y) (hij : i ≠ j) (h : AW X [a, b] σ H fun vs H1 => ∃ v w, vs = [v, w] ∧ D.nx ((σ.set i (some v)).set j (some w)) H1)
    (hx : X.env.scope.names.lookup x = some .local := by rfl) (hy : X.env.scope.names.lookup y = some .local := by rfl) (hw : swappedStores [.Tuple [.Name x px, .Name y py] kt pt] (.Tuple [a, b] k2 pt2) X.env = pure (some [x, y]) := by rfl)
    (hs : swapsWithSole [.Tuple [.Name x px, .Name y py] kt pt] (.Tuple [a, b] k2 pt2) pos.line X.env = pure false := by rfl) (hc : X.calm = true := by rfl) : SW X (.Assign [.Tuple [.Name x px, .Name y py] kt pt] (.Tuple [a, b] k2 pt2) pos) D σ H :=
  s_of (ps_par (i := i) (j := j) hc hN (by rw [hX]; exact hi) (by rw [hX]; exact hj) hij hx hy a_pe hw hs) h
/-- the ends, from stronger ones -/
structure EndsLe (D D' : Ends) : Prop where
  nx : ∀ σ H, D.nx σ H → D'.nx σ H
  rt : ∀ v H, D.rt v H → D'.rt v H
  bk : ∀ σ H, D.bk σ H → D'.bk σ H
  ct : ∀ σ H, D.ct σ H → D'.ct σ H
theorem sp_mono {X : Cx} {pins : List (Addr × Obj)} {D D' : Ends} (k : EndsLe D D') {fl : Flow} {s : Shared} (h : SP X pins D fl s) : SP X pins D' fl s := by
  cases fl with
  | next => exact let ⟨σ', H', I, q⟩ := h; ⟨σ', H', I, k.nx _ _ q⟩
  | brk => exact let ⟨σ', H', I, q⟩ := h; ⟨σ', H', I, k.bk _ _ q⟩
  | cont => exact let ⟨σ', H', I, q⟩ := h; ⟨σ', H', I, k.ct _ _ q⟩
  | ret u => exact let ⟨v, σ', H', I, r, q⟩ := h; ⟨v, σ', H', I, r, k.rt _ _ q⟩
theorem SW.mono {st : Stmt} {D' : Ends} (h : SW X st D σ H) (k : EndsLe D D') : SW X st D' σ H := fun pins s I => thn (h pins s I) fun _ _ q => sp_mono k q
theorem BW.mono {st : List Stmt} {D' : Ends} (h : BW X st D σ H) (k : EndsLe D D') : BW X st D' σ H := fun pins s I => thn (h pins s I) fun _ _ q => sp_mono k q
theorem nx_le {R : St → Hp → Prop} (k : ∀ σ H, R σ H → D.nx σ H) : EndsLe { D with nx := R } D := ⟨k, fun _ _ q => q, fun _ _ q => q, fun _ _ q => q⟩
/-- if, whose ways meet in R -/
theorem s_ifJ {c : Expr} {A B : List Stmt} (R : St → Hp → Prop) (h : TW X c σ H fun k H1 => if k = true then BW X A { D with nx := R } σ H1 else BW X B { D with nx := R } σ H1) (k : ∀ σ' H', R σ' H' → D.nx σ' H') : SW X (.If c A B pos) D σ H :=
  SW.mono (s_if h) (nx_le k)
/-- a statement that ends in R -/
theorem s_cut {st : Stmt} (R : St → Hp → Prop) (h : SW X st { D with nx := R } σ H) (k : ∀ σ' H', R σ' H' → D.nx σ' H') : SW X st D σ H := SW.mono h (nx_le k)
end
end L2.Z

set_option maxHeartbeats 4000000
namespace L2.Z
open PySem PySem.Spec PyProof.Rows PySem.ZX
/-- an exception object at a, of the class at C, its dict at d -/
def exT (a C d : Addr) : HO := .ext fun h => ∃ (o : Obj) (vs : Array Value), h.get? a = some o ∧ o.cls = .ref C ∧ o.dict = some d ∧ o.data = .fields vs
theorem exT_ok {P : Program} {w : World} {H : Hp} {h : Heap} {a C d : Addr} {o : Obj} {vs : Array Value} (e : h.get? a = some o) (e1 : o.cls = .ref C) (e2 : o.dict = some d) (e3 : o.data = .fields vs) : ObjOk P w H h a (exT a C d) :=
  ⟨⟨o, vs, e, e1, e2, e3⟩, ⟨o, e⟩, fun h1 h2 z k => by
    obtain ⟨o, vs, q1, q2, q3, q4⟩ := z
    exact ⟨o, vs, k _ q1, q2, q3, q4⟩⟩
theorem exT_at {P : Program} {w : World} {H : Hp} {h : Heap} {a C d : Addr} (hok : HOk P w H h) (e : H a = some (exT a C d)) : ∃ (o : Obj) (vs : Array Value), h.get? a = some o ∧ o.cls = .ref C ∧ o.dict = some d ∧ o.data = .fields vs := by
  have x : ObjOk P w H h a (.ext fun h => ∃ (o : Obj) (vs : Array Value), h.get? a = some o ∧ o.cls = .ref C ∧ o.dict = some d ∧ o.data = .fields vs) := hok a _ e
  exact x.1
/-- an exception object without a dict of its own -/
def exN (a C : Addr) : HO := .ext fun h => ∃ (o : Obj) (vs : Array Value), h.get? a = some o ∧ o.cls = .ref C ∧ o.dict = none ∧ o.data = .fields vs
theorem exN_ok {P : Program} {w : World} {H : Hp} {h : Heap} {a C : Addr} {o : Obj} {vs : Array Value} (e : h.get? a = some o) (e1 : o.cls = .ref C) (e2 : o.dict = none) (e3 : o.data = .fields vs) : ObjOk P w H h a (exN a C) :=
  ⟨⟨o, vs, e, e1, e2, e3⟩, ⟨o, e⟩, fun h1 h2 ⟨o, vs, q1, q2⟩ k => ⟨o, vs, k _ q1, q2⟩⟩
theorem exN_at {P : Program} {w : World} {H : Hp} {h : Heap} {a C : Addr} (hok : HOk P w H h) (e : H a = some (exN a C)) : ∃ (o : Obj) (vs : Array Value), h.get? a = some o ∧ o.cls = .ref C ∧ o.dict = none ∧ o.data = .fields vs := by
  have x : ObjOk P w H h a (.ext fun h => ∃ (o : Obj) (vs : Array Value), h.get? a = some o ∧ o.cls = .ref C ∧ o.dict = none ∧ o.data = .fields vs) := hok a _ e
  exact x.1
theorem xd_at {P : Program} {w : World} {H : Hp} {h : Heap} {d : Addr} {fs : List (Str × V)} (hok : HOk P w H h) (e : H d = some (.xd fs)) : ∃ mA, h.Ns1 d mA ∧ ∀ f, RelO (fs.lookup f) (mA f) := hok d _ e
/-- two new objects laid and tracked -/
theorem laid2 {X : Cx} {pins : List (Addr × Obj)} {σ : St} {H : Hp} {s : Shared} {h' : Heap} {t' : Nat} {a d : Addr} {oa od : HO} (I : Inv X pins σ H s) (k : ∀ b u, s.heap.get? b = some u → h'.get? b = some u)
    (ga : s.heap.get? a = none) (gd : s.heap.get? d = none) (na : H a = none) (nd : H d = none)
    (n1 : ObjOk X.prog X.w (upd (upd H d od) a oa) h' a oa) (n2 : d ≠ a → ObjOk X.prog X.w (upd (upd H d od) a oa) h' d od) : Inv X pins σ (upd (upd H d od) a oa) { s with heap := h', toks := t' } := by
  have ne : ∀ {b : Addr} {o : Obj}, s.heap.get? b = some o → b ≠ a ∧ b ≠ d := fun {b o} q => ⟨fun z => (by rw [z, ga] at q; cases q), fun z => (by rw [z, gd] at q; cases q)⟩
  have nh : ∀ {b : Addr} {u : HO}, H b = some u → b ≠ a ∧ b ≠ d := fun {b u} q => ⟨fun z => (by rw [z, na] at q; cases q), fun z => (by rw [z, nd] at q; cases q)⟩
  refine I.un (t' := t') (H' := upd (upd H d od) a oa) (h' := h') ⟨fun b o q _ _ _ => k b o q, fun b o q _ _ _ => ⟨o.slots, k b o q⟩, fun b o q n _ => by rw [upd_ne (ne q).1, upd_ne (ne q).2]; exact n, fun b o q _ => ⟨o, k b o q⟩, fun b xs q => by rw [upd_ne (nh q).1, upd_ne (nh q).2]; exact q,
    fun b o u q => by rw [upd_ne (nh q).1, upd_ne (nh q).2]; exact q, fun b ps q => ⟨#[], by rw [upd_ne (nh q).1, upd_ne (nh q).2, q]; simp⟩⟩ fun b u q => ?_
  by_cases hb : b = a
  · subst hb
    rw [upd_same] at q
    cases q
    exact n1
  · rw [upd_ne hb] at q
    by_cases hd : b = d
    · subst hd
      rw [upd_same] at q
      cases q
      exact n2 hb
    · rw [upd_ne hd] at q
      exact (I.hok b u q).stay (fun c v _ z => k c v z) (fun c z => by rw [upd_ne (nh z).1, upd_ne (nh z).2]; exact z) fun c xs z => by rw [upd_ne (nh z).1, upd_ne (nh z).2]; exact z
/-- what is known of an exception class, to make, read and ask its instances -/
structure ExK (P : Program) (K : PySem.W.Frag) (mg : Str → Option Value) (nm fld qual : Str) (C fI : Addr) : Prop where
  g : mg nm = some (.ref C)
  t : ExT P K fld qual C fI
  iC : PySem.W.findIn K (.ref C) "__init__" = some (some (.ref fI))
  tI : PySem.W.typeIn K (.ref fI) = some (.type "function")
  dfl : ∀ o fd, K.lookup fI = some o → o.data = .func fd → ∃ (T : Addr) (oT : Obj) (n : Nat), fd.defaults = .ref T ∧ K.lookup T = some oT ∧ oT.data = .seq #[.none] n
  kC : PySem.W.keepIn K (.ref C) = true
  ex : ExcC K C
  tyC : PySem.W.typeIn K (.ref C) = some (.type "type")
theorem ve_has {bm : List Value} (hbm : PySem.HandSPX.refsVE bm = true) (X : String) : bm.contains (.type X) = PySem.HandSPX.veTail.contains (.type X) := PySem.HandSPX.refsVE_contains X bm hbm
section
variable {X : Cx} {pins : List (Addr × Obj)} {σ : St} {H : Hp} {s : Shared} {nm fld qual : Str} {C fI : Addr} {k : Nat}
/-- C(..): a new exception object, its dict -/
theorem exc_call {us : List Value} {kw : List (Str × Value)} {v : V} {u : Value} {Q : Value → Shared → Prop} {E : Value → Shared → Prop} (T : ExK X.prog X.K X.mg nm fld qual C fI) (hr : Room k X.A) (I : Inv X pins σ H s) (rv : RelV v u)
    (ha : (us = [u] ∧ kw = []) ∨ (us = [] ∧ kw = [] ∧ u = .none) ∨ (us = [] ∧ kw = [(fld, u)]))
    (h : ∀ a d s', H a = none → H d = none → d ≠ a → s.heap.get? a = none → (∀ b o, s.heap.get? b = some o → s'.heap.get? b = some o) →
      (∃ o vs, s'.heap.get? a = some o ∧ o.cls = .ref C ∧ o.dict = some d ∧ o.data = .fields vs ∧ vs[1]? = some .none) → s'.os = s.os → s'.gens = s.gens →
      (∃ mA, s'.heap.Ns1 d mA ∧ ∀ f, RelO (List.lookup f [(fld, v)]) (mA f)) → s.heap.get? d = none → Inv X pins σ (upd (upd H d (.xd [(fld, v)])) a (exT a C d)) s' → Q (.ref a) s') :
    wpAny (model X.prog X.w) X.A (call (.ref C) us kw) Q E s := by
  obtain ⟨nmc, q, N, bs, bm, sn, sub, ab, col, dd, k0, k1, k2, k3, k5, hC, hbm⟩ := T.t.cls
  obtain ⟨mb, hb1, hb2⟩ := I.mod.blt
  have hlim := I.nolimit
  have hgl := I.mod.glob.keeps I.bk
  have hbl := hb1.keeps I.bk
  have X0 := I.kIn
  obtain ⟨hp, g, dr, tk, os⟩ := s
  have hl : us.length ≤ sizeLine := by
    rw [sizeLine_eq]
    rcases ha with ⟨rfl, _⟩ | ⟨rfl, _⟩ | ⟨rfl, _⟩ <;> simp
  have hkw : kw = [] ∨ ∃ f u, kw = [(f, u)] := by
    rcases ha with ⟨_, rfl⟩ | ⟨_, rfl, _⟩ | ⟨_, rfl⟩
    · exact .inl rfl
    · exact .inl rfl
    · exact .inr ⟨_, _, rfl⟩
  have kk : ∀ b o, hp.get? b = some o → ((hp.push (PySem.W.kdv_tup us)).push (PySem.HandSPX.excO C hp.objs.size)).get? b = some o := fun b o e => Heap.get?_push_of_some _ (Heap.get?_push_of_some _ e)
  have hget : ((hp.push (PySem.W.kdv_tup us)).push (PySem.HandSPX.excO C hp.objs.size)).get? (hp.objs.size + 1) = some (PySem.HandSPX.excO C hp.objs.size) := by heap_get
  have ga : hp.get? (hp.objs.size + 1) = none := Heap.get?_none_of_le (Nat.le_succ _)
  have na : H (hp.objs.size + 1) = none := I.hok.fresh (Nat.le_succ _)
  have hnx : X.K.lookup (hp.objs.size + 1) = none := by
    cases e : X.K.lookup (hp.objs.size + 1) with
    | none => rfl
    | some o =>
      have z : hp.get? (hp.objs.size + 1) = some o := X0 _ _ e
      rw [ga] at z
      cases z
  have hxC : hp.objs.size + 1 ≠ C := fun z => by
    have y := X0 _ _ hC
    rw [← z] at y
    have y' : hp.get? (hp.objs.size + 1) = _ := y
    rw [ga] at y'
    cases y'
  refine wpAny_call (callK (ve_has hbm) hkw (X0 _ _ hC) (PySem.W.looks_findIn X0 T.iC) (fun self => PySem.W.bind_fn X0 self T.tI) hl ?_)
  refine init_ok (s := ⟨(hp.push (PySem.W.kdv_tup us)).push (PySem.HandSPX.excO C hp.objs.size), g, dr, tk, os⟩) (v := u) T.t (X0.keeps kk) (hlim.keeps kk) (hgl.keeps kk) (hbl.keeps kk) hb2 hget hxC hnx ?_ ?_ ?_
  · have mk := make_depth (A := X.A) (C := C) (us := us) (kw := kw); rw [mk]
    have := hr.dp
    omega
  · intro fd hfd
    obtain ⟨o, lo, od⟩ := hfd
    obtain ⟨oc, odd, dV, kV, doc, pm, an, cda, ct, cc, osl, p1, p2, p3, q1, q2, q3, q4, q5, q6, q7, q8, q9, q10, cl, ccl, cld, cdd, csl, ccs, vs, file, tf, ho, _⟩ := T.t.fn
    rw [ho] at lo
    cases lo
    cases od
    obtain ⟨Td, oT, n, e1, lT, oTd⟩ := T.dfl _ _ ho rfl
    obtain rfl : dV = .ref Td := e1
    refine BindsTo.of_looks fun M => ?_
    rcases ha with ⟨rfl, rfl⟩ | ⟨rfl, rfl, rfl⟩ | ⟨rfl, rfl⟩
    · obtain ⟨k, e1, e2⟩ := bind2 (qual := qual) (kV := kV) (doc := doc) (pm := pm) (an := an) (cdv := .ref cda) (ct := ct) (cc := cc) (T := Td) (p1 := p1) (p2 := p2) (p3 := p3) (body := xB fld q1 q2 q3 q4 q5 q6 q7 q8 q9 q10) T.t.fl (.ref (hp.objs.size + 1)) u .none
      rw [e1]
      exact looks_items (X0.keeps kk) lT oTd (.of_pure e2)
    · obtain ⟨k, e1, e2⟩ := bind1 (qual := qual) (kV := kV) (doc := doc) (pm := pm) (an := an) (cdv := .ref cda) (ct := ct) (cc := cc) (T := Td) (p1 := p1) (p2 := p2) (p3 := p3) (body := xB fld q1 q2 q3 q4 q5 q6 q7 q8 q9 q10) T.t.fl (.ref (hp.objs.size + 1)) .none
      rw [e1]
      exact looks_items (X0.keeps kk) lT oTd (.of_pure e2)
    · obtain ⟨k, e1, e2⟩ := bindk (qual := qual) (kV := kV) (doc := doc) (pm := pm) (an := an) (cdv := .ref cda) (ct := ct) (cc := cc) (T := Td) (p1 := p1) (p2 := p2) (p3 := p3) (body := xB fld q1 q2 q3 q4 q5 q6 q7 q8 q9 q10) T.t.fl (.ref (hp.objs.size + 1)) u .none
      rw [e1]
      exact looks_items (X0.keeps kk) lT oTd (.of_pure e2)
  · intro h' tk' dx t1 Z
    have old : ∀ b o, hp.get? b = some o → h'.get? b = some o := fun b o e => Z.keep b o (fun z => by rw [z, ga] at e; cases e) (kk b o e)
    have dz : hp.objs.size + 1 + 1 ≤ dx := by
      have q := Z.dbig
      rw [Heap.size_push, Heap.size_push] at q
      exact q
    have gd : hp.get? dx = none := Heap.get?_none_of_le (Nat.le_trans (Nat.le_succ _) (Nat.le_trans (Nat.le_succ _) dz))
    have nd : H dx = none := I.hok.fresh (Nat.le_trans (Nat.le_succ _) (Nat.le_trans (Nat.le_succ _) dz))
    have rel : ∀ f, RelO (List.lookup f [(fld, v)]) (if f = fld then some u else none) := fun f => by
      by_cases e : f = fld
      · subst e
        rw [if_pos rfl]
        have q : List.lookup f [(f, v)] = some v := by simp [List.lookup]
        rw [q]
        exact rv
      · rw [if_neg e]
        have qe : (f == fld) = false := by simpa using e
        have q : List.lookup f [(fld, v)] = none := by simp [List.lookup, qe]
        rw [q]
        trivial
    have hd : ∃ mA, h'.Ns1 dx mA ∧ ∀ f, RelO (List.lookup f [(fld, v)]) (mA f) := ⟨_, Z.ns, rel⟩
    refine ⟨rfl, ?_⟩
    exact h (hp.objs.size + 1) dx ⟨h', g, dr, tk', os⟩ na nd Z.dne ga old ⟨_, _, Z.obj, rfl, rfl, rfl, rfl⟩ rfl rfl hd gd
      (laid2 (t' := tk') I old ga gd na nd (exT_ok Z.obj rfl rfl rfl) (fun _ => hd))
end
end L2.Z

set_option maxHeartbeats 4000000
namespace L2.Z
open PySem PySem.Spec PyProof.Rows PySem.ZX
section
variable {X : Cx} {σ : St} {H : Hp} {Q : VK} {nm fld qual : Str} {C fI : Addr} {k : Nat} {e : Expr} {p pos : Pos}
/-- a new exception of the class at C, its field v -/
def NewEx (C : Addr) (fld : Str) (v : V) (H : Hp) (Q : VK) : Prop := ∀ a d, H a = none → H d = none → d ≠ a → Q (.ref a) (upd (upd H d (.xd [(fld, v)])) a (exT a C d))
theorem e_ex1 (T : ExK X.prog X.K X.mg nm fld qual C fI) (hr : Room k X.A) (h : EW X e σ H fun v H1 => NewEx C fld v H1 Q) (hg : Gl X nm := by rfl) (hdb : (nm == ("__debug__" : Str)) = false := by decide)
    (he : starEach [e] X.env = (false, eval e X.env) :: starEach [] X.env := by rfl) (hpl : (backTo pos (starEach [] X.env)).any (·.1) = false := by rfl) : EW X (.Call (.Name nm p) [e] [] pos) σ H Q := by
  intro pins s I
  refine wpAny_Call_Name_kw (ld_glob I hg T.g ?_ hdb)
  refine PySem.W.callWith_K (h₀ := X.base) I.ok.mod.kin T.kC ?_ he hpl
  rw [he]
  show wpAny _ _ (spliced ((false, eval e X.env) :: backTo pos (starEach [] X.env))) _ _ s
  refine Calls.spliced_cons (thn (h pins s I) fun u s1 ⟨v, H1, I1, r1, q1⟩ => ?_)
  refine Calls.spliced_nil ⟨I1.kIn, ?_⟩
  exact exc_call T hr I1 r1 (.inl ⟨rfl, rfl⟩) fun a d s' na nd ne _ _ _ _ _ _ _ J => ⟨.ref a, _, J, rfl, q1 a d na nd ne⟩
theorem e_ex0 (T : ExK X.prog X.K X.mg nm fld qual C fI) (hr : Room k X.A) (h : NewEx C fld .non H Q) (hg : Gl X nm := by rfl) (hdb : (nm == ("__debug__" : Str)) = false := by decide) : EW X (.Call (.Name nm p) [] [] pos) σ H Q := by
  intro pins s I
  refine wpAny_Call_Name_kw (ld_glob I hg T.g ?_ hdb)
  refine PySem.W.callWith_K0 I.kIn T.kC ?_
  exact exc_call (v := .non) (u := .none) T hr I rfl (.inr (.inl ⟨rfl, rfl, rfl⟩)) fun a d s' na nd ne _ _ _ _ _ _ _ J => ⟨.ref a, _, J, rfl, h a d na nd ne⟩
theorem e_exk {kp : Pos} (T : ExK X.prog X.K X.mg nm fld qual C fI) (hr : Room k X.A) (h : EW X e σ H fun v H1 => NewEx C fld v H1 Q) (hg : Gl X nm := by rfl) (hdb : (nm == ("__debug__" : Str)) = false := by decide)
    (hall : (backToKw pos (keywordEach [⟨some fld, e, kp⟩] X.env)).all (·.1.isSome) = true := by rfl) (hks : (backToKw pos (keywordEach [⟨some fld, e, kp⟩] X.env)).filterMap (·.1) = [fld] := by rfl)
    (hpl : ((backTo pos (starEach [] X.env)).any (·.1) || (backToKw pos (keywordEach [⟨some fld, e, kp⟩] X.env)).any (·.1.isNone)) = false := by rfl) : EW X (.Call (.Name nm p) [] [⟨some fld, e, kp⟩] pos) σ H Q := by
  intro pins s I
  refine wpAny_Call_Name_kw (ld_glob I hg T.g ?_ hdb)
  refine PySem.W.callWith_KW0 (h₀ := X.base) I.ok.mod.kin T.kC hall ?_ hpl
  refine thn ((k_cons (X := X) (nm := some fld) (kp := kp) (Q := fun vs H1 => ∃ v, vs = [v] ∧ NewEx C fld v H1 Q) (EW.mono h fun v H1 q => k_nil ⟨v, rfl, q⟩)) pos pins s I) fun us s1 ⟨vs, H1, I1, r1, q1⟩ => ⟨I1.kIn, ?_⟩
  obtain ⟨v, rfl, q1⟩ := q1
  obtain ⟨u, rfl, rv⟩ := vals1 r1
  rw [hks]
  exact exc_call T hr I1 rv (.inr (.inr ⟨rfl, rfl⟩)) fun a d s' na nd ne _ _ _ _ _ _ _ J => ⟨.ref a, _, J, rfl, q1 a d na nd ne⟩
/-- C(), a class without an __init__ of its own -/
theorem e_exN (he : PySem.W.excIn X.K C He.veBase "ValueError.__new__" = true) (gm : X.mg nm = some (.ref C)) (kC : PySem.W.keepIn X.K (.ref C) = true) (h : ∀ a, H a = none → Q (.ref a) (upd H a (exN a C))) (hg : Gl X nm := by rfl) (hdb : (nm == ("__debug__" : Str)) = false := by decide) : EW X (.Call (.Name nm p) [] [] pos) σ H Q := by
  intro pins s I
  refine wpAny_Call_Name_kw (ld_glob I hg gm ?_ hdb)
  refine PySem.W.callWith_K0 I.kIn kC ?_
  obtain ⟨bm, N, nmc, qn, bs, hdct, sn, sub, ab, col, dd, k0, k1, k2, k3, k5, mN, hC, hN, hni, T⟩ := exc_obj I.kIn he
  obtain ⟨hp, g, dr, tk, os⟩ := s
  refine wpAny_call_exc_subT PySem.F.excBase_ValueError T hC hN hni (fun h' e hm => ?_) (by show 0 ≤ sizeLine; omega)
  obtain ⟨t, o1, _, _⟩ := hm.there
  exact ⟨.ref e, _, I.laidN (t' := tk) hm.keeps hm.new (I.hok.gone hm.new) (exN_ok o1 rfl rfl rfl), rfl, h e (I.hok.gone hm.new)⟩
/-- raise C(e) -/
theorem s_raise1 {D : Ends} {W : WX} {rp : Pos} (T : ExK X.prog X.K X.mg nm fld qual C fI) (hr : Room k X.A) (tk : Takes X W) (h : EW X e σ H fun v H1 => ∀ d, H1 d = none → W (.ref C) (some d) σ (upd H1 d (.xd [(fld, v)]))) (hc : X.calm = true := by rfl) (hg : Gl X nm := by rfl) (hdb : (nm == ("__debug__" : Str)) = false := by decide)
    (he : starEach [e] X.env = (false, eval e X.env) :: starEach [] X.env := by rfl) (hpl : (backTo pos (starEach [] X.env)).any (·.1) = false := by rfl) : SW X (.Raise (some (.Call (.Name nm p) [e] [] pos)) none rp) D σ H := by
  have mk : PMk X (.Call (.Name nm p) [e] [] pos) (fun σ H E => EW X e σ H fun v H1 => ∀ d, H1 d = none → E (.ref C) (some d) (upd H1 d (.xd [(fld, v)]))) := by
    intro pins s σ H E I h
    refine wpAny_Call_Name_kw (ld_glob I hg T.g ?_ hdb)
    refine PySem.W.callWith_K (h₀ := X.base) I.ok.mod.kin T.kC ?_ he hpl
    rw [he]
    show wpAny _ _ (spliced ((false, eval e X.env) :: backTo pos (starEach [] X.env))) _ _ s
    refine Calls.spliced_cons (thn (h pins s I) fun u s1 ⟨v, H1, I1, r1, q1⟩ => ?_)
    refine Calls.spliced_nil ⟨I1.kIn, ?_⟩
    refine exc_call T hr I1 r1 (.inl ⟨rfl, rfl⟩) fun a d s' na nd ne ga kk ho hos hgn hd gd J => ?_
    obtain ⟨o, vs, o1, o2, o3, o4, o5⟩ := ho
    obtain ⟨G, g1, g2⟩ := restrict s'.heap fun b => decide (b ≠ a)
    have gk : ∀ b, b ≠ a → G.get? b = s'.heap.get? b := fun b hb => g1 b (decide_eq_true hb)
    have gn : G.get? a = none := g2 a (by simp)
    have ks : ∀ b o, s1.heap.get? b = some o → G.get? b = some o := fun b o z => by
      rw [gk b (fun y => by rw [y, ga] at z; cases z)]
      exact kk b o z
    obtain ⟨mA, hns, rel⟩ := hd
    have hns2 : G.Ns1 d mA := hns.at fun o y => (gk d ne).trans y
    have I2 : Inv X pins σ (upd H1 d (.xd [(fld, v)])) { s1 with heap := G } := I1.laidN (t' := s1.toks) ks gd nd ⟨mA, hns2, rel⟩
    refine ⟨a, o, vs, { s1 with heap := G }, _, .ref C, some d, rfl, I2, fun b o z => ?_, gn, o1, ⟨o2, o3⟩, o4, o5, ?_, hos, by rw [hgn]; exact I1.bare, raises_own T.ex.hs T.tyC, q1 d nd⟩
    · by_cases hb : b = a
      · rw [hb, gn] at z
        cases z
      · exact (gk b hb).symm.trans z
    · rw [upd_ne (Ne.symm ne)]
      exact na
  exact s_of (ps_raise hc tk mk) h
end
end L2.Z

set_option maxHeartbeats 4000000
namespace PySem.ZX
open PySem PySem.W PySem.Spec PySem.Calls PyProof.Rows
section
variable {prog : Program} {w : World} {A : Around} {E : Value → Shared → Prop} {s : Shared} {K : Frag} {x D : Addr} {ox : Obj} {od : Option Obj}
theorem find_data {C : Addr} {name : Str} {a g : Value} (hc : (clsIn K C).isSome = true) (ha : findIn K (.ref C) name = some (some a)) (hg : specialIn K a "__get__" = some (some g)) (ht : takesIn K a = some true) : findObj K C od name = some (.bind g a) := by
  obtain ⟨cd, hc⟩ := Option.isSome_iff_exists.mp hc
  unfold findObj
  rw [hc, Option.bind_some, ha, Option.bind_some]
  simp [hg, ht]
theorem cls_ofX {Q : Option Value → Shared → Prop} (T : L2.ExcC K D)
    (X : K.In s.heap) (I : InstAt s.heap x ox D od) (h : Q (some (.ref D)) { s with toks := s.toks + 1 }) : wpAny (model prog w) A (getAttr? (.ref x) "__class__") Q E s := by
  have hf : findObj K D od "__class__" = some (.bind (.builtin "getset_descriptor.__get__") (.builtin "object.__class__")) := find_data (by obtain ⟨cd, hc, _⟩ := any_some T.hd; rw [hc]; rfl) T.ha T.hn T.ht
  obtain ⟨hp, g, d, t, os⟩ := s
  have L0 := I.type (M := model prog w)
  have L1 := looks_findIn (M := model prog w) X T.hg
  have L2 := looks_findIn (M := model prog w) X T.hk
  have L3 := looks_find (M := model prog w) X I hf
  have sub : Looks (model prog w) hp (isInstance (.ref x) (.type "BaseException")) true := L0.andThen (looks_subIn X T.hs)
  have hx0 : (false && onTheHeap (Value.builtin "BaseException.__getattribute__")) = false := rfl
  have hx2 : (Value.builtin "BaseException.__getattribute__" == Value.builtin "object.__getattribute__") = false := by decide +kernel
  have hx1 : (onTheHeap (Value.ref D) && Value.builtin "BaseException.__getattribute__" == Value.builtin "object.__getattribute__") = false := by rw [hx2]; rfl
  unfold getAttr? getAttrBy? getAttrBy
  refine wpAny_bind (wpAny_mkText (wpAny_bind (wpAny_attempt (wpAny_holding (wpAny_bind (L0.at (wpAny_bind (L1.at ?_))))))))
  show wpAny _ _ (if (onTheHeap (Value.ref D) && Value.builtin "BaseException.__getattribute__" == Value.builtin "object.__getattribute__") = true then _ else _) _ _ _
  rw [hx1, if_neg Bool.false_ne_true]
  unfold getAttrByItsOwn hookBefore
  refine wpAny_bind ?_
  rw [if_pos (show onTheHeap (Value.ref D) = true from rfl)]
  refine L2.at ?_
  refine wpAny_bind (wpAny_attempt (wpAny_holding ?_))
  unfold callGetattribute
  rw [hx0, if_neg Bool.false_ne_true]
  unfold boundAndCalled
  rw [PySem.F.excAttr_ValueError.ga.bind (.ref x)]
  refine wpAny_bind (wpAny_pure ?_)
  show wpAny _ _ (call (.builtin "BaseException.__getattribute__") [.ref x, .str "__class__" t]) _ _ _
  refine wpAny_call (codeAny_call_builtin PySem.F.excAttr_ValueError.ga.plain PySem.F.entry_bexc_ga ?_)
  refine @check_slot (model prog w) _ _ ⟨hp, g, d, t + 1, os⟩ "BaseException.__getattribute__" "BaseException" "__getattribute__" (.ref x) [.str "__class__" t] [] _ (by decide +kernel) (by decide +kernel) sub (PySem.F.args_bexc_ga (.ref x) (.str "__class__" t)) ?_
  unfold Builtin.«object.__getattribute__»
  refine wpAny_bind (wpAny_of_eq (a := ((Value.ref x : Value), [Value.str "__class__" t])) (by first | rfl | (simp only [slotArgs]; rfl)) ?_)
  refine wpAny_bind (wpAny_pure (wpAny_bind (L0.at (wpAny_bind (L3.at ?_)))))
  show wpAny _ _ (holding [Value.builtin "object.__class__"] (call (.builtin "getset_descriptor.__get__") [.builtin "object.__class__", .ref x, .ref D]) >>= ret) _ _ _
  refine wpAny_bind (wpAny_holding (wpAny_call (class_get (s := ⟨hp, g, d, t + 1, os⟩) (ox := ox) (od := od) X I T.hm ?_)))
  refine wpAny_pure ?_
  show wpAny _ _ (handedOut (.ref D)) _ _ _
  rw [handedOut_of (v := .ref D) rfl]
  first
    | exact wpAny_pure (wpAny_pure h)
    | exact wpAny_pure h
    | exact wpAny_pure (wpAny_bind (wpAny_pure (wpAny_pure h)))
theorem kitX (T : L2.ExcC K D) : KitX K (.ref x) (.ref D) (fun h => ∃ ox od, InstAt h x ox D od) where
  ty := fun _ _ _ ⟨_, _, I⟩ => I.type
  it := fun _ _ X _ => by
    obtain ⟨cdD, hcD, _⟩ := any_some T.hd
    unfold clsIn at hcD
    split at hcD
    · rename_i c' d' cd' sl' ho
      intro A' Q' E' s' k q
      unfold isType loadHead
      exact wpAny_bind (wpAny_loadPart (k _ _ (X _ _ ho)) (wpAny_pure q))
    · cases hcD
  ne := fun h tp dd its n sl X htp => by
    obtain ⟨cdD, hcD, _⟩ := any_some T.hd
    refine Bool.eq_false_iff.mpr fun q => ?_
    have e : D = tp := Value.ref.inj (beq_iff_eq.mp q)
    subst e
    unfold clsIn at hcD
    split at hcD
    · rename_i c' d' cd' sl' ho
      have z := (X _ _ ho).symm.trans htp
      cases z
    · cases hcD
  ca := fun X ⟨_, _, I⟩ k => cls_ofX T X I k
end
end PySem.ZX
namespace L2.Z
open PySem PySem.Spec PyProof.Rows PySem.ZX
theorem exT_inst {X : Cx} {pins : List (Addr × Obj)} {σ : St} {H : Hp} {s : Shared} {a C d : Addr} {fs : List (Str × V)} (I : Inv X pins σ H s) (e : H a = some (exT a C d)) (e2 : H d = some (.xd fs)) :
    ∃ ox od, PySem.W.InstAt s.heap a ox C (some od) ∧ s.heap.get? d = some od ∧ ox.dict = some d := by
  obtain ⟨o, vs, o1, o2, o3, o4⟩ := exT_at I.hok e
  obtain ⟨mA, hns, rel⟩ := xd_at I.hok e2
  obtain ⟨od, ho, hl⟩ := lookIn_ns hns
  exact ⟨o, od, ⟨o1, o2, by unfold PySem.W.notCls; rw [o4] <;> rfl, by rw [o3]; exact ho⟩, ho, o3⟩
/-- a value's type, exceptions too -/
inductive TyZ (K : PySem.W.Frag) (H : Hp) : V → Value → Prop where
  | x {x : V} {t : Value} (h : TyX K H x t) : TyZ K H x t
  | en {a C : Addr} (e : H a = some (exN a C)) (T : ExcC K C) : TyZ K H (.ref a) (.ref C)
  | ex {a C d : Addr} {fs : List (Str × V)} (e : H a = some (exT a C d)) (e2 : H d = some (.xd fs)) (T : ExcC K C) : TyZ K H (.ref a) (.ref C)
def rIsZ (K : PySem.W.Frag) : List V → Hp → VK → Prop := fun xs H Q => ∃ (x c : V) (t u : Value) (b : Bool), xs = [x, c] ∧ ClsV c u ∧ TyZ K H x t ∧ PySem.W.kitOne K t u = some b ∧ Q (.bl b) H
theorem call_isZ {X : Cx} : CallR X (.builtin "isinstance") (rIsZ X.K) := by
  intro pins s σ H xs us Q I r h
  obtain ⟨x, c, t, u, b, rfl, k, ty, e, q⟩ := h
  obtain ⟨u1, u2, rfl, r1, r2⟩ := vals2 r
  have e2 := k.eq r2
  subst e2
  cases ty with
  | x ty =>
    obtain ⟨P, Z, p, hx⟩ := kit_of I r1 ty
    exact PySem.W.kia_one Z I.kIn p e hx fun tk => ⟨.bl b, H, I.tok tk, rfl, q⟩
  | en ea T =>
    obtain rfl : u1 = Value.ref _ := r1
    obtain ⟨o, vs, o1, o2, o3, o4⟩ := exN_at I.hok ea
    exact PySem.W.kia_one (kitX T) I.kIn ⟨o, none, o1, o2, by unfold PySem.W.notCls; rw [o4] <;> rfl, by rw [o3]; trivial⟩ e (fun z => nomatch z) fun tk => ⟨.bl b, H, I.tok tk, rfl, q⟩
  | ex ea ed T =>
    obtain rfl : u1 = Value.ref _ := r1
    obtain ⟨ox, od, J, _, _⟩ := exT_inst I ea ed
    exact PySem.W.kia_one (kitX T) I.kIn ⟨_, _, J⟩ e (fun z => nomatch z) fun tk => ⟨.bl b, H, I.tok tk, rfl, q⟩
section
variable {X : Cx} {σ : St} {H : Hp} {Q : VK} {e : Expr} {pos : Pos} {f : Str}
/-- err.f -/
theorem e_xf (h : EW X e σ H fun x H1 => ∃ a C d fs v, x = .ref a ∧ H1 a = some (exT a C d) ∧ H1 d = some (.xd fs) ∧ ExcC X.K C ∧ PySem.W.findIn X.K (.ref C) f = some none ∧ fs.lookup f = some v ∧ Q v H1) (hb : attributeBase e f X.env (eval e X.env) = eval e X.env := by rfl) : EW X (.Attribute e f pos) σ H Q := by
  intro pins s I
  refine attr_of hb (thn (h pins s I) fun u s1 hh => ?_)
  obtain ⟨x, H1, I1, rx, a, C, d, fs, v, ex, ea, ed, T, hno, l, q⟩ := hh
  subst ex
  obtain rfl : u = Value.ref a := rx
  obtain ⟨mA, hns, hr⟩ := xd_at I1.hok ed
  obtain ⟨od, ho, hl⟩ := lookIn_ns hns
  obtain ⟨u, hu, ru⟩ := RelO.some_of (v := v) (o := mA f) (by rw [← l]; exact hr f)
  obtain ⟨o, vs, o1, o2, o3, o4⟩ := exT_at I1.hok ea
  have J : PySem.W.InstAt s1.heap a o C (some od) := ⟨o1, o2, by unfold PySem.W.notCls; rw [o4] <;> rfl, by rw [o3]; exact ho⟩
  exact HandSPX.exc_get I1.kIn J T.hg T.hk T.hs (PySem.W.findObj_own T.hd hno rfl (by rw [hl, hu])) (handed_of ru) ⟨v, H1, I1.tok _, ru, q⟩
end
end L2.Z

set_option maxHeartbeats 4000000
/-! Defs, methods, classes: promises that may lean on an empty list of guards; calls; the end. -/
namespace L2.Z
open PySem PySem.Spec PyProof.Rows PySem.ZX
abbrev CZ := L2.CX
/-- room for k calls, and no text is being made -/
structure RoomZ (k : Nat) (A : Around) : Prop where
  r : Room k A
  g : A.guards = some []
theorem RoomZ.mono {j k : Nat} {A : Around} (r : RoomZ k A) (h : j ≤ k) : RoomZ j A := ⟨r.r.mono h, r.g⟩
theorem RoomZ.deeper {k : Nat} {A : Around} (r : RoomZ (k + 1) A) (env : Env) : RoomZ k (A.deeper env) := ⟨r.r.deeper env, r.g⟩
theorem RoomZ.make {k : Nat} {A : Around} (r : RoomZ (k + 1) A) (C : Addr) (us : List Value) (kw : List (Str × Value)) : RoomZ k (A.under (.builtin "type.__call__" ⟨.ref C :: us, kw⟩)) :=
  ⟨r.r.make C us kw, by
    have e : (Code.builtin "type.__call__" ⟨.ref C :: us, kw⟩).guards = [] := by
      unfold Code.guards
      rw [if_neg]
      simp [Code.isGuard, guardIds]
    show pushGuards (Code.builtin "type.__call__" ⟨.ref C :: us, kw⟩).guards A.guards = some []
    rw [e, r.g]
    rfl⟩
/-- the def at f keeps the promise sp -/
structure FnZ (P : Program) (w : World) (K : PySem.W.Frag) (mg : Str → Option Value) (base : Heap) (k : Nat) (f : Addr) (fd : FuncData) (ps : List Str) (sp : Sp) : Prop where
  len : ∀ vs H Q E, sp vs H Q E → vs.length = ps.length
  run : ∀ (A : Around) (outer : List Env) (s : Shared) (H : Hp) (args : Args) (us : List Value) (vs : List V) (Q : VK) (E : XK), RoomZ k A → Env0 P w K mg base A outer s H → BindsTo s fd args (ps.zip us) → Vals vs us → sp vs H Q E →
    codeAny (model P w) A (.call (.ref f) args) (CR (CZ P w) outer P w H s Q E) s
section
variable {P : Program} {w : World} {K : PySem.W.Frag} {mg : Str → Option Value} {base : Heap} {j k : Nat} {f C : Addr} {fd : FuncData} {ps : List Str} {sp : Sp} {x m : Str}
theorem FnZ.mono (F : FnZ P w K mg base j f fd ps sp) (h : j ≤ k) : FnZ P w K mg base k f fd ps sp := ⟨F.len, fun A outer s H args us vs Q E hr => F.run A outer s H args us vs Q E (hr.mono h)⟩
theorem FnZ.imp {sp' : Sp} (F : FnZ P w K mg base k f fd ps sp) (h : ∀ vs H Q E, sp' vs H Q E → sp vs H Q E) : FnZ P w K mg base k f fd ps sp' :=
  ⟨fun vs H Q E q => F.len vs H Q E (h _ _ _ _ q), fun A outer s H args us vs Q E hr he hb hv hs => F.run A outer s H args us vs Q E hr he hb hv (h _ _ _ _ hs)⟩
/-- a def of the module -/
structure DefZ (P : Program) (w : World) (K : PySem.W.Frag) (mg : Str → Option Value) (base : Heap) (x : Str) (k : Nat) (ps : List Str) (sp : Sp) : Prop where
  ex : ∃ f fd, mg x = some (.ref f) ∧ PySem.W.keepIn K (.ref f) = true ∧ FnZ P w K mg base k f fd ps sp ∧ Binds K fd ps []
/-- a method of the class at C -/
structure MethZ (P : Program) (w : World) (K : PySem.W.Frag) (mg : Str → Option Value) (base : Heap) (C : Addr) (m : Str) (k : Nat) (ps : List Str) (sp : Sp) : Prop where
  cl : Cls K C
  ex : ∃ f fd, Meth K C m f ∧ FnZ P w K mg base k f fd ps sp ∧ Binds K fd ps []
/-- the class x at C, whose __init__ keeps sp -/
structure MkZ (P : Program) (w : World) (K : PySem.W.Frag) (mg : Str → Option Value) (base : Heap) (x : Str) (C : Addr) (k : Nat) (ps : List Str) (sp : Sp) : Prop where
  g : mg x = some (.ref C)
  ex : ∃ f fd, Mk K C f ∧ FnZ P w K mg base k f fd ps sp ∧ Binds K fd ps []
theorem DefZ.mono (D : DefZ P w K mg base x j ps sp) (h : j ≤ k) : DefZ P w K mg base x k ps sp := by
  obtain ⟨f, fd, a, b, F, c⟩ := D.ex
  exact ⟨f, fd, a, b, F.mono h, c⟩
theorem DefZ.imp {sp' : Sp} (D : DefZ P w K mg base x k ps sp) (h : ∀ vs H Q E, sp' vs H Q E → sp vs H Q E) : DefZ P w K mg base x k ps sp' := by
  obtain ⟨f, fd, a, b, F, c⟩ := D.ex
  exact ⟨f, fd, a, b, F.imp h, c⟩
theorem MethZ.mono (D : MethZ P w K mg base C m j ps sp) (h : j ≤ k) : MethZ P w K mg base C m k ps sp := by
  obtain ⟨f, fd, a, F, c⟩ := D.ex
  exact ⟨D.cl, f, fd, a, F.mono h, c⟩
theorem MkZ.mono (D : MkZ P w K mg base x C j ps sp) (h : j ≤ k) : MkZ P w K mg base x C k ps sp := by
  obtain ⟨f, fd, a, F, c⟩ := D.ex
  exact ⟨D.g, f, fd, a, F.mono h, c⟩
/-- the context of a def's body -/
abbrev cz (P : Program) (w : World) (K : PySem.W.Frag) (mg : Str → Option Value) (base : Heap) (N : List Str) (qual : Str) (sc : Scope) (f : Addr) (cd : Value) (A : Around) (outer : List Env) (s : Shared) (H : Hp) (E : XK) : Cx := cxOf (CZ P w) P w K mg base N qual sc f cd A outer s H E
/-- what a def's body must show -/
def BodyZ (P : Program) (w : World) (K : PySem.W.Frag) (mg : Str → Option Value) (base : Heap) (N : List Str) (qual : Str) (st : Stmt) (f : Addr) (k : Nat) (sp : Sp) : Prop :=
  ∀ (X : Cx) (cd : Value) (A : Around) (outer : List Env) (s : Shared) (H : Hp) (vs : List V) (Q : VK) (E : XK), X = cz P w K mg base N qual (defScope st) f cd A outer s H E → RoomZ k X.A → Takes X (fun c d _ H' => E c d H') → sp vs H Q E →
    BW (cz P w K mg base N qual (defScope st) f cd A outer s H E) (defBody st) { nx := fun _ H' => Q .non H', rt := Q } (start N vs) H
theorem fn_z {qual : Str} {st : Stmt} {N : List Str} (F : ∃ (oc : Value) (od : Option Addr) (dV kV doc pm : Value) (an : Option Addr) (cdv ct : Value) (osl : Array (Option Value)), fd = PySem.W.fnOf x qual (defArgs st) (defBody st) (defScope st) dV kV doc pm an cdv ct ∧ K.lookup f = some ⟨oc, od, .func fd, osl⟩ ∧ PySem.W.codeIn K cdv qual = true)
    (S : FnScope N ps (defScope st)) (len : ∀ vs H Q E, sp vs H Q E → vs.length = ps.length) (hb : BodyZ P w K mg base N qual st f k sp) : FnZ P w K mg base (k + 1) f fd ps sp := by
  obtain ⟨oc, od, dV, kV, doc, pm, an, cdv, ct, osl, rfl, lk, hcd⟩ := F
  refine ⟨len, fun A outer s H args us vs Q E hr e0 hbd r hsp => ?_⟩
  have hl := len _ _ _ _ hsp
  have KX : K.In s.heap := e0.mod.kin.keeps fun b o e => (e0.bs b o e).1
  have lim : s.heap.NoLimit := e0.mod.nolimit.keeps fun b o e => (e0.bs b o e).1
  have hk : ∀ y ∈ ps.zip us, (defScope st).names.lookup y.1 = some .local ∨ ((defScope st).names.lookup y.1 = some .cell ∧ ((cellsFrom (s.heap.objs.size + 1) (defScope st).names []).lookup y.1).isSome = true) := fun ⟨n, v⟩ hy =>
    (S.par n (List.of_mem_zip hy).1).elim (fun q => .inl q) fun q => .inr ⟨q, PySem.W.cellsFrom_some _ _ _ (.inl q)⟩
  refine codeAny_call_function hr.r.depth (KX _ _ lk) rfl S.co S.gen rfl (PySem.W.codeRec_of KX hcd) (hbd _ _ _ _ (wpAny_newFunctionEnv_cells S.kind hk fun env he s1 y => ?_))
  subst he
  refine ⟨lim.keeps y.toInCall.keep, codeAny_func ?_⟩
  have I : Inv (cz P w K mg base N qual (defScope st) f cdv A outer s H E) [] (start N vs) H s1 := inv_start S hr.r.hd e0 hl r y
  have B := hb _ cdv A outer s H vs Q E rfl (hr.deeper _) (takes_of rfl rfl rfl rfl) hsp
  refine wpAny_mono (B [] s1 I) (fun fl s' hs => ?_) fun e s' hs => hs
  have fin : ∀ {σ' : St} {H' : Hp} {v : V} {u : Value}, Inv (cz P w K mg base N qual (defScope st) f cdv A outer s H E) [] σ' H' s' → RelV v u → Q v H' → CE outer P w H s Q u s' := fun {σ' H' v u} J rv q => ⟨v, H', J.os, J.bare, J.base, J.hok, rv, q⟩
  cases fl with
  | ret u =>
    obtain ⟨v, σ', H', J, rv, q⟩ := hs
    exact fin J rv q
  | next =>
    obtain ⟨σ', H', J, q⟩ := hs
    exact fin (v := V.non) (u := Value.none) J rfl q
  | brk =>
    obtain ⟨_, _, _, q⟩ := hs
    exact False.elim q
  | cont =>
    obtain ⟨_, _, _, q⟩ := hs
    exact False.elim q
theorem Fun.z {qual : Str} {st : Stmt} (F : Fun K x qual st f fd) : ∃ (oc : Value) (od : Option Addr) (dV kV doc pm : Value) (an : Option Addr) (cdv ct : Value) (osl : Array (Option Value)), fd = PySem.W.fnOf x qual (defArgs st) (defBody st) (defScope st) dV kV doc pm an cdv ct ∧ K.lookup f = some ⟨oc, od, .func fd, osl⟩ ∧ PySem.W.codeIn K cdv qual = true := by
  obtain ⟨oc, od, kV, doc, pm, an, cdv, ct, osl, e, lk, hcd⟩ := F.ex
  exact ⟨oc, od, .none, kV, doc, pm, an, cdv, ct, osl, e, lk, hcd⟩
end
section
variable {X : Cx} {k : Nat} {f C : Addr} {fd : FuncData} {ps : List Str} {sp : Sp} {σ : St} {H : Hp} {Q : VK} {W : WX} {x m : Str} {p pos apos : Pos} {e o : Expr} {es : List Expr} {dvs : List V} {ds : List Value}
theorem run_z {pins : List (Addr × Obj)} {s : Shared} {us : List Value} {kw : List (Str × Value)} {ws : List Value} {vs : List V} (F : FnZ X.prog X.w X.K X.mg X.base k f fd ps sp) (hr : RoomZ k X.A) (tk : Takes X W) (I : Inv X pins σ H s)
    (hb : BindsTo s fd ⟨us, kw⟩ (ps.zip ws)) (r : Vals vs ws) (h : sp vs H Q fun c d H' => W c d σ H') : wpAny (model X.prog X.w) X.A (call (.ref f) us kw) (EP X pins σ Q) X.xe s := by
  refine wpAny_call (codeAny_mono (F.run X.A X.stack s H ⟨us, kw⟩ ws vs Q _ hr I.env0 hb r h) fun r s' hq => ?_)
  cases r with
  | error e => exact tk e s' (XE.of_call I (fun _ _ _ h => h) hq)
  | ok fl =>
    cases fl with
    | ret u => exact I.after hq
    | next => exact False.elim hq
    | brk => exact False.elim hq
    | cont => exact False.elim hq
theorem bnd {K : PySem.W.Frag} {s : Shared} {us : List Value} {vs : List V} (hb : Binds K fd ps []) (KX : K.In s.heap) (r : Vals vs us) (hl : vs.length = ps.length) : BindsTo s fd ⟨us, []⟩ (ps.zip us) := by
  have b := hb s us KX (by rw [List.append_nil, ← r.length]; exact hl)
  rw [List.append_nil] at b
  exact b
/-- f(e, ..) -/
theorem e_call (D : DefZ X.prog X.w X.K X.mg X.base x k ps sp) (hr : RoomZ k X.A) (tk : Takes X W) (h : AW X (e :: es) σ H fun vs H1 => sp vs H1 Q fun c d H' => W c d σ H') (hg : Gl X x := by rfl)
    (hdb : (x == ("__debug__" : Str)) = false := by decide) (he : starEach (e :: es) X.env = (false, eval e X.env) :: starEach es X.env := by rfl) (hpl : (backTo pos (starEach es X.env)).any (·.1) = false := by rfl) : EW X (.Call (.Name x p) (e :: es) [] pos) σ H Q := by
  intro pins s I
  obtain ⟨f, fd, hm, hk, F, hb⟩ := D.ex
  refine wpAny_Call_Name_kw (ld_glob I hg hm ?_ hdb)
  refine PySem.W.callWith_K (h₀ := X.base) I.ok.mod.kin hk (thn (h pos pins s I) fun us s1 ⟨vs, H1, I1, r, q⟩ => ⟨I1.kIn, ?_⟩) he hpl
  exact run_z F hr tk I1 (bnd hb I1.kIn r (F.len _ _ _ _ q)) r q
theorem e_call0 (D : DefZ X.prog X.w X.K X.mg X.base x k ps sp) (hr : RoomZ k X.A) (tk : Takes X W) (h : sp [] H Q fun c d H' => W c d σ H') (hg : Gl X x := by rfl)
    (hdb : (x == ("__debug__" : Str)) = false := by decide) : EW X (.Call (.Name x p) [] [] pos) σ H Q := by
  intro pins s I
  obtain ⟨f, fd, hm, hk, F, hb⟩ := D.ex
  refine wpAny_Call_Name_kw (ld_glob I hg hm ?_ hdb)
  exact PySem.W.callWith_K0 I.kIn hk (run_z (us := []) F hr tk I (bnd hb I.kIn .nil (F.len _ _ _ _ h)) .nil h)
/-- o.m(e, ..) -/
theorem e_meth {pl : Sem Bool} (D : MethZ X.prog X.w X.K X.mg X.base C m k ps sp) (hr : RoomZ k X.A) (tk : Takes X W)
    (h : EW X o σ H fun y H1 => ∃ a dx fs, y = .ref a ∧ H1 a = some (.ins C dx fs) ∧ fs.lookup m = none ∧ AW X (e :: es) σ H1 fun vs H2 => sp (y :: vs) H2 Q fun c d H' => W c d σ H')
    (hst : starEach (e :: es) X.env = (false, eval e X.env) :: starEach es X.env := by rfl) (hpl : (backTo pos (starEach es X.env)).any (·.1) = false := by rfl)
    (ht : eval (.Call (.Attribute o m apos) (e :: es) [] pos) X.env = (do
      let ov ← eval o X.env
      standAt apos.atName
      let (f, first) ← holding [ov] (getMethod ov m pl)
      callWith pos f first (backTo pos (starEach (e :: es) X.env)) (backToKw pos (keywordEach [] X.env))) := by rfl) : EW X (.Call (.Attribute o m apos) (e :: es) [] pos) σ H Q := by
  intro pins s I
  obtain ⟨f, fd, hm, F, hb⟩ := D.ex
  refine PySem.W.methodCall_KW (pl := pl) (thn (h pins s I) fun u s1 ⟨y, H1, I1, rx, a, dx, fs, ex, ea, l, q⟩ => ?_) ht
  subst ex
  obtain rfl : u = Value.ref a := rx
  refine getmeth_ok I1 ea D.cl hm l ?_
  refine PySem.W.callWith_K (first := [.ref a]) (h₀ := X.base) I.ok.mod.kin hm.kp (thn (q pos pins s1 I1) fun us s2 ⟨vs, H2, I2, r, q2⟩ => ⟨I2.kIn, ?_⟩) hst hpl
  have r2 : Vals (V.ref a :: vs) (Value.ref a :: us) := .cons rfl r
  exact run_z (us := .ref a :: us) F hr tk I2 (bnd hb I2.kIn r2 (F.len _ _ _ _ q2)) r2 q2
theorem e_meth0 {pl : Sem Bool} (D : MethZ X.prog X.w X.K X.mg X.base C m k ps sp) (hr : RoomZ k X.A) (tk : Takes X W)
    (h : EW X o σ H fun y H1 => ∃ a dx fs, y = .ref a ∧ H1 a = some (.ins C dx fs) ∧ fs.lookup m = none ∧ sp [y] H1 Q fun c d H' => W c d σ H')
    (ht : eval (.Call (.Attribute o m apos) [] [] pos) X.env = (do
      let ov ← eval o X.env
      standAt apos.atName
      let (f, first) ← holding [ov] (getMethod ov m pl)
      callWith pos f first (backTo pos (starEach [] X.env)) (backToKw pos (keywordEach [] X.env))) := by rfl) : EW X (.Call (.Attribute o m apos) [] [] pos) σ H Q := by
  intro pins s I
  obtain ⟨f, fd, hm, F, hb⟩ := D.ex
  refine PySem.W.methodCall_KW (pl := pl) (thn (h pins s I) fun u s1 ⟨y, H1, I1, rx, a, dx, fs, ex, ea, l, q⟩ => ?_) ht
  subst ex
  obtain rfl : u = Value.ref a := rx
  refine getmeth_ok I1 ea D.cl hm l ?_
  have r2 : Vals [V.ref a] [Value.ref a] := .cons rfl .nil
  exact PySem.W.callWith_K0 (first := [.ref a]) I1.kIn hm.kp (run_z (us := [.ref a]) F hr tk I1 (bnd hb I1.kIn r2 (F.len _ _ _ _ q)) r2 q)
/-- C(..) -/
def NewIn (C : Addr) (sp : Sp) (vs : List V) (H : Hp) (Q : VK) (E : XK) : Prop := ∀ a dx, H a = none → H dx = none → dx ≠ a → sp (.ref a :: vs) (upd (upd H dx (.own a)) a (.ins C dx [])) (fun v H2 => v = .non ∧ Q (.ref a) H2) E
theorem run_mkz {pins : List (Addr × Obj)} {s : Shared} {us : List Value} {kw : List (Str × Value)} {vs : List V} {ws : Value → List Value} (M : Mk X.K C f) (F : FnZ X.prog X.w X.K X.mg X.base k f fd ps sp) (hr : RoomZ (k + 1) X.A) (tk : Takes X W) (I : Inv X pins σ H s)
    (hb : ∀ (s : Shared) a, X.K.In s.heap → BindsTo s fd ⟨.ref a :: us, kw⟩ (ps.zip (.ref a :: ws (.ref a)))) (r : ∀ a, Vals vs (ws a)) (h : NewIn C sp vs H Q fun c d H' => W c d σ H') : wpAny (model X.prog X.w) X.A (call (.ref C) us kw) (EP X pins σ Q) X.xe s := by
  have hq := h (s.heap.objs.size + 1) s.heap.objs.size (I.hok.fresh (Nat.le_succ _)) (I.hok.fresh (Nat.le_refl _)) (Nat.ne_of_lt (Nat.lt_succ_self _))
  have I2 := Inv.made (C := C) I
  refine wpAny_call (make_map (f := f) I.kIn M.makes M.init (beq_iff_eq.mp M.fn) (codeAny_mono (F.run _ X.stack _ _ ⟨Value.ref (s.heap.objs.size + 1) :: us, kw⟩ _ _ _ _ (hr.make C us kw)
    (I2.env0.make C us kw) (hb _ _ I2.kIn) (show Vals (V.ref (s.heap.objs.size + 1) :: vs) (Value.ref (s.heap.objs.size + 1) :: ws (Value.ref (s.heap.objs.size + 1))) from .cons rfl (r _)) hq) fun r s' hq' => ?_))
  cases r with
  | error e => exact tk e s' (XE.of_call I2 (fun _ _ _ h => h) hq')
  | ok fl =>
    cases fl with
    | ret u =>
      obtain ⟨v, H', I3, rv, ev, q3⟩ := I2.after hq'
      subst ev
      exact ⟨rv, ⟨V.ref (s.heap.objs.size + 1), H', I3, rfl, q3⟩⟩
    | next => exact False.elim hq'
    | brk => exact False.elim hq'
    | cont => exact False.elim hq'
theorem e_make (D : MkZ X.prog X.w X.K X.mg X.base x C k ps sp) (hr : RoomZ (k + 1) X.A) (tk : Takes X W) (h : AW X (e :: es) σ H fun vs H1 => vs.length + 1 = ps.length ∧ NewIn C sp vs H1 Q fun c d H' => W c d σ H') (hg : Gl X x := by rfl)
    (hdb : (x == ("__debug__" : Str)) = false := by decide) (he : starEach (e :: es) X.env = (false, eval e X.env) :: starEach es X.env := by rfl) (hpl : (backTo pos (starEach es X.env)).any (·.1) = false := by rfl) : EW X (.Call (.Name x p) (e :: es) [] pos) σ H Q := by
  intro pins s I
  obtain ⟨f, fd, M, F, hb⟩ := D.ex
  refine wpAny_Call_Name_kw (ld_glob I hg D.g ?_ hdb)
  refine PySem.W.callWith_K (h₀ := X.base) I.ok.mod.kin M.kp (thn (h pos pins s I) fun us s1 ⟨vs, H1, I1, r, hl, q⟩ => ⟨I1.kIn, ?_⟩) he hpl
  exact run_mkz (ws := fun _ => us) M F hr tk I1 (fun s a KX => bnd (vs := .ref a :: vs) hb KX (.cons rfl r) hl) (fun _ => r) q
theorem e_make0 (D : MkZ X.prog X.w X.K X.mg X.base x C k ps sp) (hr : RoomZ (k + 1) X.A) (tk : Takes X W) (hl : ps.length = 1) (h : NewIn C sp [] H Q fun c d H' => W c d σ H') (hg : Gl X x := by rfl)
    (hdb : (x == ("__debug__" : Str)) = false := by decide) : EW X (.Call (.Name x p) [] [] pos) σ H Q := by
  intro pins s I
  obtain ⟨f, fd, M, F, hb⟩ := D.ex
  refine wpAny_Call_Name_kw (ld_glob I hg D.g ?_ hdb)
  exact PySem.W.callWith_K0 I.kIn M.kp (run_mkz (us := []) (ws := fun _ => []) M F hr tk I (fun s a KX => bnd (vs := [.ref a]) hb KX (.cons rfl .nil) hl.symm) (fun _ => .nil) h)
end
end L2.Z

set_option maxHeartbeats 4000000
namespace L2.Z
open PySem PySem.Spec PyProof.Rows
/-! ### data: what a value holds, at any depth, dicts too -/
def kD : Key → PyData
  | .inl i => .int i
  | .inr x => .str x
mutual
inductive Dq (K : PySem.W.Frag) (H : Hp) : V → PyData → Prop
  | non : Dq K H .non .none
  | bl (b : Bool) : Dq K H (.bl b) (.bool b)
  | int (i : Int) : Dq K H (.int i) (.int i)
  | str (x : Str) : Dq K H (.str x) (.str x)
  | lst {a : Addr} {xs : List V} {ds : List PyData} : Rd H a (.lst xs) → DqAll K H xs ds → Dq K H (.ref a) (.list ds)
  | tup {a : Addr} {xs : List V} {ds : List PyData} : SqT K H a xs → DqAll K H xs ds → Dq K H (.ref a) (.tuple ds)
  | dct {a : Addr} {kvs : List (Key × V)} {es : List (PyData × PyData)} : Rd H a (.dK kvs) → DqKv K H kvs es → Dq K H (.ref a) (.dict es)
inductive DqAll (K : PySem.W.Frag) (H : Hp) : List V → List PyData → Prop
  | nil : DqAll K H [] []
  | cons {v : V} {vs : List V} {d : PyData} {ds : List PyData} : Dq K H v d → DqAll K H vs ds → DqAll K H (v :: vs) (d :: ds)
inductive DqKv (K : PySem.W.Frag) (H : Hp) : List (Key × V) → List (PyData × PyData) → Prop
  | nil : DqKv K H [] []
  | cons {k : Key} {v : V} {d : PyData} {kvs : List (Key × V)} {es : List (PyData × PyData)} : Dq K H v d → DqKv K H kvs es → DqKv K H ((k, v) :: kvs) ((kD k, d) :: es)
end
section
variable {X : Cx} {pins : List (Addr × Obj)} {σ : St} {H : Hp} {s : Shared}
/-- the modules' own dict stands in the base -/
def Sys (base : Heap) : Prop := (base.get? sysModules).isSome = true
theorem noMods {a : Addr} {u : HO} (S : Sys X.base) (I : Inv X pins σ H s) (r : Rd H a u) : sysModules ≠ a := fun z => by
  subst z
  obtain ⟨o, e⟩ := Option.isSome_iff_exists.mp S
  have n := (I.bs _ _ e).2
  rcases r with r | ⟨o, r⟩ <;> rw [n] at r <;> cases r
theorem keyReads {h : Heap} {k : Key} {u : Value} (e : keyIs k u = true) : Reads h u (kD k) [] := by
  rcases keyIs_shape e with ⟨i, t, rfl, rfl⟩ | ⟨x, t, rfl, rfl⟩
  · exact .int i t
  · exact .str x t
mutual
theorem Dq.reads (S : Sys X.base) (I : Inv X pins σ H s) : ∀ (d : PyData) (v : V) (u : Value), Dq X.K H v d → RelV v u → ∃ as, Reads s.heap u d as ∧ sysModules ∉ as
  | .none, _, _, h, r => by
    cases h
    cases r
    exact ⟨_, Reads.none, List.not_mem_nil⟩
  | .bool b, _, _, h, r => by
    cases h
    cases r
    exact ⟨_, Reads.bool b, List.not_mem_nil⟩
  | .int i, _, _, h, r => by
    cases h
    obtain ⟨t, rfl⟩ := r
    exact ⟨_, Reads.int i t, List.not_mem_nil⟩
  | .str x, _, _, h, r => by
    cases h
    obtain ⟨t, rfl⟩ := r
    exact ⟨_, Reads.str x t, List.not_mem_nil⟩
  | .list ds, _, _, h, r => by
    cases h with
    | lst hs ha =>
      cases r
      obtain ⟨its, rv, ⟨o, n, ho, hc, _, hd⟩, _⟩ := I.list (.inl hs)
      obtain ⟨as, hr, hm⟩ := Dq.readsAll S I ds _ its ha rv
      refine ⟨_, Reads.list ho hc hd hr, fun z => ?_⟩
      rcases List.mem_cons.mp z with z | z
      · exact noMods S I hs z
      · exact hm z
  | .tuple ds, _, _, h, r => by
    cases h with
    | tup hs ha =>
      cases r
      obtain ⟨its, rv, ⟨o, ho, hc, n, hd⟩, _⟩ := I.tuple hs
      obtain ⟨as, hr, hm⟩ := Dq.readsAll S I ds _ its ha rv
      exact ⟨_, Reads.tuple ho hc hd hr, hm⟩
  | .dict es, _, _, h, r => by
    cases h with
    | dct hs ha =>
      cases r
      obtain ⟨_, _, vs, kv, o, ds, ep, ho, hx, hd, _, hp, _⟩ := dk_rd I.hok hs
      obtain ⟨as, h1, h2, hm⟩ := Dq.readsKv S I es _ vs _ ha kv hp
      refine ⟨_, Reads.dict ho hx.1 hd h1 h2, fun z => ?_⟩
      rcases List.mem_append.mp z with z | z
      · rcases List.mem_cons.mp z with z | z
        · exact noMods S I hs z
        · exact absurd z List.not_mem_nil
      · exact hm z
theorem Dq.readsAll (S : Sys X.base) (I : Inv X pins σ H s) : ∀ (ds : List PyData) (vs : List V) (us : List Value), DqAll X.K H vs ds → Vals vs us → ∃ as, ReadsAll s.heap us ds as ∧ sysModules ∉ as
  | [], _, _, h, r => by
    cases h
    cases r
    exact ⟨_, ReadsAll.nil, List.not_mem_nil⟩
  | d :: ds, _, _, h, r => by
    cases h with
    | cons h1 h2 =>
      cases r with
      | cons r1 r2 =>
        obtain ⟨as, q1, m1⟩ := Dq.reads S I d _ _ h1 r1
        obtain ⟨bs, q2, m2⟩ := Dq.readsAll S I ds _ _ h2 r2
        exact ⟨_, ReadsAll.cons q1 q2, fun z => (List.mem_append.mp z).elim m1 m2⟩
theorem Dq.readsKv (S : Sys X.base) (I : Inv X pins σ H s) : ∀ (es : List (PyData × PyData)) (kvs : List (Key × V)) (vs : List (Key × Value)) (ds : List DictEntry), DqKv X.K H kvs es → KV kvs vs → Pairs (mixKind X.prog X.w) ds vs →
    ∃ bs, ReadsAll s.heap (ds.map (·.key)) (es.map (·.1)) [] ∧ ReadsAll s.heap (ds.map (·.val)) (es.map (·.2)) bs ∧ sysModules ∉ bs
  | [], _, _, _, h, r, p => by
    cases h
    cases r
    cases p
    exact ⟨_, ReadsAll.nil, ReadsAll.nil, List.not_mem_nil⟩
  | (kd, d) :: es, _, _, _, h, r, p => by
    cases h with
    | cons h1 h2 =>
      cases r with
      | cons r1 r2 =>
        cases p with
        | cons p1 p2 p3 =>
          obtain ⟨e1, r1⟩ := r1
          dsimp only at e1 r1
          obtain ⟨as, q1, m1⟩ := Dq.reads S I d _ _ h1 r1
          obtain ⟨bs, q2, q3, m2⟩ := Dq.readsKv S I es _ _ _ h2 r2 p3
          refine ⟨as ++ bs, ?_, ?_, fun z => (List.mem_append.mp z).elim m1 m2⟩
          · have z : Reads s.heap _ (kD _) [] := keyReads p1
            rw [← e1] at z
            exact ReadsAll.cons z q2
          · simp only [List.map_cons]
            rw [p2]
            exact ReadsAll.cons q1 q3
end
end
mutual
theorem Dq.keep {K : PySem.W.Frag} {H H' : Hp} (k : ∀ a o, H a = some o → H' a = some o) : ∀ (d : PyData) (v : V), Dq K H v d → Dq K H' v d
  | .none, _, h => by cases h; exact .non
  | .bool b, _, h => by cases h; exact .bl b
  | .int b, _, h => by cases h; exact .int b
  | .str b, _, h => by cases h; exact .str b
  | .list ds, _, h => by
    cases h with
    | lst hs ha => exact .lst (hs.imp (k _ _) fun ⟨o, z⟩ => ⟨o, k _ _ z⟩) (Dq.keepAll k ds _ ha)
  | .tuple ds, _, h => by
    cases h with
    | tup hs ha => exact .tup (hs.imp (fun z => z.imp (k _ _) fun ⟨o, z⟩ => ⟨o, k _ _ z⟩) id) (Dq.keepAll k ds _ ha)
  | .dict es, _, h => by
    cases h with
    | dct hs ha => exact .dct (hs.imp (k _ _) fun ⟨o, z⟩ => ⟨o, k _ _ z⟩) (Dq.keepKv k es _ ha)
theorem Dq.keepAll {K : PySem.W.Frag} {H H' : Hp} (k : ∀ a o, H a = some o → H' a = some o) : ∀ (ds : List PyData) (vs : List V), DqAll K H vs ds → DqAll K H' vs ds
  | [], _, h => by cases h; exact .nil
  | d :: ds, _, h => by
    cases h with
    | cons h1 h2 => exact .cons (Dq.keep k d _ h1) (Dq.keepAll k ds _ h2)
theorem Dq.keepKv {K : PySem.W.Frag} {H H' : Hp} (k : ∀ a o, H a = some o → H' a = some o) : ∀ (es : List (PyData × PyData)) (kvs : List (Key × V)), DqKv K H kvs es → DqKv K H' kvs es
  | [], _, h => by cases h; exact .nil
  | (_, d) :: es, _, h => by
    cases h with
    | cons h1 h2 => exact .cons (Dq.keep k d _ h1) (Dq.keepKv k es _ h2)
end
theorem DqAll.rep {K : PySem.W.Frag} {H : Hp} {v : V} {d : PyData} (h : Dq K H v d) : ∀ n, DqAll K H (List.replicate n v) (List.replicate n d)
  | 0 => .nil
  | n + 1 => .cons h (DqAll.rep h n)
/-! ### repr of a container -/
def rRepr (K : PySem.W.Frag) : List V → Hp → VK → Prop := fun xs H Q => ∃ (a : Addr) (d : PyData), xs = [.ref a] ∧ Dq K H (.ref a) d ∧ d.showable = true ∧ d.shown.length ≤ sizeLine ∧ d.depth ≤ 60 ∧ Q (.str d.shown) H
theorem call_repr {X : Cx} (S : Sys X.base) (hg : X.A.guards = some []) (hu : X.A.units + 64 < cLine) : CallR X (.builtin "repr") (rRepr X.K) := by
  intro pins s σ H xs us Q I r h
  obtain ⟨a, d, rfl, hd, h1, h2, h3, q⟩ := h
  rw [Vals.ref1 r]
  obtain ⟨as, rd, nm⟩ := Dq.reads S I d _ _ hd rfl
  exact repr_of_reads' rd h1 (fun _ => nm) hg (by omega) (fun b o e => e) (fun h' u tk k => ⟨.str d.shown, H, I.kept (h' := h') (t' := tk) k, ⟨u, rfl⟩, q⟩) h2
/-! ### == and != of data -/
def rEqQ (K : PySem.W.Frag) : R2 := fun x y H Q => ∃ d e, Dq K H x d ∧ Dq K H y e ∧ SeqAt.shaped d = true ∧ SeqAt.shaped e = true ∧ Q (.bl (PyData.eqv d e)) H
def rNeQ (K : PySem.W.Frag) : R2 := fun x y H Q => ∃ d e, Dq K H x d ∧ Dq K H y e ∧ SeqAt.shaped d = true ∧ SeqAt.shaped e = true ∧ Q (.bl (!PyData.eqv d e)) H
theorem op_eqQ {X : Cx} (S : Sys X.base) (hu : X.A.units + 64 < cLine) : OpR X (compareOp .Eq) (rEqQ X.K) := fun pins s σ H x y v u Q I rx ry ⟨d, e, hd, he, sd, se, q⟩ => by
  obtain ⟨as, r1, _⟩ := Dq.reads S I d x v hd rx
  obtain ⟨bs, r2, _⟩ := Dq.reads S I e y u he ry
  exact SeqAt.compareEq_shaped r1 r2 sd se hu ⟨.bl _, H, I, rfl, q⟩
theorem op_neQ {X : Cx} (S : Sys X.base) (hu : X.A.units + 64 < cLine) : OpR X (compareOp .NotEq) (rNeQ X.K) := fun pins s σ H x y v u Q I rx ry ⟨d, e, hd, he, sd, se, q⟩ => by
  obtain ⟨as, r1, _⟩ := Dq.reads S I d x v hd rx
  obtain ⟨bs, r2, _⟩ := Dq.reads S I e y u he ry
  exact SeqAt.compareNe_shaped r1 r2 sd se hu ⟨.bl _, H, I, rfl, q⟩
/-! ### numbers, slices, dicts -/
theorem op_pow {X : Cx} : OpR X (binaryOp .Pow) (rI (fun i n => 0 ≤ n ∧ (Builtin.Int.intBits i : Int) * n ≤ 2 ^ 27) fun i n => .int (i ^ n.toNat)) := fun pins s σ H x y v u Q I rx ry ⟨i, n, ex, ey, hc, q⟩ => by
  subst ex
  subst ey
  obtain ⟨t, rfl⟩ := rx
  obtain ⟨t', rfl⟩ := ry
  exact pow_int hc.1 hc.2 ⟨.int (i ^ n.toNat), H, I.tok _, ⟨_, rfl⟩, q⟩
section
variable {X : Cx} {σ : St} {H : Hp} {Q : VK} {e o i value : Expr} {lo hi : Option Expr} {pos pos' p2 : Pos} {D : Ends}
def OW (X : Cx) (e : Option Expr) (σ : St) (H : Hp) (Q : Option Int → Hp → Prop) : Prop := match e with
  | none => Q none H
  | some e => EW X e σ H fun v H1 => ∃ i, v = .int i ∧ Q (some i) H1
theorem o_pe : ∀ {e : Option Expr}, PO X e (OW X e)
  | none => po_none
  | some e => po_some (e_pe (X := X) (e := e))
theorem e_sl {r : V → Option Int → Option Int → Hp → VK → Prop} (hr : SlR X r) (h : EW X e σ H fun v H1 => OW X lo σ H1 fun l H2 => OW X hi σ H2 fun u H3 => r v l u H3 Q) : EW X (.Subscript e (.Slice lo hi none p2) pos) σ H Q :=
  e_of (pe_slice hr e_pe o_pe o_pe) h
theorem o_no {Q : Option Int → Hp → Prop} (h : Q none H) : OW X none σ H Q := h
theorem o_so {Q : Option Int → Hp → Prop} (h : EW X e σ H fun v H1 => ∃ i, v = .int i ∧ Q (some i) H1) : OW X (some e) σ H Q := h
theorem e_dK (h : ∀ p, H p = none → Q (.ref p) (upd H p (.dK []))) : EW X (.Dict [] [] pos) σ H Q := e_of pe_dnewK h
/-- {k: v}, one entry -/
theorem e_d1 {k v : Expr} (h : ∀ p, H p = none → EW X k σ (upd H p (.dK [])) fun x H1 => EW X v σ H1 fun y H2 => H2 p = some (.dK []) ∧ ∃ q : Key, x = kV q ∧ Q (.ref p) (upd H2 p (.dK [(q, y)]))) : EW X (.Dict [some k] [v] pos) σ H Q :=
  e_of (pe_disp (pps_cons e_pe e_pe pps_nil) rfl rfl (fun z => by cases z) (by simp)) fun p hp => EW.mono (h p hp) fun x H1 q1 => EW.mono q1 fun y H2 ⟨q2, q, ex, q3⟩ => ⟨q2, [(q, y)], by rw [ex]; rfl, by simp, q3⟩
theorem s_dput (hu : X.A.units + 1 < cLine) (h : EW X value σ H fun v H1 => EW X o σ H1 fun x H2 => EW X i σ H2 fun y H3 => ∃ a H4, x = .ref a ∧ DPut H3 a y v H4 ∧ D.nx σ H4)
    (hs : swapsWith value (some (.Subscript o i pos')) pos.line X.env = pure false := by rfl) : SW X (.Assign [.Subscript o i pos'] value pos) D σ H := s_of (ps_dput hu e_pe e_pe e_pe hs) h
theorem e_dget (hu : X.A.units + 1 < cLine) (h : EW X o σ H fun x H1 => EW X i σ H1 fun y H2 => ∃ a v, x = .ref a ∧ DGet H2 a y (some v) ∧ Q v H2) (hs : NoSl i := by exact fun _ _ => rfl) : EW X (.Subscript o i pos) σ H Q := e_of (pe_dget hu e_pe e_pe hs) h
theorem e_bits {apos : Pos} (h : EW X o σ H fun y H1 => ∃ i, y = .int i ∧ Q (.int (Builtin.Int.intBits i : Nat)) H1) (h1 : attributeBase o "bit_length" X.env (eval o X.env) = eval o X.env := by rfl) (h3 : (apos.endLine == pos.line) = true := by rfl) : EW X (.Call (.Attribute o "bit_length" apos) [] [] pos) σ H Q :=
  e_of (pe_bits e_pe h1 h3) h
theorem g_sub {ps : TSet} {v : V} {N : St → Hp → Prop} (hc : PSet X ps) (h : EW X o σ H fun x H1 => EW X i σ H1 fun y H2 => ps x y v H2 fun H3 => N σ H3)
    (ha : ∀ v, assign (.Subscript o i pos) X.env v = (do
      let ov ← holding [v] (eval o X.env)
      let iv ← holding [v, ov] (eval i X.env)
      standAt pos
      holding [v, ov, iv] (setItem ov iv v)
      release [v, ov, iv] []) := by intro _; rfl) : GW X (.Subscript o i pos) v σ H N := g_of (pg_sub e_pe e_pe hc ha) h
end
end L2.Z

set_option maxHeartbeats 4000000
/-! The end: a law's call, from its def's promise; the head's facts. -/
namespace L2.Z
open PySem PySem.Spec PyProof.Rows
/-- the law's def is called with the script alone -/
theorem call_law {P : Program} {w : World} {K : PySem.W.Frag} {mg mb : Str → Option Value} {k : Nat} {fa a : Addr} {fd : FuncData} {x : Str} {sp : Sp} {s : Shared} {vs : List Value} {ns : List Int}
    (KX : K.In s.heap) (hns : s.heap.Ns mainGlobals mg) (hb : s.heap.Ns builtinsNs mb) (hbb : ∀ x : Str, x ≠ "__name__" → mb x = bootBuiltins x) (hlim : s.heap.NoLimit) (hg : s.gens = #[])
    (ha : s.heap.get? a = some { cls := .type "list", data := .seq vs.toArray }) (hi : IntsAre vs ns) (hl : ns.length ≤ sizeLine) (hr : RoomZ k callerA)
    (F : ∀ base : Heap, K.In base → base.Ns mainGlobals mg → FnZ P w K mg base k fa fd [x] sp) (hbind : ∀ (s : Shared) (u : Value), BindsTo s fd ⟨[u], []⟩ [(x, u)])
    (hsp : ∀ H : Hp, Only H → SqL K H a (ns.map V.int) → sp [.ref a] H (fun v _ => v = .bl true) fun _ _ _ => False) :
    codeAny (model P w) callerA (.call (.ref fa) ⟨[.ref a], []⟩) (fun r s' => r = .ok (.ret (.bool true)) ∧ OldK s.heap s'.heap ∧ s'.os = s.os ∧ AllBare s'.gens) s := by
  have rv := vals_ints hi
  have lenV := hi.length
  -- H: the script and nothing else
  have core : ∀ H : Hp, Only H → SqL K H a (ns.map V.int) → HOk P w H s.heap → (∀ b u, H b = some u → b = a ∧ K.lookup a = none) → codeAny (model P w) callerA (.call (.ref fa) ⟨[.ref a], []⟩)
      (fun r s' => r = .ok (.ret (.bool true)) ∧ OldK s.heap s'.heap ∧ s'.os = s.os ∧ AllBare s'.gens) s := by
    intro H hO hS hok hA
    have free : ∀ {b : Addr} {o : Obj}, s.heap.get? b = some o → (∀ u, H b = some u → False) → (hidT s.heap H).get? b = some o := fun {b o} e n => hidT_get e (by
      cases q : H b with
      | none => rfl
      | some u => exact (n u q).elim)
    have dictOff : ∀ {b : Addr} {o : Obj} {es : Array DictEntry} {ep : Nat}, s.heap.get? b = some o → o.data = .dict es ep → ∀ u, H b = some u → False := fun {b o es ep} e d u q => by
      obtain ⟨rfl, _⟩ := hA b u q
      rw [ha] at e
      cases e
      cases (show Data.seq vs.toArray _ = Data.dict es ep from d)
    have nsF : ∀ {b : Addr} {m : Str → Option Value}, s.heap.Ns b m → (hidT s.heap H).Ns b m := fun ⟨o, es, ep, e, d, r⟩ => ⟨o, es, ep, free e (dictOff e d), d, r⟩
    have kF : K.In (hidT s.heap H) := fun b o e => free (KX b o e) fun u q => by
      obtain ⟨rfl, n⟩ := hA b u q
      rw [n] at e
      cases e
    obtain ⟨mc, c1, c2⟩ := hlim
    have md : Mod K mg (hidT s.heap H) := ⟨kF, nsF hns, ⟨mb, nsF hb, hbb⟩, ⟨mc, nsF c1, c2⟩⟩
    have e0 : Env0 P w K mg (hidT s.heap H) callerA [] s H := ⟨rfl, md, fun b o e => of_hidT e, Nat.le_of_eq (hidT_size _ _), trivial, (fun b hb => absurd hb List.not_mem_nil), hok, .of_eq hg⟩
    refine codeAny_mono ((F _ kF (nsF hns)).run callerA [] s H ⟨[.ref a], []⟩ [.ref a] [.ref a] _ _ hr e0 (hbind s (.ref a)) (.cons rfl .nil) (hsp H hO hS)) fun r s' h => ?_
    cases r with
    | error e =>
      obtain ⟨_, _, _, _, _, _, _, _, _, _, _, _, q⟩ := h
      exact False.elim q
    | ok fl =>
      cases fl with
      | ret u =>
        obtain ⟨v, H', os, bare, un, hok', rv', q⟩ := h
        obtain rfl : v = .bl true := q
        obtain rfl : u = Value.bool true := rv'
        refine ⟨rfl, OldK.of_keep fun b o e => ?_, os, bare⟩
        rcases hO b with z | ⟨ob, xs, z⟩
        · exact un.keep b o e z List.not_mem_nil List.not_mem_nil
        · have y1 := (hok b _ z).1
          have y2 := (hok' b _ (un.frzs b ob _ z)).1
          rw [e] at y1
          cases y1
          exact y2
      | next => exact False.elim h
      | brk => exact False.elim h
      | cont => exact False.elim h
  by_cases hk : ∃ o, K.lookup a = some o
  · obtain ⟨o, hk⟩ := hk
    have e := KX a o hk
    rw [ha] at e
    cases e
    exact core (fun _ => none) (fun _ => .inl rfl) (.inr ⟨_, vs.toArray, _, hk, rfl, rfl, rfl, by rw [List.size_toArray, lenV]; exact hl, by simpa using rv⟩) (fun b u z => by cases z) fun b u z => by cases z
  · have hk2 : K.lookup a = none := by
      cases q : K.lookup a with
      | none => rfl
      | some o => exact (hk ⟨o, q⟩).elim
    let H : Hp := upd (fun _ => none) a (.frz { cls := .type "list", data := .seq vs.toArray } (.lst (ns.map V.int)))
    have at_ : ∀ b u, H b = some u → b = a ∧ u = .frz { cls := .type "list", data := .seq vs.toArray } (.lst (ns.map V.int)) := fun b u z => by
      by_cases hb : b = a
      · subst hb
        rw [show H b = _ from upd_same] at z
        exact ⟨rfl, (Option.some.inj z).symm⟩
      · rw [show H b = _ from upd_ne hb] at z
        cases z
    refine core H (fun b => ?_) (.inl (.inr ⟨_, upd_same⟩)) (fun b u z => ?_) fun b u z => ⟨(at_ b u z).1, hk2⟩
    · cases q : H b with
      | none => exact .inl rfl
      | some u => exact .inr ⟨_, _, by rw [(at_ b u q).2]⟩
    · obtain ⟨rfl, rfl⟩ := at_ b u z
      exact ⟨ha, by rw [List.length_map]; exact hl, vs, _, rv, ha⟩
/-- a law from its def's promise, over a head by facts -/
theorem walk_z {l : PySem.W.OpenLaw} {n k : Nat} {q : Program} {loose : List Str} {XP : (Str → Option Value) → Heap → Prop} {YP : World → Heap → Prop} {d : DefRec} {x : Str}
    (hn : l.most = some n) (hn2 : n ≤ sizeLine) (hdf : d.params.defaults = []) (hr : RoomZ k callerA)
    (F : ∀ (w : World) (mg : Str → Option Value) (fa : Addr) (h : Heap), YP w h → h.Ns mainGlobals mg → mg d.name = some (.ref fa) → ∃ (K : PySem.W.Frag) (fd : FuncData) (sp : Sp), K.In h ∧ (∀ (s : Shared) (u : Value), BindsTo s fd ⟨[u], []⟩ [(x, u)]) ∧
        (∀ (H : Hp) (a : Addr) (ns : List Int), ns.length ≤ n → (∀ z ∈ ns, Builtin.Int.intBits z ≤ 1048576) → Only H → SqL K H a (ns.map V.int) → sp [.ref a] H (fun v _ => v = .bl true) fun _ _ _ => False) ∧
        ∀ base : Heap, K.In base → base.Ns mainGlobals mg → FnZ l.prog w K mg base k fa fd [x] sp) : PySem.W.WalkO q loose XP YP l.row.toRowW d [] (fun f vs => PySem.call f vs) :=
  Att.attach_callB hn hdf fun w s₀ s₁ mg mb fa o pm cd doc a vs ns G Y ho hd hcd hmg hobj hints hlen hbits hg => by
    obtain ⟨K, fd, sp, KX, hb, hsp, hF⟩ := F w mg fa _ Y G.T.g hmg
    exact call_law KX G.T.g G.T.b G.T.builtins G.T.nolimit hg hobj hints (Nat.le_trans hlen hn2) hr hF hb fun H hO hS => hsp H a ns hlen hbits hO hS
end L2.Z

set_option maxHeartbeats 4000000
/-! The head's facts: tests over what stands behind the top. -/
namespace L2.Z
open PySem PySem.Spec PyProof.Rows PySem.ZX He
/-- the j-th statement of a class's body -/
def clsDef (st : Stmt) (j : Nat) : Stmt := match st with
  | .ClassDef _ _ _ b _ _ _ _ _ _ _ => b.getD j st
  | _ => st
/-- one def: where it stands, its name, its text; the values of its defaults, the names of its closure -/
structure DefQ where
  at_ : Str × Option Str
  name : Str
  qual : Str
  st : Stmt
  dfl : List V := []
  cl : List Str := []
abbrev FnQ : Type := Option (Str × Str × Arguments × FuncBody × Scope × Addr × List Str × Addr)
def fnQ (K : PySem.W.Frag) (p : Str × Option Str) : FnQ := match K.lookup (fAd K p) with
  | some ⟨_, _, .func fd, _⟩ => some (fd.name, fd.qualname, fd.params, fd.body, fd.scope, fd.globals, fd.closure.map (·.1), fd.builtins)
  | _ => none
def DefQ.val (d : DefQ) : FnQ := some (d.name, d.qual, defArgs d.st, .stmts (defBody d.st), defScope d.st, mainGlobals, d.cl, builtinsNs)
def DefQ.ok (K : PySem.W.Frag) (d : DefQ) : Bool := PySem.W.keepIn K (.ref (fAd K d.at_)) && (match K.lookup (fAd K d.at_) with
  | some ⟨_, _, .func fd, _⟩ => PySem.W.codeIn K fd.code d.qual && dflB K fd.defaults d.dfl
  | _ => false)
/-- such a def stands at f -/
structure FunQ (K : PySem.W.Frag) (d : DefQ) (f : Addr) (fd : FuncData) : Prop where
  ex : ∃ (oc : Value) (od : Option Addr) (cl : List (Str × Addr)) (dV kV doc pm : Value) (an : Option Addr) (cdv ct : Value) (osl : Array (Option Value)),
    fd = PySem.W.fnX d.name d.qual (defArgs d.st) (defBody d.st) (defScope d.st) cl dV kV doc pm an cdv ct ∧ cl.map (·.1) = d.cl ∧ K.lookup f = some ⟨oc, od, .func fd, osl⟩ ∧ PySem.W.codeIn K cdv d.qual = true ∧ DflV K dV d.dfl
  kp : PySem.W.keepIn K (.ref f) = true
theorem DefQ.fun {K : PySem.W.Frag} {d : DefQ} (e : fnQ K d.at_ = d.val) (c : d.ok K = true) : ∃ fd, FunQ K d (fAd K d.at_) fd := by
  obtain ⟨kp, c2⟩ := ba c
  unfold fnQ at e
  cases q : K.lookup (fAd K d.at_) with
  | none =>
    rw [q] at c2
    cases c2
  | some o =>
    obtain ⟨oc, od, dt, osl⟩ := o
    rw [q] at c2 e
    cases dt with
    | func fd =>
      obtain ⟨n1, n2, n3, n4, n5, n6, n7, n8, n9, n10, n11, n12, n13, n14, n15⟩ := fd
      have e2 : (some (n1, n2, n3, n4, n5, n6, n7.map (·.1), n15) : FnQ) = some (d.name, d.qual, defArgs d.st, .stmts (defBody d.st), defScope d.st, mainGlobals, d.cl, builtinsNs) := e
      simp only [Option.some.injEq, Prod.mk.injEq] at e2
      obtain ⟨h1, h2, h3, h4, h5, h6, h7, h8⟩ := e2
      subst h1 h2 h3 h4 h5 h6 h8
      obtain ⟨k1, k2⟩ := ba (show (PySem.W.codeIn K n13 d.qual && dflB K n8 d.dfl) = true from c2)
      exact ⟨_, ⟨oc, od, n7, n8, n9, n10, n11, n12, n13, n14, osl, rfl, h7, q, k1, dflB_ok k2⟩, kp⟩
    | _ => cases c2
theorem FunQ.z {K : PySem.W.Frag} {d : DefQ} {f : Addr} {fd : FuncData} (F : FunQ K d f fd) (hc : d.cl = [] := by rfl) : ∃ (oc : Value) (od : Option Addr) (dV kV doc pm : Value) (an : Option Addr) (cdv ct : Value) (osl : Array (Option Value)),
    fd = PySem.W.fnOf d.name d.qual (defArgs d.st) (defBody d.st) (defScope d.st) dV kV doc pm an cdv ct ∧ K.lookup f = some ⟨oc, od, .func fd, osl⟩ ∧ PySem.W.codeIn K cdv d.qual = true := by
  obtain ⟨oc, od, cl, dV, kV, doc, pm, an, cdv, ct, osl, rfl, ec, lk, k1, _⟩ := F.ex
  rw [hc] at ec
  obtain rfl : cl = [] := List.map_eq_nil_iff.mp ec
  exact ⟨oc, od, dV, kV, doc, pm, an, cdv, ct, osl, rfl, lk, k1⟩
/-- its parameters are bound to as many values -/
theorem FunQ.bs {K : PySem.W.Frag} {d : DefQ} {f : Addr} {fd : FuncData} {ps : List Str} (F : FunQ K d f fd)
    (h : ∀ (kV doc pm : Value) (an : Option Addr) (cdv ct : Value) (us : List Value), us.length = ps.length → bindArgs (PySem.W.fnOf d.name d.qual (defArgs d.st) (defBody d.st) (defScope d.st) .none kV doc pm an cdv ct) ⟨us, []⟩ = pure (ps.zip us)) (hc : d.cl = [] := by rfl) (hd : d.dfl = [] := by rfl) : Binds K fd ps [] := by
  obtain ⟨oc, od, cl, dV, kV, doc, pm, an, cdv, ct, osl, rfl, ec, lk, k1, dv⟩ := F.ex
  rw [hc] at ec
  obtain rfl : cl = [] := List.map_eq_nil_iff.mp ec
  rcases dv with ⟨_, rfl⟩ | ⟨z, _⟩
  · exact .all (h kV doc pm an cdv ct)
  · exact absurd hd z
theorem FunQ.bsA {K : PySem.W.Frag} {d : DefQ} {f : Addr} {fd : FuncData} {ps : List Str} (F : FunQ K d f fd)
    (h : ∀ (kV doc pm : Value) (an : Option Addr) (cdv ct : Value) (us : List Value), us.length = ps.length → bindArgs (PySem.W.fnOf d.name d.qual (defArgs d.st) (defBody d.st) (defScope d.st) .none kV doc pm an cdv ct) ⟨us, []⟩ = pure (ps.zip us)) (s : Shared) (us : List Value) (hl : us.length = ps.length) (hc : d.cl = [] := by rfl) (hd : d.dfl = [] := by rfl) : BindsTo s fd ⟨us, []⟩ (ps.zip us) := by
  obtain ⟨oc, od, cl, dV, kV, doc, pm, an, cdv, ct, osl, rfl, ec, lk, k1, dv⟩ := F.ex
  rw [hc] at ec
  obtain rfl : cl = [] := List.map_eq_nil_iff.mp ec
  rcases dv with ⟨_, rfl⟩ | ⟨z, _⟩
  · exact .of_eq (h kV doc pm an cdv ct us hl)
  · exact absurd hd z
/-! ### the Hook -/
abbrev Fact : Type := PySem.W.Frag → Bool
abbrev AlQ : Type := Bool × List FnQ
def obsQ (fa : List Fact) (fn : List DefQ) (K : PySem.W.Frag) : AlQ := ((fa.all fun f => f K) && fn.all fun d => d.ok K, fn.map fun d => fnQ K d.at_)
def valQ (fn : List DefQ) : AlQ := (true, fn.map DefQ.val)
def SaysQ (fa : List Fact) (fn : List DefQ) (K : PySem.W.Frag) : Prop := obsQ fa fn K = valQ fn
def obsQG (n : Nat) (fa : List Fact) (fn : List DefQ) (g : Addr → Option Obj) : AlQ := obsQ fa fn (frG g (sysModules :: cStatics :: asD g n))
def hookQ (n : Nat) (fa : List Fact) (fn : List DefQ) : PySem.W.Hook where
  α := AlQ
  obs := fun s => obsQG n fa fn s.heap.get?
  val := fun _ => valQ fn
  says := fun _ h => ∃ K : PySem.W.Frag, K.In h ∧ SaysQ fa fn K
  of := fun _ _ e => ⟨_, frG_in, e⟩
  keeps := fun _ _ _ ⟨K, hK, c⟩ k => ⟨K, PySem.W.Frag.In.keeps hK k, c⟩
theorem obsQG_eq {n : Nat} {fa : List Fact} {fn : List DefQ} {g : Addr → Option Obj} {s : Shared} (h : ∀ a, g a = s.heap.get? a) : obsQG n fa fn g = (hookQ n fa fn).obs s := by
  have e : g = s.heap.get? := funext h
  rw [e] <;> rfl
section
variable {fa : List Fact} {fn : List DefQ} {K : PySem.W.Frag}
theorem SaysQ.both (c : SaysQ fa fn K) : (fa.all fun f => f K) = true ∧ (fn.all fun d => d.ok K) = true := ba (show ((fa.all fun f => f K) && fn.all fun d => d.ok K) = true from congrArg (fun z : AlQ => z.1) c)
theorem SaysQ.fact (c : SaysQ fa fn K) (i : Nat) {f : Fact} (h : fa[i]? = some f := by rfl) : f K = true := List.all_eq_true.mp c.both.1 f (List.mem_of_getElem? h)
theorem SaysQ.def_ (c : SaysQ fa fn K) (i : Nat) {d : DefQ} (h : fn[i]? = some d := by rfl) : ∃ fd, FunQ K d (fAd K d.at_) fd := by
  have e : fn.map (fun d => fnQ K d.at_) = fn.map DefQ.val := congrArg (fun z : AlQ => z.2) c
  have e2 : (fn.map fun d => fnQ K d.at_)[i]? = (fn.map DefQ.val)[i]? := by rw [e]
  rw [List.getElem?_map, List.getElem?_map, h] at e2
  exact DefQ.fun (Option.some.inj e2) (List.all_eq_true.mp c.both.2 d (List.mem_of_getElem? h))
end
/-! ### the facts -/
def fGlo (x : Str) : Fact := fun K => eqO (PySem.W.nsIn K mainGlobals x) (some (some (.ref (ga K x))))
def fFree (xs : List Str) : Fact := fun K => xs.all fun x => eqO (PySem.W.nsIn K mainGlobals x) (some none)
def fSys : Fact := fun K => (K.lookup sysModules).isSome
/-- an exception class with a field -/
def fExc (x fld file : Str) : Fact := fun K =>
  let C := ga K x
  let f := ma K C "__init__"
  fGlo x K && (match K.lookup C with
    | some ⟨.type ty, _, .cls cd, sl⟩ => ty == "type" && (match cd.mro, sl.toList with
      | .ref C' :: bm, [_, _, _, _, some (.builtin n), _] => C' == C && n == "ValueError.__new__" && !cd.hasDel && cd.hasDict && PySem.HandSPX.refsVE bm
      | _, _ => false)
    | _ => false)
  && eqO (PySem.W.findIn K (.ref C) "__setattr__") (some (some (.builtin "object.__setattr__"))) && eqO (PySem.W.findIn K (.ref C) fld) (some none)
  && eqO (PySem.W.ks_superIn K C C "__init__") (some (some (.builtin "ValueError.__init__"))) && decide (PySem.W.subIn K (.ref C) (.type "ValueError") = some true)
  && eqO (PySem.W.nsIn K cStatics "thirdparty.any") (some none) && eqO (PySem.W.nsIn K mainGlobals "super") (some none)
  && (match K.lookup f with
    | some ⟨_, _, .func fd, _⟩ => (match fd.closure, fd.code with
      | [(_, cc)], .ref cda => (match K.lookup cc, K.lookup cda with
        | some ⟨_, _, .cell (some (.ref C')), _⟩, some ⟨_, _, .fields vs, _⟩ => C' == C && (match vs.toList with
          | _ :: _ :: .str z _ :: _ => z == file
          | _ => false)
        | _, _ => false)
      | _, _ => false)
    | _ => false)
  && eqO (PySem.W.findIn K (.ref C) "__init__") (some (some (.ref f))) && decide (PySem.W.typeIn K (.ref f) = some (.type "function")) && PySem.W.keepIn K (.ref C)
/-- an exception class, to be asked of -/
def fExB (x : Str) : Fact := fun K =>
  let C := ga K x
  eqO (PySem.W.findIn K (.ref C) "__getattribute__") (some (some (.builtin "BaseException.__getattribute__"))) && eqO (PySem.W.findIn K (.ref C) "__getattr__") (some none)
  && decide (PySem.W.subIn K (.ref C) (.type "BaseException") = some true) && PySem.W.hasDictIn K C && eqO (PySem.W.findIn K (.ref C) "__class__") (some (some (.builtin "object.__class__")))
  && eqO (PySem.W.specialIn K (.builtin "object.__class__") "__get__") (some (some (.builtin "getset_descriptor.__get__"))) && decide (PySem.W.takesIn K (.builtin "object.__class__") = some true)
  && decide (PySem.W.mroIn K C (.type "object") = some true) && decide (PySem.W.typeIn K (.ref C) = some (.type "type"))
section
variable {K : PySem.W.Frag} {h : Heap} {mg : Str → Option Value} {x fld file : Str}
theorem fGlo_ok (X : K.In h) (G : h.Ns mainGlobals mg) (c : fGlo x K = true) : mg x = some (.ref (ga K x)) := PySem.W.mg_of X G (eqO_ok c)
theorem fFree_ok {xs : List Str} (X : K.In h) (G : h.Ns mainGlobals mg) (c : fFree xs K = true) (hx : x ∈ xs) : mg x = none := PySem.W.mg_none_of X G (eqO_ok (List.all_eq_true.mp c x hx))
theorem fSys_ok (X : K.In h) (c : fSys K = true) : Sys h := by
  obtain ⟨o, e⟩ := Option.isSome_iff_exists.mp (show (K.lookup sysModules).isSome = true from c)
  show (h.get? sysModules).isSome = true
  rw [X _ _ e]
  rfl
theorem fExB.ok (c : fExB x K = true) : ExcC K (ga K x) ∧ PySem.W.typeIn K (.ref (ga K x)) = some (.type "type") := by
  unfold fExB at c
  simp only [Bool.and_eq_true, decide_eq_true_eq] at c
  obtain ⟨⟨⟨⟨⟨⟨⟨⟨c1, c2⟩, c3⟩, c4⟩, c5⟩, c6⟩, c7⟩, c8⟩, c9⟩ := c
  exact ⟨⟨eqO_ok c1, eqO_ok c2, c3, c4, eqO_ok c5, eqO_ok c6, c7, c8⟩, c9⟩
theorem fExc.ok {P : Program} {d : DefQ} (c : fExc x fld file K = true) (b : fExB x K = true) {fd : FuncData} (F : FunQ K d (fAd K d.at_) fd) (hat : d.at_ = (x, some (Str.ofString "__init__"))) (hn : d.name = Str.ofString "__init__") (hdf : d.dfl = [.non]) (hcl : d.cl = [Str.ofString "__class__"])
    (hfl : fld = "value" ∨ fld = "name") {p1 p2 p3 q1 q2 q3 q4 q5 q6 q7 q8 q9 q10 : Pos} (ha : defArgs d.st = xA fld p1 p2 p3) (hb : defBody d.st = xB fld q1 q2 q3 q4 q5 q6 q7 q8 q9 q10) (hs : defScope d.st = xS fld)
    (hq : (q3.endLine == q5.line) = true) (hfile : ((P.main.file : Str) == file) = true) (htop : (P.main.scope.names.lookup ("super" : Str)).isSome = false) (X : K.In h) (G : h.Ns mainGlobals mg) : ExK P K mg x fld d.qual (ga K x) (ma K (ga K x) "__init__") := by
  unfold fExc at c
  simp only [Bool.and_eq_true, decide_eq_true_eq] at c
  obtain ⟨⟨⟨⟨⟨⟨⟨⟨⟨⟨⟨c0, c1⟩, c2⟩, c3⟩, c4⟩, c5⟩, c6⟩, c7⟩, c8⟩, c9⟩, c10⟩, c11⟩ := c
  obtain ⟨b1, b2⟩ := fExB.ok b
  have ef : fAd K d.at_ = ma K (ga K x) "__init__" := by rw [hat] <;> rfl
  rw [ef] at F
  obtain ⟨oc, od, cl, dV, kV, doc, pm, an, cdv, ct, osl, efd, ec, lk, k1, dv⟩ := F.ex
  subst efd
  rw [lk] at c8
  rw [hcl] at ec
  obtain ⟨⟨n0, cc⟩, cl2, rfl⟩ : ∃ a r, cl = a :: r := by
    cases cl with
    | nil => cases ec
    | cons a r => exact ⟨a, r, rfl⟩
  have ec2 : n0 = Str.ofString "__class__" ∧ cl2 = [] := by
    simp only [List.map_cons, List.cons.injEq, List.map_eq_nil_iff] at ec
    exact ec
  obtain ⟨rfl, rfl⟩ := ec2
  obtain ⟨cda, rfl⟩ : ∃ cda, cdv = .ref cda := by
    cases cdv <;> first | exact ⟨_, rfl⟩ | (exfalso; revert c8; simp)
  have c8' : (match K.lookup cc, K.lookup cda with
        | some ⟨_, _, .cell (some (.ref C')), _⟩, some ⟨_, _, .fields vs, _⟩ => C' == (ga K x) && (match vs.toList with
          | _ :: _ :: .str z _ :: _ => z == file
          | _ => false)
        | _, _ => false) = true := c8
  refine ⟨fGlo_ok X G c0, ⟨hfl, ?_, eqO_ok c2, eqO_ok c3, eqO_ok c4, c5, eqO_ok c6, eqO_ok c7, ?_, htop⟩, eqO_ok c9, c10, ?_, c11, b1, b2⟩
  · split at c1
    · rename_i ty dd cd sl e
      simp only [Bool.and_eq_true, beq_iff_eq] at c1
      obtain ⟨rfl, c1⟩ := c1
      split at c1
      · rename_i C' bm k0 k1' k2 k3 n k5 hm hsl
        simp only [Bool.and_eq_true, beq_iff_eq, Bool.not_eq_true'] at c1
        obtain ⟨⟨⟨⟨rfl, rfl⟩, hdel⟩, hdict⟩, hr⟩ := c1
        obtain ⟨n1, n2, n3, n4, n5, n6, n7, n8, n9, n10, n11⟩ := cd
        have hm' : n3 = _ := hm
        have hdel' : n11 = false := hdel
        have hdict' : n6 = true := hdict
        subst hm' hdel' hdict'
        obtain ⟨sl⟩ := sl
        have hsl' : sl = _ := hsl
        subst hsl'
        exact ⟨_, _, _, _, _, _, _, _, _, _, _, _, _, _, _, e, hr⟩
      · cases c1
    · cases c1
  · split at c8'
    · rename_i cl0 cld C' csl ccl cdd vs ccs e1 e2
      simp only [Bool.and_eq_true, beq_iff_eq] at c8'
      obtain ⟨rfl, c8'⟩ := c8'
      split at c8'
      · rename_i v0 v1 z t r hv
        have hz : z = file := beq_iff_eq.mp c8'
        subst hz
        refine ⟨oc, od, dV, kV, doc, pm, an, cda, ct, cc, osl, p1, p2, p3, q1, q2, q3, q4, q5, q6, q7, q8, q9, q10, cl0, ccl, cld, cdd, csl, ccs, vs, z, t, ?_, k1, e1, e2, ?_, hfile, hq⟩
        · rw [lk, hn, ha, hb, hs] <;> rfl
        · rw [← Array.getElem?_toList, hv]
          rfl
      · cases c8'
    · cases c8'
  · intro o fd' e1 e2
    rw [lk] at e1
    cases e1
    cases e2
    rcases dv with ⟨z, _⟩ | ⟨_, T, oT, its, n, rfl, hT, hd, hv⟩
    · rw [hdf] at z
      cases z
    · rw [hdf] at hv
      obtain ⟨u, rfl, ru⟩ := vals1 hv
      obtain rfl : u = Value.none := ru
      exact ⟨T, oT, n, rfl, hT, hd⟩
end
end L2.Z

set_option maxHeartbeats 4000000
/-! Operators by what their operands are. -/
namespace L2.Z
open PySem PySem.Spec PyProof.Rows
theorem orO {X : Cx} {f : Value → Value → Sem Value} {r r' : R2} (h : OpR X f r) (h' : OpR X f r') : OpR X f (fun x y H Q => r x y H Q ∨ r' x y H Q) := fun pins s σ H x y v u Q I rx ry q => q.elim (h pins s σ H x y v u Q I rx ry) (h' pins s σ H x y v u Q I rx ry)
theorem orC {X : Cx} {f : Value} {r r' : List V → Hp → VK → Prop} (h : CallR X f r) (h' : CallR X f r') : CallR X f (fun vs H Q => r vs H Q ∨ r' vs H Q) := fun pins s σ H vs us Q I rx q => q.elim (h pins s σ H vs us Q I rx) (h' pins s σ H vs us Q I rx)
theorem OpR.weak {X : Cx} {f : Value → Value → Sem Value} {r r' : R2} (h : OpR X f r) (k : ∀ x y H Q, r' x y H Q → r x y H Q) : OpR X f r' := fun pins s σ H x y v u Q I rx ry q => h pins s σ H x y v u Q I rx ry (k _ _ _ _ q)
theorem SlR.weak {X : Cx} {r r' : V → Option Int → Option Int → Hp → VK → Prop} (h : L2.SlR X r) (k : ∀ x l u H Q, r' x l u H Q → r x l u H Q) : L2.SlR X r' := fun pins s σ H x v vl vu lo hi sl Q I rx hs pl pu q => h pins s σ H x v vl vu lo hi sl Q I rx hs pl pu (k _ _ _ _ _ q)
theorem CallR.weak {X : Cx} {f : Value} {r r' : List V → Hp → VK → Prop} (h : CallR X f r) (k : ∀ x H Q, r' x H Q → r x H Q) : CallR X f r' := fun pins s σ H x us Q I rx q => h pins s σ H x us Q I rx (k _ _ _ q)
/-- H' has a new object o at p; what stood stands -/
structure New (H : Hp) (p : Addr) (o : HO) (H' : Hp) : Prop where
  same : Same H H'
  free : H p = none
  here : H' p = some o
theorem same_upd {H : Hp} {p : Addr} {o : HO} (hp : H p = none) : Same H (upd H p o) := fun b u e => by rw [upd_ne (ne_of_none e hp)]; exact e
theorem New.upd {H : Hp} {p : Addr} {o : HO} (hp : H p = none) : New H p o (upd H p o) := ⟨same_upd hp, hp, upd_same⟩
section
variable {X : Cx} {e : Expr} {es : List Expr} {σ : St} {H : Hp} {Q : VK} {pos p2 : Pos} {lo hi : Option Expr}
theorem e_lstN (h : AW X es σ H fun ys H1 => ys.length ≤ sizeLine ∧ ∀ p H', New H1 p (.lst ys) H' → Q (.ref p) H') : EW X (.List es pos) σ H Q := e_lst (AW.mono h fun ys H1 ⟨a, b⟩ => ⟨a, fun p hp => b p _ (.upd hp)⟩)
theorem e_tupN {z} (h : AW X es σ H fun ys H1 => ys.length ≤ sizeLine ∧ ∀ p H', New H1 p (.tup ys) H' → Q (.ref p) H') : EW X (.Tuple es z pos) σ H Q := e_tup (AW.mono h fun ys H1 ⟨a, b⟩ => ⟨a, fun p hp => b p _ (.upd hp)⟩)
theorem e_dKN (h : ∀ p H', New H p (.dK []) H' → Q (.ref p) H') : EW X (.Dict [] [] pos) σ H Q := e_dK fun p hp => h p _ (.upd hp)
def rSlLN (K : PySem.W.Frag) : V → Option Int → Option Int → Hp → VK → Prop := fun x lo hi H Q => ∃ a xs, x = .ref a ∧ SqL K H a xs ∧ ∀ p H', New H p (.lst (cutV xs lo hi)) H' → Q (.ref p) H'
theorem sl_listN : L2.SlR X (rSlLN X.K) := SlR.weak sl_list fun x l u H Q ⟨a, xs, e, h, q⟩ => ⟨a, xs, e, h, fun p hp => q p _ (.upd hp)⟩
end
def rCatN : R2 := fun x y H Q => ∃ l b xs zs, x = .ref l ∧ y = .ref b ∧ H l = some (.lst xs) ∧ H b = some (.lst zs) ∧ xs.length + zs.length ≤ sizeLine ∧ ∀ p H', New H p (.lst (xs ++ zs)) H' → Q (.ref p) H'
def rCatTN (K : PySem.W.Frag) : R2 := fun x y H Q => ∃ a b xs ys, x = .ref a ∧ y = .ref b ∧ SqT K H a xs ∧ SqT K H b ys ∧ xs ≠ [] ∧ xs.length + ys.length ≤ sizeLine ∧ (ys = [] → Q (.ref a) H) ∧ (ys ≠ [] → ∀ p H', New H p (.tup (xs ++ ys)) H' → Q (.ref p) H')
def rRepN : R2 := fun x y H Q => ∃ l k xs, x = .ref l ∧ y = .int k ∧ H l = some (.lst xs) ∧ -(2 ^ 63) ≤ k ∧ k < 2 ^ 63 ∧ xs.length * k.toNat ≤ sizeLine ∧ ∀ p H', New H p (.lst (List.replicate k.toNat xs).flatten) H' → Q (.ref p) H'
def rAddZ (K : PySem.W.Frag) : R2 := fun x y H Q => rI0 (fun i j => .int (i + j)) x y H Q ∨ rCatN x y H Q ∨ rCatTN K x y H Q
def rMulZ : R2 := fun x y H Q => rI CMulW (fun i j => .int (i * j)) x y H Q ∨ rRepN x y H Q
section
variable {X : Cx}
theorem z_add : OpR X (binaryOp .Add) (rAddZ X.K) := orO op_add (orO (OpR.weak op_cat fun x y H Q ⟨l, b, xs, zs, e1, e2, h1, h2, h3, q⟩ => ⟨l, b, xs, zs, e1, e2, h1, h2, h3, fun p hp => q p _ (.upd hp)⟩)
  (OpR.weak op_catT fun x y H Q ⟨l, b, xs, zs, e1, e2, h1, h2, h3, h4, h5, q⟩ => ⟨l, b, xs, zs, e1, e2, h1, h2, h3, h4, h5, fun ne p hp => q ne p _ (.upd hp)⟩))
theorem z_mul : OpR X (binaryOp .Mult) rMulZ := orO op_mulW (OpR.weak op_rep fun x y H Q ⟨l, k, xs, e1, e2, h1, h2, h3, h4, q⟩ => ⟨l, k, xs, e1, e2, h1, h2, h3, h4, fun p hp => q p _ (.upd hp)⟩)
end
theorem cmulW {i j : Int} (a b : Nat) (ha : i.natAbs < 2 ^ a) (hb : j.natAbs < 2 ^ b) (h0 : 0 < a := by decide) (h1 : 0 < b := by decide) (h : a + b ≤ 1000000 := by decide) : CMulW i j := wide_mul ha hb h0 h1 h
/-- an int of at most 64 signs -/
theorem nat64 {i : Int} (h1 : -(2 ^ 63) ≤ i) (h2 : i < 2 ^ 63) : i.natAbs < 2 ^ 64 := by omega
end L2.Z

set_option maxHeartbeats 4000000
namespace L2.Z
open PySem PySem.Spec PyProof.Rows
theorem cutV_map {α : Type} (g : α → V) (ns : List α) (lo hi : Option Int) : ∃ ms : List α, cutV (ns.map g) lo hi = ms.map g := by
  refine ⟨(ns.drop (HT.sIx (ns.map g).length 0 lo)).take (HT.sIx (ns.map g).length (ns.map g).length hi - HT.sIx (ns.map g).length 0 lo), ?_⟩
  unfold cutV
  rw [← List.map_drop, ← List.map_take]
theorem intBits_lt {i : Int} {n : Nat} (h : i.natAbs < 2 ^ n) (h0 : 0 < n) : Builtin.Int.intBits i ≤ n := by
  unfold Builtin.Int.intBits
  have := PySem.Flt.log2_lt_of h0 h
  split <;> omega
theorem mul_lt {i j : Int} {a b c : Nat} (ha : i.natAbs < 2 ^ a) (hb : j.natAbs < 2 ^ b) (h : a + b ≤ c) : (i * j).natAbs < 2 ^ c := Nat.lt_of_lt_of_le (wide_lt ha hb) (Nat.pow_le_pow_right (by decide) h)
theorem lt_pow {i : Int} {a b : Nat} (ha : i.natAbs < 2 ^ a) (h : a ≤ b) : i.natAbs < 2 ^ b := Nat.lt_of_lt_of_le ha (Nat.pow_le_pow_right (by decide) h)
theorem add_lt {i j : Int} {a c : Nat} (ha : i.natAbs < 2 ^ a) (hb : j.natAbs < 2 ^ a) (h : a < c) : (i + j).natAbs < 2 ^ c := by
  have h1 : (2 : Nat) ^ (a + 1) ≤ 2 ^ c := Nat.pow_le_pow_right (by decide) h
  rw [Nat.pow_succ] at h1
  omega
theorem szL {n : Nat} (h : Nat.ble n 1000 = true := by rfl) : n ≤ sizeLine := Nat.le_trans (Nat.le_of_ble_eq_true h) (by decide)
section
variable {X : Cx} {σ : St} {H : Hp} {Q : VK} {x c : Str} {p p1 p2 pos : Pos} {e : Expr}
theorem e_glob {u : Value} {v : V} (hm : X.mg x = some u) (r : RelV v u) (q : Q v H) (hg : Gl X x := by rfl) (hd : (x == ("__debug__" : Str)) = false := by decide) : EW X (.Name x pos) σ H Q := e_of (pe_glob hg hm r hd) q
theorem e_bltn {u : Value} {v : V} (hm : X.mg x = none) (hv : bootBuiltins x = some u) (r : RelV v u) (q : Q v H) (hg : Gl X x := by rfl) (hn : x ≠ "__name__" := by decide) (hd : (x == ("__debug__" : Str)) = false := by decide) : EW X (.Name x pos) σ H Q := e_of (pe_bltn hg hm hv r hn hd) q
/-- isinstance(e, C), C a class of the module -/
theorem e_isC {C : Addr} (mi : X.mg "isinstance" = none) (hm : X.mg c = some (.ref C)) (h : EW X e σ H fun v H1 => ∃ t b, TyZ X.K H1 v t ∧ PySem.W.kitOne X.K t (.ref C) = some b ∧ Q (.bl b) H1)
    (hg : Gl X "isinstance" := by rfl) (hg2 : Gl X c := by rfl) (hd : (c == ("__debug__" : Str)) = false := by decide) (h1 : starEach [e, .Name c p2] X.env = (false, eval e X.env) :: starEach [.Name c p2] X.env := by rfl)
    (h2 : starEach [.Name c p2] X.env = (false, eval (.Name c p2) X.env) :: starEach [] X.env := by rfl) (h3 : (backTo pos (starEach [.Name c p2] X.env)).any (·.1) = false := by rfl) : EW X (.Call (.Name "isinstance" p) [e, .Name c p2] [] pos) σ H Q := by
  refine e_callB call_isZ mi boot_isinstance ?_ hg (by decide) (by decide) h1 h3
  refine a_cons (EW.mono h fun v H1 ⟨t, b, ty, k, q⟩ => ?_) h1
  refine a_cons (e_glob (v := .ref C) hm rfl ?_ hg2 hd) h2
  exact a_nil ⟨v, .ref C, t, _, b, rfl, .own C, ty, k, q⟩
/-- isinstance(e, T), T a built-in class -/
theorem e_isT {T : String} (mi : X.mg "isinstance" = none) (hm : X.mg c = none) (hv : bootBuiltins c = some (.type T)) (h : EW X e σ H fun v H1 => ∃ t b, TyZ X.K H1 v t ∧ PySem.W.kitOne X.K t (.type T) = some b ∧ Q (.bl b) H1)
    (hg : Gl X "isinstance" := by rfl) (hg2 : Gl X c := by rfl) (hn : c ≠ "__name__" := by decide) (hd : (c == ("__debug__" : Str)) = false := by decide) (h1 : starEach [e, .Name c p2] X.env = (false, eval e X.env) :: starEach [.Name c p2] X.env := by rfl)
    (h2 : starEach [.Name c p2] X.env = (false, eval (.Name c p2) X.env) :: starEach [] X.env := by rfl) (h3 : (backTo pos (starEach [.Name c p2] X.env)).any (·.1) = false := by rfl) : EW X (.Call (.Name "isinstance" p) [e, .Name c p2] [] pos) σ H Q := by
  refine e_callB call_isZ mi boot_isinstance ?_ hg (by decide) (by decide) h1 h3
  refine a_cons (EW.mono h fun v H1 ⟨t, b, ty, k, q⟩ => ?_) h1
  refine a_cons (e_bltn (v := .ty T) hm hv rfl ?_ hg2 hn hd) h2
  exact a_nil ⟨v, .ty T, t, _, b, rfl, .ty T, ty, k, q⟩
end
/-! ### lists of exceptions -/
/-- at a an exception of the class c.1, its field c.2 is v -/
def ErrAt (H : Hp) (v : V) (a : Addr) (c : Addr × Str) : Prop := ∃ d, H a = some (exT a c.1 d) ∧ H d = some (.xd [(c.2, v)])
theorem ErrAt.keep {H H' : Hp} {v : V} {a : Addr} {c : Addr × Str} (h : ErrAt H v a c) (k : Same H H') : ErrAt H' v a c := by
  obtain ⟨d, h1, h2⟩ := h
  exact ⟨d, k _ _ h1, k _ _ h2⟩
abbrev Errs (H : Hp) (v : V) : List Addr → List (Addr × Str) → Prop := Paired (ErrAt H v)
theorem Errs.keep {H H' : Hp} {v : V} (k : Same H H') : ∀ {as : List Addr} {cs : List (Addr × Str)}, Errs H v as cs → Errs H' v as cs
  | _, _, .nil => .nil
  | _, _, .cons h t => .cons (h.keep k) (Errs.keep k t)
theorem Errs.append {H : Hp} {v : V} : ∀ {as bs : List Addr} {cs ds : List (Addr × Str)}, Errs H v as cs → Errs H v bs ds → Errs H v (as ++ bs) (cs ++ ds)
  | _, _, _, _, .nil, t => t
  | _, _, _, _, .cons h s, t => .cons h (Errs.append s t)
theorem same_new {H : Hp} {C : Addr} {fld : Str} {v : V} {a d : Addr} (na : H a = none) (nd : H d = none) (ne : d ≠ a) : Same H (upd (upd H d (.xd [(fld, v)])) a (exT a C d)) ∧ ErrAt (upd (upd H d (.xd [(fld, v)])) a (exT a C d)) v a (C, fld) := by
  refine ⟨fun b u e => ?_, d, upd_same, ?_⟩
  · rw [upd_ne (ne_of_none e na), upd_ne (ne_of_none e nd)]
    exact e
  · rw [upd_ne ne, upd_same]
/-- a new exception of c, its field v -/
def NewErr (c : Addr × Str) (v : V) (H : Hp) (Q : VK) : Prop := ∀ a H', Same H H' → H a = none → ErrAt H' v a c → Q (.ref a) H'
theorem NewErr.ex {C : Addr} {fld : Str} {v : V} {H : Hp} {Q : VK} (h : NewErr (C, fld) v H Q) : NewEx C fld v H Q := fun a d na nd ne => h a _ (same_new na nd ne).1 na (same_new na nd ne).2
/-- e makes such an exception of v, wherever it stands -/
structure MkEx (X : Cx) (σ : St) (v : V) (e : Expr) (c : Addr × Str) : Prop where
  ew : ∀ (H : Hp) (Q : VK), NewErr c v H Q → EW X e σ H Q
  st : ∀ es : List Expr, starEach (e :: es) X.env = (false, eval e X.env) :: starEach es X.env
theorem a_exs {X : Cx} {σ : St} {v : V} : ∀ {es : List Expr} {cs : List (Addr × Str)} {H : Hp} {Q : List V → Hp → Prop}, Paired (MkEx X σ v) es cs → (∀ as H', Same H H' → Errs H' v as cs → Q (as.map V.ref) H') → AW X es σ H Q
  | _, _, H, Q, .nil, h => a_nil (h [] H (Same.refl H) .nil)
  | _, _, H, Q, .cons m t, h => a_cons (m.ew H _ fun a H1 s1 na h1 => a_exs t fun as H' sm he => h (a :: as) H' (s1.trans sm) (.cons (h1.keep sm) he)) (m.st _)
/-! ### how long a text is -/
structure Gd (d : PyData) : Prop where
  sh : d.showable = true
  lf : d.leavesShort 13 = true
  wt : d.weight ≤ 1000
  dp : d.depth ≤ 20
theorem Gd.len {d : PyData} (g : Gd d) : d.shown.length ≤ sizeLine := PyData.shown_fits (B := 13) (by decide) (by decide) g.lf (Nat.le_trans g.wt (by decide))
theorem all_rep {f : List PyData → Bool} {g : PyData → Bool} {d : PyData} (f0 : f [] = true) (fc : ∀ x xs, f (x :: xs) = (g x && f xs)) (h : g d = true) : ∀ n, f (List.replicate n d) = true
  | 0 => f0
  | n + 1 => by rw [List.replicate_succ, fc, h, all_rep f0 fc h n]; rfl
theorem weight_rep {d : PyData} : ∀ n, PyData.weightAll (List.replicate n d) = n * (d.weight + 1)
  | 0 => by simp [PyData.weightAll]
  | n + 1 => by rw [List.replicate_succ, PyData.weightAll, weight_rep n, Nat.succ_mul]; omega
theorem depth_rep {d : PyData} : ∀ n, PyData.depthAll (List.replicate n d) ≤ d.depth
  | 0 => by simp [PyData.depthAll]
  | n + 1 => by
    rw [List.replicate_succ, PyData.depthAll]
    have := depth_rep (d := d) n
    omega
/-- n times the same in a list -/
theorem Gd.rep {d : PyData} (g : Gd d) {n : Nat} (hn : n ≤ 100) : (PyData.list (List.replicate n d)).showable = true ∧ (PyData.list (List.replicate n d)).shown.length ≤ sizeLine ∧ (PyData.list (List.replicate n d)).depth ≤ 60 := by
  refine ⟨?_, PyData.shown_fits (B := 13) (by decide) (by decide) ?_ ?_, ?_⟩
  · rw [PyData.showable]
    exact all_rep (g := PyData.showable) (by simp [PyData.showableAll]) (fun x xs => by rw [PyData.showableAll]) g.sh n
  · rw [PyData.leavesShort]
    exact all_rep (g := PyData.leavesShort 13) (by simp [PyData.leavesShortAll]) (fun x xs => by rw [PyData.leavesShortAll]) g.lf n
  · rw [PyData.weight, weight_rep]
    have h1 : n * (d.weight + 1) ≤ 100 * 1001 := Nat.mul_le_mul hn (by have := g.wt; omega)
    exact Nat.le_trans h1 (by decide)
  · rw [PyData.depth]
    have := depth_rep (d := d) n
    have := g.dp
    omega
end L2.Z

set_option maxHeartbeats 4000000
/-! What no one changes: G, a part of the heap H. -/
namespace L2.Z
open PySem PySem.Spec PyProof.Rows
/-- from (G, H) to (G', H'): what stands in G, in H stands; what is new in G' is new in H' -/
structure Gr (G H G' H' : Hp) : Prop where
  gg : Same G G'
  gh : Same G' H'
  hh : Same H H'
  nw : ∀ b, G b = none → H b ≠ none → G' b = none
theorem Gr.refl {G H : Hp} (h : Same G H) : Gr G H G H := ⟨Same.refl _, h, Same.refl _, fun _ e _ => e⟩
theorem Gr.trans {G H G1 H1 G2 H2 : Hp} (a : Gr G H G1 H1) (b : Gr G1 H1 G2 H2) : Gr G H G2 H2 :=
  ⟨a.gg.trans b.gg, b.gh, a.hh.trans b.hh, fun c e n => b.nw c (a.nw c e n) (fun z => n (by
    cases q : H c with
    | none => rfl
    | some o => rw [a.hh _ _ q] at z; cases z))⟩
/-- the heap has grown -/
theorem Gr.of {G H H' : Hp} (h : Same G H) (k : Same H H') : Gr G H G H' := ⟨Same.refl _, h.trans k, k, fun _ e _ => e⟩
theorem Gr.step {G H G1 H1 H2 : Hp} (a : Gr G H G1 H1) (k : Same H1 H2) : Gr G H G1 H2 := a.trans (.of a.gh k)
/-- a new object is put into G -/
theorem Gr.new {G H H' : Hp} {p : Addr} {o : HO} (h : Same G H) (n : New H p o H') : Gr G H (upd G p o) H' := by
  have gp : G p = none := h.free n.free
  refine ⟨same_upd gp, fun b u e => ?_, n.same, fun b e ne => ?_⟩
  · by_cases hb : b = p
    · subst hb
      rw [upd_same] at e
      cases e
      exact n.here
    · rw [upd_ne hb] at e
      exact n.same _ _ (h _ _ e)
  · rw [upd_ne (fun z => ne (by rw [z]; exact n.free))]
    exact e
/-- an object that stood apart since it was new is put into G -/
theorem Gr.put {G H G' H' : Hp} {p : Addr} {o : HO} (a : Gr G H G' H') (f : H p = none) (g : G' p = none) (e : H' p = some o) : Gr G H (upd G' p o) H' ∧ Same G' (upd G' p o) := by
  refine ⟨⟨a.gg.trans (same_upd g), fun b u z => ?_, a.hh, fun b z ne => ?_⟩, same_upd g⟩
  · by_cases hb : b = p
    · subst hb
      rw [upd_same] at z
      cases z
      exact e
    · rw [upd_ne hb] at z
      exact a.gh _ _ z
  · rw [upd_ne (fun y => ne (by rw [y]; exact f))]
    exact a.nw b z ne
/-- an object that stands apart is changed; it was new -/
theorem Gr.write {G H G' H' : Hp} {p : Addr} {o : HO} (a : Gr G H G' H') (f : H p = none) (g : G' p = none) : Gr G H G' (upd H' p o) := by
  refine ⟨a.gg, fun b u z => ?_, fun b u z => ?_, a.nw⟩
  · rw [upd_ne (ne_of_none z g)]
    exact a.gh _ _ z
  · rw [upd_ne (ne_of_none z f)]
    exact a.hh _ _ z
theorem Gr.off {G H G' H' : Hp} {p : Addr} {o : HO} (a : Gr G H G' H') (g : G p = none) (e : H p = some o) : G' p = none ∧ H' p = some o := ⟨a.nw p g (by rw [e]; simp), a.hh _ _ e⟩
/-- a new object that stays apart -/
theorem Gr.off_new {G H H' : Hp} {p : Addr} {o : HO} (h : Same G H) (n : New H p o H') : Gr G H G H' ∧ G p = none ∧ H' p = some o := ⟨.of h n.same, h.free n.free, n.here⟩
section
variable {X : Cx} {tg iter : Expr} {σ : St} {H : Hp} {Q : VK} {pos : Pos}
/-- [elt for tg in iter if ..], its items told by Pv: what holds of the items made so far, in G -/
def LcN (X : Cx) (elt tg iter : Expr) (ifs : List Expr) (scope : Scope) (own : List (Str × Nat)) (σ : St) (H : Hp) (Q : VK) : Prop :=
    (IW X tg iter σ H fun n S Y H1 => ∃ (G : Hp) (Pv : Nat → List V → Hp → Prop), Same G H1 ∧ n ≤ 16000000 ∧ Pv 0 [] G ∧ (∀ i acc G' H', i ≤ n → Gr G H1 G' H' → Pv i acc G' → S H') ∧
      (∀ i acc G' H' x H2, i < n → acc.length ≤ i → Gr G H1 G' H' → Pv i acc G' → Y i H' x H2 → ∀ X', IsBlk X scope X' → GW X' tg x (wipe σ (own.map (·.2))) H2 fun σ3 H3 => wipe σ3 (own.map (·.2)) = wipe σ (own.map (·.2)) ∧
        ∀ X', IsBlk X scope X' → IfsW X' ifs σ3 H3 fun b H4 => if b = true then ∀ X', IsBlk X scope X' → EW X' elt σ3 H4 fun y H5 => ∃ G5, Gr G' H' G5 H5 ∧ Pv (i + 1) (acc ++ [y]) G5 else ∃ G4, Gr G' H' G4 H4 ∧ Pv (i + 1) acc G4) ∧
      ∀ L acc G2 G' H', acc.length ≤ n → Gr G H1 G2 H' → Gr G H1 G' H' → Pv n acc G2 → Same G2 G' → H1 L = none → G' L = some (.lst acc) → Q (.ref L) H')
theorem LcN.w {elt : Expr} {ifs : List Expr} {scope : Scope} {own : List (Str × Nat)} (h : LcN X elt tg iter ifs scope own σ H Q) : LcW X elt tg iter ifs scope own σ H Q := by
  obtain ⟨wi, p, q⟩ := h
  refine ⟨wi, p, fun R hR => q R fun J H1 n S Y w hk => hR J H1 n S Y w fun L hL => ?_⟩
  obtain ⟨G, Pv, sG, hn, h0, hS, ht, hd⟩ := hk
  have gL : G L = none := sG.free hL
  refine ⟨fun i H' => ∃ acc G', acc.length ≤ i ∧ Gr G H1 G' H' ∧ G' L = none ∧ H' L = some (.lst acc) ∧ Pv i acc G', ⟨[], G, Nat.le_refl _, .of sG (same_upd hL), gL, upd_same, h0⟩, ?_, ?_, ?_⟩
  · rintro i H' hi ⟨acc, G', hl, g, _, _, pv⟩
    exact hS i acc G' H' hi g pv
  · rintro i H' x H2 hi ⟨acc, G', hl, g, gL', hL', pv⟩ y X' bX
    have z := ht i acc G' H' x H2 hi hl g pv y X' bX
    refine fun pins s u I r => thn (z pins s u I r) fun _ s' ⟨σ', H3, I', e, k⟩ => ⟨σ', H3, I', e, fun X2 b2 => ?_⟩
    have kk := k X2 b2
    have imp : ∀ b H4, (if b = true then ∀ X', IsBlk X scope X' → EW X' elt σ' H4 fun y H5 => ∃ G5, Gr G' H' G5 H5 ∧ Pv (i + 1) (acc ++ [y]) G5 else ∃ G4, Gr G' H' G4 H4 ∧ Pv (i + 1) acc G4) →
        (if b = true then ∀ X', IsBlk X scope X' → EW X' elt σ' H4 fun y H5 => ∃ acc, H5 L = some (.lst acc) ∧ acc.length < sizeLine ∧ ∃ acc_1 G', acc_1.length ≤ i + 1 ∧ Gr G H1 G' (upd H5 L (.lst (acc ++ [y]))) ∧ G' L = none ∧ (upd H5 L (.lst (acc ++ [y]))) L = some (.lst acc_1) ∧ Pv (i + 1) acc_1 G'
          else ∃ acc G', acc.length ≤ i + 1 ∧ Gr G H1 G' H4 ∧ G' L = none ∧ H4 L = some (.lst acc) ∧ Pv (i + 1) acc G') := fun b H4 z => by
      cases b with
      | true =>
        rw [if_pos rfl] at z ⊢
        intro X3 b3
        refine (z X3 b3).mono fun y H5 ⟨G5, g5, pv5⟩ => ?_
        obtain ⟨o1, o2⟩ := g5.off gL' hL'
        refine ⟨acc, o2, by rw [sizeLine_eq]; omega, acc ++ [y], G5, by rw [List.length_append]; show acc.length + 1 ≤ i + 1; omega, (g.trans g5).write hL o1, o1, upd_same, pv5⟩
      | false =>
        rw [if_neg Bool.false_ne_true] at z ⊢
        obtain ⟨G4, g4, pv4⟩ := z
        obtain ⟨o1, o2⟩ := g4.off gL' hL'
        exact ⟨acc, G4, by omega, g.trans g4, o1, o2, pv4⟩
    unfold IfsW at kk ⊢
    match ifs, kk with
    | [], kk => exact imp _ _ kk
    | [c], kk => exact kk.mono imp
  · rintro H' ⟨acc, G', hl, g, gL', hL', pv⟩
    obtain ⟨g2, s2⟩ := g.put hL gL' hL'
    exact hd L acc G' _ H' hl g g2 pv s2 hL upd_same
theorem e_lcN {elt : Expr} {ifs : List Expr} {scope : Scope} {own : List (Str × Nat)} (hN : X.N.Nodup) (ok : blkC X.N X.env.scope scope own = true) (h : LcN X elt tg iter ifs scope own σ H Q)
    (hc : X.calm = true := by rfl) (hs : ∀ x, foldedSetIterable iter X.env x = pure x := by intro _; rfl) : EW X (.ListComp elt [⟨tg, iter, ifs, 0⟩] scope pos) σ H Q := e_lc (own := own) hN ok h.w hc hs
theorem s_lcN {D : Ends} {elt : Expr} {ifs : List Expr} {scope : Scope} {own : List (Str × Nat)} {i : Nat} {y : Str} {py spos : Pos} {N : List Str} (hN : X.N.Nodup) (hX : X.N = N) (hi : At N i y) (ok : blkC X.N X.env.scope scope own = true)
    (h : LcN X elt tg iter ifs scope own σ H fun v H1 => D.nx (σ.set i (some v)) H1) (hyl : X.env.scope.names.lookup y = some .local := by rfl)
    (hsw : swapsWith (.ListComp elt [⟨tg, iter, ifs, 0⟩] scope pos) (some (.Name y py)) spos.line X.env = pure true := by exact sw_true rfl rfl rfl (by decide +kernel))
    (hc : X.calm = true := by rfl) (hs : ∀ x, foldedSetIterable iter X.env x = pure x := by intro _; rfl) : SW X (.Assign [.Name y py] (.ListComp elt [⟨tg, iter, ifs, 0⟩] scope pos) spos) D σ H := s_lc (own := own) hN hX hi ok h.w hyl hsw hc hs
end
/-- no test in a comprehension -/
theorem ifs0 {X : Cx} {σ : St} {H : Hp} {A B : Hp → Prop} (h : A H) : IfsW X [] σ H fun b H4 => if b = true then A H4 else B H4 := (show (if true = true then A H else B H) from (if_pos rfl).mpr h)
theorem DqAll.snoc {K : PySem.W.Frag} {H : Hp} {v : V} {d : PyData} : ∀ {vs : List V} {ds : List PyData}, DqAll K H vs ds → Dq K H v d → DqAll K H (vs ++ [v]) (ds ++ [d])
  | _, _, .nil, h => .cons h .nil
  | _, _, .cons h t, z => .cons h (DqAll.snoc t z)
theorem cutV_to {α : Type} (g : α → V) (xs : List α) {k : Nat} (hk : k ≤ xs.length) : cutV (xs.map g) none (some (k : Int)) = (xs.take k).map g := by
  unfold cutV
  rw [HT.sIx_none, List.length_map, HT.sIx_nat, Nat.min_eq_left hk, List.drop_zero, Nat.sub_zero, List.map_take]
theorem cutV_from {α : Type} (g : α → V) (xs : List α) {k : Nat} (hk : k ≤ xs.length) : cutV (xs.map g) (some (k : Int)) none = (xs.drop k).map g := by
  unfold cutV
  rw [HT.sIx_none, List.length_map, HT.sIx_nat, Nat.min_eq_left hk, List.map_drop, List.take_of_length_le (by rw [List.length_drop, List.length_map]; omega)]
end L2.Z

set_option maxHeartbeats 4000000
namespace L2.Z.Law
open PySem PySem.Spec PyProof.Rows PySem.ZX
abbrev PW : Program := PySem.Challenge.pw_instancewoods_k01_errors
def topS (i : Nat) : Stmt := PW.main.body.getD i (.Pass ⟨0, 0, 0, 0⟩)
local macro_rules | `(tactic| walk_at "zi") => `(tactic| refine ⟨_, _, rfl, rfl, ?_⟩)
local macro_rules | `(tactic| walk_at "zmod") => `(tactic| refine ⟨_, _, rfl, rfl, (show (0 : Int) < _ by first | decide | omega), ?_⟩)
local macro_rules | `(tactic| walk_at "zdiv") => `(tactic| refine ⟨_, _, rfl, rfl, ⟨(show (0 : Int) < _ by first | decide | omega), ?_⟩, ?_⟩)
local macro_rules | `(tactic| walk_at "z1") => `(tactic| first
  | ((with_reducible show EW _ (Expr.Name _ _) _ _ _); walk_at "nm")
  | ((with_reducible show EW _ (Expr.Constant _ _ _) _ _ _); first | with_reducible refine e_int ?_ | with_reducible refine e_str ?_ | with_reducible refine e_bl ?_ | with_reducible refine e_non ?_)
  | ((with_reducible show EW _ (Expr.BinOp _ Operator.Add _ _) _ _ _); refine e_op z_add ?_)
  | ((with_reducible show EW _ (Expr.BinOp _ Operator.Sub _ _) _ _ _); refine e_op op_sub ?_)
  | ((with_reducible show EW _ (Expr.BinOp _ Operator.Mult _ _) _ _ _); refine e_op z_mul ?_)
  | ((with_reducible show EW _ (Expr.BinOp _ Operator.Mod _ _) _ _ _); refine e_op op_mod ?_)
  | ((with_reducible show EW _ (Expr.BinOp _ Operator.FloorDiv _ _) _ _ _); refine e_op op_fdivW ?_)
  | ((with_reducible show EW _ (Expr.BinOp _ Operator.Pow _ _) _ _ _); refine e_op op_pow ?_)
  | ((with_reducible show EW _ (Expr.List _ _) _ _ _); refine e_lstN ?_)
  | ((with_reducible show EW _ (Expr.Tuple _ _ _) _ _ _); refine e_tupN ?_)
  | ((with_reducible show EW _ (Expr.Subscript _ (Expr.Slice _ _ _ _) _) _ _ _); refine e_sl sl_listN ?_)
  | ((with_reducible show EW _ (Expr.Dict [] [] _) _ _ _); refine e_dKN ?_)
  | ((with_reducible show EW _ (Expr.BoolOp BoolOp.And [_] _) _ _ _); refine e_one ?_)
  | ((with_reducible show EW _ (Expr.BoolOp BoolOp.Or [_] _) _ _ _); refine e_one ?_)
  | ((with_reducible show EW _ (Expr.BoolOp BoolOp.And _ _) _ _ _); refine e_and ?_)
  | ((with_reducible show EW _ (Expr.BoolOp BoolOp.Or _ _) _ _ _); refine e_or ?_)
  | ((with_reducible show EW _ (Expr.IfExp _ _ _ _) _ _ _); refine e_if ?_)
  | ((with_reducible show AW _ [] _ _ _); refine a_nil ?_)
  | ((with_reducible show AW _ (_ :: _) _ _ _); refine a_cons ?_)
  | ((with_reducible show OW _ none _ _ _); refine o_no ?_)
  | ((with_reducible show OW _ (some _) _ _ _); refine o_so ?_)
  | ((with_reducible show TW _ (Expr.UnaryOp UnaryOp.Not _ _) _ _ _); refine t_not ?_)
  | ((with_reducible show TW _ (Expr.BoolOp _ _ _) _ _ _); refine t_w ?_)
  | ((with_reducible show PWW _ (Expr.BoolOp BoolOp.And [_] _) _ _ _); refine w_and1 ?_)
  | ((with_reducible show PWW _ (Expr.BoolOp BoolOp.Or [_] _) _ _ _); refine w_or1 ?_)
  | ((with_reducible show PWW _ (Expr.BoolOp BoolOp.And _ _) _ _ _); refine w_and ?_)
  | ((with_reducible show PWW _ (Expr.BoolOp BoolOp.Or _ _) _ _ _); refine w_or ?_)
  | ((with_reducible show SW _ (Stmt.Return (some _) _) _ _ _); refine s_ret ?_)
  | ((with_reducible show SW _ (Stmt.If _ _ _ _) _ _ _); refine s_if ?_)
  | ((with_reducible show SW _ (Stmt.Expr _ _) _ _ _); refine s_expr ?_)
  | ((with_reducible show SW _ (Stmt.Assign [Expr.Name _ _] _ _) _ _ _); walk_at "set")
  | ((with_reducible show BW _ [_] _ _ _); refine b_one ?_)
  | ((with_reducible show BW _ [] _ _ _); refine b_nil ?_)
  | ((with_reducible show BW _ _ _ _ _); refine b_cons ?_)
  | ((with_reducible show rAddZ _ _ _ _ _); refine Or.inl ⟨_, _, rfl, rfl, ?_⟩)
  | ((with_reducible show rI0 _ _ _ _ _); refine ⟨_, _, rfl, rfl, ?_⟩)
  | ((with_reducible show rI (fun _ j => 0 < j) _ _ _ _ _); refine ⟨_, _, rfl, rfl, (show (0 : Int) < _ by first | decide | omega), ?_⟩)
  | ((with_reducible show Ends.nx _ _ _); refine (show BW _ _ _ _ _ from ?_)))
local macro_rules | `(tactic| walk_at "z") => `(tactic| repeat walk_at "z1")
section
variable {P : Program} {w : World} {K : PySem.W.Frag} {mg : Str → Option Value} {base : Heap} {f : Addr}
abbrev sMixed : Stmt := topS 18
abbrev nsMixed : List Str := ["_law_cell", "_law_k", "_law_number"]
theorem scMixed : FnScope nsMixed ["_law_cell", "_law_k"] (defScope sMixed) := ⟨rfl, rfl, rfl, by decide +kernel, rfl, by decide +kernel, by decide +kernel⟩
local macro_rules | `(tactic| walk_at "nm") => `(tactic| first
  | ((with_reducible show EW _ (Expr.Name (Str.ofString "_law_cell") _) _ _ _); refine e_nm (i := 0) (N := nsMixed) rfl at_z rfl ?_)
  | ((with_reducible show EW _ (Expr.Name (Str.ofString "_law_k") _) _ _ _); refine e_nm (i := 1) (N := nsMixed) rfl (at_s at_z) rfl ?_)
  | ((with_reducible show EW _ (Expr.Name (Str.ofString "_law_number") _) _ _ _); refine e_nm (i := 2) (N := nsMixed) rfl (at_s (at_s at_z)) rfl ?_))
local macro_rules | `(tactic| walk_at "set") => `(tactic| first
  | ((with_reducible show SW _ (Stmt.Assign [Expr.Name (Str.ofString "_law_cell") _] _ _) _ _ _); refine s_set (i := 0) (N := nsMixed) scMixed.nd rfl at_z ?_)
  | ((with_reducible show SW _ (Stmt.Assign [Expr.Name (Str.ofString "_law_k") _] _ _) _ _ _); refine s_set (i := 1) (N := nsMixed) scMixed.nd rfl (at_s at_z) ?_)
  | ((with_reducible show SW _ (Stmt.Assign [Expr.Name (Str.ofString "_law_number") _] _ _) _ _ _); refine s_set (i := 2) (N := nsMixed) scMixed.nd rfl (at_s (at_s at_z)) ?_))
local macro_rules | `(tactic| walk_at "tg") => `(tactic| first
  | ((with_reducible show GW _ (Expr.Name (Str.ofString "_law_cell") _) _ _ _ _); refine g_nm (i := 0) (N := nsMixed) scMixed.nd rfl at_z ?_)
  | ((with_reducible show GW _ (Expr.Name (Str.ofString "_law_k") _) _ _ _ _); refine g_nm (i := 1) (N := nsMixed) scMixed.nd rfl (at_s at_z) ?_)
  | ((with_reducible show GW _ (Expr.Name (Str.ofString "_law_number") _) _ _ _ _); refine g_nm (i := 2) (N := nsMixed) scMixed.nd rfl (at_s (at_s at_z)) ?_))
/-- a number drawn from a cell and a place -/
def spMixed : Sp := fun vs H Q _ => ∃ a k : Int, vs = [.int a, .int k] ∧ a.natAbs < 2 ^ 220 ∧ 0 ≤ k ∧ k < 2 ^ 62 ∧ ∀ r : Int, 0 ≤ r → r < 2147483587 → Q (.int r) H
theorem bMixed : BodyZ P w K mg base nsMixed "_law_mixed" sMixed f 0 spMixed := by
  intro X cd A outer s H vs Q E hX hr tk hs
  subst hX
  obtain ⟨a, k, rfl, ha, k0, k1, hQ⟩ := hs
  walk_at "z"
  refine .inl ⟨_, _, rfl, rfl, cmulW 220 31 ha (by decide), ?_⟩
  walk_at "z"
  refine .inl ⟨_, _, rfl, rfl, cmulW 13 64 (by decide) (by omega), ?_⟩
  walk_at "z"
  refine .inl ⟨_, _, rfl, rfl, cmulW 80 64 (by omega) (by omega), ?_⟩
  walk_at "z"
  generalize hn : (a * 1103515245 + 7919 * k * k + k + 1) % 2147483647 = n
  have n0 : 0 ≤ n := by rw [← hn]; exact Int.emod_nonneg _ (by decide)
  have n1 : n < 2147483647 := by rw [← hn]; exact Int.emod_lt_of_pos _ (by decide)
  walk_at "z"
  refine .inl ⟨_, _, rfl, rfl, cmulW 64 64 (by omega) (by omega), ?_⟩
  walk_at "z"
  refine .inl ⟨_, _, rfl, rfl, cmulW 64 64 (by omega) (by decide), ?_⟩
  walk_at "z"
  exact hQ _ (Int.emod_nonneg _ (by decide)) (Int.emod_lt_of_pos _ (by decide))
/-- the purse that is drawn from: three numbers; the last tells how often -/
def Pu (H : Hp) (p : Addr) (t : Nat) : Prop := ∃ a b c : Int, H p = some (.lst [.int a, .int b, .int c]) ∧ b.natAbs < 2 ^ 210 ∧ 0 ≤ c ∧ c ≤ t
abbrev sPurse : Stmt := topS 19
abbrev nsPurse : List Str := ["_law_script", "_law_at", "_law_cell"]
theorem scPurse : FnScope nsPurse ["_law_script", "_law_at"] (defScope sPurse) := ⟨rfl, rfl, rfl, by decide +kernel, rfl, by decide +kernel, by decide +kernel⟩
local macro_rules | `(tactic| walk_at "nm") => `(tactic| first
  | ((with_reducible show EW _ (Expr.Name (Str.ofString "_law_script") _) _ _ _); refine e_nm (i := 0) (N := nsPurse) rfl at_z rfl ?_)
  | ((with_reducible show EW _ (Expr.Name (Str.ofString "_law_at") _) _ _ _); refine e_nm (i := 1) (N := nsPurse) rfl (at_s at_z) rfl ?_)
  | ((with_reducible show EW _ (Expr.Name (Str.ofString "_law_cell") _) _ _ _); refine e_nm (i := 2) (N := nsPurse) rfl (at_s (at_s at_z)) rfl ?_))
local macro_rules | `(tactic| walk_at "set") => `(tactic| first
  | ((with_reducible show SW _ (Stmt.Assign [Expr.Name (Str.ofString "_law_script") _] _ _) _ _ _); refine s_set (i := 0) (N := nsPurse) scPurse.nd rfl at_z ?_)
  | ((with_reducible show SW _ (Stmt.Assign [Expr.Name (Str.ofString "_law_at") _] _ _) _ _ _); refine s_set (i := 1) (N := nsPurse) scPurse.nd rfl (at_s at_z) ?_)
  | ((with_reducible show SW _ (Stmt.Assign [Expr.Name (Str.ofString "_law_cell") _] _ _) _ _ _); refine s_set (i := 2) (N := nsPurse) scPurse.nd rfl (at_s (at_s at_z)) ?_))
local macro_rules | `(tactic| walk_at "tg") => `(tactic| first
  | ((with_reducible show GW _ (Expr.Name (Str.ofString "_law_script") _) _ _ _ _); refine g_nm (i := 0) (N := nsPurse) scPurse.nd rfl at_z ?_)
  | ((with_reducible show GW _ (Expr.Name (Str.ofString "_law_at") _) _ _ _ _); refine g_nm (i := 1) (N := nsPurse) scPurse.nd rfl (at_s at_z) ?_)
  | ((with_reducible show GW _ (Expr.Name (Str.ofString "_law_cell") _) _ _ _ _); refine g_nm (i := 2) (N := nsPurse) scPurse.nd rfl (at_s (at_s at_z)) ?_))
def spPurse (K : PySem.W.Frag) : Sp := fun vs H Q _ => ∃ (l : Addr) (ns : List Int) (i : Int), vs = [.ref l, .int i] ∧ SqL K H l (ns.map V.int) ∧ 0 ≤ i ∧ i ≤ 63 ∧ ∀ p H', Pu H' p 64000 → Same H H' → H p = none → Q (.ref p) H'
theorem bPurse (mx : mg "max" = none) (ms : mg "sum" = none) : BodyZ P w K mg base nsPurse "_law_purse" sPurse f 0 (spPurse K) := by
  intro X cd A outer s H vs Q E hX hr tk hs
  subst hX
  obtain ⟨l, ns, i, rfl, hl, i0, i1, hQ⟩ := hs
  walk_at "z"
  refine e_callB (cr_sum rfl) ms (by decide +kernel) ?_
  walk_at "z"
  refine ⟨_, rfl, ?_⟩
  walk_at "z"
  refine ⟨_, rfl, ?_⟩
  refine ⟨_, _, rfl, hl, fun q H1 nq => ?_⟩
  obtain ⟨ms', em⟩ := cutV_map V.int ns (some i) (some (i + 1))
  rw [em] at nq
  walk_at "z"
  refine ⟨_, _, rfl, .inl (.inl nq.here), ?_⟩
  generalize ms'.sum = cell
  walk_at "z"
  refine e_callB (call_max2 rfl) mx (by decide +kernel) ?_
  walk_at "z"
  refine ⟨_, _, rfl, rfl, ⟨by decide, by decide +kernel⟩, ?_⟩
  walk_at "z"
  refine ⟨_, _, rfl, ?_⟩
  walk_at "z"
  refine ⟨_, _, rfl, rfl, ⟨by decide, by decide +kernel⟩, ?_⟩
  walk_at "z"
  refine ⟨_, _, rfl, rfl, ⟨by decide, by decide +kernel⟩, ?_⟩
  refine ⟨_, _, rfl, rfl, (show (0 : Int) < _ from Int.pow_pos (Int.pow_pos (by decide))), ?_⟩
  walk_at "z"
  refine .inl ⟨_, _, rfl, rfl, cmulW 64 64 (by decide) (by omega), ?_⟩
  walk_at "z"
  refine ⟨szL, fun p H2 np => ?_⟩
  have m0 : 0 ≤ cell % 2147483647 := Int.emod_nonneg _ (by decide)
  have m1 : cell % 2147483647 < 2147483647 := Int.emod_lt_of_pos _ (by decide)
  exact hQ p H2 ⟨_, _, _, np.here, lt_pow (a := 64) (by omega) (by decide), by omega, by omega⟩ (nq.same.trans np.same) (nq.same.free np.free)
abbrev sDraw : Stmt := topS 20
abbrev nsDraw : List Str := ["_law_purse_here", "_law_out_of", "_law_drawn", "_law_number", "_law_k"]
theorem scDraw : FnScope nsDraw ["_law_purse_here", "_law_out_of"] (defScope sDraw) := ⟨rfl, rfl, rfl, by decide +kernel, rfl, by decide +kernel, by decide +kernel⟩
local macro_rules | `(tactic| walk_at "nm") => `(tactic| first
  | ((with_reducible show EW _ (Expr.Name (Str.ofString "_law_purse_here") _) _ _ _); refine e_nm (i := 0) (N := nsDraw) rfl at_z rfl ?_)
  | ((with_reducible show EW _ (Expr.Name (Str.ofString "_law_out_of") _) _ _ _); refine e_nm (i := 1) (N := nsDraw) rfl (at_s at_z) rfl ?_)
  | ((with_reducible show EW _ (Expr.Name (Str.ofString "_law_drawn") _) _ _ _); refine e_nm (i := 2) (N := nsDraw) rfl (at_s (at_s at_z)) rfl ?_)
  | ((with_reducible show EW _ (Expr.Name (Str.ofString "_law_number") _) _ _ _); refine e_nm (i := 3) (N := nsDraw) rfl (at_s (at_s (at_s at_z))) rfl ?_)
  | ((with_reducible show EW _ (Expr.Name (Str.ofString "_law_k") _) _ _ _); refine e_nm (i := 4) (N := nsDraw) rfl (at_s (at_s (at_s (at_s at_z)))) rfl ?_))
local macro_rules | `(tactic| walk_at "set") => `(tactic| first
  | ((with_reducible show SW _ (Stmt.Assign [Expr.Name (Str.ofString "_law_purse_here") _] _ _) _ _ _); refine s_set (i := 0) (N := nsDraw) scDraw.nd rfl at_z ?_)
  | ((with_reducible show SW _ (Stmt.Assign [Expr.Name (Str.ofString "_law_out_of") _] _ _) _ _ _); refine s_set (i := 1) (N := nsDraw) scDraw.nd rfl (at_s at_z) ?_)
  | ((with_reducible show SW _ (Stmt.Assign [Expr.Name (Str.ofString "_law_drawn") _] _ _) _ _ _); refine s_set (i := 2) (N := nsDraw) scDraw.nd rfl (at_s (at_s at_z)) ?_)
  | ((with_reducible show SW _ (Stmt.Assign [Expr.Name (Str.ofString "_law_number") _] _ _) _ _ _); refine s_set (i := 3) (N := nsDraw) scDraw.nd rfl (at_s (at_s (at_s at_z))) ?_)
  | ((with_reducible show SW _ (Stmt.Assign [Expr.Name (Str.ofString "_law_k") _] _ _) _ _ _); refine s_set (i := 4) (N := nsDraw) scDraw.nd rfl (at_s (at_s (at_s (at_s at_z)))) ?_))
local macro_rules | `(tactic| walk_at "tg") => `(tactic| first
  | ((with_reducible show GW _ (Expr.Name (Str.ofString "_law_purse_here") _) _ _ _ _); refine g_nm (i := 0) (N := nsDraw) scDraw.nd rfl at_z ?_)
  | ((with_reducible show GW _ (Expr.Name (Str.ofString "_law_out_of") _) _ _ _ _); refine g_nm (i := 1) (N := nsDraw) scDraw.nd rfl (at_s at_z) ?_)
  | ((with_reducible show GW _ (Expr.Name (Str.ofString "_law_drawn") _) _ _ _ _); refine g_nm (i := 2) (N := nsDraw) scDraw.nd rfl (at_s (at_s at_z)) ?_)
  | ((with_reducible show GW _ (Expr.Name (Str.ofString "_law_number") _) _ _ _ _); refine g_nm (i := 3) (N := nsDraw) scDraw.nd rfl (at_s (at_s (at_s at_z))) ?_)
  | ((with_reducible show GW _ (Expr.Name (Str.ofString "_law_k") _) _ _ _ _); refine g_nm (i := 4) (N := nsDraw) scDraw.nd rfl (at_s (at_s (at_s (at_s at_z)))) ?_))
def spDraw : Sp := fun vs H Q _ => ∃ (p : Addr) (n : Int) (t : Nat), vs = [.ref p, .int n] ∧ Pu H p t ∧ t ≤ 2 ^ 61 ∧ 0 < n ∧ n < 2 ^ 200 ∧ ∀ (r : Int) (o : HO), 0 ≤ r → r < n → Pu (upd H p o) p (t + 10) → Q (.int r) (upd H p o)
theorem bDraw (mr : mg "range" = none) (D : DefZ P w K mg base "_law_mixed" 1 ["_law_cell", "_law_k"] spMixed) : BodyZ P w K mg base nsDraw "_law_draw" sDraw f 1 spDraw := by
  intro X cd A outer s H vs Q E hX hr tk hs
  subst hX
  obtain ⟨p, n, t, rfl, ⟨a, b, c, hp, hb, c0, c1⟩, ht, n0, n1, hQ⟩ := hs
  walk_at "z"
  refine t_cmp op_gt ?_
  refine e_ix ix_list ?_
  walk_at "z"
  refine ⟨_, _, _, _, rfl, rfl, .inl (.inl hp), rfl, ?_⟩
  walk_at "z"
  refine ⟨_, rfl, ?_⟩
  by_cases ha : 0 < a
  · rw [if_pos (by simpa using ha)]
    walk_at "z"
    refine e_ix ix_list ?_
    walk_at "z"
    refine ⟨_, _, _, _, rfl, rfl, .inl (.inl hp), rfl, ?_⟩
    walk_at "z"
    refine s_asg ?_
    walk_at "z"
    refine e_ix ix_list ?_
    walk_at "z"
    refine ⟨_, _, _, _, rfl, rfl, .inl (.inl hp), rfl, ?_⟩
    walk_at "z"
    refine ⟨_, _, rfl, rfl, wide_div (b := 200) n0 (by omega) (by decide) (by decide), ?_⟩
    refine g_sub set_list ?_
    walk_at "z"
    refine ⟨_, _, _, _, rfl, rfl, hp, rfl, ?_⟩
    walk_at "z"
    exact hQ _ _ (Int.emod_nonneg _ (by omega)) (Int.emod_lt_of_pos _ n0) ⟨_, _, _, upd_same, hb, c0, by omega⟩
  · rw [if_neg (by simpa using ha)]
    walk_at "z"
    refine s_for (i_range1 mr ?_)
    walk_at "z"
    refine e_bits ?_
    walk_at "z"
    refine ⟨_, rfl, ?_⟩
    walk_at "z"
    have hb2 : Builtin.Int.intBits n ≤ 200 := intBits_lt (n := 200) (by omega) (by decide)
    generalize Builtin.Int.intBits n = m at hb2 ⊢
    refine ⟨_, _, rfl, rfl, ⟨by decide, by decide⟩, ?_⟩
    walk_at "z"
    refine ⟨_, rfl, by omega, by omega, ?_⟩
    refine ⟨fun i σ H' => ∃ (q c' : Int) (k : Option V), σ = [some (.ref p), some (.int n), none, some (.int q), k] ∧ (q.natAbs < 2 ^ (40 * i + 1)) ∧ H' = upd H p (.lst [.int a, .int b, .int c']) ∧ 0 ≤ c' ∧ c' ≤ t + i, ?_, ?_, ?_, ?_⟩
    · refine ⟨0, c, none, rfl, by decide, ?_, c0, by omega⟩
      funext x
      unfold upd
      split
      · rename_i e
        rw [e, hp]
      · rfl
    · intro i σ' H' _ _
      trivial
    · rintro i σ' H' x H2 hi ⟨q, c', k, rfl, hq, rfl, d0, d1⟩ ⟨rfl, rfl⟩
      walk_at "tg"
      walk_at "z"
      refine s_asg ?_
      walk_at "z"
      refine e_ix ix_list ?_
      walk_at "z"
      refine ⟨_, _, _, _, rfl, rfl, .inl (.inl upd_same), rfl, ?_⟩
      walk_at "z"
      refine g_sub set_list ?_
      walk_at "z"
      refine ⟨_, _, _, _, rfl, rfl, upd_same, rfl, ?_⟩
      rw [upd_upd]
      walk_at "z"
      refine .inl ⟨_, _, rfl, rfl, cmulW (40 * i + 1) 31 hq (by decide) (by omega) (by decide) (by omega), ?_⟩
      walk_at "z"
      refine e_call D hr tk ?_
      walk_at "z"
      refine e_ix ix_list ?_
      walk_at "z"
      refine ⟨_, _, _, _, rfl, rfl, .inl (.inl upd_same), rfl, ?_⟩
      walk_at "z"
      refine e_ix ix_list ?_
      walk_at "z"
      refine ⟨_, _, _, _, rfl, rfl, .inl (.inl upd_same), rfl, ?_⟩
      walk_at "z"
      refine ⟨_, _, rfl, lt_pow hb (by decide), by omega, by omega, fun r r0 r1 => ?_⟩
      walk_at "z"
      refine ⟨_, _, _, rfl, add_lt (a := 40 * i + 33) (mul_lt hq (b := 31) (by decide) (by omega)) (lt_pow (a := 33) (by omega) (by omega)) (by omega), rfl, by omega, by omega⟩
    · rintro σ' H' ⟨q, c', k, rfl, hq, rfl, d0, d1⟩
      walk_at "z"
      exact hQ _ _ (Int.emod_nonneg _ (by omega)) (Int.emod_lt_of_pos _ n0) ⟨_, _, _, upd_same, hb, d0, by omega⟩
end
end L2.Z.Law

set_option maxHeartbeats 4000000
namespace L2.Z.Law
open PySem PySem.Spec PyProof.Rows PySem.ZX
local macro_rules | `(tactic| walk_at "zi") => `(tactic| refine ⟨_, _, rfl, rfl, ?_⟩)
local macro_rules | `(tactic| walk_at "zmod") => `(tactic| refine ⟨_, _, rfl, rfl, (show (0 : Int) < _ by first | decide | omega), ?_⟩)
local macro_rules | `(tactic| walk_at "zdiv") => `(tactic| refine ⟨_, _, rfl, rfl, ⟨(show (0 : Int) < _ by first | decide | omega), ?_⟩, ?_⟩)
local macro_rules | `(tactic| walk_at "z1") => `(tactic| first
  | ((with_reducible show EW _ (Expr.Name _ _) _ _ _); walk_at "nm")
  | ((with_reducible show EW _ (Expr.Constant _ _ _) _ _ _); first | with_reducible refine e_int ?_ | with_reducible refine e_str ?_ | with_reducible refine e_bl ?_ | with_reducible refine e_non ?_)
  | ((with_reducible show EW _ (Expr.BinOp _ Operator.Add _ _) _ _ _); refine e_op z_add ?_)
  | ((with_reducible show EW _ (Expr.BinOp _ Operator.Sub _ _) _ _ _); refine e_op op_sub ?_)
  | ((with_reducible show EW _ (Expr.BinOp _ Operator.Mult _ _) _ _ _); refine e_op z_mul ?_)
  | ((with_reducible show EW _ (Expr.BinOp _ Operator.Mod _ _) _ _ _); refine e_op op_mod ?_)
  | ((with_reducible show EW _ (Expr.BinOp _ Operator.FloorDiv _ _) _ _ _); refine e_op op_fdivW ?_)
  | ((with_reducible show EW _ (Expr.BinOp _ Operator.Pow _ _) _ _ _); refine e_op op_pow ?_)
  | ((with_reducible show EW _ (Expr.List _ _) _ _ _); refine e_lstN ?_)
  | ((with_reducible show EW _ (Expr.Tuple _ _ _) _ _ _); refine e_tupN ?_)
  | ((with_reducible show EW _ (Expr.Subscript _ (Expr.Slice _ _ _ _) _) _ _ _); refine e_sl sl_listN ?_)
  | ((with_reducible show EW _ (Expr.Dict [] [] _) _ _ _); refine e_dKN ?_)
  | ((with_reducible show EW _ (Expr.BoolOp BoolOp.And [_] _) _ _ _); refine e_one ?_)
  | ((with_reducible show EW _ (Expr.BoolOp BoolOp.Or [_] _) _ _ _); refine e_one ?_)
  | ((with_reducible show EW _ (Expr.BoolOp BoolOp.And _ _) _ _ _); refine e_and ?_)
  | ((with_reducible show EW _ (Expr.BoolOp BoolOp.Or _ _) _ _ _); refine e_or ?_)
  | ((with_reducible show EW _ (Expr.IfExp _ _ _ _) _ _ _); refine e_if ?_)
  | ((with_reducible show AW _ [] _ _ _); refine a_nil ?_)
  | ((with_reducible show AW _ (_ :: _) _ _ _); refine a_cons ?_)
  | ((with_reducible show OW _ none _ _ _); refine o_no ?_)
  | ((with_reducible show OW _ (some _) _ _ _); refine o_so ?_)
  | ((with_reducible show TW _ (Expr.UnaryOp UnaryOp.Not _ _) _ _ _); refine t_not ?_)
  | ((with_reducible show TW _ (Expr.BoolOp _ _ _) _ _ _); refine t_w ?_)
  | ((with_reducible show PWW _ (Expr.BoolOp BoolOp.And [_] _) _ _ _); refine w_and1 ?_)
  | ((with_reducible show PWW _ (Expr.BoolOp BoolOp.Or [_] _) _ _ _); refine w_or1 ?_)
  | ((with_reducible show PWW _ (Expr.BoolOp BoolOp.And _ _) _ _ _); refine w_and ?_)
  | ((with_reducible show PWW _ (Expr.BoolOp BoolOp.Or _ _) _ _ _); refine w_or ?_)
  | ((with_reducible show SW _ (Stmt.Return (some _) _) _ _ _); refine s_ret ?_)
  | ((with_reducible show SW _ (Stmt.If _ _ _ _) _ _ _); refine s_if ?_)
  | ((with_reducible show SW _ (Stmt.Expr _ _) _ _ _); refine s_expr ?_)
  | ((with_reducible show SW _ (Stmt.Assign [Expr.Name _ _] _ _) _ _ _); walk_at "set")
  | ((with_reducible show BW _ [_] _ _ _); refine b_one ?_)
  | ((with_reducible show BW _ [] _ _ _); refine b_nil ?_)
  | ((with_reducible show BW _ _ _ _ _); refine b_cons ?_)
  | ((with_reducible show rAddZ _ _ _ _ _); refine Or.inl ⟨_, _, rfl, rfl, ?_⟩)
  | ((with_reducible show rI0 _ _ _ _ _); refine ⟨_, _, rfl, rfl, ?_⟩)
  | ((with_reducible show rI (fun _ j => 0 < j) _ _ _ _ _); refine ⟨_, _, rfl, rfl, (show (0 : Int) < _ by first | decide | omega), ?_⟩)
  | ((with_reducible show Ends.nx _ _ _); refine (show BW _ _ _ _ _ from ?_)))
local macro_rules | `(tactic| walk_at "z") => `(tactic| repeat walk_at "z1")
abbrev c_ (K : PySem.W.Frag) (x : Str) : Addr := He.ga K x
abbrev i_ (K : PySem.W.Frag) (x : Str) : Addr := He.ma K (He.ga K x) "__init__"
/-- the exception classes by number -/
abbrev xns : List Str := ["InvalidNumber", "InvalidList", "InvalidItem", "InvalidSignature", "InvalidType", "InvalidHead", "InvalidBase", "InvalidFormula", "InvalidGoal", "InvalidText", "Clash", "InvalidName", "TakenName", "UnknownName", "NothingToUndo"]
def xn (i : Nat) : Str := xns.getD i "NothingToUndo"
structure XF (P : Program) (K : PySem.W.Frag) (mg : Str → Option Value) : Prop where
  t0 : ExK P K mg "InvalidNumber" "value" "InvalidNumber.__init__" (c_ K "InvalidNumber") (i_ K "InvalidNumber")
  t1 : ExK P K mg "InvalidList" "value" "InvalidList.__init__" (c_ K "InvalidList") (i_ K "InvalidList")
  t2 : ExK P K mg "InvalidItem" "value" "InvalidItem.__init__" (c_ K "InvalidItem") (i_ K "InvalidItem")
  t3 : ExK P K mg "InvalidSignature" "value" "InvalidSignature.__init__" (c_ K "InvalidSignature") (i_ K "InvalidSignature")
  t4 : ExK P K mg "InvalidType" "value" "InvalidType.__init__" (c_ K "InvalidType") (i_ K "InvalidType")
  t5 : ExK P K mg "InvalidHead" "value" "InvalidHead.__init__" (c_ K "InvalidHead") (i_ K "InvalidHead")
  t6 : ExK P K mg "InvalidBase" "value" "InvalidBase.__init__" (c_ K "InvalidBase") (i_ K "InvalidBase")
  t7 : ExK P K mg "InvalidFormula" "value" "InvalidFormula.__init__" (c_ K "InvalidFormula") (i_ K "InvalidFormula")
  t8 : ExK P K mg "InvalidGoal" "value" "InvalidGoal.__init__" (c_ K "InvalidGoal") (i_ K "InvalidGoal")
  t9 : ExK P K mg "InvalidText" "value" "InvalidText.__init__" (c_ K "InvalidText") (i_ K "InvalidText")
  t10 : ExK P K mg "Clash" "value" "Clash.__init__" (c_ K "Clash") (i_ K "Clash")
  t11 : ExK P K mg "InvalidName" "name" "InvalidName.__init__" (c_ K "InvalidName") (i_ K "InvalidName")
  t12 : ExK P K mg "TakenName" "name" "TakenName.__init__" (c_ K "TakenName") (i_ K "TakenName")
  t13 : ExK P K mg "UnknownName" "name" "UnknownName.__init__" (c_ K "UnknownName") (i_ K "UnknownName")
  gn : mg "NothingToUndo" = some (.ref (c_ K "NothingToUndo"))
  gw : mg "WoodError" = some (.ref (c_ K "WoodError"))
  kn : PySem.W.keepIn K (.ref (c_ K "NothingToUndo")) = true
  en : PySem.W.excIn K (c_ K "NothingToUndo") He.veBase "ValueError.__new__" = true
  xcn : ExcC K (c_ K "NothingToUndo")
  k : ∀ i j, i < 15 → j < 15 → PySem.W.kitOne K (.ref (c_ K (xn i))) (.ref (c_ K (xn j))) = some (decide (j = i))
  kw : ∀ i, i < 15 → PySem.W.kitOne K (.ref (c_ K (xn i))) (.ref (c_ K "WoodError")) = some true
  kv : ∀ i, i < 15 → PySem.W.kitOne K (.ref (c_ K (xn i))) (.type "ValueError") = some true
/-- the classes with their fields, in order -/
abbrev cs14 (K : PySem.W.Frag) : List (Addr × Str) := [(c_ K "InvalidNumber", "value"), (c_ K "InvalidList", "value"), (c_ K "InvalidItem", "value"), (c_ K "InvalidSignature", "value"), (c_ K "InvalidType", "value"), (c_ K "InvalidHead", "value"), (c_ K "InvalidBase", "value"), (c_ K "InvalidFormula", "value"), (c_ K "InvalidGoal", "value"), (c_ K "InvalidText", "value"), (c_ K "Clash", "value"), (c_ K "InvalidName", "name"), (c_ K "TakenName", "name"), (c_ K "UnknownName", "name")]
/-- at a an exception of the i-th class -/
def IsE (K : PySem.W.Frag) (H : Hp) (a : Addr) (i : Nat) : Prop := ExcC K (c_ K (xn i)) ∧ (H a = some (exN a (c_ K (xn i))) ∨ ∃ d fs, H a = some (exT a (c_ K (xn i)) d) ∧ H d = some (.xd fs))
section
variable {P : Program} {w : World} {K : PySem.W.Frag} {mg : Str → Option Value} {base : Heap} {f : Addr}
theorem IsE.keep {H H' : Hp} {a : Addr} {i : Nat} (h : IsE K H a i) (k : Same H H') : IsE K H' a i := ⟨h.1, h.2.imp (k _ _) fun ⟨d, fs, h1, h2⟩ => ⟨d, fs, k _ _ h1, k _ _ h2⟩⟩
theorem IsE.ty {H : Hp} {a : Addr} {i : Nat} (h : IsE K H a i) : TyZ K H (.ref a) (.ref (c_ K (xn i))) := by
  obtain ⟨x, h | ⟨d, fs, h1, h2⟩⟩ := h
  · exact .en h x
  · exact .ex h1 h2 x
theorem filtB {g : Nat → V} {b : Nat → Bool} : ∀ n, ((List.range (n + 1)).filter b).map g = ((List.range n).filter b).map g ++ (if b n = true then [g n] else []) := fun n => by
  rw [List.range_succ, List.filter_append, List.map_append]
  congr 1
  by_cases h : b n = true
  · rw [if_pos h, List.filter_cons_of_pos h]; rfl
  · rw [if_neg h, List.filter_cons_of_neg h]; rfl
abbrev sKinds : Stmt := topS 21
abbrev nsKinds : List Str := ["_law_error", "_law_classes", "_law_at"]
theorem scKinds : FnScope nsKinds ["_law_error"] (defScope sKinds) := ⟨rfl, rfl, rfl, by decide +kernel, rfl, by decide +kernel, by decide +kernel⟩
local macro_rules | `(tactic| walk_at "nm") => `(tactic| first
  | ((with_reducible show EW _ (Expr.Name (Str.ofString "_law_error") _) _ _ _); refine e_nm (i := 0) (N := nsKinds) rfl at_z rfl ?_)
  | ((with_reducible show EW _ (Expr.Name (Str.ofString "_law_classes") _) _ _ _); refine e_nm (i := 1) (N := nsKinds) rfl (at_s at_z) rfl ?_)
  | ((with_reducible show EW _ (Expr.Name (Str.ofString "_law_at") _) _ _ _); refine e_nm (i := 2) (N := nsKinds) rfl (at_s (at_s at_z)) rfl ?_))
local macro_rules | `(tactic| walk_at "set") => `(tactic| first
  | ((with_reducible show SW _ (Stmt.Assign [Expr.Name (Str.ofString "_law_error") _] _ _) _ _ _); refine s_set (i := 0) (N := nsKinds) scKinds.nd rfl at_z ?_)
  | ((with_reducible show SW _ (Stmt.Assign [Expr.Name (Str.ofString "_law_classes") _] _ _) _ _ _); refine s_set (i := 1) (N := nsKinds) scKinds.nd rfl (at_s at_z) ?_)
  | ((with_reducible show SW _ (Stmt.Assign [Expr.Name (Str.ofString "_law_at") _] _ _) _ _ _); refine s_set (i := 2) (N := nsKinds) scKinds.nd rfl (at_s (at_s at_z)) ?_))
local macro_rules | `(tactic| walk_at "tg") => `(tactic| first
  | ((with_reducible show GW _ (Expr.Name (Str.ofString "_law_error") _) _ _ _ _); refine g_nm (i := 0) (N := nsKinds) scKinds.nd rfl at_z ?_)
  | ((with_reducible show GW _ (Expr.Name (Str.ofString "_law_classes") _) _ _ _ _); refine g_nm (i := 1) (N := nsKinds) scKinds.nd rfl (at_s at_z) ?_)
  | ((with_reducible show GW _ (Expr.Name (Str.ofString "_law_at") _) _ _ _ _); refine g_nm (i := 2) (N := nsKinds) scKinds.nd rfl (at_s (at_s at_z)) ?_))
def spKinds (K : PySem.W.Frag) : Sp := fun vs H Q _ => ∃ (a : Addr) (i : Nat), vs = [.ref a] ∧ i < 15 ∧ IsE K H a i ∧ ∀ p H', New H p (.lst [.int (i : Nat)]) H' → Q (.ref p) H'
theorem kindsL {i : Nat} (hi : i < 15) : ((List.range 15).filter fun j => decide (j = i)).map (fun j => V.int (j : Nat)) = [V.int (i : Nat)] := by
  rcases i with _ | _ | _ | _ | _ | _ | _ | _ | _ | _ | _ | _ | _ | _ | _ | i <;> first | rfl | omega
theorem bKinds (F : XF P K mg) (mi : mg "isinstance" = none) (mr : mg "range" = none) (mv : mg "ValueError" = none) : BodyZ P w K mg base nsKinds "_law_kinds" sKinds f 1 (spKinds K) := by
  intro X cd A outer s H vs Q E hX hr tk hs
  subst hX
  obtain ⟨a, i, rfl, hi, he, hQ⟩ := hs
  walk_at "z"
  refine e_isC mi F.t0.g ?_
  walk_at "z1"
  refine ⟨_, _, he.ty, F.k i 0 hi (by decide), ?_⟩
  walk_at "z"
  refine e_isC mi F.t1.g ?_
  walk_at "z1"
  refine ⟨_, _, he.ty, F.k i 1 hi (by decide), ?_⟩
  walk_at "z"
  refine e_isC mi F.t2.g ?_
  walk_at "z1"
  refine ⟨_, _, he.ty, F.k i 2 hi (by decide), ?_⟩
  walk_at "z"
  refine ⟨szL, fun p0 H0 n0 => ?_⟩
  have s0 : Same H H0 := n0.same
  have l0 := n0.here
  walk_at "z"
  refine e_isC mi F.t3.g ?_
  walk_at "z1"
  refine ⟨_, _, (he.keep s0).ty, F.k i 3 hi (by decide), ?_⟩
  walk_at "z"
  refine e_isC mi F.t4.g ?_
  walk_at "z1"
  refine ⟨_, _, (he.keep s0).ty, F.k i 4 hi (by decide), ?_⟩
  walk_at "z"
  refine ⟨szL, fun q1 G1 m1 => ?_⟩
  refine .inr (.inl ⟨_, _, _, _, rfl, rfl, m1.same _ _ l0, m1.here, szL, fun p1 H1 n1 => ?_⟩)
  have s1 : Same H H1 := (s0.trans m1.same).trans n1.same
  have l1 := n1.here
  walk_at "z"
  refine e_isC mi F.t5.g ?_
  walk_at "z1"
  refine ⟨_, _, (he.keep s1).ty, F.k i 5 hi (by decide), ?_⟩
  walk_at "z"
  refine e_isC mi F.t6.g ?_
  walk_at "z1"
  refine ⟨_, _, (he.keep s1).ty, F.k i 6 hi (by decide), ?_⟩
  walk_at "z"
  refine ⟨szL, fun q2 G2 m2 => ?_⟩
  refine .inr (.inl ⟨_, _, _, _, rfl, rfl, m2.same _ _ l1, m2.here, szL, fun p2 H2 n2 => ?_⟩)
  have s2 : Same H H2 := (s1.trans m2.same).trans n2.same
  have l2 := n2.here
  walk_at "z"
  refine e_isC mi F.t7.g ?_
  walk_at "z1"
  refine ⟨_, _, (he.keep s2).ty, F.k i 7 hi (by decide), ?_⟩
  walk_at "z"
  refine e_isC mi F.t8.g ?_
  walk_at "z1"
  refine ⟨_, _, (he.keep s2).ty, F.k i 8 hi (by decide), ?_⟩
  walk_at "z"
  refine ⟨szL, fun q3 G3 m3 => ?_⟩
  refine .inr (.inl ⟨_, _, _, _, rfl, rfl, m3.same _ _ l2, m3.here, szL, fun p3 H3 n3 => ?_⟩)
  have s3 : Same H H3 := (s2.trans m3.same).trans n3.same
  have l3 := n3.here
  walk_at "z"
  refine e_isC mi F.t9.g ?_
  walk_at "z1"
  refine ⟨_, _, (he.keep s3).ty, F.k i 9 hi (by decide), ?_⟩
  walk_at "z"
  refine e_isC mi F.t10.g ?_
  walk_at "z1"
  refine ⟨_, _, (he.keep s3).ty, F.k i 10 hi (by decide), ?_⟩
  walk_at "z"
  refine ⟨szL, fun q4 G4 m4 => ?_⟩
  refine .inr (.inl ⟨_, _, _, _, rfl, rfl, m4.same _ _ l3, m4.here, szL, fun p4 H4 n4 => ?_⟩)
  have s4 : Same H H4 := (s3.trans m4.same).trans n4.same
  have l4 := n4.here
  walk_at "z"
  refine e_isC mi F.t11.g ?_
  walk_at "z1"
  refine ⟨_, _, (he.keep s4).ty, F.k i 11 hi (by decide), ?_⟩
  walk_at "z"
  refine e_isC mi F.t12.g ?_
  walk_at "z1"
  refine ⟨_, _, (he.keep s4).ty, F.k i 12 hi (by decide), ?_⟩
  walk_at "z"
  refine e_isC mi F.t13.g ?_
  walk_at "z1"
  refine ⟨_, _, (he.keep s4).ty, F.k i 13 hi (by decide), ?_⟩
  walk_at "z"
  refine ⟨szL, fun q5 G5 m5 => ?_⟩
  refine .inr (.inl ⟨_, _, _, _, rfl, rfl, m5.same _ _ l4, m5.here, szL, fun p5 H5 n5 => ?_⟩)
  have s5 : Same H H5 := (s4.trans m5.same).trans n5.same
  have l5 := n5.here
  walk_at "z"
  refine t_val ?_
  refine e_isC mi F.gw ?_
  walk_at "z1"
  refine ⟨_, _, (he.keep s5).ty, F.kw i hi, _, rfl, ?_⟩
  refine (if_neg (by simp)).mpr ?_
  walk_at "z"
  refine t_val ?_
  refine e_isT (T := "ValueError") mi mv (by decide +kernel) ?_
  walk_at "z1"
  refine ⟨_, _, (he.keep s5).ty, F.kv i hi, _, rfl, ?_⟩
  refine (if_neg (by simp)).mpr ?_
  walk_at "z"
  refine e_lcN (own := [("_law_at", 2)]) scKinds.nd (show blkC nsKinds (defScope sKinds) _ _ = true by decide +kernel) (i_range1 mr ?_)
  walk_at "z"
  refine ⟨_, rfl, by decide, by decide, H5, fun n acc _ => acc = ((List.range n).filter fun j => decide (j = i)).map (fun j => V.int (j : Nat)), Same.refl _, by decide, rfl, fun _ _ _ _ _ _ _ => trivial, ?_, ?_⟩
  · rintro n acc G' H' x H2 hn hl g rfl ⟨rfl, rfl⟩ X' ⟨s', H3, C, cl, fp, rfl⟩
    walk_at "tg"
    refine ⟨rfl, ?_⟩
    rintro X' ⟨s', H3, C, cl, fp, rfl⟩
    refine (show TW _ _ _ _ _ from ?_)
    refine t_val ?_
    refine e_ix ix_list ?_
    walk_at "z"
    refine e_isC mi F.gn ?_
    walk_at "z1"
    refine ⟨_, _, (he.keep (s5.trans g.hh)).ty, F.k i 14 hi (by decide), ?_⟩
    walk_at "z"
    refine ⟨szL, fun q1 H6 m1 => ?_⟩
    refine .inr (.inl ⟨_, _, _, _, rfl, rfl, m1.same _ _ (g.hh _ _ l5), m1.here, szL, fun q2 H7 m2 => ?_⟩)
    walk_at "z"
    have sm := m1.same.trans m2.same
    have hn' : n < 15 := hn
    have at15 : atI [V.bl (decide (0 = i)), V.bl (decide (1 = i)), V.bl (decide (2 = i)), V.bl (decide (3 = i)), V.bl (decide (4 = i)), V.bl (decide (5 = i)), V.bl (decide (6 = i)), V.bl (decide (7 = i)), V.bl (decide (8 = i)), V.bl (decide (9 = i)), V.bl (decide (10 = i)), V.bl (decide (11 = i)), V.bl (decide (12 = i)), V.bl (decide (13 = i)), V.bl (decide (14 = i))] (n : Int) = some (V.bl (decide (n = i))) := by
      rcases n with _ | _ | _ | _ | _ | _ | _ | _ | _ | _ | _ | _ | _ | _ | _ | n <;> first | rfl | omega
    refine ⟨_, _, _, _, rfl, rfl, .inl (.inl m2.here), at15, _, rfl, ?_⟩
    by_cases e : n = i
    · rw [if_pos (by simpa using e)]
      rintro X' ⟨s', H3, C, cl, fp, rfl⟩
      walk_at "z"
      refine ⟨_, .of g.gh sm, ?_⟩
      exact Eq.symm ((filtB n).trans (by rw [if_pos (by simpa using e)]))
    · rw [if_neg (by simpa using e)]
      refine ⟨_, .of g.gh sm, ?_⟩
      exact Eq.symm ((filtB n).trans (by rw [if_neg (by simpa using e), List.append_nil]))
  · rintro L acc G2 G' H' hl g0 g rfl sG hL hG
    rw [show (Int.toNat 15) = 15 from rfl, kindsL hi] at hG
    exact hQ L H' ⟨s5.trans g.hh, s5.free hL, g.gh _ _ hG⟩
theorem errs_len {H : Hp} {v : V} {as : List Addr} {cs : List (Addr × Str)} (h : Errs H v as cs) (hc : Nat.ble cs.length 1000 = true := by rfl) : (as.map V.ref).length ≤ sizeLine := by
  rw [List.length_map, Paired.length h]
  exact szL hc
theorem Paired.at {α β : Type} {R : α → β → Prop} : ∀ {l₁ : List α} {l₂ : List β} {i : Nat} {a : α}, Paired R l₁ l₂ → l₁[i]? = some a → ∃ b, l₂[i]? = some b ∧ R a b
  | _, _, i, a, .nil, e => by simp at e
  | _, _, 0, a, .cons h t, e => by simp at e; subst e; exact ⟨_, rfl, h⟩
  | _, _, i + 1, a, .cons h t, e => by
    obtain ⟨b, h1, h2⟩ := Paired.at (i := i) (a := a) t (by simpa using e)
    exact ⟨b, by simpa using h1, h2⟩
theorem errs_is (F : XF P K mg) {H : Hp} {v : V} {as : List Addr} {i : Nat} {a : Addr} (h : Errs H v as (cs14 K)) (e : as[i]? = some a) : i < 14 ∧ IsE K H a i := by
  obtain ⟨c, hc, d, h1, h2⟩ := Paired.at h e
  have hi : i < 14 := by
    have := (List.getElem?_eq_some_iff.mp hc).1
    exact this
  refine ⟨hi, ?_⟩
  rcases i with _ | _ | _ | _ | _ | _ | _ | _ | _ | _ | _ | _ | _ | _ | i
  · cases hc; exact ⟨F.t0.ex, .inr ⟨d, _, h1, h2⟩⟩
  · cases hc; exact ⟨F.t1.ex, .inr ⟨d, _, h1, h2⟩⟩
  · cases hc; exact ⟨F.t2.ex, .inr ⟨d, _, h1, h2⟩⟩
  · cases hc; exact ⟨F.t3.ex, .inr ⟨d, _, h1, h2⟩⟩
  · cases hc; exact ⟨F.t4.ex, .inr ⟨d, _, h1, h2⟩⟩
  · cases hc; exact ⟨F.t5.ex, .inr ⟨d, _, h1, h2⟩⟩
  · cases hc; exact ⟨F.t6.ex, .inr ⟨d, _, h1, h2⟩⟩
  · cases hc; exact ⟨F.t7.ex, .inr ⟨d, _, h1, h2⟩⟩
  · cases hc; exact ⟨F.t8.ex, .inr ⟨d, _, h1, h2⟩⟩
  · cases hc; exact ⟨F.t9.ex, .inr ⟨d, _, h1, h2⟩⟩
  · cases hc; exact ⟨F.t10.ex, .inr ⟨d, _, h1, h2⟩⟩
  · cases hc; exact ⟨F.t11.ex, .inr ⟨d, _, h1, h2⟩⟩
  · cases hc; exact ⟨F.t12.ex, .inr ⟨d, _, h1, h2⟩⟩
  · cases hc; exact ⟨F.t13.ex, .inr ⟨d, _, h1, h2⟩⟩
  · omega
theorem errs_value (F : XF P K mg) {H : Hp} {v : V} {as : List Addr} {i : Nat} {a : Addr} (h : Errs H v as (cs14 K)) (e : as[i]? = some a) (hi : i < 11) :
    ∃ C d fs, H a = some (exT a C d) ∧ H d = some (.xd fs) ∧ ExcC K C ∧ PySem.W.findIn K (.ref C) "value" = some none ∧ fs.lookup (Str.ofString "value") = some v := by
  obtain ⟨c, hc, d, h1, h2⟩ := Paired.at h e
  rcases i with _ | _ | _ | _ | _ | _ | _ | _ | _ | _ | _ | i
  · cases hc; exact ⟨_, d, _, h1, h2, F.t0.ex, F.t0.t.noN, by simp⟩
  · cases hc; exact ⟨_, d, _, h1, h2, F.t1.ex, F.t1.t.noN, by simp⟩
  · cases hc; exact ⟨_, d, _, h1, h2, F.t2.ex, F.t2.t.noN, by simp⟩
  · cases hc; exact ⟨_, d, _, h1, h2, F.t3.ex, F.t3.t.noN, by simp⟩
  · cases hc; exact ⟨_, d, _, h1, h2, F.t4.ex, F.t4.t.noN, by simp⟩
  · cases hc; exact ⟨_, d, _, h1, h2, F.t5.ex, F.t5.t.noN, by simp⟩
  · cases hc; exact ⟨_, d, _, h1, h2, F.t6.ex, F.t6.t.noN, by simp⟩
  · cases hc; exact ⟨_, d, _, h1, h2, F.t7.ex, F.t7.t.noN, by simp⟩
  · cases hc; exact ⟨_, d, _, h1, h2, F.t8.ex, F.t8.t.noN, by simp⟩
  · cases hc; exact ⟨_, d, _, h1, h2, F.t9.ex, F.t9.t.noN, by simp⟩
  · cases hc; exact ⟨_, d, _, h1, h2, F.t10.ex, F.t10.t.noN, by simp⟩
  · omega
theorem errs_name (F : XF P K mg) {H : Hp} {v : V} {as : List Addr} {i : Nat} {a : Addr} (h : Errs H v as (cs14 K)) (e : as[11 + i]? = some a) (hi : i < 3) :
    ∃ C d fs, H a = some (exT a C d) ∧ H d = some (.xd fs) ∧ ExcC K C ∧ PySem.W.findIn K (.ref C) "name" = some none ∧ fs.lookup (Str.ofString "name") = some v := by
  obtain ⟨c, hc, d, h1, h2⟩ := Paired.at h e
  rcases i with _ | _ | _ | i
  · cases hc; exact ⟨_, d, _, h1, h2, F.t11.ex, F.t11.t.noN, by simp⟩
  · cases hc; exact ⟨_, d, _, h1, h2, F.t12.ex, F.t12.t.noN, by simp⟩
  · cases hc; exact ⟨_, d, _, h1, h2, F.t13.ex, F.t13.t.noN, by simp⟩
  · omega
/-- fourteen exceptions, v their fields -/
def MadeE (K : PySem.W.Frag) (v : V) (H : Hp) (Q : VK) : Prop := ∀ p as H', New H p (.lst (as.map V.ref)) H' → Errs H' v as (cs14 K) → Q (.ref p) H'
def spMade (K : PySem.W.Frag) : Sp := fun vs H Q _ => ∃ v, vs = [v] ∧ MadeE K v H Q
def spBare (K : PySem.W.Frag) : Sp := fun vs H Q _ => vs = [] ∧ MadeE K .non H Q
abbrev sPlaced : Stmt := topS 23
abbrev nsPlaced : List Str := ["_law_given", "_law_found"]
theorem scPlaced : FnScope nsPlaced ["_law_given"] (defScope sPlaced) := ⟨rfl, rfl, rfl, by decide +kernel, rfl, by decide +kernel, by decide +kernel⟩
local macro_rules | `(tactic| walk_at "nm") => `(tactic| first
  | ((with_reducible show EW _ (Expr.Name (Str.ofString "_law_given") _) _ _ _); refine e_nm (i := 0) (N := nsPlaced) rfl at_z rfl ?_)
  | ((with_reducible show EW _ (Expr.Name (Str.ofString "_law_found") _) _ _ _); refine e_nm (i := 1) (N := nsPlaced) rfl (at_s at_z) rfl ?_))
local macro_rules | `(tactic| walk_at "set") => `(tactic| first
  | ((with_reducible show SW _ (Stmt.Assign [Expr.Name (Str.ofString "_law_given") _] _ _) _ _ _); refine s_set (i := 0) (N := nsPlaced) scPlaced.nd rfl at_z ?_)
  | ((with_reducible show SW _ (Stmt.Assign [Expr.Name (Str.ofString "_law_found") _] _ _) _ _ _); refine s_set (i := 1) (N := nsPlaced) scPlaced.nd rfl (at_s at_z) ?_))
local macro_rules | `(tactic| walk_at "tg") => `(tactic| first
  | ((with_reducible show GW _ (Expr.Name (Str.ofString "_law_given") _) _ _ _ _); refine g_nm (i := 0) (N := nsPlaced) scPlaced.nd rfl at_z ?_)
  | ((with_reducible show GW _ (Expr.Name (Str.ofString "_law_found") _) _ _ _ _); refine g_nm (i := 1) (N := nsPlaced) scPlaced.nd rfl (at_s at_z) ?_))
theorem bPlaced (F : XF P K mg) : BodyZ P w K mg base nsPlaced "_law_placed" sPlaced f 1 (spMade K) := by
  intro X cd A outer s H vs Q E hX hr tk hs
  subst hX
  obtain ⟨v, rfl, hQ⟩ := hs
  walk_at "z1"
  walk_at "z1"
  walk_at "z1"

  refine a_exs (v := v) (cs := [(c_ K "InvalidNumber", "value"), (c_ K "InvalidList", "value"), (c_ K "InvalidItem", "value"), (c_ K "InvalidSignature", "value")]) (.cons ⟨fun H Q h => by refine e_ex1 F.t0 hr.r ?_; walk_at "z1"; exact h.ex, fun _ => rfl⟩ (.cons ⟨fun H Q h => by refine e_ex1 F.t1 hr.r ?_; walk_at "z1"; exact h.ex, fun _ => rfl⟩ (.cons ⟨fun H Q h => by refine e_ex1 F.t2 hr.r ?_; walk_at "z1"; exact h.ex, fun _ => rfl⟩ (.cons ⟨fun H Q h => by refine e_ex1 F.t3 hr.r ?_; walk_at "z1"; exact h.ex, fun _ => rfl⟩ .nil)))) fun as0 H0 s0 e0 => ?_
  refine ⟨errs_len e0, fun p0 G0 n0 => ?_⟩
  have l0 := n0.here
  have S0 := s0.trans n0.same
  have E0 := e0.keep n0.same
  have A0 := as0
  walk_at "z1"
  walk_at "z1"
  walk_at "z1"
  walk_at "z1"
  walk_at "z1"

  refine a_exs (v := v) (cs := [(c_ K "InvalidType", "value"), (c_ K "InvalidHead", "value"), (c_ K "InvalidBase", "value"), (c_ K "InvalidFormula", "value")]) (.cons ⟨fun H Q h => by refine e_ex1 F.t4 hr.r ?_; walk_at "z1"; exact h.ex, fun _ => rfl⟩ (.cons ⟨fun H Q h => by refine e_ex1 F.t5 hr.r ?_; walk_at "z1"; exact h.ex, fun _ => rfl⟩ (.cons ⟨fun H Q h => by refine e_ex1 F.t6 hr.r ?_; walk_at "z1"; exact h.ex, fun _ => rfl⟩ (.cons ⟨fun H Q h => by refine e_ex1 F.t7 hr.r ?_; walk_at "z1"; exact h.ex, fun _ => rfl⟩ .nil)))) fun as1 H1 s1 e1 => ?_
  refine ⟨errs_len e1, fun q1 J1 m1 => ?_⟩
  have E1 := (E0.keep (s1.trans m1.same)).append (e1.keep m1.same)
  refine .inr (.inl ⟨_, _, _, _, rfl, rfl, (s1.trans m1.same) _ _ l0, m1.here, ?_, fun p1 G1 n1 => ?_⟩)
  · rw [← List.length_append, ← List.map_append]
    exact errs_len E1
  rw [← List.map_append] at n1
  have l1 := n1.here
  have S1 := ((S0.trans s1).trans m1.same).trans n1.same
  have E1' := E1.keep n1.same
  clear E1
  rename _ => E1
  walk_at "z1"
  walk_at "z1"
  walk_at "z1"
  walk_at "z1"
  walk_at "z1"

  refine a_exs (v := v) (cs := [(c_ K "InvalidGoal", "value"), (c_ K "InvalidText", "value"), (c_ K "Clash", "value"), (c_ K "InvalidName", "name")]) (.cons ⟨fun H Q h => by refine e_ex1 F.t8 hr.r ?_; walk_at "z1"; exact h.ex, fun _ => rfl⟩ (.cons ⟨fun H Q h => by refine e_ex1 F.t9 hr.r ?_; walk_at "z1"; exact h.ex, fun _ => rfl⟩ (.cons ⟨fun H Q h => by refine e_ex1 F.t10 hr.r ?_; walk_at "z1"; exact h.ex, fun _ => rfl⟩ (.cons ⟨fun H Q h => by refine e_ex1 F.t11 hr.r ?_; walk_at "z1"; exact h.ex, fun _ => rfl⟩ .nil)))) fun as2 H2 s2 e2 => ?_
  refine ⟨errs_len e2, fun q2 J2 m2 => ?_⟩
  have E2 := (E1.keep (s2.trans m2.same)).append (e2.keep m2.same)
  refine .inr (.inl ⟨_, _, _, _, rfl, rfl, (s2.trans m2.same) _ _ l1, m2.here, ?_, fun p2 G2 n2 => ?_⟩)
  · rw [← List.length_append, ← List.map_append]
    exact errs_len E2
  rw [← List.map_append] at n2
  have l2 := n2.here
  have S2 := ((S1.trans s2).trans m2.same).trans n2.same
  have E2' := E2.keep n2.same
  clear E2
  rename _ => E2
  walk_at "z1"
  walk_at "z1"
  walk_at "z1"
  walk_at "z1"
  walk_at "z1"

  refine a_exs (v := v) (cs := [(c_ K "TakenName", "name"), (c_ K "UnknownName", "name")]) (.cons ⟨fun H Q h => by refine e_ex1 F.t12 hr.r ?_; walk_at "z1"; exact h.ex, fun _ => rfl⟩ (.cons ⟨fun H Q h => by refine e_ex1 F.t13 hr.r ?_; walk_at "z1"; exact h.ex, fun _ => rfl⟩ .nil)) fun as3 H3 s3 e3 => ?_
  refine ⟨errs_len e3, fun q3 J3 m3 => ?_⟩
  have E3 := (E2.keep (s3.trans m3.same)).append (e3.keep m3.same)
  refine .inr (.inl ⟨_, _, _, _, rfl, rfl, (s3.trans m3.same) _ _ l2, m3.here, ?_, fun p3 G3 n3 => ?_⟩)
  · rw [← List.length_append, ← List.map_append]
    exact errs_len E3
  rw [← List.map_append] at n3
  have l3 := n3.here
  have S3 := ((S2.trans s3).trans m3.same).trans n3.same
  have E3' := E3.keep n3.same
  clear E3
  rename _ => E3
  exact hQ _ _ _ ⟨S3, ((S2.trans s3).trans m3.same).free n3.free, l3⟩ E3
abbrev sNamed : Stmt := topS 24
abbrev nsNamed : List Str := ["_law_given", "_law_found"]
theorem scNamed : FnScope nsNamed ["_law_given"] (defScope sNamed) := ⟨rfl, rfl, rfl, by decide +kernel, rfl, by decide +kernel, by decide +kernel⟩
local macro_rules | `(tactic| walk_at "nm") => `(tactic| first
  | ((with_reducible show EW _ (Expr.Name (Str.ofString "_law_given") _) _ _ _); refine e_nm (i := 0) (N := nsNamed) rfl at_z rfl ?_)
  | ((with_reducible show EW _ (Expr.Name (Str.ofString "_law_found") _) _ _ _); refine e_nm (i := 1) (N := nsNamed) rfl (at_s at_z) rfl ?_))
local macro_rules | `(tactic| walk_at "set") => `(tactic| first
  | ((with_reducible show SW _ (Stmt.Assign [Expr.Name (Str.ofString "_law_given") _] _ _) _ _ _); refine s_set (i := 0) (N := nsNamed) scNamed.nd rfl at_z ?_)
  | ((with_reducible show SW _ (Stmt.Assign [Expr.Name (Str.ofString "_law_found") _] _ _) _ _ _); refine s_set (i := 1) (N := nsNamed) scNamed.nd rfl (at_s at_z) ?_))
local macro_rules | `(tactic| walk_at "tg") => `(tactic| first
  | ((with_reducible show GW _ (Expr.Name (Str.ofString "_law_given") _) _ _ _ _); refine g_nm (i := 0) (N := nsNamed) scNamed.nd rfl at_z ?_)
  | ((with_reducible show GW _ (Expr.Name (Str.ofString "_law_found") _) _ _ _ _); refine g_nm (i := 1) (N := nsNamed) scNamed.nd rfl (at_s at_z) ?_))
theorem bNamed (F : XF P K mg) : BodyZ P w K mg base nsNamed "_law_named" sNamed f 1 (spMade K) := by
  intro X cd A outer s H vs Q E hX hr tk hs
  subst hX
  obtain ⟨v, rfl, hQ⟩ := hs
  walk_at "z1"
  walk_at "z1"
  walk_at "z1"

  refine a_exs (v := v) (cs := [(c_ K "InvalidNumber", "value"), (c_ K "InvalidList", "value"), (c_ K "InvalidItem", "value")]) (.cons ⟨fun H Q h => by refine e_exk F.t0 hr.r ?_; walk_at "z1"; exact h.ex, fun _ => rfl⟩ (.cons ⟨fun H Q h => by refine e_exk F.t1 hr.r ?_; walk_at "z1"; exact h.ex, fun _ => rfl⟩ (.cons ⟨fun H Q h => by refine e_exk F.t2 hr.r ?_; walk_at "z1"; exact h.ex, fun _ => rfl⟩ .nil))) fun as0 H0 s0 e0 => ?_
  refine ⟨errs_len e0, fun p0 G0 n0 => ?_⟩
  have l0 := n0.here
  have S0 := s0.trans n0.same
  have E0 := e0.keep n0.same
  have A0 := as0
  walk_at "z1"
  walk_at "z1"
  walk_at "z1"
  walk_at "z1"
  walk_at "z1"

  refine a_exs (v := v) (cs := [(c_ K "InvalidSignature", "value"), (c_ K "InvalidType", "value"), (c_ K "InvalidHead", "value")]) (.cons ⟨fun H Q h => by refine e_exk F.t3 hr.r ?_; walk_at "z1"; exact h.ex, fun _ => rfl⟩ (.cons ⟨fun H Q h => by refine e_exk F.t4 hr.r ?_; walk_at "z1"; exact h.ex, fun _ => rfl⟩ (.cons ⟨fun H Q h => by refine e_exk F.t5 hr.r ?_; walk_at "z1"; exact h.ex, fun _ => rfl⟩ .nil))) fun as1 H1 s1 e1 => ?_
  refine ⟨errs_len e1, fun q1 J1 m1 => ?_⟩
  have E1 := (E0.keep (s1.trans m1.same)).append (e1.keep m1.same)
  refine .inr (.inl ⟨_, _, _, _, rfl, rfl, (s1.trans m1.same) _ _ l0, m1.here, ?_, fun p1 G1 n1 => ?_⟩)
  · rw [← List.length_append, ← List.map_append]
    exact errs_len E1
  rw [← List.map_append] at n1
  have l1 := n1.here
  have S1 := ((S0.trans s1).trans m1.same).trans n1.same
  have E1' := E1.keep n1.same
  clear E1
  rename _ => E1
  walk_at "z1"
  walk_at "z1"
  walk_at "z1"
  walk_at "z1"
  walk_at "z1"

  refine a_exs (v := v) (cs := [(c_ K "InvalidBase", "value"), (c_ K "InvalidFormula", "value"), (c_ K "InvalidGoal", "value")]) (.cons ⟨fun H Q h => by refine e_exk F.t6 hr.r ?_; walk_at "z1"; exact h.ex, fun _ => rfl⟩ (.cons ⟨fun H Q h => by refine e_exk F.t7 hr.r ?_; walk_at "z1"; exact h.ex, fun _ => rfl⟩ (.cons ⟨fun H Q h => by refine e_exk F.t8 hr.r ?_; walk_at "z1"; exact h.ex, fun _ => rfl⟩ .nil))) fun as2 H2 s2 e2 => ?_
  refine ⟨errs_len e2, fun q2 J2 m2 => ?_⟩
  have E2 := (E1.keep (s2.trans m2.same)).append (e2.keep m2.same)
  refine .inr (.inl ⟨_, _, _, _, rfl, rfl, (s2.trans m2.same) _ _ l1, m2.here, ?_, fun p2 G2 n2 => ?_⟩)
  · rw [← List.length_append, ← List.map_append]
    exact errs_len E2
  rw [← List.map_append] at n2
  have l2 := n2.here
  have S2 := ((S1.trans s2).trans m2.same).trans n2.same
  have E2' := E2.keep n2.same
  clear E2
  rename _ => E2
  walk_at "z1"
  walk_at "z1"
  walk_at "z1"
  walk_at "z1"
  walk_at "z1"

  refine a_exs (v := v) (cs := [(c_ K "InvalidText", "value"), (c_ K "Clash", "value"), (c_ K "InvalidName", "name")]) (.cons ⟨fun H Q h => by refine e_exk F.t9 hr.r ?_; walk_at "z1"; exact h.ex, fun _ => rfl⟩ (.cons ⟨fun H Q h => by refine e_exk F.t10 hr.r ?_; walk_at "z1"; exact h.ex, fun _ => rfl⟩ (.cons ⟨fun H Q h => by refine e_exk F.t11 hr.r ?_; walk_at "z1"; exact h.ex, fun _ => rfl⟩ .nil))) fun as3 H3 s3 e3 => ?_
  refine ⟨errs_len e3, fun q3 J3 m3 => ?_⟩
  have E3 := (E2.keep (s3.trans m3.same)).append (e3.keep m3.same)
  refine .inr (.inl ⟨_, _, _, _, rfl, rfl, (s3.trans m3.same) _ _ l2, m3.here, ?_, fun p3 G3 n3 => ?_⟩)
  · rw [← List.length_append, ← List.map_append]
    exact errs_len E3
  rw [← List.map_append] at n3
  have l3 := n3.here
  have S3 := ((S2.trans s3).trans m3.same).trans n3.same
  have E3' := E3.keep n3.same
  clear E3
  rename _ => E3
  walk_at "z1"
  walk_at "z1"
  walk_at "z1"
  walk_at "z1"
  walk_at "z1"

  refine a_exs (v := v) (cs := [(c_ K "TakenName", "name"), (c_ K "UnknownName", "name")]) (.cons ⟨fun H Q h => by refine e_exk F.t12 hr.r ?_; walk_at "z1"; exact h.ex, fun _ => rfl⟩ (.cons ⟨fun H Q h => by refine e_exk F.t13 hr.r ?_; walk_at "z1"; exact h.ex, fun _ => rfl⟩ .nil)) fun as4 H4 s4 e4 => ?_
  refine ⟨errs_len e4, fun q4 J4 m4 => ?_⟩
  have E4 := (E3.keep (s4.trans m4.same)).append (e4.keep m4.same)
  refine .inr (.inl ⟨_, _, _, _, rfl, rfl, (s4.trans m4.same) _ _ l3, m4.here, ?_, fun p4 G4 n4 => ?_⟩)
  · rw [← List.length_append, ← List.map_append]
    exact errs_len E4
  rw [← List.map_append] at n4
  have l4 := n4.here
  have S4 := ((S3.trans s4).trans m4.same).trans n4.same
  have E4' := E4.keep n4.same
  clear E4
  rename _ => E4
  exact hQ _ _ _ ⟨S4, ((S3.trans s4).trans m4.same).free n4.free, l4⟩ E4
abbrev sBare : Stmt := topS 25
abbrev nsBare : List Str := ["_law_found"]
theorem scBare : FnScope nsBare [] (defScope sBare) := ⟨rfl, rfl, rfl, by decide +kernel, rfl, by decide +kernel, by decide +kernel⟩
local macro_rules | `(tactic| walk_at "nm") => `(tactic| first
  | ((with_reducible show EW _ (Expr.Name (Str.ofString "_law_found") _) _ _ _); refine e_nm (i := 0) (N := nsBare) rfl at_z rfl ?_))
local macro_rules | `(tactic| walk_at "set") => `(tactic| first
  | ((with_reducible show SW _ (Stmt.Assign [Expr.Name (Str.ofString "_law_found") _] _ _) _ _ _); refine s_set (i := 0) (N := nsBare) scBare.nd rfl at_z ?_))
local macro_rules | `(tactic| walk_at "tg") => `(tactic| first
  | ((with_reducible show GW _ (Expr.Name (Str.ofString "_law_found") _) _ _ _ _); refine g_nm (i := 0) (N := nsBare) scBare.nd rfl at_z ?_))
theorem bBare (F : XF P K mg) : BodyZ P w K mg base nsBare "_law_bare" sBare f 1 (spBare K) := by
  intro X cd A outer s H vs Q E hX hr tk hs
  subst hX
  obtain ⟨rfl, hQ⟩ := hs
  walk_at "z1"
  walk_at "z1"
  walk_at "z1"

  refine a_exs (v := .non) (cs := [(c_ K "InvalidNumber", "value"), (c_ K "InvalidList", "value"), (c_ K "InvalidItem", "value"), (c_ K "InvalidSignature", "value"), (c_ K "InvalidType", "value"), (c_ K "InvalidHead", "value")]) (.cons ⟨fun H Q h => by refine e_ex0 F.t0 hr.r ?_; exact h.ex, fun _ => rfl⟩ (.cons ⟨fun H Q h => by refine e_ex0 F.t1 hr.r ?_; exact h.ex, fun _ => rfl⟩ (.cons ⟨fun H Q h => by refine e_ex0 F.t2 hr.r ?_; exact h.ex, fun _ => rfl⟩ (.cons ⟨fun H Q h => by refine e_ex0 F.t3 hr.r ?_; exact h.ex, fun _ => rfl⟩ (.cons ⟨fun H Q h => by refine e_ex0 F.t4 hr.r ?_; exact h.ex, fun _ => rfl⟩ (.cons ⟨fun H Q h => by refine e_ex0 F.t5 hr.r ?_; exact h.ex, fun _ => rfl⟩ .nil)))))) fun as0 H0 s0 e0 => ?_
  refine ⟨errs_len e0, fun p0 G0 n0 => ?_⟩
  have l0 := n0.here
  have S0 := s0.trans n0.same
  have E0 := e0.keep n0.same
  have A0 := as0
  walk_at "z1"
  walk_at "z1"
  walk_at "z1"
  walk_at "z1"
  walk_at "z1"

  refine a_exs (v := .non) (cs := [(c_ K "InvalidBase", "value"), (c_ K "InvalidFormula", "value"), (c_ K "InvalidGoal", "value"), (c_ K "InvalidText", "value"), (c_ K "Clash", "value")]) (.cons ⟨fun H Q h => by refine e_ex0 F.t6 hr.r ?_; exact h.ex, fun _ => rfl⟩ (.cons ⟨fun H Q h => by refine e_ex0 F.t7 hr.r ?_; exact h.ex, fun _ => rfl⟩ (.cons ⟨fun H Q h => by refine e_ex0 F.t8 hr.r ?_; exact h.ex, fun _ => rfl⟩ (.cons ⟨fun H Q h => by refine e_ex0 F.t9 hr.r ?_; exact h.ex, fun _ => rfl⟩ (.cons ⟨fun H Q h => by refine e_ex0 F.t10 hr.r ?_; exact h.ex, fun _ => rfl⟩ .nil))))) fun as1 H1 s1 e1 => ?_
  refine ⟨errs_len e1, fun q1 J1 m1 => ?_⟩
  have E1 := (E0.keep (s1.trans m1.same)).append (e1.keep m1.same)
  refine .inr (.inl ⟨_, _, _, _, rfl, rfl, (s1.trans m1.same) _ _ l0, m1.here, ?_, fun p1 G1 n1 => ?_⟩)
  · rw [← List.length_append, ← List.map_append]
    exact errs_len E1
  rw [← List.map_append] at n1
  have l1 := n1.here
  have S1 := ((S0.trans s1).trans m1.same).trans n1.same
  have E1' := E1.keep n1.same
  clear E1
  rename _ => E1
  walk_at "z1"
  walk_at "z1"
  walk_at "z1"
  walk_at "z1"
  walk_at "z1"

  refine a_exs (v := .non) (cs := [(c_ K "InvalidName", "name"), (c_ K "TakenName", "name"), (c_ K "UnknownName", "name")]) (.cons ⟨fun H Q h => by refine e_ex0 F.t11 hr.r ?_; exact h.ex, fun _ => rfl⟩ (.cons ⟨fun H Q h => by refine e_ex0 F.t12 hr.r ?_; exact h.ex, fun _ => rfl⟩ (.cons ⟨fun H Q h => by refine e_ex0 F.t13 hr.r ?_; exact h.ex, fun _ => rfl⟩ .nil))) fun as2 H2 s2 e2 => ?_
  refine ⟨errs_len e2, fun q2 J2 m2 => ?_⟩
  have E2 := (E1.keep (s2.trans m2.same)).append (e2.keep m2.same)
  refine .inr (.inl ⟨_, _, _, _, rfl, rfl, (s2.trans m2.same) _ _ l1, m2.here, ?_, fun p2 G2 n2 => ?_⟩)
  · rw [← List.length_append, ← List.map_append]
    exact errs_len E2
  rw [← List.map_append] at n2
  have l2 := n2.here
  have S2 := ((S1.trans s2).trans m2.same).trans n2.same
  have E2' := E2.keep n2.same
  clear E2
  rename _ => E2
  exact hQ _ _ _ ⟨S2, ((S1.trans s2).trans m2.same).free n2.free, l2⟩ E2
abbrev sRight : Stmt := topS 22
abbrev nsRight : List Str := ["_law_errors", "_law_given", "_law_fields", "_law_error", "_law_at"]
theorem scRight : FnScope nsRight ["_law_errors", "_law_given"] (defScope sRight) := ⟨rfl, rfl, rfl, by decide +kernel, rfl, by decide +kernel, by decide +kernel⟩
local macro_rules | `(tactic| walk_at "nm") => `(tactic| first
  | ((with_reducible show EW _ (Expr.Name (Str.ofString "_law_errors") _) _ _ _); refine e_nm (i := 0) (N := nsRight) rfl at_z rfl ?_)
  | ((with_reducible show EW _ (Expr.Name (Str.ofString "_law_given") _) _ _ _); refine e_nm (i := 1) (N := nsRight) rfl (at_s at_z) rfl ?_)
  | ((with_reducible show EW _ (Expr.Name (Str.ofString "_law_fields") _) _ _ _); refine e_nm (i := 2) (N := nsRight) rfl (at_s (at_s at_z)) rfl ?_)
  | ((with_reducible show EW _ (Expr.Name (Str.ofString "_law_error") _) _ _ _); refine e_nm (i := 3) (N := nsRight) rfl (at_s (at_s (at_s at_z))) rfl ?_)
  | ((with_reducible show EW _ (Expr.Name (Str.ofString "_law_at") _) _ _ _); refine e_nm (i := 4) (N := nsRight) rfl (at_s (at_s (at_s (at_s at_z)))) rfl ?_))
local macro_rules | `(tactic| walk_at "set") => `(tactic| first
  | ((with_reducible show SW _ (Stmt.Assign [Expr.Name (Str.ofString "_law_errors") _] _ _) _ _ _); refine s_set (i := 0) (N := nsRight) scRight.nd rfl at_z ?_)
  | ((with_reducible show SW _ (Stmt.Assign [Expr.Name (Str.ofString "_law_given") _] _ _) _ _ _); refine s_set (i := 1) (N := nsRight) scRight.nd rfl (at_s at_z) ?_)
  | ((with_reducible show SW _ (Stmt.Assign [Expr.Name (Str.ofString "_law_fields") _] _ _) _ _ _); refine s_set (i := 2) (N := nsRight) scRight.nd rfl (at_s (at_s at_z)) ?_)
  | ((with_reducible show SW _ (Stmt.Assign [Expr.Name (Str.ofString "_law_error") _] _ _) _ _ _); refine s_set (i := 3) (N := nsRight) scRight.nd rfl (at_s (at_s (at_s at_z))) ?_)
  | ((with_reducible show SW _ (Stmt.Assign [Expr.Name (Str.ofString "_law_at") _] _ _) _ _ _); refine s_set (i := 4) (N := nsRight) scRight.nd rfl (at_s (at_s (at_s (at_s at_z)))) ?_))
local macro_rules | `(tactic| walk_at "tg") => `(tactic| first
  | ((with_reducible show GW _ (Expr.Name (Str.ofString "_law_errors") _) _ _ _ _); refine g_nm (i := 0) (N := nsRight) scRight.nd rfl at_z ?_)
  | ((with_reducible show GW _ (Expr.Name (Str.ofString "_law_given") _) _ _ _ _); refine g_nm (i := 1) (N := nsRight) scRight.nd rfl (at_s at_z) ?_)
  | ((with_reducible show GW _ (Expr.Name (Str.ofString "_law_fields") _) _ _ _ _); refine g_nm (i := 2) (N := nsRight) scRight.nd rfl (at_s (at_s at_z)) ?_)
  | ((with_reducible show GW _ (Expr.Name (Str.ofString "_law_error") _) _ _ _ _); refine g_nm (i := 3) (N := nsRight) scRight.nd rfl (at_s (at_s (at_s at_z))) ?_)
  | ((with_reducible show GW _ (Expr.Name (Str.ofString "_law_at") _) _ _ _ _); refine g_nm (i := 4) (N := nsRight) scRight.nd rfl (at_s (at_s (at_s (at_s at_z)))) ?_))
abbrev dI (i : Nat) : PyData := .list [.int (i : Nat)]
/-- fourteen exceptions, in order, with this field, that is data -/
def spRight (K : PySem.W.Frag) : Sp := fun vs H Q _ => ∃ p v as d, vs = [.ref p, v] ∧ H p = some (.lst (as.map V.ref)) ∧ Errs H v as (cs14 K) ∧ Dq K H v d ∧ Gd d ∧ ∀ H', Same H H' → Q (.bl true) H'
theorem bRight (F : XF P K mg) (S : Sys base) (mr : mg "range" = none) (mp : mg "repr" = none) (DK : DefZ P w K mg base "_law_kinds" 2 ["_law_error"] (spKinds K)) : BodyZ P w K mg base nsRight "_law_right" sRight f 2 (spRight K) := by
  intro X cd A outer s H vs Q E hX hr tk hs
  subst hX
  have hu := hr.r.units
  obtain ⟨p, v, as, d, rfl, hp, he, hd, gd, hQ⟩ := hs
  have la : as.length = 14 := Paired.length he
  walk_at "z"
  refine t_cmp (op_neQ S hu) ?_
  refine e_lcN (own := [("_law_error", 3)]) scRight.nd (show blkC nsRight (defScope sRight) _ _ = true by decide +kernel) (i_list ?_)
  walk_at "z"
  refine ⟨_, _, rfl, .inl (.inl hp), H, fun n acc G' => DqAll K G' acc ((List.range n).map dI), Same.refl _, by rw [List.length_map, la]; decide, .nil, fun i acc G' H' _ g _ => .inl (.inl (g.hh _ _ hp)), ?_, ?_⟩
  · rintro n acc G' H' x H2 hn hl g pv ⟨rfl, ex⟩ X' ⟨s', H3, C, cl, fp, rfl⟩
    walk_at "tg"
    refine ⟨rfl, ?_⟩
    rintro X' ⟨s', H3, C, cl, fp, rfl⟩
    refine ifs0 ?_
    rintro X' ⟨s', H3, C, cl, fp, rfl⟩
    obtain ⟨a, ea, rfl⟩ : ∃ a, as[n]? = some a ∧ x = V.ref a := by
      rw [List.getElem?_map] at ex
      obtain ⟨a, e1, e2⟩ := Option.map_eq_some_iff.mp ex
      exact ⟨a, e1, e2.symm⟩
    obtain ⟨hi, hx⟩ := errs_is F he ea
    refine e_call DK hr takes0 ?_
    walk_at "z"
    refine ⟨_, n, rfl, by omega, hx.keep g.hh, fun q H5 n5 => ?_⟩
    refine ⟨_, .new g.gh n5, ?_⟩
    show DqAll K _ _ ((List.range (n + 1)).map dI)
    rw [List.range_succ, List.map_append]
    exact DqAll.snoc (Dq.keepAll (same_upd (g.gh.free n5.free)) _ _ pv) (.lst (.inl upd_same) (.cons (.int _) .nil))
  rintro L1 acc1 G2 G1 H1 hl1 _ g1 pv1 sg1 hL1 hG1
  refine e_lcN (own := [("_law_at", 4)]) scRight.nd (show blkC nsRight (defScope sRight) _ _ = true by decide +kernel) (i_range1 mr ?_)
  walk_at "z"
  refine ⟨_, rfl, by decide, by decide, G1, fun n acc G' => DqAll K G' acc ((List.range n).map dI), g1.gh, by decide, .nil, fun _ _ _ _ _ _ _ => trivial, ?_, ?_⟩
  · rintro n acc G' H' x H2 hn hl g pv ⟨rfl, rfl⟩ X' ⟨s', H3, C, cl, fp, rfl⟩
    walk_at "tg"
    refine ⟨rfl, ?_⟩
    rintro X' ⟨s', H3, C, cl, fp, rfl⟩
    refine ifs0 ?_
    rintro X' ⟨s', H3, C, cl, fp, rfl⟩
    walk_at "z"
    refine ⟨szL, fun q H5 n5 => ?_⟩
    refine ⟨_, .new g.gh n5, ?_⟩
    show DqAll K _ _ ((List.range (n + 1)).map dI)
    rw [List.range_succ, List.map_append]
    exact DqAll.snoc (Dq.keepAll (same_upd (g.gh.free n5.free)) _ _ pv) (.lst (.inl upd_same) (.cons (.int _) .nil))
  rintro L2 acc2 G4 G3 H2 hl2 _ g2 pv2 sg2 hL2 hG2
  have d1 : Dq K H2 (.ref L1) (.list ((List.range 14).map dI)) := by
    have pv1' : DqAll K G2 acc1 ((List.range 14).map dI) := by
      have z := pv1
      rw [List.length_map, la] at z
      exact z
    exact .lst (.inl (g2.hh _ _ (g1.gh _ _ hG1))) (Dq.keepAll ((sg1.trans g1.gh).trans g2.hh) _ _ pv1')
  have d2 : Dq K H2 (.ref L2) (.list ((List.range 14).map dI)) := .lst (.inl (g2.gh _ _ hG2)) (Dq.keepAll (sg2.trans g2.gh) _ _ pv2)
  refine ⟨_, _, d1, d2, by decide +kernel, by decide +kernel, _, rfl, ?_⟩
  rw [PySem.SeqAt.eqv_refl _ (by decide +kernel)]
  refine (if_neg (by simp)).mpr ?_
  walk_at "z"
  refine e_lcN (own := [("_law_error", 3)]) scRight.nd (show blkC nsRight (defScope sRight) _ _ = true by decide +kernel) (i_list ?_)
  have hh := g1.hh.trans g2.hh
  walk_at "z"
  refine ⟨_, rfl, _, _, rfl, .inl (.inl (hh _ _ hp)), fun q1 H3 n3 => ?_⟩
  rw [show (11 : Int) = ((11 : Nat) : Int) from rfl, cutV_to V.ref as (by omega)] at n3
  refine ⟨_, _, rfl, .inl (.inl n3.here), H3, fun n acc G' => acc = List.replicate n v, Same.refl _, by rw [List.length_map, List.length_take, la]; decide, rfl, fun i acc G' H' _ g _ => .inl (.inl (g.hh _ _ n3.here)), ?_, ?_⟩
  · rintro n acc G' H' x H2' hn hl g rfl ⟨rfl, ex⟩ X' ⟨s', H3', C, cl, fp, rfl⟩
    walk_at "tg"
    refine ⟨rfl, ?_⟩
    rintro X' ⟨s', H3', C, cl, fp, rfl⟩
    refine ifs0 ?_
    rintro X' ⟨s', H3', C, cl, fp, rfl⟩
    have hn11 : n < 11 := by
      rw [List.length_map, List.length_take, la] at hn
      exact hn
    obtain ⟨a, ea, rfl⟩ : ∃ a, as[n]? = some a ∧ x = V.ref a := by
      rw [List.getElem?_map, List.getElem?_take_of_lt hn11] at ex
      obtain ⟨a, e1, e2⟩ := Option.map_eq_some_iff.mp ex
      exact ⟨a, e1, e2.symm⟩
    obtain ⟨C, d', fs, x1, x2, x3, x4, x5⟩ := errs_value F he ea hn11
    have hs := (hh.trans n3.same).trans g.hh
    refine e_xf ?_
    walk_at "z"
    exact ⟨a, C, d', fs, v, rfl, hs _ _ x1, hs _ _ x2, x3, x4, x5, G', .refl g.gh, by show _ = List.replicate (n + 1) v; rw [List.replicate_succ']⟩
  rintro L3 acc3 G6 G5 H4 hl3 _ g3 pv3 sg3 hL3 hG3
  refine e_lcN (own := [("_law_error", 3)]) scRight.nd (show blkC nsRight (defScope sRight) _ _ = true by decide +kernel) (i_list ?_)
  have hh4 := (hh.trans n3.same).trans g3.hh
  walk_at "z"
  refine ⟨_, rfl, ?_⟩
  walk_at "z"
  refine ⟨_, _, rfl, .inl (.inl (hh4 _ _ hp)), fun q2 H5 n5 => ?_⟩
  rw [show (11 : Int) = ((11 : Nat) : Int) from rfl, cutV_from V.ref as (by omega)] at n5
  refine ⟨_, _, rfl, .inl (.inl n5.here), H5, fun n acc G' => acc = List.replicate n v, Same.refl _, by rw [List.length_map, List.length_drop, la]; decide, rfl, fun i acc G' H' _ g _ => .inl (.inl (g.hh _ _ n5.here)), ?_, ?_⟩
  · rintro n acc G' H' x H2' hn hl g rfl ⟨rfl, ex⟩ X' ⟨s', H3', C, cl, fp, rfl⟩
    walk_at "tg"
    refine ⟨rfl, ?_⟩
    rintro X' ⟨s', H3', C, cl, fp, rfl⟩
    refine ifs0 ?_
    rintro X' ⟨s', H3', C, cl, fp, rfl⟩
    have hn3 : n < 3 := by
      rw [List.length_map, List.length_drop, la] at hn
      exact hn
    obtain ⟨a, ea, rfl⟩ : ∃ a, as[11 + n]? = some a ∧ x = V.ref a := by
      rw [List.getElem?_map, List.getElem?_drop] at ex
      obtain ⟨a, e1, e2⟩ := Option.map_eq_some_iff.mp ex
      exact ⟨a, e1, e2.symm⟩
    obtain ⟨C, d', fs, x1, x2, x3, x4, x5⟩ := errs_name F he ea hn3
    have hs := (hh4.trans n5.same).trans g.hh
    refine e_xf ?_
    walk_at "z"
    exact ⟨a, C, d', fs, v, rfl, hs _ _ x1, hs _ _ x2, x3, x4, x5, G', .refl g.gh, by show _ = List.replicate (n + 1) v; rw [List.replicate_succ']⟩
  rintro L4 acc4 G8 G7 H6 hl4 _ g4 pv4 sg4 hL4 hG4
  rw [List.length_map, List.length_take, la] at pv3
  rw [List.length_map, List.length_drop, la] at pv4
  have e3 : H6 L3 = some (.lst acc3) := g4.hh _ _ (n5.same _ _ (g3.gh _ _ hG3))
  refine .inr (.inl ⟨_, _, _, _, rfl, rfl, e3, g4.gh _ _ hG4, by rw [pv3, pv4, List.length_replicate, List.length_replicate]; decide, fun q3 H7 n7 => ?_⟩)
  rw [pv3, pv4] at n7
  have hh7 := ((hh4.trans n5.same).trans g4.hh).trans n7.same
  walk_at "z"
  refine e_cmp op_eq ?_
  refine e_callB (call_repr S hr.g hu) mp boot_repr ?_
  walk_at "z"
  obtain ⟨r1, r2, r3⟩ := gd.rep (n := 14) (by decide)
  refine ⟨_, _, rfl, .lst (.inl n7.here) (DqAll.rep (Dq.keep hh7 _ _ hd) 14), r1, r2, r3, ?_⟩
  refine e_callB (call_repr S hr.g hu) mp boot_repr ?_
  walk_at "z"
  refine ⟨szL, fun q4 H8 n8 => ?_⟩
  walk_at "z"
  refine .inr ⟨_, _, _, rfl, rfl, n8.here, by decide, by decide, szL, fun q5 H9 n9 => ?_⟩
  walk_at "z"
  have hh9 := (hh7.trans n8.same).trans n9.same
  refine ⟨_, _, rfl, .lst (.inl n9.here) (DqAll.rep (Dq.keep hh9 _ _ hd) 14), r1, r2, r3, ?_⟩
  refine ⟨rfl, ?_⟩
  rw [show decide _ = true from decide_eq_true rfl]
  exact hQ _ hh9
end
end L2.Z.Law
set_option maxHeartbeats 4000000
namespace L2.Z.Law
open PySem PySem.Spec PyProof.Rows PySem.ZX
local macro_rules | `(tactic| walk_at "zi") => `(tactic| refine ⟨_, _, rfl, rfl, ?_⟩)
local macro_rules | `(tactic| walk_at "zmod") => `(tactic| refine ⟨_, _, rfl, rfl, (show (0 : Int) < _ by first | decide | omega), ?_⟩)
local macro_rules | `(tactic| walk_at "zdiv") => `(tactic| refine ⟨_, _, rfl, rfl, ⟨(show (0 : Int) < _ by first | decide | omega), ?_⟩, ?_⟩)
local macro_rules | `(tactic| walk_at "z1") => `(tactic| first
  | ((with_reducible show EW _ (Expr.Name _ _) _ _ _); walk_at "nm")
  | ((with_reducible show EW _ (Expr.Constant _ _ _) _ _ _); first | with_reducible refine e_int ?_ | with_reducible refine e_str ?_ | with_reducible refine e_bl ?_ | with_reducible refine e_non ?_)
  | ((with_reducible show EW _ (Expr.BinOp _ Operator.Add _ _) _ _ _); refine e_op z_add ?_)
  | ((with_reducible show EW _ (Expr.BinOp _ Operator.Sub _ _) _ _ _); refine e_op op_sub ?_)
  | ((with_reducible show EW _ (Expr.BinOp _ Operator.Mult _ _) _ _ _); refine e_op z_mul ?_)
  | ((with_reducible show EW _ (Expr.BinOp _ Operator.Mod _ _) _ _ _); refine e_op op_mod ?_)
  | ((with_reducible show EW _ (Expr.BinOp _ Operator.FloorDiv _ _) _ _ _); refine e_op op_fdivW ?_)
  | ((with_reducible show EW _ (Expr.BinOp _ Operator.Pow _ _) _ _ _); refine e_op op_pow ?_)
  | ((with_reducible show EW _ (Expr.List _ _) _ _ _); refine e_lstN ?_)
  | ((with_reducible show EW _ (Expr.Tuple _ _ _) _ _ _); refine e_tupN ?_)
  | ((with_reducible show EW _ (Expr.Subscript _ (Expr.Slice _ _ _ _) _) _ _ _); refine e_sl sl_listN ?_)
  | ((with_reducible show EW _ (Expr.Dict [] [] _) _ _ _); refine e_dKN ?_)
  | ((with_reducible show EW _ (Expr.BoolOp BoolOp.And [_] _) _ _ _); refine e_one ?_)
  | ((with_reducible show EW _ (Expr.BoolOp BoolOp.Or [_] _) _ _ _); refine e_one ?_)
  | ((with_reducible show EW _ (Expr.BoolOp BoolOp.And _ _) _ _ _); refine e_and ?_)
  | ((with_reducible show EW _ (Expr.BoolOp BoolOp.Or _ _) _ _ _); refine e_or ?_)
  | ((with_reducible show EW _ (Expr.IfExp _ _ _ _) _ _ _); refine e_if ?_)
  | ((with_reducible show AW _ [] _ _ _); refine a_nil ?_)
  | ((with_reducible show AW _ (_ :: _) _ _ _); refine a_cons ?_)
  | ((with_reducible show OW _ none _ _ _); refine o_no ?_)
  | ((with_reducible show OW _ (some _) _ _ _); refine o_so ?_)
  | ((with_reducible show TW _ (Expr.UnaryOp UnaryOp.Not _ _) _ _ _); refine t_not ?_)
  | ((with_reducible show TW _ (Expr.BoolOp _ _ _) _ _ _); refine t_w ?_)
  | ((with_reducible show PWW _ (Expr.BoolOp BoolOp.And [_] _) _ _ _); refine w_and1 ?_)
  | ((with_reducible show PWW _ (Expr.BoolOp BoolOp.Or [_] _) _ _ _); refine w_or1 ?_)
  | ((with_reducible show PWW _ (Expr.BoolOp BoolOp.And _ _) _ _ _); refine w_and ?_)
  | ((with_reducible show PWW _ (Expr.BoolOp BoolOp.Or _ _) _ _ _); refine w_or ?_)
  | ((with_reducible show SW _ (Stmt.Return (some _) _) _ _ _); refine s_ret ?_)
  | ((with_reducible show SW _ (Stmt.If _ _ _ _) _ _ _); refine s_if ?_)
  | ((with_reducible show SW _ (Stmt.Expr _ _) _ _ _); refine s_expr ?_)
  | ((with_reducible show SW _ (Stmt.Assign [Expr.Name _ _] _ _) _ _ _); walk_at "set")
  | ((with_reducible show BW _ [_] _ _ _); refine b_one ?_)
  | ((with_reducible show BW _ [] _ _ _); refine b_nil ?_)
  | ((with_reducible show BW _ _ _ _ _); refine b_cons ?_)
  | ((with_reducible show rAddZ _ _ _ _ _); refine Or.inl ⟨_, _, rfl, rfl, ?_⟩)
  | ((with_reducible show rI0 _ _ _ _ _); refine ⟨_, _, rfl, rfl, ?_⟩)
  | ((with_reducible show rI (fun _ j => 0 < j) _ _ _ _ _); refine ⟨_, _, rfl, rfl, (show (0 : Int) < _ by first | decide | omega), ?_⟩)
  | ((with_reducible show Ends.nx _ _ _); refine (show BW _ _ _ _ _ from ?_)))
local macro_rules | `(tactic| walk_at "z") => `(tactic| repeat walk_at "z1")
local macro_rules | `(tactic| walk_at "st") => `(tactic| repeat (first
  | ((with_reducible show Ends.nx _ _ _); refine (show BW _ _ _ _ _ from ?_))
  | ((with_reducible show BW _ _ _ _ _); refine b_cons ?_)))
section
variable {P : Program} {w : World} {K : PySem.W.Frag} {mg : Str → Option Value} {base : Heap} {f : Addr}
/-- what stood stands, but for these -/
def Fr (J : Hp) (dn : List Addr) (H' : Hp) : Prop := ∀ b o, J b = some o → b ∉ dn → H' b = some o
/-- a list or a dict -/
def Box (o : HO) : Prop := (∃ xs, o = .lst xs) ∨ ∃ kvs, o = .dK kvs
theorem Box.noX {o : HO} (b : Box o) {a C d : Addr} : exT a C d ≠ o := by
  rcases b with ⟨xs, rfl⟩ | ⟨kvs, rfl⟩ <;> (unfold exT; intro z; cases z)
theorem Box.noD {o : HO} (b : Box o) {fs : List (Str × V)} : HO.xd fs ≠ o := by
  rcases b with ⟨xs, rfl⟩ | ⟨kvs, rfl⟩ <;> (intro z; cases z)
theorem errs_fr {J H' : Hp} {dn : List Addr} (bx : ∀ a ∈ dn, ∃ o, J a = some o ∧ Box o) (fr : Fr J dn H') {v : V} : ∀ {as : List Addr} {cs : List (Addr × Str)}, Errs J v as cs → Errs H' v as cs
  | _, _, .nil => .nil
  | _, _, .cons ⟨d, h1, h2⟩ t => .cons ⟨d, fr _ _ h1 fun m => (by obtain ⟨o, e, b⟩ := bx _ m; rw [h1] at e; exact b.noX (Option.some.inj e)), fr _ _ h2 fun m => (by obtain ⟨o, e, b⟩ := bx _ m; rw [h2] at e; exact b.noD (Option.some.inj e))⟩ (errs_fr bx fr t)
theorem fr_upd {J H : Hp} {dn : List Addr} {a : Addr} {o : HO} (fr : Fr J dn H) : Fr J (dn ++ [a]) (upd H a o) := fun b u e n => by
  rw [upd_ne (fun z => n (by rw [z]; simp))]
  exact fr b u e fun m => n (List.mem_append_left _ m)
theorem fr_self {H : Hp} {a : Addr} {o : HO} : Fr H [a] (upd H a o) := fun b u e n => by
  rw [upd_ne (fun z => n (by rw [z]; simp))]
  exact e
theorem Fr.same {J H H' : Hp} {dn : List Addr} (fr : Fr J dn H) (s : Same H H') : Fr J dn H' := fun b u e n => s _ _ (fr b u e n)
/-- a value of the loop: one that stays, a list, a dict that is lengthened -/
inductive Kind (K : PySem.W.Frag) (J : Hp) (dn dn' : List Addr) (x : V) (d : PyData) : Prop where
  | p (T : String) (k1 : kitB T "list" = some false) (k2 : kitB T "dict" = some false) (ty : ∀ H', Fr J dn H' → TyZ K H' x (.type T)) (e : dn' = dn)
  | l (a : Addr) (xs : List V) (d' : PyData) (ex : x = .ref a) (h : J a = some (.lst xs)) (hn : a ∉ dn) (e : dn' = dn ++ [a]) (hl : xs.length ≤ 10) (gd : Gd d') (dq : ∀ H', H' a = some (.lst (xs ++ [.str "more"])) → Dq K H' x d')
  | m (a : Addr) (kvs : List (Key × V)) (d' : PyData) (ex : x = .ref a) (h : J a = some (.dK kvs)) (hn : a ∉ dn) (e : dn' = dn ++ [a]) (hl : kvs.length ≤ 10) (gd : Gd d')
      (dq : ∀ H' q, Fr J (dn ++ [a]) H' → H' q = some (.lst [.int 1]) → H' a = some (.dK (putK kvs (.inr "more") (.ref q))) → Dq K H' x d')
theorem gd_int {i : Int} (h : i.natAbs < 10 ^ 12) : Gd (.int i) := by
  have h2 : i.natAbs.log2 < 40 := PySem.Flt.log2_lt_of (by decide) (by omega)
  refine ⟨?_, ?_, ?_, ?_⟩
  · rw [PyData.showable]
    exact decide_eq_true (by omega)
  · rw [PyData.leavesShort]
    exact decide_eq_true (PyData.shown_int_le h)
  · rw [PyData.weight]
    split <;> omega
  · rw [PyData.depth]
    omega
theorem gd_any {d : PyData} (h : (d.showable && d.leavesShort 13 && decide (d.weight ≤ 1000) && decide (d.depth ≤ 20)) = true) : Gd d := by
  simp only [Bool.and_eq_true, decide_eq_true_eq] at h
  exact ⟨h.1.1.1, h.1.1.2, h.1.2, h.2⟩
theorem gd_d {d : PyData} (g : Gd d) (hw : d.weight ≤ 100) (hd : d.depth ≤ 5) : Gd (.dict [(.str "a", .list [d])]) ∧ Gd (.dict [(.str "a", .list [d]), (.str "more", .list [.int 1])]) := by
  have a1 : (PyData.str "a").showable = true ∧ (PyData.str "more").showable = true ∧ (PyData.list [.int 1]).showable = true := by decide +kernel
  have a2 : (PyData.str "a").leavesShort 13 = true ∧ (PyData.str "more").leavesShort 13 = true ∧ (PyData.list [.int 1]).leavesShort 13 = true := by decide +kernel
  have a3 : (PyData.str "a").weight = 1 ∧ (PyData.str "more").weight = 4 ∧ (PyData.list [.int 1]).weight = 2 := by decide +kernel
  have a4 : (PyData.str "a").depth = 0 ∧ (PyData.str "more").depth = 0 ∧ (PyData.list [.int 1]).depth = 1 := by decide +kernel
  have b1 : (PyData.list [d]).showable = true := by rw [PyData.showable, PyData.showableAll, PyData.showableAll, g.sh]; rfl
  have b2 : (PyData.list [d]).leavesShort 13 = true := by rw [PyData.leavesShort, PyData.leavesShortAll, PyData.leavesShortAll, g.lf]; rfl
  have b3 : (PyData.list [d]).weight = d.weight + 1 := by rw [PyData.weight, PyData.weightAll, PyData.weightAll]
  have b4 : (PyData.list [d]).depth = d.depth + 1 := by rw [PyData.depth, PyData.depthAll, PyData.depthAll]; omega
  generalize PyData.str "a" = x at *
  generalize PyData.str "more" = y at *
  generalize PyData.list [.int 1] = z at *
  generalize PyData.list [d] = u at *
  obtain ⟨a11, a12, a13⟩ := a1
  obtain ⟨a21, a22, a23⟩ := a2
  obtain ⟨a31, a32, a33⟩ := a3
  obtain ⟨a41, a42, a43⟩ := a4
  refine ⟨⟨?_, ?_, ?_, ?_⟩, ⟨?_, ?_, ?_, ?_⟩⟩
  · rw [PyData.showable, PyData.showableKv, PyData.showableKv, a11, b1]; rfl
  · rw [PyData.leavesShort, PyData.leavesShortKv, PyData.leavesShortKv, a21, b2]; rfl
  · rw [PyData.weight, PyData.weightKv, PyData.weightKv]; omega
  · rw [PyData.depth, PyData.depthKv, PyData.depthKv]; omega
  · rw [PyData.showable, PyData.showableKv, PyData.showableKv, PyData.showableKv, a11, a12, a13, b1]; rfl
  · rw [PyData.leavesShort, PyData.leavesShortKv, PyData.leavesShortKv, PyData.leavesShortKv, a21, a22, a23, b2]; rfl
  · rw [PyData.weight, PyData.weightKv, PyData.weightKv, PyData.weightKv]; omega
  · rw [PyData.depth, PyData.depthKv, PyData.depthKv, PyData.depthKv]; omega
theorem int_small {i : Int} (h : i.natAbs < 10 ^ 12) : (PyData.int i).weight ≤ 100 ∧ (PyData.int i).depth ≤ 5 := by
  have h2 : i.natAbs.log2 < 40 := PySem.Flt.log2_lt_of (by decide) (by omega)
  constructor
  · rw [PyData.weight]
    split <;> omega
  · rw [PyData.depth]
    omega
abbrev sLaw : Stmt := topS 26
abbrev nsLaw : List Str := ["_law_script", "_law_mark", "_law_elder", "_law_given", "_law_first", "_law_second"]
theorem scLaw : FnScope nsLaw ["_law_script"] (defScope sLaw) := ⟨rfl, rfl, rfl, by decide +kernel, rfl, by decide +kernel, by decide +kernel⟩
local macro_rules | `(tactic| walk_at "nm") => `(tactic| first
  | ((with_reducible show EW _ (Expr.Name (Str.ofString "_law_script") _) _ _ _); refine e_nm (i := 0) (N := nsLaw) rfl at_z rfl ?_)
  | ((with_reducible show EW _ (Expr.Name (Str.ofString "_law_mark") _) _ _ _); refine e_nm (i := 1) (N := nsLaw) rfl (at_s at_z) rfl ?_)
  | ((with_reducible show EW _ (Expr.Name (Str.ofString "_law_elder") _) _ _ _); refine e_nm (i := 2) (N := nsLaw) rfl (at_s (at_s at_z)) rfl ?_)
  | ((with_reducible show EW _ (Expr.Name (Str.ofString "_law_given") _) _ _ _); refine e_nm (i := 3) (N := nsLaw) rfl (at_s (at_s (at_s at_z))) rfl ?_)
  | ((with_reducible show EW _ (Expr.Name (Str.ofString "_law_first") _) _ _ _); refine e_nm (i := 4) (N := nsLaw) rfl (at_s (at_s (at_s (at_s at_z)))) rfl ?_)
  | ((with_reducible show EW _ (Expr.Name (Str.ofString "_law_second") _) _ _ _); refine e_nm (i := 5) (N := nsLaw) rfl (at_s (at_s (at_s (at_s (at_s at_z))))) rfl ?_))
local macro_rules | `(tactic| walk_at "set") => `(tactic| first
  | ((with_reducible show SW _ (Stmt.Assign [Expr.Name (Str.ofString "_law_script") _] _ _) _ _ _); refine s_set (i := 0) (N := nsLaw) scLaw.nd rfl at_z ?_)
  | ((with_reducible show SW _ (Stmt.Assign [Expr.Name (Str.ofString "_law_mark") _] _ _) _ _ _); refine s_set (i := 1) (N := nsLaw) scLaw.nd rfl (at_s at_z) ?_)
  | ((with_reducible show SW _ (Stmt.Assign [Expr.Name (Str.ofString "_law_elder") _] _ _) _ _ _); refine s_set (i := 2) (N := nsLaw) scLaw.nd rfl (at_s (at_s at_z)) ?_)
  | ((with_reducible show SW _ (Stmt.Assign [Expr.Name (Str.ofString "_law_given") _] _ _) _ _ _); refine s_set (i := 3) (N := nsLaw) scLaw.nd rfl (at_s (at_s (at_s at_z))) ?_)
  | ((with_reducible show SW _ (Stmt.Assign [Expr.Name (Str.ofString "_law_first") _] _ _) _ _ _); refine s_set (i := 4) (N := nsLaw) scLaw.nd rfl (at_s (at_s (at_s (at_s at_z)))) ?_)
  | ((with_reducible show SW _ (Stmt.Assign [Expr.Name (Str.ofString "_law_second") _] _ _) _ _ _); refine s_set (i := 5) (N := nsLaw) scLaw.nd rfl (at_s (at_s (at_s (at_s (at_s at_z))))) ?_))
local macro_rules | `(tactic| walk_at "tg") => `(tactic| first
  | ((with_reducible show GW _ (Expr.Name (Str.ofString "_law_script") _) _ _ _ _); refine g_nm (i := 0) (N := nsLaw) scLaw.nd rfl at_z ?_)
  | ((with_reducible show GW _ (Expr.Name (Str.ofString "_law_mark") _) _ _ _ _); refine g_nm (i := 1) (N := nsLaw) scLaw.nd rfl (at_s at_z) ?_)
  | ((with_reducible show GW _ (Expr.Name (Str.ofString "_law_elder") _) _ _ _ _); refine g_nm (i := 2) (N := nsLaw) scLaw.nd rfl (at_s (at_s at_z)) ?_)
  | ((with_reducible show GW _ (Expr.Name (Str.ofString "_law_given") _) _ _ _ _); refine g_nm (i := 3) (N := nsLaw) scLaw.nd rfl (at_s (at_s (at_s at_z))) ?_)
  | ((with_reducible show GW _ (Expr.Name (Str.ofString "_law_first") _) _ _ _ _); refine g_nm (i := 4) (N := nsLaw) scLaw.nd rfl (at_s (at_s (at_s (at_s at_z)))) ?_)
  | ((with_reducible show GW _ (Expr.Name (Str.ofString "_law_second") _) _ _ _ _); refine g_nm (i := 5) (N := nsLaw) scLaw.nd rfl (at_s (at_s (at_s (at_s (at_s at_z))))) ?_))
/-- if not right(first, given) or not right(second, given): return False -/
theorem rr_ok {X : Cx} {σ : St} {H : Hp} {D : Ends} {A : List Stmt} {e1 e2 e3 : Expr} {q1 q2 q4 q5 q6 q8 q9 q10 : Pos} {k : Nat} {p1 p2 : Addr} {v : V} {as1 as2 : List Addr} {d : PyData} {e4 : Expr}
    (DR : DefZ X.prog X.w X.K X.mg X.base "_law_right" k ["_law_errors", "_law_given"] (spRight X.K)) (hr : RoomZ k X.A) {W : WX} (tk : Takes X W)
    (w1 : ∀ H' (Q : List V → Hp → Prop), Q [.ref p1, v] H' → AW X [e1, e2] σ H' Q) (w2 : ∀ H' (Q : List V → Hp → Prop), Q [.ref p2, v] H' → AW X [e3, e4] σ H' Q)
    (l1 : H p1 = some (.lst (as1.map V.ref))) (l2 : H p2 = some (.lst (as2.map V.ref))) (r1 : Errs H v as1 (cs14 X.K)) (r2 : Errs H v as2 (cs14 X.K)) (hd : Dq X.K H v d) (gd : Gd d) (h : ∀ H', Same H H' → D.nx σ H')
    (g : Gl X "_law_right" := by rfl) (s1 : starEach [e1, e2] X.env = (false, eval e1 X.env) :: starEach [e2] X.env := by rfl) (s2 : starEach [e3, e4] X.env = (false, eval e3 X.env) :: starEach [e4] X.env := by rfl)
    (t1 : (backTo q2 (starEach [e2] X.env)).any (·.1) = false := by rfl) (t2 : (backTo q6 (starEach [e4] X.env)).any (·.1) = false := by rfl) :
    SW X (.If (.BoolOp .Or [.UnaryOp .Not (.Call (.Name "_law_right" q1) [e1, e2] [] q2) q4, .UnaryOp .Not (.Call (.Name "_law_right" q5) [e3, e4] [] q6) q8] q9) A [] q10) D σ H := by
  refine s_if (t_w (w_or (t_not (t_val (e_call DR hr tk (w1 _ _ ⟨p1, v, as1, d, rfl, l1, r1, hd, gd, fun H1 S1 => ⟨true, rfl, (if_neg (by simp)).mpr ?_⟩⟩) g (by decide) s1 t1)))))
  refine w_or1 (t_not (t_val (e_call DR hr tk (w2 _ _ ⟨p2, v, as2, d, rfl, S1 _ _ l2, Errs.keep S1 r2, Dq.keep S1 _ _ hd, gd, fun H2 S2 => ⟨true, rfl, (if_neg (by simp)).mpr ?_⟩⟩) g (by decide) s2 t2)))
  exact b_nil (h _ (S1.trans S2))
def spLaw (K : PySem.W.Frag) : Sp := fun vs H Q _ => ∃ (a : Addr) (ns : List Int), vs = [.ref a] ∧ SqL K H a (ns.map V.int) ∧ ∀ H', Q (.bl true) H'
theorem bLaw (F : XF P K mg) (S : Sys base) (mi : mg "isinstance" = none) (ml : mg "list" = none) (md : mg "dict" = none)
    (DD : DefZ P w K mg base "_law_draw" 3 ["_law_purse_here", "_law_out_of"] spDraw) (DP : DefZ P w K mg base "_law_purse" 3 ["_law_script", "_law_at"] (spPurse K))
    (DK : DefZ P w K mg base "_law_kinds" 3 ["_law_error"] (spKinds K)) (DR : DefZ P w K mg base "_law_right" 3 ["_law_errors", "_law_given"] (spRight K))
    (DA : DefZ P w K mg base "_law_placed" 3 ["_law_given"] (spMade K)) (DN : DefZ P w K mg base "_law_named" 3 ["_law_given"] (spMade K)) (DB : DefZ P w K mg base "_law_bare" 3 [] (spBare K)) :
    BodyZ P w K mg base nsLaw "law" sLaw f 3 (spLaw K) := by
  intro X cd A outer s H vs Q E hX hr tk hs
  subst hX
  have hu := hr.r.units
  have hu1 : A.units + 3 + 1 < cLine := Nat.lt_of_le_of_lt (Nat.add_le_add_left (by decide : 1 ≤ 64) _) hu
  obtain ⟨a, ns, rfl, hS, hQ⟩ := hs
  walk_at "z"
  refine e_call DD hr tk ?_
  walk_at "z1"
  refine e_call DP hr tk ?_
  walk_at "z"
  refine ⟨_, ns, 0, rfl, hS, by decide, by decide, fun p H1 hPu s1 np => ?_⟩
  walk_at "z"
  refine ⟨_, _, rfl, rfl, ⟨by decide, by decide⟩, ?_⟩
  walk_at "z"
  refine ⟨p, _, 64000, rfl, hPu, by decide, by decide, by decide, fun m o m0 m1 pu => ?_⟩
  generalize upd H1 p o = H2
  have mm : m.natAbs < 10 ^ 12 := by
    have e : (10 : Int) ^ (Int.toNat 12) = 1000000000000 := by decide
    rw [e] at m1
    omega
  clear pu m0 m1 hPu np s1
  walk_at "z"
  refine e_call DA hr tk ?_
  walk_at "z"
  refine ⟨_, rfl, fun pe1 ae1 H3 n3 er1 => ?_⟩
  walk_at "z1"
  refine e_call DN hr tk ?_
  walk_at "z"
  refine ⟨_, rfl, fun pe2 ae2 H4 n4 er2 => ?_⟩
  walk_at "z"
  refine ⟨szL, fun pe J0 n5 => ?_⟩
  walk_at "z"
  refine s_for (i_list ?_)
  walk_at "z"
  refine ⟨szL, fun t1 J1 m1 => ?_⟩
  walk_at "z"
  refine ⟨szL, fun t2 J2 m2 => ?_⟩
  walk_at "z"
  refine ⟨szL, fun l1 J3 m3 => ?_⟩
  walk_at "z"
  refine ⟨szL, fun l2 J4 m4 => ?_⟩
  walk_at "z"
  refine fun d1 J5 m5 => ?_
  walk_at "z1"
  refine e_d1 fun d2 hd2 => ?_
  walk_at "z"
  refine ⟨szL, fun q J6 m6 => ?_⟩
  have qd : J6 d2 = some (.dK []) := m6.same _ _ upd_same
  refine ⟨qd, .inr "a", rfl, ?_⟩
  have S7 : Same J5 (upd J6 d2 (.dK [(.inr "a", .ref q)])) := fun b u e => by
    have ne := ne_of_none e hd2
    rw [upd_ne ne]
    exact m6.same _ _ (by rw [upd_ne ne]; exact e)
  have q7 : (upd J6 d2 (.dK [(.inr "a", .ref q)])) q = some (.lst [.int m]) := by
    rw [upd_ne (ne_of m6.here qd (by intro z; cases z))]
    exact m6.here
  have d7 : (upd J6 d2 (.dK [(.inr "a", .ref q)])) d2 = some (.dK [(.inr "a", .ref q)]) := upd_same
  generalize upd J6 d2 (.dK [(.inr "a", .ref q)]) = J7 at S7 q7 d7 ⊢
  walk_at "z"
  refine ⟨szL, fun t3 J8 m8 => ?_⟩
  walk_at "z"
  refine ⟨szL, fun L J m9 => ?_⟩
  -- what stands where the loop begins
  have s8 : Same J8 J := m9.same
  have s7 : Same J7 J := m8.same.trans s8
  have s5 : Same J5 J := S7.trans s7
  have s4 : Same J4 J := m5.same.trans s5
  have s3 : Same J3 J := m4.same.trans s4
  have s2 : Same J2 J := m3.same.trans s3
  have s1 : Same J1 J := m2.same.trans s2
  have s0 : Same J0 J := m1.same.trans s1
  have ht1 : J t1 = some (.tup [.int 1, .int 2]) := s1 _ _ m1.here
  have ht2 : J t2 = some (.tup []) := s2 _ _ m2.here
  have hl1 : J l1 = some (.lst [.int 1]) := s3 _ _ m3.here
  have hl2 : J l2 = some (.lst []) := s4 _ _ m4.here
  have hd1 : J d1 = some (.dK []) := s5 _ _ m5.here
  have hd2' : J d2 = some (.dK [(.inr "a", .ref q)]) := s7 _ _ d7
  have hq : J q = some (.lst [.int m]) := s7 _ _ q7
  have ht3 : J t3 = some (.tup [.str "int"]) := s8 _ _ m8.here
  have hL := m9.here
  have t5 : Same J5 J8 := S7.trans m8.same
  have t4 : Same J4 J8 := m5.same.trans t5
  have t3' : Same J3 J8 := m4.same.trans t4
  have nw : ∀ {A B : Hp} {b c : Addr} {o u : HO}, New A c o B → A b = some u → b ≠ c := fun n e => ne_of_none e n.free
  have J02 : Same J0 J2 := m1.same.trans m2.same
  have J03 : Same J0 J3 := J02.trans m3.same
  have off : ∀ b o, J b = some o → (∀ u, Box u → o ≠ u) → b ∉ [l1, l2, d1, d2] := fun b o e h hm => by
    simp only [List.mem_cons, List.not_mem_nil, or_false] at hm
    rcases hm with rfl | rfl | rfl | rfl
    · exact h _ (.inl ⟨_, rfl⟩) (Option.some.inj (e.symm.trans hl1))
    · exact h _ (.inl ⟨_, rfl⟩) (Option.some.inj (e.symm.trans hl2))
    · exact h _ (.inr ⟨_, rfl⟩) (Option.some.inj (e.symm.trans hd1))
    · exact h _ (.inr ⟨_, rfl⟩) (Option.some.inj (e.symm.trans hd2'))
  have offL : ∀ b xs, J b = some (.lst xs) → b ≠ l1 → b ≠ l2 → b ∉ [l1, l2, d1, d2] := fun b xs e n1 n2 hm => by
    simp only [List.mem_cons, List.not_mem_nil, or_false] at hm
    rcases hm with rfl | rfl | rfl | rfl
    · exact n1 rfl
    · exact n2 rfl
    · rw [e] at hd1; cases hd1
    · rw [e] at hd2'; cases hd2'
  have box : ∀ b ∈ [l1, l2, d1, d2], ∃ o, J b = some o ∧ Box o := fun b hm => by
    simp only [List.mem_cons, List.not_mem_nil, or_false] at hm
    rcases hm with rfl | rfl | rfl | rfl
    · exact ⟨_, hl1, .inl ⟨_, rfl⟩⟩
    · exact ⟨_, hl2, .inl ⟨_, rfl⟩⟩
    · exact ⟨_, hd1, .inr ⟨_, rfl⟩⟩
    · exact ⟨_, hd2', .inr ⟨_, rfl⟩⟩
  have ne12 : l2 ≠ l1 := fun z => nw m4 m3.here z.symm
  have nedd : d2 ≠ d1 := fun z => by rw [z, m5.here] at hd2; cases hd2
  have noL : L ∉ [l1, l2, d1, d2] := offL _ _ hL (fun z => nw m9 (t3' _ _ m3.here) z.symm) (fun z => nw m9 (t4 _ _ m4.here) z.symm)
  have q5 : ∀ b u, J5 b = some u → q ≠ b := fun b u e z => nw m6 (show (upd J5 d2 (.dK [])) b = some u by rw [upd_ne (ne_of_none e hd2)]; exact e) z.symm
  have noq : q ∉ [l1, l2, d1, d2] := offL _ _ hq (q5 _ _ (m5.same _ _ (m4.same _ _ m3.here))) (q5 _ _ (m5.same _ _ m4.here))
  have noP : ∀ b xs, J0 b = some (.lst xs) → b ∉ [l1, l2, d1, d2] := fun b xs e => offL _ _ (s0 _ _ e) (nw m3 (J02 _ _ e)) (nw m4 (J03 _ _ e))
  have tupU : ∀ xs u, Box u → HO.tup xs ≠ u := fun xs u b => by
    rcases b with ⟨_, rfl⟩ | ⟨_, rfl⟩ <;> (intro z; cases z)
  let vals : List V := [.int m, .int (0 - m), .ref t1, .ref t2, .ref l1, .ref l2, .ref d1, .ref d2, .str "a b", .str "", .bl true, .non, .ref t3]
  let dn : Nat → List Addr := fun i => [l1, l2, d1, d2].take (i - 4)
  have dnsub : ∀ i b, b ∉ [l1, l2, d1, d2] → b ∉ dn i := fun i b h hm => h (List.mem_of_mem_take hm)
  have cur : ∀ i x, vals[i]? = some x → ∃ d, Gd d ∧ (∀ H', Fr J (dn i) H' → Dq K H' x d) ∧ Kind K J (dn i) (dn (i + 1)) x d := by
    intro i x ex
    have tq : ∀ {i : Nat} {H' : Hp} {t : Addr} {xs : List V}, J t = some (.tup xs) → Fr J (dn i) H' → H' t = some (.tup xs) := fun h fr => fr _ _ h (dnsub _ _ (off _ _ h (tupU _)))
    rcases i with _ | _ | _ | _ | _ | _ | _ | _ | _ | _ | _ | _ | _ | i
    · cases ex; exact ⟨_, gd_int mm, fun _ _ => .int _, .p "int" (by decide +kernel) (by decide +kernel) (fun _ _ => .x (.base (.int _))) rfl⟩
    · cases ex; exact ⟨_, gd_int (i := 0 - m) (by omega), fun _ _ => .int _, .p "int" (by decide +kernel) (by decide +kernel) (fun _ _ => .x (.base (.int _))) rfl⟩
    · cases ex; exact ⟨.tuple [.int 1, .int 2], gd_any (by decide +kernel), fun _ fr => .tup (.inl (.inl (tq ht1 fr))) (.cons (.int _) (.cons (.int _) .nil)), .p "tuple" (by decide +kernel) (by decide +kernel) (fun _ fr => .x (.base (.tup (tq ht1 fr)))) rfl⟩
    · cases ex; exact ⟨.tuple [], gd_any (by decide +kernel), fun _ fr => .tup (.inl (.inl (tq ht2 fr))) .nil, .p "tuple" (by decide +kernel) (by decide +kernel) (fun _ fr => .x (.base (.tup (tq ht2 fr)))) rfl⟩
    · cases ex; exact ⟨.list [.int 1], gd_any (by decide +kernel), fun _ fr => .lst (.inl (fr _ _ hl1 (by simp [dn]))) (.cons (.int _) .nil), .l l1 _ (.list [.int 1, .str "more"]) rfl hl1 (by simp [dn]) rfl (by decide) (gd_any (by decide +kernel)) fun _ h => .lst (.inl h) (.cons (.int _) (.cons (.str _) .nil))⟩
    · cases ex; exact ⟨.list [], gd_any (by decide +kernel), fun _ fr => .lst (.inl (fr _ _ hl2 (by simp [dn, ne12]))) .nil, .l l2 _ (.list [.str "more"]) rfl hl2 (by simp [dn, ne12]) rfl (by decide) (gd_any (by decide +kernel)) fun _ h => .lst (.inl h) (.cons (.str _) .nil)⟩
    · have n1 : d1 ∉ [l1, l2] := fun hm => by
        simp only [List.mem_cons, List.not_mem_nil, or_false] at hm
        rcases hm with rfl | rfl
        · rw [hl1] at hd1; cases hd1
        · rw [hl2] at hd1; cases hd1
      cases ex
      exact ⟨.dict [], gd_any (by decide +kernel), fun _ fr => .dct (.inl (fr _ _ hd1 n1)) .nil, .m d1 _ (.dict [(.str "more", .list [.int 1])]) rfl hd1 n1 rfl (by decide) (gd_any (by decide +kernel)) fun _ q' _ h1 h2 => .dct (.inl h2) (.cons (.lst (.inl h1) (.cons (.int _) .nil)) .nil)⟩
    · have n1 : d2 ∉ [l1, l2, d1] := fun hm => by
        simp only [List.mem_cons, List.not_mem_nil, or_false] at hm
        rcases hm with rfl | rfl | rfl
        · rw [hl1] at hd2'; cases hd2'
        · rw [hl2] at hd2'; cases hd2'
        · exact nedd rfl
      cases ex
      have gi := gd_int mm
      refine ⟨.dict [(.str "a", .list [.int m])], ?_, fun _ fr => .dct (.inl (fr _ _ hd2' n1)) (.cons (.lst (.inl (fr _ _ hq fun z => noq (List.mem_of_mem_take (i := 3) z))) (.cons (.int _) .nil)) .nil), .m d2 _ (.dict [(.str "a", .list [.int m]), (.str "more", .list [.int 1])]) rfl hd2' n1 rfl (by simp) ?_ fun _ q' fr h1 h2 => .dct (.inl h2) (.cons (.lst (.inl (fr _ _ hq noq)) (.cons (.int _) .nil)) (.cons (.lst (.inl h1) (.cons (.int _) .nil)) .nil))⟩
      · exact (gd_d gi (int_small mm).1 (int_small mm).2).1
      · exact (gd_d gi (int_small mm).1 (int_small mm).2).2
    · cases ex; exact ⟨.str "a b", gd_any (by decide +kernel), fun _ _ => .str _, .p "str" (by decide +kernel) (by decide +kernel) (fun _ _ => .x (.base (.str _))) rfl⟩
    · cases ex; exact ⟨.str "", gd_any (by decide +kernel), fun _ _ => .str _, .p "str" (by decide +kernel) (by decide +kernel) (fun _ _ => .x (.base (.str _))) rfl⟩
    · cases ex; exact ⟨.bool true, gd_any (by decide +kernel), fun _ _ => .bl _, .p "bool" (by decide +kernel) (by decide +kernel) (fun _ _ => .x (.base (.bl _))) rfl⟩
    · cases ex; exact ⟨.none, gd_any (by decide +kernel), fun _ _ => .non, .p "NoneType" (by decide +kernel) (by decide +kernel) (fun _ _ => .x (.base .non)) rfl⟩
    · cases ex; exact ⟨.tuple [.str "int"], gd_any (by decide +kernel), fun _ fr => .tup (.inl (.inl (tq ht3 fr))) (.cons (.str _) .nil), .p "tuple" (by decide +kernel) (by decide +kernel) (fun _ fr => .x (.base (.tup (tq ht3 fr)))) rfl⟩
    · cases ex
  refine ⟨L, vals, rfl, .inl (.inl hL), fun i σ' H' => ∃ x y z, σ' = [some (.ref a), some (.int m), some (.ref pe), x, y, z] ∧ Fr J (dn i) H', ⟨none, none, none, rfl, fun _ _ e _ => e⟩, ?_, ?_, ?_⟩
  · rintro i σ' H' _ ⟨_, _, _, _, fr⟩
    exact .inl (.inl (fr _ _ hL (dnsub _ _ noL)))
  · rintro i σ' H' x H2' hi ⟨x1, x2, x3, rfl, fr⟩ ⟨rfl, ex⟩
    obtain ⟨d, gd, hdq, kind⟩ := cur i x ex
    walk_at "tg"
    walk_at "z1"
    refine s_par (i := 4) (j := 5) (N := nsLaw) scLaw.nd rfl (at_s (at_s (at_s (at_s at_z)))) (at_s (at_s (at_s (at_s (at_s at_z))))) (by decide) ?_
    walk_at "z1"
    refine e_call DA hr tk ?_
    walk_at "z"
    refine ⟨_, rfl, fun p1 as1 G1 g1 r1 => ?_⟩
    walk_at "z1"
    refine e_call DN hr tk ?_
    walk_at "z"
    refine ⟨_, rfl, fun p2 as2 G2 g2 r2 => ?_⟩
    walk_at "z"
    refine ⟨_, _, rfl, ?_⟩
    walk_at "st"
    have fr2 := (fr.same g1.same).same g2.same
    refine rr_ok (p1 := p1) (p2 := p2) DR hr tk (fun H' Q h => by walk_at "z"; exact h) (fun H' Q h => by walk_at "z"; exact h) (g2.same _ _ g1.here) g2.here (Errs.keep g2.same r1) r2 (hdq _ fr2) gd fun G3 S3 => ?_
    have fr3 := fr2.same S3
    have hp1 := S3 _ _ (g2.same _ _ g1.here)
    have hp2 := S3 _ _ g2.here
    have hr1 := Errs.keep S3 (Errs.keep g2.same r1)
    have hr2 := Errs.keep S3 r2
    have np1 : ∀ b o, J b = some o → b ∉ dn i → b ≠ p1 := fun b o e n => nw g1 (fr _ _ e n)
    have np2 : ∀ b o, J b = some o → b ∉ dn i → b ≠ p2 := fun b o e n => nw g2 (g1.same _ _ (fr _ _ e n))
    walk_at "st"
    cases kind with
    | p T k1 k2 ty e =>
      refine s_if (t_val (e_isT (T := "list") mi ml (by decide +kernel) ?_))
      walk_at "z1"
      refine ⟨_, _, ty _ fr3, kit_ty k1, _, rfl, ?_⟩
      refine (if_neg (by simp)).mpr ?_
      walk_at "z1"
      walk_at "st"
      refine s_if (t_val (e_isT (T := "dict") mi md (by decide +kernel) ?_))
      walk_at "z1"
      refine ⟨_, _, ty _ fr3, kit_ty k2, _, rfl, ?_⟩
      refine (if_neg (by simp)).mpr ?_
      walk_at "z1"
      walk_at "st"
      refine rr_ok (p1 := p1) (p2 := p2) DR hr tk (fun H' Q h => by walk_at "z"; exact h) (fun H' Q h => by walk_at "z"; exact h) (hp1) (hp2) (hr1) (hr2) (hdq _ fr3) gd fun G5 S5 => ?_
      walk_at "z1"
      exact ⟨_, _, _, rfl, by rw [e]; exact fr3.same S5⟩
    | l b xs d' exx hb hn e hl gd' dq =>
      subst exx
      have hb3 := fr3 _ _ hb hn
      refine s_if (t_val (e_isT (T := "list") mi ml (by decide +kernel) ?_))
      walk_at "z1"
      refine ⟨_, _, .x (.base (.lst hb3)), kit_ty (r := true) (by decide +kernel), _, rfl, ?_⟩
      refine (if_pos (by simp)).mpr ?_
      walk_at "st"
      walk_at "z1"
      refine e_bm PySem.F.plainAttrs_list PySem.F.slot_list_append PySem.F.type_list_append mt_append ?_
      walk_at "z1"
      refine ⟨.inl ⟨rfl, _, .inl (.inl hb3)⟩, ?_⟩
      walk_at "z"
      refine ⟨b, xs, _, rfl, rfl, hb3, small1000 (by omega), ?_⟩
      walk_at "st"
      walk_at "z1"
      walk_at "st"
      have bx : ∀ a ∈ [b], ∃ o, G3 a = some o ∧ Box o := fun a ha => by
        obtain rfl : a = b := by simpa using ha
        exact ⟨_, hb3, .inl ⟨_, rfl⟩⟩
      have n1 := np1 _ _ hb hn
      have n2 := np2 _ _ hb hn
      refine s_if (t_val (e_isT (T := "dict") mi md (by decide +kernel) ?_))
      walk_at "z1"
      refine ⟨_, _, .x (.base (.lst upd_same)), kit_ty (r := false) (by decide +kernel), _, rfl, ?_⟩
      refine (if_neg (by simp)).mpr ?_
      walk_at "z1"
      walk_at "st"
      refine rr_ok (p1 := p1) (p2 := p2) DR hr tk (fun H' Q h => by walk_at "z"; exact h) (fun H' Q h => by walk_at "z"; exact h) ((upd_ne (Ne.symm n1)).trans hp1) ((upd_ne (Ne.symm n2)).trans hp2) (errs_fr bx fr_self hr1) (errs_fr bx fr_self hr2) (dq _ upd_same) gd' fun G5 S5 => ?_
      walk_at "z1"
      exact ⟨_, _, _, rfl, by rw [e]; exact (fr_upd fr3).same S5⟩
    | m b kvs d' exx hb hn e hl gd' dq =>
      subst exx
      have hb3 := fr3 _ _ hb hn
      refine s_if (t_val (e_isT (T := "list") mi ml (by decide +kernel) ?_))
      walk_at "z1"
      refine ⟨_, _, .x (.base (.dK hb3)), kit_ty (r := false) (by decide +kernel), _, rfl, ?_⟩
      refine (if_neg (by simp)).mpr ?_
      walk_at "z1"
      walk_at "st"
      refine s_if (t_val (e_isT (T := "dict") mi md (by decide +kernel) ?_))
      walk_at "z1"
      refine ⟨_, _, .x (.base (.dK hb3)), kit_ty (r := true) (by decide +kernel), _, rfl, ?_⟩
      refine (if_pos (by simp)).mpr ?_
      walk_at "st"
      refine s_dput hu1 ?_
      walk_at "z"
      refine ⟨szL, fun q' G4 n4 => ?_⟩
      walk_at "z"
      have hb4 := n4.same _ _ hb3
      refine ⟨b, _, rfl, DPut.k (k := .inr "more") hb4 (small1000 (by omega)), ?_⟩
      walk_at "st"
      walk_at "z1"
      walk_at "st"
      have bx : ∀ a ∈ [b], ∃ o, G4 a = some o ∧ Box o := fun a ha => by
        obtain rfl : a = b := by simpa using ha
        exact ⟨_, hb4, .inr ⟨_, rfl⟩⟩
      have n1 := np1 _ _ hb hn
      have n2 := np2 _ _ hb hn
      have nq : q' ≠ b := fun z => nw n4 hb3 z.symm
      refine rr_ok (p1 := p1) (p2 := p2) DR hr tk (fun H' Q h => by walk_at "z"; exact h) (fun H' Q h => by walk_at "z"; exact h) ((upd_ne (Ne.symm n1)).trans (n4.same _ _ hp1)) ((upd_ne (Ne.symm n2)).trans (n4.same _ _ hp2)) (errs_fr bx fr_self (Errs.keep n4.same hr1)) (errs_fr bx fr_self (Errs.keep n4.same hr2)) (dq _ q' (fr_upd (fr3.same n4.same)) ((upd_ne nq).trans n4.here) upd_same) gd' fun G5 S5 => ?_
      walk_at "z1"
      exact ⟨_, _, _, rfl, by rw [e]; exact (fr_upd (fr3.same n4.same)).same S5⟩
  · rintro σ' H' ⟨x, y, z, rfl, fr⟩
    walk_at "st"
    have kp : ∀ b xs, J0 b = some (.lst xs) → H' b = some (.lst xs) := fun b xs e => fr _ _ (s0 _ _ e) (dnsub _ _ (noP b xs e))
    have hpe := kp _ _ n5.here
    have h1 := kp _ _ (n5.same _ _ (n4.same _ _ n3.here))
    have h2 := kp _ _ (n5.same _ _ n4.here)
    have bx : ∀ a ∈ dn 13, ∃ o, J a = some o ∧ Box o := fun a ha => box a (List.mem_of_mem_take ha)
    have e1 : Errs H' (.int m) ae1 (cs14 K) := errs_fr bx fr (Errs.keep ((n4.same.trans n5.same).trans s0) er1)
    have e2 : Errs H' (.str "elder") ae2 (cs14 K) := errs_fr bx fr (Errs.keep (n5.same.trans s0) er2)
    refine s_if (t_w (w_or (t_not (t_val (e_call DR hr tk ?_)))))
    walk_at "z1"
    refine e_ix ix_list ?_
    walk_at "z"
    refine ⟨_, _, _, _, rfl, rfl, .inl (.inl hpe), rfl, ?_⟩
    walk_at "z"
    refine ⟨_, _, ae1, .int m, rfl, h1, e1, .int _, gd_int mm, fun H5 S5 => ⟨true, rfl, (if_neg (by simp)).mpr ?_⟩⟩
    refine w_or (t_not (t_val (e_call DR hr tk ?_)))
    walk_at "z1"
    refine e_ix ix_list ?_
    walk_at "z"
    refine ⟨_, _, _, _, rfl, rfl, .inl (.inl (S5 _ _ hpe)), rfl, ?_⟩
    walk_at "z"
    refine ⟨_, _, ae2, .str "elder", rfl, S5 _ _ h2, Errs.keep S5 e2, .str _, gd_any (by decide +kernel), fun H6 S6 => ⟨true, rfl, (if_neg (by simp)).mpr ?_⟩⟩
    refine w_or1 (t_not (t_val (e_call DR hr tk ?_)))
    walk_at "z1"
    refine e_call0 DB hr tk ?_
    refine ⟨rfl, fun pb ab H7 n7 r7 => ?_⟩
    walk_at "z"
    refine ⟨_, _, ab, .none, rfl, n7.here, r7, .non, gd_any (by decide +kernel), fun H8 S8 => ⟨true, rfl, (if_neg (by simp)).mpr ?_⟩⟩
    walk_at "z"
    refine e_cmp (op_eqQ S hu) ?_
    refine e_call DK hr tk ?_
    walk_at "z1"
    refine e_exN F.en F.gn F.kn fun e0 ne0 => ?_
    walk_at "z"
    refine ⟨e0, 14, rfl, by decide, ⟨F.xcn, .inl upd_same⟩, fun p9 H9 n9 => ?_⟩
    walk_at "z"
    refine ⟨szL, fun p10 H10 n10 => ?_⟩
    refine ⟨dI 14, dI 14, .lst (.inl (n10.same _ _ n9.here)) (.cons (.int _) .nil), .lst (.inl n10.here) (.cons (.int _) .nil), by decide +kernel, by decide +kernel, ?_⟩
    rw [PySem.SeqAt.eqv_refl _ (by decide +kernel)]
    exact hQ _
end
end L2.Z.Law
set_option maxHeartbeats 0
namespace L2.Z.Law
open PySem PySem.Spec PyProof.Rows PySem.ZX
/-! ### the head -/
abbrev q0 : DefQ := ⟨("InvalidNumber", some "__init__"), "__init__", "InvalidNumber.__init__", clsDef (topS 2) 0, [.non], ["__class__"]⟩
abbrev q1 : DefQ := ⟨("InvalidList", some "__init__"), "__init__", "InvalidList.__init__", clsDef (topS 3) 0, [.non], ["__class__"]⟩
abbrev q2 : DefQ := ⟨("InvalidItem", some "__init__"), "__init__", "InvalidItem.__init__", clsDef (topS 4) 0, [.non], ["__class__"]⟩
abbrev q3 : DefQ := ⟨("InvalidSignature", some "__init__"), "__init__", "InvalidSignature.__init__", clsDef (topS 5) 0, [.non], ["__class__"]⟩
abbrev q4 : DefQ := ⟨("InvalidType", some "__init__"), "__init__", "InvalidType.__init__", clsDef (topS 6) 0, [.non], ["__class__"]⟩
abbrev q5 : DefQ := ⟨("InvalidHead", some "__init__"), "__init__", "InvalidHead.__init__", clsDef (topS 7) 0, [.non], ["__class__"]⟩
abbrev q6 : DefQ := ⟨("InvalidBase", some "__init__"), "__init__", "InvalidBase.__init__", clsDef (topS 8) 0, [.non], ["__class__"]⟩
abbrev q7 : DefQ := ⟨("InvalidFormula", some "__init__"), "__init__", "InvalidFormula.__init__", clsDef (topS 9) 0, [.non], ["__class__"]⟩
abbrev q8 : DefQ := ⟨("InvalidGoal", some "__init__"), "__init__", "InvalidGoal.__init__", clsDef (topS 10) 0, [.non], ["__class__"]⟩
abbrev q9 : DefQ := ⟨("InvalidText", some "__init__"), "__init__", "InvalidText.__init__", clsDef (topS 11) 0, [.non], ["__class__"]⟩
abbrev q10 : DefQ := ⟨("Clash", some "__init__"), "__init__", "Clash.__init__", clsDef (topS 15) 0, [.non], ["__class__"]⟩
abbrev q11 : DefQ := ⟨("InvalidName", some "__init__"), "__init__", "InvalidName.__init__", clsDef (topS 12) 0, [.non], ["__class__"]⟩
abbrev q12 : DefQ := ⟨("TakenName", some "__init__"), "__init__", "TakenName.__init__", clsDef (topS 13) 0, [.non], ["__class__"]⟩
abbrev q13 : DefQ := ⟨("UnknownName", some "__init__"), "__init__", "UnknownName.__init__", clsDef (topS 14) 0, [.non], ["__class__"]⟩
abbrev q14 : DefQ := ⟨("_law_mixed", none), "_law_mixed", "_law_mixed", sMixed, [], []⟩
abbrev q15 : DefQ := ⟨("_law_purse", none), "_law_purse", "_law_purse", sPurse, [], []⟩
abbrev q16 : DefQ := ⟨("_law_draw", none), "_law_draw", "_law_draw", sDraw, [], []⟩
abbrev q17 : DefQ := ⟨("_law_kinds", none), "_law_kinds", "_law_kinds", sKinds, [], []⟩
abbrev q18 : DefQ := ⟨("_law_right", none), "_law_right", "_law_right", sRight, [], []⟩
abbrev q19 : DefQ := ⟨("_law_placed", none), "_law_placed", "_law_placed", sPlaced, [], []⟩
abbrev q20 : DefQ := ⟨("_law_named", none), "_law_named", "_law_named", sNamed, [], []⟩
abbrev q21 : DefQ := ⟨("_law_bare", none), "_law_bare", "_law_bare", sBare, [], []⟩
abbrev q22 : DefQ := ⟨("law", none), "law", "law", sLaw, [], []⟩
def fns : List DefQ := [q0, q1, q2, q3, q4, q5, q6, q7, q8, q9, q10, q11, q12, q13, q14, q15, q16, q17, q18, q19, q20, q21, q22]
abbrev fKits : Fact := fun K => (List.range 15).all fun i => ((List.range 15).all fun j => decide (PySem.W.kitOne K (.ref (c_ K (xn i))) (.ref (c_ K (xn j))) = some (decide (j = i)))) && decide (PySem.W.kitOne K (.ref (c_ K (xn i))) (.ref (c_ K "WoodError")) = some true) && decide (PySem.W.kitOne K (.ref (c_ K (xn i))) (.type "ValueError") = some true)
abbrev fNone : Fact := fun K => PySem.W.keepIn K (.ref (c_ K "NothingToUndo")) && PySem.W.excIn K (c_ K "NothingToUndo") He.veBase "ValueError.__new__"
def facts : List Fact := [fSys, fFree ["max", "sum", "range", "isinstance", "repr", "list", "dict", "ValueError"], fGlo "NothingToUndo", fGlo "WoodError", fNone, fExB "NothingToUndo", fKits, fGlo "_law_mixed", fGlo "_law_purse", fGlo "_law_draw", fGlo "_law_kinds", fGlo "_law_right", fGlo "_law_placed", fGlo "_law_named", fGlo "_law_bare", fGlo "law", fExc "InvalidNumber" "value" "/claim/cut.py", fExc "InvalidList" "value" "/claim/cut.py", fExc "InvalidItem" "value" "/claim/cut.py", fExc "InvalidSignature" "value" "/claim/cut.py", fExc "InvalidType" "value" "/claim/cut.py", fExc "InvalidHead" "value" "/claim/cut.py", fExc "InvalidBase" "value" "/claim/cut.py", fExc "InvalidFormula" "value" "/claim/cut.py", fExc "InvalidGoal" "value" "/claim/cut.py", fExc "InvalidText" "value" "/claim/cut.py", fExc "Clash" "value" "/claim/cut.py", fExc "InvalidName" "name" "/claim/cut.py", fExc "TakenName" "name" "/claim/cut.py", fExc "UnknownName" "name" "/claim/cut.py", fExB "InvalidNumber", fExB "InvalidList", fExB "InvalidItem", fExB "InvalidSignature", fExB "InvalidType", fExB "InvalidHead", fExB "InvalidBase", fExB "InvalidFormula", fExB "InvalidGoal", fExB "InvalidText", fExB "Clash", fExB "InvalidName", fExB "TakenName", fExB "UnknownName"]
abbrev R : PySem.W.OpenRow := PySem.W.OpenLaw.row PySem.Challenge.rw_instancewoods_k01_errors
abbrev hk : PySem.W.Hook := hookQ 5 facts fns
def ob (s : PySem.W.SharedT) : AlQ := obsQG 5 facts fns (HandSHeadRun.getT s)
theorem ob_eq (s : PySem.W.SharedT) : ob s = hk.obs s.abs := obsQG_eq (HandSHeadRun.getT_eq s)
theorem run (w : World) : HandSHeadRun.RunEq R (PySem.W.view R.prog [26]) hk ob 6000 ["WoodError", "InvalidNumber", "InvalidList", "InvalidItem", "InvalidSignature", "InvalidType", "InvalidHead", "InvalidBase", "InvalidFormula", "InvalidGoal", "InvalidText", "Clash", "InvalidName", "TakenName", "UnknownName", "NothingToUndo", "_law_mixed", "_law_purse", "_law_draw", "_law_kinds", "_law_right", "_law_placed", "_law_named", "_law_bare"] w := by
  intro os
  kernel_rfl
end L2.Z.Law
set_option maxHeartbeats 0
namespace L2.Z.Law
open PySem PySem.Spec PyProof.Rows PySem.ZX
theorem xfacts {K : PySem.W.Frag} {h : Heap} {mg : Str → Option Value} (X : K.In h) (G : h.Ns mainGlobals mg) (c : SaysQ facts fns K) : XF PW K mg := by
  obtain ⟨_, F0⟩ := c.def_ 0 (d := q0) rfl
  obtain ⟨_, F1⟩ := c.def_ 1 (d := q1) rfl
  obtain ⟨_, F2⟩ := c.def_ 2 (d := q2) rfl
  obtain ⟨_, F3⟩ := c.def_ 3 (d := q3) rfl
  obtain ⟨_, F4⟩ := c.def_ 4 (d := q4) rfl
  obtain ⟨_, F5⟩ := c.def_ 5 (d := q5) rfl
  obtain ⟨_, F6⟩ := c.def_ 6 (d := q6) rfl
  obtain ⟨_, F7⟩ := c.def_ 7 (d := q7) rfl
  obtain ⟨_, F8⟩ := c.def_ 8 (d := q8) rfl
  obtain ⟨_, F9⟩ := c.def_ 9 (d := q9) rfl
  obtain ⟨_, F10⟩ := c.def_ 10 (d := q10) rfl
  obtain ⟨_, F11⟩ := c.def_ 11 (d := q11) rfl
  obtain ⟨_, F12⟩ := c.def_ 12 (d := q12) rfl
  obtain ⟨_, F13⟩ := c.def_ 13 (d := q13) rfl
  have kk := List.all_eq_true.mp (c.fact 6 (f := fKits) rfl)
  have k1 : ∀ i, i < 15 → ((List.range 15).all fun j => decide (PySem.W.kitOne K (.ref (c_ K (xn i))) (.ref (c_ K (xn j))) = some (decide (j = i)))) = true ∧ PySem.W.kitOne K (.ref (c_ K (xn i))) (.ref (c_ K "WoodError")) = some true ∧ PySem.W.kitOne K (.ref (c_ K (xn i))) (.type "ValueError") = some true := fun i hi => by
    have z := kk i (List.mem_range.mpr hi)
    simp only [Bool.and_eq_true, decide_eq_true_eq] at z
    exact ⟨z.1.1, z.1.2, z.2⟩
  have nn := Bool.and_eq_true_iff.mp (c.fact 4 (f := fNone) rfl)
  exact {
    t0 := fExc.ok (c.fact 16) (c.fact 30) F0 rfl rfl rfl rfl (.inl rfl) rfl rfl rfl rfl (by decide +kernel) rfl X G
    t1 := fExc.ok (c.fact 17) (c.fact 31) F1 rfl rfl rfl rfl (.inl rfl) rfl rfl rfl rfl (by decide +kernel) rfl X G
    t2 := fExc.ok (c.fact 18) (c.fact 32) F2 rfl rfl rfl rfl (.inl rfl) rfl rfl rfl rfl (by decide +kernel) rfl X G
    t3 := fExc.ok (c.fact 19) (c.fact 33) F3 rfl rfl rfl rfl (.inl rfl) rfl rfl rfl rfl (by decide +kernel) rfl X G
    t4 := fExc.ok (c.fact 20) (c.fact 34) F4 rfl rfl rfl rfl (.inl rfl) rfl rfl rfl rfl (by decide +kernel) rfl X G
    t5 := fExc.ok (c.fact 21) (c.fact 35) F5 rfl rfl rfl rfl (.inl rfl) rfl rfl rfl rfl (by decide +kernel) rfl X G
    t6 := fExc.ok (c.fact 22) (c.fact 36) F6 rfl rfl rfl rfl (.inl rfl) rfl rfl rfl rfl (by decide +kernel) rfl X G
    t7 := fExc.ok (c.fact 23) (c.fact 37) F7 rfl rfl rfl rfl (.inl rfl) rfl rfl rfl rfl (by decide +kernel) rfl X G
    t8 := fExc.ok (c.fact 24) (c.fact 38) F8 rfl rfl rfl rfl (.inl rfl) rfl rfl rfl rfl (by decide +kernel) rfl X G
    t9 := fExc.ok (c.fact 25) (c.fact 39) F9 rfl rfl rfl rfl (.inl rfl) rfl rfl rfl rfl (by decide +kernel) rfl X G
    t10 := fExc.ok (c.fact 26) (c.fact 40) F10 rfl rfl rfl rfl (.inl rfl) rfl rfl rfl rfl (by decide +kernel) rfl X G
    t11 := fExc.ok (c.fact 27) (c.fact 41) F11 rfl rfl rfl rfl (.inr rfl) rfl rfl rfl rfl (by decide +kernel) rfl X G
    t12 := fExc.ok (c.fact 28) (c.fact 42) F12 rfl rfl rfl rfl (.inr rfl) rfl rfl rfl rfl (by decide +kernel) rfl X G
    t13 := fExc.ok (c.fact 29) (c.fact 43) F13 rfl rfl rfl rfl (.inr rfl) rfl rfl rfl rfl (by decide +kernel) rfl X G
    gn := fGlo_ok X G (c.fact 2)
    gw := fGlo_ok X G (c.fact 3)
    kn := nn.1
    en := nn.2
    xcn := (fExB.ok (c.fact 5)).1
    k := fun i j hi hj => of_decide_eq_true (List.all_eq_true.mp (k1 i hi).1 j (List.mem_range.mpr hj))
    kw := fun i hi => (k1 i hi).2.1
    kv := fun i hi => (k1 i hi).2.2 }
theorem law_fn {w : World} {K : PySem.W.Frag} {h : Heap} {mg : Str → Option Value} (X : K.In h) (G : h.Ns mainGlobals mg) (c : SaysQ facts fns K) :
    ∃ fd : FuncData, mg "law" = some (.ref (He.ga K "law")) ∧ (∀ (s : Shared) (u : Value), BindsTo s fd ⟨[u], []⟩ [("_law_script", u)]) ∧ ∀ base : Heap, K.In base → base.Ns mainGlobals mg → FnZ PW w K mg base 4 (He.ga K "law") fd ["_law_script"] (spLaw K) := by
  have F := xfacts X G c
  have fr : ∀ x ∈ [Str.ofString "max", "sum", "range", "isinstance", "repr", "list", "dict", "ValueError"], mg x = none := fun x hx => fFree_ok X G (c.fact 1) hx
  obtain ⟨_, FMixed⟩ := c.def_ 14 (d := q14) rfl
  obtain ⟨_, FPurse⟩ := c.def_ 15 (d := q15) rfl
  obtain ⟨_, FDraw⟩ := c.def_ 16 (d := q16) rfl
  obtain ⟨_, FKinds⟩ := c.def_ 17 (d := q17) rfl
  obtain ⟨_, FRight⟩ := c.def_ 18 (d := q18) rfl
  obtain ⟨_, FPlaced⟩ := c.def_ 19 (d := q19) rfl
  obtain ⟨_, FNamed⟩ := c.def_ 20 (d := q20) rfl
  obtain ⟨_, FBare⟩ := c.def_ 21 (d := q21) rfl
  obtain ⟨_, FLaw⟩ := c.def_ 22 (d := q22) rfl
  refine ⟨_, fGlo_ok X G (c.fact 15), fun s u => FLaw.bsA (ps := ["_law_script"]) (fun _ _ _ _ _ _ us hl => match us, hl with | [_], _ => rfl) s [u] rfl, fun base XB GB => ?_⟩
  have S : Sys base := fSys_ok XB (c.fact 0)
  have ZMixed : FnZ PW w K mg base 1 _ _ ["_law_cell", "_law_k"] spMixed := fn_z FMixed.z scMixed (fun vs H Q E h => by obtain ⟨_, _, rfl, _⟩ := h; rfl) bMixed
  have DMixed : DefZ PW w K mg base "_law_mixed" 1 ["_law_cell", "_law_k"] spMixed := ⟨_, _, fGlo_ok X G (c.fact 7), FMixed.kp, ZMixed, FMixed.bs fun _ _ _ _ _ _ us hl => match us, hl with | [_, _], _ => rfl⟩
  have ZPurse : FnZ PW w K mg base 1 _ _ ["_law_script", "_law_at"] (spPurse K) := fn_z FPurse.z scPurse (fun vs H Q E h => by obtain ⟨_, _, _, rfl, _⟩ := h; rfl) (bPurse (fr "max" (by simp)) (fr "sum" (by simp)))
  have DPurse : DefZ PW w K mg base "_law_purse" 1 ["_law_script", "_law_at"] (spPurse K) := ⟨_, _, fGlo_ok X G (c.fact 8), FPurse.kp, ZPurse, FPurse.bs fun _ _ _ _ _ _ us hl => match us, hl with | [_, _], _ => rfl⟩
  have ZDraw : FnZ PW w K mg base 2 _ _ ["_law_purse_here", "_law_out_of"] spDraw := fn_z FDraw.z scDraw (fun vs H Q E h => by obtain ⟨_, _, _, rfl, _⟩ := h; rfl) (bDraw (fr "range" (by simp)) DMixed)
  have DDraw : DefZ PW w K mg base "_law_draw" 2 ["_law_purse_here", "_law_out_of"] spDraw := ⟨_, _, fGlo_ok X G (c.fact 9), FDraw.kp, ZDraw, FDraw.bs fun _ _ _ _ _ _ us hl => match us, hl with | [_, _], _ => rfl⟩
  have ZKinds : FnZ PW w K mg base 2 _ _ ["_law_error"] (spKinds K) := fn_z FKinds.z scKinds (fun vs H Q E h => by obtain ⟨_, _, rfl, _⟩ := h; rfl) (bKinds F (fr "isinstance" (by simp)) (fr "range" (by simp)) (fr "ValueError" (by simp)))
  have DKinds : DefZ PW w K mg base "_law_kinds" 2 ["_law_error"] (spKinds K) := ⟨_, _, fGlo_ok X G (c.fact 10), FKinds.kp, ZKinds, FKinds.bs fun _ _ _ _ _ _ us hl => match us, hl with | [_], _ => rfl⟩
  have ZRight : FnZ PW w K mg base 3 _ _ ["_law_errors", "_law_given"] (spRight K) := fn_z FRight.z scRight (fun vs H Q E h => by obtain ⟨_, _, _, _, rfl, _⟩ := h; rfl) (bRight F S (fr "range" (by simp)) (fr "repr" (by simp)) DKinds)
  have DRight : DefZ PW w K mg base "_law_right" 3 ["_law_errors", "_law_given"] (spRight K) := ⟨_, _, fGlo_ok X G (c.fact 11), FRight.kp, ZRight, FRight.bs fun _ _ _ _ _ _ us hl => match us, hl with | [_, _], _ => rfl⟩
  have ZPlaced : FnZ PW w K mg base 2 _ _ ["_law_given"] (spMade K) := fn_z FPlaced.z scPlaced (fun vs H Q E h => by obtain ⟨_, rfl, _⟩ := h; rfl) (bPlaced F)
  have DPlaced : DefZ PW w K mg base "_law_placed" 2 ["_law_given"] (spMade K) := ⟨_, _, fGlo_ok X G (c.fact 12), FPlaced.kp, ZPlaced, FPlaced.bs fun _ _ _ _ _ _ us hl => match us, hl with | [_], _ => rfl⟩
  have ZNamed : FnZ PW w K mg base 2 _ _ ["_law_given"] (spMade K) := fn_z FNamed.z scNamed (fun vs H Q E h => by obtain ⟨_, rfl, _⟩ := h; rfl) (bNamed F)
  have DNamed : DefZ PW w K mg base "_law_named" 2 ["_law_given"] (spMade K) := ⟨_, _, fGlo_ok X G (c.fact 13), FNamed.kp, ZNamed, FNamed.bs fun _ _ _ _ _ _ us hl => match us, hl with | [_], _ => rfl⟩
  have ZBare : FnZ PW w K mg base 2 _ _ [] (spBare K) := fn_z FBare.z scBare (fun vs H Q E h => by obtain ⟨rfl, _⟩ := h; rfl) (bBare F)
  have DBare : DefZ PW w K mg base "_law_bare" 2 [] (spBare K) := ⟨_, _, fGlo_ok X G (c.fact 14), FBare.kp, ZBare, FBare.bs fun _ _ _ _ _ _ us hl => match us, hl with | [], _ => rfl⟩
  have ZLaw : FnZ PW w K mg base 4 _ _ ["_law_script"] (spLaw K) := fn_z FLaw.z scLaw (fun vs H Q E h => by obtain ⟨_, _, rfl, _⟩ := h; rfl) (bLaw F S (fr "isinstance" (by simp)) (fr "list" (by simp)) (fr "dict" (by simp)) (DDraw.mono (by decide)) (DPurse.mono (by decide)) (DKinds.mono (by decide)) (DRight.mono (by decide)) (DPlaced.mono (by decide)) (DNamed.mono (by decide)) (DBare.mono (by decide)))
  exact ZLaw
end L2.Z.Law
open PySem PySem.W PySem.Calls PyProof.Rows
theorem PySem.Challenge.cw_instancewoods_k01_errors_holds : PySem.Challenge.rw_instancewoods_k01_errors.Holds := by
  w_on; o_law
  refine HandSHeadRun.head_any (r := OpenLaw.row PySem.Challenge.rw_instancewoods_k01_errors) (q := view (OpenLaw.row PySem.Challenge.rw_instancewoods_k01_errors).prog [26]) (H := L2.Z.Law.hk) (ob := L2.Z.Law.ob) (M := 6000) (loose := ["WoodError", "InvalidNumber", "InvalidList", "InvalidItem", "InvalidSignature", "InvalidType", "InvalidHead", "InvalidBase", "InvalidFormula", "InvalidGoal", "InvalidText", "Clash", "InvalidName", "TakenName", "UnknownName", "NothingToUndo", "_law_mixed", "_law_purse", "_law_draw", "_law_kinds", "_law_right", "_law_placed", "_law_named", "_law_bare"]) (d := HandSHeadRun.topDef (OpenLaw.row PySem.Challenge.rw_instancewoods_k01_errors).prog 26) (kwd := []) L2.Z.Law.ob_eq
    (by kernel_rfl) (fun s => by kernel_rfl) L2.Z.Law.run (by kernel_rfl) (by kernel_rfl) (by kernel_rfl) (by rfl) (by first | assumption | decide +kernel) (by decide +kernel) ⟨rfl, rfl, rfl, rfl, rfl, by decide +kernel⟩ ?hw ?hc
  case hw => w_witness2
  case hc =>
    refine L2.Z.walk_z (l := PySem.Challenge.rw_instancewoods_k01_errors) (n := 63) (k := 4) (x := "_law_script") rfl (by decide) (by kernel_rfl) ⟨⟨rfl, by decide, by decide⟩, rfl⟩ ?F
    intro w mg fa h Y G hmg0
    obtain ⟨K, KX, c⟩ := Y
    obtain ⟨fd, hm, hb, hF⟩ := L2.Z.Law.law_fn (w := w) KX G c
    have e : fa = He.ga K "law" := Value.ref.inj (Option.some.inj ((show mg "law" = some (.ref fa) from hmg0).symm.trans hm))
    subst e
    exact ⟨K, fd, L2.Z.Law.spLaw K, KX, hb, fun H a ns hl _ _ hS => ⟨a, ns, rfl, hS, fun _ => rfl⟩, hF⟩
