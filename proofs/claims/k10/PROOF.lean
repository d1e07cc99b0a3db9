import PyProof.Rows.All
import Wide.All
import OpenK.AllK
import Wide.FinOn
import KE.KExcSuper
import KE.KSuper
import HandS.ForMost
import HandS.Exc
import HandS.ExcInit
import HandS.ExcField
import HandS.Defaults
import HandS.IsInst
import HandS.ExcIs
import HandS.ExcOwn
import HandS.WordsExc
import HandS.ExcValue
import HandS.Wide
import HandS.WideBits
import HandS.TupAny
import HandS.TupLe
import HandS.HeadHook1
import HandS.EndBits
import HandS.HeadHook2
import HandS.HeadEnd
import HandS.Head2
import KE.SortData
import HandS.ListItems
import HandS.OwnEq
import HandS.More
import PyProof.InstNe
import HandS.TupMul
import HandS.Style
import PySem.Challenge.RW_instancewoods_k10_types_of_signatures
set_option Elab.async false
set_option linter.all false
set_option maxRecDepth 100000
set_option maxHeartbeats 4000000
/-! Own exceptions whose __init__ says super().__init__(x); self.f = x : made. -/
namespace PySem
namespace ZX
open PySem.W PySem.Calls PyProof.Rows PySem.HandSPX
def xA (fld : Str) (p1 p2 p3 : Pos) : Arguments := { posonlyargs := [], args := [{ arg := "self", annotation := none, pos := p1 }, { arg := fld, annotation := none, pos := p2 }], vararg := none, kwonlyargs := [], kw_defaults := [], kwarg := none, defaults := [.Constant .none 0 p3] }
def xB (fld : Str) (q1 q2 q3 q4 q5 q6 q7 q8 q9 q10 : Pos) : List Stmt :=
  [.Expr (.Call (.Attribute (.Call (.Name "super" q1) [] [] q2) "__init__" q3) [.Name fld q4] [] q5) q6, .Assign [.Attribute (.Name "self" q7) fld q8] (.Name fld q9) q10]
def xS (fld : Str) : Scope := { kind := .function, names := [(PySem.Str.ofString "self", .local), (fld, .local), (PySem.Str.ofString "__class__", .free), (PySem.Str.ofString "super", .globalImplicit)], isGenerator := false, isCoroutine := false, more := [] }
theorem mcall_eq {o : Expr} {name : Str} {args : List Expr} {apos pos : Pos} {env : Env} (hpos : (apos.endLine == pos.line) = true) (hf : methodCallForm (args.length + ([] : List Keyword).length) (backTo pos (starEach args env)) (backToKw pos (keywordEach [] env)) = true) :
    eval (.Call (.Attribute o name apos) args [] pos) env = (do
      let ov ← attributeBase o name env (eval o env)
      standAt apos.atName
      let (f, first) ← holding [ov] (getMethod ov name (do return (← importBound o env).getD true))
      callWith pos f first (backTo pos (starEach args env)) []) := by
  show (attributeBase o name env (eval o env) >>= fun ov => standAt apos.atName >>= fun _ => methodCall o name apos pos env ov (args.length + ([] : List Keyword).length) (backTo pos (starEach args env)) (backToKw pos (keywordEach [] env))) = _
  have e1 : (!true || (apos.endLine == pos.line)) = true := by rw [hpos]; rfl
  have e2 : methodCallPos true o env apos pos = pure pos := by unfold methodCallPos; rw [if_pos e1]
  have e3 : ∀ ov, methodCall o name apos pos env ov (args.length + ([] : List Keyword).length) (backTo pos (starEach args env)) (backToKw pos (keywordEach [] env)) = (do
      let (f, first) ← holding [ov] (getMethod ov name (do return (← importBound o env).getD true))
      callWith pos f first (backTo pos (starEach args env)) []) := fun ov => by
    unfold methodCall
    rw [hf, e2]
    show _ = (holding [ov] (calleeOf true o env ov name) >>= fun p => callWith pos p.1 p.2 (backTo pos (starEach args env)) [])
    congr 1
  simp only [e3]
/-- what is known of an exception class of this form -/
structure ExT (prog : Program) (K : Frag) (fld : Str) (qual : Str) (C fI : Addr) : Prop where
  fl : fld = "value" ∨ fld = "name"
  cls : ∃ nm q N bs bm sn sub ab col dd k0 k1 k2 k3 k5, K.lookup C = some (excClassObj nm q C N bs bm true sn sub ab col dd k0 k1 k2 k3 k5 "ValueError.__new__") ∧ refsVE bm = true
  sa : findIn K (.ref C) "__setattr__" = some (some (.builtin "object.__setattr__"))
  noN : findIn K (.ref C) fld = some none
  sup : ks_superIn K C C "__init__" = some (some (.builtin "ValueError.__init__"))
  subV : subIn K (.ref C) (.type "ValueError") = some true
  any : nsIn K cStatics "thirdparty.any" = some none
  sg : nsIn K mainGlobals "super" = some none
  fn : ∃ (oc : Value) (od : Option Addr) (dV kV doc pm : Value) (an : Option Addr) (cda : Addr) (ct : Value) (cc : Addr) (osl : Array (Option Value)) (p1 p2 p3 q1 q2 q3 q4 q5 q6 q7 q8 q9 q10 : Pos)
      (cl ccl : Value) (cld cdd : Option Addr) (csl ccs : Array (Option Value)) (vs : Array Value) (file : Str) (tf : Tok),
    K.lookup fI = some ⟨oc, od, .func (ksFn "__init__" qual (xA fld p1 p2 p3) (xB fld q1 q2 q3 q4 q5 q6 q7 q8 q9 q10) (xS fld) dV kV doc pm an (.ref cda) ct cc), osl⟩ ∧ codeIn K (.ref cda) qual = true ∧
    K.lookup cc = some ⟨cl, cld, .cell (some (.ref C)), csl⟩ ∧ K.lookup cda = some ⟨ccl, cdd, .fields vs, ccs⟩ ∧ vs[2]? = some (.str file tf) ∧ ((prog.main.file : Str) == file) = true ∧ (q3.endLine == q5.line) = true
  top : (prog.main.scope.names.lookup ("super" : Str)).isSome = false
/-- what __init__ leaves of a fresh exception at x -/
structure InitEnd (h h' : Heap) (x C dx t1 : Addr) (fld : Str) (v : Value) : Prop where
  keep : ∀ b o, b ≠ x → h.get? b = some o → h'.get? b = some o
  obj : h'.get? x = some { cls := .ref C, dict := some dx, data := .fields #[.ref t1, .none, .none, .none, .bool false, .none] }
  dbig : h.objs.size ≤ dx
  dne : dx ≠ x
  ns : h'.Ns1 dx (fun y => if y = fld then some v else none)
section
variable {prog : Program} {w : World} {M : Model} {A : Around} {E : Value → Shared → Prop} {h : Heap} {g : Array GenState} {d : Drawn} {t : Nat} {os : OsState}
variable {nm q : Str} {C N : Addr} {bs bm : List Value} {hdct : Bool} {sn : List Str} {sub : List Value} {ab : Bool} {col : Option Bool} {dd : Option Addr} {k0 k1 k2 k3 k5 : Option Value}
/-- the bound ValueError.__init__, called -/
theorem call_mw {u e t0 : Addr} {rest : List Value} {Q : Value → Shared → Prop}
    (hC : h.get? C = some (excClassObj nm q C N bs bm hdct sn sub ab col dd k0 k1 k2 k3 k5 "ValueError.__new__")) (he : h.get? e = some (excO C t0)) (hu : h.get? u = some (kxs_mw "ValueError.__init__" e)) (hrest : rest.length ≤ sizeLine)
    (hq : ∀ h' t1, (∀ b o, b ≠ e → h.get? b = some o → h'.get? b = some o) → h'.get? e = some (excO C t1) → Q .none ⟨h', g, d, t, os⟩) :
    wpAny (model prog w) A (call (.ref u) rest) Q E ⟨h, g, d, t, os⟩ := by
  refine wpAny_call (codeAny_of_tree ?_)
  show wpAny _ A.in1 (callAny (.ref u) ⟨rest, []⟩) _ _ _
  simp only [callAny]
  refine wpAny_bind (wpAny_load hu ?_)
  simp only [kxs_mw, show (Value.type "method-wrapper" == Value.type "method" || Value.type "method-wrapper" == Value.type "builtin_function_or_method" || Value.type "method-wrapper" == Value.type "method-wrapper") = true by decide, if_true]
  refine KFB.if_so (by decide) ?_
  refine wpAny_bind (check_bound_init F.excBase_ValueError.toExcCallFacts hC he rfl ?_)
  refine wpAny_bind (wpAny_pure (wpAny_pure ?_))
  refine ⟨plainId_quiet F.excBase_ValueError.init.plain _, codeAny_builtin F.excBase_ValueError.initEntry ?_⟩
  rw [Around.under_plainId F.excBase_ValueError.init.plain _]
  wp_walk
  refine hq _ h.objs.size (fun b o hb ho => ?_) ?_
  · rw [Heap.get?_update_other _ _ (Ne.symm hb)]
    exact Heap.get?_push_of_some _ ho
  · rw [Heap.get?_update_self _ (Heap.get?_push_of_some _ he) rfl]
    rfl
end
section
variable {prog : Program} {w : World} {A : Around} {E : Value → Shared → Prop} {R : Result → Shared → Prop} {s : Shared} {K : Frag} {fld qual : Str} {C fI : Addr} {mg : Str → Option Value}
theorem ldX {M : Model} {s : Shared} {name : Str} {scope : Scope} {L a : Addr} {cd : Value} {cc : Addr} {m : Str → Option Value} {x : Str} {pos : Pos} {v : Value} {Q : Value → Shared → Prop} {A : Around} {E : Value → Shared → Prop} (hn : s.heap.Ns L m) (hv : m x = some v) (h : Q v s)
    (hk : scope.kind = .function) (hl : scope.names.lookup x = some .local) (hd : (x == ("__debug__" : Str)) = false) :
    wpAny M A (eval (.Name x pos) (ksEnv name scope L a cd cc)) Q E s := wpAny_Name (wpAny_loadName_local hk hl hn hv h) hd
theorem init_ok (T : ExT prog K fld qual C fI) {x t0 : Addr} {v : Value} {args : Args} (X : K.In s.heap) (hlim : s.heap.NoLimit) (hg : s.heap.Ns mainGlobals mg) {mb : Str → Option Value} (hb : s.heap.Ns builtinsNs mb) (hbt : ∀ x : Str, x ≠ "__name__" → mb x = bootBuiltins x)
    (hx : s.heap.get? x = some (excO C t0)) (hxC : x ≠ C) (hnx : K.lookup x = none) (hroom : A.depth < recursionLimit)
    (hbind : ∀ fd : FuncData, (∃ o, K.lookup fI = some o ∧ o.data = .func fd) → BindsTo s fd args [(PySem.Str.ofString "self", .ref x), (fld, v)])
    (hq : ∀ h' tk dx t1, InitEnd s.heap h' x C dx t1 fld v → R (.ok (.ret .none)) { s with heap := h', toks := tk }) :
    codeAny (model prog w) A (.call (.ref fI) args) R s := by
  obtain ⟨oc, od, dV, kV, doc, pm, an, cda, ct, cc, osl, p1, p2, p3, q1, q2, q3, q4, q5, q6, q7, q8, q9, q10, cl, ccl, cld, cdd, csl, ccs, vs, file, tf, ho, hcd, hcc, hcda, hvs, hfile, hpos⟩ := T.fn
  obtain ⟨nm, q, N, bs, bm, sn, sub, ab, col, dd, k0, k1, k2, k3, k5, hC, hbm⟩ := T.cls
  have hcl : clsIn K C = some { name := nm, bases := bs, mro := .ref C :: bm, ns := N, qualname := q, hasDict := true, slotNames := sn, subclasses := sub, abstract := ab, collection := col, hasDel := false } := by unfold clsIn; rw [hC] <;> rfl
  rcases T.fl with hfl | hfl
  · subst hfl
    have hbind' := hbind _ ⟨_, ho, rfl⟩
    have lself : (xS (PySem.Str.ofString "value")).names.lookup (PySem.Str.ofString "self") = some .local := by first | rfl | kernel_rfl
    have lfld : (xS (PySem.Str.ofString "value")).names.lookup (PySem.Str.ofString "value") = some .local := by first | rfl | kernel_rfl
    have lcls : (xS (PySem.Str.ofString "value")).names.lookup (PySem.Str.ofString "__class__") = some .free := by first | rfl | kernel_rfl
    have lsup : (xS (PySem.Str.ofString "value")).names.lookup (PySem.Str.ofString "super") = some .globalImplicit := by first | rfl | kernel_rfl
    have dfld : ((PySem.Str.ofString "value") == ("__debug__" : Str)) = false := by decide +kernel
    refine ks_codeAny_call_defAt (fd := ksFn "__init__" qual (xA (PySem.Str.ofString "value") p1 p2 p3) (xB (PySem.Str.ofString "value") q1 q2 q3 q4 q5 q6 q7 q8 q9 q10) (xS (PySem.Str.ofString "value")) dV kV doc pm an (.ref cda) ct cc) (body := xB (PySem.Str.ofString "value") q1 q2 q3 q4 q5 q6 q7 q8 q9 q10) hroom (X _ _ ho) rfl hlim (codeRec_of X hcd) rfl hbind'
      (fun y hy => by
        have hy' : y ∈ (xS (PySem.Str.ofString "value")).names := hy
        unfold xS at hy'
        simp only [List.mem_cons, List.not_mem_nil, or_false] at hy'
        rcases hy' with rfl | rfl | rfl | rfl <;> exact (fun z => NameKind.noConfusion z)) (by intro y hy; simp only [List.mem_cons, List.not_mem_nil, or_false] at hy; rcases hy with rfl | rfl; exact lself; exact lfld) (fun h1 hns k1 => ?_) rfl rfl rfl
    have X1 : K.In h1 := X.keeps k1
    have nself : (List.reverse [(PySem.Str.ofString "self", Value.ref x), ((PySem.Str.ofString "value"), v)]).lookup (PySem.Str.ofString "self") = some (.ref x) := by
      first | rfl | kernel_rfl
    have nfld : (List.reverse [(PySem.Str.ofString "self", Value.ref x), ((PySem.Str.ofString "value"), v)]).lookup (PySem.Str.ofString "value") = some v := by
      first | rfl | kernel_rfl
    have hx1 := k1 _ _ hx
    have I1 : InstAt h1 x (excO C t0) C none := ⟨hx1, rfl, rfl, trivial⟩
    have hsubC : mroIn K C (.ref C) = some true := by
      unfold mroIn
      rw [hcl, Option.bind_some, if_neg (show ¬ (List.isEmpty (Value.ref C :: bm) = true) from Bool.false_ne_true)]
      simp
    obtain ⟨oD, hD1, hD2⟩ : ∃ oD, h1.get? C = some oD ∧ ∃ cdD, oD.data = .cls cdD := ⟨_, X1 _ _ hC, _, rfl⟩
    obtain ⟨cdD, hD2⟩ := hD2
    show wpAt _ _ _ (execs (xB (PySem.Str.ofString "value") q1 q2 q3 q4 q5 q6 q7 q8 q9 q10) _) _ _ _
    unfold xB
    refine ks_wpAt_execs_cons (ks_wpAt_Expr_any (ks_wpAt_MethodCall ?_ (mcall_eq hpos rfl)))
    refine ks_wpAt_super_base (env := ksEnv qual (xS (PySem.Str.ofString "value")) s.heap.objs.size fI (.ref cda) cc) lsup lcls (by decide +kernel) rfl (X1 _ _ ho) rfl (ar := { arg := "self", annotation := none, pos := p1 }) rfl rfl (X1 _ _ hcda) rfl hvs hfile T.top ?_
    refine ks_loadName_global rfl lsup (loadGlobal_builtin (env := ksEnv qual (xS (PySem.Str.ofString "value")) s.heap.objs.size fI (.ref cda) cc) (hg.keeps k1) (mg_none_of X hg T.sg) (hb.keeps k1) ((hbt _ (by decide +kernel)).trans (by decide +kernel : bootBuiltins "super" = some (.type "super"))) ⟨rfl, ?_⟩)
    refine wpAny_loadName_free rfl lcls rfl ⟨_, X1 _ _ hcc, rfl⟩ ?_
    refine wpAny_loadName_local rfl lself hns nself ?_
    refine ks_wpAny_isType_cls hD1 hD2 ⟨rfl, ?_⟩
    refine ks_wpAny_call_super hD1 hD2 I1.at_ I1.cls (fun c e => ?_) (looks_mroIn X1 hsubC) (fun h2 hso k2 => ?_)
    · cases e
    have X2 : K.In h2 := X1.keeps k2
    have hx2 := k2 _ _ hx1
    have I2 : InstAt h2 x (excO C t0) C none := ⟨hx2, rfl, rfl, trivial⟩
    have hI : Looks (model prog w) h2 (isInstance (.ref x) (.type "ValueError")) true := I2.type.andThen (looks_subIn X2 T.subV)
    have hsup := T.sup
    unfold ks_superIn at hsup
    rw [hcl] at hsup
    refine kxs_getMethod kxs_ValueError hso (looks_opaque X2 T.any) (l₀ := .ref C :: bm) (fun A Q E s k q => wpAny_bind ((looks_clsIn X2 hcl) A _ E s k (wpAny_pure q))) rfl X2 hsup hI hxC (by decide +kernel) ?_
    -- the call
    have hu : (h2.push (kxs_mw "ValueError.__init__" x)).get? h2.objs.size = some (kxs_mw "ValueError.__init__" x) := Heap.get?_push_size _ rfl
    have k3 : ∀ b o, h2.get? b = some o → (h2.push (kxs_mw "ValueError.__init__" x)).get? b = some o := fun b o e => Heap.get?_push_of_some _ e
    have hns2 := (hns.keeps k2).keeps k3
    refine kxs_callWith (i := "ValueError.__init__") (x := x) rfl ?_
    refine evalArgs_plain (show wpAny _ _ (spliced ((false, eval (.Name (PySem.Str.ofString "value") q4) (ksEnv qual (xS (PySem.Str.ofString "value")) s.heap.objs.size fI (.ref cda) cc)) :: backTo q5 (starEach [] (ksEnv qual (xS (PySem.Str.ofString "value")) s.heap.objs.size fI (.ref cda) cc)))) _ _ _ from ?_)
    refine Calls.spliced_cons (ldX hns2 nfld ?_ rfl lfld dfld)
    refine Calls.spliced_nil ⟨hu, ?_⟩
    show wpAny _ _ (call (.ref h2.objs.size) [v]) _ _ _
    refine call_mw (k3 _ _ (X2 _ _ hC)) (k3 _ _ hx2) hu (by show 1 ≤ sizeLine; rw [sizeLine_eq]; decide) fun h4 t1 k4 hx4 => ?_
    -- self.f = f
    have kk : ∀ b o, b ≠ x → h1.get? b = some o → h4.get? b = some o := fun b o hb e => k4 b o hb (k3 _ _ (k2 _ _ e))
    have X4 : K.In h4 := fun a o e => kk a o (fun z => by rw [z, hnx] at e; cases e) (X1 a o e)
    refine wpAt_of_wpAny (wpAny_execs_cons (plainObj_wpAny_Assign_Attribute ?_))
    have hL : s.heap.objs.size ≠ x := Nat.ne_of_gt (Heap.lt_size hx)
    have hns4 : h4.Ns s.heap.objs.size (fun y => (List.reverse [(PySem.Str.ofString "self", Value.ref x), ((PySem.Str.ofString "value"), v)]).lookup y) := by
      obtain ⟨oL, es, ep, e1, e2⟩ := hns2
      exact ⟨oL, es, ep, k4 _ _ hL e1, e2⟩
    refine ldX hns4 nfld (ldX hns4 nself ?_ rfl lself (by decide +kernel)) rfl lfld dfld
    refine set_plain X4 (ox := excO C t1) (od := none) ⟨hx4, rfl, rfl, trivial⟩ T.sa ?_
    refine exc_osa X4 hx4 hcl (show refsVE (.ref C :: bm) = true from hbm) rfl T.noN (fun h5 tk5 dx k5 dn dne hx5 hn5 => ?_)
    show wpAny _ _ (execs [] _) _ _ _
    refine wpAny_execs_nil ?_
    have z1 : s.heap.objs.size < h4.objs.size := by
      obtain ⟨oL, es, ep, e1, e2⟩ := hns4
      exact Heap.lt_size e1
    exact hq h5 _ dx t1 ⟨fun b o hb e => k5 b o hb (kk b o hb (k1 b o e)), hx5, Nat.le_of_lt (Nat.lt_of_lt_of_le z1 dn), dne, hn5⟩
  · subst hfl
    have hbind' := hbind _ ⟨_, ho, rfl⟩
    have lself : (xS (PySem.Str.ofString "name")).names.lookup (PySem.Str.ofString "self") = some .local := by first | rfl | kernel_rfl
    have lfld : (xS (PySem.Str.ofString "name")).names.lookup (PySem.Str.ofString "name") = some .local := by first | rfl | kernel_rfl
    have lcls : (xS (PySem.Str.ofString "name")).names.lookup (PySem.Str.ofString "__class__") = some .free := by first | rfl | kernel_rfl
    have lsup : (xS (PySem.Str.ofString "name")).names.lookup (PySem.Str.ofString "super") = some .globalImplicit := by first | rfl | kernel_rfl
    have dfld : ((PySem.Str.ofString "name") == ("__debug__" : Str)) = false := by decide +kernel
    refine ks_codeAny_call_defAt (fd := ksFn "__init__" qual (xA (PySem.Str.ofString "name") p1 p2 p3) (xB (PySem.Str.ofString "name") q1 q2 q3 q4 q5 q6 q7 q8 q9 q10) (xS (PySem.Str.ofString "name")) dV kV doc pm an (.ref cda) ct cc) (body := xB (PySem.Str.ofString "name") q1 q2 q3 q4 q5 q6 q7 q8 q9 q10) hroom (X _ _ ho) rfl hlim (codeRec_of X hcd) rfl hbind'
      (fun y hy => by
        have hy' : y ∈ (xS (PySem.Str.ofString "name")).names := hy
        unfold xS at hy'
        simp only [List.mem_cons, List.not_mem_nil, or_false] at hy'
        rcases hy' with rfl | rfl | rfl | rfl <;> exact (fun z => NameKind.noConfusion z)) (by intro y hy; simp only [List.mem_cons, List.not_mem_nil, or_false] at hy; rcases hy with rfl | rfl; exact lself; exact lfld) (fun h1 hns k1 => ?_) rfl rfl rfl
    have X1 : K.In h1 := X.keeps k1
    have nself : (List.reverse [(PySem.Str.ofString "self", Value.ref x), ((PySem.Str.ofString "name"), v)]).lookup (PySem.Str.ofString "self") = some (.ref x) := by
      first | rfl | kernel_rfl
    have nfld : (List.reverse [(PySem.Str.ofString "self", Value.ref x), ((PySem.Str.ofString "name"), v)]).lookup (PySem.Str.ofString "name") = some v := by
      first | rfl | kernel_rfl
    have hx1 := k1 _ _ hx
    have I1 : InstAt h1 x (excO C t0) C none := ⟨hx1, rfl, rfl, trivial⟩
    have hsubC : mroIn K C (.ref C) = some true := by
      unfold mroIn
      rw [hcl, Option.bind_some, if_neg (show ¬ (List.isEmpty (Value.ref C :: bm) = true) from Bool.false_ne_true)]
      simp
    obtain ⟨oD, hD1, hD2⟩ : ∃ oD, h1.get? C = some oD ∧ ∃ cdD, oD.data = .cls cdD := ⟨_, X1 _ _ hC, _, rfl⟩
    obtain ⟨cdD, hD2⟩ := hD2
    show wpAt _ _ _ (execs (xB (PySem.Str.ofString "name") q1 q2 q3 q4 q5 q6 q7 q8 q9 q10) _) _ _ _
    unfold xB
    refine ks_wpAt_execs_cons (ks_wpAt_Expr_any (ks_wpAt_MethodCall ?_ (mcall_eq hpos rfl)))
    refine ks_wpAt_super_base (env := ksEnv qual (xS (PySem.Str.ofString "name")) s.heap.objs.size fI (.ref cda) cc) lsup lcls (by decide +kernel) rfl (X1 _ _ ho) rfl (ar := { arg := "self", annotation := none, pos := p1 }) rfl rfl (X1 _ _ hcda) rfl hvs hfile T.top ?_
    refine ks_loadName_global rfl lsup (loadGlobal_builtin (env := ksEnv qual (xS (PySem.Str.ofString "name")) s.heap.objs.size fI (.ref cda) cc) (hg.keeps k1) (mg_none_of X hg T.sg) (hb.keeps k1) ((hbt _ (by decide +kernel)).trans (by decide +kernel : bootBuiltins "super" = some (.type "super"))) ⟨rfl, ?_⟩)
    refine wpAny_loadName_free rfl lcls rfl ⟨_, X1 _ _ hcc, rfl⟩ ?_
    refine wpAny_loadName_local rfl lself hns nself ?_
    refine ks_wpAny_isType_cls hD1 hD2 ⟨rfl, ?_⟩
    refine ks_wpAny_call_super hD1 hD2 I1.at_ I1.cls (fun c e => ?_) (looks_mroIn X1 hsubC) (fun h2 hso k2 => ?_)
    · cases e
    have X2 : K.In h2 := X1.keeps k2
    have hx2 := k2 _ _ hx1
    have I2 : InstAt h2 x (excO C t0) C none := ⟨hx2, rfl, rfl, trivial⟩
    have hI : Looks (model prog w) h2 (isInstance (.ref x) (.type "ValueError")) true := I2.type.andThen (looks_subIn X2 T.subV)
    have hsup := T.sup
    unfold ks_superIn at hsup
    rw [hcl] at hsup
    refine kxs_getMethod kxs_ValueError hso (looks_opaque X2 T.any) (l₀ := .ref C :: bm) (fun A Q E s k q => wpAny_bind ((looks_clsIn X2 hcl) A _ E s k (wpAny_pure q))) rfl X2 hsup hI hxC (by decide +kernel) ?_
    -- the call
    have hu : (h2.push (kxs_mw "ValueError.__init__" x)).get? h2.objs.size = some (kxs_mw "ValueError.__init__" x) := Heap.get?_push_size _ rfl
    have k3 : ∀ b o, h2.get? b = some o → (h2.push (kxs_mw "ValueError.__init__" x)).get? b = some o := fun b o e => Heap.get?_push_of_some _ e
    have hns2 := (hns.keeps k2).keeps k3
    refine kxs_callWith (i := "ValueError.__init__") (x := x) rfl ?_
    refine evalArgs_plain (show wpAny _ _ (spliced ((false, eval (.Name (PySem.Str.ofString "name") q4) (ksEnv qual (xS (PySem.Str.ofString "name")) s.heap.objs.size fI (.ref cda) cc)) :: backTo q5 (starEach [] (ksEnv qual (xS (PySem.Str.ofString "name")) s.heap.objs.size fI (.ref cda) cc)))) _ _ _ from ?_)
    refine Calls.spliced_cons (ldX hns2 nfld ?_ rfl lfld dfld)
    refine Calls.spliced_nil ⟨hu, ?_⟩
    show wpAny _ _ (call (.ref h2.objs.size) [v]) _ _ _
    refine call_mw (k3 _ _ (X2 _ _ hC)) (k3 _ _ hx2) hu (by show 1 ≤ sizeLine; rw [sizeLine_eq]; decide) fun h4 t1 k4 hx4 => ?_
    -- self.f = f
    have kk : ∀ b o, b ≠ x → h1.get? b = some o → h4.get? b = some o := fun b o hb e => k4 b o hb (k3 _ _ (k2 _ _ e))
    have X4 : K.In h4 := fun a o e => kk a o (fun z => by rw [z, hnx] at e; cases e) (X1 a o e)
    refine wpAt_of_wpAny (wpAny_execs_cons (plainObj_wpAny_Assign_Attribute ?_))
    have hL : s.heap.objs.size ≠ x := Nat.ne_of_gt (Heap.lt_size hx)
    have hns4 : h4.Ns s.heap.objs.size (fun y => (List.reverse [(PySem.Str.ofString "self", Value.ref x), ((PySem.Str.ofString "name"), v)]).lookup y) := by
      obtain ⟨oL, es, ep, e1, e2⟩ := hns2
      exact ⟨oL, es, ep, k4 _ _ hL e1, e2⟩
    refine ldX hns4 nfld (ldX hns4 nself ?_ rfl lself (by decide +kernel)) rfl lfld dfld
    refine set_plain X4 (ox := excO C t1) (od := none) ⟨hx4, rfl, rfl, trivial⟩ T.sa ?_
    refine exc_osa X4 hx4 hcl (show refsVE (.ref C :: bm) = true from hbm) rfl T.noN (fun h5 tk5 dx k5 dn dne hx5 hn5 => ?_)
    show wpAny _ _ (execs [] _) _ _ _
    refine wpAny_execs_nil ?_
    have z1 : s.heap.objs.size < h4.objs.size := by
      obtain ⟨oL, es, ep, e1, e2⟩ := hns4
      exact Heap.lt_size e1
    exact hq h5 _ dx t1 ⟨fun b o hb e => k5 b o hb (kk b o hb (k1 b o e)), hx5, Nat.le_of_lt (Nat.lt_of_lt_of_le z1 dn), dne, hn5⟩
end
end ZX
end PySem

set_option maxHeartbeats 4000000
namespace PySem
namespace ZX
open PySem.W PySem.Calls PyProof.Rows PySem.HandSPX
section
variable {fld qual : Str} {dV kV doc pm : Value} {an : Option Addr} {cdv ct : Value} {cc T : Addr} {p1 p2 p3 : Pos} {body : List Stmt}
theorem bind2 (hf : fld = "value" ∨ fld = "name") (x u y : Value) : ∃ k, bindArgs (ksFn "__init__" qual (xA fld p1 p2 p3) body (xS fld) (.ref T) kV doc pm an cdv ct cc) ⟨[x, u], []⟩ = seqItems? (.ref T) >>= k ∧ k (some #[y]) = pure [(PySem.Str.ofString "self", x), (fld, u)] := by
  rcases hf with rfl | rfl <;> exact ⟨_, rfl, rfl⟩
theorem bind1 (hf : fld = "value" ∨ fld = "name") (x y : Value) : ∃ k, bindArgs (ksFn "__init__" qual (xA fld p1 p2 p3) body (xS fld) (.ref T) kV doc pm an cdv ct cc) ⟨[x], []⟩ = seqItems? (.ref T) >>= k ∧ k (some #[y]) = pure [(PySem.Str.ofString "self", x), (fld, y)] := by
  rcases hf with rfl | rfl <;> exact ⟨_, rfl, rfl⟩
theorem bindk (hf : fld = "value" ∨ fld = "name") (x u y : Value) : ∃ k, bindArgs (ksFn "__init__" qual (xA fld p1 p2 p3) body (xS fld) (.ref T) kV doc pm an cdv ct cc) ⟨[x], [(fld, u)]⟩ = seqItems? (.ref T) >>= k ∧ k (some #[y]) = pure [(PySem.Str.ofString "self", x), (fld, u)] := by
  rcases hf with rfl | rfl <;> exact ⟨_, rfl, rfl⟩
end
section
variable {M : Model} {A : Around} {E : Value → Shared → Prop} {h : Heap} {g : Array GenState} {d : Drawn} {t : Nat} {os : OsState}
variable {nm q : Str} {C N : Addr} {bs bm : List Value} {hdct : Bool} {sn : List Str} {sub : List Value} {ab : Bool} {col : Option Bool} {dd : Option Addr} {k0 k1 k2 k3 k5 : Option Value}
theorem chk_newK (hT : ∀ X : String, bm.contains (.type X) = veTail.contains (.type X)) {rest : List Value} {kw : List (Str × Value)} (hkw : kw = [] ∨ ∃ f u, kw = [(f, u)]) {Q : Unit → Shared → Prop}
    (hC : h.get? C = some (excClassObj nm q C N bs bm hdct sn sub ab col dd k0 k1 k2 k3 k5 "ValueError.__new__")) (hq : Q () ⟨h, g, d, t, os⟩) : wpAny M A (checkBuiltinCall "ValueError.__new__" ⟨.ref C :: rest, kw⟩) Q E ⟨h, g, d, t, os⟩ := by
  have F := PySem.F.excBase_ValueError
  have hcont : (Value.ref C :: bm).contains (.type "ValueError") = true := by rw [List.contains_cons, hT, F.hasB, Bool.or_true]
  have hstar := F.noStar
  rcases hkw with rfl | ⟨f, u, rfl⟩ <;>
  · simp only [checkBuiltinCall, F.newKind, F.newSplit, F.newRow]
    repeat (first | refine wpAny_loadPart_at hC ?_ | (refine wpAny_isSubtype_exc hC ?_; rw [hcont]) | refine wpAny_staticBase_exc hC ?_ | refine wpAny_madeBy_exc hC ?_ | simp only [bne_self_eq_false, Bool.false_eq_true, if_false] | wp_step)
    exact hq
end
section
variable {prog : Program} {w : World} {A : Around} {E : Value → Shared → Prop} {R : Result → Shared → Prop} {h : Heap} {g : Array GenState} {d : Drawn} {t : Nat} {os : OsState}
variable {nm q : Str} {C N : Addr} {bs bm : List Value} {hdct : Bool} {sn : List Str} {sub : List Value} {ab : Bool} {col : Option Bool} {dd : Option Addr} {k0 k1 k2 k3 k5 : Option Value}
theorem newK (hT : ∀ X : String, bm.contains (.type X) = veTail.contains (.type X)) {rest : List Value} {kw : List (Str × Value)}
    (hC : h.get? C = some (excClassObj nm q C N bs bm hdct sn sub ab col dd k0 k1 k2 k3 k5 "ValueError.__new__"))
    (hq : R (.ok (.ret (.ref (h.objs.size + 1)))) ⟨(h.push (W.kdv_tup rest)).push (excO C h.objs.size), g, d, t, os⟩) (hrest : rest.length ≤ sizeLine) :
    codeAny (model prog w) A (.builtin "ValueError.__new__" ⟨.ref C :: rest, kw⟩) R ⟨h, g, d, t, os⟩ := by
  have F := PySem.F.excBase_ValueError
  have hends := F.ends
  have hcB : (Value.ref C :: bm).contains (.type "ValueError") = true := by rw [List.contains_cons, hT, F.hasB, Bool.or_true]
  have hcA : (Value.ref C :: bm).contains (.type "AttributeError") = false := by rw [List.contains_cons, hT, F.noAttr]; rfl
  have hcN : (Value.ref C :: bm).contains (.type "NameError") = false := by rw [List.contains_cons, hT, F.noName]; rfl
  refine codeAny_builtinAt F.entry ?_
  unfold Builtin.«BaseException.__new__»
  refine wpAt_bind ?_
  show wpAt _ _ _ (stack >>= _) _ _ _
  refine wpAt_bind (wpAt_stack fun p below => wpAt_of_wpAny ?_)
  wp_walk
  refine wpAt_of_wpAny ?_
  rw [F.owner]
  repeat (first | with_reducible refine wpAny_madeHere_exc F.canon hC ?_ | with_reducible refine wpAny_loadPart_at hC ?_ | (with_reducible refine wpAny_isSubtype_exc hC ?_; first | rw [hcB] | rw [hcA] | rw [hcN]) | wp_step)
  show R _ _
  rw [Heap.size_push]
  exact hq
theorem typeCallK (hT : ∀ X : String, bm.contains (.type X) = veTail.contains (.type X)) {rest : List Value} {kw : List (Str × Value)} (hkw : kw = [] ∨ ∃ f u, kw = [(f, u)]) {fI : Addr} {Q : Fin → Shared → Prop}
    (hC : h.get? C = some (excClassObj nm q C N bs bm hdct sn sub ab col dd k0 k1 k2 k3 k5 "ValueError.__new__"))
    (hi : W.Looks (model prog w) h (typeLookup (.ref C) "__init__") (some (.ref fI))) (hb : ∀ self, W.Looks (model prog w) h (bindSpecial (.ref fI) self) (.ref fI, [self])) (hrest : rest.length ≤ sizeLine)
    (hq : codeAny (model prog w) A (.call (.ref fI) ⟨.ref (h.objs.size + 1) :: rest, kw⟩)
      (fun r s' => match r with | .ok (.ret v) => v = .none ∧ Q (.done (.ret (.ref (h.objs.size + 1)))) s' | .ok _ => False | .error e => E e s')
      ⟨(h.push (W.kdv_tup rest)).push (excO C h.objs.size), g, d, t, os⟩) :
    wpAny (model prog w) A (Builtin.«type.__call__» ⟨.ref C :: rest, kw⟩) Q E ⟨h, g, d, t, os⟩ := by
  have F := PySem.F.excBase_ValueError
  repeat (first | with_reducible refine wpAny_loadPart_at hC ?_ | with_reducible refine wpAny_madeBy_exc hC ?_ | wp_step)
  refine codeAny_call_builtin_code (Code.quiet_builtin _ F.quiet) (chk_newK hT hkw hC ?_)
  refine newK hT hC ?_ hrest
  show wpAny _ _ _ _ _ _
  have k : ∀ b o, h.get? b = some o → ((h.push (W.kdv_tup rest)).push (excO C h.objs.size)).get? b = some o := fun b o e => Heap.get?_push_of_some _ (Heap.get?_push_of_some _ e)
  have hC1 := k _ _ hC
  have hget : ((h.push (W.kdv_tup rest)).push (excO C h.objs.size)).get? (h.objs.size + 1) = some (excO C h.objs.size) := by heap_get
  have hcC : (Value.ref C :: bm).contains (.ref C) = true := by simp
  have i1 := hi.keeps k
  have b1 := (hb (.ref (h.objs.size + 1))).keeps k
  unfold isInstance
  repeat (first | with_reducible refine wpAny_loadPart_at hget ?_ | (with_reducible refine wpAny_isSubtype_exc hC1 ?_; rw [hcC]) | wp_step)
  show wpAny _ _ (typeLookup (.ref C) _) _ _ _
  refine i1.at ?_
  refine wpAny_holding (wpAny_bind (b1.at ?_))
  refine wpAny_bind (wpAny_call (codeAny_mono hq fun r s' z => ?_))
  rcases r with e | (v | _ | _ | _) <;> first | exact z | exact z.elim | skip
  obtain ⟨rfl, z⟩ := z
  first
    | exact wpAny_pure (wpAny_pure z)
    | (wp_walk; exact z)
theorem callK (hT : ∀ X : String, bm.contains (.type X) = veTail.contains (.type X)) {rest : List Value} {kw : List (Str × Value)} (hkw : kw = [] ∨ ∃ f u, kw = [(f, u)]) {fI : Addr}
    (hC : h.get? C = some (excClassObj nm q C N bs bm hdct sn sub ab col dd k0 k1 k2 k3 k5 "ValueError.__new__"))
    (hi : W.Looks (model prog w) h (typeLookup (.ref C) "__init__") (some (.ref fI))) (hb : ∀ self, W.Looks (model prog w) h (bindSpecial (.ref fI) self) (.ref fI, [self])) (hrest : rest.length ≤ sizeLine)
    (hq : codeAny (model prog w) (A.under (.builtin "type.__call__" ⟨.ref C :: rest, kw⟩)) (.call (.ref fI) ⟨.ref (h.objs.size + 1) :: rest, kw⟩) (W.InitBack (h.objs.size + 1) R)
      ⟨(h.push (W.kdv_tup rest)).push (excO C h.objs.size), g, d, t, os⟩) :
    codeAny (model prog w) A (.call (.ref C) ⟨rest, kw⟩) R ⟨h, g, d, t, os⟩ := by
  have f1 := tc_lookup
  have f2 := tc_bind (.ref C)
  have hTy : (⟨h, g, d, t, os⟩ : Shared).TypeIs (.ref C) "type" := ⟨_, hC, rfl⟩
  refine codeAny_of_tree ?_
  show wpAny _ _ (callAny (.ref C) _) _ _ _
  repeat (any_goals (first | assumption | with_reducible refine wpAny_loadPart_at hC ?_ | wp_step))
  refine ⟨rfl, ?_⟩
  refine codeAny_call_builtin_at (Code.quiet_builtin _ (by decide +kernel)) entry_typeCall (wpAny_check_type_call_sub hC (typeCallK hT hkw hC hi hb hrest ?_))
  refine codeAny_mono hq fun r s' z => ?_
  rcases r with e | (v | _ | _ | _) <;> exact z
end
end ZX
end PySem

set_option maxHeartbeats 4000000
/-! What must hold at a place so that a piece of syntax goes well from there (over HandS). -/
namespace L2.Z
open PySem PySem.Spec PyProof.Rows
section
variable (X : Cx)
def EW (e : Expr) (σ : St) (H : Hp) (Q : VK) : Prop := ∀ pins s, Inv X pins σ H s → wpAny (model X.prog X.w) X.A (eval e X.env) (EP X pins σ Q) X.xe s
def TW (e : Expr) (σ : St) (H : Hp) (Q : Bool → Hp → Prop) : Prop := ∀ pins s, Inv X pins σ H s → wpAny (model X.prog X.w) X.A (isTrue e X.env (eval e X.env)) (TP X pins σ Q) X.xe s
def PWW (e : Expr) (σ : St) (H : Hp) (Q : Bool → Hp → Prop) : Prop := ∀ whole pins s, Inv X pins σ H s → wpAny (model X.prog X.w) X.A (isTrue e X.env whole) (TP X pins σ Q) X.xe s
def AW (es : List Expr) (σ : St) (H : Hp) (Q : List V → Hp → Prop) : Prop := ∀ pos pins s, Inv X pins σ H s → wpAny (model X.prog X.w) X.A (spliced (backTo pos (starEach es X.env))) (AP X pins σ Q) X.xe s
def KWW (es : List Keyword) (σ : St) (H : Hp) (Q : List V → Hp → Prop) : Prop := ∀ pos pins s, Inv X pins σ H s → wpAny (model X.prog X.w) X.A (evalAll ((backToKw pos (keywordEach es X.env)).map (·.2))) (AP X pins σ Q) X.xe s
def SW (st : Stmt) (D : Ends) (σ : St) (H : Hp) : Prop := ∀ pins s, Inv X pins σ H s → wpAny (model X.prog X.w) X.A (exec st X.env) (SP X pins D) X.xe s
def BW (st : List Stmt) (D : Ends) (σ : St) (H : Hp) : Prop := ∀ pins s, Inv X pins σ H s → wpAny (model X.prog X.w) X.A (execs st X.env) (SP X pins D) X.xe s
def GW (tg : Expr) (v : V) (σ : St) (H : Hp) (Q : St → Hp → Prop) : Prop := ∀ pins s u, Inv X pins σ H s → RelV v u → wpAny (model X.prog X.w) X.A (assign tg X.env u) (fun _ s' => ∃ σ' H', Inv X pins σ' H' s' ∧ Q σ' H') X.xe s
def GsW (ts : List Expr) (vs : List V) (σ : St) (H : Hp) (Q : St → Hp → Prop) : Prop := ∀ pins s us, Inv X pins σ H s → Vals vs us → wpAny (model X.prog X.w) X.A (assignInOrder ((assignEach ts X.env).map (·.2)) us) (fun _ s' => ∃ σ' H', Inv X pins σ' H' s' ∧ Q σ' H') X.xe s
end
section
variable {X : Cx} {e a b c : Expr} {es rest : List Expr} {σ : St} {H : Hp} {Q Q' : VK} {R R' : Bool → Hp → Prop} {D : Ends} {pos : Pos} {st : Stmt} {sts : List Stmt} {x : Str}
theorem e_pe : PE X e (EW X e) := ⟨fun pins s σ H Q I h => h pins s I⟩
theorem t_pe : PT X e (TW X e) := ⟨fun pins s σ H Q I h => h pins s I⟩
theorem w_pe : PW X e (PWW X e) := ⟨fun wh pins s σ H Q I h => h wh pins s I⟩
theorem a_pe : PA X es (AW X es) := ⟨fun pos pins s σ H Q I h => h pos pins s I⟩
theorem k_pe {ks : List Keyword} : PK X ks (KWW X ks) := ⟨fun pos pins s σ H Q I h => h pos pins s I⟩
theorem s_pe : PS X st (SW X st) := ⟨fun pins s σ H D I h => h pins s I⟩
theorem b_pe : PSs X sts (BW X sts) := ⟨fun pins s σ H D I h => h pins s I⟩
theorem g_pe {tg : Expr} : PG X tg (GW X tg) := ⟨fun pins s σ H v u Q I r h => h pins s u I r⟩
theorem gs_pe {ts : List Expr} : PGs X ts (GsW X ts) := ⟨fun pins s σ H v u Q I r h => h pins s u I r⟩
theorem e_of {t : TE} (h : PE X e t) (q : t σ H Q) : EW X e σ H Q := fun pins s I => h.run pins s σ H Q I q
theorem t_of {t : TT} (h : PT X e t) (q : t σ H R) : TW X e σ H R := fun pins s I => h.run pins s σ H R I q
theorem w_of {t : TT} (h : PW X e t) (q : t σ H R) : PWW X e σ H R := fun wh pins s I => h.run wh pins s σ H R I q
theorem tw_of {t : TT} (h : PW X e t) (q : t σ H R) : TW X e σ H R := t_of h.pt q
theorem a_of {t : TA} {Q : List V → Hp → Prop} (h : PA X es t) (q : t σ H Q) : AW X es σ H Q := fun pos pins s I => h.run pos pins s σ H Q I q
theorem k_of {ks : List Keyword} {t : TA} {Q : List V → Hp → Prop} (h : PK X ks t) (q : t σ H Q) : KWW X ks σ H Q := fun pos pins s I => h.run pos pins s σ H Q I q
theorem s_of {t : TS} (h : PS X st t) (q : t D σ H) : SW X st D σ H := fun pins s I => h.run pins s σ H D I q
theorem b_of {t : TS} (h : PSs X sts t) (q : t D σ H) : BW X sts D σ H := fun pins s I => h.run pins s σ H D I q
theorem g_of {tg : Expr} {t : TG} {v : V} {N : St → Hp → Prop} (h : PG X tg t) (q : t v σ H N) : GW X tg v σ H N := fun pins s u I r => h.run pins s σ H v u N I r q
theorem EW.mono (h : EW X e σ H Q) (k : ∀ v H', Q v H' → Q' v H') : EW X e σ H Q' := fun pins s I => thn (h pins s I) fun v s' ⟨y, H', I', r, q⟩ => ⟨y, H', I', r, k _ _ q⟩
theorem TW.mono (h : TW X e σ H R) (k : ∀ v H', R v H' → R' v H') : TW X e σ H R' := fun pins s I => thn (h pins s I) fun v s' ⟨H', I', q⟩ => ⟨H', I', k _ _ q⟩
/-- the place of a name among the slots -/
def At (N : List Str) (i : Nat) (x : Str) : Prop := N[i]? = some x
theorem at_z {N : List Str} : At (x :: N) 0 x := rfl
theorem at_s {N : List Str} {i : Nat} {y : Str} (h : At N i x) : At (y :: N) (i + 1) x := by
  unfold At
  rw [List.getElem?_cons_succ]
  exact h
theorem e_nm {i : Nat} {N : List Str} {v : V} (hX : X.N = N) (h : At N i x) (hs : σ[i]? = some (some v)) (q : Q v H)
    (hv : Vis X.env.scope x := by first | exact Or.inl rfl | exact Or.inr (Or.inl rfl) | exact Or.inr (Or.inr rfl)) (hd : (x == ("__debug__" : Str)) = false := by decide) (hcd : (x == ("__classdict__" : Str)) = false := by decide) : EW X (.Name x pos) σ H Q :=
  e_of (pe_var (i := i) (by rw [hX]; exact h) hv hd hcd) ⟨v, hs, q⟩
theorem e_int {i j} (q : Q (.int i) H) : EW X (.Constant (.int i) j pos) σ H Q := e_of pe_int q
theorem e_bl {i j} (q : Q (.bl i) H) : EW X (.Constant (.bool i) j pos) σ H Q := e_of pe_bl q
theorem e_non {j} (q : Q .non H) : EW X (.Constant .none j pos) σ H Q := e_of pe_non q
theorem e_str {i j} (q : Q (.str i) H) : EW X (.Constant (.str i) j pos) σ H Q := e_of pe_str q
theorem e_op {op : Operator} {r : R2} (o : OpR X (binaryOp op) r) (h : EW X a σ H fun y H1 => EW X b σ H1 fun z H2 => r y z H2 Q) : EW X (.BinOp a op b pos) σ H Q := e_of (pe_op o e_pe e_pe) h
theorem e_un {op : UnaryOp} {r : V → Hp → VK → Prop} (o : UnR X (unaryOp op) r) (h : EW X a σ H fun y H1 => r y H1 Q) : EW X (.UnaryOp op a pos) σ H Q := e_of (pe_un o e_pe) h
theorem e_cmp {op : CmpOp} {r : R2} (o : OpR X (compareOp op) r) (h : EW X a σ H fun y H1 => EW X b σ H1 fun z H2 => r y z H2 Q) (hm : behindInMarks op b = false := by first | exact nomark _ | rfl) : EW X (.Compare a [op] [b] pos) σ H Q := e_of (pe_cmpR o e_pe e_pe hm) h
theorem t_cmp {op : CmpOp} {r : R2} (o : OpR X (compareOp op) r) (h : EW X a σ H fun y H1 => EW X b σ H1 fun z H2 => r y z H2 fun v H3 => ∃ k, v = .bl k ∧ R k H3) (hm : behindInMarks op b = false := by first | exact nomark _ | rfl) : TW X (.Compare a [op] [b] pos) σ H R := t_of (pt_cmpR o e_pe e_pe hm) h
theorem t_chain {op op' : CmpOp} {r r' : R2} (o : OpR X (compareOp op) r) (o' : OpR X (compareOp op') r')
    (h : EW X a σ H fun y H1 => EW X b σ H1 fun z H2 => r y z H2 fun v H3 => ∃ k, v = .bl k ∧ if k = true then EW X c σ H3 fun w' H4 => r' z w' H4 fun v H5 => ∃ k, v = .bl k ∧ R k H5 else ∃ k, V.bl false = .bl k ∧ R k H3)
    (hm : lastMarks [op, op'] [b, c] = false := by with_unfolding_all rfl) : TW X (.Compare a [op, op'] [b, c] pos) σ H R := t_of (pt_chain o o' e_pe e_pe e_pe hm) h
theorem e_and (h : EW X a σ H fun y H1 => ∃ k, y = .bl k ∧ if k = true then EW X (.BoolOp .And (b :: rest) pos) σ H1 Q else Q (.bl false) H1) : EW X (.BoolOp .And (a :: b :: rest) pos) σ H Q := e_of (pe_and e_pe e_pe) h
theorem e_or (h : EW X a σ H fun y H1 => ∃ k, y = .bl k ∧ if k = true then Q (.bl true) H1 else EW X (.BoolOp .Or (b :: rest) pos) σ H1 Q) : EW X (.BoolOp .Or (a :: b :: rest) pos) σ H Q := e_of (pe_or e_pe e_pe) h
theorem e_one {op} (h : EW X a σ H Q) : EW X (.BoolOp op [a] pos) σ H Q := e_of (pe_one e_pe) h
theorem e_not (h : TW X a σ H fun k H1 => Q (.bl (!k)) H1) (he : ∀ {M : Model} {A : Around} {Q' : Value → Shared → Prop} {E s}, wpAny M A (isTrue a X.env (eval a X.env)) (fun k s' => Q' (.bool (!k)) s') E s → wpAny M A (eval (.UnaryOp .Not a pos) X.env) Q' E s) : EW X (.UnaryOp .Not a pos) σ H Q :=
  fun pins s I => he (thn (h pins s I) fun k s' ⟨H', I', q⟩ => ⟨.bl (!k), H', I', rfl, q⟩)
theorem w_and1 (h : TW X a σ H R) : PWW X (.BoolOp .And [a] pos) σ H R := w_of (pw_and1 t_pe) h
theorem w_or1 (h : TW X a σ H R) : PWW X (.BoolOp .Or [a] pos) σ H R := w_of (pw_or1 t_pe) h
theorem w_and (h : TW X a σ H fun k H1 => if k = true then PWW X (.BoolOp .And (b :: rest) pos) σ H1 R else R false H1) : PWW X (.BoolOp .And (a :: b :: rest) pos) σ H R := w_of (pw_and t_pe w_pe) h
theorem w_or (h : TW X a σ H fun k H1 => if k = true then R true H1 else PWW X (.BoolOp .Or (b :: rest) pos) σ H1 R) : PWW X (.BoolOp .Or (a :: b :: rest) pos) σ H R := w_of (pw_or t_pe w_pe) h
theorem t_w (h : PWW X e σ H R) : TW X e σ H R := fun pins s I => h _ pins s I
theorem t_not (h : TW X a σ H fun k H1 => R (!k) H1) : TW X (.UnaryOp .Not a pos) σ H R := t_of (pt_not t_pe) h
theorem t_val (h : EW X e σ H fun y H1 => ∃ k, y = .bl k ∧ R k H1) (he : ∀ whole, isTrue e X.env whole = (do let v ← whole; standAt e.pos; holding [v] (truthy v)) := by intro _; rfl) : TW X e σ H R := t_of (pt_val e_pe he) h
theorem t_tru (h : EW X e σ H fun y H1 => ∃ k, TruV X.K y H1 k ∧ R k H1) (he : ∀ whole, isTrue e X.env whole = (do let v ← whole; standAt e.pos; holding [v] (truthy v)) := by intro _; rfl) : TW X e σ H R := t_of (pt_truth e_pe he) h
theorem e_if (h : TW X c σ H fun k H1 => if k = true then EW X a σ H1 Q else EW X b σ H1 Q) : EW X (.IfExp c a b pos) σ H Q := e_of (pe_ifExp t_pe e_pe e_pe) h
theorem a_nil {Q : List V → Hp → Prop} (h : Q [] H) : AW X [] σ H Q := a_of pa_nil h
theorem a_cons {Q : List V → Hp → Prop} (h : EW X e σ H fun y H1 => AW X es σ H1 fun ys H2 => Q (y :: ys) H2) (hs : starEach (e :: es) X.env = (false, eval e X.env) :: starEach es X.env := by rfl) : AW X (e :: es) σ H Q := a_of (pa_cons e_pe a_pe hs) h
theorem k_nil {Q : List V → Hp → Prop} (h : Q [] H) : KWW X [] σ H Q := k_of pk_nil h
theorem k_cons {Q : List V → Hp → Prop} {ks : List Keyword} {nm : Option Str} {kp : Pos} (h : EW X e σ H fun y H1 => KWW X ks σ H1 fun ys H2 => Q (y :: ys) H2) : KWW X (⟨nm, e, kp⟩ :: ks) σ H Q := k_of (pk_cons e_pe k_pe) h
theorem e_tup {z} (h : AW X es σ H fun ys H1 => ys.length ≤ sizeLine ∧ ∀ p, H1 p = none → Q (.ref p) (upd H1 p (.tup ys))) : EW X (.Tuple es z pos) σ H Q := e_of (pe_tup a_pe) h
theorem e_lst (h : AW X es σ H fun ys H1 => ys.length ≤ sizeLine ∧ ∀ p, H1 p = none → Q (.ref p) (upd H1 p (.lst ys))) : EW X (.List es pos) σ H Q := e_of (pe_lst a_pe) h
theorem e_fld {f : Str} (h : EW X e σ H fun y H1 => ∃ a C dx fs v, y = .ref a ∧ H1 a = some (.ins C dx fs) ∧ Cls X.K C ∧ NoAttr X.K C f ∧ fs.lookup f = some v ∧ Q v H1) (hb : attributeBase e f X.env (eval e X.env) = eval e X.env := by rfl) : EW X (.Attribute e f pos) σ H Q := e_of (pe_fld e_pe hb) h
theorem e_callB {p : Pos} {id : String} {r : List V → Hp → VK → Prop} (hc : CallR X (.builtin id) r) (hm : X.mg x = none) (hv : bootBuiltins x = some (.builtin id)) (h : AW X (e :: es) σ H fun vs H1 => r vs H1 Q) (hg : Gl X x := by rfl)
    (hn : x ≠ "__name__" := by decide) (hdb : (x == ("__debug__" : Str)) = false := by decide) (he : starEach (e :: es) X.env = (false, eval e X.env) :: starEach es X.env := by rfl) (hpl : (backTo pos (starEach es X.env)).any (·.1) = false := by rfl) : EW X (.Call (.Name x p) (e :: es) [] pos) σ H Q :=
  e_of (pe_callB hc hg hm hv a_pe hn hdb he hpl) h
theorem e_callT {p : Pos} {T : String} {r : List V → Hp → VK → Prop} (hc : CallR X (.type T) r) (hm : X.mg x = none) (hv : bootBuiltins x = some (.type T)) (h : AW X (e :: es) σ H fun vs H1 => r vs H1 Q) (hg : Gl X x := by rfl)
    (hn : x ≠ "__name__" := by decide) (hdb : (x == ("__debug__" : Str)) = false := by decide) (he : starEach (e :: es) X.env = (false, eval e X.env) :: starEach es X.env := by rfl) (hpl : (backTo pos (starEach es X.env)).any (·.1) = false := by rfl) : EW X (.Call (.Name x p) (e :: es) [] pos) σ H Q :=
  e_of (pe_callTy hc hg hm hv a_pe hn hdb he hpl) h
theorem e_bm {o : Expr} {name : Str} {apos cpos : Pos} {T id : String} {r : V → List V → Hp → VK → Prop} (pa : PlainAttrs T) (slot : Slot T name id) (hty : typeOf (.builtin id) = pure (.type "method_descriptor")) (hm : MtR X id r)
    (h : EW X o σ H fun y H1 => tyV X.K T y H1 ∧ AW X (e :: es) σ H1 fun ys H2 => r y ys H2 Q) (h1 : attributeBase o name X.env (eval o X.env) = eval o X.env := by rfl)
    (h2 : ((backTo cpos (starEach (e :: es) X.env)).all (fun x => !x.1) && (backToKw cpos (keywordEach [] X.env)).all (fun x => x.1.isSome) && decide ((e :: es).length + ([] : List Keyword).length + (if ([] : List Keyword).isEmpty then 0 else 1) < 30)) = true := by rfl)
    (h3 : (apos.endLine == cpos.line) = true := by rfl) (h4 : starEach (e :: es) X.env = (false, eval e X.env) :: starEach es X.env := by rfl) (h5 : (backTo cpos (starEach es X.env)).any (·.1) = false := by rfl) : EW X (.Call (.Attribute o name apos) (e :: es) [] cpos) σ H Q :=
  e_of (pe_bm pa slot hty hm e_pe a_pe h1 h2 h3 h4 h5) h
theorem e_bm0 {o : Expr} {name : Str} {apos cpos : Pos} {T id : String} {r : V → List V → Hp → VK → Prop} (pa : PlainAttrs T) (slot : Slot T name id) (hty : typeOf (.builtin id) = pure (.type "method_descriptor")) (hm : MtR X id r)
    (h : EW X o σ H fun y H1 => tyV X.K T y H1 ∧ r y [] H1 Q) (h1 : attributeBase o name X.env (eval o X.env) = eval o X.env := by rfl) (h3 : (apos.endLine == cpos.line) = true := by rfl) : EW X (.Call (.Attribute o name apos) [] [] cpos) σ H Q :=
  e_of (pe_bm0 pa slot hty hm e_pe h1 h3) h
theorem e_ix {r : R2} (hr : IxR X r) (h : EW X a σ H fun y H1 => EW X b σ H1 fun z H2 => r y z H2 Q) (hs : PlainIx b := by exact fun _ _ => rfl) : EW X (.Subscript a b pos) σ H Q := e_of (pe_ix hr e_pe e_pe hs) h
theorem s_ret (h : EW X e σ H D.rt) : SW X (.Return (some e) pos) D σ H := s_of (ps_ret e_pe) h
theorem s_expr (h : EW X e σ H fun _ H1 => D.nx σ H1) (hs : swapsWith e none pos.line X.env = pure false := by rfl) : SW X (.Expr e pos) D σ H := s_of (ps_expr e_pe hs) h
theorem s_if {A B : List Stmt} (h : TW X c σ H fun k H1 => if k = true then BW X A D σ H1 else BW X B D σ H1) : SW X (.If c A B pos) D σ H := s_of (ps_if t_pe b_pe b_pe) h
theorem b_nil (h : D.nx σ H) : BW X [] D σ H := b_of pss_nil h
theorem b_cons (h : SW X st { D with nx := fun σ' H' => BW X sts D σ' H' } σ H) : BW X (st :: sts) D σ H := b_of (pss_cons s_pe b_pe) h
theorem b_one (h : SW X st D σ H) : BW X [st] D σ H := b_of (pss_one s_pe) h
theorem s_set {i : Nat} {N : List Str} {pos' : Pos} (hN : X.N.Nodup) (hX : X.N = N) (hi : At N i x) (h : EW X e σ H fun v H1 => D.nx (σ.set i (some v)) H1) (hx : Loc X.env.scope x := by first | exact Or.inl rfl | exact Or.inr rfl)
    (hs : swapsWith e (some (.Name x pos')) pos.line X.env = pure false := by rfl) (hf : X.fn x = true ∨ X.env.scope.names.lookup x = some .local := by first | exact .inl rfl | exact .inr rfl | assumption) : SW X (.Assign [.Name x pos'] e pos) D σ H :=
  s_of (ps_set (i := i) hN (by rw [hX]; exact hi) hx e_pe hs hf) h
theorem s_asg {tg : Expr} (h : EW X e σ H fun v H1 => GW X tg v σ H1 D.nx) (hs : swapsWithSole [tg] e pos.line X.env = pure false := by rfl) (hw : swappedStores [tg] e X.env = pure none := by rfl) (h1 : (assignEach [tg] X.env).map (·.2) = [assign tg X.env] := by rfl) : SW X (.Assign [tg] e pos) D σ H :=
  s_of (ps_asg e_pe g_pe hs hw h1) h
theorem s_fld {o : Expr} {f : Str} {pos' : Pos} (h : EW X e σ H fun y H1 => EW X o σ H1 fun z H2 => ∃ a C dx fs, z = .ref a ∧ H2 a = some (.ins C dx fs) ∧ Cls X.K C ∧ NoAttr X.K C f ∧ fs.length < 1000 ∧ D.nx σ (upd H2 a (.ins C dx (putF f y fs))))
    (hs : swapsWith e (some (.Attribute o f pos')) pos.line X.env = pure false := by rfl) : SW X (.Assign [.Attribute o f pos'] e pos) D σ H := s_of (ps_fld e_pe e_pe hs) h
theorem g_nm {i : Nat} {N : List Str} {v : V} {n : St → Hp → Prop} (hN : X.N.Nodup) (hX : X.N = N) (hi : At N i x) (h : n (σ.set i (some v)) H) (hx : Loc X.env.scope x := by first | exact Or.inl rfl | exact Or.inr rfl)
    (hf : X.fn x = true ∨ X.env.scope.names.lookup x = some .local := by first | exact .inl rfl | exact .inr rfl | assumption) : GW X (.Name x pos) v σ H n := g_of (pg_name (i := i) hN (by rw [hX]; exact hi) hx hf) h
end
/-! ### what is walked -/
structure Wlk (J : It) (n : Nat) (S : Hp → Prop) (Y : Nat → Hp → V → Hp → Prop) : Prop where
  go : ∀ i H, S H → i < n → J.go i H
  yl : ∀ i H x H', S H → i < n → J.yld i H x H' → Y i H x H'
  st : ∀ i H, S H → n ≤ i → J.stop i H
def IW (X : Cx) (tg iter : Expr) (σ : St) (H : Hp) (k : Nat → (Hp → Prop) → (Nat → Hp → V → Hp → Prop) → Hp → Prop) : Prop :=
  ∃ wi, PI X tg iter wi ∧ ∀ R : It → Hp → Prop, (∀ J H1 n S Y, Wlk J n S Y → k n S Y H1 → R J H1) → wi σ H R
section
variable {X : Cx} {tg iter : Expr} {σ : St} {H : Hp} {k : Nat → (Hp → Prop) → (Nat → Hp → V → Hp → Prop) → Hp → Prop} {D : Ends} {pos : Pos} {body : List Stmt} {Q : VK}
theorem lt_some {α : Type} {xs : List α} {i : Nat} (h : i < xs.length) : ∃ x, xs[i]? = some x := ⟨xs[i], List.getElem?_eq_getElem h⟩
theorem i_list (h : EW X iter σ H fun y H1 => ∃ a xs, y = .ref a ∧ SqL X.K H1 a xs ∧ k xs.length (fun H' => SqL X.K H' a xs) (fun i H' x H2 => H2 = H' ∧ xs[i]? = some x) H1) : IW X tg iter σ H k :=
  ⟨_, pi_list e_pe, fun R hR => EW.mono h fun y H1 ⟨a, xs, e, hs, q⟩ => ⟨a, e, ⟨xs, hs⟩, hR _ _ xs.length _ _ ⟨fun i H' s hi => by
    obtain ⟨x, hx⟩ := lt_some hi
    exact ⟨xs, x, s, hx⟩, fun i H' x H2 s hi y => ⟨y.1, y.2 xs s⟩, fun i H' s hi => ⟨xs, s, hi⟩⟩ q⟩⟩
theorem i_tup (h : EW X iter σ H fun y H1 => ∃ a xs, y = .ref a ∧ SqT X.K H1 a xs ∧ k xs.length (fun H' => SqT X.K H' a xs) (fun i H' x H2 => H2 = H' ∧ xs[i]? = some x) H1) : IW X tg iter σ H k :=
  ⟨_, pi_tup e_pe, fun R hR => EW.mono h fun y H1 ⟨a, xs, e, hs, q⟩ => ⟨a, e, ⟨xs, hs⟩, hR _ _ xs.length _ _ ⟨fun i H' s hi => by
    obtain ⟨x, hx⟩ := lt_some hi
    exact ⟨xs, x, s, hx⟩, fun i H' x H2 s hi y => ⟨y.1, y.2 xs s⟩, fun i H' s hi => ⟨xs, s, hi⟩⟩ q⟩⟩
theorem i_str (h : EW X iter σ H fun y H1 => ∃ z, y = .str z ∧ k z.cps.size (fun _ => True) (fun i H' x H2 => H2 = H' ∧ ∃ c, z.cps[i]? = some c ∧ x = .str ⟨#[c]⟩) H1) : IW X tg iter σ H k :=
  ⟨_, pi_str e_pe, fun R hR => EW.mono h fun y H1 ⟨z, e, q⟩ => ⟨z, e, hR _ _ z.cps.size _ _ ⟨fun i H' _ hi => hi, fun i H' x H2 _ hi y => y, fun i H' _ hi => hi⟩ q⟩⟩
theorem AW.mono {es : List Expr} {Q Q' : List V → Hp → Prop} (h : AW X es σ H Q) (k : ∀ v H', Q v H' → Q' v H') : AW X es σ H Q' := fun p pins s I => thn (h p pins s I) fun v s' ⟨y, H', I', r, q⟩ => ⟨y, H', I', r, k _ _ q⟩
theorem i_range1 {a : Expr} {p : Pos} (hm : X.mg "range" = none) (h : AW X [a] σ H fun vs H1 => ∃ j : Int, vs = [.int j] ∧ -(2 ^ 62) ≤ j ∧ j < 2 ^ 62 ∧ k j.toNat (fun _ => True) (fun i H' x H2 => H2 = H' ∧ x = .int i) H1)
    (hg : Gl X "range" := by rfl) (hs : starEach [a] X.env = [(false, eval a X.env)] := by rfl) : IW X tg (.Call (.Name "range" p) [a] [] pos) σ H k :=
  ⟨_, pi_range1 hg hm a_pe hs, fun R hR => AW.mono h fun vs H1 ⟨j, e, h1, h2, q⟩ => ⟨j, e, h1, h2, hR _ _ j.toNat _ _ ⟨fun i H' _ hi => hi, fun i H' x H2 _ hi y => ⟨y.1, by rw [y.2, Int.zero_add]⟩, fun i H' _ hi => hi⟩ q⟩⟩
theorem i_range2 {a b : Expr} {p : Pos} (hm : X.mg "range" = none) (h : AW X [a, b] σ H fun vs H1 => ∃ i j : Int, vs = [.int i, .int j] ∧ (-(2 ^ 62) ≤ i ∧ i < 2 ^ 62 ∧ -(2 ^ 62) ≤ j ∧ j < 2 ^ 62) ∧ k (j - i).toNat (fun _ => True) (fun n H' x H2 => H2 = H' ∧ x = .int (i + n)) H1)
    (hg : Gl X "range" := by rfl) (hs : starEach [a, b] X.env = [(false, eval a X.env), (false, eval b X.env)] := by rfl) (hs2 : starEach [b] X.env = [(false, eval b X.env)] := by rfl) : IW X tg (.Call (.Name "range" p) [a, b] [] pos) σ H k :=
  ⟨_, pi_range2 hg hm a_pe hs hs2, fun R hR => AW.mono h fun vs H1 ⟨i, j, e, h1, q⟩ => ⟨i, j, e, h1, hR _ _ (j - i).toNat _ _ ⟨fun i H' _ hi => hi, fun i H' x H2 _ hi y => y, fun i H' _ hi => hi⟩ q⟩⟩
theorem i_zip {a b : Expr} {p tp : Pos} {elts : List Expr} {kk : Nat} (hm : X.mg "zip" = none) (h : AW X [a, b] σ H fun vs H1 => ∃ l m xs ys, vs = [.ref l, .ref m] ∧ SqL X.K H1 l xs ∧ SqL X.K H1 m ys ∧
      k (min xs.length ys.length) (fun H' => SqL X.K H' l xs ∧ SqL X.K H' m ys) (fun i H' v H2 => ∃ T x y, v = .ref T ∧ H' T = none ∧ H2 = upd H' T (.tup [x, y]) ∧ xs[i]? = some x ∧ ys[i]? = some y) H1)
    (hg : Gl X "zip" := by rfl) (hs : starEach [a, b] X.env = (false, eval a X.env) :: starEach [b] X.env := by rfl) (hpl : (backTo pos (starEach [b] X.env)).any (·.1) = false := by rfl) : IW X (.Tuple elts kk tp) (.Call (.Name "zip" p) [a, b] [] pos) σ H k :=
  ⟨_, pi_zip hg hm a_pe hs hpl, fun R hR => AW.mono h fun vs H1 ⟨l, m, xs, ys, e, h1, h2, q⟩ => ⟨l, m, xs, ys, e, h1, h2, hR _ _ (min xs.length ys.length) _ _ ⟨fun i H' s hi => by
    obtain ⟨x, hx⟩ := lt_some (show i < xs.length by omega)
    obtain ⟨y, hy⟩ := lt_some (show i < ys.length by omega)
    exact ⟨xs, ys, x, y, s.1, s.2, hx, hy⟩, fun i H' x H2 s hi y => by
    obtain ⟨T, x, y, e, n, eH, f, g⟩ := y
    exact ⟨T, x, y, e, n, eH, f _ s.1, g _ s.2⟩, fun i H' s hi => ⟨xs, ys, s.1, s.2, by omega⟩⟩ q⟩⟩
theorem s_for (h : IW X tg iter σ H fun n S Y H1 => ∃ Pv : Nat → St → Hp → Prop, Pv 0 σ H1 ∧ (∀ i σ' H', i ≤ n → Pv i σ' H' → S H') ∧
      (∀ i σ' H' x H2, i < n → Pv i σ' H' → Y i H' x H2 → GW X tg x σ' H2 fun σ3 H3 => BW X body { D with nx := Pv (i + 1), ct := Pv (i + 1), bk := D.nx } σ3 H3) ∧ ∀ σ' H', Pv n σ' H' → D.nx σ' H')
    (hp : PassesOwn (model X.prog X.w) X.A X.env X.xe := by first | exact PassesOwn.never | exact passes_of rfl | assumption) (hc : X.calm = true := by rfl) (hs : ∀ x, foldedSetIterable iter X.env x = pure x := by intro _; rfl) : SW X (.For tg iter body [] pos) D σ H := by
  obtain ⟨wi, p, q⟩ := h
  refine s_of (ps_for hp hc p g_pe b_pe hs) (q _ fun J H1 n S Y w hk => ?_)
  obtain ⟨Pv, h0, hS, ht, hd⟩ := hk
  refine ⟨fun i m σ' H' => m = n - i ∧ i ≤ n ∧ Pv i σ' H', ⟨n, by simp, Nat.zero_le _, h0⟩, ?_⟩
  rintro i m σ' H' ⟨rfl, hi, pv⟩
  have s := hS i σ' H' hi pv
  by_cases hlt : i < n
  · refine .inr ⟨w.go i H' s hlt, Pv (i + 1), fun σ2 H2 p2 => ⟨n - (i + 1), by omega, rfl, hlt, p2⟩, fun x H2 y => ?_⟩
    exact ht i σ' H' x H2 hlt pv (w.yl i H' x H2 s hlt y)
  · have e : i = n := by omega
    subst e
    exact .inl ⟨w.st i H' s (Nat.le_refl _), hd σ' H' pv⟩
/-- the contexts of a comprehension's block -/
def IsBlk (X : Cx) (scope : Scope) (X' : Cx) : Prop := ∃ (s : Shared) (H : Hp) (C : Addr) (cl : List (Str × Addr)) (fp : List Addr), X' = X.blk s H scope (compEnvC scope cl C X.env) fp
/-- the tests of a clause: none or one -/
def IfsW (X : Cx) (ifs : List Expr) (σ : St) (H : Hp) (R : Bool → Hp → Prop) : Prop := match ifs with
  | [] => R true H
  | [c] => TW X c σ H R
  | _ => False
theorem ifs_pe {X : Cx} {ifs : List Expr} {t : TT} (h : ∀ σ H R, t σ H R → IfsW X ifs σ H R) : PTs X ifs t := ⟨fun pins s σ H Q I q => by
  have z := h σ H Q q
  match ifs, z with
  | [], z => exact (pts_nil (X := X)).run pins s σ H Q I z
  | [c], z => exact (pts_one (X := X) (c := c) t_pe).run pins s σ H Q I z⟩
/-- a list comprehension of one clause: what must hold -/
def LcW (X : Cx) (elt tg iter : Expr) (ifs : List Expr) (scope : Scope) (own : List (Str × Nat)) (σ : St) (H : Hp) (Q : VK) : Prop :=
  IW X tg iter σ H fun n S Y H1 => ∀ L, H1 L = none → ∃ Pv : Nat → Hp → Prop, Pv 0 (upd H1 L (.lst [])) ∧ (∀ i H', i ≤ n → Pv i H' → S H') ∧
      (∀ i H' x H2, i < n → Pv i H' → Y i H' x H2 → ∀ X', IsBlk X scope X' → GW X' tg x (wipe σ (own.map (·.2))) H2 fun σ3 H3 => wipe σ3 (own.map (·.2)) = wipe σ (own.map (·.2)) ∧
        ∀ X', IsBlk X scope X' → IfsW X' ifs σ3 H3 fun b H4 => if b = true then ∀ X', IsBlk X scope X' → EW X' elt σ3 H4 fun y H5 => ∃ acc, H5 L = some (.lst acc) ∧ acc.length < sizeLine ∧ Pv (i + 1) (upd H5 L (.lst (acc ++ [y]))) else Pv (i + 1) H4) ∧
      ∀ H', Pv n H' → Q (.ref L) H'
theorem lc_of {elt : Expr} {ifs : List Expr} {scope : Scope} {own : List (Str × Nat)} (h : LcW X elt tg iter ifs scope own σ H Q) :
    ∃ wi, PI X tg iter wi ∧ tLc wi (fun v σ H N => ∀ X', IsBlk X scope X' → GW X' tg v σ H N) (fun σ H R => ∀ X', IsBlk X scope X' → IfsW X' ifs σ H R) (fun σ H Q => ∀ X', IsBlk X scope X' → EW X' elt σ H Q) (own.map (·.2)) σ H Q := by
  obtain ⟨wi, p, q⟩ := h
  refine ⟨wi, p, q _ fun J H1 n S Y w hk L hL => ?_⟩
  obtain ⟨Pv, h0, hS, ht, hd⟩ := hk L hL
  refine ⟨fun i m H' => m = n - i ∧ i ≤ n ∧ Pv i H', ⟨n, by simp, Nat.zero_le _, h0⟩, ?_⟩
  rintro i m H' ⟨rfl, hi, pv⟩
  have s := hS i H' hi pv
  by_cases hlt : i < n
  · refine .inr ⟨w.go i H' s hlt, Pv (i + 1), fun H2 p2 => ⟨n - (i + 1), by omega, rfl, hlt, p2⟩, fun x H2 y => ?_⟩
    exact ht i H' x H2 hlt pv (w.yl i H' x H2 s hlt y)
  · have e : i = n := by omega
    subst e
    exact .inl ⟨w.st i H' s (Nat.le_refl _), hd H' pv⟩
theorem isblk (s : Shared) (H : Hp) (scope : Scope) (C : Addr) (cl : List (Str × Addr)) (fp : List Addr) : IsBlk X scope (X.blk s H scope (compEnvC scope cl C X.env) fp) := ⟨s, H, C, cl, fp, rfl⟩
theorem e_lc {elt : Expr} {ifs : List Expr} {scope : Scope} {own : List (Str × Nat)} (hN : X.N.Nodup) (ok : blkC X.N X.env.scope scope own = true) (h : LcW X elt tg iter ifs scope own σ H Q)
    (hc : X.calm = true := by rfl) (hs : ∀ x, foldedSetIterable iter X.env x = pure x := by intro _; rfl) : EW X (.ListComp elt [⟨tg, iter, ifs, 0⟩] scope pos) σ H Q := by
  obtain ⟨wi, p, q⟩ := lc_of h
  exact e_of (pe_lc (own := own) (g := fun v σ H N => ∀ X', IsBlk X scope X' → GW X' tg v σ H N) (tt := fun σ H R => ∀ X', IsBlk X scope X' → IfsW X' ifs σ H R) (te := fun σ H Q => ∀ X', IsBlk X scope X' → EW X' elt σ H Q)
    hc hN p (blkOk_by ok) (fun s H C cl fp => ⟨fun pins s' σ H v u Q I r z => z _ (isblk _ _ _ _ _ _) pins s' u I r⟩) (fun s H C cl fp => ifs_pe fun σ H R z => z _ (isblk _ _ _ _ _ _)) (fun s H C cl fp => ⟨fun pins s' σ H Q I z => z _ (isblk _ _ _ _ _ _) pins s' I⟩) hs) q
/-- y = [..] -/
theorem s_lc {elt : Expr} {ifs : List Expr} {scope : Scope} {own : List (Str × Nat)} {i : Nat} {y : Str} {py spos : Pos} {N : List Str} (hN : X.N.Nodup) (hX : X.N = N) (hi : At N i y) (ok : blkC X.N X.env.scope scope own = true)
    (h : LcW X elt tg iter ifs scope own σ H fun v H1 => D.nx (σ.set i (some v)) H1) (hyl : X.env.scope.names.lookup y = some .local := by rfl)
    (hsw : swapsWith (.ListComp elt [⟨tg, iter, ifs, 0⟩] scope pos) (some (.Name y py)) spos.line X.env = pure true := by exact sw_true rfl rfl rfl (by decide +kernel))
    (hc : X.calm = true := by rfl) (hs : ∀ x, foldedSetIterable iter X.env x = pure x := by intro _; rfl) : SW X (.Assign [.Name y py] (.ListComp elt [⟨tg, iter, ifs, 0⟩] scope pos) spos) D σ H := by
  obtain ⟨wi, p, q⟩ := lc_of h
  exact s_of (ps_setLc (i := i) (own := own) (g := fun v σ H N => ∀ X', IsBlk X scope X' → GW X' tg v σ H N) (tt := fun σ H R => ∀ X', IsBlk X scope X' → IfsW X' ifs σ H R) (te := fun σ H Q => ∀ X', IsBlk X scope X' → EW X' elt σ H Q)
    hc hN (by rw [hX]; exact hi) hyl hsw p (blkOk_by ok) (fun s H C cl fp => ⟨fun pins s' σ H v u Q I r z => z _ (isblk _ _ _ _ _ _) pins s' u I r⟩) (fun s H C cl fp => ifs_pe fun σ H R z => z _ (isblk _ _ _ _ _ _)) (fun s H C cl fp => ⟨fun pins s' σ H Q I z => z _ (isblk _ _ _ _ _ _) pins s' I⟩) hs) q
/-- a, b = c, d -/
theorem s_par {i j : Nat} {x y : Str} {a b : Expr} {px py pt : Pos} {kt k2 pt2} {N : List Str} (hN : X.N.Nodup) (hX : X.N = N) (hi : At N i x) (hj : At N j y) (hij : i ≠ j) (h : AW X [a, b] σ H fun vs H1 => ∃ v w, vs = [v, w] ∧ D.nx ((σ.set i (some v)).set j (some w)) H1)
    (hx : X.env.scope.names.lookup x = some .local := by rfl) (hy : X.env.scope.names.lookup y = some .local := by rfl) (hw : swappedStores [.Tuple [.Name x px, .Name y py] kt pt] (.Tuple [a, b] k2 pt2) X.env = pure (some [x, y]) := by rfl)
    (hs : swapsWithSole [.Tuple [.Name x px, .Name y py] kt pt] (.Tuple [a, b] k2 pt2) pos.line X.env = pure false := by rfl) (hc : X.calm = true := by rfl) : SW X (.Assign [.Tuple [.Name x px, .Name y py] kt pt] (.Tuple [a, b] k2 pt2) pos) D σ H :=
  s_of (ps_par (i := i) (j := j) hc hN (by rw [hX]; exact hi) (by rw [hX]; exact hj) hij hx hy a_pe hw hs) h
/-- the ends, from stronger ones -/
structure EndsLe (D D' : Ends) : Prop where
  nx : ∀ σ H, D.nx σ H → D'.nx σ H
  rt : ∀ v H, D.rt v H → D'.rt v H
  bk : ∀ σ H, D.bk σ H → D'.bk σ H
  ct : ∀ σ H, D.ct σ H → D'.ct σ H
theorem sp_mono {X : Cx} {pins : List (Addr × Obj)} {D D' : Ends} (k : EndsLe D D') {fl : Flow} {s : Shared} (h : SP X pins D fl s) : SP X pins D' fl s := by
  cases fl with
  | next => exact let ⟨σ', H', I, q⟩ := h; ⟨σ', H', I, k.nx _ _ q⟩
  | brk => exact let ⟨σ', H', I, q⟩ := h; ⟨σ', H', I, k.bk _ _ q⟩
  | cont => exact let ⟨σ', H', I, q⟩ := h; ⟨σ', H', I, k.ct _ _ q⟩
  | ret u => exact let ⟨v, σ', H', I, r, q⟩ := h; ⟨v, σ', H', I, r, k.rt _ _ q⟩
theorem SW.mono {st : Stmt} {D' : Ends} (h : SW X st D σ H) (k : EndsLe D D') : SW X st D' σ H := fun pins s I => thn (h pins s I) fun _ _ q => sp_mono k q
theorem BW.mono {st : List Stmt} {D' : Ends} (h : BW X st D σ H) (k : EndsLe D D') : BW X st D' σ H := fun pins s I => thn (h pins s I) fun _ _ q => sp_mono k q
theorem nx_le {R : St → Hp → Prop} (k : ∀ σ H, R σ H → D.nx σ H) : EndsLe { D with nx := R } D := ⟨k, fun _ _ q => q, fun _ _ q => q, fun _ _ q => q⟩
/-- if, whose ways meet in R -/
theorem s_ifJ {c : Expr} {A B : List Stmt} (R : St → Hp → Prop) (h : TW X c σ H fun k H1 => if k = true then BW X A { D with nx := R } σ H1 else BW X B { D with nx := R } σ H1) (k : ∀ σ' H', R σ' H' → D.nx σ' H') : SW X (.If c A B pos) D σ H :=
  SW.mono (s_if h) (nx_le k)
/-- a statement that ends in R -/
theorem s_cut {st : Stmt} (R : St → Hp → Prop) (h : SW X st { D with nx := R } σ H) (k : ∀ σ' H', R σ' H' → D.nx σ' H') : SW X st D σ H := SW.mono h (nx_le k)
end
end L2.Z

set_option maxHeartbeats 4000000
namespace L2.Z
open PySem PySem.Spec PyProof.Rows PySem.ZX
/-- an exception object at a, of the class at C, its dict at d -/
def exT (a C d : Addr) : HO := .ext fun h => ∃ (o : Obj) (vs : Array Value), h.get? a = some o ∧ o.cls = .ref C ∧ o.dict = some d ∧ o.data = .fields vs
theorem exT_ok {P : Program} {w : World} {H : Hp} {h : Heap} {a C d : Addr} {o : Obj} {vs : Array Value} (e : h.get? a = some o) (e1 : o.cls = .ref C) (e2 : o.dict = some d) (e3 : o.data = .fields vs) : ObjOk P w H h a (exT a C d) :=
  ⟨⟨o, vs, e, e1, e2, e3⟩, ⟨o, e⟩, fun h1 h2 z k => by
    obtain ⟨o, vs, q1, q2, q3, q4⟩ := z
    exact ⟨o, vs, k _ q1, q2, q3, q4⟩⟩
theorem exT_at {P : Program} {w : World} {H : Hp} {h : Heap} {a C d : Addr} (hok : HOk P w H h) (e : H a = some (exT a C d)) : ∃ (o : Obj) (vs : Array Value), h.get? a = some o ∧ o.cls = .ref C ∧ o.dict = some d ∧ o.data = .fields vs := by
  have x : ObjOk P w H h a (.ext fun h => ∃ (o : Obj) (vs : Array Value), h.get? a = some o ∧ o.cls = .ref C ∧ o.dict = some d ∧ o.data = .fields vs) := hok a _ e
  exact x.1
/-- an exception object without a dict of its own -/
def exN (a C : Addr) : HO := .ext fun h => ∃ (o : Obj) (vs : Array Value), h.get? a = some o ∧ o.cls = .ref C ∧ o.dict = none ∧ o.data = .fields vs
theorem exN_ok {P : Program} {w : World} {H : Hp} {h : Heap} {a C : Addr} {o : Obj} {vs : Array Value} (e : h.get? a = some o) (e1 : o.cls = .ref C) (e2 : o.dict = none) (e3 : o.data = .fields vs) : ObjOk P w H h a (exN a C) :=
  ⟨⟨o, vs, e, e1, e2, e3⟩, ⟨o, e⟩, fun h1 h2 ⟨o, vs, q1, q2⟩ k => ⟨o, vs, k _ q1, q2⟩⟩
theorem exN_at {P : Program} {w : World} {H : Hp} {h : Heap} {a C : Addr} (hok : HOk P w H h) (e : H a = some (exN a C)) : ∃ (o : Obj) (vs : Array Value), h.get? a = some o ∧ o.cls = .ref C ∧ o.dict = none ∧ o.data = .fields vs := by
  have x : ObjOk P w H h a (.ext fun h => ∃ (o : Obj) (vs : Array Value), h.get? a = some o ∧ o.cls = .ref C ∧ o.dict = none ∧ o.data = .fields vs) := hok a _ e
  exact x.1
theorem xd_at {P : Program} {w : World} {H : Hp} {h : Heap} {d : Addr} {fs : List (Str × V)} (hok : HOk P w H h) (e : H d = some (.xd fs)) : ∃ mA, h.Ns1 d mA ∧ ∀ f, RelO (fs.lookup f) (mA f) := hok d _ e
/-- two new objects laid and tracked -/
theorem laid2 {X : Cx} {pins : List (Addr × Obj)} {σ : St} {H : Hp} {s : Shared} {h' : Heap} {t' : Nat} {a d : Addr} {oa od : HO} (I : Inv X pins σ H s) (k : ∀ b u, s.heap.get? b = some u → h'.get? b = some u)
    (ga : s.heap.get? a = none) (gd : s.heap.get? d = none) (na : H a = none) (nd : H d = none)
    (n1 : ObjOk X.prog X.w (upd (upd H d od) a oa) h' a oa) (n2 : d ≠ a → ObjOk X.prog X.w (upd (upd H d od) a oa) h' d od) : Inv X pins σ (upd (upd H d od) a oa) { s with heap := h', toks := t' } := by
  have ne : ∀ {b : Addr} {o : Obj}, s.heap.get? b = some o → b ≠ a ∧ b ≠ d := fun {b o} q => ⟨fun z => (by rw [z, ga] at q; cases q), fun z => (by rw [z, gd] at q; cases q)⟩
  have nh : ∀ {b : Addr} {u : HO}, H b = some u → b ≠ a ∧ b ≠ d := fun {b u} q => ⟨fun z => (by rw [z, na] at q; cases q), fun z => (by rw [z, nd] at q; cases q)⟩
  refine I.un (t' := t') (H' := upd (upd H d od) a oa) (h' := h') ⟨fun b o q _ _ _ => k b o q, fun b o q _ _ _ => ⟨o.slots, k b o q⟩, fun b o q n _ => by rw [upd_ne (ne q).1, upd_ne (ne q).2]; exact n, fun b o q _ => ⟨o, k b o q⟩, fun b xs q => by rw [upd_ne (nh q).1, upd_ne (nh q).2]; exact q,
    fun b o u q => by rw [upd_ne (nh q).1, upd_ne (nh q).2]; exact q, fun b ps q => ⟨#[], by rw [upd_ne (nh q).1, upd_ne (nh q).2, q]; simp⟩⟩ fun b u q => ?_
  by_cases hb : b = a
  · subst hb
    rw [upd_same] at q
    cases q
    exact n1
  · rw [upd_ne hb] at q
    by_cases hd : b = d
    · subst hd
      rw [upd_same] at q
      cases q
      exact n2 hb
    · rw [upd_ne hd] at q
      exact (I.hok b u q).stay (fun c v _ z => k c v z) (fun c z => by rw [upd_ne (nh z).1, upd_ne (nh z).2]; exact z) fun c xs z => by rw [upd_ne (nh z).1, upd_ne (nh z).2]; exact z
/-- what is known of an exception class, to make, read and ask its instances -/
structure ExK (P : Program) (K : PySem.W.Frag) (mg : Str → Option Value) (nm fld qual : Str) (C fI : Addr) : Prop where
  g : mg nm = some (.ref C)
  t : ExT P K fld qual C fI
  iC : PySem.W.findIn K (.ref C) "__init__" = some (some (.ref fI))
  tI : PySem.W.typeIn K (.ref fI) = some (.type "function")
  dfl : ∀ o fd, K.lookup fI = some o → o.data = .func fd → ∃ (T : Addr) (oT : Obj) (n : Nat), fd.defaults = .ref T ∧ K.lookup T = some oT ∧ oT.data = .seq #[.none] n
  kC : PySem.W.keepIn K (.ref C) = true
  ex : ExcC K C
  tyC : PySem.W.typeIn K (.ref C) = some (.type "type")
theorem ve_has {bm : List Value} (hbm : PySem.HandSPX.refsVE bm = true) (X : String) : bm.contains (.type X) = PySem.HandSPX.veTail.contains (.type X) := PySem.HandSPX.refsVE_contains X bm hbm
section
variable {X : Cx} {pins : List (Addr × Obj)} {σ : St} {H : Hp} {s : Shared} {nm fld qual : Str} {C fI : Addr} {k : Nat}
/-- C(..): a new exception object, its dict -/
theorem exc_call {us : List Value} {kw : List (Str × Value)} {v : V} {u : Value} {Q : Value → Shared → Prop} {E : Value → Shared → Prop} (T : ExK X.prog X.K X.mg nm fld qual C fI) (hr : Room k X.A) (I : Inv X pins σ H s) (rv : RelV v u)
    (ha : (us = [u] ∧ kw = []) ∨ (us = [] ∧ kw = [] ∧ u = .none) ∨ (us = [] ∧ kw = [(fld, u)]))
    (h : ∀ a d s', H a = none → H d = none → d ≠ a → s.heap.get? a = none → (∀ b o, s.heap.get? b = some o → s'.heap.get? b = some o) →
      (∃ o vs, s'.heap.get? a = some o ∧ o.cls = .ref C ∧ o.dict = some d ∧ o.data = .fields vs ∧ vs[1]? = some .none) → s'.os = s.os → s'.gens = s.gens →
      (∃ mA, s'.heap.Ns1 d mA ∧ ∀ f, RelO (List.lookup f [(fld, v)]) (mA f)) → s.heap.get? d = none → Inv X pins σ (upd (upd H d (.xd [(fld, v)])) a (exT a C d)) s' → Q (.ref a) s') :
    wpAny (model X.prog X.w) X.A (call (.ref C) us kw) Q E s := by
  obtain ⟨nmc, q, N, bs, bm, sn, sub, ab, col, dd, k0, k1, k2, k3, k5, hC, hbm⟩ := T.t.cls
  obtain ⟨mb, hb1, hb2⟩ := I.mod.blt
  have hlim := I.nolimit
  have hgl := I.mod.glob.keeps I.bk
  have hbl := hb1.keeps I.bk
  have X0 := I.kIn
  obtain ⟨hp, g, dr, tk, os⟩ := s
  have hl : us.length ≤ sizeLine := by
    rw [sizeLine_eq]
    rcases ha with ⟨rfl, _⟩ | ⟨rfl, _⟩ | ⟨rfl, _⟩ <;> simp
  have hkw : kw = [] ∨ ∃ f u, kw = [(f, u)] := by
    rcases ha with ⟨_, rfl⟩ | ⟨_, rfl, _⟩ | ⟨_, rfl⟩
    · exact .inl rfl
    · exact .inl rfl
    · exact .inr ⟨_, _, rfl⟩
  have kk : ∀ b o, hp.get? b = some o → ((hp.push (PySem.W.kdv_tup us)).push (PySem.HandSPX.excO C hp.objs.size)).get? b = some o := fun b o e => Heap.get?_push_of_some _ (Heap.get?_push_of_some _ e)
  have hget : ((hp.push (PySem.W.kdv_tup us)).push (PySem.HandSPX.excO C hp.objs.size)).get? (hp.objs.size + 1) = some (PySem.HandSPX.excO C hp.objs.size) := by heap_get
  have ga : hp.get? (hp.objs.size + 1) = none := Heap.get?_none_of_le (Nat.le_succ _)
  have na : H (hp.objs.size + 1) = none := I.hok.fresh (Nat.le_succ _)
  have hnx : X.K.lookup (hp.objs.size + 1) = none := by
    cases e : X.K.lookup (hp.objs.size + 1) with
    | none => rfl
    | some o =>
      have z : hp.get? (hp.objs.size + 1) = some o := X0 _ _ e
      rw [ga] at z
      cases z
  have hxC : hp.objs.size + 1 ≠ C := fun z => by
    have y := X0 _ _ hC
    rw [← z] at y
    have y' : hp.get? (hp.objs.size + 1) = _ := y
    rw [ga] at y'
    cases y'
  refine wpAny_call (callK (ve_has hbm) hkw (X0 _ _ hC) (PySem.W.looks_findIn X0 T.iC) (fun self => PySem.W.bind_fn X0 self T.tI) hl ?_)
  refine init_ok (s := ⟨(hp.push (PySem.W.kdv_tup us)).push (PySem.HandSPX.excO C hp.objs.size), g, dr, tk, os⟩) (v := u) T.t (X0.keeps kk) (hlim.keeps kk) (hgl.keeps kk) (hbl.keeps kk) hb2 hget hxC hnx ?_ ?_ ?_
  · have mk := make_depth (A := X.A) (C := C) (us := us) (kw := kw); rw [mk]
    have := hr.dp
    omega
  · intro fd hfd
    obtain ⟨o, lo, od⟩ := hfd
    obtain ⟨oc, odd, dV, kV, doc, pm, an, cda, ct, cc, osl, p1, p2, p3, q1, q2, q3, q4, q5, q6, q7, q8, q9, q10, cl, ccl, cld, cdd, csl, ccs, vs, file, tf, ho, _⟩ := T.t.fn
    rw [ho] at lo
    cases lo
    cases od
    obtain ⟨Td, oT, n, e1, lT, oTd⟩ := T.dfl _ _ ho rfl
    obtain rfl : dV = .ref Td := e1
    refine BindsTo.of_looks fun M => ?_
    rcases ha with ⟨rfl, rfl⟩ | ⟨rfl, rfl, rfl⟩ | ⟨rfl, rfl⟩
    · obtain ⟨k, e1, e2⟩ := bind2 (qual := qual) (kV := kV) (doc := doc) (pm := pm) (an := an) (cdv := .ref cda) (ct := ct) (cc := cc) (T := Td) (p1 := p1) (p2 := p2) (p3 := p3) (body := xB fld q1 q2 q3 q4 q5 q6 q7 q8 q9 q10) T.t.fl (.ref (hp.objs.size + 1)) u .none
      rw [e1]
      exact looks_items (X0.keeps kk) lT oTd (.of_pure e2)
    · obtain ⟨k, e1, e2⟩ := bind1 (qual := qual) (kV := kV) (doc := doc) (pm := pm) (an := an) (cdv := .ref cda) (ct := ct) (cc := cc) (T := Td) (p1 := p1) (p2 := p2) (p3 := p3) (body := xB fld q1 q2 q3 q4 q5 q6 q7 q8 q9 q10) T.t.fl (.ref (hp.objs.size + 1)) .none
      rw [e1]
      exact looks_items (X0.keeps kk) lT oTd (.of_pure e2)
    · obtain ⟨k, e1, e2⟩ := bindk (qual := qual) (kV := kV) (doc := doc) (pm := pm) (an := an) (cdv := .ref cda) (ct := ct) (cc := cc) (T := Td) (p1 := p1) (p2 := p2) (p3 := p3) (body := xB fld q1 q2 q3 q4 q5 q6 q7 q8 q9 q10) T.t.fl (.ref (hp.objs.size + 1)) u .none
      rw [e1]
      exact looks_items (X0.keeps kk) lT oTd (.of_pure e2)
  · intro h' tk' dx t1 Z
    have old : ∀ b o, hp.get? b = some o → h'.get? b = some o := fun b o e => Z.keep b o (fun z => by rw [z, ga] at e; cases e) (kk b o e)
    have dz : hp.objs.size + 1 + 1 ≤ dx := by
      have q := Z.dbig
      rw [Heap.size_push, Heap.size_push] at q
      exact q
    have gd : hp.get? dx = none := Heap.get?_none_of_le (Nat.le_trans (Nat.le_succ _) (Nat.le_trans (Nat.le_succ _) dz))
    have nd : H dx = none := I.hok.fresh (Nat.le_trans (Nat.le_succ _) (Nat.le_trans (Nat.le_succ _) dz))
    have rel : ∀ f, RelO (List.lookup f [(fld, v)]) (if f = fld then some u else none) := fun f => by
      by_cases e : f = fld
      · subst e
        rw [if_pos rfl]
        have q : List.lookup f [(f, v)] = some v := by simp [List.lookup]
        rw [q]
        exact rv
      · rw [if_neg e]
        have qe : (f == fld) = false := by simpa using e
        have q : List.lookup f [(fld, v)] = none := by simp [List.lookup, qe]
        rw [q]
        trivial
    have hd : ∃ mA, h'.Ns1 dx mA ∧ ∀ f, RelO (List.lookup f [(fld, v)]) (mA f) := ⟨_, Z.ns, rel⟩
    refine ⟨rfl, ?_⟩
    exact h (hp.objs.size + 1) dx ⟨h', g, dr, tk', os⟩ na nd Z.dne ga old ⟨_, _, Z.obj, rfl, rfl, rfl, rfl⟩ rfl rfl hd gd
      (laid2 (t' := tk') I old ga gd na nd (exT_ok Z.obj rfl rfl rfl) (fun _ => hd))
end
end L2.Z

set_option maxHeartbeats 4000000
namespace L2.Z
open PySem PySem.Spec PyProof.Rows PySem.ZX
section
variable {X : Cx} {σ : St} {H : Hp} {Q : VK} {nm fld qual : Str} {C fI : Addr} {k : Nat} {e : Expr} {p pos : Pos}
/-- a new exception of the class at C, its field v -/
def NewEx (C : Addr) (fld : Str) (v : V) (H : Hp) (Q : VK) : Prop := ∀ a d, H a = none → H d = none → d ≠ a → Q (.ref a) (upd (upd H d (.xd [(fld, v)])) a (exT a C d))
theorem e_ex1 (T : ExK X.prog X.K X.mg nm fld qual C fI) (hr : Room k X.A) (h : EW X e σ H fun v H1 => NewEx C fld v H1 Q) (hg : Gl X nm := by rfl) (hdb : (nm == ("__debug__" : Str)) = false := by decide)
    (he : starEach [e] X.env = (false, eval e X.env) :: starEach [] X.env := by rfl) (hpl : (backTo pos (starEach [] X.env)).any (·.1) = false := by rfl) : EW X (.Call (.Name nm p) [e] [] pos) σ H Q := by
  intro pins s I
  refine wpAny_Call_Name_kw (ld_glob I hg T.g ?_ hdb)
  refine PySem.W.callWith_K (h₀ := X.base) I.ok.mod.kin T.kC ?_ he hpl
  rw [he]
  show wpAny _ _ (spliced ((false, eval e X.env) :: backTo pos (starEach [] X.env))) _ _ s
  refine Calls.spliced_cons (thn (h pins s I) fun u s1 ⟨v, H1, I1, r1, q1⟩ => ?_)
  refine Calls.spliced_nil ⟨I1.kIn, ?_⟩
  exact exc_call T hr I1 r1 (.inl ⟨rfl, rfl⟩) fun a d s' na nd ne _ _ _ _ _ _ _ J => ⟨.ref a, _, J, rfl, q1 a d na nd ne⟩
theorem e_ex0 (T : ExK X.prog X.K X.mg nm fld qual C fI) (hr : Room k X.A) (h : NewEx C fld .non H Q) (hg : Gl X nm := by rfl) (hdb : (nm == ("__debug__" : Str)) = false := by decide) : EW X (.Call (.Name nm p) [] [] pos) σ H Q := by
  intro pins s I
  refine wpAny_Call_Name_kw (ld_glob I hg T.g ?_ hdb)
  refine PySem.W.callWith_K0 I.kIn T.kC ?_
  exact exc_call (v := .non) (u := .none) T hr I rfl (.inr (.inl ⟨rfl, rfl, rfl⟩)) fun a d s' na nd ne _ _ _ _ _ _ _ J => ⟨.ref a, _, J, rfl, h a d na nd ne⟩
theorem e_exk {kp : Pos} (T : ExK X.prog X.K X.mg nm fld qual C fI) (hr : Room k X.A) (h : EW X e σ H fun v H1 => NewEx C fld v H1 Q) (hg : Gl X nm := by rfl) (hdb : (nm == ("__debug__" : Str)) = false := by decide)
    (hall : (backToKw pos (keywordEach [⟨some fld, e, kp⟩] X.env)).all (·.1.isSome) = true := by rfl) (hks : (backToKw pos (keywordEach [⟨some fld, e, kp⟩] X.env)).filterMap (·.1) = [fld] := by rfl)
    (hpl : ((backTo pos (starEach [] X.env)).any (·.1) || (backToKw pos (keywordEach [⟨some fld, e, kp⟩] X.env)).any (·.1.isNone)) = false := by rfl) : EW X (.Call (.Name nm p) [] [⟨some fld, e, kp⟩] pos) σ H Q := by
  intro pins s I
  refine wpAny_Call_Name_kw (ld_glob I hg T.g ?_ hdb)
  refine PySem.W.callWith_KW0 (h₀ := X.base) I.ok.mod.kin T.kC hall ?_ hpl
  refine thn ((k_cons (X := X) (nm := some fld) (kp := kp) (Q := fun vs H1 => ∃ v, vs = [v] ∧ NewEx C fld v H1 Q) (EW.mono h fun v H1 q => k_nil ⟨v, rfl, q⟩)) pos pins s I) fun us s1 ⟨vs, H1, I1, r1, q1⟩ => ⟨I1.kIn, ?_⟩
  obtain ⟨v, rfl, q1⟩ := q1
  obtain ⟨u, rfl, rv⟩ := vals1 r1
  rw [hks]
  exact exc_call T hr I1 rv (.inr (.inr ⟨rfl, rfl⟩)) fun a d s' na nd ne _ _ _ _ _ _ _ J => ⟨.ref a, _, J, rfl, q1 a d na nd ne⟩
/-- C(), a class without an __init__ of its own -/
theorem e_exN (he : PySem.W.excIn X.K C He.veBase "ValueError.__new__" = true) (gm : X.mg nm = some (.ref C)) (kC : PySem.W.keepIn X.K (.ref C) = true) (h : ∀ a, H a = none → Q (.ref a) (upd H a (exN a C))) (hg : Gl X nm := by rfl) (hdb : (nm == ("__debug__" : Str)) = false := by decide) : EW X (.Call (.Name nm p) [] [] pos) σ H Q := by
  intro pins s I
  refine wpAny_Call_Name_kw (ld_glob I hg gm ?_ hdb)
  refine PySem.W.callWith_K0 I.kIn kC ?_
  obtain ⟨bm, N, nmc, qn, bs, hdct, sn, sub, ab, col, dd, k0, k1, k2, k3, k5, mN, hC, hN, hni, T⟩ := exc_obj I.kIn he
  obtain ⟨hp, g, dr, tk, os⟩ := s
  refine wpAny_call_exc_subT PySem.F.excBase_ValueError T hC hN hni (fun h' e hm => ?_) (by show 0 ≤ sizeLine; omega)
  obtain ⟨t, o1, _, _⟩ := hm.there
  exact ⟨.ref e, _, I.laidN (t' := tk) hm.keeps hm.new (I.hok.gone hm.new) (exN_ok o1 rfl rfl rfl), rfl, h e (I.hok.gone hm.new)⟩
/-- raise C(e) -/
theorem s_raise1 {D : Ends} {W : WX} {rp : Pos} (T : ExK X.prog X.K X.mg nm fld qual C fI) (hr : Room k X.A) (tk : Takes X W) (h : EW X e σ H fun v H1 => ∀ d, H1 d = none → W (.ref C) (some d) σ (upd H1 d (.xd [(fld, v)]))) (hc : X.calm = true := by rfl) (hg : Gl X nm := by rfl) (hdb : (nm == ("__debug__" : Str)) = false := by decide)
    (he : starEach [e] X.env = (false, eval e X.env) :: starEach [] X.env := by rfl) (hpl : (backTo pos (starEach [] X.env)).any (·.1) = false := by rfl) : SW X (.Raise (some (.Call (.Name nm p) [e] [] pos)) none rp) D σ H := by
  have mk : PMk X (.Call (.Name nm p) [e] [] pos) (fun σ H E => EW X e σ H fun v H1 => ∀ d, H1 d = none → E (.ref C) (some d) (upd H1 d (.xd [(fld, v)]))) := by
    intro pins s σ H E I h
    refine wpAny_Call_Name_kw (ld_glob I hg T.g ?_ hdb)
    refine PySem.W.callWith_K (h₀ := X.base) I.ok.mod.kin T.kC ?_ he hpl
    rw [he]
    show wpAny _ _ (spliced ((false, eval e X.env) :: backTo pos (starEach [] X.env))) _ _ s
    refine Calls.spliced_cons (thn (h pins s I) fun u s1 ⟨v, H1, I1, r1, q1⟩ => ?_)
    refine Calls.spliced_nil ⟨I1.kIn, ?_⟩
    refine exc_call T hr I1 r1 (.inl ⟨rfl, rfl⟩) fun a d s' na nd ne ga kk ho hos hgn hd gd J => ?_
    obtain ⟨o, vs, o1, o2, o3, o4, o5⟩ := ho
    obtain ⟨G, g1, g2⟩ := restrict s'.heap fun b => decide (b ≠ a)
    have gk : ∀ b, b ≠ a → G.get? b = s'.heap.get? b := fun b hb => g1 b (decide_eq_true hb)
    have gn : G.get? a = none := g2 a (by simp)
    have ks : ∀ b o, s1.heap.get? b = some o → G.get? b = some o := fun b o z => by
      rw [gk b (fun y => by rw [y, ga] at z; cases z)]
      exact kk b o z
    obtain ⟨mA, hns, rel⟩ := hd
    have hns2 : G.Ns1 d mA := hns.at fun o y => (gk d ne).trans y
    have I2 : Inv X pins σ (upd H1 d (.xd [(fld, v)])) { s1 with heap := G } := I1.laidN (t' := s1.toks) ks gd nd ⟨mA, hns2, rel⟩
    refine ⟨a, o, vs, { s1 with heap := G }, _, .ref C, some d, rfl, I2, fun b o z => ?_, gn, o1, ⟨o2, o3⟩, o4, o5, ?_, hos, by rw [hgn]; exact I1.bare, raises_own T.ex.hs T.tyC, q1 d nd⟩
    · by_cases hb : b = a
      · rw [hb, gn] at z
        cases z
      · exact (gk b hb).symm.trans z
    · rw [upd_ne (Ne.symm ne)]
      exact na
  exact s_of (ps_raise hc tk mk) h
end
end L2.Z

set_option maxHeartbeats 4000000
namespace PySem.ZX
open PySem PySem.W PySem.Spec PySem.Calls PyProof.Rows
section
variable {prog : Program} {w : World} {A : Around} {E : Value → Shared → Prop} {s : Shared} {K : Frag} {x D : Addr} {ox : Obj} {od : Option Obj}
theorem find_data {C : Addr} {name : Str} {a g : Value} (hc : (clsIn K C).isSome = true) (ha : findIn K (.ref C) name = some (some a)) (hg : specialIn K a "__get__" = some (some g)) (ht : takesIn K a = some true) : findObj K C od name = some (.bind g a) := by
  obtain ⟨cd, hc⟩ := Option.isSome_iff_exists.mp hc
  unfold findObj
  rw [hc, Option.bind_some, ha, Option.bind_some]
  simp [hg, ht]
theorem cls_ofX {Q : Option Value → Shared → Prop} (T : L2.ExcC K D)
    (X : K.In s.heap) (I : InstAt s.heap x ox D od) (h : Q (some (.ref D)) { s with toks := s.toks + 1 }) : wpAny (model prog w) A (getAttr? (.ref x) "__class__") Q E s := by
  have hf : findObj K D od "__class__" = some (.bind (.builtin "getset_descriptor.__get__") (.builtin "object.__class__")) := find_data (by obtain ⟨cd, hc, _⟩ := any_some T.hd; rw [hc]; rfl) T.ha T.hn T.ht
  obtain ⟨hp, g, d, t, os⟩ := s
  have L0 := I.type (M := model prog w)
  have L1 := looks_findIn (M := model prog w) X T.hg
  have L2 := looks_findIn (M := model prog w) X T.hk
  have L3 := looks_find (M := model prog w) X I hf
  have sub : Looks (model prog w) hp (isInstance (.ref x) (.type "BaseException")) true := L0.andThen (looks_subIn X T.hs)
  have hx0 : (false && onTheHeap (Value.builtin "BaseException.__getattribute__")) = false := rfl
  have hx2 : (Value.builtin "BaseException.__getattribute__" == Value.builtin "object.__getattribute__") = false := by decide +kernel
  have hx1 : (onTheHeap (Value.ref D) && Value.builtin "BaseException.__getattribute__" == Value.builtin "object.__getattribute__") = false := by rw [hx2]; rfl
  unfold getAttr? getAttrBy? getAttrBy
  refine wpAny_bind (wpAny_mkText (wpAny_bind (wpAny_attempt (wpAny_holding (wpAny_bind (L0.at (wpAny_bind (L1.at ?_))))))))
  show wpAny _ _ (if (onTheHeap (Value.ref D) && Value.builtin "BaseException.__getattribute__" == Value.builtin "object.__getattribute__") = true then _ else _) _ _ _
  rw [hx1, if_neg Bool.false_ne_true]
  unfold getAttrByItsOwn hookBefore
  refine wpAny_bind ?_
  rw [if_pos (show onTheHeap (Value.ref D) = true from rfl)]
  refine L2.at ?_
  refine wpAny_bind (wpAny_attempt (wpAny_holding ?_))
  unfold callGetattribute
  rw [hx0, if_neg Bool.false_ne_true]
  unfold boundAndCalled
  rw [PySem.F.excAttr_ValueError.ga.bind (.ref x)]
  refine wpAny_bind (wpAny_pure ?_)
  show wpAny _ _ (call (.builtin "BaseException.__getattribute__") [.ref x, .str "__class__" t]) _ _ _
  refine wpAny_call (codeAny_call_builtin PySem.F.excAttr_ValueError.ga.plain PySem.F.entry_bexc_ga ?_)
  refine @check_slot (model prog w) _ _ ⟨hp, g, d, t + 1, os⟩ "BaseException.__getattribute__" "BaseException" "__getattribute__" (.ref x) [.str "__class__" t] [] _ (by decide +kernel) (by decide +kernel) sub (PySem.F.args_bexc_ga (.ref x) (.str "__class__" t)) ?_
  unfold Builtin.«object.__getattribute__»
  refine wpAny_bind (wpAny_of_eq (a := ((Value.ref x : Value), [Value.str "__class__" t])) (by first | rfl | (simp only [slotArgs]; rfl)) ?_)
  refine wpAny_bind (wpAny_pure (wpAny_bind (L0.at (wpAny_bind (L3.at ?_)))))
  show wpAny _ _ (holding [Value.builtin "object.__class__"] (call (.builtin "getset_descriptor.__get__") [.builtin "object.__class__", .ref x, .ref D]) >>= ret) _ _ _
  refine wpAny_bind (wpAny_holding (wpAny_call (class_get (s := ⟨hp, g, d, t + 1, os⟩) (ox := ox) (od := od) X I T.hm ?_)))
  refine wpAny_pure ?_
  show wpAny _ _ (handedOut (.ref D)) _ _ _
  rw [handedOut_of (v := .ref D) rfl]
  first
    | exact wpAny_pure (wpAny_pure h)
    | exact wpAny_pure h
    | exact wpAny_pure (wpAny_bind (wpAny_pure (wpAny_pure h)))
theorem kitX (T : L2.ExcC K D) : KitX K (.ref x) (.ref D) (fun h => ∃ ox od, InstAt h x ox D od) where
  ty := fun _ _ _ ⟨_, _, I⟩ => I.type
  it := fun _ _ X _ => by
    obtain ⟨cdD, hcD, _⟩ := any_some T.hd
    unfold clsIn at hcD
    split at hcD
    · rename_i c' d' cd' sl' ho
      intro A' Q' E' s' k q
      unfold isType loadHead
      exact wpAny_bind (wpAny_loadPart (k _ _ (X _ _ ho)) (wpAny_pure q))
    · cases hcD
  ne := fun h tp dd its n sl X htp => by
    obtain ⟨cdD, hcD, _⟩ := any_some T.hd
    refine Bool.eq_false_iff.mpr fun q => ?_
    have e : D = tp := Value.ref.inj (beq_iff_eq.mp q)
    subst e
    unfold clsIn at hcD
    split at hcD
    · rename_i c' d' cd' sl' ho
      have z := (X _ _ ho).symm.trans htp
      cases z
    · cases hcD
  ca := fun X ⟨_, _, I⟩ k => cls_ofX T X I k
end
end PySem.ZX
namespace L2.Z
open PySem PySem.Spec PyProof.Rows PySem.ZX
theorem exT_inst {X : Cx} {pins : List (Addr × Obj)} {σ : St} {H : Hp} {s : Shared} {a C d : Addr} {fs : List (Str × V)} (I : Inv X pins σ H s) (e : H a = some (exT a C d)) (e2 : H d = some (.xd fs)) :
    ∃ ox od, PySem.W.InstAt s.heap a ox C (some od) ∧ s.heap.get? d = some od ∧ ox.dict = some d := by
  obtain ⟨o, vs, o1, o2, o3, o4⟩ := exT_at I.hok e
  obtain ⟨mA, hns, rel⟩ := xd_at I.hok e2
  obtain ⟨od, ho, hl⟩ := lookIn_ns hns
  exact ⟨o, od, ⟨o1, o2, by unfold PySem.W.notCls; rw [o4] <;> rfl, by rw [o3]; exact ho⟩, ho, o3⟩
/-- a value's type, exceptions too -/
inductive TyZ (K : PySem.W.Frag) (H : Hp) : V → Value → Prop where
  | x {x : V} {t : Value} (h : TyX K H x t) : TyZ K H x t
  | en {a C : Addr} (e : H a = some (exN a C)) (T : ExcC K C) : TyZ K H (.ref a) (.ref C)
  | ex {a C d : Addr} {fs : List (Str × V)} (e : H a = some (exT a C d)) (e2 : H d = some (.xd fs)) (T : ExcC K C) : TyZ K H (.ref a) (.ref C)
def rIsZ (K : PySem.W.Frag) : List V → Hp → VK → Prop := fun xs H Q => ∃ (x c : V) (t u : Value) (b : Bool), xs = [x, c] ∧ ClsV c u ∧ TyZ K H x t ∧ PySem.W.kitOne K t u = some b ∧ Q (.bl b) H
theorem call_isZ {X : Cx} : CallR X (.builtin "isinstance") (rIsZ X.K) := by
  intro pins s σ H xs us Q I r h
  obtain ⟨x, c, t, u, b, rfl, k, ty, e, q⟩ := h
  obtain ⟨u1, u2, rfl, r1, r2⟩ := vals2 r
  have e2 := k.eq r2
  subst e2
  cases ty with
  | x ty =>
    obtain ⟨P, Z, p, hx⟩ := kit_of I r1 ty
    exact PySem.W.kia_one Z I.kIn p e hx fun tk => ⟨.bl b, H, I.tok tk, rfl, q⟩
  | en ea T =>
    obtain rfl : u1 = Value.ref _ := r1
    obtain ⟨o, vs, o1, o2, o3, o4⟩ := exN_at I.hok ea
    exact PySem.W.kia_one (kitX T) I.kIn ⟨o, none, o1, o2, by unfold PySem.W.notCls; rw [o4] <;> rfl, by rw [o3]; trivial⟩ e (fun z => nomatch z) fun tk => ⟨.bl b, H, I.tok tk, rfl, q⟩
  | ex ea ed T =>
    obtain rfl : u1 = Value.ref _ := r1
    obtain ⟨ox, od, J, _, _⟩ := exT_inst I ea ed
    exact PySem.W.kia_one (kitX T) I.kIn ⟨_, _, J⟩ e (fun z => nomatch z) fun tk => ⟨.bl b, H, I.tok tk, rfl, q⟩
section
variable {X : Cx} {σ : St} {H : Hp} {Q : VK} {e : Expr} {pos : Pos} {f : Str}
/-- err.f -/
theorem e_xf (h : EW X e σ H fun x H1 => ∃ a C d fs v, x = .ref a ∧ H1 a = some (exT a C d) ∧ H1 d = some (.xd fs) ∧ ExcC X.K C ∧ PySem.W.findIn X.K (.ref C) f = some none ∧ fs.lookup f = some v ∧ Q v H1) (hb : attributeBase e f X.env (eval e X.env) = eval e X.env := by rfl) : EW X (.Attribute e f pos) σ H Q := by
  intro pins s I
  refine attr_of hb (thn (h pins s I) fun u s1 hh => ?_)
  obtain ⟨x, H1, I1, rx, a, C, d, fs, v, ex, ea, ed, T, hno, l, q⟩ := hh
  subst ex
  obtain rfl : u = Value.ref a := rx
  obtain ⟨mA, hns, hr⟩ := xd_at I1.hok ed
  obtain ⟨od, ho, hl⟩ := lookIn_ns hns
  obtain ⟨u, hu, ru⟩ := RelO.some_of (v := v) (o := mA f) (by rw [← l]; exact hr f)
  obtain ⟨o, vs, o1, o2, o3, o4⟩ := exT_at I1.hok ea
  have J : PySem.W.InstAt s1.heap a o C (some od) := ⟨o1, o2, by unfold PySem.W.notCls; rw [o4] <;> rfl, by rw [o3]; exact ho⟩
  exact HandSPX.exc_get I1.kIn J T.hg T.hk T.hs (PySem.W.findObj_own T.hd hno rfl (by rw [hl, hu])) (handed_of ru) ⟨v, H1, I1.tok _, ru, q⟩
end
end L2.Z

set_option maxHeartbeats 4000000
/-! Defs, methods, classes: promises that may lean on an empty list of guards; calls; the end. -/
namespace L2.Z
open PySem PySem.Spec PyProof.Rows PySem.ZX
abbrev CZ := L2.CX
/-- room for k calls, and no text is being made -/
structure RoomZ (k : Nat) (A : Around) : Prop where
  r : Room k A
  g : A.guards = some []
theorem RoomZ.mono {j k : Nat} {A : Around} (r : RoomZ k A) (h : j ≤ k) : RoomZ j A := ⟨r.r.mono h, r.g⟩
theorem RoomZ.deeper {k : Nat} {A : Around} (r : RoomZ (k + 1) A) (env : Env) : RoomZ k (A.deeper env) := ⟨r.r.deeper env, r.g⟩
theorem RoomZ.make {k : Nat} {A : Around} (r : RoomZ (k + 1) A) (C : Addr) (us : List Value) (kw : List (Str × Value)) : RoomZ k (A.under (.builtin "type.__call__" ⟨.ref C :: us, kw⟩)) :=
  ⟨r.r.make C us kw, by
    have e : (Code.builtin "type.__call__" ⟨.ref C :: us, kw⟩).guards = [] := by
      unfold Code.guards
      rw [if_neg]
      simp [Code.isGuard, guardIds]
    show pushGuards (Code.builtin "type.__call__" ⟨.ref C :: us, kw⟩).guards A.guards = some []
    rw [e, r.g]
    rfl⟩
/-- the def at f keeps the promise sp -/
structure FnZ (P : Program) (w : World) (K : PySem.W.Frag) (mg : Str → Option Value) (base : Heap) (k : Nat) (f : Addr) (fd : FuncData) (ps : List Str) (sp : Sp) : Prop where
  len : ∀ vs H Q E, sp vs H Q E → vs.length = ps.length
  run : ∀ (A : Around) (outer : List Env) (s : Shared) (H : Hp) (args : Args) (us : List Value) (vs : List V) (Q : VK) (E : XK), RoomZ k A → Env0 P w K mg base A outer s H → BindsTo s fd args (ps.zip us) → Vals vs us → sp vs H Q E →
    codeAny (model P w) A (.call (.ref f) args) (CR (CZ P w) outer P w H s Q E) s
section
variable {P : Program} {w : World} {K : PySem.W.Frag} {mg : Str → Option Value} {base : Heap} {j k : Nat} {f C : Addr} {fd : FuncData} {ps : List Str} {sp : Sp} {x m : Str}
theorem FnZ.mono (F : FnZ P w K mg base j f fd ps sp) (h : j ≤ k) : FnZ P w K mg base k f fd ps sp := ⟨F.len, fun A outer s H args us vs Q E hr => F.run A outer s H args us vs Q E (hr.mono h)⟩
theorem FnZ.imp {sp' : Sp} (F : FnZ P w K mg base k f fd ps sp) (h : ∀ vs H Q E, sp' vs H Q E → sp vs H Q E) : FnZ P w K mg base k f fd ps sp' :=
  ⟨fun vs H Q E q => F.len vs H Q E (h _ _ _ _ q), fun A outer s H args us vs Q E hr he hb hv hs => F.run A outer s H args us vs Q E hr he hb hv (h _ _ _ _ hs)⟩
/-- a def of the module -/
structure DefZ (P : Program) (w : World) (K : PySem.W.Frag) (mg : Str → Option Value) (base : Heap) (x : Str) (k : Nat) (ps : List Str) (sp : Sp) : Prop where
  ex : ∃ f fd, mg x = some (.ref f) ∧ PySem.W.keepIn K (.ref f) = true ∧ FnZ P w K mg base k f fd ps sp ∧ Binds K fd ps []
/-- a method of the class at C -/
structure MethZ (P : Program) (w : World) (K : PySem.W.Frag) (mg : Str → Option Value) (base : Heap) (C : Addr) (m : Str) (k : Nat) (ps : List Str) (sp : Sp) : Prop where
  cl : Cls K C
  ex : ∃ f fd, Meth K C m f ∧ FnZ P w K mg base k f fd ps sp ∧ Binds K fd ps []
/-- the class x at C, whose __init__ keeps sp -/
structure MkZ (P : Program) (w : World) (K : PySem.W.Frag) (mg : Str → Option Value) (base : Heap) (x : Str) (C : Addr) (k : Nat) (ps : List Str) (sp : Sp) : Prop where
  g : mg x = some (.ref C)
  ex : ∃ f fd, Mk K C f ∧ FnZ P w K mg base k f fd ps sp ∧ Binds K fd ps []
theorem DefZ.mono (D : DefZ P w K mg base x j ps sp) (h : j ≤ k) : DefZ P w K mg base x k ps sp := by
  obtain ⟨f, fd, a, b, F, c⟩ := D.ex
  exact ⟨f, fd, a, b, F.mono h, c⟩
theorem DefZ.imp {sp' : Sp} (D : DefZ P w K mg base x k ps sp) (h : ∀ vs H Q E, sp' vs H Q E → sp vs H Q E) : DefZ P w K mg base x k ps sp' := by
  obtain ⟨f, fd, a, b, F, c⟩ := D.ex
  exact ⟨f, fd, a, b, F.imp h, c⟩
theorem MethZ.mono (D : MethZ P w K mg base C m j ps sp) (h : j ≤ k) : MethZ P w K mg base C m k ps sp := by
  obtain ⟨f, fd, a, F, c⟩ := D.ex
  exact ⟨D.cl, f, fd, a, F.mono h, c⟩
theorem MkZ.mono (D : MkZ P w K mg base x C j ps sp) (h : j ≤ k) : MkZ P w K mg base x C k ps sp := by
  obtain ⟨f, fd, a, F, c⟩ := D.ex
  exact ⟨D.g, f, fd, a, F.mono h, c⟩
/-- the context of a def's body -/
abbrev cz (P : Program) (w : World) (K : PySem.W.Frag) (mg : Str → Option Value) (base : Heap) (N : List Str) (qual : Str) (sc : Scope) (f : Addr) (cd : Value) (A : Around) (outer : List Env) (s : Shared) (H : Hp) (E : XK) : Cx := cxOf (CZ P w) P w K mg base N qual sc f cd A outer s H E
/-- what a def's body must show -/
def BodyZ (P : Program) (w : World) (K : PySem.W.Frag) (mg : Str → Option Value) (base : Heap) (N : List Str) (qual : Str) (st : Stmt) (f : Addr) (k : Nat) (sp : Sp) : Prop :=
  ∀ (X : Cx) (cd : Value) (A : Around) (outer : List Env) (s : Shared) (H : Hp) (vs : List V) (Q : VK) (E : XK), X = cz P w K mg base N qual (defScope st) f cd A outer s H E → RoomZ k X.A → Takes X (fun c d _ H' => E c d H') → sp vs H Q E →
    BW (cz P w K mg base N qual (defScope st) f cd A outer s H E) (defBody st) { nx := fun _ H' => Q .non H', rt := Q } (start N vs) H
theorem fn_z {qual : Str} {st : Stmt} {N : List Str} (F : ∃ (oc : Value) (od : Option Addr) (dV kV doc pm : Value) (an : Option Addr) (cdv ct : Value) (osl : Array (Option Value)), fd = PySem.W.fnOf x qual (defArgs st) (defBody st) (defScope st) dV kV doc pm an cdv ct ∧ K.lookup f = some ⟨oc, od, .func fd, osl⟩ ∧ PySem.W.codeIn K cdv qual = true)
    (S : FnScope N ps (defScope st)) (len : ∀ vs H Q E, sp vs H Q E → vs.length = ps.length) (hb : BodyZ P w K mg base N qual st f k sp) : FnZ P w K mg base (k + 1) f fd ps sp := by
  obtain ⟨oc, od, dV, kV, doc, pm, an, cdv, ct, osl, rfl, lk, hcd⟩ := F
  refine ⟨len, fun A outer s H args us vs Q E hr e0 hbd r hsp => ?_⟩
  have hl := len _ _ _ _ hsp
  have KX : K.In s.heap := e0.mod.kin.keeps fun b o e => (e0.bs b o e).1
  have lim : s.heap.NoLimit := e0.mod.nolimit.keeps fun b o e => (e0.bs b o e).1
  have hk : ∀ y ∈ ps.zip us, (defScope st).names.lookup y.1 = some .local ∨ ((defScope st).names.lookup y.1 = some .cell ∧ ((cellsFrom (s.heap.objs.size + 1) (defScope st).names []).lookup y.1).isSome = true) := fun ⟨n, v⟩ hy =>
    (S.par n (List.of_mem_zip hy).1).elim (fun q => .inl q) fun q => .inr ⟨q, PySem.W.cellsFrom_some _ _ _ (.inl q)⟩
  refine codeAny_call_function hr.r.depth (KX _ _ lk) rfl S.co S.gen rfl (PySem.W.codeRec_of KX hcd) (hbd _ _ _ _ (wpAny_newFunctionEnv_cells S.kind hk fun env he s1 y => ?_))
  subst he
  refine ⟨lim.keeps y.toInCall.keep, codeAny_func ?_⟩
  have I : Inv (cz P w K mg base N qual (defScope st) f cdv A outer s H E) [] (start N vs) H s1 := inv_start S hr.r.hd e0 hl r y
  have B := hb _ cdv A outer s H vs Q E rfl (hr.deeper _) (takes_of rfl rfl rfl rfl) hsp
  refine wpAny_mono (B [] s1 I) (fun fl s' hs => ?_) fun e s' hs => hs
  have fin : ∀ {σ' : St} {H' : Hp} {v : V} {u : Value}, Inv (cz P w K mg base N qual (defScope st) f cdv A outer s H E) [] σ' H' s' → RelV v u → Q v H' → CE outer P w H s Q u s' := fun {σ' H' v u} J rv q => ⟨v, H', J.os, J.bare, J.base, J.hok, rv, q⟩
  cases fl with
  | ret u =>
    obtain ⟨v, σ', H', J, rv, q⟩ := hs
    exact fin J rv q
  | next =>
    obtain ⟨σ', H', J, q⟩ := hs
    exact fin (v := V.non) (u := Value.none) J rfl q
  | brk =>
    obtain ⟨_, _, _, q⟩ := hs
    exact False.elim q
  | cont =>
    obtain ⟨_, _, _, q⟩ := hs
    exact False.elim q
theorem Fun.z {qual : Str} {st : Stmt} (F : Fun K x qual st f fd) : ∃ (oc : Value) (od : Option Addr) (dV kV doc pm : Value) (an : Option Addr) (cdv ct : Value) (osl : Array (Option Value)), fd = PySem.W.fnOf x qual (defArgs st) (defBody st) (defScope st) dV kV doc pm an cdv ct ∧ K.lookup f = some ⟨oc, od, .func fd, osl⟩ ∧ PySem.W.codeIn K cdv qual = true := by
  obtain ⟨oc, od, kV, doc, pm, an, cdv, ct, osl, e, lk, hcd⟩ := F.ex
  exact ⟨oc, od, .none, kV, doc, pm, an, cdv, ct, osl, e, lk, hcd⟩
end
section
variable {X : Cx} {k : Nat} {f C : Addr} {fd : FuncData} {ps : List Str} {sp : Sp} {σ : St} {H : Hp} {Q : VK} {W : WX} {x m : Str} {p pos apos : Pos} {e o : Expr} {es : List Expr} {dvs : List V} {ds : List Value}
theorem run_z {pins : List (Addr × Obj)} {s : Shared} {us : List Value} {kw : List (Str × Value)} {ws : List Value} {vs : List V} (F : FnZ X.prog X.w X.K X.mg X.base k f fd ps sp) (hr : RoomZ k X.A) (tk : Takes X W) (I : Inv X pins σ H s)
    (hb : BindsTo s fd ⟨us, kw⟩ (ps.zip ws)) (r : Vals vs ws) (h : sp vs H Q fun c d H' => W c d σ H') : wpAny (model X.prog X.w) X.A (call (.ref f) us kw) (EP X pins σ Q) X.xe s := by
  refine wpAny_call (codeAny_mono (F.run X.A X.stack s H ⟨us, kw⟩ ws vs Q _ hr I.env0 hb r h) fun r s' hq => ?_)
  cases r with
  | error e => exact tk e s' (XE.of_call I (fun _ _ _ h => h) hq)
  | ok fl =>
    cases fl with
    | ret u => exact I.after hq
    | next => exact False.elim hq
    | brk => exact False.elim hq
    | cont => exact False.elim hq
theorem bnd {K : PySem.W.Frag} {s : Shared} {us : List Value} {vs : List V} (hb : Binds K fd ps []) (KX : K.In s.heap) (r : Vals vs us) (hl : vs.length = ps.length) : BindsTo s fd ⟨us, []⟩ (ps.zip us) := by
  have b := hb s us KX (by rw [List.append_nil, ← r.length]; exact hl)
  rw [List.append_nil] at b
  exact b
/-- f(e, ..) -/
theorem e_call (D : DefZ X.prog X.w X.K X.mg X.base x k ps sp) (hr : RoomZ k X.A) (tk : Takes X W) (h : AW X (e :: es) σ H fun vs H1 => sp vs H1 Q fun c d H' => W c d σ H') (hg : Gl X x := by rfl)
    (hdb : (x == ("__debug__" : Str)) = false := by decide) (he : starEach (e :: es) X.env = (false, eval e X.env) :: starEach es X.env := by rfl) (hpl : (backTo pos (starEach es X.env)).any (·.1) = false := by rfl) : EW X (.Call (.Name x p) (e :: es) [] pos) σ H Q := by
  intro pins s I
  obtain ⟨f, fd, hm, hk, F, hb⟩ := D.ex
  refine wpAny_Call_Name_kw (ld_glob I hg hm ?_ hdb)
  refine PySem.W.callWith_K (h₀ := X.base) I.ok.mod.kin hk (thn (h pos pins s I) fun us s1 ⟨vs, H1, I1, r, q⟩ => ⟨I1.kIn, ?_⟩) he hpl
  exact run_z F hr tk I1 (bnd hb I1.kIn r (F.len _ _ _ _ q)) r q
theorem e_call0 (D : DefZ X.prog X.w X.K X.mg X.base x k ps sp) (hr : RoomZ k X.A) (tk : Takes X W) (h : sp [] H Q fun c d H' => W c d σ H') (hg : Gl X x := by rfl)
    (hdb : (x == ("__debug__" : Str)) = false := by decide) : EW X (.Call (.Name x p) [] [] pos) σ H Q := by
  intro pins s I
  obtain ⟨f, fd, hm, hk, F, hb⟩ := D.ex
  refine wpAny_Call_Name_kw (ld_glob I hg hm ?_ hdb)
  exact PySem.W.callWith_K0 I.kIn hk (run_z (us := []) F hr tk I (bnd hb I.kIn .nil (F.len _ _ _ _ h)) .nil h)
/-- o.m(e, ..) -/
theorem e_meth {pl : Sem Bool} (D : MethZ X.prog X.w X.K X.mg X.base C m k ps sp) (hr : RoomZ k X.A) (tk : Takes X W)
    (h : EW X o σ H fun y H1 => ∃ a dx fs, y = .ref a ∧ H1 a = some (.ins C dx fs) ∧ fs.lookup m = none ∧ AW X (e :: es) σ H1 fun vs H2 => sp (y :: vs) H2 Q fun c d H' => W c d σ H')
    (hst : starEach (e :: es) X.env = (false, eval e X.env) :: starEach es X.env := by rfl) (hpl : (backTo pos (starEach es X.env)).any (·.1) = false := by rfl)
    (ht : eval (.Call (.Attribute o m apos) (e :: es) [] pos) X.env = (do
      let ov ← eval o X.env
      standAt apos.atName
      let (f, first) ← holding [ov] (getMethod ov m pl)
      callWith pos f first (backTo pos (starEach (e :: es) X.env)) (backToKw pos (keywordEach [] X.env))) := by rfl) : EW X (.Call (.Attribute o m apos) (e :: es) [] pos) σ H Q := by
  intro pins s I
  obtain ⟨f, fd, hm, F, hb⟩ := D.ex
  refine PySem.W.methodCall_KW (pl := pl) (thn (h pins s I) fun u s1 ⟨y, H1, I1, rx, a, dx, fs, ex, ea, l, q⟩ => ?_) ht
  subst ex
  obtain rfl : u = Value.ref a := rx
  refine getmeth_ok I1 ea D.cl hm l ?_
  refine PySem.W.callWith_K (first := [.ref a]) (h₀ := X.base) I.ok.mod.kin hm.kp (thn (q pos pins s1 I1) fun us s2 ⟨vs, H2, I2, r, q2⟩ => ⟨I2.kIn, ?_⟩) hst hpl
  have r2 : Vals (V.ref a :: vs) (Value.ref a :: us) := .cons rfl r
  exact run_z (us := .ref a :: us) F hr tk I2 (bnd hb I2.kIn r2 (F.len _ _ _ _ q2)) r2 q2
theorem e_meth0 {pl : Sem Bool} (D : MethZ X.prog X.w X.K X.mg X.base C m k ps sp) (hr : RoomZ k X.A) (tk : Takes X W)
    (h : EW X o σ H fun y H1 => ∃ a dx fs, y = .ref a ∧ H1 a = some (.ins C dx fs) ∧ fs.lookup m = none ∧ sp [y] H1 Q fun c d H' => W c d σ H')
    (ht : eval (.Call (.Attribute o m apos) [] [] pos) X.env = (do
      let ov ← eval o X.env
      standAt apos.atName
      let (f, first) ← holding [ov] (getMethod ov m pl)
      callWith pos f first (backTo pos (starEach [] X.env)) (backToKw pos (keywordEach [] X.env))) := by rfl) : EW X (.Call (.Attribute o m apos) [] [] pos) σ H Q := by
  intro pins s I
  obtain ⟨f, fd, hm, F, hb⟩ := D.ex
  refine PySem.W.methodCall_KW (pl := pl) (thn (h pins s I) fun u s1 ⟨y, H1, I1, rx, a, dx, fs, ex, ea, l, q⟩ => ?_) ht
  subst ex
  obtain rfl : u = Value.ref a := rx
  refine getmeth_ok I1 ea D.cl hm l ?_
  have r2 : Vals [V.ref a] [Value.ref a] := .cons rfl .nil
  exact PySem.W.callWith_K0 (first := [.ref a]) I1.kIn hm.kp (run_z (us := [.ref a]) F hr tk I1 (bnd hb I1.kIn r2 (F.len _ _ _ _ q)) r2 q)
/-- C(..) -/
def NewIn (C : Addr) (sp : Sp) (vs : List V) (H : Hp) (Q : VK) (E : XK) : Prop := ∀ a dx, H a = none → H dx = none → dx ≠ a → sp (.ref a :: vs) (upd (upd H dx (.own a)) a (.ins C dx [])) (fun v H2 => v = .non ∧ Q (.ref a) H2) E
theorem run_mkz {pins : List (Addr × Obj)} {s : Shared} {us : List Value} {kw : List (Str × Value)} {vs : List V} {ws : Value → List Value} (M : Mk X.K C f) (F : FnZ X.prog X.w X.K X.mg X.base k f fd ps sp) (hr : RoomZ (k + 1) X.A) (tk : Takes X W) (I : Inv X pins σ H s)
    (hb : ∀ (s : Shared) a, X.K.In s.heap → BindsTo s fd ⟨.ref a :: us, kw⟩ (ps.zip (.ref a :: ws (.ref a)))) (r : ∀ a, Vals vs (ws a)) (h : NewIn C sp vs H Q fun c d H' => W c d σ H') : wpAny (model X.prog X.w) X.A (call (.ref C) us kw) (EP X pins σ Q) X.xe s := by
  have hq := h (s.heap.objs.size + 1) s.heap.objs.size (I.hok.fresh (Nat.le_succ _)) (I.hok.fresh (Nat.le_refl _)) (Nat.ne_of_lt (Nat.lt_succ_self _))
  have I2 := Inv.made (C := C) I
  refine wpAny_call (make_map (f := f) I.kIn M.makes M.init (beq_iff_eq.mp M.fn) (codeAny_mono (F.run _ X.stack _ _ ⟨Value.ref (s.heap.objs.size + 1) :: us, kw⟩ _ _ _ _ (hr.make C us kw)
    (I2.env0.make C us kw) (hb _ _ I2.kIn) (show Vals (V.ref (s.heap.objs.size + 1) :: vs) (Value.ref (s.heap.objs.size + 1) :: ws (Value.ref (s.heap.objs.size + 1))) from .cons rfl (r _)) hq) fun r s' hq' => ?_))
  cases r with
  | error e => exact tk e s' (XE.of_call I2 (fun _ _ _ h => h) hq')
  | ok fl =>
    cases fl with
    | ret u =>
      obtain ⟨v, H', I3, rv, ev, q3⟩ := I2.after hq'
      subst ev
      exact ⟨rv, ⟨V.ref (s.heap.objs.size + 1), H', I3, rfl, q3⟩⟩
    | next => exact False.elim hq'
    | brk => exact False.elim hq'
    | cont => exact False.elim hq'
theorem e_make (D : MkZ X.prog X.w X.K X.mg X.base x C k ps sp) (hr : RoomZ (k + 1) X.A) (tk : Takes X W) (h : AW X (e :: es) σ H fun vs H1 => vs.length + 1 = ps.length ∧ NewIn C sp vs H1 Q fun c d H' => W c d σ H') (hg : Gl X x := by rfl)
    (hdb : (x == ("__debug__" : Str)) = false := by decide) (he : starEach (e :: es) X.env = (false, eval e X.env) :: starEach es X.env := by rfl) (hpl : (backTo pos (starEach es X.env)).any (·.1) = false := by rfl) : EW X (.Call (.Name x p) (e :: es) [] pos) σ H Q := by
  intro pins s I
  obtain ⟨f, fd, M, F, hb⟩ := D.ex
  refine wpAny_Call_Name_kw (ld_glob I hg D.g ?_ hdb)
  refine PySem.W.callWith_K (h₀ := X.base) I.ok.mod.kin M.kp (thn (h pos pins s I) fun us s1 ⟨vs, H1, I1, r, hl, q⟩ => ⟨I1.kIn, ?_⟩) he hpl
  exact run_mkz (ws := fun _ => us) M F hr tk I1 (fun s a KX => bnd (vs := .ref a :: vs) hb KX (.cons rfl r) hl) (fun _ => r) q
theorem e_make0 (D : MkZ X.prog X.w X.K X.mg X.base x C k ps sp) (hr : RoomZ (k + 1) X.A) (tk : Takes X W) (hl : ps.length = 1) (h : NewIn C sp [] H Q fun c d H' => W c d σ H') (hg : Gl X x := by rfl)
    (hdb : (x == ("__debug__" : Str)) = false := by decide) : EW X (.Call (.Name x p) [] [] pos) σ H Q := by
  intro pins s I
  obtain ⟨f, fd, M, F, hb⟩ := D.ex
  refine wpAny_Call_Name_kw (ld_glob I hg D.g ?_ hdb)
  exact PySem.W.callWith_K0 I.kIn M.kp (run_mkz (us := []) (ws := fun _ => []) M F hr tk I (fun s a KX => bnd (vs := [.ref a]) hb KX (.cons rfl .nil) hl.symm) (fun _ => .nil) h)
end
end L2.Z

set_option maxHeartbeats 4000000
namespace L2.Z
open PySem PySem.Spec PyProof.Rows
/-! ### data: what a value holds, at any depth, dicts too -/
def kD : Key → PyData
  | .inl i => .int i
  | .inr x => .str x
mutual
inductive Dq (K : PySem.W.Frag) (H : Hp) : V → PyData → Prop
  | non : Dq K H .non .none
  | bl (b : Bool) : Dq K H (.bl b) (.bool b)
  | int (i : Int) : Dq K H (.int i) (.int i)
  | str (x : Str) : Dq K H (.str x) (.str x)
  | lst {a : Addr} {xs : List V} {ds : List PyData} : Rd H a (.lst xs) → DqAll K H xs ds → Dq K H (.ref a) (.list ds)
  | tup {a : Addr} {xs : List V} {ds : List PyData} : SqT K H a xs → DqAll K H xs ds → Dq K H (.ref a) (.tuple ds)
  | dct {a : Addr} {kvs : List (Key × V)} {es : List (PyData × PyData)} : Rd H a (.dK kvs) → DqKv K H kvs es → Dq K H (.ref a) (.dict es)
inductive DqAll (K : PySem.W.Frag) (H : Hp) : List V → List PyData → Prop
  | nil : DqAll K H [] []
  | cons {v : V} {vs : List V} {d : PyData} {ds : List PyData} : Dq K H v d → DqAll K H vs ds → DqAll K H (v :: vs) (d :: ds)
inductive DqKv (K : PySem.W.Frag) (H : Hp) : List (Key × V) → List (PyData × PyData) → Prop
  | nil : DqKv K H [] []
  | cons {k : Key} {v : V} {d : PyData} {kvs : List (Key × V)} {es : List (PyData × PyData)} : Dq K H v d → DqKv K H kvs es → DqKv K H ((k, v) :: kvs) ((kD k, d) :: es)
end
section
variable {X : Cx} {pins : List (Addr × Obj)} {σ : St} {H : Hp} {s : Shared}
/-- the modules' own dict stands in the base -/
def Sys (base : Heap) : Prop := (base.get? sysModules).isSome = true
theorem noMods {a : Addr} {u : HO} (S : Sys X.base) (I : Inv X pins σ H s) (r : Rd H a u) : sysModules ≠ a := fun z => by
  subst z
  obtain ⟨o, e⟩ := Option.isSome_iff_exists.mp S
  have n := (I.bs _ _ e).2
  rcases r with r | ⟨o, r⟩ <;> rw [n] at r <;> cases r
theorem keyReads {h : Heap} {k : Key} {u : Value} (e : keyIs k u = true) : Reads h u (kD k) [] := by
  rcases keyIs_shape e with ⟨i, t, rfl, rfl⟩ | ⟨x, t, rfl, rfl⟩
  · exact .int i t
  · exact .str x t
mutual
theorem Dq.reads (S : Sys X.base) (I : Inv X pins σ H s) : ∀ (d : PyData) (v : V) (u : Value), Dq X.K H v d → RelV v u → ∃ as, Reads s.heap u d as ∧ sysModules ∉ as
  | .none, _, _, h, r => by
    cases h
    cases r
    exact ⟨_, Reads.none, List.not_mem_nil⟩
  | .bool b, _, _, h, r => by
    cases h
    cases r
    exact ⟨_, Reads.bool b, List.not_mem_nil⟩
  | .int i, _, _, h, r => by
    cases h
    obtain ⟨t, rfl⟩ := r
    exact ⟨_, Reads.int i t, List.not_mem_nil⟩
  | .str x, _, _, h, r => by
    cases h
    obtain ⟨t, rfl⟩ := r
    exact ⟨_, Reads.str x t, List.not_mem_nil⟩
  | .list ds, _, _, h, r => by
    cases h with
    | lst hs ha =>
      cases r
      obtain ⟨its, rv, ⟨o, n, ho, hc, _, hd⟩, _⟩ := I.list (.inl hs)
      obtain ⟨as, hr, hm⟩ := Dq.readsAll S I ds _ its ha rv
      refine ⟨_, Reads.list ho hc hd hr, fun z => ?_⟩
      rcases List.mem_cons.mp z with z | z
      · exact noMods S I hs z
      · exact hm z
  | .tuple ds, _, _, h, r => by
    cases h with
    | tup hs ha =>
      cases r
      obtain ⟨its, rv, ⟨o, ho, hc, n, hd⟩, _⟩ := I.tuple hs
      obtain ⟨as, hr, hm⟩ := Dq.readsAll S I ds _ its ha rv
      exact ⟨_, Reads.tuple ho hc hd hr, hm⟩
  | .dict es, _, _, h, r => by
    cases h with
    | dct hs ha =>
      cases r
      obtain ⟨_, _, vs, kv, o, ds, ep, ho, hx, hd, _, hp, _⟩ := dk_rd I.hok hs
      obtain ⟨as, h1, h2, hm⟩ := Dq.readsKv S I es _ vs _ ha kv hp
      refine ⟨_, Reads.dict ho hx.1 hd h1 h2, fun z => ?_⟩
      rcases List.mem_append.mp z with z | z
      · rcases List.mem_cons.mp z with z | z
        · exact noMods S I hs z
        · exact absurd z List.not_mem_nil
      · exact hm z
theorem Dq.readsAll (S : Sys X.base) (I : Inv X pins σ H s) : ∀ (ds : List PyData) (vs : List V) (us : List Value), DqAll X.K H vs ds → Vals vs us → ∃ as, ReadsAll s.heap us ds as ∧ sysModules ∉ as
  | [], _, _, h, r => by
    cases h
    cases r
    exact ⟨_, ReadsAll.nil, List.not_mem_nil⟩
  | d :: ds, _, _, h, r => by
    cases h with
    | cons h1 h2 =>
      cases r with
      | cons r1 r2 =>
        obtain ⟨as, q1, m1⟩ := Dq.reads S I d _ _ h1 r1
        obtain ⟨bs, q2, m2⟩ := Dq.readsAll S I ds _ _ h2 r2
        exact ⟨_, ReadsAll.cons q1 q2, fun z => (List.mem_append.mp z).elim m1 m2⟩
theorem Dq.readsKv (S : Sys X.base) (I : Inv X pins σ H s) : ∀ (es : List (PyData × PyData)) (kvs : List (Key × V)) (vs : List (Key × Value)) (ds : List DictEntry), DqKv X.K H kvs es → KV kvs vs → Pairs (mixKind X.prog X.w) ds vs →
    ∃ bs, ReadsAll s.heap (ds.map (·.key)) (es.map (·.1)) [] ∧ ReadsAll s.heap (ds.map (·.val)) (es.map (·.2)) bs ∧ sysModules ∉ bs
  | [], _, _, _, h, r, p => by
    cases h
    cases r
    cases p
    exact ⟨_, ReadsAll.nil, ReadsAll.nil, List.not_mem_nil⟩
  | (kd, d) :: es, _, _, _, h, r, p => by
    cases h with
    | cons h1 h2 =>
      cases r with
      | cons r1 r2 =>
        cases p with
        | cons p1 p2 p3 =>
          obtain ⟨e1, r1⟩ := r1
          dsimp only at e1 r1
          obtain ⟨as, q1, m1⟩ := Dq.reads S I d _ _ h1 r1
          obtain ⟨bs, q2, q3, m2⟩ := Dq.readsKv S I es _ _ _ h2 r2 p3
          refine ⟨as ++ bs, ?_, ?_, fun z => (List.mem_append.mp z).elim m1 m2⟩
          · have z : Reads s.heap _ (kD _) [] := keyReads p1
            rw [← e1] at z
            exact ReadsAll.cons z q2
          · simp only [List.map_cons]
            rw [p2]
            exact ReadsAll.cons q1 q3
end
end
mutual
theorem Dq.keep {K : PySem.W.Frag} {H H' : Hp} (k : ∀ a o, H a = some o → H' a = some o) : ∀ (d : PyData) (v : V), Dq K H v d → Dq K H' v d
  | .none, _, h => by cases h; exact .non
  | .bool b, _, h => by cases h; exact .bl b
  | .int b, _, h => by cases h; exact .int b
  | .str b, _, h => by cases h; exact .str b
  | .list ds, _, h => by
    cases h with
    | lst hs ha => exact .lst (hs.imp (k _ _) fun ⟨o, z⟩ => ⟨o, k _ _ z⟩) (Dq.keepAll k ds _ ha)
  | .tuple ds, _, h => by
    cases h with
    | tup hs ha => exact .tup (hs.imp (fun z => z.imp (k _ _) fun ⟨o, z⟩ => ⟨o, k _ _ z⟩) id) (Dq.keepAll k ds _ ha)
  | .dict es, _, h => by
    cases h with
    | dct hs ha => exact .dct (hs.imp (k _ _) fun ⟨o, z⟩ => ⟨o, k _ _ z⟩) (Dq.keepKv k es _ ha)
theorem Dq.keepAll {K : PySem.W.Frag} {H H' : Hp} (k : ∀ a o, H a = some o → H' a = some o) : ∀ (ds : List PyData) (vs : List V), DqAll K H vs ds → DqAll K H' vs ds
  | [], _, h => by cases h; exact .nil
  | d :: ds, _, h => by
    cases h with
    | cons h1 h2 => exact .cons (Dq.keep k d _ h1) (Dq.keepAll k ds _ h2)
theorem Dq.keepKv {K : PySem.W.Frag} {H H' : Hp} (k : ∀ a o, H a = some o → H' a = some o) : ∀ (es : List (PyData × PyData)) (kvs : List (Key × V)), DqKv K H kvs es → DqKv K H' kvs es
  | [], _, h => by cases h; exact .nil
  | (_, d) :: es, _, h => by
    cases h with
    | cons h1 h2 => exact .cons (Dq.keep k d _ h1) (Dq.keepKv k es _ h2)
end
theorem DqAll.rep {K : PySem.W.Frag} {H : Hp} {v : V} {d : PyData} (h : Dq K H v d) : ∀ n, DqAll K H (List.replicate n v) (List.replicate n d)
  | 0 => .nil
  | n + 1 => .cons h (DqAll.rep h n)
/-! ### repr of a container -/
def rRepr (K : PySem.W.Frag) : List V → Hp → VK → Prop := fun xs H Q => ∃ (a : Addr) (d : PyData), xs = [.ref a] ∧ Dq K H (.ref a) d ∧ d.showable = true ∧ d.shown.length ≤ sizeLine ∧ d.depth ≤ 60 ∧ Q (.str d.shown) H
theorem call_repr {X : Cx} (S : Sys X.base) (hg : X.A.guards = some []) (hu : X.A.units + 64 < cLine) : CallR X (.builtin "repr") (rRepr X.K) := by
  intro pins s σ H xs us Q I r h
  obtain ⟨a, d, rfl, hd, h1, h2, h3, q⟩ := h
  rw [Vals.ref1 r]
  obtain ⟨as, rd, nm⟩ := Dq.reads S I d _ _ hd rfl
  exact repr_of_reads' rd h1 (fun _ => nm) hg (by omega) (fun b o e => e) (fun h' u tk k => ⟨.str d.shown, H, I.kept (h' := h') (t' := tk) k, ⟨u, rfl⟩, q⟩) h2
/-! ### == and != of data -/
def rEqQ (K : PySem.W.Frag) : R2 := fun x y H Q => ∃ d e, Dq K H x d ∧ Dq K H y e ∧ SeqAt.shaped d = true ∧ SeqAt.shaped e = true ∧ Q (.bl (PyData.eqv d e)) H
def rNeQ (K : PySem.W.Frag) : R2 := fun x y H Q => ∃ d e, Dq K H x d ∧ Dq K H y e ∧ SeqAt.shaped d = true ∧ SeqAt.shaped e = true ∧ Q (.bl (!PyData.eqv d e)) H
theorem op_eqQ {X : Cx} (S : Sys X.base) (hu : X.A.units + 64 < cLine) : OpR X (compareOp .Eq) (rEqQ X.K) := fun pins s σ H x y v u Q I rx ry ⟨d, e, hd, he, sd, se, q⟩ => by
  obtain ⟨as, r1, _⟩ := Dq.reads S I d x v hd rx
  obtain ⟨bs, r2, _⟩ := Dq.reads S I e y u he ry
  exact SeqAt.compareEq_shaped r1 r2 sd se hu ⟨.bl _, H, I, rfl, q⟩
theorem op_neQ {X : Cx} (S : Sys X.base) (hu : X.A.units + 64 < cLine) : OpR X (compareOp .NotEq) (rNeQ X.K) := fun pins s σ H x y v u Q I rx ry ⟨d, e, hd, he, sd, se, q⟩ => by
  obtain ⟨as, r1, _⟩ := Dq.reads S I d x v hd rx
  obtain ⟨bs, r2, _⟩ := Dq.reads S I e y u he ry
  exact SeqAt.compareNe_shaped r1 r2 sd se hu ⟨.bl _, H, I, rfl, q⟩
/-! ### numbers, slices, dicts -/
theorem op_pow {X : Cx} : OpR X (binaryOp .Pow) (rI (fun i n => 0 ≤ n ∧ (Builtin.Int.intBits i : Int) * n ≤ 2 ^ 27) fun i n => .int (i ^ n.toNat)) := fun pins s σ H x y v u Q I rx ry ⟨i, n, ex, ey, hc, q⟩ => by
  subst ex
  subst ey
  obtain ⟨t, rfl⟩ := rx
  obtain ⟨t', rfl⟩ := ry
  exact pow_int hc.1 hc.2 ⟨.int (i ^ n.toNat), H, I.tok _, ⟨_, rfl⟩, q⟩
section
variable {X : Cx} {σ : St} {H : Hp} {Q : VK} {e o i value : Expr} {lo hi : Option Expr} {pos pos' p2 : Pos} {D : Ends}
def OW (X : Cx) (e : Option Expr) (σ : St) (H : Hp) (Q : Option Int → Hp → Prop) : Prop := match e with
  | none => Q none H
  | some e => EW X e σ H fun v H1 => ∃ i, v = .int i ∧ Q (some i) H1
theorem o_pe : ∀ {e : Option Expr}, PO X e (OW X e)
  | none => po_none
  | some e => po_some (e_pe (X := X) (e := e))
theorem e_sl {r : V → Option Int → Option Int → Hp → VK → Prop} (hr : SlR X r) (h : EW X e σ H fun v H1 => OW X lo σ H1 fun l H2 => OW X hi σ H2 fun u H3 => r v l u H3 Q) : EW X (.Subscript e (.Slice lo hi none p2) pos) σ H Q :=
  e_of (pe_slice hr e_pe o_pe o_pe) h
theorem o_no {Q : Option Int → Hp → Prop} (h : Q none H) : OW X none σ H Q := h
theorem o_so {Q : Option Int → Hp → Prop} (h : EW X e σ H fun v H1 => ∃ i, v = .int i ∧ Q (some i) H1) : OW X (some e) σ H Q := h
theorem e_dK (h : ∀ p, H p = none → Q (.ref p) (upd H p (.dK []))) : EW X (.Dict [] [] pos) σ H Q := e_of pe_dnewK h
/-- {k: v}, one entry -/
theorem e_d1 {k v : Expr} (h : ∀ p, H p = none → EW X k σ (upd H p (.dK [])) fun x H1 => EW X v σ H1 fun y H2 => H2 p = some (.dK []) ∧ ∃ q : Key, x = kV q ∧ Q (.ref p) (upd H2 p (.dK [(q, y)]))) : EW X (.Dict [some k] [v] pos) σ H Q :=
  e_of (pe_disp (pps_cons e_pe e_pe pps_nil) rfl rfl (fun z => by cases z) (by simp)) fun p hp => EW.mono (h p hp) fun x H1 q1 => EW.mono q1 fun y H2 ⟨q2, q, ex, q3⟩ => ⟨q2, [(q, y)], by rw [ex]; rfl, by simp, q3⟩
theorem s_dput (hu : X.A.units + 1 < cLine) (h : EW X value σ H fun v H1 => EW X o σ H1 fun x H2 => EW X i σ H2 fun y H3 => ∃ a H4, x = .ref a ∧ DPut H3 a y v H4 ∧ D.nx σ H4)
    (hs : swapsWith value (some (.Subscript o i pos')) pos.line X.env = pure false := by rfl) : SW X (.Assign [.Subscript o i pos'] value pos) D σ H := s_of (ps_dput hu e_pe e_pe e_pe hs) h
theorem e_dget (hu : X.A.units + 1 < cLine) (h : EW X o σ H fun x H1 => EW X i σ H1 fun y H2 => ∃ a v, x = .ref a ∧ DGet H2 a y (some v) ∧ Q v H2) (hs : NoSl i := by exact fun _ _ => rfl) : EW X (.Subscript o i pos) σ H Q := e_of (pe_dget hu e_pe e_pe hs) h
theorem e_bits {apos : Pos} (h : EW X o σ H fun y H1 => ∃ i, y = .int i ∧ Q (.int (Builtin.Int.intBits i : Nat)) H1) (h1 : attributeBase o "bit_length" X.env (eval o X.env) = eval o X.env := by rfl) (h3 : (apos.endLine == pos.line) = true := by rfl) : EW X (.Call (.Attribute o "bit_length" apos) [] [] pos) σ H Q :=
  e_of (pe_bits e_pe h1 h3) h
theorem g_sub {ps : TSet} {v : V} {N : St → Hp → Prop} (hc : PSet X ps) (h : EW X o σ H fun x H1 => EW X i σ H1 fun y H2 => ps x y v H2 fun H3 => N σ H3)
    (ha : ∀ v, assign (.Subscript o i pos) X.env v = (do
      let ov ← holding [v] (eval o X.env)
      let iv ← holding [v, ov] (eval i X.env)
      standAt pos
      holding [v, ov, iv] (setItem ov iv v)
      release [v, ov, iv] []) := by intro _; rfl) : GW X (.Subscript o i pos) v σ H N := g_of (pg_sub e_pe e_pe hc ha) h
end
end L2.Z

set_option maxHeartbeats 4000000
/-! The end: a law's call, from its def's promise; the head's facts. -/
namespace L2.Z
open PySem PySem.Spec PyProof.Rows
/-- the law's def is called with the script alone -/
theorem call_law {P : Program} {w : World} {K : PySem.W.Frag} {mg mb : Str → Option Value} {k : Nat} {fa a : Addr} {fd : FuncData} {x : Str} {sp : Sp} {s : Shared} {vs : List Value} {ns : List Int}
    (KX : K.In s.heap) (hns : s.heap.Ns mainGlobals mg) (hb : s.heap.Ns builtinsNs mb) (hbb : ∀ x : Str, x ≠ "__name__" → mb x = bootBuiltins x) (hlim : s.heap.NoLimit) (hg : s.gens = #[])
    (ha : s.heap.get? a = some { cls := .type "list", data := .seq vs.toArray }) (hi : IntsAre vs ns) (hl : ns.length ≤ sizeLine) (hr : RoomZ k callerA)
    (F : ∀ base : Heap, K.In base → base.Ns mainGlobals mg → FnZ P w K mg base k fa fd [x] sp) (hbind : ∀ (s : Shared) (u : Value), BindsTo s fd ⟨[u], []⟩ [(x, u)])
    (hsp : ∀ H : Hp, Only H → SqL K H a (ns.map V.int) → sp [.ref a] H (fun v _ => v = .bl true) fun _ _ _ => False) :
    codeAny (model P w) callerA (.call (.ref fa) ⟨[.ref a], []⟩) (fun r s' => r = .ok (.ret (.bool true)) ∧ OldK s.heap s'.heap ∧ s'.os = s.os ∧ AllBare s'.gens) s := by
  have rv := vals_ints hi
  have lenV := hi.length
  -- H: the script and nothing else
  have core : ∀ H : Hp, Only H → SqL K H a (ns.map V.int) → HOk P w H s.heap → (∀ b u, H b = some u → b = a ∧ K.lookup a = none) → codeAny (model P w) callerA (.call (.ref fa) ⟨[.ref a], []⟩)
      (fun r s' => r = .ok (.ret (.bool true)) ∧ OldK s.heap s'.heap ∧ s'.os = s.os ∧ AllBare s'.gens) s := by
    intro H hO hS hok hA
    have free : ∀ {b : Addr} {o : Obj}, s.heap.get? b = some o → (∀ u, H b = some u → False) → (hidT s.heap H).get? b = some o := fun {b o} e n => hidT_get e (by
      cases q : H b with
      | none => rfl
      | some u => exact (n u q).elim)
    have dictOff : ∀ {b : Addr} {o : Obj} {es : Array DictEntry} {ep : Nat}, s.heap.get? b = some o → o.data = .dict es ep → ∀ u, H b = some u → False := fun {b o es ep} e d u q => by
      obtain ⟨rfl, _⟩ := hA b u q
      rw [ha] at e
      cases e
      cases (show Data.seq vs.toArray _ = Data.dict es ep from d)
    have nsF : ∀ {b : Addr} {m : Str → Option Value}, s.heap.Ns b m → (hidT s.heap H).Ns b m := fun ⟨o, es, ep, e, d, r⟩ => ⟨o, es, ep, free e (dictOff e d), d, r⟩
    have kF : K.In (hidT s.heap H) := fun b o e => free (KX b o e) fun u q => by
      obtain ⟨rfl, n⟩ := hA b u q
      rw [n] at e
      cases e
    obtain ⟨mc, c1, c2⟩ := hlim
    have md : Mod K mg (hidT s.heap H) := ⟨kF, nsF hns, ⟨mb, nsF hb, hbb⟩, ⟨mc, nsF c1, c2⟩⟩
    have e0 : Env0 P w K mg (hidT s.heap H) callerA [] s H := ⟨rfl, md, fun b o e => of_hidT e, Nat.le_of_eq (hidT_size _ _), trivial, (fun b hb => absurd hb List.not_mem_nil), hok, .of_eq hg⟩
    refine codeAny_mono ((F _ kF (nsF hns)).run callerA [] s H ⟨[.ref a], []⟩ [.ref a] [.ref a] _ _ hr e0 (hbind s (.ref a)) (.cons rfl .nil) (hsp H hO hS)) fun r s' h => ?_
    cases r with
    | error e =>
      obtain ⟨_, _, _, _, _, _, _, _, _, _, _, _, q⟩ := h
      exact False.elim q
    | ok fl =>
      cases fl with
      | ret u =>
        obtain ⟨v, H', os, bare, un, hok', rv', q⟩ := h
        obtain rfl : v = .bl true := q
        obtain rfl : u = Value.bool true := rv'
        refine ⟨rfl, OldK.of_keep fun b o e => ?_, os, bare⟩
        rcases hO b with z | ⟨ob, xs, z⟩
        · exact un.keep b o e z List.not_mem_nil List.not_mem_nil
        · have y1 := (hok b _ z).1
          have y2 := (hok' b _ (un.frzs b ob _ z)).1
          rw [e] at y1
          cases y1
          exact y2
      | next => exact False.elim h
      | brk => exact False.elim h
      | cont => exact False.elim h
  by_cases hk : ∃ o, K.lookup a = some o
  · obtain ⟨o, hk⟩ := hk
    have e := KX a o hk
    rw [ha] at e
    cases e
    exact core (fun _ => none) (fun _ => .inl rfl) (.inr ⟨_, vs.toArray, _, hk, rfl, rfl, rfl, by rw [List.size_toArray, lenV]; exact hl, by simpa using rv⟩) (fun b u z => by cases z) fun b u z => by cases z
  · have hk2 : K.lookup a = none := by
      cases q : K.lookup a with
      | none => rfl
      | some o => exact (hk ⟨o, q⟩).elim
    let H : Hp := upd (fun _ => none) a (.frz { cls := .type "list", data := .seq vs.toArray } (.lst (ns.map V.int)))
    have at_ : ∀ b u, H b = some u → b = a ∧ u = .frz { cls := .type "list", data := .seq vs.toArray } (.lst (ns.map V.int)) := fun b u z => by
      by_cases hb : b = a
      · subst hb
        rw [show H b = _ from upd_same] at z
        exact ⟨rfl, (Option.some.inj z).symm⟩
      · rw [show H b = _ from upd_ne hb] at z
        cases z
    refine core H (fun b => ?_) (.inl (.inr ⟨_, upd_same⟩)) (fun b u z => ?_) fun b u z => ⟨(at_ b u z).1, hk2⟩
    · cases q : H b with
      | none => exact .inl rfl
      | some u => exact .inr ⟨_, _, by rw [(at_ b u q).2]⟩
    · obtain ⟨rfl, rfl⟩ := at_ b u z
      exact ⟨ha, by rw [List.length_map]; exact hl, vs, _, rv, ha⟩
/-- a law from its def's promise, over a head by facts -/
theorem walk_z {l : PySem.W.OpenLaw} {n k : Nat} {q : Program} {loose : List Str} {XP : (Str → Option Value) → Heap → Prop} {YP : World → Heap → Prop} {d : DefRec} {x : Str}
    (hn : l.most = some n) (hn2 : n ≤ sizeLine) (hdf : d.params.defaults = []) (hr : RoomZ k callerA)
    (F : ∀ (w : World) (mg : Str → Option Value) (fa : Addr) (h : Heap), YP w h → h.Ns mainGlobals mg → mg d.name = some (.ref fa) → ∃ (K : PySem.W.Frag) (fd : FuncData) (sp : Sp), K.In h ∧ (∀ (s : Shared) (u : Value), BindsTo s fd ⟨[u], []⟩ [(x, u)]) ∧
        (∀ (H : Hp) (a : Addr) (ns : List Int), ns.length ≤ n → (∀ z ∈ ns, Builtin.Int.intBits z ≤ 1048576) → Only H → SqL K H a (ns.map V.int) → sp [.ref a] H (fun v _ => v = .bl true) fun _ _ _ => False) ∧
        ∀ base : Heap, K.In base → base.Ns mainGlobals mg → FnZ l.prog w K mg base k fa fd [x] sp) : PySem.W.WalkO q loose XP YP l.row.toRowW d [] (fun f vs => PySem.call f vs) :=
  Att.attach_callB hn hdf fun w s₀ s₁ mg mb fa o pm cd doc a vs ns G Y ho hd hcd hmg hobj hints hlen hbits hg => by
    obtain ⟨K, fd, sp, KX, hb, hsp, hF⟩ := F w mg fa _ Y G.T.g hmg
    exact call_law KX G.T.g G.T.b G.T.builtins G.T.nolimit hg hobj hints (Nat.le_trans hlen hn2) hr hF hb fun H hO hS => hsp H a ns hlen hbits hO hS
end L2.Z

set_option maxHeartbeats 4000000
/-! The head's facts: tests over what stands behind the top. -/
namespace L2.Z
open PySem PySem.Spec PyProof.Rows PySem.ZX He
/-- the j-th statement of a class's body -/
def clsDef (st : Stmt) (j : Nat) : Stmt := match st with
  | .ClassDef _ _ _ b _ _ _ _ _ _ _ => b.getD j st
  | _ => st
/-- one def: where it stands, its name, its text; the values of its defaults, the names of its closure -/
structure DefQ where
  at_ : Str × Option Str
  name : Str
  qual : Str
  st : Stmt
  dfl : List V := []
  cl : List Str := []
abbrev FnQ : Type := Option (Str × Str × Arguments × FuncBody × Scope × Addr × List Str × Addr)
def fnQ (K : PySem.W.Frag) (p : Str × Option Str) : FnQ := match K.lookup (fAd K p) with
  | some ⟨_, _, .func fd, _⟩ => some (fd.name, fd.qualname, fd.params, fd.body, fd.scope, fd.globals, fd.closure.map (·.1), fd.builtins)
  | _ => none
def DefQ.val (d : DefQ) : FnQ := some (d.name, d.qual, defArgs d.st, .stmts (defBody d.st), defScope d.st, mainGlobals, d.cl, builtinsNs)
def DefQ.ok (K : PySem.W.Frag) (d : DefQ) : Bool := PySem.W.keepIn K (.ref (fAd K d.at_)) && (match K.lookup (fAd K d.at_) with
  | some ⟨_, _, .func fd, _⟩ => PySem.W.codeIn K fd.code d.qual && dflB K fd.defaults d.dfl
  | _ => false)
/-- such a def stands at f -/
structure FunQ (K : PySem.W.Frag) (d : DefQ) (f : Addr) (fd : FuncData) : Prop where
  ex : ∃ (oc : Value) (od : Option Addr) (cl : List (Str × Addr)) (dV kV doc pm : Value) (an : Option Addr) (cdv ct : Value) (osl : Array (Option Value)),
    fd = PySem.W.fnX d.name d.qual (defArgs d.st) (defBody d.st) (defScope d.st) cl dV kV doc pm an cdv ct ∧ cl.map (·.1) = d.cl ∧ K.lookup f = some ⟨oc, od, .func fd, osl⟩ ∧ PySem.W.codeIn K cdv d.qual = true ∧ DflV K dV d.dfl
  kp : PySem.W.keepIn K (.ref f) = true
theorem DefQ.fun {K : PySem.W.Frag} {d : DefQ} (e : fnQ K d.at_ = d.val) (c : d.ok K = true) : ∃ fd, FunQ K d (fAd K d.at_) fd := by
  obtain ⟨kp, c2⟩ := ba c
  unfold fnQ at e
  cases q : K.lookup (fAd K d.at_) with
  | none =>
    rw [q] at c2
    cases c2
  | some o =>
    obtain ⟨oc, od, dt, osl⟩ := o
    rw [q] at c2 e
    cases dt with
    | func fd =>
      obtain ⟨n1, n2, n3, n4, n5, n6, n7, n8, n9, n10, n11, n12, n13, n14, n15⟩ := fd
      have e2 : (some (n1, n2, n3, n4, n5, n6, n7.map (·.1), n15) : FnQ) = some (d.name, d.qual, defArgs d.st, .stmts (defBody d.st), defScope d.st, mainGlobals, d.cl, builtinsNs) := e
      simp only [Option.some.injEq, Prod.mk.injEq] at e2
      obtain ⟨h1, h2, h3, h4, h5, h6, h7, h8⟩ := e2
      subst h1 h2 h3 h4 h5 h6 h8
      obtain ⟨k1, k2⟩ := ba (show (PySem.W.codeIn K n13 d.qual && dflB K n8 d.dfl) = true from c2)
      exact ⟨_, ⟨oc, od, n7, n8, n9, n10, n11, n12, n13, n14, osl, rfl, h7, q, k1, dflB_ok k2⟩, kp⟩
    | _ => cases c2
theorem FunQ.z {K : PySem.W.Frag} {d : DefQ} {f : Addr} {fd : FuncData} (F : FunQ K d f fd) (hc : d.cl = [] := by rfl) : ∃ (oc : Value) (od : Option Addr) (dV kV doc pm : Value) (an : Option Addr) (cdv ct : Value) (osl : Array (Option Value)),
    fd = PySem.W.fnOf d.name d.qual (defArgs d.st) (defBody d.st) (defScope d.st) dV kV doc pm an cdv ct ∧ K.lookup f = some ⟨oc, od, .func fd, osl⟩ ∧ PySem.W.codeIn K cdv d.qual = true := by
  obtain ⟨oc, od, cl, dV, kV, doc, pm, an, cdv, ct, osl, rfl, ec, lk, k1, _⟩ := F.ex
  rw [hc] at ec
  obtain rfl : cl = [] := List.map_eq_nil_iff.mp ec
  exact ⟨oc, od, dV, kV, doc, pm, an, cdv, ct, osl, rfl, lk, k1⟩
/-- its parameters are bound to as many values -/
theorem FunQ.bs {K : PySem.W.Frag} {d : DefQ} {f : Addr} {fd : FuncData} {ps : List Str} (F : FunQ K d f fd)
    (h : ∀ (kV doc pm : Value) (an : Option Addr) (cdv ct : Value) (us : List Value), us.length = ps.length → bindArgs (PySem.W.fnOf d.name d.qual (defArgs d.st) (defBody d.st) (defScope d.st) .none kV doc pm an cdv ct) ⟨us, []⟩ = pure (ps.zip us)) (hc : d.cl = [] := by rfl) (hd : d.dfl = [] := by rfl) : Binds K fd ps [] := by
  obtain ⟨oc, od, cl, dV, kV, doc, pm, an, cdv, ct, osl, rfl, ec, lk, k1, dv⟩ := F.ex
  rw [hc] at ec
  obtain rfl : cl = [] := List.map_eq_nil_iff.mp ec
  rcases dv with ⟨_, rfl⟩ | ⟨z, _⟩
  · exact .all (h kV doc pm an cdv ct)
  · exact absurd hd z
theorem FunQ.bsA {K : PySem.W.Frag} {d : DefQ} {f : Addr} {fd : FuncData} {ps : List Str} (F : FunQ K d f fd)
    (h : ∀ (kV doc pm : Value) (an : Option Addr) (cdv ct : Value) (us : List Value), us.length = ps.length → bindArgs (PySem.W.fnOf d.name d.qual (defArgs d.st) (defBody d.st) (defScope d.st) .none kV doc pm an cdv ct) ⟨us, []⟩ = pure (ps.zip us)) (s : Shared) (us : List Value) (hl : us.length = ps.length) (hc : d.cl = [] := by rfl) (hd : d.dfl = [] := by rfl) : BindsTo s fd ⟨us, []⟩ (ps.zip us) := by
  obtain ⟨oc, od, cl, dV, kV, doc, pm, an, cdv, ct, osl, rfl, ec, lk, k1, dv⟩ := F.ex
  rw [hc] at ec
  obtain rfl : cl = [] := List.map_eq_nil_iff.mp ec
  rcases dv with ⟨_, rfl⟩ | ⟨z, _⟩
  · exact .of_eq (h kV doc pm an cdv ct us hl)
  · exact absurd hd z
/-! ### the Hook -/
abbrev Fact : Type := PySem.W.Frag → Bool
abbrev AlQ : Type := Bool × List FnQ
def obsQ (fa : List Fact) (fn : List DefQ) (K : PySem.W.Frag) : AlQ := ((fa.all fun f => f K) && fn.all fun d => d.ok K, fn.map fun d => fnQ K d.at_)
def valQ (fn : List DefQ) : AlQ := (true, fn.map DefQ.val)
def SaysQ (fa : List Fact) (fn : List DefQ) (K : PySem.W.Frag) : Prop := obsQ fa fn K = valQ fn
def obsQG (n : Nat) (fa : List Fact) (fn : List DefQ) (g : Addr → Option Obj) : AlQ := obsQ fa fn (frG g (sysModules :: cStatics :: asD g n))
def hookQ (n : Nat) (fa : List Fact) (fn : List DefQ) : PySem.W.Hook where
  α := AlQ
  obs := fun s => obsQG n fa fn s.heap.get?
  val := fun _ => valQ fn
  says := fun _ h => ∃ K : PySem.W.Frag, K.In h ∧ SaysQ fa fn K
  of := fun _ _ e => ⟨_, frG_in, e⟩
  keeps := fun _ _ _ ⟨K, hK, c⟩ k => ⟨K, PySem.W.Frag.In.keeps hK k, c⟩
theorem obsQG_eq {n : Nat} {fa : List Fact} {fn : List DefQ} {g : Addr → Option Obj} {s : Shared} (h : ∀ a, g a = s.heap.get? a) : obsQG n fa fn g = (hookQ n fa fn).obs s := by
  have e : g = s.heap.get? := funext h
  rw [e] <;> rfl
section
variable {fa : List Fact} {fn : List DefQ} {K : PySem.W.Frag}
theorem SaysQ.both (c : SaysQ fa fn K) : (fa.all fun f => f K) = true ∧ (fn.all fun d => d.ok K) = true := ba (show ((fa.all fun f => f K) && fn.all fun d => d.ok K) = true from congrArg (fun z : AlQ => z.1) c)
theorem SaysQ.fact (c : SaysQ fa fn K) (i : Nat) {f : Fact} (h : fa[i]? = some f := by rfl) : f K = true := List.all_eq_true.mp c.both.1 f (List.mem_of_getElem? h)
theorem SaysQ.def_ (c : SaysQ fa fn K) (i : Nat) {d : DefQ} (h : fn[i]? = some d := by rfl) : ∃ fd, FunQ K d (fAd K d.at_) fd := by
  have e : fn.map (fun d => fnQ K d.at_) = fn.map DefQ.val := congrArg (fun z : AlQ => z.2) c
  have e2 : (fn.map fun d => fnQ K d.at_)[i]? = (fn.map DefQ.val)[i]? := by rw [e]
  rw [List.getElem?_map, List.getElem?_map, h] at e2
  exact DefQ.fun (Option.some.inj e2) (List.all_eq_true.mp c.both.2 d (List.mem_of_getElem? h))
end
/-! ### the facts -/
def fGlo (x : Str) : Fact := fun K => eqO (PySem.W.nsIn K mainGlobals x) (some (some (.ref (ga K x))))
def fFree (xs : List Str) : Fact := fun K => xs.all fun x => eqO (PySem.W.nsIn K mainGlobals x) (some none)
def fSys : Fact := fun K => (K.lookup sysModules).isSome
/-- an exception class with a field -/
def fExc (x fld file : Str) : Fact := fun K =>
  let C := ga K x
  let f := ma K C "__init__"
  fGlo x K && (match K.lookup C with
    | some ⟨.type ty, _, .cls cd, sl⟩ => ty == "type" && (match cd.mro, sl.toList with
      | .ref C' :: bm, [_, _, _, _, some (.builtin n), _] => C' == C && n == "ValueError.__new__" && !cd.hasDel && cd.hasDict && PySem.HandSPX.refsVE bm
      | _, _ => false)
    | _ => false)
  && eqO (PySem.W.findIn K (.ref C) "__setattr__") (some (some (.builtin "object.__setattr__"))) && eqO (PySem.W.findIn K (.ref C) fld) (some none)
  && eqO (PySem.W.ks_superIn K C C "__init__") (some (some (.builtin "ValueError.__init__"))) && decide (PySem.W.subIn K (.ref C) (.type "ValueError") = some true)
  && eqO (PySem.W.nsIn K cStatics "thirdparty.any") (some none) && eqO (PySem.W.nsIn K mainGlobals "super") (some none)
  && (match K.lookup f with
    | some ⟨_, _, .func fd, _⟩ => (match fd.closure, fd.code with
      | [(_, cc)], .ref cda => (match K.lookup cc, K.lookup cda with
        | some ⟨_, _, .cell (some (.ref C')), _⟩, some ⟨_, _, .fields vs, _⟩ => C' == C && (match vs.toList with
          | _ :: _ :: .str z _ :: _ => z == file
          | _ => false)
        | _, _ => false)
      | _, _ => false)
    | _ => false)
  && eqO (PySem.W.findIn K (.ref C) "__init__") (some (some (.ref f))) && decide (PySem.W.typeIn K (.ref f) = some (.type "function")) && PySem.W.keepIn K (.ref C)
/-- an exception class, to be asked of -/
def fExB (x : Str) : Fact := fun K =>
  let C := ga K x
  eqO (PySem.W.findIn K (.ref C) "__getattribute__") (some (some (.builtin "BaseException.__getattribute__"))) && eqO (PySem.W.findIn K (.ref C) "__getattr__") (some none)
  && decide (PySem.W.subIn K (.ref C) (.type "BaseException") = some true) && PySem.W.hasDictIn K C && eqO (PySem.W.findIn K (.ref C) "__class__") (some (some (.builtin "object.__class__")))
  && eqO (PySem.W.specialIn K (.builtin "object.__class__") "__get__") (some (some (.builtin "getset_descriptor.__get__"))) && decide (PySem.W.takesIn K (.builtin "object.__class__") = some true)
  && decide (PySem.W.mroIn K C (.type "object") = some true) && decide (PySem.W.typeIn K (.ref C) = some (.type "type"))
section
variable {K : PySem.W.Frag} {h : Heap} {mg : Str → Option Value} {x fld file : Str}
theorem fGlo_ok (X : K.In h) (G : h.Ns mainGlobals mg) (c : fGlo x K = true) : mg x = some (.ref (ga K x)) := PySem.W.mg_of X G (eqO_ok c)
theorem fFree_ok {xs : List Str} (X : K.In h) (G : h.Ns mainGlobals mg) (c : fFree xs K = true) (hx : x ∈ xs) : mg x = none := PySem.W.mg_none_of X G (eqO_ok (List.all_eq_true.mp c x hx))
theorem fSys_ok (X : K.In h) (c : fSys K = true) : Sys h := by
  obtain ⟨o, e⟩ := Option.isSome_iff_exists.mp (show (K.lookup sysModules).isSome = true from c)
  show (h.get? sysModules).isSome = true
  rw [X _ _ e]
  rfl
theorem fExB.ok (c : fExB x K = true) : ExcC K (ga K x) ∧ PySem.W.typeIn K (.ref (ga K x)) = some (.type "type") := by
  unfold fExB at c
  simp only [Bool.and_eq_true, decide_eq_true_eq] at c
  obtain ⟨⟨⟨⟨⟨⟨⟨⟨c1, c2⟩, c3⟩, c4⟩, c5⟩, c6⟩, c7⟩, c8⟩, c9⟩ := c
  exact ⟨⟨eqO_ok c1, eqO_ok c2, c3, c4, eqO_ok c5, eqO_ok c6, c7, c8⟩, c9⟩
theorem fExc.ok {P : Program} {d : DefQ} (c : fExc x fld file K = true) (b : fExB x K = true) {fd : FuncData} (F : FunQ K d (fAd K d.at_) fd) (hat : d.at_ = (x, some (Str.ofString "__init__"))) (hn : d.name = Str.ofString "__init__") (hdf : d.dfl = [.non]) (hcl : d.cl = [Str.ofString "__class__"])
    (hfl : fld = "value" ∨ fld = "name") {p1 p2 p3 q1 q2 q3 q4 q5 q6 q7 q8 q9 q10 : Pos} (ha : defArgs d.st = xA fld p1 p2 p3) (hb : defBody d.st = xB fld q1 q2 q3 q4 q5 q6 q7 q8 q9 q10) (hs : defScope d.st = xS fld)
    (hq : (q3.endLine == q5.line) = true) (hfile : ((P.main.file : Str) == file) = true) (htop : (P.main.scope.names.lookup ("super" : Str)).isSome = false) (X : K.In h) (G : h.Ns mainGlobals mg) : ExK P K mg x fld d.qual (ga K x) (ma K (ga K x) "__init__") := by
  unfold fExc at c
  simp only [Bool.and_eq_true, decide_eq_true_eq] at c
  obtain ⟨⟨⟨⟨⟨⟨⟨⟨⟨⟨⟨c0, c1⟩, c2⟩, c3⟩, c4⟩, c5⟩, c6⟩, c7⟩, c8⟩, c9⟩, c10⟩, c11⟩ := c
  obtain ⟨b1, b2⟩ := fExB.ok b
  have ef : fAd K d.at_ = ma K (ga K x) "__init__" := by rw [hat] <;> rfl
  rw [ef] at F
  obtain ⟨oc, od, cl, dV, kV, doc, pm, an, cdv, ct, osl, efd, ec, lk, k1, dv⟩ := F.ex
  subst efd
  rw [lk] at c8
  rw [hcl] at ec
  obtain ⟨⟨n0, cc⟩, cl2, rfl⟩ : ∃ a r, cl = a :: r := by
    cases cl with
    | nil => cases ec
    | cons a r => exact ⟨a, r, rfl⟩
  have ec2 : n0 = Str.ofString "__class__" ∧ cl2 = [] := by
    simp only [List.map_cons, List.cons.injEq, List.map_eq_nil_iff] at ec
    exact ec
  obtain ⟨rfl, rfl⟩ := ec2
  obtain ⟨cda, rfl⟩ : ∃ cda, cdv = .ref cda := by
    cases cdv <;> first | exact ⟨_, rfl⟩ | (exfalso; revert c8; simp)
  have c8' : (match K.lookup cc, K.lookup cda with
        | some ⟨_, _, .cell (some (.ref C')), _⟩, some ⟨_, _, .fields vs, _⟩ => C' == (ga K x) && (match vs.toList with
          | _ :: _ :: .str z _ :: _ => z == file
          | _ => false)
        | _, _ => false) = true := c8
  refine ⟨fGlo_ok X G c0, ⟨hfl, ?_, eqO_ok c2, eqO_ok c3, eqO_ok c4, c5, eqO_ok c6, eqO_ok c7, ?_, htop⟩, eqO_ok c9, c10, ?_, c11, b1, b2⟩
  · split at c1
    · rename_i ty dd cd sl e
      simp only [Bool.and_eq_true, beq_iff_eq] at c1
      obtain ⟨rfl, c1⟩ := c1
      split at c1
      · rename_i C' bm k0 k1' k2 k3 n k5 hm hsl
        simp only [Bool.and_eq_true, beq_iff_eq, Bool.not_eq_true'] at c1
        obtain ⟨⟨⟨⟨rfl, rfl⟩, hdel⟩, hdict⟩, hr⟩ := c1
        obtain ⟨n1, n2, n3, n4, n5, n6, n7, n8, n9, n10, n11⟩ := cd
        have hm' : n3 = _ := hm
        have hdel' : n11 = false := hdel
        have hdict' : n6 = true := hdict
        subst hm' hdel' hdict'
        obtain ⟨sl⟩ := sl
        have hsl' : sl = _ := hsl
        subst hsl'
        exact ⟨_, _, _, _, _, _, _, _, _, _, _, _, _, _, _, e, hr⟩
      · cases c1
    · cases c1
  · split at c8'
    · rename_i cl0 cld C' csl ccl cdd vs ccs e1 e2
      simp only [Bool.and_eq_true, beq_iff_eq] at c8'
      obtain ⟨rfl, c8'⟩ := c8'
      split at c8'
      · rename_i v0 v1 z t r hv
        have hz : z = file := beq_iff_eq.mp c8'
        subst hz
        refine ⟨oc, od, dV, kV, doc, pm, an, cda, ct, cc, osl, p1, p2, p3, q1, q2, q3, q4, q5, q6, q7, q8, q9, q10, cl0, ccl, cld, cdd, csl, ccs, vs, z, t, ?_, k1, e1, e2, ?_, hfile, hq⟩
        · rw [lk, hn, ha, hb, hs] <;> rfl
        · rw [← Array.getElem?_toList, hv]
          rfl
      · cases c8'
    · cases c8'
  · intro o fd' e1 e2
    rw [lk] at e1
    cases e1
    cases e2
    rcases dv with ⟨z, _⟩ | ⟨_, T, oT, its, n, rfl, hT, hd, hv⟩
    · rw [hdf] at z
      cases z
    · rw [hdf] at hv
      obtain ⟨u, rfl, ru⟩ := vals1 hv
      obtain rfl : u = Value.none := ru
      exact ⟨T, oT, n, rfl, hT, hd⟩
end
end L2.Z

set_option maxHeartbeats 4000000
/-! Operators by what their operands are. -/
namespace L2.Z
open PySem PySem.Spec PyProof.Rows
theorem orO {X : Cx} {f : Value → Value → Sem Value} {r r' : R2} (h : OpR X f r) (h' : OpR X f r') : OpR X f (fun x y H Q => r x y H Q ∨ r' x y H Q) := fun pins s σ H x y v u Q I rx ry q => q.elim (h pins s σ H x y v u Q I rx ry) (h' pins s σ H x y v u Q I rx ry)
theorem orC {X : Cx} {f : Value} {r r' : List V → Hp → VK → Prop} (h : CallR X f r) (h' : CallR X f r') : CallR X f (fun vs H Q => r vs H Q ∨ r' vs H Q) := fun pins s σ H vs us Q I rx q => q.elim (h pins s σ H vs us Q I rx) (h' pins s σ H vs us Q I rx)
theorem OpR.weak {X : Cx} {f : Value → Value → Sem Value} {r r' : R2} (h : OpR X f r) (k : ∀ x y H Q, r' x y H Q → r x y H Q) : OpR X f r' := fun pins s σ H x y v u Q I rx ry q => h pins s σ H x y v u Q I rx ry (k _ _ _ _ q)
theorem SlR.weak {X : Cx} {r r' : V → Option Int → Option Int → Hp → VK → Prop} (h : L2.SlR X r) (k : ∀ x l u H Q, r' x l u H Q → r x l u H Q) : L2.SlR X r' := fun pins s σ H x v vl vu lo hi sl Q I rx hs pl pu q => h pins s σ H x v vl vu lo hi sl Q I rx hs pl pu (k _ _ _ _ _ q)
theorem CallR.weak {X : Cx} {f : Value} {r r' : List V → Hp → VK → Prop} (h : CallR X f r) (k : ∀ x H Q, r' x H Q → r x H Q) : CallR X f r' := fun pins s σ H x us Q I rx q => h pins s σ H x us Q I rx (k _ _ _ q)
/-- H' has a new object o at p; what stood stands -/
structure New (H : Hp) (p : Addr) (o : HO) (H' : Hp) : Prop where
  same : Same H H'
  free : H p = none
  here : H' p = some o
theorem same_upd {H : Hp} {p : Addr} {o : HO} (hp : H p = none) : Same H (upd H p o) := fun b u e => by rw [upd_ne (ne_of_none e hp)]; exact e
theorem New.upd {H : Hp} {p : Addr} {o : HO} (hp : H p = none) : New H p o (upd H p o) := ⟨same_upd hp, hp, upd_same⟩
section
variable {X : Cx} {e : Expr} {es : List Expr} {σ : St} {H : Hp} {Q : VK} {pos p2 : Pos} {lo hi : Option Expr}
theorem e_lstN (h : AW X es σ H fun ys H1 => ys.length ≤ sizeLine ∧ ∀ p H', New H1 p (.lst ys) H' → Q (.ref p) H') : EW X (.List es pos) σ H Q := e_lst (AW.mono h fun ys H1 ⟨a, b⟩ => ⟨a, fun p hp => b p _ (.upd hp)⟩)
theorem e_tupN {z} (h : AW X es σ H fun ys H1 => ys.length ≤ sizeLine ∧ ∀ p H', New H1 p (.tup ys) H' → Q (.ref p) H') : EW X (.Tuple es z pos) σ H Q := e_tup (AW.mono h fun ys H1 ⟨a, b⟩ => ⟨a, fun p hp => b p _ (.upd hp)⟩)
theorem e_dKN (h : ∀ p H', New H p (.dK []) H' → Q (.ref p) H') : EW X (.Dict [] [] pos) σ H Q := e_dK fun p hp => h p _ (.upd hp)
def rSlLN (K : PySem.W.Frag) : V → Option Int → Option Int → Hp → VK → Prop := fun x lo hi H Q => ∃ a xs, x = .ref a ∧ SqL K H a xs ∧ ∀ p H', New H p (.lst (cutV xs lo hi)) H' → Q (.ref p) H'
theorem sl_listN : L2.SlR X (rSlLN X.K) := SlR.weak sl_list fun x l u H Q ⟨a, xs, e, h, q⟩ => ⟨a, xs, e, h, fun p hp => q p _ (.upd hp)⟩
end
def rCatN : R2 := fun x y H Q => ∃ l b xs zs, x = .ref l ∧ y = .ref b ∧ H l = some (.lst xs) ∧ H b = some (.lst zs) ∧ xs.length + zs.length ≤ sizeLine ∧ ∀ p H', New H p (.lst (xs ++ zs)) H' → Q (.ref p) H'
def rCatTN (K : PySem.W.Frag) : R2 := fun x y H Q => ∃ a b xs ys, x = .ref a ∧ y = .ref b ∧ SqT K H a xs ∧ SqT K H b ys ∧ xs ≠ [] ∧ xs.length + ys.length ≤ sizeLine ∧ (ys = [] → Q (.ref a) H) ∧ (ys ≠ [] → ∀ p H', New H p (.tup (xs ++ ys)) H' → Q (.ref p) H')
def rRepN : R2 := fun x y H Q => ∃ l k xs, x = .ref l ∧ y = .int k ∧ H l = some (.lst xs) ∧ -(2 ^ 63) ≤ k ∧ k < 2 ^ 63 ∧ xs.length * k.toNat ≤ sizeLine ∧ ∀ p H', New H p (.lst (List.replicate k.toNat xs).flatten) H' → Q (.ref p) H'
def rAddZ (K : PySem.W.Frag) : R2 := fun x y H Q => rI0 (fun i j => .int (i + j)) x y H Q ∨ rCatN x y H Q ∨ rCatTN K x y H Q
def rMulZ : R2 := fun x y H Q => rI CMulW (fun i j => .int (i * j)) x y H Q ∨ rRepN x y H Q
section
variable {X : Cx}
theorem z_add : OpR X (binaryOp .Add) (rAddZ X.K) := orO op_add (orO (OpR.weak op_cat fun x y H Q ⟨l, b, xs, zs, e1, e2, h1, h2, h3, q⟩ => ⟨l, b, xs, zs, e1, e2, h1, h2, h3, fun p hp => q p _ (.upd hp)⟩)
  (OpR.weak op_catT fun x y H Q ⟨l, b, xs, zs, e1, e2, h1, h2, h3, h4, h5, q⟩ => ⟨l, b, xs, zs, e1, e2, h1, h2, h3, h4, h5, fun ne p hp => q ne p _ (.upd hp)⟩))
theorem z_mul : OpR X (binaryOp .Mult) rMulZ := orO op_mulW (OpR.weak op_rep fun x y H Q ⟨l, k, xs, e1, e2, h1, h2, h3, h4, q⟩ => ⟨l, k, xs, e1, e2, h1, h2, h3, h4, fun p hp => q p _ (.upd hp)⟩)
end
theorem cmulW {i j : Int} (a b : Nat) (ha : i.natAbs < 2 ^ a) (hb : j.natAbs < 2 ^ b) (h0 : 0 < a := by decide) (h1 : 0 < b := by decide) (h : a + b ≤ 1000000 := by decide) : CMulW i j := wide_mul ha hb h0 h1 h
/-- an int of at most 64 signs -/
theorem nat64 {i : Int} (h1 : -(2 ^ 63) ≤ i) (h2 : i < 2 ^ 63) : i.natAbs < 2 ^ 64 := by omega
end L2.Z

set_option maxHeartbeats 4000000
namespace L2.Z
open PySem PySem.Spec PyProof.Rows
theorem cutV_map {α : Type} (g : α → V) (ns : List α) (lo hi : Option Int) : ∃ ms : List α, cutV (ns.map g) lo hi = ms.map g := by
  refine ⟨(ns.drop (HT.sIx (ns.map g).length 0 lo)).take (HT.sIx (ns.map g).length (ns.map g).length hi - HT.sIx (ns.map g).length 0 lo), ?_⟩
  unfold cutV
  rw [← List.map_drop, ← List.map_take]
theorem intBits_lt {i : Int} {n : Nat} (h : i.natAbs < 2 ^ n) (h0 : 0 < n) : Builtin.Int.intBits i ≤ n := by
  unfold Builtin.Int.intBits
  have := PySem.Flt.log2_lt_of h0 h
  split <;> omega
theorem mul_lt {i j : Int} {a b c : Nat} (ha : i.natAbs < 2 ^ a) (hb : j.natAbs < 2 ^ b) (h : a + b ≤ c) : (i * j).natAbs < 2 ^ c := Nat.lt_of_lt_of_le (wide_lt ha hb) (Nat.pow_le_pow_right (by decide) h)
theorem lt_pow {i : Int} {a b : Nat} (ha : i.natAbs < 2 ^ a) (h : a ≤ b) : i.natAbs < 2 ^ b := Nat.lt_of_lt_of_le ha (Nat.pow_le_pow_right (by decide) h)
theorem add_lt {i j : Int} {a c : Nat} (ha : i.natAbs < 2 ^ a) (hb : j.natAbs < 2 ^ a) (h : a < c) : (i + j).natAbs < 2 ^ c := by
  have h1 : (2 : Nat) ^ (a + 1) ≤ 2 ^ c := Nat.pow_le_pow_right (by decide) h
  rw [Nat.pow_succ] at h1
  omega
theorem szL {n : Nat} (h : Nat.ble n 1000 = true := by rfl) : n ≤ sizeLine := Nat.le_trans (Nat.le_of_ble_eq_true h) (by decide)
section
variable {X : Cx} {σ : St} {H : Hp} {Q : VK} {x c : Str} {p p1 p2 pos : Pos} {e : Expr}
theorem e_glob {u : Value} {v : V} (hm : X.mg x = some u) (r : RelV v u) (q : Q v H) (hg : Gl X x := by rfl) (hd : (x == ("__debug__" : Str)) = false := by decide) : EW X (.Name x pos) σ H Q := e_of (pe_glob hg hm r hd) q
theorem e_bltn {u : Value} {v : V} (hm : X.mg x = none) (hv : bootBuiltins x = some u) (r : RelV v u) (q : Q v H) (hg : Gl X x := by rfl) (hn : x ≠ "__name__" := by decide) (hd : (x == ("__debug__" : Str)) = false := by decide) : EW X (.Name x pos) σ H Q := e_of (pe_bltn hg hm hv r hn hd) q
/-- isinstance(e, C), C a class of the module -/
theorem e_isC {C : Addr} (mi : X.mg "isinstance" = none) (hm : X.mg c = some (.ref C)) (h : EW X e σ H fun v H1 => ∃ t b, TyZ X.K H1 v t ∧ PySem.W.kitOne X.K t (.ref C) = some b ∧ Q (.bl b) H1)
    (hg : Gl X "isinstance" := by rfl) (hg2 : Gl X c := by rfl) (hd : (c == ("__debug__" : Str)) = false := by decide) (h1 : starEach [e, .Name c p2] X.env = (false, eval e X.env) :: starEach [.Name c p2] X.env := by rfl)
    (h2 : starEach [.Name c p2] X.env = (false, eval (.Name c p2) X.env) :: starEach [] X.env := by rfl) (h3 : (backTo pos (starEach [.Name c p2] X.env)).any (·.1) = false := by rfl) : EW X (.Call (.Name "isinstance" p) [e, .Name c p2] [] pos) σ H Q := by
  refine e_callB call_isZ mi boot_isinstance ?_ hg (by decide) (by decide) h1 h3
  refine a_cons (EW.mono h fun v H1 ⟨t, b, ty, k, q⟩ => ?_) h1
  refine a_cons (e_glob (v := .ref C) hm rfl ?_ hg2 hd) h2
  exact a_nil ⟨v, .ref C, t, _, b, rfl, .own C, ty, k, q⟩
/-- isinstance(e, T), T a built-in class -/
theorem e_isT {T : String} (mi : X.mg "isinstance" = none) (hm : X.mg c = none) (hv : bootBuiltins c = some (.type T)) (h : EW X e σ H fun v H1 => ∃ t b, TyZ X.K H1 v t ∧ PySem.W.kitOne X.K t (.type T) = some b ∧ Q (.bl b) H1)
    (hg : Gl X "isinstance" := by rfl) (hg2 : Gl X c := by rfl) (hn : c ≠ "__name__" := by decide) (hd : (c == ("__debug__" : Str)) = false := by decide) (h1 : starEach [e, .Name c p2] X.env = (false, eval e X.env) :: starEach [.Name c p2] X.env := by rfl)
    (h2 : starEach [.Name c p2] X.env = (false, eval (.Name c p2) X.env) :: starEach [] X.env := by rfl) (h3 : (backTo pos (starEach [.Name c p2] X.env)).any (·.1) = false := by rfl) : EW X (.Call (.Name "isinstance" p) [e, .Name c p2] [] pos) σ H Q := by
  refine e_callB call_isZ mi boot_isinstance ?_ hg (by decide) (by decide) h1 h3
  refine a_cons (EW.mono h fun v H1 ⟨t, b, ty, k, q⟩ => ?_) h1
  refine a_cons (e_bltn (v := .ty T) hm hv rfl ?_ hg2 hn hd) h2
  exact a_nil ⟨v, .ty T, t, _, b, rfl, .ty T, ty, k, q⟩
end
/-! ### lists of exceptions -/
/-- at a an exception of the class c.1, its field c.2 is v -/
def ErrAt (H : Hp) (v : V) (a : Addr) (c : Addr × Str) : Prop := ∃ d, H a = some (exT a c.1 d) ∧ H d = some (.xd [(c.2, v)])
theorem ErrAt.keep {H H' : Hp} {v : V} {a : Addr} {c : Addr × Str} (h : ErrAt H v a c) (k : Same H H') : ErrAt H' v a c := by
  obtain ⟨d, h1, h2⟩ := h
  exact ⟨d, k _ _ h1, k _ _ h2⟩
abbrev Errs (H : Hp) (v : V) : List Addr → List (Addr × Str) → Prop := Paired (ErrAt H v)
theorem Errs.keep {H H' : Hp} {v : V} (k : Same H H') : ∀ {as : List Addr} {cs : List (Addr × Str)}, Errs H v as cs → Errs H' v as cs
  | _, _, .nil => .nil
  | _, _, .cons h t => .cons (h.keep k) (Errs.keep k t)
theorem Errs.append {H : Hp} {v : V} : ∀ {as bs : List Addr} {cs ds : List (Addr × Str)}, Errs H v as cs → Errs H v bs ds → Errs H v (as ++ bs) (cs ++ ds)
  | _, _, _, _, .nil, t => t
  | _, _, _, _, .cons h s, t => .cons h (Errs.append s t)
theorem same_new {H : Hp} {C : Addr} {fld : Str} {v : V} {a d : Addr} (na : H a = none) (nd : H d = none) (ne : d ≠ a) : Same H (upd (upd H d (.xd [(fld, v)])) a (exT a C d)) ∧ ErrAt (upd (upd H d (.xd [(fld, v)])) a (exT a C d)) v a (C, fld) := by
  refine ⟨fun b u e => ?_, d, upd_same, ?_⟩
  · rw [upd_ne (ne_of_none e na), upd_ne (ne_of_none e nd)]
    exact e
  · rw [upd_ne ne, upd_same]
/-- a new exception of c, its field v -/
def NewErr (c : Addr × Str) (v : V) (H : Hp) (Q : VK) : Prop := ∀ a H', Same H H' → H a = none → ErrAt H' v a c → Q (.ref a) H'
theorem NewErr.ex {C : Addr} {fld : Str} {v : V} {H : Hp} {Q : VK} (h : NewErr (C, fld) v H Q) : NewEx C fld v H Q := fun a d na nd ne => h a _ (same_new na nd ne).1 na (same_new na nd ne).2
/-- e makes such an exception of v, wherever it stands -/
structure MkEx (X : Cx) (σ : St) (v : V) (e : Expr) (c : Addr × Str) : Prop where
  ew : ∀ (H : Hp) (Q : VK), NewErr c v H Q → EW X e σ H Q
  st : ∀ es : List Expr, starEach (e :: es) X.env = (false, eval e X.env) :: starEach es X.env
theorem a_exs {X : Cx} {σ : St} {v : V} : ∀ {es : List Expr} {cs : List (Addr × Str)} {H : Hp} {Q : List V → Hp → Prop}, Paired (MkEx X σ v) es cs → (∀ as H', Same H H' → Errs H' v as cs → Q (as.map V.ref) H') → AW X es σ H Q
  | _, _, H, Q, .nil, h => a_nil (h [] H (Same.refl H) .nil)
  | _, _, H, Q, .cons m t, h => a_cons (m.ew H _ fun a H1 s1 na h1 => a_exs t fun as H' sm he => h (a :: as) H' (s1.trans sm) (.cons (h1.keep sm) he)) (m.st _)
/-! ### how long a text is -/
structure Gd (d : PyData) : Prop where
  sh : d.showable = true
  lf : d.leavesShort 13 = true
  wt : d.weight ≤ 1000
  dp : d.depth ≤ 20
theorem Gd.len {d : PyData} (g : Gd d) : d.shown.length ≤ sizeLine := PyData.shown_fits (B := 13) (by decide) (by decide) g.lf (Nat.le_trans g.wt (by decide))
theorem all_rep {f : List PyData → Bool} {g : PyData → Bool} {d : PyData} (f0 : f [] = true) (fc : ∀ x xs, f (x :: xs) = (g x && f xs)) (h : g d = true) : ∀ n, f (List.replicate n d) = true
  | 0 => f0
  | n + 1 => by rw [List.replicate_succ, fc, h, all_rep f0 fc h n]; rfl
theorem weight_rep {d : PyData} : ∀ n, PyData.weightAll (List.replicate n d) = n * (d.weight + 1)
  | 0 => by simp [PyData.weightAll]
  | n + 1 => by rw [List.replicate_succ, PyData.weightAll, weight_rep n, Nat.succ_mul]; omega
theorem depth_rep {d : PyData} : ∀ n, PyData.depthAll (List.replicate n d) ≤ d.depth
  | 0 => by simp [PyData.depthAll]
  | n + 1 => by
    rw [List.replicate_succ, PyData.depthAll]
    have := depth_rep (d := d) n
    omega
/-- n times the same in a list -/
theorem Gd.rep {d : PyData} (g : Gd d) {n : Nat} (hn : n ≤ 100) : (PyData.list (List.replicate n d)).showable = true ∧ (PyData.list (List.replicate n d)).shown.length ≤ sizeLine ∧ (PyData.list (List.replicate n d)).depth ≤ 60 := by
  refine ⟨?_, PyData.shown_fits (B := 13) (by decide) (by decide) ?_ ?_, ?_⟩
  · rw [PyData.showable]
    exact all_rep (g := PyData.showable) (by simp [PyData.showableAll]) (fun x xs => by rw [PyData.showableAll]) g.sh n
  · rw [PyData.leavesShort]
    exact all_rep (g := PyData.leavesShort 13) (by simp [PyData.leavesShortAll]) (fun x xs => by rw [PyData.leavesShortAll]) g.lf n
  · rw [PyData.weight, weight_rep]
    have h1 : n * (d.weight + 1) ≤ 100 * 1001 := Nat.mul_le_mul hn (by have := g.wt; omega)
    exact Nat.le_trans h1 (by decide)
  · rw [PyData.depth]
    have := depth_rep (d := d) n
    have := g.dp
    omega
end L2.Z

set_option maxHeartbeats 4000000
/-! What no one changes: G, a part of the heap H. -/
namespace L2.Z
open PySem PySem.Spec PyProof.Rows
/-- from (G, H) to (G', H'): what stands in G, in H stands; what is new in G' is new in H' -/
structure Gr (G H G' H' : Hp) : Prop where
  gg : Same G G'
  gh : Same G' H'
  hh : Same H H'
  nw : ∀ b, G b = none → H b ≠ none → G' b = none
theorem Gr.refl {G H : Hp} (h : Same G H) : Gr G H G H := ⟨Same.refl _, h, Same.refl _, fun _ e _ => e⟩
theorem Gr.trans {G H G1 H1 G2 H2 : Hp} (a : Gr G H G1 H1) (b : Gr G1 H1 G2 H2) : Gr G H G2 H2 :=
  ⟨a.gg.trans b.gg, b.gh, a.hh.trans b.hh, fun c e n => b.nw c (a.nw c e n) (fun z => n (by
    cases q : H c with
    | none => rfl
    | some o => rw [a.hh _ _ q] at z; cases z))⟩
/-- the heap has grown -/
theorem Gr.of {G H H' : Hp} (h : Same G H) (k : Same H H') : Gr G H G H' := ⟨Same.refl _, h.trans k, k, fun _ e _ => e⟩
theorem Gr.step {G H G1 H1 H2 : Hp} (a : Gr G H G1 H1) (k : Same H1 H2) : Gr G H G1 H2 := a.trans (.of a.gh k)
/-- a new object is put into G -/
theorem Gr.new {G H H' : Hp} {p : Addr} {o : HO} (h : Same G H) (n : New H p o H') : Gr G H (upd G p o) H' := by
  have gp : G p = none := h.free n.free
  refine ⟨same_upd gp, fun b u e => ?_, n.same, fun b e ne => ?_⟩
  · by_cases hb : b = p
    · subst hb
      rw [upd_same] at e
      cases e
      exact n.here
    · rw [upd_ne hb] at e
      exact n.same _ _ (h _ _ e)
  · rw [upd_ne (fun z => ne (by rw [z]; exact n.free))]
    exact e
/-- an object that stood apart since it was new is put into G -/
theorem Gr.put {G H G' H' : Hp} {p : Addr} {o : HO} (a : Gr G H G' H') (f : H p = none) (g : G' p = none) (e : H' p = some o) : Gr G H (upd G' p o) H' ∧ Same G' (upd G' p o) := by
  refine ⟨⟨a.gg.trans (same_upd g), fun b u z => ?_, a.hh, fun b z ne => ?_⟩, same_upd g⟩
  · by_cases hb : b = p
    · subst hb
      rw [upd_same] at z
      cases z
      exact e
    · rw [upd_ne hb] at z
      exact a.gh _ _ z
  · rw [upd_ne (fun y => ne (by rw [y]; exact f))]
    exact a.nw b z ne
/-- an object that stands apart is changed; it was new -/
theorem Gr.write {G H G' H' : Hp} {p : Addr} {o : HO} (a : Gr G H G' H') (f : H p = none) (g : G' p = none) : Gr G H G' (upd H' p o) := by
  refine ⟨a.gg, fun b u z => ?_, fun b u z => ?_, a.nw⟩
  · rw [upd_ne (ne_of_none z g)]
    exact a.gh _ _ z
  · rw [upd_ne (ne_of_none z f)]
    exact a.hh _ _ z
theorem Gr.off {G H G' H' : Hp} {p : Addr} {o : HO} (a : Gr G H G' H') (g : G p = none) (e : H p = some o) : G' p = none ∧ H' p = some o := ⟨a.nw p g (by rw [e]; simp), a.hh _ _ e⟩
/-- a new object that stays apart -/
theorem Gr.off_new {G H H' : Hp} {p : Addr} {o : HO} (h : Same G H) (n : New H p o H') : Gr G H G H' ∧ G p = none ∧ H' p = some o := ⟨.of h n.same, h.free n.free, n.here⟩
section
variable {X : Cx} {tg iter : Expr} {σ : St} {H : Hp} {Q : VK} {pos : Pos}
/-- [elt for tg in iter if ..], its items told by Pv: what holds of the items made so far, in G -/
def LcN (X : Cx) (elt tg iter : Expr) (ifs : List Expr) (scope : Scope) (own : List (Str × Nat)) (σ : St) (H : Hp) (Q : VK) : Prop :=
    (IW X tg iter σ H fun n S Y H1 => ∃ (G : Hp) (Pv : Nat → List V → Hp → Prop), Same G H1 ∧ n ≤ sizeLine ∧ Pv 0 [] G ∧ (∀ i acc G' H', i ≤ n → Gr G H1 G' H' → Pv i acc G' → S H') ∧
      (∀ i acc G' H' x H2, i < n → acc.length ≤ i → Gr G H1 G' H' → Pv i acc G' → Y i H' x H2 → ∀ X', IsBlk X scope X' → GW X' tg x (wipe σ (own.map (·.2))) H2 fun σ3 H3 => wipe σ3 (own.map (·.2)) = wipe σ (own.map (·.2)) ∧
        ∀ X', IsBlk X scope X' → IfsW X' ifs σ3 H3 fun b H4 => if b = true then ∀ X', IsBlk X scope X' → EW X' elt σ3 H4 fun y H5 => ∃ G5, Gr G' H' G5 H5 ∧ Pv (i + 1) (acc ++ [y]) G5 else ∃ G4, Gr G' H' G4 H4 ∧ Pv (i + 1) acc G4) ∧
      ∀ L acc G2 G' H', acc.length ≤ n → Gr G H1 G2 H' → Gr G H1 G' H' → Pv n acc G2 → Same G2 G' → H1 L = none → G' L = some (.lst acc) → Q (.ref L) H')
theorem LcN.w {elt : Expr} {ifs : List Expr} {scope : Scope} {own : List (Str × Nat)} (h : LcN X elt tg iter ifs scope own σ H Q) : LcW X elt tg iter ifs scope own σ H Q := by
  obtain ⟨wi, p, q⟩ := h
  refine ⟨wi, p, fun R hR => q R fun J H1 n S Y w hk => hR J H1 n S Y w fun L hL => ?_⟩
  obtain ⟨G, Pv, sG, hn, h0, hS, ht, hd⟩ := hk
  have gL : G L = none := sG.free hL
  refine ⟨fun i H' => ∃ acc G', acc.length ≤ i ∧ Gr G H1 G' H' ∧ G' L = none ∧ H' L = some (.lst acc) ∧ Pv i acc G', ⟨[], G, Nat.le_refl _, .of sG (same_upd hL), gL, upd_same, h0⟩, ?_, ?_, ?_⟩
  · rintro i H' hi ⟨acc, G', hl, g, _, _, pv⟩
    exact hS i acc G' H' hi g pv
  · rintro i H' x H2 hi ⟨acc, G', hl, g, gL', hL', pv⟩ y X' bX
    have z := ht i acc G' H' x H2 hi hl g pv y X' bX
    refine fun pins s u I r => thn (z pins s u I r) fun _ s' ⟨σ', H3, I', e, k⟩ => ⟨σ', H3, I', e, fun X2 b2 => ?_⟩
    have kk := k X2 b2
    have imp : ∀ b H4, (if b = true then ∀ X', IsBlk X scope X' → EW X' elt σ' H4 fun y H5 => ∃ G5, Gr G' H' G5 H5 ∧ Pv (i + 1) (acc ++ [y]) G5 else ∃ G4, Gr G' H' G4 H4 ∧ Pv (i + 1) acc G4) →
        (if b = true then ∀ X', IsBlk X scope X' → EW X' elt σ' H4 fun y H5 => ∃ acc, H5 L = some (.lst acc) ∧ acc.length < sizeLine ∧ ∃ acc_1 G', acc_1.length ≤ i + 1 ∧ Gr G H1 G' (upd H5 L (.lst (acc ++ [y]))) ∧ G' L = none ∧ (upd H5 L (.lst (acc ++ [y]))) L = some (.lst acc_1) ∧ Pv (i + 1) acc_1 G'
          else ∃ acc G', acc.length ≤ i + 1 ∧ Gr G H1 G' H4 ∧ G' L = none ∧ H4 L = some (.lst acc) ∧ Pv (i + 1) acc G') := fun b H4 z => by
      cases b with
      | true =>
        rw [if_pos rfl] at z ⊢
        intro X3 b3
        refine (z X3 b3).mono fun y H5 ⟨G5, g5, pv5⟩ => ?_
        obtain ⟨o1, o2⟩ := g5.off gL' hL'
        refine ⟨acc, o2, by omega, acc ++ [y], G5, by rw [List.length_append]; show acc.length + 1 ≤ i + 1; omega, (g.trans g5).write hL o1, o1, upd_same, pv5⟩
      | false =>
        rw [if_neg Bool.false_ne_true] at z ⊢
        obtain ⟨G4, g4, pv4⟩ := z
        obtain ⟨o1, o2⟩ := g4.off gL' hL'
        exact ⟨acc, G4, by omega, g.trans g4, o1, o2, pv4⟩
    unfold IfsW at kk ⊢
    match ifs, kk with
    | [], kk => exact imp _ _ kk
    | [c], kk => exact kk.mono imp
  · rintro H' ⟨acc, G', hl, g, gL', hL', pv⟩
    obtain ⟨g2, s2⟩ := g.put hL gL' hL'
    exact hd L acc G' _ H' hl g g2 pv s2 hL upd_same
theorem e_lcN {elt : Expr} {ifs : List Expr} {scope : Scope} {own : List (Str × Nat)} (hN : X.N.Nodup) (ok : blkC X.N X.env.scope scope own = true) (h : LcN X elt tg iter ifs scope own σ H Q)
    (hc : X.calm = true := by rfl) (hs : ∀ x, foldedSetIterable iter X.env x = pure x := by intro _; rfl) : EW X (.ListComp elt [⟨tg, iter, ifs, 0⟩] scope pos) σ H Q := e_lc (own := own) hN ok h.w hc hs
theorem s_lcN {D : Ends} {elt : Expr} {ifs : List Expr} {scope : Scope} {own : List (Str × Nat)} {i : Nat} {y : Str} {py spos : Pos} {N : List Str} (hN : X.N.Nodup) (hX : X.N = N) (hi : At N i y) (ok : blkC X.N X.env.scope scope own = true)
    (h : LcN X elt tg iter ifs scope own σ H fun v H1 => D.nx (σ.set i (some v)) H1) (hyl : X.env.scope.names.lookup y = some .local := by rfl)
    (hsw : swapsWith (.ListComp elt [⟨tg, iter, ifs, 0⟩] scope pos) (some (.Name y py)) spos.line X.env = pure true := by exact sw_true rfl rfl rfl (by decide +kernel))
    (hc : X.calm = true := by rfl) (hs : ∀ x, foldedSetIterable iter X.env x = pure x := by intro _; rfl) : SW X (.Assign [.Name y py] (.ListComp elt [⟨tg, iter, ifs, 0⟩] scope pos) spos) D σ H := s_lc (own := own) hN hX hi ok h.w hyl hsw hc hs
end
/-- no test in a comprehension -/
theorem ifs0 {X : Cx} {σ : St} {H : Hp} {A B : Hp → Prop} (h : A H) : IfsW X [] σ H fun b H4 => if b = true then A H4 else B H4 := (show (if true = true then A H else B H) from (if_pos rfl).mpr h)
theorem DqAll.snoc {K : PySem.W.Frag} {H : Hp} {v : V} {d : PyData} : ∀ {vs : List V} {ds : List PyData}, DqAll K H vs ds → Dq K H v d → DqAll K H (vs ++ [v]) (ds ++ [d])
  | _, _, .nil, h => .cons h .nil
  | _, _, .cons h t, z => .cons h (DqAll.snoc t z)
theorem cutV_to {α : Type} (g : α → V) (xs : List α) {k : Nat} (hk : k ≤ xs.length) : cutV (xs.map g) none (some (k : Int)) = (xs.take k).map g := by
  unfold cutV
  rw [HT.sIx_none, List.length_map, HT.sIx_nat, Nat.min_eq_left hk, List.drop_zero, Nat.sub_zero, List.map_take]
theorem cutV_from {α : Type} (g : α → V) (xs : List α) {k : Nat} (hk : k ≤ xs.length) : cutV (xs.map g) (some (k : Int)) none = (xs.drop k).map g := by
  unfold cutV
  rw [HT.sIx_none, List.length_map, HT.sIx_nat, Nat.min_eq_left hk, List.map_drop, List.take_of_length_le (by rw [List.length_drop, List.length_map]; omega)]
end L2.Z

set_option maxHeartbeats 4000000
/-! try: .. except X as n: .. ; the caught exception is kept, as a thing of the heap. -/
namespace L2.Z
open PySem PySem.Spec PyProof.Rows PySem.ZX
/-- what the caught exception is, behind the suite -/
def trkO (a : Addr) (C : Addr) : Option Addr → HO
  | some d => exT a C d
  | none => exN a C
theorem trk_ok {P : Program} {w : World} {H : Hp} {h : Heap} {a C : Addr} {d : Option Addr} {o : Obj} {vs : Array Value} (e : h.get? a = some o) (e1 : o.cls = .ref C) (e2 : o.dict = d) (e3 : o.data = .fields vs) : ObjOk P w H h a (trkO a C d) := by
  cases d with
  | none => exact exN_ok e e1 e2 e3
  | some d => exact exT_ok e e1 e2 e3
section
variable {X : Cx} {pins : List (Addr × Obj)} {σ : St} {H : Hp} {s : Shared}
/-- an object that no one tracks, made behind the entry, is tracked from now on -/
theorem Inv.track {a : Addr} {oa : HO} (I : L2.Inv X pins σ H s) (n0 : X.s_0.heap.get? a = none) (na : H a = none) (nL : a ≠ X.env.locals) (nC : ∀ x c, X.env.cells.lookup x = some c → c ≠ a) (nP : ∀ p ∈ X.pn ++ pins, p.1 ≠ a)
    (ok : ObjOk X.prog X.w (upd H a oa) s.heap a oa) : L2.Inv X pins σ (upd H a oa) s := by
  have off : ∀ {b : Addr} {o : Obj}, X.s_0.heap.get? b = some o → b ≠ a := fun {b o} e z => by rw [z, n0] at e; cases e
  refine ⟨I.ok, I.os, I.bare, ⟨I.base.keep, I.base.slot, fun b o e n hb => ?_, I.base.there, fun b xs e => ?_, fun b o u e => ?_, fun b ps e => ?_⟩, I.loc, I.cell, ?_, fun x c e => ?_, fun p hp => ?_, fun b u e => ?_, I.len⟩
  · rw [upd_ne (off e)]
    exact I.base.free b o e n hb
  · have z := I.base.tups b xs e
    rw [upd_ne (ne_of_none z na)]
    exact z
  · have z := I.base.frzs b o u e
    rw [upd_ne (ne_of_none z na)]
    exact z
  · obtain ⟨more, z⟩ := I.base.tbls b ps e
    exact ⟨more, by rw [upd_ne (ne_of_none z na)]; exact z⟩
  · rw [upd_ne (Ne.symm nL)]
    exact I.free
  · rw [upd_ne (nC x c e)]
    exact I.freeC x c e
  · obtain ⟨e, n, r⟩ := I.pin p hp
    exact ⟨e, by rw [upd_ne (nP p hp)]; exact n, r⟩
  · by_cases hb : b = a
    · subst hb
      rw [upd_same] at e
      cases e
      exact ok
    · rw [upd_ne hb] at e
      exact (I.hok b u e).stay (fun _ _ _ z => z) (fun c z => by rw [upd_ne (ne_of_none z na)]; exact z) fun c xs z => by rw [upd_ne (ne_of_none z na)]; exact z
/-- what an exception of the body must bring: the clause takes it, or it goes on -/
def TryWish (X : Cx) (c : Value) (i : Nat) (suite : List Stmt) (Wout : WX) (D : Ends) : WX := fun cls d σ H =>
  ∃ b, PySem.W.exmOne X.K cls c = some b ∧ (b = true → ∃ C, cls = .ref C ∧ ∀ a, H a = none → ∀ (oe : Obj) (pn : List (Addr × Obj)), Zc cls d oe → (∃ vs, oe.data = .fields vs) →
      BW (X.suite a ((a, oe) :: pn)) suite { nx := fun σ' H' => D.nx (σ'.set i none) (upd H' a (trkO a C d)), rt := D.rt } (σ.set i (some (.ref a))) H) ∧
    (b = false → Wout cls d σ H)
end
section
variable {X : Cx} {x n : Str} {c : Value} {i : Nat} {body suite : List Stmt} {b₀ : Stmt} {np pos pos' : Pos} {Wout : WX} {N : List Str} {σ : St} {H : Hp} {D : Ends}
theorem s_try (hN : X.N.Nodup) (hX : X.N = N) (hi : At N i n) (hc : Names X x c) (tk : Takes X Wout)
    (h : ∀ (pn : List (Addr × Obj)) (xe : Value → Shared → Prop), Takes (X.tr pn xe) (TryWish X c i (b₀ :: suite) Wout D) → PassesOwn (model X.prog X.w) X.A X.env xe → BW (X.tr pn xe) body D σ H)
    (hs : X.stack = X.env :: X.outer := by rfl) (hf : X.env.frame = some X.env.locals := by rfl) (hln : X.env.kindOf n = some .local := by rfl) (hx : X.ex = [] := by rfl) : SW X (.Try body [.ExceptHandler (some (.Name x np)) (some n) (b₀ :: suite) pos'] [] [] pos) D σ H := by
  have hi' : X.N[i]? = some n := by rw [hX]; exact hi
  intro pins s I
  have ok := I.ok
  have hfr : X.A.frames = some (X.env :: X.outer) := by rw [ok.frames, hs]
  refine wpAny_Try_except ?_
  let lookAt : Value → Shared → Prop := fun e s₁ => wpAny (model X.prog X.w) X.A (noteFrame e X.env) (fun _ s₂ => wpAny (model X.prog X.w) X.A (setFlight e none) (fun _ s₃ =>
    wpAny (model X.prog X.w) X.A (handleBy e X.env [.ExceptHandler (some (.Name x np)) (some n) (b₀ :: suite) pos']) (SP X pins D) X.xe s₃) X.xe s₂) X.xe s₁
  have catch_ : Takes (X.tr (X.pn ++ pins) lookAt) (TryWish X c i (b₀ :: suite) Wout D) := by
    rintro u s' ⟨a, B, sI, pins', σ', H', cls, d, rfl, J0, nb, up, sky, na, os, ag, b, hb1, hyes, hno⟩
    have J : L2.Inv X pins σ' H' sI := Inv.ofTry J0 ok
    have sky' : Sky B (X.env :: X.outer) a (Zc cls d) X.env.locals s'.heap := by rw [← hs]; exact sky
    show wpAny (model X.prog X.w) X.A (noteFrame (.ref a) X.env) _ _ _
    refine Sky.land Zc.steady hfr hf sky' fun h3 fl3 up3 => ?_
    have J3 : L2.Inv X pins σ' H' { s' with heap := h3 } := J.landed nb fl3.1 (up.trans up3) os ag
    obtain ⟨oe3, vs3, he3, hz3, hd3⟩ := fl3.there
    have nfr : a ∉ frs (X.env :: X.outer) := fun hm => by
      obtain ⟨_, o', e', hnf⟩ := fl3.2.2.1.mem hm
      rw [he3] at e'
      cases e'
      exact hnf _ hd3
    have nL : a ≠ X.env.locals := fun z => nfr (List.mem_filterMap.mpr ⟨X.env, List.mem_cons_self, by rw [hf, z]⟩)
    have nF : a ∉ X.fs := fun hm => by
      obtain ⟨e, he, q⟩ := List.mem_filterMap.mp hm
      exact nfr (List.mem_filterMap.mpr ⟨e, List.mem_cons_of_mem _ he, q⟩)
    -- it was made behind the entry
    have offB : ∀ o, sI.heap.get? a = some o → False := fun o e => by
      have z := nb a o e (by rw [hs]; exact nfr)
      rw [fl3.2.1] at z
      cases z
    have n0 : X.s_0.heap.get? a = none := by
      cases q : X.s_0.heap.get? a with
      | none => rfl
      | some o =>
        obtain ⟨o', e⟩ := J.base.there a o q (by rw [hx]; exact List.not_mem_nil)
        exact (offB _ e).elim
    have nC : ∀ y c, X.env.cells.lookup y = some c → c ≠ a := fun y c e z => by
      obtain ⟨v, oc, e2, _⟩ := J.cell y c e
      rw [z] at e2
      exact offB _ e2
    have nP : ∀ p ∈ X.pn ++ pins, p.1 ≠ a := fun p hp z => by
      have e := (J.pin p hp).1
      rw [z] at e
      exact offB _ e
    have S3 := Inv.suite J3 he3 hd3 na nL nF
    refine wpAny_handleBy_cons (codeAny_handlers_test ?_) (by intro q; cases q)
    have LT : PySem.W.Looks (model X.prog X.w) h3 (typeOf (.ref a)) cls := fun A Q E s k q => wpAny_typeOf_ref (k _ _ he3) (by rw [hz3.1]; exact q)
    have LM := PySem.W.exm_one (M := model X.prog X.w) (J3.kIn) LT hb1
    have test : ∀ {Q : Value → Shared → Prop} {E : Value → Shared → Prop}, Q c { s' with heap := h3 } → wpAny (model X.prog X.w) (X.A.mark (some (.ref a))) (eval (.Name x np) X.env) Q E { s' with heap := h3 } := fun {Q E} q => by
      obtain ⟨hg, hdbg, hm | ⟨hm, hv, hnn⟩⟩ := hc
      · exact ld_glob (X := X.suite a ((a, oe3) :: (X.pn ++ pins))) S3 hg hm q hdbg
      · exact ld_blt (X := X.suite a ((a, oe3) :: (X.pn ++ pins))) S3 hg hm hv q hnn hdbg
    refine test (LM.here ?_)
    cases b with
    | true =>
      obtain ⟨C, ecl, hsu⟩ := hyes rfl
      refine codeAny_handlers_suite_as ?_
      refine HandSPX.lands_againZ fl3 fun h4 fl4 up4 => ?_
      have J4 : L2.Inv X pins σ' H' { s' with heap := h4 } := J.landed nb fl4.1 ((up.trans up3).trans up4) os ag
      obtain ⟨oe4, vs4, he4, hz4, hd4⟩ := fl4.there
      have S4 := Inv.suite J4 he4 hd4 na nL nF
      refine store_ok (X := X.suite a ((a, oe4) :: (X.pn ++ pins))) (v := .ref a) S4 hN hi' (.inl hln) rfl (fun s5 S5 => ?_) (.inr hln)
      refine wpAny_mono (hsu a na oe4 (X.pn ++ pins) hz4 ⟨_, hd4⟩ [] s5 S5) (fun f s6 hsp => ?_) (fun _ _ z => False.elim z)
      have leave : ∀ {σ6 : St} {H6 : Hp} {Q : Shared → Prop}, L2.Inv (X.suite a ((a, oe4) :: (X.pn ++ pins))) [] σ6 H6 s6 → (∀ s7, L2.Inv X pins (σ6.set i none) H6 s7 → L2.Inv X pins (σ6.set i none) (upd H6 a (trkO a C d)) s7 → Q s7) →
          wpAny (model X.prog X.w) X.A (do bindName X.env n .none; unbindBehindTheSuite X.env n pos') (fun _ s7 => Q s7) X.xe s6 := fun {σ6 H6 Q} S6 hq => by
        obtain ⟨p1, p2, p3, p4, p5⟩ := S6.pin (a, oe4) (List.mem_append_left _ List.mem_cons_self)
        have J6 : L2.Inv X pins σ6 H6 s6 := Inv.unsuite S6 ok
        have K6 : L2.Inv X (pins ++ [(a, oe4)]) σ6 H6 s6 := J6.pins_of fun p hp => by
          rcases List.mem_append.mp hp with hp | hp
          · exact J6.pin p (List.mem_append_right _ hp)
          · obtain rfl : p = (a, oe4) := by simpa using hp
            exact ⟨p1, p2, p3, p4, p5⟩
        refine gone_ok K6 hN hi' hln fun s7 K7 => ?_
        have q7 := (K7.pin (a, oe4) (by simp)).1
        have M7 : L2.Inv X pins (σ6.set i none) H6 s7 := K7.unpinned
        exact hq s7 M7 (Inv.track M7 n0 p2 nL nC nP (trk_ok q7 (hz4.1.trans ecl) hz4.2 hd4))
      cases f with
      | next =>
        obtain ⟨σ6, H6, S6, q6⟩ := hsp
        exact leave S6 fun s7 _ J7 => ⟨_, _, J7, q6⟩
      | brk =>
        obtain ⟨_, _, _, q6⟩ := hsp
        exact False.elim q6
      | cont =>
        obtain ⟨_, _, _, q6⟩ := hsp
        exact False.elim q6
      | ret u =>
        obtain ⟨v6, σ6, H6, S6, r6, q6⟩ := hsp
        exact leave S6 fun s7 J7 _ => ⟨_, _, _, J7, r6, q6⟩
    | false =>
      show wpAny _ X.A (handleBy (.ref a) X.env []) _ _ _
      refine wpAny_handleBy_nil ?_
      obtain ⟨_, _, _, oe, vs, T, oT, ts', he, hz, hd, h1, hr⟩ := id fl3
      unfold PySem.passOn
      refine wpAny_bind (wpAny_field he hd h1 ?_)
      rw [if_neg (show ¬ ((Value.ref T == Value.none) = true) from by simp)]
      have fin : wpAny (model X.prog X.w) X.A (setFlight (.ref a) X.env.frame) (fun _ s4 => wpAny (model X.prog X.w) X.A (throw (.ref a) : Sem Flow) (SP X pins D) X.xe s4) X.xe { s' with heap := h3 } := by
        rw [hf]
        refine HandSPX.setFlight_upZ fl3 fun h4 hh4 up4 => wpAny_throw (tk _ _ ?_)
        exact ⟨a, B, sI, pins, σ', H', cls, d, rfl, J, nb, (up.trans up3).trans up4, .inr (.inr (by rw [hs]; exact hh4)), na, os, ag, hno rfl⟩
      first
        | exact wpAny_bind (wpAny_pure (wpAny_bind fin))
        | exact wpAny_bind fin
  refine wpAny_mono (h (X.pn ++ pins) lookAt catch_ PassesOwn.looking [] s (Inv.toTry I _)) (fun f s1 hsp => ?_) (fun e s1 he => he)
  cases f with
  | next =>
    obtain ⟨σ', H', J', q⟩ := hsp
    exact wpAny_execs_nil ⟨σ', H', Inv.ofTry J' ok, q⟩
  | brk => exact let ⟨σ', H', J', q⟩ := hsp; ⟨σ', H', Inv.ofTry J' ok, q⟩
  | cont => exact let ⟨σ', H', J', q⟩ := hsp; ⟨σ', H', Inv.ofTry J' ok, q⟩
  | ret u => exact let ⟨v, σ', H', J', r, q⟩ := hsp; ⟨v, σ', H', Inv.ofTry J' ok, r, q⟩
end
end L2.Z

set_option maxHeartbeats 4000000
namespace PySem.ZX
open PySem PySem.W PySem.Calls PyProof.Rows
section
variable {prog : Program} {w : World} {A : Around} {E : Value → Shared → Prop} {s : Shared} {K : Type} [DecidableEq K] {knd : KeyKind prog w K} {kvs : List (K × Value)} {ep : Nat} {r d : Addr}

/-- tuple(d.items()), the view at r -/
theorem call_tuple_view {Q : Value → Shared → Prop} (hh : A.handled = none) (hv : s.heap.IsItemsView r d) (hm : s.heap.DictAt knd d kvs ep) (hn : kvs.length ≤ sizeLine)
    (h : ∀ (h' : Heap) (tk : Nat) (as : List Addr), (∀ b o, s.heap.get? b = some o → h'.get? b = some o) → as.length = kvs.length → KdxG knd kvs s.heap.objs.size h' as →
      Q (.ref h'.objs.size) { s with heap := h'.push { cls := .type "tuple", data := .seq (as.map Value.ref).toArray }, toks := tk }) : wpAny (model prog w) A (call (.type "tuple") [.ref r]) Q E s := by
  have hT : s.TypeIs (.ref r) "dict_items" := let ⟨o, ho, hc, _⟩ := hv; ⟨o, ho, hc⟩
  refine callType_codes (Q₁ := fun obj s₁ => s₁.TypeIs obj "tuple" ∧ Q obj s₁) F.called_tuple (F.typeCall_tuple_1 _) F.entry_object_init
    (codeAny_call_builtin F.called_tuple.plain F.entry_tuple_new (wpAny_of_eq (F.newCall_tuple_1 _) ?_)) fun obj s₁ h₁ => ?_
  · have hsub := sub_tuple_self
    have hinit := init_tuple_lookup
    have hmh := madeHere_tuple
    have col : ∀ {R : List Value → Shared → Prop} {E : Value → Shared → Prop} {A' : Around}, A'.handled = none → (∀ (h' : Heap) (tk : Nat) (as : List Addr), (∀ b o, s.heap.get? b = some o → h'.get? b = some o) → as.length = kvs.length → KdxG knd kvs s.heap.objs.size h' as → R (as.map Value.ref) { s with heap := h', toks := tk }) →
        wpAny (model prog w) A' (collect (.ref r)) R E s := fun hA k => kdx_collect hA hv hm hn k
    obtain ⟨hp, g, dr, tk, os⟩ := s
    have col2 := fun {R : List Value → Shared → Prop} {E : Value → Shared → Prop} => col (R := R) (E := E) (A' := A.in1.in1) hh
    wp_walk using wpAny_typeOf hT, col2
    intro h' tk' as hk hl hG
    show wpAny _ _ (Builtin.Tuple.tupleExact (as.map Value.ref).toArray >>= fun v => ret v) _ _ _
    unfold Builtin.Tuple.tupleExact
    refine wpAny_bind (wpAny_newObj_type ?_ (by show (as.map Value.ref).toArray.size ≤ sizeLine; simp; omega))
    exact wpAny_pure ⟨⟨_, Heap.get?_push_size _ rfl, rfl⟩, h h' tk' as hk hl hG⟩
  · obtain ⟨hTo, hq⟩ := h₁
    exact ⟨hTo, F.args_object_init_2 obj _, object_init_meets F.called_tuple.init.lookup F.called_tuple.made (by decide) prog w A.in1 _ s₁ ⟨hTo, rfl, hq⟩⟩
end
end PySem.ZX

set_option maxHeartbeats 4000000
namespace L2.Z
open PySem PySem.Spec PyProof.Rows PySem.ZX
section
variable {X : Cx} {pins : List (Addr × Obj)} {σ : St} {H H0 : Hp} {s s0 : Shared}
/-- an object made behind s0 -/
theorem trackNew {a : Addr} {oa : HO} (I0 : L2.Inv X pins σ H0 s0) (I : L2.Inv X pins σ H s) (hz : s0.heap.objs.size ≤ a) (na : H a = none) (ok : ObjOk X.prog X.w (upd H a oa) s.heap a oa) : L2.Inv X pins σ (upd H a oa) s := by
  have off : ∀ {b : Addr} {o : Obj}, s0.heap.get? b = some o → b ≠ a := fun {b o} e z => absurd (Heap.lt_size e) (by rw [z]; exact Nat.not_lt.mpr hz)
  refine Inv.track I (Heap.get?_none_of_le (Nat.le_trans I0.sz hz)) na (fun z => absurd I0.lt (by rw [← z]; exact Nat.not_lt.mpr hz)) (fun x c e => ?_) (fun p hp => off (I0.pin p hp).1) ok
  obtain ⟨v, o, e2, _⟩ := I0.cell x c e
  exact off e2
theorem tupsIn (I0 : L2.Inv X pins σ H0 s0) (as : List Addr) : ∀ (xss : List (List V)) (H : Hp), L2.Inv X pins σ H s → as.Nodup → (∀ a, a ∈ as → s0.heap.objs.size ≤ a ∧ H a = none) →
    Paired (fun a xs => xs.length ≤ sizeLine ∧ ∃ its : List Value, Vals xs its ∧ IsTup s.heap a its.toArray) as xss → ∃ H', L2.Inv X pins σ H' s ∧ Same H H' ∧ Paired (fun a xs => H' a = some (HO.tup xs)) as xss ∧ ∀ b, b ∉ as → H' b = H b := by
  induction as with
  | nil =>
    intro xss H I _ _ h
    cases h
    exact ⟨H, I, Same.refl _, .nil, fun _ _ => rfl⟩
  | cons a as ih =>
    intro xss H I nd hz hp
    cases hp with
    | cons h t =>
      obtain ⟨n1, n2⟩ := List.nodup_cons.mp nd
      obtain ⟨z1, z2⟩ := hz a List.mem_cons_self
      rename_i xs xss
      have ok : ObjOk X.prog X.w (upd H a (.tup xs)) s.heap a (.tup xs) := h
      have I1 := trackNew I0 I z1 z2 ok
      have hz1 : ∀ b, b ∈ as → s0.heap.objs.size ≤ b ∧ (upd H a (.tup xs)) b = none := fun b hb => by
        obtain ⟨y1, y2⟩ := hz b (List.mem_cons_of_mem _ hb)
        refine ⟨y1, ?_⟩
        rw [upd_ne (fun z => n1 (by rw [← z]; exact hb))]
        exact y2
      obtain ⟨H', J, sm, pr, off⟩ := ih xss _ I1 n2 hz1 t
      refine ⟨H', J, (same_upd z2).trans sm, .cons (sm _ _ upd_same) pr, fun b hb => ?_⟩
      rw [off b (fun z => hb (List.mem_cons_of_mem _ z)), upd_ne (fun z => hb (by rw [z]; exact List.mem_cons_self))]
end
section
variable {X : Cx} {σ : St} {H : Hp} {Q : VK} {e a : Expr} {pos p apos cpos : Pos} {R : Bool → Hp → Prop} {D : Ends}
/-- tuple(e.items()) -/
theorem e_tupItems (mt : X.mg "tuple" = none) (h : EW X e σ H fun x H1 => ∃ (d : Addr) (kvs : List (Key × V)), x = .ref d ∧ H1 d = some (.dK kvs) ∧
      ∀ t as H', Same H1 H' → H1 t = none → H' t = some (.tup (as.map V.ref)) → Paired (fun (a : Addr) (q : Key × V) => H' a = some (.tup [kV q.1, q.2])) as kvs → Q (.ref t) H')
    (hc : X.calm = true := by rfl) (hg : Gl X "tuple" := by rfl) (hbase : attributeBase e "items" X.env (eval e X.env) = eval e X.env := by rfl) (hline : (apos.endLine == cpos.line) = true := by rfl)
    (hs : starEach [.Call (.Attribute e "items" apos) [] [] cpos] X.env = (false, eval (.Call (.Attribute e "items" apos) [] [] cpos) X.env) :: starEach [] X.env := by rfl) : EW X (.Call (.Name "tuple" p) [.Call (.Attribute e "items" apos) [] [] cpos] [] pos) σ H Q := by
  intro pins s I
  refine wpAny_Call_Name_kw (ld_blt I hg mt (by decide +kernel : bootBuiltins "tuple" = some (.type "tuple")) ?_)
  refine PyProof.Rows.callWith_type1 ?_ hs rfl
  rw [hs]
  show wpAny _ _ (spliced ((false, eval (.Call (.Attribute e "items" apos) [] [] cpos) X.env) :: backTo pos (starEach [] X.env))) _ _ s
  refine Calls.spliced_cons ?_
  refine wpAny_Call_method (T := "dict") (id := "dict.items") hbase rfl hline F.plainAttrs_dict F.slot_dict_items F.type_dict_items (thn (h pins s I) fun u s1 hh => ?_)
  obtain ⟨x, H1, I1, rx, d, kvs, ex, hd, q⟩ := hh
  subst ex
  obtain rfl : u = Value.ref d := rx
  obtain ⟨hz, hs0, vs, kv, hdo⟩ := I1.hok d _ hd
  obtain ⟨ep, hat⟩ := hdo.dictAt
  have lk : kvs.length = vs.length := Paired.length kv
  have I2 : L2.Inv X pins σ H1 { s1 with heap := s1.heap.push { cls := .type "dict_items", data := .fields #[.ref d] } } := I1.kept (t' := s1.toks) fun b ob q => Heap.get?_push_of_some _ q
  refine ⟨hdo.typeIs, hdo.mapOf.noDict, ?_⟩
  show wpAny _ _ (callWith cpos (.builtin "dict.items") [.ref d] [] []) _ X.xe s1
  refine method_meetsIn F.slot_dict_items F.entry_dict_items rfl (PySem.evalArgs_none ⟨rfl, hdo.typeIs, F.args_dict_items_1 _, _, meets_dict_items (mixKind X.prog X.w) d hs0, ⟨vs, hdo⟩, ?_⟩)
  refine Calls.spliced_nil ?_
  refine call_tuple_view (knd := mixKind X.prog X.w) (kvs := vs) (ep := ep) (I1.ok.hd hc) ⟨_, Heap.get?_push_size _ rfl, rfl, rfl⟩ (hat.push _) (by omega) fun h' tk as hk hl hG => ?_
  have I3 : L2.Inv X pins σ H1 { s1 with heap := h', toks := tk } := I2.kept (t' := tk) hk
  have new : ∀ t ∈ as, s1.heap.objs.size ≤ t ∧ H1 t = none := fun t ht => by
    have z := hG.above t ht
    have y : s1.heap.objs.size ≤ t := Nat.le_of_lt (Nat.lt_of_le_of_lt (by simp [Heap.size_push]) z)
    exact ⟨y, I1.hok.fresh y⟩
  have nd : as.Nodup := List.Pairwise.imp (fun {a b} (h : a < b) => Nat.ne_of_lt h) hG.rise
  have pr : Paired (fun a xs => xs.length ≤ sizeLine ∧ ∃ its : List Value, Vals xs its ∧ IsTup h' a its.toArray) as (kvs.map fun q => [kV q.1, q.2]) := by
    have aux : ∀ (as : List Addr) (kvs : List (Key × V)) (vs : List (Key × Value)), as.length = vs.length → KV kvs vs → (∀ (j : Nat) (a : Addr), as[j]? = some a → ∃ (key : Value) (k : Key) (x : Value), vs[j]? = some (k, x) ∧ keyIs k key = true ∧ h'.get? a = some { cls := .type "tuple", data := .seq #[key, x] }) →
        Paired (fun a xs => xs.length ≤ sizeLine ∧ ∃ its : List Value, Vals xs its ∧ IsTup h' a its.toArray) as (kvs.map fun q => [kV q.1, q.2]) := by
      intro as
      induction as with
      | nil =>
        intro kvs vs hl kv _
        cases vs with
        | nil => cases kv; exact .nil
        | cons _ _ => cases hl
      | cons a as ih =>
        intro kvs vs hl kv hp
        cases kv with
        | nil => cases hl
        | cons r t =>
          obtain ⟨key, k, x, e1, e2, e3⟩ := hp 0 a rfl
          have e1' := Option.some.inj e1
          subst e1'
          obtain ⟨r1, r2⟩ := r
          dsimp only at r1 r2
          refine .cons ⟨by show 2 ≤ sizeLine; decide, [key, x], .cons ?_ (.cons r2 .nil), _, e3, rfl, _, rfl⟩ (ih _ _ (Nat.succ.inj hl) t fun j b e => hp (j + 1) b e)
          rw [r1]
          exact relV_key e2
    exact aux as kvs vs hl kv hG.pairs
  obtain ⟨H', J, sm, hp, off⟩ := tupsIn I1 as _ H1 I3 nd new pr
  have fr : H' h'.objs.size = none := J.hok.fresh (Nat.le_refl _)
  have fr1 : H1 h'.objs.size = none := sm.free fr
  have J2 : L2.Inv X pins σ (upd H' h'.objs.size (.tup (as.map V.ref))) { s1 with heap := h'.push { cls := .type "tuple", data := .seq (as.map Value.ref).toArray }, toks := tk } :=
    J.laid (t' := tk) (fun b o e => Heap.get?_push_of_some _ e) (Nat.le_refl _) (show ObjOk X.prog X.w _ _ _ (.tup (as.map V.ref)) from ⟨by rw [List.length_map, hl]; omega, as.map Value.ref, LiI.vals_refs as, IsTup.new _ _⟩)
  have hp2 : ∀ {as : List Addr} {kvs : List (Key × V)}, Paired (fun a xs => H' a = some (HO.tup xs)) as (kvs.map fun q => [kV q.1, q.2]) → Paired (fun (a : Addr) (q : Key × V) => (upd H' h'.objs.size (.tup (List.map V.ref as))) a = some (.tup [kV q.1, q.2])) as kvs → True := fun _ _ => trivial
  refine ⟨.ref h'.objs.size, _, J2, rfl, q h'.objs.size as _ (sm.trans (same_upd fr)) fr1 upd_same ?_⟩
  have tr : ∀ {O : HO} {as : List Addr} {kvs : List (Key × V)}, Paired (fun a xs => H' a = some (HO.tup xs)) as (kvs.map fun q => [kV q.1, q.2]) → Paired (fun (a : Addr) (q : Key × V) => (upd H' h'.objs.size O) a = some (.tup [kV q.1, q.2])) as kvs := by
    intro O as
    induction as with
    | nil =>
      intro kvs h
      cases kvs with
      | nil => exact .nil
      | cons _ _ => cases h
    | cons a as ih =>
      intro kvs h
      cases kvs with
      | nil => cases h
      | cons k kvs =>
        cases h with
        | cons h1 h2 => exact .cons (same_upd fr _ _ h1) (ih h2)
  exact tr hp
end
end L2.Z

set_option maxHeartbeats 1000000
namespace L2.Z
open PySem PySem.Spec PyProof.Rows PySem.ZX
/-! ### repr of any data -/
def rReprA (K : PySem.W.Frag) : List V → Hp → VK → Prop := fun xs H Q => ∃ (x : V) (d : PyData), xs = [x] ∧ Dq K H x d ∧ d.showable = true ∧ d.shown.length ≤ sizeLine ∧ d.depth ≤ 60 ∧ Q (.str d.shown) H
theorem call_reprA {X : Cx} (S : Sys X.base) (hg : X.A.guards = some []) (hu : X.A.units + 64 < cLine) : CallR X (.builtin "repr") (rReprA X.K) := by
  intro pins s σ H xs us Q I r h
  obtain ⟨x, d, rfl, hd, h1, h2, h3, q⟩ := h
  obtain ⟨u, rfl, ru⟩ := vals1 r
  cases x with
  | ref a =>
    cases ru
    obtain ⟨as, rd, nm⟩ := Dq.reads S I d _ _ hd rfl
    exact repr_of_reads' rd h1 (fun _ => nm) hg (by omega) (fun b o e => e) (fun h' u tk k => ⟨.str d.shown, H, I.kept (h' := h') (t' := tk) k, ⟨u, rfl⟩, q⟩) h2
  | non =>
    cases hd
    cases ru
    have e : PyData.shown .none = "None" := by simp only [PyData.shown]
    rw [e] at q
    exact PySem.P.repr_of_none ⟨.str "None", H, I.tok _, ⟨_, rfl⟩, q⟩
  | bl b =>
    cases hd
    cases ru
    have e : PyData.shown (.bool b) = ((if b then "True" else "False" : Str)) := by simp only [PyData.shown]
    rw [e] at q
    exact PySem.P.repr_of_bool ⟨.str _, H, I.tok _, ⟨_, rfl⟩, q⟩
  | int i =>
    cases hd
    obtain ⟨t, rfl⟩ := ru
    have hi : i.natAbs.log2 < 1920 := by
      rw [PyData.showable] at h1
      exact of_decide_eq_true h1
    rw [PyData.shown_int] at q
    exact PySem.P.repr_of_int hi ⟨.str _, H, I.tok _, ⟨_, rfl⟩, q⟩
  | str z =>
    cases hd
    obtain ⟨t, rfl⟩ := ru
    have e : PyData.shown (.str z) = reprText z := by simp only [PyData.shown]
    rw [e] at h2 q
    exact PySem.P.repr_of_str ⟨.str (reprText z), H, I.tok _, ⟨_, rfl⟩, q⟩ h2
  | byt _ => cases hd
  | flt _ => cases hd
  | ty _ => cases hd
/-! ### the types of data -/
def dty : PyData → String
  | .none => "NoneType"
  | .bool _ => "bool"
  | .int _ => "int"
  | .str _ => "str"
  | .list _ => "list"
  | .tuple _ => "tuple"
  | .dict _ => "dict"
theorem Dq.ty {K : PySem.W.Frag} {H : Hp} {v : V} {d : PyData} (h : Dq K H v d) : TyZ K H v (.type (dty d)) := by
  cases h with
  | non => exact .x (.base .non)
  | bl b => exact .x (.base (.bl b))
  | int i => exact .x (.base (.int i))
  | str x => exact .x (.base (.str x))
  | lst h _ =>
    rcases h with h | ⟨o, h⟩
    · exact .x (.base (.lst h))
    · exact .x (.base (.frz h))
  | tup h _ =>
    rcases h with (h | ⟨o, h⟩) | ⟨o, its, n, h1, h2, _⟩
    · exact .x (.base (.tup h))
    · exact .x (.fTuple h)
    · exact .x (.kTuple h1 h2)
  | dct h _ =>
    rcases h with h | ⟨o, h⟩
    · exact .x (.base (.dK h))
    · exact .x (.fDict h)
def isTup : PyData → Bool
  | .tuple _ => true
  | _ => false
def isLst : PyData → Bool
  | .list _ => true
  | _ => false
def isStr : PyData → Bool
  | .str _ => true
  | _ => false
def isDct : PyData → Bool
  | .dict _ => true
  | _ => false
def isBool : PyData → Bool
  | .bool _ => true
  | _ => false
def isIntB : PyData → Bool
  | .int _ => true
  | .bool _ => true
  | _ => false
theorem kb_tup : ∀ d : PyData, kitB (dty d) "tuple" = some (isTup d)
  | .none => (by decide +kernel : kitB "NoneType" "tuple" = some false)
  | .bool _ => (by decide +kernel : kitB "bool" "tuple" = some false)
  | .int _ => (by decide +kernel : kitB "int" "tuple" = some false)
  | .str _ => (by decide +kernel : kitB "str" "tuple" = some false)
  | .list _ => (by decide +kernel : kitB "list" "tuple" = some false)
  | .tuple _ => (by decide +kernel : kitB "tuple" "tuple" = some true)
  | .dict _ => (by decide +kernel : kitB "dict" "tuple" = some false)
theorem kb_lst : ∀ d : PyData, kitB (dty d) "list" = some (isLst d)
  | .none => (by decide +kernel : kitB "NoneType" "list" = some false)
  | .bool _ => (by decide +kernel : kitB "bool" "list" = some false)
  | .int _ => (by decide +kernel : kitB "int" "list" = some false)
  | .str _ => (by decide +kernel : kitB "str" "list" = some false)
  | .list _ => (by decide +kernel : kitB "list" "list" = some true)
  | .tuple _ => (by decide +kernel : kitB "tuple" "list" = some false)
  | .dict _ => (by decide +kernel : kitB "dict" "list" = some false)
theorem kb_str : ∀ d : PyData, kitB (dty d) "str" = some (isStr d)
  | .none => (by decide +kernel : kitB "NoneType" "str" = some false)
  | .bool _ => (by decide +kernel : kitB "bool" "str" = some false)
  | .int _ => (by decide +kernel : kitB "int" "str" = some false)
  | .str _ => (by decide +kernel : kitB "str" "str" = some true)
  | .list _ => (by decide +kernel : kitB "list" "str" = some false)
  | .tuple _ => (by decide +kernel : kitB "tuple" "str" = some false)
  | .dict _ => (by decide +kernel : kitB "dict" "str" = some false)
theorem kb_dct : ∀ d : PyData, kitB (dty d) "dict" = some (isDct d)
  | .none => (by decide +kernel : kitB "NoneType" "dict" = some false)
  | .bool _ => (by decide +kernel : kitB "bool" "dict" = some false)
  | .int _ => (by decide +kernel : kitB "int" "dict" = some false)
  | .str _ => (by decide +kernel : kitB "str" "dict" = some false)
  | .list _ => (by decide +kernel : kitB "list" "dict" = some false)
  | .tuple _ => (by decide +kernel : kitB "tuple" "dict" = some false)
  | .dict _ => (by decide +kernel : kitB "dict" "dict" = some true)
theorem kb_bool : ∀ d : PyData, kitB (dty d) "bool" = some (isBool d)
  | .none => (by decide +kernel : kitB "NoneType" "bool" = some false)
  | .bool _ => (by decide +kernel : kitB "bool" "bool" = some true)
  | .int _ => (by decide +kernel : kitB "int" "bool" = some false)
  | .str _ => (by decide +kernel : kitB "str" "bool" = some false)
  | .list _ => (by decide +kernel : kitB "list" "bool" = some false)
  | .tuple _ => (by decide +kernel : kitB "tuple" "bool" = some false)
  | .dict _ => (by decide +kernel : kitB "dict" "bool" = some false)
theorem kb_int : ∀ d : PyData, kitB (dty d) "int" = some (isIntB d)
  | .none => (by decide +kernel : kitB "NoneType" "int" = some false)
  | .bool _ => (by decide +kernel : kitB "bool" "int" = some true)
  | .int _ => (by decide +kernel : kitB "int" "int" = some true)
  | .str _ => (by decide +kernel : kitB "str" "int" = some false)
  | .list _ => (by decide +kernel : kitB "list" "int" = some false)
  | .tuple _ => (by decide +kernel : kitB "tuple" "int" = some false)
  | .dict _ => (by decide +kernel : kitB "dict" "int" = some false)
/-! ### == with an empty list or tuple -/
def rEmp (K : PySem.W.Frag) (g : Bool → Bool) : R2 := fun x y H Q => ∃ a b xs ys, x = .ref a ∧ y = .ref b ∧ ((SqL K H a xs ∧ SqL K H b ys) ∨ (SqT K H a xs ∧ SqT K H b ys)) ∧ (xs = [] ∨ ys = []) ∧ Q (.bl (g (xs.length == ys.length))) H
section
variable {X : Cx}
theorem emp_all {n m : Nat} (h : n = 0 ∨ m = 0) : (List.range (min n m)).all (fun _ : Nat => true) = true := by simp
theorem op_eqE (hu : X.A.units < cLine) : OpR X (compareOp .Eq) (rEmp X.K id) := fun pins s σ H x y v u Q I rx ry ⟨a, b, xs, ys, ex, ey, hq, he, q⟩ => by
  subst ex ey
  cases rx
  cases ry
  have e0 : ∀ {its its2 : List Value}, xs.length = its.length → ys.length = its2.length → ∀ j, j < its.toArray.size → j < its2.toArray.size → False := fun {its its2} h1 h2 j j1 j2 => by
    rw [List.size_toArray] at j1 j2
    have hl : xs.length = 0 ∨ ys.length = 0 := he.imp (fun e => by rw [e]; rfl) (fun e => by rw [e]; rfl)
    omega
  rcases hq with ⟨h1, h2⟩ | ⟨h1, h2⟩
  · obtain ⟨its, r1, l1, _⟩ := I.list h1
    obtain ⟨its2, r2, l2, _⟩ := I.list h2
    by_cases hz : its.toArray.size = its2.toArray.size
    · refine SeqAt.RcAt.lists (e := fun _ => true) l1.isList l2.isList hz hu (fun j j1 j2 => (e0 r1.length r2.length j j1 j2).elim) X.prog X.w X.xe _ ?_
      refine ⟨.bl (xs.length == ys.length), H, I, ?_, q⟩
      rw [List.size_toArray, List.size_toArray] at hz
      have e : xs.length = ys.length := by rw [r1.length, r2.length]; exact hz
      rw [beq_iff_eq.mpr e]
      simp [RelV]
    · refine SeqAt.RcAt.lists_lengths l1.isList l2.isList (by simpa using hz) hu X.prog X.w X.xe _ ?_
      refine ⟨.bl (xs.length == ys.length), H, I, ?_, q⟩
      rw [List.size_toArray, List.size_toArray] at hz
      have e : (xs.length == ys.length) = false := by rw [r1.length, r2.length]; simpa using hz
      rw [e]
      rfl
  · obtain ⟨its, r1, l1, _⟩ := I.tuple h1
    obtain ⟨its2, r2, l2, _⟩ := I.tuple h2
    refine SeqAt.RcAt.tuples (e := fun _ => true) l1 l2 hu (fun j j1 j2 => (e0 r1.length r2.length j j1 j2).elim) X.prog X.w X.xe _ ?_
    refine ⟨.bl (xs.length == ys.length), H, I, ?_, q⟩
    show Value.bool _ = Value.bool _
    rw [List.size_toArray, List.size_toArray, ← r1.length, ← r2.length]
    simp
theorem op_neE (hu : X.A.units < cLine) : OpR X (compareOp .NotEq) (rEmp X.K not) := fun pins s σ H x y v u Q I rx ry ⟨a, b, xs, ys, ex, ey, hq, he, q⟩ => by
  subst ex ey
  cases rx
  cases ry
  have e0 : ∀ {its its2 : List Value}, xs.length = its.length → ys.length = its2.length → ∀ j, j < its.toArray.size → j < its2.toArray.size → False := fun {its its2} h1 h2 j j1 j2 => by
    rw [List.size_toArray] at j1 j2
    have hl : xs.length = 0 ∨ ys.length = 0 := he.imp (fun e => by rw [e]; rfl) (fun e => by rw [e]; rfl)
    omega
  rcases hq with ⟨h1, h2⟩ | ⟨h1, h2⟩
  · obtain ⟨its, r1, l1, _⟩ := I.list h1
    obtain ⟨its2, r2, l2, _⟩ := I.list h2
    by_cases hz : its.toArray.size = its2.toArray.size
    · refine SeqAt.RcNeAt.lists (e := fun _ => true) l1.isList l2.isList hz hu (fun j j1 j2 => (e0 r1.length r2.length j j1 j2).elim) X.prog X.w X.xe _ ?_
      refine ⟨.bl (!(xs.length == ys.length)), H, I, ?_, q⟩
      rw [List.size_toArray, List.size_toArray] at hz
      have e : xs.length = ys.length := by rw [r1.length, r2.length]; exact hz
      rw [beq_iff_eq.mpr e]
      simp [RelV]
    · refine SeqAt.RcNeAt.lists_lengths l1.isList l2.isList (by simpa using hz) hu X.prog X.w X.xe _ ?_
      refine ⟨.bl (!(xs.length == ys.length)), H, I, ?_, q⟩
      rw [List.size_toArray, List.size_toArray] at hz
      have e : (xs.length == ys.length) = false := by rw [r1.length, r2.length]; simpa using hz
      rw [e]
      rfl
  · obtain ⟨its, r1, l1, _⟩ := I.tuple h1
    obtain ⟨its2, r2, l2, _⟩ := I.tuple h2
    refine SeqAt.RcNeAt.tuples (e := fun _ => true) l1 l2 hu (fun j j1 j2 => (e0 r1.length r2.length j j1 j2).elim) X.prog X.w X.xe _ ?_
    refine ⟨.bl (!(xs.length == ys.length)), H, I, ?_, q⟩
    show Value.bool _ = Value.bool _
    rw [List.size_toArray, List.size_toArray, ← r1.length, ← r2.length]
    simp
end
/-! ### statements, targets -/
section
variable {X : Cx} {σ : St} {H : Hp} {Q : VK} {a c : Expr} {pos : Pos} {D : Ends} {body : List Stmt} {es : List Expr}
theorem e_notV (h : EW X a σ H fun y H1 => ∃ k, y = .bl k ∧ Q (.bl (!k)) H1) : EW X (.UnaryOp .Not a pos) σ H Q := e_of (pe_not e_pe) h
/-- while: W m holds with m the turns left at most -/
theorem s_while (W : Nat → St → Hp → Prop) (m : Nat) (h0 : W m σ H) (h : ∀ m σ H, W m σ H → TW X c σ H fun b H1 => if b = true then BW X body { D with nx := fun σ' H' => ∃ m', m' < m ∧ W m' σ' H', ct := fun σ' H' => ∃ m', m' < m ∧ W m' σ' H', bk := D.nx } σ H1 else D.nx σ H1)
    (hp : PassesOwn (model X.prog X.w) X.A X.env X.xe := by first | exact PassesOwn.never | exact passes_of rfl | assumption) : SW X (.While c body [] pos) D σ H :=
  s_of (ps_while hp t_pe b_pe) ⟨W, ⟨m, h0⟩, fun m σ H w => (h m σ H w).mono fun b H1 z => by
    cases b with
    | true =>
      rw [if_pos rfl] at z ⊢
      exact ⟨_, fun _ _ q => q, z⟩
    | false =>
      rw [if_neg Bool.false_ne_true] at z ⊢
      exact z⟩
theorem gs_nil {N : St → Hp → Prop} (h : N σ H) : GsW X [] [] σ H N := fun pins s us I r => by
  have z := (pgs_nil (X := X)).run pins s σ H [] us N I r ⟨rfl, h⟩
  exact z
theorem gs_cons {e : Expr} {v : V} {vs : List V} {N : St → Hp → Prop} (h : GW X e v σ H fun σ' H' => GsW X es vs σ' H' N) (hs : (assignEach (e :: es) X.env).map (·.2) = assign e X.env :: (assignEach es X.env).map (·.2) := by rfl) : GsW X (e :: es) (v :: vs) σ H N := fun pins s us I r => by
  exact (pgs_cons (t := GW X e) (u := GsW X es) g_pe gs_pe hs).run pins s σ H (v :: vs) us N I r ⟨v, vs, rfl, h⟩
/-- (a, b, ..) = a tuple -/
theorem g_tup {n k : Nat} {v : V} {N : St → Hp → Prop} (hc : X.calm = true) (h : ∃ a xs, v = .ref a ∧ SqT X.K H a xs ∧ xs.length = n ∧ GsW X es xs σ H N)
    (hn : (assignEach es X.env).length = n := by rfl) (hst : (assignEach es X.env).findIdx? (·.1) = none := by rfl) : GW X (.Tuple es k pos) v σ H N := g_of (pg_tup (n := n) (t := GsW X es) hc gs_pe hn hst) h
end
end L2.Z

set_option maxHeartbeats 1000000
namespace L2.Z
open PySem PySem.Spec PyProof.Rows PySem.ZX PySem.W
/-! ### sorted of data -/
theorem Paired.of_dq {K : PySem.W.Frag} {H : Hp} : ∀ {xs : List V} {ds : List PyData}, DqAll K H xs ds → Paired (Dq K H) xs ds
  | _, _, .nil => .nil
  | _, _, .cons h t => .cons h (Paired.of_dq t)
theorem Paired.dq {K : PySem.W.Frag} {H : Hp} : ∀ {xs : List V} {ds : List PyData}, Paired (Dq K H) xs ds → DqAll K H xs ds
  | _, _, .nil => .nil
  | _, _, .cons h t => .cons h (Paired.dq t)
/-- the order of data, as sorted has it -/
abbrev srt (ds : List PyData) : List PyData := ds.mergeSort (dataLe false id)
def rSortedD (K : PySem.W.Frag) : List V → Hp → VK → Prop := fun vs H Q => ∃ (a : Addr) (xs : List V) (ds : List PyData) (D : V → PyData → Prop), vs = [V.ref a] ∧ SqL K H a xs ∧ Paired D xs ds ∧ (∀ v d, D v d → Dq K H v d) ∧ AllAlike ds ∧ Sortable ds ∧ (∀ d ∈ ds, d.depth ≤ 50) ∧
  ∀ p ys H', New H p (.lst ys) H' → Paired D ys (srt ds) → Q (.ref p) H'
theorem each_of {D : V → PyData → Prop} : ∀ {xs : List V} {us : List Value} {ds : List PyData}, Vals xs us → Paired D xs ds → EachIs (fun u d => ∃ v, RelV v u ∧ D v d) us ds
  | _, _, _, .nil, .nil => .nil
  | _, _, _, .cons r t, .cons h k => .cons ⟨_, r, h⟩ (each_of t k)
theorem of_each {D : V → PyData → Prop} {us : List Value} {ds : List PyData} (h : EachIs (fun u d => ∃ v, RelV v u ∧ D v d) us ds) : ∃ xs, Vals xs us ∧ Paired D xs ds := by
  induction h with
  | nil => exact ⟨[], .nil, .nil⟩
  | cons h t ih =>
    obtain ⟨v, r, d⟩ := h
    obtain ⟨xs, rs, dd⟩ := ih
    exact ⟨v :: xs, .cons r rs, .cons d dd⟩
theorem each_imp {α β : Type} {R R' : α → β → Prop} {us : List α} {ds : List β} (h : EachIs R us ds) (k : ∀ a b, R a b → R' a b) : EachIs R' us ds := by
  induction h with
  | nil => exact .nil
  | cons h t ih => exact .cons (k _ _ h) ih
theorem call_sortedD {X : Cx} (S : Sys X.base) (hu : X.A.units + 64 < cLine) : CallR X (.builtin "sorted") (rSortedD X.K) := by
  intro pins s σ H vs us Q I r h
  obtain ⟨a, xs, ds, D, rfl, hs, hp, hD, hal, hk, hd, q⟩ := h
  obtain ⟨its, rv, hl, hz⟩ := I.list hs
  rw [Vals.ref1 r]
  have e := each_of rv hp
  have lx : ds.length = xs.length := (Paired.length hp).symm
  have er : EachIs (fun v b => ∃ as, Reads s.heap v (id b) as) its ds := each_imp e fun u d ⟨v, ru, hv⟩ => by
    obtain ⟨as, rd, _⟩ := Dq.reads S I d v u (hD v d hv) ru
    exact ⟨as, rd⟩
  refine sorted_data (enc := id) hl.isList e er (by rw [List.map_id]; exact hal) (by rw [List.map_id]; exact hk) (by rw [lx]; exact hz) (fun b hb => by have := hd b hb; show X.A.units + 2 + b.depth < cLine; omega) fun out ho eo => ?_
  obtain ⟨ys, ry, dy⟩ := of_each eo
  obtain ⟨ep, he'⟩ := PyProof.Rows.sortedAll_at s.heap its out.toArray
  have hlen : ys.length ≤ sizeLine := by rw [ry.length, ho, lx]; exact hz
  have I2 : L2.Inv X pins σ (upd H (s.heap.objs.size + 1) (.lst ys)) { s with heap := sortedAll s.heap its out.toArray } := I.laid (t' := s.toks) (fun _ _ => PyProof.Rows.sortedAll_old) (Nat.le_succ _) ⟨hlen, out, ep, ry, he'⟩
  exact ⟨.ref _, _, I2, rfl, q _ ys _ (.upd (I.hok.fresh (Nat.le_succ _))) dy⟩
section
variable {X : Cx} {σ : St} {H : Hp} {Q : VK} {a b c : Expr} {pos : Pos}
theorem e_chain {op op' : CmpOp} {r r' : R2} (o : OpR X (compareOp op) r) (o' : OpR X (compareOp op') r')
    (h : EW X a σ H fun y H1 => EW X b σ H1 fun z H2 => r y z H2 fun v H3 => ∃ k, v = .bl k ∧ if k = true then EW X c σ H3 fun w' H4 => r' z w' H4 Q else Q (.bl false) H3)
    (hm : lastMarks [op, op'] [b, c] = false := by with_unfolding_all rfl) : EW X (.Compare a [op, op'] [b, c] pos) σ H Q := e_of (pe_chain o o' e_pe e_pe e_pe hm) h
end
end L2.Z

set_option maxHeartbeats 1000000
/-! Comprehensions of two clauses. -/
namespace L2.Z
open PySem PySem.Spec PyProof.Rows
section
variable {X : Cx} {elt tg iter tg1 iter1 : Expr} {ifs ifs1 : List Expr} {scope : Scope} {own : List (Str × Nat)} {vs1 : List Nat} {σ : St} {H : Hp} {Q : VK}
/-- the inner clause's walk, over the items made so far -/
def In2 (X : Cx) (elt tg1 iter1 : Expr) (ifs1 : List Expr) (scope : Scope) (vs1 : List Nat) (σ : St) (G0 H0 G H : Hp) (acc : List V) (H4 : Hp) (Nx : List V → Hp → Prop) : Prop :=
  ∀ X', IsBlk X scope X' → IW X' tg1 iter1 σ H4 fun n S Y H5 => ∃ Pv : Nat → List V → Hp → Prop, (∃ G5, Gr G H G5 H5 ∧ Pv 0 acc G5) ∧ (∀ j ac G6 H6, j ≤ n → Gr G0 H0 G6 H6 → Pv j ac G6 → S H6) ∧
    (∀ j ac G6 H6 y H7, j < n → Gr G0 H0 G6 H6 → Pv j ac G6 → Y j H6 y H7 → ∀ X', IsBlk X scope X' → GW X' tg1 y (wipe σ vs1) H7 fun σ4 H8 => wipe σ4 vs1 = wipe σ vs1 ∧
      ∀ X', IsBlk X scope X' → IfsW X' ifs1 σ4 H8 fun b H9 => if b = true then ∀ X', IsBlk X scope X' → EW X' elt σ4 H9 fun z H10 => ac.length < sizeLine ∧ ∃ G10, Gr G6 H6 G10 H10 ∧ Pv (j + 1) (ac ++ [z]) G10 else ∃ G9, Gr G6 H6 G9 H9 ∧ Pv (j + 1) ac G9) ∧
    ∀ ac G6 H6, Gr G0 H0 G6 H6 → Pv n ac G6 → Nx ac G6
def LcN2 (X : Cx) (elt tg iter tg1 iter1 : Expr) (ifs ifs1 : List Expr) (scope : Scope) (own : List (Str × Nat)) (vs1 : List Nat) (σ : St) (H : Hp) (Q : VK) : Prop :=
  IW X tg iter σ H fun n S Y H1 => ∃ (G : Hp) (Pv : Nat → List V → Hp → Prop), Same G H1 ∧ Pv 0 [] G ∧ (∀ i acc G' H', i ≤ n → Gr G H1 G' H' → Pv i acc G' → S H') ∧
    (∀ i acc G' H' x H2, i < n → Gr G H1 G' H' → Pv i acc G' → Y i H' x H2 → ∀ X', IsBlk X scope X' → GW X' tg x (wipe σ (own.map (·.2))) H2 fun σ3 H3 => wipe σ3 (own.map (·.2)) = wipe σ (own.map (·.2)) ∧
      ∀ X', IsBlk X scope X' → IfsW X' ifs σ3 H3 fun b H4 => if b = true then In2 X elt tg1 iter1 ifs1 scope vs1 σ3 G H1 G' H' acc H4 (fun ac G6 => Pv (i + 1) ac G6) else ∃ G4, Gr G' H' G4 H4 ∧ Pv (i + 1) acc G4) ∧
    ∀ L acc G2 G' H', Gr G H1 G2 H' → Gr G H1 G' H' → Pv n acc G2 → Same G2 G' → H1 L = none → G' L = some (.lst acc) → Q (.ref L) H'
/-- the inner iterable, in every block -/
def wi1Z (X : Cx) (tg1 iter1 : Expr) (scope : Scope) : TI := fun σ H R => ∀ X', IsBlk X scope X' → ∃ wi, PI X' tg1 iter1 wi ∧ wi σ H R
theorem ifs_mono {X : Cx} {ifs : List Expr} {σ : St} {H : Hp} {R R' : Bool → Hp → Prop} (h : IfsW X ifs σ H R) (k : ∀ b H', R b H' → R' b H') : IfsW X ifs σ H R' := by
  unfold IfsW at h ⊢
  match ifs, h with
  | [], h => exact k _ _ h
  | [c], h => exact TW.mono h k
theorem gw_mono {X : Cx} {tg : Expr} {v : V} {σ : St} {H : Hp} {N N' : St → Hp → Prop} (h : GW X tg v σ H N) (k : ∀ σ' H', N σ' H' → N' σ' H') : GW X tg v σ H N' := fun pins s u I r => thn (h pins s u I r) fun _ s' ⟨σ', H', I', q⟩ => ⟨σ', H', I', k _ _ q⟩
theorem LcN2.read (h : LcN2 X elt tg iter tg1 iter1 ifs ifs1 scope own vs1 σ H Q) :
    ∃ wi, PI X tg iter wi ∧ tLc2 wi (fun v σ H N => ∀ X', IsBlk X scope X' → GW X' tg v σ H N) (fun σ H R => ∀ X', IsBlk X scope X' → IfsW X' ifs σ H R) (wi1Z X tg1 iter1 scope)
      (fun v σ H N => ∀ X', IsBlk X scope X' → GW X' tg1 v σ H N) (fun σ H R => ∀ X', IsBlk X scope X' → IfsW X' ifs1 σ H R) (fun σ H Q => ∀ X', IsBlk X scope X' → EW X' elt σ H Q) (own.map (·.2)) vs1 σ H Q := by
  obtain ⟨wi, p, q⟩ := h
  refine ⟨wi, p, q _ fun J H1 n S Y w hk L hL => ?_⟩
  obtain ⟨G, Pv, sG, h0, hS, ht, hd⟩ := hk
  have gL : G L = none := sG.free hL
  refine ⟨fun i m H' => m = n - i ∧ i ≤ n ∧ ∃ acc G', Gr G H1 G' H' ∧ G' L = none ∧ H' L = some (.lst acc) ∧ Pv i acc G', ⟨n, by simp, Nat.zero_le _, [], G, .of sG (same_upd hL), gL, upd_same, h0⟩, ?_⟩
  rintro i m H' ⟨rfl, hi, acc, G', g, gL', hL', pv⟩
  have s := hS i acc G' H' hi g pv
  by_cases hlt : i < n
  · refine .inr ⟨w.go i H' s hlt, fun H2 => i + 1 ≤ n ∧ ∃ acc G', Gr G H1 G' H2 ∧ G' L = none ∧ H2 L = some (.lst acc) ∧ Pv (i + 1) acc G', fun H2 p2 => ⟨n - (i + 1), by omega, rfl, p2⟩, fun x H2 y X' bX => ?_⟩
    refine gw_mono (ht i acc G' H' x H2 hlt g pv (w.yl i H' x H2 s hlt y) X' bX) fun σ3 H3 ⟨e, k⟩ => ⟨e, fun X2 b2 => ifs_mono (k X2 b2) fun b H4 z => ?_⟩
    cases b with
    | false =>
      rw [if_neg Bool.false_ne_true] at z ⊢
      obtain ⟨G4, g4, pv4⟩ := z
      obtain ⟨o1, o2⟩ := g4.off gL' hL'
      exact ⟨hlt, acc, G4, g.trans g4, o1, o2, pv4⟩
    | true =>
      rw [if_pos rfl] at z ⊢
      intro X3 b3
      obtain ⟨wi1, p1, q1⟩ := z X3 b3
      refine ⟨wi1, p1, q1 _ fun J1 H5 n1 S1 Y1 w1 hk1 => ?_⟩
      obtain ⟨Pv1, ⟨G5, g5, pv5⟩, hS1, ht1, hd1⟩ := hk1
      obtain ⟨o1, o2⟩ := g5.off gL' hL'
      refine ⟨fun j k H6 => k = n1 - j ∧ j ≤ n1 ∧ ∃ ac G6, Gr G H1 G6 H6 ∧ G6 L = none ∧ H6 L = some (.lst ac) ∧ Pv1 j ac G6, ⟨n1, by simp, Nat.zero_le _, acc, G5, g.trans g5, o1, o2, pv5⟩, ?_⟩
      rintro j k H6 ⟨rfl, hj, ac, G6, g6, gl6, hl6, pv6⟩
      have s1 := hS1 j ac G6 H6 hj g6 pv6
      by_cases hjl : j < n1
      · refine .inr ⟨w1.go j H6 s1 hjl, fun H7 => j + 1 ≤ n1 ∧ ∃ ac G6, Gr G H1 G6 H7 ∧ G6 L = none ∧ H7 L = some (.lst ac) ∧ Pv1 (j + 1) ac G6, fun H7 p7 => ⟨n1 - (j + 1), by omega, rfl, p7⟩, fun y H7 yy X4 b4 => ?_⟩
        refine gw_mono (ht1 j ac G6 H6 y H7 hjl g6 pv6 (w1.yl j H6 y H7 s1 hjl yy) X4 b4) fun σ4 H8 ⟨e1, k1⟩ => ⟨e1, fun X5 b5 => ifs_mono (k1 X5 b5) fun b H9 z => ?_⟩
        cases b with
        | false =>
          rw [if_neg Bool.false_ne_true] at z ⊢
          obtain ⟨G9, g9, pv9⟩ := z
          obtain ⟨u1, u2⟩ := g9.off gl6 hl6
          exact ⟨hjl, ac, G9, g6.trans g9, u1, u2, pv9⟩
        | true =>
          rw [if_pos rfl] at z ⊢
          intro X6 b6
          refine (z X6 b6).mono fun zv H10 ⟨hlen, G10, g10, pv10⟩ => ?_
          obtain ⟨u1, u2⟩ := g10.off gl6 hl6
          exact ⟨ac, u2, hlen, hjl, ac ++ [zv], G10, (g6.trans g10).write hL u1, u1, upd_same, pv10⟩
      · have e1 : j = n1 := by omega
        subst e1
        exact .inl ⟨w1.st j H6 s1 (Nat.le_refl _), hlt, ac, G6, g6, gl6, hl6, hd1 ac G6 H6 g6 pv6⟩
  · have e : i = n := by omega
    subst e
    obtain ⟨g2, s2⟩ := g.put hL gL' hL'
    exact .inl ⟨w.st i H' s (Nat.le_refl _), hd L acc G' _ H' g g2 pv s2 hL upd_same⟩
theorem wi1_pe {X : Cx} {tg1 iter1 : Expr} {scope : Scope} (s : Shared) (H : Hp) (C : Addr) (cl : List (Str × Addr)) (fp : List Addr) : PI (X.blk s H scope (compEnvC scope cl C X.env) fp) tg1 iter1 (wi1Z X tg1 iter1 scope) := ⟨fun pins s' σ H' R I h => by
  obtain ⟨wi, p, q⟩ := h _ (isblk s H scope C cl fp)
  exact p.run pins s' σ H' R I q⟩
variable {D : Ends} {i : Nat} {y : Str} {py pos spos : Pos} {N : List Str}
/-- [.. for .. in .. for .. in ..] -/
theorem e_lc2N (hN : X.N.Nodup) (ok : blkC X.N X.env.scope scope own = true) (hv : ∀ i ∈ vs1, i ∈ own.map (·.2)) (h : LcN2 X elt tg iter tg1 iter1 ifs ifs1 scope own vs1 σ H Q)
    (hc : X.calm = true := by rfl) (hs : ∀ x, foldedSetIterable iter X.env x = pure x := by intro _; rfl) (hs1 : ∀ env x, foldedSetIterable iter1 env x = pure x := by intro _ _; rfl) : EW X (.ListComp elt [⟨tg, iter, ifs, 0⟩, ⟨tg1, iter1, ifs1, 0⟩] scope pos) σ H Q := by
  obtain ⟨wi, p, q⟩ := h.read
  exact e_of (pe_lc2 (own := own) (vs1 := vs1) hc hN p (blkOk_by ok) hv (fun s H C cl fp => ⟨fun pins s' σ H v u Q I r z => z _ (isblk _ _ _ _ _ _) pins s' u I r⟩) (fun s H C cl fp => ifs_pe fun σ H R z => z _ (isblk _ _ _ _ _ _))
    (fun s H C cl fp => wi1_pe s H C cl fp) (fun s H C cl fp => ⟨fun pins s' σ H v u Q I r z => z _ (isblk _ _ _ _ _ _) pins s' u I r⟩) (fun s H C cl fp => ifs_pe fun σ H R z => z _ (isblk _ _ _ _ _ _)) (fun s H C cl fp => ⟨fun pins s' σ H Q I z => z _ (isblk _ _ _ _ _ _) pins s' I⟩) hs hs1) q
theorem s_lc2N (hN : X.N.Nodup) (hX : X.N = N) (hi : At N i y) (ok : blkC X.N X.env.scope scope own = true) (hv : ∀ i ∈ vs1, i ∈ own.map (·.2)) (h : LcN2 X elt tg iter tg1 iter1 ifs ifs1 scope own vs1 σ H fun v H1 => D.nx (σ.set i (some v)) H1)
    (hyl : X.env.scope.names.lookup y = some .local := by rfl) (hsw : swapsWith (.ListComp elt [⟨tg, iter, ifs, 0⟩, ⟨tg1, iter1, ifs1, 0⟩] scope pos) (some (.Name y py)) spos.line X.env = pure true := by exact sw_true rfl rfl rfl (by decide +kernel))
    (hc : X.calm = true := by rfl) (hs : ∀ x, foldedSetIterable iter X.env x = pure x := by intro _; rfl) (hs1 : ∀ env x, foldedSetIterable iter1 env x = pure x := by intro _ _; rfl) : SW X (.Assign [.Name y py] (.ListComp elt [⟨tg, iter, ifs, 0⟩, ⟨tg1, iter1, ifs1, 0⟩] scope pos) spos) D σ H := by
  obtain ⟨wi, p, q⟩ := h.read
  exact s_of (ps_setLc2 (i := i) (own := own) (vs1 := vs1) hc hN (by rw [hX]; exact hi) hyl hsw p (blkOk_by ok) hv (fun s H C cl fp => ⟨fun pins s' σ H v u Q I r z => z _ (isblk _ _ _ _ _ _) pins s' u I r⟩) (fun s H C cl fp => ifs_pe fun σ H R z => z _ (isblk _ _ _ _ _ _))
    (fun s H C cl fp => wi1_pe s H C cl fp) (fun s H C cl fp => ⟨fun pins s' σ H v u Q I r z => z _ (isblk _ _ _ _ _ _) pins s' u I r⟩) (fun s H C cl fp => ifs_pe fun σ H R z => z _ (isblk _ _ _ _ _ _)) (fun s H C cl fp => ⟨fun pins s' σ H Q I z => z _ (isblk _ _ _ _ _ _) pins s' I⟩) hs hs1) q
end
end L2.Z

set_option maxHeartbeats 4000000
/-! == and != by an own __eq__. -/
namespace PySem.ZX
open PySem PySem.Spec PyProof.Rows PySem.W PySem.SeqAt
section
variable {M : Model} {prog : Program} {w : World} {A : Around} {E : Value → Shared → Prop} {s : Shared} {K : PySem.W.Frag} {x C f : Addr} {ox : Obj} {od : Option Obj} {b tb : Value}
/-- a built-in slot of an instance's class -/
theorem ifBound_slot {T id : String} {name : Str} {args : List Value} {Q : Option Value → Shared → Prop} (X : K.In s.heap) (I : InstAt s.heap x ox C od) (hs : findIn K (.ref C) name = some (some (.builtin id))) (S : Slot T name id)
    (h : wpAny M A (call (.builtin id) (.ref x :: args)) (fun v => Q (some v)) E s) : wpAny M A (callSpecialIfBound? (.ref x) name args) Q E s := by
  simp only [callSpecialIfBound?, bindSpecialIfBound?]
  refine wpAny_holding (wpAny_bind (wpAny_bind (wpAny_bind (I.type.here ((PySem.W.looks_findIn X hs).here ?_)))))
  refine wpAny_bind (wpAny_askSetting (wpAny_ite ?_))
  have fin : wpAny M A (call (.builtin id) ([.ref x] ++ args) >>= fun v => pure (some v)) Q E s := wpAny_bind (wpAny_mono h (fun v s' h' => wpAny_pure h') fun _ _ h' => h')
  split
  · exact wpAny_bind (wpAny_of_eq (S.bind _) (wpAny_pure (by exact fin)))
  · exact wpAny_tryCatch (wpAny_bind (wpAny_of_eq (S.bind _) (wpAny_pure (by exact fin))))
theorem objNe_entry {Q : Fin → Shared → Prop} (hu : A.units < cLine) (one : wpAny (model prog w) A (callSpecialIfBound? (.ref x) "__eq__" [b]) (fun r s' => ∃ k, r = some (.bool k) ∧ Q (.done (.ret (.bool (!k)))) s') E s) :
    wpAny (model prog w) A (Builtin.«object.__ne__» ⟨[.ref x, b], []⟩) Q E s := by
  obtain ⟨h, g, d, t, os⟩ := s
  unfold Builtin.«object.__ne__»
  repeat (first
    | with_reducible refine wpAny_cRoomFor hu ?_
    | (refine wpAny_bind (m := callSpecialIfBound? (.ref x) (Str.ofString "__eq__") [b]) (wpAny_mono one (fun r s' hr => by
          obtain ⟨k, rfl, hq⟩ := hr
          repeat (first | exact hq | exact wpAny_pure hq | exact wpAny_truthy_bool hq | (refine wpAny_bind (m := truthy (.bool _)) (wpAny_truthy_bool ?_)) | wp_step)) fun _ _ e => e))
    | wp_step)
theorem tryNe_K {Q : Option Value → Shared → Prop} (X : K.In s.heap) (I : InstAt s.heap x ox C od) (hm : mroIn K C (.type "object") = some true) (hs : findIn K (.ref C) "__eq__" = some (some (.ref f))) (hf : isFn K (.ref f) = true)
    (hn : findIn K (.ref C) "__ne__" = some (some (.builtin "object.__ne__"))) (hu : A.units + 1 < cLine)
    (h : wpAny (model prog w) A.in1 (call (.ref f) [.ref x, b]) (fun v s' => ∃ k, v = .bool k ∧ Q (some (.bool (!k))) s') E s) : wpAny (model prog w) A (tryCompare (.ref x) "__ne__" b) Q E s := by
  unfold tryCompare
  refine wpAny_bind (ifBound_slot X I hn F.cmp_object.ne ?_)
  refine wpAny_call (codeAny_call_builtin F.cmp_object.ne.plain F.cmpEntry_ne (PySem.W.check_slot F.cmpKind_ne F.cmpSplit_ne (I.type.andThen (looks_mroIn X hm)) (F.cmpArgs_ne _ _) ?_))
  refine objNe_entry (A := A.in1) hu (ifBound_K X I hs hf (wpAny_mono h (fun v s' hv => ?_) fun _ _ e => e))
  obtain ⟨k, rfl, hq⟩ := hv
  first | exact ⟨k, rfl, wpAny_pure hq⟩ | exact ⟨k, rfl, hq⟩
theorem rcNe_K {Q : Value → Shared → Prop} (X : K.In s.heap) (I : InstAt s.heap x ox C od) (hb : Looks (model prog w) s.heap (typeOf b) tb) (hn : notFirst K C tb = true) (hm : mroIn K C (.type "object") = some true)
    (hs : findIn K (.ref C) "__eq__" = some (some (.ref f))) (hf : isFn K (.ref f) = true) (hne : findIn K (.ref C) "__ne__" = some (some (.builtin "object.__ne__"))) (hu : A.units + 1 < cLine)
    (h : wpAny (model prog w) A.in1 (call (.ref f) [.ref x, b]) (fun v s' => ∃ k, v = .bool k ∧ Q (.bool (!k)) s') E s) : wpAny (model prog w) A (richCompare .NotEq (.ref x) b) Q E s := by
  have one : wpAny (model prog w) A (tryCompare (.ref x) "__ne__" b) (fun r s' => ∃ v, r = some v ∧ Q v s') E s :=
    tryNe_K X I hm hs hf hne hu (wpAny_mono h (fun v s' ⟨k, e, q⟩ => ⟨k, e, _, rfl, q⟩) fun _ _ e => e)
  simp only [richCompare, cmpInfo_NotEq, oneThing_ref]
  refine wpAny_holding (wpAny_bind (wpAny_cRoomFor (Nat.lt_of_succ_lt hu) ?_))
  refine wpAny_bind (I.type.here (wpAny_bind (hb.here ?_)))
  split
  · rename_i q
    have e : subIn K tb (.ref C) = some false := by
      rcases Bool.or_eq_true_iff.mp hn with e | e
      · rw [beq_iff_eq.mp e] at q; simp at q
      · exact beq_iff_eq.mp e
    refine wpAny_bind ((looks_subIn X e).here ?_)
    simp only [Bool.false_eq_true, if_false]
    refine wpAny_bind (wpAny_mono one (fun r s' z => ?_) fun _ _ e => e)
    obtain ⟨v, rfl, hq⟩ := z
    exact wpAny_pure hq
  · refine wpAny_bind (wpAny_pure ?_)
    simp only [Bool.false_eq_true, if_false]
    refine wpAny_bind (wpAny_mono one (fun r s' z => ?_) fun _ _ e => e)
    obtain ⟨v, rfl, hq⟩ := z
    exact wpAny_pure hq
/-- a built-in's value on the left, that declines -/
theorem rcEq_back {T : String} {Q : Value → Shared → Prop} (X : K.In s.heap) (I : InstAt s.heap x ox C od) (hb : Looks (model prog w) s.heap (typeOf b) (.type T)) (h1 : oneThing? .Eq b (.ref x) = none) (hT : mroIn K C (.type T) = some false)
    (hs : findIn K (.ref C) "__eq__" = some (some (.ref f))) (hf : isFn K (.ref f) = true) (hu : A.units < cLine)
    (dec : wpAny (model prog w) A (tryCompare b "__eq__" (.ref x)) (fun r s' => r = none ∧ s' = s) E s)
    (h : wpAny (model prog w) A (call (.ref f) [.ref x, b]) (fun v s' => ∃ k, v = .bool k ∧ Q (.bool k) s') E s) : wpAny (model prog w) A (richCompare .Eq b (.ref x)) Q E s := by
  have two : wpAny (model prog w) A (tryCompare (.ref x) "__eq__" b) (fun r s' => ∃ v, r = some v ∧ Q v s') E s := by
    unfold tryCompare
    refine wpAny_bind (ifBound_K X I hs hf (wpAny_mono h (fun v s' hv => ?_) fun _ _ e => e))
    obtain ⟨k, rfl, q⟩ := hv
    exact wpAny_pure ⟨_, rfl, q⟩
  simp only [richCompare, cmpInfo_Eq, h1]
  refine wpAny_holding (wpAny_bind (wpAny_cRoomFor hu ?_))
  refine wpAny_bind (hb.here (wpAny_bind (I.type.here ?_)))
  rw [if_pos (by simp)]
  refine wpAny_bind ((looks_mroIn X hT).here ?_)
  simp only [Bool.false_eq_true, if_false, Bool.not_false, if_true]
  refine wpAny_bind (m := tryCompare b _ (.ref x)) (wpAny_mono dec (fun r s1 z => ?_) fun _ _ e => e)
  obtain ⟨z1, z2⟩ := z
  subst z1
  subst z2
  refine wpAny_bind (m := tryCompare (.ref x) _ b) (wpAny_mono two (fun r s2 z => ?_) fun _ _ e => e)
  obtain ⟨v, rfl, hq⟩ := z
  exact wpAny_pure hq
end
end PySem.ZX
namespace L2.Z
open PySem PySem.Spec PyProof.Rows PySem.ZX
theorem tyLooks {X : Cx} {pins : List (Addr × Obj)} {σ : St} {H : Hp} {s : Shared} {x : V} {u t : Value} (I : Inv X pins σ H s) (rx : RelV x u) (ty : TyZ X.K H x t) : PySem.W.Looks (model X.prog X.w) s.heap (typeOf u) t := by
  cases ty with
  | x ty =>
    obtain ⟨P, Z, p, hx⟩ := kit_of I rx ty
    exact Z.ty _ _ I.kIn p
  | en ea T =>
    obtain rfl : u = Value.ref _ := rx
    obtain ⟨o, vs, o1, o2, o3, o4⟩ := exN_at I.hok ea
    exact PySem.W.InstAt.type (od := none) ⟨o1, o2, by unfold PySem.W.notCls; rw [o4] <;> rfl, by rw [o3]; trivial⟩
  | ex ea ed T =>
    obtain rfl : u = Value.ref _ := rx
    obtain ⟨ox, od, J, _, _⟩ := exT_inst I ea ed
    exact J.type
/-- the class at C has an __eq__ of its own that keeps sp -/
structure EqZ (P : Program) (w : World) (K : PySem.W.Frag) (mg : Str → Option Value) (base : Heap) (C : Addr) (k : Nat) (sp : Sp) : Prop where
  cl : Cls K C
  ho : PySem.W.mroIn K C (.type "object") = some true
  ne : PySem.W.findIn K (.ref C) "__ne__" = some (some (.builtin "object.__ne__"))
  ex : ∃ f fd, PySem.W.findIn K (.ref C) "__eq__" = some (some (.ref f)) ∧ PySem.W.isFn K (.ref f) = true ∧ FnZ P w K mg base k f fd ["self", "other"] sp ∧ Binds K fd ["self", "other"] []
section
variable {X : Cx} {k : Nat} {f C : Addr} {fd : FuncData} {ps : List Str} {sp : Sp} {σ : St} {H : Hp} {Q : VK} {W : WX}
theorem run_zA {A : Around} {pins : List (Addr × Obj)} {s : Shared} {us : List Value} {kw : List (Str × Value)} {ws : List Value} {vs : List V} (F : FnZ X.prog X.w X.K X.mg X.base k f fd ps sp) (hr : RoomZ k A) (hA : A.frames = X.A.frames) (tk : Takes X W) (I : Inv X pins σ H s)
    (hb : BindsTo s fd ⟨us, kw⟩ (ps.zip ws)) (r : Vals vs ws) (h : sp vs H Q fun c d H' => W c d σ H') : wpAny (model X.prog X.w) A (call (.ref f) us kw) (EP X pins σ Q) X.xe s := by
  have e0 : Env0 X.prog X.w X.K X.mg X.base A X.stack s H := by
    have e := I.env0
    exact ⟨by rw [hA]; exact e.frames, e.mod, e.bs, e.bsz, e.funs, e.frf, e.hok, e.bare⟩
  refine wpAny_call (codeAny_mono (F.run A X.stack s H ⟨us, kw⟩ ws vs Q _ hr e0 hb r h) fun r s' hq => ?_)
  cases r with
  | error e => exact tk e s' (XE.of_call I (fun _ _ _ h => h) hq)
  | ok fl =>
    cases fl with
    | ret u => exact I.after hq
    | next => exact False.elim hq
    | brk => exact False.elim hq
    | cont => exact False.elim hq
/-- an instance == or != anything -/
def rEqO (K : PySem.W.Frag) (C : Addr) (sp : Sp) (g : Bool → Bool) : R2 := fun x y H Q => ∃ a dx fs t, x = .ref a ∧ H a = some (.ins C dx fs) ∧ TyZ K H y t ∧ PySem.W.notFirst K C t = true ∧ sp [x, y] H (fun v H' => ∃ b, v = .bl b ∧ Q (.bl (g b)) H') fun _ _ _ => False
theorem op_eqO (D : EqZ X.prog X.w X.K X.mg X.base C k sp) (hr : RoomZ k X.A) (tk : Takes X (fun _ _ _ _ => False)) : OpR X (compareOp .Eq) (rEqO X.K C sp id) := by
  intro pins s σ H x y v u Q I rx ry ⟨a, dx, fs, t, ex, ha, ty, hn, q⟩
  subst ex
  cases rx
  obtain ⟨f, fd, hs, hf, F, hb⟩ := D.ex
  obtain ⟨mA, J, _⟩ := ins_get I.hok ha
  obtain ⟨od, J, _⟩ := J.look
  obtain ⟨m, hF⟩ := I.fr
  show wpAny (model X.prog X.w) X.A (richCompare .Eq (.ref a) u) (EP X pins σ Q) X.xe s
  refine PySem.W.cmp_K (op := .Eq) hr.r.units0 hF I.ok.mod.kin J (tyLooks I ry ty) hn hs hf ?_
  have r2 : Vals [V.ref a, y] [Value.ref a, u] := .cons rfl (.cons ry .nil)
  refine wpAny_mono (run_zA (us := [.ref a, u]) F hr rfl tk I (bnd hb I.kIn r2 rfl) r2 q) (fun r s' z => ?_) fun _ _ e => e
  obtain ⟨v, H', I', rv, b, ev, q⟩ := z
  subst ev
  cases rv
  exact ⟨.bl b, H', I', rfl, q⟩
theorem RoomZ.in1 {A : Around} (hr : RoomZ (k + 1) A) : RoomZ k A.in1 := ⟨hr.r.in1, hr.g⟩
theorem op_neO (D : EqZ X.prog X.w X.K X.mg X.base C k sp) (hr : RoomZ (k + 1) X.A) (tk : Takes X (fun _ _ _ _ => False)) : OpR X (compareOp .NotEq) (rEqO X.K C sp not) := by
  intro pins s σ H x y v u Q I rx ry ⟨a, dx, fs, t, ex, ha, ty, hn, q⟩
  subst ex
  cases rx
  obtain ⟨f, fd, hs, hf, F, hb⟩ := D.ex
  obtain ⟨mA, J, _⟩ := ins_get I.hok ha
  obtain ⟨od, J, _⟩ := J.look
  show wpAny (model X.prog X.w) X.A (richCompare .NotEq (.ref a) u) (EP X pins σ Q) X.xe s
  refine rcNe_K I.kIn J (tyLooks I ry ty) hn D.ho hs hf D.ne (by have := hr.r.units; omega) ?_
  have r2 : Vals [V.ref a, y] [Value.ref a, u] := .cons rfl (.cons ry .nil)
  refine wpAny_mono (run_zA (us := [.ref a, u]) F hr.in1 rfl tk I (bnd hb I.kIn r2 rfl) r2 q) (fun r s' z => ?_) fun _ _ e => e
  obtain ⟨v, H', I', rv, b, ev, q⟩ := z
  subst ev
  cases rv
  exact ⟨b, rfl, .bl (!b), H', I', rfl, q⟩
end
end L2.Z

set_option maxHeartbeats 4000000
/-! Tuples times 0, 1; whole slices; lists turned about. -/
namespace L2.Z
open PySem PySem.Spec PyProof.Rows PySem.ZX
theorem tuple_mul1 (l : Addr) (items : Array Value) (n : Nat) (dd : Option Addr) (sl : Array (Option Value)) (u : Tok) :
    Meets (Builtin.«tuple.__mul__» ⟨[.ref l, .int 1 u], []⟩) (fun _ R s => s.heap.get? l = some { cls := .type "tuple", dict := dd, data := .seq items n, slots := sl } ∧ R (.ok (.ret (Value.ref l))) s) :=
  .of_wp fun prog w A R s h => by
    obtain ⟨hp, g, d, tk, os⟩ := s
    obtain ⟨hl, h⟩ := h
    have f1 := AutoSeq1.idx_int
    have c1 : (items.isEmpty || (1 : Int) == 1) = true := by simp
    wp_walk using wpAny_loadPart' hl
    repeat (first
      | (refine wpAny_ite_false (decide_eq_false (by decide)) ?_; wp_walk using wpAny_loadPart' hl)
      | (refine wpAny_ite_true (decide_eq_true (by rw [c1])) ?_; wp_walk using wpAny_loadPart' hl))
    exact ⟨_, rfl, h⟩
theorem tuple_mul0 (l : Addr) (items : Array Value) (n : Nat) (dd : Option Addr) (sl : Array (Option Value)) (u : Tok) (h0 : items.isEmpty = false) :
    Meets (Builtin.«tuple.__mul__» ⟨[.ref l, .int 0 u], []⟩) (fun _ R s => s.heap.get? l = some { cls := .type "tuple", dict := dd, data := .seq items n, slots := sl } ∧
      R (.ok (.ret (Value.ref s.heap.objs.size))) { s with heap := s.heap.push { cls := Value.type "tuple", data := Data.seq #[] }, toks := s.toks }) :=
  .of_wp fun prog w A R s h => by
    obtain ⟨hp, g, d, tk, os⟩ := s
    obtain ⟨hl, h⟩ := h
    have f1 := AutoSeq1.idx_int
    have c1 : (items.isEmpty || (0 : Int) == 1) = false := by rw [h0]; rfl
    wp_walk using wpAny_loadPart' hl
    repeat (first
      | (refine wpAny_ite_false (decide_eq_false (by decide)) ?_; wp_walk using wpAny_loadPart' hl)
      | (refine wpAny_ite_false (decide_eq_false (by rw [c1]; exact Bool.false_ne_true)) ?_; wp_walk using wpAny_loadPart' hl)
      | (refine wpAny_ite_true (decide_eq_true (by decide)) ?_; wp_walk using wpAny_loadPart' hl))
    exact ⟨_, rfl, h⟩
def rRep01 (K : PySem.W.Frag) : R2 := fun x y H Q => ∃ l k xs, x = .ref l ∧ y = .int k ∧ SqT K H l xs ∧ xs ≠ [] ∧ ((k = 1 ∧ Q (.ref l) H) ∨ (k = 0 ∧ ∀ p H', New H p (.tup []) H' → Q (.ref p) H'))
theorem op_rep01 {X : Cx} : OpR X (binaryOp .Mult) (rRep01 X.K) := by
  intro pins s σ H x y v u Q I rx ry h
  obtain ⟨l, k, xs, rfl, rfl, hT, hne, q⟩ := h
  cases rx
  obtain ⟨t, rfl⟩ := ry
  obtain ⟨its, r, ⟨⟨cls, dd, data, sl⟩, ho, hc, n, hd⟩, hs⟩ := I.tuple hT
  simp only at hc hd
  subst hc hd
  have hle : its.length = xs.length := r.length.symm
  have hn : its ≠ [] := fun e => hne (by
    rw [e] at hle
    exact List.eq_nil_of_length_eq_zero hle.symm)
  have hi : its.toArray.isEmpty = false := by
    cases its with
    | nil => exact absurd rfl hn
    | cons a b => rfl
  rcases q with ⟨rfl, q⟩ | ⟨rfl, q⟩
  · refine wpAny_binaryOp_repeat_ref (T := "tuple") (U := "int") (by decide) ⟨_, ho, rfl⟩ (fun s' => typeIs_int s' 1 t) noFill_tuple_mul F.fills_int_mul F.slot_int_rmul repeat_tuple F.slot_int_index.lookup
      (call_meets F.slot_int_rmul (typeIs_int s 1 t) F.entry_int_rmul (F.args_int_rmul_2 _ _) (int_rmul_tuple 1 t l its.toArray n dd sl)
        ⟨ho, rfl, ⟨_, ho, rfl⟩, call_meets F.slot_tuple_mul ⟨_, ho, rfl⟩ F.entry_tuple_mul (F.args_tuple_mul_2 _ _) (tuple_mul1 l its.toArray n dd sl t) ⟨ho, ?_⟩⟩)
    exact ⟨.ref l, H, I, rfl, q⟩
  · refine wpAny_binaryOp_repeat_ref (T := "tuple") (U := "int") (by decide) ⟨_, ho, rfl⟩ (fun s' => typeIs_int s' 0 t) noFill_tuple_mul F.fills_int_mul F.slot_int_rmul repeat_tuple F.slot_int_index.lookup
      (call_meets F.slot_int_rmul (typeIs_int s 0 t) F.entry_int_rmul (F.args_int_rmul_2 _ _) (int_rmul_tuple 0 t l its.toArray n dd sl)
        ⟨ho, rfl, ⟨_, ho, rfl⟩, call_meets F.slot_tuple_mul ⟨_, ho, rfl⟩ F.entry_tuple_mul (F.args_tuple_mul_2 _ _) (tuple_mul0 l its.toArray n dd sl t hi) ⟨ho, ?_⟩⟩)
    refine ⟨.ref s.heap.objs.size, _, I.laid (t' := s.toks) (o := .tup []) (fun b ob q => Heap.get?_push_of_some _ q) (Nat.le_refl _) ?_, rfl, q _ _ (.upd (I.hok.fresh (Nat.le_refl _)))⟩
    exact ⟨Nat.zero_le _, _, .nil, IsTup.new _ _⟩
/-! ### data, with a bound -/
structure Bd (n m : Nat) (d : PyData) : Prop where
  dp : d.depth ≤ n
  wt : d.weight ≤ m
structure BdA (n m : Nat) (ds : List PyData) : Prop where
  dp : PyData.depthAll ds ≤ n
  wt : PyData.weightAll ds ≤ m
theorem BdA.nil : BdA 0 0 [] := ⟨by simp [PyData.depthAll], by simp [PyData.weightAll]⟩
theorem BdA.cons {n m n' m' : Nat} {d : PyData} {ds : List PyData} (h : Bd n m d) (t : BdA n' m' ds) : BdA (max n n') (m + 1 + m') (d :: ds) := by
  obtain ⟨h1, h2⟩ := h
  obtain ⟨t1, t2⟩ := t
  constructor
  · rw [PyData.depthAll]; omega
  · rw [PyData.weightAll]; omega
theorem Bd.tup {n m : Nat} {ds : List PyData} (h : BdA n m ds) : Bd (n + 1) m (.tuple ds) := ⟨by rw [PyData.depth]; have := h.dp; omega, by rw [PyData.weight]; exact h.wt⟩
theorem Bd.lst {n m : Nat} {ds : List PyData} (h : BdA n m ds) : Bd (n + 1) m (.list ds) := ⟨by rw [PyData.depth]; have := h.dp; omega, by rw [PyData.weight]; exact h.wt⟩
theorem Bd.mono {n m n' m' : Nat} {d : PyData} (h : Bd n m d) (h1 : n ≤ n') (h2 : m ≤ m') : Bd n' m' d := ⟨Nat.le_trans h.dp h1, Nat.le_trans h.wt h2⟩
theorem BdA.mono {n m n' m' : Nat} {d : List PyData} (h : BdA n m d) (h1 : n ≤ n') (h2 : m ≤ m') : BdA n' m' d := ⟨Nat.le_trans h.dp h1, Nat.le_trans h.wt h2⟩
theorem BdA.append {n m n' m' : Nat} : ∀ {ds es : List PyData}, BdA n m ds → BdA n' m' es → BdA (max n n') (m + m') (ds ++ es)
  | [], es, h, t => t.mono (Nat.le_max_right _ _) (Nat.le_add_left _ _)
  | d :: ds, es, h, t => by
    obtain ⟨h1, h2⟩ := h
    rw [PyData.depthAll] at h1
    rw [PyData.weightAll] at h2
    have r := BdA.append (n := n) (m := m - d.weight - 1) (ds := ds) ⟨by omega, by omega⟩ t
    obtain ⟨r1, r2⟩ := r
    constructor
    · rw [List.cons_append, PyData.depthAll]; omega
    · rw [List.cons_append, PyData.weightAll]; omega
theorem BdA.mem {n m : Nat} : ∀ {ds : List PyData} {d : PyData}, BdA n m ds → d ∈ ds → Bd n m d
  | x :: xs, d, h, hm => by
    obtain ⟨h1, h2⟩ := h
    rw [PyData.depthAll] at h1
    rw [PyData.weightAll] at h2
    rcases List.mem_cons.mp hm with rfl | hm
    · exact ⟨by omega, by omega⟩
    · exact (BdA.mem (n := n) (m := m) (ds := xs) ⟨by omega, by omega⟩ hm)
section
variable {K : PySem.W.Frag} {H H' : Hp} {n m n' m' : Nat} {v : V} {vs : List V} {a : Addr}
def Vd (K : PySem.W.Frag) (H : Hp) (n m : Nat) (v : V) : Prop := ∃ d, Dq K H v d ∧ Bd n m d
def VdA (K : PySem.W.Frag) (H : Hp) (n m : Nat) (vs : List V) : Prop := ∃ ds, DqAll K H vs ds ∧ BdA n m ds
theorem Vd.keep (h : Vd K H n m v) (s : Same H H') : Vd K H' n m v := let ⟨d, h1, h2⟩ := h; ⟨d, Dq.keep s _ _ h1, h2⟩
theorem VdA.keep (h : VdA K H n m vs) (s : Same H H') : VdA K H' n m vs := let ⟨d, h1, h2⟩ := h; ⟨d, Dq.keepAll s _ _ h1, h2⟩
theorem Vd.mono (h : Vd K H n m v) (h1 : n ≤ n') (h2 : m ≤ m') : Vd K H n' m' v := let ⟨d, a, b⟩ := h; ⟨d, a, b.mono h1 h2⟩
theorem Vd.str {z : Str} (h : z.length ≤ m) : Vd K H 0 m (.str z) := ⟨_, .str z, by rw [PyData.depth]; omega, by rw [PyData.weight]; exact h⟩
theorem Vd.int {i : Int} (h : (PyData.int i).weight ≤ m) : Vd K H 0 m (.int i) := ⟨_, .int i, by rw [PyData.depth]; omega, h⟩
theorem Vd.non : Vd K H 0 0 .non := ⟨_, .non, by rw [PyData.depth]; omega, by rw [PyData.weight]; omega⟩
theorem Vd.bl {b : Bool} : Vd K H 0 0 (.bl b) := ⟨_, .bl b, by rw [PyData.depth]; omega, by rw [PyData.weight]; omega⟩
theorem VdA.nil : VdA K H 0 0 [] := ⟨[], .nil, .nil⟩
theorem VdA.cons (h : Vd K H n m v) (t : VdA K H n' m' vs) : VdA K H (max n n') (m + 1 + m') (v :: vs) := let ⟨_, a, b⟩ := h; let ⟨_, c, d⟩ := t; ⟨_, .cons a c, .cons b d⟩
theorem Vd.tup (h : SqT K H a vs) (t : VdA K H n m vs) : Vd K H (n + 1) m (.ref a) := let ⟨_, c, d⟩ := t; ⟨_, .tup h c, .tup d⟩
theorem Vd.lst (h : Rd H a (.lst vs)) (t : VdA K H n m vs) : Vd K H (n + 1) m (.ref a) := let ⟨_, c, d⟩ := t; ⟨_, .lst h c, .lst d⟩
theorem Vd.dct (h : Rd H a (.dK [])) : Vd K H 1 0 (.ref a) := ⟨_, .dct h .nil, by rw [PyData.depth, PyData.depthKv]; omega, by rw [PyData.weight, PyData.weightKv]; omega⟩
theorem dqMem : ∀ {vs : List V} {ds : List PyData} {v : V}, DqAll K H vs ds → v ∈ vs → ∃ d ∈ ds, Dq K H v d
  | _, _, v, .nil, h => by cases h
  | _, _, v, .cons q t, h => by
    rcases List.mem_cons.mp h with rfl | h
    · exact ⟨_, List.mem_cons_self, q⟩
    · obtain ⟨d, hd, hq⟩ := dqMem t h
      exact ⟨d, List.mem_cons_of_mem _ hd, hq⟩
theorem VdA.each (h : VdA K H n m vs) : ∀ v ∈ vs, Vd K H n m v := by
  obtain ⟨ds, h1, h2⟩ := h
  intro v hv
  obtain ⟨d, hd, hq⟩ := dqMem h1 hv
  exact ⟨d, hq, h2.mem hd⟩
end
/-! ### expressions that make data, wherever they stand -/
section
variable {X : Cx} {σ : St} {H : Hp} {n m n' m' : Nat} {e : Expr} {es : List Expr} {pos : Pos}
structure EV (X : Cx) (σ : St) (H : Hp) (n m : Nat) (e : Expr) : Prop where
  run : ∀ (H1 : Hp) (Q : VK), Same H H1 → (∀ v H2, Same H1 H2 → Vd X.K H2 n m v → Q v H2) → EW X e σ H1 Q
structure AV (X : Cx) (σ : St) (H : Hp) (n m : Nat) (es : List Expr) : Prop where
  run : ∀ (H1 : Hp) (Q : List V → Hp → Prop), Same H H1 → (∀ vs H2, Same H1 H2 → VdA X.K H2 n m vs → vs.length = es.length → Q vs H2) → AW X es σ H1 Q
theorem AV.nil : AV X σ H 0 0 [] := ⟨fun H1 Q s q => a_nil (q [] H1 (Same.refl _) .nil rfl)⟩
theorem AV.cons (h : EV X σ H n m e) (t : AV X σ H n' m' es) (hs : starEach (e :: es) X.env = (false, eval e X.env) :: starEach es X.env := by rfl) : AV X σ H (max n n') (m + 1 + m') (e :: es) := ⟨fun H1 Q s q =>
  a_cons (h.run H1 _ s fun v H2 s2 hv => t.run H2 _ (s.trans s2) fun vs H3 s3 hvs l => q (v :: vs) H3 (s2.trans s3) (.cons (hv.keep s3) hvs) (by rw [List.length_cons, List.length_cons, l])) hs⟩
theorem EV.tup {z} (h : AV X σ H n m es) (hl : Nat.ble es.length 1000 = true := by rfl) : EV X σ H (n + 1) m (.Tuple es z pos) := ⟨fun H1 Q s q =>
  e_tupN (h.run H1 _ s fun vs H2 s2 hvs l => ⟨by rw [l]; exact szL hl, fun p H3 n3 => q _ _ (s2.trans n3.same) (.tup (.inl (.inl n3.here)) (hvs.keep n3.same))⟩)⟩
theorem EV.lst (h : AV X σ H n m es) (hl : Nat.ble es.length 1000 = true := by rfl) : EV X σ H (n + 1) m (.List es pos) := ⟨fun H1 Q s q =>
  e_lstN (h.run H1 _ s fun vs H2 s2 hvs l => ⟨by rw [l]; exact szL hl, fun p H3 n3 => q _ _ (s2.trans n3.same) (.lst (.inl n3.here) (hvs.keep n3.same))⟩)⟩
theorem EV.str {i j} (h : Str.length i ≤ m) : EV X σ H 0 m (.Constant (.str i) j pos) := ⟨fun H1 Q s q => e_str (q _ _ (Same.refl _) (.str h))⟩
theorem EV.int {i j} (h : (PyData.int i).weight ≤ m) : EV X σ H 0 m (.Constant (.int i) j pos) := ⟨fun H1 Q s q => e_int (q _ _ (Same.refl _) (.int h))⟩
theorem EV.bl {i j} : EV X σ H 0 0 (.Constant (.bool i) j pos) := ⟨fun H1 Q s q => e_bl (q _ _ (Same.refl _) .bl)⟩
theorem EV.non {j} : EV X σ H 0 0 (.Constant .none j pos) := ⟨fun H1 Q s q => e_non (q _ _ (Same.refl _) .non)⟩
theorem EV.dct : EV X σ H 1 0 (.Dict [] [] pos) := ⟨fun H1 Q s q => e_dKN fun p H2 n2 => q _ _ n2.same (.dct (.inl n2.here))⟩
theorem EV.of {v : V} (hv : Vd X.K H n m v) (h : ∀ H1 (Q : VK), Q v H1 → EW X e σ H1 Q) : EV X σ H n m e := ⟨fun H1 Q s q => h H1 Q (q v H1 (Same.refl _) (hv.keep s))⟩
end
end L2.Z

set_option maxHeartbeats 4000000
/-! Expressions that make tuples of data; lists of values, each bounded. -/
namespace L2.Z
open PySem PySem.Spec PyProof.Rows PySem.ZX
theorem dqDrop {K : PySem.W.Frag} {H : Hp} : ∀ {xs : List V} {ds : List PyData} (i : Nat), DqAll K H xs ds → DqAll K H (xs.drop i) (ds.drop i)
  | _, _, 0, h => h
  | _, _, i + 1, .nil => .nil
  | _, _, i + 1, .cons _ t => dqDrop i t
theorem dqTake {K : PySem.W.Frag} {H : Hp} : ∀ {xs : List V} {ds : List PyData} (i : Nat), DqAll K H xs ds → DqAll K H (xs.take i) (ds.take i)
  | _, _, 0, h => .nil
  | _, _, i + 1, .nil => .nil
  | _, _, i + 1, .cons q t => .cons q (dqTake i t)
theorem dqApp {K : PySem.W.Frag} {H : Hp} : ∀ {vs ws : List V} {ds es : List PyData}, DqAll K H vs ds → DqAll K H ws es → DqAll K H (vs ++ ws) (ds ++ es)
  | _, _, _, _, .nil, t => t
  | _, _, _, _, .cons h s, t => .cons h (dqApp s t)
theorem BdA.drop {n m : Nat} : ∀ {ds : List PyData} (i : Nat), BdA n m ds → BdA n m (ds.drop i)
  | _, 0, h => h
  | [], i + 1, h => h
  | d :: ds, i + 1, h => by
    obtain ⟨b1, b2⟩ := h
    rw [PyData.depthAll] at b1
    rw [PyData.weightAll] at b2
    exact BdA.drop (ds := ds) i ⟨by omega, by omega⟩
theorem BdA.take {n m : Nat} : ∀ {ds : List PyData} (i : Nat), BdA n m ds → BdA n m (ds.take i)
  | _, 0, h => BdA.nil.mono (Nat.zero_le _) (Nat.zero_le _)
  | [], i + 1, h => h
  | d :: ds, i + 1, h => by
    obtain ⟨b1, b2⟩ := h
    rw [PyData.depthAll] at b1
    rw [PyData.weightAll] at b2
    have r := BdA.take (n := n) (m := m - d.weight - 1) (ds := ds) i ⟨by omega, by omega⟩
    obtain ⟨r1, r2⟩ := r
    rw [List.take_succ_cons]
    constructor
    · rw [PyData.depthAll]; omega
    · rw [PyData.weightAll]; omega
section
variable {K : PySem.W.Frag} {H H' : Hp} {n m n' m' : Nat} {v : V} {vs ws : List V} {a : Addr}
theorem VdA.cut (h : VdA K H n m vs) (lo hi : Option Int) : VdA K H n m (cutV vs lo hi) := by
  obtain ⟨ds, h1, h2⟩ := h
  exact ⟨_, dqTake _ (dqDrop _ h1), (h2.drop _).take _⟩
theorem VdA.app (h : VdA K H n m vs) (t : VdA K H n' m' ws) : VdA K H (max n n') (m + m') (vs ++ ws) := let ⟨_, a, b⟩ := h; let ⟨_, c, d⟩ := t; ⟨_, dqApp a c, b.append d⟩
theorem VdA.mono (h : VdA K H n m vs) (h1 : n ≤ n') (h2 : m ≤ m') : VdA K H n' m' vs := let ⟨d, a, b⟩ := h; ⟨d, a, b.mono h1 h2⟩
theorem SqT.same (h : SqT K H a vs) (s : Same H H') : SqT K H' a vs := h.imp (fun z => z.imp (s _ _) fun ⟨o, z⟩ => ⟨o, s _ _ z⟩) id
end
section
variable {X : Cx} {σ : St} {H : Hp} {n m n' m' L N L' N' : Nat} {e e1 e2 : Expr} {es : List Expr} {pos : Pos}
/-- e makes a tuple of L to N items, bounded by n, m -/
structure EVT (X : Cx) (σ : St) (H : Hp) (L N n m : Nat) (e : Expr) : Prop where
  run : ∀ (H1 : Hp) (Q : VK), Same H H1 → (∀ c ts H2, Same H1 H2 → SqT X.K H2 c ts → L ≤ ts.length → ts.length ≤ N → VdA X.K H2 n m ts → Q (.ref c) H2) → EW X e σ H1 Q
/-- e is this number -/
structure EI (X : Cx) (σ : St) (k : Int) (e : Expr) : Prop where
  run : ∀ (H1 : Hp) (Q : VK), Q (.int k) H1 → EW X e σ H1 Q
theorem EV.mono (h : EV X σ H n m e) (h1 : n ≤ n') (h2 : m ≤ m') : EV X σ H n' m' e := ⟨fun H1 Q s q => h.run H1 Q s fun v H2 s2 hv => q v H2 s2 (hv.mono h1 h2)⟩
theorem AV.le (h : AV X σ H n m es) (h1 : n ≤ n') (h2 : m ≤ m') : AV X σ H n' m' es := ⟨fun H1 Q s q => h.run H1 Q s fun v H2 s2 hv l => q v H2 s2 (hv.mono h1 h2) l⟩
theorem EV.str' {z : Str} (h : z.length ≤ m) (hx : ∀ H1 (Q : VK), Q (.str z) H1 → EW X e σ H1 Q) : EV X σ H 0 m e := EV.of (.str h) hx
theorem EVT.ev (h : EVT X σ H L N n m e) : EV X σ H (n + 1) m e := ⟨fun H1 Q s q => h.run H1 Q s fun c ts H2 s2 sq _ _ va => q _ H2 s2 (.tup sq va)⟩
theorem EVT.disp {z} (h : AV X σ H n m es) (hl : Nat.ble es.length 1000 = true := by rfl) : EVT X σ H es.length es.length n m (.Tuple es z pos) := ⟨fun H1 Q s q =>
  e_tupN (h.run H1 _ s fun vs H2 s2 hvs l => ⟨by rw [l]; exact szL hl, fun p H3 n3 => q p vs H3 (s2.trans n3.same) (.inl (.inl n3.here)) (Nat.le_of_eq l.symm) (Nat.le_of_eq l) (hvs.keep n3.same)⟩)⟩
theorem EVT.of {b : Addr} {ts : List V} (sq : SqT X.K H b ts) (va : VdA X.K H n m ts) (h : ∀ H1 (Q : VK), Q (.ref b) H1 → EW X e σ H1 Q) : EVT X σ H ts.length ts.length n m e := ⟨fun H1 Q s q => h H1 Q (q b ts H1 (Same.refl _) (SqT.same sq s) (Nat.le_refl _) (Nat.le_refl _) (va.keep s))⟩
theorem EVT.mul {k : Int} (h : EVT X σ H L N n m e1) (hL : 1 ≤ L) (hN : N ≤ 1000) (hk : EI X σ k e2) (h0 : 0 ≤ k) (h2 : k ≤ 2) : EVT X σ H 0 (2 * N) n (2 * m) (.BinOp e1 .Mult e2 pos) := by
  constructor
  intro H1 Q s q
  rcases (show k = 0 ∨ k = 1 ∨ k = 2 by omega) with rfl | rfl | rfl
  · refine e_op op_rep01 (h.run H1 _ s fun c ts H2 s2 sq l1 l2 va => hk.run H2 _ ⟨c, _, ts, rfl, rfl, sq, fun z => by rw [z] at l1; simp at l1; omega, .inr ⟨rfl, fun p H3 n3 => ?_⟩⟩)
    exact q p [] H3 (s2.trans n3.same) (.inl (.inl n3.here)) (Nat.zero_le _) (Nat.zero_le _) (VdA.nil.mono (Nat.zero_le _) (Nat.zero_le _))
  · refine e_op op_rep01 (h.run H1 _ s fun c ts H2 s2 sq l1 l2 va => hk.run H2 _ ⟨c, _, ts, rfl, rfl, sq, fun z => by rw [z] at l1; simp at l1; omega, .inl ⟨rfl, ?_⟩⟩)
    exact q c ts H2 s2 sq (Nat.zero_le _) (by omega) (va.mono (Nat.le_refl _) (by omega))
  · refine e_op op_repT (h.run H1 _ s fun c ts H2 s2 sq l1 l2 va => hk.run H2 _ ⟨c, _, ts, rfl, rfl, sq, fun z => by rw [z] at l1; simp at l1; omega, by omega, by omega, by omega, fun p hp => ?_⟩)
    have e : (List.replicate (Int.toNat 2) ts).flatten = ts ++ ts := by
      show (List.replicate 2 ts).flatten = _
      simp [List.replicate]
    rw [e]
    refine q p (ts ++ ts) _ (s2.trans (same_upd hp)) (.inl (.inl upd_same)) (Nat.zero_le _) (by rw [List.length_append]; omega) ?_
    have := (va.keep (same_upd hp (o := .tup (ts ++ ts)))).app (va.keep (same_upd hp (o := .tup (ts ++ ts))))
    rw [Nat.max_self] at this
    exact this.mono (Nat.le_refl _) (by omega)
theorem EVT.add (h : EVT X σ H L N n m e1) (hL : 1 ≤ L) (h' : EVT X σ H L' N' n' m' e2) (hN : N + N' ≤ 1000) : EVT X σ H L (N + N') (max n n') (m + m') (.BinOp e1 .Add e2 pos) := by
  constructor
  intro H1 Q s q
  refine e_op z_add (h.run H1 _ s fun c ts H2 s2 sq l1 l2 va => h'.run H2 _ (s.trans s2) fun c' ts' H3 s3 sq' l1' l2' va' => .inr (.inr ⟨c, c', ts, ts', rfl, rfl, SqT.same sq s3, sq', fun z => by rw [z] at l1; simp at l1; omega, Nat.le_trans (by omega) (show 1000 ≤ sizeLine by decide), fun hz => ?_, fun _ p H4 n4 => ?_⟩))
  · exact q c ts H3 (s2.trans s3) (SqT.same sq s3) l1 (by omega) ((va.keep s3).mono (Nat.le_max_left _ _) (Nat.le_add_right _ _))
  · exact q p _ H4 ((s2.trans s3).trans n4.same) (.inl (.inl n4.here)) (by rw [List.length_append]; omega) (by rw [List.length_append]; omega) (((va.keep s3).keep n4.same).app (va'.keep n4.same))
theorem EVT.sl {lo hi : Option Expr} {l u : Option Int} {p2 : Pos} (h : EVT X σ H L N n m e) (hlo : ∀ H1 (Q : Option Int → Hp → Prop), Q l H1 → OW X lo σ H1 Q) (hhi : ∀ H1 (Q : Option Int → Hp → Prop), Q u H1 → OW X hi σ H1 Q) : EVT X σ H 0 N n m (.Subscript e (.Slice lo hi none p2) pos) := by
  constructor
  intro H1 Q s q
  refine e_sl sl_tupA (h.run H1 _ s fun c ts H2 s2 sq l1 l2 va => hlo H2 _ (hhi H2 _ ⟨c, ts, rfl, sq, fun _ => ?_, fun _ p hp => ?_⟩))
  · exact q c ts H2 s2 sq (Nat.zero_le _) l2 va
  · exact q p _ _ (s2.trans (same_upd hp)) (.inl (.inl upd_same)) (Nat.zero_le _) (Nat.le_trans (cutV_length _ _ _) l2) ((va.cut l u).keep (same_upd hp))
theorem EI.int {i j} : EI X σ i (.Constant (.int i) j pos) := ⟨fun H1 Q q => e_int q⟩
theorem EI.sub {i j : Int} (h : EI X σ i e1) (h' : EI X σ j e2) : EI X σ (i - j) (.BinOp e1 .Sub e2 pos) := ⟨fun H1 Q q => e_op op_sub (h.run H1 _ (h'.run H1 _ ⟨_, _, rfl, rfl, q⟩))⟩
theorem EV.listT {b : Addr} {ts : List V} {p : Pos} (sq : SqT X.K H b ts) (va : VdA X.K H n m ts) (ml : X.mg "list" = none) (h : ∀ H1 (Q : VK), Q (.ref b) H1 → EW X e σ H1 Q) (hg : Gl X "list" := by rfl)
    (he : starEach [e] X.env = (false, eval e X.env) :: starEach [] X.env := by rfl) (hpl : (backTo pos (starEach [] X.env)).any (·.1) = false := by rfl) : EV X σ H (n + 1) m (.Call (.Name "list" p) [e] [] pos) := ⟨fun H1 Q s q =>
  e_callT call_list_of ml (by decide +kernel) (a_cons (h H1 _ (a_nil ⟨b, ts, rfl, .inr (SqT.same sq s), fun l nl => q _ _ (same_upd nl) (.lst (.inl upd_same) (va.keep (s.trans (same_upd nl))))⟩)) he) hg (by decide) (by decide) he hpl⟩
end
/-! ### a list of values, each bounded -/
def FS (K : PySem.W.Frag) (n m : Nat) (H : Hp) (F : Addr) (N : Nat) : Prop := ∃ fs, H F = some (.lst fs) ∧ fs.length ≤ N ∧ ∀ v ∈ fs, Vd K H n m v
section
variable {X : Cx} {σ : St} {H H' : Hp} {n m n' m' N : Nat} {es : List Expr} {p1 p2 pos : Pos} {F : Addr} {K : PySem.W.Frag} {Q : VK} {e1 : Expr}
theorem FS.keep (h : FS K n m H F N) (s : Same H H') : FS K n m H' F N := let ⟨fs, a, b, c⟩ := h; ⟨fs, s _ _ a, b, fun v hv => (c v hv).keep s⟩
theorem FS.le {N' : Nat} (h : FS K n m H F N) (s : N ≤ N') : FS K n m H F N' := let ⟨fs, a, b, c⟩ := h; ⟨fs, a, Nat.le_trans b s, c⟩
theorem e_list1 (h : AV X σ H n' m' es) (hn : n' ≤ n) (hm : m' ≤ m) (q : ∀ p H2, Same H H2 → H p = none → FS X.K n m H2 p es.length → Q (.ref p) H2) (hl : Nat.ble es.length 1000 = true := by rfl) : EW X (.List es pos) σ H Q :=
  e_lstN (h.run H _ (Same.refl _) fun vs H2 s2 hvs l => ⟨by rw [l]; exact szL hl, fun p H3 n3 => q p H3 (s2.trans n3.same) (s2.free n3.free) ⟨vs, n3.here, Nat.le_of_eq l, fun v hv => ((hvs.each v hv).keep n3.same).mono hn hm⟩⟩)
theorem e_more (hF : FS X.K n m H F N) (hx : ∀ (Q : VK), Q (.ref F) H → EW X e1 σ H Q) (h : AV X σ H n' m' es) (hn : n' ≤ n) (hm : m' ≤ m) (hN : N + es.length ≤ 1000) (q : ∀ p H2, Same H H2 → H p = none → FS X.K n m H2 p (N + es.length) → Q (.ref p) H2) (hl : Nat.ble es.length 1000 = true := by rfl) : EW X (.BinOp e1 .Add (.List es p2) pos) σ H Q := by
  refine e_op z_add (hx _ (e_list1 h hn hm (fun b H2 s2 nb hB => ?_) hl))
  obtain ⟨fs, a1, a2, a3⟩ := hF
  obtain ⟨gs, b1, b2, b3⟩ := hB
  refine .inr (.inl ⟨F, b, fs, gs, rfl, rfl, s2 _ _ a1, b1, Nat.le_trans (by omega) (show 1000 ≤ sizeLine by decide), fun p H3 n3 => ?_⟩)
  refine q p H3 (s2.trans n3.same) (s2.free n3.free) ⟨fs ++ gs, n3.here, by rw [List.length_append]; omega, fun v hv => ?_⟩
  rcases List.mem_append.mp hv with hv | hv
  · exact (a3 v hv).keep (s2.trans n3.same)
  · exact (b3 v hv).keep n3.same
end
end L2.Z

set_option maxHeartbeats 4000000
/-! Expressions that make known data, put into what nobody changes. -/
namespace L2.Z
open PySem PySem.Spec PyProof.Rows PySem.ZX
theorem dqRep {K : PySem.W.Frag} {H : Hp} {xs : List V} {ds : List PyData} (h : DqAll K H xs ds) : ∀ n : Nat, DqAll K H (List.replicate n xs).flatten (List.replicate n ds).flatten
  | 0 => .nil
  | n + 1 => by
    rw [List.replicate_succ, List.replicate_succ, List.flatten_cons, List.flatten_cons]
    exact dqApp h (dqRep h n)
theorem dqLen {K : PySem.W.Frag} {H : Hp} : ∀ {xs : List V} {ds : List PyData}, DqAll K H xs ds → xs.length = ds.length
  | _, _, .nil => rfl
  | _, _, .cons _ t => by rw [List.length_cons, List.length_cons, dqLen t]
section
variable {X : Cx} {σ : St} {G : Hp} {d : PyData} {ds ds' : List PyData} {e e1 e2 : Expr} {es : List Expr} {pos : Pos} {i : Int} {z : Str}
structure EX (X : Cx) (σ : St) (G : Hp) (d : PyData) (e : Expr) : Prop where
  run : ∀ (G1 H1 : Hp) (Q : VK), Same G G1 → Same G1 H1 → (∀ v G2 H2, Gr G1 H1 G2 H2 → Dq X.K G2 v d → Q v H2) → EW X e σ H1 Q
structure AX (X : Cx) (σ : St) (G : Hp) (ds : List PyData) (es : List Expr) : Prop where
  run : ∀ (G1 H1 : Hp) (Q : List V → Hp → Prop), Same G G1 → Same G1 H1 → (∀ vs G2 H2, Gr G1 H1 G2 H2 → DqAll X.K G2 vs ds → vs.length = es.length → Q vs H2) → AW X es σ H1 Q
/-- e makes a list (one that may be changed) of these -/
structure ELs (X : Cx) (σ : St) (G : Hp) (ds : List PyData) (e : Expr) : Prop where
  run : ∀ (G1 H1 : Hp) (Q : VK), Same G G1 → Same G1 H1 → (∀ l xs G2 H2, Gr G1 H1 G2 H2 → G2 l = some (.lst xs) → DqAll X.K G2 xs ds → Q (.ref l) H2) → EW X e σ H1 Q
theorem AX.nil : AX X σ G [] [] := ⟨fun G1 H1 Q s k q => a_nil (q [] G1 H1 (.refl k) .nil rfl)⟩
theorem AX.cons (h : EX X σ G d e) (t : AX X σ G ds es) (hs : starEach (e :: es) X.env = (false, eval e X.env) :: starEach es X.env := by rfl) : AX X σ G (d :: ds) (e :: es) := ⟨fun G1 H1 Q s k q =>
  a_cons (h.run G1 H1 _ s k fun v G2 H2 g2 hv => t.run G2 H2 _ (s.trans g2.gg) g2.gh fun vs G3 H3 g3 hvs l => q (v :: vs) G3 H3 (g2.trans g3) (.cons (Dq.keep g3.gg _ _ hv) hvs) (by rw [List.length_cons, List.length_cons, l])) hs⟩
theorem EX.str {j} : EX X σ G (.str z) (.Constant (.str z) j pos) := ⟨fun G1 H1 Q s k q => e_str (q _ G1 H1 (.refl k) (.str z))⟩
theorem EX.int {j} : EX X σ G (.int i) (.Constant (.int i) j pos) := ⟨fun G1 H1 Q s k q => e_int (q _ G1 H1 (.refl k) (.int i))⟩
theorem EX.neg {j p1} : EX X σ G (.int (-i)) (.UnaryOp .USub (.Constant (.int i) j p1) pos) := ⟨fun G1 H1 Q s k q => e_un un_neg (e_int ⟨_, rfl, q _ G1 H1 (.refl k) (.int (-i))⟩)⟩
theorem EX.bl {b j} : EX X σ G (.bool b) (.Constant (.bool b) j pos) := ⟨fun G1 H1 Q s k q => e_bl (q _ G1 H1 (.refl k) (.bl b))⟩
theorem EX.non {j} : EX X σ G .none (.Constant .none j pos) := ⟨fun G1 H1 Q s k q => e_non (q _ G1 H1 (.refl k) .non)⟩
theorem EX.dct : EX X σ G (.dict []) (.Dict [] [] pos) := ⟨fun G1 H1 Q s k q => e_dKN fun p H2 n2 => q _ _ H2 (.new k n2) (.dct (.inl upd_same) .nil)⟩
theorem EX.of {v : V} (hv : Dq X.K G v d) (h : ∀ H1 (Q : VK), Q v H1 → EW X e σ H1 Q) : EX X σ G d e := ⟨fun G1 H1 Q s k q => h H1 Q (q v G1 H1 (.refl k) (Dq.keep s _ _ hv))⟩
theorem EX.tup {z} (h : AX X σ G ds es) (hl : Nat.ble es.length 1000 = true := by rfl) : EX X σ G (.tuple ds) (.Tuple es z pos) := ⟨fun G1 H1 Q s k q =>
  e_tupN (h.run G1 H1 _ s k fun vs G2 H2 g2 hvs l => ⟨by rw [l]; exact szL hl, fun p H3 n3 => q _ _ H3 (g2.trans (.new g2.gh n3)) (.tup (.inl (.inl upd_same)) (Dq.keepAll (same_upd (g2.gh.free n3.free)) _ _ hvs))⟩)⟩
theorem ELs.disp (h : AX X σ G ds es) (hl : Nat.ble es.length 1000 = true := by rfl) : ELs X σ G ds (.List es pos) := ⟨fun G1 H1 Q s k q =>
  e_lstN (h.run G1 H1 _ s k fun vs G2 H2 g2 hvs l => ⟨by rw [l]; exact szL hl, fun p H3 n3 => q p vs _ H3 (g2.trans (.new g2.gh n3)) upd_same (Dq.keepAll (same_upd (g2.gh.free n3.free)) _ _ hvs)⟩)⟩
theorem ELs.of {a : Addr} {xs : List V} (ha : G a = some (.lst xs)) (hx : DqAll X.K G xs ds) (h : ∀ H1 (Q : VK), Q (.ref a) H1 → EW X e σ H1 Q) : ELs X σ G ds e := ⟨fun G1 H1 Q s k q => h H1 Q (q a xs G1 H1 (.refl k) (s _ _ ha) (Dq.keepAll s _ _ hx))⟩
theorem ELs.ex (h : ELs X σ G ds e) : EX X σ G (.list ds) e := ⟨fun G1 H1 Q s k q => h.run G1 H1 Q s k fun l xs G2 H2 g2 h1 h2 => q _ G2 H2 g2 (.lst (.inl h1) h2)⟩
theorem EX.lst (h : AX X σ G ds es) (hl : Nat.ble es.length 1000 = true := by rfl) : EX X σ G (.list ds) (.List es pos) := (ELs.disp h hl).ex
theorem ELs.rep {n : Nat} (h : ELs X σ G ds e1) (hk : EI X σ (n : Int) e2) (hn : n ≤ 100) (hl : ds.length ≤ 100) : ELs X σ G (List.replicate n ds).flatten (.BinOp e1 .Mult e2 pos) := ⟨fun G1 H1 Q s k q =>
  e_op z_mul (h.run G1 H1 _ s k fun l xs G2 H2 g2 h1 h2 => hk.run H2 _ (.inr ⟨l, n, xs, rfl, rfl, g2.gh _ _ h1, by omega, by omega, by
    have := dqLen h2
    rw [this]
    have a1 : ds.length * (n : Int).toNat ≤ 100 * 100 := Nat.mul_le_mul hl (by omega)
    exact Nat.le_trans a1 (by decide), fun p H3 n3 => q p _ _ H3 (g2.trans (.new g2.gh n3)) upd_same (by
      have := dqRep h2 n
      exact Dq.keepAll (same_upd (g2.gh.free n3.free)) _ _ this)⟩))⟩
theorem ELs.cat (h : ELs X σ G ds e1) (h' : ELs X σ G ds' e2) (hl : ds.length + ds'.length ≤ 1000) : ELs X σ G (ds ++ ds') (.BinOp e1 .Add e2 pos) := ⟨fun G1 H1 Q s k q =>
  e_op z_add (h.run G1 H1 _ s k fun l xs G2 H2 g2 h1 h2 => h'.run G2 H2 _ (s.trans g2.gg) g2.gh fun l' xs' G3 H3 g3 h3 h4 => .inr (.inl ⟨l, l', xs, xs', rfl, rfl, g3.gh _ _ (g3.gg _ _ h1), g3.gh _ _ h3, by
    rw [dqLen h2, dqLen h4]
    exact Nat.le_trans hl (by decide), fun p H4 n4 => q p _ _ H4 ((g2.trans g3).trans (.new g3.gh n4)) upd_same (Dq.keepAll (same_upd (g3.gh.free n4.free)) _ _ (dqApp (Dq.keepAll g3.gg _ _ h2) h4))⟩))⟩
theorem ELs.to {m : Nat} (h : ELs X σ G ds e) {lo hi : Option Expr} {p2 : Pos} (hlo : ∀ H1 (Q : Option Int → Hp → Prop), Q none H1 → OW X lo σ H1 Q) (hhi : ∀ H1 (Q : Option Int → Hp → Prop), Q (some (m : Int)) H1 → OW X hi σ H1 Q) : ELs X σ G (ds.take m) (.Subscript e (.Slice lo hi none p2) pos) := ⟨fun G1 H1 Q s k q =>
  e_sl sl_listN (h.run G1 H1 _ s k fun l xs G2 H2 g2 h1 h2 => hlo H2 _ (hhi H2 _ ⟨l, xs, rfl, .inl (.inl (g2.gh _ _ h1)), fun p H3 n3 => by
    have e : cutV xs none (some (m : Int)) = xs.take m := by
      unfold cutV
      rw [HT.sIx_none, HT.sIx_nat, List.drop_zero, Nat.sub_zero]
      rcases Nat.le_total m xs.length with h | h
      · rw [Nat.min_eq_left h]
      · rw [Nat.min_eq_right h, List.take_of_length_le (Nat.le_refl _), List.take_of_length_le h]
    rw [e] at n3
    exact q p _ _ H3 (g2.trans (.new g2.gh n3)) upd_same (Dq.keepAll (same_upd (g2.gh.free n3.free)) _ _ (dqTake m h2))⟩))⟩
theorem EX.tupleOf {p : Pos} (h : ELs X σ G ds e) (mt : X.mg "tuple" = none) (hl : ds.length ≤ 1000) (hg : Gl X "tuple" := by rfl)
    (he : starEach [e] X.env = (false, eval e X.env) :: starEach [] X.env := by rfl) (hpl : (backTo pos (starEach [] X.env)).any (·.1) = false := by rfl) : EX X σ G (.tuple ds) (.Call (.Name "tuple" p) [e] [] pos) := ⟨fun G1 H1 Q s k q =>
  e_callT call_tuple_of mt (by decide +kernel) (a_cons (h.run G1 H1 _ s k fun l xs G2 H2 g2 h1 h2 => a_nil ⟨l, xs, rfl, .inl ⟨.inl (.inl (g2.gh _ _ h1)), fun t nt => q _ _ _ (g2.trans (.new g2.gh (.upd nt))) (.tup (.inl (.inl upd_same)) (Dq.keepAll (same_upd (g2.gh.free nt)) _ _ h2))⟩⟩) he) hg (by decide) (by decide) he hpl⟩
/-- list(e) -/
theorem ELs.listOf {p : Pos} (h : ELs X σ G ds e) (ml : X.mg "list" = none) (hg : Gl X "list" := by rfl)
    (he : starEach [e] X.env = (false, eval e X.env) :: starEach [] X.env := by rfl) (hpl : (backTo pos (starEach [] X.env)).any (·.1) = false := by rfl) : ELs X σ G ds (.Call (.Name "list" p) [e] [] pos) := ⟨fun G1 H1 Q s k q =>
  e_callT call_list_of ml (by decide +kernel) (a_cons (h.run G1 H1 _ s k fun l xs G2 H2 g2 h1 h2 => a_nil ⟨l, xs, rfl, .inl (.inl (.inl (g2.gh _ _ h1))), fun t nt => q t xs _ _ (g2.trans (.new g2.gh (.upd nt))) upd_same (Dq.keepAll (same_upd (g2.gh.free nt)) _ _ h2)⟩) he) hg (by decide) (by decide) he hpl⟩
end
/-- two lists of the same flat values -/
def rSameL (K : PySem.W.Frag) (g : Bool → Bool) : R2 := fun x y H Q => ∃ a b xs, x = .ref a ∧ y = .ref b ∧ SqL K H a xs ∧ SqL K H b xs ∧ (∀ z ∈ xs, flatB z = true) ∧ Q (.bl (g true)) H
theorem op_neSame {X : Cx} (hu : X.A.units < cLine) : OpR X (compareOp .NotEq) (rSameL X.K not) := fun pins s σ H x y v u Q I rx ry ⟨a, b, xs, ex, ey, h1, h2, hf, q⟩ => by
  subst ex ey
  cases rx
  cases ry
  obtain ⟨its, r1, l1, _⟩ := I.list h1
  obtain ⟨its2, r2, l2, _⟩ := I.list h2
  refine SeqAt.RcNeAt.lists (e := fun _ => true) l1.isList l2.isList (by rw [List.size_toArray, List.size_toArray, ← r1.length, ← r2.length]) hu (fun j j1 j2 => ?_) X.prog X.w X.xe _ ?_
  · have k1 : j < xs.length := by rw [r1.length]; simpa using j1
    obtain ⟨u1, e1, q1⟩ := r1.get (List.getElem?_eq_getElem k1)
    obtain ⟨u2, e2, q2⟩ := r2.get (List.getElem?_eq_getElem k1)
    have g1 : its.toArray[j] = u1 := by
      have h : j < its.length := by simpa using j1
      rw [List.getElem?_eq_getElem h] at e1
      simpa using e1
    have g2 : its2.toArray[j] = u2 := by
      have h : j < its2.length := by simpa using j2
      rw [List.getElem?_eq_getElem h] at e2
      simpa using e2
    rw [g1, g2]
    exact eqAt_same q1 q2 (hf _ (List.getElem_mem k1))
  · rw [show ((List.range its.toArray.size).all fun _ => true) = true from List.all_eq_true.mpr fun _ _ => rfl]
    exact ⟨.bl false, H, I, rfl, q⟩
theorem mk_nx {R a b : St → Hp → Prop} {c : VK} {σ : St} {H : Hp} (h : R σ H) : Ends.nx { nx := R, rt := c, bk := a, ct := b } σ H := h
end L2.Z

set_option maxHeartbeats 1000000
/-! A built-in's value == an instance with an own __eq__. -/
namespace PySem.ZX
open PySem PySem.Spec PyProof.Rows PySem.W PySem.SeqAt
section
variable {x C dx : Addr}
theorem int_eq_ins (b : Int) (u : Tok) : Meets (Builtin.«int.__eq__» ⟨[.int b u, .ref x], []⟩) (fun _ R s => s.heap.get? x = some (instObj C dx) ∧ R (.ok (.ret .notImplemented)) s) :=
  .of_wp fun prog w A R s h => by
    obtain ⟨hp, g, d, tk, os⟩ := s
    obtain ⟨hl, h⟩ := h
    unfold instObj at hl
    wp_walk using PySem.AutoSeq1.wpAny_loadPart' hl, wpAny_load hl
    exact ⟨_, rfl, h⟩
theorem str_eq_ins (b : Str) (u : Tok) : Meets (Builtin.«str.__eq__» ⟨[.str b u, .ref x], []⟩) (fun _ R s => s.heap.get? x = some (instObj C dx) ∧ R (.ok (.ret .notImplemented)) s) :=
  .of_wp fun prog w A R s h => by
    obtain ⟨hp, g, d, tk, os⟩ := s
    obtain ⟨hl, h⟩ := h
    unfold instObj at hl
    wp_walk using PySem.AutoSeq1.wpAny_loadPart' hl, wpAny_load hl
    exact ⟨_, rfl, h⟩
variable {prog : Program} {w : World} {A : Around} {R : Fin → Shared → Prop} {E : Value → Shared → Prop} {s : Shared} {K : PySem.W.Frag} {ox : Obj} {od : Option Obj}
theorem isIn_no {T : String} {Q : Bool → Shared → Prop} (X : K.In s.heap) (I : InstAt s.heap x ox C od) (h : mroIn K C (.type T) = some false) (q : Q false s) : wpAny (model prog w) A (isInstance (.ref x) (.type T)) Q E s := by
  unfold isInstance
  exact wpAny_bind (I.type.here ((looks_mroIn X h).here q))
theorem list_eq_ins {l : Addr} (X : K.In s.heap) (I : InstAt s.heap x ox C od) (h : mroIn K C (.type "list") = some false) (q : R (.done (.ret .notImplemented)) s) :
    wpAny (model prog w) A (Builtin.«list.__eq__» ⟨[.ref l, .ref x], []⟩) R E s := by
  have hi : ∀ {Q : Bool → Shared → Prop} {E A}, Q false s → wpAny (model prog w) A (isInstance (.ref x) (.type "list")) Q E s := fun q => isIn_no X I h q
  obtain ⟨hp, g, d, tk, os⟩ := s
  wp_walk using hi
  exact q
theorem dict_eq_ins {l : Addr} (hl : (l == sysModules) = false) (X : K.In s.heap) (I : InstAt s.heap x ox C od) (h : mroIn K C (.type "dict") = some false) (q : R (.done (.ret .notImplemented)) s) :
    wpAny (model prog w) A (Builtin.«dict.__eq__» ⟨[.ref l, .ref x], []⟩) R E s := by
  have hi : ∀ {Q : Bool → Shared → Prop} {E A}, Q false s → wpAny (model prog w) A (isInstance (.ref x) (.type "dict")) Q E s := fun q => isIn_no X I h q
  obtain ⟨hp, g, d, tk, os⟩ := s
  wp_walk using hi
  exact q
end
end PySem.ZX
namespace L2.Z
open PySem PySem.Spec PyProof.Rows PySem.ZX
/-- such a value on the left declines -/
def leftB : PyData → Option String
  | .none => some "NoneType"
  | .int _ => some "int"
  | .str _ => some "str"
  | .list _ => some "list"
  | .dict _ => some "dict"
  | _ => none
/-- a built-in's value == an instance -/
def rEqB (K : PySem.W.Frag) (C : Addr) (sp : Sp) : R2 := fun x y H Q => ∃ a dx fs d T, y = .ref a ∧ H a = some (.ins C dx fs) ∧ Dq K H x d ∧ leftB d = some T ∧ PySem.W.mroIn K C (.type T) = some false ∧ sp [y, x] H (fun v H' => ∃ b, v = .bl b ∧ Q (.bl b) H') fun _ _ _ => False
section
variable {X : Cx} {k : Nat} {C : Addr} {sp : Sp}
theorem op_eqB (S : Sys X.base) (D : EqZ X.prog X.w X.K X.mg X.base C k sp) (hr : RoomZ k X.A) (tk : Takes X (fun _ _ _ _ => False)) : OpR X (compareOp .Eq) (rEqB X.K C sp) := by
  intro pins s σ H x y v u Q I rx ry ⟨a, dx, fs, d, T, ey, ha, hd, hT, hm, q⟩
  subst ey
  cases ry
  obtain ⟨f, fd, hs, hf, FF, hb⟩ := D.ex
  obtain ⟨mA, J, _⟩ := ins_get I.hok ha
  obtain ⟨od, J, _⟩ := J.look
  have hg : s.heap.get? a = some (PySem.W.instObj C dx) := (I.hok a _ ha).2.2.2.1
  have hu := hr.r.units0
  show wpAny (model X.prog X.w) X.A (richCompare .Eq v (.ref a)) (EP X pins σ Q) X.xe s
  have fin : wpAny (model X.prog X.w) X.A (call (.ref f) [.ref a, v]) (fun r s' => ∃ b, r = .bool b ∧ EP X pins σ Q (.bool b) s') X.xe s := by
    have r2 : Vals [V.ref a, x] [Value.ref a, v] := .cons rfl (.cons rx .nil)
    refine wpAny_mono (run_zA (us := [.ref a, v]) FF hr rfl tk I (bnd hb I.kIn r2 rfl) r2 q) (fun r s' z => ?_) fun _ _ e => e
    obtain ⟨y, H', I', rv, b, ev, q⟩ := z
    subst ev
    cases rv
    exact ⟨b, rfl, .bl b, H', I', rfl, q⟩
  have go : ∀ T, TyZ X.K H x (.type T) → PySem.W.mroIn X.K C (.type T) = some false → s.TypeIs v T → wpAny (model X.prog X.w) X.A (tryCompare v "__eq__" (.ref a)) (fun r s' => r = none ∧ s' = s) X.xe s → wpAny (model X.prog X.w) X.A (richCompare .Eq v (.ref a)) (EP X pins σ Q) X.xe s :=
    fun T ty hm tI dec => rcEq_back I.kIn J (tyLooks I rx ty) (tI.oneThing_none _ _) hm hs hf hu dec fin
  cases hd with
  | non =>
    cases hT
    cases (show v = Value.none from rx)
    exact go _ (.x (.base .non)) hm rfl (wpAny_tryCompare_declines (show s.TypeIs .none "NoneType" from rfl) F.slot_NoneType_eq_refl (call_gives F.slot_NoneType_eq_refl rfl F.entry_NoneType_eq (F.args_NoneType_eq_2 _ _) (SeqAt.NoneType___eq___none_ref_0 a) ⟨rfl, rfl, rfl⟩))
  | int i =>
    cases hT
    obtain ⟨t, e⟩ := (show ∃ t, v = Value.int i t from rx)
    cases e
    exact go _ (.x (.base (.int i))) hm (typeIs_int s i t) (wpAny_tryCompare_declines (typeIs_int s i t) F.slot_int_eq (call_meets F.slot_int_eq (typeIs_int s i t) F.entry_int_eq (F.args_int_eq_2 _ _) (int_eq_ins i t) ⟨hg, rfl, rfl, rfl⟩))
  | str z =>
    cases hT
    obtain ⟨t, e⟩ := (show ∃ t, v = Value.str z t from rx)
    cases e
    exact go _ (.x (.base (.str z))) hm rfl (wpAny_tryCompare_declines (T := "str") rfl F.slot_str_eq (call_meets F.slot_str_eq rfl F.entry_str_eq (F.args_str_eq_2 _ _) (str_eq_ins z t) ⟨hg, rfl, rfl, rfl⟩))
  | lst hq hall =>
    cases hT
    rename_i l xs ds
    cases (show v = Value.ref l from rx)
    obtain ⟨its, r1, l1, _⟩ := I.list (xs := xs) (.inl hq)
    exact go _ (Dq.lst hq hall).ty hm l1.isList.typeIs (wpAny_tryCompare_declines l1.isList.typeIs F.slot_list_eq (wpAny_call (codeAny_call_builtin F.slot_list_eq.plain F.entry_list_eq (F.slot_list_eq.check _ _ _ _ _ _ _ _ l1.isList.typeIs (F.args_list_eq_2 _ _) (list_eq_ins I.kIn J hm ⟨rfl, rfl, rfl⟩)))))
  | dct hq hall =>
    cases hT
    rename_i l kvs es
    cases (show v = Value.ref l from rx)
    have tI : s.TypeIs (.ref l) "dict" := by
      rcases hq with h | ⟨ob, h⟩
      · obtain ⟨_, _, vs, _, o, es, ep, h1, h2, _⟩ := (show ObjOk X.prog X.w H s.heap l (.dK kvs) from I.hok l _ h)
        exact ⟨o, h1, h2.1⟩
      · obtain ⟨_, _, _, vs, _, o, es, ep, h1, h2, _⟩ := (show ObjOk X.prog X.w H s.heap l (.frz ob (.dK kvs)) from I.hok l _ h)
        exact ⟨o, h1, h2.1⟩
    have nm : (l == sysModules) = false := beq_eq_false_iff_ne.mpr fun z => noMods S I hq z.symm
    exact go _ (Dq.dct hq hall).ty hm tI (wpAny_tryCompare_declines tI F.slot_dict_eq (wpAny_call (codeAny_call_builtin F.slot_dict_eq.plain F.entry_dict_eq (F.slot_dict_eq.check _ _ _ _ _ _ _ _ tI (F.args_dict_eq_2 _ _) (dict_eq_ins nm I.kIn J hm ⟨rfl, rfl, rfl⟩)))))
  | _ => cases hT
end
end L2.Z

set_option maxHeartbeats 1000000
/-! More lists of known data. -/
namespace L2.Z
open PySem PySem.Spec PyProof.Rows PySem.ZX
theorem dqSnoc {K : PySem.W.Frag} {H : Hp} {v : V} {d : PyData} : ∀ {vs : List V} {ds : List PyData}, DqAll K H vs ds → Dq K H v d → DqAll K H (vs ++ [v]) (ds ++ [d])
  | _, _, .nil, h => .cons h .nil
  | _, _, .cons h t, z => .cons h (dqSnoc t z)
theorem dqRev {K : PySem.W.Frag} {H : Hp} : ∀ {xs : List V} {ds : List PyData}, DqAll K H xs ds → DqAll K H xs.reverse ds.reverse
  | _, _, .nil => .nil
  | _, _, .cons q t => by rw [List.reverse_cons, List.reverse_cons]; exact dqSnoc (dqRev t) q
/-- ds[lo:hi] -/
def cutD (ds : List PyData) (lo hi : Option Int) : List PyData := (ds.drop (HT.sIx ds.length 0 lo)).take (HT.sIx ds.length ds.length hi - HT.sIx ds.length 0 lo)
theorem dqCut {K : PySem.W.Frag} {H : Hp} {xs : List V} {ds : List PyData} (h : DqAll K H xs ds) (lo hi : Option Int) : DqAll K H (cutV xs lo hi) (cutD ds lo hi) := by
  unfold cutV cutD
  rw [dqLen h]
  exact dqTake _ (dqDrop _ h)
section
variable {X : Cx} {σ : St} {G : Hp} {d : PyData} {ds : List PyData} {e : Expr} {pos : Pos}
theorem ELs.sl {l u : Option Int} (h : ELs X σ G ds e) {lo hi : Option Expr} {p2 : Pos} (hlo : ∀ H1 (Q : Option Int → Hp → Prop), Q l H1 → OW X lo σ H1 Q) (hhi : ∀ H1 (Q : Option Int → Hp → Prop), Q u H1 → OW X hi σ H1 Q) : ELs X σ G (cutD ds l u) (.Subscript e (.Slice lo hi none p2) pos) := ⟨fun G1 H1 Q s k q =>
  e_sl sl_listN (h.run G1 H1 _ s k fun a xs G2 H2 g2 h1 h2 => hlo H2 _ (hhi H2 _ ⟨a, xs, rfl, .inl (.inl (g2.gh _ _ h1)), fun p H3 n3 =>
    q p _ _ H3 (g2.trans (.new g2.gh n3)) upd_same (Dq.keepAll (same_upd (g2.gh.free n3.free)) _ _ (dqCut h2 l u))⟩))⟩
theorem ELs.rev {k : Nat} {p1 p2 p3 : Pos} (h : ELs X σ G ds e) : ELs X σ G ds.reverse (.Subscript e (.Slice none none (some (.UnaryOp .USub (.Constant (.int 1) k p1) p2)) p3) pos) := ⟨fun G1 H1 Q s kk q =>
  e_of (L2.pe_revL e_pe) (h.run G1 H1 _ s kk fun a xs G2 H2 g2 h1 h2 => ⟨a, xs, rfl, .inl (.inl (g2.gh _ _ h1)), fun p np =>
    q p _ _ _ (g2.trans (.new g2.gh (.upd np))) upd_same (Dq.keepAll (same_upd (g2.gh.free np)) _ _ (dqRev h2))⟩)⟩
end
/-- Gr, where only known objects stand: all of it is kept -/
theorem Gr.all {H H' : Hp} (s : Same H H') : Gr H H H H' := .of (Same.refl _) s
end L2.Z

set_option maxHeartbeats 1000000
/-! More facts of the head: constants, classes, methods, class against class. -/
namespace L2.Z
open PySem PySem.Spec PyProof.Rows PySem.ZX He
local macro_rules | `(tactic| walk_at "len") => `(tactic| (intro vs H Q E h; repeat (first | (obtain ⟨rfl, _⟩ := h; rfl) | (obtain ⟨_, h⟩ := h))))
/-- the types of data -/
def dtys : List String := ["NoneType", "bool", "int", "str", "list", "tuple", "dict"]
theorem dty_mem (d : PyData) : dty d ∈ dtys := by
  cases d <;> simp [dty, dtys]
def fInt (x : Str) (n : Int) : Fact := fun K => match PySem.W.nsIn K mainGlobals x with
  | some (some (.int m _)) => m == n
  | _ => false
def fStr (x z : Str) : Fact := fun K => match PySem.W.nsIn K mainGlobals x with
  | some (some (.str m _)) => m == z
  | _ => false
/-- a class of the module, of plain attributes, none of these names -/
def fCls (x : Str) (attrs : List Str) : Fact := fun K =>
  let C := ga K x
  fGlo x K && PySem.W.plainGet K C Str.empty && PySem.W.hasDictIn K C && PySem.W.plainOver K C && eqO (PySem.W.findIn K (.ref C) "__setattr__") (some (some (.builtin "object.__setattr__")))
  && (attrs.all fun f => eqO (PySem.W.findIn K (.ref C) f) (some none))
  && eqO (PySem.W.findIn K (.ref C) "__class__") (some (some (.builtin "object.__class__"))) && eqO (PySem.W.specialIn K (.builtin "object.__class__") "__get__") (some (some (.builtin "getset_descriptor.__get__")))
  && decide (PySem.W.takesIn K (.builtin "object.__class__") = some true) && decide (PySem.W.mroIn K C (.type "object") = some true) && decide (PySem.W.kitOne K (.ref C) (.ref C) = some true)
  && (dtys.all fun T => decide (PySem.W.kitOne K (.type T) (.ref C) = some false) && decide (PySem.W.mroIn K C (.type T) = some false) && PySem.W.notFirst K C (.type T))
/-- it is made by an own __init__ -/
def fMake (x : Str) : Fact := fun K =>
  let C := ga K x
  PySem.W.makesIn K C && eqO (PySem.W.findIn K (.ref C) "__init__") (some (some (.ref (ma K C "__init__")))) && PySem.W.isFn K (.ref (ma K C "__init__")) && PySem.W.keepIn K (.ref C)
/-- an own == and the built-in != -/
def fEq (x : Str) : Fact := fun K =>
  let C := ga K x
  eqO (PySem.W.findIn K (.ref C) "__ne__") (some (some (.builtin "object.__ne__"))) && eqO (PySem.W.findIn K (.ref C) "__eq__") (some (some (.ref (ma K C "__eq__")))) && PySem.W.isFn K (.ref (ma K C "__eq__"))
def fMeth (x m : Str) : Fact := fun K =>
  let C := ga K x
  eqO (PySem.W.findIn K (.ref C) m) (some (some (.ref (ma K C m)))) && PySem.W.isFn K (.ref (ma K C m)) && PySem.W.keepIn K (.ref (ma K C m))
/-- class against class: isinstance, except -/
def fKit (cs : List (Str × Str × Bool)) : Fact := fun K => cs.all fun c => decide (PySem.W.kitOne K (.ref (ga K c.1)) (.ref (ga K c.2.1)) = some c.2.2)
def fExm (cs : List (Str × Str × Bool)) : Fact := fun K => cs.all fun c => decide (PySem.W.exmOne K (.ref (ga K c.1)) (.ref (ga K c.2.1)) = some c.2.2)
section
variable {K : PySem.W.Frag} {h : Heap} {mg : Str → Option Value} {x : Str} {attrs : List Str}
theorem fInt.ok {n : Int} (X : K.In h) (G : h.Ns mainGlobals mg) (c : fInt x n K = true) : ∃ t, mg x = some (.int n t) := by
  unfold fInt at c
  split at c
  · rename_i m t e
    have := beq_iff_eq.mp c
    subst this
    exact ⟨t, PySem.W.mg_of X G e⟩
  · cases c
theorem fStr.ok {z : Str} (X : K.In h) (G : h.Ns mainGlobals mg) (c : fStr x z K = true) : ∃ t, mg x = some (.str z t) := by
  unfold fStr at c
  split at c
  · rename_i m t e
    have := beq_iff_eq.mp c
    subst this
    exact ⟨t, PySem.W.mg_of X G e⟩
  · cases c
/-- what fCls tells -/
structure ClsQ (K : PySem.W.Frag) (C : Addr) (attrs : List Str) : Prop where
  cl : Cls K C
  na : ∀ f ∈ attrs, NoAttr K C f
  ha : PySem.W.findIn K (.ref C) "__class__" = some (some (.builtin "object.__class__"))
  hn : PySem.W.specialIn K (.builtin "object.__class__") "__get__" = some (some (.builtin "getset_descriptor.__get__"))
  ht : PySem.W.takesIn K (.builtin "object.__class__") = some true
  ho : PySem.W.mroIn K C (.type "object") = some true
  self : PySem.W.kitOne K (.ref C) (.ref C) = some true
  data : ∀ d : PyData, PySem.W.kitOne K (.type (dty d)) (.ref C) = some false
  mro : ∀ d T, leftB d = some T → PySem.W.mroIn K C (.type T) = some false
  nf : ∀ d : PyData, PySem.W.notFirst K C (.type (dty d)) = true
theorem leftB_mem {d : PyData} {T : String} (h : leftB d = some T) : T ∈ dtys := by
  cases d <;> simp [leftB] at h <;> subst h <;> simp [dtys]
theorem fCls.ok (X : K.In h) (G : h.Ns mainGlobals mg) (c : fCls x attrs K = true) : mg x = some (.ref (ga K x)) ∧ ClsQ K (ga K x) attrs := by
  unfold fCls at c
  simp only [Bool.and_eq_true, decide_eq_true_eq] at c
  obtain ⟨⟨⟨⟨⟨⟨⟨⟨⟨⟨⟨c0, c1⟩, c2⟩, c3⟩, c4⟩, c5⟩, c6⟩, c7⟩, c8⟩, c9⟩, c10⟩, c11⟩ := c
  have d := fun T hT => (List.all_eq_true.mp c11 T hT)
  simp only [Bool.and_eq_true, decide_eq_true_eq] at d
  exact ⟨fGlo_ok X G c0, ⟨c1, c2, c3, eqO_ok c4⟩, fun f hf => eqO_ok (List.all_eq_true.mp c5 f hf), eqO_ok c6, eqO_ok c7, c8, c9, c10, fun q => (d _ (dty_mem q)).1.1, fun q T hT => (d _ (leftB_mem hT)).1.2, fun q => (d _ (dty_mem q)).2⟩
theorem fMake.ok (c : fMake x K = true) : Mk K (ga K x) (ma K (ga K x) "__init__") := by
  unfold fMake at c
  simp only [Bool.and_eq_true] at c
  exact ⟨c.1.1.1, eqO_ok c.1.1.2, c.1.2, c.2⟩
theorem fMeth.ok {m : Str} (c : fMeth x m K = true) : Meth K (ga K x) m (ma K (ga K x) m) := by
  unfold fMeth at c
  simp only [Bool.and_eq_true] at c
  exact ⟨eqO_ok c.1.1, c.1.2, c.2⟩
theorem fEq.ok {P : Program} {w : World} {base : Heap} {k : Nat} {sp : Sp} {fd : FuncData} (c : fEq x K = true) (q : ClsQ K (ga K x) attrs) (F : FnZ P w K mg base k (ma K (ga K x) "__eq__") fd ["self", "other"] sp) (b : Binds K fd ["self", "other"] []) : EqZ P w K mg base (ga K x) k sp := by
  unfold fEq at c
  simp only [Bool.and_eq_true] at c
  exact ⟨q.cl, q.ho, eqO_ok c.1.1, _, _, eqO_ok c.1.2, c.2, F, b⟩
theorem fKit.ok {cs : List (Str × Str × Bool)} (c : fKit cs K = true) {a b : Str} {r : Bool} (m : (a, b, r) ∈ cs) : PySem.W.kitOne K (.ref (ga K a)) (.ref (ga K b)) = some r := of_decide_eq_true (List.all_eq_true.mp c _ m)
theorem fExm.ok {cs : List (Str × Str × Bool)} (c : fExm cs K = true) {a b : Str} {r : Bool} (m : (a, b, r) ∈ cs) : PySem.W.exmOne K (.ref (ga K a)) (.ref (ga K b)) = some r := of_decide_eq_true (List.all_eq_true.mp c _ m)
end
end L2.Z

set_option maxHeartbeats 1000000
namespace L2.Z.Law
open PySem PySem.Spec PyProof.Rows PySem.ZX
abbrev PW : Program := PySem.Challenge.pw_instancewoods_k10_types_of_signatures
def topS (i : Nat) : Stmt := PW.main.body.getD i (.Pass ⟨0, 0, 0, 0⟩)
local macro_rules | `(tactic| walk_at "zi") => `(tactic| refine ⟨_, _, rfl, rfl, ?_⟩)
local macro_rules | `(tactic| walk_at "zmod") => `(tactic| refine ⟨_, _, rfl, rfl, (show (0 : Int) < _ by first | decide | omega), ?_⟩)
local macro_rules | `(tactic| walk_at "zdiv") => `(tactic| refine ⟨_, _, rfl, rfl, ⟨(show (0 : Int) < _ by first | decide | omega), ?_⟩, ?_⟩)
local macro_rules | `(tactic| walk_at "z1") => `(tactic| first
  | ((with_reducible show EW _ (Expr.Name _ _) _ _ _); walk_at "nm")
  | ((with_reducible show EW _ (Expr.Constant _ _ _) _ _ _); first | with_reducible refine e_int ?_ | with_reducible refine e_str ?_ | with_reducible refine e_bl ?_ | with_reducible refine e_non ?_)
  | ((with_reducible show EW _ (Expr.BinOp _ Operator.Add _ _) _ _ _); refine e_op z_add ?_)
  | ((with_reducible show EW _ (Expr.BinOp _ Operator.Sub _ _) _ _ _); refine e_op op_sub ?_)
  | ((with_reducible show EW _ (Expr.BinOp _ Operator.Mult _ _) _ _ _); refine e_op z_mul ?_)
  | ((with_reducible show EW _ (Expr.BinOp _ Operator.Mod _ _) _ _ _); refine e_op op_mod ?_)
  | ((with_reducible show EW _ (Expr.BinOp _ Operator.FloorDiv _ _) _ _ _); refine e_op op_fdivW ?_)
  | ((with_reducible show EW _ (Expr.BinOp _ Operator.Pow _ _) _ _ _); refine e_op op_pow ?_)
  | ((with_reducible show EW _ (Expr.List _ _) _ _ _); refine e_lstN ?_)
  | ((with_reducible show EW _ (Expr.Tuple _ _ _) _ _ _); refine e_tupN ?_)
  | ((with_reducible show EW _ (Expr.Subscript _ (Expr.Slice _ _ _ _) _) _ _ _); refine e_sl sl_listN ?_)
  | ((with_reducible show EW _ (Expr.Dict [] [] _) _ _ _); refine e_dKN ?_)
  | ((with_reducible show EW _ (Expr.BoolOp BoolOp.And [_] _) _ _ _); refine e_one ?_)
  | ((with_reducible show EW _ (Expr.BoolOp BoolOp.Or [_] _) _ _ _); refine e_one ?_)
  | ((with_reducible show EW _ (Expr.BoolOp BoolOp.And _ _) _ _ _); refine e_and ?_)
  | ((with_reducible show EW _ (Expr.BoolOp BoolOp.Or _ _) _ _ _); refine e_or ?_)
  | ((with_reducible show EW _ (Expr.IfExp _ _ _ _) _ _ _); refine e_if ?_)
  | ((with_reducible show AW _ [] _ _ _); refine a_nil ?_)
  | ((with_reducible show AW _ (_ :: _) _ _ _); refine a_cons ?_)
  | ((with_reducible show OW _ none _ _ _); refine o_no ?_)
  | ((with_reducible show OW _ (some _) _ _ _); refine o_so ?_)
  | ((with_reducible show TW _ (Expr.UnaryOp UnaryOp.Not _ _) _ _ _); refine t_not ?_)
  | ((with_reducible show TW _ (Expr.BoolOp _ _ _) _ _ _); refine t_w ?_)
  | ((with_reducible show PWW _ (Expr.BoolOp BoolOp.And [_] _) _ _ _); refine w_and1 ?_)
  | ((with_reducible show PWW _ (Expr.BoolOp BoolOp.Or [_] _) _ _ _); refine w_or1 ?_)
  | ((with_reducible show PWW _ (Expr.BoolOp BoolOp.And _ _) _ _ _); refine w_and ?_)
  | ((with_reducible show PWW _ (Expr.BoolOp BoolOp.Or _ _) _ _ _); refine w_or ?_)
  | ((with_reducible show SW _ (Stmt.Return (some _) _) _ _ _); refine s_ret ?_)
  | ((with_reducible show SW _ (Stmt.If _ _ _ _) _ _ _); refine s_if ?_)
  | ((with_reducible show SW _ (Stmt.Expr _ _) _ _ _); refine s_expr ?_)
  | ((with_reducible show SW _ (Stmt.Assign [Expr.Name _ _] _ _) _ _ _); walk_at "set")
  | ((with_reducible show BW _ [_] _ _ _); (first | (with_reducible refine b_one ?_) | refine b_one ?_))
  | ((with_reducible show BW _ [] _ _ _); refine b_nil ?_)
  | ((with_reducible show BW _ _ _ _ _); (first | (with_reducible refine b_cons ?_) | refine b_cons ?_))
  | ((with_reducible show rAddZ _ _ _ _ _); refine Or.inl ⟨_, _, rfl, rfl, ?_⟩)
  | ((with_reducible show rI0 _ _ _ _ _); refine ⟨_, _, rfl, rfl, ?_⟩)
  | ((with_reducible show rI (fun _ j => 0 < j) _ _ _ _ _); refine ⟨_, _, rfl, rfl, (show (0 : Int) < _ by first | decide | omega), ?_⟩)
  | ((with_reducible show Ends.nx _ _ _); first | (with_reducible refine mk_nx ?_) | refine (show BW _ _ _ _ _ from ?_)))
local macro_rules | `(tactic| walk_at "z") => `(tactic| repeat walk_at "z1")
local macro_rules | `(tactic| walk_at "st") => `(tactic| repeat (first
  | ((with_reducible show Ends.nx _ _ _); first | (with_reducible refine mk_nx ?_) | refine (show BW _ _ _ _ _ from ?_))
  | ((with_reducible show BW _ _ _ _ _); (first | (with_reducible refine b_cons ?_) | refine b_cons ?_))))
/-! ### what the program's small tests tell of data -/
def dWhole : PyData → Bool
  | .int _ => true
  | _ => false
def lowc (c : Nat) : Bool := decide (c ∈ (Str.ofString "abcdefghijklmnopqrstuvwxyz").cps.toList)
def low (z : Str) : Bool := z.cps.toList.all lowc
def dName : PyData → Bool
  | .str z => decide (1 ≤ z.length) && decide (z.length ≤ 8) && low z
  | _ => false
def dRow : PyData → Bool
  | .tuple [a, b] => dName a && (match b with
    | .int i => decide (0 ≤ i) && decide (i ≤ 2)
    | _ => false)
  | _ => false
section
variable {P : Program} {w : World} {K : PySem.W.Frag} {mg : Str → Option Value} {base : Heap} {f : Addr}
/-- not too great -/
def Sml (d : PyData) : Prop := d.weight ≤ 2 ^ 20
theorem Sml.str {z : Str} (h : Sml (.str z)) : z.length ≤ sizeLine := by
  unfold Sml at h
  rw [PyData.weight] at h
  exact Nat.le_trans h (by decide)
theorem weight_mem {d : PyData} : ∀ {ds : List PyData}, d ∈ ds → d.weight ≤ PyData.weightAll ds
  | x :: xs, h => by
    rw [PyData.weightAll]
    rcases List.mem_cons.mp h with rfl | h
    · omega
    · have := weight_mem h
      omega
theorem Sml.tup {d : PyData} {ds : List PyData} (h : Sml (.tuple ds)) (m : d ∈ ds) : Sml d := by
  unfold Sml at *
  rw [PyData.weight] at h
  exact Nat.le_trans (weight_mem m) h
theorem Sml.lst {d : PyData} {ds : List PyData} (h : Sml (.list ds)) (m : d ∈ ds) : Sml d := by
  unfold Sml at *
  rw [PyData.weight] at h
  exact Nat.le_trans (weight_mem m) h
theorem DqAll.length {K : PySem.W.Frag} {H : Hp} : ∀ {xs : List V} {ds : List PyData}, DqAll K H xs ds → xs.length = ds.length
  | _, _, .nil => rfl
  | _, _, .cons _ t => by rw [List.length_cons, List.length_cons, DqAll.length t]
theorem DqAll.at {K : PySem.W.Frag} {H : Hp} : ∀ {xs : List V} {ds : List PyData} {i : Nat} {d : PyData}, DqAll K H xs ds → ds[i]? = some d → ∃ v, xs[i]? = some v ∧ Dq K H v d
  | _, _, i, d, .nil, e => by simp at e
  | _, _, 0, d, .cons h t, e => by simp at e; subst e; exact ⟨_, rfl, h⟩
  | _, _, i + 1, d, .cons h t, e => by
    obtain ⟨v, h1, h2⟩ := DqAll.at (i := i) (d := d) t (by simpa using e)
    exact ⟨v, by simpa using h1, h2⟩
/-- f of one value, a test -/
def spTest (K : PySem.W.Frag) (g : PyData → Bool) (small : PyData → Prop) : Sp := fun vs H Q _ => ∃ v d, vs = [v] ∧ Dq K H v d ∧ small d ∧ ∀ H', Same H H' → Q (.bl (g d)) H'
abbrev sWhole : Stmt := topS 11
abbrev nsWhole : List Str := ["value"]
theorem scWhole : FnScope nsWhole ["value"] (defScope sWhole) := ⟨rfl, rfl, rfl, by decide +kernel, rfl, by decide +kernel, by decide +kernel⟩
local macro_rules | `(tactic| walk_at "nm") => `(tactic| first
  | ((with_reducible show EW _ (Expr.Name (Str.ofString "value") _) _ _ _); refine e_nm (i := 0) (N := nsWhole) rfl at_z rfl ?_))
local macro_rules | `(tactic| walk_at "set") => `(tactic| first
  | ((with_reducible show SW _ (Stmt.Assign [Expr.Name (Str.ofString "value") _] _ _) _ _ _); refine s_set (i := 0) (N := nsWhole) scWhole.nd rfl at_z ?_))
local macro_rules | `(tactic| walk_at "tg") => `(tactic| first
  | ((with_reducible show GW _ (Expr.Name (Str.ofString "value") _) _ _ _ _); refine g_nm (i := 0) (N := nsWhole) scWhole.nd rfl at_z ?_))
theorem bWhole (mi : mg "isinstance" = none) (m1 : mg "int" = none) (m2 : mg "bool" = none) : BodyZ P w K mg base nsWhole "is_whole" sWhole f 0 (spTest K dWhole fun _ => True) := by
  intro X cd A outer s H vs Q E hX hr tk hs
  subst hX
  obtain ⟨v, d, rfl, hd, _, hQ⟩ := hs
  walk_at "z"
  refine e_isT (T := "int") mi m1 (by decide +kernel) ?_
  walk_at "z1"
  refine ⟨_, _, hd.ty, kit_ty (kb_int d), _, rfl, ?_⟩
  have fin : ∀ b, b = dWhole d → (if b = true then Q (.bl true) H else Q (.bl false) H) := fun b e => by
    have := hQ H (Same.refl _)
    rw [← e] at this
    cases b <;> exact this
  by_cases h1 : isIntB d = true
  · rw [if_pos h1]
    walk_at "z"
    refine e_notV ?_
    refine e_isT (T := "bool") mi m2 (by decide +kernel) ?_
    walk_at "z1"
    refine ⟨_, _, hd.ty, kit_ty (kb_bool d), _, rfl, ?_⟩
    have e : (!isBool d) = dWhole d := by cases d <;> first | rfl | cases h1
    rw [e]
    exact hQ H (Same.refl _)
  · rw [if_neg h1]
    have e : dWhole d = false := by cases d <;> first | rfl | exact absurd rfl h1
    have := hQ H (Same.refl _)
    rw [e] at this
    exact this
abbrev sName : Stmt := topS 12
abbrev nsName : List Str := ["value", "letter"]
theorem scName : FnScope nsName ["value"] (defScope sName) := ⟨rfl, rfl, rfl, by decide +kernel, rfl, by decide +kernel, by decide +kernel⟩
local macro_rules | `(tactic| walk_at "nm") => `(tactic| first
  | ((with_reducible show EW _ (Expr.Name (Str.ofString "value") _) _ _ _); refine e_nm (i := 0) (N := nsName) rfl at_z rfl ?_)
  | ((with_reducible show EW _ (Expr.Name (Str.ofString "letter") _) _ _ _); refine e_nm (i := 1) (N := nsName) rfl (at_s at_z) rfl ?_))
local macro_rules | `(tactic| walk_at "set") => `(tactic| first
  | ((with_reducible show SW _ (Stmt.Assign [Expr.Name (Str.ofString "value") _] _ _) _ _ _); refine s_set (i := 0) (N := nsName) scName.nd rfl at_z ?_)
  | ((with_reducible show SW _ (Stmt.Assign [Expr.Name (Str.ofString "letter") _] _ _) _ _ _); refine s_set (i := 1) (N := nsName) scName.nd rfl (at_s at_z) ?_))
local macro_rules | `(tactic| walk_at "tg") => `(tactic| first
  | ((with_reducible show GW _ (Expr.Name (Str.ofString "value") _) _ _ _ _); refine g_nm (i := 0) (N := nsName) scName.nd rfl at_z ?_)
  | ((with_reducible show GW _ (Expr.Name (Str.ofString "letter") _) _ _ _ _); refine g_nm (i := 1) (N := nsName) scName.nd rfl (at_s at_z) ?_))
theorem dqChars {H : Hp} : ∀ cs : List Nat, DqAll K H (cs.map fun c => V.str ⟨#[c]⟩) (cs.map fun c => PyData.str ⟨#[c]⟩)
  | [] => .nil
  | c :: cs => .cons (.str _) (dqChars cs)
theorem bName (mi : mg "isinstance" = none) (ms : mg "str" = none) (ml : mg "len" = none) (hm : ∃ t, mg "MOST_LETTERS" = some (.int 8 t)) (hl : ∃ t, mg "LETTERS" = some (.str "abcdefghijklmnopqrstuvwxyz" t)) :
    BodyZ P w K mg base nsName "is_name" sName f 0 (spTest K dName Sml) := by
  intro X cd A outer s H vs Q E hX hr tk hs
  subst hX
  have hu := hr.r.units
  have hu0 : (cz P w K mg base nsName "is_name" (defScope sName) f cd A outer s H E).A.units < cLine := Nat.lt_of_le_of_lt (Nat.le_add_right _ _) hu
  obtain ⟨v, d, rfl, hd, hsm, hQ⟩ := hs
  obtain ⟨t8, hm⟩ := hm
  obtain ⟨tl, hl'⟩ := hl
  have no : dName d = false → Q (.bl false) H := fun e => by
    have := hQ H (Same.refl _)
    rw [e] at this
    exact this
  walk_at "z1"
  walk_at "z1"
  refine t_w (w_or (t_not (t_val ?_)))
  refine e_isT (T := "str") mi ms (by decide +kernel) ?_
  walk_at "z1"
  refine ⟨_, _, hd.ty, kit_ty (kb_str d), _, rfl, ?_⟩
  by_cases h1 : isStr d = true
  · obtain ⟨z, rfl⟩ : ∃ z, d = .str z := by cases d <;> first | exact ⟨_, rfl⟩ | cases h1
    cases hd
    have hz : z.length ≤ sizeLine := hsm.str
    refine (if_neg (by simp [isStr])).mpr ?_
    refine w_or1 (t_not (t_chain op_le op_le ?_))
    walk_at "z"
    refine e_callB call_len_str ml PySem.boot_len ?_
    walk_at "z"
    refine ⟨z, rfl, hz, ?_⟩
    walk_at "z1"
    refine ⟨_, rfl, ?_⟩
    by_cases h2 : (1 : Int) ≤ (z.length : Int)
    · refine (if_pos (by simpa using h2)).mpr ?_
      refine e_glob (v := .int 8) hm ⟨_, rfl⟩ ?_
      walk_at "z1"
      refine ⟨_, rfl, ?_⟩
      by_cases h3 : (z.length : Int) ≤ 8
      · refine (if_neg (by simpa using h3)).mpr ?_
        walk_at "z"
        refine e_cmp (op_eqE hu0) ?_
        refine e_lcN (own := [("letter", 1)]) scName.nd (show blkC nsName (defScope sName) _ _ = true by decide +kernel) (i_str ?_)
        walk_at "z"
        refine ⟨z, rfl, H, fun i acc _ => (acc = [] ↔ (z.cps.toList.take i).all lowc = true), Same.refl _, hz, by simp, fun _ _ _ _ _ _ _ => trivial, ?_, ?_⟩
        · rintro i acc G' H' x H2 hi hl g pv ⟨rfl, c, hc, rfl⟩ X' ⟨s', H3, C, cl, fp, rfl⟩
          walk_at "tg"
          refine ⟨rfl, ?_⟩
          rintro X' ⟨s', H3, C, cl, fp, rfl⟩
          refine (show TW _ _ _ _ _ from ?_)
          refine t_cmp op_notIn_sign ?_
          walk_at "z1"
          refine e_glob (v := .str "abcdefghijklmnopqrstuvwxyz") hl' ⟨_, rfl⟩ ?_
          refine ⟨c, _, rfl, rfl, _, rfl, ?_⟩
          have ec : z.cps.toList[i]? = some c := by rw [Array.getElem?_toList]; exact hc
          have et : z.cps.toList.take (i + 1) = z.cps.toList.take i ++ [c] := by rw [List.take_add_one, ec]; rfl
          by_cases hin : lowc c = true
          · rw [if_neg (by simpa [lowc] using hin)]
            refine ⟨_, .refl g.gh, ?_⟩
            show acc = [] ↔ _
            rw [et, List.all_append, pv]
            simp [hin]
          · rw [if_pos (by simpa [lowc] using hin)]
            rintro X' ⟨s', H3, C, cl, fp, rfl⟩
            walk_at "z"
            refine ⟨_, .refl g.gh, ?_⟩
            show acc ++ [_] = [] ↔ _
            rw [et, List.all_append]
            simp [hin]
        · rintro L acc G2 G' H' hl _ g pv sG hL hG
          walk_at "z"
          refine ⟨szL, fun q H6 n6 => ?_⟩
          refine ⟨L, q, acc, [], rfl, rfl, .inl ⟨.inl (.inl (n6.same _ _ (g.gh _ _ hG))), .inl (.inl n6.here)⟩, .inr rfl, ?_⟩
          have e : dName (.str z) = (id (acc.length == ([] : List V).length)) := by
            have pv' : acc = [] ↔ z.cps.toList.all lowc = true := by
              have := pv
              rw [List.take_of_length_le (by simp)] at this
              exact this
            have l1 : (decide (1 ≤ z.length) && decide (z.length ≤ 8)) = true := by simp; omega
            show (decide (1 ≤ z.length) && decide (z.length ≤ 8) && low z) = _
            rw [l1, Bool.true_and]
            show z.cps.toList.all lowc = (acc.length == 0)
            cases hb : z.cps.toList.all lowc with
            | true => rw [pv'.mpr hb]; rfl
            | false =>
              have : acc ≠ [] := fun h => by rw [pv'.mp h] at hb; cases hb
              cases acc with
              | nil => exact absurd rfl this
              | cons _ _ => rfl
          rw [← e]
          exact hQ _ (g.hh.trans n6.same)
      · refine (if_pos (by simpa using h3)).mpr ?_
        walk_at "z"
        exact no (by simp [dName]; omega)
    · refine (if_neg (by simpa using h2)).mpr ⟨_, rfl, ?_⟩
      refine (if_pos (by simp)).mpr ?_
      walk_at "z"
      exact no (by simp [dName]; omega)
  · refine (if_pos (by simpa using h1)).mpr ?_
    refine (if_pos rfl).mpr ?_
    walk_at "z"
    exact no (by cases d <;> first | rfl | exact absurd rfl h1)
abbrev sRow : Stmt := topS 13
abbrev nsRow : List Str := ["value"]
theorem scRow : FnScope nsRow ["value"] (defScope sRow) := ⟨rfl, rfl, rfl, by decide +kernel, rfl, by decide +kernel, by decide +kernel⟩
local macro_rules | `(tactic| walk_at "nm") => `(tactic| first
  | ((with_reducible show EW _ (Expr.Name (Str.ofString "value") _) _ _ _); refine e_nm (i := 0) (N := nsRow) rfl at_z rfl ?_))
local macro_rules | `(tactic| walk_at "set") => `(tactic| first
  | ((with_reducible show SW _ (Stmt.Assign [Expr.Name (Str.ofString "value") _] _ _) _ _ _); refine s_set (i := 0) (N := nsRow) scRow.nd rfl at_z ?_))
local macro_rules | `(tactic| walk_at "tg") => `(tactic| first
  | ((with_reducible show GW _ (Expr.Name (Str.ofString "value") _) _ _ _ _); refine g_nm (i := 0) (N := nsRow) scRow.nd rfl at_z ?_))
theorem bRow (mi : mg "isinstance" = none) (mt : mg "tuple" = none) (ml : mg "len" = none) (hm : ∃ t, mg "MOST_PARTS" = some (.int 2 t)) (DN : DefZ P w K mg base "is_name" 1 ["value"] (spTest K dName Sml)) (DW : DefZ P w K mg base "is_whole" 1 ["value"] (spTest K dWhole fun _ => True)) :
    BodyZ P w K mg base nsRow "is_row" sRow f 1 (spTest K dRow Sml) := by
  intro X cd A outer s H vs Q E hX hr tk hs
  subst hX
  obtain ⟨v, d, rfl, hd, hsm, hQ⟩ := hs
  obtain ⟨t2, hm⟩ := hm
  have no : ∀ H', Same H H' → dRow d = false → Q (.bl false) H' := fun H' sm e => by
    have := hQ H' sm
    rw [e] at this
    exact this
  walk_at "z1"
  walk_at "z1"
  refine t_w (w_or (t_not (t_val ?_)))
  refine e_isT (T := "tuple") mi mt (by decide +kernel) ?_
  walk_at "z1"
  refine ⟨_, _, hd.ty, kit_ty (kb_tup d), _, rfl, ?_⟩
  by_cases h1 : isTup d = true
  · obtain ⟨ds, rfl⟩ : ∃ ds, d = .tuple ds := by cases d <;> first | exact ⟨_, rfl⟩ | cases h1
    cases hd with
    | tup hq hall =>
      rename_i a xs
      have hlen := DqAll.length hall
      refine (if_neg (by simp [isTup])).mpr ?_
      refine w_or (t_cmp op_ne ?_)
      refine e_callB call_len_seq ml PySem.boot_len ?_
      walk_at "z"
      refine ⟨_, xs, rfl, .inr hq, ?_⟩
      walk_at "z1"
      refine ⟨rfl, _, rfl, ?_⟩
      by_cases h2 : xs.length = 2
      · refine (if_neg (by simp; omega)).mpr ?_
        obtain ⟨d0, d1, rfl⟩ : ∃ d0 d1, ds = [d0, d1] := by
          match ds, hlen.symm.trans h2 with
          | [d0, d1], _ => exact ⟨d0, d1, rfl⟩
        obtain ⟨v0, e0, q0⟩ := DqAll.at hall (i := 0) rfl
        obtain ⟨v1, e1, q1⟩ := DqAll.at hall (i := 1) rfl
        have at0 : atI xs 0 = some v0 := by
          match xs, h2 with
          | [a, b], _ => exact e0
        have at1 : atI xs 1 = some v1 := by
          match xs, h2 with
          | [a, b], _ => exact e1
        refine w_or1 (t_not (t_val ?_))
        refine e_call DN hr tk ?_
        walk_at "z1"
        refine e_ix ix_tup ?_
        walk_at "z"
        refine ⟨_, _, _, _, rfl, rfl, hq, at0, ?_⟩
        walk_at "z1"
        refine ⟨v0, d0, rfl, q0, hsm.tup (by simp), fun H1 S1 => ?_⟩
        have hq1 : SqT K H1 a xs := hq.imp (fun z => z.imp (S1 _ _) fun ⟨o, z⟩ => ⟨o, S1 _ _ z⟩) id
        refine ⟨_, rfl, ?_⟩
        cases hn : dName d0 with
        | false =>
          refine (if_pos rfl).mpr ?_
          walk_at "z"
          exact no _ S1 (by simp [dRow, hn])
        | true =>
          refine (if_neg (by simp)).mpr ?_
          walk_at "z"
          refine e_call DW hr tk ?_
          walk_at "z1"
          refine e_ix ix_tup ?_
          walk_at "z"
          refine ⟨_, _, _, _, rfl, rfl, hq1, at1, ?_⟩
          walk_at "z1"
          refine ⟨v1, d1, rfl, Dq.keep S1 _ _ q1, trivial, fun H2 S2 => ?_⟩
          have S12 := S1.trans S2
          have hq2 : SqT K H2 a xs := hq.imp (fun z => z.imp (S12 _ _) fun ⟨o, z⟩ => ⟨o, S12 _ _ z⟩) id
          refine ⟨_, rfl, ?_⟩
          cases hw : dWhole d1 with
          | false =>
            refine (if_neg (by simp)).mpr ?_
            exact no _ S12 (by cases d1 <;> first | (cases hw; done) | simp [dRow])
          | true =>
            refine (if_pos rfl).mpr ?_
            obtain ⟨i, rfl⟩ : ∃ i, d1 = .int i := by cases d1 <;> first | exact ⟨_, rfl⟩ | cases hw
            cases q1
            walk_at "z1"
            refine e_chain op_le op_le ?_
            walk_at "z1"
            refine e_ix ix_tup ?_
            walk_at "z"
            refine ⟨_, _, _, _, rfl, rfl, hq2, at1, ?_⟩
            refine ⟨_, _, rfl, rfl, _, rfl, ?_⟩
            by_cases h3 : 0 ≤ i
            · refine (if_pos (by simpa using h3)).mpr ?_
              refine e_glob (v := .int 2) hm ⟨_, rfl⟩ ?_
              refine ⟨_, _, rfl, rfl, ?_⟩
              have := hQ H2 S12
              simp only [dRow, hn, h3, decide_true, Bool.true_and] at this
              exact this
            · refine (if_neg (by simpa using h3)).mpr ?_
              exact no _ S12 (by simp [dRow, h3])
      · refine (if_pos (by simp; omega)).mpr ?_
        refine (if_pos rfl).mpr ?_
        walk_at "z"
        exact no _ (Same.refl _) (by
          match ds, fun z : ds.length = 2 => h2 (hlen.trans z) with
          | [], _ => rfl
          | [_], _ => rfl
          | [_, _], n => exact absurd rfl n
          | _ :: _ :: _ :: _, _ => rfl)
  · refine (if_pos (by simpa using h1)).mpr ?_
    refine (if_pos rfl).mpr ?_
    walk_at "z"
    exact no _ (Same.refl _) (by cases d <;> first | rfl | exact absurd rfl h1)
end
end L2.Z.Law
set_option maxHeartbeats 1000000
namespace L2.Z.Law
open PySem PySem.Spec PyProof.Rows PySem.ZX
local macro_rules | `(tactic| walk_at "zi") => `(tactic| refine ⟨_, _, rfl, rfl, ?_⟩)
local macro_rules | `(tactic| walk_at "zmod") => `(tactic| refine ⟨_, _, rfl, rfl, (show (0 : Int) < _ by first | decide | omega), ?_⟩)
local macro_rules | `(tactic| walk_at "zdiv") => `(tactic| refine ⟨_, _, rfl, rfl, ⟨(show (0 : Int) < _ by first | decide | omega), ?_⟩, ?_⟩)
local macro_rules | `(tactic| walk_at "z1") => `(tactic| first
  | ((with_reducible show EW _ (Expr.Name _ _) _ _ _); walk_at "nm")
  | ((with_reducible show EW _ (Expr.Constant _ _ _) _ _ _); first | with_reducible refine e_int ?_ | with_reducible refine e_str ?_ | with_reducible refine e_bl ?_ | with_reducible refine e_non ?_)
  | ((with_reducible show EW _ (Expr.BinOp _ Operator.Add _ _) _ _ _); refine e_op z_add ?_)
  | ((with_reducible show EW _ (Expr.BinOp _ Operator.Sub _ _) _ _ _); refine e_op op_sub ?_)
  | ((with_reducible show EW _ (Expr.BinOp _ Operator.Mult _ _) _ _ _); refine e_op z_mul ?_)
  | ((with_reducible show EW _ (Expr.BinOp _ Operator.Mod _ _) _ _ _); refine e_op op_mod ?_)
  | ((with_reducible show EW _ (Expr.BinOp _ Operator.FloorDiv _ _) _ _ _); refine e_op op_fdivW ?_)
  | ((with_reducible show EW _ (Expr.BinOp _ Operator.Pow _ _) _ _ _); refine e_op op_pow ?_)
  | ((with_reducible show EW _ (Expr.List _ _) _ _ _); refine e_lstN ?_)
  | ((with_reducible show EW _ (Expr.Tuple _ _ _) _ _ _); refine e_tupN ?_)
  | ((with_reducible show EW _ (Expr.Subscript _ (Expr.Slice _ _ _ _) _) _ _ _); refine e_sl sl_listN ?_)
  | ((with_reducible show EW _ (Expr.Dict [] [] _) _ _ _); refine e_dKN ?_)
  | ((with_reducible show EW _ (Expr.BoolOp BoolOp.And [_] _) _ _ _); refine e_one ?_)
  | ((with_reducible show EW _ (Expr.BoolOp BoolOp.Or [_] _) _ _ _); refine e_one ?_)
  | ((with_reducible show EW _ (Expr.BoolOp BoolOp.And _ _) _ _ _); refine e_and ?_)
  | ((with_reducible show EW _ (Expr.BoolOp BoolOp.Or _ _) _ _ _); refine e_or ?_)
  | ((with_reducible show EW _ (Expr.IfExp _ _ _ _) _ _ _); refine e_if ?_)
  | ((with_reducible show AW _ [] _ _ _); refine a_nil ?_)
  | ((with_reducible show AW _ (_ :: _) _ _ _); refine a_cons ?_)
  | ((with_reducible show OW _ none _ _ _); refine o_no ?_)
  | ((with_reducible show OW _ (some _) _ _ _); refine o_so ?_)
  | ((with_reducible show TW _ (Expr.UnaryOp UnaryOp.Not _ _) _ _ _); refine t_not ?_)
  | ((with_reducible show TW _ (Expr.BoolOp _ _ _) _ _ _); refine t_w ?_)
  | ((with_reducible show PWW _ (Expr.BoolOp BoolOp.And [_] _) _ _ _); refine w_and1 ?_)
  | ((with_reducible show PWW _ (Expr.BoolOp BoolOp.Or [_] _) _ _ _); refine w_or1 ?_)
  | ((with_reducible show PWW _ (Expr.BoolOp BoolOp.And _ _) _ _ _); refine w_and ?_)
  | ((with_reducible show PWW _ (Expr.BoolOp BoolOp.Or _ _) _ _ _); refine w_or ?_)
  | ((with_reducible show SW _ (Stmt.Return (some _) _) _ _ _); refine s_ret ?_)
  | ((with_reducible show SW _ (Stmt.If _ _ _ _) _ _ _); refine s_if ?_)
  | ((with_reducible show SW _ (Stmt.Expr _ _) _ _ _); refine s_expr ?_)
  | ((with_reducible show SW _ (Stmt.Assign [Expr.Name _ _] _ _) _ _ _); walk_at "set")
  | ((with_reducible show BW _ [_] _ _ _); (first | (with_reducible refine b_one ?_) | refine b_one ?_))
  | ((with_reducible show BW _ [] _ _ _); refine b_nil ?_)
  | ((with_reducible show BW _ _ _ _ _); (first | (with_reducible refine b_cons ?_) | refine b_cons ?_))
  | ((with_reducible show rAddZ _ _ _ _ _); refine Or.inl ⟨_, _, rfl, rfl, ?_⟩)
  | ((with_reducible show rI0 _ _ _ _ _); refine ⟨_, _, rfl, rfl, ?_⟩)
  | ((with_reducible show rI (fun _ j => 0 < j) _ _ _ _ _); refine ⟨_, _, rfl, rfl, (show (0 : Int) < _ by first | decide | omega), ?_⟩)
  | ((with_reducible show Ends.nx _ _ _); first | (with_reducible refine mk_nx ?_) | refine (show BW _ _ _ _ _ from ?_)))
local macro_rules | `(tactic| walk_at "z") => `(tactic| repeat walk_at "z1")
local macro_rules | `(tactic| walk_at "st") => `(tactic| repeat (first
  | ((with_reducible show Ends.nx _ _ _); first | (with_reducible refine mk_nx ?_) | refine (show BW _ _ _ _ _ from ?_))
  | ((with_reducible show BW _ _ _ _ _); (first | (with_reducible refine b_cons ?_) | refine b_cons ?_))))
/-! ### a signature: its rows -/
def rowOf : PyData → Str × Int
  | .tuple [.str z, .int i] => (z, i)
  | _ => (Str.empty, 0)
/-- the first row that does not fit -/
def badAt (seen : List Str) : List PyData → Option Nat
  | [] => none
  | d :: ds => if dRow d = true ∧ (rowOf d).1 ∉ seen then (badAt (seen ++ [(rowOf d).1]) ds).map (· + 1) else some 0
/-- none: it is a signature; some none: no list that fits; some (some i): the i-th row does not fit -/
def sigErr : PyData → Option (Option Nat)
  | .list ds => if 1 ≤ ds.length ∧ ds.length ≤ 5 then (badAt [] ds).map some else some none
  | _ => some none
def sigRows : PyData → List (Str × Int)
  | .list ds => ds.map rowOf
  | _ => []
def But (a : Addr) (H H' : Hp) : Prop := ∀ b o, b ≠ a → H b = some o → H' b = some o
theorem But.same {a : Addr} {H H1 H2 : Hp} (h : But a H H1) (s : Same H1 H2) : But a H H2 := fun b o n e => s _ _ (h b o n e)
theorem But.upd {a : Addr} {o : HO} {H H1 : Hp} (h : But a H H1) : But a H (upd H1 a o) := fun b u n e => by rw [upd_ne n]; exact h b u n e
theorem But.refl {a : Addr} {H : Hp} : But a H H := fun _ _ _ e => e
abbrev rK (r : Str × Int) : Key × V := (.inr r.1, .int r.2)
/-- at a an instance of the class at C: the signature of these rows -/
def SigAt (C : Addr) (H : Hp) (a : Addr) (rows : List (Str × Int)) : Prop := ∃ dx p t as, H a = some (.ins C dx [("arities", .ref p), ("table", .ref t)]) ∧ H p = some (.dK (rows.map rK)) ∧ H t = some (.tup (as.map V.ref)) ∧ Paired (fun (b : Addr) (r : Str × Int) => H b = some (.tup [.str r.1, .int r.2])) as rows
def spSig (K : PySem.W.Frag) (C cL cI : Addr) : Sp := fun vs H Q E => ∃ a dx v d G, vs = [.ref a, v] ∧ H a = some (.ins C dx []) ∧ Same G H ∧ G a = none ∧ Dq K G v d ∧ Sml d ∧ (sigErr d = none → ∀ H', But a H H' → SigAt C H' a (sigRows d) → Q .non H') ∧
  ∀ e, sigErr d = some e → ∀ H' dd w, But a H H' → H dd = none → H' dd = some (.xd [("value", w)]) → (e = none → w = v) → (∀ i, e = some i → ∃ l xs, v = .ref l ∧ Rd G l (.lst xs) ∧ xs[i]? = some w) → E (.ref (e.elim cL fun _ => cI)) (some dd) H'
section
variable {P : Program} {w : World} {K : PySem.W.Frag} {mg : Str → Option Value} {base : Heap} {f C cL cI fL fI : Addr} {qL qI : Str}
section
variable {X : Cx} {σ : St} {H : Hp} {R : Bool → Hp → Prop} {i o : Expr} {pos : Pos}
theorem t_din (hu : X.A.units + 1 < cLine) (h : EW X i σ H fun y H1 => EW X o σ H1 fun x H2 => ∃ a ov, x = .ref a ∧ DGet H2 a y ov ∧ ∃ k, V.bl ov.isSome = .bl k ∧ R k H2) (hb : behindInMarks .In o = false := by rfl) : TW X (.Compare i [.In] [o] pos) σ H R := t_of (pt_cmp (pc_din hu e_pe e_pe) hb) h
end
theorem valV_rows (z : Str) : ∀ rs : List (Str × Int), (valV (rs.map rK) (.inr z)).isSome = decide (z ∈ rs.map (·.1))
  | [] => by simp [valV_nil]
  | r :: rs => by
    by_cases e : r.1 = z
    · rw [List.map_cons, valV_pos (p := rK r) (by show (Sum.inr r.1 : Key) = .inr z; rw [e])]
      simp [e]
    · rw [List.map_cons, valV_neg (p := rK r) (fun h => e (Sum.inr.inj h)), valV_rows z rs]
      simp [Ne.symm e]
theorem Paired.unmap {α β γ : Type} {F : α → β → Prop} {g : γ → β} : ∀ {as : List α} {rs : List γ}, Paired F as (rs.map g) → Paired (fun a r => F a (g r)) as rs
  | as, [], h => by cases h; exact .nil
  | as, r :: rs, h => by
    cases h with
    | cons h t => exact .cons h (Paired.unmap t)
theorem Paired.imp {α β : Type} {F F' : α → β → Prop} (k : ∀ a b, F a b → F' a b) : ∀ {as : List α} {bs : List β}, Paired F as bs → Paired F' as bs
  | _, _, .nil => .nil
  | _, _, .cons h t => .cons (k _ _ h) (Paired.imp k t)
theorem row_inv {d : PyData} (h : dRow d = true) : ∃ z n, d = .tuple [.str z, .int n] := by
  unfold dRow at h
  split at h
  · rename_i x y
    obtain ⟨h1, h2⟩ := Bool.and_eq_true_iff.mp h
    cases x with
    | str z =>
      cases y with
      | int n => exact ⟨z, n, rfl⟩
      | _ => cases h2
    | _ => cases h1
  · cases h
abbrev sSigInit : Stmt := clsDef (topS 14) 0
abbrev nsSigInit : List Str := ["self", "rows", "row"]
theorem scSigInit : FnScope nsSigInit ["self", "rows"] (defScope sSigInit) := ⟨rfl, rfl, rfl, by decide +kernel, rfl, by decide +kernel, by decide +kernel⟩
local macro_rules | `(tactic| walk_at "nm") => `(tactic| first
  | ((with_reducible show EW _ (Expr.Name (Str.ofString "self") _) _ _ _); refine e_nm (i := 0) (N := nsSigInit) rfl at_z rfl ?_)
  | ((with_reducible show EW _ (Expr.Name (Str.ofString "rows") _) _ _ _); refine e_nm (i := 1) (N := nsSigInit) rfl (at_s at_z) rfl ?_)
  | ((with_reducible show EW _ (Expr.Name (Str.ofString "row") _) _ _ _); refine e_nm (i := 2) (N := nsSigInit) rfl (at_s (at_s at_z)) rfl ?_))
local macro_rules | `(tactic| walk_at "set") => `(tactic| first
  | ((with_reducible show SW _ (Stmt.Assign [Expr.Name (Str.ofString "self") _] _ _) _ _ _); refine s_set (i := 0) (N := nsSigInit) scSigInit.nd rfl at_z ?_)
  | ((with_reducible show SW _ (Stmt.Assign [Expr.Name (Str.ofString "rows") _] _ _) _ _ _); refine s_set (i := 1) (N := nsSigInit) scSigInit.nd rfl (at_s at_z) ?_)
  | ((with_reducible show SW _ (Stmt.Assign [Expr.Name (Str.ofString "row") _] _ _) _ _ _); refine s_set (i := 2) (N := nsSigInit) scSigInit.nd rfl (at_s (at_s at_z)) ?_))
local macro_rules | `(tactic| walk_at "tg") => `(tactic| first
  | ((with_reducible show GW _ (Expr.Name (Str.ofString "self") _) _ _ _ _); refine g_nm (i := 0) (N := nsSigInit) scSigInit.nd rfl at_z ?_)
  | ((with_reducible show GW _ (Expr.Name (Str.ofString "rows") _) _ _ _ _); refine g_nm (i := 1) (N := nsSigInit) scSigInit.nd rfl (at_s at_z) ?_)
  | ((with_reducible show GW _ (Expr.Name (Str.ofString "row") _) _ _ _ _); refine g_nm (i := 2) (N := nsSigInit) scSigInit.nd rfl (at_s (at_s at_z)) ?_))
theorem bSig (cl : Cls K C) (n1 : NoAttr K C "arities") (n2 : NoAttr K C "table") (TL : ExK P K mg "InvalidList" "value" qL cL fL) (TI : ExK P K mg "InvalidItem" "value" qI cI fI) (mi : mg "isinstance" = none) (ml : mg "list" = none) (mn : mg "len" = none) (mt : mg "tuple" = none)
    (hm : ∃ t, mg "MOST_ROWS" = some (.int 5 t)) (DR : DefZ P w K mg base "is_row" 2 ["value"] (spTest K dRow Sml)) : BodyZ P w K mg base nsSigInit "Signature.__init__" sSigInit f 2 (spSig K C cL cI) := by
  intro X cd A outer s H vs Q E hX hr tk hs
  subst hX
  have hu := hr.r.units
  obtain ⟨t5, hm⟩ := hm
  obtain ⟨a, dx, v, d, G, rfl, ha, sG, Ga, hd, hsm, hQ, hE⟩ := hs
  have badL : ∀ H1, Same H H1 → sigErr d = some none → ∀ dd, H1 dd = none → E (.ref cL) (some dd) (upd H1 dd (.xd [("value", v)])) := fun H1 s1 e dd nd => hE none e _ dd v (fun b o _ h => by rw [upd_ne (ne_of_none (s1 _ _ h) nd)]; exact s1 _ _ h) (s1.free nd) upd_same (fun _ => rfl) (fun i h => by cases h)
  walk_at "z1"
  walk_at "z1"
  refine t_w (w_or (t_not (t_val ?_)))
  refine e_isT (T := "list") mi ml (by decide +kernel) ?_
  walk_at "z1"
  refine ⟨_, _, (Dq.keep sG _ _ hd).ty, kit_ty (kb_lst d), _, rfl, ?_⟩
  by_cases h1 : isLst d = true
  · obtain ⟨ds, rfl⟩ : ∃ ds, d = .list ds := by cases d <;> first | exact ⟨_, rfl⟩ | cases h1
    cases hd with
    | lst hq hall =>
      rename_i l xs
      have hqH : Rd H l (.lst xs) := hq.imp (sG _ _) fun ⟨o, z⟩ => ⟨o, sG _ _ z⟩
      have hlen := DqAll.length hall
      refine (if_neg (by simp [isLst])).mpr ?_
      refine w_or1 (t_not (t_chain op_le op_le ?_))
      walk_at "z"
      refine e_callB call_len_seq mn PySem.boot_len ?_
      walk_at "z"
      refine ⟨_, xs, rfl, .inl (.inl hqH), ?_⟩
      walk_at "z1"
      refine ⟨_, rfl, ?_⟩
      by_cases h2 : (1 : Int) ≤ (xs.length : Int)
      · refine (if_pos (by simpa using h2)).mpr ?_
        refine e_glob (v := .int 5) hm ⟨_, rfl⟩ ?_
        walk_at "z1"
        refine ⟨_, rfl, ?_⟩
        by_cases h3 : (xs.length : Int) ≤ 5
        · refine (if_neg (by simpa using h3)).mpr ?_
          walk_at "z"
          refine s_fld ?_
          walk_at "z1"
          refine fun p H1 np => ?_
          walk_at "z1"
          have aG1 : H1 a = some (.ins C dx []) := np.same _ _ ha
          refine ⟨a, C, dx, [], rfl, aG1, cl, n1, by decide, ?_⟩
          walk_at "st"
          have pa : p ≠ a := fun z => by rw [← z, np.free] at ha; cases ha
          have la : ∀ {u o}, H u = some o → u ≠ a → u ≠ p := fun e _ => ne_of_none e np.free
          have nda : l ≠ a := fun z => by
            rcases hq with h | ⟨o, h⟩ <;> (rw [z, Ga] at h; cases h)
          refine s_for (i_list ?_)
          have ini : But a H (upd H1 a (.ins C dx (putF "arities" (.ref p) []))) := fun b o n e => by rw [upd_ne n]; exact np.same b o e
          have hqB : ∀ H', But a H H' → Rd H' l (.lst xs) := fun H' b => hqH.imp (b _ _ nda) fun ⟨o, z⟩ => ⟨o, b _ _ nda z⟩
          walk_at "z1"
          refine ⟨l, xs, rfl, .inl (hqB _ ini), ?_⟩
          refine ⟨fun i σ' H' => ∃ x rs, σ' = [some (.ref a), some (.ref l), x] ∧ H' a = some (.ins C dx [("arities", .ref p)]) ∧ H' p = some (.dK (rs.map rK)) ∧ But a H H' ∧ rs = (ds.take i).map rowOf ∧ badAt [] ds = (badAt (rs.map (·.1)) (ds.drop i)).map (· + i) ∧ rs.length ≤ 5, ?_, ?_, ?_, ?_⟩
          · refine ⟨none, [], rfl, upd_same, ?_, ini, rfl, ?_, by decide⟩
            · rw [upd_ne pa]
              exact np.here
            · show badAt [] ds = (badAt [] ds).map (· + 0)
              cases badAt [] ds <;> rfl
          · rintro i σ' H' _ ⟨_, _, _, _, _, b, _⟩
            exact .inl (hqB _ b)
          · rintro i σ' H' x H2' hi ⟨x0, rs, rfl, ea, ep, bt, hrs, hbad, hlr⟩ ⟨rfl, ex⟩
            have hid : i < ds.length := by omega
            obtain ⟨di, edi⟩ : ∃ di, ds[i]? = some di := ⟨_, List.getElem?_eq_getElem hid⟩
            obtain ⟨v', ev, dv⟩ := DqAll.at hall edi
            have ex2 := ex.symm.trans ev
            obtain rfl : x = v' := Option.some.inj ex2
            have hdrop : ds.drop i = di :: ds.drop (i + 1) := by rw [List.drop_eq_getElem_cons hid]; congr 1; exact Option.some.inj ((List.getElem?_eq_getElem hid).symm.trans edi)
            have sGB : Same G H2' := fun b o e => bt b o (fun z => by rw [z, Ga] at e; cases e) (sG _ _ e)
            have smi : Sml di := hsm.lst (List.mem_of_getElem? edi)
            have bad : ∀ H3, Same H2' H3 → badAt (rs.map (·.1)) (ds.drop i) = some 0 → ∀ dd, H3 dd = none → E (.ref cI) (some dd) (upd H3 dd (.xd [("value", x)])) := fun H3 S3 e dd nd => by
              have e2 : sigErr (.list ds) = some (some i) := by
                simp only [sigErr]
                rw [if_pos (by omega), hbad, e]
                simp
              have b3 := bt.same S3
              have ndH : H dd = none := by
                cases q : H dd with
                | none => rfl
                | some o =>
                  by_cases hda : dd = a
                  · rw [hda, S3 _ _ ea] at nd; cases nd
                  · rw [b3 _ _ hda q] at nd; cases nd
              exact hE (some i) e2 _ dd x (fun b o n e => by
                have z := b3 b o n e
                rw [upd_ne (ne_of_none z nd)]
                exact z) ndH upd_same (fun h => by cases h) fun j hj => by
                  cases hj
                  exact ⟨l, xs, rfl, hq, ex⟩
            walk_at "tg"
            walk_at "st"
            refine s_if (t_w (w_or (t_not (t_val (e_call DR hr tk ?_)))))
            walk_at "z"
            refine ⟨x, di, rfl, Dq.keep sGB _ _ dv, smi, fun H3 S3 => ⟨_, rfl, ?_⟩⟩
            cases hrow : dRow di with
            | false =>
              refine (if_pos rfl).mpr ?_
              refine (if_pos rfl).mpr ?_
              walk_at "st"
              refine s_raise1 TI hr.r tk ?_
              walk_at "z1"
              exact bad H3 S3 (by rw [hdrop, badAt, if_neg (by rw [hrow]; simp)])
            | true =>
              obtain ⟨z, n, rfl⟩ := row_inv hrow
              obtain ⟨ar, hsq⟩ : ∃ ar, x = .ref ar ∧ SqT K G ar [.str z, .int n] := by
                cases dv with
                | tup h ha =>
                  cases ha with
                  | cons h0 t =>
                    cases t with
                    | cons h1 t =>
                      cases t
                      cases h0
                      cases h1
                      exact ⟨_, rfl, h⟩
              obtain ⟨rfl, hsq⟩ := hsq
              have sq3 : SqT K H3 ar [.str z, .int n] := hsq.imp (fun y => y.imp (fun y => S3 _ _ (sGB _ _ y)) fun ⟨o, y⟩ => ⟨o, S3 _ _ (sGB _ _ y)⟩) id
              refine (if_neg (by simp)).mpr ?_
              refine w_or1 (t_din (hu_of hr.r) ?_)
              refine e_ix ix_tup ?_
              walk_at "z"
              refine ⟨_, _, _, _, rfl, rfl, sq3, rfl, ?_⟩
              refine e_fld ?_
              walk_at "z1"
              refine ⟨a, C, dx, _, .ref p, rfl, S3 _ _ ea, cl, n1, rfl, ?_⟩
              refine ⟨p, _, rfl, DGet.k (k := .inr z) (S3 _ _ ep), _, rfl, ?_⟩
              rw [valV_rows]
              by_cases hmem : z ∈ rs.map (·.1)
              · rw [decide_eq_true hmem]
                refine (if_pos rfl).mpr ?_
                walk_at "st"
                refine s_raise1 TI hr.r tk ?_
                walk_at "z1"
                exact bad H3 S3 (by rw [hdrop, badAt, if_neg (by simp [rowOf]; intro _; simpa using hmem)])
              · rw [decide_eq_false hmem]
                refine (if_neg (by simp)).mpr ?_
                walk_at "z1"
                walk_at "st"
                refine s_dput (hu_of hr.r) ?_
                refine e_ix ix_tup ?_
                walk_at "z"
                refine ⟨_, _, _, _, rfl, rfl, sq3, rfl, ?_⟩
                refine e_fld ?_
                walk_at "z1"
                refine ⟨a, C, dx, _, .ref p, rfl, S3 _ _ ea, cl, n1, rfl, ?_⟩
                refine e_ix ix_tup ?_
                walk_at "z"
                refine ⟨_, _, _, _, rfl, rfl, sq3, rfl, ?_⟩
                refine ⟨p, _, rfl, DPut.k (k := .inr z) (S3 _ _ ep) (small1000 (by rw [List.length_map]; omega)), ?_⟩
                have vn : valV (rs.map rK) (.inr z) = none := by
                  cases q : valV (rs.map rK) (.inr z) with
                  | none => rfl
                  | some u =>
                    have y := valV_rows z rs
                    rw [q, decide_eq_false hmem] at y
                    cases y
                rw [putK_new _ vn]
                walk_at "st"
                walk_at "z1"
                have rs2 : (ds.take (i + 1)).map rowOf = rs ++ [(z, n)] := by
                  rw [List.take_add_one, edi, List.map_append, ← hrs]
                  rfl
                have hp0 : H p = none := np.free
                refine ⟨_, rs ++ [(z, n)], rfl, by rw [upd_ne (Ne.symm pa)]; exact S3 _ _ ea, by rw [List.map_append]; exact upd_same, fun b o nb e => ?_, rs2.symm, ?_, ?_⟩
                · rw [upd_ne (ne_of_none e hp0)]
                  exact S3 _ _ (bt b o nb e)
                · rw [hbad, hdrop, badAt, if_pos ⟨hrow, by simpa [rowOf] using hmem⟩, List.map_append]
                  show Option.map _ (Option.map _ (badAt (rs.map (·.1) ++ [z]) _)) = Option.map _ (badAt (rs.map (·.1) ++ [z]) _)
                  rw [Option.map_map]
                  congr 1
                  funext k
                  show k + 1 + i = k + (i + 1)
                  omega
                · have := congrArg List.length rs2
                  rw [List.length_map, List.length_take] at this
                  omega
          · rintro σ' H' ⟨x0, rs, rfl, ea, ep, bt, hrs, hbad, hlr⟩
            walk_at "st"
            refine s_fld ?_
            refine e_tupItems mt ?_
            refine e_fld ?_
            walk_at "z1"
            refine ⟨a, C, dx, _, .ref p, rfl, ea, cl, n1, rfl, ?_⟩
            refine ⟨p, _, rfl, ep, fun t as H4 S4 nt ht pr => ?_⟩
            walk_at "z1"
            refine ⟨a, C, dx, _, rfl, S4 _ _ ea, cl, n2, by show 1 < 1000; decide, ?_⟩
            walk_at "st"
            walk_at "z1"
            have hds : xs.length = ds.length := hlen
            rw [List.take_of_length_le (by omega)] at hrs
            rw [List.drop_of_length_le (by omega)] at hbad
            have off : ∀ {b o}, H4 b = some o → (∀ C d fs, o ≠ .ins C d fs) → (upd H4 a (.ins C dx (putF "table" (.ref t) [("arities", .ref p)]))) b = some o := fun {b o} e ne => by
              rw [upd_ne (fun z => by rw [z, S4 _ _ ea] at e; exact ne _ _ _ (Option.some.inj e).symm)]
              exact e
            refine hQ ?_ _ ((bt.same S4).upd) ⟨dx, p, t, as, upd_same, off (by rw [← show rs = sigRows (.list ds) from hrs]; exact S4 _ _ ep) (fun _ _ _ z => by cases z), off ht (fun _ _ _ z => by cases z), ?_⟩
            · simp only [sigErr]
              rw [if_pos (by omega), hbad]
              rfl
            · rw [← show rs = sigRows (.list ds) from hrs]
              exact Paired.imp (fun b r e => off e (fun _ _ _ z => by cases z)) (Paired.unmap (F := fun a (q : Key × V) => H4 a = some (HO.tup [kV q.1, q.2])) (g := rK) pr)
        · refine (if_pos (by simpa using h3)).mpr ?_
          walk_at "st"
          refine s_raise1 TL hr.r tk ?_
          walk_at "z1"
          exact badL _ (Same.refl _) (by simp only [sigErr]; rw [if_neg (by omega)])
      · refine (if_neg (by simpa using h2)).mpr ⟨_, rfl, ?_⟩
        refine (if_pos (by simp)).mpr ?_
        walk_at "st"
        refine s_raise1 TL hr.r tk ?_
        walk_at "z1"
        exact badL _ (Same.refl _) (by simp only [sigErr]; rw [if_neg (by omega)])
  · refine (if_pos (by simpa using h1)).mpr ?_
    refine (if_pos rfl).mpr ?_
    walk_at "st"
    refine s_raise1 TL hr.r tk ?_
    walk_at "z1"
    exact badL _ (Same.refl _) (by cases d <;> first | rfl | exact absurd rfl h1)
end
end L2.Z.Law

set_option maxHeartbeats 1000000
namespace L2.Z.Law
open PySem PySem.Spec PyProof.Rows PySem.ZX
local macro_rules | `(tactic| walk_at "zi") => `(tactic| refine ⟨_, _, rfl, rfl, ?_⟩)
local macro_rules | `(tactic| walk_at "zmod") => `(tactic| refine ⟨_, _, rfl, rfl, (show (0 : Int) < _ by first | decide | omega), ?_⟩)
local macro_rules | `(tactic| walk_at "zdiv") => `(tactic| refine ⟨_, _, rfl, rfl, ⟨(show (0 : Int) < _ by first | decide | omega), ?_⟩, ?_⟩)
local macro_rules | `(tactic| walk_at "z1") => `(tactic| first
  | ((with_reducible show EW _ (Expr.Name _ _) _ _ _); walk_at "nm")
  | ((with_reducible show EW _ (Expr.Constant _ _ _) _ _ _); first | with_reducible refine e_int ?_ | with_reducible refine e_str ?_ | with_reducible refine e_bl ?_ | with_reducible refine e_non ?_)
  | ((with_reducible show EW _ (Expr.BinOp _ Operator.Add _ _) _ _ _); refine e_op z_add ?_)
  | ((with_reducible show EW _ (Expr.BinOp _ Operator.Sub _ _) _ _ _); refine e_op op_sub ?_)
  | ((with_reducible show EW _ (Expr.BinOp _ Operator.Mult _ _) _ _ _); refine e_op z_mul ?_)
  | ((with_reducible show EW _ (Expr.BinOp _ Operator.Mod _ _) _ _ _); refine e_op op_mod ?_)
  | ((with_reducible show EW _ (Expr.BinOp _ Operator.FloorDiv _ _) _ _ _); refine e_op op_fdivW ?_)
  | ((with_reducible show EW _ (Expr.BinOp _ Operator.Pow _ _) _ _ _); refine e_op op_pow ?_)
  | ((with_reducible show EW _ (Expr.List _ _) _ _ _); refine e_lstN ?_)
  | ((with_reducible show EW _ (Expr.Tuple _ _ _) _ _ _); refine e_tupN ?_)
  | ((with_reducible show EW _ (Expr.Subscript _ (Expr.Slice _ _ _ _) _) _ _ _); refine e_sl sl_listN ?_)
  | ((with_reducible show EW _ (Expr.Dict [] [] _) _ _ _); refine e_dKN ?_)
  | ((with_reducible show EW _ (Expr.BoolOp BoolOp.And [_] _) _ _ _); refine e_one ?_)
  | ((with_reducible show EW _ (Expr.BoolOp BoolOp.Or [_] _) _ _ _); refine e_one ?_)
  | ((with_reducible show EW _ (Expr.BoolOp BoolOp.And _ _) _ _ _); refine e_and ?_)
  | ((with_reducible show EW _ (Expr.BoolOp BoolOp.Or _ _) _ _ _); refine e_or ?_)
  | ((with_reducible show EW _ (Expr.IfExp _ _ _ _) _ _ _); refine e_if ?_)
  | ((with_reducible show AW _ [] _ _ _); refine a_nil ?_)
  | ((with_reducible show AW _ (_ :: _) _ _ _); refine a_cons ?_)
  | ((with_reducible show OW _ none _ _ _); refine o_no ?_)
  | ((with_reducible show OW _ (some _) _ _ _); refine o_so ?_)
  | ((with_reducible show TW _ (Expr.UnaryOp UnaryOp.Not _ _) _ _ _); refine t_not ?_)
  | ((with_reducible show TW _ (Expr.BoolOp _ _ _) _ _ _); refine t_w ?_)
  | ((with_reducible show PWW _ (Expr.BoolOp BoolOp.And [_] _) _ _ _); refine w_and1 ?_)
  | ((with_reducible show PWW _ (Expr.BoolOp BoolOp.Or [_] _) _ _ _); refine w_or1 ?_)
  | ((with_reducible show PWW _ (Expr.BoolOp BoolOp.And _ _) _ _ _); refine w_and ?_)
  | ((with_reducible show PWW _ (Expr.BoolOp BoolOp.Or _ _) _ _ _); refine w_or ?_)
  | ((with_reducible show SW _ (Stmt.Return (some _) _) _ _ _); refine s_ret ?_)
  | ((with_reducible show SW _ (Stmt.If _ _ _ _) _ _ _); refine s_if ?_)
  | ((with_reducible show SW _ (Stmt.Expr _ _) _ _ _); refine s_expr ?_)
  | ((with_reducible show SW _ (Stmt.Assign [Expr.Name _ _] _ _) _ _ _); walk_at "set")
  | ((with_reducible show BW _ [_] _ _ _); (first | (with_reducible refine b_one ?_) | refine b_one ?_))
  | ((with_reducible show BW _ [] _ _ _); refine b_nil ?_)
  | ((with_reducible show BW _ _ _ _ _); (first | (with_reducible refine b_cons ?_) | refine b_cons ?_))
  | ((with_reducible show rAddZ _ _ _ _ _); refine Or.inl ⟨_, _, rfl, rfl, ?_⟩)
  | ((with_reducible show rI0 _ _ _ _ _); refine ⟨_, _, rfl, rfl, ?_⟩)
  | ((with_reducible show rI (fun _ j => 0 < j) _ _ _ _ _); refine ⟨_, _, rfl, rfl, (show (0 : Int) < _ by first | decide | omega), ?_⟩)
  | ((with_reducible show Ends.nx _ _ _); first | (with_reducible refine mk_nx ?_) | refine (show BW _ _ _ _ _ from ?_)))
local macro_rules | `(tactic| walk_at "z") => `(tactic| repeat walk_at "z1")
local macro_rules | `(tactic| walk_at "st") => `(tactic| repeat (first
  | ((with_reducible show Ends.nx _ _ _); first | (with_reducible refine mk_nx ?_) | refine (show BW _ _ _ _ _ from ?_))
  | ((with_reducible show BW _ _ _ _ _); (first | (with_reducible refine b_cons ?_) | refine b_cons ?_))))
/-- what is known of the class Signature at C -/
structure SigC (K : PySem.W.Frag) (C : Addr) : Prop where
  cl : Cls K C
  n1 : NoAttr K C "arities"
  n2 : NoAttr K C "table"
  ha : PySem.W.findIn K (.ref C) "__class__" = some (some (.builtin "object.__class__"))
  hn : PySem.W.specialIn K (.builtin "object.__class__") "__get__" = some (some (.builtin "getset_descriptor.__get__"))
  ht : PySem.W.takesIn K (.builtin "object.__class__") = some true
  ho : PySem.W.mroIn K C (.type "object") = some true
  self : PySem.W.kitOne K (.ref C) (.ref C) = some true
  data : ∀ d : PyData, PySem.W.kitOne K (.type (dty d)) (.ref C) = some false
def lookR (rows : List (Str × Int)) (z : Str) : Int := ((rows.find? fun r => decide (r.1 = z)).map (·.2)).getD (-1)
/-- a tuple of a constructor and as many items as it has parts -/
def dBuilt (rows : List (Str × Int)) : PyData → Bool
  | .tuple (.str z :: ds) => decide (lookR rows z = ds.length)
  | _ => false
mutual
def dFits (rows : List (Str × Int)) : PyData → Bool
  | .tuple (.str z :: ds) => decide (lookR rows z = ds.length) && dFitsAll rows ds
  | _ => false
def dFitsAll (rows : List (Str × Int)) : List PyData → Bool
  | [] => true
  | d :: ds => dFits rows d && dFitsAll rows ds
end
section
variable {P : Program} {w : World} {K : PySem.W.Frag} {mg : Str → Option Value} {base : Heap} {f C cS fS : Addr} {qS : Str}
theorem SigAt.keep {H H' : Hp} {a : Addr} {rows : List (Str × Int)} (h : SigAt C H a rows) (k : Same H H') : SigAt C H' a rows := by
  obtain ⟨dx, p, t, as, h1, h2, h3, h4⟩ := h
  exact ⟨dx, p, t, as, k _ _ h1, k _ _ h2, k _ _ h3, Paired.imp (fun _ _ e => k _ _ e) h4⟩
theorem SigAt.ty {H : Hp} {a : Addr} {rows : List (Str × Int)} (S : SigC K C) (h : SigAt C H a rows) : TyZ K H (.ref a) (.ref C) := by
  obtain ⟨dx, p, t, as, h1, _⟩ := h
  exact .x (.base (.ins h1 S.cl S.ha S.hn S.ht S.ho))
abbrev sSigRows : Stmt := clsDef (topS 14) 1
abbrev nsSigRows : List Str := ["self"]
theorem scSigRows : FnScope nsSigRows ["self"] (defScope sSigRows) := ⟨rfl, rfl, rfl, by decide +kernel, rfl, by decide +kernel, by decide +kernel⟩
local macro_rules | `(tactic| walk_at "nm") => `(tactic| first
  | ((with_reducible show EW _ (Expr.Name (Str.ofString "self") _) _ _ _); refine e_nm (i := 0) (N := nsSigRows) rfl at_z rfl ?_))
local macro_rules | `(tactic| walk_at "set") => `(tactic| first
  | ((with_reducible show SW _ (Stmt.Assign [Expr.Name (Str.ofString "self") _] _ _) _ _ _); refine s_set (i := 0) (N := nsSigRows) scSigRows.nd rfl at_z ?_))
local macro_rules | `(tactic| walk_at "tg") => `(tactic| first
  | ((with_reducible show GW _ (Expr.Name (Str.ofString "self") _) _ _ _ _); refine g_nm (i := 0) (N := nsSigRows) scSigRows.nd rfl at_z ?_))
def spRows (C : Addr) : Sp := fun vs H Q _ => ∃ a rows, vs = [.ref a] ∧ SigAt C H a rows ∧ ∀ p as H', New H p (.lst (as.map V.ref)) H' → Paired (fun (b : Addr) (r : Str × Int) => H b = some (.tup [.str r.1, .int r.2])) as rows → Q (.ref p) H'
theorem bRows (S : SigC K C) (ml : mg "list" = none) : BodyZ P w K mg base nsSigRows "Signature.rows" sSigRows f 0 (spRows C) := by
  intro X cd A outer s H vs Q E hX hr tk hs
  subst hX
  obtain ⟨a, rows, rfl, ⟨dx, p, t, as, h1, h2, h3, h4⟩, hQ⟩ := hs
  walk_at "z"
  refine e_callT call_list_of ml (by decide +kernel) ?_
  walk_at "z"
  refine e_fld ?_
  walk_at "z1"
  refine ⟨a, C, dx, _, .ref t, rfl, h1, S.cl, S.n2, rfl, ?_⟩
  walk_at "z1"
  exact ⟨t, _, rfl, .inr (.inl (.inl h3)), fun q nq => hQ q as _ (.upd nq) h4⟩
abbrev sCheckSig : Stmt := topS 15
abbrev nsCheckSig : List Str := ["value"]
theorem scCheckSig : FnScope nsCheckSig ["value"] (defScope sCheckSig) := ⟨rfl, rfl, rfl, by decide +kernel, rfl, by decide +kernel, by decide +kernel⟩
local macro_rules | `(tactic| walk_at "nm") => `(tactic| first
  | ((with_reducible show EW _ (Expr.Name (Str.ofString "value") _) _ _ _); refine e_nm (i := 0) (N := nsCheckSig) rfl at_z rfl ?_))
local macro_rules | `(tactic| walk_at "set") => `(tactic| first
  | ((with_reducible show SW _ (Stmt.Assign [Expr.Name (Str.ofString "value") _] _ _) _ _ _); refine s_set (i := 0) (N := nsCheckSig) scCheckSig.nd rfl at_z ?_))
local macro_rules | `(tactic| walk_at "tg") => `(tactic| first
  | ((with_reducible show GW _ (Expr.Name (Str.ofString "value") _) _ _ _ _); refine g_nm (i := 0) (N := nsCheckSig) scCheckSig.nd rfl at_z ?_))
/-- a signature goes by; any data is refused -/
def spCheckSig (K : PySem.W.Frag) (C cS : Addr) : Sp := fun vs H Q E => ∃ v, vs = [v] ∧ ((∃ a rows, v = .ref a ∧ SigAt C H a rows ∧ Q .non H) ∨ ∃ d, Dq K H v d ∧ ∀ dd H', New H dd (.xd [("value", v)]) H' → E (.ref cS) (some dd) H')
theorem bCheckSig (S : SigC K C) (TS : ExK P K mg "InvalidSignature" "value" qS cS fS) (mi : mg "isinstance" = none) (gc : mg "Signature" = some (.ref C)) : BodyZ P w K mg base nsCheckSig "check_signature" sCheckSig f 1 (spCheckSig K C cS) := by
  intro X cd A outer s H vs Q E hX hr tk hs
  subst hX
  obtain ⟨v, rfl, hs⟩ := hs
  walk_at "z1"
  refine s_if (t_not (t_val ?_))
  refine e_isC mi gc ?_
  walk_at "z1"
  rcases hs with ⟨a, rows, rfl, hsig, hQ⟩ | ⟨d, hd, hE⟩
  · refine ⟨_, _, hsig.ty S, S.self, _, rfl, ?_⟩
    refine (if_neg (by simp)).mpr ?_
    walk_at "z1"
    walk_at "st"
    walk_at "z1"
    exact hQ
  · refine ⟨_, _, hd.ty, S.data d, _, rfl, ?_⟩
    refine (if_pos (by simp)).mpr ?_
    walk_at "st"
    refine s_raise1 TS hr.r tk ?_
    walk_at "z1"
    exact fun dd nd => hE dd _ (.upd nd)
section
variable {X : Cx} {σ : St} {H : Hp} {Q : VK} {o e g : Expr} {pos apos cpos : Pos}
theorem e_dget2 (hu : X.A.units + 1 < cLine) (h : EW X o σ H fun x H1 => ∃ a, x = .ref a ∧ IsD H1 a ∧ EW X e σ H1 fun y H2 => EW X g σ H2 fun z H3 => ∃ ov, DGet H3 a y ov ∧ Q (ov.getD z) H3)
    (m : M2 X o "get" apos e g cpos := by exact ⟨rfl, rfl, rfl, rfl⟩) : EW X (.Call (.Attribute o "get" apos) [e, g] [] cpos) σ H Q := e_of (pe_dget2 hu e_pe e_pe e_pe m) h
theorem sl_tupN : L2.SlR X (fun x lo hi H Q => ∃ a xs, x = .ref a ∧ SqT X.K H a xs ∧ ¬ (HT.sIx xs.length 0 lo = 0 ∧ HT.sIx xs.length xs.length hi = xs.length) ∧ ∀ p H', New H p (.tup (cutV xs lo hi)) H' → Q (.ref p) H') :=
  SlR.weak sl_tup fun x l u H Q ⟨a, xs, e, h, n, q⟩ => ⟨a, xs, e, h, n, fun p hp => q p _ (.upd hp)⟩
end
theorem valV_look (z : Str) : ∀ rs : List (Str × Int), (valV (rs.map rK) (.inr z)).getD (.int (-1)) = .int (lookR rs z)
  | [] => rfl
  | r :: rs => by
    by_cases e : r.1 = z
    · rw [List.map_cons, valV_pos (p := rK r) (by show (Sum.inr r.1 : Key) = .inr z; rw [e])]
      simp [lookR, e]
    · rw [List.map_cons, valV_neg (p := rK r) (fun h => e (Sum.inr.inj h)), valV_look z rs]
      simp [lookR, e]
theorem at_head {v : V} {xs : List V} : atI (v :: xs) 0 = some v := by
  have h := atI_nat (xs := v :: xs) (j := 0) (v := v)
  exact h rfl
abbrev sBuilt : Stmt := topS 16
abbrev nsBuilt : List Str := ["signature", "value"]
theorem scBuilt : FnScope nsBuilt ["signature", "value"] (defScope sBuilt) := ⟨rfl, rfl, rfl, by decide +kernel, rfl, by decide +kernel, by decide +kernel⟩
local macro_rules | `(tactic| walk_at "nm") => `(tactic| first
  | ((with_reducible show EW _ (Expr.Name (Str.ofString "signature") _) _ _ _); refine e_nm (i := 0) (N := nsBuilt) rfl at_z rfl ?_)
  | ((with_reducible show EW _ (Expr.Name (Str.ofString "value") _) _ _ _); refine e_nm (i := 1) (N := nsBuilt) rfl (at_s at_z) rfl ?_))
local macro_rules | `(tactic| walk_at "set") => `(tactic| first
  | ((with_reducible show SW _ (Stmt.Assign [Expr.Name (Str.ofString "signature") _] _ _) _ _ _); refine s_set (i := 0) (N := nsBuilt) scBuilt.nd rfl at_z ?_)
  | ((with_reducible show SW _ (Stmt.Assign [Expr.Name (Str.ofString "value") _] _ _) _ _ _); refine s_set (i := 1) (N := nsBuilt) scBuilt.nd rfl (at_s at_z) ?_))
local macro_rules | `(tactic| walk_at "tg") => `(tactic| first
  | ((with_reducible show GW _ (Expr.Name (Str.ofString "signature") _) _ _ _ _); refine g_nm (i := 0) (N := nsBuilt) scBuilt.nd rfl at_z ?_)
  | ((with_reducible show GW _ (Expr.Name (Str.ofString "value") _) _ _ _ _); refine g_nm (i := 1) (N := nsBuilt) scBuilt.nd rfl (at_s at_z) ?_))
def spBuilt (K : PySem.W.Frag) (C : Addr) : Sp := fun vs H Q _ => ∃ a rows v d, vs = [.ref a, v] ∧ SigAt C H a rows ∧ Dq K H v d ∧ ∀ H', Same H H' → Q (.bl (dBuilt rows d)) H'
theorem bBuilt (S : SigC K C) (mi : mg "isinstance" = none) (mt : mg "tuple" = none) (ms : mg "str" = none) (ml : mg "len" = none) : BodyZ P w K mg base nsBuilt "is_built" sBuilt f 0 (spBuilt K C) := by
  intro X cd A outer s H vs Q E hX hr tk hs
  subst hX
  have hu := hr.r.units
  have hu0 : (cz P w K mg base nsBuilt "is_built" (defScope sBuilt) f cd A outer s H E).A.units < cLine := Nat.lt_of_le_of_lt (Nat.le_add_right _ _) hu
  obtain ⟨a, rows, v, d, rfl, hsig, hd, hQ⟩ := hs
  have no : ∀ H', Same H H' → dBuilt rows d = false → Q (.bl false) H' := fun H' sm e => by
    have := hQ H' sm
    rw [e] at this
    exact this
  walk_at "z1"
  walk_at "z1"
  refine t_w (w_or (t_not (t_val ?_)))
  refine e_isT (T := "tuple") mi mt (by decide +kernel) ?_
  walk_at "z1"
  refine ⟨_, _, hd.ty, kit_ty (kb_tup d), _, rfl, ?_⟩
  by_cases h1 : isTup d = true
  · obtain ⟨ds, rfl⟩ : ∃ ds, d = .tuple ds := by cases d <;> first | exact ⟨_, rfl⟩ | cases h1
    cases hd with
    | tup hq hall =>
      rename_i b xs
      have hlen := DqAll.length hall
      refine (if_neg (by simp [isTup])).mpr ?_
      refine w_or (t_cmp (op_eqE hu0) ?_)
      walk_at "z"
      refine ⟨szL, fun e0 H1 n1 => ?_⟩
      have hq1 : SqT K H1 b xs := hq.imp (fun z => z.imp (n1.same _ _) fun ⟨o, z⟩ => ⟨o, n1.same _ _ z⟩) id
      refine ⟨b, e0, xs, [], rfl, rfl, .inr ⟨hq1, .inl (.inl n1.here)⟩, .inr rfl, _, rfl, ?_⟩
      cases hall with
      | nil =>
        refine (if_pos rfl).mpr ?_
        refine (if_pos rfl).mpr ?_
        walk_at "z"
        exact no _ n1.same rfl
      | cons q0 qs =>
        rename_i v0 xs d0 ds
        refine (if_neg (by simp)).mpr ?_
        refine w_or1 (t_not (t_val ?_))
        refine e_isT (T := "str") mi ms (by decide +kernel) ?_
        refine e_ix ix_tup ?_
        walk_at "z"
        refine ⟨_, _, _, _, rfl, rfl, hq1, at_head, ?_⟩
        refine ⟨_, _, (Dq.keep n1.same _ _ q0).ty, kit_ty (kb_str d0), _, rfl, ?_⟩
        cases hst : isStr d0 with
        | false =>
          refine (if_pos rfl).mpr ?_
          walk_at "z"
          exact no _ n1.same (by cases d0 <;> first | rfl | cases hst)
        | true =>
          obtain ⟨z, rfl⟩ : ∃ z, d0 = .str z := by cases d0 <;> first | exact ⟨_, rfl⟩ | cases hst
          cases q0
          refine (if_neg (by simp)).mpr ?_
          obtain ⟨dx, p, t, as, g1, g2, g3, g4⟩ := hsig.keep n1.same
          walk_at "z"
          refine e_cmp op_eq ?_
          refine e_dget2 (hu_of hr.r) ?_
          refine e_fld ?_
          walk_at "z1"
          refine ⟨a, C, dx, _, .ref p, rfl, g1, S.cl, S.n1, rfl, ?_⟩
          refine ⟨p, rfl, .inl ⟨_, .inl g2⟩, ?_⟩
          refine e_ix ix_tup ?_
          walk_at "z"
          refine ⟨_, _, _, _, rfl, rfl, hq1, at_head, ?_⟩
          refine e_un un_neg ?_
          walk_at "z1"
          refine ⟨_, rfl, ?_⟩
          refine ⟨_, DGet.k (k := .inr z) g2, ?_⟩
          rw [valV_look]
          walk_at "z1"
          refine e_callB call_len_seq ml PySem.boot_len ?_
          walk_at "z"
          refine ⟨_, _, rfl, .inr hq1, ?_⟩
          walk_at "z"
          refine ⟨rfl, ?_⟩
          have e : decide (V.int (lookR rows z) = V.int ((((V.str z) :: xs).length : Nat) - 1)) = dBuilt rows (.tuple (.str z :: ds)) := by
            have l2 : xs.length = ds.length := by simpa using hlen
            simp only [dBuilt, List.length_cons, V.int.injEq]
            congr 1
            rw [l2]
            apply propext
            constructor <;> intro h <;> omega
          have := hQ _ n1.same
          rw [← e] at this
          exact this
  · refine (if_pos (by simpa using h1)).mpr ?_
    refine (if_pos rfl).mpr ?_
    walk_at "z"
    exact no _ (Same.refl _) (by cases d <;> first | rfl | exact absurd rfl h1)
end
end L2.Z.Law
set_option maxHeartbeats 1000000
namespace L2.Z.Law
open PySem PySem.Spec PyProof.Rows PySem.ZX
local macro_rules | `(tactic| walk_at "zi") => `(tactic| refine ⟨_, _, rfl, rfl, ?_⟩)
local macro_rules | `(tactic| walk_at "zmod") => `(tactic| refine ⟨_, _, rfl, rfl, (show (0 : Int) < _ by first | decide | omega), ?_⟩)
local macro_rules | `(tactic| walk_at "zdiv") => `(tactic| refine ⟨_, _, rfl, rfl, ⟨(show (0 : Int) < _ by first | decide | omega), ?_⟩, ?_⟩)
local macro_rules | `(tactic| walk_at "z1") => `(tactic| first
  | ((with_reducible show EW _ (Expr.Name _ _) _ _ _); walk_at "nm")
  | ((with_reducible show EW _ (Expr.Constant _ _ _) _ _ _); first | with_reducible refine e_int ?_ | with_reducible refine e_str ?_ | with_reducible refine e_bl ?_ | with_reducible refine e_non ?_)
  | ((with_reducible show EW _ (Expr.BinOp _ Operator.Add _ _) _ _ _); refine e_op z_add ?_)
  | ((with_reducible show EW _ (Expr.BinOp _ Operator.Sub _ _) _ _ _); refine e_op op_sub ?_)
  | ((with_reducible show EW _ (Expr.BinOp _ Operator.Mult _ _) _ _ _); refine e_op z_mul ?_)
  | ((with_reducible show EW _ (Expr.BinOp _ Operator.Mod _ _) _ _ _); refine e_op op_mod ?_)
  | ((with_reducible show EW _ (Expr.BinOp _ Operator.FloorDiv _ _) _ _ _); refine e_op op_fdivW ?_)
  | ((with_reducible show EW _ (Expr.BinOp _ Operator.Pow _ _) _ _ _); refine e_op op_pow ?_)
  | ((with_reducible show EW _ (Expr.List _ _) _ _ _); refine e_lstN ?_)
  | ((with_reducible show EW _ (Expr.Tuple _ _ _) _ _ _); refine e_tupN ?_)
  | ((with_reducible show EW _ (Expr.Subscript _ (Expr.Slice _ _ _ _) _) _ _ _); refine e_sl sl_listN ?_)
  | ((with_reducible show EW _ (Expr.Dict [] [] _) _ _ _); refine e_dKN ?_)
  | ((with_reducible show EW _ (Expr.BoolOp BoolOp.And [_] _) _ _ _); refine e_one ?_)
  | ((with_reducible show EW _ (Expr.BoolOp BoolOp.Or [_] _) _ _ _); refine e_one ?_)
  | ((with_reducible show EW _ (Expr.BoolOp BoolOp.And _ _) _ _ _); refine e_and ?_)
  | ((with_reducible show EW _ (Expr.BoolOp BoolOp.Or _ _) _ _ _); refine e_or ?_)
  | ((with_reducible show EW _ (Expr.IfExp _ _ _ _) _ _ _); refine e_if ?_)
  | ((with_reducible show AW _ [] _ _ _); refine a_nil ?_)
  | ((with_reducible show AW _ (_ :: _) _ _ _); refine a_cons ?_)
  | ((with_reducible show OW _ none _ _ _); refine o_no ?_)
  | ((with_reducible show OW _ (some _) _ _ _); refine o_so ?_)
  | ((with_reducible show TW _ (Expr.UnaryOp UnaryOp.Not _ _) _ _ _); refine t_not ?_)
  | ((with_reducible show TW _ (Expr.BoolOp _ _ _) _ _ _); refine t_w ?_)
  | ((with_reducible show PWW _ (Expr.BoolOp BoolOp.And [_] _) _ _ _); refine w_and1 ?_)
  | ((with_reducible show PWW _ (Expr.BoolOp BoolOp.Or [_] _) _ _ _); refine w_or1 ?_)
  | ((with_reducible show PWW _ (Expr.BoolOp BoolOp.And _ _) _ _ _); refine w_and ?_)
  | ((with_reducible show PWW _ (Expr.BoolOp BoolOp.Or _ _) _ _ _); refine w_or ?_)
  | ((with_reducible show SW _ (Stmt.Return (some _) _) _ _ _); refine s_ret ?_)
  | ((with_reducible show SW _ (Stmt.If _ _ _ _) _ _ _); refine s_if ?_)
  | ((with_reducible show SW _ (Stmt.Expr _ _) _ _ _); refine s_expr ?_)
  | ((with_reducible show SW _ (Stmt.Assign [Expr.Name _ _] _ _) _ _ _); walk_at "set")
  | ((with_reducible show BW _ [_] _ _ _); (first | (with_reducible refine b_one ?_) | refine b_one ?_))
  | ((with_reducible show BW _ [] _ _ _); refine b_nil ?_)
  | ((with_reducible show BW _ _ _ _ _); (first | (with_reducible refine b_cons ?_) | refine b_cons ?_))
  | ((with_reducible show rAddZ _ _ _ _ _); refine Or.inl ⟨_, _, rfl, rfl, ?_⟩)
  | ((with_reducible show rI0 _ _ _ _ _); refine ⟨_, _, rfl, rfl, ?_⟩)
  | ((with_reducible show rI (fun _ j => 0 < j) _ _ _ _ _); refine ⟨_, _, rfl, rfl, (show (0 : Int) < _ by first | decide | omega), ?_⟩)
  | ((with_reducible show Ends.nx _ _ _); first | (with_reducible refine mk_nx ?_) | refine (show BW _ _ _ _ _ from ?_)))
local macro_rules | `(tactic| walk_at "z") => `(tactic| repeat walk_at "z1")
local macro_rules | `(tactic| walk_at "st") => `(tactic| repeat (first
  | ((with_reducible show Ends.nx _ _ _); first | (with_reducible refine mk_nx ?_) | refine (show BW _ _ _ _ _ from ?_))
  | ((with_reducible show BW _ _ _ _ _); (first | (with_reducible refine b_cons ?_) | refine b_cons ?_))))
section
variable {P : Program} {w : World} {K : PySem.W.Frag} {mg : Str → Option Value} {base : Heap} {f C cS fS : Addr} {qS : Str}
theorem cutV_tail {v : V} {xs : List V} : cutV (v :: xs) (some 1) none = xs := by
  unfold cutV
  rw [HT.sIx_none, show (some (1 : Int)) = some ((1 : Nat) : Int) from rfl, HT.sIx_nat]
  have e : min 1 (v :: xs).length = 1 := by rw [List.length_cons]; omega
  rw [e, List.drop_succ_cons, List.drop_zero, List.length_cons]
  exact List.take_of_length_le (by omega)
theorem notWhole {v : V} {xs : List V} : ¬ (HT.sIx (v :: xs).length 0 (some 1) = 0 ∧ HT.sIx (v :: xs).length (v :: xs).length none = (v :: xs).length) := by
  rw [show (some (1 : Int)) = some ((1 : Nat) : Int) from rfl, HT.sIx_nat, List.length_cons]
  intro h
  have := h.1
  omega
theorem dFitsAll_eq (rows : List (Str × Int)) : ∀ ds : List PyData, dFitsAll rows ds = ds.all (dFits rows)
  | [] => by simp [dFitsAll]
  | d :: ds => by rw [dFitsAll, List.all_cons, dFitsAll_eq rows ds]
theorem depth_mem {d : PyData} : ∀ {ds : List PyData}, d ∈ ds → d.depth ≤ PyData.depthAll ds
  | x :: xs, h => by
    rw [PyData.depthAll]
    rcases List.mem_cons.mp h with rfl | h
    · omega
    · have := depth_mem h
      omega
theorem len_weight : ∀ ds : List PyData, ds.length ≤ PyData.weightAll ds
  | [] => Nat.zero_le _
  | d :: ds => by
    rw [PyData.weightAll, List.length_cons]
    have := len_weight ds
    omega
theorem Sml.len {ds : List PyData} (h : Sml (.tuple ds)) {n : Nat} (hn : n ≤ ds.length) : n ≤ sizeLine := by
  unfold Sml at h
  rw [PyData.weight] at h
  exact Nat.le_trans hn (Nat.le_trans (len_weight ds) (Nat.le_trans h (by decide)))
abbrev sFits : Stmt := topS 17
abbrev nsFits : List Str := ["signature", "value", "part"]
theorem scFits : FnScope nsFits ["signature", "value"] (defScope sFits) := ⟨rfl, rfl, rfl, by decide +kernel, rfl, by decide +kernel, by decide +kernel⟩
local macro_rules | `(tactic| walk_at "nm") => `(tactic| first
  | ((with_reducible show EW _ (Expr.Name (Str.ofString "signature") _) _ _ _); refine e_nm (i := 0) (N := nsFits) rfl at_z rfl ?_)
  | ((with_reducible show EW _ (Expr.Name (Str.ofString "value") _) _ _ _); refine e_nm (i := 1) (N := nsFits) rfl (at_s at_z) rfl ?_)
  | ((with_reducible show EW _ (Expr.Name (Str.ofString "part") _) _ _ _); refine e_nm (i := 2) (N := nsFits) rfl (at_s (at_s at_z)) rfl ?_))
local macro_rules | `(tactic| walk_at "set") => `(tactic| first
  | ((with_reducible show SW _ (Stmt.Assign [Expr.Name (Str.ofString "signature") _] _ _) _ _ _); refine s_set (i := 0) (N := nsFits) scFits.nd rfl at_z ?_)
  | ((with_reducible show SW _ (Stmt.Assign [Expr.Name (Str.ofString "value") _] _ _) _ _ _); refine s_set (i := 1) (N := nsFits) scFits.nd rfl (at_s at_z) ?_)
  | ((with_reducible show SW _ (Stmt.Assign [Expr.Name (Str.ofString "part") _] _ _) _ _ _); refine s_set (i := 2) (N := nsFits) scFits.nd rfl (at_s (at_s at_z)) ?_))
local macro_rules | `(tactic| walk_at "tg") => `(tactic| first
  | ((with_reducible show GW _ (Expr.Name (Str.ofString "signature") _) _ _ _ _); refine g_nm (i := 0) (N := nsFits) scFits.nd rfl at_z ?_)
  | ((with_reducible show GW _ (Expr.Name (Str.ofString "value") _) _ _ _ _); refine g_nm (i := 1) (N := nsFits) scFits.nd rfl (at_s at_z) ?_)
  | ((with_reducible show GW _ (Expr.Name (Str.ofString "part") _) _ _ _ _); refine g_nm (i := 2) (N := nsFits) scFits.nd rfl (at_s (at_s at_z)) ?_))
def spFits (K : PySem.W.Frag) (C : Addr) (n : Nat) : Sp := fun vs H Q _ => ∃ a rows v d, vs = [.ref a, v] ∧ SigAt C H a rows ∧ Dq K H v d ∧ d.depth ≤ n ∧ Sml d ∧ ∀ H', Same H H' → Q (.bl (dFits rows d)) H'
theorem bFits (n : Nat) (DB : DefZ P w K mg base "is_built" 1 ["signature", "value"] (spBuilt K C)) (ih : ∀ m, m + 1 = n → DefZ P w K mg base "fits_type" (n + 1) ["signature", "value"] (spFits K C m)) : BodyZ P w K mg base nsFits "fits_type" sFits f (n + 1) (spFits K C n) := by
  intro X cd A outer s H vs Q E hX hr tk hs
  subst hX
  have hu := hr.r.units
  have hu0 : (cz P w K mg base nsFits "fits_type" (defScope sFits) f cd A outer s H E).A.units < cLine := Nat.lt_of_le_of_lt (Nat.le_add_right _ _) hu
  obtain ⟨a, rows, v, d, rfl, hsig, hd, hdep, hsm, hQ⟩ := hs
  walk_at "z1"
  walk_at "z1"
  refine t_not (t_val (e_call (DB.mono (by omega)) hr tk ?_))
  walk_at "z"
  refine ⟨a, rows, v, d, rfl, hsig, hd, fun H1 S1 => ⟨_, rfl, ?_⟩⟩
  cases hb : dBuilt rows d with
  | false =>
    refine (if_pos rfl).mpr ?_
    walk_at "z"
    have e : dFits rows d = false := by
      unfold dBuilt at hb
      split at hb
      · rename_i z ds
        rw [dFits, hb, Bool.false_and]
      · rename_i hne
        cases d with
        | tuple ds =>
          cases ds with
          | nil => simp [dFits]
          | cons x xs => cases x <;> first | (exfalso; exact hne _ _ rfl) | simp [dFits]
        | _ => simp [dFits]
    have := hQ H1 S1
    rw [e] at this
    exact this
  | true =>
    refine (if_neg (by simp)).mpr ?_
    obtain ⟨z, ds, rfl⟩ : ∃ z ds, d = .tuple (.str z :: ds) := by
      unfold dBuilt at hb
      split at hb
      · exact ⟨_, _, rfl⟩
      · cases hb
    have ed : dFits rows (.tuple (.str z :: ds)) = ds.all (dFits rows) := by
      have hb' : decide (lookR rows z = ds.length) = true := hb
      rw [dFits, hb', Bool.true_and, dFitsAll_eq]
    cases hd with
    | tup hq hall =>
      rename_i b xs
      cases hall with
      | cons q0 hall =>
        rename_i v0 xs
        have hlen := DqAll.length hall
        have hq1 : SqT K H1 b (v0 :: xs) := hq.imp (fun z => z.imp (S1 _ _) fun ⟨o, z⟩ => ⟨o, S1 _ _ z⟩) id
        walk_at "z1"
        walk_at "st"
        walk_at "z1"
        refine e_cmp (op_eqE hu0) ?_
        refine e_lcN (own := [("part", 2)]) scFits.nd (show blkC nsFits (defScope sFits) _ _ = true by decide +kernel) (i_tup ?_)
        refine e_sl sl_tupN ?_
        walk_at "z"
        refine ⟨_, rfl, ?_⟩
        walk_at "z1"
        refine ⟨b, _, rfl, hq1, notWhole, fun q H2 n2 => ?_⟩
        rw [cutV_tail] at n2
        have S2 := S1.trans n2.same
        refine ⟨q, xs, rfl, .inl (.inl n2.here), H2, fun i acc _ => (acc = [] ↔ (ds.take i).all (dFits rows) = true), Same.refl _, ?_, by simp, fun i acc G' H' _ g _ => .inl (.inl (g.hh _ _ n2.here)), ?_, ?_⟩
        · exact hsm.len (by simp; omega)
        · rintro i acc G' H' x H3 hi hl g pv ⟨rfl, ex⟩ X' ⟨s', Hs, Cc, cl, fp, rfl⟩
          walk_at "tg"
          refine ⟨rfl, ?_⟩
          rintro X' ⟨s', Hs, Cc, cl, fp, rfl⟩
          refine (show TW _ _ _ _ _ from ?_)
          have hid : i < ds.length := by omega
          obtain ⟨di, edi⟩ : ∃ di, ds[i]? = some di := ⟨_, List.getElem?_eq_getElem hid⟩
          obtain ⟨v', ev, dv⟩ := DqAll.at hall edi
          obtain rfl : x = v' := Option.some.inj (ex.symm.trans ev)
          have dm := depth_mem (List.mem_of_getElem? edi)
          have dep : di.depth + 1 ≤ n := by
            rw [PyData.depth, PyData.depthAll] at hdep
            omega
          obtain ⟨m, rfl⟩ : ∃ m, n = m + 1 := ⟨n - 1, by omega⟩
          have et : ds.take (i + 1) = ds.take i ++ [di] := by rw [List.take_add_one, edi]; rfl
          refine t_not (t_val (e_call (ih m rfl) hr takes0 ?_))
          walk_at "z"
          refine ⟨a, rows, x, di, rfl, hsig.keep (S2.trans g.hh), Dq.keep (S2.trans g.hh) _ _ dv, by omega, hsm.tup (List.mem_cons_of_mem _ (List.mem_of_getElem? edi)), fun H4 S4 => ⟨_, rfl, ?_⟩⟩
          cases hf : dFits rows di with
          | true =>
            refine (if_neg (by simp)).mpr ?_
            refine ⟨_, .of g.gh S4, ?_⟩
            show acc = [] ↔ _
            rw [et, List.all_append, pv]
            simp [hf]
          | false =>
            refine (if_pos rfl).mpr ?_
            rintro X' ⟨s', Hs, Cc, cl, fp, rfl⟩
            walk_at "z"
            refine ⟨_, .of g.gh S4, ?_⟩
            show acc ++ [_] = [] ↔ _
            rw [et, List.all_append]
            simp [hf]
        · rintro L acc G2 G' H' hl _ g pv sG hL hG
          walk_at "z"
          refine ⟨szL, fun q2 H6 n6 => ?_⟩
          refine ⟨L, q2, acc, [], rfl, rfl, .inl ⟨.inl (.inl (n6.same _ _ (g.gh _ _ hG))), .inl (.inl n6.here)⟩, .inr rfl, ?_⟩
          have pv' : acc = [] ↔ ds.all (dFits rows) = true := by
            have := pv
            rw [List.take_of_length_le (by omega)] at this
            exact this
          have e : dFits rows (.tuple (.str z :: ds)) = (id (acc.length == ([] : List V).length)) := by
            rw [ed]
            show _ = (acc.length == 0)
            cases hb2 : ds.all (dFits rows) with
            | true => rw [pv'.mpr hb2]; rfl
            | false =>
              have : acc ≠ [] := fun h => by rw [pv'.mp h] at hb2; cases hb2
              cases acc with
              | nil => exact absurd rfl this
              | cons _ _ => rfl
          rw [← e]
          exact hQ _ ((S2.trans g.hh).trans n6.same)
abbrev sIsType : Stmt := topS 18
abbrev nsIsType : List Str := ["signature", "value"]
theorem scIsType : FnScope nsIsType ["signature", "value"] (defScope sIsType) := ⟨rfl, rfl, rfl, by decide +kernel, rfl, by decide +kernel, by decide +kernel⟩
local macro_rules | `(tactic| walk_at "nm") => `(tactic| first
  | ((with_reducible show EW _ (Expr.Name (Str.ofString "signature") _) _ _ _); refine e_nm (i := 0) (N := nsIsType) rfl at_z rfl ?_)
  | ((with_reducible show EW _ (Expr.Name (Str.ofString "value") _) _ _ _); refine e_nm (i := 1) (N := nsIsType) rfl (at_s at_z) rfl ?_))
local macro_rules | `(tactic| walk_at "set") => `(tactic| first
  | ((with_reducible show SW _ (Stmt.Assign [Expr.Name (Str.ofString "signature") _] _ _) _ _ _); refine s_set (i := 0) (N := nsIsType) scIsType.nd rfl at_z ?_)
  | ((with_reducible show SW _ (Stmt.Assign [Expr.Name (Str.ofString "value") _] _ _) _ _ _); refine s_set (i := 1) (N := nsIsType) scIsType.nd rfl (at_s at_z) ?_))
local macro_rules | `(tactic| walk_at "tg") => `(tactic| first
  | ((with_reducible show GW _ (Expr.Name (Str.ofString "signature") _) _ _ _ _); refine g_nm (i := 0) (N := nsIsType) scIsType.nd rfl at_z ?_)
  | ((with_reducible show GW _ (Expr.Name (Str.ofString "value") _) _ _ _ _); refine g_nm (i := 1) (N := nsIsType) scIsType.nd rfl (at_s at_z) ?_))
/-- any data that is no signature is refused -/
def spIsType (K : PySem.W.Frag) (C cS : Addr) (n : Nat) : Sp := fun vs H Q E => ∃ s v, vs = [s, v] ∧ ((∃ a rows d, s = .ref a ∧ SigAt C H a rows ∧ Dq K H v d ∧ d.depth ≤ n ∧ Sml d ∧ ∀ H', Same H H' → Q (.bl (dFits rows d)) H') ∨ ∃ d, Dq K H s d ∧ ∀ dd H', New H dd (.xd [("value", s)]) H' → E (.ref cS) (some dd) H')
theorem bIsType (n : Nat) (DC : DefZ P w K mg base "check_signature" 2 ["value"] (spCheckSig K C cS)) (DF : DefZ P w K mg base "fits_type" (n + 2) ["signature", "value"] (spFits K C n)) : BodyZ P w K mg base nsIsType "is_type" sIsType f (n + 2) (spIsType K C cS n) := by
  intro X cd A outer s H vs Q E hX hr tk hs
  subst hX
  obtain ⟨sv, v, rfl, hs⟩ := hs
  walk_at "z1"
  refine s_expr (e_call (DC.mono (by omega)) hr tk ?_)
  walk_at "z"
  rcases hs with ⟨a, rows, d, rfl, hsig, hd, hdep, hsm, hQ⟩ | ⟨d, hd, hE⟩
  · refine ⟨_, rfl, .inl ⟨a, rows, rfl, hsig, ?_⟩⟩
    walk_at "z"
    refine e_call DF hr tk ?_
    walk_at "z"
    exact ⟨a, rows, v, d, rfl, hsig, hd, hdep, hsm, hQ⟩
  · exact ⟨_, rfl, .inr ⟨d, hd, hE⟩⟩
end
end L2.Z.Law
set_option maxHeartbeats 1000000
namespace L2.Z.Law
open PySem PySem.Spec PyProof.Rows PySem.ZX PySem.W
/-! ### all types by size -/
def ofRow (bs : List (List PyData)) (many : Nat) (r : Str × Int) : List PyData :=
  if r.2 = 0 then (if many = 1 then [.tuple [.str r.1]] else [])
  else if r.2 = 1 then (bs.getD (many - 1) []).map fun p => .tuple [.str r.1, p]
  else if r.2 = 2 then (List.range (many - 2)).flatMap fun l => (bs.getD (l + 1) []).flatMap fun one => (bs.getD (many - 1 - (l + 1)) []).map fun two => .tuple [.str r.1, one, two]
  else []
def foundAt (rows : List (Str × Int)) (bs : List (List PyData)) (many : Nat) : List PyData := rows.flatMap (ofRow bs many)
/-- the types of 0, 1, .. n constructors -/
def tySizes (rows : List (Str × Int)) : Nat → List (List PyData)
  | 0 => [[]]
  | n + 1 => tySizes rows n ++ [srt (foundAt rows (tySizes rows n) (n + 1))]
theorem tySizes_len (rows : List (Str × Int)) : ∀ n, (tySizes rows n).length = n + 1
  | 0 => rfl
  | n + 1 => by rw [tySizes, List.length_append, tySizes_len rows n]; rfl
/-- a text and such, deep down -/
inductive IsTy : PyData → Prop where
  | mk (z : Str) (ds : List PyData) (h : ∀ d ∈ ds, IsTy d) : IsTy (.tuple (.str z :: ds))
mutual
theorem alike_ty : ∀ (x y : PyData), IsTy x → IsTy y → alike x y = true
  | .tuple (.str z :: xs), .tuple (.str z' :: ys), hx, hy => by
    cases hx with
    | mk _ _ hx =>
      cases hy with
      | mk _ _ hy =>
        rw [alike, alikeAll, alike, Bool.true_and]
        exact alikeAll_ty xs ys hx hy
  | .none, _, h, _ => by cases h
  | .bool _, _, h, _ => by cases h
  | .int _, _, h, _ => by cases h
  | .str _, _, h, _ => by cases h
  | .list _, _, h, _ => by cases h
  | .dict _, _, h, _ => by cases h
  | .tuple [], _, h, _ => by cases h
  | .tuple (.none :: _), _, h, _ => by cases h
  | .tuple (.bool _ :: _), _, h, _ => by cases h
  | .tuple (.int _ :: _), _, h, _ => by cases h
  | .tuple (.list _ :: _), _, h, _ => by cases h
  | .tuple (.tuple _ :: _), _, h, _ => by cases h
  | .tuple (.dict _ :: _), _, h, _ => by cases h
  | .tuple (.str _ :: _), .none, _, h => by cases h
  | .tuple (.str _ :: _), .bool _, _, h => by cases h
  | .tuple (.str _ :: _), .int _, _, h => by cases h
  | .tuple (.str _ :: _), .str _, _, h => by cases h
  | .tuple (.str _ :: _), .list _, _, h => by cases h
  | .tuple (.str _ :: _), .dict _, _, h => by cases h
  | .tuple (.str _ :: _), .tuple [], _, h => by cases h
  | .tuple (.str _ :: _), .tuple (.none :: _), _, h => by cases h
  | .tuple (.str _ :: _), .tuple (.bool _ :: _), _, h => by cases h
  | .tuple (.str _ :: _), .tuple (.int _ :: _), _, h => by cases h
  | .tuple (.str _ :: _), .tuple (.list _ :: _), _, h => by cases h
  | .tuple (.str _ :: _), .tuple (.tuple _ :: _), _, h => by cases h
  | .tuple (.str _ :: _), .tuple (.dict _ :: _), _, h => by cases h
theorem alikeAll_ty : ∀ (xs ys : List PyData), (∀ d ∈ xs, IsTy d) → (∀ d ∈ ys, IsTy d) → alikeAll xs ys = true
  | [], _, _, _ => by rw [alikeAll]
  | _ :: _, [], _, _ => by rw [alikeAll]
  | x :: xs, y :: ys, hx, hy => by
    rw [alikeAll, alike_ty x y (hx x List.mem_cons_self) (hy y List.mem_cons_self), Bool.true_and]
    exact alikeAll_ty xs ys (fun d h => hx d (List.mem_cons_of_mem _ h)) fun d h => hy d (List.mem_cons_of_mem _ h)
end
theorem ofRow_ty {bs : List (List PyData)} (hb : ∀ l ∈ bs, ∀ d ∈ l, IsTy d) {many : Nat} {r : Str × Int} : ∀ d ∈ ofRow bs many r, IsTy d := by
  have at_ : ∀ i, ∀ d ∈ bs.getD i [], IsTy d := fun i d h => by
    rw [List.getD_eq_getElem?_getD] at h
    cases q : bs[i]? with
    | none => rw [q] at h; cases h
    | some l => rw [q] at h; exact hb l (List.mem_of_getElem? q) d h
  intro d h
  unfold ofRow at h
  split at h
  · split at h
    · obtain rfl : d = _ := by simpa using h
      exact .mk _ _ (fun _ h => by cases h)
    · cases h
  · split at h
    · obtain ⟨p, hp, rfl⟩ := List.mem_map.mp h
      refine .mk _ _ (fun d' h' => ?_)
      have e : d' = p := by simpa using h'
      rw [e]
      exact at_ _ _ hp
    · split at h
      · obtain ⟨l, _, h⟩ := List.mem_flatMap.mp h
        obtain ⟨one, h1, h⟩ := List.mem_flatMap.mp h
        obtain ⟨two, h2, rfl⟩ := List.mem_map.mp h
        refine .mk _ _ (fun d h => ?_)
        simp only [List.mem_cons, List.not_mem_nil, or_false] at h
        rcases h with rfl | rfl
        · exact at_ _ _ h1
        · exact at_ _ _ h2
      · cases h
theorem mem_srt {ds : List PyData} {d : PyData} : d ∈ srt ds ↔ d ∈ ds := (List.mergeSort_perm ds _).mem_iff
theorem tySizes_ty (rows : List (Str × Int)) : ∀ n, ∀ l ∈ tySizes rows n, ∀ d ∈ l, IsTy d
  | 0, l, hl, d, h => by
    obtain rfl : l = [] := by simpa [tySizes] using hl
    cases h
  | n + 1, l, hl, d, h => by
    rw [tySizes] at hl
    rcases List.mem_append.mp hl with hl | hl
    · exact tySizes_ty rows n l hl d h
    · obtain rfl : l = _ := by simpa using hl
      obtain ⟨r, _, h⟩ := List.mem_flatMap.mp (mem_srt.mp h)
      exact ofRow_ty (tySizes_ty rows n) d h
theorem found_sortable (rows : List (Str × Int)) (n : Nat) : AllAlike (foundAt rows (tySizes rows n) (n + 1)) ∧ Sortable (foundAt rows (tySizes rows n) (n + 1)) := by
  have ty : ∀ d ∈ foundAt rows (tySizes rows n) (n + 1), IsTy d := fun d h => by
    obtain ⟨r, _, h⟩ := List.mem_flatMap.mp h
    exact ofRow_ty (tySizes_ty rows n) d h
  exact ⟨fun d hd d' hd' => alike_ty d d' (ty d hd) (ty d' hd'), .inl fun d hd => by
    have z := ty d hd
    cases z with
    | mk z ds _ => exact ⟨_, _, rfl⟩⟩
end L2.Z.Law

set_option maxHeartbeats 1000000
namespace L2.Z.Law
open PySem PySem.Spec PyProof.Rows PySem.ZX
local macro_rules | `(tactic| walk_at "zi") => `(tactic| refine ⟨_, _, rfl, rfl, ?_⟩)
local macro_rules | `(tactic| walk_at "zmod") => `(tactic| refine ⟨_, _, rfl, rfl, (show (0 : Int) < _ by first | decide | omega), ?_⟩)
local macro_rules | `(tactic| walk_at "zdiv") => `(tactic| refine ⟨_, _, rfl, rfl, ⟨(show (0 : Int) < _ by first | decide | omega), ?_⟩, ?_⟩)
local macro_rules | `(tactic| walk_at "z1") => `(tactic| first
  | ((with_reducible show EW _ (Expr.Name _ _) _ _ _); walk_at "nm")
  | ((with_reducible show EW _ (Expr.Constant _ _ _) _ _ _); first | with_reducible refine e_int ?_ | with_reducible refine e_str ?_ | with_reducible refine e_bl ?_ | with_reducible refine e_non ?_)
  | ((with_reducible show EW _ (Expr.BinOp _ Operator.Add _ _) _ _ _); refine e_op z_add ?_)
  | ((with_reducible show EW _ (Expr.BinOp _ Operator.Sub _ _) _ _ _); refine e_op op_sub ?_)
  | ((with_reducible show EW _ (Expr.BinOp _ Operator.Mult _ _) _ _ _); refine e_op z_mul ?_)
  | ((with_reducible show EW _ (Expr.BinOp _ Operator.Mod _ _) _ _ _); refine e_op op_mod ?_)
  | ((with_reducible show EW _ (Expr.BinOp _ Operator.FloorDiv _ _) _ _ _); refine e_op op_fdivW ?_)
  | ((with_reducible show EW _ (Expr.BinOp _ Operator.Pow _ _) _ _ _); refine e_op op_pow ?_)
  | ((with_reducible show EW _ (Expr.List _ _) _ _ _); refine e_lstN ?_)
  | ((with_reducible show EW _ (Expr.Tuple _ _ _) _ _ _); refine e_tupN ?_)
  | ((with_reducible show EW _ (Expr.Subscript _ (Expr.Slice _ _ _ _) _) _ _ _); refine e_sl sl_listN ?_)
  | ((with_reducible show EW _ (Expr.Dict [] [] _) _ _ _); refine e_dKN ?_)
  | ((with_reducible show EW _ (Expr.BoolOp BoolOp.And [_] _) _ _ _); refine e_one ?_)
  | ((with_reducible show EW _ (Expr.BoolOp BoolOp.Or [_] _) _ _ _); refine e_one ?_)
  | ((with_reducible show EW _ (Expr.BoolOp BoolOp.And _ _) _ _ _); refine e_and ?_)
  | ((with_reducible show EW _ (Expr.BoolOp BoolOp.Or _ _) _ _ _); refine e_or ?_)
  | ((with_reducible show EW _ (Expr.IfExp _ _ _ _) _ _ _); refine e_if ?_)
  | ((with_reducible show AW _ [] _ _ _); refine a_nil ?_)
  | ((with_reducible show AW _ (_ :: _) _ _ _); refine a_cons ?_)
  | ((with_reducible show OW _ none _ _ _); refine o_no ?_)
  | ((with_reducible show OW _ (some _) _ _ _); refine o_so ?_)
  | ((with_reducible show TW _ (Expr.UnaryOp UnaryOp.Not _ _) _ _ _); refine t_not ?_)
  | ((with_reducible show TW _ (Expr.BoolOp _ _ _) _ _ _); refine t_w ?_)
  | ((with_reducible show PWW _ (Expr.BoolOp BoolOp.And [_] _) _ _ _); refine w_and1 ?_)
  | ((with_reducible show PWW _ (Expr.BoolOp BoolOp.Or [_] _) _ _ _); refine w_or1 ?_)
  | ((with_reducible show PWW _ (Expr.BoolOp BoolOp.And _ _) _ _ _); refine w_and ?_)
  | ((with_reducible show PWW _ (Expr.BoolOp BoolOp.Or _ _) _ _ _); refine w_or ?_)
  | ((with_reducible show SW _ (Stmt.Return (some _) _) _ _ _); refine s_ret ?_)
  | ((with_reducible show SW _ (Stmt.If _ _ _ _) _ _ _); refine s_if ?_)
  | ((with_reducible show SW _ (Stmt.Expr _ _) _ _ _); refine s_expr ?_)
  | ((with_reducible show SW _ (Stmt.Assign [Expr.Name _ _] _ _) _ _ _); walk_at "set")
  | ((with_reducible show BW _ [_] _ _ _); (first | (with_reducible refine b_one ?_) | refine b_one ?_))
  | ((with_reducible show BW _ [] _ _ _); refine b_nil ?_)
  | ((with_reducible show BW _ _ _ _ _); (first | (with_reducible refine b_cons ?_) | refine b_cons ?_))
  | ((with_reducible show rAddZ _ _ _ _ _); refine Or.inl ⟨_, _, rfl, rfl, ?_⟩)
  | ((with_reducible show rI0 _ _ _ _ _); refine ⟨_, _, rfl, rfl, ?_⟩)
  | ((with_reducible show rI (fun _ j => 0 < j) _ _ _ _ _); refine ⟨_, _, rfl, rfl, (show (0 : Int) < _ by first | decide | omega), ?_⟩)
  | ((with_reducible show Ends.nx _ _ _); first | (with_reducible refine mk_nx ?_) | refine (show BW _ _ _ _ _ from ?_)))
local macro_rules | `(tactic| walk_at "z") => `(tactic| repeat walk_at "z1")
local macro_rules | `(tactic| walk_at "st") => `(tactic| repeat (first
  | ((with_reducible show Ends.nx _ _ _); first | (with_reducible refine mk_nx ?_) | refine (show BW _ _ _ _ _ from ?_))
  | ((with_reducible show BW _ _ _ _ _); (first | (with_reducible refine b_cons ?_) | refine b_cons ?_))))
section
variable {P : Program} {w : World} {K : PySem.W.Frag} {mg : Str → Option Value} {base : Heap} {f C cS fS cN fN : Addr} {qS qN : Str}
/-- at the addresses lists of such data -/
abbrev AllT (K : PySem.W.Frag) (G : Hp) (ls : List Addr) (bs : List (List PyData)) : Prop := Paired (fun l ds => ∃ xs, G l = some (.lst xs) ∧ DqAll K G xs ds) ls bs
theorem AllT.keep {G G' : Hp} (k : Same G G') {ls : List Addr} {bs : List (List PyData)} (h : AllT K G ls bs) : AllT K G' ls bs := Paired.imp (fun l ds ⟨xs, e, q⟩ => ⟨xs, k _ _ e, Dq.keepAll k _ _ q⟩) h
theorem AllT.at {G : Hp} : ∀ {ls : List Addr} {bs : List (List PyData)} {i : Nat}, AllT K G ls bs → i < bs.length → ∃ l xs, ls[i]? = some l ∧ G l = some (.lst xs) ∧ DqAll K G xs (bs.getD i [])
  | _, _, _, .nil, hi => absurd hi (Nat.not_lt_zero _)
  | _, _, 0, .cons ⟨xs, e, q⟩ _, _ => ⟨_, xs, rfl, e, q⟩
  | _, _, i + 1, .cons _ t, hi => by
    obtain ⟨l, xs, e1, e2, q⟩ := AllT.at t (Nat.lt_of_succ_lt_succ hi)
    exact ⟨l, xs, e1, e2, by simpa using q⟩
theorem _root_.L2.Z.DqAll.append {H : Hp} : ∀ {vs ws : List V} {ds es : List PyData}, DqAll K H vs ds → DqAll K H ws es → DqAll K H (vs ++ ws) (ds ++ es)
  | _, _, _, _, .nil, t => t
  | _, _, _, _, .cons h s, t => .cons h (DqAll.append s t)
/-- what types_of refuses as a size -/
def badSize : PyData → Bool
  | .int n => decide (n < 1)
  | _ => true
/-- no list is too long -/
def SzOk (rows : List (Str × Int)) (n : Nat) : Prop := ∀ m, m < n → (foundAt rows (tySizes rows m) (m + 1)).length < sizeLine ∧ ∀ d ∈ foundAt rows (tySizes rows m) (m + 1), d.depth ≤ 50
theorem Paired.snoc {α β : Type} {F : α → β → Prop} {a : α} {b : β} : ∀ {as : List α} {bs : List β}, Paired F as bs → F a b → Paired F (as ++ [a]) (bs ++ [b])
  | _, _, .nil, h => .cons h .nil
  | _, _, .cons h t, z => .cons h (Paired.snoc t z)
theorem Paired.at {α β : Type} {F : α → β → Prop} : ∀ {as : List α} {bs : List β} {i : Nat} {a : α}, Paired F as bs → as[i]? = some a → ∃ b, bs[i]? = some b ∧ F a b
  | _, _, 0, _, .cons h _, e => ⟨_, rfl, by cases e; exact h⟩
  | _, _, i + 1, _, .cons _ t, e => Paired.at t (i := i) (by simpa using e)
theorem DqAll.get {H : Hp} : ∀ {xs : List V} {ds : List PyData} {i : Nat} {v : V}, DqAll K H xs ds → xs[i]? = some v → ∃ d, ds[i]? = some d ∧ Dq K H v d
  | _, _, i, v, .nil, e => by simp at e
  | _, _, 0, v, .cons h t, e => by simp at e; subst e; exact ⟨_, rfl, h⟩
  | _, _, i + 1, v, .cons h t, e => by
    obtain ⟨d, h1, h2⟩ := DqAll.get (i := i) (v := v) t (by simpa using e)
    exact ⟨d, by simpa using h1, h2⟩
theorem take_snoc {α : Type} {xs : List α} {i : Nat} {x : α} (e : xs[i]? = some x) : xs.take (i + 1) = xs.take i ++ [x] := by rw [List.take_add_one, e]; rfl
/-- all pairs of two lists, in order -/
def pairsOf (as bs : List PyData) : List (PyData × PyData) := as.flatMap fun a => bs.map fun b => (a, b)
def tup2 (p : PyData × PyData) : PyData := .tuple [p.1, p.2]
def tup3 (z : Str) (p : PyData × PyData) : PyData := .tuple [.str z, p.1, p.2]
theorem ofRow1 {bs : List (List PyData)} {i : Nat} {r : Str × Int} (h : r.2 = 1) : ofRow bs (i + 1) r = (bs.getD i []).map fun p => .tuple [.str r.1, p] := by
  unfold ofRow
  rw [if_neg (by omega), if_pos h]
  rfl
/-- what is made with so many on the left -/
def leftOf (bs : List (List PyData)) (i : Nat) (z : Str) (l : Nat) : List PyData := (pairsOf (bs.getD (l + 1) []) (bs.getD (i - 1 - l) [])).map (tup3 z)
theorem ofRow2 {bs : List (List PyData)} {i : Nat} {r : Str × Int} (h : r.2 = 2) : ofRow bs (i + 1) r = (List.range (i - 1)).flatMap (leftOf bs i r.1) := by
  unfold ofRow
  rw [if_neg (by omega), if_neg (by omega), if_pos h]
  have e : i + 1 - 2 = i - 1 := by omega
  rw [e]
  congr 1
  funext l
  unfold leftOf pairsOf
  have e2 : i + 1 - 1 - (l + 1) = i - 1 - l := by omega
  rw [e2, List.map_flatMap]
  congr 1
  funext one
  rw [List.map_map]
  rfl
theorem pairs_lt {as bs : List PyData} {i j : Nat} {a : PyData} (hi : as[i]? = some a) (hj : j < bs.length) : (pairsOf (as.take i) bs ++ (bs.take j).map fun b => (a, b)).length < (pairsOf as bs).length := by
  have hl : i < as.length := by
    rcases Nat.lt_or_ge i as.length with h | h
    · exact h
    · rw [List.getElem?_eq_none h] at hi; cases hi
  have e : as = as.take i ++ a :: as.drop (i + 1) := by
    have h1 := (List.take_append_drop (i + 1) as).symm
    rw [take_snoc hi, List.append_assoc] at h1
    exact h1
  have e2 : (pairsOf as bs).length = (pairsOf (as.take i) bs).length + bs.length + (pairsOf (as.drop (i + 1)) bs).length := by
    have : pairsOf as bs = pairsOf (as.take i) bs ++ ((bs.map fun b => (a, b)) ++ pairsOf (as.drop (i + 1)) bs) := by
      rw [e]
      unfold pairsOf
      rw [List.flatMap_append, List.flatMap_cons, ← e]
    rw [this, List.length_append, List.length_append, List.length_map]
    omega
  rw [List.length_append, List.length_map, List.length_take, e2]
  omega
theorem pairs_snoc {as bs : List PyData} {i : Nat} {a : PyData} (hi : as[i]? = some a) : pairsOf (as.take (i + 1)) bs = pairsOf (as.take i) bs ++ bs.map fun b => (a, b) := by
  rw [take_snoc hi]
  unfold pairsOf
  rw [List.flatMap_append, List.flatMap_cons, List.flatMap_nil, List.append_nil]
theorem range_part {α : Type} {g : Nat → List α} {n l : Nat} (h : l < n) : ((List.range l).flatMap g).length + (g l).length ≤ ((List.range n).flatMap g).length := by
  have e : List.range n = (List.range n).take (l + 1) ++ (List.range n).drop (l + 1) := (List.take_append_drop _ _).symm
  have e2 : (List.range n).take (l + 1) = List.range l ++ [l] := by rw [List.take_range, Nat.min_eq_left h, List.range_succ]
  rw [e, e2, List.flatMap_append, List.flatMap_append, List.length_append, List.length_append, List.flatMap_cons, List.flatMap_nil, List.append_nil]
  omega
theorem Dq.pair {H : Hp} {v : V} {p : PyData × PyData} (h : Dq K H v (tup2 p)) : ∃ b x y, v = .ref b ∧ SqT K H b [x, y] ∧ Dq K H x p.1 ∧ Dq K H y p.2 := by
  cases h with
  | tup hq ha =>
    cases ha with
    | cons h0 t =>
      cases t with
      | cons h1 t =>
        cases t
        exact ⟨_, _, _, rfl, hq, h0, h1⟩
abbrev sTypesOf : Stmt := topS 19
abbrev nsTypesOf : List Str := ["signature", "size", "by_size", "many", "found", "name", "arity", "left", "pairs", "one", "two", "part"]
theorem scTypesOf : FnScope nsTypesOf ["signature", "size"] (defScope sTypesOf) := ⟨rfl, rfl, rfl, by decide +kernel, rfl, by decide +kernel, by decide +kernel⟩
local macro_rules | `(tactic| walk_at "nm") => `(tactic| first
  | ((with_reducible show EW _ (Expr.Name (Str.ofString "signature") _) _ _ _); refine e_nm (i := 0) (N := nsTypesOf) rfl at_z rfl ?_)
  | ((with_reducible show EW _ (Expr.Name (Str.ofString "size") _) _ _ _); refine e_nm (i := 1) (N := nsTypesOf) rfl (at_s at_z) rfl ?_)
  | ((with_reducible show EW _ (Expr.Name (Str.ofString "by_size") _) _ _ _); refine e_nm (i := 2) (N := nsTypesOf) rfl (at_s (at_s at_z)) rfl ?_)
  | ((with_reducible show EW _ (Expr.Name (Str.ofString "many") _) _ _ _); refine e_nm (i := 3) (N := nsTypesOf) rfl (at_s (at_s (at_s at_z))) rfl ?_)
  | ((with_reducible show EW _ (Expr.Name (Str.ofString "found") _) _ _ _); refine e_nm (i := 4) (N := nsTypesOf) rfl (at_s (at_s (at_s (at_s at_z)))) rfl ?_)
  | ((with_reducible show EW _ (Expr.Name (Str.ofString "name") _) _ _ _); refine e_nm (i := 5) (N := nsTypesOf) rfl (at_s (at_s (at_s (at_s (at_s at_z))))) rfl ?_)
  | ((with_reducible show EW _ (Expr.Name (Str.ofString "arity") _) _ _ _); refine e_nm (i := 6) (N := nsTypesOf) rfl (at_s (at_s (at_s (at_s (at_s (at_s at_z)))))) rfl ?_)
  | ((with_reducible show EW _ (Expr.Name (Str.ofString "left") _) _ _ _); refine e_nm (i := 7) (N := nsTypesOf) rfl (at_s (at_s (at_s (at_s (at_s (at_s (at_s at_z))))))) rfl ?_)
  | ((with_reducible show EW _ (Expr.Name (Str.ofString "pairs") _) _ _ _); refine e_nm (i := 8) (N := nsTypesOf) rfl (at_s (at_s (at_s (at_s (at_s (at_s (at_s (at_s at_z)))))))) rfl ?_)
  | ((with_reducible show EW _ (Expr.Name (Str.ofString "one") _) _ _ _); refine e_nm (i := 9) (N := nsTypesOf) rfl (at_s (at_s (at_s (at_s (at_s (at_s (at_s (at_s (at_s at_z))))))))) rfl ?_)
  | ((with_reducible show EW _ (Expr.Name (Str.ofString "two") _) _ _ _); refine e_nm (i := 10) (N := nsTypesOf) rfl (at_s (at_s (at_s (at_s (at_s (at_s (at_s (at_s (at_s (at_s at_z)))))))))) rfl ?_)
  | ((with_reducible show EW _ (Expr.Name (Str.ofString "part") _) _ _ _); refine e_nm (i := 11) (N := nsTypesOf) rfl (at_s (at_s (at_s (at_s (at_s (at_s (at_s (at_s (at_s (at_s (at_s at_z))))))))))) rfl ?_))
local macro_rules | `(tactic| walk_at "set") => `(tactic| first
  | ((with_reducible show SW _ (Stmt.Assign [Expr.Name (Str.ofString "signature") _] _ _) _ _ _); refine s_set (i := 0) (N := nsTypesOf) scTypesOf.nd rfl at_z ?_)
  | ((with_reducible show SW _ (Stmt.Assign [Expr.Name (Str.ofString "size") _] _ _) _ _ _); refine s_set (i := 1) (N := nsTypesOf) scTypesOf.nd rfl (at_s at_z) ?_)
  | ((with_reducible show SW _ (Stmt.Assign [Expr.Name (Str.ofString "by_size") _] _ _) _ _ _); refine s_set (i := 2) (N := nsTypesOf) scTypesOf.nd rfl (at_s (at_s at_z)) ?_)
  | ((with_reducible show SW _ (Stmt.Assign [Expr.Name (Str.ofString "many") _] _ _) _ _ _); refine s_set (i := 3) (N := nsTypesOf) scTypesOf.nd rfl (at_s (at_s (at_s at_z))) ?_)
  | ((with_reducible show SW _ (Stmt.Assign [Expr.Name (Str.ofString "found") _] _ _) _ _ _); refine s_set (i := 4) (N := nsTypesOf) scTypesOf.nd rfl (at_s (at_s (at_s (at_s at_z)))) ?_)
  | ((with_reducible show SW _ (Stmt.Assign [Expr.Name (Str.ofString "name") _] _ _) _ _ _); refine s_set (i := 5) (N := nsTypesOf) scTypesOf.nd rfl (at_s (at_s (at_s (at_s (at_s at_z))))) ?_)
  | ((with_reducible show SW _ (Stmt.Assign [Expr.Name (Str.ofString "arity") _] _ _) _ _ _); refine s_set (i := 6) (N := nsTypesOf) scTypesOf.nd rfl (at_s (at_s (at_s (at_s (at_s (at_s at_z)))))) ?_)
  | ((with_reducible show SW _ (Stmt.Assign [Expr.Name (Str.ofString "left") _] _ _) _ _ _); refine s_set (i := 7) (N := nsTypesOf) scTypesOf.nd rfl (at_s (at_s (at_s (at_s (at_s (at_s (at_s at_z))))))) ?_)
  | ((with_reducible show SW _ (Stmt.Assign [Expr.Name (Str.ofString "pairs") _] _ _) _ _ _); refine s_set (i := 8) (N := nsTypesOf) scTypesOf.nd rfl (at_s (at_s (at_s (at_s (at_s (at_s (at_s (at_s at_z)))))))) ?_)
  | ((with_reducible show SW _ (Stmt.Assign [Expr.Name (Str.ofString "one") _] _ _) _ _ _); refine s_set (i := 9) (N := nsTypesOf) scTypesOf.nd rfl (at_s (at_s (at_s (at_s (at_s (at_s (at_s (at_s (at_s at_z))))))))) ?_)
  | ((with_reducible show SW _ (Stmt.Assign [Expr.Name (Str.ofString "two") _] _ _) _ _ _); refine s_set (i := 10) (N := nsTypesOf) scTypesOf.nd rfl (at_s (at_s (at_s (at_s (at_s (at_s (at_s (at_s (at_s (at_s at_z)))))))))) ?_)
  | ((with_reducible show SW _ (Stmt.Assign [Expr.Name (Str.ofString "part") _] _ _) _ _ _); refine s_set (i := 11) (N := nsTypesOf) scTypesOf.nd rfl (at_s (at_s (at_s (at_s (at_s (at_s (at_s (at_s (at_s (at_s (at_s at_z))))))))))) ?_))
local macro_rules | `(tactic| walk_at "tg") => `(tactic| first
  | ((with_reducible show GW _ (Expr.Name (Str.ofString "signature") _) _ _ _ _); refine g_nm (i := 0) (N := nsTypesOf) scTypesOf.nd rfl at_z ?_)
  | ((with_reducible show GW _ (Expr.Name (Str.ofString "size") _) _ _ _ _); refine g_nm (i := 1) (N := nsTypesOf) scTypesOf.nd rfl (at_s at_z) ?_)
  | ((with_reducible show GW _ (Expr.Name (Str.ofString "by_size") _) _ _ _ _); refine g_nm (i := 2) (N := nsTypesOf) scTypesOf.nd rfl (at_s (at_s at_z)) ?_)
  | ((with_reducible show GW _ (Expr.Name (Str.ofString "many") _) _ _ _ _); refine g_nm (i := 3) (N := nsTypesOf) scTypesOf.nd rfl (at_s (at_s (at_s at_z))) ?_)
  | ((with_reducible show GW _ (Expr.Name (Str.ofString "found") _) _ _ _ _); refine g_nm (i := 4) (N := nsTypesOf) scTypesOf.nd rfl (at_s (at_s (at_s (at_s at_z)))) ?_)
  | ((with_reducible show GW _ (Expr.Name (Str.ofString "name") _) _ _ _ _); refine g_nm (i := 5) (N := nsTypesOf) scTypesOf.nd rfl (at_s (at_s (at_s (at_s (at_s at_z))))) ?_)
  | ((with_reducible show GW _ (Expr.Name (Str.ofString "arity") _) _ _ _ _); refine g_nm (i := 6) (N := nsTypesOf) scTypesOf.nd rfl (at_s (at_s (at_s (at_s (at_s (at_s at_z)))))) ?_)
  | ((with_reducible show GW _ (Expr.Name (Str.ofString "left") _) _ _ _ _); refine g_nm (i := 7) (N := nsTypesOf) scTypesOf.nd rfl (at_s (at_s (at_s (at_s (at_s (at_s (at_s at_z))))))) ?_)
  | ((with_reducible show GW _ (Expr.Name (Str.ofString "pairs") _) _ _ _ _); refine g_nm (i := 8) (N := nsTypesOf) scTypesOf.nd rfl (at_s (at_s (at_s (at_s (at_s (at_s (at_s (at_s at_z)))))))) ?_)
  | ((with_reducible show GW _ (Expr.Name (Str.ofString "one") _) _ _ _ _); refine g_nm (i := 9) (N := nsTypesOf) scTypesOf.nd rfl (at_s (at_s (at_s (at_s (at_s (at_s (at_s (at_s (at_s at_z))))))))) ?_)
  | ((with_reducible show GW _ (Expr.Name (Str.ofString "two") _) _ _ _ _); refine g_nm (i := 10) (N := nsTypesOf) scTypesOf.nd rfl (at_s (at_s (at_s (at_s (at_s (at_s (at_s (at_s (at_s (at_s at_z)))))))))) ?_)
  | ((with_reducible show GW _ (Expr.Name (Str.ofString "part") _) _ _ _ _); refine g_nm (i := 11) (N := nsTypesOf) scTypesOf.nd rfl (at_s (at_s (at_s (at_s (at_s (at_s (at_s (at_s (at_s (at_s (at_s at_z))))))))))) ?_))
def spTypesOf (K : PySem.W.Frag) (C cS cN : Addr) : Sp := fun vs H Q E => ∃ s v, vs = [s, v] ∧ ((∃ a rows d, s = .ref a ∧ SigAt C H a rows ∧ Dq K H v d ∧ (badSize d = true → ∀ dd H', Same H H' → H dd = none → H' dd = some (.xd [("value", v)]) → E (.ref cN) (some dd) H') ∧
    ∀ n : Nat, d = .int n → 1 ≤ n → n < 1000 ∧ SzOk rows n ∧ ∀ G p xs H', Same H G → New G p (.lst xs) H' → DqAll K G xs ((tySizes rows n).getD n []) → Q (.ref p) H') ∨
  ∃ d, Dq K H s d ∧ ∀ dd H', New H dd (.xd [("value", s)]) H' → E (.ref cS) (some dd) H')
theorem bTypesOf (S : SigC K C) (SS : Sys base) (DC : DefZ P w K mg base "check_signature" 2 ["value"] (spCheckSig K C cS)) (DW : DefZ P w K mg base "is_whole" 1 ["value"] (spTest K dWhole fun _ => True)) (TN : ExK P K mg "InvalidNumber" "value" qN cN fN)
    (MR : MethZ P w K mg base C "rows" 1 ["self"] (spRows C)) (mr : mg "range" = none) (ms : mg "sorted" = none) (ml : mg "list" = none) : BodyZ P w K mg base nsTypesOf "types_of" sTypesOf f 2 (spTypesOf K C cS cN) := by
  intro X cd A outer s H vs Q E hX hr tk hs
  subst hX
  have hu := hr.r.units
  obtain ⟨sv, v, rfl, hs⟩ := hs
  walk_at "z1"
  refine s_expr (e_call DC hr tk ?_)
  walk_at "z"
  rcases hs with ⟨a, rows, d, rfl, hsig, hd, hE, hQ⟩ | ⟨d, hd, hE⟩
  rotate_left
  · exact ⟨_, rfl, .inr ⟨d, hd, hE⟩⟩
  refine ⟨_, rfl, .inl ⟨a, rows, rfl, hsig, ?_⟩⟩
  walk_at "st"
  refine s_if (t_w (w_or (t_not (t_val (e_call (DW.mono (by omega)) hr tk ?_)))))
  walk_at "z"
  refine ⟨v, d, rfl, hd, trivial, fun H1 S1 => ⟨_, rfl, ?_⟩⟩
  have bad : ∀ H1, Same H H1 → badSize d = true → ∀ dd, H1 dd = none → E (.ref cN) (some dd) (upd H1 dd (.xd [("value", v)])) := fun H1 s1 e dd nd => hE e dd _ (s1.trans (same_upd nd)) (s1.free nd) upd_same
  cases hw : dWhole d with
  | false =>
    refine (if_pos rfl).mpr ?_
    refine (if_pos rfl).mpr ?_
    walk_at "st"
    refine s_raise1 TN hr.r tk ?_
    walk_at "z1"
    exact bad _ S1 (by cases d <;> first | rfl | cases hw)
  | true =>
    obtain ⟨n, rfl⟩ : ∃ n, d = .int n := by cases d <;> first | exact ⟨_, rfl⟩ | cases hw
    cases hd
    refine (if_neg (by simp)).mpr ?_
    refine w_or1 (t_cmp op_lt ?_)
    walk_at "z"
    refine ⟨_, rfl, ?_⟩
    by_cases hn : n < 1
    · refine (if_pos (by simpa using hn)).mpr ?_
      walk_at "st"
      refine s_raise1 TN hr.r tk ?_
      walk_at "z1"
      exact bad _ S1 (by simpa [badSize] using hn)
    · refine (if_neg (by simpa using hn)).mpr ?_
      obtain ⟨k, rfl⟩ : ∃ k : Nat, n = (k : Int) := ⟨n.toNat, by omega⟩
      obtain ⟨hk, hsz, hQ⟩ := hQ k rfl (by omega)
      walk_at "z"
      refine ⟨szL, fun p0 H2 n2 => ?_⟩
      walk_at "z"
      refine ⟨szL, fun B H3 n3 => ?_⟩
      walk_at "st"
      refine s_for (i_range2 mr ?_)
      walk_at "z"
      have e0 : ((k : Int) + 1 - 1).toNat = k := by omega
      have B2 : H2 B = none := n3.free
      refine ⟨1, (k : Int) + 1, rfl, ⟨by omega, by omega, by omega, by omega⟩, ?_⟩
      refine ⟨fun i σ' H' => ∃ o3 o4 o5 o6 o7 o8 o9 o10 o11 G' ls, σ' = [some (.ref a), some (.int k), some (.ref B), o3, o4, o5, o6, o7, o8, o9, o10, o11] ∧ Gr H2 H2 G' H' ∧ G' B = none ∧ H' B = some (.lst (ls.map V.ref)) ∧ AllT K G' ls (tySizes rows i), ?_, fun _ _ _ _ _ => trivial, ?_, ?_⟩
      · exact ⟨_, _, _, _, _, _, _, _, _, H2, [p0], rfl, .of (Same.refl _) n3.same, B2, n3.here, .cons ⟨[], n2.here, .nil⟩ .nil⟩
      · rintro i σ' H' x H2' hi ⟨o3, o4, o5, o6, o7, o8, o9, o10, o11, G', ls, rfl, g, gB, hB, hT⟩ ⟨rfl, rfl⟩
        rw [e0] at hi
        walk_at "tg"
        walk_at "st"
        walk_at "z1"
        walk_at "z1"
        walk_at "z"
        refine ⟨szL, fun F H4 n4 => ?_⟩
        walk_at "st"
        have S4 : Same H H4 := ((S1.trans n2.same).trans g.hh).trans n4.same
        refine s_for (i_list (e_meth0 (MR.mono (by omega)) hr tk ?_))
        walk_at "z"
        have hsig4 := hsig.keep S4
        obtain ⟨dx, q1, q2, q3, h1, h2, h3, h4⟩ := id hsig4
        refine ⟨a, dx, _, rfl, h1, rfl, a, rows, rfl, hsig4, fun R as H5 n5 hR => ?_⟩
        refine ⟨R, _, rfl, .inl (.inl n5.here), ?_⟩
        have g5 : Gr G' H2' (upd G' R (.lst (as.map V.ref))) H5 := (Gr.of g.gh n4.same).trans (.new (g.gh.trans n4.same) n5)
        have F' : H2' F = none := n4.free
        have GF : G' F = none := g.gh.free F'
        have FR : F ≠ R := fun z => by have := n5.free; rw [← z, n4.here] at this; cases this
        refine ⟨fun j σ'' H'' => ∃ o5 o6 o7 o8 o9 o10 o11 G'' fs, σ'' = [some (.ref a), some (.int k), some (.ref B), some (.int (1 + i)), some (.ref F), o5, o6, o7, o8, o9, o10, o11] ∧ Gr G' H2' G'' H'' ∧ G'' F = none ∧ H'' F = some (.lst fs) ∧ DqAll K G'' fs (foundAt (rows.take j) (tySizes rows i) (i + 1)) ∧ G'' R = some (.lst (as.map V.ref)) ∧ But F H4 H'', ?_, ?_, ?_, ?_⟩
        · exact ⟨_, _, _, _, _, _, _, _, [], rfl, g5, by rw [upd_ne FR]; exact GF, n5.same _ _ n4.here, by show DqAll K _ [] (foundAt (rows.take 0) _ _); rw [List.take_zero]; exact .nil, upd_same, But.refl.same n5.same⟩
        · rintro j σ'' H'' _ ⟨_, _, _, _, _, _, _, G'', fs, rfl, g2, _, _, _, hR, _⟩
          exact .inl (.inl (g2.gh _ _ hR))
        · rintro j σ'' H'' x H2'' hj ⟨o5, o6, o7, o8, o9, o10, o11, G'', fs, rfl, g2, gF, hF, hds, hR', bt⟩ ⟨rfl, ex⟩
          obtain ⟨b, eb, rfl⟩ : ∃ b, as[j]? = some b ∧ x = .ref b := by
            rw [List.getElem?_map] at ex
            cases q : as[j]? with
            | none => rw [q] at ex; cases ex
            | some b => rw [q] at ex; cases ex; exact ⟨b, rfl, rfl⟩
          obtain ⟨r, er, hb⟩ := Paired.at hR eb
          have hb2 : H2'' b = some (.tup [.str r.1, .int r.2]) := bt b _ (fun z => by rw [z, n4.here] at hb; cases hb) hb
          have ft : foundAt (rows.take (j + 1)) (tySizes rows i) (i + 1) = foundAt (rows.take j) (tySizes rows i) (i + 1) ++ ofRow (tySizes rows i) (i + 1) r := by
            rw [List.take_add_one, er]
            simp [foundAt]
          have hlen2 : (foundAt (rows.take (j + 1)) (tySizes rows i) (i + 1)).length < sizeLine := by
            refine Nat.lt_of_le_of_lt ?_ (hsz i hi).1
            have e : rows = rows.take (j + 1) ++ rows.drop (j + 1) := (List.take_append_drop _ _).symm
            have : (foundAt rows (tySizes rows i) (i + 1)).length = (foundAt (rows.take (j + 1)) (tySizes rows i) (i + 1)).length + (foundAt (rows.drop (j + 1)) (tySizes rows i) (i + 1)).length := by
              rw [foundAt, foundAt, foundAt, ← List.length_append, ← List.flatMap_append, List.take_append_drop]
            omega
          rw [ft, List.length_append] at hlen2
          have hfl := DqAll.length hds
          obtain ⟨gB2, hB2⟩ := g2.off gB hB
          -- the round's end
          have done : ∀ o5 o6 o7 o8 o9 o10 o11 G3 H3' fs', Gr G'' H2'' G3 H3' → G3 F = none → DqAll K G3 fs' (ofRow (tySizes rows i) (i + 1) r) → ∃ p5 p6 p7 p8 p9 p10 p11 G4 fs4, [some (.ref a), some (.int k), some (.ref B), some (.int (1 + i)), some (.ref F), o5, o6, o7, o8, o9, o10, o11] = [some (.ref a), some (.int k), some (.ref B), some (V.int (1 + i)), some (.ref F), p5, p6, p7, p8, p9, p10, p11] ∧ Gr G' H2' G4 (upd H3' F (.lst (fs ++ fs'))) ∧ G4 F = none ∧ (upd H3' F (.lst (fs ++ fs'))) F = some (.lst fs4) ∧ DqAll K G4 fs4 (foundAt (rows.take (j + 1)) (tySizes rows i) (i + 1)) ∧ G4 R = some (.lst (as.map V.ref)) ∧ But F H4 (upd H3' F (.lst (fs ++ fs'))) := by
            intro o5 o6 o7 o8 o9 o10 o11 G3 H3' fs' g3 g3F hds'
            refine ⟨_, _, _, _, _, _, _, G3, fs ++ fs', rfl, (g2.trans g3).write F' g3F, g3F, upd_same, ?_, g3.gg _ _ hR', (bt.same g3.hh).upd⟩
            rw [ft]
            exact DqAll.append (Dq.keepAll g3.gg _ _ hds) hds'
          have done0 : ∀ o5 o6 o7 o8 o9 o10 o11, ofRow (tySizes rows i) (i + 1) r = [] → ∃ p5 p6 p7 p8 p9 p10 p11 G4 fs4, [some (.ref a), some (.int k), some (.ref B), some (.int (1 + i)), some (.ref F), o5, o6, o7, o8, o9, o10, o11] = [some (.ref a), some (.int k), some (.ref B), some (V.int (1 + i)), some (.ref F), p5, p6, p7, p8, p9, p10, p11] ∧ Gr G' H2' G4 H2'' ∧ G4 F = none ∧ H2'' F = some (.lst fs4) ∧ DqAll K G4 fs4 (foundAt (rows.take (j + 1)) (tySizes rows i) (i + 1)) ∧ G4 R = some (.lst (as.map V.ref)) ∧ But F H4 H2'' := by
            intro o5 o6 o7 o8 o9 o10 o11 e
            rw [ft, e, List.append_nil]
            exact ⟨_, _, _, _, _, _, _, G'', fs, rfl, g2, gF, hF, hds, hR', bt⟩
          refine g_tup rfl ⟨b, [.str r.1, .int r.2], rfl, .inl (.inl hb2), rfl, ?_⟩
          refine gs_cons ?_
          walk_at "tg"
          refine gs_cons ?_
          walk_at "tg"
          refine gs_nil ?_
          walk_at "st"
          refine s_if (t_w (w_and (t_cmp op_eq ?_)))
          walk_at "z"
          refine ⟨rfl, _, rfl, ?_⟩
          by_cases h0 : r.2 = 0
          · refine (if_pos (by simp [h0])).mpr ?_
            refine w_and1 (t_cmp op_eq ?_)
            walk_at "z"
            refine ⟨rfl, _, rfl, ?_⟩
            by_cases h1 : i = 0
            · refine (if_pos (by simp [h1])).mpr ?_
              walk_at "st"
              walk_at "z1"
              refine e_bm PySem.F.plainAttrs_list PySem.F.slot_list_append PySem.F.type_list_append mt_append ?_
              walk_at "z1"
              refine ⟨.inl ⟨rfl, _, .inl (.inl hF)⟩, ?_⟩
              walk_at "z"
              refine ⟨szL, fun T H6 n6 => ?_⟩
              walk_at "z1"
              refine ⟨F, fs, .ref T, rfl, rfl, n6.same _ _ hF, by omega, ?_⟩
              walk_at "z"
              refine t_cmp op_eq ?_
              walk_at "z"
              refine ⟨rfl, _, rfl, ?_⟩
              refine (if_neg (by simp [h0])).mpr ?_
              walk_at "z"
              refine t_cmp op_eq ?_
              walk_at "z"
              refine ⟨rfl, _, rfl, ?_⟩
              refine (if_neg (by simp [h0])).mpr ?_
              walk_at "z"
              refine done _ _ _ _ _ _ _ (upd G'' T (.tup [.str r.1])) _ [.ref T] (.new g2.gh n6) ?_ ?_
              · rw [upd_ne (fun z => by have := n6.free; rw [← z, hF] at this; cases this)]
                exact gF
              · unfold ofRow
                rw [if_pos h0, if_pos (by omega)]
                exact .cons (.tup (.inl (.inl upd_same)) (.cons (.str _) .nil)) .nil
            · refine (if_neg (by simp; omega)).mpr ?_
              walk_at "z"
              refine t_cmp op_eq ?_
              walk_at "z"
              refine ⟨rfl, _, rfl, ?_⟩
              refine (if_neg (by simp [h0])).mpr ?_
              walk_at "z"
              refine t_cmp op_eq ?_
              walk_at "z"
              refine ⟨rfl, _, rfl, ?_⟩
              refine (if_neg (by simp [h0])).mpr ?_
              walk_at "z"
              exact done0 _ _ _ _ _ _ _ (by unfold ofRow; rw [if_pos h0, if_neg (by omega)])
          · refine (if_neg (by simp [h0])).mpr ?_
            refine (if_neg (by simp)).mpr ?_
            walk_at "z"
            refine t_cmp op_eq ?_
            walk_at "z"
            refine ⟨rfl, _, rfl, ?_⟩
            have hT2 : AllT K G'' ls (tySizes rows i) := hT.keep g2.gg
            by_cases h1 : r.2 = 1
            · refine (if_pos (by simp [h1])).mpr ?_
              rw [ofRow1 h1, List.length_map] at hlen2
              obtain ⟨l, xs, e1, e2, hq⟩ := hT2.at (i := i) (by rw [tySizes_len]; omega)
              have hxl := DqAll.length hq
              walk_at "st"
              walk_at "z1"
              refine e_bm PySem.F.plainAttrs_list PySem.F.slot_list_extend PySem.F.type_list_extend mt_extend ?_
              walk_at "z1"
              refine ⟨.inl ⟨rfl, _, .inl (.inl hF)⟩, ?_⟩
              walk_at "z1"
              refine e_lcN (own := [("part", 11)]) scTypesOf.nd (show blkC nsTypesOf (defScope sTypesOf) _ _ = true by decide +kernel) (i_list ?_)
              refine e_ix ix_list ?_
              walk_at "z"
              refine ⟨B, _, (1 + (i : Int) - 1), .ref l, rfl, rfl, .inl (.inl hB2), by rw [show (1 + (i : Int) - 1) = (i : Int) by omega, atI_nat]; simp [e1], ?_⟩
              refine ⟨l, xs, rfl, .inl (.inl (g2.gh _ _ e2)), G'', fun j acc G => DqAll K G acc (((tySizes rows i).getD i []).take j |>.map fun p => .tuple [.str r.1, p]), g2.gh, by omega, .nil, fun i acc G3 H3 _ g3 _ => .inl (.inl (g3.hh _ _ (g2.gh _ _ e2))), ?_, ?_⟩
              · rintro u acc G3 H3 x H4' hu' hl g3 pv ⟨rfl, ex⟩ X' ⟨s', Hs, Cc, cl, fp, rfl⟩
                walk_at "tg"
                refine ⟨rfl, ?_⟩
                rintro X' ⟨s', Hs, Cc, cl, fp, rfl⟩
                refine ifs0 ?_
                rintro X' ⟨s', Hs, Cc, cl, fp, rfl⟩
                walk_at "z"
                refine ⟨szL, fun T H6 n6 => ⟨_, .new g3.gh n6, ?_⟩⟩
                obtain ⟨dx, edx, hdx⟩ := DqAll.get hq ex
                have S6 : Same G3 (upd G3 T (.tup [.str r.1, x])) := same_upd (g3.gh.free n6.free)
                rw [take_snoc edx, List.map_append]
                exact DqAll.snoc (Dq.keepAll S6 _ _ pv) (.tup (.inl (.inl upd_same)) (.cons (.str _) (.cons (Dq.keep (g3.gg.trans S6) _ _ hdx) .nil)))
              · intro L acc G2 G3 H3 hl g' g3 pv sG hL hG
                walk_at "z1"
                refine ⟨F, L, fs, acc, rfl, rfl, g3.hh _ _ hF, g3.gh _ _ hG, by omega, ?_⟩
                walk_at "z"
                refine t_cmp op_eq ?_
                walk_at "z"
                refine ⟨rfl, _, rfl, ?_⟩
                refine (if_neg (by simp [h1])).mpr ?_
                walk_at "z"
                refine done _ _ _ _ _ _ _ G3 H3 acc g3 (g3.off gF hF).1 ?_
                rw [ofRow1 h1]
                have := Dq.keepAll sG _ _ pv
                rw [List.take_of_length_le (by omega)] at this
                exact this
            · refine (if_neg (by simp [h1])).mpr ?_
              walk_at "z"
              refine t_cmp op_eq ?_
              walk_at "z"
              refine ⟨rfl, _, rfl, ?_⟩
              by_cases h2 : r.2 = 2
              · refine (if_pos (by simp [h2])).mpr ?_
                rw [ofRow2 h2] at hlen2
                walk_at "st"
                refine s_for (i_range2 mr ?_)
                walk_at "z"
                have e1 : (1 + (i : Int) - 1 - 1).toNat = i - 1 := by omega
                refine ⟨1, 1 + (i : Int) - 1, rfl, ⟨by omega, by omega, by omega, by omega⟩, ?_⟩
                refine ⟨fun l σ3 H3 => ∃ o7 o8 o9 o10 o11 G3 fs3, σ3 = [some (.ref a), some (.int k), some (.ref B), some (.int (1 + i)), some (.ref F), some (.str r.1), some (.int r.2), o7, o8, o9, o10, o11] ∧ Gr G' H2' G3 H3 ∧ Same G'' G3 ∧ G3 F = none ∧ H3 F = some (.lst fs3) ∧ DqAll K G3 fs3 (foundAt (rows.take j) (tySizes rows i) (i + 1) ++ (List.range l).flatMap (leftOf (tySizes rows i) i r.1)) ∧ But F H4 H3, ?_, fun _ _ _ _ _ => trivial, ?_, ?_⟩
                · exact ⟨_, _, _, _, _, G'', fs, rfl, g2, Same.refl _, gF, hF, by rw [List.range_zero, List.flatMap_nil, List.append_nil]; exact hds, bt⟩
                · rintro l σ3 H3 x H3' hl ⟨o7, o8, o9, o10, o11, G3, fs3, rfl, g3, s3, g3F, h3F, hds3, bt3⟩ ⟨rfl, rfl⟩
                  rw [e1] at hl
                  obtain ⟨gB3, hB3⟩ := g3.off gB hB
                  have hT3 := hT2.keep s3
                  have hrp := range_part (g := leftOf (tySizes rows i) i r.1) hl
                  obtain ⟨l1, xs1, f1, f2, hq1⟩ := hT3.at (i := l + 1) (by rw [tySizes_len]; omega)
                  obtain ⟨l2, xs2, k1, k2, hq2⟩ := hT3.at (i := i - 1 - l) (by rw [tySizes_len]; omega)
                  have elf : leftOf (tySizes rows i) i r.1 l = (pairsOf ((tySizes rows i).getD (l + 1) []) ((tySizes rows i).getD (i - 1 - l) [])).map (tup3 r.1) := rfl
                  have h3l := DqAll.length hds3
                  rw [List.length_append] at h3l
                  rw [elf, List.length_map] at hrp
                  generalize (tySizes rows i).getD (l + 1) [] = ds1 at hq1 elf hrp
                  generalize (tySizes rows i).getD (i - 1 - l) [] = ds2 at hq2 elf hrp
                  have hx1 := DqAll.length hq1
                  have hx2 := DqAll.length hq2
                  walk_at "tg"
                  walk_at "st"
                  refine s_lc2N (i := 8) (own := [("one", 9), ("two", 10)]) (vs1 := [10]) scTypesOf.nd rfl (at_s (at_s (at_s (at_s (at_s (at_s (at_s (at_s at_z)))))))) (show blkC nsTypesOf (defScope sTypesOf) _ _ = true by decide +kernel) (by decide) (i_list ?_)
                  refine e_ix ix_list ?_
                  walk_at "z"
                  refine ⟨B, _, (1 + (l : Int)), .ref l1, rfl, rfl, .inl (.inl hB3), by rw [show (1 + (l : Int)) = ((l + 1 : Nat) : Int) by omega, atI_nat]; simp [f1], ?_⟩
                  refine ⟨l1, xs1, rfl, .inl (.inl (g3.gh _ _ f2)), G3, fun u acc G => DqAll K G acc ((pairsOf (ds1.take u) ds2).map tup2), g3.gh, .nil, fun _ _ G4 H5 _ g4 _ => .inl (.inl (g4.hh _ _ (g3.gh _ _ f2))), ?_, ?_⟩
                  · rintro u acc G4 H5 x H5' hu' g4 pv ⟨rfl, ex⟩ X' ⟨s', Hs, Cc, cl, fp, rfl⟩
                    obtain ⟨d1, ed1, hd1⟩ := DqAll.get hq1 ex
                    walk_at "tg"
                    refine ⟨rfl, ?_⟩
                    rintro X' ⟨s', Hs, Cc, cl, fp, rfl⟩
                    refine ifs0 ?_
                    rintro X' ⟨s', Hs, Cc, cl, fp, rfl⟩
                    refine i_list ?_
                    refine e_ix ix_list ?_
                    walk_at "z"
                    refine ⟨B, _, (1 + (i : Int) - 1 - (1 + (l : Int))), .ref l2, rfl, rfl, .inl (.inl (g4.hh _ _ hB3)), by rw [show (1 + (i : Int) - 1 - (1 + (l : Int))) = ((i - 1 - l : Nat) : Int) by omega, atI_nat]; simp [k1], ?_⟩
                    refine ⟨l2, xs2, rfl, .inl (.inl (g4.hh _ _ (g3.gh _ _ k2))), fun v acc G => DqAll K G acc ((pairsOf (ds1.take u) ds2 ++ (ds2.take v).map fun b => (d1, b)).map tup2), ⟨G4, .refl g4.gh, by simpa using pv⟩, fun _ _ G6 H6 _ g6 _ => .inl (.inl (g6.hh _ _ (g3.gh _ _ k2))), ?_, ?_⟩
                    · rintro v ac G6 H6 y H7 hv g6 pv6 ⟨rfl, ey⟩ X' ⟨s', Hs, Cc, cl, fp, rfl⟩
                      obtain ⟨d2, ed2, hd2⟩ := DqAll.get hq2 ey
                      walk_at "tg"
                      refine ⟨rfl, ?_⟩
                      rintro X' ⟨s', Hs, Cc, cl, fp, rfl⟩
                      refine ifs0 ?_
                      rintro X' ⟨s', Hs, Cc, cl, fp, rfl⟩
                      walk_at "z"
                      have hpl := pairs_lt (bs := ds2) (j := v) ed1 (by omega)
                      have hal := DqAll.length pv6
                      rw [List.length_map] at hal
                      refine ⟨szL, fun T H8 n8 => ⟨by omega, _, .new g6.gh n8, ?_⟩⟩
                      have S6 : Same G6 (upd G6 T (.tup [x, y])) := same_upd (g6.gh.free n8.free)
                      show DqAll K _ _ _
                      rw [take_snoc ed2, List.map_append, List.map_append, List.map_append, ← List.append_assoc, ← List.map_append]
                      exact DqAll.snoc (Dq.keepAll S6 _ _ pv6) (.tup (.inl (.inl upd_same)) (.cons (Dq.keep (g6.gg.trans S6) _ _ hd1) (.cons (Dq.keep (g6.gg.trans S6) _ _ hd2) .nil)))
                    · intro ac G6 H6 g6 pv6
                      have e2 : ds2.take xs2.length = ds2 := List.take_of_length_le (by omega)
                      rw [e2] at pv6
                      show DqAll K _ _ _
                      rw [pairs_snoc ed1]
                      exact pv6
                  · intro L acc G4 G5 H5 g' g5 pv sG hL hG
                    rw [List.take_of_length_le (by omega)] at pv
                    have hqP := Dq.keepAll sG _ _ pv
                    have hPl := DqAll.length hqP
                    rw [List.length_map] at hPl
                    obtain ⟨g5F, h5F⟩ := g5.off g3F h3F
                    walk_at "st"
                    walk_at "z1"
                    refine e_bm PySem.F.plainAttrs_list PySem.F.slot_list_extend PySem.F.type_list_extend mt_extend ?_
                    walk_at "z1"
                    refine ⟨.inl ⟨rfl, _, .inl (.inl h5F)⟩, ?_⟩
                    walk_at "z1"
                    refine e_lcN (own := [("one", 9), ("two", 10)]) scTypesOf.nd (show blkC nsTypesOf (defScope sTypesOf) _ _ = true by decide +kernel) (i_list ?_)
                    walk_at "z1"
                    refine ⟨L, acc, rfl, .inl (.inl (g5.gh _ _ hG)), G5, fun v ac G => DqAll K G ac (((pairsOf ds1 ds2).take v).map (tup3 r.1)), g5.gh, by omega, .nil, fun _ _ G6 H6 _ g6 _ => .inl (.inl (g6.hh _ _ (g5.gh _ _ hG))), ?_, ?_⟩
                    · rintro v ac G6 H6 x H7 hv hl' g6 pv6 ⟨rfl, ex⟩ X' ⟨s', Hs, Cc, cl, fp, rfl⟩
                      obtain ⟨dp, edp, hdp⟩ := DqAll.get hqP ex
                      obtain ⟨p, ep, rfl⟩ : ∃ p, (pairsOf ds1 ds2)[v]? = some p ∧ tup2 p = dp := by
                        rw [List.getElem?_map] at edp
                        cases q : (pairsOf ds1 ds2)[v]? with
                        | none => rw [q] at edp; cases edp
                        | some p => rw [q] at edp; cases edp; exact ⟨p, rfl, rfl⟩
                      obtain ⟨bb, y1, y2, rfl, sq, hy1, hy2⟩ := Dq.pair hdp
                      refine g_tup rfl ⟨bb, [y1, y2], rfl, sq.imp (fun z => z.imp (fun z => g6.gh _ _ (g6.gg _ _ z)) fun ⟨o, z⟩ => ⟨o, g6.gh _ _ (g6.gg _ _ z)⟩) id, rfl, ?_⟩
                      refine gs_cons ?_
                      walk_at "tg"
                      refine gs_cons ?_
                      walk_at "tg"
                      refine gs_nil ?_
                      refine ⟨rfl, ?_⟩
                      rintro X' ⟨s', Hs, Cc, cl, fp, rfl⟩
                      refine ifs0 ?_
                      rintro X' ⟨s', Hs, Cc, cl, fp, rfl⟩
                      walk_at "z"
                      refine ⟨szL, fun T H8 n8 => ⟨_, .new g6.gh n8, ?_⟩⟩
                      have S6 : Same G6 (upd G6 T (.tup [.str r.1, y1, y2])) := same_upd (g6.gh.free n8.free)
                      show DqAll K _ _ _
                      rw [take_snoc ep, List.map_append]
                      exact DqAll.snoc (Dq.keepAll S6 _ _ pv6) (.tup (.inl (.inl upd_same)) (.cons (.str _) (.cons (Dq.keep (g6.gg.trans S6) _ _ hy1) (.cons (Dq.keep (g6.gg.trans S6) _ _ hy2) .nil))))
                    · intro L2 ac G7 G8 H8 hl' g7 g8 pv8 sG8 hL2 hG8
                      rw [List.take_of_length_le (by omega)] at pv8
                      have hq8 := Dq.keepAll sG8 _ _ pv8
                      have hal := DqAll.length hq8
                      rw [List.length_map] at hal
                      obtain ⟨g8F, h8F⟩ := g8.off g5F h5F
                      walk_at "z1"
                      refine ⟨F, L2, fs3, ac, rfl, rfl, h8F, g8.gh _ _ hG8, by omega, ?_⟩
                      walk_at "z"
                      refine ⟨_, _, _, _, _, G8, fs3 ++ ac, rfl, ((g3.trans g5).trans g8).write F' g8F, s3.trans (g5.gg.trans g8.gg), g8F, upd_same, ?_, (bt3.same (g5.hh.trans g8.hh)).upd⟩
                      rw [List.range_succ, List.flatMap_append, List.flatMap_cons, List.flatMap_nil, List.append_nil, ← List.append_assoc, elf]
                      exact DqAll.append (Dq.keepAll (g5.gg.trans g8.gg) _ _ hds3) hq8
                · rintro σ3 H3 ⟨o7, o8, o9, o10, o11, G3, fs3, rfl, g3, s3, g3F, h3F, hds3, bt3⟩
                  rw [e1] at hds3
                  walk_at "z"
                  exact ⟨_, _, _, _, _, _, _, G3, fs3, rfl, g3, g3F, h3F, by rw [ft, ofRow2 h2]; exact hds3, s3 _ _ hR', bt3⟩
              · refine (if_neg (by simp [h2])).mpr ?_
                walk_at "z"
                exact done0 _ _ _ _ _ _ _ (by unfold ofRow; rw [if_neg h0, if_neg h1, if_neg h2])
        · rintro σ'' H'' ⟨o5, o6, o7, o8, o9, o10, o11, G'', fs, rfl, g2, gF, hF, hds, hR', bt⟩
          walk_at "st"
          walk_at "z1"
          refine e_bm PySem.F.plainAttrs_list PySem.F.slot_list_append PySem.F.type_list_append mt_append ?_
          walk_at "z1"
          have hlr : as.length = rows.length := Paired.length hR
          have tk_ : rows.take (List.map V.ref as).length = rows := List.take_of_length_le (by rw [List.length_map, hlr]; exact Nat.le_refl _)
          rw [tk_] at hds
          obtain ⟨gB2, hB2⟩ := g2.off gB hB
          obtain ⟨al, so⟩ := found_sortable rows i
          refine ⟨.inl ⟨rfl, _, .inl (.inl hB2)⟩, ?_⟩
          walk_at "z1"
          refine e_callB (call_sortedD SS hu) ms (by decide +kernel) ?_
          walk_at "z"
          refine ⟨F, fs, _, Dq K G'', rfl, .inl (.inl hF), Paired.of_dq hds, fun v d h => Dq.keep g2.gh _ _ h, al, so, (hsz i hi).2, fun p ys H6 n6 hp => ?_⟩
          walk_at "z"
          have pB : p ≠ B := fun z => by have := n6.free; rw [z, hB2] at this; cases this
          have g6 : Gr G'' H'' (upd G'' p (.lst ys)) H6 := .new g2.gh n6
          have hlen : ls.length = i + 1 := (Paired.length hT).trans (tySizes_len rows i)
          refine ⟨B, ls.map V.ref, .ref p, rfl, rfl, n6.same _ _ hB2, small1000 (by rw [List.length_map]; omega), ?_⟩
          walk_at "st"
          walk_at "z1"
          have gB6 : (upd G'' p (.lst ys)) B = none := by rw [upd_ne (Ne.symm pB)]; exact gB2
          refine ⟨_, _, _, _, _, _, _, _, _, upd G'' p (.lst ys), ls ++ [p], rfl, ((g.trans g2).trans g6).write B2 gB6, gB6, by rw [List.map_append]; exact upd_same, ?_⟩
          rw [tySizes]
          exact Paired.snoc (hT.keep (g2.gg.trans g6.gg)) ⟨ys, upd_same, Dq.keepAll g6.gg _ _ (Paired.dq hp)⟩
      · rintro σ' H' ⟨o3, o4, o5, o6, o7, o8, o9, o10, o11, G', ls, rfl, g, gB, hB, hT⟩
        rw [e0] at hT
        walk_at "z"
        refine e_callT call_list_of ml (by decide +kernel) ?_
        walk_at "z1"
        refine e_ix ix_list ?_
        walk_at "z"
        obtain ⟨l, xs, e1, e2, hq⟩ := hT.at (i := k) (by rw [tySizes_len]; omega)
        refine ⟨B, _, k, .ref l, rfl, rfl, .inl (.inl hB), by rw [atI_nat]; simp [e1], ?_⟩
        walk_at "z"
        refine ⟨l, xs, rfl, .inl (.inl (.inl (g.gh _ _ e2))), fun q nq => ?_⟩
        exact hQ G' q xs _ ((S1.trans n2.same).trans g.gg) ⟨g.gh.trans (same_upd nq), g.gh.free nq, upd_same⟩ hq
end
end L2.Z.Law

set_option maxHeartbeats 1000000
namespace L2.Z.Law
open PySem PySem.Spec PyProof.Rows PySem.ZX
local macro_rules | `(tactic| walk_at "zi") => `(tactic| refine ⟨_, _, rfl, rfl, ?_⟩)
local macro_rules | `(tactic| walk_at "zmod") => `(tactic| refine ⟨_, _, rfl, rfl, (show (0 : Int) < _ by first | decide | omega), ?_⟩)
local macro_rules | `(tactic| walk_at "zdiv") => `(tactic| refine ⟨_, _, rfl, rfl, ⟨(show (0 : Int) < _ by first | decide | omega), ?_⟩, ?_⟩)
local macro_rules | `(tactic| walk_at "z1") => `(tactic| first
  | ((with_reducible show EW _ (Expr.Name _ _) _ _ _); walk_at "nm")
  | ((with_reducible show EW _ (Expr.Constant _ _ _) _ _ _); first | with_reducible refine e_int ?_ | with_reducible refine e_str ?_ | with_reducible refine e_bl ?_ | with_reducible refine e_non ?_)
  | ((with_reducible show EW _ (Expr.BinOp _ Operator.Add _ _) _ _ _); refine e_op z_add ?_)
  | ((with_reducible show EW _ (Expr.BinOp _ Operator.Sub _ _) _ _ _); refine e_op op_sub ?_)
  | ((with_reducible show EW _ (Expr.BinOp _ Operator.Mult _ _) _ _ _); refine e_op z_mul ?_)
  | ((with_reducible show EW _ (Expr.BinOp _ Operator.Mod _ _) _ _ _); refine e_op op_mod ?_)
  | ((with_reducible show EW _ (Expr.BinOp _ Operator.FloorDiv _ _) _ _ _); refine e_op op_fdivW ?_)
  | ((with_reducible show EW _ (Expr.BinOp _ Operator.Pow _ _) _ _ _); refine e_op op_pow ?_)
  | ((with_reducible show EW _ (Expr.List _ _) _ _ _); refine e_lstN ?_)
  | ((with_reducible show EW _ (Expr.Tuple _ _ _) _ _ _); refine e_tupN ?_)
  | ((with_reducible show EW _ (Expr.Subscript _ (Expr.Slice _ _ _ _) _) _ _ _); refine e_sl sl_listN ?_)
  | ((with_reducible show EW _ (Expr.Dict [] [] _) _ _ _); refine e_dKN ?_)
  | ((with_reducible show EW _ (Expr.BoolOp BoolOp.And [_] _) _ _ _); refine e_one ?_)
  | ((with_reducible show EW _ (Expr.BoolOp BoolOp.Or [_] _) _ _ _); refine e_one ?_)
  | ((with_reducible show EW _ (Expr.BoolOp BoolOp.And _ _) _ _ _); refine e_and ?_)
  | ((with_reducible show EW _ (Expr.BoolOp BoolOp.Or _ _) _ _ _); refine e_or ?_)
  | ((with_reducible show EW _ (Expr.IfExp _ _ _ _) _ _ _); refine e_if ?_)
  | ((with_reducible show AW _ [] _ _ _); refine a_nil ?_)
  | ((with_reducible show AW _ (_ :: _) _ _ _); refine a_cons ?_)
  | ((with_reducible show OW _ none _ _ _); refine o_no ?_)
  | ((with_reducible show OW _ (some _) _ _ _); refine o_so ?_)
  | ((with_reducible show TW _ (Expr.UnaryOp UnaryOp.Not _ _) _ _ _); refine t_not ?_)
  | ((with_reducible show TW _ (Expr.BoolOp _ _ _) _ _ _); refine t_w ?_)
  | ((with_reducible show PWW _ (Expr.BoolOp BoolOp.And [_] _) _ _ _); refine w_and1 ?_)
  | ((with_reducible show PWW _ (Expr.BoolOp BoolOp.Or [_] _) _ _ _); refine w_or1 ?_)
  | ((with_reducible show PWW _ (Expr.BoolOp BoolOp.And _ _) _ _ _); refine w_and ?_)
  | ((with_reducible show PWW _ (Expr.BoolOp BoolOp.Or _ _) _ _ _); refine w_or ?_)
  | ((with_reducible show SW _ (Stmt.Return (some _) _) _ _ _); refine s_ret ?_)
  | ((with_reducible show SW _ (Stmt.If _ _ _ _) _ _ _); refine s_if ?_)
  | ((with_reducible show SW _ (Stmt.Expr _ _) _ _ _); refine s_expr ?_)
  | ((with_reducible show SW _ (Stmt.Assign [Expr.Name _ _] _ _) _ _ _); walk_at "set")
  | ((with_reducible show BW _ [_] _ _ _); (first | (with_reducible refine b_one ?_) | refine b_one ?_))
  | ((with_reducible show BW _ [] _ _ _); refine b_nil ?_)
  | ((with_reducible show BW _ _ _ _ _); (first | (with_reducible refine b_cons ?_) | refine b_cons ?_))
  | ((with_reducible show rAddZ _ _ _ _ _); refine Or.inl ⟨_, _, rfl, rfl, ?_⟩)
  | ((with_reducible show rI0 _ _ _ _ _); refine ⟨_, _, rfl, rfl, ?_⟩)
  | ((with_reducible show rI (fun _ j => 0 < j) _ _ _ _ _); refine ⟨_, _, rfl, rfl, (show (0 : Int) < _ by first | decide | omega), ?_⟩)
  | ((with_reducible show Ends.nx _ _ _); first | (with_reducible refine mk_nx ?_) | refine (show BW _ _ _ _ _ from ?_)))
local macro_rules | `(tactic| walk_at "z") => `(tactic| repeat walk_at "z1")
local macro_rules | `(tactic| walk_at "st") => `(tactic| repeat (first
  | ((with_reducible show Ends.nx _ _ _); first | (with_reducible refine mk_nx ?_) | refine (show BW _ _ _ _ _ from ?_))
  | ((with_reducible show BW _ _ _ _ _); (first | (with_reducible refine b_cons ?_) | refine b_cons ?_))))
/-- a row as data -/
abbrev rowD (r : Str × Int) : PyData := .tuple [.str r.1, .int r.2]
abbrev rowsD (rows : List (Str × Int)) : List PyData := rows.map rowD
abbrev StrOk (rows : List (Str × Int)) : Prop := rows.all (fun r => PyData.strOk r.1) = true
theorem lay_rows : ∀ rows : List (Str × Int), StrOk rows → PyData.canLayAll0 (rowsD rows) = true
  | [], _ => by simp [PyData.canLayAll0]
  | r :: rs, h => by
    rw [StrOk, List.all_cons, Bool.and_eq_true] at h
    have := lay_rows rs h.2
    simp only [rowsD, List.map_cons, PyData.canLayAll0, PyData.canLay0, Bool.and_eq_true] at this ⊢
    simpa [h.1] using this
theorem depth_rows : ∀ rows : List (Str × Int), PyData.depthAll (rowsD rows) ≤ 1
  | [] => by simp [PyData.depthAll]
  | r :: rs => by
    have := depth_rows rs
    simp only [rowsD, List.map_cons, PyData.depthAll, PyData.depth] at this ⊢
    omega
theorem shaped_rows (rows : List (Str × Int)) (h : StrOk rows) : SeqAt.shaped (.tuple (rowsD rows)) = true ∧ SeqAt.shaped (.list (rowsD rows)) = true := by
  have h1 := lay_rows rows h
  have h2 := depth_rows rows
  constructor
  · unfold SeqAt.shaped
    rw [PyData.canLay0, PyData.depth, h1, Bool.true_and]
    exact decide_eq_true (by omega)
  · unfold SeqAt.shaped
    rw [PyData.canLay0, PyData.depth, h1, Bool.true_and]
    exact decide_eq_true (by omega)
theorem eqv_rows : ∀ rows rows' : List (Str × Int), PyData.eqvAll (rowsD rows) (rowsD rows') = decide (rows = rows')
  | [], [] => by simp [PyData.eqvAll]
  | [], _ :: _ => by simp [PyData.eqvAll]
  | _ :: _, [] => by simp [PyData.eqvAll]
  | (a, i) :: rs, (b, j) :: ss => by
    have := eqv_rows rs ss
    simp only [rowsD, List.map_cons, PyData.eqvAll, PyData.eqv] at this ⊢
    rw [this]
    by_cases h1 : a = b <;> by_cases h2 : i = j <;> by_cases h3 : rs = ss <;> simp [h1, h2, h3]
section
variable {P : Program} {w : World} {K : PySem.W.Frag} {mg : Str → Option Value} {base : Heap} {f C : Addr}
theorem dq_rows {H : Hp} : ∀ {as : List Addr} {rows : List (Str × Int)}, Paired (fun (b : Addr) (r : Str × Int) => H b = some (.tup [.str r.1, .int r.2])) as rows → DqAll K H (as.map V.ref) (rowsD rows)
  | _, _, .nil => .nil
  | _, _, .cons h t => .cons (.tup (.inl (.inl h)) (.cons (.str _) (.cons (.int _) .nil))) (dq_rows t)
abbrev sSigEq : Stmt := clsDef (topS 14) 2
abbrev nsSigEq : List Str := ["self", "other"]
theorem scSigEq : FnScope nsSigEq ["self", "other"] (defScope sSigEq) := ⟨rfl, rfl, rfl, by decide +kernel, rfl, by decide +kernel, by decide +kernel⟩
local macro_rules | `(tactic| walk_at "nm") => `(tactic| first
  | ((with_reducible show EW _ (Expr.Name (Str.ofString "self") _) _ _ _); refine e_nm (i := 0) (N := nsSigEq) rfl at_z rfl ?_)
  | ((with_reducible show EW _ (Expr.Name (Str.ofString "other") _) _ _ _); refine e_nm (i := 1) (N := nsSigEq) rfl (at_s at_z) rfl ?_))
local macro_rules | `(tactic| walk_at "set") => `(tactic| first
  | ((with_reducible show SW _ (Stmt.Assign [Expr.Name (Str.ofString "self") _] _ _) _ _ _); refine s_set (i := 0) (N := nsSigEq) scSigEq.nd rfl at_z ?_)
  | ((with_reducible show SW _ (Stmt.Assign [Expr.Name (Str.ofString "other") _] _ _) _ _ _); refine s_set (i := 1) (N := nsSigEq) scSigEq.nd rfl (at_s at_z) ?_))
local macro_rules | `(tactic| walk_at "tg") => `(tactic| first
  | ((with_reducible show GW _ (Expr.Name (Str.ofString "self") _) _ _ _ _); refine g_nm (i := 0) (N := nsSigEq) scSigEq.nd rfl at_z ?_)
  | ((with_reducible show GW _ (Expr.Name (Str.ofString "other") _) _ _ _ _); refine g_nm (i := 1) (N := nsSigEq) scSigEq.nd rfl (at_s at_z) ?_))
/-- == of a signature and a signature, or any data -/
def spSigEq (K : PySem.W.Frag) (C : Addr) : Sp := fun vs H Q _ => ∃ a y rows, vs = [.ref a, y] ∧ SigAt C H a rows ∧ ((∃ b rows', y = .ref b ∧ SigAt C H b rows' ∧ StrOk rows ∧ StrOk rows' ∧ Q (.bl (decide (rows = rows'))) H) ∨ ∃ d, Dq K H y d ∧ Q (.bl false) H)
theorem bSigEq (S : SigC K C) (SS : Sys base) (mi : mg "isinstance" = none) (gc : mg "Signature" = some (.ref C)) : BodyZ P w K mg base nsSigEq "Signature.__eq__" sSigEq f 0 (spSigEq K C) := by
  intro X cd A outer s H vs Q E hX hr tk hs
  subst hX
  have hu := hr.r.units
  obtain ⟨a, y, rows, rfl, hsig, hs⟩ := hs
  walk_at "z"
  refine e_isC mi gc ?_
  walk_at "z1"
  rcases hs with ⟨b, rows', rfl, hsig', o1, o2, hQ⟩ | ⟨d, hd, hQ⟩
  · refine ⟨_, _, hsig'.ty S, S.self, _, rfl, (if_pos rfl).mpr ?_⟩
    walk_at "z"
    refine e_cmp (op_eqQ SS hu) ?_
    obtain ⟨dx, p, t, as, h1, h2, h3, h4⟩ := hsig
    obtain ⟨dx', p', t', as', g1, g2, g3, g4⟩ := hsig'
    refine e_fld ?_
    walk_at "z1"
    refine ⟨a, C, dx, _, .ref t, rfl, h1, S.cl, S.n2, rfl, ?_⟩
    refine e_fld ?_
    walk_at "z1"
    refine ⟨b, C, dx', _, .ref t', rfl, g1, S.cl, S.n2, rfl, ?_⟩
    refine ⟨_, _, .tup (.inl (.inl h3)) (dq_rows h4), .tup (.inl (.inl g3)) (dq_rows g4), (shaped_rows rows o1).1, (shaped_rows rows' o2).1, ?_⟩
    rw [PyData.eqv, eqv_rows]
    exact hQ
  · refine ⟨_, _, hd.ty, S.data d, _, rfl, (if_neg (by simp)).mpr ?_⟩
    exact hQ
end
end L2.Z.Law

set_option maxHeartbeats 4000000
namespace L2.Z.Law
open PySem PySem.Spec PyProof.Rows PySem.ZX
local macro_rules | `(tactic| walk_at "zi") => `(tactic| refine ⟨_, _, rfl, rfl, ?_⟩)
local macro_rules | `(tactic| walk_at "zmod") => `(tactic| refine ⟨_, _, rfl, rfl, (show (0 : Int) < _ by first | decide | omega), ?_⟩)
local macro_rules | `(tactic| walk_at "zdiv") => `(tactic| refine ⟨_, _, rfl, rfl, ⟨(show (0 : Int) < _ by first | decide | omega), ?_⟩, ?_⟩)
local macro_rules | `(tactic| walk_at "z1") => `(tactic| first
  | ((with_reducible show EW _ (Expr.Name _ _) _ _ _); walk_at "nm")
  | ((with_reducible show EW _ (Expr.Constant _ _ _) _ _ _); first | with_reducible refine e_int ?_ | with_reducible refine e_str ?_ | with_reducible refine e_bl ?_ | with_reducible refine e_non ?_)
  | ((with_reducible show EW _ (Expr.BinOp _ Operator.Add _ _) _ _ _); refine e_op z_add ?_)
  | ((with_reducible show EW _ (Expr.BinOp _ Operator.Sub _ _) _ _ _); refine e_op op_sub ?_)
  | ((with_reducible show EW _ (Expr.BinOp _ Operator.Mult _ _) _ _ _); refine e_op z_mul ?_)
  | ((with_reducible show EW _ (Expr.BinOp _ Operator.Mod _ _) _ _ _); refine e_op op_mod ?_)
  | ((with_reducible show EW _ (Expr.BinOp _ Operator.FloorDiv _ _) _ _ _); refine e_op op_fdivW ?_)
  | ((with_reducible show EW _ (Expr.BinOp _ Operator.Pow _ _) _ _ _); refine e_op op_pow ?_)
  | ((with_reducible show EW _ (Expr.List _ _) _ _ _); refine e_lstN ?_)
  | ((with_reducible show EW _ (Expr.Tuple _ _ _) _ _ _); refine e_tupN ?_)
  | ((with_reducible show EW _ (Expr.Subscript _ (Expr.Slice _ _ _ _) _) _ _ _); refine e_sl sl_listN ?_)
  | ((with_reducible show EW _ (Expr.Dict [] [] _) _ _ _); refine e_dKN ?_)
  | ((with_reducible show EW _ (Expr.BoolOp BoolOp.And [_] _) _ _ _); refine e_one ?_)
  | ((with_reducible show EW _ (Expr.BoolOp BoolOp.Or [_] _) _ _ _); refine e_one ?_)
  | ((with_reducible show EW _ (Expr.BoolOp BoolOp.And _ _) _ _ _); refine e_and ?_)
  | ((with_reducible show EW _ (Expr.BoolOp BoolOp.Or _ _) _ _ _); refine e_or ?_)
  | ((with_reducible show EW _ (Expr.IfExp _ _ _ _) _ _ _); refine e_if ?_)
  | ((with_reducible show AW _ [] _ _ _); refine a_nil ?_)
  | ((with_reducible show AW _ (_ :: _) _ _ _); refine a_cons ?_)
  | ((with_reducible show OW _ none _ _ _); refine o_no ?_)
  | ((with_reducible show OW _ (some _) _ _ _); refine o_so ?_)
  | ((with_reducible show TW _ (Expr.UnaryOp UnaryOp.Not _ _) _ _ _); refine t_not ?_)
  | ((with_reducible show TW _ (Expr.BoolOp _ _ _) _ _ _); refine t_w ?_)
  | ((with_reducible show PWW _ (Expr.BoolOp BoolOp.And [_] _) _ _ _); refine w_and1 ?_)
  | ((with_reducible show PWW _ (Expr.BoolOp BoolOp.Or [_] _) _ _ _); refine w_or1 ?_)
  | ((with_reducible show PWW _ (Expr.BoolOp BoolOp.And _ _) _ _ _); refine w_and ?_)
  | ((with_reducible show PWW _ (Expr.BoolOp BoolOp.Or _ _) _ _ _); refine w_or ?_)
  | ((with_reducible show SW _ (Stmt.Return (some _) _) _ _ _); refine s_ret ?_)
  | ((with_reducible show SW _ (Stmt.If _ _ _ _) _ _ _); refine s_if ?_)
  | ((with_reducible show SW _ (Stmt.Expr _ _) _ _ _); refine s_expr ?_)
  | ((with_reducible show SW _ (Stmt.Assign [Expr.Name _ _] _ _) _ _ _); walk_at "set")
  | ((with_reducible show BW _ [_] _ _ _); (first | (with_reducible refine b_one ?_) | refine b_one ?_))
  | ((with_reducible show BW _ [] _ _ _); refine b_nil ?_)
  | ((with_reducible show BW _ _ _ _ _); (first | (with_reducible refine b_cons ?_) | refine b_cons ?_))
  | ((with_reducible show rAddZ _ _ _ _ _); refine Or.inl ⟨_, _, rfl, rfl, ?_⟩)
  | ((with_reducible show rI0 _ _ _ _ _); refine ⟨_, _, rfl, rfl, ?_⟩)
  | ((with_reducible show rI (fun _ j => 0 < j) _ _ _ _ _); refine ⟨_, _, rfl, rfl, (show (0 : Int) < _ by first | decide | omega), ?_⟩)
  | ((with_reducible show Ends.nx _ _ _); first | (with_reducible refine mk_nx ?_) | refine (show BW _ _ _ _ _ from ?_)))
local macro_rules | `(tactic| walk_at "z") => `(tactic| repeat walk_at "z1")
local macro_rules | `(tactic| walk_at "st") => `(tactic| repeat (first
  | ((with_reducible show Ends.nx _ _ _); first | (with_reducible refine mk_nx ?_) | refine (show BW _ _ _ _ _ from ?_))
  | ((with_reducible show BW _ _ _ _ _); (first | (with_reducible refine b_cons ?_) | refine b_cons ?_))))
section
variable {P : Program} {w : World} {K : PySem.W.Frag} {mg : Str → Option Value} {base : Heap} {f : Addr}
abbrev sMixed : Stmt := topS 21
abbrev nsMixed : List Str := ["_law_cell", "_law_k", "_law_number"]
theorem scMixed : FnScope nsMixed ["_law_cell", "_law_k"] (defScope sMixed) := ⟨rfl, rfl, rfl, by decide +kernel, rfl, by decide +kernel, by decide +kernel⟩
local macro_rules | `(tactic| walk_at "nm") => `(tactic| first
  | ((with_reducible show EW _ (Expr.Name (Str.ofString "_law_cell") _) _ _ _); refine e_nm (i := 0) (N := nsMixed) rfl at_z rfl ?_)
  | ((with_reducible show EW _ (Expr.Name (Str.ofString "_law_k") _) _ _ _); refine e_nm (i := 1) (N := nsMixed) rfl (at_s at_z) rfl ?_)
  | ((with_reducible show EW _ (Expr.Name (Str.ofString "_law_number") _) _ _ _); refine e_nm (i := 2) (N := nsMixed) rfl (at_s (at_s at_z)) rfl ?_))
local macro_rules | `(tactic| walk_at "set") => `(tactic| first
  | ((with_reducible show SW _ (Stmt.Assign [Expr.Name (Str.ofString "_law_cell") _] _ _) _ _ _); refine s_set (i := 0) (N := nsMixed) scMixed.nd rfl at_z ?_)
  | ((with_reducible show SW _ (Stmt.Assign [Expr.Name (Str.ofString "_law_k") _] _ _) _ _ _); refine s_set (i := 1) (N := nsMixed) scMixed.nd rfl (at_s at_z) ?_)
  | ((with_reducible show SW _ (Stmt.Assign [Expr.Name (Str.ofString "_law_number") _] _ _) _ _ _); refine s_set (i := 2) (N := nsMixed) scMixed.nd rfl (at_s (at_s at_z)) ?_))
local macro_rules | `(tactic| walk_at "tg") => `(tactic| first
  | ((with_reducible show GW _ (Expr.Name (Str.ofString "_law_cell") _) _ _ _ _); refine g_nm (i := 0) (N := nsMixed) scMixed.nd rfl at_z ?_)
  | ((with_reducible show GW _ (Expr.Name (Str.ofString "_law_k") _) _ _ _ _); refine g_nm (i := 1) (N := nsMixed) scMixed.nd rfl (at_s at_z) ?_)
  | ((with_reducible show GW _ (Expr.Name (Str.ofString "_law_number") _) _ _ _ _); refine g_nm (i := 2) (N := nsMixed) scMixed.nd rfl (at_s (at_s at_z)) ?_))
/-- a number drawn from a cell and a place -/
def spMixed : Sp := fun vs H Q _ => ∃ a k : Int, vs = [.int a, .int k] ∧ a.natAbs < 2 ^ 220 ∧ 0 ≤ k ∧ k < 2 ^ 62 ∧ ∀ r : Int, 0 ≤ r → r < 2147483587 → Q (.int r) H
theorem bMixed : BodyZ P w K mg base nsMixed "_law_mixed" sMixed f 0 spMixed := by
  intro X cd A outer s H vs Q E hX hr tk hs
  subst hX
  obtain ⟨a, k, rfl, ha, k0, k1, hQ⟩ := hs
  walk_at "z"
  refine .inl ⟨_, _, rfl, rfl, cmulW 220 31 ha (by decide), ?_⟩
  walk_at "z"
  refine .inl ⟨_, _, rfl, rfl, cmulW 13 64 (by decide) (by omega), ?_⟩
  walk_at "z"
  refine .inl ⟨_, _, rfl, rfl, cmulW 80 64 (by omega) (by omega), ?_⟩
  walk_at "z"
  generalize hn : (a * 1103515245 + 7919 * k * k + k + 1) % 2147483647 = n
  have n0 : 0 ≤ n := by rw [← hn]; exact Int.emod_nonneg _ (by decide)
  have n1 : n < 2147483647 := by rw [← hn]; exact Int.emod_lt_of_pos _ (by decide)
  walk_at "z"
  refine .inl ⟨_, _, rfl, rfl, cmulW 64 64 (by omega) (by omega), ?_⟩
  walk_at "z"
  refine .inl ⟨_, _, rfl, rfl, cmulW 64 64 (by omega) (by decide), ?_⟩
  walk_at "z"
  exact hQ _ (Int.emod_nonneg _ (by decide)) (Int.emod_lt_of_pos _ (by decide))
/-- the purse that is drawn from: three numbers; the last tells how often -/
def Pu (H : Hp) (p : Addr) (t : Nat) : Prop := ∃ a b c : Int, H p = some (.lst [.int a, .int b, .int c]) ∧ b.natAbs < 2 ^ 210 ∧ 0 ≤ c ∧ c ≤ t
abbrev sPurse : Stmt := topS 22
abbrev nsPurse : List Str := ["_law_script", "_law_at", "_law_cell"]
theorem scPurse : FnScope nsPurse ["_law_script", "_law_at"] (defScope sPurse) := ⟨rfl, rfl, rfl, by decide +kernel, rfl, by decide +kernel, by decide +kernel⟩
local macro_rules | `(tactic| walk_at "nm") => `(tactic| first
  | ((with_reducible show EW _ (Expr.Name (Str.ofString "_law_script") _) _ _ _); refine e_nm (i := 0) (N := nsPurse) rfl at_z rfl ?_)
  | ((with_reducible show EW _ (Expr.Name (Str.ofString "_law_at") _) _ _ _); refine e_nm (i := 1) (N := nsPurse) rfl (at_s at_z) rfl ?_)
  | ((with_reducible show EW _ (Expr.Name (Str.ofString "_law_cell") _) _ _ _); refine e_nm (i := 2) (N := nsPurse) rfl (at_s (at_s at_z)) rfl ?_))
local macro_rules | `(tactic| walk_at "set") => `(tactic| first
  | ((with_reducible show SW _ (Stmt.Assign [Expr.Name (Str.ofString "_law_script") _] _ _) _ _ _); refine s_set (i := 0) (N := nsPurse) scPurse.nd rfl at_z ?_)
  | ((with_reducible show SW _ (Stmt.Assign [Expr.Name (Str.ofString "_law_at") _] _ _) _ _ _); refine s_set (i := 1) (N := nsPurse) scPurse.nd rfl (at_s at_z) ?_)
  | ((with_reducible show SW _ (Stmt.Assign [Expr.Name (Str.ofString "_law_cell") _] _ _) _ _ _); refine s_set (i := 2) (N := nsPurse) scPurse.nd rfl (at_s (at_s at_z)) ?_))
local macro_rules | `(tactic| walk_at "tg") => `(tactic| first
  | ((with_reducible show GW _ (Expr.Name (Str.ofString "_law_script") _) _ _ _ _); refine g_nm (i := 0) (N := nsPurse) scPurse.nd rfl at_z ?_)
  | ((with_reducible show GW _ (Expr.Name (Str.ofString "_law_at") _) _ _ _ _); refine g_nm (i := 1) (N := nsPurse) scPurse.nd rfl (at_s at_z) ?_)
  | ((with_reducible show GW _ (Expr.Name (Str.ofString "_law_cell") _) _ _ _ _); refine g_nm (i := 2) (N := nsPurse) scPurse.nd rfl (at_s (at_s at_z)) ?_))
def spPurse (K : PySem.W.Frag) : Sp := fun vs H Q _ => ∃ (l : Addr) (ns : List Int) (i : Int), vs = [.ref l, .int i] ∧ SqL K H l (ns.map V.int) ∧ 0 ≤ i ∧ i ≤ 63 ∧ ∀ p H', Pu H' p 64000 → Same H H' → H p = none → Q (.ref p) H'
theorem bPurse (mx : mg "max" = none) (ms : mg "sum" = none) : BodyZ P w K mg base nsPurse "_law_purse" sPurse f 0 (spPurse K) := by
  intro X cd A outer s H vs Q E hX hr tk hs
  subst hX
  obtain ⟨l, ns, i, rfl, hl, i0, i1, hQ⟩ := hs
  walk_at "z"
  refine e_callB (cr_sum rfl) ms (by decide +kernel) ?_
  walk_at "z"
  refine ⟨_, rfl, ?_⟩
  walk_at "z"
  refine ⟨_, rfl, ?_⟩
  refine ⟨_, _, rfl, hl, fun q H1 nq => ?_⟩
  obtain ⟨ms', em⟩ := cutV_map V.int ns (some i) (some (i + 1))
  rw [em] at nq
  walk_at "z"
  refine ⟨_, _, rfl, .inl (.inl nq.here), ?_⟩
  generalize ms'.sum = cell
  walk_at "z"
  refine e_callB (call_max2 rfl) mx (by decide +kernel) ?_
  walk_at "z"
  refine ⟨_, _, rfl, rfl, ⟨by decide, by decide +kernel⟩, ?_⟩
  walk_at "z"
  refine ⟨_, _, rfl, ?_⟩
  walk_at "z"
  refine ⟨_, _, rfl, rfl, ⟨by decide, by decide +kernel⟩, ?_⟩
  walk_at "z"
  refine ⟨_, _, rfl, rfl, ⟨by decide, by decide +kernel⟩, ?_⟩
  refine ⟨_, _, rfl, rfl, (show (0 : Int) < _ from Int.pow_pos (Int.pow_pos (by decide))), ?_⟩
  walk_at "z"
  refine .inl ⟨_, _, rfl, rfl, cmulW 64 64 (by decide) (by omega), ?_⟩
  walk_at "z"
  refine ⟨szL, fun p H2 np => ?_⟩
  have m0 : 0 ≤ cell % 2147483647 := Int.emod_nonneg _ (by decide)
  have m1 : cell % 2147483647 < 2147483647 := Int.emod_lt_of_pos _ (by decide)
  exact hQ p H2 ⟨_, _, _, np.here, lt_pow (a := 64) (by omega) (by decide), by omega, by omega⟩ (nq.same.trans np.same) (nq.same.free np.free)
abbrev sDraw : Stmt := topS 23
abbrev nsDraw : List Str := ["_law_purse_here", "_law_out_of", "_law_drawn", "_law_number", "_law_k"]
theorem scDraw : FnScope nsDraw ["_law_purse_here", "_law_out_of"] (defScope sDraw) := ⟨rfl, rfl, rfl, by decide +kernel, rfl, by decide +kernel, by decide +kernel⟩
local macro_rules | `(tactic| walk_at "nm") => `(tactic| first
  | ((with_reducible show EW _ (Expr.Name (Str.ofString "_law_purse_here") _) _ _ _); refine e_nm (i := 0) (N := nsDraw) rfl at_z rfl ?_)
  | ((with_reducible show EW _ (Expr.Name (Str.ofString "_law_out_of") _) _ _ _); refine e_nm (i := 1) (N := nsDraw) rfl (at_s at_z) rfl ?_)
  | ((with_reducible show EW _ (Expr.Name (Str.ofString "_law_drawn") _) _ _ _); refine e_nm (i := 2) (N := nsDraw) rfl (at_s (at_s at_z)) rfl ?_)
  | ((with_reducible show EW _ (Expr.Name (Str.ofString "_law_number") _) _ _ _); refine e_nm (i := 3) (N := nsDraw) rfl (at_s (at_s (at_s at_z))) rfl ?_)
  | ((with_reducible show EW _ (Expr.Name (Str.ofString "_law_k") _) _ _ _); refine e_nm (i := 4) (N := nsDraw) rfl (at_s (at_s (at_s (at_s at_z)))) rfl ?_))
local macro_rules | `(tactic| walk_at "set") => `(tactic| first
  | ((with_reducible show SW _ (Stmt.Assign [Expr.Name (Str.ofString "_law_purse_here") _] _ _) _ _ _); refine s_set (i := 0) (N := nsDraw) scDraw.nd rfl at_z ?_)
  | ((with_reducible show SW _ (Stmt.Assign [Expr.Name (Str.ofString "_law_out_of") _] _ _) _ _ _); refine s_set (i := 1) (N := nsDraw) scDraw.nd rfl (at_s at_z) ?_)
  | ((with_reducible show SW _ (Stmt.Assign [Expr.Name (Str.ofString "_law_drawn") _] _ _) _ _ _); refine s_set (i := 2) (N := nsDraw) scDraw.nd rfl (at_s (at_s at_z)) ?_)
  | ((with_reducible show SW _ (Stmt.Assign [Expr.Name (Str.ofString "_law_number") _] _ _) _ _ _); refine s_set (i := 3) (N := nsDraw) scDraw.nd rfl (at_s (at_s (at_s at_z))) ?_)
  | ((with_reducible show SW _ (Stmt.Assign [Expr.Name (Str.ofString "_law_k") _] _ _) _ _ _); refine s_set (i := 4) (N := nsDraw) scDraw.nd rfl (at_s (at_s (at_s (at_s at_z)))) ?_))
local macro_rules | `(tactic| walk_at "tg") => `(tactic| first
  | ((with_reducible show GW _ (Expr.Name (Str.ofString "_law_purse_here") _) _ _ _ _); refine g_nm (i := 0) (N := nsDraw) scDraw.nd rfl at_z ?_)
  | ((with_reducible show GW _ (Expr.Name (Str.ofString "_law_out_of") _) _ _ _ _); refine g_nm (i := 1) (N := nsDraw) scDraw.nd rfl (at_s at_z) ?_)
  | ((with_reducible show GW _ (Expr.Name (Str.ofString "_law_drawn") _) _ _ _ _); refine g_nm (i := 2) (N := nsDraw) scDraw.nd rfl (at_s (at_s at_z)) ?_)
  | ((with_reducible show GW _ (Expr.Name (Str.ofString "_law_number") _) _ _ _ _); refine g_nm (i := 3) (N := nsDraw) scDraw.nd rfl (at_s (at_s (at_s at_z))) ?_)
  | ((with_reducible show GW _ (Expr.Name (Str.ofString "_law_k") _) _ _ _ _); refine g_nm (i := 4) (N := nsDraw) scDraw.nd rfl (at_s (at_s (at_s (at_s at_z)))) ?_))
def spDraw : Sp := fun vs H Q _ => ∃ (p : Addr) (n : Int) (t : Nat), vs = [.ref p, .int n] ∧ Pu H p t ∧ t ≤ 2 ^ 61 ∧ 0 < n ∧ n < 2 ^ 200 ∧ ∀ (r : Int) (o : HO), 0 ≤ r → r < n → Pu (upd H p o) p (t + 10) → Q (.int r) (upd H p o)
theorem bDraw (mr : mg "range" = none) (D : DefZ P w K mg base "_law_mixed" 1 ["_law_cell", "_law_k"] spMixed) : BodyZ P w K mg base nsDraw "_law_draw" sDraw f 1 spDraw := by
  intro X cd A outer s H vs Q E hX hr tk hs
  subst hX
  obtain ⟨p, n, t, rfl, ⟨a, b, c, hp, hb, c0, c1⟩, ht, n0, n1, hQ⟩ := hs
  walk_at "z"
  refine t_cmp op_gt ?_
  refine e_ix ix_list ?_
  walk_at "z"
  refine ⟨_, _, _, _, rfl, rfl, .inl (.inl hp), rfl, ?_⟩
  walk_at "z"
  refine ⟨_, rfl, ?_⟩
  by_cases ha : 0 < a
  · rw [if_pos (by simpa using ha)]
    walk_at "z"
    refine e_ix ix_list ?_
    walk_at "z"
    refine ⟨_, _, _, _, rfl, rfl, .inl (.inl hp), rfl, ?_⟩
    walk_at "z"
    refine s_asg ?_
    walk_at "z"
    refine e_ix ix_list ?_
    walk_at "z"
    refine ⟨_, _, _, _, rfl, rfl, .inl (.inl hp), rfl, ?_⟩
    walk_at "z"
    refine ⟨_, _, rfl, rfl, wide_div (b := 200) n0 (by omega) (by decide) (by decide), ?_⟩
    refine g_sub set_list ?_
    walk_at "z"
    refine ⟨_, _, _, _, rfl, rfl, hp, rfl, ?_⟩
    walk_at "z"
    exact hQ _ _ (Int.emod_nonneg _ (by omega)) (Int.emod_lt_of_pos _ n0) ⟨_, _, _, upd_same, hb, c0, by omega⟩
  · rw [if_neg (by simpa using ha)]
    walk_at "z"
    refine s_for (i_range1 mr ?_)
    walk_at "z"
    refine e_bits ?_
    walk_at "z"
    refine ⟨_, rfl, ?_⟩
    walk_at "z"
    have hb2 : Builtin.Int.intBits n ≤ 200 := intBits_lt (n := 200) (by omega) (by decide)
    generalize Builtin.Int.intBits n = m at hb2 ⊢
    refine ⟨_, _, rfl, rfl, ⟨by decide, by decide⟩, ?_⟩
    walk_at "z"
    refine ⟨_, rfl, by omega, by omega, ?_⟩
    refine ⟨fun i σ H' => ∃ (q c' : Int) (k : Option V), σ = [some (.ref p), some (.int n), none, some (.int q), k] ∧ (q.natAbs < 2 ^ (40 * i + 1)) ∧ H' = upd H p (.lst [.int a, .int b, .int c']) ∧ 0 ≤ c' ∧ c' ≤ t + i, ?_, ?_, ?_, ?_⟩
    · refine ⟨0, c, none, rfl, by decide, ?_, c0, by omega⟩
      funext x
      unfold upd
      split
      · rename_i e
        rw [e, hp]
      · rfl
    · intro i σ' H' _ _
      trivial
    · rintro i σ' H' x H2 hi ⟨q, c', k, rfl, hq, rfl, d0, d1⟩ ⟨rfl, rfl⟩
      walk_at "tg"
      walk_at "z"
      refine s_asg ?_
      walk_at "z"
      refine e_ix ix_list ?_
      walk_at "z"
      refine ⟨_, _, _, _, rfl, rfl, .inl (.inl upd_same), rfl, ?_⟩
      walk_at "z"
      refine g_sub set_list ?_
      walk_at "z"
      refine ⟨_, _, _, _, rfl, rfl, upd_same, rfl, ?_⟩
      rw [upd_upd]
      walk_at "z"
      refine .inl ⟨_, _, rfl, rfl, cmulW (40 * i + 1) 31 hq (by decide) (by omega) (by decide) (by omega), ?_⟩
      walk_at "z"
      refine e_call D hr tk ?_
      walk_at "z"
      refine e_ix ix_list ?_
      walk_at "z"
      refine ⟨_, _, _, _, rfl, rfl, .inl (.inl upd_same), rfl, ?_⟩
      walk_at "z"
      refine e_ix ix_list ?_
      walk_at "z"
      refine ⟨_, _, _, _, rfl, rfl, .inl (.inl upd_same), rfl, ?_⟩
      walk_at "z"
      refine ⟨_, _, rfl, lt_pow hb (by decide), by omega, by omega, fun r r0 r1 => ?_⟩
      walk_at "z"
      refine ⟨_, _, _, rfl, add_lt (a := 40 * i + 33) (mul_lt hq (b := 31) (by decide) (by omega)) (lt_pow (a := 33) (by omega) (by omega)) (by omega), rfl, by omega, by omega⟩
    · rintro σ' H' ⟨q, c', k, rfl, hq, rfl, d0, d1⟩
      walk_at "z"
      exact hQ _ _ (Int.emod_nonneg _ (by omega)) (Int.emod_lt_of_pos _ n0) ⟨_, _, _, upd_same, hb, d0, by omega⟩
end
end L2.Z.Law

set_option maxHeartbeats 1000000
namespace L2.Z.Law
open PySem PySem.Spec PyProof.Rows PySem.ZX PySem.W
/-! ### the signatures that the laws draw -/
def titles : List Str := ["text", "list", "pair", "opt"]
def mkRows (ars : List Int) : List (Str × Int) := ("int", 0) :: (titles.zip ars)
def ar3 : List Int := [0, 1, 2]
def arsAll : List (List Int) := (ar3.map fun x => [x]) ++ (ar3.flatMap fun x => ar3.map fun y => [x, y]) ++ (ar3.flatMap fun x => ar3.flatMap fun y => ar3.map fun z => [x, y, z])
theorem arsAll_mem {ars : List Int} (h1 : 1 ≤ ars.length) (h2 : ars.length ≤ 3) (h : ∀ a ∈ ars, a = 0 ∨ a = 1 ∨ a = 2) : ars ∈ arsAll := by
  match ars, h1, h2, h with
  | [x], _, _, h =>
    rcases h x (by simp) with rfl | rfl | rfl <;> decide +kernel
  | [x, y], _, _, h =>
    rcases h x (by simp) with rfl | rfl | rfl <;> rcases h y (by simp) with rfl | rfl | rfl <;> decide +kernel
  | [x, y, z], _, _, h =>
    rcases h x (by simp) with rfl | rfl | rfl <;> rcases h y (by simp) with rfl | rfl | rfl <;> rcases h z (by simp) with rfl | rfl | rfl <;> decide +kernel
/-- such a signature -/
def OkR (rows : List (Str × Int)) : Prop := ∃ ars ∈ arsAll, rows = mkRows ars
theorem okr {p : List (Str × Int) → Bool} (h : (arsAll.all fun ars => p (mkRows ars)) = true) {rows : List (Str × Int)} (o : OkR rows) : p rows = true := by
  obtain ⟨ars, m, rfl⟩ := o
  exact List.all_eq_true.mp h ars m
/-- short names of common signs -/
def nmOk (rows : List (Str × Int)) : Bool := rows.all fun r => decide (r.1.length ≤ 4) && PyData.strOk r.1 && (r.1.cps.toList.all fun c => decide (c < 16 ^ 8))
theorem OkR.nm {rows : List (Str × Int)} (o : OkR rows) : nmOk rows = true := okr (p := nmOk) (by decide +kernel) o
theorem OkR.str {rows : List (Str × Int)} (o : OkR rows) : StrOk rows := okr (p := fun rows => rows.all fun r => PyData.strOk r.1) (by decide +kernel) o
theorem OkR.len {rows : List (Str × Int)} (o : OkR rows) : 2 ≤ rows.length ∧ rows.length ≤ 4 := by
  have := okr (p := fun rows => decide (2 ≤ rows.length ∧ rows.length ≤ 4)) (by decide +kernel) o
  exact of_decide_eq_true this
theorem OkR.sig {rows : List (Str × Int)} (o : OkR rows) : sigErr (.list (rowsD rows)) = none := by
  have := okr (p := fun rows => (sigErr (.list (rowsD rows))).isNone) (by decide +kernel) o
  exact Option.isNone_iff_eq_none.mp this
theorem rows_of (rows : List (Str × Int)) : sigRows (.list (rowsD rows)) = rows := by
  show (rows.map rowD).map rowOf = rows
  rw [List.map_map]
  exact (List.map_congr_left fun r _ => rfl).trans (List.map_id rows)
/-! ### how many types -/
def cRow (cs : List Nat) (many : Nat) (a : Int) : Nat :=
  if a = 0 then (if many = 1 then 1 else 0)
  else if a = 1 then cs.getD (many - 1) 0
  else if a = 2 then ((List.range (many - 2)).map fun l => cs.getD (l + 1) 0 * cs.getD (many - 1 - (l + 1)) 0).sum
  else 0
def cSizes (as : List Int) : Nat → List Nat
  | 0 => [0]
  | n + 1 => cSizes as n ++ [(as.map (cRow (cSizes as n) (n + 1))).sum]
theorem getD_len (bs : List (List PyData)) (i : Nat) : (bs.map List.length).getD i 0 = (bs.getD i []).length := by
  rw [List.getD_eq_getElem?_getD, List.getD_eq_getElem?_getD, List.getElem?_map]
  cases bs[i]? <;> rfl
theorem flat_len {α β : Type} (f : α → List β) : ∀ l : List α, (l.flatMap f).length = (l.map fun a => (f a).length).sum
  | [] => rfl
  | a :: l => by rw [List.flatMap_cons, List.length_append, flat_len f l, List.map_cons, List.sum_cons]
theorem sum_mul (a : Nat) : ∀ l : List PyData, (l.map fun _ => a).sum = l.length * a
  | [] => by simp
  | x :: l => by rw [List.map_cons, List.sum_cons, sum_mul a l, List.length_cons, Nat.succ_mul, Nat.add_comm]
theorem ofRow_len (bs : List (List PyData)) (many : Nat) (r : Str × Int) : (ofRow bs many r).length = cRow (bs.map List.length) many r.2 := by
  unfold ofRow cRow
  split
  · split <;> rfl
  · split
    · rw [List.length_map, getD_len]
    · split
      · rw [flat_len]
        congr 2
        funext l
        rw [flat_len, getD_len, getD_len]
        simp only [List.length_map]
        exact sum_mul _ _
      · rfl
theorem found_len (rows : List (Str × Int)) (bs : List (List PyData)) (many : Nat) : (foundAt rows bs many).length = ((rows.map (·.2)).map (cRow (bs.map List.length) many)).sum := by
  rw [foundAt, flat_len, List.map_map]
  congr 2
  funext r
  exact ofRow_len bs many r
theorem srt_len (ds : List PyData) : (srt ds).length = ds.length := (List.mergeSort_perm ds _).length_eq
theorem sizes_len (rows : List (Str × Int)) : ∀ n, (tySizes rows n).map List.length = cSizes (rows.map (·.2)) n
  | 0 => rfl
  | n + 1 => by rw [tySizes, List.map_append, sizes_len rows n, List.map_cons, List.map_nil, srt_len, found_len, sizes_len rows n]; rfl
def capOk (as : List Int) : Bool := (List.range 6).all fun m => decide ((as.map (cRow (cSizes as m) (m + 1))).sum < 1000)
theorem OkR.cap {rows : List (Str × Int)} (o : OkR rows) {m : Nat} (h : m < 6) : (foundAt rows (tySizes rows m) (m + 1)).length < 1000 := by
  have := okr (p := fun rows => capOk (rows.map (·.2))) (by decide +kernel) o
  have := List.all_eq_true.mp this m (List.mem_range.mpr h)
  rw [found_len, sizes_len]
  exact of_decide_eq_true this
/-! ### how great types are -/
structure GdN (n : Nat) (d : PyData) : Prop where
  sh : d.showable = true
  lf : d.leavesShort 13 = true
  ly : d.canLay0 = true
  wt : d.weight ≤ 7 * n
  dp : d.depth ≤ n
structure GdA (ds : List PyData) (n m : Nat) : Prop where
  sh : PyData.showableAll ds = true
  lf : PyData.leavesShortAll 13 ds = true
  ly : PyData.canLayAll0 ds = true
  wt : PyData.weightAll ds ≤ n
  dp : PyData.depthAll ds ≤ m
theorem GdA.nil : GdA [] 0 0 := ⟨by simp [PyData.showableAll], by simp [PyData.leavesShortAll], by simp [PyData.canLayAll0], by simp [PyData.weightAll], by simp [PyData.depthAll]⟩
theorem GdA.cons {d : PyData} {ds : List PyData} {n m k j : Nat} (h1 : d.showable = true) (h2 : d.leavesShort 13 = true) (h3 : d.canLay0 = true) (h4 : d.weight + 1 ≤ k) (h5 : d.depth ≤ j) (g : GdA ds n m) : GdA (d :: ds) (k + n) (max j m) := by
  refine ⟨?_, ?_, ?_, ?_, ?_⟩
  · rw [PyData.showableAll, h1, g.sh]; rfl
  · rw [PyData.leavesShortAll, h2, g.lf]; rfl
  · rw [PyData.canLayAll0, h3, g.ly]; rfl
  · rw [PyData.weightAll]; have := g.wt; omega
  · rw [PyData.depthAll]; have := g.dp; omega
theorem GdA.tup {ds : List PyData} {n m k : Nat} (g : GdA ds n m) (h1 : n ≤ 7 * k) (h2 : m + 1 ≤ k) : GdN k (.tuple ds) := by
  refine ⟨?_, ?_, ?_, ?_, ?_⟩
  · rw [PyData.showable, g.sh]
  · rw [PyData.leavesShort, g.lf]
  · rw [PyData.canLay0, g.ly]
  · rw [PyData.weight]; have := g.wt; omega
  · rw [PyData.depth]; have := g.dp; omega
theorem GdA.str {z : Str} {ds : List PyData} {n m : Nat} (h : (decide (z.length ≤ 4) && PyData.strOk z && (z.cps.toList.all fun c => decide (c < 16 ^ 8))) = true) (g : GdA ds n m) : GdA (.str z :: ds) (5 + n) m := by
  simp only [Bool.and_eq_true, decide_eq_true_eq] at h
  have := GdA.cons (d := .str z) (k := 5) (j := 0) (by rw [PyData.showable]) (by rw [PyData.leavesShort]; exact h.2) (by rw [PyData.canLay0]; exact h.1.2) (by rw [PyData.weight]; have := h.1.1; unfold Str.length at this; omega) (by rw [PyData.depth]; omega) g
  rwa [Nat.zero_max] at this
theorem GdA.ty {n : Nat} {d : PyData} {ds : List PyData} {k m : Nat} (h : GdN n d) (g : GdA ds k m) : GdA (d :: ds) (7 * n + 1 + k) (max n m) := .cons h.sh h.lf h.ly (by have := h.wt; omega) h.dp g
theorem ofRow_gd {bs : List (List PyData)} (hb : ∀ i, ∀ d ∈ bs.getD i [], GdN i d) {many : Nat} (hm : 1 ≤ many) {r : Str × Int} (hr : (decide (r.1.length ≤ 4) && PyData.strOk r.1 && (r.1.cps.toList.all fun c => decide (c < 16 ^ 8))) = true) : ∀ d ∈ ofRow bs many r, GdN many d := by
  intro d h
  unfold ofRow at h
  split at h
  · split at h
    · obtain rfl : d = _ := by simpa using h
      exact (GdA.nil.str hr).tup (by omega) (by omega)
    · cases h
  · split at h
    · obtain ⟨p, hp, rfl⟩ := List.mem_map.mp h
      exact ((GdA.nil.ty (hb _ _ hp)).str hr).tup (by omega) (by omega)
    · split at h
      · obtain ⟨l, hl, h⟩ := List.mem_flatMap.mp h
        have hl := List.mem_range.mp hl
        obtain ⟨one, h1, h⟩ := List.mem_flatMap.mp h
        obtain ⟨two, h2, rfl⟩ := List.mem_map.mp h
        exact (((GdA.nil.ty (hb _ _ h2)).ty (hb _ _ h1)).str hr).tup (by omega) (by omega)
      · cases h
theorem sizes_gd {rows : List (Str × Int)} (hr : nmOk rows = true) : ∀ n i, ∀ d ∈ (tySizes rows n).getD i [], GdN i d
  | 0, i, d, h => by
    cases i with
    | zero => cases h
    | succ i => simp [tySizes] at h
  | n + 1, i, d, h => by
    rw [tySizes, List.getD_eq_getElem?_getD] at h
    have hl := tySizes_len rows n
    rcases Nat.lt_or_ge i (n + 1) with hi | hi
    · rw [List.getElem?_append_left (by omega), ← List.getD_eq_getElem?_getD] at h
      exact sizes_gd hr n i d h
    · rw [List.getElem?_append_right (by omega), hl] at h
      rcases Nat.eq_or_lt_of_le hi with e | e
      · subst e
        rw [Nat.sub_self] at h
        obtain ⟨r, mr, h⟩ := List.mem_flatMap.mp (mem_srt.mp h)
        exact ofRow_gd (sizes_gd hr n) (by omega) (List.all_eq_true.mp hr r mr) d h
      · have : i - (n + 1) ≠ 0 := by omega
        obtain ⟨k, hk⟩ := Nat.exists_eq_succ_of_ne_zero this
        rw [hk] at h
        simp at h
theorem found_gd {rows : List (Str × Int)} (hr : nmOk rows = true) (n : Nat) : ∀ d ∈ foundAt rows (tySizes rows n) (n + 1), GdN (n + 1) d := fun d h => by
  obtain ⟨r, mr, h⟩ := List.mem_flatMap.mp h
  exact ofRow_gd (sizes_gd hr n) (by omega) (List.all_eq_true.mp hr r mr) d h
theorem OkR.sz {rows : List (Str × Int)} (o : OkR rows) {n : Nat} (hn : n ≤ 6) : SzOk rows n := fun m hm => ⟨Nat.lt_of_lt_of_le (o.cap (by omega)) (by decide), fun d h => Nat.le_trans (found_gd o.nm m d h).dp (by omega)⟩
/-- the types of one size, shown -/
theorem gdAll_len {n k : Nat} : ∀ ds : List PyData, (∀ d ∈ ds, GdN n d) → GdA ds (ds.length * (7 * n + 1)) n
  | [], _ => ⟨by simp [PyData.showableAll], by simp [PyData.leavesShortAll], by simp [PyData.canLayAll0], by simp [PyData.weightAll], by simp [PyData.depthAll]⟩
  | d :: ds, h => by
    have g := gdAll_len (k := k) ds fun d m => h d (List.mem_cons_of_mem _ m)
    have e : (d :: ds).length * (7 * n + 1) = 7 * n + 1 + ds.length * (7 * n + 1) := by rw [List.length_cons, Nat.succ_mul, Nat.add_comm]
    have := GdA.ty (h d List.mem_cons_self) g
    rw [Nat.max_self] at this
    rw [e]
    exact this
end L2.Z.Law

set_option maxHeartbeats 1000000
namespace L2.Z.Law
open PySem PySem.Spec PyProof.Rows PySem.ZX
local macro_rules | `(tactic| walk_at "zi") => `(tactic| refine ⟨_, _, rfl, rfl, ?_⟩)
local macro_rules | `(tactic| walk_at "zmod") => `(tactic| refine ⟨_, _, rfl, rfl, (show (0 : Int) < _ by first | decide | omega), ?_⟩)
local macro_rules | `(tactic| walk_at "zdiv") => `(tactic| refine ⟨_, _, rfl, rfl, ⟨(show (0 : Int) < _ by first | decide | omega), ?_⟩, ?_⟩)
local macro_rules | `(tactic| walk_at "z1") => `(tactic| first
  | ((with_reducible show EW _ (Expr.Name _ _) _ _ _); walk_at "nm")
  | ((with_reducible show EW _ (Expr.Constant _ _ _) _ _ _); first | with_reducible refine e_int ?_ | with_reducible refine e_str ?_ | with_reducible refine e_bl ?_ | with_reducible refine e_non ?_)
  | ((with_reducible show EW _ (Expr.BinOp _ Operator.Add _ _) _ _ _); refine e_op z_add ?_)
  | ((with_reducible show EW _ (Expr.BinOp _ Operator.Sub _ _) _ _ _); refine e_op op_sub ?_)
  | ((with_reducible show EW _ (Expr.BinOp _ Operator.Mult _ _) _ _ _); refine e_op z_mul ?_)
  | ((with_reducible show EW _ (Expr.BinOp _ Operator.Mod _ _) _ _ _); refine e_op op_mod ?_)
  | ((with_reducible show EW _ (Expr.BinOp _ Operator.FloorDiv _ _) _ _ _); refine e_op op_fdivW ?_)
  | ((with_reducible show EW _ (Expr.BinOp _ Operator.Pow _ _) _ _ _); refine e_op op_pow ?_)
  | ((with_reducible show EW _ (Expr.List _ _) _ _ _); refine e_lstN ?_)
  | ((with_reducible show EW _ (Expr.Tuple _ _ _) _ _ _); refine e_tupN ?_)
  | ((with_reducible show EW _ (Expr.Subscript _ (Expr.Slice _ _ _ _) _) _ _ _); refine e_sl sl_listN ?_)
  | ((with_reducible show EW _ (Expr.Dict [] [] _) _ _ _); refine e_dKN ?_)
  | ((with_reducible show EW _ (Expr.BoolOp BoolOp.And [_] _) _ _ _); refine e_one ?_)
  | ((with_reducible show EW _ (Expr.BoolOp BoolOp.Or [_] _) _ _ _); refine e_one ?_)
  | ((with_reducible show EW _ (Expr.BoolOp BoolOp.And _ _) _ _ _); refine e_and ?_)
  | ((with_reducible show EW _ (Expr.BoolOp BoolOp.Or _ _) _ _ _); refine e_or ?_)
  | ((with_reducible show EW _ (Expr.IfExp _ _ _ _) _ _ _); refine e_if ?_)
  | ((with_reducible show AW _ [] _ _ _); refine a_nil ?_)
  | ((with_reducible show AW _ (_ :: _) _ _ _); refine a_cons ?_)
  | ((with_reducible show OW _ none _ _ _); refine o_no ?_)
  | ((with_reducible show OW _ (some _) _ _ _); refine o_so ?_)
  | ((with_reducible show TW _ (Expr.UnaryOp UnaryOp.Not _ _) _ _ _); refine t_not ?_)
  | ((with_reducible show TW _ (Expr.BoolOp _ _ _) _ _ _); refine t_w ?_)
  | ((with_reducible show PWW _ (Expr.BoolOp BoolOp.And [_] _) _ _ _); refine w_and1 ?_)
  | ((with_reducible show PWW _ (Expr.BoolOp BoolOp.Or [_] _) _ _ _); refine w_or1 ?_)
  | ((with_reducible show PWW _ (Expr.BoolOp BoolOp.And _ _) _ _ _); refine w_and ?_)
  | ((with_reducible show PWW _ (Expr.BoolOp BoolOp.Or _ _) _ _ _); refine w_or ?_)
  | ((with_reducible show SW _ (Stmt.Return (some _) _) _ _ _); refine s_ret ?_)
  | ((with_reducible show SW _ (Stmt.If _ _ _ _) _ _ _); refine s_if ?_)
  | ((with_reducible show SW _ (Stmt.Expr _ _) _ _ _); refine s_expr ?_)
  | ((with_reducible show SW _ (Stmt.Assign [Expr.Name _ _] _ _) _ _ _); walk_at "set")
  | ((with_reducible show BW _ [_] _ _ _); (first | (with_reducible refine b_one ?_) | refine b_one ?_))
  | ((with_reducible show BW _ [] _ _ _); refine b_nil ?_)
  | ((with_reducible show BW _ _ _ _ _); (first | (with_reducible refine b_cons ?_) | refine b_cons ?_))
  | ((with_reducible show rAddZ _ _ _ _ _); refine Or.inl ⟨_, _, rfl, rfl, ?_⟩)
  | ((with_reducible show rI0 _ _ _ _ _); refine ⟨_, _, rfl, rfl, ?_⟩)
  | ((with_reducible show rI (fun _ j => 0 < j) _ _ _ _ _); refine ⟨_, _, rfl, rfl, (show (0 : Int) < _ by first | decide | omega), ?_⟩)
  | ((with_reducible show Ends.nx _ _ _); first | (with_reducible refine mk_nx ?_) | refine (show BW _ _ _ _ _ from ?_)))
local macro_rules | `(tactic| walk_at "z") => `(tactic| repeat walk_at "z1")
local macro_rules | `(tactic| walk_at "st") => `(tactic| repeat (first
  | ((with_reducible show Ends.nx _ _ _); first | (with_reducible refine mk_nx ?_) | refine (show BW _ _ _ _ _ from ?_))
  | ((with_reducible show BW _ _ _ _ _); (first | (with_reducible refine b_cons ?_) | refine b_cons ?_))))
/-! ### one object set aside -/
def ers (H : Hp) (p : Addr) : Hp := fun b => if b = p then none else H b
theorem ers_self {H : Hp} {p : Addr} : ers H p p = none := if_pos rfl
theorem ers_ne {H : Hp} {p b : Addr} (h : b ≠ p) : ers H p b = H b := if_neg h
theorem Gr.start {G H : Hp} {p : Addr} (s : Same G H) (g : G p = none) : Gr G (ers H p) G H := ⟨Same.refl _, s, fun b u e => by
  unfold ers at e
  split at e
  · cases e
  · exact e, fun _ e _ => e⟩
theorem Gr.uners {G0 H0 G H G' H' : Hp} {p : Addr} (a : Gr G0 H0 G H) (f : H0 p = none) (b : Gr G (ers H p) G' H') : Gr G0 H0 G' H' :=
  ⟨a.gg.trans b.gg, b.gh, fun c u e => by
    have ne : c ≠ p := fun z => by rw [z, f] at e; cases e
    exact b.hh _ _ (by rw [ers_ne ne]; exact a.hh _ _ e), fun c e n => by
    have ne : c ≠ p := fun z => n (by rw [z, f])
    refine b.nw c (a.nw c e n) ?_
    rw [ers_ne ne]
    cases q : H0 c with
    | none => exact absurd q n
    | some o => rw [a.hh _ _ q]; simp⟩
theorem ers_free {H : Hp} {p b : Addr} (h : H b = none) : ers H p b = none := by
  unfold ers
  split
  · rfl
  · exact h
theorem Pu.of {H H' : Hp} {p : Addr} {t t' : Nat} (h : Pu H p t) (k : ∀ o, H p = some o → H' p = some o) (ht : t ≤ t') : Pu H' p t' := by
  obtain ⟨a, b, c, e, h1, h2, h3⟩ := h
  exact ⟨a, b, c, k _ e, h1, h2, by omega⟩
theorem zip_take {α β : Type} : ∀ {l : List α} {m : List β}, (l.take m.length).zip m = l.zip m
  | [], _ => by simp
  | _ :: _, [] => by simp
  | a :: l, b :: m => by rw [List.length_cons, List.take_succ_cons, List.zip_cons_cons, List.zip_cons_cons, zip_take]
section
variable {P : Program} {w : World} {K : PySem.W.Frag} {mg : Str → Option Value} {base : Heap} {f : Addr}
theorem Dq.row {H : Hp} {v : V} {r : Str × Int} (h : Dq K H v (rowD r)) : ∃ b, v = .ref b ∧ SqT K H b [.str r.1, .int r.2] := by
  cases h with
  | tup hq ha =>
    cases ha with
    | cons h0 t =>
      cases t with
      | cons h1 t =>
        cases t
        cases h0
        cases h1
        exact ⟨_, rfl, hq⟩
abbrev sLRows : Stmt := topS 24
abbrev nsLRows : List Str := ["_law_purse_here", "_law_found", "_law_title"]
theorem scLRows : FnScope nsLRows ["_law_purse_here"] (defScope sLRows) := ⟨rfl, rfl, rfl, by decide +kernel, rfl, by decide +kernel, by decide +kernel⟩
local macro_rules | `(tactic| walk_at "nm") => `(tactic| first
  | ((with_reducible show EW _ (Expr.Name (Str.ofString "_law_purse_here") _) _ _ _); refine e_nm (i := 0) (N := nsLRows) rfl at_z rfl ?_)
  | ((with_reducible show EW _ (Expr.Name (Str.ofString "_law_found") _) _ _ _); refine e_nm (i := 1) (N := nsLRows) rfl (at_s at_z) rfl ?_)
  | ((with_reducible show EW _ (Expr.Name (Str.ofString "_law_title") _) _ _ _); refine e_nm (i := 2) (N := nsLRows) rfl (at_s (at_s at_z)) rfl ?_))
local macro_rules | `(tactic| walk_at "set") => `(tactic| first
  | ((with_reducible show SW _ (Stmt.Assign [Expr.Name (Str.ofString "_law_purse_here") _] _ _) _ _ _); refine s_set (i := 0) (N := nsLRows) scLRows.nd rfl at_z ?_)
  | ((with_reducible show SW _ (Stmt.Assign [Expr.Name (Str.ofString "_law_found") _] _ _) _ _ _); refine s_set (i := 1) (N := nsLRows) scLRows.nd rfl (at_s at_z) ?_)
  | ((with_reducible show SW _ (Stmt.Assign [Expr.Name (Str.ofString "_law_title") _] _ _) _ _ _); refine s_set (i := 2) (N := nsLRows) scLRows.nd rfl (at_s (at_s at_z)) ?_))
local macro_rules | `(tactic| walk_at "tg") => `(tactic| first
  | ((with_reducible show GW _ (Expr.Name (Str.ofString "_law_purse_here") _) _ _ _ _); refine g_nm (i := 0) (N := nsLRows) scLRows.nd rfl at_z ?_)
  | ((with_reducible show GW _ (Expr.Name (Str.ofString "_law_found") _) _ _ _ _); refine g_nm (i := 1) (N := nsLRows) scLRows.nd rfl (at_s at_z) ?_)
  | ((with_reducible show GW _ (Expr.Name (Str.ofString "_law_title") _) _ _ _ _); refine g_nm (i := 2) (N := nsLRows) scLRows.nd rfl (at_s (at_s at_z)) ?_))
def spLRows (K : PySem.W.Frag) : Sp := fun vs H Q _ => ∃ (p : Addr) (t : Nat) (G : Hp), vs = [.ref p] ∧ Pu H p t ∧ t ≤ 2 ^ 60 ∧ Same G H ∧ G p = none ∧
  ∀ l G' H' rows xs, OkR rows → Gr G (ers H p) G' H' → G' p = none → Pu H' p (t + 100) → H l = none → G' l = some (.lst xs) → DqAll K G' xs (rowsD rows) → Q (.ref l) H'
theorem bLRows (DD : DefZ P w K mg base "_law_draw" 2 ["_law_purse_here", "_law_out_of"] spDraw) : BodyZ P w K mg base nsLRows "_law_rows" sLRows f 2 (spLRows K) := by
  intro X cd A outer s H vs Q E hX hr tk hs
  subst hX
  obtain ⟨p, t, G, rfl, pu, ht, sG, Gp, hQ⟩ := hs
  walk_at "z"
  refine ⟨szL, fun T0 H1 n1 => ?_⟩
  walk_at "z"
  refine ⟨szL, fun F H2 n2 => ?_⟩
  walk_at "st"
  have hp : ∃ o, H p = some o := ⟨_, pu.choose_spec.choose_spec.choose_spec.1⟩
  obtain ⟨op, hp⟩ := hp
  have Tp : T0 ≠ p := fun z => by have := n1.free; rw [z, hp] at this; cases this
  have hp1 := n1.same _ _ hp
  have Fp : F ≠ p := fun z => by have := n2.free; rw [z, hp1] at this; cases this
  have F0 : ers H p F = none := ers_free (n1.same.free n2.free)
  have g1 : Gr G (ers H p) (upd G T0 (.tup [.str "int", .int 0])) H1 := (Gr.start sG Gp).trans (.new sG n1)
  have G1p : (upd G T0 (.tup [.str "int", .int 0])) p = none := by rw [upd_ne (Ne.symm Tp)]; exact Gp
  have G1F : (upd G T0 (.tup [.str "int", .int 0])) F = none := g1.gh.free n2.free
  have g2 := g1.step n2.same
  refine s_for (i_list ?_)
  refine e_sl sl_listN ?_
  walk_at "z"
  refine ⟨szL, fun L H3 n3 => ?_⟩
  walk_at "z"
  refine e_call DD hr tk ?_
  walk_at "z"
  refine ⟨p, 3, t, rfl, pu.of (fun o e => n3.same _ _ (n2.same _ _ (n1.same _ _ e))) (Nat.le_refl _), by omega, by decide, by decide, fun r o r0 r1 pu1 => ?_⟩
  walk_at "z"
  refine ⟨_, rfl, ?_⟩
  have Lp : L ≠ p := fun z => by have := n3.free; rw [z, n2.same _ _ hp1] at this; cases this
  have hL : (upd H3 p o) L = some (.lst (titles.map V.str)) := by rw [upd_ne Lp]; exact n3.here
  refine ⟨L, titles.map V.str, rfl, .inl (.inl hL), fun q H4 n4 => ?_⟩
  obtain ⟨n, rfl⟩ : ∃ n : Nat, r = (n : Int) := ⟨r.toNat, by omega⟩
  rw [show (1 + (n : Int)) = ((1 + n : Nat) : Int) by omega, cutV_to V.str titles (by show 1 + n ≤ 4; omega)] at n4
  have g3 : Gr G (ers H p) (upd G T0 (.tup [.str "int", .int 0])) (upd H3 p o) := (g2.step n3.same).write ers_self G1p
  have g4 := g3.trans (.new g3.gh n4)
  have FL : F ≠ L := fun z => by have := n3.free; rw [← z, n2.here] at this; cases this
  have h3F : (upd H3 p o) F = some (.lst [.ref T0]) := by rw [upd_ne Fp]; exact n3.same _ _ n2.here
  have qF : q ≠ F := fun z => by have := n4.free; rw [z, h3F] at this; cases this
  have qp : q ≠ p := fun z => by have := n4.free; rw [z, upd_same] at this; cases this
  generalize hG4 : upd (upd G T0 (.tup [.str "int", .int 0])) q (.lst ((titles.take (1 + n)).map V.str)) = G4 at g4
  have G4q : G4 q = some (.lst ((titles.take (1 + n)).map V.str)) := by rw [← hG4]; exact upd_same
  have G4p : G4 p = none := by rw [← hG4, upd_ne (Ne.symm qp)]; exact G1p
  have G4F : G4 F = none := by rw [← hG4, upd_ne (Ne.symm qF)]; exact G1F
  have G4T : G4 T0 = some (.tup [.str "int", .int 0]) := by
    rw [← hG4, upd_ne (fun z => by have := n4.free; rw [← z, upd_ne Tp, n3.same _ _ (n2.same _ _ n1.here)] at this; cases this)]
    exact upd_same
  have tl : (titles.take (1 + n)).length = 1 + n := by rw [List.length_take]; show min (1 + n) 4 = 1 + n; omega
  refine ⟨q, _, rfl, .inl (.inl n4.here), ?_⟩
  refine ⟨fun i σ' H' => ∃ ars fs G' x, σ' = [some (.ref p), some (.ref F), x] ∧ Gr G (ers H p) G' H' ∧ Same G4 G' ∧ G' p = none ∧ Pu H' p (t + 10 + 10 * i) ∧ G' F = none ∧ H' F = some (.lst fs) ∧ DqAll K G' fs (rowsD (("int", 0) :: (titles.take i).zip ars)) ∧ ars.length = i ∧ (∀ a ∈ ars, a = 0 ∨ a = 1 ∨ a = 2), ?_, ?_, ?_, ?_⟩
  · exact ⟨[], [.ref T0], G4, _, rfl, g4, Same.refl _, G4p, pu1.of (fun o e => n4.same _ _ e) (by omega), G4F, n4.same _ _ h3F, .cons (.tup (.inl (.inl G4T)) (.cons (.str _) (.cons (.int _) .nil))) .nil, rfl, by simp⟩
  · rintro i σ' H' _ ⟨_, _, G', _, _, g, s4, _⟩
    exact .inl (.inl (g.gh _ _ (s4 _ _ G4q)))
  · rintro i σ' H' x H2' hi ⟨ars, fs, G', x0, rfl, g, s4, Gp', pu', GF', HF', hd, hal, har⟩ ⟨rfl, ex⟩
    rw [List.length_map, tl] at hi
    obtain ⟨z, ez, rfl⟩ : ∃ z, titles[i]? = some z ∧ x = .str z := by
      rw [List.getElem?_map, List.getElem?_take, if_pos (by omega)] at ex
      cases q : titles[i]? with
      | none => rw [q] at ex; cases ex
      | some z => rw [q] at ex; cases ex; exact ⟨z, rfl, rfl⟩
    walk_at "tg"
    walk_at "z"
    refine e_bm PySem.F.plainAttrs_list PySem.F.slot_list_append PySem.F.type_list_append mt_append ?_
    walk_at "z1"
    refine ⟨.inl ⟨rfl, _, .inl (.inl HF')⟩, ?_⟩
    walk_at "z"
    refine e_ix ix_list ?_
    walk_at "z"
    refine ⟨szL, fun L2 H5 n5 => ?_⟩
    refine e_call DD hr tk ?_
    walk_at "z"
    refine ⟨p, 4, t + 10 + 10 * i, rfl, pu'.of (fun o e => n5.same _ _ e) (Nat.le_refl _), by omega, by decide, by decide, fun r2 o2 r20 r21 pu2 => ?_⟩
    have hp' : ∃ o, H2' p = some o := ⟨_, pu'.choose_spec.choose_spec.choose_spec.1⟩
    obtain ⟨op', hp'⟩ := hp'
    have L2p : L2 ≠ p := fun z => by have := n5.free; rw [z, hp'] at this; cases this
    obtain ⟨a, ha, hav⟩ : ∃ a : Int, atI [V.int 0, .int 1, .int 1, .int 2] r2 = some (.int a) ∧ (a = 0 ∨ a = 1 ∨ a = 2) := by
      have : r2 = 0 ∨ r2 = 1 ∨ r2 = 2 ∨ r2 = 3 := by omega
      rcases this with rfl | rfl | rfl | rfl
      · exact ⟨0, rfl, by simp⟩
      · exact ⟨1, rfl, by simp⟩
      · exact ⟨1, rfl, by simp⟩
      · exact ⟨2, rfl, by simp⟩
    refine ⟨L2, _, r2, .int a, rfl, rfl, .inl (.inl (by rw [upd_ne L2p]; exact n5.here)), ha, ?_⟩
    walk_at "z"
    refine ⟨szL, fun T H7 n7 => ?_⟩
    have g6 : Gr G (ers H p) G' (upd H5 p o2) := (g.step n5.same).write ers_self Gp'
    have g7 := g6.trans (.new g6.gh n7)
    have h6F : (upd H5 p o2) F = some (.lst fs) := by rw [upd_ne Fp]; exact n5.same _ _ HF'
    have TF : T ≠ F := fun z => by have := n7.free; rw [z, h6F] at this; cases this
    have Tp' : T ≠ p := fun z => by have := n7.free; rw [z, upd_same] at this; cases this
    walk_at "z"
    have fl : fs.length = i + 1 := by
      rw [DqAll.length hd, List.length_map, List.length_cons, List.length_zip, hal, List.length_take]
      show min (min i 4) i + 1 = i + 1
      omega
    refine ⟨F, fs, .ref T, rfl, rfl, n7.same _ _ h6F, small1000 (by omega), ?_⟩
    have S7 : Same G' (upd G' T (.tup [.str z, .int a])) := same_upd (g6.gh.free n7.free)
    have GF7 : (upd G' T (.tup [.str z, .int a])) F = none := by rw [upd_ne (Ne.symm TF)]; exact GF'
    walk_at "z"
    refine ⟨ars ++ [a], fs ++ [.ref T], _, _, rfl, g7.write F0 GF7, s4.trans S7, by rw [upd_ne (Ne.symm Tp')]; exact Gp', ?_, GF7, upd_same, ?_, by rw [List.length_append, hal]; rfl, ?_⟩
    · refine pu2.of (fun o e => ?_) (by omega)
      rw [upd_ne (Ne.symm Fp)]
      exact n7.same _ _ e
    · have e : (titles.take (i + 1)).zip (ars ++ [a]) = (titles.take i).zip ars ++ [(z, a)] := by
        rw [take_snoc ez, List.zip_append (by rw [List.length_take, hal]; show min i 4 = i; omega)]
        rfl
      show DqAll K _ _ (rowsD (("int", 0) :: (titles.take (i + 1)).zip (ars ++ [a])))
      rw [e]
      show DqAll K _ _ ((rowD ("int", 0)) :: ((titles.take i).zip ars ++ [(z, a)]).map rowD)
      rw [List.map_append]
      exact DqAll.snoc (Dq.keepAll S7 _ _ hd) (.tup (.inl (.inl upd_same)) (.cons (.str _) (.cons (.int _) .nil)))
    · intro b hb
      rcases List.mem_append.mp hb with hb | hb
      · exact har b hb
      · obtain rfl : b = a := by simpa using hb
        exact hav
  · rintro σ' H' ⟨ars, fs, G', x0, rfl, g, s4, Gp', pu', GF', HF', hd, hal, har⟩
    rw [List.length_map, tl] at hal hd pu'
    walk_at "z"
    obtain ⟨g2', s2'⟩ := g.put F0 GF' HF'
    refine hQ F _ H' (("int", 0) :: (titles.take (1 + n)).zip ars) fs ⟨ars, arsAll_mem (by omega) (by omega) har, ?_⟩ g2' (by rw [upd_ne (Ne.symm Fp)]; exact Gp') (pu'.of (fun _ e => e) (by omega)) (n1.same.free n2.free) upd_same (Dq.keepAll s2' _ _ hd)
    unfold mkRows
    rw [← hal, zip_take]
abbrev sFlat : Stmt := topS 25
abbrev nsFlat : List Str := ["_law_sizes", "_law_found", "_law_some"]
theorem scFlat : FnScope nsFlat ["_law_sizes"] (defScope sFlat) := ⟨rfl, rfl, rfl, by decide +kernel, rfl, by decide +kernel, by decide +kernel⟩
local macro_rules | `(tactic| walk_at "nm") => `(tactic| first
  | ((with_reducible show EW _ (Expr.Name (Str.ofString "_law_sizes") _) _ _ _); refine e_nm (i := 0) (N := nsFlat) rfl at_z rfl ?_)
  | ((with_reducible show EW _ (Expr.Name (Str.ofString "_law_found") _) _ _ _); refine e_nm (i := 1) (N := nsFlat) rfl (at_s at_z) rfl ?_)
  | ((with_reducible show EW _ (Expr.Name (Str.ofString "_law_some") _) _ _ _); refine e_nm (i := 2) (N := nsFlat) rfl (at_s (at_s at_z)) rfl ?_))
local macro_rules | `(tactic| walk_at "set") => `(tactic| first
  | ((with_reducible show SW _ (Stmt.Assign [Expr.Name (Str.ofString "_law_sizes") _] _ _) _ _ _); refine s_set (i := 0) (N := nsFlat) scFlat.nd rfl at_z ?_)
  | ((with_reducible show SW _ (Stmt.Assign [Expr.Name (Str.ofString "_law_found") _] _ _) _ _ _); refine s_set (i := 1) (N := nsFlat) scFlat.nd rfl (at_s at_z) ?_)
  | ((with_reducible show SW _ (Stmt.Assign [Expr.Name (Str.ofString "_law_some") _] _ _) _ _ _); refine s_set (i := 2) (N := nsFlat) scFlat.nd rfl (at_s (at_s at_z)) ?_))
local macro_rules | `(tactic| walk_at "tg") => `(tactic| first
  | ((with_reducible show GW _ (Expr.Name (Str.ofString "_law_sizes") _) _ _ _ _); refine g_nm (i := 0) (N := nsFlat) scFlat.nd rfl at_z ?_)
  | ((with_reducible show GW _ (Expr.Name (Str.ofString "_law_found") _) _ _ _ _); refine g_nm (i := 1) (N := nsFlat) scFlat.nd rfl (at_s at_z) ?_)
  | ((with_reducible show GW _ (Expr.Name (Str.ofString "_law_some") _) _ _ _ _); refine g_nm (i := 2) (N := nsFlat) scFlat.nd rfl (at_s (at_s at_z)) ?_))
def spFlat (K : PySem.W.Frag) : Sp := fun vs H Q _ => ∃ (a : Addr) (G : Hp) (ls : List Addr) (bs : List (List PyData)), vs = [.ref a] ∧ Same G H ∧ G a = some (.lst (ls.map V.ref)) ∧ AllT K G ls bs ∧ bs.flatten.length < sizeLine ∧
  ∀ l G' H' xs, Gr G H G' H' → H l = none → G' l = some (.lst xs) → DqAll K G' xs bs.flatten → Q (.ref l) H'
theorem bFlat : BodyZ P w K mg base nsFlat "_law_flat" sFlat f 0 (spFlat K) := by
  intro X cd A outer s H vs Q E hX hr tk hs
  subst hX
  obtain ⟨a, G, ls, bs, rfl, sG, ha, hT, hlen, hQ⟩ := hs
  walk_at "z"
  refine ⟨szL, fun F H1 n1 => ?_⟩
  walk_at "st"
  have hl := Paired.length hT
  have g1 : Gr G H (upd G F (.lst [])) H1 := .new sG n1
  refine s_for (i_list ?_)
  walk_at "z1"
  refine ⟨a, _, rfl, .inl (.inl (n1.same _ _ (sG _ _ ha))), ?_⟩
  refine ⟨fun i σ' H' => ∃ x F fs G', σ' = [some (.ref a), some (.ref F), x] ∧ Gr G H G' H' ∧ G' F = some (.lst fs) ∧ H F = none ∧ DqAll K G' fs (bs.take i).flatten, ?_, ?_, ?_, ?_⟩
  · exact ⟨_, F, [], _, rfl, g1, upd_same, n1.free, .nil⟩
  · rintro i σ' H' _ ⟨_, _, _, G', _, g, _⟩
    exact .inl (.inl (g.gh _ _ (g.gg _ _ ha)))
  · rintro i σ' H' x H2' hi ⟨x0, F, fs, G', rfl, g, hF, F0, hd⟩ ⟨rfl, ex⟩
    rw [List.length_map] at hi
    obtain ⟨l, el, rfl⟩ : ∃ l, ls[i]? = some l ∧ x = .ref l := by
      rw [List.getElem?_map] at ex
      cases q : ls[i]? with
      | none => rw [q] at ex; cases ex
      | some z => rw [q] at ex; cases ex; exact ⟨z, rfl, rfl⟩
    obtain ⟨ds, eds, xs, hx, hdx⟩ := Paired.at hT el
    have et : (bs.take (i + 1)).flatten = (bs.take i).flatten ++ ds := by
      rw [take_snoc eds, List.flatten_append]
      simp
    have lt : (bs.take (i + 1)).flatten.length ≤ bs.flatten.length := by
      have e : bs = bs.take (i + 1) ++ bs.drop (i + 1) := (List.take_append_drop _ _).symm
      have : bs.flatten.length = (bs.take (i + 1)).flatten.length + (bs.drop (i + 1)).flatten.length := by
        rw [← List.length_append, ← List.flatten_append, List.take_append_drop]
      omega
    rw [et, List.length_append] at lt
    have l1 := DqAll.length hd
    have l2 := DqAll.length hdx
    walk_at "tg"
    walk_at "z"
    refine .inr (.inl ⟨F, l, fs, xs, rfl, rfl, g.gh _ _ hF, g.gh _ _ (g.gg _ _ hx), by omega, fun q H6 n6 => ?_⟩)
    walk_at "z"
    have S6 : Same G' (upd G' q (.lst (fs ++ xs))) := same_upd (g.gh.free n6.free)
    refine ⟨_, q, fs ++ xs, _, rfl, g.trans (.new g.gh n6), upd_same, g.hh.free n6.free, ?_⟩
    rw [et]
    exact DqAll.append (Dq.keepAll S6 _ _ hd) (Dq.keepAll (g.gg.trans S6) _ _ hdx)
  · rintro σ' H' ⟨x0, F, fs, G', rfl, g, hF, F0, hd⟩
    rw [List.take_of_length_le (by rw [List.length_map]; omega)] at hd
    walk_at "z"
    exact hQ F G' H' fs g F0 hF hd
end
end L2.Z.Law

set_option maxHeartbeats 1000000
namespace L2.Z.Law
open PySem PySem.Spec PyProof.Rows PySem.ZX
local macro_rules | `(tactic| walk_at "zi") => `(tactic| refine ⟨_, _, rfl, rfl, ?_⟩)
local macro_rules | `(tactic| walk_at "zmod") => `(tactic| refine ⟨_, _, rfl, rfl, (show (0 : Int) < _ by first | decide | omega), ?_⟩)
local macro_rules | `(tactic| walk_at "zdiv") => `(tactic| refine ⟨_, _, rfl, rfl, ⟨(show (0 : Int) < _ by first | decide | omega), ?_⟩, ?_⟩)
local macro_rules | `(tactic| walk_at "z1") => `(tactic| first
  | ((with_reducible show EW _ (Expr.Name _ _) _ _ _); walk_at "nm")
  | ((with_reducible show EW _ (Expr.Constant _ _ _) _ _ _); first | with_reducible refine e_int ?_ | with_reducible refine e_str ?_ | with_reducible refine e_bl ?_ | with_reducible refine e_non ?_)
  | ((with_reducible show EW _ (Expr.BinOp _ Operator.Add _ _) _ _ _); refine e_op z_add ?_)
  | ((with_reducible show EW _ (Expr.BinOp _ Operator.Sub _ _) _ _ _); refine e_op op_sub ?_)
  | ((with_reducible show EW _ (Expr.BinOp _ Operator.Mult _ _) _ _ _); refine e_op z_mul ?_)
  | ((with_reducible show EW _ (Expr.BinOp _ Operator.Mod _ _) _ _ _); refine e_op op_mod ?_)
  | ((with_reducible show EW _ (Expr.BinOp _ Operator.FloorDiv _ _) _ _ _); refine e_op op_fdivW ?_)
  | ((with_reducible show EW _ (Expr.BinOp _ Operator.Pow _ _) _ _ _); refine e_op op_pow ?_)
  | ((with_reducible show EW _ (Expr.List _ _) _ _ _); refine e_lstN ?_)
  | ((with_reducible show EW _ (Expr.Tuple _ _ _) _ _ _); refine e_tupN ?_)
  | ((with_reducible show EW _ (Expr.Subscript _ (Expr.Slice _ _ _ _) _) _ _ _); refine e_sl sl_listN ?_)
  | ((with_reducible show EW _ (Expr.Dict [] [] _) _ _ _); refine e_dKN ?_)
  | ((with_reducible show EW _ (Expr.BoolOp BoolOp.And [_] _) _ _ _); refine e_one ?_)
  | ((with_reducible show EW _ (Expr.BoolOp BoolOp.Or [_] _) _ _ _); refine e_one ?_)
  | ((with_reducible show EW _ (Expr.BoolOp BoolOp.And _ _) _ _ _); refine e_and ?_)
  | ((with_reducible show EW _ (Expr.BoolOp BoolOp.Or _ _) _ _ _); refine e_or ?_)
  | ((with_reducible show EW _ (Expr.IfExp _ _ _ _) _ _ _); refine e_if ?_)
  | ((with_reducible show AW _ [] _ _ _); refine a_nil ?_)
  | ((with_reducible show AW _ (_ :: _) _ _ _); refine a_cons ?_)
  | ((with_reducible show OW _ none _ _ _); refine o_no ?_)
  | ((with_reducible show OW _ (some _) _ _ _); refine o_so ?_)
  | ((with_reducible show TW _ (Expr.UnaryOp UnaryOp.Not _ _) _ _ _); refine t_not ?_)
  | ((with_reducible show TW _ (Expr.BoolOp _ _ _) _ _ _); refine t_w ?_)
  | ((with_reducible show PWW _ (Expr.BoolOp BoolOp.And [_] _) _ _ _); refine w_and1 ?_)
  | ((with_reducible show PWW _ (Expr.BoolOp BoolOp.Or [_] _) _ _ _); refine w_or1 ?_)
  | ((with_reducible show PWW _ (Expr.BoolOp BoolOp.And _ _) _ _ _); refine w_and ?_)
  | ((with_reducible show PWW _ (Expr.BoolOp BoolOp.Or _ _) _ _ _); refine w_or ?_)
  | ((with_reducible show SW _ (Stmt.Return (some _) _) _ _ _); refine s_ret ?_)
  | ((with_reducible show SW _ (Stmt.If _ _ _ _) _ _ _); refine s_if ?_)
  | ((with_reducible show SW _ (Stmt.Expr _ _) _ _ _); refine s_expr ?_)
  | ((with_reducible show SW _ (Stmt.Assign [Expr.Name _ _] _ _) _ _ _); walk_at "set")
  | ((with_reducible show BW _ [_] _ _ _); (first | (with_reducible refine b_one ?_) | refine b_one ?_))
  | ((with_reducible show BW _ [] _ _ _); refine b_nil ?_)
  | ((with_reducible show BW _ _ _ _ _); (first | (with_reducible refine b_cons ?_) | refine b_cons ?_))
  | ((with_reducible show rAddZ _ _ _ _ _); refine Or.inl ⟨_, _, rfl, rfl, ?_⟩)
  | ((with_reducible show rI0 _ _ _ _ _); refine ⟨_, _, rfl, rfl, ?_⟩)
  | ((with_reducible show rI (fun _ j => 0 < j) _ _ _ _ _); refine ⟨_, _, rfl, rfl, (show (0 : Int) < _ by first | decide | omega), ?_⟩)
  | ((with_reducible show Ends.nx _ _ _); first | (with_reducible refine mk_nx ?_) | refine (show BW _ _ _ _ _ from ?_)))
local macro_rules | `(tactic| walk_at "z") => `(tactic| repeat walk_at "z1")
local macro_rules | `(tactic| walk_at "st") => `(tactic| repeat (first
  | ((with_reducible show Ends.nx _ _ _); first | (with_reducible refine mk_nx ?_) | refine (show BW _ _ _ _ _ from ?_))
  | ((with_reducible show BW _ _ _ _ _); (first | (with_reducible refine b_cons ?_) | refine b_cons ?_))))
section
variable {P : Program} {w : World} {K : PySem.W.Frag} {mg : Str → Option Value} {base : Heap} {f : Addr}
/-- how the making of types stands: sizes at L, the found ones at F -/
def TS (K : PySem.W.Frag) (G H : Hp) (L : Addr) (ls : List Addr) (bs : List (List PyData)) (F : Addr) (D : List PyData) (H3 : Hp) : Prop :=
  ∃ G3 fs, Gr G H G3 H3 ∧ G3 L = none ∧ H3 L = some (.lst (ls.map V.ref)) ∧ AllT K G3 ls bs ∧ G3 F = none ∧ H3 F = some (.lst fs) ∧ H F = none ∧ F ≠ L ∧ DqAll K G3 fs D
theorem leftOf_eq (bs : List (List PyData)) (i l : Nat) (z : Str) : leftOf bs i z l = (pairsOf (bs.getD (l + 1) []) (bs.getD (i - 1 - l) [])).map (tup3 z) := rfl
abbrev sTypes : Stmt := topS 26
abbrev nsTypes : List Str := ["_law_rows_here", "_law_most", "_law_sizes", "_law_total", "_law_size", "_law_found", "_law_title", "_law_arity", "_law_left", "_law_one", "_law_part", "_law_two"]
theorem scTypes : FnScope nsTypes ["_law_rows_here", "_law_most"] (defScope sTypes) := ⟨rfl, rfl, rfl, by decide +kernel, rfl, by decide +kernel, by decide +kernel⟩
local macro_rules | `(tactic| walk_at "nm") => `(tactic| first
  | ((with_reducible show EW _ (Expr.Name (Str.ofString "_law_rows_here") _) _ _ _); refine e_nm (i := 0) (N := nsTypes) rfl at_z rfl ?_)
  | ((with_reducible show EW _ (Expr.Name (Str.ofString "_law_most") _) _ _ _); refine e_nm (i := 1) (N := nsTypes) rfl (at_s at_z) rfl ?_)
  | ((with_reducible show EW _ (Expr.Name (Str.ofString "_law_sizes") _) _ _ _); refine e_nm (i := 2) (N := nsTypes) rfl (at_s (at_s at_z)) rfl ?_)
  | ((with_reducible show EW _ (Expr.Name (Str.ofString "_law_total") _) _ _ _); refine e_nm (i := 3) (N := nsTypes) rfl (at_s (at_s (at_s at_z))) rfl ?_)
  | ((with_reducible show EW _ (Expr.Name (Str.ofString "_law_size") _) _ _ _); refine e_nm (i := 4) (N := nsTypes) rfl (at_s (at_s (at_s (at_s at_z)))) rfl ?_)
  | ((with_reducible show EW _ (Expr.Name (Str.ofString "_law_found") _) _ _ _); refine e_nm (i := 5) (N := nsTypes) rfl (at_s (at_s (at_s (at_s (at_s at_z))))) rfl ?_)
  | ((with_reducible show EW _ (Expr.Name (Str.ofString "_law_title") _) _ _ _); refine e_nm (i := 6) (N := nsTypes) rfl (at_s (at_s (at_s (at_s (at_s (at_s at_z)))))) rfl ?_)
  | ((with_reducible show EW _ (Expr.Name (Str.ofString "_law_arity") _) _ _ _); refine e_nm (i := 7) (N := nsTypes) rfl (at_s (at_s (at_s (at_s (at_s (at_s (at_s at_z))))))) rfl ?_)
  | ((with_reducible show EW _ (Expr.Name (Str.ofString "_law_left") _) _ _ _); refine e_nm (i := 8) (N := nsTypes) rfl (at_s (at_s (at_s (at_s (at_s (at_s (at_s (at_s at_z)))))))) rfl ?_)
  | ((with_reducible show EW _ (Expr.Name (Str.ofString "_law_one") _) _ _ _); refine e_nm (i := 9) (N := nsTypes) rfl (at_s (at_s (at_s (at_s (at_s (at_s (at_s (at_s (at_s at_z))))))))) rfl ?_)
  | ((with_reducible show EW _ (Expr.Name (Str.ofString "_law_part") _) _ _ _); refine e_nm (i := 10) (N := nsTypes) rfl (at_s (at_s (at_s (at_s (at_s (at_s (at_s (at_s (at_s (at_s at_z)))))))))) rfl ?_)
  | ((with_reducible show EW _ (Expr.Name (Str.ofString "_law_two") _) _ _ _); refine e_nm (i := 11) (N := nsTypes) rfl (at_s (at_s (at_s (at_s (at_s (at_s (at_s (at_s (at_s (at_s (at_s at_z))))))))))) rfl ?_))
local macro_rules | `(tactic| walk_at "set") => `(tactic| first
  | ((with_reducible show SW _ (Stmt.Assign [Expr.Name (Str.ofString "_law_rows_here") _] _ _) _ _ _); refine s_set (i := 0) (N := nsTypes) scTypes.nd rfl at_z ?_)
  | ((with_reducible show SW _ (Stmt.Assign [Expr.Name (Str.ofString "_law_most") _] _ _) _ _ _); refine s_set (i := 1) (N := nsTypes) scTypes.nd rfl (at_s at_z) ?_)
  | ((with_reducible show SW _ (Stmt.Assign [Expr.Name (Str.ofString "_law_sizes") _] _ _) _ _ _); refine s_set (i := 2) (N := nsTypes) scTypes.nd rfl (at_s (at_s at_z)) ?_)
  | ((with_reducible show SW _ (Stmt.Assign [Expr.Name (Str.ofString "_law_total") _] _ _) _ _ _); refine s_set (i := 3) (N := nsTypes) scTypes.nd rfl (at_s (at_s (at_s at_z))) ?_)
  | ((with_reducible show SW _ (Stmt.Assign [Expr.Name (Str.ofString "_law_size") _] _ _) _ _ _); refine s_set (i := 4) (N := nsTypes) scTypes.nd rfl (at_s (at_s (at_s (at_s at_z)))) ?_)
  | ((with_reducible show SW _ (Stmt.Assign [Expr.Name (Str.ofString "_law_found") _] _ _) _ _ _); refine s_set (i := 5) (N := nsTypes) scTypes.nd rfl (at_s (at_s (at_s (at_s (at_s at_z))))) ?_)
  | ((with_reducible show SW _ (Stmt.Assign [Expr.Name (Str.ofString "_law_title") _] _ _) _ _ _); refine s_set (i := 6) (N := nsTypes) scTypes.nd rfl (at_s (at_s (at_s (at_s (at_s (at_s at_z)))))) ?_)
  | ((with_reducible show SW _ (Stmt.Assign [Expr.Name (Str.ofString "_law_arity") _] _ _) _ _ _); refine s_set (i := 7) (N := nsTypes) scTypes.nd rfl (at_s (at_s (at_s (at_s (at_s (at_s (at_s at_z))))))) ?_)
  | ((with_reducible show SW _ (Stmt.Assign [Expr.Name (Str.ofString "_law_left") _] _ _) _ _ _); refine s_set (i := 8) (N := nsTypes) scTypes.nd rfl (at_s (at_s (at_s (at_s (at_s (at_s (at_s (at_s at_z)))))))) ?_)
  | ((with_reducible show SW _ (Stmt.Assign [Expr.Name (Str.ofString "_law_one") _] _ _) _ _ _); refine s_set (i := 9) (N := nsTypes) scTypes.nd rfl (at_s (at_s (at_s (at_s (at_s (at_s (at_s (at_s (at_s at_z))))))))) ?_)
  | ((with_reducible show SW _ (Stmt.Assign [Expr.Name (Str.ofString "_law_part") _] _ _) _ _ _); refine s_set (i := 10) (N := nsTypes) scTypes.nd rfl (at_s (at_s (at_s (at_s (at_s (at_s (at_s (at_s (at_s (at_s at_z)))))))))) ?_)
  | ((with_reducible show SW _ (Stmt.Assign [Expr.Name (Str.ofString "_law_two") _] _ _) _ _ _); refine s_set (i := 11) (N := nsTypes) scTypes.nd rfl (at_s (at_s (at_s (at_s (at_s (at_s (at_s (at_s (at_s (at_s (at_s at_z))))))))))) ?_))
local macro_rules | `(tactic| walk_at "tg") => `(tactic| first
  | ((with_reducible show GW _ (Expr.Name (Str.ofString "_law_rows_here") _) _ _ _ _); refine g_nm (i := 0) (N := nsTypes) scTypes.nd rfl at_z ?_)
  | ((with_reducible show GW _ (Expr.Name (Str.ofString "_law_most") _) _ _ _ _); refine g_nm (i := 1) (N := nsTypes) scTypes.nd rfl (at_s at_z) ?_)
  | ((with_reducible show GW _ (Expr.Name (Str.ofString "_law_sizes") _) _ _ _ _); refine g_nm (i := 2) (N := nsTypes) scTypes.nd rfl (at_s (at_s at_z)) ?_)
  | ((with_reducible show GW _ (Expr.Name (Str.ofString "_law_total") _) _ _ _ _); refine g_nm (i := 3) (N := nsTypes) scTypes.nd rfl (at_s (at_s (at_s at_z))) ?_)
  | ((with_reducible show GW _ (Expr.Name (Str.ofString "_law_size") _) _ _ _ _); refine g_nm (i := 4) (N := nsTypes) scTypes.nd rfl (at_s (at_s (at_s (at_s at_z)))) ?_)
  | ((with_reducible show GW _ (Expr.Name (Str.ofString "_law_found") _) _ _ _ _); refine g_nm (i := 5) (N := nsTypes) scTypes.nd rfl (at_s (at_s (at_s (at_s (at_s at_z))))) ?_)
  | ((with_reducible show GW _ (Expr.Name (Str.ofString "_law_title") _) _ _ _ _); refine g_nm (i := 6) (N := nsTypes) scTypes.nd rfl (at_s (at_s (at_s (at_s (at_s (at_s at_z)))))) ?_)
  | ((with_reducible show GW _ (Expr.Name (Str.ofString "_law_arity") _) _ _ _ _); refine g_nm (i := 7) (N := nsTypes) scTypes.nd rfl (at_s (at_s (at_s (at_s (at_s (at_s (at_s at_z))))))) ?_)
  | ((with_reducible show GW _ (Expr.Name (Str.ofString "_law_left") _) _ _ _ _); refine g_nm (i := 8) (N := nsTypes) scTypes.nd rfl (at_s (at_s (at_s (at_s (at_s (at_s (at_s (at_s at_z)))))))) ?_)
  | ((with_reducible show GW _ (Expr.Name (Str.ofString "_law_one") _) _ _ _ _); refine g_nm (i := 9) (N := nsTypes) scTypes.nd rfl (at_s (at_s (at_s (at_s (at_s (at_s (at_s (at_s (at_s at_z))))))))) ?_)
  | ((with_reducible show GW _ (Expr.Name (Str.ofString "_law_part") _) _ _ _ _); refine g_nm (i := 10) (N := nsTypes) scTypes.nd rfl (at_s (at_s (at_s (at_s (at_s (at_s (at_s (at_s (at_s (at_s at_z)))))))))) ?_)
  | ((with_reducible show GW _ (Expr.Name (Str.ofString "_law_two") _) _ _ _ _); refine g_nm (i := 11) (N := nsTypes) scTypes.nd rfl (at_s (at_s (at_s (at_s (at_s (at_s (at_s (at_s (at_s (at_s (at_s at_z))))))))))) ?_))
def spTypesL (K : PySem.W.Frag) : Sp := fun vs H Q _ => ∃ (a : Addr) (most : Int) (G : Hp) (rows : List (Str × Int)) (xs : List V), vs = [.ref a, .int most] ∧ Same G H ∧ OkR rows ∧ G a = some (.lst xs) ∧ DqAll K G xs (rowsD rows) ∧ 0 ≤ most ∧
  ∀ k L G' H' ls, 1 ≤ k → k ≤ 6 → Gr G H G' H' → H L = none → G' L = some (.lst (ls.map V.ref)) → AllT K G' ls (tySizes rows k) → Q (.ref L) H'
theorem bTypesL (SS : Sys base) (mr : mg "range" = none) (ms : mg "sorted" = none) (ml : mg "len" = none) : BodyZ P w K mg base nsTypes "_law_types" sTypes f 0 (spTypesL K) := by
  intro X cd A outer s H vs Q E hX hr tk hs
  subst hX
  have hu := hr.r.units
  obtain ⟨a, most, G, rows, xs, rfl, sG, ok, ha, hrows, hm0, hQ⟩ := hs
  have hxl := DqAll.length hrows
  rw [List.length_map] at hxl
  have hrl := ok.len
  walk_at "st"
  refine s_par (i := 2) (j := 3) (N := nsTypes) scTypes.nd rfl (at_s (at_s at_z)) (at_s (at_s (at_s at_z))) (by decide) ?_
  walk_at "z"
  refine ⟨szL, fun E0 H1 n1 => ?_⟩
  walk_at "z"
  refine ⟨szL, fun L H2 n2 => ?_⟩
  walk_at "z"
  refine ⟨_, _, rfl, ?_⟩
  have L0 : H L = none := n1.same.free n2.free
  have g1 : Gr G H (upd G E0 (.lst [])) H1 := .new sG n1
  have g2 := g1.step n2.same
  have G1L : (upd G E0 (.lst [])) L = none := g1.gh.free n2.free
  walk_at "st"
  refine s_while (fun m σ' H' => ∃ k ls G' tot o4 o5 o6 o7 o8 o9 o10 o11, m = 7 - k ∧ k ≤ 6 ∧ σ' = [some (.ref a), some (.int most), some (.ref L), some (.int tot), o4, o5, o6, o7, o8, o9, o10, o11] ∧ Gr G H G' H' ∧ G' L = none ∧ H' L = some (.lst (ls.map V.ref)) ∧ AllT K G' ls (tySizes rows k) ∧ (k = 0 → tot = 0)) 7 ?_ ?_
  · exact ⟨0, [E0], _, _, _, _, _, _, _, _, _, _, rfl, by omega, rfl, g2, G1L, n2.here, .cons ⟨[], upd_same, .nil⟩ .nil, fun _ => rfl⟩
  rintro m σ' H' ⟨k, ls, G', tot, o4, o5, o6, o7, o8, o9, o10, o11, rfl, hk, rfl, g, gL, hL, hT, htot⟩
  have hll : ls.length = k + 1 := (Paired.length hT).trans (tySizes_len rows k)
  have out : ∀ {σ'' : St}, (σ'' = [some (.ref a), some (.int most), some (.ref L), some (.int tot), o4, o5, o6, o7, o8, o9, o10, o11]) → 1 ≤ k → Q (.ref L) H' := fun _ h1 => by
    obtain ⟨g', s'⟩ := g.put L0 gL hL
    exact hQ k L _ H' ls h1 hk g' L0 upd_same (hT.keep s')
  refine t_w (w_and (t_cmp op_lt ?_))
  refine e_callB call_len_seq ml PySem.boot_len ?_
  walk_at "z"
  refine ⟨_, _, rfl, .inl (.inl (.inl hL)), ?_⟩
  walk_at "z"
  refine ⟨_, rfl, ?_⟩
  rw [List.length_map, hll]
  by_cases h7 : k = 6
  · refine (if_neg (by simp; omega)).mpr ?_
    refine (if_neg (by simp)).mpr ?_
    walk_at "z"
    exact out rfl (by omega)
  refine (if_pos (by simp; omega)).mpr ?_
  refine w_and1 (t_cmp op_le ?_)
  walk_at "z"
  refine ⟨_, rfl, ?_⟩
  by_cases htm : tot ≤ most
  rotate_left
  · refine (if_neg (by simpa using htm)).mpr ?_
    walk_at "z"
    exact out rfl (by
      rcases Nat.eq_zero_or_pos k with z | z
      · have := htot z; omega
      · exact z)
  refine (if_pos (by simpa using htm)).mpr ?_
  have hk5 : k < 6 := by omega
  have cap := ok.cap hk5
  walk_at "st"
  refine s_par (i := 4) (j := 5) (N := nsTypes) scTypes.nd rfl (at_s (at_s (at_s (at_s at_z)))) (at_s (at_s (at_s (at_s (at_s at_z))))) (by decide) ?_
  walk_at "z1"
  refine e_callB call_len_seq ml PySem.boot_len ?_
  walk_at "z"
  refine ⟨_, _, rfl, .inl (.inl (.inl hL)), ?_⟩
  walk_at "z"
  refine ⟨szL, fun F H4 n4 => ?_⟩
  walk_at "z"
  refine ⟨_, _, rfl, ?_⟩
  rw [List.length_map, hll]
  walk_at "st"
  have FL : F ≠ L := fun z => by have := n4.free; rw [z, hL] at this; cases this
  have Gcat : ∀ {H5 H6 : Hp} {F1 q F2 : Addr} {G5 : Hp} {xs5 : List V}, True := fun {_ _ _ _ _ _ _} => trivial
  refine s_for (i_list ?_)
  walk_at "z1"
  have gg4 : Gr G H G' H4 := g.step n4.same
  refine ⟨a, xs, rfl, .inl (.inl (gg4.gh _ _ (g.gg _ _ ha))), ?_⟩
  refine ⟨fun j σ'' H'' => ∃ F o6 o7 o8 o9 o10 o11, σ'' = [some (.ref a), some (.int most), some (.ref L), some (.int tot), some (.int ((k + 1 : Nat) : Int)), some (.ref F), o6, o7, o8, o9, o10, o11] ∧ TS K G H L ls (tySizes rows k) F (foundAt (rows.take j) (tySizes rows k) (k + 1)) H'', ?_, ?_, ?_, ?_⟩
  · exact ⟨F, _, _, _, _, _, _, rfl, G', [], gg4, gL, n4.same _ _ hL, hT, g.gh.free n4.free, n4.here, g.hh.free n4.free, FL, by show DqAll K _ [] (foundAt (rows.take 0) _ _); rw [List.take_zero]; exact .nil⟩
  · rintro j σ'' H'' _ ⟨_, _, _, _, _, _, _, _, G3, _, g3, _⟩
    exact .inl (.inl (g3.gh _ _ (g3.gg _ _ ha)))
  · rintro j σ'' H'' x H2'' hj ⟨F, o6, o7, o8, o9, o10, o11, rfl, ts⟩ ⟨rfl, ex⟩
    obtain ⟨dr, edr, hdr⟩ := DqAll.get hrows ex
    obtain ⟨r, er, rfl⟩ : ∃ r, rows[j]? = some r ∧ rowD r = dr := by
      rw [List.getElem?_map] at edr
      cases q : rows[j]? with
      | none => rw [q] at edr; cases edr
      | some p => rw [q] at edr; cases edr; exact ⟨p, rfl, rfl⟩
    obtain ⟨b, rfl, sqb⟩ := Dq.row hdr
    have sq2 : ∀ H', Same G H' → SqT K H' b [.str r.1, .int r.2] := fun H' s => sqb.imp (fun z => z.imp (s _ _) fun ⟨o, z⟩ => ⟨o, s _ _ z⟩) id
    have ft : foundAt (rows.take (j + 1)) (tySizes rows k) (k + 1) = foundAt (rows.take j) (tySizes rows k) (k + 1) ++ ofRow (tySizes rows k) (k + 1) r := by
      rw [List.take_add_one, er]
      simp [foundAt]
    have hlen2 : (foundAt (rows.take (j + 1)) (tySizes rows k) (k + 1)).length < 1000 := by
      refine Nat.lt_of_le_of_lt ?_ cap
      have : (foundAt rows (tySizes rows k) (k + 1)).length = (foundAt (rows.take (j + 1)) (tySizes rows k) (k + 1)).length + (foundAt (rows.drop (j + 1)) (tySizes rows k) (k + 1)).length := by
        rw [foundAt, foundAt, foundAt, ← List.length_append, ← List.flatMap_append, List.take_append_drop]
      omega
    rw [ft, List.length_append] at hlen2
    have done : ∀ F o6 o7 o8 o9 o10 o11 D, D = foundAt (rows.take (j + 1)) (tySizes rows k) (k + 1) → ∀ H5, TS K G H L ls (tySizes rows k) F D H5 → ∃ F' p6 p7 p8 p9 p10 p11, [some (.ref a), some (.int most), some (.ref L), some (.int tot), some (.int ((k + 1 : Nat) : Int)), some (.ref F), o6, o7, o8, o9, o10, o11] = [some (.ref a), some (.int most), some (.ref L), some (.int tot), some (V.int ((k + 1 : Nat) : Int)), some (.ref F'), p6, p7, p8, p9, p10, p11] ∧ TS K G H L ls (tySizes rows k) F' (foundAt (rows.take (j + 1)) (tySizes rows k) (k + 1)) H5 :=
      fun F o6 o7 o8 o9 o10 o11 D e H5 t => ⟨F, _, _, _, _, _, _, rfl, e ▸ t⟩
    have sG2 : Same G H2'' := by obtain ⟨G3, _, g3, _⟩ := ts; exact g3.gg.trans g3.gh
    refine g_tup rfl ⟨b, [.str r.1, .int r.2], rfl, sq2 _ sG2, rfl, ?_⟩
    refine gs_cons ?_
    walk_at "tg"
    refine gs_cons ?_
    walk_at "tg"
    refine gs_nil ?_
    walk_at "st"
    refine s_if (t_w (w_and (t_cmp op_eq ?_)))
    walk_at "z"
    refine ⟨rfl, _, rfl, ?_⟩
    by_cases h0 : r.2 = 0
    · refine (if_pos (by simp [h0])).mpr ?_
      refine w_and1 (t_cmp op_eq ?_)
      walk_at "z"
      refine ⟨rfl, _, rfl, ?_⟩
      have skip1 : (V.int r.2 = V.int 1) = False := by simp [h0]
      by_cases h1 : k = 0
      · refine (if_pos (by simp [h1])).mpr ?_
        obtain ⟨G3, fs, g3, g3L, h3L, t3, g3F, h3F, F0, nFL, hd⟩ := ts
        have hfl := DqAll.length hd
        walk_at "st"
        walk_at "z1"
        refine e_bm PySem.F.plainAttrs_list PySem.F.slot_list_append PySem.F.type_list_append mt_append ?_
        walk_at "z1"
        refine ⟨.inl ⟨rfl, _, .inl (.inl h3F)⟩, ?_⟩
        walk_at "z"
        refine ⟨szL, fun T H6 n6 => ?_⟩
        walk_at "z1"
        refine ⟨F, fs, .ref T, rfl, rfl, n6.same _ _ h3F, small1000 (by omega), ?_⟩
        walk_at "z"
        refine t_cmp op_eq ?_
        walk_at "z"
        refine ⟨rfl, _, rfl, (if_neg (by simp [h0])).mpr ?_⟩
        walk_at "z"
        refine t_cmp op_eq ?_
        walk_at "z"
        refine ⟨rfl, _, rfl, (if_neg (by simp [h0])).mpr ?_⟩
        walk_at "z"
        have TF : T ≠ F := fun z => by have := n6.free; rw [z, h3F] at this; cases this
        have TL : T ≠ L := fun z => by have := n6.free; rw [z, h3L] at this; cases this
        have g6 := g3.trans (.new g3.gh n6)
        have gF6 : (upd G3 T (.tup [.str r.1])) F = none := by rw [upd_ne (Ne.symm TF)]; exact g3F
        have S6 : Same G3 (upd G3 T (.tup [.str r.1])) := same_upd (g3.gh.free n6.free)
        refine done F _ _ _ _ _ _ _ rfl _ ⟨upd G3 T (.tup [.str r.1]), fs ++ [.ref T], g6.write F0 gF6, by rw [upd_ne (Ne.symm TL)]; exact g3L, by rw [upd_ne (Ne.symm nFL)]; exact n6.same _ _ h3L, t3.keep S6, gF6, upd_same, F0, nFL, ?_⟩
        rw [ft]
        refine DqAll.append (Dq.keepAll S6 _ _ hd) ?_
        unfold ofRow
        rw [if_pos h0, if_pos (by omega)]
        exact .cons (.tup (.inl (.inl upd_same)) (.cons (.str _) .nil)) .nil
      · refine (if_neg (by simp; omega)).mpr ?_
        walk_at "z"
        refine t_cmp op_eq ?_
        walk_at "z"
        refine ⟨rfl, _, rfl, (if_neg (by simp [h0])).mpr ?_⟩
        walk_at "z"
        refine t_cmp op_eq ?_
        walk_at "z"
        refine ⟨rfl, _, rfl, (if_neg (by simp [h0])).mpr ?_⟩
        walk_at "z"
        refine done _ _ _ _ _ _ _ _ ?_ _ ts
        rw [ft, ofRow, if_pos h0, if_neg (by omega), List.append_nil]
    · refine (if_neg (by simp [h0])).mpr ?_
      refine (if_neg (by simp)).mpr ?_
      walk_at "z"
      refine t_cmp op_eq ?_
      walk_at "z"
      refine ⟨rfl, _, rfl, ?_⟩
      by_cases h1 : r.2 = 1
      · refine (if_pos (by simp [h1])).mpr ?_
        rw [ofRow1 h1, List.length_map] at hlen2
        obtain ⟨G3, fs, g3, g3L, h3L, t3, g3F, h3F, F0, nFL, hd⟩ := ts
        have hfl := DqAll.length hd
        obtain ⟨l, xs', e1, e2, hq⟩ := t3.at (i := k) (by rw [tySizes_len]; omega)
        have hxl' := DqAll.length hq
        walk_at "st"
        walk_at "z"
        refine e_lcN (own := [("_law_part", 10)]) scTypes.nd (show blkC nsTypes (defScope sTypes) _ _ = true by decide +kernel) (i_list ?_)
        refine e_ix ix_list ?_
        walk_at "z"
        refine ⟨L, _, (((k + 1 : Nat) : Int) - 1), .ref l, rfl, rfl, .inl (.inl h3L), by rw [show (((k + 1 : Nat) : Int) - 1) = (k : Int) by omega, atI_nat]; simp [e1], ?_⟩
        refine ⟨l, xs', rfl, .inl (.inl (g3.gh _ _ e2)), G3, fun j acc G => DqAll K G acc (((tySizes rows k).getD k []).take j |>.map fun p => .tuple [.str r.1, p]), g3.gh, Nat.le_trans (by omega) (show 1000 ≤ sizeLine by decide), .nil, fun i acc G5 H5 _ g5 _ => .inl (.inl (g5.hh _ _ (g3.gh _ _ e2))), ?_, ?_⟩
        · rintro u acc G5 H5 x H6' hu' hl g5 pv ⟨rfl, ex⟩ X' ⟨s', Hs, Cc, cl, fp, rfl⟩
          walk_at "tg"
          refine ⟨rfl, ?_⟩
          rintro X' ⟨s', Hs, Cc, cl, fp, rfl⟩
          refine ifs0 ?_
          rintro X' ⟨s', Hs, Cc, cl, fp, rfl⟩
          walk_at "z"
          refine ⟨szL, fun T H6 n6 => ⟨_, .new g5.gh n6, ?_⟩⟩
          obtain ⟨dx, edx, hdx⟩ := DqAll.get hq ex
          have S6 : Same G5 (upd G5 T (.tup [.str r.1, x])) := same_upd (g5.gh.free n6.free)
          rw [take_snoc edx, List.map_append]
          exact DqAll.snoc (Dq.keepAll S6 _ _ pv) (.tup (.inl (.inl upd_same)) (.cons (.str _) (.cons (Dq.keep (g5.gg.trans S6) _ _ hdx) .nil)))
        · intro L2 acc G4 G5 H5 hl g' g5 pv sG' hL2 hG
          rw [List.take_of_length_le (by omega)] at pv
          obtain ⟨g5F, h5F⟩ := g5.off g3F h3F
          obtain ⟨g5L, h5L⟩ := g5.off g3L h3L
          refine .inr (.inl ⟨F, L2, fs, acc, rfl, rfl, h5F, g5.gh _ _ hG, Nat.le_trans (by omega) (show 1000 ≤ sizeLine by decide), fun q H6 n6 => ?_⟩)
          walk_at "z"
          refine t_cmp op_eq ?_
          walk_at "z"
          refine ⟨rfl, _, rfl, (if_neg (by simp [h1])).mpr ?_⟩
          walk_at "z"
          have g35 := g3.trans g5
          refine done q _ _ _ _ _ _ _ rfl _ ⟨G5, _, g35.step n6.same, g5L, n6.same _ _ h5L, t3.keep g5.gg, g35.gh.free n6.free, n6.here, g35.hh.free n6.free, (fun z => by have := n6.free; rw [z, h5L] at this; cases this), ?_⟩
          rw [ft, ofRow1 h1]
          exact DqAll.append (Dq.keepAll g5.gg _ _ hd) (Dq.keepAll sG' _ _ pv)
      · refine (if_neg (by simp [h1])).mpr ?_
        walk_at "z"
        refine t_cmp op_eq ?_
        walk_at "z"
        refine ⟨rfl, _, rfl, ?_⟩
        by_cases h2 : r.2 = 2
        · refine (if_pos (by simp [h2])).mpr ?_
          rw [ofRow2 h2] at hlen2
          walk_at "st"
          refine s_for (i_range2 mr ?_)
          walk_at "z"
          have e1 : ((((k + 1 : Nat) : Int) - 1) - 1).toNat = k - 1 := by omega
          refine ⟨1, ((k + 1 : Nat) : Int) - 1, rfl, ⟨by omega, by omega, by omega, by omega⟩, ?_⟩
          refine ⟨fun l σ3 H3 => ∃ F o8 o9 o10 o11, σ3 = [some (.ref a), some (.int most), some (.ref L), some (.int tot), some (.int ((k + 1 : Nat) : Int)), some (.ref F), some (.str r.1), some (.int r.2), o8, o9, o10, o11] ∧ TS K G H L ls (tySizes rows k) F (foundAt (rows.take j) (tySizes rows k) (k + 1) ++ (List.range l).flatMap (leftOf (tySizes rows k) k r.1)) H3, ?_, fun _ _ _ _ _ => trivial, ?_, ?_⟩
          · exact ⟨F, _, _, _, _, rfl, by rw [List.range_zero, List.flatMap_nil, List.append_nil]; exact ts⟩
          · rintro l σ3 H3 x H3' hl ⟨F, o8, o9, o10, o11, rfl, ts3⟩ ⟨rfl, rfl⟩
            rw [e1] at hl
            have hrp := range_part (g := leftOf (tySizes rows k) k r.1) hl
            have elf := leftOf_eq (tySizes rows k) k l r.1
            rw [elf, List.length_map] at hrp
            walk_at "tg"
            walk_at "st"
            refine s_for (i_list ?_)
            refine e_ix ix_list ?_
            walk_at "z"
            obtain ⟨l1, xs1, f1, f2⟩ : ∃ l1 xs1, ls[l + 1]? = some l1 ∧ ∀ G3, AllT K G3 ls (tySizes rows k) → ∃ xs1', G3 l1 = some (.lst xs1') ∧ DqAll K G3 xs1' ((tySizes rows k).getD (l + 1) []) ∧ xs1 = () := by
              obtain ⟨l1, xs1, f1, _, _⟩ := hT.at (i := l + 1) (by rw [tySizes_len]; omega)
              refine ⟨l1, (), f1, fun G3 t => ?_⟩
              obtain ⟨l1', xs', f1', f2', f3'⟩ := t.at (i := l + 1) (by rw [tySizes_len]; omega)
              rw [f1] at f1'
              cases f1'
              exact ⟨xs', f2', f3', rfl⟩
            obtain ⟨l2, f3, f4⟩ : ∃ l2, ls[k - 1 - l]? = some l2 ∧ ∀ G3, AllT K G3 ls (tySizes rows k) → ∃ xs1', G3 l2 = some (.lst xs1') ∧ DqAll K G3 xs1' ((tySizes rows k).getD (k - 1 - l) []) := by
              obtain ⟨l1, xs1, f1, _, _⟩ := hT.at (i := k - 1 - l) (by rw [tySizes_len]; omega)
              refine ⟨l1, f1, fun G3 t => ?_⟩
              obtain ⟨l1', xs', f1', f2', f3'⟩ := t.at (i := k - 1 - l) (by rw [tySizes_len]; omega)
              rw [f1] at f1'
              cases f1'
              exact ⟨xs', f2', f3'⟩
            generalize (tySizes rows k).getD (l + 1) [] = ds1 at elf hrp f2
            generalize (tySizes rows k).getD (k - 1 - l) [] = ds2 at elf hrp f4
            obtain ⟨G3, fs, g3, g3L, h3L, t3, g3F, h3F, F0, nFL, hd⟩ := id ts3
            obtain ⟨x1, hx1, hq1, _⟩ := f2 _ t3
            have hl1 := DqAll.length hq1
            have atl : atI (ls.map V.ref) (1 + (l : Int)) = some (.ref l1) := by
              rw [show (1 + (l : Int)) = ((l + 1 : Nat) : Int) by omega, atI_nat]
              simp [f1]
            refine ⟨L, _, (1 + (l : Int)), .ref l1, rfl, rfl, .inl (.inl h3L), atl, ?_⟩
            refine ⟨l1, x1, rfl, .inl (.inl (g3.gh _ _ hx1)), ?_⟩
            refine ⟨fun u σ4 H4 => ∃ F o9 o10 o11, σ4 = [some (.ref a), some (.int most), some (.ref L), some (.int tot), some (.int ((k + 1 : Nat) : Int)), some (.ref F), some (.str r.1), some (.int r.2), some (.int (1 + (l : Int))), o9, o10, o11] ∧ (∀ b o, G3 b = some o → H4 b = some o) ∧ TS K G H L ls (tySizes rows k) F (foundAt (rows.take j) (tySizes rows k) (k + 1) ++ (List.range l).flatMap (leftOf (tySizes rows k) k r.1) ++ (pairsOf (ds1.take u) ds2).map (tup3 r.1)) H4, ?_, ?_, ?_, ?_⟩
            · exact ⟨F, _, _, _, rfl, g3.gh, by rw [List.take_zero]; show TS _ _ _ _ _ _ _ (_ ++ []) _; rw [List.append_nil]; exact ts3⟩
            · rintro u σ4 H4 _ ⟨_, _, _, _, _, s4, _⟩
              exact .inl (.inl (s4 _ _ hx1))
            · rintro u σ4 H4 x H4' hu' ⟨F, o9, o10, o11, rfl, s4, ts4⟩ ⟨rfl, ex⟩
              obtain ⟨d1, ed1, hd1⟩ := DqAll.get hq1 ex
              obtain ⟨G5, fs5, g5, g5L, h5L, t5, g5F, h5F, F05, nFL5, hd5⟩ := id ts4
              obtain ⟨x2, hx2, hq2⟩ := f4 _ t5
              have hl2 := DqAll.length hq2
              have hfl5 := DqAll.length hd5
              rw [List.length_append, List.length_append, List.length_map] at hfl5
              -- the left part, as data where we stand
              have hd1' : Dq K G5 x d1 := by
                obtain ⟨x1', hx1', hq1', _⟩ := f2 _ t5
                have e : x1' = x1 := by
                  have z := s4 _ _ hx1
                  rw [g5.gh _ _ hx1'] at z
                  cases z
                  rfl
                subst e
                obtain ⟨d1', ed1', z⟩ := DqAll.get hq1' ex
                rw [ed1] at ed1'
                cases ed1'
                exact z
              have pl : (pairsOf (ds1.take u) ds2).length + ds2.length ≤ (pairsOf ds1 ds2).length := by
                have h1 := pairs_snoc (bs := ds2) ed1
                have h2 : ds1 = ds1.take (u + 1) ++ ds1.drop (u + 1) := (List.take_append_drop _ _).symm
                have h3 : (pairsOf ds1 ds2).length = (pairsOf (ds1.take (u + 1)) ds2).length + (pairsOf (ds1.drop (u + 1)) ds2).length := by
                  rw [← List.length_append]
                  unfold pairsOf
                  rw [← List.flatMap_append, List.take_append_drop]
                rw [h1, List.length_append, List.length_map] at h3
                omega
              walk_at "tg"
              walk_at "z"
              refine e_lcN (own := [("_law_two", 11)]) scTypes.nd (show blkC nsTypes (defScope sTypes) _ _ = true by decide +kernel) (i_list ?_)
              refine e_ix ix_list ?_
              walk_at "z"
              refine ⟨L, _, (((k + 1 : Nat) : Int) - 1 - (1 + (l : Int))), .ref l2, rfl, rfl, .inl (.inl h5L), by rw [show (((k + 1 : Nat) : Int) - 1 - (1 + (l : Int))) = ((k - 1 - l : Nat) : Int) by omega, atI_nat]; simp [f3], ?_⟩
              refine ⟨l2, x2, rfl, .inl (.inl (g5.gh _ _ hx2)), G5, fun v acc G => DqAll K G acc ((ds2.take v).map fun b => tup3 r.1 (d1, b)), g5.gh, Nat.le_trans (by omega) (show 1000 ≤ sizeLine by decide), .nil, fun _ _ G6 H6 _ g6 _ => .inl (.inl (g6.hh _ _ (g5.gh _ _ hx2))), ?_, ?_⟩
              · rintro v acc G6 H6 y H7' hv hl' g6 pv6 ⟨rfl, ey⟩ X' ⟨s', Hs, Cc, cl, fp, rfl⟩
                obtain ⟨d2, ed2, hd2⟩ := DqAll.get hq2 ey
                walk_at "tg"
                refine ⟨rfl, ?_⟩
                rintro X' ⟨s', Hs, Cc, cl, fp, rfl⟩
                refine ifs0 ?_
                rintro X' ⟨s', Hs, Cc, cl, fp, rfl⟩
                walk_at "z"
                refine ⟨szL, fun T H8 n8 => ⟨_, .new g6.gh n8, ?_⟩⟩
                have S6 : Same G6 (upd G6 T (.tup [.str r.1, x, y])) := same_upd (g6.gh.free n8.free)
                show DqAll K _ _ _
                rw [take_snoc ed2, List.map_append]
                exact DqAll.snoc (Dq.keepAll S6 _ _ pv6) (.tup (.inl (.inl upd_same)) (.cons (.str _) (.cons (Dq.keep (g6.gg.trans S6) _ _ hd1') (.cons (Dq.keep (g6.gg.trans S6) _ _ hd2) .nil))))
              · intro L2 acc G6 G7 H7 hl' g' g7 pv sG' hL2 hG
                rw [List.take_of_length_le (by omega)] at pv
                have hpl := DqAll.length pv
                rw [List.length_map] at hpl
                obtain ⟨g7F, h7F⟩ := g7.off g5F h5F
                obtain ⟨g7L, h7L⟩ := g7.off g5L h5L
                refine .inr (.inl ⟨F, L2, fs5, acc, rfl, rfl, h7F, g7.gh _ _ hG, Nat.le_trans (by omega) (show 1000 ≤ sizeLine by decide), fun q H8 n8 => ?_⟩)
                walk_at "z"
                have g57 := g5.trans g7
                refine ⟨q, _, _, _, rfl, fun b o e => n8.same _ _ (g7.hh _ _ (s4 b o e)), G7, _, g57.step n8.same, g7L, n8.same _ _ h7L, t5.keep g7.gg, g57.gh.free n8.free, n8.here, g57.hh.free n8.free, (fun z => by have := n8.free; rw [z, h7L] at this; cases this), ?_⟩
                rw [pairs_snoc ed1, List.map_append, ← List.append_assoc, List.map_map]
                exact DqAll.append (Dq.keepAll g7.gg _ _ hd5) (Dq.keepAll sG' _ _ pv)
            · rintro σ4 H4 ⟨F, o9, o10, o11, rfl, s4, ts4⟩
              have e5 : ds1.take x1.length = ds1 := List.take_of_length_le (by omega)
              rw [e5] at ts4
              walk_at "z"
              exact ⟨F, _, _, _, _, rfl, by
                rw [List.range_succ, List.flatMap_append, List.flatMap_cons, List.flatMap_nil, List.append_nil, ← List.append_assoc, elf]
                exact ts4⟩
          · rintro σ3 H3 ⟨F, o8, o9, o10, o11, rfl, ts3⟩
            rw [e1] at ts3
            walk_at "z"
            exact done F _ _ _ _ _ _ _ (by rw [ft, ofRow2 h2]) _ ts3
        · refine (if_neg (by simp [h2])).mpr ?_
          walk_at "z"
          exact done _ _ _ _ _ _ _ _ (by rw [ft, ofRow, if_neg h0, if_neg h1, if_neg h2, List.append_nil]) _ ts
  · rintro σ'' H'' ⟨F, o6, o7, o8, o9, o10, o11, rfl, G3, fs, g3, g3L, h3L, t3, g3F, h3F, F0, nFL, hd⟩
    rw [List.take_of_length_le (by omega)] at hd
    have hfl := DqAll.length hd
    obtain ⟨al, so⟩ := found_sortable rows k
    walk_at "st"
    walk_at "z1"
    refine e_bm PySem.F.plainAttrs_list PySem.F.slot_list_append PySem.F.type_list_append mt_append ?_
    walk_at "z1"
    refine ⟨.inl ⟨rfl, _, .inl (.inl h3L)⟩, ?_⟩
    walk_at "z1"
    refine e_callB (call_sortedD SS hu) ms (by decide +kernel) ?_
    walk_at "z"
    refine ⟨F, fs, _, Dq K G3, rfl, .inl (.inl h3F), Paired.of_dq hd, fun v d h => Dq.keep g3.gh _ _ h, al, so, (ok.sz (n := 6) (by omega) k hk5).2, fun p ys H6 n6 hp => ?_⟩
    walk_at "z"
    have pL : p ≠ L := fun z => by have := n6.free; rw [z, h3L] at this; cases this
    have g6 := g3.trans (.new g3.gh n6)
    refine ⟨L, ls.map V.ref, .ref p, rfl, rfl, n6.same _ _ h3L, small1000 (by rw [List.length_map]; omega), ?_⟩
    walk_at "st"
    walk_at "z"
    refine e_callB call_len_seq ml PySem.boot_len ?_
    walk_at "z"
    have gL6 : (upd G3 p (.lst ys)) L = none := by rw [upd_ne (Ne.symm pL)]; exact g3L
    refine ⟨_, _, rfl, .inl (.inl (.inl (by rw [upd_ne nFL]; exact n6.same _ _ h3F))), ?_⟩
    walk_at "z"
    refine ⟨7 - (k + 1), by omega, k + 1, ls ++ [p], upd G3 p (.lst ys), _, _, _, _, _, _, _, _, _, rfl, by omega, rfl, g6.write L0 gL6, gL6, by rw [List.map_append]; exact upd_same, ?_, fun h => by omega⟩
    rw [tySizes]
    have S6 : Same G3 (upd G3 p (.lst ys)) := same_upd (g3.gh.free n6.free)
    exact Paired.snoc (t3.keep S6) ⟨ys, upd_same, Dq.keepAll S6 _ _ (Paired.dq hp)⟩
end
end L2.Z.Law

set_option maxHeartbeats 1000000
namespace L2.Z.Law
open PySem PySem.Spec PyProof.Rows PySem.ZX
local macro_rules | `(tactic| walk_at "zi") => `(tactic| refine ⟨_, _, rfl, rfl, ?_⟩)
local macro_rules | `(tactic| walk_at "zmod") => `(tactic| refine ⟨_, _, rfl, rfl, (show (0 : Int) < _ by first | decide | omega), ?_⟩)
local macro_rules | `(tactic| walk_at "zdiv") => `(tactic| refine ⟨_, _, rfl, rfl, ⟨(show (0 : Int) < _ by first | decide | omega), ?_⟩, ?_⟩)
local macro_rules | `(tactic| walk_at "z1") => `(tactic| first
  | ((with_reducible show EW _ (Expr.Name _ _) _ _ _); walk_at "nm")
  | ((with_reducible show EW _ (Expr.Constant _ _ _) _ _ _); first | with_reducible refine e_int ?_ | with_reducible refine e_str ?_ | with_reducible refine e_bl ?_ | with_reducible refine e_non ?_)
  | ((with_reducible show EW _ (Expr.BinOp _ Operator.Add _ _) _ _ _); refine e_op z_add ?_)
  | ((with_reducible show EW _ (Expr.BinOp _ Operator.Sub _ _) _ _ _); refine e_op op_sub ?_)
  | ((with_reducible show EW _ (Expr.BinOp _ Operator.Mult _ _) _ _ _); refine e_op z_mul ?_)
  | ((with_reducible show EW _ (Expr.BinOp _ Operator.Mod _ _) _ _ _); refine e_op op_mod ?_)
  | ((with_reducible show EW _ (Expr.BinOp _ Operator.FloorDiv _ _) _ _ _); refine e_op op_fdivW ?_)
  | ((with_reducible show EW _ (Expr.BinOp _ Operator.Pow _ _) _ _ _); refine e_op op_pow ?_)
  | ((with_reducible show EW _ (Expr.List _ _) _ _ _); refine e_lstN ?_)
  | ((with_reducible show EW _ (Expr.Tuple _ _ _) _ _ _); refine e_tupN ?_)
  | ((with_reducible show EW _ (Expr.Subscript _ (Expr.Slice _ _ _ _) _) _ _ _); refine e_sl sl_listN ?_)
  | ((with_reducible show EW _ (Expr.Dict [] [] _) _ _ _); refine e_dKN ?_)
  | ((with_reducible show EW _ (Expr.BoolOp BoolOp.And [_] _) _ _ _); refine e_one ?_)
  | ((with_reducible show EW _ (Expr.BoolOp BoolOp.Or [_] _) _ _ _); refine e_one ?_)
  | ((with_reducible show EW _ (Expr.BoolOp BoolOp.And _ _) _ _ _); refine e_and ?_)
  | ((with_reducible show EW _ (Expr.BoolOp BoolOp.Or _ _) _ _ _); refine e_or ?_)
  | ((with_reducible show EW _ (Expr.IfExp _ _ _ _) _ _ _); refine e_if ?_)
  | ((with_reducible show AW _ [] _ _ _); refine a_nil ?_)
  | ((with_reducible show AW _ (_ :: _) _ _ _); refine a_cons ?_)
  | ((with_reducible show OW _ none _ _ _); refine o_no ?_)
  | ((with_reducible show OW _ (some _) _ _ _); refine o_so ?_)
  | ((with_reducible show TW _ (Expr.UnaryOp UnaryOp.Not _ _) _ _ _); refine t_not ?_)
  | ((with_reducible show TW _ (Expr.BoolOp _ _ _) _ _ _); refine t_w ?_)
  | ((with_reducible show PWW _ (Expr.BoolOp BoolOp.And [_] _) _ _ _); refine w_and1 ?_)
  | ((with_reducible show PWW _ (Expr.BoolOp BoolOp.Or [_] _) _ _ _); refine w_or1 ?_)
  | ((with_reducible show PWW _ (Expr.BoolOp BoolOp.And _ _) _ _ _); refine w_and ?_)
  | ((with_reducible show PWW _ (Expr.BoolOp BoolOp.Or _ _) _ _ _); refine w_or ?_)
  | ((with_reducible show SW _ (Stmt.Return (some _) _) _ _ _); refine s_ret ?_)
  | ((with_reducible show SW _ (Stmt.If _ _ _ _) _ _ _); refine s_if ?_)
  | ((with_reducible show SW _ (Stmt.Expr _ _) _ _ _); refine s_expr ?_)
  | ((with_reducible show SW _ (Stmt.Assign [Expr.Name _ _] _ _) _ _ _); walk_at "set")
  | ((with_reducible show BW _ [_] _ _ _); (first | (with_reducible refine b_one ?_) | refine b_one ?_))
  | ((with_reducible show BW _ [] _ _ _); refine b_nil ?_)
  | ((with_reducible show BW _ _ _ _ _); (first | (with_reducible refine b_cons ?_) | refine b_cons ?_))
  | ((with_reducible show rAddZ _ _ _ _ _); refine Or.inl ⟨_, _, rfl, rfl, ?_⟩)
  | ((with_reducible show rI0 _ _ _ _ _); refine ⟨_, _, rfl, rfl, ?_⟩)
  | ((with_reducible show rI (fun _ j => 0 < j) _ _ _ _ _); refine ⟨_, _, rfl, rfl, (show (0 : Int) < _ by first | decide | omega), ?_⟩)
  | ((with_reducible show Ends.nx _ _ _); first | (with_reducible refine mk_nx ?_) | refine (show BW _ _ _ _ _ from ?_)))
local macro_rules | `(tactic| walk_at "z") => `(tactic| repeat walk_at "z1")
local macro_rules | `(tactic| walk_at "st") => `(tactic| repeat (first
  | ((with_reducible show Ends.nx _ _ _); first | (with_reducible refine mk_nx ?_) | refine (show BW _ _ _ _ _ from ?_))
  | ((with_reducible show BW _ _ _ _ _); (first | (with_reducible refine b_cons ?_) | refine b_cons ?_))))
theorem look_some {z : Str} {n : Nat} : ∀ {rows : List (Str × Int)}, (rows.map (·.1)).Nodup → (lookR rows z = (n : Int) ↔ rows.any (fun r => decide (r.1 = z) && decide (r.2 = (n : Int))) = true)
  | [], _ => by simp [lookR]
  | r :: rs, h => by
    rw [List.map_cons, List.nodup_cons] at h
    by_cases e : r.1 = z
    · have e1 : lookR (r :: rs) z = r.2 := by simp [lookR, e]
      have e2 : rs.any (fun r => decide (r.1 = z) && decide (r.2 = (n : Int))) = false := by
        rw [List.any_eq_false]
        intro q hq hh
        simp only [Bool.and_eq_true, decide_eq_true_eq] at hh
        exact h.1 (by rw [e, ← hh.1]; exact List.mem_map_of_mem hq)
      rw [e1, List.any_cons, e2]
      simp [e]
    · have e1 : lookR (r :: rs) z = lookR rs z := by simp [lookR, e]
      rw [e1, look_some h.2, List.any_cons]
      simp [e]
theorem OkR.nodup {rows : List (Str × Int)} (o : OkR rows) : (rows.map (·.1)).Nodup := by
  have := okr (p := fun rows => decide ((rows.map (·.1)).Nodup)) (by decide +kernel) o
  exact of_decide_eq_true this
theorem weight_app : ∀ a b : List PyData, PyData.weightAll (a ++ b) = PyData.weightAll a + PyData.weightAll b
  | [], b => by rw [List.nil_append, PyData.weightAll, Nat.zero_add]
  | x :: xs, b => by rw [List.cons_append, PyData.weightAll, PyData.weightAll, weight_app xs b]; omega
section
variable {P : Program} {w : World} {K : PySem.W.Frag} {mg : Str → Option Value} {base : Heap} {f : Addr}
abbrev sLIs : Stmt := topS 27
abbrev nsLIs : List Str := ["_law_rows_here", "_law_value", "_law_waiting", "_law_one", "_law_row"]
theorem scLIs : FnScope nsLIs ["_law_rows_here", "_law_value"] (defScope sLIs) := ⟨rfl, rfl, rfl, by decide +kernel, rfl, by decide +kernel, by decide +kernel⟩
local macro_rules | `(tactic| walk_at "nm") => `(tactic| first
  | ((with_reducible show EW _ (Expr.Name (Str.ofString "_law_rows_here") _) _ _ _); refine e_nm (i := 0) (N := nsLIs) rfl at_z rfl ?_)
  | ((with_reducible show EW _ (Expr.Name (Str.ofString "_law_value") _) _ _ _); refine e_nm (i := 1) (N := nsLIs) rfl (at_s at_z) rfl ?_)
  | ((with_reducible show EW _ (Expr.Name (Str.ofString "_law_waiting") _) _ _ _); refine e_nm (i := 2) (N := nsLIs) rfl (at_s (at_s at_z)) rfl ?_)
  | ((with_reducible show EW _ (Expr.Name (Str.ofString "_law_one") _) _ _ _); refine e_nm (i := 3) (N := nsLIs) rfl (at_s (at_s (at_s at_z))) rfl ?_)
  | ((with_reducible show EW _ (Expr.Name (Str.ofString "_law_row") _) _ _ _); refine e_nm (i := 4) (N := nsLIs) rfl (at_s (at_s (at_s (at_s at_z)))) rfl ?_))
local macro_rules | `(tactic| walk_at "set") => `(tactic| first
  | ((with_reducible show SW _ (Stmt.Assign [Expr.Name (Str.ofString "_law_rows_here") _] _ _) _ _ _); refine s_set (i := 0) (N := nsLIs) scLIs.nd rfl at_z ?_)
  | ((with_reducible show SW _ (Stmt.Assign [Expr.Name (Str.ofString "_law_value") _] _ _) _ _ _); refine s_set (i := 1) (N := nsLIs) scLIs.nd rfl (at_s at_z) ?_)
  | ((with_reducible show SW _ (Stmt.Assign [Expr.Name (Str.ofString "_law_waiting") _] _ _) _ _ _); refine s_set (i := 2) (N := nsLIs) scLIs.nd rfl (at_s (at_s at_z)) ?_)
  | ((with_reducible show SW _ (Stmt.Assign [Expr.Name (Str.ofString "_law_one") _] _ _) _ _ _); refine s_set (i := 3) (N := nsLIs) scLIs.nd rfl (at_s (at_s (at_s at_z))) ?_)
  | ((with_reducible show SW _ (Stmt.Assign [Expr.Name (Str.ofString "_law_row") _] _ _) _ _ _); refine s_set (i := 4) (N := nsLIs) scLIs.nd rfl (at_s (at_s (at_s (at_s at_z)))) ?_))
local macro_rules | `(tactic| walk_at "tg") => `(tactic| first
  | ((with_reducible show GW _ (Expr.Name (Str.ofString "_law_rows_here") _) _ _ _ _); refine g_nm (i := 0) (N := nsLIs) scLIs.nd rfl at_z ?_)
  | ((with_reducible show GW _ (Expr.Name (Str.ofString "_law_value") _) _ _ _ _); refine g_nm (i := 1) (N := nsLIs) scLIs.nd rfl (at_s at_z) ?_)
  | ((with_reducible show GW _ (Expr.Name (Str.ofString "_law_waiting") _) _ _ _ _); refine g_nm (i := 2) (N := nsLIs) scLIs.nd rfl (at_s (at_s at_z)) ?_)
  | ((with_reducible show GW _ (Expr.Name (Str.ofString "_law_one") _) _ _ _ _); refine g_nm (i := 3) (N := nsLIs) scLIs.nd rfl (at_s (at_s (at_s at_z))) ?_)
  | ((with_reducible show GW _ (Expr.Name (Str.ofString "_law_row") _) _ _ _ _); refine g_nm (i := 4) (N := nsLIs) scLIs.nd rfl (at_s (at_s (at_s (at_s at_z)))) ?_))
def spLIs (K : PySem.W.Frag) : Sp := fun vs H Q _ => ∃ (a : Addr) (v : V) (rows : List (Str × Int)) (xs : List V) (d : PyData), vs = [.ref a, v] ∧ OkR rows ∧ H a = some (.lst xs) ∧ DqAll K H xs (rowsD rows) ∧ Dq K H v d ∧ Sml d ∧ ∀ H', Same H H' → Q (.bl (dFits rows d)) H'
theorem bLIs (mi : mg "isinstance" = none) (mt : mg "tuple" = none) (ms : mg "str" = none) (ml : mg "list" = none) (mn : mg "len" = none) : BodyZ P w K mg base nsLIs "_law_is_type" sLIs f 0 (spLIs K) := by
  intro X cd A outer s H vs Q E hX hr tk hs
  subst hX
  have hu := hr.r.units
  have hu0 : (cz P w K mg base nsLIs "_law_is_type" (defScope sLIs) f cd A outer s H E).A.units < cLine := Nat.lt_of_le_of_lt (Nat.le_add_right _ _) hu
  obtain ⟨a, v, rows, xs, d, rfl, ok, ha, hrows, hd, hsm, hQ⟩ := hs
  have hxl := DqAll.length hrows
  rw [List.length_map] at hxl
  have hrl := ok.len
  walk_at "z"
  refine ⟨szL, fun W0 H1 n1 => ?_⟩
  walk_at "st"
  refine s_while (fun m σ' H' => ∃ W ws ds G' o3 o4, m = PyData.weightAll ds ∧ σ' = [some (.ref a), some v, some (.ref W), o3, o4] ∧ Gr H H G' H' ∧ H W = none ∧ G' W = none ∧ H' W = some (.lst ws) ∧ DqAll K G' ws ds ∧ PyData.weightAll ds ≤ d.weight + 1 ∧ dFits rows d = ds.all (dFits rows)) (d.weight + 1) ?_ ?_
  · refine ⟨W0, [v], [d], H, _, _, ?_, rfl, .of (Same.refl _) n1.same, n1.free, n1.free, n1.here, .cons hd .nil, ?_, ?_⟩
    · simp [PyData.weightAll]
    · simp [PyData.weightAll]
    · simp
  rintro m σ' H' ⟨W, ws, ds, G', o3, o4, rfl, rfl, g, W0, gW, hW, hds, hwt, hfit⟩
  have hwl := DqAll.length hds
  refine t_cmp (op_neE hu0) ?_
  walk_at "z"
  refine ⟨szL, fun E1 H2 n2 => ?_⟩
  have hW2 := n2.same _ _ hW
  refine ⟨W, E1, ws, [], rfl, rfl, .inl ⟨.inl (.inl hW2), .inl (.inl n2.here)⟩, .inr rfl, _, rfl, ?_⟩
  have g2 := g.step n2.same
  rcases List.eq_nil_or_concat ds with rfl | ⟨ds0, dl, hc⟩
  · cases hds
    refine (if_neg (by simp)).mpr ?_
    walk_at "z"
    have := hQ H2 (g.hh.trans n2.same)
    rw [hfit] at this
    exact this
  rw [List.concat_eq_append] at hc
  subst hc
  have hws : ws ≠ [] := fun z => by rw [z, List.length_append] at hwl; simp at hwl
  refine (if_pos (by simpa using hws)).mpr ?_
  obtain ⟨ws0, wl, rfl⟩ : ∃ ws0 wl, ws = ws0 ++ [wl] := by
    rcases List.eq_nil_or_concat ws with z | ⟨a, b, z⟩
    · exact absurd z hws
    · exact ⟨a, b, by rw [z]; simp⟩
  have hl0 : ws0.length = ds0.length := by rw [List.length_append, List.length_append] at hwl; simpa using hwl
  have hdl : Dq K G' wl dl := by
    obtain ⟨v', e1, q⟩ := DqAll.at hds (i := ds0.length) (d := dl) (by simp)
    rw [← hl0] at e1
    have : v' = wl := by simpa using e1.symm
    rw [← this]
    exact q
  have hd0 : DqAll K G' ws0 ds0 := by
    have : ∀ {as : List V} {bs : List PyData} {x : V} {y : PyData}, as.length = bs.length → DqAll K G' (as ++ [x]) (bs ++ [y]) → DqAll K G' as bs := by
      intro as
      induction as with
      | nil => intro bs x y h _; cases bs with | nil => exact .nil | cons _ _ => simp at h
      | cons b bs ih =>
        intro bs' x y h t
        cases bs' with
        | nil => simp at h
        | cons c cs =>
          cases t with
          | cons q t => exact .cons q (ih (by simpa using h) t)
    exact this hl0 hds
  walk_at "st"
  walk_at "z1"
  refine e_bm0 PySem.F.plainAttrs_list PySem.F.slot_list_pop PySem.F.type_list_pop mt_pop ?_
  walk_at "z1"
  refine ⟨.inl ⟨rfl, _, .inl (.inl hW2)⟩, W, _, wl, rfl, rfl, hW2, by simp, ?_⟩
  rw [List.dropLast_concat]
  have g3 : Gr H H G' (upd H2 W (.lst ws0)) := g2.write W0 gW
  have hW3 : (upd H2 W (.lst ws0)) W = some (.lst ws0) := upd_same
  generalize upd H2 W (.lst ws0) = H3 at g3 hW3
  have hwt' := weight_app ds0 [dl]
  rw [PyData.weightAll, PyData.weightAll] at hwt'
  have hfit' : dFits rows d = (ds0.all (dFits rows) && dFits rows dl) := by rw [hfit, List.all_append]; simp
  have no : dFits rows dl = false → ∀ H', Same H H' → Q (.bl false) H' := fun e H' s => by
    have := hQ H' s
    rw [hfit', e, Bool.and_false] at this
    exact this
  walk_at "st"
  walk_at "z1"
  refine t_w (w_or (t_not (t_val ?_)))
  refine e_isT (T := "tuple") mi mt (by decide +kernel) ?_
  walk_at "z1"
  refine ⟨_, _, (Dq.keep g3.gh _ _ hdl).ty, kit_ty (kb_tup dl), _, rfl, ?_⟩
  by_cases h1 : isTup dl = true
  rotate_left
  · refine (if_pos (by simpa using h1)).mpr ?_
    refine (if_pos rfl).mpr ?_
    walk_at "z"
    exact no (by cases dl <;> first | (exfalso; exact h1 rfl) | simp [dFits]) _ g3.hh
  obtain ⟨es, rfl⟩ : ∃ es, dl = .tuple es := by cases dl <;> first | exact ⟨_, rfl⟩ | cases h1
  cases hdl with
  | tup hq hall =>
    rename_i b zs
    have hlen := DqAll.length hall
    have sqk : ∀ {H''}, Same G' H'' → SqT K H'' b zs := fun s => hq.imp (fun z => z.imp (s _ _) fun ⟨o, z⟩ => ⟨o, s _ _ z⟩) id
    refine (if_neg (by simp [isTup])).mpr ?_
    refine w_or (t_cmp (op_eqE hu0) ?_)
    walk_at "z"
    refine ⟨szL, fun e0 H4 n4 => ?_⟩
    have g4 := g3.step n4.same
    refine ⟨b, e0, zs, [], rfl, rfl, .inr ⟨sqk g4.gh, .inl (.inl n4.here)⟩, .inr rfl, _, rfl, ?_⟩
    cases hall with
    | nil =>
      refine (if_pos rfl).mpr ?_
      refine (if_pos rfl).mpr ?_
      walk_at "z"
      exact no (by simp [dFits]) _ g4.hh
    | cons q0 qs =>
      rename_i v0 zs e1 es
      refine (if_neg (by simp)).mpr ?_
      refine w_or1 (t_not (t_val ?_))
      refine e_isT (T := "str") mi ms (by decide +kernel) ?_
      refine e_ix ix_tup ?_
      walk_at "z"
      refine ⟨_, _, _, _, rfl, rfl, sqk g4.gh, at_head, ?_⟩
      refine ⟨_, _, (Dq.keep g4.gh _ _ q0).ty, kit_ty (kb_str e1), _, rfl, ?_⟩
      cases hst : isStr e1 with
      | false =>
        refine (if_pos rfl).mpr ?_
        walk_at "z"
        exact no (by cases e1 <;> first | (cases hst; done) | simp [dFits]) _ g4.hh
      | true =>
        obtain ⟨z, rfl⟩ : ∃ z, e1 = .str z := by cases e1 <;> first | exact ⟨_, rfl⟩ | cases hst
        cases q0
        refine (if_neg (by simp)).mpr ?_
        have l2 : zs.length = es.length := DqAll.length qs
        walk_at "z"
        refine t_cmp (op_eqE hu0) ?_
        refine e_lcN (own := [("_law_row", 4)]) scLIs.nd (show blkC nsLIs (defScope sLIs) _ _ = true by decide +kernel) (i_list ?_)
        walk_at "z1"
        refine ⟨a, xs, rfl, .inl (.inl (g4.hh _ _ ha)), H4, fun i acc _ => (acc = [] ↔ (rows.take i).any (fun r => decide (r.1 = z) && decide (r.2 = (es.length : Int))) = false), Same.refl _, Nat.le_trans (by omega) (show 1000 ≤ sizeLine by decide), by simp, fun i acc G5 H5 _ g5 _ => .inl (.inl (g5.hh _ _ (g4.hh _ _ ha))), ?_, ?_⟩
        · rintro i acc G5 H5 x H6 hi hl g5 pv ⟨rfl, ex⟩ X' ⟨s', Hs, Cc, cl, fp, rfl⟩
          obtain ⟨dr, edr, hdr⟩ := DqAll.get hrows ex
          obtain ⟨r, er, rfl⟩ : ∃ r, rows[i]? = some r ∧ rowD r = dr := by
            rw [List.getElem?_map] at edr
            cases q : rows[i]? with
            | none => rw [q] at edr; cases edr
            | some p => rw [q] at edr; cases edr; exact ⟨p, rfl, rfl⟩
          obtain ⟨c, rfl, sqc⟩ := Dq.row hdr
          have sq5 : SqT K H6 c [.str r.1, .int r.2] := sqc.imp (fun z => z.imp (fun z => g5.hh _ _ (g4.hh _ _ z)) fun ⟨o, z⟩ => ⟨o, g5.hh _ _ (g4.hh _ _ z)⟩) id
          have et : (rows.take (i + 1)).any (fun r => decide (r.1 = z) && decide (r.2 = (es.length : Int))) = ((rows.take i).any (fun r => decide (r.1 = z) && decide (r.2 = (es.length : Int))) || (decide (r.1 = z) && decide (r.2 = (es.length : Int)))) := by
            rw [take_snoc er, List.any_append]; simp
          walk_at "tg"
          refine ⟨rfl, ?_⟩
          rintro X' ⟨s', Hs, Cc, cl, fp, rfl⟩
          refine (show TW _ _ _ _ _ from ?_)
          refine t_w (w_and (t_cmp op_eq ?_))
          refine e_ix ix_tup ?_
          walk_at "z"
          refine ⟨_, _, _, _, rfl, rfl, sq5, rfl, ?_⟩
          refine e_ix ix_tup ?_
          walk_at "z"
          refine ⟨_, _, _, _, rfl, rfl, sqk (g4.gh.trans g5.hh), at_head, ?_⟩
          refine ⟨rfl, _, rfl, ?_⟩
          by_cases c1 : r.1 = z
          · refine (if_pos (by simp [c1])).mpr ?_
            refine w_and1 (t_cmp op_eq ?_)
            refine e_ix ix_tup ?_
            walk_at "z"
            refine ⟨_, _, 1, _, rfl, rfl, sq5, rfl, ?_⟩
            walk_at "z"
            refine e_callB call_len_seq mn PySem.boot_len ?_
            walk_at "z"
            refine ⟨_, _, rfl, .inr (sqk (g4.gh.trans g5.hh)), ?_⟩
            walk_at "z"
            refine ⟨rfl, _, rfl, ?_⟩
            have ec : decide (V.int r.2 = V.int ((((V.str z) :: zs).length : Nat) - 1)) = decide (r.2 = (es.length : Int)) := by
              simp only [List.length_cons, V.int.injEq]
              congr 1
              rw [l2]
              apply propext
              constructor <;> intro h <;> omega
            rw [ec]
            by_cases c2 : r.2 = (es.length : Int)
            · refine (if_pos (by simp [c2])).mpr ?_
              rintro X' ⟨s', Hs, Cc, cl, fp, rfl⟩
              walk_at "z"
              refine ⟨_, .refl g5.gh, ?_⟩
              show acc ++ [_] = [] ↔ _
              rw [et]
              simp [c1, c2]
            · refine (if_neg (by simp [c2])).mpr ?_
              refine ⟨_, .refl g5.gh, ?_⟩
              show acc = [] ↔ _
              rw [et, pv]
              simp [c2]
          · refine (if_neg (by simp [c1])).mpr ?_
            refine (if_neg (by simp)).mpr ?_
            refine ⟨_, .refl g5.gh, ?_⟩
            show acc = [] ↔ _
            rw [et, pv]
            simp [c1]
        · intro L acc G2 G5 H5 hl _ g5 pv sG' hL hG
          rw [List.take_of_length_le (by omega)] at pv
          walk_at "z"
          refine ⟨szL, fun q2 H6 n6 => ?_⟩
          refine ⟨L, q2, acc, [], rfl, rfl, .inl ⟨.inl (.inl (n6.same _ _ (g5.gh _ _ hG))), .inl (.inl n6.here)⟩, .inr rfl, _, rfl, ?_⟩
          have g6 : Gr H H G' H6 := (g4.step g5.hh).step n6.same
          have lk := look_some (z := z) (n := es.length) ok.nodup
          by_cases hacc : acc = []
          · subst hacc
            refine (if_pos rfl).mpr ?_
            walk_at "z"
            refine no ?_ _ g6.hh
            rw [dFits]
            have : ¬ lookR rows z = (es.length : Int) := fun h => by rw [lk.mp h] at pv; simp at pv
            simp [this]
          · refine (if_neg (by simpa using hacc)).mpr ?_
            have hl4 : lookR rows z = (es.length : Int) := by
              refine lk.mpr ?_
              cases q : rows.any (fun r => decide (r.1 = z) && decide (r.2 = (es.length : Int))) with
              | true => rfl
              | false => exact absurd (pv.mpr q) hacc
            have hW6 : H6 W = some (.lst ws0) := n6.same _ _ (g5.hh _ _ (n4.same _ _ hW3))
            walk_at "z"
            refine e_callT call_list_of ml (by decide +kernel) ?_
            walk_at "z1"
            refine e_sl sl_tupN ?_
            walk_at "z"
            refine ⟨_, rfl, ?_⟩
            walk_at "z1"
            refine ⟨b, _, rfl, sqk g6.gh, notWhole, fun q H7 n7 => ?_⟩
            rw [cutV_tail] at n7
            walk_at "z"
            refine ⟨q, zs, rfl, .inr (.inl (.inl n7.here)), fun l nl => ?_⟩
            have wd : PyData.weight (.tuple (.str z :: es)) = z.cps.size + 1 + PyData.weightAll es := by rw [PyData.weight, PyData.weightAll, PyData.weight]
            have hsm' : d.weight ≤ 2 ^ 20 := hsm
            have b1 := len_weight ds0
            have b2 := len_weight es
            refine .inr (.inl ⟨W, l, ws0, zs, rfl, rfl, ?_, upd_same, ?_, fun p H8 n8 => ?_⟩)
            · rw [upd_ne (fun z => by rw [← z] at nl; rw [n7.same _ _ hW6] at nl; cases nl)]
              exact n7.same _ _ hW6
            · refine Nat.le_trans (m := 2 ^ 20 + 1) ?_ (by decide)
              omega
            · walk_at "z"
              have g8 : Gr H H G' H8 := ((g6.step n7.same).step (same_upd nl)).step n8.same
              have w8 := weight_app ds0 es
              refine ⟨PyData.weightAll (ds0 ++ es), by omega, p, ws0 ++ zs, ds0 ++ es, G', _, _, rfl, rfl, g8, ?_, ?_, n8.here, DqAll.append hd0 qs, by omega, ?_⟩
              · exact ((g6.step n7.same).step (same_upd nl)).hh.free n8.free
              · exact ((g6.step n7.same).step (same_upd nl)).gh.free n8.free
              · rw [hfit', List.all_append, dFits, hl4, dFitsAll_eq]
                simp
end
end L2.Z.Law

set_option maxHeartbeats 1000000
namespace L2.Z.Law
open PySem PySem.Spec PyProof.Rows PySem.ZX
local macro_rules | `(tactic| walk_at "zi") => `(tactic| refine ⟨_, _, rfl, rfl, ?_⟩)
local macro_rules | `(tactic| walk_at "zmod") => `(tactic| refine ⟨_, _, rfl, rfl, (show (0 : Int) < _ by first | decide | omega), ?_⟩)
local macro_rules | `(tactic| walk_at "zdiv") => `(tactic| refine ⟨_, _, rfl, rfl, ⟨(show (0 : Int) < _ by first | decide | omega), ?_⟩, ?_⟩)
local macro_rules | `(tactic| walk_at "z1") => `(tactic| first
  | ((with_reducible show EW _ (Expr.Name _ _) _ _ _); walk_at "nm")
  | ((with_reducible show EW _ (Expr.Constant _ _ _) _ _ _); first | with_reducible refine e_int ?_ | with_reducible refine e_str ?_ | with_reducible refine e_bl ?_ | with_reducible refine e_non ?_)
  | ((with_reducible show EW _ (Expr.BinOp _ Operator.Add _ _) _ _ _); refine e_op z_add ?_)
  | ((with_reducible show EW _ (Expr.BinOp _ Operator.Sub _ _) _ _ _); refine e_op op_sub ?_)
  | ((with_reducible show EW _ (Expr.BinOp _ Operator.Mult _ _) _ _ _); refine e_op z_mul ?_)
  | ((with_reducible show EW _ (Expr.BinOp _ Operator.Mod _ _) _ _ _); refine e_op op_mod ?_)
  | ((with_reducible show EW _ (Expr.BinOp _ Operator.FloorDiv _ _) _ _ _); refine e_op op_fdivW ?_)
  | ((with_reducible show EW _ (Expr.BinOp _ Operator.Pow _ _) _ _ _); refine e_op op_pow ?_)
  | ((with_reducible show EW _ (Expr.List _ _) _ _ _); refine e_lstN ?_)
  | ((with_reducible show EW _ (Expr.Tuple _ _ _) _ _ _); refine e_tupN ?_)
  | ((with_reducible show EW _ (Expr.Subscript _ (Expr.Slice _ _ _ _) _) _ _ _); refine e_sl sl_listN ?_)
  | ((with_reducible show EW _ (Expr.Dict [] [] _) _ _ _); refine e_dKN ?_)
  | ((with_reducible show EW _ (Expr.BoolOp BoolOp.And [_] _) _ _ _); refine e_one ?_)
  | ((with_reducible show EW _ (Expr.BoolOp BoolOp.Or [_] _) _ _ _); refine e_one ?_)
  | ((with_reducible show EW _ (Expr.BoolOp BoolOp.And _ _) _ _ _); refine e_and ?_)
  | ((with_reducible show EW _ (Expr.BoolOp BoolOp.Or _ _) _ _ _); refine e_or ?_)
  | ((with_reducible show EW _ (Expr.IfExp _ _ _ _) _ _ _); refine e_if ?_)
  | ((with_reducible show AW _ [] _ _ _); refine a_nil ?_)
  | ((with_reducible show AW _ (_ :: _) _ _ _); refine a_cons ?_)
  | ((with_reducible show OW _ none _ _ _); refine o_no ?_)
  | ((with_reducible show OW _ (some _) _ _ _); refine o_so ?_)
  | ((with_reducible show TW _ (Expr.UnaryOp UnaryOp.Not _ _) _ _ _); refine t_not ?_)
  | ((with_reducible show TW _ (Expr.BoolOp _ _ _) _ _ _); refine t_w ?_)
  | ((with_reducible show PWW _ (Expr.BoolOp BoolOp.And [_] _) _ _ _); refine w_and1 ?_)
  | ((with_reducible show PWW _ (Expr.BoolOp BoolOp.Or [_] _) _ _ _); refine w_or1 ?_)
  | ((with_reducible show PWW _ (Expr.BoolOp BoolOp.And _ _) _ _ _); refine w_and ?_)
  | ((with_reducible show PWW _ (Expr.BoolOp BoolOp.Or _ _) _ _ _); refine w_or ?_)
  | ((with_reducible show SW _ (Stmt.Return (some _) _) _ _ _); refine s_ret ?_)
  | ((with_reducible show SW _ (Stmt.If _ _ _ _) _ _ _); refine s_if ?_)
  | ((with_reducible show SW _ (Stmt.Expr _ _) _ _ _); refine s_expr ?_)
  | ((with_reducible show SW _ (Stmt.Assign [Expr.Name _ _] _ _) _ _ _); walk_at "set")
  | ((with_reducible show BW _ [_] _ _ _); (first | (with_reducible refine b_one ?_) | refine b_one ?_))
  | ((with_reducible show BW _ [] _ _ _); refine b_nil ?_)
  | ((with_reducible show BW _ _ _ _ _); (first | (with_reducible refine b_cons ?_) | refine b_cons ?_))
  | ((with_reducible show rAddZ _ _ _ _ _); refine Or.inl ⟨_, _, rfl, rfl, ?_⟩)
  | ((with_reducible show rI0 _ _ _ _ _); refine ⟨_, _, rfl, rfl, ?_⟩)
  | ((with_reducible show rI (fun _ j => 0 < j) _ _ _ _ _); refine ⟨_, _, rfl, rfl, (show (0 : Int) < _ by first | decide | omega), ?_⟩)
  | ((with_reducible show Ends.nx _ _ _); first | (with_reducible refine mk_nx ?_) | refine (show BW _ _ _ _ _ from ?_)))
local macro_rules | `(tactic| walk_at "z") => `(tactic| repeat walk_at "z1")
local macro_rules | `(tactic| walk_at "st") => `(tactic| repeat (first
  | ((with_reducible show Ends.nx _ _ _); first | (with_reducible refine mk_nx ?_) | refine (show BW _ _ _ _ _ from ?_))
  | ((with_reducible show BW _ _ _ _ _); (first | (with_reducible refine b_cons ?_) | refine b_cons ?_))))
theorem nm_len {rows : List (Str × Int)} (h : nmOk rows = true) {r : Str × Int} (m : r ∈ rows) : r.1.length ≤ 4 := by
  have := List.all_eq_true.mp h r m
  simp only [Bool.and_eq_true, decide_eq_true_eq] at this
  exact this.1.1
theorem OkR.ar {rows : List (Str × Int)} (o : OkR rows) {r : Str × Int} (m : r ∈ rows) : r.2 = 0 ∨ r.2 = 1 ∨ r.2 = 2 := by
  have := okr (p := fun rows => rows.all fun r => decide (r.2 = 0 ∨ r.2 = 1 ∨ r.2 = 2)) (by decide +kernel) o
  exact of_decide_eq_true (List.all_eq_true.mp this r m)
section
variable {P : Program} {w : World} {K : PySem.W.Frag} {mg : Str → Option Value} {base : Heap} {f : Addr}
abbrev sVals : Stmt := topS 28
abbrev nsVals : List Str := ["_law_rows_here", "_law_kind", "_law_found", "_law_title", "_law_arity", "_law_bad", "_law_some"]
theorem scVals : FnScope nsVals ["_law_rows_here", "_law_kind"] (defScope sVals) := ⟨rfl, rfl, rfl, by decide +kernel, rfl, by decide +kernel, by decide +kernel⟩
local macro_rules | `(tactic| walk_at "nm") => `(tactic| first
  | ((with_reducible show EW _ (Expr.Name (Str.ofString "_law_rows_here") _) _ _ _); refine e_nm (i := 0) (N := nsVals) rfl at_z rfl ?_)
  | ((with_reducible show EW _ (Expr.Name (Str.ofString "_law_kind") _) _ _ _); refine e_nm (i := 1) (N := nsVals) rfl (at_s at_z) rfl ?_)
  | ((with_reducible show EW _ (Expr.Name (Str.ofString "_law_found") _) _ _ _); refine e_nm (i := 2) (N := nsVals) rfl (at_s (at_s at_z)) rfl ?_)
  | ((with_reducible show EW _ (Expr.Name (Str.ofString "_law_title") _) _ _ _); refine e_nm (i := 3) (N := nsVals) rfl (at_s (at_s (at_s at_z))) rfl ?_)
  | ((with_reducible show EW _ (Expr.Name (Str.ofString "_law_arity") _) _ _ _); refine e_nm (i := 4) (N := nsVals) rfl (at_s (at_s (at_s (at_s at_z)))) rfl ?_)
  | ((with_reducible show EW _ (Expr.Name (Str.ofString "_law_bad") _) _ _ _); refine e_nm (i := 5) (N := nsVals) rfl (at_s (at_s (at_s (at_s (at_s at_z))))) rfl ?_)
  | ((with_reducible show EW _ (Expr.Name (Str.ofString "_law_some") _) _ _ _); refine e_nm (i := 6) (N := nsVals) rfl (at_s (at_s (at_s (at_s (at_s (at_s at_z)))))) rfl ?_))
local macro_rules | `(tactic| walk_at "set") => `(tactic| first
  | ((with_reducible show SW _ (Stmt.Assign [Expr.Name (Str.ofString "_law_rows_here") _] _ _) _ _ _); refine s_set (i := 0) (N := nsVals) scVals.nd rfl at_z ?_)
  | ((with_reducible show SW _ (Stmt.Assign [Expr.Name (Str.ofString "_law_kind") _] _ _) _ _ _); refine s_set (i := 1) (N := nsVals) scVals.nd rfl (at_s at_z) ?_)
  | ((with_reducible show SW _ (Stmt.Assign [Expr.Name (Str.ofString "_law_found") _] _ _) _ _ _); refine s_set (i := 2) (N := nsVals) scVals.nd rfl (at_s (at_s at_z)) ?_)
  | ((with_reducible show SW _ (Stmt.Assign [Expr.Name (Str.ofString "_law_title") _] _ _) _ _ _); refine s_set (i := 3) (N := nsVals) scVals.nd rfl (at_s (at_s (at_s at_z))) ?_)
  | ((with_reducible show SW _ (Stmt.Assign [Expr.Name (Str.ofString "_law_arity") _] _ _) _ _ _); refine s_set (i := 4) (N := nsVals) scVals.nd rfl (at_s (at_s (at_s (at_s at_z)))) ?_)
  | ((with_reducible show SW _ (Stmt.Assign [Expr.Name (Str.ofString "_law_bad") _] _ _) _ _ _); refine s_set (i := 5) (N := nsVals) scVals.nd rfl (at_s (at_s (at_s (at_s (at_s at_z))))) ?_)
  | ((with_reducible show SW _ (Stmt.Assign [Expr.Name (Str.ofString "_law_some") _] _ _) _ _ _); refine s_set (i := 6) (N := nsVals) scVals.nd rfl (at_s (at_s (at_s (at_s (at_s (at_s at_z)))))) ?_))
local macro_rules | `(tactic| walk_at "tg") => `(tactic| first
  | ((with_reducible show GW _ (Expr.Name (Str.ofString "_law_rows_here") _) _ _ _ _); refine g_nm (i := 0) (N := nsVals) scVals.nd rfl at_z ?_)
  | ((with_reducible show GW _ (Expr.Name (Str.ofString "_law_kind") _) _ _ _ _); refine g_nm (i := 1) (N := nsVals) scVals.nd rfl (at_s at_z) ?_)
  | ((with_reducible show GW _ (Expr.Name (Str.ofString "_law_found") _) _ _ _ _); refine g_nm (i := 2) (N := nsVals) scVals.nd rfl (at_s (at_s at_z)) ?_)
  | ((with_reducible show GW _ (Expr.Name (Str.ofString "_law_title") _) _ _ _ _); refine g_nm (i := 3) (N := nsVals) scVals.nd rfl (at_s (at_s (at_s at_z))) ?_)
  | ((with_reducible show GW _ (Expr.Name (Str.ofString "_law_arity") _) _ _ _ _); refine g_nm (i := 4) (N := nsVals) scVals.nd rfl (at_s (at_s (at_s (at_s at_z)))) ?_)
  | ((with_reducible show GW _ (Expr.Name (Str.ofString "_law_bad") _) _ _ _ _); refine g_nm (i := 5) (N := nsVals) scVals.nd rfl (at_s (at_s (at_s (at_s (at_s at_z))))) ?_)
  | ((with_reducible show GW _ (Expr.Name (Str.ofString "_law_some") _) _ _ _ _); refine g_nm (i := 6) (N := nsVals) scVals.nd rfl (at_s (at_s (at_s (at_s (at_s (at_s at_z)))))) ?_))
def spVals (K : PySem.W.Frag) : Sp := fun vs H Q _ => ∃ (a b : Addr) (rows : List (Str × Int)) (xs : List V) (z : Str) (zs : List V), vs = [.ref a, .ref b] ∧ OkR rows ∧ H a = some (.lst xs) ∧ DqAll K H xs (rowsD rows) ∧ SqT K H b (.str z :: zs) ∧ VdA K H 5 42 (.str z :: zs) ∧ z.length ≤ 10 ∧ zs.length ≤ 3 ∧
  ∀ L H', Same H H' → FS K 12 1000 H' L 1000 → Q (.ref L) H'
theorem bVals (ml : mg "list" = none) : BodyZ P w K mg base nsVals "_law_values" sVals f 0 (spVals K) := by
  intro X cd A outer s H vs Q E hX hr tk hs
  subst hX
  obtain ⟨a, b, rows, xs, z, zs, rfl, ok, ha, hrows, sq, va, hz, hzl, hQ⟩ := hs
  have hxl := DqAll.length hrows
  rw [List.length_map] at hxl
  have hrl := ok.len
  have hk : Vd K H 6 42 (.ref b) := .tup sq va
  walk_at "st"
  walk_at "z1"
  refine e_list1 (n := 12) (m := 1000)
    (AV.cons (EV.of hk fun _ _ q => by walk_at "nm"; exact q) <|
     AV.cons (EV.listT sq va ml fun _ _ q => by walk_at "nm"; exact q) <|
     AV.cons (EVT.add (EVT.of sq va fun _ _ q => by walk_at "nm"; exact q) (by simp) (EVT.disp (AV.cons (EVT.disp (AV.cons (EV.str (m := 3) (by decide)) AV.nil)).ev AV.nil)) (by simp; omega)).ev <|
     AV.cons (EVT.sl (l := none) (u := some 1) (EVT.of sq va fun _ _ q => by walk_at "nm"; exact q) (fun _ _ q => o_no q) (fun _ _ q => o_so (e_int ⟨_, rfl, q⟩))).ev <|
     AV.cons (show EV _ _ _ 0 10 _ from ⟨fun H1 Q s q => by
       refine e_ix ix_tup ?_
       walk_at "z"
       exact ⟨_, _, _, _, rfl, rfl, SqT.same sq s, at_head, q _ _ (Same.refl _) (.str hz)⟩⟩) <|
     AV.cons (EVT.sl (l := some 1) (u := none) (EVT.of sq va fun _ _ q => by walk_at "nm"; exact q) (fun _ _ q => o_so (e_int ⟨_, rfl, q⟩)) (fun _ _ q => o_no q)).ev <|
     AV.cons (EV.tup (AV.cons (EV.of hk fun _ _ q => by walk_at "nm"; exact q) AV.nil)) <|
     AV.cons EV.non <| AV.cons (EV.int (m := 2) (by decide +kernel)) <| AV.cons (EV.tup AV.nil) <| AV.cons (EV.str (m := 3) (by decide)) <| AV.cons EV.dct AV.nil) (by decide) (by decide) fun F1 H1 S1 N1 f1 => ?_
  replace f1 : FS K 12 1000 H1 F1 12 := f1
  walk_at "st"
  walk_at "z1"
  refine e_more f1 (fun _ q => by walk_at "nm"; exact q) (AV.cons EV.bl AV.nil) (by decide) (by decide) (by show 12 + 1 ≤ 1000; decide) fun F2 H2 S2 N2 f2 => ?_
  replace f2 : FS K 12 1000 H2 F2 13 := f2
  have hk2 := hk.keep (S1.trans S2)
  walk_at "st"
  walk_at "z1"
  refine e_more f2 (fun _ q => by walk_at "nm"; exact q)
    (AV.cons (EV.tup (AV.cons (EV.str (m := 2) (by decide)) AV.nil)) <| AV.cons (EV.tup (AV.cons (EV.int (m := 2) (by decide +kernel)) AV.nil)) <| AV.cons (EV.tup (AV.cons EV.non AV.nil)) <|
     AV.cons (EV.tup (AV.cons (EV.lst (AV.cons (EV.str (m := 3) (by decide)) AV.nil)) AV.nil)) <| AV.cons (EV.tup (AV.cons (EV.str (m := 4) (by decide)) (AV.cons (EV.str (m := 1) (by decide)) AV.nil))) <|
     AV.cons (EV.tup (AV.cons (EV.str (m := 4) (by decide)) (AV.cons (EV.of hk2 fun _ _ q => by walk_at "nm"; exact q) AV.nil))) <|
     AV.cons (EV.tup (AV.cons (EV.str (m := 4) (by decide)) (AV.cons (EV.of hk2 fun _ _ q => by walk_at "nm"; exact q) (AV.cons (EV.of hk2 fun _ _ q => by walk_at "nm"; exact q) AV.nil)))) AV.nil) (by decide) (by decide) (by show 13 + 7 ≤ 1000; decide) fun F3 H3 S3 N3 f3 => ?_
  replace f3 : FS K 12 1000 H3 F3 20 := f3
  have hk3 := hk2.keep S3
  walk_at "st"
  walk_at "z1"
  refine e_more f3 (fun _ q => by walk_at "nm"; exact q) (AV.cons (EV.lst (AV.cons (EV.of hk3 fun _ _ q => by walk_at "nm"; exact q) AV.nil)) AV.nil) (by decide) (by decide) (by show 20 + 1 ≤ 1000; decide) fun F4 H4 S4 N4 f4 => ?_
  replace f4 : FS K 12 1000 H4 F4 21 := f4
  have S04 := ((S1.trans S2).trans S3).trans S4
  have hk4 := hk.keep S04
  walk_at "st"
  walk_at "z1"
  refine e_more f4 (fun _ q => by walk_at "nm"; exact q)
    (AV.cons (EV.tup (AV.cons (EV.str (m := 4) (by decide)) (AV.cons (EV.listT (SqT.same sq S04) (va.keep S04) ml fun _ _ q => by walk_at "nm"; exact q) AV.nil))) <|
     AV.cons (EV.tup (AV.cons (EV.str (m := 4) (by decide)) (AV.cons (EV.of hk4 fun _ _ q => by walk_at "nm"; exact q) AV.nil))) <|
     AV.cons (EV.tup (AV.cons (EV.str (m := 4) (by decide)) (AV.cons EV.non AV.nil))) <|
     AV.cons (EV.tup (AV.cons (EV.str (m := 4) (by decide)) (AV.cons (EV.of hk4 fun _ _ q => by walk_at "nm"; exact q) AV.nil))) <|
     AV.cons (EV.tup (AV.cons (EV.str (m := 4) (by decide)) AV.nil)) <| AV.cons (EV.tup (AV.cons EV.bl AV.nil)) AV.nil) (by decide) (by decide) (by show 21 + 6 ≤ 1000; decide) fun F5 H5 S5 N5 f5 => ?_
  replace f5 : FS K 12 1000 H5 F5 27 := f5
  have S05 := S04.trans S5
  walk_at "st"
  refine s_for (i_list ?_)
  walk_at "z1"
  refine ⟨a, xs, rfl, .inl (.inl (S05 _ _ ha)), ?_⟩
  refine ⟨fun j σ' H' => ∃ F o3 o4 o5 o6, σ' = [some (.ref a), some (.ref b), some (.ref F), o3, o4, o5, o6] ∧ Same H H' ∧ FS K 12 1000 H' F (30 + 15 * j), ?_, ?_, ?_, ?_⟩
  · exact ⟨F5, _, _, _, _, rfl, S05, f5.le (by decide)⟩
  · rintro j σ' H' _ ⟨_, _, _, _, _, _, s', _⟩
    exact .inl (.inl (s' _ _ ha))
  · rintro j σ' H' x H2' hj ⟨F, o3, o4, o5, o6, rfl, s', fs⟩ ⟨rfl, ex⟩
    obtain ⟨dr, edr, hdr⟩ := DqAll.get hrows ex
    obtain ⟨r, er, rfl⟩ : ∃ r, rows[j]? = some r ∧ rowD r = dr := by
      rw [List.getElem?_map] at edr
      cases q : rows[j]? with
      | none => rw [q] at edr; cases edr
      | some p => rw [q] at edr; cases edr; exact ⟨p, rfl, rfl⟩
    obtain ⟨c, rfl, sqc⟩ := Dq.row hdr
    have mr := List.mem_of_getElem? er
    have nl := nm_len ok.nm mr
    refine g_tup rfl ⟨c, [.str r.1, .int r.2], rfl, SqT.same sqc s', rfl, ?_⟩
    refine gs_cons ?_
    walk_at "tg"
    refine gs_cons ?_
    walk_at "tg"
    refine gs_nil ?_
    walk_at "st"
    refine s_for (i_list (e_if (t_cmp op_gt ?_)))
    walk_at "z"
    refine ⟨_, rfl, ?_⟩
    by_cases h0 : 0 < r.2
    rotate_left
    · refine (if_neg (by simpa using h0)).mpr ?_
      walk_at "z"
      refine ⟨szL, fun E0 H6 n6 => ?_⟩
      refine ⟨E0, [], rfl, .inl (.inl n6.here), fun j' σ'' H'' => j' = 0 ∧ (∃ F o3 o4 o5 o6, σ'' = [some (.ref a), some (.ref b), some (.ref F), o3, o4, o5, o6] ∧ Same H H'' ∧ FS K 12 1000 H'' F (30 + 15 * (j + 1))) ∧ Same H6 H'', ⟨rfl, ⟨F, _, _, _, _, rfl, s'.trans n6.same, (fs.keep n6.same).le (by omega)⟩, Same.refl _⟩, fun i σ'' H'' _ ⟨_, _, s6⟩ => .inl (.inl (s6 _ _ n6.here)), ?_, ?_⟩
      · intro i σ'' H'' x H2 hi
        exact absurd hi (Nat.not_lt_zero _)
      · rintro σ'' H'' ⟨_, h, _⟩
        walk_at "z"
        exact h
    have har : r.2 = 1 ∨ r.2 = 2 := by rcases ok.ar mr with h | h | h <;> omega
    refine (if_pos (by simpa using h0)).mpr ?_
    have hk' := hk.keep s'
    refine e_list1 (n := 7) (m := 100)
      (AV.cons (EV.str (m := 1) (by decide)) <| AV.cons EV.non <| AV.cons (EV.tup (AV.cons (EV.str (m := 2) (by decide)) AV.nil)) <|
       AV.cons (EV.listT (SqT.same sq s') (va.keep s') ml fun _ _ q => by walk_at "nm"; exact q) <| AV.cons (EV.tup AV.nil) AV.nil) (by decide) (by decide) fun B H6 S6 N6 b6 => ?_
    obtain ⟨bs, hB, hbl, hbs⟩ := b6
    have hbl5 : bs.length ≤ 5 := hbl
    refine ⟨B, bs, rfl, .inl (.inl hB), fun u σ'' H'' => ∃ F o5 o6, σ'' = [some (.ref a), some (.ref b), some (.ref F), some (.str r.1), some (.int r.2), o5, o6] ∧ Same H6 H'' ∧ FS K 12 1000 H'' F (30 + 15 * j + 3 * u), ⟨F, _, _, rfl, Same.refl _, (fs.keep S6)⟩, fun i σ'' H'' _ ⟨_, _, _, _, s6, _⟩ => .inl (.inl (s6 _ _ hB)), ?_, ?_⟩
    · rintro u σ'' H'' x H2 hu ⟨F, o5, o6, rfl, s6, fs6⟩ ⟨rfl, ex⟩
      have hx : Vd K H2 7 100 x := (hbs x (List.mem_of_getElem? ex)).keep s6
      have s0 : Same H H2 := (s'.trans S6).trans s6
      have hk6 := hk.keep s0
      walk_at "tg"
      walk_at "st"
      walk_at "z1"
      refine EVT.run (EVT.add (L := 1) (N := 3) (L' := 1) (N' := 1) (EVT.add (L := 1) (N := 1) (L' := 0) (N' := 2) (EVT.disp (AV.cons (EV.str' (m := 4) (H := H2) nl fun _ _ q => by walk_at "nm"; exact q) AV.nil)) (Nat.le_refl _)
        (EVT.mul (L := 1) (N := 1) (k := r.2 - 1) (EVT.disp (AV.cons (EV.of hk6 fun _ _ q => by walk_at "nm"; exact q) AV.nil)) (Nat.le_refl _) (by decide) (EI.sub ⟨fun _ _ q => by walk_at "nm"; exact q⟩ EI.int) (by omega) (by omega)) (by decide)) (Nat.le_refl _) (EVT.disp (AV.cons (EV.of hx fun _ _ q => by walk_at "nm"; exact q) AV.nil)) (by decide)) H2 _ (Same.refl _) fun c ts H7 s7 sq7 l7 l7' va7 => ?_
      have hs7 : Vd K H7 8 200 (.ref c) := (Vd.tup sq7 va7).mono (by decide) (by decide)
      have hk7 := hk6.keep s7
      walk_at "st"
      walk_at "z1"
      refine e_more (fs6.keep s7) (fun _ q => by walk_at "nm"; exact q)
        (AV.cons (EV.of hs7 fun _ _ q => by walk_at "nm"; exact q) <|
         AV.cons (EVT.add (L := 1) (N := 3) (L' := 1) (N' := 1) (EVT.add (L := 1) (N := 1) (L' := 0) (N' := 2) (EVT.disp (AV.cons (EV.str' (m := 4) (H := H7) nl fun _ _ q => by walk_at "nm"; exact q) AV.nil)) (Nat.le_refl _)
          (EVT.mul (L := 1) (N := 1) (k := r.2 - 1) (EVT.disp (AV.cons (EV.of hk7 fun _ _ q => by walk_at "nm"; exact q) AV.nil)) (Nat.le_refl _) (by decide) (EI.sub ⟨fun _ _ q => by walk_at "nm"; exact q⟩ EI.int) (by omega) (by omega)) (by decide)) (Nat.le_refl _) (EVT.disp (AV.cons (EV.of hs7 fun _ _ q => by walk_at "nm"; exact q) AV.nil)) (by decide)).ev <|
         AV.cons (EVT.add (L := 1) (N := 1) (L' := 0) (N' := 2) (EVT.disp (AV.cons (EV.str' (m := 4) (H := H7) nl fun _ _ q => by walk_at "nm"; exact q) AV.nil)) (Nat.le_refl _)
          (EVT.mul (L := 1) (N := 1) (k := r.2) (EVT.disp (AV.cons (EV.of hs7 fun _ _ q => by walk_at "nm"; exact q) AV.nil)) (Nat.le_refl _) (by decide) ⟨fun _ _ q => by walk_at "nm"; exact q⟩ (by omega) (by omega)) (by decide)).ev AV.nil) (by decide) (by decide) (by show 30 + 15 * j + 3 * u + 3 ≤ 1000; omega) fun F7 H8 s8 N8 f8 => ?_
      walk_at "z"
      exact ⟨F7, _, _, rfl, (s6.trans s7).trans s8, f8.le (by show 30 + 15 * j + 3 * u + 3 ≤ _; omega)⟩
    · rintro σ'' H'' ⟨F, o5, o6, rfl, s6, fs6⟩
      walk_at "z"
      exact ⟨F, _, _, _, _, rfl, (s'.trans S6).trans s6, fs6.le (by omega)⟩
  · rintro σ' H' ⟨F, o3, o4, o5, o6, rfl, s', fs⟩
    walk_at "z"
    exact hQ F H' s' (fs.le (by omega))
end
end L2.Z.Law

set_option maxHeartbeats 1000000
namespace L2.Z.Law
open PySem PySem.Spec PyProof.Rows PySem.ZX
local macro_rules | `(tactic| walk_at "zi") => `(tactic| refine ⟨_, _, rfl, rfl, ?_⟩)
local macro_rules | `(tactic| walk_at "zmod") => `(tactic| refine ⟨_, _, rfl, rfl, (show (0 : Int) < _ by first | decide | omega), ?_⟩)
local macro_rules | `(tactic| walk_at "zdiv") => `(tactic| refine ⟨_, _, rfl, rfl, ⟨(show (0 : Int) < _ by first | decide | omega), ?_⟩, ?_⟩)
local macro_rules | `(tactic| walk_at "z1") => `(tactic| first
  | ((with_reducible show EW _ (Expr.Name _ _) _ _ _); walk_at "nm")
  | ((with_reducible show EW _ (Expr.Constant _ _ _) _ _ _); first | with_reducible refine e_int ?_ | with_reducible refine e_str ?_ | with_reducible refine e_bl ?_ | with_reducible refine e_non ?_)
  | ((with_reducible show EW _ (Expr.BinOp _ Operator.Add _ _) _ _ _); refine e_op z_add ?_)
  | ((with_reducible show EW _ (Expr.BinOp _ Operator.Sub _ _) _ _ _); refine e_op op_sub ?_)
  | ((with_reducible show EW _ (Expr.BinOp _ Operator.Mult _ _) _ _ _); refine e_op z_mul ?_)
  | ((with_reducible show EW _ (Expr.BinOp _ Operator.Mod _ _) _ _ _); refine e_op op_mod ?_)
  | ((with_reducible show EW _ (Expr.BinOp _ Operator.FloorDiv _ _) _ _ _); refine e_op op_fdivW ?_)
  | ((with_reducible show EW _ (Expr.BinOp _ Operator.Pow _ _) _ _ _); refine e_op op_pow ?_)
  | ((with_reducible show EW _ (Expr.List _ _) _ _ _); refine e_lstN ?_)
  | ((with_reducible show EW _ (Expr.Tuple _ _ _) _ _ _); refine e_tupN ?_)
  | ((with_reducible show EW _ (Expr.Subscript _ (Expr.Slice _ _ _ _) _) _ _ _); refine e_sl sl_listN ?_)
  | ((with_reducible show EW _ (Expr.Dict [] [] _) _ _ _); refine e_dKN ?_)
  | ((with_reducible show EW _ (Expr.BoolOp BoolOp.And [_] _) _ _ _); refine e_one ?_)
  | ((with_reducible show EW _ (Expr.BoolOp BoolOp.Or [_] _) _ _ _); refine e_one ?_)
  | ((with_reducible show EW _ (Expr.BoolOp BoolOp.And _ _) _ _ _); refine e_and ?_)
  | ((with_reducible show EW _ (Expr.BoolOp BoolOp.Or _ _) _ _ _); refine e_or ?_)
  | ((with_reducible show EW _ (Expr.IfExp _ _ _ _) _ _ _); refine e_if ?_)
  | ((with_reducible show AW _ [] _ _ _); refine a_nil ?_)
  | ((with_reducible show AW _ (_ :: _) _ _ _); refine a_cons ?_)
  | ((with_reducible show OW _ none _ _ _); refine o_no ?_)
  | ((with_reducible show OW _ (some _) _ _ _); refine o_so ?_)
  | ((with_reducible show TW _ (Expr.UnaryOp UnaryOp.Not _ _) _ _ _); refine t_not ?_)
  | ((with_reducible show TW _ (Expr.BoolOp _ _ _) _ _ _); refine t_w ?_)
  | ((with_reducible show PWW _ (Expr.BoolOp BoolOp.And [_] _) _ _ _); refine w_and1 ?_)
  | ((with_reducible show PWW _ (Expr.BoolOp BoolOp.Or [_] _) _ _ _); refine w_or1 ?_)
  | ((with_reducible show PWW _ (Expr.BoolOp BoolOp.And _ _) _ _ _); refine w_and ?_)
  | ((with_reducible show PWW _ (Expr.BoolOp BoolOp.Or _ _) _ _ _); refine w_or ?_)
  | ((with_reducible show SW _ (Stmt.Return (some _) _) _ _ _); refine s_ret ?_)
  | ((with_reducible show SW _ (Stmt.If _ _ _ _) _ _ _); refine s_if ?_)
  | ((with_reducible show SW _ (Stmt.Expr _ _) _ _ _); refine s_expr ?_)
  | ((with_reducible show SW _ (Stmt.Assign [Expr.Name _ _] _ _) _ _ _); walk_at "set")
  | ((with_reducible show BW _ [_] _ _ _); (first | (with_reducible refine b_one ?_) | refine b_one ?_))
  | ((with_reducible show BW _ [] _ _ _); refine b_nil ?_)
  | ((with_reducible show BW _ _ _ _ _); (first | (with_reducible refine b_cons ?_) | refine b_cons ?_))
  | ((with_reducible show rAddZ _ _ _ _ _); refine Or.inl ⟨_, _, rfl, rfl, ?_⟩)
  | ((with_reducible show rI0 _ _ _ _ _); refine ⟨_, _, rfl, rfl, ?_⟩)
  | ((with_reducible show rI (fun _ j => 0 < j) _ _ _ _ _); refine ⟨_, _, rfl, rfl, (show (0 : Int) < _ by first | decide | omega), ?_⟩)
  | ((with_reducible show Ends.nx _ _ _); first | (with_reducible refine mk_nx ?_) | refine (show BW _ _ _ _ _ from ?_)))
local macro_rules | `(tactic| walk_at "z") => `(tactic| repeat walk_at "z1")
local macro_rules | `(tactic| walk_at "st") => `(tactic| repeat (first
  | ((with_reducible show Ends.nx _ _ _); first | (with_reducible refine mk_nx ?_) | refine (show BW _ _ _ _ _ from ?_))
  | ((with_reducible show BW _ _ _ _ _); (first | (with_reducible refine b_cons ?_) | refine b_cons ?_))))
/-- what is known of the exception classes -/
structure XQ (P : Program) (K : PySem.W.Frag) (mg : Str → Option Value) (cW cL cI cS cN fL fI fS fN : Addr) (qL qI qS qN : Str) : Prop where
  TL : ExK P K mg "InvalidList" "value" qL cL fL
  TI : ExK P K mg "InvalidItem" "value" qI cI fI
  TS : ExK P K mg "InvalidSignature" "value" qS cS fS
  TN : ExK P K mg "InvalidNumber" "value" qN cN fN
  gw : mg "WoodError" = some (.ref cW)
  xL : PySem.W.exmOne K (.ref cL) (.ref cW) = some true
  xI : PySem.W.exmOne K (.ref cI) (.ref cW) = some true
  xS : PySem.W.exmOne K (.ref cS) (.ref cS) = some true
  xN : PySem.W.exmOne K (.ref cN) (.ref cN) = some true
  kLL : PySem.W.kitOne K (.ref cL) (.ref cL) = some true
  kLI : PySem.W.kitOne K (.ref cL) (.ref cI) = some false
  kIL : PySem.W.kitOne K (.ref cI) (.ref cL) = some false
  kII : PySem.W.kitOne K (.ref cI) (.ref cI) = some true
/-- can be shown -/
structure RpOk (d : PyData) : Prop where
  sh : d.showable = true
  ln : d.shown.length ≤ sizeLine
  dp : d.depth ≤ 60
theorem rd_fun {H : Hp} {l : Addr} {xs ys : List V} (h : Rd H l (.lst xs)) (g : H l = some (.lst ys)) : xs = ys := by
  rcases h with h | ⟨o, h⟩
  · rw [g] at h; cases h; rfl
  · rw [g] at h; cases h
section
variable {P : Program} {w : World} {K : PySem.W.Frag} {mg : Str → Option Value} {base : Heap} {f C cW cL cI cS cN fL fI fS fN : Addr} {qL qI qS qN : Str}
abbrev sCaught : Stmt := topS 29
abbrev nsCaught : List Str := ["_law_thing", "_law_caught_here", "e"]
theorem scCaught : FnScope nsCaught ["_law_thing"] (defScope sCaught) := ⟨rfl, rfl, rfl, by decide +kernel, rfl, by decide +kernel, by decide +kernel⟩
local macro_rules | `(tactic| walk_at "nm") => `(tactic| first
  | ((with_reducible show EW _ (Expr.Name (Str.ofString "_law_thing") _) _ _ _); refine e_nm (i := 0) (N := nsCaught) rfl at_z rfl ?_)
  | ((with_reducible show EW _ (Expr.Name (Str.ofString "_law_caught_here") _) _ _ _); refine e_nm (i := 1) (N := nsCaught) rfl (at_s at_z) rfl ?_)
  | ((with_reducible show EW _ (Expr.Name (Str.ofString "e") _) _ _ _); refine e_nm (i := 2) (N := nsCaught) rfl (at_s (at_s at_z)) rfl ?_))
local macro_rules | `(tactic| walk_at "set") => `(tactic| first
  | ((with_reducible show SW _ (Stmt.Assign [Expr.Name (Str.ofString "_law_thing") _] _ _) _ _ _); refine s_set (i := 0) (N := nsCaught) scCaught.nd rfl at_z ?_)
  | ((with_reducible show SW _ (Stmt.Assign [Expr.Name (Str.ofString "_law_caught_here") _] _ _) _ _ _); refine s_set (i := 1) (N := nsCaught) scCaught.nd rfl (at_s at_z) ?_)
  | ((with_reducible show SW _ (Stmt.Assign [Expr.Name (Str.ofString "e") _] _ _) _ _ _); refine s_set (i := 2) (N := nsCaught) scCaught.nd rfl (at_s (at_s at_z)) ?_))
local macro_rules | `(tactic| walk_at "tg") => `(tactic| first
  | ((with_reducible show GW _ (Expr.Name (Str.ofString "_law_thing") _) _ _ _ _); refine g_nm (i := 0) (N := nsCaught) scCaught.nd rfl at_z ?_)
  | ((with_reducible show GW _ (Expr.Name (Str.ofString "_law_caught_here") _) _ _ _ _); refine g_nm (i := 1) (N := nsCaught) scCaught.nd rfl (at_s at_z) ?_)
  | ((with_reducible show GW _ (Expr.Name (Str.ofString "e") _) _ _ _ _); refine g_nm (i := 2) (N := nsCaught) scCaught.nd rfl (at_s (at_s at_z)) ?_))
def spCaught (K : PySem.W.Frag) : Sp := fun vs H Q _ => ∃ (v : V) (d : PyData) (e : Option Nat) (w : V) (dw : PyData), vs = [v] ∧ Dq K H v d ∧ Sml d ∧ sigErr d = some e ∧
  ((e = none ∧ w = v) ∨ ∃ i l xs, e = some i ∧ v = .ref l ∧ H l = some (.lst xs) ∧ xs[i]? = some w) ∧ Dq K H w dw ∧
  ((isLst dw = false ∧ RpOk dw ∧ ∀ R H', Same H H' → H R = none → H' R = some (.lst [.bl e.isNone, .bl e.isSome, .str dw.shown]) → Q (.ref R) H') ∨
   ∃ l ys es Gx, isLst dw = true ∧ w = .ref l ∧ H l = some (.lst ys) ∧ Same Gx H ∧ Gx l = none ∧ DqAll K Gx ys es ∧ ys.length < 1000 ∧ RpOk (.list (es ++ [.str "more"])) ∧
     ∀ R H', But l H H' → H R = none → H' l = some (.lst (ys ++ [.str "more"])) → H' R = some (.lst [.bl e.isNone, .bl e.isSome, .str (PyData.list (es ++ [.str "more"])).shown]) → Q (.ref R) H')
theorem bCaught (F : XQ P K mg cW cL cI cS cN fL fI fS fN qL qI qS qN) (SS : Sys base) (mi : mg "isinstance" = none) (ml : mg "list" = none) (mp : mg "repr" = none) (MS : MkZ P w K mg base "Signature" C 3 ["self", "rows"] (spSig K C cL cI)) :
    BodyZ P w K mg base nsCaught "_law_caught" sCaught f 4 (spCaught K) := by
  intro X cd A outer s H vs Q E hX hr tk hs
  subst hX
  have hu := hr.r.units
  obtain ⟨v, d, e, wv, dw, rfl, hd, hsm, hsig, hw, hdw, hs⟩ := hs
  walk_at "z"
  refine s_try (i := 2) scCaught.nd rfl (at_s (at_s at_z)) ⟨rfl, by decide, .inl F.gw⟩ tk ?_
  intro pn xe tk' _
  walk_at "z1"
  walk_at "z1"
  refine e_make MS hr tk' ?_
  walk_at "z"
  refine ⟨rfl, fun a dx na ndx ne => ?_⟩
  have S1 : Same H (upd (upd H dx (.own a)) a (.ins C dx [])) := (same_upd ndx).trans (same_upd (by rw [upd_ne (Ne.symm ne)]; exact na))
  refine ⟨a, dx, v, d, H, rfl, upd_same, S1, na, hd, hsm, (fun h => by rw [hsig] at h; cases h), fun e' he' H' dd w' bt ndd hdd hw1 hw2 => ?_⟩
  rw [hsig] at he'
  cases he'
  have SH : Same H H' := fun b o h => bt b o (fun z => by rw [z, na] at h; cases h) (S1 b o h)
  have ew : w' = wv := by
    rcases hw with ⟨h1, h2⟩ | ⟨i, l, xs, h1, h2, h3, h4⟩
    · rw [h2]; exact hw1 h1
    · obtain ⟨l', xs', g1, g2, g3⟩ := hw2 i h1
      rw [h2] at g1
      cases g1
      rw [rd_fun g2 h3, h4] at g3
      exact (Option.some.inj g3).symm
  subst ew
  obtain ⟨cE, hcE, xE, kL, kI, noN, xC⟩ : ∃ cE, cE = (e.elim cL fun _ => cI) ∧ PySem.W.exmOne K (.ref cE) (.ref cW) = some true ∧ PySem.W.kitOne K (.ref cE) (.ref cL) = some e.isNone ∧ PySem.W.kitOne K (.ref cE) (.ref cI) = some e.isSome ∧ PySem.W.findIn K (.ref cE) "value" = some none ∧ ExcC K cE := by
    cases e with
    | none => exact ⟨cL, rfl, F.xL, F.kLL, F.kLI, F.TL.t.noN, F.TL.ex⟩
    | some i => exact ⟨cI, rfl, F.xI, F.kIL, F.kII, F.TI.t.noN, F.TI.ex⟩
  rw [← hcE]
  refine ⟨true, xE, fun _ => ⟨cE, rfl, fun x nx oe pn' zc hf => ?_⟩, fun h => by cases h⟩
  walk_at "z"
  have hx : (upd H' x (trkO x cE (some dd))) x = some (exT x cE dd) := upd_same
  have hdd2 : (upd H' x (trkO x cE (some dd))) dd = some (.xd [("value", w')]) := by
    rw [upd_ne (fun z => by rw [z, nx] at hdd; cases hdd)]
    exact hdd
  have SJ : Same H (upd H' x (trkO x cE (some dd))) := SH.trans (same_upd nx)
  generalize upd H' x (trkO x cE (some dd)) = J at hx hdd2 SJ
  refine t_cmp op_isN ?_
  walk_at "z"
  refine ⟨rfl, _, rfl, (if_neg (by simp)).mpr ?_⟩
  walk_at "z"
  refine t_val ?_
  refine e_isT (T := "list") mi ml (by decide +kernel) ?_
  refine e_xf ?_
  walk_at "z1"
  refine ⟨x, cE, dd, _, w', rfl, hx, hdd2, xC, noN, rfl, ?_⟩
  refine ⟨_, _, (Dq.keep SJ _ _ hdw).ty, kit_ty (kb_lst dw), _, rfl, ?_⟩
  rcases hs with ⟨hl, hrp, hQ⟩ | ⟨l, ys, es, Gx, hll, rfl, hl, sG, gl, hes, hyl, hrp, hQ⟩
  · refine (if_neg (by simp [hl])).mpr ?_
    walk_at "z"
    refine e_isC mi F.TL.g ?_
    walk_at "z1"
    refine ⟨_, _, .ex hx hdd2 xC, kL, ?_⟩
    walk_at "z"
    refine e_isC mi F.TI.g ?_
    walk_at "z1"
    refine ⟨_, _, .ex hx hdd2 xC, kI, ?_⟩
    walk_at "z"
    refine e_callB (call_reprA SS hr.g hu) mp (by decide +kernel) ?_
    walk_at "z"
    refine e_xf ?_
    walk_at "z1"
    refine ⟨x, cE, dd, _, w', rfl, hx, hdd2, xC, noN, rfl, ?_⟩
    walk_at "z"
    refine ⟨w', dw, rfl, Dq.keep SJ _ _ hdw, hrp.sh, hrp.ln, hrp.dp, ?_⟩
    walk_at "z"
    exact ⟨szL, fun R H5 n5 => hQ R H5 (SJ.trans n5.same) (SJ.free n5.free) n5.here⟩
  · refine (if_pos (by simp [hll])).mpr ?_
    have hlJ := SJ _ _ hl
    have lx : l ≠ x := fun z => by rw [z, hx] at hlJ; unfold exT at hlJ; cases hlJ
    have ld : l ≠ dd := fun z => by rw [z, hdd2] at hlJ; cases hlJ
    walk_at "z"
    refine e_bm PySem.F.plainAttrs_list PySem.F.slot_list_append PySem.F.type_list_append mt_append ?_
    refine e_xf ?_
    walk_at "z1"
    refine ⟨x, cE, dd, _, .ref l, rfl, hx, hdd2, xC, noN, rfl, .inl ⟨rfl, _, .inl (.inl hlJ)⟩, ?_⟩
    walk_at "z"
    refine ⟨l, ys, _, rfl, rfl, hlJ, small1000 (Nat.le_of_lt hyl), ?_⟩
    have hx' : (upd J l (.lst (ys ++ [V.str "more"]))) x = some (exT x cE dd) := by rw [upd_ne (Ne.symm lx)]; exact hx
    have hd' : (upd J l (.lst (ys ++ [V.str "more"]))) dd = some (.xd [("value", .ref l)]) := by rw [upd_ne (Ne.symm ld)]; exact hdd2
    have hl' : (upd J l (.lst (ys ++ [V.str "more"]))) l = some (.lst (ys ++ [V.str "more"])) := upd_same
    have bt' : But l H (upd J l (.lst (ys ++ [V.str "more"]))) := fun b o nb h => by rw [upd_ne nb]; exact SJ _ _ h
    have sG' : Same Gx (upd J l (.lst (ys ++ [V.str "more"]))) := fun b o h => by
      rw [upd_ne (fun z => by rw [z, gl] at h; cases h)]
      exact SJ _ _ (sG _ _ h)
    have nR : ∀ R, (upd J l (.lst (ys ++ [V.str "more"]))) R = none → H R = none := fun R h => by
      cases q : H R with
      | none => rfl
      | some o =>
        by_cases hb : R = l
        · rw [hb, hl'] at h; cases h
        · rw [bt' _ _ hb q] at h; cases h
    generalize upd J l (.lst (ys ++ [V.str "more"])) = J2 at hx' hd' hl' bt' sG' nR
    walk_at "z"
    refine e_isC mi F.TL.g ?_
    walk_at "z1"
    refine ⟨_, _, .ex hx' hd' xC, kL, ?_⟩
    walk_at "z"
    refine e_isC mi F.TI.g ?_
    walk_at "z1"
    refine ⟨_, _, .ex hx' hd' xC, kI, ?_⟩
    walk_at "z"
    refine e_callB (call_reprA SS hr.g hu) mp (by decide +kernel) ?_
    walk_at "z"
    refine e_xf ?_
    walk_at "z1"
    refine ⟨x, cE, dd, _, .ref l, rfl, hx', hd', xC, noN, rfl, ?_⟩
    walk_at "z"
    refine ⟨.ref l, _, rfl, .lst (.inl hl') (DqAll.snoc (Dq.keepAll sG' _ _ hes) (.str _)), hrp.sh, hrp.ln, hrp.dp, ?_⟩
    walk_at "z"
    refine ⟨szL, fun R H5 n5 => hQ R H5 (bt'.same n5.same) (nR R n5.free) (n5.same _ _ hl') n5.here⟩
end
end L2.Z.Law

set_option maxHeartbeats 1000000
namespace L2.Z.Law
open PySem PySem.Spec PyProof.Rows PySem.ZX
local macro_rules | `(tactic| walk_at "zi") => `(tactic| refine ⟨_, _, rfl, rfl, ?_⟩)
local macro_rules | `(tactic| walk_at "zmod") => `(tactic| refine ⟨_, _, rfl, rfl, (show (0 : Int) < _ by first | decide | omega), ?_⟩)
local macro_rules | `(tactic| walk_at "zdiv") => `(tactic| refine ⟨_, _, rfl, rfl, ⟨(show (0 : Int) < _ by first | decide | omega), ?_⟩, ?_⟩)
local macro_rules | `(tactic| walk_at "z1") => `(tactic| first
  | ((with_reducible show EW _ (Expr.Name _ _) _ _ _); walk_at "nm")
  | ((with_reducible show EW _ (Expr.Constant _ _ _) _ _ _); first | with_reducible refine e_int ?_ | with_reducible refine e_str ?_ | with_reducible refine e_bl ?_ | with_reducible refine e_non ?_)
  | ((with_reducible show EW _ (Expr.BinOp _ Operator.Add _ _) _ _ _); refine e_op z_add ?_)
  | ((with_reducible show EW _ (Expr.BinOp _ Operator.Sub _ _) _ _ _); refine e_op op_sub ?_)
  | ((with_reducible show EW _ (Expr.BinOp _ Operator.Mult _ _) _ _ _); refine e_op z_mul ?_)
  | ((with_reducible show EW _ (Expr.BinOp _ Operator.Mod _ _) _ _ _); refine e_op op_mod ?_)
  | ((with_reducible show EW _ (Expr.BinOp _ Operator.FloorDiv _ _) _ _ _); refine e_op op_fdivW ?_)
  | ((with_reducible show EW _ (Expr.BinOp _ Operator.Pow _ _) _ _ _); refine e_op op_pow ?_)
  | ((with_reducible show EW _ (Expr.List _ _) _ _ _); refine e_lstN ?_)
  | ((with_reducible show EW _ (Expr.Tuple _ _ _) _ _ _); refine e_tupN ?_)
  | ((with_reducible show EW _ (Expr.Subscript _ (Expr.Slice _ _ _ _) _) _ _ _); refine e_sl sl_listN ?_)
  | ((with_reducible show EW _ (Expr.Dict [] [] _) _ _ _); refine e_dKN ?_)
  | ((with_reducible show EW _ (Expr.BoolOp BoolOp.And [_] _) _ _ _); refine e_one ?_)
  | ((with_reducible show EW _ (Expr.BoolOp BoolOp.Or [_] _) _ _ _); refine e_one ?_)
  | ((with_reducible show EW _ (Expr.BoolOp BoolOp.And _ _) _ _ _); refine e_and ?_)
  | ((with_reducible show EW _ (Expr.BoolOp BoolOp.Or _ _) _ _ _); refine e_or ?_)
  | ((with_reducible show EW _ (Expr.IfExp _ _ _ _) _ _ _); refine e_if ?_)
  | ((with_reducible show AW _ [] _ _ _); refine a_nil ?_)
  | ((with_reducible show AW _ (_ :: _) _ _ _); refine a_cons ?_)
  | ((with_reducible show OW _ none _ _ _); refine o_no ?_)
  | ((with_reducible show OW _ (some _) _ _ _); refine o_so ?_)
  | ((with_reducible show TW _ (Expr.UnaryOp UnaryOp.Not _ _) _ _ _); refine t_not ?_)
  | ((with_reducible show TW _ (Expr.BoolOp _ _ _) _ _ _); refine t_w ?_)
  | ((with_reducible show PWW _ (Expr.BoolOp BoolOp.And [_] _) _ _ _); refine w_and1 ?_)
  | ((with_reducible show PWW _ (Expr.BoolOp BoolOp.Or [_] _) _ _ _); refine w_or1 ?_)
  | ((with_reducible show PWW _ (Expr.BoolOp BoolOp.And _ _) _ _ _); refine w_and ?_)
  | ((with_reducible show PWW _ (Expr.BoolOp BoolOp.Or _ _) _ _ _); refine w_or ?_)
  | ((with_reducible show SW _ (Stmt.Return (some _) _) _ _ _); refine s_ret ?_)
  | ((with_reducible show SW _ (Stmt.If _ _ _ _) _ _ _); refine s_if ?_)
  | ((with_reducible show SW _ (Stmt.Expr _ _) _ _ _); refine s_expr ?_)
  | ((with_reducible show SW _ (Stmt.Assign [Expr.Name _ _] _ _) _ _ _); walk_at "set")
  | ((with_reducible show BW _ [_] _ _ _); (first | (with_reducible refine b_one ?_) | refine b_one ?_))
  | ((with_reducible show BW _ [] _ _ _); refine b_nil ?_)
  | ((with_reducible show BW _ _ _ _ _); (first | (with_reducible refine b_cons ?_) | refine b_cons ?_))
  | ((with_reducible show rAddZ _ _ _ _ _); refine Or.inl ⟨_, _, rfl, rfl, ?_⟩)
  | ((with_reducible show rI0 _ _ _ _ _); refine ⟨_, _, rfl, rfl, ?_⟩)
  | ((with_reducible show rI (fun _ j => 0 < j) _ _ _ _ _); refine ⟨_, _, rfl, rfl, (show (0 : Int) < _ by first | decide | omega), ?_⟩)
  | ((with_reducible show Ends.nx _ _ _); first | (with_reducible refine mk_nx ?_) | refine (show BW _ _ _ _ _ from ?_)))
local macro_rules | `(tactic| walk_at "z") => `(tactic| repeat walk_at "z1")
local macro_rules | `(tactic| walk_at "st") => `(tactic| repeat (first
  | ((with_reducible show Ends.nx _ _ _); first | (with_reducible refine mk_nx ?_) | refine (show BW _ _ _ _ _ from ?_))
  | ((with_reducible show BW _ _ _ _ _); (first | (with_reducible refine b_cons ?_) | refine b_cons ?_))))
def rpB (d : PyData) : Bool := d.showable && d.leavesShort 13 && decide (d.weight ≤ 1000) && decide (d.depth ≤ 20)
theorem rpB.ok {d : PyData} (h : rpB d = true) : RpOk d ∧ Sml d := by
  simp only [rpB, Bool.and_eq_true, decide_eq_true_eq] at h
  obtain ⟨⟨⟨h1, h2⟩, h3⟩, h4⟩ := h
  have g : Gd d := ⟨h1, h2, h3, h4⟩
  exact ⟨⟨h1, g.len, by omega⟩, Nat.le_trans h3 (by decide)⟩
/-! ### lists that are no signatures -/
def odd1 (rows : List (Str × Int)) : List PyData := [.none, .int 3, .list [], .tuple [], .tuple (rowsD rows), .str "rows", .dict [], .bool true, .list (List.replicate 6 [PyData.none]).flatten, .list (List.replicate 3 (rowsD rows)).flatten, .int 0]
def okO1 (d : PyData) : Bool := decide (sigErr d = some none) && rpB d && (match d with
  | .list ds => rpB (.list (ds ++ [.str "more"])) && decide (ds.length < 1000)
  | _ => true)
theorem OkR.o1 {rows : List (Str × Int)} (o : OkR rows) : ∀ d ∈ odd1 rows, okO1 d = true := List.all_eq_true.mp (okr (p := fun rows => (odd1 rows).all okO1) (by decide +kernel) o)
def odd2 (r0 : Str × Int) : List PyData := [.none, .int 3, .str "int", .tuple [.str "new"], .tuple [.str "new", .int 0, .int 0], .list [.str "new", .int 0], .tuple [.str "new", .int 3], .tuple [.str "new", .int (-1)], .tuple [.str "new", .bool true]]
  ++ [.tuple [.str "new", .str "0"]]
  ++ [.tuple [.str "", .int 0], .tuple [.str "New", .int 0], .tuple [.str "abcdefghi", .int 0], .tuple [.none, .int 0], .tuple [.int 3, .int 0], .tuple [.str "new", .none], .dict [], .tuple [], .tuple [.str "a b", .int 1]]
  ++ [rowD r0, .tuple [.str "new\n", .int 0], .tuple [.str "\n", .int 0], .tuple [.str "int8", .int 0], .tuple [.str "new_", .int 0], .tuple [.str "8", .int 0]]
  ++ [.tuple [.str r0.1, .int 2], .tuple [.list [.str "new"], .int 0], .tuple [.str "new", .list [.int 0]]]
def okO2 (rows : List (Str × Int)) (d : PyData) : Bool := decide (sigErr (.list ((rowsD rows).take 3 ++ [d, .none])) = some (some ((rowsD rows).take 3).length)) && decide (PyData.weight (.list ((rowsD rows).take 3 ++ [d, .none])) ≤ 1000) && rpB d
theorem OkR.o2 {r0 : Str × Int} {rs : List (Str × Int)} (o : OkR (r0 :: rs)) : ∀ d ∈ odd2 r0, okO2 (r0 :: rs) d = true := by
  have := okr (p := fun rows => match rows with | r :: rs => (odd2 r).all (okO2 (r :: rs)) | [] => true) (by decide +kernel) o
  exact List.all_eq_true.mp this
theorem OkR.l2 {r0 : Str × Int} : ∀ i d, (odd2 r0)[i]? = some d → isLst d = decide (i = 5) := by
  intro i d h
  rcases i with _ | _ | _ | _ | _ | _ | _ | _ | _ | _ | _ | _ | _ | _ | _ | _ | _ | _ | _ | _ | _ | _ | _ | _ | _ | _ | _ | _ | i <;> first | (cases h; rfl) | cases h
def odd3 (rows : List (Str × Int)) : List PyData := [.none, .int 3, .list [], .list (rowsD rows), .dict [], .str "signature", .bool true, .tuple [.str "int", .int 0]]
theorem OkR.o3 {rows : List (Str × Int)} (o : OkR rows) : ∀ d ∈ odd3 rows, rpB d = true := List.all_eq_true.mp (okr (p := fun rows => (odd3 rows).all rpB) (by decide +kernel) o)
/-! ### one list set apart -/
inductive ApDq (K : PySem.W.Frag) (G : Hp) (l : Addr) : List V → List PyData → Nat → Prop where
  | here {vs ds d} (h : DqAll K G vs ds) : ApDq K G l (.ref l :: vs) (d :: ds) 0
  | cons {v vs d ds k} (h : Dq K G v d) (t : ApDq K G l vs ds k) : ApDq K G l (v :: vs) (d :: ds) (k + 1)
theorem ApDq.keep {K : PySem.W.Frag} {G G' : Hp} {l : Addr} (s : Same G G') : ∀ {vs : List V} {ds : List PyData} {k : Nat}, ApDq K G l vs ds k → ApDq K G' l vs ds k
  | _, _, _, .here h => .here (Dq.keepAll s _ _ h)
  | _, _, _, .cons h t => .cons (Dq.keep s _ _ h) (ApDq.keep s t)
theorem ApDq.app {K : PySem.W.Frag} {G : Hp} {l : Addr} : ∀ {vs ws : List V} {ds es : List PyData} {k : Nat}, ApDq K G l vs ds k → DqAll K G ws es → ApDq K G l (vs ++ ws) (ds ++ es) k
  | _, _, _, _, _, .here h, t => .here (dqApp h t)
  | _, _, _, _, _, .cons h r, t => .cons h (ApDq.app r t)
theorem ApDq.len {K : PySem.W.Frag} {G : Hp} {l : Addr} : ∀ {vs : List V} {ds : List PyData} {k : Nat}, ApDq K G l vs ds k → vs.length = ds.length
  | _, _, _, .here h => by rw [List.length_cons, List.length_cons, dqLen h]
  | _, _, _, .cons h t => by rw [List.length_cons, List.length_cons, ApDq.len t]
theorem ApDq.get {K : PySem.W.Frag} {G : Hp} {l : Addr} : ∀ {vs : List V} {ds : List PyData} {k i : Nat} {v : V}, ApDq K G l vs ds k → vs[i]? = some v → ∃ d, ds[i]? = some d ∧ ((i = k ∧ v = .ref l) ∨ (i ≠ k ∧ Dq K G v d))
  | _, _, _, 0, v, .here h, e => ⟨_, rfl, .inl ⟨rfl, by simpa using e.symm⟩⟩
  | _, _, _, i + 1, v, .here h, e => by
    obtain ⟨d, e1, q⟩ := DqAll.get h (i := i) (v := v) (by simpa using e)
    exact ⟨d, by simpa using e1, .inr ⟨by omega, q⟩⟩
  | _, _, _, 0, v, .cons h t, e => by
    obtain rfl : _ = v := by simpa using e
    exact ⟨_, rfl, .inr ⟨by omega, h⟩⟩
  | _, _, _, i + 1, v, .cons h t, e => by
    obtain ⟨d, e1, q⟩ := ApDq.get t (i := i) (v := v) (by simpa using e)
    refine ⟨d, by simpa using e1, ?_⟩
    rcases q with ⟨h1, h2⟩ | ⟨h1, h2⟩
    · exact .inl ⟨by omega, h2⟩
    · exact .inr ⟨by omega, h2⟩
section
variable {X : Cx} {σ : St} {G0 H0 G H : Hp} {d : PyData} {ds ds0 ds' : List PyData} {e e1 : Expr} {es es' : List Expr} {pos p2 : Pos} {k : Nat} {O l : Addr} {xs0 : List V}
structure AXA (X : Cx) (σ : St) (G : Hp) (ds0 ds : List PyData) (k : Nat) (es : List Expr) : Prop where
  run : ∀ (G1 H1 : Hp) (Q : List V → Hp → Prop), Same G G1 → Same G1 H1 → (∀ vs l xs G2 H2, Gr G1 H1 G2 H2 → H1 l = none → G2 l = none → H2 l = some (.lst xs) → DqAll X.K G2 xs ds0 → ApDq X.K G2 l vs ds k → vs.length = es.length → Q vs H2) → AW X es σ H1 Q
theorem AXA.cons (h : EX X σ G d e) (t : AXA X σ G ds0 ds k es) (hs : starEach (e :: es) X.env = (false, eval e X.env) :: starEach es X.env := by rfl) : AXA X σ G ds0 (d :: ds) (k + 1) (e :: es) := ⟨fun G1 H1 Q s kk q =>
  a_cons (h.run G1 H1 _ s kk fun v G2 H2 g2 hv => t.run G2 H2 _ (s.trans g2.gg) g2.gh fun vs l xs G3 H3 g3 h1 h2 h3 h4 h5 l5 => q (v :: vs) l xs G3 H3 (g2.trans g3) (g2.hh.free h1) h2 h3 h4 (.cons (Dq.keep g3.gg _ _ hv) h5) (by rw [List.length_cons, List.length_cons, l5])) hs⟩
theorem AXA.here (h : AX X σ G ds0 es') (t : AX X σ G ds es) (hl : Nat.ble es'.length 1000 = true := by rfl) (hs : starEach ((.List es' pos) :: es) X.env = (false, eval (.List es' pos) X.env) :: starEach es X.env := by rfl) : AXA X σ G ds0 (.list ds0 :: ds) 0 (.List es' pos :: es) := ⟨fun G1 H1 Q s kk q =>
  a_cons (e_lstN (h.run G1 H1 _ s kk fun xs G2 H2 g2 hxs l2 => ⟨by rw [l2]; exact szL hl, fun p H3 n3 => t.run G2 H3 _ (s.trans g2.gg) (g2.gh.trans n3.same) fun vs G4 H4 g4 hvs l4 => by
    obtain ⟨o1, o2⟩ := g4.off (g2.gh.free n3.free) n3.here
    exact q (.ref p :: vs) p xs G4 H4 ((g2.step n3.same).trans g4) (g2.hh.free n3.free) o1 o2 (Dq.keepAll g4.gg _ _ hxs) (.here hvs) (by rw [List.length_cons, List.length_cons, l4])⟩)) hs⟩
/-- the list of odd ones, one of them apart -/
def OA (K : PySem.W.Frag) (G0 H0 G H : Hp) (O l : Addr) (ds0 ds : List PyData) (k : Nat) : Prop := ∃ vs xs0, Gr G0 H0 G H ∧ G O = some (.lst vs) ∧ ApDq K G l vs ds k ∧ G l = none ∧ H l = some (.lst xs0) ∧ DqAll K G xs0 ds0 ∧ H0 l = none
theorem e_listA (h : AXA X σ G0 ds0 ds k es) {Q : VK} (s : Same G0 H0) (q : ∀ p l G2 H2, OA X.K G0 H0 G2 H2 p l ds0 ds k → Q (.ref p) H2) (hl : Nat.ble es.length 1000 = true := by rfl) : EW X (.List es pos) σ H0 Q :=
  e_lstN (h.run G0 H0 _ (Same.refl _) s fun vs l xs G2 H2 g2 h1 h2 h3 h4 h5 l5 => ⟨by rw [l5]; exact szL hl, fun p H3 n3 => by
    have pl : p ≠ l := fun z => by have := n3.free; rw [z, h3] at this; cases this
    refine q p l (upd G2 p (.lst vs)) H3 ⟨vs, xs, g2.trans (.new g2.gh n3), upd_same, h5.keep (same_upd (g2.gh.free n3.free)), by rw [upd_ne (Ne.symm pl)]; exact h2, n3.same _ _ h3, Dq.keepAll (same_upd (g2.gh.free n3.free)) _ _ h4, h1⟩⟩)
theorem e_moreA {Q : VK} (hO : OA X.K G0 H0 G H O l ds0 ds k) (hx : ∀ (Q : VK), Q (.ref O) H → EW X e1 σ H Q) (h : AX X σ G0 ds' es) (hN : ds.length + ds'.length ≤ 1000) (q : ∀ p G2 H2, OA X.K G0 H0 G2 H2 p l ds0 (ds ++ ds') k → Q (.ref p) H2) (hl : Nat.ble es.length 1000 = true := by rfl) : EW X (.BinOp e1 .Add (.List es p2) pos) σ H Q := by
  obtain ⟨vs, xs0, g, h1, h2, h3, h4, h5, h6⟩ := hO
  refine e_op z_add (hx _ ((ELs.disp h hl).run G H _ g.gg g.gh fun b xs G3 H3 g3 hb hxs => .inr (.inl ⟨O, b, vs, xs, rfl, rfl, g3.gh _ _ (g3.gg _ _ h1), g3.gh _ _ hb, ?_, fun p H4 n4 => ?_⟩)))
  · rw [h2.len, dqLen hxs]
    exact Nat.le_trans hN (by decide)
  · obtain ⟨o1, o2⟩ := g3.off h3 h4
    have pl : p ≠ l := fun z => by have := n4.free; rw [z, o2] at this; cases this
    have S4 : Same G3 (upd G3 p (.lst (vs ++ xs))) := same_upd (g3.gh.free n4.free)
    exact q p _ H4 ⟨vs ++ xs, xs0, (g.trans g3).trans (.new g3.gh n4), upd_same, ((h2.keep g3.gg).app hxs).keep S4, by rw [upd_ne (Ne.symm pl)]; exact o1, n4.same _ _ o2, Dq.keepAll (g3.gg.trans S4) _ _ h5, h6⟩
end
end L2.Z.Law

set_option maxHeartbeats 2000000
namespace L2.Z.Law
open PySem PySem.Spec PyProof.Rows PySem.ZX
local macro_rules | `(tactic| walk_at "zi") => `(tactic| refine ⟨_, _, rfl, rfl, ?_⟩)
local macro_rules | `(tactic| walk_at "zmod") => `(tactic| refine ⟨_, _, rfl, rfl, (show (0 : Int) < _ by first | decide | omega), ?_⟩)
local macro_rules | `(tactic| walk_at "zdiv") => `(tactic| refine ⟨_, _, rfl, rfl, ⟨(show (0 : Int) < _ by first | decide | omega), ?_⟩, ?_⟩)
local macro_rules | `(tactic| walk_at "z1") => `(tactic| first
  | ((with_reducible show EW _ (Expr.Name _ _) _ _ _); walk_at "nm")
  | ((with_reducible show EW _ (Expr.Constant _ _ _) _ _ _); first | with_reducible refine e_int ?_ | with_reducible refine e_str ?_ | with_reducible refine e_bl ?_ | with_reducible refine e_non ?_)
  | ((with_reducible show EW _ (Expr.BinOp _ Operator.Add _ _) _ _ _); refine e_op z_add ?_)
  | ((with_reducible show EW _ (Expr.BinOp _ Operator.Sub _ _) _ _ _); refine e_op op_sub ?_)
  | ((with_reducible show EW _ (Expr.BinOp _ Operator.Mult _ _) _ _ _); refine e_op z_mul ?_)
  | ((with_reducible show EW _ (Expr.BinOp _ Operator.Mod _ _) _ _ _); refine e_op op_mod ?_)
  | ((with_reducible show EW _ (Expr.BinOp _ Operator.FloorDiv _ _) _ _ _); refine e_op op_fdivW ?_)
  | ((with_reducible show EW _ (Expr.BinOp _ Operator.Pow _ _) _ _ _); refine e_op op_pow ?_)
  | ((with_reducible show EW _ (Expr.List _ _) _ _ _); refine e_lstN ?_)
  | ((with_reducible show EW _ (Expr.Tuple _ _ _) _ _ _); refine e_tupN ?_)
  | ((with_reducible show EW _ (Expr.Subscript _ (Expr.Slice _ _ _ _) _) _ _ _); refine e_sl sl_listN ?_)
  | ((with_reducible show EW _ (Expr.Dict [] [] _) _ _ _); refine e_dKN ?_)
  | ((with_reducible show EW _ (Expr.BoolOp BoolOp.And [_] _) _ _ _); refine e_one ?_)
  | ((with_reducible show EW _ (Expr.BoolOp BoolOp.Or [_] _) _ _ _); refine e_one ?_)
  | ((with_reducible show EW _ (Expr.BoolOp BoolOp.And _ _) _ _ _); refine e_and ?_)
  | ((with_reducible show EW _ (Expr.BoolOp BoolOp.Or _ _) _ _ _); refine e_or ?_)
  | ((with_reducible show EW _ (Expr.IfExp _ _ _ _) _ _ _); refine e_if ?_)
  | ((with_reducible show AW _ [] _ _ _); refine a_nil ?_)
  | ((with_reducible show AW _ (_ :: _) _ _ _); refine a_cons ?_)
  | ((with_reducible show OW _ none _ _ _); refine o_no ?_)
  | ((with_reducible show OW _ (some _) _ _ _); refine o_so ?_)
  | ((with_reducible show TW _ (Expr.UnaryOp UnaryOp.Not _ _) _ _ _); refine t_not ?_)
  | ((with_reducible show TW _ (Expr.BoolOp _ _ _) _ _ _); refine t_w ?_)
  | ((with_reducible show PWW _ (Expr.BoolOp BoolOp.And [_] _) _ _ _); refine w_and1 ?_)
  | ((with_reducible show PWW _ (Expr.BoolOp BoolOp.Or [_] _) _ _ _); refine w_or1 ?_)
  | ((with_reducible show PWW _ (Expr.BoolOp BoolOp.And _ _) _ _ _); refine w_and ?_)
  | ((with_reducible show PWW _ (Expr.BoolOp BoolOp.Or _ _) _ _ _); refine w_or ?_)
  | ((with_reducible show SW _ (Stmt.Return (some _) _) _ _ _); refine s_ret ?_)
  | ((with_reducible show SW _ (Stmt.If _ _ _ _) _ _ _); refine s_if ?_)
  | ((with_reducible show SW _ (Stmt.Expr _ _) _ _ _); refine s_expr ?_)
  | ((with_reducible show SW _ (Stmt.Assign [Expr.Name _ _] _ _) _ _ _); walk_at "set")
  | ((with_reducible show BW _ [_] _ _ _); (first | (with_reducible refine b_one ?_) | refine b_one ?_))
  | ((with_reducible show BW _ [] _ _ _); refine b_nil ?_)
  | ((with_reducible show BW _ _ _ _ _); (first | (with_reducible refine b_cons ?_) | refine b_cons ?_))
  | ((with_reducible show rAddZ _ _ _ _ _); refine Or.inl ⟨_, _, rfl, rfl, ?_⟩)
  | ((with_reducible show rI0 _ _ _ _ _); refine ⟨_, _, rfl, rfl, ?_⟩)
  | ((with_reducible show rI (fun _ j => 0 < j) _ _ _ _ _); refine ⟨_, _, rfl, rfl, (show (0 : Int) < _ by first | decide | omega), ?_⟩)
  | ((with_reducible show Ends.nx _ _ _); first | (with_reducible refine mk_nx ?_) | refine (show BW _ _ _ _ _ from ?_)))
local macro_rules | `(tactic| walk_at "z") => `(tactic| repeat walk_at "z1")
local macro_rules | `(tactic| walk_at "st") => `(tactic| repeat (first
  | ((with_reducible show Ends.nx _ _ _); first | (with_reducible refine mk_nx ?_) | refine (show BW _ _ _ _ _ from ?_))
  | ((with_reducible show BW _ _ _ _ _); (first | (with_reducible refine b_cons ?_) | refine b_cons ?_))))
theorem flat3 {b1 b2 : Bool} {z : Str} : ∀ y ∈ [V.bl b1, .bl b2, .str z], flatB y = true := by
  intro y hy
  simp only [List.mem_cons, List.not_mem_nil, or_false] at hy
  rcases hy with rfl | rfl | rfl <;> rfl
/-- how the caught value is told, and how the heap stands behind it -/
def CM (K : PySem.W.Frag) (H : Hp) (w : V) (dw dfin : PyData) (after : Hp → Prop) : Prop :=
  (isLst dw = false ∧ RpOk dw ∧ dfin = dw ∧ ∀ H', Same H H' → after H') ∨
  ∃ l ys es Gx, isLst dw = true ∧ w = .ref l ∧ H l = some (.lst ys) ∧ Same Gx H ∧ Gx l = none ∧ DqAll K Gx ys es ∧ ys.length < 1000 ∧ RpOk (.list (es ++ [.str "more"])) ∧ dfin = .list (es ++ [.str "more"]) ∧
    ∀ H', But l H H' → H' l = some (.lst (ys ++ [.str "more"])) → after H'
def spCaught2 (K : PySem.W.Frag) : Sp := fun vs H Q _ => ∃ (v : V) (d : PyData) (e : Option Nat) (w : V) (dw dfin : PyData) (after : Hp → Prop), vs = [v] ∧ Dq K H v d ∧ Sml d ∧ sigErr d = some e ∧
  ((e = none ∧ w = v) ∨ ∃ i l xs, e = some i ∧ v = .ref l ∧ H l = some (.lst xs) ∧ xs[i]? = some w) ∧ Dq K H w dw ∧ CM K H w dw dfin after ∧
  ∀ R H', after H' → H R = none → H' R = some (.lst [.bl e.isNone, .bl e.isSome, .str dfin.shown]) → Q (.ref R) H'
theorem caught2 {K : PySem.W.Frag} : ∀ vs H Q E, spCaught2 K vs H Q E → spCaught K vs H Q E := by
  rintro vs H Q E ⟨v, d, e, w, dw, dfin, after, h1, h2, h3, h4, h5, h6, cm, q⟩
  refine ⟨v, d, e, w, dw, h1, h2, h3, h4, h5, h6, ?_⟩
  rcases cm with ⟨a1, a2, rfl, a4⟩ | ⟨l, ys, es, Gx, a1, a2, a3, a4, a5, a6, a7, a8, rfl, a10⟩
  · exact .inl ⟨a1, a2, fun R H' s n g => q R H' (a4 _ s) n g⟩
  · exact .inr ⟨l, ys, es, Gx, a1, a2, a3, a4, a5, a6, a7, a8, fun R H' b n g g2 => q R H' (a10 _ b g) n g2⟩
def dA0 : List PyData := [.str "new", .int 0]
def dsA : List PyData := [.none, .int 3, .str "int", .tuple [.str "new"], .tuple [.str "new", .int 0, .int 0], .list [.str "new", .int 0], .tuple [.str "new", .int 3], .tuple [.str "new", .int (-1)], .tuple [.str "new", .bool true]]
def dsB : List PyData := [.tuple [.str "new", .str "0"]]
def dsC : List PyData := [.tuple [.str "", .int 0], .tuple [.str "New", .int 0], .tuple [.str "abcdefghi", .int 0], .tuple [.none, .int 0], .tuple [.int 3, .int 0], .tuple [.str "new", .none], .dict [], .tuple [], .tuple [.str "a b", .int 1]]
def dsD (r0 : Str × Int) : List PyData := [rowD r0, .tuple [.str "new\n", .int 0], .tuple [.str "\n", .int 0], .tuple [.str "int8", .int 0], .tuple [.str "new_", .int 0], .tuple [.str "8", .int 0]]
def dsE (r0 : Str × Int) : List PyData := [.tuple [.str r0.1, .int 2], .tuple [.list [.str "new"], .int 0], .tuple [.str "new", .list [.int 0]]]
section
variable {P : Program} {w : World} {K : PySem.W.Frag} {mg : Str → Option Value} {base : Heap} {f C cW cL cI cS cN fL fI fS fN : Addr} {qL qI qS qN : Str}
abbrev sRefused : Stmt := topS 30
abbrev nsRefused : List Str := ["_law_rows_here", "_law_odd", "_law_some", "_law_odds", "_law_door", "_law_caught_here", "e"]
theorem scRefused : FnScope nsRefused ["_law_rows_here"] (defScope sRefused) := ⟨rfl, rfl, rfl, by decide +kernel, rfl, by decide +kernel, by decide +kernel⟩
local macro_rules | `(tactic| walk_at "nm") => `(tactic| first
  | ((with_reducible show EW _ (Expr.Name (Str.ofString "_law_rows_here") _) _ _ _); refine e_nm (i := 0) (N := nsRefused) rfl at_z rfl ?_)
  | ((with_reducible show EW _ (Expr.Name (Str.ofString "_law_odd") _) _ _ _); refine e_nm (i := 1) (N := nsRefused) rfl (at_s at_z) rfl ?_)
  | ((with_reducible show EW _ (Expr.Name (Str.ofString "_law_some") _) _ _ _); refine e_nm (i := 2) (N := nsRefused) rfl (at_s (at_s at_z)) rfl ?_)
  | ((with_reducible show EW _ (Expr.Name (Str.ofString "_law_odds") _) _ _ _); refine e_nm (i := 3) (N := nsRefused) rfl (at_s (at_s (at_s at_z))) rfl ?_)
  | ((with_reducible show EW _ (Expr.Name (Str.ofString "_law_door") _) _ _ _); refine e_nm (i := 4) (N := nsRefused) rfl (at_s (at_s (at_s (at_s at_z)))) rfl ?_)
  | ((with_reducible show EW _ (Expr.Name (Str.ofString "_law_caught_here") _) _ _ _); refine e_nm (i := 5) (N := nsRefused) rfl (at_s (at_s (at_s (at_s (at_s at_z))))) rfl ?_)
  | ((with_reducible show EW _ (Expr.Name (Str.ofString "e") _) _ _ _); refine e_nm (i := 6) (N := nsRefused) rfl (at_s (at_s (at_s (at_s (at_s (at_s at_z)))))) rfl ?_))
local macro_rules | `(tactic| walk_at "set") => `(tactic| first
  | ((with_reducible show SW _ (Stmt.Assign [Expr.Name (Str.ofString "_law_rows_here") _] _ _) _ _ _); refine s_set (i := 0) (N := nsRefused) scRefused.nd rfl at_z ?_)
  | ((with_reducible show SW _ (Stmt.Assign [Expr.Name (Str.ofString "_law_odd") _] _ _) _ _ _); refine s_set (i := 1) (N := nsRefused) scRefused.nd rfl (at_s at_z) ?_)
  | ((with_reducible show SW _ (Stmt.Assign [Expr.Name (Str.ofString "_law_some") _] _ _) _ _ _); refine s_set (i := 2) (N := nsRefused) scRefused.nd rfl (at_s (at_s at_z)) ?_)
  | ((with_reducible show SW _ (Stmt.Assign [Expr.Name (Str.ofString "_law_odds") _] _ _) _ _ _); refine s_set (i := 3) (N := nsRefused) scRefused.nd rfl (at_s (at_s (at_s at_z))) ?_)
  | ((with_reducible show SW _ (Stmt.Assign [Expr.Name (Str.ofString "_law_door") _] _ _) _ _ _); refine s_set (i := 4) (N := nsRefused) scRefused.nd rfl (at_s (at_s (at_s (at_s at_z)))) ?_)
  | ((with_reducible show SW _ (Stmt.Assign [Expr.Name (Str.ofString "_law_caught_here") _] _ _) _ _ _); refine s_set (i := 5) (N := nsRefused) scRefused.nd rfl (at_s (at_s (at_s (at_s (at_s at_z))))) ?_)
  | ((with_reducible show SW _ (Stmt.Assign [Expr.Name (Str.ofString "e") _] _ _) _ _ _); refine s_set (i := 6) (N := nsRefused) scRefused.nd rfl (at_s (at_s (at_s (at_s (at_s (at_s at_z)))))) ?_))
local macro_rules | `(tactic| walk_at "tg") => `(tactic| first
  | ((with_reducible show GW _ (Expr.Name (Str.ofString "_law_rows_here") _) _ _ _ _); refine g_nm (i := 0) (N := nsRefused) scRefused.nd rfl at_z ?_)
  | ((with_reducible show GW _ (Expr.Name (Str.ofString "_law_odd") _) _ _ _ _); refine g_nm (i := 1) (N := nsRefused) scRefused.nd rfl (at_s at_z) ?_)
  | ((with_reducible show GW _ (Expr.Name (Str.ofString "_law_some") _) _ _ _ _); refine g_nm (i := 2) (N := nsRefused) scRefused.nd rfl (at_s (at_s at_z)) ?_)
  | ((with_reducible show GW _ (Expr.Name (Str.ofString "_law_odds") _) _ _ _ _); refine g_nm (i := 3) (N := nsRefused) scRefused.nd rfl (at_s (at_s (at_s at_z))) ?_)
  | ((with_reducible show GW _ (Expr.Name (Str.ofString "_law_door") _) _ _ _ _); refine g_nm (i := 4) (N := nsRefused) scRefused.nd rfl (at_s (at_s (at_s (at_s at_z)))) ?_)
  | ((with_reducible show GW _ (Expr.Name (Str.ofString "_law_caught_here") _) _ _ _ _); refine g_nm (i := 5) (N := nsRefused) scRefused.nd rfl (at_s (at_s (at_s (at_s (at_s at_z))))) ?_)
  | ((with_reducible show GW _ (Expr.Name (Str.ofString "e") _) _ _ _ _); refine g_nm (i := 6) (N := nsRefused) scRefused.nd rfl (at_s (at_s (at_s (at_s (at_s (at_s at_z)))))) ?_))
def spRefused (K : PySem.W.Frag) : Sp := fun vs H Q _ => ∃ (a : Addr) (rows : List (Str × Int)) (xs : List V), vs = [.ref a] ∧ OkR rows ∧ H a = some (.lst xs) ∧ DqAll K H xs (rowsD rows) ∧ ∀ H', Same H H' → Q (.bl true) H'
theorem bRefused (F : XQ P K mg cW cL cI cS cN fL fI fS fN qL qI qS qN) (SS : Sys base) (mi : mg "isinstance" = none) (ml : mg "list" = none) (mt : mg "tuple" = none) (mp : mg "repr" = none) (mr : mg "range" = none)
    (DC : DefZ P w K mg base "_law_caught" 20 ["_law_thing"] (spCaught K)) (DI : DefZ P w K mg base "is_type" 20 ["signature", "value"] (spIsType K C cS 12)) (DT : DefZ P w K mg base "types_of" 20 ["signature", "size"] (spTypesOf K C cS cN)) :
    BodyZ P w K mg base nsRefused "_law_refused" sRefused f 20 (spRefused K) := by
  intro X cd A outer s H vs Q E hX hr tk hs
  subst hX
  have hu := hr.r.units
  have hu64 : (cz P w K mg base nsRefused "_law_refused" (defScope sRefused) f cd A outer s H E).A.units + 64 < cLine := hu
  have hu0 : (cz P w K mg base nsRefused "_law_refused" (defScope sRefused) f cd A outer s H E).A.units < cLine := by omega
  obtain ⟨a, rows, xs, rfl, ok, ha, hrows, hQ⟩ := hs
  have DC2 := DC.imp caught2
  have hxl := DqAll.length hrows
  rw [List.length_map] at hxl
  have hrl := ok.len
  have hrl2 : (rowsD rows).length ≤ 100 := by rw [List.length_map]; omega
  walk_at "st"
  refine s_for (i_list (ELs.run (G := H) (ds := odd1 rows) ?els H H _ (Same.refl _) (Same.refl _) fun L vs G2 H2 g2 hL hds => ?_))
  case els =>
    refine ELs.disp ?_
    refine AX.cons EX.non (AX.cons EX.int (AX.cons (EX.lst AX.nil) (AX.cons (EX.tup AX.nil) (AX.cons ?t1 (AX.cons EX.str (AX.cons EX.dct (AX.cons EX.bl (AX.cons (ELs.ex ?t2) (AX.cons (ELs.ex ?t3) (AX.cons EX.int AX.nil))))))))))
    case t1 => exact EX.tupleOf (ELs.of ha hrows fun _ _ q => by walk_at "nm"; exact q) mt (by omega)
    case t2 => exact ELs.rep (n := 6) (ds := [.none]) (ELs.disp (AX.cons EX.non AX.nil)) EI.int (by decide) (by decide)
    case t3 => exact ELs.rep (n := 3) (ds := rowsD rows) (ELs.of ha hrows fun _ _ q => by walk_at "nm"; exact q) EI.int (by decide) hrl2
  replace hds : DqAll K G2 vs (odd1 rows) := hds
  refine ⟨L, vs, rfl, .inl (.inl (g2.gh _ _ hL)), fun i σ' H' => ∃ o1 o2 o3 o4 o5 o6, σ' = [some (.ref a), o1, o2, o3, o4, o5, o6] ∧ Same G2 H', ⟨_, _, _, _, _, _, rfl, g2.gh⟩, fun i σ' H' _ ⟨_, _, _, _, _, _, _, s'⟩ => .inl (.inl (s' _ _ hL)), ?_, ?_⟩
  · rintro i σ' H' x H2' hi ⟨o1, o2, o3, o4, o5, o6, rfl, s'⟩ ⟨rfl, ex⟩
    obtain ⟨d, ed, hd⟩ := DqAll.get hds ex
    have ok1 := ok.o1 d (List.mem_of_getElem? ed)
    simp only [okO1, Bool.and_eq_true, decide_eq_true_eq] at ok1
    obtain ⟨⟨e1, rp⟩, mx⟩ := ok1
    have rp := rpB.ok rp
    walk_at "tg"
    walk_at "st"
    refine s_cut (fun σ3 H3 => ∃ y dfin after, σ3 = [some (.ref a), some x, some y, o3, o4, o5, o6] ∧ Same G2 H3 ∧ Dq K H3 y d ∧ CM K H3 y d dfin after ∧ RpOk dfin ∧ ∀ H', after H' → Same G2 H' ∧ Dq K H' y dfin) ?_ ?_
    · walk_at "z1"
      walk_at "z1"
      refine t_val ?_
      refine e_isT (T := "list") mi ml (by decide +kernel) ?_
      walk_at "z1"
      refine ⟨_, _, (Dq.keep s' _ _ hd).ty, kit_ty (kb_lst d), _, rfl, ?_⟩
      cases hl : isLst d with
      | false =>
        refine (if_neg (by simp)).mpr ?_
        walk_at "z"
        exact ⟨x, d, fun H' => Same H2' H', rfl, s', Dq.keep s' _ _ hd, .inl ⟨hl, rp.1, rfl, fun _ h => h⟩, rp.1, fun H' h => ⟨s'.trans h, Dq.keep (s'.trans h) _ _ hd⟩⟩
      | true =>
        obtain ⟨es, rfl⟩ : ∃ es, d = .list es := by cases d <;> first | exact ⟨_, rfl⟩ | cases hl
        simp only [Bool.and_eq_true, decide_eq_true_eq] at mx
        obtain ⟨m1, m2⟩ := mx
        cases hd with
        | lst hq hall =>
          rename_i l0 ys
          refine (if_pos rfl).mpr ?_
          refine e_callT call_list_of ml (by decide +kernel) ?_
          walk_at "z"
          refine ⟨l0, ys, rfl, .inl (.inl (hq.imp (s' _ _) fun ⟨o, z⟩ => ⟨o, s' _ _ z⟩)), fun l nl => ?_⟩
          have S3 : Same H2' (upd H2' l (.lst ys)) := same_upd nl
          refine ⟨.ref l, _, fun H' => But l (upd H2' l (.lst ys)) H' ∧ H' l = some (.lst (ys ++ [.str "more"])), rfl, s'.trans S3, .lst (.inl upd_same) (Dq.keepAll (s'.trans S3) _ _ hall), .inr ⟨l, ys, es, H2', hl, rfl, upd_same, S3, nl, Dq.keepAll s' _ _ hall, by rw [dqLen hall]; exact m2, (rpB.ok m1).1, rfl, fun H' b h => ⟨b, h⟩⟩, (rpB.ok m1).1, ?_⟩
          rintro H' ⟨b, h⟩
          have S5 : Same G2 H' := fun c o e => b c o (fun z => by rw [z] at e; rw [s' _ _ e] at nl; cases nl) (S3 _ _ (s' _ _ e))
          exact ⟨S5, .lst (.inl h) (DqAll.snoc (Dq.keepAll S5 _ _ hall) (.str _))⟩
    · rintro σ3 H3 ⟨y, dfin, after, rfl, s3, hy, cm, rpf, haf⟩
      walk_at "z"
      refine t_cmp (op_neSame hu0) ?_
      refine e_call DC2 hr tk ?_
      walk_at "z"
      refine ⟨y, d, none, y, d, dfin, after, rfl, hy, rp.2, e1, .inl ⟨rfl, rfl⟩, hy, cm, fun R H5 a5 nR hR => ?_⟩
      obtain ⟨s5, hy5⟩ := haf H5 a5
      walk_at "z"
      refine e_callB (call_reprA SS hr.g hu64) mp (by decide +kernel) ?_
      walk_at "z"
      refine ⟨y, dfin, rfl, hy5, rpf.sh, rpf.ln, rpf.dp, ?_⟩
      walk_at "z"
      refine ⟨szL, fun R2 H6 n6 => ?_⟩
      refine ⟨R, R2, _, rfl, rfl, .inl (.inl (n6.same _ _ hR)), .inl (.inl n6.here), flat3, _, rfl, (if_neg (by simp)).mpr ?_⟩
      walk_at "z"
      exact ⟨_, _, _, _, _, _, rfl, s5.trans n6.same⟩
  rintro σ' H' ⟨o1, o2, o3, o4, o5, o6, rfl, s'⟩
  have S1 : Same H H' := g2.gg.trans s'
  clear hds hL s' g2
  -- the rows that do not fit
  obtain ⟨r0, rs, rfl⟩ : ∃ r0 rs, rows = r0 :: rs := by
    cases rows with
    | nil => simp at hrl
    | cons r0 rs => exact ⟨r0, rs, rfl⟩
  obtain ⟨v0, xs', rfl⟩ : ∃ v0 xs', xs = v0 :: xs' := by
    cases xs with
    | nil => simp at hxl
    | cons v0 xs' => exact ⟨v0, xs', rfl⟩
  obtain ⟨b0, rfl, sq0⟩ : ∃ b0, v0 = .ref b0 ∧ SqT K H b0 [.str r0.1, .int r0.2] := by
    cases hrows with
    | cons q _ => exact Dq.row q
  have hv0 : Dq K H (.ref b0) (rowD r0) := .tup sq0 (.cons (.str _) (.cons (.int _) .nil))
  with_reducible refine mk_nx ?_
  with_reducible refine b_cons ?_
  refine s_set (X := (cz P w K mg base nsRefused "_law_refused" (defScope sRefused) f cd A outer s H E)) (i := 3) (N := nsRefused) ?hN_0 ?hX_0 ?hi_0 ?h_0 (hx := ?hx_0) (hs := ?hs_0) (hf := ?hf_0)
  case hN_0 => exact scRefused.nd
  case hX_0 => rfl
  case hi_0 => exact (at_s (at_s (at_s at_z)))
  case hx_0 => exact Or.inl rfl
  case hs_0 => rfl
  case hf_0 => first | exact .inl rfl | exact .inr rfl
  refine e_listA (X := (cz P w K mg base nsRefused "_law_refused" (defScope sRefused) f cd A outer s H E)) (G0 := H) (ds0 := dA0) (k := 5) (ds := dsA) (hl := ?hl_0) ?av_0 ?s_0 ?q_0
  case hl_0 => rfl
  case s_0 => exact S1
  case av_0 =>
    refine AXA.cons EX.non (AXA.cons EX.int (AXA.cons EX.str (AXA.cons (EX.tup ?t1_0) (AXA.cons (EX.tup ?t2_0) (AXA.here ?t3_0 (AX.cons (EX.tup ?t4_0) (AX.cons (EX.tup ?t5_0) (AX.cons (EX.tup ?t6_0) AX.nil))))))))
    case t1_0 => exact AX.cons EX.str AX.nil
    case t2_0 => exact AX.cons EX.str (AX.cons EX.int (AX.cons EX.int AX.nil))
    case t3_0 => exact AX.cons EX.str (AX.cons EX.int AX.nil)
    case t4_0 => exact AX.cons EX.str (AX.cons EX.int AX.nil)
    case t5_0 => exact AX.cons EX.str (AX.cons EX.neg AX.nil)
    case t6_0 => exact AX.cons EX.str (AX.cons EX.bl AX.nil)
  intro O1 l G1 H1 oa1
  with_reducible refine mk_nx ?_
  with_reducible refine b_cons ?_
  refine s_set (X := (cz P w K mg base nsRefused "_law_refused" (defScope sRefused) f cd A outer s H E)) (i := 3) (N := nsRefused) ?hN_1 ?hX_1 ?hi_1 ?h_1 (hx := ?hx_1) (hs := ?hs_1) (hf := ?hf_1)
  case hN_1 => exact scRefused.nd
  case hX_1 => rfl
  case hi_1 => exact (at_s (at_s (at_s at_z)))
  case hx_1 => exact Or.inl rfl
  case hs_1 => rfl
  case hf_1 => first | exact .inl rfl | exact .inr rfl
  refine e_moreA (X := (cz P w K mg base nsRefused "_law_refused" (defScope sRefused) f cd A outer s H E)) (hl := ?hl_1) oa1 ?hxm_1 (ds' := dsB) ?av_1 ?hNm_1 ?q_1
  case hxm_1 => exact fun _ q => by walk_at "nm"; exact q
  case hNm_1 => simp [dsA, dsB, dsC, dsD, dsE]
  case hl_1 => rfl
  case av_1 =>
    exact AX.cons (EX.tup (AX.cons EX.str (AX.cons EX.str AX.nil))) AX.nil
  intro O2 G2 H2 oa2
  with_reducible refine mk_nx ?_
  with_reducible refine b_cons ?_
  refine s_set (X := (cz P w K mg base nsRefused "_law_refused" (defScope sRefused) f cd A outer s H E)) (i := 3) (N := nsRefused) ?hN_2 ?hX_2 ?hi_2 ?h_2 (hx := ?hx_2) (hs := ?hs_2) (hf := ?hf_2)
  case hN_2 => exact scRefused.nd
  case hX_2 => rfl
  case hi_2 => exact (at_s (at_s (at_s at_z)))
  case hx_2 => exact Or.inl rfl
  case hs_2 => rfl
  case hf_2 => first | exact .inl rfl | exact .inr rfl
  refine e_moreA (X := (cz P w K mg base nsRefused "_law_refused" (defScope sRefused) f cd A outer s H E)) (hl := ?hl_2) oa2 ?hxm_2 (ds' := dsC) ?av_2 ?hNm_2 ?q_2
  case hxm_2 => exact fun _ q => by walk_at "nm"; exact q
  case hNm_2 => simp [dsA, dsB, dsC, dsD, dsE]
  case hl_2 => rfl
  case av_2 =>
    refine AX.cons (EX.tup ?t1_2) (AX.cons (EX.tup ?t2_2) (AX.cons (EX.tup ?t3_2) (AX.cons (EX.tup ?t4_2) (AX.cons (EX.tup ?t5_2) (AX.cons (EX.tup ?t6_2) (AX.cons EX.dct (AX.cons (EX.tup AX.nil) (AX.cons (EX.tup ?t7_2) AX.nil))))))))
    case t1_2 => exact AX.cons EX.str (AX.cons EX.int AX.nil)
    case t2_2 => exact AX.cons EX.str (AX.cons EX.int AX.nil)
    case t3_2 => exact AX.cons EX.str (AX.cons EX.int AX.nil)
    case t4_2 => exact AX.cons EX.non (AX.cons EX.int AX.nil)
    case t5_2 => exact AX.cons EX.int (AX.cons EX.int AX.nil)
    case t6_2 => exact AX.cons EX.str (AX.cons EX.non AX.nil)
    case t7_2 => exact AX.cons EX.str (AX.cons EX.int AX.nil)
  intro O3 G3 H3 oa3
  with_reducible refine mk_nx ?_
  with_reducible refine b_cons ?_
  refine s_set (X := (cz P w K mg base nsRefused "_law_refused" (defScope sRefused) f cd A outer s H E)) (i := 3) (N := nsRefused) ?hN_3 ?hX_3 ?hi_3 ?h_3 (hx := ?hx_3) (hs := ?hs_3) (hf := ?hf_3)
  case hN_3 => exact scRefused.nd
  case hX_3 => rfl
  case hi_3 => exact (at_s (at_s (at_s at_z)))
  case hx_3 => exact Or.inl rfl
  case hs_3 => rfl
  case hf_3 => first | exact .inl rfl | exact .inr rfl
  refine e_moreA (X := (cz P w K mg base nsRefused "_law_refused" (defScope sRefused) f cd A outer s H E)) (hl := ?hl_3) oa3 ?hxm_3 (ds' := dsD r0) ?av_3 ?hNm_3 ?q_3
  case hxm_3 => exact fun _ q => by walk_at "nm"; exact q
  case hNm_3 => simp [dsA, dsB, dsC, dsD, dsE]
  case hl_3 => rfl
  case av_3 =>
    refine AX.cons ?t0_3 (AX.cons (EX.tup ?t1_3) (AX.cons (EX.tup ?t2_3) (AX.cons (EX.tup ?t3_3) (AX.cons (EX.tup ?t4_3) (AX.cons (EX.tup ?t5_3) AX.nil)))))
    case t0_3 =>
      constructor
      intro G1 H1 Q s1 k1 q
      refine e_ix ix_list ?_
      walk_at "z"
      exact ⟨a, _, _, _, rfl, rfl, .inl (.inl (k1 _ _ (s1 _ _ ha))), at_head, q _ G1 H1 (.refl k1) (Dq.keep s1 _ _ hv0)⟩
    case t1_3 => exact AX.cons EX.str (AX.cons EX.int AX.nil)
    case t2_3 => exact AX.cons EX.str (AX.cons EX.int AX.nil)
    case t3_3 => exact AX.cons EX.str (AX.cons EX.int AX.nil)
    case t4_3 => exact AX.cons EX.str (AX.cons EX.int AX.nil)
    case t5_3 => exact AX.cons EX.str (AX.cons EX.int AX.nil)
  intro O4 G4 H4 oa4
  with_reducible refine mk_nx ?_
  with_reducible refine b_cons ?_
  refine s_set (X := (cz P w K mg base nsRefused "_law_refused" (defScope sRefused) f cd A outer s H E)) (i := 3) (N := nsRefused) ?hN_4 ?hX_4 ?hi_4 ?h_4 (hx := ?hx_4) (hs := ?hs_4) (hf := ?hf_4)
  case hN_4 => exact scRefused.nd
  case hX_4 => rfl
  case hi_4 => exact (at_s (at_s (at_s at_z)))
  case hx_4 => exact Or.inl rfl
  case hs_4 => rfl
  case hf_4 => first | exact .inl rfl | exact .inr rfl
  refine e_moreA (X := (cz P w K mg base nsRefused "_law_refused" (defScope sRefused) f cd A outer s H E)) (hl := ?hl_4) oa4 ?hxm_4 (ds' := dsE r0) ?av_4 ?hNm_4 ?q_4
  case hxm_4 => exact fun _ q => by walk_at "nm"; exact q
  case hNm_4 => simp [dsA, dsB, dsC, dsD, dsE]
  case hl_4 => rfl
  case av_4 =>
    refine AX.cons (EX.tup (AX.cons ?t0_4 (AX.cons EX.int AX.nil))) (AX.cons (EX.tup ?t1_4) (AX.cons (EX.tup ?t2_4) AX.nil))
    case t0_4 =>
      constructor
      intro G1 H1 Q s1 k1 q
      refine e_ix ix_tup ?_
      refine e_ix ix_list ?_
      walk_at "z"
      refine ⟨a, _, _, _, rfl, rfl, .inl (.inl (k1 _ _ (s1 _ _ ha))), at_head, ?_⟩
      walk_at "z"
      exact ⟨b0, _, _, _, rfl, rfl, SqT.same sq0 (s1.trans k1), at_head, q _ G1 H1 (.refl k1) (.str _)⟩
    case t1_4 => exact AX.cons (EX.lst (AX.cons EX.str AX.nil)) (AX.cons EX.int AX.nil)
    case t2_4 => exact AX.cons EX.str (AX.cons (EX.lst (AX.cons EX.int AX.nil)) AX.nil)
  intro O5 G5 H5 oa5
  obtain ⟨vs5, ys, g5, hO, hap, gl, hl, hys, hl0⟩ := oa5
  replace hap : ApDq K G5 l vs5 (odd2 r0) 5 := hap
  have hyl := dqLen hys
  with_reducible refine mk_nx ?_
  with_reducible refine b_cons ?_
  refine s_for (i_list ?_)
  walk_at "z1"
  refine ⟨O5, vs5, rfl, .inl (.inl (g5.gh _ _ hO)), fun i σ' H' => ∃ o1 o2 o4 o5 o6, σ' = [some (.ref a), o1, o2, some (.ref O5), o4, o5, o6] ∧ Same G5 H' ∧ (i ≤ 5 → H' l = some (.lst ys)), ⟨_, _, _, _, _, rfl, g5.gh, fun _ => hl⟩, fun i σ' H' _ ⟨_, _, _, _, _, _, s', _⟩ => .inl (.inl (s' _ _ hO)), ?_, ?_⟩
  · rintro i σ' H' x H2' hi ⟨o1, o2, o4, o5, o6, rfl, s', hl'⟩ ⟨rfl, ex⟩
    obtain ⟨d, ed, hx⟩ := hap.get ex
    have ok2 := ok.o2 d (List.mem_of_getElem? ed)
    have il := OkR.l2 i d ed
    simp only [okO2, Bool.and_eq_true, decide_eq_true_eq] at ok2
    obtain ⟨⟨e2, w2⟩, rp⟩ := ok2
    have rp := rpB.ok rp
    have hdx : Dq K H2' x d := by
      rcases hx with ⟨h1, h2⟩ | ⟨h1, h2⟩
      · subst h1
        subst h2
        have e : d = .list [.str "new", .int 0] := by cases ed; rfl
        rw [e]
        exact .lst (.inl (hl' (Nat.le_refl _))) (Dq.keepAll s' _ _ hys)
      · exact Dq.keep s' _ _ h2
    walk_at "tg"
    walk_at "z"
    refine t_cmp (op_neSame hu0) ?_
    refine e_call DC2 hr tk ?_
    walk_at "z1"
    refine e_op z_add ?_
    refine (ELs.to (m := 3) (ELs.of ha hrows fun _ _ q => by walk_at "nm"; exact q) (fun _ _ q => o_no q) (fun _ _ q => o_so (e_int ⟨_, rfl, q⟩))).run G5 H2' _ g5.gg s' fun q xs1 G6 H6 g6 hq hxs1 => ?_
    have l1 := dqLen hxs1
    have l1' : xs1.length ≤ 3 := by rw [l1, List.length_take]; omega
    walk_at "z"
    refine ⟨szL, fun q2 H7 n7 => ?_⟩
    refine .inr (.inl ⟨q, q2, xs1, [x, .non], rfl, rfl, n7.same _ _ (g6.gh _ _ hq), n7.here, Nat.le_trans (show xs1.length + 2 ≤ 1000 by omega) (by decide), fun T H8 n8 => ?_⟩)
    walk_at "z"
    have S8 : Same H2' H8 := (g6.hh.trans n7.same).trans n8.same
    have SG8 : Same G5 H8 := s'.trans S8
    have hdx8 := Dq.keep S8 _ _ hdx
    obtain ⟨dfin, after, cm, rpf, haf⟩ : ∃ dfin after, CM K H8 x d dfin after ∧ RpOk dfin ∧ ∀ H', after H' → Same G5 H' ∧ Dq K H' x dfin ∧ (i + 1 ≤ 5 → H' l = some (.lst ys)) := by
      rcases hx with ⟨h1, h2⟩ | ⟨h1, h2⟩
      · subst h1
        subst h2
        have e : d = .list [.str "new", .int 0] := by cases ed; rfl
        subst e
        have rq : RpOk (.list ([.str "new", .int 0] ++ [.str "more"])) := (rpB.ok (by decide +kernel)).1
        refine ⟨_, fun H' => But l H8 H' ∧ H' l = some (.lst (ys ++ [.str "more"])), .inr ⟨l, ys, _, G5, rfl, rfl, S8 _ _ (hl' (Nat.le_refl _)), SG8, gl, hys, by rw [hyl]; decide, rq, rfl, fun H' b h => ⟨b, h⟩⟩, rq, ?_⟩
        rintro H' ⟨b, h⟩
        have S9 : Same G5 H' := fun c o e => b c o (fun z => by rw [z, gl] at e; cases e) (SG8 _ _ e)
        exact ⟨S9, .lst (.inl h) (DqAll.snoc (Dq.keepAll S9 _ _ hys) (.str _)), fun h => by omega⟩
      · refine ⟨d, fun H' => Same H8 H', .inl ⟨by rw [il]; exact decide_eq_false h1, rp.1, rfl, fun _ h => h⟩, rp.1, fun H' h => ⟨SG8.trans h, Dq.keep (SG8.trans h) _ _ h2, fun hi5 => h _ _ (S8 _ _ (hl' (by omega)))⟩⟩
    refine ⟨.ref T, _, some ((rowsD (r0 :: rs)).take 3).length, x, d, dfin, after, rfl, .lst (.inl n8.here) (dqApp (Dq.keepAll (g6.gh.trans (n7.same.trans n8.same)) _ _ hxs1) (.cons hdx8 (.cons .non .nil))), Nat.le_trans w2 (by decide), e2, .inr ⟨_, T, _, rfl, rfl, n8.here, ?_⟩, hdx8, cm, fun R H9 a9 nR hR => ?_⟩
    · rw [← l1, List.getElem?_append_right (Nat.le_refl _), Nat.sub_self]
      rfl
    obtain ⟨s9, hy9, hl9⟩ := haf H9 a9
    walk_at "z"
    refine e_callB (call_reprA SS hr.g hu64) mp (by decide +kernel) ?_
    walk_at "z"
    refine ⟨x, dfin, rfl, hy9, rpf.sh, rpf.ln, rpf.dp, ?_⟩
    walk_at "z"
    refine ⟨szL, fun R2 H6 n6 => ?_⟩
    refine ⟨R, R2, _, rfl, rfl, .inl (.inl (n6.same _ _ hR)), .inl (.inl n6.here), flat3, _, rfl, (if_neg (by simp)).mpr ?_⟩
    walk_at "z"
    exact ⟨_, _, _, _, _, rfl, s9.trans n6.same, fun h => n6.same _ _ (hl9 h)⟩
  rintro σ' H' ⟨o1, o2, o4, o5, o6, rfl, s', _⟩
  have S2 : Same H H' := g5.gg.trans s'
  -- no signatures
  walk_at "st"
  have hra : Dq K H (.ref a) (.list (rowsD (r0 :: rs))) := .lst (.inl ha) hrows
  refine s_for (i_list (ELs.run (G := H) (ds := odd3 (r0 :: rs)) ?els_z H H' _ (Same.refl _) S2 fun L vs G2 H2 g2 hL hds => ?_))
  case els_z =>
    refine ELs.disp ?_
    refine AX.cons EX.non (AX.cons EX.int (AX.cons (EX.lst AX.nil) (AX.cons ?t1_z (AX.cons EX.dct (AX.cons EX.str (AX.cons EX.bl (AX.cons (EX.tup ?t2_z) AX.nil)))))))
    case t1_z => exact EX.of hra fun _ _ q => by walk_at "nm"; exact q
    case t2_z => exact AX.cons EX.str (AX.cons EX.int AX.nil)
  replace hds : DqAll K G2 vs (odd3 (r0 :: rs)) := hds
  refine ⟨L, vs, rfl, .inl (.inl (g2.gh _ _ hL)), fun i σ' H' => ∃ o1 o2 o3 o4 o5 o6, σ' = [some (.ref a), o1, o2, o3, o4, o5, o6] ∧ Same G2 H', ⟨_, _, _, _, _, _, rfl, g2.gh⟩, fun i σ' H' _ ⟨_, _, _, _, _, _, _, s'⟩ => .inl (.inl (s' _ _ hL)), ?_, ?_⟩
  · rintro i σ' H' x H2' hi ⟨o1, o2, o3, o4, o5, o6, rfl, s'⟩ ⟨rfl, ex⟩
    obtain ⟨d, ed, hd⟩ := DqAll.get hds ex
    have rp := rpB.ok (ok.o3 d (List.mem_of_getElem? ed))
    walk_at "tg"
    walk_at "st"
    refine s_for (i_range1 mr ?_)
    walk_at "z"
    refine ⟨2, rfl, by decide, by decide, fun u σ'' H'' => ∃ o2 o3 o4 o5 o6, σ'' = [some (.ref a), some x, o2, o3, o4, o5, o6] ∧ Same G2 H'', ⟨_, _, _, _, _, rfl, s'⟩, fun _ _ _ _ _ => trivial, ?_, ?_⟩
    · rintro u σ'' H'' y H3 hu2 ⟨o2, o3, o4, o5, o6, rfl, s3⟩ ⟨rfl, rfl⟩
      walk_at "tg"
      walk_at "z"
      refine s_cut (fun σ4 H4 => ∃ x1 dd, σ4 = [some (.ref a), some x, o2, o3, some (.int u), some (.ref x1), none] ∧ Same G2 H4 ∧ H4 x1 = some (exT x1 cS dd) ∧ H4 dd = some (.xd [("value", x)])) ?_ ?_
      · refine s_try (i := 6) scRefused.nd rfl (at_s (at_s (at_s (at_s (at_s (at_s at_z)))))) ⟨rfl, by decide, .inl F.TS.g⟩ tk ?_
        intro pn xe tk' _
        walk_at "z"
        refine t_cmp op_eq ?_
        walk_at "z"
        refine ⟨rfl, _, rfl, ?_⟩
        have hd3 : Dq K H3 x d := Dq.keep s3 _ _ hd
        by_cases hdoor : u = 0
        · refine (if_pos (by simp [hdoor])).mpr ?_
          walk_at "z"
          refine e_call DI hr tk' ?_
          walk_at "z"
          refine ⟨x, .non, rfl, .inr ⟨d, hd3, fun dd H5 n5 => ?_⟩⟩
          refine ⟨true, F.xS, fun _ => ⟨cS, rfl, fun x1 nx oe pn' zc hf => ?_⟩, fun h => by cases h⟩
          walk_at "z"
          exact ⟨x1, dd, rfl, (s3.trans n5.same).trans (same_upd nx), upd_same, by rw [upd_ne (fun z => by have := n5.here; rw [z, nx] at this; cases this)]; exact n5.here⟩
        · refine (if_neg (by simp [hdoor])).mpr ?_
          walk_at "z"
          refine e_call DT hr tk' ?_
          walk_at "z"
          refine ⟨x, .non, rfl, .inr ⟨d, hd3, fun dd H5 n5 => ?_⟩⟩
          refine ⟨true, F.xS, fun _ => ⟨cS, rfl, fun x1 nx oe pn' zc hf => ?_⟩, fun h => by cases h⟩
          walk_at "z"
          exact ⟨x1, dd, rfl, (s3.trans n5.same).trans (same_upd nx), upd_same, by rw [upd_ne (fun z => by have := n5.here; rw [z, nx] at this; cases this)]; exact n5.here⟩
      · rintro σ4 H4 ⟨x1, dd, rfl, s4, hx1, hdd⟩
        walk_at "z"
        refine t_cmp op_isN ?_
        walk_at "z"
        refine ⟨rfl, _, rfl, (if_neg (by simp)).mpr ?_⟩
        refine w_or1 (t_cmp op_ne ?_)
        refine e_callB (call_reprA SS hr.g hu64) mp (by decide +kernel) ?_
        walk_at "z"
        refine e_xf ?_
        walk_at "z1"
        have hd4 : Dq K H4 x d := Dq.keep s4 _ _ hd
        refine ⟨x1, cS, dd, _, x, rfl, hx1, hdd, F.TS.ex, F.TS.t.noN, rfl, ?_⟩
        walk_at "z"
        refine ⟨x, d, rfl, hd4, rp.1.sh, rp.1.ln, rp.1.dp, ?_⟩
        refine e_callB (call_reprA SS hr.g hu64) mp (by decide +kernel) ?_
        walk_at "z"
        refine ⟨x, d, rfl, hd4, rp.1.sh, rp.1.ln, rp.1.dp, ?_⟩
        refine ⟨rfl, _, rfl, (if_neg (by simp)).mpr ?_⟩
        walk_at "z"
        exact ⟨_, _, _, _, _, rfl, s4⟩
    · rintro σ'' H'' ⟨o2, o3, o4, o5, o6, rfl, s3⟩
      walk_at "z"
      exact ⟨_, _, _, _, _, _, rfl, s3⟩
  rintro σ' H' ⟨o1, o2, o3, o4, o5, o6, rfl, s'⟩
  walk_at "z"
  exact hQ H' (g2.gg.trans s')
end
end L2.Z.Law

set_option maxHeartbeats 1000000
namespace L2.Z.Law
open PySem PySem.Spec PyProof.Rows PySem.ZX
local macro_rules | `(tactic| walk_at "zi") => `(tactic| refine ⟨_, _, rfl, rfl, ?_⟩)
local macro_rules | `(tactic| walk_at "zmod") => `(tactic| refine ⟨_, _, rfl, rfl, (show (0 : Int) < _ by first | decide | omega), ?_⟩)
local macro_rules | `(tactic| walk_at "zdiv") => `(tactic| refine ⟨_, _, rfl, rfl, ⟨(show (0 : Int) < _ by first | decide | omega), ?_⟩, ?_⟩)
local macro_rules | `(tactic| walk_at "z1") => `(tactic| first
  | ((with_reducible show EW _ (Expr.Name _ _) _ _ _); walk_at "nm")
  | ((with_reducible show EW _ (Expr.Constant _ _ _) _ _ _); first | with_reducible refine e_int ?_ | with_reducible refine e_str ?_ | with_reducible refine e_bl ?_ | with_reducible refine e_non ?_)
  | ((with_reducible show EW _ (Expr.BinOp _ Operator.Add _ _) _ _ _); refine e_op z_add ?_)
  | ((with_reducible show EW _ (Expr.BinOp _ Operator.Sub _ _) _ _ _); refine e_op op_sub ?_)
  | ((with_reducible show EW _ (Expr.BinOp _ Operator.Mult _ _) _ _ _); refine e_op z_mul ?_)
  | ((with_reducible show EW _ (Expr.BinOp _ Operator.Mod _ _) _ _ _); refine e_op op_mod ?_)
  | ((with_reducible show EW _ (Expr.BinOp _ Operator.FloorDiv _ _) _ _ _); refine e_op op_fdivW ?_)
  | ((with_reducible show EW _ (Expr.BinOp _ Operator.Pow _ _) _ _ _); refine e_op op_pow ?_)
  | ((with_reducible show EW _ (Expr.List _ _) _ _ _); refine e_lstN ?_)
  | ((with_reducible show EW _ (Expr.Tuple _ _ _) _ _ _); refine e_tupN ?_)
  | ((with_reducible show EW _ (Expr.Subscript _ (Expr.Slice _ _ _ _) _) _ _ _); refine e_sl sl_listN ?_)
  | ((with_reducible show EW _ (Expr.Dict [] [] _) _ _ _); refine e_dKN ?_)
  | ((with_reducible show EW _ (Expr.BoolOp BoolOp.And [_] _) _ _ _); refine e_one ?_)
  | ((with_reducible show EW _ (Expr.BoolOp BoolOp.Or [_] _) _ _ _); refine e_one ?_)
  | ((with_reducible show EW _ (Expr.BoolOp BoolOp.And _ _) _ _ _); refine e_and ?_)
  | ((with_reducible show EW _ (Expr.BoolOp BoolOp.Or _ _) _ _ _); refine e_or ?_)
  | ((with_reducible show EW _ (Expr.IfExp _ _ _ _) _ _ _); refine e_if ?_)
  | ((with_reducible show AW _ [] _ _ _); refine a_nil ?_)
  | ((with_reducible show AW _ (_ :: _) _ _ _); refine a_cons ?_)
  | ((with_reducible show OW _ none _ _ _); refine o_no ?_)
  | ((with_reducible show OW _ (some _) _ _ _); refine o_so ?_)
  | ((with_reducible show TW _ (Expr.UnaryOp UnaryOp.Not _ _) _ _ _); refine t_not ?_)
  | ((with_reducible show TW _ (Expr.BoolOp _ _ _) _ _ _); refine t_w ?_)
  | ((with_reducible show PWW _ (Expr.BoolOp BoolOp.And [_] _) _ _ _); refine w_and1 ?_)
  | ((with_reducible show PWW _ (Expr.BoolOp BoolOp.Or [_] _) _ _ _); refine w_or1 ?_)
  | ((with_reducible show PWW _ (Expr.BoolOp BoolOp.And _ _) _ _ _); refine w_and ?_)
  | ((with_reducible show PWW _ (Expr.BoolOp BoolOp.Or _ _) _ _ _); refine w_or ?_)
  | ((with_reducible show SW _ (Stmt.Return (some _) _) _ _ _); refine s_ret ?_)
  | ((with_reducible show SW _ (Stmt.If _ _ _ _) _ _ _); refine s_if ?_)
  | ((with_reducible show SW _ (Stmt.Expr _ _) _ _ _); refine s_expr ?_)
  | ((with_reducible show SW _ (Stmt.Assign [Expr.Name _ _] _ _) _ _ _); walk_at "set")
  | ((with_reducible show BW _ [_] _ _ _); (first | (with_reducible refine b_one ?_) | refine b_one ?_))
  | ((with_reducible show BW _ [] _ _ _); refine b_nil ?_)
  | ((with_reducible show BW _ _ _ _ _); (first | (with_reducible refine b_cons ?_) | refine b_cons ?_))
  | ((with_reducible show rAddZ _ _ _ _ _); refine Or.inl ⟨_, _, rfl, rfl, ?_⟩)
  | ((with_reducible show rI0 _ _ _ _ _); refine ⟨_, _, rfl, rfl, ?_⟩)
  | ((with_reducible show rI (fun _ j => 0 < j) _ _ _ _ _); refine ⟨_, _, rfl, rfl, (show (0 : Int) < _ by first | decide | omega), ?_⟩)
  | ((with_reducible show Ends.nx _ _ _); first | (with_reducible refine mk_nx ?_) | refine (show BW _ _ _ _ _ from ?_)))
local macro_rules | `(tactic| walk_at "z") => `(tactic| repeat walk_at "z1")
local macro_rules | `(tactic| walk_at "st") => `(tactic| repeat (first
  | ((with_reducible show Ends.nx _ _ _); first | (with_reducible refine mk_nx ?_) | refine (show BW _ _ _ _ _ from ?_))
  | ((with_reducible show BW _ _ _ _ _); (first | (with_reducible refine b_cons ?_) | refine b_cons ?_))))
def odd4 : List PyData := [.none, .int 0, .int (-1), .bool true, .str "1", .list [.int 1], .tuple [.int 1], .dict []]
theorem odd4_ok : ∀ d ∈ odd4, (badSize d && rpB d) = true := List.all_eq_true.mp (by decide +kernel)
section
variable {P : Program} {w : World} {K : PySem.W.Frag} {mg : Str → Option Value} {base : Heap} {f C cW cL cI cS cN fL fI fS fN : Addr} {qL qI qS qN : Str}
abbrev sNums : Stmt := topS 31
abbrev nsNums : List Str := ["_law_signature", "_law_odd", "_law_caught_here", "e"]
theorem scNums : FnScope nsNums ["_law_signature"] (defScope sNums) := ⟨rfl, rfl, rfl, by decide +kernel, rfl, by decide +kernel, by decide +kernel⟩
local macro_rules | `(tactic| walk_at "nm") => `(tactic| first
  | ((with_reducible show EW _ (Expr.Name (Str.ofString "_law_signature") _) _ _ _); refine e_nm (i := 0) (N := nsNums) rfl at_z rfl ?_)
  | ((with_reducible show EW _ (Expr.Name (Str.ofString "_law_odd") _) _ _ _); refine e_nm (i := 1) (N := nsNums) rfl (at_s at_z) rfl ?_)
  | ((with_reducible show EW _ (Expr.Name (Str.ofString "_law_caught_here") _) _ _ _); refine e_nm (i := 2) (N := nsNums) rfl (at_s (at_s at_z)) rfl ?_)
  | ((with_reducible show EW _ (Expr.Name (Str.ofString "e") _) _ _ _); refine e_nm (i := 3) (N := nsNums) rfl (at_s (at_s (at_s at_z))) rfl ?_))
local macro_rules | `(tactic| walk_at "set") => `(tactic| first
  | ((with_reducible show SW _ (Stmt.Assign [Expr.Name (Str.ofString "_law_signature") _] _ _) _ _ _); refine s_set (i := 0) (N := nsNums) scNums.nd rfl at_z ?_)
  | ((with_reducible show SW _ (Stmt.Assign [Expr.Name (Str.ofString "_law_odd") _] _ _) _ _ _); refine s_set (i := 1) (N := nsNums) scNums.nd rfl (at_s at_z) ?_)
  | ((with_reducible show SW _ (Stmt.Assign [Expr.Name (Str.ofString "_law_caught_here") _] _ _) _ _ _); refine s_set (i := 2) (N := nsNums) scNums.nd rfl (at_s (at_s at_z)) ?_)
  | ((with_reducible show SW _ (Stmt.Assign [Expr.Name (Str.ofString "e") _] _ _) _ _ _); refine s_set (i := 3) (N := nsNums) scNums.nd rfl (at_s (at_s (at_s at_z))) ?_))
local macro_rules | `(tactic| walk_at "tg") => `(tactic| first
  | ((with_reducible show GW _ (Expr.Name (Str.ofString "_law_signature") _) _ _ _ _); refine g_nm (i := 0) (N := nsNums) scNums.nd rfl at_z ?_)
  | ((with_reducible show GW _ (Expr.Name (Str.ofString "_law_odd") _) _ _ _ _); refine g_nm (i := 1) (N := nsNums) scNums.nd rfl (at_s at_z) ?_)
  | ((with_reducible show GW _ (Expr.Name (Str.ofString "_law_caught_here") _) _ _ _ _); refine g_nm (i := 2) (N := nsNums) scNums.nd rfl (at_s (at_s at_z)) ?_)
  | ((with_reducible show GW _ (Expr.Name (Str.ofString "e") _) _ _ _ _); refine g_nm (i := 3) (N := nsNums) scNums.nd rfl (at_s (at_s (at_s at_z))) ?_))
def spNums (C : Addr) : Sp := fun vs H Q _ => ∃ (a : Addr) (rows : List (Str × Int)), vs = [.ref a] ∧ SigAt C H a rows ∧ ∀ H', Same H H' → Q (.bl true) H'
theorem bNums (F : XQ P K mg cW cL cI cS cN fL fI fS fN qL qI qS qN) (SS : Sys base) (mp : mg "repr" = none) (DT : DefZ P w K mg base "types_of" 20 ["signature", "size"] (spTypesOf K C cS cN)) :
    BodyZ P w K mg base nsNums "_law_numbers_refused" sNums f 20 (spNums C) := by
  intro X cd A outer s H vs Q E hX hr tk hs
  subst hX
  have hu := hr.r.units
  have hu64 : (cz P w K mg base nsNums "_law_numbers_refused" (defScope sNums) f cd A outer s H E).A.units + 64 < cLine := hu
  obtain ⟨a, rows, rfl, hsig, hQ⟩ := hs
  walk_at "st"
  refine s_for (i_list (ELs.run (G := H) (ds := odd4) ?els H H _ (Same.refl _) (Same.refl _) fun L vs G2 H2 g2 hL hds => ?_))
  case els =>
    refine ELs.disp ?_
    refine AX.cons EX.non (AX.cons EX.int (AX.cons EX.neg (AX.cons EX.bl (AX.cons EX.str (AX.cons (EX.lst ?t1) (AX.cons (EX.tup ?t2) (AX.cons EX.dct AX.nil)))))))
    case t1 => exact AX.cons EX.int AX.nil
    case t2 => exact AX.cons EX.int AX.nil
  refine ⟨L, vs, rfl, .inl (.inl (g2.gh _ _ hL)), fun i σ' H' => ∃ o1 o2 o3, σ' = [some (.ref a), o1, o2, o3] ∧ Same G2 H', ⟨_, _, _, rfl, g2.gh⟩, fun i σ' H' _ ⟨_, _, _, _, s'⟩ => .inl (.inl (s' _ _ hL)), ?_, ?_⟩
  · rintro i σ' H' x H2' hi ⟨o1, o2, o3, rfl, s'⟩ ⟨rfl, ex⟩
    obtain ⟨d, ed, hd⟩ := DqAll.get hds ex
    obtain ⟨bd, rp⟩ := Bool.and_eq_true_iff.mp (odd4_ok d (List.mem_of_getElem? ed))
    have rp := rpB.ok rp
    have hd3 : Dq K H2' x d := Dq.keep s' _ _ hd
    walk_at "tg"
    walk_at "z"
    refine s_cut (fun σ4 H4 => ∃ x1 dd, σ4 = [some (.ref a), some x, some (.ref x1), none] ∧ Same G2 H4 ∧ H4 x1 = some (exT x1 cN dd) ∧ H4 dd = some (.xd [("value", x)])) ?_ ?_
    · refine s_try (i := 3) scNums.nd rfl (at_s (at_s (at_s at_z))) ⟨rfl, by decide, .inl F.TN.g⟩ tk ?_
      intro pn xe tk' _
      walk_at "z"
      refine e_call DT hr tk' ?_
      walk_at "z"
      refine ⟨.ref a, x, rfl, .inl ⟨a, rows, d, rfl, hsig.keep (g2.gg.trans s'), hd3, fun _ dd H5 s5 nd hdd => ?_, fun n e h1 => ?_⟩⟩
      · refine ⟨true, F.xN, fun _ => ⟨cN, rfl, fun x1 nx oe pn' zc hf => ?_⟩, fun h => by cases h⟩
        walk_at "z"
        exact ⟨x1, dd, rfl, (s'.trans s5).trans (same_upd nx), upd_same, by rw [upd_ne (fun z => by rw [z, nx] at hdd; cases hdd)]; exact hdd⟩
      · subst e
        simp only [badSize, decide_eq_true_eq] at bd
        omega
    · rintro σ4 H4 ⟨x1, dd, rfl, s4, hx1, hdd⟩
      walk_at "z"
      refine t_cmp op_isN ?_
      walk_at "z"
      refine ⟨rfl, _, rfl, (if_neg (by simp)).mpr ?_⟩
      refine w_or1 (t_cmp op_ne ?_)
      refine e_callB (call_reprA SS hr.g hu64) mp (by decide +kernel) ?_
      walk_at "z"
      refine e_xf ?_
      walk_at "z1"
      have hd4 : Dq K H4 x d := Dq.keep s4 _ _ hd
      refine ⟨x1, cN, dd, _, x, rfl, hx1, hdd, F.TN.ex, F.TN.t.noN, rfl, ?_⟩
      walk_at "z"
      refine ⟨x, d, rfl, hd4, rp.1.sh, rp.1.ln, rp.1.dp, ?_⟩
      refine e_callB (call_reprA SS hr.g hu64) mp (by decide +kernel) ?_
      walk_at "z"
      refine ⟨x, d, rfl, hd4, rp.1.sh, rp.1.ln, rp.1.dp, ?_⟩
      refine ⟨rfl, _, rfl, (if_neg (by simp)).mpr ?_⟩
      walk_at "z"
      exact ⟨_, _, _, rfl, s4⟩
  rintro σ' H' ⟨o1, o2, o3, rfl, s'⟩
  walk_at "z"
  exact hQ H' (g2.gg.trans s')
end
end L2.Z.Law

set_option maxHeartbeats 1000000
namespace L2.Z.Law
open PySem PySem.Spec PyProof.Rows PySem.ZX
local macro_rules | `(tactic| walk_at "zi") => `(tactic| refine ⟨_, _, rfl, rfl, ?_⟩)
local macro_rules | `(tactic| walk_at "zmod") => `(tactic| refine ⟨_, _, rfl, rfl, (show (0 : Int) < _ by first | decide | omega), ?_⟩)
local macro_rules | `(tactic| walk_at "zdiv") => `(tactic| refine ⟨_, _, rfl, rfl, ⟨(show (0 : Int) < _ by first | decide | omega), ?_⟩, ?_⟩)
local macro_rules | `(tactic| walk_at "z1") => `(tactic| first
  | ((with_reducible show EW _ (Expr.Name _ _) _ _ _); walk_at "nm")
  | ((with_reducible show EW _ (Expr.Constant _ _ _) _ _ _); first | with_reducible refine e_int ?_ | with_reducible refine e_str ?_ | with_reducible refine e_bl ?_ | with_reducible refine e_non ?_)
  | ((with_reducible show EW _ (Expr.BinOp _ Operator.Add _ _) _ _ _); refine e_op z_add ?_)
  | ((with_reducible show EW _ (Expr.BinOp _ Operator.Sub _ _) _ _ _); refine e_op op_sub ?_)
  | ((with_reducible show EW _ (Expr.BinOp _ Operator.Mult _ _) _ _ _); refine e_op z_mul ?_)
  | ((with_reducible show EW _ (Expr.BinOp _ Operator.Mod _ _) _ _ _); refine e_op op_mod ?_)
  | ((with_reducible show EW _ (Expr.BinOp _ Operator.FloorDiv _ _) _ _ _); refine e_op op_fdivW ?_)
  | ((with_reducible show EW _ (Expr.BinOp _ Operator.Pow _ _) _ _ _); refine e_op op_pow ?_)
  | ((with_reducible show EW _ (Expr.List _ _) _ _ _); refine e_lstN ?_)
  | ((with_reducible show EW _ (Expr.Tuple _ _ _) _ _ _); refine e_tupN ?_)
  | ((with_reducible show EW _ (Expr.Subscript _ (Expr.Slice _ _ _ _) _) _ _ _); refine e_sl sl_listN ?_)
  | ((with_reducible show EW _ (Expr.Dict [] [] _) _ _ _); refine e_dKN ?_)
  | ((with_reducible show EW _ (Expr.BoolOp BoolOp.And [_] _) _ _ _); refine e_one ?_)
  | ((with_reducible show EW _ (Expr.BoolOp BoolOp.Or [_] _) _ _ _); refine e_one ?_)
  | ((with_reducible show EW _ (Expr.BoolOp BoolOp.And _ _) _ _ _); refine e_and ?_)
  | ((with_reducible show EW _ (Expr.BoolOp BoolOp.Or _ _) _ _ _); refine e_or ?_)
  | ((with_reducible show EW _ (Expr.IfExp _ _ _ _) _ _ _); refine e_if ?_)
  | ((with_reducible show AW _ [] _ _ _); refine a_nil ?_)
  | ((with_reducible show AW _ (_ :: _) _ _ _); refine a_cons ?_)
  | ((with_reducible show OW _ none _ _ _); refine o_no ?_)
  | ((with_reducible show OW _ (some _) _ _ _); refine o_so ?_)
  | ((with_reducible show TW _ (Expr.UnaryOp UnaryOp.Not _ _) _ _ _); refine t_not ?_)
  | ((with_reducible show TW _ (Expr.BoolOp _ _ _) _ _ _); refine t_w ?_)
  | ((with_reducible show PWW _ (Expr.BoolOp BoolOp.And [_] _) _ _ _); refine w_and1 ?_)
  | ((with_reducible show PWW _ (Expr.BoolOp BoolOp.Or [_] _) _ _ _); refine w_or1 ?_)
  | ((with_reducible show PWW _ (Expr.BoolOp BoolOp.And _ _) _ _ _); refine w_and ?_)
  | ((with_reducible show PWW _ (Expr.BoolOp BoolOp.Or _ _) _ _ _); refine w_or ?_)
  | ((with_reducible show SW _ (Stmt.Return (some _) _) _ _ _); refine s_ret ?_)
  | ((with_reducible show SW _ (Stmt.If _ _ _ _) _ _ _); refine s_if ?_)
  | ((with_reducible show SW _ (Stmt.Expr _ _) _ _ _); refine s_expr ?_)
  | ((with_reducible show SW _ (Stmt.Assign [Expr.Name _ _] _ _) _ _ _); walk_at "set")
  | ((with_reducible show BW _ [_] _ _ _); (first | (with_reducible refine b_one ?_) | refine b_one ?_))
  | ((with_reducible show BW _ [] _ _ _); refine b_nil ?_)
  | ((with_reducible show BW _ _ _ _ _); (first | (with_reducible refine b_cons ?_) | refine b_cons ?_))
  | ((with_reducible show rAddZ _ _ _ _ _); refine Or.inl ⟨_, _, rfl, rfl, ?_⟩)
  | ((with_reducible show rI0 _ _ _ _ _); refine ⟨_, _, rfl, rfl, ?_⟩)
  | ((with_reducible show rI (fun _ j => 0 < j) _ _ _ _ _); refine ⟨_, _, rfl, rfl, (show (0 : Int) < _ by first | decide | omega), ?_⟩)
  | ((with_reducible show Ends.nx _ _ _); first | (with_reducible refine mk_nx ?_) | refine (show BW _ _ _ _ _ from ?_)))
local macro_rules | `(tactic| walk_at "z") => `(tactic| repeat walk_at "z1")
local macro_rules | `(tactic| walk_at "st") => `(tactic| repeat (first
  | ((with_reducible show Ends.nx _ _ _); first | (with_reducible refine mk_nx ?_) | refine (show BW _ _ _ _ _ from ?_))
  | ((with_reducible show BW _ _ _ _ _); (first | (with_reducible refine b_cons ?_) | refine b_cons ?_))))
section
variable {P : Program} {w : World} {K : PySem.W.Frag} {mg : Str → Option Value} {base : Heap} {f C cW cL cI cS cN fL fI fS fN : Addr} {qL qI qS qN : Str}
/-- a list is changed: signatures stay -/
theorem SigAt.updL {H : Hp} {a l : Addr} {rows : List (Str × Int)} {xs ys : List V} (h : SigAt C H a rows) (hl : H l = some (.lst xs)) : SigAt C (upd H l (.lst ys)) a rows := by
  obtain ⟨dx, p, t, as, h1, h2, h3, h4⟩ := h
  have off : ∀ {b : Addr} {o : HO}, H b = some o → (∀ zs, o ≠ .lst zs) → (upd H l (.lst ys)) b = some o := fun {b o} e ne => by
    rw [upd_ne (fun z => by rw [z, hl] at e; exact ne _ (Option.some.inj e).symm)]
    exact e
  exact ⟨dx, p, t, as, off h1 (fun _ z => by cases z), off h2 (fun _ z => by cases z), off h3 (fun _ z => by cases z), Paired.imp (fun b r e => off e (fun _ z => by cases z)) h4⟩
/-- Signature(e) of a list that fits -/
theorem e_sig {X : Cx} {σ : St} {H : Hp} {Q : VK} {e : Expr} {d : PyData} {p pos : Pos} {W : WX} (MS : MkZ X.prog X.w X.K X.mg X.base "Signature" C 3 ["self", "rows"] (spSig X.K C cL cI)) (hr : RoomZ 4 X.A) (tk : Takes X W)
    (he : EX X σ H d e) (hs : sigErr d = none) (hw : Sml d) (h : ∀ a H', Same H H' → H a = none → SigAt C H' a (sigRows d) → Q (.ref a) H') (hg : Gl X "Signature" := by rfl)
    (h1 : starEach [e] X.env = (false, eval e X.env) :: starEach [] X.env := by rfl) (h2 : (backTo pos (starEach [] X.env)).any (·.1) = false := by rfl) : EW X (.Call (.Name "Signature" p) [e] [] pos) σ H Q := by
  refine e_make MS hr tk (a_cons (he.run H H _ (Same.refl _) (Same.refl _) fun v G2 H2 g2 hv => a_nil ⟨rfl, fun a dx na ndx ne => ?_⟩) h1) hg (by decide) h1 h2
  have S1 : Same H2 (upd (upd H2 dx (.own a)) a (.ins C dx [])) := (same_upd ndx).trans (same_upd (by rw [upd_ne (Ne.symm ne)]; exact na))
  refine ⟨a, dx, v, d, G2, rfl, upd_same, g2.gh.trans S1, g2.gh.free na, hv, hw, fun _ H' bt hsig => ⟨rfl, h a H' (fun b o e => ?_) (g2.hh.free na) hsig⟩, fun e he => by rw [hs] at he; cases he⟩
  exact bt b o (fun z => by rw [z, g2.hh.free na] at e; cases e) (S1 _ _ (g2.hh _ _ e))
end
end L2.Z.Law

set_option maxHeartbeats 1000000
namespace L2.Z.Law
open PySem PySem.Spec PyProof.Rows PySem.ZX
theorem tySizes_pre (rows : List (Str × Int)) {n : Nat} : ∀ {k : Nat}, n ≤ k → (tySizes rows k).getD n [] = (tySizes rows n).getD n []
  | 0, h => by
    obtain rfl : n = 0 := by omega
    rfl
  | k + 1, h => by
    rcases Nat.lt_or_ge n (k + 1) with h1 | h1
    · rw [tySizes, List.getD_eq_getElem?_getD, List.getElem?_append_left (by rw [tySizes_len]; exact h1), ← List.getD_eq_getElem?_getD]
      exact tySizes_pre rows (by omega)
    · obtain rfl : n = k + 1 := by omega
      rfl
theorem tySizes_at (rows : List (Str × Int)) (n : Nat) : (tySizes rows (n + 1)).getD (n + 1) [] = srt (foundAt rows (tySizes rows n) (n + 1)) := by
  rw [tySizes, List.getD_eq_getElem?_getD, List.getElem?_append_right (by rw [tySizes_len]; exact Nat.le_refl _), tySizes_len, Nat.sub_self]
  rfl
theorem OkR.capD {rows : List (Str × Int)} (o : OkR rows) {n : Nat} (h : n ≤ 6) : ((tySizes rows n).getD n []).length < 1000 := by
  cases n with
  | zero => exact (by decide : (0 : Nat) < 1000)
  | succ m =>
    rw [tySizes_at, srt_len]
    exact o.cap (by omega)
theorem OkR.rpTy {rows : List (Str × Int)} (o : OkR rows) {n : Nat} (h : n ≤ 6) : RpOk (.list ((tySizes rows n).getD n [])) := by
  have g := gdAll_len (n := n) (k := 0) ((tySizes rows n).getD n []) (fun d hd => sizes_gd o.nm n n d hd)
  have hc := o.capD h
  have hw : ((tySizes rows n).getD n []).length * (7 * n + 1) ≤ 1000 * 43 := Nat.mul_le_mul (by omega) (by omega)
  refine ⟨?_, PyData.shown_fits (B := 13) (by decide) (by decide) ?_ ?_, ?_⟩
  · rw [PyData.showable, g.sh]
  · rw [PyData.leavesShort, g.lf]
  · rw [PyData.weight]
    exact Nat.le_trans g.wt (Nat.le_trans hw (by decide))
  · rw [PyData.depth]
    have := g.dp
    omega
theorem flat_le {n : Nat} : ∀ {bs : List (List PyData)}, (∀ b ∈ bs, b.length ≤ n) → bs.flatten.length ≤ bs.length * n
  | [], _ => by simp
  | b :: bs, h => by
    rw [List.flatten_cons, List.length_append, List.length_cons, Nat.succ_mul]
    have := h b List.mem_cons_self
    have := flat_le (bs := bs) fun b hb => h b (List.mem_cons_of_mem _ hb)
    omega
theorem tySizes_mem {rows : List (Str × Int)} {k : Nat} {b : List PyData} (h : b ∈ tySizes rows k) : ∃ i, i ≤ k ∧ b = (tySizes rows i).getD i [] := by
  obtain ⟨i, hi, e⟩ := List.getElem_of_mem h
  rw [tySizes_len] at hi
  refine ⟨i, by omega, ?_⟩
  rw [← tySizes_pre rows (k := k) (by omega), List.getD_eq_getElem?_getD, List.getElem?_eq_getElem (by rw [tySizes_len]; exact hi), e]
  rfl
theorem OkR.flatLen {rows : List (Str × Int)} (o : OkR rows) {k : Nat} (h : k ≤ 6) : (tySizes rows k).flatten.length ≤ 7000 := by
  have := flat_le (n := 1000) (bs := tySizes rows k) fun b hb => by
    obtain ⟨i, hi, rfl⟩ := tySizes_mem hb
    exact Nat.le_of_lt (o.capD (by omega))
  rw [tySizes_len] at this
  omega
/-- a type over the rows, at the top -/
inductive TyR (rows : List (Str × Int)) : PyData → Prop where
  | mk (z : Str) (ds : List PyData) (h : z.length ≤ 4) (h2 : ds.length ≤ 2) : TyR rows (.tuple (.str z :: ds))
theorem found_tyr {rows : List (Str × Int)} (hr : nmOk rows = true) {bs : List (List PyData)} {many : Nat} : ∀ d ∈ foundAt rows bs many, TyR rows d := by
  intro d h
  obtain ⟨r, mr, h⟩ := List.mem_flatMap.mp h
  have hl := nm_len hr mr
  unfold ofRow at h
  split at h
  · split at h
    · obtain rfl : d = _ := by simpa using h
      exact .mk _ _ hl (by simp)
    · cases h
  · split at h
    · obtain ⟨p, hp, rfl⟩ := List.mem_map.mp h
      exact .mk _ _ hl (by simp)
    · split at h
      · obtain ⟨l, _, h⟩ := List.mem_flatMap.mp h
        obtain ⟨one, h1, h⟩ := List.mem_flatMap.mp h
        obtain ⟨two, h2, rfl⟩ := List.mem_map.mp h
        exact .mk _ _ hl (by simp)
      · cases h
structure EvTy (rows : List (Str × Int)) (d : PyData) : Prop where
  ty : TyR rows d
  gd : GdN 6 d
theorem GdN.le {n m : Nat} {d : PyData} (g : GdN n d) (h : n ≤ m) : GdN m d := ⟨g.sh, g.lf, g.ly, Nat.le_trans g.wt (by omega), Nat.le_trans g.dp h⟩
theorem OkR.every {rows : List (Str × Int)} (o : OkR rows) {k : Nat} (h : k ≤ 6) : ∀ d ∈ (tySizes rows k).flatten, EvTy rows d := by
  intro d hd
  obtain ⟨b, hb, hd⟩ := List.mem_flatten.mp hd
  obtain ⟨i, hi, rfl⟩ := tySizes_mem hb
  cases i with
  | zero => cases hd
  | succ m =>
    refine ⟨?_, (sizes_gd o.nm (m + 1) (m + 1) d hd).le (by omega)⟩
    rw [tySizes_at] at hd
    exact found_tyr o.nm d (mem_srt.mp hd)
theorem OkR.every0 {rows : List (Str × Int)} (o : OkR rows) {k : Nat} (h1 : 1 ≤ k) (h : k ≤ 6) : 0 < (tySizes rows k).flatten.length := by
  have hm : ∃ r ∈ rows, r.2 = 0 := by
    obtain ⟨ars, _, rfl⟩ := o
    exact ⟨("int", 0), List.mem_cons_self, rfl⟩
  obtain ⟨r, hr, h0⟩ := hm
  have : (.tuple [.str r.1] : PyData) ∈ (tySizes rows 1).getD 1 [] := by
    rw [tySizes_at rows 0]
    refine mem_srt.mpr (List.mem_flatMap.mpr ⟨r, hr, ?_⟩)
    unfold ofRow
    rw [if_pos h0]
    simp
  have m2 : (.tuple [.str r.1] : PyData) ∈ (tySizes rows k).flatten := by
    refine List.mem_flatten.mpr ⟨_, ?_, this⟩
    rw [← tySizes_pre rows (k := k) h1, List.getD_eq_getElem?_getD, List.getElem?_eq_getElem (by rw [tySizes_len]; omega)]
    exact List.getElem_mem _
  exact List.length_pos_of_mem m2
section
variable {K : PySem.W.Frag} {H H' : Hp} {p : Addr} {v : V} {d : PyData} {rows : List (Str × Int)}
/-- what _law_values wants of a type -/
theorem EvTy.vals (e : EvTy rows d) (h : Dq K H v d) : ∃ b z zs, v = .ref b ∧ SqT K H b (.str z :: zs) ∧ VdA K H 5 42 (.str z :: zs) ∧ z.length ≤ 10 ∧ zs.length ≤ 3 := by
  obtain ⟨ty, gd⟩ := e
  cases ty with
  | mk z ds h1 h2 =>
    cases h with
    | tup hq ha =>
      cases ha with
      | cons h0 t =>
        rename_i a vs
        cases h0
        have hl := dqLen t
        refine ⟨_, z, _, rfl, hq, ⟨.str z :: ds, .cons (.str z) t, ?_⟩, by omega, by omega⟩
        have dp := gd.dp
        have wt := gd.wt
        rw [PyData.depth] at dp
        rw [PyData.weight] at wt
        exact ⟨by omega, by omega⟩
theorem Same.ers (s : Same (ers H p) H') (g : H p = none) : Same H H' := fun b o e => s b o (by rw [ers_ne (fun z => by rw [z, g] at e; cases e)]; exact e)
theorem Same.ersW {o : HO} : Same (L2.Z.Law.ers H p) (upd H p o) := fun b u e => by
  unfold L2.Z.Law.ers at e
  split at e
  · cases e
  · rename_i n
    rw [upd_ne n]
    exact e
theorem SigAt.ers {C a : Addr} {xs : List V} (h : SigAt C H a rows) (hp : H p = some (.lst xs)) : SigAt C (L2.Z.Law.ers H p) a rows := by
  obtain ⟨dx, q, t, as, h1, h2, h3, h4⟩ := h
  have off : ∀ {b : Addr} {o : HO}, H b = some o → (∀ zs, o ≠ .lst zs) → (L2.Z.Law.ers H p) b = some o := fun {b o} e ne => by
    rw [ers_ne (fun z => by rw [z, hp] at e; exact ne _ (Option.some.inj e).symm)]
    exact e
  exact ⟨dx, q, t, as, off h1 (fun _ z => by cases z), off h2 (fun _ z => by cases z), off h3 (fun _ z => by cases z), Paired.imp (fun b r e => off e (fun _ z => by cases z)) h4⟩
theorem rpBool (b : Bool) : RpOk (.bool b) := (rpB.ok (d := .bool b) (by cases b <;> decide +kernel)).1
end
end L2.Z.Law

set_option maxHeartbeats 1000000
namespace L2.Z.Law
open PySem PySem.Spec PyProof.Rows PySem.ZX
local macro_rules | `(tactic| walk_at "zi") => `(tactic| refine ⟨_, _, rfl, rfl, ?_⟩)
local macro_rules | `(tactic| walk_at "zmod") => `(tactic| refine ⟨_, _, rfl, rfl, (show (0 : Int) < _ by first | decide | omega), ?_⟩)
local macro_rules | `(tactic| walk_at "zdiv") => `(tactic| refine ⟨_, _, rfl, rfl, ⟨(show (0 : Int) < _ by first | decide | omega), ?_⟩, ?_⟩)
local macro_rules | `(tactic| walk_at "z1") => `(tactic| first
  | ((with_reducible show EW _ (Expr.Name _ _) _ _ _); walk_at "nm")
  | ((with_reducible show EW _ (Expr.Constant _ _ _) _ _ _); first | with_reducible refine e_int ?_ | with_reducible refine e_str ?_ | with_reducible refine e_bl ?_ | with_reducible refine e_non ?_)
  | ((with_reducible show EW _ (Expr.BinOp _ Operator.Add _ _) _ _ _); refine e_op z_add ?_)
  | ((with_reducible show EW _ (Expr.BinOp _ Operator.Sub _ _) _ _ _); refine e_op op_sub ?_)
  | ((with_reducible show EW _ (Expr.BinOp _ Operator.Mult _ _) _ _ _); refine e_op z_mul ?_)
  | ((with_reducible show EW _ (Expr.BinOp _ Operator.Mod _ _) _ _ _); refine e_op op_mod ?_)
  | ((with_reducible show EW _ (Expr.BinOp _ Operator.FloorDiv _ _) _ _ _); refine e_op op_fdivW ?_)
  | ((with_reducible show EW _ (Expr.BinOp _ Operator.Pow _ _) _ _ _); refine e_op op_pow ?_)
  | ((with_reducible show EW _ (Expr.List _ _) _ _ _); refine e_lstN ?_)
  | ((with_reducible show EW _ (Expr.Tuple _ _ _) _ _ _); refine e_tupN ?_)
  | ((with_reducible show EW _ (Expr.Subscript _ (Expr.Slice _ _ _ _) _) _ _ _); refine e_sl sl_listN ?_)
  | ((with_reducible show EW _ (Expr.Dict [] [] _) _ _ _); refine e_dKN ?_)
  | ((with_reducible show EW _ (Expr.BoolOp BoolOp.And [_] _) _ _ _); refine e_one ?_)
  | ((with_reducible show EW _ (Expr.BoolOp BoolOp.Or [_] _) _ _ _); refine e_one ?_)
  | ((with_reducible show EW _ (Expr.BoolOp BoolOp.And _ _) _ _ _); refine e_and ?_)
  | ((with_reducible show EW _ (Expr.BoolOp BoolOp.Or _ _) _ _ _); refine e_or ?_)
  | ((with_reducible show EW _ (Expr.IfExp _ _ _ _) _ _ _); refine e_if ?_)
  | ((with_reducible show AW _ [] _ _ _); refine a_nil ?_)
  | ((with_reducible show AW _ (_ :: _) _ _ _); refine a_cons ?_)
  | ((with_reducible show OW _ none _ _ _); refine o_no ?_)
  | ((with_reducible show OW _ (some _) _ _ _); refine o_so ?_)
  | ((with_reducible show TW _ (Expr.UnaryOp UnaryOp.Not _ _) _ _ _); refine t_not ?_)
  | ((with_reducible show TW _ (Expr.BoolOp _ _ _) _ _ _); refine t_w ?_)
  | ((with_reducible show PWW _ (Expr.BoolOp BoolOp.And [_] _) _ _ _); refine w_and1 ?_)
  | ((with_reducible show PWW _ (Expr.BoolOp BoolOp.Or [_] _) _ _ _); refine w_or1 ?_)
  | ((with_reducible show PWW _ (Expr.BoolOp BoolOp.And _ _) _ _ _); refine w_and ?_)
  | ((with_reducible show PWW _ (Expr.BoolOp BoolOp.Or _ _) _ _ _); refine w_or ?_)
  | ((with_reducible show SW _ (Stmt.Return (some _) _) _ _ _); refine s_ret ?_)
  | ((with_reducible show SW _ (Stmt.If _ _ _ _) _ _ _); refine s_if ?_)
  | ((with_reducible show SW _ (Stmt.Expr _ _) _ _ _); refine s_expr ?_)
  | ((with_reducible show SW _ (Stmt.Assign [Expr.Name _ _] _ _) _ _ _); walk_at "set")
  | ((with_reducible show BW _ [_] _ _ _); (first | (with_reducible refine b_one ?_) | refine b_one ?_))
  | ((with_reducible show BW _ [] _ _ _); refine b_nil ?_)
  | ((with_reducible show BW _ _ _ _ _); (first | (with_reducible refine b_cons ?_) | refine b_cons ?_))
  | ((with_reducible show rAddZ _ _ _ _ _); refine Or.inl ⟨_, _, rfl, rfl, ?_⟩)
  | ((with_reducible show rI0 _ _ _ _ _); refine ⟨_, _, rfl, rfl, ?_⟩)
  | ((with_reducible show rI (fun _ j => 0 < j) _ _ _ _ _); refine ⟨_, _, rfl, rfl, (show (0 : Int) < _ by first | decide | omega), ?_⟩)
  | ((with_reducible show Ends.nx _ _ _); first | (with_reducible refine mk_nx ?_) | refine (show BW _ _ _ _ _ from ?_)))
local macro_rules | `(tactic| walk_at "z") => `(tactic| repeat walk_at "z1")
local macro_rules | `(tactic| walk_at "st") => `(tactic| repeat (first
  | ((with_reducible show Ends.nx _ _ _); first | (with_reducible refine mk_nx ?_) | refine (show BW _ _ _ _ _ from ?_))
  | ((with_reducible show BW _ _ _ _ _); (first | (with_reducible refine b_cons ?_) | refine b_cons ?_))))
section
variable {P : Program} {w : World} {K : PySem.W.Frag} {mg : Str → Option Value} {base : Heap} {f C cW cL cI cS cN fL fI fS fN : Addr} {qL qI qS qN : Str}
theorem OkR.sml {rows : List (Str × Int)} (o : OkR rows) : Sml (.list (rowsD rows)) := (rpB.ok (okr (p := fun rows => rpB (.list (rowsD rows))) (by decide +kernel) o)).2
theorem OkR.rp {rows : List (Str × Int)} (o : OkR rows) : RpOk (.list (rowsD rows)) := (rpB.ok (okr (p := fun rows => rpB (.list (rowsD rows))) (by decide +kernel) o)).1
theorem ne_rows (rows : List (Str × Int)) : (!PyData.eqv (.list (rowsD rows)) (.list (rowsD rows))) = false := by
  rw [PyData.eqv, eqv_rows]
  simp
/-- the other signatures -/
def lastCh (rows : List (Str × Int)) : List (Str × Int) := rows.dropLast ++ [((rows.getLast?.map (·.1)).getD Str.empty, ((rows.getLast?.map (·.2)).getD 0 + 1) % 3)]
def othB (rows : List (Str × Int)) : Bool := [rows.reverse, rows.take 1, lastCh rows].all fun r => (sigErr (.list (rowsD r))).isNone && rpB (.list (rowsD r)) && r.all (fun q => PyData.strOk q.1) && decide (rows ≠ r)
theorem OkR.oth {rows r : List (Str × Int)} (o : OkR rows) (h : r ∈ [rows.reverse, rows.take 1, lastCh rows]) : sigErr (.list (rowsD r)) = none ∧ Sml (.list (rowsD r)) ∧ StrOk r ∧ rows ≠ r := by
  have := List.all_eq_true.mp (okr (p := othB) (by decide +kernel) o) r h
  simp only [Bool.and_eq_true, decide_eq_true_eq] at this
  exact ⟨Option.isNone_iff_eq_none.mp this.1.1.1, (rpB.ok this.1.1.2).2, this.1.2, this.2⟩
theorem lastAt {H : Hp} {rows : List (Str × Int)} {xs : List V} (h : DqAll K H xs (rowsD rows)) (h1 : 2 ≤ rows.length) (h2 : rows.length ≤ 4) : ∃ l b, rows.getLast? = some l ∧ atI xs (-1) = some (.ref b) ∧ SqT K H b [.str l.1, .int l.2] := by
  match rows, h1, h2, h with
  | [r0, r1], _, _, h =>
    cases h with
    | cons q0 t => cases t with
      | cons q1 t =>
        cases t
        obtain ⟨b, rfl, sq⟩ := Dq.row q1
        exact ⟨r1, b, rfl, rfl, sq⟩
  | [r0, r1, r2], _, _, h =>
    cases h with
    | cons q0 t => cases t with
      | cons q1 t => cases t with
        | cons q2 t =>
          cases t
          obtain ⟨b, rfl, sq⟩ := Dq.row q2
          exact ⟨r2, b, rfl, rfl, sq⟩
  | [r0, r1, r2, r3], _, _, h =>
    cases h with
    | cons q0 t => cases t with
      | cons q1 t => cases t with
        | cons q2 t => cases t with
          | cons q3 t =>
            cases t
            obtain ⟨b, rfl, sq⟩ := Dq.row q3
            exact ⟨r3, b, rfl, rfl, sq⟩
theorem cutLast (ds : List PyData) (h : 1 ≤ ds.length) : cutD ds none (some (-1)) = ds.dropLast := by
  unfold cutD
  have e : HT.sIx ds.length ds.length (some (-1)) = ds.length - 1 := by
    unfold HT.sIx
    simp
    omega
  rw [HT.sIx_none, e, List.drop_zero, Nat.sub_zero, List.dropLast_eq_take]
/-- an instance of the class, and another one: what op_eqO, op_neO ask -/
theorem eqo {H : Hp} {a b : Addr} {r1 r2 : List (Str × Int)} {g : Bool → Bool} {Q : VK} (S : SigC K C) (h1 : SigAt C H a r1) (h2 : SigAt C H b r2) (s1 : StrOk r1) (s2 : StrOk r2) (q : Q (.bl (g (decide (r1 = r2)))) H) : rEqO K C (spSigEq K C) g (.ref a) (.ref b) H Q := by
  obtain ⟨dx, p, t, as, e1, e2, e3, e4⟩ := id h1
  exact ⟨a, dx, _, .ref C, rfl, e1, h2.ty S, by simp [PySem.W.notFirst], a, .ref b, r1, rfl, h1, .inl ⟨b, r2, rfl, h2, s1, s2, _, rfl, q⟩⟩
/-- an instance of the class, and data -/
theorem eqd {H : Hp} {a : Addr} {v : V} {d : PyData} {r1 : List (Str × Int)} {g : Bool → Bool} {Q : VK} (hNF : ∀ d : PyData, PySem.W.notFirst K C (.type (dty d)) = true) (h1 : SigAt C H a r1) (hd : Dq K H v d) (q : Q (.bl (g false)) H) : rEqO K C (spSigEq K C) g (.ref a) v H Q := by
  obtain ⟨dx, p, t, as, e1, e2, e3, e4⟩ := id h1
  exact ⟨a, dx, _, _, rfl, e1, hd.ty, hNF d, a, v, r1, rfl, h1, .inr ⟨d, hd, _, rfl, q⟩⟩
theorem eqb {H : Hp} {a : Addr} {v : V} {d : PyData} {T : String} {r1 : List (Str × Int)} {Q : VK} (hT : leftB d = some T) (hM : PySem.W.mroIn K C (.type T) = some false) (h1 : SigAt C H a r1) (hd : Dq K H v d) (q : Q (.bl false) H) : rEqB K C (spSigEq K C) v (.ref a) H Q := by
  obtain ⟨dx, p, t, as, e1, e2, e3, e4⟩ := id h1
  exact ⟨a, dx, _, d, T, rfl, e1, hd, hT, hM, a, v, r1, rfl, h1, .inr ⟨d, hd, _, rfl, q⟩⟩
abbrev sLaw : Stmt := topS 32
abbrev nsLaw : List Str := ["_law_script", "_law_cell", "_law_purse_here", "_law_rows_here", "_law_given", "_law_signature", "_law_told", "_law_others", "_law_sizes", "_law_size", "_law_turn", "_law_every", "_law_value", "_law_one"]
theorem scLaw : FnScope nsLaw ["_law_script"] (defScope sLaw) := ⟨rfl, rfl, rfl, by decide +kernel, rfl, by decide +kernel, by decide +kernel⟩
local macro_rules | `(tactic| walk_at "nm") => `(tactic| first
  | ((with_reducible show EW _ (Expr.Name (Str.ofString "_law_script") _) _ _ _); refine e_nm (i := 0) (N := nsLaw) rfl at_z rfl ?_)
  | ((with_reducible show EW _ (Expr.Name (Str.ofString "_law_cell") _) _ _ _); refine e_nm (i := 1) (N := nsLaw) rfl (at_s at_z) rfl ?_)
  | ((with_reducible show EW _ (Expr.Name (Str.ofString "_law_purse_here") _) _ _ _); refine e_nm (i := 2) (N := nsLaw) rfl (at_s (at_s at_z)) rfl ?_)
  | ((with_reducible show EW _ (Expr.Name (Str.ofString "_law_rows_here") _) _ _ _); refine e_nm (i := 3) (N := nsLaw) rfl (at_s (at_s (at_s at_z))) rfl ?_)
  | ((with_reducible show EW _ (Expr.Name (Str.ofString "_law_given") _) _ _ _); refine e_nm (i := 4) (N := nsLaw) rfl (at_s (at_s (at_s (at_s at_z)))) rfl ?_)
  | ((with_reducible show EW _ (Expr.Name (Str.ofString "_law_signature") _) _ _ _); refine e_nm (i := 5) (N := nsLaw) rfl (at_s (at_s (at_s (at_s (at_s at_z))))) rfl ?_)
  | ((with_reducible show EW _ (Expr.Name (Str.ofString "_law_told") _) _ _ _); refine e_nm (i := 6) (N := nsLaw) rfl (at_s (at_s (at_s (at_s (at_s (at_s at_z)))))) rfl ?_)
  | ((with_reducible show EW _ (Expr.Name (Str.ofString "_law_others") _) _ _ _); refine e_nm (i := 7) (N := nsLaw) rfl (at_s (at_s (at_s (at_s (at_s (at_s (at_s at_z))))))) rfl ?_)
  | ((with_reducible show EW _ (Expr.Name (Str.ofString "_law_sizes") _) _ _ _); refine e_nm (i := 8) (N := nsLaw) rfl (at_s (at_s (at_s (at_s (at_s (at_s (at_s (at_s at_z)))))))) rfl ?_)
  | ((with_reducible show EW _ (Expr.Name (Str.ofString "_law_size") _) _ _ _); refine e_nm (i := 9) (N := nsLaw) rfl (at_s (at_s (at_s (at_s (at_s (at_s (at_s (at_s (at_s at_z))))))))) rfl ?_)
  | ((with_reducible show EW _ (Expr.Name (Str.ofString "_law_turn") _) _ _ _); refine e_nm (i := 10) (N := nsLaw) rfl (at_s (at_s (at_s (at_s (at_s (at_s (at_s (at_s (at_s (at_s at_z)))))))))) rfl ?_)
  | ((with_reducible show EW _ (Expr.Name (Str.ofString "_law_every") _) _ _ _); refine e_nm (i := 11) (N := nsLaw) rfl (at_s (at_s (at_s (at_s (at_s (at_s (at_s (at_s (at_s (at_s (at_s at_z))))))))))) rfl ?_)
  | ((with_reducible show EW _ (Expr.Name (Str.ofString "_law_value") _) _ _ _); refine e_nm (i := 12) (N := nsLaw) rfl (at_s (at_s (at_s (at_s (at_s (at_s (at_s (at_s (at_s (at_s (at_s (at_s at_z)))))))))))) rfl ?_)
  | ((with_reducible show EW _ (Expr.Name (Str.ofString "_law_one") _) _ _ _); refine e_nm (i := 13) (N := nsLaw) rfl (at_s (at_s (at_s (at_s (at_s (at_s (at_s (at_s (at_s (at_s (at_s (at_s (at_s at_z))))))))))))) rfl ?_))
local macro_rules | `(tactic| walk_at "set") => `(tactic| first
  | ((with_reducible show SW _ (Stmt.Assign [Expr.Name (Str.ofString "_law_script") _] _ _) _ _ _); refine s_set (i := 0) (N := nsLaw) scLaw.nd rfl at_z ?_)
  | ((with_reducible show SW _ (Stmt.Assign [Expr.Name (Str.ofString "_law_cell") _] _ _) _ _ _); refine s_set (i := 1) (N := nsLaw) scLaw.nd rfl (at_s at_z) ?_)
  | ((with_reducible show SW _ (Stmt.Assign [Expr.Name (Str.ofString "_law_purse_here") _] _ _) _ _ _); refine s_set (i := 2) (N := nsLaw) scLaw.nd rfl (at_s (at_s at_z)) ?_)
  | ((with_reducible show SW _ (Stmt.Assign [Expr.Name (Str.ofString "_law_rows_here") _] _ _) _ _ _); refine s_set (i := 3) (N := nsLaw) scLaw.nd rfl (at_s (at_s (at_s at_z))) ?_)
  | ((with_reducible show SW _ (Stmt.Assign [Expr.Name (Str.ofString "_law_given") _] _ _) _ _ _); refine s_set (i := 4) (N := nsLaw) scLaw.nd rfl (at_s (at_s (at_s (at_s at_z)))) ?_)
  | ((with_reducible show SW _ (Stmt.Assign [Expr.Name (Str.ofString "_law_signature") _] _ _) _ _ _); refine s_set (i := 5) (N := nsLaw) scLaw.nd rfl (at_s (at_s (at_s (at_s (at_s at_z))))) ?_)
  | ((with_reducible show SW _ (Stmt.Assign [Expr.Name (Str.ofString "_law_told") _] _ _) _ _ _); refine s_set (i := 6) (N := nsLaw) scLaw.nd rfl (at_s (at_s (at_s (at_s (at_s (at_s at_z)))))) ?_)
  | ((with_reducible show SW _ (Stmt.Assign [Expr.Name (Str.ofString "_law_others") _] _ _) _ _ _); refine s_set (i := 7) (N := nsLaw) scLaw.nd rfl (at_s (at_s (at_s (at_s (at_s (at_s (at_s at_z))))))) ?_)
  | ((with_reducible show SW _ (Stmt.Assign [Expr.Name (Str.ofString "_law_sizes") _] _ _) _ _ _); refine s_set (i := 8) (N := nsLaw) scLaw.nd rfl (at_s (at_s (at_s (at_s (at_s (at_s (at_s (at_s at_z)))))))) ?_)
  | ((with_reducible show SW _ (Stmt.Assign [Expr.Name (Str.ofString "_law_size") _] _ _) _ _ _); refine s_set (i := 9) (N := nsLaw) scLaw.nd rfl (at_s (at_s (at_s (at_s (at_s (at_s (at_s (at_s (at_s at_z))))))))) ?_)
  | ((with_reducible show SW _ (Stmt.Assign [Expr.Name (Str.ofString "_law_turn") _] _ _) _ _ _); refine s_set (i := 10) (N := nsLaw) scLaw.nd rfl (at_s (at_s (at_s (at_s (at_s (at_s (at_s (at_s (at_s (at_s at_z)))))))))) ?_)
  | ((with_reducible show SW _ (Stmt.Assign [Expr.Name (Str.ofString "_law_every") _] _ _) _ _ _); refine s_set (i := 11) (N := nsLaw) scLaw.nd rfl (at_s (at_s (at_s (at_s (at_s (at_s (at_s (at_s (at_s (at_s (at_s at_z))))))))))) ?_)
  | ((with_reducible show SW _ (Stmt.Assign [Expr.Name (Str.ofString "_law_value") _] _ _) _ _ _); refine s_set (i := 12) (N := nsLaw) scLaw.nd rfl (at_s (at_s (at_s (at_s (at_s (at_s (at_s (at_s (at_s (at_s (at_s (at_s at_z)))))))))))) ?_)
  | ((with_reducible show SW _ (Stmt.Assign [Expr.Name (Str.ofString "_law_one") _] _ _) _ _ _); refine s_set (i := 13) (N := nsLaw) scLaw.nd rfl (at_s (at_s (at_s (at_s (at_s (at_s (at_s (at_s (at_s (at_s (at_s (at_s (at_s at_z))))))))))))) ?_))
local macro_rules | `(tactic| walk_at "tg") => `(tactic| first
  | ((with_reducible show GW _ (Expr.Name (Str.ofString "_law_script") _) _ _ _ _); refine g_nm (i := 0) (N := nsLaw) scLaw.nd rfl at_z ?_)
  | ((with_reducible show GW _ (Expr.Name (Str.ofString "_law_cell") _) _ _ _ _); refine g_nm (i := 1) (N := nsLaw) scLaw.nd rfl (at_s at_z) ?_)
  | ((with_reducible show GW _ (Expr.Name (Str.ofString "_law_purse_here") _) _ _ _ _); refine g_nm (i := 2) (N := nsLaw) scLaw.nd rfl (at_s (at_s at_z)) ?_)
  | ((with_reducible show GW _ (Expr.Name (Str.ofString "_law_rows_here") _) _ _ _ _); refine g_nm (i := 3) (N := nsLaw) scLaw.nd rfl (at_s (at_s (at_s at_z))) ?_)
  | ((with_reducible show GW _ (Expr.Name (Str.ofString "_law_given") _) _ _ _ _); refine g_nm (i := 4) (N := nsLaw) scLaw.nd rfl (at_s (at_s (at_s (at_s at_z)))) ?_)
  | ((with_reducible show GW _ (Expr.Name (Str.ofString "_law_signature") _) _ _ _ _); refine g_nm (i := 5) (N := nsLaw) scLaw.nd rfl (at_s (at_s (at_s (at_s (at_s at_z))))) ?_)
  | ((with_reducible show GW _ (Expr.Name (Str.ofString "_law_told") _) _ _ _ _); refine g_nm (i := 6) (N := nsLaw) scLaw.nd rfl (at_s (at_s (at_s (at_s (at_s (at_s at_z)))))) ?_)
  | ((with_reducible show GW _ (Expr.Name (Str.ofString "_law_others") _) _ _ _ _); refine g_nm (i := 7) (N := nsLaw) scLaw.nd rfl (at_s (at_s (at_s (at_s (at_s (at_s (at_s at_z))))))) ?_)
  | ((with_reducible show GW _ (Expr.Name (Str.ofString "_law_sizes") _) _ _ _ _); refine g_nm (i := 8) (N := nsLaw) scLaw.nd rfl (at_s (at_s (at_s (at_s (at_s (at_s (at_s (at_s at_z)))))))) ?_)
  | ((with_reducible show GW _ (Expr.Name (Str.ofString "_law_size") _) _ _ _ _); refine g_nm (i := 9) (N := nsLaw) scLaw.nd rfl (at_s (at_s (at_s (at_s (at_s (at_s (at_s (at_s (at_s at_z))))))))) ?_)
  | ((with_reducible show GW _ (Expr.Name (Str.ofString "_law_turn") _) _ _ _ _); refine g_nm (i := 10) (N := nsLaw) scLaw.nd rfl (at_s (at_s (at_s (at_s (at_s (at_s (at_s (at_s (at_s (at_s at_z)))))))))) ?_)
  | ((with_reducible show GW _ (Expr.Name (Str.ofString "_law_every") _) _ _ _ _); refine g_nm (i := 11) (N := nsLaw) scLaw.nd rfl (at_s (at_s (at_s (at_s (at_s (at_s (at_s (at_s (at_s (at_s (at_s at_z))))))))))) ?_)
  | ((with_reducible show GW _ (Expr.Name (Str.ofString "_law_value") _) _ _ _ _); refine g_nm (i := 12) (N := nsLaw) scLaw.nd rfl (at_s (at_s (at_s (at_s (at_s (at_s (at_s (at_s (at_s (at_s (at_s (at_s at_z)))))))))))) ?_)
  | ((with_reducible show GW _ (Expr.Name (Str.ofString "_law_one") _) _ _ _ _); refine g_nm (i := 13) (N := nsLaw) scLaw.nd rfl (at_s (at_s (at_s (at_s (at_s (at_s (at_s (at_s (at_s (at_s (at_s (at_s (at_s at_z))))))))))))) ?_))
def spLaw (K : PySem.W.Frag) : Sp := fun vs H Q _ => ∃ (a : Addr) (ns : List Int), vs = [.ref a] ∧ SqL K H a (ns.map V.int) ∧ ∀ H', Q (.bl true) H'
theorem bLaw (F : XQ P K mg cW cL cI cS cN fL fI fS fN qL qI qS qN) (S : SigC K C) (hM : ∀ d T, leftB d = some T → PySem.W.mroIn K C (.type T) = some false) (hNF : ∀ d : PyData, PySem.W.notFirst K C (.type (dty d)) = true) (SS : Sys base) (mr : mg "range" = none) (ml : mg "list" = none) (mp : mg "repr" = none) (mn : mg "len" = none) (mi : mg "int" = none) (mm : mg "min" = none)
    (MS : MkZ P w K mg base "Signature" C 3 ["self", "rows"] (spSig K C cL cI)) (MR : MethZ P w K mg base C "rows" 21 ["self"] (spRows C)) (DE : EqZ P w K mg base C 20 (spSigEq K C))
    (DP : DefZ P w K mg base "_law_purse" 21 ["_law_script", "_law_at"] (spPurse K)) (DD : DefZ P w K mg base "_law_draw" 21 ["_law_purse_here", "_law_out_of"] spDraw) (DR : DefZ P w K mg base "_law_rows" 21 ["_law_purse_here"] (spLRows K))
    (DY : DefZ P w K mg base "_law_types" 21 ["_law_rows_here", "_law_most"] (spTypesL K)) (DF : DefZ P w K mg base "_law_flat" 21 ["_law_sizes"] (spFlat K)) (DV : DefZ P w K mg base "_law_values" 21 ["_law_rows_here", "_law_kind"] (spVals K))
    (DL : DefZ P w K mg base "_law_is_type" 21 ["_law_rows_here", "_law_value"] (spLIs K)) (DX : DefZ P w K mg base "_law_refused" 21 ["_law_rows_here"] (spRefused K)) (DN : DefZ P w K mg base "_law_numbers_refused" 21 ["_law_signature"] (spNums C))
    (DI : DefZ P w K mg base "is_type" 21 ["signature", "value"] (spIsType K C cS 12)) (DT : DefZ P w K mg base "types_of" 21 ["signature", "size"] (spTypesOf K C cS cN)) : BodyZ P w K mg base nsLaw "law" sLaw f 21 (spLaw K) := by
  intro X cd A outer s H vs Q E hX hr tk hs
  subst hX
  have hu := hr.r.units
  have hu64 : (cz P w K mg base nsLaw "law" (defScope sLaw) f cd A outer s H E).A.units + 64 < cLine := hu
  have tkF : Takes (cz P w K mg base nsLaw "law" (defScope sLaw) f cd A outer s H E) (fun _ _ _ _ => False) := tk.imp fun _ _ _ _ h => h.elim
  have hr4 : RoomZ 4 (cz P w K mg base nsLaw "law" (defScope sLaw) f cd A outer s H E).A := hr.mono (by decide)
  have hr20 : RoomZ 20 (cz P w K mg base nsLaw "law" (defScope sLaw) f cd A outer s H E).A := hr.mono (by decide)
  obtain ⟨a, ns, rfl, hS, hQ⟩ := hs
  walk_at "st"
  refine s_for (i_range1 mr ?_)
  walk_at "z"
  refine ⟨4, rfl, by decide, by decide, fun i σ' H' => ∃ o1 o2 o3 o4 o5 o6 o7 o8 o9 o10 o11 o12 o13, σ' = [some (.ref a), o1, o2, o3, o4, o5, o6, o7, o8, o9, o10, o11, o12, o13] ∧ Same H H', ⟨_, _, _, _, _, _, _, _, _, _, _, _, _, rfl, Same.refl _⟩, fun _ _ _ _ _ => trivial, ?_, ?_⟩
  rotate_left
  · rintro σ' H' ⟨o1, o2, o3, o4, o5, o6, o7, o8, o9, o10, o11, o12, o13, rfl, s'⟩
    walk_at "z"
    exact hQ H'
  rintro i σ' H' x H0 hi ⟨o1, o2, o3, o4, o5, o6, o7, o8, o9, o10, o11, o12, o13, rfl, s'⟩ ⟨rfl, rfl⟩
  have hi4 : i < 4 := hi
  walk_at "tg"
  walk_at "st"
  walk_at "z1"
  refine e_call DP hr tk ?_
  walk_at "z"
  refine ⟨a, ns, _, rfl, hS.imp (fun z => z.imp (s' _ _) fun ⟨o, z⟩ => ⟨o, s' _ _ z⟩) id, by omega, by omega, fun p H1 pu s1 np => ?_⟩
  walk_at "st"
  walk_at "z1"
  refine e_call DR hr tk ?_
  walk_at "z"
  refine ⟨p, 64000, H0, rfl, pu, by decide, s1, np, fun ra G2 H2 rows xs ok g2' gp2 pu2 nra hra hrows => ?_⟩
  have g2 : Gr H0 H0 G2 H2 := Gr.uners (Gr.all s1) np g2'
  have hraH := g2.gh _ _ hra
  have hrowsH := Dq.keepAll g2.gh _ _ hrows
  walk_at "st"
  walk_at "z1"
  refine e_callT call_list_of ml (by decide +kernel) ?_
  walk_at "z"
  refine ⟨ra, xs, rfl, .inl (.inl (.inl hraH)), fun gv ngv => ?_⟩
  have S3 : Same H2 (upd H2 gv (.lst xs)) := same_upd ngv
  have hgv : (upd H2 gv (.lst xs)) gv = some (.lst xs) := upd_same
  generalize upd H2 gv (.lst xs) = H3 at S3 hgv
  have hrows3 := Dq.keepAll S3 _ _ hrowsH
  have dgv : Dq K H3 (.ref gv) (.list (rowsD rows)) := .lst (.inl hgv) hrows3
  walk_at "st"
  walk_at "z1"
  refine e_sig MS hr4 tk (EX.of dgv fun _ _ q => by walk_at "nm"; exact q) ok.sig ok.sml fun sa H4 S4 nsa hsa => ?_
  rw [rows_of] at hsa
  have dgv4 := Dq.keep S4 _ _ dgv
  have dra4 : Dq K H4 (.ref ra) (.list (rowsD rows)) := .lst (.inl (S4 _ _ (S3 _ _ hraH))) (Dq.keepAll S4 _ _ hrows3)
  walk_at "st"
  refine s_if (t_w (w_or (t_cmp (op_neQ SS hu64) ?_)))
  walk_at "z"
  refine ⟨_, _, dgv4, dra4, (shaped_rows rows ok.str).2, (shaped_rows rows ok.str).2, _, rfl, ?_⟩
  rw [ne_rows]
  refine (if_neg (by simp)).mpr ?_
  refine w_or1 (t_cmp (op_neO DE hr tkF) ?_)
  refine e_sig MS hr4 tk (EX.of dgv4 fun _ _ q => by walk_at "nm"; exact q) ok.sig ok.sml fun sb H5 S5 nsb hsb => ?_
  rw [rows_of] at hsb
  walk_at "z1"
  refine eqo S hsb (hsa.keep S5) ok.str ok.str ⟨_, rfl, ?_⟩
  refine (if_neg (by simp)).mpr ?_
  have S25 : Same H2 H5 := (S3.trans S4).trans S5
  walk_at "z"
  refine e_bm PySem.F.plainAttrs_list PySem.F.slot_list_append PySem.F.type_list_append mt_append ?_
  walk_at "z1"
  have hgv5 := S5 _ _ (S4 _ _ hgv)
  refine ⟨.inl ⟨rfl, _, .inl (.inl hgv5)⟩, ?_⟩
  walk_at "z"
  have hxl := DqAll.length hrows
  rw [List.length_map] at hxl
  have hrl := ok.len
  refine ⟨gv, xs, _, rfl, rfl, hgv5, small1000 (by omega), ?_⟩
  have hsa6 := (hsa.keep S5).updL (ys := xs ++ [V.non]) hgv5
  have S6 : Same H2 (upd H5 gv (.lst (xs ++ [V.non]))) := fun b o e => by
    rw [upd_ne (fun z => by rw [z, ngv] at e; cases e)]
    exact S25 _ _ e
  generalize upd H5 gv (.lst (xs ++ [V.non])) = H6 at hsa6 S6
  walk_at "st"
  walk_at "z1"
  refine e_meth0 MR hr tk ?_
  walk_at "z"
  obtain ⟨dx6, q1, q2, q3, j1, j2, j3, j4⟩ := id hsa6
  refine ⟨sa, dx6, _, rfl, j1, rfl, sa, rows, rfl, hsa6, fun td as H7 n7 has => ?_⟩
  have dtd : Dq K H7 (.ref td) (.list (rowsD rows)) := .lst (.inl n7.here) (Dq.keepAll n7.same _ _ (dq_rows has))
  have S7 := S6.trans n7.same
  have dra7 : Dq K H7 (.ref ra) (.list (rowsD rows)) := .lst (.inl (S7 _ _ hraH)) (Dq.keepAll S7 _ _ hrowsH)
  have hsa7 := hsa6.keep n7.same
  have exRa : ∀ {σ : St} {e : Expr} {Hx : Hp}, Same H2 Hx → (∀ H1 (Q : VK), Q (.ref ra) H1 → EW (cz P w K mg base nsLaw "law" (defScope sLaw) f cd A outer s H E) e σ H1 Q) → ELs (cz P w K mg base nsLaw "law" (defScope sLaw) f cd A outer s H E) σ Hx (rowsD rows) e := fun {σ e Hx} sx h => ELs.of (sx _ _ hraH) (Dq.keepAll sx _ _ hrowsH) h
  walk_at "st"
  refine s_if (t_w (w_or (t_cmp op_ne ?_)))
  refine e_callB (call_reprA SS hr.g hu64) mp (by decide +kernel) ?_
  walk_at "z"
  refine ⟨_, _, rfl, dtd, ok.rp.sh, ok.rp.ln, ok.rp.dp, ?_⟩
  refine e_callB (call_reprA SS hr.g hu64) mp (by decide +kernel) ?_
  walk_at "z"
  refine ⟨_, _, rfl, dra7, ok.rp.sh, ok.rp.ln, ok.rp.dp, ?_⟩
  refine ⟨rfl, _, rfl, (if_neg (by simp)).mpr ?_⟩
  refine w_or (t_cmp (op_neO DE hr tkF) ?_)
  walk_at "z1"
  refine e_sig MS hr4 tk (ELs.ex (ELs.listOf (exRa S7 fun _ _ q => by walk_at "nm"; exact q) ml)) ok.sig ok.sml fun sc H8 S8 nsc hsc => ?_
  rw [rows_of] at hsc
  refine eqo S (hsa7.keep S8) hsc ok.str ok.str ⟨_, rfl, ?_⟩
  refine (if_neg (by simp)).mpr ?_
  refine w_or1 (t_not (t_cmp (op_eqO DE hr20 tkF) ?_))
  walk_at "z1"
  refine e_sig MS hr4 tk (ELs.ex (ELs.listOf (exRa (S7.trans S8) fun _ _ q => by walk_at "nm"; exact q) ml)) ok.sig ok.sml fun sd H9 S9 nsd hsd => ?_
  rw [rows_of] at hsd
  refine eqo S ((hsa7.keep S8).keep S9) hsd ok.str ok.str ⟨_, rfl, ?_⟩
  refine (if_neg (by simp)).mpr ?_
  walk_at "z"
  refine e_bm PySem.F.plainAttrs_list PySem.F.slot_list_append PySem.F.type_list_append mt_append ?_
  walk_at "z1"
  have S9' := S8.trans S9
  have htd9 := S9' _ _ n7.here
  refine ⟨.inl ⟨rfl, _, .inl (.inl htd9)⟩, ?_⟩
  walk_at "z"
  have htl : (as.map V.ref).length < 1000 := by rw [List.length_map, Paired.length has]; omega
  refine ⟨td, _, _, rfl, rfl, htd9, small1000 (by omega), ?_⟩
  have hsaA := (hsa7.keep S9').updL (ys := as.map V.ref ++ [V.non]) htd9
  have SA : Same H2 (upd H9 td (.lst (as.map V.ref ++ [V.non]))) := fun b o e => by
    rw [upd_ne (fun z => by have h := n7.free; rw [← z, S6 _ _ e] at h; cases h)]
    exact S9' _ _ (S7 _ _ e)
  generalize upd H9 td (.lst (as.map V.ref ++ [V.non])) = HA at hsaA SA
  walk_at "z"
  refine e_sig (d := .list (rowsD rows.reverse)) MS hr4 tk ?eRev (ok.oth (by simp)).1 (ok.oth (by simp)).2.1 fun s1 HB SB ns1 hs1 => ?_
  case eRev =>
    have e : rowsD rows.reverse = (rowsD rows).reverse := List.map_reverse
    rw [e]
    exact ELs.ex (ELs.rev (exRa SA fun _ _ q => by walk_at "nm"; exact q))
  rw [rows_of] at hs1
  walk_at "z1"
  refine e_sig (d := .list (rowsD (rows.take 1))) MS hr4 tk ?eOne (ok.oth (by simp)).1 (ok.oth (by simp)).2.1 fun s2 HC SC ns2 hs2 => ?_
  case eOne =>
    have e : rowsD (rows.take 1) = (rowsD rows).take 1 := List.map_take
    rw [e]
    exact ELs.ex (ELs.to (m := 1) (exRa (SA.trans SB) fun _ _ q => by walk_at "nm"; exact q) (fun _ _ q => o_no q) (fun _ _ q => o_so (e_int ⟨_, rfl, q⟩)))
  rw [rows_of] at hs2
  walk_at "z"
  refine fun dd HD nD => ?_
  walk_at "z"
  refine ⟨szL, fun Lo HE nE => ?_⟩
  walk_at "z"
  refine e_bm PySem.F.plainAttrs_list PySem.F.slot_list_append PySem.F.type_list_append mt_append ?_
  walk_at "z1"
  refine ⟨.inl ⟨rfl, _, .inl (.inl nE.here)⟩, ?_⟩
  walk_at "z1"
  have SE : Same H2 HE := (((SA.trans SB).trans SC).trans nD.same).trans nE.same
  obtain ⟨l, bl, hlast, atl, sql⟩ := lastAt hrowsH hrl.1 hrl.2
  refine e_sig (d := .list (rowsD (lastCh rows))) MS hr4 tk ?eLast (ok.oth (by simp)).1 (ok.oth (by simp)).2.1 fun s3 HF SF ns3 hs3 => ?_
  case eLast =>
    have e : rowsD (lastCh rows) = cutD (rowsD rows) none (some (-1)) ++ [.tuple [.str l.1, .int ((l.2 + 1) % 3)]] := by
      rw [cutLast _ (by rw [List.length_map]; omega), lastCh, hlast]
      simp [rowsD, List.map_dropLast]
    rw [e]
    refine ELs.ex (ELs.cat (ELs.sl (l := none) (u := some (-1)) (exRa SE fun _ _ q => by walk_at "nm"; exact q) (fun _ _ q => o_no q) (fun _ _ q => o_so (e_un un_neg (e_int ⟨_, rfl, _, rfl, q⟩)))) (ELs.disp (AX.cons (EX.tup (AX.cons ?x0 (AX.cons ?x1 AX.nil))) AX.nil)) ?xl)
    case xl =>
      rw [cutLast _ (by rw [List.length_map]; omega), List.length_dropLast, List.length_map]
      simp
      omega
    case x0 =>
      constructor
      intro G1 H1 Q k1 k2 q
      refine e_ix ix_tup ?_
      refine e_ix ix_list ?_
      walk_at "z1"
      refine e_un un_neg ?_
      walk_at "z"
      refine ⟨_, rfl, ra, xs, -1, _, rfl, rfl, .inl (.inl (k2 _ _ (k1 _ _ (SE _ _ hraH)))), atl, ?_⟩
      walk_at "z"
      exact ⟨bl, _, _, _, rfl, rfl, SqT.same sql ((SE.trans k1).trans k2), at_head, q _ G1 H1 (.refl k2) (.str _)⟩
    case x1 =>
      constructor
      intro G1 H1 Q k1 k2 q
      refine e_op op_mod ?_
      refine e_callT call_int1 mi (by decide +kernel) ?_
      walk_at "z1"
      refine e_op z_add ?_
      refine e_ix ix_tup ?_
      refine e_ix ix_list ?_
      walk_at "z1"
      refine e_un un_neg ?_
      walk_at "z"
      refine ⟨_, rfl, ra, xs, -1, _, rfl, rfl, .inl (.inl (k2 _ _ (k1 _ _ (SE _ _ hraH)))), atl, ?_⟩
      walk_at "z"
      refine ⟨bl, _, 1, _, rfl, rfl, SqT.same sql ((SE.trans k1).trans k2), rfl, ?_⟩
      walk_at "z"
      refine .inl ⟨_, rfl, ?_⟩
      walk_at "z"
      exact q _ G1 H1 (.refl k2) (.int _)
  rw [rows_of] at hs3
  walk_at "z"
  have hLo := SF _ _ nE.here
  refine ⟨Lo, _, _, rfl, rfl, hLo, small1000 (by simp), ?_⟩
  have hLo2 : H2 Lo = none := (((SA.trans SB).trans SC).trans nD.same).free nE.free
  have SEF : Same H2 HF := SE.trans SF
  have SG : Same H2 (upd HF Lo (.lst ([.ref s1, .ref s2, .non, .int 0, .ref ra, .str "signature", .ref dd] ++ [.ref s3]))) := fun b o e => by
    rw [upd_ne (fun z => by rw [z, hLo2] at e; cases e)]
    exact SEF _ _ e
  have SBE : Same HB HE := (SC.trans nD.same).trans nE.same
  have SCE : Same HC HE := nD.same.trans nE.same
  have hsaG := (((hsaA.keep SB).keep SBE).keep SF).updL (ys := [.ref s1, .ref s2, .non, .int 0, .ref ra, .str "signature", .ref dd] ++ [.ref s3]) hLo
  have hs1G := ((hs1.keep SBE).keep SF).updL (ys := [.ref s1, .ref s2, .non, .int 0, .ref ra, .str "signature", .ref dd] ++ [.ref s3]) hLo
  have hs2G := ((hs2.keep SCE).keep SF).updL (ys := [.ref s1, .ref s2, .non, .int 0, .ref ra, .str "signature", .ref dd] ++ [.ref s3]) hLo
  have hs3G := hs3.updL (ys := [.ref s1, .ref s2, .non, .int 0, .ref ra, .str "signature", .ref dd] ++ [.ref s3]) hLo
  have hddG : (upd HF Lo (.lst ([.ref s1, .ref s2, .non, .int 0, .ref ra, .str "signature", .ref dd] ++ [.ref s3]))) dd = some (.dK []) := by
    rw [upd_ne (fun z => by have h := nE.free; rw [← z, nD.here] at h; cases h)]
    exact SF _ _ (nE.same _ _ nD.here)
  have hLoG : (upd HF Lo (.lst ([.ref s1, .ref s2, .non, .int 0, .ref ra, .str "signature", .ref dd] ++ [.ref s3]))) Lo = some (.lst ([.ref s1, .ref s2, .non, .int 0, .ref ra, .str "signature", .ref dd] ++ [.ref s3])) := upd_same
  generalize upd HF Lo (.lst ([.ref s1, .ref s2, .non, .int 0, .ref ra, .str "signature", .ref dd] ++ [.ref s3])) = HG at SG hsaG hs1G hs2G hs3G hddG hLoG
  have draG : Dq K HG (.ref ra) (.list (rowsD rows)) := .lst (.inl (SG _ _ hraH)) (Dq.keepAll SG _ _ hrowsH)
  have each : ∀ x ∈ ([.ref s1, .ref s2, .non, .int 0, .ref ra, .str "signature", .ref dd] ++ [.ref s3] : List V), (∃ b r, x = .ref b ∧ SigAt C HG b r ∧ StrOk r ∧ rows ≠ r) ∨ ∃ d T, Dq K HG x d ∧ leftB d = some T := by
    intro x hx
    simp only [List.cons_append, List.nil_append, List.mem_cons, List.not_mem_nil, or_false] at hx
    rcases hx with rfl | rfl | rfl | rfl | rfl | rfl | rfl | rfl
    · exact .inl ⟨s1, _, rfl, hs1G, (ok.oth (by simp)).2.2.1, (ok.oth (by simp)).2.2.2⟩
    · exact .inl ⟨s2, _, rfl, hs2G, (ok.oth (by simp)).2.2.1, (ok.oth (by simp)).2.2.2⟩
    · exact .inr ⟨_, _, .non, rfl⟩
    · exact .inr ⟨_, _, .int 0, rfl⟩
    · exact .inr ⟨_, _, draG, rfl⟩
    · exact .inr ⟨_, _, .str _, rfl⟩
    · exact .inr ⟨_, _, .dct (.inl hddG) .nil, rfl⟩
    · exact .inl ⟨s3, _, rfl, hs3G, (ok.oth (by simp)).2.2.1, (ok.oth (by simp)).2.2.2⟩
  have hu0 : (cz P w K mg base nsLaw "law" (defScope sLaw) f cd A outer s H E).A.units < cLine := by omega
  walk_at "z"
  refine t_cmp (op_neE hu0) ?_
  refine e_lcN (own := [("_law_one", 13)]) scLaw.nd (show blkC nsLaw (defScope sLaw) _ _ = true by decide +kernel) (i_list ?_)
  walk_at "z1"
  refine ⟨Lo, _, rfl, .inl (.inl hLoG), HG, fun i acc _ => acc = [], Same.refl _, szL, rfl, fun i acc G5 H5 _ g5 _ => .inl (.inl (g5.hh _ _ hLoG)), ?_, ?_⟩
  · rintro i acc G5 H5 x H6 hi hl g5 pv ⟨rfl, ex⟩ X' ⟨s', Hs, Cc, cl, fp, rfl⟩
    have hx := each x (List.mem_of_getElem? ex)
    walk_at "tg"
    refine ⟨rfl, ?_⟩
    rintro X' ⟨s', Hs, Cc, cl, fp, rfl⟩
    refine (show TW _ _ _ _ _ from ?_)
    have hsa5 := hsaG.keep g5.hh
    rcases hx with ⟨b, r, rfl, hb, sb2, nr⟩ | ⟨d, T, hd, hT⟩
    · have hb5 := hb.keep g5.hh
      refine t_w (w_or (t_cmp (op_eqO DE hr20 takes0) ?_))
      walk_at "z"
      refine eqo S hsa5 hb5 ok.str sb2 ⟨_, rfl, (if_neg (by simp [nr])).mpr ?_⟩
      refine w_or (t_cmp (op_eqO DE hr20 takes0) ?_)
      walk_at "z"
      refine eqo S hb5 hsa5 sb2 ok.str ⟨_, rfl, (if_neg (by simp [Ne.symm nr])).mpr ?_⟩
      refine w_or1 (t_not (t_cmp (op_neO DE hr takes0) ?_))
      walk_at "z"
      refine eqo S hsa5 hb5 ok.str sb2 ⟨_, rfl, (if_neg (by simp [nr])).mpr ?_⟩
      exact ⟨_, .refl g5.gh, pv⟩
    · have hd5 := Dq.keep g5.hh _ _ hd
      refine t_w (w_or (t_cmp (op_eqO DE hr20 takes0) ?_))
      walk_at "z"
      refine eqd hNF hsa5 hd5 ⟨_, rfl, (if_neg (by simp)).mpr ?_⟩
      refine w_or (t_cmp (op_eqB SS DE hr20 takes0) ?_)
      walk_at "z"
      refine eqb hT (hM _ _ hT) hsa5 hd5 ⟨_, rfl, (if_neg (by simp)).mpr ?_⟩
      refine w_or1 (t_not (t_cmp (op_neO DE hr takes0) ?_))
      walk_at "z"
      refine eqd hNF hsa5 hd5 ⟨_, rfl, (if_neg (by simp)).mpr ?_⟩
      exact ⟨_, .refl g5.gh, pv⟩
  · intro L acc G2' G5 H5 hl _ g5 pv sG' hL hG
    walk_at "z"
    refine ⟨szL, fun q2 H6 n6 => ?_⟩
    subst pv
    refine ⟨L, q2, [], [], rfl, rfl, .inl ⟨.inl (.inl (n6.same _ _ (g5.gh _ _ hG))), .inl (.inl n6.here)⟩, .inr rfl, _, rfl, ?_⟩
    refine (if_neg (by simp)).mpr ?_
    have SH : Same HG H6 := g5.hh.trans n6.same
    walk_at "z"
    have S26 : Same H2 H6 := SG.trans SH
    refine e_call DY hr tk ?_
    walk_at "z"
    refine ⟨ra, 200, G2, rows, xs, rfl, g2.gh.trans S26, ok, hra, hrows, by decide, fun k Ls G7 H7 ls k1 k6 g7 nLs hLs hT => ?_⟩
    walk_at "st"
    refine s_for (i_range2 mr ?_)
    walk_at "z"
    refine e_callB (call_min2 rfl) mm (by decide +kernel) ?_
    walk_at "z"
    refine e_callB call_len_seq mn PySem.boot_len ?_
    walk_at "z"
    refine ⟨_, _, rfl, .inl (.inl (.inl (g7.gh _ _ hLs))), ?_⟩
    walk_at "z"
    refine ⟨_, _, rfl, ?_⟩
    have hll : ls.length = k + 1 := (Paired.length hT).trans (tySizes_len rows k)
    rw [List.length_map, hll]
    walk_at "z"
    have pu7 : Pu H7 p 64100 := pu2.of (fun o e => g7.hh _ _ (S26 _ _ e)) (Nat.le_refl _)
    have gp7 : G7 p = none := g7.nw p gp2 (by obtain ⟨_, _, _, e, _⟩ := pu2; rw [S26 _ _ e]; simp)
    have hp7 : ∃ zs, H7 p = some (.lst zs) := by obtain ⟨_, _, _, e, _⟩ := pu7; exact ⟨_, e⟩
    refine ⟨1, _, rfl, ⟨by decide, by decide, by split <;> omega, by split <;> omega⟩, fun i σ' H' => ∃ t1 t6 t9 t10 t11 t12 t13, σ' = [some (.ref a), t1, some (.ref p), some (.ref ra), some (.ref gv), some (.ref sa), t6, some (.ref Lo), some (.ref Ls), t9, t10, t11, t12, t13] ∧ Same H7 H', ⟨_, _, _, _, _, _, _, rfl, Same.refl _⟩, fun _ _ _ _ _ => trivial, ?_, ?_⟩
    · rintro j σ' H' x H8 hj ⟨t1, t6, t9, t10, t11, t12, t13, rfl, s7⟩ ⟨rfl, rfl⟩
      have hj5 : j < 5 ∧ j < k := by split at hj <;> omega
      obtain ⟨l, xl, el, hxl2, hdl⟩ := hT.at (i := j + 1) (by rw [tySizes_len]; omega)
      have rp := ok.rpTy (n := j + 1) (by omega)
      rw [tySizes_pre rows (by omega)] at hdl
      walk_at "tg"
      walk_at "st"
      refine s_for (i_range1 mr ?_)
      walk_at "z"
      refine ⟨2, rfl, by decide, by decide, fun _ σ'' H'' => ∃ t6 t10, σ'' = [some (.ref a), t1, some (.ref p), some (.ref ra), some (.ref gv), some (.ref sa), t6, some (.ref Lo), some (.ref Ls), some (.int (1 + j)), t10, t11, t12, t13] ∧ Same H7 H'', ⟨_, _, rfl, s7⟩, fun _ _ _ _ _ => trivial, ?_, ?_⟩
      · rintro _ σ'' H'' x H9 _ ⟨t6, t10, rfl, s8⟩ ⟨rfl, rfl⟩
        walk_at "tg"
        walk_at "st"
        walk_at "z1"
        refine e_call DT hr tk ?_
        walk_at "z"
        have hsa8 := ((hsaG.keep SH).keep g7.hh).keep s8
        refine ⟨.ref sa, _, rfl, .inl ⟨sa, rows, _, rfl, hsa8, .int _, fun h => ?_, fun n en hn1 => ?_⟩⟩
        · simp [badSize] at h
          omega
        obtain rfl : n = j + 1 := by
          have : (1 + (j : Int)) = n := PyData.int.inj en
          omega
        refine ⟨by omega, ok.sz (by omega), fun G p' xs' HA' sg nA hxs => ?_⟩
        have SA9 : Same H7 HA' := s8.trans (sg.trans nA.same)
        walk_at "st"
        refine s_if (t_cmp op_ne ?_)
        refine e_callB (call_reprA SS hr.g hu64) mp (by decide +kernel) ?_
        walk_at "z"
        refine ⟨_, _, rfl, .lst (.inl nA.here) (Dq.keepAll (nA.same) _ _ hxs), rp.sh, rp.ln, rp.dp, ?_⟩
        refine e_callB (call_reprA SS hr.g hu64) mp (by decide +kernel) ?_
        walk_at "z1"
        refine e_ix ix_list ?_
        walk_at "z"
        refine ⟨Ls, _, (1 + (j : Int)), .ref l, rfl, rfl, .inl (.inl (SA9 _ _ (g7.gh _ _ hLs))), by rw [show (1 + (j : Int)) = ((j + 1 : Nat) : Int) by omega, atI_nat]; simp [el], ?_⟩
        walk_at "z"
        refine ⟨_, _, rfl, .lst (.inl (SA9 _ _ (g7.gh _ _ hxl2))) (Dq.keepAll (g7.gh.trans SA9) _ _ hdl), rp.sh, rp.ln, rp.dp, ?_⟩
        refine ⟨rfl, _, rfl, (if_neg (by simp)).mpr ?_⟩
        walk_at "z"
        refine e_bm PySem.F.plainAttrs_list PySem.F.slot_list_append PySem.F.type_list_append mt_append ?_
        walk_at "z1"
        refine ⟨.inl ⟨rfl, _, .inl (.inl nA.here)⟩, ?_⟩
        walk_at "z"
        have hxsl := dqLen hxs
        have := ok.capD (n := j + 1) (by omega)
        refine ⟨p', xs', _, rfl, rfl, nA.here, small1000 (by omega), ?_⟩
        exact ⟨_, _, rfl, fun b o e => by rw [upd_ne (fun z => by have h := nA.free; rw [← z, sg _ _ (s8 _ _ e)] at h; cases h)]; exact SA9 _ _ e⟩
      · rintro σ'' H'' ⟨t6, t10, rfl, s8⟩
        refine b_nil ?_
        exact ⟨_, _, _, _, _, _, _, rfl, s8⟩
    rintro σ' H' ⟨t1, t6, t9, t10, t11, t12, t13, rfl, s7⟩
    walk_at "st"
    walk_at "z1"
    refine e_call DF hr tk ?_
    walk_at "z"
    have hfl := ok.flatLen k6
    refine ⟨Ls, G7, ls, _, rfl, g7.gh.trans s7, hLs, hT, Nat.lt_of_le_of_lt hfl (by decide), fun ev G8 H8 es g8 nev hev hes => ?_⟩
    obtain ⟨zs7, hp7⟩ := hp7
    have hp8 : H8 p = some (.lst zs7) := g8.hh _ _ (s7 _ _ hp7)
    have gp8 : G8 p = none := g8.nw p gp7 (by rw [s7 _ _ hp7]; simp)
    have S78 : Same H7 H8 := s7.trans g8.hh
    have pu8 : Pu H8 p 64100 := pu7.of (fun o e => S78 _ _ e) (Nat.le_refl _)
    have sge : Same G8 (ers H8 p) := fun b o e => by rw [ers_ne (fun z => by rw [z, gp8] at e; cases e)]; exact g8.gh _ _ e
    have G28 : Same G2 G8 := g7.gg.trans g8.gg
    have raE := (G28.trans sge) _ _ hra
    have rowsE := Dq.keepAll (G28.trans sge) _ _ hrows
    have evE := sge _ _ hev
    have esE := Dq.keepAll sge _ _ hes
    have saE : SigAt C (ers H8 p) sa rows := (((hsaG.keep SH).keep g7.hh).keep S78).ers hp8
    have S08 : Same H0 (ers H8 p) := fun b o e => by
      rw [ers_ne (fun z => by rw [z, np] at e; cases e)]
      exact S78 _ _ (g7.hh _ _ (S26 _ _ (g2.hh _ _ e)))
    have pu8e : ∃ H, H = ers H8 p := ⟨_, rfl⟩
    obtain ⟨HE8, eHE⟩ := pu8e
    have sub8 : Same HE8 H8 := by
      rw [eHE]
      intro b o e
      unfold ers at e
      split at e
      · cases e
      · exact e
    have he0 : HE8 p = none := by rw [eHE]; exact ers_self
    rw [← eHE] at raE rowsE evE esE saE S08
    have hlen := dqLen hes
    have hev0 := ok.every0 k1 k6
    walk_at "st"
    refine s_for (i_range1 mr ?_)
    walk_at "z"
    refine ⟨6, rfl, by decide, by decide, fun i σ' H' => ∃ t6 t10 t12, σ' = [some (.ref a), t1, some (.ref p), some (.ref ra), some (.ref gv), some (.ref sa), t6, some (.ref Lo), some (.ref Ls), t9, t10, some (.ref ev), t12, t13] ∧ Same HE8 H' ∧ Pu H' p (64100 + 10 * i), ⟨_, _, _, rfl, sub8, pu8⟩, fun _ _ _ _ _ => trivial, ?_, ?_⟩
    · rintro j σ' H' x HB' hj ⟨t6, t10, t12, rfl, s8, pu⟩ ⟨rfl, rfl⟩
      have hj6 : j < 6 := hj
      walk_at "tg"
      walk_at "st"
      refine s_for (i_list ?_)
      refine e_call DV hr tk ?_
      walk_at "z"
      refine e_ix ix_list ?_
      walk_at "z"
      refine e_call DD hr tk ?_
      walk_at "z"
      refine e_callB call_len_seq mn PySem.boot_len ?_
      walk_at "z"
      refine ⟨_, _, rfl, .inl (.inl (.inl (s8 _ _ evE))), ?_⟩
      walk_at "z"
      refine ⟨p, _, _, rfl, pu, by omega, by omega, by omega, fun r o r0 r1 pu' => ?_⟩
      have sB : Same HE8 (upd HB' p o) := fun b o' e => by rw [upd_ne (fun z => by rw [z, he0] at e; cases e)]; exact s8 _ _ e
      generalize upd HB' p o = HB at pu' sB
      obtain ⟨n, rfl⟩ : ∃ n : Nat, r = n := ⟨r.toNat, by omega⟩
      have hn : n < es.length := by omega
      obtain ⟨v, ev'⟩ := lt_some hn
      obtain ⟨d, ed, hd⟩ := DqAll.get esE ev'
      have evty := ok.every k6 d (List.mem_of_getElem? ed)
      obtain ⟨b, z, zs, rfl, sq, va, hz, hzl⟩ := evty.vals (Dq.keep sB _ _ hd)
      refine ⟨ev, es, n, .ref b, rfl, rfl, .inl (.inl (sB _ _ evE)), by rw [atI_nat]; exact ev', ?_⟩
      walk_at "z"
      refine ⟨ra, b, rows, xs, z, zs, rfl, ok, sB _ _ raE, Dq.keepAll sB _ _ rowsE, sq, va, hz, hzl, fun L HC' s9 hFS => ?_⟩
      obtain ⟨fs, hL, hfl', hfs⟩ := hFS
      have sC := sB.trans s9
      have puC : Pu HC' p (64100 + 10 * (j + 1)) := pu'.of (fun o e => s9 _ _ e) (by omega)
      refine ⟨L, fs, rfl, .inl (.inl hL), fun i σ'' H'' => ∃ t12, σ'' = [some (.ref a), t1, some (.ref p), some (.ref ra), some (.ref gv), some (.ref sa), t6, some (.ref Lo), some (.ref Ls), t9, some (.int j), some (.ref ev), t12, t13] ∧ Same HC' H'', ⟨_, rfl, Same.refl _⟩, fun i σ'' H'' _ ⟨_, _, s⟩ => .inl (.inl (s _ _ hL)), ?_, ?_⟩
      · rintro i σ'' H'' x HD' hi ⟨t12, rfl, sD⟩ ⟨rfl, ex⟩
        obtain ⟨d, hd, bd⟩ := hfs x (List.mem_of_getElem? ex)
        have hd := Dq.keep sD _ _ hd
        have sml : Sml d := Nat.le_trans bd.wt (by decide)
        walk_at "tg"
        walk_at "z"
        refine t_cmp op_ne ?_
        refine e_callB (call_reprA SS hr.g hu64) mp (by decide +kernel) ?_
        walk_at "z1"
        refine e_call DI hr tk ?_
        walk_at "z"
        refine ⟨.ref sa, x, rfl, .inl ⟨sa, rows, d, rfl, saE.keep (sC.trans sD), hd, bd.dp, sml, fun HF sF => ?_⟩⟩
        walk_at "z"
        have rpb := rpBool (dFits rows d)
        refine ⟨_, _, rfl, .bl _, rpb.sh, rpb.ln, rpb.dp, ?_⟩
        refine e_callB (call_reprA SS hr.g hu64) mp (by decide +kernel) ?_
        walk_at "z1"
        refine e_call DL hr tk ?_
        walk_at "z"
        refine ⟨ra, x, rows, xs, d, rfl, ok, (sC.trans sD).trans sF _ _ raE, Dq.keepAll ((sC.trans sD).trans sF) _ _ rowsE, Dq.keep sF _ _ hd, sml, fun HG' sG' => ?_⟩
        walk_at "z"
        refine ⟨_, _, rfl, .bl _, rpb.sh, rpb.ln, rpb.dp, ?_⟩
        refine ⟨rfl, _, rfl, (if_neg (by simp)).mpr ?_⟩
        walk_at "z"
        exact ⟨_, rfl, (sD.trans sF).trans sG'⟩
      · rintro σ'' H'' ⟨t12, rfl, sD⟩
        refine b_nil ?_
        exact ⟨_, _, _, rfl, sC.trans sD, puC.of (fun o e => sD _ _ e) (Nat.le_refl _)⟩
    rintro σ' H' ⟨t6, t10, t12, rfl, s8, pu⟩
    walk_at "st"
    refine s_if (t_w (w_or (t_cmp op_ne ?_)))
    refine e_callB (call_reprA SS hr.g hu64) mp (by decide +kernel) ?_
    walk_at "z1"
    refine e_meth0 MR hr tk ?_
    walk_at "z"
    have saF := saE.keep s8
    obtain ⟨dxf, _, _, _, jf, _⟩ := id saF
    refine ⟨sa, dxf, _, rfl, jf, rfl, sa, rows, rfl, saF, fun tf asf HF nF hasf => ?_⟩
    walk_at "z"
    refine ⟨_, _, rfl, .lst (.inl nF.here) (Dq.keepAll nF.same _ _ (dq_rows hasf)), ok.rp.sh, ok.rp.ln, ok.rp.dp, ?_⟩
    refine e_callB (call_reprA SS hr.g hu64) mp (by decide +kernel) ?_
    walk_at "z"
    have sF := s8.trans nF.same
    refine ⟨_, _, rfl, .lst (.inl (sF _ _ raE)) (Dq.keepAll sF _ _ rowsE), ok.rp.sh, ok.rp.ln, ok.rp.dp, ?_⟩
    refine ⟨rfl, _, rfl, (if_neg (by simp)).mpr ?_⟩
    refine w_or (t_not (t_val (e_call DX hr tk ?_)))
    walk_at "z"
    refine ⟨ra, rows, xs, rfl, ok, sF _ _ raE, Dq.keepAll sF _ _ rowsE, fun HG' sG' => ⟨_, rfl, (if_neg (by simp)).mpr ?_⟩⟩
    refine w_or1 (t_not (t_val (e_call DN hr tk ?_)))
    walk_at "z"
    refine ⟨sa, rows, rfl, saE.keep (sF.trans sG'), fun HK sK => ⟨_, rfl, (if_neg (by simp)).mpr ?_⟩⟩
    walk_at "z"
    exact ⟨_, _, _, _, _, _, _, _, _, _, _, _, _, rfl, s'.trans (S08.trans ((sF.trans sG').trans sK))⟩
end
end L2.Z.Law

set_option maxHeartbeats 0
namespace L2.Z.Law
open PySem PySem.Spec PyProof.Rows PySem.ZX
abbrev q0 : DefQ := ⟨("InvalidNumber", some "__init__"), "__init__", "InvalidNumber.__init__", clsDef (topS 2) 0, [.non], ["__class__"]⟩
abbrev q1 : DefQ := ⟨("InvalidList", some "__init__"), "__init__", "InvalidList.__init__", clsDef (topS 3) 0, [.non], ["__class__"]⟩
abbrev q2 : DefQ := ⟨("InvalidItem", some "__init__"), "__init__", "InvalidItem.__init__", clsDef (topS 4) 0, [.non], ["__class__"]⟩
abbrev q3 : DefQ := ⟨("InvalidSignature", some "__init__"), "__init__", "InvalidSignature.__init__", clsDef (topS 5) 0, [.non], ["__class__"]⟩
abbrev q4 : DefQ := ⟨("is_whole", none), "is_whole", "is_whole", sWhole, [], []⟩
abbrev q5 : DefQ := ⟨("is_name", none), "is_name", "is_name", sName, [], []⟩
abbrev q6 : DefQ := ⟨("is_row", none), "is_row", "is_row", sRow, [], []⟩
abbrev q7 : DefQ := ⟨("Signature", some "__init__"), "__init__", "Signature.__init__", sSigInit, [], []⟩
abbrev q8 : DefQ := ⟨("Signature", some "rows"), "rows", "Signature.rows", sSigRows, [], []⟩
abbrev q9 : DefQ := ⟨("Signature", some "__eq__"), "__eq__", "Signature.__eq__", sSigEq, [], []⟩
abbrev q10 : DefQ := ⟨("check_signature", none), "check_signature", "check_signature", sCheckSig, [], []⟩
abbrev q11 : DefQ := ⟨("is_built", none), "is_built", "is_built", sBuilt, [], []⟩
abbrev q12 : DefQ := ⟨("fits_type", none), "fits_type", "fits_type", sFits, [], []⟩
abbrev q13 : DefQ := ⟨("is_type", none), "is_type", "is_type", sIsType, [], []⟩
abbrev q14 : DefQ := ⟨("types_of", none), "types_of", "types_of", sTypesOf, [], []⟩
abbrev q15 : DefQ := ⟨("_law_mixed", none), "_law_mixed", "_law_mixed", sMixed, [], []⟩
abbrev q16 : DefQ := ⟨("_law_purse", none), "_law_purse", "_law_purse", sPurse, [], []⟩
abbrev q17 : DefQ := ⟨("_law_draw", none), "_law_draw", "_law_draw", sDraw, [], []⟩
abbrev q18 : DefQ := ⟨("_law_rows", none), "_law_rows", "_law_rows", sLRows, [], []⟩
abbrev q19 : DefQ := ⟨("_law_flat", none), "_law_flat", "_law_flat", sFlat, [], []⟩
abbrev q20 : DefQ := ⟨("_law_types", none), "_law_types", "_law_types", sTypes, [], []⟩
abbrev q21 : DefQ := ⟨("_law_is_type", none), "_law_is_type", "_law_is_type", sLIs, [], []⟩
abbrev q22 : DefQ := ⟨("_law_values", none), "_law_values", "_law_values", sVals, [], []⟩
abbrev q23 : DefQ := ⟨("_law_caught", none), "_law_caught", "_law_caught", sCaught, [], []⟩
abbrev q24 : DefQ := ⟨("_law_refused", none), "_law_refused", "_law_refused", sRefused, [], []⟩
abbrev q25 : DefQ := ⟨("_law_numbers_refused", none), "_law_numbers_refused", "_law_numbers_refused", sNums, [], []⟩
abbrev q26 : DefQ := ⟨("law", none), "law", "law", sLaw, [], []⟩
def fns : List DefQ := [q0, q1, q2, q3, q4, q5, q6, q7, q8, q9, q10, q11, q12, q13, q14, q15, q16, q17, q18, q19, q20, q21, q22, q23, q24, q25, q26]
def facts : List Fact := [fSys, fFree ["max", "sum", "range", "isinstance", "repr", "list", "int", "bool", "str", "tuple", "len", "sorted", "min"], fGlo "WoodError", fGlo "is_whole", fGlo "is_name", fGlo "is_row", fGlo "check_signature", fGlo "is_built", fGlo "fits_type", fGlo "is_type", fGlo "types_of", fGlo "_law_mixed", fGlo "_law_purse", fGlo "_law_draw", fGlo "_law_rows", fGlo "_law_flat", fGlo "_law_types", fGlo "_law_is_type", fGlo "_law_values", fGlo "_law_caught", fGlo "_law_refused", fGlo "_law_numbers_refused", fGlo "law", fExc "InvalidNumber" "value" "/claim/cut.py", fExB "InvalidNumber", fExc "InvalidList" "value" "/claim/cut.py", fExB "InvalidList", fExc "InvalidItem" "value" "/claim/cut.py", fExB "InvalidItem", fExc "InvalidSignature" "value" "/claim/cut.py", fExB "InvalidSignature", fInt "MOST_LETTERS" 8, fInt "MOST_ROWS" 5, fInt "MOST_PARTS" 2, fStr "LETTERS" "abcdefghijklmnopqrstuvwxyz", fCls "Signature" ["arities", "table"], fMake "Signature", fEq "Signature", fMeth "Signature" "rows", fKit [("InvalidList", "InvalidList", true), ("InvalidList", "InvalidItem", false), ("InvalidItem", "InvalidList", false), ("InvalidItem", "InvalidItem", true)], fExm [("InvalidList", "WoodError", true), ("InvalidItem", "WoodError", true), ("InvalidSignature", "InvalidSignature", true), ("InvalidNumber", "InvalidNumber", true)]]
abbrev R : PySem.W.OpenRow := PySem.W.OpenLaw.row PySem.Challenge.rw_instancewoods_k10_types_of_signatures
abbrev hk : PySem.W.Hook := hookQ 5 facts fns
def ob (s : PySem.W.SharedT) : AlQ := obsQG 5 facts fns (HandSHeadRun.getT s)
theorem ob_eq (s : PySem.W.SharedT) : ob s = hk.obs s.abs := obsQG_eq (HandSHeadRun.getT_eq s)
theorem run (w : World) : HandSHeadRun.RunEq R (PySem.W.view R.prog [32]) hk ob 6000 ["WoodError", "InvalidNumber", "InvalidList", "InvalidItem", "InvalidSignature", "LETTERS", "MOST_LETTERS", "MOST_ROWS", "MOST_PARTS", "is_whole", "is_name", "is_row", "Signature", "check_signature", "is_built", "fits_type", "is_type", "types_of", "_law_mixed", "_law_purse", "_law_draw", "_law_rows", "_law_flat", "_law_types", "_law_is_type", "_law_values", "_law_caught", "_law_refused", "_law_numbers_refused"] w := by
  intro os
  kernel_rfl
end L2.Z.Law

set_option maxHeartbeats 0
namespace L2.Z.Law
open PySem PySem.Spec PyProof.Rows PySem.ZX
local macro_rules | `(tactic| walk_at "len") => `(tactic| (intro vs H Q E h; first | (obtain ⟨e, _⟩ := h; subst e; rfl) | (obtain ⟨_, e, _⟩ := h; subst e; rfl) | (obtain ⟨_, _, e, _⟩ := h; subst e; rfl) | (obtain ⟨_, _, _, e, _⟩ := h; subst e; rfl) | (obtain ⟨_, _, _, _, e, _⟩ := h; subst e; rfl) | (obtain ⟨_, _, _, _, _, e, _⟩ := h; subst e; rfl) | (obtain ⟨_, _, _, _, _, _, e, _⟩ := h; subst e; rfl) | (obtain ⟨_, _, _, _, _, _, _, e, _⟩ := h; subst e; rfl) | (obtain ⟨_, _, _, _, _, _, _, _, e, _⟩ := h; subst e; rfl) | (obtain ⟨_, _, _, _, _, _, _, _, _, e, _⟩ := h; subst e; rfl)))
theorem law_fn {w : World} {K : PySem.W.Frag} {h : Heap} {mg : Str → Option Value} (X : K.In h) (G : h.Ns mainGlobals mg) (c : SaysQ facts fns K) :
    ∃ fd : FuncData, mg "law" = some (.ref (He.ga K "law")) ∧ (∀ (s : Shared) (u : Value), BindsTo s fd ⟨[u], []⟩ [("_law_script", u)]) ∧ ∀ base : Heap, K.In base → base.Ns mainGlobals mg → FnZ PW w K mg base 22 (He.ga K "law") fd ["_law_script"] (spLaw K) := by
  have fr : ∀ x ∈ [Str.ofString "max", "sum", "range", "isinstance", "repr", "list", "int", "bool", "str", "tuple", "len", "sorted", "min"], mg x = none := fun x hx => fFree_ok X G (c.fact 1) hx
  obtain ⟨_, FInvalidNumber⟩ := c.def_ 0 (d := q0) rfl
  have TInvalidNumber := fExc.ok (P := PW) (c.fact 23 (f := fExc "InvalidNumber" "value" "/claim/cut.py")) (c.fact 24 (f := fExB "InvalidNumber")) FInvalidNumber rfl rfl rfl rfl (.inl rfl) rfl rfl rfl rfl (by decide +kernel) rfl X G
  obtain ⟨_, FInvalidList⟩ := c.def_ 1 (d := q1) rfl
  have TInvalidList := fExc.ok (P := PW) (c.fact 25 (f := fExc "InvalidList" "value" "/claim/cut.py")) (c.fact 26 (f := fExB "InvalidList")) FInvalidList rfl rfl rfl rfl (.inl rfl) rfl rfl rfl rfl (by decide +kernel) rfl X G
  obtain ⟨_, FInvalidItem⟩ := c.def_ 2 (d := q2) rfl
  have TInvalidItem := fExc.ok (P := PW) (c.fact 27 (f := fExc "InvalidItem" "value" "/claim/cut.py")) (c.fact 28 (f := fExB "InvalidItem")) FInvalidItem rfl rfl rfl rfl (.inl rfl) rfl rfl rfl rfl (by decide +kernel) rfl X G
  obtain ⟨_, FInvalidSignature⟩ := c.def_ 3 (d := q3) rfl
  have TInvalidSignature := fExc.ok (P := PW) (c.fact 29 (f := fExc "InvalidSignature" "value" "/claim/cut.py")) (c.fact 30 (f := fExB "InvalidSignature")) FInvalidSignature rfl rfl rfl rfl (.inl rfl) rfl rfl rfl rfl (by decide +kernel) rfl X G
  have gWoodError := fGlo_ok X G (c.fact 2 (f := fGlo "WoodError"))
  have kMOST_LETTERS := fInt.ok X G (c.fact 31 (f := fInt "MOST_LETTERS" 8))
  have kMOST_ROWS := fInt.ok X G (c.fact 32 (f := fInt "MOST_ROWS" 5))
  have kMOST_PARTS := fInt.ok X G (c.fact 33 (f := fInt "MOST_PARTS" 2))
  have kLETTERS := fStr.ok X G (c.fact 34 (f := fStr "LETTERS" "abcdefghijklmnopqrstuvwxyz"))
  obtain ⟨gSignature, cSignature⟩ := fCls.ok X G (c.fact 35 (f := fCls "Signature" ["arities", "table"]))
  have kit : ∀ a b r, (a, b, r) ∈ _ → _ := fun a b r => fKit.ok (c.fact 39 (f := fKit [("InvalidList", "InvalidList", true), ("InvalidList", "InvalidItem", false), ("InvalidItem", "InvalidList", false), ("InvalidItem", "InvalidItem", true)])) (a := a) (b := b) (r := r)
  have exm : ∀ a b r, (a, b, r) ∈ _ → _ := fun a b r => fExm.ok (c.fact 40 (f := fExm [("InvalidList", "WoodError", true), ("InvalidItem", "WoodError", true), ("InvalidSignature", "InvalidSignature", true), ("InvalidNumber", "InvalidNumber", true)])) (a := a) (b := b) (r := r)
  have SC : SigC K (He.ga K "Signature") := ⟨cSignature.cl, cSignature.na _ (by simp), cSignature.na _ (by simp), cSignature.ha, cSignature.hn, cSignature.ht, cSignature.ho, cSignature.self, cSignature.data⟩
  have F : XQ PW K mg (He.ga K "WoodError") (He.ga K "InvalidList") (He.ga K "InvalidItem") (He.ga K "InvalidSignature") (He.ga K "InvalidNumber") _ _ _ _ _ _ _ _ := ⟨TInvalidList, TInvalidItem, TInvalidSignature, TInvalidNumber, gWoodError, exm _ _ _ (by simp), exm _ _ _ (by simp), exm _ _ _ (by simp), exm _ _ _ (by simp), kit _ _ _ (by simp), kit _ _ _ (by simp), kit _ _ _ (by simp), kit _ _ _ (by simp)⟩
  obtain ⟨_, FWhole⟩ := c.def_ 4 (d := q4) rfl
  obtain ⟨_, FName⟩ := c.def_ 5 (d := q5) rfl
  obtain ⟨_, FRow⟩ := c.def_ 6 (d := q6) rfl
  obtain ⟨_, FSigInit⟩ := c.def_ 7 (d := q7) rfl
  obtain ⟨_, FSigRows⟩ := c.def_ 8 (d := q8) rfl
  obtain ⟨_, FSigEq⟩ := c.def_ 9 (d := q9) rfl
  obtain ⟨_, FCheckSig⟩ := c.def_ 10 (d := q10) rfl
  obtain ⟨_, FBuilt⟩ := c.def_ 11 (d := q11) rfl
  obtain ⟨_, FFits⟩ := c.def_ 12 (d := q12) rfl
  obtain ⟨_, FIsType⟩ := c.def_ 13 (d := q13) rfl
  obtain ⟨_, FTypesOf⟩ := c.def_ 14 (d := q14) rfl
  obtain ⟨_, FMixed⟩ := c.def_ 15 (d := q15) rfl
  obtain ⟨_, FPurse⟩ := c.def_ 16 (d := q16) rfl
  obtain ⟨_, FDraw⟩ := c.def_ 17 (d := q17) rfl
  obtain ⟨_, FLRows⟩ := c.def_ 18 (d := q18) rfl
  obtain ⟨_, FFlat⟩ := c.def_ 19 (d := q19) rfl
  obtain ⟨_, FTypes⟩ := c.def_ 20 (d := q20) rfl
  obtain ⟨_, FLIs⟩ := c.def_ 21 (d := q21) rfl
  obtain ⟨_, FVals⟩ := c.def_ 22 (d := q22) rfl
  obtain ⟨_, FCaught⟩ := c.def_ 23 (d := q23) rfl
  obtain ⟨_, FRefused⟩ := c.def_ 24 (d := q24) rfl
  obtain ⟨_, FNums⟩ := c.def_ 25 (d := q25) rfl
  obtain ⟨_, FLaw⟩ := c.def_ 26 (d := q26) rfl
  refine ⟨_, fGlo_ok X G (c.fact 22 (f := fGlo "law")), fun s u => FLaw.bsA (ps := ["_law_script"]) (fun _ _ _ _ _ _ us hl => match us, hl with | [_], _ => rfl) s [u] rfl, fun base XB GB => ?_⟩
  have S : Sys base := fSys_ok XB (c.fact 0)
  have ZWhole : FnZ PW w K mg base 1 _ _ ["value"] (spTest K dWhole fun _ => True) := fn_z FWhole.z scWhole (by walk_at "len") (bWhole (fr "isinstance" (by simp)) (fr "int" (by simp)) (fr "bool" (by simp)))
  have DWhole : DefZ PW w K mg base "is_whole" 1 ["value"] (spTest K dWhole fun _ => True) := ⟨_, _, fGlo_ok X G (c.fact 3), FWhole.kp, ZWhole, FWhole.bs fun _ _ _ _ _ _ us hl => match us, hl with | [_], _ => rfl⟩
  have ZName : FnZ PW w K mg base 1 _ _ ["value"] (spTest K dName Sml) := fn_z FName.z scName (by walk_at "len") (bName (fr "isinstance" (by simp)) (fr "str" (by simp)) (fr "len" (by simp)) kMOST_LETTERS kLETTERS)
  have DName : DefZ PW w K mg base "is_name" 1 ["value"] (spTest K dName Sml) := ⟨_, _, fGlo_ok X G (c.fact 4), FName.kp, ZName, FName.bs fun _ _ _ _ _ _ us hl => match us, hl with | [_], _ => rfl⟩
  have ZRow : FnZ PW w K mg base 2 _ _ ["value"] (spTest K dRow Sml) := fn_z FRow.z scRow (by walk_at "len") (bRow (fr "isinstance" (by simp)) (fr "tuple" (by simp)) (fr "len" (by simp)) kMOST_PARTS DName DWhole)
  have DRow : DefZ PW w K mg base "is_row" 2 ["value"] (spTest K dRow Sml) := ⟨_, _, fGlo_ok X G (c.fact 5), FRow.kp, ZRow, FRow.bs fun _ _ _ _ _ _ us hl => match us, hl with | [_], _ => rfl⟩
  have ZSigInit : FnZ PW w K mg base 3 _ _ ["self", "rows"] (spSig K (He.ga K "Signature") (He.ga K "InvalidList") (He.ga K "InvalidItem")) := fn_z FSigInit.z scSigInit (by walk_at "len") (bSig SC.cl SC.n1 SC.n2 TInvalidList TInvalidItem (fr "isinstance" (by simp)) (fr "list" (by simp)) (fr "len" (by simp)) (fr "tuple" (by simp)) kMOST_ROWS DRow)
  have DSigInit : MkZ PW w K mg base "Signature" (He.ga K "Signature") 3 ["self", "rows"] (spSig K (He.ga K "Signature") (He.ga K "InvalidList") (He.ga K "InvalidItem")) := ⟨gSignature, _, _, fMake.ok (c.fact 36), ZSigInit, FSigInit.bs fun _ _ _ _ _ _ us hl => match us, hl with | [_, _], _ => rfl⟩
  have ZSigRows : FnZ PW w K mg base 1 _ _ ["self"] (spRows (He.ga K "Signature")) := fn_z FSigRows.z scSigRows (by walk_at "len") (bRows SC (fr "list" (by simp)))
  have DSigRows : MethZ PW w K mg base (He.ga K "Signature") "rows" 1 ["self"] (spRows (He.ga K "Signature")) := ⟨cSignature.cl, _, _, fMeth.ok (c.fact 38), ZSigRows, FSigRows.bs fun _ _ _ _ _ _ us hl => match us, hl with | [_], _ => rfl⟩
  have ZSigEq : FnZ PW w K mg base 1 _ _ ["self", "other"] (spSigEq K (He.ga K "Signature")) := fn_z FSigEq.z scSigEq (by walk_at "len") (bSigEq SC S (fr "isinstance" (by simp)) gSignature)
  have DSigEq : EqZ PW w K mg base (He.ga K "Signature") 1 (spSigEq K (He.ga K "Signature")) := fEq.ok (c.fact 37) cSignature ZSigEq (FSigEq.bs fun _ _ _ _ _ _ us hl => match us, hl with | [_, _], _ => rfl)
  have ZCheckSig : FnZ PW w K mg base 2 _ _ ["value"] (spCheckSig K (He.ga K "Signature") (He.ga K "InvalidSignature")) := fn_z FCheckSig.z scCheckSig (by walk_at "len") (bCheckSig SC TInvalidSignature (fr "isinstance" (by simp)) gSignature)
  have DCheckSig : DefZ PW w K mg base "check_signature" 2 ["value"] (spCheckSig K (He.ga K "Signature") (He.ga K "InvalidSignature")) := ⟨_, _, fGlo_ok X G (c.fact 6), FCheckSig.kp, ZCheckSig, FCheckSig.bs fun _ _ _ _ _ _ us hl => match us, hl with | [_], _ => rfl⟩
  have ZBuilt : FnZ PW w K mg base 1 _ _ ["signature", "value"] (spBuilt K (He.ga K "Signature")) := fn_z FBuilt.z scBuilt (by walk_at "len") (bBuilt SC (fr "isinstance" (by simp)) (fr "tuple" (by simp)) (fr "str" (by simp)) (fr "len" (by simp)))
  have DBuilt : DefZ PW w K mg base "is_built" 1 ["signature", "value"] (spBuilt K (He.ga K "Signature")) := ⟨_, _, fGlo_ok X G (c.fact 7), FBuilt.kp, ZBuilt, FBuilt.bs fun _ _ _ _ _ _ us hl => match us, hl with | [_, _], _ => rfl⟩
  have DFits : ∀ n : Nat, DefZ PW w K mg base "fits_type" (n + 2) ["signature", "value"] (spFits K (He.ga K "Signature") n) := fun n => by
    induction n with
    | zero => exact ⟨_, _, fGlo_ok X G (c.fact 8), FFits.kp, fn_z FFits.z scFits (by walk_at "len") (bFits 0 DBuilt fun m h => by omega), FFits.bs fun _ _ _ _ _ _ us hl => match us, hl with | [_, _], _ => rfl⟩
    | succ n ih => exact ⟨_, _, fGlo_ok X G (c.fact 8), FFits.kp, fn_z FFits.z scFits (by walk_at "len") (bFits (n + 1) DBuilt fun m h => (show m = n by omega) ▸ ih), FFits.bs fun _ _ _ _ _ _ us hl => match us, hl with | [_, _], _ => rfl⟩
  have ZIsType : FnZ PW w K mg base 15 _ _ ["signature", "value"] (spIsType K (He.ga K "Signature") (He.ga K "InvalidSignature") 12) := fn_z FIsType.z scIsType (by walk_at "len") (bIsType 12 DCheckSig (DFits 12))
  have DIsType : DefZ PW w K mg base "is_type" 15 ["signature", "value"] (spIsType K (He.ga K "Signature") (He.ga K "InvalidSignature") 12) := ⟨_, _, fGlo_ok X G (c.fact 9), FIsType.kp, ZIsType, FIsType.bs fun _ _ _ _ _ _ us hl => match us, hl with | [_, _], _ => rfl⟩
  have ZTypesOf : FnZ PW w K mg base 3 _ _ ["signature", "size"] (spTypesOf K (He.ga K "Signature") (He.ga K "InvalidSignature") (He.ga K "InvalidNumber")) := fn_z FTypesOf.z scTypesOf (by walk_at "len") (bTypesOf SC S DCheckSig DWhole TInvalidNumber DSigRows (fr "range" (by simp)) (fr "sorted" (by simp)) (fr "list" (by simp)))
  have DTypesOf : DefZ PW w K mg base "types_of" 3 ["signature", "size"] (spTypesOf K (He.ga K "Signature") (He.ga K "InvalidSignature") (He.ga K "InvalidNumber")) := ⟨_, _, fGlo_ok X G (c.fact 10), FTypesOf.kp, ZTypesOf, FTypesOf.bs fun _ _ _ _ _ _ us hl => match us, hl with | [_, _], _ => rfl⟩
  have ZMixed : FnZ PW w K mg base 1 _ _ ["_law_cell", "_law_k"] (spMixed) := fn_z FMixed.z scMixed (by walk_at "len") (bMixed)
  have DMixed : DefZ PW w K mg base "_law_mixed" 1 ["_law_cell", "_law_k"] (spMixed) := ⟨_, _, fGlo_ok X G (c.fact 11), FMixed.kp, ZMixed, FMixed.bs fun _ _ _ _ _ _ us hl => match us, hl with | [_, _], _ => rfl⟩
  have ZPurse : FnZ PW w K mg base 1 _ _ ["_law_script", "_law_at"] (spPurse K) := fn_z FPurse.z scPurse (by walk_at "len") (bPurse (fr "max" (by simp)) (fr "sum" (by simp)))
  have DPurse : DefZ PW w K mg base "_law_purse" 1 ["_law_script", "_law_at"] (spPurse K) := ⟨_, _, fGlo_ok X G (c.fact 12), FPurse.kp, ZPurse, FPurse.bs fun _ _ _ _ _ _ us hl => match us, hl with | [_, _], _ => rfl⟩
  have ZDraw : FnZ PW w K mg base 2 _ _ ["_law_purse_here", "_law_out_of"] (spDraw) := fn_z FDraw.z scDraw (by walk_at "len") (bDraw (fr "range" (by simp)) DMixed)
  have DDraw : DefZ PW w K mg base "_law_draw" 2 ["_law_purse_here", "_law_out_of"] (spDraw) := ⟨_, _, fGlo_ok X G (c.fact 13), FDraw.kp, ZDraw, FDraw.bs fun _ _ _ _ _ _ us hl => match us, hl with | [_, _], _ => rfl⟩
  have ZLRows : FnZ PW w K mg base 3 _ _ ["_law_purse_here"] (spLRows K) := fn_z FLRows.z scLRows (by walk_at "len") (bLRows DDraw)
  have DLRows : DefZ PW w K mg base "_law_rows" 3 ["_law_purse_here"] (spLRows K) := ⟨_, _, fGlo_ok X G (c.fact 14), FLRows.kp, ZLRows, FLRows.bs fun _ _ _ _ _ _ us hl => match us, hl with | [_], _ => rfl⟩
  have ZFlat : FnZ PW w K mg base 1 _ _ ["_law_sizes"] (spFlat K) := fn_z FFlat.z scFlat (by walk_at "len") (bFlat)
  have DFlat : DefZ PW w K mg base "_law_flat" 1 ["_law_sizes"] (spFlat K) := ⟨_, _, fGlo_ok X G (c.fact 15), FFlat.kp, ZFlat, FFlat.bs fun _ _ _ _ _ _ us hl => match us, hl with | [_], _ => rfl⟩
  have ZTypes : FnZ PW w K mg base 1 _ _ ["_law_rows_here", "_law_most"] (spTypesL K) := fn_z FTypes.z scTypes (by walk_at "len") (bTypesL S (fr "range" (by simp)) (fr "sorted" (by simp)) (fr "len" (by simp)))
  have DTypes : DefZ PW w K mg base "_law_types" 1 ["_law_rows_here", "_law_most"] (spTypesL K) := ⟨_, _, fGlo_ok X G (c.fact 16), FTypes.kp, ZTypes, FTypes.bs fun _ _ _ _ _ _ us hl => match us, hl with | [_, _], _ => rfl⟩
  have ZLIs : FnZ PW w K mg base 1 _ _ ["_law_rows_here", "_law_value"] (spLIs K) := fn_z FLIs.z scLIs (by walk_at "len") (bLIs (fr "isinstance" (by simp)) (fr "tuple" (by simp)) (fr "str" (by simp)) (fr "list" (by simp)) (fr "len" (by simp)))
  have DLIs : DefZ PW w K mg base "_law_is_type" 1 ["_law_rows_here", "_law_value"] (spLIs K) := ⟨_, _, fGlo_ok X G (c.fact 17), FLIs.kp, ZLIs, FLIs.bs fun _ _ _ _ _ _ us hl => match us, hl with | [_, _], _ => rfl⟩
  have ZVals : FnZ PW w K mg base 1 _ _ ["_law_rows_here", "_law_kind"] (spVals K) := fn_z FVals.z scVals (by walk_at "len") (bVals (fr "list" (by simp)))
  have DVals : DefZ PW w K mg base "_law_values" 1 ["_law_rows_here", "_law_kind"] (spVals K) := ⟨_, _, fGlo_ok X G (c.fact 18), FVals.kp, ZVals, FVals.bs fun _ _ _ _ _ _ us hl => match us, hl with | [_, _], _ => rfl⟩
  have ZCaught : FnZ PW w K mg base 5 _ _ ["_law_thing"] (spCaught K) := fn_z FCaught.z scCaught (by walk_at "len") (bCaught F S (fr "isinstance" (by simp)) (fr "list" (by simp)) (fr "repr" (by simp)) DSigInit)
  have DCaught : DefZ PW w K mg base "_law_caught" 5 ["_law_thing"] (spCaught K) := ⟨_, _, fGlo_ok X G (c.fact 19), FCaught.kp, ZCaught, FCaught.bs fun _ _ _ _ _ _ us hl => match us, hl with | [_], _ => rfl⟩
  have ZRefused : FnZ PW w K mg base 21 _ _ ["_law_rows_here"] (spRefused K) := fn_z FRefused.z scRefused (by walk_at "len") (bRefused F S (fr "isinstance" (by simp)) (fr "list" (by simp)) (fr "tuple" (by simp)) (fr "repr" (by simp)) (fr "range" (by simp)) (DCaught.mono (by decide)) (DIsType.mono (by decide)) (DTypesOf.mono (by decide)))
  have DRefused : DefZ PW w K mg base "_law_refused" 21 ["_law_rows_here"] (spRefused K) := ⟨_, _, fGlo_ok X G (c.fact 20), FRefused.kp, ZRefused, FRefused.bs fun _ _ _ _ _ _ us hl => match us, hl with | [_], _ => rfl⟩
  have ZNums : FnZ PW w K mg base 21 _ _ ["_law_signature"] (spNums (He.ga K "Signature")) := fn_z FNums.z scNums (by walk_at "len") (bNums F S (fr "repr" (by simp)) (DTypesOf.mono (by decide)))
  have DNums : DefZ PW w K mg base "_law_numbers_refused" 21 ["_law_signature"] (spNums (He.ga K "Signature")) := ⟨_, _, fGlo_ok X G (c.fact 21), FNums.kp, ZNums, FNums.bs fun _ _ _ _ _ _ us hl => match us, hl with | [_], _ => rfl⟩
  have DSigEq20 : EqZ PW w K mg base (He.ga K "Signature") 20 (spSigEq K (He.ga K "Signature")) := fEq.ok (c.fact 37) cSignature (ZSigEq.mono (by decide)) (FSigEq.bs fun _ _ _ _ _ _ us hl => match us, hl with | [_, _], _ => rfl)
  have ZLaw : FnZ PW w K mg base 22 _ _ ["_law_script"] (spLaw K) := fn_z FLaw.z scLaw (by walk_at "len") (bLaw F SC cSignature.mro cSignature.nf S (fr "range" (by simp)) (fr "list" (by simp)) (fr "repr" (by simp)) (fr "len" (by simp)) (fr "int" (by simp)) (fr "min" (by simp)) DSigInit (DSigRows.mono (by decide)) DSigEq20 (DPurse.mono (by decide)) (DDraw.mono (by decide)) (DLRows.mono (by decide)) (DTypes.mono (by decide)) (DFlat.mono (by decide)) (DVals.mono (by decide)) (DLIs.mono (by decide)) (DRefused.mono (by decide)) (DNums.mono (by decide)) (DIsType.mono (by decide)) (DTypesOf.mono (by decide)))
  exact ZLaw
end L2.Z.Law
open PySem PySem.W PySem.Calls PyProof.Rows
theorem PySem.Challenge.cw_instancewoods_k10_types_of_signatures_holds : PySem.Challenge.rw_instancewoods_k10_types_of_signatures.Holds := by
  w_on; o_law
  refine HandSHeadRun.head_any (r := OpenLaw.row PySem.Challenge.rw_instancewoods_k10_types_of_signatures) (q := view (OpenLaw.row PySem.Challenge.rw_instancewoods_k10_types_of_signatures).prog [32]) (H := L2.Z.Law.hk) (ob := L2.Z.Law.ob) (M := 6000) (loose := ["WoodError", "InvalidNumber", "InvalidList", "InvalidItem", "InvalidSignature", "LETTERS", "MOST_LETTERS", "MOST_ROWS", "MOST_PARTS", "is_whole", "is_name", "is_row", "Signature", "check_signature", "is_built", "fits_type", "is_type", "types_of", "_law_mixed", "_law_purse", "_law_draw", "_law_rows", "_law_flat", "_law_types", "_law_is_type", "_law_values", "_law_caught", "_law_refused", "_law_numbers_refused"]) (d := HandSHeadRun.topDef (OpenLaw.row PySem.Challenge.rw_instancewoods_k10_types_of_signatures).prog 32) (kwd := []) L2.Z.Law.ob_eq
    (by kernel_rfl) (fun s => by kernel_rfl) L2.Z.Law.run (by kernel_rfl) (by kernel_rfl) (by kernel_rfl) (by rfl) (by first | assumption | decide +kernel) (by decide +kernel) ⟨rfl, rfl, rfl, rfl, rfl, by decide +kernel⟩ ?hw ?hc
  case hw => w_witness2
  case hc =>
    refine L2.Z.walk_z (l := PySem.Challenge.rw_instancewoods_k10_types_of_signatures) (n := 63) (k := 22) (x := "_law_script") rfl (by decide) (by kernel_rfl) ⟨⟨rfl, by decide, by decide⟩, rfl⟩ ?F
    intro w mg fa h Y G hmg0
    obtain ⟨K, KX, c⟩ := Y
    obtain ⟨fd, hm, hb, hF⟩ := L2.Z.Law.law_fn (w := w) KX G c
    have e : fa = He.ga K "law" := Value.ref.inj (Option.some.inj ((show mg "law" = some (.ref fa) from hmg0).symm.trans hm))
    subst e
    exact ⟨K, fd, L2.Z.Law.spLaw K, KX, hb, fun H a ns hl _ _ hS => ⟨a, ns, rfl, hS, fun _ => rfl⟩, hF⟩

