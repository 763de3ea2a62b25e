import PyProof.Rows.All
import Wide.All
import OpenK.AllK
import Wide.FinOn
import KE.KExcSuper
import KE.KExcIs
import HandS.ForMost
import HandS.Exc
import HandS.ExcInit
import HandS.IsInst
import HandS.HeadWalk
import HandS.Conv
import HandS.Defaults
import HandS.HeadHook4
import HandS.Head2
import HandS.HeadEnd
import HandS.Wide
import HandS.Walk
import KE.KStateDown
import HandS.Head0
import HandS.Head1
import PySem.Challenge.RW_unnotedtables_k00_errors_keep_their_valu
set_option Elab.async false
set_option linter.all false
set_option maxRecDepth 100000
set_option maxHeartbeats 4000000
/-! The errors of the program: one class over ValueError whose __init__ calls super().__init__ and keeps its value; all others below it. -/
namespace U
open PySem PySem.W PySem.Calls PyProof.Rows PySem.HandSPX
/-! ### the text of __init__ -/
def iA (p1 p2 : Pos) : Arguments := { posonlyargs := [], args := [{ arg := "self", annotation := none, pos := p1 }, { arg := "value", annotation := none, pos := p2 }], vararg := none, kwonlyargs := [], kw_defaults := [], kwarg := none, defaults := [] }
def iB (q1 q2 q3 q4 q5 q6 q7 q8 q9 q10 : Pos) : List Stmt :=
  [.Expr (.Call (.Attribute (.Call (.Name "super" q1) [] [] q2) "__init__" q3) [.Name "value" q4] [] q5) q6, .Assign [.Attribute (.Name "self" q7) "value" q8] (.Name "value" q9) q10]
def iS : Scope := { kind := .function, names := [(PySem.Str.ofString "self", .local), (PySem.Str.ofString "value", .local), (PySem.Str.ofString "__class__", .free), (PySem.Str.ofString "super", .globalImplicit)], isGenerator := false, isCoroutine := false, more := [] }
/-- the base class at D, its __init__ at fI -/
structure InitTxt (prog : Program) (K : Frag) (D fI : Addr) : Prop where
  fn : ∃ (oc : Value) (od : Option Addr) (kV doc pm : Value) (an : Option Addr) (cda cc : Addr) (ct : Value) (osl : Array (Option Value)) (p1 p2 q1 q2 q3 q4 q5 q6 q7 q8 q9 q10 : Pos),
    K.lookup fI = some ⟨oc, od, .func (ksFn "__init__" "TableError.__init__" (iA p1 p2) (iB q1 q2 q3 q4 q5 q6 q7 q8 q9 q10) iS .none kV doc pm an (.ref cda) ct cc), osl⟩ ∧ (q3.endLine == q5.line) = true ∧ codeIn K (.ref cda) "TableError.__init__" = true ∧
    (∃ (ccl : Value) (cdd : Option Addr) (vs : Array Value) (ccs : Array (Option Value)) (file : Str) (tf : Tok), K.lookup cda = some ⟨ccl, cdd, .fields vs, ccs⟩ ∧ vs[2]? = some (.str file tf) ∧ ((prog.main.file : Str) == file) = true) ∧
    ∃ (cl : Value) (cld : Option Addr) (csl : Array (Option Value)), K.lookup cc = some ⟨cl, cld, .cell (some (.ref D)), csl⟩
  hD : (clsIn K D).isSome = true
  sup : nsIn K mainGlobals "super" = some none
  opq : nsIn K cStatics "thirdparty.any" = some none
  top : (prog.main.scope.names.lookup ("super" : Str)).isSome = false
/-- a class of errors at C -/
structure ErrC (K : Frag) (D fI C : Addr) : Prop where
  cls : ∃ nm q N bs bm sn sub ab col dd k0 k1 k2 k3 k5, K.lookup C = some (excClassObj nm q C N bs bm true sn sub ab col dd k0 k1 k2 k3 k5 "ValueError.__new__") ∧ refsVE bm = true
  sa : findIn K (.ref C) "__setattr__" = some (some (.builtin "object.__setattr__"))
  ga : findIn K (.ref C) "__getattribute__" = some (some (.builtin "BaseException.__getattribute__"))
  gg : findIn K (.ref C) "__getattr__" = some none
  noV : findIn K (.ref C) "value" = some none
  iC : findIn K (.ref C) "__init__" = some (some (.ref fI))
  tI : typeIn K (.ref fI) = some (.type "function")
  kC : keepIn K (.ref C) = true
  exC : subIn K (.ref C) (.type "BaseException") = some true
  tyC : typeIn K (.ref C) = some (.type "type")
  hdC : hasDictIn K C = true
  mr : mroIn K C (.ref D) = some true
  sI : ks_superIn K C D "__init__" = some (some (.builtin "ValueError.__init__"))
  ve : subIn K (.ref C) (.type "ValueError") = some true
  ca : findIn K (.ref C) "__class__" = some (some (.builtin "object.__class__"))
  cg : specialIn K (.builtin "object.__class__") "__get__" = some (some (.builtin "getset_descriptor.__get__"))
  ct : takesIn K (.builtin "object.__class__") = some true
  mo : mroIn K C (.type "object") = some true
theorem one_le_line (v : Value) : [v].length ≤ sizeLine := by
  rw [sizeLine_eq]
  exact (by decide : 1 ≤ 16777216)
section
variable {prog : Program} {w : World} {A : Around} {E : Value → Shared → Prop} {R : Result → Shared → Prop} {s : Shared} {K : Frag} {mg mb : Str → Option Value} {C D fI : Addr}
/-- the bound ValueError.__init__ called -/
theorem mw_call {h : Heap} {g : Array GenState} {d : Drawn} {t : Nat} {os : OsState} {u e t0 N : Addr} {nm q : Str} {bs bm : List Value} {hdct : Bool} {sn : List Str} {sub : List Value} {ab : Bool} {col : Option Bool} {dd : Option Addr} {k0 k1 k2 k3 k5 : Option Value} {rest : List Value} {Q : Value → Shared → Prop}
    (hC : h.get? C = some (excClassObj nm q C N bs bm hdct sn sub ab col dd k0 k1 k2 k3 k5 "ValueError.__new__")) (he : h.get? e = some (excO C t0)) (hu : h.get? u = some (kxs_mw "ValueError.__init__" e)) (hz : rest.length ≤ sizeLine)
    (hq : ∀ h' t1, (∀ b o, b ≠ e → h.get? b = some o → h'.get? b = some o) → h'.get? e = some (excO C t1) → Q .none ⟨h', g, d, t, os⟩) :
    wpAny (model prog w) A (call (.ref u) rest) Q E ⟨h, g, d, t, os⟩ := by
  refine wpAny_call (codeAny_of_tree ?_)
  show wpAny _ A.in1 (callAny (.ref u) ⟨rest, []⟩) _ _ _
  simp only [callAny]
  refine wpAny_bind (wpAny_load hu ?_)
  simp only [kxs_mw, show (Value.type "method-wrapper" == Value.type "method" || Value.type "method-wrapper" == Value.type "builtin_function_or_method" || Value.type "method-wrapper" == Value.type "method-wrapper") = true by decide, if_true]
  refine KFB.if_so (by decide) ?_
  refine wpAny_bind (check_bound_init F.excBase_ValueError.toExcCallFacts hC he rfl ?_)
  refine wpAny_bind (wpAny_pure (wpAny_pure ?_))
  refine ⟨plainId_quiet F.excBase_ValueError.init.plain _, codeAny_builtin F.excBase_ValueError.initEntry ?_⟩
  rw [Around.under_plainId F.excBase_ValueError.init.plain _]
  wp_walk
  refine hq _ h.objs.size (fun b o hb ho => ?_) ?_
  · rw [Heap.get?_update_other _ _ (Ne.symm hb)]
    exact Heap.get?_push_of_some _ ho
  · rw [Heap.get?_update_self _ (Heap.get?_push_of_some _ he) rfl]
    rfl
end
end U

set_option Elab.async false
set_option linter.all false
set_option maxRecDepth 100000
set_option maxHeartbeats 4000000
namespace U
open PySem PySem.W PySem.Calls PyProof.Rows PySem.HandSPX
theorem ldN {M : Model} {A : Around} {E : Value → Shared → Prop} {s : Shared} {env : Env} {m : Str → Option Value} {x : Str} {pos : Pos} {v : Value} {Q : Value → Shared → Prop} (hn : s.heap.Ns env.locals m) (hv : m x = some v) (h : Q v s)
    (hk : env.scope.kind = .function := by rfl) (hl : env.kindOf x = some .local := by rfl) (hd : (x == ("__debug__" : Str)) = false := by decide) : wpAny M A (eval (.Name x pos) env) Q E s := wpAny_Name (wpAny_loadName_local hk hl hn hv h) hd
section
variable {prog : Program} {w : World} {A : Around} {E : Value → Shared → Prop} {R : Result → Shared → Prop} {s : Shared} {K : Frag} {mg mb : Str → Option Value} {C D fI : Addr}
/-- what __init__ leaves of a fresh error at x -/
structure InitEnd (h h' : Heap) (x C dx : Addr) (v : Value) : Prop where
  keep : ∀ b o, b ≠ x → h.get? b = some o → h'.get? b = some o
  obj : ∃ t1 : Addr, h'.get? x = some { cls := .ref C, dict := some dx, data := .fields #[.ref t1, .none, .none, .none, .bool false, .none] }
  dbig : h.objs.size ≤ dx
  dne : dx ≠ x
  ns : h'.Ns1 dx (fun y => if y = "value" then some v else none)
theorem init_run (T : InitTxt prog K D fI) (TC : ErrC K D fI C) {x t0 : Addr} {v : Value} (X : K.In s.heap) (hg : s.heap.Ns mainGlobals mg) (hb : s.heap.Ns builtinsNs mb) (hbb : ∀ x : Str, x ≠ "__name__" → mb x = bootBuiltins x) (hlim : s.heap.NoLimit)
    (hx : s.heap.get? x = some (excO C t0)) (xn : K.lookup x = none) (hroom : A.depth < recursionLimit) (hq : ∀ h' tk dx, InitEnd s.heap h' x C dx v → R (.ok (.ret .none)) { s with heap := h', toks := tk }) :
    codeAny (model prog w) A (.call (.ref fI) ⟨[.ref x, v], []⟩) R s := by
  obtain ⟨oc, od, kV, doc, pm, an, cda, cc, ct, osl, p1, p2, q1, q2, q3, q4, q5, q6, q7, q8, q9, q10, ho, hline, hcd, ⟨ccl, cdd, vs, ccs, file, tf, hcode, hvs, hfile⟩, cl, cld, csl, hcell⟩ := T.fn
  obtain ⟨nm, q, N, bs, bm, sn, sub, ab, col, dd, k0, k1, k2, k3, k5, hC, hbm⟩ := TC.cls
  have hcl : clsIn K C = some { name := nm, bases := bs, mro := .ref C :: bm, ns := N, qualname := q, hasDict := true, slotNames := sn, subclasses := sub, abstract := ab, collection := col, hasDel := false } := by unfold clsIn; rw [hC] <;> rfl
  obtain ⟨cdD, hDc⟩ := Option.isSome_iff_exists.mp T.hD
  obtain ⟨oD, hD1, hD2⟩ : ∃ oD, K.lookup D = some oD ∧ oD.data = .cls cdD := by
    unfold clsIn at hDc
    split at hDc
    · rename_i c d cd' sl hh
      cases hDc
      exact ⟨_, hh, rfl⟩
    · cases hDc
  refine ks_codeAny_call_defAt (fd := ksFn "__init__" "TableError.__init__" (iA p1 p2) (iB q1 q2 q3 q4 q5 q6 q7 q8 q9 q10) iS .none kV doc pm an (.ref cda) ct cc) (body := iB q1 q2 q3 q4 q5 q6 q7 q8 q9 q10)
    (binds := [("self", .ref x), ("value", v)]) hroom (X _ _ ho) rfl hlim (codeRec_of X hcd) rfl (BindsTo.of_eq (by first | rfl | with_unfolding_all rfl)) (by show ∀ y ∈ iS.names, y.2 ≠ NameKind.cell; decide) (by intro y hy; rcases List.mem_cons.mp hy with rfl | hy; exact rfl; rcases List.mem_cons.mp hy with rfl | hy; exact rfl; cases hy) (fun h₀ hns hk => ?_) rfl rfl rfl
  obtain ⟨hp, gs, dr, tk, os⟩ := s
  have X₀ : K.In h₀ := X.keeps hk
  have hx0 : h₀.get? x = some (excO C t0) := hk _ _ hx
  have hxL : x ≠ hp.objs.size := Nat.ne_of_lt (Heap.lt_size hx)
  show PySem.wpAt (model prog w) (A.deeper (ksEnv "TableError.__init__" iS hp.objs.size fI (.ref cda) cc)) (.func (iB q1 q2 q3 q4 q5 q6 q7 q8 q9 q10) (ksEnv "TableError.__init__" iS hp.objs.size fI (.ref cda) cc))
    (execs [.Expr (.Call (.Attribute (.Call (.Name "super" q1) [] [] q2) "__init__" q3) [.Name "value" q4] [] q5) q6, .Assign [.Attribute (.Name "self" q7) "value" q8] (.Name "value" q9) q10] (ksEnv "TableError.__init__" iS hp.objs.size fI (.ref cda) cc)) _ _ ⟨h₀, gs, dr, tk + 2, os⟩
  have he : eval (.Call (.Attribute (.Call (.Name "super" q1) [] [] q2) "__init__" q3) [.Name "value" q4] [] q5) (ksEnv "TableError.__init__" iS hp.objs.size fI (.ref cda) cc) = (do
      let ov ← attributeBase (.Call (.Name "super" q1) [] [] q2) "__init__" (ksEnv "TableError.__init__" iS hp.objs.size fI (.ref cda) cc) (eval (.Call (.Name "super" q1) [] [] q2) (ksEnv "TableError.__init__" iS hp.objs.size fI (.ref cda) cc))
      standAt q3.atName
      let (f, first) ← holding [ov] (getMethod ov "__init__" (L2.plainOf (.Call (.Name "super" q1) [] [] q2) (ksEnv "TableError.__init__" iS hp.objs.size fI (.ref cda) cc)))
      callWith q5 f first (backTo q5 (starEach [.Name "value" q4] (ksEnv "TableError.__init__" iS hp.objs.size fI (.ref cda) cc))) []) := by
    refine congrArg (fun k : Value → Sem Value => attributeBase (.Call (.Name "super" q1) [] [] q2) "__init__" (ksEnv "TableError.__init__" iS hp.objs.size fI (.ref cda) cc) (eval (.Call (.Name "super" q1) [] [] q2) (ksEnv "TableError.__init__" iS hp.objs.size fI (.ref cda) cc)) >>= k) (funext fun ov => ?_)
    refine congrArg (fun k : Unit → Sem Value => standAt q3.atName >>= k) (funext fun _ => ?_)
    exact L2.mcall_line rfl hline
  refine ks_wpAt_execs_cons (ks_wpAt_Expr_any (ks_wpAt_MethodCall ?_ he) (by rfl) (by rfl))
  refine ks_wpAt_super_base (env := ksEnv "TableError.__init__" iS hp.objs.size fI (.ref cda) cc) rfl rfl (by decide) rfl (X₀ _ _ ho) rfl rfl rfl (X₀ _ _ hcode) rfl hvs hfile T.top ?_
  refine ks_loadName_global rfl rfl (loadGlobal_builtin (env := ksEnv "TableError.__init__" iS hp.objs.size fI (.ref cda) cc) (hg.keeps hk) (mg_none_of X hg T.sup) (hb.keeps hk) ((hbb _ (by decide +kernel)).trans (by first | rfl | kernel_rfl)) ⟨rfl, ?_⟩)
  refine wpAny_loadName_free rfl rfl rfl ⟨_, X₀ _ _ hcell, rfl⟩ ?_
  refine wpAny_loadName_local (v := .ref x) rfl rfl hns rfl ?_
  refine ks_wpAny_isType_cls (X₀ _ _ hD1) hD2 ⟨rfl, ?_⟩
  refine ks_wpAny_call_super (X₀ _ _ hD1) hD2 hx0 rfl (fun c e => nomatch e) (looks_mroIn X₀ TC.mr) (fun h1 e1 hk1 => ?_)
  have X1 : K.In h1 := X₀.keeps hk1
  have hx1 := hk1 _ _ hx0
  have I1 : InstAt h1 x (excO C t0) C none := ⟨hx1, rfl, rfl, trivial⟩
  have hI : Looks (model prog w) h1 (isInstance (.ref x) (.type "ValueError")) true := I1.type.andThen (looks_subIn X1 TC.ve)
  have sI : alongIn K "__init__" (((Value.ref C :: bm).dropWhile (· != .ref D)).drop 1) = some (some (.builtin "ValueError.__init__")) := by
    have z := TC.sI
    unfold ks_superIn at z
    rw [hcl] at z
    exact z
  refine kxs_getMethod kxs_ValueError e1 (looks_opaque X1 T.opq) (l₀ := .ref C :: bm) (fun A Q E s k z => wpAny_bind ((looks_clsIn X1 hcl) A _ E s k (wpAny_pure z))) rfl X1 sI hI (ks_ne X1 I1 hcl) (by decide) ?_
  have k2' : ∀ b o, h1.get? b = some o → (h1.push (kxs_mw "ValueError.__init__" x)).get? b = some o := fun b o e => Heap.get?_push_of_some _ e
  have u2 : (h1.push (kxs_mw "ValueError.__init__" x)).get? h1.objs.size = some (kxs_mw "ValueError.__init__" x) := Heap.get?_push_at rfl rfl
  have kk : ∀ b o, hp.get? b = some o → (h1.push (kxs_mw "ValueError.__init__" x)).get? b = some o := fun b o e => k2' b o (hk1 b o (hk b o e))
  have ns2 : (h1.push (kxs_mw "ValueError.__init__" x)).Ns hp.objs.size (fun y => ([(Str.ofString "self", Value.ref x), (Str.ofString "value", v)] : List (Str × Value)).reverse.lookup y) := (hns.keeps hk1).keeps k2'
  dsimp only
  refine kxs_callWith (i := "ValueError.__init__") (x := x) (by rfl) ?_
  refine evalArgs_plain ?_
  refine spliced_cons (ldN (env := ksEnv "TableError.__init__" iS hp.objs.size fI (.ref cda) cc) (v := v) ns2 (by rfl) (spliced_nil ⟨u2, ?_⟩))
  refine mw_call (X.keeps kk _ _ hC) (k2' _ _ hx1) u2 (one_le_line v) (fun h3 t1 hk3 hx3 => ?_)
  have k3 : ∀ b o, b ≠ x → hp.get? b = some o → h3.get? b = some o := fun b o hb e => hk3 b o hb (kk b o e)
  have X3 : K.In h3 := fun b o e => k3 b o (fun z => by rw [z, xn] at e; cases e) (X b o e)
  have ns3 : h3.Ns hp.objs.size (fun y => ([(Str.ofString "self", Value.ref x), (Str.ofString "value", v)] : List (Str × Value)).reverse.lookup y) := by
    obtain ⟨o, es, ep, ho', r⟩ := ns2
    exact ⟨o, es, ep, hk3 _ _ (Ne.symm hxL) ho', r⟩
  refine wpAt_of_wpAny ?_
  refine wpAny_execs_cons (plainObj_wpAny_Assign_Attribute (ldN (env := ksEnv "TableError.__init__" iS hp.objs.size fI (.ref cda) cc) (v := v) ns3 (by rfl) (ldN (env := ksEnv "TableError.__init__" iS hp.objs.size fI (.ref cda) cc) (v := .ref x) ns3 (by rfl) ?_)))
  refine set_plain X3 (ox := excO C t1) (od := none) ⟨hx3, rfl, rfl, trivial⟩ TC.sa ?_
  refine exc_osa X3 hx3 hcl (show refsVE (.ref C :: bm) = true from hbm) rfl TC.noV (fun h4 tk4 dx k4 dn dne hx4 hn4 => ?_)
  refine wpAny_execs_nil (hq h4 tk4 dx ⟨fun b o hb e => k4 b o hb (k3 b o hb e), ⟨t1, hx4⟩, ?_, dne, hn4⟩)
  have z0 : hp.objs.size < h3.objs.size := ns3.lt
  exact Nat.le_of_lt (Nat.lt_of_lt_of_le z0 dn)
/-- a made error at e, its own dict at d -/
structure Made (h h' : Heap) (e C d : Addr) (v : Value) : Prop where
  keep : ∀ b o, h.get? b = some o → h'.get? b = some o
  new : h.objs.size ≤ e
  obj : ∃ t1 : Addr, h'.get? e = some { cls := .ref C, dict := some d, data := .fields #[.ref t1, .none, .none, .none, .bool false, .none] }
  dbig : h.objs.size ≤ d
  dne : d ≠ e
  ns : h'.Ns1 d (fun y => if y = "value" then some v else none)
theorem made_run (T : InitTxt prog K D fI) (TC : ErrC K D fI C) {v : Value} (X : K.In s.heap) (hg : s.heap.Ns mainGlobals mg) (hb : s.heap.Ns builtinsNs mb) (hbb : ∀ x : Str, x ≠ "__name__" → mb x = bootBuiltins x) (hlim : s.heap.NoLimit)
    (hroom : A.depth + 1 < recursionLimit) (hq : ∀ h' tk e d, Made s.heap h' e C d v → R (.ok (.ret (.ref e))) { s with heap := h', toks := tk }) :
    codeAny (model prog w) A (.call (.ref C) ⟨[v], []⟩) R s := by
  obtain ⟨nm, q, N, bs, bm, sn, sub, ab, col, dd, k0, k1, k2, k3, k5, hC, hbm⟩ := TC.cls
  obtain ⟨hp, gs, dr, tk, os⟩ := s
  have k : ∀ b o, hp.get? b = some o → ((hp.push (kdv_tup [v])).push (excO C hp.objs.size)).get? b = some o := fun b o e => Heap.get?_push_of_some _ (Heap.get?_push_of_some _ e)
  have hget : ((hp.push (kdv_tup [v])).push (excO C hp.objs.size)).get? (hp.objs.size + 1) = some (excO C hp.objs.size) := by heap_get
  have hnx : K.lookup (hp.objs.size + 1) = none := by
    cases e : K.lookup (hp.objs.size + 1) with
    | none => rfl
    | some o =>
      have z : hp.get? (hp.objs.size + 1) = some o := X _ _ e
      exact absurd (Nat.lt_of_succ_lt (Heap.lt_size z)) (Nat.lt_irrefl _)
  refine call_own F.excBase_ValueError (fun X => refsVE_contains X bm hbm) (X _ _ hC) (looks_findIn X TC.iC) (fun self => bind_fn X self TC.tI) (one_le_line v) ?_
  refine init_run (s := ⟨(hp.push (kdv_tup [v])).push (excO C hp.objs.size), gs, dr, tk, os⟩) T TC (X.keeps k) (hg.keeps k) (hb.keeps k) hbb (hlim.keeps k) hget hnx ?_ fun h' tk' dx ⟨k', hx, dn, dne, hns⟩ => ?_
  · show A.depth + 1 < recursionLimit
    exact hroom
  · have old : ∀ b o, hp.get? b = some o → h'.get? b = some o := fun b o e => k' b o (Nat.ne_of_lt (Nat.lt_succ_of_lt (Heap.lt_size e))) (k b o e)
    have z : hp.objs.size + 1 + 1 ≤ dx := by
      first
        | (simpa only [Heap.size_push] using dn)
        | exact dn
    exact ⟨rfl, hq h' tk' (hp.objs.size + 1) dx ⟨old, Nat.le_succ _, hx, Nat.le_trans (Nat.le_trans (Nat.le_succ _) (Nat.le_succ _)) z, dne, hns⟩⟩
end
end U

set_option Elab.async false
set_option linter.all false
set_option maxRecDepth 100000
set_option maxHeartbeats 4000000
namespace U
open PySem PySem.Spec PyProof.Rows L2
open PySem.W (Frag)
/-- what is known of the errors' classes -/
structure ErrT (prog : Program) (K : Frag) (D fI : Addr) : Prop where
  init : InitTxt prog K D fI
/-- C(e): a new error -/
def tErr (C : Addr) (te : TE) : TE := fun σ H Q => te σ H fun v H1 => ∀ a d, H1 a = none → H1 d = none → d ≠ a → Q (.ref a) (upd (upd H1 d (exd d [("value", v)])) a (exo a C (some d)))
section
variable {X : Cx} {C D fI : Addr} {k : Nat}
theorem relO_value {v : V} {u : Value} (r : RelV v u) (f : Str) : RelO (List.lookup f [(("value" : Str), v)]) (if f = "value" then some u else none) := by
  rw [lookup_put]
  by_cases h : f = "value"
  · rw [if_pos h, if_pos h]
    exact r
  · rw [if_neg h, if_neg h]
    exact True.intro
/-- two new objects at once -/
theorem inv_two {pins : List (Addr × Obj)} {σ : L2.St} {H : Hp} {s : Shared} {h' : Heap} {a d : Addr} {t' : Nat} {v : V} (I : Inv X pins σ H s) (k : ∀ b u, s.heap.get? b = some u → h'.get? b = some u) (ha : s.heap.objs.size ≤ a) (hd : s.heap.objs.size ≤ d) (hne : d ≠ a)
    (oa : ∃ t1 : Addr, h'.get? a = some ({ cls := .ref C, dict := some d, data := .fields #[.ref t1, .none, .none, .none, .bool false, .none] } : Obj)) (od : ∃ mA, h'.Ns1 d mA ∧ ∀ f, RelO (([("value", v)] : List (Str × V)).lookup f) (mA f)) :
    Inv X pins σ (upd (upd H d (exd d [("value", v)])) a (exo a C (some d))) { s with heap := h', toks := t' } := by
  have na : H a = none := I.hok.fresh ha
  have nd : H d = none := I.hok.fresh hd
  have la : ∀ {b : Addr} {o : Obj}, s.heap.get? b = some o → b ≠ a := fun {b o} q => Nat.ne_of_lt (Nat.lt_of_lt_of_le (Heap.lt_size q) ha)
  have ld : ∀ {b : Addr} {o : Obj}, s.heap.get? b = some o → b ≠ d := fun {b o} q => Nat.ne_of_lt (Nat.lt_of_lt_of_le (Heap.lt_size q) hd)
  have mv : ∀ {b : Addr} {o : HO}, H b = some o → upd (upd H d (exd d [("value", v)])) a (exo a C (some d)) b = some o := fun {b o} q => by
    rw [upd_ne (ne_of_none q na), upd_ne (ne_of_none q nd)]
    exact q
  refine I.un (H' := upd (upd H d (exd d [("value", v)])) a (exo a C (some d))) ⟨fun b o q n _ _ => k b o q, fun b o q n _ _ => ⟨o.slots, k b o q⟩, fun b o q n _ => ?_, fun b o q _ => ⟨o, k b o q⟩, fun b xs q => mv q, fun b o u q => mv q, fun b ps q => ⟨#[], by rw [mv q]; simp⟩⟩ fun b o q => ?_
  · rw [upd_ne (la q), upd_ne (ld q)]
    exact n
  · by_cases hb : b = a
    · subst hb
      rw [upd_same] at q
      cases q
      obtain ⟨t1, e⟩ := oa
      exact exo_ok e
    · rw [upd_ne hb] at q
      by_cases hb2 : b = d
      · subst hb2
        rw [upd_same] at q
        cases q
        obtain ⟨mA, h1, h2⟩ := od
        exact exd_ok h1 h2
      · rw [upd_ne hb2] at q
        exact (I.hok b o q).stay (fun c u _ z => k c u z) (fun c z => mv z) fun c xs z => mv z
theorem pe_err {x : Str} {e : Expr} {te : TE} {p pos : Pos} (T : InitTxt X.prog X.K D fI) (TC : ErrC X.K D fI C) (hr : Room k X.A) (hg : Gl X x) (hm : X.mg x = some (.ref C)) (he : PE X e te)
    (hs : starEach [e] X.env = (false, eval e X.env) :: starEach [] X.env := by rfl) (hdb : (x == ("__debug__" : Str)) = false := by decide) : PE X (.Call (.Name x p) [e] [] pos) (tErr C te) := by
  refine ⟨fun pins s σ H Q I h => ?_⟩
  refine wpAny_Call_Name_kw (ld_glob I hg hm ?_ hdb)
  refine PySem.W.callWith_K (h₀ := X.base) I.ok.mod.kin TC.kC ?_ hs (by rfl)
  rw [hs]
  show wpAny _ _ (spliced ((false, eval e X.env) :: backTo pos (starEach [] X.env))) _ _ s
  refine Calls.spliced_cons (thn (he.run pins s σ H _ I h) fun u s1 ⟨v, H1, I1, r1, q1⟩ => ?_)
  refine Calls.spliced_nil ⟨I1.kIn, ?_⟩
  show wpAny _ _ (call (.ref C) [u]) _ _ _
  obtain ⟨mb, hb1, hb2⟩ := I1.mod.blt
  have hdp := hr.dp
  refine wpAny_call (made_run T TC I1.kIn (I1.mod.glob.keeps I1.bk) (hb1.keeps I1.bk) hb2 I1.nolimit (by omega) fun h' tk a d M => ?_)
  exact ⟨.ref a, _, inv_two (v := v) I1 M.keep M.new M.dbig M.dne M.obj ⟨_, M.ns, fun f => relO_value r1 f⟩, rfl, q1 a d (I1.hok.fresh M.new) (I1.hok.fresh M.dbig) M.dne⟩
/-- e.value of an error that stands in H -/
def tErrV (K : Frag) (D fI : Addr) (te : TE) : TE := fun σ H Q => te σ H fun x H1 => ∃ (a C d : Addr) (v : V), x = .ref a ∧ ErrC K D fI C ∧ H1 a = some (exo a C (some d)) ∧ H1 d = some (exd d [("value", v)]) ∧ Q v H1
theorem pe_errV {e : Expr} {te : TE} {pos : Pos} (he : PE X e te) (hb : attributeBase e "value" X.env (eval e X.env) = eval e X.env := by rfl) : PE X (.Attribute e "value" pos) (tErrV X.K D fI te) := by
  refine ⟨fun pins s σ H Q I h => ?_⟩
  refine attr_of hb (thn (he.run pins s σ H _ I h) fun u s1 hh => ?_)
  obtain ⟨x, H1, I1, rx, a, C, d, v, ex, TC, ea, ed, q⟩ := hh
  subst ex
  obtain rfl : u = Value.ref a := rx
  obtain ⟨t1, ho⟩ := exo_at I1.hok ea
  obtain ⟨mA, hns, hr⟩ := exd_at I1.hok ed
  obtain ⟨od, hod, hl⟩ := lookIn_ns hns
  have l : ([(("value" : Str), v)] : List (Str × V)).lookup ("value" : Str) = some v := by rw [lookup_put, if_pos rfl]
  obtain ⟨u, hu, ru⟩ := RelO.some_of (v := v) (o := mA "value") (by rw [← l]; exact hr "value")
  exact HandSPX.exc_get I1.kIn (ox := { cls := .ref C, dict := some d, data := .fields #[.ref t1, .none, .none, .none, .bool false, .none] }) (od := some od) ⟨ho, rfl, rfl, hod⟩ TC.ga TC.gg TC.exC (PySem.W.findObj_own TC.hdC TC.noV rfl (by rw [hl, hu])) (handed_of ru) ⟨v, H1, I1.tok _, ru, q⟩
/-- isinstance(e, c), e an error that stands in H -/
def rIsErr (K : Frag) (D fI : Addr) : List V → Hp → VK → Prop := fun xs H Q => ∃ (a C d : Addr) (c : V) (u : Value) (b : Bool), xs = [.ref a, c] ∧ ErrC K D fI C ∧ H a = some (exo a C (some d)) ∧ (∃ fs, H d = some (exd d fs)) ∧ ClsV c u ∧ PySem.W.kitOne K (.ref C) u = some b ∧ Q (.bl b) H
theorem call_isErr : CallR X (.builtin "isinstance") (rIsErr X.K D fI) := by
  intro pins s σ H xs us Q I r h
  obtain ⟨a, C, d, c, u, b, rfl, TC, ea, ⟨fs, ed⟩, kc, e, q⟩ := h
  obtain ⟨u1, u2, rfl, r1, r2⟩ := vals2 r
  have e2 := kc.eq r2
  subst e2
  obtain rfl : u1 = Value.ref a := r1
  obtain ⟨t1, ho⟩ := exo_at I.hok ea
  obtain ⟨mA, hns, hr⟩ := exd_at I.hok ed
  obtain ⟨od, hod, hl⟩ := lookIn_ns hns
  have hcl : (PySem.W.clsIn X.K C).isSome = true := by
    obtain ⟨nm, q, N, bs, bm, sn, sub, ab, col, dd, k0, k1, k2, k3, k5, hC, hbm⟩ := TC.cls
    unfold PySem.W.clsIn
    rw [hC] <;> rfl
  exact PySem.W.kia_one (PySem.W.kitx_exc (ox := { cls := .ref C, dict := some d, data := .fields #[.ref t1, .none, .none, .none, .bool false, .none] }) (od := some od) hcl TC.ga TC.gg TC.exC TC.ca TC.cg TC.ct TC.mo) I.kIn ⟨ho, rfl, rfl, hod⟩ e (fun z => nomatch z)
    fun tk => ⟨.bl b, H, I.tok tk, rfl, q⟩
end
end U

set_option Elab.async false
set_option linter.all false
set_option maxRecDepth 100000
set_option maxHeartbeats 4000000
namespace U
open PySem PySem.Spec PyProof.Rows L2
open PySem.W (Frag)
def kD : Key → PyData
  | .inl i => .int i
  | .inr x => .str x
mutual
/-- a value that is data, laid out in H: dicts too -/
inductive Dq (F : Addr → Prop) (H : Hp) : V → PyData → Prop
  | non : Dq F H .non .none
  | bl (b : Bool) : Dq F H (.bl b) (.bool b)
  | int (i : Int) : Dq F H (.int i) (.int i)
  | str (x : Str) : Dq F H (.str x) (.str x)
  | lst {a : Addr} {xs : List V} {ds : List PyData} : F a → H a = some (.lst xs) → DqAll F H xs ds → Dq F H (.ref a) (.list ds)
  | tup {a : Addr} {xs : List V} {ds : List PyData} : F a → H a = some (.tup xs) → DqAll F H xs ds → Dq F H (.ref a) (.tuple ds)
  | dk {a : Addr} {kvs : List (Key × V)} {ds : List PyData} : F a → H a = some (.dK kvs) → DqAll F H (kvs.map (·.2)) ds → Dq F H (.ref a) (.dict ((kvs.map fun kv => kD kv.1).zip ds))
inductive DqAll (F : Addr → Prop) (H : Hp) : List V → List PyData → Prop
  | nil : DqAll F H [] []
  | cons {v : V} {vs : List V} {d : PyData} {ds : List PyData} : Dq F H v d → DqAll F H vs ds → DqAll F H (v :: vs) (d :: ds)
end
theorem DqAll.len {F : Addr → Prop} {H : Hp} : ∀ {vs : List V} {ds : List PyData}, DqAll F H vs ds → vs.length = ds.length
  | _, _, .nil => rfl
  | _, _, .cons _ t => by rw [List.length_cons, List.length_cons, DqAll.len t]
mutual
theorem Dq.move {F G : Addr → Prop} {H H' : Hp} (g : ∀ b, F b → G b) (k : ∀ b o, F b → H b = some o → H' b = some o) : ∀ {v : V} {d : PyData}, Dq F H v d → Dq G H' v d
  | _, _, .non => .non
  | _, _, .bl b => .bl b
  | _, _, .int i => .int i
  | _, _, .str x => .str x
  | _, _, .lst f e h => .lst (g _ f) (k _ _ f e) (DqAll.move g k h)
  | _, _, .tup f e h => .tup (g _ f) (k _ _ f e) (DqAll.move g k h)
  | _, _, .dk f e h => .dk (g _ f) (k _ _ f e) (DqAll.move g k h)
theorem DqAll.move {F G : Addr → Prop} {H H' : Hp} (g : ∀ b, F b → G b) (k : ∀ b o, F b → H b = some o → H' b = some o) : ∀ {vs : List V} {ds : List PyData}, DqAll F H vs ds → DqAll G H' vs ds
  | _, _, .nil => .nil
  | _, _, .cons h t => .cons (Dq.move g k h) (DqAll.move g k t)
end
theorem DqAll.get {F : Addr → Prop} {H : Hp} : ∀ {vs : List V} {ds : List PyData} {i : Nat} {v : V}, DqAll F H vs ds → vs[i]? = some v → ∃ d, ds[i]? = some d ∧ Dq F H v d
  | _, _, _, _, .nil, e => by simp at e
  | _, _, 0, _, .cons h _, e => by
    simp at e
    subst e
    exact ⟨_, rfl, h⟩
  | _, _, i + 1, v, .cons _ t, e => by
    obtain ⟨d, h1, h2⟩ := DqAll.get (i := i) (v := v) t (by simpa using e)
    exact ⟨d, by simpa using h1, h2⟩
theorem DqAll.app {F : Addr → Prop} {H : Hp} : ∀ {vs ws : List V} {ds es : List PyData}, DqAll F H vs ds → DqAll F H ws es → DqAll F H (vs ++ ws) (ds ++ es)
  | _, _, _, _, .nil, h => h
  | _, _, _, _, .cons h t, g => .cons h (DqAll.app t g)
theorem kv_two {κ : Type} : ∀ {kvs : List (κ × V)} {vs : List (κ × Value)}, KV kvs vs → Vals (kvs.map (·.2)) (vs.map (·.2)) ∧ kvs.map (·.1) = vs.map (·.1)
  | _, _, .nil => ⟨.nil, rfl⟩
  | _, _, .cons h t => by
    obtain ⟨h1, h2⟩ := kv_two t
    refine ⟨.cons h.2 h1, ?_⟩
    rw [List.map_cons, List.map_cons, h2, h.1]
theorem pairs_read {P : Program} {w : World} {h : Heap} : ∀ {es : List DictEntry} {vs : List (Key × Value)}, PySem.Pairs (mixKind P w) es vs → ReadsAll h (es.map (·.key)) (vs.map fun kv => kD kv.1) [] ∧ es.map (·.val) = vs.map (·.2)
  | _, _, .nil => ⟨.nil, rfl⟩
  | _, _, .cons hk hv t => by
    obtain ⟨h1, h2⟩ := pairs_read (P := P) (w := w) (h := h) t
    refine ⟨?_, by rw [List.map_cons, List.map_cons, h2, hv]⟩
    rename_i e kv es kvs
    obtain ⟨k, vv⟩ := kv
    rcases keyIs_shape hk with ⟨i, t', e1, e2⟩ | ⟨x, t', e1, e2⟩
    · have e1' : k = Sum.inl i := e1
      subst e1'
      show ReadsAll h (e.key :: es.map (·.key)) (PyData.int i :: kvs.map fun kv => kD kv.1) []
      rw [e2]
      exact .cons (as := []) (bs := []) (.int i t') h1
    · have e1' : k = Sum.inr x := e1
      subst e1'
      show ReadsAll h (e.key :: es.map (·.key)) (PyData.str x :: kvs.map fun kv => kD kv.1) []
      rw [e2]
      exact .cons (as := []) (bs := []) (.str x t') h1
section
variable {F : Addr → Prop} {X : Cx} {pins : List (Addr × Obj)} {σ : L2.St} {H : Hp} {s : Shared}
theorem not_mods (I : Inv X pins σ H s) (hm : ∃ o, X.K.lookup sysModules = some o) {a : Addr} {o : HO} (e : H a = some o) : a ≠ sysModules := fun z => by
  obtain ⟨ob, hm⟩ := hm
  have q := (I.bs _ _ (I.ok.mod.kin _ _ hm)).2
  rw [z, q] at e
  cases e
mutual
theorem Dq.reads (I : Inv X pins σ H s) (hm : ∃ o, X.K.lookup sysModules = some o) : ∀ {v : V} {d : PyData}, Dq F H v d → ∀ u : Value, RelV v u → ∃ as, Reads s.heap u d as ∧ sysModules ∉ as
  | _, _, .non, u, r => by cases r; exact ⟨_, .none, by simp⟩
  | _, _, .bl b, u, r => by cases r; exact ⟨_, .bool b, by simp⟩
  | _, _, .int i, u, r => by obtain ⟨t, rfl⟩ := r; exact ⟨_, .int i t, by simp⟩
  | _, _, .str x, u, r => by obtain ⟨t, rfl⟩ := r; exact ⟨_, .str x t, by simp⟩
  | _, _, .lst (a := a) (xs := xs) _ e h, u, r => by
    cases r
    obtain ⟨_, its, n, rv, ho⟩ := (show ObjOk X.prog X.w H s.heap a (.lst xs) from I.hok a _ e)
    obtain ⟨as, q, nm⟩ := DqAll.reads I hm h its rv
    refine ⟨_, .list ho rfl rfl q, fun z => ?_⟩
    rcases List.mem_cons.mp z with z | z
    · exact not_mods I hm e z.symm
    · exact nm z
  | _, _, .tup (a := a) (xs := xs) _ e h, u, r => by
    cases r
    obtain ⟨_, its, rv, o, ho, hc, n, hd⟩ := (show ObjOk X.prog X.w H s.heap a (.tup xs) from I.hok a _ e)
    obtain ⟨as, q, nm⟩ := DqAll.reads I hm h its rv
    exact ⟨_, .tuple ho hc hd q, nm⟩
  | _, _, .dk (a := a) (kvs := kvs) (ds := ds) _ e h, u, r => by
    cases r
    obtain ⟨_, _, vs, kv, o, es, ep, ho, hx, hd, _, hp, _⟩ := (show ObjOk X.prog X.w H s.heap a (.dK kvs) from I.hok a _ e)
    obtain ⟨k1, k2⟩ := kv_two kv
    obtain ⟨p1, p2⟩ := pairs_read (h := s.heap) hp
    obtain ⟨as, q, nm⟩ := DqAll.reads I hm h (vs.map (·.2)) k1
    have hl := h.len
    have e1 : (((kvs.map fun kv => kD kv.1).zip ds).map (·.1)) = vs.map fun kv => kD kv.1 := by
      rw [List.map_fst_zip (by rw [List.length_map, ← hl, List.length_map]; exact Nat.le_refl _)]
      have : (kvs.map (·.1)).map kD = (vs.map (·.1)).map kD := by rw [k2]
      rw [List.map_map, List.map_map] at this
      exact this
    have e2 : (((kvs.map fun kv => kD kv.1).zip ds).map (·.2)) = ds := List.map_snd_zip (by rw [List.length_map, ← hl, List.length_map]; exact Nat.le_refl _)
    refine ⟨_, .dict ho hx.1 hd (as := []) (bs := as) (by rw [e1]; exact p1) (by rw [e2, p2]; exact q), fun z => ?_⟩
    rcases List.mem_append.mp z with z | z
    · rcases List.mem_cons.mp z with z | z
      · exact not_mods I hm e z.symm
      · cases z
    · exact nm z
theorem DqAll.reads (I : Inv X pins σ H s) (hm : ∃ o, X.K.lookup sysModules = some o) : ∀ {vs : List V} {ds : List PyData}, DqAll F H vs ds → ∀ us : List Value, Vals vs us → ∃ as, ReadsAll s.heap us ds as ∧ sysModules ∉ as
  | _, _, .nil, us, r => by cases r; exact ⟨_, .nil, by simp⟩
  | _, _, .cons h t, us, r => by
    cases r with
    | cons r1 r2 =>
      obtain ⟨as, q1, n1⟩ := Dq.reads I hm h _ r1
      obtain ⟨bs, q2, n2⟩ := DqAll.reads I hm t _ r2
      exact ⟨_, .cons q1 q2, fun z => (List.mem_append.mp z).elim n1 n2⟩
end
end
/-- repr(x) of data -/
def rRepr : List V → Hp → VK → Prop := fun xs H Q => ∃ (F : Addr → Prop) (x : V) (d : PyData), xs = [x] ∧ Dq F H x d ∧ d.showable = true ∧ d.depth ≤ 50 ∧ d.shown.length ≤ sizeLine ∧ Q (.str d.shown) H
theorem call_reprD {X : Cx} (hm : ∃ o, X.K.lookup sysModules = some o) (hg : X.A.guards = some []) (hu : X.A.units + 64 < cLine) : CallR X (.builtin "repr") rRepr := by
  intro pins s σ H xs us Q I r h
  obtain ⟨F, x, d, rfl, hd, hs, hdep, hl, q⟩ := h
  cases r with
  | @cons _ u _ _ rx rn =>
    cases rn
    obtain ⟨as, rd, nm⟩ := hd.reads I hm u rx
    have fin : ∀ (h' : Heap) (t : Tok) (tk : Nat), (∀ b o, s.heap.get? b = some o → h'.get? b = some o) → EP X pins σ Q (.str d.shown t) { s with heap := h', toks := tk } := fun h' t tk k => ⟨.str d.shown, H, I.kept (t' := tk) k, ⟨t, rfl⟩, q⟩
    cases rd with
    | none =>
      refine PySem.P.repr_of_none ?_
      have z := fin s.heap s.toks (s.toks + 1) fun _ _ e => e
      simpa [PyData.shown] using z
    | bool b =>
      refine PySem.P.repr_of_bool ?_
      have z := fin s.heap s.toks (s.toks + 1) fun _ _ e => e
      cases b <;> simpa [PyData.shown] using z
    | int i t =>
      refine PySem.P.repr_of_int (by simpa [PyData.showable] using hs) ?_
      have z := fin s.heap s.toks (s.toks + 1) fun _ _ e => e
      simpa [PyData.shown] using z
    | str y t =>
      refine PySem.P.repr_of_str ?_ (by simpa [PyData.shown] using hl)
      have z := fin s.heap s.toks (s.toks + 1) fun _ _ e => e
      simpa [PyData.shown] using z
    | list h1 h2 h3 h4 => exact repr_of_reads' (.list h1 h2 h3 h4) hs (fun _ => nm) hg (by omega) (fun _ _ e => e) (fun h' t tk k => fin h' t tk k) hl
    | tuple h1 h2 h3 h4 => exact repr_of_reads' (.tuple h1 h2 h3 h4) hs (fun _ => nm) hg (by omega) (fun _ _ e => e) (fun h' t tk k => fin h' t tk k) hl
    | dict h1 h2 h3 h4 h5 => exact repr_of_reads' (.dict h1 h2 h3 h4 h5) hs (fun _ => nm) hg (by omega) (fun _ _ e => e) (fun h' t tk k => fin h' t tk k) hl
end U

set_option Elab.async false
set_option linter.all false
set_option maxRecDepth 100000
set_option maxHeartbeats 4000000
namespace U
open PySem PySem.Spec PyProof.Rows L2
open PySem.W (Frag)
/-! ### weaker readings -/
section
variable {X : Cx}
theorem pe_mono {e : Expr} {t t' : TE} (h : PE X e t) (k : ∀ σ H Q, t' σ H Q → t σ H Q) : PE X e t' := ⟨fun pins s σ H Q I q => h.run pins s σ H Q I (k σ H Q q)⟩
theorem pa_mono {es : List Expr} {t t' : TA} (h : PA X es t) (k : ∀ σ H Q, t' σ H Q → t σ H Q) : PA X es t' := ⟨fun pos pins s σ H Q I q => h.run pos pins s σ H Q I (k σ H Q q)⟩
end
theorem same_new {H : Hp} {p : Addr} {o : HO} (n : H p = none) : Same H (upd H p o) := fun b u e => by
  rw [upd_ne (ne_of_none e n)]
  exact e
/-! ### expressions that give new data -/
def tData (d : PyData) : TE := fun _ H Q => ∀ v H', Same H H' → Dq (fun a => H a = none) H' v d → Q v H'
def tDatas (ds : List PyData) : TA := fun _ H Q => ∀ vs H', Same H H' → DqAll (fun a => H a = none) H' vs ds → Q vs H'
section
variable {X : Cx}
theorem pd_non {j pos} : PE X (.Constant .none j pos) (tData .none) := pe_mono pe_non fun σ H Q h => h .non H (Same.refl H) .non
theorem pd_bl {b j pos} : PE X (.Constant (.bool b) j pos) (tData (.bool b)) := pe_mono pe_bl fun σ H Q h => h (.bl b) H (Same.refl H) (.bl b)
theorem pd_int {i j pos} : PE X (.Constant (.int i) j pos) (tData (.int i)) := pe_mono pe_int fun σ H Q h => h (.int i) H (Same.refl H) (.int i)
theorem pd_str {x j pos} : PE X (.Constant (.str x) j pos) (tData (.str x)) := pe_mono pe_str fun σ H Q h => h (.str x) H (Same.refl H) (.str x)
theorem pd_neg {i : Int} {j p pos} : PE X (.UnaryOp .USub (.Constant (.int i) j p) pos) (tData (.int (-i))) := pe_mono (pe_un un_neg pe_int) fun σ H Q h => ⟨i, rfl, h (.int (-i)) H (Same.refl H) (.int (-i))⟩
theorem pds_nil : PA X [] (tDatas []) := pa_mono pa_nil fun σ H Q h => h [] H (Same.refl H) .nil
theorem pds_cons {e : Expr} {es : List Expr} {d : PyData} {ds : List PyData} (h : PE X e (tData d)) (hs : PA X es (tDatas ds)) (he : starEach (e :: es) X.env = (false, eval e X.env) :: starEach es X.env := by rfl) : PA X (e :: es) (tDatas (d :: ds)) :=
  pa_mono (pa_cons h hs he) fun σ H Q h => fun v H1 s1 q1 vs H2 s2 q2 => h (v :: vs) H2 (s1.trans s2) (.cons (q1.move (fun _ f => f) fun b o _ e => s2 b o e) (q2.move (fun b f => s1.free f) fun b o _ e => e))
theorem pd_lst {es : List Expr} {ds : List PyData} {pos : Pos} (hs : PA X es (tDatas ds)) (hl : ds.length ≤ 1000 := by decide) : PE X (.List es pos) (tData (.list ds)) :=
  pe_mono (pe_lst hs) fun σ H Q h => fun vs H1 s1 q1 => ⟨by rw [q1.len, sizeLine_eq]; omega, fun p np => h (.ref p) _ (s1.trans (same_new np)) (.lst (s1.free np) upd_same (q1.move (fun _ f => f) fun b o _ e => same_new np b o e))⟩
theorem pd_tup {es : List Expr} {ds : List PyData} {pos : Pos} {x1} (hs : PA X es (tDatas ds)) (hl : ds.length ≤ 1000 := by decide) : PE X (.Tuple es x1 pos) (tData (.tuple ds)) :=
  pe_mono (pe_tup hs) fun σ H Q h => fun vs H1 s1 q1 => ⟨by rw [q1.len, sizeLine_eq]; omega, fun p np => h (.ref p) _ (s1.trans (same_new np)) (.tup (s1.free np) upd_same (q1.move (fun _ f => f) fun b o _ e => same_new np b o e))⟩
theorem pd_dict0 {pos : Pos} : PE X (.Dict [] [] pos) (tData (.dict [])) :=
  pe_mono pe_dnewK fun σ H Q h => fun p np => h (.ref p) _ (same_new np) (.dk (kvs := []) (ds := []) np upd_same .nil)
theorem pd_dict1 {k : Str} {p pos : Pos} {jj} {e : Expr} {d : PyData} (he : PE X e (tData d)) : PE X (.Dict [some (.Constant (.str k) jj p)] [e] pos) (tData (.dict [(.str k, d)])) := by
  refine pe_mono (pe_disp (pps_cons pe_str he pps_nil) rfl rfl (fun z => by cases z) (show 1 ≤ 15 by decide)) fun σ H Q h => fun p np v H1 s1 q1 => ⟨s1 _ _ upd_same, [(Sum.inr k, v)], rfl, (show 1 ≤ 15 by decide), ?_⟩
  have hp : H1 p = some (.dK []) := s1 _ _ upd_same
  have mv : ∀ b o, b ≠ p → H1 b = some o → upd H1 p (.dK (mergeK [] [(Sum.inr k, v)])) b = some o := fun b o hb z => by
    rw [upd_ne hb]
    exact z
  refine h (.ref p) _ (fun b o z => mv b o (ne_of_none z np) (s1 b o (by rw [upd_ne (ne_of_none z np)]; exact z))) (.dk (kvs := [(Sum.inr k, v)]) (ds := [d]) np upd_same (.cons (q1.move (fun b f => ?_) fun b o f z => mv b o (fun y => ?_) z) .nil))
  · by_cases hb : b = p
    · rw [hb, upd_same] at f
      cases f
    · rw [upd_ne hb] at f
      exact f
  · have f' : upd H p (.dK []) b = none := f
    rw [y, upd_same] at f'
    cases f'
end
/-! ### a def called while no repr is under way -/
structure FnG (P : Program) (w : World) (K : Frag) (mg : Str → Option Value) (base : Heap) (k : Nat) (f : Addr) (fd : FuncData) (ps : List Str) (sp : Sp) : Prop where
  len : ∀ vs H Q E, sp vs H Q E → vs.length = ps.length
  run : ∀ (A : Around) (outer : List Env) (s : Shared) (H : Hp) (args : Args) (us : List Value) (vs : List V) (Q : VK) (E : XK), A.guards = some [] → Room k A → Env0 P w K mg base A outer s H → BindsTo s fd args (ps.zip us) → Vals vs us → sp vs H Q E →
    codeAny (model P w) A (.call (.ref f) args) (CR CX0 outer P w H s Q E) s
section
variable {P : Program} {w : World} {K : Frag} {mg : Str → Option Value} {base : Heap} {x qual : Str} {params : Arguments} {body : List Stmt} {scope : Scope} {dvs : List V} {kws : List (Str × V)} {f : Addr} {fd : FuncData}
theorem okG {N ps : List Str} {k : Nat} {sp : Sp} (F : FunD K x qual params body scope dvs kws f fd) (S : FnScope N ps scope) (len : ∀ vs H Q E, sp vs H Q E → vs.length = ps.length)
    (hbody : ∀ (cdv : Value) (A : Around) (outer : List Env) (s : Shared) (H : Hp) (vs : List V) (Q : VK) (E : XK), A.guards = some [] → Room k (A.deeper (envOfC qual scope s.heap.objs.size f cdv)) → sp vs H Q E →
      ∃ t, PSs (cxOf CX0 P w K mg base N qual scope f cdv A outer s H E) body t ∧ t { nx := fun _ H' => Q .non H', rt := Q } (start N vs) H) : FnG P w K mg base (k + 1) f fd ps sp := by
  refine ⟨len, fun A outer s H args us vs Q E hg hr e0 hb r hsp => ?_⟩
  obtain ⟨oc, od, dV, kV, doc, pm, an, cdv, ct, osl, rfl, lk, hcd, _, _⟩ := F.ex
  -- over this one A the promise is a plain one: its caller's guards are told by the promise itself
  have hl := len _ _ _ _ hsp
  have kb : ∀ b o, base.get? b = some o → s.heap.get? b = some o := fun b o e => (e0.bs b o e).1
  have KX : K.In s.heap := e0.mod.kin.keeps kb
  have lim : s.heap.NoLimit := e0.mod.nolimit.keeps kb
  have hkd : ∀ y ∈ ps.zip us, scope.names.lookup y.1 = some .local ∨ (scope.names.lookup y.1 = some .cell ∧ ((cellsFrom (s.heap.objs.size + 1) scope.names []).lookup y.1).isSome = true) := by
    rintro ⟨n, v⟩ hy
    exact (S.par n (List.of_mem_zip hy).1).imp (fun q => q) fun q => ⟨q, PySem.W.cellsFrom_some _ _ _ (.inl q)⟩
  refine codeAny_call_function hr.depth (KX _ _ lk) rfl S.co S.gen rfl (PySem.W.codeRec_of KX hcd) (hb _ _ _ _ (wpAny_newFunctionEnv_cells S.kind hkd fun env he s1 x => ?_))
  subst he
  refine ⟨lim.keeps x.toInCall.keep, codeAny_func ?_⟩
  obtain ⟨t, ht, hq⟩ := hbody cdv A outer s H vs Q E hg (hr.deeper _) hsp
  have I := inv_start (CX := CX0) (P := P) (w := w) (K := K) (mg := mg) (base := base) (qual := qual) (f := f) (cd := cdv) (E := E) S hr.hd e0 hl r x
  refine wpAny_mono (ht.run [] s1 (start N vs) H _ I hq) (fun fl s' hs => ?_) fun e s' hs => hs
  cases fl with
  | ret u =>
    obtain ⟨v, σ', H', J, rv, q⟩ := hs
    exact ⟨v, H', J.os, J.bare, J.base, J.hok, rv, q⟩
  | next =>
    obtain ⟨σ', H', J, q⟩ := hs
    exact ⟨.non, H', J.os, J.bare, J.base, J.hok, rfl, q⟩
  | brk => exact hs.elim fun _ ⟨_, _, q⟩ => q.elim
  | cont => exact hs.elim fun _ ⟨_, _, q⟩ => q.elim
end
section
variable {X : Cx} {k : Nat} {f : Addr} {fd : FuncData} {ps : List Str} {sp : Sp} {x : Str} {p pos : Pos} {e : Expr} {es : List Expr} {t : TA}
theorem pe_callG (F : FnG X.prog X.w X.K X.mg X.base k f fd ps sp) (hgu : X.A.guards = some []) (hr : Room k X.A) (hg : Gl X x) (hm : X.mg x = some (.ref f)) (hk : PySem.W.keepIn X.K (.ref f) = true) (hb : Binds X.K fd ps [])
    (ha : PA X (e :: es) t) (hdb : (x == ("__debug__" : Str)) = false := by decide) (he : starEach (e :: es) X.env = (false, eval e X.env) :: starEach es X.env := by rfl) (hpl : (backTo pos (starEach es X.env)).any (·.1) = false := by rfl) :
    PE X (.Call (.Name x p) (e :: es) [] pos) (tCall sp [] E0 t) := by
  refine ⟨fun pins s σ H Q I h => ?_⟩
  refine wpAny_Call_Name_kw (ld_glob I hg hm ?_ hdb)
  refine PySem.W.callWith_K (h₀ := X.base) I.ok.mod.kin hk (thn (ha.run pos pins s σ H _ I h) fun us s1 ⟨vs, H1, I1, r, q⟩ => ⟨I1.kIn, ?_⟩) he hpl
  have q' : sp vs H1 Q E0 := by
    have z : sp (vs ++ []) H1 Q E0 := q
    rw [List.append_nil] at z
    exact z
  have hl : us.length = ps.length := by
    rw [← r.length]
    exact F.len _ _ _ _ q'
  refine wpAny_call (codeAny_mono (F.run X.A X.stack s1 H1 ⟨us, []⟩ us vs Q E0 hgu hr I1.env0 (by have z := hb s1 us I1.kIn (by rw [List.append_nil]; exact hl); rw [List.append_nil] at z; exact z) r q') fun rr s' hq => ?_)
  cases rr with
  | error er => exact False.elim hq
  | ok fl =>
    cases fl with
    | ret u => exact I1.after hq
    | next => exact False.elim hq
    | brk => exact False.elim hq
    | cont => exact False.elim hq
/-- ** with a great base -/
theorem op_powW : OpR X (binaryOp .Pow) (rI (fun i j => 0 ≤ j ∧ (Builtin.Int.intBits i : Int) * j ≤ 2 ^ 27) fun i j => .int (i ^ j.toNat)) := opI fun _ _ _ _ _ _ _ hc q => pow_int hc.1 hc.2 q
end
end U

set_option Elab.async false
set_option linter.all false
set_option maxRecDepth 100000
set_option maxHeartbeats 4000000
namespace U
open PySem PySem.Spec PyProof.Rows L2
open PySem.W (Frag)
/-! ### the facts as Bools -/
def eqB (a b : Option Bool) : Bool := decide (a = b)
def eqV (a b : Option Value) : Bool := decide (a = b)
def eqOO (a b : Option (Option Value)) : Bool := decide (a = b)
def clsB (K : Frag) (C : Addr) : Bool := match K.lookup C with
  | some ⟨.type t, _, .cls cd, sl⟩ => decide (t = "type") && (cd.hasDict && (!cd.hasDel && ((match cd.mro with
    | .ref c :: bm => decide (c = C) && PySem.HandSPX.refsVE bm
    | _ => false) && (match sl.toList with
    | [_, _, _, _, some (.builtin n), _] => decide (n = "ValueError.__new__")
    | _ => false))))
  | _ => false
theorem clsB_ok {K : Frag} {C : Addr} (h : clsB K C = true) : ∃ nm q N bs bm sn sub ab col dd k0 k1 k2 k3 k5, K.lookup C = some (excClassObj nm q C N bs bm true sn sub ab col dd k0 k1 k2 k3 k5 "ValueError.__new__") ∧ PySem.HandSPX.refsVE bm = true := by
  unfold clsB at h
  split at h
  · rename_i t dd cd sl ho
    simp only [Bool.and_eq_true, decide_eq_true_eq, Bool.not_eq_true'] at h
    obtain ⟨rfl, h1, h2, h3, h4⟩ := h
    split at h3
    · rename_i c bm hm
      simp only [Bool.and_eq_true, decide_eq_true_eq] at h3
      obtain ⟨rfl, h3⟩ := h3
      split at h4
      · rename_i k0 k1 k2 k3 n k5 hs
        have hn : n = "ValueError.__new__" := by simpa using h4
        subst hn
        obtain ⟨nm, bs, mro, N, q, hd, sn, sub, ab, col, del⟩ := cd
        simp only at h1 h2 hm
        subst h1 h2 hm
        have hs' : sl = #[k0, k1, k2, k3, some (.builtin "ValueError.__new__"), k5] := by
          rw [← hs]
        subst hs'
        exact ⟨nm, q, N, bs, bm, sn, sub, ab, col, dd, k0, k1, k2, k3, k5, ho, h3⟩
      · cases h4
    · cases h3
  · cases h
def errB (K : Frag) (D fI C : Addr) : Bool :=
  clsB K C && (eqOO (PySem.W.findIn K (.ref C) "__setattr__") (some (some (.builtin "object.__setattr__"))) && (eqOO (PySem.W.findIn K (.ref C) "__getattribute__") (some (some (.builtin "BaseException.__getattribute__"))) && (eqOO (PySem.W.findIn K (.ref C) "__getattr__") (some none) &&
  (eqOO (PySem.W.findIn K (.ref C) "value") (some none) && (eqOO (PySem.W.findIn K (.ref C) "__init__") (some (some (.ref fI))) && (eqV (PySem.W.typeIn K (.ref fI)) (some (.type "function")) && (PySem.W.keepIn K (.ref C) && (eqB (PySem.W.subIn K (.ref C) (.type "BaseException")) (some true) &&
  (eqV (PySem.W.typeIn K (.ref C)) (some (.type "type")) && (PySem.W.hasDictIn K C && (eqB (PySem.W.mroIn K C (.ref D)) (some true) && (eqOO (PySem.W.ks_superIn K C D "__init__") (some (some (.builtin "ValueError.__init__"))) && (eqB (PySem.W.subIn K (.ref C) (.type "ValueError")) (some true) &&
  (eqOO (PySem.W.findIn K (.ref C) "__class__") (some (some (.builtin "object.__class__"))) && (eqOO (PySem.W.specialIn K (.builtin "object.__class__") "__get__") (some (some (.builtin "getset_descriptor.__get__"))) && (eqB (PySem.W.takesIn K (.builtin "object.__class__")) (some true) && eqB (PySem.W.mroIn K C (.type "object")) (some true)))))))))))))))))
theorem errB_ok {K : Frag} {D fI C : Addr} (h : errB K D fI C = true) : ErrC K D fI C := by
  unfold errB at h
  obtain ⟨h1, h⟩ := He.ba h
  obtain ⟨h2, h⟩ := He.ba h
  obtain ⟨h3, h⟩ := He.ba h
  obtain ⟨h4, h⟩ := He.ba h
  obtain ⟨h5, h⟩ := He.ba h
  obtain ⟨h6, h⟩ := He.ba h
  obtain ⟨h7, h⟩ := He.ba h
  obtain ⟨h8, h⟩ := He.ba h
  obtain ⟨h9, h⟩ := He.ba h
  obtain ⟨h10, h⟩ := He.ba h
  obtain ⟨h11, h⟩ := He.ba h
  obtain ⟨h12, h⟩ := He.ba h
  obtain ⟨h13, h⟩ := He.ba h
  obtain ⟨h14, h⟩ := He.ba h
  obtain ⟨h15, h⟩ := He.ba h
  obtain ⟨h16, h⟩ := He.ba h
  obtain ⟨h17, h18⟩ := He.ba h
  exact ⟨clsB_ok h1, of_decide_eq_true h2, of_decide_eq_true h3, of_decide_eq_true h4, of_decide_eq_true h5, of_decide_eq_true h6, of_decide_eq_true h7, h8, of_decide_eq_true h9, of_decide_eq_true h10, h11, of_decide_eq_true h12, of_decide_eq_true h13, of_decide_eq_true h14, of_decide_eq_true h15, of_decide_eq_true h16, of_decide_eq_true h17, of_decide_eq_true h18⟩
/-! ### the base's __init__ -/
abbrev FnC : Type := Option (Str × Str × Arguments × FuncBody × Scope × Addr × List Str × Addr)
def fnC (K : Frag) (fI : Addr) : FnC := match K.lookup fI with
  | some ⟨_, _, .func fd, _⟩ => some (fd.name, fd.qualname, fd.params, fd.body, fd.scope, fd.globals, fd.closure.map (·.1), fd.builtins)
  | _ => none
def codeB (file : Str) (K : Frag) (cd : Value) : Bool := match cd with
  | .ref cda => PySem.W.codeIn K (.ref cda) "TableError.__init__" && (match K.lookup cda with
    | some ⟨_, _, .fields vs, _⟩ => (match (vs[(2 : Nat)]? : Option Value) with
      | some (.str z _) => file == z
      | _ => false)
    | _ => false)
  | _ => false
def cellB (K : Frag) (D : Addr) (cl : List (Str × Addr)) : Bool := match cl with
  | [(_, cc)] => (match K.lookup cc with
    | some ⟨_, _, .cell (some (.ref c)), _⟩ => decide (c = D)
    | _ => false)
  | _ => false
def initB (file : Str) (K : Frag) (D fI : Addr) : Bool := (match K.lookup fI with
    | some ⟨_, _, .func fd, _⟩ => eqV (some fd.defaults) (some .none) && (codeB file K fd.code && cellB K D fd.closure)
    | _ => false) && ((PySem.W.clsIn K D).isSome && (eqOO (PySem.W.nsIn K mainGlobals "super") (some none) && eqOO (PySem.W.nsIn K cStatics "thirdparty.any") (some none)))
def initV (p1 p2 q1 q2 q3 q4 q5 q6 q7 q8 q9 q10 : Pos) : FnC := some (("__init__" : Str), ("TableError.__init__" : Str), iA p1 p2, FuncBody.stmts (iB q1 q2 q3 q4 q5 q6 q7 q8 q9 q10), iS, mainGlobals, [("__class__" : Str)], builtinsNs)
theorem init_of {prog : Program} {K : Frag} {D fI : Addr} {p1 p2 q1 q2 q3 q4 q5 q6 q7 q8 q9 q10 : Pos} (hl : (q3.endLine == q5.line) = true) (ht : (prog.main.scope.names.lookup ("super" : Str)).isSome = false)
    (e : fnC K fI = initV p1 p2 q1 q2 q3 q4 q5 q6 q7 q8 q9 q10) (b : initB prog.main.file K D fI = true) : InitTxt prog K D fI := by
  unfold initB at b
  obtain ⟨b1, b⟩ := He.ba b
  obtain ⟨b2, b⟩ := He.ba b
  obtain ⟨b3, b4⟩ := He.ba b
  unfold fnC at e
  cases q : K.lookup fI with
  | none =>
    rw [q] at b1
    cases b1
  | some o =>
    obtain ⟨oc, od, dt, osl⟩ := o
    rw [q] at b1 e
    cases dt with
    | func fd =>
      obtain ⟨n1, n2, n3, n4, n5, n6, n7, n8, n9, n10, n11, n12, n13, n14, n15⟩ := fd
      have e2 : (some (n1, n2, n3, n4, n5, n6, n7.map (·.1), n15) : FnC) = initV p1 p2 q1 q2 q3 q4 q5 q6 q7 q8 q9 q10 := e
      unfold initV at e2
      simp only [Option.some.injEq, Prod.mk.injEq] at e2
      obtain ⟨h1, h2, h3, h4, h5, h6, h7, h8⟩ := e2
      have b1' : (eqV (some n8) (some .none) && (codeB prog.main.file K n13 && cellB K D n7)) = true := b1
      obtain ⟨c1, c⟩ := He.ba b1'
      obtain ⟨c2, c3⟩ := He.ba c
      have d8 : n8 = .none := Option.some.inj (of_decide_eq_true c1)
      unfold codeB at c2
      cases n13 with
      | ref cda =>
        obtain ⟨c4, c5⟩ := He.ba c2
        unfold cellB at c3
        cases n7 with
        | nil => cases h7
        | cons r n7 =>
          cases n7 with
          | cons _ _ => simp at h7
          | nil =>
            obtain ⟨z, cc⟩ := r
            have hz : z = "__class__" := (List.cons.inj h7).1
            subst h1 h2 h3 h4 h5 h6 h8 d8 hz
            refine ⟨⟨oc, od, n9, n10, n11, n12, cda, cc, n14, osl, p1, p2, q1, q2, q3, q4, q5, q6, q7, q8, q9, q10, q, hl, c4, ?_, ?_⟩, b2, of_decide_eq_true b3, of_decide_eq_true b4, ht⟩
            · split at c5
              · rename_i ccl cdd vs ccs ho
                split at c5
                · rename_i file tf hv
                  exact ⟨ccl, cdd, vs, ccs, file, tf, ho, hv, c5⟩
                · cases c5
              · cases c5
            · have c3' : (match K.lookup cc with
                | some ⟨_, _, .cell (some (.ref c)), _⟩ => decide (c = D)
                | _ => false) = true := c3
              split at c3'
              · rename_i cl cld c csl hc
                have hD : c = D := of_decide_eq_true c3'
                rw [hD] at hc
                exact ⟨_, _, _, hc⟩
              · cases c3'
      | _ => cases c2
    | _ => cases b1
/-! ### the hook -/
def asU (g : Addr → Option Obj) (n : Nat) : List Addr := cStatics :: sysModules :: He.asD g n
abbrev AlU : Type := He.AlT × Bool × FnC
def obsU (n : Nat) (fa : List He.Fa) (fn : List He.DefD) (ts : List He.Tab) (ex : Frag → Bool) (fc : Frag → FnC) (g : Addr → Option Obj) : AlU := (He.obsT fa fn ts (He.frG g (asU g n)), ex (He.frG g (asU g n)), fc (He.frG g (asU g n)))
def hookU (n : Nat) (fa : List He.Fa) (fn : List He.DefD) (ts : List He.Tab) (ex : Frag → Bool) (fc : Frag → FnC) (vc : FnC) : PySem.W.Hook where
  α := AlU
  obs := fun s => obsU n fa fn ts ex fc s.heap.get?
  val := fun w => (He.valT fn ts w, true, vc)
  says := fun w h => ∃ K : Frag, K.In h ∧ He.SaysT fa fn ts w K ∧ ex K = true ∧ fc K = vc
  of := fun w s e => ⟨_, He.frG_in, congrArg (fun z : AlU => z.1) e, congrArg (fun z : AlU => z.2.1) e, congrArg (fun z : AlU => z.2.2) e⟩
  keeps := fun _ _ _ ⟨K, hK, c⟩ k => ⟨K, PySem.W.Frag.In.keeps hK k, c⟩
theorem obsU_eq {n : Nat} {fa : List He.Fa} {fn : List He.DefD} {ts : List He.Tab} {ex : Frag → Bool} {fc : Frag → FnC} {vc : FnC} {g : Addr → Option Obj} {s : Shared} (h : ∀ a, g a = s.heap.get? a) : obsU n fa fn ts ex fc g = (hookU n fa fn ts ex fc vc).obs s := by
  have e : g = s.heap.get? := funext h
  subst e
  rfl
end U

set_option Elab.async false
set_option linter.all false
set_option maxRecDepth 100000
set_option maxHeartbeats 4000000
namespace U
open PySem PySem.Spec PyProof.Rows L2
open PySem.W (Frag)
/-- the law's call, its def being known only where no repr is under way -/
theorem call_lawG {P : Program} {w : World} {K : Frag} {mg mb : Str → Option Value} {k : Nat} {fa a : Addr} {fd : FuncData} {x : Str} {sp : Sp} {s1 : Shared} {vs : List Value} {ns : List Int} (KX : K.In s1.heap) (hns : s1.heap.Ns mainGlobals mg) (hb : s1.heap.Ns builtinsNs mb)
    (hbb : ∀ x : Str, x ≠ "__name__" → mb x = bootBuiltins x) (hlim : s1.heap.NoLimit) (hg : s1.gens = #[]) (ha : s1.heap.get? a = some { cls := .type "list", data := .seq vs.toArray }) (hi : IntsAre vs ns) (hl : ns.length ≤ sizeLine) (hr : Room k callerA)
    (F : ∀ b : Heap, K.In b → b.Ns mainGlobals mg → FnG P w K mg b k fa fd [x] sp) (hbind : ∀ (s : Shared) (u : Value), BindsTo s fd ⟨[u], []⟩ [(x, u)]) (hsp : ∀ H : Hp, Only H → SqL K H a (ns.map V.int) → sp [.ref a] H (fun v _ => v = .bl true) fun _ _ _ => False) :
    codeAny (model P w) callerA (.call (.ref fa) ⟨[.ref a], []⟩) (fun r s' => r = .ok (.ret (.bool true)) ∧ OldK s1.heap s'.heap ∧ s'.os = s1.os ∧ AllBare s'.gens) s1 := by
  have rv := vals_ints hi
  have run : ∀ H : Hp, Only H → SqL K H a (ns.map V.int) → HOk P w H s1.heap → (∀ b, H b ≠ none → b = a) → (H a ≠ none → K.lookup a = none) → codeAny (model P w) callerA (.call (.ref fa) ⟨[.ref a], []⟩) (fun r s' => r = .ok (.ret (.bool true)) ∧ OldK s1.heap s'.heap ∧ s'.os = s1.os ∧ AllBare s'.gens) s1 := by
    intro H hO hS hok hA hK
    have nos : ∀ {b : Addr} {o : Obj} {es : Array DictEntry} {ep : Nat}, s1.heap.get? b = some o → o.data = .dict es ep → H b = none := by
      intro b o es ep e d
      cases q : H b with
      | none => rfl
      | some u =>
        obtain rfl : b = a := hA b (by rw [q]; exact Option.some_ne_none u)
        cases ha.symm.trans e
        cases (show Data.seq vs.toArray _ = Data.dict es ep from d)
    have ns1 : ∀ {b : Addr} {m : Str → Option Value}, s1.heap.Ns b m → (hidT s1.heap H).Ns b m := by
      rintro b m ⟨o, es, ep, e, d, r⟩
      exact ⟨o, es, ep, hidT_get e (nos e d), d, r⟩
    have KB : K.In (hidT s1.heap H) := by
      intro b o e
      refine hidT_get (KX b o e) ?_
      cases q : H b with
      | none => rfl
      | some u =>
        obtain rfl : b = a := hA b (by rw [q]; exact Option.some_ne_none u)
        have z := hK (by rw [q]; exact Option.some_ne_none u)
        cases z.symm.trans e
    obtain ⟨mc, l1, l2⟩ := hlim
    have M : Mod K mg (hidT s1.heap H) := ⟨KB, ns1 hns, ⟨mb, ns1 hb, hbb⟩, ⟨mc, ns1 l1, l2⟩⟩
    have e0 : Env0 P w K mg (hidT s1.heap H) callerA [] s1 H := ⟨rfl, M, fun b o e => of_hidT e, Nat.le_of_eq (hidT_size _ _), trivial, fun b hb => absurd (show b ∈ ([] : List Addr) from hb) List.not_mem_nil, hok, .of_eq hg⟩
    refine codeAny_mono ((F _ KB (ns1 hns)).run callerA [] s1 H ⟨[.ref a], []⟩ [.ref a] [.ref a] _ _ rfl hr e0 (hbind s1 (.ref a)) (.cons rfl .nil) (hsp H hO hS)) fun r s' h => ?_
    match r, h with
    | .error _, h => exact False.elim h
    | .ok .next, h => exact False.elim h
    | .ok .brk, h => exact False.elim h
    | .ok .cont, h => exact False.elim h
    | .ok (.ret u), h =>
      obtain ⟨v, H', os, bare, un, hok', r', rfl⟩ := h
      obtain rfl : u = Value.bool true := r'
      refine ⟨rfl, OldK.of_keep fun b o e => ?_, os, bare⟩
      rcases hO b with z | ⟨ob, xs, z⟩
      · exact un.keep b o e z (fun y => absurd (show b ∈ ([] : List Addr) from y) List.not_mem_nil) (by simp)
      · obtain ⟨e1, _⟩ := hok b _ z
        obtain ⟨e2, _⟩ := hok' b _ (un.frzs b ob _ z)
        rw [e] at e1
        cases e1
        exact e2
  cases hk : K.lookup a with
  | some o =>
    cases ha.symm.trans (KX a o hk)
    exact run (fun _ => none) (fun _ => .inl rfl) (.inr ⟨_, vs.toArray, _, hk, rfl, rfl, rfl, by rw [List.size_toArray, hi.length]; exact hl, by simpa using rv⟩) (fun b u z => nomatch (show (none : Option HO) = some u from z)) (fun b z => absurd rfl z) fun z => absurd rfl z
  | none =>
    refine run (fun b => if b = a then some (.frz { cls := .type "list", data := .seq vs.toArray } (.lst (ns.map V.int))) else none) (fun b => ?_) (.inl (.inr ⟨{ cls := .type "list", data := .seq vs.toArray }, if_pos rfl⟩)) (fun b u z => ?_) (fun b z => ?_) fun _ => hk
    all_goals by_cases hb : b = a
    · exact .inr ⟨_, _, if_pos hb⟩
    · exact .inl (if_neg hb)
    · cases (if_pos hb).symm.trans z
      subst hb
      exact ⟨ha, by rw [List.length_map]; exact hl, vs, _, rv, ha⟩
    · cases (if_neg hb).symm.trans z
    · exact hb
    · exact absurd (if_neg hb) z
theorem walk_lawG {l : PySem.W.OpenLaw} {n k : Nat} {q : Program} {loose : List Str} {XP : (Str → Option Value) → Heap → Prop} {YP : World → Heap → Prop} {d : DefRec} {x : Str} (hn : l.most = some n) (hn2 : n ≤ sizeLine) (hdf : d.params.defaults = []) (hr : Room k callerA)
    (F : ∀ (w : World) (mg : Str → Option Value) (fa : Addr) (h : Heap), YP w h → h.Ns mainGlobals mg → mg d.name = some (.ref fa) → ∃ (K : Frag) (fd : FuncData) (sp : Sp), K.In h ∧ (∀ (s : Shared) (u : Value), BindsTo s fd ⟨[u], []⟩ [(x, u)]) ∧
      (∀ (H : Hp) (a : Addr) (ns : List Int), ns.length ≤ n → Only H → SqL K H a (ns.map V.int) → sp [.ref a] H (fun v _ => v = .bl true) fun _ _ _ => False) ∧ ∀ b : Heap, K.In b → b.Ns mainGlobals mg → FnG l.prog w K mg b k fa fd [x] sp) :
    PySem.W.WalkO q loose XP YP l.row.toRowW d [] (fun f vs => PySem.call f vs) := by
  refine Att.attach_call hn hdf fun w s0 s1 mg mb fa o pm cd doc a vs ns G Y ho hd hcd hmg hobj hints hlen hg => ?_
  obtain ⟨K, fd, sp, KX, hb, hsp, hF⟩ := F w mg fa _ Y G.T.g hmg
  exact call_lawG KX G.T.g G.T.b G.T.builtins G.T.nolimit hg hobj hints (Nat.le_trans hlen hn2) hr hF hb fun H hO hS => hsp H a ns hlen hO hS
end U

set_option Elab.async false
set_option linter.all false
set_option maxRecDepth 100000
set_option maxHeartbeats 4000000
namespace U0
open PySem PySem.Spec PyProof.Rows L2 U
open PySem.W (Frag)
def top (i : Nat) : Stmt := PySem.Challenge.pw_unnotedtables_k00_errors_keep_their_valu.main.body.getD i (.Pass ⟨0, 0, 0, 0⟩)
abbrev s_pot : Stmt := top 37
abbrev s_take : Stmt := top 38
abbrev s_of : Stmt := top 39
abbrev s_pots : Stmt := top 40
abbrev FnP (K : Frag) (x : Str) (st : Stmt) (f : Addr) (fd : FuncData) : Prop := FunD K x x (defArgs st) (defBody st) (defScope st) [] [] f fd
/-! ### a pot of draws -/
def potL (own mix c : Int) : HO := .lst [.int own, .int mix, .int c]
def PotOk (own mix c : Int) (n : Nat) : Prop := 0 ≤ own ∧ 0 ≤ mix ∧ mix < 2305843009213693921 ∧ 0 ≤ c ∧ c ≤ n
def Pot (H : Hp) (p : Addr) (n : Nat) : Prop := ∃ own mix c, H p = some (potL own mix c) ∧ PotOk own mix c n
/-- all is kept but what stands at p -/
def Ext (p : Addr) (H H' : Hp) : Prop := ∀ b o, b ≠ p → H b = some o → H' b = some o
theorem Ext.refl (p : Addr) (H : Hp) : Ext p H H := fun _ _ _ e => e
theorem Ext.trans {p : Addr} {H H1 H2 : Hp} (a : Ext p H H1) (b : Ext p H1 H2) : Ext p H H2 := fun c o hc e => b c o hc (a c o hc e)
theorem Ext.upd (p : Addr) (H : Hp) (o : HO) : Ext p H (upd H p o) := fun b u hb e => by
  rw [upd_ne hb]
  exact e
theorem Ext.of {p : Addr} {H H' : Hp} (s : Same H H') : Ext p H H' := fun b o _ e => s b o e
/-- _law_take(pot, upto): some number below upto; the pot is another one -/
def spTake (n : Nat) : Sp := fun vs H Q _ => ∃ (p : Addr) (u : Int), vs = [.ref p, .int u] ∧ 0 < u ∧ u < 1000000 ∧ n ≤ 100000 ∧ Pot H p n ∧
  ∀ (d : Int) (H' : Hp), 0 ≤ d → d < u → Pot H' p (n + 1) → Ext p H H' → Q (.int d) H'
theorem scTake : FnScope ["_law_pot_here", "_law_upto", "_law_digit", "_law_prime", "_law_mixed"] ["_law_pot_here", "_law_upto"] (defScope s_take) :=
  ⟨rfl, rfl, rfl, by decide +kernel, rfl, by decide +kernel, by decide +kernel⟩
section
variable {P : Program} {w : World} {K : Frag} {mg : Str → Option Value} {base : Heap} {f fT : Addr} {fd fdT : FuncData}
theorem primes (c : Int) (h0 : 0 ≤ c) : ∃ q : Int, 0 < q ∧ q ≤ 2147483647 ∧ atI ([V.int 2147483647, .int 2147483629, .int 2147483587, .int 2147483579, .int 2147483563]) (c % 5) = some (.int q) := by
  have h5 : c % 5 = 0 ∨ c % 5 = 1 ∨ c % 5 = 2 ∨ c % 5 = 3 ∨ c % 5 = 4 := by omega
  rcases h5 with h | h | h | h | h <;> rw [h] <;> exact ⟨_, by decide, by decide, rfl⟩
theorem ok_take (F : FnP K "_law_take" s_take f fd) (gI : mg "int" = none) (n : Nat) : FnOk P w K mg base CX0 1 f fd ["_law_pot_here", "_law_upto"] (spTake n) := by
  refine F.ok scTake (fun vs H Q E h => ?_) (fun cdv A outer s H vs Q E hr h => ?_)
  · obtain ⟨p, u, rfl, _⟩ := h
    rfl
  · obtain ⟨p, u, rfl, hu0, hu1, hn, ⟨own, mix, c, hp, ho, hm0, hm1, hc0, hc1⟩, hq⟩ := h
    refine ⟨_, PSs.nox (pss_cons (ps_if (pt_cmpR op_gt (pe_ix ix_list (pv 0) pe_int (fun _ _ => rfl)) pe_int (nomark _))
      (pss_cons (ps_set (i := 2) scTake.nd rfl (Or.inl rfl) (pe_op op_mod (pe_callTy call_int1 (by rfl) gI PyProof.Rows.boot_int (pa_cons (pe_ix ix_list (pv 0) pe_int (fun _ _ => rfl)) pa_nil)) (pv 1)))
        (pss_cons (ps_asg (pe_op op_fdiv (pe_ix ix_list (pv 0) pe_int (fun _ _ => rfl)) (pv 1)) (pg_sub (pv 0) pe_int set_list))
        (pss_one (ps_ret (pv 2))))) pss_nil)
      (pss_cons (ps_asg (pe_op op_add (pe_ix ix_list (pv 0) pe_int (fun _ _ => rfl)) pe_int) (pg_sub (pv 0) pe_int set_list))
      (pss_cons (ps_set (i := 3) scTake.nd rfl (Or.inl rfl) (pe_ix ix_list (pe_lst (pa_cons pe_int (pa_cons pe_int (pa_cons pe_int (pa_cons pe_int (pa_cons pe_int pa_nil))))))
          (pe_op op_mod (pe_callTy call_int1 (by rfl) gI PyProof.Rows.boot_int (pa_cons (pe_ix ix_list (pv 0) pe_int (fun _ _ => rfl)) pa_nil)) pe_int) (fun _ _ => rfl)))
      (pss_cons (ps_set (i := 4) scTake.nd rfl (Or.inl rfl) (pe_op op_mod (pe_callTy call_int1 (by rfl) gI PyProof.Rows.boot_int (pa_cons (pe_op op_pow (pe_callTy call_int1 (by rfl) gI PyProof.Rows.boot_int (pa_cons
          (pe_op op_add (pe_op op_add (pe_ix ix_list (pv 0) pe_int (fun _ _ => rfl)) (pe_op op_mul (pe_op op_mul pe_int (pe_ix ix_list (pv 0) pe_int (fun _ _ => rfl))) (pe_ix ix_list (pv 0) pe_int (fun _ _ => rfl)))) pe_int) pa_nil)) pe_int) pa_nil)) (pv 3)))
      (pss_cons (ps_set (i := 4) scTake.nd rfl (Or.inl rfl) (pe_op op_mod (pe_callTy call_int1 (by rfl) gI PyProof.Rows.boot_int (pa_cons (pe_op op_mul (pv 4)
          (pe_op op_add (pe_op op_mod (pe_callTy call_int1 (by rfl) gI PyProof.Rows.boot_int (pa_cons (pv 4) pa_nil)) pe_int) (pe_op op_mul pe_int (pe_ix ix_list (pv 0) pe_int (fun _ _ => rfl))))) pa_nil)) pe_int))
      (pss_one (ps_ret (pe_op op_mod (pe_callTy call_int1 (by rfl) gI PyProof.Rows.boot_int (pa_cons (pe_op op_fdiv (pv 4) pe_int) pa_nil)) (pv 1))))))))), ?_⟩
    have hs : SqL K H p [.int own, .int mix, .int c] := .inl (.inl hp)
    refine ⟨_, rfl, p, _, 0, .int own, rfl, rfl, hs, rfl, _, _, rfl, rfl, _, rfl, ?_⟩
    by_cases h0 : (0 : Int) < own
    · rw [decide_eq_true h0]
      refine iteT ?_
      refine ⟨_, rfl, p, _, 0, .int own, rfl, rfl, hs, rfl, .inl ⟨own, rfl, _, rfl, own, u, rfl, rfl, hu0, ?_⟩⟩
      refine ⟨_, rfl, p, _, 0, .int own, rfl, rfl, hs, rfl, _, rfl, own, u, rfl, rfl, ⟨hu0, by omega⟩, ?_⟩
      refine ⟨_, rfl, p, _, 0, 0, rfl, rfl, hp, rfl, ?_⟩
      refine ⟨_, rfl, ?_⟩
      exact hq (own % u) _ (Int.emod_nonneg _ (by omega)) (Int.emod_lt_of_pos _ hu0) ⟨own / u, mix, c, upd_same, Int.ediv_nonneg ho (by omega), hm0, hm1, hc0, by omega⟩ (Ext.upd _ _ _)
    · rw [decide_eq_false h0]
      refine iteF ?_
      refine ⟨_, rfl, p, _, 2, .int c, rfl, rfl, hs, rfl, _, _, rfl, rfl, ?_⟩
      refine ⟨_, rfl, p, _, 2, 2, rfl, rfl, hp, rfl, ?_⟩
      have hp1 : upd H p (.lst (([.int own, .int mix, .int c] : List V).set 2 (.int (c + 1)))) p = some (potL own mix (c + 1)) := upd_same
      have hs1 : SqL K (upd H p (potL own mix (c + 1))) p [.int own, .int mix, .int (c + 1)] := .inl (.inl hp1)
      show tSeq _ _ _ _ (upd H p (potL own mix (c + 1)))
      refine ⟨(show 5 ≤ sizeLine by decide), fun l nl => ?_⟩
      have nlp : l ≠ p := Ne.symm (ne_of_none hp1 nl)
      have hs2 : SqL K (upd (upd H p (potL own mix (c + 1))) l (.lst [.int 2147483647, .int 2147483629, .int 2147483587, .int 2147483579, .int 2147483563])) p [.int own, .int mix, .int (c + 1)] := .inl (.inl (by rw [upd_ne (Ne.symm nlp)]; exact hp1))
      obtain ⟨q, q0, q1, hat⟩ := primes (c + 1) (by omega)
      refine ⟨_, rfl, p, _, 2, .int (c + 1), rfl, rfl, hs2, rfl, .inl ⟨_, rfl, c + 1, 5, rfl, rfl, (by show (0 : Int) < 5; decide), l, _, _, .int q, rfl, rfl, .inl (.inl upd_same), hat, ?_⟩⟩
      have hb : (mix + 102253 * (c + 1) * (c + 1) + 83).natAbs < 2 ^ 64 := by
        have h1 : 102253 * (c + 1) * (c + 1) ≤ 102253 * 100001 * 100001 := by
          have a1 : 102253 * (c + 1) ≤ 102253 * 100001 := by omega
          exact Int.mul_le_mul a1 (by omega) (by omega) (by decide)
        have h2 : 0 ≤ 102253 * (c + 1) * (c + 1) := Int.mul_nonneg (by omega) (by omega)
        omega
      refine ⟨_, rfl, p, _, 1, .int mix, rfl, rfl, hs2, rfl, _, rfl, p, _, 2, .int (c + 1), rfl, rfl, hs2, rfl, _, _, rfl, rfl, .inl ⟨by decide, by decide⟩, _, rfl, p, _, 2, .int (c + 1), rfl, rfl, hs2, rfl, _, _, rfl, rfl, .inr ⟨by omega, by omega⟩,
        _, _, rfl, rfl, _, _, rfl, rfl, .inl ⟨_, rfl, _, _, rfl, rfl, ⟨by decide, by decide, hb⟩, .inl ⟨_, rfl, _, rfl, _, _, rfl, rfl, q0, ?_⟩⟩⟩
      generalize hM : (mix + 102253 * (c + 1) * (c + 1) + 83) ^ (3 : Int).toNat % q = M
      have hM0 : 0 ≤ M := by rw [← hM]; exact Int.emod_nonneg _ (by omega)
      have hM1 : M < 2147483647 := by
        have := Int.emod_lt_of_pos ((mix + 102253 * (c + 1) * (c + 1) + 83) ^ (3 : Int).toNat) q0
        omega
      refine ⟨_, rfl, _, rfl, .inl ⟨_, rfl, _, _, rfl, rfl, (by show (0 : Int) < 10133; decide), _, rfl, p, _, 2, .int (c + 1), rfl, rfl, hs2, rfl, _, _, rfl, rfl, .inl ⟨by decide, by decide⟩, _, _, rfl, rfl, _, _, rfl, rfl, .inl ⟨by omega, by omega⟩,
        .inl ⟨_, rfl, _, _, rfl, rfl, (by show (0 : Int) < 2305843009213693907; decide), ?_⟩⟩⟩
      generalize hZ : M * (M % 10133 + 109 * (c + 1)) % 2305843009213693907 = Z
      refine ⟨_, rfl, _, _, rfl, rfl, ⟨by decide, by decide⟩, .inl ⟨_, rfl, _, rfl, _, _, rfl, rfl, hu0, ?_⟩⟩
      refine hq _ _ (Int.emod_nonneg _ (by omega)) (Int.emod_lt_of_pos _ hu0) ⟨own, mix, c + 1, by rw [upd_ne (Ne.symm nlp)]; exact hp1, ho, hm0, hm1, by omega, by omega⟩ ?_
      exact (Ext.upd p H _).trans fun b o hb' e => same_new nl b o e
end
end U0

set_option Elab.async false
set_option linter.all false
set_option maxRecDepth 100000
set_option maxHeartbeats 4000000
namespace U0
open PySem PySem.Spec PyProof.Rows L2 U
open PySem.W (Frag)
section
variable {P : Program} {w : World} {K : Frag} {mg : Str → Option Value} {base : Heap} {f fT : Addr} {fd fdT : FuncData}
/-- _law_pot(script, k): a new pot -/
def spPot (K : Frag) : Sp := fun vs H Q _ => ∃ (a : Addr) (ns : List Int) (k : Int), vs = [.ref a, .int k] ∧ SqL K H a (ns.map V.int) ∧ 0 ≤ k ∧ k < 1000 ∧
  ∀ (p : Addr) (H' : Hp), H p = none → Pot H' p 0 → Same H H' → Q (.ref p) H'
theorem scPot : FnScope ["_law_script", "_law_k", "_law_cell", "_law_own", "_law_small"] ["_law_script", "_law_k"] (defScope s_pot) :=
  ⟨rfl, rfl, rfl, by decide +kernel, rfl, by decide +kernel, by decide +kernel⟩
theorem flag01 (b : Bool) : (-(2 ^ 64) < (if b = true then (1 : Int) else 0) ∧ (if b = true then (1 : Int) else 0) < 2 ^ 64) ∧ (0 : Int) ≤ (if b = true then (1 : Int) else 0) := by
  cases b <;> decide
theorem ok_pot (F : FnP K "_law_pot" s_pot f fd) (gI : mg "int" = none) (gL : mg "len" = none) (gA : mg "abs" = none) : FnOk P w K mg base CX0 1 f fd ["_law_script", "_law_k"] (spPot K) := by
  refine F.ok scPot (fun vs H Q E h => ?_) (fun cdv A outer s H vs Q E hr h => ?_)
  · obtain ⟨a, ns, k, rfl, _⟩ := h
    rfl
  · obtain ⟨a, ns, k, rfl, hs, hk0, hk1, hq⟩ := h
    refine ⟨_, PSs.nox (pss_cons (ps_set (i := 2) scPot.nd rfl (Or.inl rfl) (pe_ifExp (pt_cmpR op_lt (pv 1) (pe_callB call_len_seq (by rfl) gL PySem.boot_len (pa_cons (pv 0) pa_nil)) (nomark _))
        (pe_ix ix_list (pv 0) (pv 1) (fun _ _ => rfl)) (pe_op op_add (pe_op op_mul pe_int (pv 1)) pe_int)))
      (pss_cons (ps_set (i := 3) scPot.nd rfl (Or.inl rfl) (pe_op op_mul (pe_op op_mod (pe_callTy call_int1 (by rfl) gI PyProof.Rows.boot_int (pa_cons (pe_callB call_abs (by rfl) gA PyProof.Rows.boot_abs (pa_cons (pv 2) pa_nil)) pa_nil)) (pe_op op_powW (pe_op op_pow pe_int pe_int) pe_int))
        (pe_callTy call_int1 (by rfl) gI PyProof.Rows.boot_int (pa_cons (pe_cmpR op_ge (pe_callB call_abs (by rfl) gA PyProof.Rows.boot_abs (pa_cons (pv 2) pa_nil)) (pe_op op_pow pe_int pe_int) (nomark _)) pa_nil))))
      (pss_cons (ps_set (i := 4) scPot.nd rfl (Or.inl rfl) (pe_op op_mod (pe_callTy call_int1 (by rfl) gI PyProof.Rows.boot_int (pa_cons (pv 2) pa_nil)) pe_int))
      (pss_one (ps_ret (pe_lst (pa_cons (pv 3) (pa_cons (pe_op op_mod (pe_callTy call_int1 (by rfl) gI PyProof.Rows.boot_int (pa_cons (pe_op op_add (pe_op op_add (pe_op op_mul (pv 4) pe_int) (pe_op op_mul (pe_op op_mul pe_int (pv 1)) (pv 1))) pe_int) pa_nil)) pe_int) (pa_cons pe_int pa_nil))))))))), ?_⟩
    have pos300 : (0 : Int) < (10 ^ (60 : Int).toNat) ^ (5 : Int).toNat := by decide +kernel
    have hlen : ((ns.map V.int).length : Int) = (ns.length : Int) := by rw [List.length_map]
    refine ⟨_, rfl, _, rfl, a, _, rfl, .inl hs, _, _, rfl, rfl, _, rfl, ?_⟩
    by_cases h : k < ((ns.map V.int).length : Int)
    all_goals first | rw [decide_eq_true h] | rw [decide_eq_false h]
    · refine iteT ?_
      obtain ⟨cell, hcell⟩ : ∃ cell : Int, ns[k.toNat]? = some cell := ⟨ns[k.toNat]'(by omega), by rw [List.getElem?_eq_getElem]⟩
      have hat : atI (ns.map V.int) k = some (.int cell) := by
        have e : k = ((k.toNat : Nat) : Int) := by omega
        rw [e]
        refine atI_nat ?_
        rw [List.getElem?_map, hcell]
        rfl
      refine ⟨_, rfl, _, rfl, a, _, k, .int cell, rfl, rfl, hs, hat, ?_⟩
      refine ⟨_, rfl, cell, rfl, .inl ⟨_, rfl, _, _, rfl, rfl, ⟨by decide, by decide, by decide⟩, _, _, rfl, rfl, ⟨by decide, by decide +kernel⟩, _, _, rfl, rfl, pos300, _, rfl, cell, rfl, _, _, rfl, rfl, ⟨by decide, by decide, by decide⟩, _, _, rfl, rfl, .inr ⟨_, rfl, _, _, rfl, rfl, .inr (flag01 _).1, ?_⟩⟩⟩
      refine ⟨_, rfl, .inl ⟨cell, rfl, _, _, rfl, rfl, (by show (0 : Int) < 2305843009213693951; decide), ?_⟩⟩
      have sm0 : 0 ≤ (cell) % 2305843009213693951 := Int.emod_nonneg _ (by decide)
      have sm1 : (cell) % 2305843009213693951 < 2305843009213693951 := Int.emod_lt_of_pos _ (by decide)
      refine ⟨_, rfl, _, rfl, _, _, rfl, rfl, .inl ⟨by omega, by omega⟩, _, rfl, _, _, rfl, rfl, .inl ⟨by decide, by decide⟩, _, rfl, _, _, rfl, rfl, .inr ⟨by omega, by omega⟩, _, _, rfl, rfl, _, _, rfl, rfl, .inl ⟨_, rfl, _, _, rfl, rfl, (by show (0 : Int) < 2305843009213693921; decide), (show 3 ≤ sizeLine by decide), fun p np => ?_⟩⟩
      exact hq p _ np ⟨_, _, 0, upd_same, Int.mul_nonneg (Int.emod_nonneg _ (Int.ne_of_gt pos300)) (flag01 _).2, Int.emod_nonneg _ (by decide), Int.emod_lt_of_pos _ (by decide), by decide, by decide⟩ (same_new np)
    · refine iteF ?_
      refine ⟨_, rfl, 47, k, rfl, rfl, .inl ⟨by decide, by decide⟩, _, _, rfl, rfl, ?_⟩
      refine ⟨_, rfl, 47 * k + 37, rfl, .inl ⟨_, rfl, _, _, rfl, rfl, ⟨by decide, by decide, by decide⟩, _, _, rfl, rfl, ⟨by decide, by decide +kernel⟩, _, _, rfl, rfl, pos300, _, rfl, 47 * k + 37, rfl, _, _, rfl, rfl, ⟨by decide, by decide, by decide⟩, _, _, rfl, rfl, .inr ⟨_, rfl, _, _, rfl, rfl, .inr (flag01 _).1, ?_⟩⟩⟩
      refine ⟨_, rfl, .inl ⟨47 * k + 37, rfl, _, _, rfl, rfl, (by show (0 : Int) < 2305843009213693951; decide), ?_⟩⟩
      have sm0 : 0 ≤ (47 * k + 37) % 2305843009213693951 := Int.emod_nonneg _ (by decide)
      have sm1 : (47 * k + 37) % 2305843009213693951 < 2305843009213693951 := Int.emod_lt_of_pos _ (by decide)
      refine ⟨_, rfl, _, rfl, _, _, rfl, rfl, .inl ⟨by omega, by omega⟩, _, rfl, _, _, rfl, rfl, .inl ⟨by decide, by decide⟩, _, rfl, _, _, rfl, rfl, .inr ⟨by omega, by omega⟩, _, _, rfl, rfl, _, _, rfl, rfl, .inl ⟨_, rfl, _, _, rfl, rfl, (by show (0 : Int) < 2305843009213693921; decide), (show 3 ≤ sizeLine by decide), fun p np => ?_⟩⟩
      exact hq p _ np ⟨_, _, 0, upd_same, Int.mul_nonneg (Int.emod_nonneg _ (Int.ne_of_gt pos300)) (flag01 _).2, Int.emod_nonneg _ (by decide), Int.emod_lt_of_pos _ (by decide), by decide, by decide⟩ (same_new np)
end
end U0

set_option Elab.async false
set_option linter.all false
set_option maxRecDepth 100000
set_option maxHeartbeats 4000000
namespace U0
open PySem PySem.Spec PyProof.Rows L2 U
open PySem.W (Frag)
theorem yes_if {σ : L2.St} {H : Hp} {A B : Hp → Prop} (h : A H) : tYes σ H (fun b H3 => if b = true then A H3 else B H3) := (iteT h : if true = true then A H else B H)
theorem Ext.seq {K : Frag} {p a : Addr} {H H' : Hp} {xs : List V} (e : Ext p H H') (h : SqL K H a xs) (hp : a ≠ p) : SqL K H' a xs := by
  rcases h with (h | ⟨o, h⟩) | h
  · exact .inl (.inl (e _ _ hp h))
  · exact .inl (.inr ⟨o, e _ _ hp h⟩)
  · exact .inr h
section
variable {P : Program} {w : World} {K : Frag} {mg : Str → Option Value} {base : Heap} {f fT : Addr} {fd fdT : FuncData}
/-- _law_of(pot, some): some item -/
def spOf (n : Nat) : Sp := fun vs H Q _ => ∃ (p l : Addr) (xs : List V), vs = [.ref p, .ref l] ∧ Pot H p n ∧ n ≤ 100000 ∧ H l = some (.lst xs) ∧ l ≠ p ∧ 0 < xs.length ∧ xs.length < 1000000 ∧
  ∀ (i : Nat) (v : V) (H' : Hp), xs[i]? = some v → Pot H' p (n + 1) → Ext p H H' → Q v H'
theorem scOf : FnScope ["_law_pot_here", "_law_some"] ["_law_pot_here", "_law_some"] (defScope s_of) := ⟨rfl, rfl, rfl, by decide +kernel, rfl, by decide +kernel, by decide +kernel⟩
theorem ok_of (F : FnP K "_law_of" s_of f fd) (FT : FnP K "_law_take" s_take fT fdT) (gT : mg "_law_take" = some (.ref fT)) (gI : mg "int" = none) (gL : mg "len" = none) (n : Nat) : FnOk P w K mg base CX0 2 f fd ["_law_pot_here", "_law_some"] (spOf n) := by
  have GT : FnOk P w K mg base CX0 1 fT fdT ["_law_pot_here", "_law_upto"] (spTake n) := ok_take FT gI n
  have bT : Binds K fdT ["_law_pot_here", "_law_upto"] [] := FT.bindsN fun _ _ _ _ _ _ us hl => match us, hl with | [_, _], _ => rfl
  refine F.ok scOf (fun vs H Q E h => ?_) (fun cdv A outer s H vs Q E hr h => ?_)
  · obtain ⟨p, l, xs, rfl, _⟩ := h
    rfl
  · obtain ⟨p, l, xs, rfl, hp, hn, hl, hlp, h0, h1, hq⟩ := h
    refine ⟨_, PSs.nox (pss_one (ps_ret (pe_ix ix_list (pv 1) (pe_call GT hr (by rfl) gT FT.kp bT .nil pass0 (pa_cons (pv 0) (pa_cons (pe_callB call_len_seq (by rfl) gL PySem.boot_len (pa_cons (pv 1) pa_nil)) pa_nil))) (fun _ _ => rfl)))), ?_⟩
    refine ⟨_, rfl, _, rfl, _, rfl, l, xs, rfl, .inl (.inl (.inl hl)), p, _, rfl, by omega, by omega, hn, hp, fun d H' d0 d1 hp' hx => ?_⟩
    obtain ⟨j, rfl⟩ : ∃ j : Nat, d = (j : Int) := ⟨d.toNat, by omega⟩
    have hd : j < xs.length := by omega
    exact ⟨l, xs, j, xs[j], rfl, rfl, .inl (.inl (hx _ _ hlp hl)), atI_nat (List.getElem?_eq_getElem hd), hq j _ H' (List.getElem?_eq_getElem hd) hp' hx⟩
/-- _law_pots(script, limit): new pots -/
def spPots (K : Frag) : Sp := fun vs H Q _ => ∃ (a : Addr) (ns : List Int) (lim : Int), vs = [.ref a, .int lim] ∧ SqL K H a (ns.map V.int) ∧ 0 ≤ lim ∧ lim < 1000 ∧
  ∀ (l : Addr) (ps : List Addr) (H' : Hp), Same H H' → H' l = some (.lst (ps.map V.ref)) → ps.Nodup → ps.length ≤ 1000 → (∀ p ∈ ps, Pot H' p 0) → Q (.ref l) H'
theorem scPots : FnScope ["_law_script", "_law_limit", "_law_k"] ["_law_script", "_law_limit"] (defScope s_pots) := ⟨rfl, rfl, rfl, by decide +kernel, rfl, by decide +kernel, by decide +kernel⟩
theorem ok_pots (F : FnP K "_law_pots" s_pots f fd) (FT : FnP K "_law_pot" s_pot fT fdT) (gT : mg "_law_pot" = some (.ref fT)) (gI : mg "int" = none) (gL : mg "len" = none) (gA : mg "abs" = none) (gR : mg "range" = none) (gM : mg "max" = none) (gN : mg "min" = none) :
    FnOk P w K mg base CX0 2 f fd ["_law_script", "_law_limit"] (spPots K) := by
  have GT : FnOk P w K mg base CX0 1 fT fdT ["_law_script", "_law_k"] (spPot K) := ok_pot FT gI gL gA
  have bT : Binds K fdT ["_law_script", "_law_k"] [] := FT.bindsN fun _ _ _ _ _ _ us hl => match us, hl with | [_, _], _ => rfl
  refine F.ok scPots (fun vs H Q E h => ?_) (fun cdv A outer s H vs Q E hr h => ?_)
  · obtain ⟨a, ns, lim, rfl, _⟩ := h
    rfl
  · obtain ⟨a, ns, lim, rfl, hs, h0, h1, hq⟩ := h
    refine ⟨_, PSs.nox (pss_one (ps_ret (pe_lc (own := [("_law_k", 2)]) (g := gName 2) (tt := tYes) rfl scPots.nd
      (pi_range1 (by rfl) gR (pa_cons (pe_callB (call_max2 rfl) (by rfl) gM PyProof.Rows.boot_max (pa_cons pe_int (pa_cons (pe_callB (call_min2 rfl) (by rfl) gN (by decide +kernel) (pa_cons (pv 1) (pa_cons (pe_callB call_len_seq (by rfl) gL PySem.boot_len (pa_cons (pv 0) pa_nil)) pa_nil))) pa_nil))) pa_nil))
      (blkOk_by (N := ["_law_script", "_law_limit", "_law_k"]) (sc := defScope s_pots) (by decide +kernel)) (fun _ _ _ _ _ => pg_name (i := 2) scPots.nd rfl (Or.inl rfl)) (fun _ _ _ _ _ => pts_nil)
      (fun _ _ _ _ _ => pe_call GT hr (by rfl) gT FT.kp bT .nil pass0 (pa_cons (pv 0) (pa_cons (pv 2) pa_nil)))))), ?_⟩
    refine ⟨_, rfl, _, rfl, a, _, rfl, .inl hs, _, _, rfl, _, _, rfl, ?_⟩
    generalize hM : (if (if ((ns.map V.int).length : Int) < lim then ((ns.map V.int).length : Int) else lim) > 1 then (if ((ns.map V.int).length : Int) < lim then ((ns.map V.int).length : Int) else lim) else 1) = M
    have hM0 : 0 ≤ M ∧ M ≤ 1000 := by
      rw [← hM]
      split <;> split <;> omega
    refine ⟨M, rfl, by omega, by omega, fun D nD => lc_range (lo := 0) (n := M.toNat) (fun i H' => ∃ ps : List Addr, ps.length = i ∧ Same H H' ∧ H' D = some (.lst (ps.map V.ref)) ∧ ps.Nodup ∧ ∀ p ∈ ps, Pot H' p 0) ⟨[], rfl, same_new nD, upd_same, List.nodup_nil, fun p hp => nomatch hp⟩ ?_ ?_⟩
    · rintro i H1 hi ⟨ps, hl, sm, hD, nd, hps⟩
      refine ⟨rfl, yes_if ?_⟩
      refine ⟨_, rfl, _, rfl, a, ns, 0 + i, rfl, sm.seq hs, by omega, by omega, fun p H2 np hp s2 => ⟨ps.map V.ref, s2 _ _ hD, by rw [List.length_map, sizeLine_eq]; omega, ps ++ [p], by rw [List.length_append, hl]; rfl, ?_, ?_, ?_, ?_⟩⟩
      · exact fun b o e => by
          rw [upd_ne (ne_of_none e nD)]
          exact s2 b o (sm b o e)
      · rw [upd_same, List.map_append]
        rfl
      · refine List.nodup_append.mpr ⟨nd, by simp, fun x hx y hy => ?_⟩
        obtain ⟨_, _, _, ho, _⟩ := hps x hx
        rw [List.mem_singleton.mp hy]
        exact ne_of_none ho np
      · intro x hx
        have key : ∀ y : Addr, Pot H2 y 0 → Pot (upd H2 D (.lst (ps.map V.ref ++ [V.ref p]))) y 0 := fun y hy => by
          obtain ⟨o1, m1, c1, e1, ok1⟩ := hy
          have ne : y ≠ D := ne_of e1 (s2 _ _ hD) fun z => by
            have z1 := HO.lst.inj z
            cases ps with
            | nil => cases z1
            | cons q qs =>
              have z2 := (List.cons.inj z1).1
              cases z2
          exact ⟨o1, m1, c1, by rw [upd_ne ne]; exact e1, ok1⟩
        rcases List.mem_append.mp hx with h | h
        · obtain ⟨o1, m1, c1, e1, ok1⟩ := hps x h
          exact key x ⟨o1, m1, c1, s2 _ _ e1, ok1⟩
        · rw [List.mem_singleton.mp h]
          exact key p hp
    · rintro H1 ⟨ps, hl, sm, hD, nd, hps⟩
      exact hq D ps H1 sm hD nd (by omega) hps
end
end U0

set_option Elab.async false
set_option linter.all false
set_option maxRecDepth 100000
set_option maxHeartbeats 4000000
namespace U0
open PySem PySem.Spec PyProof.Rows L2 U
open PySem.W (Frag)
abbrev s_odd : Stmt := top 41
def oddA : List PyData := [.none, .bool true, .bool false, .int 0, .int 1, .int (-1), .int 30, .str "", .str "a", .str "high", .str "kyo", .str "from", .tuple [], .list [], .dict [], .tuple [.int 0], .tuple [.tuple []], .tuple [.str "a"], .list [.int 0]]
def oddB : List PyData := [.tuple [.str "a", .str "b"], .tuple [.tuple [.str "a", .int 1]], .tuple [.str "least", .str "a", .int 0, .int 1], .dict [(.str "a", .int 1)], .tuple [.none], .str "A", .str "a1", .str "rate"]
section
variable {P : Program} {w : World} {K : Frag} {mg : Str → Option Value} {base : Heap} {f fT fO : Addr} {fd fdT fdO : FuncData}
/-- _law_odd(pot): some value of these, new -/
def spOdd (n : Nat) : Sp := fun vs H Q _ => ∃ p : Addr, vs = [.ref p] ∧ Pot H p n ∧ n ≤ 90000 ∧
  ∀ (v : V) (d : PyData) (H' : Hp), d ∈ oddA ++ oddB → Dq (fun a => H a = none) H' v d → Pot H' p (n + 1) → Ext p H H' → Q v H'
theorem scOdd : FnScope ["_law_pot_here", "_law_some"] ["_law_pot_here"] (defScope s_odd) := ⟨rfl, rfl, rfl, by decide +kernel, rfl, by decide +kernel, by decide +kernel⟩
theorem ok_odd (F : FnP K "_law_odd" s_odd f fd) (FO : FnP K "_law_of" s_of fO fdO) (gO : mg "_law_of" = some (.ref fO)) (FT : FnP K "_law_take" s_take fT fdT) (gT : mg "_law_take" = some (.ref fT)) (gI : mg "int" = none) (gL : mg "len" = none) (n : Nat) : FnOk P w K mg base CX0 3 f fd ["_law_pot_here"] (spOdd n) := by
  have GO : FnOk P w K mg base CX0 2 fO fdO ["_law_pot_here", "_law_some"] (spOf n) := ok_of FO FT gT gI gL n
  have bO : Binds K fdO ["_law_pot_here", "_law_some"] [] := FO.bindsN fun _ _ _ _ _ _ us hl => match us, hl with | [_, _], _ => rfl
  refine F.ok scOdd (fun vs H Q E h => ?_) (fun cdv A outer s H vs Q E hr h => ?_)
  · obtain ⟨p, rfl, _⟩ := h
    rfl
  · obtain ⟨p, rfl, hp, hn, hq⟩ := h
    refine ⟨_, PSs.nox (pss_cons (ps_set (i := 1) scOdd.nd rfl (Or.inl rfl) (pd_lst (ds := oddA) (pds_cons pd_non (pds_cons pd_bl (pds_cons pd_bl (pds_cons pd_int (pds_cons pd_int (pds_cons pd_neg (pds_cons pd_int (pds_cons pd_str (pds_cons pd_str (pds_cons pd_str
        (pds_cons pd_str (pds_cons pd_str (pds_cons (pd_tup pds_nil) (pds_cons (pd_lst pds_nil) (pds_cons pd_dict0 (pds_cons (pd_tup (pds_cons pd_int pds_nil)) (pds_cons (pd_tup (pds_cons (pd_tup pds_nil) pds_nil)) (pds_cons (pd_tup (pds_cons pd_str pds_nil)) (pds_cons (pd_lst (pds_cons pd_int pds_nil)) pds_nil)))))))))))))))))))))
      (pss_one (ps_ret (pe_call GO hr (by rfl) gO FO.kp bO .nil pass0 (pa_cons (pv 0) (pa_cons (pe_op op_cat (pv 1) (pd_lst (ds := oddB) (pds_cons (pd_tup (pds_cons pd_str (pds_cons pd_str pds_nil))) (pds_cons (pd_tup (pds_cons (pd_tup (pds_cons pd_str (pds_cons pd_int pds_nil))) pds_nil))
        (pds_cons (pd_tup (pds_cons pd_str (pds_cons pd_str (pds_cons pd_int (pds_cons pd_int pds_nil))))) (pds_cons (pd_dict1 pd_int) (pds_cons (pd_tup (pds_cons pd_non pds_nil)) (pds_cons pd_str (pds_cons pd_str (pds_cons pd_str pds_nil)))))))))) pa_nil)))))), ?_⟩
    intro v H1 s1 q1
    cases q1 with
    | @lst a xs _ fa ea ha =>
      refine ⟨_, rfl, _, rfl, fun v2 H2 s2 q2 => ?_⟩
      cases q2 with
      | @lst b ys _ fb eb hb =>
        have l1 : xs.length = 19 := ha.len
        have l2 : ys.length = 8 := hb.len
        refine ⟨a, b, xs, ys, rfl, rfl, s2 _ _ ea, eb, ?_, fun l nl => ?_⟩
        · rw [l1, l2, sizeLine_eq]
          decide
        obtain ⟨o0, m0, c0, e0, ok0⟩ := hp
        have e3 : upd H2 l (.lst (xs ++ ys)) p = some (potL o0 m0 c0) := same_new nl _ _ (s2 _ _ (s1 _ _ e0))
        have all : DqAll (fun a => H a = none) (upd H2 l (.lst (xs ++ ys))) (xs ++ ys) (oddA ++ oddB) :=
          (ha.move (fun _ z => z) fun b o _ z => same_new nl b o (s2 b o z)).app (hb.move (fun b z => s1.free z) fun b o _ z => same_new nl b o z)
        refine ⟨p, l, xs ++ ys, rfl, ⟨o0, m0, c0, e3, ok0⟩, by omega, upd_same, Ne.symm (ne_of_none (s2 _ _ (s1 _ _ e0)) nl), by rw [List.length_append]; omega, by rw [List.length_append]; omega, fun i v H' hi hp' hx => ?_⟩
        obtain ⟨d, hd, hv⟩ := all.get hi
        refine hq v d H' (List.mem_of_getElem? hd) (hv.move (fun _ z => z) fun b o z e => hx b o (fun y => ?_) e) hp' ?_
        · rw [y, e0] at z
          cases z
        · exact fun b o hb' z => hx b o hb' (same_new nl b o (s2 b o (s1 b o z)))
end
end U0

set_option Elab.async false
set_option linter.all false
set_option maxRecDepth 100000
set_option maxHeartbeats 4000000
namespace U0
open PySem PySem.Spec PyProof.Rows L2 U
open PySem.W (Frag)
abbrev s_made : Stmt := top 42
abbrev s_marks : Stmt := top 43
def errN1 : List Str := ["BadChart", "NoResult", "NoPerson", "NoLab", "NoName", "BadLine", "Full", "BadClaim", "NoFact", "BadSide", "BadRate", "BadClaims", "BadTable", "BadRow", "BadCourses", "BadLiterals", "NoHistory"]
def errN2 : List Str := ["BadDay", "NotSure", "BadSpot", "BadHistory", "TooMany", "BadNumber", "BadLot", "NoTurning", "HasHistory", "BadRepeat", "BadRepeats", "Contrary", "NothingToUndo", "NothingToRedo", "NoTrial", "BadJournal", "BadSay"]
def errN : List Str := errN1 ++ errN2
/-- what is known of all classes of errors -/
structure ErrsK (P : Program) (K : Frag) (mg : Str → Option Value) (D fI : Addr) : Prop where
  init : InitTxt P K D fI
  cD : ErrC K D fI D
  gD : mg "TableError" = some (.ref D)
  cls : ∀ x ∈ errN, ErrC K D fI (He.ga K x) ∧ mg x = some (.ref (He.ga K x))
  same : ∀ (i j : Nat) (x y : Str), errN[i]? = some x → errN[j]? = some y → PySem.W.kitOne K (.ref (He.ga K x)) (.ref (He.ga K y)) = some (decide (i = j))
  up : ∀ x ∈ errN, PySem.W.kitOne K (.ref (He.ga K x)) (.ref D) = some true ∧ PySem.W.kitOne K (.ref (He.ga K x)) (.type "ValueError") = some true ∧ PySem.W.kitOne K (.ref D) (.ref (He.ga K x)) = some false
  upD : PySem.W.kitOne K (.ref D) (.type "ValueError") = some true
  gI : mg "isinstance" = none
  gV : mg "ValueError" = none
/-- an error of the class at C stands at a, with the value v -/
def ErrAt (H : Hp) (v : V) (C a : Addr) : Prop := ∃ d, H a = some (exo a C (some d)) ∧ H d = some (exd d [("value", v)])
theorem ErrAt.same {H H' : Hp} {v : V} {C a : Addr} (h : ErrAt H v C a) (k : ∀ b o, (∀ xs, o ≠ .lst xs) → H b = some o → H' b = some o) : ErrAt H' v C a := by
  obtain ⟨d, h1, h2⟩ := h
  exact ⟨d, k _ _ (fun xs z => nomatch (show HO.ext _ = HO.lst xs from z)) h1, k _ _ (fun xs z => nomatch (show HO.ext _ = HO.lst xs from z)) h2⟩
theorem errs_same {H H' : Hp} {v : V} (k : ∀ b o, (∀ xs, o ≠ .lst xs) → H b = some o → H' b = some o) : ∀ {Cs as : List Addr}, Paired (ErrAt H v) Cs as → Paired (ErrAt H' v) Cs as
  | _, _, .nil => .nil
  | _, _, .cons h t => .cons (h.same k) (errs_same k t)
def tErrs (K : Frag) (i : Nat) (xs : List Str) : TA := fun σ H Q => ∃ v, σ[i]? = some (some v) ∧ ∀ as H', Same H H' → Paired (ErrAt H' v) (xs.map (He.ga K)) as → Q (as.map V.ref) H'
def tMarks (K : Frag) (D fI : Addr) (i : Nat) (xs : List Str) : TA := fun σ H Q => ∃ (a C d : Addr) (mk : Str → Bool), σ[i]? = some (some (.ref a)) ∧ ErrC K D fI C ∧ H a = some (exo a C (some d)) ∧ (∃ fs, H d = some (exd d fs)) ∧
  (∀ x ∈ xs, PySem.W.kitOne K (.ref C) (.ref (He.ga K x)) = some (mk x)) ∧ Q (xs.map fun x => V.bl (mk x)) H
/-- found.extend([..]) -/
def tGrow (K : Frag) (j : Nat) (ta : TA) : TS := tDrop (tBM K "list" rExtend (tVar j) (tCons (tLst ta) tNil))
section
variable {X : Cx} {D fI : Addr} {k : Nat}
theorem ps_mono {st : Stmt} {t t' : TS} (h : PS X st t) (m : ∀ E σ H, t' E σ H → t E σ H) : PS X st t' := ⟨fun pins s σ H E I q => h.run pins s σ H E I (m E σ H q)⟩
theorem pes_nil {i : Nat} : PA X [] (tErrs X.K i []) := pa_mono pa_nil fun σ H Q ⟨v, _, h⟩ => h [] H (Same.refl H) .nil
theorem pes_cons {x y : Str} {es : List Expr} {xs : List Str} {i : Nat} {p py pos : Pos} (T : ErrsK X.prog X.K X.mg D fI) (hr : Room k X.A) (hs : PA X es (tErrs X.K i xs)) (hx : x ∈ errN := by decide +kernel) (hg : Gl X x := by rfl) (hN : X.N[i]? = some y := by rfl) (hv : Vis X.env.scope y := by exact Or.inl rfl)
    (hd1 : (x == ("__debug__" : Str)) = false := by decide) (hd2 : (y == ("__debug__" : Str)) = false := by decide) (hd3 : (y == ("__classdict__" : Str)) = false := by decide)
    (h1 : starEach [Expr.Name y py] X.env = (false, eval (.Name y py) X.env) :: starEach [] X.env := by rfl)
    (h2 : starEach (.Call (.Name x p) [.Name y py] [] pos :: es) X.env = (false, eval (.Call (.Name x p) [.Name y py] [] pos) X.env) :: starEach es X.env := by rfl) : PA X (.Call (.Name x p) [.Name y py] [] pos :: es) (tErrs X.K i (x :: xs)) := by
  refine pa_mono (pa_cons (pe_err T.init (T.cls x hx).1 hr hg (T.cls x hx).2 (pe_var hN hv hd2 hd3) h1 hd1) hs h2) ?_
  rintro σ H Q ⟨v, hv, h⟩
  refine ⟨v, hv, fun a d na nd ne => ⟨v, hv, fun as H2 s2 q2 => ?_⟩⟩
  have s1 : Same H (upd (upd H d (exd d [("value", v)])) a (exo a (He.ga X.K x) (some d))) := (same_new nd).trans (same_new (by rw [upd_ne (Ne.symm ne)]; exact na))
  refine h (a :: as) H2 (s1.trans s2) (.cons ⟨d, s2 _ _ upd_same, s2 _ _ ?_⟩ q2)
  rw [upd_ne ne]
  exact upd_same
theorem pms_nil {i : Nat} : PA X [] (tMarks X.K D fI i []) := pa_mono pa_nil fun σ H Q ⟨a, C, d, mk, _, _, _, _, _, h⟩ => h
theorem pms_cons {x y : Str} {es : List Expr} {xs : List Str} {i : Nat} {p py px pos : Pos} (T : ErrsK X.prog X.K X.mg D fI) (hr : Room k X.A) (hs : PA X es (tMarks X.K D fI i xs)) (hx : x ∈ errN := by decide +kernel) (hg : Gl X x := by rfl) (hgi : Gl X "isinstance" := by rfl) (hN : X.N[i]? = some y := by rfl) (hv : Vis X.env.scope y := by exact Or.inl rfl)
    (hd1 : (x == ("__debug__" : Str)) = false := by decide) (hd2 : (y == ("__debug__" : Str)) = false := by decide) (hd3 : (y == ("__classdict__" : Str)) = false := by decide)
    (h1 : starEach [Expr.Name y py, Expr.Name x px] X.env = (false, eval (.Name y py) X.env) :: starEach [Expr.Name x px] X.env := by rfl) (h3 : starEach [Expr.Name x px] X.env = (false, eval (.Name x px) X.env) :: starEach [] X.env := by rfl) (h4 : (backTo pos (starEach [Expr.Name x px] X.env)).any (·.1) = false := by rfl)
    (h2 : starEach (.Call (.Name "isinstance" p) [.Name y py, .Name x px] [] pos :: es) X.env = (false, eval (.Call (.Name "isinstance" p) [.Name y py, .Name x px] [] pos) X.env) :: starEach es X.env := by rfl) : PA X (.Call (.Name "isinstance" p) [.Name y py, .Name x px] [] pos :: es) (tMarks X.K D fI i (x :: xs)) := by
  refine pa_mono (pa_cons (pe_callB (call_isErr (D := D) (fI := fI)) hgi T.gI (by decide +kernel) (pa_cons (pe_var hN hv hd2 hd3) (pa_cons (pe_glob hg (T.cls x hx).2 (v := .ref (He.ga X.K x)) rfl hd1) pa_nil h3) h1) (by decide) (by decide) h1 h4) hs h2) ?_
  rintro σ H Q ⟨a, C, d, mk, hv, hC, ha, hd, hk, h⟩
  exact ⟨_, hv, a, C, d, .ref (He.ga X.K x), .ref (He.ga X.K x), mk x, rfl, hC, ha, hd, .own _, hk x List.mem_cons_self, a, C, d, mk, hv, hC, ha, hd, fun z hz => hk z (List.mem_cons_of_mem _ hz), h⟩
theorem ps_ext {y : Str} {es : List Expr} {ta : TA} {j : Nat} {p p1 p2 p3 p4 : Pos} (hs : PA X es ta) (hN : X.N[j]? = some y := by rfl) (hv : Vis X.env.scope y := by exact Or.inl rfl) (hd2 : (y == ("__debug__" : Str)) = false := by decide) (hd3 : (y == ("__classdict__" : Str)) = false := by decide)
    (hbase : attributeBase (.Name y p) "extend" X.env (eval (.Name y p) X.env) = eval (.Name y p) X.env := by rfl) (hline : (p1.endLine == p3.line) = true := by rfl)
    (hfew : ((backTo p3 (starEach [Expr.List es p2] X.env)).all (fun x => !x.1) && (backToKw p3 (keywordEach [] X.env)).all (fun x => x.1.isSome) && decide (([Expr.List es p2] : List Expr).length + ([] : List Keyword).length + (if ([] : List Keyword).isEmpty then 0 else 1) < 30)) = true := by rfl)
    (h1 : starEach [Expr.List es p2] X.env = (false, eval (.List es p2) X.env) :: starEach [] X.env := by rfl) (hsw : swapsWith (.Call (.Attribute (.Name y p) "extend" p1) [.List es p2] [] p3) none p4.line X.env = pure false := by rfl) :
    PS X (.Expr (.Call (.Attribute (.Name y p) "extend" p1) [.List es p2] [] p3) p4) (tGrow X.K j ta) :=
  ps_expr (pe_bm PySem.F.plainAttrs_list PySem.F.slot_list_extend PySem.F.type_list_extend mt_extend (pe_var hN hv hd2 hd3) (pa_cons (pe_lst hs) pa_nil h1) hbase hfew hline h1 rfl) hsw
end
theorem paired_len {α β : Type} {F : α → β → Prop} {l : List α} {m : List β} (h : Paired F l m) : l.length = m.length := PySem.Paired.length h
theorem paired_app {α β : Type} {F : α → β → Prop} : ∀ {l l' : List α} {m m' : List β}, Paired F l m → Paired F l' m' → Paired F (l ++ l') (m ++ m')
  | _, _, _, _, .nil, h => h
  | _, _, _, _, .cons h t, g => .cons h (paired_app t g)
theorem made_step {K : Frag} {xs ys : List Str} {l : Addr} {v : V} {as0 : List Addr} {σ : L2.St} {H : Hp} {E : Ends} (hj : σ[1]? = some (some (.ref l))) (hi : σ[0]? = some (some v)) (hl : H l = some (.lst (as0.map V.ref))) (hp : Paired (ErrAt H v) (ys.map (He.ga K)) as0) (hz : ys.length + xs.length ≤ 1000)
    (next : ∀ (as : List Addr) (H' : Hp), Ext l H H' → H' l = some (.lst (as.map V.ref)) → Paired (ErrAt H' v) ((ys ++ xs).map (He.ga K)) as → E.nx σ H') : tGrow K 1 (tErrs K 0 xs) E σ H := by
  refine ⟨_, hj, .inl ⟨rfl, _, SqL.of hl⟩, v, hi, fun as H1 s1 q1 => ?_⟩
  have z1 := paired_len hp
  have z2 := paired_len q1
  rw [List.length_map] at z1 z2
  refine ⟨by rw [List.length_map, sizeLine_eq]; omega, fun b nb => ?_⟩
  have hl1 := s1 _ _ hl
  have hl2 : upd H1 b (.lst (as.map V.ref)) l = some (.lst (as0.map V.ref)) := same_new nb _ _ hl1
  refine ⟨l, b, _, _, rfl, rfl, hl2, upd_same, by rw [List.length_map, List.length_map, sizeLine_eq]; omega, ?_⟩
  have mv : ∀ c o, (∀ xs, o ≠ HO.lst xs) → H1 c = some o → upd (upd H1 b (.lst (as.map V.ref))) l (.lst (as0.map V.ref ++ as.map V.ref)) c = some o := fun c o hc e => by
    have n1 : c ≠ l := fun z => by
      rw [z, hl1] at e
      exact hc _ (Option.some.inj e).symm
    rw [upd_ne n1]
    exact same_new nb _ _ e
  refine next (as0 ++ as) _ (fun c o hc e => ?_) (by rw [upd_same, List.map_append]) (by rw [List.map_append]; exact paired_app (errs_same (fun c o hc e => mv c o hc (s1 c o e)) hp) (errs_same mv q1))
  rw [upd_ne hc]
  exact same_new nb _ _ (s1 c o e)
theorem marks_step {K : Frag} {D fI : Addr} {xs ys : List Str} {l a C d : Addr} {mk : Str → Bool} {σ : L2.St} {H : Hp} {E : Ends} (hj : σ[1]? = some (some (.ref l))) (hi : σ[0]? = some (some (.ref a))) (hC : ErrC K D fI C) (ha : H a = some (exo a C (some d))) (hd : ∃ fs, H d = some (exd d fs))
    (hl : H l = some (.lst (ys.map fun x => V.bl (mk x)))) (hz : ys.length + xs.length ≤ 1000) (hk : ∀ x ∈ xs, PySem.W.kitOne K (.ref C) (.ref (He.ga K x)) = some (mk x))
    (next : ∀ H', Ext l H H' → H' l = some (.lst ((ys ++ xs).map fun x => V.bl (mk x))) → E.nx σ H') : tGrow K 1 (tMarks K D fI 0 xs) E σ H := by
  refine ⟨_, hj, .inl ⟨rfl, _, SqL.of hl⟩, a, C, d, mk, hi, hC, ha, hd, hk, by rw [List.length_map, sizeLine_eq]; omega, fun b nb => ?_⟩
  refine ⟨l, b, _, _, rfl, rfl, same_new nb _ _ hl, upd_same, by rw [List.length_map, List.length_map, sizeLine_eq]; omega, next _ (fun c o hc e => ?_) (by rw [upd_same, List.map_append])⟩
  rw [upd_ne hc]
  exact same_new nb _ _ e
end U0

set_option Elab.async false
set_option linter.all false
set_option maxRecDepth 100000
set_option maxHeartbeats 4000000
namespace U0
open PySem PySem.Spec PyProof.Rows L2 U
open PySem.W (Frag)
section
variable {P : Program} {w : World} {K : Frag} {mg : Str → Option Value} {base : Heap} {f D fI : Addr} {fd : FuncData}
def spMade (K : Frag) : Sp := fun vs H Q _ => ∃ v : V, vs = [v] ∧ ∀ (l : Addr) (as : List Addr) (H' : Hp), Same H H' → H' l = some (.lst (as.map V.ref)) → Paired (ErrAt H' v) (errN.map (He.ga K)) as → Q (.ref l) H'
theorem scMade : FnScope ["_law_value", "_law_found"] ["_law_value"] (defScope s_made) := ⟨rfl, rfl, rfl, by decide +kernel, rfl, by decide +kernel, by decide +kernel⟩
theorem ext_same {l : Addr} {H H' : Hp} (x : Ext l H H') (n : H l = none) : Same H H' := fun b o e => x b o (ne_of_none e n) e
theorem ok_made (F : FnP K "_law_made" s_made f fd) (T : ErrsK P K mg D fI) : FnOk P w K mg base CX0 2 f fd ["_law_value"] (spMade K) := by
  refine F.ok scMade (fun vs H Q E h => ?_) (fun cdv A outer s H vs Q E hr h => ?_)
  · obtain ⟨v, rfl, _⟩ := h
    rfl
  · obtain ⟨v, rfl, hq⟩ := h
    refine ⟨_, PSs.nox (pss_cons (ps_set (i := 1) scMade.nd rfl (Or.inl rfl) (pe_lst (pes_cons T hr (pes_cons T hr (pes_cons T hr (pes_cons T hr (pes_nil (i := 0))))))))
        (pss_cons (ps_ext (j := 1) (pes_cons T hr (pes_cons T hr (pes_cons T hr (pes_cons T hr (pes_nil (i := 0)))))))
        (pss_cons (ps_ext (j := 1) (pes_cons T hr (pes_cons T hr (pes_cons T hr (pes_cons T hr (pes_nil (i := 0)))))))
        (pss_cons (ps_ext (j := 1) (pes_cons T hr (pes_cons T hr (pes_cons T hr (pes_cons T hr (pes_nil (i := 0)))))))
        (pss_cons (ps_ext (j := 1) (pes_cons T hr (pes_cons T hr (pes_cons T hr (pes_cons T hr (pes_nil (i := 0)))))))
        (pss_cons (ps_ext (j := 1) (pes_cons T hr (pes_cons T hr (pes_cons T hr (pes_cons T hr (pes_nil (i := 0)))))))
        (pss_cons (ps_ext (j := 1) (pes_cons T hr (pes_cons T hr (pes_cons T hr (pes_cons T hr (pes_nil (i := 0)))))))
        (pss_cons (ps_ext (j := 1) (pes_cons T hr (pes_cons T hr (pes_cons T hr (pes_cons T hr (pes_nil (i := 0)))))))
        (pss_cons (ps_ext (j := 1) (pes_cons T hr (pes_cons T hr (pes_nil (i := 0)))))
        (pss_one (ps_ret (pv 1)))))))))))), ?_⟩
    refine ⟨v, rfl, fun as H1 s1 hp => ⟨?_, fun l nl => ?_⟩⟩
    · have z := paired_len hp
      rw [List.length_map] at z
      rw [List.length_map, sizeLine_eq, ← z]
      decide
    have hl : upd H1 l (.lst (as.map V.ref)) l = some (.lst (as.map V.ref)) := upd_same
    have hp : Paired (ErrAt (upd H1 l (.lst (as.map V.ref))) v) ((["BadChart", "NoResult", "NoPerson", "NoLab"] : List Str).map (He.ga K)) as := errs_same (fun b o _ e => same_new nl b o e) hp
    have fx : Ext l H (upd H1 l (.lst (as.map V.ref))) := fun b o _ e => same_new nl b o (s1 b o e)
    refine made_step (l := l) rfl rfl hl hp (by decide) fun as H1 x1 hl hp => ?_
    have fx := fx.trans x1
    refine made_step (l := l) rfl rfl hl hp (by decide) fun as H1 x1 hl hp => ?_
    have fx := fx.trans x1
    refine made_step (l := l) rfl rfl hl hp (by decide) fun as H1 x1 hl hp => ?_
    have fx := fx.trans x1
    refine made_step (l := l) rfl rfl hl hp (by decide) fun as H1 x1 hl hp => ?_
    have fx := fx.trans x1
    refine made_step (l := l) rfl rfl hl hp (by decide) fun as H1 x1 hl hp => ?_
    have fx := fx.trans x1
    refine made_step (l := l) rfl rfl hl hp (by decide) fun as H1 x1 hl hp => ?_
    have fx := fx.trans x1
    refine made_step (l := l) rfl rfl hl hp (by decide) fun as H1 x1 hl hp => ?_
    have fx := fx.trans x1
    refine made_step (l := l) rfl rfl hl hp (by decide) fun as H1 x1 hl hp => ?_
    have fx := fx.trans x1
    refine ⟨_, rfl, ?_⟩
    exact hq l as H1 (ext_same fx (s1.free nl)) hl hp
def spMarks (K : Frag) (D fI : Addr) : Sp := fun vs H Q _ => ∃ (a C d : Addr) (mk : Str → Bool), vs = [.ref a] ∧ ErrC K D fI C ∧ H a = some (exo a C (some d)) ∧ (∃ fs, H d = some (exd d fs)) ∧ (∀ x ∈ errN, PySem.W.kitOne K (.ref C) (.ref (He.ga K x)) = some (mk x)) ∧
  ∀ (l : Addr) (H' : Hp), Same H H' → H' l = some (.lst (errN.map fun x => V.bl (mk x))) → Q (.ref l) H'
theorem scMarks : FnScope ["_law_error", "_law_found"] ["_law_error"] (defScope s_marks) := ⟨rfl, rfl, rfl, by decide +kernel, rfl, by decide +kernel, by decide +kernel⟩
theorem ok_marks (F : FnP K "_law_marks" s_marks f fd) (T : ErrsK P K mg D fI) : FnOk P w K mg base CX0 1 f fd ["_law_error"] (spMarks K D fI) := by
  refine F.ok scMarks (fun vs H Q E h => ?_) (fun cdv A outer s H vs Q E hr h => ?_)
  · obtain ⟨a, C, d, mk, rfl, _⟩ := h
    rfl
  · obtain ⟨a, C, d, mk, rfl, hC, ha, ⟨fs, hd⟩, hk, hq⟩ := h
    refine ⟨_, PSs.nox (pss_cons (ps_set (i := 1) scMarks.nd rfl (Or.inl rfl) (pe_lst (pms_cons T hr (pms_cons T hr (pms_cons T hr (pms_nil (D := D) (fI := fI) (i := 0)))))))
        (pss_cons (ps_ext (j := 1) (pms_cons T hr (pms_cons T hr (pms_cons T hr (pms_nil (D := D) (fI := fI) (i := 0))))))
        (pss_cons (ps_ext (j := 1) (pms_cons T hr (pms_cons T hr (pms_cons T hr (pms_nil (D := D) (fI := fI) (i := 0))))))
        (pss_cons (ps_ext (j := 1) (pms_cons T hr (pms_cons T hr (pms_cons T hr (pms_nil (D := D) (fI := fI) (i := 0))))))
        (pss_cons (ps_ext (j := 1) (pms_cons T hr (pms_cons T hr (pms_cons T hr (pms_nil (D := D) (fI := fI) (i := 0))))))
        (pss_cons (ps_ext (j := 1) (pms_cons T hr (pms_cons T hr (pms_cons T hr (pms_nil (D := D) (fI := fI) (i := 0))))))
        (pss_cons (ps_ext (j := 1) (pms_cons T hr (pms_cons T hr (pms_cons T hr (pms_nil (D := D) (fI := fI) (i := 0))))))
        (pss_cons (ps_ext (j := 1) (pms_cons T hr (pms_cons T hr (pms_cons T hr (pms_nil (D := D) (fI := fI) (i := 0))))))
        (pss_cons (ps_ext (j := 1) (pms_cons T hr (pms_cons T hr (pms_cons T hr (pms_nil (D := D) (fI := fI) (i := 0))))))
        (pss_cons (ps_ext (j := 1) (pms_cons T hr (pms_cons T hr (pms_cons T hr (pms_nil (D := D) (fI := fI) (i := 0))))))
        (pss_cons (ps_ext (j := 1) (pms_cons T hr (pms_cons T hr (pms_cons T hr (pms_nil (D := D) (fI := fI) (i := 0))))))
        (pss_cons (ps_ext (j := 1) (pms_cons T hr (pms_nil (D := D) (fI := fI) (i := 0))))
        (pss_one (ps_ret (pv 1))))))))))))))), ?_⟩
    refine ⟨a, C, d, mk, rfl, hC, ha, ⟨fs, hd⟩, (fun x hx => hk x ((by decide +kernel : ∀ x ∈ (["BadChart", "NoResult", "NoPerson"] : List Str), x ∈ errN) x hx)), by rw [List.length_map, sizeLine_eq]; decide, fun l nl => ?_⟩
    have na : a ≠ l := ne_of_none ha nl
    have nd : d ≠ l := ne_of_none hd nl
    have hl : upd H l (.lst ((["BadChart", "NoResult", "NoPerson"] : List Str).map fun x => V.bl (mk x))) l = some (.lst ((["BadChart", "NoResult", "NoPerson"] : List Str).map fun x => V.bl (mk x))) := upd_same
    have fx : Ext l H (upd H l (.lst ((["BadChart", "NoResult", "NoPerson"] : List Str).map fun x => V.bl (mk x)))) := Ext.upd _ _ _
    refine marks_step (l := l) (a := a) (C := C) (d := d) (mk := mk) rfl rfl hC (fx _ _ na ha) ⟨fs, fx _ _ nd hd⟩ hl (by decide) (fun x hx => hk x ((by decide +kernel : ∀ x ∈ (["NoLab", "NoName", "BadLine"] : List Str), x ∈ errN) x hx)) fun H1 x1 hl => ?_
    have fx := fx.trans x1
    refine marks_step (l := l) (a := a) (C := C) (d := d) (mk := mk) rfl rfl hC (fx _ _ na ha) ⟨fs, fx _ _ nd hd⟩ hl (by decide) (fun x hx => hk x ((by decide +kernel : ∀ x ∈ (["Full", "BadClaim", "NoFact"] : List Str), x ∈ errN) x hx)) fun H1 x1 hl => ?_
    have fx := fx.trans x1
    refine marks_step (l := l) (a := a) (C := C) (d := d) (mk := mk) rfl rfl hC (fx _ _ na ha) ⟨fs, fx _ _ nd hd⟩ hl (by decide) (fun x hx => hk x ((by decide +kernel : ∀ x ∈ (["BadSide", "BadRate", "BadClaims"] : List Str), x ∈ errN) x hx)) fun H1 x1 hl => ?_
    have fx := fx.trans x1
    refine marks_step (l := l) (a := a) (C := C) (d := d) (mk := mk) rfl rfl hC (fx _ _ na ha) ⟨fs, fx _ _ nd hd⟩ hl (by decide) (fun x hx => hk x ((by decide +kernel : ∀ x ∈ (["BadTable", "BadRow", "BadCourses"] : List Str), x ∈ errN) x hx)) fun H1 x1 hl => ?_
    have fx := fx.trans x1
    refine marks_step (l := l) (a := a) (C := C) (d := d) (mk := mk) rfl rfl hC (fx _ _ na ha) ⟨fs, fx _ _ nd hd⟩ hl (by decide) (fun x hx => hk x ((by decide +kernel : ∀ x ∈ (["BadLiterals", "NoHistory", "BadDay"] : List Str), x ∈ errN) x hx)) fun H1 x1 hl => ?_
    have fx := fx.trans x1
    refine marks_step (l := l) (a := a) (C := C) (d := d) (mk := mk) rfl rfl hC (fx _ _ na ha) ⟨fs, fx _ _ nd hd⟩ hl (by decide) (fun x hx => hk x ((by decide +kernel : ∀ x ∈ (["NotSure", "BadSpot", "BadHistory"] : List Str), x ∈ errN) x hx)) fun H1 x1 hl => ?_
    have fx := fx.trans x1
    refine marks_step (l := l) (a := a) (C := C) (d := d) (mk := mk) rfl rfl hC (fx _ _ na ha) ⟨fs, fx _ _ nd hd⟩ hl (by decide) (fun x hx => hk x ((by decide +kernel : ∀ x ∈ (["TooMany", "BadNumber", "BadLot"] : List Str), x ∈ errN) x hx)) fun H1 x1 hl => ?_
    have fx := fx.trans x1
    refine marks_step (l := l) (a := a) (C := C) (d := d) (mk := mk) rfl rfl hC (fx _ _ na ha) ⟨fs, fx _ _ nd hd⟩ hl (by decide) (fun x hx => hk x ((by decide +kernel : ∀ x ∈ (["NoTurning", "HasHistory", "BadRepeat"] : List Str), x ∈ errN) x hx)) fun H1 x1 hl => ?_
    have fx := fx.trans x1
    refine marks_step (l := l) (a := a) (C := C) (d := d) (mk := mk) rfl rfl hC (fx _ _ na ha) ⟨fs, fx _ _ nd hd⟩ hl (by decide) (fun x hx => hk x ((by decide +kernel : ∀ x ∈ (["BadRepeats", "Contrary", "NothingToUndo"] : List Str), x ∈ errN) x hx)) fun H1 x1 hl => ?_
    have fx := fx.trans x1
    refine marks_step (l := l) (a := a) (C := C) (d := d) (mk := mk) rfl rfl hC (fx _ _ na ha) ⟨fs, fx _ _ nd hd⟩ hl (by decide) (fun x hx => hk x ((by decide +kernel : ∀ x ∈ (["NothingToRedo", "NoTrial", "BadJournal"] : List Str), x ∈ errN) x hx)) fun H1 x1 hl => ?_
    have fx := fx.trans x1
    refine marks_step (l := l) (a := a) (C := C) (d := d) (mk := mk) rfl rfl hC (fx _ _ na ha) ⟨fs, fx _ _ nd hd⟩ hl (by decide) (fun x hx => hk x ((by decide +kernel : ∀ x ∈ (["BadSay"] : List Str), x ∈ errN) x hx)) fun H1 x1 hl => ?_
    have fx := fx.trans x1
    refine ⟨_, rfl, ?_⟩
    exact hq l H1 (ext_same fx nl) hl
end
end U0

set_option Elab.async false
set_option linter.all false
set_option maxRecDepth 100000
set_option maxHeartbeats 4000000
namespace U0
open PySem PySem.Spec PyProof.Rows L2 U
open PySem.W (Frag)
/-- what a drawn value is -/
def ValD (d : PyData) : Prop := ∃ d0 ∈ oddA ++ oddB, d = d0 ∨ d = .tuple [d0, .int 3] ∨ d = .list [d0] ∨ d = .dict [(.str "a", d0)]
def okD (d : PyData) : Bool := d.showable && (decide (d.depth ≤ 50) && decide (d.shown.length ≤ 1000))
theorem odd_ok : ∀ d0 ∈ oddA ++ oddB, (okD d0 && (okD (.tuple [d0, .int 3]) && (okD (.list [d0]) && okD (.dict [(.str "a", d0)])))) = true := by
  intro d hd
  exact List.all_eq_true.mp (by decide +kernel : ((oddA ++ oddB).all fun d0 => (okD d0 && (okD (.tuple [d0, .int 3]) && (okD (.list [d0]) && okD (.dict [(.str "a", d0)]))))) = true) d hd
theorem val_ok {d : PyData} (h : ValD d) : d.showable = true ∧ d.depth ≤ 50 ∧ d.shown.length ≤ sizeLine := by
  have key : okD d = true := by
    obtain ⟨d0, h0, h⟩ := h
    have z := odd_ok d0 h0
    simp only [Bool.and_eq_true] at z
    obtain ⟨z1, z2, z3, z4⟩ := z
    rcases h with rfl | rfl | rfl | rfl
    · exact z1
    · exact z2
    · exact z3
    · exact z4
  unfold okD at key
  simp only [Bool.and_eq_true, decide_eq_true_eq] at key
  exact ⟨key.1, key.2.1, by rw [sizeLine_eq]; omega⟩
theorem ext_free {p a : Addr} {H H' : Hp} (x : Ext p H H') (hp : ∃ o, H' p = some o) (n : H' a = none) : H a = none := by
  cases e : H a with
  | none => rfl
  | some o =>
    by_cases h : a = p
    · obtain ⟨o', q⟩ := hp
      rw [h, q] at n
      cases n
    · rw [x a o h e] at n
      cases n
theorem Pot.some_ {H : Hp} {p : Addr} {n : Nat} (h : Pot H p n) : ∃ o, H p = some o := by
  obtain ⟨_, _, _, e, _⟩ := h
  exact ⟨_, e⟩
theorem Pot.keep {H H' : Hp} {p : Addr} {n : Nat} (h : Pot H p n) (s : Same H H') : Pot H' p n := by
  obtain ⟨a, b, c, e, k⟩ := h
  exact ⟨a, b, c, s _ _ e, k⟩
end U0

set_option Elab.async false
set_option linter.all false
set_option maxRecDepth 100000
set_option maxHeartbeats 4000000
namespace U0
open PySem PySem.Spec PyProof.Rows L2 U
open PySem.W (Frag)
abbrev s_right : Stmt := top 44
abbrev NR : List Str := ["_law_pot_here", "_law_value", "_law_made_here", "_law_spot", "_law_error", "_law_base", "_law_other"]
theorem scRight : FnScope NR ["_law_pot_here"] (defScope s_right) := ⟨rfl, rfl, rfl, by decide +kernel, rfl, by decide +kernel, by decide +kernel⟩
section
variable {P : Program} {w : World} {K : Frag} {mg : Str → Option Value} {base : Heap} {f fT fO fA fM fK D fI : Addr} {fd fdT fdO fdA fdM fdK : FuncData}
/-- what the defs below are -/
structure Below (P : Program) (K : Frag) (mg : Str → Option Value) (fT fO fA fM fK D fI : Addr) (fdT fdO fdA fdM fdK : FuncData) : Prop where
  FT : FnP K "_law_take" s_take fT fdT
  gT : mg "_law_take" = some (.ref fT)
  FO : FnP K "_law_of" s_of fO fdO
  gO : mg "_law_of" = some (.ref fO)
  FA : FnP K "_law_odd" s_odd fA fdA
  gA : mg "_law_odd" = some (.ref fA)
  FM : FnP K "_law_made" s_made fM fdM
  gM : mg "_law_made" = some (.ref fM)
  FK : FnP K "_law_marks" s_marks fK fdK
  gK : mg "_law_marks" = some (.ref fK)
  E : ErrsK P K mg D fI
  sys : ∃ o, K.lookup sysModules = some o
  int : mg "int" = none
  len : mg "len" = none
  repr : mg "repr" = none
  range : mg "range" = none
  any : mg "any" = none
  enum : mg "enumerate" = none
theorem paired_get {α β : Type} {F : α → β → Prop} : ∀ {l : List α} {m : List β} {i : Nat} {b : β}, Paired F l m → m[i]? = some b → ∃ a, l[i]? = some a ∧ F a b
  | _, _, _, _, .nil, e => by simp at e
  | _, _, 0, _, .cons h _, e => by
    simp at e
    subst e
    exact ⟨_, rfl, h⟩
  | _, _, i + 1, b, .cons _ t, e => by
    obtain ⟨a, h1, h2⟩ := paired_get (i := i) (b := b) t (by simpa using e)
    exact ⟨a, by simpa using h1, h2⟩
theorem errN_nodup : errN.Nodup := by decide +kernel
theorem nodup_at {l : List Str} (h : l.Nodup) {i j : Nat} {x : Str} (hi : l[i]? = some x) (hj : l[j]? = some x) : i = j := by
  obtain ⟨h1, e1⟩ := List.getElem?_eq_some_iff.mp hi
  obtain ⟨h2, e2⟩ := List.getElem?_eq_some_iff.mp hj
  exact (List.getElem_inj h).mp (e1.trans e2.symm)
theorem dp_bools {K : Frag} {H : Hp} : ∀ bs : List Bool, DpAll K H (bs.map V.bl) (bs.map PyData.bool)
  | [] => .nil
  | b :: bs => .cons (.bl b) (dp_bools bs)
theorem canLay_bools : ∀ bs : List Bool, PyData.canLayAll0 (bs.map PyData.bool) = true
  | [] => by simp [PyData.canLayAll0]
  | b :: bs => by simp [PyData.canLayAll0, PyData.canLay0, canLay_bools bs]
theorem depth_bools : ∀ bs : List Bool, PyData.depthAll (bs.map PyData.bool) = 0
  | [] => by simp [PyData.depthAll]
  | b :: bs => by simp [PyData.depthAll, PyData.depth, depth_bools bs]
theorem shaped_bools (bs : List Bool) : SeqAt.shaped (.list (bs.map PyData.bool)) = true := by
  unfold SeqAt.shaped
  simp [PyData.canLay0, PyData.depth, canLay_bools bs, depth_bools bs]
def spRight : Sp := fun vs H Q _ => ∃ p : Addr, vs = [.ref p] ∧ Pot H p 0 ∧ ∀ H', Ext p H H' → Q (.bl true) H'
theorem ok_right (F : FnP K "_law_right" s_right f fd) (B : Below P K mg fT fO fA fM fK D fI fdT fdO fdA fdM fdK) : FnG P w K mg base 5 f fd ["_law_pot_here"] spRight := by
  have GO : ∀ n, FnOk P w K mg base CX0 2 fO fdO ["_law_pot_here", "_law_some"] (spOf n) := fun n => ok_of B.FO B.FT B.gT B.int B.len n
  have bO : Binds K fdO ["_law_pot_here", "_law_some"] [] := B.FO.bindsN fun _ _ _ _ _ _ us hl => match us, hl with | [_, _], _ => rfl
  have GA : ∀ n, FnOk P w K mg base CX0 3 fA fdA ["_law_pot_here"] (spOdd n) := fun n => ok_odd B.FA B.FO B.gO B.FT B.gT B.int B.len n
  have bA : Binds K fdA ["_law_pot_here"] [] := B.FA.bindsN fun _ _ _ _ _ _ us hl => match us, hl with | [_], _ => rfl
  have GM : FnOk P w K mg base CX0 2 fM fdM ["_law_value"] (spMade K) := ok_made B.FM B.E
  have bM : Binds K fdM ["_law_value"] [] := B.FM.bindsN fun _ _ _ _ _ _ us hl => match us, hl with | [_], _ => rfl
  have GK : FnOk P w K mg base CX0 1 fK fdK ["_law_error"] (spMarks K D fI) := ok_marks B.FK B.E
  have bK : Binds K fdK ["_law_error"] [] := B.FK.bindsN fun _ _ _ _ _ _ us hl => match us, hl with | [_], _ => rfl
  refine okG F scRight (fun vs H Q E h => ?_) (fun cdv A outer s H vs Q E hgu hr h => ?_)
  · obtain ⟨p, rfl, _⟩ := h
    rfl
  · obtain ⟨p, rfl, hp, hq⟩ := h
    have hr3 : Room 3 _ := hr.mono (by decide)
    have hr2 : Room 2 _ := hr.mono (by decide)
    have hr1 : Room 1 _ := hr.mono (by decide)
    have hun : (A.deeper (envOfC "_law_right" (defScope s_right) s.heap.objs.size f cdv)).units + 64 < cLine := by
      have := hr.un
      omega
    refine ⟨_, PSs.nox (pss_cons (ps_set (i := 1) scRight.nd rfl (Or.inl rfl) (pe_call (GO 4) hr2 (by rfl) B.gO B.FO.kp bO .nil pass0 (pa_cons (pv 0) (pa_cons (pe_lst
          (pa_cons (pe_call (GA 0) hr3 (by rfl) B.gA B.FA.kp bA .nil pass0 (pa_cons (pv 0) pa_nil))
          (pa_cons (pe_tup (pa_cons (pe_call (GA 1) hr3 (by rfl) B.gA B.FA.kp bA .nil pass0 (pa_cons (pv 0) pa_nil)) (pa_cons pe_int pa_nil)))
          (pa_cons (pe_lst (pa_cons (pe_call (GA 2) hr3 (by rfl) B.gA B.FA.kp bA .nil pass0 (pa_cons (pv 0) pa_nil)) pa_nil))
          (pa_cons (pe_disp (pps_cons pe_str (pe_call (GA 3) hr3 (by rfl) B.gA B.FA.kp bA .nil pass0 (pa_cons (pv 0) pa_nil)) pps_nil) rfl rfl (fun z => by cases z) (by decide)) pa_nil))))) pa_nil))))
      (pss_cons (ps_set (i := 2) scRight.nd rfl (Or.inl rfl) (pe_call GM hr2 (by rfl) B.gM B.FM.kp bM .nil pass0 (pa_cons (pv 1) pa_nil)))
      (pss_cons (ps_for PassesOwn.never rfl (pi_enum (by rfl) B.enum (pa_cons (pv 2) pa_nil)) (pg_tup rfl (pgs_cons (pg_name (i := 3) scRight.nd rfl (Or.inr rfl)) (pgs_cons (pg_name (i := 4) scRight.nd rfl (Or.inl rfl)) pgs_nil)))
        (pss_cons (ps_if (PW.pt (pw_or (pt_not (pt_val (pe_callB (call_isErr (D := D) (fI := fI)) (by rfl) B.E.gI (by decide +kernel) (pa_cons (pv 4) (pa_cons (pe_glob (by rfl) B.E.gD (v := .ref D) rfl) pa_nil)))))
              (pw_or1 (pt_not (pt_val (pe_callB (call_isErr (D := D) (fI := fI)) (by rfl) B.E.gI (by decide +kernel) (pa_cons (pv 4) (pa_cons (pe_bltn (by rfl) B.E.gV (v := .ty "ValueError") PyProof.Rows.Boot.«ValueError» rfl) pa_nil)))))))) (pss_one (ps_ret pe_bl)) pss_nil)
        (pss_one (ps_if (PW.pt (pw_or (pt_cmpR op_ne (pe_callB (call_reprD B.sys hgu hun) (by rfl) B.repr (by decide +kernel) (pa_cons (pe_errV (D := D) (fI := fI) (pv 4)) pa_nil)) (pe_callB (call_reprD B.sys hgu hun) (by rfl) B.repr (by decide +kernel) (pa_cons (pv 1) pa_nil)) (nomark _))
              (pw_or1 (pt_cmpR (op_neD hun) (pe_call GK hr1 (by rfl) B.gK B.FK.kp bK .nil pass0 (pa_cons (pv 4) pa_nil)) (pe_lc (own := [("_law_other", 6)]) (g := gName 6) (tt := tYes) rfl scRight.nd
                (pi_range1 (by rfl) B.range (pa_cons (pe_callB call_len_seq (by rfl) B.len PySem.boot_len (pa_cons (pv 2) pa_nil)) pa_nil)) (blkOk_by (N := NR) (sc := defScope s_right) (by decide +kernel)) (fun _ _ _ _ _ => pg_name (i := 6) scRight.nd rfl (Or.inl rfl)) (fun _ _ _ _ _ => pts_nil)
                (fun _ _ _ _ _ => pe_cmpR op_eq (pv 3) (pv 6) (nomark _))) (nomark _))))) (pss_one (ps_ret pe_bl)) pss_nil))))
      (pss_cons (ps_set (i := 5) scRight.nd rfl (Or.inl rfl) (pe_err B.E.init B.E.cD hr1 (by rfl) B.E.gD (pv 1)))
      (pss_one (ps_ret (pe_and (pe_cmpR op_eq (pe_callB (call_reprD B.sys hgu hun) (by rfl) B.repr (by decide +kernel) (pa_cons (pe_errV (D := D) (fI := fI) (pv 5)) pa_nil)) (pe_callB (call_reprD B.sys hgu hun) (by rfl) B.repr (by decide +kernel) (pa_cons (pv 1) pa_nil)) (nomark _))
        (pe_and (pe_callB (call_isErr (D := D) (fI := fI)) (by rfl) B.E.gI (by decide +kernel) (pa_cons (pv 5) (pa_cons (pe_bltn (by rfl) B.E.gV (v := .ty "ValueError") PyProof.Rows.Boot.«ValueError» rfl) pa_nil)))
          (pe_one (pe_not (pe_callB (cr_any rfl) (by rfl) B.any (by decide +kernel) (pa_cons (pe_call GK hr1 (by rfl) B.gK B.FK.kp bK .nil pass0 (pa_cons (pv 5) pa_nil)) pa_nil)))))))))))), ?_⟩
    refine ⟨_, rfl, _, rfl, p, rfl, hp, by decide, fun v1 d1 H1 m1 q1 p1 x1 => ?_⟩
    refine ⟨_, rfl, p, rfl, p1, by decide, fun v2 d2 H2 m2 q2 p2 x2 => ⟨(show 2 ≤ sizeLine by decide), fun t2 n2 => ?_⟩⟩
    refine ⟨_, rfl, p, rfl, p2.keep (same_new n2), by decide, fun v3 d3 H3 m3 q3 p3 x3 => ⟨(show 1 ≤ sizeLine by decide), fun l3 n3 => ?_⟩⟩
    refine fun dd nd => ⟨_, rfl, p, rfl, (p3.keep (same_new n3)).keep (same_new nd), by decide, fun v4 d4 H4 m4 q4 p4 x4 => ?_⟩
    have ddp : dd ≠ p := Ne.symm (ne_of_none (p3.keep (same_new n3)).some_.choose_spec nd)
    have hdd : H4 dd = some (.dK []) := x4 _ _ ddp upd_same
    refine ⟨hdd, [(Sum.inr "a", v4)], rfl, (show 1 ≤ 15 by decide), (show 4 ≤ sizeLine by decide), fun l nl => ?_⟩
    have p5 : Pot (upd H4 dd (.dK (mergeK [] [(Sum.inr "a", v4)]))) p 4 := by
      obtain ⟨a1, b1, c1, e1, k1⟩ := p4
      exact ⟨a1, b1, c1, by rw [upd_ne (Ne.symm ddp)]; exact e1, k1⟩
    have lp : l ≠ p := Ne.symm (ne_of_none p5.some_.choose_spec nl)
    refine ⟨p, l, _, rfl, p5.keep (same_new nl), by decide, upd_same, lp, (show 0 < 4 by decide), (show 4 < 1000000 by decide), fun i v H5 hi p6 x6 => ?_⟩
    -- what has become of the older objects
    have k5 : ∀ b o, b ≠ p → H4 b = some o → b ≠ dd → H5 b = some o := fun b o hb e hd => x6 b o hb (same_new nl b o (by rw [upd_ne hd]; exact e))
    have k4 : ∀ b o, b ≠ p → upd H3 l3 (.lst [v3]) b = some o → H5 b = some o := fun b o hb e => k5 b o hb (x4 b o hb (same_new nd b o e)) (ne_of_none e nd)
    have k3 : ∀ b o, b ≠ p → H3 b = some o → H5 b = some o := fun b o hb e => k4 b o hb (same_new n3 b o e)
    have k2 : ∀ b o, b ≠ p → upd H2 t2 (.tup [v2, .int 3]) b = some o → H5 b = some o := fun b o hb e => k3 b o hb (x3 b o hb e)
    have k1 : ∀ b o, b ≠ p → H1 b = some o → H5 b = some o := fun b o hb e => k2 b o hb (same_new n2 b o (x2 b o hb e))
    have k0 : Ext p H H5 := fun b o hb e => k1 b o hb (x1 b o hb e)
    obtain ⟨po, hpo⟩ := hp.some_
    have fp : ∀ {b : Addr}, H b = none → b ≠ p := fun {b} z y => by
      rw [y, hpo] at z
      cases z
    have f1 : ∀ {b : Addr}, H1 b = none → H b = none := fun {b} z => ext_free x1 p1.some_ z
    have f2 : ∀ {b : Addr}, H2 b = none → H b = none := fun {b} z => f1 (ext_free x2 p2.some_ z)
    have f2' : ∀ {b : Addr}, upd H2 t2 (.tup [v2, .int 3]) b = none → H b = none := fun {b} z => f2 ((same_new n2).free z)
    have f3 : ∀ {b : Addr}, H3 b = none → H b = none := fun {b} z => f2' (ext_free x3 p3.some_ z)
    have f3' : ∀ {b : Addr}, upd H3 l3 (.lst [v3]) b = none → H b = none := fun {b} z => f3 ((same_new n3).free z)
    have f4' : ∀ {b : Addr}, upd (upd H3 l3 (.lst [v3])) dd (.dK []) b = none → H b = none := fun {b} z => f3' ((same_new nd).free z)
    have vals : ∃ d, ValD d ∧ Dq (fun a => H a = none) H5 v d := by
      match i, hi with
      | 0, hi =>
        cases hi
        exact ⟨d1, ⟨d1, m1, .inl rfl⟩, q1.move (fun _ z => z) fun b o z e => k1 b o (fp z) e⟩
      | 1, hi =>
        cases hi
        exact ⟨_, ⟨d2, m2, .inr (.inl rfl)⟩, .tup (f2 n2) (k2 _ _ (fp (f2 n2)) upd_same) (.cons (q2.move (fun _ z => f1 z) fun b o z e => k2 b o (fp (f1 z)) (same_new n2 b o e)) (.cons (.int 3) .nil))⟩
      | 2, hi =>
        cases hi
        exact ⟨_, ⟨d3, m3, .inr (.inr (.inl rfl))⟩, .lst (f3 n3) (k4 _ _ (fp (f3 n3)) upd_same) (.cons (q3.move (fun _ z => f2' z) fun b o z e => k3 b o (fp (f2' z)) e) .nil)⟩
      | 3, hi =>
        cases hi
        refine ⟨_, ⟨d4, m4, .inr (.inr (.inr rfl))⟩, .dk (kvs := [(Sum.inr "a", v4)]) (ds := [d4]) (f3' nd) (x6 _ _ ddp (same_new nl _ _ upd_same)) (.cons (q4.move (fun _ z => f4' z) fun b o z e => k5 b o (fp (f4' z)) e fun y => ?_) .nil)⟩
        have z' : upd (upd H3 l3 (.lst [v3])) dd (.dK []) b = none := z
        rw [y, upd_same] at z'
        cases z'
      | n + 4, hi => cases hi
    obtain ⟨d, hd, hv⟩ := vals
    clear k5 k4 k3 k2 k1 f1 f2 f2' f3 f3' f4' q1 q2 q3 q4
    refine ⟨_, rfl, v, rfl, fun lm as H6 s6 hlm hpa => ?_⟩
    obtain ⟨sh1, sh2, sh3⟩ := val_ok hd
    have hlen : as.length = errN.length := by
      have z := paired_len hpa
      rw [List.length_map] at z
      exact z.symm
    have h34 : errN.length = 34 := by decide
    have hv6 : ∀ {Hc : Hp}, Same H6 Hc → Dq (fun a => H a = none) Hc v d := fun {Hc} sc => hv.move (fun _ z => z) fun b o _ e => sc b o (s6 b o e)
    refine ⟨_, rfl, lm, _, rfl, SqL.of hlm, for_it (walk_enum (xs := as.map V.ref)) (fun i σ Hc => ∃ o3 o4, σ = [some (.ref p), some v, some (.ref lm), o3, o4, none, none] ∧ Same H6 Hc) ⟨none, none, rfl, Same.refl _⟩ (fun i σ Hc _ ⟨_, _, _, sc⟩ => SqL.of (sc _ _ hlm)) ?_ ?_⟩
    · rintro i x σ Hc Hc' hi ⟨o3, o4, rfl, sc⟩ ⟨T, ix, ex, rfl, nT, rfl, e1, e2⟩
      cases e1
      have e2' : (as.map V.ref)[i]? = some ex := e2
      rw [List.getElem?_map] at e2'
      cases ea : as[i]? with
      | none =>
        rw [ea] at e2'
        cases e2'
      | some a =>
        rw [ea] at e2'
        cases e2'
        obtain ⟨C, hC, hat⟩ := paired_get hpa ea
        rw [List.getElem?_map] at hC
        cases ex : errN[i]? with
        | none =>
          rw [ex] at hC
          cases hC
        | some nm =>
          rw [ex] at hC
          cases hC
          obtain ⟨dx, ha, hdx⟩ := hat
          have mem : nm ∈ errN := List.mem_of_getElem? ex
          have sT : Same H6 (upd Hc T (.tup [.int (i : Nat), .ref a])) := sc.trans (same_new nT)
          have tC := (B.E.cls nm mem).1
          obtain ⟨up1, up2, up3⟩ := B.E.up nm mem
          refine ⟨T, _, rfl, .inl (.inl upd_same), rfl, ?_⟩
          refine ⟨_, _, rfl, _, _, rfl, rfl, ?_⟩
          refine ⟨_, rfl, a, _, dx, .ref D, .ref D, true, rfl, tC, sT _ _ ha, ⟨_, sT _ _ hdx⟩, .own D, up1, true, rfl, ?_⟩
          refine iteF ?_
          refine ⟨_, rfl, a, _, dx, .ty "ValueError", .type "ValueError", true, rfl, tC, sT _ _ ha, ⟨_, sT _ _ hdx⟩, .ty _, up2, true, rfl, ?_⟩
          refine iteF ?_
          refine ⟨_, rfl, a, _, dx, v, rfl, tC, sT _ _ ha, sT _ _ hdx, _, v, d, rfl, hv6 sT, sh1, sh2, sh3, _, rfl, _, v, d, rfl, hv6 sT, sh1, sh2, sh3, rfl, _, rfl, ?_⟩
          refine iteNS rfl ?_
          refine ⟨_, rfl, a, _, dx, fun x => decide (x = nm), rfl, tC, sT _ _ ha, ⟨_, sT _ _ hdx⟩, ?_, fun l2 H7 s7 hl2 => ?_⟩
          · intro x hx
            obtain ⟨j, hj⟩ := List.getElem?_of_mem hx
            rw [B.E.same i j nm x ex hj]
            have e : decide (i = j) = decide (x = nm) := by
              by_cases h : i = j
              · subst h
                rw [ex] at hj
                cases hj
                rw [decide_eq_true rfl, decide_eq_true rfl]
              · rw [decide_eq_false h, decide_eq_false fun z => h ?_]
                subst z
                exact nodup_at errN_nodup ex hj
            rw [e]
          have s67 : Same H6 H7 := sT.trans s7
          refine ⟨_, rfl, lm, _, rfl, .inl (SqL.of (s67 _ _ hlm)), ?_⟩
          refine ⟨_, rfl, by omega, by rw [List.length_map]; omega, fun L nL => lc_range (lo := 0) (n := (((as.map V.ref).length : Nat) : Int).toNat) (fun j Hc => Same H7 Hc ∧ Hc L = some (.lst (((List.range j).map fun t => decide (i = t)).map V.bl))) ⟨same_new nL, upd_same⟩ ?_ ?_⟩
          · rintro j Hc hj ⟨sc7, hL⟩
            refine ⟨rfl, yes_if ?_⟩
            refine ⟨_, rfl, _, rfl, rfl, _, hL, ?_, ?_, ?_⟩
            · rw [List.length_map, List.length_map, List.length_range, sizeLine_eq]
              rw [List.length_map] at hj
              omega
            · exact fun b o e => by
                rw [upd_ne (ne_of_none e nL)]
                exact sc7 b o e
            · rw [upd_same, List.range_succ, List.map_append, List.map_append]
              have ed : decide (V.int ((i : Nat) : Int) = V.int (0 + ((j : Nat) : Int))) = decide (i = j) := by
                by_cases h : i = j
                · rw [decide_eq_true h, decide_eq_true (by rw [h, Int.zero_add])]
                · rw [decide_eq_false h, decide_eq_false fun z => h (by have := V.int.inj z; omega)]
              show some (HO.lst (_ ++ [V.bl (decide (V.int ((i : Nat) : Int) = V.int (0 + ((j : Nat) : Int))))])) = _
              rw [ed]
              rfl
          · rintro Hc ⟨sc7, hL⟩
            have e34 : (((as.map V.ref).length : Nat) : Int).toNat = errN.length := by
              rw [Int.toNat_natCast, List.length_map, hlen]
            rw [e34] at hL
            have el : errN.map (fun x => V.bl (decide (x = nm))) = ((List.range errN.length).map fun t => decide (i = t)).map V.bl := by
              rw [List.map_map]
              apply List.ext_getElem?
              intro t
              rw [List.getElem?_map, List.getElem?_map]
              cases et : errN[t]? with
              | none =>
                rw [List.getElem?_eq_none_iff.mpr (by rw [List.length_range]; exact List.getElem?_eq_none_iff.mp et)]
                rfl
              | some y =>
                obtain ⟨lt, _⟩ := List.getElem?_eq_some_iff.mp et
                rw [List.getElem?_range lt]
                show some (V.bl (decide (y = nm))) = some (V.bl (decide (i = t)))
                have e : decide (y = nm) = decide (i = t) := by
                  by_cases h : i = t
                  · subst h
                    rw [ex] at et
                    cases et
                    rw [decide_eq_true rfl, decide_eq_true rfl]
                  · rw [decide_eq_false h, decide_eq_false fun z => h ?_]
                    subst z
                    exact nodup_at errN_nodup ex et
                rw [e]
            rw [el] at hl2
            refine ⟨_, _, .lst (SqL.of (sc7 _ _ hl2)) (dp_bools _), .lst (SqL.of hL) (dp_bools _), shaped_bools _, shaped_bools _, _, rfl, ?_⟩
            rw [SeqAt.eqv_refl _ (SeqAt.canLay_of_shaped (shaped_bools _))]
            refine iteF ?_
            exact ⟨_, _, rfl, s67.trans sc7⟩
    · rintro σ Hc ⟨o3, o4, rfl, sc⟩
      refine ⟨_, rfl, fun a dx na nd' ne => ?_⟩
      have sT : Same H6 (upd (upd Hc dx (exd dx [("value", v)])) a (exo a D (some dx))) := sc.trans ((same_new nd').trans (same_new (by rw [upd_ne (Ne.symm ne)]; exact na)))
      have ha : upd (upd Hc dx (exd dx [("value", v)])) a (exo a D (some dx)) a = some (exo a D (some dx)) := upd_same
      have hdx : upd (upd Hc dx (exd dx [("value", v)])) a (exo a D (some dx)) dx = some (exd dx [("value", v)]) := by
        rw [upd_ne ne]
        exact upd_same
      refine ⟨_, rfl, a, _, dx, v, rfl, B.E.cD, ha, hdx, _, v, d, rfl, hv6 sT, sh1, sh2, sh3, _, rfl, _, v, d, rfl, hv6 sT, sh1, sh2, sh3, rfl, _, rfl, ?_⟩
      rw [if_pos (decide_eq_true rfl)]
      refine ⟨_, rfl, a, _, dx, .ty "ValueError", .type "ValueError", true, rfl, B.E.cD, ha, ⟨_, hdx⟩, .ty _, B.E.upD, true, rfl, ?_⟩
      refine iteT ?_
      refine ⟨_, rfl, a, _, dx, fun _ => false, rfl, B.E.cD, ha, ⟨_, hdx⟩, fun x hx => (B.E.up x hx).2.2, fun l3 H8 s8 hl3 => ?_⟩
      refine ⟨l3, errN.map fun _ => false, rfl, SqL.of (by rw [List.map_map]; exact hl3), _, rfl, ?_⟩
      exact hq H8 (k0.trans (Ext.of ((s6.trans sT).trans s8)))
end
end U0

set_option Elab.async false
set_option linter.all false
set_option maxRecDepth 100000
set_option maxHeartbeats 4000000
namespace U0
open PySem PySem.Spec PyProof.Rows L2 U
open PySem.W (Frag)
abbrev s_law : Stmt := top 45
abbrev NL : List Str := ["_law_script", "_law_pot_here"]
theorem scLaw : FnScope NL ["_law_script"] (defScope s_law) := ⟨rfl, rfl, rfl, by decide +kernel, rfl, by decide +kernel, by decide +kernel⟩
section
variable {P : Program} {w : World} {K : Frag} {mg : Str → Option Value} {base : Heap} {f fR fS fP : Addr} {fd fdR fdS fdP : FuncData}
def spLaw (K : Frag) : Sp := fun vs H Q _ => ∃ (a : Addr) (ns : List Int), vs = [.ref a] ∧ SqL K H a (ns.map V.int) ∧ ∀ H', Q (.bl true) H'
theorem pot_ne {H : Hp} {p l : Addr} {n : Nat} {ps : List Addr} (h : Pot H p n) (hl : H l = some (.lst (ps.map V.ref))) : l ≠ p := by
  obtain ⟨o1, m1, c1, e1, _⟩ := h
  refine ne_of hl e1 fun z => ?_
  have z1 := HO.lst.inj z
  cases ps with
  | nil => cases z1
  | cons q qs =>
    have z2 := (List.cons.inj z1).1
    cases z2
theorem pot_ne' {H : Hp} {p l : Addr} {n : Nat} {bs : List Bool} (h : Pot H p n) (hl : H l = some (.lst (bs.map V.bl))) : l ≠ p := by
  obtain ⟨o1, m1, c1, e1, _⟩ := h
  refine ne_of hl e1 fun z => ?_
  have z1 := HO.lst.inj z
  cases bs with
  | nil => cases z1
  | cons q qs =>
    have z2 := (List.cons.inj z1).1
    cases z2
theorem ok_law (F : FnP K "law" s_law f fd) (GR : FnG P w K mg base 5 fR fdR ["_law_pot_here"] spRight) (FR : FnP K "_law_right" (top 44) fR fdR) (gR : mg "_law_right" = some (.ref fR)) (GS : FnOk P w K mg base CX0 2 fS fdS ["_law_script", "_law_limit"] (spPots K)) (FS : FnP K "_law_pots" s_pots fS fdS) (gS : mg "_law_pots" = some (.ref fS)) (gA : mg "all" = none) :
    FnG P w K mg base 6 f fd ["_law_script"] (spLaw K) := by
  have bR : Binds K fdR ["_law_pot_here"] [] := FR.bindsN fun _ _ _ _ _ _ us hl => match us, hl with | [_], _ => rfl
  have bS : Binds K fdS ["_law_script", "_law_limit"] [] := FS.bindsN fun _ _ _ _ _ _ us hl => match us, hl with | [_, _], _ => rfl
  refine okG F scLaw (fun vs H Q E h => ?_) (fun cdv A outer s H vs Q E hgu hr h => ?_)
  · obtain ⟨a, ns, rfl, _⟩ := h
    rfl
  · obtain ⟨a, ns, rfl, hs, hq⟩ := h
    have hr2 : Room 2 _ := hr.mono (by decide)
    refine ⟨_, PSs.nox (pss_one (ps_ret (pe_callB (cr_all rfl) (by rfl) gA (by decide +kernel) (pa_cons (pe_lc (own := [("_law_pot_here", 1)]) (g := gName 1) (tt := tYes) rfl scLaw.nd
      (pi_list (pe_call GS hr2 (by rfl) gS FS.kp bS .nil pass0 (pa_cons (pv 0) (pa_cons pe_int pa_nil)))) (blkOk_by (N := NL) (sc := defScope s_law) (by decide +kernel)) (fun _ _ _ _ _ => pg_name (i := 1) scLaw.nd rfl (Or.inl rfl)) (fun _ _ _ _ _ => pts_nil)
      (fun _ _ _ _ _ => pe_callG GR hgu hr (by rfl) gR FR.kp bR (pa_cons (pv 1) pa_nil))) pa_nil)))), ?_⟩
    refine ⟨_, rfl, a, ns, 4, rfl, hs, by decide, by decide, fun l ps H1 s1 hl nd hlen hps => ?_⟩
    refine ⟨l, rfl, ⟨_, SqL.of hl⟩, fun L nL => lc_list (K := K) (a := l) (xs := ps.map V.ref) (fun i Hc => Hc l = some (.lst (ps.map V.ref)) ∧ (∀ j, i ≤ j → ∀ p, ps[j]? = some p → Pot Hc p 0) ∧ Hc L = some (.lst ((List.replicate i true).map V.bl)))
      ⟨same_new nL _ _ hl, fun j _ p hp => (hps p (List.mem_of_getElem? hp)).keep (same_new nL), upd_same⟩ (fun i Hc _ h => SqL.of h.1) ?_ ?_⟩
    · rintro i x Hc hi ⟨h1, h2, h3⟩
      rw [List.getElem?_map] at hi
      cases ep : ps[i]? with
      | none =>
        rw [ep] at hi
        cases hi
      | some p =>
        rw [ep] at hi
        cases hi
        have hp := h2 i (Nat.le_refl _) p ep
        have ilt : i < ps.length := (List.getElem?_eq_some_iff.mp ep).1
        refine ⟨rfl, yes_if ?_⟩
        refine ⟨_, rfl, p, rfl, hp, fun H2 x2 => ?_⟩
        have nl : l ≠ p := pot_ne hp h1
        have nL' : L ≠ p := pot_ne' hp h3
        have lL : l ≠ L := fun z => by
          rw [z, h3] at h1
          have z1 := HO.lst.inj (Option.some.inj h1)
          cases ps with
          | nil => simp at ilt
          | cons q qs =>
            cases i with
            | zero => cases z1
            | succ i => cases z1
        refine ⟨_, x2 _ _ nL' h3, by rw [List.length_map, List.length_replicate, sizeLine_eq]; omega, ?_, fun j hj q hq' => ?_, ?_⟩
        · rw [upd_ne lL]
          exact x2 _ _ nl h1
        · obtain ⟨o1, m1, c1, e1, k1⟩ := h2 j (by omega) q hq'
          have qp : q ≠ p := fun z => by
            subst z
            obtain ⟨l1, f1⟩ := List.getElem?_eq_some_iff.mp hq'
            obtain ⟨l2, f2⟩ := List.getElem?_eq_some_iff.mp ep
            have := (List.getElem_inj nd).mp (f1.trans f2.symm)
            omega
          have qL : q ≠ L := Ne.symm (pot_ne' ⟨o1, m1, c1, e1, k1⟩ h3)
          exact ⟨o1, m1, c1, by rw [upd_ne qL]; exact x2 _ _ qp e1, k1⟩
        · rw [upd_same, List.replicate_succ', List.map_append]
          rfl
    · rintro Hc ⟨h1, h2, h3⟩
      refine ⟨L, _, rfl, SqL.of h3, ?_⟩
      have e : (List.replicate (ps.map V.ref).length true).all id = true := by
        rw [List.all_eq_true]
        intro b hb
        rw [List.eq_of_mem_replicate hb]
        rfl
      rw [e]
      exact hq Hc
end
end U0

set_option Elab.async false
set_option linter.all false
set_option maxRecDepth 100000
set_option maxHeartbeats 0
namespace U0
open PySem PySem.Spec PyProof.Rows L2 U
open PySem.W (Frag)
abbrev R : PySem.W.OpenRow := PySem.W.OpenLaw.row PySem.Challenge.rw_unnotedtables_k00_errors_keep_their_valu
def names0 : List PySem.Str := ["TableError", "BadChart", "NoResult", "NoPerson", "NoLab", "NoName", "BadLine", "Full", "BadClaim", "NoFact", "BadSide", "BadRate", "BadClaims", "BadTable", "BadRow", "BadCourses", "BadLiterals", "NoHistory", "BadDay", "NotSure", "BadSpot", "BadHistory", "TooMany", "BadNumber", "BadLot", "NoTurning", "HasHistory", "BadRepeat", "BadRepeats", "Contrary"]
def names1 : List PySem.Str := ["NothingToUndo", "NothingToRedo", "NoTrial", "BadJournal", "BadSay", "_law_pot", "_law_take", "_law_of", "_law_pots", "_law_odd", "_law_made", "_law_marks", "_law_right"]
def loose : List PySem.Str := names0 ++ names1
def fa0 : List He.Fa := [.glo "TableError", .glo "BadChart", .glo "NoResult", .glo "NoPerson", .glo "NoLab", .glo "NoName", .glo "BadLine", .glo "Full", .glo "BadClaim", .glo "NoFact", .glo "BadSide", .glo "BadRate", .glo "BadClaims", .glo "BadTable", .glo "BadRow", .glo "BadCourses", .glo "BadLiterals", .glo "NoHistory", .glo "BadDay", .glo "NotSure"]
def fa1 : List He.Fa := [.glo "BadSpot", .glo "BadHistory", .glo "TooMany", .glo "BadNumber", .glo "BadLot", .glo "NoTurning", .glo "HasHistory", .glo "BadRepeat", .glo "BadRepeats", .glo "Contrary", .glo "NothingToUndo", .glo "NothingToRedo", .glo "NoTrial", .glo "BadJournal", .glo "BadSay", .glo "_law_pot", .glo "_law_take", .glo "_law_of", .glo "_law_pots", .glo "_law_odd"]
def fa2 : List He.Fa := [.glo "_law_made", .glo "_law_marks", .glo "_law_right", .glo "law", .free "len", .free "abs", .free "int", .free "repr", .free "isinstance", .free "range", .free "max", .free "min", .free "enumerate", .free "any", .free "all", .free "ValueError"]
def fa : List He.Fa := fa0 ++ fa1 ++ fa2
def d_pot : He.DefD := ⟨("_law_pot", none), "_law_pot", "_law_pot", defArgs s_pot, defBody s_pot, defScope s_pot, [], []⟩
def d_take : He.DefD := ⟨("_law_take", none), "_law_take", "_law_take", defArgs s_take, defBody s_take, defScope s_take, [], []⟩
def d_of : He.DefD := ⟨("_law_of", none), "_law_of", "_law_of", defArgs s_of, defBody s_of, defScope s_of, [], []⟩
def d_pots : He.DefD := ⟨("_law_pots", none), "_law_pots", "_law_pots", defArgs s_pots, defBody s_pots, defScope s_pots, [], []⟩
def d_odd : He.DefD := ⟨("_law_odd", none), "_law_odd", "_law_odd", defArgs s_odd, defBody s_odd, defScope s_odd, [], []⟩
def d_made : He.DefD := ⟨("_law_made", none), "_law_made", "_law_made", defArgs s_made, defBody s_made, defScope s_made, [], []⟩
def d_marks : He.DefD := ⟨("_law_marks", none), "_law_marks", "_law_marks", defArgs s_marks, defBody s_marks, defScope s_marks, [], []⟩
def d_right : He.DefD := ⟨("_law_right", none), "_law_right", "_law_right", defArgs s_right, defBody s_right, defScope s_right, [], []⟩
def d_law : He.DefD := ⟨("law", none), "law", "law", defArgs s_law, defBody s_law, defScope s_law, [], []⟩
def fn : List He.DefD := [d_pot, d_take, d_of, d_pots, d_odd, d_made, d_marks, d_right, d_law]
abbrev s_init : Stmt := inClass (top 1) 0
def aD (K : Frag) : Addr := He.ga K "TableError"
def aI (K : Frag) : Addr := He.ma K (aD K) "__init__"
def pairsB (K : Frag) : Bool := (List.range 34).all fun i => (List.range 34).all fun j => match errN[i]?, errN[j]? with
  | some x, some y => eqB (PySem.W.kitOne K (.ref (He.ga K x)) (.ref (He.ga K y))) (some (decide (i = j)))
  | _, _ => false
def exAt (K : Frag) (D fI : Addr) : Bool := initB R.prog.main.file K D fI && (errB K D fI D && ((errN.all fun x => errB K D fI (He.ga K x)) && ((errN.all fun x => eqB (PySem.W.kitOne K (.ref (He.ga K x)) (.ref D)) (some true) && (eqB (PySem.W.kitOne K (.ref (He.ga K x)) (.type "ValueError")) (some true) && eqB (PySem.W.kitOne K (.ref D) (.ref (He.ga K x))) (some false))) &&
  ((eqB (PySem.W.kitOne K (.ref D) (.type "ValueError")) (some true)) && ((K.lookup sysModules).isSome && pairsB K)))))
def ex (K : Frag) : Bool := exAt K (aD K) (aI K)
def fc (K : Frag) : FnC := fnC K (aI K)
def vc : FnC := some (("__init__" : Str), ("TableError.__init__" : Str), defArgs s_init, FuncBody.stmts (defBody s_init), defScope s_init, mainGlobals, [("__class__" : Str)], builtinsNs)
abbrev hk : PySem.W.Hook := hookU 5 fa fn [] ex fc vc
def ob (s : PySem.W.SharedT) : AlU := obsU 5 fa fn [] ex fc (HandSHeadRun.getT s)
theorem ob_eq (s : PySem.W.SharedT) : ob s = hk.obs s.abs := obsU_eq (HandSHeadRun.getT_eq s)
theorem run (w : World) : HandSHeadRun.RunEq R (PySem.W.view R.prog [45]) hk ob 60000 loose w := by
  intro os
  kernel_rfl
end U0

set_option Elab.async false
set_option linter.all false
set_option maxRecDepth 100000
set_option maxHeartbeats 0
namespace U0
open PySem PySem.Spec PyProof.Rows L2 U
open PySem.W (Frag)
def isGlo (x : Str) : He.Fa → Bool
  | .glo y => decide (y = x)
  | _ => false
def isFree (x : Str) : He.Fa → Bool
  | .free y => decide (y = x)
  | _ => false
theorem glo_in {K : Frag} {x : Str} (c : He.SaysD fa fn K) (h : fa.any (isGlo x) = true) : (He.Fa.glo x).ok K = true := by
  obtain ⟨f, hf, hx⟩ := List.any_eq_true.mp h
  cases f with
  | glo y =>
    have e : y = x := of_decide_eq_true hx
    rw [← e]
    exact c.facts hf
  | _ => cases hx
theorem free_in {K : Frag} {x : Str} (c : He.SaysD fa fn K) (h : fa.any (isFree x) = true) : (He.Fa.free x).ok K = true := by
  obtain ⟨f, hf, hx⟩ := List.any_eq_true.mp h
  cases f with
  | free y =>
    have e : y = x := of_decide_eq_true hx
    rw [← e]
    exact c.facts hf
  | _ => cases hx
theorem errs_glo : (errN.all fun x => fa.any (isGlo x)) = true := by decide +kernel
theorem vc_is : vc = initV ⟨4, 17, 4, 21⟩ ⟨4, 23, 4, 28⟩ ⟨5, 8, 5, 13⟩ ⟨5, 8, 5, 15⟩ ⟨5, 8, 5, 24⟩ ⟨5, 25, 5, 30⟩ ⟨5, 8, 5, 31⟩ ⟨5, 8, 5, 31⟩ ⟨6, 8, 6, 12⟩ ⟨6, 8, 6, 18⟩ ⟨6, 21, 6, 26⟩ ⟨6, 8, 6, 26⟩ := by rfl
theorem pair_ok {K : Frag} (e7 : pairsB K = true) (i j : Nat) (x y : Str) (hi : errN[i]? = some x) (hj : errN[j]? = some y) : PySem.W.kitOne K (.ref (He.ga K x)) (.ref (He.ga K y)) = some (decide (i = j)) := by
  have l34 : errN.length = 34 := by decide
  have h1 : i < 34 := by
    have := (List.getElem?_eq_some_iff.mp hi).1
    omega
  have h2 : j < 34 := by
    have := (List.getElem?_eq_some_iff.mp hj).1
    omega
  have z := List.all_eq_true.mp (List.all_eq_true.mp e7 i (List.mem_range.mpr h1)) j (List.mem_range.mpr h2)
  rw [hi, hj] at z
  exact of_decide_eq_true z
theorem facts {w : World} {K : Frag} {h : Heap} {mg : Str → Option Value} {f : Addr} (X : K.In h) (G : h.Ns mainGlobals mg) (hfa : mg ("law" : Str) = some (.ref f)) (c : He.SaysT fa fn [] w K) (e : ex K = true) (ec : fc K = vc) :
    ∃ fd : FuncData, (∀ (s : Shared) (v : Value), BindsTo s fd ⟨[v], []⟩ [("_law_script", v)]) ∧ ∀ b : Heap, K.In b → b.Ns mainGlobals mg → FnG R.prog w K mg b 6 f fd ["_law_script"] (spLaw K) := by
  have cd := c.d
  obtain ⟨e1, e⟩ := He.ba e
  obtain ⟨e2, e⟩ := He.ba e
  obtain ⟨e3, e⟩ := He.ba e
  obtain ⟨e4, e⟩ := He.ba e
  obtain ⟨e5, e⟩ := He.ba e
  obtain ⟨e6, e7⟩ := He.ba e
  have T : InitTxt R.prog K (aD K) (aI K) := init_of (prog := R.prog) (by rfl) (by decide +kernel) (ec.trans vc_is) e1
  have gl : ∀ x : Str, fa.any (isGlo x) = true → mg x = some (.ref (He.ga K x)) := fun x hx => He.glo_ok X G (glo_in cd hx)
  have fr : ∀ x : Str, fa.any (isFree x) = true → mg x = none := fun x hx => He.free_ok X G (free_in cd hx)
  have E : ErrsK R.prog K mg (aD K) (aI K) := {
    init := T
    cD := errB_ok e2
    gD := gl "TableError" (by decide +kernel)
    cls := fun x hx => ⟨errB_ok (List.all_eq_true.mp e3 x hx), gl x (List.all_eq_true.mp errs_glo x hx)⟩
    same := pair_ok e7
    up := fun x hx => by
      obtain ⟨u1, u⟩ := He.ba (List.all_eq_true.mp e4 x hx)
      obtain ⟨u2, u3⟩ := He.ba u
      exact ⟨of_decide_eq_true u1, of_decide_eq_true u2, of_decide_eq_true u3⟩
    upD := of_decide_eq_true e5
    gI := fr "isinstance" (by decide +kernel)
    gV := fr "ValueError" (by decide +kernel) }
  obtain ⟨fdP, FP⟩ := cd.def_ 0 (d := d_pot) rfl
  obtain ⟨fdT, FT⟩ := cd.def_ 1 (d := d_take) rfl
  obtain ⟨fdO, FO⟩ := cd.def_ 2 (d := d_of) rfl
  obtain ⟨fdS, FS⟩ := cd.def_ 3 (d := d_pots) rfl
  obtain ⟨fdA, FA⟩ := cd.def_ 4 (d := d_odd) rfl
  obtain ⟨fdM, FM⟩ := cd.def_ 5 (d := d_made) rfl
  obtain ⟨fdK, FK⟩ := cd.def_ 6 (d := d_marks) rfl
  obtain ⟨fdR, FR⟩ := cd.def_ 7 (d := d_right) rfl
  obtain ⟨fd, F⟩ := cd.def_ 8 (d := d_law) rfl
  cases hfa.symm.trans (gl "law" (by decide +kernel))
  have b := FunD.bindsA (ps := ["_law_script"]) F fun _ _ _ _ _ _ us hl => match us, hl with | [_], _ => rfl
  refine ⟨fd, fun s v => b s [v] rfl, fun bb _ _ => ?_⟩
  have B : Below R.prog K mg _ _ _ _ _ (aD K) (aI K) fdT fdO fdA fdM fdK := {
    FT := FT
    gT := gl "_law_take" (by decide +kernel)
    FO := FO
    gO := gl "_law_of" (by decide +kernel)
    FA := FA
    gA := gl "_law_odd" (by decide +kernel)
    FM := FM
    gM := gl "_law_made" (by decide +kernel)
    FK := FK
    gK := gl "_law_marks" (by decide +kernel)
    E := E
    sys := Option.isSome_iff_exists.mp e6
    int := fr "int" (by decide +kernel)
    len := fr "len" (by decide +kernel)
    repr := fr "repr" (by decide +kernel)
    range := fr "range" (by decide +kernel)
    any := fr "any" (by decide +kernel)
    enum := fr "enumerate" (by decide +kernel) }
  exact ok_law F (ok_right FR B) FR (gl "_law_right" (by decide +kernel)) (ok_pots FS FP (gl "_law_pot" (by decide +kernel)) B.int B.len (fr "abs" (by decide +kernel)) B.range (fr "max" (by decide +kernel)) (fr "min" (by decide +kernel))) FS (gl "_law_pots" (by decide +kernel)) (fr "all" (by decide +kernel))
end U0
open PySem PySem.W PySem.Calls PyProof.Rows
theorem PySem.Challenge.cw_unnotedtables_k00_errors_keep_their_valu_holds : PySem.Challenge.rw_unnotedtables_k00_errors_keep_their_valu.Holds := by
  w_on; o_law
  refine HandSHeadRun.head_any (r := U0.R) (q := view U0.R.prog [45]) (H := U0.hk) (ob := U0.ob) (M := 60000) (loose := U0.loose) (d := HandSHeadRun.topDef U0.R.prog 45) (kwd := []) U0.ob_eq
    (by kernel_rfl) (fun s => by kernel_rfl) U0.run (by kernel_rfl) (by kernel_rfl) (by kernel_rfl) (by rfl) (by first | assumption | decide +kernel) (by decide +kernel) ⟨rfl, rfl, rfl, rfl, rfl, by decide +kernel⟩ ?hw ?hc
  case hw => w_witness2
  case hc =>
    refine U.walk_lawG (l := PySem.Challenge.rw_unnotedtables_k00_errors_keep_their_valu) (n := 63) (k := 6) (x := "_law_script") rfl (by decide) (by kernel_rfl) ⟨rfl, by decide, by decide⟩ ?F
    intro w mg fa h Y G hmg0
    obtain ⟨K, KX, c, e, ec⟩ := Y
    have hmg : mg ("law" : PySem.Str) = some (.ref fa) := by
      have z : (HandSHeadRun.topDef U0.R.prog 45).name = ("law" : PySem.Str) := by kernel_rfl
      rw [← z]
      exact hmg0
    obtain ⟨fd, hb, hF⟩ := U0.facts (w := w) KX G hmg c e ec
    exact ⟨K, fd, U0.spLaw K, KX, hb, fun H a ns hl _ hS => ⟨a, ns, rfl, hS, fun _ => rfl⟩, hF⟩
#print axioms PySem.Challenge.cw_unnotedtables_k00_errors_keep_their_valu_holds

