import PyProof.Rows.All
import Wide.All
import OpenK.AllK
import Wide.FinOn
import KE.KExcSuper
import KE.KExcIs
import HandS.ForMost
import HandS.Exc
import HandS.ExcInit
import HandS.IsInst
import HandS.HeadWalk
import HandS.Conv
import HandS.Defaults
import HandS.HeadHook4
import HandS.Head2
import HandS.HeadEnd
import HandS.StrMore
import HandS.Walk
import HandS.WrittenGet
import KE.IntTextLaws
import KE.KDictZip
import KE.KTurns
import HandS.ListItems
import HandS.Zip
import HandS.Comp
import HandS.Slots
import HandS.Star
import HandS.NoneIn
import HandS.Text
import HandS.WordsDict
import KE.KAssignIn
import HandS.Iter
import HandS.RaiseMore
import HandS.Property
import HandS.Lambda
import HandS.ExcOwn
import HandS.Wide
import KE.KNest
import PyProof.StrBlock2
import KE.KStateDown
import HandS.Head0
import HandS.Head1
import PySem.Challenge.RW_unnotedtables_k03_bounds_of_charts
set_option Elab.async false
set_option linter.all false
set_option maxRecDepth 100000
set_option maxHeartbeats 4000000
/-! The errors of the program: one class over ValueError whose __init__ calls super().__init__ and keeps its value; all others below it. -/
namespace U
open PySem PySem.W PySem.Calls PyProof.Rows PySem.HandSPX
/-! ### the text of __init__ -/
def iA (p1 p2 : Pos) : Arguments := { posonlyargs := [], args := [{ arg := "self", annotation := none, pos := p1 }, { arg := "value", annotation := none, pos := p2 }], vararg := none, kwonlyargs := [], kw_defaults := [], kwarg := none, defaults := [] }
def iB (q1 q2 q3 q4 q5 q6 q7 q8 q9 q10 : Pos) : List Stmt :=
  [.Expr (.Call (.Attribute (.Call (.Name "super" q1) [] [] q2) "__init__" q3) [.Name "value" q4] [] q5) q6, .Assign [.Attribute (.Name "self" q7) "value" q8] (.Name "value" q9) q10]
def iS : Scope := { kind := .function, names := [(PySem.Str.ofString "self", .local), (PySem.Str.ofString "value", .local), (PySem.Str.ofString "__class__", .free), (PySem.Str.ofString "super", .globalImplicit)], isGenerator := false, isCoroutine := false, more := [] }
/-- the base class at D, its __init__ at fI -/
structure InitTxt (prog : Program) (K : Frag) (D fI : Addr) : Prop where
  fn : ∃ (oc : Value) (od : Option Addr) (kV doc pm : Value) (an : Option Addr) (cda cc : Addr) (ct : Value) (osl : Array (Option Value)) (p1 p2 q1 q2 q3 q4 q5 q6 q7 q8 q9 q10 : Pos),
    K.lookup fI = some ⟨oc, od, .func (ksFn "__init__" "TableError.__init__" (iA p1 p2) (iB q1 q2 q3 q4 q5 q6 q7 q8 q9 q10) iS .none kV doc pm an (.ref cda) ct cc), osl⟩ ∧ (q3.endLine == q5.line) = true ∧ codeIn K (.ref cda) "TableError.__init__" = true ∧
    (∃ (ccl : Value) (cdd : Option Addr) (vs : Array Value) (ccs : Array (Option Value)) (file : Str) (tf : Tok), K.lookup cda = some ⟨ccl, cdd, .fields vs, ccs⟩ ∧ vs[2]? = some (.str file tf) ∧ ((prog.main.file : Str) == file) = true) ∧
    ∃ (cl : Value) (cld : Option Addr) (csl : Array (Option Value)), K.lookup cc = some ⟨cl, cld, .cell (some (.ref D)), csl⟩
  hD : (clsIn K D).isSome = true
  sup : nsIn K mainGlobals "super" = some none
  opq : nsIn K cStatics "thirdparty.any" = some none
  top : (prog.main.scope.names.lookup ("super" : Str)).isSome = false
/-- a class of errors at C -/
structure ErrC (K : Frag) (D fI C : Addr) : Prop where
  cls : ∃ nm q N bs bm sn sub ab col dd k0 k1 k2 k3 k5, K.lookup C = some (excClassObj nm q C N bs bm true sn sub ab col dd k0 k1 k2 k3 k5 "ValueError.__new__") ∧ refsVE bm = true
  sa : findIn K (.ref C) "__setattr__" = some (some (.builtin "object.__setattr__"))
  ga : findIn K (.ref C) "__getattribute__" = some (some (.builtin "BaseException.__getattribute__"))
  gg : findIn K (.ref C) "__getattr__" = some none
  noV : findIn K (.ref C) "value" = some none
  iC : findIn K (.ref C) "__init__" = some (some (.ref fI))
  tI : typeIn K (.ref fI) = some (.type "function")
  kC : keepIn K (.ref C) = true
  exC : subIn K (.ref C) (.type "BaseException") = some true
  tyC : typeIn K (.ref C) = some (.type "type")
  hdC : hasDictIn K C = true
  mr : mroIn K C (.ref D) = some true
  sI : ks_superIn K C D "__init__" = some (some (.builtin "ValueError.__init__"))
  ve : subIn K (.ref C) (.type "ValueError") = some true
  ca : findIn K (.ref C) "__class__" = some (some (.builtin "object.__class__"))
  cg : specialIn K (.builtin "object.__class__") "__get__" = some (some (.builtin "getset_descriptor.__get__"))
  ct : takesIn K (.builtin "object.__class__") = some true
  mo : mroIn K C (.type "object") = some true
theorem one_le_line (v : Value) : [v].length ≤ sizeLine := by
  rw [sizeLine_eq]
  exact (by decide : 1 ≤ 16777216)
section
variable {prog : Program} {w : World} {A : Around} {E : Value → Shared → Prop} {R : Result → Shared → Prop} {s : Shared} {K : Frag} {mg mb : Str → Option Value} {C D fI : Addr}
/-- the bound ValueError.__init__ called -/
theorem mw_call {h : Heap} {g : Array GenState} {d : Drawn} {t : Nat} {os : OsState} {u e t0 N : Addr} {nm q : Str} {bs bm : List Value} {hdct : Bool} {sn : List Str} {sub : List Value} {ab : Bool} {col : Option Bool} {dd : Option Addr} {k0 k1 k2 k3 k5 : Option Value} {rest : List Value} {Q : Value → Shared → Prop}
    (hC : h.get? C = some (excClassObj nm q C N bs bm hdct sn sub ab col dd k0 k1 k2 k3 k5 "ValueError.__new__")) (he : h.get? e = some (excO C t0)) (hu : h.get? u = some (kxs_mw "ValueError.__init__" e)) (hz : rest.length ≤ sizeLine)
    (hq : ∀ h' t1, (∀ b o, b ≠ e → h.get? b = some o → h'.get? b = some o) → h'.get? e = some (excO C t1) → Q .none ⟨h', g, d, t, os⟩) :
    wpAny (model prog w) A (call (.ref u) rest) Q E ⟨h, g, d, t, os⟩ := by
  refine wpAny_call (codeAny_of_tree ?_)
  show wpAny _ A.in1 (callAny (.ref u) ⟨rest, []⟩) _ _ _
  simp only [callAny]
  refine wpAny_bind (wpAny_load hu ?_)
  simp only [kxs_mw, show (Value.type "method-wrapper" == Value.type "method" || Value.type "method-wrapper" == Value.type "builtin_function_or_method" || Value.type "method-wrapper" == Value.type "method-wrapper") = true by decide, if_true]
  refine KFB.if_so (by decide) ?_
  refine wpAny_bind (check_bound_init F.excBase_ValueError.toExcCallFacts hC he rfl ?_)
  refine wpAny_bind (wpAny_pure (wpAny_pure ?_))
  refine ⟨plainId_quiet F.excBase_ValueError.init.plain _, codeAny_builtin F.excBase_ValueError.initEntry ?_⟩
  rw [Around.under_plainId F.excBase_ValueError.init.plain _]
  wp_walk
  refine hq _ h.objs.size (fun b o hb ho => ?_) ?_
  · rw [Heap.get?_update_other _ _ (Ne.symm hb)]
    exact Heap.get?_push_of_some _ ho
  · rw [Heap.get?_update_self _ (Heap.get?_push_of_some _ he) rfl]
    rfl
end
end U

set_option Elab.async false
set_option linter.all false
set_option maxRecDepth 100000
set_option maxHeartbeats 4000000
namespace U
open PySem PySem.W PySem.Calls PyProof.Rows PySem.HandSPX
theorem ldN {M : Model} {A : Around} {E : Value → Shared → Prop} {s : Shared} {env : Env} {m : Str → Option Value} {x : Str} {pos : Pos} {v : Value} {Q : Value → Shared → Prop} (hn : s.heap.Ns env.locals m) (hv : m x = some v) (h : Q v s)
    (hk : env.scope.kind = .function := by rfl) (hl : env.kindOf x = some .local := by rfl) (hd : (x == ("__debug__" : Str)) = false := by decide) : wpAny M A (eval (.Name x pos) env) Q E s := wpAny_Name (wpAny_loadName_local hk hl hn hv h) hd
section
variable {prog : Program} {w : World} {A : Around} {E : Value → Shared → Prop} {R : Result → Shared → Prop} {s : Shared} {K : Frag} {mg mb : Str → Option Value} {C D fI : Addr}
/-- what __init__ leaves of a fresh error at x -/
structure InitEnd (h h' : Heap) (x C dx : Addr) (v : Value) : Prop where
  keep : ∀ b o, b ≠ x → h.get? b = some o → h'.get? b = some o
  obj : ∃ t1 : Addr, h'.get? x = some { cls := .ref C, dict := some dx, data := .fields #[.ref t1, .none, .none, .none, .bool false, .none] }
  dbig : h.objs.size ≤ dx
  dne : dx ≠ x
  ns : h'.Ns1 dx (fun y => if y = "value" then some v else none)
theorem init_run (T : InitTxt prog K D fI) (TC : ErrC K D fI C) {x t0 : Addr} {v : Value} (X : K.In s.heap) (hg : s.heap.Ns mainGlobals mg) (hb : s.heap.Ns builtinsNs mb) (hbb : ∀ x : Str, x ≠ "__name__" → mb x = bootBuiltins x) (hlim : s.heap.NoLimit)
    (hx : s.heap.get? x = some (excO C t0)) (xn : K.lookup x = none) (hroom : A.depth < recursionLimit) (hq : ∀ h' tk dx, InitEnd s.heap h' x C dx v → R (.ok (.ret .none)) { s with heap := h', toks := tk }) :
    codeAny (model prog w) A (.call (.ref fI) ⟨[.ref x, v], []⟩) R s := by
  obtain ⟨oc, od, kV, doc, pm, an, cda, cc, ct, osl, p1, p2, q1, q2, q3, q4, q5, q6, q7, q8, q9, q10, ho, hline, hcd, ⟨ccl, cdd, vs, ccs, file, tf, hcode, hvs, hfile⟩, cl, cld, csl, hcell⟩ := T.fn
  obtain ⟨nm, q, N, bs, bm, sn, sub, ab, col, dd, k0, k1, k2, k3, k5, hC, hbm⟩ := TC.cls
  have hcl : clsIn K C = some { name := nm, bases := bs, mro := .ref C :: bm, ns := N, qualname := q, hasDict := true, slotNames := sn, subclasses := sub, abstract := ab, collection := col, hasDel := false } := by unfold clsIn; rw [hC] <;> rfl
  obtain ⟨cdD, hDc⟩ := Option.isSome_iff_exists.mp T.hD
  obtain ⟨oD, hD1, hD2⟩ : ∃ oD, K.lookup D = some oD ∧ oD.data = .cls cdD := by
    unfold clsIn at hDc
    split at hDc
    · rename_i c d cd' sl hh
      cases hDc
      exact ⟨_, hh, rfl⟩
    · cases hDc
  refine ks_codeAny_call_defAt (fd := ksFn "__init__" "TableError.__init__" (iA p1 p2) (iB q1 q2 q3 q4 q5 q6 q7 q8 q9 q10) iS .none kV doc pm an (.ref cda) ct cc) (body := iB q1 q2 q3 q4 q5 q6 q7 q8 q9 q10)
    (binds := [("self", .ref x), ("value", v)]) hroom (X _ _ ho) rfl hlim (codeRec_of X hcd) rfl (BindsTo.of_eq (by first | rfl | with_unfolding_all rfl)) (by show ∀ y ∈ iS.names, y.2 ≠ NameKind.cell; decide) (by intro y hy; rcases List.mem_cons.mp hy with rfl | hy; exact rfl; rcases List.mem_cons.mp hy with rfl | hy; exact rfl; cases hy) (fun h₀ hns hk => ?_) rfl rfl rfl
  obtain ⟨hp, gs, dr, tk, os⟩ := s
  have X₀ : K.In h₀ := X.keeps hk
  have hx0 : h₀.get? x = some (excO C t0) := hk _ _ hx
  have hxL : x ≠ hp.objs.size := Nat.ne_of_lt (Heap.lt_size hx)
  show PySem.wpAt (model prog w) (A.deeper (ksEnv "TableError.__init__" iS hp.objs.size fI (.ref cda) cc)) (.func (iB q1 q2 q3 q4 q5 q6 q7 q8 q9 q10) (ksEnv "TableError.__init__" iS hp.objs.size fI (.ref cda) cc))
    (execs [.Expr (.Call (.Attribute (.Call (.Name "super" q1) [] [] q2) "__init__" q3) [.Name "value" q4] [] q5) q6, .Assign [.Attribute (.Name "self" q7) "value" q8] (.Name "value" q9) q10] (ksEnv "TableError.__init__" iS hp.objs.size fI (.ref cda) cc)) _ _ ⟨h₀, gs, dr, tk + 2, os⟩
  have he : eval (.Call (.Attribute (.Call (.Name "super" q1) [] [] q2) "__init__" q3) [.Name "value" q4] [] q5) (ksEnv "TableError.__init__" iS hp.objs.size fI (.ref cda) cc) = (do
      let ov ← attributeBase (.Call (.Name "super" q1) [] [] q2) "__init__" (ksEnv "TableError.__init__" iS hp.objs.size fI (.ref cda) cc) (eval (.Call (.Name "super" q1) [] [] q2) (ksEnv "TableError.__init__" iS hp.objs.size fI (.ref cda) cc))
      standAt q3.atName
      let (f, first) ← holding [ov] (getMethod ov "__init__" (L2.plainOf (.Call (.Name "super" q1) [] [] q2) (ksEnv "TableError.__init__" iS hp.objs.size fI (.ref cda) cc)))
      callWith q5 f first (backTo q5 (starEach [.Name "value" q4] (ksEnv "TableError.__init__" iS hp.objs.size fI (.ref cda) cc))) []) := by
    refine congrArg (fun k : Value → Sem Value => attributeBase (.Call (.Name "super" q1) [] [] q2) "__init__" (ksEnv "TableError.__init__" iS hp.objs.size fI (.ref cda) cc) (eval (.Call (.Name "super" q1) [] [] q2) (ksEnv "TableError.__init__" iS hp.objs.size fI (.ref cda) cc)) >>= k) (funext fun ov => ?_)
    refine congrArg (fun k : Unit → Sem Value => standAt q3.atName >>= k) (funext fun _ => ?_)
    exact L2.mcall_line rfl hline
  refine ks_wpAt_execs_cons (ks_wpAt_Expr_any (ks_wpAt_MethodCall ?_ he) (by rfl) (by rfl))
  refine ks_wpAt_super_base (env := ksEnv "TableError.__init__" iS hp.objs.size fI (.ref cda) cc) rfl rfl (by decide) rfl (X₀ _ _ ho) rfl rfl rfl (X₀ _ _ hcode) rfl hvs hfile T.top ?_
  refine ks_loadName_global rfl rfl (loadGlobal_builtin (env := ksEnv "TableError.__init__" iS hp.objs.size fI (.ref cda) cc) (hg.keeps hk) (mg_none_of X hg T.sup) (hb.keeps hk) ((hbb _ (by decide +kernel)).trans (by first | rfl | kernel_rfl)) ⟨rfl, ?_⟩)
  refine wpAny_loadName_free rfl rfl rfl ⟨_, X₀ _ _ hcell, rfl⟩ ?_
  refine wpAny_loadName_local (v := .ref x) rfl rfl hns rfl ?_
  refine ks_wpAny_isType_cls (X₀ _ _ hD1) hD2 ⟨rfl, ?_⟩
  refine ks_wpAny_call_super (X₀ _ _ hD1) hD2 hx0 rfl (fun c e => nomatch e) (looks_mroIn X₀ TC.mr) (fun h1 e1 hk1 => ?_)
  have X1 : K.In h1 := X₀.keeps hk1
  have hx1 := hk1 _ _ hx0
  have I1 : InstAt h1 x (excO C t0) C none := ⟨hx1, rfl, rfl, trivial⟩
  have hI : Looks (model prog w) h1 (isInstance (.ref x) (.type "ValueError")) true := I1.type.andThen (looks_subIn X1 TC.ve)
  have sI : alongIn K "__init__" (((Value.ref C :: bm).dropWhile (· != .ref D)).drop 1) = some (some (.builtin "ValueError.__init__")) := by
    have z := TC.sI
    unfold ks_superIn at z
    rw [hcl] at z
    exact z
  refine kxs_getMethod kxs_ValueError e1 (looks_opaque X1 T.opq) (l₀ := .ref C :: bm) (fun A Q E s k z => wpAny_bind ((looks_clsIn X1 hcl) A _ E s k (wpAny_pure z))) rfl X1 sI hI (ks_ne X1 I1 hcl) (by decide) ?_
  have k2' : ∀ b o, h1.get? b = some o → (h1.push (kxs_mw "ValueError.__init__" x)).get? b = some o := fun b o e => Heap.get?_push_of_some _ e
  have u2 : (h1.push (kxs_mw "ValueError.__init__" x)).get? h1.objs.size = some (kxs_mw "ValueError.__init__" x) := Heap.get?_push_at rfl rfl
  have kk : ∀ b o, hp.get? b = some o → (h1.push (kxs_mw "ValueError.__init__" x)).get? b = some o := fun b o e => k2' b o (hk1 b o (hk b o e))
  have ns2 : (h1.push (kxs_mw "ValueError.__init__" x)).Ns hp.objs.size (fun y => ([(Str.ofString "self", Value.ref x), (Str.ofString "value", v)] : List (Str × Value)).reverse.lookup y) := (hns.keeps hk1).keeps k2'
  dsimp only
  refine kxs_callWith (i := "ValueError.__init__") (x := x) (by rfl) ?_
  refine evalArgs_plain ?_
  refine spliced_cons (ldN (env := ksEnv "TableError.__init__" iS hp.objs.size fI (.ref cda) cc) (v := v) ns2 (by rfl) (spliced_nil ⟨u2, ?_⟩))
  refine mw_call (X.keeps kk _ _ hC) (k2' _ _ hx1) u2 (one_le_line v) (fun h3 t1 hk3 hx3 => ?_)
  have k3 : ∀ b o, b ≠ x → hp.get? b = some o → h3.get? b = some o := fun b o hb e => hk3 b o hb (kk b o e)
  have X3 : K.In h3 := fun b o e => k3 b o (fun z => by rw [z, xn] at e; cases e) (X b o e)
  have ns3 : h3.Ns hp.objs.size (fun y => ([(Str.ofString "self", Value.ref x), (Str.ofString "value", v)] : List (Str × Value)).reverse.lookup y) := by
    obtain ⟨o, es, ep, ho', r⟩ := ns2
    exact ⟨o, es, ep, hk3 _ _ (Ne.symm hxL) ho', r⟩
  refine wpAt_of_wpAny ?_
  refine wpAny_execs_cons (plainObj_wpAny_Assign_Attribute (ldN (env := ksEnv "TableError.__init__" iS hp.objs.size fI (.ref cda) cc) (v := v) ns3 (by rfl) (ldN (env := ksEnv "TableError.__init__" iS hp.objs.size fI (.ref cda) cc) (v := .ref x) ns3 (by rfl) ?_)))
  refine set_plain X3 (ox := excO C t1) (od := none) ⟨hx3, rfl, rfl, trivial⟩ TC.sa ?_
  refine exc_osa X3 hx3 hcl (show refsVE (.ref C :: bm) = true from hbm) rfl TC.noV (fun h4 tk4 dx k4 dn dne hx4 hn4 => ?_)
  refine wpAny_execs_nil (hq h4 tk4 dx ⟨fun b o hb e => k4 b o hb (k3 b o hb e), ⟨t1, hx4⟩, ?_, dne, hn4⟩)
  have z0 : hp.objs.size < h3.objs.size := ns3.lt
  exact Nat.le_of_lt (Nat.lt_of_lt_of_le z0 dn)
/-- a made error at e, its own dict at d -/
structure Made (h h' : Heap) (e C d : Addr) (v : Value) : Prop where
  keep : ∀ b o, h.get? b = some o → h'.get? b = some o
  new : h.objs.size ≤ e
  obj : ∃ t1 : Addr, h'.get? e = some { cls := .ref C, dict := some d, data := .fields #[.ref t1, .none, .none, .none, .bool false, .none] }
  dbig : h.objs.size ≤ d
  dne : d ≠ e
  ns : h'.Ns1 d (fun y => if y = "value" then some v else none)
theorem made_run (T : InitTxt prog K D fI) (TC : ErrC K D fI C) {v : Value} (X : K.In s.heap) (hg : s.heap.Ns mainGlobals mg) (hb : s.heap.Ns builtinsNs mb) (hbb : ∀ x : Str, x ≠ "__name__" → mb x = bootBuiltins x) (hlim : s.heap.NoLimit)
    (hroom : A.depth + 1 < recursionLimit) (hq : ∀ h' tk e d, Made s.heap h' e C d v → R (.ok (.ret (.ref e))) { s with heap := h', toks := tk }) :
    codeAny (model prog w) A (.call (.ref C) ⟨[v], []⟩) R s := by
  obtain ⟨nm, q, N, bs, bm, sn, sub, ab, col, dd, k0, k1, k2, k3, k5, hC, hbm⟩ := TC.cls
  obtain ⟨hp, gs, dr, tk, os⟩ := s
  have k : ∀ b o, hp.get? b = some o → ((hp.push (kdv_tup [v])).push (excO C hp.objs.size)).get? b = some o := fun b o e => Heap.get?_push_of_some _ (Heap.get?_push_of_some _ e)
  have hget : ((hp.push (kdv_tup [v])).push (excO C hp.objs.size)).get? (hp.objs.size + 1) = some (excO C hp.objs.size) := by heap_get
  have hnx : K.lookup (hp.objs.size + 1) = none := by
    cases e : K.lookup (hp.objs.size + 1) with
    | none => rfl
    | some o =>
      have z : hp.get? (hp.objs.size + 1) = some o := X _ _ e
      exact absurd (Nat.lt_of_succ_lt (Heap.lt_size z)) (Nat.lt_irrefl _)
  refine call_own F.excBase_ValueError (fun X => refsVE_contains X bm hbm) (X _ _ hC) (looks_findIn X TC.iC) (fun self => bind_fn X self TC.tI) (one_le_line v) ?_
  refine init_run (s := ⟨(hp.push (kdv_tup [v])).push (excO C hp.objs.size), gs, dr, tk, os⟩) T TC (X.keeps k) (hg.keeps k) (hb.keeps k) hbb (hlim.keeps k) hget hnx ?_ fun h' tk' dx ⟨k', hx, dn, dne, hns⟩ => ?_
  · show A.depth + 1 < recursionLimit
    exact hroom
  · have old : ∀ b o, hp.get? b = some o → h'.get? b = some o := fun b o e => k' b o (Nat.ne_of_lt (Nat.lt_succ_of_lt (Heap.lt_size e))) (k b o e)
    have z : hp.objs.size + 1 + 1 ≤ dx := by
      first
        | (simpa only [Heap.size_push] using dn)
        | exact dn
    exact ⟨rfl, hq h' tk' (hp.objs.size + 1) dx ⟨old, Nat.le_succ _, hx, Nat.le_trans (Nat.le_trans (Nat.le_succ _) (Nat.le_succ _)) z, dne, hns⟩⟩
end
end U

set_option Elab.async false
set_option linter.all false
set_option maxRecDepth 100000
set_option maxHeartbeats 4000000
namespace U
open PySem PySem.Spec PyProof.Rows L2
open PySem.W (Frag)
/-- what is known of the errors' classes -/
structure ErrT (prog : Program) (K : Frag) (D fI : Addr) : Prop where
  init : InitTxt prog K D fI
/-- C(e): a new error -/
def tErr (C : Addr) (te : TE) : TE := fun σ H Q => te σ H fun v H1 => ∀ a d, H1 a = none → H1 d = none → d ≠ a → Q (.ref a) (upd (upd H1 d (exd d [("value", v)])) a (exo a C (some d)))
section
variable {X : Cx} {C D fI : Addr} {k : Nat}
theorem relO_value {v : V} {u : Value} (r : RelV v u) (f : Str) : RelO (List.lookup f [(("value" : Str), v)]) (if f = "value" then some u else none) := by
  rw [lookup_put]
  by_cases h : f = "value"
  · rw [if_pos h, if_pos h]
    exact r
  · rw [if_neg h, if_neg h]
    exact True.intro
/-- two new objects at once -/
theorem inv_two {pins : List (Addr × Obj)} {σ : L2.St} {H : Hp} {s : Shared} {h' : Heap} {a d : Addr} {t' : Nat} {v : V} (I : Inv X pins σ H s) (k : ∀ b u, s.heap.get? b = some u → h'.get? b = some u) (ha : s.heap.objs.size ≤ a) (hd : s.heap.objs.size ≤ d) (hne : d ≠ a)
    (oa : ∃ t1 : Addr, h'.get? a = some ({ cls := .ref C, dict := some d, data := .fields #[.ref t1, .none, .none, .none, .bool false, .none] } : Obj)) (od : ∃ mA, h'.Ns1 d mA ∧ ∀ f, RelO (([("value", v)] : List (Str × V)).lookup f) (mA f)) :
    Inv X pins σ (upd (upd H d (exd d [("value", v)])) a (exo a C (some d))) { s with heap := h', toks := t' } := by
  have na : H a = none := I.hok.fresh ha
  have nd : H d = none := I.hok.fresh hd
  have la : ∀ {b : Addr} {o : Obj}, s.heap.get? b = some o → b ≠ a := fun {b o} q => Nat.ne_of_lt (Nat.lt_of_lt_of_le (Heap.lt_size q) ha)
  have ld : ∀ {b : Addr} {o : Obj}, s.heap.get? b = some o → b ≠ d := fun {b o} q => Nat.ne_of_lt (Nat.lt_of_lt_of_le (Heap.lt_size q) hd)
  have mv : ∀ {b : Addr} {o : HO}, H b = some o → upd (upd H d (exd d [("value", v)])) a (exo a C (some d)) b = some o := fun {b o} q => by
    rw [upd_ne (ne_of_none q na), upd_ne (ne_of_none q nd)]
    exact q
  refine I.un (H' := upd (upd H d (exd d [("value", v)])) a (exo a C (some d))) ⟨fun b o q n _ _ => k b o q, fun b o q n _ _ => ⟨o.slots, k b o q⟩, fun b o q n _ => ?_, fun b o q _ => ⟨o, k b o q⟩, fun b xs q => mv q, fun b o u q => mv q, fun b ps q => ⟨#[], by rw [mv q]; simp⟩⟩ fun b o q => ?_
  · rw [upd_ne (la q), upd_ne (ld q)]
    exact n
  · by_cases hb : b = a
    · subst hb
      rw [upd_same] at q
      cases q
      obtain ⟨t1, e⟩ := oa
      exact exo_ok e
    · rw [upd_ne hb] at q
      by_cases hb2 : b = d
      · subst hb2
        rw [upd_same] at q
        cases q
        obtain ⟨mA, h1, h2⟩ := od
        exact exd_ok h1 h2
      · rw [upd_ne hb2] at q
        exact (I.hok b o q).stay (fun c u _ z => k c u z) (fun c z => mv z) fun c xs z => mv z
theorem pe_err {x : Str} {e : Expr} {te : TE} {p pos : Pos} (T : InitTxt X.prog X.K D fI) (TC : ErrC X.K D fI C) (hr : Room k X.A) (hg : Gl X x) (hm : X.mg x = some (.ref C)) (he : PE X e te)
    (hs : starEach [e] X.env = (false, eval e X.env) :: starEach [] X.env := by rfl) (hdb : (x == ("__debug__" : Str)) = false := by decide) : PE X (.Call (.Name x p) [e] [] pos) (tErr C te) := by
  refine ⟨fun pins s σ H Q I h => ?_⟩
  refine wpAny_Call_Name_kw (ld_glob I hg hm ?_ hdb)
  refine PySem.W.callWith_K (h₀ := X.base) I.ok.mod.kin TC.kC ?_ hs (by rfl)
  rw [hs]
  show wpAny _ _ (spliced ((false, eval e X.env) :: backTo pos (starEach [] X.env))) _ _ s
  refine Calls.spliced_cons (thn (he.run pins s σ H _ I h) fun u s1 ⟨v, H1, I1, r1, q1⟩ => ?_)
  refine Calls.spliced_nil ⟨I1.kIn, ?_⟩
  show wpAny _ _ (call (.ref C) [u]) _ _ _
  obtain ⟨mb, hb1, hb2⟩ := I1.mod.blt
  have hdp := hr.dp
  refine wpAny_call (made_run T TC I1.kIn (I1.mod.glob.keeps I1.bk) (hb1.keeps I1.bk) hb2 I1.nolimit (by omega) fun h' tk a d M => ?_)
  exact ⟨.ref a, _, inv_two (v := v) I1 M.keep M.new M.dbig M.dne M.obj ⟨_, M.ns, fun f => relO_value r1 f⟩, rfl, q1 a d (I1.hok.fresh M.new) (I1.hok.fresh M.dbig) M.dne⟩
/-- e.value of an error that stands in H -/
def tErrV (K : Frag) (D fI : Addr) (te : TE) : TE := fun σ H Q => te σ H fun x H1 => ∃ (a C d : Addr) (v : V), x = .ref a ∧ ErrC K D fI C ∧ H1 a = some (exo a C (some d)) ∧ H1 d = some (exd d [("value", v)]) ∧ Q v H1
theorem pe_errV {e : Expr} {te : TE} {pos : Pos} (he : PE X e te) (hb : attributeBase e "value" X.env (eval e X.env) = eval e X.env := by rfl) : PE X (.Attribute e "value" pos) (tErrV X.K D fI te) := by
  refine ⟨fun pins s σ H Q I h => ?_⟩
  refine attr_of hb (thn (he.run pins s σ H _ I h) fun u s1 hh => ?_)
  obtain ⟨x, H1, I1, rx, a, C, d, v, ex, TC, ea, ed, q⟩ := hh
  subst ex
  obtain rfl : u = Value.ref a := rx
  obtain ⟨t1, ho⟩ := exo_at I1.hok ea
  obtain ⟨mA, hns, hr⟩ := exd_at I1.hok ed
  obtain ⟨od, hod, hl⟩ := lookIn_ns hns
  have l : ([(("value" : Str), v)] : List (Str × V)).lookup ("value" : Str) = some v := by rw [lookup_put, if_pos rfl]
  obtain ⟨u, hu, ru⟩ := RelO.some_of (v := v) (o := mA "value") (by rw [← l]; exact hr "value")
  exact HandSPX.exc_get I1.kIn (ox := { cls := .ref C, dict := some d, data := .fields #[.ref t1, .none, .none, .none, .bool false, .none] }) (od := some od) ⟨ho, rfl, rfl, hod⟩ TC.ga TC.gg TC.exC (PySem.W.findObj_own TC.hdC TC.noV rfl (by rw [hl, hu])) (handed_of ru) ⟨v, H1, I1.tok _, ru, q⟩
/-- isinstance(e, c), e an error that stands in H -/
def rIsErr (K : Frag) (D fI : Addr) : List V → Hp → VK → Prop := fun xs H Q => ∃ (a C d : Addr) (c : V) (u : Value) (b : Bool), xs = [.ref a, c] ∧ ErrC K D fI C ∧ H a = some (exo a C (some d)) ∧ (∃ fs, H d = some (exd d fs)) ∧ ClsV c u ∧ PySem.W.kitOne K (.ref C) u = some b ∧ Q (.bl b) H
theorem call_isErr : CallR X (.builtin "isinstance") (rIsErr X.K D fI) := by
  intro pins s σ H xs us Q I r h
  obtain ⟨a, C, d, c, u, b, rfl, TC, ea, ⟨fs, ed⟩, kc, e, q⟩ := h
  obtain ⟨u1, u2, rfl, r1, r2⟩ := vals2 r
  have e2 := kc.eq r2
  subst e2
  obtain rfl : u1 = Value.ref a := r1
  obtain ⟨t1, ho⟩ := exo_at I.hok ea
  obtain ⟨mA, hns, hr⟩ := exd_at I.hok ed
  obtain ⟨od, hod, hl⟩ := lookIn_ns hns
  have hcl : (PySem.W.clsIn X.K C).isSome = true := by
    obtain ⟨nm, q, N, bs, bm, sn, sub, ab, col, dd, k0, k1, k2, k3, k5, hC, hbm⟩ := TC.cls
    unfold PySem.W.clsIn
    rw [hC] <;> rfl
  exact PySem.W.kia_one (PySem.W.kitx_exc (ox := { cls := .ref C, dict := some d, data := .fields #[.ref t1, .none, .none, .none, .bool false, .none] }) (od := some od) hcl TC.ga TC.gg TC.exC TC.ca TC.cg TC.ct TC.mo) I.kIn ⟨ho, rfl, rfl, hod⟩ e (fun z => nomatch z)
    fun tk => ⟨.bl b, H, I.tok tk, rfl, q⟩
end
end U

set_option Elab.async false
set_option linter.all false
set_option maxRecDepth 100000
set_option maxHeartbeats 4000000
namespace U
open PySem PySem.Spec PyProof.Rows L2
open PySem.W (Frag)
def kD : Key → PyData
  | .inl i => .int i
  | .inr x => .str x
mutual
/-- a value that is data, laid out in H: dicts too -/
inductive Dq (F : Addr → Prop) (H : Hp) : V → PyData → Prop
  | non : Dq F H .non .none
  | bl (b : Bool) : Dq F H (.bl b) (.bool b)
  | int (i : Int) : Dq F H (.int i) (.int i)
  | str (x : Str) : Dq F H (.str x) (.str x)
  | lst {a : Addr} {xs : List V} {ds : List PyData} : F a → H a = some (.lst xs) → DqAll F H xs ds → Dq F H (.ref a) (.list ds)
  | tup {a : Addr} {xs : List V} {ds : List PyData} : F a → H a = some (.tup xs) → DqAll F H xs ds → Dq F H (.ref a) (.tuple ds)
  | dk {a : Addr} {kvs : List (Key × V)} {ds : List PyData} : F a → H a = some (.dK kvs) → DqAll F H (kvs.map (·.2)) ds → Dq F H (.ref a) (.dict ((kvs.map fun kv => kD kv.1).zip ds))
inductive DqAll (F : Addr → Prop) (H : Hp) : List V → List PyData → Prop
  | nil : DqAll F H [] []
  | cons {v : V} {vs : List V} {d : PyData} {ds : List PyData} : Dq F H v d → DqAll F H vs ds → DqAll F H (v :: vs) (d :: ds)
end
theorem DqAll.len {F : Addr → Prop} {H : Hp} : ∀ {vs : List V} {ds : List PyData}, DqAll F H vs ds → vs.length = ds.length
  | _, _, .nil => rfl
  | _, _, .cons _ t => by rw [List.length_cons, List.length_cons, DqAll.len t]
mutual
theorem Dq.move {F G : Addr → Prop} {H H' : Hp} (g : ∀ b, F b → G b) (k : ∀ b o, F b → H b = some o → H' b = some o) : ∀ {v : V} {d : PyData}, Dq F H v d → Dq G H' v d
  | _, _, .non => .non
  | _, _, .bl b => .bl b
  | _, _, .int i => .int i
  | _, _, .str x => .str x
  | _, _, .lst f e h => .lst (g _ f) (k _ _ f e) (DqAll.move g k h)
  | _, _, .tup f e h => .tup (g _ f) (k _ _ f e) (DqAll.move g k h)
  | _, _, .dk f e h => .dk (g _ f) (k _ _ f e) (DqAll.move g k h)
theorem DqAll.move {F G : Addr → Prop} {H H' : Hp} (g : ∀ b, F b → G b) (k : ∀ b o, F b → H b = some o → H' b = some o) : ∀ {vs : List V} {ds : List PyData}, DqAll F H vs ds → DqAll G H' vs ds
  | _, _, .nil => .nil
  | _, _, .cons h t => .cons (Dq.move g k h) (DqAll.move g k t)
end
theorem DqAll.get {F : Addr → Prop} {H : Hp} : ∀ {vs : List V} {ds : List PyData} {i : Nat} {v : V}, DqAll F H vs ds → vs[i]? = some v → ∃ d, ds[i]? = some d ∧ Dq F H v d
  | _, _, _, _, .nil, e => by simp at e
  | _, _, 0, _, .cons h _, e => by
    simp at e
    subst e
    exact ⟨_, rfl, h⟩
  | _, _, i + 1, v, .cons _ t, e => by
    obtain ⟨d, h1, h2⟩ := DqAll.get (i := i) (v := v) t (by simpa using e)
    exact ⟨d, by simpa using h1, h2⟩
theorem DqAll.app {F : Addr → Prop} {H : Hp} : ∀ {vs ws : List V} {ds es : List PyData}, DqAll F H vs ds → DqAll F H ws es → DqAll F H (vs ++ ws) (ds ++ es)
  | _, _, _, _, .nil, h => h
  | _, _, _, _, .cons h t, g => .cons h (DqAll.app t g)
theorem kv_two {κ : Type} : ∀ {kvs : List (κ × V)} {vs : List (κ × Value)}, KV kvs vs → Vals (kvs.map (·.2)) (vs.map (·.2)) ∧ kvs.map (·.1) = vs.map (·.1)
  | _, _, .nil => ⟨.nil, rfl⟩
  | _, _, .cons h t => by
    obtain ⟨h1, h2⟩ := kv_two t
    refine ⟨.cons h.2 h1, ?_⟩
    rw [List.map_cons, List.map_cons, h2, h.1]
theorem pairs_read {P : Program} {w : World} {h : Heap} : ∀ {es : List DictEntry} {vs : List (Key × Value)}, PySem.Pairs (mixKind P w) es vs → ReadsAll h (es.map (·.key)) (vs.map fun kv => kD kv.1) [] ∧ es.map (·.val) = vs.map (·.2)
  | _, _, .nil => ⟨.nil, rfl⟩
  | _, _, .cons hk hv t => by
    obtain ⟨h1, h2⟩ := pairs_read (P := P) (w := w) (h := h) t
    refine ⟨?_, by rw [List.map_cons, List.map_cons, h2, hv]⟩
    rename_i e kv es kvs
    obtain ⟨k, vv⟩ := kv
    rcases keyIs_shape hk with ⟨i, t', e1, e2⟩ | ⟨x, t', e1, e2⟩
    · have e1' : k = Sum.inl i := e1
      subst e1'
      show ReadsAll h (e.key :: es.map (·.key)) (PyData.int i :: kvs.map fun kv => kD kv.1) []
      rw [e2]
      exact .cons (as := []) (bs := []) (.int i t') h1
    · have e1' : k = Sum.inr x := e1
      subst e1'
      show ReadsAll h (e.key :: es.map (·.key)) (PyData.str x :: kvs.map fun kv => kD kv.1) []
      rw [e2]
      exact .cons (as := []) (bs := []) (.str x t') h1
section
variable {F : Addr → Prop} {X : Cx} {pins : List (Addr × Obj)} {σ : L2.St} {H : Hp} {s : Shared}
theorem not_mods (I : Inv X pins σ H s) (hm : ∃ o, X.K.lookup sysModules = some o) {a : Addr} {o : HO} (e : H a = some o) : a ≠ sysModules := fun z => by
  obtain ⟨ob, hm⟩ := hm
  have q := (I.bs _ _ (I.ok.mod.kin _ _ hm)).2
  rw [z, q] at e
  cases e
mutual
theorem Dq.reads (I : Inv X pins σ H s) (hm : ∃ o, X.K.lookup sysModules = some o) : ∀ {v : V} {d : PyData}, Dq F H v d → ∀ u : Value, RelV v u → ∃ as, Reads s.heap u d as ∧ sysModules ∉ as
  | _, _, .non, u, r => by cases r; exact ⟨_, .none, by simp⟩
  | _, _, .bl b, u, r => by cases r; exact ⟨_, .bool b, by simp⟩
  | _, _, .int i, u, r => by obtain ⟨t, rfl⟩ := r; exact ⟨_, .int i t, by simp⟩
  | _, _, .str x, u, r => by obtain ⟨t, rfl⟩ := r; exact ⟨_, .str x t, by simp⟩
  | _, _, .lst (a := a) (xs := xs) _ e h, u, r => by
    cases r
    obtain ⟨_, its, n, rv, ho⟩ := (show ObjOk X.prog X.w H s.heap a (.lst xs) from I.hok a _ e)
    obtain ⟨as, q, nm⟩ := DqAll.reads I hm h its rv
    refine ⟨_, .list ho rfl rfl q, fun z => ?_⟩
    rcases List.mem_cons.mp z with z | z
    · exact not_mods I hm e z.symm
    · exact nm z
  | _, _, .tup (a := a) (xs := xs) _ e h, u, r => by
    cases r
    obtain ⟨_, its, rv, o, ho, hc, n, hd⟩ := (show ObjOk X.prog X.w H s.heap a (.tup xs) from I.hok a _ e)
    obtain ⟨as, q, nm⟩ := DqAll.reads I hm h its rv
    exact ⟨_, .tuple ho hc hd q, nm⟩
  | _, _, .dk (a := a) (kvs := kvs) (ds := ds) _ e h, u, r => by
    cases r
    obtain ⟨_, _, vs, kv, o, es, ep, ho, hx, hd, _, hp, _⟩ := (show ObjOk X.prog X.w H s.heap a (.dK kvs) from I.hok a _ e)
    obtain ⟨k1, k2⟩ := kv_two kv
    obtain ⟨p1, p2⟩ := pairs_read (h := s.heap) hp
    obtain ⟨as, q, nm⟩ := DqAll.reads I hm h (vs.map (·.2)) k1
    have hl := h.len
    have e1 : (((kvs.map fun kv => kD kv.1).zip ds).map (·.1)) = vs.map fun kv => kD kv.1 := by
      rw [List.map_fst_zip (by rw [List.length_map, ← hl, List.length_map]; exact Nat.le_refl _)]
      have : (kvs.map (·.1)).map kD = (vs.map (·.1)).map kD := by rw [k2]
      rw [List.map_map, List.map_map] at this
      exact this
    have e2 : (((kvs.map fun kv => kD kv.1).zip ds).map (·.2)) = ds := List.map_snd_zip (by rw [List.length_map, ← hl, List.length_map]; exact Nat.le_refl _)
    refine ⟨_, .dict ho hx.1 hd (as := []) (bs := as) (by rw [e1]; exact p1) (by rw [e2, p2]; exact q), fun z => ?_⟩
    rcases List.mem_append.mp z with z | z
    · rcases List.mem_cons.mp z with z | z
      · exact not_mods I hm e z.symm
      · cases z
    · exact nm z
theorem DqAll.reads (I : Inv X pins σ H s) (hm : ∃ o, X.K.lookup sysModules = some o) : ∀ {vs : List V} {ds : List PyData}, DqAll F H vs ds → ∀ us : List Value, Vals vs us → ∃ as, ReadsAll s.heap us ds as ∧ sysModules ∉ as
  | _, _, .nil, us, r => by cases r; exact ⟨_, .nil, by simp⟩
  | _, _, .cons h t, us, r => by
    cases r with
    | cons r1 r2 =>
      obtain ⟨as, q1, n1⟩ := Dq.reads I hm h _ r1
      obtain ⟨bs, q2, n2⟩ := DqAll.reads I hm t _ r2
      exact ⟨_, .cons q1 q2, fun z => (List.mem_append.mp z).elim n1 n2⟩
end
end
/-- repr(x) of data -/
def rRepr : List V → Hp → VK → Prop := fun xs H Q => ∃ (F : Addr → Prop) (x : V) (d : PyData), xs = [x] ∧ Dq F H x d ∧ d.showable = true ∧ d.depth ≤ 50 ∧ d.shown.length ≤ sizeLine ∧ Q (.str d.shown) H
theorem call_reprD {X : Cx} (hm : ∃ o, X.K.lookup sysModules = some o) (hg : X.A.guards = some []) (hu : X.A.units + 64 < cLine) : CallR X (.builtin "repr") rRepr := by
  intro pins s σ H xs us Q I r h
  obtain ⟨F, x, d, rfl, hd, hs, hdep, hl, q⟩ := h
  cases r with
  | @cons _ u _ _ rx rn =>
    cases rn
    obtain ⟨as, rd, nm⟩ := hd.reads I hm u rx
    have fin : ∀ (h' : Heap) (t : Tok) (tk : Nat), (∀ b o, s.heap.get? b = some o → h'.get? b = some o) → EP X pins σ Q (.str d.shown t) { s with heap := h', toks := tk } := fun h' t tk k => ⟨.str d.shown, H, I.kept (t' := tk) k, ⟨t, rfl⟩, q⟩
    cases rd with
    | none =>
      refine PySem.P.repr_of_none ?_
      have z := fin s.heap s.toks (s.toks + 1) fun _ _ e => e
      simpa [PyData.shown] using z
    | bool b =>
      refine PySem.P.repr_of_bool ?_
      have z := fin s.heap s.toks (s.toks + 1) fun _ _ e => e
      cases b <;> simpa [PyData.shown] using z
    | int i t =>
      refine PySem.P.repr_of_int (by simpa [PyData.showable] using hs) ?_
      have z := fin s.heap s.toks (s.toks + 1) fun _ _ e => e
      simpa [PyData.shown] using z
    | str y t =>
      refine PySem.P.repr_of_str ?_ (by simpa [PyData.shown] using hl)
      have z := fin s.heap s.toks (s.toks + 1) fun _ _ e => e
      simpa [PyData.shown] using z
    | list h1 h2 h3 h4 => exact repr_of_reads' (.list h1 h2 h3 h4) hs (fun _ => nm) hg (by omega) (fun _ _ e => e) (fun h' t tk k => fin h' t tk k) hl
    | tuple h1 h2 h3 h4 => exact repr_of_reads' (.tuple h1 h2 h3 h4) hs (fun _ => nm) hg (by omega) (fun _ _ e => e) (fun h' t tk k => fin h' t tk k) hl
    | dict h1 h2 h3 h4 h5 => exact repr_of_reads' (.dict h1 h2 h3 h4 h5) hs (fun _ => nm) hg (by omega) (fun _ _ e => e) (fun h' t tk k => fin h' t tk k) hl
end U

set_option Elab.async false
set_option linter.all false
set_option maxRecDepth 100000
set_option maxHeartbeats 4000000
namespace U
open PySem PySem.Spec PyProof.Rows L2
open PySem.W (Frag)
/-! ### weaker readings -/
section
variable {X : Cx}
theorem pe_mono {e : Expr} {t t' : TE} (h : PE X e t) (k : ∀ σ H Q, t' σ H Q → t σ H Q) : PE X e t' := ⟨fun pins s σ H Q I q => h.run pins s σ H Q I (k σ H Q q)⟩
theorem pa_mono {es : List Expr} {t t' : TA} (h : PA X es t) (k : ∀ σ H Q, t' σ H Q → t σ H Q) : PA X es t' := ⟨fun pos pins s σ H Q I q => h.run pos pins s σ H Q I (k σ H Q q)⟩
end
theorem same_new {H : Hp} {p : Addr} {o : HO} (n : H p = none) : Same H (upd H p o) := fun b u e => by
  rw [upd_ne (ne_of_none e n)]
  exact e
/-! ### expressions that give new data -/
def tData (d : PyData) : TE := fun _ H Q => ∀ v H', Same H H' → Dq (fun a => H a = none) H' v d → Q v H'
def tDatas (ds : List PyData) : TA := fun _ H Q => ∀ vs H', Same H H' → DqAll (fun a => H a = none) H' vs ds → Q vs H'
section
variable {X : Cx}
theorem pd_non {j pos} : PE X (.Constant .none j pos) (tData .none) := pe_mono pe_non fun σ H Q h => h .non H (Same.refl H) .non
theorem pd_bl {b j pos} : PE X (.Constant (.bool b) j pos) (tData (.bool b)) := pe_mono pe_bl fun σ H Q h => h (.bl b) H (Same.refl H) (.bl b)
theorem pd_int {i j pos} : PE X (.Constant (.int i) j pos) (tData (.int i)) := pe_mono pe_int fun σ H Q h => h (.int i) H (Same.refl H) (.int i)
theorem pd_str {x j pos} : PE X (.Constant (.str x) j pos) (tData (.str x)) := pe_mono pe_str fun σ H Q h => h (.str x) H (Same.refl H) (.str x)
theorem pd_neg {i : Int} {j p pos} : PE X (.UnaryOp .USub (.Constant (.int i) j p) pos) (tData (.int (-i))) := pe_mono (pe_un un_neg pe_int) fun σ H Q h => ⟨i, rfl, h (.int (-i)) H (Same.refl H) (.int (-i))⟩
theorem pds_nil : PA X [] (tDatas []) := pa_mono pa_nil fun σ H Q h => h [] H (Same.refl H) .nil
theorem pds_cons {e : Expr} {es : List Expr} {d : PyData} {ds : List PyData} (h : PE X e (tData d)) (hs : PA X es (tDatas ds)) (he : starEach (e :: es) X.env = (false, eval e X.env) :: starEach es X.env := by rfl) : PA X (e :: es) (tDatas (d :: ds)) :=
  pa_mono (pa_cons h hs he) fun σ H Q h => fun v H1 s1 q1 vs H2 s2 q2 => h (v :: vs) H2 (s1.trans s2) (.cons (q1.move (fun _ f => f) fun b o _ e => s2 b o e) (q2.move (fun b f => s1.free f) fun b o _ e => e))
theorem pd_lst {es : List Expr} {ds : List PyData} {pos : Pos} (hs : PA X es (tDatas ds)) (hl : ds.length ≤ 1000 := by decide) : PE X (.List es pos) (tData (.list ds)) :=
  pe_mono (pe_lst hs) fun σ H Q h => fun vs H1 s1 q1 => ⟨by rw [q1.len, sizeLine_eq]; omega, fun p np => h (.ref p) _ (s1.trans (same_new np)) (.lst (s1.free np) upd_same (q1.move (fun _ f => f) fun b o _ e => same_new np b o e))⟩
theorem pd_tup {es : List Expr} {ds : List PyData} {pos : Pos} {x1} (hs : PA X es (tDatas ds)) (hl : ds.length ≤ 1000 := by decide) : PE X (.Tuple es x1 pos) (tData (.tuple ds)) :=
  pe_mono (pe_tup hs) fun σ H Q h => fun vs H1 s1 q1 => ⟨by rw [q1.len, sizeLine_eq]; omega, fun p np => h (.ref p) _ (s1.trans (same_new np)) (.tup (s1.free np) upd_same (q1.move (fun _ f => f) fun b o _ e => same_new np b o e))⟩
theorem pd_dict0 {pos : Pos} : PE X (.Dict [] [] pos) (tData (.dict [])) :=
  pe_mono pe_dnewK fun σ H Q h => fun p np => h (.ref p) _ (same_new np) (.dk (kvs := []) (ds := []) np upd_same .nil)
theorem pd_dict1 {k : Str} {p pos : Pos} {jj} {e : Expr} {d : PyData} (he : PE X e (tData d)) : PE X (.Dict [some (.Constant (.str k) jj p)] [e] pos) (tData (.dict [(.str k, d)])) := by
  refine pe_mono (pe_disp (pps_cons pe_str he pps_nil) rfl rfl (fun z => by cases z) (show 1 ≤ 15 by decide)) fun σ H Q h => fun p np v H1 s1 q1 => ⟨s1 _ _ upd_same, [(Sum.inr k, v)], rfl, (show 1 ≤ 15 by decide), ?_⟩
  have hp : H1 p = some (.dK []) := s1 _ _ upd_same
  have mv : ∀ b o, b ≠ p → H1 b = some o → upd H1 p (.dK (mergeK [] [(Sum.inr k, v)])) b = some o := fun b o hb z => by
    rw [upd_ne hb]
    exact z
  refine h (.ref p) _ (fun b o z => mv b o (ne_of_none z np) (s1 b o (by rw [upd_ne (ne_of_none z np)]; exact z))) (.dk (kvs := [(Sum.inr k, v)]) (ds := [d]) np upd_same (.cons (q1.move (fun b f => ?_) fun b o f z => mv b o (fun y => ?_) z) .nil))
  · by_cases hb : b = p
    · rw [hb, upd_same] at f
      cases f
    · rw [upd_ne hb] at f
      exact f
  · have f' : upd H p (.dK []) b = none := f
    rw [y, upd_same] at f'
    cases f'
end
/-! ### a def called while no repr is under way -/
structure FnG (P : Program) (w : World) (K : Frag) (mg : Str → Option Value) (base : Heap) (k : Nat) (f : Addr) (fd : FuncData) (ps : List Str) (sp : Sp) : Prop where
  len : ∀ vs H Q E, sp vs H Q E → vs.length = ps.length
  run : ∀ (A : Around) (outer : List Env) (s : Shared) (H : Hp) (args : Args) (us : List Value) (vs : List V) (Q : VK) (E : XK), A.guards = some [] → Room k A → Env0 P w K mg base A outer s H → BindsTo s fd args (ps.zip us) → Vals vs us → sp vs H Q E →
    codeAny (model P w) A (.call (.ref f) args) (CR CX0 outer P w H s Q E) s
section
variable {P : Program} {w : World} {K : Frag} {mg : Str → Option Value} {base : Heap} {x qual : Str} {params : Arguments} {body : List Stmt} {scope : Scope} {dvs : List V} {kws : List (Str × V)} {f : Addr} {fd : FuncData}
theorem okG {N ps : List Str} {k : Nat} {sp : Sp} (F : FunD K x qual params body scope dvs kws f fd) (S : FnScope N ps scope) (len : ∀ vs H Q E, sp vs H Q E → vs.length = ps.length)
    (hbody : ∀ (cdv : Value) (A : Around) (outer : List Env) (s : Shared) (H : Hp) (vs : List V) (Q : VK) (E : XK), A.guards = some [] → Room k (A.deeper (envOfC qual scope s.heap.objs.size f cdv)) → sp vs H Q E →
      ∃ t, PSs (cxOf CX0 P w K mg base N qual scope f cdv A outer s H E) body t ∧ t { nx := fun _ H' => Q .non H', rt := Q } (start N vs) H) : FnG P w K mg base (k + 1) f fd ps sp := by
  refine ⟨len, fun A outer s H args us vs Q E hg hr e0 hb r hsp => ?_⟩
  obtain ⟨oc, od, dV, kV, doc, pm, an, cdv, ct, osl, rfl, lk, hcd, _, _⟩ := F.ex
  -- over this one A the promise is a plain one: its caller's guards are told by the promise itself
  have hl := len _ _ _ _ hsp
  have kb : ∀ b o, base.get? b = some o → s.heap.get? b = some o := fun b o e => (e0.bs b o e).1
  have KX : K.In s.heap := e0.mod.kin.keeps kb
  have lim : s.heap.NoLimit := e0.mod.nolimit.keeps kb
  have hkd : ∀ y ∈ ps.zip us, scope.names.lookup y.1 = some .local ∨ (scope.names.lookup y.1 = some .cell ∧ ((cellsFrom (s.heap.objs.size + 1) scope.names []).lookup y.1).isSome = true) := by
    rintro ⟨n, v⟩ hy
    exact (S.par n (List.of_mem_zip hy).1).imp (fun q => q) fun q => ⟨q, PySem.W.cellsFrom_some _ _ _ (.inl q)⟩
  refine codeAny_call_function hr.depth (KX _ _ lk) rfl S.co S.gen rfl (PySem.W.codeRec_of KX hcd) (hb _ _ _ _ (wpAny_newFunctionEnv_cells S.kind hkd fun env he s1 x => ?_))
  subst he
  refine ⟨lim.keeps x.toInCall.keep, codeAny_func ?_⟩
  obtain ⟨t, ht, hq⟩ := hbody cdv A outer s H vs Q E hg (hr.deeper _) hsp
  have I := inv_start (CX := CX0) (P := P) (w := w) (K := K) (mg := mg) (base := base) (qual := qual) (f := f) (cd := cdv) (E := E) S hr.hd e0 hl r x
  refine wpAny_mono (ht.run [] s1 (start N vs) H _ I hq) (fun fl s' hs => ?_) fun e s' hs => hs
  cases fl with
  | ret u =>
    obtain ⟨v, σ', H', J, rv, q⟩ := hs
    exact ⟨v, H', J.os, J.bare, J.base, J.hok, rv, q⟩
  | next =>
    obtain ⟨σ', H', J, q⟩ := hs
    exact ⟨.non, H', J.os, J.bare, J.base, J.hok, rfl, q⟩
  | brk => exact hs.elim fun _ ⟨_, _, q⟩ => q.elim
  | cont => exact hs.elim fun _ ⟨_, _, q⟩ => q.elim
end
section
variable {X : Cx} {k : Nat} {f : Addr} {fd : FuncData} {ps : List Str} {sp : Sp} {x : Str} {p pos : Pos} {e : Expr} {es : List Expr} {t : TA}
theorem pe_callG (F : FnG X.prog X.w X.K X.mg X.base k f fd ps sp) (hgu : X.A.guards = some []) (hr : Room k X.A) (hg : Gl X x) (hm : X.mg x = some (.ref f)) (hk : PySem.W.keepIn X.K (.ref f) = true) (hb : Binds X.K fd ps [])
    (ha : PA X (e :: es) t) (hdb : (x == ("__debug__" : Str)) = false := by decide) (he : starEach (e :: es) X.env = (false, eval e X.env) :: starEach es X.env := by rfl) (hpl : (backTo pos (starEach es X.env)).any (·.1) = false := by rfl) :
    PE X (.Call (.Name x p) (e :: es) [] pos) (tCall sp [] E0 t) := by
  refine ⟨fun pins s σ H Q I h => ?_⟩
  refine wpAny_Call_Name_kw (ld_glob I hg hm ?_ hdb)
  refine PySem.W.callWith_K (h₀ := X.base) I.ok.mod.kin hk (thn (ha.run pos pins s σ H _ I h) fun us s1 ⟨vs, H1, I1, r, q⟩ => ⟨I1.kIn, ?_⟩) he hpl
  have q' : sp vs H1 Q E0 := by
    have z : sp (vs ++ []) H1 Q E0 := q
    rw [List.append_nil] at z
    exact z
  have hl : us.length = ps.length := by
    rw [← r.length]
    exact F.len _ _ _ _ q'
  refine wpAny_call (codeAny_mono (F.run X.A X.stack s1 H1 ⟨us, []⟩ us vs Q E0 hgu hr I1.env0 (by have z := hb s1 us I1.kIn (by rw [List.append_nil]; exact hl); rw [List.append_nil] at z; exact z) r q') fun rr s' hq => ?_)
  cases rr with
  | error er => exact False.elim hq
  | ok fl =>
    cases fl with
    | ret u => exact I1.after hq
    | next => exact False.elim hq
    | brk => exact False.elim hq
    | cont => exact False.elim hq
/-- ** with a great base -/
theorem op_powW : OpR X (binaryOp .Pow) (rI (fun i j => 0 ≤ j ∧ (Builtin.Int.intBits i : Int) * j ≤ 2 ^ 27) fun i j => .int (i ^ j.toNat)) := opI fun _ _ _ _ _ _ _ hc q => pow_int hc.1 hc.2 q
end
end U

set_option Elab.async false
set_option linter.all false
set_option maxRecDepth 100000
set_option maxHeartbeats 4000000
namespace U
open PySem PySem.Spec PyProof.Rows L2
open PySem.W (Frag)
/-! ### the facts as Bools -/
def eqB (a b : Option Bool) : Bool := decide (a = b)
def eqV (a b : Option Value) : Bool := decide (a = b)
def eqOO (a b : Option (Option Value)) : Bool := decide (a = b)
def clsB (K : Frag) (C : Addr) : Bool := match K.lookup C with
  | some ⟨.type t, _, .cls cd, sl⟩ => decide (t = "type") && (cd.hasDict && (!cd.hasDel && ((match cd.mro with
    | .ref c :: bm => decide (c = C) && PySem.HandSPX.refsVE bm
    | _ => false) && (match sl.toList with
    | [_, _, _, _, some (.builtin n), _] => decide (n = "ValueError.__new__")
    | _ => false))))
  | _ => false
theorem clsB_ok {K : Frag} {C : Addr} (h : clsB K C = true) : ∃ nm q N bs bm sn sub ab col dd k0 k1 k2 k3 k5, K.lookup C = some (excClassObj nm q C N bs bm true sn sub ab col dd k0 k1 k2 k3 k5 "ValueError.__new__") ∧ PySem.HandSPX.refsVE bm = true := by
  unfold clsB at h
  split at h
  · rename_i t dd cd sl ho
    simp only [Bool.and_eq_true, decide_eq_true_eq, Bool.not_eq_true'] at h
    obtain ⟨rfl, h1, h2, h3, h4⟩ := h
    split at h3
    · rename_i c bm hm
      simp only [Bool.and_eq_true, decide_eq_true_eq] at h3
      obtain ⟨rfl, h3⟩ := h3
      split at h4
      · rename_i k0 k1 k2 k3 n k5 hs
        have hn : n = "ValueError.__new__" := by simpa using h4
        subst hn
        obtain ⟨nm, bs, mro, N, q, hd, sn, sub, ab, col, del⟩ := cd
        simp only at h1 h2 hm
        subst h1 h2 hm
        have hs' : sl = #[k0, k1, k2, k3, some (.builtin "ValueError.__new__"), k5] := by
          rw [← hs]
        subst hs'
        exact ⟨nm, q, N, bs, bm, sn, sub, ab, col, dd, k0, k1, k2, k3, k5, ho, h3⟩
      · cases h4
    · cases h3
  · cases h
def errB (K : Frag) (D fI C : Addr) : Bool :=
  clsB K C && (eqOO (PySem.W.findIn K (.ref C) "__setattr__") (some (some (.builtin "object.__setattr__"))) && (eqOO (PySem.W.findIn K (.ref C) "__getattribute__") (some (some (.builtin "BaseException.__getattribute__"))) && (eqOO (PySem.W.findIn K (.ref C) "__getattr__") (some none) &&
  (eqOO (PySem.W.findIn K (.ref C) "value") (some none) && (eqOO (PySem.W.findIn K (.ref C) "__init__") (some (some (.ref fI))) && (eqV (PySem.W.typeIn K (.ref fI)) (some (.type "function")) && (PySem.W.keepIn K (.ref C) && (eqB (PySem.W.subIn K (.ref C) (.type "BaseException")) (some true) &&
  (eqV (PySem.W.typeIn K (.ref C)) (some (.type "type")) && (PySem.W.hasDictIn K C && (eqB (PySem.W.mroIn K C (.ref D)) (some true) && (eqOO (PySem.W.ks_superIn K C D "__init__") (some (some (.builtin "ValueError.__init__"))) && (eqB (PySem.W.subIn K (.ref C) (.type "ValueError")) (some true) &&
  (eqOO (PySem.W.findIn K (.ref C) "__class__") (some (some (.builtin "object.__class__"))) && (eqOO (PySem.W.specialIn K (.builtin "object.__class__") "__get__") (some (some (.builtin "getset_descriptor.__get__"))) && (eqB (PySem.W.takesIn K (.builtin "object.__class__")) (some true) && eqB (PySem.W.mroIn K C (.type "object")) (some true)))))))))))))))))
theorem errB_ok {K : Frag} {D fI C : Addr} (h : errB K D fI C = true) : ErrC K D fI C := by
  unfold errB at h
  obtain ⟨h1, h⟩ := He.ba h
  obtain ⟨h2, h⟩ := He.ba h
  obtain ⟨h3, h⟩ := He.ba h
  obtain ⟨h4, h⟩ := He.ba h
  obtain ⟨h5, h⟩ := He.ba h
  obtain ⟨h6, h⟩ := He.ba h
  obtain ⟨h7, h⟩ := He.ba h
  obtain ⟨h8, h⟩ := He.ba h
  obtain ⟨h9, h⟩ := He.ba h
  obtain ⟨h10, h⟩ := He.ba h
  obtain ⟨h11, h⟩ := He.ba h
  obtain ⟨h12, h⟩ := He.ba h
  obtain ⟨h13, h⟩ := He.ba h
  obtain ⟨h14, h⟩ := He.ba h
  obtain ⟨h15, h⟩ := He.ba h
  obtain ⟨h16, h⟩ := He.ba h
  obtain ⟨h17, h18⟩ := He.ba h
  exact ⟨clsB_ok h1, of_decide_eq_true h2, of_decide_eq_true h3, of_decide_eq_true h4, of_decide_eq_true h5, of_decide_eq_true h6, of_decide_eq_true h7, h8, of_decide_eq_true h9, of_decide_eq_true h10, h11, of_decide_eq_true h12, of_decide_eq_true h13, of_decide_eq_true h14, of_decide_eq_true h15, of_decide_eq_true h16, of_decide_eq_true h17, of_decide_eq_true h18⟩
/-! ### the base's __init__ -/
abbrev FnC : Type := Option (Str × Str × Arguments × FuncBody × Scope × Addr × List Str × Addr)
def fnC (K : Frag) (fI : Addr) : FnC := match K.lookup fI with
  | some ⟨_, _, .func fd, _⟩ => some (fd.name, fd.qualname, fd.params, fd.body, fd.scope, fd.globals, fd.closure.map (·.1), fd.builtins)
  | _ => none
def codeB (file : Str) (K : Frag) (cd : Value) : Bool := match cd with
  | .ref cda => PySem.W.codeIn K (.ref cda) "TableError.__init__" && (match K.lookup cda with
    | some ⟨_, _, .fields vs, _⟩ => (match (vs[(2 : Nat)]? : Option Value) with
      | some (.str z _) => file == z
      | _ => false)
    | _ => false)
  | _ => false
def cellB (K : Frag) (D : Addr) (cl : List (Str × Addr)) : Bool := match cl with
  | [(_, cc)] => (match K.lookup cc with
    | some ⟨_, _, .cell (some (.ref c)), _⟩ => decide (c = D)
    | _ => false)
  | _ => false
def initB (file : Str) (K : Frag) (D fI : Addr) : Bool := (match K.lookup fI with
    | some ⟨_, _, .func fd, _⟩ => eqV (some fd.defaults) (some .none) && (codeB file K fd.code && cellB K D fd.closure)
    | _ => false) && ((PySem.W.clsIn K D).isSome && (eqOO (PySem.W.nsIn K mainGlobals "super") (some none) && eqOO (PySem.W.nsIn K cStatics "thirdparty.any") (some none)))
def initV (p1 p2 q1 q2 q3 q4 q5 q6 q7 q8 q9 q10 : Pos) : FnC := some (("__init__" : Str), ("TableError.__init__" : Str), iA p1 p2, FuncBody.stmts (iB q1 q2 q3 q4 q5 q6 q7 q8 q9 q10), iS, mainGlobals, [("__class__" : Str)], builtinsNs)
theorem init_of {prog : Program} {K : Frag} {D fI : Addr} {p1 p2 q1 q2 q3 q4 q5 q6 q7 q8 q9 q10 : Pos} (hl : (q3.endLine == q5.line) = true) (ht : (prog.main.scope.names.lookup ("super" : Str)).isSome = false)
    (e : fnC K fI = initV p1 p2 q1 q2 q3 q4 q5 q6 q7 q8 q9 q10) (b : initB prog.main.file K D fI = true) : InitTxt prog K D fI := by
  unfold initB at b
  obtain ⟨b1, b⟩ := He.ba b
  obtain ⟨b2, b⟩ := He.ba b
  obtain ⟨b3, b4⟩ := He.ba b
  unfold fnC at e
  cases q : K.lookup fI with
  | none =>
    rw [q] at b1
    cases b1
  | some o =>
    obtain ⟨oc, od, dt, osl⟩ := o
    rw [q] at b1 e
    cases dt with
    | func fd =>
      obtain ⟨n1, n2, n3, n4, n5, n6, n7, n8, n9, n10, n11, n12, n13, n14, n15⟩ := fd
      have e2 : (some (n1, n2, n3, n4, n5, n6, n7.map (·.1), n15) : FnC) = initV p1 p2 q1 q2 q3 q4 q5 q6 q7 q8 q9 q10 := e
      unfold initV at e2
      simp only [Option.some.injEq, Prod.mk.injEq] at e2
      obtain ⟨h1, h2, h3, h4, h5, h6, h7, h8⟩ := e2
      have b1' : (eqV (some n8) (some .none) && (codeB prog.main.file K n13 && cellB K D n7)) = true := b1
      obtain ⟨c1, c⟩ := He.ba b1'
      obtain ⟨c2, c3⟩ := He.ba c
      have d8 : n8 = .none := Option.some.inj (of_decide_eq_true c1)
      unfold codeB at c2
      cases n13 with
      | ref cda =>
        obtain ⟨c4, c5⟩ := He.ba c2
        unfold cellB at c3
        cases n7 with
        | nil => cases h7
        | cons r n7 =>
          cases n7 with
          | cons _ _ => simp at h7
          | nil =>
            obtain ⟨z, cc⟩ := r
            have hz : z = "__class__" := (List.cons.inj h7).1
            subst h1 h2 h3 h4 h5 h6 h8 d8 hz
            refine ⟨⟨oc, od, n9, n10, n11, n12, cda, cc, n14, osl, p1, p2, q1, q2, q3, q4, q5, q6, q7, q8, q9, q10, q, hl, c4, ?_, ?_⟩, b2, of_decide_eq_true b3, of_decide_eq_true b4, ht⟩
            · split at c5
              · rename_i ccl cdd vs ccs ho
                split at c5
                · rename_i file tf hv
                  exact ⟨ccl, cdd, vs, ccs, file, tf, ho, hv, c5⟩
                · cases c5
              · cases c5
            · have c3' : (match K.lookup cc with
                | some ⟨_, _, .cell (some (.ref c)), _⟩ => decide (c = D)
                | _ => false) = true := c3
              split at c3'
              · rename_i cl cld c csl hc
                have hD : c = D := of_decide_eq_true c3'
                rw [hD] at hc
                exact ⟨_, _, _, hc⟩
              · cases c3'
      | _ => cases c2
    | _ => cases b1
/-! ### the hook -/
def asU (g : Addr → Option Obj) (n : Nat) : List Addr := cStatics :: sysModules :: He.asD g n
abbrev AlU : Type := He.AlT × Bool × FnC
def obsU (n : Nat) (fa : List He.Fa) (fn : List He.DefD) (ts : List He.Tab) (ex : Frag → Bool) (fc : Frag → FnC) (g : Addr → Option Obj) : AlU := (He.obsT fa fn ts (He.frG g (asU g n)), ex (He.frG g (asU g n)), fc (He.frG g (asU g n)))
def hookU (n : Nat) (fa : List He.Fa) (fn : List He.DefD) (ts : List He.Tab) (ex : Frag → Bool) (fc : Frag → FnC) (vc : FnC) : PySem.W.Hook where
  α := AlU
  obs := fun s => obsU n fa fn ts ex fc s.heap.get?
  val := fun w => (He.valT fn ts w, true, vc)
  says := fun w h => ∃ K : Frag, K.In h ∧ He.SaysT fa fn ts w K ∧ ex K = true ∧ fc K = vc
  of := fun w s e => ⟨_, He.frG_in, congrArg (fun z : AlU => z.1) e, congrArg (fun z : AlU => z.2.1) e, congrArg (fun z : AlU => z.2.2) e⟩
  keeps := fun _ _ _ ⟨K, hK, c⟩ k => ⟨K, PySem.W.Frag.In.keeps hK k, c⟩
theorem obsU_eq {n : Nat} {fa : List He.Fa} {fn : List He.DefD} {ts : List He.Tab} {ex : Frag → Bool} {fc : Frag → FnC} {vc : FnC} {g : Addr → Option Obj} {s : Shared} (h : ∀ a, g a = s.heap.get? a) : obsU n fa fn ts ex fc g = (hookU n fa fn ts ex fc vc).obs s := by
  have e : g = s.heap.get? := funext h
  subst e
  rfl
end U

set_option Elab.async false
set_option linter.all false
set_option maxRecDepth 100000
set_option maxHeartbeats 4000000
namespace U
open PySem PySem.Spec PyProof.Rows L2
open PySem.W (Frag)
/-- the law's call, its def being known only where no repr is under way -/
theorem call_lawG {P : Program} {w : World} {K : Frag} {mg mb : Str → Option Value} {k : Nat} {fa a : Addr} {fd : FuncData} {x : Str} {sp : Sp} {s1 : Shared} {vs : List Value} {ns : List Int} (KX : K.In s1.heap) (hns : s1.heap.Ns mainGlobals mg) (hb : s1.heap.Ns builtinsNs mb)
    (hbb : ∀ x : Str, x ≠ "__name__" → mb x = bootBuiltins x) (hlim : s1.heap.NoLimit) (hg : s1.gens = #[]) (ha : s1.heap.get? a = some { cls := .type "list", data := .seq vs.toArray }) (hi : IntsAre vs ns) (hl : ns.length ≤ sizeLine) (hr : Room k callerA)
    (F : ∀ b : Heap, K.In b → b.Ns mainGlobals mg → FnG P w K mg b k fa fd [x] sp) (hbind : ∀ (s : Shared) (u : Value), BindsTo s fd ⟨[u], []⟩ [(x, u)]) (hsp : ∀ H : Hp, Only H → SqL K H a (ns.map V.int) → sp [.ref a] H (fun v _ => v = .bl true) fun _ _ _ => False) :
    codeAny (model P w) callerA (.call (.ref fa) ⟨[.ref a], []⟩) (fun r s' => r = .ok (.ret (.bool true)) ∧ OldK s1.heap s'.heap ∧ s'.os = s1.os ∧ AllBare s'.gens) s1 := by
  have rv := vals_ints hi
  have run : ∀ H : Hp, Only H → SqL K H a (ns.map V.int) → HOk P w H s1.heap → (∀ b, H b ≠ none → b = a) → (H a ≠ none → K.lookup a = none) → codeAny (model P w) callerA (.call (.ref fa) ⟨[.ref a], []⟩) (fun r s' => r = .ok (.ret (.bool true)) ∧ OldK s1.heap s'.heap ∧ s'.os = s1.os ∧ AllBare s'.gens) s1 := by
    intro H hO hS hok hA hK
    have nos : ∀ {b : Addr} {o : Obj} {es : Array DictEntry} {ep : Nat}, s1.heap.get? b = some o → o.data = .dict es ep → H b = none := by
      intro b o es ep e d
      cases q : H b with
      | none => rfl
      | some u =>
        obtain rfl : b = a := hA b (by rw [q]; exact Option.some_ne_none u)
        cases ha.symm.trans e
        cases (show Data.seq vs.toArray _ = Data.dict es ep from d)
    have ns1 : ∀ {b : Addr} {m : Str → Option Value}, s1.heap.Ns b m → (hidT s1.heap H).Ns b m := by
      rintro b m ⟨o, es, ep, e, d, r⟩
      exact ⟨o, es, ep, hidT_get e (nos e d), d, r⟩
    have KB : K.In (hidT s1.heap H) := by
      intro b o e
      refine hidT_get (KX b o e) ?_
      cases q : H b with
      | none => rfl
      | some u =>
        obtain rfl : b = a := hA b (by rw [q]; exact Option.some_ne_none u)
        have z := hK (by rw [q]; exact Option.some_ne_none u)
        cases z.symm.trans e
    obtain ⟨mc, l1, l2⟩ := hlim
    have M : Mod K mg (hidT s1.heap H) := ⟨KB, ns1 hns, ⟨mb, ns1 hb, hbb⟩, ⟨mc, ns1 l1, l2⟩⟩
    have e0 : Env0 P w K mg (hidT s1.heap H) callerA [] s1 H := ⟨rfl, M, fun b o e => of_hidT e, Nat.le_of_eq (hidT_size _ _), trivial, fun b hb => absurd (show b ∈ ([] : List Addr) from hb) List.not_mem_nil, hok, .of_eq hg⟩
    refine codeAny_mono ((F _ KB (ns1 hns)).run callerA [] s1 H ⟨[.ref a], []⟩ [.ref a] [.ref a] _ _ rfl hr e0 (hbind s1 (.ref a)) (.cons rfl .nil) (hsp H hO hS)) fun r s' h => ?_
    match r, h with
    | .error _, h => exact False.elim h
    | .ok .next, h => exact False.elim h
    | .ok .brk, h => exact False.elim h
    | .ok .cont, h => exact False.elim h
    | .ok (.ret u), h =>
      obtain ⟨v, H', os, bare, un, hok', r', rfl⟩ := h
      obtain rfl : u = Value.bool true := r'
      refine ⟨rfl, OldK.of_keep fun b o e => ?_, os, bare⟩
      rcases hO b with z | ⟨ob, xs, z⟩
      · exact un.keep b o e z (fun y => absurd (show b ∈ ([] : List Addr) from y) List.not_mem_nil) (by simp)
      · obtain ⟨e1, _⟩ := hok b _ z
        obtain ⟨e2, _⟩ := hok' b _ (un.frzs b ob _ z)
        rw [e] at e1
        cases e1
        exact e2
  cases hk : K.lookup a with
  | some o =>
    cases ha.symm.trans (KX a o hk)
    exact run (fun _ => none) (fun _ => .inl rfl) (.inr ⟨_, vs.toArray, _, hk, rfl, rfl, rfl, by rw [List.size_toArray, hi.length]; exact hl, by simpa using rv⟩) (fun b u z => nomatch (show (none : Option HO) = some u from z)) (fun b z => absurd rfl z) fun z => absurd rfl z
  | none =>
    refine run (fun b => if b = a then some (.frz { cls := .type "list", data := .seq vs.toArray } (.lst (ns.map V.int))) else none) (fun b => ?_) (.inl (.inr ⟨{ cls := .type "list", data := .seq vs.toArray }, if_pos rfl⟩)) (fun b u z => ?_) (fun b z => ?_) fun _ => hk
    all_goals by_cases hb : b = a
    · exact .inr ⟨_, _, if_pos hb⟩
    · exact .inl (if_neg hb)
    · cases (if_pos hb).symm.trans z
      subst hb
      exact ⟨ha, by rw [List.length_map]; exact hl, vs, _, rv, ha⟩
    · cases (if_neg hb).symm.trans z
    · exact hb
    · exact absurd (if_neg hb) z
theorem walk_lawG {l : PySem.W.OpenLaw} {n k : Nat} {q : Program} {loose : List Str} {XP : (Str → Option Value) → Heap → Prop} {YP : World → Heap → Prop} {d : DefRec} {x : Str} (hn : l.most = some n) (hn2 : n ≤ sizeLine) (hdf : d.params.defaults = []) (hr : Room k callerA)
    (F : ∀ (w : World) (mg : Str → Option Value) (fa : Addr) (h : Heap), YP w h → h.Ns mainGlobals mg → mg d.name = some (.ref fa) → ∃ (K : Frag) (fd : FuncData) (sp : Sp), K.In h ∧ (∀ (s : Shared) (u : Value), BindsTo s fd ⟨[u], []⟩ [(x, u)]) ∧
      (∀ (H : Hp) (a : Addr) (ns : List Int), ns.length ≤ n → Only H → SqL K H a (ns.map V.int) → sp [.ref a] H (fun v _ => v = .bl true) fun _ _ _ => False) ∧ ∀ b : Heap, K.In b → b.Ns mainGlobals mg → FnG l.prog w K mg b k fa fd [x] sp) :
    PySem.W.WalkO q loose XP YP l.row.toRowW d [] (fun f vs => PySem.call f vs) := by
  refine Att.attach_call hn hdf fun w s0 s1 mg mb fa o pm cd doc a vs ns G Y ho hd hcd hmg hobj hints hlen hg => ?_
  obtain ⟨K, fd, sp, KX, hb, hsp, hF⟩ := F w mg fa _ Y G.T.g hmg
  exact call_lawG KX G.T.g G.T.b G.T.builtins G.T.nolimit hg hobj hints (Nat.le_trans hlen hn2) hr hF hb fun H hO hS => hsp H a ns hlen hO hS
end U

set_option Elab.async false
set_option linter.all false
set_option maxRecDepth 100000
set_option maxHeartbeats 4000000
namespace G
open PySem PySem.Spec PyProof.Rows L2 U
open PySem.W (Frag)
def top (i : Nat) : Stmt := PySem.Challenge.pw_unnotedtables_k03_bounds_of_charts.main.body.getD i (.Pass ⟨0, 0, 0, 0⟩)
abbrev R : PySem.W.OpenRow := PySem.W.OpenLaw.row PySem.Challenge.rw_unnotedtables_k03_bounds_of_charts
abbrev FnP (K : Frag) (x : Str) (st : Stmt) (f : Addr) (fd : FuncData) : Prop := FunD K x x (defArgs st) (defBody st) (defScope st) [] [] f fd
abbrev s_is_integer : Stmt := top 27
abbrev N_is_integer : List Str := ["value", "low", "high"]
abbrev P_is_integer : List Str := ["value", "low", "high"]
theorem sc_is_integer : FnScope N_is_integer P_is_integer (defScope s_is_integer) := ⟨rfl, rfl, rfl, by decide +kernel, rfl, by decide +kernel, by decide +kernel⟩
abbrev s_is_tuple : Stmt := top 28
abbrev N_is_tuple : List Str := ["value", "many"]
abbrev P_is_tuple : List Str := ["value", "many"]
theorem sc_is_tuple : FnScope N_is_tuple P_is_tuple (defScope s_is_tuple) := ⟨rfl, rfl, rfl, by decide +kernel, rfl, by decide +kernel, by decide +kernel⟩
abbrev s_is_word : Stmt := top 29
abbrev N_is_word : List Str := ["value", "words"]
abbrev P_is_word : List Str := ["value", "words"]
theorem sc_is_word : FnScope N_is_word P_is_word (defScope s_is_word) := ⟨rfl, rfl, rfl, by decide +kernel, rfl, by decide +kernel, by decide +kernel⟩
abbrev s_is_day : Stmt := top 30
abbrev N_is_day : List Str := ["value"]
abbrev P_is_day : List Str := ["value"]
theorem sc_is_day : FnScope N_is_day P_is_day (defScope s_is_day) := ⟨rfl, rfl, rfl, by decide +kernel, rfl, by decide +kernel, by decide +kernel⟩
abbrev s_is_name : Stmt := top 31
abbrev N_is_name : List Str := ["word", "letter"]
abbrev P_is_name : List Str := ["word"]
theorem sc_is_name : FnScope N_is_name P_is_name (defScope s_is_name) := ⟨rfl, rfl, rfl, by decide +kernel, rfl, by decide +kernel, by decide +kernel⟩
abbrev s_integer_in : Stmt := top 32
abbrev N_integer_in : List Str := ["word", "figures", "figure"]
abbrev P_integer_in : List Str := ["word"]
theorem sc_integer_in : FnScope N_integer_in P_integer_in (defScope s_integer_in) := ⟨rfl, rfl, rfl, by decide +kernel, rfl, by decide +kernel, by decide +kernel⟩
abbrev s_is_table : Stmt := top 39
abbrev N_is_table : List Str := ["numbers", "factor", "shift", "step", "low", "high"]
abbrev P_is_table : List Str := ["numbers"]
theorem sc_is_table : FnScope N_is_table P_is_table (defScope s_is_table) := ⟨rfl, rfl, rfl, by decide +kernel, rfl, by decide +kernel, by decide +kernel⟩
abbrev s_stretch_by : Stmt := top 40
abbrev N_stretch_by : List Str := ["table", "print_here", "factor", "shift", "step", "low", "high", "ends"]
abbrev P_stretch_by : List Str := ["table", "print_here"]
theorem sc_stretch_by : FnScope N_stretch_by P_stretch_by (defScope s_stretch_by) := ⟨rfl, rfl, rfl, by decide +kernel, rfl, by decide +kernel, by decide +kernel⟩
abbrev s_do_turn_back : Stmt := top 41
abbrev N_do_turn_back : List Str := ["ends", "pairs", "one", "other"]
abbrev P_do_turn_back : List Str := ["ends"]
theorem sc_do_turn_back : FnScope N_do_turn_back P_do_turn_back (defScope s_do_turn_back) := ⟨rfl, rfl, rfl, by decide +kernel, rfl, by decide +kernel, by decide +kernel⟩
abbrev s_can_tell : Stmt := top 42
abbrev N_can_tell : List Str := ["tables", "print_here", "stretches", "table", "stretch", "at"]
abbrev P_can_tell : List Str := ["tables", "print_here"]
theorem sc_can_tell : FnScope N_can_tell P_can_tell (defScope s_can_tell) := ⟨rfl, rfl, rfl, by decide +kernel, rfl, by decide +kernel, by decide +kernel⟩
abbrev s_turned_table : Stmt := top 43
abbrev N_turned_table : List Str := ["table", "factor", "shift", "step", "low", "high"]
abbrev P_turned_table : List Str := ["table"]
theorem sc_turned_table : FnScope N_turned_table P_turned_table (defScope s_turned_table) := ⟨rfl, rfl, rfl, by decide +kernel, rfl, by decide +kernel, by decide +kernel⟩
abbrev s_turned_print : Stmt := top 44
abbrev N_turned_print : List Str := ["print_here"]
abbrev P_turned_print : List Str := ["print_here"]
theorem sc_turned_print : FnScope N_turned_print P_turned_print (defScope s_turned_print) := ⟨rfl, rfl, rfl, by decide +kernel, rfl, by decide +kernel, by decide +kernel⟩
abbrev s_other_word : Stmt := top 45
abbrev N_other_word : List Str := ["word"]
abbrev P_other_word : List Str := ["word"]
theorem sc_other_word : FnScope N_other_word P_other_word (defScope s_other_word) := ⟨rfl, rfl, rfl, by decide +kernel, rfl, by decide +kernel, by decide +kernel⟩
abbrev s_is_literal : Stmt := top 51
abbrev N_is_literal : List Str := ["chart", "value"]
abbrev P_is_literal : List Str := ["chart", "value"]
theorem sc_is_literal : FnScope N_is_literal P_is_literal (defScope s_is_literal) := ⟨rfl, rfl, rfl, by decide +kernel, rfl, by decide +kernel, by decide +kernel⟩
abbrev s_is_claim : Stmt := top 52
abbrev N_is_claim : List Str := ["chart", "value"]
abbrev P_is_claim : List Str := ["chart", "value"]
theorem sc_is_claim : FnScope N_is_claim P_is_claim (defScope s_is_claim) := ⟨rfl, rfl, rfl, by decide +kernel, rfl, by decide +kernel, by decide +kernel⟩
abbrev s_check_claim : Stmt := top 53
abbrev N_check_claim : List Str := ["chart", "value"]
abbrev P_check_claim : List Str := ["chart", "value"]
theorem sc_check_claim : FnScope N_check_claim P_check_claim (defScope s_check_claim) := ⟨rfl, rfl, rfl, by decide +kernel, rfl, by decide +kernel, by decide +kernel⟩
abbrev s_claim_in : Stmt := top 54
abbrev N_claim_in : List Str := ["chart", "words", "numbers", "word", "found"]
abbrev P_claim_in : List Str := ["chart", "words"]
theorem sc_claim_in : FnScope N_claim_in P_claim_in (defScope s_claim_in) := ⟨rfl, rfl, rfl, by decide +kernel, rfl, by decide +kernel, by decide +kernel⟩
abbrev s_person_of : Stmt := top 55
abbrev N_person_of : List Str := ["claim"]
abbrev P_person_of : List Str := ["claim"]
theorem sc_person_of : FnScope N_person_of P_person_of (defScope s_person_of) := ⟨rfl, rfl, rfl, by decide +kernel, rfl, by decide +kernel, by decide +kernel⟩
abbrev s_lab_of : Stmt := top 56
abbrev N_lab_of : List Str := ["claim"]
abbrev P_lab_of : List Str := ["claim"]
theorem sc_lab_of : FnScope N_lab_of P_lab_of (defScope s_lab_of) := ⟨rfl, rfl, rfl, by decide +kernel, rfl, by decide +kernel, by decide +kernel⟩
abbrev s_days_in : Stmt := top 57
abbrev N_days_in : List Str := ["claim"]
abbrev P_days_in : List Str := ["claim"]
theorem sc_days_in : FnScope N_days_in P_days_in (defScope s_days_in) := ⟨rfl, rfl, rfl, by decide +kernel, rfl, by decide +kernel, by decide +kernel⟩
abbrev s_turned_claim : Stmt := top 58
abbrev N_turned_claim : List Str := ["claim", "word", "person", "day", "other", "number"]
abbrev P_turned_claim : List Str := ["claim"]
theorem sc_turned_claim : FnScope N_turned_claim P_turned_claim (defScope s_turned_claim) := ⟨rfl, rfl, rfl, by decide +kernel, rfl, by decide +kernel, by decide +kernel⟩
abbrev s_back_claim : Stmt := top 59
abbrev N_back_claim : List Str := ["chart", "claim", "days", "day"]
abbrev P_back_claim : List Str := ["chart", "claim"]
theorem sc_back_claim : FnScope N_back_claim P_back_claim (defScope s_back_claim) := ⟨rfl, rfl, rfl, by decide +kernel, rfl, by decide +kernel, by decide +kernel⟩
abbrev s_person_in : Stmt := top 68
abbrev N_person_in : List Str := ["words", "rates", "word"]
abbrev P_person_in : List Str := ["words"]
theorem sc_person_in : FnScope N_person_in P_person_in (defScope s_person_in) := ⟨rfl, rfl, rfl, by decide +kernel, rfl, by decide +kernel, by decide +kernel⟩
abbrev s_lab_in : Stmt := top 69
abbrev N_lab_in : List Str := ["words", "numbers", "word", "found", "at", "table"]
abbrev P_lab_in : List Str := ["words"]
theorem sc_lab_in : FnScope N_lab_in P_lab_in (defScope s_lab_in) := ⟨rfl, rfl, rfl, by decide +kernel, rfl, by decide +kernel, by decide +kernel⟩
abbrev s_result_in : Stmt := top 70
abbrev N_result_in : List Str := ["people", "labs", "words", "person", "lab", "day", "print_here", "told"]
abbrev P_result_in : List Str := ["people", "labs", "words"]
theorem sc_result_in : FnScope N_result_in P_result_in (defScope s_result_in) := ⟨rfl, rfl, rfl, by decide +kernel, rfl, by decide +kernel, by decide +kernel⟩
abbrev s_read_people : Stmt := top 71
abbrev N_read_people : List Str := ["lines", "found", "number", "line", "words", "told"]
abbrev P_read_people : List Str := ["lines"]
theorem sc_read_people : FnScope N_read_people P_read_people (defScope s_read_people) := ⟨rfl, rfl, rfl, by decide +kernel, rfl, by decide +kernel, by decide +kernel⟩
abbrev s_read_labs : Stmt := top 72
abbrev N_read_labs : List Str := ["lines", "found", "number", "line", "words", "told"]
abbrev P_read_labs : List Str := ["lines"]
theorem sc_read_labs : FnScope N_read_labs P_read_labs (defScope s_read_labs) := ⟨rfl, rfl, rfl, by decide +kernel, rfl, by decide +kernel, by decide +kernel⟩
abbrev s_read_results : Stmt := top 73
abbrev N_read_results : List Str := ["people", "labs", "lines", "found", "number", "line", "words", "told"]
abbrev P_read_results : List Str := ["people", "labs", "lines"]
theorem sc_read_results : FnScope N_read_results P_read_results (defScope s_read_results) := ⟨rfl, rfl, rfl, by decide +kernel, rfl, by decide +kernel, by decide +kernel⟩
abbrev s_read_facts : Stmt := top 74
abbrev N_read_facts : List Str := ["ground", "lines", "found", "number", "line", "words", "claim"]
abbrev P_read_facts : List Str := ["ground", "lines"]
theorem sc_read_facts : FnScope N_read_facts P_read_facts (defScope s_read_facts) := ⟨rfl, rfl, rfl, by decide +kernel, rfl, by decide +kernel, by decide +kernel⟩
abbrev s_Ground_init : Stmt := inClass (top 75) 1
abbrev N_Ground_init : List Str := ["self", "people", "labs"]
abbrev P_Ground_init : List Str := ["self", "people", "labs"]
theorem sc_Ground_init : FnScope N_Ground_init P_Ground_init (defScope s_Ground_init) := ⟨rfl, rfl, rfl, by decide +kernel, rfl, by decide +kernel, by decide +kernel⟩
abbrev s_read_text : Stmt := top 76
abbrev N_read_text : List Str := ["text", "lines", "people", "at", "labs", "many", "rows", "facts"]
abbrev P_read_text : List Str := ["text"]
theorem sc_read_text : FnScope N_read_text P_read_text (defScope s_read_text) := ⟨rfl, rfl, rfl, by decide +kernel, rfl, by decide +kernel, by decide +kernel⟩
abbrev s_Chart_init : Stmt := inClass (top 77) 0
abbrev N_Chart_init : List Str := ["self", "text"]
abbrev P_Chart_init : List Str := ["self", "text"]
theorem sc_Chart_init : FnScope N_Chart_init P_Chart_init (defScope s_Chart_init) := ⟨rfl, rfl, rfl, by decide +kernel, rfl, by decide +kernel, by decide +kernel⟩
abbrev s_Chart_text : Stmt := inClass (top 77) 1
abbrev N_Chart_text : List Str := ["self"]
abbrev P_Chart_text : List Str := ["self"]
theorem sc_Chart_text : FnScope N_Chart_text P_Chart_text (defScope s_Chart_text) := ⟨rfl, rfl, rfl, by decide +kernel, rfl, by decide +kernel, by decide +kernel⟩
abbrev s_Chart_people : Stmt := inClass (top 77) 2
abbrev N_Chart_people : List Str := ["self"]
abbrev P_Chart_people : List Str := ["self"]
theorem sc_Chart_people : FnScope N_Chart_people P_Chart_people (defScope s_Chart_people) := ⟨rfl, rfl, rfl, by decide +kernel, rfl, by decide +kernel, by decide +kernel⟩
abbrev s_Chart_labs : Stmt := inClass (top 77) 3
abbrev N_Chart_labs : List Str := ["self"]
abbrev P_Chart_labs : List Str := ["self"]
theorem sc_Chart_labs : FnScope N_Chart_labs P_Chart_labs (defScope s_Chart_labs) := ⟨rfl, rfl, rfl, by decide +kernel, rfl, by decide +kernel, by decide +kernel⟩
abbrev s_Chart_results : Stmt := inClass (top 77) 4
abbrev N_Chart_results : List Str := ["self"]
abbrev P_Chart_results : List Str := ["self"]
theorem sc_Chart_results : FnScope N_Chart_results P_Chart_results (defScope s_Chart_results) := ⟨rfl, rfl, rfl, by decide +kernel, rfl, by decide +kernel, by decide +kernel⟩
abbrev s_Chart_facts : Stmt := inClass (top 77) 5
abbrev N_Chart_facts : List Str := ["self"]
abbrev P_Chart_facts : List Str := ["self"]
theorem sc_Chart_facts : FnScope N_Chart_facts P_Chart_facts (defScope s_Chart_facts) := ⟨rfl, rfl, rfl, by decide +kernel, rfl, by decide +kernel, by decide +kernel⟩
abbrev s_Chart_getitem : Stmt := inClass (top 77) 6
abbrev N_Chart_getitem : List Str := ["self", "result"]
abbrev P_Chart_getitem : List Str := ["self", "result"]
theorem sc_Chart_getitem : FnScope N_Chart_getitem P_Chart_getitem (defScope s_Chart_getitem) := ⟨rfl, rfl, rfl, by decide +kernel, rfl, by decide +kernel, by decide +kernel⟩
abbrev s_Chart_len : Stmt := inClass (top 77) 7
abbrev N_Chart_len : List Str := ["self"]
abbrev P_Chart_len : List Str := ["self"]
theorem sc_Chart_len : FnScope N_Chart_len P_Chart_len (defScope s_Chart_len) := ⟨rfl, rfl, rfl, by decide +kernel, rfl, by decide +kernel, by decide +kernel⟩
abbrev s_Chart_contains : Stmt := inClass (top 77) 8
abbrev N_Chart_contains : List Str := ["self", "value"]
abbrev P_Chart_contains : List Str := ["self", "value"]
theorem sc_Chart_contains : FnScope N_Chart_contains P_Chart_contains (defScope s_Chart_contains) := ⟨rfl, rfl, rfl, by decide +kernel, rfl, by decide +kernel, by decide +kernel⟩
abbrev s_Chart_iter : Stmt := inClass (top 77) 9
abbrev N_Chart_iter : List Str := ["self"]
abbrev P_Chart_iter : List Str := ["self"]
theorem sc_Chart_iter : FnScope N_Chart_iter P_Chart_iter (defScope s_Chart_iter) := ⟨rfl, rfl, rfl, by decide +kernel, rfl, by decide +kernel, by decide +kernel⟩
abbrev s_Chart_eq : Stmt := inClass (top 77) 10
abbrev N_Chart_eq : List Str := ["self", "other"]
abbrev P_Chart_eq : List Str := ["self", "other"]
theorem sc_Chart_eq : FnScope N_Chart_eq P_Chart_eq (defScope s_Chart_eq) := ⟨rfl, rfl, rfl, by decide +kernel, rfl, by decide +kernel, by decide +kernel⟩
abbrev s_Chart_rates : Stmt := inClass (top 77) 11
abbrev N_Chart_rates : List Str := ["self", "person"]
abbrev P_Chart_rates : List Str := ["self", "person"]
theorem sc_Chart_rates : FnScope N_Chart_rates P_Chart_rates (defScope s_Chart_rates) := ⟨rfl, rfl, rfl, by decide +kernel, rfl, by decide +kernel, by decide +kernel⟩
abbrev s_Chart_tables : Stmt := inClass (top 77) 12
abbrev N_Chart_tables : List Str := ["self", "lab"]
abbrev P_Chart_tables : List Str := ["self", "lab"]
theorem sc_Chart_tables : FnScope N_Chart_tables P_Chart_tables (defScope s_Chart_tables) := ⟨rfl, rfl, rfl, by decide +kernel, rfl, by decide +kernel, by decide +kernel⟩
abbrev s_Chart_days : Stmt := inClass (top 77) 13
abbrev N_Chart_days : List Str := ["self", "name"]
abbrev P_Chart_days : List Str := ["self", "name"]
theorem sc_Chart_days : FnScope N_Chart_days P_Chart_days (defScope s_Chart_days) := ⟨rfl, rfl, rfl, by decide +kernel, rfl, by decide +kernel, by decide +kernel⟩
abbrev s_Chart_put : Stmt := inClass (top 77) 14
abbrev N_Chart_put : List Str := ["self", "line"]
abbrev P_Chart_put : List Str := ["self", "line"]
theorem sc_Chart_put : FnScope N_Chart_put P_Chart_put (defScope s_Chart_put) := ⟨rfl, rfl, rfl, by decide +kernel, rfl, by decide +kernel, by decide +kernel⟩
abbrev s_Chart_without : Stmt := inClass (top 77) 15
abbrev N_Chart_without : List Str := ["self", "result"]
abbrev P_Chart_without : List Str := ["self", "result"]
theorem sc_Chart_without : FnScope N_Chart_without P_Chart_without (defScope s_Chart_without) := ⟨rfl, rfl, rfl, by decide +kernel, rfl, by decide +kernel, by decide +kernel⟩
abbrev s_Chart_told : Stmt := inClass (top 77) 16
abbrev N_Chart_told : List Str := ["self", "claim"]
abbrev P_Chart_told : List Str := ["self", "claim"]
theorem sc_Chart_told : FnScope N_Chart_told P_Chart_told (defScope s_Chart_told) := ⟨rfl, rfl, rfl, by decide +kernel, rfl, by decide +kernel, by decide +kernel⟩
abbrev s_Chart_untold : Stmt := inClass (top 77) 17
abbrev N_Chart_untold : List Str := ["self", "number"]
abbrev P_Chart_untold : List Str := ["self", "number"]
theorem sc_Chart_untold : FnScope N_Chart_untold P_Chart_untold (defScope s_Chart_untold) := ⟨rfl, rfl, rfl, by decide +kernel, rfl, by decide +kernel, by decide +kernel⟩
abbrev s_Chart_rated : Stmt := inClass (top 77) 18
abbrev N_Chart_rated : List Str := ["self", "person", "side", "rate"]
abbrev P_Chart_rated : List Str := ["self", "person", "side", "rate"]
theorem sc_Chart_rated : FnScope N_Chart_rated P_Chart_rated (defScope s_Chart_rated) := ⟨rfl, rfl, rfl, by decide +kernel, rfl, by decide +kernel, by decide +kernel⟩
abbrev s_Chart_invert : Stmt := inClass (top 77) 19
abbrev N_Chart_invert : List Str := ["self", "people", "name", "rates", "labs", "table", "lab", "tables", "rows", "row", "claim"]
abbrev P_Chart_invert : List Str := ["self"]
theorem sc_Chart_invert : FnScope N_Chart_invert P_Chart_invert (defScope s_Chart_invert) := ⟨rfl, rfl, rfl, by decide +kernel, rfl, by decide +kernel, by decide +kernel⟩
abbrev s_Chart_back : Stmt := inClass (top 77) 20
abbrev N_Chart_back : List Str := ["self", "people", "name", "rates", "labs", "lab", "tables", "rows", "person", "day", "print_here", "claim"]
abbrev P_Chart_back : List Str := ["self"]
theorem sc_Chart_back : FnScope N_Chart_back P_Chart_back (defScope s_Chart_back) := ⟨rfl, rfl, rfl, by decide +kernel, rfl, by decide +kernel, by decide +kernel⟩
abbrev s_text_of : Stmt := top 78
abbrev N_text_of : List Str := ["people", "labs", "rows", "facts", "lines", "name", "rates", "tables", "table", "number", "row", "claim", "word", "line"]
abbrev P_text_of : List Str := ["people", "labs", "rows", "facts"]
theorem sc_text_of : FnScope N_text_of P_text_of (defScope s_text_of) := ⟨rfl, rfl, rfl, by decide +kernel, rfl, by decide +kernel, by decide +kernel⟩
abbrev s_chart_of : Stmt := top 79
abbrev N_chart_of : List Str := ["people", "labs", "rows", "facts"]
abbrev P_chart_of : List Str := ["people", "labs", "rows", "facts"]
theorem sc_chart_of : FnScope N_chart_of P_chart_of (defScope s_chart_of) := ⟨rfl, rfl, rfl, by decide +kernel, rfl, by decide +kernel, by decide +kernel⟩
abbrev s_check_result : Stmt := top 80
abbrev N_check_result : List Str := ["chart", "value"]
abbrev P_check_result : List Str := ["chart", "value"]
theorem sc_check_result : FnScope N_check_result P_check_result (defScope s_check_result) := ⟨rfl, rfl, rfl, by decide +kernel, rfl, by decide +kernel, by decide +kernel⟩
abbrev s_check_person : Stmt := top 81
abbrev N_check_person : List Str := ["chart", "value"]
abbrev P_check_person : List Str := ["chart", "value"]
theorem sc_check_person : FnScope N_check_person P_check_person (defScope s_check_person) := ⟨rfl, rfl, rfl, by decide +kernel, rfl, by decide +kernel, by decide +kernel⟩
abbrev s_check_lab : Stmt := top 82
abbrev N_check_lab : List Str := ["chart", "value"]
abbrev P_check_lab : List Str := ["chart", "value"]
theorem sc_check_lab : FnScope N_check_lab P_check_lab (defScope s_check_lab) := ⟨rfl, rfl, rfl, by decide +kernel, rfl, by decide +kernel, by decide +kernel⟩
abbrev s_person_days : Stmt := top 83
abbrev N_person_days : List Str := ["chart", "person", "claims", "found", "row", "claim"]
abbrev P_person_days : List Str := ["chart", "person", "claims"]
theorem sc_person_days : FnScope N_person_days P_person_days (defScope s_person_days) := ⟨rfl, rfl, rfl, by decide +kernel, rfl, by decide +kernel, by decide +kernel⟩
abbrev s_lab_days : Stmt := top 84
abbrev N_lab_days : List Str := ["chart", "lab", "claims", "found", "row", "claim"]
abbrev P_lab_days : List Str := ["chart", "lab", "claims"]
theorem sc_lab_days : FnScope N_lab_days P_lab_days (defScope s_lab_days) := ⟨rfl, rfl, rfl, by decide +kernel, rfl, by decide +kernel, by decide +kernel⟩
abbrev s_Lpot : Stmt := top 86
abbrev N_Lpot : List Str := ["_law_script", "_law_k", "_law_cell", "_law_own", "_law_small"]
abbrev P_Lpot : List Str := ["_law_script", "_law_k"]
theorem sc_Lpot : FnScope N_Lpot P_Lpot (defScope s_Lpot) := ⟨rfl, rfl, rfl, by decide +kernel, rfl, by decide +kernel, by decide +kernel⟩
abbrev s_Ltake : Stmt := top 87
abbrev N_Ltake : List Str := ["_law_pot_here", "_law_upto", "_law_digit", "_law_prime", "_law_mixed"]
abbrev P_Ltake : List Str := ["_law_pot_here", "_law_upto"]
theorem sc_Ltake : FnScope N_Ltake P_Ltake (defScope s_Ltake) := ⟨rfl, rfl, rfl, by decide +kernel, rfl, by decide +kernel, by decide +kernel⟩
abbrev s_Lsome : Stmt := top 88
abbrev N_Lsome : List Str := ["_law_pot_here", "_law_pool", "_law_amount", "_law_spare", "_law_found", "_law_lap"]
abbrev P_Lsome : List Str := ["_law_pot_here", "_law_pool", "_law_amount"]
theorem sc_Lsome : FnScope N_Lsome P_Lsome (defScope s_Lsome) := ⟨rfl, rfl, rfl, by decide +kernel, rfl, by decide +kernel, by decide +kernel⟩
abbrev s_Lpots : Stmt := top 89
abbrev N_Lpots : List Str := ["_law_script", "_law_limit", "_law_k"]
abbrev P_Lpots : List Str := ["_law_script", "_law_limit"]
theorem sc_Lpots : FnScope N_Lpots P_Lpots (defScope s_Lpots) := ⟨rfl, rfl, rfl, by decide +kernel, rfl, by decide +kernel, by decide +kernel⟩
abbrev s_Lcaught : Stmt := top 90
abbrev N_Lcaught : List Str := ["_law_look", "_law_error_seen", "_law_back", "error"]
abbrev P_Lcaught : List Str := ["_law_look"]
theorem sc_Lcaught : FnScope N_Lcaught P_Lcaught (defScope s_Lcaught) := ⟨rfl, rfl, rfl, by decide +kernel, rfl, by decide +kernel, by decide +kernel⟩
abbrev s_Lnames : Stmt := top 91
abbrev N_Lnames : List Str := ["_law_pot_here", "_law_amount", "_law_pool"]
abbrev P_Lnames : List Str := ["_law_pot_here", "_law_amount"]
theorem sc_Lnames : FnScope N_Lnames P_Lnames (defScope s_Lnames) := ⟨rfl, rfl, rfl, by decide +kernel, rfl, by decide +kernel, by decide +kernel⟩
abbrev s_Lis : Stmt := top 92
abbrev N_Lis : List Str := ["_law_rows", "_law_line", "_law_caught_here", "_law_chart"]
abbrev P_Lis : List Str := ["_law_rows", "_law_line"]
theorem sc_Lis : FnScope N_Lis P_Lis (defScope s_Lis) := ⟨rfl, rfl, rfl, by decide +kernel, rfl, by decide +kernel, by decide +kernel⟩
abbrev s_Lright : Stmt := top 93
abbrev N_Lright : List Str := ["_law_pot_here", "_law_names_here", "_law_table", "_law_people", "_law_name", "_law_labs", "_law_head", "_law_results", "_law_facts", "_law_number", "_law_rows", "_law_day", "_law_word", "_law_due", "_law_rose", "_law_some_here"]
abbrev P_Lright : List Str := ["_law_pot_here"]
theorem sc_Lright : FnScope N_Lright P_Lright (defScope s_Lright) := ⟨rfl, rfl, rfl, by decide +kernel, rfl, by decide +kernel, by decide +kernel⟩
abbrev s_law : Stmt := top 94
abbrev N_law : List Str := ["_law_script", "_law_pot_here"]
abbrev P_law : List Str := ["_law_script"]
theorem sc_law : FnScope N_law P_law (defScope s_law) := ⟨rfl, rfl, rfl, by decide +kernel, rfl, by decide +kernel, by decide +kernel⟩
end G

set_option Elab.async false
set_option linter.all false
set_option maxRecDepth 100000
set_option maxHeartbeats 4000000
namespace U
open PySem PySem.Spec PyProof.Rows L2
open PySem.W (Frag)
/-! ### a def by its name and its promise -/
structure Has (P : Program) (w : World) (K : Frag) (mg : Str → Option Value) (base : Heap) (k : Nat) (x : Str) (ps : List Str) (dvs : List V) (sp : Sp) : Prop where
  fn : ∃ (fd : FuncData) (ds : List Value), FnOk P w K mg base CX0 k (He.ga K x) fd ps sp ∧ PySem.W.keepIn K (.ref (He.ga K x)) = true ∧ Vals dvs ds ∧ Binds K fd ps ds
  g : mg x = some (.ref (He.ga K x))
section
variable {X : Cx}
theorem pe_has {k : Nat} {x : Str} {ps : List Str} {dvs : List V} {sp : Sp} {p pos : Pos} {e : Expr} {es : List Expr} {t : TA} (h : Has X.prog X.w X.K X.mg X.base k x ps dvs sp) (hr : Room k X.A) (ha : PA X (e :: es) t) (hg : Gl X x := by rfl)
    (hdb : (x == ("__debug__" : Str)) = false := by decide) (he : starEach (e :: es) X.env = (false, eval e X.env) :: starEach es X.env := by rfl) (hpl : (backTo pos (starEach es X.env)).any (·.1) = false := by rfl) : PE X (.Call (.Name x p) (e :: es) [] pos) (tCall sp dvs E0 t) := by
  obtain ⟨fd, ds, h1, h2, h3, h4⟩ := h.fn
  exact pe_call h1 hr hg h.g h2 h4 h3 pass0 ha hdb he hpl
theorem Has.mono {P : Program} {w : World} {K : Frag} {mg : Str → Option Value} {base : Heap} {j k : Nat} {x : Str} {ps : List Str} {dvs : List V} {sp : Sp} (h : Has P w K mg base j x ps dvs sp) (hk : j ≤ k) : Has P w K mg base k x ps dvs sp := by
  obtain ⟨fd, ds, h1, h2⟩ := h.fn
  exact ⟨⟨fd, ds, h1.mono hk, h2⟩, h.g⟩
/-! ### constants of the module -/
def CS (mg : Str → Option Value) (x z : Str) : Prop := ∃ t, mg x = some (.str z t)
def CI (mg : Str → Option Value) (x : Str) (i : Int) : Prop := ∃ t, mg x = some (.int i t)
theorem pe_cs {x z : Str} {pos : Pos} (h : CS X.mg x z) (hg : Gl X x := by rfl) (hd : (x == ("__debug__" : Str)) = false := by decide) : PE X (.Name x pos) (tC (.str z)) := by
  obtain ⟨t, h⟩ := h
  exact pe_glob hg h ⟨t, rfl⟩ hd
theorem pe_ci {x : Str} {i : Int} {pos : Pos} (h : CI X.mg x i) (hg : Gl X x := by rfl) (hd : (x == ("__debug__" : Str)) = false := by decide) : PE X (.Name x pos) (tC (.int i)) := by
  obtain ⟨t, h⟩ := h
  exact pe_glob hg h ⟨t, rfl⟩ hd
/-! ### isinstance of data -/
def tyD : PyData → String
  | .none => "NoneType"
  | .bool _ => "bool"
  | .int _ => "int"
  | .str _ => "str"
  | .list _ => "list"
  | .tuple _ => "tuple"
  | .dict _ => "dict"
theorem Dq.ty {K : Frag} {F : Addr → Prop} {H : Hp} {v : V} {d : PyData} (h : Dq F H v d) : TyX K H v (.type (tyD d)) := by
  cases h with
  | non => exact .base .non
  | bl b => exact .base (.bl b)
  | int i => exact .base (.int i)
  | str x => exact .base (.str x)
  | lst _ e _ => exact .base (.lst e)
  | tup _ e _ => exact .base (.tup e)
  | dk _ e _ => exact .base (.dK e)
def rIsiD : List V → Hp → VK → Prop := fun xs H Q => ∃ (F : Addr → Prop) (x : V) (d : PyData) (T : String) (b : Bool), xs = [x, .ty T] ∧ Dq F H x d ∧ kitB (tyD d) T = some b ∧ Q (.bl b) H
theorem call_isiD : CallR X (.builtin "isinstance") rIsiD := by
  intro pins s σ H xs us Q I r h
  obtain ⟨F, x, d, T, b, rfl, hd, hk, q⟩ := h
  exact call_isi pins s σ H _ us Q I r ⟨x, .ty T, _, _, b, rfl, .ty T, hd.ty, kit_ty hk, q⟩
/-! ### comparisons of two kinds -/
theorem PC.or {op : CmpOp} {a b : Expr} {t u : TE} (h1 : PC X op a b t) (h2 : PC X op a b u) : PC X op a b (fun σ H Q => t σ H Q ∨ u σ H Q) :=
  ⟨fun pins s σ H Q I h => h.elim (fun h => h1.run pins s σ H Q I h) fun h => h2.run pins s σ H Q I h⟩
theorem pc_op {op : CmpOp} {a b : Expr} {ta tb : TE} {r : R2} (ho : OpR X (compareOp op) r) (ha : PE X a ta) (hb : PE X b tb) : PC X op a b (tOp r ta tb) :=
  ⟨fun pins s σ H Q I h => thn (ha.run pins s σ H _ I h) fun v s1 ⟨x, H1, I1, r1, q1⟩ => thn (hb.run pins s1 σ H1 _ I1 q1) fun u s2 ⟨y, H2, I2, r2, q2⟩ => ho pins s2 σ H2 x y v u Q I2 r1 r2 q2⟩
end
/-- what a pure def hands back: new data, the heap grown -/
def Ret (H : Hp) (d : PyData) (Q : VK) : Prop := ∀ v H', Same H H' → Dq (fun a => H a = none) H' v d → Q v H'
/-- a plain value, the heap grown -/
def RetS (H : Hp) (v : V) (Q : VK) : Prop := ∀ H', Same H H' → Q v H'
abbrev Da (H : Hp) (v : V) (d : PyData) : Prop := Dq (fun _ => True) H v d
theorem Dq.da {F : Addr → Prop} {H : Hp} {v : V} {d : PyData} (h : Dq F H v d) : Da H v d := h.move (fun _ _ => True.intro) fun _ _ _ e => e
theorem Dq.same {F : Addr → Prop} {H H' : Hp} {v : V} {d : PyData} (h : Dq F H v d) (s : Same H H') : Dq F H' v d := h.move (fun _ f => f) fun b o _ e => s b o e
end U

set_option Elab.async false
set_option linter.all false
set_option maxRecDepth 100000
set_option maxHeartbeats 4000000
namespace G
open PySem PySem.Spec PyProof.Rows L2 U
open PySem.W (Frag)
abbrev Fn (K : Frag) (mg : Str → Option Value) (x : Str) (st : Stmt) : Prop := (∃ fd, FnP K x st (He.ga K x) fd) ∧ mg x = some (.ref (He.ga K x))
abbrev Fn2 (K : Frag) (mg : Str → Option Value) (x : Str) (st : Stmt) : Prop := (∃ fd, FunD K x x (defArgs st) (defBody st) (defScope st) [.non, .non] [] (He.ga K x) fd) ∧ mg x = some (.ref (He.ga K x))
section
variable {P : Program} {w : World} {K : Frag} {mg : Str → Option Value} {base : Heap}
/-! ### is_integer -/
def loB (lo : Option Int) (i : Int) : Bool := match lo with
  | none => true
  | some l => decide (l ≤ i)
def hiB (hi : Option Int) (i : Int) : Bool := match hi with
  | none => true
  | some h => decide (i ≤ h)
def isIntD (d : PyData) (lo hi : Option Int) : Bool := match d with
  | .int i => loB lo i && hiB hi i
  | _ => false
def oI : Option Int → V
  | none => .non
  | some i => .int i
def sp_is_integer : Sp := fun vs H Q _ => ∃ (F : Addr → Prop) (v : V) (d : PyData) (lo hi : Option Int), vs = [v, oI lo, oI hi] ∧ Dq F H v d ∧ Q (.bl (isIntD d lo hi)) H
theorem kit_int (d : PyData) : ∃ b, kitB (tyD d) "int" = some b ∧ (b = false → ∀ lo hi, isIntD d lo hi = false) ∧ (b = true → (∃ i, d = .int i) ∨ ∃ c, d = .bool c) := by
  cases d with
  | int i => exact ⟨true, (show kitB "int" "int" = some true by decide +kernel), (fun z => Bool.noConfusion z), fun _ => Or.inl ⟨i, rfl⟩⟩
  | bool b => exact ⟨true, (show kitB "bool" "int" = some true by decide +kernel), (fun z => Bool.noConfusion z), fun _ => Or.inr ⟨b, rfl⟩⟩
  | none => exact ⟨false, (show kitB "NoneType" "int" = some false by decide +kernel), fun _ _ _ => rfl, fun z => Bool.noConfusion z⟩
  | str x => exact ⟨false, (show kitB "str" "int" = some false by decide +kernel), fun _ _ _ => rfl, fun z => Bool.noConfusion z⟩
  | list x => exact ⟨false, (show kitB "list" "int" = some false by decide +kernel), fun _ _ _ => rfl, fun z => Bool.noConfusion z⟩
  | tuple x => exact ⟨false, (show kitB "tuple" "int" = some false by decide +kernel), fun _ _ _ => rfl, fun z => Bool.noConfusion z⟩
  | dict x => exact ⟨false, (show kitB "dict" "int" = some false by decide +kernel), fun _ _ _ => rfl, fun z => Bool.noConfusion z⟩
theorem ok_is_integer {f : Addr} {fd : FuncData} (F : FunD K "is_integer" "is_integer" (defArgs s_is_integer) (defBody s_is_integer) (defScope s_is_integer) [.non, .non] [] f fd) (gI : mg "isinstance" = none) (gi : mg "int" = none) (gb : mg "bool" = none) : FnOk P w K mg base CX0 1 f fd P_is_integer sp_is_integer := by
  refine F.ok sc_is_integer (fun vs H Q E h => ?_) (fun cdv A outer s H vs Q E hr h => ?_)
  · obtain ⟨F, v, d, lo, hi, rfl, _⟩ := h
    rfl
  · obtain ⟨F, v, d, lo, hi, rfl, hd, hq⟩ := h
    refine ⟨_, PSs.nox (pss_cons (ps_if (PW.pt (pw_or (pt_not (pt_val (pe_callB call_isiD (by rfl) gI (by decide +kernel) (pa_cons (pv 0) (pa_cons (pe_bltn (by rfl) gi (v := .ty "int") PyProof.Rows.boot_int rfl) pa_nil)))))
        (pw_or1 (pt_val (pe_callB call_isiD (by rfl) gI (by decide +kernel) (pa_cons (pv 0) (pa_cons (pe_bltn (by rfl) gb (v := .ty "bool") (u := .type "bool") (by decide +kernel) rfl) pa_nil))))))) (pss_one (ps_ret pe_bl)) pss_nil)
      (pss_one (ps_ret (pe_and (pe_or (pe_cmp (pc_isN (pv 1)) rfl) (pe_one (pe_cmp (pc_le (pv 1) (pv 0)) rfl))) (pe_one (pe_or (pe_cmp (pc_isN (pv 2)) rfl) (pe_one (pe_cmp (pc_le (pv 0) (pv 2)) rfl)))))))), ?_⟩
    obtain ⟨b, hb, hn, hy⟩ := kit_int d
    refine ⟨_, rfl, F, v, d, "int", b, rfl, hd, hb, b, rfl, ?_⟩
    cases b with
    | false =>
      refine iteT ?_
      refine iteT ?_
      show Q (.bl false) H
      rw [← hn rfl lo hi]
      exact hq
    | true =>
      refine iteF ?_
      rcases hy rfl with ⟨i, rfl⟩ | ⟨c, rfl⟩
      · cases hd
        refine ⟨_, rfl, F, .int i, .int i, "bool", false, rfl, .int i, (show kitB "int" "bool" = some false by decide +kernel), false, rfl, ?_⟩
        refine iteF ?_
        have second : ∀ r1 : Bool, r1 = loB lo i → (if r1 = true then tOrV (tIsN (tVar 2)) (tLe (tVar 0) (tVar 2)) (L2.start N_is_integer [V.int i, oI lo, oI hi]) H Q else Q (.bl false) H) := by
          intro r1 e1
          cases r1 with
          | false =>
            refine iteF ?_
            have e : isIntD (.int i) lo hi = false := by
              show (loB lo i && hiB hi i) = _
              rw [← e1]
              rfl
            rw [e] at hq
            exact hq
          | true =>
            refine iteT ?_
            have e : isIntD (.int i) lo hi = hiB hi i := by
              show (loB lo i && hiB hi i) = _
              rw [← e1]
              rfl
            rw [e] at hq
            cases hi with
            | none =>
              refine ⟨.non, rfl, _, rfl, ?_⟩
              rw [if_pos (by decide)]
              exact hq
            | some h =>
              refine ⟨.int h, rfl, _, rfl, ?_⟩
              rw [if_neg (by simp)]
              exact ⟨_, rfl, _, rfl, _, _, rfl, rfl, hq⟩
        cases lo with
        | none =>
          refine ⟨.non, rfl, _, rfl, ?_⟩
          rw [if_pos (by decide)]
          exact ⟨_, rfl, second true rfl⟩
        | some l =>
          refine ⟨.int l, rfl, _, rfl, ?_⟩
          rw [if_neg (by simp)]
          exact ⟨_, rfl, _, rfl, _, _, rfl, rfl, _, rfl, second _ rfl⟩
      · cases hd
        refine ⟨_, rfl, F, .bl c, .bool c, "bool", true, rfl, .bl c, (show kitB "bool" "bool" = some true by decide +kernel), true, rfl, ?_⟩
        refine iteT ?_
        exact hq
end
end G

set_option Elab.async false
set_option linter.all false
set_option maxRecDepth 100000
set_option maxHeartbeats 4000000
namespace G
open PySem PySem.Spec PyProof.Rows L2 U
open PySem.W (Frag)
section
variable {P : Program} {w : World} {K : Frag} {mg : Str → Option Value} {base : Heap}
theorem has_is_integer (F : Fn2 K mg "is_integer" s_is_integer) (gI : mg "isinstance" = none) (gi : mg "int" = none) (gb : mg "bool" = none) : Has P w K mg base 1 "is_integer" P_is_integer [] sp_is_integer ∧ Has P w K mg base 1 "is_integer" P_is_integer [.non, .non] sp_is_integer := by
  obtain ⟨⟨fd, F⟩, g⟩ := F
  obtain ⟨ds, v1, b1⟩ := F.binds1 (ps := P_is_integer) 3 2 (by simp) rfl fun T kV doc pm an cdv ct us its h1 h2 => match us, h1, its, h2 with | [_, _, _], _, [_, _], _ => ⟨_, rfl, rfl⟩
  obtain ⟨ds2, v2, b2⟩ := F.binds1 (ps := P_is_integer) 1 0 (by simp) rfl fun T kV doc pm an cdv ct us its h1 h2 => match us, h1, its, h2 with | [_], _, [_, _], _ => ⟨_, rfl, rfl⟩
  exact ⟨⟨⟨fd, ds, ok_is_integer F gI gi gb, F.kp, v1, b1⟩, g⟩, ⟨⟨fd, ds2, ok_is_integer F gI gi gb, F.kp, v2, b2⟩, g⟩⟩
/-! ### is_day -/
def isDayD (d : PyData) : Bool := isIntD d (some 0) (some 99)
def sp_is_day : Sp := fun vs H Q _ => ∃ (F : Addr → Prop) (v : V) (d : PyData), vs = [v] ∧ Dq F H v d ∧ Q (.bl (isDayD d)) H
theorem has_is_day (F : Fn K mg "is_day" s_is_day) (h : Has P w K mg base 1 "is_integer" P_is_integer [] sp_is_integer) (c : CI mg "LAST_DAY" 99) : Has P w K mg base 2 "is_day" P_is_day [] sp_is_day := by
  obtain ⟨⟨fd, F⟩, g⟩ := F
  refine ⟨⟨fd, [], ?_, F.kp, .nil, F.bindsN fun _ _ _ _ _ _ us hl => match us, hl with | [_], _ => rfl⟩, g⟩
  refine F.ok sc_is_day (fun vs H Q E h => ?_) (fun cdv A outer s H vs Q E hr h' => ?_)
  · obtain ⟨F, v, d, rfl, _⟩ := h
    rfl
  · obtain ⟨F, v, d, rfl, hd, hq⟩ := h'
    refine ⟨_, PSs.nox (pss_one (ps_ret (pe_has h hr (pa_cons (pv 0) (pa_cons pe_int (pa_cons (pe_ci c) pa_nil)))))), ?_⟩
    exact ⟨_, rfl, F, v, d, some 0, some 99, rfl, hd, hq⟩
/-! ### is_tuple -/
def isTupD (d : PyData) (n : Int) : Bool := match d with
  | .tuple ds => decide ((ds.length : Int) = n)
  | _ => false
def sp_is_tuple : Sp := fun vs H Q _ => ∃ (F : Addr → Prop) (v : V) (d : PyData) (n : Int), vs = [v, .int n] ∧ Dq F H v d ∧ Q (.bl (isTupD d n)) H
theorem kit_tup (d : PyData) : ∃ b, kitB (tyD d) "tuple" = some b ∧ (b = false → ∀ n, isTupD d n = false) ∧ (b = true → ∃ ds, d = .tuple ds) := by
  cases d with
  | tuple x => exact ⟨true, (show kitB "tuple" "tuple" = some true by decide +kernel), (fun z => Bool.noConfusion z), fun _ => ⟨x, rfl⟩⟩
  | int i => exact ⟨false, (show kitB "int" "tuple" = some false by decide +kernel), fun _ _ => rfl, fun z => Bool.noConfusion z⟩
  | bool b => exact ⟨false, (show kitB "bool" "tuple" = some false by decide +kernel), fun _ _ => rfl, fun z => Bool.noConfusion z⟩
  | none => exact ⟨false, (show kitB "NoneType" "tuple" = some false by decide +kernel), fun _ _ => rfl, fun z => Bool.noConfusion z⟩
  | str x => exact ⟨false, (show kitB "str" "tuple" = some false by decide +kernel), fun _ _ => rfl, fun z => Bool.noConfusion z⟩
  | list x => exact ⟨false, (show kitB "list" "tuple" = some false by decide +kernel), fun _ _ => rfl, fun z => Bool.noConfusion z⟩
  | dict x => exact ⟨false, (show kitB "dict" "tuple" = some false by decide +kernel), fun _ _ => rfl, fun z => Bool.noConfusion z⟩
theorem dec_int {i j : Int} : decide (V.int i = V.int j) = decide (i = j) := by
  by_cases h : i = j
  · rw [decide_eq_true h, decide_eq_true (by rw [h])]
  · rw [decide_eq_false h, decide_eq_false fun z => h (V.int.inj z)]
theorem dec_str {i j : Str} : decide (V.str i = V.str j) = decide (i = j) := by
  by_cases h : i = j
  · rw [decide_eq_true h, decide_eq_true (by rw [h])]
  · rw [decide_eq_false h, decide_eq_false fun z => h (V.str.inj z)]
theorem has_is_tuple (F : Fn K mg "is_tuple" s_is_tuple) (gI : mg "isinstance" = none) (gt : mg "tuple" = none) (gL : mg "len" = none) : Has P w K mg base 1 "is_tuple" P_is_tuple [] sp_is_tuple := by
  obtain ⟨⟨fd, F⟩, g⟩ := F
  refine ⟨⟨fd, [], ?_, F.kp, .nil, F.bindsN fun _ _ _ _ _ _ us hl => match us, hl with | [_, _], _ => rfl⟩, g⟩
  refine F.ok sc_is_tuple (fun vs H Q E h => ?_) (fun cdv A outer s H vs Q E hr h' => ?_)
  · obtain ⟨F, v, d, n, rfl, _⟩ := h
    rfl
  · obtain ⟨F, v, d, n, rfl, hd, hq⟩ := h'
    refine ⟨_, PSs.nox (pss_one (ps_ret (pe_and (pe_callB call_isiD (by rfl) gI (by decide +kernel) (pa_cons (pv 0) (pa_cons (pe_bltn (by rfl) gt (v := .ty "tuple") (u := .type "tuple") (by decide +kernel) rfl) pa_nil)))
      (pe_one (pe_cmpR op_eq (pe_callB call_len_seq (by rfl) gL PySem.boot_len (pa_cons (pv 0) pa_nil)) (pv 1) (nomark _)))))), ?_⟩
    obtain ⟨b, hb, hn, hy⟩ := kit_tup d
    refine ⟨_, rfl, F, v, d, "tuple", b, rfl, hd, hb, b, rfl, ?_⟩
    cases b with
    | false =>
      refine iteF ?_
      rw [← hn rfl n]
      exact hq
    | true =>
      refine iteT ?_
      obtain ⟨ds, rfl⟩ := hy rfl
      cases hd with
      | @tup a xs _ f e all =>
        refine ⟨_, rfl, a, xs, rfl, .inr (.inl (.inl e)), _, rfl, rfl, ?_⟩
        have z : isTupD (.tuple ds) n = decide (V.int (xs.length : Int) = V.int n) := by
          show decide ((ds.length : Int) = n) = _
          rw [dec_int, all.len]
        rw [z] at hq
        exact hq
/-! ### is_word -/
def WordsAt (K : Frag) (H : Hp) (a : Addr) (ws : List Str) : Prop := SqT K H a (ws.map V.str) ∨ ∃ kvs : List (Key × V), H a = some (.dK kvs) ∧ kvs.map (·.1) = ws.map Sum.inr
def isWordD (d : PyData) (ws : List Str) : Bool := match d with
  | .str s => decide (s ∈ ws)
  | _ => false
def sp_is_word (K : Frag) : Sp := fun vs H Q _ => ∃ (F : Addr → Prop) (v : V) (d : PyData) (a : Addr) (ws : List Str), vs = [v, .ref a] ∧ Dq F H v d ∧ WordsAt K H a ws ∧ Q (.bl (isWordD d ws)) H
theorem kit_str (d : PyData) : ∃ b, kitB (tyD d) "str" = some b ∧ (b = false → ∀ ws, isWordD d ws = false) ∧ (b = true → ∃ s, d = .str s) := by
  cases d with
  | str x => exact ⟨true, (show kitB "str" "str" = some true by decide +kernel), (fun z => Bool.noConfusion z), fun _ => ⟨x, rfl⟩⟩
  | int i => exact ⟨false, (show kitB "int" "str" = some false by decide +kernel), fun _ _ => rfl, fun z => Bool.noConfusion z⟩
  | bool b => exact ⟨false, (show kitB "bool" "str" = some false by decide +kernel), fun _ _ => rfl, fun z => Bool.noConfusion z⟩
  | none => exact ⟨false, (show kitB "NoneType" "str" = some false by decide +kernel), fun _ _ => rfl, fun z => Bool.noConfusion z⟩
  | tuple x => exact ⟨false, (show kitB "tuple" "str" = some false by decide +kernel), fun _ _ => rfl, fun z => Bool.noConfusion z⟩
  | list x => exact ⟨false, (show kitB "list" "str" = some false by decide +kernel), fun _ _ => rfl, fun z => Bool.noConfusion z⟩
  | dict x => exact ⟨false, (show kitB "dict" "str" = some false by decide +kernel), fun _ _ => rfl, fun z => Bool.noConfusion z⟩
theorem inV_strs (s : Str) : ∀ ws : List Str, inV (.str s) (ws.map V.str) = decide (s ∈ ws)
  | [] => rfl
  | x :: ws => by
    show (eqV (.str x) (.str s) || inV (.str s) (ws.map V.str)) = _
    rw [inV_strs s ws]
    show ((x == s) || decide (s ∈ ws)) = _
    by_cases h : x = s
    · subst h
      simp
    · have h' : ¬ s = x := fun z => h z.symm
      simp [h, h']
theorem flat_strs (ws : List Str) : (ws.map V.str).all flatV = true := by
  rw [List.all_eq_true]
  intro v hv
  obtain ⟨x, _, rfl⟩ := List.mem_map.mp hv
  rfl
theorem valV_some : ∀ {kvs : List (Key × V)} {ws : List Str} (h : kvs.map (·.1) = ws.map Sum.inr) (s : Str), (valV kvs (Sum.inr s)).isSome = decide (s ∈ ws)
  | [], [], _, s => rfl
  | [], _ :: _, h, s => by simp at h
  | _ :: _, [], h, s => by simp at h
  | (k, v) :: kvs, x :: ws, h, s => by
    rw [List.map_cons, List.map_cons] at h
    obtain ⟨h1, h2⟩ := List.cons.inj h
    have h1 : k = Sum.inr x := h1
    subst h1
    have ih := valV_some h2 s
    unfold valV at ih ⊢
    by_cases e : x = s
    · subst e
      simp
    · have e1 : ¬ (Sum.inr x : Key) = Sum.inr s := fun z => e (Sum.inr.inj z)
      have e2 : ¬ s = x := fun z => e z.symm
      rw [List.find?_cons]
      rw [decide_eq_false e1]
      simp only [List.mem_cons, e2, false_or]
      exact ih
theorem has_is_word (F : Fn K mg "is_word" s_is_word) (gI : mg "isinstance" = none) (gt : mg "str" = none) : Has P w K mg base 1 "is_word" P_is_word [] (sp_is_word K) := by
  obtain ⟨⟨fd, F⟩, g⟩ := F
  refine ⟨⟨fd, [], ?_, F.kp, .nil, F.bindsN fun _ _ _ _ _ _ us hl => match us, hl with | [_, _], _ => rfl⟩, g⟩
  refine F.ok sc_is_word (fun vs H Q E h => ?_) (fun cdv A outer s H vs Q E hr h' => ?_)
  · obtain ⟨F, v, d, a, ws, rfl, _⟩ := h
    rfl
  · obtain ⟨F, v, d, a, ws, rfl, hd, hw, hq⟩ := h'
    refine ⟨_, PSs.nox (pss_one (ps_ret (pe_and (pe_callB call_isiD (by rfl) gI (by decide +kernel) (pa_cons (pv 0) (pa_cons (pe_bltn (by rfl) gt (v := .ty "str") (u := .type "str") (by decide +kernel) rfl) pa_nil)))
      (pe_one (pe_cmp (PC.or (pc_op op_in_seq (pv 0) (pv 1)) (pc_din (hu_of hr) (pv 0) (pv 1))) rfl))))), ?_⟩
    obtain ⟨b, hb, hn, hy⟩ := kit_str d
    refine ⟨_, rfl, F, v, d, "str", b, rfl, hd, hb, b, rfl, ?_⟩
    cases b with
    | false =>
      refine iteF ?_
      rw [← hn rfl ws]
      exact hq
    | true =>
      refine iteT ?_
      obtain ⟨x, rfl⟩ := hy rfl
      cases hd
      rcases hw with hw | ⟨kvs, ha, hk⟩
      · refine Or.inl ⟨_, rfl, _, rfl, a, _, rfl, .inr hw, rfl, flat_strs ws, ?_⟩
        rw [show (if false = true then !inV (.str x) (ws.map V.str) else inV (.str x) (ws.map V.str)) = inV (.str x) (ws.map V.str) from rfl, inV_strs]
        exact hq
      · refine Or.inr ⟨_, rfl, _, rfl, a, _, rfl, DGet.k (k := Sum.inr x) ha, ?_⟩
        rw [valV_some hk]
        exact hq
end
end G

set_option Elab.async false
set_option linter.all false
set_option maxRecDepth 100000
set_option maxHeartbeats 4000000
namespace G
open PySem PySem.Spec PyProof.Rows L2 U
open PySem.W (Frag)
section
variable {P : Program} {w : World} {K : Frag} {mg : Str → Option Value} {base : Heap}
/-! ### is_name -/
def sLetters : Str := "abcdefghijklmnopqrstuvwxyz"
def sFigures : Str := "0123456789"
def allIn (w L : Str) : Bool := w.cps.toList.all fun c => decide (c ∈ L.cps.toList)
def isName (w : Str) : Bool := decide (1 ≤ (w.length : Int)) && (decide ((w.length : Int) ≤ 8) && allIn w sLetters)
def sp_is_name : Sp := fun vs H Q _ => ∃ x : Str, vs = [.str x] ∧ x.length ≤ 16000000 ∧ RetS H (.bl (isName x)) Q
theorem yes_if' {σ : L2.St} {H : Hp} {A B : Hp → Prop} (h : A H) : tYes σ H (fun b H3 => if b = true then A H3 else B H3) := (iteT h : if true = true then A H else B H)
theorem has_is_name (F : Fn K mg "is_name" s_is_name) (gL : mg "len" = none) (gA : mg "all" = none) (cM : CI mg "MOST_LETTERS" 8) (cL : CS mg "LETTERS" sLetters) : Has P w K mg base 1 "is_name" P_is_name [] sp_is_name := by
  obtain ⟨⟨fd, F⟩, g⟩ := F
  refine ⟨⟨fd, [], ?_, F.kp, .nil, F.bindsN fun _ _ _ _ _ _ us hl => match us, hl with | [_], _ => rfl⟩, g⟩
  refine F.ok sc_is_name (fun vs H Q E h => ?_) (fun cdv A outer s H vs Q E hr h' => ?_)
  · obtain ⟨x, rfl, _⟩ := h
    rfl
  · obtain ⟨x, rfl, hx, hq⟩ := h'
    refine ⟨_, PSs.nox (pss_one (ps_ret (pe_and (pe_chain op_le op_le pe_int (pe_callB call_len_str (by rfl) gL PySem.boot_len (pa_cons (pv 0) pa_nil)) (pe_ci cM))
      (pe_one (pe_callB (cr_all rfl) (by rfl) gA (by decide +kernel) (pa_cons (pe_lc (own := [("letter", 1)]) (g := gName 1) (tt := tYes) rfl sc_is_name.nd (pi_str (pv 0)) (blkOk_by (N := N_is_name) (sc := defScope s_is_name) (by decide +kernel))
        (fun _ _ _ _ _ => pg_name (i := 1) sc_is_name.nd rfl (Or.inl rfl)) (fun _ _ _ _ _ => pts_nil) (fun _ _ _ _ _ => pe_cmpR op_in_sign (pv 1) (pe_cs cL) (by rfl))) pa_nil)))))), ?_⟩
    have hz : x.length ≤ sizeLine := by
      rw [sizeLine_eq]
      omega
    refine ⟨_, rfl, x, rfl, hz, _, _, rfl, rfl, _, rfl, ?_⟩
    by_cases h1 : (1 : Int) ≤ (x.length : Int)
    · rw [decide_eq_true h1]
      refine iteT ?_
      refine ⟨_, _, rfl, rfl, _, rfl, ?_⟩
      by_cases h2 : (x.length : Int) ≤ 8
      · rw [decide_eq_true h2]
        refine iteT ?_
        refine ⟨_, rfl, x, rfl, fun D nD => lc_it walk_str (fun i Hc => Same H Hc ∧ Hc D = some (.lst (((x.cps.toList.take i).map fun c => decide (c ∈ sLetters.cps.toList)).map V.bl))) ⟨same_new nD, upd_same⟩ (fun _ _ _ _ => True.intro) ?_ ?_⟩
        · rintro i v Hc Hc' hi ⟨sc, hD⟩ ⟨rfl, c, hc, rfl⟩
          refine ⟨rfl, yes_if' ?_⟩
          refine ⟨_, rfl, c, sLetters, rfl, rfl, _, hD, ?_, ?_, ?_⟩
          · rw [List.length_map, List.length_map, List.length_take, sizeLine_eq]
            have : i < x.length := hi
            omega
          · exact fun b o e => by
              rw [upd_ne (ne_of_none e nD)]
              exact sc b o e
          · rw [upd_same]
            have hc' : x.cps.toList[i]? = some c := by
              rw [Array.getElem?_toList]
              exact hc
            rw [List.take_add_one, hc', List.map_append, List.map_append]
            rfl
        · rintro Hc ⟨sc, hD⟩
          refine ⟨D, _, rfl, SqL.of hD, ?_⟩
          have e : isName x = ((x.cps.toList.take x.cps.size).map fun c => decide (c ∈ sLetters.cps.toList)).all id := by
            unfold isName allIn
            rw [decide_eq_true h1, decide_eq_true h2, List.take_of_length_le (Nat.le_of_eq Array.length_toList), List.all_map]
            rfl
          rw [← e]
          exact hq Hc sc
      · rw [decide_eq_false h2]
        refine iteF ?_
        have e : isName x = false := by
          unfold isName
          rw [decide_eq_false h2]
          simp
        rw [e] at hq
        exact hq H (Same.refl H)
    · rw [decide_eq_false h1]
      refine iteF ?_
      refine ⟨_, rfl, ?_⟩
      refine iteF ?_
      have e : isName x = false := by
        unfold isName
        rw [decide_eq_false h1]
        rfl
      rw [e] at hq
      exact hq H (Same.refl H)
end
end G

set_option Elab.async false
set_option linter.all false
set_option maxRecDepth 100000
set_option maxHeartbeats 4000000
namespace G
open PySem PySem.Spec PyProof.Rows L2 U
open PySem.W (Frag)
/-! ### integer_in: the mathematics -/
def figs (x : Str) : Str := Txt.removeprefix x "-"
theorem figs_cases (x : Str) : (∃ r, x.cps.toList = 45 :: r ∧ (figs x).cps.toList = r) ∨ ((∀ r, x.cps.toList ≠ 45 :: r) ∧ figs x = x) := by
  unfold figs
  rw [StrLaws.removeprefix_eq, StrLaws.subAt_eq]
  cases h : x.cps.toList with
  | nil =>
    right
    refine ⟨(fun r z => by cases z), ?_⟩
    have hl : x.length = 0 := by
      rw [TL.len_tl]
      show x.cps.toList.length = 0
      rw [h]
      rfl
    rw [if_neg]
    rw [hl]
    decide
  | cons c r =>
    have hl : x.length = r.length + 1 := by
      rw [TL.len_tl]
      show x.cps.toList.length = _
      rw [h]
      rfl
    by_cases hc : c = 45
    · subst hc
      left
      refine ⟨r, rfl, ?_⟩
      rw [if_pos]
      · show ((45 :: r).drop 1).take (x.length - 1) = r
        rw [hl]
        exact List.take_of_length_le (Nat.le_refl _)
      · rw [hl]
        show (decide (0 + 1 ≤ r.length + 1) && (((45 :: r).drop 0).take 1 == [45])) = true
        rw [decide_eq_true (by omega)]
        rfl
    · right
      refine ⟨(fun r' z => hc (List.cons.inj z).1), ?_⟩
      rw [if_neg]
      show ¬ (decide (0 + 1 ≤ x.length) && (((c :: r).drop 0).take 1 == [45])) = true
      have e : (((c :: r).drop 0).take 1 == [45]) = false := by
        show ([c] == [45]) = false
        simp [hc]
      rw [e, Bool.and_false]
      exact Bool.false_ne_true
theorem figs_len (x : Str) : (figs x).length ≤ x.length := by
  rcases figs_cases x with ⟨r, h1, h2⟩ | ⟨_, h⟩
  · rw [TL.len_tl, TL.len_tl]
    show (figs x).cps.toList.length ≤ x.cps.toList.length
    rw [h1, h2]
    simp
  · rw [h]
    exact Nat.le_refl _
theorem fig_digit {c : Nat} (h : c ∈ sFigures.cps.toList) : 48 ≤ c ∧ c ≤ 57 := by
  have e : sFigures.cps.toList = [48, 49, 50, 51, 52, 53, 54, 55, 56, 57] := by decide +kernel
  rw [e] at h
  simp at h
  omega
theorem digit_fig {c : Nat} (h : 48 ≤ c ∧ c ≤ 57) : c ∈ sFigures.cps.toList := by
  have e : sFigures.cps.toList = [48, 49, 50, 51, 52, 53, 54, 55, 56, 57] := by decide +kernel
  rw [e]
  simp
  omega
/-- what integer_in tells -/
def integerIn (x : Str) : Option Int :=
  if figs x = "" then none else if allIn (figs x) sFigures = false then none else if x = "-0" then none else
  if figs x = "0" then intText? x else if (figs x).cps.toList.head? = some 48 then none else intText? x
theorem reads {x : Str} (h0 : figs x ≠ "") (h1 : allIn (figs x) sFigures = true) (hl : x.length ≤ 600) : ∃ n, intText? x = some n := by
  have ne : (figs x).cps.toList ≠ [] := fun z => h0 (TL.ext_tl (by show (figs x).cps.toList = _; rw [z]; decide +kernel))
  have dg : NumText.AllDigits (figs x).cps.toList := fun c hc => fig_digit (of_decide_eq_true (List.all_eq_true.mp h1 c hc))
  rcases figs_cases x with ⟨r, e1, e2⟩ | ⟨_, e⟩
  · rw [e2] at ne dg
    exact ⟨_, PySem.intText_neg e1 dg ne (by omega)⟩
  · rw [e] at ne dg
    exact ⟨_, PySem.intText_digits dg ne (by omega)⟩
section
variable {P : Program} {w : World} {K : Frag} {mg : Str → Option Value} {base : Heap}
def sp_integer_in : Sp := fun vs H Q _ => ∃ x : Str, vs = [.str x] ∧ x.length ≤ 600 ∧ RetS H (oI (integerIn x)) Q
theorem has_integer_in (F : Fn K mg "integer_in" s_integer_in) (gA : mg "all" = none) (gi : mg "int" = none) (cM : CS mg "MINUS" "-") (cF : CS mg "FIGURES" sFigures) : Has P w K mg base 1 "integer_in" P_integer_in [] sp_integer_in := by
  obtain ⟨⟨fd, F⟩, g⟩ := F
  refine ⟨⟨fd, [], ?_, F.kp, .nil, F.bindsN fun _ _ _ _ _ _ us hl => match us, hl with | [_], _ => rfl⟩, g⟩
  refine F.ok sc_integer_in (fun vs H Q E h => ?_) (fun cdv A outer s H vs Q E hr h' => ?_)
  · obtain ⟨x, rfl, _⟩ := h
    rfl
  · obtain ⟨x, rfl, hx, hq⟩ := h'
    have hz : x.length ≤ sizeLine := by
      rw [sizeLine_eq]
      omega
    have hz2 : (figs x).length ≤ sizeLine := Nat.le_trans (figs_len x) hz
    refine ⟨_, PSs.nox (pss_cons (ps_set (i := 1) sc_integer_in.nd rfl (Or.inl rfl) (pe_bm PySem.F.plainAttrs_str PySem.F.slot_str_removeprefix PySem.F.type_str_removeprefix mt_removeprefix (pv 0) (pa_cons (pe_cs cM) pa_nil)))
      (pss_cons (ps_if (PW.pt (pw_or (pt_cmpR op_eq (pv 1) pe_str (nomark _)) (pw_or (pt_not (pt_val (pe_callB (cr_all rfl) (by rfl) gA (by decide +kernel) (pa_cons (pe_lc (own := [("figure", 2)]) (g := gName 2) (tt := tYes) rfl sc_integer_in.nd (pi_str (pv 1)) (blkOk_by (N := N_integer_in) (sc := defScope s_integer_in) (by decide +kernel))
        (fun _ _ _ _ _ => pg_name (i := 2) sc_integer_in.nd rfl (Or.inl rfl)) (fun _ _ _ _ _ => pts_nil) (fun _ _ _ _ _ => pe_cmpR op_in_sign (pv 2) (pe_cs cF) (by rfl))) pa_nil)))) (pw_or1 (pt_cmpR op_eq (pv 0) pe_str (nomark _)))))) (pss_one (ps_ret pe_non)) pss_nil)
      (pss_one (ps_ret (pe_ifExp (PW.pt (pw_or (pt_cmpR op_eq (pv 1) pe_str (nomark _)) (pw_or1 (pt_cmpR op_ne (pe_ix ix_str (pv 1) pe_int (fun _ _ => rfl)) pe_str (nomark _))))) (pe_callTy call_int_str (by rfl) gi PyProof.Rows.boot_int (pa_cons (pv 0) pa_nil)) pe_non))))), ?_⟩
    refine ⟨_, rfl, rfl, x, _, rfl, rfl, hz, ?_⟩
    refine ⟨_, rfl, rfl, _, rfl, ?_⟩
    by_cases h0 : figs x = ""
    · rw [show decide (V.str (Txt.removeprefix x "-") = V.str "") = true from decide_eq_true (by show V.str (figs x) = _; rw [h0])]
      refine iteT ?_
      refine iteT ?_
      have e : integerIn x = none := by
        unfold integerIn
        rw [if_pos h0]
      rw [e] at hq
      exact hq H (Same.refl H)
    rw [show decide (V.str (Txt.removeprefix x "-") = V.str "") = false from decide_eq_false fun z => h0 (V.str.inj z)]
    refine iteF ?_
    refine ⟨_, rfl, figs x, rfl, fun D nD => lc_it walk_str (fun i Hc => Same H Hc ∧ Hc D = some (.lst ((((figs x).cps.toList.take i).map fun c => decide (c ∈ sFigures.cps.toList)).map V.bl))) ⟨same_new nD, upd_same⟩ (fun _ _ _ _ => True.intro) ?_ ?_⟩
    · rintro i v Hc Hc' hi ⟨sc, hD⟩ ⟨rfl, c, hc, rfl⟩
      refine ⟨rfl, yes_if' ?_⟩
      refine ⟨_, rfl, c, sFigures, rfl, rfl, _, hD, ?_, ?_, ?_⟩
      · rw [List.length_map, List.length_map, List.length_take]
        have : i < (figs x).length := hi
        omega
      · exact fun b o e => by
          rw [upd_ne (ne_of_none e nD)]
          exact sc b o e
      · rw [upd_same]
        have hc' : (figs x).cps.toList[i]? = some c := by
          rw [Array.getElem?_toList]
          exact hc
        rw [List.take_add_one, hc', List.map_append, List.map_append]
        rfl
    · rintro Hc ⟨sc, hD⟩
      refine ⟨D, _, rfl, SqL.of hD, _, rfl, ?_⟩
      have e1 : (((figs x).cps.toList.take (figs x).cps.size).map fun c => decide (c ∈ sFigures.cps.toList)).all id = allIn (figs x) sFigures := by
        unfold allIn
        rw [List.take_of_length_le (Nat.le_of_eq Array.length_toList), List.all_map]
        rfl
      rw [e1]
      by_cases h1 : allIn (figs x) sFigures = false
      · rw [h1]
        refine iteT ?_
        refine iteT ?_
        have e : integerIn x = none := by
          unfold integerIn
          rw [if_neg h0, if_pos h1]
        rw [e] at hq
        exact hq Hc sc
      have h1' : allIn (figs x) sFigures = true := by simpa using h1
      rw [h1']
      refine iteF ?_
      refine ⟨_, rfl, rfl, _, rfl, ?_⟩
      by_cases h2 : x = "-0"
      · rw [show decide (V.str x = V.str "-0") = true from decide_eq_true (by rw [h2])]
        refine iteT ?_
        have e : integerIn x = none := by
          unfold integerIn
          rw [if_neg h0, if_neg h1, if_pos h2]
        rw [e] at hq
        exact hq Hc sc
      rw [show decide (V.str x = V.str "-0") = false from decide_eq_false fun z => h2 (V.str.inj z)]
      refine iteF ?_
      obtain ⟨n, hn⟩ := reads h0 h1' hx
      refine ⟨_, rfl, rfl, _, rfl, ?_⟩
      by_cases h3 : figs x = "0"
      · rw [show decide (V.str (Txt.removeprefix x "-") = V.str "0") = true from decide_eq_true (by show V.str (figs x) = _; rw [h3])]
        refine iteT ?_
        refine iteT ?_
        have e : integerIn x = some n := by
          unfold integerIn
          rw [if_neg h0, if_neg h1, if_neg h2, if_pos h3]
          exact hn
        rw [e] at hq
        exact ⟨_, rfl, x, n, rfl, hn, by omega, hq Hc sc⟩
      rw [show decide (V.str (Txt.removeprefix x "-") = V.str "0") = false from decide_eq_false fun z => h3 (V.str.inj z)]
      refine iteF ?_
      cases hh : (figs x).cps.toList with
      | nil => exact absurd (TL.ext_tl (by show (figs x).cps.toList = _; rw [hh]; decide +kernel)) h0
      | cons c r =>
        refine ⟨_, rfl, figs x, 0, c, rfl, rfl, hz2, ?_, rfl, _, rfl, ?_⟩
        · rw [hh]
          exact atI_nat (j := 0) rfl
        have ec : (!decide (V.str (⟨#[c]⟩ : Str) = V.str "0")) = !decide (c = 48) := by
          congr 1
          by_cases hc : c = 48
          · rw [decide_eq_true hc, decide_eq_true (by rw [hc]; decide +kernel)]
          · rw [decide_eq_false hc, decide_eq_false fun z => hc ?_]
            have z1 := congrArg (fun s : Str => s.cps.toList) (V.str.inj z)
            have z2 : [c] = (Str.ofString "0").cps.toList := z1
            have z3 : (Str.ofString "0").cps.toList = [48] := by decide +kernel
            rw [z3] at z2
            exact (List.cons.inj z2).1
        rw [ec]
        by_cases hc : c = 48
        · rw [decide_eq_true hc]
          refine iteF ?_
          have e : integerIn x = none := by
            unfold integerIn
            rw [if_neg h0, if_neg h1, if_neg h2, if_neg h3, hh, hc]
            rfl
          rw [e] at hq
          exact hq Hc sc
        · rw [decide_eq_false hc]
          refine iteT ?_
          have e : integerIn x = some n := by
            unfold integerIn
            rw [if_neg h0, if_neg h1, if_neg h2, if_neg h3, hh]
            show (if some c = some 48 then none else intText? x) = some n
            rw [if_neg (fun z => hc (Option.some.inj z))]
            exact hn
          rw [e] at hq
          exact ⟨_, rfl, x, n, rfl, hn, by omega, hq Hc sc⟩
end
end G

set_option Elab.async false
set_option linter.all false
set_option maxRecDepth 100000
set_option maxHeartbeats 4000000
namespace U
open PySem PySem.Spec PyProof.Rows L2 PySem.Calls
open PySem.W (Frag)
/-! ### list(zip(xs, ys)) of two lists -/
theorem nN {a b : Nat} (h : ¬ a = b) : (a : Addr) ≠ (b : Addr) := h
theorem zip_no_len : typeLookup (.type "zip") "__len__" = pure none := by rw [typeLookup_type, builtinLookup_eq_fast]; kernel_rfl
theorem zip_no_hint : typeLookup (.type "zip") "__length_hint__" = pure none := by rw [typeLookup_type, builtinLookup_eq_fast]; kernel_rfl
section
variable {prog : Program} {w : World} {A : Around} {E : Value → Shared → Prop} {s : Shared}
theorem hint_zip {r : Addr} {Q : Bool → Shared → Prop} (hT : s.TypeIs (.ref r) "zip") (h : Q true s) : wpAny (model prog w) A (Builtin.List.listLengthHint (.ref r)) Q E s := by
  unfold Builtin.List.listLengthHint
  refine wpAny_bind (wpAny_specialOf hT zip_no_len ?_)
  wp_delta
  refine wpAny_ite_split (fun z => absurd z (by decide)) (fun _ => ?_)
  refine wpAny_ite_split (fun z => absurd z (by decide)) (fun _ => ?_)
  refine wpAny_bind (wpAny_specialOf hT zip_no_hint ?_)
  exact wpAny_pure h
/-- the pairs that lie above an address -/
structure Prs (ps : List (Value × Value)) (lo : Addr) (h : Heap) (as : List Addr) : Prop where
  up : as.Pairwise (· < ·)
  over : ∀ a ∈ as, lo < a
  is : ∀ (j : Nat) (a : Addr), as[j]? = some a → ∃ p, ps[j]? = some p ∧ IsPair h a p.1 p.2
theorem Prs.lt {ps : List (Value × Value)} {lo : Addr} {h : Heap} {as : List Addr} (g : Prs ps lo h as) {a : Addr} (ha : a ∈ as) : a < h.objs.size := by
  obtain ⟨j, hj⟩ := List.mem_iff_getElem?.mp ha
  obtain ⟨p, _, e⟩ := g.is j a hj
  exact Heap.lt_size e
/-- the cells of the zip, at rest or with its tuple out -/
def ZSt (I l1 l2 : Nat) (xs ys : Array Value) (i : Nat) (h : Heap) : Prop :=
  IsPair h (I + 2 : Nat) (.ref (I : Nat)) (.ref (I + 1 : Nat)) ∧ h.IsListIter (I : Nat) l1 i ∧ h.IsListIter (I + 1 : Nat) l2 i ∧ h.IsList l1 xs ∧ h.IsList l2 ys ∧
  ((IsZip h (I + 4 : Nat) (I + 2 : Nat) (I + 3 : Nat) .none ∧ ∃ a b, IsPair h (I + 3 : Nat) a b) ∨ ∃ (T : Addr) (f : Bool) (oT : Obj), IsZipHeld h (I + 4 : Nat) (I + 2 : Nat) (I + 3 : Nat) T f ∧ h.get? T = some oT ∧ I + 5 < T)
theorem ZSt.keep {I l1 l2 : Nat} {xs ys : Array Value} {i : Nat} {h h' : Heap} (st : ZSt I l1 l2 xs ys i h) (h1 : l1 < I) (h2 : l2 < I) (k : ∀ b o, b ≠ (I + 5 : Nat) → h.get? b = some o → h'.get? b = some o) : ZSt I l1 l2 xs ys i h' := by
  obtain ⟨a1, a2, a3, a4, a5, a6⟩ := st
  refine ⟨k _ _ (nN (by omega)) a1, a2.at fun o e => k _ o (nN (by omega)) e, a3.at fun o e => k _ o (nN (by omega)) e, a4.at fun o e => k _ o (nN (by omega)) e, a5.at fun o e => k _ o (nN (by omega)) e, ?_⟩
  rcases a6 with ⟨z, a, b, q⟩ | ⟨T, f, oT, z, q, r⟩
  · exact .inl ⟨k _ _ (nN (by omega)) z, a, b, k _ _ (nN (by omega)) q⟩
  · exact .inr ⟨T, f, oT, k _ _ (nN (by omega)) z, k _ _ (Nat.ne_of_gt r) q, r⟩
theorem zs_item {I l1 l2 : Nat} {xs ys : Array Value} {i : Nat} {x y : Value} {Q : Option Value → Shared → Prop} (h1 : l1 < I) (h2 : l2 < I) (st : ZSt I l1 l2 xs ys i s.heap) (hS : I + 5 < s.heap.objs.size) (hx : xs[i]? = some x) (hy : ys[i]? = some y)
    (hQ : ∀ h', ZSt I l1 l2 xs ys (i + 1) h' → IsPair h' s.heap.objs.size x y → h'.objs.size = s.heap.objs.size + 1 → (∀ b o, (b < I ∨ I + 4 < b) → s.heap.get? b = some o → h'.get? b = some o) → Q (some (.ref s.heap.objs.size)) { s with heap := h' }) :
    wpAny (model prog w) A (pyNext (.ref (I + 4 : Nat))) Q E s := by
  obtain ⟨a1, a2, a3, a4, a5, a6⟩ := st
  have D := PySem.W.ktu_apart I l1 l2 h1 h2
  rcases a6 with ⟨z, a, b, q⟩ | ⟨T, f, oT, z, q, r⟩
  · refine wpAny_pyNext_zip_item D z a1 q a2 a3 a4 a5 hx hy fun h' b1 b2 b3 b4 b5 b6 b7 => ?_
    have k : ∀ b o, (b < I ∨ I + 4 < b) → s.heap.get? b = some o → h'.get? b = some o := fun b o hb e => b7 b o (nN (by omega)) (nN (by omega)) (nN (by omega)) (nN (by omega)) e
    refine hQ h' ⟨?_, b3, b4, a4.at fun o e => k _ o (.inl h1) e, a5.at fun o e => k _ o (.inl h2) e, .inr ⟨s.heap.objs.size, false, _, b1, b5, hS⟩⟩ b5 b6 k
    exact b7 _ _ D.TIz D.TITO D.TIi1 D.TIi2 a1
  · refine wpAny_pyNext_zip_item_held D z q a1 a2 a3 a4 a5 hx hy fun h' b1 b3 b4 b5 b6 b7 => ?_
    have k : ∀ b o, (b < I ∨ I + 4 < b) → s.heap.get? b = some o → h'.get? b = some o := fun b o hb e => b7 b o (nN (by omega)) (nN (by omega)) (nN (by omega)) e
    refine hQ h' ⟨?_, b3, b4, a4.at fun o e => k _ o (.inl h1) e, a5.at fun o e => k _ o (.inl h2) e, .inr ⟨T, true, oT, b1, k _ _ (.inr (Nat.lt_trans (Nat.lt_succ_self _) r)) q, r⟩⟩ b5 b6 k
    exact b7 _ _ D.TIz D.TIi1 D.TIi2 a1
theorem zs_done {I l1 l2 : Nat} {xs ys : Array Value} {i : Nat} {Q : Option Value → Shared → Prop} (hh : A.handled = none) (h1 : l1 < I) (h2 : l2 < I) (st : ZSt I l1 l2 xs ys i s.heap) (he : xs[i]? = none ∨ ys[i]? = none)
    (hQ : ∀ h', (∀ b o, (b < I ∨ I + 4 < b) → s.heap.get? b = some o → h'.get? b = some o) → Q none { s with heap := h' }) : wpAny (model prog w) A (pyNext (.ref (I + 4 : Nat))) Q E s := by
  obtain ⟨a1, a2, a3, a4, a5, a6⟩ := st
  have D := PySem.W.ktu_apart I l1 l2 h1 h2
  rcases a6 with ⟨z, a, b, q⟩ | ⟨T, f, oT, z, q, r⟩
  · exact wpAny_pyNext_zip_end hh D z a1 q a2 a3 a4 a5 he fun h' k => hQ h' fun b o hb e => k b o (nN (by omega)) (nN (by omega)) (nN (by omega)) (nN (by omega)) e
  · exact wpAny_pyNext_zip_end_held hh D z q a1 a2 a3 a4 a5 he fun h' k => hQ h' fun b o hb e => k b o (nN (by omega)) (nN (by omega)) (nN (by omega)) e
end
section
variable {prog : Program} {w : World} {A : Around} {s : Shared} {R : Result → Shared → Prop}
theorem zip_get {xs ys : Array Value} {i : Nat} {x y : Value} (hx : xs[i]? = some x) (hy : ys[i]? = some y) : (xs.toList.zip ys.toList)[i]? = some (x, y) := by
  rw [← Array.getElem?_toList] at hx hy
  rw [List.getElem?_zip_eq_some]
  exact ⟨hx, hy⟩
theorem zl_loop {I l1 l2 : Nat} {xs ys : Array Value} (hh : A.handled = none) (h1 : l1 < I) (h2 : l2 < I) (hn : min xs.size ys.size ≤ sizeLine) (res : Value) {h₁ : Heap}
    (hR : ∀ h' tk acc c as, (∀ b o, b < I → h₁.get? b = some o → h'.get? b = some o) → h'.get? (I + 5 : Nat) = some { cls := .type "list", dict := none, data := .seq acc c, slots := #[] } → as.length = min xs.size ys.size → Prs (xs.toList.zip ys.toList) (I + 5 : Nat) h' as →
      acc.toList = as.map Value.ref → R (.ok (.ret res)) { s with heap := h', toks := tk }) :
    ∀ (k i : Nat) (h : Heap) (tk c : Nat) (acc : Array Value) (as : List Addr), min xs.size ys.size - i = k → i ≤ min xs.size ys.size → ZSt I l1 l2 xs ys i h → (∀ b o, b < I → h₁.get? b = some o → h.get? b = some o) →
      h.get? (I + 5 : Nat) = some { cls := .type "list", dict := none, data := .seq acc c, slots := #[] } → acc.toList = as.map Value.ref → as.length = i → Prs (xs.toList.zip ys.toList) (I + 5 : Nat) h as →
      codeAny (model prog w) A (.builtin "list.extend.loop" ⟨[.ref (I + 5 : Nat), .ref (I + 4 : Nat), res], []⟩) R { s with heap := h, toks := tk } := by
  intro k
  induction k with
  | zero =>
    intro i h tk c acc as hk hi st hkp hS hacc hal hG
    refine codeAny_builtin PySem.F.entry_extend_loop ?_
    rw [Around.under_plainId PySem.F.plain_extend_loop _]
    show wpAny _ A.in1 (pyNext (.ref (I + 4 : Nat)) >>= _) _ _ _
    refine wpAny_bind (zs_done (s := { s with heap := h, toks := tk }) (A := A.in1) hh h1 h2 st ?_ fun h' ke => ?_)
    · rcases Nat.le_total xs.size ys.size with q | q
      · exact .inl (Array.getElem?_eq_none (by omega))
      · exact .inr (Array.getElem?_eq_none (by omega))
    · refine wpAny_pure (hR h' tk acc c as (fun b o hb e => ke b o (.inl hb) (hkp b o hb e)) (ke _ _ (.inr (Nat.lt_succ_self _)) hS) (by omega) ⟨hG.up, hG.over, fun j a hj => ?_⟩ hacc)
      obtain ⟨p, e1, e2⟩ := hG.is j a hj
      exact ⟨p, e1, ke a _ (.inr (Nat.lt_trans (Nat.lt_succ_self _) (hG.over a (List.mem_of_getElem? hj)))) e2⟩
  | succ k ih =>
    intro i h tk c acc as hk hi st hkp hS hacc hal hG
    have lx : i < xs.size := by omega
    have ly : i < ys.size := by omega
    have hsz : acc.size = i := by
      rw [← Array.length_toList, hacc, List.length_map]
      exact hal
    refine codeAny_builtin PySem.F.entry_extend_loop ?_
    rw [Around.under_plainId PySem.F.plain_extend_loop _]
    show wpAny _ A.in1 (pyNext (.ref (I + 4 : Nat)) >>= _) _ _ _
    have hSl : I + 5 < h.objs.size := Heap.lt_size hS
    refine wpAny_bind (zs_item (s := { s with heap := h, toks := tk }) h1 h2 st hSl (Array.getElem?_eq_getElem lx) (Array.getElem?_eq_getElem ly) fun h' st' ht hz ke => ?_)
    dsimp only at ht hz ke ⊢
    have hS' := ke _ _ (.inr (Nat.lt_succ_self _)) hS
    have wr : ∀ b o, b ≠ (I + 5 : Nat) → h'.get? b = some o → (h'.update (I + 5 : Nat) (Obj.mapSeq (·.push (Value.ref h.objs.size)))).get? b = some o := fun b o hb e => (Heap.get?_update_other _ _ (Ne.symm hb)).trans e
    show wpAny _ A.in1 (updateSeq (I + 5 : Nat) (·.push (Value.ref h.objs.size)) >>= _) _ _ _
    refine wpAny_bind ?_
    refine wpAny_updateSeq hS' rfl (wpAny_pure ⟨plainId_quiet PySem.F.plain_extend_loop _, ih (i + 1) _ tk _ (acc.push (Value.ref h.objs.size)) (as ++ [h.objs.size]) (by omega) (by omega) (st'.keep h1 h2 wr)
      (fun b o hb e => wr b o (nN (by omega)) (ke b o (.inl hb) (hkp b o hb e))) (Heap.get?_update_self _ hS' rfl) ?_ ?_ ⟨?_, ?_, ?_⟩⟩) (by rw [hsz]; omega) (by show (acc.push (Value.ref h.objs.size)).size ≤ sizeLine + 1; rw [Array.size_push, hsz]; omega)
    · rw [Array.toList_push, hacc, List.map_append]
      rfl
    · rw [List.length_append, hal]
      rfl
    · refine List.pairwise_append.mpr ⟨hG.up, List.pairwise_singleton _ _, fun a ha b hb => ?_⟩
      rw [List.mem_singleton.mp hb]
      exact hG.lt ha
    · intro a ha
      rcases List.mem_append.mp ha with ha | ha
      · exact hG.over a ha
      · rw [List.mem_singleton.mp ha]
        exact hSl
    · intro j b hj
      rcases Nat.lt_trichotomy j as.length with q | q | q
      · rw [List.getElem?_append_left q] at hj
        obtain ⟨p, e1, e2⟩ := hG.is j b hj
        have ob := hG.over b (List.mem_of_getElem? hj)
        exact ⟨p, e1, wr b _ (Nat.ne_of_gt ob) (ke b _ (.inr (Nat.lt_trans (Nat.lt_succ_self _) ob)) e2)⟩
      · subst q
        have hb : h.objs.size = b := by simpa using hj
        subst hb
        refine ⟨_, zip_get (Array.getElem?_eq_getElem (by omega)) (Array.getElem?_eq_getElem (by omega)), ?_⟩
        subst hal
        exact wr _ _ (Nat.ne_of_gt hSl) ht
      · have none' : (as ++ [h.objs.size])[j]? = none := List.getElem?_eq_none (by rw [List.length_append, List.length_singleton]; omega)
        rw [none'] at hj
        cases hj
end
end U

set_option Elab.async false
set_option linter.all false
set_option maxRecDepth 100000
set_option maxHeartbeats 4000000
namespace U
open PySem PySem.Spec PyProof.Rows L2 PySem.Calls
open PySem.W (Frag)
section
variable {prog : Program} {w : World} {A : Around} {s : Shared}
theorem zl_extend {R : Result → Shared → Prop} {I l1 l2 : Nat} {xs ys : Array Value} {c₀ : Nat} (hh : A.handled = none) (h1 : l1 < I) (h2 : l2 < I) (hn : min xs.size ys.size ≤ sizeLine) (res : Value) (st : ZSt I l1 l2 xs ys 0 s.heap) (hz : IsZip s.heap (I + 4 : Nat) (I + 2 : Nat) (I + 3 : Nat) .none)
    (hS : s.heap.get? (I + 5 : Nat) = some { cls := .type "list", data := .seq #[] c₀ })
    (hR : ∀ h' tk acc c as, (∀ b o, b < I → s.heap.get? b = some o → h'.get? b = some o) → h'.get? (I + 5 : Nat) = some { cls := .type "list", dict := none, data := .seq acc c, slots := #[] } → as.length = min xs.size ys.size → Prs (xs.toList.zip ys.toList) (I + 5 : Nat) h' as →
      acc.toList = as.map Value.ref → R (.ok (.ret res)) { s with heap := h', toks := tk }) :
    wpAny (model prog w) A.in1 (Builtin.List.listExtendWith (.ref (I + 5 : Nat)) (.ref (I + 4 : Nat)) res)
      (fun fin s' => match fin with | .done f => R (.ok f) s' | .again c' => c'.quiet = true ∧ codeAny (model prog w) A c' R s') (fun e s' => R (.error e) s') s := by
  have hT : s.TypeIs (.ref (I + 4 : Nat)) "zip" := ⟨_, hz, rfl⟩
  unfold Builtin.List.listExtendWith
  refine wpAny_bind (wpAny_typeOf (T := "zip") hT ?_)
  have q1 : Builtin.List.listSameRef (.ref (I + 5 : Nat)) (.ref (I + 4 : Nat)) = false := by
    simp [Builtin.List.listSameRef]
  have q2 : (Value.type "zip" == Value.type "list") = false := by decide
  have q3 : (Value.type "zip" == Value.type "tuple") = false := by decide
  simp only [q1, q2, q3, Bool.or_false, Bool.false_eq_true, if_false]
  refine wpAny_bind (wpAny_pyIter_zip hz ?_)
  refine wpAny_bind (wpAny_holding (hint_zip hT ?_))
  refine wpAny_ite_split (fun _ => ?_) (fun z => absurd rfl z)
  refine wpAny_bind (wpAny_rule ?_)
  refine wpAny_bind ?_
  show wpAny _ _ (updateSeq (I + 5 : Nat) (·.push .none) >>= fun _ => updateSeq (I + 5 : Nat) (·.pop)) _ _ _
  refine wpAny_bind (wpAny_updateSeq hS rfl ?_)
  have e2 := Heap.get?_update_self (Obj.mapSeq (·.push Value.none)) hS rfl
  refine wpAny_updateSeq (hz := by seq_fits) e2 rfl ?_
  have e3 := Heap.get?_update_self (Obj.mapSeq (·.pop)) e2 rfl
  have kp : ∀ b o, b ≠ (I + 5 : Nat) → s.heap.get? b = some o → ((s.heap.update (I + 5 : Nat) (Obj.mapSeq (·.push Value.none))).update (I + 5 : Nat) (Obj.mapSeq (·.pop))).get? b = some o := fun b o hb e =>
    (Heap.get?_update_other _ _ (Ne.symm hb)).trans ((Heap.get?_update_other _ _ (Ne.symm hb)).trans e)
  refine wpAny_pure ⟨plainId_quiet PySem.F.plain_extend_loop _, zl_loop (s := s) (h₁ := s.heap) hh h1 h2 hn res hR _ 0 _ _ _ #[] [] rfl (Nat.zero_le _) (st.keep h1 h2 kp) (fun b o hb e => kp b o (nN (by omega)) e) e3 rfl rfl ⟨List.Pairwise.nil, (fun a ha => by cases ha), fun j a hj => by simp at hj⟩⟩
theorem zl_call {Q : Value → Shared → Prop} {E : Value → Shared → Prop} {I l1 l2 : Nat} {xs ys : Array Value} (hh : A.handled = none) (h1 : l1 < I) (h2 : l2 < I) (hn : min xs.size ys.size ≤ sizeLine) (hI : s.heap.objs.size = I + 5) (st : ZSt I l1 l2 xs ys 0 s.heap) (hz : IsZip s.heap (I + 4 : Nat) (I + 2 : Nat) (I + 3 : Nat) .none)
    (hQ : ∀ h' tk acc c as, (∀ b o, b < I → s.heap.get? b = some o → h'.get? b = some o) → h'.get? (I + 5 : Nat) = some { cls := .type "list", dict := none, data := .seq acc c, slots := #[] } → as.length = min xs.size ys.size → Prs (xs.toList.zip ys.toList) (I + 5 : Nat) h' as →
      acc.toList = as.map Value.ref → Q (.ref (I + 5 : Nat)) { s with heap := h', toks := tk }) :
    wpAny (model prog w) A (call (.type "list") [.ref (I + 4 : Nat)]) Q E s := by
  refine callType_codes (Q₁ := fun obj s₁ => obj = .ref s.heap.objs.size ∧ s₁ = { s with heap := s.heap.push { cls := .type "list", data := .seq #[] } }) PySem.F.called_list (PySem.F.typeCall_list_1 _) PySem.F.entry_list_init
    (code_list_new _ ⟨rfl, rfl⟩) fun obj s₁ h₁ => ?_
  obtain ⟨rfl, rfl⟩ := h₁
  have e0 : (s.heap.push { cls := .type "list", data := .seq #[] }).get? s.heap.objs.size = some { cls := .type "list", data := .seq #[] } := Heap.get?_push_size _ rfl
  refine ⟨⟨_, e0, rfl⟩, PySem.F.args_list_init_2 _ _, ?_⟩
  rw [hI] at e0 ⊢
  show wpAny _ _ (do let old ← Builtin.List.listItems (.ref (I + 5 : Nat)); Builtin.List.listUpdate (.ref (I + 5 : Nat)) (fun _ => #[]); letGo old.toList.reverse; Builtin.List.listExtendWith (.ref (I + 5 : Nat)) (.ref (I + 4 : Nat)) .none) _ _ _
  refine wpAny_bind ?_
  unfold Builtin.List.listItems
  refine wpAny_bind (wpAny_seqItems e0 rfl (wpAny_pure ?_))
  show wpAny _ _ (updateSeq (I + 5 : Nat) (fun _ => #[]) >>= fun _ => letGo (#[] : Array Value).toList.reverse >>= fun _ => Builtin.List.listExtendWith (.ref (I + 5 : Nat)) (.ref (I + 4 : Nat)) .none) _ _ _
  refine wpAny_bind (wpAny_updateSeq e0 rfl ?_)
  have e2 := Heap.get?_update_self (Obj.mapSeq (fun _ => (#[] : Array Value))) e0 rfl
  have kp : ∀ b o, b ≠ (I + 5 : Nat) → s.heap.get? b = some o → ((s.heap.push { cls := .type "list", data := .seq #[] }).update (I + 5 : Nat) (Obj.mapSeq (fun _ => (#[] : Array Value)))).get? b = some o := fun b o hb e =>
    (Heap.get?_update_other _ _ (Ne.symm hb)).trans (Heap.get?_push_of_some _ e)
  refine wpAny_bind (wpAny_letGo ?_)
  refine zl_extend (A := A.in1) hh h1 h2 hn .none (st.keep h1 h2 kp) (kp _ _ (nN (by omega)) hz) e2 fun h' tk acc c as k e' hl hG ha => ?_
  exact ⟨rfl, hQ h' tk acc c as (fun b o hb e => k b o hb (kp b o (nN (by omega)) e)) e' hl hG ha⟩
end
/-! ### the tuples tracked -/
def putP : Hp → List Addr → List (V × V) → Hp
  | H, a :: as, p :: ps => putP (upd H a (.tup [p.1, p.2])) as ps
  | H, _, _ => H
theorem putP_off {b : Addr} : ∀ (as : List Addr) (ps : List (V × V)) (H : Hp), b ∉ as → putP H as ps b = H b
  | [], _, _, _ => rfl
  | _ :: _, [], _, _ => rfl
  | a :: as, p :: ps, H, h => by
    show putP (upd H a (.tup [p.1, p.2])) as ps b = H b
    rw [putP_off as ps _ fun z => h (List.mem_cons_of_mem _ z), upd_ne fun z => h (by rw [z]; exact List.mem_cons_self)]
theorem putP_at : ∀ (as : List Addr) (ps : List (V × V)) (H : Hp), as.length = ps.length → as.Nodup → Paired (fun (t : Addr) (p : V × V) => putP H as ps t = some (.tup [p.1, p.2])) as ps
  | [], [], _, _, _ => .nil
  | [], _ :: _, _, h, _ => by cases h
  | _ :: _, [], _, h, _ => by cases h
  | a :: as, p :: ps, H, h, hn => by
    have hn' := List.nodup_cons.mp hn
    refine .cons ?_ (putP_at as ps (upd H a (.tup [p.1, p.2])) (Nat.succ.inj h) hn'.2)
    show putP (upd H a (.tup [p.1, p.2])) as ps a = some (.tup [p.1, p.2])
    rw [putP_off as ps _ hn'.1, upd_same]
def ZipTo (H : Hp) (xs ys : List V) (Q : VK) : Prop := ∀ (H' : Hp) (p : Addr) (ts : List Addr), Same H H' → H p = none → (∀ t ∈ ts, H t = none) → p ∉ ts → H' p = some (.lst (ts.map V.ref)) → Paired (fun (t : Addr) (q : V × V) => H' t = some (.tup [q.1, q.2])) ts (xs.zip ys) → Q (.ref p) H'
def tListZip (K : Frag) (ta : TA) : TE := fun σ H Q => ta σ H fun vs H1 => ∃ a b xs ys, vs = [.ref a, .ref b] ∧ SqL K H1 a xs ∧ SqL K H1 b ys ∧ ZipTo H1 xs ys Q
section
variable {X : Cx}
theorem pairs_laid {pins : List (Addr × Obj)} {σ : L2.St} {H : Hp} {s : Shared} {h' : Heap} {tk c : Nat} {S : Addr} {xs ys : List V} {vs us : List Value} {acc : Array Value} {as : List Addr} (I : Inv X pins σ H s) (hz : (xs.zip ys).length ≤ sizeLine) (hx : Vals xs vs) (hy : Vals ys us)
    (hk : ∀ b o, s.heap.get? b = some o → h'.get? b = some o) (hS : s.heap.objs.size ≤ S) (hl : h'.get? S = some { cls := .type "list", dict := none, data := .seq acc c, slots := #[] }) (hn : as.length = (xs.zip ys).length) (hG : Prs (vs.zip us) S h' as) (ha : acc.toList = as.map Value.ref) :
    ∃ H' : Hp, Same H H' ∧ H S = none ∧ (∀ t ∈ as, H t = none) ∧ S ∉ as ∧ H' S = some (.lst (as.map V.ref)) ∧ Paired (fun (t : Addr) (q : V × V) => H' t = some (.tup [q.1, q.2])) as (xs.zip ys) ∧ Inv X pins σ H' { s with heap := h', toks := tk } := by
  have out : S ∉ as := fun z => Nat.lt_irrefl _ (hG.over _ z)
  have nd : as.Nodup := List.Pairwise.imp (fun {a b} (h : a < b) => Nat.ne_of_lt h) hG.up
  have newS : H S = none := I.hok.fresh hS
  have new : ∀ t ∈ as, H t = none := fun t ht => I.hok.fresh (Nat.le_trans hS (Nat.le_of_lt (hG.over t ht)))
  have at' := putP_at as (xs.zip ys) (upd H S (.lst (as.map V.ref))) hn nd
  have off : ∀ b, b ∉ as → b ≠ S → putP (upd H S (.lst (as.map V.ref))) as (xs.zip ys) b = H b := fun b h1 h2 => by rw [putP_off as _ _ h1, upd_ne h2]
  have low : ∀ b o, s.heap.get? b = some o → b ∉ as ∧ b ≠ S := fun b o e => by
    have lb := Heap.lt_size e
    exact ⟨fun z => Nat.lt_irrefl b (Nat.lt_trans (Nat.lt_of_lt_of_le lb hS) (hG.over b z)), Nat.ne_of_lt (Nat.lt_of_lt_of_le lb hS)⟩
  have kp : Same H (putP (upd H S (.lst (as.map V.ref))) as (xs.zip ys)) := fun b u e => by
    rw [off b (fun z => by rw [new b z] at e; cases e) (fun z => by rw [z, newS] at e; cases e)]
    exact e
  have eS : putP (upd H S (.lst (as.map V.ref))) as (xs.zip ys) S = some (.lst (as.map V.ref)) := by rw [putP_off as _ _ out, upd_same]
  refine ⟨_, kp, newS, new, out, eS, at', ?_⟩
  refine I.call' (ch := []) rfl ⟨fun b o q _ _ _ => hk b o q, fun b o q _ _ _ => ⟨o.slots, hk b o q⟩, fun b o q n _ => ?_, fun b o q _ => ⟨o, hk b o q⟩, fun b xs q => kp b _ q, fun b o u q => kp b _ q, fun b ps q => ⟨#[], by rw [kp b _ q]; simp⟩⟩ (fun b u q => ?_) I.bare fun b z => by simp at z
  · obtain ⟨z1, z2⟩ := low b o q
    rw [off b z1 z2]
    exact n
  · by_cases hb : b ∈ as
    · obtain ⟨j, p, e1, e2, e3⟩ := LiI.paired_ix at' hb
      rw [e3] at q
      cases q
      obtain ⟨r, f1, f2⟩ := hG.is j b e1
      obtain ⟨g1, g2⟩ := List.getElem?_zip_eq_some.mp e2
      obtain ⟨g3, g4⟩ := List.getElem?_zip_eq_some.mp f1
      obtain ⟨x', e4, r1⟩ := hx.get g1
      obtain ⟨y', e5, r2⟩ := hy.get g2
      rw [g3] at e4
      rw [g4] at e5
      cases e4
      cases e5
      exact ⟨by show 2 ≤ sizeLine; decide, [r.1, r.2], .cons r1 (.cons r2 .nil), ⟨_, f2, rfl, _, rfl⟩⟩
    · by_cases hb2 : b = S
      · rw [hb2] at q ⊢
        rw [eS] at q
        cases q
        refine ⟨by rw [List.length_map, hn]; exact hz, acc.toList, c, by rw [ha]; exact LiI.vals_refs as, ?_⟩
        rw [Array.toArray_toList]
        exact hl
      · rw [off b hb hb2] at q
        exact (I.hok b u q).stay (fun d v _ y => hk d v y) (fun d y => kp d _ y) fun d xs y => kp d _ y
/-- list(zip(e, e2)) -/
theorem pe_listZip {e e2 : Expr} {ta : TA} {p p2 pos pos2 : Pos} (hc : X.calm = true) (hgL : Gl X "list") (hmL : X.mg "list" = none) (hv : bootBuiltins "list" = some (.type "list")) (hg : Gl X "zip") (hm : X.mg "zip" = none) (ha : PA X [e, e2] ta)
    (hs : starEach [e, e2] X.env = (false, eval e X.env) :: starEach [e2] X.env := by rfl) (hpl : (backTo pos2 (starEach [e2] X.env)).any (·.1) = false := by rfl)
    (hsL : starEach [.Call (.Name "zip" p2) [e, e2] [] pos2] X.env = (false, eval (.Call (.Name "zip" p2) [e, e2] [] pos2) X.env) :: starEach [] X.env := by rfl) :
    PE X (.Call (.Name "list" p) [.Call (.Name "zip" p2) [e, e2] [] pos2] [] pos) (tListZip X.K ta) := by
  refine ⟨fun pins s σ H Q I hq => ?_⟩
  refine wpAny_Call_Name_kw (ld_blt I hgL hmL hv ?_)
  refine PyProof.Rows.callWith_type1 ?_ hsL rfl
  rw [hsL]
  show wpAny _ _ (spliced ((false, eval (.Call (.Name "zip" p2) [e, e2] [] pos2) X.env) :: backTo pos (starEach [] X.env))) _ _ s
  refine Calls.spliced_cons ?_
  refine Call_ (ld_blt I hg hm PyProof.Rows.boot_zip (PyProof.Rows.callWith_type1 (thn (ha.run pos2 pins s σ H _ I hq) fun us s1 ⟨vs, H1, I1, r1, q1⟩ => ?_) hs hpl))
  obtain ⟨a, b, xs, ys, ex, qx, qy, q⟩ := q1
  subst ex
  cases r1 with
  | cons r rr =>
    cases rr with
    | cons r' rr =>
      cases rr
      cases r
      cases r'
      obtain ⟨its, rv, p1, z1⟩ := I1.list qx
      obtain ⟨its2, rv2, p2, z2⟩ := I1.list qy
      refine call_zip_2 p1.isList p2.isList fun h' hz hTI hTO h1 h2 hsz hk => ?_
      refine Calls.spliced_nil ?_
      have len : (xs.zip ys).length = min its.toArray.size its2.toArray.size := by
        rw [List.length_zip, rv.length, rv2.length]
        simp
      have I2 : Inv X pins σ H1 { s1 with heap := h' } := I1.kept (t' := s1.toks) hk
      refine zl_call (s := { s1 with heap := h' }) (I := s1.heap.objs.size) (l1 := a) (l2 := b) (xs := its.toArray) (ys := its2.toArray) (I1.ok.hd hc) p1.lt p2.lt ?_ hsz ⟨hTI, h1, h2, p1.isList.at fun o e => hk _ o e, p2.isList.at fun o e => hk _ o e, .inl ⟨hz, _, _, hTO⟩⟩ hz fun g tk acc c as k e hl hG hacc => ?_
      · rw [← len, List.length_zip]
        omega
      · obtain ⟨H', k1, k2, k3, k4, k5, k6, J⟩ := pairs_laid (tk := tk) I1 (by rw [List.length_zip]; omega) rv rv2 (fun b o e => k b o (Heap.lt_size e) (hk b o e)) (Nat.le_add_right _ 5) e (by rw [hl, len]) hG hacc
        exact ⟨.ref _, H', J, rfl, q H' _ as k1 k2 k3 k4 k5 k6⟩
end
end U

set_option Elab.async false
set_option linter.all false
set_option maxRecDepth 100000
set_option maxHeartbeats 4000000
namespace G
open PySem PySem.Spec PyProof.Rows L2 U
open PySem.W (Frag)
theorem and_go {c d : Bool} {t : Prop} {H : Hp} {Q : VK} (h : Q (.bl (c && d)) H) (ht : c = true → Q (.bl d) H → t) : (if c = true then t else Q (.bl false) H) := by
  cases c
  · exact h
  · exact ht rfl h
theorem or_go {c d : Bool} {t : Prop} {H : Hp} {Q : VK} (h : Q (.bl (c || d)) H) (ht : c = false → Q (.bl d) H → t) : (if c = true then Q (.bl true) H else t) := by
  cases c
  · exact ht rfl h
  · exact h
theorem dec_if {p : Prop} [Decidable p] {A B : Prop} (h1 : p → A) (h2 : ¬ p → B) : if decide p = true then A else B := by
  by_cases h : p
  · rw [decide_eq_true h]
    exact h1 h
  · rw [decide_eq_false h]
    exact h2 h
theorem none_in : ∀ os : List (Option Int), inV .non (os.map oI) = os.any (·.isNone)
  | [] => rfl
  | o :: os => by
    show (eqV (oI o) .non || inV .non (os.map oI)) = _
    rw [none_in os]
    cases o <;> rfl
theorem flat_os (os : List (Option Int)) : (os.map oI).all flatV = true := by
  rw [List.all_eq_true]
  intro v hv
  obtain ⟨o, _, rfl⟩ := List.mem_map.mp hv
  cases o <;> rfl
/-! ### tables -/
structure Tab where
  fa : Int
  sh : Int
  st : Int
  lo : Int
  hi : Int
deriving DecidableEq
def Tab.vs (t : Tab) : List V := [.int t.fa, .int t.sh, .int t.st, .int t.lo, .int t.hi]
def Tab.ok (t : Tab) : Bool := (decide (1 ≤ t.fa) && decide (t.fa ≤ 1000)) && (decide (0 ≤ t.st) && decide (t.lo ≤ t.hi))
def tabOf : List (Option Int) → Option Tab
  | [some f, some s, some t, some l, some h] => some ⟨f, s, t, l, h⟩
  | _ => none
def isTable (os : List (Option Int)) : Bool := match tabOf os with
  | some t => t.ok
  | none => false
theorem tab_cases {os : List (Option Int)} (hl : os.length = 5) : (os.any (·.isNone) = true ∧ tabOf os = none) ∨ (os.any (·.isNone) = false ∧ ∃ t : Tab, tabOf os = some t ∧ os.map oI = t.vs) := by
  match os, hl with
  | [a, b, c, d, e], _ =>
    cases a with
    | none => exact .inl ⟨rfl, rfl⟩
    | some a =>
    cases b with
    | none => exact .inl ⟨rfl, rfl⟩
    | some b =>
    cases c with
    | none => exact .inl ⟨rfl, rfl⟩
    | some c =>
    cases d with
    | none => exact .inl ⟨rfl, rfl⟩
    | some d =>
    cases e with
    | none => exact .inl ⟨rfl, rfl⟩
    | some e => exact .inr ⟨rfl, ⟨a, b, c, d, e⟩, rfl, rfl⟩
section
variable {P : Program} {w : World} {K : Frag} {mg : Str → Option Value} {base : Heap}
def sp_is_table (K : Frag) : Sp := fun vs H Q _ => ∃ (a : Addr) (os : List (Option Int)), vs = [.ref a] ∧ SqT K H a (os.map oI) ∧ os.length = 5 ∧ Q (.bl (isTable os)) H
theorem has_is_table (F : Fn K mg "is_table" s_is_table) (cM : CI mg "MOST_FACTOR" 1000) : Has P w K mg base 1 "is_table" P_is_table [] (sp_is_table K) := by
  obtain ⟨⟨fd, F⟩, g⟩ := F
  refine ⟨⟨fd, [], ?_, F.kp, .nil, F.bindsN fun _ _ _ _ _ _ us hl => match us, hl with | [_], _ => rfl⟩, g⟩
  refine F.ok sc_is_table (fun vs H Q E h => ?_) (fun cdv A outer s H vs Q E hr h' => ?_)
  · obtain ⟨a, os, rfl, _⟩ := h
    rfl
  · obtain ⟨a, os, rfl, hs, hl, hq⟩ := h'
    refine ⟨_, PSs.nox (pss_cons (ps_if (pt_cmpR op_in_seq pe_non (pv 0) (by rfl)) (pss_one (ps_ret pe_bl)) pss_nil)
      (pss_cons (ps_asg (pv 0) (pg_tup rfl (pgs_cons (pg_name (i := 1) sc_is_table.nd rfl (Or.inl rfl)) (pgs_cons (pg_name (i := 2) sc_is_table.nd rfl (Or.inl rfl)) (pgs_cons (pg_name (i := 3) sc_is_table.nd rfl (Or.inl rfl)) (pgs_cons (pg_name (i := 4) sc_is_table.nd rfl (Or.inl rfl)) (pgs_cons (pg_name (i := 5) sc_is_table.nd rfl (Or.inl rfl)) pgs_nil)))))))
      (pss_one (ps_ret (pe_and (pe_chain op_le op_le pe_int (pv 1) (pe_ci cM)) (pe_and (pe_cmpR op_ge (pv 3) pe_int (nomark _)) (pe_one (pe_cmpR op_le (pv 4) (pv 5) (nomark _))))))))), ?_⟩
    refine ⟨_, rfl, a, _, rfl, .inr hs, rfl, flat_os os, _, rfl, ?_⟩
    rw [show (if false = true then !inV .non (os.map oI) else inV .non (os.map oI)) = inV .non (os.map oI) from rfl, none_in]
    rcases tab_cases hl with ⟨e1, e2⟩ | ⟨e1, t, e2, e3⟩
    · rw [e1]
      refine iteT ?_
      have e : isTable os = false := by
        unfold isTable
        rw [e2]
      rw [e] at hq
      exact hq
    · rw [e1]
      refine iteF ?_
      rw [e3] at hs
      refine ⟨_, rfl, a, t.vs, rfl, hs, rfl, ?_⟩
      refine ⟨_, _, rfl, _, _, rfl, _, _, rfl, _, _, rfl, _, _, rfl, rfl, ?_⟩
      have e : isTable os = t.ok := by
        unfold isTable
        rw [e2]
      rw [e] at hq
      refine ⟨_, rfl, _, _, rfl, rfl, _, rfl, ?_⟩
      by_cases q1 : 1 ≤ t.fa
      · rw [decide_eq_true q1]
        refine iteT ?_
        refine ⟨_, _, rfl, rfl, _, rfl, ?_⟩
        have e' : t.ok = (decide (t.fa ≤ 1000) && (decide (0 ≤ t.st) && decide (t.lo ≤ t.hi))) := by
          unfold Tab.ok
          rw [decide_eq_true q1, Bool.true_and]
        rw [e'] at hq
        refine and_go hq fun _ hq => ?_
        refine ⟨_, rfl, _, _, rfl, rfl, _, rfl, ?_⟩
        refine and_go hq fun _ hq => ?_
        exact ⟨_, rfl, _, rfl, _, _, rfl, rfl, hq⟩
      · rw [decide_eq_false q1]
        refine iteF ?_
        refine ⟨_, rfl, ?_⟩
        refine iteF ?_
        have e' : t.ok = false := by
          unfold Tab.ok
          rw [decide_eq_false q1]
          rfl
        rw [e'] at hq
        exact hq
/-! ### stretch_by -/
inductive Prn where
  | num (i : Int)
  | word (s : Str)
deriving DecidableEq
def Prn.v : Prn → V
  | .num i => .int i
  | .word s => .str s
def Prn.d : Prn → PyData
  | .num i => .int i
  | .word s => .str s
theorem Prn.da (p : Prn) {F : Addr → Prop} {H : Hp} : Dq F H p.v p.d := by
  cases p with
  | num i => exact .int i
  | word s => exact .str s
def stretchBy (t : Tab) : Prn → Option Int × Option Int
  | .num i => (some (t.fa * (i - t.st) + t.sh), some (t.fa * (i + t.st) + t.sh))
  | .word s => if s = "normal" then (some (t.fa * t.lo + t.sh), some (t.fa * t.hi + t.sh)) else if s = "low" then (none, some (t.fa * t.lo + t.sh)) else (some (t.fa * t.hi + t.sh), none)
def pairV (p : Option Int × Option Int) : List V := [oI p.1, oI p.2]
def RetT (H : Hp) (vs : List V) (Q : VK) : Prop := ∀ (H' : Hp) (a : Addr), Same H H' → H a = none → H' a = some (.tup vs) → Q (.ref a) H'
def sp_stretch_by (K : Frag) : Sp := fun vs H Q _ => ∃ (a : Addr) (t : Tab) (p : Prn), vs = [.ref a, p.v] ∧ SqT K H a t.vs ∧ t.ok = true ∧ RetT H (pairV (stretchBy t p)) Q
theorem tab_mul {t : Tab} (h : t.ok = true) : -(2 ^ 64) < t.fa ∧ t.fa < 2 ^ 64 := by
  unfold Tab.ok at h
  rw [Bool.and_eq_true, Bool.and_eq_true, Bool.and_eq_true, decide_eq_true_eq, decide_eq_true_eq] at h
  omega
theorem sizeLine_ge : 1000 ≤ sizeLine := by
  rw [sizeLine_eq]
  omega
theorem none_of_same {H H' : Hp} {a : Addr} (s : Same H H') (h : H' a = none) : H a = none := by
  cases e : H a with
  | none => rfl
  | some o =>
    rw [s a o e] at h
    cases h
theorem upd_ret {H : Hp} {vs : List V} {Q : VK} (h : RetT H vs Q) : ∀ p, H p = none → Q (.ref p) (upd H p (.tup vs)) := fun p hp => h _ p (same_new hp) hp upd_same
theorem has_stretch_by (F : Fn K mg "stretch_by" s_stretch_by) (hI : Has P w K mg base 1 "is_integer" P_is_integer [.non, .non] sp_is_integer) (cN : CS mg "NORMAL" "normal") (cL : CS mg "LOW" "low") : Has P w K mg base 2 "stretch_by" P_stretch_by [] (sp_stretch_by K) := by
  obtain ⟨⟨fd, F⟩, g⟩ := F
  refine ⟨⟨fd, [], ?_, F.kp, .nil, F.bindsN fun _ _ _ _ _ _ us hl => match us, hl with | [_, _], _ => rfl⟩, g⟩
  refine F.ok sc_stretch_by (fun vs H Q E h => ?_) (fun cdv A outer s H vs Q E hr h' => ?_)
  · obtain ⟨a, t, p, rfl, _⟩ := h
    rfl
  · obtain ⟨a, t, p, rfl, hs, ht, hq⟩ := h'
    refine ⟨_, PSs.nox (pss_cons (ps_asg (pv 0) (pg_tup rfl (pgs_cons (pg_name (i := 2) sc_stretch_by.nd rfl (Or.inl rfl)) (pgs_cons (pg_name (i := 3) sc_stretch_by.nd rfl (Or.inl rfl)) (pgs_cons (pg_name (i := 4) sc_stretch_by.nd rfl (Or.inl rfl)) (pgs_cons (pg_name (i := 5) sc_stretch_by.nd rfl (Or.inl rfl)) (pgs_cons (pg_name (i := 6) sc_stretch_by.nd rfl (Or.inl rfl)) pgs_nil)))))))
      (pss_cons (ps_if (pt_val (pe_has hI hr (pa_cons (pv 1) pa_nil))) (pss_one (ps_ret (pe_tup (pa_cons (pe_add (pe_mul (pv 2) (pe_sub (pv 1) (pv 4))) (pv 3)) (pa_cons (pe_add (pe_mul (pv 2) (pe_add (pv 1) (pv 4))) (pv 3)) pa_nil))))) pss_nil)
      (pss_cons (ps_set (i := 7) sc_stretch_by.nd rfl (Or.inl rfl) (pe_tup (pa_cons (pe_add (pe_mul (pv 2) (pv 5)) (pv 3)) (pa_cons (pe_add (pe_mul (pv 2) (pv 6)) (pv 3)) pa_nil))))
      (pss_cons (ps_if (pt_cmpR op_eq (pv 1) (pe_cs cN) (nomark _)) (pss_one (ps_ret (pv 7))) pss_nil)
      (pss_one (ps_ret (pe_ifExp (pt_cmpR op_eq (pv 1) (pe_cs cL) (nomark _)) (pe_tup (pa_cons pe_non (pa_cons (pe_ix ix_tup (pv 7) pe_int (fun _ _ => rfl)) pa_nil))) (pe_tup (pa_cons (pe_ix ix_tup (pv 7) pe_int (fun _ _ => rfl)) (pa_cons pe_non pa_nil)))))))))), ?_⟩
    refine ⟨_, rfl, a, t.vs, rfl, hs, rfl, ?_⟩
    refine ⟨_, _, rfl, _, _, rfl, _, _, rfl, _, _, rfl, _, _, rfl, rfl, ?_⟩
    refine ⟨_, rfl, (fun _ => True), p.v, p.d, none, none, rfl, p.da, _, rfl, ?_⟩
    cases p with
    | num i =>
      refine iteT ?_
      refine ⟨_, rfl, _, rfl, _, rfl, _, _, rfl, rfl, _, _, rfl, rfl, tab_mul ht, _, rfl, _, _, rfl, rfl, ?_⟩
      refine ⟨_, rfl, _, rfl, _, rfl, _, _, rfl, rfl, _, _, rfl, rfl, tab_mul ht, _, rfl, _, _, rfl, rfl, ?_⟩
      exact ⟨Nat.le_trans (by show 2 ≤ 1000; omega) sizeLine_ge, upd_ret hq⟩
    | word x =>
      refine iteF ?_
      refine ⟨_, rfl, _, rfl, _, _, rfl, rfl, tab_mul ht, _, rfl, _, _, rfl, rfl, ?_⟩
      refine ⟨_, rfl, _, rfl, _, _, rfl, rfl, tab_mul ht, _, rfl, _, _, rfl, rfl, ?_⟩
      refine ⟨Nat.le_trans (by show 2 ≤ 1000; omega) sizeLine_ge, fun p hp => ?_⟩
      refine ⟨_, rfl, rfl, _, rfl, ?_⟩
      have e7 : ∀ b o, H b = some o → (upd H p (.tup [.int (t.fa * t.lo + t.sh), .int (t.fa * t.hi + t.sh)])) b = some o := same_new hp
      refine dec_if (fun h1 => ?_) (fun h1 => ?_)
      · have h1 : x = "normal" := V.str.inj h1
        refine ⟨_, rfl, ?_⟩
        have e : stretchBy t (.word x) = (some (t.fa * t.lo + t.sh), some (t.fa * t.hi + t.sh)) := by
          show (if x = "normal" then _ else _) = _
          rw [if_pos h1]
        rw [e] at hq
        exact hq _ p e7 hp upd_same
      · have h1 : ¬ x = "normal" := fun z => h1 (by rw [z]; rfl)
        refine ⟨_, rfl, rfl, _, rfl, ?_⟩
        have seven : SqT K (upd H p (.tup [.int (t.fa * t.lo + t.sh), .int (t.fa * t.hi + t.sh)])) p [.int (t.fa * t.lo + t.sh), .int (t.fa * t.hi + t.sh)] := .inl (.inl upd_same)
        refine dec_if (fun h2 => ?_) (fun h2 => ?_)
        · have h2 : x = "low" := V.str.inj h2
          have e : stretchBy t (.word x) = (none, some (t.fa * t.lo + t.sh)) := by
            show (if x = "normal" then _ else if x = "low" then _ else _) = _
            rw [if_neg h1, if_pos h2]
          rw [e] at hq
          refine ⟨_, rfl, p, _, 0, _, rfl, rfl, seven, atI_nat (j := 0) rfl, Nat.le_trans (by show 2 ≤ 1000; omega) sizeLine_ge, fun p2 hp2 => ?_⟩
          exact hq _ p2 (fun b o e => same_new hp2 b o (e7 b o e)) (none_of_same e7 hp2) upd_same
        · have h2 : ¬ x = "low" := fun z => h2 (by rw [z]; rfl)
          have e : stretchBy t (.word x) = (some (t.fa * t.hi + t.sh), none) := by
            show (if x = "normal" then _ else if x = "low" then _ else _) = _
            rw [if_neg h1, if_neg h2]
          rw [e] at hq
          refine ⟨_, rfl, p, _, 1, _, rfl, rfl, seven, atI_nat (j := 1) rfl, Nat.le_trans (by show 2 ≤ 1000; omega) sizeLine_ge, fun p2 hp2 => ?_⟩
          exact hq _ p2 (fun b o e => same_new hp2 b o (e7 b o e)) (none_of_same e7 hp2) upd_same
end
end G

set_option Elab.async false
set_option linter.all false
set_option maxRecDepth 100000
set_option maxHeartbeats 4000000
namespace U
open PySem PySem.Spec PyProof.Rows L2
open PySem.W (Frag)
theorem Same.rd {H H' : Hp} {a : Addr} {u : HO} (h : Rd H a u) (s : Same H H') : Rd H' a u := by
  rcases h with h | ⟨o, h⟩
  · exact .inl (s _ _ h)
  · exact .inr ⟨o, s _ _ h⟩
theorem sqL_same {K : Frag} {H H' : Hp} {a : Addr} {xs : List V} (h : SqL K H a xs) (s : Same H H') : SqL K H' a xs := by
  rcases h with h | h
  · exact .inl (Same.rd h s)
  · exact .inr h
theorem sqT_same {K : Frag} {H H' : Hp} {a : Addr} {xs : List V} (h : SqT K H a xs) (s : Same H H') : SqT K H' a xs := by
  rcases h with h | h
  · exact .inl (Same.rd h s)
  · exact .inr h
/-- a heap kept but for one address -/
def SameB (D : Addr) (H H' : Hp) : Prop := ∀ b o, b ≠ D → H b = some o → H' b = some o
theorem SameB.of {D : Addr} {H H' : Hp} (s : Same H H') : SameB D H H' := fun b o _ e => s b o e
/-- a comprehension without a condition: each item by its place -/
theorem lc_map {J : It} {n : Nat} {G : Hp → Prop} {Y : Nat → Hp → V → Hp → Prop} (w : Walk J n G Y) {g : TG} {te : TE} {vs : List Nat} {σ : L2.St} {H1 : Hp} {D : Addr} {Qd : Hp → Prop} (nD : H1 D = none) (hn : n ≤ 16000000) (Rl : Nat → V → Hp → Prop)
    (hR : ∀ i v H H', Rl i v H → SameB D H H' → Rl i v H') (hG : ∀ H, Same H1 H → G H)
    (hs : ∀ (i : Nat) (x : V) (H H' : Hp) (k : VK), i < n → Same H1 H → (∃ acc, H D = some (.lst acc)) → Y i H x H' → (∀ y H4, Same H H4 → Rl i y H4 → k y H4) → g x (wipe σ vs) H' fun σ2 H2 => wipe σ2 vs = wipe σ vs ∧ te σ2 H2 k)
    (hd : ∀ H acc, Same H1 H → H D = some (.lst acc) → acc.length = n → (∀ i v, acc[i]? = some v → Rl i v H) → Qd H) :
    ∃ W : Nat → Nat → Hp → Prop, (∃ m, W 0 m (upd H1 D (.lst []))) ∧ ∀ i m H, W i m H →
      (J.stop i H ∧ Qd H) ∨ (J.go i H ∧ ∃ Nx : Hp → Prop, (∀ H', Nx H' → ∃ m', m' < m ∧ W (i + 1) m' H') ∧ ∀ x H', J.yld i H x H' → g x (wipe σ vs) H' fun σ2 H2 => wipe σ2 vs = wipe σ vs ∧ tYes σ2 H2 fun b H3 =>
        if b = true then te σ2 H3 fun y H4 => ∃ acc, H4 D = some (.lst acc) ∧ acc.length < sizeLine ∧ Nx (upd H4 D (.lst (acc ++ [y]))) else Nx H3) := by
  refine lc_it w (fun i H => Same H1 H ∧ ∃ acc, H D = some (.lst acc) ∧ acc.length = i ∧ ∀ j v, acc[j]? = some v → Rl j v H) ⟨same_new nD, [], upd_same, rfl, fun j v e => by simp at e⟩ (fun i H _ p => hG H p.1) ?_ ?_
  · rintro i x H H' hi ⟨s, acc, e, l, r⟩ y
    refine hs i x H H' _ hi s ⟨acc, e⟩ y fun v H4 s4 r4 => ?_
    have up : SameB D H4 (upd H4 D (.lst (acc ++ [v]))) := fun b o hb q => by
      rw [upd_ne hb]
      exact q
    refine ⟨acc, s4 _ _ e, by rw [sizeLine_eq]; omega, ?_, acc ++ [v], upd_same, by rw [List.length_append, l]; rfl, ?_⟩
    · exact fun b o q => up b o (ne_of_none q nD) (s4 b o (s b o q))
    · intro j u ju
      rcases Nat.lt_trichotomy j acc.length with q | q | q
      · rw [List.getElem?_append_left q] at ju
        exact hR j u _ _ (hR j u _ _ (r j u ju) (.of s4)) up
      · rw [List.getElem?_append_right (Nat.le_of_eq q.symm), q, Nat.sub_self] at ju
        have e1 : v = u := Option.some.inj ju
        rw [← e1, q, l]
        exact hR i v _ _ r4 up
      · rw [List.getElem?_eq_none (by rw [List.length_append, List.length_singleton]; omega)] at ju
        cases ju
  · rintro H ⟨s, acc, e, l, r⟩
    exact hd H acc s e l r
/-- .. plain values -/
theorem lc_vals {J : It} {n : Nat} {G : Hp → Prop} {Y : Nat → Hp → V → Hp → Prop} (w : Walk J n G Y) {g : TG} {te : TE} {vs : List Nat} {σ : L2.St} {H1 : Hp} {D : Addr} {Qd : Hp → Prop} (nD : H1 D = none) (ys : List V) (hl : ys.length = n) (hn : n ≤ 16000000)
    (hG : ∀ H, Same H1 H → G H)
    (hs : ∀ (i : Nat) (x y : V) (H H' : Hp) (k : VK), ys[i]? = some y → Same H1 H → Y i H x H' → (∀ H4, Same H H4 → k y H4) → g x (wipe σ vs) H' fun σ2 H2 => wipe σ2 vs = wipe σ vs ∧ te σ2 H2 k)
    (hd : ∀ H, Same H1 H → H D = some (.lst ys) → Qd H) :
    ∃ W : Nat → Nat → Hp → Prop, (∃ m, W 0 m (upd H1 D (.lst []))) ∧ ∀ i m H, W i m H →
      (J.stop i H ∧ Qd H) ∨ (J.go i H ∧ ∃ Nx : Hp → Prop, (∀ H', Nx H' → ∃ m', m' < m ∧ W (i + 1) m' H') ∧ ∀ x H', J.yld i H x H' → g x (wipe σ vs) H' fun σ2 H2 => wipe σ2 vs = wipe σ vs ∧ tYes σ2 H2 fun b H3 =>
        if b = true then te σ2 H3 fun y H4 => ∃ acc, H4 D = some (.lst acc) ∧ acc.length < sizeLine ∧ Nx (upd H4 D (.lst (acc ++ [y]))) else Nx H3) := by
  refine lc_map w nD hn (fun i v _ => ys[i]? = some v) (fun i v H H' h _ => h) hG (fun i x H H' k hi s _ y hk => ?_) fun H acc s e l r => ?_
  · have e : ys[i]? = some ys[i] := List.getElem?_eq_getElem (by omega)
    exact hs i x _ H H' k e s y fun H4 s4 => hk _ H4 s4 e
  · have : acc = ys := by
      refine List.ext_getElem? fun i => ?_
      cases q : acc[i]? with
      | some v => exact (r i v q).symm
      | none =>
        have := List.getElem?_eq_none_iff.mp q
        exact (List.getElem?_eq_none (by omega)).symm
    rw [this] at e
    exact hd H s e
theorem dqall_of {F : Addr → Prop} {H : Hp} : ∀ {vs : List V} {ds : List PyData}, vs.length = ds.length → (∀ (i : Nat) v d, vs[i]? = some v → ds[i]? = some d → Dq F H v d) → DqAll F H vs ds
  | [], [], _, _ => .nil
  | [], _ :: _, h, _ => by cases h
  | _ :: _, [], h, _ => by cases h
  | v :: vs, d :: ds, h, k => .cons (k 0 v d rfl rfl) (dqall_of (Nat.succ.inj h) fun i v d e1 e2 => k (i + 1) v d e1 e2)
/-- .. new data -/
theorem lc_data {J : It} {n : Nat} {G : Hp → Prop} {Y : Nat → Hp → V → Hp → Prop} (w : Walk J n G Y) {g : TG} {te : TE} {vs : List Nat} {σ : L2.St} {H1 : Hp} {D : Addr} {Qd : Hp → Prop} (nD : H1 D = none) (ds : List PyData) (hl : ds.length = n) (hn : n ≤ 16000000)
    (hG : ∀ H, Same H1 H → G H)
    (hs : ∀ (i : Nat) (x : V) (d : PyData) (H H' : Hp) (k : VK), ds[i]? = some d → Same H1 H → Y i H x H' → (∀ y H4, Same H H4 → Dq (fun a => H a = none) H4 y d → k y H4) → g x (wipe σ vs) H' fun σ2 H2 => wipe σ2 vs = wipe σ vs ∧ te σ2 H2 k)
    (hd : ∀ H, Same H1 H → Dq (fun a => H1 a = none) H (.ref D) (.list ds) → Qd H) :
    ∃ W : Nat → Nat → Hp → Prop, (∃ m, W 0 m (upd H1 D (.lst []))) ∧ ∀ i m H, W i m H →
      (J.stop i H ∧ Qd H) ∨ (J.go i H ∧ ∃ Nx : Hp → Prop, (∀ H', Nx H' → ∃ m', m' < m ∧ W (i + 1) m' H') ∧ ∀ x H', J.yld i H x H' → g x (wipe σ vs) H' fun σ2 H2 => wipe σ2 vs = wipe σ vs ∧ tYes σ2 H2 fun b H3 =>
        if b = true then te σ2 H3 fun y H4 => ∃ acc, H4 D = some (.lst acc) ∧ acc.length < sizeLine ∧ Nx (upd H4 D (.lst (acc ++ [y]))) else Nx H3) := by
  refine lc_map w nD hn (fun i v H => ∃ d, ds[i]? = some d ∧ Dq (fun a => H1 a = none ∧ a ≠ D) H v d) (fun i v H H' h s => ?_) hG (fun i x H H' k hi s hD y hk => ?_) fun H acc s e l r => ?_
  · obtain ⟨d, e, q⟩ := h
    exact ⟨d, e, q.move (fun _ f => f) fun b o f z => s b o f.2 z⟩
  · have e : ds[i]? = some ds[i] := List.getElem?_eq_getElem (by omega)
    obtain ⟨acc, hD⟩ := hD
    refine hs i x _ H H' k e s y fun v H4 s4 q => hk v H4 s4 ⟨_, e, q.move (fun b f => ⟨?_, fun z => ?_⟩) fun b o _ z => z⟩
    · cases z : H1 b with
      | none => rfl
      | some o =>
        have f : H b = none := f
        rw [s b o z] at f
        cases f
    · have f : H b = none := f
      rw [z, hD] at f
      cases f
  · refine hd H s (.lst nD e (dqall_of (by omega) fun i v d e1 e2 => ?_))
    obtain ⟨d', e3, q⟩ := r i v e1
    rw [e2] at e3
    cases e3
    exact q.move (fun b f => f.1) fun b o _ z => z
end U

set_option Elab.async false
set_option linter.all false
set_option maxRecDepth 100000
set_option maxHeartbeats 4000000
namespace G
open PySem PySem.Spec PyProof.Rows L2 U
open PySem.W (Frag)
/-! ### do_turn_back -/
def nums (os : List (Option Int)) : List Int := os.map fun o => o.getD 0
def rises (is : List Int) : Bool := (is.zip (is.drop 1)).any fun p => decide (p.1 < p.2)
def falls (is : List Int) : Bool := (is.zip (is.drop 1)).any fun p => decide (p.2 < p.1)
def doTurnBack (os : List (Option Int)) : Bool := if os.any (·.isNone) = true then false else rises (nums os) && falls (nums os)
theorem nums_v : ∀ {os : List (Option Int)}, os.any (·.isNone) = false → os.map oI = (nums os).map V.int
  | [], _ => rfl
  | none :: os, h => by simp at h
  | some i :: os, h => by
    have h' : os.any (·.isNone) = false := by simpa using h
    show V.int i :: os.map oI = V.int i :: (nums os).map V.int
    rw [nums_v h']
theorem cut1 (xs : List V) : cutV xs (some 1) none = xs.drop 1 := by
  unfold cutV
  rw [show HT.sIx xs.length 0 (some 1) = min 1 xs.length from HT.sIx_nat _ _ 1, HT.sIx_none]
  cases xs with
  | nil => rfl
  | cons x xs =>
    rw [show min 1 (x :: xs).length = 1 from by simp]
    exact List.take_of_length_le (by simp)
theorem zip_nums (is js : List Int) : (is.map V.int).zip (js.map V.int) = (is.zip js).map fun p => (V.int p.1, V.int p.2) := by
  rw [List.zip_map]
  rfl
section
variable {P : Program} {w : World} {K : Frag} {mg : Str → Option Value} {base : Heap}
def sp_do_turn_back (K : Frag) : Sp := fun vs H Q _ => ∃ (a : Addr) (os : List (Option Int)), vs = [.ref a] ∧ SqL K H a (os.map oI) ∧ os.length ≤ 1000 ∧ RetS H (.bl (doTurnBack os)) Q
theorem has_do_turn_back (F : Fn K mg "do_turn_back" s_do_turn_back) (gL : mg "list" = none) (gZ : mg "zip" = none) (gA : mg "any" = none) : Has P w K mg base 1 "do_turn_back" P_do_turn_back [] (sp_do_turn_back K) := by
  obtain ⟨⟨fd, F⟩, g⟩ := F
  refine ⟨⟨fd, [], ?_, F.kp, .nil, F.bindsN fun _ _ _ _ _ _ us hl => match us, hl with | [_], _ => rfl⟩, g⟩
  refine F.ok sc_do_turn_back (fun vs H Q E h => ?_) (fun cdv A outer s H vs Q E hr h' => ?_)
  · obtain ⟨a, os, rfl, _⟩ := h
    rfl
  · obtain ⟨a, os, rfl, hs, hl, hq⟩ := h'
    refine ⟨_, PSs.nox (pss_cons (ps_if (pt_cmpR op_in_seq pe_non (pv 0) (by rfl)) (pss_one (ps_ret pe_bl)) pss_nil)
      (pss_cons (ps_set (i := 1) sc_do_turn_back.nd rfl (Or.inl rfl) (pe_listZip rfl (by rfl) gL PyProof.Rows.boot_list (by rfl) gZ (pa_cons (pv 0) (pa_cons (pe_slice sl_list (pv 0) (po_some pe_int) po_none) pa_nil))))
      (pss_one (ps_ret (pe_and (pe_callB (cr_any rfl) (by rfl) gA (by decide +kernel) (pa_cons (pe_lc (own := [("one", 2), ("other", 3)]) (g := gTup K 2 (gCons (gName 2) (gCons (gName 3) gNil))) (tt := tYes) rfl sc_do_turn_back.nd (pi_list (pv 1)) (blkOk_by (N := N_do_turn_back) (sc := defScope s_do_turn_back) (by decide +kernel))
          (fun _ _ _ _ _ => pg_tup rfl (pgs_cons (pg_name (i := 2) sc_do_turn_back.nd rfl (Or.inl rfl)) (pgs_cons (pg_name (i := 3) sc_do_turn_back.nd rfl (Or.inl rfl)) pgs_nil))) (fun _ _ _ _ _ => pts_nil) (fun _ _ _ _ _ => pe_cmpR op_lt (pv 2) (pv 3) (nomark _))) pa_nil))
        (pe_one (pe_callB (cr_any rfl) (by rfl) gA (by decide +kernel) (pa_cons (pe_lc (own := [("one", 2), ("other", 3)]) (g := gTup K 2 (gCons (gName 2) (gCons (gName 3) gNil))) (tt := tYes) rfl sc_do_turn_back.nd (pi_list (pv 1)) (blkOk_by (N := N_do_turn_back) (sc := defScope s_do_turn_back) (by decide +kernel))
          (fun _ _ _ _ _ => pg_tup rfl (pgs_cons (pg_name (i := 2) sc_do_turn_back.nd rfl (Or.inl rfl)) (pgs_cons (pg_name (i := 3) sc_do_turn_back.nd rfl (Or.inl rfl)) pgs_nil))) (fun _ _ _ _ _ => pts_nil) (fun _ _ _ _ _ => pe_cmpR op_gt (pv 2) (pv 3) (nomark _))) pa_nil)))))))), ?_⟩
    refine ⟨_, rfl, a, _, rfl, .inl hs, rfl, flat_os os, _, rfl, ?_⟩
    rw [show (if false = true then !inV .non (os.map oI) else inV .non (os.map oI)) = inV .non (os.map oI) from rfl, none_in]
    by_cases hN : os.any (·.isNone) = true
    · rw [hN]
      refine iteT ?_
      have e : doTurnBack os = false := by
        unfold doTurnBack
        rw [if_pos hN]
      rw [e] at hq
      exact hq H (Same.refl H)
    · have hN' : os.any (·.isNone) = false := Bool.eq_false_iff.mpr hN
      rw [hN']
      refine iteF ?_
      have e : doTurnBack os = (rises (nums os) && falls (nums os)) := by
        unfold doTurnBack
        rw [if_neg hN]
      rw [e] at hq
      rw [nums_v hN'] at hs
      have li : (nums os).length ≤ 1000 := by
        unfold nums
        rw [List.length_map]
        exact hl
      refine ⟨_, rfl, _, rfl, _, rfl, a, _, rfl, hs, fun p hp => ?_⟩
      rw [cut1]
      have s1 := same_new (o := .lst (((nums os).map V.int).drop 1)) hp
      refine ⟨a, p, _, _, rfl, sqL_same hs s1, SqL.of upd_same, ?_⟩
      intro H' q ts sH nq nt nqt eq' pr
      rw [← List.map_drop, zip_nums] at pr
      have one : ∀ (f : Int × Int → Bool) (D : Addr) (Hc : Hp), Same H' Hc → (((nums os).zip ((nums os).drop 1)).map f).length = (ts.map V.ref).length := by
        intro f D Hc _
        rw [List.length_map, List.length_map, pr.length, List.length_map]
      have l2 : (ts.map V.ref).length ≤ 16000000 := by
        rw [List.length_map, pr.length, List.length_map, List.length_zip]
        omega
      have pick : ∀ (i : Nat) (x : V) (f : Int × Int → Bool) (y : V), (ts.map V.ref)[i]? = some x → ((((nums os).zip ((nums os).drop 1)).map f).map V.bl)[i]? = some y → ∃ (t : Addr) (p : Int × Int), x = .ref t ∧ H' t = some (.tup [.int p.1, .int p.2]) ∧ y = .bl (f p) := by
        intro i x f y hx hy
        rw [List.getElem?_map, Option.map_eq_some_iff] at hx
        obtain ⟨t, ht, rfl⟩ := hx
        obtain ⟨r, hr, e⟩ := LiI.paired_get pr ht
        rw [List.getElem?_map, Option.map_eq_some_iff] at hr
        obtain ⟨p, hp', rfl⟩ := hr
        rw [List.getElem?_map, List.getElem?_map, hp'] at hy
        exact ⟨t, p, rfl, e, (Option.some.inj hy).symm⟩
      refine ⟨_, rfl, q, rfl, ⟨_, SqL.of eq'⟩, fun D nD => lc_vals walk_list nD ((((nums os).zip ((nums os).drop 1)).map fun p => decide (p.1 < p.2)).map V.bl) (by rw [List.length_map]; exact one _ D H' (Same.refl H')) l2 (fun Hc sc => SqL.of (sc _ _ eq')) ?_ ?_⟩
      · rintro i x y Hc Hc' k hy sc ⟨rfl, hx⟩ hk
        obtain ⟨t, p, rfl, e1, rfl⟩ := pick i x _ y hx hy
        refine ⟨t, _, rfl, SqT.of (sc _ _ e1), rfl, _, _, rfl, _, _, rfl, rfl, rfl, ?_⟩
        exact ⟨_, rfl, _, rfl, _, _, rfl, rfl, hk _ (Same.refl _)⟩
      · intro Hc sc eD
        refine ⟨D, _, rfl, SqL.of eD, _, rfl, ?_⟩
        have e1 : (((nums os).zip ((nums os).drop 1)).map fun p => decide (p.1 < p.2)).any id = rises (nums os) := by
          rw [List.any_map]
          rfl
        rw [e1]
        have all : Same H Hc := fun b o z => sc _ _ (sH _ _ (s1 _ _ z))
        cases hri : rises (nums os) with
        | false =>
          refine iteF ?_
          rw [hri] at hq
          exact hq Hc all
        | true =>
        refine iteT ?_
        rw [hri] at hq
        refine ⟨_, rfl, q, rfl, ⟨_, SqL.of (sc _ _ eq')⟩, fun D2 nD2 => lc_vals walk_list nD2 ((((nums os).zip ((nums os).drop 1)).map fun p => decide (p.2 < p.1)).map V.bl) (by rw [List.length_map]; exact one _ D H' (Same.refl H')) l2 (fun Hd sd => SqL.of (sd _ _ (sc _ _ eq'))) ?_ ?_⟩
        · rintro i x y Hd Hd' k hy sd ⟨rfl, hx⟩ hk
          obtain ⟨t, p, rfl, e1, rfl⟩ := pick i x _ y hx hy
          refine ⟨t, _, rfl, SqT.of (sd _ _ (sc _ _ e1)), rfl, _, _, rfl, _, _, rfl, rfl, rfl, ?_⟩
          exact ⟨_, rfl, _, rfl, _, _, rfl, rfl, hk _ (Same.refl _)⟩
        · intro Hd sd eD2
          refine ⟨D2, _, rfl, SqL.of eD2, ?_⟩
          have e2 : (((nums os).zip ((nums os).drop 1)).map fun p => decide (p.2 < p.1)).any id = falls (nums os) := by
            rw [List.any_map]
            rfl
          rw [e2]
          exact hq Hd fun b o z => sd _ _ (all _ _ z)
end
end G

set_option Elab.async false
set_option linter.all false
set_option maxRecDepth 100000
set_option maxHeartbeats 4000000
namespace G
open PySem PySem.Spec PyProof.Rows L2 U
open PySem.W (Frag)
/-! ### can_tell -/
def oD : Option Int → PyData
  | none => .none
  | some i => .int i
def Tab.d (t : Tab) : PyData := .tuple [.int t.fa, .int t.sh, .int t.st, .int t.lo, .int t.hi]
def tabsD (ts : List Tab) : PyData := .tuple (ts.map Tab.d)
def pairD (p : Option Int × Option Int) : PyData := .tuple [oD p.1, oD p.2]
theorem dq_oI {F : Addr → Prop} {H : Hp} (o : Option Int) : Dq F H (oI o) (oD o) := by
  cases o with
  | none => exact .non
  | some i => exact .int i
theorem dq_oI' {F : Addr → Prop} {H : Hp} {o : Option Int} {v : V} (h : Dq F H v (oD o)) : v = oI o := by
  cases o with
  | none =>
    cases h
    rfl
  | some i =>
    cases h
    rfl
theorem tabIs {F : Addr → Prop} {H : Hp} {v : V} {t : Tab} (h : Dq F H v t.d) : ∃ a, v = .ref a ∧ F a ∧ H a = some (.tup t.vs) := by
  cases h with
  | tup f e al =>
    cases al with
    | cons h1 al =>
    cases al with
    | cons h2 al =>
    cases al with
    | cons h3 al =>
    cases al with
    | cons h4 al =>
    cases al with
    | cons h5 al =>
    cases al
    cases h1
    cases h2
    cases h3
    cases h4
    cases h5
    exact ⟨_, rfl, f, e⟩
theorem pairIs {F : Addr → Prop} {H : Hp} {v : V} {p : Option Int × Option Int} (h : Dq F H v (pairD p)) : ∃ a, v = .ref a ∧ F a ∧ H a = some (.tup (pairV p)) := by
  cases h with
  | tup f e al =>
    cases al with
    | cons h1 al =>
    cases al with
    | cons h2 al =>
    cases al
    rw [dq_oI' h1, dq_oI' h2] at e
    exact ⟨_, rfl, f, e⟩
def canTell (ts : List Tab) (p : Prn) : Bool := !((doTurnBack (ts.map fun t => (stretchBy t p).1)) || (doTurnBack (ts.map fun t => (stretchBy t p).2)))
section
variable {P : Program} {w : World} {K : Frag} {mg : Str → Option Value} {base : Heap}
abbrev scT : Scope := { kind := .function, names := [(".0", .local), ("at", .cell), ("do_turn_back", .globalImplicit), ("stretches", .cell)], isGenerator := false, isCoroutine := false }
def sp_can_tell : Sp := fun vs H Q _ => ∃ (F : Addr → Prop) (v : V) (ts : List Tab) (p : Prn), vs = [v, p.v] ∧ Dq F H v (tabsD ts) ∧ ts.length ≤ 1000 ∧ (∀ t ∈ ts, t.ok = true) ∧ RetS H (.bl (canTell ts p)) Q
theorem has_can_tell (F : Fn K mg "can_tell" s_can_tell) (hS : Has P w K mg base 2 "stretch_by" P_stretch_by [] (sp_stretch_by K)) (hD : Has P w K mg base 1 "do_turn_back" P_do_turn_back [] (sp_do_turn_back K)) (gR : mg "range" = none) (gA : mg "any" = none) (cP : CI mg "PAIR" 2) : Has P w K mg base 3 "can_tell" P_can_tell [] sp_can_tell := by
  obtain ⟨⟨fd, F⟩, g⟩ := F
  refine ⟨⟨fd, [], ?_, F.kp, .nil, F.bindsN fun _ _ _ _ _ _ us hl => match us, hl with | [_, _], _ => rfl⟩, g⟩
  refine F.ok sc_can_tell (fun vs H Q E h => ?_) (fun cdv A outer s H vs Q E hr h' => ?_)
  · obtain ⟨F, v, ts, p, rfl, _⟩ := h
    rfl
  · obtain ⟨F, v, ts, p, rfl, hd, hl, hok, hq⟩ := h'
    refine ⟨_, PSs.nox (pss_cons (ps_set (i := 2) sc_can_tell.nd rfl (Or.inr rfl) (pe_lc (own := [("table", 3)]) (g := gName 3) (tt := tYes) rfl sc_can_tell.nd (pi_tup (pv 0)) (blkOk_by (N := N_can_tell) (sc := defScope s_can_tell) (by decide +kernel))
        (fun _ _ _ _ _ => pg_name (i := 3) sc_can_tell.nd rfl (Or.inl rfl)) (fun _ _ _ _ _ => pts_nil) (fun _ _ _ _ _ => pe_has hS hr (pa_cons (pv 3) (pa_cons (pv 1) pa_nil)))))
      (pss_one (ps_ret (pe_not (pe_callB (cr_any rfl) (by rfl) gA (by decide +kernel) (pa_cons (pe_lc (own := [("at", 5)]) (g := gName 5) (tt := tYes) (te := tCall (sp_do_turn_back K) [] E0 (tCons (tLc (iList K (tVar 2)) (gName 4) tYes (tOp (rIxT K) (tVar 4) (tVar 5)) [4]) tNil)) rfl sc_can_tell.nd (pi_range1 (by rfl) gR (pa_cons (pe_ci cP) pa_nil)) (blkOk_by (N := N_can_tell) (sc := defScope s_can_tell) (by decide +kernel))
        (fun _ _ _ _ _ => pg_name (i := 5) sc_can_tell.nd rfl (Or.inr rfl)) (fun _ _ _ _ _ => pts_nil) (fun _ _ _ _ _ => pe_has (hD.mono (by omega)) hr (pa_cons (pe_lc (own := [("stretch", 4)]) (wi := iList K (tVar 2)) (g := gName 4) (tt := tYes) (te := tOp (rIxT K) (tVar 4) (tVar 5)) rfl sc_can_tell.nd (pi_list (pv 2)) (blkOk_by (N := N_can_tell) (sc := scT) (by decide +kernel))
          (fun _ _ _ _ _ => pg_name (i := 4) sc_can_tell.nd rfl (Or.inl rfl)) (fun _ _ _ _ _ => pts_nil) (fun _ _ _ _ _ => pe_ix ix_tup (pv 4) (pv 5) (fun _ _ => rfl))) pa_nil))) pa_nil)))))), ?_⟩
    cases hd with
    | @tup a xs _ f e al =>
    have lx : xs.length = ts.length := by
      rw [al.len, List.length_map]
    refine ⟨_, rfl, a, rfl, ⟨_, SqT.of e⟩, fun D nD => lc_data walk_tup nD (ts.map fun t => pairD (stretchBy t p)) (by rw [List.length_map, lx]) (by omega) (fun Hc sc => SqT.of (sc _ _ e)) ?_ ?_⟩
    · rintro i x d Hc Hc' k hd' sc ⟨rfl, hx⟩ hk
      rw [List.getElem?_map, Option.map_eq_some_iff] at hd'
      obtain ⟨t, ht, rfl⟩ := hd'
      obtain ⟨d, hd2, dq⟩ := al.get hx
      rw [List.getElem?_map, ht] at hd2
      cases hd2
      obtain ⟨b, rfl, _, eb⟩ := tabIs dq
      refine ⟨rfl, _, rfl, _, rfl, b, t, p, rfl, SqT.of (sc _ _ eb), hok t (List.mem_of_getElem? ht), fun H4 c s4 nc ec => ?_⟩
      exact hk _ H4 s4 (.tup nc ec (.cons (dq_oI _) (.cons (dq_oI _) .nil)))
    · intro Hc sc dq
      cases dq with
      | @lst _ ys _ fD eD alD =>
      have ly : ys.length = ts.length := by
        rw [alD.len, List.length_map]
      refine ⟨2, rfl, (by omega), (by omega), fun D1 nD1 => lc_vals walk_range nD1 ([doTurnBack (ts.map fun t => (stretchBy t p).1), doTurnBack (ts.map fun t => (stretchBy t p).2)].map V.bl) rfl (by decide) (fun _ _ => True.intro) ?_ ?_⟩
      · rintro i x y H1 H1' k hy s1 ⟨rfl, rfl⟩ hk
        have hi : ∃ f : Option Int × Option Int → Option Int, (∀ q, atI (pairV q) (0 + (i : Int)) = some (oI (f q))) ∧ y = .bl (doTurnBack (ts.map fun t => f (stretchBy t p))) := by
          match i, hy with
          | 0, hy => exact ⟨Prod.fst, fun q => atI_nat (j := 0) rfl, (Option.some.inj hy).symm⟩
          | 1, hy => exact ⟨Prod.snd, fun q => atI_nat (j := 1) rfl, (Option.some.inj hy).symm⟩
          | i + 2, hy =>
            simp at hy
        obtain ⟨pj, hpj, rfl⟩ := hi
        refine ⟨rfl, _, rfl, D, rfl, ⟨_, SqL.of (s1 _ _ eD)⟩, fun D2 nD2 => lc_vals walk_list nD2 ((ts.map fun t => pj (stretchBy t p)).map oI) (by rw [List.length_map, List.length_map, ly]) (by omega) (fun H2 s2 => SqL.of (s2 _ _ (s1 _ _ eD))) ?_ ?_⟩
        · rintro j x y H2 H2' k2 hy sc2 ⟨rfl, hx⟩ hk2
          obtain ⟨d, hd2, dq⟩ := alD.get hx
          rw [List.getElem?_map, Option.map_eq_some_iff] at hd2
          obtain ⟨t, ht, rfl⟩ := hd2
          rw [List.getElem?_map, List.getElem?_map, ht] at hy
          have hy : oI (pj (stretchBy t p)) = y := Option.some.inj hy
          subst hy
          obtain ⟨b, rfl, _, eb⟩ := pairIs dq
          exact ⟨rfl, _, rfl, _, rfl, b, _, _, _, rfl, rfl, SqT.of (sc2 _ _ (s1 _ _ eb)), hpj _, hk2 _ (Same.refl _)⟩
        · intro H2 sc2 e2
          refine ⟨D2, _, rfl, SqL.of e2, by rw [List.length_map]; exact hl, fun H3 s3 => hk _ ?_⟩
          exact fun b o z => s3 _ _ (sc2 _ _ z)
      · intro H1 s1 e1
        refine ⟨D1, _, rfl, SqL.of e1, _, rfl, ?_⟩
        have e : canTell ts p = !([doTurnBack (ts.map fun t => (stretchBy t p).1), doTurnBack (ts.map fun t => (stretchBy t p).2)].any id) := by
          unfold canTell
          simp
        rw [e] at hq
        exact hq H1 fun b o z => s1 _ _ (sc _ _ z)
end
end G

set_option Elab.async false
set_option linter.all false
set_option maxRecDepth 100000
set_option maxHeartbeats 4000000
namespace U
open PySem PySem.Spec PyProof.Rows L2
open PySem.W (Frag)
/-! ### a field, of an instance or of one with slots -/
def AttrAt (K : Frag) (H : Hp) (x : V) (f : Str) (v : V) : Prop :=
  (∃ a C dx fs, x = .ref a ∧ H a = some (.ins C dx fs) ∧ Cls K C ∧ NoAttr K C f ∧ fs.lookup f = some v) ∨
  ∃ a C dx p vs i, x = .ref a ∧ SlX.Slt H a C dx vs ∧ SlX.SCls K C ∧ SlX.Slot1 K C f p i ∧ vs[i]? = some (some v)
def tAt (K : Frag) (ta : TE) (f : Str) : TE := fun σ H Q => ta σ H fun x H1 => ∃ v, AttrAt K H1 x f v ∧ Q v H1
theorem AttrAt.same {K : Frag} {H H' : Hp} {x v : V} {f : Str} (h : AttrAt K H x f v) (s : Same H H') : AttrAt K H' x f v := by
  rcases h with ⟨a, C, dx, fs, e, h, r⟩ | ⟨a, C, dx, p, vs, i, e, h, r⟩
  · exact .inl ⟨a, C, dx, fs, e, s _ _ h, r⟩
  · refine .inr ⟨a, C, dx, p, vs, i, e, ?_, r⟩
    rcases h with ⟨h, z⟩ | ⟨h, z⟩
    · exact .inl ⟨s _ _ h, z⟩
    · exact .inr ⟨s _ _ h, s _ _ z⟩
section
variable {X : Cx}
theorem pe_attr {e : Expr} {f : Str} {pos : Pos} {ta : TE} (he : PE X e ta) (hb : attributeBase e f X.env (eval e X.env) = eval e X.env := by rfl) : PE X (.Attribute e f pos) (tAt X.K ta f) := by
  refine ⟨fun pins s σ H Q I h => ?_⟩
  refine attr_of hb (thn (he.run pins s σ H _ I h) fun u s1 ⟨x, H1, I1, rx, v, ha, q⟩ => ?_)
  rcases ha with ⟨a, C, dx, fs, rfl, h1, h2, h3, h4⟩ | ⟨a, C, dx, p, vs, i, rfl, h1, h2, h3, h4⟩
  · obtain rfl : u = Value.ref a := rx
    exact getattr_ok I1 h1 h2 h3 h4 fun u' s2 I2 ru => ⟨v, H1, I2, ru, q⟩
  · obtain rfl : u = Value.ref a := rx
    exact SlX.getslot_ok I1 h1 h2 h3 h4 fun u' s2 I2 ru => ⟨v, H1, I2, ru, q⟩
/-! ### written tuples of words -/
def CT (K : Frag) (mg : Str → Option Value) (x : Str) (vs : List V) : Prop := ∃ a, mg x = some (.ref a) ∧ ∀ H, SqT K H a vs
theorem pe_ct {K : Frag} {x : Str} {vs : List V} {pos : Pos} (h : CT K X.mg x vs) (hg : Gl X x := by rfl) (hd : (x == ("__debug__" : Str)) = false := by decide) : ∃ a, (∀ H, SqT K H a vs) ∧ PE X (.Name x pos) (tC (.ref a)) := by
  obtain ⟨a, h, q⟩ := h
  exact ⟨a, q, pe_glob hg h rfl hd⟩
end
/-! ### dicts read back -/
theorem zip_two {α β : Type} : ∀ {as : List α} {bs : List β} {ps : List (α × β)}, as.length = bs.length → as.zip bs = ps → as = ps.map (·.1) ∧ bs = ps.map (·.2)
  | [], [], _, _, h => by
    subst h
    exact ⟨rfl, rfl⟩
  | [], _ :: _, _, l, _ => by cases l
  | _ :: _, [], _, l, _ => by cases l
  | a :: as, b :: bs, ps, l, h => by
    subst h
    obtain ⟨h1, h2⟩ := zip_two (ps := as.zip bs) (Nat.succ.inj l) rfl
    exact ⟨by rw [List.zip_cons_cons, List.map_cons, ← h1], by rw [List.zip_cons_cons, List.map_cons, ← h2]⟩
theorem dk_inv {F : Addr → Prop} {H : Hp} {v : V} {ps : List (PyData × PyData)} (h : Dq F H v (.dict ps)) : ∃ a kvs, v = .ref a ∧ F a ∧ H a = some (.dK kvs) ∧ (kvs.map fun kv => kD kv.1) = ps.map (·.1) ∧ DqAll F H (kvs.map (·.2)) (ps.map (·.2)) := by
  generalize hd : PyData.dict ps = d at h
  cases h with
  | @dk a kvs ds f e al =>
    have hd : ps = _ := PyData.dict.inj hd
    have l := al.len
    rw [List.length_map] at l
    obtain ⟨h1, h2⟩ := zip_two (ps := ps) (by rw [List.length_map]; exact l) hd.symm
    exact ⟨a, kvs, rfl, f, e, h1, h2 ▸ al⟩
  | non => cases hd
  | bl => cases hd
  | int => cases hd
  | str => cases hd
  | lst => cases hd
  | tup => cases hd
theorem dk_mk {F : Addr → Prop} {H : Hp} {a : Addr} {kvs : List (Key × V)} {ps : List (PyData × PyData)} (f : F a) (e : H a = some (.dK kvs)) (h1 : (kvs.map fun kv => kD kv.1) = ps.map (·.1)) (h2 : DqAll F H (kvs.map (·.2)) (ps.map (·.2))) : Dq F H (.ref a) (.dict ps) := by
  have z := Dq.dk f e h2
  rw [h1] at z
  have : (ps.map (·.1)).zip (ps.map (·.2)) = ps := by
    rw [List.zip_map']
    simp
  rw [this] at z
  exact z
theorem kD_str {k : Key} {s : Str} (h : kD k = .str s) : k = Sum.inr s := by
  cases k with
  | inl i => cases h
  | inr x =>
    cases h
    rfl
theorem keys_str {α : Type} {kvs : List (Key × V)} {f : α → Str} {xs : List α} (h : (kvs.map fun kv => kD kv.1) = xs.map fun x => .str (f x)) : kvs.map (·.1) = (xs.map f).map Sum.inr := by
  induction xs generalizing kvs with
  | nil =>
    cases kvs with
    | nil => rfl
    | cons _ _ => cases h
  | cons x xs ih =>
    cases kvs with
    | nil => cases h
    | cons kv kvs =>
      obtain ⟨h1, h2⟩ := List.cons.inj h
      rw [List.map_cons, ih h2, kD_str h1]
      rfl
end U

set_option Elab.async false
set_option linter.all false
set_option maxRecDepth 100000
set_option maxHeartbeats 4000000
namespace G
open PySem PySem.Spec PyProof.Rows L2 U
open PySem.W (Frag)
/-! ### literals and claims -/
abbrev Labs := List (Str × List Tab)
abbrev People := List (Str × Int × Int)
def labsD (ls : Labs) : PyData := .dict (ls.map fun l => (.str l.1, tabsD l.2))
def peopleD (ps : People) : PyData := .dict (ps.map fun p => (.str p.1, .tuple [.int p.2.1, .int p.2.2]))
def tabsOf (ls : Labs) (s : Str) : Option (List Tab) := (ls.find? fun l => decide (l.1 = s)).map (·.2)
def manyT (ls : Labs) : PyData → Int
  | .str s => match tabsOf ls s with
    | some ts => ts.length
    | none => 0
  | _ => 0
def wLit : List Str := ["from", "before"]
def wBnd : List Str := ["least", "most"]
def isLitD (ls : Labs) : PyData → Bool
  | .tuple [x0, x1, x2, x3] => isWordD x0 wLit && (isWordD x1 (ls.map (·.1)) && (isDayD x2 && isIntD x3 (some 1) (some (manyT ls x1 - 1))))
  | _ => false
def sameI : PyData → PyData → Bool
  | .int i, .int j => decide (i = j)
  | _, _ => false
def isClaimD (ps : People) (ls : Labs) (d : PyData) : Bool := isLitD ls d || match d with
  | .tuple [x0, x1, x2, x3] => isWordD x0 wBnd && (isWordD x1 (ps.map (·.1)) && (isDayD x2 && isIntD x3 none none))
  | .tuple [x0, x1, x2, x3, x4] => isWordD x0 ["rose"] && (isWordD x1 (ps.map (·.1)) && (isDayD x2 && (isDayD x3 && (!(sameI x2 x3) && isIntD x4 none none))))
  | _ => false
theorem tup4 {d : PyData} (h : isTupD d 4 = true) : ∃ x0 x1 x2 x3, d = .tuple [x0, x1, x2, x3] := by
  cases d with
  | tuple ds =>
    have h : ds.length = 4 := by
      have := of_decide_eq_true h
      omega
    match ds, h with
    | [x0, x1, x2, x3], _ => exact ⟨x0, x1, x2, x3, rfl⟩
  | _ => cases h
theorem not4 {ls : Labs} {d : PyData} (h : isTupD d 4 = false) : isLitD ls d = false := by
  unfold isLitD
  split
  · cases h
  · rfl
section
variable {P : Program} {w : World} {K : Frag} {mg : Str → Option Value} {base : Heap}
theorem labs_words {F : Addr → Prop} {H : Hp} {v : V} {ls : Labs} (h : Dq F H v (labsD ls)) : ∃ a, v = .ref a ∧ WordsAt K H a (ls.map (·.1)) := by
  obtain ⟨a, kvs, rfl, _, e, k, _⟩ := dk_inv h
  refine ⟨a, rfl, .inr ⟨kvs, e, ?_⟩⟩
  rw [List.map_map] at k
  exact keys_str (f := fun l : Str × List Tab => l.1) k
theorem people_words {F : Addr → Prop} {H : Hp} {v : V} {ps : People} (h : Dq F H v (peopleD ps)) : ∃ a, v = .ref a ∧ WordsAt K H a (ps.map (·.1)) := by
  obtain ⟨a, kvs, rfl, _, e, k, _⟩ := dk_inv h
  refine ⟨a, rfl, .inr ⟨kvs, e, ?_⟩⟩
  rw [List.map_map] at k
  exact keys_str (f := fun l : Str × Int × Int => l.1) k
/-- a dict's value by its key -/
theorem val_at {α : Type} {F : Addr → Prop} {H : Hp} {f : α → Str} {g : α → PyData} {s : Str} : ∀ {xs : List α} {kvs : List (Key × V)}, kvs.map (·.1) = (xs.map f).map Sum.inr → DqAll F H (kvs.map (·.2)) (xs.map g) → ∀ x, xs.find? (fun x => decide (f x = s)) = some x → ∃ v, valV kvs (Sum.inr s) = some v ∧ Dq F H v (g x)
  | [], _, _, _, x, h => by simp at h
  | y :: ys, [], h, _, x, _ => by cases h
  | y :: ys, (k, v) :: kvs, h, al, x, hx => by
    obtain ⟨h1, h2⟩ := List.cons.inj h
    have h1 : k = Sum.inr (f y) := h1
    subst h1
    cases al with
    | cons q al =>
      unfold valV
      rw [List.find?_cons] at hx ⊢
      by_cases e : f y = s
      · rw [decide_eq_true e] at hx
        have hx : y = x := Option.some.inj hx
        subst hx
        subst e
        rw [decide_eq_true rfl]
        exact ⟨v, rfl, q⟩
      · rw [decide_eq_false e] at hx
        rw [decide_eq_false fun z => e (Sum.inr.inj z)]
        have := val_at h2 al x hx
        unfold valV at this
        exact this
theorem labs_get {F : Addr → Prop} {H : Hp} {v : V} {ls : Labs} {s : Str} {ts : List Tab} (h : Dq F H v (labsD ls)) (hs : tabsOf ls s = some ts) : ∃ a u, v = .ref a ∧ DGet H a (.str s) (some u) ∧ Dq F H u (tabsD ts) := by
  obtain ⟨a, kvs, rfl, _, e, k, al⟩ := dk_inv h
  rw [List.map_map] at k al
  unfold tabsOf at hs
  rw [Option.map_eq_some_iff] at hs
  obtain ⟨l, hl, rfl⟩ := hs
  obtain ⟨u, hu, dq⟩ := val_at (f := fun l : Str × List Tab => l.1) (g := fun l => tabsD l.2) (keys_str k) al l hl
  exact ⟨a, u, rfl, hu ▸ DGet.k (k := Sum.inr s) e, dq⟩
theorem word_tabs {ls : Labs} {d : PyData} (h : isWordD d (ls.map (·.1)) = true) : ∃ s ts, d = .str s ∧ tabsOf ls s = some ts := by
  cases d with
  | str s =>
    have h : s ∈ ls.map (·.1) := of_decide_eq_true h
    obtain ⟨l, hl, e⟩ := List.mem_map.mp h
    cases q : ls.find? (fun l => decide (l.1 = s)) with
    | some l' =>
      refine ⟨s, l'.2, rfl, ?_⟩
      unfold tabsOf
      rw [q]
      rfl
    | none =>
      rw [List.find?_eq_none] at q
      exact absurd (decide_eq_true e) (q l hl)
  | _ => cases h
def sp_is_literal (K : Frag) : Sp := fun vs H Q _ => ∃ (F G : Addr → Prop) (c lv v : V) (ls : Labs) (d : PyData), vs = [c, v] ∧ AttrAt K H c "own_labs" lv ∧ Dq F H lv (labsD ls) ∧ Dq G H v d ∧ Q (.bl (isLitD ls d)) H
theorem has_is_literal (F : Fn K mg "is_literal" s_is_literal) (hT : Has P w K mg base 1 "is_tuple" P_is_tuple [] sp_is_tuple) (hW : Has P w K mg base 1 "is_word" P_is_word [] (sp_is_word K)) (hD : Has P w K mg base 2 "is_day" P_is_day [] sp_is_day) (hI : Has P w K mg base 1 "is_integer" P_is_integer [] sp_is_integer)
    (gL : mg "len" = none) (c4 : CI mg "FOUR" 4) (cL : CT K mg "LITERALS" (wLit.map V.str)) : Has P w K mg base 3 "is_literal" P_is_literal [] (sp_is_literal K) := by
  obtain ⟨⟨fd, F⟩, g⟩ := F
  refine ⟨⟨fd, [], ?_, F.kp, .nil, F.bindsN fun _ _ _ _ _ _ us hl => match us, hl with | [_, _], _ => rfl⟩, g⟩
  obtain ⟨aL, mL, qL⟩ := cL
  refine F.ok sc_is_literal (fun vs H Q E h => ?_) (fun cdv A outer s H vs Q E hr h' => ?_)
  · obtain ⟨F, G, c, lv, v, ls, d, rfl, _⟩ := h
    rfl
  · obtain ⟨F, G, c, lv, v, ls, d, rfl, hc, hl, hd, hq⟩ := h'
    refine ⟨_, PSs.nox (pss_cons (ps_if (PW.pt (pw_or (pt_not (pt_val (pe_has (hT.mono (by omega)) hr (pa_cons (pv 1) (pa_cons (pe_ci c4) pa_nil)))))
        (pw_or (pt_not (pt_val (pe_has (hW.mono (by omega)) hr (pa_cons (pe_ix ix_tup (pv 1) pe_int (fun _ _ => rfl)) (pa_cons (pe_glob (by rfl) mL (v := .ref aL) rfl) pa_nil)))))
        (pw_or1 (pt_not (pt_val (pe_has (hW.mono (by omega)) hr (pa_cons (pe_ix ix_tup (pv 1) pe_int (fun _ _ => rfl)) (pa_cons (pe_attr (pv 0)) pa_nil))))))))) (pss_one (ps_ret pe_bl)) pss_nil)
      (pss_one (ps_ret (pe_and (pe_has hD hr (pa_cons (pe_ix ix_tup (pv 1) pe_int (fun _ _ => rfl)) pa_nil))
        (pe_one (pe_has (hI.mono (by omega)) hr (pa_cons (pe_ix ix_tup (pv 1) (pe_un un_neg pe_int) (fun _ _ => rfl)) (pa_cons pe_int (pa_cons (pe_sub (pe_callB call_len_seq (by rfl) gL PySem.boot_len (pa_cons (pe_dget (hu_of hr) (pe_attr (pv 0)) (pe_ix ix_tup (pv 1) pe_int (fun _ _ => rfl)) (by intro _ _; rfl)) pa_nil)) pe_int) pa_nil))))))))), ?_⟩
    refine ⟨_, rfl, G, v, d, 4, rfl, hd, _, rfl, ?_⟩
    cases h4 : isTupD d 4 with
    | false =>
      refine iteT ?_
      refine iteT ?_
      rw [not4 h4] at hq
      exact hq
    | true =>
    refine iteF ?_
    obtain ⟨x0, x1, x2, x3, rfl⟩ := tup4 h4
    cases hd with
    | @tup a xs _ f e al =>
    cases al with
    | @cons v0 _ _ _ d0 al =>
    cases al with
    | @cons v1 _ _ _ d1 al =>
    cases al with
    | @cons v2 _ _ _ d2 al =>
    cases al with
    | @cons v3 _ _ _ d3 al =>
    cases al
    refine ⟨_, rfl, a, _, 0, v0, rfl, rfl, SqT.of e, atI_nat (j := 0) rfl, G, v0, x0, aL, wLit, rfl, d0, .inl (qL H), _, rfl, ?_⟩
    have hq : Q (.bl (isWordD x0 wLit && (isWordD x1 (ls.map (·.1)) && (isDayD x2 && isIntD x3 (some 1) (some (manyT ls x1 - 1)))))) H := hq
    cases h0 : isWordD x0 wLit with
    | false =>
      refine iteT ?_
      refine iteT ?_
      rw [h0] at hq
      exact hq
    | true =>
    refine iteF ?_
    rw [h0, Bool.true_and] at hq
    obtain ⟨b, rfl, wb⟩ := labs_words (K := K) hl
    refine ⟨_, rfl, a, _, 1, v1, rfl, rfl, SqT.of e, atI_nat (j := 1) rfl, _, rfl, _, hc, G, v1, x1, b, ls.map (·.1), rfl, d1, wb, _, rfl, ?_⟩
    cases h1 : isWordD x1 (ls.map (·.1)) with
    | false =>
      refine iteT ?_
      rw [h1] at hq
      exact hq
    | true =>
    refine iteF ?_
    rw [h1, Bool.true_and] at hq
    refine ⟨_, rfl, a, _, 2, v2, rfl, rfl, SqT.of e, atI_nat (j := 2) rfl, G, v2, x2, rfl, d2, _, rfl, ?_⟩
    refine and_go hq fun _ hq => ?_
    obtain ⟨sn, ts, rfl, hts⟩ := word_tabs h1
    cases d1
    obtain ⟨b', u, eb, hg, du⟩ := labs_get hl hts
    cases eb
    cases du with
    | @tup at' ys _ _ et alt =>
    have lt : ys.length = ts.length := by
      rw [alt.len, List.length_map]
    refine ⟨_, rfl, ⟨1, rfl, a, _, -1, v3, rfl, rfl, SqT.of e, rfl, ?_⟩⟩
    refine ⟨_, rfl, _, hc, ⟨_, rfl, a, _, 1, _, rfl, rfl, SqT.of e, atI_nat (j := 1) rfl, b, _, rfl, hg, at', ys, rfl, .inr (SqT.of et), ?_⟩⟩
    refine ⟨_, _, rfl, rfl, G, v3, x3, some 1, some _, rfl, d3, ?_⟩
    have em : manyT ls (.str sn) = (ys.length : Int) := by
      show (match tabsOf ls sn with | some ts => (ts.length : Int) | none => 0) = _
      rw [hts, lt]
    rw [em] at hq
    exact hq
end
end G

set_option Elab.async false
set_option linter.all false
set_option maxRecDepth 100000
set_option maxHeartbeats 4000000
namespace G
open PySem PySem.Spec PyProof.Rows L2 U
open PySem.W (Frag)
def restD (ps : People) : PyData → Bool
  | .tuple [x0, x1, x2, x3] => isWordD x0 wBnd && (isWordD x1 (ps.map (·.1)) && (isDayD x2 && isIntD x3 none none))
  | .tuple [x0, x1, x2, x3, x4] => isWordD x0 ["rose"] && (isWordD x1 (ps.map (·.1)) && (isDayD x2 && (isDayD x3 && (!(sameI x2 x3) && isIntD x4 none none))))
  | _ => false
theorem claim_eq (ps : People) (ls : Labs) (d : PyData) : isClaimD ps ls d = (isLitD ls d || restD ps d) := rfl
theorem tup5 {d : PyData} (h : isTupD d 5 = true) : ∃ x0 x1 x2 x3 x4, d = .tuple [x0, x1, x2, x3, x4] := by
  cases d with
  | tuple ds =>
    have h : ds.length = 5 := by
      have := of_decide_eq_true h
      omega
    match ds, h with
    | [x0, x1, x2, x3, x4], _ => exact ⟨x0, x1, x2, x3, x4, rfl⟩
  | _ => cases h
theorem not45 {ps : People} {d : PyData} (h : isTupD d 4 = false) (h5 : isTupD d 5 = false) : restD ps d = false := by
  unfold restD
  split
  · cases h
  · cases h5
  · rfl
theorem day_int {d : PyData} (h : isDayD d = true) : ∃ i, d = .int i := by
  cases d with
  | int i => exact ⟨i, rfl⟩
  | _ => cases h
section
variable {P : Program} {w : World} {K : Frag} {mg : Str → Option Value} {base : Heap}
def sp_is_claim (K : Frag) : Sp := fun vs H Q _ => ∃ (F F' G : Addr → Prop) (c lv pv v : V) (ls : Labs) (ps : People) (d : PyData), vs = [c, v] ∧ AttrAt K H c "own_labs" lv ∧ Dq F H lv (labsD ls) ∧ AttrAt K H c "own_people" pv ∧ Dq F' H pv (peopleD ps) ∧ Dq G H v d ∧ RetS H (.bl (isClaimD ps ls d)) Q
theorem has_is_claim (F : Fn K mg "is_claim" s_is_claim) (hL : Has P w K mg base 3 "is_literal" P_is_literal [] (sp_is_literal K)) (hT : Has P w K mg base 1 "is_tuple" P_is_tuple [] sp_is_tuple) (hW : Has P w K mg base 1 "is_word" P_is_word [] (sp_is_word K)) (hD : Has P w K mg base 2 "is_day" P_is_day [] sp_is_day) (hI : Has P w K mg base 1 "is_integer" P_is_integer [.non, .non] sp_is_integer)
    (c4 : CI mg "FOUR" 4) (c5 : CI mg "FIVE" 5) (cR : CS mg "ROSE" "rose") (cB : CT K mg "BOUNDS" (wBnd.map V.str)) : Has P w K mg base 4 "is_claim" P_is_claim [] (sp_is_claim K) := by
  obtain ⟨⟨fd, F⟩, g⟩ := F
  refine ⟨⟨fd, [], ?_, F.kp, .nil, F.bindsN fun _ _ _ _ _ _ us hl => match us, hl with | [_, _], _ => rfl⟩, g⟩
  obtain ⟨aB, mB, qB⟩ := cB
  refine F.ok sc_is_claim (fun vs H Q E h => ?_) (fun cdv A outer s H vs Q E hr h' => ?_)
  · obtain ⟨F, F', G, c, lv, pv, v, ls, ps, d, rfl, _⟩ := h
    rfl
  · obtain ⟨F, F', G, c, lv, pv0, v, ls, ps, d, rfl, hc, hl, hcp, hp, hd, hq⟩ := h'
    refine ⟨_, PSs.nox (pss_cons (ps_if (pt_val (pe_has hL hr (pa_cons (pv 0) (pa_cons (pv 1) pa_nil)))) (pss_one (ps_ret pe_bl)) pss_nil)
      (pss_cons (ps_if (pt_val (pe_has (hT.mono (by omega)) hr (pa_cons (pv 1) (pa_cons (pe_ci c4) pa_nil))))
        (pss_cons (ps_if (PW.pt (pw_or (pt_not (pt_val (pe_has (hW.mono (by omega)) hr (pa_cons (pe_ix ix_tup (pv 1) pe_int (fun _ _ => rfl)) (pa_cons (pe_glob (by rfl) mB (v := .ref aB) rfl) pa_nil)))))
          (pw_or1 (pt_not (pt_val (pe_has (hW.mono (by omega)) hr (pa_cons (pe_ix ix_tup (pv 1) pe_int (fun _ _ => rfl)) (pa_cons (pe_attr (pv 0)) pa_nil)))))))) (pss_one (ps_ret pe_bl)) pss_nil)
        (pss_one (ps_ret (pe_and (pe_has (hD.mono (by omega)) hr (pa_cons (pe_ix ix_tup (pv 1) pe_int (fun _ _ => rfl)) pa_nil)) (pe_one (pe_has (hI.mono (by omega)) hr (pa_cons (pe_ix ix_tup (pv 1) (pe_un un_neg pe_int) (fun _ _ => rfl)) pa_nil))))))) pss_nil)
      (pss_cons (ps_if (PW.pt (pw_or (pt_not (pt_val (pe_has (hT.mono (by omega)) hr (pa_cons (pv 1) (pa_cons (pe_ci c5) pa_nil)))))
        (pw_or (pt_not (pt_val (pe_has (hW.mono (by omega)) hr (pa_cons (pe_ix ix_tup (pv 1) pe_int (fun _ _ => rfl)) (pa_cons (pe_tup (pa_cons (pe_cs cR) pa_nil)) pa_nil)))))
        (pw_or1 (pt_not (pt_val (pe_has (hW.mono (by omega)) hr (pa_cons (pe_ix ix_tup (pv 1) pe_int (fun _ _ => rfl)) (pa_cons (pe_attr (pv 0)) pa_nil))))))))) (pss_one (ps_ret pe_bl)) pss_nil)
      (pss_one (ps_ret (pe_and (pe_has (hD.mono (by omega)) hr (pa_cons (pe_ix ix_tup (pv 1) pe_int (fun _ _ => rfl)) pa_nil)) (pe_and (pe_has (hD.mono (by omega)) hr (pa_cons (pe_ix ix_tup (pv 1) pe_int (fun _ _ => rfl)) pa_nil))
        (pe_and (pe_cmpR op_ne (pe_ix ix_tup (pv 1) pe_int (fun _ _ => rfl)) (pe_ix ix_tup (pv 1) pe_int (fun _ _ => rfl)) (nomark _)) (pe_one (pe_has (hI.mono (by omega)) hr (pa_cons (pe_ix ix_tup (pv 1) (pe_un un_neg pe_int) (fun _ _ => rfl)) pa_nil))))))))))), ?_⟩
    rw [claim_eq] at hq
    refine ⟨_, rfl, _, rfl, F, G, c, lv, v, ls, d, rfl, hc, hl, hd, _, rfl, ?_⟩
    cases hLit : isLitD ls d with
    | true =>
      refine iteT ?_
      rw [hLit] at hq
      exact hq H (Same.refl H)
    | false =>
    refine iteF ?_
    rw [hLit, Bool.false_or] at hq
    refine ⟨_, rfl, G, v, d, 4, rfl, hd, _, rfl, ?_⟩
    obtain ⟨b, rfl, wb⟩ := people_words (K := K) hp
    cases h4 : isTupD d 4 with
    | true =>
      refine iteT ?_
      obtain ⟨x0, x1, x2, x3, rfl⟩ := tup4 h4
      cases hd with
      | @tup a xs _ f e al =>
      cases al with
      | @cons v0 _ _ _ d0 al =>
      cases al with
      | @cons v1 _ _ _ d1 al =>
      cases al with
      | @cons v2 _ _ _ d2 al =>
      cases al with
      | @cons v3 _ _ _ d3 al =>
      cases al
      refine ⟨_, rfl, a, _, 0, v0, rfl, rfl, SqT.of e, atI_nat (j := 0) rfl, G, v0, x0, aB, wBnd, rfl, d0, .inl (qB H), _, rfl, ?_⟩
      have hq : Q (.bl (isWordD x0 wBnd && (isWordD x1 (ps.map (·.1)) && (isDayD x2 && isIntD x3 none none)))) H := hq H (Same.refl H)
      cases h0 : isWordD x0 wBnd with
      | false =>
        refine iteT ?_
        refine iteT ?_
        rw [h0] at hq
        exact hq
      | true =>
      refine iteF ?_
      rw [h0, Bool.true_and] at hq
      refine ⟨_, rfl, a, _, 1, v1, rfl, rfl, SqT.of e, atI_nat (j := 1) rfl, _, rfl, _, hcp, G, v1, x1, b, ps.map (·.1), rfl, d1, wb, _, rfl, ?_⟩
      cases h1 : isWordD x1 (ps.map (·.1)) with
      | false =>
        refine iteT ?_
        rw [h1] at hq
        exact hq
      | true =>
      refine iteF ?_
      rw [h1, Bool.true_and] at hq
      refine ⟨_, rfl, a, _, 2, v2, rfl, rfl, SqT.of e, atI_nat (j := 2) rfl, G, v2, x2, rfl, d2, _, rfl, ?_⟩
      refine and_go hq fun _ hq => ?_
      exact ⟨_, rfl, ⟨1, rfl, a, _, -1, v3, rfl, rfl, SqT.of e, rfl, G, v3, x3, none, none, rfl, d3, hq⟩⟩
    | false =>
      refine iteF ?_
      refine ⟨_, rfl, G, v, d, 5, rfl, hd, _, rfl, ?_⟩
      cases h5 : isTupD d 5 with
      | false =>
        refine iteT ?_
        refine iteT ?_
        rw [not45 h4 h5] at hq
        exact hq H (Same.refl H)
      | true =>
      refine iteF ?_
      obtain ⟨x0, x1, x2, x3, x4, rfl⟩ := tup5 h5
      cases hd with
      | @tup a xs _ f e al =>
      cases al with
      | @cons v0 _ _ _ d0 al =>
      cases al with
      | @cons v1 _ _ _ d1 al =>
      cases al with
      | @cons v2 _ _ _ d2 al =>
      cases al with
      | @cons v3 _ _ _ d3 al =>
      cases al with
      | @cons v4 _ _ _ d4 al =>
      cases al
      refine ⟨_, rfl, a, _, 0, v0, rfl, rfl, SqT.of e, atI_nat (j := 0) rfl, ⟨Nat.le_trans (by show 1 ≤ 1000; omega) sizeLine_ge, fun p np => ?_⟩⟩
      have s1 : Same H (upd H p (.tup [.str "rose"])) := same_new np
      refine ⟨G, v0, x0, p, ["rose"], rfl, d0.same s1, .inl (SqT.of upd_same), _, rfl, ?_⟩
      have hq : Q (.bl (isWordD x0 ["rose"] && (isWordD x1 (ps.map (·.1)) && (isDayD x2 && (isDayD x3 && (!(sameI x2 x3) && isIntD x4 none none)))))) (upd H p (.tup [.str "rose"])) := hq _ s1
      cases h0 : isWordD x0 ["rose"] with
      | false =>
        refine iteT ?_
        refine iteT ?_
        rw [h0] at hq
        exact hq
      | true =>
      refine iteF ?_
      rw [h0, Bool.true_and] at hq
      obtain ⟨b2, eb, wb2⟩ := people_words (K := K) (hp.same s1)
      cases eb
      have e1 := s1 _ _ e
      refine ⟨_, rfl, a, _, 1, v1, rfl, rfl, SqT.of e1, atI_nat (j := 1) rfl, _, rfl, _, hcp.same s1, G, v1, x1, b, ps.map (·.1), rfl, d1.same s1, wb2, _, rfl, ?_⟩
      cases h1 : isWordD x1 (ps.map (·.1)) with
      | false =>
        refine iteT ?_
        rw [h1] at hq
        exact hq
      | true =>
      refine iteF ?_
      rw [h1, Bool.true_and] at hq
      refine ⟨_, rfl, a, _, 2, v2, rfl, rfl, SqT.of e1, atI_nat (j := 2) rfl, G, v2, x2, rfl, d2.same s1, _, rfl, ?_⟩
      refine and_go hq fun q2 hq => ?_
      refine ⟨_, rfl, a, _, 3, v3, rfl, rfl, SqT.of e1, atI_nat (j := 3) rfl, G, v3, x3, rfl, d3.same s1, _, rfl, ?_⟩
      refine and_go hq fun q3 hq => ?_
      obtain ⟨i2, rfl⟩ := day_int q2
      obtain ⟨i3, rfl⟩ := day_int q3
      cases d2
      cases d3
      refine ⟨_, rfl, a, _, 2, _, rfl, rfl, SqT.of e1, atI_nat (j := 2) rfl, _, rfl, a, _, 3, _, rfl, rfl, SqT.of e1, atI_nat (j := 3) rfl, rfl, _, rfl, ?_⟩
      have hq : Q (.bl (!(decide (i2 = i3)) && isIntD x4 none none)) (upd H p (.tup [.str "rose"])) := hq
      rw [dec_int]
      refine and_go hq fun _ hq => ?_
      exact ⟨_, rfl, ⟨1, rfl, a, _, -1, v4, rfl, rfl, SqT.of e1, rfl, G, v4, x4, none, none, rfl, d4.same s1, hq⟩⟩
end
end G

set_option Elab.async false
set_option linter.all false
set_option maxRecDepth 100000
set_option maxHeartbeats 4000000
namespace G
open PySem PySem.Spec PyProof.Rows L2 U
open PySem.W (Frag)
theorem cut_from (xs : List V) (k : Nat) : cutV xs (some (k : Int)) none = xs.drop k := by
  unfold cutV
  rw [HT.sIx_nat, HT.sIx_none]
  by_cases h : k ≤ xs.length
  · rw [Nat.min_eq_left h]
    exact List.take_of_length_le (by rw [List.length_drop]; exact Nat.le_refl _)
  · rw [Nat.min_eq_right (by omega), List.drop_of_length_le (Nat.le_refl _), List.drop_of_length_le (by omega)]
    simp
theorem cut_to (xs : List V) (k : Nat) : cutV xs none (some (k : Int)) = xs.take k := by
  unfold cutV
  rw [HT.sIx_nat, HT.sIx_none, List.drop_zero, Nat.sub_zero]
  by_cases h : k ≤ xs.length
  · rw [Nat.min_eq_left h]
  · rw [Nat.min_eq_right (by omega), List.take_of_length_le (Nat.le_refl _), List.take_of_length_le (by omega)]
def optD : Option PyData → PyData
  | none => .none
  | some d => d
theorem dqall_map {α : Type} {F : Addr → Prop} {H : Hp} {f : α → V} {g : α → PyData} (h : ∀ x, Dq F H (f x) (g x)) : ∀ xs : List α, DqAll F H (xs.map f) (xs.map g)
  | [] => .nil
  | x :: xs => .cons (h x) (dqall_map h xs)
/-- a list of words, each of at most 600 signs -/
structure Wds (ws : List Str) : Prop where
  few : ws.length ≤ 1000
  short : ∀ x ∈ ws, x.length ≤ 600
def claimD (ws : List Str) (ns : List (Option Int)) : PyData := .tuple (ws.map PyData.str ++ ns.map oD)
def claimIn (ps : People) (ls : Labs) (ws : List Str) : Option PyData :=
  if ((ws.drop 2).map integerIn).any (·.isNone) = true then none else
  if isClaimD ps ls (claimD (ws.take 2) ((ws.drop 2).map integerIn)) = true then some (claimD (ws.take 2) ((ws.drop 2).map integerIn)) else none
section
variable {P : Program} {w : World} {K : Frag} {mg : Str → Option Value} {base : Heap}
def sp_claim_in (K : Frag) : Sp := fun vs H Q _ => ∃ (F F' : Addr → Prop) (c lv pv : V) (a : Addr) (ls : Labs) (ps : People) (ws : List Str), vs = [c, .ref a] ∧ AttrAt K H c "own_labs" lv ∧ Dq F H lv (labsD ls) ∧ AttrAt K H c "own_people" pv ∧ Dq F' H pv (peopleD ps) ∧ SqL K H a (ws.map V.str) ∧ Wds ws ∧ Ret H (optD (claimIn ps ls ws)) Q
theorem has_claim_in (F : Fn K mg "claim_in" s_claim_in) (hC : Has P w K mg base 4 "is_claim" P_is_claim [] (sp_is_claim K)) (hI : Has P w K mg base 1 "integer_in" P_integer_in [] sp_integer_in) : Has P w K mg base 5 "claim_in" P_claim_in [] (sp_claim_in K) := by
  obtain ⟨⟨fd, F⟩, g⟩ := F
  refine ⟨⟨fd, [], ?_, F.kp, .nil, F.bindsN fun _ _ _ _ _ _ us hl => match us, hl with | [_, _], _ => rfl⟩, g⟩
  refine F.ok sc_claim_in (fun vs H Q E h => ?_) (fun cdv A outer s H vs Q E hr h' => ?_)
  · obtain ⟨F, F', c, lv, pv, a, ls, ps, ws, rfl, _⟩ := h
    rfl
  · obtain ⟨F, F', c, lv, pv0, a, ls, ps, ws, rfl, hc, hl, hcp, hp, hw, wd, hq⟩ := h'
    refine ⟨_, PSs.nox (pss_cons (ps_setLc (i := 2) (own := [("word", 3)]) (g := gName 3) (tt := tYes) rfl sc_claim_in.nd rfl rfl rfl (pi_list (pe_slice sl_list (pv 1) (po_some pe_int) po_none)) (blkOk_by (N := N_claim_in) (sc := defScope s_claim_in) (by decide +kernel))
        (fun _ _ _ _ _ => pg_name (i := 3) sc_claim_in.nd rfl (Or.inl rfl)) (fun _ _ _ _ _ => pts_nil) (fun _ _ _ _ _ => pe_has (hI.mono (by omega)) hr (pa_cons (pv 3) pa_nil)))
      (pss_cons (ps_if (pt_cmpR op_in_seq pe_non (pv 2) (by rfl)) (pss_one (ps_ret pe_non)) pss_nil)
      (pss_cons (ps_set (i := 4) sc_claim_in.nd rfl (Or.inl rfl) (pe_tup (StX.pa_star (pe_slice sl_list (pv 1) po_none (po_some pe_int)) (StX.pa_star (pv 2) pa_nil))))
      (pss_one (ps_ret (pe_ifExp (pt_val (pe_has hC hr (pa_cons (pv 0) (pa_cons (pv 4) pa_nil)))) (pv 4) pe_non)))))), ?_⟩
    refine ⟨_, rfl, ⟨2, rfl, a, _, rfl, hw, fun p np => ?_⟩⟩
    have e2 := cut_from (ws.map V.str) 2
    have e2' : cutV (ws.map V.str) (some 2) none = (ws.drop 2).map V.str := by
      rw [List.map_drop]
      exact e2
    rw [e2']
    have s1 : Same H (upd H p (.lst ((ws.drop 2).map V.str))) := same_new np
    have len : (ws.drop 2).length ≤ 1000 := by
      rw [List.length_drop]
      have := wd.few
      omega
    refine ⟨p, rfl, ⟨_, SqL.of upd_same⟩, fun D nD => lc_vals walk_list nD (((ws.drop 2).map integerIn).map oI) (by rw [List.length_map, List.length_map, List.length_map]) (by rw [List.length_map]; omega) (fun Hc sc => SqL.of (sc _ _ upd_same)) ?_ ?_⟩
    · rintro i x y Hc Hc' k hy sc ⟨rfl, hx⟩ hk
      rw [List.getElem?_map, Option.map_eq_some_iff] at hx
      obtain ⟨z, hz, rfl⟩ := hx
      rw [List.getElem?_map, List.getElem?_map, hz] at hy
      have hy : oI (integerIn z) = y := Option.some.inj hy
      subst hy
      exact ⟨rfl, _, rfl, z, rfl, wd.short z (List.mem_of_mem_drop (List.mem_of_getElem? hz)), fun H4 s4 => hk H4 s4⟩
    · intro Hc sc eD
      refine ⟨_, rfl, D, _, rfl, .inl (SqL.of eD), rfl, flat_os _, _, rfl, ?_⟩
      rw [show (if false = true then !inV .non (((ws.drop 2).map integerIn).map oI) else inV .non (((ws.drop 2).map integerIn).map oI)) = inV .non (((ws.drop 2).map integerIn).map oI) from rfl, none_in]
      have sH : Same H Hc := fun b o z => sc _ _ (s1 _ _ z)
      cases hN : ((ws.drop 2).map integerIn).any (·.isNone) with
      | true =>
        refine iteT ?_
        have e : claimIn ps ls ws = none := by
          unfold claimIn
          rw [if_pos hN]
        rw [e] at hq
        exact hq .non Hc sH .non
      | false =>
      refine iteF ?_
      have eC : claimIn ps ls ws = (if isClaimD ps ls (claimD (ws.take 2) ((ws.drop 2).map integerIn)) = true then some (claimD (ws.take 2) ((ws.drop 2).map integerIn)) else none) := by
        show (if _ then _ else _) = _
        rw [if_neg (by rw [hN]; decide)]
      refine ⟨_, rfl, ⟨2, rfl, a, _, rfl, sqL_same hw sH, fun p2 np2 => ?_⟩⟩
      have e3 : cutV (ws.map V.str) none (some 2) = (ws.take 2).map V.str := by
        rw [List.map_take]
        exact cut_to (ws.map V.str) 2
      rw [e3]
      have s2 : Same Hc (upd Hc p2 (.lst ((ws.take 2).map V.str))) := same_new np2
      refine ⟨p2, _, rfl, .inr (SqL.of upd_same), _, rfl, D, _, rfl, .inr (SqL.of (s2 _ _ eD)), ?_⟩
      have lens : ((ws.take 2).map V.str ++ (((ws.drop 2).map integerIn).map oI ++ [])).length ≤ 1000 := by
        rw [List.append_nil, List.length_append, List.length_map, List.length_map, List.length_map, List.length_take, List.length_drop]
        have := wd.few
        omega
      refine ⟨Nat.le_trans lens sizeLine_ge, fun p3 np3 => ?_⟩
      have s3 := same_new (o := .tup ((ws.take 2).map V.str ++ (((ws.drop 2).map integerIn).map oI ++ []))) np3
      have sA : Same H (upd (upd Hc p2 (.lst ((ws.take 2).map V.str))) p3 (.tup ((ws.take 2).map V.str ++ (((ws.drop 2).map integerIn).map oI ++ [])))) := fun b o z => s3 _ _ (s2 _ _ (sH _ _ z))
      have dq : Dq (fun b => H b = none) (upd (upd Hc p2 (.lst ((ws.take 2).map V.str))) p3 (.tup ((ws.take 2).map V.str ++ (((ws.drop 2).map integerIn).map oI ++ [])))) (.ref p3) (claimD (ws.take 2) ((ws.drop 2).map integerIn)) := by
        refine .tup (none_of_same sH (none_of_same s2 np3)) upd_same ?_
        rw [List.append_nil]
        exact (dqall_map (fun x => .str x) _).app (dqall_map (fun o => dq_oI o) _)
      refine ⟨_, rfl, _, rfl, F, F', _, c, lv, pv0, _, ls, ps, _, rfl, hc.same sA, hl.same sA, hcp.same sA, hp.same sA, dq, fun H5 s5 => ⟨_, rfl, ?_⟩⟩
      rw [eC] at hq
      cases hB : isClaimD ps ls (claimD (ws.take 2) ((ws.drop 2).map integerIn)) with
      | true =>
        refine iteT ?_
        rw [hB, if_pos rfl] at hq
        exact ⟨_, rfl, hq _ H5 (fun b o z => s5 _ _ (sA _ _ z)) (dq.same s5)⟩
      | false =>
        refine iteF ?_
        rw [hB, if_neg (by decide)] at hq
        exact hq .non H5 (fun b o z => s5 _ _ (sA _ _ z)) .non
end
end G

set_option Elab.async false
set_option linter.all false
set_option maxRecDepth 100000
set_option maxHeartbeats 4000000
namespace G
open PySem PySem.Spec PyProof.Rows L2 U
open PySem.W (Frag)
/-! ### person_in -/
def ratesOf (u d : Str) : Option (Int × Int) := match integerIn u, integerIn d with
  | some a, some b => if 0 ≤ a ∧ 0 ≤ b then some (a, b) else none
  | _, _ => none
def personIn : List Str → Option (Int × Int)
  | [_, n, u, d] => if isName n = true then ratesOf u d else none
  | _ => none
def ratesD (p : Int × Int) : PyData := .tuple [.int p.1, .int p.2]
theorem four_words {ws : List Str} (h : ws.length = 4) : ∃ a b c d, ws = [a, b, c, d] := by
  match ws, h with
  | [a, b, c, d], _ => exact ⟨a, b, c, d, rfl⟩
theorem person_no {ws : List Str} (h : ¬ ws.length = 4) : personIn ws = none := by
  unfold personIn
  split
  · exact absurd rfl h
  · rfl
section
variable {P : Program} {w : World} {K : Frag} {mg : Str → Option Value} {base : Heap}
def sp_person_in (K : Frag) : Sp := fun vs H Q _ => ∃ (a : Addr) (ws : List Str), vs = [.ref a] ∧ SqL K H a (ws.map V.str) ∧ Wds ws ∧ Ret H (optD ((personIn ws).map ratesD)) Q
theorem has_person_in (F : Fn K mg "person_in" s_person_in) (hN : Has P w K mg base 1 "is_name" P_is_name [] sp_is_name) (hI : Has P w K mg base 1 "integer_in" P_integer_in [] sp_integer_in) (gL : mg "len" = none) (gT : mg "tuple" = none) (gM : mg "min" = none) (c4 : CI mg "PERSON_WORDS" 4) (cP : CI mg "PAIR" 2) : Has P w K mg base 2 "person_in" P_person_in [] (sp_person_in K) := by
  obtain ⟨⟨fd, F⟩, g⟩ := F
  refine ⟨⟨fd, [], ?_, F.kp, .nil, F.bindsN fun _ _ _ _ _ _ us hl => match us, hl with | [_], _ => rfl⟩, g⟩
  refine F.ok sc_person_in (fun vs H Q E h => ?_) (fun cdv A outer s H vs Q E hr h' => ?_)
  · obtain ⟨a, ws, rfl, _⟩ := h
    rfl
  · obtain ⟨a, ws, rfl, hw, wd, hq⟩ := h'
    refine ⟨_, PSs.nox (pss_cons (ps_if (PW.pt (pw_or (pt_cmpR op_ne (pe_callB call_len_seq (by rfl) gL PySem.boot_len (pa_cons (pv 0) pa_nil)) (pe_ci c4) (nomark _)) (pw_or1 (pt_not (pt_val (pe_has hN hr (pa_cons (pe_ix ix_list (pv 0) pe_int (fun _ _ => rfl)) pa_nil))))))) (pss_one (ps_ret pe_non)) pss_nil)
      (pss_cons (ps_setLc (i := 1) (own := [("word", 2)]) (g := gName 2) (tt := tYes) rfl sc_person_in.nd rfl rfl rfl (pi_list (pe_slice sl_list (pv 0) (po_some (pe_ci cP)) po_none)) (blkOk_by (N := N_person_in) (sc := defScope s_person_in) (by decide +kernel))
        (fun _ _ _ _ _ => pg_name (i := 2) sc_person_in.nd rfl (Or.inl rfl)) (fun _ _ _ _ _ => pts_nil) (fun _ _ _ _ _ => pe_has hI hr (pa_cons (pv 2) pa_nil)))
      (pss_one (ps_ret (pe_ifExp (PW.pt (pw_and (pt_cmpR op_notIn_seq pe_non (pv 1) (by rfl)) (pw_and1 (pt_cmpR op_ge (pe_callB (cr_min rfl) (by rfl) gM (by decide +kernel) (pa_cons (pv 1) pa_nil)) pe_int (nomark _))))) (pe_tupleOf (by rfl) gT (pv 1)) pe_non))))), ?_⟩
    refine ⟨_, rfl, a, _, rfl, .inl hw, rfl, _, rfl, ?_⟩
    rw [dec_int, List.length_map]
    by_cases h4 : ws.length = 4
    · rw [show (!decide ((ws.length : Int) = 4)) = false from by rw [decide_eq_true (by omega)]; rfl]
      refine iteF ?_
      obtain ⟨w0, n, u, d, rfl⟩ := four_words h4
      have sn := wd.short n (by simp)
      refine ⟨_, rfl, a, _, 1, _, rfl, rfl, hw, atI_nat (j := 1) rfl, n, rfl, by omega, fun H1 s1 => ?_⟩
      refine ⟨_, rfl, ?_⟩
      cases hn : isName n with
      | false =>
        refine iteT ?_
        have e : personIn [w0, n, u, d] = none := by
          show (if isName n = true then _ else _) = _
          rw [hn]
          rfl
        rw [e] at hq
        exact hq .non H1 s1 .non
      | true =>
      refine iteF ?_
      have e : personIn [w0, n, u, d] = ratesOf u d := by
        show (if isName n = true then _ else _) = _
        rw [hn]
        rfl
      rw [e] at hq
      refine ⟨_, rfl, ⟨2, rfl, a, _, rfl, sqL_same hw s1, fun p np => ?_⟩⟩
      have s2 : Same H1 (upd H1 p (.lst (cutV ([w0, n, u, d].map V.str) (some 2) none))) := same_new np
      have ec : cutV ([w0, n, u, d].map V.str) (some 2) none = [.str u, .str d] := cut_from _ 2
      refine ⟨p, rfl, ⟨_, SqL.of upd_same⟩, fun D nD => lc_vals (walk_list (xs := [.str u, .str d])) nD [oI (integerIn u), oI (integerIn d)] rfl (by show 2 ≤ 16000000; omega) (fun Hc sc => SqL.of (sc _ _ (by rw [← ec]; exact upd_same))) ?_ ?_⟩
      · rintro i x y Hc Hc' k hy sc ⟨rfl, hx⟩ hk
        have : ∃ z, x = .str z ∧ y = oI (integerIn z) ∧ z.length ≤ 600 := by
          match i, hx, hy with
          | 0, hx, hy => exact ⟨u, (Option.some.inj hx).symm, (Option.some.inj hy).symm, wd.short u (by simp)⟩
          | 1, hx, hy => exact ⟨d, (Option.some.inj hx).symm, (Option.some.inj hy).symm, wd.short d (by simp)⟩
          | i + 2, hx, hy => simp at hx
        obtain ⟨z, rfl, rfl, lz⟩ := this
        exact ⟨rfl, _, rfl, z, rfl, lz, fun H4 s4 => hk H4 s4⟩
      · intro Hc sc eD
        have eD' : Hc D = some (.lst ([integerIn u, integerIn d].map oI)) := eD
        have sA : Same H Hc := fun b o z => sc _ _ (s2 _ _ (s1 _ _ z))
        refine ⟨_, rfl, D, _, rfl, .inl (SqL.of eD'), rfl, flat_os _, _, rfl, ?_⟩
        rw [show (if true = true then !inV .non ([integerIn u, integerIn d].map oI) else inV .non ([integerIn u, integerIn d].map oI)) = !inV .non ([integerIn u, integerIn d].map oI) from rfl, none_in]
        have fail : ∀ {b : Bool} {A B : Prop}, b = false → B → (if b = true then A else B) := fun e h => by
          rw [e]
          exact iteF h
        cases hu : integerIn u with
        | none =>
          have e : ratesOf u d = none := by
            unfold ratesOf
            rw [hu]
          rw [e] at hq
          exact fail rfl (hq .non Hc sA .non)
        | some iu =>
        cases hd : integerIn d with
        | none =>
          have e : ratesOf u d = none := by
            unfold ratesOf
            rw [hu, hd]
          rw [e] at hq
          exact fail rfl (hq .non Hc sA .non)
        | some id' =>
        have eR : ratesOf u d = (if 0 ≤ iu ∧ 0 ≤ id' then some (iu, id') else none) := by
          unfold ratesOf
          rw [hu, hd]
        rw [eR] at hq
        refine iteT ?_
        rw [hu, hd] at eD'
        refine ⟨_, rfl, D, [iu, id'], rfl, SqL.of eD', (by show 0 < 2; omega), fun m hm hmin => ?_⟩
        refine ⟨_, _, rfl, rfl, _, rfl, ?_⟩
        refine dec_if (fun h0 => ?_) (fun h0 => ?_)
        · have c : 0 ≤ iu ∧ 0 ≤ id' := by
            have h1 := hmin iu (by simp)
            have h2 := hmin id' (by simp)
            omega
          rw [if_pos c] at hq
          refine ⟨_, rfl, .inl ⟨D, _, rfl, SqL.of eD', fun q nq => ?_⟩⟩
          have s5 := same_new (o := .tup [.int iu, .int id']) nq
          exact hq _ _ (fun b o z => s5 _ _ (sA _ _ z)) (.tup (none_of_same sA nq) upd_same (.cons (.int iu) (.cons (.int id') .nil)))
        · have c : ¬ (0 ≤ iu ∧ 0 ≤ id') := by
            rintro ⟨c1, c2⟩
            have : m = iu ∨ m = id' := by simpa using hm
            rcases this with h | h
            · omega
            · omega
          rw [if_neg c] at hq
          exact hq .non Hc sA .non
    · rw [show (!decide ((ws.length : Int) = 4)) = true from by rw [decide_eq_false (by omega)]; rfl]
      refine iteT ?_
      refine iteT ?_
      rw [person_no h4] at hq
      exact hq .non H (Same.refl H) .non
end
end G

set_option Elab.async false
set_option linter.all false
set_option maxRecDepth 100000
set_option maxHeartbeats 4000000
namespace G
open PySem PySem.Spec PyProof.Rows L2 U
open PySem.W (Frag)
/-! ### result_in -/
def wPrn : List Str := ["low", "normal", "high"]
structure Row where
  person : Str
  lab : Str
  day : Int
  pr : Prn
deriving DecidableEq
def Row.d (r : Row) : PyData := .tuple [.str r.person, .str r.lab, .int r.day, r.pr.d]
def toldOf (x : Str) : Option Prn := if x ∈ wPrn then some (.word x) else (integerIn x).map .num
def rowOf (ps : People) (ls : Labs) (p l d x : Str) : Option Row :=
  if p ∈ ps.map (·.1) then match tabsOf ls l with
    | none => none
    | some ts => match toldOf x with
      | none => none
      | some t => match integerIn d with
        | none => none
        | some i => if isDayD (.int i) = true then (if canTell ts t = true then some ⟨p, l, i, t⟩ else none) else none
  else none
def resultIn (ps : People) (ls : Labs) : List Str → Option Row
  | [_, n, p, l, d, x] => if isName n = true then rowOf ps ls p l d x else none
  | _ => none
def LabsOk (ls : Labs) : Prop := ∀ l ∈ ls, l.2.length ≤ 4 ∧ ∀ t ∈ l.2, t.ok = true
def oP : Option Prn → V
  | none => .non
  | some p => p.v
theorem six_words {ws : List Str} (h : ws.length = 6) : ∃ a b c d e f, ws = [a, b, c, d, e, f] := by
  match ws, h with
  | [a, b, c, d, e, f], _ => exact ⟨a, b, c, d, e, f, rfl⟩
theorem result_no {ps : People} {ls : Labs} {ws : List Str} (h : ¬ ws.length = 6) : resultIn ps ls ws = none := by
  unfold resultIn
  split
  · exact absurd rfl h
  · rfl
theorem tabsOf_mem {ls : Labs} {s : Str} {ts : List Tab} (h : tabsOf ls s = some ts) : (s, ts) ∈ ls := by
  unfold tabsOf at h
  rw [Option.map_eq_some_iff] at h
  obtain ⟨l, hl, rfl⟩ := h
  have h1 := List.mem_of_find?_eq_some hl
  have h2 := List.find?_some hl
  have h2 : l.1 = s := of_decide_eq_true h2
  rw [← h2]
  exact h1
theorem tabsOf_none {ls : Labs} {s : Str} (h : tabsOf ls s = none) : s ∉ ls.map (·.1) := by
  unfold tabsOf at h
  rw [Option.map_eq_none_iff, List.find?_eq_none] at h
  intro z
  obtain ⟨l, hl, e⟩ := List.mem_map.mp z
  exact h l hl (decide_eq_true e)
section
variable {P : Program} {w : World} {K : Frag} {mg : Str → Option Value} {base : Heap}
theorem words_dget {H : Hp} {a : Addr} {kvs : List (Key × V)} {ws : List Str} (e : H a = some (.dK kvs)) (k : kvs.map (·.1) = ws.map Sum.inr) (s : Str) : ∃ o, DGet H a (.str s) o ∧ o.isSome = decide (s ∈ ws) := ⟨_, DGet.k (k := Sum.inr s) e, valV_some k s⟩
theorem people_in {F : Addr → Prop} {H : Hp} {v : V} {ps : People} (h : Dq F H v (peopleD ps)) (s : Str) : ∃ a o, v = .ref a ∧ DGet H a (.str s) o ∧ o.isSome = decide (s ∈ ps.map (·.1)) := by
  obtain ⟨a, kvs, rfl, _, e, k, _⟩ := dk_inv h
  rw [List.map_map] at k
  obtain ⟨o, h1, h2⟩ := words_dget e (keys_str (f := fun l : Str × Int × Int => l.1) k) s
  exact ⟨a, o, rfl, h1, h2⟩
theorem labs_in {F : Addr → Prop} {H : Hp} {v : V} {ls : Labs} (h : Dq F H v (labsD ls)) (s : Str) : ∃ a o, v = .ref a ∧ DGet H a (.str s) o ∧ o.isSome = decide (s ∈ ls.map (·.1)) := by
  obtain ⟨a, kvs, rfl, _, e, k, _⟩ := dk_inv h
  rw [List.map_map] at k
  obtain ⟨o, h1, h2⟩ := words_dget e (keys_str (f := fun l : Str × List Tab => l.1) k) s
  exact ⟨a, o, rfl, h1, h2⟩
theorem told_ok {aP : Addr} (qP : ∀ H, SqT K H aP (wPrn.map V.str)) {σ : L2.St} {H : Hp} {x : Str} {k : VK} (h6 : σ[6]? = some (some (.str x))) (hx : x.length ≤ 600) (hk : ∀ H3, Same H H3 → k (oP (toldOf x)) H3) : tIf (tTest (tOp (rIn K false) (tVar 6) (tC (.ref aP)))) (tVar 6) (tCall sp_integer_in [] E0 (tCons (tVar 6) tNil)) σ H k := by
  refine ⟨_, h6, aP, _, rfl, .inr (qP H), rfl, flat_strs _, _, rfl, ?_⟩
  rw [show (if false = true then !inV (.str x) (wPrn.map V.str) else inV (.str x) (wPrn.map V.str)) = inV (.str x) (wPrn.map V.str) from rfl, inV_strs]
  refine dec_if (fun h => ?_) (fun h => ?_)
  · have e : toldOf x = some (.word x) := by
      unfold toldOf
      rw [if_pos h]
    rw [e] at hk
    exact ⟨_, h6, hk H (Same.refl H)⟩
  · have e : oP (toldOf x) = oI (integerIn x) := by
      unfold toldOf
      rw [if_neg h]
      cases integerIn x <;> rfl
    rw [e] at hk
    exact ⟨_, h6, x, rfl, hx, fun H3 s3 => hk H3 s3⟩
def sp_result_in (K : Frag) : Sp := fun vs H Q _ => ∃ (F F' : Addr → Prop) (pv lv : V) (a : Addr) (ps : People) (ls : Labs) (ws : List Str), vs = [pv, lv, .ref a] ∧ Dq F H pv (peopleD ps) ∧ Dq F' H lv (labsD ls) ∧ LabsOk ls ∧ SqL K H a (ws.map V.str) ∧ Wds ws ∧ Ret H (optD ((resultIn ps ls ws).map Row.d)) Q
theorem has_result_in (F : Fn K mg "result_in" s_result_in) (hN : Has P w K mg base 1 "is_name" P_is_name [] sp_is_name) (hI : Has P w K mg base 1 "integer_in" P_integer_in [] sp_integer_in) (hD : Has P w K mg base 2 "is_day" P_is_day [] sp_is_day) (hC : Has P w K mg base 3 "can_tell" P_can_tell [] sp_can_tell)
    (gL : mg "len" = none) (c6 : CI mg "RESULT_WORDS" 6) (cP : CI mg "PAIR" 2) (cT : CT K mg "PRINTS" (wPrn.map V.str)) : Has P w K mg base 4 "result_in" P_result_in [] (sp_result_in K) := by
  obtain ⟨⟨fd, F⟩, g⟩ := F
  refine ⟨⟨fd, [], ?_, F.kp, .nil, F.bindsN fun _ _ _ _ _ _ us hl => match us, hl with | [_, _, _], _ => rfl⟩, g⟩
  obtain ⟨aP, mP, qP⟩ := cT
  refine F.ok sc_result_in (fun vs H Q E h => ?_) (fun cdv A outer s H vs Q E hr h' => ?_)
  · obtain ⟨F, F', pv, lv, a, ps, ls, ws, rfl, _⟩ := h
    rfl
  · obtain ⟨F, F', pv0, lv, a, ps, ls, ws, rfl, hp, hl, lok, hw, wd, hq⟩ := h'
    refine ⟨_, PSs.nox (pss_cons (ps_if (PW.pt (pw_or (pt_cmpR op_ne (pe_callB call_len_seq (by rfl) gL PySem.boot_len (pa_cons (pv 2) pa_nil)) (pe_ci c6) (nomark _)) (pw_or1 (pt_not (pt_val (pe_has (hN.mono (by omega)) hr (pa_cons (pe_ix ix_list (pv 2) pe_int (fun _ _ => rfl)) pa_nil))))))) (pss_one (ps_ret pe_non)) pss_nil)
      (pss_cons (ps_asg (pe_slice sl_list (pv 2) (po_some (pe_ci cP)) po_none) (pg_unl rfl (pgs_cons (pg_name (i := 3) sc_result_in.nd rfl (Or.inl rfl)) (pgs_cons (pg_name (i := 4) sc_result_in.nd rfl (Or.inl rfl)) (pgs_cons (pg_name (i := 5) sc_result_in.nd rfl (Or.inl rfl)) (pgs_cons (pg_name (i := 6) sc_result_in.nd rfl (Or.inl rfl)) pgs_nil))))))
      (pss_cons (ps_set (i := 7) sc_result_in.nd rfl (Or.inl rfl) (pe_ifExp (pt_cmpR op_in_seq (pv 6) (pe_glob (by rfl) mP (v := .ref aP) rfl) (by rfl)) (pv 6) (pe_has (hI.mono (by omega)) hr (pa_cons (pv 6) pa_nil))))
      (pss_cons (ps_if (PW.pt (pw_or (pt_cmp (pc_dnotin (hu_of hr) (pv 3) (pv 0)) rfl) (pw_or (pt_cmp (pc_dnotin (hu_of hr) (pv 4) (pv 1)) rfl) (pw_or (pt_cmp (pc_isN (pv 7)) rfl)
          (pw_or1 (pt_not (pt_val (pe_has (hD.mono (by omega)) hr (pa_cons (pe_has (hI.mono (by omega)) hr (pa_cons (pv 5) pa_nil)) pa_nil))))))))) (pss_one (ps_ret pe_non)) pss_nil)
      (pss_one (ps_ret (pe_ifExp (pt_val (pe_has hC hr (pa_cons (pe_dget (hu_of hr) (pv 1) (pv 4) (by intro _ _; rfl)) (pa_cons (pv 7) pa_nil)))) (pe_tup (pa_cons (pv 3) (pa_cons (pv 4) (pa_cons (pe_has (hI.mono (by omega)) hr (pa_cons (pv 5) pa_nil)) (pa_cons (pv 7) pa_nil))))) pe_non))))))), ?_⟩
    refine ⟨_, rfl, a, _, rfl, .inl hw, rfl, _, rfl, ?_⟩
    rw [dec_int, List.length_map]
    by_cases h6 : ws.length = 6
    · rw [show (!decide ((ws.length : Int) = 6)) = false from by rw [decide_eq_true (by omega)]; rfl]
      refine iteF ?_
      obtain ⟨w0, n, p, l, d, x, rfl⟩ := six_words h6
      have sn := wd.short n (by simp)
      have sd := wd.short d (by simp)
      refine ⟨_, rfl, a, _, 1, _, rfl, rfl, hw, atI_nat (j := 1) rfl, n, rfl, by omega, fun H1 s1 => ?_⟩
      refine ⟨_, rfl, ?_⟩
      cases hn : isName n with
      | false =>
        refine iteT ?_
        have e : resultIn ps ls [w0, n, p, l, d, x] = none := by
          show (if isName n = true then _ else _) = _
          rw [hn]
          rfl
        rw [e] at hq
        exact hq .non H1 s1 .non
      | true =>
      refine iteF ?_
      have e : resultIn ps ls [w0, n, p, l, d, x] = rowOf ps ls p l d x := by
        show (if isName n = true then _ else _) = _
        rw [hn]
        rfl
      rw [e] at hq
      refine ⟨_, rfl, ⟨2, rfl, a, _, rfl, sqL_same hw s1, fun q nq => ?_⟩⟩
      have s2 : Same H1 (upd H1 q (.lst (cutV ([w0, n, p, l, d, x].map V.str) (some 2) none))) := same_new nq
      have ec : cutV ([w0, n, p, l, d, x].map V.str) (some 2) none = [.str p, .str l, .str d, .str x] := cut_from _ 2
      rw [ec] at s2 ⊢
      refine ⟨q, _, rfl, SqL.of upd_same, rfl, ⟨_, _, rfl, _, _, rfl, _, _, rfl, _, _, rfl, rfl, ?_⟩⟩
      refine told_ok qP rfl (wd.short x (by simp)) fun H3 s3 => ?_
      have sA : Same H H3 := fun b o z => s3 _ _ (s2 _ _ (s1 _ _ z))
      obtain ⟨ap, op, rfl, gp, ep⟩ := people_in (hp.same sA) p
      refine ⟨_, rfl, _, rfl, ap, op, rfl, gp, _, rfl, ?_⟩
      rw [ep]
      have no : rowOf ps ls p l d x = none → Q .non H3 := fun z => by
        rw [z] at hq
        exact hq .non H3 sA .non
      by_cases hpm : p ∈ ps.map (·.1)
      · rw [decide_eq_true hpm]
        refine iteF ?_
        obtain ⟨al, ol, rfl, gl, el⟩ := labs_in (hl.same sA) l
        refine ⟨_, rfl, _, rfl, al, ol, rfl, gl, _, rfl, ?_⟩
        rw [el]
        cases ht : tabsOf ls l with
        | none =>
          rw [decide_eq_false (tabsOf_none ht)]
          refine iteT ?_
          refine iteT (no ?_)
          unfold rowOf
          rw [if_pos hpm, ht]
        | some ts =>
        have lm := tabsOf_mem ht
        rw [decide_eq_true (List.mem_map.mpr ⟨_, lm, rfl⟩)]
        refine iteF ?_
        cases hto : toldOf x with
        | none =>
          refine ⟨_, rfl, _, rfl, ?_⟩
          refine iteT ?_
          refine iteT (no ?_)
          unfold rowOf
          rw [if_pos hpm, ht, hto]
        | some t =>
        refine ⟨_, rfl, _, rfl, ?_⟩
        rw [show decide (oP (some t) = V.non) = false from decide_eq_false (by cases t <;> exact fun z => by cases z)]
        refine iteF ?_
        refine ⟨_, rfl, d, rfl, sd, fun H4 s4 => ?_⟩
        have sB : Same H H4 := fun b o z => s4 _ _ (sA _ _ z)
        refine ⟨fun _ => True, _, _, rfl, dq_oI _, _, rfl, ?_⟩
        have no4 : rowOf ps ls p l d x = none → Q .non H4 := fun z => by
          rw [z] at hq
          exact hq .non H4 sB .non
        cases hi : integerIn d with
        | none =>
          refine iteT ?_
          refine no4 ?_
          unfold rowOf
          rw [if_pos hpm, ht, hto, hi]
        | some i =>
        cases hday : isDayD (oD (some i)) with
        | false =>
          refine iteT ?_
          refine no4 ?_
          unfold rowOf
          rw [if_pos hpm, ht, hto, hi]
          exact if_neg (by rw [show isDayD (.int i) = false from hday]; decide)
        | true =>
        refine iteF ?_
        have eR : rowOf ps ls p l d x = (if canTell ts t = true then some ⟨p, l, i, t⟩ else none) := by
          unfold rowOf
          rw [if_pos hpm, ht, hto, hi]
          exact if_pos hday
        rw [eR] at hq
        obtain ⟨al', u, ea, gg, du⟩ := labs_get (hl.same sB) ht
        cases ea
        refine ⟨_, rfl, _, rfl, al, u, rfl, gg, _, rfl, F', u, ts, t, rfl, du, by have := (lok _ lm).1; show ts.length ≤ 1000; exact Nat.le_trans this (by omega), (lok _ lm).2, fun H5 s5 => ⟨_, rfl, ?_⟩⟩
        have sC : Same H H5 := fun b o z => s5 _ _ (sB _ _ z)
        cases hct : canTell ts t with
        | false =>
          refine iteF ?_
          rw [hct] at hq
          exact hq .non H5 sC .non
        | true =>
        refine iteT ?_
        rw [hct] at hq
        refine ⟨_, rfl, _, rfl, _, rfl, d, rfl, sd, fun H6 s6 => ?_⟩
        have sD : Same H H6 := fun b o z => s6 _ _ (sC _ _ z)
        rw [hi]
        refine ⟨_, rfl, Nat.le_trans (by show 4 ≤ 1000; omega) sizeLine_ge, fun r nr => ?_⟩
        have s7 := same_new (o := .tup [.str p, .str l, .int i, t.v]) nr
        exact hq _ _ (fun b o z => s7 _ _ (sD _ _ z)) (.tup (none_of_same sD nr) upd_same (.cons (.str p) (.cons (.str l) (.cons (.int i) (.cons t.da .nil)))))
      · rw [decide_eq_false hpm]
        refine iteT ?_
        refine iteT (no ?_)
        unfold rowOf
        rw [if_neg hpm]
    · rw [show (!decide ((ws.length : Int) = 6)) = true from by rw [decide_eq_false (by omega)]; rfl]
      refine iteT ?_
      refine iteT ?_
      rw [result_no h6] at hq
      exact hq .non H (Same.refl H) .non
end
end G

set_option Elab.async false
set_option linter.all false
set_option maxRecDepth 100000
set_option maxHeartbeats 4000000
namespace G
open PySem PySem.Spec PyProof.Rows L2 U
open PySem.W (Frag)
/-! ### lab_in -/
def chunk (ns : List (Option Int)) (i : Nat) : List (Option Int) := (ns.drop (5 * i)).take 5
def chunks (ns : List (Option Int)) : List (List (Option Int)) := (List.range (ns.length / 5)).map (chunk ns)
def tabsIn (ns : List (Option Int)) : Option (List Tab) :=
  if ns.length % 5 = 0 then (if 1 ≤ ns.length / 5 ∧ ns.length / 5 ≤ 4 ∧ (chunks ns).all isTable = true then some ((chunks ns).filterMap tabOf) else none) else none
def labIn : List Str → Option (List Tab)
  | _ :: n :: r => if isName n = true then tabsIn (r.map integerIn) else none
  | _ => none
theorem rg5 {j : Int} {m : Nat} (hj : j = 5 * (m : Int)) (h : m ≤ 200) : RgC 0 j 5 m := by
  have e : Builtin.Range.rangeSize 0 j 5 = (m : Int) := by
    unfold Builtin.Range.rangeSize
    rw [if_pos (show (5 : Int) > 0 by decide)]
    split <;> omega
  refine ⟨by decide, by decide, ?_, e⟩
  unfold Builtin.Range.small
  rw [e]
  generalize hm : (m : Int) = n at *
  have h0 : 0 ≤ n := by omega
  have h1 : n ≤ 200 := by omega
  clear hm e
  unfold Builtin.Range.rangeFitsLong
  rw [if_pos (show (5 : Int) > 0 by decide)]
  have d : ∀ i : Int, -1000 ≤ i → i ≤ 2000 → (decide (-2 ^ 63 ≤ i) && decide (i < 2 ^ 63)) = true := fun i h1 h2 => by
    rw [decide_eq_true (by omega), decide_eq_true (by omega)]
    rfl
  rw [d 0 (by omega) (by omega), d j (by omega) (by omega), d 5 (by omega) (by omega), d n (by omega) (by omega), d (j + (5 - 1)) (by omega) (by omega)]
  simp
theorem cut_mid (xs : List V) {k j : Nat} (h1 : k ≤ j) (h2 : j ≤ xs.length) : cutV xs (some (k : Int)) (some (j : Int)) = (xs.drop k).take (j - k) := by
  unfold cutV
  rw [HT.sIx_nat, HT.sIx_nat, Nat.min_eq_left h2, Nat.min_eq_left (Nat.le_trans h1 h2)]
theorem chunk_len {ns : List (Option Int)} {i m : Nat} (h : ns.length = 5 * m) (hi : i < m) : (chunk ns i).length = 5 := by
  unfold chunk
  rw [List.length_take, List.length_drop]
  omega
theorem Dq_os {F : Addr → Prop} {H : Hp} : ∀ {os : List (Option Int)} {vs : List V}, DqAll F H vs (os.map oD) → vs = os.map oI
  | [], _, .nil => rfl
  | o :: os, _, .cons h t => by
    rw [dq_oI' h, Dq_os t]
    rfl
theorem tabs_d : ∀ {fs : List (List (Option Int))}, fs.all isTable = true → (fs.map fun f => PyData.tuple (f.map oD)) = (fs.filterMap tabOf).map Tab.d ∧ (fs.filterMap tabOf).length = fs.length ∧ ∀ t ∈ fs.filterMap tabOf, t.ok = true
  | [], _ => ⟨rfl, rfl, fun t h => by cases h⟩
  | f :: fs, h => by
    rw [List.all_cons, Bool.and_eq_true] at h
    obtain ⟨h1, h2, h3⟩ := tabs_d h.2
    have h0 := h.1
    unfold isTable at h0
    cases ht : tabOf f with
    | none =>
      rw [ht] at h0
      cases h0
    | some t =>
      rw [ht] at h0
      rw [List.filterMap_cons_some ht, List.map_cons, List.map_cons, List.length_cons, List.length_cons, h1, h2]
      refine ⟨?_, rfl, fun t' m => ?_⟩
      · congr 1
        unfold tabOf at ht
        split at ht
        · cases ht
          rfl
        · cases ht
      · rcases List.mem_cons.mp m with m | m
        · rw [m]
          exact h0
        · exact h3 t' m
section
variable {P : Program} {w : World} {K : Frag} {mg : Str → Option Value} {base : Heap}
def sp_lab_in (K : Frag) : Sp := fun vs H Q _ => ∃ (a : Addr) (ws : List Str), vs = [.ref a] ∧ SqL K H a (ws.map V.str) ∧ Wds ws ∧ Ret H (optD ((labIn ws).map tabsD)) Q
theorem has_lab_in (F : Fn K mg "lab_in" s_lab_in) (hN : Has P w K mg base 1 "is_name" P_is_name [] sp_is_name) (hI : Has P w K mg base 1 "integer_in" P_integer_in [] sp_integer_in) (hT : Has P w K mg base 1 "is_table" P_is_table [] (sp_is_table K)) (gL : mg "len" = none) (gT : mg "tuple" = none) (gA : mg "all" = none) (gR : mg "range" = none) (c5 : CI mg "TABLE_NUMBERS" 5) (cP : CI mg "PAIR" 2) (cM : CI mg "MOST_TABLES" 4) : Has P w K mg base 2 "lab_in" P_lab_in [] (sp_lab_in K) := by
  obtain ⟨⟨fd, F⟩, g⟩ := F
  refine ⟨⟨fd, [], ?_, F.kp, .nil, F.bindsN fun _ _ _ _ _ _ us hl => match us, hl with | [_], _ => rfl⟩, g⟩
  refine F.ok sc_lab_in (fun vs H Q E h => ?_) (fun cdv A outer s H vs Q E hr h' => ?_)
  · obtain ⟨a, ws, rfl, _⟩ := h
    rfl
  · obtain ⟨a, ws, rfl, hw, wd, hq⟩ := h'
    refine ⟨_, PSs.nox (pss_cons (ps_set (i := 1) sc_lab_in.nd rfl (Or.inr rfl) (pe_lc (own := [("word", 2)]) (g := gName 2) (tt := tYes) rfl sc_lab_in.nd (pi_list (pe_slice sl_list (pv 0) (po_some (pe_ci cP)) po_none)) (blkOk_by (N := N_lab_in) (sc := defScope s_lab_in) (by decide +kernel))
        (fun _ _ _ _ _ => pg_name (i := 2) sc_lab_in.nd rfl (Or.inl rfl)) (fun _ _ _ _ _ => pts_nil) (fun _ _ _ _ _ => pe_has hI hr (pa_cons (pv 2) pa_nil))))
      (pss_cons (ps_if (PW.pt (pw_or (pt_cmpR op_lt (pe_callB call_len_seq (by rfl) gL PySem.boot_len (pa_cons (pv 0) pa_nil)) (pe_ci cP) (nomark _)) (pw_or (pt_not (pt_val (pe_has hN hr (pa_cons (pe_ix ix_list (pv 0) pe_int (fun _ _ => rfl)) pa_nil))))
          (pw_or1 (pt_cmpR op_ne (pe_op op_mod (pe_callB call_len_seq (by rfl) gL PySem.boot_len (pa_cons (pv 1) pa_nil)) (pe_ci c5)) pe_int (nomark _)))))) (pss_one (ps_ret pe_non)) pss_nil)
      (pss_cons (ps_setLc (i := 3) (own := [("at", 4)]) (g := gName 4) (tt := tYes) (te := tThen (tSl (rSlL K) (tVar 1) (tPart (tVar 4)) (tPart (tAdd (tVar 4) (tC (.int 5))))) (kTup K)) rfl sc_lab_in.nd rfl rfl rfl (pi_range3 (by rfl) gR (pa_cons pe_int (pa_cons (pe_callB call_len_seq (by rfl) gL PySem.boot_len (pa_cons (pv 1) pa_nil)) (pa_cons (pe_ci c5) pa_nil)))) (blkOk_by (N := N_lab_in) (sc := defScope s_lab_in) (by decide +kernel))
        (fun _ _ _ _ _ => pg_name (i := 4) sc_lab_in.nd rfl (Or.inl rfl)) (fun _ _ _ _ _ => pts_nil) (fun _ _ _ _ _ => pe_tupleOf (by rfl) gT (pe_slice sl_list (pv 1) (po_some (pv 4)) (po_some (pe_add (pv 4) (pe_ci c5))))))
      (pss_one (ps_ret (pe_ifExp (PW.pt (pw_and (pt_chain op_le op_le pe_int (pe_callB call_len_seq (by rfl) gL PySem.boot_len (pa_cons (pv 3) pa_nil)) (pe_ci cM)) (pw_and1 (pt_val (pe_callB (cr_all rfl) (by rfl) gA (by decide +kernel) (pa_cons (pe_lc (own := [("table", 5)]) (g := gName 5) (tt := tYes) rfl sc_lab_in.nd (pi_list (pv 3)) (blkOk_by (N := N_lab_in) (sc := defScope s_lab_in) (by decide +kernel))
        (fun _ _ _ _ _ => pg_name (i := 5) sc_lab_in.nd rfl (Or.inl rfl)) (fun _ _ _ _ _ => pts_nil) (fun _ _ _ _ _ => pe_has hT hr (pa_cons (pv 5) pa_nil))) pa_nil)))))) (pe_tupleOf (by rfl) gT (pv 3)) pe_non)))))), ?_⟩
    refine ⟨_, rfl, ⟨2, rfl, a, _, rfl, hw, fun p np => ?_⟩⟩
    have e2' : cutV (ws.map V.str) (some 2) none = (ws.drop 2).map V.str := by
      rw [List.map_drop]
      exact cut_from (ws.map V.str) 2
    rw [e2']
    have s1 : Same H (upd H p (.lst ((ws.drop 2).map V.str))) := same_new np
    have len : (ws.drop 2).length ≤ 1000 := by
      rw [List.length_drop]
      have := wd.few
      omega
    refine ⟨p, rfl, ⟨_, SqL.of upd_same⟩, fun D nD => lc_vals walk_list nD (((ws.drop 2).map integerIn).map oI) (by rw [List.length_map, List.length_map, List.length_map]) (by rw [List.length_map]; omega) (fun Hc sc => SqL.of (sc _ _ upd_same)) ?_ ?_⟩
    · rintro i x y Hc Hc' k hy sc ⟨rfl, hx⟩ hk
      rw [List.getElem?_map, Option.map_eq_some_iff] at hx
      obtain ⟨z, hz, rfl⟩ := hx
      rw [List.getElem?_map, List.getElem?_map, hz] at hy
      have hy : oI (integerIn z) = y := Option.some.inj hy
      subst hy
      exact ⟨rfl, _, rfl, z, rfl, wd.short z (List.mem_of_mem_drop (List.mem_of_getElem? hz)), fun H4 s4 => hk H4 s4⟩
    · intro Hc sc eD
      have sH : Same H Hc := fun b o z => sc _ _ (s1 _ _ z)
      refine ⟨_, rfl, a, _, rfl, .inl (sqL_same hw sH), _, _, rfl, rfl, _, rfl, ?_⟩
      rw [List.length_map]
      refine dec_if (fun h2 => ?_) (fun h2 => ?_)
      · have e : labIn ws = none := by
          unfold labIn
          split
          · simp at h2
            omega
          · rfl
        rw [e] at hq
        refine iteT ?_
        exact hq .non Hc sH .non
      obtain ⟨w0, n, r, rfl⟩ : ∃ w0 n r, ws = w0 :: n :: r := by
        match ws, h2 with
        | [], h2 => exact absurd (by show ((0 : Nat) : Int) < 2; omega) h2
        | [x], h2 => exact absurd (by show ((1 : Nat) : Int) < 2; omega) h2
        | x :: y :: r, _ => exact ⟨x, y, r, rfl⟩
      have sn := wd.short n (by simp)
      refine ⟨_, rfl, a, _, 1, _, rfl, rfl, sqL_same hw sH, atI_nat (j := 1) rfl, n, rfl, by omega, fun H1 t1 => ?_⟩
      have sA : Same H H1 := fun b o z => t1 _ _ (sH _ _ z)
      refine ⟨_, rfl, ?_⟩
      cases hn : isName n with
      | false =>
        refine iteT ?_
        refine iteT ?_
        have e : labIn (w0 :: n :: r) = none := by
          show (if isName n = true then _ else _) = _
          rw [hn]
          rfl
        rw [e] at hq
        exact hq .non H1 sA .non
      | true =>
      refine iteF ?_
      have e : labIn (w0 :: n :: r) = tabsIn (r.map integerIn) := by
        show (if isName n = true then _ else _) = _
        rw [hn]
        rfl
      rw [e] at hq
      have eD : Hc D = some (.lst ((r.map integerIn).map oI)) := eD
      have len : r.length ≤ 1000 := len
      have eD1 := t1 _ _ eD
      generalize hns : r.map integerIn = ns at hq eD eD1
      have ln : ns.length ≤ 1000 := by
        rw [← hns, List.length_map]
        exact len
      refine ⟨_, rfl, D, _, rfl, .inl (SqL.of eD1), _, _, rfl, rfl, (show (0 : Int) < 5 by decide), rfl, _, rfl, ?_⟩
      rw [List.length_map, dec_int]
      by_cases h5 : ns.length % 5 = 0
      · rw [show (!decide ((ns.length : Int) % 5 = 0)) = false from by rw [decide_eq_true (by omega)]; rfl]
        refine iteF ?_
        obtain ⟨m, hm⟩ : ∃ m, ns.length = 5 * m := ⟨ns.length / 5, by omega⟩
        have hm' : ns.length / 5 = m := by omega
        refine ⟨_, rfl, D, _, rfl, .inl (SqL.of eD1), 0, _, 5, m, rfl, rg5 (by rw [List.length_map, hm]; omega) (by omega), fun D2 nD2 => lc_data walk_rangeC nD2 ((chunks ns).map fun f => .tuple (f.map oD)) (by rw [List.length_map]; unfold chunks; rw [List.length_map, List.length_range, hm']) (by omega) (fun _ _ => True.intro) ?_ ?_⟩
        · rintro i x d Hd Hd' k hd sd ⟨rfl, rfl⟩ hk
          rw [List.getElem?_map, Option.map_eq_some_iff] at hd
          obtain ⟨f, hf, rfl⟩ := hd
          unfold chunks at hf
          rw [List.getElem?_map, Option.map_eq_some_iff] at hf
          obtain ⟨j, hj, rfl⟩ := hf
          rw [hm'] at hj
          obtain ⟨hi, hj⟩ := List.getElem?_eq_some_iff.mp hj
          rw [List.length_range] at hi
          rw [List.getElem_range] at hj
          subst hj
          refine ⟨rfl, _, rfl, _, rfl, _, rfl, _, rfl, _, _, rfl, rfl, _, rfl, D, _, rfl, SqL.of (sd _ _ eD1), fun q nq => ?_⟩
          have ec : cutV (ns.map oI) (some (0 + (i : Int) * 5)) (some (0 + (i : Int) * 5 + 5)) = (chunk ns i).map oI := by
            rw [show (0 + (i : Int) * 5 : Int) = ((5 * i : Nat) : Int) from by omega, show (((5 * i : Nat) : Int) + 5 : Int) = ((5 * i + 5 : Nat) : Int) from by omega]
            rw [cut_mid _ (by omega) (by rw [List.length_map]; omega), show 5 * i + 5 - 5 * i = 5 from by omega]
            unfold chunk
            rw [List.map_take, List.map_drop]
          rw [ec]
          refine .inl ⟨q, _, rfl, SqL.of upd_same, fun q2 nq2 => ?_⟩
          have r1 := same_new (o := .lst ((chunk ns i).map oI)) nq
          have r2 := same_new (o := .tup ((chunk ns i).map oI)) nq2
          exact hk _ _ (fun b o z => r2 _ _ (r1 _ _ z)) (.tup (none_of_same r1 nq2) upd_same (dqall_map (fun o => dq_oI o) _))
        · intro Hd sd dq
          cases dq with
          | @lst _ ys _ fD2 eD2 al =>
          have ly : ys.length = m := by
            rw [al.len, List.length_map]
            unfold chunks
            rw [List.length_map, List.length_range, hm']
          have sB : Same H Hd := fun b o z => sd _ _ (sA _ _ z)
          have eT : tabsIn ns = (if 1 ≤ m ∧ m ≤ 4 ∧ (chunks ns).all isTable = true then some ((chunks ns).filterMap tabOf) else none) := by
            unfold tabsIn
            rw [if_pos h5, hm']
          rw [eT] at hq
          have no : ∀ {H' : Hp}, Same H H' → ¬ (1 ≤ m ∧ m ≤ 4 ∧ (chunks ns).all isTable = true) → Q .non H' := fun sX c => by
            rw [if_neg c] at hq
            exact hq .non _ sX .non
          refine ⟨_, rfl, D2, ys, rfl, .inl (SqL.of eD2), _, _, rfl, rfl, _, rfl, ?_⟩
          rw [ly]
          refine dec_if (fun c1 => ?_) (fun c1 => ?_)
          · refine ⟨_, _, rfl, rfl, _, rfl, ?_⟩
            refine dec_if (fun c2 => ?_) (fun c2 => ?_)
            · refine ⟨_, rfl, D2, rfl, ⟨_, SqL.of eD2⟩, fun D3 nD3 => lc_vals walk_list nD3 (((chunks ns).map isTable).map V.bl) (by rw [List.length_map, List.length_map, ly]; unfold chunks; rw [List.length_map, List.length_range, hm']) (by omega) (fun He se => SqL.of (se _ _ eD2)) ?_ ?_⟩
              · rintro i x y He He' k hy se ⟨rfl, hx⟩ hk
                obtain ⟨d, hd, dq⟩ := al.get hx
                rw [List.getElem?_map, Option.map_eq_some_iff] at hd
                obtain ⟨f, hf, rfl⟩ := hd
                rw [List.getElem?_map, List.getElem?_map, hf] at hy
                have hy : V.bl (isTable f) = y := Option.some.inj hy
                subst hy
                have lf : f.length = 5 := by
                  unfold chunks at hf
                  rw [List.getElem?_map, Option.map_eq_some_iff] at hf
                  obtain ⟨j, hj, rfl⟩ := hf
                  have hj := List.mem_of_getElem? hj
                  rw [hm', List.mem_range] at hj
                  exact chunk_len hm hj
                cases dq with
                | tup ff ef af =>
                rw [Dq_os af] at ef
                exact ⟨rfl, _, rfl, _, f, rfl, SqT.of (se _ _ ef), lf, hk _ (Same.refl _)⟩
              · intro He se eD3
                have sC : Same H He := fun b o z => se _ _ (sB _ _ z)
                refine ⟨D3, _, rfl, SqL.of eD3, _, rfl, ?_⟩
                have ea : ((chunks ns).map isTable).all id = (chunks ns).all isTable := by
                  rw [List.all_map]
                  rfl
                rw [ea]
                cases hall : (chunks ns).all isTable with
                | false =>
                  refine iteF ?_
                  exact no sC (fun c => by rw [hall] at c; exact Bool.noConfusion c.2.2)
                | true =>
                refine iteT ?_
                rw [if_pos ⟨by omega, by omega, hall⟩] at hq
                obtain ⟨t1', t2', t3'⟩ := tabs_d hall
                refine ⟨_, rfl, .inl ⟨D2, ys, rfl, SqL.of (se _ _ eD2), fun q nq => ?_⟩⟩
                have r1 := same_new (o := .tup ys) nq
                refine hq _ _ (fun b o z => r1 _ _ (sC _ _ z)) (.tup (none_of_same sC nq) upd_same ?_)
                rw [← t1']
                exact al.move (fun b f => none_of_same sA f) fun b o _ z => r1 _ _ (se _ _ z)
            · refine iteF ?_
              exact no sB (fun c => c2 (by omega))
          · refine ⟨_, rfl, ?_⟩
            refine iteF ?_
            exact no sB (fun c => c1 (by omega))
      · rw [show (!decide ((ns.length : Int) % 5 = 0)) = true from by rw [decide_eq_false (by omega)]; rfl]
        refine iteT ?_
        have e : tabsIn ns = none := by
          unfold tabsIn
          rw [if_neg h5]
        rw [e] at hq
        exact hq .non H1 sA .non
end
end G

set_option Elab.async false
set_option linter.all false
set_option maxRecDepth 100000
set_option maxHeartbeats 4000000
namespace G
open PySem PySem.Spec PyProof.Rows L2 U
open PySem.W (Frag)
/-! ### words of a line, lines of a text -/
/-- a list of signs cut at each c -/
def cuts (c : Nat) : List Nat → List Nat → List (List Nat)
  | acc, [] => [acc]
  | acc, x :: r => if x = c then acc :: cuts c [] r else cuts c (acc ++ [x]) r
theorem pre_one (c x : Nat) (r : List Nat) : TL.pre [c] (x :: r) = decide (x = c) := by
  show ([x] == [c]) = _
  by_cases h : x = c
  · subst h
    simp
  · simp [h]
theorem spl_cuts (c : Nat) : ∀ (l acc : List Nat), TL.spl [c] 0 acc l = cuts c acc l
  | [], acc => TL.spl_nil _ _ _
  | x :: r, acc => by
    by_cases h : x = c
    · rw [TL.spl_hit (by rw [pre_one, decide_eq_true h])]
      show acc :: TL.spl [c] 0 [] r = (if x = c then _ else _)
      rw [if_pos h, spl_cuts c r []]
    · rw [TL.spl_miss (by rw [pre_one, decide_eq_false h])]
      show _ = (if x = c then _ else _)
      rw [if_neg h, spl_cuts c r (acc ++ [x])]
theorem cuts_many (c : Nat) : ∀ (l acc : List Nat), 1 ≤ (cuts c acc l).length ∧ (cuts c acc l).length ≤ l.length + 1
  | [], acc => ⟨Nat.le_refl _, Nat.le_refl _⟩
  | x :: r, acc => by
    unfold cuts
    split
    · have := cuts_many c r []
      rw [List.length_cons, List.length_cons]
      omega
    · have := cuts_many c r (acc ++ [x])
      rw [List.length_cons]
      omega
theorem cuts_short (c : Nat) : ∀ (l acc : List Nat), ∀ p ∈ cuts c acc l, p.length ≤ acc.length + l.length
  | [], acc, p, h => by
    have : p = acc := by simpa [cuts] using h
    rw [this]
    omega
  | x :: r, acc, p, h => by
    unfold cuts at h
    split at h
    · rcases List.mem_cons.mp h with h | h
      · rw [h]
        omega
      · have := cuts_short c r [] p h
        simp at this ⊢
        omega
    · have := cuts_short c r (acc ++ [x]) p h
      rw [List.length_append] at this
      simp at this ⊢
      omega
def sBlank : Str := " "
def sFeed : Str := "\n"
def wordsOf (x : Str) : List Str := Txt.split x sBlank
def linesOf (x : Str) : List Str := Txt.split x sFeed
theorem kind_ok (x y : Str) (h : y.cps.all (· < 256) = true) : ¬ Builtin.Str.strKind x < Builtin.Str.strKind y := by
  unfold Builtin.Str.strKind
  rw [if_pos h]
  split
  · omega
  · split <;> omega
theorem all_blank : sBlank.cps.all (· < 256) = true := by
  rw [← Array.all_toList]
  decide +kernel
theorem all_feed : sFeed.cps.all (· < 256) = true := by
  rw [← Array.all_toList]
  decide +kernel
theorem words_cuts (x : Str) : (wordsOf x).map TL.tl = cuts 32 [] (TL.tl x) := by
  have e : TL.tl sBlank = [32] := by decide +kernel
  unfold wordsOf
  rw [TL.split_spl x sBlank (by rw [e]; decide) (kind_ok _ _ all_blank), e, spl_cuts]
theorem lines_cuts (x : Str) : (linesOf x).map TL.tl = cuts 10 [] (TL.tl x) := by
  have e : TL.tl sFeed = [10] := by decide +kernel
  unfold linesOf
  rw [TL.split_spl x sFeed (by rw [e]; decide) (kind_ok _ _ all_feed), e, spl_cuts]
theorem words_ok {x : Str} (h : x.length ≤ 600) : Wds (wordsOf x) ∧ 1 ≤ (wordsOf x).length := by
  have e := words_cuts x
  have l : (wordsOf x).length = (cuts 32 [] (TL.tl x)).length := by
    rw [← e, List.length_map]
  have lx : (TL.tl x).length ≤ 600 := by
    rw [← TL.len_tl]
    exact h
  have m := cuts_many 32 (TL.tl x) []
  refine ⟨⟨by omega, fun p hp => ?_⟩, by omega⟩
  have hp' : TL.tl p ∈ cuts 32 [] (TL.tl x) := by
    rw [← e]
    exact List.mem_map.mpr ⟨p, hp, rfl⟩
  have := cuts_short 32 _ _ _ hp'
  rw [TL.len_tl]
  rw [List.length_nil] at this
  omega
end G

set_option Elab.async false
set_option linter.all false
set_option maxRecDepth 100000
set_option maxHeartbeats 4000000
namespace G
open PySem PySem.Spec PyProof.Rows L2 U
open PySem.W (Frag)
/-! ### lines one behind the other -/
section
variable {α : Type}
def toldK (kw : Str) (most : Nat) (f : List Str → Option α) (n : Nat) (ws : List Str) : Option α := if ws[0]? = some kw ∧ n < most then f ws else none
def nextK (kw : Str) (most : Nat) (f : List Str → Option α) (found : List (Str × α)) (line : Str) : Option (Str × α) :=
  match toldK kw most f found.length (wordsOf line), (wordsOf line)[1]? with
    | some t, some n => if n ∈ found.map (·.1) then none else some (n, t)
    | _, _ => none
def readK (kw : Str) (most : Nat) (f : List Str → Option α) : List (Str × α) → List Str → List (Str × α) × Nat
  | found, [] => (found, 0)
  | found, l :: ls => match nextK kw most f found l with
    | none => (found, 0)
    | some x => ((readK kw most f (found ++ [x]) ls).1, (readK kw most f (found ++ [x]) ls).2 + 1)
theorem readK_stop {kw : Str} {most : Nat} {f : List Str → Option α} {found : List (Str × α)} {l : Str} {ls : List Str} (h : nextK kw most f found l = none) : readK kw most f found (l :: ls) = (found, 0) := by
  rw [readK, h]
theorem readK_go {kw : Str} {most : Nat} {f : List Str → Option α} {found : List (Str × α)} {l : Str} {ls : List Str} {x : Str × α} (h : nextK kw most f found l = some x) : readK kw most f found (l :: ls) = ((readK kw most f (found ++ [x]) ls).1, (readK kw most f (found ++ [x]) ls).2 + 1) := by
  rw [readK, h]
theorem nextK_none {kw : Str} {most : Nat} {f : List Str → Option α} {found : List (Str × α)} {l : Str} (h : toldK kw most f found.length (wordsOf l) = none) : nextK kw most f found l = none := by
  unfold nextK
  rw [h]
theorem nextK_in {kw : Str} {most : Nat} {f : List Str → Option α} {found : List (Str × α)} {l n : Str} {t : α} (h : toldK kw most f found.length (wordsOf l) = some t) (h1 : (wordsOf l)[1]? = some n) : nextK kw most f found l = if n ∈ found.map (·.1) then none else some (n, t) := by
  unfold nextK
  rw [h, h1]
theorem toldK_some {kw : Str} {most : Nat} {f : List Str → Option α} {n : Nat} {ws : List Str} {t : α} (h : toldK kw most f n ws = some t) : f ws = some t ∧ n < most ∧ ws[0]? = some kw := by
  unfold toldK at h
  by_cases c : ws[0]? = some kw ∧ n < most
  · rw [if_pos c] at h
    exact ⟨h, c.2, c.1⟩
  · rw [if_neg c] at h
    cases h
def dictD (dA : α → PyData) (xs : List (Str × α)) : PyData := .dict (xs.map fun p => (.str p.1, dA p.2))
/-- the dict that is being made at d -/
def DictAt (dA : α → PyData) (H0 : Hp) (d : Addr) (H : Hp) (found : List (Str × α)) : Prop := ∃ kvs, H d = some (.dK kvs) ∧ kvs.map (·.1) = (found.map (·.1)).map Sum.inr ∧ DqAll (fun a => H0 a = none ∧ a ≠ d) H (kvs.map (·.2)) (found.map fun p => dA p.2)
theorem DictAt.dq {dA : α → PyData} {H0 H : Hp} {d : Addr} {found : List (Str × α)} (h : DictAt dA H0 d H found) (nd : H0 d = none) : Dq (fun a => H0 a = none) H (.ref d) (dictD dA found) := by
  obtain ⟨kvs, e, k, al⟩ := h
  refine dk_mk nd e ?_ ?_
  · rw [List.map_map]
    have : (kvs.map fun kv => kD kv.1) = (kvs.map (·.1)).map kD := by
      rw [List.map_map]
      rfl
    rw [this, k, List.map_map, List.map_map]
    rfl
  · rw [List.map_map]
    exact al.move (fun _ f => f.1) fun b o _ z => z
theorem DictAt.same {dA : α → PyData} {H0 H H' : Hp} {d : Addr} {found : List (Str × α)} (h : DictAt dA H0 d H found) (s : Same H H') : DictAt dA H0 d H' found := by
  obtain ⟨kvs, e, k, al⟩ := h
  exact ⟨kvs, s _ _ e, k, al.move (fun _ f => f) fun b o _ z => s _ _ z⟩
theorem DictAt.len {dA : α → PyData} {H0 H : Hp} {d : Addr} {found : List (Str × α)} (h : DictAt dA H0 d H found) : ∃ kvs : List (Key × V), H d = some (.dK kvs) ∧ kvs.length = found.length := by
  obtain ⟨kvs, e, k, al⟩ := h
  refine ⟨kvs, e, ?_⟩
  have := congrArg List.length k
  simpa using this
theorem DictAt.has {dA : α → PyData} {H0 H : Hp} {d : Addr} {found : List (Str × α)} (h : DictAt dA H0 d H found) (n : Str) : ∃ o, DGet H d (.str n) o ∧ o.isSome = decide (n ∈ found.map (·.1)) := by
  obtain ⟨kvs, e, k, al⟩ := h
  exact words_dget e k n
theorem DictAt.put {dA : α → PyData} {H0 H : Hp} {d : Addr} {found : List (Str × α)} {n : Str} {t : α} {v : V} (h : DictAt dA H0 d H found) (hn : n ∉ found.map (·.1)) (hl : found.length < 1000) (dq : Dq (fun a => H0 a = none ∧ a ≠ d) H v (dA t)) : ∃ H', DPut H d (.str n) v H' ∧ DictAt dA H0 d H' (found ++ [(n, t)]) ∧ SameB d H H' := by
  obtain ⟨kvs, e, k, al⟩ := h
  have lk : kvs.length = found.length := by
    have := congrArg List.length k
    simpa using this
  have up : SameB d H (upd H d (.dK (putK kvs (Sum.inr n) v))) := fun b o hb z => by
    rw [upd_ne hb]
    exact z
  have nv : valV kvs (Sum.inr n) = none := by
    have := valV_some k n
    rw [decide_eq_false hn] at this
    cases q : valV kvs (Sum.inr n) with
    | none => rfl
    | some x =>
      rw [q] at this
      cases this
  refine ⟨_, DPut.k (k := Sum.inr n) e (Nat.lt_of_lt_of_le (by omega) sizeLine_ge), ⟨_, upd_same, ?_, ?_⟩, up⟩
  · rw [putK_new v nv, List.map_append, List.map_append, List.map_append, k]
    rfl
  · rw [putK_new v nv, List.map_append, List.map_append]
    rw [putK_new v nv] at up
    exact (al.move (fun _ f => f) fun b o f z => up b o f.2 z).app (.cons (dq.move (fun _ f => f) fun b o f z => up b o f.2 z) .nil)
theorem same_of_b {H0 H H' : Hp} {d : Addr} (nd : H0 d = none) (s : Same H0 H) (u : SameB d H H') : Same H0 H' := fun b o z => u b o (ne_of_none z nd) (s b o z)
structure LinesOk (ls : List Str) : Prop where
  few : ls.length ≤ 1000
  short : ∀ l ∈ ls, l.length ≤ 600
theorem drop_cons {β : Type} {xs : List β} {i : Nat} {x : β} (h : xs[i]? = some x) : xs.drop i = x :: xs.drop (i + 1) := by
  obtain ⟨hi, e⟩ := List.getElem?_eq_some_iff.mp h
  rw [List.drop_eq_getElem_cons hi, e]
end
end G

set_option Elab.async false
set_option linter.all false
set_option maxRecDepth 100000
set_option maxHeartbeats 4000000
namespace G
open PySem PySem.Spec PyProof.Rows L2 U
open PySem.W (Frag)
/-- a word's number in a written dict -/
def CD (K : Frag) (w : World) (mg : Str → Option Value) (x k : Str) (v : V) : Prop := ∃ a, mg x = some (.ref a) ∧ KDct K w a k v
section
variable {α : Type} {K : Frag} {w : World}
abbrev rLenD : List V → Hp → VK → Prop := fun xs H Q => ∃ a kvs, xs = [V.ref a] ∧ H a = some (.dK kvs) ∧ Q (.int kvs.length) H
theorem told_eval {iw ifo : Nat} {σ : L2.St} {H : Hp} {p d aM : Addr} {ws : List Str} {w0 kw : Str} {most : Nat} {f : List Str → Option α} {dA : α → PyData} {kvs : List (Key × V)} {tc : TE} {k : VK} (hw : σ[iw]? = some (some (.ref p))) (hf : σ[ifo]? = some (some (.ref d))) (ew : H p = some (.lst (ws.map V.str))) (e0 : ws[0]? = some w0)
    (ed : H d = some (.dK kvs)) (kM : KDct K w aM kw (.int most)) (hc : ∀ k : VK, (∀ v H', Same H H' → Dq (fun a => H a = none) H' v (optD ((f ws).map dA)) → k v H') → tc σ H k)
    (hk : ∀ v H', Same H H' → Dq (fun a => H a = none) H' v (optD ((toldK kw most f kvs.length ws).map dA)) → k v H') :
    tIf (tAnd (tTest (tOp rEq (tOp (rIxL K) (tVar iw) (tC (.int 0))) (tC (.str kw)))) (tTest (tOp (rI0 fun i j => .bl (decide (i < j))) (tCB rLenD (tCons (tVar ifo) tNil)) (tOp (rIxD K w) (tC (.ref aM)) (tC (.str kw)))))) tc (tC .non) σ H k := by
  have a0 : atI (ws.map V.str) 0 = some (.str w0) := atI_nat (j := 0) (by rw [List.getElem?_map, e0]; rfl)
  have no : toldK kw most f kvs.length ws = none → k .non H := fun e => by
    rw [e] at hk
    exact hk .non H (Same.refl H) .non
  refine ⟨_, hw, p, _, 0, _, rfl, rfl, SqL.of ew, a0, rfl, _, rfl, ?_⟩
  refine dec_if (fun h => ?_) (fun h => ?_)
  · have h : w0 = kw := V.str.inj h
    refine ⟨_, hf, d, kvs, rfl, ed, aM, kw, _, rfl, rfl, kM, _, _, rfl, rfl, _, rfl, ?_⟩
    refine dec_if (fun h2 => ?_) (fun h2 => ?_)
    · have e : toldK kw most f kvs.length ws = f ws := if_pos ⟨by rw [e0, h], by omega⟩
      rw [e] at hk
      exact hc k hk
    · exact no (if_neg fun z => h2 (by have := z.2; omega))
  · refine iteF (no (if_neg fun z => h ?_))
    have := z.1
    rw [e0] at this
    show V.str w0 = V.str kw
    rw [Option.some.inj this]
end
theorem person_two {ws : List Str} {t : Int × Int} (h : personIn ws = some t) : ∃ n, ws[1]? = some n := by
  unfold personIn at h
  split at h
  · exact ⟨_, rfl⟩
  · cases h
theorem rates_ref {F : Addr → Prop} {H : Hp} {v : V} {t : Int × Int} (h : Dq F H v (optD ((some t).map ratesD))) : ∃ c, v = .ref c := by
  cases h with
  | tup => exact ⟨_, rfl⟩
section
variable {P : Program} {w : World} {K : Frag} {mg : Str → Option Value} {base : Heap}
def readPeople (ls : List Str) : People × Nat := readK "person" 3 personIn [] ls
def sp_read_people (K : Frag) : Sp := fun vs H Q _ => ∃ (a : Addr) (ls : List Str), vs = [.ref a] ∧ SqL K H a (ls.map V.str) ∧ LinesOk ls ∧ Ret H (.tuple [dictD ratesD (readPeople ls).1, .int (readPeople ls).2]) Q
theorem has_read_people (F : Fn K mg "read_people" s_read_people) (hF : Has P w K mg base 2 "person_in" P_person_in [] (sp_person_in K)) (gL : mg "len" = none) (gE : mg "enumerate" = none) (cB : CS mg "BLANK" sBlank) (cK : CS mg "PERSON" "person") (cM : CD K w mg "MOST_charts" "person" (.int 3)) : Has P w K mg base 3 "read_people" P_read_people [] (sp_read_people K) := by
  obtain ⟨⟨fd, F⟩, g⟩ := F
  refine ⟨⟨fd, [], ?_, F.kp, .nil, F.bindsN fun _ _ _ _ _ _ us hl => match us, hl with | [_], _ => rfl⟩, g⟩
  obtain ⟨aM, mM, kM⟩ := cM
  refine F.ok sc_read_people (fun vs H Q E h => ?_) (fun cdv A outer s H vs Q E hr h' => ?_)
  · obtain ⟨a, ls, rfl, _⟩ := h
    rfl
  · obtain ⟨a, ls, rfl, hw, lok, hq⟩ := h'
    refine ⟨_, PSs.nox (pss_cons (ps_set (i := 1) sc_read_people.nd rfl (Or.inl rfl) pe_dnewK)
      (pss_cons (ps_for PassesOwn.never rfl (pi_enum (by rfl) gE (pa_cons (pv 0) pa_nil)) (pg_tup rfl (pgs_cons (pg_name (i := 2) sc_read_people.nd rfl (Or.inl rfl)) (pgs_cons (pg_name (i := 3) sc_read_people.nd rfl (Or.inl rfl)) pgs_nil)))
        (pss_cons (ps_set (i := 4) sc_read_people.nd rfl (Or.inl rfl) (pe_split (pv 3) (pe_cs cB)))
        (pss_cons (ps_set (i := 5) sc_read_people.nd rfl (Or.inl rfl) (pe_ifExp (PW.pt (pw_and (pt_cmpR op_eq (pe_ix ix_list (pv 4) pe_int (fun _ _ => rfl)) (pe_cs cK) (nomark _)) (pw_and1 (pt_cmpR op_lt (pe_callB call_lenD (by rfl) gL PySem.boot_len (pa_cons (pv 1) pa_nil)) (pe_ix ix_kdict (pe_glob (by rfl) mM (v := .ref aM) rfl) (pe_cs cK) (fun _ _ => rfl)) (nomark _))))) (pe_has hF hr (pa_cons (pv 4) pa_nil)) pe_non))
        (pss_cons (ps_if (PW.pt (pw_or (pt_cmp (pc_isN (pv 5)) rfl) (pw_or1 (pt_cmp (pc_din (hu_of hr) (pe_ix ix_list (pv 4) pe_int (fun _ _ => rfl)) (pv 1)) rfl)))) (pss_one (ps_ret (pe_tup (pa_cons (pv 1) (pa_cons (pv 2) pa_nil))))) pss_nil)
        (pss_one (ps_dput (hu_of hr) (pv 1) (pe_ix ix_list (pv 4) pe_int (fun _ _ => rfl)) (pv 5) rfl))))))
      (pss_one (ps_ret (pe_tup (pa_cons (pv 1) (pa_cons (pe_callB call_len_seq (by rfl) gL PySem.boot_len (pa_cons (pv 0) pa_nil)) pa_nil))))))), ?_⟩
    intro d nd
    have s0 : Same H (upd H d (.dK [])) := same_new nd
    have two : ∀ {Hx : Hp} {found : People} {n : Nat} {q : Addr}, Same H Hx → DictAt ratesD H d Hx found → readPeople ls = (found, n) → Hx q = none → Q (.ref q) (upd Hx q (.tup [.ref d, .int n])) := by
      intro Hx found n q sx hD e nq
      rw [e] at hq
      have r := same_new (o := .tup [.ref d, .int n]) nq
      exact hq _ _ (fun b o z => r _ _ (sx _ _ z)) (.tup (none_of_same sx nq) upd_same (.cons ((hD.same r).dq nd) (.cons (.int _) .nil)))
    refine ⟨_, rfl, a, _, rfl, sqL_same hw s0, for_it (walk_enum (xs := ls.map V.str)) (fun i σ Hc => ∃ (o2 o3 o4 o5 : Option V) (found : People), σ = [some (.ref a), some (.ref d), o2, o3, o4, o5] ∧ Same H Hc ∧ DictAt ratesD H d Hc found ∧ readPeople ls = ((readK "person" 3 personIn found (ls.drop i)).1, (readK "person" 3 personIn found (ls.drop i)).2 + i))
      ⟨none, none, none, none, [], rfl, s0, ⟨[], upd_same, rfl, .nil⟩, rfl⟩ (fun i σ Hc _ h => ?_) ?_ ?_⟩
    · obtain ⟨_, _, _, _, found, _, sH, _⟩ := h
      exact sqL_same hw sH
    · rintro i x σ Hc Hc' hi ⟨o2, o3, o4, o5, found, rfl, sH, hD, hR⟩ ⟨T, x1, x2, rfl, nT, rfl, h1, h2⟩
      have h1 : x1 = .int (i : Nat) := (Option.some.inj h1).symm
      subst h1
      have h2 : (ls.map V.str)[i]? = some x2 := h2
      rw [List.getElem?_map, Option.map_eq_some_iff] at h2
      obtain ⟨line, hl, rfl⟩ := h2
      have sl := lok.short line (List.mem_of_getElem? hl)
      obtain ⟨wd, w1⟩ := words_ok sl
      rw [drop_cons hl] at hR
      refine ⟨T, _, rfl, SqT.of upd_same, rfl, _, _, rfl, _, _, rfl, rfl, ?_⟩
      refine ⟨_, rfl, ⟨_, rfl⟩, line, sBlank, rfl, rfl, (by decide +kernel), by rw [sizeLine_eq]; omega, fun p np => ?_⟩
      have sP : Same Hc (upd (upd Hc T (.tup [.int (i : Nat), .str line])) p (.lst ((wordsOf line).map V.str))) := fun b o z => same_new np _ _ (same_new nT _ _ z)
      obtain ⟨kvs, ed, lk⟩ := (hD.same sP).len
      obtain ⟨w0, e0⟩ : ∃ w0, (wordsOf line)[0]? = some w0 := ⟨_, List.getElem?_eq_getElem (by omega)⟩
      refine told_eval (f := personIn) (dA := ratesD) (ws := wordsOf line) rfl rfl upd_same e0 ed kM (fun k hk => ⟨_, rfl, p, wordsOf line, rfl, SqL.of upd_same, wd, fun v H' s' dq => hk v H' s' dq⟩) fun v H' s' dq => ?_
      rw [lk] at dq
      have sB : Same Hc H' := fun b o z => s' _ _ (sP _ _ z)
      have sA : Same H H' := fun b o z => sB _ _ (sH _ _ z)
      have hD' := hD.same sB
      have ep := s' _ _ (upd_same (H := upd Hc T (.tup [.int (i : Nat), .str line])) (a := p) (o := .lst ((wordsOf line).map V.str)))
      have back : nextK "person" 3 personIn found line = none → readPeople ls = (found, i) := fun z => by
        rw [hR]
        rw [readK_stop z]
        show (found, 0 + i) = _
        rw [Nat.zero_add]
      cases ht : toldK "person" 3 personIn found.length (wordsOf line) with
      | none =>
        rw [ht] at dq
        cases dq
        refine ⟨_, rfl, _, rfl, ?_⟩
        refine iteT ?_
        refine iteT ?_
        exact ⟨_, rfl, _, rfl, Nat.le_trans (by show 2 ≤ 1000; omega) sizeLine_ge, fun q nq => two sA hD' (back (nextK_none ht)) nq⟩
      | some t =>
      rw [ht] at dq
      obtain ⟨ft, fm, _⟩ := toldK_some ht
      obtain ⟨n, hn⟩ := person_two ft
      obtain ⟨c, rfl⟩ := rates_ref dq
      refine ⟨_, rfl, _, rfl, ?_⟩
      rw [show decide (V.ref c = V.non) = false from decide_eq_false fun z => by cases z]
      refine iteF ?_
      have an : atI ((wordsOf line).map V.str) 1 = some (.str n) := atI_nat (j := 1) (by rw [List.getElem?_map, hn]; rfl)
      obtain ⟨o, go, eo⟩ := hD'.has n
      refine ⟨_, rfl, p, _, 1, _, rfl, rfl, SqL.of ep, an, _, rfl, d, o, rfl, go, _, rfl, ?_⟩
      rw [eo]
      have en := nextK_in ht hn
      refine dec_if (fun hin => ?_) (fun hin => ?_)
      · rw [if_pos hin] at en
        exact ⟨_, rfl, _, rfl, Nat.le_trans (by show 2 ≤ 1000; omega) sizeLine_ge, fun q nq => two sA hD' (back en) nq⟩
      · rw [if_neg hin] at en
        have dq' : Dq (fun b => H b = none ∧ b ≠ d) H' (.ref c) (ratesD t) := dq.move (fun b f => ⟨none_of_same sH (none_of_same sP f), fun z => by rw [z] at f; exact absurd (f.symm.trans ed) (fun q => by cases q)⟩) fun b o _ z => z
        obtain ⟨H4, put, hD4, ub⟩ := hD'.put hin (Nat.lt_trans fm (by omega)) dq'
        refine ⟨_, rfl, _, rfl, _, rfl, p, _, 1, _, rfl, rfl, SqL.of ep, an, d, H4, rfl, put, ?_⟩
        refine ⟨_, _, _, _, found ++ [(n, t)], rfl, same_of_b nd sA ub, hD4, ?_⟩
        rw [hR, readK_go en]
        show (_, _ + 1 + i) = (_, _ + (i + 1))
        rw [Nat.add_assoc, Nat.add_comm 1 i]
    · rintro σ Hc ⟨o2, o3, o4, o5, found, rfl, sH, hD, hR⟩
      rw [List.length_map, List.drop_of_length_le (Nat.le_refl _)] at hR
      refine ⟨_, rfl, _, rfl, a, _, rfl, .inl (sqL_same hw sH), Nat.le_trans (by show 2 ≤ 1000; omega) sizeLine_ge, fun q nq => ?_⟩
      rw [List.length_map]
      refine two (n := ls.length) sH hD ?_ nq
      rw [hR]
      show (found, 0 + ls.length) = _
      rw [Nat.zero_add]
end
end G

set_option Elab.async false
set_option linter.all false
set_option maxRecDepth 100000
set_option maxHeartbeats 4000000
namespace G
open PySem PySem.Spec PyProof.Rows L2 U
open PySem.W (Frag)
theorem lab_two {ws : List Str} {t : List Tab} (h : labIn ws = some t) : ∃ n, ws[1]? = some n := by
  unfold labIn at h
  split at h
  · exact ⟨_, rfl⟩
  · cases h
theorem tabs_ref {F : Addr → Prop} {H : Hp} {v : V} {t : List Tab} (h : Dq F H v (optD ((some t).map tabsD))) : ∃ c, v = .ref c := by
  cases h with
  | tup => exact ⟨_, rfl⟩
theorem result_two {ps : People} {ls : Labs} {ws : List Str} {t : Row} (h : resultIn ps ls ws = some t) : ∃ n, ws[1]? = some n := by
  unfold resultIn at h
  split at h
  · exact ⟨_, rfl⟩
  · cases h
theorem row_ref {F : Addr → Prop} {H : Hp} {v : V} {t : Row} (h : Dq F H v (optD ((some t).map Row.d))) : ∃ c, v = .ref c := by
  cases h with
  | tup => exact ⟨_, rfl⟩
section
variable {P : Program} {w : World} {K : Frag} {mg : Str → Option Value} {base : Heap}
def readLabs (ls : List Str) : Labs × Nat := readK "lab" 6 labIn [] ls
def sp_read_labs (K : Frag) : Sp := fun vs H Q _ => ∃ (a : Addr) (ls : List Str), vs = [.ref a] ∧ SqL K H a (ls.map V.str) ∧ LinesOk ls ∧ Ret H (.tuple [dictD tabsD (readLabs ls).1, .int (readLabs ls).2]) Q
theorem has_read_labs (F : Fn K mg "read_labs" s_read_labs) (hF : Has P w K mg base 2 "lab_in" P_lab_in [] (sp_lab_in K)) (gL : mg "len" = none) (gE : mg "enumerate" = none) (cB : CS mg "BLANK" sBlank) (cK : CS mg "LAB" "lab") (cM : CD K w mg "MOST_charts" "lab" (.int 6)) : Has P w K mg base 3 "read_labs" P_read_labs [] (sp_read_labs K) := by
  obtain ⟨⟨fd, F⟩, g⟩ := F
  refine ⟨⟨fd, [], ?_, F.kp, .nil, F.bindsN fun _ _ _ _ _ _ us hl => match us, hl with | [_], _ => rfl⟩, g⟩
  obtain ⟨aM, mM, kM⟩ := cM
  refine F.ok sc_read_labs (fun vs H Q E h => ?_) (fun cdv A outer s H vs Q E hr h' => ?_)
  · obtain ⟨a, ls, rfl, _⟩ := h
    rfl
  · obtain ⟨a, ls, rfl, hw, lok, hq⟩ := h'
    refine ⟨_, PSs.nox (pss_cons (ps_set (i := 1) sc_read_labs.nd rfl (Or.inl rfl) pe_dnewK)
      (pss_cons (ps_for PassesOwn.never rfl (pi_enum (by rfl) gE (pa_cons (pv 0) pa_nil)) (pg_tup rfl (pgs_cons (pg_name (i := 2) sc_read_labs.nd rfl (Or.inl rfl)) (pgs_cons (pg_name (i := 3) sc_read_labs.nd rfl (Or.inl rfl)) pgs_nil)))
        (pss_cons (ps_set (i := 4) sc_read_labs.nd rfl (Or.inl rfl) (pe_split (pv 3) (pe_cs cB)))
        (pss_cons (ps_set (i := 5) sc_read_labs.nd rfl (Or.inl rfl) (pe_ifExp (PW.pt (pw_and (pt_cmpR op_eq (pe_ix ix_list (pv 4) pe_int (fun _ _ => rfl)) (pe_cs cK) (nomark _)) (pw_and1 (pt_cmpR op_lt (pe_callB call_lenD (by rfl) gL PySem.boot_len (pa_cons (pv 1) pa_nil)) (pe_ix ix_kdict (pe_glob (by rfl) mM (v := .ref aM) rfl) (pe_cs cK) (fun _ _ => rfl)) (nomark _))))) (pe_has hF hr (pa_cons (pv 4) pa_nil)) pe_non))
        (pss_cons (ps_if (PW.pt (pw_or (pt_cmp (pc_isN (pv 5)) rfl) (pw_or1 (pt_cmp (pc_din (hu_of hr) (pe_ix ix_list (pv 4) pe_int (fun _ _ => rfl)) (pv 1)) rfl)))) (pss_one (ps_ret (pe_tup (pa_cons (pv 1) (pa_cons (pv 2) pa_nil))))) pss_nil)
        (pss_one (ps_dput (hu_of hr) (pv 1) (pe_ix ix_list (pv 4) pe_int (fun _ _ => rfl)) (pv 5) rfl))))))
      (pss_one (ps_ret (pe_tup (pa_cons (pv 1) (pa_cons (pe_callB call_len_seq (by rfl) gL PySem.boot_len (pa_cons (pv 0) pa_nil)) pa_nil))))))), ?_⟩
    intro d nd
    have s0 : Same H (upd H d (.dK [])) := same_new nd
    have two : ∀ {Hx : Hp} {found : Labs} {n : Nat} {q : Addr}, Same H Hx → DictAt tabsD H d Hx found → readLabs ls = (found, n) → Hx q = none → Q (.ref q) (upd Hx q (.tup [.ref d, .int n])) := by
      intro Hx found n q sx hD e nq
      rw [e] at hq
      have r := same_new (o := .tup [.ref d, .int n]) nq
      exact hq _ _ (fun b o z => r _ _ (sx _ _ z)) (.tup (none_of_same sx nq) upd_same (.cons ((hD.same r).dq nd) (.cons (.int _) .nil)))
    refine ⟨_, rfl, a, _, rfl, sqL_same hw s0, for_it (walk_enum (xs := ls.map V.str)) (fun i σ Hc => ∃ (o2 o3 o4 o5 : Option V) (found : Labs), σ = [some (.ref a), some (.ref d), o2, o3, o4, o5] ∧ Same H Hc ∧ DictAt tabsD H d Hc found ∧ readLabs ls = ((readK "lab" 6 labIn found (ls.drop i)).1, (readK "lab" 6 labIn found (ls.drop i)).2 + i))
      ⟨none, none, none, none, [], rfl, s0, ⟨[], upd_same, rfl, .nil⟩, rfl⟩ (fun i σ Hc _ h => ?_) ?_ ?_⟩
    · obtain ⟨_, _, _, _, found, _, sH, _⟩ := h
      exact sqL_same hw sH
    · rintro i x σ Hc Hc' hi ⟨o2, o3, o4, o5, found, rfl, sH, hD, hR⟩ ⟨T, x1, x2, rfl, nT, rfl, h1, h2⟩
      have h1 : x1 = .int (i : Nat) := (Option.some.inj h1).symm
      subst h1
      have h2 : (ls.map V.str)[i]? = some x2 := h2
      rw [List.getElem?_map, Option.map_eq_some_iff] at h2
      obtain ⟨line, hl, rfl⟩ := h2
      have sl := lok.short line (List.mem_of_getElem? hl)
      obtain ⟨wd, w1⟩ := words_ok sl
      rw [drop_cons hl] at hR
      refine ⟨T, _, rfl, SqT.of upd_same, rfl, _, _, rfl, _, _, rfl, rfl, ?_⟩
      refine ⟨_, rfl, ⟨_, rfl⟩, line, sBlank, rfl, rfl, (by decide +kernel), by rw [sizeLine_eq]; omega, fun p np => ?_⟩
      have sP : Same Hc (upd (upd Hc T (.tup [.int (i : Nat), .str line])) p (.lst ((wordsOf line).map V.str))) := fun b o z => same_new np _ _ (same_new nT _ _ z)
      obtain ⟨kvs, ed, lk⟩ := (hD.same sP).len
      obtain ⟨w0, e0⟩ : ∃ w0, (wordsOf line)[0]? = some w0 := ⟨_, List.getElem?_eq_getElem (by omega)⟩
      refine told_eval (f := labIn) (dA := tabsD) (ws := wordsOf line) rfl rfl upd_same e0 ed kM (fun k hk => ⟨_, rfl, p, wordsOf line, rfl, SqL.of upd_same, wd, fun v H' s' dq => hk v H' s' dq⟩) fun v H' s' dq => ?_
      rw [lk] at dq
      have sB : Same Hc H' := fun b o z => s' _ _ (sP _ _ z)
      have sA : Same H H' := fun b o z => sB _ _ (sH _ _ z)
      have hD' := hD.same sB
      have ep := s' _ _ (upd_same (H := upd Hc T (.tup [.int (i : Nat), .str line])) (a := p) (o := .lst ((wordsOf line).map V.str)))
      have back : nextK "lab" 6 labIn found line = none → readLabs ls = (found, i) := fun z => by
        rw [hR]
        rw [readK_stop z]
        show (found, 0 + i) = _
        rw [Nat.zero_add]
      cases ht : toldK "lab" 6 labIn found.length (wordsOf line) with
      | none =>
        rw [ht] at dq
        cases dq
        refine ⟨_, rfl, _, rfl, ?_⟩
        refine iteT ?_
        refine iteT ?_
        exact ⟨_, rfl, _, rfl, Nat.le_trans (by show 2 ≤ 1000; omega) sizeLine_ge, fun q nq => two sA hD' (back (nextK_none ht)) nq⟩
      | some t =>
      rw [ht] at dq
      obtain ⟨ft, fm, _⟩ := toldK_some ht
      obtain ⟨n, hn⟩ := lab_two ft
      obtain ⟨c, rfl⟩ := tabs_ref dq
      refine ⟨_, rfl, _, rfl, ?_⟩
      rw [show decide (V.ref c = V.non) = false from decide_eq_false fun z => by cases z]
      refine iteF ?_
      have an : atI ((wordsOf line).map V.str) 1 = some (.str n) := atI_nat (j := 1) (by rw [List.getElem?_map, hn]; rfl)
      obtain ⟨o, go, eo⟩ := hD'.has n
      refine ⟨_, rfl, p, _, 1, _, rfl, rfl, SqL.of ep, an, _, rfl, d, o, rfl, go, _, rfl, ?_⟩
      rw [eo]
      have en := nextK_in ht hn
      refine dec_if (fun hin => ?_) (fun hin => ?_)
      · rw [if_pos hin] at en
        exact ⟨_, rfl, _, rfl, Nat.le_trans (by show 2 ≤ 1000; omega) sizeLine_ge, fun q nq => two sA hD' (back en) nq⟩
      · rw [if_neg hin] at en
        have dq' : Dq (fun b => H b = none ∧ b ≠ d) H' (.ref c) (tabsD t) := dq.move (fun b f => ⟨none_of_same sH (none_of_same sP f), fun z => by rw [z] at f; exact absurd (f.symm.trans ed) (fun q => by cases q)⟩) fun b o _ z => z
        obtain ⟨H4, put, hD4, ub⟩ := hD'.put hin (Nat.lt_trans fm (by omega)) dq'
        refine ⟨_, rfl, _, rfl, _, rfl, p, _, 1, _, rfl, rfl, SqL.of ep, an, d, H4, rfl, put, ?_⟩
        refine ⟨_, _, _, _, found ++ [(n, t)], rfl, same_of_b nd sA ub, hD4, ?_⟩
        rw [hR, readK_go en]
        show (_, _ + 1 + i) = (_, _ + (i + 1))
        rw [Nat.add_assoc, Nat.add_comm 1 i]
    · rintro σ Hc ⟨o2, o3, o4, o5, found, rfl, sH, hD, hR⟩
      rw [List.length_map, List.drop_of_length_le (Nat.le_refl _)] at hR
      refine ⟨_, rfl, _, rfl, a, _, rfl, .inl (sqL_same hw sH), Nat.le_trans (by show 2 ≤ 1000; omega) sizeLine_ge, fun q nq => ?_⟩
      rw [List.length_map]
      refine two (n := ls.length) sH hD ?_ nq
      rw [hR]
      show (found, 0 + ls.length) = _
      rw [Nat.zero_add]
abbrev Rows := List (Str × Row)
def readResults (ps : People) (bs : Labs) (ls : List Str) : Rows × Nat := readK "result" 24 (resultIn ps bs) [] ls
def sp_read_results (K : Frag) : Sp := fun vs H Q _ => ∃ (G G' : Addr → Prop) (pv0 lv : V) (a : Addr) (ps : People) (bs : Labs) (ls : List Str), vs = [pv0, lv, .ref a] ∧ Dq G H pv0 (peopleD ps) ∧ Dq G' H lv (labsD bs) ∧ LabsOk bs ∧ SqL K H a (ls.map V.str) ∧ LinesOk ls ∧ Ret H (.tuple [dictD Row.d (readResults ps bs ls).1, .int (readResults ps bs ls).2]) Q
theorem has_read_results (F : Fn K mg "read_results" s_read_results) (hF : Has P w K mg base 4 "result_in" P_result_in [] (sp_result_in K)) (gL : mg "len" = none) (gE : mg "enumerate" = none) (cB : CS mg "BLANK" sBlank) (cK : CS mg "RESULT" "result") (cM : CD K w mg "MOST_charts" "result" (.int 24)) : Has P w K mg base 5 "read_results" P_read_results [] (sp_read_results K) := by
  obtain ⟨⟨fd, F⟩, g⟩ := F
  refine ⟨⟨fd, [], ?_, F.kp, .nil, F.bindsN fun _ _ _ _ _ _ us hl => match us, hl with | [_, _, _], _ => rfl⟩, g⟩
  obtain ⟨aM, mM, kM⟩ := cM
  refine F.ok sc_read_results (fun vs H Q E h => ?_) (fun cdv A outer s H vs Q E hr h' => ?_)
  · obtain ⟨G, G', pv0, lv, a, ps, bs, ls, rfl, _⟩ := h
    rfl
  · obtain ⟨G, G', pv0, lv, a, ps, bs, ls, rfl, hp, hb, bok, hw, lok, hq⟩ := h'
    refine ⟨_, PSs.nox (pss_cons (ps_set (i := 3) sc_read_results.nd rfl (Or.inl rfl) pe_dnewK)
      (pss_cons (ps_for PassesOwn.never rfl (pi_enum (by rfl) gE (pa_cons (pv 2) pa_nil)) (pg_tup rfl (pgs_cons (pg_name (i := 4) sc_read_results.nd rfl (Or.inl rfl)) (pgs_cons (pg_name (i := 5) sc_read_results.nd rfl (Or.inl rfl)) pgs_nil)))
        (pss_cons (ps_set (i := 6) sc_read_results.nd rfl (Or.inl rfl) (pe_split (pv 5) (pe_cs cB)))
        (pss_cons (ps_set (i := 7) sc_read_results.nd rfl (Or.inl rfl) (pe_ifExp (PW.pt (pw_and (pt_cmpR op_eq (pe_ix ix_list (pv 6) pe_int (fun _ _ => rfl)) (pe_cs cK) (nomark _)) (pw_and1 (pt_cmpR op_lt (pe_callB call_lenD (by rfl) gL PySem.boot_len (pa_cons (pv 3) pa_nil)) (pe_ix ix_kdict (pe_glob (by rfl) mM (v := .ref aM) rfl) (pe_cs cK) (fun _ _ => rfl)) (nomark _))))) (pe_has hF hr (pa_cons (pv 0) (pa_cons (pv 1) (pa_cons (pv 6) pa_nil)))) pe_non))
        (pss_cons (ps_if (PW.pt (pw_or (pt_cmp (pc_isN (pv 7)) rfl) (pw_or1 (pt_cmp (pc_din (hu_of hr) (pe_ix ix_list (pv 6) pe_int (fun _ _ => rfl)) (pv 3)) rfl)))) (pss_one (ps_ret (pe_tup (pa_cons (pv 3) (pa_cons (pv 4) pa_nil))))) pss_nil)
        (pss_one (ps_dput (hu_of hr) (pv 3) (pe_ix ix_list (pv 6) pe_int (fun _ _ => rfl)) (pv 7) rfl))))))
      (pss_one (ps_ret (pe_tup (pa_cons (pv 3) (pa_cons (pe_callB call_len_seq (by rfl) gL PySem.boot_len (pa_cons (pv 2) pa_nil)) pa_nil))))))), ?_⟩
    intro d nd
    have s0 : Same H (upd H d (.dK [])) := same_new nd
    have two : ∀ {Hx : Hp} {found : Rows} {n : Nat} {q : Addr}, Same H Hx → DictAt Row.d H d Hx found → readResults ps bs ls = (found, n) → Hx q = none → Q (.ref q) (upd Hx q (.tup [.ref d, .int n])) := by
      intro Hx found n q sx hD e nq
      rw [e] at hq
      have r := same_new (o := .tup [.ref d, .int n]) nq
      exact hq _ _ (fun b o z => r _ _ (sx _ _ z)) (.tup (none_of_same sx nq) upd_same (.cons ((hD.same r).dq nd) (.cons (.int _) .nil)))
    refine ⟨_, rfl, a, _, rfl, sqL_same hw s0, for_it (walk_enum (xs := ls.map V.str)) (fun i σ Hc => ∃ (o2 o3 o4 o5 : Option V) (found : Rows), σ = [some pv0, some lv, some (.ref a), some (.ref d), o2, o3, o4, o5] ∧ Same H Hc ∧ DictAt Row.d H d Hc found ∧ readResults ps bs ls = ((readK "result" 24 (resultIn ps bs) found (ls.drop i)).1, (readK "result" 24 (resultIn ps bs) found (ls.drop i)).2 + i))
      ⟨none, none, none, none, [], rfl, s0, ⟨[], upd_same, rfl, .nil⟩, rfl⟩ (fun i σ Hc _ h => ?_) ?_ ?_⟩
    · obtain ⟨_, _, _, _, found, _, sH, _⟩ := h
      exact sqL_same hw sH
    · rintro i x σ Hc Hc' hi ⟨o2, o3, o4, o5, found, rfl, sH, hD, hR⟩ ⟨T, x1, x2, rfl, nT, rfl, h1, h2⟩
      have h1 : x1 = .int (i : Nat) := (Option.some.inj h1).symm
      subst h1
      have h2 : (ls.map V.str)[i]? = some x2 := h2
      rw [List.getElem?_map, Option.map_eq_some_iff] at h2
      obtain ⟨line, hl, rfl⟩ := h2
      have sl := lok.short line (List.mem_of_getElem? hl)
      obtain ⟨wd, w1⟩ := words_ok sl
      rw [drop_cons hl] at hR
      refine ⟨T, _, rfl, SqT.of upd_same, rfl, _, _, rfl, _, _, rfl, rfl, ?_⟩
      refine ⟨_, rfl, ⟨_, rfl⟩, line, sBlank, rfl, rfl, (by decide +kernel), by rw [sizeLine_eq]; omega, fun p np => ?_⟩
      have sP : Same Hc (upd (upd Hc T (.tup [.int (i : Nat), .str line])) p (.lst ((wordsOf line).map V.str))) := fun b o z => same_new np _ _ (same_new nT _ _ z)
      obtain ⟨kvs, ed, lk⟩ := (hD.same sP).len
      obtain ⟨w0, e0⟩ : ∃ w0, (wordsOf line)[0]? = some w0 := ⟨_, List.getElem?_eq_getElem (by omega)⟩
      refine told_eval (f := (resultIn ps bs)) (dA := Row.d) (ws := wordsOf line) rfl rfl upd_same e0 ed kM (fun k hk => ⟨_, rfl, _, rfl, _, rfl, G, G', pv0, lv, p, ps, bs, wordsOf line, rfl, hp.same fun b o z => sP _ _ (sH _ _ z), hb.same fun b o z => sP _ _ (sH _ _ z), bok, SqL.of upd_same, wd, fun v H' s' dq => hk v H' s' dq⟩) fun v H' s' dq => ?_
      rw [lk] at dq
      have sB : Same Hc H' := fun b o z => s' _ _ (sP _ _ z)
      have sA : Same H H' := fun b o z => sB _ _ (sH _ _ z)
      have hD' := hD.same sB
      have ep := s' _ _ (upd_same (H := upd Hc T (.tup [.int (i : Nat), .str line])) (a := p) (o := .lst ((wordsOf line).map V.str)))
      have back : nextK "result" 24 (resultIn ps bs) found line = none → readResults ps bs ls = (found, i) := fun z => by
        rw [hR]
        rw [readK_stop z]
        show (found, 0 + i) = _
        rw [Nat.zero_add]
      cases ht : toldK "result" 24 (resultIn ps bs) found.length (wordsOf line) with
      | none =>
        rw [ht] at dq
        cases dq
        refine ⟨_, rfl, _, rfl, ?_⟩
        refine iteT ?_
        refine iteT ?_
        exact ⟨_, rfl, _, rfl, Nat.le_trans (by show 2 ≤ 1000; omega) sizeLine_ge, fun q nq => two sA hD' (back (nextK_none ht)) nq⟩
      | some t =>
      rw [ht] at dq
      obtain ⟨ft, fm, _⟩ := toldK_some ht
      obtain ⟨n, hn⟩ := result_two ft
      obtain ⟨c, rfl⟩ := row_ref dq
      refine ⟨_, rfl, _, rfl, ?_⟩
      rw [show decide (V.ref c = V.non) = false from decide_eq_false fun z => by cases z]
      refine iteF ?_
      have an : atI ((wordsOf line).map V.str) 1 = some (.str n) := atI_nat (j := 1) (by rw [List.getElem?_map, hn]; rfl)
      obtain ⟨o, go, eo⟩ := hD'.has n
      refine ⟨_, rfl, p, _, 1, _, rfl, rfl, SqL.of ep, an, _, rfl, d, o, rfl, go, _, rfl, ?_⟩
      rw [eo]
      have en := nextK_in ht hn
      refine dec_if (fun hin => ?_) (fun hin => ?_)
      · rw [if_pos hin] at en
        exact ⟨_, rfl, _, rfl, Nat.le_trans (by show 2 ≤ 1000; omega) sizeLine_ge, fun q nq => two sA hD' (back en) nq⟩
      · rw [if_neg hin] at en
        have dq' : Dq (fun b => H b = none ∧ b ≠ d) H' (.ref c) (Row.d t) := dq.move (fun b f => ⟨none_of_same sH (none_of_same sP f), fun z => by rw [z] at f; exact absurd (f.symm.trans ed) (fun q => by cases q)⟩) fun b o _ z => z
        obtain ⟨H4, put, hD4, ub⟩ := hD'.put hin (Nat.lt_trans fm (by omega)) dq'
        refine ⟨_, rfl, _, rfl, _, rfl, p, _, 1, _, rfl, rfl, SqL.of ep, an, d, H4, rfl, put, ?_⟩
        refine ⟨_, _, _, _, found ++ [(n, t)], rfl, same_of_b nd sA ub, hD4, ?_⟩
        rw [hR, readK_go en]
        show (_, _ + 1 + i) = (_, _ + (i + 1))
        rw [Nat.add_assoc, Nat.add_comm 1 i]
    · rintro σ Hc ⟨o2, o3, o4, o5, found, rfl, sH, hD, hR⟩
      rw [List.length_map, List.drop_of_length_le (Nat.le_refl _)] at hR
      refine ⟨_, rfl, _, rfl, a, _, rfl, .inl (sqL_same hw sH), Nat.le_trans (by show 2 ≤ 1000; omega) sizeLine_ge, fun q nq => ?_⟩
      rw [List.length_map]
      refine two (n := ls.length) sH hD ?_ nq
      rw [hR]
      show (found, 0 + ls.length) = _
      rw [Nat.zero_add]
end
end G

set_option Elab.async false
set_option linter.all false
set_option maxRecDepth 100000
set_option maxHeartbeats 4000000
namespace G
open PySem PySem.Spec PyProof.Rows L2 U
open PySem.W (Frag)
/-! ### read_facts -/
def toldF (ps : People) (bs : Labs) (n : Nat) (line : Str) : Option PyData := if (wordsOf line)[0]? = some ("fact" : Str) ∧ n < 8 then claimIn ps bs ((wordsOf line).drop 1) else none
def readF (ps : People) (bs : Labs) : List PyData → List Str → List PyData × Nat
  | found, [] => (found, 0)
  | found, l :: ls => match toldF ps bs found.length l with
    | none => (found, 0)
    | some x => ((readF ps bs (found ++ [x]) ls).1, (readF ps bs (found ++ [x]) ls).2 + 1)
theorem readF_stop {ps : People} {bs : Labs} {found : List PyData} {l : Str} {ls : List Str} (h : toldF ps bs found.length l = none) : readF ps bs found (l :: ls) = (found, 0) := by
  rw [readF, h]
theorem readF_go {ps : People} {bs : Labs} {found : List PyData} {l : Str} {ls : List Str} {x : PyData} (h : toldF ps bs found.length l = some x) : readF ps bs found (l :: ls) = ((readF ps bs (found ++ [x]) ls).1, (readF ps bs (found ++ [x]) ls).2 + 1) := by
  rw [readF, h]
def readFacts (ps : People) (bs : Labs) (ls : List Str) : List PyData × Nat := readF ps bs [] ls
theorem claim_ref {ps : People} {bs : Labs} {ws : List Str} {d : PyData} (h : claimIn ps bs ws = some d) : ∃ ds, d = .tuple ds := by
  unfold claimIn at h
  by_cases h1 : ((ws.drop 2).map integerIn).any (·.isNone) = true
  · rw [if_pos h1] at h
    cases h
  · rw [if_neg h1] at h
    by_cases h2 : isClaimD ps bs (claimD (ws.take 2) ((ws.drop 2).map integerIn)) = true
    · rw [if_pos h2] at h
      exact ⟨_, (Option.some.inj h).symm⟩
    · rw [if_neg h2] at h
      cases h
def ListAt (H0 : Hp) (d : Addr) (H : Hp) (found : List PyData) : Prop := ∃ vs, H d = some (.lst vs) ∧ DqAll (fun a => H0 a = none ∧ a ≠ d) H vs found
theorem ListAt.same {H0 H H' : Hp} {d : Addr} {found : List PyData} (h : ListAt H0 d H found) (s : Same H H') : ListAt H0 d H' found := by
  obtain ⟨vs, e, al⟩ := h
  exact ⟨vs, s _ _ e, al.move (fun _ f => f) fun b o _ z => s _ _ z⟩
theorem ListAt.dq {H0 H : Hp} {d : Addr} {found : List PyData} (h : ListAt H0 d H found) (nd : H0 d = none) : Dq (fun a => H0 a = none) H (.ref d) (.list found) := by
  obtain ⟨vs, e, al⟩ := h
  exact .lst nd e (al.move (fun _ f => f.1) fun b o _ z => z)
section
variable {P : Program} {w : World} {K : Frag} {mg : Str → Option Value} {base : Heap}
theorem told_evalF {iw ifo : Nat} {σ : L2.St} {H : Hp} {p d aM : Addr} {ws : List Str} {w0 kw : Str} {most : Nat} {o : Option PyData} {vs : List V} {tc : TE} {k : VK} (hw : σ[iw]? = some (some (.ref p))) (hf : σ[ifo]? = some (some (.ref d))) (ew : H p = some (.lst (ws.map V.str))) (e0 : ws[0]? = some w0)
    (ed : H d = some (.lst vs)) (kM : KDct K w aM kw (.int most)) (hc : ∀ k : VK, (∀ v H', Same H H' → Dq (fun a => H a = none) H' v (optD o) → k v H') → tc σ H k)
    (hk : ∀ v H', Same H H' → Dq (fun a => H a = none) H' v (optD (if ws[0]? = some kw ∧ vs.length < most then o else none)) → k v H') :
    tIf (tAnd (tTest (tOp rEq (tOp (rIxL K) (tVar iw) (tC (.int 0))) (tC (.str kw)))) (tTest (tOp (rI0 fun i j => .bl (decide (i < j))) (tCB (fun xs H Q => ∃ p ys, xs = [.ref p] ∧ (SqL K H p ys ∨ SqT K H p ys) ∧ Q (.int ys.length) H) (tCons (tVar ifo) tNil)) (tOp (rIxD K w) (tC (.ref aM)) (tC (.str kw)))))) tc (tC .non) σ H k := by
  have a0 : atI (ws.map V.str) 0 = some (.str w0) := atI_nat (j := 0) (by rw [List.getElem?_map, e0]; rfl)
  have no : ¬ (ws[0]? = some kw ∧ vs.length < most) → k .non H := fun e => by
    rw [if_neg e] at hk
    exact hk .non H (Same.refl H) .non
  refine ⟨_, hw, p, _, 0, _, rfl, rfl, SqL.of ew, a0, rfl, _, rfl, ?_⟩
  refine dec_if (fun h => ?_) (fun h => ?_)
  · have h : w0 = kw := V.str.inj h
    refine ⟨_, hf, d, vs, rfl, .inl (SqL.of ed), aM, kw, _, rfl, rfl, kM, _, _, rfl, rfl, _, rfl, ?_⟩
    refine dec_if (fun h2 => ?_) (fun h2 => ?_)
    · rw [if_pos ⟨by rw [e0, h], by omega⟩] at hk
      exact hc k hk
    · exact no fun z => h2 (by have := z.2; omega)
  · refine iteF (no fun z => h ?_)
    have := z.1
    rw [e0] at this
    show V.str w0 = V.str kw
    rw [Option.some.inj this]
def sp_read_facts (K : Frag) : Sp := fun vs H Q _ => ∃ (G G' : Addr → Prop) (c lv pv0 : V) (a : Addr) (ps : People) (bs : Labs) (ls : List Str), vs = [c, .ref a] ∧ AttrAt K H c "own_labs" lv ∧ Dq G H lv (labsD bs) ∧ AttrAt K H c "own_people" pv0 ∧ Dq G' H pv0 (peopleD ps) ∧ SqL K H a (ls.map V.str) ∧ LinesOk ls ∧ Ret H (.tuple [.list (readFacts ps bs ls).1, .int (readFacts ps bs ls).2]) Q
theorem has_read_facts (F : Fn K mg "read_facts" s_read_facts) (hF : Has P w K mg base 5 "claim_in" P_claim_in [] (sp_claim_in K)) (gL : mg "len" = none) (gE : mg "enumerate" = none) (cB : CS mg "BLANK" sBlank) (cK : CS mg "FACT" "fact") (cM : CD K w mg "MOST_charts" "fact" (.int 8)) : Has P w K mg base 6 "read_facts" P_read_facts [] (sp_read_facts K) := by
  obtain ⟨⟨fd, F⟩, g⟩ := F
  refine ⟨⟨fd, [], ?_, F.kp, .nil, F.bindsN fun _ _ _ _ _ _ us hl => match us, hl with | [_, _], _ => rfl⟩, g⟩
  obtain ⟨aM, mM, kM⟩ := cM
  refine F.ok sc_read_facts (fun vs H Q E h => ?_) (fun cdv A outer s H vs Q E hr h' => ?_)
  · obtain ⟨G, G', c, lv, pv0, a, ps, bs, ls, rfl, _⟩ := h
    rfl
  · obtain ⟨G, G', c, lv, pv0, a, ps, bs, ls, rfl, hcl, hb, hcp, hp, hw, lok, hq⟩ := h'
    refine ⟨_, PSs.nox (pss_cons (ps_set (i := 2) sc_read_facts.nd rfl (Or.inl rfl) (pe_lst pa_nil))
      (pss_cons (ps_for PassesOwn.never rfl (pi_enum (by rfl) gE (pa_cons (pv 1) pa_nil)) (pg_tup rfl (pgs_cons (pg_name (i := 3) sc_read_facts.nd rfl (Or.inl rfl)) (pgs_cons (pg_name (i := 4) sc_read_facts.nd rfl (Or.inl rfl)) pgs_nil)))
        (pss_cons (ps_set (i := 5) sc_read_facts.nd rfl (Or.inl rfl) (pe_split (pv 4) (pe_cs cB)))
        (pss_cons (ps_set (i := 6) sc_read_facts.nd rfl (Or.inl rfl) (pe_ifExp (PW.pt (pw_and (pt_cmpR op_eq (pe_ix ix_list (pv 5) pe_int (fun _ _ => rfl)) (pe_cs cK) (nomark _)) (pw_and1 (pt_cmpR op_lt (pe_callB call_len_seq (by rfl) gL PySem.boot_len (pa_cons (pv 2) pa_nil)) (pe_ix ix_kdict (pe_glob (by rfl) mM (v := .ref aM) rfl) (pe_cs cK) (fun _ _ => rfl)) (nomark _))))) (pe_has hF hr (pa_cons (pv 0) (pa_cons (pe_slice sl_list (pv 5) (po_some pe_int) po_none) pa_nil))) pe_non))
        (pss_cons (ps_if (pt_cmp (pc_isN (pv 6)) rfl) (pss_one (ps_ret (pe_tup (pa_cons (pv 2) (pa_cons (pv 3) pa_nil))))) pss_nil)
        (pss_one (ps_expr (pe_bm PySem.F.plainAttrs_list PySem.F.slot_list_append PySem.F.type_list_append mt_append (pv 2) (pa_cons (pv 6) pa_nil))))))))
      (pss_one (ps_ret (pe_tup (pa_cons (pv 2) (pa_cons (pe_callB call_len_seq (by rfl) gL PySem.boot_len (pa_cons (pv 1) pa_nil)) pa_nil))))))), ?_⟩
    refine ⟨Nat.zero_le _, fun d nd => ?_⟩
    have s0 : Same H (upd H d (.lst [])) := same_new nd
    have two : ∀ {Hx : Hp} {found : List PyData} {n : Nat} {q : Addr}, Same H Hx → ListAt H d Hx found → readFacts ps bs ls = (found, n) → Hx q = none → Q (.ref q) (upd Hx q (.tup [.ref d, .int n])) := by
      intro Hx found n q sx hD e nq
      rw [e] at hq
      have r := same_new (o := .tup [.ref d, .int n]) nq
      exact hq _ _ (fun b o z => r _ _ (sx _ _ z)) (.tup (none_of_same sx nq) upd_same (.cons ((hD.same r).dq nd) (.cons (.int _) .nil)))
    refine ⟨_, rfl, a, _, rfl, sqL_same hw s0, for_it (walk_enum (xs := ls.map V.str)) (fun i σ Hc => ∃ (o2 o3 o4 o5 : Option V) (found : List PyData), σ = [some c, some (.ref a), some (.ref d), o2, o3, o4, o5] ∧ Same H Hc ∧ ListAt H d Hc found ∧ readFacts ps bs ls = ((readF ps bs found (ls.drop i)).1, (readF ps bs found (ls.drop i)).2 + i))
      ⟨none, none, none, none, [], rfl, s0, ⟨[], upd_same, .nil⟩, rfl⟩ (fun i σ Hc _ h => ?_) ?_ ?_⟩
    · obtain ⟨_, _, _, _, found, _, sH, _⟩ := h
      exact sqL_same hw sH
    · rintro i x σ Hc Hc' hi ⟨o2, o3, o4, o5, found, rfl, sH, hD, hR⟩ ⟨T, x1, x2, rfl, nT, rfl, h1, h2⟩
      have h1 : x1 = .int (i : Nat) := (Option.some.inj h1).symm
      subst h1
      have h2 : (ls.map V.str)[i]? = some x2 := h2
      rw [List.getElem?_map, Option.map_eq_some_iff] at h2
      obtain ⟨line, hl, rfl⟩ := h2
      have sl := lok.short line (List.mem_of_getElem? hl)
      obtain ⟨wd, w1⟩ := words_ok sl
      rw [drop_cons hl] at hR
      refine ⟨T, _, rfl, SqT.of upd_same, rfl, _, _, rfl, _, _, rfl, rfl, ?_⟩
      refine ⟨_, rfl, ⟨_, rfl⟩, line, sBlank, rfl, rfl, (by decide +kernel), by rw [sizeLine_eq]; omega, fun p np => ?_⟩
      have sP : Same Hc (upd (upd Hc T (.tup [.int (i : Nat), .str line])) p (.lst ((wordsOf line).map V.str))) := fun b o z => same_new np _ _ (same_new nT _ _ z)
      have sHP : Same H (upd (upd Hc T (.tup [.int (i : Nat), .str line])) p (.lst ((wordsOf line).map V.str))) := fun b o z => sP _ _ (sH _ _ z)
      have hDP := hD.same sP
      obtain ⟨vs, ed, al⟩ := id hDP
      have lv' : vs.length = found.length := al.len
      obtain ⟨w0, e0⟩ : ∃ w0, (wordsOf line)[0]? = some w0 := ⟨_, List.getElem?_eq_getElem (by omega)⟩
      have back : toldF ps bs found.length line = none → readFacts ps bs ls = (found, i) := fun z => by
        rw [hR]
        rw [readF_stop z]
        show (found, 0 + i) = _
        rw [Nat.zero_add]
      refine told_evalF (o := claimIn ps bs ((wordsOf line).drop 1)) (ws := wordsOf line) rfl rfl upd_same e0 ed kM (fun k hk => ?_) fun v H' s' dq => ?_
      · refine ⟨_, rfl, ⟨_, rfl, ⟨1, rfl, p, _, rfl, SqL.of upd_same, fun r nr => ?_⟩⟩⟩
        have ec : cutV ((wordsOf line).map V.str) (some 1) none = ((wordsOf line).drop 1).map V.str := by
          rw [cut1, List.map_drop]
        have sR := same_new (o := .lst (cutV ((wordsOf line).map V.str) (some 1) none)) nr
        have sAll := fun b o z => sR b o (sHP b o z)
        refine ⟨G, G', c, lv, pv0, r, bs, ps, (wordsOf line).drop 1, rfl, hcl.same sAll, hb.same sAll, hcp.same sAll, hp.same sAll, ?_, ⟨by rw [List.length_drop]; have := wd.few; omega, fun x hx => wd.short x (List.mem_of_mem_drop hx)⟩, fun v H' s' dq => hk v H' (fun b o z => s' _ _ (sR _ _ z)) (dq.move (fun b f => none_of_same sR f) fun b o _ z => z)⟩
        rw [← ec]
        exact SqL.of upd_same
      have eT : toldF ps bs found.length line = (if (wordsOf line)[0]? = some ("fact" : Str) ∧ vs.length < 8 then claimIn ps bs ((wordsOf line).drop 1) else none) := by
        rw [lv']
        rfl
      rw [← eT] at dq
      have sB : Same Hc H' := fun b o z => s' _ _ (sP _ _ z)
      have sA : Same H H' := fun b o z => sB _ _ (sH _ _ z)
      have hD' := hD.same sB
      cases ht : toldF ps bs found.length line with
      | none =>
        rw [ht] at dq
        cases dq
        refine ⟨_, rfl, _, rfl, ?_⟩
        refine iteT ?_
        exact ⟨_, rfl, _, rfl, Nat.le_trans (by show 2 ≤ 1000; omega) sizeLine_ge, fun q nq => two sA hD' (back ht) nq⟩
      | some t =>
      rw [ht] at dq
      have hlt : found.length < 8 ∧ ∃ ds, t = .tuple ds := by
        unfold toldF at ht
        by_cases z : (wordsOf line)[0]? = some ("fact" : Str) ∧ found.length < 8
        · rw [if_pos z] at ht
          exact ⟨z.2, claim_ref ht⟩
        · rw [if_neg z] at ht
          cases ht
      obtain ⟨fm, ds, rfl⟩ := hlt
      obtain ⟨c', rfl⟩ : ∃ c', v = .ref c' := by
        have dq : Dq _ H' v (.tuple ds) := dq
        cases dq with
        | tup => exact ⟨_, rfl⟩
      refine ⟨_, rfl, _, rfl, ?_⟩
      rw [show decide (V.ref c' = V.non) = false from decide_eq_false fun z => by cases z]
      refine iteF ?_
      obtain ⟨vs', ed', al'⟩ := hD'
      have lv2 : vs'.length = found.length := al'.len
      refine ⟨_, rfl, .inl ⟨rfl, _, SqL.of ed'⟩, _, rfl, d, vs', _, rfl, rfl, ed', by rw [lv2]; exact Nat.lt_of_lt_of_le (Nat.lt_trans fm (by omega)) sizeLine_ge, ?_⟩
      have up : SameB d H' (upd H' d (.lst (vs' ++ [.ref c']))) := fun b o hb z => by
        rw [upd_ne hb]
        exact z
      refine ⟨_, _, _, _, found ++ [.tuple ds], rfl, same_of_b nd sA up, ⟨_, upd_same, ?_⟩, ?_⟩
      · refine (al'.move (fun _ f => f) fun b o f z => up b o f.2 z).app (.cons (dq.move (fun b f => ⟨none_of_same sHP f, fun z => ?_⟩) fun b o f z => up b o (fun y => ?_) z) .nil)
        · rw [y] at f
          exact absurd (f.symm.trans ed) (fun q => by cases q)
        · rw [z] at f
          exact absurd (f.symm.trans ed) (fun q => by cases q)
      · rw [hR, readF_go ht]
        show (_, _ + 1 + i) = (_, _ + (i + 1))
        rw [Nat.add_assoc, Nat.add_comm 1 i]
    · rintro σ Hc ⟨o2, o3, o4, o5, found, rfl, sH, hD, hR⟩
      rw [List.length_map, List.drop_of_length_le (Nat.le_refl _)] at hR
      refine ⟨_, rfl, _, rfl, a, _, rfl, .inl (sqL_same hw sH), Nat.le_trans (by show 2 ≤ 1000; omega) sizeLine_ge, fun q nq => ?_⟩
      rw [List.length_map]
      refine two (n := ls.length) sH hD ?_ nq
      rw [hR]
      show (found, 0 + ls.length) = _
      rw [Nat.zero_add]
end
end G

set_option Elab.async false
set_option linter.all false
set_option maxRecDepth 100000
set_option maxHeartbeats 4000000
namespace U
open PySem PySem.Spec PyProof.Rows L2
open PySem.W (Frag)
/-! ### an error of the package raised -/
/-- the error's own dict -/
abbrev xdV (v : V) : HO := .xd [(("value" : Str), v)]
section
variable {X : Cx} {C D fI : Addr}
def tMkErr (C : Addr) (te : TE) : L2.St → Hp → XK → Prop := fun σ H Q => te σ H fun v H1 => ∀ d, H1 d = none → Q (.ref C) (some d) (upd H1 d (xdV v))
theorem pmk_err {x : Str} {e : Expr} {te : TE} {p pos : Pos} {k : Nat} (T : InitTxt X.prog X.K D fI) (TC : ErrC X.K D fI C) (hr : Room k X.A) (hm : X.mg x = some (.ref C)) (he : PE X e te) (hg : Gl X x := by rfl)
    (hs : starEach [e] X.env = (false, eval e X.env) :: starEach [] X.env := by rfl) (hdb : (x == ("__debug__" : Str)) = false := by decide) : PMk X (.Call (.Name x p) [e] [] pos) (tMkErr C te) := by
  intro pins s σ H Q I h
  refine wpAny_Call_Name_kw (ld_glob I hg hm ?_ hdb)
  refine PySem.W.callWith_K (h₀ := X.base) I.ok.mod.kin TC.kC ?_ hs (by rfl)
  rw [hs]
  show wpAny _ _ (spliced ((false, eval e X.env) :: backTo pos (starEach [] X.env))) _ _ s
  refine Calls.spliced_cons (thn (he.run pins s σ H _ I h) fun u s1 ⟨v, H1, I1, r1, q1⟩ => ?_)
  refine Calls.spliced_nil ⟨I1.kIn, ?_⟩
  show wpAny _ _ (call (.ref C) [u]) _ _ _
  obtain ⟨mb, hb1, hb2⟩ := I1.mod.blt
  have hdp := hr.dp
  have lim := I1.nolimit
  have kin := I1.kIn
  have gl := I1.mod.glob.keeps I1.bk
  have hb1' := hb1.keeps I1.bk
  obtain ⟨hp, gs, dr, tk0, os⟩ := s1
  refine wpAny_call (made_run T TC kin gl hb1' hb2 lim (by omega) fun h' tk a d M => ?_)
  show MkP X pins σ Q (.ref a) ⟨h', gs, dr, tk, os⟩
  obtain ⟨t1, hoe⟩ := M.obj
  obtain ⟨G', g1, g2⟩ := restrict h' fun b => decide (b ≠ a)
  have gk : ∀ b, b ≠ a → G'.get? b = h'.get? b := fun b hb => g1 b (decide_eq_true hb)
  have ga : G'.get? a = none := g2 a (by simp)
  have kept : ∀ b o, hp.get? b = some o → G'.get? b = some o := fun b o q => (gk b (Nat.ne_of_lt (Nat.lt_of_lt_of_le (Heap.lt_size q) M.new))).trans (M.keep b o q)
  have ob : ObjOk X.prog X.w (upd H1 d (xdV v)) G' d (xdV v) := ⟨_, M.ns.at (fun o q => (gk d M.dne).trans q), fun f => relO_value r1 f⟩
  have J : Inv X pins σ (upd H1 d (xdV v)) ⟨G', gs, dr, tk, os⟩ := I1.laid (t' := tk) kept M.dbig ob
  refine ⟨a, _, _, ⟨G', gs, dr, tk, os⟩, _, .ref C, some d, rfl, J, fun b o q => ?_, ga, hoe, ⟨rfl, rfl⟩, rfl, rfl, ?_, rfl, I1.bare, raises_own TC.exC TC.tyC, q1 d (I1.hok.fresh M.dbig)⟩
  · by_cases hb : b = a
    · have q' : G'.get? b = some o := q
      rw [hb, ga] at q'
      cases q'
    · exact (gk b hb).symm.trans q
  · rw [upd_ne (Ne.symm M.dne)]
    exact I1.hok.fresh M.new
/-- raise x(e) -/
theorem ps_raiseErr {x : Str} {e : Expr} {te : TE} {W : WX} {p pos pos2 : Pos} {k : Nat} (hc : X.calm = true) (tk : Takes X W) (T : InitTxt X.prog X.K D fI) (TC : ErrC X.K D fI C) (hr : Room k X.A) (hm : X.mg x = some (.ref C)) (he : PE X e te) (hg : Gl X x := by rfl)
    (hs : starEach [e] X.env = (false, eval e X.env) :: starEach [] X.env := by rfl) (hdb : (x == ("__debug__" : Str)) = false := by decide) :
    PS X (.Raise (some (.Call (.Name x p) [e] [] pos)) none pos2) (fun _ σ H => tMkErr C te σ H fun cls d H' => W cls d σ H') := ps_raise hc tk (pmk_err T TC hr hm he hg hs hdb)
/-! ### an error that was caught -/
def exw (a C d : Addr) : HO := .ext fun h => ∃ (o : Obj) (vs : Array Value), h.get? a = some o ∧ o.cls = .ref C ∧ o.dict = some d ∧ o.data = .fields vs
theorem exw_at {P : Program} {w : World} {H : Hp} {h : Heap} {a C d : Addr} (x : HOk P w H h) (e : H a = some (exw a C d)) : ∃ (o : Obj) (vs : Array Value), h.get? a = some o ∧ o.cls = .ref C ∧ o.dict = some d ∧ o.data = .fields vs := by
  have z : ObjOk P w H h a (.ext fun h => ∃ (o : Obj) (vs : Array Value), h.get? a = some o ∧ o.cls = .ref C ∧ o.dict = some d ∧ o.data = .fields vs) := x a _ e
  exact z.1
theorem exw_ok {P : Program} {w : World} {H : Hp} {h : Heap} {a C d : Addr} {o : Obj} {vs : Array Value} (h1 : h.get? a = some o) (h2 : o.cls = .ref C) (h3 : o.dict = some d) (h4 : o.data = .fields vs) : ObjOk P w H h a (exw a C d) :=
  ⟨⟨o, vs, h1, h2, h3, h4⟩, ⟨o, h1⟩, fun g1 g2 z k => by
    obtain ⟨o', vs', q1, q2⟩ := z
    exact ⟨o', vs', k _ q1, q2⟩⟩
def tErrW (K : Frag) (D fI : Addr) (te : TE) : TE := fun σ H Q => te σ H fun x H1 => ∃ (a C d : Addr) (v : V), x = .ref a ∧ ErrC K D fI C ∧ H1 a = some (exw a C d) ∧ H1 d = some (xdV v) ∧ Q v H1
theorem pe_errW {e : Expr} {te : TE} {pos : Pos} (he : PE X e te) (hb : attributeBase e "value" X.env (eval e X.env) = eval e X.env := by rfl) : PE X (.Attribute e "value" pos) (tErrW X.K D fI te) := by
  refine ⟨fun pins s σ H Q I h => ?_⟩
  refine attr_of hb (thn (he.run pins s σ H _ I h) fun u s1 hh => ?_)
  obtain ⟨x, H1, I1, rx, a, C, d, v, ex, TC, ea, ed, q⟩ := hh
  subst ex
  obtain rfl : u = Value.ref a := rx
  obtain ⟨o, vs, ho, oc, odd, odat⟩ := exw_at I1.hok ea
  have hx : ObjOk X.prog X.w H1 s1.heap d (xdV v) := I1.hok d _ ed
  obtain ⟨mA, hns, hr⟩ := hx
  obtain ⟨od, hod, hl⟩ := lookIn_ns hns
  have l : ([(("value" : Str), v)] : List (Str × V)).lookup ("value" : Str) = some v := by simp [List.lookup]
  obtain ⟨u, hu, ru⟩ := RelO.some_of (v := v) (o := mA "value") (by rw [← l]; exact hr "value")
  have J : PySem.W.InstAt s1.heap a o C (some od) := ⟨ho, oc, by unfold PySem.W.notCls; rw [odat] <;> rfl, by rw [odd]; exact hod⟩
  exact HandSPX.exc_get I1.kIn J TC.ga TC.gg TC.exC (PySem.W.findObj_own TC.hdC TC.noV rfl (by rw [hl, hu])) (handed_of ru) ⟨v, H1, I1.tok _, ru, q⟩
def rIsW (K : Frag) (D fI : Addr) : List V → Hp → VK → Prop := fun xs H Q => ∃ (a C d : Addr) (v c : V) (u : Value) (b : Bool), xs = [.ref a, c] ∧ ErrC K D fI C ∧ H a = some (exw a C d) ∧ H d = some (xdV v) ∧ ClsV c u ∧ PySem.W.kitOne K (.ref C) u = some b ∧ Q (.bl b) H
theorem call_isW : CallR X (.builtin "isinstance") (rIsW X.K D fI) := by
  intro pins s σ H xs us Q I r h
  obtain ⟨a, C, d, v, c, u, b, rfl, TC, ea, ed, kc, e, q⟩ := h
  obtain ⟨u1, u2, rfl, r1, r2⟩ := vals2 r
  have e2 := kc.eq r2
  subst e2
  obtain rfl : u1 = Value.ref a := r1
  obtain ⟨o, vs, ho, oc, odd, odat⟩ := exw_at I.hok ea
  have hx : ObjOk X.prog X.w H s.heap d (xdV v) := I.hok d _ ed
  obtain ⟨mA, hns, hr⟩ := hx
  obtain ⟨od, hod, hl⟩ := lookIn_ns hns
  have hcl : (PySem.W.clsIn X.K C).isSome = true := by
    obtain ⟨nm, q, N, bs, bm, sn, sub, ab, col, dd, k0, k1, k2, k3, k5, hC, hbm⟩ := TC.cls
    unfold PySem.W.clsIn
    rw [hC] <;> rfl
  have J : PySem.W.InstAt s.heap a o C (some od) := ⟨ho, oc, by unfold PySem.W.notCls; rw [odat] <;> rfl, by rw [odd]; exact hod⟩
  exact PySem.W.kia_one (PySem.W.kitx_exc (ox := o) (od := some od) hcl TC.ga TC.gg TC.exC TC.ca TC.cg TC.ct TC.mo) I.kIn J e (fun z => nomatch z)
    fun tk => ⟨.bl b, H, I.tok tk, rfl, q⟩
end
end U

set_option Elab.async false
set_option linter.all false
set_option maxRecDepth 100000
set_option maxHeartbeats 4000000
namespace U
open PySem PySem.Spec PyProof.Rows L2
open PySem.W (Frag)
section
variable {X : Cx} {pins : List (Addr × Obj)} {σ : L2.St} {H : Hp} {s : Shared}
/-- an error that no one tracked is tracked from now on -/
theorem inv_track {a C d : Addr} {o : Obj} {vs : Array Value} (I : Inv X ((a, o) :: pins) σ H s) (hex : X.ex = []) (out : X.s_0.heap.get? a = none) (h2 : o.cls = .ref C) (h3 : o.dict = some d) (h4 : o.data = .fields vs)
    (np : ∀ p ∈ X.pn ++ pins, p.1 ≠ a) (nc : ∀ x c, X.env.cells.lookup x = some c → c ≠ a) : Inv X pins σ (upd H a (exw a C d)) s := by
  obtain ⟨ha, na, nl, nf, _⟩ := I.pin (a, o) (List.mem_append_right _ List.mem_cons_self)
  have ha : s.heap.get? a = some o := ha
  have na : H a = none := na
  have nl : a ≠ X.env.locals := nl
  have ne : ∀ {b : Addr} {u : Obj}, X.s_0.heap.get? b = some u → b ≠ a := fun {b u} e z => by
    rw [z, out] at e
    cases e
  have mv : ∀ {b : Addr} {u : HO}, H b = some u → upd H a (exw a C d) b = some u := fun {b u} e => by
    rw [upd_ne (ne_of_none e na)]
    exact e
  refine ⟨I.ok, I.os, I.bare, ⟨I.base.keep, I.base.slot, fun b u e n hx => ?_, I.base.there, fun b xs e => mv (I.base.tups b xs e), fun b o u e => mv (I.base.frzs b o u e), fun b ps e => ?_⟩, I.loc, I.cell, ?_, fun x c e => ?_, fun p hp => ?_, fun b u e => ?_, I.len⟩
  · rw [upd_ne (ne e)]
    exact I.base.free b u e n hx
  · obtain ⟨more, z⟩ := I.base.tbls b ps e
    exact ⟨more, mv z⟩
  · rw [upd_ne (Ne.symm nl)]
    exact I.free
  · rw [upd_ne (nc x c e)]
    exact I.freeC x c e
  · obtain ⟨p1, p2, p3⟩ := I.pin p (by
      rcases List.mem_append.mp hp with z | z
      · exact List.mem_append_left _ z
      · exact List.mem_append_right _ (List.mem_cons_of_mem _ z))
    refine ⟨p1, ?_, p3⟩
    rw [upd_ne (np p hp)]
    exact p2
  · by_cases hb : b = a
    · rw [hb, upd_same] at e
      cases e
      rw [hb]
      exact exw_ok ha h2 h3 h4
    · rw [upd_ne hb] at e
      exact (I.hok b u e).stay (fun c v _ q => q) (fun c q => mv q) fun c xs q => mv q
end
/-- the error stays behind the suite -/
def wKeep (K : Frag) (c : Value) (i : Nat) (ts : TS) (D : Ends) : WX := fun cls d σ H =>
  ∃ C dd, cls = .ref C ∧ d = some dd ∧ PySem.W.exmOne K cls c = some true ∧ ∀ a, H a = none → ts { nx := fun σ' H' => D.nx (σ'.set i none) (upd H' a (exw a C dd)), rt := fun _ _ => False, bk := fun _ _ => False, ct := fun _ _ => False } (σ.set i (some (.ref a))) H
section
variable {X : Cx} {x n : Str} {c : Value} {i : Nat} {body suite : List Stmt} {b₀ : Stmt} {np pos pos' : Pos} {tb : WX → TS} {ts : TS}
theorem ps_try_keep (hs : X.stack = X.env :: X.outer) (hf : X.env.frame = some X.env.locals) (hN : X.N.Nodup) (hi : X.N[i]? = some n) (hln : X.env.kindOf n = some .local) (hc : Names X x c) (hex : X.ex = []) (hcells : X.env.cells = [])
    (hb : ∀ (W : WX) (pn : List (Addr × Obj)) (xe : Value → Shared → Prop), Takes (X.tr pn xe) W → PassesOwn (model X.prog X.w) X.A X.env xe → PSs (X.tr pn xe) body (tb W))
    (hsu : ∀ (a : Addr) (oe : Obj) (pn : List (Addr × Obj)), PSs (X.suite a ((a, oe) :: pn)) (b₀ :: suite) ts) :
    PS X (.Try body [.ExceptHandler (some (.Name x np)) (some n) (b₀ :: suite) pos'] [] [] pos) (fun D σ H => tb (wKeep X.K c i ts D) D σ H) := by
  refine ⟨fun pins s σ H D I h => ?_⟩
  have good := I.ok
  have framesAre : X.A.frames = some (X.env :: X.outer) := by
    rw [good.frames, hs]
  have isLoc : Loc X.env.scope n := .inl hln
  refine wpAny_Try_except ?_
  refine wpAny_mono ((hb (wKeep X.K c i ts D) (X.pn ++ pins) (fun e s₁ => wpAny (model X.prog X.w) X.A (noteFrame e X.env) (fun _ s₂ => wpAny (model X.prog X.w) X.A (setFlight e none) (fun _ s₃ =>
    wpAny (model X.prog X.w) X.A (handleBy e X.env [.ExceptHandler (some (.Name x np)) (some n) (b₀ :: suite) pos']) (SP X pins D) X.xe s₃) X.xe s₂) X.xe s₁) (fun u s' air => ?_) PassesOwn.looking).run [] s σ H D (I.toTry _) h) (fun f s1 fin => ?_) (fun e s1 he => he)
  · obtain ⟨a, B, sI, pins', σ', H', cls, dd?, rfl, J0, ground, upTo, sky, na, sameOs, bare, C, dd, rfl, rfl, hit, wish⟩ := air
    have J : Inv X pins σ' H' sI := J0.ofTry good
    have sky1 : Sky B (X.env :: X.outer) a (Zc (.ref C) (some dd)) X.env.locals s'.heap := by
      rw [← hs]
      exact sky
    show wpAny (model X.prog X.w) X.A (noteFrame (.ref a) X.env) _ _ _
    refine Sky.land Zc.steady framesAre hf sky1 fun h3 fl3 up3 => ?_
    have J3 : Inv X pins σ' H' { s' with heap := h3 } := J.landed ground fl3.1 (upTo.trans up3) sameOs bare
    obtain ⟨oe3, vs3, at3, z3, dat3⟩ := fl3.there
    have offFrames : a ∉ frs (X.env :: X.outer) := fun hm => by
      obtain ⟨_, o', e', nofields⟩ := fl3.2.2.1.mem hm
      rw [at3] at e'
      cases e'
      exact nofields _ dat3
    have noA : sI.heap.get? a = none := by
      cases q : sI.heap.get? a with
      | none => rfl
      | some o =>
        have := ground a o q (by rw [hs]; exact offFrames)
        rw [fl3.2.1] at this
        cases this
    have out : X.s_0.heap.get? a = none := by
      cases q : X.s_0.heap.get? a with
      | none => rfl
      | some o =>
        obtain ⟨o', e'⟩ := J.base.there a o q (by rw [hex]; simp)
        rw [noA] at e'
        cases e'
    have nL : a ≠ X.env.locals := fun z => offFrames (List.mem_filterMap.mpr ⟨X.env, List.mem_cons_self, by rw [hf, z]⟩)
    have nF : a ∉ X.fs := fun hm => by
      obtain ⟨e, he, q⟩ := List.mem_filterMap.mp hm
      exact offFrames (List.mem_filterMap.mpr ⟨e, List.mem_cons_of_mem _ he, q⟩)
    have offPins : ∀ p ∈ X.pn ++ pins, p.1 ≠ a := fun p hp z => by
      have := (J.pin p hp).1
      rw [z, noA] at this
      cases this
    have S3 := J3.suite at3 dat3 na nL nF
    refine wpAny_handleBy_cons (codeAny_handlers_test ?_) (by intro q; cases q)
    have typ : PySem.W.Looks (model X.prog X.w) h3 (typeOf (.ref a)) (.ref C) := fun A Q E s k q => wpAny_typeOf_ref (k _ _ at3) (by rw [z3.1]; exact q)
    have meets := PySem.W.exm_one (M := model X.prog X.w) (J3.kIn) typ hit
    have test : ∀ {Q : Value → Shared → Prop} {E : Value → Shared → Prop}, Q c { s' with heap := h3 } → wpAny (model X.prog X.w) (X.A.mark (some (.ref a))) (eval (.Name x np) X.env) Q E { s' with heap := h3 } := fun {Q E} q => by
      obtain ⟨hg, hdbg, hm | ⟨hm, hv, hnn⟩⟩ := hc
      · exact ld_glob (X := X.suite a ((a, oe3) :: (X.pn ++ pins))) S3 hg hm q hdbg
      · exact ld_blt (X := X.suite a ((a, oe3) :: (X.pn ++ pins))) S3 hg hm hv q hnn hdbg
    refine test (meets.here ?_)
    refine codeAny_handlers_suite_as ?_
    refine HandSPX.lands_againZ fl3 fun h4 fl4 up4 => ?_
    have J4 : Inv X pins σ' H' { s' with heap := h4 } := J.landed ground fl4.1 ((upTo.trans up3).trans up4) sameOs bare
    obtain ⟨oe4, vs4, at4, z4, dat4⟩ := fl4.there
    have S4 := J4.suite at4 dat4 na nL nF
    refine store_ok (X := X.suite a ((a, oe4) :: (X.pn ++ pins))) (v := .ref a) S4 hN hi isLoc rfl (fun s5 S5 => ?_) (.inr hln)
    refine wpAny_mono ((hsu a oe4 (X.pn ++ pins)).run [] s5 _ H' _ S5 (wish a na)) (fun f s6 fin => ?_) (fun _ _ z => False.elim z)
    cases f with
    | next =>
      obtain ⟨σ6, H6, S6, q6⟩ := fin
      have pinA := S6.pin (a, oe4) (List.mem_append_left _ List.mem_cons_self)
      have J6 : Inv X ((a, oe4) :: pins) σ6 H6 s6 := (S6.unsuite good).pins_of fun p hp => by
        rcases List.mem_cons.mp hp with z | z
        · rw [z]
          exact pinA
        · exact S6.pin p (List.mem_append_left _ (List.mem_cons_of_mem _ (List.mem_append_right _ z)))
      refine gone_ok J6 hN hi hln fun s7 J7 => ⟨_, _, inv_track J7 hex out z4.1 z4.2 dat4 offPins (fun x c e => ?_), q6⟩
      rw [hcells] at e
      cases e
    | brk =>
      obtain ⟨σ6, H6, S6, q6⟩ := fin
      exact q6.elim
    | cont =>
      obtain ⟨σ6, H6, S6, q6⟩ := fin
      exact q6.elim
    | ret u =>
      obtain ⟨v6, σ6, H6, S6, r6, q6⟩ := fin
      exact q6.elim
  · cases f with
    | next =>
      obtain ⟨σ', H', J', q⟩ := fin
      exact wpAny_execs_nil ⟨σ', H', J'.ofTry good, q⟩
    | brk =>
      obtain ⟨σ', H', J', q⟩ := fin
      exact ⟨σ', H', J'.ofTry good, q⟩
    | cont =>
      obtain ⟨σ', H', J', q⟩ := fin
      exact ⟨σ', H', J'.ofTry good, q⟩
    | ret u =>
      obtain ⟨v, σ', H', J', r, q⟩ := fin
      exact ⟨v, σ', H', J'.ofTry good, r, q⟩
end
end U

set_option Elab.async false
set_option linter.all false
set_option maxRecDepth 100000
set_option maxHeartbeats 4000000
namespace G
open PySem PySem.Spec PyProof.Rows L2 U
open PySem.W (Frag)
section
variable {X : Cx}
/-- a dict beside an empty one -/
theorem op_eq_empty (hu : X.A.units < cLine) : OpR X (compareOp .Eq) (fun x y H Q => ∃ a b ks, x = .ref a ∧ y = .ref b ∧ H a = some (.dK ks) ∧ H b = some (.dK []) ∧ Q (.bl ks.isEmpty) H) := by
  intro pins s σ H x y v u Q I rx ry h
  obtain ⟨a, b, ks, rfl, rfl, ea, eb, q⟩ := h
  obtain rfl : v = Value.ref a := rx
  obtain rfl : u = Value.ref b := ry
  obtain ⟨_, ya, va, ra, da⟩ := (show ObjOk X.prog X.w H s.heap a (.dK ks) from I.hok a _ ea)
  obtain ⟨_, yb, vb, rb, db⟩ := (show ObjOk X.prog X.w H s.heap b (.dK []) from I.hok b _ eb)
  cases rb
  have la := ra.length
  refine PySem.W.keq_eq (knd := mixKind X.prog X.w) (r := true) ya yb da db hu (fun z => ?_) (fin_bl I q ?_)
  · cases va with
    | nil => exact .nil
    | cons _ _ => cases z
  · cases ks with
    | nil =>
      cases va with
      | nil => rfl
      | cons _ _ => cases la
    | cons _ _ =>
      cases va with
      | nil => cases la
      | cons _ _ => rfl
end
/-! ### Ground -/
structure GroundT (K : Frag) (mg : Str → Option Value) (C f : Addr) (fd : FuncData) : Prop where
  makes : Mk K C f
  fn : FunD K "__init__" "Ground.__init__" (defArgs s_Ground_init) (defBody s_Ground_init) (defScope s_Ground_init) [] [] f fd
  g : mg "Ground" = some (.ref C)
  sc : SlX.SCls K C
  labs : ∃ p, SlX.Slot1 K C "own_labs" p 0
  people : ∃ p, SlX.Slot1 K C "own_people" p 1
section
variable {P : Program} {w : World} {K : Frag} {mg : Str → Option Value} {base : Heap} {C f : Addr} {fd : FuncData}
def sp_Ground (K : Frag) (C : Addr) : Sp := fun vs H Q _ => ∃ (x dx : Addr) (pv lv : V), vs = [.ref x, pv, lv] ∧ H x = some (.ins C dx []) ∧ dx ≠ x ∧ ∀ H' : Hp, (∀ b, b ≠ x → b ≠ dx → H' b = H b) → AttrAt K H' (.ref x) "own_people" pv → AttrAt K H' (.ref x) "own_labs" lv → Q .non H'
theorem ok_Ground (T : GroundT K mg C f fd) : FnOk P w K mg base CX0 1 f fd P_Ground_init (sp_Ground K C) := by
  obtain ⟨p0, t0⟩ := T.labs
  obtain ⟨p1, t1⟩ := T.people
  refine T.fn.ok sc_Ground_init (fun vs H Q E h => ?_) (fun cdv A outer s H vs Q E hr h' => ?_)
  · obtain ⟨x, dx, pv, lv, rfl, _⟩ := h
    rfl
  · obtain ⟨x, dx, pv0, lv, rfl, hx, hne, hq⟩ := h'
    refine ⟨_, PSs.nox (pss_cons (SlX.ps_sl (pv 0) (pv 1)) (pss_one (SlX.ps_sl (pv 0) (pv 2)))), ?_⟩
    refine ⟨_, rfl, _, rfl, x, C, dx, p1, [], 1, rfl, .inl ⟨hx, rfl⟩, T.sc, t1, ?_⟩
    refine ⟨_, rfl, _, rfl, x, C, dx, p0, _, 0, rfl, SlX.slH_slt hne, T.sc, t0, ?_⟩
    rw [SlX.slH_twice hne]
    have st : SlX.Slt (SlX.slH H x C dx (SlX.putS 0 lv (SlX.putS 1 pv0 []))) x C dx (SlX.putS 0 lv (SlX.putS 1 pv0 [])) := SlX.slH_slt hne
    refine hq _ (fun b h1 h2 => SlX.slH_ne h1 h2) (.inr ⟨x, C, dx, p1, _, 1, rfl, st, T.sc, t1, ?_⟩) (.inr ⟨x, C, dx, p0, _, 0, rfl, st, T.sc, t0, SlX.putS_get _ _ _⟩)
    exact (SlX.putS_ne (by decide)).mpr (SlX.putS_get _ _ _)
end
end G

set_option Elab.async false
set_option linter.all false
set_option maxRecDepth 100000
set_option maxHeartbeats 4000000
namespace G
open PySem PySem.Spec PyProof.Rows L2 U
open PySem.W (Frag)
/-! ### read_text -/
structure Parts where
  people : People
  labs : Labs
  rows : Rows
  facts : List PyData
def Parts.d (p : Parts) : PyData := .tuple [dictD ratesD p.people, dictD tabsD p.labs, dictD Row.d p.rows, .tuple p.facts]
def readText (t : Str) : Sum Nat Parts :=
  if (readPeople (linesOf t)).1.isEmpty = true then .inl 1 else
  if (readLabs ((linesOf t).drop (readPeople (linesOf t)).2)).1.isEmpty = true then .inl ((readPeople (linesOf t)).2 + (readLabs ((linesOf t).drop (readPeople (linesOf t)).2)).2 + 1) else
  let ps := (readPeople (linesOf t)).1
  let bs := (readLabs ((linesOf t).drop (readPeople (linesOf t)).2)).1
  let a1 := (readPeople (linesOf t)).2 + (readLabs ((linesOf t).drop (readPeople (linesOf t)).2)).2
  let a2 := a1 + (readResults ps bs ((linesOf t).drop a1)).2
  let a3 := a2 + (readFacts ps bs ((linesOf t).drop a2)).2
  if a3 < (linesOf t).length then .inl (a3 + 1) else .inr ⟨ps, bs, (readResults ps bs ((linesOf t).drop a1)).1, (readFacts ps bs ((linesOf t).drop a2)).1⟩
structure TextOk (t : Str) : Prop where
  fits : t.length + 2 ≤ sizeLine
  lines : LinesOk (linesOf t)
theorem LinesOk.drop {ls : List Str} (h : LinesOk ls) (n : Nat) : LinesOk (ls.drop n) := ⟨by rw [List.length_drop]; have := h.few; omega, fun l hl => h.short l (List.mem_of_mem_drop hl)⟩
theorem readK_all {α : Type} {kw : Str} {most : Nat} {f : List Str → Option α} {C : α → Prop} (hf : ∀ ws t, f ws = some t → C t) : ∀ (ls : List Str) (found : List (Str × α)), (∀ x ∈ found, C x.2) → ∀ x ∈ (readK kw most f found ls).1, C x.2
  | [], found, h => h
  | l :: ls, found, h => by
    cases hn : nextK kw most f found l with
    | none =>
      rw [readK_stop hn]
      exact h
    | some x =>
      rw [readK_go hn]
      refine readK_all hf ls (found ++ [x]) fun y hy => ?_
      rcases List.mem_append.mp hy with hy | hy
      · exact h y hy
      · rw [List.mem_singleton.mp hy]
        unfold nextK at hn
        split at hn
        · rename_i t n ht h1
          obtain ⟨h2, _⟩ := toldK_some ht
          by_cases hin : n ∈ found.map (·.1)
          · rw [if_pos hin] at hn
            cases hn
          · rw [if_neg hin] at hn
            cases hn
            exact hf _ _ h2
        · cases hn
theorem labIn_ok {ws : List Str} {ts : List Tab} (h : labIn ws = some ts) : ts.length ≤ 4 ∧ ∀ t ∈ ts, t.ok = true := by
  unfold labIn at h
  split at h
  · rename_i w0 n r
    by_cases hn : isName n = true
    · rw [if_pos hn] at h
      unfold tabsIn at h
      by_cases h5 : (r.map integerIn).length % 5 = 0
      · rw [if_pos h5] at h
        by_cases hc : 1 ≤ (r.map integerIn).length / 5 ∧ (r.map integerIn).length / 5 ≤ 4 ∧ (chunks (r.map integerIn)).all isTable = true
        · rw [if_pos hc] at h
          have h := Option.some.inj h
          obtain ⟨_, t2, t3⟩ := tabs_d hc.2.2
          rw [← h]
          refine ⟨?_, t3⟩
          rw [t2]
          unfold chunks
          rw [List.length_map, List.length_range]
          exact hc.2.1
        · rw [if_neg hc] at h
          cases h
      · rw [if_neg h5] at h
        cases h
    · rw [if_neg hn] at h
      cases h
  · cases h
theorem readLabs_ok (ls : List Str) : LabsOk (readLabs ls).1 := readK_all (kw := "lab") (most := 6) (f := labIn) (C := fun (ts : List Tab) => ts.length ≤ 4 ∧ ∀ t ∈ ts, t.ok = true) (fun ws t h => labIn_ok h) ls [] (fun x h => by cases h)
def ErrTo (H : Hp) (C : Addr) (v : V) (E : XK) : Prop := ∀ H1 d, Same H H1 → H1 d = none → E (.ref C) (some d) (upd H1 d (xdV v))
def outText (H : Hp) (CB : Addr) (d : PyData) (Q : VK) (E : XK) : Prop := match d with
  | .str t => TextOk t ∧ (match readText t with
    | .inl n => ErrTo H CB (.int n) E
    | .inr p => Ret H p.d Q)
  | _ => ErrTo H CB (.int 0) E
theorem not_str {H : Hp} {CB : Addr} {d : PyData} {Q : VK} {E : XK} (h : outText H CB d Q E) (hn : ∀ t, d ≠ .str t) : ErrTo H CB (.int 0) E := by
  cases d with
  | str t => exact absurd rfl (hn t)
  | none => exact h
  | bool _ => exact h
  | int _ => exact h
  | list _ => exact h
  | tuple _ => exact h
  | dict _ => exact h
theorem dict_k {α : Type} {dA : α → PyData} {F : Addr → Prop} {H : Hp} {v : V} {xs : List (Str × α)} (h : Dq F H v (dictD dA xs)) : ∃ a kvs, v = .ref a ∧ H a = some (.dK kvs) ∧ kvs.isEmpty = xs.isEmpty := by
  obtain ⟨a, kvs, rfl, _, e, k, _⟩ := dk_inv h
  refine ⟨a, kvs, rfl, e, ?_⟩
  have l := congrArg List.length k
  rw [List.length_map, List.length_map, List.length_map] at l
  cases kvs with
  | nil =>
    cases xs with
    | nil => rfl
    | cons _ _ => cases l
  | cons _ _ =>
    cases xs with
    | nil => cases l
    | cons _ _ => rfl
structure HasX (P : Program) (w : World) (K : Frag) (mg : Str → Option Value) (base : Heap) (k : Nat) (x : Str) (ps : List Str) (sp : Sp) : Prop where
  fn : ∃ fd : FuncData, FnOk P w K mg base (L2.CX P w) k (He.ga K x) fd ps sp ∧ PySem.W.keepIn K (.ref (He.ga K x)) = true ∧ Binds K fd ps []
  g : mg x = some (.ref (He.ga K x))
section
variable {P : Program} {w : World} {K : Frag} {mg : Str → Option Value} {base : Heap} {CB D fI CG fG : Addr} {fdG : FuncData}
theorem add_nat {i j a b : Nat} {σ : L2.St} {H : Hp} {Q : VK} (hi : σ[i]? = some (some (.int (a : Int)))) (hj : σ[j]? = some (some (.int (b : Int)))) (h : Q (.int ((a + b : Nat) : Int)) H) : tAdd (tVar i) (tVar j) σ H Q := by
  refine ⟨_, hi, _, hj, _, _, rfl, rfl, ?_⟩
  rw [Int.natCast_add] at h
  exact h
theorem add_at {a b : Nat} {x0 x1 x2 x4 : Option V} {xs : List (Option V)} {H : Hp} {D : Ends} (h : D.nx (x0 :: x1 :: x2 :: some (.int ((a + b : Nat) : Int)) :: x4 :: some (.int (b : Int)) :: xs) H) : tAsg (tAdd (tVar 3) (tVar 5)) (gName 3) D (x0 :: x1 :: x2 :: some (.int (a : Int)) :: x4 :: some (.int (b : Int)) :: xs) H := add_nat rfl rfl h
def sp_read_text (CB : Addr) : Sp := fun vs H Q E => ∃ (F : Addr → Prop) (v : V) (d : PyData), vs = [v] ∧ Dq F H v d ∧ outText H CB d Q E
theorem has_read_text (F : Fn K mg "read_text" s_read_text) (T : InitTxt P K D fI) (TC : ErrC K D fI CB) (mB : mg "BadChart" = some (.ref CB)) (TG : GroundT K mg CG fG fdG) (hP : Has P w K mg base 3 "read_people" P_read_people [] (sp_read_people K)) (hL : Has P w K mg base 3 "read_labs" P_read_labs [] (sp_read_labs K))
    (hR : Has P w K mg base 5 "read_results" P_read_results [] (sp_read_results K)) (hF : Has P w K mg base 6 "read_facts" P_read_facts [] (sp_read_facts K)) (gI : mg "isinstance" = none) (gS : mg "str" = none) (gL : mg "len" = none) (gT : mg "tuple" = none) (cF : CS mg "FEED" sFeed) : HasX P w K mg base 7 "read_text" P_read_text (sp_read_text CB) := by
  obtain ⟨⟨fd, F⟩, g⟩ := F
  refine ⟨⟨fd, ?_, F.kp, F.bindsN fun _ _ _ _ _ _ us hl => match us, hl with | [_], _ => rfl⟩, g⟩
  refine F.ok sc_read_text (fun vs H Q E h => ?_) (fun cdv A outer s H vs Q E hr h' => ?_)
  · obtain ⟨F, v, d, rfl, _⟩ := h
    rfl
  · obtain ⟨F, v, d, rfl, hd, hq⟩ := h'
    have tk : Takes (cxOf (L2.CX P w) P w K mg base N_read_text "read_text" (defScope s_read_text) (He.ga K "read_text") cdv A outer s H E) (fun cls d _ H => E cls d H) := takes_of rfl rfl rfl rfl
    refine ⟨_, pss_cons (ps_if (pt_not (pt_val (pe_callB call_isiD (by rfl) gI (by decide +kernel) (pa_cons (pv 0) (pa_cons (pe_bltn (by rfl) gS (v := .ty "str") (u := .type "str") (by decide +kernel) rfl) pa_nil))))) (pss_one (ps_raiseErr rfl tk T TC hr mB pe_int)) pss_nil)
      (pss_cons (ps_set (i := 1) sc_read_text.nd rfl (Or.inl rfl) (pe_split (pv 0) (pe_cs cF)))
      (pss_cons (ps_asg (pe_has (hP.mono (by omega)) hr (pa_cons (pv 1) pa_nil)) (pg_tup rfl (pgs_cons (pg_name (i := 2) sc_read_text.nd rfl (Or.inl rfl)) (pgs_cons (pg_name (i := 3) sc_read_text.nd rfl (Or.inl rfl)) pgs_nil))))
      (pss_cons (ps_if (pt_cmpR (op_eq_empty (by have := hu_of hr; exact Nat.lt_of_succ_lt this)) (pv 2) pe_dnewK (nomark _)) (pss_one (ps_raiseErr rfl tk T TC hr mB pe_int)) pss_nil)
      (pss_cons (ps_asg (pe_has (hL.mono (by omega)) hr (pa_cons (pe_slice sl_list (pv 1) (po_some (pv 3)) po_none) pa_nil)) (pg_tup rfl (pgs_cons (pg_name (i := 4) sc_read_text.nd rfl (Or.inl rfl)) (pgs_cons (pg_name (i := 5) sc_read_text.nd rfl (Or.inl rfl)) pgs_nil))))
      (pss_cons (ps_set (i := 3) sc_read_text.nd rfl (Or.inl rfl) (pe_add (pv 3) (pv 5)))
      (pss_cons (ps_if (pt_cmpR (op_eq_empty (by have := hu_of hr; exact Nat.lt_of_succ_lt this)) (pv 4) pe_dnewK (nomark _)) (pss_one (ps_raiseErr rfl tk T TC hr mB (pe_add (pv 3) pe_int))) pss_nil)
      (pss_cons (ps_asg (pe_has (hR.mono (by omega)) hr (pa_cons (pv 2) (pa_cons (pv 4) (pa_cons (pe_slice sl_list (pv 1) (po_some (pv 3)) po_none) pa_nil)))) (pg_tup rfl (pgs_cons (pg_name (i := 6) sc_read_text.nd rfl (Or.inl rfl)) (pgs_cons (pg_name (i := 5) sc_read_text.nd rfl (Or.inl rfl)) pgs_nil))))
      (pss_cons (ps_set (i := 3) sc_read_text.nd rfl (Or.inl rfl) (pe_add (pv 3) (pv 5)))
      (pss_cons (ps_asg (pe_has hF hr (pa_cons (pe_make TG.makes ((ok_Ground TG).mono (show 1 ≤ 5 by omega)) hr (by rfl) TG.g (TG.fn.bindsN fun _ _ _ _ _ _ us hl => match us, hl with | [_, _, _], _ => rfl) .nil pass0 (pa_cons (pv 2) (pa_cons (pv 4) pa_nil))) (pa_cons (pe_slice sl_list (pv 1) (po_some (pv 3)) po_none) pa_nil))) (pg_tup rfl (pgs_cons (pg_name (i := 7) sc_read_text.nd rfl (Or.inl rfl)) (pgs_cons (pg_name (i := 5) sc_read_text.nd rfl (Or.inl rfl)) pgs_nil))))
      (pss_cons (ps_set (i := 3) sc_read_text.nd rfl (Or.inl rfl) (pe_add (pv 3) (pv 5)))
      (pss_cons (ps_if (pt_cmpR op_lt (pv 3) (pe_callB call_len_seq (by rfl) gL PySem.boot_len (pa_cons (pv 1) pa_nil)) (nomark _)) (pss_one (ps_raiseErr rfl tk T TC hr mB (pe_add (pv 3) pe_int))) pss_nil)
      (pss_one (ps_ret (pe_tup (pa_cons (pv 2) (pa_cons (pv 4) (pa_cons (pv 6) (pa_cons (pe_tupleOf (by rfl) gT (pv 7)) pa_nil)))))))))))))))))), ?_⟩
    obtain ⟨b, hb, hn, hy⟩ := kit_str d
    refine ⟨_, rfl, F, v, d, "str", b, rfl, hd, hb, b, rfl, ?_⟩
    cases b with
    | false =>
      refine iteT ?_
      have hE := not_str hq fun t z => by
        subst z
        have := hn rfl [t]
        unfold isWordD at this
        simp at this
      exact fun dd ndd => hE H dd (Same.refl H) ndd
    | true =>
    refine iteF ?_
    obtain ⟨t, rfl⟩ := hy rfl
    cases hd
    obtain ⟨ok, hq⟩ := hq
    unfold readText at hq
    refine ⟨_, rfl, ⟨_, rfl⟩, t, sFeed, rfl, rfl, (by decide +kernel), ok.fits, fun p np => ?_⟩
    have s1 : Same H (upd H p (.lst ((linesOf t).map V.str))) := same_new np
    have el : (upd H p (.lst ((linesOf t).map V.str))) p = some (.lst ((linesOf t).map V.str)) := upd_same
    have lok := ok.lines
    refine ⟨_, rfl, p, linesOf t, rfl, SqL.of el, lok, fun v1 H2 s2 d2 => ?_⟩
    have nw1 : ∀ b, upd H p (.lst ((Txt.split t sFeed).map V.str)) b = none → H b = none := fun b f => none_of_same (same_new np) f
    have el2 := s2 _ _ el
    have sA : Same H H2 := fun b o z => s2 _ _ (s1 _ _ z)
    generalize hls : linesOf t = ls at *
    clear hls
    generalize hpp : readPeople ls = pp at *
    cases d2 with
    | @tup a1 xs _ f1 e1 al1 =>
    cases al1 with
    | @cons vp _ _ _ dp al1 =>
    cases al1 with
    | @cons vn _ _ _ dn al1 =>
    cases al1
    cases dn
    refine ⟨a1, _, rfl, SqT.of e1, rfl, _, _, rfl, _, _, rfl, rfl, ?_⟩
    obtain ⟨ap, kp, rfl, ep, lp⟩ := dict_k dp
    refine ⟨_, rfl, fun q1 nq1 => ?_⟩
    have t1 : Same H2 (upd H2 q1 (.dK [])) := same_new nq1
    refine ⟨ap, q1, kp, rfl, rfl, t1 _ _ ep, upd_same, _, rfl, ?_⟩
    rw [lp]
    cases he : pp.1.isEmpty with
    | true =>
      refine iteT ?_
      rw [he, if_pos rfl] at hq
      exact fun dd ndd => hq _ dd (fun b o z => t1 _ _ (sA _ _ z)) ndd
    | false =>
    refine iteF ?_
    rw [he, if_neg (by decide)] at hq
    have sB : Same H (upd H2 q1 (.dK [])) := fun b o z => t1 _ _ (sA _ _ z)
    have el3 := t1 _ _ el2
    have dp3 := dp.same t1
    generalize hH3 : upd H2 q1 (.dK []) = H3 at *
    refine ⟨_, rfl, _, rfl, _, rfl, p, _, rfl, SqL.of el3, fun q2 nq2 => ?_⟩
    have ec : cutV (ls.map V.str) (some (pp.2 : Int)) none = (ls.drop pp.2).map V.str := by
      rw [cut_from, List.map_drop]
    rw [ec]
    have t2 : Same H3 (upd H3 q2 (.lst ((ls.drop pp.2).map V.str))) := same_new nq2
    refine ⟨q2, _, rfl, SqL.of upd_same, lok.drop _, fun v2 H4 s4 d4 => ?_⟩
    generalize hbb : readLabs (ls.drop pp.2) = bb at *
    have bok : LabsOk bb.1 := by
      rw [← hbb]
      exact readLabs_ok _
    cases d4 with
    | @tup a2 xs2 _ f2 e2 al2 =>
    cases al2 with
    | @cons vb _ _ _ db al2 =>
    cases al2 with
    | @cons vn2 _ _ _ dn2 al2 =>
    cases al2
    cases dn2
    have t3 : Same H3 H4 := fun b o z => s4 _ _ (t2 _ _ z)
    refine ⟨a2, _, rfl, SqT.of e2, rfl, _, _, rfl, _, _, rfl, rfl, ?_⟩
    refine add_at (a := pp.2) (b := bb.2) ?_
    generalize ha1 : pp.2 + bb.2 = n1 at *
    obtain ⟨ab, kb, rfl, eb, lb⟩ := dict_k db
    refine ⟨_, rfl, fun q3 nq3 => ?_⟩
    have t4 : Same H4 (upd H4 q3 (.dK [])) := same_new nq3
    refine ⟨ab, q3, kb, rfl, rfl, t4 _ _ eb, upd_same, _, rfl, ?_⟩
    rw [lb]
    have sC : Same H (upd H4 q3 (.dK [])) := fun b o z => t4 _ _ (t3 _ _ (sB _ _ z))
    cases he2 : bb.1.isEmpty with
    | true =>
      refine iteT ?_
      rw [he2, if_pos rfl] at hq
      exact ⟨_, rfl, _, _, rfl, rfl, fun dd ndd => hq _ dd sC ndd⟩
    | false =>
    refine iteF ?_
    rw [he2, if_neg (by decide)] at hq
    have el5 := t4 _ _ (t3 _ _ el3)
    have dp5 := (dp3.same t3).same t4
    have db5 := db.same t4
    generalize hH5 : upd H4 q3 (.dK []) = H5 at *
    refine ⟨_, rfl, _, rfl, _, rfl, _, rfl, _, rfl, p, _, rfl, SqL.of el5, fun q4 nq4 => ?_⟩
    have ec1 : cutV (ls.map V.str) (some (n1 : Int)) none = (ls.drop n1).map V.str := by
      rw [cut_from, List.map_drop]
    rw [ec1]
    have t5 : Same H5 (upd H5 q4 (.lst ((ls.drop n1).map V.str))) := same_new nq4
    refine ⟨_, _, _, _, q4, pp.1, bb.1, ls.drop n1, rfl, dp5.same t5, db5.same t5, bok, SqL.of upd_same, lok.drop _, fun v3 H6 s6 d6 => ?_⟩
    generalize hrr : readResults pp.1 bb.1 (ls.drop n1) = rr at *
    cases d6 with
    | @tup a3 xs3 _ f3 e3 al3 =>
    cases al3 with
    | @cons vr _ _ _ dr al3 =>
    cases al3 with
    | @cons vn3 _ _ _ dn3 al3 =>
    cases al3
    cases dn3
    have t6 : Same H5 H6 := fun b o z => s6 _ _ (t5 _ _ z)
    have sD : Same H H6 := fun b o z => t6 _ _ (sC _ _ z)
    refine ⟨a3, _, rfl, SqT.of e3, rfl, _, _, rfl, _, _, rfl, rfl, ?_⟩
    refine add_at (a := n1) (b := rr.2) ?_
    generalize ha2 : n1 + rr.2 = n2 at *
    refine ⟨_, rfl, _, rfl, fun xg dg nxg ndg neg => ?_⟩
    have gS : Same H6 (upd (upd H6 dg (.own xg)) xg (.ins CG dg [])) := fun b o z => by
      rw [upd_ne (ne_of_none z nxg), upd_ne (ne_of_none z ndg)]
      exact z
    refine ⟨xg, dg, _, _, rfl, upd_same, neg, fun H7 off7 atP atL => ⟨rfl, ?_⟩⟩
    have t7 : Same H6 H7 := fun b o z => by
      rw [off7 b (ne_of_none z nxg) (ne_of_none z ndg)]
      exact gS b o z
    have el7 := t7 _ _ (t6 _ _ el5)
    have dp7 := (dp5.same t6).same t7
    have db7 := (db5.same t6).same t7
    have dr7 := dr.same t7
    have sE : Same H H7 := fun b o z => t7 _ _ (sD _ _ z)
    refine ⟨_, rfl, _, rfl, _, rfl, p, _, rfl, SqL.of el7, fun q5 nq5 => ?_⟩
    have ec2 : cutV (ls.map V.str) (some (n2 : Int)) none = (ls.drop n2).map V.str := by
      rw [cut_from, List.map_drop]
    rw [ec2]
    have t8 : Same H7 (upd H7 q5 (.lst ((ls.drop n2).map V.str))) := same_new nq5
    refine ⟨_, _, _, _, _, q5, pp.1, bb.1, ls.drop n2, rfl, atL.same t8, db7.same t8, atP.same t8, dp7.same t8, SqL.of upd_same, lok.drop _, fun v4 H8 s8 d8 => ?_⟩
    generalize hff : readFacts pp.1 bb.1 (ls.drop n2) = ff at *
    cases d8 with
    | @tup a4 xs4 _ f4 e4 al4 =>
    cases al4 with
    | @cons vf _ _ _ df al4 =>
    cases al4 with
    | @cons vn4 _ _ _ dn4 al4 =>
    cases al4
    cases dn4
    have t9 : Same H7 H8 := fun b o z => s8 _ _ (t8 _ _ z)
    have sF : Same H H8 := fun b o z => t9 _ _ (sE _ _ z)
    refine ⟨a4, _, rfl, SqT.of e4, rfl, _, _, rfl, _, _, rfl, rfl, ?_⟩
    refine add_at (a := n2) (b := ff.2) ?_
    generalize ha3 : n2 + ff.2 = n3 at *
    have el8 := t9 _ _ el7
    refine ⟨_, rfl, _, rfl, p, _, rfl, .inl (SqL.of el8), _, _, rfl, rfl, _, rfl, ?_⟩
    rw [List.length_map]
    have hq' : (match (if n3 < ls.length then Sum.inl (n3 + 1) else Sum.inr ⟨pp.1, bb.1, rr.1, ff.1⟩ : Sum Nat Parts) with
        | .inl n => ErrTo H CB (.int n) E
        | .inr p => Ret H p.d Q) := by
      subst ha3
      subst hff
      subst ha2
      subst hrr
      subst ha1
      exact hq
    refine dec_if (fun c => ?_) (fun c => ?_)
    · rw [if_pos (by omega)] at hq'
      exact ⟨_, rfl, _, _, rfl, rfl, fun dd ndd => hq' _ dd sF ndd⟩
    · rw [if_neg (by omega)] at hq'
      cases df with
      | @lst af ys _ ff' ef alf =>
      refine ⟨_, rfl, _, rfl, _, rfl, ⟨_, rfl, .inl ⟨af, ys, rfl, SqL.of ef, fun q6 nq6 => ?_⟩⟩⟩
      have u1 := same_new (o := .tup ys) nq6
      refine ⟨Nat.le_trans (by show 4 ≤ 1000; omega) sizeLine_ge, fun q7 nq7 => ?_⟩
      have u2 := same_new (o := .tup [.ref ap, .ref ab, vr, .ref q6]) nq7
      have uu : Same H8 (upd (upd H8 q6 (.tup ys)) q7 (.tup [.ref ap, .ref ab, vr, .ref q6])) := fun b o z => u2 _ _ (u1 _ _ z)
      have new : ∀ {b : Addr}, H5 b = none → H b = none := fun z => none_of_same sC z
      refine hq' _ _ (fun b o z => uu _ _ (sF _ _ z)) (.tup (none_of_same sF (none_of_same u1 nq7)) upd_same (.cons ?_ (.cons ?_ (.cons ?_ (.cons ?_ .nil)))))
      · exact (dp7.same fun b o z => uu _ _ (t9 _ _ z)).move (fun b f => nw1 b f) fun b o _ z => z
      · exact (db7.same fun b o z => uu _ _ (t9 _ _ z)).move (fun b f => none_of_same sB (none_of_same t2 f)) fun b o _ z => z
      · exact (dr7.same fun b o z => uu _ _ (t9 _ _ z)).move (fun b f => new (none_of_same t5 f)) fun b o _ z => z
      · exact .tup (none_of_same sF nq6) (u2 _ _ upd_same) (alf.move (fun b f => none_of_same sE (none_of_same t8 f)) fun b o _ z => uu _ _ z)
end
end G

set_option Elab.async false
set_option linter.all false
set_option maxRecDepth 100000
set_option maxHeartbeats 4000000
namespace U
open PySem PySem.Spec PyProof.Rows L2
open PySem.W (Frag)
/-- a field as one of several targets -/
def gFld (K : Frag) (ta : TE) (f : Str) : TG := fun v σ H Q => ta σ H fun x H1 => ∃ a C dx fs, x = .ref a ∧ H1 a = some (.ins C dx fs) ∧ Cls K C ∧ NoAttr K C f ∧ fs.length < 1000 ∧ Q σ (upd H1 a (.ins C dx (putF f v fs)))
theorem pg_fld {X : Cx} {o : Expr} {f : Str} {pos : Pos} {ta : TE} (ha : PE X o ta) : PG X (.Attribute o f pos) (gFld X.K ta f) := by
  refine ⟨fun pins s σ H v u Q I r h => ?_⟩
  refine PySem.W.kas_attr (thn (ha.run pins s σ H _ I h) fun ov s2 ⟨x, H2, I2, rx, a, C, dx, fs, ex, ea, c, n, l, q2⟩ => ?_)
  subst ex
  obtain rfl : ov = Value.ref a := rx
  exact setattr_ok I2 ea c n l r fun s3 I3 => ⟨σ, _, I3, q2⟩
end U
namespace G
open PySem PySem.Spec PyProof.Rows L2 U
open PySem.W (Frag)
/-! ### Chart.__init__ -/
theorem put_ne {f g : Str} {v x : V} {r : List (Str × V)} (h : ¬ g = f) : putF f v ((g, x) :: r) = (g, x) :: putF f v r := if_neg h
theorem put_nil {f : Str} {v : V} : putF f v [] = [(f, v)] := rfl
theorem four_put (u1 u2 u3 u4 : V) : putF ("own_facts" : Str) u4 (putF ("own_rows" : Str) u3 (putF ("own_labs" : Str) u2 (putF ("own_people" : Str) u1 []))) = [(("own_people" : Str), u1), (("own_labs" : Str), u2), (("own_rows" : Str), u3), (("own_facts" : Str), u4)] := by
  repeat first | rw [put_nil] | rw [put_ne (by decide +kernel)]
structure ChartT (K : Frag) (mg : Str → Option Value) (C f : Addr) (fd : FuncData) : Prop where
  makes : Mk K C f
  fn : FunD K "__init__" "Chart.__init__" (defArgs s_Chart_init) (defBody s_Chart_init) (defScope s_Chart_init) [] [] f fd
  g : mg "Chart" = some (.ref C)
  cls : Cls K C
  n1 : NoAttr K C "own_people"
  n2 : NoAttr K C "own_labs"
  n3 : NoAttr K C "own_rows"
  n4 : NoAttr K C "own_facts"
def ChartIs (C : Addr) (H : Hp) (v : V) (p : Parts) : Prop := ∃ (a dx : Addr) (v1 v2 v3 v4 : V), v = .ref a ∧ H a = some (.ins C dx [("own_people", v1), ("own_labs", v2), ("own_rows", v3), ("own_facts", v4)]) ∧
  Da H v1 (dictD ratesD p.people) ∧ Da H v2 (dictD tabsD p.labs) ∧ Da H v3 (dictD Row.d p.rows) ∧ Da H v4 (.tuple p.facts)
theorem ChartIs.same {C : Addr} {H H' : Hp} {v : V} {p : Parts} (h : ChartIs C H v p) (s : Same H H') : ChartIs C H' v p := by
  obtain ⟨a, dx, v1, v2, v3, v4, e, ha, d1, d2, d3, d4⟩ := h
  exact ⟨a, dx, v1, v2, v3, v4, e, s _ _ ha, d1.same s, d2.same s, d3.same s, d4.same s⟩
theorem ErrTo.up {H H' : Hp} {C : Addr} {v : V} {E : XK} (h : ErrTo H C v E) (s : Same H H') : ErrTo H' C v E := fun H1 d s1 nd => h H1 d (fun b o z => s1 _ _ (s _ _ z)) nd
section
variable {P : Program} {w : World} {K : Frag} {mg : Str → Option Value} {base : Heap} {CB C f : Addr} {fd : FuncData}
theorem pe_hasX {X : Cx} {k : Nat} {x : Str} {ps : List Str} {sp : Sp} {E : XK} {p pos : Pos} {e : Expr} {es : List Expr} {t : TA} (h : HasX X.prog X.w X.K X.mg X.base k x ps sp) (hr : Room k X.A) (hx : Passes (L2.CX X.prog X.w) X E) (ha : PA X (e :: es) t) (hg : Gl X x := by rfl)
    (hdb : (x == ("__debug__" : Str)) = false := by decide) (he : starEach (e :: es) X.env = (false, eval e X.env) :: starEach es X.env := by rfl) (hpl : (backTo pos (starEach es X.env)).any (·.1) = false := by rfl) : PE X (.Call (.Name x p) (e :: es) [] pos) (tCall sp [] E t) := by
  obtain ⟨fd, h1, h2, h4⟩ := h.fn
  exact pe_call h1 hr hg h.g h2 h4 .nil hx ha hdb he hpl
def outChart (H : Hp) (CB : Addr) (d : PyData) (Q : Parts → Prop) (E : XK) : Prop := match d with
  | .str t => TextOk t ∧ (match readText t with
    | .inl n => ErrTo H CB (.int n) E
    | .inr p => Q p)
  | _ => ErrTo H CB (.int 0) E
theorem out_to {H : Hp} {CB : Addr} {d : PyData} {Q' : Parts → Prop} {Q : VK} {E : XK} (h : outChart H CB d Q' E) (k : ∀ p, Q' p → Ret H p.d Q) : outText H CB d Q E := by
  cases d with
  | str t =>
    obtain ⟨h1, h2⟩ := h
    refine ⟨h1, ?_⟩
    cases r : readText t with
    | inl n =>
      rw [r] at h2
      exact h2
    | inr p =>
      rw [r] at h2
      exact k p h2
  | none => exact h
  | bool _ => exact h
  | int _ => exact h
  | list _ => exact h
  | tuple _ => exact h
  | dict _ => exact h
def sp_Chart_init (C CB : Addr) : Sp := fun vs H Q E => ∃ (F : Addr → Prop) (x dx : Addr) (v : V) (d : PyData), vs = [.ref x, v] ∧ H x = some (.ins C dx []) ∧ Dq F H v d ∧ outChart H CB d (fun p => ∀ H', SameB x H H' → ChartIs C H' (.ref x) p → Q .non H') E
theorem ok_Chart_init (T : ChartT K mg C f fd) (hT : HasX P w K mg base 7 "read_text" P_read_text (sp_read_text CB)) : FnOk P w K mg base (L2.CX P w) 8 f fd P_Chart_init (sp_Chart_init C CB) := by
  refine T.fn.ok sc_Chart_init (fun vs H Q E h => ?_) (fun cdv A outer s H vs Q E hr h' => ?_)
  · obtain ⟨F, x, dx, v, d, rfl, _⟩ := h
    rfl
  · obtain ⟨F, x, dx, v, d, rfl, hx, hd, hq⟩ := h'
    have tk : Takes (cxOf (L2.CX P w) P w K mg base N_Chart_init "Chart.__init__" (defScope s_Chart_init) f cdv A outer s H E) (fun cls d _ H => E cls d H) := takes_of rfl rfl rfl rfl
    refine ⟨_, pss_one (ps_asg (pe_hasX (E := E) hT hr (passes_call tk fun _ _ _ _ h => h) (pa_cons (pv 1) pa_nil)) (pg_tup rfl (pgs_cons (pg_fld (pv 0)) (pgs_cons (pg_fld (pv 0)) (pgs_cons (pg_fld (pv 0)) (pgs_cons (pg_fld (pv 0)) pgs_nil)))))), ?_⟩
    refine ⟨_, rfl, F, v, d, rfl, hd, out_to hq fun p hp => ?_⟩
    intro v1 H1 s1 dq
    cases dq with
    | @tup a xs _ fa ea al =>
    cases al with
    | @cons u1 _ _ _ d1 al =>
    cases al with
    | @cons u2 _ _ _ d2 al =>
    cases al with
    | @cons u3 _ _ _ d3 al =>
    cases al with
    | @cons u4 _ _ _ d4 al =>
    cases al
    have hx1 := s1 _ _ hx
    refine ⟨a, _, rfl, SqT.of ea, rfl, ?_⟩
    refine ⟨_, _, rfl, ⟨_, rfl, x, C, dx, _, rfl, hx1, T.cls, T.n1, (by show 0 < 1000; omega), ?_⟩⟩
    refine ⟨_, _, rfl, ⟨_, rfl, x, C, dx, _, rfl, upd_same, T.cls, T.n2, (by show 1 < 1000; omega), ?_⟩⟩
    refine ⟨_, _, rfl, ⟨_, rfl, x, C, dx, _, rfl, upd_same, T.cls, T.n3, (by show 2 < 1000; omega), ?_⟩⟩
    refine ⟨_, _, rfl, ⟨_, rfl, x, C, dx, _, rfl, upd_same, T.cls, T.n4, (by show 3 < 1000; omega), ?_⟩⟩
    refine ⟨rfl, ?_⟩
    have up : ∀ (o1 o2 o3 o4 : HO), SameB x H1 (upd (upd (upd (upd H1 x o1) x o2) x o3) x o4) := fun o1 o2 o3 o4 b o hb z => by
      rw [upd_ne hb, upd_ne hb, upd_ne hb, upd_ne hb]
      exact z
    have ne : ∀ {b : Addr}, H b = none → b ≠ x := fun f z => by
      rw [z, hx] at f
      cases f
    refine hp _ (fun b o hb z => up _ _ _ _ b o hb (s1 b o z)) ⟨x, dx, u1, u2, u3, u4, rfl, ?_, d1.move (fun _ _ => True.intro) fun b o f z => up _ _ _ _ b o (ne f) z, d2.move (fun _ _ => True.intro) fun b o f z => up _ _ _ _ b o (ne f) z, d3.move (fun _ _ => True.intro) fun b o f z => up _ _ _ _ b o (ne f) z, d4.move (fun _ _ => True.intro) fun b o f z => up _ _ _ _ b o (ne f) z⟩
    rw [upd_same, four_put]
end
end G

set_option Elab.async false
set_option linter.all false
set_option maxRecDepth 100000
set_option maxHeartbeats 4000000
namespace U
open PySem PySem.Spec PyProof.Rows L2
open PySem.W (Frag)
/-- what one turn over the items of a dict at d may use: the tuples of H stand, the dict is locked -/
structure Lkd (H : Hp) (d : Addr) (kvs : List (Key × V)) (od : Obj) (Hc : Hp) : Prop where
  at_ : Hc d = some (.frz od (.dK kvs))
  keep : SameB d H Hc
theorem Lkd.tup {H : Hp} {d : Addr} {kvs : List (Key × V)} {od : Obj} {Hc : Hp} (l : Lkd H d kvs od Hc) (hd : H d = some (.dK kvs)) {c : Addr} {xs : List V} (h : H c = some (.tup xs)) : Hc c = some (.tup xs) := l.keep c _ (fun z => by
  rw [z, hd] at h
  cases h) h
theorem Lkd.open {H : Hp} {d : Addr} {kvs : List (Key × V)} {od : Obj} {Hc : Hp} (l : Lkd H d kvs od Hc) (hd : H d = some (.dK kvs)) : Same H (upd Hc d (.dK kvs)) := fun b o z => by
  by_cases hb : b = d
  · rw [hb] at z ⊢
    rw [upd_same, ← hd]
    exact z
  · rw [upd_ne hb]
    exact l.keep b o hb z
theorem Lkd.same {H : Hp} {d : Addr} {kvs : List (Key × V)} {od : Obj} {Hc Hd : Hp} (l : Lkd H d kvs od Hc) (s : Same Hc Hd) : Lkd H d kvs od Hd := ⟨s _ _ l.at_, fun b o hb z => s _ _ (l.keep b o hb z)⟩
theorem lkd_start {H : Hp} {d : Addr} {kvs : List (Key × V)} (od : Obj) : Lkd H d kvs od (upd H d (.frz od (.dK kvs))) := ⟨upd_same, fun b o hb z => by
  rw [upd_ne hb]
  exact z⟩
/-- a list at D, all that it holds new and not itself -/
def LstAt (H0 : Hp) (D : Addr) (H : Hp) (ds : List PyData) : Prop := ∃ acc, H D = some (.lst acc) ∧ DqAll (fun a => H0 a = none ∧ a ≠ D) H acc ds
theorem LstAt.same {H0 H H' : Hp} {D : Addr} {ds : List PyData} (h : LstAt H0 D H ds) (s : Same H H') : LstAt H0 D H' ds := by
  obtain ⟨acc, e, al⟩ := h
  exact ⟨acc, s _ _ e, al.move (fun _ f => f) fun b o _ z => s _ _ z⟩
theorem lc_dataS {J : It} {n : Nat} {G : Hp → Prop} {Y : Nat → Hp → V → Hp → Prop} (w : Walk J n G Y) {g : TG} {te : TE} {vs : List Nat} {σ : L2.St} {H1 : Hp} {D : Addr} {Qd : Hp → Prop} (nD : H1 D = none) (ds : List PyData) (hl : ds.length = n) (hn : n ≤ 16000000)
    (hG : ∀ H, Same H1 H → G H)
    (hs : ∀ (i : Nat) (x : V) (d : PyData) (H H' : Hp) (k : VK), ds[i]? = some d → Same H1 H → Y i H x H' → (∀ y H4, Same H H4 → Dq (fun a => H a = none) H4 y d → k y H4) → g x (wipe σ vs) H' fun σ2 H2 => wipe σ2 vs = wipe σ vs ∧ te σ2 H2 k)
    (hd : ∀ H, Same H1 H → LstAt H1 D H ds → Qd H) :
    ∃ W : Nat → Nat → Hp → Prop, (∃ m, W 0 m (upd H1 D (.lst []))) ∧ ∀ i m H, W i m H →
      (J.stop i H ∧ Qd H) ∨ (J.go i H ∧ ∃ Nx : Hp → Prop, (∀ H', Nx H' → ∃ m', m' < m ∧ W (i + 1) m' H') ∧ ∀ x H', J.yld i H x H' → g x (wipe σ vs) H' fun σ2 H2 => wipe σ2 vs = wipe σ vs ∧ tYes σ2 H2 fun b H3 =>
        if b = true then te σ2 H3 fun y H4 => ∃ acc, H4 D = some (.lst acc) ∧ acc.length < sizeLine ∧ Nx (upd H4 D (.lst (acc ++ [y]))) else Nx H3) := by
  refine lc_map w nD hn (fun i v H => ∃ d, ds[i]? = some d ∧ Dq (fun a => H1 a = none ∧ a ≠ D) H v d) (fun i v H H' h s => ?_) hG (fun i x H H' k hi s hD y hk => ?_) fun H acc s e l r => ?_
  · obtain ⟨d, e, q⟩ := h
    exact ⟨d, e, q.move (fun _ f => f) fun b o f z => s b o f.2 z⟩
  · have e : ds[i]? = some ds[i] := List.getElem?_eq_getElem (by omega)
    obtain ⟨acc, hD⟩ := hD
    refine hs i x _ H H' k e s y fun v H4 s4 q => hk v H4 s4 ⟨_, e, q.move (fun b f => ⟨?_, fun z => ?_⟩) fun b o _ z => z⟩
    · cases z : H1 b with
      | none => rfl
      | some o =>
        have f : H b = none := f
        rw [s b o z] at f
        cases f
    · have f : H b = none := f
      rw [z, hD] at f
      cases f
  · refine hd H s ⟨acc, e, dqall_of (by omega) fun i v d e1 e2 => ?_⟩
    obtain ⟨d', e3, q⟩ := r i v e1
    rw [e2] at e3
    cases e3
    exact q
section
variable {i : Nat} {d : Addr} {kvs : List (Key × V)} {σ : L2.St} {H : Hp} {g : TG} {te : TE} {vs : List Nat}
theorem items_core {od : Obj} {D : Addr} {Qd : Hp → Prop} (hd : H d = some (.dK kvs)) (hn : kvs.length ≤ 16000000) (ds : List PyData) (hl : ds.length = kvs.length) (nD : upd H d (.frz od (.dK kvs)) D = none)
    (hs : ∀ (j : Nat) (k : Key) (v : V) (dt : PyData) (Hc : Hp) (T : Addr) (q : VK), kvs[j]? = some (k, v) → ds[j]? = some dt → Lkd H d kvs od Hc → Hc T = none → (∀ y H4, Same Hc H4 → Dq (fun a => Hc a = none) H4 y dt → q y H4) → g (.ref T) (wipe σ vs) (upd Hc T (.tup [kV k, v])) fun σ2 H2 => wipe σ2 vs = wipe σ vs ∧ te σ2 H2 q)
    (hd' : ∀ Hc, Lkd H d kvs od Hc → H D = none → LstAt H D (upd Hc d (.dK kvs)) ds → Qd Hc) :
    ∃ W : Nat → Nat → Hp → Prop, (∃ m, W 0 m (upd (upd H d (.frz od (.dK kvs))) D (.lst []))) ∧ ∀ j m Hx, W j m Hx →
      ((Iti d od kvs).stop j Hx ∧ Qd Hx) ∨ ((Iti d od kvs).go j Hx ∧ ∃ Nx : Hp → Prop, (∀ H', Nx H' → ∃ m', m' < m ∧ W (j + 1) m' H') ∧ ∀ x H', (Iti d od kvs).yld j Hx x H' → g x (wipe σ vs) H' fun σ2 H2 => wipe σ2 vs = wipe σ vs ∧ tYes σ2 H2 fun b H3 =>
        if b = true then te σ2 H3 fun y H4 => ∃ acc, H4 D = some (.lst acc) ∧ acc.length < sizeLine ∧ Nx (upd H4 D (.lst (acc ++ [y]))) else Nx H3) := by
  have fr : ∀ {b : Addr}, upd H d (.frz od (.dK kvs)) b = none → H b = none ∧ b ≠ d := fun {b} f => by
    by_cases hb : b = d
    · rw [hb, upd_same] at f
      cases f
    · rw [upd_ne hb] at f
      exact ⟨f, hb⟩
  refine lc_dataS (walk_items (o := od) (kvs := kvs)) nD ds hl hn (fun Hc sc => sc _ _ upd_same) ?_ ?_
  · rintro j x dt Hc Hc' q hj sc ⟨T, a, b, rfl, nT, rfl, ha, hb⟩ hk
    have hlt : j < kvs.length := by
      have := List.getElem?_eq_some_iff.mp hj
      obtain ⟨h1, _⟩ := this
      omega
    have e : kvs[j]? = some kvs[j] := List.getElem?_eq_getElem hlt
    have ha : (kvs[j]?.map fun kv => kV kv.1) = some a := ha
    have hb : kvs[j]?.map Prod.snd = some b := hb
    rw [e] at ha hb
    have ha : kV kvs[j].1 = a := Option.some.inj ha
    have hb : kvs[j].2 = b := Option.some.inj hb
    subst ha
    subst hb
    exact hs j _ _ dt Hc T q e hj ((lkd_start od).same sc) nT hk
  · intro Hc sc dq
    obtain ⟨acc, e, al⟩ := dq
    refine hd' Hc ((lkd_start od).same sc) (fr nD).1 ⟨acc, ?_, al.move (fun b f => ⟨(fr f.1).1, f.2⟩) fun b o f z => ?_⟩
    · rw [upd_ne (fr nD).2]
      exact e
    · rw [upd_ne (fr f.1).2]
      exact z
/-- [.. for a, b in d.items()] -/
theorem items_lc {Q : VK} (hi : σ[i]? = some (some (.ref d))) (hd : H d = some (.dK kvs)) (hn : kvs.length ≤ 16000000) (ds : List PyData) (hl : ds.length = kvs.length)
    (hs : ∀ (od : Obj) (j : Nat) (k : Key) (v : V) (dt : PyData) (Hc : Hp) (T : Addr) (q : VK), kvs[j]? = some (k, v) → ds[j]? = some dt → Lkd H d kvs od Hc → Hc T = none → (∀ y H4, Same Hc H4 → Dq (fun a => Hc a = none) H4 y dt → q y H4) → g (.ref T) (wipe σ vs) (upd Hc T (.tup [kV k, v])) fun σ2 H2 => wipe σ2 vs = wipe σ vs ∧ te σ2 H2 q)
    (hq : ∀ D H', Same H H' → H D = none → LstAt H D H' ds → Q (.ref D) H') : tLockE (tLc (iItems (tVar i)) g tYes te vs) σ H Q := by
  refine ⟨d, .dK kvs, hd, True.intro, fun od => ⟨_, hi, d, od, kvs, rfl, upd_same, fun D nD => items_core hd hn ds hl nD (hs od) fun Hc l nD' dq => ⟨l.at_, hq D _ (l.open hd) nD' dq⟩⟩⟩
/-- y = [.. for a, b in d.items()] -/
theorem items_set {E : Ends} {y : Nat} (hi : σ[i]? = some (some (.ref d))) (hd : H d = some (.dK kvs)) (hn : kvs.length ≤ 16000000) (ds : List PyData) (hl : ds.length = kvs.length)
    (hs : ∀ (od : Obj) (j : Nat) (k : Key) (v : V) (dt : PyData) (Hc : Hp) (T : Addr) (q : VK), kvs[j]? = some (k, v) → ds[j]? = some dt → Lkd H d kvs od Hc → Hc T = none → (∀ y H4, Same Hc H4 → Dq (fun a => Hc a = none) H4 y dt → q y H4) → g (.ref T) (wipe σ vs) (upd Hc T (.tup [kV k, v])) fun σ2 H2 => wipe σ2 vs = wipe σ vs ∧ te σ2 H2 q)
    (hq : ∀ D H', Same H H' → H D = none → LstAt H D H' ds → E.nx (σ.set y (some (.ref D))) H') : tLock (tAsg (tLc (iItems (tVar i)) g tYes te vs) (gName y)) E σ H := by
  refine ⟨d, .dK kvs, hd, True.intro, fun od => ⟨_, hi, d, od, kvs, rfl, upd_same, fun D nD => items_core hd hn ds hl nD (hs od) fun Hc l nD' dq => ⟨l.at_, hq D _ (l.open hd) nD' dq⟩⟩⟩
end
theorem yesT {σ : L2.St} {H : Hp} {A B : Hp → Prop} (h : A H) : tYes σ H (fun b H3 => if b = true then A H3 else B H3) := (iteT h : if true = true then A H else B H)
/-! ### all items of several tuples -/
section
variable {K : Frag} {a : Addr} {σ : L2.St} {H : Hp} {Q : VK} {ti tj : Nat} {vs vs1 : List Nat} {refs : List Addr} {yss : List (List V)}
theorem flat_core {te : TE} {u : Nat} (hi : σ[u]? = some (some (.ref a))) (hT : SqT K H a (refs.map V.ref)) (hr : refs.length = yss.length) (hy : ∀ (j : Nat) (r : Addr) (ys : List V), refs[j]? = some r → yss[j]? = some ys → H r = some (.tup ys)) (hn : yss.flatten.length ≤ 16000000)
    (h1 : ∀ (x : V), wipe ((wipe σ vs).set ti (some x)) vs = wipe σ vs) (h2 : ∀ (x : V) , (((wipe σ vs).set ti (some x))[ti]? = some (some x)))
    (h3 : ∀ (x y : V), wipe ((wipe ((wipe σ vs).set ti (some x)) vs1).set tj (some y)) vs1 = wipe ((wipe σ vs).set ti (some x)) vs1)
    (h4 : ∀ (x y : V) (H' : Hp) (q : VK), q y H' → te ((wipe ((wipe σ vs).set ti (some x)) vs1).set tj (some y)) H' q)
    (hq : ∀ D H', Same H H' → H D = none → H' D = some (.lst yss.flatten) → Q (.ref D) H') : tLc2 (iTup K (tVar u)) (gName ti) tYes (iTup K (tVar ti)) (gName tj) tYes te vs vs1 σ H Q := by
  refine ⟨_, hi, a, rfl, ⟨_, hT⟩, fun D nD => ?_⟩
  have part : ∀ j, ((yss.take j).flatten).length ≤ yss.flatten.length := fun j => by
    conv => rhs; rw [← List.take_append_drop j yss, List.flatten_append, List.length_append]
    omega
  refine ⟨fun j m Hc => m = yss.length - j ∧ j ≤ yss.length ∧ Same H Hc ∧ Hc D = some (.lst (yss.take j).flatten), ⟨yss.length, by simp, Nat.zero_le _, same_new nD, upd_same⟩, ?_⟩
  rintro j m Hc ⟨rfl, hj, sc, eD⟩
  have hTc := sqT_same hT sc
  by_cases hlt : j < yss.length
  · have lr : j < refs.length := by omega
    have er : refs[j]? = some refs[j] := List.getElem?_eq_getElem lr
    have ey : yss[j]? = some yss[j] := List.getElem?_eq_getElem hlt
    refine .inr ⟨⟨_, _, hTc, by rw [List.getElem?_map, er]; rfl⟩, fun Hd => j + 1 ≤ yss.length ∧ Same H Hd ∧ Hd D = some (.lst (yss.take (j + 1)).flatten), fun Hd hd => ⟨yss.length - (j + 1), by omega, rfl, hd⟩, ?_⟩
    rintro x Hc' ⟨rfl, hx⟩
    have hx := hx _ hTc
    rw [List.getElem?_map, er] at hx
    have hx : V.ref refs[j] = x := Option.some.inj hx
    subst hx
    have rj := sc _ _ (hy j _ _ er ey)
    refine ⟨h1 _, yesT ?_⟩
    refine ⟨_, h2 _, refs[j], rfl, ⟨_, SqT.of rj⟩, ?_⟩
    refine ⟨fun k m Hd => m = yss[j].length - k ∧ k ≤ yss[j].length ∧ Same H Hd ∧ Hd D = some (.lst ((yss.take j).flatten ++ yss[j].take k)), ⟨yss[j].length, by simp, Nat.zero_le _, sc, by rw [eD]; simp⟩, ?_⟩
    rintro k m Hd ⟨rfl, hk, sd, eDd⟩
    have rd := sd _ _ (hy j _ _ er ey)
    have whole : (yss.take (j + 1)).flatten = (yss.take j).flatten ++ yss[j] := by
      rw [List.take_add_one, ey, List.flatten_append]
      simp
    by_cases hkl : k < yss[j].length
    · have ek : yss[j][k]? = some yss[j][k] := List.getElem?_eq_getElem hkl
      refine .inr ⟨⟨_, _, SqT.of rd, ek⟩, fun He => k + 1 ≤ yss[j].length ∧ Same H He ∧ He D = some (.lst ((yss.take j).flatten ++ yss[j].take (k + 1))), fun He he => ⟨yss[j].length - (k + 1), by omega, rfl, he⟩, ?_⟩
      rintro y Hd' ⟨rfl, hy'⟩
      have hy' := hy' _ (SqT.of rd)
      rw [ek] at hy'
      have hy' : yss[j][k] = y := Option.some.inj hy'
      subst hy'
      refine ⟨h3 _ _, yesT ?_⟩
      refine h4 _ _ _ _ ⟨_, eDd, ?_, by omega, fun b o z => ?_, ?_⟩
      · have := part (j + 1)
        rw [whole, List.length_append] at this
        rw [List.length_append, List.length_take, sizeLine_eq]
        omega
      · rw [upd_ne (ne_of_none z nD)]
        exact sd b o z
      · rw [upd_same, List.take_add_one, ek, List.append_assoc]
        rfl
    · refine .inl ⟨⟨_, SqT.of rd, by omega⟩, by omega, sd, ?_⟩
      have e2 : yss[j].take k = yss[j] := List.take_of_length_le (by omega)
      rw [eDd, whole, e2]
  · refine .inl ⟨⟨_, hTc, by rw [List.length_map]; omega⟩, hq D Hc sc nD ?_⟩
    rw [eD, List.take_of_length_le (by omega)]
end
end U

set_option Elab.async false
set_option linter.all false
set_option maxRecDepth 100000
set_option maxHeartbeats 4000000
namespace U
open PySem PySem.Spec PyProof.Rows L2
open PySem.W (Frag)
section
variable {X : Cx}
def rStrOf : List V → Hp → VK → Prop := fun xs H Q => (∃ i : Int, xs = [.int i] ∧ i.natAbs.log2 < 1920 ∧ Q (.str (toString i)) H) ∨ ∃ a, xs = [.str a] ∧ Q (.str a) H
theorem call_strOf : CallR X (.type "str") rStrOf := by
  intro pins s σ H xs us Q I r h
  rcases h with h | h
  · exact call_str_int pins s σ H xs us Q I r h
  · exact SkE.call_str_str pins s σ H xs us Q I r h
theorem PI.or {tg e : Expr} {t u : TI} (h1 : PI X tg e t) (h2 : PI X tg e u) : PI X tg e (fun σ H R => t σ H R ∨ u σ H R) := ⟨fun pins s σ H R I h => h.elim (fun h => h1.run pins s σ H R I h) fun h => h2.run pins s σ H R I h⟩
end
end U
namespace G
open PySem PySem.Spec PyProof.Rows L2 U
open PySem.W (Frag)
/-! ### text_of -/
def isAtom : PyData → Bool
  | .str _ => true
  | .int i => decide (i.natAbs.log2 < 1920)
  | _ => false
def wordV : PyData → V
  | .str s => .str s
  | .int i => .int i
  | _ => .non
def wordS : PyData → Str
  | .str s => s
  | .int i => toString i
  | _ => ""
def tabW (t : Tab) : List PyData := [.int t.fa, .int t.sh, .int t.st, .int t.lo, .int t.hi]
def personW (p : Str × Int × Int) : List PyData := [.str "person", .str p.1, .int p.2.1, .int p.2.2]
def labW (l : Str × List Tab) : List PyData := .str "lab" :: .str l.1 :: (l.2.map tabW).flatten
def rowW (r : Str × Row) : List PyData := [.str "result", .str r.1, .str r.2.person, .str r.2.lab, .int r.2.day, r.2.pr.d]
def factW : PyData → List PyData
  | .tuple ds => .str "fact" :: ds
  | _ => []
def linesW (p : Parts) : List (List PyData) := p.people.map personW ++ p.labs.map labW ++ p.rows.map rowW ++ p.facts.map factW
def lineS (ws : List PyData) : Str := Txt.join sBlank (ws.map wordS)
def textOf (p : Parts) : Str := Txt.join sFeed ((linesW p).map lineS)
structure Fits (p : Parts) : Prop where
  many : (linesW p).length ≤ 1000
  words : ∀ l ∈ linesW p, l.length ≤ 1000 ∧ (∀ d ∈ l, isAtom d = true) ∧ ((l.map wordS).map (·.length)).sum + l.length ≤ 16777216
  facts : ∀ d ∈ p.facts, ∃ ds, d = PyData.tuple ds
  all : (((linesW p).map lineS).map (·.length)).sum + (linesW p).length ≤ 16777216
theorem dict_at {α : Type} {dA : α → PyData} {F : Addr → Prop} {H : Hp} {v : V} {xs : List (Str × α)} (h : Dq F H v (dictD dA xs)) : ∃ a kvs, v = .ref a ∧ H a = some (.dK kvs) ∧ kvs.length = xs.length ∧ ∀ (j : Nat) k u, kvs[j]? = some (k, u) → ∃ x, xs[j]? = some x ∧ k = Sum.inr x.1 ∧ Dq F H u (dA x.2) := by
  obtain ⟨a, kvs, rfl, _, e, k, al⟩ := dk_inv h
  rw [List.map_map] at k al
  have ks := keys_str (f := fun q : Str × α => q.1) k
  have len : kvs.length = xs.length := by
    have := congrArg List.length ks
    simpa using this
  refine ⟨a, kvs, rfl, e, len, fun j key u hj => ?_⟩
  have lt : j < xs.length := by
    obtain ⟨h1, _⟩ := List.getElem?_eq_some_iff.mp hj
    omega
  refine ⟨xs[j], List.getElem?_eq_getElem lt, ?_, ?_⟩
  · have h1 := congrArg (fun l => l[j]?) ks
    simp only [List.getElem?_map, hj, List.getElem?_eq_getElem lt, Option.map_some] at h1
    exact Option.some.inj h1
  · have h1 : (kvs.map (·.2))[j]? = some u := by rw [List.getElem?_map, hj]; rfl
    obtain ⟨dd, h2, h3⟩ := al.get h1
    rw [List.getElem?_map, List.getElem?_eq_getElem lt] at h2
    have h2 : dA xs[j].2 = dd := Option.some.inj h2
    rw [h2]
    exact h3
theorem tab_refs {F : Addr → Prop} {H : Hp} : ∀ {ts : List Tab} {xs : List V}, DqAll F H xs (ts.map Tab.d) → ∃ refs : List Addr, xs = refs.map V.ref ∧ refs.length = ts.length ∧ ∀ (j : Nat) (r : Addr) (ys : List V), refs[j]? = some r → (ts.map Tab.vs)[j]? = some ys → H r = some (.tup ys)
  | [], _, .nil => ⟨[], rfl, rfl, fun j r ys h => by simp at h⟩
  | t :: ts, _, .cons h al => by
    obtain ⟨refs, h1, h2, h3⟩ := tab_refs al
    obtain ⟨a, rfl, _, e⟩ := tabIs h
    refine ⟨a :: refs, by rw [h1]; rfl, by rw [List.length_cons, List.length_cons, h2], fun j r ys hr hy => ?_⟩
    cases j with
    | zero =>
      have hr : a = r := Option.some.inj hr
      have hy : t.vs = ys := Option.some.inj hy
      rw [← hr, ← hy]
      exact e
    | succ j => exact h3 j r ys hr hy
theorem tab_atoms {F : Addr → Prop} {H : Hp} : ∀ ts : List Tab, DqAll F H ((ts.map Tab.vs).flatten) ((ts.map tabW).flatten)
  | [] => .nil
  | t :: ts => (DqAll.cons (.int _) (.cons (.int _) (.cons (.int _) (.cons (.int _) (.cons (.int _) .nil))))).app (tab_atoms ts)
section
variable {P : Program} {w : World} {K : Frag} {mg : Str → Option Value} {base : Heap}
theorem atoms_dq {F F' : Addr → Prop} {H H' : Hp} : ∀ {ds : List PyData} {vs : List V}, (∀ d ∈ ds, isAtom d = true) → DqAll F H vs ds → DqAll F' H' vs ds ∧ vs = ds.map wordV
  | [], _, _, .nil => ⟨.nil, rfl⟩
  | d :: ds, _, h, .cons q al => by
    obtain ⟨h1, h2⟩ := atoms_dq (F' := F') (H' := H') (fun d m => h d (List.mem_cons_of_mem _ m)) al
    have hd := h d List.mem_cons_self
    cases q with
    | int i => exact ⟨.cons (.int i) h1, by rw [h2]; rfl⟩
    | str x => exact ⟨.cons (.str x) h1, by rw [h2]; rfl⟩
    | non => cases hd
    | bl => cases hd
    | lst => cases hd
    | tup => cases hd
    | dk => cases hd
theorem facts_lc {u : Nat} {σ : L2.St} {H : Hp} {Q : VK} {v4 : V} {fs : List PyData} (hi : σ[u]? = some (some v4)) (dv : Da H v4 (.tuple fs) ∨ Da H v4 (.list fs)) (hf : ∀ d ∈ fs, ∃ ds, d = PyData.tuple ds) (hl : fs.length ≤ 1000) (hw : ∀ d ∈ fs, (factW d).length ≤ 1000) (ha : ∀ d ∈ fs, ∀ x ∈ factW d, isAtom x = true)
    (h1 : ∀ x : V, wipe ((wipe σ [11]).set 11 (some x)) [11] = wipe σ [11]) (h2 : ∀ x : V, ((wipe σ [11]).set 11 (some x))[11]? = some (some x)) (hq : ∀ D H', Same H H' → H D = none → LstAt H D H' ((fs.map factW).map PyData.list) → Q (.ref D) H') :
    tLc (fun σ H R => iTup K (tVar u) σ H R ∨ iList K (tVar u) σ H R) (gName 11) tYes (tLst (tCons (tC (.str "fact")) (StX.tStar K (tVar 11) tNil))) [11] σ H Q := by
  have body : ∀ {xs : List V}, DqAll (fun _ => True) H xs fs → ∀ (i : Nat) (x : V) (d : PyData) (Hc Hc' : Hp) (k : VK), ((fs.map factW).map PyData.list)[i]? = some d → Same H Hc → YAt xs i Hc x Hc' → (∀ y H4, Same Hc H4 → Dq (fun a => Hc a = none) H4 y d → k y H4) →
      gName 11 x (wipe σ [11]) Hc' fun σ2 H2 => wipe σ2 [11] = wipe σ [11] ∧ tLst (tCons (tC (.str "fact")) (StX.tStar K (tVar 11) tNil)) σ2 H2 k := by
    rintro xs al i x d Hc Hc' k hd sc ⟨rfl, hx⟩ hk
    obtain ⟨f, hf1, dq⟩ := al.get hx
    obtain ⟨ds, rfl⟩ := hf f (List.mem_of_getElem? hf1)
    rw [List.getElem?_map, List.getElem?_map, hf1] at hd
    have hd : PyData.list (.str "fact" :: ds) = d := Option.some.inj hd
    subst hd
    cases dq with
    | @tup c ys _ fc ec alc =>
    have ly : ys.length + 1 ≤ 1000 := by
      have := hw _ (List.mem_of_getElem? hf1)
      unfold factW at this
      rw [List.length_cons] at this
      rw [alc.len]
      exact this
    refine ⟨h1 _, ⟨_, h2 _, c, ys, rfl, .inl (SqT.of (sc _ _ ec)), Nat.le_trans (by rw [List.length_cons, List.append_nil]; exact ly) sizeLine_ge, fun r nr => ?_⟩⟩
    have sR := same_new (o := .lst (.str "fact" :: (ys ++ []))) nr
    refine hk _ _ sR (.lst nr upd_same (.cons (.str _) ?_))
    rw [List.append_nil]
    exact (atoms_dq (fun x m => ha _ (List.mem_of_getElem? hf1) x (List.mem_cons_of_mem _ m)) alc).1
  rcases dv with dv | dv
  · cases dv with
    | @tup a xs _ fa ea al =>
    have lx : xs.length = fs.length := al.len
    refine .inl ⟨_, hi, a, rfl, ⟨_, SqT.of ea⟩, fun D nD => lc_dataS walk_tup nD ((fs.map factW).map PyData.list) (by rw [List.length_map, List.length_map, lx]) (by omega) (fun Hc sc => SqT.of (sc _ _ ea)) (body al) fun Hc sc l => hq D Hc sc nD l⟩
  · cases dv with
    | @lst a xs _ fa ea al =>
    have lx : xs.length = fs.length := al.len
    refine .inr ⟨_, hi, a, rfl, ⟨_, SqL.of ea⟩, fun D nD => lc_dataS walk_list nD ((fs.map factW).map PyData.list) (by rw [List.length_map, List.length_map, lx]) (by omega) (fun Hc sc => SqL.of (sc _ _ ea)) (body al) fun Hc sc l => hq D Hc sc nD l⟩
abbrev scL : Scope := { kind := .function, names := [(".0", .local), ("line", .local), ("BLANK", .globalImplicit)], isGenerator := false, isCoroutine := false }
def sp_text_of : Sp := fun vs H Q _ => ∃ (v1 v2 v3 v4 : V) (p : Parts), vs = [v1, v2, v3, v4] ∧ Da H v1 (dictD ratesD p.people) ∧ Da H v2 (dictD tabsD p.labs) ∧ Da H v3 (dictD Row.d p.rows) ∧ (Da H v4 (.tuple p.facts) ∨ Da H v4 (.list p.facts)) ∧ Fits p ∧ RetS H (.str (textOf p)) Q
theorem has_text_of (F : Fn K mg "text_of" s_text_of) (gS : mg "str" = none) (cP : CS mg "PERSON" "person") (cL : CS mg "LAB" "lab") (cR : CS mg "RESULT" "result") (cF : CS mg "FACT" "fact") (cB : CS mg "BLANK" sBlank) (cN : CS mg "FEED" sFeed) : Has P w K mg base 1 "text_of" P_text_of [] sp_text_of := by
  obtain ⟨⟨fd, F⟩, g⟩ := F
  refine ⟨⟨fd, [], ?_, F.kp, .nil, F.bindsN fun _ _ _ _ _ _ us hl => match us, hl with | [_, _, _, _], _ => rfl⟩, g⟩
  refine F.ok sc_text_of (fun vs H Q E h => ?_) (fun cdv A outer s H vs Q E hr h' => ?_)
  · obtain ⟨v1, v2, v3, v4, p, rfl, _⟩ := h
    rfl
  · obtain ⟨v1, v2, v3, v4, p, rfl, d1, d2, d3, d4, fit, hq⟩ := h'
    refine ⟨_, PSs.nox (pss_cons (ps_lock (ps_setLc (i := 4) (own := [("name", 5), ("rates", 6)]) (g := gTup K 2 (gCons (gName 5) (gCons (gName 6) gNil))) (tt := tYes) (te := tLst (tCons (tC (.str "person")) (tCons (tVar 5) (StX.tStar K (tVar 6) tNil)))) rfl sc_text_of.nd rfl rfl rfl (pi_items (pv 0)) (blkOk_by (N := N_text_of) (sc := defScope s_text_of) (by decide +kernel))
        (fun _ _ _ _ _ => pg_tup rfl (pgs_cons (pg_name (i := 5) sc_text_of.nd rfl (Or.inl rfl)) (pgs_cons (pg_name (i := 6) sc_text_of.nd rfl (Or.inl rfl)) pgs_nil))) (fun _ _ _ _ _ => pts_nil) (fun _ _ _ _ _ => pe_lst (pa_cons (pe_cs cP) (pa_cons (pv 5) (StX.pa_star (pv 6) pa_nil))))))
      (pss_cons (ps_lock (ps_for PassesOwn.never rfl (pi_items (pv 1)) (pg_tup rfl (pgs_cons (pg_name (i := 5) sc_text_of.nd rfl (Or.inl rfl)) (pgs_cons (pg_name (i := 7) sc_text_of.nd rfl (Or.inl rfl)) pgs_nil)))
        (pss_one (ps_expr (pe_bm PySem.F.plainAttrs_list PySem.F.slot_list_append PySem.F.type_list_append mt_append (pv 4) (pa_cons (pe_lst (pa_cons (pe_cs cL) (pa_cons (pv 5) (StX.pa_star (pe_lc2 (own := [("table", 8), ("number", 9)]) (vs1 := [9]) (g := gName 8) (tt := tYes) (wi1 := iTup K (tVar 8)) (g1 := gName 9) (tt1 := tYes) (te := tVar 9) rfl sc_text_of.nd (pi_tup (pv 7)) (blkOk_by (N := N_text_of) (sc := defScope s_text_of) (by decide +kernel)) (by decide)
          (fun _ _ _ _ _ => pg_name (i := 8) sc_text_of.nd rfl (Or.inl rfl)) (fun _ _ _ _ _ => pts_nil) (fun _ _ _ _ _ => pi_tup (pv 8)) (fun _ _ _ _ _ => pg_name (i := 9) sc_text_of.nd rfl (Or.inl rfl)) (fun _ _ _ _ _ => pts_nil) (fun _ _ _ _ _ => pv 9)) pa_nil)))) pa_nil))))))
      (pss_cons (ps_expr (pe_bm PySem.F.plainAttrs_list PySem.F.slot_list_extend PySem.F.type_list_extend mt_extend (pv 4) (pa_cons (pe_lock (pe_lc (own := [("name", 5), ("row", 10)]) (g := gTup K 2 (gCons (gName 5) (gCons (gName 10) gNil))) (tt := tYes) (te := tLst (tCons (tC (.str "result")) (tCons (tVar 5) (StX.tStar K (tVar 10) tNil)))) rfl sc_text_of.nd (pi_items (pv 2)) (blkOk_by (N := N_text_of) (sc := defScope s_text_of) (by decide +kernel))
        (fun _ _ _ _ _ => pg_tup rfl (pgs_cons (pg_name (i := 5) sc_text_of.nd rfl (Or.inl rfl)) (pgs_cons (pg_name (i := 10) sc_text_of.nd rfl (Or.inl rfl)) pgs_nil))) (fun _ _ _ _ _ => pts_nil) (fun _ _ _ _ _ => pe_lst (pa_cons (pe_cs cR) (pa_cons (pv 5) (StX.pa_star (pv 10) pa_nil)))))) pa_nil)))
      (pss_cons (ps_expr (pe_bm PySem.F.plainAttrs_list PySem.F.slot_list_extend PySem.F.type_list_extend mt_extend (pv 4) (pa_cons (pe_lc (own := [("claim", 11)]) (g := gName 11) (tt := tYes) (te := tLst (tCons (tC (.str "fact")) (StX.tStar K (tVar 11) tNil))) rfl sc_text_of.nd (PI.or (pi_tup (pv 3)) (pi_list (pv 3))) (blkOk_by (N := N_text_of) (sc := defScope s_text_of) (by decide +kernel))
        (fun _ _ _ _ _ => pg_name (i := 11) sc_text_of.nd rfl (Or.inl rfl)) (fun _ _ _ _ _ => pts_nil) (fun _ _ _ _ _ => pe_lst (pa_cons (pe_cs cF) (StX.pa_star (pv 11) pa_nil)))) pa_nil)))
      (pss_one (ps_ret (pe_join (pe_cs cN) (pe_lc (own := [("line", 13)]) (g := gName 13) (tt := tYes) (te := tM1 (fun x xs H Q => ∃ a p, ∃ ys : List Str, x = .str a ∧ xs = [.ref p] ∧ (SqL K H p (ys.map V.str) ∨ SqT K H p (ys.map V.str)) ∧ (ys.map (·.length)).sum + ys.length * a.length ≤ 16777216 ∧ Q (.str (Txt.join a ys)) H) (tC (.str sBlank)) (tLc (iList K (tVar 13)) (gName 12) tYes (tCB rStrOf (tCons (tVar 12) tNil)) [12])) rfl sc_text_of.nd (pi_list (pv 4)) (blkOk_by (N := N_text_of) (sc := defScope s_text_of) (by decide +kernel))
        (fun _ _ _ _ _ => pg_name (i := 13) sc_text_of.nd rfl (Or.inl rfl)) (fun _ _ _ _ _ => pts_nil) (fun _ _ _ _ _ => pe_join (pe_cs cB) (pe_lc (own := [("word", 12)]) (wi := iList K (tVar 13)) (g := gName 12) (tt := tYes) rfl sc_text_of.nd (pi_list (pv 13)) (blkOk_by (N := N_text_of) (sc := scL) (by decide +kernel))
          (fun _ _ _ _ _ => pg_name (i := 12) sc_text_of.nd rfl (Or.inl rfl)) (fun _ _ _ _ _ => pts_nil) (fun _ _ _ _ _ => pe_callTy call_strOf (by rfl) gS (by decide +kernel) (pa_cons (pv 12) pa_nil)))))))))))), ?_⟩
    obtain ⟨a1, k1, rfl, e1, l1, i1⟩ := dict_at d1
    have few : p.people.length + p.labs.length + p.rows.length + p.facts.length ≤ 1000 := by
      have := fit.many
      unfold linesW at this
      simp only [List.length_append, List.length_map] at this
      omega
    refine items_set (i := 0) (y := 4) rfl e1 (by omega) ((p.people.map personW).map PyData.list) (by rw [List.length_map, List.length_map, l1]) ?_ ?_
    · intro od j k v dt Hc T q hk hdt lk nT hq'
      obtain ⟨x, hx, rfl, dv⟩ := i1 j k v hk
      rw [List.getElem?_map, List.getElem?_map, hx] at hdt
      have hdt : PyData.list (personW x) = dt := Option.some.inj hdt
      subst hdt
      cases dv with
      | @tup c xs _ fc ec alc =>
      cases alc with
      | cons q1 alc =>
      cases alc with
      | cons q2 alc =>
      cases alc
      cases q1
      cases q2
      have sT := same_new (o := .tup [.str x.1, .ref c]) nT
      refine ⟨T, _, rfl, SqT.of upd_same, rfl, _, _, rfl, _, _, rfl, rfl, rfl, ?_⟩
      refine ⟨_, rfl, ⟨_, rfl, c, _, rfl, .inl (SqT.of (sT _ _ (lk.tup e1 ec))), Nat.le_trans (by show 4 ≤ 1000; omega) sizeLine_ge, fun r nr => ?_⟩⟩
      have sR := same_new (o := .lst [.str "person", .str x.1, .int x.2.1, .int x.2.2]) nr
      exact hq' _ _ (fun b o z => sR _ _ (sT _ _ z)) (.lst (none_of_same sT nr) upd_same (.cons (.str _) (.cons (.str _) (.cons (.int _) (.cons (.int _) .nil)))))
    intro D1 H1 s1 nD1 dq1
    obtain ⟨a2, k2, rfl, e2, l2, i2⟩ := dict_at d2
    have ne12 : ∀ {b : Addr}, H b = none → b ≠ a2 := fun f z => by
      rw [z, e2] at f
      cases f
    refine ⟨a2, .dK k2, s1 _ _ e2, True.intro, fun od => ⟨_, rfl, a2, od, k2, rfl, upd_same, for_it (walk_items (o := od) (kvs := k2)) (fun j σ Hc => ∃ o5 o7 : Option V, σ = [some (.ref a1), some (.ref a2), some v3, some v4, some (.ref D1), o5, none, o7, none, none, none, none, none, none] ∧
      Hc a2 = some (.frz od (.dK k2)) ∧ (∀ b o, b ≠ a2 → b ≠ D1 → H1 b = some o → Hc b = some o) ∧ ∃ acc, Hc D1 = some (.lst acc) ∧ DqAll (fun b => H b = none ∧ b ≠ D1) Hc acc ((p.people.map personW ++ (p.labs.take j).map labW).map PyData.list)) ?_ (fun j σ Hc _ h => ?_) ?_ ?_⟩⟩
    · obtain ⟨acc, eD, al⟩ := dq1
      have up : ∀ b o, b ≠ a2 → H1 b = some o → upd H1 a2 (.frz od (.dK k2)) b = some o := fun b o hb z => by
        rw [upd_ne hb]
        exact z
      refine ⟨none, none, rfl, upd_same, fun b o h1 _ z => up b o h1 z, acc, up _ _ (ne12 nD1) eD, ?_⟩
      rw [List.take_zero, List.map_nil, List.append_nil]
      exact al.move (fun _ f => f) fun b o f z => up b o (ne12 f.1) z
    · obtain ⟨_, _, _, h, _⟩ := h
      exact h
    · rintro j x σ Hc Hc' hj ⟨o5, o7, rfl, hf, hk, acc, eD, al⟩ ⟨T, ka, va, rfl, nT, rfl, hka, hva⟩
      obtain ⟨key, vv, ek⟩ : ∃ key vv, k2[j]? = some (key, vv) := ⟨_, _, List.getElem?_eq_getElem hj⟩
      have hka : (k2[j]?.map fun kv => kV kv.1) = some ka := hka
      have hva : k2[j]?.map Prod.snd = some va := hva
      rw [ek] at hka hva
      have hka : kV key = ka := Option.some.inj hka
      have hva : vv = va := Option.some.inj hva
      subst hva
      obtain ⟨x, hx, hkey, dv⟩ := i2 j _ _ ek
      subst hkey
      subst hka
      cases dv with
      | @tup c xs _ fc ec alc =>
      obtain ⟨refs, rfl, lr, hrefs⟩ := tab_refs alc
      have sT := same_new (o := .tup [kV (Sum.inr x.1), .ref c]) nT
      have tup : ∀ {b : Addr} {ys : List V}, H b = some (.tup ys) → Hc b = some (.tup ys) := fun {b ys} z => hk b _ (fun y => by rw [y, e2] at z; cases z) (fun y => by rw [y, nD1] at z; cases z) (s1 _ _ z)
      refine ⟨T, _, rfl, SqT.of upd_same, rfl, _, _, rfl, _, _, rfl, rfl, ?_⟩
      have inW : labW x ∈ linesW p := by
        unfold linesW
        exact List.mem_append_left _ (List.mem_append_left _ (List.mem_append_right _ (List.mem_map.mpr ⟨x, List.mem_of_getElem? hx, rfl⟩)))
      have lenW : ((x.2.map Tab.vs).flatten).length + 2 ≤ 1000 := by
        have h1 := (fit.words _ inW).1
        have h2 := (tab_atoms (F := fun _ => True) (H := H) x.2).len
        unfold labW at h1
        rw [List.length_cons, List.length_cons] at h1
        omega
      have lenA : acc.length ≤ 1000 := by
        rw [al.len, List.length_map, List.length_append, List.length_map, List.length_map, List.length_take]
        omega
      refine ⟨_, rfl, .inl ⟨rfl, _, SqL.of (sT _ _ eD)⟩, ⟨_, rfl, flat_core (K := K) (a := c) (refs := refs) (yss := x.2.map Tab.vs) (ti := 8) (tj := 9) (u := 7) rfl (SqT.of (sT _ _ (tup ec))) (by rw [List.length_map, lr]) (fun j r ys h1 h2 => sT _ _ (tup (hrefs j r ys h1 h2))) (by omega) (fun x => rfl) (fun x => rfl) (fun x y => rfl) (fun x y H' q hq => ⟨_, rfl, hq⟩) fun D H' s' nD' eD' =>
        ⟨D, _, rfl, .inr (SqL.of eD'), ⟨?_, fun r nr => ?_⟩⟩⟩⟩
      · rw [List.append_nil, List.length_cons, List.length_cons]
        exact Nat.le_trans lenW sizeLine_ge
      have sR := same_new (o := .lst (.str "lab" :: .str x.1 :: ((x.2.map Tab.vs).flatten ++ []))) nr
      have sAll : Same Hc (upd H' r (.lst (.str "lab" :: .str x.1 :: ((x.2.map Tab.vs).flatten ++ [])))) := fun b o z => sR _ _ (s' _ _ (sT _ _ z))
      have eD2 := sAll _ _ eD
      have nr0 : Hc r = none := none_of_same sT (none_of_same s' nr)
      have rD : r ≠ D1 := fun z => by
        rw [z, eD] at nr0
        cases nr0
      have up : ∀ b o, b ≠ D1 → (upd H' r (.lst (.str "lab" :: .str x.1 :: ((x.2.map Tab.vs).flatten ++ [])))) b = some o → (upd (upd H' r (.lst (.str "lab" :: .str x.1 :: ((x.2.map Tab.vs).flatten ++ [])))) D1 (.lst (acc ++ [.ref r]))) b = some o := fun b o hb z => by
        rw [upd_ne hb]
        exact z
      refine ⟨D1, acc, _, rfl, rfl, eD2, Nat.lt_of_lt_of_le (by omega) (Nat.le_trans (show 1001 ≤ 16777216 by omega) (Nat.le_of_eq sizeLine_eq.symm)), ?_⟩
      refine ⟨_, _, rfl, up _ _ (ne12 nD1).symm (sAll _ _ hf), fun b o h1 h2 z => up b o h2 (sAll _ _ (hk b o h1 h2 z)), _, upd_same, ?_⟩
      have ed : ((p.people.map personW ++ (p.labs.take (j + 1)).map labW).map PyData.list) = ((p.people.map personW ++ (p.labs.take j).map labW).map PyData.list) ++ [.list (labW x)] := by
        rw [List.take_add_one, hx]
        simp
      rw [ed]
      have hn0 : H r = none := by
        cases z : H r with
        | none => rfl
        | some o =>
          have h1 := s1 _ _ z
          have h2 : r ≠ a2 := fun y => by
            rw [y] at nr0
            rw [hf] at nr0
            cases nr0
          rw [hk r o h2 rD h1] at nr0
          cases nr0
      refine (al.move (fun _ f => f) fun b o f z => up b o f.2 (sAll _ _ z)).app (.cons (.lst ⟨hn0, rD⟩ (up r _ rD upd_same) ?_) .nil)
      rw [List.append_nil]
      exact .cons (.str _) (.cons (.str _) (tab_atoms x.2))
    · rintro σ Hc ⟨o5, o7, rfl, hf, hk, acc, eD, al⟩
      refine ⟨hf, ?_⟩
      have n21 : D1 ≠ a2 := ne12 nD1
      have sH3 : Same H (upd Hc a2 (.dK k2)) := fun b o z => by
        by_cases hb : b = a2
        · rw [hb] at z ⊢
          rw [upd_same, ← e2]
          exact z
        · rw [upd_ne hb]
          exact hk b o hb (ne_of_none z nD1) (s1 _ _ z)
      have eD3 : upd Hc a2 (.dK k2) D1 = some (.lst acc) := by
        rw [upd_ne n21]
        exact eD
      have al3 : DqAll (fun b => H b = none ∧ b ≠ D1) (upd Hc a2 (.dK k2)) acc ((p.people.map personW ++ p.labs.map labW).map PyData.list) := by
        rw [l2, List.take_of_length_le (Nat.le_refl _)] at al
        exact al.move (fun _ f => f) fun b o f z => by
          rw [upd_ne (ne12 f.1)]
          exact z
      generalize upd Hc a2 (.dK k2) = H3 at *
      clear hk hf eD al
      obtain ⟨a3, k3, rfl, e3, l3, i3⟩ := dict_at d3
      have lenA : acc.length = p.people.length + p.labs.length := by
        rw [al3.len, List.length_map, List.length_append, List.length_map, List.length_map]
      refine ⟨_, rfl, .inl ⟨rfl, _, SqL.of eD3⟩, items_lc (i := 2) rfl (sH3 _ _ e3) (by omega) ((p.rows.map rowW).map PyData.list) (by rw [List.length_map, List.length_map, l3]) ?_ ?_⟩
      · intro od j k v dt Hc T q hk hdt lk nT hq'
        obtain ⟨x, hx, rfl, dv⟩ := i3 j k v hk
        rw [List.getElem?_map, List.getElem?_map, hx] at hdt
        have hdt : PyData.list (rowW x) = dt := Option.some.inj hdt
        subst hdt
        cases dv with
        | @tup c xs _ fc ec alc =>
        have lx : xs.length = 4 := by
          rw [alc.len]
          rfl
        have sT := same_new (o := .tup [.str x.1, .ref c]) nT
        refine ⟨T, _, rfl, SqT.of upd_same, rfl, _, _, rfl, _, _, rfl, rfl, rfl, ?_⟩
        refine ⟨_, rfl, ⟨_, rfl, c, _, rfl, .inl (SqT.of (sT _ _ (lk.tup (sH3 _ _ e3) (sH3 _ _ ec)))), Nat.le_trans (by rw [List.length_cons, List.length_cons, List.append_nil, lx]; show 6 ≤ 1000; omega) sizeLine_ge, fun r nr => ?_⟩⟩
        have sR := same_new (o := .lst (.str "result" :: .str x.1 :: (xs ++ []))) nr
        refine hq' _ _ (fun b o z => sR _ _ (sT _ _ z)) (.lst (none_of_same sT nr) upd_same (.cons (.str _) (.cons (.str _) ?_)))
        rw [List.append_nil]
        cases alc with
        | cons q1 alc =>
        cases alc with
        | cons q2 alc =>
        cases alc with
        | cons q3 alc =>
        cases alc with
        | cons q4 alc =>
        cases alc
        cases q1
        cases q2
        cases q3
        refine .cons (.str _) (.cons (.str _) (.cons (.int _) (.cons ?_ .nil)))
        have q4 : Dq _ H _ x.2.pr.d := q4
        revert q4
        cases x.2.pr with
        | num i =>
          intro q4
          cases q4
          exact .int i
        | word z =>
          intro q4
          cases q4
          exact .str z
      · intro D4 H4 s4 nD4 dq4
        obtain ⟨acc4, eD4, al4⟩ := dq4
        have len4 : acc4.length = p.rows.length := by
          rw [al4.len, List.length_map, List.length_map]
        refine ⟨D1, D4, acc, acc4, rfl, rfl, s4 _ _ eD3, eD4, by rw [sizeLine_eq]; omega, ?_⟩
        have up5 : ∀ b o, b ≠ D1 → H4 b = some o → upd H4 D1 (.lst (acc ++ acc4)) b = some o := fun b o hb z => by
          rw [upd_ne hb]
          exact z
        have sH5 : Same H (upd H4 D1 (.lst (acc ++ acc4))) := fun b o z => up5 b o (ne_of_none z nD1) (s4 _ _ (sH3 _ _ z))
        have eD5 : upd H4 D1 (.lst (acc ++ acc4)) D1 = some (.lst (acc ++ acc4)) := upd_same
        have n3 : ∀ {b : Addr}, H3 b = none → H b = none ∧ b ≠ D1 := fun {b} f => ⟨none_of_same sH3 f, fun z => by
          rw [z, eD3] at f
          cases f⟩
        have al5 : DqAll (fun b => H b = none ∧ b ≠ D1) (upd H4 D1 (.lst (acc ++ acc4))) (acc ++ acc4) ((p.people.map personW ++ p.labs.map labW ++ p.rows.map rowW).map PyData.list) := by
          rw [List.map_append]
          exact (al3.move (fun _ f => f) fun b o f z => up5 b o f.2 (s4 _ _ z)).app (al4.move (fun b f => n3 f.1) fun b o f z => up5 b o (n3 f.1).2 z)
        generalize hH5 : upd H4 D1 (.lst (acc ++ acc4)) = H5 at *
        have wW : ∀ d ∈ p.facts, (factW d).length ≤ 1000 := fun d hd => (fit.words _ (by
          unfold linesW
          exact List.mem_append_right _ (List.mem_map.mpr ⟨d, hd, rfl⟩))).1
        have aW : ∀ d ∈ p.facts, ∀ x ∈ factW d, isAtom x = true := fun d hd => (fit.words _ (by
          unfold linesW
          exact List.mem_append_right _ (List.mem_map.mpr ⟨d, hd, rfl⟩))).2.1
        have d45 : Da H5 v4 (.tuple p.facts) ∨ Da H5 v4 (.list p.facts) := d4.imp (fun d => d.same sH5) fun d => d.same sH5
        refine ⟨_, rfl, .inl ⟨rfl, _, SqL.of eD5⟩, facts_lc (u := 3) rfl d45 fit.facts (by omega) wW aW (fun x => rfl) (fun x => rfl) fun D6 H6 s6 nD6 dq6 => ?_⟩
        obtain ⟨acc6, eD6, al6⟩ := dq6
        have len5 : (acc ++ acc4).length = p.people.length + p.labs.length + p.rows.length := by
          rw [List.length_append, lenA, len4]
        have len6 : acc6.length = p.facts.length := by
          rw [al6.len, List.length_map, List.length_map]
        refine ⟨D1, D6, acc ++ acc4, acc6, rfl, rfl, s6 _ _ eD5, eD6, by rw [sizeLine_eq]; omega, ?_⟩
        have up7 : ∀ b o, b ≠ D1 → H6 b = some o → upd H6 D1 (.lst (acc ++ acc4 ++ acc6)) b = some o := fun b o hb z => by
          rw [upd_ne hb]
          exact z
        have sH7 : Same H (upd H6 D1 (.lst (acc ++ acc4 ++ acc6))) := fun b o z => up7 b o (ne_of_none z nD1) (s6 _ _ (sH5 _ _ z))
        have eD7 : upd H6 D1 (.lst (acc ++ acc4 ++ acc6)) D1 = some (.lst (acc ++ acc4 ++ acc6)) := upd_same
        have n5 : ∀ {b : Addr}, H5 b = none → H b = none ∧ b ≠ D1 := fun {b} f => ⟨none_of_same sH5 f, fun z => by
          rw [z, eD5] at f
          cases f⟩
        have al7 : DqAll (fun b => H b = none ∧ b ≠ D1) (upd H6 D1 (.lst (acc ++ acc4 ++ acc6))) (acc ++ acc4 ++ acc6) ((linesW p).map PyData.list) := by
          unfold linesW
          rw [List.map_append]
          exact (al5.move (fun _ f => f) fun b o f z => up7 b o f.2 (s6 _ _ z)).app (al6.move (fun b f => n5 f.1) fun b o f z => up7 b o (n5 f.1).2 z)
        generalize upd H6 D1 (.lst (acc ++ acc4 ++ acc6)) = H7 at *
        generalize acc ++ acc4 ++ acc6 = all at *
        have len7 : all.length = (linesW p).length := by
          rw [al7.len, List.length_map]
        have many := fit.many
        refine ⟨⟨_, rfl⟩, ⟨_, rfl, D1, rfl, ⟨_, SqL.of eD7⟩, fun D nD => lc_vals walk_list nD (((linesW p).map lineS).map V.str) (by rw [List.length_map, List.length_map, len7]) (by omega) (fun Hc sc => SqL.of (sc _ _ eD7)) ?_ ?_⟩⟩
        · rintro j x y Hc Hc' k hy sc ⟨rfl, hx⟩ hk
          obtain ⟨dd, hd1, dq⟩ := al7.get hx
          rw [List.getElem?_map, Option.map_eq_some_iff] at hd1
          obtain ⟨l, hl, rfl⟩ := hd1
          rw [List.getElem?_map, List.getElem?_map, hl] at hy
          have hy : V.str (lineS l) = y := Option.some.inj hy
          subst hy
          obtain ⟨w1, w2, w3⟩ := fit.words l (List.mem_of_getElem? hl)
          cases dq with
          | @lst r ws _ fr er alr =>
          obtain ⟨_, ew⟩ := atoms_dq (F' := fun _ => True) (H' := Hc') w2 alr
          have lw : ws.length = l.length := alr.len
          have er' := sc _ _ er
          refine ⟨rfl, ⟨⟨_, rfl⟩, ⟨_, rfl, r, rfl, ⟨_, SqL.of er'⟩, fun D2 nD2 => lc_vals walk_list nD2 ((l.map wordS).map V.str) (by rw [List.length_map, List.length_map, lw]) (by omega) (fun He se => SqL.of (se _ _ er')) ?_ ?_⟩⟩⟩
          · rintro j2 x2 y2 He He' k2' hy2 se ⟨rfl, hx2⟩ hk2
            rw [ew, List.getElem?_map, Option.map_eq_some_iff] at hx2
            obtain ⟨d', hd', rfl⟩ := hx2
            rw [List.getElem?_map, List.getElem?_map, hd'] at hy2
            have hy2 : V.str (wordS d') = y2 := Option.some.inj hy2
            subst hy2
            have at' := w2 d' (List.mem_of_getElem? hd')
            refine ⟨rfl, ⟨_, rfl, ?_⟩⟩
            cases d' with
            | int i => exact .inl ⟨i, rfl, of_decide_eq_true at', hk2 _ (Same.refl _)⟩
            | str z => exact .inr ⟨z, rfl, hk2 _ (Same.refl _)⟩
            | none => cases at'
            | bool _ => cases at'
            | list _ => cases at'
            | tuple _ => cases at'
            | dict _ => cases at'
          · intro He se e2'
            refine ⟨sBlank, D2, l.map wordS, rfl, rfl, .inl (SqL.of e2'), ?_, hk _ se⟩
            rw [show sBlank.length = 1 from by decide +kernel, List.length_map, Nat.mul_one]
            exact w3
        · intro Hc sc eDc
          refine ⟨sFeed, D, (linesW p).map lineS, rfl, rfl, .inl (SqL.of eDc), ?_, hq Hc fun b o z => sc _ _ (sH7 _ _ z)⟩
          rw [show sFeed.length = 1 from by decide +kernel, List.length_map, Nat.mul_one]
          exact fit.all
end
end G

set_option Elab.async false
set_option linter.all false
set_option maxRecDepth 100000
set_option maxHeartbeats 4000000
namespace G
open PySem PySem.Spec PyProof.Rows L2 U
open PySem.W (Frag)
/-! ### Chart.text -/
structure TextT (K : Frag) (C g : Addr) (fd : FuncData) : Prop where
  fn : FunD K "text" "Chart.text" (defArgs s_Chart_text) (defBody s_Chart_text) (defScope s_Chart_text) [] [] g fd
  prop : ∃ p, PropOf K C "text" p g
theorem look1 (v1 v2 v3 v4 : V) : List.lookup ("own_people" : Str) [(("own_people" : Str), v1), (("own_labs" : Str), v2), (("own_rows" : Str), v3), (("own_facts" : Str), v4)] = some v1 := by
  rw [lookup_put, if_pos rfl]
theorem look2 (v1 v2 v3 v4 : V) : List.lookup ("own_labs" : Str) [(("own_people" : Str), v1), (("own_labs" : Str), v2), (("own_rows" : Str), v3), (("own_facts" : Str), v4)] = some v2 := by
  rw [lookup_put, if_neg (by decide +kernel), lookup_put, if_pos rfl]
theorem look3 (v1 v2 v3 v4 : V) : List.lookup ("own_rows" : Str) [(("own_people" : Str), v1), (("own_labs" : Str), v2), (("own_rows" : Str), v3), (("own_facts" : Str), v4)] = some v3 := by
  rw [lookup_put, if_neg (by decide +kernel), lookup_put, if_neg (by decide +kernel), lookup_put, if_pos rfl]
theorem look4 (v1 v2 v3 v4 : V) : List.lookup ("own_facts" : Str) [(("own_people" : Str), v1), (("own_labs" : Str), v2), (("own_rows" : Str), v3), (("own_facts" : Str), v4)] = some v4 := by
  rw [lookup_put, if_neg (by decide +kernel), lookup_put, if_neg (by decide +kernel), lookup_put, if_neg (by decide +kernel), lookup_put, if_pos rfl]
section
variable {P : Program} {w : World} {K : Frag} {mg : Str → Option Value} {base : Heap} {CB C f g : Addr} {fd fd' : FuncData}
def sp_Chart_text (C : Addr) : Sp := fun vs H Q _ => ∃ (v : V) (p : Parts), vs = [v] ∧ ChartIs C H v p ∧ Fits p ∧ RetS H (.str (textOf p)) Q
theorem ok_Chart_text (T : ChartT K mg C f fd) (TT : TextT K C g fd') (hT : Has P w K mg base 1 "text_of" P_text_of [] sp_text_of) : FnOk P w K mg base CX0 2 g fd' P_Chart_text (sp_Chart_text C) := by
  refine TT.fn.ok sc_Chart_text (fun vs H Q E h => ?_) (fun cdv A outer s H vs Q E hr h' => ?_)
  · obtain ⟨v, p, rfl, _⟩ := h
    rfl
  · obtain ⟨v, p, rfl, hc, fit, hq⟩ := h'
    obtain ⟨a, dx, v1, v2, v3, v4, rfl, ea, d1, d2, d3, d4⟩ := hc
    refine ⟨_, PSs.nox (pss_one (ps_ret (pe_has hT hr (pa_cons (pe_fld (pv 0) rfl) (pa_cons (pe_fld (pv 0) rfl) (pa_cons (pe_fld (pv 0) rfl) (pa_cons (pe_fld (pv 0) rfl) pa_nil))))))), ?_⟩
    refine ⟨_, rfl, a, C, dx, _, _, rfl, ea, T.cls, T.n1, look1 _ _ _ _, ?_⟩
    refine ⟨_, rfl, a, C, dx, _, _, rfl, ea, T.cls, T.n2, look2 _ _ _ _, ?_⟩
    refine ⟨_, rfl, a, C, dx, _, _, rfl, ea, T.cls, T.n3, look3 _ _ _ _, ?_⟩
    refine ⟨_, rfl, a, C, dx, _, _, rfl, ea, T.cls, T.n4, look4 _ _ _ _, ?_⟩
    exact ⟨v1, v2, v3, v4, p, rfl, d1, d2, d3, .inl d4, fit, hq⟩
end
end G

set_option Elab.async false
set_option linter.all false
set_option maxRecDepth 100000
set_option maxHeartbeats 4000000
namespace U
open PySem PySem.Spec PyProof.Rows L2 LamX
open PySem.W (Frag)
section
variable {X : Cx} {pins : List (Addr × Obj)} {σ : L2.St} {H : Hp} {s : Shared}
/-- the lambda called in the def that got it; its way out is wished at the names as they stand -/
theorem pe_actS {Eg : XK} {CXg : CXT} {Ng : List Str} {qg : Str} {sg : Scope} {g f c' : Addr} {cdg pm ctv : Value} {params : Arguments} {body : Expr} {scope : Scope} {k i : Nat} {a : Str} {pn : List (Addr × Obj)} {xe : Value → Shared → Prop} {W : WX} {tb : XK → TE} {p1 p2 : Pos}
    (I : Inv X pins σ H s) (L : LamS X.env.scope scope) (lamAt : s.heap.get? f = some (PySem.W.kla_obj "<lambda>" (X.env.qual ++ "<lambda>") params body scope (cloFrom X.env.cells scope.names []) pm c' ctv)) (untr : H f = none) (noFr : f ∉ frs X.stack)
    (bound : bindArgs (PySem.W.kla_fn "<lambda>" (X.env.qual ++ "<lambda>") params body scope (cloFrom X.env.cells scope.names []) pm (.ref c') ctv) ⟨[], []⟩ = pure [])
    (tk : Takes ((cxOf CXg X.prog X.w X.K X.mg X.base Ng qg sg g cdg X.A X.stack s H Eg).tr pn xe) W) (room : Room (k + 1) (X.A.deeper (envOfC qg sg s.heap.objs.size g cdg)))
    (inside : ∀ (A : Around) (outer : List Env) (s : Shared) (H : Hp) (E : XK), Room k (A.deeper (lamEnv X scope s.heap.objs.size f c')) → PE (lamCx X A outer s H E scope f c') body (tb E))
    (hN : Ng[i]? = some a) (hv : Vis sg a) (hd : (a == ("__debug__" : Str)) = false) (hcd : (a == ("__classdict__" : Str)) = false) :
    PE ((cxOf CXg X.prog X.w X.K X.mg X.base Ng qg sg g cdg X.A X.stack s H Eg).tr pn xe) (.Call (.Name a p1) [] [] p2)
      (fun τ G Q => τ[i]? = some (some (.ref f)) ∧ G c' = some (CodeO c' (X.env.qual ++ "<lambda>")) ∧ ∃ (E : XK) (Q' : VK), (∀ cls d G', E cls d G' → W cls d τ G') ∧ (∀ v G', Q' v G' → Q v G') ∧ tb E σ G Q') := by
  refine ⟨fun pz sz τ G Q J want => ?_⟩
  obtain ⟨atF, codeAt, E, Q', hE, hQ, go⟩ := want
  refine wpAny_Call_Name_kw (thn ((pe_var (pos := p1) (i := i) hN hv hd hcd).run pz sz τ G (fun v G1 => v = .ref f ∧ G1 = G) J ⟨.ref f, atF, rfl, rfl⟩) fun u s1 got => ?_)
  obtain ⟨v, G1, J1, r1, ev, eG⟩ := got
  subst ev
  rw [eG] at J1
  obtain rfl : u = Value.ref f := r1
  have stays := J1.base.keep f _ lamAt untr noFr (fun z => nomatch (show f ∈ ([] : List Addr) from z))
  refine PySem.W.callWith_F0 ⟨_, _, _, _, stays⟩ ?_
  have between : Un (frs X.stack) [] H G s.heap s1.heap := J1.base
  obtain ⟨⟨oc, vs, t, hoc, hdc, hvc⟩, _, _⟩ := J1.hok c' _ codeAt
  have runs : codeAny (model X.prog X.w) (X.A.deeper (envOfC qg sg s.heap.objs.size g cdg)) (.call (.ref f) ⟨[], []⟩)
      (CR (L2.CX X.prog X.w) (envOfC qg sg s.heap.objs.size g cdg :: X.stack) X.prog X.w G s1 Q' E) s1 := by
    refine PySem.W.kla_callFunE room.depth stays rfl L.co L.gen rfl ⟨c', oc, vs, t, rfl, hoc, hdc, hvc⟩ ?_
    rw [bound]
    refine wpAny_pure (wpAny_newFunctionEnv (fun y hy => (L.own y hy).2) (fun y hy => absurd hy (by simp)) (fun hNew ns sb => ⟨J1.nolimit.fresh _ sb, ?_⟩) L.kind)
    show codeAny _ _ (.expr body (lamEnv X scope s1.heap.objs.size f c')) _ _
    have kept : ∀ b o, s1.heap.get? b = some o → hNew.get? b = some o := fun b o e =>
      sb.extBut b o (Nat.ne_of_lt (Heap.lt_size e)) (Heap.get?_push_of_some _ e)
    have J2 := lam_start2 (f := f) (c' := c') (E := E) (tk := s1.toks + ([] : List (Str × Value)).length) I L J1.env0 room.hd between ns kept
    refine PySem.W.kla_codeExpr (wpAny_mono ((inside _ _ s1 G E (room.deeper _)).run [] _ _ G Q' J2 go) (fun v s' done => ?_) fun e s' out => out)
    obtain ⟨w', G', J', rv, q⟩ := done
    exact ⟨w', G', J'.os, J'.bare, J'.base, J'.hok, rv, q⟩
  refine wpAny_call (codeAny_mono runs fun r s' out => ?_)
  cases r with
  | error e => exact tk e s' (XE.of_call J1 (fun cls d G' h => hE cls d G' h) out)
  | ok fl =>
    cases fl with
    | ret u =>
      obtain ⟨v, G2, J2, r2, q2⟩ := J1.after out
      exact ⟨v, G2, J2, r2, hQ v G2 q2⟩
    | next => exact False.elim out
    | brk => exact False.elim out
    | cont => exact False.elim out
end
/-- the def that calls what it got -/
def GivesS (X : Cx) (Ng : List Str) (x : Str) (sg : Scope) (g : Addr) (cdg : Value) (bg : List Stmt) (a : Str) (q : Str) (TT : (XK → Hp → VK → Prop) → Hp → VK → Prop) : Prop :=
  ∀ (f c' : Addr) (s : Shared) (H : Hp) (Q : VK) (tl : XK → Hp → VK → Prop),
    (∀ (W : WX) (pn : List (Addr × Obj)) (xe : Value → Shared → Prop) (p1 p2 : Pos), Takes ((cxOf CX0 X.prog X.w X.K X.mg X.base Ng x sg g cdg X.A X.stack s H E0).tr pn xe) W →
      PE ((cxOf CX0 X.prog X.w X.K X.mg X.base Ng x sg g cdg X.A X.stack s H E0).tr pn xe) (.Call (.Name a p1) [] [] p2) (fun τ G Q => τ[0]? = some (some (.ref f)) ∧ G c' = some (CodeO c' q) ∧ ∃ (E : XK) (Q' : VK), (∀ cls d G', E cls d G' → W cls d τ G') ∧ (∀ v G', Q' v G' → Q v G') ∧ tl E G Q')) →
    H c' = some (CodeO c' q) → TT tl H Q →
    ∃ t, PSs (cxOf CX0 X.prog X.w X.K X.mg X.base Ng x sg g cdg X.A X.stack s H E0).nox bg t ∧ t { nx := fun _ H' => Q .non H', rt := Q } (L2.start Ng [.ref f]) H
section
variable {X : Cx}
/-- x(lambda: body) -/
theorem pe_lamS {T : List (Addr × Str)} {TT : (XK → Hp → VK → Prop) → Hp → VK → Prop} {x a : Str} {g c P : Addr} {k : Nat} {pg : Arguments} {bg : List Stmt} {sg : Scope} {fdg : FuncData} {Ng : List Str}
    {params : Arguments} {body : Expr} {scope : Scope} {t : XK → TE} {p lpos pos : Pos} (F : FunD X.K x x pg bg sg [] [] g fdg) (hg : Gl X x) (hm : X.mg x = some (.ref g))
    (hb : L2.Binds X.K fdg [a] []) (Sg : FnScope Ng [a] sg) (hNg : Ng[0]? = some a) (hva : Vis sg a) (hG : ∀ cdg, GivesS X Ng x sg g cdg bg a (X.env.qual ++ "<lambda>") TT)
    (TB : TabB X.base X.mg c P) (hcode : X.env.code = .ref c) (hmT : (P, X.env.qual ++ "<lambda>") ∈ T) (hu : ∀ p ∈ T, p.1 = P → p.2 = X.env.qual ++ "<lambda>") (hr : Room (k + 2) X.A) (L : LamS X.env.scope scope) (hdef : defaultsOf params X.env = ([], []))
    (hbind : ∀ (q : Str) (cl : List (Str × Addr)) (pm cv ctv : Value), bindArgs (PySem.W.kla_fn "<lambda>" q params body scope cl pm cv ctv) ⟨[], []⟩ = pure [])
    (inside : ∀ (A : Around) (outer : List Env) (s : Shared) (H : Hp) (E : XK) (f c' : Addr), Room k (A.deeper (lamEnv X scope s.heap.objs.size f c')) → PE (lamCx X A outer s H E scope f c') body (t E))
    (hdb : (x == ("__debug__" : Str)) = false := by decide) (hd : (a == ("__debug__" : Str)) = false := by decide) (hcd : (a == ("__classdict__" : Str)) = false := by decide) :
    PE X (.Call (.Name x p) [.Lambda params body scope lpos] [] pos) (tLam T TT t) := by
  obtain ⟨oc, od, dV, kV, doc, pm, an, cdv, ct, osl, rfl, lk, hcg, _, _⟩ := F.ex
  refine ⟨fun pins s σ H Q I want => ?_⟩
  obtain ⟨tabs, want⟩ := want
  refine wpAny_Call_Name_kw (ld_glob I hg hm ?_ hdb)
  refine PySem.W.callWith_K (h₀ := X.base) I.ok.mod.kin F.kp ?_ (by rfl) (by rfl)
  show wpAny _ _ (spliced ((false, eval (.Lambda params body scope lpos) X.env) :: backTo pos (starEach [] X.env))) _ _ s
  refine Calls.spliced_cons (lam_make2 I TB hcode hmT hu tabs hdef (L.has I.ok) fun f c' pm' ctv H1 s' I1 eN T1 lamAt untr noFr codeAt => ?_)
  refine Calls.spliced_nil ⟨I1.kIn, ?_⟩
  have runs : codeAny (model X.prog X.w) X.A (.call (.ref g) ⟨[.ref f], []⟩) (CR CX0 X.stack X.prog X.w H1 s' Q E0) s' := by
    refine run_ofS (N := Ng) (ps := [a]) (us := [.ref f]) (vs := [.ref f]) lk hcg Sg hr I1.env0 (hb s' [.ref f] I1.kIn rfl) (.cons rfl .nil) rfl fun room => ?_
    obtain ⟨t', walk, holds⟩ := hG cdv f c' s' H1 Q (fun E H' Q' => t E σ H' Q') (fun W pn xe p1 p2 tk => pe_actS (i := 0) I1 L lamAt untr noFr (hbind _ _ _ _ _) tk room (fun A outer s H E r2 => inside A outer s H E f c' r2) hNg hva hd hcd) codeAt (want H1 eN T1)
    exact ⟨t', walk.nox, holds⟩
  refine wpAny_call (codeAny_mono runs fun r s2 out => ?_)
  cases r with
  | error e => exact (show False from out).elim
  | ok fl =>
    cases fl with
    | ret u => exact I1.after out
    | next => exact False.elim out
    | brk => exact False.elim out
    | cont => exact False.elim out
end
end U

set_option Elab.async false
set_option linter.all false
set_option maxRecDepth 100000
set_option maxHeartbeats 4000000
namespace G
open PySem PySem.Spec PyProof.Rows L2 U
open PySem.W (Frag)
/-! ### _law_caught -/
/-- what the law's own catcher makes of what it looks at: (None, back) or (error, None) -/
def TCaught (K : Frag) (CT : Addr) : (XK → Hp → VK → Prop) → Hp → VK → Prop := fun tl H Q => ∀ H1, Same H H1 →
  tl (fun cls d H' => ∃ C dd, cls = .ref C ∧ d = some dd ∧ PySem.W.exmOne K cls (.ref CT) = some true ∧ ∀ a r, H' a = none → upd H' a (exw a C dd) r = none → Q (.ref r) (upd (upd H' a (exw a C dd)) r (.tup [.ref a, .non]))) H1
    (fun v H' => ∀ r, H' r = none → Q (.ref r) (upd H' r (.tup [.non, v])))
section
variable {X : Cx}
theorem caught_gives {g CT : Addr} {cdg : Value} {q : Str} (hme : X.mg "TableError" = some (.ref CT)) : GivesS X N_Lcaught "_law_caught" (defScope s_Lcaught) g cdg (defBody s_Lcaught) "_law_look" q (TCaught X.K CT) := by
  intro f c' s H Q tl act hc h
  refine ⟨_, pss_cons (ps_asg (pe_tup (pa_cons pe_non (pa_cons pe_non pa_nil))) (pg_tup rfl (pgs_cons (pg_name (i := 1) sc_Lcaught.nd rfl (Or.inl rfl)) (pgs_cons (pg_name (i := 2) sc_Lcaught.nd rfl (Or.inl rfl)) pgs_nil))))
    (pss_cons (ps_try_keep (X := (cxOf CX0 X.prog X.w X.K X.mg X.base N_Lcaught "_law_caught" (defScope s_Lcaught) g cdg X.A X.stack s H E0).nox) (c := .ref CT) (i := 3)
      (tb := fun W D σ H => σ[0]? = some (some (.ref f)) ∧ H c' = some (LamX.CodeO c' q) ∧ ∃ (E : XK) (Q' : VK), (∀ cls d G', E cls d G' → W cls d σ G') ∧ (∀ v G', Q' v G' → D.nx (σ.set 2 (some v)) G') ∧ tl E H Q') (ts := tAsg (tVar 3) (gName 1))
      rfl rfl sc_Lcaught.nd rfl rfl ⟨rfl, by decide, .inl hme⟩ rfl rfl (fun W pn xe tk _ => ?_) (fun a oe pn => pss_one (ps_set (i := 1) sc_Lcaught.nd rfl (Or.inl rfl) (pv 3))))
    (pss_one (ps_ret (pe_tup (pa_cons (pv 1) (pa_cons (pv 2) pa_nil)))))), ?_⟩
  · exact pss_one (ps_set (i := 2) sc_Lcaught.nd rfl (Or.inl rfl) (act W pn xe _ _ tk))
  · refine ⟨Nat.le_trans (by show 2 ≤ 1000; omega) sizeLine_ge, fun r nr => ?_⟩
    have s1 := same_new (o := .tup [.non, .non]) nr
    refine ⟨r, _, rfl, SqT.of upd_same, rfl, _, _, rfl, _, _, rfl, rfl, rfl, s1 _ _ hc, ?_⟩
    refine ⟨_, _, ?_, ?_, h _ s1⟩
    · rintro cls d G' ⟨C, dd, rfl, rfl, hx, k⟩
      refine ⟨C, dd, rfl, rfl, hx, fun a na => ⟨_, rfl, ?_⟩⟩
      exact ⟨_, rfl, _, rfl, Nat.le_trans (by show 2 ≤ 1000; omega) sizeLine_ge, fun r2 nr2 => k a r2 na nr2⟩
    · intro v G' k
      exact ⟨_, rfl, _, rfl, Nat.le_trans (by show 2 ≤ 1000; omega) sizeLine_ge, fun r2 nr2 => k r2 nr2⟩
end
end G

set_option Elab.async false
set_option linter.all false
set_option maxRecDepth 100000
set_option maxHeartbeats 4000000
namespace G
open PySem PySem.Spec PyProof.Rows L2 U
open PySem.W (Frag)
/-! ### a pot of draws -/
def potL (own mix c : Int) : HO := .lst [.int own, .int mix, .int c]
def PotOk (own mix c : Int) (n : Nat) : Prop := 0 ≤ own ∧ 0 ≤ mix ∧ mix < 2305843009213693921 ∧ 0 ≤ c ∧ c ≤ n
def Pot (H : Hp) (p : Addr) (n : Nat) : Prop := ∃ own mix c, H p = some (potL own mix c) ∧ PotOk own mix c n
/-- all is kept but what stands at p -/
def Ext (p : Addr) (H H' : Hp) : Prop := ∀ b o, b ≠ p → H b = some o → H' b = some o
theorem Ext.refl (p : Addr) (H : Hp) : Ext p H H := fun _ _ _ e => e
theorem Ext.trans {p : Addr} {H H1 H2 : Hp} (a : Ext p H H1) (b : Ext p H1 H2) : Ext p H H2 := fun c o hc e => b c o hc (a c o hc e)
theorem Ext.upd (p : Addr) (H : Hp) (o : HO) : Ext p H (upd H p o) := fun b u hb e => by
  rw [upd_ne hb]
  exact e
theorem Ext.of {p : Addr} {H H' : Hp} (s : Same H H') : Ext p H H' := fun b o _ e => s b o e
/-- _law_take(pot, upto): some number below upto; the pot is another one -/
def spTake (n : Nat) : Sp := fun vs H Q _ => ∃ (p : Addr) (u : Int), vs = [.ref p, .int u] ∧ 0 < u ∧ u < 1000000 ∧ n ≤ 100000 ∧ Pot H p n ∧
  ∀ (d : Int) (H' : Hp), 0 ≤ d → d < u → Pot H' p (n + 1) → Ext p H H' → Q (.int d) H'
theorem scTake : FnScope ["_law_pot_here", "_law_upto", "_law_digit", "_law_prime", "_law_mixed"] ["_law_pot_here", "_law_upto"] (defScope s_Ltake) :=
  ⟨rfl, rfl, rfl, by decide +kernel, rfl, by decide +kernel, by decide +kernel⟩
section
variable {P : Program} {w : World} {K : Frag} {mg : Str → Option Value} {base : Heap} {f fT : Addr} {fd fdT : FuncData}
theorem primes (c : Int) (h0 : 0 ≤ c) : ∃ q : Int, 0 < q ∧ q ≤ 2147483647 ∧ atI ([V.int 2147483647, .int 2147483629, .int 2147483587, .int 2147483579, .int 2147483563]) (c % 5) = some (.int q) := by
  have h5 : c % 5 = 0 ∨ c % 5 = 1 ∨ c % 5 = 2 ∨ c % 5 = 3 ∨ c % 5 = 4 := by omega
  rcases h5 with h | h | h | h | h <;> rw [h] <;> exact ⟨_, by decide, by decide, rfl⟩
theorem ok_take (F : FnP K "_law_take" s_Ltake f fd) (gI : mg "int" = none) (n : Nat) : FnOk P w K mg base CX0 1 f fd ["_law_pot_here", "_law_upto"] (spTake n) := by
  refine F.ok scTake (fun vs H Q E h => ?_) (fun cdv A outer s H vs Q E hr h => ?_)
  · obtain ⟨p, u, rfl, _⟩ := h
    rfl
  · obtain ⟨p, u, rfl, hu0, hu1, hn, ⟨own, mix, c, hp, ho, hm0, hm1, hc0, hc1⟩, hq⟩ := h
    refine ⟨_, PSs.nox (pss_cons (ps_if (pt_cmpR op_gt (pe_ix ix_list (pv 0) pe_int (fun _ _ => rfl)) pe_int (nomark _))
      (pss_cons (ps_set (i := 2) scTake.nd rfl (Or.inl rfl) (pe_op op_mod (pe_callTy call_int1 (by rfl) gI PyProof.Rows.boot_int (pa_cons (pe_ix ix_list (pv 0) pe_int (fun _ _ => rfl)) pa_nil)) (pv 1)))
        (pss_cons (ps_asg (pe_op op_fdiv (pe_ix ix_list (pv 0) pe_int (fun _ _ => rfl)) (pv 1)) (pg_sub (pv 0) pe_int set_list))
        (pss_one (ps_ret (pv 2))))) pss_nil)
      (pss_cons (ps_asg (pe_op op_add (pe_ix ix_list (pv 0) pe_int (fun _ _ => rfl)) pe_int) (pg_sub (pv 0) pe_int set_list))
      (pss_cons (ps_set (i := 3) scTake.nd rfl (Or.inl rfl) (pe_ix ix_list (pe_lst (pa_cons pe_int (pa_cons pe_int (pa_cons pe_int (pa_cons pe_int (pa_cons pe_int pa_nil))))))
          (pe_op op_mod (pe_callTy call_int1 (by rfl) gI PyProof.Rows.boot_int (pa_cons (pe_ix ix_list (pv 0) pe_int (fun _ _ => rfl)) pa_nil)) pe_int) (fun _ _ => rfl)))
      (pss_cons (ps_set (i := 4) scTake.nd rfl (Or.inl rfl) (pe_op op_mod (pe_callTy call_int1 (by rfl) gI PyProof.Rows.boot_int (pa_cons (pe_op op_pow (pe_callTy call_int1 (by rfl) gI PyProof.Rows.boot_int (pa_cons
          (pe_op op_add (pe_op op_add (pe_ix ix_list (pv 0) pe_int (fun _ _ => rfl)) (pe_op op_mul (pe_op op_mul pe_int (pe_ix ix_list (pv 0) pe_int (fun _ _ => rfl))) (pe_ix ix_list (pv 0) pe_int (fun _ _ => rfl)))) pe_int) pa_nil)) pe_int) pa_nil)) (pv 3)))
      (pss_cons (ps_set (i := 4) scTake.nd rfl (Or.inl rfl) (pe_op op_mod (pe_callTy call_int1 (by rfl) gI PyProof.Rows.boot_int (pa_cons (pe_op op_mul (pv 4)
          (pe_op op_add (pe_op op_mod (pe_callTy call_int1 (by rfl) gI PyProof.Rows.boot_int (pa_cons (pv 4) pa_nil)) pe_int) (pe_op op_mul pe_int (pe_ix ix_list (pv 0) pe_int (fun _ _ => rfl))))) pa_nil)) pe_int))
      (pss_one (ps_ret (pe_op op_mod (pe_callTy call_int1 (by rfl) gI PyProof.Rows.boot_int (pa_cons (pe_op op_fdiv (pv 4) pe_int) pa_nil)) (pv 1))))))))), ?_⟩
    have hs : SqL K H p [.int own, .int mix, .int c] := .inl (.inl hp)
    refine ⟨_, rfl, p, _, 0, .int own, rfl, rfl, hs, rfl, _, _, rfl, rfl, _, rfl, ?_⟩
    by_cases h0 : (0 : Int) < own
    · rw [decide_eq_true h0]
      refine iteT ?_
      refine ⟨_, rfl, p, _, 0, .int own, rfl, rfl, hs, rfl, .inl ⟨own, rfl, _, rfl, own, u, rfl, rfl, hu0, ?_⟩⟩
      refine ⟨_, rfl, p, _, 0, .int own, rfl, rfl, hs, rfl, _, rfl, own, u, rfl, rfl, ⟨hu0, by omega⟩, ?_⟩
      refine ⟨_, rfl, p, _, 0, 0, rfl, rfl, hp, rfl, ?_⟩
      refine ⟨_, rfl, ?_⟩
      exact hq (own % u) _ (Int.emod_nonneg _ (by omega)) (Int.emod_lt_of_pos _ hu0) ⟨own / u, mix, c, upd_same, Int.ediv_nonneg ho (by omega), hm0, hm1, hc0, by omega⟩ (Ext.upd _ _ _)
    · rw [decide_eq_false h0]
      refine iteF ?_
      refine ⟨_, rfl, p, _, 2, .int c, rfl, rfl, hs, rfl, _, _, rfl, rfl, ?_⟩
      refine ⟨_, rfl, p, _, 2, 2, rfl, rfl, hp, rfl, ?_⟩
      have hp1 : upd H p (.lst (([.int own, .int mix, .int c] : List V).set 2 (.int (c + 1)))) p = some (potL own mix (c + 1)) := upd_same
      have hs1 : SqL K (upd H p (potL own mix (c + 1))) p [.int own, .int mix, .int (c + 1)] := .inl (.inl hp1)
      show tSeq _ _ _ _ (upd H p (potL own mix (c + 1)))
      refine ⟨(show 5 ≤ sizeLine by decide), fun l nl => ?_⟩
      have nlp : l ≠ p := Ne.symm (ne_of_none hp1 nl)
      have hs2 : SqL K (upd (upd H p (potL own mix (c + 1))) l (.lst [.int 2147483647, .int 2147483629, .int 2147483587, .int 2147483579, .int 2147483563])) p [.int own, .int mix, .int (c + 1)] := .inl (.inl (by rw [upd_ne (Ne.symm nlp)]; exact hp1))
      obtain ⟨q, q0, q1, hat⟩ := primes (c + 1) (by omega)
      refine ⟨_, rfl, p, _, 2, .int (c + 1), rfl, rfl, hs2, rfl, .inl ⟨_, rfl, c + 1, 5, rfl, rfl, (by show (0 : Int) < 5; decide), l, _, _, .int q, rfl, rfl, .inl (.inl upd_same), hat, ?_⟩⟩
      have hb : (mix + 102253 * (c + 1) * (c + 1) + 83).natAbs < 2 ^ 64 := by
        have h1 : 102253 * (c + 1) * (c + 1) ≤ 102253 * 100001 * 100001 := by
          have a1 : 102253 * (c + 1) ≤ 102253 * 100001 := by omega
          exact Int.mul_le_mul a1 (by omega) (by omega) (by decide)
        have h2 : 0 ≤ 102253 * (c + 1) * (c + 1) := Int.mul_nonneg (by omega) (by omega)
        omega
      refine ⟨_, rfl, p, _, 1, .int mix, rfl, rfl, hs2, rfl, _, rfl, p, _, 2, .int (c + 1), rfl, rfl, hs2, rfl, _, _, rfl, rfl, .inl ⟨by decide, by decide⟩, _, rfl, p, _, 2, .int (c + 1), rfl, rfl, hs2, rfl, _, _, rfl, rfl, .inr ⟨by omega, by omega⟩,
        _, _, rfl, rfl, _, _, rfl, rfl, .inl ⟨_, rfl, _, _, rfl, rfl, ⟨by decide, by decide, hb⟩, .inl ⟨_, rfl, _, rfl, _, _, rfl, rfl, q0, ?_⟩⟩⟩
      generalize hM : (mix + 102253 * (c + 1) * (c + 1) + 83) ^ (3 : Int).toNat % q = M
      have hM0 : 0 ≤ M := by rw [← hM]; exact Int.emod_nonneg _ (by omega)
      have hM1 : M < 2147483647 := by
        have := Int.emod_lt_of_pos ((mix + 102253 * (c + 1) * (c + 1) + 83) ^ (3 : Int).toNat) q0
        omega
      refine ⟨_, rfl, _, rfl, .inl ⟨_, rfl, _, _, rfl, rfl, (by show (0 : Int) < 10133; decide), _, rfl, p, _, 2, .int (c + 1), rfl, rfl, hs2, rfl, _, _, rfl, rfl, .inl ⟨by decide, by decide⟩, _, _, rfl, rfl, _, _, rfl, rfl, .inl ⟨by omega, by omega⟩,
        .inl ⟨_, rfl, _, _, rfl, rfl, (by show (0 : Int) < 2305843009213693907; decide), ?_⟩⟩⟩
      generalize hZ : M * (M % 10133 + 109 * (c + 1)) % 2305843009213693907 = Z
      refine ⟨_, rfl, _, _, rfl, rfl, ⟨by decide, by decide⟩, .inl ⟨_, rfl, _, rfl, _, _, rfl, rfl, hu0, ?_⟩⟩
      refine hq _ _ (Int.emod_nonneg _ (by omega)) (Int.emod_lt_of_pos _ hu0) ⟨own, mix, c + 1, by rw [upd_ne (Ne.symm nlp)]; exact hp1, ho, hm0, hm1, by omega, by omega⟩ ?_
      exact (Ext.upd p H _).trans fun b o hb' e => same_new nl b o e
end
end G
namespace G
open PySem PySem.Spec PyProof.Rows L2 U
open PySem.W (Frag)
section
variable {P : Program} {w : World} {K : Frag} {mg : Str → Option Value} {base : Heap} {f fT : Addr} {fd fdT : FuncData}
/-- _law_pot(script, k): a new pot -/
def spPot (K : Frag) : Sp := fun vs H Q _ => ∃ (a : Addr) (ns : List Int) (k : Int), vs = [.ref a, .int k] ∧ SqL K H a (ns.map V.int) ∧ 0 ≤ k ∧ k < 1000 ∧
  ∀ (p : Addr) (H' : Hp), H p = none → Pot H' p 0 → Same H H' → Q (.ref p) H'
theorem scPot : FnScope ["_law_script", "_law_k", "_law_cell", "_law_own", "_law_small"] ["_law_script", "_law_k"] (defScope s_Lpot) :=
  ⟨rfl, rfl, rfl, by decide +kernel, rfl, by decide +kernel, by decide +kernel⟩
theorem flag01 (b : Bool) : (-(2 ^ 64) < (if b = true then (1 : Int) else 0) ∧ (if b = true then (1 : Int) else 0) < 2 ^ 64) ∧ (0 : Int) ≤ (if b = true then (1 : Int) else 0) := by
  cases b <;> decide
theorem ok_pot (F : FnP K "_law_pot" s_Lpot f fd) (gI : mg "int" = none) (gL : mg "len" = none) (gA : mg "abs" = none) : FnOk P w K mg base CX0 1 f fd ["_law_script", "_law_k"] (spPot K) := by
  refine F.ok scPot (fun vs H Q E h => ?_) (fun cdv A outer s H vs Q E hr h => ?_)
  · obtain ⟨a, ns, k, rfl, _⟩ := h
    rfl
  · obtain ⟨a, ns, k, rfl, hs, hk0, hk1, hq⟩ := h
    refine ⟨_, PSs.nox (pss_cons (ps_set (i := 2) scPot.nd rfl (Or.inl rfl) (pe_ifExp (pt_cmpR op_lt (pv 1) (pe_callB call_len_seq (by rfl) gL PySem.boot_len (pa_cons (pv 0) pa_nil)) (nomark _))
        (pe_ix ix_list (pv 0) (pv 1) (fun _ _ => rfl)) (pe_op op_add (pe_op op_mul pe_int (pv 1)) pe_int)))
      (pss_cons (ps_set (i := 3) scPot.nd rfl (Or.inl rfl) (pe_op op_mul (pe_op op_mod (pe_callTy call_int1 (by rfl) gI PyProof.Rows.boot_int (pa_cons (pe_callB call_abs (by rfl) gA PyProof.Rows.boot_abs (pa_cons (pv 2) pa_nil)) pa_nil)) (pe_op op_powW (pe_op op_pow pe_int pe_int) pe_int))
        (pe_callTy call_int1 (by rfl) gI PyProof.Rows.boot_int (pa_cons (pe_cmpR op_ge (pe_callB call_abs (by rfl) gA PyProof.Rows.boot_abs (pa_cons (pv 2) pa_nil)) (pe_op op_pow pe_int pe_int) (nomark _)) pa_nil))))
      (pss_cons (ps_set (i := 4) scPot.nd rfl (Or.inl rfl) (pe_op op_mod (pe_callTy call_int1 (by rfl) gI PyProof.Rows.boot_int (pa_cons (pv 2) pa_nil)) pe_int))
      (pss_one (ps_ret (pe_lst (pa_cons (pv 3) (pa_cons (pe_op op_mod (pe_callTy call_int1 (by rfl) gI PyProof.Rows.boot_int (pa_cons (pe_op op_add (pe_op op_add (pe_op op_mul (pv 4) pe_int) (pe_op op_mul (pe_op op_mul pe_int (pv 1)) (pv 1))) pe_int) pa_nil)) pe_int) (pa_cons pe_int pa_nil))))))))), ?_⟩
    have pos300 : (0 : Int) < (10 ^ (60 : Int).toNat) ^ (5 : Int).toNat := by decide +kernel
    have hlen : ((ns.map V.int).length : Int) = (ns.length : Int) := by rw [List.length_map]
    refine ⟨_, rfl, _, rfl, a, _, rfl, .inl hs, _, _, rfl, rfl, _, rfl, ?_⟩
    by_cases h : k < ((ns.map V.int).length : Int)
    all_goals first | rw [decide_eq_true h] | rw [decide_eq_false h]
    · refine iteT ?_
      obtain ⟨cell, hcell⟩ : ∃ cell : Int, ns[k.toNat]? = some cell := ⟨ns[k.toNat]'(by omega), by rw [List.getElem?_eq_getElem]⟩
      have hat : atI (ns.map V.int) k = some (.int cell) := by
        have e : k = ((k.toNat : Nat) : Int) := by omega
        rw [e]
        refine atI_nat ?_
        rw [List.getElem?_map, hcell]
        rfl
      refine ⟨_, rfl, _, rfl, a, _, k, .int cell, rfl, rfl, hs, hat, ?_⟩
      refine ⟨_, rfl, cell, rfl, .inl ⟨_, rfl, _, _, rfl, rfl, ⟨by decide, by decide, by decide⟩, _, _, rfl, rfl, ⟨by decide, by decide +kernel⟩, _, _, rfl, rfl, pos300, _, rfl, cell, rfl, _, _, rfl, rfl, ⟨by decide, by decide, by decide⟩, _, _, rfl, rfl, .inr ⟨_, rfl, _, _, rfl, rfl, .inr (flag01 _).1, ?_⟩⟩⟩
      refine ⟨_, rfl, .inl ⟨cell, rfl, _, _, rfl, rfl, (by show (0 : Int) < 2305843009213693951; decide), ?_⟩⟩
      have sm0 : 0 ≤ (cell) % 2305843009213693951 := Int.emod_nonneg _ (by decide)
      have sm1 : (cell) % 2305843009213693951 < 2305843009213693951 := Int.emod_lt_of_pos _ (by decide)
      refine ⟨_, rfl, _, rfl, _, _, rfl, rfl, .inl ⟨by omega, by omega⟩, _, rfl, _, _, rfl, rfl, .inl ⟨by decide, by decide⟩, _, rfl, _, _, rfl, rfl, .inr ⟨by omega, by omega⟩, _, _, rfl, rfl, _, _, rfl, rfl, .inl ⟨_, rfl, _, _, rfl, rfl, (by show (0 : Int) < 2305843009213693921; decide), (show 3 ≤ sizeLine by decide), fun p np => ?_⟩⟩
      exact hq p _ np ⟨_, _, 0, upd_same, Int.mul_nonneg (Int.emod_nonneg _ (Int.ne_of_gt pos300)) (flag01 _).2, Int.emod_nonneg _ (by decide), Int.emod_lt_of_pos _ (by decide), by decide, by decide⟩ (same_new np)
    · refine iteF ?_
      refine ⟨_, rfl, 47, k, rfl, rfl, .inl ⟨by decide, by decide⟩, _, _, rfl, rfl, ?_⟩
      refine ⟨_, rfl, 47 * k + 37, rfl, .inl ⟨_, rfl, _, _, rfl, rfl, ⟨by decide, by decide, by decide⟩, _, _, rfl, rfl, ⟨by decide, by decide +kernel⟩, _, _, rfl, rfl, pos300, _, rfl, 47 * k + 37, rfl, _, _, rfl, rfl, ⟨by decide, by decide, by decide⟩, _, _, rfl, rfl, .inr ⟨_, rfl, _, _, rfl, rfl, .inr (flag01 _).1, ?_⟩⟩⟩
      refine ⟨_, rfl, .inl ⟨47 * k + 37, rfl, _, _, rfl, rfl, (by show (0 : Int) < 2305843009213693951; decide), ?_⟩⟩
      have sm0 : 0 ≤ (47 * k + 37) % 2305843009213693951 := Int.emod_nonneg _ (by decide)
      have sm1 : (47 * k + 37) % 2305843009213693951 < 2305843009213693951 := Int.emod_lt_of_pos _ (by decide)
      refine ⟨_, rfl, _, rfl, _, _, rfl, rfl, .inl ⟨by omega, by omega⟩, _, rfl, _, _, rfl, rfl, .inl ⟨by decide, by decide⟩, _, rfl, _, _, rfl, rfl, .inr ⟨by omega, by omega⟩, _, _, rfl, rfl, _, _, rfl, rfl, .inl ⟨_, rfl, _, _, rfl, rfl, (by show (0 : Int) < 2305843009213693921; decide), (show 3 ≤ sizeLine by decide), fun p np => ?_⟩⟩
      exact hq p _ np ⟨_, _, 0, upd_same, Int.mul_nonneg (Int.emod_nonneg _ (Int.ne_of_gt pos300)) (flag01 _).2, Int.emod_nonneg _ (by decide), Int.emod_lt_of_pos _ (by decide), by decide, by decide⟩ (same_new np)
end
end G
namespace G
open PySem PySem.Spec PyProof.Rows L2 U
open PySem.W (Frag)
theorem yes_if {σ : L2.St} {H : Hp} {A B : Hp → Prop} (h : A H) : tYes σ H (fun b H3 => if b = true then A H3 else B H3) := (iteT h : if true = true then A H else B H)
theorem Ext.seq {K : Frag} {p a : Addr} {H H' : Hp} {xs : List V} (e : Ext p H H') (h : SqL K H a xs) (hp : a ≠ p) : SqL K H' a xs := by
  rcases h with (h | ⟨o, h⟩) | h
  · exact .inl (.inl (e _ _ hp h))
  · exact .inl (.inr ⟨o, e _ _ hp h⟩)
  · exact .inr h
section
variable {P : Program} {w : World} {K : Frag} {mg : Str → Option Value} {base : Heap} {f fT : Addr} {fd fdT : FuncData}
/-- _law_pots(script, limit): new pots -/
def spPots (K : Frag) : Sp := fun vs H Q _ => ∃ (a : Addr) (ns : List Int) (lim : Int), vs = [.ref a, .int lim] ∧ SqL K H a (ns.map V.int) ∧ 0 ≤ lim ∧ lim < 1000 ∧
  ∀ (l : Addr) (ps : List Addr) (H' : Hp), Same H H' → H' l = some (.lst (ps.map V.ref)) → ps.Nodup → ps.length ≤ 1000 → (∀ p ∈ ps, Pot H' p 0) → Q (.ref l) H'
theorem scPots : FnScope ["_law_script", "_law_limit", "_law_k"] ["_law_script", "_law_limit"] (defScope s_Lpots) := ⟨rfl, rfl, rfl, by decide +kernel, rfl, by decide +kernel, by decide +kernel⟩
theorem ok_pots (F : FnP K "_law_pots" s_Lpots f fd) (FT : FnP K "_law_pot" s_Lpot fT fdT) (gT : mg "_law_pot" = some (.ref fT)) (gI : mg "int" = none) (gL : mg "len" = none) (gA : mg "abs" = none) (gR : mg "range" = none) (gM : mg "max" = none) (gN : mg "min" = none) :
    FnOk P w K mg base CX0 2 f fd ["_law_script", "_law_limit"] (spPots K) := by
  have GT : FnOk P w K mg base CX0 1 fT fdT ["_law_script", "_law_k"] (spPot K) := ok_pot FT gI gL gA
  have bT : Binds K fdT ["_law_script", "_law_k"] [] := FT.bindsN fun _ _ _ _ _ _ us hl => match us, hl with | [_, _], _ => rfl
  refine F.ok scPots (fun vs H Q E h => ?_) (fun cdv A outer s H vs Q E hr h => ?_)
  · obtain ⟨a, ns, lim, rfl, _⟩ := h
    rfl
  · obtain ⟨a, ns, lim, rfl, hs, h0, h1, hq⟩ := h
    refine ⟨_, PSs.nox (pss_one (ps_ret (pe_lc (own := [("_law_k", 2)]) (g := gName 2) (tt := tYes) rfl scPots.nd
      (pi_range1 (by rfl) gR (pa_cons (pe_callB (call_max2 rfl) (by rfl) gM PyProof.Rows.boot_max (pa_cons pe_int (pa_cons (pe_callB (call_min2 rfl) (by rfl) gN (by decide +kernel) (pa_cons (pv 1) (pa_cons (pe_callB call_len_seq (by rfl) gL PySem.boot_len (pa_cons (pv 0) pa_nil)) pa_nil))) pa_nil))) pa_nil))
      (blkOk_by (N := ["_law_script", "_law_limit", "_law_k"]) (sc := defScope s_Lpots) (by decide +kernel)) (fun _ _ _ _ _ => pg_name (i := 2) scPots.nd rfl (Or.inl rfl)) (fun _ _ _ _ _ => pts_nil)
      (fun _ _ _ _ _ => pe_call GT hr (by rfl) gT FT.kp bT .nil pass0 (pa_cons (pv 0) (pa_cons (pv 2) pa_nil)))))), ?_⟩
    refine ⟨_, rfl, _, rfl, a, _, rfl, .inl hs, _, _, rfl, _, _, rfl, ?_⟩
    generalize hM : (if (if ((ns.map V.int).length : Int) < lim then ((ns.map V.int).length : Int) else lim) > 1 then (if ((ns.map V.int).length : Int) < lim then ((ns.map V.int).length : Int) else lim) else 1) = M
    have hM0 : 0 ≤ M ∧ M ≤ 1000 := by
      rw [← hM]
      split <;> split <;> omega
    refine ⟨M, rfl, by omega, by omega, fun D nD => lc_range (lo := 0) (n := M.toNat) (fun i H' => ∃ ps : List Addr, ps.length = i ∧ Same H H' ∧ H' D = some (.lst (ps.map V.ref)) ∧ ps.Nodup ∧ ∀ p ∈ ps, Pot H' p 0) ⟨[], rfl, same_new nD, upd_same, List.nodup_nil, fun p hp => nomatch hp⟩ ?_ ?_⟩
    · rintro i H1 hi ⟨ps, hl, sm, hD, nd, hps⟩
      refine ⟨rfl, yes_if ?_⟩
      refine ⟨_, rfl, _, rfl, a, ns, 0 + i, rfl, sm.seq hs, by omega, by omega, fun p H2 np hp s2 => ⟨ps.map V.ref, s2 _ _ hD, by rw [List.length_map, sizeLine_eq]; omega, ps ++ [p], by rw [List.length_append, hl]; rfl, ?_, ?_, ?_, ?_⟩⟩
      · exact fun b o e => by
          rw [upd_ne (ne_of_none e nD)]
          exact s2 b o (sm b o e)
      · rw [upd_same, List.map_append]
        rfl
      · refine List.nodup_append.mpr ⟨nd, by simp, fun x hx y hy => ?_⟩
        obtain ⟨_, _, _, ho, _⟩ := hps x hx
        rw [List.mem_singleton.mp hy]
        exact ne_of_none ho np
      · intro x hx
        have key : ∀ y : Addr, Pot H2 y 0 → Pot (upd H2 D (.lst (ps.map V.ref ++ [V.ref p]))) y 0 := fun y hy => by
          obtain ⟨o1, m1, c1, e1, ok1⟩ := hy
          have ne : y ≠ D := ne_of e1 (s2 _ _ hD) fun z => by
            have z1 := HO.lst.inj z
            cases ps with
            | nil => cases z1
            | cons q qs =>
              have z2 := (List.cons.inj z1).1
              cases z2
          exact ⟨o1, m1, c1, by rw [upd_ne ne]; exact e1, ok1⟩
        rcases List.mem_append.mp hx with h | h
        · obtain ⟨o1, m1, c1, e1, ok1⟩ := hps x h
          exact key x ⟨o1, m1, c1, s2 _ _ e1, ok1⟩
        · rw [List.mem_singleton.mp h]
          exact key p hp
    · rintro H1 ⟨ps, hl, sm, hD, nd, hps⟩
      exact hq D ps H1 sm hD nd (by omega) hps
end
end G

set_option Elab.async false
set_option linter.all false
set_option maxRecDepth 100000
set_option maxHeartbeats 4000000
namespace G
open PySem PySem.Spec PyProof.Rows L2 U
open PySem.W (Frag)
theorem pot_ne3 {H : Hp} {p l : Addr} {n : Nat} {xs : List V} (h : Pot H p n) (hl : H l = some (.lst xs)) (hx : ∀ i, V.int i ∉ xs) : l ≠ p := by
  obtain ⟨o1, m1, c1, e1, _⟩ := h
  refine ne_of hl e1 fun z => ?_
  have z1 := HO.lst.inj z
  exact hx o1 (by rw [z1]; exact List.mem_cons_self)
theorem Ext.seqT {K : Frag} {p a : Addr} {H H' : Hp} {xs : List V} (e : Ext p H H') (h : SqT K H a xs) (hp : a ≠ p) : SqT K H' a xs := by
  rcases h with (h | ⟨o, h⟩) | h
  · exact .inl (.inl (e _ _ hp h))
  · exact .inl (.inr ⟨o, e _ _ hp h⟩)
  · exact .inr h
theorem erase_perm {α : Type} : ∀ {xs : List α} {j : Nat} (h : j < xs.length), ([xs[j]] ++ xs.eraseIdx j).Perm xs
  | x :: xs, 0, _ => .refl _
  | x :: xs, j + 1, h => by
    have := erase_perm (xs := xs) (j := j) (Nat.lt_of_succ_lt_succ h)
    exact .trans (.swap x _ _) (.cons x this)
section
variable {P : Program} {w : World} {K : Frag} {mg : Str → Option Value} {base : Heap} {f fT fS : Addr} {fd fdT fdS : FuncData}
/-- _law_some(pot, pool, amount): so many of a pool, in some sequence -/
def spSome (K : Frag) (n : Nat) : Sp := fun vs H Q _ => ∃ (p l : Addr) (xs : List V) (m : Nat), vs = [.ref p, .ref l, .int m] ∧ Pot H p n ∧ n + m ≤ 100000 ∧ (SqL K H l xs ∨ SqT K H l xs) ∧ l ≠ p ∧ (∀ i, V.int i ∉ xs) ∧ m ≤ xs.length ∧ xs.length < 1000000 ∧
  ∀ (q : Addr) (ys rest : List V) (H' : Hp), H q = none → H' q = some (.lst ys) → ys.length = m → (ys ++ rest).Perm xs → Pot H' p (n + m) → Ext p H H' → Q (.ref q) H'
theorem ok_some (F : FnP K "_law_some" s_Lsome f fd) (FT : FnP K "_law_take" s_Ltake fT fdT) (gT : mg "_law_take" = some (.ref fT)) (gI : mg "int" = none) (gL : mg "len" = none) (gLi : mg "list" = none) (gR : mg "range" = none) (n : Nat) : FnOk P w K mg base CX0 2 f fd P_Lsome (spSome K n) := by
  have GT : ∀ n, FnOk P w K mg base CX0 1 fT fdT ["_law_pot_here", "_law_upto"] (spTake n) := fun n => ok_take FT gI n
  have GT' : FnOk P w K mg base CX0 1 fT fdT ["_law_pot_here", "_law_upto"] (fun vs H Q E => ∃ n, spTake n vs H Q E) := ⟨fun vs H Q E h => h.elim fun n h => (GT n).len vs H Q E h, fun A outer s H args us vs Q E h1 h2 h3 h4 h5 => h5.elim fun n h5 => (GT n).run A outer s H args us vs Q E h1 h2 h3 h4 h5⟩
  have bT : Binds K fdT ["_law_pot_here", "_law_upto"] [] := FT.bindsN fun _ _ _ _ _ _ us hl => match us, hl with | [_, _], _ => rfl
  refine F.ok sc_Lsome (fun vs H Q E h => ?_) (fun cdv A outer s H vs Q E hr h => ?_)
  · obtain ⟨p, l, xs, m, rfl, _⟩ := h
    rfl
  · obtain ⟨p, l, xs, m, rfl, hp, hn, hl, hlp, hx, hm, hxl, hq⟩ := h
    refine ⟨_, PSs.nox (pss_cons (ps_par (i := 3) (j := 4) (by rfl) sc_Lsome.nd rfl rfl (by decide) rfl rfl (pa_cons (pe_callTy call_list_of (by rfl) gLi (by decide +kernel) (pa_cons (pv 1) pa_nil)) (pa_cons (pe_lst pa_nil) pa_nil)) (by rfl))
      (pss_cons (ps_for PassesOwn.never rfl (pi_range1 (by rfl) gR (pa_cons (pv 2) pa_nil)) (pg_name (i := 5) sc_Lsome.nd rfl (Or.inl rfl))
        (pss_one (ps_expr (pe_bm PySem.F.plainAttrs_list PySem.F.slot_list_append PySem.F.type_list_append mt_append (pv 4) (pa_cons (pe_bm PySem.F.plainAttrs_list PySem.F.slot_list_pop PySem.F.type_list_pop mt_popAt (pv 3)
          (pa_cons (pe_call GT' hr (by rfl) gT FT.kp bT .nil pass0 (pa_cons (pv 0) (pa_cons (pe_callB call_len_seq (by rfl) gL PySem.boot_len (pa_cons (pv 3) pa_nil)) pa_nil))) pa_nil)) pa_nil)))))
      (pss_one (ps_ret (pv 4))))), ?_⟩
    refine ⟨_, rfl, l, xs, rfl, hl, fun a na => ?_⟩
    refine ⟨Nat.zero_le _, fun b nb => ?_⟩
    refine ⟨_, _, rfl, ?_⟩
    have s1 := same_new (o := .lst xs) na
    have s2 := same_new (o := .lst []) nb
    have sA : Same H (upd (upd H a (.lst xs)) b (.lst [])) := fun c o z => s2 _ _ (s1 _ _ z)
    have ea := s2 _ _ (upd_same (H := H) (a := a) (o := .lst xs))
    have eb := upd_same (H := upd H a (.lst xs)) (a := b) (o := .lst [])
    have hp1 : Pot (upd (upd H a (.lst xs)) b (.lst [])) p n := by
      obtain ⟨o1, m1, c1, e1, k1⟩ := hp
      exact ⟨o1, m1, c1, sA _ _ e1, k1⟩
    have nap : a ≠ p := by
      obtain ⟨o1, m1, c1, e1, k1⟩ := hp
      exact Ne.symm (ne_of_none e1 na)
    have nbp : b ≠ p := by
      obtain ⟨o1, m1, c1, e1, k1⟩ := hp
      exact Ne.symm (ne_of_none (s1 _ _ e1) nb)
    have nab : a ≠ b := ne_of_none (upd_same (H := H) (a := a) (o := .lst xs)) nb
    have nHb : H b = none := none_of_same s1 nb
    refine ⟨_, rfl, m, rfl, by omega, by omega, for_range (n := m) (fun i σ Hc => ∃ (o5 : Option V) (ys rest : List V), σ = [some (.ref p), some (.ref l), some (.int m), some (.ref a), some (.ref b), o5] ∧ Hc a = some (.lst rest) ∧ Hc b = some (.lst ys) ∧ ys.length = i ∧ (ys ++ rest).Perm xs ∧ Pot Hc p (n + i) ∧ Ext p H Hc)
      ⟨none, [], xs, rfl, ea, eb, rfl, .refl _, hp1, .of sA⟩ ?_ ?_⟩
    · rintro i σ Hc hi ⟨o5, ys, rest, rfl, ha, hb, hl, hpm, hpt, hx'⟩
      have hlen := hpm.length_eq
      rw [List.length_append] at hlen
      refine ⟨_, rfl, .inl ⟨rfl, _, SqL.of hb⟩, _, rfl, .inl ⟨rfl, _, SqL.of ha⟩, _, rfl, _, rfl, a, _, rfl, .inl (SqL.of ha), n + i, p, _, rfl, by omega, by omega, by omega, hpt, fun d H1 d0 d1 hp2 x2 => ?_⟩
      obtain ⟨j, rfl⟩ : ∃ j : Nat, d = (j : Int) := ⟨d.toNat, by omega⟩
      have hj : j < rest.length := by omega
      refine ⟨a, rest, j, j, rest[j], rfl, rfl, x2 _ _ nap ha, by omega, by omega, ?_, List.getElem?_eq_getElem hj, ?_⟩
      · unfold seqIndex?
        have e1 : ¬ ((j : Int) < 0) := by omega
        simp only [if_neg e1]
        rw [if_pos (by simp [hj])]
        rfl
      have hb2 : upd H1 a (.lst (rest.eraseIdx j)) b = some (.lst ys) := by
        rw [upd_ne (Ne.symm nab)]
        exact x2 _ _ nbp hb
      refine ⟨b, ys, _, rfl, rfl, hb2, by rw [sizeLine_eq]; omega, ?_⟩
      refine ⟨_, ys ++ [rest[j]], rest.eraseIdx j, rfl, ?_, upd_same, ?_, ?_, ?_, ?_⟩
      · rw [upd_ne nab, upd_same]
      · rw [List.length_append, hl]
        rfl
      · rw [List.append_assoc]
        refine .trans (.append_left _ ?_) hpm
        exact erase_perm hj
      · obtain ⟨o1, m1, c1, e1, k1⟩ := hp2
        exact ⟨o1, m1, c1, by rw [upd_ne (Ne.symm nbp), upd_ne (Ne.symm nap)]; exact e1, k1⟩
      · intro c o hc z
        by_cases c1 : c = b
        · rw [c1, nHb] at z
          cases z
        by_cases c2 : c = a
        · rw [c2, na] at z
          cases z
        rw [upd_ne c1, upd_ne c2]
        exact x2 _ _ hc (hx' _ _ hc z)
    · rintro σ Hc ⟨o5, ys, rest, rfl, ha, hb, hl, hpm, hpt, hx'⟩
      exact ⟨_, rfl, hq b ys rest Hc nHb hb hl hpm hpt hx'⟩
end
end G

set_option Elab.async false
set_option linter.all false
set_option maxRecDepth 100000
set_option maxHeartbeats 4000000
namespace G
open PySem PySem.Spec PyProof.Rows L2 U
open PySem.W (Frag)
/-! ### _law_names -/
def poolA : List Str := ["a", "b", "c", "d", "e", "f", "g", "h", "i", "j", "k", "l", "m", "n", "o", "p", "q", "r", "s", "t"]
def poolB : List Str := ["person", "lab", "result", "fact", "low", "high", "normal", "least", "from", "zzzzzzzz", "u", "v"]
def pool : List Str := poolA ++ poolB
def strOf : V → Str
  | .str x => x
  | _ => ""
theorem perm_strs {ys rest : List V} {xs : List Str} (h : (ys ++ rest).Perm (xs.map V.str)) : ∃ ns rs : List Str, ys = ns.map V.str ∧ (ns ++ rs).Perm xs := by
  have all : ∀ v ∈ ys ++ rest, v = V.str (strOf v) := fun v hv => by
    obtain ⟨x, _, rfl⟩ := List.mem_map.mp (h.mem_iff.mp hv)
    rfl
  refine ⟨ys.map strOf, rest.map strOf, ?_, ?_⟩
  · rw [List.map_map]
    refine (List.map_id _).symm.trans (List.map_congr_left fun v hv => ?_)
    exact all v (List.mem_append_left _ hv)
  · rw [← List.map_append]
    have z := h.map strOf
    rw [List.map_map] at z
    have e : (strOf ∘ V.str) = id := rfl
    rw [e, List.map_id] at z
    exact z
section
variable {P : Program} {w : World} {K : Frag} {mg : Str → Option Value} {base : Heap} {f fS : Addr} {fd fdS : FuncData}
def spNames (n : Nat) : Sp := fun vs H Q _ => ∃ (p : Addr) (m : Nat), vs = [.ref p, .int m] ∧ Pot H p n ∧ n + m ≤ 100000 ∧ m ≤ 32 ∧
  ∀ (q : Addr) (ns rest : List Str) (H' : Hp), H q = none → H' q = some (.lst (ns.map V.str)) → ns.length = m → (ns ++ rest).Perm pool → Pot H' p (n + m) → Ext p H H' → Q (.ref q) H'
theorem pool_no : ∀ i, V.int i ∉ poolA.map V.str ++ poolB.map V.str := fun i h => by
  rw [← List.map_append] at h
  obtain ⟨x, _, e⟩ := List.mem_map.mp h
  cases e
theorem ok_names (F : FnP K "_law_names" s_Lnames f fd) (GS : FnOk P w K mg base CX0 2 fS fdS P_Lsome (spSome K n)) (FS : FnP K "_law_some" s_Lsome fS fdS) (gS : mg "_law_some" = some (.ref fS)) : FnOk P w K mg base CX0 3 f fd P_Lnames (spNames n) := by
  have bS : Binds K fdS P_Lsome [] := FS.bindsN fun _ _ _ _ _ _ us hl => match us, hl with | [_, _, _], _ => rfl
  refine F.ok sc_Lnames (fun vs H Q E h => ?_) (fun cdv A outer s H vs Q E hr h => ?_)
  · obtain ⟨p, m, rfl, _⟩ := h
    rfl
  · obtain ⟨p, m, rfl, hp, hn, hm, hq⟩ := h
    refine ⟨_, PSs.nox (pss_cons (ps_set (i := 2) sc_Lnames.nd rfl (Or.inl rfl) (pe_lst (pa_cons pe_str (pa_cons pe_str (pa_cons pe_str (pa_cons pe_str (pa_cons pe_str (pa_cons pe_str (pa_cons pe_str (pa_cons pe_str (pa_cons pe_str (pa_cons pe_str (pa_cons pe_str (pa_cons pe_str (pa_cons pe_str (pa_cons pe_str (pa_cons pe_str (pa_cons pe_str (pa_cons pe_str (pa_cons pe_str (pa_cons pe_str (pa_cons pe_str pa_nil))))))))))))))))))))))
      (pss_cons (ps_set (i := 2) sc_Lnames.nd rfl (Or.inl rfl) (pe_op op_cat (pv 2) (pe_lst (pa_cons pe_str (pa_cons pe_str (pa_cons pe_str (pa_cons pe_str (pa_cons pe_str (pa_cons pe_str (pa_cons pe_str (pa_cons pe_str (pa_cons pe_str (pa_cons pe_str (pa_cons pe_str (pa_cons pe_str pa_nil)))))))))))))))
      (pss_one (ps_ret (pe_call GS hr (by rfl) gS FS.kp bS .nil pass0 (pa_cons (pv 0) (pa_cons (pv 2) (pa_cons (pv 1) pa_nil)))))))), ?_⟩
    refine ⟨Nat.le_trans (by show 20 ≤ 1000; omega) sizeLine_ge, fun a na => ?_⟩
    refine ⟨_, rfl, Nat.le_trans (by show 12 ≤ 1000; omega) sizeLine_ge, fun b nb => ?_⟩
    have s1 := same_new (o := .lst (poolA.map V.str)) na
    have s2 := same_new (o := .lst (poolB.map V.str)) nb
    refine ⟨a, b, poolA.map V.str, poolB.map V.str, rfl, rfl, s2 _ _ upd_same, upd_same, Nat.le_trans (by show 32 ≤ 1000; omega) sizeLine_ge, fun c nc => ?_⟩
    have s3 := same_new (o := .lst (poolA.map V.str ++ poolB.map V.str)) nc
    have sA : Same H (upd (upd (upd H a (.lst (poolA.map V.str))) b (.lst (poolB.map V.str))) c (.lst (poolA.map V.str ++ poolB.map V.str))) := fun x o z => s3 _ _ (s2 _ _ (s1 _ _ z))
    have hp1 : Pot (upd (upd (upd H a (.lst (poolA.map V.str))) b (.lst (poolB.map V.str))) c (.lst (poolA.map V.str ++ poolB.map V.str))) p n := by
      obtain ⟨o1, m1, c1, e1, k1⟩ := hp
      exact ⟨o1, m1, c1, sA _ _ e1, k1⟩
    refine ⟨_, rfl, _, rfl, _, rfl, p, c, poolA.map V.str ++ poolB.map V.str, m, rfl, hp1, hn, .inl (SqL.of upd_same), pot_ne3 hp1 upd_same pool_no, pool_no, (by show m ≤ 32; exact hm), (by show 32 < 1000000; omega), fun q ys rest H' nq eq hl hpm hpt hx => ?_⟩
    rw [← List.map_append] at hpm
    obtain ⟨ns, rs, rfl, hpn⟩ := perm_strs hpm
    rw [List.length_map] at hl
    exact hq q ns rs H' (none_of_same sA nq) eq hl hpn hpt ((Ext.of sA).trans hx)
end
end G

set_option Elab.async false
set_option linter.all false
set_option maxRecDepth 100000
set_option maxHeartbeats 4000000
namespace U
open PySem PySem.Spec PyProof.Rows L2
open PySem.W (Frag)
/-! ### code objects' tables -/
def isTabO : Obj → Bool
  | ⟨.none, none, .fields vs, sl⟩ => vs.isEmpty && sl.isEmpty
  | _ => false
theorem isTabO_ok {o : Obj} (h : isTabO o = true) : o = { cls := .none, data := .fields #[] } := by
  unfold isTabO at h
  split at h
  · rename_i vs sl
    obtain ⟨h1, h2⟩ := He.ba h
    have e1 : vs = #[] := Array.isEmpty_iff.mp h1
    have e2 : sl = #[] := Array.isEmpty_iff.mp h2
    subst e1 e2
    rfl
  · cases h
def codeHdB (K : Frag) (c P : Addr) : Bool := match K.lookup c with
  | some ⟨.type t, _, .fields vs, _⟩ => decide (t = "code") && (decide (vs[11]? = some (.ref P)) && (decide (vs.getD 11 .none = .ref P) && ((match vs.getD 18 .none with
      | .str _ _ => true
      | _ => false) && ((match vs.getD 7 .none with
      | .int _ _ => true
      | _ => false) && ((match vs.getD 9 .none with
      | .bool _ => true
      | _ => false) && ((match vs.getD 10 .none with
      | .int _ _ => true
      | _ => false) && decide (c ≠ P)))))))
  | _ => false
theorem codeHdB_ok {K : Frag} {h : Heap} {c P : Addr} (X : K.In h) (b : codeHdB K c P = true) : PySem.W.CodeHd h c P := by
  unfold codeHdB at b
  split at b
  · rename_i t od vs sl hc
    obtain ⟨b1, b⟩ := He.ba b
    obtain ⟨b2, b⟩ := He.ba b
    obtain ⟨b3, b⟩ := He.ba b
    obtain ⟨b4, b⟩ := He.ba b
    obtain ⟨b5, b⟩ := He.ba b
    obtain ⟨b6, b⟩ := He.ba b
    obtain ⟨b7, b8⟩ := He.ba b
    have e1 : t = "code" := of_decide_eq_true b1
    subst e1
    split at b4
    · rename_i file tf h4
      split at b5
      · rename_i fl tg h5
        split at b6
        · rename_i inF h6
          split at b7
          · rename_i tx tt h7
            exact ⟨_, vs, file, tf, fl, tg, inF, tx, tt, X c _ hc, rfl, rfl, of_decide_eq_true b2, of_decide_eq_true b3, h4, h5, h6, h7, of_decide_eq_true b8⟩
          · cases b7
        · cases b6
      · cases b5
    · cases b4
  · cases b
def codeAt (K : Frag) (f : Addr) : Value := match K.lookup f with
  | some ⟨_, _, .func fd, _⟩ => fd.code
  | _ => .none
/-- the def x has a code object with an empty table, which K leaves out -/
def tabOkB (g : Addr → Option Obj) (K : Frag) (x : Str) : Bool := match PySem.W.tabIn K x with
  | some (c, P) => (match g P with
    | some o => isTabO o
    | none => false) && (codeHdB K c P && (decide (codeAt K (He.ga K x) = .ref c) && (K.lookup P).isNone))
  | none => false
theorem tabOkB_ok {K : Frag} {h : Heap} {x : Str} (X : K.In h) (b : tabOkB h.get? K x = true) :
    ∃ c P, codeAt K (He.ga K x) = .ref c ∧ PySem.W.CodeHd h c P ∧ h.get? P = some { cls := .none, data := .fields #[] } ∧ K.lookup P = none := by
  unfold tabOkB at b
  split at b
  · rename_i c P ht
    obtain ⟨b1, b⟩ := He.ba b
    obtain ⟨b2, b⟩ := He.ba b
    obtain ⟨b3, b4⟩ := He.ba b
    split at b1
    · rename_i o ho
      exact ⟨c, P, of_decide_eq_true b3, codeHdB_ok X b2, by rw [← isTabO_ok b1]; exact ho, Option.isNone_iff_eq_none.mp b4⟩
    · cases b1
  · cases b
/-! ### defs and properties at an address -/
def fnAt (K : Frag) (f : Addr) : He.FnW := match K.lookup f with
  | some ⟨_, _, .func fd, _⟩ => some (fd.name, fd.qualname, fd.params, fd.body, fd.scope, fd.globals, fd.closure, fd.builtins)
  | _ => none
def okAt (K : Frag) (f : Addr) (qual : Str) : Bool := PySem.W.keepIn K (.ref f) && (match K.lookup f with
  | some ⟨_, _, .func fd, _⟩ => PySem.W.codeIn K fd.code qual && (He.dflB K fd.defaults [] && He.kwdB K fd.kwdefaults [])
  | _ => false)
theorem funAt {K : Frag} {f : Addr} {name qual : Str} {params : Arguments} {body : List Stmt} {scope : Scope} (e : fnAt K f = some (name, qual, params, .stmts body, scope, mainGlobals, [], builtinsNs)) (c : okAt K f qual = true) : ∃ fd, FunD K name qual params body scope [] [] f fd := by
  obtain ⟨kp, c2⟩ := He.ba c
  unfold fnAt at e
  cases q : K.lookup f with
  | none =>
    rw [q] at c2
    cases c2
  | some o =>
    obtain ⟨oc, od, dt, osl⟩ := o
    rw [q] at c2 e
    cases dt with
    | func fd =>
      obtain ⟨n1, n2, n3, n4, n5, n6, n7, n8, n9, n10, n11, n12, n13, n14, n15⟩ := fd
      have e2 : (some (n1, n2, n3, n4, n5, n6, n7, n15) : He.FnW) = some (name, qual, params, .stmts body, scope, mainGlobals, [], builtinsNs) := e
      simp only [Option.some.injEq, Prod.mk.injEq] at e2
      obtain ⟨h1, h2, h3, h4, h5, h6, h7, h8⟩ := e2
      subst h1 h2 h3 h4 h5 h6 h7 h8
      have c3 : (PySem.W.codeIn K n13 n2 && (He.dflB K n8 [] && He.kwdB K n9 [])) = true := c2
      obtain ⟨k1, k2⟩ := He.ba c3
      obtain ⟨k3, k4⟩ := He.ba k2
      exact ⟨_, ⟨oc, od, n8, n9, n10, n11, n12, n13, n14, osl, rfl, q, k1, He.dflB_ok k3, He.kwdB_ok k4⟩, kp⟩
    | _ => cases c2
def propA (K : Frag) (C : Addr) (f : Str) : Addr × Addr := match PySem.W.findIn K (.ref C) f with
  | some (some (.ref p)) => (match PySem.W.recIn K p "property" with
    | some (.ref g :: _) => (p, g)
    | _ => (0, 0))
  | _ => (0, 0)
def propB (K : Frag) (C : Addr) (f : Str) : Bool := decide (PySem.W.findIn K (.ref C) f = some (some (.ref (propA K C f).1))) && (decide (PySem.W.specialIn K (.ref (propA K C f).1) "__get__" = some (some (.builtin "property.__get__"))) && (decide (PySem.W.takesIn K (.ref (propA K C f).1) = some true) &&
  (match PySem.W.recIn K (propA K C f).1 "property" with
    | some (.ref g :: _) => decide (g = (propA K C f).2)
    | _ => false)))
theorem propB_ok {K : Frag} {C : Addr} {f : Str} (h : propB K C f = true) : PropOf K C f (propA K C f).1 (propA K C f).2 := by
  unfold propB at h
  obtain ⟨h1, h⟩ := He.ba h
  obtain ⟨h2, h⟩ := He.ba h
  obtain ⟨h3, h4⟩ := He.ba h
  refine ⟨of_decide_eq_true h1, of_decide_eq_true h2, of_decide_eq_true h3, ?_⟩
  split at h4
  · rename_i g rest hr
    rw [← of_decide_eq_true h4]
    exact ⟨rest, hr⟩
  · cases h4
def slotB (K : Frag) (C : Addr) (f : Str) (i : Nat) : Bool := decide (PySem.W.findIn K (.ref C) f = some (some (.ref (He.ma K C f)))) && (decide (PySem.W.specialIn K (.ref (He.ma K C f)) "__get__" = some (some (.builtin "member_descriptor.__get__"))) && (decide (PySem.W.takesIn K (.ref (He.ma K C f)) = some true) &&
  (decide (PySem.W.typeIn K (.ref (He.ma K C f)) = some (.type "member_descriptor")) && (decide (PySem.W.slotIn K (He.ma K C f) C = some i) && decide (i < 1000)))))
theorem slotB_ok {K : Frag} {C : Addr} {f : Str} {i : Nat} (h : slotB K C f i = true) : SlX.Slot1 K C f (He.ma K C f) i := by
  unfold slotB at h
  obtain ⟨h1, h⟩ := He.ba h
  obtain ⟨h2, h⟩ := He.ba h
  obtain ⟨h3, h⟩ := He.ba h
  obtain ⟨h4, h⟩ := He.ba h
  obtain ⟨h5, h6⟩ := He.ba h
  exact ⟨of_decide_eq_true h1, of_decide_eq_true h2, of_decide_eq_true h3, of_decide_eq_true h4, of_decide_eq_true h5, of_decide_eq_true h6⟩
def sclsB (K : Frag) (C : Addr) : Bool := PySem.W.plainGet K C Str.empty && (PySem.W.isClsIn K C && (PySem.W.plainOver K C && decide (PySem.W.findIn K (.ref C) "__setattr__" = some (some (.builtin "object.__setattr__")))))
theorem sclsB_ok {K : Frag} {C : Addr} (h : sclsB K C = true) : SlX.SCls K C := by
  unfold sclsB at h
  obtain ⟨h1, h⟩ := He.ba h
  obtain ⟨h2, h⟩ := He.ba h
  obtain ⟨h3, h4⟩ := He.ba h
  exact ⟨h1, h2, h3, of_decide_eq_true h4⟩
/-! ### the hook -/
def isCode : Value → Bool
  | .type t => decide (t = "code")
  | _ => false
/-- what an object names, code objects being leaves -/
def refsW (o : Obj) : List Addr := match o.data with
  | .seq its _ => its.toList.flatMap He.refV
  | .dict es _ => es.toList.flatMap fun e => He.refV e.val
  | .func fd => He.refV fd.code ++ (He.refV fd.defaults ++ (He.refV fd.kwdefaults ++ fd.closure.map (·.2)))
  | .cls cd => cd.ns :: cd.mro.flatMap He.refV
  | .fields vs => if isCode o.cls = true then [] else vs.toList.flatMap He.refV
  | .cell (some v) => He.refV v
  | _ => []
def nextA (g : Addr → Option Obj) (as : List Addr) : List Addr := as.flatMap fun a => match g a with
  | some o => refsW o
  | none => []
def asW (g : Addr → Option Obj) : Nat → List Addr → List Addr
  | 0, as => as
  | n + 1, as => as ++ asW g n (nextA g as).eraseDups
def asV (g : Addr → Option Obj) (n : Nat) : List Addr := asW g n [mainGlobals] ++ [cStatics, sysModules]
abbrev AlV : Type := He.AlT × Bool × FnC × List He.FnW × Bool
def obsK (fa : List He.Fa) (fn : List He.DefD) (ts : List He.Tab) (ex : Frag → Bool) (fc : Frag → FnC) (gf : List (Frag → Addr)) (lams : List Str) (g : Addr → Option Obj) (K : Frag) : AlV :=
  (He.obsT fa fn ts K, ex K, fc K, gf.map (fun f => fnAt K (f K)), lams.all (tabOkB g K))
def obsV (n : Nat) (fa : List He.Fa) (fn : List He.DefD) (ts : List He.Tab) (ex : Frag → Bool) (fc : Frag → FnC) (gf : List (Frag → Addr)) (lams : List Str) (g : Addr → Option Obj) : AlV := obsK fa fn ts ex fc gf lams g (He.frG g (asV g n))
structure SaysV (fa : List He.Fa) (fn : List He.DefD) (ts : List He.Tab) (ex : Frag → Bool) (fc : Frag → FnC) (vc : FnC) (gf : List (Frag → Addr)) (gv : List He.FnW) (lams : List Str) (w : World) (h : Heap) (K : Frag) : Prop where
  in_ : K.In h
  t : He.SaysT fa fn ts w K
  ex : ex K = true
  fc : fc K = vc
  gf : gf.map (fun f => fnAt K (f K)) = gv
  lam : ∀ x ∈ lams, ∃ c P, codeAt K (He.ga K x) = .ref c ∧ PySem.W.CodeHd h c P ∧ h.get? P = some { cls := .none, data := .fields #[] } ∧ K.lookup P = none
def hookV (n : Nat) (fa : List He.Fa) (fn : List He.DefD) (ts : List He.Tab) (ex : Frag → Bool) (fc : Frag → FnC) (vc : FnC) (gf : List (Frag → Addr)) (gv : List He.FnW) (lams : List Str) : PySem.W.Hook where
  α := AlV
  obs := fun s => obsV n fa fn ts ex fc gf lams s.heap.get?
  val := fun w => (He.valT fn ts w, true, vc, gv, true)
  says := fun w h => ∃ K : Frag, SaysV fa fn ts ex fc vc gf gv lams w h K
  of := fun w s e => by
    refine ⟨_, He.frG_in, congrArg (fun z : AlV => z.1) e, congrArg (fun z : AlV => z.2.1) e, congrArg (fun z : AlV => z.2.2.1) e, congrArg (fun z : AlV => z.2.2.2.1) e, fun x hx => ?_⟩
    have b : lams.all (tabOkB s.heap.get? (He.frG s.heap.get? (asV s.heap.get? n))) = true := congrArg (fun z : AlV => z.2.2.2.2) e
    exact tabOkB_ok He.frG_in (List.all_eq_true.mp b x hx)
  keeps := fun _ _ _ ⟨K, c⟩ k => ⟨K, PySem.W.Frag.In.keeps c.in_ k, c.t, c.ex, c.fc, c.gf, fun x hx => by
    obtain ⟨a, P, h1, h2, h3, h4⟩ := c.lam x hx
    exact ⟨a, P, h1, h2.keeps k, k _ _ h3, h4⟩⟩
theorem obsV_eq {n : Nat} {fa : List He.Fa} {fn : List He.DefD} {ts : List He.Tab} {ex : Frag → Bool} {fc : Frag → FnC} {vc : FnC} {gf : List (Frag → Addr)} {gv : List He.FnW} {lams : List Str} {g : Addr → Option Obj} {s : Shared} (h : ∀ a, g a = s.heap.get? a) : obsV n fa fn ts ex fc gf lams g = (hookV n fa fn ts ex fc vc gf gv lams).obs s := by
  have e : g = s.heap.get? := funext h
  subst e
  rfl
end U

set_option Elab.async false
set_option linter.all false
set_option maxRecDepth 100000
set_option maxHeartbeats 4000000
namespace U
open PySem PySem.Spec PyProof.Rows L2
open PySem.W (Frag)
section
variable {P : Program} {w : World} {K : Frag} {mg : Str → Option Value} {base : Heap} {x qual : Str} {params : Arguments} {body : List Stmt} {scope : Scope} {dvs : List V} {kws : List (Str × V)} {f : Addr} {fd : FuncData}
/-- a def's promise, its code object being told -/
theorem okC {CX : CXT} {N ps : List Str} {k : Nat} {sp : Sp} (F : FunD K x qual params body scope dvs kws f fd) (S : FnScope N ps scope) (len : ∀ vs H Q E, sp vs H Q E → vs.length = ps.length)
    (hbody : ∀ (A : Around) (outer : List Env) (s : Shared) (H : Hp) (vs : List V) (Q : VK) (E : XK), Room k (A.deeper (envOfC qual scope s.heap.objs.size f (codeAt K f))) → sp vs H Q E →
      ∃ t, PSs (cxOf CX P w K mg base N qual scope f (codeAt K f) A outer s H E) body t ∧ t { nx := fun _ H' => Q .non H', rt := Q } (start N vs) H) : FnOk P w K mg base CX (k + 1) f fd ps sp := by
  obtain ⟨oc, od, dV, kV, doc, pm, an, cdv, ct, osl, rfl, lk, hcd, _, _⟩ := F.ex
  have e : codeAt K f = cdv := by
    unfold codeAt
    rw [lk]
  rw [e] at hbody
  exact fn_of lk hcd S len fun A outer s H vs Q E hr hsp => hbody A outer s H vs Q E hr hsp
end
end U
namespace G
open PySem PySem.Spec PyProof.Rows L2 U
open PySem.W (Frag)
/-! ### _law_is -/
def textR (rows : List Str) : Str := Txt.join sFeed rows
/-- rows are a chart, or refused by the number of a line -/
def Right (rows : List Str) (line : Nat) : Prop := TextOk (textR rows) ∧ (rows.map (·.length)).sum + rows.length ≤ 16777216 ∧ line ≤ 1000 ∧
  ((line = 0 ∧ ∃ p, readText (textR rows) = .inr p ∧ Fits p ∧ textOf p = textR rows) ∨ (line ≠ 0 ∧ readText (textR rows) = .inl line))
theorem extN_sqL {K : Frag} {H H' : Hp} {a : Addr} {xs : List V} (h : SqL K H a xs) (e : LamX.ExtN H H') : SqL K H' a xs := by
  rcases h with (h | ⟨o, h⟩) | h
  · exact .inl (.inl (e _ _ h fun ps z => by cases z))
  · exact .inl (.inr ⟨o, e _ _ h fun ps z => by cases z⟩)
  · exact .inr h
abbrev scIs : Scope := { kind := .function, names := [("_law_rows", .free), ("Chart", .globalImplicit)], isGenerator := false, isCoroutine := false }
theorem lamIs : LamX.LamS (defScope s_Lis) scIs := LamX.lamS_by (by decide +kernel)
def lamOf : Stmt → Expr
  | .Assign _ (.Call _ [.Lambda _ b _ _] _ _) _ => b
  | _ => .Constant .none 0 ⟨0, 0, 0, 0⟩
abbrev bIs : Expr := lamOf ((defBody s_Lis).getD 0 (.Pass ⟨0, 0, 0, 0⟩))
abbrev qIs : Str := (envOfC "_law_is" (defScope s_Lis) 0 0 .none).qual ++ "<lambda>"
section
variable {P : Program} {w : World} {K : Frag} {mg : Str → Option Value} {base : Heap} {f fC D fI CB CT C fN g c Pt : Addr} {fd fdC fdN fdg : FuncData}
def spIs (K : Frag) (Pt : Addr) : Sp := fun vs H Q _ => ∃ (a : Addr) (rows : List Str) (line : Nat), vs = [.ref a, .int line] ∧ SqL K H a (rows.map V.str) ∧ Right rows line ∧ LamX.Tabs [(Pt, qIs)] H ∧
  ∀ H', LamX.ExtN H H' → LamX.Tabs [(Pt, qIs)] H' → Q (.bl true) H'
def tJoin (K : Frag) (i : Nat) : TE := tM1 (fun x xs H Q => ∃ a p, ∃ ys : List Str, x = .str a ∧ xs = [.ref p] ∧ (SqL K H p (ys.map V.str) ∨ SqT K H p (ys.map V.str)) ∧ (ys.map (·.length)).sum + ys.length * a.length ≤ 16777216 ∧ Q (.str (Txt.join a ys)) H) (tC (.str sFeed)) (tVar i)
theorem lam_body {X0 : Cx} {A : Around} {outer : List Env} {s : Shared} {H : Hp} {E : XK} {f c' : Addr} (hP : X0.prog = P) (hw : X0.w = w) (hK : X0.K = K ∧ X0.mg = mg) (hb : X0.base = base ∧ X0.N = N_Lis) (hr : Room 9 (A.deeper (LamX.lamEnv X0 scIs s.heap.objs.size f c'))) (TC : ChartT K mg C fN fdN) (bN : Binds K fdN P_Chart_init []) (hT : HasX P w K mg base 7 "read_text" P_read_text (sp_read_text CB)) :
    PE (LamX.lamCx X0 A outer s H E scIs f c') bIs (tMake C (sp_Chart_init C CB) [] E (tCons (tJoin K 0) tNil)) := by
  subst hP hw
  obtain ⟨rfl, rfl⟩ := hK
  obtain ⟨rfl, hN⟩ := hb
  refine pe_make (X := LamX.lamCx X0 A outer s H E scIs f c') TC.makes (ok_Chart_init TC hT) hr (by rfl) TC.g bN .nil (passes_call (E := E) (takes_of rfl rfl rfl rfl) fun _ _ _ _ h => h) ?_
  refine pa_cons (pe_join pe_str (pe_var (i := 0) ?_ (.inr (.inr rfl)))) pa_nil
  show X0.N[0]? = _
  rw [hN]
  rfl
theorem ok_is (F : FnP K "_law_is" s_Lis f fd) (FC : FnP K "_law_caught" s_Lcaught fC fdC) (gC : mg "_law_caught" = some (.ref fC)) (mT : mg "TableError" = some (.ref CT)) (mB : mg "BadChart" = some (.ref CB)) (T : InitTxt P K D fI) (TB : ErrC K D fI CB)
    (kB : PySem.W.kitOne K (.ref CB) (.ref CB) = some true) (xB : PySem.W.exmOne K (.ref CB) (.ref CT) = some true) (TC : ChartT K mg C fN fdN) (TT : TextT K C g fdg) (hT : HasX P w K mg base 7 "read_text" P_read_text (sp_read_text CB)) (hX : Has P w K mg base 1 "text_of" P_text_of [] sp_text_of)
    (gI : mg "isinstance" = none) (gR : mg "repr" = none) (hc : codeAt K f = .ref c) (tb : LamX.TabB base mg c Pt) : FnOk P w K mg base CX0 12 f fd P_Lis (spIs K Pt) := by
  have bC : Binds K fdC ["_law_look"] [] := FC.bindsN fun _ _ _ _ _ _ us hl => match us, hl with | [_], _ => rfl
  have bN : Binds K fdN P_Chart_init [] := TC.fn.bindsN fun _ _ _ _ _ _ us hl => match us, hl with | [_, _], _ => rfl
  have bg : Binds K fdg P_Chart_text [] := TT.fn.bindsN fun _ _ _ _ _ _ us hl => match us, hl with | [_], _ => rfl
  obtain ⟨pp, hp⟩ := TT.prop
  refine okC F sc_Lis (fun vs H Q E h => ?_) (fun A outer s H vs Q E hr h => ?_)
  · obtain ⟨a, rows, line, rfl, _⟩ := h
    rfl
  · obtain ⟨a, rows, line, rfl, hs, ⟨tok, tjn, tln, hR⟩, tabs, hq⟩ := h
    refine ⟨_, PSs.nox (pss_cons (ps_asg (pe_lamS (T := [(Pt, qIs)]) (body := bIs) (scope := scIs) (k := 9) FC (by rfl) gC bC sc_Lcaught rfl (.inl rfl) (fun cdg => caught_gives mT) tb hc (List.mem_singleton.mpr rfl) (fun p hp _ => by cases List.mem_singleton.mp hp; rfl) hr lamIs rfl (fun _ _ _ _ _ => rfl)
        (fun A outer s H E f c' hr2 => lam_body rfl rfl ⟨rfl, rfl⟩ ⟨rfl, rfl⟩ hr2 TC bN hT))
        (pg_tup rfl (pgs_cons (pg_name (i := 2) sc_Lis.nd rfl (Or.inl rfl)) (pgs_cons (pg_name (i := 3) sc_Lis.nd rfl (Or.inl rfl)) pgs_nil))))
      (pss_cons (ps_if (pt_cmpR op_eq (pv 1) pe_int (nomark _)) (pss_one (ps_ret (pe_and (pe_cmp (pc_isN (pv 2)) rfl) (pe_one (pe_cmpR op_eq (pe_prop (pv 3) TC.cls hp (ok_Chart_text TC TT hX) (hr.mono (by decide)) bg .nil pass0 rfl) (pe_join pe_str (pv 0)) (nomark _)))))) pss_nil)
      (pss_one (ps_ret (pe_and (pe_callB (call_isW (D := D) (fI := fI)) (by rfl) gI (by decide +kernel) (pa_cons (pv 2) (pa_cons (pe_glob (by rfl) mB (v := .ref CB) rfl) pa_nil)))
        (pe_one (pe_cmpR op_eq (pe_callB SkE.call_repr_int (by rfl) gR (by decide +kernel) (pa_cons (pe_errW (D := D) (fI := fI) (pv 2)) pa_nil)) (pe_callB SkE.call_repr_int (by rfl) gR (by decide +kernel) (pa_cons (pv 1) pa_nil)) (nomark _)))))))), ?_⟩
    refine ⟨tabs, fun H1 e1 t1 H2 s2 => ?_⟩
    have hs1 := extN_sqL hs e1
    have hs2 := sqL_same hs1 s2
    have bd : (rows.map (·.length)).sum + rows.length * sFeed.length ≤ 16777216 := by
      rw [show sFeed.length = 1 from rfl, Nat.mul_one]
      exact tjn
    refine ⟨⟨_, rfl⟩, _, rfl, sFeed, a, rows, rfl, rfl, .inl hs2, bd, fun x dx nx ndx nxd => ?_⟩
    have s3 : Same H2 (upd (upd H2 dx (.own x)) x (.ins C dx [])) := fun b o z => by
      rw [upd_ne (ne_of_none z nx), upd_ne (ne_of_none z ndx)]
      exact z
    refine ⟨fun _ => True, x, dx, _, .str (textR rows), rfl, upd_same, .str _, tok, ?_⟩
    rcases hR with ⟨rfl, p, er, fit, et⟩ | ⟨hl, er⟩
    · rw [er]
      intro H4 sb ch
      have s4 : Same H2 H4 := fun b o z => sb b o (ne_of_none z nx) (s3 b o z)
      refine ⟨rfl, fun r nr => ?_⟩
      have s5 := same_new (o := .tup [.non, .ref x]) nr
      have sA : Same H1 (upd H4 r (.tup [.non, .ref x])) := fun b o z => s5 _ _ (s4 _ _ (s2 _ _ z))
      refine ⟨r, _, rfl, SqT.of upd_same, rfl, _, _, rfl, _, _, rfl, rfl, ?_⟩
      refine ⟨_, rfl, rfl, _, rfl, ?_⟩
      refine iteT ?_
      refine ⟨_, rfl, true, rfl, ?_⟩
      refine iteT ?_
      obtain ⟨a', dx', v1, v2, v3, v4, ea, hx, d1, d2, d3, d4⟩ := ch
      cases ea
      refine ⟨_, rfl, x, dx', _, rfl, s5 _ _ hx, .ref x, p, rfl, ⟨x, dx', v1, v2, v3, v4, rfl, s5 _ _ hx, d1.same s5, d2.same s5, d3.same s5, d4.same s5⟩, fit, fun H6 s6 => ?_⟩
      refine ⟨⟨_, rfl⟩, _, rfl, sFeed, a, rows, rfl, rfl, .inl (sqL_same (sqL_same hs1 sA) s6), bd, rfl, ?_⟩
      rw [et]
      have e : decide (V.str (textR rows) = V.str (Txt.join sFeed rows)) = true := decide_eq_true rfl
      rw [e]
      exact hq H6 (e1.trans (LamX.ExtN.of fun b o z => s6 _ _ (sA _ _ z))) (t1.ext fun b o z => s6 _ _ (sA _ _ z))
    · rw [er]
      intro H4 d s4 nd
      refine ⟨CB, d, rfl, rfl, xB, fun b r nb nr => ?_⟩
      have u1 : Same H4 (upd H4 d (xdV (.int line))) := same_new nd
      have u2 := same_new (o := exw b CB d) nb
      have u3 := same_new (o := .tup [.ref b, .non]) nr
      have sA : Same H1 (upd (upd (upd H4 d (xdV (.int line))) b (exw b CB d)) r (.tup [.ref b, .non])) := fun y o z => u3 _ _ (u2 _ _ (u1 _ _ (s4 _ _ (s3 _ _ (s2 _ _ z)))))
      refine ⟨r, _, rfl, SqT.of upd_same, rfl, _, _, rfl, _, _, rfl, rfl, ?_⟩
      refine ⟨_, rfl, rfl, _, rfl, ?_⟩
      have e0 : decide (V.int (line : Int) = V.int 0) = false := decide_eq_false fun z => by
        cases z
        exact hl rfl
      rw [e0]
      refine iteF ?_
      have lg : (line : Int).natAbs.log2 < 1920 := by
        rw [Int.natAbs_natCast]
        exact Nat.lt_of_le_of_lt (Nat.log2_le_self line) (by omega)
      refine ⟨_, rfl, b, CB, d, .int line, .ref CB, _, true, rfl, TB, u3 _ _ upd_same, u3 _ _ (u2 _ _ upd_same), .own CB, kB, true, rfl, ?_⟩
      refine iteT ?_
      refine ⟨_, rfl, b, CB, d, .int line, rfl, TB, u3 _ _ upd_same, u3 _ _ (u2 _ _ upd_same), _, rfl, lg, _, rfl, _, rfl, lg, rfl, ?_⟩
      have e : decide (V.str (toString (line : Int)) = V.str (toString (line : Int))) = true := decide_eq_true rfl
      rw [e]
      exact hq _ (e1.trans (LamX.ExtN.of fun b o z => sA _ _ z)) (t1.ext fun b o z => sA _ _ z)
end
end G

set_option Elab.async false
set_option linter.all false
set_option maxRecDepth 100000
set_option maxHeartbeats 4000000
namespace U
open PySem PySem.Spec PyProof.Rows L2
open PySem.W (Frag)
/-! ### expressions whose text, list or data is told beforehand -/
abbrev StP := L2.St → Hp → Prop
def Stb (I : StP) : Prop := ∀ σ H H', Same H H' → I σ H → I σ H'
def tSt (I : StP) (s : Str) : TE := fun σ H Q => I σ H ∧ ∀ H', Same H H' → Q (.str s) H'
def tLs (I : StP) (ls : List Str) : TE := fun σ H Q => I σ H ∧ ∀ a H', Same H H' → H' a = some (.lst (ls.map V.str)) → Q (.ref a) H'
def tLn (I : StP) (ls : List Str) : TE := fun σ H Q => I σ H ∧ ∀ a H', Same H H' → H a = none → H' a = some (.lst (ls.map V.str)) → Q (.ref a) H'
def tDn (I : StP) (d : PyData) : TE := fun σ H Q => I σ H ∧ ∀ v H', Same H H' → Dq (fun a => H a = none) H' v d → Q v H'
def tSts (I : StP) (ls : List Str) : TA := fun σ H Q => I σ H ∧ ∀ H', Same H H' → Q (ls.map V.str) H'
def tDns (I : StP) (ds : List PyData) : TA := fun σ H Q => I σ H ∧ ∀ vs H', Same H H' → DqAll (fun a => H a = none) H' vs ds → Q vs H'
structure JS (X : Cx) (I : StP) (e : Expr) (s : Str) (n : Nat) : Prop where
  run : PE X e (tSt I s)
  len : s.length ≤ n
structure JL (X : Cx) (I : StP) (e : Expr) (ls : List Str) (n : Nat) : Prop where
  run : PE X e (tLs I ls)
  len : ls.length ≤ n
structure JN (X : Cx) (I : StP) (e : Expr) (ls : List Str) (n : Nat) : Prop where
  run : PE X e (tLn I ls)
  len : ls.length ≤ n
def listD (ls : List Str) : PyData := .list (ls.map PyData.str)
def rowD (ls : List Str) (k : Int) : PyData := .tuple [listD ls, .int k]
theorem dqall_strs {F : Addr → Prop} {H : Hp} : ∀ ls : List Str, DqAll F H (ls.map V.str) (ls.map PyData.str)
  | [] => .nil
  | x :: ls => .cons (.str x) (dqall_strs ls)
mutual
theorem dq_live {F : Addr → Prop} {H : Hp} {b : Addr} (n : H b = none) : ∀ {v : V} {d : PyData}, Dq F H v d → Dq (fun a => F a ∧ a ≠ b) H v d
  | _, _, .non => .non
  | _, _, .bl x => .bl x
  | _, _, .int x => .int x
  | _, _, .str x => .str x
  | _, _, .lst f e h => .lst ⟨f, ne_of_none e n⟩ e (dqall_live n h)
  | _, _, .tup f e h => .tup ⟨f, ne_of_none e n⟩ e (dqall_live n h)
  | _, _, .dk f e h => .dk ⟨f, ne_of_none e n⟩ e (dqall_live n h)
theorem dqall_live {F : Addr → Prop} {H : Hp} {b : Addr} (n : H b = none) : ∀ {vs : List V} {ds : List PyData}, DqAll F H vs ds → DqAll (fun a => F a ∧ a ≠ b) H vs ds
  | _, _, .nil => .nil
  | _, _, .cons h hs => .cons (dq_live n h) (dqall_live n hs)
end
section
variable {X : Cx} {I : StP}
theorem Same.rfl' {H : Hp} : Same H H := Same.refl H
theorem js_const {x : Str} {j pos} {n : Nat} (h : x.length ≤ n) : JS X I (.Constant (.str x) j pos) x n := ⟨pe_mono pe_str fun σ H Q h => h.2 H (Same.refl H), h⟩
theorem js_var {e : Expr} {i : Nat} {s : Str} {n : Nat} (he : PE X e (tVar i)) (hi : ∀ σ H, I σ H → σ[i]? = some (some (.str s))) (hl : s.length ≤ n) : JS X I e s n := ⟨pe_mono he fun σ H Q h => ⟨_, hi σ H h.1, h.2 H (Same.refl H)⟩, hl⟩
theorem js_add {a b : Expr} {x y : Str} {m n : Nat} {pos : Pos} (hI : Stb I) (ha : JS X I a x m) (hb : JS X I b y n) (hl : m + n ≤ 16000000 := by decide) : JS X I (.BinOp a .Add b pos) (x ++ y) (m + n) := by
  refine ⟨pe_mono (pe_op op_add_str ha.run hb.run) fun σ H Q h => ⟨h.1, fun H1 s1 => ⟨hI σ H H1 s1 h.1, fun H2 s2 => ⟨x, y, rfl, rfl, ?_, h.2 H2 (s1.trans s2)⟩⟩⟩, ?_⟩
  · have h1 := ha.len
    have h2 := hb.len
    rw [sizeLine_eq]
    omega
  · have h1 := ha.len
    have h2 := hb.len
    rw [Str.length_append]
    omega
theorem op_mul_str : OpR X (binaryOp .Mult) (fun x y H Q => ∃ i n, x = .str i ∧ y = .int n ∧ MulOk i n ∧ Q (.str (Txt.mul i n)) H) := by
  intro pins s σ H x y v u Q I rx ry h
  obtain ⟨i, n, rfl, rfl, hz, q⟩ := h
  obtain ⟨t, rfl⟩ := rx
  obtain ⟨t', rfl⟩ := ry
  exact SB.mul hz fun t' tk => ⟨.str (Txt.mul i n), H, I.tok _, ⟨_, rfl⟩, q⟩
theorem js_mul {a : Expr} {x : Str} {k : Int} {m n : Nat} {j p pos} (ha : JS X I a x m) (hk : MulOk x k) (hl : (Txt.mul x k).length ≤ n) : JS X I (.BinOp a .Mult (.Constant (.int k) j p) pos) (Txt.mul x k) n :=
  ⟨pe_mono (pe_op op_mul_str ha.run pe_int) fun σ H Q h => ⟨h.1, fun H1 s1 => ⟨x, k, rfl, rfl, hk, h.2 H1 s1⟩⟩, hl⟩
theorem js_item {e : Expr} {ls : List Str} {m n : Nat} {k : Nat} {x : Str} {j p pos} (he : JL X I e ls m) (hk : ls[k]? = some x) (hl : x.length ≤ n)  : JS X I (.Subscript e (.Constant (.int (k : Int)) j p) pos) x n := by
  refine ⟨pe_mono (pe_ix ix_list he.run pe_int (fun _ _ => rfl)) fun σ H Q h => ⟨h.1, fun a H1 s1 ea => ⟨a, _, _, .str x, rfl, rfl, SqL.of ea, atI_nat ?_, h.2 H1 s1⟩⟩, hl⟩
  rw [List.getElem?_map, hk]
  rfl
theorem jl_var {e : Expr} {i : Nat} {ls : List Str} {n : Nat} (he : PE X e (tVar i)) (hi : ∀ σ H, I σ H → ∃ a, σ[i]? = some (some (.ref a)) ∧ H a = some (.lst (ls.map V.str))) (hl : ls.length ≤ n) : JL X I e ls n :=
  ⟨pe_mono he fun σ H Q h => by
    obtain ⟨a, h1, h2⟩ := hi σ H h.1
    exact ⟨_, h1, h.2 a H (Same.refl H) h2⟩, hl⟩
theorem JN.jl {e : Expr} {ls : List Str} {n : Nat} (h : JN X I e ls n) : JL X I e ls n := ⟨pe_mono h.run fun σ H Q q => ⟨q.1, fun a H' s _ e => q.2 a H' s e⟩, h.len⟩
theorem jn_to {e : Expr} {ls : List Str} {n k : Nat} {j p p2 pos} (he : JL X I e ls n) : JN X I (.Subscript e (.Slice none (some (.Constant (.int (k : Int)) j p)) none p2) pos) (ls.take k) n := by
  refine ⟨pe_mono (pe_slice sl_list he.run po_none (po_some pe_int)) fun σ H Q h => ⟨h.1, fun a H1 s1 ea => ⟨_, rfl, a, _, rfl, SqL.of ea, fun q nq => ?_⟩⟩, by rw [List.length_take]; have := he.len; omega⟩
  have e : cutV (ls.map V.str) none (some (k : Int)) = (ls.take k).map V.str := by rw [G.cut_to, List.map_take]
  rw [e]
  exact h.2 q _ (s1.trans (same_new nq)) (G.none_of_same s1 nq) upd_same
theorem jn_cat {a b : Expr} {l1 l2 : List Str} {m n : Nat} {pos : Pos} (hI : Stb I) (ha : JL X I a l1 m) (hb : JL X I b l2 n) (hl : m + n ≤ 16000000 := by decide) : JN X I (.BinOp a .Add b pos) (l1 ++ l2) (m + n) := by
  have h1 := ha.len
  have h2 := hb.len
  refine ⟨pe_mono (pe_op op_cat ha.run hb.run) fun σ H Q h => ⟨h.1, fun x H1 s1 ex => ⟨hI σ H H1 s1 h.1, fun y H2 s2 ey => ⟨x, y, _, _, rfl, rfl, s2 _ _ ex, ey, by rw [List.length_map, List.length_map, sizeLine_eq]; omega, fun q nq => ?_⟩⟩⟩, by rw [List.length_append]; omega⟩
  rw [← List.map_append]
  exact h.2 q _ ((s1.trans s2).trans (same_new nq)) (G.none_of_same (s1.trans s2) nq) upd_same
theorem pss_nilS : PA X [] (tSts I []) := pa_mono pa_nil fun σ H Q h => h.2 H (Same.refl H)
theorem pss_consS {e : Expr} {es : List Expr} {x : Str} {n : Nat} {ls : List Str} (hI : Stb I) (he : JS X I e x n) (hs : PA X es (tSts I ls)) (hst : starEach (e :: es) X.env = (false, eval e X.env) :: starEach es X.env := by rfl) : PA X (e :: es) (tSts I (x :: ls)) :=
  pa_mono (pa_cons he.run hs hst) fun σ H Q h => ⟨h.1, fun H1 s1 => ⟨hI σ H H1 s1 h.1, fun H2 s2 => h.2 H2 (s1.trans s2)⟩⟩
theorem jn_disp {es : List Expr} {ls : List Str} {n : Nat} {pos : Pos} (hs : PA X es (tSts I ls)) (hl : ls.length ≤ n) (hn : n ≤ 1000 := by decide) : JN X I (.List es pos) ls n :=
  ⟨pe_mono (pe_lst hs) fun σ H Q h => ⟨h.1, fun H1 s1 => ⟨by rw [List.length_map, sizeLine_eq]; omega, fun q nq => h.2 q _ (s1.trans (same_new nq)) (G.none_of_same s1 nq) upd_same⟩⟩, hl⟩
/-- (rows, line) -/
theorem jd_row {e : Expr} {ls : List Str} {k : Int} {n : Nat} {j p x1 pos} (he : JN X I e ls n) (hst : starEach [e, .Constant (.int k) j p] X.env = (false, eval e X.env) :: starEach [.Constant (.int k) j p] X.env := by rfl) : PE X (.Tuple [e, .Constant (.int k) j p] x1 pos) (tDn I (rowD ls k)) := by
  refine pe_mono (pe_tup (pa_cons he.run (pa_cons pe_int pa_nil) hst)) fun σ H Q h => ⟨h.1, fun a H1 s1 na ea => ⟨Nat.le_trans (by show 2 ≤ 1000; omega) G.sizeLine_ge, fun q nq => ?_⟩⟩
  have s2 := same_new (o := .tup [.ref a, .int k]) nq
  exact h.2 _ _ (s1.trans s2) (.tup (G.none_of_same s1 nq) upd_same (.cons (.lst na (s2 _ _ ea) (dqall_strs ls)) (.cons (.int k) .nil)))
theorem jds_nil : PA X [] (tDns I []) := pa_mono pa_nil fun σ H Q h => h.2 [] H (Same.refl H) .nil
theorem jds_cons {e : Expr} {es : List Expr} {d : PyData} {ds : List PyData} (hI : Stb I) (he : PE X e (tDn I d)) (hs : PA X es (tDns I ds)) (hst : starEach (e :: es) X.env = (false, eval e X.env) :: starEach es X.env := by rfl) : PA X (e :: es) (tDns I (d :: ds)) :=
  pa_mono (pa_cons he hs hst) fun σ H Q h => ⟨h.1, fun v H1 s1 q1 => ⟨hI σ H H1 s1 h.1, fun vs H2 s2 q2 => h.2 (v :: vs) H2 (s1.trans s2) (.cons (q1.same s2) (q2.move (fun b f => G.none_of_same s1 f) fun b o _ z => z))⟩⟩
theorem jd_list {es : List Expr} {ds : List PyData} {pos : Pos} (hs : PA X es (tDns I ds)) (hl : ds.length ≤ 1000 := by decide) : PE X (.List es pos) (tDn I (.list ds)) :=
  pe_mono (pe_lst hs) fun σ H Q h => ⟨h.1, fun vs H1 s1 q1 => ⟨by rw [q1.len, sizeLine_eq]; omega, fun p np => h.2 (.ref p) _ (s1.trans (same_new np)) (.lst (G.none_of_same s1 np) upd_same (q1.move (fun _ f => f) fun b o _ e => same_new np b o e))⟩⟩
/-- a list display, none of whose items is the list itself -/
def tDl (I : StP) (ds : List PyData) : TE := fun σ H Q => I σ H ∧ ∀ b vs H', Same H H' → H b = none → H' b = some (.lst vs) → DqAll (fun a => H a = none ∧ a ≠ b) H' vs ds → Q (.ref b) H'
theorem jd_listS {es : List Expr} {ds : List PyData} {pos : Pos} (hs : PA X es (tDns I ds)) (hl : ds.length ≤ 1000 := by decide) : PE X (.List es pos) (tDl I ds) :=
  pe_mono (pe_lst hs) fun σ H Q h => ⟨h.1, fun vs H1 s1 q1 => ⟨by rw [q1.len, sizeLine_eq]; omega, fun p np => h.2 p vs _ (s1.trans (same_new np)) (G.none_of_same s1 np) upd_same ((dqall_live np q1).move (fun _ f => f) fun b o _ e => same_new np b o e)⟩⟩
/-! ### statements from one state to the next -/
def tStep (A B : StP) : TS := fun D σ H => A σ H ∧ ∀ σ' H', B σ' H' → D.nx σ' H'
theorem ps_mono {st : Stmt} {t t' : TS} (h : PS X st t) (k : ∀ D σ H, t' D σ H → t D σ H) : PS X st t' := ⟨fun pins s σ H D I q => h.run pins s σ H D I (k D σ H q)⟩
theorem pss_mono {ss : List Stmt} {t t' : TS} (h : PSs X ss t) (k : ∀ D σ H, t' D σ H → t D σ H) : PSs X ss t' := ⟨fun pins s σ H D I q => h.run pins s σ H D I (k D σ H q)⟩
theorem pss_step {st : Stmt} {ss : List Stmt} {A B : StP} {t : TS} (h : PS X st (tStep A B)) (hs : PSs X ss t) : PSs X (st :: ss) (fun D σ H => A σ H ∧ ∀ σ' H', B σ' H' → t D σ' H') := pss_mono (pss_cons h hs) fun D σ H q => q
/-- from A by way of Z to what is asked of the rest -/
def tStepT (A Z : StP) (t : TS) : TS := fun D σ H => A σ H ∧ ∀ σ' H', Z σ' H' → t D σ' H'
def tNx : TS := fun D σ H => D.nx σ H
theorem pss_stepC {st : Stmt} {ss : List Stmt} {A B Z : StP} {t : TS} (h : PS X st (tStep A B)) (hs : PSs X ss (tStepT B Z t)) : PSs X (st :: ss) (tStepT A Z t) := pss_mono (pss_cons h hs) fun D σ H q => ⟨q.1, fun σ' H' b => ⟨b, q.2⟩⟩
theorem pss_oneC {st : Stmt} {A B : StP} (h : PS X st (tStep A B)) : PSs X [st] (tStepT A B tNx) := pss_mono (pss_one h) fun D σ H q => q
theorem pss_endC {ss : List Stmt} {Z : StP} {t : TS} (h : PSs X ss t) : PSs X ss (tStepT Z Z t) := pss_mono h fun D σ H q => q.2 σ H q.1
end
end U

set_option Elab.async false
set_option linter.all false
set_option maxRecDepth 100000
set_option maxHeartbeats 4000000
namespace U
open PySem PySem.Spec PyProof.Rows L2
theorem pss_ex {X : Cx} {ss : List Stmt} {α : Type} {t : α → TS} (h : ∀ x, PSs X ss (t x)) : PSs X ss (fun D σ H => ∃ x, t x D σ H) := ⟨fun pins s σ H D I q => q.elim fun x q => (h x).run pins s σ H D I q⟩
end U
namespace G
open PySem PySem.Spec PyProof.Rows L2 U
open PySem.W (Frag)
/-! ### the rows of _law_right -/
def sTab : Str := " 1 0 0 1 2"
def mPerson (n : Str) : Str := ("person " ++ n) ++ " 0 7"
def mLab (n : Str) : Str := ("lab " ++ n) ++ sTab
def mRes (n0 n5 n : Str) : Str := ((((("result " ++ n) ++ " ") ++ n0) ++ " ") ++ n5) ++ " 99 low"
def mFact (n0 : Str) (k : Nat) : Str := (("fact most " ++ n0) ++ " 0 ") ++ toString (k : Int)
def people (ns : List Str) : List Str := (ns.take 4).map mPerson
def labs (ns : List Str) : List Str := (ns.take 7).map mLab
def head (ns : List Str) (n5 : Str) : List Str := (people ns).take 1 ++ [("lab " ++ n5) ++ Txt.mul sTab 4]
def results (ns : List Str) (n0 n5 : Str) : List Str := (ns.take 25).map (mRes n0 n5)
def facts (n0 : Str) : List Str := (List.range 9).map (mFact n0)
def loopRows (hd : List Str) (n5 w : Str) (k : Int) : List PyData := [rowD (hd ++ [((("fact from " ++ n5) ++ " 99 ") ++ w)]) k, rowD (hd ++ [((("fact before " ++ n5) ++ " 0 ") ++ w)]) k]
structure Nm (ns : List Str) (n0 n5 : Str) : Prop where
  len : ns.length = 30
  short : ∀ n ∈ ns, n.length ≤ 8
  h0 : ns[0]? = some n0
  h5 : ns[5]? = some n5
theorem Nm.s0 {ns : List Str} {n0 n5 : Str} (h : Nm ns n0 n5) : n0.length ≤ 8 := h.short _ (List.mem_of_getElem? h.h0)
theorem Nm.s5 {ns : List Str} {n0 n5 : Str} (h : Nm ns n0 n5) : n5.length ≤ 8 := h.short _ (List.mem_of_getElem? h.h5)
def LsAt (R : Addr → Prop) (σ : L2.St) (H : Hp) (i : Nat) (ls : List Str) : Prop := ∃ a, σ[i]? = some (some (.ref a)) ∧ R a ∧ H a = some (.lst (ls.map V.str))
structure Ev (R : Addr → Prop) (ns : List Str) (n0 n5 : Str) (σ : L2.St) (H : Hp) : Prop where
  len : σ.length = 16
  c1 : LsAt R σ H 1 ns
  c2 : σ[2]? = some (some (.str sTab))
  c3 : LsAt R σ H 3 (people ns)
  c5 : LsAt R σ H 5 (labs ns)
  c6 : LsAt R σ H 6 (head ns n5)
  c7 : LsAt R σ H 7 (results ns n0 n5)
  c8 : LsAt R σ H 8 (facts n0)
theorem LsAt.same {R : Addr → Prop} {σ : L2.St} {H H' : Hp} {i : Nat} {ls : List Str} (h : LsAt R σ H i ls) (s : Same H H') : LsAt R σ H' i ls := by
  obtain ⟨a, h1, h2, h3⟩ := h
  exact ⟨a, h1, h2, s _ _ h3⟩
theorem LsAt.sameB {r : Addr} {σ : L2.St} {H H' : Hp} {i : Nat} {ls : List Str} (h : LsAt (· ≠ r) σ H i ls) (s : SameB r H H') : LsAt (· ≠ r) σ H' i ls := by
  obtain ⟨a, h1, h2, h3⟩ := h
  exact ⟨a, h1, h2, s _ _ h2 h3⟩
theorem LsAt.set {R : Addr → Prop} {σ : L2.St} {H : Hp} {i j : Nat} {ls : List Str} {o : Option V} (h : LsAt R σ H i ls) (n : j ≠ i) : LsAt R (σ.set j o) H i ls := by
  obtain ⟨a, h1, h2, h3⟩ := h
  exact ⟨a, by rw [List.getElem?_set_ne n]; exact h1, h2, h3⟩
theorem LsAt.imp {R R' : Addr → Prop} {σ : L2.St} {H : Hp} {i : Nat} {ls : List Str} (h : LsAt R σ H i ls) (k : ∀ a o, H a = some o → R a → R' a) : LsAt R' σ H i ls := by
  obtain ⟨a, h1, h2, h3⟩ := h
  exact ⟨a, h1, k a _ h3 h2, h3⟩
theorem Ev.same {R : Addr → Prop} {ns : List Str} {n0 n5 : Str} {σ : L2.St} {H H' : Hp} (h : Ev R ns n0 n5 σ H) (s : Same H H') : Ev R ns n0 n5 σ H' := ⟨h.len, h.c1.same s, h.c2, h.c3.same s, h.c5.same s, h.c6.same s, h.c7.same s, h.c8.same s⟩
theorem Ev.sameB {r : Addr} {ns : List Str} {n0 n5 : Str} {σ : L2.St} {H H' : Hp} (h : Ev (· ≠ r) ns n0 n5 σ H) (s : SameB r H H') : Ev (· ≠ r) ns n0 n5 σ H' := ⟨h.len, h.c1.sameB s, h.c2, h.c3.sameB s, h.c5.sameB s, h.c6.sameB s, h.c7.sameB s, h.c8.sameB s⟩
theorem Ev.set {R : Addr → Prop} {ns : List Str} {n0 n5 : Str} {σ : L2.St} {H : Hp} {j : Nat} {o : Option V} (h : Ev R ns n0 n5 σ H) (hj : 9 ≤ j) : Ev R ns n0 n5 (σ.set j o) H :=
  ⟨by rw [List.length_set]; exact h.len, h.c1.set (by omega), by rw [List.getElem?_set_ne (by omega)]; exact h.c2, h.c3.set (by omega), h.c5.set (by omega), h.c6.set (by omega), h.c7.set (by omega), h.c8.set (by omega)⟩
theorem Ev.imp {R R' : Addr → Prop} {ns : List Str} {n0 n5 : Str} {σ : L2.St} {H : Hp} (h : Ev R ns n0 n5 σ H) (k : ∀ a o, H a = some o → R a → R' a) : Ev R' ns n0 n5 σ H := ⟨h.len, h.c1.imp k, h.c2, h.c3.imp k, h.c5.imp k, h.c6.imp k, h.c7.imp k, h.c8.imp k⟩
/-- all but the pot at p, which is another one -/
def Zp (p : Addr) (m : Nat) (H0 H : Hp) : Prop := Ext p H0 H ∧ Pot H p m
theorem Zp.same {p : Addr} {m : Nat} {H0 H H' : Hp} (h : Zp p m H0 H) (s : Same H H') : Zp p m H0 H' := by
  obtain ⟨x, o1, m1, c1, e1, k1⟩ := h
  exact ⟨x.trans (.of s), o1, m1, c1, s _ _ e1, k1⟩
theorem Zp.sameB {p r : Addr} {m : Nat} {H0 H H' : Hp} (h : Zp p m H0 H) (s : SameB r H H') (n0 : H0 r = none) (np : r ≠ p) : Zp p m H0 H' := by
  obtain ⟨x, o1, m1, c1, e1, k1⟩ := h
  exact ⟨fun b o hb z => s b o (fun q => by rw [q, n0] at z; cases z) (x b o hb z), o1, m1, c1, s _ _ (Ne.symm np) e1, k1⟩
structure Rw1 (p : Addr) (m : Nat) (H0 : Hp) (ex : Addr → L2.St → Hp → Prop) (ns : List Str) (n0 n5 : Str) (rd : List PyData) (r : Addr) (σ : L2.St) (H : Hp) : Prop where
  ev : Ev (· ≠ r) ns n0 n5 σ H
  ex : ex r σ H
  at10 : σ[10]? = some (some (.ref r))
  rows : ∃ vs, H r = some (.lst vs) ∧ DqAll (fun a => a ≠ r) H vs rd
  few : rd.length ≤ 200
  z : Zp p m H0 H
  new : H0 r = none
  nep : r ≠ p
def Rw (p : Addr) (m : Nat) (H0 : Hp) (ex : Addr → L2.St → Hp → Prop) (ns : List Str) (n0 n5 : Str) (rd : List PyData) : StP := fun σ H => ∃ r, Rw1 p m H0 ex ns n0 n5 rd r σ H
def Rw0 (p : Addr) (m : Nat) (H0 : Hp) (ns : List Str) (n0 n5 : Str) : StP := fun σ H => Ev (fun _ => True) ns n0 n5 σ H ∧ Zp p m H0 H
section
variable {p : Addr} {m : Nat} {H0 : Hp} {ex : Addr → L2.St → Hp → Prop} {ns : List Str} {n0 n5 : Str} {rd : List PyData}
def ExOk (ex : Addr → L2.St → Hp → Prop) : Prop := ∀ r σ H H', SameB r H H' → ex r σ H → ex r σ H'
theorem rw_stb (hx : ExOk ex) : Stb (Rw p m H0 ex ns n0 n5 rd) := by
  rintro σ H H' s ⟨r, h⟩
  obtain ⟨vs, e, q⟩ := h.rows
  exact ⟨r, h.ev.same s, hx r σ H H' (.of s) h.ex, h.at10, ⟨vs, s _ _ e, q.move (fun _ f => f) fun b o _ z => s _ _ z⟩, h.few, h.z.same s, h.new, h.nep⟩
theorem rw0_stb : Stb (Rw0 p m H0 ns n0 n5) := fun σ H H' s h => ⟨h.1.same s, h.2.same s⟩
theorem ls_of {R : Addr → Prop} {σ : L2.St} {H : Hp} {i : Nat} {ls : List Str} (h : LsAt R σ H i ls) : ∃ a, σ[i]? = some (some (.ref a)) ∧ H a = some (.lst (ls.map V.str)) := by
  obtain ⟨a, h1, _, h3⟩ := h
  exact ⟨a, h1, h3⟩
/-- what the expressions read -/
structure Rds (I : StP) (ns : List Str) (n0 n5 : Str) : Prop where
  stb : Stb I
  c1 : ∀ σ H, I σ H → ∃ a, σ[1]? = some (some (.ref a)) ∧ H a = some (.lst (ns.map V.str))
  c2 : ∀ σ H, I σ H → σ[2]? = some (some (.str sTab))
  c3 : ∀ σ H, I σ H → ∃ a, σ[3]? = some (some (.ref a)) ∧ H a = some (.lst ((people ns).map V.str))
  c5 : ∀ σ H, I σ H → ∃ a, σ[5]? = some (some (.ref a)) ∧ H a = some (.lst ((labs ns).map V.str))
  c6 : ∀ σ H, I σ H → ∃ a, σ[6]? = some (some (.ref a)) ∧ H a = some (.lst ((head ns n5).map V.str))
  c7 : ∀ σ H, I σ H → ∃ a, σ[7]? = some (some (.ref a)) ∧ H a = some (.lst ((results ns n0 n5).map V.str))
  c8 : ∀ σ H, I σ H → ∃ a, σ[8]? = some (some (.ref a)) ∧ H a = some (.lst ((facts n0).map V.str))
theorem rds_of {I : StP} (hs : Stb I) (h : ∀ σ H, I σ H → ∃ R, Ev R ns n0 n5 σ H) : Rds I ns n0 n5 :=
  ⟨hs, fun σ H i => (h σ H i).elim fun R e => ls_of e.c1, fun σ H i => (h σ H i).elim fun R e => e.c2, fun σ H i => (h σ H i).elim fun R e => ls_of e.c3, fun σ H i => (h σ H i).elim fun R e => ls_of e.c5,
    fun σ H i => (h σ H i).elim fun R e => ls_of e.c6, fun σ H i => (h σ H i).elim fun R e => ls_of e.c7, fun σ H i => (h σ H i).elim fun R e => ls_of e.c8⟩
theorem rds0 : Rds (Rw0 p m H0 ns n0 n5) ns n0 n5 := rds_of rw0_stb fun σ H h => ⟨_, h.1⟩
theorem rds1 (hx : ExOk ex) : Rds (Rw p m H0 ex ns n0 n5 rd) ns n0 n5 := rds_of (rw_stb hx) fun σ H ⟨r, h⟩ => ⟨_, h.ev⟩
theorem len_people : (people ns).length ≤ 4 := by unfold people; rw [List.length_map, List.length_take]; omega
theorem len_labs : (labs ns).length ≤ 7 := by unfold labs; rw [List.length_map, List.length_take]; omega
theorem len_head : (head ns n5).length ≤ 2 := by unfold head; rw [List.length_append, List.length_take, List.length_singleton]; omega
theorem len_results : (results ns n0 n5).length ≤ 25 := by unfold results; rw [List.length_map, List.length_take]; omega
theorem len_facts : (facts n0).length ≤ 9 := by unfold facts; rw [List.length_map, List.length_range]; omega
theorem len_tab : sTab.length ≤ 10 := by decide +kernel
theorem mul4 : MulOk sTab 4 := ⟨by decide, fun _ _ => by decide +kernel, fun _ _ => by decide +kernel⟩
theorem mul5 : MulOk sTab 5 := ⟨by decide, fun _ _ => by decide +kernel, fun _ _ => by decide +kernel⟩
theorem lenm4 : (Txt.mul sTab 4).length ≤ 40 := by decide +kernel
theorem lenm5 : (Txt.mul sTab 5).length ≤ 50 := by decide +kernel
section
variable {X : Cx}
/-- rows.extend([..]) -/
theorem ps_ext (hx : ExOk ex) {e : Expr} {new : List PyData} {p1 p2 p3 p4 : Pos} (hv : PE X (.Name "_law_rows" p1) (tVar 10)) (he : PE X e (tDn (Rw p m H0 ex ns n0 n5 rd) (.list new))) (hl : (rd ++ new).length ≤ 200) (hbase : attributeBase (.Name "_law_rows" p1) "extend" X.env (eval (.Name "_law_rows" p1) X.env) = eval (.Name "_law_rows" p1) X.env := by rfl)
    (hfew : ((backTo p3 (starEach [e] X.env)).all (fun x => !x.1) && (backToKw p3 (keywordEach [] X.env)).all (fun x => x.1.isSome) && decide (([e] : List Expr).length + ([] : List Keyword).length + (if ([] : List Keyword).isEmpty then 0 else 1) < 30)) = true := by rfl)
    (hline : (p2.endLine == p3.line) = true := by rfl) (hst : starEach [e] X.env = (false, eval e X.env) :: starEach [] X.env := by rfl) (hplain : (backTo p3 (starEach [] X.env)).any (·.1) = false := by rfl) :
    PS X (.Expr (.Call (.Attribute (.Name "_law_rows" p1) "extend" p2) [e] [] p3) p4) (tStep (Rw p m H0 ex ns n0 n5 rd) (Rw p m H0 ex ns n0 n5 (rd ++ new))) := by
  refine ps_mono (ps_expr (pe_bm PySem.F.plainAttrs_list PySem.F.slot_list_extend PySem.F.type_list_extend mt_extend hv (pa_cons he pa_nil hst) hbase hfew hline hst hplain)) fun D σ H h => ?_
  obtain ⟨⟨r, h1⟩, h2⟩ := h
  obtain ⟨vs, e1, q1⟩ := h1.rows
  refine ⟨_, h1.at10, .inl ⟨rfl, _, SqL.of e1⟩, ⟨r, h1⟩, fun v H' s' dq => ?_⟩
  cases dq with
  | @lst b zs _ fb eb al =>
  have l1 := q1.len
  have l2 := al.len
  rw [List.length_append] at hl
  refine ⟨r, b, vs, zs, rfl, rfl, s' _ _ e1, eb, by rw [sizeLine_eq]; omega, h2 _ _ ⟨r, ?_⟩⟩
  have sb : SameB r H (upd H' r (.lst (vs ++ zs))) := fun b o hb z => by
    rw [upd_ne hb]
    exact s' _ _ z
  have nr : ∀ b, H b = none → b ≠ r := fun b z q => by
    rw [q, e1] at z
    cases z
  refine ⟨h1.ev.sameB sb, hx r σ H _ sb h1.ex, h1.at10, ⟨vs ++ zs, upd_same, ?_⟩, by rw [List.length_append]; omega, h1.z.sameB sb h1.new h1.nep, h1.new, h1.nep⟩
  refine DqAll.app (q1.move (fun _ f => f) fun b o f z => sb b o f z) (al.move (fun b f => nr b f) fun b o f z => ?_)
  rw [upd_ne (nr b f)]
  exact z
/-- rows.append(..) -/
theorem ps_app (hx : ExOk ex) {e : Expr} {d : PyData} {p1 p2 p3 p4 : Pos} (hv : PE X (.Name "_law_rows" p1) (tVar 10)) (he : PE X e (tDn (Rw p m H0 ex ns n0 n5 rd) d)) (hl : (rd ++ [d]).length ≤ 200) (hbase : attributeBase (.Name "_law_rows" p1) "append" X.env (eval (.Name "_law_rows" p1) X.env) = eval (.Name "_law_rows" p1) X.env := by rfl)
    (hfew : ((backTo p3 (starEach [e] X.env)).all (fun x => !x.1) && (backToKw p3 (keywordEach [] X.env)).all (fun x => x.1.isSome) && decide (([e] : List Expr).length + ([] : List Keyword).length + (if ([] : List Keyword).isEmpty then 0 else 1) < 30)) = true := by rfl)
    (hline : (p2.endLine == p3.line) = true := by rfl) (hst : starEach [e] X.env = (false, eval e X.env) :: starEach [] X.env := by rfl) (hplain : (backTo p3 (starEach [] X.env)).any (·.1) = false := by rfl) :
    PS X (.Expr (.Call (.Attribute (.Name "_law_rows" p1) "append" p2) [e] [] p3) p4) (tStep (Rw p m H0 ex ns n0 n5 rd) (Rw p m H0 ex ns n0 n5 (rd ++ [d]))) := by
  refine ps_mono (ps_expr (pe_bm PySem.F.plainAttrs_list PySem.F.slot_list_append PySem.F.type_list_append mt_append hv (pa_cons he pa_nil hst) hbase hfew hline hst hplain)) fun D σ H h => ?_
  obtain ⟨⟨r, h1⟩, h2⟩ := h
  obtain ⟨vs, e1, q1⟩ := h1.rows
  refine ⟨_, h1.at10, .inl ⟨rfl, _, SqL.of e1⟩, ⟨r, h1⟩, fun v H' s' dq => ?_⟩
  have l1 := q1.len
  rw [List.length_append] at hl
  have l2 : ([d] : List PyData).length = 1 := rfl
  refine ⟨r, vs, v, rfl, rfl, s' _ _ e1, by rw [sizeLine_eq]; omega, h2 _ _ ⟨r, ?_⟩⟩
  have sb : SameB r H (upd H' r (.lst (vs ++ [v]))) := fun b o hb z => by
    rw [upd_ne hb]
    exact s' _ _ z
  have nr : ∀ b, H b = none → b ≠ r := fun b z q => by
    rw [q, e1] at z
    cases z
  refine ⟨h1.ev.sameB sb, hx r σ H _ sb h1.ex, h1.at10, ⟨vs ++ [v], upd_same, ?_⟩, by rw [List.length_append]; omega, h1.z.sameB sb h1.new h1.nep, h1.new, h1.nep⟩
  refine DqAll.app (q1.move (fun _ f => f) fun b o f z => sb b o f z) (.cons (dq.move (fun b f => nr b f) fun b o f z => ?_) .nil)
  rw [upd_ne (nr b f)]
  exact z
def exT : Addr → L2.St → Hp → Prop := fun _ _ _ => True
def exS (j : Nat) (s : Str) : Addr → L2.St → Hp → Prop := fun _ σ _ => σ[j]? = some (some (.str s))
theorem exT_ok : ExOk exT := fun _ _ _ _ _ h => h
theorem exS_ok {j : Nat} {s : Str} : ExOk (exS j s) := fun _ _ _ _ _ h => h
/-- rows = [..] -/
theorem ps_rows0 {st : Stmt} (h : PS X st (tAsg (tDl (Rw0 p m H0 ns n0 n5) rd) (gName 10))) (hl : rd.length ≤ 200) (hp : ∃ o, H0 p = some o) : PS X st (tStep (Rw0 p m H0 ns n0 n5) (Rw p m H0 exT ns n0 n5 rd)) := by
  refine ps_mono h fun D σ H ⟨h1, h2⟩ => ⟨h1, fun b zs H' s' nb eb al => ?_⟩
  have e1 := h1.1
  have sb := e1.same s'
  have n0 : H0 b = none := by
    cases z : H0 b with
    | none => rfl
    | some o =>
      by_cases hb : b = p
      · obtain ⟨_, _, _, _, e5, _⟩ := h1.2
        rw [hb, e5] at nb
        cases nb
      · have := h1.2.1 b o hb z
        rw [this] at nb
        cases nb
  refine h2 _ _ ⟨b, Ev.imp (R := fun a => H a ≠ none) ?_ (fun a o _ z q => z (q ▸ nb)), trivial, ?_, ⟨zs, eb, ?_⟩, hl, h1.2.same s', n0, fun z => ?_⟩
  · refine Ev.set ?_ (by omega)
    exact (Ev.imp e1 fun a o z _ => by rw [z]; exact Option.some_ne_none o).same s'
  · rw [List.getElem?_set_self (by rw [e1.len]; omega)]
  · exact al.move (fun a f => f.2) fun _ _ _ z => z
  · obtain ⟨o, ho⟩ := hp
    rw [z, ho] at n0
    cases n0
/-- a text's name -/
theorem ps_str {st : Stmt} {j : Nat} {s : Str} (h : PS X st (tAsg (tSt (Rw p m H0 ex ns n0 n5 rd) s) (gName j))) (hj : 11 ≤ j) (hj2 : j < 16) (hx : ExOk ex) : PS X st (tStep (Rw p m H0 ex ns n0 n5 rd) (Rw p m H0 (exS j s) ns n0 n5 rd)) := by
  refine ps_mono h fun D σ H ⟨h1, h2⟩ => ⟨h1, fun H' s' => ?_⟩
  obtain ⟨r, h3⟩ := rw_stb hx σ H H' s' h1
  refine h2 _ _ ⟨r, h3.ev.set (by omega), ?_, ?_, h3.rows, h3.few, h3.z, h3.new, h3.nep⟩
  · exact List.getElem?_set_self (by rw [h3.ev.len]; omega)
  · rw [List.getElem?_set_ne (by omega)]
    exact h3.at10
/-- (rows, line), the line by its name -/
theorem jd_rowV {I : StP} {e e2 : Expr} {ls : List Str} {k : Int} {i n : Nat} {x1 pos} (hI : Stb I) (he : JN X I e ls n) (hv : PE X e2 (tVar i)) (hi : ∀ σ H, I σ H → σ[i]? = some (some (.int k))) (hst : starEach [e, e2] X.env = (false, eval e X.env) :: starEach [e2] X.env := by rfl) (hst2 : starEach [e2] X.env = (false, eval e2 X.env) :: starEach [] X.env := by rfl) :
    PE X (.Tuple [e, e2] x1 pos) (tDn I (rowD ls k)) := by
  refine pe_mono (pe_tup (pa_cons he.run (pa_cons hv pa_nil hst2) hst)) fun σ H Q h => ⟨h.1, fun a H1 s1 na ea => ⟨_, hi σ H1 (hI σ H H1 s1 h.1), Nat.le_trans (by show 2 ≤ 1000; omega) sizeLine_ge, fun q nq => ?_⟩⟩
  have s2 := same_new (o := .tup [.ref a, .int k]) nq
  exact h.2 _ _ (s1.trans s2) (.tup (none_of_same s1 nq) upd_same (.cons (.lst na (s2 _ _ ea) (dqall_strs ls)) (.cons (.int k) .nil)))
end
end
end G

set_option Elab.async false
set_option linter.all false
set_option maxRecDepth 100000
set_option maxHeartbeats 4000000
namespace G
open PySem PySem.Spec PyProof.Rows L2 U
open PySem.W (Frag)
def mDay (n0 n5 : Str) : Str := ((((("result r " : Str) ++ n0) ++ (" " : Str)) ++ n5) ++ (" " : Str))
def mRose (n0 : Str) : Str := ((("fact rose " : Str) ++ n0) ++ (" " : Str))
theorem Nm.lday {ns : List Str} {n0 n5 : Str} (h : Nm ns n0 n5) : (mDay n0 n5).length ≤ 27 := by
  have h1 := h.s0
  have h2 := h.s5
  unfold mDay
  simp only [Str.length_append]
  have e1 : ("result r " : Str).length = 9 := by decide +kernel
  have e2 : (" " : Str).length = 1 := by decide +kernel
  omega
theorem Nm.lrose {ns : List Str} {n0 n5 : Str} (h : Nm ns n0 n5) : (mRose n0).length ≤ 19 := by
  have h1 := h.s0
  unfold mRose
  simp only [Str.length_append]
  have e1 : ("fact rose " : Str).length = 10 := by decide +kernel
  have e2 : (" " : Str).length = 1 := by decide +kernel
  omega
def loopWs : List (Str × Int) := [("0", 3), ("1", 0), ("3", 0), ("4", 3), ("-1", 3)]
def loopD : PyData := .tuple (loopWs.map fun w => .tuple [.str w.1, .int w.2])
def loopPref (hd : List Str) (n5 : Str) (i : Nat) : List PyData := ((loopWs.take i).map fun w => loopRows hd n5 w.1 w.2).flatten
def loopAll (hd : List Str) (n5 : Str) : List PyData := (loopWs.map fun w => loopRows hd n5 w.1 w.2).flatten
structure LoopX where
  w : Str
  k : Int
  rd : List PyData
  a : Addr
  xs : List V
  hw : w.length ≤ 2
  hr : rd.length ≤ 190
def exF (a : Addr) (xs : List V) : Addr → L2.St → Hp → Prop := fun r _ H => a ≠ r ∧ H a = some (.tup xs) ∧ Dq (fun b => b ≠ r) H (.ref a) loopD
def exL (a : Addr) (xs : List V) (w : Str) (k : Int) : Addr → L2.St → Hp → Prop := fun r σ H => σ[12]? = some (some (.str w)) ∧ σ[13]? = some (some (.int k)) ∧ exF a xs r σ H
theorem exF_ok {a : Addr} {xs : List V} : ExOk (exF a xs) := fun r σ H H' s h => ⟨h.1, s _ _ h.1 h.2.1, Dq.move (fun _ f => f) (fun b o f z => s b o f z) h.2.2⟩
theorem exL_ok {a : Addr} {xs : List V} {w : Str} {k : Int} : ExOk (exL a xs w k) := fun r σ H H' s h => ⟨h.1, h.2.1, exF_ok r σ H H' s h.2.2⟩
def rowsAll (ns : List Str) (n0 n5 : Str) : List PyData := ((((((((((((((([rowD (((people ns).take 3) ++ ((labs ns).take 6)) 0, rowD ((people ns) ++ ((labs ns).take 1)) 4, rowD (((people ns).take 1) ++ (labs ns)) 8, rowD ((labs ns).take 1) 1, rowD ((people ns).take 2) 3] ++ [rowD (((head ns n5) ++ ((results ns n0 n5).take 24)) ++ ((facts n0).take 8)) 0, rowD ((head ns n5) ++ (results ns n0 n5)) 27, rowD ((head ns n5) ++ (facts n0)) 11]) ++ [rowD (((head ns n5) ++ ((results ns n0 n5).take 24)) ++ (facts n0)) 35]) ++ [rowD (((people ns).take 1) ++ [(("lab x" : Str) ++ (Txt.mul sTab 5))]) 2, rowD (((people ns).take 1) ++ [("lab x" : Str)]) 2]) ++ [rowD (((people ns).take 1) ++ [("lab x 1 0 0 1" : Str)]) 2]) ++ [rowD (((people ns).take 1) ++ [("lab x 1000 -5 0 -3 -3" : Str)]) 0, rowD (((people ns).take 1) ++ [("lab x 1001 0 0 1 2" : Str)]) 2]) ++ [rowD (((people ns).take 1) ++ [("lab x 0 0 0 1 2" : Str)]) 2, rowD (((people ns).take 1) ++ [("lab x 1 0 -1 1 2" : Str)]) 2]) ++ [rowD (((people ns).take 1) ++ [("lab x 1 0 0 2 1" : Str)]) 2, rowD ([("person x -1 0" : Str)] ++ ((labs ns).take 1)) 1]) ++ [rowD ([("person x 0 -1" : Str)] ++ ((labs ns).take 1)) 1]) ++ [rowD ([("person abcdefgh 0 0" : Str)] ++ ((labs ns).take 1)) 0, rowD ([("person abcdefghi 0 0" : Str)] ++ ((labs ns).take 1)) 1]) ++ [rowD ((head ns n5) ++ [((mDay n0 n5) ++ ("0 -7" : Str))]) 0, rowD ((head ns n5) ++ [((mDay n0 n5) ++ ("100 1" : Str))]) 3, rowD ((head ns n5) ++ [((mDay n0 n5) ++ ("-1 1" : Str))]) 3]) ++ [rowD ((head ns n5) ++ [((mDay n0 n5) ++ ("01 1" : Str))]) 3]) ++ [rowD ((head ns n5) ++ [((mDay n0 n5) ++ ("1 Low" : Str))]) 3, rowD ((head ns n5) ++ [((mDay n0 n5) ++ ("1 +1" : Str))]) 3, rowD ((head ns n5) ++ [((mDay n0 n5) ++ ("1 1" : Str)), ((mDay n0 n5) ++ ("2 1" : Str))]) 4]) ++ (loopAll (head ns n5) n5)) ++ [rowD ((head ns n5) ++ [((mRose n0) ++ ("0 99 -4" : Str))]) 0, rowD ((head ns n5) ++ [((mRose n0) ++ ("99 0 4" : Str))]) 0, rowD ((head ns n5) ++ [((mRose n0) ++ ("5 5 0" : Str))]) 3]) ++ [rowD ((head ns n5) ++ [((mRose n0) ++ ("0 100 1" : Str))]) 3, rowD ((head ns n5) ++ [((mRose n0) ++ ("1 2" : Str))]) 3, rowD (((head ns n5) ++ ((facts n0).take 1)) ++ ((results ns n0 n5).take 1)) 4])
section
variable {X : Cx} {p : Addr} {m : Nat} {H0 : Hp} {ex : Addr → L2.St → Hp → Prop} {ns : List Str} {n0 n5 : Str} {rd : List PyData}
/-- what a turn of the loop does -/
def tTurn (p : Addr) (m : Nat) (H0 : Hp) (ns : List Str) (n0 n5 : Str) : TS := fun D σ H => ∃ x : LoopX, Rw p m H0 (exL x.a x.xs x.w x.k) ns n0 n5 x.rd σ H ∧ ∀ σ' H', Rw p m H0 (exL x.a x.xs x.w x.k) ns n0 n5 ((x.rd ++ [rowD (head ns n5 ++ [((("fact from " ++ n5) ++ " 99 ") ++ x.w)]) x.k]) ++ [rowD (head ns n5 ++ [((("fact before " ++ n5) ++ " 0 ") ++ x.w)]) x.k]) σ' H' → D.nx σ' H'
theorem loop_at {F : Addr → Prop} {H : Hp} {v : V} (h : Dq F H v loopD) : ∃ (a : Addr) (xs : List V), v = .ref a ∧ H a = some (.tup xs) ∧ xs.length = 5 ∧ ∀ (i : Nat) x, xs[i]? = some x → ∃ (w : Str × Int) (b : Addr), loopWs[i]? = some w ∧ x = .ref b ∧ H b = some (.tup [.str w.1, .int w.2]) := by
  unfold loopD at h
  generalize hw : loopWs = ws at *
  have l5 : ws.length = 5 := by rw [← hw]; rfl
  clear hw
  cases h with
  | @tup a xs _ fa ea al =>
  have hl := al.len
  rw [List.length_map] at hl
  refine ⟨a, xs, rfl, ea, hl.trans l5, fun i x hx => ?_⟩
  obtain ⟨d, hd, q⟩ := al.get hx
  rw [List.getElem?_map, Option.map_eq_some_iff] at hd
  obtain ⟨w, h1, rfl⟩ := hd
  cases q with
  | @tup b ys _ fb eb al2 =>
  cases al2 with
  | @cons y1 _ _ _ q1 al2 =>
  cases al2 with
  | @cons y2 _ _ _ q2 al2 =>
  cases al2
  cases q1
  cases q2
  exact ⟨w, b, h1, rfl, eb⟩
theorem pref_step {hd : List Str} {n5 : Str} {i : Nat} {w : Str × Int} (h : loopWs[i]? = some w) : loopPref hd n5 (i + 1) = loopPref hd n5 i ++ loopRows hd n5 w.1 w.2 := by
  unfold loopPref
  rw [List.take_add_one, h, List.map_append, List.flatten_append]
  simp
theorem pref_len {hd : List Str} {n5 : Str} {i : Nat} : (loopPref hd n5 i).length ≤ 10 := by
  unfold loopPref
  have e : ∀ ws : List (Str × Int), ((ws.map fun w => loopRows hd n5 w.1 w.2).flatten).length = 2 * ws.length := fun ws => by
    induction ws with
    | nil => rfl
    | cons w ws ih => rw [List.map_cons, List.flatten_cons, List.length_append, ih]; show 2 + _ = 2 * (ws.length + 1); omega
  rw [e, List.length_take]
  have : loopWs.length = 5 := rfl
  omega
theorem ws_short {i : Nat} {w : Str × Int} (h : loopWs[i]? = some w) : w.1.length ≤ 2 := by
  have : loopWs.all (fun w => decide (w.1.length ≤ 2)) = true := by decide +kernel
  exact of_decide_eq_true (List.all_eq_true.mp this w (List.mem_of_getElem? h))
theorem ps_loop {st : Stmt} {tb : TS} {K : Frag} (hk : ∀ D σ H, tTurn p m H0 ns n0 n5 D σ H → tb D σ H) (h : PS X st (tFor (iTup K (tData loopD)) (gTup K 2 (gCons (gName 12) (gCons (gName 13) gNil))) tb)) (hx : ExOk ex) (hl : rd.length ≤ 180) :
    PS X st (tStep (Rw p m H0 ex ns n0 n5 rd) (Rw p m H0 exT ns n0 n5 (rd ++ loopAll (head ns n5) n5))) := by
  refine ps_mono h fun D σ H ⟨h1, h2⟩ v H1 s1 dq => ?_
  have hd : Dq (fun a => H a = none) H1 v loopD := dq
  obtain ⟨a, xs, rfl, ea, l5, items⟩ := loop_at hd
  refine ⟨a, rfl, ⟨_, SqT.of ea⟩, for_tup (xs := xs) (fun i σ H => Rw p m H0 (exF a xs) ns n0 n5 (rd ++ loopPref (head ns n5) n5 i) σ H) ?_ ?_ ?_ ?_⟩
  · obtain ⟨r, h3⟩ := rw_stb hx σ H H1 s1 h1
    obtain ⟨r0, h4⟩ := h1
    refine ⟨r, h3.ev, ?_, h3.at10, ?_, ?_, h3.z, h3.new, h3.nep⟩
    · have e : r = r0 := by
        have := h3.at10.symm.trans h4.at10
        cases this
        rfl
      obtain ⟨vs, er, _⟩ := h4.rows
      have nw : ∀ b, H b = none → b ≠ r := fun b f z => by
        rw [z, e, er] at f
        cases f
      refine ⟨?_, ea, hd.move (fun b f => nw b f) fun _ _ _ z => z⟩
      cases hd with
      | tup f _ _ => exact nw _ f
    · show ∃ vs, _ ∧ DqAll _ _ vs (rd ++ [])
      rw [List.append_nil]
      exact h3.rows
    · show (rd ++ []).length ≤ 200
      rw [List.append_nil]
      omega
  · rintro i σ H _ ⟨r, h3⟩
    exact SqT.of h3.ex.2.1
  · rintro i x σ H hi ⟨r, h3⟩
    obtain ⟨a', xs', e1, e2, _, items'⟩ := loop_at h3.ex.2.2
    cases e1
    cases h3.ex.2.1.symm.trans e2
    obtain ⟨w, b, hw, rfl, eb⟩ := items' i x hi
    refine ⟨b, _, rfl, SqT.of eb, rfl, _, _, rfl, _, _, rfl, rfl, ?_⟩
    have lp := pref_len (hd := head ns n5) (n5 := n5) (i := i)
    refine hk _ _ _ ⟨⟨w.1, w.2, rd ++ loopPref (head ns n5) n5 i, a, xs, ws_short hw, by rw [List.length_append]; omega⟩, ⟨r, (h3.ev.set (by omega)).set (by omega), ⟨?_, ?_, h3.ex⟩, ?_, h3.rows, h3.few, h3.z, h3.new, h3.nep⟩, fun σ' H' ⟨r', h5⟩ => ?_⟩
    · rw [List.getElem?_set_ne (by omega), List.getElem?_set_self (by rw [h3.ev.len]; omega)]
    · rw [List.getElem?_set_self (by rw [List.length_set, h3.ev.len]; omega)]
    · rw [List.getElem?_set_ne (by omega), List.getElem?_set_ne (by omega)]
      exact h3.at10
    · refine ⟨r', h5.ev, h5.ex.2.2, h5.at10, ?_, ?_, h5.z, h5.new, h5.nep⟩
      · rw [pref_step hw, ← List.append_assoc]
        have z := h5.rows
        rw [List.append_assoc (rd ++ loopPref (head ns n5) n5 i)] at z
        exact z
      · rw [pref_step hw, ← List.append_assoc]
        have z := h5.few
        rw [List.append_assoc (rd ++ loopPref (head ns n5) n5 i)] at z
        exact z
  · rintro σ H ⟨r, h3⟩
    rw [l5] at h3
    exact h2 _ _ ⟨r, h3.ev, trivial, h3.at10, h3.rows, h3.few, h3.z, h3.new, h3.nep⟩
end
theorem ix_listK {X : Cx} {K : Frag} (h : X.K = K) : IxR X (rIxL K) := by
  subst h
  exact ix_list
def ExtPN (p : Addr) (H H' : Hp) : Prop := ∀ b o, b ≠ p → H b = some o → (∀ ps, o ≠ .tbl ps) → H' b = some o
section
variable {P : Program} {w : World} {K : Frag} {mg : Str → Option Value} {base : Heap} {f fN fI Pt : Addr} {fd fdN fdI : FuncData}
theorem len16 {α : Type} : ∀ {σ : List α}, σ.length = 16 → ∃ a0 a1 a2 a3 a4 a5 a6 a7 a8 a9 b0 b1 b2 b3 b4 b5, σ = [a0, a1, a2, a3, a4, a5, a6, a7, a8, a9, b0, b1, b2, b3, b4, b5]
  | [a0, a1, a2, a3, a4, a5, a6, a7, a8, a9, b0, b1, b2, b3, b4, b5], _ => ⟨a0, a1, a2, a3, a4, a5, a6, a7, a8, a9, b0, b1, b2, b3, b4, b5, rfl⟩
theorem add_ok {x y : Str} {m n : Nat} (hx : x.length ≤ m) (hy : y.length ≤ n) (h : m + n ≤ 16000000 := by decide) : x.length + y.length ≤ sizeLine := by
  rw [sizeLine_eq]
  omega
theorem app_le {x y : Str} {m n : Nat} (hx : x.length ≤ m) (hy : y.length ≤ n) : (x ++ y).length ≤ m + n := by
  rw [Str.length_append]
  omega
theorem lc_strs {K : Frag} {a : Addr} {xs : List Str} {h : Str → Str} {g : TG} {te : TE} {vs : List Nat} {σ : L2.St} {H1 : Hp} {D : Addr} {Qd : Hp → Prop} (nD : H1 D = none) (hx : H1 a = some (.lst (xs.map V.str))) (hl : xs.length ≤ 1000)
    (hs : ∀ (x : Str) (H : Hp) (k : VK), x ∈ xs → Same H1 H → (∀ H4, Same H H4 → k (.str (h x)) H4) → g (.str x) (wipe σ vs) H fun σ2 H2 => wipe σ2 vs = wipe σ vs ∧ te σ2 H2 k)
    (hd : ∀ H, Same H1 H → H D = some (.lst ((xs.map h).map V.str)) → Qd H) :
    ∃ W : Nat → Nat → Hp → Prop, (∃ m, W 0 m (upd H1 D (.lst []))) ∧ ∀ i m H, W i m H →
      ((Itl K a).stop i H ∧ Qd H) ∨ ((Itl K a).go i H ∧ ∃ Nx : Hp → Prop, (∀ H', Nx H' → ∃ m', m' < m ∧ W (i + 1) m' H') ∧ ∀ x H', (Itl K a).yld i H x H' → g x (wipe σ vs) H' fun σ2 H2 => wipe σ2 vs = wipe σ vs ∧ tYes σ2 H2 fun b H3 =>
        if b = true then te σ2 H3 fun y H4 => ∃ acc, H4 D = some (.lst acc) ∧ acc.length < sizeLine ∧ Nx (upd H4 D (.lst (acc ++ [y]))) else Nx H3) := by
  refine lc_vals (walk_list (xs := xs.map V.str)) nD ((xs.map h).map V.str) (by rw [List.length_map, List.length_map, List.length_map]) (by rw [List.length_map]; omega) (fun Hc sc => SqL.of (sc _ _ hx)) ?_ hd
  rintro i x y Hc Hc' k hy sc ⟨rfl, hx'⟩ hk
  rw [List.getElem?_map, Option.map_eq_some_iff] at hx'
  obtain ⟨z, hz, rfl⟩ := hx'
  rw [List.getElem?_map, List.getElem?_map, hz] at hy
  cases hy
  exact hs z _ k (List.mem_of_getElem? hz) sc hk
mutual
theorem dq_nt {F : Addr → Prop} {H : Hp} : ∀ {v : V} {d : PyData}, Dq F H v d → Dq (fun a => F a ∧ ∀ ps, H a ≠ some (.tbl ps)) H v d
  | _, _, .non => .non
  | _, _, .bl x => .bl x
  | _, _, .int x => .int x
  | _, _, .str x => .str x
  | _, _, .lst f e h => .lst ⟨f, fun ps z => by rw [e] at z; cases z⟩ e (dqall_nt h)
  | _, _, .tup f e h => .tup ⟨f, fun ps z => by rw [e] at z; cases z⟩ e (dqall_nt h)
  | _, _, .dk f e h => .dk ⟨f, fun ps z => by rw [e] at z; cases z⟩ e (dqall_nt h)
theorem dqall_nt {F : Addr → Prop} {H : Hp} : ∀ {vs : List V} {ds : List PyData}, DqAll F H vs ds → DqAll (fun a => F a ∧ ∀ ps, H a ≠ some (.tbl ps)) H vs ds
  | _, _, .nil => .nil
  | _, _, .cons h hs => .cons (dq_nt h) (dqall_nt hs)
end
theorem dq_strs {F : Addr → Prop} {H : Hp} : ∀ {vs : List V} {ls : List Str}, DqAll F H vs (ls.map PyData.str) → vs = ls.map V.str
  | _, [], .nil => rfl
  | _, x :: ls, .cons h hs => by
    cases h
    rw [dq_strs hs]
    rfl
theorem tabs_lst {T : List (Addr × Str)} {H : Hp} {D : Addr} {xs : List V} {o : HO} (t : LamX.Tabs T H) (e : H D = some (.lst xs)) : LamX.Tabs T (upd H D o) := fun q hq => by
  obtain ⟨ps, h1, h2, h3⟩ := t q hq
  refine ⟨ps, ?_, h2, fun pos cv hc => ?_⟩
  · rw [upd_ne (ne_of h1 e fun z => by cases z)]
    exact h1
  · obtain ⟨c, e1, e2⟩ := h3 pos cv hc
    refine ⟨c, e1, ?_⟩
    rw [upd_ne (ne_of e2 e fun z => by cases z)]
    exact e2
theorem tabs_ext {T : List (Addr × Str)} {H H' : Hp} {p : Addr} {n : Nat} (t : LamX.Tabs T H) (hp : Pot H p n) (x : Ext p H H') : LamX.Tabs T H' := fun q hq => by
  obtain ⟨o1, m1, c1, e, _⟩ := hp
  obtain ⟨ps, h1, h2, h3⟩ := t q hq
  refine ⟨ps, x _ _ (ne_of h1 e fun z => by cases z) h1, h2, fun pos cv hc => ?_⟩
  obtain ⟨c, e1, e2⟩ := h3 pos cv hc
  exact ⟨c, e1, x _ _ (ne_of e2 e fun z => by cases z) e2⟩
theorem small_text {j : Nat} (h : j < 9) : (toString (0 + (j : Int)) : Str).length ≤ 2 := by
  have : ∀ j : Fin 9, (toString (0 + ((j : Nat) : Int)) : Str).length ≤ 2 := by decide +kernel
  exact this ⟨j, h⟩
theorem pool_short {n : Str} (h : n ∈ pool) : n.length ≤ 8 := by
  have : pool.all (fun n => decide (n.length ≤ 8)) = true := by decide +kernel
  exact of_decide_eq_true (List.all_eq_true.mp this n h)
def spRight (Pt : Addr) : Sp := fun vs H Q _ => ∃ p : Addr, vs = [.ref p] ∧ Pot H p 0 ∧ LamX.Tabs [(Pt, qIs)] H ∧ ∀ H', ExtPN p H H' → LamX.Tabs [(Pt, qIs)] H' → Q (.bl true) H'
abbrev Qn : Type := {q : List Str × Str × Str // Nm q.1 q.2.1 q.2.2}
theorem ok_right (F : FnP K "_law_right" s_Lright f fd) (GN : FnOk P w K mg base CX0 3 fN fdN P_Lnames (spNames 0)) (FN : FnP K "_law_names" s_Lnames fN fdN) (gN : mg "_law_names" = some (.ref fN)) (GI : FnOk P w K mg base CX0 12 fI fdI P_Lis (spIs K Pt)) (FI : FnP K "_law_is" s_Lis fI fdI) (gI : mg "_law_is" = some (.ref fI))
    (gA : mg "all" = none) (gR : mg "range" = none) (gS : mg "str" = none) (hM : ∀ ns rest n0 n5, (ns ++ rest).Perm pool → Nm ns n0 n5 → ∀ d ∈ rowsAll ns n0 n5, ∃ (ls : List Str) (k : Nat), d = rowD ls k ∧ Right ls k) : FnOk P w K mg base CX0 13 f fd P_Lright (spRight Pt) := by
  have bN : Binds K fdN P_Lnames [] := FN.bindsN fun _ _ _ _ _ _ us hl => match us, hl with | [_, _], _ => rfl
  have bI : Binds K fdI P_Lis [] := FI.bindsN fun _ _ _ _ _ _ us hl => match us, hl with | [_, _], _ => rfl
  refine F.ok sc_Lright (fun vs H Q E h => ?_) (fun cdv A outer s H vs Q E hr h => ?_)
  · obtain ⟨p, rfl, _⟩ := h
    rfl
  · obtain ⟨p, rfl, hp, tabs, hq⟩ := h
    have hp0 : ∃ o, H p = some o := by
      obtain ⟨o1, m1, c1, e1, _⟩ := hp
      exact ⟨_, e1⟩
    refine ⟨_, PSs.nox (pss_cons (ps_set (i := 1) sc_Lright.nd rfl (Or.inr rfl) (pe_call GN (hr.mono (by decide)) (by rfl) gN FN.kp bN .nil pass0 (pa_cons (pv 0) (pa_cons pe_int pa_nil))))
      (pss_cons (ps_set (i := 2) sc_Lright.nd rfl (Or.inr rfl) pe_str)
      (pss_ex (fun qn : Qn => have hN : Nm qn.1.1 qn.1.2.1 qn.1.2.2 := qn.2
      (pss_cons (ps_setLc (i := 3) (own := [("_law_name", 4)]) (g := gName 4) (tt := tYes) rfl sc_Lright.nd rfl rfl rfl (pi_list (pe_slice sl_list (pv 1) po_none (po_some pe_int))) (blkOk_by (N := N_Lright) (sc := defScope s_Lright) (by decide +kernel))
        (fun _ _ _ _ _ => pg_name (i := 4) sc_Lright.nd rfl (Or.inl rfl)) (fun _ _ _ _ _ => pts_nil) (fun _ _ _ _ _ => pe_op op_add_str (pe_op op_add_str pe_str (pv 4)) pe_str))
      (pss_cons (ps_setLc (i := 5) (own := [("_law_name", 4)]) (g := gName 4) (tt := tYes) rfl sc_Lright.nd rfl rfl rfl (pi_list (pe_slice sl_list (pv 1) po_none (po_some pe_int))) (blkOk_by (N := N_Lright) (sc := defScope s_Lright) (by decide +kernel))
        (fun _ _ _ _ _ => pg_name (i := 4) sc_Lright.nd rfl (Or.inl rfl)) (fun _ _ _ _ _ => pts_nil) (fun _ _ _ _ _ => pe_op op_add_str (pe_op op_add_str pe_str (pv 4)) (pv 2)))
      (pss_cons (ps_set (i := 6) sc_Lright.nd rfl (Or.inl rfl) (pe_op op_cat (pe_slice sl_list (pv 3) po_none (po_some pe_int)) (pe_lst (pa_cons (pe_op op_add_str (pe_op op_add_str pe_str (pe_ix ix_list (pv 1) pe_int (fun _ _ => rfl))) (pe_op op_mul_str (pv 2) pe_int)) pa_nil))))
      (pss_cons (ps_setLc (i := 7) (own := [("_law_name", 4)]) (g := gName 4) (tt := tYes) rfl sc_Lright.nd rfl rfl rfl (pi_list (pe_slice sl_list (pv 1) po_none (po_some pe_int))) (blkOk_by (N := N_Lright) (sc := defScope s_Lright) (by decide +kernel))
        (fun _ _ _ _ _ => pg_name (i := 4) sc_Lright.nd rfl (Or.inl rfl)) (fun _ _ _ _ _ => pts_nil) (fun _ _ _ _ _ => pe_op op_add_str (pe_op op_add_str (pe_op op_add_str (pe_op op_add_str (pe_op op_add_str (pe_op op_add_str pe_str (pv 4)) pe_str) (pe_ix (ix_listK (K := K) rfl) (pv 1) pe_int (fun _ _ => rfl))) pe_str) (pe_ix (ix_listK (K := K) rfl) (pv 1) pe_int (fun _ _ => rfl))) pe_str))
      (pss_cons (ps_setLc (i := 8) (own := [("_law_number", 9)]) (g := gName 9) (tt := tYes) rfl sc_Lright.nd rfl rfl rfl (pi_range1 (by rfl) gR (pa_cons pe_int pa_nil)) (blkOk_by (N := N_Lright) (sc := defScope s_Lright) (by decide +kernel))
        (fun _ _ _ _ _ => pg_name (i := 9) sc_Lright.nd rfl (Or.inl rfl)) (fun _ _ _ _ _ => pts_nil) (fun _ _ _ _ _ => pe_op op_add_str (pe_op op_add_str (pe_op op_add_str pe_str (pe_ix (ix_listK (K := K) rfl) (pv 1) pe_int (fun _ _ => rfl))) pe_str) (pe_callTy call_str_int (by rfl) gS (by decide +kernel) (pa_cons (pv 9) pa_nil))))
      (pss_stepC (ps_rows0 (p := p) (m := 30) (H0 := H) (ns := qn.1.1) (n0 := qn.1.2.1) (n5 := qn.1.2.2) (ps_set (i := 10) sc_Lright.nd rfl (Or.inl rfl) (jd_listS (jds_cons rds0.stb (jd_row (jn_cat rds0.stb ((jn_to (k := 3) (jl_var (pv 3) rds0.c3 len_people)).jl) ((jn_to (k := 6) (jl_var (pv 5) rds0.c5 len_labs)).jl))) (jds_cons rds0.stb (jd_row (jn_cat rds0.stb (jl_var (pv 3) rds0.c3 len_people) ((jn_to (k := 1) (jl_var (pv 5) rds0.c5 len_labs)).jl))) (jds_cons rds0.stb (jd_row (jn_cat rds0.stb ((jn_to (k := 1) (jl_var (pv 3) rds0.c3 len_people)).jl) (jl_var (pv 5) rds0.c5 len_labs))) (jds_cons rds0.stb (jd_row (jn_to (k := 1) (jl_var (pv 5) rds0.c5 len_labs))) (jds_cons rds0.stb (jd_row (jn_to (k := 2) (jl_var (pv 3) rds0.c3 len_people))) (jds_nil)))))) (Nat.le_of_ble_eq_true rfl))) (Nat.le_of_ble_eq_true rfl) hp0)
      (pss_stepC (ps_ext exT_ok (pv 10) (jd_list (jds_cons (rds1 exT_ok).stb (jd_row (jn_cat (rds1 exT_ok).stb ((jn_cat (rds1 exT_ok).stb (jl_var (pv 6) (rds1 exT_ok).c6 len_head) ((jn_to (k := 24) (jl_var (pv 7) (rds1 exT_ok).c7 len_results)).jl)).jl) ((jn_to (k := 8) (jl_var (pv 8) (rds1 exT_ok).c8 len_facts)).jl))) (jds_cons (rds1 exT_ok).stb (jd_row (jn_cat (rds1 exT_ok).stb (jl_var (pv 6) (rds1 exT_ok).c6 len_head) (jl_var (pv 7) (rds1 exT_ok).c7 len_results))) (jds_cons (rds1 exT_ok).stb (jd_row (jn_cat (rds1 exT_ok).stb (jl_var (pv 6) (rds1 exT_ok).c6 len_head) (jl_var (pv 8) (rds1 exT_ok).c8 len_facts))) (jds_nil)))) (Nat.le_of_ble_eq_true rfl)) (Nat.le_of_ble_eq_true rfl))
      (pss_stepC (ps_app exT_ok (pv 10) (jd_row (jn_cat (rds1 exT_ok).stb ((jn_cat (rds1 exT_ok).stb (jl_var (pv 6) (rds1 exT_ok).c6 len_head) ((jn_to (k := 24) (jl_var (pv 7) (rds1 exT_ok).c7 len_results)).jl)).jl) (jl_var (pv 8) (rds1 exT_ok).c8 len_facts))) (Nat.le_of_ble_eq_true rfl))
      (pss_stepC (ps_ext exT_ok (pv 10) (jd_list (jds_cons (rds1 exT_ok).stb (jd_row (jn_cat (rds1 exT_ok).stb ((jn_to (k := 1) (jl_var (pv 3) (rds1 exT_ok).c3 len_people)).jl) ((jn_disp (n := 1) (pss_consS (rds1 exT_ok).stb (js_add (rds1 exT_ok).stb (js_const (n := 5) (by decide +kernel)) (js_mul (js_var (pv 2) (rds1 exT_ok).c2 len_tab) mul5 lenm5)) pss_nilS) (Nat.le_refl _)).jl))) (jds_cons (rds1 exT_ok).stb (jd_row (jn_cat (rds1 exT_ok).stb ((jn_to (k := 1) (jl_var (pv 3) (rds1 exT_ok).c3 len_people)).jl) ((jn_disp (n := 1) (pss_consS (rds1 exT_ok).stb (js_const (n := 5) (by decide +kernel)) pss_nilS) (Nat.le_refl _)).jl))) (jds_nil))) (Nat.le_of_ble_eq_true rfl)) (Nat.le_of_ble_eq_true rfl))
      (pss_stepC (ps_app exT_ok (pv 10) (jd_row (jn_cat (rds1 exT_ok).stb ((jn_to (k := 1) (jl_var (pv 3) (rds1 exT_ok).c3 len_people)).jl) ((jn_disp (n := 1) (pss_consS (rds1 exT_ok).stb (js_const (n := 13) (by decide +kernel)) pss_nilS) (Nat.le_refl _)).jl))) (Nat.le_of_ble_eq_true rfl))
      (pss_stepC (ps_ext exT_ok (pv 10) (jd_list (jds_cons (rds1 exT_ok).stb (jd_row (jn_cat (rds1 exT_ok).stb ((jn_to (k := 1) (jl_var (pv 3) (rds1 exT_ok).c3 len_people)).jl) ((jn_disp (n := 1) (pss_consS (rds1 exT_ok).stb (js_const (n := 21) (by decide +kernel)) pss_nilS) (Nat.le_refl _)).jl))) (jds_cons (rds1 exT_ok).stb (jd_row (jn_cat (rds1 exT_ok).stb ((jn_to (k := 1) (jl_var (pv 3) (rds1 exT_ok).c3 len_people)).jl) ((jn_disp (n := 1) (pss_consS (rds1 exT_ok).stb (js_const (n := 18) (by decide +kernel)) pss_nilS) (Nat.le_refl _)).jl))) (jds_nil))) (Nat.le_of_ble_eq_true rfl)) (Nat.le_of_ble_eq_true rfl))
      (pss_stepC (ps_ext exT_ok (pv 10) (jd_list (jds_cons (rds1 exT_ok).stb (jd_row (jn_cat (rds1 exT_ok).stb ((jn_to (k := 1) (jl_var (pv 3) (rds1 exT_ok).c3 len_people)).jl) ((jn_disp (n := 1) (pss_consS (rds1 exT_ok).stb (js_const (n := 15) (by decide +kernel)) pss_nilS) (Nat.le_refl _)).jl))) (jds_cons (rds1 exT_ok).stb (jd_row (jn_cat (rds1 exT_ok).stb ((jn_to (k := 1) (jl_var (pv 3) (rds1 exT_ok).c3 len_people)).jl) ((jn_disp (n := 1) (pss_consS (rds1 exT_ok).stb (js_const (n := 16) (by decide +kernel)) pss_nilS) (Nat.le_refl _)).jl))) (jds_nil))) (Nat.le_of_ble_eq_true rfl)) (Nat.le_of_ble_eq_true rfl))
      (pss_stepC (ps_ext exT_ok (pv 10) (jd_list (jds_cons (rds1 exT_ok).stb (jd_row (jn_cat (rds1 exT_ok).stb ((jn_to (k := 1) (jl_var (pv 3) (rds1 exT_ok).c3 len_people)).jl) ((jn_disp (n := 1) (pss_consS (rds1 exT_ok).stb (js_const (n := 15) (by decide +kernel)) pss_nilS) (Nat.le_refl _)).jl))) (jds_cons (rds1 exT_ok).stb (jd_row (jn_cat (rds1 exT_ok).stb ((jn_disp (n := 1) (pss_consS (rds1 exT_ok).stb (js_const (n := 13) (by decide +kernel)) pss_nilS) (Nat.le_refl _)).jl) ((jn_to (k := 1) (jl_var (pv 5) (rds1 exT_ok).c5 len_labs)).jl))) (jds_nil))) (Nat.le_of_ble_eq_true rfl)) (Nat.le_of_ble_eq_true rfl))
      (pss_stepC (ps_app exT_ok (pv 10) (jd_row (jn_cat (rds1 exT_ok).stb ((jn_disp (n := 1) (pss_consS (rds1 exT_ok).stb (js_const (n := 13) (by decide +kernel)) pss_nilS) (Nat.le_refl _)).jl) ((jn_to (k := 1) (jl_var (pv 5) (rds1 exT_ok).c5 len_labs)).jl))) (Nat.le_of_ble_eq_true rfl))
      (pss_stepC (ps_ext exT_ok (pv 10) (jd_list (jds_cons (rds1 exT_ok).stb (jd_row (jn_cat (rds1 exT_ok).stb ((jn_disp (n := 1) (pss_consS (rds1 exT_ok).stb (js_const (n := 19) (by decide +kernel)) pss_nilS) (Nat.le_refl _)).jl) ((jn_to (k := 1) (jl_var (pv 5) (rds1 exT_ok).c5 len_labs)).jl))) (jds_cons (rds1 exT_ok).stb (jd_row (jn_cat (rds1 exT_ok).stb ((jn_disp (n := 1) (pss_consS (rds1 exT_ok).stb (js_const (n := 20) (by decide +kernel)) pss_nilS) (Nat.le_refl _)).jl) ((jn_to (k := 1) (jl_var (pv 5) (rds1 exT_ok).c5 len_labs)).jl))) (jds_nil))) (Nat.le_of_ble_eq_true rfl)) (Nat.le_of_ble_eq_true rfl))
      (pss_stepC (ps_str (j := 11) (s := mDay qn.1.2.1 qn.1.2.2) (ps_set (i := 11) sc_Lright.nd rfl (Or.inl rfl) (js_add (rds1 exT_ok).stb (js_add (rds1 exT_ok).stb (js_add (rds1 exT_ok).stb (js_add (rds1 exT_ok).stb (js_const (n := 9) (by decide +kernel)) (js_item (k := 0) (jl_var (n := 30) (pv 1) (rds1 exT_ok).c1 (Nat.le_of_eq hN.len)) hN.h0 hN.s0)) (js_const (n := 1) (by decide +kernel))) (js_item (k := 5) (jl_var (n := 30) (pv 1) (rds1 exT_ok).c1 (Nat.le_of_eq hN.len)) hN.h5 hN.s5)) (js_const (n := 1) (by decide +kernel))).run) (by omega) (by omega) exT_ok)
      (pss_stepC (ps_ext exS_ok (pv 10) (jd_list (jds_cons (rds1 exS_ok).stb (jd_row (jn_cat (rds1 exS_ok).stb (jl_var (pv 6) (rds1 exS_ok).c6 len_head) ((jn_disp (n := 1) (pss_consS (rds1 exS_ok).stb (js_add (rds1 exS_ok).stb (js_var (pv 11) (fun σ H h => h.elim fun r h => h.ex) hN.lday) (js_const (n := 4) (by decide +kernel))) pss_nilS) (Nat.le_refl _)).jl))) (jds_cons (rds1 exS_ok).stb (jd_row (jn_cat (rds1 exS_ok).stb (jl_var (pv 6) (rds1 exS_ok).c6 len_head) ((jn_disp (n := 1) (pss_consS (rds1 exS_ok).stb (js_add (rds1 exS_ok).stb (js_var (pv 11) (fun σ H h => h.elim fun r h => h.ex) hN.lday) (js_const (n := 5) (by decide +kernel))) pss_nilS) (Nat.le_refl _)).jl))) (jds_cons (rds1 exS_ok).stb (jd_row (jn_cat (rds1 exS_ok).stb (jl_var (pv 6) (rds1 exS_ok).c6 len_head) ((jn_disp (n := 1) (pss_consS (rds1 exS_ok).stb (js_add (rds1 exS_ok).stb (js_var (pv 11) (fun σ H h => h.elim fun r h => h.ex) hN.lday) (js_const (n := 4) (by decide +kernel))) pss_nilS) (Nat.le_refl _)).jl))) (jds_nil)))) (Nat.le_of_ble_eq_true rfl)) (Nat.le_of_ble_eq_true rfl))
      (pss_stepC (ps_app exS_ok (pv 10) (jd_row (jn_cat (rds1 exS_ok).stb (jl_var (pv 6) (rds1 exS_ok).c6 len_head) ((jn_disp (n := 1) (pss_consS (rds1 exS_ok).stb (js_add (rds1 exS_ok).stb (js_var (pv 11) (fun σ H h => h.elim fun r h => h.ex) hN.lday) (js_const (n := 4) (by decide +kernel))) pss_nilS) (Nat.le_refl _)).jl))) (Nat.le_of_ble_eq_true rfl))
      (pss_stepC (ps_ext exS_ok (pv 10) (jd_list (jds_cons (rds1 exS_ok).stb (jd_row (jn_cat (rds1 exS_ok).stb (jl_var (pv 6) (rds1 exS_ok).c6 len_head) ((jn_disp (n := 1) (pss_consS (rds1 exS_ok).stb (js_add (rds1 exS_ok).stb (js_var (pv 11) (fun σ H h => h.elim fun r h => h.ex) hN.lday) (js_const (n := 5) (by decide +kernel))) pss_nilS) (Nat.le_refl _)).jl))) (jds_cons (rds1 exS_ok).stb (jd_row (jn_cat (rds1 exS_ok).stb (jl_var (pv 6) (rds1 exS_ok).c6 len_head) ((jn_disp (n := 1) (pss_consS (rds1 exS_ok).stb (js_add (rds1 exS_ok).stb (js_var (pv 11) (fun σ H h => h.elim fun r h => h.ex) hN.lday) (js_const (n := 4) (by decide +kernel))) pss_nilS) (Nat.le_refl _)).jl))) (jds_cons (rds1 exS_ok).stb (jd_row (jn_cat (rds1 exS_ok).stb (jl_var (pv 6) (rds1 exS_ok).c6 len_head) ((jn_disp (n := 2) (pss_consS (rds1 exS_ok).stb (js_add (rds1 exS_ok).stb (js_var (pv 11) (fun σ H h => h.elim fun r h => h.ex) hN.lday) (js_const (n := 3) (by decide +kernel))) (pss_consS (rds1 exS_ok).stb (js_add (rds1 exS_ok).stb (js_var (pv 11) (fun σ H h => h.elim fun r h => h.ex) hN.lday) (js_const (n := 3) (by decide +kernel))) pss_nilS)) (Nat.le_refl _)).jl))) (jds_nil)))) (Nat.le_of_ble_eq_true rfl)) (Nat.le_of_ble_eq_true rfl))
      (pss_stepC (ps_loop (fun D σ H h => h) (ps_for PassesOwn.never rfl (pi_tup (pd_tup (pds_cons (pd_tup (pds_cons pd_str (pds_cons pd_int pds_nil))) (pds_cons (pd_tup (pds_cons pd_str (pds_cons pd_int pds_nil))) (pds_cons (pd_tup (pds_cons pd_str (pds_cons pd_int pds_nil))) (pds_cons (pd_tup (pds_cons pd_str (pds_cons pd_int pds_nil))) (pds_cons (pd_tup (pds_cons pd_str (pds_cons pd_int pds_nil))) (pds_nil)))))))) (pg_tup rfl (pgs_cons (pg_name (i := 12) sc_Lright.nd rfl (Or.inl rfl)) (pgs_cons (pg_name (i := 13) sc_Lright.nd rfl (Or.inl rfl)) pgs_nil))) (pss_ex (fun x : LoopX => pss_stepC (ps_app (rd := x.rd) (ex := exL x.a x.xs x.w x.k) exL_ok (pv 10) (jd_rowV (rds1 exL_ok).stb (jn_cat (rds1 exL_ok).stb (jl_var (pv 6) (rds1 exL_ok).c6 len_head) ((jn_disp (n := 1) (pss_consS (rds1 exL_ok).stb (js_add (rds1 exL_ok).stb (js_add (rds1 exL_ok).stb (js_add (rds1 exL_ok).stb (js_const (n := 10) (by decide +kernel)) (js_item (k := 5) (jl_var (n := 30) (pv 1) (rds1 exL_ok).c1 (Nat.le_of_eq hN.len)) hN.h5 hN.s5)) (js_const (n := 4) (by decide +kernel))) (js_var (pv 12) (fun σ H h => h.elim fun r h => h.ex.1) x.hw)) pss_nilS) (Nat.le_refl _)).jl)) (pv 13) (fun σ H h => h.elim fun r h => h.ex.2.1)) (by rw [List.length_append]; have := x.hr; show x.rd.length + 1 ≤ 200; omega)) (pss_oneC (ps_app exL_ok (pv 10) (jd_rowV (rds1 exL_ok).stb (jn_cat (rds1 exL_ok).stb (jl_var (pv 6) (rds1 exL_ok).c6 len_head) ((jn_disp (n := 1) (pss_consS (rds1 exL_ok).stb (js_add (rds1 exL_ok).stb (js_add (rds1 exL_ok).stb (js_add (rds1 exL_ok).stb (js_const (n := 12) (by decide +kernel)) (js_item (k := 5) (jl_var (n := 30) (pv 1) (rds1 exL_ok).c1 (Nat.le_of_eq hN.len)) hN.h5 hN.s5)) (js_const (n := 3) (by decide +kernel))) (js_var (pv 12) (fun σ H h => h.elim fun r h => h.ex.1) x.hw)) pss_nilS) (Nat.le_refl _)).jl)) (pv 13) (fun σ H h => h.elim fun r h => h.ex.2.1)) (by rw [List.length_append, List.length_append]; have := x.hr; show x.rd.length + 1 + 1 ≤ 200; omega)))))) exS_ok (Nat.le_of_ble_eq_true rfl))
      (pss_stepC (ps_str (j := 14) (s := mRose qn.1.2.1) (ps_set (i := 14) sc_Lright.nd rfl (Or.inl rfl) (js_add (rds1 exT_ok).stb (js_add (rds1 exT_ok).stb (js_const (n := 10) (by decide +kernel)) (js_item (k := 0) (jl_var (n := 30) (pv 1) (rds1 exT_ok).c1 (Nat.le_of_eq hN.len)) hN.h0 hN.s0)) (js_const (n := 1) (by decide +kernel))).run) (by omega) (by omega) exT_ok)
      (pss_stepC (ps_ext exS_ok (pv 10) (jd_list (jds_cons (rds1 exS_ok).stb (jd_row (jn_cat (rds1 exS_ok).stb (jl_var (pv 6) (rds1 exS_ok).c6 len_head) ((jn_disp (n := 1) (pss_consS (rds1 exS_ok).stb (js_add (rds1 exS_ok).stb (js_var (pv 14) (fun σ H h => h.elim fun r h => h.ex) hN.lrose) (js_const (n := 7) (by decide +kernel))) pss_nilS) (Nat.le_refl _)).jl))) (jds_cons (rds1 exS_ok).stb (jd_row (jn_cat (rds1 exS_ok).stb (jl_var (pv 6) (rds1 exS_ok).c6 len_head) ((jn_disp (n := 1) (pss_consS (rds1 exS_ok).stb (js_add (rds1 exS_ok).stb (js_var (pv 14) (fun σ H h => h.elim fun r h => h.ex) hN.lrose) (js_const (n := 6) (by decide +kernel))) pss_nilS) (Nat.le_refl _)).jl))) (jds_cons (rds1 exS_ok).stb (jd_row (jn_cat (rds1 exS_ok).stb (jl_var (pv 6) (rds1 exS_ok).c6 len_head) ((jn_disp (n := 1) (pss_consS (rds1 exS_ok).stb (js_add (rds1 exS_ok).stb (js_var (pv 14) (fun σ H h => h.elim fun r h => h.ex) hN.lrose) (js_const (n := 5) (by decide +kernel))) pss_nilS) (Nat.le_refl _)).jl))) (jds_nil)))) (Nat.le_of_ble_eq_true rfl)) (Nat.le_of_ble_eq_true rfl))
      (pss_stepC (ps_ext exS_ok (pv 10) (jd_list (jds_cons (rds1 exS_ok).stb (jd_row (jn_cat (rds1 exS_ok).stb (jl_var (pv 6) (rds1 exS_ok).c6 len_head) ((jn_disp (n := 1) (pss_consS (rds1 exS_ok).stb (js_add (rds1 exS_ok).stb (js_var (pv 14) (fun σ H h => h.elim fun r h => h.ex) hN.lrose) (js_const (n := 7) (by decide +kernel))) pss_nilS) (Nat.le_refl _)).jl))) (jds_cons (rds1 exS_ok).stb (jd_row (jn_cat (rds1 exS_ok).stb (jl_var (pv 6) (rds1 exS_ok).c6 len_head) ((jn_disp (n := 1) (pss_consS (rds1 exS_ok).stb (js_add (rds1 exS_ok).stb (js_var (pv 14) (fun σ H h => h.elim fun r h => h.ex) hN.lrose) (js_const (n := 3) (by decide +kernel))) pss_nilS) (Nat.le_refl _)).jl))) (jds_cons (rds1 exS_ok).stb (jd_row (jn_cat (rds1 exS_ok).stb ((jn_cat (rds1 exS_ok).stb (jl_var (pv 6) (rds1 exS_ok).c6 len_head) ((jn_to (k := 1) (jl_var (pv 8) (rds1 exS_ok).c8 len_facts)).jl)).jl) ((jn_to (k := 1) (jl_var (pv 7) (rds1 exS_ok).c7 len_results)).jl))) (jds_nil)))) (Nat.le_of_ble_eq_true rfl)) (Nat.le_of_ble_eq_true rfl))
      (pss_endC (pss_one (ps_ret (pe_callB (cr_all rfl) (by rfl) gA (by decide +kernel) (pa_cons (pe_lc (own := [("_law_some_here", 15), ("_law_due", 13)]) (g := gTup K 2 (gCons (gName 15) (gCons (gName 13) gNil))) (tt := tYes) rfl sc_Lright.nd (pi_list (pv 10)) (blkOk_by (N := N_Lright) (sc := defScope s_Lright) (by decide +kernel)) (fun _ _ _ _ _ => pg_tup rfl (pgs_cons (pg_name (i := 15) sc_Lright.nd rfl (Or.inl rfl)) (pgs_cons (pg_name (i := 13) sc_Lright.nd rfl (Or.inl rfl)) pgs_nil))) (fun _ _ _ _ _ => pts_nil) (fun _ _ _ _ _ => pe_call GI hr (by rfl) gI FI.kp bI .nil pass0 (pa_cons (pv 15) (pa_cons (pv 13) pa_nil)))) pa_nil)))))))))))))))))))))))))))))))), ?_⟩
    refine ⟨_, rfl, p, 30, rfl, hp, by omega, by omega, fun q ns rest H1 nq eq hl hpm hpt hx => ?_⟩
    obtain ⟨n0, h0⟩ : ∃ n0, ns[0]? = some n0 := ⟨_, List.getElem?_eq_getElem (by omega)⟩
    obtain ⟨n5, h5⟩ : ∃ n5, ns[5]? = some n5 := ⟨_, List.getElem?_eq_getElem (by omega)⟩
    have hN : Nm ns n0 n5 := ⟨hl, fun n hn => pool_short (hpm.mem_iff.mp (List.mem_append_left _ hn)), h0, h5⟩
    have ct : ∀ k : Nat, cutV (ns.map V.str) none (some (k : Int)) = (ns.take k).map V.str := fun k => by rw [cut_to, List.map_take]
    have at0 : atI (ns.map V.str) 0 = some (.str n0) := atI_nat (j := 0) (by rw [List.getElem?_map, h0]; rfl)
    have at5 : atI (ns.map V.str) 5 = some (.str n5) := atI_nat (j := 5) (by rw [List.getElem?_map, h5]; rfl)
    have s0 := hN.s0
    have s5 := hN.s5
    refine ⟨⟨(ns, n0, n5), hN⟩, ?_⟩
    refine ⟨_, rfl, ⟨4, rfl, q, _, rfl, SqL.of eq, fun a1 na1 => ?_⟩⟩
    have e1 : upd H1 a1 (.lst (cutV (ns.map V.str) none (some 4))) a1 = some (.lst ((ns.take 4).map V.str)) := by rw [upd_same]; exact congrArg (fun z => some (HO.lst z)) (ct 4)
    have t1 : Same H1 (upd H1 a1 (.lst (cutV (ns.map V.str) none (some 4)))) := same_new na1
    refine ⟨a1, rfl, ⟨_, SqL.of e1⟩, fun D1 nD1 => lc_strs (h := mPerson) nD1 e1 (by rw [List.length_take]; omega) (fun x Hc k hx' sc hk => ?_) fun H2 s2 eP => ?_⟩
    · have s8 := hN.short x (List.mem_of_mem_take hx')
      exact ⟨rfl, _, rfl, _, _, rfl, rfl, add_ok (m := 20) (n := 8) (by decide +kernel) s8, _, _, rfl, rfl, add_ok (m := 28) (n := 20) (app_le (m := 20) (n := 8) (by decide +kernel) s8) (by decide +kernel), hk Hc (Same.refl Hc)⟩
    have eq2 := s2 _ _ (t1 _ _ eq)
    have u2 : Same H1 H2 := fun b o z => s2 _ _ (t1 _ _ z)
    refine ⟨_, rfl, ⟨7, rfl, q, _, rfl, SqL.of eq2, fun a2 na2 => ?_⟩⟩
    have e2 : upd H2 a2 (.lst (cutV (ns.map V.str) none (some 7))) a2 = some (.lst ((ns.take 7).map V.str)) := by rw [upd_same]; exact congrArg (fun z => some (HO.lst z)) (ct 7)
    have t2 : Same H2 (upd H2 a2 (.lst (cutV (ns.map V.str) none (some 7)))) := same_new na2
    refine ⟨a2, rfl, ⟨_, SqL.of e2⟩, fun D2 nD2 => lc_strs (h := mLab) nD2 e2 (by rw [List.length_take]; omega) (fun x Hc k hx' sc hk => ?_) fun H3 s3 eL => ?_⟩
    · have s8 := hN.short x (List.mem_of_mem_take hx')
      exact ⟨rfl, _, rfl, _, _, rfl, rfl, add_ok (m := 20) (n := 8) (by decide +kernel) s8, _, rfl, _, _, rfl, rfl, add_ok (m := 28) (n := 20) (app_le (m := 20) (n := 8) (by decide +kernel) s8) (by decide +kernel), hk Hc (Same.refl Hc)⟩
    have u3 : Same H2 H3 := fun b o z => s3 _ _ (t2 _ _ z)
    have eq3 := u3 _ _ eq2
    have eP3 := u3 _ _ eP
    refine ⟨_, rfl, ⟨1, rfl, D1, _, rfl, SqL.of eP3, fun a3 na3 => ?_⟩⟩
    have e3 : upd H3 a3 (.lst (cutV ((people ns).map V.str) none (some 1))) a3 = some (.lst (((people ns).take 1).map V.str)) := by rw [upd_same]; exact congrArg (fun z => some (HO.lst z)) (by show cutV _ none (some ((1 : Nat) : Int)) = _; rw [cut_to, List.map_take])
    have t3 : Same H3 (upd H3 a3 (.lst (cutV ((people ns).map V.str) none (some 1)))) := same_new na3
    refine ⟨_, rfl, q, _, _, .str n5, rfl, rfl, SqL.of (t3 _ _ eq3), at5, _, _, rfl, rfl, add_ok (m := 20) (n := 8) (by decide +kernel) s5, _, rfl, _, _, rfl, rfl, mul4, _, _, rfl, rfl, add_ok (m := 28) (n := 40) (app_le (m := 20) (n := 8) (by decide +kernel) s5) lenm4, Nat.le_trans (by show 1 ≤ 1000; omega) sizeLine_ge, fun a4 na4 => ?_⟩
    have t4 := same_new (o := .lst [.str (("lab " ++ n5) ++ Txt.mul sTab 4)]) na4
    refine ⟨a3, a4, _, _, rfl, rfl, t4 _ _ e3, upd_same, ?_, fun a5 na5 => ?_⟩
    · rw [List.length_map, List.length_take, sizeLine_eq]
      show _ + 1 ≤ _
      omega
    have t5 := same_new (o := .lst (((people ns).take 1).map V.str ++ [.str (("lab " ++ n5) ++ Txt.mul sTab 4)])) na5
    have eH : upd (upd (upd H3 a3 (.lst (cutV ((people ns).map V.str) none (some 1)))) a4 (.lst [.str (("lab " ++ n5) ++ Txt.mul sTab 4)])) a5 (.lst (((people ns).take 1).map V.str ++ [.str (("lab " ++ n5) ++ Txt.mul sTab 4)])) a5 = some (.lst ((head ns n5).map V.str)) := by
      rw [upd_same]
      unfold head
      rw [List.map_append]
      rfl
    have u4 : Same H3 (upd (upd (upd H3 a3 (.lst (cutV ((people ns).map V.str) none (some 1)))) a4 (.lst [.str (("lab " ++ n5) ++ Txt.mul sTab 4)])) a5 (.lst (((people ns).take 1).map V.str ++ [.str (("lab " ++ n5) ++ Txt.mul sTab 4)]))) := fun b o z => t5 _ _ (t4 _ _ (t3 _ _ z))
    have eq4 := u4 _ _ eq3
    refine ⟨_, rfl, ⟨25, rfl, q, _, rfl, SqL.of eq4, fun a6 na6 => ?_⟩⟩
    have e6 : upd (upd (upd (upd H3 a3 (.lst (cutV ((people ns).map V.str) none (some 1)))) a4 (.lst [.str (("lab " ++ n5) ++ Txt.mul sTab 4)])) a5 (.lst (((people ns).take 1).map V.str ++ [.str (("lab " ++ n5) ++ Txt.mul sTab 4)]))) a6 (.lst (cutV (ns.map V.str) none (some 25))) a6 = some (.lst ((ns.take 25).map V.str)) := by rw [upd_same]; exact congrArg (fun z => some (HO.lst z)) (ct 25)
    have t6 : Same (upd (upd (upd H3 a3 (.lst (cutV ((people ns).map V.str) none (some 1)))) a4 (.lst [.str (("lab " ++ n5) ++ Txt.mul sTab 4)])) a5 (.lst (((people ns).take 1).map V.str ++ [.str (("lab " ++ n5) ++ Txt.mul sTab 4)]))) (upd (upd (upd (upd H3 a3 (.lst (cutV ((people ns).map V.str) none (some 1)))) a4 (.lst [.str (("lab " ++ n5) ++ Txt.mul sTab 4)])) a5 (.lst (((people ns).take 1).map V.str ++ [.str (("lab " ++ n5) ++ Txt.mul sTab 4)]))) a6 (.lst (cutV (ns.map V.str) none (some 25)))) := same_new na6
    refine ⟨a6, rfl, ⟨_, SqL.of e6⟩, fun D3 nD3 => lc_strs (h := mRes n0 n5) nD3 e6 (by rw [List.length_take]; omega) (fun x Hc k hx' sc hk => ?_) fun H5 s5' eR => ?_⟩
    · have s8 := hN.short x (List.mem_of_mem_take hx')
      have eqc := sc _ _ (t6 _ _ eq4)
      have b1 := app_le (x := "result ") (y := x) (m := 20) (n := 8) (by decide +kernel) s8
      have b2 := app_le (x := "result " ++ x) (y := " ") (m := 28) (n := 20) b1 (by decide +kernel)
      have b3 := app_le (x := ("result " ++ x) ++ " ") (y := n0) (m := 48) (n := 8) b2 s0
      have b4 := app_le (x := (("result " ++ x) ++ " ") ++ n0) (y := " ") (m := 56) (n := 20) b3 (by decide +kernel)
      have b5 := app_le (x := ((("result " ++ x) ++ " ") ++ n0) ++ " ") (y := n5) (m := 76) (n := 8) b4 s5
      exact ⟨rfl, _, rfl, _, _, rfl, rfl, add_ok (m := 20) (n := 8) (by decide +kernel) s8, _, _, rfl, rfl, add_ok (m := 28) (n := 20) b1 (by decide +kernel), _, rfl, q, _, _, .str n0, rfl, rfl, SqL.of eqc, at0, _, _, rfl, rfl, add_ok (m := 48) (n := 8) b2 s0,
        _, _, rfl, rfl, add_ok (m := 56) (n := 20) b3 (by decide +kernel), _, rfl, q, _, _, .str n5, rfl, rfl, SqL.of eqc, at5, _, _, rfl, rfl, add_ok (m := 76) (n := 8) b4 s5, _, _, rfl, rfl, add_ok (m := 84) (n := 20) b5 (by decide +kernel), hk Hc (Same.refl Hc)⟩
    have u5 : Same (upd (upd (upd H3 a3 (.lst (cutV ((people ns).map V.str) none (some 1)))) a4 (.lst [.str (("lab " ++ n5) ++ Txt.mul sTab 4)])) a5 (.lst (((people ns).take 1).map V.str ++ [.str (("lab " ++ n5) ++ Txt.mul sTab 4)]))) H5 := fun b o z => s5' _ _ (t6 _ _ z)
    have eq5 := u5 _ _ eq4
    refine ⟨9, rfl, by decide, by decide, fun D4 nD4 => lc_vals (walk_range (lo := 0) (n := 9)) nD4 ((facts n0).map V.str) (by unfold facts; rw [List.length_map, List.length_map, List.length_range]) (by decide) (fun _ _ => trivial) ?_ fun H6 s6 eF => ?_⟩
    · rintro i x y Hc Hc' k hy sc ⟨rfl, rfl⟩ hk
      unfold facts at hy
      rw [List.getElem?_map, List.getElem?_map, Option.map_eq_some_iff] at hy
      obtain ⟨z, hz, rfl⟩ := hy
      rw [Option.map_eq_some_iff] at hz
      obtain ⟨j, hj, rfl⟩ := hz
      have hji : j = i ∧ i < 9 := by
        obtain ⟨h1, h2⟩ := List.getElem?_eq_some_iff.mp hj
        rw [List.length_range] at h1
        rw [List.getElem_range] at h2
        exact ⟨h2.symm, h1⟩
      obtain ⟨rfl, hj9⟩ := hji
      have eqc := sc _ _ eq5
      have b1 := app_le (x := "fact most ") (y := n0) (m := 20) (n := 8) (by decide +kernel) s0
      have b2 := app_le (x := "fact most " ++ n0) (y := " 0 ") (m := 28) (n := 20) b1 (by decide +kernel)
      have lt : (toString (0 + (j : Int)) : Str).length ≤ 2 := small_text hj9
      have e0 : (0 : Int) + (j : Int) = (j : Int) := Int.zero_add _
      refine ⟨rfl, _, rfl, q, _, _, .str n0, rfl, rfl, SqL.of eqc, at0, _, _, rfl, rfl, add_ok (m := 20) (n := 8) (by decide +kernel) s0, _, _, rfl, rfl, add_ok (m := 28) (n := 20) b1 (by decide +kernel), _, rfl, _, rfl, ?_, _, _, rfl, rfl, add_ok (m := 48) (n := 2) b2 lt, ?_⟩
      · have : ((0 : Int) + (j : Int)).natAbs = j := by omega
        rw [this]
        exact Nat.lt_of_le_of_lt (Nat.log2_le_self j) (by omega)
      · rw [e0]
        exact hk _ (Same.refl _)
    have u6 : Same H5 H6 := s6
    have ev : Ev (fun _ => True) ns n0 n5 [some (.ref p), some (.ref q), some (.str sTab), some (.ref D1), none, some (.ref D2), some (.ref a5), some (.ref D3), some (.ref D4), none, none, none, none, none, none, none] H6 :=
      ⟨rfl, ⟨q, rfl, trivial, u6 _ _ eq5⟩, rfl, ⟨D1, rfl, trivial, u6 _ _ (u5 _ _ (u4 _ _ eP3))⟩, ⟨D2, rfl, trivial, u6 _ _ (u5 _ _ (u4 _ _ eL))⟩, ⟨a5, rfl, trivial, u6 _ _ (u5 _ _ eH)⟩, ⟨D3, rfl, trivial, u6 _ _ eR⟩, ⟨D4, rfl, trivial, eF⟩⟩
    have sA : Same H1 H6 := fun b o z => u6 _ _ (u5 _ _ (u4 _ _ (u3 _ _ (u2 _ _ z))))
    have z1 : Zp p 30 H H1 := ⟨hx, hpt⟩
    refine ⟨⟨ev, z1.same sA⟩, fun σ7 H7 ⟨r, h7⟩ => ?_⟩
    have rights := hM ns rest n0 n5 hpm hN
    obtain ⟨vs, er, al⟩ := h7.rows
    have al' : DqAll (fun a => a ≠ r) H7 vs (rowsAll ns n0 n5) := al
    have few : (rowsAll ns n0 n5).length ≤ 200 := h7.few
    have lv := al'.len
    have at10 := h7.at10
    have ext7 := h7.z.1
    obtain ⟨a0, a1, a2, a3, a4, a5, a6, a7, a8, a9, b0, b1, b2, b3, b4, b5, rfl⟩ := len16 h7.ev.len
    clear al h7
    have e10 : b0 = some (.ref r) := Option.some.inj at10
    subst e10
    have tabs7 := tabs_ext tabs hp ext7
    refine ⟨_, rfl, r, rfl, ⟨_, SqL.of er⟩, fun D nD => lc_list (K := K) (a := r) (xs := vs) (fun i Hc => (∀ b o, H7 b = some o → (∀ ps, o ≠ .tbl ps) → Hc b = some o) ∧ LamX.Tabs [(Pt, qIs)] Hc ∧ Hc D = some (.lst ((List.replicate i true).map V.bl))) ⟨fun b o z _ => same_new nD _ _ z, tabs7.ext fun b o z => same_new nD _ _ z, upd_same⟩ (fun i Hc _ h => SqL.of (h.1 _ _ er (fun ps z => by cases z))) ?_ ?_⟩
    · rintro i x Hc hi ⟨h1, h2, h3⟩
      obtain ⟨d, hd, qd⟩ := al'.get hi
      obtain ⟨ls, k, rfl, hR⟩ := rights d (List.mem_of_getElem? hd)
      have qc : Dq (fun a => a ≠ r ∧ ∀ ps, H7 a ≠ some (.tbl ps)) Hc x (rowD ls k) := (dq_nt qd).move (fun _ f => f) fun b o f z => h1 b o z fun ps e => f.2 ps (by rw [z, e])
      have ilt : i < vs.length := (List.getElem?_eq_some_iff.mp hi).1
      cases qc with
      | @tup tt ys _ ft et alt =>
      cases alt with
      | @cons y1 _ _ _ q1 alt =>
      cases alt with
      | @cons y2 _ _ _ q2 alt =>
      cases alt
      cases q2
      cases q1 with
      | @lst la zs _ fl el all =>
      have ez := dq_strs all
      subst ez
      refine ⟨tt, _, rfl, SqT.of et, rfl, _, _, rfl, _, _, rfl, rfl, rfl, yes_if ?_⟩
      refine ⟨_, rfl, _, rfl, la, ls, k, rfl, SqL.of el, hR, h2, fun H' e' t' => ?_⟩
      have eD := e' _ _ h3 (fun ps z => by cases z)
      refine ⟨_, eD, by rw [List.length_map, List.length_replicate, sizeLine_eq]; omega, fun b o z nt => ?_, tabs_lst t' eD, ?_⟩
      · rw [upd_ne (ne_of_none z nD)]
        exact e' _ _ (h1 _ _ z nt) nt
      · rw [upd_same, List.replicate_succ', List.map_append]
        rfl
    · rintro Hc ⟨h1, h2, h3⟩
      refine ⟨D, _, rfl, SqL.of h3, ?_⟩
      have e : (List.replicate vs.length true).all id = true := by
        rw [List.all_eq_true]
        intro b hb
        rw [List.eq_of_mem_replicate hb]
        rfl
      rw [e]
      exact hq Hc (fun b o hb z nt => h1 _ _ (ext7 _ _ hb z) nt) h2
end
end G

set_option Elab.async false
set_option linter.all false
set_option maxRecDepth 100000
set_option maxHeartbeats 4000000
namespace G
open PySem PySem.Spec PyProof.Rows L2 U
open PySem.W (Frag)
/-! ### texts as lists of lists of words -/
def J (ws : List Str) : Str := Txt.join sBlank ws
/-- a word: no blank, no line feed, short -/
structure Wd (w : Str) : Prop where
  b : 32 ∉ TL.tl w
  f : 10 ∉ TL.tl w
  l : w.length ≤ 12
structure Ln (ws : List Str) : Prop where
  ne : ws ≠ []
  few : ws.length ≤ 30
  all : ∀ w ∈ ws, Wd w
structure Tx (wss : List (List Str)) : Prop where
  ne : wss ≠ []
  few : wss.length ≤ 60
  all : ∀ ws ∈ wss, Ln ws
theorem tl_blank : TL.tl sBlank = [32] := by decide +kernel
theorem tl_feed : TL.tl sFeed = [10] := by decide +kernel
theorem words_J {ws : List Str} (h : Ln ws) : wordsOf (J ws) = ws := TL.split_join (S := []) tl_blank all_blank h.ne fun p hp => (h.all p hp).b
theorem joinL_len {s : List Nat} (hs : s.length = 1) {m : Nat} : ∀ {ps : List (List Nat)}, (∀ p ∈ ps, p.length ≤ m) → (TL.joinL s ps).length ≤ ps.length * (m + 1)
  | [], _ => Nat.zero_le _
  | [p], h => by
    have := h p (List.mem_singleton.mpr rfl)
    show p.length ≤ 1 * (m + 1)
    omega
  | p :: q :: r, h => by
    have h1 := h p List.mem_cons_self
    have h2 := joinL_len hs (ps := q :: r) fun z hz => h z (List.mem_cons_of_mem _ hz)
    show (p ++ (s ++ TL.joinL s (q :: r))).length ≤ ((q :: r).length + 1) * (m + 1)
    rw [List.length_append, List.length_append, Nat.add_mul, Nat.one_mul]
    omega
theorem mem_joinL {s : List Nat} {x : Nat} : ∀ {ps : List (List Nat)}, x ∈ TL.joinL s ps → x ∈ s ∨ ∃ p ∈ ps, x ∈ p
  | [], h => by cases h
  | [p], h => .inr ⟨p, List.mem_singleton.mpr rfl, h⟩
  | p :: q :: r, h => by
    have h : x ∈ p ++ (s ++ TL.joinL s (q :: r)) := h
    rcases List.mem_append.mp h with h | h
    · exact .inr ⟨p, List.mem_cons_self, h⟩
    rcases List.mem_append.mp h with h | h
    · exact .inl h
    rcases mem_joinL h with h | ⟨z, hz, h⟩
    · exact .inl h
    · exact .inr ⟨z, List.mem_cons_of_mem _ hz, h⟩
theorem J_len {ws : List Str} (h : Ln ws) : (J ws).length ≤ 390 := by
  have z := joinL_len (s := TL.tl sBlank) (by rw [tl_blank]; rfl) (m := 12) (ps := ws.map TL.tl) fun p hp => by
    obtain ⟨w, hw, rfl⟩ := List.mem_map.mp hp
    rw [← TL.len_tl]
    exact (h.all w hw).l
  unfold J
  rw [TL.len_tl, TL.join_eq, TL.tl_join]
  rw [List.length_map] at z
  have := h.few
  omega
theorem J_feed {ws : List Str} (h : Ln ws) : 10 ∉ TL.tl (J ws) := fun z => by
  unfold J at z
  rw [TL.join_eq, TL.tl_join] at z
  rcases mem_joinL z with z | ⟨p, hp, z⟩
  · rw [tl_blank] at z
    simp at z
  · obtain ⟨w, hw, rfl⟩ := List.mem_map.mp hp
    exact (h.all w hw).f z
theorem lines_J {wss : List (List Str)} (h : Tx wss) : linesOf (textR (wss.map J)) = wss.map J := TL.split_join (S := []) tl_feed all_feed (fun z => h.ne (List.map_eq_nil_iff.mp z)) fun p hp => by
  obtain ⟨ws, hw, rfl⟩ := List.mem_map.mp hp
  exact J_feed (h.all ws hw)
theorem text_len {wss : List (List Str)} (h : Tx wss) : (textR (wss.map J)).length ≤ 24000 := by
  have z := joinL_len (s := TL.tl sFeed) (by rw [tl_feed]; rfl) (m := 390) (ps := (wss.map J).map TL.tl) fun p hp => by
    obtain ⟨w, hw, rfl⟩ := List.mem_map.mp hp
    obtain ⟨ws, hw2, rfl⟩ := List.mem_map.mp hw
    rw [← TL.len_tl]
    exact J_len (h.all ws hw2)
  unfold textR
  rw [TL.len_tl, TL.join_eq, TL.tl_join]
  rw [List.length_map, List.length_map] at z
  have := h.few
  omega
theorem text_ok {wss : List (List Str)} (h : Tx wss) : TextOk (textR (wss.map J)) := by
  refine ⟨by rw [sizeLine_eq]; have := text_len h; omega, ?_⟩
  rw [lines_J h]
  refine ⟨by rw [List.length_map]; have := h.few; omega, fun l hl => ?_⟩
  obtain ⟨ws, hw, rfl⟩ := List.mem_map.mp hl
  have := J_len (h.all ws hw)
  omega
theorem sum_le {xs : List Nat} {m : Nat} (h : ∀ x ∈ xs, x ≤ m) : xs.sum ≤ xs.length * m := by
  induction xs with
  | nil => exact Nat.zero_le _
  | cons x xs ih =>
    have h1 := h x List.mem_cons_self
    have h2 := ih fun y hy => h y (List.mem_cons_of_mem _ hy)
    rw [List.sum_cons, List.length_cons, Nat.add_mul, Nat.one_mul]
    omega
theorem sum_ok {wss : List (List Str)} (h : Tx wss) : ((wss.map J).map (·.length)).sum + (wss.map J).length ≤ 16777216 := by
  have z := sum_le (xs := (wss.map J).map (·.length)) (m := 390) fun x hx => by
    obtain ⟨l, hl, rfl⟩ := List.mem_map.mp hx
    obtain ⟨ws, hw, rfl⟩ := List.mem_map.mp hl
    exact J_len (h.all ws hw)
  rw [List.length_map, List.length_map] at z
  rw [List.length_map]
  have := h.few
  omega
/-! ### reading by words -/
section
variable {α : Type}
def nextW (kw : Str) (most : Nat) (f : List Str → Option α) (found : List (Str × α)) (ws : List Str) : Option (Str × α) :=
  match toldK kw most f found.length ws, ws[1]? with
    | some t, some n => if n ∈ found.map (·.1) then none else some (n, t)
    | _, _ => none
def readW (kw : Str) (most : Nat) (f : List Str → Option α) : List (Str × α) → List (List Str) → List (Str × α) × Nat
  | found, [] => (found, 0)
  | found, ws :: wss => match nextW kw most f found ws with
    | none => (found, 0)
    | some x => ((readW kw most f (found ++ [x]) wss).1, (readW kw most f (found ++ [x]) wss).2 + 1)
theorem readK_W {kw : Str} {most : Nat} {f : List Str → Option α} : ∀ {wss : List (List Str)} {found : List (Str × α)}, (∀ ws ∈ wss, Ln ws) → readK kw most f found (wss.map J) = readW kw most f found wss
  | [], found, _ => rfl
  | ws :: wss, found, h => by
    have e : nextK kw most f found (J ws) = nextW kw most f found ws := by
      unfold nextK nextW
      rw [words_J (h ws List.mem_cons_self)]
      all_goals rfl
    rw [List.map_cons, readK, readW, e]
    cases nextW kw most f found ws with
    | none => rfl
    | some x =>
      show ((readK kw most f (found ++ [x]) (wss.map J)).1, (readK kw most f (found ++ [x]) (wss.map J)).2 + 1) = _
      rw [readK_W fun z hz => h z (List.mem_cons_of_mem _ hz)]
/-- all these lines are read -/
inductive Steps (kw : Str) (most : Nat) (f : List Str → Option α) : List (Str × α) → List (List Str) → List (Str × α) → Prop
  | nil {found} : Steps kw most f found [] found
  | cons {found ws wss x found'} : nextW kw most f found ws = some x → Steps kw most f (found ++ [x]) wss found' → Steps kw most f found (ws :: wss) found'
def Stops (kw : Str) (most : Nat) (f : List Str → Option α) (found : List (Str × α)) : List (List Str) → Prop
  | [] => True
  | ws :: _ => nextW kw most f found ws = none
theorem readW_by {kw : Str} {most : Nat} {f : List Str → Option α} {found found' : List (Str × α)} {a b : List (List Str)} (h : Steps kw most f found a found') (s : Stops kw most f found' b) : readW kw most f found (a ++ b) = (found', a.length) := by
  induction h with
  | nil =>
    cases b with
    | nil => rfl
    | cons ws wss =>
      have s : nextW kw most f _ ws = none := s
      rw [List.nil_append, readW, s]
      rfl
  | cons e h ih => rw [List.cons_append, readW, e]; simp only [ih s]; rfl
/-- names, none twice -/
theorem steps_map {kw : Str} {most : Nat} {f : List Str → Option α} {W : Str → List Str} {t : Str → α} : ∀ {xs : List Str} {found : List (Str × α)}, (∀ x ∈ xs, f (W x) = some (t x) ∧ (W x)[0]? = some kw ∧ (W x)[1]? = some x) → xs.Nodup → (∀ x ∈ xs, x ∉ found.map (·.1)) → found.length + xs.length ≤ most →
    Steps kw most f found (xs.map W) (found ++ xs.map fun x => (x, t x))
  | [], found, _, _, _, _ => by
    rw [List.map_nil, List.map_nil, List.append_nil]
    exact .nil
  | x :: xs, found, h, nd, ni, hl => by
    obtain ⟨h1, h2, h3⟩ := h x List.mem_cons_self
    have nd' := List.nodup_cons.mp nd
    rw [List.length_cons] at hl
    have e : nextW kw most f found (W x) = some (x, t x) := by
      unfold nextW toldK
      rw [if_pos ⟨h2, by omega⟩, h1, h3]
      exact if_neg (ni x List.mem_cons_self)
    have r := steps_map (kw := kw) (most := most) (f := f) (W := W) (t := t) (xs := xs) (found := found ++ [(x, t x)]) (fun y hy => h y (List.mem_cons_of_mem _ hy)) nd'.2 (fun y hy => ?_) (by rw [List.length_append]; show _ + 1 + _ ≤ _; omega)
    · rw [List.append_assoc] at r
      exact .cons e r
    · rw [List.map_append, List.mem_append]
      rintro (z | z)
      · exact ni y (List.mem_cons_of_mem _ hy) z
      · have : y = x := by simpa using z
        exact nd'.1 (this ▸ hy)
theorem stops_kw {kw : Str} {most : Nat} {f : List Str → Option α} {found : List (Str × α)} {ws : List Str} {r : List (List Str)} (h : ws[0]? ≠ some kw) : Stops kw most f found (ws :: r) := by
  show nextW kw most f found ws = none
  unfold nextW toldK
  rw [if_neg fun z => h z.1]
theorem stops_many {kw : Str} {most : Nat} {f : List Str → Option α} {found : List (Str × α)} {ws : List Str} {r : List (List Str)} (h : most ≤ found.length) : Stops kw most f found (ws :: r) := by
  show nextW kw most f found ws = none
  unfold nextW toldK
  rw [if_neg fun z => Nat.not_lt.mpr h z.2]
theorem stops_f {kw : Str} {most : Nat} {f : List Str → Option α} {found : List (Str × α)} {ws : List Str} {r : List (List Str)} (h : f ws = none) : Stops kw most f found (ws :: r) := by
  show nextW kw most f found ws = none
  have e : toldK kw most f found.length ws = none := by
    unfold toldK
    rw [h]
    split <;> rfl
  unfold nextW
  rw [e]
theorem stops_in {kw : Str} {most : Nat} {f : List Str → Option α} {found : List (Str × α)} {ws : List Str} {r : List (List Str)} {n : Str} (h : ws[1]? = some n) (hn : n ∈ found.map (·.1)) : Stops kw most f found (ws :: r) := by
  show nextW kw most f found ws = none
  unfold nextW
  rw [h]
  cases toldK kw most f found.length ws with
  | none => rfl
  | some t => exact if_pos hn
end
def toldFW (ps : People) (bs : Labs) (n : Nat) (ws : List Str) : Option PyData := if ws[0]? = some ("fact" : Str) ∧ n < 8 then claimIn ps bs (ws.drop 1) else none
def readFW (ps : People) (bs : Labs) : List PyData → List (List Str) → List PyData × Nat
  | found, [] => (found, 0)
  | found, ws :: wss => match toldFW ps bs found.length ws with
    | none => (found, 0)
    | some x => ((readFW ps bs (found ++ [x]) wss).1, (readFW ps bs (found ++ [x]) wss).2 + 1)
theorem readF_W {ps : People} {bs : Labs} : ∀ {wss : List (List Str)} {found : List PyData}, (∀ ws ∈ wss, Ln ws) → readF ps bs found (wss.map J) = readFW ps bs found wss
  | [], found, _ => rfl
  | ws :: wss, found, h => by
    have e : toldF ps bs found.length (J ws) = toldFW ps bs found.length ws := by
      unfold toldF toldFW
      rw [words_J (h ws List.mem_cons_self)]
    rw [List.map_cons, readF, readFW, e]
    cases toldFW ps bs found.length ws with
    | none => rfl
    | some x =>
      show ((readF ps bs (found ++ [x]) (wss.map J)).1, (readF ps bs (found ++ [x]) (wss.map J)).2 + 1) = _
      rw [readF_W fun z hz => h z (List.mem_cons_of_mem _ hz)]
inductive StepsF (ps : People) (bs : Labs) : List PyData → List (List Str) → List PyData → Prop
  | nil {found} : StepsF ps bs found [] found
  | cons {found ws wss x found'} : toldFW ps bs found.length ws = some x → StepsF ps bs (found ++ [x]) wss found' → StepsF ps bs found (ws :: wss) found'
def StopsF (ps : People) (bs : Labs) (found : List PyData) : List (List Str) → Prop
  | [] => True
  | ws :: _ => toldFW ps bs found.length ws = none
theorem readFW_by {ps : People} {bs : Labs} {found found' : List PyData} {a b : List (List Str)} (h : StepsF ps bs found a found') (s : StopsF ps bs found' b) : readFW ps bs found (a ++ b) = (found', a.length) := by
  induction h with
  | nil =>
    cases b with
    | nil => rfl
    | cons ws wss =>
      have s : toldFW ps bs _ ws = none := s
      rw [List.nil_append, readFW, s]
      rfl
  | cons e h ih => rw [List.cons_append, readFW, e]; simp only [ih s]; rfl
theorem stepsF_map {ps : People} {bs : Labs} {β : Type} {W : β → List Str} {t : β → PyData} : ∀ {xs : List β} {found : List PyData}, (∀ x ∈ xs, claimIn ps bs ((W x).drop 1) = some (t x) ∧ (W x)[0]? = some ("fact" : Str)) → found.length + xs.length ≤ 8 → StepsF ps bs found (xs.map W) (found ++ xs.map t)
  | [], found, _, _ => by
    rw [List.map_nil, List.map_nil, List.append_nil]
    exact .nil
  | x :: xs, found, h, hl => by
    obtain ⟨h1, h2⟩ := h x List.mem_cons_self
    rw [List.length_cons] at hl
    have e : toldFW ps bs found.length (W x) = some (t x) := by
      unfold toldFW
      rw [if_pos ⟨h2, by omega⟩, h1]
    have r := stepsF_map (W := W) (t := t) (xs := xs) (found := found ++ [t x]) (fun y hy => h y (List.mem_cons_of_mem _ hy)) (by rw [List.length_append]; show _ + 1 + _ ≤ _; omega)
    rw [List.append_assoc] at r
    exact .cons e r
/-- lines of a chart, one kind behind the other, and what is behind them -/
structure Reads (a b c d e : List (List Str)) (ps : People) (bs : Labs) (rs : Rows) (fs : List PyData) : Prop where
  p : Steps "person" 3 personIn [] a ps
  ps' : Stops "person" 3 personIn ps (b ++ (c ++ (d ++ e)))
  b : Steps "lab" 6 labIn [] b bs
  bs' : Stops "lab" 6 labIn bs (c ++ (d ++ e))
  r : Steps "result" 24 (resultIn ps bs) [] c rs
  rs' : Stops "result" 24 (resultIn ps bs) rs (d ++ e)
  f : StepsF ps bs [] d fs
  fs' : StopsF ps bs fs e
theorem drop_map_app {α β : Type} {f : α → β} (a b : List α) {n : Nat} (h : n = a.length) : ((a ++ b).map f).drop n = b.map f := by
  rw [List.map_append]
  subst h
  rw [List.drop_append, List.length_map, Nat.sub_self, List.drop_zero, List.drop_of_length_le (by rw [List.length_map]; exact Nat.le_refl _), List.nil_append]
theorem read_none {wss : List (List Str)} (h : Tx wss) (hs : Stops "person" 3 personIn [] wss) : readText (textR (wss.map J)) = .inl 1 := by
  unfold readText
  rw [lines_J h]
  have e : readPeople (wss.map J) = ([], 0) := by
    unfold readPeople
    rw [readK_W h.all]
    exact readW_by (a := []) .nil hs
  rw [e]
  rfl
theorem read_nolab {a w : List (List Str)} {ps : People} (h : Tx (a ++ w)) (hp : Steps "person" 3 personIn [] a ps) (hs : Stops "person" 3 personIn ps w) (he : ps ≠ []) (hb : Stops "lab" 6 labIn [] w) : readText (textR ((a ++ w).map J)) = .inl (a.length + 1) := by
  unfold readText
  rw [lines_J h]
  have e : readPeople ((a ++ w).map J) = (ps, a.length) := by
    unfold readPeople
    rw [readK_W h.all]
    exact readW_by hp hs
  have e2 : readLabs (w.map J) = ([], 0) := by
    unfold readLabs
    rw [readK_W fun z hz => h.all z (List.mem_append_right _ hz)]
    exact readW_by (a := []) .nil hb
  have ne : ps.isEmpty = false := by
    cases ps with
    | nil => exact absurd rfl he
    | cons _ _ => rfl
  rw [e]
  simp only [ne]
  rw [drop_map_app a w rfl, e2]
  rfl
theorem read_by {a b c d e : List (List Str)} {ps : People} {bs : Labs} {rs : Rows} {fs : List PyData} (h : Tx (a ++ (b ++ (c ++ (d ++ e))))) (R : Reads a b c d e ps bs rs fs) (hp : ps ≠ []) (hb : bs ≠ []) :
    readText (textR ((a ++ (b ++ (c ++ (d ++ e)))).map J)) = if e = [] then .inr ⟨ps, bs, rs, fs⟩ else .inl (a.length + b.length + c.length + d.length + 1) := by
  have all := h.all
  unfold readText
  rw [lines_J h]
  have e1 : readPeople ((a ++ (b ++ (c ++ (d ++ e)))).map J) = (ps, a.length) := by
    unfold readPeople
    rw [readK_W all]
    exact readW_by R.p R.ps'
  have l2 : ∀ z ∈ b ++ (c ++ (d ++ e)), Ln z := fun z hz => all z (List.mem_append_right _ hz)
  have l3 : ∀ z ∈ c ++ (d ++ e), Ln z := fun z hz => l2 z (List.mem_append_right _ hz)
  have l4 : ∀ z ∈ d ++ e, Ln z := fun z hz => l3 z (List.mem_append_right _ hz)
  have e2 : readLabs ((b ++ (c ++ (d ++ e))).map J) = (bs, b.length) := by
    unfold readLabs
    rw [readK_W l2]
    exact readW_by R.b R.bs'
  have e3 : readResults ps bs ((c ++ (d ++ e)).map J) = (rs, c.length) := by
    unfold readResults
    rw [readK_W l3]
    exact readW_by R.r R.rs'
  have e4 : readFacts ps bs ((d ++ e).map J) = (fs, d.length) := by
    unfold readFacts
    rw [readF_W l4]
    exact readFW_by R.f R.fs'
  have ne1 : ps.isEmpty = false := by
    cases ps with
    | nil => exact absurd rfl hp
    | cons _ _ => rfl
  have ne2 : bs.isEmpty = false := by
    cases bs with
    | nil => exact absurd rfl hb
    | cons _ _ => rfl
  rw [e1]
  simp only [ne1]
  rw [drop_map_app a _ rfl, e2]
  simp only [ne2]
  have d3 : ((a ++ (b ++ (c ++ (d ++ e)))).map J).drop (a.length + b.length) = (c ++ (d ++ e)).map J := by
    rw [← List.append_assoc]
    exact drop_map_app (a ++ b) _ (by rw [List.length_append])
  have d4 : ((a ++ (b ++ (c ++ (d ++ e)))).map J).drop (a.length + b.length + c.length) = (d ++ e).map J := by
    rw [← List.append_assoc, ← List.append_assoc]
    exact drop_map_app ((a ++ b) ++ c) _ (by rw [List.length_append, List.length_append])
  simp only [d3, e3, d4, e4, if_neg (show ¬ (false = true) from by decide)]
  have ll : ((a ++ (b ++ (c ++ (d ++ e)))).map J).length = a.length + b.length + c.length + d.length + e.length := by
    rw [List.length_map]
    simp only [List.length_append]
    omega
  cases e with
  | nil => rw [if_neg (by rw [ll]; simp), if_pos rfl]
  | cons x xs => rw [if_pos (by rw [ll, List.length_cons]; omega), if_neg (by simp)]
end G

set_option Elab.async false
set_option linter.all false
set_option maxRecDepth 100000
set_option maxHeartbeats 4000000
namespace G
open PySem PySem.Spec PyProof.Rows L2 U
open PySem.W (Frag)
theorem tc0 : TL.tl (" " : Str) = [32] := by decide +kernel
theorem tc1 : TL.tl (" 0 " : Str) = [32, 48, 32] := by decide +kernel
theorem tc2 : TL.tl (" 0 7" : Str) = [32, 48, 32, 55] := by decide +kernel
theorem tc3 : TL.tl (" 1 0 0 1 2" : Str) = [32, 49, 32, 48, 32, 48, 32, 49, 32, 50] := by decide +kernel
theorem tc4 : TL.tl (" 99 " : Str) = [32, 57, 57, 32] := by decide +kernel
theorem tc5 : TL.tl (" 99 low" : Str) = [32, 57, 57, 32, 108, 111, 119] := by decide +kernel
theorem tc6 : TL.tl ("+1" : Str) = [43, 49] := by decide +kernel
theorem tc7 : TL.tl ("-1" : Str) = [45, 49] := by decide +kernel
theorem tc8 : TL.tl ("-1 1" : Str) = [45, 49, 32, 49] := by decide +kernel
theorem tc9 : TL.tl ("-3" : Str) = [45, 51] := by decide +kernel
theorem tc10 : TL.tl ("-4" : Str) = [45, 52] := by decide +kernel
theorem tc11 : TL.tl ("-5" : Str) = [45, 53] := by decide +kernel
theorem tc12 : TL.tl ("-7" : Str) = [45, 55] := by decide +kernel
theorem tc13 : TL.tl ("0" : Str) = [48] := by decide +kernel
theorem tc14 : TL.tl ("0 -7" : Str) = [48, 32, 45, 55] := by decide +kernel
theorem tc15 : TL.tl ("0 100 1" : Str) = [48, 32, 49, 48, 48, 32, 49] := by decide +kernel
theorem tc16 : TL.tl ("0 99 -4" : Str) = [48, 32, 57, 57, 32, 45, 52] := by decide +kernel
theorem tc17 : TL.tl ("01" : Str) = [48, 49] := by decide +kernel
theorem tc18 : TL.tl ("01 1" : Str) = [48, 49, 32, 49] := by decide +kernel
theorem tc19 : TL.tl ("1" : Str) = [49] := by decide +kernel
theorem tc20 : TL.tl ("1 +1" : Str) = [49, 32, 43, 49] := by decide +kernel
theorem tc21 : TL.tl ("1 1" : Str) = [49, 32, 49] := by decide +kernel
theorem tc22 : TL.tl ("1 2" : Str) = [49, 32, 50] := by decide +kernel
theorem tc23 : TL.tl ("1 Low" : Str) = [49, 32, 76, 111, 119] := by decide +kernel
theorem tc24 : TL.tl ("100" : Str) = [49, 48, 48] := by decide +kernel
theorem tc25 : TL.tl ("100 1" : Str) = [49, 48, 48, 32, 49] := by decide +kernel
theorem tc26 : TL.tl ("1000" : Str) = [49, 48, 48, 48] := by decide +kernel
theorem tc27 : TL.tl ("1001" : Str) = [49, 48, 48, 49] := by decide +kernel
theorem tc28 : TL.tl ("2" : Str) = [50] := by decide +kernel
theorem tc29 : TL.tl ("2 1" : Str) = [50, 32, 49] := by decide +kernel
theorem tc30 : TL.tl ("3" : Str) = [51] := by decide +kernel
theorem tc31 : TL.tl ("4" : Str) = [52] := by decide +kernel
theorem tc32 : TL.tl ("5" : Str) = [53] := by decide +kernel
theorem tc33 : TL.tl ("5 5 0" : Str) = [53, 32, 53, 32, 48] := by decide +kernel
theorem tc34 : TL.tl ("7" : Str) = [55] := by decide +kernel
theorem tc35 : TL.tl ("99" : Str) = [57, 57] := by decide +kernel
theorem tc36 : TL.tl ("99 0 4" : Str) = [57, 57, 32, 48, 32, 52] := by decide +kernel
theorem tc37 : TL.tl ("Low" : Str) = [76, 111, 119] := by decide +kernel
theorem tc38 : TL.tl ("abcdefgh" : Str) = [97, 98, 99, 100, 101, 102, 103, 104] := by decide +kernel
theorem tc39 : TL.tl ("abcdefghi" : Str) = [97, 98, 99, 100, 101, 102, 103, 104, 105] := by decide +kernel
theorem tc40 : TL.tl ("before" : Str) = [98, 101, 102, 111, 114, 101] := by decide +kernel
theorem tc41 : TL.tl ("fact" : Str) = [102, 97, 99, 116] := by decide +kernel
theorem tc42 : TL.tl ("fact before " : Str) = [102, 97, 99, 116, 32, 98, 101, 102, 111, 114, 101, 32] := by decide +kernel
theorem tc43 : TL.tl ("fact from " : Str) = [102, 97, 99, 116, 32, 102, 114, 111, 109, 32] := by decide +kernel
theorem tc44 : TL.tl ("fact most " : Str) = [102, 97, 99, 116, 32, 109, 111, 115, 116, 32] := by decide +kernel
theorem tc45 : TL.tl ("fact rose " : Str) = [102, 97, 99, 116, 32, 114, 111, 115, 101, 32] := by decide +kernel
theorem tc46 : TL.tl ("from" : Str) = [102, 114, 111, 109] := by decide +kernel
theorem tc47 : TL.tl ("lab" : Str) = [108, 97, 98] := by decide +kernel
theorem tc48 : TL.tl ("lab " : Str) = [108, 97, 98, 32] := by decide +kernel
theorem tc49 : TL.tl ("lab x" : Str) = [108, 97, 98, 32, 120] := by decide +kernel
theorem tc50 : TL.tl ("lab x 0 0 0 1 2" : Str) = [108, 97, 98, 32, 120, 32, 48, 32, 48, 32, 48, 32, 49, 32, 50] := by decide +kernel
theorem tc51 : TL.tl ("lab x 1 0 -1 1 2" : Str) = [108, 97, 98, 32, 120, 32, 49, 32, 48, 32, 45, 49, 32, 49, 32, 50] := by decide +kernel
theorem tc52 : TL.tl ("lab x 1 0 0 1" : Str) = [108, 97, 98, 32, 120, 32, 49, 32, 48, 32, 48, 32, 49] := by decide +kernel
theorem tc53 : TL.tl ("lab x 1 0 0 2 1" : Str) = [108, 97, 98, 32, 120, 32, 49, 32, 48, 32, 48, 32, 50, 32, 49] := by decide +kernel
theorem tc54 : TL.tl ("lab x 1000 -5 0 -3 -3" : Str) = [108, 97, 98, 32, 120, 32, 49, 48, 48, 48, 32, 45, 53, 32, 48, 32, 45, 51, 32, 45, 51] := by decide +kernel
theorem tc55 : TL.tl ("lab x 1001 0 0 1 2" : Str) = [108, 97, 98, 32, 120, 32, 49, 48, 48, 49, 32, 48, 32, 48, 32, 49, 32, 50] := by decide +kernel
theorem tc56 : TL.tl ("low" : Str) = [108, 111, 119] := by decide +kernel
theorem tc57 : TL.tl ("most" : Str) = [109, 111, 115, 116] := by decide +kernel
theorem tc58 : TL.tl ("person" : Str) = [112, 101, 114, 115, 111, 110] := by decide +kernel
theorem tc59 : TL.tl ("person " : Str) = [112, 101, 114, 115, 111, 110, 32] := by decide +kernel
theorem tc60 : TL.tl ("person abcdefgh 0 0" : Str) = [112, 101, 114, 115, 111, 110, 32, 97, 98, 99, 100, 101, 102, 103, 104, 32, 48, 32, 48] := by decide +kernel
theorem tc61 : TL.tl ("person abcdefghi 0 0" : Str) = [112, 101, 114, 115, 111, 110, 32, 97, 98, 99, 100, 101, 102, 103, 104, 105, 32, 48, 32, 48] := by decide +kernel
theorem tc62 : TL.tl ("person x -1 0" : Str) = [112, 101, 114, 115, 111, 110, 32, 120, 32, 45, 49, 32, 48] := by decide +kernel
theorem tc63 : TL.tl ("person x 0 -1" : Str) = [112, 101, 114, 115, 111, 110, 32, 120, 32, 48, 32, 45, 49] := by decide +kernel
theorem tc64 : TL.tl ("r" : Str) = [114] := by decide +kernel
theorem tc65 : TL.tl ("result" : Str) = [114, 101, 115, 117, 108, 116] := by decide +kernel
theorem tc66 : TL.tl ("result " : Str) = [114, 101, 115, 117, 108, 116, 32] := by decide +kernel
theorem tc67 : TL.tl ("result r " : Str) = [114, 101, 115, 117, 108, 116, 32, 114, 32] := by decide +kernel
theorem tc68 : TL.tl ("rose" : Str) = [114, 111, 115, 101] := by decide +kernel
theorem tc69 : TL.tl ("x" : Str) = [120] := by decide +kernel
theorem tcm4 : TL.tl (Txt.mul sTab 4) = [32, 49, 32, 48, 32, 48, 32, 49, 32, 50, 32, 49, 32, 48, 32, 48, 32, 49, 32, 50, 32, 49, 32, 48, 32, 48, 32, 49, 32, 50, 32, 49, 32, 48, 32, 48, 32, 49, 32, 50] := by decide +kernel
theorem tcm5 : TL.tl (Txt.mul sTab 5) = [32, 49, 32, 48, 32, 48, 32, 49, 32, 50, 32, 49, 32, 48, 32, 48, 32, 49, 32, 50, 32, 49, 32, 48, 32, 48, 32, 49, 32, 50, 32, 49, 32, 48, 32, 48, 32, 49, 32, 50, 32, 49, 32, 48, 32, 48, 32, 49, 32, 50] := by decide +kernel
def w_person (n : Str) : List Str := ["person", n, "0", "7"]
theorem J_person (n : Str) : mPerson n = J (w_person n) := by
  refine TL.ext_tl ?_
  unfold J w_person mPerson
  rw [TL.join_eq, TL.tl_join, tl_blank]
  simp only [TL.tl_append, List.map_cons, List.map_nil, TL.joinL, tcm4, tcm5, tc13, tc2, tc34, tc58, tc59]
  simp only [List.append_assoc, List.cons_append, List.nil_append]
def w_lab (n : Str) : List Str := ["lab", n, "1", "0", "0", "1", "2"]
theorem J_lab (n : Str) : mLab n = J (w_lab n) := by
  refine TL.ext_tl ?_
  unfold J w_lab mLab sTab
  rw [TL.join_eq, TL.tl_join, tl_blank]
  simp only [TL.tl_append, List.map_cons, List.map_nil, TL.joinL, tcm4, tcm5, tc13, tc19, tc28, tc3, tc47, tc48]
  simp only [List.append_assoc, List.cons_append, List.nil_append]
def w_res (n0 n5 n : Str) : List Str := ["result", n, n0, n5, "99", "low"]
theorem J_res (n0 n5 n : Str) : mRes n0 n5 n = J (w_res n0 n5 n) := by
  refine TL.ext_tl ?_
  unfold J w_res mRes
  rw [TL.join_eq, TL.tl_join, tl_blank]
  simp only [TL.tl_append, List.map_cons, List.map_nil, TL.joinL, tcm4, tcm5, tc0, tc35, tc5, tc56, tc65, tc66]
  simp only [List.append_assoc, List.cons_append, List.nil_append]
def w_fact (n0 : Str) (k : Nat) : List Str := ["fact", "most", n0, "0", toString (k : Int)]
theorem J_fact (n0 : Str) (k : Nat) : mFact n0 k = J (w_fact n0 k) := by
  refine TL.ext_tl ?_
  unfold J w_fact mFact
  rw [TL.join_eq, TL.tl_join, tl_blank]
  simp only [TL.tl_append, List.map_cons, List.map_nil, TL.joinL, tcm4, tcm5, tc1, tc13, tc41, tc44, tc57]
  simp only [List.append_assoc, List.cons_append, List.nil_append]
def w_lab4 (n : Str) : List Str := ["lab", n, "1", "0", "0", "1", "2", "1", "0", "0", "1", "2", "1", "0", "0", "1", "2", "1", "0", "0", "1", "2"]
theorem J_lab4 (n : Str) : ((("lab " : Str) ++ n) ++ Txt.mul sTab 4) = J (w_lab4 n) := by
  refine TL.ext_tl ?_
  unfold J w_lab4
  rw [TL.join_eq, TL.tl_join, tl_blank]
  simp only [TL.tl_append, List.map_cons, List.map_nil, TL.joinL, tcm4, tcm5, tc13, tc19, tc28, tc47, tc48]
  simp only [List.append_assoc, List.cons_append, List.nil_append]
def w_lab5  : List Str := ["lab", "x", "1", "0", "0", "1", "2", "1", "0", "0", "1", "2", "1", "0", "0", "1", "2", "1", "0", "0", "1", "2", "1", "0", "0", "1", "2"]
theorem J_lab5  : (("lab x" : Str) ++ Txt.mul sTab 5) = J (w_lab5 ) := by
  refine TL.ext_tl ?_
  unfold J w_lab5
  rw [TL.join_eq, TL.tl_join, tl_blank]
  simp only [TL.tl_append, List.map_cons, List.map_nil, TL.joinL, tcm4, tcm5, tc13, tc19, tc28, tc47, tc49, tc69]
  simp only [List.append_assoc, List.cons_append, List.nil_append]
def w_l0  : List Str := ["lab", "x"]
theorem J_l0  : ("lab x" : Str) = J (w_l0 ) := by
  refine TL.ext_tl ?_
  unfold J w_l0
  rw [TL.join_eq, TL.tl_join, tl_blank]
  simp only [TL.tl_append, List.map_cons, List.map_nil, TL.joinL, tcm4, tcm5, tc47, tc49, tc69]
  simp only [List.append_assoc, List.cons_append, List.nil_append]
def w_l1  : List Str := ["lab", "x", "1", "0", "0", "1"]
theorem J_l1  : ("lab x 1 0 0 1" : Str) = J (w_l1 ) := by
  refine TL.ext_tl ?_
  unfold J w_l1
  rw [TL.join_eq, TL.tl_join, tl_blank]
  simp only [TL.tl_append, List.map_cons, List.map_nil, TL.joinL, tcm4, tcm5, tc13, tc19, tc47, tc52, tc69]
  simp only [List.append_assoc, List.cons_append, List.nil_append]
def w_l2  : List Str := ["lab", "x", "1000", "-5", "0", "-3", "-3"]
theorem J_l2  : ("lab x 1000 -5 0 -3 -3" : Str) = J (w_l2 ) := by
  refine TL.ext_tl ?_
  unfold J w_l2
  rw [TL.join_eq, TL.tl_join, tl_blank]
  simp only [TL.tl_append, List.map_cons, List.map_nil, TL.joinL, tcm4, tcm5, tc11, tc13, tc26, tc47, tc54, tc69, tc9]
  simp only [List.append_assoc, List.cons_append, List.nil_append]
def w_l3  : List Str := ["lab", "x", "1001", "0", "0", "1", "2"]
theorem J_l3  : ("lab x 1001 0 0 1 2" : Str) = J (w_l3 ) := by
  refine TL.ext_tl ?_
  unfold J w_l3
  rw [TL.join_eq, TL.tl_join, tl_blank]
  simp only [TL.tl_append, List.map_cons, List.map_nil, TL.joinL, tcm4, tcm5, tc13, tc19, tc27, tc28, tc47, tc55, tc69]
  simp only [List.append_assoc, List.cons_append, List.nil_append]
def w_l4  : List Str := ["lab", "x", "0", "0", "0", "1", "2"]
theorem J_l4  : ("lab x 0 0 0 1 2" : Str) = J (w_l4 ) := by
  refine TL.ext_tl ?_
  unfold J w_l4
  rw [TL.join_eq, TL.tl_join, tl_blank]
  simp only [TL.tl_append, List.map_cons, List.map_nil, TL.joinL, tcm4, tcm5, tc13, tc19, tc28, tc47, tc50, tc69]
  simp only [List.append_assoc, List.cons_append, List.nil_append]
def w_l5  : List Str := ["lab", "x", "1", "0", "-1", "1", "2"]
theorem J_l5  : ("lab x 1 0 -1 1 2" : Str) = J (w_l5 ) := by
  refine TL.ext_tl ?_
  unfold J w_l5
  rw [TL.join_eq, TL.tl_join, tl_blank]
  simp only [TL.tl_append, List.map_cons, List.map_nil, TL.joinL, tcm4, tcm5, tc13, tc19, tc28, tc47, tc51, tc69, tc7]
  simp only [List.append_assoc, List.cons_append, List.nil_append]
def w_l6  : List Str := ["lab", "x", "1", "0", "0", "2", "1"]
theorem J_l6  : ("lab x 1 0 0 2 1" : Str) = J (w_l6 ) := by
  refine TL.ext_tl ?_
  unfold J w_l6
  rw [TL.join_eq, TL.tl_join, tl_blank]
  simp only [TL.tl_append, List.map_cons, List.map_nil, TL.joinL, tcm4, tcm5, tc13, tc19, tc28, tc47, tc53, tc69]
  simp only [List.append_assoc, List.cons_append, List.nil_append]
def w_l7  : List Str := ["person", "x", "-1", "0"]
theorem J_l7  : ("person x -1 0" : Str) = J (w_l7 ) := by
  refine TL.ext_tl ?_
  unfold J w_l7
  rw [TL.join_eq, TL.tl_join, tl_blank]
  simp only [TL.tl_append, List.map_cons, List.map_nil, TL.joinL, tcm4, tcm5, tc13, tc58, tc62, tc69, tc7]
  simp only [List.append_assoc, List.cons_append, List.nil_append]
def w_l8  : List Str := ["person", "x", "0", "-1"]
theorem J_l8  : ("person x 0 -1" : Str) = J (w_l8 ) := by
  refine TL.ext_tl ?_
  unfold J w_l8
  rw [TL.join_eq, TL.tl_join, tl_blank]
  simp only [TL.tl_append, List.map_cons, List.map_nil, TL.joinL, tcm4, tcm5, tc13, tc58, tc63, tc69, tc7]
  simp only [List.append_assoc, List.cons_append, List.nil_append]
def w_l9  : List Str := ["person", "abcdefgh", "0", "0"]
theorem J_l9  : ("person abcdefgh 0 0" : Str) = J (w_l9 ) := by
  refine TL.ext_tl ?_
  unfold J w_l9
  rw [TL.join_eq, TL.tl_join, tl_blank]
  simp only [TL.tl_append, List.map_cons, List.map_nil, TL.joinL, tcm4, tcm5, tc13, tc38, tc58, tc60]
  simp only [List.append_assoc, List.cons_append, List.nil_append]
def w_l10  : List Str := ["person", "abcdefghi", "0", "0"]
theorem J_l10  : ("person abcdefghi 0 0" : Str) = J (w_l10 ) := by
  refine TL.ext_tl ?_
  unfold J w_l10
  rw [TL.join_eq, TL.tl_join, tl_blank]
  simp only [TL.tl_append, List.map_cons, List.map_nil, TL.joinL, tcm4, tcm5, tc13, tc39, tc58, tc61]
  simp only [List.append_assoc, List.cons_append, List.nil_append]
def w_day0 (n0 n5 : Str) : List Str := ["result", "r", n0, n5, "0", "-7"]
theorem J_day0 (n0 n5 : Str) : (mDay n0 n5 ++ ("0 -7" : Str)) = J (w_day0 n0 n5) := by
  refine TL.ext_tl ?_
  unfold J w_day0 mDay
  rw [TL.join_eq, TL.tl_join, tl_blank]
  simp only [TL.tl_append, List.map_cons, List.map_nil, TL.joinL, tcm4, tcm5, tc0, tc12, tc13, tc14, tc64, tc65, tc67]
  simp only [List.append_assoc, List.cons_append, List.nil_append]
def w_day1 (n0 n5 : Str) : List Str := ["result", "r", n0, n5, "100", "1"]
theorem J_day1 (n0 n5 : Str) : (mDay n0 n5 ++ ("100 1" : Str)) = J (w_day1 n0 n5) := by
  refine TL.ext_tl ?_
  unfold J w_day1 mDay
  rw [TL.join_eq, TL.tl_join, tl_blank]
  simp only [TL.tl_append, List.map_cons, List.map_nil, TL.joinL, tcm4, tcm5, tc0, tc19, tc24, tc25, tc64, tc65, tc67]
  simp only [List.append_assoc, List.cons_append, List.nil_append]
def w_day2 (n0 n5 : Str) : List Str := ["result", "r", n0, n5, "-1", "1"]
theorem J_day2 (n0 n5 : Str) : (mDay n0 n5 ++ ("-1 1" : Str)) = J (w_day2 n0 n5) := by
  refine TL.ext_tl ?_
  unfold J w_day2 mDay
  rw [TL.join_eq, TL.tl_join, tl_blank]
  simp only [TL.tl_append, List.map_cons, List.map_nil, TL.joinL, tcm4, tcm5, tc0, tc19, tc64, tc65, tc67, tc7, tc8]
  simp only [List.append_assoc, List.cons_append, List.nil_append]
def w_day3 (n0 n5 : Str) : List Str := ["result", "r", n0, n5, "01", "1"]
theorem J_day3 (n0 n5 : Str) : (mDay n0 n5 ++ ("01 1" : Str)) = J (w_day3 n0 n5) := by
  refine TL.ext_tl ?_
  unfold J w_day3 mDay
  rw [TL.join_eq, TL.tl_join, tl_blank]
  simp only [TL.tl_append, List.map_cons, List.map_nil, TL.joinL, tcm4, tcm5, tc0, tc17, tc18, tc19, tc64, tc65, tc67]
  simp only [List.append_assoc, List.cons_append, List.nil_append]
def w_day4 (n0 n5 : Str) : List Str := ["result", "r", n0, n5, "1", "Low"]
theorem J_day4 (n0 n5 : Str) : (mDay n0 n5 ++ ("1 Low" : Str)) = J (w_day4 n0 n5) := by
  refine TL.ext_tl ?_
  unfold J w_day4 mDay
  rw [TL.join_eq, TL.tl_join, tl_blank]
  simp only [TL.tl_append, List.map_cons, List.map_nil, TL.joinL, tcm4, tcm5, tc0, tc19, tc23, tc37, tc64, tc65, tc67]
  simp only [List.append_assoc, List.cons_append, List.nil_append]
def w_day5 (n0 n5 : Str) : List Str := ["result", "r", n0, n5, "1", "+1"]
theorem J_day5 (n0 n5 : Str) : (mDay n0 n5 ++ ("1 +1" : Str)) = J (w_day5 n0 n5) := by
  refine TL.ext_tl ?_
  unfold J w_day5 mDay
  rw [TL.join_eq, TL.tl_join, tl_blank]
  simp only [TL.tl_append, List.map_cons, List.map_nil, TL.joinL, tcm4, tcm5, tc0, tc19, tc20, tc6, tc64, tc65, tc67]
  simp only [List.append_assoc, List.cons_append, List.nil_append]
def w_day6 (n0 n5 : Str) : List Str := ["result", "r", n0, n5, "1", "1"]
theorem J_day6 (n0 n5 : Str) : (mDay n0 n5 ++ ("1 1" : Str)) = J (w_day6 n0 n5) := by
  refine TL.ext_tl ?_
  unfold J w_day6 mDay
  rw [TL.join_eq, TL.tl_join, tl_blank]
  simp only [TL.tl_append, List.map_cons, List.map_nil, TL.joinL, tcm4, tcm5, tc0, tc19, tc21, tc64, tc65, tc67]
  simp only [List.append_assoc, List.cons_append, List.nil_append]
def w_day7 (n0 n5 : Str) : List Str := ["result", "r", n0, n5, "2", "1"]
theorem J_day7 (n0 n5 : Str) : (mDay n0 n5 ++ ("2 1" : Str)) = J (w_day7 n0 n5) := by
  refine TL.ext_tl ?_
  unfold J w_day7 mDay
  rw [TL.join_eq, TL.tl_join, tl_blank]
  simp only [TL.tl_append, List.map_cons, List.map_nil, TL.joinL, tcm4, tcm5, tc0, tc19, tc28, tc29, tc64, tc65, tc67]
  simp only [List.append_assoc, List.cons_append, List.nil_append]
def w_from0 (n5 : Str) : List Str := ["fact", "from", n5, "99", "0"]
theorem J_from0 (n5 : Str) : (((("fact from " : Str) ++ n5) ++ " 99 ") ++ "0") = J (w_from0 n5) := by
  refine TL.ext_tl ?_
  unfold J w_from0
  rw [TL.join_eq, TL.tl_join, tl_blank]
  simp only [TL.tl_append, List.map_cons, List.map_nil, TL.joinL, tcm4, tcm5, tc13, tc35, tc4, tc41, tc43, tc46]
  simp only [List.append_assoc, List.cons_append, List.nil_append]
def w_bef0 (n5 : Str) : List Str := ["fact", "before", n5, "0", "0"]
theorem J_bef0 (n5 : Str) : (((("fact before " : Str) ++ n5) ++ " 0 ") ++ "0") = J (w_bef0 n5) := by
  refine TL.ext_tl ?_
  unfold J w_bef0
  rw [TL.join_eq, TL.tl_join, tl_blank]
  simp only [TL.tl_append, List.map_cons, List.map_nil, TL.joinL, tcm4, tcm5, tc1, tc13, tc40, tc41, tc42]
  simp only [List.append_assoc, List.cons_append, List.nil_append]
def w_from1 (n5 : Str) : List Str := ["fact", "from", n5, "99", "1"]
theorem J_from1 (n5 : Str) : (((("fact from " : Str) ++ n5) ++ " 99 ") ++ "1") = J (w_from1 n5) := by
  refine TL.ext_tl ?_
  unfold J w_from1
  rw [TL.join_eq, TL.tl_join, tl_blank]
  simp only [TL.tl_append, List.map_cons, List.map_nil, TL.joinL, tcm4, tcm5, tc19, tc35, tc4, tc41, tc43, tc46]
  simp only [List.append_assoc, List.cons_append, List.nil_append]
def w_bef1 (n5 : Str) : List Str := ["fact", "before", n5, "0", "1"]
theorem J_bef1 (n5 : Str) : (((("fact before " : Str) ++ n5) ++ " 0 ") ++ "1") = J (w_bef1 n5) := by
  refine TL.ext_tl ?_
  unfold J w_bef1
  rw [TL.join_eq, TL.tl_join, tl_blank]
  simp only [TL.tl_append, List.map_cons, List.map_nil, TL.joinL, tcm4, tcm5, tc1, tc13, tc19, tc40, tc41, tc42]
  simp only [List.append_assoc, List.cons_append, List.nil_append]
def w_from2 (n5 : Str) : List Str := ["fact", "from", n5, "99", "3"]
theorem J_from2 (n5 : Str) : (((("fact from " : Str) ++ n5) ++ " 99 ") ++ "3") = J (w_from2 n5) := by
  refine TL.ext_tl ?_
  unfold J w_from2
  rw [TL.join_eq, TL.tl_join, tl_blank]
  simp only [TL.tl_append, List.map_cons, List.map_nil, TL.joinL, tcm4, tcm5, tc30, tc35, tc4, tc41, tc43, tc46]
  simp only [List.append_assoc, List.cons_append, List.nil_append]
def w_bef2 (n5 : Str) : List Str := ["fact", "before", n5, "0", "3"]
theorem J_bef2 (n5 : Str) : (((("fact before " : Str) ++ n5) ++ " 0 ") ++ "3") = J (w_bef2 n5) := by
  refine TL.ext_tl ?_
  unfold J w_bef2
  rw [TL.join_eq, TL.tl_join, tl_blank]
  simp only [TL.tl_append, List.map_cons, List.map_nil, TL.joinL, tcm4, tcm5, tc1, tc13, tc30, tc40, tc41, tc42]
  simp only [List.append_assoc, List.cons_append, List.nil_append]
def w_from3 (n5 : Str) : List Str := ["fact", "from", n5, "99", "4"]
theorem J_from3 (n5 : Str) : (((("fact from " : Str) ++ n5) ++ " 99 ") ++ "4") = J (w_from3 n5) := by
  refine TL.ext_tl ?_
  unfold J w_from3
  rw [TL.join_eq, TL.tl_join, tl_blank]
  simp only [TL.tl_append, List.map_cons, List.map_nil, TL.joinL, tcm4, tcm5, tc31, tc35, tc4, tc41, tc43, tc46]
  simp only [List.append_assoc, List.cons_append, List.nil_append]
def w_bef3 (n5 : Str) : List Str := ["fact", "before", n5, "0", "4"]
theorem J_bef3 (n5 : Str) : (((("fact before " : Str) ++ n5) ++ " 0 ") ++ "4") = J (w_bef3 n5) := by
  refine TL.ext_tl ?_
  unfold J w_bef3
  rw [TL.join_eq, TL.tl_join, tl_blank]
  simp only [TL.tl_append, List.map_cons, List.map_nil, TL.joinL, tcm4, tcm5, tc1, tc13, tc31, tc40, tc41, tc42]
  simp only [List.append_assoc, List.cons_append, List.nil_append]
def w_from4 (n5 : Str) : List Str := ["fact", "from", n5, "99", "-1"]
theorem J_from4 (n5 : Str) : (((("fact from " : Str) ++ n5) ++ " 99 ") ++ "-1") = J (w_from4 n5) := by
  refine TL.ext_tl ?_
  unfold J w_from4
  rw [TL.join_eq, TL.tl_join, tl_blank]
  simp only [TL.tl_append, List.map_cons, List.map_nil, TL.joinL, tcm4, tcm5, tc35, tc4, tc41, tc43, tc46, tc7]
  simp only [List.append_assoc, List.cons_append, List.nil_append]
def w_bef4 (n5 : Str) : List Str := ["fact", "before", n5, "0", "-1"]
theorem J_bef4 (n5 : Str) : (((("fact before " : Str) ++ n5) ++ " 0 ") ++ "-1") = J (w_bef4 n5) := by
  refine TL.ext_tl ?_
  unfold J w_bef4
  rw [TL.join_eq, TL.tl_join, tl_blank]
  simp only [TL.tl_append, List.map_cons, List.map_nil, TL.joinL, tcm4, tcm5, tc1, tc13, tc40, tc41, tc42, tc7]
  simp only [List.append_assoc, List.cons_append, List.nil_append]
def w_rose0 (n0 : Str) : List Str := ["fact", "rose", n0, "0", "99", "-4"]
theorem J_rose0 (n0 : Str) : (mRose n0 ++ ("0 99 -4" : Str)) = J (w_rose0 n0) := by
  refine TL.ext_tl ?_
  unfold J w_rose0 mRose
  rw [TL.join_eq, TL.tl_join, tl_blank]
  simp only [TL.tl_append, List.map_cons, List.map_nil, TL.joinL, tcm4, tcm5, tc0, tc10, tc13, tc16, tc35, tc41, tc45, tc68]
  simp only [List.append_assoc, List.cons_append, List.nil_append]
def w_rose1 (n0 : Str) : List Str := ["fact", "rose", n0, "99", "0", "4"]
theorem J_rose1 (n0 : Str) : (mRose n0 ++ ("99 0 4" : Str)) = J (w_rose1 n0) := by
  refine TL.ext_tl ?_
  unfold J w_rose1 mRose
  rw [TL.join_eq, TL.tl_join, tl_blank]
  simp only [TL.tl_append, List.map_cons, List.map_nil, TL.joinL, tcm4, tcm5, tc0, tc13, tc31, tc35, tc36, tc41, tc45, tc68]
  simp only [List.append_assoc, List.cons_append, List.nil_append]
def w_rose2 (n0 : Str) : List Str := ["fact", "rose", n0, "5", "5", "0"]
theorem J_rose2 (n0 : Str) : (mRose n0 ++ ("5 5 0" : Str)) = J (w_rose2 n0) := by
  refine TL.ext_tl ?_
  unfold J w_rose2 mRose
  rw [TL.join_eq, TL.tl_join, tl_blank]
  simp only [TL.tl_append, List.map_cons, List.map_nil, TL.joinL, tcm4, tcm5, tc0, tc13, tc32, tc33, tc41, tc45, tc68]
  simp only [List.append_assoc, List.cons_append, List.nil_append]
def w_rose3 (n0 : Str) : List Str := ["fact", "rose", n0, "0", "100", "1"]
theorem J_rose3 (n0 : Str) : (mRose n0 ++ ("0 100 1" : Str)) = J (w_rose3 n0) := by
  refine TL.ext_tl ?_
  unfold J w_rose3 mRose
  rw [TL.join_eq, TL.tl_join, tl_blank]
  simp only [TL.tl_append, List.map_cons, List.map_nil, TL.joinL, tcm4, tcm5, tc0, tc13, tc15, tc19, tc24, tc41, tc45, tc68]
  simp only [List.append_assoc, List.cons_append, List.nil_append]
def w_rose4 (n0 : Str) : List Str := ["fact", "rose", n0, "1", "2"]
theorem J_rose4 (n0 : Str) : (mRose n0 ++ ("1 2" : Str)) = J (w_rose4 n0) := by
  refine TL.ext_tl ?_
  unfold J w_rose4 mRose
  rw [TL.join_eq, TL.tl_join, tl_blank]
  simp only [TL.tl_append, List.map_cons, List.map_nil, TL.joinL, tcm4, tcm5, tc0, tc19, tc22, tc28, tc41, tc45, tc68]
  simp only [List.append_assoc, List.cons_append, List.nil_append]
end G

set_option Elab.async false
set_option linter.all false
set_option maxRecDepth 100000
set_option maxHeartbeats 4000000
namespace G
open PySem PySem.Spec PyProof.Rows L2 U
open PySem.W (Frag)
theorem right_err {wss : List (List Str)} {k : Nat} (h : Tx wss) (r : readText (textR (wss.map J)) = .inl k) (hk : k ≠ 0) (hk2 : k ≤ 1000) : Right (wss.map J) k := ⟨text_ok h, sum_ok h, hk2, .inr ⟨hk, r⟩⟩
theorem right_ok {wss : List (List Str)} {p : Parts} (h : Tx wss) (r : readText (textR (wss.map J)) = .inr p) (e : (linesW p).map (fun l => l.map wordS) = wss) (ha : ∀ l ∈ linesW p, ∀ d ∈ l, isAtom d = true) (hf : ∀ d ∈ p.facts, ∃ ds, d = PyData.tuple ds) : Right (wss.map J) 0 := by
  have lines : (linesW p).map lineS = wss.map J := by
    rw [← e, List.map_map]
    rfl
  have many : (linesW p).length = wss.length := by rw [← e, List.length_map]
  have ln : ∀ l ∈ linesW p, Ln (l.map wordS) := fun l hl => h.all _ (by rw [← e]; exact List.mem_map.mpr ⟨l, hl, rfl⟩)
  refine ⟨text_ok h, sum_ok h, Nat.zero_le _, .inl ⟨rfl, p, r, ⟨?_, fun l hl => ⟨?_, ha l hl, ?_⟩, hf, ?_⟩, ?_⟩⟩
  · rw [many]
    have := h.few
    omega
  · have := (ln l hl).few
    rw [List.length_map] at this
    omega
  · have z := sum_le (xs := (l.map wordS).map (·.length)) (m := 12) fun x hx => by
      obtain ⟨w, hw, rfl⟩ := List.mem_map.mp hx
      exact ((ln l hl).all w hw).l
    have := (ln l hl).few
    rw [List.length_map] at this
    rw [List.length_map, List.length_map] at z
    omega
  · rw [lines, many]
    have := sum_ok h
    rw [List.length_map] at this
    exact this
  · unfold textOf textR
    rw [lines]
/-! ### names of the pool -/
structure Nam (n : Str) : Prop where
  nm : isName n = true
  wd : Wd n
def wdB (n : Str) : Bool := (TL.tl n).all (fun c => decide (c ≠ 32 ∧ c ≠ 10)) && decide (n.length ≤ 12)
theorem wd_of {n : Str} (h : wdB n = true) : Wd n := by
  unfold wdB at h
  rw [Bool.and_eq_true] at h
  have z := List.all_eq_true.mp h.1
  exact ⟨fun m => (of_decide_eq_true (z 32 m)).1 rfl, fun m => (of_decide_eq_true (z 10 m)).2 rfl, of_decide_eq_true h.2⟩
theorem pool_nam {n : Str} (h : n ∈ pool) : Nam n := by
  have e : pool.all (fun n => isName n && wdB n) = true := by decide +kernel
  have z := List.all_eq_true.mp e n h
  rw [Bool.and_eq_true] at z
  exact ⟨z.1, wd_of z.2⟩
theorem pool_nodup : pool.Nodup := by decide +kernel
theorem ln_of {ws : List Str} (h : (ws.all wdB && !ws.isEmpty && decide (ws.length ≤ 30)) = true) : Ln ws := by
  rw [Bool.and_eq_true, Bool.and_eq_true] at h
  obtain ⟨⟨h1, h2⟩, h3⟩ := h
  refine ⟨fun z => ?_, of_decide_eq_true h3, fun w hw => wd_of (List.all_eq_true.mp h1 w hw)⟩
  rw [z] at h2
  cases h2
theorem wd_lit {s : Str} (h : wdB s = true) : Wd s := wd_of h
theorem all_nil : ∀ w ∈ ([] : List Str), Wd w := fun _ h => by cases h
theorem all_cons {x : Str} {xs : List Str} (h : Wd x) (hs : ∀ w ∈ xs, Wd w) : ∀ w ∈ x :: xs, Wd w := fun w hw => by
  rcases List.mem_cons.mp hw with e | e
  · rw [e]
    exact h
  · exact hs w e
theorem all_lit {xs : List Str} (h : xs.all wdB = true) : ∀ w ∈ xs, Wd w := fun w hw => wd_of (List.all_eq_true.mp h w hw)
theorem ln_mk {x : Str} {xs : List Str} (h : ∀ w ∈ x :: xs, Wd w) (hl : xs.length ≤ 29) : Ln (x :: xs) := ⟨by simp, by rw [List.length_cons]; omega, h⟩
def T1 : Tab := ⟨1, 0, 0, 1, 2⟩
def T4 : List Tab := [T1, T1, T1, T1]
theorem ln_person {n : Str} (h : Nam n) : Ln (w_person n) := ln_mk (all_cons (wd_lit (by decide +kernel)) (all_cons h.wd (all_lit (by decide +kernel)))) (Nat.le_of_ble_eq_true rfl)
theorem ln_lab {n : Str} (h : Nam n) : Ln (w_lab n) := ln_mk (all_cons (wd_lit (by decide +kernel)) (all_cons h.wd (all_lit (by decide +kernel)))) (Nat.le_of_ble_eq_true rfl)
theorem ln_lab4 {n : Str} (h : Nam n) : Ln (w_lab4 n) := ln_mk (all_cons (wd_lit (by decide +kernel)) (all_cons h.wd (all_lit (by decide +kernel)))) (Nat.le_of_ble_eq_true rfl)
theorem ln_res {n0 n5 n : Str} (h0 : Nam n0) (h5 : Nam n5) (h : Nam n) : Ln (w_res n0 n5 n) := ln_mk (all_cons (wd_lit (by decide +kernel)) (all_cons h.wd (all_cons h0.wd (all_cons h5.wd (all_lit (by decide +kernel)))))) (Nat.le_of_ble_eq_true rfl)
theorem wd_num {k : Nat} (h : k < 9) : Wd (toString (k : Int)) := by
  have : ∀ j : Fin 9, wdB (toString ((j : Nat) : Int)) = true := by decide +kernel
  exact wd_of (this ⟨k, h⟩)
theorem ln_fact {n0 : Str} {k : Nat} (h0 : Nam n0) (hk : k < 9) : Ln (w_fact n0 k) := ln_mk (all_cons (wd_lit (by decide +kernel)) (all_cons (wd_lit (by decide +kernel)) (all_cons h0.wd (all_cons (wd_lit (by decide +kernel)) (all_cons (wd_num hk) all_nil))))) (by show 4 ≤ 29; omega)
/-- a line of six words with two names -/
theorem ln_day {n0 n5 d x : Str} (h0 : Nam n0) (h5 : Nam n5) (hd : wdB d = true) (hx : wdB x = true) : Ln ["result", "r", n0, n5, d, x] := ln_mk (all_cons (wd_lit (by decide +kernel)) (all_cons (wd_lit (by decide +kernel)) (all_cons h0.wd (all_cons h5.wd (all_cons (wd_of hd) (all_cons (wd_of hx) all_nil)))))) (by show 5 ≤ 29; omega)
theorem ln_lit {n5 w d k : Str} (h5 : Nam n5) (hw : wdB w = true) (hd : wdB d = true) (hk : wdB k = true) : Ln ["fact", w, n5, d, k] := ln_mk (all_cons (wd_lit (by decide +kernel)) (all_cons (wd_of hw) (all_cons h5.wd (all_cons (wd_of hd) (all_cons (wd_of hk) all_nil))))) (by show 4 ≤ 29; omega)
theorem ln_rose {n0 : Str} {r : List Str} (h0 : Nam n0) (hr : r.all wdB = true) (hl : r.length ≤ 5) : Ln ("fact" :: "rose" :: n0 :: r) := ln_mk (all_cons (wd_lit (by decide +kernel)) (all_cons (wd_lit (by decide +kernel)) (all_cons h0.wd (all_lit hr)))) (by show r.length + 1 + 1 ≤ 29; omega)
/-! ### what the lines tell -/
theorem told_person {n : Str} (h : Nam n) : personIn (w_person n) = some (0, 7) := by
  show (if isName n = true then ratesOf "0" "7" else none) = _
  rw [if_pos h.nm]
  decide +kernel
theorem told_lab {n : Str} (h : Nam n) : labIn (w_lab n) = some [T1] := by
  show (if isName n = true then tabsIn ((["1", "0", "0", "1", "2"] : List Str).map integerIn) else none) = _
  rw [if_pos h.nm]
  decide +kernel
theorem told_lab4 {n : Str} (h : Nam n) : labIn (w_lab4 n) = some T4 := by
  show (if isName n = true then tabsIn ((["1", "0", "0", "1", "2", "1", "0", "0", "1", "2", "1", "0", "0", "1", "2", "1", "0", "0", "1", "2"] : List Str).map integerIn) else none) = _
  rw [if_pos h.nm]
  decide +kernel
abbrev P1 (n0 : Str) : People := [(n0, (0, 7))]
abbrev B1 (n5 : Str) : Labs := [(n5, T4)]
def dayPr (d x : Str) : Option (Int × Prn) := match toldOf x with
  | none => none
  | some t => match integerIn d with
    | none => none
    | some i => if isDayD (.int i) = true then (if canTell T4 t = true then some (i, t) else none) else none
theorem tabs_head (n5 : Str) : tabsOf (B1 n5) n5 = some T4 := by
  unfold tabsOf
  simp [List.find?]
theorem rowOf_head (n0 n5 d x : Str) : rowOf (P1 n0) (B1 n5) n0 n5 d x = (dayPr d x).map fun q => ⟨n0, n5, q.1, q.2⟩ := by
  unfold rowOf dayPr
  rw [if_pos (by simp), tabs_head]
  cases toldOf x with
  | none => rfl
  | some t =>
    cases integerIn d with
    | none => rfl
    | some i =>
      show (if isDayD (.int i) = true then (if canTell T4 t = true then some _ else none) else none) = Option.map _ (if isDayD (.int i) = true then (if canTell T4 t = true then some _ else none) else none)
      split
      · split <;> rfl
      · rfl
theorem told_res {n0 n5 n d x : Str} (h : isName n = true) : resultIn (P1 n0) (B1 n5) ["result", n, n0, n5, d, x] = (dayPr d x).map fun q => ⟨n0, n5, q.1, q.2⟩ := by
  show (if isName n = true then rowOf (P1 n0) (B1 n5) n0 n5 d x else none) = _
  rw [if_pos h, rowOf_head]
theorem many_head (n5 : Str) : manyT (B1 n5) (.str n5) = 4 := by
  show (match tabsOf (B1 n5) n5 with
    | some ts => (ts.length : Int)
    | none => 0) = 4
  rw [tabs_head]
  rfl
theorem word_one (n : Str) : isWordD (.str n) [n] = true := by
  unfold isWordD
  simp
theorem claim_most {n0 n5 k : Str} {i : Int} (hk : integerIn k = some i) : claimIn (P1 n0) (B1 n5) ["most", n0, "0", k] = some (.tuple [.str "most", .str n0, .int 0, .int i]) := by
  have e0 : integerIn "0" = some 0 := by decide +kernel
  have c : isClaimD (P1 n0) (B1 n5) (.tuple [.str "most", .str n0, .int 0, .int i]) = true := by
    show (isLitD _ _ || (isWordD (.str "most") wBnd && (isWordD (.str n0) [n0] && (isDayD (.int 0) && isIntD (.int i) none none)))) = true
    rw [word_one, show isWordD (.str "most") wBnd = true from by decide +kernel, show isDayD (.int 0) = true from by decide +kernel, show isIntD (.int i) none none = true from rfl]
    simp
  unfold claimIn
  show (if ([integerIn "0", integerIn k].any (·.isNone)) = true then none else if isClaimD _ _ (claimD ["most", n0] [integerIn "0", integerIn k]) = true then some (claimD ["most", n0] [integerIn "0", integerIn k]) else none) = _
  rw [e0, hk]
  exact (if_neg (show ¬ (false = true) from by decide)).trans (if_pos c)
theorem claim_lit {n0 n5 w d k : Str} {dv iv : Int} (hd : integerIn d = some dv) (hk : integerIn k = some iv) (hw : isWordD (.str w) wLit = true) (hw2 : isWordD (.str w) wBnd = false) (hdd : isDayD (.int dv) = true) :
    claimIn (P1 n0) (B1 n5) [w, n5, d, k] = if isIntD (.int iv) (some 1) (some 3) = true then some (PyData.tuple [.str w, .str n5, .int dv, .int iv]) else none := by
  have c : isClaimD (P1 n0) (B1 n5) (.tuple [.str w, .str n5, .int dv, .int iv]) = isIntD (.int iv) (some 1) (some 3) := by
    show ((isWordD (.str w) wLit && (isWordD (.str n5) [n5] && (isDayD (.int dv) && isIntD (.int iv) (some 1) (some (manyT (B1 n5) (.str n5) - 1))))) || (isWordD (.str w) wBnd && (isWordD (.str n5) [n0] && (isDayD (.int dv) && isIntD (.int iv) none none)))) = _
    rw [many_head, hw, hw2, word_one, hdd]
    simp
  unfold claimIn
  show (if ([integerIn d, integerIn k].any (·.isNone)) = true then none else if isClaimD _ _ (claimD [w, n5] [integerIn d, integerIn k]) = true then some (claimD [w, n5] [integerIn d, integerIn k]) else none) = _
  rw [hd, hk]
  refine (if_neg (show ¬ (false = true) from by decide)).trans ?_
  show (if isClaimD _ _ (.tuple [.str w, .str n5, .int dv, .int iv]) = true then some (PyData.tuple [.str w, .str n5, .int dv, .int iv]) else none) = _
  rw [c]
theorem claim_rose {n0 n5 a b c : Str} {av bv cv : Int} (ha : integerIn a = some av) (hb : integerIn b = some bv) (hc : integerIn c = some cv) :
    claimIn (P1 n0) (B1 n5) ["rose", n0, a, b, c] = if (isDayD (.int av) && (isDayD (.int bv) && !(sameI (.int av) (.int bv)))) = true then some (PyData.tuple [.str "rose", .str n0, .int av, .int bv, .int cv]) else none := by
  have e : isClaimD (P1 n0) (B1 n5) (.tuple [.str "rose", .str n0, .int av, .int bv, .int cv]) = (isDayD (.int av) && (isDayD (.int bv) && !(sameI (.int av) (.int bv)))) := by
    show (false || (isWordD (.str "rose") ["rose"] && (isWordD (.str n0) [n0] && (isDayD (.int av) && (isDayD (.int bv) && (!(sameI (.int av) (.int bv)) && isIntD (.int cv) none none)))))) = _
    rw [word_one, word_one, show isIntD (.int cv) none none = true from rfl]
    simp
  unfold claimIn
  show (if ([integerIn a, integerIn b, integerIn c].any (·.isNone)) = true then none else if isClaimD _ _ (claimD ["rose", n0] [integerIn a, integerIn b, integerIn c]) = true then some (claimD ["rose", n0] [integerIn a, integerIn b, integerIn c]) else none) = _
  rw [ha, hb, hc]
  refine (if_neg (show ¬ (false = true) from by decide)).trans ?_
  show (if isClaimD _ _ (.tuple [.str "rose", .str n0, .int av, .int bv, .int cv]) = true then some (PyData.tuple [.str "rose", .str n0, .int av, .int bv, .int cv]) else none) = _
  rw [e]
theorem claim_rose2 {n0 n5 : Str} : claimIn (P1 n0) (B1 n5) ["rose", n0, "1", "2"] = none := by
  have e1 : integerIn "1" = some 1 := by decide +kernel
  have e2 : integerIn "2" = some 2 := by decide +kernel
  have e : isClaimD (P1 n0) (B1 n5) (.tuple [.str "rose", .str n0, .int 1, .int 2]) = false := by
    show ((isWordD (.str "rose") wLit && (isWordD (.str n0) [n5] && (isDayD (.int 1) && isIntD (.int 2) (some 1) (some (manyT (B1 n5) (.str n0) - 1))))) || (isWordD (.str "rose") wBnd && (isWordD (.str n0) [n0] && (isDayD (.int 1) && isIntD (.int 2) none none)))) = false
    rw [show isWordD (.str "rose") wLit = false from by decide +kernel, show isWordD (.str "rose") wBnd = false from by decide +kernel]
    simp
  unfold claimIn
  show (if ([integerIn "1", integerIn "2"].any (·.isNone)) = true then none else if isClaimD _ _ (claimD ["rose", n0] [integerIn "1", integerIn "2"]) = true then some (claimD ["rose", n0] [integerIn "1", integerIn "2"]) else none) = _
  rw [e1, e2]
  refine (if_neg (show ¬ (false = true) from by decide)).trans ?_
  show (if isClaimD _ _ (.tuple [.str "rose", .str n0, .int 1, .int 2]) = true then some (claimD ["rose", n0] [some 1, some 2]) else none) = _
  rw [e]
  rfl
end G

set_option Elab.async false
set_option linter.all false
set_option maxRecDepth 100000
set_option maxHeartbeats 4000000
namespace G
open PySem PySem.Spec PyProof.Rows L2 U
open PySem.W (Frag)
def wS (l : List PyData) : List Str := l.map wordS
theorem map_J {α : Type} {m : α → Str} {W : α → List Str} (h : ∀ n, m n = J (W n)) (xs : List α) : xs.map m = (xs.map W).map J := by
  rw [List.map_map]
  exact List.map_congr_left fun n _ => h n
theorem kw_ne {ws : List Str} {k kw : Str} (h : ws[0]? = some k) (hn : k ≠ kw) : ws[0]? ≠ some kw := by
  rw [h]
  exact fun z => hn (Option.some.inj z)
theorem lines_words {ps : People} {bs : Labs} {rs : Rows} {fs : List PyData} {a b c d : List (List Str)} (h1 : (ps.map personW).map wS = a) (h2 : (bs.map labW).map wS = b) (h3 : (rs.map rowW).map wS = c) (h4 : (fs.map factW).map wS = d) : (linesW ⟨ps, bs, rs, fs⟩).map (fun l => l.map wordS) = a ++ (b ++ (c ++ (d ++ []))) := by
  show (linesW ⟨ps, bs, rs, fs⟩).map wS = _
  unfold linesW
  rw [List.map_append, List.map_append, List.map_append, h1, h2, h3, h4, List.append_nil, List.append_assoc, List.append_assoc]
def atoms (ls : List (List PyData)) : Prop := ∀ l ∈ ls, ∀ d ∈ l, isAtom d = true
theorem atoms_nil : atoms [] := fun _ h => by cases h
theorem atoms_all {ls : List (List PyData)} (h : ∀ l ∈ ls, l.all isAtom = true) : atoms ls := fun l hl d hd => List.all_eq_true.mp (h l hl) d hd
theorem atoms_app {a b : List (List PyData)} (h1 : atoms a) (h2 : atoms b) : atoms (a ++ b) := fun l hl => (List.mem_append.mp hl).elim (h1 l) (h2 l)
theorem atoms_map {α : Type} {f : α → List PyData} {xs : List α} (h : ∀ x ∈ xs, (f x).all isAtom = true) : atoms (xs.map f) := atoms_all fun l hl => by
  obtain ⟨x, hx, rfl⟩ := List.mem_map.mp hl
  exact h x hx
theorem ok_row {a b c d : List (List Str)} {ps : People} {bs : Labs} {rs : Rows} {fs : List PyData} {rows : List Str} (er : rows = (a ++ (b ++ (c ++ (d ++ [])))).map J) (h : Tx (a ++ (b ++ (c ++ (d ++ []))))) (R : Reads a b c d [] ps bs rs fs) (hp : ps ≠ []) (hb : bs ≠ [])
    (h1 : (ps.map personW).map wS = a) (h2 : (bs.map labW).map wS = b) (h3 : (rs.map rowW).map wS = c) (h4 : (fs.map factW).map wS = d) (a1 : atoms (ps.map personW)) (a2 : atoms (bs.map labW)) (a3 : atoms (rs.map rowW)) (a4 : atoms (fs.map factW)) (hf : ∀ d ∈ fs, ∃ ds, d = PyData.tuple ds) : Right rows 0 := by
  rw [er]
  refine right_ok (p := ⟨ps, bs, rs, fs⟩) h ?_ (lines_words h1 h2 h3 h4) ?_ hf
  · rw [read_by h R hp hb, if_pos rfl]
  · unfold linesW
    exact atoms_app (atoms_app (atoms_app a1 a2) a3) a4
theorem err_row {a b c d e : List (List Str)} {ps : People} {bs : Labs} {rs : Rows} {fs : List PyData} {rows : List Str} {k : Nat} (er : rows = (a ++ (b ++ (c ++ (d ++ e)))).map J) (h : Tx (a ++ (b ++ (c ++ (d ++ e))))) (R : Reads a b c d e ps bs rs fs) (hp : ps ≠ []) (hb : bs ≠ []) (he : e ≠ []) (hk : k = a.length + b.length + c.length + d.length + 1) (hk2 : k ≤ 1000) : Right rows k := by
  rw [er]
  refine right_err h ?_ (by omega) hk2
  rw [read_by h R hp hb, if_neg he, hk]
theorem nolab_row {a w : List (List Str)} {ps : People} {rows : List Str} {k : Nat} (er : rows = (a ++ w).map J) (h : Tx (a ++ w)) (hp : Steps "person" 3 personIn [] a ps) (hs : Stops "person" 3 personIn ps w) (he : ps ≠ []) (hb : Stops "lab" 6 labIn [] w) (hk : k = a.length + 1) (hk2 : k ≤ 1000) : Right rows k := by
  rw [er]
  refine right_err h ?_ (by omega) hk2
  rw [read_nolab h hp hs he hb, hk]
theorem none_row {w : List (List Str)} {rows : List Str} (er : rows = w.map J) (h : Tx w) (hs : Stops "person" 3 personIn [] w) : Right rows 1 := by
  rw [er]
  exact right_err h (read_none h hs) (by decide) (by decide)
/-! ### lists of lines -/
theorem tx_mk {wss : List (List Str)} (hn : wss ≠ []) (hl : wss.length ≤ 60) (h : ∀ ws ∈ wss, Ln ws) : Tx wss := ⟨hn, hl, h⟩
def AllLn (l : List (List Str)) : Prop := ∀ ws ∈ l, Ln ws
theorem aln_nil : AllLn [] := fun _ h => by cases h
theorem aln_cons {w : List Str} {l : List (List Str)} (h : Ln w) (hs : AllLn l) : AllLn (w :: l) := fun ws hw => by
  rcases List.mem_cons.mp hw with e | e
  · rw [e]
    exact h
  · exact hs ws e
theorem aln_app {a b : List (List Str)} (h1 : AllLn a) (h2 : AllLn b) : AllLn (a ++ b) := fun ws hw => (List.mem_append.mp hw).elim (h1 ws) (h2 ws)
theorem aln_map {α : Type} {W : α → List Str} {xs : List α} (h : ∀ x ∈ xs, Ln (W x)) : AllLn (xs.map W) := fun ws hw => by
  obtain ⟨x, hx, rfl⟩ := List.mem_map.mp hw
  exact h x hx
/-! ### words of what was read -/
theorem ws_person (n : Str) : wS (personW (n, (0, 7))) = w_person n := by
  show [_, _, wordS (.int 0), wordS (.int 7)] = _
  rw [show wordS (.int 0) = ("0" : Str) from by decide +kernel, show wordS (.int 7) = ("7" : Str) from by decide +kernel]
  rfl
theorem ws_lab (n : Str) : wS (labW (n, [T1])) = w_lab n := by
  show [_, _, wordS (.int 1), wordS (.int 0), wordS (.int 0), wordS (.int 1), wordS (.int 2)] = _
  rw [show wordS (.int 0) = ("0" : Str) from by decide +kernel, show wordS (.int 1) = ("1" : Str) from by decide +kernel, show wordS (.int 2) = ("2" : Str) from by decide +kernel]
  rfl
theorem ws_lab4 (n : Str) : wS (labW (n, T4)) = w_lab4 n := by
  show [_, _, wordS (.int 1), wordS (.int 0), wordS (.int 0), wordS (.int 1), wordS (.int 2), wordS (.int 1), wordS (.int 0), wordS (.int 0), wordS (.int 1), wordS (.int 2), wordS (.int 1), wordS (.int 0), wordS (.int 0), wordS (.int 1), wordS (.int 2), wordS (.int 1), wordS (.int 0), wordS (.int 0), wordS (.int 1), wordS (.int 2)] = _
  rw [show wordS (.int 0) = ("0" : Str) from by decide +kernel, show wordS (.int 1) = ("1" : Str) from by decide +kernel, show wordS (.int 2) = ("2" : Str) from by decide +kernel]
  rfl
theorem ws_row {n n0 n5 d x : Str} {i : Int} {t : Prn} (hd : wordS (.int i) = d) (hx : wordS t.d = x) : wS (rowW (n, ⟨n0, n5, i, t⟩)) = (["result", n, n0, n5, d, x] : List Str) := by
  show ([_, _, _, _, wordS (.int i), wordS t.d] : List Str) = _
  rw [hd, hx]
  rfl
theorem at0 : isAtom (.int 0) = true := by decide +kernel
theorem at1 : isAtom (.int 1) = true := by decide +kernel
theorem at2 : isAtom (.int 2) = true := by decide +kernel
theorem at7 : isAtom (.int 7) = true := by decide +kernel
theorem atS (s : Str) : isAtom (.str s) = true := rfl
theorem at_person (n : Str) : (personW (n, (0, 7))).all isAtom = true := by
  show (isAtom (.str "person") && (isAtom (.str n) && (isAtom (.int 0) && (isAtom (.int 7) && true)))) = true
  rw [at0, at7, atS, atS]
  rfl
theorem at_T1 : (tabW T1).all isAtom = true := by decide +kernel
theorem at_lab (n : Str) : (labW (n, [T1])).all isAtom = true := by
  show (isAtom (.str "lab") && (isAtom (.str n) && ((tabW T1).all isAtom))) = true
  rw [at_T1, atS, atS]
  rfl
theorem at_tabs4 : ((T4.map tabW).flatten).all isAtom = true := by decide +kernel
theorem at_lab4 (n : Str) : (labW (n, T4)).all isAtom = true := by
  show (isAtom (.str "lab") && (isAtom (.str n) && (((T4.map tabW).flatten).all isAtom))) = true
  rw [at_tabs4, atS, atS]
  rfl
end G

set_option Elab.async false
set_option linter.all false
set_option maxRecDepth 100000
set_option maxHeartbeats 4000000
namespace G
open PySem PySem.Spec PyProof.Rows L2 U
open PySem.W (Frag)
/-- thirty names, the first seven by name -/
structure Cn (n0 n1 n2 n3 n4 n5 n6 : Str) (more : List Str) : Prop where
  nam : ∀ n ∈ n0 :: n1 :: n2 :: n3 :: n4 :: n5 :: n6 :: more, Nam n
  nd : (n0 :: n1 :: n2 :: n3 :: n4 :: n5 :: n6 :: more).Nodup
  len : more.length = 23
section
variable {n0 n1 n2 n3 n4 n5 n6 : Str} {more : List Str}
theorem Cn.a0 (h : Cn n0 n1 n2 n3 n4 n5 n6 more) : Nam n0 := h.nam _ (by simp)
theorem Cn.a5 (h : Cn n0 n1 n2 n3 n4 n5 n6 more) : Nam n5 := h.nam _ (by simp)
theorem pj (xs : List Str) : xs.map mPerson = (xs.map w_person).map J := map_J J_person xs
theorem lj (xs : List Str) : xs.map mLab = (xs.map w_lab).map J := map_J J_lab xs
theorem rj (n0 n5 : Str) (xs : List Str) : xs.map (mRes n0 n5) = (xs.map (w_res n0 n5)).map J := map_J (J_res n0 n5) xs
theorem fj (n0 : Str) (xs : List Nat) : xs.map (mFact n0) = (xs.map (w_fact n0)).map J := map_J (J_fact n0) xs
theorem steps_people {xs : List Str} (h : ∀ x ∈ xs, Nam x) (nd : xs.Nodup) (hl : xs.length ≤ 3) : Steps "person" 3 personIn [] (xs.map w_person) (xs.map fun x => (x, ((0 : Int), (7 : Int)))) := by
  have z := steps_map (kw := "person") (most := 3) (f := personIn) (W := w_person) (t := fun _ => ((0 : Int), (7 : Int))) (xs := xs) (found := []) (fun x hx => ⟨told_person (h x hx), rfl, rfl⟩) nd (fun x _ z => by cases z) (by show 0 + _ ≤ 3; omega)
  exact z
theorem steps_labs {xs : List Str} (h : ∀ x ∈ xs, Nam x) (nd : xs.Nodup) (hl : xs.length ≤ 6) : Steps "lab" 6 labIn [] (xs.map w_lab) (xs.map fun x => (x, [T1])) := by
  have z := steps_map (kw := "lab") (most := 6) (f := labIn) (W := w_lab) (t := fun _ => [T1]) (xs := xs) (found := []) (fun x hx => ⟨told_lab (h x hx), rfl, rfl⟩) nd (fun x _ z => by cases z) (by show 0 + _ ≤ 6; omega)
  exact z
theorem ne_lp : ("lab" : Str) ≠ "person" := by decide +kernel
theorem ne_pl : ("person" : Str) ≠ "lab" := by decide +kernel
theorem ne_rl : ("result" : Str) ≠ "lab" := by decide +kernel
theorem ne_fl : ("fact" : Str) ≠ "lab" := by decide +kernel
theorem ne_fr : ("fact" : Str) ≠ "result" := by decide +kernel
theorem ne_lr : ("lab" : Str) ≠ "result" := by decide +kernel
theorem ne_lf : ("lab" : Str) ≠ "fact" := by decide +kernel
theorem ne_rf : ("result" : Str) ≠ "fact" := by decide +kernel
theorem stopsF_kw {ps : People} {bs : Labs} {found : List PyData} {ws : List Str} {r : List (List Str)} (h : ws[0]? ≠ some ("fact" : Str)) : StopsF ps bs found (ws :: r) := by
  show toldFW ps bs found.length ws = none
  unfold toldFW
  rw [if_neg fun z => h z.1]
theorem stopsF_many {ps : People} {bs : Labs} {found : List PyData} {ws : List Str} {r : List (List Str)} (h : 8 ≤ found.length) : StopsF ps bs found (ws :: r) := by
  show toldFW ps bs found.length ws = none
  unfold toldFW
  rw [if_neg fun z => Nat.not_lt.mpr h z.2]
theorem stopsF_f {ps : People} {bs : Labs} {found : List PyData} {ws : List Str} {r : List (List Str)} (h : claimIn ps bs (ws.drop 1) = none) : StopsF ps bs found (ws :: r) := by
  show toldFW ps bs found.length ws = none
  unfold toldFW
  rw [h]
  split <;> rfl
theorem wp_map (xs : List Str) : ((xs.map fun x => (x, ((0 : Int), (7 : Int)))).map personW).map wS = xs.map w_person := by
  rw [List.map_map, List.map_map]
  exact List.map_congr_left fun n _ => ws_person n
theorem wl_map (xs : List Str) : ((xs.map fun x => (x, [T1])).map labW).map wS = xs.map w_lab := by
  rw [List.map_map, List.map_map]
  exact List.map_congr_left fun n _ => ws_lab n
theorem ap_map (xs : List Str) : atoms ((xs.map fun x => (x, ((0 : Int), (7 : Int)))).map personW) := by
  rw [List.map_map]
  exact atoms_map fun n _ => at_person n
theorem al_map (xs : List Str) : atoms ((xs.map fun x => (x, [T1])).map labW) := by
  rw [List.map_map]
  exact atoms_map fun n _ => at_lab n
/-! ### the first rows -/
theorem row_a (h : Cn n0 n1 n2 n3 n4 n5 n6 more) : Right (((people (n0 :: n1 :: n2 :: n3 :: n4 :: n5 :: n6 :: more)).take 3) ++ ((labs (n0 :: n1 :: n2 :: n3 :: n4 :: n5 :: n6 :: more)).take 6)) 0 := by
  have nam := h.nam
  have nd := h.nd
  have m3 : ∀ x ∈ [n0, n1, n2], Nam x := fun x hx => nam x (by simp at hx ⊢; rcases hx with e | e | e <;> simp [e])
  have m6 : ∀ x ∈ [n0, n1, n2, n3, n4, n5], Nam x := fun x hx => nam x (by simp at hx ⊢; rcases hx with e | e | e | e | e | e <;> simp [e])
  have d3 : [n0, n1, n2].Nodup := List.Sublist.nodup (List.take_sublist 3 (n0 :: n1 :: n2 :: n3 :: n4 :: n5 :: n6 :: more)) nd
  have d6 : [n0, n1, n2, n3, n4, n5].Nodup := List.Sublist.nodup (List.take_sublist 6 (n0 :: n1 :: n2 :: n3 :: n4 :: n5 :: n6 :: more)) nd
  refine ok_row (a := [n0, n1, n2].map w_person) (b := [n0, n1, n2, n3, n4, n5].map w_lab) (c := []) (d := []) (ps := [n0, n1, n2].map fun x => (x, ((0 : Int), (7 : Int)))) (bs := [n0, n1, n2, n3, n4, n5].map fun x => (x, [T1])) (rs := []) (fs := []) ?_ (tx_mk (by simp) (by simp) (aln_app (aln_map fun x hx => ln_person (m3 x hx)) (aln_app (aln_map fun x hx => ln_lab (m6 x hx)) aln_nil))) ?_ (by simp) (by simp) (wp_map _) (wl_map _) rfl rfl (ap_map _) (al_map _) atoms_nil atoms_nil (fun _ h => by cases h)
  · show [n0, n1, n2].map mPerson ++ [n0, n1, n2, n3, n4, n5].map mLab = _
    rw [pj, lj, ← List.map_append]
    simp only [List.append_nil]
  · exact ⟨steps_people m3 d3 (by simp), stops_kw (kw_ne rfl ne_lp), steps_labs m6 d6 (by simp), trivial, .nil, trivial, .nil, trivial⟩
theorem row_b (h : Cn n0 n1 n2 n3 n4 n5 n6 more) : Right ((people (n0 :: n1 :: n2 :: n3 :: n4 :: n5 :: n6 :: more)) ++ ((labs (n0 :: n1 :: n2 :: n3 :: n4 :: n5 :: n6 :: more)).take 1)) 4 := by
  have nam := h.nam
  have nd := h.nd
  have m3 : ∀ x ∈ [n0, n1, n2], Nam x := fun x hx => nam x (by simp at hx ⊢; rcases hx with e | e | e <;> simp [e])
  have d3 : [n0, n1, n2].Nodup := List.Sublist.nodup (List.take_sublist 3 (n0 :: n1 :: n2 :: n3 :: n4 :: n5 :: n6 :: more)) nd
  have a3 : Nam n3 := nam _ (by simp)
  refine nolab_row (a := [n0, n1, n2].map w_person) (w := [w_person n3, w_lab n0]) (ps := [n0, n1, n2].map fun x => (x, ((0 : Int), (7 : Int)))) ?_ (tx_mk (by simp) (by simp) (aln_app (aln_map fun x hx => ln_person (m3 x hx)) (aln_cons (ln_person a3) (aln_cons (ln_lab h.a0) aln_nil)))) (steps_people m3 d3 (by simp)) (stops_many (by simp)) (by simp) (stops_kw (kw_ne rfl ne_pl)) rfl (by decide)
  show [n0, n1, n2].map mPerson ++ ([mPerson n3] ++ [mLab n0]) = _
  rw [pj, List.map_append, J_person, J_lab]
  rfl
theorem row_c (h : Cn n0 n1 n2 n3 n4 n5 n6 more) : Right (((people (n0 :: n1 :: n2 :: n3 :: n4 :: n5 :: n6 :: more)).take 1) ++ (labs (n0 :: n1 :: n2 :: n3 :: n4 :: n5 :: n6 :: more))) 8 := by
  have nam := h.nam
  have nd := h.nd
  have m1 : ∀ x ∈ [n0], Nam x := fun x hx => nam x (by simp at hx ⊢; simp [hx])
  have m6 : ∀ x ∈ [n0, n1, n2, n3, n4, n5], Nam x := fun x hx => nam x (by simp at hx ⊢; rcases hx with e | e | e | e | e | e <;> simp [e])
  have d1 : [n0].Nodup := by simp
  have d6 : [n0, n1, n2, n3, n4, n5].Nodup := List.Sublist.nodup (List.take_sublist 6 (n0 :: n1 :: n2 :: n3 :: n4 :: n5 :: n6 :: more)) nd
  have a6 : Nam n6 := nam _ (by simp)
  refine err_row (a := [n0].map w_person) (b := [n0, n1, n2, n3, n4, n5].map w_lab) (c := []) (d := []) (e := [w_lab n6]) (ps := [n0].map fun x => (x, ((0 : Int), (7 : Int)))) (bs := [n0, n1, n2, n3, n4, n5].map fun x => (x, [T1])) (rs := []) (fs := []) ?_ (tx_mk (by simp) (by simp) (aln_app (aln_map fun x hx => ln_person (m1 x hx)) (aln_app (aln_map fun x hx => ln_lab (m6 x hx)) (aln_cons (ln_lab a6) aln_nil)))) ?_ (by simp) (by simp) (by simp) rfl (by decide)
  · show [n0].map mPerson ++ ([n0, n1, n2, n3, n4, n5].map mLab ++ [mLab n6]) = _
    rw [pj, lj, J_lab, List.map_append, List.map_append]
    rfl
  · exact ⟨steps_people m1 d1 (by simp), stops_kw (kw_ne rfl ne_lp), steps_labs m6 d6 (by simp), stops_many (by simp), .nil, stops_kw (kw_ne rfl ne_lr), .nil, stopsF_kw (kw_ne rfl ne_lf)⟩
theorem row_d (h : Cn n0 n1 n2 n3 n4 n5 n6 more) : Right ((labs (n0 :: n1 :: n2 :: n3 :: n4 :: n5 :: n6 :: more)).take 1) 1 := by
  refine none_row (w := [w_lab n0]) ?_ (tx_mk (by simp) (by simp) (aln_cons (ln_lab h.a0) aln_nil)) (stops_kw (kw_ne rfl ne_lp))
  show [mLab n0] = _
  rw [J_lab]
  rfl
theorem row_e (h : Cn n0 n1 n2 n3 n4 n5 n6 more) : Right ((people (n0 :: n1 :: n2 :: n3 :: n4 :: n5 :: n6 :: more)).take 2) 3 := by
  have nam := h.nam
  have m2 : ∀ x ∈ [n0, n1], Nam x := fun x hx => nam x (by simp at hx ⊢; rcases hx with e | e <;> simp [e])
  have d2 : [n0, n1].Nodup := List.Sublist.nodup (List.take_sublist 2 (n0 :: n1 :: n2 :: n3 :: n4 :: n5 :: n6 :: more)) h.nd
  refine nolab_row (a := [n0, n1].map w_person) (w := []) (ps := [n0, n1].map fun x => (x, ((0 : Int), (7 : Int)))) ?_ (tx_mk (by simp) (by simp) (aln_app (aln_map fun x hx => ln_person (m2 x hx)) aln_nil)) (steps_people m2 d2 (by simp)) trivial (by simp) trivial rfl (by decide)
  show [n0, n1].map mPerson = _
  rw [pj, List.append_nil]
end
end G

set_option Elab.async false
set_option linter.all false
set_option maxRecDepth 100000
set_option maxHeartbeats 4000000
namespace G
open PySem PySem.Spec PyProof.Rows L2 U
open PySem.W (Frag)
section
variable {n0 n1 n2 n3 n4 n5 n6 : Str} {more : List Str}
abbrev nsOf (n0 n1 n2 n3 n4 n5 n6 : Str) (more : List Str) : List Str := n0 :: n1 :: n2 :: n3 :: n4 :: n5 :: n6 :: more
theorem Cn.one (h : Cn n0 n1 n2 n3 n4 n5 n6 more) : ∀ x ∈ [n0], Nam x := fun x hx => by
  rw [List.mem_singleton.mp hx]
  exact h.a0
theorem one_nd (n : Str) : [n].Nodup := by simp
theorem people1 : (people (nsOf n0 n1 n2 n3 n4 n5 n6 more)).take 1 = [J (w_person n0)] := by
  show [mPerson n0] = _
  rw [J_person]
/-! ### one laboratory, by hand -/
theorem lab_bad (h : Cn n0 n1 n2 n3 n4 n5 n6 more) {m : Str} {w : List Str} (e : m = J w) (hl : Ln w) (hk : w[0]? = some ("lab" : Str)) (hb : labIn w = none) : Right ((people (nsOf n0 n1 n2 n3 n4 n5 n6 more)).take 1 ++ [m]) 2 := by
  refine nolab_row (a := [n0].map w_person) (w := [w]) (ps := [n0].map fun x => (x, ((0 : Int), (7 : Int)))) ?_ (tx_mk (by simp) (by simp) (aln_app (aln_map fun x hx => ln_person (h.one x hx)) (aln_cons hl aln_nil))) (steps_people h.one (one_nd n0) (by simp)) (stops_kw (kw_ne hk ne_lp)) (by simp) (stops_f hb) rfl (by decide)
  rw [people1, e]
  rfl
theorem lab_good (h : Cn n0 n1 n2 n3 n4 n5 n6 more) : Right ((people (nsOf n0 n1 n2 n3 n4 n5 n6 more)).take 1 ++ [("lab x 1000 -5 0 -3 -3" : Str)]) 0 := by
  refine ok_row (a := [n0].map w_person) (b := [w_l2]) (c := []) (d := []) (ps := [n0].map fun x => (x, ((0 : Int), (7 : Int)))) (bs := [("x", [⟨1000, -5, 0, -3, -3⟩])]) (rs := []) (fs := []) ?_ (tx_mk (by simp) (by simp) (aln_app (aln_map fun x hx => ln_person (h.one x hx)) (aln_cons (ln_of (by decide +kernel)) aln_nil))) ?_ (by simp) (by simp) (wp_map _) (by decide +kernel) rfl rfl (ap_map _) ?_ atoms_nil atoms_nil (fun _ h => by cases h)
  · rw [people1, J_l2]
    rfl
  · exact ⟨steps_people h.one (one_nd n0) (by simp), stops_kw (kw_ne rfl ne_lp), .cons (x := (("x" : Str), [(⟨1000, -5, 0, -3, -3⟩ : Tab)])) (by decide +kernel) .nil, trivial, .nil, trivial, .nil, trivial⟩
  · exact atoms_all fun l hl => by
      have e : ([((("x" : Str)), [(⟨1000, -5, 0, -3, -3⟩ : Tab)])].map labW).all (fun l => l.all isAtom) = true := by decide +kernel
      exact List.all_eq_true.mp e l hl
theorem labs1 : (labs (nsOf n0 n1 n2 n3 n4 n5 n6 more)).take 1 = [J (w_lab n0)] := by
  show [mLab n0] = _
  rw [J_lab]
theorem person_bad (h : Cn n0 n1 n2 n3 n4 n5 n6 more) {m : Str} {w : List Str} (e : m = J w) (hl : Ln w) (hb : personIn w = none) : Right ([m] ++ (labs (nsOf n0 n1 n2 n3 n4 n5 n6 more)).take 1) 1 := by
  refine none_row (w := [w, w_lab n0]) ?_ (tx_mk (by simp) (by simp) (aln_cons hl (aln_cons (ln_lab h.a0) aln_nil))) (stops_f hb)
  rw [labs1, e]
  rfl
theorem person_good (h : Cn n0 n1 n2 n3 n4 n5 n6 more) : Right ([("person abcdefgh 0 0" : Str)] ++ (labs (nsOf n0 n1 n2 n3 n4 n5 n6 more)).take 1) 0 := by
  refine ok_row (a := [w_l9]) (b := [n0].map w_lab) (c := []) (d := []) (ps := [("abcdefgh", (0, 0))]) (bs := [n0].map fun x => (x, [T1])) (rs := []) (fs := []) ?_ (tx_mk (by simp) (by simp) (aln_app (aln_cons (ln_of (by decide +kernel)) aln_nil) (aln_app (aln_map fun x hx => ln_lab (h.one x hx)) aln_nil))) ?_ (by simp) (by simp) (by decide +kernel) (wl_map _) rfl rfl ?_ (al_map _) atoms_nil atoms_nil (fun _ h => by cases h)
  · rw [labs1, J_l9]
    rfl
  · exact ⟨.cons (x := (("abcdefgh" : Str), ((0 : Int), (0 : Int)))) (by decide +kernel) .nil, stops_kw (kw_ne rfl ne_lp), steps_labs h.one (one_nd n0) (by simp), trivial, .nil, trivial, .nil, trivial⟩
  · exact atoms_all fun l hl => by
      have e : ([((("abcdefgh" : Str)), ((0 : Int), (0 : Int)))].map personW).all (fun l => l.all isAtom) = true := by decide +kernel
      exact List.all_eq_true.mp e l hl
/-! ### behind the head -/
theorem head_is : head (nsOf n0 n1 n2 n3 n4 n5 n6 more) n5 = [J (w_person n0), J (w_lab4 n5)] := by
  show [mPerson n0] ++ [(("lab " ++ n5) ++ Txt.mul sTab 4)] = _
  rw [J_person]
  have e := J_lab4 n5
  rw [e]
  rfl
theorem steps_P (h : Cn n0 n1 n2 n3 n4 n5 n6 more) : Steps "person" 3 personIn [] [w_person n0] (P1 n0) := steps_people h.one (one_nd n0) (by simp)
theorem steps_B (h : Cn n0 n1 n2 n3 n4 n5 n6 more) : Steps "lab" 6 labIn [] [w_lab4 n5] (B1 n5) := by
  have z := steps_map (kw := "lab") (most := 6) (f := labIn) (W := w_lab4) (t := fun _ => T4) (xs := [n5]) (found := []) (fun x hx => by
    rw [List.mem_singleton.mp hx]
    exact ⟨told_lab4 h.a5, rfl, rfl⟩) (one_nd n5) (fun x _ z => by cases z) (Nat.le_of_ble_eq_true rfl)
  exact z
/-- lines of results and facts behind the head -/
structure Bh (n0 n5 : Str) (c d e : List (List Str)) (rs : Rows) (fs : List PyData) : Prop where
  ln : AllLn (c ++ (d ++ e))
  few : (c ++ (d ++ e)).length ≤ 50
  bs' : Stops "lab" 6 labIn (B1 n5) (c ++ (d ++ e))
  r : Steps "result" 24 (resultIn (P1 n0) (B1 n5)) [] c rs
  rs' : Stops "result" 24 (resultIn (P1 n0) (B1 n5)) rs (d ++ e)
  f : StepsF (P1 n0) (B1 n5) [] d fs
  fs' : StopsF (P1 n0) (B1 n5) fs e
theorem Bh.tx {c d e : List (List Str)} {rs : Rows} {fs : List PyData} (h : Cn n0 n1 n2 n3 n4 n5 n6 more) (b : Bh n0 n5 c d e rs fs) : Tx ([w_person n0] ++ ([w_lab4 n5] ++ (c ++ (d ++ e)))) :=
  tx_mk (by simp) (by have := b.few; rw [List.length_append, List.length_append]; show 1 + (1 + _) ≤ 60; omega) (aln_cons (ln_person h.a0) (aln_cons (ln_lab4 h.a5) b.ln))
theorem Bh.reads {c d e : List (List Str)} {rs : Rows} {fs : List PyData} (h : Cn n0 n1 n2 n3 n4 n5 n6 more) (b : Bh n0 n5 c d e rs fs) : Reads [w_person n0] [w_lab4 n5] c d e (P1 n0) (B1 n5) rs fs :=
  ⟨steps_P h, stops_kw (kw_ne rfl ne_lp), steps_B h, b.bs', b.r, b.rs', b.f, b.fs'⟩
theorem hd_err {c d e : List (List Str)} {rs : Rows} {fs : List PyData} {rows : List Str} {k : Nat} (h : Cn n0 n1 n2 n3 n4 n5 n6 more) (b : Bh n0 n5 c d e rs fs) (er : rows = head (nsOf n0 n1 n2 n3 n4 n5 n6 more) n5 ++ (c ++ (d ++ e)).map J) (he : e ≠ []) (hk : k = c.length + d.length + 3) (hk2 : k ≤ 1000) : Right rows k := by
  refine err_row (a := [w_person n0]) (b := [w_lab4 n5]) ?_ (b.tx h) (b.reads h) (by simp) (by simp) he (by rw [hk]; show _ = 1 + 1 + _ + _ + 1; omega) hk2
  rw [er, head_is]
  rfl
theorem hd_ok {c d : List (List Str)} {rs : Rows} {fs : List PyData} {rows : List Str} (h : Cn n0 n1 n2 n3 n4 n5 n6 more) (b : Bh n0 n5 c d [] rs fs) (er : rows = head (nsOf n0 n1 n2 n3 n4 n5 n6 more) n5 ++ (c ++ d).map J) (h3 : (rs.map rowW).map wS = c) (h4 : (fs.map factW).map wS = d) (a3 : atoms (rs.map rowW)) (a4 : atoms (fs.map factW)) (hf : ∀ d ∈ fs, ∃ ds, d = PyData.tuple ds) : Right rows 0 := by
  refine ok_row (a := [w_person n0]) (b := [w_lab4 n5]) (c := c) (d := d) ?_ (b.tx h) (b.reads h) (by simp) (by simp) (wp_map [n0]) ?_ h3 h4 (ap_map [n0]) ?_ a3 a4 hf
  · rw [er, head_is, List.append_nil]
    rfl
  · show [wS (labW (n5, T4))] = _
    rw [ws_lab4]
  · exact atoms_all fun l hl => by
      rw [List.mem_singleton.mp hl]
      exact at_lab4 n5
end
end G

set_option Elab.async false
set_option linter.all false
set_option maxRecDepth 100000
set_option maxHeartbeats 4000000
namespace G
open PySem PySem.Spec PyProof.Rows L2 U
open PySem.W (Frag)
section
variable {n0 n1 n2 n3 n4 n5 n6 : Str} {more : List Str}
def rowL (n0 n5 : Str) : Row := ⟨n0, n5, 99, .word "low"⟩
def factD (n0 : Str) (k : Nat) : PyData := .tuple [.str "most", .str n0, .int 0, .int (k : Int)]
theorem day_low : dayPr "99" "low" = some (99, .word "low") := by decide +kernel
theorem res_told {n : Str} (h : Nam n) : resultIn (P1 n0) (B1 n5) (w_res n0 n5 n) = some (rowL n0 n5) := by
  show resultIn (P1 n0) (B1 n5) ["result", n, n0, n5, "99", "low"] = _
  rw [told_res h.nm, day_low]
  rfl
theorem steps_res {xs : List Str} (h : ∀ x ∈ xs, Nam x) (nd : xs.Nodup) (hl : xs.length ≤ 24) : Steps "result" 24 (resultIn (P1 n0) (B1 n5)) [] (xs.map (w_res n0 n5)) (xs.map fun x => (x, rowL n0 n5)) := by
  have z := steps_map (kw := "result") (most := 24) (f := resultIn (P1 n0) (B1 n5)) (W := w_res n0 n5) (t := fun _ => rowL n0 n5) (xs := xs) (found := []) (fun x hx => ⟨res_told (h x hx), rfl, rfl⟩) nd (fun x _ z => by cases z) (by show 0 + _ ≤ 24; omega)
  exact z
theorem int_text {k : Nat} (h : k < 9) : integerIn (toString (k : Int)) = some (k : Int) := by
  have : ∀ j : Fin 9, integerIn (toString ((j : Nat) : Int)) = some ((j : Nat) : Int) := by decide +kernel
  exact this ⟨k, h⟩
theorem fact_told {k : Nat} (h : k < 9) : claimIn (P1 n0) (B1 n5) ((w_fact n0 k).drop 1) = some (factD n0 k) := claim_most (int_text h)
theorem steps_facts {xs : List Nat} (h : ∀ x ∈ xs, x < 9) (hl : xs.length ≤ 8) : StepsF (P1 n0) (B1 n5) [] (xs.map (w_fact n0)) (xs.map (factD n0)) := by
  have z := stepsF_map (ps := P1 n0) (bs := B1 n5) (W := w_fact n0) (t := factD n0) (xs := xs) (found := []) (fun x hx => ⟨fact_told (h x hx), rfl⟩) (by show 0 + _ ≤ 8; omega)
  exact z
theorem wr_map (xs : List Str) : ((xs.map fun x => (x, rowL n0 n5)).map rowW).map wS = xs.map (w_res n0 n5) := by
  rw [List.map_map, List.map_map]
  exact List.map_congr_left fun n _ => ws_row (by decide +kernel) (by decide +kernel)
theorem wf_map (xs : List Nat) : ((xs.map (factD n0)).map factW).map wS = xs.map (w_fact n0) := by
  rw [List.map_map, List.map_map]
  refine List.map_congr_left fun k _ => ?_
  show ([_, _, _, wordS (.int 0), _] : List Str) = _
  rw [show wordS (.int 0) = ("0" : Str) from by decide +kernel]
  rfl
theorem ar_map (xs : List Str) : atoms ((xs.map fun x => (x, rowL n0 n5)).map rowW) := by
  rw [List.map_map]
  refine atoms_map fun n _ => ?_
  show (true && (true && (true && (true && (isAtom (.int 99) && (true && true)))))) = true
  rw [show isAtom (.int 99) = true from by decide +kernel]
  rfl
theorem af_map {xs : List Nat} (h : ∀ x ∈ xs, x < 9) : atoms ((xs.map (factD n0)).map factW) := by
  rw [List.map_map]
  refine atoms_map fun k hk => ?_
  show (true && (true && (true && (isAtom (.int 0) && (isAtom (.int (k : Int)) && true))))) = true
  have : ∀ j : Fin 9, isAtom (.int ((j : Nat) : Int)) = true := by decide +kernel
  rw [at0, show isAtom (.int (k : Int)) = true from this ⟨k, h k hk⟩]
  rfl
theorem hf_map (xs : List Nat) : ∀ d ∈ xs.map (factD n0), ∃ ds, d = PyData.tuple ds := fun d hd => by
  obtain ⟨k, _, rfl⟩ := List.mem_map.mp hd
  exact ⟨_, rfl⟩
theorem lt8 : ∀ x ∈ List.range 8, x < 9 := fun x hx => by
  have := List.mem_range.mp hx
  omega
/-- the names of results -/
theorem take24 : (results (nsOf n0 n1 n2 n3 n4 n5 n6 more) n0 n5).take 24 = ((nsOf n0 n1 n2 n3 n4 n5 n6 (more.take 17)).map (w_res n0 n5)).map J := by
  unfold results
  rw [← List.map_take, List.take_take, rj]
  rfl
theorem Cn.m24 (h : Cn n0 n1 n2 n3 n4 n5 n6 more) : ∀ x ∈ nsOf n0 n1 n2 n3 n4 n5 n6 (more.take 17), Nam x := fun x hx => h.nam x (by
  have : nsOf n0 n1 n2 n3 n4 n5 n6 (more.take 17) = (nsOf n0 n1 n2 n3 n4 n5 n6 more).take 24 := rfl
  rw [this] at hx
  exact List.mem_of_mem_take hx)
theorem Cn.d24 (h : Cn n0 n1 n2 n3 n4 n5 n6 more) : (nsOf n0 n1 n2 n3 n4 n5 n6 (more.take 17)).Nodup := List.Sublist.nodup (List.take_sublist 24 (nsOf n0 n1 n2 n3 n4 n5 n6 more)) h.nd
theorem Cn.l24 (h : Cn n0 n1 n2 n3 n4 n5 n6 more) : (nsOf n0 n1 n2 n3 n4 n5 n6 (more.take 17)).length = 24 := by
  show (more.take 17).length + 7 = 24
  rw [List.length_take, h.len]
  rfl
theorem facts8 : (facts n0).take 8 = ((List.range 8).map (w_fact n0)).map J := by
  unfold facts
  rw [← List.map_take, fj]
  rfl
theorem facts9 : facts n0 = ((List.range 8).map (w_fact n0)).map J ++ [J (w_fact n0 8)] := by
  unfold facts
  rw [fj]
  rfl
theorem row_f (h : Cn n0 n1 n2 n3 n4 n5 n6 more) : Right ((head (nsOf n0 n1 n2 n3 n4 n5 n6 more) n5 ++ (results (nsOf n0 n1 n2 n3 n4 n5 n6 more) n0 n5).take 24) ++ (facts n0).take 8) 0 := by
  refine hd_ok (c := (nsOf n0 n1 n2 n3 n4 n5 n6 (more.take 17)).map (w_res n0 n5)) (d := (List.range 8).map (w_fact n0)) (rs := (nsOf n0 n1 n2 n3 n4 n5 n6 (more.take 17)).map fun x => (x, rowL n0 n5)) (fs := (List.range 8).map (factD n0)) h ⟨aln_app (aln_map fun x hx => ln_res h.a0 h.a5 (h.m24 x hx)) (aln_app (aln_map fun k hk => ln_fact h.a0 (lt8 k hk)) aln_nil), ?_, stops_kw (kw_ne rfl ne_rl), steps_res h.m24 h.d24 (Nat.le_of_eq h.l24), stops_kw (kw_ne rfl ne_fr), steps_facts lt8 (by decide), trivial⟩ ?_ (wr_map _) (wf_map _) (ar_map _) (af_map lt8) (hf_map _)
  · rw [List.length_append, List.length_append, List.length_map, List.length_map, h.l24]
    decide
  · rw [take24, facts8, List.append_assoc, ← List.map_append]
theorem last_name (h : Cn n0 n1 n2 n3 n4 n5 n6 more) : ∃ m, Nam m ∧ results (nsOf n0 n1 n2 n3 n4 n5 n6 more) n0 n5 = ((nsOf n0 n1 n2 n3 n4 n5 n6 (more.take 17)).map (w_res n0 n5)).map J ++ [J (w_res n0 n5 m)] := by
  obtain ⟨m, hm⟩ : ∃ m, more[17]? = some m := ⟨_, List.getElem?_eq_getElem (by rw [h.len]; omega)⟩
  refine ⟨m, h.nam m (by have := List.mem_of_getElem? hm; simp [this]), ?_⟩
  have e : (nsOf n0 n1 n2 n3 n4 n5 n6 more).take 25 = nsOf n0 n1 n2 n3 n4 n5 n6 (more.take 17) ++ [m] := by
    show nsOf n0 n1 n2 n3 n4 n5 n6 (more.take 18) = _
    rw [List.take_add_one, hm]
    rfl
  unfold results
  rw [e, List.map_append, rj]
  show _ ++ [mRes n0 n5 m] = _
  rw [J_res]
theorem row_g (h : Cn n0 n1 n2 n3 n4 n5 n6 more) : Right (head (nsOf n0 n1 n2 n3 n4 n5 n6 more) n5 ++ results (nsOf n0 n1 n2 n3 n4 n5 n6 more) n0 n5) 27 := by
  obtain ⟨m, hm, e⟩ := last_name h
  refine hd_err (c := (nsOf n0 n1 n2 n3 n4 n5 n6 (more.take 17)).map (w_res n0 n5)) (d := []) (e := [w_res n0 n5 m]) (rs := (nsOf n0 n1 n2 n3 n4 n5 n6 (more.take 17)).map fun x => (x, rowL n0 n5)) (fs := []) h ⟨aln_app (aln_map fun x hx => ln_res h.a0 h.a5 (h.m24 x hx)) (aln_cons (ln_res h.a0 h.a5 hm) aln_nil), ?_, stops_kw (kw_ne rfl ne_rl), steps_res h.m24 h.d24 (Nat.le_of_eq h.l24), stops_many (by rw [List.length_map, h.l24]; exact Nat.le_refl _), .nil, stopsF_kw (kw_ne rfl ne_rf)⟩ ?_ (by simp) (by rw [List.length_map, h.l24]; rfl) (by decide)
  · rw [List.length_append, List.length_append, List.length_map, h.l24]
    show 24 + (0 + 1) ≤ 50
    omega
  · rw [e]
    show _ = _ ++ (_ ++ [w_res n0 n5 m]).map J
    rw [List.map_append]
    rfl
theorem row_h (h : Cn n0 n1 n2 n3 n4 n5 n6 more) : Right (head (nsOf n0 n1 n2 n3 n4 n5 n6 more) n5 ++ facts n0) 11 := by
  refine hd_err (c := []) (d := (List.range 8).map (w_fact n0)) (e := [w_fact n0 8]) (rs := []) (fs := (List.range 8).map (factD n0)) h ⟨aln_app (a := []) aln_nil (aln_app (aln_map fun k hk => ln_fact h.a0 (lt8 k hk)) (aln_cons (ln_fact h.a0 (by decide)) aln_nil)), ?_, stops_kw (kw_ne rfl ne_fl), .nil, stops_kw (kw_ne rfl ne_fr), steps_facts lt8 (by decide), stopsF_many (by simp)⟩ ?_ (by simp) (by simp) (by decide)
  · show ((List.range 8).map (w_fact n0) ++ [w_fact n0 8]).length ≤ 50
    rw [List.length_append, List.length_map]
    show 8 + 1 ≤ 50
    omega
  · rw [facts9]
    show _ = _ ++ (_ ++ [w_fact n0 8]).map J
    rw [List.map_append]
    rfl
theorem row_i (h : Cn n0 n1 n2 n3 n4 n5 n6 more) : Right ((head (nsOf n0 n1 n2 n3 n4 n5 n6 more) n5 ++ (results (nsOf n0 n1 n2 n3 n4 n5 n6 more) n0 n5).take 24) ++ facts n0) 35 := by
  refine hd_err (c := (nsOf n0 n1 n2 n3 n4 n5 n6 (more.take 17)).map (w_res n0 n5)) (d := (List.range 8).map (w_fact n0)) (e := [w_fact n0 8]) (rs := (nsOf n0 n1 n2 n3 n4 n5 n6 (more.take 17)).map fun x => (x, rowL n0 n5)) (fs := (List.range 8).map (factD n0)) h ⟨aln_app (aln_map fun x hx => ln_res h.a0 h.a5 (h.m24 x hx)) (aln_app (aln_map fun k hk => ln_fact h.a0 (lt8 k hk)) (aln_cons (ln_fact h.a0 (by decide)) aln_nil)), ?_, stops_kw (kw_ne rfl ne_rl), steps_res h.m24 h.d24 (Nat.le_of_eq h.l24), stops_kw (kw_ne rfl ne_fr), steps_facts lt8 (by decide), stopsF_many (by simp)⟩ ?_ (by simp) (by rw [List.length_map, h.l24]; simp) (by decide)
  · rw [List.length_append, List.length_append, List.length_map, List.length_map, h.l24]
    show 24 + (8 + 1) ≤ 50
    omega
  · rw [take24, facts9, List.append_assoc, List.map_append, List.map_append]
    rfl
/-! ### one result or fact behind the head -/
theorem day_bad (h : Cn n0 n1 n2 n3 n4 n5 n6 more) {m d x : Str} (e : m = J ["result", "r", n0, n5, d, x]) (hd : wdB d = true) (hx : wdB x = true) (hb : dayPr d x = none) : Right (head (nsOf n0 n1 n2 n3 n4 n5 n6 more) n5 ++ [m]) 3 := by
  refine hd_err (c := []) (d := []) (e := [["result", "r", n0, n5, d, x]]) (rs := []) (fs := []) h ⟨aln_cons (ln_day h.a0 h.a5 hd hx) aln_nil, (by show 1 ≤ 50; omega), stops_kw (kw_ne rfl ne_rl), .nil, stops_f ?_, .nil, stopsF_kw (kw_ne rfl ne_rf)⟩ ?_ (by simp) rfl (by decide)
  · rw [told_res (by decide +kernel), hb]
    rfl
  · rw [e]
    rfl
theorem day_good (h : Cn n0 n1 n2 n3 n4 n5 n6 more) {m d x : Str} {i : Int} {t : Prn} (e : m = J ["result", "r", n0, n5, d, x]) (hd : wdB d = true) (hx : wdB x = true) (hb : dayPr d x = some (i, t)) (wi : wordS (.int i) = d) (wt : wordS t.d = x) (ai : isAtom (.int i) = true) (at' : isAtom t.d = true) : Right (head (nsOf n0 n1 n2 n3 n4 n5 n6 more) n5 ++ [m]) 0 := by
  refine hd_ok (c := [["result", "r", n0, n5, d, x]]) (d := []) (rs := [("r", ⟨n0, n5, i, t⟩)]) (fs := []) h ⟨aln_cons (ln_day h.a0 h.a5 hd hx) aln_nil, (by show 1 ≤ 50; omega), stops_kw (kw_ne rfl ne_rl), .cons (x := (("r" : Str), (⟨n0, n5, i, t⟩ : Row))) ?_ .nil, trivial, .nil, trivial⟩ ?_ ?_ rfl ?_ atoms_nil (fun _ h => by cases h)
  · unfold nextW toldK
    rw [if_pos ⟨rfl, (by decide)⟩, told_res (by decide +kernel), hb]
    rfl
  · rw [e]
    rfl
  · show [wS (rowW _)] = _
    rw [ws_row wi wt]
  · exact atoms_all fun l hl => by
      rw [List.mem_singleton.mp hl]
      show (true && (true && (true && (true && (isAtom (.int i) && (isAtom t.d && true)))))) = true
      rw [ai, at']
      rfl
theorem day_two (h : Cn n0 n1 n2 n3 n4 n5 n6 more) {m m' : Str} (e : m = J ["result", "r", n0, n5, "1", "1"]) (e' : m' = J ["result", "r", n0, n5, "2", "1"]) : Right (head (nsOf n0 n1 n2 n3 n4 n5 n6 more) n5 ++ [m, m']) 4 := by
  refine hd_err (c := [["result", "r", n0, n5, "1", "1"]]) (d := []) (e := [["result", "r", n0, n5, "2", "1"]]) (rs := [("r", ⟨n0, n5, 1, .num 1⟩)]) (fs := []) h ⟨aln_cons (ln_day h.a0 h.a5 (by decide +kernel) (by decide +kernel)) (aln_cons (ln_day h.a0 h.a5 (by decide +kernel) (by decide +kernel)) aln_nil), (by show 2 ≤ 50; omega), stops_kw (kw_ne rfl ne_rl), .cons (x := (("r" : Str), (⟨n0, n5, 1, .num 1⟩ : Row))) ?_ .nil, stops_in (n := "r") rfl (by simp), .nil, stopsF_kw (kw_ne rfl ne_rf)⟩ ?_ (by simp) rfl (by decide)
  · unfold nextW toldK
    rw [if_pos ⟨rfl, (by decide)⟩, told_res (by decide +kernel), show dayPr "1" "1" = some (1, .num 1) from by decide +kernel]
    rfl
  · rw [e, e']
    rfl
theorem fact_bad (h : Cn n0 n1 n2 n3 n4 n5 n6 more) {m : Str} {w : List Str} (e : m = J w) (hl : Ln w) (hk : w[0]? = some ("fact" : Str)) (hb : claimIn (P1 n0) (B1 n5) (w.drop 1) = none) : Right (head (nsOf n0 n1 n2 n3 n4 n5 n6 more) n5 ++ [m]) 3 := by
  refine hd_err (c := []) (d := []) (e := [w]) (rs := []) (fs := []) h ⟨aln_cons hl aln_nil, (by show 1 ≤ 50; omega), stops_kw (kw_ne hk ne_fl), .nil, stops_kw (kw_ne hk ne_fr), .nil, stopsF_f hb⟩ ?_ (by simp) rfl (by decide)
  rw [e]
  rfl
theorem fact_good (h : Cn n0 n1 n2 n3 n4 n5 n6 more) {m : Str} {w : List Str} {ds : List PyData} (e : m = J w) (hl : Ln w) (hk : w[0]? = some ("fact" : Str)) (hb : claimIn (P1 n0) (B1 n5) (w.drop 1) = some (.tuple ds)) (hw : wS (.str "fact" :: ds) = w) (ha : ds.all isAtom = true) : Right (head (nsOf n0 n1 n2 n3 n4 n5 n6 more) n5 ++ [m]) 0 := by
  refine hd_ok (c := []) (d := [w]) (rs := []) (fs := [.tuple ds]) h ⟨aln_cons hl aln_nil, (by show 1 ≤ 50; omega), stops_kw (kw_ne hk ne_fl), .nil, stops_kw (kw_ne hk ne_fr), .cons (x := .tuple ds) ?_ .nil, trivial⟩ ?_ rfl ?_ atoms_nil ?_ (fun d hd => ⟨ds, List.mem_singleton.mp hd⟩)
  · unfold toldFW
    rw [if_pos ⟨hk, (by decide)⟩, hb]
  · rw [e]
    rfl
  · show [wS (.str "fact" :: ds)] = _
    rw [hw]
  · exact atoms_all fun l hl => by
      rw [List.mem_singleton.mp hl]
      show (true && ds.all isAtom) = true
      rw [ha]
      rfl
theorem row_z (h : Cn n0 n1 n2 n3 n4 n5 n6 more) : Right ((head (nsOf n0 n1 n2 n3 n4 n5 n6 more) n5 ++ (facts n0).take 1) ++ (results (nsOf n0 n1 n2 n3 n4 n5 n6 more) n0 n5).take 1) 4 := by
  refine hd_err (c := []) (d := [0].map (w_fact n0)) (e := [w_res n0 n5 n0]) (rs := []) (fs := [0].map (factD n0)) h ⟨aln_app (a := []) aln_nil (aln_app (aln_map (W := w_fact n0) fun k hk => ln_fact h.a0 (by rw [List.mem_singleton.mp hk]; decide)) (aln_cons (ln_res h.a0 h.a5 h.a0) aln_nil)), (by show 2 ≤ 50; omega), stops_kw (kw_ne rfl ne_fl), .nil, stops_kw (kw_ne rfl ne_fr), steps_facts (fun x hx => by rw [List.mem_singleton.mp hx]; decide) (by decide), stopsF_kw (kw_ne rfl ne_rf)⟩ ?_ (by simp) rfl (by decide)
  show (_ ++ [mFact n0 0]) ++ [mRes n0 n5 n0] = _
  rw [J_fact, J_res, List.append_assoc]
  rfl
end
end G

set_option Elab.async false
set_option linter.all false
set_option maxRecDepth 100000
set_option maxHeartbeats 4000000
namespace G
open PySem PySem.Spec PyProof.Rows L2 U
open PySem.W (Frag)
section
variable {n0 n1 n2 n3 n4 n5 n6 : Str} {more : List Str}
theorem lit_good (h : Cn n0 n1 n2 n3 n4 n5 n6 more) {m w d k : Str} {dv iv : Int} (e : m = J ["fact", w, n5, d, k]) (hw : wdB w = true) (hd : wdB d = true) (hk : wdB k = true) (hd' : integerIn d = some dv) (hk' : integerIn k = some iv) (hl : isWordD (.str w) wLit = true) (hb : isWordD (.str w) wBnd = false) (hdd : isDayD (.int dv) = true) (hi : isIntD (.int iv) (some 1) (some 3) = true)
    (wd' : wordS (.int dv) = d) (wk' : wordS (.int iv) = k) (ad : isAtom (.int dv) = true) (ai : isAtom (.int iv) = true) : Right (head (nsOf n0 n1 n2 n3 n4 n5 n6 more) n5 ++ [m]) 0 := by
  refine fact_good (ds := [.str w, .str n5, .int dv, .int iv]) h e (ln_lit h.a5 hw hd hk) rfl ?_ ?_ ?_
  · exact (claim_lit hd' hk' hl hb hdd).trans (if_pos hi)
  · show ([_, _, _, wordS (.int dv), wordS (.int iv)] : List Str) = _
    rw [wd', wk']
    rfl
  · show (true && (true && (isAtom (.int dv) && (isAtom (.int iv) && true)))) = true
    rw [ad, ai]
    rfl
theorem lit_bad (h : Cn n0 n1 n2 n3 n4 n5 n6 more) {m w d k : Str} {dv iv : Int} (e : m = J ["fact", w, n5, d, k]) (hw : wdB w = true) (hd : wdB d = true) (hk : wdB k = true) (hd' : integerIn d = some dv) (hk' : integerIn k = some iv) (hl : isWordD (.str w) wLit = true) (hb : isWordD (.str w) wBnd = false) (hdd : isDayD (.int dv) = true) (hi : isIntD (.int iv) (some 1) (some 3) = false) : Right (head (nsOf n0 n1 n2 n3 n4 n5 n6 more) n5 ++ [m]) 3 := by
  refine fact_bad h e (ln_lit h.a5 hw hd hk) rfl ?_
  exact (claim_lit hd' hk' hl hb hdd).trans (if_neg (by rw [hi]; decide))
theorem rose_good (h : Cn n0 n1 n2 n3 n4 n5 n6 more) {m a b c : Str} {av bv cv : Int} (e : m = J ["fact", "rose", n0, a, b, c]) (hw : [a, b, c].all wdB = true) (ha : integerIn a = some av) (hb : integerIn b = some bv) (hc : integerIn c = some cv) (hi : (isDayD (.int av) && (isDayD (.int bv) && !(sameI (.int av) (.int bv)))) = true)
    (wa : wordS (.int av) = a) (wb : wordS (.int bv) = b) (wc : wordS (.int cv) = c) (aa : isAtom (.int av) = true) (ab : isAtom (.int bv) = true) (ac : isAtom (.int cv) = true) : Right (head (nsOf n0 n1 n2 n3 n4 n5 n6 more) n5 ++ [m]) 0 := by
  refine fact_good (ds := [.str "rose", .str n0, .int av, .int bv, .int cv]) h e (ln_rose h.a0 hw (by show 3 ≤ 5; omega)) rfl ?_ ?_ ?_
  · exact (claim_rose ha hb hc).trans (if_pos hi)
  · show ([_, _, _, wordS (.int av), wordS (.int bv), wordS (.int cv)] : List Str) = _
    rw [wa, wb, wc]
    rfl
  · show (true && (true && (isAtom (.int av) && (isAtom (.int bv) && (isAtom (.int cv) && true))))) = true
    rw [aa, ab, ac]
    rfl
theorem rose_bad (h : Cn n0 n1 n2 n3 n4 n5 n6 more) {m a b c : Str} {av bv cv : Int} (e : m = J ["fact", "rose", n0, a, b, c]) (hw : [a, b, c].all wdB = true) (ha : integerIn a = some av) (hb : integerIn b = some bv) (hc : integerIn c = some cv) (hi : (isDayD (.int av) && (isDayD (.int bv) && !(sameI (.int av) (.int bv)))) = false) : Right (head (nsOf n0 n1 n2 n3 n4 n5 n6 more) n5 ++ [m]) 3 := by
  refine fact_bad h e (ln_rose h.a0 hw (by show 3 ≤ 5; omega)) rfl ?_
  exact (claim_rose ha hb hc).trans (if_neg (by rw [hi]; decide))
def AllR (l : List PyData) : Prop := ∀ d ∈ l, ∃ (ls : List Str) (k : Nat), d = rowD ls k ∧ Right ls k
theorem ar_nil : AllR [] := fun _ h => by cases h
theorem ar_cons {ls : List Str} {k : Nat} {i : Int} {l : List PyData} (hi : i = (k : Int)) (h : Right ls k) (hs : AllR l) : AllR (rowD ls i :: l) := fun d hd => by
  rcases List.mem_cons.mp hd with e | e
  · exact ⟨ls, k, by rw [e, hi], h⟩
  · exact hs d e
theorem ar_app {a b : List PyData} (h1 : AllR a) (h2 : AllR b) : AllR (a ++ b) := fun d hd => (List.mem_append.mp hd).elim (h1 d) (h2 d)
theorem g0 (h : Cn n0 n1 n2 n3 n4 n5 n6 more) : AllR [rowD (((people (nsOf n0 n1 n2 n3 n4 n5 n6 more)).take 3) ++ ((labs (nsOf n0 n1 n2 n3 n4 n5 n6 more)).take 6)) 0, rowD ((people (nsOf n0 n1 n2 n3 n4 n5 n6 more)) ++ ((labs (nsOf n0 n1 n2 n3 n4 n5 n6 more)).take 1)) 4, rowD (((people (nsOf n0 n1 n2 n3 n4 n5 n6 more)).take 1) ++ (labs (nsOf n0 n1 n2 n3 n4 n5 n6 more))) 8, rowD ((labs (nsOf n0 n1 n2 n3 n4 n5 n6 more)).take 1) 1, rowD ((people (nsOf n0 n1 n2 n3 n4 n5 n6 more)).take 2) 3] := ar_cons (k := 0) rfl (row_a h) (ar_cons (k := 4) rfl (row_b h) (ar_cons (k := 8) rfl (row_c h) (ar_cons (k := 1) rfl (row_d h) (ar_cons (k := 3) rfl (row_e h) (ar_nil)))))
theorem g1 (h : Cn n0 n1 n2 n3 n4 n5 n6 more) : AllR [rowD (((head (nsOf n0 n1 n2 n3 n4 n5 n6 more) n5) ++ ((results (nsOf n0 n1 n2 n3 n4 n5 n6 more) n0 n5).take 24)) ++ ((facts n0).take 8)) 0, rowD ((head (nsOf n0 n1 n2 n3 n4 n5 n6 more) n5) ++ (results (nsOf n0 n1 n2 n3 n4 n5 n6 more) n0 n5)) 27, rowD ((head (nsOf n0 n1 n2 n3 n4 n5 n6 more) n5) ++ (facts n0)) 11] := ar_cons (k := 0) rfl (row_f h) (ar_cons (k := 27) rfl (row_g h) (ar_cons (k := 11) rfl (row_h h) (ar_nil)))
theorem g2 (h : Cn n0 n1 n2 n3 n4 n5 n6 more) : AllR [rowD (((head (nsOf n0 n1 n2 n3 n4 n5 n6 more) n5) ++ ((results (nsOf n0 n1 n2 n3 n4 n5 n6 more) n0 n5).take 24)) ++ (facts n0)) 35] := ar_cons (k := 35) rfl (row_i h) (ar_nil)
theorem g3 (h : Cn n0 n1 n2 n3 n4 n5 n6 more) : AllR [rowD (((people (nsOf n0 n1 n2 n3 n4 n5 n6 more)).take 1) ++ [(("lab x" : Str) ++ (Txt.mul sTab 5))]) 2, rowD (((people (nsOf n0 n1 n2 n3 n4 n5 n6 more)).take 1) ++ [("lab x" : Str)]) 2] := ar_cons (k := 2) rfl (lab_bad h J_lab5 (ln_of (by decide +kernel)) rfl (by decide +kernel)) (ar_cons (k := 2) rfl (lab_bad h J_l0 (ln_of (by decide +kernel)) rfl (by decide +kernel)) (ar_nil))
theorem g4 (h : Cn n0 n1 n2 n3 n4 n5 n6 more) : AllR [rowD (((people (nsOf n0 n1 n2 n3 n4 n5 n6 more)).take 1) ++ [("lab x 1 0 0 1" : Str)]) 2] := ar_cons (k := 2) rfl (lab_bad h J_l1 (ln_of (by decide +kernel)) rfl (by decide +kernel)) (ar_nil)
theorem g5 (h : Cn n0 n1 n2 n3 n4 n5 n6 more) : AllR [rowD (((people (nsOf n0 n1 n2 n3 n4 n5 n6 more)).take 1) ++ [("lab x 1000 -5 0 -3 -3" : Str)]) 0, rowD (((people (nsOf n0 n1 n2 n3 n4 n5 n6 more)).take 1) ++ [("lab x 1001 0 0 1 2" : Str)]) 2] := ar_cons (k := 0) rfl (lab_good h) (ar_cons (k := 2) rfl (lab_bad h J_l3 (ln_of (by decide +kernel)) rfl (by decide +kernel)) (ar_nil))
theorem g6 (h : Cn n0 n1 n2 n3 n4 n5 n6 more) : AllR [rowD (((people (nsOf n0 n1 n2 n3 n4 n5 n6 more)).take 1) ++ [("lab x 0 0 0 1 2" : Str)]) 2, rowD (((people (nsOf n0 n1 n2 n3 n4 n5 n6 more)).take 1) ++ [("lab x 1 0 -1 1 2" : Str)]) 2] := ar_cons (k := 2) rfl (lab_bad h J_l4 (ln_of (by decide +kernel)) rfl (by decide +kernel)) (ar_cons (k := 2) rfl (lab_bad h J_l5 (ln_of (by decide +kernel)) rfl (by decide +kernel)) (ar_nil))
theorem g7 (h : Cn n0 n1 n2 n3 n4 n5 n6 more) : AllR [rowD (((people (nsOf n0 n1 n2 n3 n4 n5 n6 more)).take 1) ++ [("lab x 1 0 0 2 1" : Str)]) 2, rowD ([("person x -1 0" : Str)] ++ ((labs (nsOf n0 n1 n2 n3 n4 n5 n6 more)).take 1)) 1] := ar_cons (k := 2) rfl (lab_bad h J_l6 (ln_of (by decide +kernel)) rfl (by decide +kernel)) (ar_cons (k := 1) rfl (person_bad h J_l7 (ln_of (by decide +kernel)) (by decide +kernel)) (ar_nil))
theorem g8 (h : Cn n0 n1 n2 n3 n4 n5 n6 more) : AllR [rowD ([("person x 0 -1" : Str)] ++ ((labs (nsOf n0 n1 n2 n3 n4 n5 n6 more)).take 1)) 1] := ar_cons (k := 1) rfl (person_bad h J_l8 (ln_of (by decide +kernel)) (by decide +kernel)) (ar_nil)
theorem g9 (h : Cn n0 n1 n2 n3 n4 n5 n6 more) : AllR [rowD ([("person abcdefgh 0 0" : Str)] ++ ((labs (nsOf n0 n1 n2 n3 n4 n5 n6 more)).take 1)) 0, rowD ([("person abcdefghi 0 0" : Str)] ++ ((labs (nsOf n0 n1 n2 n3 n4 n5 n6 more)).take 1)) 1] := ar_cons (k := 0) rfl (person_good h) (ar_cons (k := 1) rfl (person_bad h J_l10 (ln_of (by decide +kernel)) (by decide +kernel)) (ar_nil))
theorem g10 (h : Cn n0 n1 n2 n3 n4 n5 n6 more) : AllR [rowD ((head (nsOf n0 n1 n2 n3 n4 n5 n6 more) n5) ++ [((mDay n0 n5) ++ ("0 -7" : Str))]) 0, rowD ((head (nsOf n0 n1 n2 n3 n4 n5 n6 more) n5) ++ [((mDay n0 n5) ++ ("100 1" : Str))]) 3, rowD ((head (nsOf n0 n1 n2 n3 n4 n5 n6 more) n5) ++ [((mDay n0 n5) ++ ("-1 1" : Str))]) 3] := ar_cons (k := 0) rfl (day_good (i := 0) (t := .num (-7)) h (J_day0 n0 n5) (by decide +kernel) (by decide +kernel) (by decide +kernel) (by decide +kernel) (by decide +kernel) (by decide +kernel) (by decide +kernel)) (ar_cons (k := 3) rfl (day_bad h (J_day1 n0 n5) (by decide +kernel) (by decide +kernel) (by decide +kernel)) (ar_cons (k := 3) rfl (day_bad h (J_day2 n0 n5) (by decide +kernel) (by decide +kernel) (by decide +kernel)) (ar_nil)))
theorem g11 (h : Cn n0 n1 n2 n3 n4 n5 n6 more) : AllR [rowD ((head (nsOf n0 n1 n2 n3 n4 n5 n6 more) n5) ++ [((mDay n0 n5) ++ ("01 1" : Str))]) 3] := ar_cons (k := 3) rfl (day_bad h (J_day3 n0 n5) (by decide +kernel) (by decide +kernel) (by decide +kernel)) (ar_nil)
theorem g12 (h : Cn n0 n1 n2 n3 n4 n5 n6 more) : AllR [rowD ((head (nsOf n0 n1 n2 n3 n4 n5 n6 more) n5) ++ [((mDay n0 n5) ++ ("1 Low" : Str))]) 3, rowD ((head (nsOf n0 n1 n2 n3 n4 n5 n6 more) n5) ++ [((mDay n0 n5) ++ ("1 +1" : Str))]) 3, rowD ((head (nsOf n0 n1 n2 n3 n4 n5 n6 more) n5) ++ [((mDay n0 n5) ++ ("1 1" : Str)), ((mDay n0 n5) ++ ("2 1" : Str))]) 4] := ar_cons (k := 3) rfl (day_bad h (J_day4 n0 n5) (by decide +kernel) (by decide +kernel) (by decide +kernel)) (ar_cons (k := 3) rfl (day_bad h (J_day5 n0 n5) (by decide +kernel) (by decide +kernel) (by decide +kernel)) (ar_cons (k := 4) rfl (day_two h (J_day6 n0 n5) (J_day7 n0 n5)) (ar_nil)))
theorem g13 (h : Cn n0 n1 n2 n3 n4 n5 n6 more) : AllR (loopAll (head (nsOf n0 n1 n2 n3 n4 n5 n6 more) n5) n5) := ar_cons (k := 3) rfl (lit_bad (dv := 99) (iv := 0) h (J_from0 n5) (by decide +kernel) (by decide +kernel) (by decide +kernel) (by decide +kernel) (by decide +kernel) (by decide +kernel) (by decide +kernel) (by decide +kernel) (by decide +kernel)) (ar_cons (k := 3) rfl (lit_bad (dv := 0) (iv := 0) h (J_bef0 n5) (by decide +kernel) (by decide +kernel) (by decide +kernel) (by decide +kernel) (by decide +kernel) (by decide +kernel) (by decide +kernel) (by decide +kernel) (by decide +kernel)) (ar_cons (k := 0) rfl (lit_good (dv := 99) (iv := 1) h (J_from1 n5) (by decide +kernel) (by decide +kernel) (by decide +kernel) (by decide +kernel) (by decide +kernel) (by decide +kernel) (by decide +kernel) (by decide +kernel) (by decide +kernel) (by decide +kernel) (by decide +kernel) (by decide +kernel) (by decide +kernel)) (ar_cons (k := 0) rfl (lit_good (dv := 0) (iv := 1) h (J_bef1 n5) (by decide +kernel) (by decide +kernel) (by decide +kernel) (by decide +kernel) (by decide +kernel) (by decide +kernel) (by decide +kernel) (by decide +kernel) (by decide +kernel) (by decide +kernel) (by decide +kernel) (by decide +kernel) (by decide +kernel)) (ar_cons (k := 0) rfl (lit_good (dv := 99) (iv := 3) h (J_from2 n5) (by decide +kernel) (by decide +kernel) (by decide +kernel) (by decide +kernel) (by decide +kernel) (by decide +kernel) (by decide +kernel) (by decide +kernel) (by decide +kernel) (by decide +kernel) (by decide +kernel) (by decide +kernel) (by decide +kernel)) (ar_cons (k := 0) rfl (lit_good (dv := 0) (iv := 3) h (J_bef2 n5) (by decide +kernel) (by decide +kernel) (by decide +kernel) (by decide +kernel) (by decide +kernel) (by decide +kernel) (by decide +kernel) (by decide +kernel) (by decide +kernel) (by decide +kernel) (by decide +kernel) (by decide +kernel) (by decide +kernel)) (ar_cons (k := 3) rfl (lit_bad (dv := 99) (iv := 4) h (J_from3 n5) (by decide +kernel) (by decide +kernel) (by decide +kernel) (by decide +kernel) (by decide +kernel) (by decide +kernel) (by decide +kernel) (by decide +kernel) (by decide +kernel)) (ar_cons (k := 3) rfl (lit_bad (dv := 0) (iv := 4) h (J_bef3 n5) (by decide +kernel) (by decide +kernel) (by decide +kernel) (by decide +kernel) (by decide +kernel) (by decide +kernel) (by decide +kernel) (by decide +kernel) (by decide +kernel)) (ar_cons (k := 3) rfl (lit_bad (dv := 99) (iv := -1) h (J_from4 n5) (by decide +kernel) (by decide +kernel) (by decide +kernel) (by decide +kernel) (by decide +kernel) (by decide +kernel) (by decide +kernel) (by decide +kernel) (by decide +kernel)) (ar_cons (k := 3) rfl (lit_bad (dv := 0) (iv := -1) h (J_bef4 n5) (by decide +kernel) (by decide +kernel) (by decide +kernel) (by decide +kernel) (by decide +kernel) (by decide +kernel) (by decide +kernel) (by decide +kernel) (by decide +kernel)) (ar_nil))))))))))
theorem g14 (h : Cn n0 n1 n2 n3 n4 n5 n6 more) : AllR [rowD ((head (nsOf n0 n1 n2 n3 n4 n5 n6 more) n5) ++ [((mRose n0) ++ ("0 99 -4" : Str))]) 0, rowD ((head (nsOf n0 n1 n2 n3 n4 n5 n6 more) n5) ++ [((mRose n0) ++ ("99 0 4" : Str))]) 0, rowD ((head (nsOf n0 n1 n2 n3 n4 n5 n6 more) n5) ++ [((mRose n0) ++ ("5 5 0" : Str))]) 3] := ar_cons (k := 0) rfl (rose_good (av := 0) (bv := 99) (cv := -4) h (J_rose0 n0) (by decide +kernel) (by decide +kernel) (by decide +kernel) (by decide +kernel) (by decide +kernel) (by decide +kernel) (by decide +kernel) (by decide +kernel) (by decide +kernel) (by decide +kernel) (by decide +kernel)) (ar_cons (k := 0) rfl (rose_good (av := 99) (bv := 0) (cv := 4) h (J_rose1 n0) (by decide +kernel) (by decide +kernel) (by decide +kernel) (by decide +kernel) (by decide +kernel) (by decide +kernel) (by decide +kernel) (by decide +kernel) (by decide +kernel) (by decide +kernel) (by decide +kernel)) (ar_cons (k := 3) rfl (rose_bad (av := 5) (bv := 5) (cv := 0) h (J_rose2 n0) (by decide +kernel) (by decide +kernel) (by decide +kernel) (by decide +kernel) (by decide +kernel)) (ar_nil)))
theorem g15 (h : Cn n0 n1 n2 n3 n4 n5 n6 more) : AllR [rowD ((head (nsOf n0 n1 n2 n3 n4 n5 n6 more) n5) ++ [((mRose n0) ++ ("0 100 1" : Str))]) 3, rowD ((head (nsOf n0 n1 n2 n3 n4 n5 n6 more) n5) ++ [((mRose n0) ++ ("1 2" : Str))]) 3, rowD (((head (nsOf n0 n1 n2 n3 n4 n5 n6 more) n5) ++ ((facts n0).take 1)) ++ ((results (nsOf n0 n1 n2 n3 n4 n5 n6 more) n0 n5).take 1)) 4] := ar_cons (k := 3) rfl (rose_bad (av := 0) (bv := 100) (cv := 1) h (J_rose3 n0) (by decide +kernel) (by decide +kernel) (by decide +kernel) (by decide +kernel) (by decide +kernel)) (ar_cons (k := 3) rfl (fact_bad h (J_rose4 n0) (ln_rose h.a0 (r := ["1", "2"]) (by decide +kernel) (by decide)) rfl claim_rose2) (ar_cons (k := 4) rfl (row_z h) (ar_nil)))
theorem cn_all (h : Cn n0 n1 n2 n3 n4 n5 n6 more) : AllR (rowsAll (nsOf n0 n1 n2 n3 n4 n5 n6 more) n0 n5) := ar_app (ar_app (ar_app (ar_app (ar_app (ar_app (ar_app (ar_app (ar_app (ar_app (ar_app (ar_app (ar_app (ar_app (ar_app (g0 h) (g1 h)) (g2 h)) (g3 h)) (g4 h)) (g5 h)) (g6 h)) (g7 h)) (g8 h)) (g9 h)) (g10 h)) (g11 h)) (g12 h)) (g13 h)) (g14 h)) (g15 h)
theorem seven {α : Type} : ∀ {l : List α}, l.length = 30 → ∃ a b c d e f g m, l = a :: b :: c :: d :: e :: f :: g :: m ∧ m.length = 23
  | a :: b :: c :: d :: e :: f :: g :: m, h => ⟨a, b, c, d, e, f, g, m, rfl, by simpa using h⟩
theorem all_right : ∀ ns rest n0 n5, (ns ++ rest).Perm pool → Nm ns n0 n5 → ∀ d ∈ rowsAll ns n0 n5, ∃ (ls : List Str) (k : Nat), d = rowD ls k ∧ Right ls k := by
  intro ns rest n0 n5 hp hN
  have h0 := hN.h0
  have h5 := hN.h5
  have len := hN.len
  have nam : ∀ n ∈ ns, Nam n := fun n hn => pool_nam (hp.mem_iff.mp (List.mem_append_left _ hn))
  have nd : ns.Nodup := (List.nodup_append.mp (hp.nodup_iff.mpr pool_nodup)).1
  obtain ⟨m0, m1, m2, m3, m4, m5, m6, more, rfl, hm⟩ := seven len
  cases h0
  cases h5
  exact cn_all ⟨nam, nd, hm⟩
end
end G

set_option Elab.async false
set_option linter.all false
set_option maxRecDepth 100000
set_option maxHeartbeats 4000000
namespace G
open PySem PySem.Spec PyProof.Rows L2 U
open PySem.W (Frag)
section
variable {P : Program} {w : World} {K : Frag} {mg : Str → Option Value} {base : Heap} {f fR fS fP Pt : Addr} {fd fdR fdS fdP : FuncData}
def spLaw (K : Frag) (Pt : Addr) : Sp := fun vs H Q _ => ∃ (a : Addr) (ns : List Int), vs = [.ref a] ∧ SqL K H a (ns.map V.int) ∧ LamX.Tabs [(Pt, qIs)] H ∧ ∀ H', Q (.bl true) H'
theorem ok_law (F : FnP K "law" s_law f fd) (GR : FnOk P w K mg base CX0 13 fR fdR P_Lright (spRight Pt)) (FR : FnP K "_law_right" s_Lright fR fdR) (gR : mg "_law_right" = some (.ref fR)) (GS : FnOk P w K mg base CX0 2 fS fdS ["_law_script", "_law_limit"] (spPots K)) (FS : FnP K "_law_pots" s_Lpots fS fdS) (gS : mg "_law_pots" = some (.ref fS)) (gA : mg "all" = none) :
    FnOk P w K mg base CX0 14 f fd ["_law_script"] (spLaw K Pt) := by
  have bR : Binds K fdR P_Lright [] := FR.bindsN fun _ _ _ _ _ _ us hl => match us, hl with | [_], _ => rfl
  have bS : Binds K fdS ["_law_script", "_law_limit"] [] := FS.bindsN fun _ _ _ _ _ _ us hl => match us, hl with | [_, _], _ => rfl
  refine F.ok sc_law (fun vs H Q E h => ?_) (fun cdv A outer s H vs Q E hr h => ?_)
  · obtain ⟨a, ns, rfl, _⟩ := h
    rfl
  · obtain ⟨a, ns, rfl, hs, tabs, hq⟩ := h
    have hr2 : Room 2 _ := hr.mono (by decide)
    refine ⟨_, PSs.nox (pss_one (ps_ret (pe_callB (cr_all rfl) (by rfl) gA (by decide +kernel) (pa_cons (pe_lc (own := [("_law_pot_here", 1)]) (g := gName 1) (tt := tYes) rfl sc_law.nd
      (pi_list (pe_call GS hr2 (by rfl) gS FS.kp bS .nil pass0 (pa_cons (pv 0) (pa_cons pe_int pa_nil)))) (blkOk_by (N := N_law) (sc := defScope s_law) (by decide +kernel)) (fun _ _ _ _ _ => pg_name (i := 1) sc_law.nd rfl (Or.inl rfl)) (fun _ _ _ _ _ => pts_nil)
      (fun _ _ _ _ _ => pe_call GR hr (by rfl) gR FR.kp bR .nil pass0 (pa_cons (pv 1) pa_nil))) pa_nil)))), ?_⟩
    refine ⟨_, rfl, a, ns, 4, rfl, hs, by decide, by decide, fun l ps H1 s1 hl nd hlen hps => ?_⟩
    refine ⟨l, rfl, ⟨_, SqL.of hl⟩, fun L nL => lc_list (K := K) (a := l) (xs := ps.map V.ref) (fun i Hc => Hc l = some (.lst (ps.map V.ref)) ∧ (∀ j, i ≤ j → ∀ p, ps[j]? = some p → Pot Hc p 0) ∧ Hc L = some (.lst ((List.replicate i true).map V.bl)) ∧ LamX.Tabs [(Pt, qIs)] Hc)
      ⟨same_new nL _ _ hl, fun j _ p hp => ?_, upd_same, (tabs.ext fun b o z => s1 _ _ z).ext fun b o z => same_new nL _ _ z⟩ (fun i Hc _ h => SqL.of h.1) ?_ ?_⟩
    · obtain ⟨o1, m1, c1, e1, k1⟩ := hps p (List.mem_of_getElem? hp)
      exact ⟨o1, m1, c1, same_new nL _ _ e1, k1⟩
    · rintro i x Hc hi ⟨h1, h2, h3, h4⟩
      rw [List.getElem?_map] at hi
      cases ep : ps[i]? with
      | none =>
        rw [ep] at hi
        cases hi
      | some p =>
        rw [ep] at hi
        cases hi
        have hp := h2 i (Nat.le_refl _) p ep
        have ilt : i < ps.length := (List.getElem?_eq_some_iff.mp ep).1
        refine ⟨rfl, yes_if ?_⟩
        refine ⟨_, rfl, p, rfl, hp, h4, fun H2 x2 t2 => ?_⟩
        have noI : ∀ i, V.int i ∉ ps.map V.ref := fun i z => by
          obtain ⟨q, _, e⟩ := List.mem_map.mp z
          cases e
        have noB : ∀ (n : Nat) i, V.int i ∉ (List.replicate n true).map V.bl := fun n i z => by
          obtain ⟨q, _, e⟩ := List.mem_map.mp z
          cases e
        have nl : l ≠ p := pot_ne3 hp h1 noI
        have nL' : L ≠ p := pot_ne3 hp h3 (noB i)
        have lL : l ≠ L := fun z => by
          rw [z, h3] at h1
          have z1 := HO.lst.inj (Option.some.inj h1)
          cases ps with
          | nil => simp at ilt
          | cons q qs =>
            cases i with
            | zero => cases z1
            | succ i => cases z1
        have nt : ∀ {xs : List V}, ∀ ps, HO.lst xs ≠ .tbl ps := fun ps z => by cases z
        have eL := x2 _ _ nL' h3 nt
        refine ⟨_, eL, by rw [List.length_map, List.length_replicate, sizeLine_eq]; omega, ?_, fun j hj q hq' => ?_, ?_, tabs_lst t2 eL⟩
        · rw [upd_ne lL]
          exact x2 _ _ nl h1 nt
        · obtain ⟨o1, m1, c1, e1, k1⟩ := h2 j (by omega) q hq'
          have qp : q ≠ p := fun z => by
            subst z
            obtain ⟨l1, f1⟩ := List.getElem?_eq_some_iff.mp hq'
            obtain ⟨l2, f2⟩ := List.getElem?_eq_some_iff.mp ep
            have := (List.getElem_inj nd).mp (f1.trans f2.symm)
            omega
          have qL : q ≠ L := Ne.symm (pot_ne3 ⟨o1, m1, c1, e1, k1⟩ h3 (noB i))
          exact ⟨o1, m1, c1, by rw [upd_ne qL]; exact x2 _ _ qp e1 nt, k1⟩
        · rw [upd_same, List.replicate_succ', List.map_append]
          rfl
    · rintro Hc ⟨h1, h2, h3, _⟩
      refine ⟨L, _, rfl, SqL.of h3, ?_⟩
      have e : (List.replicate (ps.map V.ref).length true).all id = true := by
        rw [List.all_eq_true]
        intro b hb
        rw [List.eq_of_mem_replicate hb]
        rfl
      rw [e]
      exact hq Hc
end
end G

set_option Elab.async false
set_option linter.all false
set_option maxRecDepth 100000
set_option maxHeartbeats 0
namespace G
open PySem PySem.Spec PyProof.Rows L2 U
open PySem.W (Frag)
def names0 : List PySem.Str := ["_wall", "is_integer", "is_tuple", "is_word", "is_day", "is_name", "integer_in", "is_table", "stretch_by", "do_turn_back", "can_tell", "turned_table", "turned_print", "other_word", "is_literal", "is_claim", "check_claim", "claim_in", "person_of", "lab_of", "days_in", "turned_claim", "back_claim", "person_in", "lab_in", "result_in", "read_people", "read_labs", "read_results", "read_facts"]
def names1 : List PySem.Str := ["read_text", "text_of", "chart_of", "check_result", "check_person", "check_lab", "person_days", "lab_days", "_law_pot", "_law_take", "_law_some", "_law_pots", "_law_caught", "_law_names", "_law_is", "_law_right", "TableError", "BadChart", "NoResult", "NoPerson", "NoLab", "NoName", "Full", "BadClaim", "Ground", "Chart", "MOST_LETTERS", "LAST_DAY", "PAIR", "MOST_FACTOR"]
def names2 : List PySem.Str := ["MOST_TABLES", "TABLE_NUMBERS", "FOUR", "FIVE", "PERSON_WORDS", "RESULT_WORDS", "BLANK", "FEED", "LETTERS", "FIGURES", "MINUS", "LEAST", "MOST_words", "ROSE", "FROM", "BEFORE", "LOW", "NORMAL", "HIGH", "PERSON", "LAB", "RESULT", "FACT", "PRINTS", "BOUNDS", "LITERALS", "TURNED_PRINTS", "MOST_charts"]
def loose : List PySem.Str := names0 ++ names1 ++ names2
def fa0 : List He.Fa := [.glo "_wall", .glo "is_integer", .glo "is_tuple", .glo "is_word", .glo "is_day", .glo "is_name", .glo "integer_in", .glo "is_table", .glo "stretch_by", .glo "do_turn_back", .glo "can_tell", .glo "turned_table", .glo "turned_print", .glo "other_word", .glo "is_literal", .glo "is_claim", .glo "check_claim", .glo "claim_in", .glo "person_of", .glo "lab_of"]
def fa1 : List He.Fa := [.glo "days_in", .glo "turned_claim", .glo "back_claim", .glo "person_in", .glo "lab_in", .glo "result_in", .glo "read_people", .glo "read_labs", .glo "read_results", .glo "read_facts", .glo "read_text", .glo "text_of", .glo "chart_of", .glo "check_result", .glo "check_person", .glo "check_lab", .glo "person_days", .glo "lab_days", .glo "_law_pot", .glo "_law_take"]
def fa2 : List He.Fa := [.glo "_law_some", .glo "_law_pots", .glo "_law_caught", .glo "_law_names", .glo "_law_is", .glo "_law_right", .glo "law", .glo "TableError", .glo "BadChart", .glo "NoResult", .glo "NoPerson", .glo "NoLab", .glo "NoName", .glo "Full", .glo "BadClaim", .glo "Ground", .glo "Chart", .glo "PRINTS", .glo "BOUNDS", .glo "LITERALS"]
def fa3 : List He.Fa := [.glo "TURNED_PRINTS", .glo "MOST_charts", .free "len", .free "abs", .free "int", .free "str", .free "bool", .free "repr", .free "isinstance", .free "range", .free "max", .free "min", .free "enumerate", .free "any", .free "all", .free "tuple", .free "list", .free "zip", .free "set", .free "sorted"]
def fa4 : List He.Fa := [.free "sum", .free "dict", .free "ValueError", .free "TypeError", .free "type", .int "MOST_LETTERS" 8, .int "LAST_DAY" 99, .int "PAIR" 2, .int "MOST_FACTOR" 1000, .int "MOST_TABLES" 4, .int "TABLE_NUMBERS" 5, .int "FOUR" 4, .int "FIVE" 5, .int "PERSON_WORDS" 4, .int "RESULT_WORDS" 6, .str "BLANK" " ", .str "FEED" "\n", .str "LETTERS" "abcdefghijklmnopqrstuvwxyz", .str "FIGURES" "0123456789", .str "MINUS" "-"]
def fa5 : List He.Fa := [.str "LEAST" "least", .str "MOST_words" "most", .str "ROSE" "rose", .str "FROM" "from", .str "BEFORE" "before", .str "LOW" "low", .str "NORMAL" "normal", .str "HIGH" "high", .str "PERSON" "person", .str "LAB" "lab", .str "RESULT" "result", .str "FACT" "fact", .cls "Chart", .mkr "Chart", .noat "Chart" "own_people", .noat "Chart" "own_labs", .noat "Chart" "own_rows", .noat "Chart" "own_facts", .mkr "Ground", .exm "BadChart" "TableError" true]
def fa : List He.Fa := fa0 ++ fa1 ++ fa2 ++ fa3 ++ fa4 ++ fa5
def d_is_integer : He.DefD := ⟨("is_integer", none), "is_integer", "is_integer", defArgs s_is_integer, defBody s_is_integer, defScope s_is_integer, [.non, .non], []⟩
def d_is_tuple : He.DefD := ⟨("is_tuple", none), "is_tuple", "is_tuple", defArgs s_is_tuple, defBody s_is_tuple, defScope s_is_tuple, [], []⟩
def d_is_word : He.DefD := ⟨("is_word", none), "is_word", "is_word", defArgs s_is_word, defBody s_is_word, defScope s_is_word, [], []⟩
def d_is_day : He.DefD := ⟨("is_day", none), "is_day", "is_day", defArgs s_is_day, defBody s_is_day, defScope s_is_day, [], []⟩
def d_is_name : He.DefD := ⟨("is_name", none), "is_name", "is_name", defArgs s_is_name, defBody s_is_name, defScope s_is_name, [], []⟩
def d_integer_in : He.DefD := ⟨("integer_in", none), "integer_in", "integer_in", defArgs s_integer_in, defBody s_integer_in, defScope s_integer_in, [], []⟩
def d_is_table : He.DefD := ⟨("is_table", none), "is_table", "is_table", defArgs s_is_table, defBody s_is_table, defScope s_is_table, [], []⟩
def d_stretch_by : He.DefD := ⟨("stretch_by", none), "stretch_by", "stretch_by", defArgs s_stretch_by, defBody s_stretch_by, defScope s_stretch_by, [], []⟩
def d_do_turn_back : He.DefD := ⟨("do_turn_back", none), "do_turn_back", "do_turn_back", defArgs s_do_turn_back, defBody s_do_turn_back, defScope s_do_turn_back, [], []⟩
def d_can_tell : He.DefD := ⟨("can_tell", none), "can_tell", "can_tell", defArgs s_can_tell, defBody s_can_tell, defScope s_can_tell, [], []⟩
def d_turned_table : He.DefD := ⟨("turned_table", none), "turned_table", "turned_table", defArgs s_turned_table, defBody s_turned_table, defScope s_turned_table, [], []⟩
def d_turned_print : He.DefD := ⟨("turned_print", none), "turned_print", "turned_print", defArgs s_turned_print, defBody s_turned_print, defScope s_turned_print, [], []⟩
def d_other_word : He.DefD := ⟨("other_word", none), "other_word", "other_word", defArgs s_other_word, defBody s_other_word, defScope s_other_word, [], []⟩
def d_is_literal : He.DefD := ⟨("is_literal", none), "is_literal", "is_literal", defArgs s_is_literal, defBody s_is_literal, defScope s_is_literal, [], []⟩
def d_is_claim : He.DefD := ⟨("is_claim", none), "is_claim", "is_claim", defArgs s_is_claim, defBody s_is_claim, defScope s_is_claim, [], []⟩
def d_check_claim : He.DefD := ⟨("check_claim", none), "check_claim", "check_claim", defArgs s_check_claim, defBody s_check_claim, defScope s_check_claim, [], []⟩
def d_claim_in : He.DefD := ⟨("claim_in", none), "claim_in", "claim_in", defArgs s_claim_in, defBody s_claim_in, defScope s_claim_in, [], []⟩
def d_person_of : He.DefD := ⟨("person_of", none), "person_of", "person_of", defArgs s_person_of, defBody s_person_of, defScope s_person_of, [], []⟩
def d_lab_of : He.DefD := ⟨("lab_of", none), "lab_of", "lab_of", defArgs s_lab_of, defBody s_lab_of, defScope s_lab_of, [], []⟩
def d_days_in : He.DefD := ⟨("days_in", none), "days_in", "days_in", defArgs s_days_in, defBody s_days_in, defScope s_days_in, [], []⟩
def d_turned_claim : He.DefD := ⟨("turned_claim", none), "turned_claim", "turned_claim", defArgs s_turned_claim, defBody s_turned_claim, defScope s_turned_claim, [], []⟩
def d_back_claim : He.DefD := ⟨("back_claim", none), "back_claim", "back_claim", defArgs s_back_claim, defBody s_back_claim, defScope s_back_claim, [], []⟩
def d_person_in : He.DefD := ⟨("person_in", none), "person_in", "person_in", defArgs s_person_in, defBody s_person_in, defScope s_person_in, [], []⟩
def d_lab_in : He.DefD := ⟨("lab_in", none), "lab_in", "lab_in", defArgs s_lab_in, defBody s_lab_in, defScope s_lab_in, [], []⟩
def d_result_in : He.DefD := ⟨("result_in", none), "result_in", "result_in", defArgs s_result_in, defBody s_result_in, defScope s_result_in, [], []⟩
def d_read_people : He.DefD := ⟨("read_people", none), "read_people", "read_people", defArgs s_read_people, defBody s_read_people, defScope s_read_people, [], []⟩
def d_read_labs : He.DefD := ⟨("read_labs", none), "read_labs", "read_labs", defArgs s_read_labs, defBody s_read_labs, defScope s_read_labs, [], []⟩
def d_read_results : He.DefD := ⟨("read_results", none), "read_results", "read_results", defArgs s_read_results, defBody s_read_results, defScope s_read_results, [], []⟩
def d_read_facts : He.DefD := ⟨("read_facts", none), "read_facts", "read_facts", defArgs s_read_facts, defBody s_read_facts, defScope s_read_facts, [], []⟩
def d_read_text : He.DefD := ⟨("read_text", none), "read_text", "read_text", defArgs s_read_text, defBody s_read_text, defScope s_read_text, [], []⟩
def d_text_of : He.DefD := ⟨("text_of", none), "text_of", "text_of", defArgs s_text_of, defBody s_text_of, defScope s_text_of, [], []⟩
def d_chart_of : He.DefD := ⟨("chart_of", none), "chart_of", "chart_of", defArgs s_chart_of, defBody s_chart_of, defScope s_chart_of, [], []⟩
def d_check_result : He.DefD := ⟨("check_result", none), "check_result", "check_result", defArgs s_check_result, defBody s_check_result, defScope s_check_result, [], []⟩
def d_check_person : He.DefD := ⟨("check_person", none), "check_person", "check_person", defArgs s_check_person, defBody s_check_person, defScope s_check_person, [], []⟩
def d_check_lab : He.DefD := ⟨("check_lab", none), "check_lab", "check_lab", defArgs s_check_lab, defBody s_check_lab, defScope s_check_lab, [], []⟩
def d_person_days : He.DefD := ⟨("person_days", none), "person_days", "person_days", defArgs s_person_days, defBody s_person_days, defScope s_person_days, [], []⟩
def d_lab_days : He.DefD := ⟨("lab_days", none), "lab_days", "lab_days", defArgs s_lab_days, defBody s_lab_days, defScope s_lab_days, [], []⟩
def d_Lpot : He.DefD := ⟨("_law_pot", none), "_law_pot", "_law_pot", defArgs s_Lpot, defBody s_Lpot, defScope s_Lpot, [], []⟩
def d_Ltake : He.DefD := ⟨("_law_take", none), "_law_take", "_law_take", defArgs s_Ltake, defBody s_Ltake, defScope s_Ltake, [], []⟩
def d_Lsome : He.DefD := ⟨("_law_some", none), "_law_some", "_law_some", defArgs s_Lsome, defBody s_Lsome, defScope s_Lsome, [], []⟩
def d_Lpots : He.DefD := ⟨("_law_pots", none), "_law_pots", "_law_pots", defArgs s_Lpots, defBody s_Lpots, defScope s_Lpots, [], []⟩
def d_Lcaught : He.DefD := ⟨("_law_caught", none), "_law_caught", "_law_caught", defArgs s_Lcaught, defBody s_Lcaught, defScope s_Lcaught, [], []⟩
def d_Lnames : He.DefD := ⟨("_law_names", none), "_law_names", "_law_names", defArgs s_Lnames, defBody s_Lnames, defScope s_Lnames, [], []⟩
def d_Lis : He.DefD := ⟨("_law_is", none), "_law_is", "_law_is", defArgs s_Lis, defBody s_Lis, defScope s_Lis, [], []⟩
def d_Lright : He.DefD := ⟨("_law_right", none), "_law_right", "_law_right", defArgs s_Lright, defBody s_Lright, defScope s_Lright, [], []⟩
def d_law : He.DefD := ⟨("law", none), "law", "law", defArgs s_law, defBody s_law, defScope s_law, [], []⟩
def d_Ground_init : He.DefD := ⟨("Ground", some "__init__"), "__init__", "Ground.__init__", defArgs s_Ground_init, defBody s_Ground_init, defScope s_Ground_init, [], []⟩
def d_Chart_init : He.DefD := ⟨("Chart", some "__init__"), "__init__", "Chart.__init__", defArgs s_Chart_init, defBody s_Chart_init, defScope s_Chart_init, [], []⟩
def fn0 : List He.DefD := [d_is_integer, d_is_tuple, d_is_word, d_is_day, d_is_name, d_integer_in, d_is_table, d_stretch_by, d_do_turn_back, d_can_tell, d_turned_table, d_turned_print, d_other_word, d_is_literal, d_is_claim, d_check_claim, d_claim_in, d_person_of, d_lab_of, d_days_in, d_turned_claim, d_back_claim, d_person_in, d_lab_in, d_result_in]
def fn1 : List He.DefD := [d_read_people, d_read_labs, d_read_results, d_read_facts, d_read_text, d_text_of, d_chart_of, d_check_result, d_check_person, d_check_lab, d_person_days, d_lab_days, d_Lpot, d_Ltake, d_Lsome, d_Lpots, d_Lcaught, d_Lnames, d_Lis, d_Lright, d_law, d_Ground_init, d_Chart_init]
def fn : List He.DefD := fn0 ++ fn1
theorem at_d_is_integer : fn[0]? = some d_is_integer := rfl
theorem at_d_is_tuple : fn[1]? = some d_is_tuple := rfl
theorem at_d_is_word : fn[2]? = some d_is_word := rfl
theorem at_d_is_day : fn[3]? = some d_is_day := rfl
theorem at_d_is_name : fn[4]? = some d_is_name := rfl
theorem at_d_integer_in : fn[5]? = some d_integer_in := rfl
theorem at_d_is_table : fn[6]? = some d_is_table := rfl
theorem at_d_stretch_by : fn[7]? = some d_stretch_by := rfl
theorem at_d_do_turn_back : fn[8]? = some d_do_turn_back := rfl
theorem at_d_can_tell : fn[9]? = some d_can_tell := rfl
theorem at_d_turned_table : fn[10]? = some d_turned_table := rfl
theorem at_d_turned_print : fn[11]? = some d_turned_print := rfl
theorem at_d_other_word : fn[12]? = some d_other_word := rfl
theorem at_d_is_literal : fn[13]? = some d_is_literal := rfl
theorem at_d_is_claim : fn[14]? = some d_is_claim := rfl
theorem at_d_check_claim : fn[15]? = some d_check_claim := rfl
theorem at_d_claim_in : fn[16]? = some d_claim_in := rfl
theorem at_d_person_of : fn[17]? = some d_person_of := rfl
theorem at_d_lab_of : fn[18]? = some d_lab_of := rfl
theorem at_d_days_in : fn[19]? = some d_days_in := rfl
theorem at_d_turned_claim : fn[20]? = some d_turned_claim := rfl
theorem at_d_back_claim : fn[21]? = some d_back_claim := rfl
theorem at_d_person_in : fn[22]? = some d_person_in := rfl
theorem at_d_lab_in : fn[23]? = some d_lab_in := rfl
theorem at_d_result_in : fn[24]? = some d_result_in := rfl
theorem at_d_read_people : fn[25]? = some d_read_people := rfl
theorem at_d_read_labs : fn[26]? = some d_read_labs := rfl
theorem at_d_read_results : fn[27]? = some d_read_results := rfl
theorem at_d_read_facts : fn[28]? = some d_read_facts := rfl
theorem at_d_read_text : fn[29]? = some d_read_text := rfl
theorem at_d_text_of : fn[30]? = some d_text_of := rfl
theorem at_d_chart_of : fn[31]? = some d_chart_of := rfl
theorem at_d_check_result : fn[32]? = some d_check_result := rfl
theorem at_d_check_person : fn[33]? = some d_check_person := rfl
theorem at_d_check_lab : fn[34]? = some d_check_lab := rfl
theorem at_d_person_days : fn[35]? = some d_person_days := rfl
theorem at_d_lab_days : fn[36]? = some d_lab_days := rfl
theorem at_d_Lpot : fn[37]? = some d_Lpot := rfl
theorem at_d_Ltake : fn[38]? = some d_Ltake := rfl
theorem at_d_Lsome : fn[39]? = some d_Lsome := rfl
theorem at_d_Lpots : fn[40]? = some d_Lpots := rfl
theorem at_d_Lcaught : fn[41]? = some d_Lcaught := rfl
theorem at_d_Lnames : fn[42]? = some d_Lnames := rfl
theorem at_d_Lis : fn[43]? = some d_Lis := rfl
theorem at_d_Lright : fn[44]? = some d_Lright := rfl
theorem at_d_law : fn[45]? = some d_law := rfl
theorem at_d_Ground_init : fn[46]? = some d_Ground_init := rfl
theorem at_d_Chart_init : fn[47]? = some d_Chart_init := rfl
def ts : List He.Tab := [(fun K => He.ga K "MOST_charts", ["person", "lab", "result", "fact"])]
abbrev s_Tinit : Stmt := inClass (top 2) 0
def aD (K : Frag) : Addr := He.ga K "TableError"
def aI (K : Frag) : Addr := He.ma K (aD K) "__init__"
def pText (K : Frag) : Addr := (propA K (He.ga K "Chart") "text").2
def ex0 (K : Frag) : Bool := initB R.prog.main.file K (aD K) (aI K)
def ex1 (K : Frag) : Bool := errB K (aD K) (aI K) (He.ga K "BadChart")
def ex2 (K : Frag) : Bool := eqB (PySem.W.kitOne K (.ref (He.ga K "BadChart")) (.ref (He.ga K "BadChart"))) (some true)
def ex3 (K : Frag) : Bool := He.tupB K "PRINTS" [.str "low", .str "normal", .str "high"]
def ex4 (K : Frag) : Bool := He.tupB K "BOUNDS" [.str "least", .str "most"]
def ex5 (K : Frag) : Bool := He.tupB K "LITERALS" [.str "from", .str "before"]
def ex6 (K : Frag) : Bool := He.valsB K (He.ga K "MOST_charts") [("person", .int 3), ("lab", .int 6), ("result", .int 24), ("fact", .int 8)]
def ex7 (K : Frag) : Bool := propB K (He.ga K "Chart") "text"
def ex8 (K : Frag) : Bool := okAt K (pText K) "Chart.text"
def ex9 (K : Frag) : Bool := sclsB K (He.ga K "Ground")
def ex10 (K : Frag) : Bool := slotB K (He.ga K "Ground") "own_labs" 0
def ex11 (K : Frag) : Bool := slotB K (He.ga K "Ground") "own_people" 1
def ex (K : Frag) : Bool := ex0 K && (ex1 K && (ex2 K && (ex3 K && (ex4 K && (ex5 K && (ex6 K && (ex7 K && (ex8 K && (ex9 K && (ex10 K && (ex11 K)))))))))))
def fc (K : Frag) : FnC := fnC K (aI K)
def vc : FnC := some (("__init__" : Str), ("TableError.__init__" : Str), defArgs s_Tinit, FuncBody.stmts (defBody s_Tinit), defScope s_Tinit, mainGlobals, [("__class__" : Str)], builtinsNs)
def gf : List (Frag → Addr) := [pText]
def gv : List He.FnW := [some ("text", "Chart.text", defArgs s_Chart_text, FuncBody.stmts (defBody s_Chart_text), defScope s_Chart_text, mainGlobals, [], builtinsNs)]
def lams : List Str := ["_law_is"]
abbrev hk : PySem.W.Hook := hookV 6 fa fn ts ex fc vc gf gv lams
def ob (s : PySem.W.SharedT) : AlV := obsV 6 fa fn ts ex fc gf lams (HandSHeadRun.getT s)
theorem ob_eq (s : PySem.W.SharedT) : ob s = hk.obs s.abs := obsV_eq (HandSHeadRun.getT_eq s)
def nLaw : Nat := 94
theorem runF (w : World) : HandSHeadRun.RunEq R (PySem.W.view R.prog [94]) hk ob 60000 loose (w.withFollow "special-get-raises" false) := by
  intro os
  kernel_rfl
theorem runT (w : World) : HandSHeadRun.RunEq R (PySem.W.view R.prog [94]) hk ob 60000 loose (w.withFollow "special-get-raises" true) := by
  intro os
  kernel_rfl
theorem run (w : World) : HandSHeadRun.RunEq R (PySem.W.view R.prog [94]) hk ob 60000 loose w := PySem.W.byRow2 "special-get-raises" (P := fun w => HandSHeadRun.RunEq R (PySem.W.view R.prog [94]) hk ob 60000 loose w) runF runT w
end G

set_option Elab.async false
set_option linter.all false
set_option maxRecDepth 100000
set_option maxHeartbeats 0
namespace G
open PySem PySem.Spec PyProof.Rows L2 U
open PySem.W (Frag)
def isGlo (x : Str) : He.Fa → Bool
  | .glo y => decide (y = x)
  | _ => false
def isFree (x : Str) : He.Fa → Bool
  | .free y => decide (y = x)
  | _ => false
def isInt (x : Str) (i : Int) : He.Fa → Bool
  | .int y j => decide (y = x) && decide (j = i)
  | _ => false
def isStr (x z : Str) : He.Fa → Bool
  | .str y u => decide (y = x) && decide (u = z)
  | _ => false
def isCls (x : Str) : He.Fa → Bool
  | .cls y => decide (y = x)
  | _ => false
def isMkr (x : Str) : He.Fa → Bool
  | .mkr y => decide (y = x)
  | _ => false
def isNoat (x f : Str) : He.Fa → Bool
  | .noat y g => decide (y = x) && decide (g = f)
  | _ => false
def isExm (x y : Str) : He.Fa → Bool
  | .exm a b c => decide (a = x) && (decide (b = y) && c)
  | _ => false
section
variable {K : Frag} (c : He.SaysD fa fn K)
include c
theorem glo_in {x : Str} (h : fa.any (isGlo x) = true) : (He.Fa.glo x).ok K = true := by
  obtain ⟨f, hf, hx⟩ := List.any_eq_true.mp h
  cases f with
  | glo y => exact of_decide_eq_true hx ▸ c.facts hf
  | _ => cases hx
theorem free_in {x : Str} (h : fa.any (isFree x) = true) : (He.Fa.free x).ok K = true := by
  obtain ⟨f, hf, hx⟩ := List.any_eq_true.mp h
  cases f with
  | free y => exact of_decide_eq_true hx ▸ c.facts hf
  | _ => cases hx
theorem int_in {x : Str} {i : Int} (h : fa.any (isInt x i) = true) : (He.Fa.int x i).ok K = true := by
  obtain ⟨f, hf, hx⟩ := List.any_eq_true.mp h
  cases f with
  | int y j =>
    obtain ⟨h1, h2⟩ := He.ba hx
    cases of_decide_eq_true h1
    cases of_decide_eq_true h2
    exact c.facts hf
  | _ => cases hx
theorem str_in {x z : Str} (h : fa.any (isStr x z) = true) : (He.Fa.str x z).ok K = true := by
  obtain ⟨f, hf, hx⟩ := List.any_eq_true.mp h
  cases f with
  | str y j =>
    obtain ⟨h1, h2⟩ := He.ba hx
    cases of_decide_eq_true h1
    cases of_decide_eq_true h2
    exact c.facts hf
  | _ => cases hx
theorem cls_in {x : Str} (h : fa.any (isCls x) = true) : (He.Fa.cls x).ok K = true := by
  obtain ⟨f, hf, hx⟩ := List.any_eq_true.mp h
  cases f with
  | cls y => exact of_decide_eq_true hx ▸ c.facts hf
  | _ => cases hx
theorem mkr_in {x : Str} (h : fa.any (isMkr x) = true) : (He.Fa.mkr x).ok K = true := by
  obtain ⟨f, hf, hx⟩ := List.any_eq_true.mp h
  cases f with
  | mkr y => exact of_decide_eq_true hx ▸ c.facts hf
  | _ => cases hx
theorem noat_in {x g : Str} (h : fa.any (isNoat x g) = true) : (He.Fa.noat x g).ok K = true := by
  obtain ⟨f, hf, hx⟩ := List.any_eq_true.mp h
  cases f with
  | noat y j =>
    obtain ⟨h1, h2⟩ := He.ba hx
    cases of_decide_eq_true h1
    cases of_decide_eq_true h2
    exact c.facts hf
  | _ => cases hx
theorem exm_in {x y : Str} (h : fa.any (isExm x y) = true) : (He.Fa.exm x y true).ok K = true := by
  obtain ⟨f, hf, hx⟩ := List.any_eq_true.mp h
  cases f with
  | exm a b v =>
    obtain ⟨h1, h2⟩ := He.ba hx
    obtain ⟨h2, h3⟩ := He.ba h2
    cases of_decide_eq_true h1
    cases of_decide_eq_true h2
    cases h3
    exact c.facts hf
  | _ => cases hx
end
theorem kd_of {K : Frag} {w : World} {mg : Str → Option Value} {x k : Str} {kvs : List (Str × He.Dv)} {d : He.Dv} (hm : mg x = some (.ref (He.ga K x))) (D : ∃ es n, KDict K w (He.ga K x) es n) (v : He.valsB K (He.ga K x) kvs = true) (hk : (k, d) ∈ kvs) : CD K w mg x k (d.v K) := by
  obtain ⟨es, n, D⟩ := D
  obtain ⟨u, h1, h2⟩ := He.valsB_ok v hk
  exact ⟨_, hm, es, n, u, D.at_, D.lit, h1, h2⟩
end G

set_option Elab.async false
set_option linter.all false
set_option maxRecDepth 100000
set_option maxHeartbeats 0
namespace G
open PySem PySem.Spec PyProof.Rows L2 U
open PySem.W (Frag)
theorem vc_is : vc = initV ⟨7, 17, 7, 21⟩ ⟨7, 23, 7, 28⟩ ⟨8, 8, 8, 13⟩ ⟨8, 8, 8, 15⟩ ⟨8, 8, 8, 24⟩ ⟨8, 25, 8, 30⟩ ⟨8, 8, 8, 31⟩ ⟨8, 8, 8, 31⟩ ⟨9, 8, 9, 12⟩ ⟨9, 8, 9, 18⟩ ⟨9, 21, 9, 26⟩ ⟨9, 8, 9, 26⟩ := by rfl
theorem lawFacts {w : World} {K : Frag} {h : Heap} {mg : Str → Option Value} {f : Addr} (c : SaysV fa fn ts ex fc vc gf gv lams w h K) (G : h.Ns mainGlobals mg) (hfa : mg ("law" : Str) = some (.ref f)) :
    LamX.LawAtS PySem.Challenge.rw_unnotedtables_k03_bounds_of_charts w K CX0 14 63 "_law_script" mg f h := by
  have X := c.in_
  have cd := c.t.d
  have e := c.ex
  obtain ⟨e0, e⟩ := He.ba e
  obtain ⟨e1, e⟩ := He.ba e
  obtain ⟨e2, e⟩ := He.ba e
  obtain ⟨e3, e⟩ := He.ba e
  obtain ⟨e4, e⟩ := He.ba e
  obtain ⟨e5, e⟩ := He.ba e
  obtain ⟨e6, e⟩ := He.ba e
  obtain ⟨e7, e⟩ := He.ba e
  obtain ⟨e8, e⟩ := He.ba e
  obtain ⟨e9, e⟩ := He.ba e
  obtain ⟨e10, e11⟩ := He.ba e
  have T : InitTxt R.prog K (aD K) (aI K) := init_of (prog := R.prog) (by rfl) (by decide +kernel) (c.fc.trans vc_is) e0
  have TB : ErrC K (aD K) (aI K) (He.ga K "BadChart") := errB_ok e1
  have gl : ∀ x : Str, fa.any (isGlo x) = true → mg x = some (.ref (He.ga K x)) := fun x hx => He.glo_ok X G (glo_in cd hx)
  have fr : ∀ x : Str, fa.any (isFree x) = true → mg x = none := fun x hx => He.free_ok X G (free_in cd hx)
  have ci : ∀ (x : Str) (i : Int), fa.any (isInt x i) = true → CI mg x i := fun x i hx => He.int_ok X G (int_in cd hx)
  have cs : ∀ (x z : Str), fa.any (isStr x z) = true → CS mg x z := fun x z hx => He.str_ok X G (str_in cd hx)
  have fnd : ∀ (x : Str) (d : He.DefD) (i : Nat), fn[i]? = some d → fa.any (isGlo x) = true → d.at_ = (x, none) → (∃ fd, FunD K d.name d.qual d.params d.body d.scope (d.dvs K) (d.kws K) (He.ga K x) fd) ∧ mg x = some (.ref (He.ga K x)) := fun x d i hi hx ha => by
    have z := cd.def_ i hi
    rw [ha] at z
    exact ⟨z, gl x hx⟩
  have gI := fr "isinstance" (by decide +kernel)
  have gi := fr "int" (by decide +kernel)
  have gb := fr "bool" (by decide +kernel)
  have gS := fr "str" (by decide +kernel)
  have gL := fr "len" (by decide +kernel)
  have gT := fr "tuple" (by decide +kernel)
  have gA := fr "all" (by decide +kernel)
  have gN := fr "any" (by decide +kernel)
  have gR := fr "range" (by decide +kernel)
  have gM := fr "min" (by decide +kernel)
  have gX := fr "max" (by decide +kernel)
  have gE := fr "enumerate" (by decide +kernel)
  have gLi := fr "list" (by decide +kernel)
  have gZ := fr "zip" (by decide +kernel)
  have gP := fr "repr" (by decide +kernel)
  have gAb := fr "abs" (by decide +kernel)
  have cB := cs "BLANK" sBlank (by decide +kernel)
  have cF := cs "FEED" sFeed (by decide +kernel)
  have cPe := cs "PERSON" "person" (by decide +kernel)
  have cLa := cs "LAB" "lab" (by decide +kernel)
  have cRe := cs "RESULT" "result" (by decide +kernel)
  have cFa := cs "FACT" "fact" (by decide +kernel)
  have cPair := ci "PAIR" 2 (by decide +kernel)
  have c4 := ci "FOUR" 4 (by decide +kernel)
  have tPr : CT K mg "PRINTS" (wPrn.map V.str) := ⟨_, gl "PRINTS" (by decide +kernel), fun H => He.tupB_ok e3 H⟩
  have tBo : CT K mg "BOUNDS" (wBnd.map V.str) := ⟨_, gl "BOUNDS" (by decide +kernel), fun H => He.tupB_ok e4 H⟩
  have tLi : CT K mg "LITERALS" (wLit.map V.str) := ⟨_, gl "LITERALS" (by decide +kernel), fun H => He.tupB_ok e5 H⟩
  have mM := gl "MOST_charts" (by decide +kernel)
  have dM := c.t.tab 0 rfl
  have k1 : CD K w mg "MOST_charts" "person" (.int 3) := kd_of mM dM e6 (k := "person") (d := .int 3) (by simp)
  have k2 : CD K w mg "MOST_charts" "lab" (.int 6) := kd_of mM dM e6 (k := "lab") (d := .int 6) (by simp)
  have k3 : CD K w mg "MOST_charts" "result" (.int 24) := kd_of mM dM e6 (k := "result") (d := .int 24) (by simp)
  have k4 : CD K w mg "MOST_charts" "fact" (.int 8) := kd_of mM dM e6 (k := "fact") (d := .int 8) (by simp)
  obtain ⟨fdG, FG⟩ := cd.def_ _ at_d_Ground_init
  have TG : GroundT K mg (He.ga K "Ground") (He.ma K (He.ga K "Ground") "__init__") fdG := ⟨He.mkr_ok (mkr_in cd (by decide +kernel)), FG, gl "Ground" (by decide +kernel), sclsB_ok e9, ⟨_, slotB_ok e10⟩, ⟨_, slotB_ok e11⟩⟩
  obtain ⟨fdC, FCh⟩ := cd.def_ _ at_d_Chart_init
  have TC : ChartT K mg (He.ga K "Chart") (He.ma K (He.ga K "Chart") "__init__") fdC := ⟨He.mkr_ok (mkr_in cd (by decide +kernel)), FCh, gl "Chart" (by decide +kernel), He.cls_ok (cls_in cd (by decide +kernel)), He.noat_ok (noat_in cd (by decide +kernel)), He.noat_ok (noat_in cd (by decide +kernel)), He.noat_ok (noat_in cd (by decide +kernel)), He.noat_ok (noat_in cd (by decide +kernel))⟩
  have egv : fnAt K (pText K) = some (("text" : Str), ("Chart.text" : Str), defArgs s_Chart_text, FuncBody.stmts (defBody s_Chart_text), defScope s_Chart_text, mainGlobals, [], builtinsNs) := by
    have z := c.gf
    exact (List.cons.inj z).1
  obtain ⟨fdx, Fx⟩ := funAt egv e8
  have TT : TextT K (He.ga K "Chart") (pText K) fdx := ⟨Fx, _, propB_ok e7⟩
  cases hfa.symm.trans (gl "law" (by decide +kernel))
  have F_law := fnd "law" d_law _ at_d_law (by decide +kernel) rfl
  obtain ⟨⟨fd, Fl⟩, _⟩ := F_law
  have F_pot := fnd "_law_pot" d_Lpot _ at_d_Lpot (by decide +kernel) rfl
  have F_take := fnd "_law_take" d_Ltake _ at_d_Ltake (by decide +kernel) rfl
  have F_some := fnd "_law_some" d_Lsome _ at_d_Lsome (by decide +kernel) rfl
  have F_pots := fnd "_law_pots" d_Lpots _ at_d_Lpots (by decide +kernel) rfl
  have F_caught := fnd "_law_caught" d_Lcaught _ at_d_Lcaught (by decide +kernel) rfl
  have F_names := fnd "_law_names" d_Lnames _ at_d_Lnames (by decide +kernel) rfl
  have F_is := fnd "_law_is" d_Lis _ at_d_Lis (by decide +kernel) rfl
  have F_right := fnd "_law_right" d_Lright _ at_d_Lright (by decide +kernel) rfl
  obtain ⟨⟨fdP, FP⟩, mP⟩ := F_pot
  obtain ⟨⟨fdT, FT⟩, mT⟩ := F_take
  obtain ⟨⟨fdS, FS⟩, mS⟩ := F_some
  obtain ⟨⟨fdPs, FPs⟩, mPs⟩ := F_pots
  obtain ⟨⟨fdCa, FCa⟩, mCa⟩ := F_caught
  obtain ⟨⟨fdN, FN⟩, mN⟩ := F_names
  obtain ⟨⟨fdI, FI⟩, mI⟩ := F_is
  obtain ⟨⟨fdR, FR⟩, mR⟩ := F_right
  obtain ⟨cc, Pt, hcode, hHd, hP, nP⟩ := c.lam "_law_is" (by decide +kernel)
  have b := FunD.bindsA (ps := ["_law_script"]) Fl fun _ _ _ _ _ _ us hl => match us, hl with | [_], _ => rfl
  refine ⟨fd, [(cc, Pt)], spLaw K Pt, ?_, ?_, ?_, fun s v => b s [v] rfl, ?_, fun base kb nb tb => ?_⟩
  · intro p hp
    rw [List.mem_singleton.mp hp]
    exact hP
  · intro p hp
    rw [List.mem_singleton.mp hp]
    exact nP
  · intro p hp
    rw [List.mem_singleton.mp hp]
    exact hHd
  · intro H a ns _ _ hT hS
    refine ⟨a, ns, rfl, hS, fun p hp => ?_, fun _ => rfl⟩
    rw [List.mem_singleton.mp hp]
    exact LamX.TabS.nil (hT (cc, Pt) (List.mem_singleton.mpr rfl))
  · have tb1 := tb (cc, Pt) (List.mem_singleton.mpr rfl)
    obtain ⟨hInt, hInt2⟩ := has_is_integer (P := R.prog) (w := w) (base := base) (fnd "is_integer" d_is_integer _ at_d_is_integer (by decide +kernel) rfl) gI gi gb
    have hDay := has_is_day (fnd "is_day" d_is_day _ at_d_is_day (by decide +kernel) rfl) hInt (ci "LAST_DAY" 99 (by decide +kernel))
    have hTup := has_is_tuple (P := R.prog) (w := w) (base := base) (fnd "is_tuple" d_is_tuple _ at_d_is_tuple (by decide +kernel) rfl) gI gT gL
    have hWord := has_is_word (P := R.prog) (w := w) (base := base) (fnd "is_word" d_is_word _ at_d_is_word (by decide +kernel) rfl) gI gS
    have hName := has_is_name (P := R.prog) (w := w) (base := base) (fnd "is_name" d_is_name _ at_d_is_name (by decide +kernel) rfl) gL gA (ci "MOST_LETTERS" 8 (by decide +kernel)) (cs "LETTERS" sLetters (by decide +kernel))
    have hII := has_integer_in (P := R.prog) (w := w) (base := base) (fnd "integer_in" d_integer_in _ at_d_integer_in (by decide +kernel) rfl) gA gi (cs "MINUS" "-" (by decide +kernel)) (cs "FIGURES" sFigures (by decide +kernel))
    have hTab := has_is_table (P := R.prog) (w := w) (base := base) (fnd "is_table" d_is_table _ at_d_is_table (by decide +kernel) rfl) (ci "MOST_FACTOR" 1000 (by decide +kernel))
    have hStr := has_stretch_by (fnd "stretch_by" d_stretch_by _ at_d_stretch_by (by decide +kernel) rfl) hInt2 (cs "NORMAL" "normal" (by decide +kernel)) (cs "LOW" "low" (by decide +kernel))
    have hTurn := has_do_turn_back (P := R.prog) (w := w) (base := base) (fnd "do_turn_back" d_do_turn_back _ at_d_do_turn_back (by decide +kernel) rfl) gLi gZ gN
    have hCan := has_can_tell (fnd "can_tell" d_can_tell _ at_d_can_tell (by decide +kernel) rfl) hStr hTurn gR gN cPair
    have hLit := has_is_literal (fnd "is_literal" d_is_literal _ at_d_is_literal (by decide +kernel) rfl) hTup hWord hDay hInt gL c4 tLi
    have hCl := has_is_claim (fnd "is_claim" d_is_claim _ at_d_is_claim (by decide +kernel) rfl) hLit hTup hWord hDay hInt2 c4 (ci "FIVE" 5 (by decide +kernel)) (cs "ROSE" "rose" (by decide +kernel)) tBo
    have hCI := has_claim_in (fnd "claim_in" d_claim_in _ at_d_claim_in (by decide +kernel) rfl) hCl hII
    have hPI := has_person_in (fnd "person_in" d_person_in _ at_d_person_in (by decide +kernel) rfl) hName hII gL gT gM (ci "PERSON_WORDS" 4 (by decide +kernel)) cPair
    have hLI := has_lab_in (fnd "lab_in" d_lab_in _ at_d_lab_in (by decide +kernel) rfl) hName hII hTab gL gT gA gR (ci "TABLE_NUMBERS" 5 (by decide +kernel)) cPair (ci "MOST_TABLES" 4 (by decide +kernel))
    have hRI := has_result_in (fnd "result_in" d_result_in _ at_d_result_in (by decide +kernel) rfl) hName hII hDay hCan gL (ci "RESULT_WORDS" 6 (by decide +kernel)) cPair tPr
    have hRP := has_read_people (fnd "read_people" d_read_people _ at_d_read_people (by decide +kernel) rfl) hPI gL gE cB cPe k1
    have hRL := has_read_labs (fnd "read_labs" d_read_labs _ at_d_read_labs (by decide +kernel) rfl) hLI gL gE cB cLa k2
    have hRR := has_read_results (fnd "read_results" d_read_results _ at_d_read_results (by decide +kernel) rfl) hRI gL gE cB cRe k3
    have hRF := has_read_facts (fnd "read_facts" d_read_facts _ at_d_read_facts (by decide +kernel) rfl) hCI gL gE cB cFa k4
    have mBad := gl "BadChart" (by decide +kernel)
    have hRT := has_read_text (fnd "read_text" d_read_text _ at_d_read_text (by decide +kernel) rfl) T TB mBad TG hRP hRL hRR hRF gI gS gL gT cF
    have hTO := has_text_of (P := R.prog) (w := w) (base := base) (fnd "text_of" d_text_of _ at_d_text_of (by decide +kernel) rfl) gS cPe cLa cRe cFa cB cF
    have GIs := ok_is (P := R.prog) (w := w) (base := base) FI FCa mCa (gl "TableError" (by decide +kernel)) mBad T TB (of_decide_eq_true e2) (He.exm_ok (exm_in cd (by decide +kernel))) TC TT hRT hTO gI gP hcode tb1
    have GSo := ok_some (P := R.prog) (w := w) (base := base) FS FT mT gi gL gLi gR 0
    have GNa := ok_names (P := R.prog) (w := w) (base := base) FN GSo FS mS
    have GRi := ok_right (P := R.prog) (w := w) (base := base) FR GNa FN mN GIs FI mI gA gR gS all_right
    have GPo := ok_pots (P := R.prog) (w := w) (base := base) FPs FP mP gi gL gAb gR gX gM
    exact ok_law Fl GRi FR mR GPo FPs mPs gA
end G
open PySem PySem.W PySem.Calls PyProof.Rows
theorem PySem.Challenge.cw_unnotedtables_k03_bounds_of_charts_holds : PySem.Challenge.rw_unnotedtables_k03_bounds_of_charts.Holds := by
  w_on; o_law
  refine HandSHeadRun.head_any (r := G.R) (q := view G.R.prog [94]) (H := G.hk) (ob := G.ob) (M := 60000) (loose := G.loose) (d := HandSHeadRun.topDef G.R.prog 94) (kwd := []) G.ob_eq
    (by kernel_rfl) (fun s => by kernel_rfl) G.run (by kernel_rfl) (by kernel_rfl) (by kernel_rfl) (by rfl) (by first | assumption | decide +kernel) (by decide +kernel) ⟨rfl, rfl, rfl, rfl, rfl, by decide +kernel⟩ ?hw ?hc
  case hw => w_witness2
  case hc =>
    refine LamX.walk_ofTsE (l := PySem.Challenge.rw_unnotedtables_k03_bounds_of_charts) (n := 63) (k := 14) (x := "_law_script") (CX := fun _ => L2.CX0) rfl (by decide) (by kernel_rfl) ⟨rfl, by decide, by decide⟩ ?F (fun _ _ _ _ _ h => h)
    intro w mg fa h Y G0 hmg0
    obtain ⟨K, c⟩ := Y
    have hmg : mg ("law" : PySem.Str) = some (.ref fa) := by
      have z : (HandSHeadRun.topDef G.R.prog 94).name = ("law" : PySem.Str) := by kernel_rfl
      rw [← z]
      exact hmg0
    exact ⟨K, c.in_, G.lawFacts c G0 hmg⟩
#print axioms PySem.Challenge.cw_unnotedtables_k03_bounds_of_charts_holds

