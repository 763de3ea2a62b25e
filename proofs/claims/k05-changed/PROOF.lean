import PyProof.Rows.All
import Wide.All
import OpenK.AllK
import Wide.FinOn
import KE.KExcSuper
import KE.KExcIs
import HandS.ForMost
import HandS.Exc
import HandS.ExcInit
import HandS.IsInst
import HandS.HeadWalk
import HandS.Conv
import HandS.Defaults
import HandS.HeadHook4
import HandS.Head2
import HandS.HeadEnd
import HandS.StrMore
import HandS.Walk
import HandS.WrittenGet
import KE.IntTextLaws
import KE.KDictZip
import KE.KTurns
import HandS.ListItems
import HandS.Zip
import HandS.Comp
import HandS.Slots
import HandS.Star
import HandS.NoneIn
import HandS.Text
import HandS.WordsDict
import KE.KAssignIn
import HandS.Iter
import HandS.RaiseMore
import HandS.Property
import OpenK.KMeth
import OpenK.KOps
import OpenK.KWalk
import PyProof.InstNe
import PyProof.DictUpdate
import PyProof.DictDisplay
import PyProof.DictTable
import HandS.Dict
import PyProof.EvalArms
import HandS.DictComp
import HandS.TupAny
import HandS.Wide
import KE.KNest
import PyProof.EnumMake
import PyProof.EnumStmt
import HandS.Small
import KE.KStateDown
import HandS.Head0
import HandS.Head1
import PySem.Challenge.RW_unnotedtables_k05_charts_changed
set_option Elab.async false
set_option linter.all false
set_option maxRecDepth 100000
set_option maxHeartbeats 4000000
/-! The errors of the program: one class over ValueError whose __init__ calls super().__init__ and keeps its value; all others below it. -/
namespace U
open PySem PySem.W PySem.Calls PyProof.Rows PySem.HandSPX
/-! ### the text of __init__ -/
def iA (p1 p2 : Pos) : Arguments := { posonlyargs := [], args := [{ arg := "self", annotation := none, pos := p1 }, { arg := "value", annotation := none, pos := p2 }], vararg := none, kwonlyargs := [], kw_defaults := [], kwarg := none, defaults := [] }
def iB (q1 q2 q3 q4 q5 q6 q7 q8 q9 q10 : Pos) : List Stmt :=
  [.Expr (.Call (.Attribute (.Call (.Name "super" q1) [] [] q2) "__init__" q3) [.Name "value" q4] [] q5) q6, .Assign [.Attribute (.Name "self" q7) "value" q8] (.Name "value" q9) q10]
def iS : Scope := { kind := .function, names := [(PySem.Str.ofString "self", .local), (PySem.Str.ofString "value", .local), (PySem.Str.ofString "__class__", .free), (PySem.Str.ofString "super", .globalImplicit)], isGenerator := false, isCoroutine := false, more := [] }
/-- the base class at D, its __init__ at fI -/
structure InitTxt (prog : Program) (K : Frag) (D fI : Addr) : Prop where
  fn : ∃ (oc : Value) (od : Option Addr) (kV doc pm : Value) (an : Option Addr) (cda cc : Addr) (ct : Value) (osl : Array (Option Value)) (p1 p2 q1 q2 q3 q4 q5 q6 q7 q8 q9 q10 : Pos),
    K.lookup fI = some ⟨oc, od, .func (ksFn "__init__" "TableError.__init__" (iA p1 p2) (iB q1 q2 q3 q4 q5 q6 q7 q8 q9 q10) iS .none kV doc pm an (.ref cda) ct cc), osl⟩ ∧ (q3.endLine == q5.line) = true ∧ codeIn K (.ref cda) "TableError.__init__" = true ∧
    (∃ (ccl : Value) (cdd : Option Addr) (vs : Array Value) (ccs : Array (Option Value)) (file : Str) (tf : Tok), K.lookup cda = some ⟨ccl, cdd, .fields vs, ccs⟩ ∧ vs[2]? = some (.str file tf) ∧ ((prog.main.file : Str) == file) = true) ∧
    ∃ (cl : Value) (cld : Option Addr) (csl : Array (Option Value)), K.lookup cc = some ⟨cl, cld, .cell (some (.ref D)), csl⟩
  hD : (clsIn K D).isSome = true
  sup : nsIn K mainGlobals "super" = some none
  opq : nsIn K cStatics "thirdparty.any" = some none
  top : (prog.main.scope.names.lookup ("super" : Str)).isSome = false
/-- a class of errors at C -/
structure ErrC (K : Frag) (D fI C : Addr) : Prop where
  cls : ∃ nm q N bs bm sn sub ab col dd k0 k1 k2 k3 k5, K.lookup C = some (excClassObj nm q C N bs bm true sn sub ab col dd k0 k1 k2 k3 k5 "ValueError.__new__") ∧ refsVE bm = true
  sa : findIn K (.ref C) "__setattr__" = some (some (.builtin "object.__setattr__"))
  ga : findIn K (.ref C) "__getattribute__" = some (some (.builtin "BaseException.__getattribute__"))
  gg : findIn K (.ref C) "__getattr__" = some none
  noV : findIn K (.ref C) "value" = some none
  iC : findIn K (.ref C) "__init__" = some (some (.ref fI))
  tI : typeIn K (.ref fI) = some (.type "function")
  kC : keepIn K (.ref C) = true
  exC : subIn K (.ref C) (.type "BaseException") = some true
  tyC : typeIn K (.ref C) = some (.type "type")
  hdC : hasDictIn K C = true
  mr : mroIn K C (.ref D) = some true
  sI : ks_superIn K C D "__init__" = some (some (.builtin "ValueError.__init__"))
  ve : subIn K (.ref C) (.type "ValueError") = some true
  ca : findIn K (.ref C) "__class__" = some (some (.builtin "object.__class__"))
  cg : specialIn K (.builtin "object.__class__") "__get__" = some (some (.builtin "getset_descriptor.__get__"))
  ct : takesIn K (.builtin "object.__class__") = some true
  mo : mroIn K C (.type "object") = some true
theorem one_le_line (v : Value) : [v].length ≤ sizeLine := by
  rw [sizeLine_eq]
  exact (by decide : 1 ≤ 16777216)
section
variable {prog : Program} {w : World} {A : Around} {E : Value → Shared → Prop} {R : Result → Shared → Prop} {s : Shared} {K : Frag} {mg mb : Str → Option Value} {C D fI : Addr}
/-- the bound ValueError.__init__ called -/
theorem mw_call {h : Heap} {g : Array GenState} {d : Drawn} {t : Nat} {os : OsState} {u e t0 N : Addr} {nm q : Str} {bs bm : List Value} {hdct : Bool} {sn : List Str} {sub : List Value} {ab : Bool} {col : Option Bool} {dd : Option Addr} {k0 k1 k2 k3 k5 : Option Value} {rest : List Value} {Q : Value → Shared → Prop}
    (hC : h.get? C = some (excClassObj nm q C N bs bm hdct sn sub ab col dd k0 k1 k2 k3 k5 "ValueError.__new__")) (he : h.get? e = some (excO C t0)) (hu : h.get? u = some (kxs_mw "ValueError.__init__" e)) (hz : rest.length ≤ sizeLine)
    (hq : ∀ h' t1, (∀ b o, b ≠ e → h.get? b = some o → h'.get? b = some o) → h'.get? e = some (excO C t1) → Q .none ⟨h', g, d, t, os⟩) :
    wpAny (model prog w) A (call (.ref u) rest) Q E ⟨h, g, d, t, os⟩ := by
  refine wpAny_call (codeAny_of_tree ?_)
  show wpAny _ A.in1 (callAny (.ref u) ⟨rest, []⟩) _ _ _
  simp only [callAny]
  refine wpAny_bind (wpAny_load hu ?_)
  simp only [kxs_mw, show (Value.type "method-wrapper" == Value.type "method" || Value.type "method-wrapper" == Value.type "builtin_function_or_method" || Value.type "method-wrapper" == Value.type "method-wrapper") = true by decide, if_true]
  refine KFB.if_so (by decide) ?_
  refine wpAny_bind (check_bound_init F.excBase_ValueError.toExcCallFacts hC he rfl ?_)
  refine wpAny_bind (wpAny_pure (wpAny_pure ?_))
  refine ⟨plainId_quiet F.excBase_ValueError.init.plain _, codeAny_builtin F.excBase_ValueError.initEntry ?_⟩
  rw [Around.under_plainId F.excBase_ValueError.init.plain _]
  wp_walk
  refine hq _ h.objs.size (fun b o hb ho => ?_) ?_
  · rw [Heap.get?_update_other _ _ (Ne.symm hb)]
    exact Heap.get?_push_of_some _ ho
  · rw [Heap.get?_update_self _ (Heap.get?_push_of_some _ he) rfl]
    rfl
end
end U

set_option Elab.async false
set_option linter.all false
set_option maxRecDepth 100000
set_option maxHeartbeats 4000000
namespace U
open PySem PySem.W PySem.Calls PyProof.Rows PySem.HandSPX
theorem ldN {M : Model} {A : Around} {E : Value → Shared → Prop} {s : Shared} {env : Env} {m : Str → Option Value} {x : Str} {pos : Pos} {v : Value} {Q : Value → Shared → Prop} (hn : s.heap.Ns env.locals m) (hv : m x = some v) (h : Q v s)
    (hk : env.scope.kind = .function := by rfl) (hl : env.kindOf x = some .local := by rfl) (hd : (x == ("__debug__" : Str)) = false := by decide) : wpAny M A (eval (.Name x pos) env) Q E s := wpAny_Name (wpAny_loadName_local hk hl hn hv h) hd
section
variable {prog : Program} {w : World} {A : Around} {E : Value → Shared → Prop} {R : Result → Shared → Prop} {s : Shared} {K : Frag} {mg mb : Str → Option Value} {C D fI : Addr}
/-- what __init__ leaves of a fresh error at x -/
structure InitEnd (h h' : Heap) (x C dx : Addr) (v : Value) : Prop where
  keep : ∀ b o, b ≠ x → h.get? b = some o → h'.get? b = some o
  obj : ∃ t1 : Addr, h'.get? x = some { cls := .ref C, dict := some dx, data := .fields #[.ref t1, .none, .none, .none, .bool false, .none] }
  dbig : h.objs.size ≤ dx
  dne : dx ≠ x
  ns : h'.Ns1 dx (fun y => if y = "value" then some v else none)
theorem init_run (T : InitTxt prog K D fI) (TC : ErrC K D fI C) {x t0 : Addr} {v : Value} (X : K.In s.heap) (hg : s.heap.Ns mainGlobals mg) (hb : s.heap.Ns builtinsNs mb) (hbb : ∀ x : Str, x ≠ "__name__" → mb x = bootBuiltins x) (hlim : s.heap.NoLimit)
    (hx : s.heap.get? x = some (excO C t0)) (xn : K.lookup x = none) (hroom : A.depth < recursionLimit) (hq : ∀ h' tk dx, InitEnd s.heap h' x C dx v → R (.ok (.ret .none)) { s with heap := h', toks := tk }) :
    codeAny (model prog w) A (.call (.ref fI) ⟨[.ref x, v], []⟩) R s := by
  obtain ⟨oc, od, kV, doc, pm, an, cda, cc, ct, osl, p1, p2, q1, q2, q3, q4, q5, q6, q7, q8, q9, q10, ho, hline, hcd, ⟨ccl, cdd, vs, ccs, file, tf, hcode, hvs, hfile⟩, cl, cld, csl, hcell⟩ := T.fn
  obtain ⟨nm, q, N, bs, bm, sn, sub, ab, col, dd, k0, k1, k2, k3, k5, hC, hbm⟩ := TC.cls
  have hcl : clsIn K C = some { name := nm, bases := bs, mro := .ref C :: bm, ns := N, qualname := q, hasDict := true, slotNames := sn, subclasses := sub, abstract := ab, collection := col, hasDel := false } := by unfold clsIn; rw [hC] <;> rfl
  obtain ⟨cdD, hDc⟩ := Option.isSome_iff_exists.mp T.hD
  obtain ⟨oD, hD1, hD2⟩ : ∃ oD, K.lookup D = some oD ∧ oD.data = .cls cdD := by
    unfold clsIn at hDc
    split at hDc
    · rename_i c d cd' sl hh
      cases hDc
      exact ⟨_, hh, rfl⟩
    · cases hDc
  refine ks_codeAny_call_defAt (fd := ksFn "__init__" "TableError.__init__" (iA p1 p2) (iB q1 q2 q3 q4 q5 q6 q7 q8 q9 q10) iS .none kV doc pm an (.ref cda) ct cc) (body := iB q1 q2 q3 q4 q5 q6 q7 q8 q9 q10)
    (binds := [("self", .ref x), ("value", v)]) hroom (X _ _ ho) rfl hlim (codeRec_of X hcd) rfl (BindsTo.of_eq (by first | rfl | with_unfolding_all rfl)) (by show ∀ y ∈ iS.names, y.2 ≠ NameKind.cell; decide) (by intro y hy; rcases List.mem_cons.mp hy with rfl | hy; exact rfl; rcases List.mem_cons.mp hy with rfl | hy; exact rfl; cases hy) (fun h₀ hns hk => ?_) rfl rfl rfl
  obtain ⟨hp, gs, dr, tk, os⟩ := s
  have X₀ : K.In h₀ := X.keeps hk
  have hx0 : h₀.get? x = some (excO C t0) := hk _ _ hx
  have hxL : x ≠ hp.objs.size := Nat.ne_of_lt (Heap.lt_size hx)
  show PySem.wpAt (model prog w) (A.deeper (ksEnv "TableError.__init__" iS hp.objs.size fI (.ref cda) cc)) (.func (iB q1 q2 q3 q4 q5 q6 q7 q8 q9 q10) (ksEnv "TableError.__init__" iS hp.objs.size fI (.ref cda) cc))
    (execs [.Expr (.Call (.Attribute (.Call (.Name "super" q1) [] [] q2) "__init__" q3) [.Name "value" q4] [] q5) q6, .Assign [.Attribute (.Name "self" q7) "value" q8] (.Name "value" q9) q10] (ksEnv "TableError.__init__" iS hp.objs.size fI (.ref cda) cc)) _ _ ⟨h₀, gs, dr, tk + 2, os⟩
  have he : eval (.Call (.Attribute (.Call (.Name "super" q1) [] [] q2) "__init__" q3) [.Name "value" q4] [] q5) (ksEnv "TableError.__init__" iS hp.objs.size fI (.ref cda) cc) = (do
      let ov ← attributeBase (.Call (.Name "super" q1) [] [] q2) "__init__" (ksEnv "TableError.__init__" iS hp.objs.size fI (.ref cda) cc) (eval (.Call (.Name "super" q1) [] [] q2) (ksEnv "TableError.__init__" iS hp.objs.size fI (.ref cda) cc))
      standAt q3.atName
      let (f, first) ← holding [ov] (getMethod ov "__init__" (L2.plainOf (.Call (.Name "super" q1) [] [] q2) (ksEnv "TableError.__init__" iS hp.objs.size fI (.ref cda) cc)))
      callWith q5 f first (backTo q5 (starEach [.Name "value" q4] (ksEnv "TableError.__init__" iS hp.objs.size fI (.ref cda) cc))) []) := by
    refine congrArg (fun k : Value → Sem Value => attributeBase (.Call (.Name "super" q1) [] [] q2) "__init__" (ksEnv "TableError.__init__" iS hp.objs.size fI (.ref cda) cc) (eval (.Call (.Name "super" q1) [] [] q2) (ksEnv "TableError.__init__" iS hp.objs.size fI (.ref cda) cc)) >>= k) (funext fun ov => ?_)
    refine congrArg (fun k : Unit → Sem Value => standAt q3.atName >>= k) (funext fun _ => ?_)
    exact L2.mcall_line rfl hline
  refine ks_wpAt_execs_cons (ks_wpAt_Expr_any (ks_wpAt_MethodCall ?_ he) (by rfl) (by rfl))
  refine ks_wpAt_super_base (env := ksEnv "TableError.__init__" iS hp.objs.size fI (.ref cda) cc) rfl rfl (by decide) rfl (X₀ _ _ ho) rfl rfl rfl (X₀ _ _ hcode) rfl hvs hfile T.top ?_
  refine ks_loadName_global rfl rfl (loadGlobal_builtin (env := ksEnv "TableError.__init__" iS hp.objs.size fI (.ref cda) cc) (hg.keeps hk) (mg_none_of X hg T.sup) (hb.keeps hk) ((hbb _ (by decide +kernel)).trans (by first | rfl | kernel_rfl)) ⟨rfl, ?_⟩)
  refine wpAny_loadName_free rfl rfl rfl ⟨_, X₀ _ _ hcell, rfl⟩ ?_
  refine wpAny_loadName_local (v := .ref x) rfl rfl hns rfl ?_
  refine ks_wpAny_isType_cls (X₀ _ _ hD1) hD2 ⟨rfl, ?_⟩
  refine ks_wpAny_call_super (X₀ _ _ hD1) hD2 hx0 rfl (fun c e => nomatch e) (looks_mroIn X₀ TC.mr) (fun h1 e1 hk1 => ?_)
  have X1 : K.In h1 := X₀.keeps hk1
  have hx1 := hk1 _ _ hx0
  have I1 : InstAt h1 x (excO C t0) C none := ⟨hx1, rfl, rfl, trivial⟩
  have hI : Looks (model prog w) h1 (isInstance (.ref x) (.type "ValueError")) true := I1.type.andThen (looks_subIn X1 TC.ve)
  have sI : alongIn K "__init__" (((Value.ref C :: bm).dropWhile (· != .ref D)).drop 1) = some (some (.builtin "ValueError.__init__")) := by
    have z := TC.sI
    unfold ks_superIn at z
    rw [hcl] at z
    exact z
  refine kxs_getMethod kxs_ValueError e1 (looks_opaque X1 T.opq) (l₀ := .ref C :: bm) (fun A Q E s k z => wpAny_bind ((looks_clsIn X1 hcl) A _ E s k (wpAny_pure z))) rfl X1 sI hI (ks_ne X1 I1 hcl) (by decide) ?_
  have k2' : ∀ b o, h1.get? b = some o → (h1.push (kxs_mw "ValueError.__init__" x)).get? b = some o := fun b o e => Heap.get?_push_of_some _ e
  have u2 : (h1.push (kxs_mw "ValueError.__init__" x)).get? h1.objs.size = some (kxs_mw "ValueError.__init__" x) := Heap.get?_push_at rfl rfl
  have kk : ∀ b o, hp.get? b = some o → (h1.push (kxs_mw "ValueError.__init__" x)).get? b = some o := fun b o e => k2' b o (hk1 b o (hk b o e))
  have ns2 : (h1.push (kxs_mw "ValueError.__init__" x)).Ns hp.objs.size (fun y => ([(Str.ofString "self", Value.ref x), (Str.ofString "value", v)] : List (Str × Value)).reverse.lookup y) := (hns.keeps hk1).keeps k2'
  dsimp only
  refine kxs_callWith (i := "ValueError.__init__") (x := x) (by rfl) ?_
  refine evalArgs_plain ?_
  refine spliced_cons (ldN (env := ksEnv "TableError.__init__" iS hp.objs.size fI (.ref cda) cc) (v := v) ns2 (by rfl) (spliced_nil ⟨u2, ?_⟩))
  refine mw_call (X.keeps kk _ _ hC) (k2' _ _ hx1) u2 (one_le_line v) (fun h3 t1 hk3 hx3 => ?_)
  have k3 : ∀ b o, b ≠ x → hp.get? b = some o → h3.get? b = some o := fun b o hb e => hk3 b o hb (kk b o e)
  have X3 : K.In h3 := fun b o e => k3 b o (fun z => by rw [z, xn] at e; cases e) (X b o e)
  have ns3 : h3.Ns hp.objs.size (fun y => ([(Str.ofString "self", Value.ref x), (Str.ofString "value", v)] : List (Str × Value)).reverse.lookup y) := by
    obtain ⟨o, es, ep, ho', r⟩ := ns2
    exact ⟨o, es, ep, hk3 _ _ (Ne.symm hxL) ho', r⟩
  refine wpAt_of_wpAny ?_
  refine wpAny_execs_cons (plainObj_wpAny_Assign_Attribute (ldN (env := ksEnv "TableError.__init__" iS hp.objs.size fI (.ref cda) cc) (v := v) ns3 (by rfl) (ldN (env := ksEnv "TableError.__init__" iS hp.objs.size fI (.ref cda) cc) (v := .ref x) ns3 (by rfl) ?_)))
  refine set_plain X3 (ox := excO C t1) (od := none) ⟨hx3, rfl, rfl, trivial⟩ TC.sa ?_
  refine exc_osa X3 hx3 hcl (show refsVE (.ref C :: bm) = true from hbm) rfl TC.noV (fun h4 tk4 dx k4 dn dne hx4 hn4 => ?_)
  refine wpAny_execs_nil (hq h4 tk4 dx ⟨fun b o hb e => k4 b o hb (k3 b o hb e), ⟨t1, hx4⟩, ?_, dne, hn4⟩)
  have z0 : hp.objs.size < h3.objs.size := ns3.lt
  exact Nat.le_of_lt (Nat.lt_of_lt_of_le z0 dn)
/-- a made error at e, its own dict at d -/
structure Made (h h' : Heap) (e C d : Addr) (v : Value) : Prop where
  keep : ∀ b o, h.get? b = some o → h'.get? b = some o
  new : h.objs.size ≤ e
  obj : ∃ t1 : Addr, h'.get? e = some { cls := .ref C, dict := some d, data := .fields #[.ref t1, .none, .none, .none, .bool false, .none] }
  dbig : h.objs.size ≤ d
  dne : d ≠ e
  ns : h'.Ns1 d (fun y => if y = "value" then some v else none)
theorem made_run (T : InitTxt prog K D fI) (TC : ErrC K D fI C) {v : Value} (X : K.In s.heap) (hg : s.heap.Ns mainGlobals mg) (hb : s.heap.Ns builtinsNs mb) (hbb : ∀ x : Str, x ≠ "__name__" → mb x = bootBuiltins x) (hlim : s.heap.NoLimit)
    (hroom : A.depth + 1 < recursionLimit) (hq : ∀ h' tk e d, Made s.heap h' e C d v → R (.ok (.ret (.ref e))) { s with heap := h', toks := tk }) :
    codeAny (model prog w) A (.call (.ref C) ⟨[v], []⟩) R s := by
  obtain ⟨nm, q, N, bs, bm, sn, sub, ab, col, dd, k0, k1, k2, k3, k5, hC, hbm⟩ := TC.cls
  obtain ⟨hp, gs, dr, tk, os⟩ := s
  have k : ∀ b o, hp.get? b = some o → ((hp.push (kdv_tup [v])).push (excO C hp.objs.size)).get? b = some o := fun b o e => Heap.get?_push_of_some _ (Heap.get?_push_of_some _ e)
  have hget : ((hp.push (kdv_tup [v])).push (excO C hp.objs.size)).get? (hp.objs.size + 1) = some (excO C hp.objs.size) := by heap_get
  have hnx : K.lookup (hp.objs.size + 1) = none := by
    cases e : K.lookup (hp.objs.size + 1) with
    | none => rfl
    | some o =>
      have z : hp.get? (hp.objs.size + 1) = some o := X _ _ e
      exact absurd (Nat.lt_of_succ_lt (Heap.lt_size z)) (Nat.lt_irrefl _)
  refine call_own F.excBase_ValueError (fun X => refsVE_contains X bm hbm) (X _ _ hC) (looks_findIn X TC.iC) (fun self => bind_fn X self TC.tI) (one_le_line v) ?_
  refine init_run (s := ⟨(hp.push (kdv_tup [v])).push (excO C hp.objs.size), gs, dr, tk, os⟩) T TC (X.keeps k) (hg.keeps k) (hb.keeps k) hbb (hlim.keeps k) hget hnx ?_ fun h' tk' dx ⟨k', hx, dn, dne, hns⟩ => ?_
  · show A.depth + 1 < recursionLimit
    exact hroom
  · have old : ∀ b o, hp.get? b = some o → h'.get? b = some o := fun b o e => k' b o (Nat.ne_of_lt (Nat.lt_succ_of_lt (Heap.lt_size e))) (k b o e)
    have z : hp.objs.size + 1 + 1 ≤ dx := by
      first
        | (simpa only [Heap.size_push] using dn)
        | exact dn
    exact ⟨rfl, hq h' tk' (hp.objs.size + 1) dx ⟨old, Nat.le_succ _, hx, Nat.le_trans (Nat.le_trans (Nat.le_succ _) (Nat.le_succ _)) z, dne, hns⟩⟩
end
end U

set_option Elab.async false
set_option linter.all false
set_option maxRecDepth 100000
set_option maxHeartbeats 4000000
namespace U
open PySem PySem.Spec PyProof.Rows L2
open PySem.W (Frag)
/-- what is known of the errors' classes -/
structure ErrT (prog : Program) (K : Frag) (D fI : Addr) : Prop where
  init : InitTxt prog K D fI
/-- C(e): a new error -/
def tErr (C : Addr) (te : TE) : TE := fun σ H Q => te σ H fun v H1 => ∀ a d, H1 a = none → H1 d = none → d ≠ a → Q (.ref a) (upd (upd H1 d (exd d [("value", v)])) a (exo a C (some d)))
section
variable {X : Cx} {C D fI : Addr} {k : Nat}
theorem relO_value {v : V} {u : Value} (r : RelV v u) (f : Str) : RelO (List.lookup f [(("value" : Str), v)]) (if f = "value" then some u else none) := by
  rw [lookup_put]
  by_cases h : f = "value"
  · rw [if_pos h, if_pos h]
    exact r
  · rw [if_neg h, if_neg h]
    exact True.intro
/-- two new objects at once -/
theorem inv_two {pins : List (Addr × Obj)} {σ : L2.St} {H : Hp} {s : Shared} {h' : Heap} {a d : Addr} {t' : Nat} {v : V} (I : Inv X pins σ H s) (k : ∀ b u, s.heap.get? b = some u → h'.get? b = some u) (ha : s.heap.objs.size ≤ a) (hd : s.heap.objs.size ≤ d) (hne : d ≠ a)
    (oa : ∃ t1 : Addr, h'.get? a = some ({ cls := .ref C, dict := some d, data := .fields #[.ref t1, .none, .none, .none, .bool false, .none] } : Obj)) (od : ∃ mA, h'.Ns1 d mA ∧ ∀ f, RelO (([("value", v)] : List (Str × V)).lookup f) (mA f)) :
    Inv X pins σ (upd (upd H d (exd d [("value", v)])) a (exo a C (some d))) { s with heap := h', toks := t' } := by
  have na : H a = none := I.hok.fresh ha
  have nd : H d = none := I.hok.fresh hd
  have la : ∀ {b : Addr} {o : Obj}, s.heap.get? b = some o → b ≠ a := fun {b o} q => Nat.ne_of_lt (Nat.lt_of_lt_of_le (Heap.lt_size q) ha)
  have ld : ∀ {b : Addr} {o : Obj}, s.heap.get? b = some o → b ≠ d := fun {b o} q => Nat.ne_of_lt (Nat.lt_of_lt_of_le (Heap.lt_size q) hd)
  have mv : ∀ {b : Addr} {o : HO}, H b = some o → upd (upd H d (exd d [("value", v)])) a (exo a C (some d)) b = some o := fun {b o} q => by
    rw [upd_ne (ne_of_none q na), upd_ne (ne_of_none q nd)]
    exact q
  refine I.un (H' := upd (upd H d (exd d [("value", v)])) a (exo a C (some d))) ⟨fun b o q n _ _ => k b o q, fun b o q n _ _ => ⟨o.slots, k b o q⟩, fun b o q n _ => ?_, fun b o q _ => ⟨o, k b o q⟩, fun b xs q => mv q, fun b o u q => mv q, fun b ps q => ⟨#[], by rw [mv q]; simp⟩⟩ fun b o q => ?_
  · rw [upd_ne (la q), upd_ne (ld q)]
    exact n
  · by_cases hb : b = a
    · subst hb
      rw [upd_same] at q
      cases q
      obtain ⟨t1, e⟩ := oa
      exact exo_ok e
    · rw [upd_ne hb] at q
      by_cases hb2 : b = d
      · subst hb2
        rw [upd_same] at q
        cases q
        obtain ⟨mA, h1, h2⟩ := od
        exact exd_ok h1 h2
      · rw [upd_ne hb2] at q
        exact (I.hok b o q).stay (fun c u _ z => k c u z) (fun c z => mv z) fun c xs z => mv z
theorem pe_err {x : Str} {e : Expr} {te : TE} {p pos : Pos} (T : InitTxt X.prog X.K D fI) (TC : ErrC X.K D fI C) (hr : Room k X.A) (hg : Gl X x) (hm : X.mg x = some (.ref C)) (he : PE X e te)
    (hs : starEach [e] X.env = (false, eval e X.env) :: starEach [] X.env := by rfl) (hdb : (x == ("__debug__" : Str)) = false := by decide) : PE X (.Call (.Name x p) [e] [] pos) (tErr C te) := by
  refine ⟨fun pins s σ H Q I h => ?_⟩
  refine wpAny_Call_Name_kw (ld_glob I hg hm ?_ hdb)
  refine PySem.W.callWith_K (h₀ := X.base) I.ok.mod.kin TC.kC ?_ hs (by rfl)
  rw [hs]
  show wpAny _ _ (spliced ((false, eval e X.env) :: backTo pos (starEach [] X.env))) _ _ s
  refine Calls.spliced_cons (thn (he.run pins s σ H _ I h) fun u s1 ⟨v, H1, I1, r1, q1⟩ => ?_)
  refine Calls.spliced_nil ⟨I1.kIn, ?_⟩
  show wpAny _ _ (call (.ref C) [u]) _ _ _
  obtain ⟨mb, hb1, hb2⟩ := I1.mod.blt
  have hdp := hr.dp
  refine wpAny_call (made_run T TC I1.kIn (I1.mod.glob.keeps I1.bk) (hb1.keeps I1.bk) hb2 I1.nolimit (by omega) fun h' tk a d M => ?_)
  exact ⟨.ref a, _, inv_two (v := v) I1 M.keep M.new M.dbig M.dne M.obj ⟨_, M.ns, fun f => relO_value r1 f⟩, rfl, q1 a d (I1.hok.fresh M.new) (I1.hok.fresh M.dbig) M.dne⟩
/-- e.value of an error that stands in H -/
def tErrV (K : Frag) (D fI : Addr) (te : TE) : TE := fun σ H Q => te σ H fun x H1 => ∃ (a C d : Addr) (v : V), x = .ref a ∧ ErrC K D fI C ∧ H1 a = some (exo a C (some d)) ∧ H1 d = some (exd d [("value", v)]) ∧ Q v H1
theorem pe_errV {e : Expr} {te : TE} {pos : Pos} (he : PE X e te) (hb : attributeBase e "value" X.env (eval e X.env) = eval e X.env := by rfl) : PE X (.Attribute e "value" pos) (tErrV X.K D fI te) := by
  refine ⟨fun pins s σ H Q I h => ?_⟩
  refine attr_of hb (thn (he.run pins s σ H _ I h) fun u s1 hh => ?_)
  obtain ⟨x, H1, I1, rx, a, C, d, v, ex, TC, ea, ed, q⟩ := hh
  subst ex
  obtain rfl : u = Value.ref a := rx
  obtain ⟨t1, ho⟩ := exo_at I1.hok ea
  obtain ⟨mA, hns, hr⟩ := exd_at I1.hok ed
  obtain ⟨od, hod, hl⟩ := lookIn_ns hns
  have l : ([(("value" : Str), v)] : List (Str × V)).lookup ("value" : Str) = some v := by rw [lookup_put, if_pos rfl]
  obtain ⟨u, hu, ru⟩ := RelO.some_of (v := v) (o := mA "value") (by rw [← l]; exact hr "value")
  exact HandSPX.exc_get I1.kIn (ox := { cls := .ref C, dict := some d, data := .fields #[.ref t1, .none, .none, .none, .bool false, .none] }) (od := some od) ⟨ho, rfl, rfl, hod⟩ TC.ga TC.gg TC.exC (PySem.W.findObj_own TC.hdC TC.noV rfl (by rw [hl, hu])) (handed_of ru) ⟨v, H1, I1.tok _, ru, q⟩
/-- isinstance(e, c), e an error that stands in H -/
def rIsErr (K : Frag) (D fI : Addr) : List V → Hp → VK → Prop := fun xs H Q => ∃ (a C d : Addr) (c : V) (u : Value) (b : Bool), xs = [.ref a, c] ∧ ErrC K D fI C ∧ H a = some (exo a C (some d)) ∧ (∃ fs, H d = some (exd d fs)) ∧ ClsV c u ∧ PySem.W.kitOne K (.ref C) u = some b ∧ Q (.bl b) H
theorem call_isErr : CallR X (.builtin "isinstance") (rIsErr X.K D fI) := by
  intro pins s σ H xs us Q I r h
  obtain ⟨a, C, d, c, u, b, rfl, TC, ea, ⟨fs, ed⟩, kc, e, q⟩ := h
  obtain ⟨u1, u2, rfl, r1, r2⟩ := vals2 r
  have e2 := kc.eq r2
  subst e2
  obtain rfl : u1 = Value.ref a := r1
  obtain ⟨t1, ho⟩ := exo_at I.hok ea
  obtain ⟨mA, hns, hr⟩ := exd_at I.hok ed
  obtain ⟨od, hod, hl⟩ := lookIn_ns hns
  have hcl : (PySem.W.clsIn X.K C).isSome = true := by
    obtain ⟨nm, q, N, bs, bm, sn, sub, ab, col, dd, k0, k1, k2, k3, k5, hC, hbm⟩ := TC.cls
    unfold PySem.W.clsIn
    rw [hC] <;> rfl
  exact PySem.W.kia_one (PySem.W.kitx_exc (ox := { cls := .ref C, dict := some d, data := .fields #[.ref t1, .none, .none, .none, .bool false, .none] }) (od := some od) hcl TC.ga TC.gg TC.exC TC.ca TC.cg TC.ct TC.mo) I.kIn ⟨ho, rfl, rfl, hod⟩ e (fun z => nomatch z)
    fun tk => ⟨.bl b, H, I.tok tk, rfl, q⟩
end
end U

set_option Elab.async false
set_option linter.all false
set_option maxRecDepth 100000
set_option maxHeartbeats 4000000
namespace U
open PySem PySem.Spec PyProof.Rows L2
open PySem.W (Frag)
def kD : Key → PyData
  | .inl i => .int i
  | .inr x => .str x
mutual
/-- a value that is data, laid out in H: dicts too -/
inductive Dq (F : Addr → Prop) (H : Hp) : V → PyData → Prop
  | non : Dq F H .non .none
  | bl (b : Bool) : Dq F H (.bl b) (.bool b)
  | int (i : Int) : Dq F H (.int i) (.int i)
  | str (x : Str) : Dq F H (.str x) (.str x)
  | lst {a : Addr} {xs : List V} {ds : List PyData} : F a → H a = some (.lst xs) → DqAll F H xs ds → Dq F H (.ref a) (.list ds)
  | tup {a : Addr} {xs : List V} {ds : List PyData} : F a → H a = some (.tup xs) → DqAll F H xs ds → Dq F H (.ref a) (.tuple ds)
  | dk {a : Addr} {kvs : List (Key × V)} {ds : List PyData} : F a → H a = some (.dK kvs) → DqAll F H (kvs.map (·.2)) ds → Dq F H (.ref a) (.dict ((kvs.map fun kv => kD kv.1).zip ds))
inductive DqAll (F : Addr → Prop) (H : Hp) : List V → List PyData → Prop
  | nil : DqAll F H [] []
  | cons {v : V} {vs : List V} {d : PyData} {ds : List PyData} : Dq F H v d → DqAll F H vs ds → DqAll F H (v :: vs) (d :: ds)
end
theorem DqAll.len {F : Addr → Prop} {H : Hp} : ∀ {vs : List V} {ds : List PyData}, DqAll F H vs ds → vs.length = ds.length
  | _, _, .nil => rfl
  | _, _, .cons _ t => by rw [List.length_cons, List.length_cons, DqAll.len t]
mutual
theorem Dq.move {F G : Addr → Prop} {H H' : Hp} (g : ∀ b, F b → G b) (k : ∀ b o, F b → H b = some o → H' b = some o) : ∀ {v : V} {d : PyData}, Dq F H v d → Dq G H' v d
  | _, _, .non => .non
  | _, _, .bl b => .bl b
  | _, _, .int i => .int i
  | _, _, .str x => .str x
  | _, _, .lst f e h => .lst (g _ f) (k _ _ f e) (DqAll.move g k h)
  | _, _, .tup f e h => .tup (g _ f) (k _ _ f e) (DqAll.move g k h)
  | _, _, .dk f e h => .dk (g _ f) (k _ _ f e) (DqAll.move g k h)
theorem DqAll.move {F G : Addr → Prop} {H H' : Hp} (g : ∀ b, F b → G b) (k : ∀ b o, F b → H b = some o → H' b = some o) : ∀ {vs : List V} {ds : List PyData}, DqAll F H vs ds → DqAll G H' vs ds
  | _, _, .nil => .nil
  | _, _, .cons h t => .cons (Dq.move g k h) (DqAll.move g k t)
end
theorem DqAll.get {F : Addr → Prop} {H : Hp} : ∀ {vs : List V} {ds : List PyData} {i : Nat} {v : V}, DqAll F H vs ds → vs[i]? = some v → ∃ d, ds[i]? = some d ∧ Dq F H v d
  | _, _, _, _, .nil, e => by simp at e
  | _, _, 0, _, .cons h _, e => by
    simp at e
    subst e
    exact ⟨_, rfl, h⟩
  | _, _, i + 1, v, .cons _ t, e => by
    obtain ⟨d, h1, h2⟩ := DqAll.get (i := i) (v := v) t (by simpa using e)
    exact ⟨d, by simpa using h1, h2⟩
theorem DqAll.app {F : Addr → Prop} {H : Hp} : ∀ {vs ws : List V} {ds es : List PyData}, DqAll F H vs ds → DqAll F H ws es → DqAll F H (vs ++ ws) (ds ++ es)
  | _, _, _, _, .nil, h => h
  | _, _, _, _, .cons h t, g => .cons h (DqAll.app t g)
theorem kv_two {κ : Type} : ∀ {kvs : List (κ × V)} {vs : List (κ × Value)}, KV kvs vs → Vals (kvs.map (·.2)) (vs.map (·.2)) ∧ kvs.map (·.1) = vs.map (·.1)
  | _, _, .nil => ⟨.nil, rfl⟩
  | _, _, .cons h t => by
    obtain ⟨h1, h2⟩ := kv_two t
    refine ⟨.cons h.2 h1, ?_⟩
    rw [List.map_cons, List.map_cons, h2, h.1]
theorem pairs_read {P : Program} {w : World} {h : Heap} : ∀ {es : List DictEntry} {vs : List (Key × Value)}, PySem.Pairs (mixKind P w) es vs → ReadsAll h (es.map (·.key)) (vs.map fun kv => kD kv.1) [] ∧ es.map (·.val) = vs.map (·.2)
  | _, _, .nil => ⟨.nil, rfl⟩
  | _, _, .cons hk hv t => by
    obtain ⟨h1, h2⟩ := pairs_read (P := P) (w := w) (h := h) t
    refine ⟨?_, by rw [List.map_cons, List.map_cons, h2, hv]⟩
    rename_i e kv es kvs
    obtain ⟨k, vv⟩ := kv
    rcases keyIs_shape hk with ⟨i, t', e1, e2⟩ | ⟨x, t', e1, e2⟩
    · have e1' : k = Sum.inl i := e1
      subst e1'
      show ReadsAll h (e.key :: es.map (·.key)) (PyData.int i :: kvs.map fun kv => kD kv.1) []
      rw [e2]
      exact .cons (as := []) (bs := []) (.int i t') h1
    · have e1' : k = Sum.inr x := e1
      subst e1'
      show ReadsAll h (e.key :: es.map (·.key)) (PyData.str x :: kvs.map fun kv => kD kv.1) []
      rw [e2]
      exact .cons (as := []) (bs := []) (.str x t') h1
section
variable {F : Addr → Prop} {X : Cx} {pins : List (Addr × Obj)} {σ : L2.St} {H : Hp} {s : Shared}
theorem not_mods (I : Inv X pins σ H s) (hm : ∃ o, X.K.lookup sysModules = some o) {a : Addr} {o : HO} (e : H a = some o) : a ≠ sysModules := fun z => by
  obtain ⟨ob, hm⟩ := hm
  have q := (I.bs _ _ (I.ok.mod.kin _ _ hm)).2
  rw [z, q] at e
  cases e
mutual
theorem Dq.reads (I : Inv X pins σ H s) (hm : ∃ o, X.K.lookup sysModules = some o) : ∀ {v : V} {d : PyData}, Dq F H v d → ∀ u : Value, RelV v u → ∃ as, Reads s.heap u d as ∧ sysModules ∉ as
  | _, _, .non, u, r => by cases r; exact ⟨_, .none, by simp⟩
  | _, _, .bl b, u, r => by cases r; exact ⟨_, .bool b, by simp⟩
  | _, _, .int i, u, r => by obtain ⟨t, rfl⟩ := r; exact ⟨_, .int i t, by simp⟩
  | _, _, .str x, u, r => by obtain ⟨t, rfl⟩ := r; exact ⟨_, .str x t, by simp⟩
  | _, _, .lst (a := a) (xs := xs) _ e h, u, r => by
    cases r
    obtain ⟨_, its, n, rv, ho⟩ := (show ObjOk X.prog X.w H s.heap a (.lst xs) from I.hok a _ e)
    obtain ⟨as, q, nm⟩ := DqAll.reads I hm h its rv
    refine ⟨_, .list ho rfl rfl q, fun z => ?_⟩
    rcases List.mem_cons.mp z with z | z
    · exact not_mods I hm e z.symm
    · exact nm z
  | _, _, .tup (a := a) (xs := xs) _ e h, u, r => by
    cases r
    obtain ⟨_, its, rv, o, ho, hc, n, hd⟩ := (show ObjOk X.prog X.w H s.heap a (.tup xs) from I.hok a _ e)
    obtain ⟨as, q, nm⟩ := DqAll.reads I hm h its rv
    exact ⟨_, .tuple ho hc hd q, nm⟩
  | _, _, .dk (a := a) (kvs := kvs) (ds := ds) _ e h, u, r => by
    cases r
    obtain ⟨_, _, vs, kv, o, es, ep, ho, hx, hd, _, hp, _⟩ := (show ObjOk X.prog X.w H s.heap a (.dK kvs) from I.hok a _ e)
    obtain ⟨k1, k2⟩ := kv_two kv
    obtain ⟨p1, p2⟩ := pairs_read (h := s.heap) hp
    obtain ⟨as, q, nm⟩ := DqAll.reads I hm h (vs.map (·.2)) k1
    have hl := h.len
    have e1 : (((kvs.map fun kv => kD kv.1).zip ds).map (·.1)) = vs.map fun kv => kD kv.1 := by
      rw [List.map_fst_zip (by rw [List.length_map, ← hl, List.length_map]; exact Nat.le_refl _)]
      have : (kvs.map (·.1)).map kD = (vs.map (·.1)).map kD := by rw [k2]
      rw [List.map_map, List.map_map] at this
      exact this
    have e2 : (((kvs.map fun kv => kD kv.1).zip ds).map (·.2)) = ds := List.map_snd_zip (by rw [List.length_map, ← hl, List.length_map]; exact Nat.le_refl _)
    refine ⟨_, .dict ho hx.1 hd (as := []) (bs := as) (by rw [e1]; exact p1) (by rw [e2, p2]; exact q), fun z => ?_⟩
    rcases List.mem_append.mp z with z | z
    · rcases List.mem_cons.mp z with z | z
      · exact not_mods I hm e z.symm
      · cases z
    · exact nm z
theorem DqAll.reads (I : Inv X pins σ H s) (hm : ∃ o, X.K.lookup sysModules = some o) : ∀ {vs : List V} {ds : List PyData}, DqAll F H vs ds → ∀ us : List Value, Vals vs us → ∃ as, ReadsAll s.heap us ds as ∧ sysModules ∉ as
  | _, _, .nil, us, r => by cases r; exact ⟨_, .nil, by simp⟩
  | _, _, .cons h t, us, r => by
    cases r with
    | cons r1 r2 =>
      obtain ⟨as, q1, n1⟩ := Dq.reads I hm h _ r1
      obtain ⟨bs, q2, n2⟩ := DqAll.reads I hm t _ r2
      exact ⟨_, .cons q1 q2, fun z => (List.mem_append.mp z).elim n1 n2⟩
end
end
/-- repr(x) of data -/
def rRepr : List V → Hp → VK → Prop := fun xs H Q => ∃ (F : Addr → Prop) (x : V) (d : PyData), xs = [x] ∧ Dq F H x d ∧ d.showable = true ∧ d.depth ≤ 50 ∧ d.shown.length ≤ sizeLine ∧ Q (.str d.shown) H
theorem call_reprD {X : Cx} (hm : ∃ o, X.K.lookup sysModules = some o) (hg : X.A.guards = some []) (hu : X.A.units + 64 < cLine) : CallR X (.builtin "repr") rRepr := by
  intro pins s σ H xs us Q I r h
  obtain ⟨F, x, d, rfl, hd, hs, hdep, hl, q⟩ := h
  cases r with
  | @cons _ u _ _ rx rn =>
    cases rn
    obtain ⟨as, rd, nm⟩ := hd.reads I hm u rx
    have fin : ∀ (h' : Heap) (t : Tok) (tk : Nat), (∀ b o, s.heap.get? b = some o → h'.get? b = some o) → EP X pins σ Q (.str d.shown t) { s with heap := h', toks := tk } := fun h' t tk k => ⟨.str d.shown, H, I.kept (t' := tk) k, ⟨t, rfl⟩, q⟩
    cases rd with
    | none =>
      refine PySem.P.repr_of_none ?_
      have z := fin s.heap s.toks (s.toks + 1) fun _ _ e => e
      simpa [PyData.shown] using z
    | bool b =>
      refine PySem.P.repr_of_bool ?_
      have z := fin s.heap s.toks (s.toks + 1) fun _ _ e => e
      cases b <;> simpa [PyData.shown] using z
    | int i t =>
      refine PySem.P.repr_of_int (by simpa [PyData.showable] using hs) ?_
      have z := fin s.heap s.toks (s.toks + 1) fun _ _ e => e
      simpa [PyData.shown] using z
    | str y t =>
      refine PySem.P.repr_of_str ?_ (by simpa [PyData.shown] using hl)
      have z := fin s.heap s.toks (s.toks + 1) fun _ _ e => e
      simpa [PyData.shown] using z
    | list h1 h2 h3 h4 => exact repr_of_reads' (.list h1 h2 h3 h4) hs (fun _ => nm) hg (by omega) (fun _ _ e => e) (fun h' t tk k => fin h' t tk k) hl
    | tuple h1 h2 h3 h4 => exact repr_of_reads' (.tuple h1 h2 h3 h4) hs (fun _ => nm) hg (by omega) (fun _ _ e => e) (fun h' t tk k => fin h' t tk k) hl
    | dict h1 h2 h3 h4 h5 => exact repr_of_reads' (.dict h1 h2 h3 h4 h5) hs (fun _ => nm) hg (by omega) (fun _ _ e => e) (fun h' t tk k => fin h' t tk k) hl
end U

set_option Elab.async false
set_option linter.all false
set_option maxRecDepth 100000
set_option maxHeartbeats 4000000
namespace U
open PySem PySem.Spec PyProof.Rows L2
open PySem.W (Frag)
/-! ### weaker readings -/
section
variable {X : Cx}
theorem pe_mono {e : Expr} {t t' : TE} (h : PE X e t) (k : ∀ σ H Q, t' σ H Q → t σ H Q) : PE X e t' := ⟨fun pins s σ H Q I q => h.run pins s σ H Q I (k σ H Q q)⟩
theorem pa_mono {es : List Expr} {t t' : TA} (h : PA X es t) (k : ∀ σ H Q, t' σ H Q → t σ H Q) : PA X es t' := ⟨fun pos pins s σ H Q I q => h.run pos pins s σ H Q I (k σ H Q q)⟩
end
theorem same_new {H : Hp} {p : Addr} {o : HO} (n : H p = none) : Same H (upd H p o) := fun b u e => by
  rw [upd_ne (ne_of_none e n)]
  exact e
/-! ### expressions that give new data -/
def tData (d : PyData) : TE := fun _ H Q => ∀ v H', Same H H' → Dq (fun a => H a = none) H' v d → Q v H'
def tDatas (ds : List PyData) : TA := fun _ H Q => ∀ vs H', Same H H' → DqAll (fun a => H a = none) H' vs ds → Q vs H'
section
variable {X : Cx}
theorem pd_non {j pos} : PE X (.Constant .none j pos) (tData .none) := pe_mono pe_non fun σ H Q h => h .non H (Same.refl H) .non
theorem pd_bl {b j pos} : PE X (.Constant (.bool b) j pos) (tData (.bool b)) := pe_mono pe_bl fun σ H Q h => h (.bl b) H (Same.refl H) (.bl b)
theorem pd_int {i j pos} : PE X (.Constant (.int i) j pos) (tData (.int i)) := pe_mono pe_int fun σ H Q h => h (.int i) H (Same.refl H) (.int i)
theorem pd_str {x j pos} : PE X (.Constant (.str x) j pos) (tData (.str x)) := pe_mono pe_str fun σ H Q h => h (.str x) H (Same.refl H) (.str x)
theorem pd_neg {i : Int} {j p pos} : PE X (.UnaryOp .USub (.Constant (.int i) j p) pos) (tData (.int (-i))) := pe_mono (pe_un un_neg pe_int) fun σ H Q h => ⟨i, rfl, h (.int (-i)) H (Same.refl H) (.int (-i))⟩
theorem pds_nil : PA X [] (tDatas []) := pa_mono pa_nil fun σ H Q h => h [] H (Same.refl H) .nil
theorem pds_cons {e : Expr} {es : List Expr} {d : PyData} {ds : List PyData} (h : PE X e (tData d)) (hs : PA X es (tDatas ds)) (he : starEach (e :: es) X.env = (false, eval e X.env) :: starEach es X.env := by rfl) : PA X (e :: es) (tDatas (d :: ds)) :=
  pa_mono (pa_cons h hs he) fun σ H Q h => fun v H1 s1 q1 vs H2 s2 q2 => h (v :: vs) H2 (s1.trans s2) (.cons (q1.move (fun _ f => f) fun b o _ e => s2 b o e) (q2.move (fun b f => s1.free f) fun b o _ e => e))
theorem pd_lst {es : List Expr} {ds : List PyData} {pos : Pos} (hs : PA X es (tDatas ds)) (hl : ds.length ≤ 1000 := by decide) : PE X (.List es pos) (tData (.list ds)) :=
  pe_mono (pe_lst hs) fun σ H Q h => fun vs H1 s1 q1 => ⟨by rw [q1.len, sizeLine_eq]; omega, fun p np => h (.ref p) _ (s1.trans (same_new np)) (.lst (s1.free np) upd_same (q1.move (fun _ f => f) fun b o _ e => same_new np b o e))⟩
theorem pd_tup {es : List Expr} {ds : List PyData} {pos : Pos} {x1} (hs : PA X es (tDatas ds)) (hl : ds.length ≤ 1000 := by decide) : PE X (.Tuple es x1 pos) (tData (.tuple ds)) :=
  pe_mono (pe_tup hs) fun σ H Q h => fun vs H1 s1 q1 => ⟨by rw [q1.len, sizeLine_eq]; omega, fun p np => h (.ref p) _ (s1.trans (same_new np)) (.tup (s1.free np) upd_same (q1.move (fun _ f => f) fun b o _ e => same_new np b o e))⟩
theorem pd_dict0 {pos : Pos} : PE X (.Dict [] [] pos) (tData (.dict [])) :=
  pe_mono pe_dnewK fun σ H Q h => fun p np => h (.ref p) _ (same_new np) (.dk (kvs := []) (ds := []) np upd_same .nil)
theorem pd_dict1 {k : Str} {p pos : Pos} {jj} {e : Expr} {d : PyData} (he : PE X e (tData d)) : PE X (.Dict [some (.Constant (.str k) jj p)] [e] pos) (tData (.dict [(.str k, d)])) := by
  refine pe_mono (pe_disp (pps_cons pe_str he pps_nil) rfl rfl (fun z => by cases z) (show 1 ≤ 15 by decide)) fun σ H Q h => fun p np v H1 s1 q1 => ⟨s1 _ _ upd_same, [(Sum.inr k, v)], rfl, (show 1 ≤ 15 by decide), ?_⟩
  have hp : H1 p = some (.dK []) := s1 _ _ upd_same
  have mv : ∀ b o, b ≠ p → H1 b = some o → upd H1 p (.dK (mergeK [] [(Sum.inr k, v)])) b = some o := fun b o hb z => by
    rw [upd_ne hb]
    exact z
  refine h (.ref p) _ (fun b o z => mv b o (ne_of_none z np) (s1 b o (by rw [upd_ne (ne_of_none z np)]; exact z))) (.dk (kvs := [(Sum.inr k, v)]) (ds := [d]) np upd_same (.cons (q1.move (fun b f => ?_) fun b o f z => mv b o (fun y => ?_) z) .nil))
  · by_cases hb : b = p
    · rw [hb, upd_same] at f
      cases f
    · rw [upd_ne hb] at f
      exact f
  · have f' : upd H p (.dK []) b = none := f
    rw [y, upd_same] at f'
    cases f'
end
/-! ### a def called while no repr is under way -/
structure FnG (P : Program) (w : World) (K : Frag) (mg : Str → Option Value) (base : Heap) (k : Nat) (f : Addr) (fd : FuncData) (ps : List Str) (sp : Sp) : Prop where
  len : ∀ vs H Q E, sp vs H Q E → vs.length = ps.length
  run : ∀ (A : Around) (outer : List Env) (s : Shared) (H : Hp) (args : Args) (us : List Value) (vs : List V) (Q : VK) (E : XK), A.guards = some [] → Room k A → Env0 P w K mg base A outer s H → BindsTo s fd args (ps.zip us) → Vals vs us → sp vs H Q E →
    codeAny (model P w) A (.call (.ref f) args) (CR CX0 outer P w H s Q E) s
section
variable {P : Program} {w : World} {K : Frag} {mg : Str → Option Value} {base : Heap} {x qual : Str} {params : Arguments} {body : List Stmt} {scope : Scope} {dvs : List V} {kws : List (Str × V)} {f : Addr} {fd : FuncData}
theorem okG {N ps : List Str} {k : Nat} {sp : Sp} (F : FunD K x qual params body scope dvs kws f fd) (S : FnScope N ps scope) (len : ∀ vs H Q E, sp vs H Q E → vs.length = ps.length)
    (hbody : ∀ (cdv : Value) (A : Around) (outer : List Env) (s : Shared) (H : Hp) (vs : List V) (Q : VK) (E : XK), A.guards = some [] → Room k (A.deeper (envOfC qual scope s.heap.objs.size f cdv)) → sp vs H Q E →
      ∃ t, PSs (cxOf CX0 P w K mg base N qual scope f cdv A outer s H E) body t ∧ t { nx := fun _ H' => Q .non H', rt := Q } (start N vs) H) : FnG P w K mg base (k + 1) f fd ps sp := by
  refine ⟨len, fun A outer s H args us vs Q E hg hr e0 hb r hsp => ?_⟩
  obtain ⟨oc, od, dV, kV, doc, pm, an, cdv, ct, osl, rfl, lk, hcd, _, _⟩ := F.ex
  -- over this one A the promise is a plain one: its caller's guards are told by the promise itself
  have hl := len _ _ _ _ hsp
  have kb : ∀ b o, base.get? b = some o → s.heap.get? b = some o := fun b o e => (e0.bs b o e).1
  have KX : K.In s.heap := e0.mod.kin.keeps kb
  have lim : s.heap.NoLimit := e0.mod.nolimit.keeps kb
  have hkd : ∀ y ∈ ps.zip us, scope.names.lookup y.1 = some .local ∨ (scope.names.lookup y.1 = some .cell ∧ ((cellsFrom (s.heap.objs.size + 1) scope.names []).lookup y.1).isSome = true) := by
    rintro ⟨n, v⟩ hy
    exact (S.par n (List.of_mem_zip hy).1).imp (fun q => q) fun q => ⟨q, PySem.W.cellsFrom_some _ _ _ (.inl q)⟩
  refine codeAny_call_function hr.depth (KX _ _ lk) rfl S.co S.gen rfl (PySem.W.codeRec_of KX hcd) (hb _ _ _ _ (wpAny_newFunctionEnv_cells S.kind hkd fun env he s1 x => ?_))
  subst he
  refine ⟨lim.keeps x.toInCall.keep, codeAny_func ?_⟩
  obtain ⟨t, ht, hq⟩ := hbody cdv A outer s H vs Q E hg (hr.deeper _) hsp
  have I := inv_start (CX := CX0) (P := P) (w := w) (K := K) (mg := mg) (base := base) (qual := qual) (f := f) (cd := cdv) (E := E) S hr.hd e0 hl r x
  refine wpAny_mono (ht.run [] s1 (start N vs) H _ I hq) (fun fl s' hs => ?_) fun e s' hs => hs
  cases fl with
  | ret u =>
    obtain ⟨v, σ', H', J, rv, q⟩ := hs
    exact ⟨v, H', J.os, J.bare, J.base, J.hok, rv, q⟩
  | next =>
    obtain ⟨σ', H', J, q⟩ := hs
    exact ⟨.non, H', J.os, J.bare, J.base, J.hok, rfl, q⟩
  | brk => exact hs.elim fun _ ⟨_, _, q⟩ => q.elim
  | cont => exact hs.elim fun _ ⟨_, _, q⟩ => q.elim
end
section
variable {X : Cx} {k : Nat} {f : Addr} {fd : FuncData} {ps : List Str} {sp : Sp} {x : Str} {p pos : Pos} {e : Expr} {es : List Expr} {t : TA}
theorem pe_callG (F : FnG X.prog X.w X.K X.mg X.base k f fd ps sp) (hgu : X.A.guards = some []) (hr : Room k X.A) (hg : Gl X x) (hm : X.mg x = some (.ref f)) (hk : PySem.W.keepIn X.K (.ref f) = true) (hb : Binds X.K fd ps [])
    (ha : PA X (e :: es) t) (hdb : (x == ("__debug__" : Str)) = false := by decide) (he : starEach (e :: es) X.env = (false, eval e X.env) :: starEach es X.env := by rfl) (hpl : (backTo pos (starEach es X.env)).any (·.1) = false := by rfl) :
    PE X (.Call (.Name x p) (e :: es) [] pos) (tCall sp [] E0 t) := by
  refine ⟨fun pins s σ H Q I h => ?_⟩
  refine wpAny_Call_Name_kw (ld_glob I hg hm ?_ hdb)
  refine PySem.W.callWith_K (h₀ := X.base) I.ok.mod.kin hk (thn (ha.run pos pins s σ H _ I h) fun us s1 ⟨vs, H1, I1, r, q⟩ => ⟨I1.kIn, ?_⟩) he hpl
  have q' : sp vs H1 Q E0 := by
    have z : sp (vs ++ []) H1 Q E0 := q
    rw [List.append_nil] at z
    exact z
  have hl : us.length = ps.length := by
    rw [← r.length]
    exact F.len _ _ _ _ q'
  refine wpAny_call (codeAny_mono (F.run X.A X.stack s1 H1 ⟨us, []⟩ us vs Q E0 hgu hr I1.env0 (by have z := hb s1 us I1.kIn (by rw [List.append_nil]; exact hl); rw [List.append_nil] at z; exact z) r q') fun rr s' hq => ?_)
  cases rr with
  | error er => exact False.elim hq
  | ok fl =>
    cases fl with
    | ret u => exact I1.after hq
    | next => exact False.elim hq
    | brk => exact False.elim hq
    | cont => exact False.elim hq
/-- ** with a great base -/
theorem op_powW : OpR X (binaryOp .Pow) (rI (fun i j => 0 ≤ j ∧ (Builtin.Int.intBits i : Int) * j ≤ 2 ^ 27) fun i j => .int (i ^ j.toNat)) := opI fun _ _ _ _ _ _ _ hc q => pow_int hc.1 hc.2 q
end
end U

set_option Elab.async false
set_option linter.all false
set_option maxRecDepth 100000
set_option maxHeartbeats 4000000
namespace U
open PySem PySem.Spec PyProof.Rows L2
open PySem.W (Frag)
/-! ### the facts as Bools -/
def eqB (a b : Option Bool) : Bool := decide (a = b)
def eqV (a b : Option Value) : Bool := decide (a = b)
def eqOO (a b : Option (Option Value)) : Bool := decide (a = b)
def clsB (K : Frag) (C : Addr) : Bool := match K.lookup C with
  | some ⟨.type t, _, .cls cd, sl⟩ => decide (t = "type") && (cd.hasDict && (!cd.hasDel && ((match cd.mro with
    | .ref c :: bm => decide (c = C) && PySem.HandSPX.refsVE bm
    | _ => false) && (match sl.toList with
    | [_, _, _, _, some (.builtin n), _] => decide (n = "ValueError.__new__")
    | _ => false))))
  | _ => false
theorem clsB_ok {K : Frag} {C : Addr} (h : clsB K C = true) : ∃ nm q N bs bm sn sub ab col dd k0 k1 k2 k3 k5, K.lookup C = some (excClassObj nm q C N bs bm true sn sub ab col dd k0 k1 k2 k3 k5 "ValueError.__new__") ∧ PySem.HandSPX.refsVE bm = true := by
  unfold clsB at h
  split at h
  · rename_i t dd cd sl ho
    simp only [Bool.and_eq_true, decide_eq_true_eq, Bool.not_eq_true'] at h
    obtain ⟨rfl, h1, h2, h3, h4⟩ := h
    split at h3
    · rename_i c bm hm
      simp only [Bool.and_eq_true, decide_eq_true_eq] at h3
      obtain ⟨rfl, h3⟩ := h3
      split at h4
      · rename_i k0 k1 k2 k3 n k5 hs
        have hn : n = "ValueError.__new__" := by simpa using h4
        subst hn
        obtain ⟨nm, bs, mro, N, q, hd, sn, sub, ab, col, del⟩ := cd
        simp only at h1 h2 hm
        subst h1 h2 hm
        have hs' : sl = #[k0, k1, k2, k3, some (.builtin "ValueError.__new__"), k5] := by
          rw [← hs]
        subst hs'
        exact ⟨nm, q, N, bs, bm, sn, sub, ab, col, dd, k0, k1, k2, k3, k5, ho, h3⟩
      · cases h4
    · cases h3
  · cases h
def errB (K : Frag) (D fI C : Addr) : Bool :=
  clsB K C && (eqOO (PySem.W.findIn K (.ref C) "__setattr__") (some (some (.builtin "object.__setattr__"))) && (eqOO (PySem.W.findIn K (.ref C) "__getattribute__") (some (some (.builtin "BaseException.__getattribute__"))) && (eqOO (PySem.W.findIn K (.ref C) "__getattr__") (some none) &&
  (eqOO (PySem.W.findIn K (.ref C) "value") (some none) && (eqOO (PySem.W.findIn K (.ref C) "__init__") (some (some (.ref fI))) && (eqV (PySem.W.typeIn K (.ref fI)) (some (.type "function")) && (PySem.W.keepIn K (.ref C) && (eqB (PySem.W.subIn K (.ref C) (.type "BaseException")) (some true) &&
  (eqV (PySem.W.typeIn K (.ref C)) (some (.type "type")) && (PySem.W.hasDictIn K C && (eqB (PySem.W.mroIn K C (.ref D)) (some true) && (eqOO (PySem.W.ks_superIn K C D "__init__") (some (some (.builtin "ValueError.__init__"))) && (eqB (PySem.W.subIn K (.ref C) (.type "ValueError")) (some true) &&
  (eqOO (PySem.W.findIn K (.ref C) "__class__") (some (some (.builtin "object.__class__"))) && (eqOO (PySem.W.specialIn K (.builtin "object.__class__") "__get__") (some (some (.builtin "getset_descriptor.__get__"))) && (eqB (PySem.W.takesIn K (.builtin "object.__class__")) (some true) && eqB (PySem.W.mroIn K C (.type "object")) (some true)))))))))))))))))
theorem errB_ok {K : Frag} {D fI C : Addr} (h : errB K D fI C = true) : ErrC K D fI C := by
  unfold errB at h
  obtain ⟨h1, h⟩ := He.ba h
  obtain ⟨h2, h⟩ := He.ba h
  obtain ⟨h3, h⟩ := He.ba h
  obtain ⟨h4, h⟩ := He.ba h
  obtain ⟨h5, h⟩ := He.ba h
  obtain ⟨h6, h⟩ := He.ba h
  obtain ⟨h7, h⟩ := He.ba h
  obtain ⟨h8, h⟩ := He.ba h
  obtain ⟨h9, h⟩ := He.ba h
  obtain ⟨h10, h⟩ := He.ba h
  obtain ⟨h11, h⟩ := He.ba h
  obtain ⟨h12, h⟩ := He.ba h
  obtain ⟨h13, h⟩ := He.ba h
  obtain ⟨h14, h⟩ := He.ba h
  obtain ⟨h15, h⟩ := He.ba h
  obtain ⟨h16, h⟩ := He.ba h
  obtain ⟨h17, h18⟩ := He.ba h
  exact ⟨clsB_ok h1, of_decide_eq_true h2, of_decide_eq_true h3, of_decide_eq_true h4, of_decide_eq_true h5, of_decide_eq_true h6, of_decide_eq_true h7, h8, of_decide_eq_true h9, of_decide_eq_true h10, h11, of_decide_eq_true h12, of_decide_eq_true h13, of_decide_eq_true h14, of_decide_eq_true h15, of_decide_eq_true h16, of_decide_eq_true h17, of_decide_eq_true h18⟩
/-! ### the base's __init__ -/
abbrev FnC : Type := Option (Str × Str × Arguments × FuncBody × Scope × Addr × List Str × Addr)
def fnC (K : Frag) (fI : Addr) : FnC := match K.lookup fI with
  | some ⟨_, _, .func fd, _⟩ => some (fd.name, fd.qualname, fd.params, fd.body, fd.scope, fd.globals, fd.closure.map (·.1), fd.builtins)
  | _ => none
def codeB (file : Str) (K : Frag) (cd : Value) : Bool := match cd with
  | .ref cda => PySem.W.codeIn K (.ref cda) "TableError.__init__" && (match K.lookup cda with
    | some ⟨_, _, .fields vs, _⟩ => (match (vs[(2 : Nat)]? : Option Value) with
      | some (.str z _) => file == z
      | _ => false)
    | _ => false)
  | _ => false
def cellB (K : Frag) (D : Addr) (cl : List (Str × Addr)) : Bool := match cl with
  | [(_, cc)] => (match K.lookup cc with
    | some ⟨_, _, .cell (some (.ref c)), _⟩ => decide (c = D)
    | _ => false)
  | _ => false
def initB (file : Str) (K : Frag) (D fI : Addr) : Bool := (match K.lookup fI with
    | some ⟨_, _, .func fd, _⟩ => eqV (some fd.defaults) (some .none) && (codeB file K fd.code && cellB K D fd.closure)
    | _ => false) && ((PySem.W.clsIn K D).isSome && (eqOO (PySem.W.nsIn K mainGlobals "super") (some none) && eqOO (PySem.W.nsIn K cStatics "thirdparty.any") (some none)))
def initV (p1 p2 q1 q2 q3 q4 q5 q6 q7 q8 q9 q10 : Pos) : FnC := some (("__init__" : Str), ("TableError.__init__" : Str), iA p1 p2, FuncBody.stmts (iB q1 q2 q3 q4 q5 q6 q7 q8 q9 q10), iS, mainGlobals, [("__class__" : Str)], builtinsNs)
theorem init_of {prog : Program} {K : Frag} {D fI : Addr} {p1 p2 q1 q2 q3 q4 q5 q6 q7 q8 q9 q10 : Pos} (hl : (q3.endLine == q5.line) = true) (ht : (prog.main.scope.names.lookup ("super" : Str)).isSome = false)
    (e : fnC K fI = initV p1 p2 q1 q2 q3 q4 q5 q6 q7 q8 q9 q10) (b : initB prog.main.file K D fI = true) : InitTxt prog K D fI := by
  unfold initB at b
  obtain ⟨b1, b⟩ := He.ba b
  obtain ⟨b2, b⟩ := He.ba b
  obtain ⟨b3, b4⟩ := He.ba b
  unfold fnC at e
  cases q : K.lookup fI with
  | none =>
    rw [q] at b1
    cases b1
  | some o =>
    obtain ⟨oc, od, dt, osl⟩ := o
    rw [q] at b1 e
    cases dt with
    | func fd =>
      obtain ⟨n1, n2, n3, n4, n5, n6, n7, n8, n9, n10, n11, n12, n13, n14, n15⟩ := fd
      have e2 : (some (n1, n2, n3, n4, n5, n6, n7.map (·.1), n15) : FnC) = initV p1 p2 q1 q2 q3 q4 q5 q6 q7 q8 q9 q10 := e
      unfold initV at e2
      simp only [Option.some.injEq, Prod.mk.injEq] at e2
      obtain ⟨h1, h2, h3, h4, h5, h6, h7, h8⟩ := e2
      have b1' : (eqV (some n8) (some .none) && (codeB prog.main.file K n13 && cellB K D n7)) = true := b1
      obtain ⟨c1, c⟩ := He.ba b1'
      obtain ⟨c2, c3⟩ := He.ba c
      have d8 : n8 = .none := Option.some.inj (of_decide_eq_true c1)
      unfold codeB at c2
      cases n13 with
      | ref cda =>
        obtain ⟨c4, c5⟩ := He.ba c2
        unfold cellB at c3
        cases n7 with
        | nil => cases h7
        | cons r n7 =>
          cases n7 with
          | cons _ _ => simp at h7
          | nil =>
            obtain ⟨z, cc⟩ := r
            have hz : z = "__class__" := (List.cons.inj h7).1
            subst h1 h2 h3 h4 h5 h6 h8 d8 hz
            refine ⟨⟨oc, od, n9, n10, n11, n12, cda, cc, n14, osl, p1, p2, q1, q2, q3, q4, q5, q6, q7, q8, q9, q10, q, hl, c4, ?_, ?_⟩, b2, of_decide_eq_true b3, of_decide_eq_true b4, ht⟩
            · split at c5
              · rename_i ccl cdd vs ccs ho
                split at c5
                · rename_i file tf hv
                  exact ⟨ccl, cdd, vs, ccs, file, tf, ho, hv, c5⟩
                · cases c5
              · cases c5
            · have c3' : (match K.lookup cc with
                | some ⟨_, _, .cell (some (.ref c)), _⟩ => decide (c = D)
                | _ => false) = true := c3
              split at c3'
              · rename_i cl cld c csl hc
                have hD : c = D := of_decide_eq_true c3'
                rw [hD] at hc
                exact ⟨_, _, _, hc⟩
              · cases c3'
      | _ => cases c2
    | _ => cases b1
/-! ### the hook -/
def asU (g : Addr → Option Obj) (n : Nat) : List Addr := cStatics :: sysModules :: He.asD g n
abbrev AlU : Type := He.AlT × Bool × FnC
def obsU (n : Nat) (fa : List He.Fa) (fn : List He.DefD) (ts : List He.Tab) (ex : Frag → Bool) (fc : Frag → FnC) (g : Addr → Option Obj) : AlU := (He.obsT fa fn ts (He.frG g (asU g n)), ex (He.frG g (asU g n)), fc (He.frG g (asU g n)))
def hookU (n : Nat) (fa : List He.Fa) (fn : List He.DefD) (ts : List He.Tab) (ex : Frag → Bool) (fc : Frag → FnC) (vc : FnC) : PySem.W.Hook where
  α := AlU
  obs := fun s => obsU n fa fn ts ex fc s.heap.get?
  val := fun w => (He.valT fn ts w, true, vc)
  says := fun w h => ∃ K : Frag, K.In h ∧ He.SaysT fa fn ts w K ∧ ex K = true ∧ fc K = vc
  of := fun w s e => ⟨_, He.frG_in, congrArg (fun z : AlU => z.1) e, congrArg (fun z : AlU => z.2.1) e, congrArg (fun z : AlU => z.2.2) e⟩
  keeps := fun _ _ _ ⟨K, hK, c⟩ k => ⟨K, PySem.W.Frag.In.keeps hK k, c⟩
theorem obsU_eq {n : Nat} {fa : List He.Fa} {fn : List He.DefD} {ts : List He.Tab} {ex : Frag → Bool} {fc : Frag → FnC} {vc : FnC} {g : Addr → Option Obj} {s : Shared} (h : ∀ a, g a = s.heap.get? a) : obsU n fa fn ts ex fc g = (hookU n fa fn ts ex fc vc).obs s := by
  have e : g = s.heap.get? := funext h
  subst e
  rfl
end U

set_option Elab.async false
set_option linter.all false
set_option maxRecDepth 100000
set_option maxHeartbeats 4000000
namespace U
open PySem PySem.Spec PyProof.Rows L2
open PySem.W (Frag)
/-- the law's call, its def being known only where no repr is under way -/
theorem call_lawG {P : Program} {w : World} {K : Frag} {mg mb : Str → Option Value} {k : Nat} {fa a : Addr} {fd : FuncData} {x : Str} {sp : Sp} {s1 : Shared} {vs : List Value} {ns : List Int} (KX : K.In s1.heap) (hns : s1.heap.Ns mainGlobals mg) (hb : s1.heap.Ns builtinsNs mb)
    (hbb : ∀ x : Str, x ≠ "__name__" → mb x = bootBuiltins x) (hlim : s1.heap.NoLimit) (hg : s1.gens = #[]) (ha : s1.heap.get? a = some { cls := .type "list", data := .seq vs.toArray }) (hi : IntsAre vs ns) (hl : ns.length ≤ sizeLine) (hr : Room k callerA)
    (F : ∀ b : Heap, K.In b → b.Ns mainGlobals mg → FnG P w K mg b k fa fd [x] sp) (hbind : ∀ (s : Shared) (u : Value), BindsTo s fd ⟨[u], []⟩ [(x, u)]) (hsp : ∀ H : Hp, Only H → SqL K H a (ns.map V.int) → sp [.ref a] H (fun v _ => v = .bl true) fun _ _ _ => False) :
    codeAny (model P w) callerA (.call (.ref fa) ⟨[.ref a], []⟩) (fun r s' => r = .ok (.ret (.bool true)) ∧ OldK s1.heap s'.heap ∧ s'.os = s1.os ∧ AllBare s'.gens) s1 := by
  have rv := vals_ints hi
  have run : ∀ H : Hp, Only H → SqL K H a (ns.map V.int) → HOk P w H s1.heap → (∀ b, H b ≠ none → b = a) → (H a ≠ none → K.lookup a = none) → codeAny (model P w) callerA (.call (.ref fa) ⟨[.ref a], []⟩) (fun r s' => r = .ok (.ret (.bool true)) ∧ OldK s1.heap s'.heap ∧ s'.os = s1.os ∧ AllBare s'.gens) s1 := by
    intro H hO hS hok hA hK
    have nos : ∀ {b : Addr} {o : Obj} {es : Array DictEntry} {ep : Nat}, s1.heap.get? b = some o → o.data = .dict es ep → H b = none := by
      intro b o es ep e d
      cases q : H b with
      | none => rfl
      | some u =>
        obtain rfl : b = a := hA b (by rw [q]; exact Option.some_ne_none u)
        cases ha.symm.trans e
        cases (show Data.seq vs.toArray _ = Data.dict es ep from d)
    have ns1 : ∀ {b : Addr} {m : Str → Option Value}, s1.heap.Ns b m → (hidT s1.heap H).Ns b m := by
      rintro b m ⟨o, es, ep, e, d, r⟩
      exact ⟨o, es, ep, hidT_get e (nos e d), d, r⟩
    have KB : K.In (hidT s1.heap H) := by
      intro b o e
      refine hidT_get (KX b o e) ?_
      cases q : H b with
      | none => rfl
      | some u =>
        obtain rfl : b = a := hA b (by rw [q]; exact Option.some_ne_none u)
        have z := hK (by rw [q]; exact Option.some_ne_none u)
        cases z.symm.trans e
    obtain ⟨mc, l1, l2⟩ := hlim
    have M : Mod K mg (hidT s1.heap H) := ⟨KB, ns1 hns, ⟨mb, ns1 hb, hbb⟩, ⟨mc, ns1 l1, l2⟩⟩
    have e0 : Env0 P w K mg (hidT s1.heap H) callerA [] s1 H := ⟨rfl, M, fun b o e => of_hidT e, Nat.le_of_eq (hidT_size _ _), trivial, fun b hb => absurd (show b ∈ ([] : List Addr) from hb) List.not_mem_nil, hok, .of_eq hg⟩
    refine codeAny_mono ((F _ KB (ns1 hns)).run callerA [] s1 H ⟨[.ref a], []⟩ [.ref a] [.ref a] _ _ rfl hr e0 (hbind s1 (.ref a)) (.cons rfl .nil) (hsp H hO hS)) fun r s' h => ?_
    match r, h with
    | .error _, h => exact False.elim h
    | .ok .next, h => exact False.elim h
    | .ok .brk, h => exact False.elim h
    | .ok .cont, h => exact False.elim h
    | .ok (.ret u), h =>
      obtain ⟨v, H', os, bare, un, hok', r', rfl⟩ := h
      obtain rfl : u = Value.bool true := r'
      refine ⟨rfl, OldK.of_keep fun b o e => ?_, os, bare⟩
      rcases hO b with z | ⟨ob, xs, z⟩
      · exact un.keep b o e z (fun y => absurd (show b ∈ ([] : List Addr) from y) List.not_mem_nil) (by simp)
      · obtain ⟨e1, _⟩ := hok b _ z
        obtain ⟨e2, _⟩ := hok' b _ (un.frzs b ob _ z)
        rw [e] at e1
        cases e1
        exact e2
  cases hk : K.lookup a with
  | some o =>
    cases ha.symm.trans (KX a o hk)
    exact run (fun _ => none) (fun _ => .inl rfl) (.inr ⟨_, vs.toArray, _, hk, rfl, rfl, rfl, by rw [List.size_toArray, hi.length]; exact hl, by simpa using rv⟩) (fun b u z => nomatch (show (none : Option HO) = some u from z)) (fun b z => absurd rfl z) fun z => absurd rfl z
  | none =>
    refine run (fun b => if b = a then some (.frz { cls := .type "list", data := .seq vs.toArray } (.lst (ns.map V.int))) else none) (fun b => ?_) (.inl (.inr ⟨{ cls := .type "list", data := .seq vs.toArray }, if_pos rfl⟩)) (fun b u z => ?_) (fun b z => ?_) fun _ => hk
    all_goals by_cases hb : b = a
    · exact .inr ⟨_, _, if_pos hb⟩
    · exact .inl (if_neg hb)
    · cases (if_pos hb).symm.trans z
      subst hb
      exact ⟨ha, by rw [List.length_map]; exact hl, vs, _, rv, ha⟩
    · cases (if_neg hb).symm.trans z
    · exact hb
    · exact absurd (if_neg hb) z
theorem walk_lawG {l : PySem.W.OpenLaw} {n k : Nat} {q : Program} {loose : List Str} {XP : (Str → Option Value) → Heap → Prop} {YP : World → Heap → Prop} {d : DefRec} {x : Str} (hn : l.most = some n) (hn2 : n ≤ sizeLine) (hdf : d.params.defaults = []) (hr : Room k callerA)
    (F : ∀ (w : World) (mg : Str → Option Value) (fa : Addr) (h : Heap), YP w h → h.Ns mainGlobals mg → mg d.name = some (.ref fa) → ∃ (K : Frag) (fd : FuncData) (sp : Sp), K.In h ∧ (∀ (s : Shared) (u : Value), BindsTo s fd ⟨[u], []⟩ [(x, u)]) ∧
      (∀ (H : Hp) (a : Addr) (ns : List Int), ns.length ≤ n → Only H → SqL K H a (ns.map V.int) → sp [.ref a] H (fun v _ => v = .bl true) fun _ _ _ => False) ∧ ∀ b : Heap, K.In b → b.Ns mainGlobals mg → FnG l.prog w K mg b k fa fd [x] sp) :
    PySem.W.WalkO q loose XP YP l.row.toRowW d [] (fun f vs => PySem.call f vs) := by
  refine Att.attach_call hn hdf fun w s0 s1 mg mb fa o pm cd doc a vs ns G Y ho hd hcd hmg hobj hints hlen hg => ?_
  obtain ⟨K, fd, sp, KX, hb, hsp, hF⟩ := F w mg fa _ Y G.T.g hmg
  exact call_lawG KX G.T.g G.T.b G.T.builtins G.T.nolimit hg hobj hints (Nat.le_trans hlen hn2) hr hF hb fun H hO hS => hsp H a ns hlen hO hS
end U

set_option Elab.async false
set_option linter.all false
set_option maxRecDepth 100000
set_option maxHeartbeats 4000000
namespace G
open PySem PySem.Spec PyProof.Rows L2 U
open PySem.W (Frag)
def top (i : Nat) : Stmt := PySem.Challenge.pw_unnotedtables_k05_charts_changed.main.body.getD i (.Pass ⟨0, 0, 0, 0⟩)
abbrev R : PySem.W.OpenRow := PySem.W.OpenLaw.row PySem.Challenge.rw_unnotedtables_k05_charts_changed
abbrev FnP (K : Frag) (x : Str) (st : Stmt) (f : Addr) (fd : FuncData) : Prop := FunD K x x (defArgs st) (defBody st) (defScope st) [] [] f fd
abbrev s_is_integer : Stmt := top 32
abbrev N_is_integer : List Str := ["value", "low", "high"]
abbrev P_is_integer : List Str := ["value", "low", "high"]
theorem sc_is_integer : FnScope N_is_integer P_is_integer (defScope s_is_integer) := ⟨rfl, rfl, rfl, by decide +kernel, rfl, by decide +kernel, by decide +kernel⟩
abbrev s_is_tuple : Stmt := top 33
abbrev N_is_tuple : List Str := ["value", "many"]
abbrev P_is_tuple : List Str := ["value", "many"]
theorem sc_is_tuple : FnScope N_is_tuple P_is_tuple (defScope s_is_tuple) := ⟨rfl, rfl, rfl, by decide +kernel, rfl, by decide +kernel, by decide +kernel⟩
abbrev s_is_word : Stmt := top 34
abbrev N_is_word : List Str := ["value", "words"]
abbrev P_is_word : List Str := ["value", "words"]
theorem sc_is_word : FnScope N_is_word P_is_word (defScope s_is_word) := ⟨rfl, rfl, rfl, by decide +kernel, rfl, by decide +kernel, by decide +kernel⟩
abbrev s_is_day : Stmt := top 35
abbrev N_is_day : List Str := ["value"]
abbrev P_is_day : List Str := ["value"]
theorem sc_is_day : FnScope N_is_day P_is_day (defScope s_is_day) := ⟨rfl, rfl, rfl, by decide +kernel, rfl, by decide +kernel, by decide +kernel⟩
abbrev s_is_name : Stmt := top 36
abbrev N_is_name : List Str := ["word", "letter"]
abbrev P_is_name : List Str := ["word"]
theorem sc_is_name : FnScope N_is_name P_is_name (defScope s_is_name) := ⟨rfl, rfl, rfl, by decide +kernel, rfl, by decide +kernel, by decide +kernel⟩
abbrev s_integer_in : Stmt := top 37
abbrev N_integer_in : List Str := ["word", "figures", "figure"]
abbrev P_integer_in : List Str := ["word"]
theorem sc_integer_in : FnScope N_integer_in P_integer_in (defScope s_integer_in) := ⟨rfl, rfl, rfl, by decide +kernel, rfl, by decide +kernel, by decide +kernel⟩
abbrev s_is_table : Stmt := top 44
abbrev N_is_table : List Str := ["numbers", "factor", "shift", "step", "low", "high"]
abbrev P_is_table : List Str := ["numbers"]
theorem sc_is_table : FnScope N_is_table P_is_table (defScope s_is_table) := ⟨rfl, rfl, rfl, by decide +kernel, rfl, by decide +kernel, by decide +kernel⟩
abbrev s_stretch_by : Stmt := top 45
abbrev N_stretch_by : List Str := ["table", "print_here", "factor", "shift", "step", "low", "high", "ends"]
abbrev P_stretch_by : List Str := ["table", "print_here"]
theorem sc_stretch_by : FnScope N_stretch_by P_stretch_by (defScope s_stretch_by) := ⟨rfl, rfl, rfl, by decide +kernel, rfl, by decide +kernel, by decide +kernel⟩
abbrev s_do_turn_back : Stmt := top 46
abbrev N_do_turn_back : List Str := ["ends", "pairs", "one", "other"]
abbrev P_do_turn_back : List Str := ["ends"]
theorem sc_do_turn_back : FnScope N_do_turn_back P_do_turn_back (defScope s_do_turn_back) := ⟨rfl, rfl, rfl, by decide +kernel, rfl, by decide +kernel, by decide +kernel⟩
abbrev s_can_tell : Stmt := top 47
abbrev N_can_tell : List Str := ["tables", "print_here", "stretches", "table", "stretch", "at"]
abbrev P_can_tell : List Str := ["tables", "print_here"]
theorem sc_can_tell : FnScope N_can_tell P_can_tell (defScope s_can_tell) := ⟨rfl, rfl, rfl, by decide +kernel, rfl, by decide +kernel, by decide +kernel⟩
abbrev s_turned_table : Stmt := top 48
abbrev N_turned_table : List Str := ["table", "factor", "shift", "step", "low", "high"]
abbrev P_turned_table : List Str := ["table"]
theorem sc_turned_table : FnScope N_turned_table P_turned_table (defScope s_turned_table) := ⟨rfl, rfl, rfl, by decide +kernel, rfl, by decide +kernel, by decide +kernel⟩
abbrev s_turned_print : Stmt := top 49
abbrev N_turned_print : List Str := ["print_here"]
abbrev P_turned_print : List Str := ["print_here"]
theorem sc_turned_print : FnScope N_turned_print P_turned_print (defScope s_turned_print) := ⟨rfl, rfl, rfl, by decide +kernel, rfl, by decide +kernel, by decide +kernel⟩
abbrev s_other_word : Stmt := top 50
abbrev N_other_word : List Str := ["word"]
abbrev P_other_word : List Str := ["word"]
theorem sc_other_word : FnScope N_other_word P_other_word (defScope s_other_word) := ⟨rfl, rfl, rfl, by decide +kernel, rfl, by decide +kernel, by decide +kernel⟩
abbrev s_is_literal : Stmt := top 56
abbrev N_is_literal : List Str := ["chart", "value"]
abbrev P_is_literal : List Str := ["chart", "value"]
theorem sc_is_literal : FnScope N_is_literal P_is_literal (defScope s_is_literal) := ⟨rfl, rfl, rfl, by decide +kernel, rfl, by decide +kernel, by decide +kernel⟩
abbrev s_is_claim : Stmt := top 57
abbrev N_is_claim : List Str := ["chart", "value"]
abbrev P_is_claim : List Str := ["chart", "value"]
theorem sc_is_claim : FnScope N_is_claim P_is_claim (defScope s_is_claim) := ⟨rfl, rfl, rfl, by decide +kernel, rfl, by decide +kernel, by decide +kernel⟩
abbrev s_check_claim : Stmt := top 58
abbrev N_check_claim : List Str := ["chart", "value"]
abbrev P_check_claim : List Str := ["chart", "value"]
theorem sc_check_claim : FnScope N_check_claim P_check_claim (defScope s_check_claim) := ⟨rfl, rfl, rfl, by decide +kernel, rfl, by decide +kernel, by decide +kernel⟩
abbrev s_claim_in : Stmt := top 59
abbrev N_claim_in : List Str := ["chart", "words", "numbers", "word", "found"]
abbrev P_claim_in : List Str := ["chart", "words"]
theorem sc_claim_in : FnScope N_claim_in P_claim_in (defScope s_claim_in) := ⟨rfl, rfl, rfl, by decide +kernel, rfl, by decide +kernel, by decide +kernel⟩
abbrev s_person_of : Stmt := top 60
abbrev N_person_of : List Str := ["claim"]
abbrev P_person_of : List Str := ["claim"]
theorem sc_person_of : FnScope N_person_of P_person_of (defScope s_person_of) := ⟨rfl, rfl, rfl, by decide +kernel, rfl, by decide +kernel, by decide +kernel⟩
abbrev s_lab_of : Stmt := top 61
abbrev N_lab_of : List Str := ["claim"]
abbrev P_lab_of : List Str := ["claim"]
theorem sc_lab_of : FnScope N_lab_of P_lab_of (defScope s_lab_of) := ⟨rfl, rfl, rfl, by decide +kernel, rfl, by decide +kernel, by decide +kernel⟩
abbrev s_days_in : Stmt := top 62
abbrev N_days_in : List Str := ["claim"]
abbrev P_days_in : List Str := ["claim"]
theorem sc_days_in : FnScope N_days_in P_days_in (defScope s_days_in) := ⟨rfl, rfl, rfl, by decide +kernel, rfl, by decide +kernel, by decide +kernel⟩
abbrev s_turned_claim : Stmt := top 63
abbrev N_turned_claim : List Str := ["claim", "word", "person", "day", "other", "number"]
abbrev P_turned_claim : List Str := ["claim"]
theorem sc_turned_claim : FnScope N_turned_claim P_turned_claim (defScope s_turned_claim) := ⟨rfl, rfl, rfl, by decide +kernel, rfl, by decide +kernel, by decide +kernel⟩
abbrev s_back_claim : Stmt := top 64
abbrev N_back_claim : List Str := ["chart", "claim", "days", "day"]
abbrev P_back_claim : List Str := ["chart", "claim"]
theorem sc_back_claim : FnScope N_back_claim P_back_claim (defScope s_back_claim) := ⟨rfl, rfl, rfl, by decide +kernel, rfl, by decide +kernel, by decide +kernel⟩
abbrev s_person_in : Stmt := top 73
abbrev N_person_in : List Str := ["words", "rates", "word"]
abbrev P_person_in : List Str := ["words"]
theorem sc_person_in : FnScope N_person_in P_person_in (defScope s_person_in) := ⟨rfl, rfl, rfl, by decide +kernel, rfl, by decide +kernel, by decide +kernel⟩
abbrev s_lab_in : Stmt := top 74
abbrev N_lab_in : List Str := ["words", "numbers", "word", "found", "at", "table"]
abbrev P_lab_in : List Str := ["words"]
theorem sc_lab_in : FnScope N_lab_in P_lab_in (defScope s_lab_in) := ⟨rfl, rfl, rfl, by decide +kernel, rfl, by decide +kernel, by decide +kernel⟩
abbrev s_result_in : Stmt := top 75
abbrev N_result_in : List Str := ["people", "labs", "words", "person", "lab", "day", "print_here", "told"]
abbrev P_result_in : List Str := ["people", "labs", "words"]
theorem sc_result_in : FnScope N_result_in P_result_in (defScope s_result_in) := ⟨rfl, rfl, rfl, by decide +kernel, rfl, by decide +kernel, by decide +kernel⟩
abbrev s_read_people : Stmt := top 76
abbrev N_read_people : List Str := ["lines", "found", "number", "line", "words", "told"]
abbrev P_read_people : List Str := ["lines"]
theorem sc_read_people : FnScope N_read_people P_read_people (defScope s_read_people) := ⟨rfl, rfl, rfl, by decide +kernel, rfl, by decide +kernel, by decide +kernel⟩
abbrev s_read_labs : Stmt := top 77
abbrev N_read_labs : List Str := ["lines", "found", "number", "line", "words", "told"]
abbrev P_read_labs : List Str := ["lines"]
theorem sc_read_labs : FnScope N_read_labs P_read_labs (defScope s_read_labs) := ⟨rfl, rfl, rfl, by decide +kernel, rfl, by decide +kernel, by decide +kernel⟩
abbrev s_read_results : Stmt := top 78
abbrev N_read_results : List Str := ["people", "labs", "lines", "found", "number", "line", "words", "told"]
abbrev P_read_results : List Str := ["people", "labs", "lines"]
theorem sc_read_results : FnScope N_read_results P_read_results (defScope s_read_results) := ⟨rfl, rfl, rfl, by decide +kernel, rfl, by decide +kernel, by decide +kernel⟩
abbrev s_read_facts : Stmt := top 79
abbrev N_read_facts : List Str := ["ground", "lines", "found", "number", "line", "words", "claim"]
abbrev P_read_facts : List Str := ["ground", "lines"]
theorem sc_read_facts : FnScope N_read_facts P_read_facts (defScope s_read_facts) := ⟨rfl, rfl, rfl, by decide +kernel, rfl, by decide +kernel, by decide +kernel⟩
abbrev s_Ground_init : Stmt := inClass (top 80) 1
abbrev N_Ground_init : List Str := ["self", "people", "labs"]
abbrev P_Ground_init : List Str := ["self", "people", "labs"]
theorem sc_Ground_init : FnScope N_Ground_init P_Ground_init (defScope s_Ground_init) := ⟨rfl, rfl, rfl, by decide +kernel, rfl, by decide +kernel, by decide +kernel⟩
abbrev s_read_text : Stmt := top 81
abbrev N_read_text : List Str := ["text", "lines", "people", "at", "labs", "many", "rows", "facts"]
abbrev P_read_text : List Str := ["text"]
theorem sc_read_text : FnScope N_read_text P_read_text (defScope s_read_text) := ⟨rfl, rfl, rfl, by decide +kernel, rfl, by decide +kernel, by decide +kernel⟩
abbrev s_Chart_init : Stmt := inClass (top 82) 0
abbrev N_Chart_init : List Str := ["self", "text"]
abbrev P_Chart_init : List Str := ["self", "text"]
theorem sc_Chart_init : FnScope N_Chart_init P_Chart_init (defScope s_Chart_init) := ⟨rfl, rfl, rfl, by decide +kernel, rfl, by decide +kernel, by decide +kernel⟩
abbrev s_Chart_text : Stmt := inClass (top 82) 1
abbrev N_Chart_text : List Str := ["self"]
abbrev P_Chart_text : List Str := ["self"]
theorem sc_Chart_text : FnScope N_Chart_text P_Chart_text (defScope s_Chart_text) := ⟨rfl, rfl, rfl, by decide +kernel, rfl, by decide +kernel, by decide +kernel⟩
abbrev s_Chart_people : Stmt := inClass (top 82) 2
abbrev N_Chart_people : List Str := ["self"]
abbrev P_Chart_people : List Str := ["self"]
theorem sc_Chart_people : FnScope N_Chart_people P_Chart_people (defScope s_Chart_people) := ⟨rfl, rfl, rfl, by decide +kernel, rfl, by decide +kernel, by decide +kernel⟩
abbrev s_Chart_labs : Stmt := inClass (top 82) 3
abbrev N_Chart_labs : List Str := ["self"]
abbrev P_Chart_labs : List Str := ["self"]
theorem sc_Chart_labs : FnScope N_Chart_labs P_Chart_labs (defScope s_Chart_labs) := ⟨rfl, rfl, rfl, by decide +kernel, rfl, by decide +kernel, by decide +kernel⟩
abbrev s_Chart_results : Stmt := inClass (top 82) 4
abbrev N_Chart_results : List Str := ["self"]
abbrev P_Chart_results : List Str := ["self"]
theorem sc_Chart_results : FnScope N_Chart_results P_Chart_results (defScope s_Chart_results) := ⟨rfl, rfl, rfl, by decide +kernel, rfl, by decide +kernel, by decide +kernel⟩
abbrev s_Chart_facts : Stmt := inClass (top 82) 5
abbrev N_Chart_facts : List Str := ["self"]
abbrev P_Chart_facts : List Str := ["self"]
theorem sc_Chart_facts : FnScope N_Chart_facts P_Chart_facts (defScope s_Chart_facts) := ⟨rfl, rfl, rfl, by decide +kernel, rfl, by decide +kernel, by decide +kernel⟩
abbrev s_Chart_getitem : Stmt := inClass (top 82) 6
abbrev N_Chart_getitem : List Str := ["self", "result"]
abbrev P_Chart_getitem : List Str := ["self", "result"]
theorem sc_Chart_getitem : FnScope N_Chart_getitem P_Chart_getitem (defScope s_Chart_getitem) := ⟨rfl, rfl, rfl, by decide +kernel, rfl, by decide +kernel, by decide +kernel⟩
abbrev s_Chart_len : Stmt := inClass (top 82) 7
abbrev N_Chart_len : List Str := ["self"]
abbrev P_Chart_len : List Str := ["self"]
theorem sc_Chart_len : FnScope N_Chart_len P_Chart_len (defScope s_Chart_len) := ⟨rfl, rfl, rfl, by decide +kernel, rfl, by decide +kernel, by decide +kernel⟩
abbrev s_Chart_contains : Stmt := inClass (top 82) 8
abbrev N_Chart_contains : List Str := ["self", "value"]
abbrev P_Chart_contains : List Str := ["self", "value"]
theorem sc_Chart_contains : FnScope N_Chart_contains P_Chart_contains (defScope s_Chart_contains) := ⟨rfl, rfl, rfl, by decide +kernel, rfl, by decide +kernel, by decide +kernel⟩
abbrev s_Chart_iter : Stmt := inClass (top 82) 9
abbrev N_Chart_iter : List Str := ["self"]
abbrev P_Chart_iter : List Str := ["self"]
theorem sc_Chart_iter : FnScope N_Chart_iter P_Chart_iter (defScope s_Chart_iter) := ⟨rfl, rfl, rfl, by decide +kernel, rfl, by decide +kernel, by decide +kernel⟩
abbrev s_Chart_eq : Stmt := inClass (top 82) 10
abbrev N_Chart_eq : List Str := ["self", "other"]
abbrev P_Chart_eq : List Str := ["self", "other"]
theorem sc_Chart_eq : FnScope N_Chart_eq P_Chart_eq (defScope s_Chart_eq) := ⟨rfl, rfl, rfl, by decide +kernel, rfl, by decide +kernel, by decide +kernel⟩
abbrev s_Chart_rates : Stmt := inClass (top 82) 11
abbrev N_Chart_rates : List Str := ["self", "person"]
abbrev P_Chart_rates : List Str := ["self", "person"]
theorem sc_Chart_rates : FnScope N_Chart_rates P_Chart_rates (defScope s_Chart_rates) := ⟨rfl, rfl, rfl, by decide +kernel, rfl, by decide +kernel, by decide +kernel⟩
abbrev s_Chart_tables : Stmt := inClass (top 82) 12
abbrev N_Chart_tables : List Str := ["self", "lab"]
abbrev P_Chart_tables : List Str := ["self", "lab"]
theorem sc_Chart_tables : FnScope N_Chart_tables P_Chart_tables (defScope s_Chart_tables) := ⟨rfl, rfl, rfl, by decide +kernel, rfl, by decide +kernel, by decide +kernel⟩
abbrev s_Chart_days : Stmt := inClass (top 82) 13
abbrev N_Chart_days : List Str := ["self", "name"]
abbrev P_Chart_days : List Str := ["self", "name"]
theorem sc_Chart_days : FnScope N_Chart_days P_Chart_days (defScope s_Chart_days) := ⟨rfl, rfl, rfl, by decide +kernel, rfl, by decide +kernel, by decide +kernel⟩
abbrev s_Chart_put : Stmt := inClass (top 82) 14
abbrev N_Chart_put : List Str := ["self", "line", "words", "told"]
abbrev P_Chart_put : List Str := ["self", "line"]
theorem sc_Chart_put : FnScope N_Chart_put P_Chart_put (defScope s_Chart_put) := ⟨rfl, rfl, rfl, by decide +kernel, rfl, by decide +kernel, by decide +kernel⟩
abbrev s_Chart_without : Stmt := inClass (top 82) 15
abbrev N_Chart_without : List Str := ["self", "result", "rows", "name", "row"]
abbrev P_Chart_without : List Str := ["self", "result"]
theorem sc_Chart_without : FnScope N_Chart_without P_Chart_without (defScope s_Chart_without) := ⟨rfl, rfl, rfl, by decide +kernel, rfl, by decide +kernel, by decide +kernel⟩
abbrev s_Chart_told : Stmt := inClass (top 82) 16
abbrev N_Chart_told : List Str := ["self", "claim"]
abbrev P_Chart_told : List Str := ["self", "claim"]
theorem sc_Chart_told : FnScope N_Chart_told P_Chart_told (defScope s_Chart_told) := ⟨rfl, rfl, rfl, by decide +kernel, rfl, by decide +kernel, by decide +kernel⟩
abbrev s_Chart_untold : Stmt := inClass (top 82) 17
abbrev N_Chart_untold : List Str := ["self", "number", "facts"]
abbrev P_Chart_untold : List Str := ["self", "number"]
theorem sc_Chart_untold : FnScope N_Chart_untold P_Chart_untold (defScope s_Chart_untold) := ⟨rfl, rfl, rfl, by decide +kernel, rfl, by decide +kernel, by decide +kernel⟩
abbrev s_Chart_rated : Stmt := inClass (top 82) 18
abbrev N_Chart_rated : List Str := ["self", "person", "side", "rate", "up", "down", "rates"]
abbrev P_Chart_rated : List Str := ["self", "person", "side", "rate"]
theorem sc_Chart_rated : FnScope N_Chart_rated P_Chart_rated (defScope s_Chart_rated) := ⟨rfl, rfl, rfl, by decide +kernel, rfl, by decide +kernel, by decide +kernel⟩
abbrev s_Chart_invert : Stmt := inClass (top 82) 19
abbrev N_Chart_invert : List Str := ["self", "people", "name", "rates", "labs", "table", "lab", "tables", "rows", "row", "claim"]
abbrev P_Chart_invert : List Str := ["self"]
theorem sc_Chart_invert : FnScope N_Chart_invert P_Chart_invert (defScope s_Chart_invert) := ⟨rfl, rfl, rfl, by decide +kernel, rfl, by decide +kernel, by decide +kernel⟩
abbrev s_Chart_back : Stmt := inClass (top 82) 20
abbrev N_Chart_back : List Str := ["self", "people", "name", "rates", "labs", "lab", "tables", "rows", "person", "day", "print_here", "claim"]
abbrev P_Chart_back : List Str := ["self"]
theorem sc_Chart_back : FnScope N_Chart_back P_Chart_back (defScope s_Chart_back) := ⟨rfl, rfl, rfl, by decide +kernel, rfl, by decide +kernel, by decide +kernel⟩
abbrev s_text_of : Stmt := top 83
abbrev N_text_of : List Str := ["people", "labs", "rows", "facts", "lines", "name", "rates", "tables", "table", "number", "row", "claim", "word", "line"]
abbrev P_text_of : List Str := ["people", "labs", "rows", "facts"]
theorem sc_text_of : FnScope N_text_of P_text_of (defScope s_text_of) := ⟨rfl, rfl, rfl, by decide +kernel, rfl, by decide +kernel, by decide +kernel⟩
abbrev s_chart_of : Stmt := top 84
abbrev N_chart_of : List Str := ["people", "labs", "rows", "facts"]
abbrev P_chart_of : List Str := ["people", "labs", "rows", "facts"]
theorem sc_chart_of : FnScope N_chart_of P_chart_of (defScope s_chart_of) := ⟨rfl, rfl, rfl, by decide +kernel, rfl, by decide +kernel, by decide +kernel⟩
abbrev s_check_result : Stmt := top 85
abbrev N_check_result : List Str := ["chart", "value"]
abbrev P_check_result : List Str := ["chart", "value"]
theorem sc_check_result : FnScope N_check_result P_check_result (defScope s_check_result) := ⟨rfl, rfl, rfl, by decide +kernel, rfl, by decide +kernel, by decide +kernel⟩
abbrev s_check_person : Stmt := top 86
abbrev N_check_person : List Str := ["chart", "value"]
abbrev P_check_person : List Str := ["chart", "value"]
theorem sc_check_person : FnScope N_check_person P_check_person (defScope s_check_person) := ⟨rfl, rfl, rfl, by decide +kernel, rfl, by decide +kernel, by decide +kernel⟩
abbrev s_check_lab : Stmt := top 87
abbrev N_check_lab : List Str := ["chart", "value"]
abbrev P_check_lab : List Str := ["chart", "value"]
theorem sc_check_lab : FnScope N_check_lab P_check_lab (defScope s_check_lab) := ⟨rfl, rfl, rfl, by decide +kernel, rfl, by decide +kernel, by decide +kernel⟩
abbrev s_check_side : Stmt := top 88
abbrev N_check_side : List Str := ["value"]
abbrev P_check_side : List Str := ["value"]
theorem sc_check_side : FnScope N_check_side P_check_side (defScope s_check_side) := ⟨rfl, rfl, rfl, by decide +kernel, rfl, by decide +kernel, by decide +kernel⟩
abbrev s_person_days : Stmt := top 89
abbrev N_person_days : List Str := ["chart", "person", "claims", "found", "row", "claim"]
abbrev P_person_days : List Str := ["chart", "person", "claims"]
theorem sc_person_days : FnScope N_person_days P_person_days (defScope s_person_days) := ⟨rfl, rfl, rfl, by decide +kernel, rfl, by decide +kernel, by decide +kernel⟩
abbrev s_lab_days : Stmt := top 90
abbrev N_lab_days : List Str := ["chart", "lab", "claims", "found", "row", "claim"]
abbrev P_lab_days : List Str := ["chart", "lab", "claims"]
theorem sc_lab_days : FnScope N_lab_days P_lab_days (defScope s_lab_days) := ⟨rfl, rfl, rfl, by decide +kernel, rfl, by decide +kernel, by decide +kernel⟩
abbrev s_Lpot : Stmt := top 92
abbrev N_Lpot : List Str := ["_law_script", "_law_k", "_law_cell", "_law_own", "_law_small"]
abbrev P_Lpot : List Str := ["_law_script", "_law_k"]
theorem sc_Lpot : FnScope N_Lpot P_Lpot (defScope s_Lpot) := ⟨rfl, rfl, rfl, by decide +kernel, rfl, by decide +kernel, by decide +kernel⟩
abbrev s_Ltake : Stmt := top 93
abbrev N_Ltake : List Str := ["_law_pot_here", "_law_upto", "_law_digit", "_law_prime", "_law_mixed"]
abbrev P_Ltake : List Str := ["_law_pot_here", "_law_upto"]
theorem sc_Ltake : FnScope N_Ltake P_Ltake (defScope s_Ltake) := ⟨rfl, rfl, rfl, by decide +kernel, rfl, by decide +kernel, by decide +kernel⟩
abbrev s_Lof : Stmt := top 94
abbrev N_Lof : List Str := ["_law_pot_here", "_law_some_here"]
abbrev P_Lof : List Str := ["_law_pot_here", "_law_some_here"]
theorem sc_Lof : FnScope N_Lof P_Lof (defScope s_Lof) := ⟨rfl, rfl, rfl, by decide +kernel, rfl, by decide +kernel, by decide +kernel⟩
abbrev s_Lsome : Stmt := top 95
abbrev N_Lsome : List Str := ["_law_pot_here", "_law_pool", "_law_amount", "_law_spare", "_law_found", "_law_lap"]
abbrev P_Lsome : List Str := ["_law_pot_here", "_law_pool", "_law_amount"]
theorem sc_Lsome : FnScope N_Lsome P_Lsome (defScope s_Lsome) := ⟨rfl, rfl, rfl, by decide +kernel, rfl, by decide +kernel, by decide +kernel⟩
abbrev s_Lpots : Stmt := top 96
abbrev N_Lpots : List Str := ["_law_script", "_law_limit", "_law_k"]
abbrev P_Lpots : List Str := ["_law_script", "_law_limit"]
theorem sc_Lpots : FnScope N_Lpots P_Lpots (defScope s_Lpots) := ⟨rfl, rfl, rfl, by decide +kernel, rfl, by decide +kernel, by decide +kernel⟩
abbrev s_Lnames : Stmt := top 97
abbrev N_Lnames : List Str := ["_law_pot_here", "_law_amount", "_law_pool"]
abbrev P_Lnames : List Str := ["_law_pot_here", "_law_amount"]
theorem sc_Lnames : FnScope N_Lnames P_Lnames (defScope s_Lnames) := ⟨rfl, rfl, rfl, by decide +kernel, rfl, by decide +kernel, by decide +kernel⟩
abbrev s_Lprint_text : Stmt := top 98
abbrev N_Lprint_text : List Str := ["_law_shown_here"]
abbrev P_Lprint_text : List Str := ["_law_shown_here"]
theorem sc_Lprint_text : FnScope N_Lprint_text P_Lprint_text (defScope s_Lprint_text) := ⟨rfl, rfl, rfl, by decide +kernel, rfl, by decide +kernel, by decide +kernel⟩
abbrev s_Lclaim_text : Stmt := top 99
abbrev N_Lclaim_text : List Str := ["_law_claim", "_law_word"]
abbrev P_Lclaim_text : List Str := ["_law_claim"]
theorem sc_Lclaim_text : FnScope N_Lclaim_text P_Lclaim_text (defScope s_Lclaim_text) := ⟨rfl, rfl, rfl, by decide +kernel, rfl, by decide +kernel, by decide +kernel⟩
abbrev s_Ltable_text : Stmt := top 100
abbrev N_Ltable_text : List Str := ["_law_table_here", "_law_number"]
abbrev P_Ltable_text : List Str := ["_law_table_here"]
theorem sc_Ltable_text : FnScope N_Ltable_text P_Ltable_text (defScope s_Ltable_text) := ⟨rfl, rfl, rfl, by decide +kernel, rfl, by decide +kernel, by decide +kernel⟩
abbrev s_Ltext : Stmt := top 101
abbrev N_Ltext : List Str := ["_law_lore", "_law_rows", "_law_name", "_law_up", "_law_down", "_law_one", "_law_some_here", "_law_person", "_law_lab", "_law_day", "_law_shown_here", "_law_claim"]
abbrev P_Ltext : List Str := ["_law_lore"]
theorem sc_Ltext : FnScope N_Ltext P_Ltext (defScope s_Ltext) := ⟨rfl, rfl, rfl, by decide +kernel, rfl, by decide +kernel, by decide +kernel⟩
abbrev s_Lcalled : Stmt := top 102
abbrev N_Lcalled : List Str := ["_law_rows", "_law_row"]
abbrev P_Lcalled : List Str := ["_law_rows"]
theorem sc_Lcalled : FnScope N_Lcalled P_Lcalled (defScope s_Lcalled) := ⟨rfl, rfl, rfl, by decide +kernel, rfl, by decide +kernel, by decide +kernel⟩
abbrev s_Ltables_of : Stmt := top 103
abbrev N_Ltables_of : List Str := ["_law_lore", "_law_lab", "_law_name", "_law_some_here"]
abbrev P_Ltables_of : List Str := ["_law_lore", "_law_lab"]
theorem sc_Ltables_of : FnScope N_Ltables_of P_Ltables_of (defScope s_Ltables_of) := ⟨rfl, rfl, rfl, by decide +kernel, rfl, by decide +kernel, by decide +kernel⟩
abbrev s_Lends : Stmt := top 104
abbrev N_Lends : List Str := ["_law_table_here", "_law_shown_here", "_law_factor", "_law_shift", "_law_step", "_law_low", "_law_high"]
abbrev P_Lends : List Str := ["_law_table_here", "_law_shown_here"]
theorem sc_Lends : FnScope N_Lends P_Lends (defScope s_Lends) := ⟨rfl, rfl, rfl, by decide +kernel, rfl, by decide +kernel, by decide +kernel⟩
abbrev s_Lturns_back : Stmt := top 105
abbrev N_Lturns_back : List Str := ["_law_some_here", "_law_shown_here", "_law_side", "_law_row", "_law_table_here", "_law_pairs", "_law_x", "_law_y"]
abbrev P_Lturns_back : List Str := ["_law_some_here", "_law_shown_here"]
theorem sc_Lturns_back : FnScope N_Lturns_back P_Lturns_back (defScope s_Lturns_back) := ⟨rfl, rfl, rfl, by decide +kernel, rfl, by decide +kernel, by decide +kernel⟩
abbrev s_Lis_worth_so : Stmt := top 106
abbrev N_Lis_worth_so : List Str := ["_law_worths", "_law_claim"]
abbrev P_Lis_worth_so : List Str := ["_law_worths", "_law_claim"]
theorem sc_Lis_worth_so : FnScope N_Lis_worth_so P_Lis_worth_so (defScope s_Lis_worth_so) := ⟨rfl, rfl, rfl, by decide +kernel, rfl, by decide +kernel, by decide +kernel⟩
abbrev s_Ltable : Stmt := top 107
abbrev N_Ltable : List Str := ["_law_pot_here", "_law_factor", "_law_low"]
abbrev P_Ltable : List Str := ["_law_pot_here"]
theorem sc_Ltable : FnScope N_Ltable P_Ltable (defScope s_Ltable) := ⟨rfl, rfl, rfl, by decide +kernel, rfl, by decide +kernel, by decide +kernel⟩
abbrev s_Lshown : Stmt := top 108
abbrev N_Lshown : List Str := ["_law_pot_here", "_law_table_here", "_law_worth", "_law_factor", "_law_shift", "_law_step", "_law_low", "_law_high"]
abbrev P_Lshown : List Str := ["_law_pot_here", "_law_table_here", "_law_worth"]
theorem sc_Lshown : FnScope N_Lshown P_Lshown (defScope s_Lshown) := ⟨rfl, rfl, rfl, by decide +kernel, rfl, by decide +kernel, by decide +kernel⟩
abbrev s_Lhidden : Stmt := top 109
abbrev N_Lhidden : List Str := ["_law_pot_here", "_law_days", "_law_person", "_law_name", "_law_up", "_law_down", "_law_found", "_law_lap"]
abbrev P_Lhidden : List Str := ["_law_pot_here", "_law_days", "_law_person"]
theorem sc_Lhidden : FnScope N_Lhidden P_Lhidden (defScope s_Lhidden) := ⟨rfl, rfl, rfl, by decide +kernel, rfl, by decide +kernel, by decide +kernel⟩
abbrev s_La_claim : Stmt := top 110
abbrev N_La_claim : List Str := ["_law_pot_here", "_law_lore", "_law_days", "_law_word", "_law_day", "_law_labs", "_law_lab", "_law_some_here", "_law_person"]
abbrev P_La_claim : List Str := ["_law_pot_here", "_law_lore", "_law_days"]
theorem sc_La_claim : FnScope N_La_claim P_La_claim (defScope s_La_claim) := ⟨rfl, rfl, rfl, by decide +kernel, rfl, by decide +kernel, by decide +kernel⟩
abbrev s_Lis_true : Stmt := top 111
abbrev N_Lis_true : List Str := ["_law_lore", "_law_tables", "_law_worths", "_law_claim", "_law_mine"]
abbrev P_Lis_true : List Str := ["_law_lore", "_law_tables", "_law_worths", "_law_claim"]
theorem sc_Lis_true : FnScope N_Lis_true P_Lis_true (defScope s_Lis_true) := ⟨rfl, rfl, rfl, by decide +kernel, rfl, by decide +kernel, by decide +kernel⟩
abbrev s_Lchart : Stmt := top 112
abbrev N_Lchart : List Str := ["_law_pot_here", "_law_sizes", "_law_is_kept", "_law_names_here", "_law_people", "_law_name", "_law_labs", "_law_lap", "_law_lore", "_law_days", "_law_worths", "_law_person", "_law_tables", "_law_lab", "_law_some_here", "_law_spot", "_law_day", "_law_fresh", "_law_shown_here", "_law_claim"]
abbrev P_Lchart : List Str := ["_law_pot_here", "_law_sizes", "_law_is_kept"]
theorem sc_Lchart : FnScope N_Lchart P_Lchart (defScope s_Lchart) := ⟨rfl, rfl, rfl, by decide +kernel, rfl, by decide +kernel, by decide +kernel⟩
abbrev s_Lis_made : Stmt := top 113
abbrev N_Lis_made : List Str := ["_law_chart_here", "_law_lore"]
abbrev P_Lis_made : List Str := ["_law_chart_here", "_law_lore"]
theorem sc_Lis_made : FnScope N_Lis_made P_Lis_made (defScope s_Lis_made) := ⟨rfl, rfl, rfl, by decide +kernel, rfl, by decide +kernel, by decide +kernel⟩
abbrev s_Lwith : Stmt := top 114
abbrev N_Lwith : List Str := ["_law_lore", "_law_word", "_law_rows"]
abbrev P_Lwith : List Str := ["_law_lore", "_law_word", "_law_rows"]
theorem sc_Lwith : FnScope N_Lwith P_Lwith (defScope s_Lwith) := ⟨rfl, rfl, rfl, by decide +kernel, rfl, by decide +kernel, by decide +kernel⟩
abbrev s_Lright : Stmt := top 115
abbrev N_Lright : List Str := ["_law_pot_here", "_law_lore", "_law_chart_here", "_law_spot", "_law_row", "_law_rest", "_law_lap", "_law_claim", "_law_name", "_law_up", "_law_down", "_law_rate", "_law_side", "_law_fresh", "_law_people", "_law_lab", "_law_some_here", "_law_line", "_law_word"]
abbrev P_Lright : List Str := ["_law_pot_here"]
theorem sc_Lright : FnScope N_Lright P_Lright (defScope s_Lright) := ⟨rfl, rfl, rfl, by decide +kernel, rfl, by decide +kernel, by decide +kernel⟩
abbrev s_law : Stmt := top 116
abbrev N_law : List Str := ["_law_script", "_law_pot_here", "_law_lap"]
abbrev P_law : List Str := ["_law_script"]
theorem sc_law : FnScope N_law P_law (defScope s_law) := ⟨rfl, rfl, rfl, by decide +kernel, rfl, by decide +kernel, by decide +kernel⟩
end G

set_option Elab.async false
set_option linter.all false
set_option maxRecDepth 100000
set_option maxHeartbeats 4000000
namespace U
open PySem PySem.Spec PyProof.Rows L2
open PySem.W (Frag)
/-! ### a def by its name and its promise -/
structure Has (P : Program) (w : World) (K : Frag) (mg : Str → Option Value) (base : Heap) (k : Nat) (x : Str) (ps : List Str) (dvs : List V) (sp : Sp) : Prop where
  fn : ∃ (fd : FuncData) (ds : List Value), FnOk P w K mg base CX0 k (He.ga K x) fd ps sp ∧ PySem.W.keepIn K (.ref (He.ga K x)) = true ∧ Vals dvs ds ∧ Binds K fd ps ds
  g : mg x = some (.ref (He.ga K x))
section
variable {X : Cx}
theorem pe_has {k : Nat} {x : Str} {ps : List Str} {dvs : List V} {sp : Sp} {p pos : Pos} {e : Expr} {es : List Expr} {t : TA} (h : Has X.prog X.w X.K X.mg X.base k x ps dvs sp) (hr : Room k X.A) (ha : PA X (e :: es) t) (hg : Gl X x := by rfl)
    (hdb : (x == ("__debug__" : Str)) = false := by decide) (he : starEach (e :: es) X.env = (false, eval e X.env) :: starEach es X.env := by rfl) (hpl : (backTo pos (starEach es X.env)).any (·.1) = false := by rfl) : PE X (.Call (.Name x p) (e :: es) [] pos) (tCall sp dvs E0 t) := by
  obtain ⟨fd, ds, h1, h2, h3, h4⟩ := h.fn
  exact pe_call h1 hr hg h.g h2 h4 h3 pass0 ha hdb he hpl
theorem Has.mono {P : Program} {w : World} {K : Frag} {mg : Str → Option Value} {base : Heap} {j k : Nat} {x : Str} {ps : List Str} {dvs : List V} {sp : Sp} (h : Has P w K mg base j x ps dvs sp) (hk : j ≤ k) : Has P w K mg base k x ps dvs sp := by
  obtain ⟨fd, ds, h1, h2⟩ := h.fn
  exact ⟨⟨fd, ds, h1.mono hk, h2⟩, h.g⟩
/-! ### constants of the module -/
def CS (mg : Str → Option Value) (x z : Str) : Prop := ∃ t, mg x = some (.str z t)
def CI (mg : Str → Option Value) (x : Str) (i : Int) : Prop := ∃ t, mg x = some (.int i t)
theorem pe_cs {x z : Str} {pos : Pos} (h : CS X.mg x z) (hg : Gl X x := by rfl) (hd : (x == ("__debug__" : Str)) = false := by decide) : PE X (.Name x pos) (tC (.str z)) := by
  obtain ⟨t, h⟩ := h
  exact pe_glob hg h ⟨t, rfl⟩ hd
theorem pe_ci {x : Str} {i : Int} {pos : Pos} (h : CI X.mg x i) (hg : Gl X x := by rfl) (hd : (x == ("__debug__" : Str)) = false := by decide) : PE X (.Name x pos) (tC (.int i)) := by
  obtain ⟨t, h⟩ := h
  exact pe_glob hg h ⟨t, rfl⟩ hd
/-! ### isinstance of data -/
def tyD : PyData → String
  | .none => "NoneType"
  | .bool _ => "bool"
  | .int _ => "int"
  | .str _ => "str"
  | .list _ => "list"
  | .tuple _ => "tuple"
  | .dict _ => "dict"
theorem Dq.ty {K : Frag} {F : Addr → Prop} {H : Hp} {v : V} {d : PyData} (h : Dq F H v d) : TyX K H v (.type (tyD d)) := by
  cases h with
  | non => exact .base .non
  | bl b => exact .base (.bl b)
  | int i => exact .base (.int i)
  | str x => exact .base (.str x)
  | lst _ e _ => exact .base (.lst e)
  | tup _ e _ => exact .base (.tup e)
  | dk _ e _ => exact .base (.dK e)
def rIsiD : List V → Hp → VK → Prop := fun xs H Q => ∃ (F : Addr → Prop) (x : V) (d : PyData) (T : String) (b : Bool), xs = [x, .ty T] ∧ Dq F H x d ∧ kitB (tyD d) T = some b ∧ Q (.bl b) H
theorem call_isiD : CallR X (.builtin "isinstance") rIsiD := by
  intro pins s σ H xs us Q I r h
  obtain ⟨F, x, d, T, b, rfl, hd, hk, q⟩ := h
  exact call_isi pins s σ H _ us Q I r ⟨x, .ty T, _, _, b, rfl, .ty T, hd.ty, kit_ty hk, q⟩
/-! ### comparisons of two kinds -/
theorem PC.or {op : CmpOp} {a b : Expr} {t u : TE} (h1 : PC X op a b t) (h2 : PC X op a b u) : PC X op a b (fun σ H Q => t σ H Q ∨ u σ H Q) :=
  ⟨fun pins s σ H Q I h => h.elim (fun h => h1.run pins s σ H Q I h) fun h => h2.run pins s σ H Q I h⟩
theorem pc_op {op : CmpOp} {a b : Expr} {ta tb : TE} {r : R2} (ho : OpR X (compareOp op) r) (ha : PE X a ta) (hb : PE X b tb) : PC X op a b (tOp r ta tb) :=
  ⟨fun pins s σ H Q I h => thn (ha.run pins s σ H _ I h) fun v s1 ⟨x, H1, I1, r1, q1⟩ => thn (hb.run pins s1 σ H1 _ I1 q1) fun u s2 ⟨y, H2, I2, r2, q2⟩ => ho pins s2 σ H2 x y v u Q I2 r1 r2 q2⟩
end
/-- what a pure def hands back: new data, the heap grown -/
def Ret (H : Hp) (d : PyData) (Q : VK) : Prop := ∀ v H', Same H H' → Dq (fun a => H a = none) H' v d → Q v H'
/-- a plain value, the heap grown -/
def RetS (H : Hp) (v : V) (Q : VK) : Prop := ∀ H', Same H H' → Q v H'
abbrev Da (H : Hp) (v : V) (d : PyData) : Prop := Dq (fun _ => True) H v d
theorem Dq.da {F : Addr → Prop} {H : Hp} {v : V} {d : PyData} (h : Dq F H v d) : Da H v d := h.move (fun _ _ => True.intro) fun _ _ _ e => e
theorem Dq.same {F : Addr → Prop} {H H' : Hp} {v : V} {d : PyData} (h : Dq F H v d) (s : Same H H') : Dq F H' v d := h.move (fun _ f => f) fun b o _ e => s b o e
end U

set_option Elab.async false
set_option linter.all false
set_option maxRecDepth 100000
set_option maxHeartbeats 4000000
namespace G
open PySem PySem.Spec PyProof.Rows L2 U
open PySem.W (Frag)
abbrev Fn (K : Frag) (mg : Str → Option Value) (x : Str) (st : Stmt) : Prop := (∃ fd, FnP K x st (He.ga K x) fd) ∧ mg x = some (.ref (He.ga K x))
abbrev Fn2 (K : Frag) (mg : Str → Option Value) (x : Str) (st : Stmt) : Prop := (∃ fd, FunD K x x (defArgs st) (defBody st) (defScope st) [.non, .non] [] (He.ga K x) fd) ∧ mg x = some (.ref (He.ga K x))
section
variable {P : Program} {w : World} {K : Frag} {mg : Str → Option Value} {base : Heap}
/-! ### is_integer -/
def loB (lo : Option Int) (i : Int) : Bool := match lo with
  | none => true
  | some l => decide (l ≤ i)
def hiB (hi : Option Int) (i : Int) : Bool := match hi with
  | none => true
  | some h => decide (i ≤ h)
def isIntD (d : PyData) (lo hi : Option Int) : Bool := match d with
  | .int i => loB lo i && hiB hi i
  | _ => false
def oI : Option Int → V
  | none => .non
  | some i => .int i
def sp_is_integer : Sp := fun vs H Q _ => ∃ (F : Addr → Prop) (v : V) (d : PyData) (lo hi : Option Int), vs = [v, oI lo, oI hi] ∧ Dq F H v d ∧ Q (.bl (isIntD d lo hi)) H
theorem kit_int (d : PyData) : ∃ b, kitB (tyD d) "int" = some b ∧ (b = false → ∀ lo hi, isIntD d lo hi = false) ∧ (b = true → (∃ i, d = .int i) ∨ ∃ c, d = .bool c) := by
  cases d with
  | int i => exact ⟨true, (show kitB "int" "int" = some true by decide +kernel), (fun z => Bool.noConfusion z), fun _ => Or.inl ⟨i, rfl⟩⟩
  | bool b => exact ⟨true, (show kitB "bool" "int" = some true by decide +kernel), (fun z => Bool.noConfusion z), fun _ => Or.inr ⟨b, rfl⟩⟩
  | none => exact ⟨false, (show kitB "NoneType" "int" = some false by decide +kernel), fun _ _ _ => rfl, fun z => Bool.noConfusion z⟩
  | str x => exact ⟨false, (show kitB "str" "int" = some false by decide +kernel), fun _ _ _ => rfl, fun z => Bool.noConfusion z⟩
  | list x => exact ⟨false, (show kitB "list" "int" = some false by decide +kernel), fun _ _ _ => rfl, fun z => Bool.noConfusion z⟩
  | tuple x => exact ⟨false, (show kitB "tuple" "int" = some false by decide +kernel), fun _ _ _ => rfl, fun z => Bool.noConfusion z⟩
  | dict x => exact ⟨false, (show kitB "dict" "int" = some false by decide +kernel), fun _ _ _ => rfl, fun z => Bool.noConfusion z⟩
theorem ok_is_integer {f : Addr} {fd : FuncData} (F : FunD K "is_integer" "is_integer" (defArgs s_is_integer) (defBody s_is_integer) (defScope s_is_integer) [.non, .non] [] f fd) (gI : mg "isinstance" = none) (gi : mg "int" = none) (gb : mg "bool" = none) : FnOk P w K mg base CX0 1 f fd P_is_integer sp_is_integer := by
  refine F.ok sc_is_integer (fun vs H Q E h => ?_) (fun cdv A outer s H vs Q E hr h => ?_)
  · obtain ⟨F, v, d, lo, hi, rfl, _⟩ := h
    rfl
  · obtain ⟨F, v, d, lo, hi, rfl, hd, hq⟩ := h
    refine ⟨_, PSs.nox (pss_cons (ps_if (PW.pt (pw_or (pt_not (pt_val (pe_callB call_isiD (by rfl) gI (by decide +kernel) (pa_cons (pv 0) (pa_cons (pe_bltn (by rfl) gi (v := .ty "int") PyProof.Rows.boot_int rfl) pa_nil)))))
        (pw_or1 (pt_val (pe_callB call_isiD (by rfl) gI (by decide +kernel) (pa_cons (pv 0) (pa_cons (pe_bltn (by rfl) gb (v := .ty "bool") (u := .type "bool") (by decide +kernel) rfl) pa_nil))))))) (pss_one (ps_ret pe_bl)) pss_nil)
      (pss_one (ps_ret (pe_and (pe_or (pe_cmp (pc_isN (pv 1)) rfl) (pe_one (pe_cmp (pc_le (pv 1) (pv 0)) rfl))) (pe_one (pe_or (pe_cmp (pc_isN (pv 2)) rfl) (pe_one (pe_cmp (pc_le (pv 0) (pv 2)) rfl)))))))), ?_⟩
    obtain ⟨b, hb, hn, hy⟩ := kit_int d
    refine ⟨_, rfl, F, v, d, "int", b, rfl, hd, hb, b, rfl, ?_⟩
    cases b with
    | false =>
      refine iteT ?_
      refine iteT ?_
      show Q (.bl false) H
      rw [← hn rfl lo hi]
      exact hq
    | true =>
      refine iteF ?_
      rcases hy rfl with ⟨i, rfl⟩ | ⟨c, rfl⟩
      · cases hd
        refine ⟨_, rfl, F, .int i, .int i, "bool", false, rfl, .int i, (show kitB "int" "bool" = some false by decide +kernel), false, rfl, ?_⟩
        refine iteF ?_
        have second : ∀ r1 : Bool, r1 = loB lo i → (if r1 = true then tOrV (tIsN (tVar 2)) (tLe (tVar 0) (tVar 2)) (L2.start N_is_integer [V.int i, oI lo, oI hi]) H Q else Q (.bl false) H) := by
          intro r1 e1
          cases r1 with
          | false =>
            refine iteF ?_
            have e : isIntD (.int i) lo hi = false := by
              show (loB lo i && hiB hi i) = _
              rw [← e1]
              rfl
            rw [e] at hq
            exact hq
          | true =>
            refine iteT ?_
            have e : isIntD (.int i) lo hi = hiB hi i := by
              show (loB lo i && hiB hi i) = _
              rw [← e1]
              rfl
            rw [e] at hq
            cases hi with
            | none =>
              refine ⟨.non, rfl, _, rfl, ?_⟩
              rw [if_pos (by decide)]
              exact hq
            | some h =>
              refine ⟨.int h, rfl, _, rfl, ?_⟩
              rw [if_neg (by simp)]
              exact ⟨_, rfl, _, rfl, _, _, rfl, rfl, hq⟩
        cases lo with
        | none =>
          refine ⟨.non, rfl, _, rfl, ?_⟩
          rw [if_pos (by decide)]
          exact ⟨_, rfl, second true rfl⟩
        | some l =>
          refine ⟨.int l, rfl, _, rfl, ?_⟩
          rw [if_neg (by simp)]
          exact ⟨_, rfl, _, rfl, _, _, rfl, rfl, _, rfl, second _ rfl⟩
      · cases hd
        refine ⟨_, rfl, F, .bl c, .bool c, "bool", true, rfl, .bl c, (show kitB "bool" "bool" = some true by decide +kernel), true, rfl, ?_⟩
        refine iteT ?_
        exact hq
end
end G

set_option Elab.async false
set_option linter.all false
set_option maxRecDepth 100000
set_option maxHeartbeats 4000000
namespace G
open PySem PySem.Spec PyProof.Rows L2 U
open PySem.W (Frag)
section
variable {P : Program} {w : World} {K : Frag} {mg : Str → Option Value} {base : Heap}
theorem has_is_integer (F : Fn2 K mg "is_integer" s_is_integer) (gI : mg "isinstance" = none) (gi : mg "int" = none) (gb : mg "bool" = none) : Has P w K mg base 1 "is_integer" P_is_integer [] sp_is_integer ∧ Has P w K mg base 1 "is_integer" P_is_integer [.non, .non] sp_is_integer := by
  obtain ⟨⟨fd, F⟩, g⟩ := F
  obtain ⟨ds, v1, b1⟩ := F.binds1 (ps := P_is_integer) 3 2 (by simp) rfl fun T kV doc pm an cdv ct us its h1 h2 => match us, h1, its, h2 with | [_, _, _], _, [_, _], _ => ⟨_, rfl, rfl⟩
  obtain ⟨ds2, v2, b2⟩ := F.binds1 (ps := P_is_integer) 1 0 (by simp) rfl fun T kV doc pm an cdv ct us its h1 h2 => match us, h1, its, h2 with | [_], _, [_, _], _ => ⟨_, rfl, rfl⟩
  exact ⟨⟨⟨fd, ds, ok_is_integer F gI gi gb, F.kp, v1, b1⟩, g⟩, ⟨⟨fd, ds2, ok_is_integer F gI gi gb, F.kp, v2, b2⟩, g⟩⟩
/-! ### is_day -/
def isDayD (d : PyData) : Bool := isIntD d (some 0) (some 99)
def sp_is_day : Sp := fun vs H Q _ => ∃ (F : Addr → Prop) (v : V) (d : PyData), vs = [v] ∧ Dq F H v d ∧ Q (.bl (isDayD d)) H
theorem has_is_day (F : Fn K mg "is_day" s_is_day) (h : Has P w K mg base 1 "is_integer" P_is_integer [] sp_is_integer) (c : CI mg "LAST_DAY" 99) : Has P w K mg base 2 "is_day" P_is_day [] sp_is_day := by
  obtain ⟨⟨fd, F⟩, g⟩ := F
  refine ⟨⟨fd, [], ?_, F.kp, .nil, F.bindsN fun _ _ _ _ _ _ us hl => match us, hl with | [_], _ => rfl⟩, g⟩
  refine F.ok sc_is_day (fun vs H Q E h => ?_) (fun cdv A outer s H vs Q E hr h' => ?_)
  · obtain ⟨F, v, d, rfl, _⟩ := h
    rfl
  · obtain ⟨F, v, d, rfl, hd, hq⟩ := h'
    refine ⟨_, PSs.nox (pss_one (ps_ret (pe_has h hr (pa_cons (pv 0) (pa_cons pe_int (pa_cons (pe_ci c) pa_nil)))))), ?_⟩
    exact ⟨_, rfl, F, v, d, some 0, some 99, rfl, hd, hq⟩
/-! ### is_tuple -/
def isTupD (d : PyData) (n : Int) : Bool := match d with
  | .tuple ds => decide ((ds.length : Int) = n)
  | _ => false
def sp_is_tuple : Sp := fun vs H Q _ => ∃ (F : Addr → Prop) (v : V) (d : PyData) (n : Int), vs = [v, .int n] ∧ Dq F H v d ∧ Q (.bl (isTupD d n)) H
theorem kit_tup (d : PyData) : ∃ b, kitB (tyD d) "tuple" = some b ∧ (b = false → ∀ n, isTupD d n = false) ∧ (b = true → ∃ ds, d = .tuple ds) := by
  cases d with
  | tuple x => exact ⟨true, (show kitB "tuple" "tuple" = some true by decide +kernel), (fun z => Bool.noConfusion z), fun _ => ⟨x, rfl⟩⟩
  | int i => exact ⟨false, (show kitB "int" "tuple" = some false by decide +kernel), fun _ _ => rfl, fun z => Bool.noConfusion z⟩
  | bool b => exact ⟨false, (show kitB "bool" "tuple" = some false by decide +kernel), fun _ _ => rfl, fun z => Bool.noConfusion z⟩
  | none => exact ⟨false, (show kitB "NoneType" "tuple" = some false by decide +kernel), fun _ _ => rfl, fun z => Bool.noConfusion z⟩
  | str x => exact ⟨false, (show kitB "str" "tuple" = some false by decide +kernel), fun _ _ => rfl, fun z => Bool.noConfusion z⟩
  | list x => exact ⟨false, (show kitB "list" "tuple" = some false by decide +kernel), fun _ _ => rfl, fun z => Bool.noConfusion z⟩
  | dict x => exact ⟨false, (show kitB "dict" "tuple" = some false by decide +kernel), fun _ _ => rfl, fun z => Bool.noConfusion z⟩
theorem dec_int {i j : Int} : decide (V.int i = V.int j) = decide (i = j) := by
  by_cases h : i = j
  · rw [decide_eq_true h, decide_eq_true (by rw [h])]
  · rw [decide_eq_false h, decide_eq_false fun z => h (V.int.inj z)]
theorem dec_str {i j : Str} : decide (V.str i = V.str j) = decide (i = j) := by
  by_cases h : i = j
  · rw [decide_eq_true h, decide_eq_true (by rw [h])]
  · rw [decide_eq_false h, decide_eq_false fun z => h (V.str.inj z)]
theorem has_is_tuple (F : Fn K mg "is_tuple" s_is_tuple) (gI : mg "isinstance" = none) (gt : mg "tuple" = none) (gL : mg "len" = none) : Has P w K mg base 1 "is_tuple" P_is_tuple [] sp_is_tuple := by
  obtain ⟨⟨fd, F⟩, g⟩ := F
  refine ⟨⟨fd, [], ?_, F.kp, .nil, F.bindsN fun _ _ _ _ _ _ us hl => match us, hl with | [_, _], _ => rfl⟩, g⟩
  refine F.ok sc_is_tuple (fun vs H Q E h => ?_) (fun cdv A outer s H vs Q E hr h' => ?_)
  · obtain ⟨F, v, d, n, rfl, _⟩ := h
    rfl
  · obtain ⟨F, v, d, n, rfl, hd, hq⟩ := h'
    refine ⟨_, PSs.nox (pss_one (ps_ret (pe_and (pe_callB call_isiD (by rfl) gI (by decide +kernel) (pa_cons (pv 0) (pa_cons (pe_bltn (by rfl) gt (v := .ty "tuple") (u := .type "tuple") (by decide +kernel) rfl) pa_nil)))
      (pe_one (pe_cmpR op_eq (pe_callB call_len_seq (by rfl) gL PySem.boot_len (pa_cons (pv 0) pa_nil)) (pv 1) (nomark _)))))), ?_⟩
    obtain ⟨b, hb, hn, hy⟩ := kit_tup d
    refine ⟨_, rfl, F, v, d, "tuple", b, rfl, hd, hb, b, rfl, ?_⟩
    cases b with
    | false =>
      refine iteF ?_
      rw [← hn rfl n]
      exact hq
    | true =>
      refine iteT ?_
      obtain ⟨ds, rfl⟩ := hy rfl
      cases hd with
      | @tup a xs _ f e all =>
        refine ⟨_, rfl, a, xs, rfl, .inr (.inl (.inl e)), _, rfl, rfl, ?_⟩
        have z : isTupD (.tuple ds) n = decide (V.int (xs.length : Int) = V.int n) := by
          show decide ((ds.length : Int) = n) = _
          rw [dec_int, all.len]
        rw [z] at hq
        exact hq
/-! ### is_word -/
def WordsAt (K : Frag) (H : Hp) (a : Addr) (ws : List Str) : Prop := SqT K H a (ws.map V.str) ∨ ∃ kvs : List (Key × V), H a = some (.dK kvs) ∧ kvs.map (·.1) = ws.map Sum.inr
def isWordD (d : PyData) (ws : List Str) : Bool := match d with
  | .str s => decide (s ∈ ws)
  | _ => false
def sp_is_word (K : Frag) : Sp := fun vs H Q _ => ∃ (F : Addr → Prop) (v : V) (d : PyData) (a : Addr) (ws : List Str), vs = [v, .ref a] ∧ Dq F H v d ∧ WordsAt K H a ws ∧ Q (.bl (isWordD d ws)) H
theorem kit_str (d : PyData) : ∃ b, kitB (tyD d) "str" = some b ∧ (b = false → ∀ ws, isWordD d ws = false) ∧ (b = true → ∃ s, d = .str s) := by
  cases d with
  | str x => exact ⟨true, (show kitB "str" "str" = some true by decide +kernel), (fun z => Bool.noConfusion z), fun _ => ⟨x, rfl⟩⟩
  | int i => exact ⟨false, (show kitB "int" "str" = some false by decide +kernel), fun _ _ => rfl, fun z => Bool.noConfusion z⟩
  | bool b => exact ⟨false, (show kitB "bool" "str" = some false by decide +kernel), fun _ _ => rfl, fun z => Bool.noConfusion z⟩
  | none => exact ⟨false, (show kitB "NoneType" "str" = some false by decide +kernel), fun _ _ => rfl, fun z => Bool.noConfusion z⟩
  | tuple x => exact ⟨false, (show kitB "tuple" "str" = some false by decide +kernel), fun _ _ => rfl, fun z => Bool.noConfusion z⟩
  | list x => exact ⟨false, (show kitB "list" "str" = some false by decide +kernel), fun _ _ => rfl, fun z => Bool.noConfusion z⟩
  | dict x => exact ⟨false, (show kitB "dict" "str" = some false by decide +kernel), fun _ _ => rfl, fun z => Bool.noConfusion z⟩
theorem inV_strs (s : Str) : ∀ ws : List Str, inV (.str s) (ws.map V.str) = decide (s ∈ ws)
  | [] => rfl
  | x :: ws => by
    show (eqV (.str x) (.str s) || inV (.str s) (ws.map V.str)) = _
    rw [inV_strs s ws]
    show ((x == s) || decide (s ∈ ws)) = _
    by_cases h : x = s
    · subst h
      simp
    · have h' : ¬ s = x := fun z => h z.symm
      simp [h, h']
theorem flat_strs (ws : List Str) : (ws.map V.str).all flatV = true := by
  rw [List.all_eq_true]
  intro v hv
  obtain ⟨x, _, rfl⟩ := List.mem_map.mp hv
  rfl
theorem valV_some : ∀ {kvs : List (Key × V)} {ws : List Str} (h : kvs.map (·.1) = ws.map Sum.inr) (s : Str), (valV kvs (Sum.inr s)).isSome = decide (s ∈ ws)
  | [], [], _, s => rfl
  | [], _ :: _, h, s => by simp at h
  | _ :: _, [], h, s => by simp at h
  | (k, v) :: kvs, x :: ws, h, s => by
    rw [List.map_cons, List.map_cons] at h
    obtain ⟨h1, h2⟩ := List.cons.inj h
    have h1 : k = Sum.inr x := h1
    subst h1
    have ih := valV_some h2 s
    unfold valV at ih ⊢
    by_cases e : x = s
    · subst e
      simp
    · have e1 : ¬ (Sum.inr x : Key) = Sum.inr s := fun z => e (Sum.inr.inj z)
      have e2 : ¬ s = x := fun z => e z.symm
      rw [List.find?_cons]
      rw [decide_eq_false e1]
      simp only [List.mem_cons, e2, false_or]
      exact ih
theorem has_is_word (F : Fn K mg "is_word" s_is_word) (gI : mg "isinstance" = none) (gt : mg "str" = none) : Has P w K mg base 1 "is_word" P_is_word [] (sp_is_word K) := by
  obtain ⟨⟨fd, F⟩, g⟩ := F
  refine ⟨⟨fd, [], ?_, F.kp, .nil, F.bindsN fun _ _ _ _ _ _ us hl => match us, hl with | [_, _], _ => rfl⟩, g⟩
  refine F.ok sc_is_word (fun vs H Q E h => ?_) (fun cdv A outer s H vs Q E hr h' => ?_)
  · obtain ⟨F, v, d, a, ws, rfl, _⟩ := h
    rfl
  · obtain ⟨F, v, d, a, ws, rfl, hd, hw, hq⟩ := h'
    refine ⟨_, PSs.nox (pss_one (ps_ret (pe_and (pe_callB call_isiD (by rfl) gI (by decide +kernel) (pa_cons (pv 0) (pa_cons (pe_bltn (by rfl) gt (v := .ty "str") (u := .type "str") (by decide +kernel) rfl) pa_nil)))
      (pe_one (pe_cmp (PC.or (pc_op op_in_seq (pv 0) (pv 1)) (pc_din (hu_of hr) (pv 0) (pv 1))) rfl))))), ?_⟩
    obtain ⟨b, hb, hn, hy⟩ := kit_str d
    refine ⟨_, rfl, F, v, d, "str", b, rfl, hd, hb, b, rfl, ?_⟩
    cases b with
    | false =>
      refine iteF ?_
      rw [← hn rfl ws]
      exact hq
    | true =>
      refine iteT ?_
      obtain ⟨x, rfl⟩ := hy rfl
      cases hd
      rcases hw with hw | ⟨kvs, ha, hk⟩
      · refine Or.inl ⟨_, rfl, _, rfl, a, _, rfl, .inr hw, rfl, flat_strs ws, ?_⟩
        rw [show (if false = true then !inV (.str x) (ws.map V.str) else inV (.str x) (ws.map V.str)) = inV (.str x) (ws.map V.str) from rfl, inV_strs]
        exact hq
      · refine Or.inr ⟨_, rfl, _, rfl, a, _, rfl, DGet.k (k := Sum.inr x) ha, ?_⟩
        rw [valV_some hk]
        exact hq
end
end G

set_option Elab.async false
set_option linter.all false
set_option maxRecDepth 100000
set_option maxHeartbeats 4000000
namespace G
open PySem PySem.Spec PyProof.Rows L2 U
open PySem.W (Frag)
section
variable {P : Program} {w : World} {K : Frag} {mg : Str → Option Value} {base : Heap}
/-! ### is_name -/
def sLetters : Str := "abcdefghijklmnopqrstuvwxyz"
def sFigures : Str := "0123456789"
def allIn (w L : Str) : Bool := w.cps.toList.all fun c => decide (c ∈ L.cps.toList)
def isName (w : Str) : Bool := decide (1 ≤ (w.length : Int)) && (decide ((w.length : Int) ≤ 8) && allIn w sLetters)
def sp_is_name : Sp := fun vs H Q _ => ∃ x : Str, vs = [.str x] ∧ x.length ≤ 16000000 ∧ RetS H (.bl (isName x)) Q
theorem yes_if' {σ : L2.St} {H : Hp} {A B : Hp → Prop} (h : A H) : tYes σ H (fun b H3 => if b = true then A H3 else B H3) := (iteT h : if true = true then A H else B H)
theorem has_is_name (F : Fn K mg "is_name" s_is_name) (gL : mg "len" = none) (gA : mg "all" = none) (cM : CI mg "MOST_LETTERS" 8) (cL : CS mg "LETTERS" sLetters) : Has P w K mg base 1 "is_name" P_is_name [] sp_is_name := by
  obtain ⟨⟨fd, F⟩, g⟩ := F
  refine ⟨⟨fd, [], ?_, F.kp, .nil, F.bindsN fun _ _ _ _ _ _ us hl => match us, hl with | [_], _ => rfl⟩, g⟩
  refine F.ok sc_is_name (fun vs H Q E h => ?_) (fun cdv A outer s H vs Q E hr h' => ?_)
  · obtain ⟨x, rfl, _⟩ := h
    rfl
  · obtain ⟨x, rfl, hx, hq⟩ := h'
    refine ⟨_, PSs.nox (pss_one (ps_ret (pe_and (pe_chain op_le op_le pe_int (pe_callB call_len_str (by rfl) gL PySem.boot_len (pa_cons (pv 0) pa_nil)) (pe_ci cM))
      (pe_one (pe_callB (cr_all rfl) (by rfl) gA (by decide +kernel) (pa_cons (pe_lc (own := [("letter", 1)]) (g := gName 1) (tt := tYes) rfl sc_is_name.nd (pi_str (pv 0)) (blkOk_by (N := N_is_name) (sc := defScope s_is_name) (by decide +kernel))
        (fun _ _ _ _ _ => pg_name (i := 1) sc_is_name.nd rfl (Or.inl rfl)) (fun _ _ _ _ _ => pts_nil) (fun _ _ _ _ _ => pe_cmpR op_in_sign (pv 1) (pe_cs cL) (by rfl))) pa_nil)))))), ?_⟩
    have hz : x.length ≤ sizeLine := by
      rw [sizeLine_eq]
      omega
    refine ⟨_, rfl, x, rfl, hz, _, _, rfl, rfl, _, rfl, ?_⟩
    by_cases h1 : (1 : Int) ≤ (x.length : Int)
    · rw [decide_eq_true h1]
      refine iteT ?_
      refine ⟨_, _, rfl, rfl, _, rfl, ?_⟩
      by_cases h2 : (x.length : Int) ≤ 8
      · rw [decide_eq_true h2]
        refine iteT ?_
        refine ⟨_, rfl, x, rfl, fun D nD => lc_it walk_str (fun i Hc => Same H Hc ∧ Hc D = some (.lst (((x.cps.toList.take i).map fun c => decide (c ∈ sLetters.cps.toList)).map V.bl))) ⟨same_new nD, upd_same⟩ (fun _ _ _ _ => True.intro) ?_ ?_⟩
        · rintro i v Hc Hc' hi ⟨sc, hD⟩ ⟨rfl, c, hc, rfl⟩
          refine ⟨rfl, yes_if' ?_⟩
          refine ⟨_, rfl, c, sLetters, rfl, rfl, _, hD, ?_, ?_, ?_⟩
          · rw [List.length_map, List.length_map, List.length_take, sizeLine_eq]
            have : i < x.length := hi
            omega
          · exact fun b o e => by
              rw [upd_ne (ne_of_none e nD)]
              exact sc b o e
          · rw [upd_same]
            have hc' : x.cps.toList[i]? = some c := by
              rw [Array.getElem?_toList]
              exact hc
            rw [List.take_add_one, hc', List.map_append, List.map_append]
            rfl
        · rintro Hc ⟨sc, hD⟩
          refine ⟨D, _, rfl, SqL.of hD, ?_⟩
          have e : isName x = ((x.cps.toList.take x.cps.size).map fun c => decide (c ∈ sLetters.cps.toList)).all id := by
            unfold isName allIn
            rw [decide_eq_true h1, decide_eq_true h2, List.take_of_length_le (Nat.le_of_eq Array.length_toList), List.all_map]
            rfl
          rw [← e]
          exact hq Hc sc
      · rw [decide_eq_false h2]
        refine iteF ?_
        have e : isName x = false := by
          unfold isName
          rw [decide_eq_false h2]
          simp
        rw [e] at hq
        exact hq H (Same.refl H)
    · rw [decide_eq_false h1]
      refine iteF ?_
      refine ⟨_, rfl, ?_⟩
      refine iteF ?_
      have e : isName x = false := by
        unfold isName
        rw [decide_eq_false h1]
        rfl
      rw [e] at hq
      exact hq H (Same.refl H)
end
end G

set_option Elab.async false
set_option linter.all false
set_option maxRecDepth 100000
set_option maxHeartbeats 4000000
namespace G
open PySem PySem.Spec PyProof.Rows L2 U
open PySem.W (Frag)
/-! ### integer_in: the mathematics -/
def figs (x : Str) : Str := Txt.removeprefix x "-"
theorem figs_cases (x : Str) : (∃ r, x.cps.toList = 45 :: r ∧ (figs x).cps.toList = r) ∨ ((∀ r, x.cps.toList ≠ 45 :: r) ∧ figs x = x) := by
  unfold figs
  rw [StrLaws.removeprefix_eq, StrLaws.subAt_eq]
  cases h : x.cps.toList with
  | nil =>
    right
    refine ⟨(fun r z => by cases z), ?_⟩
    have hl : x.length = 0 := by
      rw [TL.len_tl]
      show x.cps.toList.length = 0
      rw [h]
      rfl
    rw [if_neg]
    rw [hl]
    decide
  | cons c r =>
    have hl : x.length = r.length + 1 := by
      rw [TL.len_tl]
      show x.cps.toList.length = _
      rw [h]
      rfl
    by_cases hc : c = 45
    · subst hc
      left
      refine ⟨r, rfl, ?_⟩
      rw [if_pos]
      · show ((45 :: r).drop 1).take (x.length - 1) = r
        rw [hl]
        exact List.take_of_length_le (Nat.le_refl _)
      · rw [hl]
        show (decide (0 + 1 ≤ r.length + 1) && (((45 :: r).drop 0).take 1 == [45])) = true
        rw [decide_eq_true (by omega)]
        rfl
    · right
      refine ⟨(fun r' z => hc (List.cons.inj z).1), ?_⟩
      rw [if_neg]
      show ¬ (decide (0 + 1 ≤ x.length) && (((c :: r).drop 0).take 1 == [45])) = true
      have e : (((c :: r).drop 0).take 1 == [45]) = false := by
        show ([c] == [45]) = false
        simp [hc]
      rw [e, Bool.and_false]
      exact Bool.false_ne_true
theorem figs_len (x : Str) : (figs x).length ≤ x.length := by
  rcases figs_cases x with ⟨r, h1, h2⟩ | ⟨_, h⟩
  · rw [TL.len_tl, TL.len_tl]
    show (figs x).cps.toList.length ≤ x.cps.toList.length
    rw [h1, h2]
    simp
  · rw [h]
    exact Nat.le_refl _
theorem fig_digit {c : Nat} (h : c ∈ sFigures.cps.toList) : 48 ≤ c ∧ c ≤ 57 := by
  have e : sFigures.cps.toList = [48, 49, 50, 51, 52, 53, 54, 55, 56, 57] := by decide +kernel
  rw [e] at h
  simp at h
  omega
theorem digit_fig {c : Nat} (h : 48 ≤ c ∧ c ≤ 57) : c ∈ sFigures.cps.toList := by
  have e : sFigures.cps.toList = [48, 49, 50, 51, 52, 53, 54, 55, 56, 57] := by decide +kernel
  rw [e]
  simp
  omega
/-- what integer_in tells -/
def integerIn (x : Str) : Option Int :=
  if figs x = "" then none else if allIn (figs x) sFigures = false then none else if x = "-0" then none else
  if figs x = "0" then intText? x else if (figs x).cps.toList.head? = some 48 then none else intText? x
theorem reads {x : Str} (h0 : figs x ≠ "") (h1 : allIn (figs x) sFigures = true) (hl : x.length ≤ 600) : ∃ n, intText? x = some n := by
  have ne : (figs x).cps.toList ≠ [] := fun z => h0 (TL.ext_tl (by show (figs x).cps.toList = _; rw [z]; decide +kernel))
  have dg : NumText.AllDigits (figs x).cps.toList := fun c hc => fig_digit (of_decide_eq_true (List.all_eq_true.mp h1 c hc))
  rcases figs_cases x with ⟨r, e1, e2⟩ | ⟨_, e⟩
  · rw [e2] at ne dg
    exact ⟨_, PySem.intText_neg e1 dg ne (by omega)⟩
  · rw [e] at ne dg
    exact ⟨_, PySem.intText_digits dg ne (by omega)⟩
section
variable {P : Program} {w : World} {K : Frag} {mg : Str → Option Value} {base : Heap}
def sp_integer_in : Sp := fun vs H Q _ => ∃ x : Str, vs = [.str x] ∧ x.length ≤ 600 ∧ RetS H (oI (integerIn x)) Q
theorem has_integer_in (F : Fn K mg "integer_in" s_integer_in) (gA : mg "all" = none) (gi : mg "int" = none) (cM : CS mg "MINUS" "-") (cF : CS mg "FIGURES" sFigures) : Has P w K mg base 1 "integer_in" P_integer_in [] sp_integer_in := by
  obtain ⟨⟨fd, F⟩, g⟩ := F
  refine ⟨⟨fd, [], ?_, F.kp, .nil, F.bindsN fun _ _ _ _ _ _ us hl => match us, hl with | [_], _ => rfl⟩, g⟩
  refine F.ok sc_integer_in (fun vs H Q E h => ?_) (fun cdv A outer s H vs Q E hr h' => ?_)
  · obtain ⟨x, rfl, _⟩ := h
    rfl
  · obtain ⟨x, rfl, hx, hq⟩ := h'
    have hz : x.length ≤ sizeLine := by
      rw [sizeLine_eq]
      omega
    have hz2 : (figs x).length ≤ sizeLine := Nat.le_trans (figs_len x) hz
    refine ⟨_, PSs.nox (pss_cons (ps_set (i := 1) sc_integer_in.nd rfl (Or.inl rfl) (pe_bm PySem.F.plainAttrs_str PySem.F.slot_str_removeprefix PySem.F.type_str_removeprefix mt_removeprefix (pv 0) (pa_cons (pe_cs cM) pa_nil)))
      (pss_cons (ps_if (PW.pt (pw_or (pt_cmpR op_eq (pv 1) pe_str (nomark _)) (pw_or (pt_not (pt_val (pe_callB (cr_all rfl) (by rfl) gA (by decide +kernel) (pa_cons (pe_lc (own := [("figure", 2)]) (g := gName 2) (tt := tYes) rfl sc_integer_in.nd (pi_str (pv 1)) (blkOk_by (N := N_integer_in) (sc := defScope s_integer_in) (by decide +kernel))
        (fun _ _ _ _ _ => pg_name (i := 2) sc_integer_in.nd rfl (Or.inl rfl)) (fun _ _ _ _ _ => pts_nil) (fun _ _ _ _ _ => pe_cmpR op_in_sign (pv 2) (pe_cs cF) (by rfl))) pa_nil)))) (pw_or1 (pt_cmpR op_eq (pv 0) pe_str (nomark _)))))) (pss_one (ps_ret pe_non)) pss_nil)
      (pss_one (ps_ret (pe_ifExp (PW.pt (pw_or (pt_cmpR op_eq (pv 1) pe_str (nomark _)) (pw_or1 (pt_cmpR op_ne (pe_ix ix_str (pv 1) pe_int (fun _ _ => rfl)) pe_str (nomark _))))) (pe_callTy call_int_str (by rfl) gi PyProof.Rows.boot_int (pa_cons (pv 0) pa_nil)) pe_non))))), ?_⟩
    refine ⟨_, rfl, rfl, x, _, rfl, rfl, hz, ?_⟩
    refine ⟨_, rfl, rfl, _, rfl, ?_⟩
    by_cases h0 : figs x = ""
    · rw [show decide (V.str (Txt.removeprefix x "-") = V.str "") = true from decide_eq_true (by show V.str (figs x) = _; rw [h0])]
      refine iteT ?_
      refine iteT ?_
      have e : integerIn x = none := by
        unfold integerIn
        rw [if_pos h0]
      rw [e] at hq
      exact hq H (Same.refl H)
    rw [show decide (V.str (Txt.removeprefix x "-") = V.str "") = false from decide_eq_false fun z => h0 (V.str.inj z)]
    refine iteF ?_
    refine ⟨_, rfl, figs x, rfl, fun D nD => lc_it walk_str (fun i Hc => Same H Hc ∧ Hc D = some (.lst ((((figs x).cps.toList.take i).map fun c => decide (c ∈ sFigures.cps.toList)).map V.bl))) ⟨same_new nD, upd_same⟩ (fun _ _ _ _ => True.intro) ?_ ?_⟩
    · rintro i v Hc Hc' hi ⟨sc, hD⟩ ⟨rfl, c, hc, rfl⟩
      refine ⟨rfl, yes_if' ?_⟩
      refine ⟨_, rfl, c, sFigures, rfl, rfl, _, hD, ?_, ?_, ?_⟩
      · rw [List.length_map, List.length_map, List.length_take]
        have : i < (figs x).length := hi
        omega
      · exact fun b o e => by
          rw [upd_ne (ne_of_none e nD)]
          exact sc b o e
      · rw [upd_same]
        have hc' : (figs x).cps.toList[i]? = some c := by
          rw [Array.getElem?_toList]
          exact hc
        rw [List.take_add_one, hc', List.map_append, List.map_append]
        rfl
    · rintro Hc ⟨sc, hD⟩
      refine ⟨D, _, rfl, SqL.of hD, _, rfl, ?_⟩
      have e1 : (((figs x).cps.toList.take (figs x).cps.size).map fun c => decide (c ∈ sFigures.cps.toList)).all id = allIn (figs x) sFigures := by
        unfold allIn
        rw [List.take_of_length_le (Nat.le_of_eq Array.length_toList), List.all_map]
        rfl
      rw [e1]
      by_cases h1 : allIn (figs x) sFigures = false
      · rw [h1]
        refine iteT ?_
        refine iteT ?_
        have e : integerIn x = none := by
          unfold integerIn
          rw [if_neg h0, if_pos h1]
        rw [e] at hq
        exact hq Hc sc
      have h1' : allIn (figs x) sFigures = true := by simpa using h1
      rw [h1']
      refine iteF ?_
      refine ⟨_, rfl, rfl, _, rfl, ?_⟩
      by_cases h2 : x = "-0"
      · rw [show decide (V.str x = V.str "-0") = true from decide_eq_true (by rw [h2])]
        refine iteT ?_
        have e : integerIn x = none := by
          unfold integerIn
          rw [if_neg h0, if_neg h1, if_pos h2]
        rw [e] at hq
        exact hq Hc sc
      rw [show decide (V.str x = V.str "-0") = false from decide_eq_false fun z => h2 (V.str.inj z)]
      refine iteF ?_
      obtain ⟨n, hn⟩ := reads h0 h1' hx
      refine ⟨_, rfl, rfl, _, rfl, ?_⟩
      by_cases h3 : figs x = "0"
      · rw [show decide (V.str (Txt.removeprefix x "-") = V.str "0") = true from decide_eq_true (by show V.str (figs x) = _; rw [h3])]
        refine iteT ?_
        refine iteT ?_
        have e : integerIn x = some n := by
          unfold integerIn
          rw [if_neg h0, if_neg h1, if_neg h2, if_pos h3]
          exact hn
        rw [e] at hq
        exact ⟨_, rfl, x, n, rfl, hn, by omega, hq Hc sc⟩
      rw [show decide (V.str (Txt.removeprefix x "-") = V.str "0") = false from decide_eq_false fun z => h3 (V.str.inj z)]
      refine iteF ?_
      cases hh : (figs x).cps.toList with
      | nil => exact absurd (TL.ext_tl (by show (figs x).cps.toList = _; rw [hh]; decide +kernel)) h0
      | cons c r =>
        refine ⟨_, rfl, figs x, 0, c, rfl, rfl, hz2, ?_, rfl, _, rfl, ?_⟩
        · rw [hh]
          exact atI_nat (j := 0) rfl
        have ec : (!decide (V.str (⟨#[c]⟩ : Str) = V.str "0")) = !decide (c = 48) := by
          congr 1
          by_cases hc : c = 48
          · rw [decide_eq_true hc, decide_eq_true (by rw [hc]; decide +kernel)]
          · rw [decide_eq_false hc, decide_eq_false fun z => hc ?_]
            have z1 := congrArg (fun s : Str => s.cps.toList) (V.str.inj z)
            have z2 : [c] = (Str.ofString "0").cps.toList := z1
            have z3 : (Str.ofString "0").cps.toList = [48] := by decide +kernel
            rw [z3] at z2
            exact (List.cons.inj z2).1
        rw [ec]
        by_cases hc : c = 48
        · rw [decide_eq_true hc]
          refine iteF ?_
          have e : integerIn x = none := by
            unfold integerIn
            rw [if_neg h0, if_neg h1, if_neg h2, if_neg h3, hh, hc]
            rfl
          rw [e] at hq
          exact hq Hc sc
        · rw [decide_eq_false hc]
          refine iteT ?_
          have e : integerIn x = some n := by
            unfold integerIn
            rw [if_neg h0, if_neg h1, if_neg h2, if_neg h3, hh]
            show (if some c = some 48 then none else intText? x) = some n
            rw [if_neg (fun z => hc (Option.some.inj z))]
            exact hn
          rw [e] at hq
          exact ⟨_, rfl, x, n, rfl, hn, by omega, hq Hc sc⟩
end
end G

set_option Elab.async false
set_option linter.all false
set_option maxRecDepth 100000
set_option maxHeartbeats 4000000
namespace U
open PySem PySem.Spec PyProof.Rows L2 PySem.Calls
open PySem.W (Frag)
/-! ### list(zip(xs, ys)) of two lists -/
theorem nN {a b : Nat} (h : ¬ a = b) : (a : Addr) ≠ (b : Addr) := h
theorem zip_no_len : typeLookup (.type "zip") "__len__" = pure none := by rw [typeLookup_type, builtinLookup_eq_fast]; kernel_rfl
theorem zip_no_hint : typeLookup (.type "zip") "__length_hint__" = pure none := by rw [typeLookup_type, builtinLookup_eq_fast]; kernel_rfl
section
variable {prog : Program} {w : World} {A : Around} {E : Value → Shared → Prop} {s : Shared}
theorem hint_zip {r : Addr} {Q : Bool → Shared → Prop} (hT : s.TypeIs (.ref r) "zip") (h : Q true s) : wpAny (model prog w) A (Builtin.List.listLengthHint (.ref r)) Q E s := by
  unfold Builtin.List.listLengthHint
  refine wpAny_bind (wpAny_specialOf hT zip_no_len ?_)
  wp_delta
  refine wpAny_ite_split (fun z => absurd z (by decide)) (fun _ => ?_)
  refine wpAny_ite_split (fun z => absurd z (by decide)) (fun _ => ?_)
  refine wpAny_bind (wpAny_specialOf hT zip_no_hint ?_)
  exact wpAny_pure h
/-- the pairs that lie above an address -/
structure Prs (ps : List (Value × Value)) (lo : Addr) (h : Heap) (as : List Addr) : Prop where
  up : as.Pairwise (· < ·)
  over : ∀ a ∈ as, lo < a
  is : ∀ (j : Nat) (a : Addr), as[j]? = some a → ∃ p, ps[j]? = some p ∧ IsPair h a p.1 p.2
theorem Prs.lt {ps : List (Value × Value)} {lo : Addr} {h : Heap} {as : List Addr} (g : Prs ps lo h as) {a : Addr} (ha : a ∈ as) : a < h.objs.size := by
  obtain ⟨j, hj⟩ := List.mem_iff_getElem?.mp ha
  obtain ⟨p, _, e⟩ := g.is j a hj
  exact Heap.lt_size e
/-- the cells of the zip, at rest or with its tuple out -/
def ZSt (I l1 l2 : Nat) (xs ys : Array Value) (i : Nat) (h : Heap) : Prop :=
  IsPair h (I + 2 : Nat) (.ref (I : Nat)) (.ref (I + 1 : Nat)) ∧ h.IsListIter (I : Nat) l1 i ∧ h.IsListIter (I + 1 : Nat) l2 i ∧ h.IsList l1 xs ∧ h.IsList l2 ys ∧
  ((IsZip h (I + 4 : Nat) (I + 2 : Nat) (I + 3 : Nat) .none ∧ ∃ a b, IsPair h (I + 3 : Nat) a b) ∨ ∃ (T : Addr) (f : Bool) (oT : Obj), IsZipHeld h (I + 4 : Nat) (I + 2 : Nat) (I + 3 : Nat) T f ∧ h.get? T = some oT ∧ I + 5 < T)
theorem ZSt.keep {I l1 l2 : Nat} {xs ys : Array Value} {i : Nat} {h h' : Heap} (st : ZSt I l1 l2 xs ys i h) (h1 : l1 < I) (h2 : l2 < I) (k : ∀ b o, b ≠ (I + 5 : Nat) → h.get? b = some o → h'.get? b = some o) : ZSt I l1 l2 xs ys i h' := by
  obtain ⟨a1, a2, a3, a4, a5, a6⟩ := st
  refine ⟨k _ _ (nN (by omega)) a1, a2.at fun o e => k _ o (nN (by omega)) e, a3.at fun o e => k _ o (nN (by omega)) e, a4.at fun o e => k _ o (nN (by omega)) e, a5.at fun o e => k _ o (nN (by omega)) e, ?_⟩
  rcases a6 with ⟨z, a, b, q⟩ | ⟨T, f, oT, z, q, r⟩
  · exact .inl ⟨k _ _ (nN (by omega)) z, a, b, k _ _ (nN (by omega)) q⟩
  · exact .inr ⟨T, f, oT, k _ _ (nN (by omega)) z, k _ _ (Nat.ne_of_gt r) q, r⟩
theorem zs_item {I l1 l2 : Nat} {xs ys : Array Value} {i : Nat} {x y : Value} {Q : Option Value → Shared → Prop} (h1 : l1 < I) (h2 : l2 < I) (st : ZSt I l1 l2 xs ys i s.heap) (hS : I + 5 < s.heap.objs.size) (hx : xs[i]? = some x) (hy : ys[i]? = some y)
    (hQ : ∀ h', ZSt I l1 l2 xs ys (i + 1) h' → IsPair h' s.heap.objs.size x y → h'.objs.size = s.heap.objs.size + 1 → (∀ b o, (b < I ∨ I + 4 < b) → s.heap.get? b = some o → h'.get? b = some o) → Q (some (.ref s.heap.objs.size)) { s with heap := h' }) :
    wpAny (model prog w) A (pyNext (.ref (I + 4 : Nat))) Q E s := by
  obtain ⟨a1, a2, a3, a4, a5, a6⟩ := st
  have D := PySem.W.ktu_apart I l1 l2 h1 h2
  rcases a6 with ⟨z, a, b, q⟩ | ⟨T, f, oT, z, q, r⟩
  · refine wpAny_pyNext_zip_item D z a1 q a2 a3 a4 a5 hx hy fun h' b1 b2 b3 b4 b5 b6 b7 => ?_
    have k : ∀ b o, (b < I ∨ I + 4 < b) → s.heap.get? b = some o → h'.get? b = some o := fun b o hb e => b7 b o (nN (by omega)) (nN (by omega)) (nN (by omega)) (nN (by omega)) e
    refine hQ h' ⟨?_, b3, b4, a4.at fun o e => k _ o (.inl h1) e, a5.at fun o e => k _ o (.inl h2) e, .inr ⟨s.heap.objs.size, false, _, b1, b5, hS⟩⟩ b5 b6 k
    exact b7 _ _ D.TIz D.TITO D.TIi1 D.TIi2 a1
  · refine wpAny_pyNext_zip_item_held D z q a1 a2 a3 a4 a5 hx hy fun h' b1 b3 b4 b5 b6 b7 => ?_
    have k : ∀ b o, (b < I ∨ I + 4 < b) → s.heap.get? b = some o → h'.get? b = some o := fun b o hb e => b7 b o (nN (by omega)) (nN (by omega)) (nN (by omega)) e
    refine hQ h' ⟨?_, b3, b4, a4.at fun o e => k _ o (.inl h1) e, a5.at fun o e => k _ o (.inl h2) e, .inr ⟨T, true, oT, b1, k _ _ (.inr (Nat.lt_trans (Nat.lt_succ_self _) r)) q, r⟩⟩ b5 b6 k
    exact b7 _ _ D.TIz D.TIi1 D.TIi2 a1
theorem zs_done {I l1 l2 : Nat} {xs ys : Array Value} {i : Nat} {Q : Option Value → Shared → Prop} (hh : A.handled = none) (h1 : l1 < I) (h2 : l2 < I) (st : ZSt I l1 l2 xs ys i s.heap) (he : xs[i]? = none ∨ ys[i]? = none)
    (hQ : ∀ h', (∀ b o, (b < I ∨ I + 4 < b) → s.heap.get? b = some o → h'.get? b = some o) → Q none { s with heap := h' }) : wpAny (model prog w) A (pyNext (.ref (I + 4 : Nat))) Q E s := by
  obtain ⟨a1, a2, a3, a4, a5, a6⟩ := st
  have D := PySem.W.ktu_apart I l1 l2 h1 h2
  rcases a6 with ⟨z, a, b, q⟩ | ⟨T, f, oT, z, q, r⟩
  · exact wpAny_pyNext_zip_end hh D z a1 q a2 a3 a4 a5 he fun h' k => hQ h' fun b o hb e => k b o (nN (by omega)) (nN (by omega)) (nN (by omega)) (nN (by omega)) e
  · exact wpAny_pyNext_zip_end_held hh D z q a1 a2 a3 a4 a5 he fun h' k => hQ h' fun b o hb e => k b o (nN (by omega)) (nN (by omega)) (nN (by omega)) e
end
section
variable {prog : Program} {w : World} {A : Around} {s : Shared} {R : Result → Shared → Prop}
theorem zip_get {xs ys : Array Value} {i : Nat} {x y : Value} (hx : xs[i]? = some x) (hy : ys[i]? = some y) : (xs.toList.zip ys.toList)[i]? = some (x, y) := by
  rw [← Array.getElem?_toList] at hx hy
  rw [List.getElem?_zip_eq_some]
  exact ⟨hx, hy⟩
theorem zl_loop {I l1 l2 : Nat} {xs ys : Array Value} (hh : A.handled = none) (h1 : l1 < I) (h2 : l2 < I) (hn : min xs.size ys.size ≤ sizeLine) (res : Value) {h₁ : Heap}
    (hR : ∀ h' tk acc c as, (∀ b o, b < I → h₁.get? b = some o → h'.get? b = some o) → h'.get? (I + 5 : Nat) = some { cls := .type "list", dict := none, data := .seq acc c, slots := #[] } → as.length = min xs.size ys.size → Prs (xs.toList.zip ys.toList) (I + 5 : Nat) h' as →
      acc.toList = as.map Value.ref → R (.ok (.ret res)) { s with heap := h', toks := tk }) :
    ∀ (k i : Nat) (h : Heap) (tk c : Nat) (acc : Array Value) (as : List Addr), min xs.size ys.size - i = k → i ≤ min xs.size ys.size → ZSt I l1 l2 xs ys i h → (∀ b o, b < I → h₁.get? b = some o → h.get? b = some o) →
      h.get? (I + 5 : Nat) = some { cls := .type "list", dict := none, data := .seq acc c, slots := #[] } → acc.toList = as.map Value.ref → as.length = i → Prs (xs.toList.zip ys.toList) (I + 5 : Nat) h as →
      codeAny (model prog w) A (.builtin "list.extend.loop" ⟨[.ref (I + 5 : Nat), .ref (I + 4 : Nat), res], []⟩) R { s with heap := h, toks := tk } := by
  intro k
  induction k with
  | zero =>
    intro i h tk c acc as hk hi st hkp hS hacc hal hG
    refine codeAny_builtin PySem.F.entry_extend_loop ?_
    rw [Around.under_plainId PySem.F.plain_extend_loop _]
    show wpAny _ A.in1 (pyNext (.ref (I + 4 : Nat)) >>= _) _ _ _
    refine wpAny_bind (zs_done (s := { s with heap := h, toks := tk }) (A := A.in1) hh h1 h2 st ?_ fun h' ke => ?_)
    · rcases Nat.le_total xs.size ys.size with q | q
      · exact .inl (Array.getElem?_eq_none (by omega))
      · exact .inr (Array.getElem?_eq_none (by omega))
    · refine wpAny_pure (hR h' tk acc c as (fun b o hb e => ke b o (.inl hb) (hkp b o hb e)) (ke _ _ (.inr (Nat.lt_succ_self _)) hS) (by omega) ⟨hG.up, hG.over, fun j a hj => ?_⟩ hacc)
      obtain ⟨p, e1, e2⟩ := hG.is j a hj
      exact ⟨p, e1, ke a _ (.inr (Nat.lt_trans (Nat.lt_succ_self _) (hG.over a (List.mem_of_getElem? hj)))) e2⟩
  | succ k ih =>
    intro i h tk c acc as hk hi st hkp hS hacc hal hG
    have lx : i < xs.size := by omega
    have ly : i < ys.size := by omega
    have hsz : acc.size = i := by
      rw [← Array.length_toList, hacc, List.length_map]
      exact hal
    refine codeAny_builtin PySem.F.entry_extend_loop ?_
    rw [Around.under_plainId PySem.F.plain_extend_loop _]
    show wpAny _ A.in1 (pyNext (.ref (I + 4 : Nat)) >>= _) _ _ _
    have hSl : I + 5 < h.objs.size := Heap.lt_size hS
    refine wpAny_bind (zs_item (s := { s with heap := h, toks := tk }) h1 h2 st hSl (Array.getElem?_eq_getElem lx) (Array.getElem?_eq_getElem ly) fun h' st' ht hz ke => ?_)
    dsimp only at ht hz ke ⊢
    have hS' := ke _ _ (.inr (Nat.lt_succ_self _)) hS
    have wr : ∀ b o, b ≠ (I + 5 : Nat) → h'.get? b = some o → (h'.update (I + 5 : Nat) (Obj.mapSeq (·.push (Value.ref h.objs.size)))).get? b = some o := fun b o hb e => (Heap.get?_update_other _ _ (Ne.symm hb)).trans e
    show wpAny _ A.in1 (updateSeq (I + 5 : Nat) (·.push (Value.ref h.objs.size)) >>= _) _ _ _
    refine wpAny_bind ?_
    refine wpAny_updateSeq hS' rfl (wpAny_pure ⟨plainId_quiet PySem.F.plain_extend_loop _, ih (i + 1) _ tk _ (acc.push (Value.ref h.objs.size)) (as ++ [h.objs.size]) (by omega) (by omega) (st'.keep h1 h2 wr)
      (fun b o hb e => wr b o (nN (by omega)) (ke b o (.inl hb) (hkp b o hb e))) (Heap.get?_update_self _ hS' rfl) ?_ ?_ ⟨?_, ?_, ?_⟩⟩) (by rw [hsz]; omega) (by show (acc.push (Value.ref h.objs.size)).size ≤ sizeLine + 1; rw [Array.size_push, hsz]; omega)
    · rw [Array.toList_push, hacc, List.map_append]
      rfl
    · rw [List.length_append, hal]
      rfl
    · refine List.pairwise_append.mpr ⟨hG.up, List.pairwise_singleton _ _, fun a ha b hb => ?_⟩
      rw [List.mem_singleton.mp hb]
      exact hG.lt ha
    · intro a ha
      rcases List.mem_append.mp ha with ha | ha
      · exact hG.over a ha
      · rw [List.mem_singleton.mp ha]
        exact hSl
    · intro j b hj
      rcases Nat.lt_trichotomy j as.length with q | q | q
      · rw [List.getElem?_append_left q] at hj
        obtain ⟨p, e1, e2⟩ := hG.is j b hj
        have ob := hG.over b (List.mem_of_getElem? hj)
        exact ⟨p, e1, wr b _ (Nat.ne_of_gt ob) (ke b _ (.inr (Nat.lt_trans (Nat.lt_succ_self _) ob)) e2)⟩
      · subst q
        have hb : h.objs.size = b := by simpa using hj
        subst hb
        refine ⟨_, zip_get (Array.getElem?_eq_getElem (by omega)) (Array.getElem?_eq_getElem (by omega)), ?_⟩
        subst hal
        exact wr _ _ (Nat.ne_of_gt hSl) ht
      · have none' : (as ++ [h.objs.size])[j]? = none := List.getElem?_eq_none (by rw [List.length_append, List.length_singleton]; omega)
        rw [none'] at hj
        cases hj
end
end U

set_option Elab.async false
set_option linter.all false
set_option maxRecDepth 100000
set_option maxHeartbeats 4000000
namespace U
open PySem PySem.Spec PyProof.Rows L2 PySem.Calls
open PySem.W (Frag)
section
variable {prog : Program} {w : World} {A : Around} {s : Shared}
theorem zl_extend {R : Result → Shared → Prop} {I l1 l2 : Nat} {xs ys : Array Value} {c₀ : Nat} (hh : A.handled = none) (h1 : l1 < I) (h2 : l2 < I) (hn : min xs.size ys.size ≤ sizeLine) (res : Value) (st : ZSt I l1 l2 xs ys 0 s.heap) (hz : IsZip s.heap (I + 4 : Nat) (I + 2 : Nat) (I + 3 : Nat) .none)
    (hS : s.heap.get? (I + 5 : Nat) = some { cls := .type "list", data := .seq #[] c₀ })
    (hR : ∀ h' tk acc c as, (∀ b o, b < I → s.heap.get? b = some o → h'.get? b = some o) → h'.get? (I + 5 : Nat) = some { cls := .type "list", dict := none, data := .seq acc c, slots := #[] } → as.length = min xs.size ys.size → Prs (xs.toList.zip ys.toList) (I + 5 : Nat) h' as →
      acc.toList = as.map Value.ref → R (.ok (.ret res)) { s with heap := h', toks := tk }) :
    wpAny (model prog w) A.in1 (Builtin.List.listExtendWith (.ref (I + 5 : Nat)) (.ref (I + 4 : Nat)) res)
      (fun fin s' => match fin with | .done f => R (.ok f) s' | .again c' => c'.quiet = true ∧ codeAny (model prog w) A c' R s') (fun e s' => R (.error e) s') s := by
  have hT : s.TypeIs (.ref (I + 4 : Nat)) "zip" := ⟨_, hz, rfl⟩
  unfold Builtin.List.listExtendWith
  refine wpAny_bind (wpAny_typeOf (T := "zip") hT ?_)
  have q1 : Builtin.List.listSameRef (.ref (I + 5 : Nat)) (.ref (I + 4 : Nat)) = false := by
    simp [Builtin.List.listSameRef]
  have q2 : (Value.type "zip" == Value.type "list") = false := by decide
  have q3 : (Value.type "zip" == Value.type "tuple") = false := by decide
  simp only [q1, q2, q3, Bool.or_false, Bool.false_eq_true, if_false]
  refine wpAny_bind (wpAny_pyIter_zip hz ?_)
  refine wpAny_bind (wpAny_holding (hint_zip hT ?_))
  refine wpAny_ite_split (fun _ => ?_) (fun z => absurd rfl z)
  refine wpAny_bind (wpAny_rule ?_)
  refine wpAny_bind ?_
  show wpAny _ _ (updateSeq (I + 5 : Nat) (·.push .none) >>= fun _ => updateSeq (I + 5 : Nat) (·.pop)) _ _ _
  refine wpAny_bind (wpAny_updateSeq hS rfl ?_)
  have e2 := Heap.get?_update_self (Obj.mapSeq (·.push Value.none)) hS rfl
  refine wpAny_updateSeq (hz := by seq_fits) e2 rfl ?_
  have e3 := Heap.get?_update_self (Obj.mapSeq (·.pop)) e2 rfl
  have kp : ∀ b o, b ≠ (I + 5 : Nat) → s.heap.get? b = some o → ((s.heap.update (I + 5 : Nat) (Obj.mapSeq (·.push Value.none))).update (I + 5 : Nat) (Obj.mapSeq (·.pop))).get? b = some o := fun b o hb e =>
    (Heap.get?_update_other _ _ (Ne.symm hb)).trans ((Heap.get?_update_other _ _ (Ne.symm hb)).trans e)
  refine wpAny_pure ⟨plainId_quiet PySem.F.plain_extend_loop _, zl_loop (s := s) (h₁ := s.heap) hh h1 h2 hn res hR _ 0 _ _ _ #[] [] rfl (Nat.zero_le _) (st.keep h1 h2 kp) (fun b o hb e => kp b o (nN (by omega)) e) e3 rfl rfl ⟨List.Pairwise.nil, (fun a ha => by cases ha), fun j a hj => by simp at hj⟩⟩
theorem zl_call {Q : Value → Shared → Prop} {E : Value → Shared → Prop} {I l1 l2 : Nat} {xs ys : Array Value} (hh : A.handled = none) (h1 : l1 < I) (h2 : l2 < I) (hn : min xs.size ys.size ≤ sizeLine) (hI : s.heap.objs.size = I + 5) (st : ZSt I l1 l2 xs ys 0 s.heap) (hz : IsZip s.heap (I + 4 : Nat) (I + 2 : Nat) (I + 3 : Nat) .none)
    (hQ : ∀ h' tk acc c as, (∀ b o, b < I → s.heap.get? b = some o → h'.get? b = some o) → h'.get? (I + 5 : Nat) = some { cls := .type "list", dict := none, data := .seq acc c, slots := #[] } → as.length = min xs.size ys.size → Prs (xs.toList.zip ys.toList) (I + 5 : Nat) h' as →
      acc.toList = as.map Value.ref → Q (.ref (I + 5 : Nat)) { s with heap := h', toks := tk }) :
    wpAny (model prog w) A (call (.type "list") [.ref (I + 4 : Nat)]) Q E s := by
  refine callType_codes (Q₁ := fun obj s₁ => obj = .ref s.heap.objs.size ∧ s₁ = { s with heap := s.heap.push { cls := .type "list", data := .seq #[] } }) PySem.F.called_list (PySem.F.typeCall_list_1 _) PySem.F.entry_list_init
    (code_list_new _ ⟨rfl, rfl⟩) fun obj s₁ h₁ => ?_
  obtain ⟨rfl, rfl⟩ := h₁
  have e0 : (s.heap.push { cls := .type "list", data := .seq #[] }).get? s.heap.objs.size = some { cls := .type "list", data := .seq #[] } := Heap.get?_push_size _ rfl
  refine ⟨⟨_, e0, rfl⟩, PySem.F.args_list_init_2 _ _, ?_⟩
  rw [hI] at e0 ⊢
  show wpAny _ _ (do let old ← Builtin.List.listItems (.ref (I + 5 : Nat)); Builtin.List.listUpdate (.ref (I + 5 : Nat)) (fun _ => #[]); letGo old.toList.reverse; Builtin.List.listExtendWith (.ref (I + 5 : Nat)) (.ref (I + 4 : Nat)) .none) _ _ _
  refine wpAny_bind ?_
  unfold Builtin.List.listItems
  refine wpAny_bind (wpAny_seqItems e0 rfl (wpAny_pure ?_))
  show wpAny _ _ (updateSeq (I + 5 : Nat) (fun _ => #[]) >>= fun _ => letGo (#[] : Array Value).toList.reverse >>= fun _ => Builtin.List.listExtendWith (.ref (I + 5 : Nat)) (.ref (I + 4 : Nat)) .none) _ _ _
  refine wpAny_bind (wpAny_updateSeq e0 rfl ?_)
  have e2 := Heap.get?_update_self (Obj.mapSeq (fun _ => (#[] : Array Value))) e0 rfl
  have kp : ∀ b o, b ≠ (I + 5 : Nat) → s.heap.get? b = some o → ((s.heap.push { cls := .type "list", data := .seq #[] }).update (I + 5 : Nat) (Obj.mapSeq (fun _ => (#[] : Array Value)))).get? b = some o := fun b o hb e =>
    (Heap.get?_update_other _ _ (Ne.symm hb)).trans (Heap.get?_push_of_some _ e)
  refine wpAny_bind (wpAny_letGo ?_)
  refine zl_extend (A := A.in1) hh h1 h2 hn .none (st.keep h1 h2 kp) (kp _ _ (nN (by omega)) hz) e2 fun h' tk acc c as k e' hl hG ha => ?_
  exact ⟨rfl, hQ h' tk acc c as (fun b o hb e => k b o hb (kp b o (nN (by omega)) e)) e' hl hG ha⟩
end
/-! ### the tuples tracked -/
def putP : Hp → List Addr → List (V × V) → Hp
  | H, a :: as, p :: ps => putP (upd H a (.tup [p.1, p.2])) as ps
  | H, _, _ => H
theorem putP_off {b : Addr} : ∀ (as : List Addr) (ps : List (V × V)) (H : Hp), b ∉ as → putP H as ps b = H b
  | [], _, _, _ => rfl
  | _ :: _, [], _, _ => rfl
  | a :: as, p :: ps, H, h => by
    show putP (upd H a (.tup [p.1, p.2])) as ps b = H b
    rw [putP_off as ps _ fun z => h (List.mem_cons_of_mem _ z), upd_ne fun z => h (by rw [z]; exact List.mem_cons_self)]
theorem putP_at : ∀ (as : List Addr) (ps : List (V × V)) (H : Hp), as.length = ps.length → as.Nodup → Paired (fun (t : Addr) (p : V × V) => putP H as ps t = some (.tup [p.1, p.2])) as ps
  | [], [], _, _, _ => .nil
  | [], _ :: _, _, h, _ => by cases h
  | _ :: _, [], _, h, _ => by cases h
  | a :: as, p :: ps, H, h, hn => by
    have hn' := List.nodup_cons.mp hn
    refine .cons ?_ (putP_at as ps (upd H a (.tup [p.1, p.2])) (Nat.succ.inj h) hn'.2)
    show putP (upd H a (.tup [p.1, p.2])) as ps a = some (.tup [p.1, p.2])
    rw [putP_off as ps _ hn'.1, upd_same]
def ZipTo (H : Hp) (xs ys : List V) (Q : VK) : Prop := ∀ (H' : Hp) (p : Addr) (ts : List Addr), Same H H' → H p = none → (∀ t ∈ ts, H t = none) → p ∉ ts → H' p = some (.lst (ts.map V.ref)) → Paired (fun (t : Addr) (q : V × V) => H' t = some (.tup [q.1, q.2])) ts (xs.zip ys) → Q (.ref p) H'
def tListZip (K : Frag) (ta : TA) : TE := fun σ H Q => ta σ H fun vs H1 => ∃ a b xs ys, vs = [.ref a, .ref b] ∧ SqL K H1 a xs ∧ SqL K H1 b ys ∧ ZipTo H1 xs ys Q
section
variable {X : Cx}
theorem pairs_laid {pins : List (Addr × Obj)} {σ : L2.St} {H : Hp} {s : Shared} {h' : Heap} {tk c : Nat} {S : Addr} {xs ys : List V} {vs us : List Value} {acc : Array Value} {as : List Addr} (I : Inv X pins σ H s) (hz : (xs.zip ys).length ≤ sizeLine) (hx : Vals xs vs) (hy : Vals ys us)
    (hk : ∀ b o, s.heap.get? b = some o → h'.get? b = some o) (hS : s.heap.objs.size ≤ S) (hl : h'.get? S = some { cls := .type "list", dict := none, data := .seq acc c, slots := #[] }) (hn : as.length = (xs.zip ys).length) (hG : Prs (vs.zip us) S h' as) (ha : acc.toList = as.map Value.ref) :
    ∃ H' : Hp, Same H H' ∧ H S = none ∧ (∀ t ∈ as, H t = none) ∧ S ∉ as ∧ H' S = some (.lst (as.map V.ref)) ∧ Paired (fun (t : Addr) (q : V × V) => H' t = some (.tup [q.1, q.2])) as (xs.zip ys) ∧ Inv X pins σ H' { s with heap := h', toks := tk } := by
  have out : S ∉ as := fun z => Nat.lt_irrefl _ (hG.over _ z)
  have nd : as.Nodup := List.Pairwise.imp (fun {a b} (h : a < b) => Nat.ne_of_lt h) hG.up
  have newS : H S = none := I.hok.fresh hS
  have new : ∀ t ∈ as, H t = none := fun t ht => I.hok.fresh (Nat.le_trans hS (Nat.le_of_lt (hG.over t ht)))
  have at' := putP_at as (xs.zip ys) (upd H S (.lst (as.map V.ref))) hn nd
  have off : ∀ b, b ∉ as → b ≠ S → putP (upd H S (.lst (as.map V.ref))) as (xs.zip ys) b = H b := fun b h1 h2 => by rw [putP_off as _ _ h1, upd_ne h2]
  have low : ∀ b o, s.heap.get? b = some o → b ∉ as ∧ b ≠ S := fun b o e => by
    have lb := Heap.lt_size e
    exact ⟨fun z => Nat.lt_irrefl b (Nat.lt_trans (Nat.lt_of_lt_of_le lb hS) (hG.over b z)), Nat.ne_of_lt (Nat.lt_of_lt_of_le lb hS)⟩
  have kp : Same H (putP (upd H S (.lst (as.map V.ref))) as (xs.zip ys)) := fun b u e => by
    rw [off b (fun z => by rw [new b z] at e; cases e) (fun z => by rw [z, newS] at e; cases e)]
    exact e
  have eS : putP (upd H S (.lst (as.map V.ref))) as (xs.zip ys) S = some (.lst (as.map V.ref)) := by rw [putP_off as _ _ out, upd_same]
  refine ⟨_, kp, newS, new, out, eS, at', ?_⟩
  refine I.call' (ch := []) rfl ⟨fun b o q _ _ _ => hk b o q, fun b o q _ _ _ => ⟨o.slots, hk b o q⟩, fun b o q n _ => ?_, fun b o q _ => ⟨o, hk b o q⟩, fun b xs q => kp b _ q, fun b o u q => kp b _ q, fun b ps q => ⟨#[], by rw [kp b _ q]; simp⟩⟩ (fun b u q => ?_) I.bare fun b z => by simp at z
  · obtain ⟨z1, z2⟩ := low b o q
    rw [off b z1 z2]
    exact n
  · by_cases hb : b ∈ as
    · obtain ⟨j, p, e1, e2, e3⟩ := LiI.paired_ix at' hb
      rw [e3] at q
      cases q
      obtain ⟨r, f1, f2⟩ := hG.is j b e1
      obtain ⟨g1, g2⟩ := List.getElem?_zip_eq_some.mp e2
      obtain ⟨g3, g4⟩ := List.getElem?_zip_eq_some.mp f1
      obtain ⟨x', e4, r1⟩ := hx.get g1
      obtain ⟨y', e5, r2⟩ := hy.get g2
      rw [g3] at e4
      rw [g4] at e5
      cases e4
      cases e5
      exact ⟨by show 2 ≤ sizeLine; decide, [r.1, r.2], .cons r1 (.cons r2 .nil), ⟨_, f2, rfl, _, rfl⟩⟩
    · by_cases hb2 : b = S
      · rw [hb2] at q ⊢
        rw [eS] at q
        cases q
        refine ⟨by rw [List.length_map, hn]; exact hz, acc.toList, c, by rw [ha]; exact LiI.vals_refs as, ?_⟩
        rw [Array.toArray_toList]
        exact hl
      · rw [off b hb hb2] at q
        exact (I.hok b u q).stay (fun d v _ y => hk d v y) (fun d y => kp d _ y) fun d xs y => kp d _ y
/-- list(zip(e, e2)) -/
theorem pe_listZip {e e2 : Expr} {ta : TA} {p p2 pos pos2 : Pos} (hc : X.calm = true) (hgL : Gl X "list") (hmL : X.mg "list" = none) (hv : bootBuiltins "list" = some (.type "list")) (hg : Gl X "zip") (hm : X.mg "zip" = none) (ha : PA X [e, e2] ta)
    (hs : starEach [e, e2] X.env = (false, eval e X.env) :: starEach [e2] X.env := by rfl) (hpl : (backTo pos2 (starEach [e2] X.env)).any (·.1) = false := by rfl)
    (hsL : starEach [.Call (.Name "zip" p2) [e, e2] [] pos2] X.env = (false, eval (.Call (.Name "zip" p2) [e, e2] [] pos2) X.env) :: starEach [] X.env := by rfl) :
    PE X (.Call (.Name "list" p) [.Call (.Name "zip" p2) [e, e2] [] pos2] [] pos) (tListZip X.K ta) := by
  refine ⟨fun pins s σ H Q I hq => ?_⟩
  refine wpAny_Call_Name_kw (ld_blt I hgL hmL hv ?_)
  refine PyProof.Rows.callWith_type1 ?_ hsL rfl
  rw [hsL]
  show wpAny _ _ (spliced ((false, eval (.Call (.Name "zip" p2) [e, e2] [] pos2) X.env) :: backTo pos (starEach [] X.env))) _ _ s
  refine Calls.spliced_cons ?_
  refine Call_ (ld_blt I hg hm PyProof.Rows.boot_zip (PyProof.Rows.callWith_type1 (thn (ha.run pos2 pins s σ H _ I hq) fun us s1 ⟨vs, H1, I1, r1, q1⟩ => ?_) hs hpl))
  obtain ⟨a, b, xs, ys, ex, qx, qy, q⟩ := q1
  subst ex
  cases r1 with
  | cons r rr =>
    cases rr with
    | cons r' rr =>
      cases rr
      cases r
      cases r'
      obtain ⟨its, rv, p1, z1⟩ := I1.list qx
      obtain ⟨its2, rv2, p2, z2⟩ := I1.list qy
      refine call_zip_2 p1.isList p2.isList fun h' hz hTI hTO h1 h2 hsz hk => ?_
      refine Calls.spliced_nil ?_
      have len : (xs.zip ys).length = min its.toArray.size its2.toArray.size := by
        rw [List.length_zip, rv.length, rv2.length]
        simp
      have I2 : Inv X pins σ H1 { s1 with heap := h' } := I1.kept (t' := s1.toks) hk
      refine zl_call (s := { s1 with heap := h' }) (I := s1.heap.objs.size) (l1 := a) (l2 := b) (xs := its.toArray) (ys := its2.toArray) (I1.ok.hd hc) p1.lt p2.lt ?_ hsz ⟨hTI, h1, h2, p1.isList.at fun o e => hk _ o e, p2.isList.at fun o e => hk _ o e, .inl ⟨hz, _, _, hTO⟩⟩ hz fun g tk acc c as k e hl hG hacc => ?_
      · rw [← len, List.length_zip]
        omega
      · obtain ⟨H', k1, k2, k3, k4, k5, k6, J⟩ := pairs_laid (tk := tk) I1 (by rw [List.length_zip]; omega) rv rv2 (fun b o e => k b o (Heap.lt_size e) (hk b o e)) (Nat.le_add_right _ 5) e (by rw [hl, len]) hG hacc
        exact ⟨.ref _, H', J, rfl, q H' _ as k1 k2 k3 k4 k5 k6⟩
end
end U

set_option Elab.async false
set_option linter.all false
set_option maxRecDepth 100000
set_option maxHeartbeats 4000000
namespace G
open PySem PySem.Spec PyProof.Rows L2 U
open PySem.W (Frag)
theorem and_go {c d : Bool} {t : Prop} {H : Hp} {Q : VK} (h : Q (.bl (c && d)) H) (ht : c = true → Q (.bl d) H → t) : (if c = true then t else Q (.bl false) H) := by
  cases c
  · exact h
  · exact ht rfl h
theorem or_go {c d : Bool} {t : Prop} {H : Hp} {Q : VK} (h : Q (.bl (c || d)) H) (ht : c = false → Q (.bl d) H → t) : (if c = true then Q (.bl true) H else t) := by
  cases c
  · exact ht rfl h
  · exact h
theorem dec_if {p : Prop} [Decidable p] {A B : Prop} (h1 : p → A) (h2 : ¬ p → B) : if decide p = true then A else B := by
  by_cases h : p
  · rw [decide_eq_true h]
    exact h1 h
  · rw [decide_eq_false h]
    exact h2 h
theorem none_in : ∀ os : List (Option Int), inV .non (os.map oI) = os.any (·.isNone)
  | [] => rfl
  | o :: os => by
    show (eqV (oI o) .non || inV .non (os.map oI)) = _
    rw [none_in os]
    cases o <;> rfl
theorem flat_os (os : List (Option Int)) : (os.map oI).all flatV = true := by
  rw [List.all_eq_true]
  intro v hv
  obtain ⟨o, _, rfl⟩ := List.mem_map.mp hv
  cases o <;> rfl
/-! ### tables -/
structure Tab where
  fa : Int
  sh : Int
  st : Int
  lo : Int
  hi : Int
deriving DecidableEq
def Tab.vs (t : Tab) : List V := [.int t.fa, .int t.sh, .int t.st, .int t.lo, .int t.hi]
def Tab.ok (t : Tab) : Bool := (decide (1 ≤ t.fa) && decide (t.fa ≤ 1000)) && (decide (0 ≤ t.st) && decide (t.lo ≤ t.hi))
def tabOf : List (Option Int) → Option Tab
  | [some f, some s, some t, some l, some h] => some ⟨f, s, t, l, h⟩
  | _ => none
def isTable (os : List (Option Int)) : Bool := match tabOf os with
  | some t => t.ok
  | none => false
theorem tab_cases {os : List (Option Int)} (hl : os.length = 5) : (os.any (·.isNone) = true ∧ tabOf os = none) ∨ (os.any (·.isNone) = false ∧ ∃ t : Tab, tabOf os = some t ∧ os.map oI = t.vs) := by
  match os, hl with
  | [a, b, c, d, e], _ =>
    cases a with
    | none => exact .inl ⟨rfl, rfl⟩
    | some a =>
    cases b with
    | none => exact .inl ⟨rfl, rfl⟩
    | some b =>
    cases c with
    | none => exact .inl ⟨rfl, rfl⟩
    | some c =>
    cases d with
    | none => exact .inl ⟨rfl, rfl⟩
    | some d =>
    cases e with
    | none => exact .inl ⟨rfl, rfl⟩
    | some e => exact .inr ⟨rfl, ⟨a, b, c, d, e⟩, rfl, rfl⟩
section
variable {P : Program} {w : World} {K : Frag} {mg : Str → Option Value} {base : Heap}
def sp_is_table (K : Frag) : Sp := fun vs H Q _ => ∃ (a : Addr) (os : List (Option Int)), vs = [.ref a] ∧ SqT K H a (os.map oI) ∧ os.length = 5 ∧ Q (.bl (isTable os)) H
theorem has_is_table (F : Fn K mg "is_table" s_is_table) (cM : CI mg "MOST_FACTOR" 1000) : Has P w K mg base 1 "is_table" P_is_table [] (sp_is_table K) := by
  obtain ⟨⟨fd, F⟩, g⟩ := F
  refine ⟨⟨fd, [], ?_, F.kp, .nil, F.bindsN fun _ _ _ _ _ _ us hl => match us, hl with | [_], _ => rfl⟩, g⟩
  refine F.ok sc_is_table (fun vs H Q E h => ?_) (fun cdv A outer s H vs Q E hr h' => ?_)
  · obtain ⟨a, os, rfl, _⟩ := h
    rfl
  · obtain ⟨a, os, rfl, hs, hl, hq⟩ := h'
    refine ⟨_, PSs.nox (pss_cons (ps_if (pt_cmpR op_in_seq pe_non (pv 0) (by rfl)) (pss_one (ps_ret pe_bl)) pss_nil)
      (pss_cons (ps_asg (pv 0) (pg_tup rfl (pgs_cons (pg_name (i := 1) sc_is_table.nd rfl (Or.inl rfl)) (pgs_cons (pg_name (i := 2) sc_is_table.nd rfl (Or.inl rfl)) (pgs_cons (pg_name (i := 3) sc_is_table.nd rfl (Or.inl rfl)) (pgs_cons (pg_name (i := 4) sc_is_table.nd rfl (Or.inl rfl)) (pgs_cons (pg_name (i := 5) sc_is_table.nd rfl (Or.inl rfl)) pgs_nil)))))))
      (pss_one (ps_ret (pe_and (pe_chain op_le op_le pe_int (pv 1) (pe_ci cM)) (pe_and (pe_cmpR op_ge (pv 3) pe_int (nomark _)) (pe_one (pe_cmpR op_le (pv 4) (pv 5) (nomark _))))))))), ?_⟩
    refine ⟨_, rfl, a, _, rfl, .inr hs, rfl, flat_os os, _, rfl, ?_⟩
    rw [show (if false = true then !inV .non (os.map oI) else inV .non (os.map oI)) = inV .non (os.map oI) from rfl, none_in]
    rcases tab_cases hl with ⟨e1, e2⟩ | ⟨e1, t, e2, e3⟩
    · rw [e1]
      refine iteT ?_
      have e : isTable os = false := by
        unfold isTable
        rw [e2]
      rw [e] at hq
      exact hq
    · rw [e1]
      refine iteF ?_
      rw [e3] at hs
      refine ⟨_, rfl, a, t.vs, rfl, hs, rfl, ?_⟩
      refine ⟨_, _, rfl, _, _, rfl, _, _, rfl, _, _, rfl, _, _, rfl, rfl, ?_⟩
      have e : isTable os = t.ok := by
        unfold isTable
        rw [e2]
      rw [e] at hq
      refine ⟨_, rfl, _, _, rfl, rfl, _, rfl, ?_⟩
      by_cases q1 : 1 ≤ t.fa
      · rw [decide_eq_true q1]
        refine iteT ?_
        refine ⟨_, _, rfl, rfl, _, rfl, ?_⟩
        have e' : t.ok = (decide (t.fa ≤ 1000) && (decide (0 ≤ t.st) && decide (t.lo ≤ t.hi))) := by
          unfold Tab.ok
          rw [decide_eq_true q1, Bool.true_and]
        rw [e'] at hq
        refine and_go hq fun _ hq => ?_
        refine ⟨_, rfl, _, _, rfl, rfl, _, rfl, ?_⟩
        refine and_go hq fun _ hq => ?_
        exact ⟨_, rfl, _, rfl, _, _, rfl, rfl, hq⟩
      · rw [decide_eq_false q1]
        refine iteF ?_
        refine ⟨_, rfl, ?_⟩
        refine iteF ?_
        have e' : t.ok = false := by
          unfold Tab.ok
          rw [decide_eq_false q1]
          rfl
        rw [e'] at hq
        exact hq
/-! ### stretch_by -/
inductive Prn where
  | num (i : Int)
  | word (s : Str)
deriving DecidableEq
def Prn.v : Prn → V
  | .num i => .int i
  | .word s => .str s
def Prn.d : Prn → PyData
  | .num i => .int i
  | .word s => .str s
theorem Prn.da (p : Prn) {F : Addr → Prop} {H : Hp} : Dq F H p.v p.d := by
  cases p with
  | num i => exact .int i
  | word s => exact .str s
def stretchBy (t : Tab) : Prn → Option Int × Option Int
  | .num i => (some (t.fa * (i - t.st) + t.sh), some (t.fa * (i + t.st) + t.sh))
  | .word s => if s = "normal" then (some (t.fa * t.lo + t.sh), some (t.fa * t.hi + t.sh)) else if s = "low" then (none, some (t.fa * t.lo + t.sh)) else (some (t.fa * t.hi + t.sh), none)
def pairV (p : Option Int × Option Int) : List V := [oI p.1, oI p.2]
def RetT (H : Hp) (vs : List V) (Q : VK) : Prop := ∀ (H' : Hp) (a : Addr), Same H H' → H a = none → H' a = some (.tup vs) → Q (.ref a) H'
def sp_stretch_by (K : Frag) : Sp := fun vs H Q _ => ∃ (a : Addr) (t : Tab) (p : Prn), vs = [.ref a, p.v] ∧ SqT K H a t.vs ∧ t.ok = true ∧ RetT H (pairV (stretchBy t p)) Q
theorem tab_mul {t : Tab} (h : t.ok = true) : -(2 ^ 64) < t.fa ∧ t.fa < 2 ^ 64 := by
  unfold Tab.ok at h
  rw [Bool.and_eq_true, Bool.and_eq_true, Bool.and_eq_true, decide_eq_true_eq, decide_eq_true_eq] at h
  omega
theorem sizeLine_ge : 1000 ≤ sizeLine := by
  rw [sizeLine_eq]
  omega
theorem none_of_same {H H' : Hp} {a : Addr} (s : Same H H') (h : H' a = none) : H a = none := by
  cases e : H a with
  | none => rfl
  | some o =>
    rw [s a o e] at h
    cases h
theorem upd_ret {H : Hp} {vs : List V} {Q : VK} (h : RetT H vs Q) : ∀ p, H p = none → Q (.ref p) (upd H p (.tup vs)) := fun p hp => h _ p (same_new hp) hp upd_same
theorem has_stretch_by (F : Fn K mg "stretch_by" s_stretch_by) (hI : Has P w K mg base 1 "is_integer" P_is_integer [.non, .non] sp_is_integer) (cN : CS mg "NORMAL" "normal") (cL : CS mg "LOW" "low") : Has P w K mg base 2 "stretch_by" P_stretch_by [] (sp_stretch_by K) := by
  obtain ⟨⟨fd, F⟩, g⟩ := F
  refine ⟨⟨fd, [], ?_, F.kp, .nil, F.bindsN fun _ _ _ _ _ _ us hl => match us, hl with | [_, _], _ => rfl⟩, g⟩
  refine F.ok sc_stretch_by (fun vs H Q E h => ?_) (fun cdv A outer s H vs Q E hr h' => ?_)
  · obtain ⟨a, t, p, rfl, _⟩ := h
    rfl
  · obtain ⟨a, t, p, rfl, hs, ht, hq⟩ := h'
    refine ⟨_, PSs.nox (pss_cons (ps_asg (pv 0) (pg_tup rfl (pgs_cons (pg_name (i := 2) sc_stretch_by.nd rfl (Or.inl rfl)) (pgs_cons (pg_name (i := 3) sc_stretch_by.nd rfl (Or.inl rfl)) (pgs_cons (pg_name (i := 4) sc_stretch_by.nd rfl (Or.inl rfl)) (pgs_cons (pg_name (i := 5) sc_stretch_by.nd rfl (Or.inl rfl)) (pgs_cons (pg_name (i := 6) sc_stretch_by.nd rfl (Or.inl rfl)) pgs_nil)))))))
      (pss_cons (ps_if (pt_val (pe_has hI hr (pa_cons (pv 1) pa_nil))) (pss_one (ps_ret (pe_tup (pa_cons (pe_add (pe_mul (pv 2) (pe_sub (pv 1) (pv 4))) (pv 3)) (pa_cons (pe_add (pe_mul (pv 2) (pe_add (pv 1) (pv 4))) (pv 3)) pa_nil))))) pss_nil)
      (pss_cons (ps_set (i := 7) sc_stretch_by.nd rfl (Or.inl rfl) (pe_tup (pa_cons (pe_add (pe_mul (pv 2) (pv 5)) (pv 3)) (pa_cons (pe_add (pe_mul (pv 2) (pv 6)) (pv 3)) pa_nil))))
      (pss_cons (ps_if (pt_cmpR op_eq (pv 1) (pe_cs cN) (nomark _)) (pss_one (ps_ret (pv 7))) pss_nil)
      (pss_one (ps_ret (pe_ifExp (pt_cmpR op_eq (pv 1) (pe_cs cL) (nomark _)) (pe_tup (pa_cons pe_non (pa_cons (pe_ix ix_tup (pv 7) pe_int (fun _ _ => rfl)) pa_nil))) (pe_tup (pa_cons (pe_ix ix_tup (pv 7) pe_int (fun _ _ => rfl)) (pa_cons pe_non pa_nil)))))))))), ?_⟩
    refine ⟨_, rfl, a, t.vs, rfl, hs, rfl, ?_⟩
    refine ⟨_, _, rfl, _, _, rfl, _, _, rfl, _, _, rfl, _, _, rfl, rfl, ?_⟩
    refine ⟨_, rfl, (fun _ => True), p.v, p.d, none, none, rfl, p.da, _, rfl, ?_⟩
    cases p with
    | num i =>
      refine iteT ?_
      refine ⟨_, rfl, _, rfl, _, rfl, _, _, rfl, rfl, _, _, rfl, rfl, tab_mul ht, _, rfl, _, _, rfl, rfl, ?_⟩
      refine ⟨_, rfl, _, rfl, _, rfl, _, _, rfl, rfl, _, _, rfl, rfl, tab_mul ht, _, rfl, _, _, rfl, rfl, ?_⟩
      exact ⟨Nat.le_trans (by show 2 ≤ 1000; omega) sizeLine_ge, upd_ret hq⟩
    | word x =>
      refine iteF ?_
      refine ⟨_, rfl, _, rfl, _, _, rfl, rfl, tab_mul ht, _, rfl, _, _, rfl, rfl, ?_⟩
      refine ⟨_, rfl, _, rfl, _, _, rfl, rfl, tab_mul ht, _, rfl, _, _, rfl, rfl, ?_⟩
      refine ⟨Nat.le_trans (by show 2 ≤ 1000; omega) sizeLine_ge, fun p hp => ?_⟩
      refine ⟨_, rfl, rfl, _, rfl, ?_⟩
      have e7 : ∀ b o, H b = some o → (upd H p (.tup [.int (t.fa * t.lo + t.sh), .int (t.fa * t.hi + t.sh)])) b = some o := same_new hp
      refine dec_if (fun h1 => ?_) (fun h1 => ?_)
      · have h1 : x = "normal" := V.str.inj h1
        refine ⟨_, rfl, ?_⟩
        have e : stretchBy t (.word x) = (some (t.fa * t.lo + t.sh), some (t.fa * t.hi + t.sh)) := by
          show (if x = "normal" then _ else _) = _
          rw [if_pos h1]
        rw [e] at hq
        exact hq _ p e7 hp upd_same
      · have h1 : ¬ x = "normal" := fun z => h1 (by rw [z]; rfl)
        refine ⟨_, rfl, rfl, _, rfl, ?_⟩
        have seven : SqT K (upd H p (.tup [.int (t.fa * t.lo + t.sh), .int (t.fa * t.hi + t.sh)])) p [.int (t.fa * t.lo + t.sh), .int (t.fa * t.hi + t.sh)] := .inl (.inl upd_same)
        refine dec_if (fun h2 => ?_) (fun h2 => ?_)
        · have h2 : x = "low" := V.str.inj h2
          have e : stretchBy t (.word x) = (none, some (t.fa * t.lo + t.sh)) := by
            show (if x = "normal" then _ else if x = "low" then _ else _) = _
            rw [if_neg h1, if_pos h2]
          rw [e] at hq
          refine ⟨_, rfl, p, _, 0, _, rfl, rfl, seven, atI_nat (j := 0) rfl, Nat.le_trans (by show 2 ≤ 1000; omega) sizeLine_ge, fun p2 hp2 => ?_⟩
          exact hq _ p2 (fun b o e => same_new hp2 b o (e7 b o e)) (none_of_same e7 hp2) upd_same
        · have h2 : ¬ x = "low" := fun z => h2 (by rw [z]; rfl)
          have e : stretchBy t (.word x) = (some (t.fa * t.hi + t.sh), none) := by
            show (if x = "normal" then _ else if x = "low" then _ else _) = _
            rw [if_neg h1, if_neg h2]
          rw [e] at hq
          refine ⟨_, rfl, p, _, 1, _, rfl, rfl, seven, atI_nat (j := 1) rfl, Nat.le_trans (by show 2 ≤ 1000; omega) sizeLine_ge, fun p2 hp2 => ?_⟩
          exact hq _ p2 (fun b o e => same_new hp2 b o (e7 b o e)) (none_of_same e7 hp2) upd_same
end
end G

set_option Elab.async false
set_option linter.all false
set_option maxRecDepth 100000
set_option maxHeartbeats 4000000
namespace U
open PySem PySem.Spec PyProof.Rows L2
open PySem.W (Frag)
theorem Same.rd {H H' : Hp} {a : Addr} {u : HO} (h : Rd H a u) (s : Same H H') : Rd H' a u := by
  rcases h with h | ⟨o, h⟩
  · exact .inl (s _ _ h)
  · exact .inr ⟨o, s _ _ h⟩
theorem sqL_same {K : Frag} {H H' : Hp} {a : Addr} {xs : List V} (h : SqL K H a xs) (s : Same H H') : SqL K H' a xs := by
  rcases h with h | h
  · exact .inl (Same.rd h s)
  · exact .inr h
theorem sqT_same {K : Frag} {H H' : Hp} {a : Addr} {xs : List V} (h : SqT K H a xs) (s : Same H H') : SqT K H' a xs := by
  rcases h with h | h
  · exact .inl (Same.rd h s)
  · exact .inr h
/-- a heap kept but for one address -/
def SameB (D : Addr) (H H' : Hp) : Prop := ∀ b o, b ≠ D → H b = some o → H' b = some o
theorem SameB.of {D : Addr} {H H' : Hp} (s : Same H H') : SameB D H H' := fun b o _ e => s b o e
/-- a comprehension without a condition: each item by its place -/
theorem lc_map {J : It} {n : Nat} {G : Hp → Prop} {Y : Nat → Hp → V → Hp → Prop} (w : Walk J n G Y) {g : TG} {te : TE} {vs : List Nat} {σ : L2.St} {H1 : Hp} {D : Addr} {Qd : Hp → Prop} (nD : H1 D = none) (hn : n ≤ 16000000) (Rl : Nat → V → Hp → Prop)
    (hR : ∀ i v H H', Rl i v H → SameB D H H' → Rl i v H') (hG : ∀ H, Same H1 H → G H)
    (hs : ∀ (i : Nat) (x : V) (H H' : Hp) (k : VK), i < n → Same H1 H → (∃ acc, H D = some (.lst acc)) → Y i H x H' → (∀ y H4, Same H H4 → Rl i y H4 → k y H4) → g x (wipe σ vs) H' fun σ2 H2 => wipe σ2 vs = wipe σ vs ∧ te σ2 H2 k)
    (hd : ∀ H acc, Same H1 H → H D = some (.lst acc) → acc.length = n → (∀ i v, acc[i]? = some v → Rl i v H) → Qd H) :
    ∃ W : Nat → Nat → Hp → Prop, (∃ m, W 0 m (upd H1 D (.lst []))) ∧ ∀ i m H, W i m H →
      (J.stop i H ∧ Qd H) ∨ (J.go i H ∧ ∃ Nx : Hp → Prop, (∀ H', Nx H' → ∃ m', m' < m ∧ W (i + 1) m' H') ∧ ∀ x H', J.yld i H x H' → g x (wipe σ vs) H' fun σ2 H2 => wipe σ2 vs = wipe σ vs ∧ tYes σ2 H2 fun b H3 =>
        if b = true then te σ2 H3 fun y H4 => ∃ acc, H4 D = some (.lst acc) ∧ acc.length < sizeLine ∧ Nx (upd H4 D (.lst (acc ++ [y]))) else Nx H3) := by
  refine lc_it w (fun i H => Same H1 H ∧ ∃ acc, H D = some (.lst acc) ∧ acc.length = i ∧ ∀ j v, acc[j]? = some v → Rl j v H) ⟨same_new nD, [], upd_same, rfl, fun j v e => by simp at e⟩ (fun i H _ p => hG H p.1) ?_ ?_
  · rintro i x H H' hi ⟨s, acc, e, l, r⟩ y
    refine hs i x H H' _ hi s ⟨acc, e⟩ y fun v H4 s4 r4 => ?_
    have up : SameB D H4 (upd H4 D (.lst (acc ++ [v]))) := fun b o hb q => by
      rw [upd_ne hb]
      exact q
    refine ⟨acc, s4 _ _ e, by rw [sizeLine_eq]; omega, ?_, acc ++ [v], upd_same, by rw [List.length_append, l]; rfl, ?_⟩
    · exact fun b o q => up b o (ne_of_none q nD) (s4 b o (s b o q))
    · intro j u ju
      rcases Nat.lt_trichotomy j acc.length with q | q | q
      · rw [List.getElem?_append_left q] at ju
        exact hR j u _ _ (hR j u _ _ (r j u ju) (.of s4)) up
      · rw [List.getElem?_append_right (Nat.le_of_eq q.symm), q, Nat.sub_self] at ju
        have e1 : v = u := Option.some.inj ju
        rw [← e1, q, l]
        exact hR i v _ _ r4 up
      · rw [List.getElem?_eq_none (by rw [List.length_append, List.length_singleton]; omega)] at ju
        cases ju
  · rintro H ⟨s, acc, e, l, r⟩
    exact hd H acc s e l r
/-- .. plain values -/
theorem lc_vals {J : It} {n : Nat} {G : Hp → Prop} {Y : Nat → Hp → V → Hp → Prop} (w : Walk J n G Y) {g : TG} {te : TE} {vs : List Nat} {σ : L2.St} {H1 : Hp} {D : Addr} {Qd : Hp → Prop} (nD : H1 D = none) (ys : List V) (hl : ys.length = n) (hn : n ≤ 16000000)
    (hG : ∀ H, Same H1 H → G H)
    (hs : ∀ (i : Nat) (x y : V) (H H' : Hp) (k : VK), ys[i]? = some y → Same H1 H → Y i H x H' → (∀ H4, Same H H4 → k y H4) → g x (wipe σ vs) H' fun σ2 H2 => wipe σ2 vs = wipe σ vs ∧ te σ2 H2 k)
    (hd : ∀ H, Same H1 H → H D = some (.lst ys) → Qd H) :
    ∃ W : Nat → Nat → Hp → Prop, (∃ m, W 0 m (upd H1 D (.lst []))) ∧ ∀ i m H, W i m H →
      (J.stop i H ∧ Qd H) ∨ (J.go i H ∧ ∃ Nx : Hp → Prop, (∀ H', Nx H' → ∃ m', m' < m ∧ W (i + 1) m' H') ∧ ∀ x H', J.yld i H x H' → g x (wipe σ vs) H' fun σ2 H2 => wipe σ2 vs = wipe σ vs ∧ tYes σ2 H2 fun b H3 =>
        if b = true then te σ2 H3 fun y H4 => ∃ acc, H4 D = some (.lst acc) ∧ acc.length < sizeLine ∧ Nx (upd H4 D (.lst (acc ++ [y]))) else Nx H3) := by
  refine lc_map w nD hn (fun i v _ => ys[i]? = some v) (fun i v H H' h _ => h) hG (fun i x H H' k hi s _ y hk => ?_) fun H acc s e l r => ?_
  · have e : ys[i]? = some ys[i] := List.getElem?_eq_getElem (by omega)
    exact hs i x _ H H' k e s y fun H4 s4 => hk _ H4 s4 e
  · have : acc = ys := by
      refine List.ext_getElem? fun i => ?_
      cases q : acc[i]? with
      | some v => exact (r i v q).symm
      | none =>
        have := List.getElem?_eq_none_iff.mp q
        exact (List.getElem?_eq_none (by omega)).symm
    rw [this] at e
    exact hd H s e
theorem dqall_of {F : Addr → Prop} {H : Hp} : ∀ {vs : List V} {ds : List PyData}, vs.length = ds.length → (∀ (i : Nat) v d, vs[i]? = some v → ds[i]? = some d → Dq F H v d) → DqAll F H vs ds
  | [], [], _, _ => .nil
  | [], _ :: _, h, _ => by cases h
  | _ :: _, [], h, _ => by cases h
  | v :: vs, d :: ds, h, k => .cons (k 0 v d rfl rfl) (dqall_of (Nat.succ.inj h) fun i v d e1 e2 => k (i + 1) v d e1 e2)
/-- .. new data -/
theorem lc_data {J : It} {n : Nat} {G : Hp → Prop} {Y : Nat → Hp → V → Hp → Prop} (w : Walk J n G Y) {g : TG} {te : TE} {vs : List Nat} {σ : L2.St} {H1 : Hp} {D : Addr} {Qd : Hp → Prop} (nD : H1 D = none) (ds : List PyData) (hl : ds.length = n) (hn : n ≤ 16000000)
    (hG : ∀ H, Same H1 H → G H)
    (hs : ∀ (i : Nat) (x : V) (d : PyData) (H H' : Hp) (k : VK), ds[i]? = some d → Same H1 H → Y i H x H' → (∀ y H4, Same H H4 → Dq (fun a => H a = none) H4 y d → k y H4) → g x (wipe σ vs) H' fun σ2 H2 => wipe σ2 vs = wipe σ vs ∧ te σ2 H2 k)
    (hd : ∀ H, Same H1 H → Dq (fun a => H1 a = none) H (.ref D) (.list ds) → Qd H) :
    ∃ W : Nat → Nat → Hp → Prop, (∃ m, W 0 m (upd H1 D (.lst []))) ∧ ∀ i m H, W i m H →
      (J.stop i H ∧ Qd H) ∨ (J.go i H ∧ ∃ Nx : Hp → Prop, (∀ H', Nx H' → ∃ m', m' < m ∧ W (i + 1) m' H') ∧ ∀ x H', J.yld i H x H' → g x (wipe σ vs) H' fun σ2 H2 => wipe σ2 vs = wipe σ vs ∧ tYes σ2 H2 fun b H3 =>
        if b = true then te σ2 H3 fun y H4 => ∃ acc, H4 D = some (.lst acc) ∧ acc.length < sizeLine ∧ Nx (upd H4 D (.lst (acc ++ [y]))) else Nx H3) := by
  refine lc_map w nD hn (fun i v H => ∃ d, ds[i]? = some d ∧ Dq (fun a => H1 a = none ∧ a ≠ D) H v d) (fun i v H H' h s => ?_) hG (fun i x H H' k hi s hD y hk => ?_) fun H acc s e l r => ?_
  · obtain ⟨d, e, q⟩ := h
    exact ⟨d, e, q.move (fun _ f => f) fun b o f z => s b o f.2 z⟩
  · have e : ds[i]? = some ds[i] := List.getElem?_eq_getElem (by omega)
    obtain ⟨acc, hD⟩ := hD
    refine hs i x _ H H' k e s y fun v H4 s4 q => hk v H4 s4 ⟨_, e, q.move (fun b f => ⟨?_, fun z => ?_⟩) fun b o _ z => z⟩
    · cases z : H1 b with
      | none => rfl
      | some o =>
        have f : H b = none := f
        rw [s b o z] at f
        cases f
    · have f : H b = none := f
      rw [z, hD] at f
      cases f
  · refine hd H s (.lst nD e (dqall_of (by omega) fun i v d e1 e2 => ?_))
    obtain ⟨d', e3, q⟩ := r i v e1
    rw [e2] at e3
    cases e3
    exact q.move (fun b f => f.1) fun b o _ z => z
end U

set_option Elab.async false
set_option linter.all false
set_option maxRecDepth 100000
set_option maxHeartbeats 4000000
namespace G
open PySem PySem.Spec PyProof.Rows L2 U
open PySem.W (Frag)
/-! ### do_turn_back -/
def nums (os : List (Option Int)) : List Int := os.map fun o => o.getD 0
def rises (is : List Int) : Bool := (is.zip (is.drop 1)).any fun p => decide (p.1 < p.2)
def falls (is : List Int) : Bool := (is.zip (is.drop 1)).any fun p => decide (p.2 < p.1)
def doTurnBack (os : List (Option Int)) : Bool := if os.any (·.isNone) = true then false else rises (nums os) && falls (nums os)
theorem nums_v : ∀ {os : List (Option Int)}, os.any (·.isNone) = false → os.map oI = (nums os).map V.int
  | [], _ => rfl
  | none :: os, h => by simp at h
  | some i :: os, h => by
    have h' : os.any (·.isNone) = false := by simpa using h
    show V.int i :: os.map oI = V.int i :: (nums os).map V.int
    rw [nums_v h']
theorem cut1 (xs : List V) : cutV xs (some 1) none = xs.drop 1 := by
  unfold cutV
  rw [show HT.sIx xs.length 0 (some 1) = min 1 xs.length from HT.sIx_nat _ _ 1, HT.sIx_none]
  cases xs with
  | nil => rfl
  | cons x xs =>
    rw [show min 1 (x :: xs).length = 1 from by simp]
    exact List.take_of_length_le (by simp)
theorem zip_nums (is js : List Int) : (is.map V.int).zip (js.map V.int) = (is.zip js).map fun p => (V.int p.1, V.int p.2) := by
  rw [List.zip_map]
  rfl
section
variable {P : Program} {w : World} {K : Frag} {mg : Str → Option Value} {base : Heap}
def sp_do_turn_back (K : Frag) : Sp := fun vs H Q _ => ∃ (a : Addr) (os : List (Option Int)), vs = [.ref a] ∧ SqL K H a (os.map oI) ∧ os.length ≤ 1000 ∧ RetS H (.bl (doTurnBack os)) Q
theorem has_do_turn_back (F : Fn K mg "do_turn_back" s_do_turn_back) (gL : mg "list" = none) (gZ : mg "zip" = none) (gA : mg "any" = none) : Has P w K mg base 1 "do_turn_back" P_do_turn_back [] (sp_do_turn_back K) := by
  obtain ⟨⟨fd, F⟩, g⟩ := F
  refine ⟨⟨fd, [], ?_, F.kp, .nil, F.bindsN fun _ _ _ _ _ _ us hl => match us, hl with | [_], _ => rfl⟩, g⟩
  refine F.ok sc_do_turn_back (fun vs H Q E h => ?_) (fun cdv A outer s H vs Q E hr h' => ?_)
  · obtain ⟨a, os, rfl, _⟩ := h
    rfl
  · obtain ⟨a, os, rfl, hs, hl, hq⟩ := h'
    refine ⟨_, PSs.nox (pss_cons (ps_if (pt_cmpR op_in_seq pe_non (pv 0) (by rfl)) (pss_one (ps_ret pe_bl)) pss_nil)
      (pss_cons (ps_set (i := 1) sc_do_turn_back.nd rfl (Or.inl rfl) (pe_listZip rfl (by rfl) gL PyProof.Rows.boot_list (by rfl) gZ (pa_cons (pv 0) (pa_cons (pe_slice sl_list (pv 0) (po_some pe_int) po_none) pa_nil))))
      (pss_one (ps_ret (pe_and (pe_callB (cr_any rfl) (by rfl) gA (by decide +kernel) (pa_cons (pe_lc (own := [("one", 2), ("other", 3)]) (g := gTup K 2 (gCons (gName 2) (gCons (gName 3) gNil))) (tt := tYes) rfl sc_do_turn_back.nd (pi_list (pv 1)) (blkOk_by (N := N_do_turn_back) (sc := defScope s_do_turn_back) (by decide +kernel))
          (fun _ _ _ _ _ => pg_tup rfl (pgs_cons (pg_name (i := 2) sc_do_turn_back.nd rfl (Or.inl rfl)) (pgs_cons (pg_name (i := 3) sc_do_turn_back.nd rfl (Or.inl rfl)) pgs_nil))) (fun _ _ _ _ _ => pts_nil) (fun _ _ _ _ _ => pe_cmpR op_lt (pv 2) (pv 3) (nomark _))) pa_nil))
        (pe_one (pe_callB (cr_any rfl) (by rfl) gA (by decide +kernel) (pa_cons (pe_lc (own := [("one", 2), ("other", 3)]) (g := gTup K 2 (gCons (gName 2) (gCons (gName 3) gNil))) (tt := tYes) rfl sc_do_turn_back.nd (pi_list (pv 1)) (blkOk_by (N := N_do_turn_back) (sc := defScope s_do_turn_back) (by decide +kernel))
          (fun _ _ _ _ _ => pg_tup rfl (pgs_cons (pg_name (i := 2) sc_do_turn_back.nd rfl (Or.inl rfl)) (pgs_cons (pg_name (i := 3) sc_do_turn_back.nd rfl (Or.inl rfl)) pgs_nil))) (fun _ _ _ _ _ => pts_nil) (fun _ _ _ _ _ => pe_cmpR op_gt (pv 2) (pv 3) (nomark _))) pa_nil)))))))), ?_⟩
    refine ⟨_, rfl, a, _, rfl, .inl hs, rfl, flat_os os, _, rfl, ?_⟩
    rw [show (if false = true then !inV .non (os.map oI) else inV .non (os.map oI)) = inV .non (os.map oI) from rfl, none_in]
    by_cases hN : os.any (·.isNone) = true
    · rw [hN]
      refine iteT ?_
      have e : doTurnBack os = false := by
        unfold doTurnBack
        rw [if_pos hN]
      rw [e] at hq
      exact hq H (Same.refl H)
    · have hN' : os.any (·.isNone) = false := Bool.eq_false_iff.mpr hN
      rw [hN']
      refine iteF ?_
      have e : doTurnBack os = (rises (nums os) && falls (nums os)) := by
        unfold doTurnBack
        rw [if_neg hN]
      rw [e] at hq
      rw [nums_v hN'] at hs
      have li : (nums os).length ≤ 1000 := by
        unfold nums
        rw [List.length_map]
        exact hl
      refine ⟨_, rfl, _, rfl, _, rfl, a, _, rfl, hs, fun p hp => ?_⟩
      rw [cut1]
      have s1 := same_new (o := .lst (((nums os).map V.int).drop 1)) hp
      refine ⟨a, p, _, _, rfl, sqL_same hs s1, SqL.of upd_same, ?_⟩
      intro H' q ts sH nq nt nqt eq' pr
      rw [← List.map_drop, zip_nums] at pr
      have one : ∀ (f : Int × Int → Bool) (D : Addr) (Hc : Hp), Same H' Hc → (((nums os).zip ((nums os).drop 1)).map f).length = (ts.map V.ref).length := by
        intro f D Hc _
        rw [List.length_map, List.length_map, pr.length, List.length_map]
      have l2 : (ts.map V.ref).length ≤ 16000000 := by
        rw [List.length_map, pr.length, List.length_map, List.length_zip]
        omega
      have pick : ∀ (i : Nat) (x : V) (f : Int × Int → Bool) (y : V), (ts.map V.ref)[i]? = some x → ((((nums os).zip ((nums os).drop 1)).map f).map V.bl)[i]? = some y → ∃ (t : Addr) (p : Int × Int), x = .ref t ∧ H' t = some (.tup [.int p.1, .int p.2]) ∧ y = .bl (f p) := by
        intro i x f y hx hy
        rw [List.getElem?_map, Option.map_eq_some_iff] at hx
        obtain ⟨t, ht, rfl⟩ := hx
        obtain ⟨r, hr, e⟩ := LiI.paired_get pr ht
        rw [List.getElem?_map, Option.map_eq_some_iff] at hr
        obtain ⟨p, hp', rfl⟩ := hr
        rw [List.getElem?_map, List.getElem?_map, hp'] at hy
        exact ⟨t, p, rfl, e, (Option.some.inj hy).symm⟩
      refine ⟨_, rfl, q, rfl, ⟨_, SqL.of eq'⟩, fun D nD => lc_vals walk_list nD ((((nums os).zip ((nums os).drop 1)).map fun p => decide (p.1 < p.2)).map V.bl) (by rw [List.length_map]; exact one _ D H' (Same.refl H')) l2 (fun Hc sc => SqL.of (sc _ _ eq')) ?_ ?_⟩
      · rintro i x y Hc Hc' k hy sc ⟨rfl, hx⟩ hk
        obtain ⟨t, p, rfl, e1, rfl⟩ := pick i x _ y hx hy
        refine ⟨t, _, rfl, SqT.of (sc _ _ e1), rfl, _, _, rfl, _, _, rfl, rfl, rfl, ?_⟩
        exact ⟨_, rfl, _, rfl, _, _, rfl, rfl, hk _ (Same.refl _)⟩
      · intro Hc sc eD
        refine ⟨D, _, rfl, SqL.of eD, _, rfl, ?_⟩
        have e1 : (((nums os).zip ((nums os).drop 1)).map fun p => decide (p.1 < p.2)).any id = rises (nums os) := by
          rw [List.any_map]
          rfl
        rw [e1]
        have all : Same H Hc := fun b o z => sc _ _ (sH _ _ (s1 _ _ z))
        cases hri : rises (nums os) with
        | false =>
          refine iteF ?_
          rw [hri] at hq
          exact hq Hc all
        | true =>
        refine iteT ?_
        rw [hri] at hq
        refine ⟨_, rfl, q, rfl, ⟨_, SqL.of (sc _ _ eq')⟩, fun D2 nD2 => lc_vals walk_list nD2 ((((nums os).zip ((nums os).drop 1)).map fun p => decide (p.2 < p.1)).map V.bl) (by rw [List.length_map]; exact one _ D H' (Same.refl H')) l2 (fun Hd sd => SqL.of (sd _ _ (sc _ _ eq'))) ?_ ?_⟩
        · rintro i x y Hd Hd' k hy sd ⟨rfl, hx⟩ hk
          obtain ⟨t, p, rfl, e1, rfl⟩ := pick i x _ y hx hy
          refine ⟨t, _, rfl, SqT.of (sd _ _ (sc _ _ e1)), rfl, _, _, rfl, _, _, rfl, rfl, rfl, ?_⟩
          exact ⟨_, rfl, _, rfl, _, _, rfl, rfl, hk _ (Same.refl _)⟩
        · intro Hd sd eD2
          refine ⟨D2, _, rfl, SqL.of eD2, ?_⟩
          have e2 : (((nums os).zip ((nums os).drop 1)).map fun p => decide (p.2 < p.1)).any id = falls (nums os) := by
            rw [List.any_map]
            rfl
          rw [e2]
          exact hq Hd fun b o z => sd _ _ (all _ _ z)
end
end G

set_option Elab.async false
set_option linter.all false
set_option maxRecDepth 100000
set_option maxHeartbeats 4000000
namespace G
open PySem PySem.Spec PyProof.Rows L2 U
open PySem.W (Frag)
/-! ### can_tell -/
def oD : Option Int → PyData
  | none => .none
  | some i => .int i
def Tab.d (t : Tab) : PyData := .tuple [.int t.fa, .int t.sh, .int t.st, .int t.lo, .int t.hi]
def tabsD (ts : List Tab) : PyData := .tuple (ts.map Tab.d)
def pairD (p : Option Int × Option Int) : PyData := .tuple [oD p.1, oD p.2]
theorem dq_oI {F : Addr → Prop} {H : Hp} (o : Option Int) : Dq F H (oI o) (oD o) := by
  cases o with
  | none => exact .non
  | some i => exact .int i
theorem dq_oI' {F : Addr → Prop} {H : Hp} {o : Option Int} {v : V} (h : Dq F H v (oD o)) : v = oI o := by
  cases o with
  | none =>
    cases h
    rfl
  | some i =>
    cases h
    rfl
theorem tabIs {F : Addr → Prop} {H : Hp} {v : V} {t : Tab} (h : Dq F H v t.d) : ∃ a, v = .ref a ∧ F a ∧ H a = some (.tup t.vs) := by
  cases h with
  | tup f e al =>
    cases al with
    | cons h1 al =>
    cases al with
    | cons h2 al =>
    cases al with
    | cons h3 al =>
    cases al with
    | cons h4 al =>
    cases al with
    | cons h5 al =>
    cases al
    cases h1
    cases h2
    cases h3
    cases h4
    cases h5
    exact ⟨_, rfl, f, e⟩
theorem pairIs {F : Addr → Prop} {H : Hp} {v : V} {p : Option Int × Option Int} (h : Dq F H v (pairD p)) : ∃ a, v = .ref a ∧ F a ∧ H a = some (.tup (pairV p)) := by
  cases h with
  | tup f e al =>
    cases al with
    | cons h1 al =>
    cases al with
    | cons h2 al =>
    cases al
    rw [dq_oI' h1, dq_oI' h2] at e
    exact ⟨_, rfl, f, e⟩
def canTell (ts : List Tab) (p : Prn) : Bool := !((doTurnBack (ts.map fun t => (stretchBy t p).1)) || (doTurnBack (ts.map fun t => (stretchBy t p).2)))
section
variable {P : Program} {w : World} {K : Frag} {mg : Str → Option Value} {base : Heap}
abbrev scT : Scope := { kind := .function, names := [(".0", .local), ("at", .cell), ("do_turn_back", .globalImplicit), ("stretches", .cell)], isGenerator := false, isCoroutine := false }
def sp_can_tell : Sp := fun vs H Q _ => ∃ (F : Addr → Prop) (v : V) (ts : List Tab) (p : Prn), vs = [v, p.v] ∧ Dq F H v (tabsD ts) ∧ ts.length ≤ 1000 ∧ (∀ t ∈ ts, t.ok = true) ∧ RetS H (.bl (canTell ts p)) Q
theorem has_can_tell (F : Fn K mg "can_tell" s_can_tell) (hS : Has P w K mg base 2 "stretch_by" P_stretch_by [] (sp_stretch_by K)) (hD : Has P w K mg base 1 "do_turn_back" P_do_turn_back [] (sp_do_turn_back K)) (gR : mg "range" = none) (gA : mg "any" = none) (cP : CI mg "PAIR" 2) : Has P w K mg base 3 "can_tell" P_can_tell [] sp_can_tell := by
  obtain ⟨⟨fd, F⟩, g⟩ := F
  refine ⟨⟨fd, [], ?_, F.kp, .nil, F.bindsN fun _ _ _ _ _ _ us hl => match us, hl with | [_, _], _ => rfl⟩, g⟩
  refine F.ok sc_can_tell (fun vs H Q E h => ?_) (fun cdv A outer s H vs Q E hr h' => ?_)
  · obtain ⟨F, v, ts, p, rfl, _⟩ := h
    rfl
  · obtain ⟨F, v, ts, p, rfl, hd, hl, hok, hq⟩ := h'
    refine ⟨_, PSs.nox (pss_cons (ps_set (i := 2) sc_can_tell.nd rfl (Or.inr rfl) (pe_lc (own := [("table", 3)]) (g := gName 3) (tt := tYes) rfl sc_can_tell.nd (pi_tup (pv 0)) (blkOk_by (N := N_can_tell) (sc := defScope s_can_tell) (by decide +kernel))
        (fun _ _ _ _ _ => pg_name (i := 3) sc_can_tell.nd rfl (Or.inl rfl)) (fun _ _ _ _ _ => pts_nil) (fun _ _ _ _ _ => pe_has hS hr (pa_cons (pv 3) (pa_cons (pv 1) pa_nil)))))
      (pss_one (ps_ret (pe_not (pe_callB (cr_any rfl) (by rfl) gA (by decide +kernel) (pa_cons (pe_lc (own := [("at", 5)]) (g := gName 5) (tt := tYes) (te := tCall (sp_do_turn_back K) [] E0 (tCons (tLc (iList K (tVar 2)) (gName 4) tYes (tOp (rIxT K) (tVar 4) (tVar 5)) [4]) tNil)) rfl sc_can_tell.nd (pi_range1 (by rfl) gR (pa_cons (pe_ci cP) pa_nil)) (blkOk_by (N := N_can_tell) (sc := defScope s_can_tell) (by decide +kernel))
        (fun _ _ _ _ _ => pg_name (i := 5) sc_can_tell.nd rfl (Or.inr rfl)) (fun _ _ _ _ _ => pts_nil) (fun _ _ _ _ _ => pe_has (hD.mono (by omega)) hr (pa_cons (pe_lc (own := [("stretch", 4)]) (wi := iList K (tVar 2)) (g := gName 4) (tt := tYes) (te := tOp (rIxT K) (tVar 4) (tVar 5)) rfl sc_can_tell.nd (pi_list (pv 2)) (blkOk_by (N := N_can_tell) (sc := scT) (by decide +kernel))
          (fun _ _ _ _ _ => pg_name (i := 4) sc_can_tell.nd rfl (Or.inl rfl)) (fun _ _ _ _ _ => pts_nil) (fun _ _ _ _ _ => pe_ix ix_tup (pv 4) (pv 5) (fun _ _ => rfl))) pa_nil))) pa_nil)))))), ?_⟩
    cases hd with
    | @tup a xs _ f e al =>
    have lx : xs.length = ts.length := by
      rw [al.len, List.length_map]
    refine ⟨_, rfl, a, rfl, ⟨_, SqT.of e⟩, fun D nD => lc_data walk_tup nD (ts.map fun t => pairD (stretchBy t p)) (by rw [List.length_map, lx]) (by omega) (fun Hc sc => SqT.of (sc _ _ e)) ?_ ?_⟩
    · rintro i x d Hc Hc' k hd' sc ⟨rfl, hx⟩ hk
      rw [List.getElem?_map, Option.map_eq_some_iff] at hd'
      obtain ⟨t, ht, rfl⟩ := hd'
      obtain ⟨d, hd2, dq⟩ := al.get hx
      rw [List.getElem?_map, ht] at hd2
      cases hd2
      obtain ⟨b, rfl, _, eb⟩ := tabIs dq
      refine ⟨rfl, _, rfl, _, rfl, b, t, p, rfl, SqT.of (sc _ _ eb), hok t (List.mem_of_getElem? ht), fun H4 c s4 nc ec => ?_⟩
      exact hk _ H4 s4 (.tup nc ec (.cons (dq_oI _) (.cons (dq_oI _) .nil)))
    · intro Hc sc dq
      cases dq with
      | @lst _ ys _ fD eD alD =>
      have ly : ys.length = ts.length := by
        rw [alD.len, List.length_map]
      refine ⟨2, rfl, (by omega), (by omega), fun D1 nD1 => lc_vals walk_range nD1 ([doTurnBack (ts.map fun t => (stretchBy t p).1), doTurnBack (ts.map fun t => (stretchBy t p).2)].map V.bl) rfl (by decide) (fun _ _ => True.intro) ?_ ?_⟩
      · rintro i x y H1 H1' k hy s1 ⟨rfl, rfl⟩ hk
        have hi : ∃ f : Option Int × Option Int → Option Int, (∀ q, atI (pairV q) (0 + (i : Int)) = some (oI (f q))) ∧ y = .bl (doTurnBack (ts.map fun t => f (stretchBy t p))) := by
          match i, hy with
          | 0, hy => exact ⟨Prod.fst, fun q => atI_nat (j := 0) rfl, (Option.some.inj hy).symm⟩
          | 1, hy => exact ⟨Prod.snd, fun q => atI_nat (j := 1) rfl, (Option.some.inj hy).symm⟩
          | i + 2, hy =>
            simp at hy
        obtain ⟨pj, hpj, rfl⟩ := hi
        refine ⟨rfl, _, rfl, D, rfl, ⟨_, SqL.of (s1 _ _ eD)⟩, fun D2 nD2 => lc_vals walk_list nD2 ((ts.map fun t => pj (stretchBy t p)).map oI) (by rw [List.length_map, List.length_map, ly]) (by omega) (fun H2 s2 => SqL.of (s2 _ _ (s1 _ _ eD))) ?_ ?_⟩
        · rintro j x y H2 H2' k2 hy sc2 ⟨rfl, hx⟩ hk2
          obtain ⟨d, hd2, dq⟩ := alD.get hx
          rw [List.getElem?_map, Option.map_eq_some_iff] at hd2
          obtain ⟨t, ht, rfl⟩ := hd2
          rw [List.getElem?_map, List.getElem?_map, ht] at hy
          have hy : oI (pj (stretchBy t p)) = y := Option.some.inj hy
          subst hy
          obtain ⟨b, rfl, _, eb⟩ := pairIs dq
          exact ⟨rfl, _, rfl, _, rfl, b, _, _, _, rfl, rfl, SqT.of (sc2 _ _ (s1 _ _ eb)), hpj _, hk2 _ (Same.refl _)⟩
        · intro H2 sc2 e2
          refine ⟨D2, _, rfl, SqL.of e2, by rw [List.length_map]; exact hl, fun H3 s3 => hk _ ?_⟩
          exact fun b o z => s3 _ _ (sc2 _ _ z)
      · intro H1 s1 e1
        refine ⟨D1, _, rfl, SqL.of e1, _, rfl, ?_⟩
        have e : canTell ts p = !([doTurnBack (ts.map fun t => (stretchBy t p).1), doTurnBack (ts.map fun t => (stretchBy t p).2)].any id) := by
          unfold canTell
          simp
        rw [e] at hq
        exact hq H1 fun b o z => s1 _ _ (sc _ _ z)
end
end G

set_option Elab.async false
set_option linter.all false
set_option maxRecDepth 100000
set_option maxHeartbeats 4000000
namespace U
open PySem PySem.Spec PyProof.Rows L2
open PySem.W (Frag)
/-! ### a field, of an instance or of one with slots -/
def AttrAt (K : Frag) (H : Hp) (x : V) (f : Str) (v : V) : Prop :=
  (∃ a C dx fs, x = .ref a ∧ H a = some (.ins C dx fs) ∧ Cls K C ∧ NoAttr K C f ∧ fs.lookup f = some v) ∨
  ∃ a C dx p vs i, x = .ref a ∧ SlX.Slt H a C dx vs ∧ SlX.SCls K C ∧ SlX.Slot1 K C f p i ∧ vs[i]? = some (some v)
def tAt (K : Frag) (ta : TE) (f : Str) : TE := fun σ H Q => ta σ H fun x H1 => ∃ v, AttrAt K H1 x f v ∧ Q v H1
theorem AttrAt.same {K : Frag} {H H' : Hp} {x v : V} {f : Str} (h : AttrAt K H x f v) (s : Same H H') : AttrAt K H' x f v := by
  rcases h with ⟨a, C, dx, fs, e, h, r⟩ | ⟨a, C, dx, p, vs, i, e, h, r⟩
  · exact .inl ⟨a, C, dx, fs, e, s _ _ h, r⟩
  · refine .inr ⟨a, C, dx, p, vs, i, e, ?_, r⟩
    rcases h with ⟨h, z⟩ | ⟨h, z⟩
    · exact .inl ⟨s _ _ h, z⟩
    · exact .inr ⟨s _ _ h, s _ _ z⟩
section
variable {X : Cx}
theorem pe_attr {e : Expr} {f : Str} {pos : Pos} {ta : TE} (he : PE X e ta) (hb : attributeBase e f X.env (eval e X.env) = eval e X.env := by rfl) : PE X (.Attribute e f pos) (tAt X.K ta f) := by
  refine ⟨fun pins s σ H Q I h => ?_⟩
  refine attr_of hb (thn (he.run pins s σ H _ I h) fun u s1 ⟨x, H1, I1, rx, v, ha, q⟩ => ?_)
  rcases ha with ⟨a, C, dx, fs, rfl, h1, h2, h3, h4⟩ | ⟨a, C, dx, p, vs, i, rfl, h1, h2, h3, h4⟩
  · obtain rfl : u = Value.ref a := rx
    exact getattr_ok I1 h1 h2 h3 h4 fun u' s2 I2 ru => ⟨v, H1, I2, ru, q⟩
  · obtain rfl : u = Value.ref a := rx
    exact SlX.getslot_ok I1 h1 h2 h3 h4 fun u' s2 I2 ru => ⟨v, H1, I2, ru, q⟩
/-! ### written tuples of words -/
def CT (K : Frag) (mg : Str → Option Value) (x : Str) (vs : List V) : Prop := ∃ a, mg x = some (.ref a) ∧ ∀ H, SqT K H a vs
theorem pe_ct {K : Frag} {x : Str} {vs : List V} {pos : Pos} (h : CT K X.mg x vs) (hg : Gl X x := by rfl) (hd : (x == ("__debug__" : Str)) = false := by decide) : ∃ a, (∀ H, SqT K H a vs) ∧ PE X (.Name x pos) (tC (.ref a)) := by
  obtain ⟨a, h, q⟩ := h
  exact ⟨a, q, pe_glob hg h rfl hd⟩
end
/-! ### dicts read back -/
theorem zip_two {α β : Type} : ∀ {as : List α} {bs : List β} {ps : List (α × β)}, as.length = bs.length → as.zip bs = ps → as = ps.map (·.1) ∧ bs = ps.map (·.2)
  | [], [], _, _, h => by
    subst h
    exact ⟨rfl, rfl⟩
  | [], _ :: _, _, l, _ => by cases l
  | _ :: _, [], _, l, _ => by cases l
  | a :: as, b :: bs, ps, l, h => by
    subst h
    obtain ⟨h1, h2⟩ := zip_two (ps := as.zip bs) (Nat.succ.inj l) rfl
    exact ⟨by rw [List.zip_cons_cons, List.map_cons, ← h1], by rw [List.zip_cons_cons, List.map_cons, ← h2]⟩
theorem dk_inv {F : Addr → Prop} {H : Hp} {v : V} {ps : List (PyData × PyData)} (h : Dq F H v (.dict ps)) : ∃ a kvs, v = .ref a ∧ F a ∧ H a = some (.dK kvs) ∧ (kvs.map fun kv => kD kv.1) = ps.map (·.1) ∧ DqAll F H (kvs.map (·.2)) (ps.map (·.2)) := by
  generalize hd : PyData.dict ps = d at h
  cases h with
  | @dk a kvs ds f e al =>
    have hd : ps = _ := PyData.dict.inj hd
    have l := al.len
    rw [List.length_map] at l
    obtain ⟨h1, h2⟩ := zip_two (ps := ps) (by rw [List.length_map]; exact l) hd.symm
    exact ⟨a, kvs, rfl, f, e, h1, h2 ▸ al⟩
  | non => cases hd
  | bl => cases hd
  | int => cases hd
  | str => cases hd
  | lst => cases hd
  | tup => cases hd
theorem dk_mk {F : Addr → Prop} {H : Hp} {a : Addr} {kvs : List (Key × V)} {ps : List (PyData × PyData)} (f : F a) (e : H a = some (.dK kvs)) (h1 : (kvs.map fun kv => kD kv.1) = ps.map (·.1)) (h2 : DqAll F H (kvs.map (·.2)) (ps.map (·.2))) : Dq F H (.ref a) (.dict ps) := by
  have z := Dq.dk f e h2
  rw [h1] at z
  have : (ps.map (·.1)).zip (ps.map (·.2)) = ps := by
    rw [List.zip_map']
    simp
  rw [this] at z
  exact z
theorem kD_str {k : Key} {s : Str} (h : kD k = .str s) : k = Sum.inr s := by
  cases k with
  | inl i => cases h
  | inr x =>
    cases h
    rfl
theorem keys_str {α : Type} {kvs : List (Key × V)} {f : α → Str} {xs : List α} (h : (kvs.map fun kv => kD kv.1) = xs.map fun x => .str (f x)) : kvs.map (·.1) = (xs.map f).map Sum.inr := by
  induction xs generalizing kvs with
  | nil =>
    cases kvs with
    | nil => rfl
    | cons _ _ => cases h
  | cons x xs ih =>
    cases kvs with
    | nil => cases h
    | cons kv kvs =>
      obtain ⟨h1, h2⟩ := List.cons.inj h
      rw [List.map_cons, ih h2, kD_str h1]
      rfl
end U

set_option Elab.async false
set_option linter.all false
set_option maxRecDepth 100000
set_option maxHeartbeats 4000000
namespace G
open PySem PySem.Spec PyProof.Rows L2 U
open PySem.W (Frag)
/-! ### literals and claims -/
abbrev Labs := List (Str × List Tab)
abbrev People := List (Str × Int × Int)
def labsD (ls : Labs) : PyData := .dict (ls.map fun l => (.str l.1, tabsD l.2))
def peopleD (ps : People) : PyData := .dict (ps.map fun p => (.str p.1, .tuple [.int p.2.1, .int p.2.2]))
def tabsOf (ls : Labs) (s : Str) : Option (List Tab) := (ls.find? fun l => decide (l.1 = s)).map (·.2)
def manyT (ls : Labs) : PyData → Int
  | .str s => match tabsOf ls s with
    | some ts => ts.length
    | none => 0
  | _ => 0
def wLit : List Str := ["from", "before"]
def wBnd : List Str := ["least", "most"]
def isLitD (ls : Labs) : PyData → Bool
  | .tuple [x0, x1, x2, x3] => isWordD x0 wLit && (isWordD x1 (ls.map (·.1)) && (isDayD x2 && isIntD x3 (some 1) (some (manyT ls x1 - 1))))
  | _ => false
def sameI : PyData → PyData → Bool
  | .int i, .int j => decide (i = j)
  | _, _ => false
def isClaimD (ps : People) (ls : Labs) (d : PyData) : Bool := isLitD ls d || match d with
  | .tuple [x0, x1, x2, x3] => isWordD x0 wBnd && (isWordD x1 (ps.map (·.1)) && (isDayD x2 && isIntD x3 none none))
  | .tuple [x0, x1, x2, x3, x4] => isWordD x0 ["rose"] && (isWordD x1 (ps.map (·.1)) && (isDayD x2 && (isDayD x3 && (!(sameI x2 x3) && isIntD x4 none none))))
  | _ => false
theorem tup4 {d : PyData} (h : isTupD d 4 = true) : ∃ x0 x1 x2 x3, d = .tuple [x0, x1, x2, x3] := by
  cases d with
  | tuple ds =>
    have h : ds.length = 4 := by
      have := of_decide_eq_true h
      omega
    match ds, h with
    | [x0, x1, x2, x3], _ => exact ⟨x0, x1, x2, x3, rfl⟩
  | _ => cases h
theorem not4 {ls : Labs} {d : PyData} (h : isTupD d 4 = false) : isLitD ls d = false := by
  unfold isLitD
  split
  · cases h
  · rfl
section
variable {P : Program} {w : World} {K : Frag} {mg : Str → Option Value} {base : Heap}
theorem labs_words {F : Addr → Prop} {H : Hp} {v : V} {ls : Labs} (h : Dq F H v (labsD ls)) : ∃ a, v = .ref a ∧ WordsAt K H a (ls.map (·.1)) := by
  obtain ⟨a, kvs, rfl, _, e, k, _⟩ := dk_inv h
  refine ⟨a, rfl, .inr ⟨kvs, e, ?_⟩⟩
  rw [List.map_map] at k
  exact keys_str (f := fun l : Str × List Tab => l.1) k
theorem people_words {F : Addr → Prop} {H : Hp} {v : V} {ps : People} (h : Dq F H v (peopleD ps)) : ∃ a, v = .ref a ∧ WordsAt K H a (ps.map (·.1)) := by
  obtain ⟨a, kvs, rfl, _, e, k, _⟩ := dk_inv h
  refine ⟨a, rfl, .inr ⟨kvs, e, ?_⟩⟩
  rw [List.map_map] at k
  exact keys_str (f := fun l : Str × Int × Int => l.1) k
/-- a dict's value by its key -/
theorem val_at {α : Type} {F : Addr → Prop} {H : Hp} {f : α → Str} {g : α → PyData} {s : Str} : ∀ {xs : List α} {kvs : List (Key × V)}, kvs.map (·.1) = (xs.map f).map Sum.inr → DqAll F H (kvs.map (·.2)) (xs.map g) → ∀ x, xs.find? (fun x => decide (f x = s)) = some x → ∃ v, valV kvs (Sum.inr s) = some v ∧ Dq F H v (g x)
  | [], _, _, _, x, h => by simp at h
  | y :: ys, [], h, _, x, _ => by cases h
  | y :: ys, (k, v) :: kvs, h, al, x, hx => by
    obtain ⟨h1, h2⟩ := List.cons.inj h
    have h1 : k = Sum.inr (f y) := h1
    subst h1
    cases al with
    | cons q al =>
      unfold valV
      rw [List.find?_cons] at hx ⊢
      by_cases e : f y = s
      · rw [decide_eq_true e] at hx
        have hx : y = x := Option.some.inj hx
        subst hx
        subst e
        rw [decide_eq_true rfl]
        exact ⟨v, rfl, q⟩
      · rw [decide_eq_false e] at hx
        rw [decide_eq_false fun z => e (Sum.inr.inj z)]
        have := val_at h2 al x hx
        unfold valV at this
        exact this
theorem labs_get {F : Addr → Prop} {H : Hp} {v : V} {ls : Labs} {s : Str} {ts : List Tab} (h : Dq F H v (labsD ls)) (hs : tabsOf ls s = some ts) : ∃ a u, v = .ref a ∧ DGet H a (.str s) (some u) ∧ Dq F H u (tabsD ts) := by
  obtain ⟨a, kvs, rfl, _, e, k, al⟩ := dk_inv h
  rw [List.map_map] at k al
  unfold tabsOf at hs
  rw [Option.map_eq_some_iff] at hs
  obtain ⟨l, hl, rfl⟩ := hs
  obtain ⟨u, hu, dq⟩ := val_at (f := fun l : Str × List Tab => l.1) (g := fun l => tabsD l.2) (keys_str k) al l hl
  exact ⟨a, u, rfl, hu ▸ DGet.k (k := Sum.inr s) e, dq⟩
theorem word_tabs {ls : Labs} {d : PyData} (h : isWordD d (ls.map (·.1)) = true) : ∃ s ts, d = .str s ∧ tabsOf ls s = some ts := by
  cases d with
  | str s =>
    have h : s ∈ ls.map (·.1) := of_decide_eq_true h
    obtain ⟨l, hl, e⟩ := List.mem_map.mp h
    cases q : ls.find? (fun l => decide (l.1 = s)) with
    | some l' =>
      refine ⟨s, l'.2, rfl, ?_⟩
      unfold tabsOf
      rw [q]
      rfl
    | none =>
      rw [List.find?_eq_none] at q
      exact absurd (decide_eq_true e) (q l hl)
  | _ => cases h
def sp_is_literal (K : Frag) : Sp := fun vs H Q _ => ∃ (F G : Addr → Prop) (c lv v : V) (ls : Labs) (d : PyData), vs = [c, v] ∧ AttrAt K H c "own_labs" lv ∧ Dq F H lv (labsD ls) ∧ Dq G H v d ∧ Q (.bl (isLitD ls d)) H
theorem has_is_literal (F : Fn K mg "is_literal" s_is_literal) (hT : Has P w K mg base 1 "is_tuple" P_is_tuple [] sp_is_tuple) (hW : Has P w K mg base 1 "is_word" P_is_word [] (sp_is_word K)) (hD : Has P w K mg base 2 "is_day" P_is_day [] sp_is_day) (hI : Has P w K mg base 1 "is_integer" P_is_integer [] sp_is_integer)
    (gL : mg "len" = none) (c4 : CI mg "FOUR" 4) (cL : CT K mg "LITERALS" (wLit.map V.str)) : Has P w K mg base 3 "is_literal" P_is_literal [] (sp_is_literal K) := by
  obtain ⟨⟨fd, F⟩, g⟩ := F
  refine ⟨⟨fd, [], ?_, F.kp, .nil, F.bindsN fun _ _ _ _ _ _ us hl => match us, hl with | [_, _], _ => rfl⟩, g⟩
  obtain ⟨aL, mL, qL⟩ := cL
  refine F.ok sc_is_literal (fun vs H Q E h => ?_) (fun cdv A outer s H vs Q E hr h' => ?_)
  · obtain ⟨F, G, c, lv, v, ls, d, rfl, _⟩ := h
    rfl
  · obtain ⟨F, G, c, lv, v, ls, d, rfl, hc, hl, hd, hq⟩ := h'
    refine ⟨_, PSs.nox (pss_cons (ps_if (PW.pt (pw_or (pt_not (pt_val (pe_has (hT.mono (by omega)) hr (pa_cons (pv 1) (pa_cons (pe_ci c4) pa_nil)))))
        (pw_or (pt_not (pt_val (pe_has (hW.mono (by omega)) hr (pa_cons (pe_ix ix_tup (pv 1) pe_int (fun _ _ => rfl)) (pa_cons (pe_glob (by rfl) mL (v := .ref aL) rfl) pa_nil)))))
        (pw_or1 (pt_not (pt_val (pe_has (hW.mono (by omega)) hr (pa_cons (pe_ix ix_tup (pv 1) pe_int (fun _ _ => rfl)) (pa_cons (pe_attr (pv 0)) pa_nil))))))))) (pss_one (ps_ret pe_bl)) pss_nil)
      (pss_one (ps_ret (pe_and (pe_has hD hr (pa_cons (pe_ix ix_tup (pv 1) pe_int (fun _ _ => rfl)) pa_nil))
        (pe_one (pe_has (hI.mono (by omega)) hr (pa_cons (pe_ix ix_tup (pv 1) (pe_un un_neg pe_int) (fun _ _ => rfl)) (pa_cons pe_int (pa_cons (pe_sub (pe_callB call_len_seq (by rfl) gL PySem.boot_len (pa_cons (pe_dget (hu_of hr) (pe_attr (pv 0)) (pe_ix ix_tup (pv 1) pe_int (fun _ _ => rfl)) (by intro _ _; rfl)) pa_nil)) pe_int) pa_nil))))))))), ?_⟩
    refine ⟨_, rfl, G, v, d, 4, rfl, hd, _, rfl, ?_⟩
    cases h4 : isTupD d 4 with
    | false =>
      refine iteT ?_
      refine iteT ?_
      rw [not4 h4] at hq
      exact hq
    | true =>
    refine iteF ?_
    obtain ⟨x0, x1, x2, x3, rfl⟩ := tup4 h4
    cases hd with
    | @tup a xs _ f e al =>
    cases al with
    | @cons v0 _ _ _ d0 al =>
    cases al with
    | @cons v1 _ _ _ d1 al =>
    cases al with
    | @cons v2 _ _ _ d2 al =>
    cases al with
    | @cons v3 _ _ _ d3 al =>
    cases al
    refine ⟨_, rfl, a, _, 0, v0, rfl, rfl, SqT.of e, atI_nat (j := 0) rfl, G, v0, x0, aL, wLit, rfl, d0, .inl (qL H), _, rfl, ?_⟩
    have hq : Q (.bl (isWordD x0 wLit && (isWordD x1 (ls.map (·.1)) && (isDayD x2 && isIntD x3 (some 1) (some (manyT ls x1 - 1)))))) H := hq
    cases h0 : isWordD x0 wLit with
    | false =>
      refine iteT ?_
      refine iteT ?_
      rw [h0] at hq
      exact hq
    | true =>
    refine iteF ?_
    rw [h0, Bool.true_and] at hq
    obtain ⟨b, rfl, wb⟩ := labs_words (K := K) hl
    refine ⟨_, rfl, a, _, 1, v1, rfl, rfl, SqT.of e, atI_nat (j := 1) rfl, _, rfl, _, hc, G, v1, x1, b, ls.map (·.1), rfl, d1, wb, _, rfl, ?_⟩
    cases h1 : isWordD x1 (ls.map (·.1)) with
    | false =>
      refine iteT ?_
      rw [h1] at hq
      exact hq
    | true =>
    refine iteF ?_
    rw [h1, Bool.true_and] at hq
    refine ⟨_, rfl, a, _, 2, v2, rfl, rfl, SqT.of e, atI_nat (j := 2) rfl, G, v2, x2, rfl, d2, _, rfl, ?_⟩
    refine and_go hq fun _ hq => ?_
    obtain ⟨sn, ts, rfl, hts⟩ := word_tabs h1
    cases d1
    obtain ⟨b', u, eb, hg, du⟩ := labs_get hl hts
    cases eb
    cases du with
    | @tup at' ys _ _ et alt =>
    have lt : ys.length = ts.length := by
      rw [alt.len, List.length_map]
    refine ⟨_, rfl, ⟨1, rfl, a, _, -1, v3, rfl, rfl, SqT.of e, rfl, ?_⟩⟩
    refine ⟨_, rfl, _, hc, ⟨_, rfl, a, _, 1, _, rfl, rfl, SqT.of e, atI_nat (j := 1) rfl, b, _, rfl, hg, at', ys, rfl, .inr (SqT.of et), ?_⟩⟩
    refine ⟨_, _, rfl, rfl, G, v3, x3, some 1, some _, rfl, d3, ?_⟩
    have em : manyT ls (.str sn) = (ys.length : Int) := by
      show (match tabsOf ls sn with | some ts => (ts.length : Int) | none => 0) = _
      rw [hts, lt]
    rw [em] at hq
    exact hq
end
end G

set_option Elab.async false
set_option linter.all false
set_option maxRecDepth 100000
set_option maxHeartbeats 4000000
namespace G
open PySem PySem.Spec PyProof.Rows L2 U
open PySem.W (Frag)
def restD (ps : People) : PyData → Bool
  | .tuple [x0, x1, x2, x3] => isWordD x0 wBnd && (isWordD x1 (ps.map (·.1)) && (isDayD x2 && isIntD x3 none none))
  | .tuple [x0, x1, x2, x3, x4] => isWordD x0 ["rose"] && (isWordD x1 (ps.map (·.1)) && (isDayD x2 && (isDayD x3 && (!(sameI x2 x3) && isIntD x4 none none))))
  | _ => false
theorem claim_eq (ps : People) (ls : Labs) (d : PyData) : isClaimD ps ls d = (isLitD ls d || restD ps d) := rfl
theorem tup5 {d : PyData} (h : isTupD d 5 = true) : ∃ x0 x1 x2 x3 x4, d = .tuple [x0, x1, x2, x3, x4] := by
  cases d with
  | tuple ds =>
    have h : ds.length = 5 := by
      have := of_decide_eq_true h
      omega
    match ds, h with
    | [x0, x1, x2, x3, x4], _ => exact ⟨x0, x1, x2, x3, x4, rfl⟩
  | _ => cases h
theorem not45 {ps : People} {d : PyData} (h : isTupD d 4 = false) (h5 : isTupD d 5 = false) : restD ps d = false := by
  unfold restD
  split
  · cases h
  · cases h5
  · rfl
theorem day_int {d : PyData} (h : isDayD d = true) : ∃ i, d = .int i := by
  cases d with
  | int i => exact ⟨i, rfl⟩
  | _ => cases h
section
variable {P : Program} {w : World} {K : Frag} {mg : Str → Option Value} {base : Heap}
def sp_is_claim (K : Frag) : Sp := fun vs H Q _ => ∃ (F F' G : Addr → Prop) (c lv pv v : V) (ls : Labs) (ps : People) (d : PyData), vs = [c, v] ∧ AttrAt K H c "own_labs" lv ∧ Dq F H lv (labsD ls) ∧ AttrAt K H c "own_people" pv ∧ Dq F' H pv (peopleD ps) ∧ Dq G H v d ∧ RetS H (.bl (isClaimD ps ls d)) Q
theorem has_is_claim (F : Fn K mg "is_claim" s_is_claim) (hL : Has P w K mg base 3 "is_literal" P_is_literal [] (sp_is_literal K)) (hT : Has P w K mg base 1 "is_tuple" P_is_tuple [] sp_is_tuple) (hW : Has P w K mg base 1 "is_word" P_is_word [] (sp_is_word K)) (hD : Has P w K mg base 2 "is_day" P_is_day [] sp_is_day) (hI : Has P w K mg base 1 "is_integer" P_is_integer [.non, .non] sp_is_integer)
    (c4 : CI mg "FOUR" 4) (c5 : CI mg "FIVE" 5) (cR : CS mg "ROSE" "rose") (cB : CT K mg "BOUNDS" (wBnd.map V.str)) : Has P w K mg base 4 "is_claim" P_is_claim [] (sp_is_claim K) := by
  obtain ⟨⟨fd, F⟩, g⟩ := F
  refine ⟨⟨fd, [], ?_, F.kp, .nil, F.bindsN fun _ _ _ _ _ _ us hl => match us, hl with | [_, _], _ => rfl⟩, g⟩
  obtain ⟨aB, mB, qB⟩ := cB
  refine F.ok sc_is_claim (fun vs H Q E h => ?_) (fun cdv A outer s H vs Q E hr h' => ?_)
  · obtain ⟨F, F', G, c, lv, pv, v, ls, ps, d, rfl, _⟩ := h
    rfl
  · obtain ⟨F, F', G, c, lv, pv0, v, ls, ps, d, rfl, hc, hl, hcp, hp, hd, hq⟩ := h'
    refine ⟨_, PSs.nox (pss_cons (ps_if (pt_val (pe_has hL hr (pa_cons (pv 0) (pa_cons (pv 1) pa_nil)))) (pss_one (ps_ret pe_bl)) pss_nil)
      (pss_cons (ps_if (pt_val (pe_has (hT.mono (by omega)) hr (pa_cons (pv 1) (pa_cons (pe_ci c4) pa_nil))))
        (pss_cons (ps_if (PW.pt (pw_or (pt_not (pt_val (pe_has (hW.mono (by omega)) hr (pa_cons (pe_ix ix_tup (pv 1) pe_int (fun _ _ => rfl)) (pa_cons (pe_glob (by rfl) mB (v := .ref aB) rfl) pa_nil)))))
          (pw_or1 (pt_not (pt_val (pe_has (hW.mono (by omega)) hr (pa_cons (pe_ix ix_tup (pv 1) pe_int (fun _ _ => rfl)) (pa_cons (pe_attr (pv 0)) pa_nil)))))))) (pss_one (ps_ret pe_bl)) pss_nil)
        (pss_one (ps_ret (pe_and (pe_has (hD.mono (by omega)) hr (pa_cons (pe_ix ix_tup (pv 1) pe_int (fun _ _ => rfl)) pa_nil)) (pe_one (pe_has (hI.mono (by omega)) hr (pa_cons (pe_ix ix_tup (pv 1) (pe_un un_neg pe_int) (fun _ _ => rfl)) pa_nil))))))) pss_nil)
      (pss_cons (ps_if (PW.pt (pw_or (pt_not (pt_val (pe_has (hT.mono (by omega)) hr (pa_cons (pv 1) (pa_cons (pe_ci c5) pa_nil)))))
        (pw_or (pt_not (pt_val (pe_has (hW.mono (by omega)) hr (pa_cons (pe_ix ix_tup (pv 1) pe_int (fun _ _ => rfl)) (pa_cons (pe_tup (pa_cons (pe_cs cR) pa_nil)) pa_nil)))))
        (pw_or1 (pt_not (pt_val (pe_has (hW.mono (by omega)) hr (pa_cons (pe_ix ix_tup (pv 1) pe_int (fun _ _ => rfl)) (pa_cons (pe_attr (pv 0)) pa_nil))))))))) (pss_one (ps_ret pe_bl)) pss_nil)
      (pss_one (ps_ret (pe_and (pe_has (hD.mono (by omega)) hr (pa_cons (pe_ix ix_tup (pv 1) pe_int (fun _ _ => rfl)) pa_nil)) (pe_and (pe_has (hD.mono (by omega)) hr (pa_cons (pe_ix ix_tup (pv 1) pe_int (fun _ _ => rfl)) pa_nil))
        (pe_and (pe_cmpR op_ne (pe_ix ix_tup (pv 1) pe_int (fun _ _ => rfl)) (pe_ix ix_tup (pv 1) pe_int (fun _ _ => rfl)) (nomark _)) (pe_one (pe_has (hI.mono (by omega)) hr (pa_cons (pe_ix ix_tup (pv 1) (pe_un un_neg pe_int) (fun _ _ => rfl)) pa_nil))))))))))), ?_⟩
    rw [claim_eq] at hq
    refine ⟨_, rfl, _, rfl, F, G, c, lv, v, ls, d, rfl, hc, hl, hd, _, rfl, ?_⟩
    cases hLit : isLitD ls d with
    | true =>
      refine iteT ?_
      rw [hLit] at hq
      exact hq H (Same.refl H)
    | false =>
    refine iteF ?_
    rw [hLit, Bool.false_or] at hq
    refine ⟨_, rfl, G, v, d, 4, rfl, hd, _, rfl, ?_⟩
    obtain ⟨b, rfl, wb⟩ := people_words (K := K) hp
    cases h4 : isTupD d 4 with
    | true =>
      refine iteT ?_
      obtain ⟨x0, x1, x2, x3, rfl⟩ := tup4 h4
      cases hd with
      | @tup a xs _ f e al =>
      cases al with
      | @cons v0 _ _ _ d0 al =>
      cases al with
      | @cons v1 _ _ _ d1 al =>
      cases al with
      | @cons v2 _ _ _ d2 al =>
      cases al with
      | @cons v3 _ _ _ d3 al =>
      cases al
      refine ⟨_, rfl, a, _, 0, v0, rfl, rfl, SqT.of e, atI_nat (j := 0) rfl, G, v0, x0, aB, wBnd, rfl, d0, .inl (qB H), _, rfl, ?_⟩
      have hq : Q (.bl (isWordD x0 wBnd && (isWordD x1 (ps.map (·.1)) && (isDayD x2 && isIntD x3 none none)))) H := hq H (Same.refl H)
      cases h0 : isWordD x0 wBnd with
      | false =>
        refine iteT ?_
        refine iteT ?_
        rw [h0] at hq
        exact hq
      | true =>
      refine iteF ?_
      rw [h0, Bool.true_and] at hq
      refine ⟨_, rfl, a, _, 1, v1, rfl, rfl, SqT.of e, atI_nat (j := 1) rfl, _, rfl, _, hcp, G, v1, x1, b, ps.map (·.1), rfl, d1, wb, _, rfl, ?_⟩
      cases h1 : isWordD x1 (ps.map (·.1)) with
      | false =>
        refine iteT ?_
        rw [h1] at hq
        exact hq
      | true =>
      refine iteF ?_
      rw [h1, Bool.true_and] at hq
      refine ⟨_, rfl, a, _, 2, v2, rfl, rfl, SqT.of e, atI_nat (j := 2) rfl, G, v2, x2, rfl, d2, _, rfl, ?_⟩
      refine and_go hq fun _ hq => ?_
      exact ⟨_, rfl, ⟨1, rfl, a, _, -1, v3, rfl, rfl, SqT.of e, rfl, G, v3, x3, none, none, rfl, d3, hq⟩⟩
    | false =>
      refine iteF ?_
      refine ⟨_, rfl, G, v, d, 5, rfl, hd, _, rfl, ?_⟩
      cases h5 : isTupD d 5 with
      | false =>
        refine iteT ?_
        refine iteT ?_
        rw [not45 h4 h5] at hq
        exact hq H (Same.refl H)
      | true =>
      refine iteF ?_
      obtain ⟨x0, x1, x2, x3, x4, rfl⟩ := tup5 h5
      cases hd with
      | @tup a xs _ f e al =>
      cases al with
      | @cons v0 _ _ _ d0 al =>
      cases al with
      | @cons v1 _ _ _ d1 al =>
      cases al with
      | @cons v2 _ _ _ d2 al =>
      cases al with
      | @cons v3 _ _ _ d3 al =>
      cases al with
      | @cons v4 _ _ _ d4 al =>
      cases al
      refine ⟨_, rfl, a, _, 0, v0, rfl, rfl, SqT.of e, atI_nat (j := 0) rfl, ⟨Nat.le_trans (by show 1 ≤ 1000; omega) sizeLine_ge, fun p np => ?_⟩⟩
      have s1 : Same H (upd H p (.tup [.str "rose"])) := same_new np
      refine ⟨G, v0, x0, p, ["rose"], rfl, d0.same s1, .inl (SqT.of upd_same), _, rfl, ?_⟩
      have hq : Q (.bl (isWordD x0 ["rose"] && (isWordD x1 (ps.map (·.1)) && (isDayD x2 && (isDayD x3 && (!(sameI x2 x3) && isIntD x4 none none)))))) (upd H p (.tup [.str "rose"])) := hq _ s1
      cases h0 : isWordD x0 ["rose"] with
      | false =>
        refine iteT ?_
        refine iteT ?_
        rw [h0] at hq
        exact hq
      | true =>
      refine iteF ?_
      rw [h0, Bool.true_and] at hq
      obtain ⟨b2, eb, wb2⟩ := people_words (K := K) (hp.same s1)
      cases eb
      have e1 := s1 _ _ e
      refine ⟨_, rfl, a, _, 1, v1, rfl, rfl, SqT.of e1, atI_nat (j := 1) rfl, _, rfl, _, hcp.same s1, G, v1, x1, b, ps.map (·.1), rfl, d1.same s1, wb2, _, rfl, ?_⟩
      cases h1 : isWordD x1 (ps.map (·.1)) with
      | false =>
        refine iteT ?_
        rw [h1] at hq
        exact hq
      | true =>
      refine iteF ?_
      rw [h1, Bool.true_and] at hq
      refine ⟨_, rfl, a, _, 2, v2, rfl, rfl, SqT.of e1, atI_nat (j := 2) rfl, G, v2, x2, rfl, d2.same s1, _, rfl, ?_⟩
      refine and_go hq fun q2 hq => ?_
      refine ⟨_, rfl, a, _, 3, v3, rfl, rfl, SqT.of e1, atI_nat (j := 3) rfl, G, v3, x3, rfl, d3.same s1, _, rfl, ?_⟩
      refine and_go hq fun q3 hq => ?_
      obtain ⟨i2, rfl⟩ := day_int q2
      obtain ⟨i3, rfl⟩ := day_int q3
      cases d2
      cases d3
      refine ⟨_, rfl, a, _, 2, _, rfl, rfl, SqT.of e1, atI_nat (j := 2) rfl, _, rfl, a, _, 3, _, rfl, rfl, SqT.of e1, atI_nat (j := 3) rfl, rfl, _, rfl, ?_⟩
      have hq : Q (.bl (!(decide (i2 = i3)) && isIntD x4 none none)) (upd H p (.tup [.str "rose"])) := hq
      rw [dec_int]
      refine and_go hq fun _ hq => ?_
      exact ⟨_, rfl, ⟨1, rfl, a, _, -1, v4, rfl, rfl, SqT.of e1, rfl, G, v4, x4, none, none, rfl, d4.same s1, hq⟩⟩
end
end G

set_option Elab.async false
set_option linter.all false
set_option maxRecDepth 100000
set_option maxHeartbeats 4000000
namespace G
open PySem PySem.Spec PyProof.Rows L2 U
open PySem.W (Frag)
theorem cut_from (xs : List V) (k : Nat) : cutV xs (some (k : Int)) none = xs.drop k := by
  unfold cutV
  rw [HT.sIx_nat, HT.sIx_none]
  by_cases h : k ≤ xs.length
  · rw [Nat.min_eq_left h]
    exact List.take_of_length_le (by rw [List.length_drop]; exact Nat.le_refl _)
  · rw [Nat.min_eq_right (by omega), List.drop_of_length_le (Nat.le_refl _), List.drop_of_length_le (by omega)]
    simp
theorem cut_to (xs : List V) (k : Nat) : cutV xs none (some (k : Int)) = xs.take k := by
  unfold cutV
  rw [HT.sIx_nat, HT.sIx_none, List.drop_zero, Nat.sub_zero]
  by_cases h : k ≤ xs.length
  · rw [Nat.min_eq_left h]
  · rw [Nat.min_eq_right (by omega), List.take_of_length_le (Nat.le_refl _), List.take_of_length_le (by omega)]
def optD : Option PyData → PyData
  | none => .none
  | some d => d
theorem dqall_map {α : Type} {F : Addr → Prop} {H : Hp} {f : α → V} {g : α → PyData} (h : ∀ x, Dq F H (f x) (g x)) : ∀ xs : List α, DqAll F H (xs.map f) (xs.map g)
  | [] => .nil
  | x :: xs => .cons (h x) (dqall_map h xs)
/-- a list of words, each of at most 600 signs -/
structure Wds (ws : List Str) : Prop where
  few : ws.length ≤ 1000
  short : ∀ x ∈ ws, x.length ≤ 600
def claimD (ws : List Str) (ns : List (Option Int)) : PyData := .tuple (ws.map PyData.str ++ ns.map oD)
def claimIn (ps : People) (ls : Labs) (ws : List Str) : Option PyData :=
  if ((ws.drop 2).map integerIn).any (·.isNone) = true then none else
  if isClaimD ps ls (claimD (ws.take 2) ((ws.drop 2).map integerIn)) = true then some (claimD (ws.take 2) ((ws.drop 2).map integerIn)) else none
section
variable {P : Program} {w : World} {K : Frag} {mg : Str → Option Value} {base : Heap}
def sp_claim_in (K : Frag) : Sp := fun vs H Q _ => ∃ (F F' : Addr → Prop) (c lv pv : V) (a : Addr) (ls : Labs) (ps : People) (ws : List Str), vs = [c, .ref a] ∧ AttrAt K H c "own_labs" lv ∧ Dq F H lv (labsD ls) ∧ AttrAt K H c "own_people" pv ∧ Dq F' H pv (peopleD ps) ∧ SqL K H a (ws.map V.str) ∧ Wds ws ∧ Ret H (optD (claimIn ps ls ws)) Q
theorem has_claim_in (F : Fn K mg "claim_in" s_claim_in) (hC : Has P w K mg base 4 "is_claim" P_is_claim [] (sp_is_claim K)) (hI : Has P w K mg base 1 "integer_in" P_integer_in [] sp_integer_in) : Has P w K mg base 5 "claim_in" P_claim_in [] (sp_claim_in K) := by
  obtain ⟨⟨fd, F⟩, g⟩ := F
  refine ⟨⟨fd, [], ?_, F.kp, .nil, F.bindsN fun _ _ _ _ _ _ us hl => match us, hl with | [_, _], _ => rfl⟩, g⟩
  refine F.ok sc_claim_in (fun vs H Q E h => ?_) (fun cdv A outer s H vs Q E hr h' => ?_)
  · obtain ⟨F, F', c, lv, pv, a, ls, ps, ws, rfl, _⟩ := h
    rfl
  · obtain ⟨F, F', c, lv, pv0, a, ls, ps, ws, rfl, hc, hl, hcp, hp, hw, wd, hq⟩ := h'
    refine ⟨_, PSs.nox (pss_cons (ps_setLc (i := 2) (own := [("word", 3)]) (g := gName 3) (tt := tYes) rfl sc_claim_in.nd rfl rfl rfl (pi_list (pe_slice sl_list (pv 1) (po_some pe_int) po_none)) (blkOk_by (N := N_claim_in) (sc := defScope s_claim_in) (by decide +kernel))
        (fun _ _ _ _ _ => pg_name (i := 3) sc_claim_in.nd rfl (Or.inl rfl)) (fun _ _ _ _ _ => pts_nil) (fun _ _ _ _ _ => pe_has (hI.mono (by omega)) hr (pa_cons (pv 3) pa_nil)))
      (pss_cons (ps_if (pt_cmpR op_in_seq pe_non (pv 2) (by rfl)) (pss_one (ps_ret pe_non)) pss_nil)
      (pss_cons (ps_set (i := 4) sc_claim_in.nd rfl (Or.inl rfl) (pe_tup (StX.pa_star (pe_slice sl_list (pv 1) po_none (po_some pe_int)) (StX.pa_star (pv 2) pa_nil))))
      (pss_one (ps_ret (pe_ifExp (pt_val (pe_has hC hr (pa_cons (pv 0) (pa_cons (pv 4) pa_nil)))) (pv 4) pe_non)))))), ?_⟩
    refine ⟨_, rfl, ⟨2, rfl, a, _, rfl, hw, fun p np => ?_⟩⟩
    have e2 := cut_from (ws.map V.str) 2
    have e2' : cutV (ws.map V.str) (some 2) none = (ws.drop 2).map V.str := by
      rw [List.map_drop]
      exact e2
    rw [e2']
    have s1 : Same H (upd H p (.lst ((ws.drop 2).map V.str))) := same_new np
    have len : (ws.drop 2).length ≤ 1000 := by
      rw [List.length_drop]
      have := wd.few
      omega
    refine ⟨p, rfl, ⟨_, SqL.of upd_same⟩, fun D nD => lc_vals walk_list nD (((ws.drop 2).map integerIn).map oI) (by rw [List.length_map, List.length_map, List.length_map]) (by rw [List.length_map]; omega) (fun Hc sc => SqL.of (sc _ _ upd_same)) ?_ ?_⟩
    · rintro i x y Hc Hc' k hy sc ⟨rfl, hx⟩ hk
      rw [List.getElem?_map, Option.map_eq_some_iff] at hx
      obtain ⟨z, hz, rfl⟩ := hx
      rw [List.getElem?_map, List.getElem?_map, hz] at hy
      have hy : oI (integerIn z) = y := Option.some.inj hy
      subst hy
      exact ⟨rfl, _, rfl, z, rfl, wd.short z (List.mem_of_mem_drop (List.mem_of_getElem? hz)), fun H4 s4 => hk H4 s4⟩
    · intro Hc sc eD
      refine ⟨_, rfl, D, _, rfl, .inl (SqL.of eD), rfl, flat_os _, _, rfl, ?_⟩
      rw [show (if false = true then !inV .non (((ws.drop 2).map integerIn).map oI) else inV .non (((ws.drop 2).map integerIn).map oI)) = inV .non (((ws.drop 2).map integerIn).map oI) from rfl, none_in]
      have sH : Same H Hc := fun b o z => sc _ _ (s1 _ _ z)
      cases hN : ((ws.drop 2).map integerIn).any (·.isNone) with
      | true =>
        refine iteT ?_
        have e : claimIn ps ls ws = none := by
          unfold claimIn
          rw [if_pos hN]
        rw [e] at hq
        exact hq .non Hc sH .non
      | false =>
      refine iteF ?_
      have eC : claimIn ps ls ws = (if isClaimD ps ls (claimD (ws.take 2) ((ws.drop 2).map integerIn)) = true then some (claimD (ws.take 2) ((ws.drop 2).map integerIn)) else none) := by
        show (if _ then _ else _) = _
        rw [if_neg (by rw [hN]; decide)]
      refine ⟨_, rfl, ⟨2, rfl, a, _, rfl, sqL_same hw sH, fun p2 np2 => ?_⟩⟩
      have e3 : cutV (ws.map V.str) none (some 2) = (ws.take 2).map V.str := by
        rw [List.map_take]
        exact cut_to (ws.map V.str) 2
      rw [e3]
      have s2 : Same Hc (upd Hc p2 (.lst ((ws.take 2).map V.str))) := same_new np2
      refine ⟨p2, _, rfl, .inr (SqL.of upd_same), _, rfl, D, _, rfl, .inr (SqL.of (s2 _ _ eD)), ?_⟩
      have lens : ((ws.take 2).map V.str ++ (((ws.drop 2).map integerIn).map oI ++ [])).length ≤ 1000 := by
        rw [List.append_nil, List.length_append, List.length_map, List.length_map, List.length_map, List.length_take, List.length_drop]
        have := wd.few
        omega
      refine ⟨Nat.le_trans lens sizeLine_ge, fun p3 np3 => ?_⟩
      have s3 := same_new (o := .tup ((ws.take 2).map V.str ++ (((ws.drop 2).map integerIn).map oI ++ []))) np3
      have sA : Same H (upd (upd Hc p2 (.lst ((ws.take 2).map V.str))) p3 (.tup ((ws.take 2).map V.str ++ (((ws.drop 2).map integerIn).map oI ++ [])))) := fun b o z => s3 _ _ (s2 _ _ (sH _ _ z))
      have dq : Dq (fun b => H b = none) (upd (upd Hc p2 (.lst ((ws.take 2).map V.str))) p3 (.tup ((ws.take 2).map V.str ++ (((ws.drop 2).map integerIn).map oI ++ [])))) (.ref p3) (claimD (ws.take 2) ((ws.drop 2).map integerIn)) := by
        refine .tup (none_of_same sH (none_of_same s2 np3)) upd_same ?_
        rw [List.append_nil]
        exact (dqall_map (fun x => .str x) _).app (dqall_map (fun o => dq_oI o) _)
      refine ⟨_, rfl, _, rfl, F, F', _, c, lv, pv0, _, ls, ps, _, rfl, hc.same sA, hl.same sA, hcp.same sA, hp.same sA, dq, fun H5 s5 => ⟨_, rfl, ?_⟩⟩
      rw [eC] at hq
      cases hB : isClaimD ps ls (claimD (ws.take 2) ((ws.drop 2).map integerIn)) with
      | true =>
        refine iteT ?_
        rw [hB, if_pos rfl] at hq
        exact ⟨_, rfl, hq _ H5 (fun b o z => s5 _ _ (sA _ _ z)) (dq.same s5)⟩
      | false =>
        refine iteF ?_
        rw [hB, if_neg (by decide)] at hq
        exact hq .non H5 (fun b o z => s5 _ _ (sA _ _ z)) .non
end
end G

set_option Elab.async false
set_option linter.all false
set_option maxRecDepth 100000
set_option maxHeartbeats 4000000
namespace G
open PySem PySem.Spec PyProof.Rows L2 U
open PySem.W (Frag)
/-! ### person_in -/
def ratesOf (u d : Str) : Option (Int × Int) := match integerIn u, integerIn d with
  | some a, some b => if 0 ≤ a ∧ 0 ≤ b then some (a, b) else none
  | _, _ => none
def personIn : List Str → Option (Int × Int)
  | [_, n, u, d] => if isName n = true then ratesOf u d else none
  | _ => none
def ratesD (p : Int × Int) : PyData := .tuple [.int p.1, .int p.2]
theorem four_words {ws : List Str} (h : ws.length = 4) : ∃ a b c d, ws = [a, b, c, d] := by
  match ws, h with
  | [a, b, c, d], _ => exact ⟨a, b, c, d, rfl⟩
theorem person_no {ws : List Str} (h : ¬ ws.length = 4) : personIn ws = none := by
  unfold personIn
  split
  · exact absurd rfl h
  · rfl
section
variable {P : Program} {w : World} {K : Frag} {mg : Str → Option Value} {base : Heap}
def sp_person_in (K : Frag) : Sp := fun vs H Q _ => ∃ (a : Addr) (ws : List Str), vs = [.ref a] ∧ SqL K H a (ws.map V.str) ∧ Wds ws ∧ Ret H (optD ((personIn ws).map ratesD)) Q
theorem has_person_in (F : Fn K mg "person_in" s_person_in) (hN : Has P w K mg base 1 "is_name" P_is_name [] sp_is_name) (hI : Has P w K mg base 1 "integer_in" P_integer_in [] sp_integer_in) (gL : mg "len" = none) (gT : mg "tuple" = none) (gM : mg "min" = none) (c4 : CI mg "PERSON_WORDS" 4) (cP : CI mg "PAIR" 2) : Has P w K mg base 2 "person_in" P_person_in [] (sp_person_in K) := by
  obtain ⟨⟨fd, F⟩, g⟩ := F
  refine ⟨⟨fd, [], ?_, F.kp, .nil, F.bindsN fun _ _ _ _ _ _ us hl => match us, hl with | [_], _ => rfl⟩, g⟩
  refine F.ok sc_person_in (fun vs H Q E h => ?_) (fun cdv A outer s H vs Q E hr h' => ?_)
  · obtain ⟨a, ws, rfl, _⟩ := h
    rfl
  · obtain ⟨a, ws, rfl, hw, wd, hq⟩ := h'
    refine ⟨_, PSs.nox (pss_cons (ps_if (PW.pt (pw_or (pt_cmpR op_ne (pe_callB call_len_seq (by rfl) gL PySem.boot_len (pa_cons (pv 0) pa_nil)) (pe_ci c4) (nomark _)) (pw_or1 (pt_not (pt_val (pe_has hN hr (pa_cons (pe_ix ix_list (pv 0) pe_int (fun _ _ => rfl)) pa_nil))))))) (pss_one (ps_ret pe_non)) pss_nil)
      (pss_cons (ps_setLc (i := 1) (own := [("word", 2)]) (g := gName 2) (tt := tYes) rfl sc_person_in.nd rfl rfl rfl (pi_list (pe_slice sl_list (pv 0) (po_some (pe_ci cP)) po_none)) (blkOk_by (N := N_person_in) (sc := defScope s_person_in) (by decide +kernel))
        (fun _ _ _ _ _ => pg_name (i := 2) sc_person_in.nd rfl (Or.inl rfl)) (fun _ _ _ _ _ => pts_nil) (fun _ _ _ _ _ => pe_has hI hr (pa_cons (pv 2) pa_nil)))
      (pss_one (ps_ret (pe_ifExp (PW.pt (pw_and (pt_cmpR op_notIn_seq pe_non (pv 1) (by rfl)) (pw_and1 (pt_cmpR op_ge (pe_callB (cr_min rfl) (by rfl) gM (by decide +kernel) (pa_cons (pv 1) pa_nil)) pe_int (nomark _))))) (pe_tupleOf (by rfl) gT (pv 1)) pe_non))))), ?_⟩
    refine ⟨_, rfl, a, _, rfl, .inl hw, rfl, _, rfl, ?_⟩
    rw [dec_int, List.length_map]
    by_cases h4 : ws.length = 4
    · rw [show (!decide ((ws.length : Int) = 4)) = false from by rw [decide_eq_true (by omega)]; rfl]
      refine iteF ?_
      obtain ⟨w0, n, u, d, rfl⟩ := four_words h4
      have sn := wd.short n (by simp)
      refine ⟨_, rfl, a, _, 1, _, rfl, rfl, hw, atI_nat (j := 1) rfl, n, rfl, by omega, fun H1 s1 => ?_⟩
      refine ⟨_, rfl, ?_⟩
      cases hn : isName n with
      | false =>
        refine iteT ?_
        have e : personIn [w0, n, u, d] = none := by
          show (if isName n = true then _ else _) = _
          rw [hn]
          rfl
        rw [e] at hq
        exact hq .non H1 s1 .non
      | true =>
      refine iteF ?_
      have e : personIn [w0, n, u, d] = ratesOf u d := by
        show (if isName n = true then _ else _) = _
        rw [hn]
        rfl
      rw [e] at hq
      refine ⟨_, rfl, ⟨2, rfl, a, _, rfl, sqL_same hw s1, fun p np => ?_⟩⟩
      have s2 : Same H1 (upd H1 p (.lst (cutV ([w0, n, u, d].map V.str) (some 2) none))) := same_new np
      have ec : cutV ([w0, n, u, d].map V.str) (some 2) none = [.str u, .str d] := cut_from _ 2
      refine ⟨p, rfl, ⟨_, SqL.of upd_same⟩, fun D nD => lc_vals (walk_list (xs := [.str u, .str d])) nD [oI (integerIn u), oI (integerIn d)] rfl (by show 2 ≤ 16000000; omega) (fun Hc sc => SqL.of (sc _ _ (by rw [← ec]; exact upd_same))) ?_ ?_⟩
      · rintro i x y Hc Hc' k hy sc ⟨rfl, hx⟩ hk
        have : ∃ z, x = .str z ∧ y = oI (integerIn z) ∧ z.length ≤ 600 := by
          match i, hx, hy with
          | 0, hx, hy => exact ⟨u, (Option.some.inj hx).symm, (Option.some.inj hy).symm, wd.short u (by simp)⟩
          | 1, hx, hy => exact ⟨d, (Option.some.inj hx).symm, (Option.some.inj hy).symm, wd.short d (by simp)⟩
          | i + 2, hx, hy => simp at hx
        obtain ⟨z, rfl, rfl, lz⟩ := this
        exact ⟨rfl, _, rfl, z, rfl, lz, fun H4 s4 => hk H4 s4⟩
      · intro Hc sc eD
        have eD' : Hc D = some (.lst ([integerIn u, integerIn d].map oI)) := eD
        have sA : Same H Hc := fun b o z => sc _ _ (s2 _ _ (s1 _ _ z))
        refine ⟨_, rfl, D, _, rfl, .inl (SqL.of eD'), rfl, flat_os _, _, rfl, ?_⟩
        rw [show (if true = true then !inV .non ([integerIn u, integerIn d].map oI) else inV .non ([integerIn u, integerIn d].map oI)) = !inV .non ([integerIn u, integerIn d].map oI) from rfl, none_in]
        have fail : ∀ {b : Bool} {A B : Prop}, b = false → B → (if b = true then A else B) := fun e h => by
          rw [e]
          exact iteF h
        cases hu : integerIn u with
        | none =>
          have e : ratesOf u d = none := by
            unfold ratesOf
            rw [hu]
          rw [e] at hq
          exact fail rfl (hq .non Hc sA .non)
        | some iu =>
        cases hd : integerIn d with
        | none =>
          have e : ratesOf u d = none := by
            unfold ratesOf
            rw [hu, hd]
          rw [e] at hq
          exact fail rfl (hq .non Hc sA .non)
        | some id' =>
        have eR : ratesOf u d = (if 0 ≤ iu ∧ 0 ≤ id' then some (iu, id') else none) := by
          unfold ratesOf
          rw [hu, hd]
        rw [eR] at hq
        refine iteT ?_
        rw [hu, hd] at eD'
        refine ⟨_, rfl, D, [iu, id'], rfl, SqL.of eD', (by show 0 < 2; omega), fun m hm hmin => ?_⟩
        refine ⟨_, _, rfl, rfl, _, rfl, ?_⟩
        refine dec_if (fun h0 => ?_) (fun h0 => ?_)
        · have c : 0 ≤ iu ∧ 0 ≤ id' := by
            have h1 := hmin iu (by simp)
            have h2 := hmin id' (by simp)
            omega
          rw [if_pos c] at hq
          refine ⟨_, rfl, .inl ⟨D, _, rfl, SqL.of eD', fun q nq => ?_⟩⟩
          have s5 := same_new (o := .tup [.int iu, .int id']) nq
          exact hq _ _ (fun b o z => s5 _ _ (sA _ _ z)) (.tup (none_of_same sA nq) upd_same (.cons (.int iu) (.cons (.int id') .nil)))
        · have c : ¬ (0 ≤ iu ∧ 0 ≤ id') := by
            rintro ⟨c1, c2⟩
            have : m = iu ∨ m = id' := by simpa using hm
            rcases this with h | h
            · omega
            · omega
          rw [if_neg c] at hq
          exact hq .non Hc sA .non
    · rw [show (!decide ((ws.length : Int) = 4)) = true from by rw [decide_eq_false (by omega)]; rfl]
      refine iteT ?_
      refine iteT ?_
      rw [person_no h4] at hq
      exact hq .non H (Same.refl H) .non
end
end G

set_option Elab.async false
set_option linter.all false
set_option maxRecDepth 100000
set_option maxHeartbeats 4000000
namespace G
open PySem PySem.Spec PyProof.Rows L2 U
open PySem.W (Frag)
/-! ### result_in -/
def wPrn : List Str := ["low", "normal", "high"]
structure Row where
  person : Str
  lab : Str
  day : Int
  pr : Prn
deriving DecidableEq
def Row.d (r : Row) : PyData := .tuple [.str r.person, .str r.lab, .int r.day, r.pr.d]
def toldOf (x : Str) : Option Prn := if x ∈ wPrn then some (.word x) else (integerIn x).map .num
def rowOf (ps : People) (ls : Labs) (p l d x : Str) : Option Row :=
  if p ∈ ps.map (·.1) then match tabsOf ls l with
    | none => none
    | some ts => match toldOf x with
      | none => none
      | some t => match integerIn d with
        | none => none
        | some i => if isDayD (.int i) = true then (if canTell ts t = true then some ⟨p, l, i, t⟩ else none) else none
  else none
def resultIn (ps : People) (ls : Labs) : List Str → Option Row
  | [_, n, p, l, d, x] => if isName n = true then rowOf ps ls p l d x else none
  | _ => none
def LabsOk (ls : Labs) : Prop := ∀ l ∈ ls, l.2.length ≤ 4 ∧ ∀ t ∈ l.2, t.ok = true
def oP : Option Prn → V
  | none => .non
  | some p => p.v
theorem six_words {ws : List Str} (h : ws.length = 6) : ∃ a b c d e f, ws = [a, b, c, d, e, f] := by
  match ws, h with
  | [a, b, c, d, e, f], _ => exact ⟨a, b, c, d, e, f, rfl⟩
theorem result_no {ps : People} {ls : Labs} {ws : List Str} (h : ¬ ws.length = 6) : resultIn ps ls ws = none := by
  unfold resultIn
  split
  · exact absurd rfl h
  · rfl
theorem tabsOf_mem {ls : Labs} {s : Str} {ts : List Tab} (h : tabsOf ls s = some ts) : (s, ts) ∈ ls := by
  unfold tabsOf at h
  rw [Option.map_eq_some_iff] at h
  obtain ⟨l, hl, rfl⟩ := h
  have h1 := List.mem_of_find?_eq_some hl
  have h2 := List.find?_some hl
  have h2 : l.1 = s := of_decide_eq_true h2
  rw [← h2]
  exact h1
theorem tabsOf_none {ls : Labs} {s : Str} (h : tabsOf ls s = none) : s ∉ ls.map (·.1) := by
  unfold tabsOf at h
  rw [Option.map_eq_none_iff, List.find?_eq_none] at h
  intro z
  obtain ⟨l, hl, e⟩ := List.mem_map.mp z
  exact h l hl (decide_eq_true e)
section
variable {P : Program} {w : World} {K : Frag} {mg : Str → Option Value} {base : Heap}
theorem words_dget {H : Hp} {a : Addr} {kvs : List (Key × V)} {ws : List Str} (e : H a = some (.dK kvs)) (k : kvs.map (·.1) = ws.map Sum.inr) (s : Str) : ∃ o, DGet H a (.str s) o ∧ o.isSome = decide (s ∈ ws) := ⟨_, DGet.k (k := Sum.inr s) e, valV_some k s⟩
theorem people_in {F : Addr → Prop} {H : Hp} {v : V} {ps : People} (h : Dq F H v (peopleD ps)) (s : Str) : ∃ a o, v = .ref a ∧ DGet H a (.str s) o ∧ o.isSome = decide (s ∈ ps.map (·.1)) := by
  obtain ⟨a, kvs, rfl, _, e, k, _⟩ := dk_inv h
  rw [List.map_map] at k
  obtain ⟨o, h1, h2⟩ := words_dget e (keys_str (f := fun l : Str × Int × Int => l.1) k) s
  exact ⟨a, o, rfl, h1, h2⟩
theorem labs_in {F : Addr → Prop} {H : Hp} {v : V} {ls : Labs} (h : Dq F H v (labsD ls)) (s : Str) : ∃ a o, v = .ref a ∧ DGet H a (.str s) o ∧ o.isSome = decide (s ∈ ls.map (·.1)) := by
  obtain ⟨a, kvs, rfl, _, e, k, _⟩ := dk_inv h
  rw [List.map_map] at k
  obtain ⟨o, h1, h2⟩ := words_dget e (keys_str (f := fun l : Str × List Tab => l.1) k) s
  exact ⟨a, o, rfl, h1, h2⟩
theorem told_ok {aP : Addr} (qP : ∀ H, SqT K H aP (wPrn.map V.str)) {σ : L2.St} {H : Hp} {x : Str} {k : VK} (h6 : σ[6]? = some (some (.str x))) (hx : x.length ≤ 600) (hk : ∀ H3, Same H H3 → k (oP (toldOf x)) H3) : tIf (tTest (tOp (rIn K false) (tVar 6) (tC (.ref aP)))) (tVar 6) (tCall sp_integer_in [] E0 (tCons (tVar 6) tNil)) σ H k := by
  refine ⟨_, h6, aP, _, rfl, .inr (qP H), rfl, flat_strs _, _, rfl, ?_⟩
  rw [show (if false = true then !inV (.str x) (wPrn.map V.str) else inV (.str x) (wPrn.map V.str)) = inV (.str x) (wPrn.map V.str) from rfl, inV_strs]
  refine dec_if (fun h => ?_) (fun h => ?_)
  · have e : toldOf x = some (.word x) := by
      unfold toldOf
      rw [if_pos h]
    rw [e] at hk
    exact ⟨_, h6, hk H (Same.refl H)⟩
  · have e : oP (toldOf x) = oI (integerIn x) := by
      unfold toldOf
      rw [if_neg h]
      cases integerIn x <;> rfl
    rw [e] at hk
    exact ⟨_, h6, x, rfl, hx, fun H3 s3 => hk H3 s3⟩
def sp_result_in (K : Frag) : Sp := fun vs H Q _ => ∃ (F F' : Addr → Prop) (pv lv : V) (a : Addr) (ps : People) (ls : Labs) (ws : List Str), vs = [pv, lv, .ref a] ∧ Dq F H pv (peopleD ps) ∧ Dq F' H lv (labsD ls) ∧ LabsOk ls ∧ SqL K H a (ws.map V.str) ∧ Wds ws ∧ Ret H (optD ((resultIn ps ls ws).map Row.d)) Q
theorem has_result_in (F : Fn K mg "result_in" s_result_in) (hN : Has P w K mg base 1 "is_name" P_is_name [] sp_is_name) (hI : Has P w K mg base 1 "integer_in" P_integer_in [] sp_integer_in) (hD : Has P w K mg base 2 "is_day" P_is_day [] sp_is_day) (hC : Has P w K mg base 3 "can_tell" P_can_tell [] sp_can_tell)
    (gL : mg "len" = none) (c6 : CI mg "RESULT_WORDS" 6) (cP : CI mg "PAIR" 2) (cT : CT K mg "PRINTS" (wPrn.map V.str)) : Has P w K mg base 4 "result_in" P_result_in [] (sp_result_in K) := by
  obtain ⟨⟨fd, F⟩, g⟩ := F
  refine ⟨⟨fd, [], ?_, F.kp, .nil, F.bindsN fun _ _ _ _ _ _ us hl => match us, hl with | [_, _, _], _ => rfl⟩, g⟩
  obtain ⟨aP, mP, qP⟩ := cT
  refine F.ok sc_result_in (fun vs H Q E h => ?_) (fun cdv A outer s H vs Q E hr h' => ?_)
  · obtain ⟨F, F', pv, lv, a, ps, ls, ws, rfl, _⟩ := h
    rfl
  · obtain ⟨F, F', pv0, lv, a, ps, ls, ws, rfl, hp, hl, lok, hw, wd, hq⟩ := h'
    refine ⟨_, PSs.nox (pss_cons (ps_if (PW.pt (pw_or (pt_cmpR op_ne (pe_callB call_len_seq (by rfl) gL PySem.boot_len (pa_cons (pv 2) pa_nil)) (pe_ci c6) (nomark _)) (pw_or1 (pt_not (pt_val (pe_has (hN.mono (by omega)) hr (pa_cons (pe_ix ix_list (pv 2) pe_int (fun _ _ => rfl)) pa_nil))))))) (pss_one (ps_ret pe_non)) pss_nil)
      (pss_cons (ps_asg (pe_slice sl_list (pv 2) (po_some (pe_ci cP)) po_none) (pg_unl rfl (pgs_cons (pg_name (i := 3) sc_result_in.nd rfl (Or.inl rfl)) (pgs_cons (pg_name (i := 4) sc_result_in.nd rfl (Or.inl rfl)) (pgs_cons (pg_name (i := 5) sc_result_in.nd rfl (Or.inl rfl)) (pgs_cons (pg_name (i := 6) sc_result_in.nd rfl (Or.inl rfl)) pgs_nil))))))
      (pss_cons (ps_set (i := 7) sc_result_in.nd rfl (Or.inl rfl) (pe_ifExp (pt_cmpR op_in_seq (pv 6) (pe_glob (by rfl) mP (v := .ref aP) rfl) (by rfl)) (pv 6) (pe_has (hI.mono (by omega)) hr (pa_cons (pv 6) pa_nil))))
      (pss_cons (ps_if (PW.pt (pw_or (pt_cmp (pc_dnotin (hu_of hr) (pv 3) (pv 0)) rfl) (pw_or (pt_cmp (pc_dnotin (hu_of hr) (pv 4) (pv 1)) rfl) (pw_or (pt_cmp (pc_isN (pv 7)) rfl)
          (pw_or1 (pt_not (pt_val (pe_has (hD.mono (by omega)) hr (pa_cons (pe_has (hI.mono (by omega)) hr (pa_cons (pv 5) pa_nil)) pa_nil))))))))) (pss_one (ps_ret pe_non)) pss_nil)
      (pss_one (ps_ret (pe_ifExp (pt_val (pe_has hC hr (pa_cons (pe_dget (hu_of hr) (pv 1) (pv 4) (by intro _ _; rfl)) (pa_cons (pv 7) pa_nil)))) (pe_tup (pa_cons (pv 3) (pa_cons (pv 4) (pa_cons (pe_has (hI.mono (by omega)) hr (pa_cons (pv 5) pa_nil)) (pa_cons (pv 7) pa_nil))))) pe_non))))))), ?_⟩
    refine ⟨_, rfl, a, _, rfl, .inl hw, rfl, _, rfl, ?_⟩
    rw [dec_int, List.length_map]
    by_cases h6 : ws.length = 6
    · rw [show (!decide ((ws.length : Int) = 6)) = false from by rw [decide_eq_true (by omega)]; rfl]
      refine iteF ?_
      obtain ⟨w0, n, p, l, d, x, rfl⟩ := six_words h6
      have sn := wd.short n (by simp)
      have sd := wd.short d (by simp)
      refine ⟨_, rfl, a, _, 1, _, rfl, rfl, hw, atI_nat (j := 1) rfl, n, rfl, by omega, fun H1 s1 => ?_⟩
      refine ⟨_, rfl, ?_⟩
      cases hn : isName n with
      | false =>
        refine iteT ?_
        have e : resultIn ps ls [w0, n, p, l, d, x] = none := by
          show (if isName n = true then _ else _) = _
          rw [hn]
          rfl
        rw [e] at hq
        exact hq .non H1 s1 .non
      | true =>
      refine iteF ?_
      have e : resultIn ps ls [w0, n, p, l, d, x] = rowOf ps ls p l d x := by
        show (if isName n = true then _ else _) = _
        rw [hn]
        rfl
      rw [e] at hq
      refine ⟨_, rfl, ⟨2, rfl, a, _, rfl, sqL_same hw s1, fun q nq => ?_⟩⟩
      have s2 : Same H1 (upd H1 q (.lst (cutV ([w0, n, p, l, d, x].map V.str) (some 2) none))) := same_new nq
      have ec : cutV ([w0, n, p, l, d, x].map V.str) (some 2) none = [.str p, .str l, .str d, .str x] := cut_from _ 2
      rw [ec] at s2 ⊢
      refine ⟨q, _, rfl, SqL.of upd_same, rfl, ⟨_, _, rfl, _, _, rfl, _, _, rfl, _, _, rfl, rfl, ?_⟩⟩
      refine told_ok qP rfl (wd.short x (by simp)) fun H3 s3 => ?_
      have sA : Same H H3 := fun b o z => s3 _ _ (s2 _ _ (s1 _ _ z))
      obtain ⟨ap, op, rfl, gp, ep⟩ := people_in (hp.same sA) p
      refine ⟨_, rfl, _, rfl, ap, op, rfl, gp, _, rfl, ?_⟩
      rw [ep]
      have no : rowOf ps ls p l d x = none → Q .non H3 := fun z => by
        rw [z] at hq
        exact hq .non H3 sA .non
      by_cases hpm : p ∈ ps.map (·.1)
      · rw [decide_eq_true hpm]
        refine iteF ?_
        obtain ⟨al, ol, rfl, gl, el⟩ := labs_in (hl.same sA) l
        refine ⟨_, rfl, _, rfl, al, ol, rfl, gl, _, rfl, ?_⟩
        rw [el]
        cases ht : tabsOf ls l with
        | none =>
          rw [decide_eq_false (tabsOf_none ht)]
          refine iteT ?_
          refine iteT (no ?_)
          unfold rowOf
          rw [if_pos hpm, ht]
        | some ts =>
        have lm := tabsOf_mem ht
        rw [decide_eq_true (List.mem_map.mpr ⟨_, lm, rfl⟩)]
        refine iteF ?_
        cases hto : toldOf x with
        | none =>
          refine ⟨_, rfl, _, rfl, ?_⟩
          refine iteT ?_
          refine iteT (no ?_)
          unfold rowOf
          rw [if_pos hpm, ht, hto]
        | some t =>
        refine ⟨_, rfl, _, rfl, ?_⟩
        rw [show decide (oP (some t) = V.non) = false from decide_eq_false (by cases t <;> exact fun z => by cases z)]
        refine iteF ?_
        refine ⟨_, rfl, d, rfl, sd, fun H4 s4 => ?_⟩
        have sB : Same H H4 := fun b o z => s4 _ _ (sA _ _ z)
        refine ⟨fun _ => True, _, _, rfl, dq_oI _, _, rfl, ?_⟩
        have no4 : rowOf ps ls p l d x = none → Q .non H4 := fun z => by
          rw [z] at hq
          exact hq .non H4 sB .non
        cases hi : integerIn d with
        | none =>
          refine iteT ?_
          refine no4 ?_
          unfold rowOf
          rw [if_pos hpm, ht, hto, hi]
        | some i =>
        cases hday : isDayD (oD (some i)) with
        | false =>
          refine iteT ?_
          refine no4 ?_
          unfold rowOf
          rw [if_pos hpm, ht, hto, hi]
          exact if_neg (by rw [show isDayD (.int i) = false from hday]; decide)
        | true =>
        refine iteF ?_
        have eR : rowOf ps ls p l d x = (if canTell ts t = true then some ⟨p, l, i, t⟩ else none) := by
          unfold rowOf
          rw [if_pos hpm, ht, hto, hi]
          exact if_pos hday
        rw [eR] at hq
        obtain ⟨al', u, ea, gg, du⟩ := labs_get (hl.same sB) ht
        cases ea
        refine ⟨_, rfl, _, rfl, al, u, rfl, gg, _, rfl, F', u, ts, t, rfl, du, by have := (lok _ lm).1; show ts.length ≤ 1000; exact Nat.le_trans this (by omega), (lok _ lm).2, fun H5 s5 => ⟨_, rfl, ?_⟩⟩
        have sC : Same H H5 := fun b o z => s5 _ _ (sB _ _ z)
        cases hct : canTell ts t with
        | false =>
          refine iteF ?_
          rw [hct] at hq
          exact hq .non H5 sC .non
        | true =>
        refine iteT ?_
        rw [hct] at hq
        refine ⟨_, rfl, _, rfl, _, rfl, d, rfl, sd, fun H6 s6 => ?_⟩
        have sD : Same H H6 := fun b o z => s6 _ _ (sC _ _ z)
        rw [hi]
        refine ⟨_, rfl, Nat.le_trans (by show 4 ≤ 1000; omega) sizeLine_ge, fun r nr => ?_⟩
        have s7 := same_new (o := .tup [.str p, .str l, .int i, t.v]) nr
        exact hq _ _ (fun b o z => s7 _ _ (sD _ _ z)) (.tup (none_of_same sD nr) upd_same (.cons (.str p) (.cons (.str l) (.cons (.int i) (.cons t.da .nil)))))
      · rw [decide_eq_false hpm]
        refine iteT ?_
        refine iteT (no ?_)
        unfold rowOf
        rw [if_neg hpm]
    · rw [show (!decide ((ws.length : Int) = 6)) = true from by rw [decide_eq_false (by omega)]; rfl]
      refine iteT ?_
      refine iteT ?_
      rw [result_no h6] at hq
      exact hq .non H (Same.refl H) .non
end
end G

set_option Elab.async false
set_option linter.all false
set_option maxRecDepth 100000
set_option maxHeartbeats 4000000
namespace G
open PySem PySem.Spec PyProof.Rows L2 U
open PySem.W (Frag)
/-! ### lab_in -/
def chunk (ns : List (Option Int)) (i : Nat) : List (Option Int) := (ns.drop (5 * i)).take 5
def chunks (ns : List (Option Int)) : List (List (Option Int)) := (List.range (ns.length / 5)).map (chunk ns)
def tabsIn (ns : List (Option Int)) : Option (List Tab) :=
  if ns.length % 5 = 0 then (if 1 ≤ ns.length / 5 ∧ ns.length / 5 ≤ 4 ∧ (chunks ns).all isTable = true then some ((chunks ns).filterMap tabOf) else none) else none
def labIn : List Str → Option (List Tab)
  | _ :: n :: r => if isName n = true then tabsIn (r.map integerIn) else none
  | _ => none
theorem rg5 {j : Int} {m : Nat} (hj : j = 5 * (m : Int)) (h : m ≤ 200) : RgC 0 j 5 m := by
  have e : Builtin.Range.rangeSize 0 j 5 = (m : Int) := by
    unfold Builtin.Range.rangeSize
    rw [if_pos (show (5 : Int) > 0 by decide)]
    split <;> omega
  refine ⟨by decide, by decide, ?_, e⟩
  unfold Builtin.Range.small
  rw [e]
  generalize hm : (m : Int) = n at *
  have h0 : 0 ≤ n := by omega
  have h1 : n ≤ 200 := by omega
  clear hm e
  unfold Builtin.Range.rangeFitsLong
  rw [if_pos (show (5 : Int) > 0 by decide)]
  have d : ∀ i : Int, -1000 ≤ i → i ≤ 2000 → (decide (-2 ^ 63 ≤ i) && decide (i < 2 ^ 63)) = true := fun i h1 h2 => by
    rw [decide_eq_true (by omega), decide_eq_true (by omega)]
    rfl
  rw [d 0 (by omega) (by omega), d j (by omega) (by omega), d 5 (by omega) (by omega), d n (by omega) (by omega), d (j + (5 - 1)) (by omega) (by omega)]
  simp
theorem cut_mid (xs : List V) {k j : Nat} (h1 : k ≤ j) (h2 : j ≤ xs.length) : cutV xs (some (k : Int)) (some (j : Int)) = (xs.drop k).take (j - k) := by
  unfold cutV
  rw [HT.sIx_nat, HT.sIx_nat, Nat.min_eq_left h2, Nat.min_eq_left (Nat.le_trans h1 h2)]
theorem chunk_len {ns : List (Option Int)} {i m : Nat} (h : ns.length = 5 * m) (hi : i < m) : (chunk ns i).length = 5 := by
  unfold chunk
  rw [List.length_take, List.length_drop]
  omega
theorem Dq_os {F : Addr → Prop} {H : Hp} : ∀ {os : List (Option Int)} {vs : List V}, DqAll F H vs (os.map oD) → vs = os.map oI
  | [], _, .nil => rfl
  | o :: os, _, .cons h t => by
    rw [dq_oI' h, Dq_os t]
    rfl
theorem tabs_d : ∀ {fs : List (List (Option Int))}, fs.all isTable = true → (fs.map fun f => PyData.tuple (f.map oD)) = (fs.filterMap tabOf).map Tab.d ∧ (fs.filterMap tabOf).length = fs.length ∧ ∀ t ∈ fs.filterMap tabOf, t.ok = true
  | [], _ => ⟨rfl, rfl, fun t h => by cases h⟩
  | f :: fs, h => by
    rw [List.all_cons, Bool.and_eq_true] at h
    obtain ⟨h1, h2, h3⟩ := tabs_d h.2
    have h0 := h.1
    unfold isTable at h0
    cases ht : tabOf f with
    | none =>
      rw [ht] at h0
      cases h0
    | some t =>
      rw [ht] at h0
      rw [List.filterMap_cons_some ht, List.map_cons, List.map_cons, List.length_cons, List.length_cons, h1, h2]
      refine ⟨?_, rfl, fun t' m => ?_⟩
      · congr 1
        unfold tabOf at ht
        split at ht
        · cases ht
          rfl
        · cases ht
      · rcases List.mem_cons.mp m with m | m
        · rw [m]
          exact h0
        · exact h3 t' m
section
variable {P : Program} {w : World} {K : Frag} {mg : Str → Option Value} {base : Heap}
def sp_lab_in (K : Frag) : Sp := fun vs H Q _ => ∃ (a : Addr) (ws : List Str), vs = [.ref a] ∧ SqL K H a (ws.map V.str) ∧ Wds ws ∧ Ret H (optD ((labIn ws).map tabsD)) Q
theorem has_lab_in (F : Fn K mg "lab_in" s_lab_in) (hN : Has P w K mg base 1 "is_name" P_is_name [] sp_is_name) (hI : Has P w K mg base 1 "integer_in" P_integer_in [] sp_integer_in) (hT : Has P w K mg base 1 "is_table" P_is_table [] (sp_is_table K)) (gL : mg "len" = none) (gT : mg "tuple" = none) (gA : mg "all" = none) (gR : mg "range" = none) (c5 : CI mg "TABLE_NUMBERS" 5) (cP : CI mg "PAIR" 2) (cM : CI mg "MOST_TABLES" 4) : Has P w K mg base 2 "lab_in" P_lab_in [] (sp_lab_in K) := by
  obtain ⟨⟨fd, F⟩, g⟩ := F
  refine ⟨⟨fd, [], ?_, F.kp, .nil, F.bindsN fun _ _ _ _ _ _ us hl => match us, hl with | [_], _ => rfl⟩, g⟩
  refine F.ok sc_lab_in (fun vs H Q E h => ?_) (fun cdv A outer s H vs Q E hr h' => ?_)
  · obtain ⟨a, ws, rfl, _⟩ := h
    rfl
  · obtain ⟨a, ws, rfl, hw, wd, hq⟩ := h'
    refine ⟨_, PSs.nox (pss_cons (ps_set (i := 1) sc_lab_in.nd rfl (Or.inr rfl) (pe_lc (own := [("word", 2)]) (g := gName 2) (tt := tYes) rfl sc_lab_in.nd (pi_list (pe_slice sl_list (pv 0) (po_some (pe_ci cP)) po_none)) (blkOk_by (N := N_lab_in) (sc := defScope s_lab_in) (by decide +kernel))
        (fun _ _ _ _ _ => pg_name (i := 2) sc_lab_in.nd rfl (Or.inl rfl)) (fun _ _ _ _ _ => pts_nil) (fun _ _ _ _ _ => pe_has hI hr (pa_cons (pv 2) pa_nil))))
      (pss_cons (ps_if (PW.pt (pw_or (pt_cmpR op_lt (pe_callB call_len_seq (by rfl) gL PySem.boot_len (pa_cons (pv 0) pa_nil)) (pe_ci cP) (nomark _)) (pw_or (pt_not (pt_val (pe_has hN hr (pa_cons (pe_ix ix_list (pv 0) pe_int (fun _ _ => rfl)) pa_nil))))
          (pw_or1 (pt_cmpR op_ne (pe_op op_mod (pe_callB call_len_seq (by rfl) gL PySem.boot_len (pa_cons (pv 1) pa_nil)) (pe_ci c5)) pe_int (nomark _)))))) (pss_one (ps_ret pe_non)) pss_nil)
      (pss_cons (ps_setLc (i := 3) (own := [("at", 4)]) (g := gName 4) (tt := tYes) (te := tThen (tSl (rSlL K) (tVar 1) (tPart (tVar 4)) (tPart (tAdd (tVar 4) (tC (.int 5))))) (kTup K)) rfl sc_lab_in.nd rfl rfl rfl (pi_range3 (by rfl) gR (pa_cons pe_int (pa_cons (pe_callB call_len_seq (by rfl) gL PySem.boot_len (pa_cons (pv 1) pa_nil)) (pa_cons (pe_ci c5) pa_nil)))) (blkOk_by (N := N_lab_in) (sc := defScope s_lab_in) (by decide +kernel))
        (fun _ _ _ _ _ => pg_name (i := 4) sc_lab_in.nd rfl (Or.inl rfl)) (fun _ _ _ _ _ => pts_nil) (fun _ _ _ _ _ => pe_tupleOf (by rfl) gT (pe_slice sl_list (pv 1) (po_some (pv 4)) (po_some (pe_add (pv 4) (pe_ci c5))))))
      (pss_one (ps_ret (pe_ifExp (PW.pt (pw_and (pt_chain op_le op_le pe_int (pe_callB call_len_seq (by rfl) gL PySem.boot_len (pa_cons (pv 3) pa_nil)) (pe_ci cM)) (pw_and1 (pt_val (pe_callB (cr_all rfl) (by rfl) gA (by decide +kernel) (pa_cons (pe_lc (own := [("table", 5)]) (g := gName 5) (tt := tYes) rfl sc_lab_in.nd (pi_list (pv 3)) (blkOk_by (N := N_lab_in) (sc := defScope s_lab_in) (by decide +kernel))
        (fun _ _ _ _ _ => pg_name (i := 5) sc_lab_in.nd rfl (Or.inl rfl)) (fun _ _ _ _ _ => pts_nil) (fun _ _ _ _ _ => pe_has hT hr (pa_cons (pv 5) pa_nil))) pa_nil)))))) (pe_tupleOf (by rfl) gT (pv 3)) pe_non)))))), ?_⟩
    refine ⟨_, rfl, ⟨2, rfl, a, _, rfl, hw, fun p np => ?_⟩⟩
    have e2' : cutV (ws.map V.str) (some 2) none = (ws.drop 2).map V.str := by
      rw [List.map_drop]
      exact cut_from (ws.map V.str) 2
    rw [e2']
    have s1 : Same H (upd H p (.lst ((ws.drop 2).map V.str))) := same_new np
    have len : (ws.drop 2).length ≤ 1000 := by
      rw [List.length_drop]
      have := wd.few
      omega
    refine ⟨p, rfl, ⟨_, SqL.of upd_same⟩, fun D nD => lc_vals walk_list nD (((ws.drop 2).map integerIn).map oI) (by rw [List.length_map, List.length_map, List.length_map]) (by rw [List.length_map]; omega) (fun Hc sc => SqL.of (sc _ _ upd_same)) ?_ ?_⟩
    · rintro i x y Hc Hc' k hy sc ⟨rfl, hx⟩ hk
      rw [List.getElem?_map, Option.map_eq_some_iff] at hx
      obtain ⟨z, hz, rfl⟩ := hx
      rw [List.getElem?_map, List.getElem?_map, hz] at hy
      have hy : oI (integerIn z) = y := Option.some.inj hy
      subst hy
      exact ⟨rfl, _, rfl, z, rfl, wd.short z (List.mem_of_mem_drop (List.mem_of_getElem? hz)), fun H4 s4 => hk H4 s4⟩
    · intro Hc sc eD
      have sH : Same H Hc := fun b o z => sc _ _ (s1 _ _ z)
      refine ⟨_, rfl, a, _, rfl, .inl (sqL_same hw sH), _, _, rfl, rfl, _, rfl, ?_⟩
      rw [List.length_map]
      refine dec_if (fun h2 => ?_) (fun h2 => ?_)
      · have e : labIn ws = none := by
          unfold labIn
          split
          · simp at h2
            omega
          · rfl
        rw [e] at hq
        refine iteT ?_
        exact hq .non Hc sH .non
      obtain ⟨w0, n, r, rfl⟩ : ∃ w0 n r, ws = w0 :: n :: r := by
        match ws, h2 with
        | [], h2 => exact absurd (by show ((0 : Nat) : Int) < 2; omega) h2
        | [x], h2 => exact absurd (by show ((1 : Nat) : Int) < 2; omega) h2
        | x :: y :: r, _ => exact ⟨x, y, r, rfl⟩
      have sn := wd.short n (by simp)
      refine ⟨_, rfl, a, _, 1, _, rfl, rfl, sqL_same hw sH, atI_nat (j := 1) rfl, n, rfl, by omega, fun H1 t1 => ?_⟩
      have sA : Same H H1 := fun b o z => t1 _ _ (sH _ _ z)
      refine ⟨_, rfl, ?_⟩
      cases hn : isName n with
      | false =>
        refine iteT ?_
        refine iteT ?_
        have e : labIn (w0 :: n :: r) = none := by
          show (if isName n = true then _ else _) = _
          rw [hn]
          rfl
        rw [e] at hq
        exact hq .non H1 sA .non
      | true =>
      refine iteF ?_
      have e : labIn (w0 :: n :: r) = tabsIn (r.map integerIn) := by
        show (if isName n = true then _ else _) = _
        rw [hn]
        rfl
      rw [e] at hq
      have eD : Hc D = some (.lst ((r.map integerIn).map oI)) := eD
      have len : r.length ≤ 1000 := len
      have eD1 := t1 _ _ eD
      generalize hns : r.map integerIn = ns at hq eD eD1
      have ln : ns.length ≤ 1000 := by
        rw [← hns, List.length_map]
        exact len
      refine ⟨_, rfl, D, _, rfl, .inl (SqL.of eD1), _, _, rfl, rfl, (show (0 : Int) < 5 by decide), rfl, _, rfl, ?_⟩
      rw [List.length_map, dec_int]
      by_cases h5 : ns.length % 5 = 0
      · rw [show (!decide ((ns.length : Int) % 5 = 0)) = false from by rw [decide_eq_true (by omega)]; rfl]
        refine iteF ?_
        obtain ⟨m, hm⟩ : ∃ m, ns.length = 5 * m := ⟨ns.length / 5, by omega⟩
        have hm' : ns.length / 5 = m := by omega
        refine ⟨_, rfl, D, _, rfl, .inl (SqL.of eD1), 0, _, 5, m, rfl, rg5 (by rw [List.length_map, hm]; omega) (by omega), fun D2 nD2 => lc_data walk_rangeC nD2 ((chunks ns).map fun f => .tuple (f.map oD)) (by rw [List.length_map]; unfold chunks; rw [List.length_map, List.length_range, hm']) (by omega) (fun _ _ => True.intro) ?_ ?_⟩
        · rintro i x d Hd Hd' k hd sd ⟨rfl, rfl⟩ hk
          rw [List.getElem?_map, Option.map_eq_some_iff] at hd
          obtain ⟨f, hf, rfl⟩ := hd
          unfold chunks at hf
          rw [List.getElem?_map, Option.map_eq_some_iff] at hf
          obtain ⟨j, hj, rfl⟩ := hf
          rw [hm'] at hj
          obtain ⟨hi, hj⟩ := List.getElem?_eq_some_iff.mp hj
          rw [List.length_range] at hi
          rw [List.getElem_range] at hj
          subst hj
          refine ⟨rfl, _, rfl, _, rfl, _, rfl, _, rfl, _, _, rfl, rfl, _, rfl, D, _, rfl, SqL.of (sd _ _ eD1), fun q nq => ?_⟩
          have ec : cutV (ns.map oI) (some (0 + (i : Int) * 5)) (some (0 + (i : Int) * 5 + 5)) = (chunk ns i).map oI := by
            rw [show (0 + (i : Int) * 5 : Int) = ((5 * i : Nat) : Int) from by omega, show (((5 * i : Nat) : Int) + 5 : Int) = ((5 * i + 5 : Nat) : Int) from by omega]
            rw [cut_mid _ (by omega) (by rw [List.length_map]; omega), show 5 * i + 5 - 5 * i = 5 from by omega]
            unfold chunk
            rw [List.map_take, List.map_drop]
          rw [ec]
          refine .inl ⟨q, _, rfl, SqL.of upd_same, fun q2 nq2 => ?_⟩
          have r1 := same_new (o := .lst ((chunk ns i).map oI)) nq
          have r2 := same_new (o := .tup ((chunk ns i).map oI)) nq2
          exact hk _ _ (fun b o z => r2 _ _ (r1 _ _ z)) (.tup (none_of_same r1 nq2) upd_same (dqall_map (fun o => dq_oI o) _))
        · intro Hd sd dq
          cases dq with
          | @lst _ ys _ fD2 eD2 al =>
          have ly : ys.length = m := by
            rw [al.len, List.length_map]
            unfold chunks
            rw [List.length_map, List.length_range, hm']
          have sB : Same H Hd := fun b o z => sd _ _ (sA _ _ z)
          have eT : tabsIn ns = (if 1 ≤ m ∧ m ≤ 4 ∧ (chunks ns).all isTable = true then some ((chunks ns).filterMap tabOf) else none) := by
            unfold tabsIn
            rw [if_pos h5, hm']
          rw [eT] at hq
          have no : ∀ {H' : Hp}, Same H H' → ¬ (1 ≤ m ∧ m ≤ 4 ∧ (chunks ns).all isTable = true) → Q .non H' := fun sX c => by
            rw [if_neg c] at hq
            exact hq .non _ sX .non
          refine ⟨_, rfl, D2, ys, rfl, .inl (SqL.of eD2), _, _, rfl, rfl, _, rfl, ?_⟩
          rw [ly]
          refine dec_if (fun c1 => ?_) (fun c1 => ?_)
          · refine ⟨_, _, rfl, rfl, _, rfl, ?_⟩
            refine dec_if (fun c2 => ?_) (fun c2 => ?_)
            · refine ⟨_, rfl, D2, rfl, ⟨_, SqL.of eD2⟩, fun D3 nD3 => lc_vals walk_list nD3 (((chunks ns).map isTable).map V.bl) (by rw [List.length_map, List.length_map, ly]; unfold chunks; rw [List.length_map, List.length_range, hm']) (by omega) (fun He se => SqL.of (se _ _ eD2)) ?_ ?_⟩
              · rintro i x y He He' k hy se ⟨rfl, hx⟩ hk
                obtain ⟨d, hd, dq⟩ := al.get hx
                rw [List.getElem?_map, Option.map_eq_some_iff] at hd
                obtain ⟨f, hf, rfl⟩ := hd
                rw [List.getElem?_map, List.getElem?_map, hf] at hy
                have hy : V.bl (isTable f) = y := Option.some.inj hy
                subst hy
                have lf : f.length = 5 := by
                  unfold chunks at hf
                  rw [List.getElem?_map, Option.map_eq_some_iff] at hf
                  obtain ⟨j, hj, rfl⟩ := hf
                  have hj := List.mem_of_getElem? hj
                  rw [hm', List.mem_range] at hj
                  exact chunk_len hm hj
                cases dq with
                | tup ff ef af =>
                rw [Dq_os af] at ef
                exact ⟨rfl, _, rfl, _, f, rfl, SqT.of (se _ _ ef), lf, hk _ (Same.refl _)⟩
              · intro He se eD3
                have sC : Same H He := fun b o z => se _ _ (sB _ _ z)
                refine ⟨D3, _, rfl, SqL.of eD3, _, rfl, ?_⟩
                have ea : ((chunks ns).map isTable).all id = (chunks ns).all isTable := by
                  rw [List.all_map]
                  rfl
                rw [ea]
                cases hall : (chunks ns).all isTable with
                | false =>
                  refine iteF ?_
                  exact no sC (fun c => by rw [hall] at c; exact Bool.noConfusion c.2.2)
                | true =>
                refine iteT ?_
                rw [if_pos ⟨by omega, by omega, hall⟩] at hq
                obtain ⟨t1', t2', t3'⟩ := tabs_d hall
                refine ⟨_, rfl, .inl ⟨D2, ys, rfl, SqL.of (se _ _ eD2), fun q nq => ?_⟩⟩
                have r1 := same_new (o := .tup ys) nq
                refine hq _ _ (fun b o z => r1 _ _ (sC _ _ z)) (.tup (none_of_same sC nq) upd_same ?_)
                rw [← t1']
                exact al.move (fun b f => none_of_same sA f) fun b o _ z => r1 _ _ (se _ _ z)
            · refine iteF ?_
              exact no sB (fun c => c2 (by omega))
          · refine ⟨_, rfl, ?_⟩
            refine iteF ?_
            exact no sB (fun c => c1 (by omega))
      · rw [show (!decide ((ns.length : Int) % 5 = 0)) = true from by rw [decide_eq_false (by omega)]; rfl]
        refine iteT ?_
        have e : tabsIn ns = none := by
          unfold tabsIn
          rw [if_neg h5]
        rw [e] at hq
        exact hq .non H1 sA .non
end
end G

set_option Elab.async false
set_option linter.all false
set_option maxRecDepth 100000
set_option maxHeartbeats 4000000
namespace G
open PySem PySem.Spec PyProof.Rows L2 U
open PySem.W (Frag)
/-! ### words of a line, lines of a text -/
/-- a list of signs cut at each c -/
def cuts (c : Nat) : List Nat → List Nat → List (List Nat)
  | acc, [] => [acc]
  | acc, x :: r => if x = c then acc :: cuts c [] r else cuts c (acc ++ [x]) r
theorem pre_one (c x : Nat) (r : List Nat) : TL.pre [c] (x :: r) = decide (x = c) := by
  show ([x] == [c]) = _
  by_cases h : x = c
  · subst h
    simp
  · simp [h]
theorem spl_cuts (c : Nat) : ∀ (l acc : List Nat), TL.spl [c] 0 acc l = cuts c acc l
  | [], acc => TL.spl_nil _ _ _
  | x :: r, acc => by
    by_cases h : x = c
    · rw [TL.spl_hit (by rw [pre_one, decide_eq_true h])]
      show acc :: TL.spl [c] 0 [] r = (if x = c then _ else _)
      rw [if_pos h, spl_cuts c r []]
    · rw [TL.spl_miss (by rw [pre_one, decide_eq_false h])]
      show _ = (if x = c then _ else _)
      rw [if_neg h, spl_cuts c r (acc ++ [x])]
theorem cuts_many (c : Nat) : ∀ (l acc : List Nat), 1 ≤ (cuts c acc l).length ∧ (cuts c acc l).length ≤ l.length + 1
  | [], acc => ⟨Nat.le_refl _, Nat.le_refl _⟩
  | x :: r, acc => by
    unfold cuts
    split
    · have := cuts_many c r []
      rw [List.length_cons, List.length_cons]
      omega
    · have := cuts_many c r (acc ++ [x])
      rw [List.length_cons]
      omega
theorem cuts_short (c : Nat) : ∀ (l acc : List Nat), ∀ p ∈ cuts c acc l, p.length ≤ acc.length + l.length
  | [], acc, p, h => by
    have : p = acc := by simpa [cuts] using h
    rw [this]
    omega
  | x :: r, acc, p, h => by
    unfold cuts at h
    split at h
    · rcases List.mem_cons.mp h with h | h
      · rw [h]
        omega
      · have := cuts_short c r [] p h
        simp at this ⊢
        omega
    · have := cuts_short c r (acc ++ [x]) p h
      rw [List.length_append] at this
      simp at this ⊢
      omega
def sBlank : Str := " "
def sFeed : Str := "\n"
def wordsOf (x : Str) : List Str := Txt.split x sBlank
def linesOf (x : Str) : List Str := Txt.split x sFeed
theorem kind_ok (x y : Str) (h : y.cps.all (· < 256) = true) : ¬ Builtin.Str.strKind x < Builtin.Str.strKind y := by
  unfold Builtin.Str.strKind
  rw [if_pos h]
  split
  · omega
  · split <;> omega
theorem all_blank : sBlank.cps.all (· < 256) = true := by
  rw [← Array.all_toList]
  decide +kernel
theorem all_feed : sFeed.cps.all (· < 256) = true := by
  rw [← Array.all_toList]
  decide +kernel
theorem words_cuts (x : Str) : (wordsOf x).map TL.tl = cuts 32 [] (TL.tl x) := by
  have e : TL.tl sBlank = [32] := by decide +kernel
  unfold wordsOf
  rw [TL.split_spl x sBlank (by rw [e]; decide) (kind_ok _ _ all_blank), e, spl_cuts]
theorem lines_cuts (x : Str) : (linesOf x).map TL.tl = cuts 10 [] (TL.tl x) := by
  have e : TL.tl sFeed = [10] := by decide +kernel
  unfold linesOf
  rw [TL.split_spl x sFeed (by rw [e]; decide) (kind_ok _ _ all_feed), e, spl_cuts]
theorem words_ok {x : Str} (h : x.length ≤ 600) : Wds (wordsOf x) ∧ 1 ≤ (wordsOf x).length := by
  have e := words_cuts x
  have l : (wordsOf x).length = (cuts 32 [] (TL.tl x)).length := by
    rw [← e, List.length_map]
  have lx : (TL.tl x).length ≤ 600 := by
    rw [← TL.len_tl]
    exact h
  have m := cuts_many 32 (TL.tl x) []
  refine ⟨⟨by omega, fun p hp => ?_⟩, by omega⟩
  have hp' : TL.tl p ∈ cuts 32 [] (TL.tl x) := by
    rw [← e]
    exact List.mem_map.mpr ⟨p, hp, rfl⟩
  have := cuts_short 32 _ _ _ hp'
  rw [TL.len_tl]
  rw [List.length_nil] at this
  omega
end G

set_option Elab.async false
set_option linter.all false
set_option maxRecDepth 100000
set_option maxHeartbeats 4000000
namespace G
open PySem PySem.Spec PyProof.Rows L2 U
open PySem.W (Frag)
/-! ### lines one behind the other -/
section
variable {α : Type}
def toldK (kw : Str) (most : Nat) (f : List Str → Option α) (n : Nat) (ws : List Str) : Option α := if ws[0]? = some kw ∧ n < most then f ws else none
def nextK (kw : Str) (most : Nat) (f : List Str → Option α) (found : List (Str × α)) (line : Str) : Option (Str × α) :=
  match toldK kw most f found.length (wordsOf line), (wordsOf line)[1]? with
    | some t, some n => if n ∈ found.map (·.1) then none else some (n, t)
    | _, _ => none
def readK (kw : Str) (most : Nat) (f : List Str → Option α) : List (Str × α) → List Str → List (Str × α) × Nat
  | found, [] => (found, 0)
  | found, l :: ls => match nextK kw most f found l with
    | none => (found, 0)
    | some x => ((readK kw most f (found ++ [x]) ls).1, (readK kw most f (found ++ [x]) ls).2 + 1)
theorem readK_stop {kw : Str} {most : Nat} {f : List Str → Option α} {found : List (Str × α)} {l : Str} {ls : List Str} (h : nextK kw most f found l = none) : readK kw most f found (l :: ls) = (found, 0) := by
  rw [readK, h]
theorem readK_go {kw : Str} {most : Nat} {f : List Str → Option α} {found : List (Str × α)} {l : Str} {ls : List Str} {x : Str × α} (h : nextK kw most f found l = some x) : readK kw most f found (l :: ls) = ((readK kw most f (found ++ [x]) ls).1, (readK kw most f (found ++ [x]) ls).2 + 1) := by
  rw [readK, h]
theorem nextK_none {kw : Str} {most : Nat} {f : List Str → Option α} {found : List (Str × α)} {l : Str} (h : toldK kw most f found.length (wordsOf l) = none) : nextK kw most f found l = none := by
  unfold nextK
  rw [h]
theorem nextK_in {kw : Str} {most : Nat} {f : List Str → Option α} {found : List (Str × α)} {l n : Str} {t : α} (h : toldK kw most f found.length (wordsOf l) = some t) (h1 : (wordsOf l)[1]? = some n) : nextK kw most f found l = if n ∈ found.map (·.1) then none else some (n, t) := by
  unfold nextK
  rw [h, h1]
theorem toldK_some {kw : Str} {most : Nat} {f : List Str → Option α} {n : Nat} {ws : List Str} {t : α} (h : toldK kw most f n ws = some t) : f ws = some t ∧ n < most ∧ ws[0]? = some kw := by
  unfold toldK at h
  by_cases c : ws[0]? = some kw ∧ n < most
  · rw [if_pos c] at h
    exact ⟨h, c.2, c.1⟩
  · rw [if_neg c] at h
    cases h
def dictD (dA : α → PyData) (xs : List (Str × α)) : PyData := .dict (xs.map fun p => (.str p.1, dA p.2))
/-- the dict that is being made at d -/
def DictAt (dA : α → PyData) (H0 : Hp) (d : Addr) (H : Hp) (found : List (Str × α)) : Prop := ∃ kvs, H d = some (.dK kvs) ∧ kvs.map (·.1) = (found.map (·.1)).map Sum.inr ∧ DqAll (fun a => H0 a = none ∧ a ≠ d) H (kvs.map (·.2)) (found.map fun p => dA p.2)
theorem DictAt.dq {dA : α → PyData} {H0 H : Hp} {d : Addr} {found : List (Str × α)} (h : DictAt dA H0 d H found) (nd : H0 d = none) : Dq (fun a => H0 a = none) H (.ref d) (dictD dA found) := by
  obtain ⟨kvs, e, k, al⟩ := h
  refine dk_mk nd e ?_ ?_
  · rw [List.map_map]
    have : (kvs.map fun kv => kD kv.1) = (kvs.map (·.1)).map kD := by
      rw [List.map_map]
      rfl
    rw [this, k, List.map_map, List.map_map]
    rfl
  · rw [List.map_map]
    exact al.move (fun _ f => f.1) fun b o _ z => z
theorem DictAt.same {dA : α → PyData} {H0 H H' : Hp} {d : Addr} {found : List (Str × α)} (h : DictAt dA H0 d H found) (s : Same H H') : DictAt dA H0 d H' found := by
  obtain ⟨kvs, e, k, al⟩ := h
  exact ⟨kvs, s _ _ e, k, al.move (fun _ f => f) fun b o _ z => s _ _ z⟩
theorem DictAt.len {dA : α → PyData} {H0 H : Hp} {d : Addr} {found : List (Str × α)} (h : DictAt dA H0 d H found) : ∃ kvs : List (Key × V), H d = some (.dK kvs) ∧ kvs.length = found.length := by
  obtain ⟨kvs, e, k, al⟩ := h
  refine ⟨kvs, e, ?_⟩
  have := congrArg List.length k
  simpa using this
theorem DictAt.has {dA : α → PyData} {H0 H : Hp} {d : Addr} {found : List (Str × α)} (h : DictAt dA H0 d H found) (n : Str) : ∃ o, DGet H d (.str n) o ∧ o.isSome = decide (n ∈ found.map (·.1)) := by
  obtain ⟨kvs, e, k, al⟩ := h
  exact words_dget e k n
theorem DictAt.put {dA : α → PyData} {H0 H : Hp} {d : Addr} {found : List (Str × α)} {n : Str} {t : α} {v : V} (h : DictAt dA H0 d H found) (hn : n ∉ found.map (·.1)) (hl : found.length < 1000) (dq : Dq (fun a => H0 a = none ∧ a ≠ d) H v (dA t)) : ∃ H', DPut H d (.str n) v H' ∧ DictAt dA H0 d H' (found ++ [(n, t)]) ∧ SameB d H H' := by
  obtain ⟨kvs, e, k, al⟩ := h
  have lk : kvs.length = found.length := by
    have := congrArg List.length k
    simpa using this
  have up : SameB d H (upd H d (.dK (putK kvs (Sum.inr n) v))) := fun b o hb z => by
    rw [upd_ne hb]
    exact z
  have nv : valV kvs (Sum.inr n) = none := by
    have := valV_some k n
    rw [decide_eq_false hn] at this
    cases q : valV kvs (Sum.inr n) with
    | none => rfl
    | some x =>
      rw [q] at this
      cases this
  refine ⟨_, DPut.k (k := Sum.inr n) e (Nat.lt_of_lt_of_le (by omega) sizeLine_ge), ⟨_, upd_same, ?_, ?_⟩, up⟩
  · rw [putK_new v nv, List.map_append, List.map_append, List.map_append, k]
    rfl
  · rw [putK_new v nv, List.map_append, List.map_append]
    rw [putK_new v nv] at up
    exact (al.move (fun _ f => f) fun b o f z => up b o f.2 z).app (.cons (dq.move (fun _ f => f) fun b o f z => up b o f.2 z) .nil)
theorem same_of_b {H0 H H' : Hp} {d : Addr} (nd : H0 d = none) (s : Same H0 H) (u : SameB d H H') : Same H0 H' := fun b o z => u b o (ne_of_none z nd) (s b o z)
structure LinesOk (ls : List Str) : Prop where
  few : ls.length ≤ 1000
  short : ∀ l ∈ ls, l.length ≤ 600
theorem drop_cons {β : Type} {xs : List β} {i : Nat} {x : β} (h : xs[i]? = some x) : xs.drop i = x :: xs.drop (i + 1) := by
  obtain ⟨hi, e⟩ := List.getElem?_eq_some_iff.mp h
  rw [List.drop_eq_getElem_cons hi, e]
end
end G

set_option Elab.async false
set_option linter.all false
set_option maxRecDepth 100000
set_option maxHeartbeats 4000000
namespace G
open PySem PySem.Spec PyProof.Rows L2 U
open PySem.W (Frag)
/-- a word's number in a written dict -/
def CD (K : Frag) (w : World) (mg : Str → Option Value) (x k : Str) (v : V) : Prop := ∃ a, mg x = some (.ref a) ∧ KDct K w a k v
section
variable {α : Type} {K : Frag} {w : World}
abbrev rLenD : List V → Hp → VK → Prop := fun xs H Q => ∃ a kvs, xs = [V.ref a] ∧ H a = some (.dK kvs) ∧ Q (.int kvs.length) H
theorem told_eval {iw ifo : Nat} {σ : L2.St} {H : Hp} {p d aM : Addr} {ws : List Str} {w0 kw : Str} {most : Nat} {f : List Str → Option α} {dA : α → PyData} {kvs : List (Key × V)} {tc : TE} {k : VK} (hw : σ[iw]? = some (some (.ref p))) (hf : σ[ifo]? = some (some (.ref d))) (ew : H p = some (.lst (ws.map V.str))) (e0 : ws[0]? = some w0)
    (ed : H d = some (.dK kvs)) (kM : KDct K w aM kw (.int most)) (hc : ∀ k : VK, (∀ v H', Same H H' → Dq (fun a => H a = none) H' v (optD ((f ws).map dA)) → k v H') → tc σ H k)
    (hk : ∀ v H', Same H H' → Dq (fun a => H a = none) H' v (optD ((toldK kw most f kvs.length ws).map dA)) → k v H') :
    tIf (tAnd (tTest (tOp rEq (tOp (rIxL K) (tVar iw) (tC (.int 0))) (tC (.str kw)))) (tTest (tOp (rI0 fun i j => .bl (decide (i < j))) (tCB rLenD (tCons (tVar ifo) tNil)) (tOp (rIxD K w) (tC (.ref aM)) (tC (.str kw)))))) tc (tC .non) σ H k := by
  have a0 : atI (ws.map V.str) 0 = some (.str w0) := atI_nat (j := 0) (by rw [List.getElem?_map, e0]; rfl)
  have no : toldK kw most f kvs.length ws = none → k .non H := fun e => by
    rw [e] at hk
    exact hk .non H (Same.refl H) .non
  refine ⟨_, hw, p, _, 0, _, rfl, rfl, SqL.of ew, a0, rfl, _, rfl, ?_⟩
  refine dec_if (fun h => ?_) (fun h => ?_)
  · have h : w0 = kw := V.str.inj h
    refine ⟨_, hf, d, kvs, rfl, ed, aM, kw, _, rfl, rfl, kM, _, _, rfl, rfl, _, rfl, ?_⟩
    refine dec_if (fun h2 => ?_) (fun h2 => ?_)
    · have e : toldK kw most f kvs.length ws = f ws := if_pos ⟨by rw [e0, h], by omega⟩
      rw [e] at hk
      exact hc k hk
    · exact no (if_neg fun z => h2 (by have := z.2; omega))
  · refine iteF (no (if_neg fun z => h ?_))
    have := z.1
    rw [e0] at this
    show V.str w0 = V.str kw
    rw [Option.some.inj this]
end
theorem person_two {ws : List Str} {t : Int × Int} (h : personIn ws = some t) : ∃ n, ws[1]? = some n := by
  unfold personIn at h
  split at h
  · exact ⟨_, rfl⟩
  · cases h
theorem rates_ref {F : Addr → Prop} {H : Hp} {v : V} {t : Int × Int} (h : Dq F H v (optD ((some t).map ratesD))) : ∃ c, v = .ref c := by
  cases h with
  | tup => exact ⟨_, rfl⟩
section
variable {P : Program} {w : World} {K : Frag} {mg : Str → Option Value} {base : Heap}
def readPeople (ls : List Str) : People × Nat := readK "person" 3 personIn [] ls
def sp_read_people (K : Frag) : Sp := fun vs H Q _ => ∃ (a : Addr) (ls : List Str), vs = [.ref a] ∧ SqL K H a (ls.map V.str) ∧ LinesOk ls ∧ Ret H (.tuple [dictD ratesD (readPeople ls).1, .int (readPeople ls).2]) Q
theorem has_read_people (F : Fn K mg "read_people" s_read_people) (hF : Has P w K mg base 2 "person_in" P_person_in [] (sp_person_in K)) (gL : mg "len" = none) (gE : mg "enumerate" = none) (cB : CS mg "BLANK" sBlank) (cK : CS mg "PERSON" "person") (cM : CD K w mg "MOST_charts" "person" (.int 3)) : Has P w K mg base 3 "read_people" P_read_people [] (sp_read_people K) := by
  obtain ⟨⟨fd, F⟩, g⟩ := F
  refine ⟨⟨fd, [], ?_, F.kp, .nil, F.bindsN fun _ _ _ _ _ _ us hl => match us, hl with | [_], _ => rfl⟩, g⟩
  obtain ⟨aM, mM, kM⟩ := cM
  refine F.ok sc_read_people (fun vs H Q E h => ?_) (fun cdv A outer s H vs Q E hr h' => ?_)
  · obtain ⟨a, ls, rfl, _⟩ := h
    rfl
  · obtain ⟨a, ls, rfl, hw, lok, hq⟩ := h'
    refine ⟨_, PSs.nox (pss_cons (ps_set (i := 1) sc_read_people.nd rfl (Or.inl rfl) pe_dnewK)
      (pss_cons (ps_for PassesOwn.never rfl (pi_enum (by rfl) gE (pa_cons (pv 0) pa_nil)) (pg_tup rfl (pgs_cons (pg_name (i := 2) sc_read_people.nd rfl (Or.inl rfl)) (pgs_cons (pg_name (i := 3) sc_read_people.nd rfl (Or.inl rfl)) pgs_nil)))
        (pss_cons (ps_set (i := 4) sc_read_people.nd rfl (Or.inl rfl) (pe_split (pv 3) (pe_cs cB)))
        (pss_cons (ps_set (i := 5) sc_read_people.nd rfl (Or.inl rfl) (pe_ifExp (PW.pt (pw_and (pt_cmpR op_eq (pe_ix ix_list (pv 4) pe_int (fun _ _ => rfl)) (pe_cs cK) (nomark _)) (pw_and1 (pt_cmpR op_lt (pe_callB call_lenD (by rfl) gL PySem.boot_len (pa_cons (pv 1) pa_nil)) (pe_ix ix_kdict (pe_glob (by rfl) mM (v := .ref aM) rfl) (pe_cs cK) (fun _ _ => rfl)) (nomark _))))) (pe_has hF hr (pa_cons (pv 4) pa_nil)) pe_non))
        (pss_cons (ps_if (PW.pt (pw_or (pt_cmp (pc_isN (pv 5)) rfl) (pw_or1 (pt_cmp (pc_din (hu_of hr) (pe_ix ix_list (pv 4) pe_int (fun _ _ => rfl)) (pv 1)) rfl)))) (pss_one (ps_ret (pe_tup (pa_cons (pv 1) (pa_cons (pv 2) pa_nil))))) pss_nil)
        (pss_one (ps_dput (hu_of hr) (pv 1) (pe_ix ix_list (pv 4) pe_int (fun _ _ => rfl)) (pv 5) rfl))))))
      (pss_one (ps_ret (pe_tup (pa_cons (pv 1) (pa_cons (pe_callB call_len_seq (by rfl) gL PySem.boot_len (pa_cons (pv 0) pa_nil)) pa_nil))))))), ?_⟩
    intro d nd
    have s0 : Same H (upd H d (.dK [])) := same_new nd
    have two : ∀ {Hx : Hp} {found : People} {n : Nat} {q : Addr}, Same H Hx → DictAt ratesD H d Hx found → readPeople ls = (found, n) → Hx q = none → Q (.ref q) (upd Hx q (.tup [.ref d, .int n])) := by
      intro Hx found n q sx hD e nq
      rw [e] at hq
      have r := same_new (o := .tup [.ref d, .int n]) nq
      exact hq _ _ (fun b o z => r _ _ (sx _ _ z)) (.tup (none_of_same sx nq) upd_same (.cons ((hD.same r).dq nd) (.cons (.int _) .nil)))
    refine ⟨_, rfl, a, _, rfl, sqL_same hw s0, for_it (walk_enum (xs := ls.map V.str)) (fun i σ Hc => ∃ (o2 o3 o4 o5 : Option V) (found : People), σ = [some (.ref a), some (.ref d), o2, o3, o4, o5] ∧ Same H Hc ∧ DictAt ratesD H d Hc found ∧ readPeople ls = ((readK "person" 3 personIn found (ls.drop i)).1, (readK "person" 3 personIn found (ls.drop i)).2 + i))
      ⟨none, none, none, none, [], rfl, s0, ⟨[], upd_same, rfl, .nil⟩, rfl⟩ (fun i σ Hc _ h => ?_) ?_ ?_⟩
    · obtain ⟨_, _, _, _, found, _, sH, _⟩ := h
      exact sqL_same hw sH
    · rintro i x σ Hc Hc' hi ⟨o2, o3, o4, o5, found, rfl, sH, hD, hR⟩ ⟨T, x1, x2, rfl, nT, rfl, h1, h2⟩
      have h1 : x1 = .int (i : Nat) := (Option.some.inj h1).symm
      subst h1
      have h2 : (ls.map V.str)[i]? = some x2 := h2
      rw [List.getElem?_map, Option.map_eq_some_iff] at h2
      obtain ⟨line, hl, rfl⟩ := h2
      have sl := lok.short line (List.mem_of_getElem? hl)
      obtain ⟨wd, w1⟩ := words_ok sl
      rw [drop_cons hl] at hR
      refine ⟨T, _, rfl, SqT.of upd_same, rfl, _, _, rfl, _, _, rfl, rfl, ?_⟩
      refine ⟨_, rfl, ⟨_, rfl⟩, line, sBlank, rfl, rfl, (by decide +kernel), by rw [sizeLine_eq]; omega, fun p np => ?_⟩
      have sP : Same Hc (upd (upd Hc T (.tup [.int (i : Nat), .str line])) p (.lst ((wordsOf line).map V.str))) := fun b o z => same_new np _ _ (same_new nT _ _ z)
      obtain ⟨kvs, ed, lk⟩ := (hD.same sP).len
      obtain ⟨w0, e0⟩ : ∃ w0, (wordsOf line)[0]? = some w0 := ⟨_, List.getElem?_eq_getElem (by omega)⟩
      refine told_eval (f := personIn) (dA := ratesD) (ws := wordsOf line) rfl rfl upd_same e0 ed kM (fun k hk => ⟨_, rfl, p, wordsOf line, rfl, SqL.of upd_same, wd, fun v H' s' dq => hk v H' s' dq⟩) fun v H' s' dq => ?_
      rw [lk] at dq
      have sB : Same Hc H' := fun b o z => s' _ _ (sP _ _ z)
      have sA : Same H H' := fun b o z => sB _ _ (sH _ _ z)
      have hD' := hD.same sB
      have ep := s' _ _ (upd_same (H := upd Hc T (.tup [.int (i : Nat), .str line])) (a := p) (o := .lst ((wordsOf line).map V.str)))
      have back : nextK "person" 3 personIn found line = none → readPeople ls = (found, i) := fun z => by
        rw [hR]
        rw [readK_stop z]
        show (found, 0 + i) = _
        rw [Nat.zero_add]
      cases ht : toldK "person" 3 personIn found.length (wordsOf line) with
      | none =>
        rw [ht] at dq
        cases dq
        refine ⟨_, rfl, _, rfl, ?_⟩
        refine iteT ?_
        refine iteT ?_
        exact ⟨_, rfl, _, rfl, Nat.le_trans (by show 2 ≤ 1000; omega) sizeLine_ge, fun q nq => two sA hD' (back (nextK_none ht)) nq⟩
      | some t =>
      rw [ht] at dq
      obtain ⟨ft, fm, _⟩ := toldK_some ht
      obtain ⟨n, hn⟩ := person_two ft
      obtain ⟨c, rfl⟩ := rates_ref dq
      refine ⟨_, rfl, _, rfl, ?_⟩
      rw [show decide (V.ref c = V.non) = false from decide_eq_false fun z => by cases z]
      refine iteF ?_
      have an : atI ((wordsOf line).map V.str) 1 = some (.str n) := atI_nat (j := 1) (by rw [List.getElem?_map, hn]; rfl)
      obtain ⟨o, go, eo⟩ := hD'.has n
      refine ⟨_, rfl, p, _, 1, _, rfl, rfl, SqL.of ep, an, _, rfl, d, o, rfl, go, _, rfl, ?_⟩
      rw [eo]
      have en := nextK_in ht hn
      refine dec_if (fun hin => ?_) (fun hin => ?_)
      · rw [if_pos hin] at en
        exact ⟨_, rfl, _, rfl, Nat.le_trans (by show 2 ≤ 1000; omega) sizeLine_ge, fun q nq => two sA hD' (back en) nq⟩
      · rw [if_neg hin] at en
        have dq' : Dq (fun b => H b = none ∧ b ≠ d) H' (.ref c) (ratesD t) := dq.move (fun b f => ⟨none_of_same sH (none_of_same sP f), fun z => by rw [z] at f; exact absurd (f.symm.trans ed) (fun q => by cases q)⟩) fun b o _ z => z
        obtain ⟨H4, put, hD4, ub⟩ := hD'.put hin (Nat.lt_trans fm (by omega)) dq'
        refine ⟨_, rfl, _, rfl, _, rfl, p, _, 1, _, rfl, rfl, SqL.of ep, an, d, H4, rfl, put, ?_⟩
        refine ⟨_, _, _, _, found ++ [(n, t)], rfl, same_of_b nd sA ub, hD4, ?_⟩
        rw [hR, readK_go en]
        show (_, _ + 1 + i) = (_, _ + (i + 1))
        rw [Nat.add_assoc, Nat.add_comm 1 i]
    · rintro σ Hc ⟨o2, o3, o4, o5, found, rfl, sH, hD, hR⟩
      rw [List.length_map, List.drop_of_length_le (Nat.le_refl _)] at hR
      refine ⟨_, rfl, _, rfl, a, _, rfl, .inl (sqL_same hw sH), Nat.le_trans (by show 2 ≤ 1000; omega) sizeLine_ge, fun q nq => ?_⟩
      rw [List.length_map]
      refine two (n := ls.length) sH hD ?_ nq
      rw [hR]
      show (found, 0 + ls.length) = _
      rw [Nat.zero_add]
end
end G

set_option Elab.async false
set_option linter.all false
set_option maxRecDepth 100000
set_option maxHeartbeats 4000000
namespace G
open PySem PySem.Spec PyProof.Rows L2 U
open PySem.W (Frag)
theorem lab_two {ws : List Str} {t : List Tab} (h : labIn ws = some t) : ∃ n, ws[1]? = some n := by
  unfold labIn at h
  split at h
  · exact ⟨_, rfl⟩
  · cases h
theorem tabs_ref {F : Addr → Prop} {H : Hp} {v : V} {t : List Tab} (h : Dq F H v (optD ((some t).map tabsD))) : ∃ c, v = .ref c := by
  cases h with
  | tup => exact ⟨_, rfl⟩
theorem result_two {ps : People} {ls : Labs} {ws : List Str} {t : Row} (h : resultIn ps ls ws = some t) : ∃ n, ws[1]? = some n := by
  unfold resultIn at h
  split at h
  · exact ⟨_, rfl⟩
  · cases h
theorem row_ref {F : Addr → Prop} {H : Hp} {v : V} {t : Row} (h : Dq F H v (optD ((some t).map Row.d))) : ∃ c, v = .ref c := by
  cases h with
  | tup => exact ⟨_, rfl⟩
section
variable {P : Program} {w : World} {K : Frag} {mg : Str → Option Value} {base : Heap}
def readLabs (ls : List Str) : Labs × Nat := readK "lab" 6 labIn [] ls
def sp_read_labs (K : Frag) : Sp := fun vs H Q _ => ∃ (a : Addr) (ls : List Str), vs = [.ref a] ∧ SqL K H a (ls.map V.str) ∧ LinesOk ls ∧ Ret H (.tuple [dictD tabsD (readLabs ls).1, .int (readLabs ls).2]) Q
theorem has_read_labs (F : Fn K mg "read_labs" s_read_labs) (hF : Has P w K mg base 2 "lab_in" P_lab_in [] (sp_lab_in K)) (gL : mg "len" = none) (gE : mg "enumerate" = none) (cB : CS mg "BLANK" sBlank) (cK : CS mg "LAB" "lab") (cM : CD K w mg "MOST_charts" "lab" (.int 6)) : Has P w K mg base 3 "read_labs" P_read_labs [] (sp_read_labs K) := by
  obtain ⟨⟨fd, F⟩, g⟩ := F
  refine ⟨⟨fd, [], ?_, F.kp, .nil, F.bindsN fun _ _ _ _ _ _ us hl => match us, hl with | [_], _ => rfl⟩, g⟩
  obtain ⟨aM, mM, kM⟩ := cM
  refine F.ok sc_read_labs (fun vs H Q E h => ?_) (fun cdv A outer s H vs Q E hr h' => ?_)
  · obtain ⟨a, ls, rfl, _⟩ := h
    rfl
  · obtain ⟨a, ls, rfl, hw, lok, hq⟩ := h'
    refine ⟨_, PSs.nox (pss_cons (ps_set (i := 1) sc_read_labs.nd rfl (Or.inl rfl) pe_dnewK)
      (pss_cons (ps_for PassesOwn.never rfl (pi_enum (by rfl) gE (pa_cons (pv 0) pa_nil)) (pg_tup rfl (pgs_cons (pg_name (i := 2) sc_read_labs.nd rfl (Or.inl rfl)) (pgs_cons (pg_name (i := 3) sc_read_labs.nd rfl (Or.inl rfl)) pgs_nil)))
        (pss_cons (ps_set (i := 4) sc_read_labs.nd rfl (Or.inl rfl) (pe_split (pv 3) (pe_cs cB)))
        (pss_cons (ps_set (i := 5) sc_read_labs.nd rfl (Or.inl rfl) (pe_ifExp (PW.pt (pw_and (pt_cmpR op_eq (pe_ix ix_list (pv 4) pe_int (fun _ _ => rfl)) (pe_cs cK) (nomark _)) (pw_and1 (pt_cmpR op_lt (pe_callB call_lenD (by rfl) gL PySem.boot_len (pa_cons (pv 1) pa_nil)) (pe_ix ix_kdict (pe_glob (by rfl) mM (v := .ref aM) rfl) (pe_cs cK) (fun _ _ => rfl)) (nomark _))))) (pe_has hF hr (pa_cons (pv 4) pa_nil)) pe_non))
        (pss_cons (ps_if (PW.pt (pw_or (pt_cmp (pc_isN (pv 5)) rfl) (pw_or1 (pt_cmp (pc_din (hu_of hr) (pe_ix ix_list (pv 4) pe_int (fun _ _ => rfl)) (pv 1)) rfl)))) (pss_one (ps_ret (pe_tup (pa_cons (pv 1) (pa_cons (pv 2) pa_nil))))) pss_nil)
        (pss_one (ps_dput (hu_of hr) (pv 1) (pe_ix ix_list (pv 4) pe_int (fun _ _ => rfl)) (pv 5) rfl))))))
      (pss_one (ps_ret (pe_tup (pa_cons (pv 1) (pa_cons (pe_callB call_len_seq (by rfl) gL PySem.boot_len (pa_cons (pv 0) pa_nil)) pa_nil))))))), ?_⟩
    intro d nd
    have s0 : Same H (upd H d (.dK [])) := same_new nd
    have two : ∀ {Hx : Hp} {found : Labs} {n : Nat} {q : Addr}, Same H Hx → DictAt tabsD H d Hx found → readLabs ls = (found, n) → Hx q = none → Q (.ref q) (upd Hx q (.tup [.ref d, .int n])) := by
      intro Hx found n q sx hD e nq
      rw [e] at hq
      have r := same_new (o := .tup [.ref d, .int n]) nq
      exact hq _ _ (fun b o z => r _ _ (sx _ _ z)) (.tup (none_of_same sx nq) upd_same (.cons ((hD.same r).dq nd) (.cons (.int _) .nil)))
    refine ⟨_, rfl, a, _, rfl, sqL_same hw s0, for_it (walk_enum (xs := ls.map V.str)) (fun i σ Hc => ∃ (o2 o3 o4 o5 : Option V) (found : Labs), σ = [some (.ref a), some (.ref d), o2, o3, o4, o5] ∧ Same H Hc ∧ DictAt tabsD H d Hc found ∧ readLabs ls = ((readK "lab" 6 labIn found (ls.drop i)).1, (readK "lab" 6 labIn found (ls.drop i)).2 + i))
      ⟨none, none, none, none, [], rfl, s0, ⟨[], upd_same, rfl, .nil⟩, rfl⟩ (fun i σ Hc _ h => ?_) ?_ ?_⟩
    · obtain ⟨_, _, _, _, found, _, sH, _⟩ := h
      exact sqL_same hw sH
    · rintro i x σ Hc Hc' hi ⟨o2, o3, o4, o5, found, rfl, sH, hD, hR⟩ ⟨T, x1, x2, rfl, nT, rfl, h1, h2⟩
      have h1 : x1 = .int (i : Nat) := (Option.some.inj h1).symm
      subst h1
      have h2 : (ls.map V.str)[i]? = some x2 := h2
      rw [List.getElem?_map, Option.map_eq_some_iff] at h2
      obtain ⟨line, hl, rfl⟩ := h2
      have sl := lok.short line (List.mem_of_getElem? hl)
      obtain ⟨wd, w1⟩ := words_ok sl
      rw [drop_cons hl] at hR
      refine ⟨T, _, rfl, SqT.of upd_same, rfl, _, _, rfl, _, _, rfl, rfl, ?_⟩
      refine ⟨_, rfl, ⟨_, rfl⟩, line, sBlank, rfl, rfl, (by decide +kernel), by rw [sizeLine_eq]; omega, fun p np => ?_⟩
      have sP : Same Hc (upd (upd Hc T (.tup [.int (i : Nat), .str line])) p (.lst ((wordsOf line).map V.str))) := fun b o z => same_new np _ _ (same_new nT _ _ z)
      obtain ⟨kvs, ed, lk⟩ := (hD.same sP).len
      obtain ⟨w0, e0⟩ : ∃ w0, (wordsOf line)[0]? = some w0 := ⟨_, List.getElem?_eq_getElem (by omega)⟩
      refine told_eval (f := labIn) (dA := tabsD) (ws := wordsOf line) rfl rfl upd_same e0 ed kM (fun k hk => ⟨_, rfl, p, wordsOf line, rfl, SqL.of upd_same, wd, fun v H' s' dq => hk v H' s' dq⟩) fun v H' s' dq => ?_
      rw [lk] at dq
      have sB : Same Hc H' := fun b o z => s' _ _ (sP _ _ z)
      have sA : Same H H' := fun b o z => sB _ _ (sH _ _ z)
      have hD' := hD.same sB
      have ep := s' _ _ (upd_same (H := upd Hc T (.tup [.int (i : Nat), .str line])) (a := p) (o := .lst ((wordsOf line).map V.str)))
      have back : nextK "lab" 6 labIn found line = none → readLabs ls = (found, i) := fun z => by
        rw [hR]
        rw [readK_stop z]
        show (found, 0 + i) = _
        rw [Nat.zero_add]
      cases ht : toldK "lab" 6 labIn found.length (wordsOf line) with
      | none =>
        rw [ht] at dq
        cases dq
        refine ⟨_, rfl, _, rfl, ?_⟩
        refine iteT ?_
        refine iteT ?_
        exact ⟨_, rfl, _, rfl, Nat.le_trans (by show 2 ≤ 1000; omega) sizeLine_ge, fun q nq => two sA hD' (back (nextK_none ht)) nq⟩
      | some t =>
      rw [ht] at dq
      obtain ⟨ft, fm, _⟩ := toldK_some ht
      obtain ⟨n, hn⟩ := lab_two ft
      obtain ⟨c, rfl⟩ := tabs_ref dq
      refine ⟨_, rfl, _, rfl, ?_⟩
      rw [show decide (V.ref c = V.non) = false from decide_eq_false fun z => by cases z]
      refine iteF ?_
      have an : atI ((wordsOf line).map V.str) 1 = some (.str n) := atI_nat (j := 1) (by rw [List.getElem?_map, hn]; rfl)
      obtain ⟨o, go, eo⟩ := hD'.has n
      refine ⟨_, rfl, p, _, 1, _, rfl, rfl, SqL.of ep, an, _, rfl, d, o, rfl, go, _, rfl, ?_⟩
      rw [eo]
      have en := nextK_in ht hn
      refine dec_if (fun hin => ?_) (fun hin => ?_)
      · rw [if_pos hin] at en
        exact ⟨_, rfl, _, rfl, Nat.le_trans (by show 2 ≤ 1000; omega) sizeLine_ge, fun q nq => two sA hD' (back en) nq⟩
      · rw [if_neg hin] at en
        have dq' : Dq (fun b => H b = none ∧ b ≠ d) H' (.ref c) (tabsD t) := dq.move (fun b f => ⟨none_of_same sH (none_of_same sP f), fun z => by rw [z] at f; exact absurd (f.symm.trans ed) (fun q => by cases q)⟩) fun b o _ z => z
        obtain ⟨H4, put, hD4, ub⟩ := hD'.put hin (Nat.lt_trans fm (by omega)) dq'
        refine ⟨_, rfl, _, rfl, _, rfl, p, _, 1, _, rfl, rfl, SqL.of ep, an, d, H4, rfl, put, ?_⟩
        refine ⟨_, _, _, _, found ++ [(n, t)], rfl, same_of_b nd sA ub, hD4, ?_⟩
        rw [hR, readK_go en]
        show (_, _ + 1 + i) = (_, _ + (i + 1))
        rw [Nat.add_assoc, Nat.add_comm 1 i]
    · rintro σ Hc ⟨o2, o3, o4, o5, found, rfl, sH, hD, hR⟩
      rw [List.length_map, List.drop_of_length_le (Nat.le_refl _)] at hR
      refine ⟨_, rfl, _, rfl, a, _, rfl, .inl (sqL_same hw sH), Nat.le_trans (by show 2 ≤ 1000; omega) sizeLine_ge, fun q nq => ?_⟩
      rw [List.length_map]
      refine two (n := ls.length) sH hD ?_ nq
      rw [hR]
      show (found, 0 + ls.length) = _
      rw [Nat.zero_add]
abbrev Rows := List (Str × Row)
def readResults (ps : People) (bs : Labs) (ls : List Str) : Rows × Nat := readK "result" 24 (resultIn ps bs) [] ls
def sp_read_results (K : Frag) : Sp := fun vs H Q _ => ∃ (G G' : Addr → Prop) (pv0 lv : V) (a : Addr) (ps : People) (bs : Labs) (ls : List Str), vs = [pv0, lv, .ref a] ∧ Dq G H pv0 (peopleD ps) ∧ Dq G' H lv (labsD bs) ∧ LabsOk bs ∧ SqL K H a (ls.map V.str) ∧ LinesOk ls ∧ Ret H (.tuple [dictD Row.d (readResults ps bs ls).1, .int (readResults ps bs ls).2]) Q
theorem has_read_results (F : Fn K mg "read_results" s_read_results) (hF : Has P w K mg base 4 "result_in" P_result_in [] (sp_result_in K)) (gL : mg "len" = none) (gE : mg "enumerate" = none) (cB : CS mg "BLANK" sBlank) (cK : CS mg "RESULT" "result") (cM : CD K w mg "MOST_charts" "result" (.int 24)) : Has P w K mg base 5 "read_results" P_read_results [] (sp_read_results K) := by
  obtain ⟨⟨fd, F⟩, g⟩ := F
  refine ⟨⟨fd, [], ?_, F.kp, .nil, F.bindsN fun _ _ _ _ _ _ us hl => match us, hl with | [_, _, _], _ => rfl⟩, g⟩
  obtain ⟨aM, mM, kM⟩ := cM
  refine F.ok sc_read_results (fun vs H Q E h => ?_) (fun cdv A outer s H vs Q E hr h' => ?_)
  · obtain ⟨G, G', pv0, lv, a, ps, bs, ls, rfl, _⟩ := h
    rfl
  · obtain ⟨G, G', pv0, lv, a, ps, bs, ls, rfl, hp, hb, bok, hw, lok, hq⟩ := h'
    refine ⟨_, PSs.nox (pss_cons (ps_set (i := 3) sc_read_results.nd rfl (Or.inl rfl) pe_dnewK)
      (pss_cons (ps_for PassesOwn.never rfl (pi_enum (by rfl) gE (pa_cons (pv 2) pa_nil)) (pg_tup rfl (pgs_cons (pg_name (i := 4) sc_read_results.nd rfl (Or.inl rfl)) (pgs_cons (pg_name (i := 5) sc_read_results.nd rfl (Or.inl rfl)) pgs_nil)))
        (pss_cons (ps_set (i := 6) sc_read_results.nd rfl (Or.inl rfl) (pe_split (pv 5) (pe_cs cB)))
        (pss_cons (ps_set (i := 7) sc_read_results.nd rfl (Or.inl rfl) (pe_ifExp (PW.pt (pw_and (pt_cmpR op_eq (pe_ix ix_list (pv 6) pe_int (fun _ _ => rfl)) (pe_cs cK) (nomark _)) (pw_and1 (pt_cmpR op_lt (pe_callB call_lenD (by rfl) gL PySem.boot_len (pa_cons (pv 3) pa_nil)) (pe_ix ix_kdict (pe_glob (by rfl) mM (v := .ref aM) rfl) (pe_cs cK) (fun _ _ => rfl)) (nomark _))))) (pe_has hF hr (pa_cons (pv 0) (pa_cons (pv 1) (pa_cons (pv 6) pa_nil)))) pe_non))
        (pss_cons (ps_if (PW.pt (pw_or (pt_cmp (pc_isN (pv 7)) rfl) (pw_or1 (pt_cmp (pc_din (hu_of hr) (pe_ix ix_list (pv 6) pe_int (fun _ _ => rfl)) (pv 3)) rfl)))) (pss_one (ps_ret (pe_tup (pa_cons (pv 3) (pa_cons (pv 4) pa_nil))))) pss_nil)
        (pss_one (ps_dput (hu_of hr) (pv 3) (pe_ix ix_list (pv 6) pe_int (fun _ _ => rfl)) (pv 7) rfl))))))
      (pss_one (ps_ret (pe_tup (pa_cons (pv 3) (pa_cons (pe_callB call_len_seq (by rfl) gL PySem.boot_len (pa_cons (pv 2) pa_nil)) pa_nil))))))), ?_⟩
    intro d nd
    have s0 : Same H (upd H d (.dK [])) := same_new nd
    have two : ∀ {Hx : Hp} {found : Rows} {n : Nat} {q : Addr}, Same H Hx → DictAt Row.d H d Hx found → readResults ps bs ls = (found, n) → Hx q = none → Q (.ref q) (upd Hx q (.tup [.ref d, .int n])) := by
      intro Hx found n q sx hD e nq
      rw [e] at hq
      have r := same_new (o := .tup [.ref d, .int n]) nq
      exact hq _ _ (fun b o z => r _ _ (sx _ _ z)) (.tup (none_of_same sx nq) upd_same (.cons ((hD.same r).dq nd) (.cons (.int _) .nil)))
    refine ⟨_, rfl, a, _, rfl, sqL_same hw s0, for_it (walk_enum (xs := ls.map V.str)) (fun i σ Hc => ∃ (o2 o3 o4 o5 : Option V) (found : Rows), σ = [some pv0, some lv, some (.ref a), some (.ref d), o2, o3, o4, o5] ∧ Same H Hc ∧ DictAt Row.d H d Hc found ∧ readResults ps bs ls = ((readK "result" 24 (resultIn ps bs) found (ls.drop i)).1, (readK "result" 24 (resultIn ps bs) found (ls.drop i)).2 + i))
      ⟨none, none, none, none, [], rfl, s0, ⟨[], upd_same, rfl, .nil⟩, rfl⟩ (fun i σ Hc _ h => ?_) ?_ ?_⟩
    · obtain ⟨_, _, _, _, found, _, sH, _⟩ := h
      exact sqL_same hw sH
    · rintro i x σ Hc Hc' hi ⟨o2, o3, o4, o5, found, rfl, sH, hD, hR⟩ ⟨T, x1, x2, rfl, nT, rfl, h1, h2⟩
      have h1 : x1 = .int (i : Nat) := (Option.some.inj h1).symm
      subst h1
      have h2 : (ls.map V.str)[i]? = some x2 := h2
      rw [List.getElem?_map, Option.map_eq_some_iff] at h2
      obtain ⟨line, hl, rfl⟩ := h2
      have sl := lok.short line (List.mem_of_getElem? hl)
      obtain ⟨wd, w1⟩ := words_ok sl
      rw [drop_cons hl] at hR
      refine ⟨T, _, rfl, SqT.of upd_same, rfl, _, _, rfl, _, _, rfl, rfl, ?_⟩
      refine ⟨_, rfl, ⟨_, rfl⟩, line, sBlank, rfl, rfl, (by decide +kernel), by rw [sizeLine_eq]; omega, fun p np => ?_⟩
      have sP : Same Hc (upd (upd Hc T (.tup [.int (i : Nat), .str line])) p (.lst ((wordsOf line).map V.str))) := fun b o z => same_new np _ _ (same_new nT _ _ z)
      obtain ⟨kvs, ed, lk⟩ := (hD.same sP).len
      obtain ⟨w0, e0⟩ : ∃ w0, (wordsOf line)[0]? = some w0 := ⟨_, List.getElem?_eq_getElem (by omega)⟩
      refine told_eval (f := (resultIn ps bs)) (dA := Row.d) (ws := wordsOf line) rfl rfl upd_same e0 ed kM (fun k hk => ⟨_, rfl, _, rfl, _, rfl, G, G', pv0, lv, p, ps, bs, wordsOf line, rfl, hp.same fun b o z => sP _ _ (sH _ _ z), hb.same fun b o z => sP _ _ (sH _ _ z), bok, SqL.of upd_same, wd, fun v H' s' dq => hk v H' s' dq⟩) fun v H' s' dq => ?_
      rw [lk] at dq
      have sB : Same Hc H' := fun b o z => s' _ _ (sP _ _ z)
      have sA : Same H H' := fun b o z => sB _ _ (sH _ _ z)
      have hD' := hD.same sB
      have ep := s' _ _ (upd_same (H := upd Hc T (.tup [.int (i : Nat), .str line])) (a := p) (o := .lst ((wordsOf line).map V.str)))
      have back : nextK "result" 24 (resultIn ps bs) found line = none → readResults ps bs ls = (found, i) := fun z => by
        rw [hR]
        rw [readK_stop z]
        show (found, 0 + i) = _
        rw [Nat.zero_add]
      cases ht : toldK "result" 24 (resultIn ps bs) found.length (wordsOf line) with
      | none =>
        rw [ht] at dq
        cases dq
        refine ⟨_, rfl, _, rfl, ?_⟩
        refine iteT ?_
        refine iteT ?_
        exact ⟨_, rfl, _, rfl, Nat.le_trans (by show 2 ≤ 1000; omega) sizeLine_ge, fun q nq => two sA hD' (back (nextK_none ht)) nq⟩
      | some t =>
      rw [ht] at dq
      obtain ⟨ft, fm, _⟩ := toldK_some ht
      obtain ⟨n, hn⟩ := result_two ft
      obtain ⟨c, rfl⟩ := row_ref dq
      refine ⟨_, rfl, _, rfl, ?_⟩
      rw [show decide (V.ref c = V.non) = false from decide_eq_false fun z => by cases z]
      refine iteF ?_
      have an : atI ((wordsOf line).map V.str) 1 = some (.str n) := atI_nat (j := 1) (by rw [List.getElem?_map, hn]; rfl)
      obtain ⟨o, go, eo⟩ := hD'.has n
      refine ⟨_, rfl, p, _, 1, _, rfl, rfl, SqL.of ep, an, _, rfl, d, o, rfl, go, _, rfl, ?_⟩
      rw [eo]
      have en := nextK_in ht hn
      refine dec_if (fun hin => ?_) (fun hin => ?_)
      · rw [if_pos hin] at en
        exact ⟨_, rfl, _, rfl, Nat.le_trans (by show 2 ≤ 1000; omega) sizeLine_ge, fun q nq => two sA hD' (back en) nq⟩
      · rw [if_neg hin] at en
        have dq' : Dq (fun b => H b = none ∧ b ≠ d) H' (.ref c) (Row.d t) := dq.move (fun b f => ⟨none_of_same sH (none_of_same sP f), fun z => by rw [z] at f; exact absurd (f.symm.trans ed) (fun q => by cases q)⟩) fun b o _ z => z
        obtain ⟨H4, put, hD4, ub⟩ := hD'.put hin (Nat.lt_trans fm (by omega)) dq'
        refine ⟨_, rfl, _, rfl, _, rfl, p, _, 1, _, rfl, rfl, SqL.of ep, an, d, H4, rfl, put, ?_⟩
        refine ⟨_, _, _, _, found ++ [(n, t)], rfl, same_of_b nd sA ub, hD4, ?_⟩
        rw [hR, readK_go en]
        show (_, _ + 1 + i) = (_, _ + (i + 1))
        rw [Nat.add_assoc, Nat.add_comm 1 i]
    · rintro σ Hc ⟨o2, o3, o4, o5, found, rfl, sH, hD, hR⟩
      rw [List.length_map, List.drop_of_length_le (Nat.le_refl _)] at hR
      refine ⟨_, rfl, _, rfl, a, _, rfl, .inl (sqL_same hw sH), Nat.le_trans (by show 2 ≤ 1000; omega) sizeLine_ge, fun q nq => ?_⟩
      rw [List.length_map]
      refine two (n := ls.length) sH hD ?_ nq
      rw [hR]
      show (found, 0 + ls.length) = _
      rw [Nat.zero_add]
end
end G

set_option Elab.async false
set_option linter.all false
set_option maxRecDepth 100000
set_option maxHeartbeats 4000000
namespace G
open PySem PySem.Spec PyProof.Rows L2 U
open PySem.W (Frag)
/-! ### read_facts -/
def toldF (ps : People) (bs : Labs) (n : Nat) (line : Str) : Option PyData := if (wordsOf line)[0]? = some ("fact" : Str) ∧ n < 8 then claimIn ps bs ((wordsOf line).drop 1) else none
def readF (ps : People) (bs : Labs) : List PyData → List Str → List PyData × Nat
  | found, [] => (found, 0)
  | found, l :: ls => match toldF ps bs found.length l with
    | none => (found, 0)
    | some x => ((readF ps bs (found ++ [x]) ls).1, (readF ps bs (found ++ [x]) ls).2 + 1)
theorem readF_stop {ps : People} {bs : Labs} {found : List PyData} {l : Str} {ls : List Str} (h : toldF ps bs found.length l = none) : readF ps bs found (l :: ls) = (found, 0) := by
  rw [readF, h]
theorem readF_go {ps : People} {bs : Labs} {found : List PyData} {l : Str} {ls : List Str} {x : PyData} (h : toldF ps bs found.length l = some x) : readF ps bs found (l :: ls) = ((readF ps bs (found ++ [x]) ls).1, (readF ps bs (found ++ [x]) ls).2 + 1) := by
  rw [readF, h]
def readFacts (ps : People) (bs : Labs) (ls : List Str) : List PyData × Nat := readF ps bs [] ls
theorem claim_ref {ps : People} {bs : Labs} {ws : List Str} {d : PyData} (h : claimIn ps bs ws = some d) : ∃ ds, d = .tuple ds := by
  unfold claimIn at h
  by_cases h1 : ((ws.drop 2).map integerIn).any (·.isNone) = true
  · rw [if_pos h1] at h
    cases h
  · rw [if_neg h1] at h
    by_cases h2 : isClaimD ps bs (claimD (ws.take 2) ((ws.drop 2).map integerIn)) = true
    · rw [if_pos h2] at h
      exact ⟨_, (Option.some.inj h).symm⟩
    · rw [if_neg h2] at h
      cases h
def ListAt (H0 : Hp) (d : Addr) (H : Hp) (found : List PyData) : Prop := ∃ vs, H d = some (.lst vs) ∧ DqAll (fun a => H0 a = none ∧ a ≠ d) H vs found
theorem ListAt.same {H0 H H' : Hp} {d : Addr} {found : List PyData} (h : ListAt H0 d H found) (s : Same H H') : ListAt H0 d H' found := by
  obtain ⟨vs, e, al⟩ := h
  exact ⟨vs, s _ _ e, al.move (fun _ f => f) fun b o _ z => s _ _ z⟩
theorem ListAt.dq {H0 H : Hp} {d : Addr} {found : List PyData} (h : ListAt H0 d H found) (nd : H0 d = none) : Dq (fun a => H0 a = none) H (.ref d) (.list found) := by
  obtain ⟨vs, e, al⟩ := h
  exact .lst nd e (al.move (fun _ f => f.1) fun b o _ z => z)
section
variable {P : Program} {w : World} {K : Frag} {mg : Str → Option Value} {base : Heap}
theorem told_evalF {iw ifo : Nat} {σ : L2.St} {H : Hp} {p d aM : Addr} {ws : List Str} {w0 kw : Str} {most : Nat} {o : Option PyData} {vs : List V} {tc : TE} {k : VK} (hw : σ[iw]? = some (some (.ref p))) (hf : σ[ifo]? = some (some (.ref d))) (ew : H p = some (.lst (ws.map V.str))) (e0 : ws[0]? = some w0)
    (ed : H d = some (.lst vs)) (kM : KDct K w aM kw (.int most)) (hc : ∀ k : VK, (∀ v H', Same H H' → Dq (fun a => H a = none) H' v (optD o) → k v H') → tc σ H k)
    (hk : ∀ v H', Same H H' → Dq (fun a => H a = none) H' v (optD (if ws[0]? = some kw ∧ vs.length < most then o else none)) → k v H') :
    tIf (tAnd (tTest (tOp rEq (tOp (rIxL K) (tVar iw) (tC (.int 0))) (tC (.str kw)))) (tTest (tOp (rI0 fun i j => .bl (decide (i < j))) (tCB (fun xs H Q => ∃ p ys, xs = [.ref p] ∧ (SqL K H p ys ∨ SqT K H p ys) ∧ Q (.int ys.length) H) (tCons (tVar ifo) tNil)) (tOp (rIxD K w) (tC (.ref aM)) (tC (.str kw)))))) tc (tC .non) σ H k := by
  have a0 : atI (ws.map V.str) 0 = some (.str w0) := atI_nat (j := 0) (by rw [List.getElem?_map, e0]; rfl)
  have no : ¬ (ws[0]? = some kw ∧ vs.length < most) → k .non H := fun e => by
    rw [if_neg e] at hk
    exact hk .non H (Same.refl H) .non
  refine ⟨_, hw, p, _, 0, _, rfl, rfl, SqL.of ew, a0, rfl, _, rfl, ?_⟩
  refine dec_if (fun h => ?_) (fun h => ?_)
  · have h : w0 = kw := V.str.inj h
    refine ⟨_, hf, d, vs, rfl, .inl (SqL.of ed), aM, kw, _, rfl, rfl, kM, _, _, rfl, rfl, _, rfl, ?_⟩
    refine dec_if (fun h2 => ?_) (fun h2 => ?_)
    · rw [if_pos ⟨by rw [e0, h], by omega⟩] at hk
      exact hc k hk
    · exact no fun z => h2 (by have := z.2; omega)
  · refine iteF (no fun z => h ?_)
    have := z.1
    rw [e0] at this
    show V.str w0 = V.str kw
    rw [Option.some.inj this]
def sp_read_facts (K : Frag) : Sp := fun vs H Q _ => ∃ (G G' : Addr → Prop) (c lv pv0 : V) (a : Addr) (ps : People) (bs : Labs) (ls : List Str), vs = [c, .ref a] ∧ AttrAt K H c "own_labs" lv ∧ Dq G H lv (labsD bs) ∧ AttrAt K H c "own_people" pv0 ∧ Dq G' H pv0 (peopleD ps) ∧ SqL K H a (ls.map V.str) ∧ LinesOk ls ∧ Ret H (.tuple [.list (readFacts ps bs ls).1, .int (readFacts ps bs ls).2]) Q
theorem has_read_facts (F : Fn K mg "read_facts" s_read_facts) (hF : Has P w K mg base 5 "claim_in" P_claim_in [] (sp_claim_in K)) (gL : mg "len" = none) (gE : mg "enumerate" = none) (cB : CS mg "BLANK" sBlank) (cK : CS mg "FACT" "fact") (cM : CD K w mg "MOST_charts" "fact" (.int 8)) : Has P w K mg base 6 "read_facts" P_read_facts [] (sp_read_facts K) := by
  obtain ⟨⟨fd, F⟩, g⟩ := F
  refine ⟨⟨fd, [], ?_, F.kp, .nil, F.bindsN fun _ _ _ _ _ _ us hl => match us, hl with | [_, _], _ => rfl⟩, g⟩
  obtain ⟨aM, mM, kM⟩ := cM
  refine F.ok sc_read_facts (fun vs H Q E h => ?_) (fun cdv A outer s H vs Q E hr h' => ?_)
  · obtain ⟨G, G', c, lv, pv0, a, ps, bs, ls, rfl, _⟩ := h
    rfl
  · obtain ⟨G, G', c, lv, pv0, a, ps, bs, ls, rfl, hcl, hb, hcp, hp, hw, lok, hq⟩ := h'
    refine ⟨_, PSs.nox (pss_cons (ps_set (i := 2) sc_read_facts.nd rfl (Or.inl rfl) (pe_lst pa_nil))
      (pss_cons (ps_for PassesOwn.never rfl (pi_enum (by rfl) gE (pa_cons (pv 1) pa_nil)) (pg_tup rfl (pgs_cons (pg_name (i := 3) sc_read_facts.nd rfl (Or.inl rfl)) (pgs_cons (pg_name (i := 4) sc_read_facts.nd rfl (Or.inl rfl)) pgs_nil)))
        (pss_cons (ps_set (i := 5) sc_read_facts.nd rfl (Or.inl rfl) (pe_split (pv 4) (pe_cs cB)))
        (pss_cons (ps_set (i := 6) sc_read_facts.nd rfl (Or.inl rfl) (pe_ifExp (PW.pt (pw_and (pt_cmpR op_eq (pe_ix ix_list (pv 5) pe_int (fun _ _ => rfl)) (pe_cs cK) (nomark _)) (pw_and1 (pt_cmpR op_lt (pe_callB call_len_seq (by rfl) gL PySem.boot_len (pa_cons (pv 2) pa_nil)) (pe_ix ix_kdict (pe_glob (by rfl) mM (v := .ref aM) rfl) (pe_cs cK) (fun _ _ => rfl)) (nomark _))))) (pe_has hF hr (pa_cons (pv 0) (pa_cons (pe_slice sl_list (pv 5) (po_some pe_int) po_none) pa_nil))) pe_non))
        (pss_cons (ps_if (pt_cmp (pc_isN (pv 6)) rfl) (pss_one (ps_ret (pe_tup (pa_cons (pv 2) (pa_cons (pv 3) pa_nil))))) pss_nil)
        (pss_one (ps_expr (pe_bm PySem.F.plainAttrs_list PySem.F.slot_list_append PySem.F.type_list_append mt_append (pv 2) (pa_cons (pv 6) pa_nil))))))))
      (pss_one (ps_ret (pe_tup (pa_cons (pv 2) (pa_cons (pe_callB call_len_seq (by rfl) gL PySem.boot_len (pa_cons (pv 1) pa_nil)) pa_nil))))))), ?_⟩
    refine ⟨Nat.zero_le _, fun d nd => ?_⟩
    have s0 : Same H (upd H d (.lst [])) := same_new nd
    have two : ∀ {Hx : Hp} {found : List PyData} {n : Nat} {q : Addr}, Same H Hx → ListAt H d Hx found → readFacts ps bs ls = (found, n) → Hx q = none → Q (.ref q) (upd Hx q (.tup [.ref d, .int n])) := by
      intro Hx found n q sx hD e nq
      rw [e] at hq
      have r := same_new (o := .tup [.ref d, .int n]) nq
      exact hq _ _ (fun b o z => r _ _ (sx _ _ z)) (.tup (none_of_same sx nq) upd_same (.cons ((hD.same r).dq nd) (.cons (.int _) .nil)))
    refine ⟨_, rfl, a, _, rfl, sqL_same hw s0, for_it (walk_enum (xs := ls.map V.str)) (fun i σ Hc => ∃ (o2 o3 o4 o5 : Option V) (found : List PyData), σ = [some c, some (.ref a), some (.ref d), o2, o3, o4, o5] ∧ Same H Hc ∧ ListAt H d Hc found ∧ readFacts ps bs ls = ((readF ps bs found (ls.drop i)).1, (readF ps bs found (ls.drop i)).2 + i))
      ⟨none, none, none, none, [], rfl, s0, ⟨[], upd_same, .nil⟩, rfl⟩ (fun i σ Hc _ h => ?_) ?_ ?_⟩
    · obtain ⟨_, _, _, _, found, _, sH, _⟩ := h
      exact sqL_same hw sH
    · rintro i x σ Hc Hc' hi ⟨o2, o3, o4, o5, found, rfl, sH, hD, hR⟩ ⟨T, x1, x2, rfl, nT, rfl, h1, h2⟩
      have h1 : x1 = .int (i : Nat) := (Option.some.inj h1).symm
      subst h1
      have h2 : (ls.map V.str)[i]? = some x2 := h2
      rw [List.getElem?_map, Option.map_eq_some_iff] at h2
      obtain ⟨line, hl, rfl⟩ := h2
      have sl := lok.short line (List.mem_of_getElem? hl)
      obtain ⟨wd, w1⟩ := words_ok sl
      rw [drop_cons hl] at hR
      refine ⟨T, _, rfl, SqT.of upd_same, rfl, _, _, rfl, _, _, rfl, rfl, ?_⟩
      refine ⟨_, rfl, ⟨_, rfl⟩, line, sBlank, rfl, rfl, (by decide +kernel), by rw [sizeLine_eq]; omega, fun p np => ?_⟩
      have sP : Same Hc (upd (upd Hc T (.tup [.int (i : Nat), .str line])) p (.lst ((wordsOf line).map V.str))) := fun b o z => same_new np _ _ (same_new nT _ _ z)
      have sHP : Same H (upd (upd Hc T (.tup [.int (i : Nat), .str line])) p (.lst ((wordsOf line).map V.str))) := fun b o z => sP _ _ (sH _ _ z)
      have hDP := hD.same sP
      obtain ⟨vs, ed, al⟩ := id hDP
      have lv' : vs.length = found.length := al.len
      obtain ⟨w0, e0⟩ : ∃ w0, (wordsOf line)[0]? = some w0 := ⟨_, List.getElem?_eq_getElem (by omega)⟩
      have back : toldF ps bs found.length line = none → readFacts ps bs ls = (found, i) := fun z => by
        rw [hR]
        rw [readF_stop z]
        show (found, 0 + i) = _
        rw [Nat.zero_add]
      refine told_evalF (o := claimIn ps bs ((wordsOf line).drop 1)) (ws := wordsOf line) rfl rfl upd_same e0 ed kM (fun k hk => ?_) fun v H' s' dq => ?_
      · refine ⟨_, rfl, ⟨_, rfl, ⟨1, rfl, p, _, rfl, SqL.of upd_same, fun r nr => ?_⟩⟩⟩
        have ec : cutV ((wordsOf line).map V.str) (some 1) none = ((wordsOf line).drop 1).map V.str := by
          rw [cut1, List.map_drop]
        have sR := same_new (o := .lst (cutV ((wordsOf line).map V.str) (some 1) none)) nr
        have sAll := fun b o z => sR b o (sHP b o z)
        refine ⟨G, G', c, lv, pv0, r, bs, ps, (wordsOf line).drop 1, rfl, hcl.same sAll, hb.same sAll, hcp.same sAll, hp.same sAll, ?_, ⟨by rw [List.length_drop]; have := wd.few; omega, fun x hx => wd.short x (List.mem_of_mem_drop hx)⟩, fun v H' s' dq => hk v H' (fun b o z => s' _ _ (sR _ _ z)) (dq.move (fun b f => none_of_same sR f) fun b o _ z => z)⟩
        rw [← ec]
        exact SqL.of upd_same
      have eT : toldF ps bs found.length line = (if (wordsOf line)[0]? = some ("fact" : Str) ∧ vs.length < 8 then claimIn ps bs ((wordsOf line).drop 1) else none) := by
        rw [lv']
        rfl
      rw [← eT] at dq
      have sB : Same Hc H' := fun b o z => s' _ _ (sP _ _ z)
      have sA : Same H H' := fun b o z => sB _ _ (sH _ _ z)
      have hD' := hD.same sB
      cases ht : toldF ps bs found.length line with
      | none =>
        rw [ht] at dq
        cases dq
        refine ⟨_, rfl, _, rfl, ?_⟩
        refine iteT ?_
        exact ⟨_, rfl, _, rfl, Nat.le_trans (by show 2 ≤ 1000; omega) sizeLine_ge, fun q nq => two sA hD' (back ht) nq⟩
      | some t =>
      rw [ht] at dq
      have hlt : found.length < 8 ∧ ∃ ds, t = .tuple ds := by
        unfold toldF at ht
        by_cases z : (wordsOf line)[0]? = some ("fact" : Str) ∧ found.length < 8
        · rw [if_pos z] at ht
          exact ⟨z.2, claim_ref ht⟩
        · rw [if_neg z] at ht
          cases ht
      obtain ⟨fm, ds, rfl⟩ := hlt
      obtain ⟨c', rfl⟩ : ∃ c', v = .ref c' := by
        have dq : Dq _ H' v (.tuple ds) := dq
        cases dq with
        | tup => exact ⟨_, rfl⟩
      refine ⟨_, rfl, _, rfl, ?_⟩
      rw [show decide (V.ref c' = V.non) = false from decide_eq_false fun z => by cases z]
      refine iteF ?_
      obtain ⟨vs', ed', al'⟩ := hD'
      have lv2 : vs'.length = found.length := al'.len
      refine ⟨_, rfl, .inl ⟨rfl, _, SqL.of ed'⟩, _, rfl, d, vs', _, rfl, rfl, ed', by rw [lv2]; exact Nat.lt_of_lt_of_le (Nat.lt_trans fm (by omega)) sizeLine_ge, ?_⟩
      have up : SameB d H' (upd H' d (.lst (vs' ++ [.ref c']))) := fun b o hb z => by
        rw [upd_ne hb]
        exact z
      refine ⟨_, _, _, _, found ++ [.tuple ds], rfl, same_of_b nd sA up, ⟨_, upd_same, ?_⟩, ?_⟩
      · refine (al'.move (fun _ f => f) fun b o f z => up b o f.2 z).app (.cons (dq.move (fun b f => ⟨none_of_same sHP f, fun z => ?_⟩) fun b o f z => up b o (fun y => ?_) z) .nil)
        · rw [y] at f
          exact absurd (f.symm.trans ed) (fun q => by cases q)
        · rw [z] at f
          exact absurd (f.symm.trans ed) (fun q => by cases q)
      · rw [hR, readF_go ht]
        show (_, _ + 1 + i) = (_, _ + (i + 1))
        rw [Nat.add_assoc, Nat.add_comm 1 i]
    · rintro σ Hc ⟨o2, o3, o4, o5, found, rfl, sH, hD, hR⟩
      rw [List.length_map, List.drop_of_length_le (Nat.le_refl _)] at hR
      refine ⟨_, rfl, _, rfl, a, _, rfl, .inl (sqL_same hw sH), Nat.le_trans (by show 2 ≤ 1000; omega) sizeLine_ge, fun q nq => ?_⟩
      rw [List.length_map]
      refine two (n := ls.length) sH hD ?_ nq
      rw [hR]
      show (found, 0 + ls.length) = _
      rw [Nat.zero_add]
end
end G

set_option Elab.async false
set_option linter.all false
set_option maxRecDepth 100000
set_option maxHeartbeats 4000000
namespace U
open PySem PySem.Spec PyProof.Rows L2
open PySem.W (Frag)
/-! ### an error of the package raised -/
/-- the error's own dict -/
abbrev xdV (v : V) : HO := .xd [(("value" : Str), v)]
section
variable {X : Cx} {C D fI : Addr}
def tMkErr (C : Addr) (te : TE) : L2.St → Hp → XK → Prop := fun σ H Q => te σ H fun v H1 => ∀ d, H1 d = none → Q (.ref C) (some d) (upd H1 d (xdV v))
theorem pmk_err {x : Str} {e : Expr} {te : TE} {p pos : Pos} {k : Nat} (T : InitTxt X.prog X.K D fI) (TC : ErrC X.K D fI C) (hr : Room k X.A) (hm : X.mg x = some (.ref C)) (he : PE X e te) (hg : Gl X x := by rfl)
    (hs : starEach [e] X.env = (false, eval e X.env) :: starEach [] X.env := by rfl) (hdb : (x == ("__debug__" : Str)) = false := by decide) : PMk X (.Call (.Name x p) [e] [] pos) (tMkErr C te) := by
  intro pins s σ H Q I h
  refine wpAny_Call_Name_kw (ld_glob I hg hm ?_ hdb)
  refine PySem.W.callWith_K (h₀ := X.base) I.ok.mod.kin TC.kC ?_ hs (by rfl)
  rw [hs]
  show wpAny _ _ (spliced ((false, eval e X.env) :: backTo pos (starEach [] X.env))) _ _ s
  refine Calls.spliced_cons (thn (he.run pins s σ H _ I h) fun u s1 ⟨v, H1, I1, r1, q1⟩ => ?_)
  refine Calls.spliced_nil ⟨I1.kIn, ?_⟩
  show wpAny _ _ (call (.ref C) [u]) _ _ _
  obtain ⟨mb, hb1, hb2⟩ := I1.mod.blt
  have hdp := hr.dp
  have lim := I1.nolimit
  have kin := I1.kIn
  have gl := I1.mod.glob.keeps I1.bk
  have hb1' := hb1.keeps I1.bk
  obtain ⟨hp, gs, dr, tk0, os⟩ := s1
  refine wpAny_call (made_run T TC kin gl hb1' hb2 lim (by omega) fun h' tk a d M => ?_)
  show MkP X pins σ Q (.ref a) ⟨h', gs, dr, tk, os⟩
  obtain ⟨t1, hoe⟩ := M.obj
  obtain ⟨G', g1, g2⟩ := restrict h' fun b => decide (b ≠ a)
  have gk : ∀ b, b ≠ a → G'.get? b = h'.get? b := fun b hb => g1 b (decide_eq_true hb)
  have ga : G'.get? a = none := g2 a (by simp)
  have kept : ∀ b o, hp.get? b = some o → G'.get? b = some o := fun b o q => (gk b (Nat.ne_of_lt (Nat.lt_of_lt_of_le (Heap.lt_size q) M.new))).trans (M.keep b o q)
  have ob : ObjOk X.prog X.w (upd H1 d (xdV v)) G' d (xdV v) := ⟨_, M.ns.at (fun o q => (gk d M.dne).trans q), fun f => relO_value r1 f⟩
  have J : Inv X pins σ (upd H1 d (xdV v)) ⟨G', gs, dr, tk, os⟩ := I1.laid (t' := tk) kept M.dbig ob
  refine ⟨a, _, _, ⟨G', gs, dr, tk, os⟩, _, .ref C, some d, rfl, J, fun b o q => ?_, ga, hoe, ⟨rfl, rfl⟩, rfl, rfl, ?_, rfl, I1.bare, raises_own TC.exC TC.tyC, q1 d (I1.hok.fresh M.dbig)⟩
  · by_cases hb : b = a
    · have q' : G'.get? b = some o := q
      rw [hb, ga] at q'
      cases q'
    · exact (gk b hb).symm.trans q
  · rw [upd_ne (Ne.symm M.dne)]
    exact I1.hok.fresh M.new
/-- raise x(e) -/
theorem ps_raiseErr {x : Str} {e : Expr} {te : TE} {W : WX} {p pos pos2 : Pos} {k : Nat} (hc : X.calm = true) (tk : Takes X W) (T : InitTxt X.prog X.K D fI) (TC : ErrC X.K D fI C) (hr : Room k X.A) (hm : X.mg x = some (.ref C)) (he : PE X e te) (hg : Gl X x := by rfl)
    (hs : starEach [e] X.env = (false, eval e X.env) :: starEach [] X.env := by rfl) (hdb : (x == ("__debug__" : Str)) = false := by decide) :
    PS X (.Raise (some (.Call (.Name x p) [e] [] pos)) none pos2) (fun _ σ H => tMkErr C te σ H fun cls d H' => W cls d σ H') := ps_raise hc tk (pmk_err T TC hr hm he hg hs hdb)
/-! ### an error that was caught -/
def exw (a C d : Addr) : HO := .ext fun h => ∃ (o : Obj) (vs : Array Value), h.get? a = some o ∧ o.cls = .ref C ∧ o.dict = some d ∧ o.data = .fields vs
theorem exw_at {P : Program} {w : World} {H : Hp} {h : Heap} {a C d : Addr} (x : HOk P w H h) (e : H a = some (exw a C d)) : ∃ (o : Obj) (vs : Array Value), h.get? a = some o ∧ o.cls = .ref C ∧ o.dict = some d ∧ o.data = .fields vs := by
  have z : ObjOk P w H h a (.ext fun h => ∃ (o : Obj) (vs : Array Value), h.get? a = some o ∧ o.cls = .ref C ∧ o.dict = some d ∧ o.data = .fields vs) := x a _ e
  exact z.1
theorem exw_ok {P : Program} {w : World} {H : Hp} {h : Heap} {a C d : Addr} {o : Obj} {vs : Array Value} (h1 : h.get? a = some o) (h2 : o.cls = .ref C) (h3 : o.dict = some d) (h4 : o.data = .fields vs) : ObjOk P w H h a (exw a C d) :=
  ⟨⟨o, vs, h1, h2, h3, h4⟩, ⟨o, h1⟩, fun g1 g2 z k => by
    obtain ⟨o', vs', q1, q2⟩ := z
    exact ⟨o', vs', k _ q1, q2⟩⟩
def tErrW (K : Frag) (D fI : Addr) (te : TE) : TE := fun σ H Q => te σ H fun x H1 => ∃ (a C d : Addr) (v : V), x = .ref a ∧ ErrC K D fI C ∧ H1 a = some (exw a C d) ∧ H1 d = some (xdV v) ∧ Q v H1
theorem pe_errW {e : Expr} {te : TE} {pos : Pos} (he : PE X e te) (hb : attributeBase e "value" X.env (eval e X.env) = eval e X.env := by rfl) : PE X (.Attribute e "value" pos) (tErrW X.K D fI te) := by
  refine ⟨fun pins s σ H Q I h => ?_⟩
  refine attr_of hb (thn (he.run pins s σ H _ I h) fun u s1 hh => ?_)
  obtain ⟨x, H1, I1, rx, a, C, d, v, ex, TC, ea, ed, q⟩ := hh
  subst ex
  obtain rfl : u = Value.ref a := rx
  obtain ⟨o, vs, ho, oc, odd, odat⟩ := exw_at I1.hok ea
  have hx : ObjOk X.prog X.w H1 s1.heap d (xdV v) := I1.hok d _ ed
  obtain ⟨mA, hns, hr⟩ := hx
  obtain ⟨od, hod, hl⟩ := lookIn_ns hns
  have l : ([(("value" : Str), v)] : List (Str × V)).lookup ("value" : Str) = some v := by simp [List.lookup]
  obtain ⟨u, hu, ru⟩ := RelO.some_of (v := v) (o := mA "value") (by rw [← l]; exact hr "value")
  have J : PySem.W.InstAt s1.heap a o C (some od) := ⟨ho, oc, by unfold PySem.W.notCls; rw [odat] <;> rfl, by rw [odd]; exact hod⟩
  exact HandSPX.exc_get I1.kIn J TC.ga TC.gg TC.exC (PySem.W.findObj_own TC.hdC TC.noV rfl (by rw [hl, hu])) (handed_of ru) ⟨v, H1, I1.tok _, ru, q⟩
def rIsW (K : Frag) (D fI : Addr) : List V → Hp → VK → Prop := fun xs H Q => ∃ (a C d : Addr) (v c : V) (u : Value) (b : Bool), xs = [.ref a, c] ∧ ErrC K D fI C ∧ H a = some (exw a C d) ∧ H d = some (xdV v) ∧ ClsV c u ∧ PySem.W.kitOne K (.ref C) u = some b ∧ Q (.bl b) H
theorem call_isW : CallR X (.builtin "isinstance") (rIsW X.K D fI) := by
  intro pins s σ H xs us Q I r h
  obtain ⟨a, C, d, v, c, u, b, rfl, TC, ea, ed, kc, e, q⟩ := h
  obtain ⟨u1, u2, rfl, r1, r2⟩ := vals2 r
  have e2 := kc.eq r2
  subst e2
  obtain rfl : u1 = Value.ref a := r1
  obtain ⟨o, vs, ho, oc, odd, odat⟩ := exw_at I.hok ea
  have hx : ObjOk X.prog X.w H s.heap d (xdV v) := I.hok d _ ed
  obtain ⟨mA, hns, hr⟩ := hx
  obtain ⟨od, hod, hl⟩ := lookIn_ns hns
  have hcl : (PySem.W.clsIn X.K C).isSome = true := by
    obtain ⟨nm, q, N, bs, bm, sn, sub, ab, col, dd, k0, k1, k2, k3, k5, hC, hbm⟩ := TC.cls
    unfold PySem.W.clsIn
    rw [hC] <;> rfl
  have J : PySem.W.InstAt s.heap a o C (some od) := ⟨ho, oc, by unfold PySem.W.notCls; rw [odat] <;> rfl, by rw [odd]; exact hod⟩
  exact PySem.W.kia_one (PySem.W.kitx_exc (ox := o) (od := some od) hcl TC.ga TC.gg TC.exC TC.ca TC.cg TC.ct TC.mo) I.kIn J e (fun z => nomatch z)
    fun tk => ⟨.bl b, H, I.tok tk, rfl, q⟩
end
end U

set_option Elab.async false
set_option linter.all false
set_option maxRecDepth 100000
set_option maxHeartbeats 4000000
namespace U
open PySem PySem.Spec PyProof.Rows L2
open PySem.W (Frag)
section
variable {X : Cx} {pins : List (Addr × Obj)} {σ : L2.St} {H : Hp} {s : Shared}
/-- an error that no one tracked is tracked from now on -/
theorem inv_track {a C d : Addr} {o : Obj} {vs : Array Value} (I : Inv X ((a, o) :: pins) σ H s) (hex : X.ex = []) (out : X.s_0.heap.get? a = none) (h2 : o.cls = .ref C) (h3 : o.dict = some d) (h4 : o.data = .fields vs)
    (np : ∀ p ∈ X.pn ++ pins, p.1 ≠ a) (nc : ∀ x c, X.env.cells.lookup x = some c → c ≠ a) : Inv X pins σ (upd H a (exw a C d)) s := by
  obtain ⟨ha, na, nl, nf, _⟩ := I.pin (a, o) (List.mem_append_right _ List.mem_cons_self)
  have ha : s.heap.get? a = some o := ha
  have na : H a = none := na
  have nl : a ≠ X.env.locals := nl
  have ne : ∀ {b : Addr} {u : Obj}, X.s_0.heap.get? b = some u → b ≠ a := fun {b u} e z => by
    rw [z, out] at e
    cases e
  have mv : ∀ {b : Addr} {u : HO}, H b = some u → upd H a (exw a C d) b = some u := fun {b u} e => by
    rw [upd_ne (ne_of_none e na)]
    exact e
  refine ⟨I.ok, I.os, I.bare, ⟨I.base.keep, I.base.slot, fun b u e n hx => ?_, I.base.there, fun b xs e => mv (I.base.tups b xs e), fun b o u e => mv (I.base.frzs b o u e), fun b ps e => ?_⟩, I.loc, I.cell, ?_, fun x c e => ?_, fun p hp => ?_, fun b u e => ?_, I.len⟩
  · rw [upd_ne (ne e)]
    exact I.base.free b u e n hx
  · obtain ⟨more, z⟩ := I.base.tbls b ps e
    exact ⟨more, mv z⟩
  · rw [upd_ne (Ne.symm nl)]
    exact I.free
  · rw [upd_ne (nc x c e)]
    exact I.freeC x c e
  · obtain ⟨p1, p2, p3⟩ := I.pin p (by
      rcases List.mem_append.mp hp with z | z
      · exact List.mem_append_left _ z
      · exact List.mem_append_right _ (List.mem_cons_of_mem _ z))
    refine ⟨p1, ?_, p3⟩
    rw [upd_ne (np p hp)]
    exact p2
  · by_cases hb : b = a
    · rw [hb, upd_same] at e
      cases e
      rw [hb]
      exact exw_ok ha h2 h3 h4
    · rw [upd_ne hb] at e
      exact (I.hok b u e).stay (fun c v _ q => q) (fun c q => mv q) fun c xs q => mv q
end
/-- the error stays behind the suite -/
def wKeep (K : Frag) (c : Value) (i : Nat) (ts : TS) (D : Ends) : WX := fun cls d σ H =>
  ∃ C dd, cls = .ref C ∧ d = some dd ∧ PySem.W.exmOne K cls c = some true ∧ ∀ a, H a = none → ts { nx := fun σ' H' => D.nx (σ'.set i none) (upd H' a (exw a C dd)), rt := fun _ _ => False, bk := fun _ _ => False, ct := fun _ _ => False } (σ.set i (some (.ref a))) H
section
variable {X : Cx} {x n : Str} {c : Value} {i : Nat} {body suite : List Stmt} {b₀ : Stmt} {np pos pos' : Pos} {tb : WX → TS} {ts : TS}
theorem ps_try_keep (hs : X.stack = X.env :: X.outer) (hf : X.env.frame = some X.env.locals) (hN : X.N.Nodup) (hi : X.N[i]? = some n) (hln : X.env.kindOf n = some .local) (hc : Names X x c) (hex : X.ex = []) (hcells : X.env.cells = [])
    (hb : ∀ (W : WX) (pn : List (Addr × Obj)) (xe : Value → Shared → Prop), Takes (X.tr pn xe) W → PassesOwn (model X.prog X.w) X.A X.env xe → PSs (X.tr pn xe) body (tb W))
    (hsu : ∀ (a : Addr) (oe : Obj) (pn : List (Addr × Obj)), PSs (X.suite a ((a, oe) :: pn)) (b₀ :: suite) ts) :
    PS X (.Try body [.ExceptHandler (some (.Name x np)) (some n) (b₀ :: suite) pos'] [] [] pos) (fun D σ H => tb (wKeep X.K c i ts D) D σ H) := by
  refine ⟨fun pins s σ H D I h => ?_⟩
  have good := I.ok
  have framesAre : X.A.frames = some (X.env :: X.outer) := by
    rw [good.frames, hs]
  have isLoc : Loc X.env.scope n := .inl hln
  refine wpAny_Try_except ?_
  refine wpAny_mono ((hb (wKeep X.K c i ts D) (X.pn ++ pins) (fun e s₁ => wpAny (model X.prog X.w) X.A (noteFrame e X.env) (fun _ s₂ => wpAny (model X.prog X.w) X.A (setFlight e none) (fun _ s₃ =>
    wpAny (model X.prog X.w) X.A (handleBy e X.env [.ExceptHandler (some (.Name x np)) (some n) (b₀ :: suite) pos']) (SP X pins D) X.xe s₃) X.xe s₂) X.xe s₁) (fun u s' air => ?_) PassesOwn.looking).run [] s σ H D (I.toTry _) h) (fun f s1 fin => ?_) (fun e s1 he => he)
  · obtain ⟨a, B, sI, pins', σ', H', cls, dd?, rfl, J0, ground, upTo, sky, na, sameOs, bare, C, dd, rfl, rfl, hit, wish⟩ := air
    have J : Inv X pins σ' H' sI := J0.ofTry good
    have sky1 : Sky B (X.env :: X.outer) a (Zc (.ref C) (some dd)) X.env.locals s'.heap := by
      rw [← hs]
      exact sky
    show wpAny (model X.prog X.w) X.A (noteFrame (.ref a) X.env) _ _ _
    refine Sky.land Zc.steady framesAre hf sky1 fun h3 fl3 up3 => ?_
    have J3 : Inv X pins σ' H' { s' with heap := h3 } := J.landed ground fl3.1 (upTo.trans up3) sameOs bare
    obtain ⟨oe3, vs3, at3, z3, dat3⟩ := fl3.there
    have offFrames : a ∉ frs (X.env :: X.outer) := fun hm => by
      obtain ⟨_, o', e', nofields⟩ := fl3.2.2.1.mem hm
      rw [at3] at e'
      cases e'
      exact nofields _ dat3
    have noA : sI.heap.get? a = none := by
      cases q : sI.heap.get? a with
      | none => rfl
      | some o =>
        have := ground a o q (by rw [hs]; exact offFrames)
        rw [fl3.2.1] at this
        cases this
    have out : X.s_0.heap.get? a = none := by
      cases q : X.s_0.heap.get? a with
      | none => rfl
      | some o =>
        obtain ⟨o', e'⟩ := J.base.there a o q (by rw [hex]; simp)
        rw [noA] at e'
        cases e'
    have nL : a ≠ X.env.locals := fun z => offFrames (List.mem_filterMap.mpr ⟨X.env, List.mem_cons_self, by rw [hf, z]⟩)
    have nF : a ∉ X.fs := fun hm => by
      obtain ⟨e, he, q⟩ := List.mem_filterMap.mp hm
      exact offFrames (List.mem_filterMap.mpr ⟨e, List.mem_cons_of_mem _ he, q⟩)
    have offPins : ∀ p ∈ X.pn ++ pins, p.1 ≠ a := fun p hp z => by
      have := (J.pin p hp).1
      rw [z, noA] at this
      cases this
    have S3 := J3.suite at3 dat3 na nL nF
    refine wpAny_handleBy_cons (codeAny_handlers_test ?_) (by intro q; cases q)
    have typ : PySem.W.Looks (model X.prog X.w) h3 (typeOf (.ref a)) (.ref C) := fun A Q E s k q => wpAny_typeOf_ref (k _ _ at3) (by rw [z3.1]; exact q)
    have meets := PySem.W.exm_one (M := model X.prog X.w) (J3.kIn) typ hit
    have test : ∀ {Q : Value → Shared → Prop} {E : Value → Shared → Prop}, Q c { s' with heap := h3 } → wpAny (model X.prog X.w) (X.A.mark (some (.ref a))) (eval (.Name x np) X.env) Q E { s' with heap := h3 } := fun {Q E} q => by
      obtain ⟨hg, hdbg, hm | ⟨hm, hv, hnn⟩⟩ := hc
      · exact ld_glob (X := X.suite a ((a, oe3) :: (X.pn ++ pins))) S3 hg hm q hdbg
      · exact ld_blt (X := X.suite a ((a, oe3) :: (X.pn ++ pins))) S3 hg hm hv q hnn hdbg
    refine test (meets.here ?_)
    refine codeAny_handlers_suite_as ?_
    refine HandSPX.lands_againZ fl3 fun h4 fl4 up4 => ?_
    have J4 : Inv X pins σ' H' { s' with heap := h4 } := J.landed ground fl4.1 ((upTo.trans up3).trans up4) sameOs bare
    obtain ⟨oe4, vs4, at4, z4, dat4⟩ := fl4.there
    have S4 := J4.suite at4 dat4 na nL nF
    refine store_ok (X := X.suite a ((a, oe4) :: (X.pn ++ pins))) (v := .ref a) S4 hN hi isLoc rfl (fun s5 S5 => ?_) (.inr hln)
    refine wpAny_mono ((hsu a oe4 (X.pn ++ pins)).run [] s5 _ H' _ S5 (wish a na)) (fun f s6 fin => ?_) (fun _ _ z => False.elim z)
    cases f with
    | next =>
      obtain ⟨σ6, H6, S6, q6⟩ := fin
      have pinA := S6.pin (a, oe4) (List.mem_append_left _ List.mem_cons_self)
      have J6 : Inv X ((a, oe4) :: pins) σ6 H6 s6 := (S6.unsuite good).pins_of fun p hp => by
        rcases List.mem_cons.mp hp with z | z
        · rw [z]
          exact pinA
        · exact S6.pin p (List.mem_append_left _ (List.mem_cons_of_mem _ (List.mem_append_right _ z)))
      refine gone_ok J6 hN hi hln fun s7 J7 => ⟨_, _, inv_track J7 hex out z4.1 z4.2 dat4 offPins (fun x c e => ?_), q6⟩
      rw [hcells] at e
      cases e
    | brk =>
      obtain ⟨σ6, H6, S6, q6⟩ := fin
      exact q6.elim
    | cont =>
      obtain ⟨σ6, H6, S6, q6⟩ := fin
      exact q6.elim
    | ret u =>
      obtain ⟨v6, σ6, H6, S6, r6, q6⟩ := fin
      exact q6.elim
  · cases f with
    | next =>
      obtain ⟨σ', H', J', q⟩ := fin
      exact wpAny_execs_nil ⟨σ', H', J'.ofTry good, q⟩
    | brk =>
      obtain ⟨σ', H', J', q⟩ := fin
      exact ⟨σ', H', J'.ofTry good, q⟩
    | cont =>
      obtain ⟨σ', H', J', q⟩ := fin
      exact ⟨σ', H', J'.ofTry good, q⟩
    | ret u =>
      obtain ⟨v, σ', H', J', r, q⟩ := fin
      exact ⟨v, σ', H', J'.ofTry good, r, q⟩
end
end U

set_option Elab.async false
set_option linter.all false
set_option maxRecDepth 100000
set_option maxHeartbeats 4000000
namespace G
open PySem PySem.Spec PyProof.Rows L2 U
open PySem.W (Frag)
section
variable {X : Cx}
/-- a dict beside an empty one -/
theorem op_eq_empty (hu : X.A.units < cLine) : OpR X (compareOp .Eq) (fun x y H Q => ∃ a b ks, x = .ref a ∧ y = .ref b ∧ H a = some (.dK ks) ∧ H b = some (.dK []) ∧ Q (.bl ks.isEmpty) H) := by
  intro pins s σ H x y v u Q I rx ry h
  obtain ⟨a, b, ks, rfl, rfl, ea, eb, q⟩ := h
  obtain rfl : v = Value.ref a := rx
  obtain rfl : u = Value.ref b := ry
  obtain ⟨_, ya, va, ra, da⟩ := (show ObjOk X.prog X.w H s.heap a (.dK ks) from I.hok a _ ea)
  obtain ⟨_, yb, vb, rb, db⟩ := (show ObjOk X.prog X.w H s.heap b (.dK []) from I.hok b _ eb)
  cases rb
  have la := ra.length
  refine PySem.W.keq_eq (knd := mixKind X.prog X.w) (r := true) ya yb da db hu (fun z => ?_) (fin_bl I q ?_)
  · cases va with
    | nil => exact .nil
    | cons _ _ => cases z
  · cases ks with
    | nil =>
      cases va with
      | nil => rfl
      | cons _ _ => cases la
    | cons _ _ =>
      cases va with
      | nil => cases la
      | cons _ _ => rfl
end
/-! ### Ground -/
structure GroundT (K : Frag) (mg : Str → Option Value) (C f : Addr) (fd : FuncData) : Prop where
  makes : Mk K C f
  fn : FunD K "__init__" "Ground.__init__" (defArgs s_Ground_init) (defBody s_Ground_init) (defScope s_Ground_init) [] [] f fd
  g : mg "Ground" = some (.ref C)
  sc : SlX.SCls K C
  labs : ∃ p, SlX.Slot1 K C "own_labs" p 0
  people : ∃ p, SlX.Slot1 K C "own_people" p 1
section
variable {P : Program} {w : World} {K : Frag} {mg : Str → Option Value} {base : Heap} {C f : Addr} {fd : FuncData}
def sp_Ground (K : Frag) (C : Addr) : Sp := fun vs H Q _ => ∃ (x dx : Addr) (pv lv : V), vs = [.ref x, pv, lv] ∧ H x = some (.ins C dx []) ∧ dx ≠ x ∧ ∀ H' : Hp, (∀ b, b ≠ x → b ≠ dx → H' b = H b) → AttrAt K H' (.ref x) "own_people" pv → AttrAt K H' (.ref x) "own_labs" lv → Q .non H'
theorem ok_Ground (T : GroundT K mg C f fd) : FnOk P w K mg base CX0 1 f fd P_Ground_init (sp_Ground K C) := by
  obtain ⟨p0, t0⟩ := T.labs
  obtain ⟨p1, t1⟩ := T.people
  refine T.fn.ok sc_Ground_init (fun vs H Q E h => ?_) (fun cdv A outer s H vs Q E hr h' => ?_)
  · obtain ⟨x, dx, pv, lv, rfl, _⟩ := h
    rfl
  · obtain ⟨x, dx, pv0, lv, rfl, hx, hne, hq⟩ := h'
    refine ⟨_, PSs.nox (pss_cons (SlX.ps_sl (pv 0) (pv 1)) (pss_one (SlX.ps_sl (pv 0) (pv 2)))), ?_⟩
    refine ⟨_, rfl, _, rfl, x, C, dx, p1, [], 1, rfl, .inl ⟨hx, rfl⟩, T.sc, t1, ?_⟩
    refine ⟨_, rfl, _, rfl, x, C, dx, p0, _, 0, rfl, SlX.slH_slt hne, T.sc, t0, ?_⟩
    rw [SlX.slH_twice hne]
    have st : SlX.Slt (SlX.slH H x C dx (SlX.putS 0 lv (SlX.putS 1 pv0 []))) x C dx (SlX.putS 0 lv (SlX.putS 1 pv0 [])) := SlX.slH_slt hne
    refine hq _ (fun b h1 h2 => SlX.slH_ne h1 h2) (.inr ⟨x, C, dx, p1, _, 1, rfl, st, T.sc, t1, ?_⟩) (.inr ⟨x, C, dx, p0, _, 0, rfl, st, T.sc, t0, SlX.putS_get _ _ _⟩)
    exact (SlX.putS_ne (by decide)).mpr (SlX.putS_get _ _ _)
end
end G

set_option Elab.async false
set_option linter.all false
set_option maxRecDepth 100000
set_option maxHeartbeats 4000000
namespace G
open PySem PySem.Spec PyProof.Rows L2 U
open PySem.W (Frag)
/-! ### read_text -/
structure Parts where
  people : People
  labs : Labs
  rows : Rows
  facts : List PyData
def Parts.d (p : Parts) : PyData := .tuple [dictD ratesD p.people, dictD tabsD p.labs, dictD Row.d p.rows, .tuple p.facts]
def readText (t : Str) : Sum Nat Parts :=
  if (readPeople (linesOf t)).1.isEmpty = true then .inl 1 else
  if (readLabs ((linesOf t).drop (readPeople (linesOf t)).2)).1.isEmpty = true then .inl ((readPeople (linesOf t)).2 + (readLabs ((linesOf t).drop (readPeople (linesOf t)).2)).2 + 1) else
  let ps := (readPeople (linesOf t)).1
  let bs := (readLabs ((linesOf t).drop (readPeople (linesOf t)).2)).1
  let a1 := (readPeople (linesOf t)).2 + (readLabs ((linesOf t).drop (readPeople (linesOf t)).2)).2
  let a2 := a1 + (readResults ps bs ((linesOf t).drop a1)).2
  let a3 := a2 + (readFacts ps bs ((linesOf t).drop a2)).2
  if a3 < (linesOf t).length then .inl (a3 + 1) else .inr ⟨ps, bs, (readResults ps bs ((linesOf t).drop a1)).1, (readFacts ps bs ((linesOf t).drop a2)).1⟩
structure TextOk (t : Str) : Prop where
  fits : t.length + 2 ≤ sizeLine
  lines : LinesOk (linesOf t)
theorem LinesOk.drop {ls : List Str} (h : LinesOk ls) (n : Nat) : LinesOk (ls.drop n) := ⟨by rw [List.length_drop]; have := h.few; omega, fun l hl => h.short l (List.mem_of_mem_drop hl)⟩
theorem readK_all {α : Type} {kw : Str} {most : Nat} {f : List Str → Option α} {C : α → Prop} (hf : ∀ ws t, f ws = some t → C t) : ∀ (ls : List Str) (found : List (Str × α)), (∀ x ∈ found, C x.2) → ∀ x ∈ (readK kw most f found ls).1, C x.2
  | [], found, h => h
  | l :: ls, found, h => by
    cases hn : nextK kw most f found l with
    | none =>
      rw [readK_stop hn]
      exact h
    | some x =>
      rw [readK_go hn]
      refine readK_all hf ls (found ++ [x]) fun y hy => ?_
      rcases List.mem_append.mp hy with hy | hy
      · exact h y hy
      · rw [List.mem_singleton.mp hy]
        unfold nextK at hn
        split at hn
        · rename_i t n ht h1
          obtain ⟨h2, _⟩ := toldK_some ht
          by_cases hin : n ∈ found.map (·.1)
          · rw [if_pos hin] at hn
            cases hn
          · rw [if_neg hin] at hn
            cases hn
            exact hf _ _ h2
        · cases hn
theorem labIn_ok {ws : List Str} {ts : List Tab} (h : labIn ws = some ts) : ts.length ≤ 4 ∧ ∀ t ∈ ts, t.ok = true := by
  unfold labIn at h
  split at h
  · rename_i w0 n r
    by_cases hn : isName n = true
    · rw [if_pos hn] at h
      unfold tabsIn at h
      by_cases h5 : (r.map integerIn).length % 5 = 0
      · rw [if_pos h5] at h
        by_cases hc : 1 ≤ (r.map integerIn).length / 5 ∧ (r.map integerIn).length / 5 ≤ 4 ∧ (chunks (r.map integerIn)).all isTable = true
        · rw [if_pos hc] at h
          have h := Option.some.inj h
          obtain ⟨_, t2, t3⟩ := tabs_d hc.2.2
          rw [← h]
          refine ⟨?_, t3⟩
          rw [t2]
          unfold chunks
          rw [List.length_map, List.length_range]
          exact hc.2.1
        · rw [if_neg hc] at h
          cases h
      · rw [if_neg h5] at h
        cases h
    · rw [if_neg hn] at h
      cases h
  · cases h
theorem readLabs_ok (ls : List Str) : LabsOk (readLabs ls).1 := readK_all (kw := "lab") (most := 6) (f := labIn) (C := fun (ts : List Tab) => ts.length ≤ 4 ∧ ∀ t ∈ ts, t.ok = true) (fun ws t h => labIn_ok h) ls [] (fun x h => by cases h)
def ErrTo (H : Hp) (C : Addr) (v : V) (E : XK) : Prop := ∀ H1 d, Same H H1 → H1 d = none → E (.ref C) (some d) (upd H1 d (xdV v))
def outText (H : Hp) (CB : Addr) (d : PyData) (Q : VK) (E : XK) : Prop := match d with
  | .str t => TextOk t ∧ (match readText t with
    | .inl n => ErrTo H CB (.int n) E
    | .inr p => Ret H p.d Q)
  | _ => ErrTo H CB (.int 0) E
theorem not_str {H : Hp} {CB : Addr} {d : PyData} {Q : VK} {E : XK} (h : outText H CB d Q E) (hn : ∀ t, d ≠ .str t) : ErrTo H CB (.int 0) E := by
  cases d with
  | str t => exact absurd rfl (hn t)
  | none => exact h
  | bool _ => exact h
  | int _ => exact h
  | list _ => exact h
  | tuple _ => exact h
  | dict _ => exact h
theorem dict_k {α : Type} {dA : α → PyData} {F : Addr → Prop} {H : Hp} {v : V} {xs : List (Str × α)} (h : Dq F H v (dictD dA xs)) : ∃ a kvs, v = .ref a ∧ H a = some (.dK kvs) ∧ kvs.isEmpty = xs.isEmpty := by
  obtain ⟨a, kvs, rfl, _, e, k, _⟩ := dk_inv h
  refine ⟨a, kvs, rfl, e, ?_⟩
  have l := congrArg List.length k
  rw [List.length_map, List.length_map, List.length_map] at l
  cases kvs with
  | nil =>
    cases xs with
    | nil => rfl
    | cons _ _ => cases l
  | cons _ _ =>
    cases xs with
    | nil => cases l
    | cons _ _ => rfl
structure HasX (P : Program) (w : World) (K : Frag) (mg : Str → Option Value) (base : Heap) (k : Nat) (x : Str) (ps : List Str) (sp : Sp) : Prop where
  fn : ∃ fd : FuncData, FnOk P w K mg base (L2.CX P w) k (He.ga K x) fd ps sp ∧ PySem.W.keepIn K (.ref (He.ga K x)) = true ∧ Binds K fd ps []
  g : mg x = some (.ref (He.ga K x))
section
variable {P : Program} {w : World} {K : Frag} {mg : Str → Option Value} {base : Heap} {CB D fI CG fG : Addr} {fdG : FuncData}
theorem add_nat {i j a b : Nat} {σ : L2.St} {H : Hp} {Q : VK} (hi : σ[i]? = some (some (.int (a : Int)))) (hj : σ[j]? = some (some (.int (b : Int)))) (h : Q (.int ((a + b : Nat) : Int)) H) : tAdd (tVar i) (tVar j) σ H Q := by
  refine ⟨_, hi, _, hj, _, _, rfl, rfl, ?_⟩
  rw [Int.natCast_add] at h
  exact h
theorem add_at {a b : Nat} {x0 x1 x2 x4 : Option V} {xs : List (Option V)} {H : Hp} {D : Ends} (h : D.nx (x0 :: x1 :: x2 :: some (.int ((a + b : Nat) : Int)) :: x4 :: some (.int (b : Int)) :: xs) H) : tAsg (tAdd (tVar 3) (tVar 5)) (gName 3) D (x0 :: x1 :: x2 :: some (.int (a : Int)) :: x4 :: some (.int (b : Int)) :: xs) H := add_nat rfl rfl h
def sp_read_text (CB : Addr) : Sp := fun vs H Q E => ∃ (F : Addr → Prop) (v : V) (d : PyData), vs = [v] ∧ Dq F H v d ∧ outText H CB d Q E
theorem has_read_text (F : Fn K mg "read_text" s_read_text) (T : InitTxt P K D fI) (TC : ErrC K D fI CB) (mB : mg "BadChart" = some (.ref CB)) (TG : GroundT K mg CG fG fdG) (hP : Has P w K mg base 3 "read_people" P_read_people [] (sp_read_people K)) (hL : Has P w K mg base 3 "read_labs" P_read_labs [] (sp_read_labs K))
    (hR : Has P w K mg base 5 "read_results" P_read_results [] (sp_read_results K)) (hF : Has P w K mg base 6 "read_facts" P_read_facts [] (sp_read_facts K)) (gI : mg "isinstance" = none) (gS : mg "str" = none) (gL : mg "len" = none) (gT : mg "tuple" = none) (cF : CS mg "FEED" sFeed) : HasX P w K mg base 7 "read_text" P_read_text (sp_read_text CB) := by
  obtain ⟨⟨fd, F⟩, g⟩ := F
  refine ⟨⟨fd, ?_, F.kp, F.bindsN fun _ _ _ _ _ _ us hl => match us, hl with | [_], _ => rfl⟩, g⟩
  refine F.ok sc_read_text (fun vs H Q E h => ?_) (fun cdv A outer s H vs Q E hr h' => ?_)
  · obtain ⟨F, v, d, rfl, _⟩ := h
    rfl
  · obtain ⟨F, v, d, rfl, hd, hq⟩ := h'
    have tk : Takes (cxOf (L2.CX P w) P w K mg base N_read_text "read_text" (defScope s_read_text) (He.ga K "read_text") cdv A outer s H E) (fun cls d _ H => E cls d H) := takes_of rfl rfl rfl rfl
    refine ⟨_, pss_cons (ps_if (pt_not (pt_val (pe_callB call_isiD (by rfl) gI (by decide +kernel) (pa_cons (pv 0) (pa_cons (pe_bltn (by rfl) gS (v := .ty "str") (u := .type "str") (by decide +kernel) rfl) pa_nil))))) (pss_one (ps_raiseErr rfl tk T TC hr mB pe_int)) pss_nil)
      (pss_cons (ps_set (i := 1) sc_read_text.nd rfl (Or.inl rfl) (pe_split (pv 0) (pe_cs cF)))
      (pss_cons (ps_asg (pe_has (hP.mono (by omega)) hr (pa_cons (pv 1) pa_nil)) (pg_tup rfl (pgs_cons (pg_name (i := 2) sc_read_text.nd rfl (Or.inl rfl)) (pgs_cons (pg_name (i := 3) sc_read_text.nd rfl (Or.inl rfl)) pgs_nil))))
      (pss_cons (ps_if (pt_cmpR (op_eq_empty (by have := hu_of hr; exact Nat.lt_of_succ_lt this)) (pv 2) pe_dnewK (nomark _)) (pss_one (ps_raiseErr rfl tk T TC hr mB pe_int)) pss_nil)
      (pss_cons (ps_asg (pe_has (hL.mono (by omega)) hr (pa_cons (pe_slice sl_list (pv 1) (po_some (pv 3)) po_none) pa_nil)) (pg_tup rfl (pgs_cons (pg_name (i := 4) sc_read_text.nd rfl (Or.inl rfl)) (pgs_cons (pg_name (i := 5) sc_read_text.nd rfl (Or.inl rfl)) pgs_nil))))
      (pss_cons (ps_set (i := 3) sc_read_text.nd rfl (Or.inl rfl) (pe_add (pv 3) (pv 5)))
      (pss_cons (ps_if (pt_cmpR (op_eq_empty (by have := hu_of hr; exact Nat.lt_of_succ_lt this)) (pv 4) pe_dnewK (nomark _)) (pss_one (ps_raiseErr rfl tk T TC hr mB (pe_add (pv 3) pe_int))) pss_nil)
      (pss_cons (ps_asg (pe_has (hR.mono (by omega)) hr (pa_cons (pv 2) (pa_cons (pv 4) (pa_cons (pe_slice sl_list (pv 1) (po_some (pv 3)) po_none) pa_nil)))) (pg_tup rfl (pgs_cons (pg_name (i := 6) sc_read_text.nd rfl (Or.inl rfl)) (pgs_cons (pg_name (i := 5) sc_read_text.nd rfl (Or.inl rfl)) pgs_nil))))
      (pss_cons (ps_set (i := 3) sc_read_text.nd rfl (Or.inl rfl) (pe_add (pv 3) (pv 5)))
      (pss_cons (ps_asg (pe_has hF hr (pa_cons (pe_make TG.makes ((ok_Ground TG).mono (show 1 ≤ 5 by omega)) hr (by rfl) TG.g (TG.fn.bindsN fun _ _ _ _ _ _ us hl => match us, hl with | [_, _, _], _ => rfl) .nil pass0 (pa_cons (pv 2) (pa_cons (pv 4) pa_nil))) (pa_cons (pe_slice sl_list (pv 1) (po_some (pv 3)) po_none) pa_nil))) (pg_tup rfl (pgs_cons (pg_name (i := 7) sc_read_text.nd rfl (Or.inl rfl)) (pgs_cons (pg_name (i := 5) sc_read_text.nd rfl (Or.inl rfl)) pgs_nil))))
      (pss_cons (ps_set (i := 3) sc_read_text.nd rfl (Or.inl rfl) (pe_add (pv 3) (pv 5)))
      (pss_cons (ps_if (pt_cmpR op_lt (pv 3) (pe_callB call_len_seq (by rfl) gL PySem.boot_len (pa_cons (pv 1) pa_nil)) (nomark _)) (pss_one (ps_raiseErr rfl tk T TC hr mB (pe_add (pv 3) pe_int))) pss_nil)
      (pss_one (ps_ret (pe_tup (pa_cons (pv 2) (pa_cons (pv 4) (pa_cons (pv 6) (pa_cons (pe_tupleOf (by rfl) gT (pv 7)) pa_nil)))))))))))))))))), ?_⟩
    obtain ⟨b, hb, hn, hy⟩ := kit_str d
    refine ⟨_, rfl, F, v, d, "str", b, rfl, hd, hb, b, rfl, ?_⟩
    cases b with
    | false =>
      refine iteT ?_
      have hE := not_str hq fun t z => by
        subst z
        have := hn rfl [t]
        unfold isWordD at this
        simp at this
      exact fun dd ndd => hE H dd (Same.refl H) ndd
    | true =>
    refine iteF ?_
    obtain ⟨t, rfl⟩ := hy rfl
    cases hd
    obtain ⟨ok, hq⟩ := hq
    unfold readText at hq
    refine ⟨_, rfl, ⟨_, rfl⟩, t, sFeed, rfl, rfl, (by decide +kernel), ok.fits, fun p np => ?_⟩
    have s1 : Same H (upd H p (.lst ((linesOf t).map V.str))) := same_new np
    have el : (upd H p (.lst ((linesOf t).map V.str))) p = some (.lst ((linesOf t).map V.str)) := upd_same
    have lok := ok.lines
    refine ⟨_, rfl, p, linesOf t, rfl, SqL.of el, lok, fun v1 H2 s2 d2 => ?_⟩
    have nw1 : ∀ b, upd H p (.lst ((Txt.split t sFeed).map V.str)) b = none → H b = none := fun b f => none_of_same (same_new np) f
    have el2 := s2 _ _ el
    have sA : Same H H2 := fun b o z => s2 _ _ (s1 _ _ z)
    generalize hls : linesOf t = ls at *
    clear hls
    generalize hpp : readPeople ls = pp at *
    cases d2 with
    | @tup a1 xs _ f1 e1 al1 =>
    cases al1 with
    | @cons vp _ _ _ dp al1 =>
    cases al1 with
    | @cons vn _ _ _ dn al1 =>
    cases al1
    cases dn
    refine ⟨a1, _, rfl, SqT.of e1, rfl, _, _, rfl, _, _, rfl, rfl, ?_⟩
    obtain ⟨ap, kp, rfl, ep, lp⟩ := dict_k dp
    refine ⟨_, rfl, fun q1 nq1 => ?_⟩
    have t1 : Same H2 (upd H2 q1 (.dK [])) := same_new nq1
    refine ⟨ap, q1, kp, rfl, rfl, t1 _ _ ep, upd_same, _, rfl, ?_⟩
    rw [lp]
    cases he : pp.1.isEmpty with
    | true =>
      refine iteT ?_
      rw [he, if_pos rfl] at hq
      exact fun dd ndd => hq _ dd (fun b o z => t1 _ _ (sA _ _ z)) ndd
    | false =>
    refine iteF ?_
    rw [he, if_neg (by decide)] at hq
    have sB : Same H (upd H2 q1 (.dK [])) := fun b o z => t1 _ _ (sA _ _ z)
    have el3 := t1 _ _ el2
    have dp3 := dp.same t1
    generalize hH3 : upd H2 q1 (.dK []) = H3 at *
    refine ⟨_, rfl, _, rfl, _, rfl, p, _, rfl, SqL.of el3, fun q2 nq2 => ?_⟩
    have ec : cutV (ls.map V.str) (some (pp.2 : Int)) none = (ls.drop pp.2).map V.str := by
      rw [cut_from, List.map_drop]
    rw [ec]
    have t2 : Same H3 (upd H3 q2 (.lst ((ls.drop pp.2).map V.str))) := same_new nq2
    refine ⟨q2, _, rfl, SqL.of upd_same, lok.drop _, fun v2 H4 s4 d4 => ?_⟩
    generalize hbb : readLabs (ls.drop pp.2) = bb at *
    have bok : LabsOk bb.1 := by
      rw [← hbb]
      exact readLabs_ok _
    cases d4 with
    | @tup a2 xs2 _ f2 e2 al2 =>
    cases al2 with
    | @cons vb _ _ _ db al2 =>
    cases al2 with
    | @cons vn2 _ _ _ dn2 al2 =>
    cases al2
    cases dn2
    have t3 : Same H3 H4 := fun b o z => s4 _ _ (t2 _ _ z)
    refine ⟨a2, _, rfl, SqT.of e2, rfl, _, _, rfl, _, _, rfl, rfl, ?_⟩
    refine add_at (a := pp.2) (b := bb.2) ?_
    generalize ha1 : pp.2 + bb.2 = n1 at *
    obtain ⟨ab, kb, rfl, eb, lb⟩ := dict_k db
    refine ⟨_, rfl, fun q3 nq3 => ?_⟩
    have t4 : Same H4 (upd H4 q3 (.dK [])) := same_new nq3
    refine ⟨ab, q3, kb, rfl, rfl, t4 _ _ eb, upd_same, _, rfl, ?_⟩
    rw [lb]
    have sC : Same H (upd H4 q3 (.dK [])) := fun b o z => t4 _ _ (t3 _ _ (sB _ _ z))
    cases he2 : bb.1.isEmpty with
    | true =>
      refine iteT ?_
      rw [he2, if_pos rfl] at hq
      exact ⟨_, rfl, _, _, rfl, rfl, fun dd ndd => hq _ dd sC ndd⟩
    | false =>
    refine iteF ?_
    rw [he2, if_neg (by decide)] at hq
    have el5 := t4 _ _ (t3 _ _ el3)
    have dp5 := (dp3.same t3).same t4
    have db5 := db.same t4
    generalize hH5 : upd H4 q3 (.dK []) = H5 at *
    refine ⟨_, rfl, _, rfl, _, rfl, _, rfl, _, rfl, p, _, rfl, SqL.of el5, fun q4 nq4 => ?_⟩
    have ec1 : cutV (ls.map V.str) (some (n1 : Int)) none = (ls.drop n1).map V.str := by
      rw [cut_from, List.map_drop]
    rw [ec1]
    have t5 : Same H5 (upd H5 q4 (.lst ((ls.drop n1).map V.str))) := same_new nq4
    refine ⟨_, _, _, _, q4, pp.1, bb.1, ls.drop n1, rfl, dp5.same t5, db5.same t5, bok, SqL.of upd_same, lok.drop _, fun v3 H6 s6 d6 => ?_⟩
    generalize hrr : readResults pp.1 bb.1 (ls.drop n1) = rr at *
    cases d6 with
    | @tup a3 xs3 _ f3 e3 al3 =>
    cases al3 with
    | @cons vr _ _ _ dr al3 =>
    cases al3 with
    | @cons vn3 _ _ _ dn3 al3 =>
    cases al3
    cases dn3
    have t6 : Same H5 H6 := fun b o z => s6 _ _ (t5 _ _ z)
    have sD : Same H H6 := fun b o z => t6 _ _ (sC _ _ z)
    refine ⟨a3, _, rfl, SqT.of e3, rfl, _, _, rfl, _, _, rfl, rfl, ?_⟩
    refine add_at (a := n1) (b := rr.2) ?_
    generalize ha2 : n1 + rr.2 = n2 at *
    refine ⟨_, rfl, _, rfl, fun xg dg nxg ndg neg => ?_⟩
    have gS : Same H6 (upd (upd H6 dg (.own xg)) xg (.ins CG dg [])) := fun b o z => by
      rw [upd_ne (ne_of_none z nxg), upd_ne (ne_of_none z ndg)]
      exact z
    refine ⟨xg, dg, _, _, rfl, upd_same, neg, fun H7 off7 atP atL => ⟨rfl, ?_⟩⟩
    have t7 : Same H6 H7 := fun b o z => by
      rw [off7 b (ne_of_none z nxg) (ne_of_none z ndg)]
      exact gS b o z
    have el7 := t7 _ _ (t6 _ _ el5)
    have dp7 := (dp5.same t6).same t7
    have db7 := (db5.same t6).same t7
    have dr7 := dr.same t7
    have sE : Same H H7 := fun b o z => t7 _ _ (sD _ _ z)
    refine ⟨_, rfl, _, rfl, _, rfl, p, _, rfl, SqL.of el7, fun q5 nq5 => ?_⟩
    have ec2 : cutV (ls.map V.str) (some (n2 : Int)) none = (ls.drop n2).map V.str := by
      rw [cut_from, List.map_drop]
    rw [ec2]
    have t8 : Same H7 (upd H7 q5 (.lst ((ls.drop n2).map V.str))) := same_new nq5
    refine ⟨_, _, _, _, _, q5, pp.1, bb.1, ls.drop n2, rfl, atL.same t8, db7.same t8, atP.same t8, dp7.same t8, SqL.of upd_same, lok.drop _, fun v4 H8 s8 d8 => ?_⟩
    generalize hff : readFacts pp.1 bb.1 (ls.drop n2) = ff at *
    cases d8 with
    | @tup a4 xs4 _ f4 e4 al4 =>
    cases al4 with
    | @cons vf _ _ _ df al4 =>
    cases al4 with
    | @cons vn4 _ _ _ dn4 al4 =>
    cases al4
    cases dn4
    have t9 : Same H7 H8 := fun b o z => s8 _ _ (t8 _ _ z)
    have sF : Same H H8 := fun b o z => t9 _ _ (sE _ _ z)
    refine ⟨a4, _, rfl, SqT.of e4, rfl, _, _, rfl, _, _, rfl, rfl, ?_⟩
    refine add_at (a := n2) (b := ff.2) ?_
    generalize ha3 : n2 + ff.2 = n3 at *
    have el8 := t9 _ _ el7
    refine ⟨_, rfl, _, rfl, p, _, rfl, .inl (SqL.of el8), _, _, rfl, rfl, _, rfl, ?_⟩
    rw [List.length_map]
    have hq' : (match (if n3 < ls.length then Sum.inl (n3 + 1) else Sum.inr ⟨pp.1, bb.1, rr.1, ff.1⟩ : Sum Nat Parts) with
        | .inl n => ErrTo H CB (.int n) E
        | .inr p => Ret H p.d Q) := by
      subst ha3
      subst hff
      subst ha2
      subst hrr
      subst ha1
      exact hq
    refine dec_if (fun c => ?_) (fun c => ?_)
    · rw [if_pos (by omega)] at hq'
      exact ⟨_, rfl, _, _, rfl, rfl, fun dd ndd => hq' _ dd sF ndd⟩
    · rw [if_neg (by omega)] at hq'
      cases df with
      | @lst af ys _ ff' ef alf =>
      refine ⟨_, rfl, _, rfl, _, rfl, ⟨_, rfl, .inl ⟨af, ys, rfl, SqL.of ef, fun q6 nq6 => ?_⟩⟩⟩
      have u1 := same_new (o := .tup ys) nq6
      refine ⟨Nat.le_trans (by show 4 ≤ 1000; omega) sizeLine_ge, fun q7 nq7 => ?_⟩
      have u2 := same_new (o := .tup [.ref ap, .ref ab, vr, .ref q6]) nq7
      have uu : Same H8 (upd (upd H8 q6 (.tup ys)) q7 (.tup [.ref ap, .ref ab, vr, .ref q6])) := fun b o z => u2 _ _ (u1 _ _ z)
      have new : ∀ {b : Addr}, H5 b = none → H b = none := fun z => none_of_same sC z
      refine hq' _ _ (fun b o z => uu _ _ (sF _ _ z)) (.tup (none_of_same sF (none_of_same u1 nq7)) upd_same (.cons ?_ (.cons ?_ (.cons ?_ (.cons ?_ .nil)))))
      · exact (dp7.same fun b o z => uu _ _ (t9 _ _ z)).move (fun b f => nw1 b f) fun b o _ z => z
      · exact (db7.same fun b o z => uu _ _ (t9 _ _ z)).move (fun b f => none_of_same sB (none_of_same t2 f)) fun b o _ z => z
      · exact (dr7.same fun b o z => uu _ _ (t9 _ _ z)).move (fun b f => new (none_of_same t5 f)) fun b o _ z => z
      · exact .tup (none_of_same sF nq6) (u2 _ _ upd_same) (alf.move (fun b f => none_of_same sE (none_of_same t8 f)) fun b o _ z => uu _ _ z)
end
end G

set_option Elab.async false
set_option linter.all false
set_option maxRecDepth 100000
set_option maxHeartbeats 4000000
namespace U
open PySem PySem.Spec PyProof.Rows L2
open PySem.W (Frag)
/-- a field as one of several targets -/
def gFld (K : Frag) (ta : TE) (f : Str) : TG := fun v σ H Q => ta σ H fun x H1 => ∃ a C dx fs, x = .ref a ∧ H1 a = some (.ins C dx fs) ∧ Cls K C ∧ NoAttr K C f ∧ fs.length < 1000 ∧ Q σ (upd H1 a (.ins C dx (putF f v fs)))
theorem pg_fld {X : Cx} {o : Expr} {f : Str} {pos : Pos} {ta : TE} (ha : PE X o ta) : PG X (.Attribute o f pos) (gFld X.K ta f) := by
  refine ⟨fun pins s σ H v u Q I r h => ?_⟩
  refine PySem.W.kas_attr (thn (ha.run pins s σ H _ I h) fun ov s2 ⟨x, H2, I2, rx, a, C, dx, fs, ex, ea, c, n, l, q2⟩ => ?_)
  subst ex
  obtain rfl : ov = Value.ref a := rx
  exact setattr_ok I2 ea c n l r fun s3 I3 => ⟨σ, _, I3, q2⟩
end U
namespace G
open PySem PySem.Spec PyProof.Rows L2 U
open PySem.W (Frag)
/-! ### Chart.__init__ -/
theorem put_ne {f g : Str} {v x : V} {r : List (Str × V)} (h : ¬ g = f) : putF f v ((g, x) :: r) = (g, x) :: putF f v r := if_neg h
theorem put_nil {f : Str} {v : V} : putF f v [] = [(f, v)] := rfl
theorem four_put (u1 u2 u3 u4 : V) : putF ("own_facts" : Str) u4 (putF ("own_rows" : Str) u3 (putF ("own_labs" : Str) u2 (putF ("own_people" : Str) u1 []))) = [(("own_people" : Str), u1), (("own_labs" : Str), u2), (("own_rows" : Str), u3), (("own_facts" : Str), u4)] := by
  repeat first | rw [put_nil] | rw [put_ne (by decide +kernel)]
structure ChartT (K : Frag) (mg : Str → Option Value) (C f : Addr) (fd : FuncData) : Prop where
  makes : Mk K C f
  fn : FunD K "__init__" "Chart.__init__" (defArgs s_Chart_init) (defBody s_Chart_init) (defScope s_Chart_init) [] [] f fd
  g : mg "Chart" = some (.ref C)
  cls : Cls K C
  n1 : NoAttr K C "own_people"
  n2 : NoAttr K C "own_labs"
  n3 : NoAttr K C "own_rows"
  n4 : NoAttr K C "own_facts"
def ChartIs (C : Addr) (H : Hp) (v : V) (p : Parts) : Prop := ∃ (a dx : Addr) (v1 v2 v3 v4 : V), v = .ref a ∧ H a = some (.ins C dx [("own_people", v1), ("own_labs", v2), ("own_rows", v3), ("own_facts", v4)]) ∧
  Da H v1 (dictD ratesD p.people) ∧ Da H v2 (dictD tabsD p.labs) ∧ Da H v3 (dictD Row.d p.rows) ∧ Da H v4 (.tuple p.facts)
theorem ChartIs.same {C : Addr} {H H' : Hp} {v : V} {p : Parts} (h : ChartIs C H v p) (s : Same H H') : ChartIs C H' v p := by
  obtain ⟨a, dx, v1, v2, v3, v4, e, ha, d1, d2, d3, d4⟩ := h
  exact ⟨a, dx, v1, v2, v3, v4, e, s _ _ ha, d1.same s, d2.same s, d3.same s, d4.same s⟩
theorem ErrTo.up {H H' : Hp} {C : Addr} {v : V} {E : XK} (h : ErrTo H C v E) (s : Same H H') : ErrTo H' C v E := fun H1 d s1 nd => h H1 d (fun b o z => s1 _ _ (s _ _ z)) nd
section
variable {P : Program} {w : World} {K : Frag} {mg : Str → Option Value} {base : Heap} {CB C f : Addr} {fd : FuncData}
theorem pe_hasX {X : Cx} {k : Nat} {x : Str} {ps : List Str} {sp : Sp} {E : XK} {p pos : Pos} {e : Expr} {es : List Expr} {t : TA} (h : HasX X.prog X.w X.K X.mg X.base k x ps sp) (hr : Room k X.A) (hx : Passes (L2.CX X.prog X.w) X E) (ha : PA X (e :: es) t) (hg : Gl X x := by rfl)
    (hdb : (x == ("__debug__" : Str)) = false := by decide) (he : starEach (e :: es) X.env = (false, eval e X.env) :: starEach es X.env := by rfl) (hpl : (backTo pos (starEach es X.env)).any (·.1) = false := by rfl) : PE X (.Call (.Name x p) (e :: es) [] pos) (tCall sp [] E t) := by
  obtain ⟨fd, h1, h2, h4⟩ := h.fn
  exact pe_call h1 hr hg h.g h2 h4 .nil hx ha hdb he hpl
def outChart (H : Hp) (CB : Addr) (d : PyData) (Q : Parts → Prop) (E : XK) : Prop := match d with
  | .str t => TextOk t ∧ (match readText t with
    | .inl n => ErrTo H CB (.int n) E
    | .inr p => Q p)
  | _ => ErrTo H CB (.int 0) E
theorem out_to {H : Hp} {CB : Addr} {d : PyData} {Q' : Parts → Prop} {Q : VK} {E : XK} (h : outChart H CB d Q' E) (k : ∀ p, Q' p → Ret H p.d Q) : outText H CB d Q E := by
  cases d with
  | str t =>
    obtain ⟨h1, h2⟩ := h
    refine ⟨h1, ?_⟩
    cases r : readText t with
    | inl n =>
      rw [r] at h2
      exact h2
    | inr p =>
      rw [r] at h2
      exact k p h2
  | none => exact h
  | bool _ => exact h
  | int _ => exact h
  | list _ => exact h
  | tuple _ => exact h
  | dict _ => exact h
def sp_Chart_init (C CB : Addr) : Sp := fun vs H Q E => ∃ (F : Addr → Prop) (x dx : Addr) (v : V) (d : PyData), vs = [.ref x, v] ∧ H x = some (.ins C dx []) ∧ Dq F H v d ∧ outChart H CB d (fun p => ∀ H', SameB x H H' → ChartIs C H' (.ref x) p → Q .non H') E
theorem ok_Chart_init (T : ChartT K mg C f fd) (hT : HasX P w K mg base 7 "read_text" P_read_text (sp_read_text CB)) : FnOk P w K mg base (L2.CX P w) 8 f fd P_Chart_init (sp_Chart_init C CB) := by
  refine T.fn.ok sc_Chart_init (fun vs H Q E h => ?_) (fun cdv A outer s H vs Q E hr h' => ?_)
  · obtain ⟨F, x, dx, v, d, rfl, _⟩ := h
    rfl
  · obtain ⟨F, x, dx, v, d, rfl, hx, hd, hq⟩ := h'
    have tk : Takes (cxOf (L2.CX P w) P w K mg base N_Chart_init "Chart.__init__" (defScope s_Chart_init) f cdv A outer s H E) (fun cls d _ H => E cls d H) := takes_of rfl rfl rfl rfl
    refine ⟨_, pss_one (ps_asg (pe_hasX (E := E) hT hr (passes_call tk fun _ _ _ _ h => h) (pa_cons (pv 1) pa_nil)) (pg_tup rfl (pgs_cons (pg_fld (pv 0)) (pgs_cons (pg_fld (pv 0)) (pgs_cons (pg_fld (pv 0)) (pgs_cons (pg_fld (pv 0)) pgs_nil)))))), ?_⟩
    refine ⟨_, rfl, F, v, d, rfl, hd, out_to hq fun p hp => ?_⟩
    intro v1 H1 s1 dq
    cases dq with
    | @tup a xs _ fa ea al =>
    cases al with
    | @cons u1 _ _ _ d1 al =>
    cases al with
    | @cons u2 _ _ _ d2 al =>
    cases al with
    | @cons u3 _ _ _ d3 al =>
    cases al with
    | @cons u4 _ _ _ d4 al =>
    cases al
    have hx1 := s1 _ _ hx
    refine ⟨a, _, rfl, SqT.of ea, rfl, ?_⟩
    refine ⟨_, _, rfl, ⟨_, rfl, x, C, dx, _, rfl, hx1, T.cls, T.n1, (by show 0 < 1000; omega), ?_⟩⟩
    refine ⟨_, _, rfl, ⟨_, rfl, x, C, dx, _, rfl, upd_same, T.cls, T.n2, (by show 1 < 1000; omega), ?_⟩⟩
    refine ⟨_, _, rfl, ⟨_, rfl, x, C, dx, _, rfl, upd_same, T.cls, T.n3, (by show 2 < 1000; omega), ?_⟩⟩
    refine ⟨_, _, rfl, ⟨_, rfl, x, C, dx, _, rfl, upd_same, T.cls, T.n4, (by show 3 < 1000; omega), ?_⟩⟩
    refine ⟨rfl, ?_⟩
    have up : ∀ (o1 o2 o3 o4 : HO), SameB x H1 (upd (upd (upd (upd H1 x o1) x o2) x o3) x o4) := fun o1 o2 o3 o4 b o hb z => by
      rw [upd_ne hb, upd_ne hb, upd_ne hb, upd_ne hb]
      exact z
    have ne : ∀ {b : Addr}, H b = none → b ≠ x := fun f z => by
      rw [z, hx] at f
      cases f
    refine hp _ (fun b o hb z => up _ _ _ _ b o hb (s1 b o z)) ⟨x, dx, u1, u2, u3, u4, rfl, ?_, d1.move (fun _ _ => True.intro) fun b o f z => up _ _ _ _ b o (ne f) z, d2.move (fun _ _ => True.intro) fun b o f z => up _ _ _ _ b o (ne f) z, d3.move (fun _ _ => True.intro) fun b o f z => up _ _ _ _ b o (ne f) z, d4.move (fun _ _ => True.intro) fun b o f z => up _ _ _ _ b o (ne f) z⟩
    rw [upd_same, four_put]
end
end G

set_option Elab.async false
set_option linter.all false
set_option maxRecDepth 100000
set_option maxHeartbeats 4000000
namespace U
open PySem PySem.Spec PyProof.Rows L2
open PySem.W (Frag)
/-- what one turn over the items of a dict at d may use: the tuples of H stand, the dict is locked -/
structure Lkd (H : Hp) (d : Addr) (kvs : List (Key × V)) (od : Obj) (Hc : Hp) : Prop where
  at_ : Hc d = some (.frz od (.dK kvs))
  keep : SameB d H Hc
theorem Lkd.tup {H : Hp} {d : Addr} {kvs : List (Key × V)} {od : Obj} {Hc : Hp} (l : Lkd H d kvs od Hc) (hd : H d = some (.dK kvs)) {c : Addr} {xs : List V} (h : H c = some (.tup xs)) : Hc c = some (.tup xs) := l.keep c _ (fun z => by
  rw [z, hd] at h
  cases h) h
theorem Lkd.open {H : Hp} {d : Addr} {kvs : List (Key × V)} {od : Obj} {Hc : Hp} (l : Lkd H d kvs od Hc) (hd : H d = some (.dK kvs)) : Same H (upd Hc d (.dK kvs)) := fun b o z => by
  by_cases hb : b = d
  · rw [hb] at z ⊢
    rw [upd_same, ← hd]
    exact z
  · rw [upd_ne hb]
    exact l.keep b o hb z
theorem Lkd.same {H : Hp} {d : Addr} {kvs : List (Key × V)} {od : Obj} {Hc Hd : Hp} (l : Lkd H d kvs od Hc) (s : Same Hc Hd) : Lkd H d kvs od Hd := ⟨s _ _ l.at_, fun b o hb z => s _ _ (l.keep b o hb z)⟩
theorem lkd_start {H : Hp} {d : Addr} {kvs : List (Key × V)} (od : Obj) : Lkd H d kvs od (upd H d (.frz od (.dK kvs))) := ⟨upd_same, fun b o hb z => by
  rw [upd_ne hb]
  exact z⟩
/-- a list at D, all that it holds new and not itself -/
def LstAt (H0 : Hp) (D : Addr) (H : Hp) (ds : List PyData) : Prop := ∃ acc, H D = some (.lst acc) ∧ DqAll (fun a => H0 a = none ∧ a ≠ D) H acc ds
theorem LstAt.same {H0 H H' : Hp} {D : Addr} {ds : List PyData} (h : LstAt H0 D H ds) (s : Same H H') : LstAt H0 D H' ds := by
  obtain ⟨acc, e, al⟩ := h
  exact ⟨acc, s _ _ e, al.move (fun _ f => f) fun b o _ z => s _ _ z⟩
theorem lc_dataS {J : It} {n : Nat} {G : Hp → Prop} {Y : Nat → Hp → V → Hp → Prop} (w : Walk J n G Y) {g : TG} {te : TE} {vs : List Nat} {σ : L2.St} {H1 : Hp} {D : Addr} {Qd : Hp → Prop} (nD : H1 D = none) (ds : List PyData) (hl : ds.length = n) (hn : n ≤ 16000000)
    (hG : ∀ H, Same H1 H → G H)
    (hs : ∀ (i : Nat) (x : V) (d : PyData) (H H' : Hp) (k : VK), ds[i]? = some d → Same H1 H → Y i H x H' → (∀ y H4, Same H H4 → Dq (fun a => H a = none) H4 y d → k y H4) → g x (wipe σ vs) H' fun σ2 H2 => wipe σ2 vs = wipe σ vs ∧ te σ2 H2 k)
    (hd : ∀ H, Same H1 H → LstAt H1 D H ds → Qd H) :
    ∃ W : Nat → Nat → Hp → Prop, (∃ m, W 0 m (upd H1 D (.lst []))) ∧ ∀ i m H, W i m H →
      (J.stop i H ∧ Qd H) ∨ (J.go i H ∧ ∃ Nx : Hp → Prop, (∀ H', Nx H' → ∃ m', m' < m ∧ W (i + 1) m' H') ∧ ∀ x H', J.yld i H x H' → g x (wipe σ vs) H' fun σ2 H2 => wipe σ2 vs = wipe σ vs ∧ tYes σ2 H2 fun b H3 =>
        if b = true then te σ2 H3 fun y H4 => ∃ acc, H4 D = some (.lst acc) ∧ acc.length < sizeLine ∧ Nx (upd H4 D (.lst (acc ++ [y]))) else Nx H3) := by
  refine lc_map w nD hn (fun i v H => ∃ d, ds[i]? = some d ∧ Dq (fun a => H1 a = none ∧ a ≠ D) H v d) (fun i v H H' h s => ?_) hG (fun i x H H' k hi s hD y hk => ?_) fun H acc s e l r => ?_
  · obtain ⟨d, e, q⟩ := h
    exact ⟨d, e, q.move (fun _ f => f) fun b o f z => s b o f.2 z⟩
  · have e : ds[i]? = some ds[i] := List.getElem?_eq_getElem (by omega)
    obtain ⟨acc, hD⟩ := hD
    refine hs i x _ H H' k e s y fun v H4 s4 q => hk v H4 s4 ⟨_, e, q.move (fun b f => ⟨?_, fun z => ?_⟩) fun b o _ z => z⟩
    · cases z : H1 b with
      | none => rfl
      | some o =>
        have f : H b = none := f
        rw [s b o z] at f
        cases f
    · have f : H b = none := f
      rw [z, hD] at f
      cases f
  · refine hd H s ⟨acc, e, dqall_of (by omega) fun i v d e1 e2 => ?_⟩
    obtain ⟨d', e3, q⟩ := r i v e1
    rw [e2] at e3
    cases e3
    exact q
section
variable {i : Nat} {d : Addr} {kvs : List (Key × V)} {σ : L2.St} {H : Hp} {g : TG} {te : TE} {vs : List Nat}
theorem items_core {od : Obj} {D : Addr} {Qd : Hp → Prop} (hd : H d = some (.dK kvs)) (hn : kvs.length ≤ 16000000) (ds : List PyData) (hl : ds.length = kvs.length) (nD : upd H d (.frz od (.dK kvs)) D = none)
    (hs : ∀ (j : Nat) (k : Key) (v : V) (dt : PyData) (Hc : Hp) (T : Addr) (q : VK), kvs[j]? = some (k, v) → ds[j]? = some dt → Lkd H d kvs od Hc → Hc T = none → (∀ y H4, Same Hc H4 → Dq (fun a => Hc a = none) H4 y dt → q y H4) → g (.ref T) (wipe σ vs) (upd Hc T (.tup [kV k, v])) fun σ2 H2 => wipe σ2 vs = wipe σ vs ∧ te σ2 H2 q)
    (hd' : ∀ Hc, Lkd H d kvs od Hc → H D = none → LstAt H D (upd Hc d (.dK kvs)) ds → Qd Hc) :
    ∃ W : Nat → Nat → Hp → Prop, (∃ m, W 0 m (upd (upd H d (.frz od (.dK kvs))) D (.lst []))) ∧ ∀ j m Hx, W j m Hx →
      ((Iti d od kvs).stop j Hx ∧ Qd Hx) ∨ ((Iti d od kvs).go j Hx ∧ ∃ Nx : Hp → Prop, (∀ H', Nx H' → ∃ m', m' < m ∧ W (j + 1) m' H') ∧ ∀ x H', (Iti d od kvs).yld j Hx x H' → g x (wipe σ vs) H' fun σ2 H2 => wipe σ2 vs = wipe σ vs ∧ tYes σ2 H2 fun b H3 =>
        if b = true then te σ2 H3 fun y H4 => ∃ acc, H4 D = some (.lst acc) ∧ acc.length < sizeLine ∧ Nx (upd H4 D (.lst (acc ++ [y]))) else Nx H3) := by
  have fr : ∀ {b : Addr}, upd H d (.frz od (.dK kvs)) b = none → H b = none ∧ b ≠ d := fun {b} f => by
    by_cases hb : b = d
    · rw [hb, upd_same] at f
      cases f
    · rw [upd_ne hb] at f
      exact ⟨f, hb⟩
  refine lc_dataS (walk_items (o := od) (kvs := kvs)) nD ds hl hn (fun Hc sc => sc _ _ upd_same) ?_ ?_
  · rintro j x dt Hc Hc' q hj sc ⟨T, a, b, rfl, nT, rfl, ha, hb⟩ hk
    have hlt : j < kvs.length := by
      have := List.getElem?_eq_some_iff.mp hj
      obtain ⟨h1, _⟩ := this
      omega
    have e : kvs[j]? = some kvs[j] := List.getElem?_eq_getElem hlt
    have ha : (kvs[j]?.map fun kv => kV kv.1) = some a := ha
    have hb : kvs[j]?.map Prod.snd = some b := hb
    rw [e] at ha hb
    have ha : kV kvs[j].1 = a := Option.some.inj ha
    have hb : kvs[j].2 = b := Option.some.inj hb
    subst ha
    subst hb
    exact hs j _ _ dt Hc T q e hj ((lkd_start od).same sc) nT hk
  · intro Hc sc dq
    obtain ⟨acc, e, al⟩ := dq
    refine hd' Hc ((lkd_start od).same sc) (fr nD).1 ⟨acc, ?_, al.move (fun b f => ⟨(fr f.1).1, f.2⟩) fun b o f z => ?_⟩
    · rw [upd_ne (fr nD).2]
      exact e
    · rw [upd_ne (fr f.1).2]
      exact z
/-- [.. for a, b in d.items()] -/
theorem items_lc {Q : VK} (hi : σ[i]? = some (some (.ref d))) (hd : H d = some (.dK kvs)) (hn : kvs.length ≤ 16000000) (ds : List PyData) (hl : ds.length = kvs.length)
    (hs : ∀ (od : Obj) (j : Nat) (k : Key) (v : V) (dt : PyData) (Hc : Hp) (T : Addr) (q : VK), kvs[j]? = some (k, v) → ds[j]? = some dt → Lkd H d kvs od Hc → Hc T = none → (∀ y H4, Same Hc H4 → Dq (fun a => Hc a = none) H4 y dt → q y H4) → g (.ref T) (wipe σ vs) (upd Hc T (.tup [kV k, v])) fun σ2 H2 => wipe σ2 vs = wipe σ vs ∧ te σ2 H2 q)
    (hq : ∀ D H', Same H H' → H D = none → LstAt H D H' ds → Q (.ref D) H') : tLockE (tLc (iItems (tVar i)) g tYes te vs) σ H Q := by
  refine ⟨d, .dK kvs, hd, True.intro, fun od => ⟨_, hi, d, od, kvs, rfl, upd_same, fun D nD => items_core hd hn ds hl nD (hs od) fun Hc l nD' dq => ⟨l.at_, hq D _ (l.open hd) nD' dq⟩⟩⟩
/-- y = [.. for a, b in d.items()] -/
theorem items_set {E : Ends} {y : Nat} (hi : σ[i]? = some (some (.ref d))) (hd : H d = some (.dK kvs)) (hn : kvs.length ≤ 16000000) (ds : List PyData) (hl : ds.length = kvs.length)
    (hs : ∀ (od : Obj) (j : Nat) (k : Key) (v : V) (dt : PyData) (Hc : Hp) (T : Addr) (q : VK), kvs[j]? = some (k, v) → ds[j]? = some dt → Lkd H d kvs od Hc → Hc T = none → (∀ y H4, Same Hc H4 → Dq (fun a => Hc a = none) H4 y dt → q y H4) → g (.ref T) (wipe σ vs) (upd Hc T (.tup [kV k, v])) fun σ2 H2 => wipe σ2 vs = wipe σ vs ∧ te σ2 H2 q)
    (hq : ∀ D H', Same H H' → H D = none → LstAt H D H' ds → E.nx (σ.set y (some (.ref D))) H') : tLock (tAsg (tLc (iItems (tVar i)) g tYes te vs) (gName y)) E σ H := by
  refine ⟨d, .dK kvs, hd, True.intro, fun od => ⟨_, hi, d, od, kvs, rfl, upd_same, fun D nD => items_core hd hn ds hl nD (hs od) fun Hc l nD' dq => ⟨l.at_, hq D _ (l.open hd) nD' dq⟩⟩⟩
end
theorem yesT {σ : L2.St} {H : Hp} {A B : Hp → Prop} (h : A H) : tYes σ H (fun b H3 => if b = true then A H3 else B H3) := (iteT h : if true = true then A H else B H)
/-! ### all items of several tuples -/
section
variable {K : Frag} {a : Addr} {σ : L2.St} {H : Hp} {Q : VK} {ti tj : Nat} {vs vs1 : List Nat} {refs : List Addr} {yss : List (List V)}
theorem flat_core {te : TE} {u : Nat} (hi : σ[u]? = some (some (.ref a))) (hT : SqT K H a (refs.map V.ref)) (hr : refs.length = yss.length) (hy : ∀ (j : Nat) (r : Addr) (ys : List V), refs[j]? = some r → yss[j]? = some ys → H r = some (.tup ys)) (hn : yss.flatten.length ≤ 16000000)
    (h1 : ∀ (x : V), wipe ((wipe σ vs).set ti (some x)) vs = wipe σ vs) (h2 : ∀ (x : V) , (((wipe σ vs).set ti (some x))[ti]? = some (some x)))
    (h3 : ∀ (x y : V), wipe ((wipe ((wipe σ vs).set ti (some x)) vs1).set tj (some y)) vs1 = wipe ((wipe σ vs).set ti (some x)) vs1)
    (h4 : ∀ (x y : V) (H' : Hp) (q : VK), q y H' → te ((wipe ((wipe σ vs).set ti (some x)) vs1).set tj (some y)) H' q)
    (hq : ∀ D H', Same H H' → H D = none → H' D = some (.lst yss.flatten) → Q (.ref D) H') : tLc2 (iTup K (tVar u)) (gName ti) tYes (iTup K (tVar ti)) (gName tj) tYes te vs vs1 σ H Q := by
  refine ⟨_, hi, a, rfl, ⟨_, hT⟩, fun D nD => ?_⟩
  have part : ∀ j, ((yss.take j).flatten).length ≤ yss.flatten.length := fun j => by
    conv => rhs; rw [← List.take_append_drop j yss, List.flatten_append, List.length_append]
    omega
  refine ⟨fun j m Hc => m = yss.length - j ∧ j ≤ yss.length ∧ Same H Hc ∧ Hc D = some (.lst (yss.take j).flatten), ⟨yss.length, by simp, Nat.zero_le _, same_new nD, upd_same⟩, ?_⟩
  rintro j m Hc ⟨rfl, hj, sc, eD⟩
  have hTc := sqT_same hT sc
  by_cases hlt : j < yss.length
  · have lr : j < refs.length := by omega
    have er : refs[j]? = some refs[j] := List.getElem?_eq_getElem lr
    have ey : yss[j]? = some yss[j] := List.getElem?_eq_getElem hlt
    refine .inr ⟨⟨_, _, hTc, by rw [List.getElem?_map, er]; rfl⟩, fun Hd => j + 1 ≤ yss.length ∧ Same H Hd ∧ Hd D = some (.lst (yss.take (j + 1)).flatten), fun Hd hd => ⟨yss.length - (j + 1), by omega, rfl, hd⟩, ?_⟩
    rintro x Hc' ⟨rfl, hx⟩
    have hx := hx _ hTc
    rw [List.getElem?_map, er] at hx
    have hx : V.ref refs[j] = x := Option.some.inj hx
    subst hx
    have rj := sc _ _ (hy j _ _ er ey)
    refine ⟨h1 _, yesT ?_⟩
    refine ⟨_, h2 _, refs[j], rfl, ⟨_, SqT.of rj⟩, ?_⟩
    refine ⟨fun k m Hd => m = yss[j].length - k ∧ k ≤ yss[j].length ∧ Same H Hd ∧ Hd D = some (.lst ((yss.take j).flatten ++ yss[j].take k)), ⟨yss[j].length, by simp, Nat.zero_le _, sc, by rw [eD]; simp⟩, ?_⟩
    rintro k m Hd ⟨rfl, hk, sd, eDd⟩
    have rd := sd _ _ (hy j _ _ er ey)
    have whole : (yss.take (j + 1)).flatten = (yss.take j).flatten ++ yss[j] := by
      rw [List.take_add_one, ey, List.flatten_append]
      simp
    by_cases hkl : k < yss[j].length
    · have ek : yss[j][k]? = some yss[j][k] := List.getElem?_eq_getElem hkl
      refine .inr ⟨⟨_, _, SqT.of rd, ek⟩, fun He => k + 1 ≤ yss[j].length ∧ Same H He ∧ He D = some (.lst ((yss.take j).flatten ++ yss[j].take (k + 1))), fun He he => ⟨yss[j].length - (k + 1), by omega, rfl, he⟩, ?_⟩
      rintro y Hd' ⟨rfl, hy'⟩
      have hy' := hy' _ (SqT.of rd)
      rw [ek] at hy'
      have hy' : yss[j][k] = y := Option.some.inj hy'
      subst hy'
      refine ⟨h3 _ _, yesT ?_⟩
      refine h4 _ _ _ _ ⟨_, eDd, ?_, by omega, fun b o z => ?_, ?_⟩
      · have := part (j + 1)
        rw [whole, List.length_append] at this
        rw [List.length_append, List.length_take, sizeLine_eq]
        omega
      · rw [upd_ne (ne_of_none z nD)]
        exact sd b o z
      · rw [upd_same, List.take_add_one, ek, List.append_assoc]
        rfl
    · refine .inl ⟨⟨_, SqT.of rd, by omega⟩, by omega, sd, ?_⟩
      have e2 : yss[j].take k = yss[j] := List.take_of_length_le (by omega)
      rw [eDd, whole, e2]
  · refine .inl ⟨⟨_, hTc, by rw [List.length_map]; omega⟩, hq D Hc sc nD ?_⟩
    rw [eD, List.take_of_length_le (by omega)]
end
end U

set_option Elab.async false
set_option linter.all false
set_option maxRecDepth 100000
set_option maxHeartbeats 4000000
namespace U
open PySem PySem.Spec PyProof.Rows L2
open PySem.W (Frag)
section
variable {X : Cx}
def rStrOf : List V → Hp → VK → Prop := fun xs H Q => (∃ i : Int, xs = [.int i] ∧ i.natAbs.log2 < 1920 ∧ Q (.str (toString i)) H) ∨ ∃ a, xs = [.str a] ∧ Q (.str a) H
theorem call_strOf : CallR X (.type "str") rStrOf := by
  intro pins s σ H xs us Q I r h
  rcases h with h | h
  · exact call_str_int pins s σ H xs us Q I r h
  · exact SkE.call_str_str pins s σ H xs us Q I r h
theorem PI.or {tg e : Expr} {t u : TI} (h1 : PI X tg e t) (h2 : PI X tg e u) : PI X tg e (fun σ H R => t σ H R ∨ u σ H R) := ⟨fun pins s σ H R I h => h.elim (fun h => h1.run pins s σ H R I h) fun h => h2.run pins s σ H R I h⟩
end
end U
namespace G
open PySem PySem.Spec PyProof.Rows L2 U
open PySem.W (Frag)
/-! ### text_of -/
def isAtom : PyData → Bool
  | .str _ => true
  | .int i => decide (i.natAbs.log2 < 1920)
  | _ => false
def wordV : PyData → V
  | .str s => .str s
  | .int i => .int i
  | _ => .non
def wordS : PyData → Str
  | .str s => s
  | .int i => toString i
  | _ => ""
def tabW (t : Tab) : List PyData := [.int t.fa, .int t.sh, .int t.st, .int t.lo, .int t.hi]
def personW (p : Str × Int × Int) : List PyData := [.str "person", .str p.1, .int p.2.1, .int p.2.2]
def labW (l : Str × List Tab) : List PyData := .str "lab" :: .str l.1 :: (l.2.map tabW).flatten
def rowW (r : Str × Row) : List PyData := [.str "result", .str r.1, .str r.2.person, .str r.2.lab, .int r.2.day, r.2.pr.d]
def factW : PyData → List PyData
  | .tuple ds => .str "fact" :: ds
  | _ => []
def linesW (p : Parts) : List (List PyData) := p.people.map personW ++ p.labs.map labW ++ p.rows.map rowW ++ p.facts.map factW
def lineS (ws : List PyData) : Str := Txt.join sBlank (ws.map wordS)
def textOf (p : Parts) : Str := Txt.join sFeed ((linesW p).map lineS)
structure Fits (p : Parts) : Prop where
  many : (linesW p).length ≤ 1000
  words : ∀ l ∈ linesW p, l.length ≤ 1000 ∧ (∀ d ∈ l, isAtom d = true) ∧ ((l.map wordS).map (·.length)).sum + l.length ≤ 16777216
  facts : ∀ d ∈ p.facts, ∃ ds, d = PyData.tuple ds
  all : (((linesW p).map lineS).map (·.length)).sum + (linesW p).length ≤ 16777216
theorem dict_at {α : Type} {dA : α → PyData} {F : Addr → Prop} {H : Hp} {v : V} {xs : List (Str × α)} (h : Dq F H v (dictD dA xs)) : ∃ a kvs, v = .ref a ∧ H a = some (.dK kvs) ∧ kvs.length = xs.length ∧ ∀ (j : Nat) k u, kvs[j]? = some (k, u) → ∃ x, xs[j]? = some x ∧ k = Sum.inr x.1 ∧ Dq F H u (dA x.2) := by
  obtain ⟨a, kvs, rfl, _, e, k, al⟩ := dk_inv h
  rw [List.map_map] at k al
  have ks := keys_str (f := fun q : Str × α => q.1) k
  have len : kvs.length = xs.length := by
    have := congrArg List.length ks
    simpa using this
  refine ⟨a, kvs, rfl, e, len, fun j key u hj => ?_⟩
  have lt : j < xs.length := by
    obtain ⟨h1, _⟩ := List.getElem?_eq_some_iff.mp hj
    omega
  refine ⟨xs[j], List.getElem?_eq_getElem lt, ?_, ?_⟩
  · have h1 := congrArg (fun l => l[j]?) ks
    simp only [List.getElem?_map, hj, List.getElem?_eq_getElem lt, Option.map_some] at h1
    exact Option.some.inj h1
  · have h1 : (kvs.map (·.2))[j]? = some u := by rw [List.getElem?_map, hj]; rfl
    obtain ⟨dd, h2, h3⟩ := al.get h1
    rw [List.getElem?_map, List.getElem?_eq_getElem lt] at h2
    have h2 : dA xs[j].2 = dd := Option.some.inj h2
    rw [h2]
    exact h3
theorem tab_refs {F : Addr → Prop} {H : Hp} : ∀ {ts : List Tab} {xs : List V}, DqAll F H xs (ts.map Tab.d) → ∃ refs : List Addr, xs = refs.map V.ref ∧ refs.length = ts.length ∧ ∀ (j : Nat) (r : Addr) (ys : List V), refs[j]? = some r → (ts.map Tab.vs)[j]? = some ys → H r = some (.tup ys)
  | [], _, .nil => ⟨[], rfl, rfl, fun j r ys h => by simp at h⟩
  | t :: ts, _, .cons h al => by
    obtain ⟨refs, h1, h2, h3⟩ := tab_refs al
    obtain ⟨a, rfl, _, e⟩ := tabIs h
    refine ⟨a :: refs, by rw [h1]; rfl, by rw [List.length_cons, List.length_cons, h2], fun j r ys hr hy => ?_⟩
    cases j with
    | zero =>
      have hr : a = r := Option.some.inj hr
      have hy : t.vs = ys := Option.some.inj hy
      rw [← hr, ← hy]
      exact e
    | succ j => exact h3 j r ys hr hy
theorem tab_atoms {F : Addr → Prop} {H : Hp} : ∀ ts : List Tab, DqAll F H ((ts.map Tab.vs).flatten) ((ts.map tabW).flatten)
  | [] => .nil
  | t :: ts => (DqAll.cons (.int _) (.cons (.int _) (.cons (.int _) (.cons (.int _) (.cons (.int _) .nil))))).app (tab_atoms ts)
section
variable {P : Program} {w : World} {K : Frag} {mg : Str → Option Value} {base : Heap}
theorem atoms_dq {F F' : Addr → Prop} {H H' : Hp} : ∀ {ds : List PyData} {vs : List V}, (∀ d ∈ ds, isAtom d = true) → DqAll F H vs ds → DqAll F' H' vs ds ∧ vs = ds.map wordV
  | [], _, _, .nil => ⟨.nil, rfl⟩
  | d :: ds, _, h, .cons q al => by
    obtain ⟨h1, h2⟩ := atoms_dq (F' := F') (H' := H') (fun d m => h d (List.mem_cons_of_mem _ m)) al
    have hd := h d List.mem_cons_self
    cases q with
    | int i => exact ⟨.cons (.int i) h1, by rw [h2]; rfl⟩
    | str x => exact ⟨.cons (.str x) h1, by rw [h2]; rfl⟩
    | non => cases hd
    | bl => cases hd
    | lst => cases hd
    | tup => cases hd
    | dk => cases hd
theorem facts_lc {u : Nat} {σ : L2.St} {H : Hp} {Q : VK} {v4 : V} {fs : List PyData} (hi : σ[u]? = some (some v4)) (dv : Da H v4 (.tuple fs) ∨ Da H v4 (.list fs)) (hf : ∀ d ∈ fs, ∃ ds, d = PyData.tuple ds) (hl : fs.length ≤ 1000) (hw : ∀ d ∈ fs, (factW d).length ≤ 1000) (ha : ∀ d ∈ fs, ∀ x ∈ factW d, isAtom x = true)
    (h1 : ∀ x : V, wipe ((wipe σ [11]).set 11 (some x)) [11] = wipe σ [11]) (h2 : ∀ x : V, ((wipe σ [11]).set 11 (some x))[11]? = some (some x)) (hq : ∀ D H', Same H H' → H D = none → LstAt H D H' ((fs.map factW).map PyData.list) → Q (.ref D) H') :
    tLc (fun σ H R => iTup K (tVar u) σ H R ∨ iList K (tVar u) σ H R) (gName 11) tYes (tLst (tCons (tC (.str "fact")) (StX.tStar K (tVar 11) tNil))) [11] σ H Q := by
  have body : ∀ {xs : List V}, DqAll (fun _ => True) H xs fs → ∀ (i : Nat) (x : V) (d : PyData) (Hc Hc' : Hp) (k : VK), ((fs.map factW).map PyData.list)[i]? = some d → Same H Hc → YAt xs i Hc x Hc' → (∀ y H4, Same Hc H4 → Dq (fun a => Hc a = none) H4 y d → k y H4) →
      gName 11 x (wipe σ [11]) Hc' fun σ2 H2 => wipe σ2 [11] = wipe σ [11] ∧ tLst (tCons (tC (.str "fact")) (StX.tStar K (tVar 11) tNil)) σ2 H2 k := by
    rintro xs al i x d Hc Hc' k hd sc ⟨rfl, hx⟩ hk
    obtain ⟨f, hf1, dq⟩ := al.get hx
    obtain ⟨ds, rfl⟩ := hf f (List.mem_of_getElem? hf1)
    rw [List.getElem?_map, List.getElem?_map, hf1] at hd
    have hd : PyData.list (.str "fact" :: ds) = d := Option.some.inj hd
    subst hd
    cases dq with
    | @tup c ys _ fc ec alc =>
    have ly : ys.length + 1 ≤ 1000 := by
      have := hw _ (List.mem_of_getElem? hf1)
      unfold factW at this
      rw [List.length_cons] at this
      rw [alc.len]
      exact this
    refine ⟨h1 _, ⟨_, h2 _, c, ys, rfl, .inl (SqT.of (sc _ _ ec)), Nat.le_trans (by rw [List.length_cons, List.append_nil]; exact ly) sizeLine_ge, fun r nr => ?_⟩⟩
    have sR := same_new (o := .lst (.str "fact" :: (ys ++ []))) nr
    refine hk _ _ sR (.lst nr upd_same (.cons (.str _) ?_))
    rw [List.append_nil]
    exact (atoms_dq (fun x m => ha _ (List.mem_of_getElem? hf1) x (List.mem_cons_of_mem _ m)) alc).1
  rcases dv with dv | dv
  · cases dv with
    | @tup a xs _ fa ea al =>
    have lx : xs.length = fs.length := al.len
    refine .inl ⟨_, hi, a, rfl, ⟨_, SqT.of ea⟩, fun D nD => lc_dataS walk_tup nD ((fs.map factW).map PyData.list) (by rw [List.length_map, List.length_map, lx]) (by omega) (fun Hc sc => SqT.of (sc _ _ ea)) (body al) fun Hc sc l => hq D Hc sc nD l⟩
  · cases dv with
    | @lst a xs _ fa ea al =>
    have lx : xs.length = fs.length := al.len
    refine .inr ⟨_, hi, a, rfl, ⟨_, SqL.of ea⟩, fun D nD => lc_dataS walk_list nD ((fs.map factW).map PyData.list) (by rw [List.length_map, List.length_map, lx]) (by omega) (fun Hc sc => SqL.of (sc _ _ ea)) (body al) fun Hc sc l => hq D Hc sc nD l⟩
abbrev scL : Scope := { kind := .function, names := [(".0", .local), ("line", .local), ("BLANK", .globalImplicit)], isGenerator := false, isCoroutine := false }
def sp_text_of : Sp := fun vs H Q _ => ∃ (v1 v2 v3 v4 : V) (p : Parts), vs = [v1, v2, v3, v4] ∧ Da H v1 (dictD ratesD p.people) ∧ Da H v2 (dictD tabsD p.labs) ∧ Da H v3 (dictD Row.d p.rows) ∧ (Da H v4 (.tuple p.facts) ∨ Da H v4 (.list p.facts)) ∧ Fits p ∧ RetS H (.str (textOf p)) Q
theorem has_text_of (F : Fn K mg "text_of" s_text_of) (gS : mg "str" = none) (cP : CS mg "PERSON" "person") (cL : CS mg "LAB" "lab") (cR : CS mg "RESULT" "result") (cF : CS mg "FACT" "fact") (cB : CS mg "BLANK" sBlank) (cN : CS mg "FEED" sFeed) : Has P w K mg base 1 "text_of" P_text_of [] sp_text_of := by
  obtain ⟨⟨fd, F⟩, g⟩ := F
  refine ⟨⟨fd, [], ?_, F.kp, .nil, F.bindsN fun _ _ _ _ _ _ us hl => match us, hl with | [_, _, _, _], _ => rfl⟩, g⟩
  refine F.ok sc_text_of (fun vs H Q E h => ?_) (fun cdv A outer s H vs Q E hr h' => ?_)
  · obtain ⟨v1, v2, v3, v4, p, rfl, _⟩ := h
    rfl
  · obtain ⟨v1, v2, v3, v4, p, rfl, d1, d2, d3, d4, fit, hq⟩ := h'
    refine ⟨_, PSs.nox (pss_cons (ps_lock (ps_setLc (i := 4) (own := [("name", 5), ("rates", 6)]) (g := gTup K 2 (gCons (gName 5) (gCons (gName 6) gNil))) (tt := tYes) (te := tLst (tCons (tC (.str "person")) (tCons (tVar 5) (StX.tStar K (tVar 6) tNil)))) rfl sc_text_of.nd rfl rfl rfl (pi_items (pv 0)) (blkOk_by (N := N_text_of) (sc := defScope s_text_of) (by decide +kernel))
        (fun _ _ _ _ _ => pg_tup rfl (pgs_cons (pg_name (i := 5) sc_text_of.nd rfl (Or.inl rfl)) (pgs_cons (pg_name (i := 6) sc_text_of.nd rfl (Or.inl rfl)) pgs_nil))) (fun _ _ _ _ _ => pts_nil) (fun _ _ _ _ _ => pe_lst (pa_cons (pe_cs cP) (pa_cons (pv 5) (StX.pa_star (pv 6) pa_nil))))))
      (pss_cons (ps_lock (ps_for PassesOwn.never rfl (pi_items (pv 1)) (pg_tup rfl (pgs_cons (pg_name (i := 5) sc_text_of.nd rfl (Or.inl rfl)) (pgs_cons (pg_name (i := 7) sc_text_of.nd rfl (Or.inl rfl)) pgs_nil)))
        (pss_one (ps_expr (pe_bm PySem.F.plainAttrs_list PySem.F.slot_list_append PySem.F.type_list_append mt_append (pv 4) (pa_cons (pe_lst (pa_cons (pe_cs cL) (pa_cons (pv 5) (StX.pa_star (pe_lc2 (own := [("table", 8), ("number", 9)]) (vs1 := [9]) (g := gName 8) (tt := tYes) (wi1 := iTup K (tVar 8)) (g1 := gName 9) (tt1 := tYes) (te := tVar 9) rfl sc_text_of.nd (pi_tup (pv 7)) (blkOk_by (N := N_text_of) (sc := defScope s_text_of) (by decide +kernel)) (by decide)
          (fun _ _ _ _ _ => pg_name (i := 8) sc_text_of.nd rfl (Or.inl rfl)) (fun _ _ _ _ _ => pts_nil) (fun _ _ _ _ _ => pi_tup (pv 8)) (fun _ _ _ _ _ => pg_name (i := 9) sc_text_of.nd rfl (Or.inl rfl)) (fun _ _ _ _ _ => pts_nil) (fun _ _ _ _ _ => pv 9)) pa_nil)))) pa_nil))))))
      (pss_cons (ps_expr (pe_bm PySem.F.plainAttrs_list PySem.F.slot_list_extend PySem.F.type_list_extend mt_extend (pv 4) (pa_cons (pe_lock (pe_lc (own := [("name", 5), ("row", 10)]) (g := gTup K 2 (gCons (gName 5) (gCons (gName 10) gNil))) (tt := tYes) (te := tLst (tCons (tC (.str "result")) (tCons (tVar 5) (StX.tStar K (tVar 10) tNil)))) rfl sc_text_of.nd (pi_items (pv 2)) (blkOk_by (N := N_text_of) (sc := defScope s_text_of) (by decide +kernel))
        (fun _ _ _ _ _ => pg_tup rfl (pgs_cons (pg_name (i := 5) sc_text_of.nd rfl (Or.inl rfl)) (pgs_cons (pg_name (i := 10) sc_text_of.nd rfl (Or.inl rfl)) pgs_nil))) (fun _ _ _ _ _ => pts_nil) (fun _ _ _ _ _ => pe_lst (pa_cons (pe_cs cR) (pa_cons (pv 5) (StX.pa_star (pv 10) pa_nil)))))) pa_nil)))
      (pss_cons (ps_expr (pe_bm PySem.F.plainAttrs_list PySem.F.slot_list_extend PySem.F.type_list_extend mt_extend (pv 4) (pa_cons (pe_lc (own := [("claim", 11)]) (g := gName 11) (tt := tYes) (te := tLst (tCons (tC (.str "fact")) (StX.tStar K (tVar 11) tNil))) rfl sc_text_of.nd (PI.or (pi_tup (pv 3)) (pi_list (pv 3))) (blkOk_by (N := N_text_of) (sc := defScope s_text_of) (by decide +kernel))
        (fun _ _ _ _ _ => pg_name (i := 11) sc_text_of.nd rfl (Or.inl rfl)) (fun _ _ _ _ _ => pts_nil) (fun _ _ _ _ _ => pe_lst (pa_cons (pe_cs cF) (StX.pa_star (pv 11) pa_nil)))) pa_nil)))
      (pss_one (ps_ret (pe_join (pe_cs cN) (pe_lc (own := [("line", 13)]) (g := gName 13) (tt := tYes) (te := tM1 (fun x xs H Q => ∃ a p, ∃ ys : List Str, x = .str a ∧ xs = [.ref p] ∧ (SqL K H p (ys.map V.str) ∨ SqT K H p (ys.map V.str)) ∧ (ys.map (·.length)).sum + ys.length * a.length ≤ 16777216 ∧ Q (.str (Txt.join a ys)) H) (tC (.str sBlank)) (tLc (iList K (tVar 13)) (gName 12) tYes (tCB rStrOf (tCons (tVar 12) tNil)) [12])) rfl sc_text_of.nd (pi_list (pv 4)) (blkOk_by (N := N_text_of) (sc := defScope s_text_of) (by decide +kernel))
        (fun _ _ _ _ _ => pg_name (i := 13) sc_text_of.nd rfl (Or.inl rfl)) (fun _ _ _ _ _ => pts_nil) (fun _ _ _ _ _ => pe_join (pe_cs cB) (pe_lc (own := [("word", 12)]) (wi := iList K (tVar 13)) (g := gName 12) (tt := tYes) rfl sc_text_of.nd (pi_list (pv 13)) (blkOk_by (N := N_text_of) (sc := scL) (by decide +kernel))
          (fun _ _ _ _ _ => pg_name (i := 12) sc_text_of.nd rfl (Or.inl rfl)) (fun _ _ _ _ _ => pts_nil) (fun _ _ _ _ _ => pe_callTy call_strOf (by rfl) gS (by decide +kernel) (pa_cons (pv 12) pa_nil)))))))))))), ?_⟩
    obtain ⟨a1, k1, rfl, e1, l1, i1⟩ := dict_at d1
    have few : p.people.length + p.labs.length + p.rows.length + p.facts.length ≤ 1000 := by
      have := fit.many
      unfold linesW at this
      simp only [List.length_append, List.length_map] at this
      omega
    refine items_set (i := 0) (y := 4) rfl e1 (by omega) ((p.people.map personW).map PyData.list) (by rw [List.length_map, List.length_map, l1]) ?_ ?_
    · intro od j k v dt Hc T q hk hdt lk nT hq'
      obtain ⟨x, hx, rfl, dv⟩ := i1 j k v hk
      rw [List.getElem?_map, List.getElem?_map, hx] at hdt
      have hdt : PyData.list (personW x) = dt := Option.some.inj hdt
      subst hdt
      cases dv with
      | @tup c xs _ fc ec alc =>
      cases alc with
      | cons q1 alc =>
      cases alc with
      | cons q2 alc =>
      cases alc
      cases q1
      cases q2
      have sT := same_new (o := .tup [.str x.1, .ref c]) nT
      refine ⟨T, _, rfl, SqT.of upd_same, rfl, _, _, rfl, _, _, rfl, rfl, rfl, ?_⟩
      refine ⟨_, rfl, ⟨_, rfl, c, _, rfl, .inl (SqT.of (sT _ _ (lk.tup e1 ec))), Nat.le_trans (by show 4 ≤ 1000; omega) sizeLine_ge, fun r nr => ?_⟩⟩
      have sR := same_new (o := .lst [.str "person", .str x.1, .int x.2.1, .int x.2.2]) nr
      exact hq' _ _ (fun b o z => sR _ _ (sT _ _ z)) (.lst (none_of_same sT nr) upd_same (.cons (.str _) (.cons (.str _) (.cons (.int _) (.cons (.int _) .nil)))))
    intro D1 H1 s1 nD1 dq1
    obtain ⟨a2, k2, rfl, e2, l2, i2⟩ := dict_at d2
    have ne12 : ∀ {b : Addr}, H b = none → b ≠ a2 := fun f z => by
      rw [z, e2] at f
      cases f
    refine ⟨a2, .dK k2, s1 _ _ e2, True.intro, fun od => ⟨_, rfl, a2, od, k2, rfl, upd_same, for_it (walk_items (o := od) (kvs := k2)) (fun j σ Hc => ∃ o5 o7 : Option V, σ = [some (.ref a1), some (.ref a2), some v3, some v4, some (.ref D1), o5, none, o7, none, none, none, none, none, none] ∧
      Hc a2 = some (.frz od (.dK k2)) ∧ (∀ b o, b ≠ a2 → b ≠ D1 → H1 b = some o → Hc b = some o) ∧ ∃ acc, Hc D1 = some (.lst acc) ∧ DqAll (fun b => H b = none ∧ b ≠ D1) Hc acc ((p.people.map personW ++ (p.labs.take j).map labW).map PyData.list)) ?_ (fun j σ Hc _ h => ?_) ?_ ?_⟩⟩
    · obtain ⟨acc, eD, al⟩ := dq1
      have up : ∀ b o, b ≠ a2 → H1 b = some o → upd H1 a2 (.frz od (.dK k2)) b = some o := fun b o hb z => by
        rw [upd_ne hb]
        exact z
      refine ⟨none, none, rfl, upd_same, fun b o h1 _ z => up b o h1 z, acc, up _ _ (ne12 nD1) eD, ?_⟩
      rw [List.take_zero, List.map_nil, List.append_nil]
      exact al.move (fun _ f => f) fun b o f z => up b o (ne12 f.1) z
    · obtain ⟨_, _, _, h, _⟩ := h
      exact h
    · rintro j x σ Hc Hc' hj ⟨o5, o7, rfl, hf, hk, acc, eD, al⟩ ⟨T, ka, va, rfl, nT, rfl, hka, hva⟩
      obtain ⟨key, vv, ek⟩ : ∃ key vv, k2[j]? = some (key, vv) := ⟨_, _, List.getElem?_eq_getElem hj⟩
      have hka : (k2[j]?.map fun kv => kV kv.1) = some ka := hka
      have hva : k2[j]?.map Prod.snd = some va := hva
      rw [ek] at hka hva
      have hka : kV key = ka := Option.some.inj hka
      have hva : vv = va := Option.some.inj hva
      subst hva
      obtain ⟨x, hx, hkey, dv⟩ := i2 j _ _ ek
      subst hkey
      subst hka
      cases dv with
      | @tup c xs _ fc ec alc =>
      obtain ⟨refs, rfl, lr, hrefs⟩ := tab_refs alc
      have sT := same_new (o := .tup [kV (Sum.inr x.1), .ref c]) nT
      have tup : ∀ {b : Addr} {ys : List V}, H b = some (.tup ys) → Hc b = some (.tup ys) := fun {b ys} z => hk b _ (fun y => by rw [y, e2] at z; cases z) (fun y => by rw [y, nD1] at z; cases z) (s1 _ _ z)
      refine ⟨T, _, rfl, SqT.of upd_same, rfl, _, _, rfl, _, _, rfl, rfl, ?_⟩
      have inW : labW x ∈ linesW p := by
        unfold linesW
        exact List.mem_append_left _ (List.mem_append_left _ (List.mem_append_right _ (List.mem_map.mpr ⟨x, List.mem_of_getElem? hx, rfl⟩)))
      have lenW : ((x.2.map Tab.vs).flatten).length + 2 ≤ 1000 := by
        have h1 := (fit.words _ inW).1
        have h2 := (tab_atoms (F := fun _ => True) (H := H) x.2).len
        unfold labW at h1
        rw [List.length_cons, List.length_cons] at h1
        omega
      have lenA : acc.length ≤ 1000 := by
        rw [al.len, List.length_map, List.length_append, List.length_map, List.length_map, List.length_take]
        omega
      refine ⟨_, rfl, .inl ⟨rfl, _, SqL.of (sT _ _ eD)⟩, ⟨_, rfl, flat_core (K := K) (a := c) (refs := refs) (yss := x.2.map Tab.vs) (ti := 8) (tj := 9) (u := 7) rfl (SqT.of (sT _ _ (tup ec))) (by rw [List.length_map, lr]) (fun j r ys h1 h2 => sT _ _ (tup (hrefs j r ys h1 h2))) (by omega) (fun x => rfl) (fun x => rfl) (fun x y => rfl) (fun x y H' q hq => ⟨_, rfl, hq⟩) fun D H' s' nD' eD' =>
        ⟨D, _, rfl, .inr (SqL.of eD'), ⟨?_, fun r nr => ?_⟩⟩⟩⟩
      · rw [List.append_nil, List.length_cons, List.length_cons]
        exact Nat.le_trans lenW sizeLine_ge
      have sR := same_new (o := .lst (.str "lab" :: .str x.1 :: ((x.2.map Tab.vs).flatten ++ []))) nr
      have sAll : Same Hc (upd H' r (.lst (.str "lab" :: .str x.1 :: ((x.2.map Tab.vs).flatten ++ [])))) := fun b o z => sR _ _ (s' _ _ (sT _ _ z))
      have eD2 := sAll _ _ eD
      have nr0 : Hc r = none := none_of_same sT (none_of_same s' nr)
      have rD : r ≠ D1 := fun z => by
        rw [z, eD] at nr0
        cases nr0
      have up : ∀ b o, b ≠ D1 → (upd H' r (.lst (.str "lab" :: .str x.1 :: ((x.2.map Tab.vs).flatten ++ [])))) b = some o → (upd (upd H' r (.lst (.str "lab" :: .str x.1 :: ((x.2.map Tab.vs).flatten ++ [])))) D1 (.lst (acc ++ [.ref r]))) b = some o := fun b o hb z => by
        rw [upd_ne hb]
        exact z
      refine ⟨D1, acc, _, rfl, rfl, eD2, Nat.lt_of_lt_of_le (by omega) (Nat.le_trans (show 1001 ≤ 16777216 by omega) (Nat.le_of_eq sizeLine_eq.symm)), ?_⟩
      refine ⟨_, _, rfl, up _ _ (ne12 nD1).symm (sAll _ _ hf), fun b o h1 h2 z => up b o h2 (sAll _ _ (hk b o h1 h2 z)), _, upd_same, ?_⟩
      have ed : ((p.people.map personW ++ (p.labs.take (j + 1)).map labW).map PyData.list) = ((p.people.map personW ++ (p.labs.take j).map labW).map PyData.list) ++ [.list (labW x)] := by
        rw [List.take_add_one, hx]
        simp
      rw [ed]
      have hn0 : H r = none := by
        cases z : H r with
        | none => rfl
        | some o =>
          have h1 := s1 _ _ z
          have h2 : r ≠ a2 := fun y => by
            rw [y] at nr0
            rw [hf] at nr0
            cases nr0
          rw [hk r o h2 rD h1] at nr0
          cases nr0
      refine (al.move (fun _ f => f) fun b o f z => up b o f.2 (sAll _ _ z)).app (.cons (.lst ⟨hn0, rD⟩ (up r _ rD upd_same) ?_) .nil)
      rw [List.append_nil]
      exact .cons (.str _) (.cons (.str _) (tab_atoms x.2))
    · rintro σ Hc ⟨o5, o7, rfl, hf, hk, acc, eD, al⟩
      refine ⟨hf, ?_⟩
      have n21 : D1 ≠ a2 := ne12 nD1
      have sH3 : Same H (upd Hc a2 (.dK k2)) := fun b o z => by
        by_cases hb : b = a2
        · rw [hb] at z ⊢
          rw [upd_same, ← e2]
          exact z
        · rw [upd_ne hb]
          exact hk b o hb (ne_of_none z nD1) (s1 _ _ z)
      have eD3 : upd Hc a2 (.dK k2) D1 = some (.lst acc) := by
        rw [upd_ne n21]
        exact eD
      have al3 : DqAll (fun b => H b = none ∧ b ≠ D1) (upd Hc a2 (.dK k2)) acc ((p.people.map personW ++ p.labs.map labW).map PyData.list) := by
        rw [l2, List.take_of_length_le (Nat.le_refl _)] at al
        exact al.move (fun _ f => f) fun b o f z => by
          rw [upd_ne (ne12 f.1)]
          exact z
      generalize upd Hc a2 (.dK k2) = H3 at *
      clear hk hf eD al
      obtain ⟨a3, k3, rfl, e3, l3, i3⟩ := dict_at d3
      have lenA : acc.length = p.people.length + p.labs.length := by
        rw [al3.len, List.length_map, List.length_append, List.length_map, List.length_map]
      refine ⟨_, rfl, .inl ⟨rfl, _, SqL.of eD3⟩, items_lc (i := 2) rfl (sH3 _ _ e3) (by omega) ((p.rows.map rowW).map PyData.list) (by rw [List.length_map, List.length_map, l3]) ?_ ?_⟩
      · intro od j k v dt Hc T q hk hdt lk nT hq'
        obtain ⟨x, hx, rfl, dv⟩ := i3 j k v hk
        rw [List.getElem?_map, List.getElem?_map, hx] at hdt
        have hdt : PyData.list (rowW x) = dt := Option.some.inj hdt
        subst hdt
        cases dv with
        | @tup c xs _ fc ec alc =>
        have lx : xs.length = 4 := by
          rw [alc.len]
          rfl
        have sT := same_new (o := .tup [.str x.1, .ref c]) nT
        refine ⟨T, _, rfl, SqT.of upd_same, rfl, _, _, rfl, _, _, rfl, rfl, rfl, ?_⟩
        refine ⟨_, rfl, ⟨_, rfl, c, _, rfl, .inl (SqT.of (sT _ _ (lk.tup (sH3 _ _ e3) (sH3 _ _ ec)))), Nat.le_trans (by rw [List.length_cons, List.length_cons, List.append_nil, lx]; show 6 ≤ 1000; omega) sizeLine_ge, fun r nr => ?_⟩⟩
        have sR := same_new (o := .lst (.str "result" :: .str x.1 :: (xs ++ []))) nr
        refine hq' _ _ (fun b o z => sR _ _ (sT _ _ z)) (.lst (none_of_same sT nr) upd_same (.cons (.str _) (.cons (.str _) ?_)))
        rw [List.append_nil]
        cases alc with
        | cons q1 alc =>
        cases alc with
        | cons q2 alc =>
        cases alc with
        | cons q3 alc =>
        cases alc with
        | cons q4 alc =>
        cases alc
        cases q1
        cases q2
        cases q3
        refine .cons (.str _) (.cons (.str _) (.cons (.int _) (.cons ?_ .nil)))
        have q4 : Dq _ H _ x.2.pr.d := q4
        revert q4
        cases x.2.pr with
        | num i =>
          intro q4
          cases q4
          exact .int i
        | word z =>
          intro q4
          cases q4
          exact .str z
      · intro D4 H4 s4 nD4 dq4
        obtain ⟨acc4, eD4, al4⟩ := dq4
        have len4 : acc4.length = p.rows.length := by
          rw [al4.len, List.length_map, List.length_map]
        refine ⟨D1, D4, acc, acc4, rfl, rfl, s4 _ _ eD3, eD4, by rw [sizeLine_eq]; omega, ?_⟩
        have up5 : ∀ b o, b ≠ D1 → H4 b = some o → upd H4 D1 (.lst (acc ++ acc4)) b = some o := fun b o hb z => by
          rw [upd_ne hb]
          exact z
        have sH5 : Same H (upd H4 D1 (.lst (acc ++ acc4))) := fun b o z => up5 b o (ne_of_none z nD1) (s4 _ _ (sH3 _ _ z))
        have eD5 : upd H4 D1 (.lst (acc ++ acc4)) D1 = some (.lst (acc ++ acc4)) := upd_same
        have n3 : ∀ {b : Addr}, H3 b = none → H b = none ∧ b ≠ D1 := fun {b} f => ⟨none_of_same sH3 f, fun z => by
          rw [z, eD3] at f
          cases f⟩
        have al5 : DqAll (fun b => H b = none ∧ b ≠ D1) (upd H4 D1 (.lst (acc ++ acc4))) (acc ++ acc4) ((p.people.map personW ++ p.labs.map labW ++ p.rows.map rowW).map PyData.list) := by
          rw [List.map_append]
          exact (al3.move (fun _ f => f) fun b o f z => up5 b o f.2 (s4 _ _ z)).app (al4.move (fun b f => n3 f.1) fun b o f z => up5 b o (n3 f.1).2 z)
        generalize hH5 : upd H4 D1 (.lst (acc ++ acc4)) = H5 at *
        have wW : ∀ d ∈ p.facts, (factW d).length ≤ 1000 := fun d hd => (fit.words _ (by
          unfold linesW
          exact List.mem_append_right _ (List.mem_map.mpr ⟨d, hd, rfl⟩))).1
        have aW : ∀ d ∈ p.facts, ∀ x ∈ factW d, isAtom x = true := fun d hd => (fit.words _ (by
          unfold linesW
          exact List.mem_append_right _ (List.mem_map.mpr ⟨d, hd, rfl⟩))).2.1
        have d45 : Da H5 v4 (.tuple p.facts) ∨ Da H5 v4 (.list p.facts) := d4.imp (fun d => d.same sH5) fun d => d.same sH5
        refine ⟨_, rfl, .inl ⟨rfl, _, SqL.of eD5⟩, facts_lc (u := 3) rfl d45 fit.facts (by omega) wW aW (fun x => rfl) (fun x => rfl) fun D6 H6 s6 nD6 dq6 => ?_⟩
        obtain ⟨acc6, eD6, al6⟩ := dq6
        have len5 : (acc ++ acc4).length = p.people.length + p.labs.length + p.rows.length := by
          rw [List.length_append, lenA, len4]
        have len6 : acc6.length = p.facts.length := by
          rw [al6.len, List.length_map, List.length_map]
        refine ⟨D1, D6, acc ++ acc4, acc6, rfl, rfl, s6 _ _ eD5, eD6, by rw [sizeLine_eq]; omega, ?_⟩
        have up7 : ∀ b o, b ≠ D1 → H6 b = some o → upd H6 D1 (.lst (acc ++ acc4 ++ acc6)) b = some o := fun b o hb z => by
          rw [upd_ne hb]
          exact z
        have sH7 : Same H (upd H6 D1 (.lst (acc ++ acc4 ++ acc6))) := fun b o z => up7 b o (ne_of_none z nD1) (s6 _ _ (sH5 _ _ z))
        have eD7 : upd H6 D1 (.lst (acc ++ acc4 ++ acc6)) D1 = some (.lst (acc ++ acc4 ++ acc6)) := upd_same
        have n5 : ∀ {b : Addr}, H5 b = none → H b = none ∧ b ≠ D1 := fun {b} f => ⟨none_of_same sH5 f, fun z => by
          rw [z, eD5] at f
          cases f⟩
        have al7 : DqAll (fun b => H b = none ∧ b ≠ D1) (upd H6 D1 (.lst (acc ++ acc4 ++ acc6))) (acc ++ acc4 ++ acc6) ((linesW p).map PyData.list) := by
          unfold linesW
          rw [List.map_append]
          exact (al5.move (fun _ f => f) fun b o f z => up7 b o f.2 (s6 _ _ z)).app (al6.move (fun b f => n5 f.1) fun b o f z => up7 b o (n5 f.1).2 z)
        generalize upd H6 D1 (.lst (acc ++ acc4 ++ acc6)) = H7 at *
        generalize acc ++ acc4 ++ acc6 = all at *
        have len7 : all.length = (linesW p).length := by
          rw [al7.len, List.length_map]
        have many := fit.many
        refine ⟨⟨_, rfl⟩, ⟨_, rfl, D1, rfl, ⟨_, SqL.of eD7⟩, fun D nD => lc_vals walk_list nD (((linesW p).map lineS).map V.str) (by rw [List.length_map, List.length_map, len7]) (by omega) (fun Hc sc => SqL.of (sc _ _ eD7)) ?_ ?_⟩⟩
        · rintro j x y Hc Hc' k hy sc ⟨rfl, hx⟩ hk
          obtain ⟨dd, hd1, dq⟩ := al7.get hx
          rw [List.getElem?_map, Option.map_eq_some_iff] at hd1
          obtain ⟨l, hl, rfl⟩ := hd1
          rw [List.getElem?_map, List.getElem?_map, hl] at hy
          have hy : V.str (lineS l) = y := Option.some.inj hy
          subst hy
          obtain ⟨w1, w2, w3⟩ := fit.words l (List.mem_of_getElem? hl)
          cases dq with
          | @lst r ws _ fr er alr =>
          obtain ⟨_, ew⟩ := atoms_dq (F' := fun _ => True) (H' := Hc') w2 alr
          have lw : ws.length = l.length := alr.len
          have er' := sc _ _ er
          refine ⟨rfl, ⟨⟨_, rfl⟩, ⟨_, rfl, r, rfl, ⟨_, SqL.of er'⟩, fun D2 nD2 => lc_vals walk_list nD2 ((l.map wordS).map V.str) (by rw [List.length_map, List.length_map, lw]) (by omega) (fun He se => SqL.of (se _ _ er')) ?_ ?_⟩⟩⟩
          · rintro j2 x2 y2 He He' k2' hy2 se ⟨rfl, hx2⟩ hk2
            rw [ew, List.getElem?_map, Option.map_eq_some_iff] at hx2
            obtain ⟨d', hd', rfl⟩ := hx2
            rw [List.getElem?_map, List.getElem?_map, hd'] at hy2
            have hy2 : V.str (wordS d') = y2 := Option.some.inj hy2
            subst hy2
            have at' := w2 d' (List.mem_of_getElem? hd')
            refine ⟨rfl, ⟨_, rfl, ?_⟩⟩
            cases d' with
            | int i => exact .inl ⟨i, rfl, of_decide_eq_true at', hk2 _ (Same.refl _)⟩
            | str z => exact .inr ⟨z, rfl, hk2 _ (Same.refl _)⟩
            | none => cases at'
            | bool _ => cases at'
            | list _ => cases at'
            | tuple _ => cases at'
            | dict _ => cases at'
          · intro He se e2'
            refine ⟨sBlank, D2, l.map wordS, rfl, rfl, .inl (SqL.of e2'), ?_, hk _ se⟩
            rw [show sBlank.length = 1 from by decide +kernel, List.length_map, Nat.mul_one]
            exact w3
        · intro Hc sc eDc
          refine ⟨sFeed, D, (linesW p).map lineS, rfl, rfl, .inl (SqL.of eDc), ?_, hq Hc fun b o z => sc _ _ (sH7 _ _ z)⟩
          rw [show sFeed.length = 1 from by decide +kernel, List.length_map, Nat.mul_one]
          exact fit.all
end
end G

set_option Elab.async false
set_option linter.all false
set_option maxRecDepth 100000
set_option maxHeartbeats 4000000
namespace G
open PySem PySem.Spec PyProof.Rows L2 U
open PySem.W (Frag)
/-! ### Chart.text -/
structure TextT (K : Frag) (C g : Addr) (fd : FuncData) : Prop where
  fn : FunD K "text" "Chart.text" (defArgs s_Chart_text) (defBody s_Chart_text) (defScope s_Chart_text) [] [] g fd
  prop : ∃ p, PropOf K C "text" p g
theorem look1 (v1 v2 v3 v4 : V) : List.lookup ("own_people" : Str) [(("own_people" : Str), v1), (("own_labs" : Str), v2), (("own_rows" : Str), v3), (("own_facts" : Str), v4)] = some v1 := by
  rw [lookup_put, if_pos rfl]
theorem look2 (v1 v2 v3 v4 : V) : List.lookup ("own_labs" : Str) [(("own_people" : Str), v1), (("own_labs" : Str), v2), (("own_rows" : Str), v3), (("own_facts" : Str), v4)] = some v2 := by
  rw [lookup_put, if_neg (by decide +kernel), lookup_put, if_pos rfl]
theorem look3 (v1 v2 v3 v4 : V) : List.lookup ("own_rows" : Str) [(("own_people" : Str), v1), (("own_labs" : Str), v2), (("own_rows" : Str), v3), (("own_facts" : Str), v4)] = some v3 := by
  rw [lookup_put, if_neg (by decide +kernel), lookup_put, if_neg (by decide +kernel), lookup_put, if_pos rfl]
theorem look4 (v1 v2 v3 v4 : V) : List.lookup ("own_facts" : Str) [(("own_people" : Str), v1), (("own_labs" : Str), v2), (("own_rows" : Str), v3), (("own_facts" : Str), v4)] = some v4 := by
  rw [lookup_put, if_neg (by decide +kernel), lookup_put, if_neg (by decide +kernel), lookup_put, if_neg (by decide +kernel), lookup_put, if_pos rfl]
section
variable {P : Program} {w : World} {K : Frag} {mg : Str → Option Value} {base : Heap} {CB C f g : Addr} {fd fd' : FuncData}
def sp_Chart_text (C : Addr) : Sp := fun vs H Q _ => ∃ (v : V) (p : Parts), vs = [v] ∧ ChartIs C H v p ∧ Fits p ∧ RetS H (.str (textOf p)) Q
theorem ok_Chart_text (T : ChartT K mg C f fd) (TT : TextT K C g fd') (hT : Has P w K mg base 1 "text_of" P_text_of [] sp_text_of) : FnOk P w K mg base CX0 2 g fd' P_Chart_text (sp_Chart_text C) := by
  refine TT.fn.ok sc_Chart_text (fun vs H Q E h => ?_) (fun cdv A outer s H vs Q E hr h' => ?_)
  · obtain ⟨v, p, rfl, _⟩ := h
    rfl
  · obtain ⟨v, p, rfl, hc, fit, hq⟩ := h'
    obtain ⟨a, dx, v1, v2, v3, v4, rfl, ea, d1, d2, d3, d4⟩ := hc
    refine ⟨_, PSs.nox (pss_one (ps_ret (pe_has hT hr (pa_cons (pe_fld (pv 0) rfl) (pa_cons (pe_fld (pv 0) rfl) (pa_cons (pe_fld (pv 0) rfl) (pa_cons (pe_fld (pv 0) rfl) pa_nil))))))), ?_⟩
    refine ⟨_, rfl, a, C, dx, _, _, rfl, ea, T.cls, T.n1, look1 _ _ _ _, ?_⟩
    refine ⟨_, rfl, a, C, dx, _, _, rfl, ea, T.cls, T.n2, look2 _ _ _ _, ?_⟩
    refine ⟨_, rfl, a, C, dx, _, _, rfl, ea, T.cls, T.n3, look3 _ _ _ _, ?_⟩
    refine ⟨_, rfl, a, C, dx, _, _, rfl, ea, T.cls, T.n4, look4 _ _ _ _, ?_⟩
    exact ⟨v1, v2, v3, v4, p, rfl, d1, d2, d3, .inl d4, fit, hq⟩
end
end G

set_option Elab.async false
set_option linter.all false
set_option maxRecDepth 100000
set_option maxHeartbeats 4000000
namespace U
open PySem PySem.Spec PyProof.Rows L2
open PySem.W (Frag)
/-! ### own special methods -/
section
variable {X : Cx} {CX : CXT} {k : Nat} {C f : Addr} {fd : FuncData} {ps : List Str} {sp : Sp} {E : XK}
/-- a special method's def runs -/
theorem spec_run {pins : List (Addr × Obj)} {σ : L2.St} {H : Hp} {s : Shared} {Q : VK} {us : List Value} {vs : List V} (I : Inv X pins σ H s) (F : FnOk X.prog X.w X.K X.mg X.base CX k f fd ps sp) (hr : Room (k + 1) X.A) (hb : Binds X.K fd ps []) (hx : Passes CX X E) (r : Vals vs us) (h : sp vs H Q E) :
    wpAny (model X.prog X.w) X.A.in1 (call (.ref f) us) (EP X pins σ Q) X.xe s := by
  have hl : us.length = ps.length := by
    rw [← r.length]
    exact F.len _ _ _ _ h
  have hb' : BindsTo s fd ⟨us, []⟩ (ps.zip us) := by
    have z := hb s us I.kIn (by rw [List.append_nil]; exact hl)
    rw [List.append_nil] at z
    exact z
  refine wpAny_call (codeAny_mono (F.run X.A.in1 X.stack s H ⟨us, []⟩ us vs Q E hr.in1 I.env0.in1 hb' r h) fun rr s' hq => ?_)
  cases rr with
  | error er => exact hx pins σ H s er s' I hq
  | ok fl =>
    cases fl with
    | ret u => exact I.after hq
    | next => exact False.elim hq
    | brk => exact False.elim hq
    | cont => exact False.elim hq
/-- the class's method by its name -/
structure Dun (K : Frag) (C : Addr) (m : Str) (f : Addr) : Prop where
  at_ : PySem.W.findIn K (.ref C) m = some (some (.ref f))
  fn : PySem.W.isFn K (.ref f) = true
  fi : PySem.W.fnIn K f = true
/-- x[i] -/
def rIxO (C : Addr) (sp : Sp) (E : XK) : R2 := fun x y H Q => ∃ a dx fs, x = .ref a ∧ H a = some (.ins C dx fs) ∧ sp [.ref a, y] H Q E
theorem ix_own (D : Dun X.K C "__getitem__" f) (F : FnOk X.prog X.w X.K X.mg X.base CX k f fd ps sp) (hr : Room (k + 1) X.A) (hb : Binds X.K fd ps []) (hx : Passes CX X E)
    {value slice : Expr} {pins : List (Addr × Obj)} {s : Shared} {σ : L2.St} {H : Hp} {x y : V} {v u : Value} {Q : VK} (I : Inv X pins σ H s) (rx : RelV x v) (ry : RelV y u) (h : rIxO C sp E x y H Q)
    (hsl : subscripted slice true v u = runValue (.builtin "lifetime.subscript" ⟨[v, u], []⟩)) : wpAny (model X.prog X.w) X.A (subscriptTail value slice v u) (EP X pins σ Q) X.xe s := by
  obtain ⟨a, dx, fs, rfl, ea, h⟩ := h
  obtain rfl : v = Value.ref a := rx
  obtain ⟨mA, O, _, _, _, _⟩ := ins_get I.hok ea
  obtain ⟨od, J, _⟩ := O.look
  have XK := I.kIn
  have hf := D.fi
  unfold PySem.W.fnIn at hf
  split at hf
  · rename_i e
    unfold subscriptTail getitemInPython
    refine wpAny_bind (wpAny_bind (wpAny_bind (J.type.here ((PySem.W.looks_findIn XK D.at_).here ?_))))
    dsimp only
    refine wpAny_bind (wpAny_load (XK _ _ e) (wpAny_pure ?_))
    dsimp only
    rw [hsl]
    refine wpAny_bind (wpAny_runValue (codeAny_builtin PySem.W.entry_sub ?_))
    unfold Builtin.«lifetime.subscript»
    refine wpAny_bind (PySem.W.special_fn XK J D.at_ (beq_iff_eq.mp D.fn) (wpAny_mono (spec_run (vs := [.ref a, y]) I F hr hb hx (.cons rfl (.cons ry .nil)) h) (fun v s' z => ?_) fun _ _ z => z))
    refine wpAny_pure ?_
    show wpAny (model X.prog X.w) X.A (letTemporaryGo value (.ref a) v >>= fun _ => pure v) _ _ s'
    exact wpAny_bind (wpAny_letTemporaryGo (wpAny_pure z))
  · cases hf
theorem pe_ixO {a b : Expr} {ta tb : TE} {pos : Pos} (D : Dun X.K C "__getitem__" f) (F : FnOk X.prog X.w X.K X.mg X.base CX k f fd ps sp) (hr : Room (k + 1) X.A) (hb : Binds X.K fd ps []) (hx : Passes CX X E) (ha : PE X a ta) (hbb : PE X b tb)
    (hsl : ∀ v u, subscripted b true v u = runValue (.builtin "lifetime.subscript" ⟨[v, u], []⟩) := by intro v u; with_unfolding_all rfl) : PE X (.Subscript a b pos) (tOp (rIxO C sp E) ta tb) := by
  refine ⟨fun pins s σ H Q I h => ?_⟩
  exact Subscript_ (binT ha hbb I h fun v u s2 x y H2 I2 rx ry q => ix_own D F hr hb hx I2 rx ry q (hsl _ _))
/-- len(x) -/
def rLenO (C : Addr) (sp : Sp) (E : XK) : List V → Hp → VK → Prop := fun xs H Q => ∃ a dx fs, xs = [.ref a] ∧ H a = some (.ins C dx fs) ∧ sp [.ref a] H (fun v H' => ∃ n : Nat, v = .int n ∧ n < 2 ^ 62 ∧ Q (.int n) H') E
theorem call_lenO (D : Dun X.K C "__len__" f) (F : FnOk X.prog X.w X.K X.mg X.base CX k f fd ps sp) (hr : Room (k + 1) X.A) (hb : Binds X.K fd ps []) (hx : Passes CX X E) : CallR X (.builtin "len") (rLenO C sp E) := by
  intro pins s σ H xs us Q I r h
  obtain ⟨a, dx, fs, rfl, ea, h⟩ := h
  cases r with
  | @cons _ u _ _ rx rn =>
  cases rn
  obtain rfl : u = Value.ref a := rx
  obtain ⟨mA, O, _, _, _, _⟩ := ins_get I.hok ea
  obtain ⟨od, J, _⟩ := O.look
  have XK := I.kIn
  refine Calls.call_function_entry PySem.kind_len PySem.plain_len PySem.entry_len (PySem.args_len1 _) ?_
  unfold Builtin.«len»
  refine wpAny_bind (m := oneArg "len" _) (wpAny_pure ?_)
  refine wpAny_bind (m := callSpecial? (.ref a) (Str.ofString "__len__")) (PySem.W.special_fn XK J D.at_ (beq_iff_eq.mp D.fn) (wpAny_mono (spec_run (vs := [.ref a]) I F hr hb hx (.cons rfl .nil) h) (fun rr s' hr' => ?_) fun _ _ y => y))
  obtain ⟨v, H', I', rv, n, rfl, hn, q⟩ := hr'
  obtain ⟨t, rfl⟩ := rv
  refine wpAny_bind (wpAny_holding (wpAny_pure ?_))
  refine wpAny_bind (wpAny_letGo ?_)
  show wpAny _ _ (if (n : Int) < 0 then _ else _) _ _ _
  rw [if_neg (by omega)]
  show wpAny _ _ (if (n : Int) ≥ 2 ^ 63 then _ else _) _ _ _
  rw [if_neg (by omega)]
  exact wpAny_bind (wpAny_mkInt (wpAny_pure ⟨_, rfl, .int n, H', I'.tok _, ⟨_, rfl⟩, q⟩))
end
end U

set_option Elab.async false
set_option linter.all false
set_option maxRecDepth 100000
set_option maxHeartbeats 4000000
namespace U
open PySem PySem.Spec PyProof.Rows L2
open PySem.W (Frag)
/-! ### an own __eq__, no __ne__ -/
def strKeyB (e : DictEntry) : Bool := match e.key with
  | .str _ _ => true
  | _ => false
def eqClsB (K : Frag) (C f : Addr) : Bool := match K.lookup C with
  | some ⟨.type t, _, .cls cd, sl⟩ => decide (t = "type") && (!cd.hasDel && ((match cd.mro with
    | [.ref c, .type o] => decide (c = C) && decide (o = "object")
    | _ => false) && ((match sl.toList with
    | [_, _, _, _, some (.builtin _), _] => true
    | _ => false) && ((match K.lookup cd.ns with
    | some ⟨_, _, .dict es _, _⟩ => es.toList.all strKeyB && (decide (nsFind es "__eq__" = some (.ref f)) && decide (nsFind es "__ne__" = none))
    | _ => false) && (match K.lookup f with
    | some ⟨.type t, _, _, _⟩ => decide (t = "function")
    | _ => false)))))
  | _ => false
theorem eqClsB_ok {K : Frag} {h : Heap} {C f x : Addr} {o : Obj} (X : K.In h) (b : eqClsB K C f = true) (hx : h.get? x = some o) (hc : o.cls = .ref C) : h.OwnEqNoNe x C f "object" [.type "object"] := by
  unfold eqClsB at b
  split at b
  · rename_i t dd cd sl ho
    obtain ⟨b1, b⟩ := He.ba b
    obtain ⟨b2, b⟩ := He.ba b
    obtain ⟨b3, b⟩ := He.ba b
    obtain ⟨b4, b⟩ := He.ba b
    obtain ⟨b5, b6⟩ := He.ba b
    have e1 : t = "type" := of_decide_eq_true b1
    subst e1
    split at b3
    · rename_i c o' hm
      obtain ⟨c1, c2⟩ := He.ba b3
      have e2 : c = C := of_decide_eq_true c1
      have e3 : o' = "object" := of_decide_eq_true c2
      subst e2 e3
      split at b4
      · rename_i k0 k1 k2 k3 n k5 hs
        split at b5
        · rename_i oc od es ep os hn
          obtain ⟨d1, d⟩ := He.ba b5
          obtain ⟨d2, d3⟩ := He.ba d
          split at b6
          · rename_i t2 fd2 fdt fsl hf
            have e4 : t2 = "function" := of_decide_eq_true b6
            subst e4
            obtain ⟨nm, bs, mro, N, q, hd, sn, sub, ab, col, del⟩ := cd
            have e5 : del = false := by simpa using b2
            have hs' : sl = #[k0, k1, k2, k3, some (.builtin n), k5] := by rw [← hs]
            simp only at hm hn
            subst e5 hm hs'
            refine ⟨o, _, nm, q, N, bs, hd, sn, sub, ab, col, dd, k0, k1, k2, k3, k5, n, nsFind es, some (.builtin "object.__eq__"), hx, hc, X _ _ ho, ⟨_, es, ep, X _ _ hn, rfl, fun e he => ?_, fun _ => rfl⟩, of_decide_eq_true d2, X _ _ hf, rfl, PySem.F.cmp_object.mro, ?_, of_decide_eq_true d3⟩
            · have z := List.all_eq_true.mp d1 e (Array.mem_toList_iff.mpr he)
              unfold strKeyB at z
              split at z
              · rename_i a b' hk
                exact ⟨a, b', hk⟩
              · cases z
            · rw [typeLookup_type, builtinLookup_eq_fast]
              kernel_rfl
          · cases b6
        · cases b5
      · cases b4
    · cases b3
  · cases b
section
variable {X : Cx} {CX : CXT} {k : Nat} {C f : Addr} {fd : FuncData} {ps : List Str} {sp : Sp} {E : XK}
def rNeO (C : Addr) (sp : Sp) (E : XK) : R2 := fun x y H Q => ∃ a b dx dy fs gs, x = .ref a ∧ y = .ref b ∧ H a = some (.ins C dx fs) ∧ H b = some (.ins C dy gs) ∧ sp [.ref a, .ref b] H (fun v H' => ∃ t, v = .bl t ∧ Q (.bl (!t)) H') E
theorem op_neO (D : eqClsB X.K C f = true) (F : FnOk X.prog X.w X.K X.mg X.base CX k f fd ps sp) (hr : Room (k + 1) X.A) (hb : Binds X.K fd ps []) (hx : Passes CX X E) (hu : X.A.units + 1 < cLine) : OpR X (compareOp .NotEq) (rNeO C sp E) := by
  intro pins s σ H x y v u Q I rx ry h
  obtain ⟨a, b, dx, dy, fs, gs, rfl, rfl, ea, eb, h⟩ := h
  obtain rfl : v = Value.ref a := rx
  obtain rfl : u = Value.ref b := ry
  obtain ⟨mA, O, _, _, _, _⟩ := ins_get I.hok ea
  obtain ⟨od, J, _⟩ := O.look
  obtain ⟨mB, O2, _, _, _, _⟩ := ins_get I.hok eb
  obtain ⟨od2, J2, _⟩ := O2.look
  have run := spec_run (vs := [.ref a, .ref b]) I F hr hb hx (.cons rfl (.cons rfl .nil)) h
  have XK := I.kIn
  obtain ⟨hp, g, dr, tk, os⟩ := s
  refine compareOp_ne_ownEq PySem.F.cmp_object (eqClsB_ok XK D J.1 J.2) J2.1 J2.2 hu (wpAny_mono run (fun vv s' z => ?_) fun _ _ e => e)
  obtain ⟨w, H', I', rv, t, rfl, q⟩ := z
  obtain rfl : vv = Value.bool t := rv
  exact ⟨t, rfl, .bl (!t), H', I', rfl, q⟩
end
end U

set_option Elab.async false
set_option linter.all false
set_option maxRecDepth 100000
set_option maxHeartbeats 4000000
namespace U
open PySem PySem.Spec PyProof.Rows L2
open PySem.W (Frag)
section
variable {prog : Program} {w : World} {K : Type} [DecidableEq K] {knd : KeyKind prog w K} {A : Around} {E : Value → Shared → Prop} {s : Shared}
theorem dictPut_pairs {d : Addr} {kvs : List (K × Value)} {k : K} {key v : Value} {Q : Unit → Shared → Prop} (hkey : knd.is k key = true) (hm : s.heap.DictOf knd d kvs)
    (hQ : ∀ h', h'.DictOf knd d (stored kvs k v) → Heap.SameBut d s.heap h' → Q () { s with heap := h' }) (hsz : kvs.length ≤ sizeLine) :
    wpAny (model prog w) A (dictPut d (knd.hash k) key v) Q E s := by
  obtain ⟨o, es, ep, ho, hc, hd, hk, hp, hn⟩ := hm
  have hes : es.size ≤ sizeLine := by
    have e1 := hp.length
    have e2 : es.toList.length = es.size := by simp
    omega
  unfold dictPut
  refine wpAny_bind (wpAny_dictFind_of hkey ho hd hk ?_)
  have hidx : (es.findIdx? fun e => knd.is k e.key) = kvs.findIdx? fun kv => decide (kv.1 = k) := by
    rw [← hp.findIdx k]; obtain ⟨l⟩ := es; simp
  cases hi : es.findIdx? fun e => knd.is k e.key with
  | some i =>
    refine wpAny_updateDict ho hd (hQ _ ⟨_, _, ep, Heap.get?_update_self _ ho (Obj.isFreed_of_dict (Obj.data_mapDict hd _)), hc.mapDict _, Obj.data_mapDict hd _, hk.modify _ _, ?_, ?_⟩ (Heap.SameBut.update ..))
    · rw [stored, if_pos (any_of_findIdx_some (hidx ▸ hi))]
      have hl : (es.toList.findIdx? fun e => knd.is k e.key) = some i := by rw [← hi]; obtain ⟨l⟩ := es; simp
      have := hp.modify hn hl v
      obtain ⟨l⟩ := es
      simpa using this
    · rw [stored, if_pos (any_of_findIdx_some (hidx ▸ hi)), keys_map_store]; exact hn
  | none =>
    have hnot : k ∉ kvs.map (·.1) := not_mem_of_findIdx_none (hidx ▸ hi)
    have hany : ¬ (kvs.any fun kv => decide (kv.1 = k)) = true := by
      rw [List.any_eq_true]; rintro ⟨kv, hkv, he⟩
      exact hnot (List.mem_map.mpr ⟨kv, hkv, of_decide_eq_true he⟩)
    refine wpAny_updateDictKeys (hz := hes) ho hd (hQ _ ⟨_, _, ep + 1, Heap.get?_update_self _ ho (Obj.isFreed_of_dict (Obj.data_mapDictKeys hd _)), hc.mapDictKeys _, Obj.data_mapDictKeys hd _, hk.push hkey _, ?_, ?_⟩ (Heap.SameBut.update ..))
    · rw [stored, if_neg hany]
      have := hp.append hkey (knd.hash k) v
      obtain ⟨l⟩ := es
      simpa using this
    · rw [stored, if_neg hany, List.map_append, List.nodup_append]
      refine ⟨hn, by simp, ?_⟩
      intro a ha b hb
      simp only [List.map_cons, List.map_nil, List.mem_singleton] at hb
      subst hb
      exact fun e => hnot (e ▸ ha)
theorem mergeMap_pairs {d o : Addr} {kvs more : List (K × Value)} {Q : Unit → Shared → Prop} (hdo : d ≠ o) (hoS : (o == sysModules) = false) (hd : s.heap.DictOf knd d kvs) (ho : s.heap.DictOf knd o more)
    (hQ : ∀ h', h'.DictOf knd d (merged kvs more) → h'.DictOf knd o more → Heap.SameBut d s.heap h' → Q () { s with heap := h' }) (hsz : kvs.length + more.length ≤ sizeLine) :
    wpAny (model prog w) A (mergeMapping d (.ref o) false) Q E s := by
  obtain ⟨od, esd, epd, hod, hcd, hdd, hkd, hpd, hnd⟩ := id hd
  obtain ⟨oo, eso, epo, hoo, hco, hdo', hko, hpo, hno⟩ := id ho
  have hlen : more.length = eso.size := by rw [← hpo.length]; simp
  have hT : s.TypeIs (.ref o) "dict" := ho.typeIs
  have nref : ∀ e ∈ eso, ∀ a, e.key ≠ .ref a := fun e he a z => by
    obtain ⟨k, hk, _⟩ := hko e he
    have b := knd.byValue k _ hk
    rw [z] at b
    cases b
  unfold mergeMapping
  refine wpAny_bind (wpAny_isInstance hT PySem.F.sub_dict_dict ?_)
  dsimp only
  rw [if_pos rfl]
  refine wpAny_bind (wpAny_specialOf hT PySem.F.slot_dict_iter.lookup ?_)
  have e0 : ((some (Value.builtin "dict.__iter__") : Option Value) == some (.builtin "dict.__iter__")) = true := by decide +kernel
  rw [e0]
  refine wpAny_bind (wpAny_pure ?_)
  dsimp only
  rw [if_neg (by rw [hoS]; exact Bool.false_ne_true)]
  refine wpAny_bind (wpAny_dictEntries hod hdd ?_)
  have loop : wpAny (model prog w) A (do
      let l ← dictEntries o
      let epoch ← dictEpoch o
      forIn (List.range l.size) PUnit.unit fun i (_ : PUnit) => (do
          let l' ← dictEntries o
          match l'[i]? with
            | some e => do
              holding [e.key, e.val] (if false = true then (do
                  let f ← dictFind d e.key e.hash
                  if f.isSome = true then do
                      rule "dict.merge.duplicate-key"
                      let x ← newExc (Value.type "KeyError") [e.key]
                      raiseNew x
                      dictPut d e.hash e.key e.val
                    else dictPut d e.hash e.key e.val)
                else dictPut d e.hash e.key e.val)
              let ep' ← dictEpoch o
              if (ep' != epoch) = true then do
                  (unsupported "dict.changed-during-merge" : Sem PUnit)
                  pure (ForInStep.yield PUnit.unit)
                else pure (ForInStep.yield PUnit.unit)
            | _ => do
              (unsupported "dict.changed-during-merge" : Sem PUnit)
              pure (ForInStep.yield PUnit.unit) : Sem (ForInStep PUnit))
      pure ()) Q E s := by
    refine wpAny_bind (wpAny_dictEntries hoo hdo' ?_)
    refine wpAny_bind (wpAny_dictEpoch hoo hdo' ?_)
    refine wpAny_bind ?_
    refine wpAny_forIn_list _
      (fun rest _ s' => ∃ h' i, s' = { s with heap := h' } ∧ rest = List.range' i (eso.size - i) ∧ i ≤ eso.size ∧ h'.DictOf knd d (merged kvs (more.take i)) ∧ h'.get? o = some oo ∧ Heap.SameBut d s.heap h')
      _ ?_ ?_ _ _ ⟨s.heap, 0, rfl, by rw [List.range_eq_range']; simp, Nat.zero_le _, by simpa [merged] using hd, hoo, Heap.SameBut.refl _ _⟩
    · rintro x rest b s' ⟨h', i, rfl, hr, hi, hd', hoo', hs'⟩
      have hlt : i < eso.size := by
        rcases Nat.lt_or_ge i eso.size with h | h
        · exact h
        · rw [Nat.sub_eq_zero_of_le h] at hr; simp at hr
      obtain ⟨rfl, hrest⟩ : x = i ∧ rest = List.range' (i + 1) (eso.size - (i + 1)) := by
        have e : eso.size - i = (eso.size - (i + 1)) + 1 := by omega
        rw [e, List.range'_succ] at hr
        injection hr with h1 h2
        exact ⟨h1, h2⟩
      refine wpAny_bind (wpAny_dictEntries hoo' hdo' ?_)
      rw [Array.getElem?_eq_getElem hlt]
      obtain ⟨kv, hkv⟩ : ∃ kv, more[x]? = some kv := ⟨more[x]'(by rw [hlen]; exact hlt), List.getElem?_eq_getElem _⟩
      obtain ⟨k, v⟩ := kv
      obtain ⟨hkey, hval⟩ := hpo.get? (e := eso[x]) (by simp [hlt]) hkv
      obtain ⟨k', hkey', hhash⟩ := hko eso[x] (Array.getElem_mem hlt)
      obtain rfl : k' = k := knd.inj _ _ _ hkey' hkey
      dsimp only
      rw [if_neg (by decide)]
      rw [hhash, hval]
      have hmx : (merged kvs (more.take x)).length ≤ sizeLine := by
        have e1 := merged_length_le kvs (more.take x)
        have e2 : (more.take x).length ≤ more.length := by rw [List.length_take]; omega
        omega
      refine wpAny_bind (wpAny_holding (dictPut_pairs (hsz := hmx) hkey hd' fun h'' hd'' hs'' => ?_))
      have hoo'' : h''.get? o = some oo := (hs''.2 o (Ne.symm hdo)).trans hoo'
      refine wpAny_bind (wpAny_dictEpoch hoo'' hdo' ?_)
      rw [if_neg (by simp)]
      exact wpAny_pure ⟨h'', x + 1, rfl, hrest, hlt, by rw [merged_take_succ kvs more x (k', v) hkv]; exact hd'', hoo'', hs'.trans hs''⟩
    · rintro b s' ⟨h', i, rfl, hr, hi, hd', hoo', hs'⟩
      have hin : i = eso.size := by
        rcases Nat.lt_or_ge i eso.size with h | h
        · have e : eso.size - i = (eso.size - (i + 1)) + 1 := by omega
          rw [e, List.range'_succ] at hr; exact nomatch hr
        · exact Nat.le_antisymm hi h
      refine wpAny_pure (hQ h' ?_ ⟨oo, eso, epo, hoo', hco, hdo', hko, hpo, hno⟩ hs')
      rw [hin, ← hlen, List.take_length] at hd'; exact hd'
  split
  · refine wpAny_bind (wpAny_dictEntries hoo hdo' ?_)
    have hloop : (forIn eso PUnit.unit fun e (_ : PUnit) => (match e.key with
        | Value.ref a => (do
          let l ← specialOf e.key (Str.ofString "__eq__")
          if (l != some (Value.builtin "object.__eq__")) = true then
              if (Array.filter (fun x => x.hash == e.hash) eso).size > 1 then do
                (unsupported "dict.merge-into-an-empty-dict:keys-of-equal-hash" : Sem PUnit)
                pure (ForInStep.yield PUnit.unit)
              else pure (ForInStep.yield PUnit.unit)
            else pure (ForInStep.yield PUnit.unit))
        | x => pure (ForInStep.yield PUnit.unit) : Sem (ForInStep PUnit))) = pure PUnit.unit := by
      rw [← Array.forIn_toList]
      refine forIn_yield_id _ fun e he c => ?_
      have n := nref e (Array.mem_toList_iff.mp he)
      cases q : e.key with
      | ref a => exact absurd q (n a)
      | _ => rfl
    exact wpAny_bind (wpAny_of_eq hloop loop)
  · exact loop
end
end U

set_option Elab.async false
set_option linter.all false
set_option maxRecDepth 100000
set_option maxHeartbeats 4000000
namespace U
open PySem PySem.Spec PyProof.Rows L2
open PySem.W (Frag)
section
variable {X : Cx}
def tDStar (td tk tv : TE) : TE := fun σ H Q => ∀ d, H d = none → td σ (upd H d (.dK [])) fun x H1 => ∃ a kvs, x = .ref a ∧ a ≠ d ∧ H1 a = some (.dK kvs) ∧ H1 d = some (.dK []) ∧ kvs.length ≤ 1000 ∧
  ∀ b, upd H1 d (.dK (mergeK [] kvs)) b = none → tk σ (upd (upd H1 d (.dK (mergeK [] kvs))) b (.dK [])) fun y H2 => tv σ H2 fun z H3 => ∃ kk : Key, y = kV kk ∧ H3 b = some (.dK []) ∧ H3 d = some (.dK (mergeK [] kvs)) ∧
    Q (.ref d) (upd (upd H3 b (.dK (mergeK [] [(kk, z)]))) d (.dK (mergeK (mergeK [] kvs) (mergeK [] [(kk, z)]))))
theorem pe_dstar {e k v : Expr} {td tk tv : TE} {pos : Pos} (he : PE X e td) (hk : PE X k tk) (hv : PE X v tv) : PE X (.Dict [none, some k] [e, v] pos) (tDStar td tk tv) := by
  refine ⟨fun pins s σ H Q I h => ?_⟩
  rw [arm_eval_Dict]
  refine wpAny_bind (wpAny_standAt ?_)
  show wpAny _ _ (dictDisplay [(none, (do let x ← eval e X.env; standAt pos; pure x)), (some (eval k X.env), (do let x ← eval v X.env; standAt pos; pure x))]) _ _ _
  unfold dictDisplay
  dsimp only
  simp only [List.forIn_cons, List.forIn_nil, List.isEmpty_nil, if_true, pure_bind, bind_assoc, List.nil_append, List.length_singleton]
  have hn := I.hok.fresh (Nat.le_refl s.heap.objs.size)
  have I1 := I.laid (a := s.heap.objs.size) (o := .dK []) (h' := s.heap.push { cls := .type "dict", data := .dict #[] }) (t' := s.toks) (fun _ _ q => Heap.get?_push_of_some _ q) (Nat.le_refl _) (dk_empty s.heap I.big)
  refine wpAny_bind (wpAny_alloc ?_)
  refine wpAny_bind (wpAny_holding (wpAny_bind (thn (he.run pins _ σ _ _ I1 (h _ hn)) fun u s2 hh => ?_)))
  generalize s.heap.objs.size = d at *
  obtain ⟨x, H1, I2, rx, a, kvs, rfl, ad, ea, ed, kl, next⟩ := hh
  obtain rfl : u = Value.ref a := rx
  refine wpAny_bind (wpAny_standAt (wpAny_pure ?_))
  obtain ⟨z1, sm1, vs1, r1, dd1⟩ := dk_of I2.hok ed
  cases r1
  obtain ⟨z2, sm2, vs2, r2, dd2⟩ := dk_of I2.hok ea
  have hz2 : vs2.length ≤ 1000 := by rw [← r2.length]; exact kl
  refine wpAny_bind (wpAny_onRaise (wpAny_tryCatch (wpAny_onRaise (wpAny_holding (mergeMap_pairs (knd := mixKind X.prog X.w) (Ne.symm ad) sm2 dd1 dd2 (fun h' dd' _ hs => ?_) (by rw [sizeLine_eq, List.length_nil]; omega))))))
  have lm : (mergeK [] kvs).length ≤ 1000 := by
    have h1 := length_mergeK kvs []
    rw [List.length_nil] at h1
    omega
  have ex1 : ∃ q, h'.get? d = some q := let ⟨q, _, _, hq, _⟩ := dd'; ⟨q, hq⟩
  have I3 : Inv X pins σ (upd H1 d (.dK (mergeK [] kvs))) { s2 with heap := h' } := d_write I2 (by rw [ed]; exact True.intro) hs ex1 (dk_new (by rw [sizeLine_eq]; omega) sm1 (r2.merge .nil) dd')
  rw [if_neg (by decide)]
  simp only [pure_bind, List.isEmpty_cons, Bool.false_eq_true, if_false, bind_assoc]
  have hn2 := I3.hok.fresh (Nat.le_refl h'.objs.size)
  have I4 := I3.laid (a := h'.objs.size) (o := .dK []) (h' := h'.push { cls := .type "dict", data := .dict #[] }) (t' := s2.toks) (fun _ _ q => Heap.get?_push_of_some _ q) (Nat.le_refl _) (dk_empty h' I3.big)
  refine wpAny_bind (wpAny_holding (wpAny_subDict (knd := mixKind X.prog X.w) (Nat.le_of_ble_eq_true rfl) ?_))
  have nx := next _ hn2
  refine evalPairs_cons (wpAny_mono (thn (hk.run pins _ σ _ _ I4 nx) fun ku s3 hh3 => hh3) (fun ku s3 hh3 => ?_) fun _ _ e => e)
  obtain ⟨y, H2, I5, ry, q5⟩ := hh3
  refine wpAny_bind (thn (hv.run pins _ σ _ _ I5 q5) fun vu s4 hh4 => ?_)
  obtain ⟨zv, H3, I6, rz, kk, rfl, eb, ed3, fin⟩ := hh4
  refine wpAny_bind (wpAny_standAt (wpAny_pure (evalPairs_nil ?_)))
  have rel : VV ([(kk, zv)].map fun kv => (kV kv.1, kv.2)) [(ku, vu)] := .cons ⟨ry, rz⟩ .nil
  obtain ⟨rs, c, rk⟩ := carries_of (P := X.prog) (w := X.w) rel
  generalize h'.objs.size = b at *
  obtain ⟨z5, sm5, vs5, r5, dd5⟩ := dk_of I6.hok eb
  cases r5
  refine ⟨rs, c, dd5, fun h2 dd6 hs2 => ?_⟩
  have ex2 : ∃ q, h2.get? b = some q := let ⟨q, _, _, hq, _⟩ := dd6; ⟨q, hq⟩
  have l1 : (mergeK [] [(kk, zv)]).length ≤ 1 := length_mergeK [(kk, zv)] []
  have I7 : Inv X pins σ (upd H3 b (.dK (mergeK [] [(kk, zv)]))) { s4 with heap := h2, toks := s4.toks + 1 } := d_write I6 (by rw [eb]; exact True.intro) hs2 ex2 (dk_new (by rw [sizeLine_eq]; omega) sm5 (rk.merge .nil) dd6)
  have bd : b ≠ d := fun q => by
    rw [q] at hn2
    rw [upd_same] at hn2
    cases hn2
  have ed7 : upd H3 b (.dK (mergeK [] [(kk, zv)])) d = some (.dK (mergeK [] kvs)) := by
    rw [upd_ne (Ne.symm bd)]
    exact ed3
  obtain ⟨z8, sm8, vs8, r8, dd8⟩ := dk_of I7.hok ed7
  obtain ⟨z9, sm9, vs9, r9, dd9⟩ := dk_of I7.hok (upd_same (H := H3) (a := b) (o := .dK (mergeK [] [(kk, zv)])))
  have l8 := r8.length
  have l9 := r9.length
  refine wpAny_bind (wpAny_onRaise (wpAny_holding (mergeMap_pairs (knd := mixKind X.prog X.w) (Ne.symm bd) sm9 dd8 dd9 (fun h3 dd10 _ hs3 => ?_) (by rw [sizeLine_eq]; omega))))
  have ex3 : ∃ q, h3.get? d = some q := let ⟨q, _, _, hq, _⟩ := dd10; ⟨q, hq⟩
  have lf : (mergeK (mergeK [] kvs) (mergeK [] [(kk, zv)])).length ≤ 1001 := by
    have := length_mergeK (mergeK [] [(kk, zv)]) (mergeK [] kvs)
    omega
  exact wpAny_pure ⟨.ref d, _, d_write I7 (by rw [ed7]; exact True.intro) hs3 ex3 (dk_new (by rw [sizeLine_eq]; omega) sm8 (r9.merge r8) dd10), rfl, fin⟩
end
end U

set_option Elab.async false
set_option linter.all false
set_option maxRecDepth 100000
set_option maxHeartbeats 4000000
namespace G
open PySem PySem.Spec PyProof.Rows L2 U
open PySem.W (Frag)
/-! ### chart_of -/
section
variable {P : Program} {w : World} {K : Frag} {mg : Str → Option Value} {base : Heap} {CB C fN : Addr} {fdN : FuncData}
/-- a new chart of these parts, read back from its text -/
def MadeTo (H : Hp) (C CB : Addr) (p : Parts) (Q : VK) (E : XK) : Prop := Fits p ∧ TextOk (textOf p) ∧ match readText (textOf p) with
  | .inl n => ErrTo H CB (.int n) E
  | .inr q => ∀ a H', Same H H' → H a = none → ChartIs C H' (.ref a) q → Q (.ref a) H'
def sp_chart_of (C CB : Addr) : Sp := fun vs H Q E => ∃ (v1 v2 v3 v4 : V) (p : Parts), vs = [v1, v2, v3, v4] ∧ Da H v1 (dictD ratesD p.people) ∧ Da H v2 (dictD tabsD p.labs) ∧ Da H v3 (dictD Row.d p.rows) ∧ (Da H v4 (.tuple p.facts) ∨ Da H v4 (.list p.facts)) ∧ MadeTo H C CB p Q E
theorem has_chart_of (F : Fn K mg "chart_of" s_chart_of) (TC : ChartT K mg C fN fdN) (hT : HasX P w K mg base 7 "read_text" P_read_text (sp_read_text CB)) (hX : Has P w K mg base 1 "text_of" P_text_of [] sp_text_of) : HasX P w K mg base 10 "chart_of" P_chart_of (sp_chart_of C CB) := by
  have bN : Binds K fdN P_Chart_init [] := TC.fn.bindsN fun _ _ _ _ _ _ us hl => match us, hl with | [_, _], _ => rfl
  obtain ⟨⟨fd, F⟩, g⟩ := F
  refine ⟨⟨fd, ?_, F.kp, F.bindsN fun _ _ _ _ _ _ us hl => match us, hl with | [_, _, _, _], _ => rfl⟩, g⟩
  refine F.ok sc_chart_of (fun vs H Q E h => ?_) (fun cdv A outer s H vs Q E hr h' => ?_)
  · obtain ⟨v1, v2, v3, v4, p, rfl, _⟩ := h
    rfl
  · obtain ⟨v1, v2, v3, v4, p, rfl, d1, d2, d3, d4, fit, tok, hq⟩ := h'
    have tk : Takes (cxOf (L2.CX P w) P w K mg base N_chart_of "chart_of" (defScope s_chart_of) (He.ga K "chart_of") cdv A outer s H E) (fun cls d _ H => E cls d H) := takes_of rfl rfl rfl rfl
    refine ⟨_, pss_one (ps_ret (pe_make TC.makes (ok_Chart_init TC hT) hr (by rfl) TC.g bN .nil (passes_call (E := E) tk fun _ _ _ _ h => h) (pa_cons (pe_has (hX.mono (by omega)) hr (pa_cons (pv 0) (pa_cons (pv 1) (pa_cons (pv 2) (pa_cons (pv 3) pa_nil))))) pa_nil))), ?_⟩
    refine ⟨_, rfl, _, rfl, _, rfl, _, rfl, v1, v2, v3, v4, p, rfl, d1, d2, d3, d4, fit, fun H1 s1 => ?_⟩
    intro x dx nx ndx nxd
    have s2 : Same H1 (upd (upd H1 dx (.own x)) x (.ins C dx [])) := fun b o z => by
      rw [upd_ne (ne_of_none z nx), upd_ne (ne_of_none z ndx)]
      exact z
    refine ⟨fun _ => True, x, dx, _, .str (textOf p), rfl, upd_same, .str _, tok, ?_⟩
    cases er : readText (textOf p) with
    | inl n =>
      rw [er] at hq
      exact fun H3 d s3 nd => hq H3 d (fun b o z => s3 _ _ (s2 _ _ (s1 _ _ z))) nd
    | inr q =>
      rw [er] at hq
      intro H3 sb ch
      exact ⟨rfl, hq x H3 (fun b o z => sb b o (ne_of_none (s1 _ _ z) nx) (s2 _ _ (s1 _ _ z))) (none_of_same s1 nx) ch⟩
end
end G

set_option Elab.async false
set_option linter.all false
set_option maxRecDepth 100000
set_option maxHeartbeats 4000000
namespace G
open PySem PySem.Spec PyProof.Rows L2 U
open PySem.W (Frag)
/-! ### Chart.put -/
def putWords : PyData → List Str
  | .str t => if (10 : Nat) ∈ t.cps.toList then [""] else wordsOf t
  | _ => [""]
def putTold (p : Parts) (ws : List Str) : Option Row := if ws[0]? = some ("result" : Str) then resultIn p.people p.labs ws else none
/-- .inl true: BadLine; .inl false: Full -/
def putOut (p : Parts) (ws : List Str) : Sum Bool (Str × Row) := match putTold p ws, ws[1]? with
  | some r, some n => if n ∈ p.rows.map (·.1) then .inl true else if p.rows.length = 24 then .inl false else .inr (n, r)
  | _, _ => .inl true
theorem mergeK_new : ∀ {more kvs : List (Key × V)}, (more.map (·.1)).Nodup → (∀ x ∈ more.map (·.1), x ∉ kvs.map (·.1)) → mergeK kvs more = kvs ++ more
  | [], kvs, _, _ => (List.append_nil _).symm
  | (k, v) :: more, kvs, nd, ni => by
    have nd' := List.nodup_cons.mp nd
    have h0 : k ∉ kvs.map (·.1) := ni k List.mem_cons_self
    have e : putK kvs k v = kvs ++ [(k, v)] := putK_new v (by
      cases q : valV kvs k with
      | none => rfl
      | some u =>
        unfold valV at q
        rw [Option.map_eq_some_iff] at q
        obtain ⟨kv, h1, _⟩ := q
        have m := List.mem_of_find?_eq_some h1
        have this : kv.1 = k := by simpa using List.find?_some h1
        exact absurd (List.mem_map.mpr ⟨kv, m, this⟩) h0)
    show mergeK (putK kvs k v) more = _
    rw [e, mergeK_new nd'.2 (fun x hx => ?_), List.append_assoc]
    · rfl
    · rw [List.map_append, List.mem_append]
      rintro (z | z)
      · exact ni x (List.mem_cons_of_mem _ hx) z
      · have : x = k := by simpa using z
        exact nd'.1 (this ▸ hx)
theorem MadeTo.up {H H' : Hp} {C CB : Addr} {p : Parts} {Q : VK} {E : XK} (h : MadeTo H C CB p Q E) (s : Same H H') : MadeTo H' C CB p Q E := by
  obtain ⟨h1, h2, h3⟩ := h
  refine ⟨h1, h2, ?_⟩
  cases er : readText (textOf p) with
  | inl n =>
    rw [er] at h3
    exact ErrTo.up h3 s
  | inr q =>
    rw [er] at h3
    exact fun a H1 s1 na ch => h3 a H1 (fun b o z => s1 _ _ (s _ _ z)) (none_of_same s na) ch
theorem feed_is : sFeed = (⟨#[10]⟩ : Str) := by decide +kernel
theorem words_eval {σ : L2.St} {H : Hp} {k : VK} {F : Addr → Prop} {lv : V} {d : PyData} (h1 : σ[1]? = some (some lv)) (hd : Dq F H lv d) (hl : ∀ t, d = .str t → t.length ≤ 600) (hk : ∀ q, H q = none → k (.ref q) (upd H q (.lst ((putWords d).map V.str)))) :
    tIf (tAnd (tB (tCB rIsiD (tCons (tVar 1) (tCons (tC (V.ty "str")) tNil)))) (tTest (tOp (fun x y H Q => ∃ c z, x = V.str { cps := #[c] } ∧ y = V.str z ∧ Q (V.bl !decide (c ∈ z.cps.toList)) H) (tC (V.str sFeed)) (tVar 1))))
      (tM1 (fun x xs H Q => ∃ a b, x = V.str a ∧ xs = [V.str b] ∧ (b.length == 0) = false ∧ a.length + 2 ≤ sizeLine ∧ rNewStrs (Txt.split a b) H Q) (tVar 1) (tC (V.str sBlank))) (tLst (tCons (tC (V.str (Str.ofString ""))) tNil)) σ H k := by
  obtain ⟨b, hb, hn, hy⟩ := kit_str d
  refine ⟨_, h1, F, lv, d, "str", b, rfl, hd, hb, b, rfl, ?_⟩
  cases b with
  | false =>
    refine iteF ?_
    refine iteF ?_
    have e : putWords d = ([""] : List Str) := by
      cases d with
      | str t => exact absurd (hb.symm.trans (show kitB "str" "str" = some true by decide +kernel)) (by decide)
      | _ => rfl
    rw [e] at hk
    exact ⟨Nat.le_trans (by show 1 ≤ 1000; omega) sizeLine_ge, fun q nq => hk q nq⟩
  | true =>
    obtain ⟨t, rfl⟩ := hy rfl
    cases hd
    refine iteT ?_
    refine ⟨_, h1, 10, t, by rw [feed_is], rfl, _, rfl, ?_⟩
    have e : putWords (.str t) = if (10 : Nat) ∈ t.cps.toList then ([""] : List Str) else wordsOf t := rfl
    by_cases hf : (10 : Nat) ∈ t.cps.toList
    · rw [decide_eq_true hf]
      refine iteF ?_
      rw [e, if_pos hf] at hk
      exact ⟨Nat.le_trans (by show 1 ≤ 1000; omega) sizeLine_ge, fun q nq => hk q nq⟩
    · rw [decide_eq_false hf]
      refine iteT ?_
      rw [e, if_neg hf] at hk
      have := hl t rfl
      exact ⟨_, h1, ⟨_, rfl⟩, t, sBlank, rfl, rfl, (by decide +kernel), by rw [sizeLine_eq]; omega, fun q nq => hk q nq⟩
theorem putWords_ok {d : PyData} (hl : ∀ t, d = .str t → t.length ≤ 600) : Wds (putWords d) ∧ 1 ≤ (putWords d).length := by
  have one : Wds ([""] : List Str) ∧ 1 ≤ ([""] : List Str).length := ⟨⟨by decide, fun x hx => by rw [List.mem_singleton.mp hx]; decide +kernel⟩, by decide⟩
  cases d with
  | str t =>
    show Wds (if (10 : Nat) ∈ t.cps.toList then ([""] : List Str) else wordsOf t) ∧ 1 ≤ (if (10 : Nat) ∈ t.cps.toList then ([""] : List Str) else wordsOf t).length
    split
    · exact one
    · exact words_ok (hl t rfl)
  | _ => exact one
theorem res_two {ps : People} {ls : Labs} {ws : List Str} {r : Row} (h : resultIn ps ls ws = some r) : ∃ n, ws[1]? = some n := by
  unfold resultIn at h
  split at h
  · exact ⟨_, rfl⟩
  · cases h
theorem has_key {kvs : List (Key × V)} {xs : List Str} {n : Str} (h : kvs.map (·.1) = xs.map Sum.inr) : (valV kvs (Sum.inr n)).isSome = decide (n ∈ xs) := by
  rw [← valV_any]
  by_cases hn : n ∈ xs
  · rw [decide_eq_true hn]
    have m : (Sum.inr n : Key) ∈ kvs.map (·.1) := by
      rw [h]
      exact List.mem_map.mpr ⟨n, hn, rfl⟩
    obtain ⟨kv, h1, h2⟩ := List.mem_map.mp m
    exact List.any_eq_true.mpr ⟨kv, h1, decide_eq_true h2⟩
  · rw [decide_eq_false hn]
    refine Bool.eq_false_iff.mpr fun z => hn ?_
    obtain ⟨kv, h1, h2⟩ := List.any_eq_true.mp z
    have m : (Sum.inr n : Key) ∈ xs.map Sum.inr := by
      rw [← h]
      exact List.mem_map.mpr ⟨kv, h1, of_decide_eq_true h2⟩
    obtain ⟨y, hy, e⟩ := List.mem_map.mp m
    cases e
    exact hy
section
variable {P : Program} {w : World} {K : Frag} {mg : Str → Option Value} {base : Heap} {CB CL CF C fN f D fI : Addr} {fdN fd : FuncData}
def sp_put (C CB CL CF : Addr) : Sp := fun vs H Q E => ∃ (F : Addr → Prop) (v lv : V) (p : Parts) (d : PyData), vs = [v, lv] ∧ ChartIs C H v p ∧ LabsOk p.labs ∧ Dq F H lv d ∧ (∀ t, d = .str t → t.length ≤ 600) ∧ (p.rows.map (·.1)).Nodup ∧ p.rows.length ≤ 24 ∧
  match putOut p (putWords d) with
    | .inl true => ErrTo H CL lv E
    | .inl false => ErrTo H CF (.int 24) E
    | .inr (n, r) => MadeTo H C CB { p with rows := p.rows ++ [(n, r)] } Q E
theorem ok_put (F : FunD K "put" "Chart.put" (defArgs s_Chart_put) (defBody s_Chart_put) (defScope s_Chart_put) [] [] f fd) (TC : ChartT K mg C fN fdN) (T : InitTxt P K D fI) (TL : ErrC K D fI CL) (mL : mg "BadLine" = some (.ref CL)) (TF : ErrC K D fI CF) (mF : mg "Full" = some (.ref CF))
    (hCO : HasX P w K mg base 10 "chart_of" P_chart_of (sp_chart_of C CB)) (hRI : Has P w K mg base 4 "result_in" P_result_in [] (sp_result_in K)) (gI : mg "isinstance" = none) (gS : mg "str" = none) (gL : mg "len" = none) (cF : CS mg "FEED" sFeed) (cB : CS mg "BLANK" sBlank) (cR : CS mg "RESULT" "result") (cM : CD K w mg "MOST_charts" "result" (.int 24)) :
    FnOk P w K mg base (L2.CX P w) 11 f fd P_Chart_put (sp_put C CB CL CF) := by
  obtain ⟨aM, mM, kM⟩ := cM
  refine F.ok sc_Chart_put (fun vs H Q E h => ?_) (fun cdv A outer s H vs Q E hr h' => ?_)
  · obtain ⟨F, v, lv, p, d, rfl, _⟩ := h
    rfl
  · obtain ⟨F, v, lv, p, d, rfl, hc, lok, hd, hl, nd, few, hq⟩ := h'
    have tk : Takes (cxOf (L2.CX P w) P w K mg base N_Chart_put "Chart.put" (defScope s_Chart_put) f cdv A outer s H E) (fun cls d _ H => E cls d H) := takes_of rfl rfl rfl rfl
    refine ⟨_, pss_cons (ps_set (i := 2) sc_Chart_put.nd rfl (Or.inl rfl) (pe_ifExp (PW.pt (pw_and (pt_val (pe_callB call_isiD (by rfl) gI (by decide +kernel) (pa_cons (pv 1) (pa_cons (pe_bltn (by rfl) gS (v := .ty "str") (u := .type "str") (by decide +kernel) rfl) pa_nil)))) (pw_and1 (pt_cmpR op_notIn_sign (pe_cs cF) (pv 1) (by rfl))))) (pe_split (pv 1) (pe_cs cB)) (pe_lst (pa_cons pe_str pa_nil))))
      (pss_cons (ps_set (i := 3) sc_Chart_put.nd rfl (Or.inl rfl) (pe_ifExp (pt_cmpR op_eq (pe_ix ix_list (pv 2) pe_int (fun _ _ => rfl)) (pe_cs cR) (nomark _)) (pe_has (hRI.mono (by omega)) hr (pa_cons (pe_fld (pv 0) rfl) (pa_cons (pe_fld (pv 0) rfl) (pa_cons (pv 2) pa_nil)))) pe_non))
      (pss_cons (ps_if (PW.pt (pw_or (pt_cmp (pc_isN (pv 3)) rfl) (pw_or1 (pt_cmp (pc_din (hu_of hr) (pe_ix ix_list (pv 2) pe_int (fun _ _ => rfl)) (pe_fld (pv 0) rfl)) rfl)))) (pss_one (ps_raiseErr rfl tk T TL hr mL (pv 1))) pss_nil)
      (pss_cons (ps_if (pt_cmpR op_eq (pe_callB call_lenD (by rfl) gL PySem.boot_len (pa_cons (pe_fld (pv 0) rfl) pa_nil)) (pe_ix ix_kdict (pe_glob (by rfl) mM (v := .ref aM) rfl) (pe_cs cR) (fun _ _ => rfl)) (nomark _)) (pss_one (ps_raiseErr rfl tk T TF hr mF (pe_ix ix_kdict (pe_glob (by rfl) mM (v := .ref aM) rfl) (pe_cs cR) (fun _ _ => rfl)))) pss_nil)
      (pss_one (ps_ret (pe_hasX (E := E) hCO hr (passes_call tk fun _ _ _ _ h => h) (pa_cons (pe_fld (pv 0) rfl) (pa_cons (pe_fld (pv 0) rfl) (pa_cons (pe_dstar (pe_fld (pv 0) rfl) (pe_ix ix_list (pv 2) pe_int (fun _ _ => rfl)) (pv 3)) (pa_cons (pe_fld (pv 0) rfl) pa_nil)))))))))), ?_⟩
    obtain ⟨a, dx, v1, v2, v3, v4, rfl, ea, d1, d2, d3, d4⟩ := hc
    obtain ⟨wd, w1⟩ := putWords_ok hl
    refine words_eval rfl hd hl fun q nq => ?_
    generalize hws : putWords d = ws at *
    have s1 := same_new (o := .lst (ws.map V.str)) nq
    have eq : upd H q (.lst (ws.map V.str)) q = some (.lst (ws.map V.str)) := upd_same
    generalize hH1 : upd H q (.lst (ws.map V.str)) = H1 at *
    obtain ⟨w0, e0⟩ : ∃ w0, ws[0]? = some w0 := ⟨_, List.getElem?_eq_getElem (by omega)⟩
    have a0 : atI (ws.map V.str) 0 = some (.str w0) := atI_nat (j := 0) (by rw [List.getElem?_map, e0]; rfl)
    have bad : putOut p ws = .inl true → ∀ (H2 : Hp), Same H H2 → ∀ d, H2 d = none → E (.ref CL) (some d) (upd H2 d (xdV lv)) := fun e H2 s2 d nd => by
      rw [e] at hq
      exact hq H2 d s2 nd
    refine ⟨_, rfl, q, _, 0, _, rfl, rfl, SqL.of eq, a0, rfl, _, rfl, ?_⟩
    by_cases hw0 : w0 = "result"
    · subst hw0
      rw [show decide (V.str "result" = V.str "result") = true from decide_eq_true rfl]
      refine iteT ?_
      have ea1 := s1 _ _ ea
      refine ⟨_, rfl, a, C, dx, _, _, rfl, ea1, TC.cls, TC.n1, look1 _ _ _ _, ?_⟩
      refine ⟨_, rfl, a, C, dx, _, _, rfl, ea1, TC.cls, TC.n2, look2 _ _ _ _, ?_⟩
      refine ⟨_, rfl, _, _, v1, v2, q, p.people, p.labs, ws, rfl, d1.same s1, d2.same s1, lok, SqL.of eq, wd, fun v H2 s2 dq => ?_⟩
      have sA : Same H H2 := fun b o z => s2 _ _ (s1 _ _ z)
      have et : putTold p ws = resultIn p.people p.labs ws := by
        unfold putTold
        rw [e0]
        exact if_pos rfl
      cases hr' : resultIn p.people p.labs ws with
      | none =>
        rw [hr'] at dq
        cases dq
        have eo : putOut p ws = .inl true := by
          unfold putOut
          rw [et, hr']
        refine ⟨_, rfl, _, rfl, ?_⟩
        refine iteT ?_
        refine iteT ?_
        exact ⟨_, rfl, fun dd ndd => bad eo _ sA dd ndd⟩
      | some r =>
      rw [hr'] at dq
      obtain ⟨n, hn⟩ := res_two hr'
      obtain ⟨c, rfl⟩ : ∃ c, v = .ref c := by
        cases dq with
        | tup => exact ⟨_, rfl⟩
      refine ⟨_, rfl, _, rfl, ?_⟩
      rw [show decide (V.ref c = V.non) = false from decide_eq_false fun z => by cases z]
      refine iteF ?_
      have an : atI (ws.map V.str) 1 = some (.str n) := atI_nat (j := 1) (by rw [List.getElem?_map, hn]; rfl)
      have eq2 := s2 _ _ eq
      have ea2 := sA _ _ ea
      obtain ⟨ar, kvs, rfl, _, er, hkk, al⟩ := dk_inv d3
      rw [List.map_map] at hkk al
      have ks := keys_str (f := fun x : Str × Row => x.1) hkk
      have er2 := sA _ _ er
      have lk : kvs.length = p.rows.length := by
        have := congrArg List.length ks
        simpa using this
      refine ⟨_, rfl, q, _, 1, _, rfl, rfl, SqL.of eq2, an, ?_⟩
      refine ⟨_, rfl, a, C, dx, _, _, rfl, ea2, TC.cls, TC.n3, look3 _ _ _ _, ?_⟩
      refine ⟨ar, _, rfl, DGet.k (k := Sum.inr n) er2, _, rfl, ?_⟩
      rw [has_key ks]
      have eo : putOut p ws = if n ∈ p.rows.map (·.1) then .inl true else if p.rows.length = 24 then .inl false else .inr (n, r) := by
        unfold putOut
        rw [et, hr', hn]
      refine dec_if (fun hin => ?_) (fun hin => ?_)
      · rw [if_pos hin] at eo
        exact ⟨_, rfl, fun dd ndd => bad eo _ sA dd ndd⟩
      rw [if_neg hin] at eo
      refine ⟨_, rfl, a, C, dx, _, _, rfl, ea2, TC.cls, TC.n3, look3 _ _ _ _, ar, kvs, rfl, er2, ?_⟩
      refine ⟨aM, "result", .int 24, rfl, rfl, kM, rfl, _, rfl, ?_⟩
      by_cases h24 : p.rows.length = 24
      · rw [show decide (V.int (kvs.length : Int) = V.int 24) = true from decide_eq_true (by rw [lk, h24]; rfl)]
        refine iteT ?_
        rw [if_pos h24] at eo
        rw [eo] at hq
        exact ⟨aM, "result", .int 24, rfl, rfl, kM, fun dd ndd => hq _ dd sA ndd⟩
      rw [show decide (V.int (kvs.length : Int) = V.int 24) = false from decide_eq_false fun z => h24 (by
        have e := V.int.inj z
        omega)]
      refine iteF ?_
      rw [if_neg h24] at eo
      rw [eo] at hq
      refine ⟨_, rfl, a, C, dx, _, _, rfl, ea2, TC.cls, TC.n1, look1 _ _ _ _, ?_⟩
      refine ⟨_, rfl, a, C, dx, _, _, rfl, ea2, TC.cls, TC.n2, look2 _ _ _ _, ?_⟩
      refine fun dd ndd => ?_
      have u1 : Same H2 (upd H2 dd (.dK [])) := same_new ndd
      refine ⟨_, rfl, a, C, dx, _, _, rfl, u1 _ _ ea2, TC.cls, TC.n3, look3 _ _ _ _, ?_⟩
      have ard : ar ≠ dd := ne_of_none er2 ndd
      have knd : (kvs.map (·.1)).Nodup := by
        rw [ks]
        exact List.Pairwise.map _ (fun x y (h : x ≠ y) z => h (Sum.inr.inj z)) nd
      have em : mergeK [] kvs = kvs := mergeK_new knd fun x _ z => by cases z
      refine ⟨ar, kvs, rfl, ard, u1 _ _ er2, upd_same, by omega, fun b nb => ?_⟩
      rw [em] at nb ⊢
      have bd : b ≠ dd := fun z => by
        rw [z, upd_same] at nb
        cases nb
      have u2 : Same H2 (upd (upd (upd H2 dd (.dK [])) dd (.dK kvs)) b (.dK [])) := fun x o z => by
        rw [upd_ne (fun y => ?_), upd_ne (ne_of_none z ndd)]
        · exact u1 _ _ z
        · rw [upd_ne bd] at nb
          rw [y] at z
          rw [u1 _ _ z] at nb
          cases nb
      refine ⟨_, rfl, q, _, 1, _, rfl, rfl, SqL.of (u2 _ _ eq2), an, _, rfl, Sum.inr n, rfl, upd_same, by rw [upd_ne (Ne.symm bd), upd_same], ?_⟩
      have e1 : mergeK [] [((Sum.inr n : Key), V.ref c)] = [(Sum.inr n, .ref c)] := rfl
      have nin : (Sum.inr n : Key) ∉ kvs.map (·.1) := fun z => by
        rw [ks] at z
        obtain ⟨y, hy, e⟩ := List.mem_map.mp z
        cases e
        exact hin hy
      have e2 : mergeK kvs [((Sum.inr n : Key), V.ref c)] = kvs ++ [(Sum.inr n, .ref c)] := mergeK_new (by simp) fun x hx => by
        rw [show x = Sum.inr n from by simpa using hx]
        exact nin
      rw [e1, e2]
      generalize hHf : upd (upd (upd (upd (upd H2 dd (.dK [])) dd (.dK kvs)) b (.dK [])) b (.dK [(Sum.inr n, V.ref c)])) dd (.dK (kvs ++ [(Sum.inr n, V.ref c)])) = Hf at *
      have edf : Hf dd = some (.dK (kvs ++ [(Sum.inr n, V.ref c)])) := by
        rw [← hHf, upd_same]
      have nb2 : H2 b = none := by
        rw [upd_ne bd, upd_ne bd] at nb
        exact nb
      have sF : Same H2 Hf := fun x o z => by
        have xd := ne_of_none z ndd
        have xb := ne_of_none z nb2
        rw [← hHf, upd_ne xd, upd_ne xb, upd_ne xb, upd_ne xd, upd_ne xd]
        exact z
      have sG : Same H Hf := fun x o z => sF _ _ (sA _ _ z)
      refine ⟨_, rfl, a, C, dx, _, _, rfl, sF _ _ ea2, TC.cls, TC.n4, look4 _ _ _ _, ?_⟩
      refine ⟨v1, v2, .ref dd, v4, { p with rows := p.rows ++ [(n, r)] }, rfl, d1.same sG, d2.same sG, ?_, .inl (d4.same sG), MadeTo.up hq sG⟩
      refine dk_mk True.intro edf ?_ ?_
      · show ((kvs ++ [((Sum.inr n : Key), V.ref c)]).map fun kv : Key × V => kD kv.1) = ((p.rows ++ [(n, r)]).map fun x => (PyData.str x.1, Row.d x.2)).map (·.1)
        rw [List.map_append, List.map_append, List.map_append, List.map_map]
        exact congrArg (· ++ [PyData.str n]) hkk
      · show DqAll _ Hf ((kvs ++ [((Sum.inr n : Key), V.ref c)]).map fun kv : Key × V => kv.2) (((p.rows ++ [(n, r)]).map fun x => (PyData.str x.1, Row.d x.2)).map (·.2))
        rw [List.map_append, List.map_append, List.map_append, List.map_map]
        exact DqAll.app (al.move (fun _ _ => True.intro) fun b o _ z => sG _ _ z) (.cons (dq.move (fun _ _ => True.intro) fun b o _ z => sF _ _ z) .nil)
    · have e : decide (V.str w0 = V.str "result") = false := decide_eq_false fun z => hw0 (V.str.inj z)
      rw [e]
      refine iteF ?_
      have et : putTold p ws = none := by
        unfold putTold
        rw [e0]
        exact if_neg fun z => hw0 (Option.some.inj z)
      have eo : putOut p ws = .inl true := by
        unfold putOut
        rw [et]
      refine ⟨_, rfl, _, rfl, ?_⟩
      refine iteT ?_
      refine iteT ?_
      exact ⟨_, rfl, fun dd ndd => bad eo _ s1 dd ndd⟩
end
end G

set_option Elab.async false
set_option linter.all false
set_option maxRecDepth 100000
set_option maxHeartbeats 4000000
namespace G
open PySem PySem.Spec PyProof.Rows L2 U
open PySem.W (Frag)
/-! ### check_result, Chart.__getitem__, Chart.__len__ -/
section
variable {P : Program} {w : World} {K : Frag} {mg : Str → Option Value} {base : Heap} {CB CR C fN f D fI : Addr} {fdN fd : FuncData}
def sp_check_result (C CR : Addr) : Sp := fun vs H Q E => ∃ (F : Addr → Prop) (v rv : V) (p : Parts) (d : PyData), vs = [v, rv] ∧ ChartIs C H v p ∧ Dq F H rv d ∧ if isWordD d (p.rows.map (·.1)) = true then Q .non H else ErrTo H CR rv E
theorem rows_words {H : Hp} {v : V} {rows : Rows} (h : Da H v (dictD Row.d rows)) : ∃ ar kvs, v = .ref ar ∧ H ar = some (.dK kvs) ∧ kvs.map (·.1) = (rows.map (·.1)).map Sum.inr ∧ DqAll (fun _ => True) H (kvs.map (·.2)) (rows.map fun x => Row.d x.2) := by
  obtain ⟨ar, kvs, rfl, _, er, hkk, al⟩ := dk_inv h
  rw [List.map_map] at hkk al
  have ks := keys_str (f := fun x : Str × Row => x.1) hkk
  exact ⟨ar, kvs, rfl, er, ks, al⟩
theorem has_check_result (F : Fn K mg "check_result" s_check_result) (TC : ChartT K mg C fN fdN) (hW : Has P w K mg base 1 "is_word" P_is_word [] (sp_is_word K)) (T : InitTxt P K D fI) (TR : ErrC K D fI CR) (mR : mg "NoResult" = some (.ref CR)) : HasX P w K mg base 2 "check_result" P_check_result (sp_check_result C CR) := by
  obtain ⟨⟨fd, F⟩, g⟩ := F
  refine ⟨⟨fd, ?_, F.kp, F.bindsN fun _ _ _ _ _ _ us hl => match us, hl with | [_, _], _ => rfl⟩, g⟩
  refine F.ok sc_check_result (fun vs H Q E h => ?_) (fun cdv A outer s H vs Q E hr h' => ?_)
  · obtain ⟨F, v, rv, p, d, rfl, _⟩ := h
    rfl
  · obtain ⟨F, v, rv, p, d, rfl, hc, hd, hq⟩ := h'
    have tk : Takes (cxOf (L2.CX P w) P w K mg base N_check_result "check_result" (defScope s_check_result) (He.ga K "check_result") cdv A outer s H E) (fun cls d _ H => E cls d H) := takes_of rfl rfl rfl rfl
    refine ⟨_, pss_one (ps_if (pt_not (pt_val (pe_has hW hr (pa_cons (pv 1) (pa_cons (pe_fld (pv 0) rfl) pa_nil))))) (pss_one (ps_raiseErr rfl tk T TR hr mR (pv 1))) pss_nil), ?_⟩
    obtain ⟨a, dx, v1, v2, v3, v4, rfl, ea, d1, d2, d3, d4⟩ := hc
    obtain ⟨ar, kvs, rfl, er, ks, al⟩ := rows_words d3
    refine ⟨_, rfl, _, rfl, a, C, dx, _, _, rfl, ea, TC.cls, TC.n3, look3 _ _ _ _, F, rv, d, ar, p.rows.map (·.1), rfl, hd, .inr ⟨kvs, er, ks⟩, ?_⟩
    refine ⟨_, rfl, ?_⟩
    cases hb : isWordD d (p.rows.map (·.1)) with
    | true =>
      rw [hb, if_pos rfl] at hq
      refine iteF ?_
      exact hq
    | false =>
      rw [hb, if_neg (by decide)] at hq
      refine iteT ?_
      exact ⟨_, rfl, fun dd ndd => hq H dd (Same.refl H) ndd⟩
def rowAt (rows : Rows) (n : Str) : Option Row := (rows.find? fun x => decide (x.1 = n)).map (·.2)
def sp_getitem (C CR : Addr) : Sp := fun vs H Q E => ∃ (F : Addr → Prop) (v rv : V) (p : Parts) (d : PyData), vs = [v, rv] ∧ ChartIs C H v p ∧ Dq F H rv d ∧ match d with
  | .str n => (match rowAt p.rows n with
    | some r => ∀ u, Da H u r.d → Q u H
    | none => ErrTo H CR rv E)
  | _ => ErrTo H CR rv E
def sp_len (C : Addr) : Sp := fun vs H Q _ => ∃ (v : V) (p : Parts), vs = [v] ∧ ChartIs C H v p ∧ Q (.int p.rows.length) H
theorem ok_len (F : FunD K "__len__" "Chart.__len__" (defArgs s_Chart_len) (defBody s_Chart_len) (defScope s_Chart_len) [] [] f fd) (TC : ChartT K mg C fN fdN) (gL : mg "len" = none) : FnOk P w K mg base CX0 1 f fd P_Chart_len (sp_len C) := by
  refine F.ok sc_Chart_len (fun vs H Q E h => ?_) (fun cdv A outer s H vs Q E hr h' => ?_)
  · obtain ⟨v, p, rfl, _⟩ := h
    rfl
  · obtain ⟨v, p, rfl, hc, hq⟩ := h'
    refine ⟨_, PSs.nox (pss_one (ps_ret (pe_callB call_lenD (by rfl) gL PySem.boot_len (pa_cons (pe_fld (pv 0) rfl) pa_nil)))), ?_⟩
    obtain ⟨a, dx, v1, v2, v3, v4, rfl, ea, d1, d2, d3, d4⟩ := hc
    obtain ⟨ar, kvs, rfl, er, ks, al⟩ := rows_words d3
    have lk : kvs.length = p.rows.length := by
      have := congrArg List.length ks
      simpa using this
    refine ⟨_, rfl, a, C, dx, _, _, rfl, ea, TC.cls, TC.n3, look3 _ _ _ _, ar, kvs, rfl, er, ?_⟩
    rw [lk]
    exact hq
end
end G

set_option Elab.async false
set_option linter.all false
set_option maxRecDepth 100000
set_option maxHeartbeats 4000000
namespace G
open PySem PySem.Spec PyProof.Rows L2 U
open PySem.W (Frag)
/-! ### Chart.__getitem__, Chart.__eq__ -/
theorem row_get {H : Hp} {n : Str} : ∀ {rows : Rows} {kvs : List (Key × V)}, kvs.map (·.1) = (rows.map (·.1)).map Sum.inr → DqAll (fun _ => True) H (kvs.map (·.2)) (rows.map fun x => Row.d x.2) → ∀ {r : Row}, rowAt rows n = some r → ∃ u, valV kvs (Sum.inr n) = some u ∧ Da H u r.d
  | [], kvs, _, _, r, h => by cases h
  | (m, x) :: rows, [], h, _, _, _ => by cases h
  | (m, x) :: rows, (k, v) :: kvs, h, al, r, hr => by
    obtain ⟨h1, h2⟩ := List.cons.inj h
    have h1 : k = Sum.inr m := h1
    cases al with
    | cons q al =>
    by_cases hm : m = n
    · subst hm
      have e : rowAt ((m, x) :: rows) m = some x := by
        unfold rowAt
        simp
      rw [e] at hr
      cases hr
      exact ⟨v, valV_pos h1, q⟩
    · have e : rowAt ((m, x) :: rows) n = rowAt rows n := by
        unfold rowAt
        simp [hm]
      rw [e] at hr
      obtain ⟨u, h3, h4⟩ := row_get h2 al hr
      exact ⟨u, by rw [valV_neg (fun z => hm (Sum.inr.inj (h1.symm.trans z)))]; exact h3, h4⟩
theorem row_word {rows : Rows} {n : Str} : isWordD (.str n) (rows.map (·.1)) = (rowAt rows n).isSome := by
  unfold isWordD rowAt
  rw [Option.isSome_map]
  induction rows with
  | nil => rfl
  | cons x rows ih =>
    rw [List.map_cons]
    by_cases h : x.1 = n
    · simp [h]
    · have : ¬ n = x.1 := fun z => h z.symm
      simp only [List.find?_cons, h, decide_false, List.mem_cons, this, false_or]
      exact ih
structure IsCh (K : Frag) (C : Addr) : Prop where
  ha : PySem.W.findIn K (.ref C) "__class__" = some (some (.builtin "object.__class__"))
  hn : PySem.W.specialIn K (.builtin "object.__class__") "__get__" = some (some (.builtin "getset_descriptor.__get__"))
  htk : PySem.W.takesIn K (.builtin "object.__class__") = some true
  hm : PySem.W.mroIn K C (.type "object") = some true
  kit : PySem.W.kitOne K (.ref C) (.ref C) = some true
section
variable {P : Program} {w : World} {K : Frag} {mg : Str → Option Value} {base : Heap} {CB CR C fN f g D fI : Addr} {fdN fd fdg : FuncData}
theorem ok_getitem (F : FunD K "__getitem__" "Chart.__getitem__" (defArgs s_Chart_getitem) (defBody s_Chart_getitem) (defScope s_Chart_getitem) [] [] f fd) (TC : ChartT K mg C fN fdN) (hC : HasX P w K mg base 2 "check_result" P_check_result (sp_check_result C CR)) : FnOk P w K mg base (L2.CX P w) 3 f fd P_Chart_getitem (sp_getitem C CR) := by
  refine F.ok sc_Chart_getitem (fun vs H Q E h => ?_) (fun cdv A outer s H vs Q E hr h' => ?_)
  · obtain ⟨F, v, rv, p, d, rfl, _⟩ := h
    rfl
  · obtain ⟨F, v, rv, p, d, rfl, hc, hd, hq⟩ := h'
    have tk : Takes (cxOf (L2.CX P w) P w K mg base N_Chart_getitem "Chart.__getitem__" (defScope s_Chart_getitem) f cdv A outer s H E) (fun cls d _ H => E cls d H) := takes_of rfl rfl rfl rfl
    refine ⟨_, pss_cons (ps_expr (pe_hasX (E := E) hC hr (passes_call tk fun _ _ _ _ h => h) (pa_cons (pv 0) (pa_cons (pv 1) pa_nil)))) (pss_one (ps_ret (pe_dget (hu_of hr) (pe_fld (pv 0) rfl) (pv 1) (fun _ _ => rfl)))), ?_⟩
    have no : isWordD d (p.rows.map (·.1)) = false → ErrTo H CR rv E := fun z => by
      cases d with
      | str n =>
        rw [row_word] at z
        cases er : rowAt p.rows n with
        | none =>
          dsimp only at hq
          rw [er] at hq
          exact hq
        | some r =>
          rw [er] at z
          cases z
      | _ => exact hq
    refine ⟨_, rfl, _, rfl, F, v, rv, p, d, rfl, hc, hd, ?_⟩
    cases hb : isWordD d (p.rows.map (·.1)) with
    | false =>
      rw [if_neg (by decide)]
      exact no hb
    | true =>
      rw [if_pos rfl]
      obtain ⟨a, dx, v1, v2, v3, v4, rfl, ea, d1, d2, d3, d4⟩ := hc
      obtain ⟨ar, kvs, rfl, er, ks, al⟩ := rows_words d3
      cases d with
      | str n =>
        cases hd
        rw [row_word] at hb
        cases e : rowAt p.rows n with
        | none =>
          rw [e] at hb
          cases hb
        | some r =>
          dsimp only at hq
          rw [e] at hq
          obtain ⟨u, h3, h4⟩ := row_get ks al e
          refine ⟨_, rfl, a, C, dx, _, _, rfl, ea, TC.cls, TC.n3, look3 _ _ _ _, _, rfl, ar, u, rfl, ?_, hq u h4⟩
          rw [← h3]
          exact DGet.k (k := Sum.inr n) er
      | _ => cases hb
def sp_eq (C : Addr) : Sp := fun vs H Q _ => ∃ (v u : V) (p q : Parts), vs = [v, u] ∧ ChartIs C H v p ∧ ChartIs C H u q ∧ Fits p ∧ Fits q ∧ RetS H (.bl (decide (textOf p = textOf q))) Q
theorem ok_eq (F : FunD K "__eq__" "Chart.__eq__" (defArgs s_Chart_eq) (defBody s_Chart_eq) (defScope s_Chart_eq) [] [] f fd) (TC : ChartT K mg C fN fdN) (TT : TextT K C g fdg) (IC : IsCh K C) (hX : Has P w K mg base 1 "text_of" P_text_of [] sp_text_of) (gI : mg "isinstance" = none) : FnOk P w K mg base CX0 4 f fd P_Chart_eq (sp_eq C) := by
  have bg : Binds K fdg P_Chart_text [] := TT.fn.bindsN fun _ _ _ _ _ _ us hl => match us, hl with | [_], _ => rfl
  obtain ⟨pp, hp⟩ := TT.prop
  refine F.ok sc_Chart_eq (fun vs H Q E h => ?_) (fun cdv A outer s H vs Q E hr h' => ?_)
  · obtain ⟨v, u, p, q, rfl, _⟩ := h
    rfl
  · obtain ⟨v, u, p, q, rfl, hc, hc2, fp, fq, hq⟩ := h'
    refine ⟨_, PSs.nox (pss_one (ps_ret (pe_and (pe_callB call_isi (by rfl) gI (by decide +kernel) (pa_cons (pv 1) (pa_cons (pe_glob (by rfl) TC.g (v := .ref C) rfl) pa_nil)))
      (pe_one (pe_cmpR op_eq (pe_prop (pv 0) TC.cls hp (ok_Chart_text TC TT hX) hr bg .nil pass0 rfl) (pe_prop (pv 1) TC.cls hp (ok_Chart_text TC TT hX) hr bg .nil pass0 rfl) (nomark _)))))), ?_⟩
    have hc0 := hc
    have hc20 := hc2
    obtain ⟨a, dx, v1, v2, v3, v4, rfl, ea, _⟩ := hc
    obtain ⟨b, dy, u1, u2, u3, u4, rfl, eb, _⟩ := hc2
    refine ⟨_, rfl, .ref b, .ref C, .ref C, .ref C, true, rfl, .own C, .base (.ins eb TC.cls IC.ha IC.hn IC.htk IC.hm), IC.kit, true, rfl, ?_⟩
    refine iteT ?_
    refine ⟨_, rfl, a, dx, _, rfl, ea, .ref a, p, rfl, hc0, fp, fun H1 s1 => ?_⟩
    refine ⟨_, rfl, b, dy, _, rfl, s1 _ _ eb, .ref b, q, rfl, hc20.same s1, fq, fun H2 s2 => ⟨rfl, ?_⟩⟩
    have e : decide (V.str (textOf p) = V.str (textOf q)) = decide (textOf p = textOf q) := by
      by_cases h : textOf p = textOf q
      · rw [decide_eq_true h, decide_eq_true (congrArg V.str h)]
      · rw [decide_eq_false h, decide_eq_false fun z => h (V.str.inj z)]
    rw [e]
    exact hq H2 fun x o z => s2 _ _ (s1 _ _ z)
end
end G

set_option Elab.async false
set_option linter.all false
set_option maxRecDepth 100000
set_option maxHeartbeats 4000000
namespace G
open PySem PySem.Spec PyProof.Rows L2 U
open PySem.W (Frag)
/-! ### check_person, check_side, check_claim; is_integer(x, low) -/
theorem dict_words {α : Type} {dA : α → PyData} {H : Hp} {v : V} {xs : List (Str × α)} (h : Da H v (dictD dA xs)) : ∃ ar kvs, v = .ref ar ∧ H ar = some (.dK kvs) ∧ kvs.map (·.1) = (xs.map (·.1)).map Sum.inr ∧ DqAll (fun _ => True) H (kvs.map (·.2)) (xs.map fun x => dA x.2) := by
  obtain ⟨ar, kvs, rfl, _, er, hkk, al⟩ := dk_inv h
  rw [List.map_map] at hkk al
  have ks := keys_str (f := fun x : Str × α => x.1) hkk
  exact ⟨ar, kvs, rfl, er, ks, al⟩
section
variable {P : Program} {w : World} {K : Frag} {mg : Str → Option Value} {base : Heap} {CB CE C fN f D fI : Addr} {fdN fd : FuncData}
theorem has_is_integer2 (F : Fn2 K mg "is_integer" s_is_integer) (gI : mg "isinstance" = none) (gi : mg "int" = none) (gb : mg "bool" = none) : Has P w K mg base 1 "is_integer" P_is_integer [.non] sp_is_integer := by
  obtain ⟨⟨fd, F⟩, g⟩ := F
  obtain ⟨ds2, v2, b2⟩ := F.binds1 (ps := P_is_integer) 2 1 (by simp) rfl fun T kV doc pm an cdv ct us its h1 h2 => match us, h1, its, h2 with | [_, _], _, [_, _], _ => ⟨_, rfl, rfl⟩
  exact ⟨⟨fd, ds2, ok_is_integer F gI gi gb, F.kp, v2, b2⟩, g⟩
def sp_check_person (C CE : Addr) : Sp := fun vs H Q E => ∃ (F : Addr → Prop) (v rv : V) (p : Parts) (d : PyData), vs = [v, rv] ∧ ChartIs C H v p ∧ Dq F H rv d ∧ if isWordD d (p.people.map (·.1)) = true then Q .non H else ErrTo H CE rv E
theorem has_check_person (F : Fn K mg "check_person" s_check_person) (TC : ChartT K mg C fN fdN) (hW : Has P w K mg base 1 "is_word" P_is_word [] (sp_is_word K)) (T : InitTxt P K D fI) (TR : ErrC K D fI CE) (mR : mg "NoPerson" = some (.ref CE)) : HasX P w K mg base 2 "check_person" P_check_person (sp_check_person C CE) := by
  obtain ⟨⟨fd, F⟩, g⟩ := F
  refine ⟨⟨fd, ?_, F.kp, F.bindsN fun _ _ _ _ _ _ us hl => match us, hl with | [_, _], _ => rfl⟩, g⟩
  refine F.ok sc_check_person (fun vs H Q E h => ?_) (fun cdv A outer s H vs Q E hr h' => ?_)
  · obtain ⟨F, v, rv, p, d, rfl, _⟩ := h
    rfl
  · obtain ⟨F, v, rv, p, d, rfl, hc, hd, hq⟩ := h'
    have tk : Takes (cxOf (L2.CX P w) P w K mg base N_check_person "check_person" (defScope s_check_person) (He.ga K "check_person") cdv A outer s H E) (fun cls d _ H => E cls d H) := takes_of rfl rfl rfl rfl
    refine ⟨_, pss_one (ps_if (pt_not (pt_val (pe_has hW hr (pa_cons (pv 1) (pa_cons (pe_fld (pv 0) rfl) pa_nil))))) (pss_one (ps_raiseErr rfl tk T TR hr mR (pv 1))) pss_nil), ?_⟩
    obtain ⟨a, dx, v1, v2, v3, v4, rfl, ea, d1, d2, d3, d4⟩ := hc
    obtain ⟨ar, kvs, rfl, er, ks, al⟩ := dict_words d1
    refine ⟨_, rfl, _, rfl, a, C, dx, _, _, rfl, ea, TC.cls, TC.n1, look1 _ _ _ _, F, rv, d, ar, p.people.map (·.1), rfl, hd, .inr ⟨kvs, er, ks⟩, ?_⟩
    refine ⟨_, rfl, ?_⟩
    cases hb : isWordD d (p.people.map (·.1)) with
    | true =>
      rw [hb, if_pos rfl] at hq
      refine iteF ?_
      exact hq
    | false =>
      rw [hb, if_neg (by decide)] at hq
      refine iteT ?_
      exact ⟨_, rfl, fun dd ndd => hq H dd (Same.refl H) ndd⟩
def wSide : List Str := ["up", "down"]
def sp_check_side (CE : Addr) : Sp := fun vs H Q E => ∃ (F : Addr → Prop) (rv : V) (d : PyData), vs = [rv] ∧ Dq F H rv d ∧ if isWordD d wSide = true then ∀ H', Same H H' → Q .non H' else ErrTo H CE rv E
theorem has_check_side (F : Fn K mg "check_side" s_check_side) (hW : Has P w K mg base 1 "is_word" P_is_word [] (sp_is_word K)) (T : InitTxt P K D fI) (TR : ErrC K D fI CE) (mR : mg "BadSide" = some (.ref CE)) (cU : CS mg "UP" "up") (cD : CS mg "DOWN" "down") : HasX P w K mg base 2 "check_side" P_check_side (sp_check_side CE) := by
  obtain ⟨⟨fd, F⟩, g⟩ := F
  refine ⟨⟨fd, ?_, F.kp, F.bindsN fun _ _ _ _ _ _ us hl => match us, hl with | [_], _ => rfl⟩, g⟩
  refine F.ok sc_check_side (fun vs H Q E h => ?_) (fun cdv A outer s H vs Q E hr h' => ?_)
  · obtain ⟨F, rv, d, rfl, _⟩ := h
    rfl
  · obtain ⟨F, rv, d, rfl, hd, hq⟩ := h'
    have tk : Takes (cxOf (L2.CX P w) P w K mg base N_check_side "check_side" (defScope s_check_side) (He.ga K "check_side") cdv A outer s H E) (fun cls d _ H => E cls d H) := takes_of rfl rfl rfl rfl
    refine ⟨_, pss_one (ps_if (pt_not (pt_val (pe_has hW hr (pa_cons (pv 0) (pa_cons (pe_tup (pa_cons (pe_cs cU) (pa_cons (pe_cs cD) pa_nil))) pa_nil))))) (pss_one (ps_raiseErr rfl tk T TR hr mR (pv 0))) pss_nil), ?_⟩
    refine ⟨_, rfl, (show 2 ≤ sizeLine by decide), fun t nt => ?_⟩
    have s1 := same_new (o := .tup [.str "up", .str "down"]) nt
    refine ⟨F, rv, d, t, wSide, rfl, hd.move (fun _ f => f) (fun b o _ z => s1 _ _ z), .inl (SqT.of upd_same), ?_⟩
    refine ⟨_, rfl, ?_⟩
    cases hb : isWordD d wSide with
    | true =>
      rw [hb, if_pos rfl] at hq
      refine iteF ?_
      exact hq _ s1
    | false =>
      rw [hb, if_neg (by decide)] at hq
      refine iteT ?_
      exact ⟨_, rfl, fun dd ndd => hq _ dd s1 ndd⟩
def sp_check_claim (C CE : Addr) : Sp := fun vs H Q E => ∃ (F : Addr → Prop) (v rv : V) (p : Parts) (d : PyData), vs = [v, rv] ∧ ChartIs C H v p ∧ Dq F H rv d ∧ if isClaimD p.people p.labs d = true then ∀ H', Same H H' → Q .non H' else ErrTo H CE rv E
theorem has_check_claim (F : Fn K mg "check_claim" s_check_claim) (TC : ChartT K mg C fN fdN) (hC : Has P w K mg base 4 "is_claim" P_is_claim [] (sp_is_claim K)) (T : InitTxt P K D fI) (TR : ErrC K D fI CE) (mR : mg "BadClaim" = some (.ref CE)) : HasX P w K mg base 5 "check_claim" P_check_claim (sp_check_claim C CE) := by
  obtain ⟨⟨fd, F⟩, g⟩ := F
  refine ⟨⟨fd, ?_, F.kp, F.bindsN fun _ _ _ _ _ _ us hl => match us, hl with | [_, _], _ => rfl⟩, g⟩
  refine F.ok sc_check_claim (fun vs H Q E h => ?_) (fun cdv A outer s H vs Q E hr h' => ?_)
  · obtain ⟨F, v, rv, p, d, rfl, _⟩ := h
    rfl
  · obtain ⟨F, v, rv, p, d, rfl, hc, hd, hq⟩ := h'
    have tk : Takes (cxOf (L2.CX P w) P w K mg base N_check_claim "check_claim" (defScope s_check_claim) (He.ga K "check_claim") cdv A outer s H E) (fun cls d _ H => E cls d H) := takes_of rfl rfl rfl rfl
    refine ⟨_, pss_one (ps_if (pt_not (pt_val (pe_has hC hr (pa_cons (pv 0) (pa_cons (pv 1) pa_nil))))) (pss_one (ps_raiseErr rfl tk T TR hr mR (pv 1))) pss_nil), ?_⟩
    obtain ⟨a, dx, v1, v2, v3, v4, rfl, ea, d1, d2, d3, d4⟩ := hc
    refine ⟨_, rfl, _, rfl, fun _ => True, fun _ => True, F, .ref a, v2, v1, rv, p.labs, p.people, d, rfl, .inl ⟨a, C, dx, _, rfl, ea, TC.cls, TC.n2, look2 _ _ _ _⟩, d2, .inl ⟨a, C, dx, _, rfl, ea, TC.cls, TC.n1, look1 _ _ _ _⟩, d1, hd, fun H1 s1 => ?_⟩
    refine ⟨_, rfl, ?_⟩
    cases hb : isClaimD p.people p.labs d with
    | true =>
      rw [hb, if_pos rfl] at hq
      refine iteF ?_
      exact hq _ s1
    | false =>
      rw [hb, if_neg (by decide)] at hq
      refine iteT ?_
      exact ⟨_, rfl, fun dd ndd => hq _ dd s1 ndd⟩
end
end G

set_option Elab.async false
set_option linter.all false
set_option maxRecDepth 100000
set_option maxHeartbeats 4000000
namespace U
open PySem PySem.Spec PyProof.Rows L2
open PySem.W (Frag)
theorem putK_app {kvs : List (Key × V)} {k : Key} (v : V) (h0 : k ∉ kvs.map (·.1)) : putK kvs k v = kvs ++ [(k, v)] := putK_new v (by
  cases q : valV kvs k with
  | none => rfl
  | some u =>
    unfold valV at q
    rw [Option.map_eq_some_iff] at q
    obtain ⟨kv, h1, _⟩ := q
    have m := List.mem_of_find?_eq_some h1
    have this : kv.1 = k := by simpa using List.find?_some h1
    exact absurd (List.mem_map.mpr ⟨kv, m, this⟩) h0)
section
variable {X : Cx} {i : Nat} {y : Str} {py : Pos} {kx vx tg iter : Expr} {ifs : List Expr} {scope : Scope} {own : List (Str × Nat)} {pos spos : Pos} {wi : TI} {g : TG} {tt : TT} {tk tv : TE}
/-- y = {.. : .. for ..}, y a plain local name -/
theorem ps_setDc (calm : X.calm = true) (nd : X.N.Nodup) (hy : X.N[i]? = some y) (hyl : X.env.scope.names.lookup y = some .local) (hsw : swapsWith (.DictComp kx vx [⟨tg, iter, ifs, 0⟩] scope pos) (some (.Name y py)) spos.line X.env = pure true) (hi : PI X tg iter wi) (ok : BlkOk X.N X.env.scope scope own)
    (hg : ∀ (u : Shared) (G : Hp) (C : Addr) (cl : List (Str × Addr)) (fp : List Addr), PG (X.blk u G scope (compEnvC scope cl C X.env) fp) tg g) (ht : ∀ (u : Shared) (G : Hp) (C : Addr) (cl : List (Str × Addr)) (fp : List Addr), PTs (X.blk u G scope (compEnvC scope cl C X.env) fp) ifs tt)
    (hk : ∀ (u : Shared) (G : Hp) (C : Addr) (cl : List (Str × Addr)) (fp : List Addr), PE (X.blk u G scope (compEnvC scope cl C X.env) fp) kx tk) (he : ∀ (u : Shared) (G : Hp) (C : Addr) (cl : List (Str × Addr)) (fp : List Addr), PE (X.blk u G scope (compEnvC scope cl C X.env) fp) vx tv)
    (hs : ∀ x, foldedSetIterable iter X.env x = pure x := by intro _; rfl) : PS X (.Assign [.Name y py] (.DictComp kx vx [⟨tg, iter, ifs, 0⟩] scope pos) spos) (tAsg (tDc wi g tt tk tv (own.map (·.2))) (gName i)) := by
  constructor
  intro pins u σ G B I hh
  rw [exec_Assign_Name_used _ _ _ _ hsw]
  apply wpAny_bind
  apply wpAny_standAt
  apply wpAny_bind
  show wpAny _ X.A (do let _ ← comprehension (.DictComp kx vx [⟨tg, iter, ifs, 0⟩] scope pos) scope X.env (firstIterPos [⟨tg, iter, ifs, 0⟩] pos) newDict false (eval iter X.env) (some (assign (.Name y py) X.env))) _ _ u
  have hh : tDc wi g tt tk tv (own.map (·.2)) σ G (fun x G1 => gName i x σ G1 B.nx) := hh
  refine wpAny_bind (thn (dc_core (Qf := fun _ u' => SP X pins B .next u') calm nd I hi ok hg ht hk he hs hh fun L C u' m G' I' q hn f => ?_) fun _ u' hq => wpAny_pure (wpAny_pure hq))
  show wpAny _ _ (assign (.Name y py) X.env (.ref L)) _ _ u'
  refine wpAny_assign_Name (store_ok2 (v := V.ref L) I' nd hy (.inl hyl) rfl (fun u2 I2 ⟨a, sb, ha⟩ => ?_) (.inr hyl))
  obtain ⟨g0, g1, g2, g3, g4, g5⟩ := f
  have Ca : C ≠ a := by
    rcases ha with z | z
    · exact z ▸ g1
    · intro e
      exact g4 y a z e.symm
  exact ⟨m, hn.sameBut sb Ca, fun h3 sb3 => ⟨_, G', I2.turned (t' := u2.toks) (fun b o hb e => (sb3.2 b hb).trans e) g0 g1 g3 g4 g5, q⟩⟩
end
/-- {.. for a, b in d.items() if ..} -/
theorem dc_items {d : Addr} {od : Obj} {kvs : List (Key × V)} {g : TG} {tt : TT} {tk tv : TE} {vs : List Nat} {σ : L2.St} {H1 : Hp} {D : Addr} {Qd : Hp → Prop} (Pv : Nat → Hp → Prop) (h0 : Pv 0 (upd H1 D (.dK []))) (hl : ∀ i H, i ≤ kvs.length → Pv i H → H d = some (.frz od (.dK kvs)))
    (hs : ∀ i k v T H, kvs[i]? = some (k, v) → Pv i H → H T = none → g (.ref T) (wipe σ vs) (upd H T (.tup [kV k, v])) fun σ2 H2 => wipe σ2 vs = wipe σ vs ∧ tt σ2 H2 fun b H3 =>
      if b = true then tk σ2 H3 fun y H4 => tv σ2 H4 fun z H5 => ∃ kvs k, y = kV k ∧ H5 D = some (.dK kvs) ∧ kvs.length < sizeLine ∧ Pv (i + 1) (upd H5 D (.dK (putK kvs k z))) else Pv (i + 1) H3) (hd : ∀ H, Pv kvs.length H → Qd H) :
    ∃ W : Nat → Nat → Hp → Prop, (∃ m, W 0 m (upd H1 D (.dK []))) ∧ ∀ i m H, W i m H →
      ((Iti d od kvs).stop i H ∧ Qd H) ∨ ((Iti d od kvs).go i H ∧ ∃ Nx : Hp → Prop, (∀ H', Nx H' → ∃ m', m' < m ∧ W (i + 1) m' H') ∧ ∀ x H', (Iti d od kvs).yld i H x H' → g x (wipe σ vs) H' fun σ2 H2 => wipe σ2 vs = wipe σ vs ∧ tt σ2 H2 fun b H3 =>
        if b = true then tk σ2 H3 fun y H4 => tv σ2 H4 fun z H5 => ∃ ls k, y = kV k ∧ H5 D = some (.dK ls) ∧ ls.length < sizeLine ∧ Nx (upd H5 D (.dK (putK ls k z))) else Nx H3) := by
  refine ⟨fun i m H => m = kvs.length - i ∧ i ≤ kvs.length ∧ Pv i H, ⟨kvs.length, by simp, Nat.zero_le _, h0⟩, ?_⟩
  rintro i m H ⟨rfl, hi, p⟩
  have q := hl i H hi p
  by_cases hlt : i < kvs.length
  · refine .inr ⟨⟨q, hlt⟩, Pv (i + 1), fun H' p' => ⟨kvs.length - (i + 1), by omega, rfl, hlt, p'⟩, fun x H' y => ?_⟩
    obtain ⟨T, k, v, h1, rfl, nT, rfl⟩ := y
    exact hs i k v T H h1 p nT
  · have e : i = kvs.length := by omega
    subst e
    exact .inl ⟨⟨q, Nat.le_refl _⟩, hd H p⟩
end U
namespace G
open PySem PySem.Spec PyProof.Rows L2 U
open PySem.W (Frag)
/-! ### Chart.without -/
theorem dict_filter {α : Type} {dA : α → PyData} {F : Addr → Prop} {H : Hp} {n : Str} : ∀ {xs : List (Str × α)} {kvs : List (Key × V)}, kvs.map (·.1) = (xs.map (·.1)).map Sum.inr → DqAll F H (kvs.map (·.2)) (xs.map fun x => dA x.2) →
    (kvs.filter fun kv => !decide (kv.1 = Sum.inr n)).map (·.1) = ((xs.filter fun x => !decide (x.1 = n)).map (·.1)).map Sum.inr ∧ DqAll F H ((kvs.filter fun kv => !decide (kv.1 = Sum.inr n)).map (·.2)) ((xs.filter fun x => !decide (x.1 = n)).map fun x => dA x.2)
  | [], [], _, _ => ⟨rfl, .nil⟩
  | [], _ :: _, h, _ => by cases h
  | _ :: _, [], h, _ => by cases h
  | (m, x) :: xs, (k, v) :: kvs, h, al => by
    obtain ⟨h1, h2⟩ := List.cons.inj h
    have h1 : k = Sum.inr m := h1
    subst h1
    cases al with
    | cons q al =>
    obtain ⟨i1, i2⟩ := dict_filter (n := n) h2 al
    by_cases hm : m = n
    · subst hm
      rw [List.filter_cons_of_neg (by simp), List.filter_cons_of_neg (by simp)]
      exact ⟨i1, i2⟩
    · have e : (Sum.inr m : Key) ≠ Sum.inr n := fun z => hm (Sum.inr.inj z)
      rw [List.filter_cons_of_pos (by simp [e]), List.filter_cons_of_pos (by simp [hm])]
      refine ⟨?_, .cons q i2⟩
      rw [List.map_cons, List.map_cons, List.map_cons, i1]
theorem dict_mk {α : Type} {dA : α → PyData} {H : Hp} {D : Addr} {xs : List (Str × α)} {kvs : List (Key × V)} (e : H D = some (.dK kvs)) (k : kvs.map (·.1) = (xs.map (·.1)).map Sum.inr) (al : DqAll (fun _ => True) H (kvs.map (·.2)) (xs.map fun x => dA x.2)) : Da H (.ref D) (dictD dA xs) := by
  refine dk_mk True.intro e ?_ ?_
  · have := congrArg (List.map kD) k
    simp only [List.map_map] at this ⊢
    exact this
  · rw [List.map_map]
    exact al
def Parts.less (p : Parts) (n : Str) : Parts := { p with rows := p.rows.filter fun r => !decide (r.1 = n) }
section
variable {P : Program} {w : World} {K : Frag} {mg : Str → Option Value} {base : Heap} {CB CR C fN f D fI : Addr} {fdN fd : FuncData}
def sp_without (C CB CR : Addr) : Sp := fun vs H Q E => ∃ (F : Addr → Prop) (v rv : V) (p : Parts) (d : PyData), vs = [v, rv] ∧ ChartIs C H v p ∧ Dq F H rv d ∧ (p.rows.map (·.1)).Nodup ∧ p.rows.length ≤ 24 ∧
  match d with
    | .str n => if n ∈ p.rows.map (·.1) then MadeTo H C CB (p.less n) Q E else ErrTo H CR rv E
    | _ => ErrTo H CR rv E
theorem ok_without (F : FunD K "without" "Chart.without" (defArgs s_Chart_without) (defBody s_Chart_without) (defScope s_Chart_without) [] [] f fd) (TC : ChartT K mg C fN fdN) (hC : HasX P w K mg base 2 "check_result" P_check_result (sp_check_result C CR)) (hCO : HasX P w K mg base 10 "chart_of" P_chart_of (sp_chart_of C CB)) :
    FnOk P w K mg base (L2.CX P w) 11 f fd P_Chart_without (sp_without C CB CR) := by
  refine F.ok sc_Chart_without (fun vs H Q E h => ?_) (fun cdv A outer s H vs Q E hr h' => ?_)
  · obtain ⟨F, v, rv, p, d, rfl, _⟩ := h
    rfl
  · obtain ⟨F, v, rv, p, d, rfl, hc, hd, nd, few, hq⟩ := h'
    have tk : Takes (cxOf (L2.CX P w) P w K mg base N_Chart_without "Chart.without" (defScope s_Chart_without) f cdv A outer s H E) (fun cls d _ H => E cls d H) := takes_of rfl rfl rfl rfl
    refine ⟨_, pss_cons (ps_expr (pe_hasX (E := E) hC (hr.mono (by omega)) (passes_call tk fun _ _ _ _ h => h) (pa_cons (pv 0) (pa_cons (pv 1) pa_nil))))
      (pss_cons (ps_lock (ps_setDc (i := 2) (own := [("name", 3), ("row", 4)]) (g := gTup K 2 (gCons (gName 3) (gCons (gName 4) gNil))) (tt := tTest (tOp rNe (tVar 3) (tVar 1))) (tk := tVar 3) (tv := tVar 4) rfl sc_Chart_without.nd rfl rfl rfl (pi_items (pe_fld (pv 0) rfl)) (blkOk_by (N := N_Chart_without) (sc := defScope s_Chart_without) (by decide +kernel))
        (fun _ _ _ _ _ => pg_tup rfl (pgs_cons (pg_name (i := 3) sc_Chart_without.nd rfl (Or.inl rfl)) (pgs_cons (pg_name (i := 4) sc_Chart_without.nd rfl (Or.inl rfl)) pgs_nil))) (fun _ _ _ _ _ => pts_one (pt_cmpR op_ne (pv 3) (pv 1) (nomark _))) (fun _ _ _ _ _ => pv 3) (fun _ _ _ _ _ => pv 4)))
      (pss_one (ps_ret (pe_hasX (E := E) hCO hr (passes_call tk fun _ _ _ _ h => h) (pa_cons (pe_fld (pv 0) rfl) (pa_cons (pe_fld (pv 0) rfl) (pa_cons (pv 2) (pa_cons (pe_fld (pv 0) rfl) pa_nil)))))))), ?_⟩
    have hc0 := hc
    obtain ⟨a, dx, v1, v2, v3, v4, rfl, ea, d1, d2, d3, d4⟩ := hc
    obtain ⟨ar, kvs, rfl, er, ks, al⟩ := dict_words d3
    refine ⟨_, rfl, _, rfl, F, _, rv, p, d, rfl, hc0, hd, ?_⟩
    have no : isWordD d (p.rows.map (·.1)) = false → ErrTo H CR rv E := fun z => by
      cases d with
      | str n =>
        have z : n ∉ p.rows.map (·.1) := of_decide_eq_false z
        have hq : if n ∈ p.rows.map (·.1) then MadeTo H C CB (p.less n) Q E else ErrTo H CR rv E := hq
        rw [if_neg z] at hq
        exact hq
      | _ => exact hq
    cases hb : isWordD d (p.rows.map (·.1)) with
    | false =>
      refine iteF ?_
      exact no hb
    | true =>
    refine iteT ?_
    obtain ⟨n, rfl⟩ : ∃ n, d = .str n := by
      cases d with
      | str n => exact ⟨n, rfl⟩
      | _ => cases hb
    cases hd
    have hn : n ∈ p.rows.map (·.1) := of_decide_eq_true hb
    have hq : if n ∈ p.rows.map (·.1) then MadeTo H C CB (p.less n) Q E else ErrTo H CR (.str n) E := hq
    rw [if_pos hn] at hq
    have ar_a : a ≠ ar := fun z => by rw [z, er] at ea; cases ea
    have lk : kvs.length = p.rows.length := by
      have := congrArg List.length ks
      simpa using this
    refine ⟨ar, .dK kvs, er, True.intro, fun od => ?_⟩
    refine ⟨_, rfl, a, C, dx, _, _, rfl, by rw [upd_ne ar_a]; exact ea, TC.cls, TC.n3, look3 _ _ _ _, ar, od, kvs, rfl, upd_same, fun D nD => ?_⟩
    have Dar : D ≠ ar := fun z => by rw [z, upd_same] at nD; cases nD
    have nD0 : H D = none := by rw [upd_ne Dar] at nD; exact nD
    have ndk : (kvs.map (·.1)).Nodup := by
      rw [ks]
      exact List.Pairwise.map _ (fun a b h z => h (Sum.inr.inj z)) nd
    refine dc_items (d := ar) (od := od) (kvs := kvs) (fun i Hc => Lkd H ar kvs od Hc ∧ Hc D = some (.dK ((kvs.take i).filter fun kv => !decide (kv.1 = Sum.inr n)))) ⟨(lkd_start od).same (same_new nD), upd_same⟩ (fun i Hc _ h => h.1.at_) ?_ ?_
    · rintro i k v T Hc hi ⟨lkd, eD⟩ nT
      have ilt : i < kvs.length := (List.getElem?_eq_some_iff.mp hi).1
      have TD : D ≠ T := fun z => by rw [z, nT] at eD; cases eD
      obtain ⟨m, rfl⟩ : ∃ m, k = Sum.inr m := by
        have h1 : (k, v) ∈ kvs := List.mem_of_getElem? hi
        have h2 : k ∈ kvs.map (·.1) := List.mem_map.mpr ⟨_, h1, rfl⟩
        rw [ks] at h2
        obtain ⟨y, _, e⟩ := List.mem_map.mp h2
        exact ⟨y, e.symm⟩
      have sT := same_new (o := .tup [kV (Sum.inr m), v]) nT
      have tk1 : (kvs.take (i + 1)).filter (fun kv => !decide (kv.1 = (Sum.inr n : Key))) = (kvs.take i).filter (fun kv => !decide (kv.1 = Sum.inr n)) ++ if m = n then [] else [(Sum.inr m, v)] := by
        rw [List.take_add_one, hi, List.filter_append]
        congr 1
        by_cases hm : m = n
        · subst hm
          rw [if_pos rfl]
          exact List.filter_cons_of_neg (by simp)
        · have e : (Sum.inr m : Key) ≠ Sum.inr n := fun z => hm (Sum.inr.inj z)
          rw [if_neg hm]
          exact List.filter_cons_of_pos (by simp [e])
      refine ⟨T, _, rfl, SqT.of upd_same, rfl, _, _, rfl, _, _, rfl, rfl, rfl, _, rfl, _, rfl, rfl, _, rfl, ?_⟩
      have lk1 := lkd.same sT
      have eD1 := sT _ _ eD
      by_cases hm : m = n
      · subst hm
        rw [show (!decide (kV (Sum.inr m) = V.str m)) = false by rw [decide_eq_true (show kV (Sum.inr m) = V.str m from rfl)]; rfl]
        refine iteF ?_
        refine ⟨lk1, ?_⟩
        rw [tk1, if_pos rfl, List.append_nil]
        exact eD1
      · rw [show (!decide (kV (Sum.inr m) = V.str n)) = true by rw [decide_eq_false (show ¬ (kV (Sum.inr m) = V.str n) from fun z => hm (V.str.inj z))]; rfl]
        refine iteT ?_
        refine ⟨_, rfl, _, rfl, _, Sum.inr m, rfl, eD1, ?_, ?_, ?_⟩
        · have := List.length_filter_le (fun kv : Key × V => !decide (kv.1 = Sum.inr n)) (kvs.take i)
          rw [List.length_take] at this
          rw [sizeLine_eq]
          omega
        · refine ⟨by rw [upd_ne (Ne.symm Dar)]; exact lk1.at_, fun b o hb z => ?_⟩
          rw [upd_ne (ne_of_none z nD0)]
          exact lk1.keep b o hb z
        · rw [upd_same, tk1, if_neg hm, putK_app]
          intro z
          obtain ⟨kv, h1, h2⟩ := List.mem_map.mp z
          have h1 := (List.mem_filter.mp h1).1
          obtain ⟨j, hj, e⟩ := List.mem_take_iff_getElem.mp h1
          have jl : j < kvs.length := by omega
          have hj' : j < i := by omega
          have e1 : (kvs.map (·.1))[j]? = some (Sum.inr m) := by rw [List.getElem?_map, List.getElem?_eq_getElem jl, e, ← h2]; rfl
          have e2 : (kvs.map (·.1))[i]? = some (Sum.inr m) := by rw [List.getElem?_map, hi]; rfl
          have := (List.getElem?_inj (by rw [List.length_map]; exact jl) ndk).mp (e1.trans e2.symm)
          omega
    · rintro Hc ⟨lkd, eD⟩
      rw [List.take_length] at eD
      refine ⟨lkd.at_, ?_⟩
      have sO := lkd.open er
      have eDf : upd Hc ar (.dK kvs) D = some (.dK (kvs.filter fun kv => !decide (kv.1 = Sum.inr n))) := by rw [upd_ne Dar]; exact eD
      generalize upd Hc ar (.dK kvs) = Hf at sO eDf
      refine ⟨_, rfl, a, C, dx, _, _, rfl, sO _ _ ea, TC.cls, TC.n1, look1 _ _ _ _, ?_⟩
      refine ⟨_, rfl, a, C, dx, _, _, rfl, sO _ _ ea, TC.cls, TC.n2, look2 _ _ _ _, ?_⟩
      refine ⟨_, rfl, _, rfl, a, C, dx, _, _, rfl, sO _ _ ea, TC.cls, TC.n4, look4 _ _ _ _, ?_⟩
      obtain ⟨f1, f2⟩ := dict_filter (n := n) (dA := Row.d) ks (al.move (fun _ f => f) fun b o _ z => sO _ _ z)
      exact ⟨v1, v2, .ref D, v4, p.less n, rfl, d1.same sO, d2.same sO, dict_mk eDf f1 f2, .inl (d4.same sO), MadeTo.up hq sO⟩
end
end G

set_option Elab.async false
set_option linter.all false
set_option maxRecDepth 100000
set_option maxHeartbeats 4000000
namespace G
open PySem PySem.Spec PyProof.Rows L2 U
open PySem.W (Frag)
/-! ### Chart.told, Chart.untold -/
theorem tup_inv {F : Addr → Prop} {H : Hp} {v : V} {ds : List PyData} (h : Dq F H v (.tuple ds)) : ∃ b vs, v = .ref b ∧ F b ∧ H b = some (.tup vs) ∧ DqAll F H vs ds := by
  generalize hd : PyData.tuple ds = d at h
  cases h with
  | @tup b vs _ f e al =>
    cases hd
    exact ⟨b, vs, rfl, f, e, al⟩
  | _ => cases hd
theorem DqAll.take {F : Addr → Prop} {H : Hp} : ∀ {vs : List V} {ds : List PyData} (n : Nat), DqAll F H vs ds → DqAll F H (vs.take n) (ds.take n)
  | _, _, 0, _ => .nil
  | _, _, _ + 1, .nil => .nil
  | _, _, n + 1, .cons q al => .cons q (DqAll.take n al)
theorem DqAll.drop {F : Addr → Prop} {H : Hp} : ∀ {vs : List V} {ds : List PyData} (n : Nat), DqAll F H vs ds → DqAll F H (vs.drop n) (ds.drop n)
  | _, _, 0, al => al
  | _, _, _ + 1, .nil => .nil
  | _, _, n + 1, .cons q al => DqAll.drop n al
section
variable {P : Program} {w : World} {K : Frag} {mg : Str → Option Value} {base : Heap} {CB CC CF CN C fN f D fI : Addr} {fdN fd : FuncData}
def sp_told (C CB CC CF : Addr) : Sp := fun vs H Q E => ∃ (F : Addr → Prop) (v rv : V) (p : Parts) (d : PyData), vs = [v, rv] ∧ ChartIs C H v p ∧ Dq F H rv d ∧ p.facts.length ≤ 8 ∧
  if isClaimD p.people p.labs d = true then (if p.facts.length = 8 then ErrTo H CF (.int 8) E else MadeTo H C CB { p with facts := p.facts ++ [d] } Q E) else ErrTo H CC rv E
theorem ok_told (F : FunD K "told" "Chart.told" (defArgs s_Chart_told) (defBody s_Chart_told) (defScope s_Chart_told) [] [] f fd) (TC : ChartT K mg C fN fdN) (T : InitTxt P K D fI) (TF : ErrC K D fI CF) (mF : mg "Full" = some (.ref CF))
    (hC : HasX P w K mg base 5 "check_claim" P_check_claim (sp_check_claim C CC)) (hCO : HasX P w K mg base 10 "chart_of" P_chart_of (sp_chart_of C CB)) (gL : mg "len" = none) (cR : CS mg "FACT" "fact") (cM : CD K w mg "MOST_charts" "fact" (.int 8)) :
    FnOk P w K mg base (L2.CX P w) 11 f fd P_Chart_told (sp_told C CB CC CF) := by
  obtain ⟨aM, mM, kM⟩ := cM
  refine F.ok sc_Chart_told (fun vs H Q E h => ?_) (fun cdv A outer s H vs Q E hr h' => ?_)
  · obtain ⟨F, v, rv, p, d, rfl, _⟩ := h
    rfl
  · obtain ⟨F, v, rv, p, d, rfl, hc, hd, few, hq⟩ := h'
    have tk : Takes (cxOf (L2.CX P w) P w K mg base N_Chart_told "Chart.told" (defScope s_Chart_told) f cdv A outer s H E) (fun cls d _ H => E cls d H) := takes_of rfl rfl rfl rfl
    refine ⟨_, pss_cons (ps_expr (pe_hasX (E := E) hC (hr.mono (by omega)) (passes_call tk fun _ _ _ _ h => h) (pa_cons (pv 0) (pa_cons (pv 1) pa_nil))))
      (pss_cons (ps_if (pt_cmpR op_eq (pe_callB call_len_seq (by rfl) gL PySem.boot_len (pa_cons (pe_fld (pv 0) rfl) pa_nil)) (pe_ix ix_kdict (pe_glob (by rfl) mM (v := .ref aM) rfl) (pe_cs cR) (fun _ _ => rfl)) (nomark _)) (pss_one (ps_raiseErr rfl tk T TF hr mF (pe_ix ix_kdict (pe_glob (by rfl) mM (v := .ref aM) rfl) (pe_cs cR) (fun _ _ => rfl)))) pss_nil)
      (pss_one (ps_ret (pe_hasX (E := E) hCO hr (passes_call tk fun _ _ _ _ h => h) (pa_cons (pe_fld (pv 0) rfl) (pa_cons (pe_fld (pv 0) rfl) (pa_cons (pe_fld (pv 0) rfl) (pa_cons (pe_tup (StX.pa_star (pe_fld (pv 0) rfl) (pa_cons (pv 1) pa_nil))) pa_nil)))))))), ?_⟩
    have hc0 := hc
    obtain ⟨a, dx, v1, v2, v3, v4, rfl, ea, d1, d2, d3, d4⟩ := hc
    refine ⟨_, rfl, _, rfl, F, _, rv, p, d, rfl, hc0, hd, ?_⟩
    cases hb : isClaimD p.people p.labs d with
    | false =>
      rw [hb, if_neg (by decide)] at hq
      exact iteF hq
    | true =>
    rw [hb, if_pos rfl] at hq
    refine iteT fun H1 s1 => ?_
    obtain ⟨b, vs, rfl, _, eb, al⟩ := tup_inv d4
    have lv : vs.length = p.facts.length := al.len
    refine ⟨_, rfl, a, C, dx, _, _, rfl, s1 _ _ ea, TC.cls, TC.n4, look4 _ _ _ _, b, vs, rfl, .inr (SqT.of (s1 _ _ eb)), ?_⟩
    refine ⟨aM, "fact", .int 8, rfl, rfl, kM, rfl, _, rfl, ?_⟩
    by_cases h8 : p.facts.length = 8
    · rw [if_pos h8] at hq
      rw [show decide (V.int (vs.length : Nat) = V.int 8) = true from decide_eq_true (by rw [lv, h8]; rfl)]
      refine iteT ?_
      exact ⟨aM, "fact", .int 8, rfl, rfl, kM, fun dd ndd => hq _ dd s1 ndd⟩
    · rw [if_neg h8] at hq
      rw [show decide (V.int (vs.length : Nat) = V.int 8) = false from decide_eq_false (fun z => h8 (by have := V.int.inj z; omega))]
      refine iteF ?_
      refine ⟨_, rfl, a, C, dx, _, _, rfl, s1 _ _ ea, TC.cls, TC.n1, look1 _ _ _ _, ?_⟩
      refine ⟨_, rfl, a, C, dx, _, _, rfl, s1 _ _ ea, TC.cls, TC.n2, look2 _ _ _ _, ?_⟩
      refine ⟨_, rfl, a, C, dx, _, _, rfl, s1 _ _ ea, TC.cls, TC.n3, look3 _ _ _ _, ?_⟩
      refine ⟨_, rfl, a, C, dx, _, _, rfl, s1 _ _ ea, TC.cls, TC.n4, look4 _ _ _ _, ?_⟩
      refine ⟨b, vs, rfl, .inl (SqT.of (s1 _ _ eb)), _, rfl, by rw [sizeLine_eq, List.length_append]; show vs.length + 1 ≤ _; omega, fun q nq => ?_⟩
      have s2 := same_new (o := .tup (vs ++ [rv])) nq
      have sA : Same H (upd H1 q (.tup (vs ++ [rv]))) := fun b o z => s2 _ _ (s1 _ _ z)
      refine ⟨v1, v2, v3, .ref q, { p with facts := p.facts ++ [d] }, rfl, d1.same sA, d2.same sA, d3.same sA, .inl ?_, MadeTo.up hq sA⟩
      exact .tup True.intro upd_same (DqAll.app (al.move (fun _ f => f) fun b o _ z => sA _ _ z) (.cons (hd.move (fun _ _ => True.intro) fun b o _ z => sA _ _ z) .nil))
def sp_untold (C CB CN : Addr) : Sp := fun vs H Q E => ∃ (F : Addr → Prop) (v rv : V) (p : Parts) (d : PyData), vs = [v, rv] ∧ ChartIs C H v p ∧ Dq F H rv d ∧ p.facts.length ≤ 8 ∧
  match d with
    | .int i => if 0 ≤ i ∧ i < p.facts.length then MadeTo H C CB { p with facts := p.facts.take i.toNat ++ p.facts.drop (i.toNat + 1) } Q E else ErrTo H CN rv E
    | _ => ErrTo H CN rv E
/-- t[x:y] of a tuple: its items, at the same object or at a new one -/
theorem sl_evalA {b : Addr} {xs : List V} {lo hi : Option Int} {H : Hp} {Q : VK} (e : H b = some (.tup xs)) (h : ∀ q H', Same H H' → H' q = some (.tup (cutV xs lo hi)) → Q (.ref q) H') : rSlA K (.ref b) lo hi H Q := by
  refine ⟨b, xs, rfl, SqT.of e, fun w => h b H (Same.refl H) ?_, fun _ q nq => h q _ (same_new nq) upd_same⟩
  have : cutV xs lo hi = xs := by
    unfold cutV
    rw [w.1, w.2, List.drop_zero, Nat.sub_zero, List.take_length]
  rw [this]
  exact e
theorem ok_untold (F : FunD K "untold" "Chart.untold" (defArgs s_Chart_untold) (defBody s_Chart_untold) (defScope s_Chart_untold) [] [] f fd) (TC : ChartT K mg C fN fdN) (T : InitTxt P K D fI) (TF : ErrC K D fI CN) (mF : mg "NoFact" = some (.ref CN))
    (hI : Has P w K mg base 1 "is_integer" P_is_integer [] sp_is_integer) (hCO : HasX P w K mg base 10 "chart_of" P_chart_of (sp_chart_of C CB)) (gL : mg "len" = none) :
    FnOk P w K mg base (L2.CX P w) 11 f fd P_Chart_untold (sp_untold C CB CN) := by
  refine F.ok sc_Chart_untold (fun vs H Q E h => ?_) (fun cdv A outer s H vs Q E hr h' => ?_)
  · obtain ⟨F, v, rv, p, d, rfl, _⟩ := h
    rfl
  · obtain ⟨F, v, rv, p, d, rfl, hc, hd, few, hq⟩ := h'
    have tk : Takes (cxOf (L2.CX P w) P w K mg base N_Chart_untold "Chart.untold" (defScope s_Chart_untold) f cdv A outer s H E) (fun cls d _ H => E cls d H) := takes_of rfl rfl rfl rfl
    refine ⟨_, pss_cons (ps_if (pt_not (pt_val (pe_has hI (hr.mono (by omega)) (pa_cons (pv 1) (pa_cons pe_int (pa_cons (pe_op op_sub (pe_callB call_len_seq (by rfl) gL PySem.boot_len (pa_cons (pe_fld (pv 0) rfl) pa_nil)) pe_int) pa_nil)))))) (pss_one (ps_raiseErr rfl tk T TF hr mF (pv 1))) pss_nil)
      (pss_cons (ps_set (i := 2) sc_Chart_untold.nd rfl (Or.inl rfl) (pe_tup (StX.pa_star (pe_slice (sl_tupA (X := cxOf (L2.CX P w) P w K mg base N_Chart_untold "Chart.untold" (defScope s_Chart_untold) f cdv A outer s H E)) (pe_fld (pv 0) rfl) po_none (po_some (pv 1))) (StX.pa_star (pe_slice (sl_tupA (X := cxOf (L2.CX P w) P w K mg base N_Chart_untold "Chart.untold" (defScope s_Chart_untold) f cdv A outer s H E)) (pe_fld (pv 0) rfl) (po_some (pe_op op_add (pv 1) pe_int)) po_none) pa_nil))))
      (pss_one (ps_ret (pe_hasX (E := E) hCO hr (passes_call tk fun _ _ _ _ h => h) (pa_cons (pe_fld (pv 0) rfl) (pa_cons (pe_fld (pv 0) rfl) (pa_cons (pe_fld (pv 0) rfl) (pa_cons (pv 2) pa_nil)))))))), ?_⟩
    obtain ⟨a, dx, v1, v2, v3, v4, rfl, ea, d1, d2, d3, d4⟩ := hc
    obtain ⟨b, vs, rfl, _, eb, al⟩ := tup_inv d4
    have lv : vs.length = p.facts.length := al.len
    refine ⟨_, rfl, _, rfl, a, C, dx, _, _, rfl, ea, TC.cls, TC.n4, look4 _ _ _ _, b, vs, rfl, .inr (SqT.of eb), _, _, rfl, rfl, ?_⟩
    refine ⟨F, rv, d, some 0, some ((vs.length : Int) - 1), rfl, hd, _, rfl, ?_⟩
    have no : isIntD d (some 0) (some ((vs.length : Int) - 1)) = false → ErrTo H CN rv E := fun z => by
      cases d with
      | int i =>
        have hq : if 0 ≤ i ∧ i < p.facts.length then MadeTo H C CB { p with facts := p.facts.take i.toNat ++ p.facts.drop (i.toNat + 1) } Q E else ErrTo H CN rv E := hq
        have z : (decide (0 ≤ i) && decide (i ≤ (vs.length : Int) - 1)) = false := z
        rw [if_neg (fun y => by
          rw [decide_eq_true y.1, decide_eq_true (show i ≤ (vs.length : Int) - 1 by have := y.2; omega)] at z
          cases z)] at hq
        exact hq
      | _ => exact hq
    cases hb : isIntD d (some 0) (some ((vs.length : Int) - 1)) with
    | false =>
      refine iteT ?_
      exact ⟨_, rfl, fun dd ndd => no hb H dd (Same.refl H) ndd⟩
    | true =>
    obtain ⟨i, rfl⟩ : ∃ i, d = .int i := by
      cases d with
      | int i => exact ⟨i, rfl⟩
      | _ => cases hb
    cases hd
    have hb : (decide (0 ≤ i) && decide (i ≤ (vs.length : Int) - 1)) = true := hb
    rw [Bool.and_eq_true] at hb
    have i0 := of_decide_eq_true hb.1
    have i1 := of_decide_eq_true hb.2
    have hq : if 0 ≤ i ∧ i < p.facts.length then MadeTo H C CB { p with facts := p.facts.take i.toNat ++ p.facts.drop (i.toNat + 1) } Q E else ErrTo H CN (.int i) E := hq
    rw [if_pos ⟨i0, by omega⟩] at hq
    obtain ⟨k, rfl⟩ : ∃ k : Nat, i = (k : Int) := ⟨i.toNat, by omega⟩
    rw [Int.toNat_natCast] at hq
    refine iteF ?_
    refine ⟨_, rfl, a, C, dx, _, _, rfl, ea, TC.cls, TC.n4, look4 _ _ _ _, _, rfl, _, rfl, sl_evalA eb fun q1 H1 s1 e1 => ?_⟩
    rw [cut_to] at e1
    refine ⟨q1, _, rfl, .inl (SqT.of e1), ?_⟩
    refine ⟨_, rfl, a, C, dx, _, _, rfl, s1 _ _ ea, TC.cls, TC.n4, look4 _ _ _ _, _, rfl, _, _, rfl, rfl, _, rfl, ?_⟩
    dsimp only [tNoPart]
    refine sl_evalA (s1 _ _ eb) fun q2 H2 s2 e2 => ?_
    have ec : cutV vs (some ((k : Int) + 1)) none = vs.drop (k + 1) := cut_from vs (k + 1)
    rw [ec] at e2
    refine ⟨q2, _, rfl, .inl (SqT.of e2), ?_⟩
    show (vs.take k ++ (vs.drop (k + 1) ++ [])).length ≤ sizeLine ∧ _
    rw [List.append_nil]
    refine ⟨by rw [sizeLine_eq, List.length_append, List.length_take, List.length_drop]; omega, fun q3 n3 => ?_⟩
    have s3 := same_new (o := .tup (vs.take k ++ vs.drop (k + 1))) n3
    have sA : Same H (upd H2 q3 (.tup (vs.take k ++ vs.drop (k + 1)))) := fun b o z => s3 _ _ (s2 _ _ (s1 _ _ z))
    refine ⟨_, rfl, a, C, dx, _, _, rfl, sA _ _ ea, TC.cls, TC.n1, look1 _ _ _ _, ?_⟩
    refine ⟨_, rfl, a, C, dx, _, _, rfl, sA _ _ ea, TC.cls, TC.n2, look2 _ _ _ _, ?_⟩
    refine ⟨_, rfl, a, C, dx, _, _, rfl, sA _ _ ea, TC.cls, TC.n3, look3 _ _ _ _, ?_⟩
    refine ⟨_, rfl, v1, v2, v3, .ref q3, { p with facts := p.facts.take k ++ p.facts.drop (k + 1) }, rfl, d1.same sA, d2.same sA, d3.same sA, .inl ?_, MadeTo.up hq sA⟩
    have al' : DqAll (fun _ => True) (upd H2 q3 (.tup (vs.take k ++ vs.drop (k + 1)))) vs p.facts := al.move (fun _ f => f) fun b o _ z => sA _ _ z
    exact .tup True.intro upd_same (DqAll.app (DqAll.take k al') (DqAll.drop (k + 1) al'))
end
end G

set_option Elab.async false
set_option linter.all false
set_option maxRecDepth 100000
set_option maxHeartbeats 4000000
namespace G
open PySem PySem.Spec PyProof.Rows L2 U
open PySem.W (Frag)
/-! ### Chart.rated -/
theorem dict_get {α : Type} {dA : α → PyData} {F : Addr → Prop} {H : Hp} {n : Str} : ∀ {xs : List (Str × α)} {kvs : List (Key × V)}, kvs.map (·.1) = (xs.map (·.1)).map Sum.inr → DqAll F H (kvs.map (·.2)) (xs.map fun x => dA x.2) → n ∈ xs.map (·.1) → ∃ x ∈ xs, x.1 = n ∧ ∃ u, valV kvs (Sum.inr n) = some u ∧ Dq F H u (dA x.2)
  | [], kvs, _, _, h => by cases h
  | _ :: _, [], h, _, _ => by cases h
  | (m, x) :: xs, (k, v) :: kvs, h, al, hn => by
    obtain ⟨h1, h2⟩ := List.cons.inj h
    have h1 : k = Sum.inr m := h1
    cases al with
    | cons q al =>
    by_cases hm : m = n
    · subst hm
      exact ⟨(m, x), List.mem_cons_self, rfl, v, valV_pos h1, q⟩
    · have hn' : n ∈ xs.map (·.1) := by
        rcases List.mem_cons.mp hn with z | z
        · exact absurd z.symm hm
        · exact z
      obtain ⟨y, hy, e, u, h3, h4⟩ := dict_get h2 al hn'
      exact ⟨y, List.mem_cons_of_mem _ hy, e, u, by rw [valV_neg (fun z => hm (Sum.inr.inj (h1.symm.trans z)))]; exact h3, h4⟩
/-- one value of a dict exchanged -/
def setAt {α : Type} (xs : List (Str × α)) (n : Str) (y : α) : List (Str × α) := xs.map fun x => if x.1 = n then (x.1, y) else x
theorem dict_set {α : Type} {dA : α → PyData} {F : Addr → Prop} {H : Hp} {n : Str} {y : α} {z : V} (dz : Dq F H z (dA y)) : ∀ {xs : List (Str × α)} {kvs : List (Key × V)}, kvs.map (·.1) = (xs.map (·.1)).map Sum.inr → DqAll F H (kvs.map (·.2)) (xs.map fun x => dA x.2) →
    (kvs.map fun kv => if kv.1 = Sum.inr n then (kv.1, z) else kv).map (·.1) = ((setAt xs n y).map (·.1)).map Sum.inr ∧ DqAll F H ((kvs.map fun kv => if kv.1 = Sum.inr n then (kv.1, z) else kv).map (·.2)) ((setAt xs n y).map fun x => dA x.2)
  | [], [], _, _ => ⟨rfl, .nil⟩
  | [], _ :: _, h, _ => by cases h
  | _ :: _, [], h, _ => by cases h
  | (m, x) :: xs, (k, v) :: kvs, h, al => by
    obtain ⟨h1, h2⟩ := List.cons.inj h
    have h1 : k = Sum.inr m := h1
    subst h1
    cases al with
    | cons q al =>
    obtain ⟨i1, i2⟩ := dict_set (n := n) dz h2 al
    unfold setAt at i1 i2 ⊢
    by_cases hm : m = n
    · subst hm
      simp only [List.map_cons, if_true]
      exact ⟨by rw [i1], .cons dz i2⟩
    · have e : (Sum.inr m : Key) ≠ Sum.inr n := fun z => hm (Sum.inr.inj z)
      simp only [List.map_cons, if_neg hm, if_neg e]
      exact ⟨by rw [i1], .cons q i2⟩
theorem putK_set {kvs : List (Key × V)} {k : Key} (v : V) (h : k ∈ kvs.map (·.1)) : putK kvs k v = kvs.map fun kv => if kv.1 = k then (kv.1, v) else kv := by
  obtain ⟨kv, h1, h2⟩ := List.mem_map.mp h
  unfold putK
  rw [if_pos (List.any_eq_true.mpr ⟨kv, h1, decide_eq_true h2⟩)]
def isUp : PyData → Bool
  | .str s => decide (s = "up")
  | _ => false
def newRate (up : Bool) (i : Int) (r : Int × Int) : Int × Int := if up then (i, r.2) else (r.1, i)
def rateTo (H : Hp) (C CB : Addr) (p : Parts) (ds : PyData) (Q : VK) (E : XK) : PyData → PyData → Prop
  | .str n, .int i => ∀ r, (n, r) ∈ p.people → MadeTo H C CB { p with people := setAt p.people n (newRate (isUp ds) i r) } Q E
  | _, _ => True
section
variable {P : Program} {w : World} {K : Frag} {mg : Str → Option Value} {base : Heap} {CB CP CS CR C fN f D fI : Addr} {fdN fd : FuncData}
def sp_rated (C CB CP CS CR : Addr) : Sp := fun vs H Q E => ∃ (F1 F2 F3 : Addr → Prop) (v v1 v2 v3 : V) (p : Parts) (d1 d2 d3 : PyData), vs = [v, v1, v2, v3] ∧ ChartIs C H v p ∧ Dq F1 H v1 d1 ∧ Dq F2 H v2 d2 ∧ Dq F3 H v3 d3 ∧ (p.people.map (·.1)).Nodup ∧ p.people.length ≤ 3 ∧
  if isWordD d1 (p.people.map (·.1)) = true then (if isWordD d2 wSide = true then (if isIntD d3 (some 0) none = true then rateTo H C CB p d2 Q E d1 d3 else ErrTo H CR v3 E) else ErrTo H CS v2 E) else ErrTo H CP v1 E
theorem ok_rated (F : FunD K "rated" "Chart.rated" (defArgs s_Chart_rated) (defBody s_Chart_rated) (defScope s_Chart_rated) [] [] f fd) (TC : ChartT K mg C fN fdN) (T : InitTxt P K D fI) (TF : ErrC K D fI CR) (mF : mg "BadRate" = some (.ref CR))
    (hP : HasX P w K mg base 2 "check_person" P_check_person (sp_check_person C CP)) (hS : HasX P w K mg base 2 "check_side" P_check_side (sp_check_side CS)) (hI : Has P w K mg base 1 "is_integer" P_is_integer [.non] sp_is_integer) (hCO : HasX P w K mg base 10 "chart_of" P_chart_of (sp_chart_of C CB)) (cU : U.CS mg "UP" "up") :
    FnOk P w K mg base (L2.CX P w) 11 f fd P_Chart_rated (sp_rated C CB CP CS CR) := by
  refine F.ok sc_Chart_rated (fun vs H Q E h => ?_) (fun cdv A outer s H vs Q E hr h' => ?_)
  · obtain ⟨F1, F2, F3, v, v1, v2, v3, p, d1, d2, d3, rfl, _⟩ := h
    rfl
  · obtain ⟨F1, F2, F3, v, x1, x2, x3, p, e1, e2, e3, rfl, hc, h1, h2, h3, nd, few, hq⟩ := h'
    have tk : Takes (cxOf (L2.CX P w) P w K mg base N_Chart_rated "Chart.rated" (defScope s_Chart_rated) f cdv A outer s H E) (fun cls d _ H => E cls d H) := takes_of rfl rfl rfl rfl
    refine ⟨_, pss_cons (ps_expr (pe_hasX (E := E) hP (hr.mono (by omega)) (passes_call tk fun _ _ _ _ h => h) (pa_cons (pv 0) (pa_cons (pv 1) pa_nil))))
      (pss_cons (ps_expr (pe_hasX (E := E) hS (hr.mono (by omega)) (passes_call tk fun _ _ _ _ h => h) (pa_cons (pv 2) pa_nil)))
      (pss_cons (ps_if (pt_not (pt_val (pe_has hI (hr.mono (by omega)) (pa_cons (pv 3) (pa_cons pe_int pa_nil))))) (pss_one (ps_raiseErr rfl tk T TF hr mF (pv 3))) pss_nil)
      (pss_cons (ps_asg (pe_dget (hu_of hr) (pe_fld (pv 0) rfl) (pv 1) (fun _ _ => rfl)) (pg_tup rfl (pgs_cons (pg_name (i := 4) sc_Chart_rated.nd rfl (Or.inl rfl)) (pgs_cons (pg_name (i := 5) sc_Chart_rated.nd rfl (Or.inl rfl)) pgs_nil))))
      (pss_cons (ps_set (i := 6) sc_Chart_rated.nd rfl (Or.inl rfl) (pe_ifExp (pt_cmpR op_eq (pv 2) (pe_cs cU) (nomark _)) (pe_tup (pa_cons (pv 3) (pa_cons (pv 5) pa_nil))) (pe_tup (pa_cons (pv 4) (pa_cons (pv 3) pa_nil)))))
      (pss_one (ps_ret (pe_hasX (E := E) hCO hr (passes_call tk fun _ _ _ _ h => h) (pa_cons (pe_dstar (pe_fld (pv 0) rfl) (pv 1) (pv 6)) (pa_cons (pe_fld (pv 0) rfl) (pa_cons (pe_fld (pv 0) rfl) (pa_cons (pe_fld (pv 0) rfl) pa_nil))))))))))), ?_⟩
    have hc0 := hc
    obtain ⟨a, dx, v1, v2, v3, v4, rfl, ea, d1, d2, d3, d4⟩ := hc
    refine ⟨_, rfl, _, rfl, F1, _, x1, p, e1, rfl, hc0, h1, ?_⟩
    cases b1 : isWordD e1 (p.people.map (·.1)) with
    | false =>
      rw [b1, if_neg (by decide)] at hq
      exact iteF hq
    | true =>
    rw [b1, if_pos rfl] at hq
    refine iteT ?_
    refine ⟨_, rfl, F2, x2, e2, rfl, h2, ?_⟩
    cases b2 : isWordD e2 wSide with
    | false =>
      rw [b2, if_neg (by decide)] at hq
      exact iteF hq
    | true =>
    rw [b2, if_pos rfl] at hq
    refine iteT fun H1 s1 => ?_
    refine ⟨_, rfl, F3, x3, e3, some 0, none, rfl, h3.move (fun _ f => f) (fun b o _ z => s1 _ _ z), _, rfl, ?_⟩
    cases b3 : isIntD e3 (some 0) none with
    | false =>
      rw [b3, if_neg (by decide)] at hq
      refine iteT ?_
      exact ⟨_, rfl, fun dd ndd => hq _ dd s1 ndd⟩
    | true =>
    rw [b3, if_pos rfl] at hq
    refine iteF ?_
    obtain ⟨n, rfl⟩ : ∃ n, e1 = .str n := by
      cases e1 with
      | str n => exact ⟨n, rfl⟩
      | _ => cases b1
    obtain ⟨sd, rfl⟩ : ∃ n, e2 = .str n := by
      cases e2 with
      | str n => exact ⟨n, rfl⟩
      | _ => cases b2
    obtain ⟨i, rfl⟩ : ∃ n, e3 = .int n := by
      cases e3 with
      | int n => exact ⟨n, rfl⟩
      | _ => cases b3
    cases h1
    cases h2
    cases h3
    have hn : n ∈ p.people.map (·.1) := of_decide_eq_true b1
    obtain ⟨ar, kvs, rfl, er, ks, al⟩ := dict_words d1
    have lk : kvs.length = p.people.length := by
      have := congrArg List.length ks
      simpa using this
    obtain ⟨⟨n', up, dn⟩, hx, hn', u, hu, du⟩ := dict_get ks al hn
    have hn' : n' = n := hn'
    subst hn'
    obtain ⟨b, us, rfl, _, eb, alu⟩ := tup_inv du
    cases alu with
    | cons q1 alu =>
    cases alu with
    | cons q2 alu =>
    cases alu
    cases q1
    cases q2
    have hq : MadeTo H C CB { p with people := setAt p.people n' (newRate (isUp (.str sd)) i (up, dn)) } Q E := hq _ hx
    refine ⟨_, rfl, a, C, dx, _, _, rfl, s1 _ _ ea, TC.cls, TC.n1, look1 _ _ _ _, _, rfl, ar, .ref b, rfl, .inl ⟨_, .inr n', .inl (s1 _ _ er), rfl, hu.symm⟩, ?_⟩
    refine ⟨b, _, rfl, SqT.of (s1 _ _ eb), rfl, _, _, rfl, _, _, rfl, rfl, ?_⟩
    refine ⟨_, rfl, rfl, _, rfl, ?_⟩
    have fin : ∀ (t : Addr) (x y : Int), (x, y) = newRate (isUp (.str sd)) i (up, dn) → H1 t = none → tRet (tCall (sp_chart_of C CB) [] E (tCons (tDStar (tFld K (tVar 0) "own_people") (tVar 1) (tVar 6)) (tCons (tFld K (tVar 0) "own_labs") (tCons (tFld K (tVar 0) "own_rows") (tCons (tFld K (tVar 0) "own_facts") tNil))))) { nx := fun _ H' => Q .non H', rt := Q } [some (.ref a), some (.str n'), some (.str sd), some (.int i), some (.int up), some (.int dn), some (.ref t)] (upd H1 t (.tup [.int x, .int y])) := fun t x y hxy nt => by
      have s2 := same_new (o := .tup [.int x, .int y]) nt
      have et : upd H1 t (.tup [.int x, .int y]) t = some (.tup [.int x, .int y]) := upd_same
      generalize upd H1 t (.tup [.int x, .int y]) = H2 at s2 et
      have sA : Same H H2 := fun b o z => s2 _ _ (s1 _ _ z)
      intro dd ndd
      have s3 := same_new (o := .dK []) ndd
      have ad : ar ≠ dd := ne_of_none (sA _ _ er) ndd
      refine ⟨_, rfl, a, C, dx, _, _, rfl, s3 _ _ (sA _ _ ea), TC.cls, TC.n1, look1 _ _ _ _, ar, kvs, rfl, ad, s3 _ _ (sA _ _ er), upd_same, by omega, ?_⟩
      have ndk : (kvs.map (·.1)).Nodup := by
        rw [ks]
        exact List.Pairwise.map _ (fun a b h z => h (Sum.inr.inj z)) nd
      have em : mergeK [] kvs = kvs := (mergeK_new (kvs := []) ndk (fun x _ z => by cases z)).trans (List.nil_append _)
      rw [em]
      intro c nc
      have cd : c ≠ dd := fun z => by rw [z, upd_same] at nc; cases nc
      refine ⟨_, rfl, _, rfl, Sum.inr n', rfl, upd_same, by rw [upd_ne (Ne.symm cd)]; exact upd_same, ?_⟩
      have e1 : mergeK [] [((Sum.inr n' : Key), V.ref t)] = [(Sum.inr n', .ref t)] := rfl
      have hin : (Sum.inr n' : Key) ∈ kvs.map (·.1) := by
        rw [ks]
        exact List.mem_map.mpr ⟨n', hn, rfl⟩
      have e2 : mergeK kvs [((Sum.inr n' : Key), V.ref t)] = kvs.map fun kv => if kv.1 = Sum.inr n' then (kv.1, V.ref t) else kv := putK_set _ hin
      rw [e1, e2]
      generalize hHf : upd (upd (upd (upd (upd H2 dd (.dK [])) dd (.dK kvs)) c (.dK [])) c (.dK [(Sum.inr n', V.ref t)])) dd (.dK (kvs.map fun kv => if kv.1 = Sum.inr n' then (kv.1, V.ref t) else kv)) = Hf
      have nc2 : H2 c = none := by
        rw [upd_ne cd, upd_ne cd] at nc
        exact nc
      have edf : Hf dd = some (.dK (kvs.map fun kv => if kv.1 = Sum.inr n' then (kv.1, V.ref t) else kv)) := by
        rw [← hHf, upd_same]
      have sF : Same H2 Hf := fun x o z => by
        have xd := ne_of_none z ndd
        have xc := ne_of_none z nc2
        rw [← hHf, upd_ne xd, upd_ne xc, upd_ne xc, upd_ne xd, upd_ne xd]
        exact z
      have sG : Same H Hf := fun x o z => sF _ _ (sA _ _ z)
      refine ⟨_, rfl, a, C, dx, _, _, rfl, sG _ _ ea, TC.cls, TC.n2, look2 _ _ _ _, ?_⟩
      refine ⟨_, rfl, a, C, dx, _, _, rfl, sG _ _ ea, TC.cls, TC.n3, look3 _ _ _ _, ?_⟩
      refine ⟨_, rfl, a, C, dx, _, _, rfl, sG _ _ ea, TC.cls, TC.n4, look4 _ _ _ _, ?_⟩
      have dz : Dq (fun _ => True) Hf (.ref t) (ratesD (newRate (isUp (.str sd)) i (up, dn))) := by
        rw [← hxy]
        exact .tup True.intro (sF _ _ et) (.cons (.int _) (.cons (.int _) .nil))
      obtain ⟨f1, f2⟩ := dict_set (n := n') (dA := ratesD) dz ks (al.move (fun _ f => f) fun b o _ z => sG _ _ z)
      exact ⟨.ref dd, v2, v3, v4, { p with people := setAt p.people n' (newRate (isUp (.str sd)) i (up, dn)) }, rfl, dict_mk edf f1 f2, d2.same sG, d3.same sG, .inl (d4.same sG), MadeTo.up hq sG⟩
    by_cases hsd : sd = "up"
    · subst hsd
      rw [show decide (V.str "up" = V.str "up") = true from decide_eq_true rfl]
      refine iteT ?_
      refine ⟨_, rfl, _, rfl, (show 2 ≤ sizeLine by decide), fun t nt => ?_⟩
      exact fin t i dn rfl nt
    · rw [show decide (V.str sd = V.str "up") = false from decide_eq_false fun z => hsd (V.str.inj z)]
      refine iteF ?_
      refine ⟨_, rfl, _, rfl, (show 2 ≤ sizeLine by decide), fun t nt => ?_⟩
      refine fin t up i ?_ nt
      show _ = newRate (decide (sd = "up")) i (up, dn)
      rw [decide_eq_false hsd]
      rfl
end
end G

set_option Elab.async false
set_option linter.all false
set_option maxRecDepth 100000
set_option maxHeartbeats 4000000
namespace G
open PySem PySem.Spec PyProof.Rows L2 U
open PySem.W (Frag)
/-! ### a pot of draws -/
def potL (own mix c : Int) : HO := .lst [.int own, .int mix, .int c]
def PotOk (own mix c : Int) (n : Nat) : Prop := 0 ≤ own ∧ 0 ≤ mix ∧ mix < 2305843009213693921 ∧ 0 ≤ c ∧ c ≤ n
def Pot (H : Hp) (p : Addr) (n : Nat) : Prop := ∃ own mix c, H p = some (potL own mix c) ∧ PotOk own mix c n
/-- all is kept but what stands at p -/
def Ext (p : Addr) (H H' : Hp) : Prop := ∀ b o, b ≠ p → H b = some o → H' b = some o
theorem Ext.refl (p : Addr) (H : Hp) : Ext p H H := fun _ _ _ e => e
theorem Ext.trans {p : Addr} {H H1 H2 : Hp} (a : Ext p H H1) (b : Ext p H1 H2) : Ext p H H2 := fun c o hc e => b c o hc (a c o hc e)
theorem Ext.upd (p : Addr) (H : Hp) (o : HO) : Ext p H (upd H p o) := fun b u hb e => by
  rw [upd_ne hb]
  exact e
theorem Ext.of {p : Addr} {H H' : Hp} (s : Same H H') : Ext p H H' := fun b o _ e => s b o e
/-- _law_take(pot, upto): some number below upto; the pot is another one -/
def spTake (n : Nat) : Sp := fun vs H Q _ => ∃ (p : Addr) (u : Int), vs = [.ref p, .int u] ∧ 0 < u ∧ u < 1000000 ∧ n ≤ 100000 ∧ Pot H p n ∧
  ∀ (d : Int) (H' : Hp), 0 ≤ d → d < u → Pot H' p (n + 1) → Ext p H H' → Q (.int d) H'
theorem scTake : FnScope ["_law_pot_here", "_law_upto", "_law_digit", "_law_prime", "_law_mixed"] ["_law_pot_here", "_law_upto"] (defScope s_Ltake) :=
  ⟨rfl, rfl, rfl, by decide +kernel, rfl, by decide +kernel, by decide +kernel⟩
section
variable {P : Program} {w : World} {K : Frag} {mg : Str → Option Value} {base : Heap} {f fT : Addr} {fd fdT : FuncData}
theorem primes (c : Int) (h0 : 0 ≤ c) : ∃ q : Int, 0 < q ∧ q ≤ 2147483647 ∧ atI ([V.int 2147483647, .int 2147483629, .int 2147483587, .int 2147483579, .int 2147483563]) (c % 5) = some (.int q) := by
  have h5 : c % 5 = 0 ∨ c % 5 = 1 ∨ c % 5 = 2 ∨ c % 5 = 3 ∨ c % 5 = 4 := by omega
  rcases h5 with h | h | h | h | h <;> rw [h] <;> exact ⟨_, by decide, by decide, rfl⟩
theorem ok_take (F : FnP K "_law_take" s_Ltake f fd) (gI : mg "int" = none) (n : Nat) : FnOk P w K mg base CX0 1 f fd ["_law_pot_here", "_law_upto"] (spTake n) := by
  refine F.ok scTake (fun vs H Q E h => ?_) (fun cdv A outer s H vs Q E hr h => ?_)
  · obtain ⟨p, u, rfl, _⟩ := h
    rfl
  · obtain ⟨p, u, rfl, hu0, hu1, hn, ⟨own, mix, c, hp, ho, hm0, hm1, hc0, hc1⟩, hq⟩ := h
    refine ⟨_, PSs.nox (pss_cons (ps_if (pt_cmpR op_gt (pe_ix ix_list (pv 0) pe_int (fun _ _ => rfl)) pe_int (nomark _))
      (pss_cons (ps_set (i := 2) scTake.nd rfl (Or.inl rfl) (pe_op op_mod (pe_callTy call_int1 (by rfl) gI PyProof.Rows.boot_int (pa_cons (pe_ix ix_list (pv 0) pe_int (fun _ _ => rfl)) pa_nil)) (pv 1)))
        (pss_cons (ps_asg (pe_op op_fdiv (pe_ix ix_list (pv 0) pe_int (fun _ _ => rfl)) (pv 1)) (pg_sub (pv 0) pe_int set_list))
        (pss_one (ps_ret (pv 2))))) pss_nil)
      (pss_cons (ps_asg (pe_op op_add (pe_ix ix_list (pv 0) pe_int (fun _ _ => rfl)) pe_int) (pg_sub (pv 0) pe_int set_list))
      (pss_cons (ps_set (i := 3) scTake.nd rfl (Or.inl rfl) (pe_ix ix_list (pe_lst (pa_cons pe_int (pa_cons pe_int (pa_cons pe_int (pa_cons pe_int (pa_cons pe_int pa_nil))))))
          (pe_op op_mod (pe_callTy call_int1 (by rfl) gI PyProof.Rows.boot_int (pa_cons (pe_ix ix_list (pv 0) pe_int (fun _ _ => rfl)) pa_nil)) pe_int) (fun _ _ => rfl)))
      (pss_cons (ps_set (i := 4) scTake.nd rfl (Or.inl rfl) (pe_op op_mod (pe_callTy call_int1 (by rfl) gI PyProof.Rows.boot_int (pa_cons (pe_op op_pow (pe_callTy call_int1 (by rfl) gI PyProof.Rows.boot_int (pa_cons
          (pe_op op_add (pe_op op_add (pe_ix ix_list (pv 0) pe_int (fun _ _ => rfl)) (pe_op op_mul (pe_op op_mul pe_int (pe_ix ix_list (pv 0) pe_int (fun _ _ => rfl))) (pe_ix ix_list (pv 0) pe_int (fun _ _ => rfl)))) pe_int) pa_nil)) pe_int) pa_nil)) (pv 3)))
      (pss_cons (ps_set (i := 4) scTake.nd rfl (Or.inl rfl) (pe_op op_mod (pe_callTy call_int1 (by rfl) gI PyProof.Rows.boot_int (pa_cons (pe_op op_mul (pv 4)
          (pe_op op_add (pe_op op_mod (pe_callTy call_int1 (by rfl) gI PyProof.Rows.boot_int (pa_cons (pv 4) pa_nil)) pe_int) (pe_op op_mul pe_int (pe_ix ix_list (pv 0) pe_int (fun _ _ => rfl))))) pa_nil)) pe_int))
      (pss_one (ps_ret (pe_op op_mod (pe_callTy call_int1 (by rfl) gI PyProof.Rows.boot_int (pa_cons (pe_op op_fdiv (pv 4) pe_int) pa_nil)) (pv 1))))))))), ?_⟩
    have hs : SqL K H p [.int own, .int mix, .int c] := .inl (.inl hp)
    refine ⟨_, rfl, p, _, 0, .int own, rfl, rfl, hs, rfl, _, _, rfl, rfl, _, rfl, ?_⟩
    by_cases h0 : (0 : Int) < own
    · rw [decide_eq_true h0]
      refine iteT ?_
      refine ⟨_, rfl, p, _, 0, .int own, rfl, rfl, hs, rfl, .inl ⟨own, rfl, _, rfl, own, u, rfl, rfl, hu0, ?_⟩⟩
      refine ⟨_, rfl, p, _, 0, .int own, rfl, rfl, hs, rfl, _, rfl, own, u, rfl, rfl, ⟨hu0, by omega⟩, ?_⟩
      refine ⟨_, rfl, p, _, 0, 0, rfl, rfl, hp, rfl, ?_⟩
      refine ⟨_, rfl, ?_⟩
      exact hq (own % u) _ (Int.emod_nonneg _ (by omega)) (Int.emod_lt_of_pos _ hu0) ⟨own / u, mix, c, upd_same, Int.ediv_nonneg ho (by omega), hm0, hm1, hc0, by omega⟩ (Ext.upd _ _ _)
    · rw [decide_eq_false h0]
      refine iteF ?_
      refine ⟨_, rfl, p, _, 2, .int c, rfl, rfl, hs, rfl, _, _, rfl, rfl, ?_⟩
      refine ⟨_, rfl, p, _, 2, 2, rfl, rfl, hp, rfl, ?_⟩
      have hp1 : upd H p (.lst (([.int own, .int mix, .int c] : List V).set 2 (.int (c + 1)))) p = some (potL own mix (c + 1)) := upd_same
      have hs1 : SqL K (upd H p (potL own mix (c + 1))) p [.int own, .int mix, .int (c + 1)] := .inl (.inl hp1)
      show tSeq _ _ _ _ (upd H p (potL own mix (c + 1)))
      refine ⟨(show 5 ≤ sizeLine by decide), fun l nl => ?_⟩
      have nlp : l ≠ p := Ne.symm (ne_of_none hp1 nl)
      have hs2 : SqL K (upd (upd H p (potL own mix (c + 1))) l (.lst [.int 2147483647, .int 2147483629, .int 2147483587, .int 2147483579, .int 2147483563])) p [.int own, .int mix, .int (c + 1)] := .inl (.inl (by rw [upd_ne (Ne.symm nlp)]; exact hp1))
      obtain ⟨q, q0, q1, hat⟩ := primes (c + 1) (by omega)
      refine ⟨_, rfl, p, _, 2, .int (c + 1), rfl, rfl, hs2, rfl, .inl ⟨_, rfl, c + 1, 5, rfl, rfl, (by show (0 : Int) < 5; decide), l, _, _, .int q, rfl, rfl, .inl (.inl upd_same), hat, ?_⟩⟩
      have hb : (mix + 102253 * (c + 1) * (c + 1) + 83).natAbs < 2 ^ 64 := by
        have h1 : 102253 * (c + 1) * (c + 1) ≤ 102253 * 100001 * 100001 := by
          have a1 : 102253 * (c + 1) ≤ 102253 * 100001 := by omega
          exact Int.mul_le_mul a1 (by omega) (by omega) (by decide)
        have h2 : 0 ≤ 102253 * (c + 1) * (c + 1) := Int.mul_nonneg (by omega) (by omega)
        omega
      refine ⟨_, rfl, p, _, 1, .int mix, rfl, rfl, hs2, rfl, _, rfl, p, _, 2, .int (c + 1), rfl, rfl, hs2, rfl, _, _, rfl, rfl, .inl ⟨by decide, by decide⟩, _, rfl, p, _, 2, .int (c + 1), rfl, rfl, hs2, rfl, _, _, rfl, rfl, .inr ⟨by omega, by omega⟩,
        _, _, rfl, rfl, _, _, rfl, rfl, .inl ⟨_, rfl, _, _, rfl, rfl, ⟨by decide, by decide, hb⟩, .inl ⟨_, rfl, _, rfl, _, _, rfl, rfl, q0, ?_⟩⟩⟩
      generalize hM : (mix + 102253 * (c + 1) * (c + 1) + 83) ^ (3 : Int).toNat % q = M
      have hM0 : 0 ≤ M := by rw [← hM]; exact Int.emod_nonneg _ (by omega)
      have hM1 : M < 2147483647 := by
        have := Int.emod_lt_of_pos ((mix + 102253 * (c + 1) * (c + 1) + 83) ^ (3 : Int).toNat) q0
        omega
      refine ⟨_, rfl, _, rfl, .inl ⟨_, rfl, _, _, rfl, rfl, (by show (0 : Int) < 10133; decide), _, rfl, p, _, 2, .int (c + 1), rfl, rfl, hs2, rfl, _, _, rfl, rfl, .inl ⟨by decide, by decide⟩, _, _, rfl, rfl, _, _, rfl, rfl, .inl ⟨by omega, by omega⟩,
        .inl ⟨_, rfl, _, _, rfl, rfl, (by show (0 : Int) < 2305843009213693907; decide), ?_⟩⟩⟩
      generalize hZ : M * (M % 10133 + 109 * (c + 1)) % 2305843009213693907 = Z
      refine ⟨_, rfl, _, _, rfl, rfl, ⟨by decide, by decide⟩, .inl ⟨_, rfl, _, rfl, _, _, rfl, rfl, hu0, ?_⟩⟩
      refine hq _ _ (Int.emod_nonneg _ (by omega)) (Int.emod_lt_of_pos _ hu0) ⟨own, mix, c + 1, by rw [upd_ne (Ne.symm nlp)]; exact hp1, ho, hm0, hm1, by omega, by omega⟩ ?_
      exact (Ext.upd p H _).trans fun b o hb' e => same_new nl b o e
end
end G
namespace G
open PySem PySem.Spec PyProof.Rows L2 U
open PySem.W (Frag)
section
variable {P : Program} {w : World} {K : Frag} {mg : Str → Option Value} {base : Heap} {f fT : Addr} {fd fdT : FuncData}
/-- _law_pot(script, k): a new pot -/
def spPot (K : Frag) : Sp := fun vs H Q _ => ∃ (a : Addr) (ns : List Int) (k : Int), vs = [.ref a, .int k] ∧ SqL K H a (ns.map V.int) ∧ 0 ≤ k ∧ k < 1000 ∧
  ∀ (p : Addr) (H' : Hp), H p = none → Pot H' p 0 → Same H H' → Q (.ref p) H'
theorem scPot : FnScope ["_law_script", "_law_k", "_law_cell", "_law_own", "_law_small"] ["_law_script", "_law_k"] (defScope s_Lpot) :=
  ⟨rfl, rfl, rfl, by decide +kernel, rfl, by decide +kernel, by decide +kernel⟩
theorem flag01 (b : Bool) : (-(2 ^ 64) < (if b = true then (1 : Int) else 0) ∧ (if b = true then (1 : Int) else 0) < 2 ^ 64) ∧ (0 : Int) ≤ (if b = true then (1 : Int) else 0) := by
  cases b <;> decide
theorem ok_pot (F : FnP K "_law_pot" s_Lpot f fd) (gI : mg "int" = none) (gL : mg "len" = none) (gA : mg "abs" = none) : FnOk P w K mg base CX0 1 f fd ["_law_script", "_law_k"] (spPot K) := by
  refine F.ok scPot (fun vs H Q E h => ?_) (fun cdv A outer s H vs Q E hr h => ?_)
  · obtain ⟨a, ns, k, rfl, _⟩ := h
    rfl
  · obtain ⟨a, ns, k, rfl, hs, hk0, hk1, hq⟩ := h
    refine ⟨_, PSs.nox (pss_cons (ps_set (i := 2) scPot.nd rfl (Or.inl rfl) (pe_ifExp (pt_cmpR op_lt (pv 1) (pe_callB call_len_seq (by rfl) gL PySem.boot_len (pa_cons (pv 0) pa_nil)) (nomark _))
        (pe_ix ix_list (pv 0) (pv 1) (fun _ _ => rfl)) (pe_op op_add (pe_op op_mul pe_int (pv 1)) pe_int)))
      (pss_cons (ps_set (i := 3) scPot.nd rfl (Or.inl rfl) (pe_op op_mul (pe_op op_mod (pe_callTy call_int1 (by rfl) gI PyProof.Rows.boot_int (pa_cons (pe_callB call_abs (by rfl) gA PyProof.Rows.boot_abs (pa_cons (pv 2) pa_nil)) pa_nil)) (pe_op op_powW (pe_op op_pow pe_int pe_int) pe_int))
        (pe_callTy call_int1 (by rfl) gI PyProof.Rows.boot_int (pa_cons (pe_cmpR op_ge (pe_callB call_abs (by rfl) gA PyProof.Rows.boot_abs (pa_cons (pv 2) pa_nil)) (pe_op op_pow pe_int pe_int) (nomark _)) pa_nil))))
      (pss_cons (ps_set (i := 4) scPot.nd rfl (Or.inl rfl) (pe_op op_mod (pe_callTy call_int1 (by rfl) gI PyProof.Rows.boot_int (pa_cons (pv 2) pa_nil)) pe_int))
      (pss_one (ps_ret (pe_lst (pa_cons (pv 3) (pa_cons (pe_op op_mod (pe_callTy call_int1 (by rfl) gI PyProof.Rows.boot_int (pa_cons (pe_op op_add (pe_op op_add (pe_op op_mul (pv 4) pe_int) (pe_op op_mul (pe_op op_mul pe_int (pv 1)) (pv 1))) pe_int) pa_nil)) pe_int) (pa_cons pe_int pa_nil))))))))), ?_⟩
    have pos300 : (0 : Int) < (10 ^ (60 : Int).toNat) ^ (5 : Int).toNat := by decide +kernel
    have hlen : ((ns.map V.int).length : Int) = (ns.length : Int) := by rw [List.length_map]
    refine ⟨_, rfl, _, rfl, a, _, rfl, .inl hs, _, _, rfl, rfl, _, rfl, ?_⟩
    by_cases h : k < ((ns.map V.int).length : Int)
    all_goals first | rw [decide_eq_true h] | rw [decide_eq_false h]
    · refine iteT ?_
      obtain ⟨cell, hcell⟩ : ∃ cell : Int, ns[k.toNat]? = some cell := ⟨ns[k.toNat]'(by omega), by rw [List.getElem?_eq_getElem]⟩
      have hat : atI (ns.map V.int) k = some (.int cell) := by
        have e : k = ((k.toNat : Nat) : Int) := by omega
        rw [e]
        refine atI_nat ?_
        rw [List.getElem?_map, hcell]
        rfl
      refine ⟨_, rfl, _, rfl, a, _, k, .int cell, rfl, rfl, hs, hat, ?_⟩
      refine ⟨_, rfl, cell, rfl, .inl ⟨_, rfl, _, _, rfl, rfl, ⟨by decide, by decide, by decide⟩, _, _, rfl, rfl, ⟨by decide, by decide +kernel⟩, _, _, rfl, rfl, pos300, _, rfl, cell, rfl, _, _, rfl, rfl, ⟨by decide, by decide, by decide⟩, _, _, rfl, rfl, .inr ⟨_, rfl, _, _, rfl, rfl, .inr (flag01 _).1, ?_⟩⟩⟩
      refine ⟨_, rfl, .inl ⟨cell, rfl, _, _, rfl, rfl, (by show (0 : Int) < 2305843009213693951; decide), ?_⟩⟩
      have sm0 : 0 ≤ (cell) % 2305843009213693951 := Int.emod_nonneg _ (by decide)
      have sm1 : (cell) % 2305843009213693951 < 2305843009213693951 := Int.emod_lt_of_pos _ (by decide)
      refine ⟨_, rfl, _, rfl, _, _, rfl, rfl, .inl ⟨by omega, by omega⟩, _, rfl, _, _, rfl, rfl, .inl ⟨by decide, by decide⟩, _, rfl, _, _, rfl, rfl, .inr ⟨by omega, by omega⟩, _, _, rfl, rfl, _, _, rfl, rfl, .inl ⟨_, rfl, _, _, rfl, rfl, (by show (0 : Int) < 2305843009213693921; decide), (show 3 ≤ sizeLine by decide), fun p np => ?_⟩⟩
      exact hq p _ np ⟨_, _, 0, upd_same, Int.mul_nonneg (Int.emod_nonneg _ (Int.ne_of_gt pos300)) (flag01 _).2, Int.emod_nonneg _ (by decide), Int.emod_lt_of_pos _ (by decide), by decide, by decide⟩ (same_new np)
    · refine iteF ?_
      refine ⟨_, rfl, 47, k, rfl, rfl, .inl ⟨by decide, by decide⟩, _, _, rfl, rfl, ?_⟩
      refine ⟨_, rfl, 47 * k + 37, rfl, .inl ⟨_, rfl, _, _, rfl, rfl, ⟨by decide, by decide, by decide⟩, _, _, rfl, rfl, ⟨by decide, by decide +kernel⟩, _, _, rfl, rfl, pos300, _, rfl, 47 * k + 37, rfl, _, _, rfl, rfl, ⟨by decide, by decide, by decide⟩, _, _, rfl, rfl, .inr ⟨_, rfl, _, _, rfl, rfl, .inr (flag01 _).1, ?_⟩⟩⟩
      refine ⟨_, rfl, .inl ⟨47 * k + 37, rfl, _, _, rfl, rfl, (by show (0 : Int) < 2305843009213693951; decide), ?_⟩⟩
      have sm0 : 0 ≤ (47 * k + 37) % 2305843009213693951 := Int.emod_nonneg _ (by decide)
      have sm1 : (47 * k + 37) % 2305843009213693951 < 2305843009213693951 := Int.emod_lt_of_pos _ (by decide)
      refine ⟨_, rfl, _, rfl, _, _, rfl, rfl, .inl ⟨by omega, by omega⟩, _, rfl, _, _, rfl, rfl, .inl ⟨by decide, by decide⟩, _, rfl, _, _, rfl, rfl, .inr ⟨by omega, by omega⟩, _, _, rfl, rfl, _, _, rfl, rfl, .inl ⟨_, rfl, _, _, rfl, rfl, (by show (0 : Int) < 2305843009213693921; decide), (show 3 ≤ sizeLine by decide), fun p np => ?_⟩⟩
      exact hq p _ np ⟨_, _, 0, upd_same, Int.mul_nonneg (Int.emod_nonneg _ (Int.ne_of_gt pos300)) (flag01 _).2, Int.emod_nonneg _ (by decide), Int.emod_lt_of_pos _ (by decide), by decide, by decide⟩ (same_new np)
end
end G
namespace G
open PySem PySem.Spec PyProof.Rows L2 U
open PySem.W (Frag)
theorem yes_if {σ : L2.St} {H : Hp} {A B : Hp → Prop} (h : A H) : tYes σ H (fun b H3 => if b = true then A H3 else B H3) := (iteT h : if true = true then A H else B H)
theorem Ext.seq {K : Frag} {p a : Addr} {H H' : Hp} {xs : List V} (e : Ext p H H') (h : SqL K H a xs) (hp : a ≠ p) : SqL K H' a xs := by
  rcases h with (h | ⟨o, h⟩) | h
  · exact .inl (.inl (e _ _ hp h))
  · exact .inl (.inr ⟨o, e _ _ hp h⟩)
  · exact .inr h
section
variable {P : Program} {w : World} {K : Frag} {mg : Str → Option Value} {base : Heap} {f fT : Addr} {fd fdT : FuncData}
/-- _law_of(pot, some): some item -/
def spOf (n : Nat) : Sp := fun vs H Q _ => ∃ (p l : Addr) (xs : List V), vs = [.ref p, .ref l] ∧ Pot H p n ∧ n ≤ 100000 ∧ H l = some (.lst xs) ∧ l ≠ p ∧ 0 < xs.length ∧ xs.length < 1000000 ∧
  ∀ (i : Nat) (v : V) (H' : Hp), xs[i]? = some v → Pot H' p (n + 1) → Ext p H H' → Q v H'
theorem scOf : FnScope P_Lof P_Lof (defScope s_Lof) := ⟨rfl, rfl, rfl, by decide +kernel, rfl, by decide +kernel, by decide +kernel⟩
theorem ok_of (F : FnP K "_law_of" s_Lof f fd) (FT : FnP K "_law_take" s_Ltake fT fdT) (gT : mg "_law_take" = some (.ref fT)) (gI : mg "int" = none) (gL : mg "len" = none) (n : Nat) : FnOk P w K mg base CX0 2 f fd P_Lof (spOf n) := by
  have GT : FnOk P w K mg base CX0 1 fT fdT ["_law_pot_here", "_law_upto"] (spTake n) := ok_take FT gI n
  have bT : Binds K fdT ["_law_pot_here", "_law_upto"] [] := FT.bindsN fun _ _ _ _ _ _ us hl => match us, hl with | [_, _], _ => rfl
  refine F.ok scOf (fun vs H Q E h => ?_) (fun cdv A outer s H vs Q E hr h => ?_)
  · obtain ⟨p, l, xs, rfl, _⟩ := h
    rfl
  · obtain ⟨p, l, xs, rfl, hp, hn, hl, hlp, h0, h1, hq⟩ := h
    refine ⟨_, PSs.nox (pss_one (ps_ret (pe_ix ix_list (pv 1) (pe_call GT hr (by rfl) gT FT.kp bT .nil pass0 (pa_cons (pv 0) (pa_cons (pe_callB call_len_seq (by rfl) gL PySem.boot_len (pa_cons (pv 1) pa_nil)) pa_nil))) (fun _ _ => rfl)))), ?_⟩
    refine ⟨_, rfl, _, rfl, _, rfl, l, xs, rfl, .inl (.inl (.inl hl)), p, _, rfl, by omega, by omega, hn, hp, fun d H' d0 d1 hp' hx => ?_⟩
    obtain ⟨j, rfl⟩ : ∃ j : Nat, d = (j : Int) := ⟨d.toNat, by omega⟩
    have hd : j < xs.length := by omega
    exact ⟨l, xs, j, xs[j], rfl, rfl, .inl (.inl (hx _ _ hlp hl)), atI_nat (List.getElem?_eq_getElem hd), hq j _ H' (List.getElem?_eq_getElem hd) hp' hx⟩
/-- _law_pots(script, limit): new pots -/
def spPots (K : Frag) : Sp := fun vs H Q _ => ∃ (a : Addr) (ns : List Int) (lim : Int), vs = [.ref a, .int lim] ∧ SqL K H a (ns.map V.int) ∧ 0 ≤ lim ∧ lim < 1000 ∧
  ∀ (l : Addr) (ps : List Addr) (H' : Hp), Same H H' → H' l = some (.lst (ps.map V.ref)) → ps.Nodup → ps.length ≤ 1000 → (∀ p ∈ ps, Pot H' p 0) → Q (.ref l) H'
theorem scPots : FnScope ["_law_script", "_law_limit", "_law_k"] ["_law_script", "_law_limit"] (defScope s_Lpots) := ⟨rfl, rfl, rfl, by decide +kernel, rfl, by decide +kernel, by decide +kernel⟩
theorem ok_pots (F : FnP K "_law_pots" s_Lpots f fd) (FT : FnP K "_law_pot" s_Lpot fT fdT) (gT : mg "_law_pot" = some (.ref fT)) (gI : mg "int" = none) (gL : mg "len" = none) (gA : mg "abs" = none) (gR : mg "range" = none) (gM : mg "max" = none) (gN : mg "min" = none) :
    FnOk P w K mg base CX0 2 f fd ["_law_script", "_law_limit"] (spPots K) := by
  have GT : FnOk P w K mg base CX0 1 fT fdT ["_law_script", "_law_k"] (spPot K) := ok_pot FT gI gL gA
  have bT : Binds K fdT ["_law_script", "_law_k"] [] := FT.bindsN fun _ _ _ _ _ _ us hl => match us, hl with | [_, _], _ => rfl
  refine F.ok scPots (fun vs H Q E h => ?_) (fun cdv A outer s H vs Q E hr h => ?_)
  · obtain ⟨a, ns, lim, rfl, _⟩ := h
    rfl
  · obtain ⟨a, ns, lim, rfl, hs, h0, h1, hq⟩ := h
    refine ⟨_, PSs.nox (pss_one (ps_ret (pe_lc (own := [("_law_k", 2)]) (g := gName 2) (tt := tYes) rfl scPots.nd
      (pi_range1 (by rfl) gR (pa_cons (pe_callB (call_max2 rfl) (by rfl) gM PyProof.Rows.boot_max (pa_cons pe_int (pa_cons (pe_callB (call_min2 rfl) (by rfl) gN (by decide +kernel) (pa_cons (pv 1) (pa_cons (pe_callB call_len_seq (by rfl) gL PySem.boot_len (pa_cons (pv 0) pa_nil)) pa_nil))) pa_nil))) pa_nil))
      (blkOk_by (N := ["_law_script", "_law_limit", "_law_k"]) (sc := defScope s_Lpots) (by decide +kernel)) (fun _ _ _ _ _ => pg_name (i := 2) scPots.nd rfl (Or.inl rfl)) (fun _ _ _ _ _ => pts_nil)
      (fun _ _ _ _ _ => pe_call GT hr (by rfl) gT FT.kp bT .nil pass0 (pa_cons (pv 0) (pa_cons (pv 2) pa_nil)))))), ?_⟩
    refine ⟨_, rfl, _, rfl, a, _, rfl, .inl hs, _, _, rfl, _, _, rfl, ?_⟩
    generalize hM : (if (if ((ns.map V.int).length : Int) < lim then ((ns.map V.int).length : Int) else lim) > 1 then (if ((ns.map V.int).length : Int) < lim then ((ns.map V.int).length : Int) else lim) else 1) = M
    have hM0 : 0 ≤ M ∧ M ≤ 1000 := by
      rw [← hM]
      split <;> split <;> omega
    refine ⟨M, rfl, by omega, by omega, fun D nD => lc_range (lo := 0) (n := M.toNat) (fun i H' => ∃ ps : List Addr, ps.length = i ∧ Same H H' ∧ H' D = some (.lst (ps.map V.ref)) ∧ ps.Nodup ∧ ∀ p ∈ ps, Pot H' p 0) ⟨[], rfl, same_new nD, upd_same, List.nodup_nil, fun p hp => nomatch hp⟩ ?_ ?_⟩
    · rintro i H1 hi ⟨ps, hl, sm, hD, nd, hps⟩
      refine ⟨rfl, yes_if ?_⟩
      refine ⟨_, rfl, _, rfl, a, ns, 0 + i, rfl, sm.seq hs, by omega, by omega, fun p H2 np hp s2 => ⟨ps.map V.ref, s2 _ _ hD, by rw [List.length_map, sizeLine_eq]; omega, ps ++ [p], by rw [List.length_append, hl]; rfl, ?_, ?_, ?_, ?_⟩⟩
      · exact fun b o e => by
          rw [upd_ne (ne_of_none e nD)]
          exact s2 b o (sm b o e)
      · rw [upd_same, List.map_append]
        rfl
      · refine List.nodup_append.mpr ⟨nd, by simp, fun x hx y hy => ?_⟩
        obtain ⟨_, _, _, ho, _⟩ := hps x hx
        rw [List.mem_singleton.mp hy]
        exact ne_of_none ho np
      · intro x hx
        have key : ∀ y : Addr, Pot H2 y 0 → Pot (upd H2 D (.lst (ps.map V.ref ++ [V.ref p]))) y 0 := fun y hy => by
          obtain ⟨o1, m1, c1, e1, ok1⟩ := hy
          have ne : y ≠ D := ne_of e1 (s2 _ _ hD) fun z => by
            have z1 := HO.lst.inj z
            cases ps with
            | nil => cases z1
            | cons q qs =>
              have z2 := (List.cons.inj z1).1
              cases z2
          exact ⟨o1, m1, c1, by rw [upd_ne ne]; exact e1, ok1⟩
        rcases List.mem_append.mp hx with h | h
        · obtain ⟨o1, m1, c1, e1, ok1⟩ := hps x h
          exact key x ⟨o1, m1, c1, s2 _ _ e1, ok1⟩
        · rw [List.mem_singleton.mp h]
          exact key p hp
    · rintro H1 ⟨ps, hl, sm, hD, nd, hps⟩
      exact hq D ps H1 sm hD nd (by omega) hps
end
end G

set_option Elab.async false
set_option linter.all false
set_option maxRecDepth 100000
set_option maxHeartbeats 4000000
namespace G
open PySem PySem.Spec PyProof.Rows L2 U
open PySem.W (Frag)
theorem pot_ne3 {H : Hp} {p l : Addr} {n : Nat} {xs : List V} (h : Pot H p n) (hl : H l = some (.lst xs)) (hx : ∀ i, V.int i ∉ xs) : l ≠ p := by
  obtain ⟨o1, m1, c1, e1, _⟩ := h
  refine ne_of hl e1 fun z => ?_
  have z1 := HO.lst.inj z
  exact hx o1 (by rw [z1]; exact List.mem_cons_self)
theorem Ext.seqT {K : Frag} {p a : Addr} {H H' : Hp} {xs : List V} (e : Ext p H H') (h : SqT K H a xs) (hp : a ≠ p) : SqT K H' a xs := by
  rcases h with (h | ⟨o, h⟩) | h
  · exact .inl (.inl (e _ _ hp h))
  · exact .inl (.inr ⟨o, e _ _ hp h⟩)
  · exact .inr h
theorem erase_perm {α : Type} : ∀ {xs : List α} {j : Nat} (h : j < xs.length), ([xs[j]] ++ xs.eraseIdx j).Perm xs
  | x :: xs, 0, _ => .refl _
  | x :: xs, j + 1, h => by
    have := erase_perm (xs := xs) (j := j) (Nat.lt_of_succ_lt_succ h)
    exact .trans (.swap x _ _) (.cons x this)
section
variable {P : Program} {w : World} {K : Frag} {mg : Str → Option Value} {base : Heap} {f fT fS : Addr} {fd fdT fdS : FuncData}
/-- _law_some(pot, pool, amount): so many of a pool, in some sequence -/
def spSome (K : Frag) (n : Nat) : Sp := fun vs H Q _ => ∃ (p l : Addr) (xs : List V) (m : Nat), vs = [.ref p, .ref l, .int m] ∧ Pot H p n ∧ n + m ≤ 100000 ∧ (SqL K H l xs ∨ SqT K H l xs) ∧ l ≠ p ∧ (∀ i, V.int i ∉ xs) ∧ m ≤ xs.length ∧ xs.length < 1000000 ∧
  ∀ (q : Addr) (ys rest : List V) (H' : Hp), H q = none → H' q = some (.lst ys) → ys.length = m → (ys ++ rest).Perm xs → Pot H' p (n + m) → Ext p H H' → Q (.ref q) H'
theorem ok_some (F : FnP K "_law_some" s_Lsome f fd) (FT : FnP K "_law_take" s_Ltake fT fdT) (gT : mg "_law_take" = some (.ref fT)) (gI : mg "int" = none) (gL : mg "len" = none) (gLi : mg "list" = none) (gR : mg "range" = none) (n : Nat) : FnOk P w K mg base CX0 2 f fd P_Lsome (spSome K n) := by
  have GT : ∀ n, FnOk P w K mg base CX0 1 fT fdT ["_law_pot_here", "_law_upto"] (spTake n) := fun n => ok_take FT gI n
  have GT' : FnOk P w K mg base CX0 1 fT fdT ["_law_pot_here", "_law_upto"] (fun vs H Q E => ∃ n, spTake n vs H Q E) := ⟨fun vs H Q E h => h.elim fun n h => (GT n).len vs H Q E h, fun A outer s H args us vs Q E h1 h2 h3 h4 h5 => h5.elim fun n h5 => (GT n).run A outer s H args us vs Q E h1 h2 h3 h4 h5⟩
  have bT : Binds K fdT ["_law_pot_here", "_law_upto"] [] := FT.bindsN fun _ _ _ _ _ _ us hl => match us, hl with | [_, _], _ => rfl
  refine F.ok sc_Lsome (fun vs H Q E h => ?_) (fun cdv A outer s H vs Q E hr h => ?_)
  · obtain ⟨p, l, xs, m, rfl, _⟩ := h
    rfl
  · obtain ⟨p, l, xs, m, rfl, hp, hn, hl, hlp, hx, hm, hxl, hq⟩ := h
    refine ⟨_, PSs.nox (pss_cons (ps_par (i := 3) (j := 4) (by rfl) sc_Lsome.nd rfl rfl (by decide) rfl rfl (pa_cons (pe_callTy call_list_of (by rfl) gLi (by decide +kernel) (pa_cons (pv 1) pa_nil)) (pa_cons (pe_lst pa_nil) pa_nil)) (by rfl))
      (pss_cons (ps_for PassesOwn.never rfl (pi_range1 (by rfl) gR (pa_cons (pv 2) pa_nil)) (pg_name (i := 5) sc_Lsome.nd rfl (Or.inl rfl))
        (pss_one (ps_expr (pe_bm PySem.F.plainAttrs_list PySem.F.slot_list_append PySem.F.type_list_append mt_append (pv 4) (pa_cons (pe_bm PySem.F.plainAttrs_list PySem.F.slot_list_pop PySem.F.type_list_pop mt_popAt (pv 3)
          (pa_cons (pe_call GT' hr (by rfl) gT FT.kp bT .nil pass0 (pa_cons (pv 0) (pa_cons (pe_callB call_len_seq (by rfl) gL PySem.boot_len (pa_cons (pv 3) pa_nil)) pa_nil))) pa_nil)) pa_nil)))))
      (pss_one (ps_ret (pv 4))))), ?_⟩
    refine ⟨_, rfl, l, xs, rfl, hl, fun a na => ?_⟩
    refine ⟨Nat.zero_le _, fun b nb => ?_⟩
    refine ⟨_, _, rfl, ?_⟩
    have s1 := same_new (o := .lst xs) na
    have s2 := same_new (o := .lst []) nb
    have sA : Same H (upd (upd H a (.lst xs)) b (.lst [])) := fun c o z => s2 _ _ (s1 _ _ z)
    have ea := s2 _ _ (upd_same (H := H) (a := a) (o := .lst xs))
    have eb := upd_same (H := upd H a (.lst xs)) (a := b) (o := .lst [])
    have hp1 : Pot (upd (upd H a (.lst xs)) b (.lst [])) p n := by
      obtain ⟨o1, m1, c1, e1, k1⟩ := hp
      exact ⟨o1, m1, c1, sA _ _ e1, k1⟩
    have nap : a ≠ p := by
      obtain ⟨o1, m1, c1, e1, k1⟩ := hp
      exact Ne.symm (ne_of_none e1 na)
    have nbp : b ≠ p := by
      obtain ⟨o1, m1, c1, e1, k1⟩ := hp
      exact Ne.symm (ne_of_none (s1 _ _ e1) nb)
    have nab : a ≠ b := ne_of_none (upd_same (H := H) (a := a) (o := .lst xs)) nb
    have nHb : H b = none := none_of_same s1 nb
    refine ⟨_, rfl, m, rfl, by omega, by omega, for_range (n := m) (fun i σ Hc => ∃ (o5 : Option V) (ys rest : List V), σ = [some (.ref p), some (.ref l), some (.int m), some (.ref a), some (.ref b), o5] ∧ Hc a = some (.lst rest) ∧ Hc b = some (.lst ys) ∧ ys.length = i ∧ (ys ++ rest).Perm xs ∧ Pot Hc p (n + i) ∧ Ext p H Hc)
      ⟨none, [], xs, rfl, ea, eb, rfl, .refl _, hp1, .of sA⟩ ?_ ?_⟩
    · rintro i σ Hc hi ⟨o5, ys, rest, rfl, ha, hb, hl, hpm, hpt, hx'⟩
      have hlen := hpm.length_eq
      rw [List.length_append] at hlen
      refine ⟨_, rfl, .inl ⟨rfl, _, SqL.of hb⟩, _, rfl, .inl ⟨rfl, _, SqL.of ha⟩, _, rfl, _, rfl, a, _, rfl, .inl (SqL.of ha), n + i, p, _, rfl, by omega, by omega, by omega, hpt, fun d H1 d0 d1 hp2 x2 => ?_⟩
      obtain ⟨j, rfl⟩ : ∃ j : Nat, d = (j : Int) := ⟨d.toNat, by omega⟩
      have hj : j < rest.length := by omega
      refine ⟨a, rest, j, j, rest[j], rfl, rfl, x2 _ _ nap ha, by omega, by omega, ?_, List.getElem?_eq_getElem hj, ?_⟩
      · unfold seqIndex?
        have e1 : ¬ ((j : Int) < 0) := by omega
        simp only [if_neg e1]
        rw [if_pos (by simp [hj])]
        rfl
      have hb2 : upd H1 a (.lst (rest.eraseIdx j)) b = some (.lst ys) := by
        rw [upd_ne (Ne.symm nab)]
        exact x2 _ _ nbp hb
      refine ⟨b, ys, _, rfl, rfl, hb2, by rw [sizeLine_eq]; omega, ?_⟩
      refine ⟨_, ys ++ [rest[j]], rest.eraseIdx j, rfl, ?_, upd_same, ?_, ?_, ?_, ?_⟩
      · rw [upd_ne nab, upd_same]
      · rw [List.length_append, hl]
        rfl
      · rw [List.append_assoc]
        refine .trans (.append_left _ ?_) hpm
        exact erase_perm hj
      · obtain ⟨o1, m1, c1, e1, k1⟩ := hp2
        exact ⟨o1, m1, c1, by rw [upd_ne (Ne.symm nbp), upd_ne (Ne.symm nap)]; exact e1, k1⟩
      · intro c o hc z
        by_cases c1 : c = b
        · rw [c1, nHb] at z
          cases z
        by_cases c2 : c = a
        · rw [c2, na] at z
          cases z
        rw [upd_ne c1, upd_ne c2]
        exact x2 _ _ hc (hx' _ _ hc z)
    · rintro σ Hc ⟨o5, ys, rest, rfl, ha, hb, hl, hpm, hpt, hx'⟩
      exact ⟨_, rfl, hq b ys rest Hc nHb hb hl hpm hpt hx'⟩
end
end G

set_option Elab.async false
set_option linter.all false
set_option maxRecDepth 100000
set_option maxHeartbeats 4000000
namespace G
open PySem PySem.Spec PyProof.Rows L2 U
open PySem.W (Frag)
/-! ### _law_names -/
def poolA : List Str := ["a", "b", "c", "d", "e", "f", "g", "h", "i", "j", "k", "l", "m", "n", "o", "p", "q", "r", "s", "t"]
def poolB : List Str := ["person", "lab", "result", "fact", "low", "high", "normal", "least", "from", "zzzzzzzz", "u", "v"]
def pool : List Str := poolA ++ poolB
def strOf : V → Str
  | .str x => x
  | _ => ""
theorem perm_strs {ys rest : List V} {xs : List Str} (h : (ys ++ rest).Perm (xs.map V.str)) : ∃ ns rs : List Str, ys = ns.map V.str ∧ (ns ++ rs).Perm xs := by
  have all : ∀ v ∈ ys ++ rest, v = V.str (strOf v) := fun v hv => by
    obtain ⟨x, _, rfl⟩ := List.mem_map.mp (h.mem_iff.mp hv)
    rfl
  refine ⟨ys.map strOf, rest.map strOf, ?_, ?_⟩
  · rw [List.map_map]
    refine (List.map_id _).symm.trans (List.map_congr_left fun v hv => ?_)
    exact all v (List.mem_append_left _ hv)
  · rw [← List.map_append]
    have z := h.map strOf
    rw [List.map_map] at z
    have e : (strOf ∘ V.str) = id := rfl
    rw [e, List.map_id] at z
    exact z
section
variable {P : Program} {w : World} {K : Frag} {mg : Str → Option Value} {base : Heap} {f fS : Addr} {fd fdS : FuncData}
def spNames (n : Nat) : Sp := fun vs H Q _ => ∃ (p : Addr) (m : Nat), vs = [.ref p, .int m] ∧ Pot H p n ∧ n + m ≤ 100000 ∧ m ≤ 32 ∧
  ∀ (q : Addr) (ns rest : List Str) (H' : Hp), H q = none → H' q = some (.lst (ns.map V.str)) → ns.length = m → (ns ++ rest).Perm pool → Pot H' p (n + m) → Ext p H H' → Q (.ref q) H'
theorem pool_no : ∀ i, V.int i ∉ poolA.map V.str ++ poolB.map V.str := fun i h => by
  rw [← List.map_append] at h
  obtain ⟨x, _, e⟩ := List.mem_map.mp h
  cases e
theorem ok_names (F : FnP K "_law_names" s_Lnames f fd) (GS : FnOk P w K mg base CX0 2 fS fdS P_Lsome (spSome K n)) (FS : FnP K "_law_some" s_Lsome fS fdS) (gS : mg "_law_some" = some (.ref fS)) : FnOk P w K mg base CX0 3 f fd P_Lnames (spNames n) := by
  have bS : Binds K fdS P_Lsome [] := FS.bindsN fun _ _ _ _ _ _ us hl => match us, hl with | [_, _, _], _ => rfl
  refine F.ok sc_Lnames (fun vs H Q E h => ?_) (fun cdv A outer s H vs Q E hr h => ?_)
  · obtain ⟨p, m, rfl, _⟩ := h
    rfl
  · obtain ⟨p, m, rfl, hp, hn, hm, hq⟩ := h
    refine ⟨_, PSs.nox (pss_cons (ps_set (i := 2) sc_Lnames.nd rfl (Or.inl rfl) (pe_lst (pa_cons pe_str (pa_cons pe_str (pa_cons pe_str (pa_cons pe_str (pa_cons pe_str (pa_cons pe_str (pa_cons pe_str (pa_cons pe_str (pa_cons pe_str (pa_cons pe_str (pa_cons pe_str (pa_cons pe_str (pa_cons pe_str (pa_cons pe_str (pa_cons pe_str (pa_cons pe_str (pa_cons pe_str (pa_cons pe_str (pa_cons pe_str (pa_cons pe_str pa_nil))))))))))))))))))))))
      (pss_cons (ps_set (i := 2) sc_Lnames.nd rfl (Or.inl rfl) (pe_op op_cat (pv 2) (pe_lst (pa_cons pe_str (pa_cons pe_str (pa_cons pe_str (pa_cons pe_str (pa_cons pe_str (pa_cons pe_str (pa_cons pe_str (pa_cons pe_str (pa_cons pe_str (pa_cons pe_str (pa_cons pe_str (pa_cons pe_str pa_nil)))))))))))))))
      (pss_one (ps_ret (pe_call GS hr (by rfl) gS FS.kp bS .nil pass0 (pa_cons (pv 0) (pa_cons (pv 2) (pa_cons (pv 1) pa_nil)))))))), ?_⟩
    refine ⟨Nat.le_trans (by show 20 ≤ 1000; omega) sizeLine_ge, fun a na => ?_⟩
    refine ⟨_, rfl, Nat.le_trans (by show 12 ≤ 1000; omega) sizeLine_ge, fun b nb => ?_⟩
    have s1 := same_new (o := .lst (poolA.map V.str)) na
    have s2 := same_new (o := .lst (poolB.map V.str)) nb
    refine ⟨a, b, poolA.map V.str, poolB.map V.str, rfl, rfl, s2 _ _ upd_same, upd_same, Nat.le_trans (by show 32 ≤ 1000; omega) sizeLine_ge, fun c nc => ?_⟩
    have s3 := same_new (o := .lst (poolA.map V.str ++ poolB.map V.str)) nc
    have sA : Same H (upd (upd (upd H a (.lst (poolA.map V.str))) b (.lst (poolB.map V.str))) c (.lst (poolA.map V.str ++ poolB.map V.str))) := fun x o z => s3 _ _ (s2 _ _ (s1 _ _ z))
    have hp1 : Pot (upd (upd (upd H a (.lst (poolA.map V.str))) b (.lst (poolB.map V.str))) c (.lst (poolA.map V.str ++ poolB.map V.str))) p n := by
      obtain ⟨o1, m1, c1, e1, k1⟩ := hp
      exact ⟨o1, m1, c1, sA _ _ e1, k1⟩
    refine ⟨_, rfl, _, rfl, _, rfl, p, c, poolA.map V.str ++ poolB.map V.str, m, rfl, hp1, hn, .inl (SqL.of upd_same), pot_ne3 hp1 upd_same pool_no, pool_no, (by show m ≤ 32; exact hm), (by show 32 < 1000000; omega), fun q ys rest H' nq eq hl hpm hpt hx => ?_⟩
    rw [← List.map_append] at hpm
    obtain ⟨ns, rs, rfl, hpn⟩ := perm_strs hpm
    rw [List.length_map] at hl
    exact hq q ns rs H' (none_of_same sA nq) eq hl hpn hpt ((Ext.of sA).trans hx)
end
end G

set_option Elab.async false
set_option linter.all false
set_option maxRecDepth 100000
set_option maxHeartbeats 4000000
namespace U
open PySem PySem.Spec PyProof.Rows L2
open PySem.W (Frag)
/-! ### code objects' tables -/
def isTabO : Obj → Bool
  | ⟨.none, none, .fields vs, sl⟩ => vs.isEmpty && sl.isEmpty
  | _ => false
theorem isTabO_ok {o : Obj} (h : isTabO o = true) : o = { cls := .none, data := .fields #[] } := by
  unfold isTabO at h
  split at h
  · rename_i vs sl
    obtain ⟨h1, h2⟩ := He.ba h
    have e1 : vs = #[] := Array.isEmpty_iff.mp h1
    have e2 : sl = #[] := Array.isEmpty_iff.mp h2
    subst e1 e2
    rfl
  · cases h
def codeHdB (K : Frag) (c P : Addr) : Bool := match K.lookup c with
  | some ⟨.type t, _, .fields vs, _⟩ => decide (t = "code") && (decide (vs[11]? = some (.ref P)) && (decide (vs.getD 11 .none = .ref P) && ((match vs.getD 18 .none with
      | .str _ _ => true
      | _ => false) && ((match vs.getD 7 .none with
      | .int _ _ => true
      | _ => false) && ((match vs.getD 9 .none with
      | .bool _ => true
      | _ => false) && ((match vs.getD 10 .none with
      | .int _ _ => true
      | _ => false) && decide (c ≠ P)))))))
  | _ => false
theorem codeHdB_ok {K : Frag} {h : Heap} {c P : Addr} (X : K.In h) (b : codeHdB K c P = true) : PySem.W.CodeHd h c P := by
  unfold codeHdB at b
  split at b
  · rename_i t od vs sl hc
    obtain ⟨b1, b⟩ := He.ba b
    obtain ⟨b2, b⟩ := He.ba b
    obtain ⟨b3, b⟩ := He.ba b
    obtain ⟨b4, b⟩ := He.ba b
    obtain ⟨b5, b⟩ := He.ba b
    obtain ⟨b6, b⟩ := He.ba b
    obtain ⟨b7, b8⟩ := He.ba b
    have e1 : t = "code" := of_decide_eq_true b1
    subst e1
    split at b4
    · rename_i file tf h4
      split at b5
      · rename_i fl tg h5
        split at b6
        · rename_i inF h6
          split at b7
          · rename_i tx tt h7
            exact ⟨_, vs, file, tf, fl, tg, inF, tx, tt, X c _ hc, rfl, rfl, of_decide_eq_true b2, of_decide_eq_true b3, h4, h5, h6, h7, of_decide_eq_true b8⟩
          · cases b7
        · cases b6
      · cases b5
    · cases b4
  · cases b
def codeAt (K : Frag) (f : Addr) : Value := match K.lookup f with
  | some ⟨_, _, .func fd, _⟩ => fd.code
  | _ => .none
/-- the def x has a code object with an empty table, which K leaves out -/
def tabOkB (g : Addr → Option Obj) (K : Frag) (x : Str) : Bool := match PySem.W.tabIn K x with
  | some (c, P) => (match g P with
    | some o => isTabO o
    | none => false) && (codeHdB K c P && (decide (codeAt K (He.ga K x) = .ref c) && (K.lookup P).isNone))
  | none => false
theorem tabOkB_ok {K : Frag} {h : Heap} {x : Str} (X : K.In h) (b : tabOkB h.get? K x = true) :
    ∃ c P, codeAt K (He.ga K x) = .ref c ∧ PySem.W.CodeHd h c P ∧ h.get? P = some { cls := .none, data := .fields #[] } ∧ K.lookup P = none := by
  unfold tabOkB at b
  split at b
  · rename_i c P ht
    obtain ⟨b1, b⟩ := He.ba b
    obtain ⟨b2, b⟩ := He.ba b
    obtain ⟨b3, b4⟩ := He.ba b
    split at b1
    · rename_i o ho
      exact ⟨c, P, of_decide_eq_true b3, codeHdB_ok X b2, by rw [← isTabO_ok b1]; exact ho, Option.isNone_iff_eq_none.mp b4⟩
    · cases b1
  · cases b
/-! ### defs and properties at an address -/
def fnAt (K : Frag) (f : Addr) : He.FnW := match K.lookup f with
  | some ⟨_, _, .func fd, _⟩ => some (fd.name, fd.qualname, fd.params, fd.body, fd.scope, fd.globals, fd.closure, fd.builtins)
  | _ => none
def okAt (K : Frag) (f : Addr) (qual : Str) : Bool := PySem.W.keepIn K (.ref f) && (match K.lookup f with
  | some ⟨_, _, .func fd, _⟩ => PySem.W.codeIn K fd.code qual && (He.dflB K fd.defaults [] && He.kwdB K fd.kwdefaults [])
  | _ => false)
theorem funAt {K : Frag} {f : Addr} {name qual : Str} {params : Arguments} {body : List Stmt} {scope : Scope} (e : fnAt K f = some (name, qual, params, .stmts body, scope, mainGlobals, [], builtinsNs)) (c : okAt K f qual = true) : ∃ fd, FunD K name qual params body scope [] [] f fd := by
  obtain ⟨kp, c2⟩ := He.ba c
  unfold fnAt at e
  cases q : K.lookup f with
  | none =>
    rw [q] at c2
    cases c2
  | some o =>
    obtain ⟨oc, od, dt, osl⟩ := o
    rw [q] at c2 e
    cases dt with
    | func fd =>
      obtain ⟨n1, n2, n3, n4, n5, n6, n7, n8, n9, n10, n11, n12, n13, n14, n15⟩ := fd
      have e2 : (some (n1, n2, n3, n4, n5, n6, n7, n15) : He.FnW) = some (name, qual, params, .stmts body, scope, mainGlobals, [], builtinsNs) := e
      simp only [Option.some.injEq, Prod.mk.injEq] at e2
      obtain ⟨h1, h2, h3, h4, h5, h6, h7, h8⟩ := e2
      subst h1 h2 h3 h4 h5 h6 h7 h8
      have c3 : (PySem.W.codeIn K n13 n2 && (He.dflB K n8 [] && He.kwdB K n9 [])) = true := c2
      obtain ⟨k1, k2⟩ := He.ba c3
      obtain ⟨k3, k4⟩ := He.ba k2
      exact ⟨_, ⟨oc, od, n8, n9, n10, n11, n12, n13, n14, osl, rfl, q, k1, He.dflB_ok k3, He.kwdB_ok k4⟩, kp⟩
    | _ => cases c2
def propA (K : Frag) (C : Addr) (f : Str) : Addr × Addr := match PySem.W.findIn K (.ref C) f with
  | some (some (.ref p)) => (match PySem.W.recIn K p "property" with
    | some (.ref g :: _) => (p, g)
    | _ => (0, 0))
  | _ => (0, 0)
def propB (K : Frag) (C : Addr) (f : Str) : Bool := decide (PySem.W.findIn K (.ref C) f = some (some (.ref (propA K C f).1))) && (decide (PySem.W.specialIn K (.ref (propA K C f).1) "__get__" = some (some (.builtin "property.__get__"))) && (decide (PySem.W.takesIn K (.ref (propA K C f).1) = some true) &&
  (match PySem.W.recIn K (propA K C f).1 "property" with
    | some (.ref g :: _) => decide (g = (propA K C f).2)
    | _ => false)))
theorem propB_ok {K : Frag} {C : Addr} {f : Str} (h : propB K C f = true) : PropOf K C f (propA K C f).1 (propA K C f).2 := by
  unfold propB at h
  obtain ⟨h1, h⟩ := He.ba h
  obtain ⟨h2, h⟩ := He.ba h
  obtain ⟨h3, h4⟩ := He.ba h
  refine ⟨of_decide_eq_true h1, of_decide_eq_true h2, of_decide_eq_true h3, ?_⟩
  split at h4
  · rename_i g rest hr
    rw [← of_decide_eq_true h4]
    exact ⟨rest, hr⟩
  · cases h4
def slotB (K : Frag) (C : Addr) (f : Str) (i : Nat) : Bool := decide (PySem.W.findIn K (.ref C) f = some (some (.ref (He.ma K C f)))) && (decide (PySem.W.specialIn K (.ref (He.ma K C f)) "__get__" = some (some (.builtin "member_descriptor.__get__"))) && (decide (PySem.W.takesIn K (.ref (He.ma K C f)) = some true) &&
  (decide (PySem.W.typeIn K (.ref (He.ma K C f)) = some (.type "member_descriptor")) && (decide (PySem.W.slotIn K (He.ma K C f) C = some i) && decide (i < 1000)))))
theorem slotB_ok {K : Frag} {C : Addr} {f : Str} {i : Nat} (h : slotB K C f i = true) : SlX.Slot1 K C f (He.ma K C f) i := by
  unfold slotB at h
  obtain ⟨h1, h⟩ := He.ba h
  obtain ⟨h2, h⟩ := He.ba h
  obtain ⟨h3, h⟩ := He.ba h
  obtain ⟨h4, h⟩ := He.ba h
  obtain ⟨h5, h6⟩ := He.ba h
  exact ⟨of_decide_eq_true h1, of_decide_eq_true h2, of_decide_eq_true h3, of_decide_eq_true h4, of_decide_eq_true h5, of_decide_eq_true h6⟩
def sclsB (K : Frag) (C : Addr) : Bool := PySem.W.plainGet K C Str.empty && (PySem.W.isClsIn K C && (PySem.W.plainOver K C && decide (PySem.W.findIn K (.ref C) "__setattr__" = some (some (.builtin "object.__setattr__")))))
theorem sclsB_ok {K : Frag} {C : Addr} (h : sclsB K C = true) : SlX.SCls K C := by
  unfold sclsB at h
  obtain ⟨h1, h⟩ := He.ba h
  obtain ⟨h2, h⟩ := He.ba h
  obtain ⟨h3, h4⟩ := He.ba h
  exact ⟨h1, h2, h3, of_decide_eq_true h4⟩
/-! ### the hook -/
def isCode : Value → Bool
  | .type t => decide (t = "code")
  | _ => false
/-- what an object names, code objects being leaves -/
def refsW (o : Obj) : List Addr := match o.data with
  | .seq its _ => its.toList.flatMap He.refV
  | .dict es _ => es.toList.flatMap fun e => He.refV e.val
  | .func fd => He.refV fd.code ++ (He.refV fd.defaults ++ (He.refV fd.kwdefaults ++ fd.closure.map (·.2)))
  | .cls cd => cd.ns :: cd.mro.flatMap He.refV
  | .fields vs => if isCode o.cls = true then [] else vs.toList.flatMap He.refV
  | .cell (some v) => He.refV v
  | _ => []
def nextA (g : Addr → Option Obj) (as : List Addr) : List Addr := as.flatMap fun a => match g a with
  | some o => refsW o
  | none => []
def asW (g : Addr → Option Obj) : Nat → List Addr → List Addr
  | 0, as => as
  | n + 1, as => as ++ asW g n (nextA g as).eraseDups
def asV (g : Addr → Option Obj) (n : Nat) : List Addr := asW g n [mainGlobals] ++ [cStatics, sysModules]
abbrev AlV : Type := He.AlT × Bool × FnC × List He.FnW × Bool
def obsK (fa : List He.Fa) (fn : List He.DefD) (ts : List He.Tab) (ex : Frag → Bool) (fc : Frag → FnC) (gf : List (Frag → Addr)) (lams : List Str) (g : Addr → Option Obj) (K : Frag) : AlV :=
  (He.obsT fa fn ts K, ex K, fc K, gf.map (fun f => fnAt K (f K)), lams.all (tabOkB g K))
def obsV (n : Nat) (fa : List He.Fa) (fn : List He.DefD) (ts : List He.Tab) (ex : Frag → Bool) (fc : Frag → FnC) (gf : List (Frag → Addr)) (lams : List Str) (g : Addr → Option Obj) : AlV := obsK fa fn ts ex fc gf lams g (He.frG g (asV g n))
structure SaysV (fa : List He.Fa) (fn : List He.DefD) (ts : List He.Tab) (ex : Frag → Bool) (fc : Frag → FnC) (vc : FnC) (gf : List (Frag → Addr)) (gv : List He.FnW) (lams : List Str) (w : World) (h : Heap) (K : Frag) : Prop where
  in_ : K.In h
  t : He.SaysT fa fn ts w K
  ex : ex K = true
  fc : fc K = vc
  gf : gf.map (fun f => fnAt K (f K)) = gv
  lam : ∀ x ∈ lams, ∃ c P, codeAt K (He.ga K x) = .ref c ∧ PySem.W.CodeHd h c P ∧ h.get? P = some { cls := .none, data := .fields #[] } ∧ K.lookup P = none
def hookV (n : Nat) (fa : List He.Fa) (fn : List He.DefD) (ts : List He.Tab) (ex : Frag → Bool) (fc : Frag → FnC) (vc : FnC) (gf : List (Frag → Addr)) (gv : List He.FnW) (lams : List Str) : PySem.W.Hook where
  α := AlV
  obs := fun s => obsV n fa fn ts ex fc gf lams s.heap.get?
  val := fun w => (He.valT fn ts w, true, vc, gv, true)
  says := fun w h => ∃ K : Frag, SaysV fa fn ts ex fc vc gf gv lams w h K
  of := fun w s e => by
    refine ⟨_, He.frG_in, congrArg (fun z : AlV => z.1) e, congrArg (fun z : AlV => z.2.1) e, congrArg (fun z : AlV => z.2.2.1) e, congrArg (fun z : AlV => z.2.2.2.1) e, fun x hx => ?_⟩
    have b : lams.all (tabOkB s.heap.get? (He.frG s.heap.get? (asV s.heap.get? n))) = true := congrArg (fun z : AlV => z.2.2.2.2) e
    exact tabOkB_ok He.frG_in (List.all_eq_true.mp b x hx)
  keeps := fun _ _ _ ⟨K, c⟩ k => ⟨K, PySem.W.Frag.In.keeps c.in_ k, c.t, c.ex, c.fc, c.gf, fun x hx => by
    obtain ⟨a, P, h1, h2, h3, h4⟩ := c.lam x hx
    exact ⟨a, P, h1, h2.keeps k, k _ _ h3, h4⟩⟩
theorem obsV_eq {n : Nat} {fa : List He.Fa} {fn : List He.DefD} {ts : List He.Tab} {ex : Frag → Bool} {fc : Frag → FnC} {vc : FnC} {gf : List (Frag → Addr)} {gv : List He.FnW} {lams : List Str} {g : Addr → Option Obj} {s : Shared} (h : ∀ a, g a = s.heap.get? a) : obsV n fa fn ts ex fc gf lams g = (hookV n fa fn ts ex fc vc gf gv lams).obs s := by
  have e : g = s.heap.get? := funext h
  subst e
  rfl
end U

set_option Elab.async false
set_option linter.all false
set_option maxRecDepth 100000
set_option maxHeartbeats 4000000
namespace G
open PySem PySem.Spec PyProof.Rows L2 U
open PySem.W (Frag)
/-! ### the law's own texts: _law_print_text, _law_claim_text, _law_table_text -/
theorem atom_dq {F : Addr → Prop} {H : Hp} {d : PyData} (h : isAtom d = true) : Dq F H (wordV d) d := by
  cases d with
  | str s => exact .str s
  | int i => exact .int i
  | _ => cases h
section
variable {P : Program} {w : World} {K : Frag} {mg : Str → Option Value} {base : Heap}
def sp_Lprint : Sp := fun vs H Q _ => ∃ d, vs = [wordV d] ∧ isAtom d = true ∧ Q (.str (wordS d)) H
theorem has_Lprint (F : Fn K mg "_law_print_text" s_Lprint_text) (gI : mg "isinstance" = none) (gS : mg "str" = none) : Has P w K mg base 1 "_law_print_text" P_Lprint_text [] sp_Lprint := by
  obtain ⟨⟨fd, F⟩, g⟩ := F
  refine ⟨⟨fd, [], ?_, F.kp, .nil, F.bindsN fun _ _ _ _ _ _ us hl => match us, hl with | [_], _ => rfl⟩, g⟩
  refine F.ok sc_Lprint_text (fun vs H Q E h => ?_) (fun cdv A outer s H vs Q E hr h' => ?_)
  · obtain ⟨d, rfl, _⟩ := h
    rfl
  · obtain ⟨d, rfl, hd, hq⟩ := h'
    refine ⟨_, PSs.nox (pss_one (ps_ret (pe_ifExp (pt_val (pe_callB call_isiD (by rfl) gI (by decide +kernel) (pa_cons (pv 0) (pa_cons (pe_bltn (by rfl) gS (v := .ty "str") (u := .type "str") (by decide +kernel) rfl) pa_nil)))) (pv 0) (pe_callTy call_strOf (by rfl) gS (by decide +kernel) (pa_cons (pv 0) pa_nil))))), ?_⟩
    cases d with
    | str x => exact ⟨_, rfl, fun _ => True, _, .str x, "str", true, rfl, .str x, (show kitB "str" "str" = some true by decide +kernel), true, rfl, iteT ⟨_, rfl, hq⟩⟩
    | int i => exact ⟨_, rfl, fun _ => True, _, .int i, "str", false, rfl, .int i, (show kitB "int" "str" = some false by decide +kernel), false, rfl, iteF ⟨_, rfl, .inl ⟨i, rfl, of_decide_eq_true hd, hq⟩⟩⟩
    | _ => cases hd
def WordsFit (ds : List PyData) : Prop := ds.length ≤ 1000 ∧ (∀ d ∈ ds, isAtom d = true) ∧ ((ds.map wordS).map (·.length)).sum + ds.length ≤ 16777216
theorem bd_blank {ds : List PyData} (h : WordsFit ds) : ((ds.map wordS).map (·.length)).sum + (ds.map wordS).length * sBlank.length ≤ 16777216 := by
  rw [show sBlank.length = 1 from rfl, Nat.mul_one, List.length_map]
  exact h.2.2
def sp_Lclaim (K : Frag) : Sp := fun vs H Q _ => ∃ (a : Addr) (ds : List PyData), vs = [.ref a] ∧ SqT K H a (ds.map wordV) ∧ WordsFit ds ∧ RetS H (.str (lineS ds)) Q
theorem has_Lclaim (F : Fn K mg "_law_claim_text" s_Lclaim_text) (hP : Has P w K mg base 1 "_law_print_text" P_Lprint_text [] sp_Lprint) : Has P w K mg base 2 "_law_claim_text" P_Lclaim_text [] (sp_Lclaim K) := by
  obtain ⟨⟨fd, F⟩, g⟩ := F
  refine ⟨⟨fd, [], ?_, F.kp, .nil, F.bindsN fun _ _ _ _ _ _ us hl => match us, hl with | [_], _ => rfl⟩, g⟩
  refine F.ok sc_Lclaim_text (fun vs H Q E h => ?_) (fun cdv A outer s H vs Q E hr h' => ?_)
  · obtain ⟨a, ds, rfl, _⟩ := h
    rfl
  · obtain ⟨a, ds, rfl, ha, fit, hq⟩ := h'
    refine ⟨_, PSs.nox (pss_one (ps_ret (pe_join pe_str (pe_lc (own := [("_law_word", 1)]) (g := gName 1) (tt := tYes) rfl sc_Lclaim_text.nd (pi_tup (pv 0)) (blkOk_by (N := N_Lclaim_text) (sc := defScope s_Lclaim_text) (by decide +kernel)) (fun _ _ _ _ _ => pg_name (i := 1) sc_Lclaim_text.nd rfl (Or.inl rfl)) (fun _ _ _ _ _ => pts_nil)
      (fun _ _ _ _ _ => pe_has hP hr (pa_cons (pv 1) pa_nil)))))), ?_⟩
    refine ⟨⟨_, rfl⟩, _, rfl, a, rfl, ⟨_, ha⟩, fun D nD => lc_vals (walk_tup (xs := ds.map wordV)) nD ((ds.map wordS).map V.str) (by rw [List.length_map, List.length_map, List.length_map]) (by rw [List.length_map]; have := fit.1; omega) (fun Hc sc => sqT_same ha sc) ?_ fun H1 s1 e1 => ?_⟩
    · rintro i x y Hc Hc' k hy sc ⟨rfl, hx⟩ hk
      rw [List.getElem?_map, Option.map_eq_some_iff] at hx
      obtain ⟨d, hd, rfl⟩ := hx
      rw [List.getElem?_map, List.getElem?_map, hd] at hy
      have hy : V.str (wordS d) = y := Option.some.inj hy
      subst hy
      exact ⟨rfl, _, rfl, d, rfl, fit.2.1 d (List.mem_of_getElem? hd), hk _ (Same.refl _)⟩
    · exact ⟨sBlank, D, ds.map wordS, rfl, rfl, .inl (SqL.of e1), bd_blank fit, hq H1 s1⟩
def tabS (t : Tab) : Str := lineS (tabW t)
theorem tab_words (t : Tab) : t.vs = (tabW t).map wordV := rfl
def TabFit (t : Tab) : Prop := WordsFit (tabW t)
def sp_Ltable (K : Frag) : Sp := fun vs H Q _ => ∃ (a : Addr) (t : Tab), vs = [.ref a] ∧ SqT K H a t.vs ∧ TabFit t ∧ RetS H (.str (tabS t)) Q
theorem has_Ltable (F : Fn K mg "_law_table_text" s_Ltable_text) (gS : mg "str" = none) : Has P w K mg base 1 "_law_table_text" P_Ltable_text [] (sp_Ltable K) := by
  obtain ⟨⟨fd, F⟩, g⟩ := F
  refine ⟨⟨fd, [], ?_, F.kp, .nil, F.bindsN fun _ _ _ _ _ _ us hl => match us, hl with | [_], _ => rfl⟩, g⟩
  refine F.ok sc_Ltable_text (fun vs H Q E h => ?_) (fun cdv A outer s H vs Q E hr h' => ?_)
  · obtain ⟨a, t, rfl, _⟩ := h
    rfl
  · obtain ⟨a, t, rfl, ha, fit, hq⟩ := h'
    have fit : WordsFit (tabW t) := fit
    rw [tab_words] at ha
    have hq : RetS H (.str (lineS (tabW t))) Q := hq
    generalize hds : tabW t = ds at *
    refine ⟨_, PSs.nox (pss_one (ps_ret (pe_join pe_str (pe_lc (own := [("_law_number", 1)]) (g := gName 1) (tt := tYes) rfl sc_Ltable_text.nd (pi_tup (pv 0)) (blkOk_by (N := N_Ltable_text) (sc := defScope s_Ltable_text) (by decide +kernel)) (fun _ _ _ _ _ => pg_name (i := 1) sc_Ltable_text.nd rfl (Or.inl rfl)) (fun _ _ _ _ _ => pts_nil)
      (fun _ _ _ _ _ => pe_callTy call_strOf (by rfl) gS (by decide +kernel) (pa_cons (pv 1) pa_nil)))))), ?_⟩
    refine ⟨⟨_, rfl⟩, _, rfl, a, rfl, ⟨_, ha⟩, fun D nD => lc_vals (walk_tup (xs := ds.map wordV)) nD ((ds.map wordS).map V.str) (by rw [List.length_map, List.length_map, List.length_map]) (by rw [List.length_map]; have := fit.1; omega) (fun Hc sc => sqT_same ha sc) ?_ fun H1 s1 e1 => ?_⟩
    · rintro i x y Hc Hc' k hy sc ⟨rfl, hx⟩ hk
      rw [List.getElem?_map, Option.map_eq_some_iff] at hx
      obtain ⟨d, hd, rfl⟩ := hx
      rw [List.getElem?_map, List.getElem?_map, hd] at hy
      have hy : V.str (wordS d) = y := Option.some.inj hy
      subst hy
      have at' := fit.2.1 d (List.mem_of_getElem? hd)
      refine ⟨rfl, _, rfl, ?_⟩
      cases d with
      | int i => exact .inl ⟨i, rfl, of_decide_eq_true at', hk _ (Same.refl _)⟩
      | str x => exact .inr ⟨x, rfl, hk _ (Same.refl _)⟩
      | _ => cases at'
    · exact ⟨sBlank, D, ds.map wordS, rfl, rfl, .inl (SqL.of e1), bd_blank fit, hq H1 s1⟩
end
end G

set_option Elab.async false
set_option linter.all false
set_option maxRecDepth 100000
set_option maxHeartbeats 4000000
namespace G
open PySem PySem.Spec PyProof.Rows L2 U
open PySem.W (Frag)
def loreD (p : Parts) : PyData := .dict [(.str "people", .list (p.people.map fun x => .tuple [.str x.1, .int x.2.1, .int x.2.2])), (.str "labs", .list (p.labs.map fun l => .tuple [.str l.1, .list (l.2.map Tab.d)])),
  (.str "results", .list (p.rows.map fun r => .tuple [.str r.1, .str r.2.person, .str r.2.lab, .int r.2.day, r.2.pr.d])), (.str "facts", .list p.facts)]
/-- where the lists of a lore lie -/
structure LoreAt (H : Hp) (a a1 a2 a3 a4 : Addr) (xs1 xs2 xs3 xs4 : List V) (p : Parts) : Prop where
  get : ∀ H', Same H H' → DGet H' a (.str "people") (some (.ref a1)) ∧ DGet H' a (.str "labs") (some (.ref a2)) ∧ DGet H' a (.str "results") (some (.ref a3)) ∧ DGet H' a (.str "facts") (some (.ref a4))
  e1 : H a1 = some (.lst xs1)
  e2 : H a2 = some (.lst xs2)
  e3 : H a3 = some (.lst xs3)
  e4 : H a4 = some (.lst xs4)
  d1 : DqAll (fun _ => True) H xs1 (p.people.map fun x => .tuple [.str x.1, .int x.2.1, .int x.2.2])
  d2 : DqAll (fun _ => True) H xs2 (p.labs.map fun l => .tuple [.str l.1, .list (l.2.map Tab.d)])
  d3 : DqAll (fun _ => True) H xs3 (p.rows.map fun r => .tuple [.str r.1, .str r.2.person, .str r.2.lab, .int r.2.day, r.2.pr.d])
  d4 : DqAll (fun _ => True) H xs4 p.facts
theorem lore_at {H : Hp} {v : V} {p : Parts} (h : Da H v (loreD p)) : ∃ a a1 a2 a3 a4 xs1 xs2 xs3 xs4, v = .ref a ∧ LoreAt H a a1 a2 a3 a4 xs1 xs2 xs3 xs4 p := by
  obtain ⟨a, kvs, rfl, _, e, hk, al⟩ := dk_inv h
  have l4 : kvs.length = 4 := by
    have := congrArg List.length hk
    simpa using this
  obtain ⟨⟨k1, u1⟩, ⟨k2, u2⟩, ⟨k3, u3⟩, ⟨k4, u4⟩, rfl⟩ : ∃ a b c d, kvs = [a, b, c, d] := by
    match kvs, l4 with
    | [a, b, c, d], _ => exact ⟨a, b, c, d, rfl⟩
  · have hk : [kD k1, kD k2, kD k3, kD k4] = [PyData.str "people", .str "labs", .str "results", .str "facts"] := hk
    injection hk with h1 hk
    injection hk with h2 hk
    injection hk with h3 hk
    injection hk with h4 hk
    have h1 := kD_str h1
    have h2 := kD_str h2
    have h3 := kD_str h3
    have h4 := kD_str h4
    subst h1 h2 h3 h4
    cases al with
    | cons q1 al =>
    cases al with
    | cons q2 al =>
    cases al with
    | cons q3 al =>
    cases al with
    | cons q4 al =>
    have q1 : Dq (fun _ => True) H u1 (.list (p.people.map fun x => .tuple [.str x.1, .int x.2.1, .int x.2.2])) := q1
    have q2 : Dq (fun _ => True) H u2 (.list (p.labs.map fun l => .tuple [.str l.1, .list (l.2.map Tab.d)])) := q2
    have q3 : Dq (fun _ => True) H u3 (.list (p.rows.map fun r => .tuple [.str r.1, .str r.2.person, .str r.2.lab, .int r.2.day, r.2.pr.d])) := q3
    have q4 : Dq (fun _ => True) H u4 (.list p.facts) := q4
    cases q1 with
    | @lst a1 xs1 _ _ e1 d1 =>
    cases q2 with
    | @lst a2 xs2 _ _ e2 d2 =>
    cases q3 with
    | @lst a3 xs3 _ _ e3 d3 =>
    cases q4 with
    | @lst a4 xs4 _ _ e4 d4 =>
    refine ⟨a, a1, a2, a3, a4, xs1, xs2, xs3, xs4, rfl, fun H' s => ?_, e1, e2, e3, e4, d1, d2, d3, d4⟩
    have e' := s _ _ e
    have n1 : ∀ {x y : Str}, x ≠ y → ¬ ((Sum.inr x : Key) = Sum.inr y) := fun h z => h (Sum.inr.inj z)
    refine ⟨?_, ?_, ?_, ?_⟩
    · have z := DGet.k (k := Sum.inr "people") e'
      rw [valV_pos rfl] at z
      exact z
    · have z := DGet.k (k := Sum.inr "labs") e'
      rw [valV_neg (n1 (by decide +kernel)), valV_pos rfl] at z
      exact z
    · have z := DGet.k (k := Sum.inr "results") e'
      rw [valV_neg (n1 (by decide +kernel)), valV_neg (n1 (by decide +kernel)), valV_pos rfl] at z
      exact z
    · have z := DGet.k (k := Sum.inr "facts") e'
      rw [valV_neg (n1 (by decide +kernel)), valV_neg (n1 (by decide +kernel)), valV_neg (n1 (by decide +kernel)), valV_pos rfl] at z
      exact z
/-! ### lines -/
theorem tl_lit {s : Str} {l : List Nat} (h : TL.tl s = l) : TL.tl s = l := h
theorem tlb : TL.tl sBlank = [32] := by decide +kernel
theorem tl_sp : TL.tl (" " : Str) = [32] := by decide +kernel
theorem join2 (x : Str) (ys : List Str) (h : ys ≠ []) : TL.tl (Txt.join sBlank (x :: ys)) = TL.tl x ++ ([32] ++ TL.tl (Txt.join sBlank ys)) := by
  rw [TL.join_eq, TL.tl_join, TL.join_eq, TL.tl_join, tlb]
  cases ys with
  | nil => exact absurd rfl h
  | cons y ys => rfl
theorem join1 (x : Str) : TL.tl (Txt.join sBlank [x]) = TL.tl x := by
  rw [TL.join_eq, TL.tl_join]
  rfl
theorem line_person (n a b : Str) : ((((("person " ++ n) ++ " ") ++ a) ++ " ") ++ b : Str) = Txt.join sBlank ["person", n, a, b] := by
  refine TL.ext_tl ?_
  rw [join2 _ _ (by simp), join2 _ _ (by simp), join2 _ _ (by simp), join1]
  simp only [TL.tl_append, tl_sp, show TL.tl ("person " : Str) = TL.tl ("person" : Str) ++ [32] from by decide +kernel, List.append_assoc]
theorem line_fact (s : Str) (ds : List PyData) (h : ds ≠ []) (e : s = lineS ds) : ("fact " ++ s : Str) = lineS (.str "fact" :: ds) := by
  refine TL.ext_tl ?_
  rw [e]
  unfold lineS
  rw [List.map_cons, join2 _ _ (by simpa using h)]
  simp only [TL.tl_append, show TL.tl ("fact " : Str) = TL.tl ("fact" : Str) ++ [32] from by decide +kernel, List.append_assoc]
  rfl
/-- joined pieces, each a join itself -/
theorem join_flat : ∀ (ls : List (List Str)), (∀ l ∈ ls, l ≠ []) → Txt.join sBlank (ls.map (Txt.join sBlank)) = Txt.join sBlank ls.flatten
  | [], _ => rfl
  | [l], h => by
    refine TL.ext_tl ?_
    show TL.tl (Txt.join sBlank [Txt.join sBlank l]) = TL.tl (Txt.join sBlank (l ++ []))
    rw [join1, List.append_nil]
  | l :: m :: ls, h => by
    have ih := join_flat (m :: ls) fun x hx => h x (List.mem_cons_of_mem _ hx)
    refine TL.ext_tl ?_
    show TL.tl (Txt.join sBlank (Txt.join sBlank l :: (m :: ls).map (Txt.join sBlank))) = TL.tl (Txt.join sBlank (l ++ (m :: ls).flatten))
    rw [join2 _ _ (by simp), ih]
    have ne : (m :: ls).flatten ≠ [] := by
      rw [List.flatten_cons]
      have := h m (by simp)
      cases m with
      | nil => exact absurd rfl this
      | cons _ _ => simp
    have hl := h l (by simp)
    generalize (m :: ls).flatten = ys at *
    clear ih h
    induction l with
    | nil => exact absurd rfl hl
    | cons x l ih2 =>
      cases l with
      | nil =>
        rw [join1]
        show _ = TL.tl (Txt.join sBlank (x :: ys))
        rw [join2 _ _ ne]
      | cons y l =>
        rw [join2 x (y :: l) (by simp)]
        show _ = TL.tl (Txt.join sBlank (x :: (y :: l ++ ys)))
        rw [join2 x (y :: l ++ ys) (by simp), ← ih2 (by simp)]
        simp only [List.append_assoc]
theorem line_lab (n : Str) (ts : List Tab) (h : ts ≠ []) : ((("lab " ++ n) ++ " ") ++ Txt.join sBlank (ts.map tabS) : Str) = lineS (labW (n, ts)) := by
  have e : Txt.join sBlank (ts.map tabS) = Txt.join sBlank (((ts.map tabW).flatten).map wordS) := by
    have z := join_flat (ts.map fun t => (tabW t).map wordS) fun l hl => by
      obtain ⟨t, _, rfl⟩ := List.mem_map.mp hl
      exact fun z => by cases z
    rw [List.map_map] at z
    have f1 : ts.map tabS = ts.map (Txt.join sBlank ∘ fun t => (tabW t).map wordS) := rfl
    rw [f1, z, List.map_flatten, List.map_map]
    rfl
  refine TL.ext_tl ?_
  unfold lineS labW
  rw [List.map_cons, List.map_cons, join2 _ _ (by simp), join2 _ _ ?_, ← e]
  · simp only [TL.tl_append, tl_sp, show TL.tl ("lab " : Str) = TL.tl ("lab" : Str) ++ [32] from by decide +kernel, List.append_assoc]
    rfl
  · cases ts with
    | nil => exact absurd rfl h
    | cons t ts => exact fun z => by cases z
/-! ### lengths -/
def wt (l : List PyData) : Nat := (l.map fun d => (wordS d).length + 1).sum
theorem wt_eq : ∀ l : List PyData, ((l.map wordS).map (·.length)).sum + l.length = wt l
  | [] => rfl
  | d :: l => by
    have := wt_eq l
    unfold wt at *
    simp only [List.map_cons, List.sum_cons, List.length_cons] at *
    omega
theorem join_len : ∀ {ws : List Str}, ws ≠ [] → (Txt.join sBlank ws).length + 1 = (ws.map fun w => w.length + 1).sum
  | [], h => absurd rfl h
  | [w], _ => by
    rw [TL.len_tl, join1, ← TL.len_tl]
    simp
  | w :: x :: ws, _ => by
    have ih := join_len (ws := x :: ws) (by simp)
    rw [TL.len_tl] at ih ⊢
    rw [join2 _ _ (by simp), List.length_append, List.length_append, List.map_cons, List.sum_cons, ← ih, ← TL.len_tl w]
    show w.length + (1 + _) + 1 = _
    omega
theorem line_len {ds : List PyData} (h : ds ≠ []) : (lineS ds).length + 1 = wt ds := by
  unfold lineS wt
  rw [join_len (by simpa using h), List.map_map]
  rfl
theorem wt_cons (d : PyData) (l : List PyData) : wt (d :: l) = (wordS d).length + 1 + wt l := rfl
theorem wt_app (a b : List PyData) : wt (a ++ b) = wt a + wt b := by
  unfold wt
  rw [List.map_append, List.sum_append]
theorem wt_flat : ∀ ls : List (List PyData), wt ls.flatten = (ls.map wt).sum
  | [] => rfl
  | l :: ls => by rw [List.flatten_cons, wt_app, wt_flat ls, List.map_cons, List.sum_cons]
theorem le_sum {x : Nat} : ∀ {xs : List Nat}, x ∈ xs → x ≤ xs.sum
  | y :: ys, h => by
    rw [List.sum_cons]
    rcases List.mem_cons.mp h with e | e
    · omega
    · have := le_sum e
      omega
theorem tab_len (t : Tab) : (tabS t).length + 1 = wt (tabW t) := line_len (fun z => by cases z)
theorem tabs_sum : ∀ ts : List Tab, ((ts.map tabS).map (·.length)).sum + ts.length = wt ((ts.map tabW).flatten)
  | [] => rfl
  | t :: ts => by
    have ih := tabs_sum ts
    have := tab_len t
    show ((tabS t).length :: (ts.map tabS).map (·.length)).sum + (ts.length + 1) = wt (tabW t ++ (ts.map tabW).flatten)
    rw [wt_app, List.sum_cons]
    omega
end G

set_option Elab.async false
set_option linter.all false
set_option maxRecDepth 100000
set_option maxHeartbeats 4000000
namespace U
open PySem PySem.Spec PyProof.Rows L2
open PySem.W (Frag)
def rAddS : R2 := fun x y H Q => ∃ i j, x = .str i ∧ y = .str j ∧ i.length + j.length ≤ sizeLine ∧ Q (.str (i ++ j)) H
theorem op_addS {X : Cx} : OpR X (binaryOp .Add) rAddS := op_add_str
def rJoinK (K : Frag) : V → List V → Hp → VK → Prop := fun x xs H Q => ∃ a p, ∃ ys : List Str, x = .str a ∧ xs = [.ref p] ∧ (SqL K H p (ys.map V.str) ∨ SqT K H p (ys.map V.str)) ∧ (ys.map (·.length)).sum + ys.length * a.length ≤ 16777216 ∧ Q (.str (Txt.join a ys)) H
end U
namespace G
open PySem PySem.Spec PyProof.Rows L2 U
open PySem.W (Frag)
/-! ### _law_text -/
structure LoreOk (p : Parts) : Prop where
  fit : Fits p
  labs : ∀ l ∈ p.labs, l.2 ≠ []
  facts : ∀ d ∈ p.facts, ∃ ds, d = PyData.tuple ds ∧ ds ≠ []
theorem same_dq {H H' : Hp} {vs : List V} {ds : List PyData} (h : DqAll (fun _ => True) H vs ds) (s : Same H H') : DqAll (fun _ => True) H' vs ds := h.move (fun _ f => f) fun b o _ z => s b o z
abbrev scTx : Scope := { kind := .function, names := [(".0", .local), ("_law_name", .local), ("_law_some_here", .local)], isGenerator := false, isCoroutine := false }
section
variable {P : Program} {w : World} {K : Frag} {mg : Str → Option Value} {base : Heap}
def sp_Ltext : Sp := fun vs H Q _ => ∃ (v : V) (p : Parts), vs = [v] ∧ Da H v (loreD p) ∧ LoreOk p ∧ RetS H (.str (textOf p)) Q
theorem has_Ltext (F : Fn K mg "_law_text" s_Ltext) (hP : Has P w K mg base 1 "_law_print_text" P_Lprint_text [] sp_Lprint) (hC : Has P w K mg base 2 "_law_claim_text" P_Lclaim_text [] (sp_Lclaim K)) (hT : Has P w K mg base 1 "_law_table_text" P_Ltable_text [] (sp_Ltable K)) (gS : mg "str" = none) : Has P w K mg base 3 "_law_text" P_Ltext [] sp_Ltext := by
  obtain ⟨⟨fd, F⟩, g⟩ := F
  refine ⟨⟨fd, [], ?_, F.kp, .nil, F.bindsN fun _ _ _ _ _ _ us hl => match us, hl with | [_], _ => rfl⟩, g⟩
  refine F.ok sc_Ltext (fun vs H Q E h => ?_) (fun cdv A outer s H vs Q E hr h' => ?_)
  · obtain ⟨v, p, rfl, _⟩ := h
    rfl
  · obtain ⟨v, p, rfl, hd, ok, hq⟩ := h'
    have hr1 := hr.mono (show 1 ≤ 2 by omega)
    refine ⟨_, PSs.nox (pss_cons (ps_setLc (i := 1) (own := [("_law_name", 2), ("_law_up", 3), ("_law_down", 4)]) (g := gTup K 3 (gCons (gName 2) (gCons (gName 3) (gCons (gName 4) gNil)))) (tt := tYes) rfl sc_Ltext.nd rfl rfl rfl (pi_list (pe_dget (hu_of hr) (pv 0) pe_str (fun _ _ => rfl))) (blkOk_by (N := N_Ltext) (sc := defScope s_Ltext) (by decide +kernel))
        (fun _ _ _ _ _ => pg_tup rfl (pgs_cons (pg_name (i := 2) sc_Ltext.nd rfl (Or.inl rfl)) (pgs_cons (pg_name (i := 3) sc_Ltext.nd rfl (Or.inl rfl)) (pgs_cons (pg_name (i := 4) sc_Ltext.nd rfl (Or.inl rfl)) pgs_nil)))) (fun _ _ _ _ _ => pts_nil)
        (fun _ _ _ _ _ => pe_op op_addS (pe_op op_addS (pe_op op_addS (pe_op op_addS (pe_op op_addS pe_str (pv 2)) pe_str) (pe_callTy call_strOf (by rfl) gS (by decide +kernel) (pa_cons (pv 3) pa_nil))) pe_str) (pe_callTy call_strOf (by rfl) gS (by decide +kernel) (pa_cons (pv 4) pa_nil))))
      (pss_cons (ps_expr (pe_bm PySem.F.plainAttrs_list PySem.F.slot_list_extend PySem.F.type_list_extend mt_extend (pv 1) (pa_cons (pe_lc (own := [("_law_name", 2), ("_law_some_here", 6)]) (g := gTup K 2 (gCons (gName 2) (gCons (gName 6) gNil))) (tt := tYes)
          (te := tOp rAddS (tOp rAddS (tOp rAddS (tC (.str "lab ")) (tVar 2)) (tC (.str " "))) (tM1 (rJoinK K) (tC (.str " ")) (tLc (iList K (tVar 6)) (gName 5) tYes (tCall (sp_Ltable K) [] E0 (tCons (tVar 5) tNil)) [5]))) rfl sc_Ltext.nd (pi_list (pe_dget (hu_of hr) (pv 0) pe_str (fun _ _ => rfl))) (blkOk_by (N := N_Ltext) (sc := defScope s_Ltext) (by decide +kernel))
          (fun _ _ _ _ _ => pg_tup rfl (pgs_cons (pg_name (i := 2) sc_Ltext.nd rfl (Or.inl rfl)) (pgs_cons (pg_name (i := 6) sc_Ltext.nd rfl (Or.inl rfl)) pgs_nil))) (fun _ _ _ _ _ => pts_nil)
          (fun _ _ _ _ _ => pe_op op_addS (pe_op op_addS (pe_op op_addS pe_str (pv 2)) pe_str) (pe_join pe_str (pe_lc (own := [("_law_one", 5)]) (wi := iList K (tVar 6)) (g := gName 5) (tt := tYes) rfl sc_Ltext.nd (pi_list (pv 6)) (blkOk_by (N := N_Ltext) (sc := scTx) (by decide +kernel)) (fun _ _ _ _ _ => pg_name (i := 5) sc_Ltext.nd rfl (Or.inl rfl)) (fun _ _ _ _ _ => pts_nil) (fun _ _ _ _ _ => pe_has hT hr1 (pa_cons (pv 5) pa_nil)))))) pa_nil)))
      (pss_cons (ps_for PassesOwn.never rfl (pi_list (pe_dget (hu_of hr) (pv 0) pe_str (fun _ _ => rfl))) (pg_tup rfl (pgs_cons (pg_name (i := 2) sc_Ltext.nd rfl (Or.inl rfl)) (pgs_cons (pg_name (i := 7) sc_Ltext.nd rfl (Or.inl rfl)) (pgs_cons (pg_name (i := 8) sc_Ltext.nd rfl (Or.inl rfl)) (pgs_cons (pg_name (i := 9) sc_Ltext.nd rfl (Or.inl rfl)) (pgs_cons (pg_name (i := 10) sc_Ltext.nd rfl (Or.inl rfl)) pgs_nil))))))
        (pss_one (ps_expr (pe_bm PySem.F.plainAttrs_list PySem.F.slot_list_append PySem.F.type_list_append mt_append (pv 1) (pa_cons (pe_join pe_str (pe_lst (pa_cons pe_str (pa_cons (pv 2) (pa_cons (pv 7) (pa_cons (pv 8) (pa_cons (pe_callTy call_strOf (by rfl) gS (by decide +kernel) (pa_cons (pv 9) pa_nil)) (pa_cons (pe_has hP hr1 (pa_cons (pv 10) pa_nil)) pa_nil)))))))) pa_nil)))))
      (pss_one (ps_ret (pe_join pe_str (pe_op op_cat (pv 1) (pe_lc (own := [("_law_claim", 11)]) (g := gName 11) (tt := tYes) rfl sc_Ltext.nd (pi_list (pe_dget (hu_of hr) (pv 0) pe_str (fun _ _ => rfl))) (blkOk_by (N := N_Ltext) (sc := defScope s_Ltext) (by decide +kernel)) (fun _ _ _ _ _ => pg_name (i := 11) sc_Ltext.nd rfl (Or.inl rfl)) (fun _ _ _ _ _ => pts_nil)
        (fun _ _ _ _ _ => pe_op op_addS pe_str (pe_has hC hr (pa_cons (pv 11) pa_nil))))))))))), ?_⟩
    obtain ⟨a, a1, a2, a3, a4, xs1, xs2, xs3, xs4, rfl, L⟩ := lore_at hd
    have fit := ok.fit
    have many : p.people.length + p.labs.length + p.rows.length + p.facts.length ≤ 1000 := by
      have := fit.many
      unfold linesW at this
      simp only [List.length_append, List.length_map] at this
      omega
    have l1 : xs1.length = p.people.length := by rw [L.d1.len, List.length_map]
    have l2 : xs2.length = p.labs.length := by rw [L.d2.len, List.length_map]
    have l3 : xs3.length = p.rows.length := by rw [L.d3.len, List.length_map]
    have l4 : xs4.length = p.facts.length := L.d4.len
    refine ⟨_, rfl, a, .ref a1, rfl, (L.get H (Same.refl H)).1, a1, rfl, ⟨_, SqL.of L.e1⟩, fun D1 nD1 => lc_vals (walk_list (xs := xs1)) nD1 ((p.people.map fun x => lineS (personW x)).map V.str) (by rw [List.length_map, List.length_map, l1]) (by omega) (fun Hc sc => SqL.of (sc _ _ L.e1)) ?_ fun H2 s2 eD1 => ?_⟩
    · rintro i x y Hc Hc' k hy sc ⟨rfl, hx⟩ hk
      obtain ⟨d, hd1, dq⟩ := (same_dq L.d1 sc).get hx
      rw [List.getElem?_map, Option.map_eq_some_iff] at hd1
      obtain ⟨q, hq1, rfl⟩ := hd1
      rw [List.getElem?_map, List.getElem?_map, hq1] at hy
      have hy : V.str (lineS (personW q)) = y := Option.some.inj hy
      subst hy
      obtain ⟨_, w2, w3⟩ := fit.words (personW q) (by unfold linesW; exact List.mem_append_left _ (List.mem_append_left _ (List.mem_append_left _ (List.mem_map.mpr ⟨q, List.mem_of_getElem? hq1, rfl⟩))))
      cases dq with
      | @tup t ys _ ft et alt =>
      cases alt with
      | @cons y1 _ _ _ q1 alt =>
      cases alt with
      | @cons y2 _ _ _ q2 alt =>
      cases alt with
      | @cons y3 _ _ _ q3 alt =>
      cases alt
      cases q1
      cases q2
      cases q3
      have u1 := of_decide_eq_true (w2 (.int q.2.1) (by simp [personW]))
      have u2 := of_decide_eq_true (w2 (.int q.2.2) (by simp [personW]))
      have w3 : ("person" : Str).length + (q.1.length + ((toString q.2.1 : Str).length + ((toString q.2.2 : Str).length + 0))) + 4 ≤ 16777216 := w3
      have c1 : ("person" : Str).length = 6 := by decide +kernel
      have c2 : ("person " : Str).length = 7 := by decide +kernel
      have c3 : (" " : Str).length = 1 := by decide +kernel
      refine ⟨t, _, rfl, SqT.of et, rfl, _, _, rfl, _, _, rfl, _, _, rfl, rfl, rfl, _, rfl, _, _, rfl, rfl, ?_, _, _, rfl, rfl, ?_, _, rfl, .inl ⟨_, rfl, u1, _, _, rfl, rfl, ?_, _, _, rfl, rfl, ?_, _, rfl, .inl ⟨_, rfl, u2, _, _, rfl, rfl, ?_, ?_⟩⟩⟩
      · rw [sizeLine_eq]; omega
      · rw [sizeLine_eq, Str.length_append]; omega
      · rw [sizeLine_eq, Str.length_append, Str.length_append]; omega
      · rw [sizeLine_eq, Str.length_append, Str.length_append, Str.length_append]; omega
      · rw [sizeLine_eq, Str.length_append, Str.length_append, Str.length_append, Str.length_append]; omega
      · rw [line_person]
        exact hk _ (Same.refl _)
    have eD1n : H D1 = none := nD1
    refine ⟨_, rfl, .inl ⟨rfl, _, SqL.of eD1⟩, ?_⟩
    refine ⟨_, rfl, a, .ref a2, rfl, (L.get H2 s2).2.1, a2, rfl, ⟨_, SqL.of (s2 _ _ L.e2)⟩, fun D2 nD2 => lc_vals (walk_list (xs := xs2)) nD2 ((p.labs.map fun x => lineS (labW x)).map V.str) (by rw [List.length_map, List.length_map, l2]) (by omega) (fun Hc sc => SqL.of (sc _ _ (s2 _ _ L.e2))) ?_ fun H3 s3 eD2 => ?_⟩
    · rintro i x y Hc Hc' k hy sc ⟨rfl, hx⟩ hk
      obtain ⟨d, hd1, dq⟩ := (same_dq (same_dq L.d2 s2) sc).get hx
      rw [List.getElem?_map, Option.map_eq_some_iff] at hd1
      obtain ⟨q, hq1, rfl⟩ := hd1
      rw [List.getElem?_map, List.getElem?_map, hq1] at hy
      have hy : V.str (lineS (labW q)) = y := Option.some.inj hy
      subst hy
      have hmem := List.mem_of_getElem? hq1
      obtain ⟨w1, w2, w3⟩ := fit.words (labW q) (by unfold linesW; exact List.mem_append_left _ (List.mem_append_left _ (List.mem_append_right _ (List.mem_map.mpr ⟨q, hmem, rfl⟩))))
      cases dq with
      | @tup t ys _ ft et alt =>
      cases alt with
      | @cons y1 _ _ _ q1 alt =>
      cases alt with
      | @cons y2 _ _ _ q2 alt =>
      cases alt
      cases q1
      cases q2 with
      | @lst b zs _ fb eb alz =>
      have lz : zs.length = q.2.length := by rw [alz.len, List.length_map]
      have w3 := w3
      rw [wt_eq] at w3
      have w3' : ("lab" : Str).length + 1 + (q.1.length + 1 + wt ((q.2.map tabW).flatten)) ≤ 16777216 := w3
      have c1 : ("lab" : Str).length = 3 := by decide +kernel
      have c2 : ("lab " : Str).length = 4 := by decide +kernel
      have c3 : (" " : Str).length = 1 := by decide +kernel
      have few2 : q.2.length ≤ 1000 := by
        have z : wt ((q.2.map tabW).flatten) = ((q.2.map tabW).map wt).sum := wt_flat _
        have := w1
        unfold labW at this
        simp only [List.length_cons, List.length_flatten, List.map_map] at this
        have e5 : ∀ ts : List Tab, (ts.map (List.length ∘ tabW)).sum = 5 * ts.length := fun ts => by
          induction ts with
          | nil => rfl
          | cons t ts ih => rw [List.map_cons, List.sum_cons, ih, List.length_cons]; show 5 + _ = _; omega
        rw [e5] at this
        omega
      have tf : ∀ t ∈ q.2, TabFit t := fun t ht => by
        refine ⟨by show 5 ≤ 1000; omega, fun d hd => w2 d ?_, ?_⟩
        · unfold labW
          exact List.mem_cons_of_mem _ (List.mem_cons_of_mem _ (List.mem_flatten.mpr ⟨tabW t, List.mem_map.mpr ⟨t, ht, rfl⟩, hd⟩))
        · rw [wt_eq]
          have := le_sum (xs := (q.2.map tabW).map wt) (x := wt (tabW t)) (List.mem_map.mpr ⟨tabW t, List.mem_map.mpr ⟨t, ht, rfl⟩, rfl⟩)
          rw [← wt_flat] at this
          omega
      refine ⟨t, _, rfl, SqT.of et, rfl, _, _, rfl, _, _, rfl, rfl, rfl, _, rfl, _, _, rfl, rfl, ?_, _, _, rfl, rfl, ?_, ⟨_, rfl⟩, _, rfl, b, rfl, ⟨_, SqL.of eb⟩, fun D3 nD3 => lc_vals (walk_list (xs := zs)) nD3 ((q.2.map tabS).map V.str) (by rw [List.length_map, List.length_map, lz]) ?_ (fun He se => SqL.of (se _ _ eb)) ?_ fun H4 s4 eD3 => ?_⟩
      · rw [sizeLine_eq]; omega
      · rw [sizeLine_eq, Str.length_append]; omega
      · omega
      · rintro i2 x2 y2 He He' k2 hy2 se ⟨rfl, hx2⟩ hk2
        obtain ⟨dd, hd2, dq2⟩ := (alz.move (F := fun _ => True) (G := fun _ => True) (fun _ f => f) fun b o _ z => se b o z).get hx2
        rw [List.getElem?_map, Option.map_eq_some_iff] at hd2
        obtain ⟨tb, ht2, rfl⟩ := hd2
        rw [List.getElem?_map, List.getElem?_map, ht2] at hy2
        have hy2 : V.str (tabS tb) = y2 := Option.some.inj hy2
        subst hy2
        obtain ⟨c, rfl, ec⟩ : ∃ c, x2 = .ref c ∧ SqT K _ c tb.vs := by
          cases dq2 with
          | @tup c zs2 _ _ ec2 al2 =>
          refine ⟨c, rfl, ?_⟩
          cases al2 with
          | cons r1 al2 =>
          cases al2 with
          | cons r2 al2 =>
          cases al2 with
          | cons r3 al2 =>
          cases al2 with
          | cons r4 al2 =>
          cases al2 with
          | cons r5 al2 =>
          cases al2
          cases r1
          cases r2
          cases r3
          cases r4
          cases r5
          exact SqT.of ec2
        exact ⟨rfl, _, rfl, c, tb, rfl, ec, tf tb (List.mem_of_getElem? ht2), fun H5 s5 => hk2 H5 s5⟩
      · refine ⟨" ", D3, q.2.map tabS, rfl, rfl, .inl (SqL.of eD3), ?_, _, _, rfl, rfl, ?_, ?_⟩
        · rw [c3, Nat.mul_one, List.length_map, tabs_sum]
          omega
        · rw [← Str.length_append]
          have z := line_lab q.1 q.2 (ok.labs q hmem)
          have z2 := line_len (ds := labW (q.1, q.2)) (fun z => by cases z)
          have w4 : wt (labW (q.1, q.2)) ≤ 16777216 := w3
          show ((("lab " ++ q.1) ++ " ") ++ Txt.join sBlank (q.2.map tabS) : Str).length ≤ _
          rw [z, sizeLine_eq]
          omega
        · have z := line_lab q.1 q.2 (ok.labs q hmem)
          show k (.str ((("lab " ++ q.1) ++ " ") ++ Txt.join sBlank (q.2.map tabS) : Str)) _
          rw [z]
          exact hk _ s4
    have lenA : ((p.people.map fun x => lineS (personW x)) ++ (p.labs.map fun x => lineS (labW x))).length ≤ 1000 := by
      rw [List.length_append, List.length_map, List.length_map]
      omega
    refine ⟨D1, D2, _, _, rfl, rfl, s3 _ _ eD1, eD2, by rw [List.length_map, List.length_map, List.length_map, List.length_map, sizeLine_eq]; omega, ?_⟩
    rw [← List.map_append]
    generalize hA : (p.people.map fun x => lineS (personW x)) ++ (p.labs.map fun x => lineS (labW x)) = lsA at *
    have sH3 : Same H H3 := fun b o z => s3 _ _ (s2 _ _ z)
    have s4 : Same H (upd H3 D1 (.lst (lsA.map V.str))) := fun b o z => by
      rw [upd_ne (ne_of_none z eD1n)]
      exact sH3 _ _ z
    refine ⟨_, rfl, a, .ref a3, rfl, (L.get _ s4).2.2.1, a3, rfl, ⟨_, SqL.of (s4 _ _ L.e3)⟩, for_list (K := K) (a := a3) (xs := xs3) (fun i σ Hc => ∃ o2 o7 o8 o9 o10, σ = [some (.ref a), some (.ref D1), o2, none, none, none, none, o7, o8, o9, o10, none] ∧ Same H Hc ∧ Hc D1 = some (.lst ((lsA ++ (p.rows.take i).map fun x => lineS (rowW x)).map V.str)))
      ⟨none, none, none, none, none, rfl, s4, by rw [upd_same, List.take_zero, List.map_nil, List.append_nil]⟩ (fun i σ Hc _ h => ?_) ?_ ?_⟩
    · obtain ⟨_, _, _, _, _, _, s5, _⟩ := h
      exact SqL.of (s5 _ _ L.e3)
    · rintro i x σ Hc hx ⟨o2, o7, o8, o9, o10, rfl, s5, eD⟩
      obtain ⟨d, hd1, dq⟩ := (same_dq L.d3 s5).get hx
      rw [List.getElem?_map, Option.map_eq_some_iff] at hd1
      obtain ⟨q, hq1, rfl⟩ := hd1
      have hmem := List.mem_of_getElem? hq1
      obtain ⟨w1, w2, w3⟩ := fit.words (rowW q) (by unfold linesW; exact List.mem_append_left _ (List.mem_append_right _ (List.mem_map.mpr ⟨q, hmem, rfl⟩)))
      cases dq with
      | @tup t ys _ ft et alt =>
      cases alt with
      | @cons y1 _ _ _ q1 alt =>
      cases alt with
      | @cons y2 _ _ _ q2 alt =>
      cases alt with
      | @cons y3 _ _ _ q3 alt =>
      cases alt with
      | @cons y4 _ _ _ q4 alt =>
      cases alt with
      | @cons y5 _ _ _ q5 alt =>
      cases alt
      cases q1
      cases q2
      cases q3
      cases q4
      have at5 := w2 q.2.pr.d (by simp [rowW])
      have e5 : y5 = wordV q.2.pr.d := by
        cases hp : q.2.pr with
        | num i =>
          rw [hp] at q5
          cases q5
          rfl
        | word s =>
          rw [hp] at q5
          cases q5
          rfl
      subst e5
      have u4 := of_decide_eq_true (w2 (.int q.2.day) (by simp [rowW]))
      have ilt : i < p.rows.length := (List.getElem?_eq_some_iff.mp hq1).1
      refine ⟨t, _, rfl, SqT.of et, rfl, _, _, rfl, _, _, rfl, _, _, rfl, _, _, rfl, _, _, rfl, rfl, ?_⟩
      refine ⟨_, rfl, .inl ⟨rfl, _, SqL.of eD⟩, ⟨_, rfl⟩, _, rfl, _, rfl, _, rfl, _, rfl, .inl ⟨_, rfl, u4, _, rfl, _, rfl, at5, Nat.le_trans (by show 6 ≤ 1000; omega) sizeLine_ge, fun b nb => ?_⟩⟩
      have sb := same_new (o := .lst (((rowW q).map wordS).map V.str)) nb
      refine ⟨" ", b, (rowW q).map wordS, rfl, rfl, .inl (SqL.of upd_same), ?_, ?_⟩
      · rw [show (" " : Str).length = 1 from by decide +kernel, Nat.mul_one, List.length_map]
        exact w3
      · refine ⟨D1, _, _, rfl, rfl, sb _ _ eD, by rw [List.length_map, List.length_append, List.length_map, List.length_take, sizeLine_eq]; omega, ?_⟩
        refine ⟨_, _, _, _, _, rfl, fun b' o z => ?_, ?_⟩
        · rw [upd_ne (ne_of_none z eD1n)]
          exact sb _ _ (s5 _ _ z)
        · rw [upd_same, List.take_add_one, hq1]
          simp only [List.map_append, Option.toList_some, List.map_cons, List.map_nil, List.append_assoc]
          rfl
    · rintro σ Hc ⟨o2, o7, o8, o9, o10, rfl, s5, eD⟩
      rw [l3, List.take_of_length_le (Nat.le_refl _)] at eD
      refine ⟨⟨_, rfl⟩, _, rfl, _, rfl, a, .ref a4, rfl, (L.get _ s5).2.2.2, a4, rfl, ⟨_, SqL.of (s5 _ _ L.e4)⟩, fun D5 nD5 => lc_vals (walk_list (xs := xs4)) nD5 ((p.facts.map fun d => lineS (factW d)).map V.str) (by rw [List.length_map, List.length_map, l4]) (by omega) (fun He se => SqL.of (se _ _ (s5 _ _ L.e4))) ?_ fun H6 s6 eD5 => ?_⟩
      · rintro i x y He He' k hy se ⟨rfl, hx⟩ hk
        obtain ⟨d, hd1, dq⟩ := (same_dq (same_dq L.d4 s5) se).get hx
        rw [List.getElem?_map, List.getElem?_map, hd1] at hy
        have hy : V.str (lineS (factW d)) = y := Option.some.inj hy
        subst hy
        have hmem := List.mem_of_getElem? hd1
        obtain ⟨ds, rfl, dne⟩ := ok.facts d hmem
        obtain ⟨w1, w2, w3⟩ := fit.words (factW (.tuple ds)) (by unfold linesW; exact List.mem_append_right _ (List.mem_map.mpr ⟨_, hmem, rfl⟩))
        have w1 : ds.length + 1 ≤ 1000 := w1
        have w2' : ∀ d ∈ ds, isAtom d = true := fun d hd => w2 d (List.mem_cons_of_mem _ hd)
        rw [wt_eq] at w3
        have w3' : ("fact" : Str).length + 1 + wt ds ≤ 16777216 := w3
        have c1 : ("fact" : Str).length = 4 := by decide +kernel
        have c2 : ("fact " : Str).length = 5 := by decide +kernel
        cases dq with
        | @tup t ws _ ft et alt =>
        obtain ⟨_, ew⟩ := atoms_dq (F' := fun _ => True) (H' := H) w2' alt
        subst ew
        refine ⟨rfl, _, rfl, t, ds, rfl, SqT.of et, ⟨by omega, w2', by rw [wt_eq]; omega⟩, fun H7 s7 => ⟨_, _, rfl, rfl, ?_, ?_⟩⟩
        · have z := line_len dne
          rw [sizeLine_eq]
          omega
        · rw [line_fact _ ds dne rfl]
          exact hk _ s7
      · refine ⟨D1, D5, _, _, rfl, rfl, s6 _ _ eD, eD5, ?_, fun c nc => ?_⟩
        · rw [List.length_map, List.length_map, List.length_map, List.length_append, List.length_map, sizeLine_eq]
          omega
        · rw [← List.map_append]
          have e : (lsA ++ p.rows.map fun x => lineS (rowW x)) ++ (p.facts.map fun d => lineS (factW d)) = (linesW p).map lineS := by
            unfold linesW
            rw [← hA, List.map_append, List.map_append, List.map_append, List.map_map, List.map_map, List.map_map, List.map_map]
            rfl
          rw [e]
          refine ⟨sFeed, c, (linesW p).map lineS, rfl, rfl, .inl (SqL.of upd_same), ?_, hq _ fun b o z => same_new nc _ _ (s6 _ _ (s5 _ _ z))⟩
          rw [show sFeed.length = 1 from rfl, Nat.mul_one, List.length_map]
          exact fit.all
end
end G

set_option Elab.async false
set_option linter.all false
set_option maxRecDepth 100000
set_option maxHeartbeats 4000000
namespace G
open PySem PySem.Spec PyProof.Rows L2 U
open PySem.W (Frag)
/-! ### _law_ends -/
def PrnOk : Prn → Prop
  | .num _ => True
  | .word s => s ∈ wPrn
theorem st_low (t : Tab) : stretchBy t (.word "low") = (none, some (t.fa * t.lo + t.sh)) := by
  show (if ("low" : Str) = "normal" then (some (t.fa * t.lo + t.sh), some (t.fa * t.hi + t.sh)) else if ("low" : Str) = "low" then (none, some (t.fa * t.lo + t.sh)) else (some (t.fa * t.hi + t.sh), none) : Option Int × Option Int) = _
  rw [if_neg (by decide +kernel), if_pos rfl]
theorem st_normal (t : Tab) : stretchBy t (.word "normal") = (some (t.fa * t.lo + t.sh), some (t.fa * t.hi + t.sh)) := by
  show (if ("normal" : Str) = "normal" then (some (t.fa * t.lo + t.sh), some (t.fa * t.hi + t.sh)) else if ("normal" : Str) = "low" then (none, some (t.fa * t.lo + t.sh)) else (some (t.fa * t.hi + t.sh), none) : Option Int × Option Int) = _
  rw [if_pos rfl]
theorem st_high (t : Tab) : stretchBy t (.word "high") = (some (t.fa * t.hi + t.sh), none) := by
  show (if ("high" : Str) = "normal" then (some (t.fa * t.lo + t.sh), some (t.fa * t.hi + t.sh)) else if ("high" : Str) = "low" then (none, some (t.fa * t.lo + t.sh)) else (some (t.fa * t.hi + t.sh), none) : Option Int × Option Int) = _
  rw [if_neg (by decide +kernel), if_neg (by decide +kernel)]
section
variable {P : Program} {w : World} {K : Frag} {mg : Str → Option Value} {base : Heap}
def sp_Lends (K : Frag) : Sp := fun vs H Q _ => ∃ (a : Addr) (t : Tab) (p : Prn), vs = [.ref a, p.v] ∧ SqT K H a t.vs ∧ t.ok = true ∧ PrnOk p ∧ RetT H (pairV (stretchBy t p)) Q
theorem has_Lends (F : Fn K mg "_law_ends" s_Lends) : Has P w K mg base 1 "_law_ends" P_Lends [] (sp_Lends K) := by
  obtain ⟨⟨fd, F⟩, g⟩ := F
  refine ⟨⟨fd, [], ?_, F.kp, .nil, F.bindsN fun _ _ _ _ _ _ us hl => match us, hl with | [_, _], _ => rfl⟩, g⟩
  refine F.ok sc_Lends (fun vs H Q E h => ?_) (fun cdv A outer s H vs Q E hr h' => ?_)
  · obtain ⟨a, t, p, rfl, _⟩ := h
    rfl
  · obtain ⟨a, t, p, rfl, hs, ht, hp, hq⟩ := h'
    refine ⟨_, PSs.nox (pss_cons (ps_asg (pv 0) (pg_tup rfl (pgs_cons (pg_name (i := 2) sc_Lends.nd rfl (Or.inl rfl)) (pgs_cons (pg_name (i := 3) sc_Lends.nd rfl (Or.inl rfl)) (pgs_cons (pg_name (i := 4) sc_Lends.nd rfl (Or.inl rfl)) (pgs_cons (pg_name (i := 5) sc_Lends.nd rfl (Or.inl rfl)) (pgs_cons (pg_name (i := 6) sc_Lends.nd rfl (Or.inl rfl)) pgs_nil)))))))
      (pss_cons (ps_if (pt_cmpR op_eq (pv 1) pe_str (nomark _)) (pss_one (ps_ret (pe_tup (pa_cons pe_non (pa_cons (pe_add (pe_mul (pv 2) (pv 5)) (pv 3)) pa_nil))))) pss_nil)
      (pss_cons (ps_if (pt_cmpR op_eq (pv 1) pe_str (nomark _)) (pss_one (ps_ret (pe_tup (pa_cons (pe_add (pe_mul (pv 2) (pv 6)) (pv 3)) (pa_cons pe_non pa_nil))))) pss_nil)
      (pss_cons (ps_if (pt_cmpR op_eq (pv 1) pe_str (nomark _)) (pss_one (ps_ret (pe_tup (pa_cons (pe_add (pe_mul (pv 2) (pv 5)) (pv 3)) (pa_cons (pe_add (pe_mul (pv 2) (pv 6)) (pv 3)) pa_nil))))) pss_nil)
      (pss_one (ps_ret (pe_tup (pa_cons (pe_add (pe_mul (pv 2) (pe_sub (pv 1) (pv 4))) (pv 3)) (pa_cons (pe_add (pe_mul (pv 2) (pe_add (pv 1) (pv 4))) (pv 3)) pa_nil))))))))), ?_⟩
    refine ⟨_, rfl, a, t.vs, rfl, hs, rfl, ?_⟩
    refine ⟨_, _, rfl, _, _, rfl, _, _, rfl, _, _, rfl, _, _, rfl, rfl, ?_⟩
    have two : 2 ≤ sizeLine := Nat.le_trans (by omega) sizeLine_ge
    cases p with
    | num i =>
      have no : ∀ z : Str, decide (V.int i = V.str z) = false := fun z => decide_eq_false fun q => by cases q
      refine ⟨_, rfl, rfl, _, rfl, ?_⟩
      refine iteF ?_
      refine ⟨_, rfl, rfl, _, rfl, ?_⟩
      refine iteF ?_
      refine ⟨_, rfl, rfl, _, rfl, ?_⟩
      refine iteF ?_
      refine ⟨_, rfl, _, rfl, _, rfl, _, _, rfl, rfl, _, _, rfl, rfl, tab_mul ht, _, rfl, _, _, rfl, rfl, ?_⟩
      refine ⟨_, rfl, _, rfl, _, rfl, _, _, rfl, rfl, _, _, rfl, rfl, tab_mul ht, _, rfl, _, _, rfl, rfl, ?_⟩
      exact ⟨two, upd_ret hq⟩
    | word x =>
      have hx : x = "low" ∨ x = "normal" ∨ x = "high" := by
        have : x ∈ wPrn := hp
        unfold wPrn at this
        simpa using this
      rcases hx with rfl | rfl | rfl
      · rw [st_low] at hq
        refine ⟨_, rfl, rfl, true, congrArg V.bl (show decide (V.str "low" = V.str "low") = true from decide_eq_true rfl), ?_⟩
        refine iteT ?_
        exact ⟨_, rfl, _, rfl, _, _, rfl, rfl, tab_mul ht, _, rfl, _, _, rfl, rfl, two, upd_ret hq⟩
      · rw [st_normal] at hq
        refine ⟨_, rfl, rfl, false, congrArg V.bl (show decide (V.str "normal" = V.str "low") = false from by decide +kernel), ?_⟩
        refine iteF ?_
        refine ⟨_, rfl, rfl, false, congrArg V.bl (show decide (V.str "normal" = V.str "high") = false from by decide +kernel), ?_⟩
        refine iteF ?_
        refine ⟨_, rfl, rfl, true, congrArg V.bl (show decide (V.str "normal" = V.str "normal") = true from decide_eq_true rfl), ?_⟩
        refine iteT ?_
        refine ⟨_, rfl, _, rfl, _, _, rfl, rfl, tab_mul ht, _, rfl, _, _, rfl, rfl, ?_⟩
        exact ⟨_, rfl, _, rfl, _, _, rfl, rfl, tab_mul ht, _, rfl, _, _, rfl, rfl, two, upd_ret hq⟩
      · rw [st_high] at hq
        refine ⟨_, rfl, rfl, false, congrArg V.bl (show decide (V.str "high" = V.str "low") = false from by decide +kernel), ?_⟩
        refine iteF ?_
        refine ⟨_, rfl, rfl, true, congrArg V.bl (show decide (V.str "high" = V.str "high") = true from decide_eq_true rfl), ?_⟩
        refine iteT ?_
        exact ⟨_, rfl, _, rfl, _, _, rfl, rfl, tab_mul ht, _, rfl, _, _, rfl, rfl, two, upd_ret hq⟩
end
end G

set_option Elab.async false
set_option linter.all false
set_option maxRecDepth 100000
set_option maxHeartbeats 4000000
namespace U
open PySem PySem.Spec PyProof.Rows L2
open PySem.W (Frag)
theorem ix_tupK {X : Cx} {K : Frag} (h : X.K = K) : IxR X (rIxT K) := by
  subst h
  exact ix_tup
end U
namespace G
open PySem PySem.Spec PyProof.Rows L2 U
open PySem.W (Frag)
/-! ### _law_turns_back -/
def colI (ts : List Tab) (p : Prn) (i : Nat) : List (Option Int) := ts.map fun t => if i = 0 then (stretchBy t p).1 else (stretchBy t p).2
theorem can_cols (ts : List Tab) (p : Prn) : (!canTell ts p) = (doTurnBack (colI ts p 0) || doTurnBack (colI ts p 1)) := by
  unfold canTell
  rw [Bool.not_not]
  rfl
section
variable {P : Program} {w : World} {K : Frag} {mg : Str → Option Value} {base : Heap}
def sp_Lturns : Sp := fun vs H Q _ => ∃ (v : V) (ts : List Tab) (p : Prn), vs = [v, p.v] ∧ Da H v (.list (ts.map Tab.d)) ∧ ts.length ≤ 1000 ∧ (∀ t ∈ ts, t.ok = true) ∧ PrnOk p ∧ RetS H (.bl (!canTell ts p)) Q
theorem has_Lturns (F : Fn K mg "_law_turns_back" s_Lturns_back) (hE : Has P w K mg base 1 "_law_ends" P_Lends [] (sp_Lends K)) (gL : mg "list" = none) (gZ : mg "zip" = none) (gA : mg "any" = none) : Has P w K mg base 2 "_law_turns_back" P_Lturns_back [] sp_Lturns := by
  obtain ⟨⟨fd, F⟩, g⟩ := F
  refine ⟨⟨fd, [], ?_, F.kp, .nil, F.bindsN fun _ _ _ _ _ _ us hl => match us, hl with | [_, _], _ => rfl⟩, g⟩
  refine F.ok sc_Lturns_back (fun vs H Q E h => ?_) (fun cdv A outer s H vs Q E hr h' => ?_)
  · obtain ⟨v, ts, p, rfl, _⟩ := h
    rfl
  · obtain ⟨v, ts, p, rfl, hd, few, tok, pok, hq⟩ := h'
    refine ⟨_, PSs.nox (pss_cons (ps_for PassesOwn.never rfl (pi_tup (pd_tup (pds_cons pd_int (pds_cons pd_int pds_nil)))) (pg_name (i := 2) sc_Lturns_back.nd rfl (Or.inr rfl))
        (pss_cons (ps_setLc (i := 3) (own := [("_law_table_here", 4)]) (g := gName 4) (tt := tYes) rfl sc_Lturns_back.nd rfl rfl rfl (pi_list (pv 0)) (blkOk_by (N := N_Lturns_back) (sc := defScope s_Lturns_back) (by decide +kernel)) (fun _ _ _ _ _ => pg_name (i := 4) sc_Lturns_back.nd rfl (Or.inl rfl)) (fun _ _ _ _ _ => pts_nil)
          (fun _ _ _ _ _ => pe_ix (ix_tupK (K := K) rfl) (pe_has hE hr (pa_cons (pv 4) (pa_cons (pv 1) pa_nil))) (pv 2) (fun _ _ => rfl)))
        (pss_cons (ps_set (i := 5) sc_Lturns_back.nd rfl (Or.inl rfl) (pe_listZip rfl (by rfl) gL PyProof.Rows.boot_list (by rfl) gZ (pa_cons (pv 3) (pa_cons (pe_slice sl_list (pv 3) (po_some pe_int) po_none) pa_nil))))
        (pss_one (ps_if (PW.pt (pw_and (pt_cmpR op_notIn_seq pe_non (pv 3) (by rfl)) (pw_and (pt_val (pe_callB (cr_any rfl) (by rfl) gA (by decide +kernel) (pa_cons (pe_lc (own := [("_law_x", 6), ("_law_y", 7)]) (g := gTup K 2 (gCons (gName 6) (gCons (gName 7) gNil))) (tt := tYes) rfl sc_Lturns_back.nd (pi_list (pv 5)) (blkOk_by (N := N_Lturns_back) (sc := defScope s_Lturns_back) (by decide +kernel))
              (fun _ _ _ _ _ => pg_tup rfl (pgs_cons (pg_name (i := 6) sc_Lturns_back.nd rfl (Or.inl rfl)) (pgs_cons (pg_name (i := 7) sc_Lturns_back.nd rfl (Or.inl rfl)) pgs_nil))) (fun _ _ _ _ _ => pts_nil) (fun _ _ _ _ _ => pe_cmpR op_lt (pv 6) (pv 7) (nomark _))) pa_nil)))
            (pw_and1 (pt_val (pe_callB (cr_any rfl) (by rfl) gA (by decide +kernel) (pa_cons (pe_lc (own := [("_law_x", 6), ("_law_y", 7)]) (g := gTup K 2 (gCons (gName 6) (gCons (gName 7) gNil))) (tt := tYes) rfl sc_Lturns_back.nd (pi_list (pv 5)) (blkOk_by (N := N_Lturns_back) (sc := defScope s_Lturns_back) (by decide +kernel))
              (fun _ _ _ _ _ => pg_tup rfl (pgs_cons (pg_name (i := 6) sc_Lturns_back.nd rfl (Or.inl rfl)) (pgs_cons (pg_name (i := 7) sc_Lturns_back.nd rfl (Or.inl rfl)) pgs_nil))) (fun _ _ _ _ _ => pts_nil) (fun _ _ _ _ _ => pe_cmpR op_gt (pv 6) (pv 7) (nomark _))) pa_nil)))))))
          (pss_one (ps_ret pe_bl)) pss_nil)))))
      (pss_one (ps_ret pe_bl))), ?_⟩
    cases hd with
    | @lst a zs _ _ ea alz =>
    have lz : zs.length = ts.length := by rw [alz.len, List.length_map]
    rw [can_cols] at hq
    intro tv H1 s1 dq
    cases dq with
    | @tup T xs _ fT eT alT =>
    cases alT with
    | cons r1 alT =>
    cases alT with
    | cons r2 alT =>
    cases alT
    cases r1
    cases r2
    refine ⟨T, rfl, ⟨_, SqT.of eT⟩, for_tup (xs := [.int 0, .int 1]) (fun i σ Hc => ∃ o2 o3 o5, σ = [some (.ref a), some p.v, o2, o3, none, o5, none, none] ∧ Same H1 Hc ∧ ∀ j, j < i → doTurnBack (colI ts p j) = false)
      ⟨none, none, none, rfl, Same.refl H1, fun j h => by omega⟩ (fun i σ Hc _ h => ?_) ?_ ?_⟩
    · obtain ⟨_, _, _, _, sc, _⟩ := h
      exact SqT.of (sc _ _ eT)
    · rintro i x σ Hc hx ⟨o2, o3, o5, rfl, sc, hno⟩
      have hi : i < 2 ∧ x = .int (i : Int) := by
        match i, hx with
        | 0, hx => exact ⟨by omega, (Option.some.inj hx).symm⟩
        | 1, hx => exact ⟨by omega, (Option.some.inj hx).symm⟩
      obtain ⟨hi, rfl⟩ := hi
      have sA : Same H Hc := fun b o z => sc _ _ (s1 _ _ z)
      generalize hos : colI ts p i = os at *
      have los : os.length = ts.length := by
        rw [← hos]
        unfold colI
        rw [List.length_map]
      refine ⟨_, rfl, a, rfl, ⟨_, SqL.of (sA _ _ ea)⟩, fun D nD => lc_vals (walk_list (xs := zs)) nD (os.map oI) (by rw [List.length_map, los, lz]) (by omega) (fun He se => SqL.of (se _ _ (sA _ _ ea))) ?_ fun H2 s2 eD => ?_⟩
      · rintro j x y He He' k hy se ⟨rfl, hx⟩ hk
        obtain ⟨d, hd1, dq⟩ := (same_dq (same_dq alz sA) se).get hx
        rw [List.getElem?_map, Option.map_eq_some_iff] at hd1
        obtain ⟨tb, ht, rfl⟩ := hd1
        have ey : y = oI (if i = 0 then (stretchBy tb p).1 else (stretchBy tb p).2) := by
          rw [← hos] at hy
          unfold colI at hy
          rw [List.getElem?_map, List.getElem?_map, ht] at hy
          exact (Option.some.inj hy).symm
        subst ey
        obtain ⟨c, rfl, ec⟩ : ∃ c, x = .ref c ∧ SqT K _ c tb.vs := by
          cases dq with
          | @tup c zs2 _ _ ec2 al2 =>
          refine ⟨c, rfl, ?_⟩
          cases al2 with
          | cons r1 al2 =>
          cases al2 with
          | cons r2 al2 =>
          cases al2 with
          | cons r3 al2 =>
          cases al2 with
          | cons r4 al2 =>
          cases al2 with
          | cons r5 al2 =>
          cases al2
          cases r1
          cases r2
          cases r3
          cases r4
          cases r5
          exact SqT.of ec2
        refine ⟨rfl, _, rfl, _, rfl, c, tb, p, rfl, ec, tok tb (List.mem_of_getElem? ht), pok, fun H3 b s3 nb eb => ?_⟩
        refine ⟨_, rfl, b, _, (i : Int), _, rfl, rfl, SqT.of eb, atI_nat (j := i) ?_, hk _ s3⟩
        match i, hi with
        | 0, _ => rfl
        | 1, _ => rfl
      have all2 : Same H H2 := fun b o z => s2 _ _ (sA _ _ z)
      have nxt : ∀ (Hz : Hp) (u5 : Option V), Same H2 Hz → doTurnBack os = false → ∃ o2 o3 o5, [some (V.ref a), some p.v, some (.int (i : Int)), some (V.ref D), none, u5, none, none] = [some (.ref a), some p.v, o2, o3, none, o5, none, none] ∧ Same H1 Hz ∧ ∀ j, j < i + 1 → doTurnBack (colI ts p j) = false := by
        intro Hz u5 sz hf
        refine ⟨_, _, _, rfl, fun b o z => sz _ _ (s2 _ _ (sc _ _ z)), fun j hj => ?_⟩
        by_cases hji : j = i
        · subst hji
          rw [hos]
          exact hf
        · exact hno j (by omega)
      refine ⟨_, rfl, _, rfl, _, rfl, D, _, rfl, SqL.of eD, fun pp hp => ?_⟩
      rw [cut1]
      have s3 := same_new (o := .lst ((os.map oI).drop 1)) hp
      refine ⟨D, pp, _, _, rfl, sqL_same (SqL.of eD) s3, SqL.of upd_same, ?_⟩
      intro H' q tz sH nq nt nqt eq' pr
      have s4 : Same H2 H' := fun b o z => sH _ _ (s3 _ _ z)
      refine ⟨_, rfl, D, _, rfl, .inl (SqL.of (s4 _ _ eD)), rfl, flat_os os, _, rfl, ?_⟩
      rw [show (if true = true then !inV .non (os.map oI) else inV .non (os.map oI)) = !inV .non (os.map oI) from rfl, none_in]
      by_cases hN : os.any (·.isNone) = true
      · rw [hN]
        have e : doTurnBack os = false := by
          unfold doTurnBack
          rw [if_pos hN]
        refine iteF ?_
        exact iteF (nxt H' _ s4 e)
      · have hN' : os.any (·.isNone) = false := Bool.eq_false_iff.mpr hN
        rw [hN']
        refine iteT ?_
        have e : doTurnBack os = (rises (nums os) && falls (nums os)) := by
          unfold doTurnBack
          rw [if_neg hN]
        have eN := nums_v hN'
        rw [eN, ← List.map_drop, zip_nums] at pr
        have li : (nums os).length ≤ 1000 := by
          unfold nums
          rw [List.length_map]
          omega
        have one : ∀ (f : Int × Int → Bool), (((nums os).zip ((nums os).drop 1)).map f).length = (tz.map V.ref).length := by
          intro f
          rw [List.length_map, List.length_map, pr.length, List.length_map]
        have l2 : (tz.map V.ref).length ≤ 16000000 := by
          rw [List.length_map, pr.length, List.length_map, List.length_zip]
          omega
        have pick : ∀ (i : Nat) (x : V) (f : Int × Int → Bool) (y : V), (tz.map V.ref)[i]? = some x → ((((nums os).zip ((nums os).drop 1)).map f).map V.bl)[i]? = some y → ∃ (t : Addr) (p : Int × Int), x = .ref t ∧ H' t = some (.tup [.int p.1, .int p.2]) ∧ y = .bl (f p) := by
          intro i x f y hx hy
          rw [List.getElem?_map, Option.map_eq_some_iff] at hx
          obtain ⟨t, ht, rfl⟩ := hx
          obtain ⟨r, hr, e⟩ := LiI.paired_get pr ht
          rw [List.getElem?_map, Option.map_eq_some_iff] at hr
          obtain ⟨p, hp', rfl⟩ := hr
          rw [List.getElem?_map, List.getElem?_map, hp'] at hy
          exact ⟨t, p, rfl, e, (Option.some.inj hy).symm⟩
        refine ⟨_, rfl, q, rfl, ⟨_, SqL.of eq'⟩, fun D1 nD1 => lc_vals walk_list nD1 ((((nums os).zip ((nums os).drop 1)).map fun p => decide (p.1 < p.2)).map V.bl) (by rw [List.length_map]; exact one _) l2 (fun Hc sc => SqL.of (sc _ _ eq')) ?_ ?_⟩
        · rintro k x y Hd Hd' kk hy sd ⟨rfl, hx⟩ hk
          obtain ⟨t, p2, rfl, e1, rfl⟩ := pick k x _ y hx hy
          refine ⟨t, _, rfl, SqT.of (sd _ _ e1), rfl, _, _, rfl, _, _, rfl, rfl, rfl, ?_⟩
          exact ⟨_, rfl, _, rfl, _, _, rfl, rfl, hk _ (Same.refl _)⟩
        · intro Hd sd eD1
          refine ⟨D1, _, rfl, SqL.of eD1, _, rfl, ?_⟩
          have e1 : (((nums os).zip ((nums os).drop 1)).map fun p => decide (p.1 < p.2)).any id = rises (nums os) := by
            rw [List.any_map]
            rfl
          rw [e1]
          have s5 : Same H2 Hd := fun b o z => sd _ _ (s4 _ _ z)
          cases hri : rises (nums os) with
          | false =>
            rw [hri] at e
            refine iteF ?_
            exact iteF (nxt Hd _ s5 e)
          | true =>
          refine iteT ?_
          rw [hri, Bool.true_and] at e
          refine ⟨_, rfl, q, rfl, ⟨_, SqL.of (sd _ _ eq')⟩, fun D2 nD2 => lc_vals walk_list nD2 ((((nums os).zip ((nums os).drop 1)).map fun p => decide (p.2 < p.1)).map V.bl) (by rw [List.length_map]; exact one _) l2 (fun He se => SqL.of (se _ _ (sd _ _ eq'))) ?_ ?_⟩
          · rintro k x y He He' kk hy se ⟨rfl, hx⟩ hk
            obtain ⟨t, p2, rfl, e1, rfl⟩ := pick k x _ y hx hy
            refine ⟨t, _, rfl, SqT.of (se _ _ (sd _ _ e1)), rfl, _, _, rfl, _, _, rfl, rfl, rfl, ?_⟩
            exact ⟨_, rfl, _, rfl, _, _, rfl, rfl, hk _ (Same.refl _)⟩
          · intro He se eD2
            refine ⟨D2, _, rfl, SqL.of eD2, _, rfl, ?_⟩
            have e2 : (((nums os).zip ((nums os).drop 1)).map fun p => decide (p.2 < p.1)).any id = falls (nums os) := by
              rw [List.any_map]
              rfl
            rw [e2]
            have s6 : Same H2 He := fun b o z => se _ _ (s5 _ _ z)
            cases hfa : falls (nums os) with
            | false =>
              rw [hfa] at e
              exact iteF (nxt He _ s6 e)
            | true =>
              rw [hfa] at e
              refine iteT ?_
              have et : (doTurnBack (colI ts p 0) || doTurnBack (colI ts p 1)) = true := by
                match i, hi, hos with
                | 0, _, hos => rw [hos, e, Bool.true_or]
                | 1, _, hos => rw [hos, e, Bool.or_true]
              rw [et] at hq
              exact hq He fun b o z => s6 _ _ (all2 _ _ z)
    · rintro σ Hc ⟨o2, o3, o5, rfl, sc, hno⟩
      have h0 := hno 0 (by show 0 < 2; omega)
      have h1 := hno 1 (by show 1 < 2; omega)
      rw [h0, h1] at hq
      exact hq Hc fun b o z => sc _ _ (s1 _ _ z)
end
end G

set_option Elab.async false
set_option linter.all false
set_option maxRecDepth 100000
set_option maxHeartbeats 4000000
namespace G
open PySem PySem.Spec PyProof.Rows L2 U
open PySem.W (Frag)
/-! ### _law_table -/
/-- a drawn table -/
def TabSm (t : Tab) : Prop := 1 ≤ t.fa ∧ t.fa ≤ 3 ∧ -3 ≤ t.sh ∧ t.sh ≤ 3 ∧ 0 ≤ t.st ∧ t.st ≤ 2 ∧ 0 ≤ t.lo ∧ t.lo ≤ 11 ∧ t.lo ≤ t.hi ∧ t.hi ≤ 19
theorem TabSm.ok {t : Tab} (h : TabSm t) : t.ok = true := by
  obtain ⟨h1, h2, _, _, h5, _, _, _, h9, _⟩ := h
  unfold Tab.ok
  rw [decide_eq_true h1, decide_eq_true (show t.fa ≤ 1000 by omega), decide_eq_true h5, decide_eq_true h9]
  rfl
section
variable {P : Program} {w : World} {K : Frag} {mg : Str → Option Value} {base : Heap} {f fT fO : Addr} {fd fdT fdO : FuncData}
def spTable (n : Nat) : Sp := fun vs H Q _ => ∃ (p : Addr), vs = [.ref p] ∧ Pot H p n ∧ n + 5 ≤ 100000 ∧
  ∀ (q : Addr) (t : Tab) (H' : Hp), H q = none → H' q = some (.tup t.vs) → TabSm t → Pot H' p (n + 5) → Ext p H H' → Q (.ref q) H'
theorem ok_table (F : FnP K "_law_table" s_Ltable f fd) (FT : FnP K "_law_take" s_Ltake fT fdT) (FO : FnP K "_law_of" s_Lof fO fdO) (gT : mg "_law_take" = some (.ref fT)) (gO : mg "_law_of" = some (.ref fO)) (gI : mg "int" = none) (gL : mg "len" = none) (n : Nat) : FnOk P w K mg base CX0 3 f fd P_Ltable (spTable n) := by
  have GT : ∀ n, FnOk P w K mg base CX0 1 fT fdT ["_law_pot_here", "_law_upto"] (spTake n) := fun n => ok_take FT gI n
  have bT : Binds K fdT ["_law_pot_here", "_law_upto"] [] := FT.bindsN fun _ _ _ _ _ _ us hl => match us, hl with | [_, _], _ => rfl
  have GO : FnOk P w K mg base CX0 2 fO fdO P_Lof (spOf n) := ok_of FO FT gT gI gL n
  have bO : Binds K fdO P_Lof [] := FO.bindsN fun _ _ _ _ _ _ us hl => match us, hl with | [_, _], _ => rfl
  refine F.ok sc_Ltable (fun vs H Q E h => ?_) (fun cdv A outer s H vs Q E hr h => ?_)
  · obtain ⟨p, rfl, _⟩ := h
    rfl
  · obtain ⟨p, rfl, hp, hn, hq⟩ := h
    refine ⟨_, PSs.nox (pss_cons (ps_set (i := 1) sc_Ltable.nd rfl (Or.inl rfl) (pe_call GO hr (by rfl) gO FO.kp bO .nil pass0 (pa_cons (pv 0) (pa_cons (pe_lst (pa_cons pe_int (pa_cons pe_int (pa_cons pe_int (pa_cons pe_int pa_nil))))) pa_nil))))
      (pss_cons (ps_set (i := 2) sc_Ltable.nd rfl (Or.inl rfl) (pe_call (GT (n + 1)) (hr.mono (by decide)) (by rfl) gT FT.kp bT .nil pass0 (pa_cons (pv 0) (pa_cons pe_int pa_nil))))
      (pss_one (ps_ret (pe_tup (pa_cons (pv 1) (pa_cons (pe_op op_sub (pe_call (GT (n + 2)) (hr.mono (by decide)) (by rfl) gT FT.kp bT .nil pass0 (pa_cons (pv 0) (pa_cons pe_int pa_nil))) pe_int)
        (pa_cons (pe_op op_add (pe_callTy call_int1 (by rfl) gI PyProof.Rows.boot_int (pa_cons (pe_cmpR op_gt (pv 1) pe_int (nomark _)) pa_nil)) (pe_call (GT (n + 3)) (hr.mono (by decide)) (by rfl) gT FT.kp bT .nil pass0 (pa_cons (pv 0) (pa_cons pe_int pa_nil))))
        (pa_cons (pv 2) (pa_cons (pe_op op_add (pv 2) (pe_call (GT (n + 4)) (hr.mono (by decide)) (by rfl) gT FT.kp bT .nil pass0 (pa_cons (pv 0) (pa_cons pe_int pa_nil)))) pa_nil)))))))))), ?_⟩
    have hsame : ∀ {H' : Hp} {m : Nat}, Same H H' → Pot H p m → Pot H' p m := by
      rintro H' m s ⟨o1, m1, c1, e1, k1⟩
      exact ⟨o1, m1, c1, s _ _ e1, k1⟩
    refine ⟨_, rfl, (show 4 ≤ sizeLine by decide), fun l nl => ?_⟩
    have s1 := same_new (o := .lst [.int 1, .int 1, .int 2, .int 3]) nl
    have nlp : l ≠ p := by
      obtain ⟨o1, m1, c1, e1, k1⟩ := hp
      exact Ne.symm (ne_of_none e1 nl)
    refine ⟨p, l, _, rfl, hsame s1 hp, by omega, upd_same, nlp, (show 0 < 4 by decide), (show 4 < 1000000 by decide), fun i v H1 hv hp1 e1 => ?_⟩
    obtain ⟨fa, rfl, f0, f1⟩ : ∃ fa : Int, v = .int fa ∧ 1 ≤ fa ∧ fa ≤ 3 := by
      match i, hv with
      | 0, hv => exact ⟨1, (Option.some.inj hv).symm, by decide, by decide⟩
      | 1, hv => exact ⟨1, (Option.some.inj hv).symm, by decide, by decide⟩
      | 2, hv => exact ⟨2, (Option.some.inj hv).symm, by decide, by decide⟩
      | 3, hv => exact ⟨3, (Option.some.inj hv).symm, by decide, by decide⟩
    refine ⟨_, rfl, p, 12, rfl, by decide, by decide, by omega, hp1, fun lo H2 l0 l1 hp2 e2 => ?_⟩
    refine ⟨_, rfl, _, rfl, p, 7, rfl, by decide, by decide, by omega, hp2, fun sh H3 h0 h1 hp3 e3 => ?_⟩
    refine ⟨_, _, rfl, rfl, _, rfl, _, _, rfl, rfl, .inr ⟨_, rfl, ?_⟩⟩
    refine ⟨_, rfl, p, 2, rfl, by decide, by decide, by omega, hp3, fun st H4 t0 t1 hp4 e4 => ?_⟩
    refine ⟨_, _, rfl, rfl, _, rfl, _, rfl, _, rfl, p, 9, rfl, by decide, by decide, by omega, hp4, fun up H5 u0 u1 hp5 e5 => ?_⟩
    refine ⟨_, _, rfl, rfl, (show 5 ≤ sizeLine by decide), fun q nq => ?_⟩
    have eA : Ext p H H5 := (Ext.of s1).trans (e1.trans (e2.trans (e3.trans (e4.trans e5))))
    have hqp : q ≠ p := by
      obtain ⟨o1, m1, c1, z1, k1⟩ := hp5
      exact Ne.symm (ne_of_none z1 nq)
    have nqH : H q = none := by
      cases hz : H q with
      | none => rfl
      | some o => rw [eA _ _ hqp hz] at nq; cases nq
    have sN := same_new (o := .tup (Tab.vs ⟨fa, sh - 3, (if decide (1 < fa) = true then (1 : Int) else 0) + st, lo, lo + up⟩)) nq
    have hb : (0 : Int) ≤ (if decide (1 < fa) = true then (1 : Int) else 0) ∧ (if decide (1 < fa) = true then (1 : Int) else 0) ≤ 1 := by
      cases decide (1 < fa) <;> decide
    refine hq q ⟨fa, sh - 3, (if decide (1 < fa) = true then (1 : Int) else 0) + st, lo, lo + up⟩ _ nqH upd_same ?_ ?_ (eA.trans (Ext.of sN))
    · refine ⟨f0, f1, ?_, ?_, ?_, ?_, l0, ?_, ?_, ?_⟩
      all_goals dsimp only
      all_goals omega
    · obtain ⟨o1, m1, c1, z1, k1⟩ := hp5
      exact ⟨o1, m1, c1, sN _ _ z1, k1⟩
end
end G

set_option Elab.async false
set_option linter.all false
set_option maxRecDepth 100000
set_option maxHeartbeats 4000000
namespace U
open PySem PySem.Spec PyProof.Rows L2
open PySem.W (Frag)
section
variable {P : Program} {w : World} {K : Frag} {mg : Str → Option Value} {base : Heap} {x qual : Str} {params : Arguments} {body : List Stmt} {scope : Scope} {dvs : List V} {kws : List (Str × V)} {f : Addr} {fd : FuncData}
/-- a def's promise, its code object being told -/
theorem okC {CX : CXT} {N ps : List Str} {k : Nat} {sp : Sp} (F : FunD K x qual params body scope dvs kws f fd) (S : FnScope N ps scope) (len : ∀ vs H Q E, sp vs H Q E → vs.length = ps.length)
    (hbody : ∀ (A : Around) (outer : List Env) (s : Shared) (H : Hp) (vs : List V) (Q : VK) (E : XK), Room k (A.deeper (envOfC qual scope s.heap.objs.size f (codeAt K f))) → sp vs H Q E →
      ∃ t, PSs (cxOf CX P w K mg base N qual scope f (codeAt K f) A outer s H E) body t ∧ t { nx := fun _ H' => Q .non H', rt := Q } (start N vs) H) : FnOk P w K mg base CX (k + 1) f fd ps sp := by
  obtain ⟨oc, od, dV, kV, doc, pm, an, cdv, ct, osl, rfl, lk, hcd, _, _⟩ := F.ex
  have e : codeAt K f = cdv := by
    unfold codeAt
    rw [lk]
  rw [e] at hbody
  exact fn_of lk hcd S len fun A outer s H vs Q E hr hsp => hbody A outer s H vs Q E hr hsp
end
end U
namespace G
open PySem PySem.Spec PyProof.Rows L2 U
open PySem.W (Frag)
def textR (rows : List Str) : Str := Txt.join sFeed rows
theorem extN_sqL {K : Frag} {H H' : Hp} {a : Addr} {xs : List V} (h : SqL K H a xs) (e : LamX.ExtN H H') : SqL K H' a xs := by
  rcases h with (h | ⟨o, h⟩) | h
  · exact .inl (.inl (e _ _ h fun ps z => by cases z))
  · exact .inl (.inr ⟨o, e _ _ h fun ps z => by cases z⟩)
  · exact .inr h
end G

set_option Elab.async false
set_option linter.all false
set_option maxRecDepth 100000
set_option maxHeartbeats 4000000
namespace G
open PySem PySem.Spec PyProof.Rows L2 U
open PySem.W (Frag)
/-! ### texts as lists of lists of words -/
def J (ws : List Str) : Str := Txt.join sBlank ws
/-- a word: no blank, no line feed, short -/
structure Wd (w : Str) : Prop where
  b : 32 ∉ TL.tl w
  f : 10 ∉ TL.tl w
  l : w.length ≤ 12
structure Ln (ws : List Str) : Prop where
  ne : ws ≠ []
  few : ws.length ≤ 30
  all : ∀ w ∈ ws, Wd w
structure Tx (wss : List (List Str)) : Prop where
  ne : wss ≠ []
  few : wss.length ≤ 60
  all : ∀ ws ∈ wss, Ln ws
theorem tl_blank : TL.tl sBlank = [32] := by decide +kernel
theorem tl_feed : TL.tl sFeed = [10] := by decide +kernel
theorem words_J {ws : List Str} (h : Ln ws) : wordsOf (J ws) = ws := TL.split_join (S := []) tl_blank all_blank h.ne fun p hp => (h.all p hp).b
theorem joinL_len {s : List Nat} (hs : s.length = 1) {m : Nat} : ∀ {ps : List (List Nat)}, (∀ p ∈ ps, p.length ≤ m) → (TL.joinL s ps).length ≤ ps.length * (m + 1)
  | [], _ => Nat.zero_le _
  | [p], h => by
    have := h p (List.mem_singleton.mpr rfl)
    show p.length ≤ 1 * (m + 1)
    omega
  | p :: q :: r, h => by
    have h1 := h p List.mem_cons_self
    have h2 := joinL_len hs (ps := q :: r) fun z hz => h z (List.mem_cons_of_mem _ hz)
    show (p ++ (s ++ TL.joinL s (q :: r))).length ≤ ((q :: r).length + 1) * (m + 1)
    rw [List.length_append, List.length_append, Nat.add_mul, Nat.one_mul]
    omega
theorem mem_joinL {s : List Nat} {x : Nat} : ∀ {ps : List (List Nat)}, x ∈ TL.joinL s ps → x ∈ s ∨ ∃ p ∈ ps, x ∈ p
  | [], h => by cases h
  | [p], h => .inr ⟨p, List.mem_singleton.mpr rfl, h⟩
  | p :: q :: r, h => by
    have h : x ∈ p ++ (s ++ TL.joinL s (q :: r)) := h
    rcases List.mem_append.mp h with h | h
    · exact .inr ⟨p, List.mem_cons_self, h⟩
    rcases List.mem_append.mp h with h | h
    · exact .inl h
    rcases mem_joinL h with h | ⟨z, hz, h⟩
    · exact .inl h
    · exact .inr ⟨z, List.mem_cons_of_mem _ hz, h⟩
theorem J_len {ws : List Str} (h : Ln ws) : (J ws).length ≤ 390 := by
  have z := joinL_len (s := TL.tl sBlank) (by rw [tl_blank]; rfl) (m := 12) (ps := ws.map TL.tl) fun p hp => by
    obtain ⟨w, hw, rfl⟩ := List.mem_map.mp hp
    rw [← TL.len_tl]
    exact (h.all w hw).l
  unfold J
  rw [TL.len_tl, TL.join_eq, TL.tl_join]
  rw [List.length_map] at z
  have := h.few
  omega
theorem J_feed {ws : List Str} (h : Ln ws) : 10 ∉ TL.tl (J ws) := fun z => by
  unfold J at z
  rw [TL.join_eq, TL.tl_join] at z
  rcases mem_joinL z with z | ⟨p, hp, z⟩
  · rw [tl_blank] at z
    simp at z
  · obtain ⟨w, hw, rfl⟩ := List.mem_map.mp hp
    exact (h.all w hw).f z
theorem lines_J {wss : List (List Str)} (h : Tx wss) : linesOf (textR (wss.map J)) = wss.map J := TL.split_join (S := []) tl_feed all_feed (fun z => h.ne (List.map_eq_nil_iff.mp z)) fun p hp => by
  obtain ⟨ws, hw, rfl⟩ := List.mem_map.mp hp
  exact J_feed (h.all ws hw)
theorem text_len {wss : List (List Str)} (h : Tx wss) : (textR (wss.map J)).length ≤ 24000 := by
  have z := joinL_len (s := TL.tl sFeed) (by rw [tl_feed]; rfl) (m := 390) (ps := (wss.map J).map TL.tl) fun p hp => by
    obtain ⟨w, hw, rfl⟩ := List.mem_map.mp hp
    obtain ⟨ws, hw2, rfl⟩ := List.mem_map.mp hw
    rw [← TL.len_tl]
    exact J_len (h.all ws hw2)
  unfold textR
  rw [TL.len_tl, TL.join_eq, TL.tl_join]
  rw [List.length_map, List.length_map] at z
  have := h.few
  omega
theorem text_ok {wss : List (List Str)} (h : Tx wss) : TextOk (textR (wss.map J)) := by
  refine ⟨by rw [sizeLine_eq]; have := text_len h; omega, ?_⟩
  rw [lines_J h]
  refine ⟨by rw [List.length_map]; have := h.few; omega, fun l hl => ?_⟩
  obtain ⟨ws, hw, rfl⟩ := List.mem_map.mp hl
  have := J_len (h.all ws hw)
  omega
theorem sum_le {xs : List Nat} {m : Nat} (h : ∀ x ∈ xs, x ≤ m) : xs.sum ≤ xs.length * m := by
  induction xs with
  | nil => exact Nat.zero_le _
  | cons x xs ih =>
    have h1 := h x List.mem_cons_self
    have h2 := ih fun y hy => h y (List.mem_cons_of_mem _ hy)
    rw [List.sum_cons, List.length_cons, Nat.add_mul, Nat.one_mul]
    omega
theorem sum_ok {wss : List (List Str)} (h : Tx wss) : ((wss.map J).map (·.length)).sum + (wss.map J).length ≤ 16777216 := by
  have z := sum_le (xs := (wss.map J).map (·.length)) (m := 390) fun x hx => by
    obtain ⟨l, hl, rfl⟩ := List.mem_map.mp hx
    obtain ⟨ws, hw, rfl⟩ := List.mem_map.mp hl
    exact J_len (h.all ws hw)
  rw [List.length_map, List.length_map] at z
  rw [List.length_map]
  have := h.few
  omega
/-! ### reading by words -/
section
variable {α : Type}
def nextW (kw : Str) (most : Nat) (f : List Str → Option α) (found : List (Str × α)) (ws : List Str) : Option (Str × α) :=
  match toldK kw most f found.length ws, ws[1]? with
    | some t, some n => if n ∈ found.map (·.1) then none else some (n, t)
    | _, _ => none
def readW (kw : Str) (most : Nat) (f : List Str → Option α) : List (Str × α) → List (List Str) → List (Str × α) × Nat
  | found, [] => (found, 0)
  | found, ws :: wss => match nextW kw most f found ws with
    | none => (found, 0)
    | some x => ((readW kw most f (found ++ [x]) wss).1, (readW kw most f (found ++ [x]) wss).2 + 1)
theorem readK_W {kw : Str} {most : Nat} {f : List Str → Option α} : ∀ {wss : List (List Str)} {found : List (Str × α)}, (∀ ws ∈ wss, Ln ws) → readK kw most f found (wss.map J) = readW kw most f found wss
  | [], found, _ => rfl
  | ws :: wss, found, h => by
    have e : nextK kw most f found (J ws) = nextW kw most f found ws := by
      unfold nextK nextW
      rw [words_J (h ws List.mem_cons_self)]
      all_goals rfl
    rw [List.map_cons, readK, readW, e]
    cases nextW kw most f found ws with
    | none => rfl
    | some x =>
      show ((readK kw most f (found ++ [x]) (wss.map J)).1, (readK kw most f (found ++ [x]) (wss.map J)).2 + 1) = _
      rw [readK_W fun z hz => h z (List.mem_cons_of_mem _ hz)]
/-- all these lines are read -/
inductive Steps (kw : Str) (most : Nat) (f : List Str → Option α) : List (Str × α) → List (List Str) → List (Str × α) → Prop
  | nil {found} : Steps kw most f found [] found
  | cons {found ws wss x found'} : nextW kw most f found ws = some x → Steps kw most f (found ++ [x]) wss found' → Steps kw most f found (ws :: wss) found'
def Stops (kw : Str) (most : Nat) (f : List Str → Option α) (found : List (Str × α)) : List (List Str) → Prop
  | [] => True
  | ws :: _ => nextW kw most f found ws = none
theorem readW_by {kw : Str} {most : Nat} {f : List Str → Option α} {found found' : List (Str × α)} {a b : List (List Str)} (h : Steps kw most f found a found') (s : Stops kw most f found' b) : readW kw most f found (a ++ b) = (found', a.length) := by
  induction h with
  | nil =>
    cases b with
    | nil => rfl
    | cons ws wss =>
      have s : nextW kw most f _ ws = none := s
      rw [List.nil_append, readW, s]
      rfl
  | cons e h ih => rw [List.cons_append, readW, e]; simp only [ih s]; rfl
/-- names, none twice -/
theorem steps_map {kw : Str} {most : Nat} {f : List Str → Option α} {W : Str → List Str} {t : Str → α} : ∀ {xs : List Str} {found : List (Str × α)}, (∀ x ∈ xs, f (W x) = some (t x) ∧ (W x)[0]? = some kw ∧ (W x)[1]? = some x) → xs.Nodup → (∀ x ∈ xs, x ∉ found.map (·.1)) → found.length + xs.length ≤ most →
    Steps kw most f found (xs.map W) (found ++ xs.map fun x => (x, t x))
  | [], found, _, _, _, _ => by
    rw [List.map_nil, List.map_nil, List.append_nil]
    exact .nil
  | x :: xs, found, h, nd, ni, hl => by
    obtain ⟨h1, h2, h3⟩ := h x List.mem_cons_self
    have nd' := List.nodup_cons.mp nd
    rw [List.length_cons] at hl
    have e : nextW kw most f found (W x) = some (x, t x) := by
      unfold nextW toldK
      rw [if_pos ⟨h2, by omega⟩, h1, h3]
      exact if_neg (ni x List.mem_cons_self)
    have r := steps_map (kw := kw) (most := most) (f := f) (W := W) (t := t) (xs := xs) (found := found ++ [(x, t x)]) (fun y hy => h y (List.mem_cons_of_mem _ hy)) nd'.2 (fun y hy => ?_) (by rw [List.length_append]; show _ + 1 + _ ≤ _; omega)
    · rw [List.append_assoc] at r
      exact .cons e r
    · rw [List.map_append, List.mem_append]
      rintro (z | z)
      · exact ni y (List.mem_cons_of_mem _ hy) z
      · have : y = x := by simpa using z
        exact nd'.1 (this ▸ hy)
theorem stops_kw {kw : Str} {most : Nat} {f : List Str → Option α} {found : List (Str × α)} {ws : List Str} {r : List (List Str)} (h : ws[0]? ≠ some kw) : Stops kw most f found (ws :: r) := by
  show nextW kw most f found ws = none
  unfold nextW toldK
  rw [if_neg fun z => h z.1]
theorem stops_many {kw : Str} {most : Nat} {f : List Str → Option α} {found : List (Str × α)} {ws : List Str} {r : List (List Str)} (h : most ≤ found.length) : Stops kw most f found (ws :: r) := by
  show nextW kw most f found ws = none
  unfold nextW toldK
  rw [if_neg fun z => Nat.not_lt.mpr h z.2]
theorem stops_f {kw : Str} {most : Nat} {f : List Str → Option α} {found : List (Str × α)} {ws : List Str} {r : List (List Str)} (h : f ws = none) : Stops kw most f found (ws :: r) := by
  show nextW kw most f found ws = none
  have e : toldK kw most f found.length ws = none := by
    unfold toldK
    rw [h]
    split <;> rfl
  unfold nextW
  rw [e]
theorem stops_in {kw : Str} {most : Nat} {f : List Str → Option α} {found : List (Str × α)} {ws : List Str} {r : List (List Str)} {n : Str} (h : ws[1]? = some n) (hn : n ∈ found.map (·.1)) : Stops kw most f found (ws :: r) := by
  show nextW kw most f found ws = none
  unfold nextW
  rw [h]
  cases toldK kw most f found.length ws with
  | none => rfl
  | some t => exact if_pos hn
end
def toldFW (ps : People) (bs : Labs) (n : Nat) (ws : List Str) : Option PyData := if ws[0]? = some ("fact" : Str) ∧ n < 8 then claimIn ps bs (ws.drop 1) else none
def readFW (ps : People) (bs : Labs) : List PyData → List (List Str) → List PyData × Nat
  | found, [] => (found, 0)
  | found, ws :: wss => match toldFW ps bs found.length ws with
    | none => (found, 0)
    | some x => ((readFW ps bs (found ++ [x]) wss).1, (readFW ps bs (found ++ [x]) wss).2 + 1)
theorem readF_W {ps : People} {bs : Labs} : ∀ {wss : List (List Str)} {found : List PyData}, (∀ ws ∈ wss, Ln ws) → readF ps bs found (wss.map J) = readFW ps bs found wss
  | [], found, _ => rfl
  | ws :: wss, found, h => by
    have e : toldF ps bs found.length (J ws) = toldFW ps bs found.length ws := by
      unfold toldF toldFW
      rw [words_J (h ws List.mem_cons_self)]
    rw [List.map_cons, readF, readFW, e]
    cases toldFW ps bs found.length ws with
    | none => rfl
    | some x =>
      show ((readF ps bs (found ++ [x]) (wss.map J)).1, (readF ps bs (found ++ [x]) (wss.map J)).2 + 1) = _
      rw [readF_W fun z hz => h z (List.mem_cons_of_mem _ hz)]
inductive StepsF (ps : People) (bs : Labs) : List PyData → List (List Str) → List PyData → Prop
  | nil {found} : StepsF ps bs found [] found
  | cons {found ws wss x found'} : toldFW ps bs found.length ws = some x → StepsF ps bs (found ++ [x]) wss found' → StepsF ps bs found (ws :: wss) found'
def StopsF (ps : People) (bs : Labs) (found : List PyData) : List (List Str) → Prop
  | [] => True
  | ws :: _ => toldFW ps bs found.length ws = none
theorem readFW_by {ps : People} {bs : Labs} {found found' : List PyData} {a b : List (List Str)} (h : StepsF ps bs found a found') (s : StopsF ps bs found' b) : readFW ps bs found (a ++ b) = (found', a.length) := by
  induction h with
  | nil =>
    cases b with
    | nil => rfl
    | cons ws wss =>
      have s : toldFW ps bs _ ws = none := s
      rw [List.nil_append, readFW, s]
      rfl
  | cons e h ih => rw [List.cons_append, readFW, e]; simp only [ih s]; rfl
theorem stepsF_map {ps : People} {bs : Labs} {β : Type} {W : β → List Str} {t : β → PyData} : ∀ {xs : List β} {found : List PyData}, (∀ x ∈ xs, claimIn ps bs ((W x).drop 1) = some (t x) ∧ (W x)[0]? = some ("fact" : Str)) → found.length + xs.length ≤ 8 → StepsF ps bs found (xs.map W) (found ++ xs.map t)
  | [], found, _, _ => by
    rw [List.map_nil, List.map_nil, List.append_nil]
    exact .nil
  | x :: xs, found, h, hl => by
    obtain ⟨h1, h2⟩ := h x List.mem_cons_self
    rw [List.length_cons] at hl
    have e : toldFW ps bs found.length (W x) = some (t x) := by
      unfold toldFW
      rw [if_pos ⟨h2, by omega⟩, h1]
    have r := stepsF_map (W := W) (t := t) (xs := xs) (found := found ++ [t x]) (fun y hy => h y (List.mem_cons_of_mem _ hy)) (by rw [List.length_append]; show _ + 1 + _ ≤ _; omega)
    rw [List.append_assoc] at r
    exact .cons e r
/-- lines of a chart, one kind behind the other, and what is behind them -/
structure Reads (a b c d e : List (List Str)) (ps : People) (bs : Labs) (rs : Rows) (fs : List PyData) : Prop where
  p : Steps "person" 3 personIn [] a ps
  ps' : Stops "person" 3 personIn ps (b ++ (c ++ (d ++ e)))
  b : Steps "lab" 6 labIn [] b bs
  bs' : Stops "lab" 6 labIn bs (c ++ (d ++ e))
  r : Steps "result" 24 (resultIn ps bs) [] c rs
  rs' : Stops "result" 24 (resultIn ps bs) rs (d ++ e)
  f : StepsF ps bs [] d fs
  fs' : StopsF ps bs fs e
theorem drop_map_app {α β : Type} {f : α → β} (a b : List α) {n : Nat} (h : n = a.length) : ((a ++ b).map f).drop n = b.map f := by
  rw [List.map_append]
  subst h
  rw [List.drop_append, List.length_map, Nat.sub_self, List.drop_zero, List.drop_of_length_le (by rw [List.length_map]; exact Nat.le_refl _), List.nil_append]
theorem read_none {wss : List (List Str)} (h : Tx wss) (hs : Stops "person" 3 personIn [] wss) : readText (textR (wss.map J)) = .inl 1 := by
  unfold readText
  rw [lines_J h]
  have e : readPeople (wss.map J) = ([], 0) := by
    unfold readPeople
    rw [readK_W h.all]
    exact readW_by (a := []) .nil hs
  rw [e]
  rfl
theorem read_nolab {a w : List (List Str)} {ps : People} (h : Tx (a ++ w)) (hp : Steps "person" 3 personIn [] a ps) (hs : Stops "person" 3 personIn ps w) (he : ps ≠ []) (hb : Stops "lab" 6 labIn [] w) : readText (textR ((a ++ w).map J)) = .inl (a.length + 1) := by
  unfold readText
  rw [lines_J h]
  have e : readPeople ((a ++ w).map J) = (ps, a.length) := by
    unfold readPeople
    rw [readK_W h.all]
    exact readW_by hp hs
  have e2 : readLabs (w.map J) = ([], 0) := by
    unfold readLabs
    rw [readK_W fun z hz => h.all z (List.mem_append_right _ hz)]
    exact readW_by (a := []) .nil hb
  have ne : ps.isEmpty = false := by
    cases ps with
    | nil => exact absurd rfl he
    | cons _ _ => rfl
  rw [e]
  simp only [ne]
  rw [drop_map_app a w rfl, e2]
  rfl
theorem read_by {a b c d e : List (List Str)} {ps : People} {bs : Labs} {rs : Rows} {fs : List PyData} (h : Tx (a ++ (b ++ (c ++ (d ++ e))))) (R : Reads a b c d e ps bs rs fs) (hp : ps ≠ []) (hb : bs ≠ []) :
    readText (textR ((a ++ (b ++ (c ++ (d ++ e)))).map J)) = if e = [] then .inr ⟨ps, bs, rs, fs⟩ else .inl (a.length + b.length + c.length + d.length + 1) := by
  have all := h.all
  unfold readText
  rw [lines_J h]
  have e1 : readPeople ((a ++ (b ++ (c ++ (d ++ e)))).map J) = (ps, a.length) := by
    unfold readPeople
    rw [readK_W all]
    exact readW_by R.p R.ps'
  have l2 : ∀ z ∈ b ++ (c ++ (d ++ e)), Ln z := fun z hz => all z (List.mem_append_right _ hz)
  have l3 : ∀ z ∈ c ++ (d ++ e), Ln z := fun z hz => l2 z (List.mem_append_right _ hz)
  have l4 : ∀ z ∈ d ++ e, Ln z := fun z hz => l3 z (List.mem_append_right _ hz)
  have e2 : readLabs ((b ++ (c ++ (d ++ e))).map J) = (bs, b.length) := by
    unfold readLabs
    rw [readK_W l2]
    exact readW_by R.b R.bs'
  have e3 : readResults ps bs ((c ++ (d ++ e)).map J) = (rs, c.length) := by
    unfold readResults
    rw [readK_W l3]
    exact readW_by R.r R.rs'
  have e4 : readFacts ps bs ((d ++ e).map J) = (fs, d.length) := by
    unfold readFacts
    rw [readF_W l4]
    exact readFW_by R.f R.fs'
  have ne1 : ps.isEmpty = false := by
    cases ps with
    | nil => exact absurd rfl hp
    | cons _ _ => rfl
  have ne2 : bs.isEmpty = false := by
    cases bs with
    | nil => exact absurd rfl hb
    | cons _ _ => rfl
  rw [e1]
  simp only [ne1]
  rw [drop_map_app a _ rfl, e2]
  simp only [ne2]
  have d3 : ((a ++ (b ++ (c ++ (d ++ e)))).map J).drop (a.length + b.length) = (c ++ (d ++ e)).map J := by
    rw [← List.append_assoc]
    exact drop_map_app (a ++ b) _ (by rw [List.length_append])
  have d4 : ((a ++ (b ++ (c ++ (d ++ e)))).map J).drop (a.length + b.length + c.length) = (d ++ e).map J := by
    rw [← List.append_assoc, ← List.append_assoc]
    exact drop_map_app ((a ++ b) ++ c) _ (by rw [List.length_append, List.length_append])
  simp only [d3, e3, d4, e4, if_neg (show ¬ (false = true) from by decide)]
  have ll : ((a ++ (b ++ (c ++ (d ++ e)))).map J).length = a.length + b.length + c.length + d.length + e.length := by
    rw [List.length_map]
    simp only [List.length_append]
    omega
  cases e with
  | nil => rw [if_neg (by rw [ll]; simp), if_pos rfl]
  | cons x xs => rw [if_pos (by rw [ll, List.length_cons]; omega), if_neg (by simp)]
end G

set_option Elab.async false
set_option linter.all false
set_option maxRecDepth 100000
set_option maxHeartbeats 4000000
namespace G
open PySem PySem.Spec PyProof.Rows L2 U
open PySem.W (Frag)
/-! ### numbers told and read again -/
theorem numL_head : ∀ {n : Nat}, 0 < n → (TL.numL n).head? ≠ some 48 := by
  intro n
  induction n using Nat.strongRecOn with
  | _ n ih =>
    intro h
    by_cases h1 : n < 10
    · rw [TL.numL_lt h1]
      intro z
      have := Option.some.inj z
      omega
    · rw [TL.numL_step (by omega)]
      have r := ih (n / 10) (by omega) (by omega)
      cases hz : TL.numL (n / 10) with
      | nil => exact absurd hz (TL.numL_ne _)
      | cons c t =>
        rw [hz] at r
        exact r
theorem tl_negS (m : Nat) : TL.tl (Str.ofString (toString (Int.negSucc m))) = 45 :: TL.numL (m + 1) := by
  have e : toString (Int.negSucc m) = "-" ++ toString (m + 1) := rfl
  rw [e]
  show ((Str.ofString ("-" ++ toString (m + 1))).cps.toList) = _
  rw [PyProof.Rows.signs_ofString, String.toList_append, List.map_append]
  show 45 :: (Nat.repr (m + 1)).toList.map Char.toNat = _
  rw [Nat.toList_repr]
  rfl
theorem allIn_figs {x : Str} (h : NumText.AllDigits (TL.tl x)) : allIn x sFigures = true := by
  unfold allIn
  rw [List.all_eq_true]
  intro c hc
  exact decide_eq_true (digit_fig (h c hc))
theorem num_ne {x y : Str} (h : TL.tl x ≠ TL.tl y) : x ≠ y := fun z => h (by rw [z])
theorem tl_mt : TL.tl ("" : Str) = [] := by decide +kernel
theorem tl_m0 : TL.tl ("-0" : Str) = [45, 48] := by decide +kernel
theorem tl_0 : TL.tl ("0" : Str) = [48] := by decide +kernel
/-- str(i) read by integer_in -/
theorem integer_str {i : Int} (h0 : -(10 ^ 11) < i) (h1 : i < 10 ^ 11) : integerIn (Str.ofString (toString i)) = some i := by
  cases i with
  | ofNat n =>
    have hn : n < 10 ^ 11 := by
      have : ((n : Nat) : Int) < 10 ^ 11 := h1
      omega
    have hl := TL.numL_len (k := 11) (by decide) hn
    have et : TL.tl (Str.ofString (toString (Int.ofNat n))) = TL.numL n := TL.tl_num n
    have ef : figs (Str.ofString (toString (Int.ofNat n))) = Str.ofString (toString (Int.ofNat n)) := by
      rcases figs_cases (Str.ofString (toString (Int.ofNat n))) with ⟨r, z, _⟩ | ⟨_, e⟩
      · exfalso
        have z1 : TL.numL n = 45 :: r := et.symm.trans z
        exact TL.numL_free (n := n) (s := 45) (by omega) (by rw [z1]; exact List.mem_cons_self)
      · exact e
    unfold integerIn
    rw [ef]
    have ir : intText? (Str.ofString (toString (Int.ofNat n))) = some (Int.ofNat n) := TL.int_num (by omega)
    rw [if_neg (num_ne (by rw [et, tl_mt]; exact TL.numL_ne n)), if_neg (by rw [allIn_figs (by rw [et]; exact TL.numL_digits n)]; decide), if_neg (num_ne (by
      rw [et, tl_m0]
      intro z
      exact TL.numL_free (n := n) (s := 45) (by omega) (by rw [z]; exact List.mem_cons_self))), ir]
    by_cases hz : n = 0
    · subst hz
      rw [if_pos (TL.ext_tl (by rw [et, tl_0]; exact TL.numL_lt (by decide)))]
    · rw [if_neg (c := (Str.ofString (toString (Int.ofNat n))).cps.toList.head? = some 48) (by
        show ¬ (TL.tl (Str.ofString (toString (Int.ofNat n)))).head? = some 48
        rw [et]
        exact numL_head (by omega))]
      exact ite_self _
  | negSucc m =>
    have hn : m + 1 < 10 ^ 11 := by omega
    have hl := TL.numL_len (k := 11) (by decide) hn
    have et := tl_negS m
    have ef : TL.tl (figs (Str.ofString (toString (Int.negSucc m)))) = TL.numL (m + 1) := by
      rcases figs_cases (Str.ofString (toString (Int.negSucc m))) with ⟨r, z, e⟩ | ⟨z, _⟩
      · have z1 : 45 :: TL.numL (m + 1) = 45 :: r := et.symm.trans z
        rw [(List.cons.inj z1).2]
        exact e
      · exact absurd et (z _)
    have ir : intText? (Str.ofString (toString (Int.negSucc m))) = some (Int.negSucc m) := by
      rw [PySem.intText_neg et (TL.numL_digits _) (TL.numL_ne _) (by rw [TL.len_tl, et, List.length_cons]; omega), TL.numL_val]
      rfl
    unfold integerIn
    rw [if_neg (num_ne (by rw [ef, tl_mt]; exact TL.numL_ne _)), if_neg (by rw [allIn_figs (by rw [ef]; exact TL.numL_digits _)]; decide), if_neg (num_ne (by
      rw [et, tl_m0]
      intro z
      have z1 := (List.cons.inj z).2
      have z2 : TL.numL (m + 1) = TL.numL 0 := z1.trans (TL.numL_lt (n := 0) (by decide)).symm
      exact absurd (TL.numL_inj z2) (by omega))), ir]
    rw [if_neg (c := (figs (Str.ofString (toString (Int.negSucc m)))).cps.toList.head? = some 48) (by
        show ¬ (TL.tl (figs (Str.ofString (toString (Int.negSucc m))))).head? = some 48
        rw [ef]
        exact numL_head (by omega))]
    exact ite_self _
theorem wd_str {i : Int} (h0 : -(10 ^ 11) < i) (h1 : i < 10 ^ 11) : Wd (Str.ofString (toString i)) := by
  refine ⟨fun z => (PyProof.Rows.intText_free_32 i).mp z, ?_, ?_⟩
  · cases i with
    | ofNat n =>
      rw [show TL.tl (Str.ofString (toString (Int.ofNat n))) = TL.numL n from TL.tl_num n]
      exact TL.numL_free (by omega)
    | negSucc m =>
      rw [tl_negS]
      intro z
      rcases List.mem_cons.mp z with z | z
      · cases z
      · exact TL.numL_free (by omega) z
  · rw [TL.len_tl]
    cases i with
    | ofNat n =>
      rw [show TL.tl (Str.ofString (toString (Int.ofNat n))) = TL.numL n from TL.tl_num n]
      have : ((n : Nat) : Int) < 10 ^ 11 := h1
      have := TL.numL_len (n := n) (k := 11) (by decide) (by omega)
      omega
    | negSucc m =>
      rw [tl_negS, List.length_cons]
      have := TL.numL_len (n := m + 1) (k := 11) (by decide) (by omega)
      omega
end G

set_option Elab.async false
set_option linter.all false
set_option maxRecDepth 100000
set_option maxHeartbeats 4000000
namespace G
open PySem PySem.Spec PyProof.Rows L2 U
open PySem.W (Frag)
/-! ### a chart told and read again -/
theorem steps_pairs {α : Type} {kw : Str} {most : Nat} {f : List Str → Option α} {W : Str × α → List Str} : ∀ {xs found : List (Str × α)}, (∀ x ∈ xs, f (W x) = some x.2 ∧ (W x)[0]? = some kw ∧ (W x)[1]? = some x.1) → (xs.map (·.1)).Nodup → (∀ x ∈ xs, x.1 ∉ found.map (·.1)) → found.length + xs.length ≤ most →
    Steps kw most f found (xs.map W) (found ++ xs)
  | [], found, _, _, _, _ => by
    rw [List.map_nil, List.append_nil]
    exact .nil
  | x :: xs, found, h, nd, ni, hl => by
    obtain ⟨h1, h2, h3⟩ := h x List.mem_cons_self
    rw [List.map_cons] at nd
    have nd' := List.nodup_cons.mp nd
    rw [List.length_cons] at hl
    have e : nextW kw most f found (W x) = some x := by
      unfold nextW toldK
      rw [if_pos ⟨h2, by omega⟩, h1, h3]
      exact if_neg (ni x List.mem_cons_self)
    have r := steps_pairs (kw := kw) (most := most) (f := f) (W := W) (xs := xs) (found := found ++ [x]) (fun y hy => h y (List.mem_cons_of_mem _ hy)) nd'.2 (fun y hy => ?_) (by rw [List.length_append]; show _ + 1 + _ ≤ _; omega)
    · rw [List.append_assoc] at r
      exact .cons e r
    · rw [List.map_append, List.mem_append]
      rintro (z | z)
      · exact ni y (List.mem_cons_of_mem _ hy) z
      · have : y.1 = x.1 := by simpa using z
        exact nd'.1 (this ▸ List.mem_map_of_mem hy)
def tabN (t : Tab) : List (Option Int) := [some t.fa, some t.sh, some t.st, some t.lo, some t.hi]
theorem all_tabN : ∀ {ts : List Tab}, (∀ t ∈ ts, t.ok = true) → (ts.map tabN).all isTable = true
  | [], _ => rfl
  | t :: ts, h => by
    show (t.ok && (ts.map tabN).all isTable) = true
    rw [h t List.mem_cons_self, all_tabN fun z hz => h z (List.mem_cons_of_mem _ hz)]
    rfl
theorem map_tabN : ∀ {ts : List Tab}, (ts.map tabN).filterMap tabOf = ts
  | [] => rfl
  | t :: ts => by
    show (t :: (ts.map tabN).filterMap tabOf) = _
    rw [map_tabN]
theorem tabs_of {ns : List (Option Int)} {ts : List Tab} (m : Nat) (hl : ns.length = 5 * m) (h1 : 1 ≤ m) (h4 : m ≤ 4) (ok : ∀ t ∈ ts, t.ok = true) (hf : (List.range m).map (chunk ns) = ts.map tabN) : tabsIn ns = some ts := by
  have e : chunks ns = ts.map tabN := by
    unfold chunks
    rw [hl, Nat.mul_div_cancel_left m (by decide)]
    exact hf
  unfold tabsIn
  rw [if_pos (by omega), if_pos ⟨by omega, by omega, by rw [e]; exact all_tabN ok⟩, e, map_tabN]
theorem tabs_back : ∀ {ts : List Tab}, 1 ≤ ts.length → ts.length ≤ 4 → (∀ t ∈ ts, t.ok = true) → tabsIn ((ts.map tabN).flatten) = some ts
  | [], h, _, _ => by cases h
  | [a], _, _, ok => tabs_of 1 rfl (by decide) (by decide) ok rfl
  | [a, b], _, _, ok => tabs_of 2 rfl (by decide) (by decide) ok rfl
  | [a, b, c], _, _, ok => tabs_of 3 rfl (by decide) (by decide) ok rfl
  | [a, b, c, d], _, _, ok => tabs_of 4 rfl (by decide) (by decide) ok rfl
  | _ :: _ :: _ :: _ :: _ :: _, _, h, _ => by
    simp only [List.length_cons] at h
    omega
/-- a number that charts may bear -/
def Sm (i : Int) : Prop := -(10 ^ 11) < i ∧ i < 10 ^ 11
structure TabS (t : Tab) : Prop where
  ok : t.ok = true
  fa : Sm t.fa
  sh : Sm t.sh
  st : Sm t.st
  lo : Sm t.lo
  hi : Sm t.hi
theorem tab_read {t : Tab} (h : TabS t) : (((tabW t).map wordS).map integerIn) = tabN t := by
  have e : ∀ {i : Int}, Sm i → integerIn (wordS (.int i)) = some i := fun h => integer_str h.1 h.2
  show [integerIn (wordS (.int t.fa)), integerIn (wordS (.int t.sh)), integerIn (wordS (.int t.st)), integerIn (wordS (.int t.lo)), integerIn (wordS (.int t.hi))] = _
  rw [e h.fa, e h.sh, e h.st, e h.lo, e h.hi]
  rfl
theorem tabs_read : ∀ {ts : List Tab}, (∀ t ∈ ts, TabS t) → ((((ts.map tabW).flatten).map wordS).map integerIn) = (ts.map tabN).flatten
  | [], _ => rfl
  | t :: ts, h => by
    rw [List.map_cons, List.flatten_cons, List.map_append, List.map_append, tab_read (h t List.mem_cons_self), tabs_read fun z hz => h z (List.mem_cons_of_mem _ hz)]
    rfl
theorem lab_read {l : Str × List Tab} (hn : isName l.1 = true) (h1 : 1 ≤ l.2.length) (h4 : l.2.length ≤ 4) (h : ∀ t ∈ l.2, TabS t) : labIn ((labW l).map wordS) = some l.2 := by
  show (if isName l.1 = true then tabsIn ((((l.2.map tabW).flatten).map wordS).map integerIn) else none) = _
  rw [if_pos hn, tabs_read h]
  exact tabs_back h1 h4 fun t ht => (h t ht).ok
theorem person_read {x : Str × Int × Int} (hn : isName x.1 = true) (h1 : 0 ≤ x.2.1) (h2 : 0 ≤ x.2.2) (s1 : Sm x.2.1) (s2 : Sm x.2.2) : personIn ((personW x).map wordS) = some x.2 := by
  have e : ∀ {i : Int}, Sm i → integerIn (wordS (.int i)) = some i := fun h => integer_str h.1 h.2
  show (if isName x.1 = true then ratesOf (wordS (.int x.2.1)) (wordS (.int x.2.2)) else none) = _
  rw [if_pos hn]
  unfold ratesOf
  rw [e s1, e s2]
  exact if_pos ⟨h1, h2⟩
end G

set_option Elab.async false
set_option linter.all false
set_option maxRecDepth 100000
set_option maxHeartbeats 4000000
namespace G
open PySem PySem.Spec PyProof.Rows L2 U
open PySem.W (Frag)
/-- a print that charts may bear -/
def PrnS : Prn → Prop
  | .num i => Sm i
  | .word s => s ∈ wPrn
theorem prn_none {x : Str} (h : x ∈ wPrn) : integerIn x = none := by
  unfold wPrn at h
  have hx : x = "low" ∨ x = "normal" ∨ x = "high" := by simpa using h
  rcases hx with rfl | rfl | rfl <;> decide +kernel
theorem told_read {p : Prn} (h : PrnS p) : toldOf (wordS p.d) = some p := by
  unfold toldOf
  cases p with
  | word s => exact if_pos h
  | num i =>
    have e : integerIn (wordS (Prn.num i).d) = some i := integer_str h.1 h.2
    rw [if_neg (fun z => by rw [prn_none z] at e; cases e), e]
    rfl
theorem row_read {ps : People} {ls : Labs} {r : Str × Row} {ts : List Tab} (hn : isName r.1 = true) (hp : r.2.person ∈ ps.map (·.1)) (ht : tabsOf ls r.2.lab = some ts) (hs : PrnS r.2.pr) (hd : Sm r.2.day) (dd : isDayD (.int r.2.day) = true) :
    resultIn ps ls ((rowW r).map wordS) = if canTell ts r.2.pr = true then some r.2 else none := by
  have e : integerIn (wordS (.int r.2.day)) = some r.2.day := integer_str hd.1 hd.2
  show (if isName r.1 = true then rowOf ps ls r.2.person r.2.lab (wordS (.int r.2.day)) (wordS r.2.pr.d) else none) = _
  rw [if_pos hn]
  unfold rowOf
  rw [if_pos hp, ht, told_read hs, e]
  exact if_pos dd
theorem wd_prn {p : Prn} (h : PrnS p) : Wd (wordS p.d) := by
  cases p with
  | num i => exact wd_str h.1 h.2
  | word s =>
    have h : s ∈ wPrn := h
    unfold wPrn at h
    have hx : s = "low" ∨ s = "normal" ∨ s = "high" := by simpa using h
    rcases hx with rfl | rfl | rfl
    all_goals exact ⟨by decide +kernel, by decide +kernel, by decide +kernel⟩
end G

set_option Elab.async false
set_option linter.all false
set_option maxRecDepth 100000
set_option maxHeartbeats 4000000
namespace G
open PySem PySem.Spec PyProof.Rows L2 U
open PySem.W (Frag)
theorem wd_name {n : Str} (h : isName n = true) : Wd n := by
  unfold isName at h
  rw [Bool.and_eq_true, Bool.and_eq_true] at h
  obtain ⟨_, h2, h3⟩ := h
  have e : sLetters.cps.toList = [97, 98, 99, 100, 101, 102, 103, 104, 105, 106, 107, 108, 109, 110, 111, 112, 113, 114, 115, 116, 117, 118, 119, 120, 121, 122] := by decide +kernel
  have no : ∀ c, c < 97 → c ∉ TL.tl n := fun c hc z => by
    have := of_decide_eq_true (List.all_eq_true.mp h3 c z)
    rw [e] at this
    simp at this
    omega
  have := of_decide_eq_true h2
  exact ⟨no 32 (by decide), no 10 (by decide), by omega⟩
theorem wd_kw {s : Str} (h : s = "person" ∨ s = "lab" ∨ s = "result" ∨ s = "fact") : Wd s := by
  rcases h with rfl | rfl | rfl | rfl
  all_goals exact ⟨by decide +kernel, by decide +kernel, by decide +kernel⟩
/-- a chart that can be told and read again -/
structure PaOk (p : Parts) : Prop where
  p1 : p.people ≠ []
  p3 : p.people.length ≤ 3
  pn : (p.people.map (·.1)).Nodup
  ps : ∀ x ∈ p.people, isName x.1 = true ∧ 0 ≤ x.2.1 ∧ 0 ≤ x.2.2 ∧ Sm x.2.1 ∧ Sm x.2.2
  l1 : p.labs ≠ []
  l6 : p.labs.length ≤ 6
  ln : (p.labs.map (·.1)).Nodup
  ls : ∀ l ∈ p.labs, isName l.1 = true ∧ 1 ≤ l.2.length ∧ l.2.length ≤ 4 ∧ ∀ t ∈ l.2, TabS t
/-- a row that can be told; whether it can be read hangs at canTell -/
structure RwS (p : Parts) (r : Str × Row) : Prop where
  n : isName r.1 = true
  pe : r.2.person ∈ p.people.map (·.1)
  la : r.2.lab ∈ p.labs.map (·.1)
  pr : PrnS r.2.pr
  d0 : 0 ≤ r.2.day
  d1 : r.2.day ≤ 99
def wp (x : Str × Int × Int) : List Str := (personW x).map wordS
def wl (x : Str × List Tab) : List Str := (labW x).map wordS
def wr (x : Str × Row) : List Str := (rowW x).map wordS
theorem ln_p {p : Parts} (h : PaOk p) : ∀ ws ∈ p.people.map wp, Ln ws := by
  intro ws hw
  obtain ⟨x, hx, rfl⟩ := List.mem_map.mp hw
  obtain ⟨h1, _, _, s1, s2⟩ := h.ps x hx
  refine ⟨(fun z => by cases z), by show 4 ≤ 30; decide, ?_⟩
  intro w hw
  have hw : w ∈ [("person" : Str), x.1, wordS (.int x.2.1), wordS (.int x.2.2)] := hw
  simp only [List.mem_cons, List.not_mem_nil, or_false] at hw
  rcases hw with rfl | rfl | rfl | rfl
  · exact wd_kw (.inl rfl)
  · exact wd_name h1
  · exact wd_str s1.1 s1.2
  · exact wd_str s2.1 s2.2
theorem tab_wds {t : Tab} (h : TabS t) : ∀ w ∈ (tabW t).map wordS, Wd w := by
  intro w hw
  have hw : w ∈ [wordS (.int t.fa), wordS (.int t.sh), wordS (.int t.st), wordS (.int t.lo), wordS (.int t.hi)] := hw
  simp only [List.mem_cons, List.not_mem_nil, or_false] at hw
  rcases hw with rfl | rfl | rfl | rfl | rfl
  · exact wd_str h.fa.1 h.fa.2
  · exact wd_str h.sh.1 h.sh.2
  · exact wd_str h.st.1 h.st.2
  · exact wd_str h.lo.1 h.lo.2
  · exact wd_str h.hi.1 h.hi.2
theorem tabs_len : ∀ ts : List Tab, ((ts.map tabW).flatten).length = 5 * ts.length
  | [] => rfl
  | t :: ts => by
    rw [List.map_cons, List.flatten_cons, List.length_append, tabs_len ts, List.length_cons]
    show 5 + _ = _
    omega
theorem ln_l {p : Parts} (h : PaOk p) : ∀ ws ∈ p.labs.map wl, Ln ws := by
  intro ws hw
  obtain ⟨x, hx, rfl⟩ := List.mem_map.mp hw
  obtain ⟨h1, h2, h3, h4⟩ := h.ls x hx
  refine ⟨(fun z => by cases z), ?_, ?_⟩
  · show ((labW x).map wordS).length ≤ 30
    rw [List.length_map]
    show ((x.2.map tabW).flatten).length + 1 + 1 ≤ 30
    rw [tabs_len]
    omega
  · intro w hw
    have hw : w ∈ ("lab" : Str) :: x.1 :: ((x.2.map tabW).flatten).map wordS := hw
    rcases List.mem_cons.mp hw with rfl | hw
    · exact wd_kw (.inr (.inl rfl))
    rcases List.mem_cons.mp hw with rfl | hw
    · exact wd_name h1
    · obtain ⟨d, hd, rfl⟩ := List.mem_map.mp hw
      obtain ⟨l, hl, hd⟩ := List.mem_flatten.mp hd
      obtain ⟨t, ht, rfl⟩ := List.mem_map.mp hl
      exact tab_wds (h4 t ht) _ (List.mem_map_of_mem hd)
theorem sm_day {i : Int} (h0 : 0 ≤ i) (h1 : i ≤ 99) : Sm i := ⟨by omega, by omega⟩
theorem ln_r {p : Parts} {r : Str × Row} (hp : PaOk p) (h : RwS p r) : Ln (wr r) := by
  refine ⟨(fun z => by cases z), by show 6 ≤ 30; decide, ?_⟩
  intro w hw
  have hw : w ∈ [("result" : Str), r.1, r.2.person, r.2.lab, wordS (.int r.2.day), wordS r.2.pr.d] := hw
  simp only [List.mem_cons, List.not_mem_nil, or_false] at hw
  rcases hw with rfl | rfl | rfl | rfl | rfl | rfl
  · exact wd_kw (.inr (.inr (.inl rfl)))
  · exact wd_name h.n
  · obtain ⟨x, hx, e⟩ := List.mem_map.mp h.pe
    rw [← e]
    exact wd_name (hp.ps x hx).1
  · obtain ⟨x, hx, e⟩ := List.mem_map.mp h.la
    rw [← e]
    exact wd_name (hp.ls x hx).1
  · exact wd_str (sm_day h.d0 h.d1).1 (sm_day h.d0 h.d1).2
  · exact wd_prn h.pr
end G

set_option Elab.async false
set_option linter.all false
set_option maxRecDepth 100000
set_option maxHeartbeats 4000000
namespace G
open PySem PySem.Spec PyProof.Rows L2 U
open PySem.W (Frag)
theorem text_J (p : Parts) (hf : p.facts = []) : textOf p = textR ((p.people.map wp ++ (p.labs.map wl ++ (p.rows.map wr ++ ([] ++ [])))).map J) := by
  unfold textOf textR linesW
  rw [hf]
  simp only [List.map_append, List.map_map, List.map_nil, List.append_nil, List.append_assoc]
  rfl
theorem kw_ne {a b : Str} (h : a ≠ b) : ∀ {r : List Str}, (a :: r)[0]? ≠ some b := fun z => h (Option.some.inj z)
theorem labs_stop {p : Parts} (h : PaOk p) (z : List (List Str)) : Stops "person" 3 personIn p.people (p.labs.map wl ++ z) := by
  cases hl : p.labs with
  | nil => exact absurd hl h.l1
  | cons x xs => exact stops_kw (kw_ne (by decide +kernel))
/-- people, laboratories and rows that are read; behind them rows that may be refused -/
theorem read_rows {p : Parts} (h : PaOk p) {rs es : Rows} (hl : rs.length ≤ 24) (nd : (rs.map (·.1)).Nodup) (hr : ∀ r ∈ rs, RwS p r ∧ ∀ ts, tabsOf p.labs r.2.lab = some ts → canTell ts r.2.pr = true)
    (le : es.length ≤ 1) (he : ∀ r ∈ es, RwS p r ∧ ∀ ts, tabsOf p.labs r.2.lab = some ts → canTell ts r.2.pr = false) :
    readText (textR ((p.people.map wp ++ (p.labs.map wl ++ (rs.map wr ++ ([] ++ es.map wr)))).map J)) = if es.map wr = [] then .inr ⟨p.people, p.labs, rs, []⟩ else .inl (p.people.length + p.labs.length + rs.length + 0 + 1) := by
  have tt : ∀ {s : Str}, s ∈ p.labs.map (·.1) → ∃ ts, tabsOf p.labs s = some ts := by
    intro s hs
    obtain ⟨l, hl, e⟩ := List.mem_map.mp hs
    unfold tabsOf
    cases hz : p.labs.find? fun l => decide (l.1 = s) with
    | none => exact absurd (decide_eq_true e) (by simpa using List.find?_eq_none.mp hz l hl)
    | some y => exact ⟨_, rfl⟩
  have day : ∀ {r : Str × Row}, RwS p r → isDayD (.int r.2.day) = true := by
    intro r hr
    have h0 := hr.d0
    have h1 := hr.d1
    show (decide (0 ≤ r.2.day) && decide (r.2.day ≤ 99)) = true
    rw [decide_eq_true h0, decide_eq_true h1]
    rfl
  have Rd : Reads (p.people.map wp) (p.labs.map wl) (rs.map wr) [] (es.map wr) p.people p.labs rs [] := by
    refine ⟨?_, labs_stop h _, ?_, ?_, ?_, ?_, .nil, ?_⟩
    · exact steps_pairs (found := []) (fun x hx => ⟨person_read (h.ps x hx).1 (h.ps x hx).2.1 (h.ps x hx).2.2.1 (h.ps x hx).2.2.2.1 (h.ps x hx).2.2.2.2, rfl, rfl⟩) h.pn (fun x _ z => by cases z) (by show 0 + _ ≤ _; have := h.p3; omega)
    · exact steps_pairs (found := []) (fun x hx => ⟨lab_read (h.ls x hx).1 (h.ls x hx).2.1 (h.ls x hx).2.2.1 (h.ls x hx).2.2.2, rfl, rfl⟩) h.ln (fun x _ z => by cases z) (by show 0 + _ ≤ _; have := h.l6; omega)
    · cases rs with
      | nil =>
        cases es with
        | nil => exact True.intro
        | cons x xs => exact stops_kw (kw_ne (by decide +kernel))
      | cons x xs => exact stops_kw (kw_ne (by decide +kernel))
    · refine steps_pairs (found := []) (fun x hx => ⟨?_, rfl, rfl⟩) nd (fun x _ z => by cases z) (by show 0 + _ ≤ _; omega)
      obtain ⟨h1, h2⟩ := hr x hx
      obtain ⟨ts, ht⟩ := tt h1.la
      show resultIn _ _ ((rowW x).map wordS) = _
      rw [row_read h1.n h1.pe ht h1.pr (sm_day h1.d0 h1.d1) (day h1), if_pos (h2 ts ht)]
    · cases es with
      | nil => exact True.intro
      | cons x xs =>
        obtain ⟨h1, h2⟩ := he x List.mem_cons_self
        obtain ⟨ts, ht⟩ := tt h1.la
        refine stops_f ?_
        show resultIn _ _ ((rowW x).map wordS) = _
        rw [row_read h1.n h1.pe ht h1.pr (sm_day h1.d0 h1.d1) (day h1), h2 ts ht]
        rfl
    · cases es with
      | nil => exact True.intro
      | cons x xs =>
        show toldFW p.people p.labs 0 (wr x) = none
        unfold toldFW
        exact if_neg fun z => absurd z.1 (kw_ne (by decide +kernel))
  have tx : Tx (p.people.map wp ++ (p.labs.map wl ++ (rs.map wr ++ ([] ++ es.map wr)))) := by
    refine ⟨?_, ?_, ?_⟩
    · intro z
      have := (List.append_eq_nil_iff.mp z).1
      exact h.p1 (List.map_eq_nil_iff.mp this)
    · simp only [List.length_append, List.length_map, List.length_nil]
      have := h.p3
      have := h.l6
      omega
    · intro ws hw
      simp only [List.mem_append, List.not_mem_nil, false_or] at hw
      rcases hw with hw | hw | hw | hw
      · exact ln_p h ws hw
      · exact ln_l h ws hw
      · obtain ⟨r, hr', rfl⟩ := List.mem_map.mp hw
        exact ln_r h (hr r hr').1
      · obtain ⟨r, hr', rfl⟩ := List.mem_map.mp hw
        exact ln_r h (he r hr').1
  have := read_by tx Rd h.p1 h.l1
  simpa only [List.length_map, List.length_nil] using this
end G

set_option Elab.async false
set_option linter.all false
set_option maxRecDepth 100000
set_option maxHeartbeats 4000000
namespace G
open PySem PySem.Spec PyProof.Rows L2 U
open PySem.W (Frag)
theorem sm_log {i : Int} (h : Sm i) : i.natAbs.log2 < 1920 := by
  by_cases z : i.natAbs = 0
  · rw [z]
    decide
  · rw [Nat.log2_lt z]
    have h1 : i.natAbs < 10 ^ 11 := by
      have := h.1
      have := h.2
      omega
    exact Nat.lt_of_lt_of_le h1 (Nat.le_trans (show 10 ^ 11 ≤ 2 ^ 40 by decide) (Nat.pow_le_pow_right (by decide) (by decide)))
theorem atom_int {i : Int} (h : Sm i) : isAtom (.int i) = true := decide_eq_true (sm_log h)
theorem atom_prn {p : Prn} (h : PrnS p) : isAtom p.d = true := by
  cases p with
  | num i => exact atom_int h
  | word s => rfl
theorem atoms_p {p : Parts} (h : PaOk p) : ∀ l ∈ p.people.map personW, ∀ d ∈ l, isAtom d = true := by
  intro l hl d hd
  obtain ⟨x, hx, rfl⟩ := List.mem_map.mp hl
  obtain ⟨h1, _, _, s1, s2⟩ := h.ps x hx
  unfold personW at hd
  simp only [List.mem_cons, List.not_mem_nil, or_false] at hd
  rcases hd with rfl | rfl | rfl | rfl
  · rfl
  · rfl
  · exact atom_int s1
  · exact atom_int s2
theorem atoms_l {p : Parts} (h : PaOk p) : ∀ l ∈ p.labs.map labW, ∀ d ∈ l, isAtom d = true := by
  intro l hl d hd
  obtain ⟨x, hx, rfl⟩ := List.mem_map.mp hl
  obtain ⟨h1, h2, h3, h4⟩ := h.ls x hx
  unfold labW at hd
  rcases List.mem_cons.mp hd with rfl | hd
  · rfl
  rcases List.mem_cons.mp hd with rfl | hd
  · rfl
  obtain ⟨l, hl, hd⟩ := List.mem_flatten.mp hd
  obtain ⟨t, ht, rfl⟩ := List.mem_map.mp hl
  have q := h4 t ht
  unfold tabW at hd
  simp only [List.mem_cons, List.not_mem_nil, or_false] at hd
  rcases hd with rfl | rfl | rfl | rfl | rfl
  · exact atom_int q.fa
  · exact atom_int q.sh
  · exact atom_int q.st
  · exact atom_int q.lo
  · exact atom_int q.hi
theorem atoms_r {p : Parts} {r : Str × Row} (h : RwS p r) : ∀ d ∈ rowW r, isAtom d = true := by
  intro d hd
  unfold rowW at hd
  simp only [List.mem_cons, List.not_mem_nil, or_false] at hd
  rcases hd with rfl | rfl | rfl | rfl | rfl | rfl
  · rfl
  · rfl
  · rfl
  · rfl
  · exact atom_int (sm_day h.d0 h.d1)
  · exact atom_prn h.pr
theorem lines_J2 (p : Parts) (hf : p.facts = []) : (linesW p).map lineS = (p.people.map wp ++ (p.labs.map wl ++ (p.rows.map wr ++ ([] ++ [])))).map J := by
  unfold linesW
  rw [hf]
  simp only [List.map_append, List.map_map, List.map_nil, List.append_nil, List.append_assoc]
  rfl
theorem tx_of {p : Parts} (h : PaOk p) (hr : ∀ r ∈ p.rows, RwS p r) (hl : p.rows.length ≤ 25) : Tx (p.people.map wp ++ (p.labs.map wl ++ (p.rows.map wr ++ ([] ++ [])))) := by
  refine ⟨?_, ?_, ?_⟩
  · intro z
    exact h.p1 (List.map_eq_nil_iff.mp (List.append_eq_nil_iff.mp z).1)
  · simp only [List.length_append, List.length_map, List.length_nil]
    have := h.p3
    have := h.l6
    omega
  · intro ws hw
    simp only [List.mem_append, List.not_mem_nil, or_false] at hw
    rcases hw with hw | hw | hw
    · exact ln_p h ws hw
    · exact ln_l h ws hw
    · obtain ⟨r, hr', rfl⟩ := List.mem_map.mp hw
      exact ln_r h (hr r hr')
theorem fits_of {p : Parts} (h : PaOk p) (hf : p.facts = []) (hr : ∀ r ∈ p.rows, RwS p r) (hl : p.rows.length ≤ 25) : Fits p := by
  have tx := tx_of h hr hl
  have lm : ∀ l ∈ linesW p, l.map wordS ∈ p.people.map wp ++ (p.labs.map wl ++ (p.rows.map wr ++ ([] ++ []))) ∧ ∀ d ∈ l, isAtom d = true := by
    intro l hl
    unfold linesW at hl
    rw [hf] at hl
    simp only [List.map_nil, List.append_nil, List.mem_append] at hl ⊢
    rcases hl with (hl | hl) | hl
    · refine ⟨.inl ?_, atoms_p h l hl⟩
      obtain ⟨x, hx, rfl⟩ := List.mem_map.mp hl
      exact List.mem_map_of_mem (f := wp) hx
    · refine ⟨.inr (.inl ?_), atoms_l h l hl⟩
      obtain ⟨x, hx, rfl⟩ := List.mem_map.mp hl
      exact List.mem_map_of_mem (f := wl) hx
    · obtain ⟨x, hx, rfl⟩ := List.mem_map.mp hl
      exact ⟨.inr (.inr (List.mem_map_of_mem (f := wr) hx)), atoms_r (hr x hx)⟩
  have ll : (linesW p).length ≤ 60 := by
    have e := congrArg List.length (lines_J2 p hf)
    rw [List.length_map, List.length_map] at e
    rw [e]
    exact tx.few
  refine ⟨by omega, fun l hl => ?_, fun d hd => ?_, ?_⟩
  · obtain ⟨h1, h2⟩ := lm l hl
    have L := tx.all _ h1
    have f := L.few
    rw [List.length_map] at f
    refine ⟨by omega, h2, ?_⟩
    have := sum_le (xs := (l.map wordS).map (·.length)) (m := 12) (fun x hx => by
      obtain ⟨w, hw, rfl⟩ := List.mem_map.mp hx
      exact (L.all w hw).l)
    rw [List.length_map, List.length_map] at this
    omega
  · rw [hf] at hd
    cases hd
  · have := sum_ok tx
    rw [← lines_J2 p hf, List.length_map] at this
    exact this
theorem textOk_of {p : Parts} (h : PaOk p) (hf : p.facts = []) (hr : ∀ r ∈ p.rows, RwS p r) (hl : p.rows.length ≤ 25) : TextOk (textOf p) := by
  rw [text_J p hf]
  exact text_ok (tx_of h hr hl)
theorem loreOk_of {p : Parts} (h : PaOk p) (hf : p.facts = []) (hr : ∀ r ∈ p.rows, RwS p r) (hl : p.rows.length ≤ 25) : LoreOk p := by
  refine ⟨fits_of h hf hr hl, fun l hl z => ?_, fun d hd => ?_⟩
  · have := (h.ls l hl).2.1
    rw [z] at this
    cases this
  · rw [hf] at hd
    cases hd
end G

set_option Elab.async false
set_option linter.all false
set_option maxRecDepth 100000
set_option maxHeartbeats 4000000
namespace G
open PySem PySem.Spec PyProof.Rows L2 U
open PySem.W (Frag)
theorem put_words {ws : List Str} (h : Ln ws) : putWords (.str (J ws)) = ws := by
  show (if (10 : Nat) ∈ (J ws).cps.toList then [("" : Str)] else wordsOf (J ws)) = ws
  rw [if_neg (J_feed h)]
  exact words_J h
theorem put_row {p : Parts} (h : PaOk p) {r : Str × Row} (hr : RwS p r) (h0 : p.rows = []) {ts : List Tab} (ht : tabsOf p.labs r.2.lab = some ts) :
    putOut p (putWords (.str (J (wr r)))) = if canTell ts r.2.pr = true then .inr r else .inl true := by
  rw [put_words (ln_r h hr)]
  have e : resultIn p.people p.labs (wr r) = if canTell ts r.2.pr = true then some r.2 else none := row_read hr.n hr.pe ht hr.pr (sm_day hr.d0 hr.d1) (by
    show (decide (0 ≤ r.2.day) && decide (r.2.day ≤ 99)) = true
    rw [decide_eq_true hr.d0, decide_eq_true hr.d1]
    rfl)
  have e1 : putTold p (wr r) = if canTell ts r.2.pr = true then some r.2 else none := by
    unfold putTold
    rw [if_pos (show (wr r)[0]? = some ("result" : Str) from rfl), e]
  unfold putOut
  rw [e1]
  by_cases c : canTell ts r.2.pr = true
  · rw [if_pos c, if_pos c, h0]
    rfl
  · rw [if_neg c, if_neg c]
/-- the text of one chart without rows, or with one row -/
theorem read_none_rows {p : Parts} (h : PaOk p) (hf : p.facts = []) (h0 : p.rows = []) : readText (textOf p) = .inr p := by
  have r := read_rows h (rs := []) (es := []) (by decide) .nil (fun r hr => by cases hr) (by decide) (fun r hr => by cases hr)
  rw [if_pos (show List.map wr [] = [] from rfl)] at r
  rw [text_J p hf, h0]
  refine r.trans ?_
  cases p
  cases hf
  cases h0
  rfl
theorem read_one_row {p : Parts} (h : PaOk p) (hf : p.facts = []) (h0 : p.rows = []) {r : Str × Row} (hr : RwS p r) {ts : List Tab} (ht : tabsOf p.labs r.2.lab = some ts) :
    readText (textOf { p with rows := [r] }) = if canTell ts r.2.pr = true then .inr { p with rows := [r] } else .inl (p.people.length + p.labs.length + 1) := by
  by_cases c : canTell ts r.2.pr = true
  · have q := read_rows h (rs := [r]) (es := []) (show 1 ≤ 24 by decide) (by simp) (fun z hz => by
      cases List.mem_singleton.mp hz
      exact ⟨hr, fun ts' ht' => by rw [ht] at ht'; cases ht'; exact c⟩) (by decide) (fun r hr => by cases hr)
    rw [if_pos (show List.map wr [] = [] from rfl)] at q
    rw [if_pos c, text_J { p with rows := [r] } hf]
    refine q.trans ?_
    cases p
    cases hf
    rfl
  · have q := read_rows h (rs := []) (es := [r]) (by decide) .nil (fun r hr => by cases hr) (show 1 ≤ 1 by decide) (fun z hz => by
      cases List.mem_singleton.mp hz
      exact ⟨hr, fun ts' ht' => by rw [ht] at ht'; cases ht'; exact Bool.eq_false_iff.mpr c⟩)
    rw [if_neg (fun z => by cases z)] at q
    rw [if_neg c, text_J { p with rows := [r] } hf]
    exact q
end G

set_option Elab.async false
set_option linter.all false
set_option maxRecDepth 100000
set_option maxHeartbeats 4000000
namespace U
open PySem PySem.Spec PyProof.Rows L2
open PySem.W (Frag)
mutual
theorem Dq.moveN {F G : Addr → Prop} {H H' : Hp} (g : ∀ b, F b → G b) (k : ∀ b o, F b → (∀ ps, o ≠ HO.tbl ps) → H b = some o → H' b = some o) : ∀ {v : V} {d : PyData}, Dq F H v d → Dq G H' v d
  | _, _, .non => .non
  | _, _, .bl b => .bl b
  | _, _, .int i => .int i
  | _, _, .str x => .str x
  | _, _, .lst f e h => .lst (g _ f) (k _ _ f (fun ps z => by cases z) e) (DqAll.moveN g k h)
  | _, _, .tup f e h => .tup (g _ f) (k _ _ f (fun ps z => by cases z) e) (DqAll.moveN g k h)
  | _, _, .dk f e h => .dk (g _ f) (k _ _ f (fun ps z => by cases z) e) (DqAll.moveN g k h)
theorem DqAll.moveN {F G : Addr → Prop} {H H' : Hp} (g : ∀ b, F b → G b) (k : ∀ b o, F b → (∀ ps, o ≠ HO.tbl ps) → H b = some o → H' b = some o) : ∀ {vs : List V} {ds : List PyData}, DqAll F H vs ds → DqAll G H' vs ds
  | _, _, .nil => .nil
  | _, _, .cons h t => .cons (Dq.moveN g k h) (DqAll.moveN g k t)
end
end U

set_option Elab.async false
set_option linter.all false
set_option maxRecDepth 100000
set_option maxHeartbeats 4000000
namespace U
open PySem PySem.Spec PyProof.Rows L2
open PySem.W (Frag)
/-- no error is wished: none passes -/
theorem passN {X : Cx} {P : Program} {w : World} : Passes (L2.CX P w) X E0 := fun _ _ _ _ _ _ _ h => by
  obtain ⟨_, _, _, h⟩ := h
  simp [E0] at h
end U

set_option Elab.async false
set_option linter.all false
set_option maxRecDepth 100000
set_option maxHeartbeats 4000000
namespace G
open PySem PySem.Spec PyProof.Rows L2 U
open PySem.W (Frag)
def ExtPN (p : Addr) (H H' : Hp) : Prop := ∀ b o, b ≠ p → H b = some o → (∀ ps, o ≠ .tbl ps) → H' b = some o
section
variable {P : Program} {w : World} {K : Frag} {mg : Str → Option Value} {base : Heap} {f fC fT fO fN fTb fI CB CT C fI' : Addr} {fd fdC fdT fdO fdN fdTb fdI : FuncData} {X : Cx}
theorem anyN {k : Nat} {ps : List Str} {sp : Nat → Sp} (h : ∀ n, FnOk P w K mg base CX0 k f fd ps (sp n)) : FnOk P w K mg base CX0 k f fd ps (fun vs H Q E => ∃ n, sp n vs H Q E) :=
  ⟨fun vs H Q E z => z.elim fun n z => (h n).len vs H Q E z, fun A outer s H args us vs Q E h1 h2 h3 h4 h5 => h5.elim fun n h5 => (h n).run A outer s H args us vs Q E h1 h2 h3 h4 h5⟩
end
end G

set_option Elab.async false
set_option linter.all false
set_option maxRecDepth 100000
set_option maxHeartbeats 4000000
namespace U
open PySem PySem.Spec PyProof.Rows L2
open PySem.W (Frag)
/-! ### data without lists is moved past a list -/
mutual
def noList : PyData → Bool
  | .list _ => false
  | .tuple ds => noLists ds
  | .dict kvs => noPairs kvs
  | _ => true
def noLists : List PyData → Bool
  | [] => true
  | d :: ds => noList d && noLists ds
def noPairs : List (PyData × PyData) → Bool
  | [] => true
  | (_, d) :: ds => noList d && noPairs ds
end
theorem noPairs_zip : ∀ (ks ds : List PyData), ks.length = ds.length → noPairs (ks.zip ds) = noLists ds
  | [], [], _ => by rw [List.zip_nil_left, noPairs, noLists]
  | k :: ks, d :: ds, h => by
    rw [List.zip_cons_cons, noPairs, noLists, noPairs_zip ks ds (Nat.succ.inj h)]
mutual
theorem Dq.past {F : Addr → Prop} {H : Hp} {p : Addr} {ys : List V} (hp : H p = some (.lst ys)) : ∀ {v : V} {d : PyData}, Dq F H v d → noList d = true → Dq (fun a => F a ∧ a ≠ p) H v d
  | _, _, .non, _ => .non
  | _, _, .bl b, _ => .bl b
  | _, _, .int i, _ => .int i
  | _, _, .str x, _ => .str x
  | _, _, .lst f e h, n => by rw [noList] at n; cases n
  | _, _, .tup f e h, n => .tup ⟨f, fun z => by rw [z, hp] at e; cases e⟩ e (DqAll.past hp h (by rw [noList] at n; exact n))
  | _, _, .dk (kvs := kvs) (ds := ds) f e h, n => .dk ⟨f, fun z => by rw [z, hp] at e; cases e⟩ e (DqAll.past hp h (by
      rw [noList, noPairs_zip _ _ (by have := h.len; rw [List.length_map] at this; rw [List.length_map]; exact this)] at n
      exact n))
theorem DqAll.past {F : Addr → Prop} {H : Hp} {p : Addr} {ys : List V} (hp : H p = some (.lst ys)) : ∀ {vs : List V} {ds : List PyData}, DqAll F H vs ds → noLists ds = true → DqAll (fun a => F a ∧ a ≠ p) H vs ds
  | _, _, .nil, _ => .nil
  | _, _, .cons h t, n => by
    rw [noLists, Bool.and_eq_true] at n
    exact .cons (Dq.past hp h n.1) (DqAll.past hp t n.2)
end
end U
namespace G
open PySem PySem.Spec PyProof.Rows L2 U
open PySem.W (Frag)
theorem noLists_map {α : Type} {f : α → PyData} (h : ∀ x, noList (f x) = true) : ∀ xs : List α, noLists (xs.map f) = true
  | [] => by rw [List.map_nil, noLists]
  | x :: xs => by rw [List.map_cons, noLists, h x, noLists_map h xs]; rfl
theorem noPairs_map {α : Type} {g f : α → PyData} (h : ∀ x, noList (f x) = true) : ∀ xs : List α, noPairs (xs.map fun x => (g x, f x)) = true
  | [] => by rw [List.map_nil, noPairs]
  | x :: xs => by rw [List.map_cons, noPairs, h x, noPairs_map h xs]; rfl
theorem nl_tab (t : Tab) : noList t.d = true := by
  simp [Tab.d, noList, noLists]
theorem nl_tabs (ts : List Tab) : noList (tabsD ts) = true := by
  rw [tabsD, noList]
  exact noLists_map nl_tab ts
theorem nl_row (r : Row) : noList r.d = true := by
  cases r with
  | mk a b c pr => cases pr <;> simp [Row.d, Prn.d, noList, noLists]
/-- what the loop keeps: all but the tables and the pot -/
theorem ChartIs.moveP {C p : Addr} {H H' : Hp} {v : V} {q : Parts} {ys : List V} (h : ChartIs C H v q) (hf : noLists q.facts = true) (hp : H p = some (.lst ys)) (e : ExtPN p H H') : ChartIs C H' v q := by
  obtain ⟨a, dx, v1, v2, v3, v4, rfl, ha, d1, d2, d3, d4⟩ := h
  have mv : ∀ {v : V} {d : PyData}, Da H v d → noList d = true → Da H' v d := fun h n => Dq.moveN (fun _ _ => True.intro) (fun b o f nt z => e b o f.2 z nt) (Dq.past hp h n)
  have ap : a ≠ p := fun z => by rw [z, hp] at ha; cases ha
  refine ⟨a, dx, v1, v2, v3, v4, rfl, e _ _ ap ha (fun ps z => by cases z), mv d1 ?_, mv d2 ?_, mv d3 ?_, mv d4 ?_⟩
  · rw [dictD, noList]
    exact noPairs_map (fun x => by simp [ratesD, noList, noLists]) _
  · rw [dictD, noList]
    exact noPairs_map (fun x : Str × List Tab => nl_tabs x.2) _
  · rw [dictD, noList]
    exact noPairs_map (fun x : Str × Row => nl_row x.2) _
  · rw [noList]
    exact hf
end G

set_option Elab.async false
set_option linter.all false
set_option maxRecDepth 100000
set_option maxHeartbeats 4000000
namespace G
open PySem PySem.Spec PyProof.Rows L2 U
open PySem.W (Frag)
/-! ### special methods and isinstance, told as Bools -/
def dunB (K : Frag) (C : Addr) (m : Str) : Bool := He.eqO (PySem.W.findIn K (.ref C) m) (some (some (.ref (He.ma K C m)))) && (PySem.W.isFn K (.ref (He.ma K C m)) && PySem.W.fnIn K (He.ma K C m))
theorem dunB_ok {K : Frag} {C : Addr} {m : Str} (h : dunB K C m = true) : Dun K C m (He.ma K C m) := by
  obtain ⟨h1, h⟩ := He.ba h
  obtain ⟨h2, h3⟩ := He.ba h
  exact ⟨He.eqO_ok h1, h2, h3⟩
def isChB (K : Frag) (C : Addr) : Bool := He.eqO (PySem.W.findIn K (.ref C) "__class__") (some (some (.builtin "object.__class__"))) && (He.eqO (PySem.W.specialIn K (.builtin "object.__class__") "__get__") (some (some (.builtin "getset_descriptor.__get__"))) &&
  (decide (PySem.W.takesIn K (.builtin "object.__class__") = some true) && (decide (PySem.W.mroIn K C (.type "object") = some true) && decide (PySem.W.kitOne K (.ref C) (.ref C) = some true))))
theorem isChB_ok {K : Frag} {C : Addr} (h : isChB K C = true) : IsCh K C := by
  obtain ⟨h1, h⟩ := He.ba h
  obtain ⟨h2, h⟩ := He.ba h
  obtain ⟨h3, h⟩ := He.ba h
  obtain ⟨h4, h5⟩ := He.ba h
  exact ⟨He.eqO_ok h1, He.eqO_ok h2, of_decide_eq_true h3, of_decide_eq_true h4, of_decide_eq_true h5⟩
end G

set_option Elab.async false
set_option linter.all false
set_option maxRecDepth 100000
set_option maxHeartbeats 4000000
namespace U
open PySem PySem.Spec PyProof.Rows L2 PySem.Calls
open PySem.W (Frag)
/-! ### list(enumerate(xs)) of a list -/
theorem enum_no_len : typeLookup (.type "enumerate") "__len__" = pure none := by rw [typeLookup_type, builtinLookup_eq_fast]; kernel_rfl
theorem enum_no_hint : typeLookup (.type "enumerate") "__length_hint__" = pure none := by rw [typeLookup_type, builtinLookup_eq_fast]; kernel_rfl
section
variable {prog : Program} {w : World} {A : Around} {E : Value → Shared → Prop} {s : Shared}
theorem hint_enum {r : Addr} {Q : Bool → Shared → Prop} (hT : s.TypeIs (.ref r) "enumerate") (h : Q true s) : wpAny (model prog w) A (Builtin.List.listLengthHint (.ref r)) Q E s := by
  unfold Builtin.List.listLengthHint
  refine wpAny_bind (wpAny_specialOf hT enum_no_len ?_)
  wp_delta
  refine wpAny_ite_split (fun z => absurd z (by decide)) (fun _ => ?_)
  refine wpAny_ite_split (fun z => absurd z (by decide)) (fun _ => ?_)
  refine wpAny_bind (wpAny_specialOf hT enum_no_hint ?_)
  exact wpAny_pure h
/-- the numbered items that lie above an address -/
structure Ers (xs : Array Value) (lo : Addr) (h : Heap) (as : List Addr) : Prop where
  up : as.Pairwise (· < ·)
  over : ∀ a ∈ as, lo < a
  is : ∀ (j : Nat) (a : Addr), as[j]? = some a → ∃ t x, xs[j]? = some x ∧ IsPair h a (.int j t) x
theorem Ers.lt {xs : Array Value} {lo : Addr} {h : Heap} {as : List Addr} (g : Ers xs lo h as) {a : Addr} (ha : a ∈ as) : a < h.objs.size := by
  obtain ⟨j, hj⟩ := List.mem_iff_getElem?.mp ha
  obtain ⟨t, x, _, e⟩ := g.is j a hj
  exact Heap.lt_size e
def ESt (I l : Nat) (xs : Array Value) (i : Nat) (h : Heap) : Prop :=
  h.IsListIter (I : Nat) l i ∧ h.IsList l xs ∧ ((∃ old, IsEnum h (I + 1 : Nat) (I : Nat) i old) ∨ ∃ (old : Value) (T : Addr) (f : Bool) (oT : Obj), IsEnumHeld h (I + 1 : Nat) (I : Nat) i old T f ∧ h.get? T = some oT ∧ I + 2 < T)
theorem ESt.keep {I l : Nat} {xs : Array Value} {i : Nat} {h h' : Heap} (st : ESt I l xs i h) (h1 : l < I) (k : ∀ b o, b ≠ (I + 2 : Nat) → h.get? b = some o → h'.get? b = some o) : ESt I l xs i h' := by
  obtain ⟨a2, a4, a6⟩ := st
  refine ⟨a2.at fun o e => k _ o (nN (by omega)) e, a4.at fun o e => k _ o (nN (by omega)) e, ?_⟩
  rcases a6 with ⟨old, z⟩ | ⟨old, T, f, oT, z, q, r⟩
  · exact .inl ⟨old, k _ _ (nN (by omega)) z⟩
  · exact .inr ⟨old, T, f, oT, k _ _ (nN (by omega)) z, k _ _ (Nat.ne_of_gt r) q, r⟩
theorem es_item {I l : Nat} {xs : Array Value} {i : Nat} {x : Value} {Q : Option Value → Shared → Prop} (h1 : l < I) (st : ESt I l xs i s.heap) (hS : I + 2 < s.heap.objs.size) (hx : xs[i]? = some x)
    (hQ : ∀ h', ESt I l xs (i + 1) h' → IsPair h' s.heap.objs.size (.int i s.toks) x → h'.objs.size = s.heap.objs.size + 1 → (∀ b o, (b < I ∨ I + 1 < b) → s.heap.get? b = some o → h'.get? b = some o) → Q (some (.ref s.heap.objs.size)) { s with heap := h', toks := s.toks + 1 }) :
    wpAny (model prog w) A (pyNext (.ref (I + 1 : Nat))) Q E s := by
  obtain ⟨a2, a4, a6⟩ := st
  have ec : ((i + 1 : Nat) : Int) = (i : Int) + 1 := by omega
  have ne : ((I + 1 : Nat) : Addr) ≠ (I : Nat) := nN (by omega)
  rcases a6 with ⟨old, z⟩ | ⟨old, T, f, oT, z, q, r⟩
  · refine wpAny_pyNext_enum_item z a2 a4 hx ne fun h' b1 b3 b5 b6 b7 => ?_
    have k : ∀ b o, (b < I ∨ I + 1 < b) → s.heap.get? b = some o → h'.get? b = some o := fun b o hb e => b7 b o (nN (by omega)) (nN (by omega)) e
    refine hQ h' ⟨b3, a4.at fun o e => k _ o (.inl h1) e, .inr ⟨x, s.heap.objs.size, false, _, by rw [ec]; exact b1, b5, hS⟩⟩ b5 b6 k
  · refine wpAny_pyNext_enum_item_held z q (nN (Nat.ne_of_gt (Nat.lt_trans (Nat.lt_succ_self _) r))) (nN (Nat.ne_of_gt (by omega))) a2 a4 hx ne fun h' b1 b3 b5 b6 b7 => ?_
    have k : ∀ b o, (b < I ∨ I + 1 < b) → s.heap.get? b = some o → h'.get? b = some o := fun b o hb e => b7 b o (nN (by omega)) (nN (by omega)) e
    refine hQ h' ⟨b3, a4.at fun o e => k _ o (.inl h1) e, .inr ⟨old, T, true, oT, by rw [ec]; exact b1, k _ _ (.inr (Nat.lt_trans (Nat.lt_succ_self _) r)) q, r⟩⟩ b5 b6 k
theorem es_done {I l : Nat} {xs : Array Value} {i : Nat} {Q : Option Value → Shared → Prop} (hh : A.handled = none) (h1 : l < I) (st : ESt I l xs i s.heap) (he : xs[i]? = none)
    (hQ : ∀ h', (∀ b o, (b < I ∨ I + 1 < b) → s.heap.get? b = some o → h'.get? b = some o) → Q none { s with heap := h' }) : wpAny (model prog w) A (pyNext (.ref (I + 1 : Nat))) Q E s := by
  obtain ⟨a2, a4, a6⟩ := st
  rcases a6 with ⟨old, z⟩ | ⟨old, T, f, oT, z, q, r⟩
  · exact wpAny_pyNext_enum_end hh z a2 a4 he fun h' k => hQ h' fun b o hb e => k b o (nN (by omega)) e
  · exact wpAny_pyNext_enum_end_held hh z a2 a4 he fun h' k => hQ h' fun b o hb e => k b o (nN (by omega)) e
end
section
variable {prog : Program} {w : World} {A : Around} {s : Shared} {R : Result → Shared → Prop}
theorem el_loop {I l : Nat} {xs : Array Value} (hh : A.handled = none) (h1 : l < I) (hn : xs.size ≤ sizeLine) (res : Value) {h₁ : Heap}
    (hR : ∀ h' tk acc c as, (∀ b o, b < I → h₁.get? b = some o → h'.get? b = some o) → h'.get? (I + 2 : Nat) = some { cls := .type "list", dict := none, data := .seq acc c, slots := #[] } → as.length = xs.size → Ers xs (I + 2 : Nat) h' as →
      acc.toList = as.map Value.ref → R (.ok (.ret res)) { s with heap := h', toks := tk }) :
    ∀ (k i : Nat) (h : Heap) (tk c : Nat) (acc : Array Value) (as : List Addr), xs.size - i = k → i ≤ xs.size → ESt I l xs i h → (∀ b o, b < I → h₁.get? b = some o → h.get? b = some o) →
      h.get? (I + 2 : Nat) = some { cls := .type "list", dict := none, data := .seq acc c, slots := #[] } → acc.toList = as.map Value.ref → as.length = i → Ers xs (I + 2 : Nat) h as →
      codeAny (model prog w) A (.builtin "list.extend.loop" ⟨[.ref (I + 2 : Nat), .ref (I + 1 : Nat), res], []⟩) R { s with heap := h, toks := tk } := by
  intro k
  induction k with
  | zero =>
    intro i h tk c acc as hk hi st hkp hS hacc hal hG
    refine codeAny_builtin PySem.F.entry_extend_loop ?_
    rw [Around.under_plainId PySem.F.plain_extend_loop _]
    show wpAny _ A.in1 (pyNext (.ref (I + 1 : Nat)) >>= _) _ _ _
    refine wpAny_bind (es_done (s := { s with heap := h, toks := tk }) (A := A.in1) hh h1 st (Array.getElem?_eq_none (by omega)) fun h' ke => ?_)
    refine wpAny_pure (hR h' tk acc c as (fun b o hb e => ke b o (.inl hb) (hkp b o hb e)) (ke _ _ (.inr (Nat.lt_succ_self _)) hS) (by omega) ⟨hG.up, hG.over, fun j a hj => ?_⟩ hacc)
    obtain ⟨t, x, e1, e2⟩ := hG.is j a hj
    exact ⟨t, x, e1, ke a _ (.inr (Nat.lt_trans (Nat.lt_succ_self _) (hG.over a (List.mem_of_getElem? hj)))) e2⟩
  | succ k ih =>
    intro i h tk c acc as hk hi st hkp hS hacc hal hG
    have lx : i < xs.size := by omega
    have hsz : acc.size = i := by
      rw [← Array.length_toList, hacc, List.length_map]
      exact hal
    refine codeAny_builtin PySem.F.entry_extend_loop ?_
    rw [Around.under_plainId PySem.F.plain_extend_loop _]
    show wpAny _ A.in1 (pyNext (.ref (I + 1 : Nat)) >>= _) _ _ _
    have hSl : I + 2 < h.objs.size := Heap.lt_size hS
    refine wpAny_bind (es_item (s := { s with heap := h, toks := tk }) h1 st hSl (Array.getElem?_eq_getElem lx) fun h' st' ht hz ke => ?_)
    dsimp only at ht hz ke ⊢
    have hS' := ke _ _ (.inr (Nat.lt_succ_self _)) hS
    have wr : ∀ b o, b ≠ (I + 2 : Nat) → h'.get? b = some o → (h'.update (I + 2 : Nat) (Obj.mapSeq (·.push (Value.ref h.objs.size)))).get? b = some o := fun b o hb e => (Heap.get?_update_other _ _ (Ne.symm hb)).trans e
    show wpAny _ A.in1 (updateSeq (I + 2 : Nat) (·.push (Value.ref h.objs.size)) >>= _) _ _ _
    refine wpAny_bind ?_
    refine wpAny_updateSeq hS' rfl (wpAny_pure ⟨plainId_quiet PySem.F.plain_extend_loop _, ih (i + 1) _ (tk + 1) _ (acc.push (Value.ref h.objs.size)) (as ++ [h.objs.size]) (by omega) (by omega) (st'.keep h1 wr)
      (fun b o hb e => wr b o (nN (by omega)) (ke b o (.inl hb) (hkp b o hb e))) (Heap.get?_update_self _ hS' rfl) ?_ ?_ ⟨?_, ?_, ?_⟩⟩) (by rw [hsz]; omega) (by show (acc.push (Value.ref h.objs.size)).size ≤ sizeLine + 1; rw [Array.size_push, hsz]; omega)
    · rw [Array.toList_push, hacc, List.map_append]
      rfl
    · rw [List.length_append, hal]
      rfl
    · refine List.pairwise_append.mpr ⟨hG.up, List.pairwise_singleton _ _, fun a ha b hb => ?_⟩
      rw [List.mem_singleton.mp hb]
      exact hG.lt ha
    · intro a ha
      rcases List.mem_append.mp ha with ha | ha
      · exact hG.over a ha
      · rw [List.mem_singleton.mp ha]
        exact hSl
    · intro j b hj
      rcases Nat.lt_trichotomy j as.length with q | q | q
      · rw [List.getElem?_append_left q] at hj
        obtain ⟨t, x, e1, e2⟩ := hG.is j b hj
        have ob := hG.over b (List.mem_of_getElem? hj)
        exact ⟨t, x, e1, wr b _ (Nat.ne_of_gt ob) (ke b _ (.inr (Nat.lt_trans (Nat.lt_succ_self _) ob)) e2)⟩
      · subst q
        have hb : h.objs.size = b := by simpa using hj
        subst hb
        subst hal
        exact ⟨_, _, Array.getElem?_eq_getElem (by omega), wr _ _ (Nat.ne_of_gt hSl) ht⟩
      · have none' : (as ++ [h.objs.size])[j]? = none := List.getElem?_eq_none (by rw [List.length_append, List.length_singleton]; omega)
        rw [none'] at hj
        cases hj
end
section
variable {prog : Program} {w : World} {A : Around} {s : Shared}
theorem el_extend {R : Result → Shared → Prop} {I l : Nat} {xs : Array Value} {c₀ : Nat} (hh : A.handled = none) (h1 : l < I) (hn : xs.size ≤ sizeLine) (res : Value) (st : ESt I l xs 0 s.heap) (hz : IsEnum s.heap (I + 1 : Nat) (I : Nat) 0 .none)
    (hS : s.heap.get? (I + 2 : Nat) = some { cls := .type "list", data := .seq #[] c₀ })
    (hR : ∀ h' tk acc c as, (∀ b o, b < I → s.heap.get? b = some o → h'.get? b = some o) → h'.get? (I + 2 : Nat) = some { cls := .type "list", dict := none, data := .seq acc c, slots := #[] } → as.length = xs.size → Ers xs (I + 2 : Nat) h' as →
      acc.toList = as.map Value.ref → R (.ok (.ret res)) { s with heap := h', toks := tk }) :
    wpAny (model prog w) A.in1 (Builtin.List.listExtendWith (.ref (I + 2 : Nat)) (.ref (I + 1 : Nat)) res)
      (fun fin s' => match fin with | .done f => R (.ok f) s' | .again c' => c'.quiet = true ∧ codeAny (model prog w) A c' R s') (fun e s' => R (.error e) s') s := by
  have hT : s.TypeIs (.ref (I + 1 : Nat)) "enumerate" := ⟨_, hz, rfl⟩
  unfold Builtin.List.listExtendWith
  refine wpAny_bind (wpAny_typeOf (T := "enumerate") hT ?_)
  have q1 : Builtin.List.listSameRef (.ref (I + 2 : Nat)) (.ref (I + 1 : Nat)) = false := by
    simp [Builtin.List.listSameRef]
  have q2 : (Value.type "enumerate" == Value.type "list") = false := by decide
  have q3 : (Value.type "enumerate" == Value.type "tuple") = false := by decide
  simp only [q1, q2, q3, Bool.or_false, Bool.false_eq_true, if_false]
  refine wpAny_bind (wpAny_pyIter_enum hz ?_)
  refine wpAny_bind (wpAny_holding (hint_enum hT ?_))
  refine wpAny_ite_split (fun _ => ?_) (fun z => absurd rfl z)
  refine wpAny_bind (wpAny_rule ?_)
  refine wpAny_bind ?_
  show wpAny _ _ (updateSeq (I + 2 : Nat) (·.push .none) >>= fun _ => updateSeq (I + 2 : Nat) (·.pop)) _ _ _
  refine wpAny_bind (wpAny_updateSeq hS rfl ?_)
  have e2 := Heap.get?_update_self (Obj.mapSeq (·.push Value.none)) hS rfl
  refine wpAny_updateSeq (hz := by seq_fits) e2 rfl ?_
  have e3 := Heap.get?_update_self (Obj.mapSeq (·.pop)) e2 rfl
  have kp : ∀ b o, b ≠ (I + 2 : Nat) → s.heap.get? b = some o → ((s.heap.update (I + 2 : Nat) (Obj.mapSeq (·.push Value.none))).update (I + 2 : Nat) (Obj.mapSeq (·.pop))).get? b = some o := fun b o hb e =>
    (Heap.get?_update_other _ _ (Ne.symm hb)).trans ((Heap.get?_update_other _ _ (Ne.symm hb)).trans e)
  refine wpAny_pure ⟨plainId_quiet PySem.F.plain_extend_loop _, el_loop (s := s) (h₁ := s.heap) hh h1 hn res hR _ 0 _ _ _ #[] [] rfl (Nat.zero_le _) (st.keep h1 kp) (fun b o hb e => kp b o (nN (by omega)) e) e3 rfl rfl ⟨List.Pairwise.nil, (fun a ha => by cases ha), fun j a hj => by simp at hj⟩⟩
theorem el_call {Q : Value → Shared → Prop} {E : Value → Shared → Prop} {I l : Nat} {xs : Array Value} (hh : A.handled = none) (h1 : l < I) (hn : xs.size ≤ sizeLine) (hI : s.heap.objs.size = I + 2) (st : ESt I l xs 0 s.heap) (hz : IsEnum s.heap (I + 1 : Nat) (I : Nat) 0 .none)
    (hQ : ∀ h' tk acc c as, (∀ b o, b < I → s.heap.get? b = some o → h'.get? b = some o) → h'.get? (I + 2 : Nat) = some { cls := .type "list", dict := none, data := .seq acc c, slots := #[] } → as.length = xs.size → Ers xs (I + 2 : Nat) h' as →
      acc.toList = as.map Value.ref → Q (.ref (I + 2 : Nat)) { s with heap := h', toks := tk }) :
    wpAny (model prog w) A (call (.type "list") [.ref (I + 1 : Nat)]) Q E s := by
  refine callType_codes (Q₁ := fun obj s₁ => obj = .ref s.heap.objs.size ∧ s₁ = { s with heap := s.heap.push { cls := .type "list", data := .seq #[] } }) PySem.F.called_list (PySem.F.typeCall_list_1 _) PySem.F.entry_list_init
    (code_list_new _ ⟨rfl, rfl⟩) fun obj s₁ h₁ => ?_
  obtain ⟨rfl, rfl⟩ := h₁
  have e0 : (s.heap.push { cls := .type "list", data := .seq #[] }).get? s.heap.objs.size = some { cls := .type "list", data := .seq #[] } := Heap.get?_push_size _ rfl
  refine ⟨⟨_, e0, rfl⟩, PySem.F.args_list_init_2 _ _, ?_⟩
  rw [hI] at e0 ⊢
  show wpAny _ _ (do let old ← Builtin.List.listItems (.ref (I + 2 : Nat)); Builtin.List.listUpdate (.ref (I + 2 : Nat)) (fun _ => #[]); letGo old.toList.reverse; Builtin.List.listExtendWith (.ref (I + 2 : Nat)) (.ref (I + 1 : Nat)) .none) _ _ _
  refine wpAny_bind ?_
  unfold Builtin.List.listItems
  refine wpAny_bind (wpAny_seqItems e0 rfl (wpAny_pure ?_))
  show wpAny _ _ (updateSeq (I + 2 : Nat) (fun _ => #[]) >>= fun _ => letGo (#[] : Array Value).toList.reverse >>= fun _ => Builtin.List.listExtendWith (.ref (I + 2 : Nat)) (.ref (I + 1 : Nat)) .none) _ _ _
  refine wpAny_bind (wpAny_updateSeq e0 rfl ?_)
  have e2 := Heap.get?_update_self (Obj.mapSeq (fun _ => (#[] : Array Value))) e0 rfl
  have kp : ∀ b o, b ≠ (I + 2 : Nat) → s.heap.get? b = some o → ((s.heap.push { cls := .type "list", data := .seq #[] }).update (I + 2 : Nat) (Obj.mapSeq (fun _ => (#[] : Array Value)))).get? b = some o := fun b o hb e =>
    (Heap.get?_update_other _ _ (Ne.symm hb)).trans (Heap.get?_push_of_some _ e)
  refine wpAny_bind (wpAny_letGo ?_)
  refine el_extend (A := A.in1) hh h1 hn .none (st.keep h1 kp) (kp _ _ (nN (by omega)) hz) e2 fun h' tk acc c as k e' hl hG ha => ?_
  exact ⟨rfl, hQ h' tk acc c as (fun b o hb e => k b o hb (kp b o (nN (by omega)) e)) e' hl hG ha⟩
end
/-- the pairs of a list's items with their places -/
def numbered (xs : List V) : List (V × V) := ((List.range xs.length).map fun i : Nat => V.int i).zip xs
def EnumTo (H : Hp) (xs : List V) (Q : VK) : Prop := ∀ (H' : Hp) (p : Addr) (ts : List Addr), Same H H' → H p = none → (∀ t ∈ ts, H t = none) → p ∉ ts → H' p = some (.lst (ts.map V.ref)) → Paired (fun (t : Addr) (q : V × V) => H' t = some (.tup [q.1, q.2])) ts (numbered xs) → Q (.ref p) H'
def tListEnum (K : Frag) (ta : TA) : TE := fun σ H Q => ta σ H fun vs H1 => ∃ a xs, vs = [.ref a] ∧ SqL K H1 a xs ∧ EnumTo H1 xs Q
section
variable {X : Cx}
theorem ers_prs {its : List Value} {lo : Addr} {h : Heap} {as : List Addr} (g : Ers its.toArray lo h as) (hl : as.length = its.length) : ∃ us : List Value, Vals ((List.range its.length).map fun i : Nat => V.int i) us ∧ Prs (us.zip its) lo h as := by
  have tk : ∀ j, j < its.length → ∃ t : Tok, ∀ a, as[j]? = some a → ∃ x, its[j]? = some x ∧ IsPair h a (.int j t) x := fun j hj => by
    have e := List.getElem?_eq_getElem (l := as) (i := j) (by omega)
    obtain ⟨t, x, h1, h2⟩ := g.is j _ e
    refine ⟨t, fun a ha => ?_⟩
    rw [e] at ha
    cases ha
    exact ⟨x, by simpa using h1, h2⟩
  let f : Nat → Tok := fun j => if hj : j < its.length then Classical.choose (tk j hj) else 0
  have hf : ∀ j, j < its.length → ∀ a, as[j]? = some a → ∃ x, its[j]? = some x ∧ IsPair h a (.int j (f j)) x := fun j hj a ha => by
    have := Classical.choose_spec (tk j hj) a ha
    show ∃ x, its[j]? = some x ∧ IsPair h a (.int j (if hj : j < its.length then Classical.choose (tk j hj) else 0)) x
    rw [dif_pos hj]
    exact this
  refine ⟨(List.range its.length).map fun i : Nat => Value.int (i : Int) (f i), ?_, g.up, g.over, fun j a ha => ?_⟩
  · generalize List.range its.length = r
    induction r with
    | nil => exact .nil
    | cons i r ih => exact .cons (show RelV (V.int i) (Value.int i (f i)) from ⟨_, rfl⟩) ih
  · have hj : j < its.length := by
      have := (List.getElem?_eq_some_iff.mp ha).1
      omega
    obtain ⟨x, h1, h2⟩ := hf j hj a ha
    refine ⟨(.int j (f j), x), ?_, h2⟩
    rw [List.getElem?_zip_eq_some]
    refine ⟨?_, h1⟩
    rw [List.getElem?_map, List.getElem?_range hj]
    rfl
/-- list(enumerate(e)) -/
theorem pe_listEnum {e : Expr} {ta : TA} {p p2 pos pos2 : Pos} (hc : X.calm = true) (hgL : Gl X "list") (hmL : X.mg "list" = none) (hv : bootBuiltins "list" = some (.type "list")) (hg : Gl X "enumerate") (hm : X.mg "enumerate" = none) (hvE : bootBuiltins "enumerate" = some (.type "enumerate")) (ha : PA X [e] ta)
    (hs : starEach [e] X.env = (false, eval e X.env) :: starEach [] X.env := by rfl) (hpl : (backTo pos2 (starEach [] X.env)).any (·.1) = false := by rfl)
    (hsL : starEach [.Call (.Name "enumerate" p2) [e] [] pos2] X.env = (false, eval (.Call (.Name "enumerate" p2) [e] [] pos2) X.env) :: starEach [] X.env := by rfl) :
    PE X (.Call (.Name "list" p) [.Call (.Name "enumerate" p2) [e] [] pos2] [] pos) (tListEnum X.K ta) := by
  refine ⟨fun pins s σ H Q I hq => ?_⟩
  refine wpAny_Call_Name_kw (ld_blt I hgL hmL hv ?_)
  refine PyProof.Rows.callWith_type1 ?_ hsL rfl
  rw [hsL]
  show wpAny _ _ (spliced ((false, eval (.Call (.Name "enumerate" p2) [e] [] pos2) X.env) :: backTo pos (starEach [] X.env))) _ _ s
  refine Calls.spliced_cons ?_
  refine Call_ (ld_blt I hg hm hvE (PyProof.Rows.callWith_type1 (thn (ha.run pos2 pins s σ H _ I hq) fun us s1 ⟨vs, H1, I1, r1, q1⟩ => ?_) hs hpl))
  obtain ⟨a, xs, ex, qx, q⟩ := q1
  subst ex
  cases r1 with
  | cons r rr =>
    cases rr
    cases r
    obtain ⟨its, rv, p1, z1⟩ := I1.list qx
    refine call_enumerate_list p1.isList fun h' hz h1 hsz hk => ?_
    refine Calls.spliced_nil ?_
    have I2 : Inv X pins σ H1 { s1 with heap := h' } := I1.kept (t' := s1.toks) hk
    refine el_call (s := { s1 with heap := h' }) (I := s1.heap.objs.size) (l := a) (xs := its.toArray) (I1.ok.hd hc) p1.lt ?_ hsz ⟨h1, p1.isList.at fun o e => hk _ o e, .inl ⟨_, hz⟩⟩ hz fun g tk acc c as k e hl hG hacc => ?_
    · rw [List.size_toArray, ← rv.length]
      exact z1
    · have hl' : as.length = its.length := by rw [hl, List.size_toArray]
      obtain ⟨us, ru, hP⟩ := ers_prs hG hl'
      have ln : (numbered xs).length = xs.length := by
        unfold numbered
        rw [List.length_zip, List.length_map, List.length_range]
        omega
      rw [← rv.length] at ru
      obtain ⟨H', k1, k2, k3, k4, k5, k6, J⟩ := pairs_laid (tk := tk) I1 (by show (numbered xs).length ≤ sizeLine; rw [ln]; exact z1) ru rv (fun b o e => k b o (Heap.lt_size e) (hk b o e)) (Nat.le_add_right _ 2) e (by show _ = (numbered xs).length; rw [ln, hl', rv.length]) hP hacc
      exact ⟨.ref _, H', J, rfl, q H' _ as k1 k2 k3 k4 k5 k6⟩
end
end U

set_option Elab.async false
set_option linter.all false
set_option maxRecDepth 100000
set_option maxHeartbeats 4000000
namespace G
open PySem PySem.Spec PyProof.Rows L2 U
open PySem.W (Frag)
/-! ### a lore, list by list -/
abbrev dK4 (u1 u2 u3 u4 : V) : HO := .dK [(.inr "people", u1), (.inr "labs", u2), (.inr "results", u3), (.inr "facts", u4)]
theorem val4 (u1 u2 u3 u4 : V) : valV [((Sum.inr ("people" : Str) : Key), u1), (.inr "labs", u2), (.inr "results", u3), (.inr "facts", u4)] (.inr "people") = some u1 ∧ valV [((Sum.inr ("people" : Str) : Key), u1), (.inr "labs", u2), (.inr "results", u3), (.inr "facts", u4)] (.inr "labs") = some u2 ∧
    valV [((Sum.inr ("people" : Str) : Key), u1), (.inr "labs", u2), (.inr "results", u3), (.inr "facts", u4)] (.inr "results") = some u3 ∧ valV [((Sum.inr ("people" : Str) : Key), u1), (.inr "labs", u2), (.inr "results", u3), (.inr "facts", u4)] (.inr "facts") = some u4 := by
  have n1 : Str.ofString "people" ≠ Str.ofString "labs" := by decide +kernel
  have n2 : Str.ofString "people" ≠ Str.ofString "results" := by decide +kernel
  have n3 : Str.ofString "people" ≠ Str.ofString "facts" := by decide +kernel
  have n4 : Str.ofString "labs" ≠ Str.ofString "results" := by decide +kernel
  have n5 : Str.ofString "labs" ≠ Str.ofString "facts" := by decide +kernel
  have n6 : Str.ofString "results" ≠ Str.ofString "facts" := by decide +kernel
  refine ⟨?_, ?_, ?_, ?_⟩ <;> simp [valV, n1, n2, n3, n4, n5, n6]
theorem get4 {H : Hp} {a : Addr} {u1 u2 u3 u4 : V} (e : H a = some (dK4 u1 u2 u3 u4)) : DGet H a (.str "people") (some u1) ∧ DGet H a (.str "labs") (some u2) ∧ DGet H a (.str "results") (some u3) ∧ DGet H a (.str "facts") (some u4) := by
  obtain ⟨h1, h2, h3, h4⟩ := val4 u1 u2 u3 u4
  exact ⟨.inl ⟨_, .inr "people", .inl e, rfl, h1.symm⟩, .inl ⟨_, .inr "labs", .inl e, rfl, h2.symm⟩, .inl ⟨_, .inr "results", .inl e, rfl, h3.symm⟩, .inl ⟨_, .inr "facts", .inl e, rfl, h4.symm⟩⟩
abbrev perD (x : Str × Int × Int) : PyData := .tuple [.str x.1, .int x.2.1, .int x.2.2]
abbrev labD (l : Str × List Tab) : PyData := .tuple [.str l.1, .list (l.2.map Tab.d)]
abbrev resD (r : Str × Row) : PyData := .tuple [.str r.1, .str r.2.person, .str r.2.lab, .int r.2.day, r.2.pr.d]
/-- where the four lists of a lore lie -/
structure LoreF (F : Addr → Prop) (H : Hp) (a a1 a2 a3 a4 : Addr) (x1 x2 x3 x4 : List V) (p : Parts) : Prop where
  f : F a
  f1 : F a1
  f2 : F a2
  f3 : F a3
  f4 : F a4
  e : H a = some (dK4 (.ref a1) (.ref a2) (.ref a3) (.ref a4))
  e1 : H a1 = some (.lst x1)
  e2 : H a2 = some (.lst x2)
  e3 : H a3 = some (.lst x3)
  e4 : H a4 = some (.lst x4)
  d1 : DqAll F H x1 (p.people.map perD)
  d2 : DqAll F H x2 (p.labs.map labD)
  d3 : DqAll F H x3 (p.rows.map resD)
  d4 : DqAll F H x4 p.facts
theorem lore_inv {F : Addr → Prop} {H : Hp} {v : V} {p : Parts} (h : Dq F H v (loreD p)) : ∃ a a1 a2 a3 a4 x1 x2 x3 x4, v = .ref a ∧ LoreF F H a a1 a2 a3 a4 x1 x2 x3 x4 p := by
  obtain ⟨a, kvs, rfl, fa, e, hk, al⟩ := dk_inv h
  have l4 : kvs.length = 4 := by
    have := congrArg List.length hk
    simpa using this
  obtain ⟨⟨k1, u1⟩, ⟨k2, u2⟩, ⟨k3, u3⟩, ⟨k4, u4⟩, rfl⟩ : ∃ a b c d, kvs = [a, b, c, d] := by
    match kvs, l4 with
    | [a, b, c, d], _ => exact ⟨a, b, c, d, rfl⟩
  have hk : [kD k1, kD k2, kD k3, kD k4] = [PyData.str "people", .str "labs", .str "results", .str "facts"] := hk
  injection hk with h1 hk
  injection hk with h2 hk
  injection hk with h3 hk
  injection hk with h4 hk
  have h1 := kD_str h1
  have h2 := kD_str h2
  have h3 := kD_str h3
  have h4 := kD_str h4
  subst h1 h2 h3 h4
  cases al with
  | cons q1 al =>
  cases al with
  | cons q2 al =>
  cases al with
  | cons q3 al =>
  cases al with
  | cons q4 al =>
  have q1 : Dq F H u1 (.list (p.people.map perD)) := q1
  have q2 : Dq F H u2 (.list (p.labs.map labD)) := q2
  have q3 : Dq F H u3 (.list (p.rows.map resD)) := q3
  have q4 : Dq F H u4 (.list p.facts) := q4
  cases q1 with
  | @lst a1 x1 _ f1 e1 d1 =>
  cases q2 with
  | @lst a2 x2 _ f2 e2 d2 =>
  cases q3 with
  | @lst a3 x3 _ f3 e3 d3 =>
  cases q4 with
  | @lst a4 x4 _ f4 e4 d4 =>
  exact ⟨a, a1, a2, a3, a4, x1, x2, x3, x4, rfl, fa, f1, f2, f3, f4, e, e1, e2, e3, e4, d1, d2, d3, d4⟩
theorem LoreF.mk' {F : Addr → Prop} {H : Hp} {a a1 a2 a3 a4 : Addr} {x1 x2 x3 x4 : List V} {p : Parts} (L : LoreF F H a a1 a2 a3 a4 x1 x2 x3 x4 p) : Dq F H (.ref a) (loreD p) :=
  dk_mk L.f L.e rfl (.cons (.lst L.f1 L.e1 L.d1) (.cons (.lst L.f2 L.e2 L.d2) (.cons (.lst L.f3 L.e3 L.d3) (.cons (.lst L.f4 L.e4 L.d4) .nil))))
theorem lab_at {F : Addr → Prop} {H : Hp} {x : List V} {labs : List (Str × List Tab)} {i : Nat} {v : V} (d : DqAll F H x (labs.map labD)) (h : x[i]? = some v) : ∃ l b u, labs[i]? = some l ∧ v = .ref b ∧ F b ∧ H b = some (.tup [.str l.1, u]) ∧ Dq F H u (.list (l.2.map Tab.d)) := by
  obtain ⟨d', hd, q⟩ := d.get h
  rw [List.getElem?_map, Option.map_eq_some_iff] at hd
  obtain ⟨l, h1, rfl⟩ := hd
  cases q with
  | @tup b ys _ fb eb al =>
  cases al with
  | @cons y1 _ _ _ q1 al =>
  cases al with
  | @cons y2 _ _ _ q2 al =>
  cases al
  cases q1
  exact ⟨l, b, y2, h1, rfl, fb, eb, q2⟩
theorem per_at {F : Addr → Prop} {H : Hp} {x : List V} {ps : List (Str × Int × Int)} {i : Nat} {v : V} (d : DqAll F H x (ps.map perD)) (h : x[i]? = some v) : ∃ l b, ps[i]? = some l ∧ v = .ref b ∧ F b ∧ H b = some (.tup [.str l.1, .int l.2.1, .int l.2.2]) := by
  obtain ⟨d', hd, q⟩ := d.get h
  rw [List.getElem?_map, Option.map_eq_some_iff] at hd
  obtain ⟨l, h1, rfl⟩ := hd
  cases q with
  | @tup b ys _ fb eb al =>
  cases al with
  | @cons y1 _ _ _ q1 al =>
  cases al with
  | @cons y2 _ _ _ q2 al =>
  cases al with
  | @cons y3 _ _ _ q3 al =>
  cases al
  cases q1
  cases q2
  cases q3
  exact ⟨l, b, h1, rfl, fb, eb⟩
theorem key_one {α : Type} {ls : List (Str × α)} (nd : (ls.map (·.1)).Nodup) {x y : Str × α} (hx : x ∈ ls) (hy : y ∈ ls) (e : x.1 = y.1) : x = y := by
  induction ls with
  | nil => cases hx
  | cons z zs ih =>
    rw [List.map_cons, List.nodup_cons] at nd
    rcases List.mem_cons.mp hx with rfl | hx'
    · rcases List.mem_cons.mp hy with rfl | hy'
      · rfl
      · exact absurd (List.mem_map.mpr ⟨y, hy', e.symm⟩) nd.1
    · rcases List.mem_cons.mp hy with rfl | hy'
      · exact absurd (List.mem_map.mpr ⟨x, hx', e⟩) nd.1
      · exact ih nd.2 hx' hy'
section
variable {P : Program} {w : World} {K : Frag} {mg : Str → Option Value} {base : Heap}
/-! ### _law_called -/
def sp_Lcalled (K : Frag) : Sp := fun vs H Q _ => ∃ (a : Addr) (xs : List V) (ns : List Str), vs = [.ref a] ∧ SqL K H a xs ∧ xs.length ≤ 1000 ∧ ns.length = xs.length ∧ (∀ (i : Nat) x, xs[i]? = some x → ∃ b n ys, ns[i]? = some n ∧ x = .ref b ∧ H b = some (.tup (.str n :: ys))) ∧
  ∀ (q : Addr) (H' : Hp), H q = none → Same H H' → H' q = some (.lst (ns.map V.str)) → Q (.ref q) H'
theorem has_Lcalled (F : Fn K mg "_law_called" s_Lcalled) : Has P w K mg base 1 "_law_called" P_Lcalled [] (sp_Lcalled K) := by
  obtain ⟨⟨fd, F⟩, g⟩ := F
  refine ⟨⟨fd, [], ?_, F.kp, .nil, F.bindsN fun _ _ _ _ _ _ us hl => match us, hl with | [_], _ => rfl⟩, g⟩
  refine F.ok sc_Lcalled (fun vs H Q E h => ?_) (fun cdv A outer s H vs Q E hr h' => ?_)
  · obtain ⟨a, xs, ns, rfl, _⟩ := h
    rfl
  · obtain ⟨a, xs, ns, rfl, hs, hl, hn, hi, hq⟩ := h'
    refine ⟨_, PSs.nox (pss_one (ps_ret (pe_lc (own := [("_law_row", 1)]) (g := gName 1) (tt := tYes) (te := tOp (rIxT K) (tVar 1) (tC (.int 0))) rfl sc_Lcalled.nd (pi_list (pv 0)) (blkOk_by (N := N_Lcalled) (sc := defScope s_Lcalled) (by decide +kernel)) (fun _ _ _ _ _ => pg_name (i := 1) sc_Lcalled.nd rfl (Or.inl rfl)) (fun _ _ _ _ _ => pts_nil)
      (fun _ _ _ _ _ => pe_ix ix_tup (pv 1) pe_int (fun _ _ => rfl))))), ?_⟩
    refine ⟨_, rfl, a, rfl, ⟨_, hs⟩, fun D nD => lc_vals (walk_list (xs := xs)) nD (ns.map V.str) (by rw [List.length_map, hn]) (by omega) (fun Hc sc => sqL_same hs sc) ?_ fun H2 s2 e2 => ?_⟩
    · rintro i x y Hc Hc' k hy sc ⟨rfl, hx⟩ hk
      obtain ⟨b, n, ys, h1, rfl, h2⟩ := hi i x hx
      rw [List.getElem?_map, h1] at hy
      cases hy
      refine ⟨rfl, _, rfl, b, _, _, .str n, rfl, rfl, SqT.of (sc _ _ h2), ?_, hk _ (Same.refl _)⟩
      exact atI_nat (j := 0) rfl
    · exact hq D H2 nD s2 e2
/-! ### _law_tables_of -/
def sp_Ltabs : Sp := fun vs H Q _ => ∃ (F : Addr → Prop) (v : V) (p : Parts) (lab : Str) (ts : List Tab), vs = [v, .str lab] ∧ Dq F H v (loreD p) ∧ p.labs.length ≤ 1000 ∧ (lab, ts) ∈ p.labs ∧ (p.labs.map (·.1)).Nodup ∧
  ∀ u H', Same H H' → Dq F H' u (.list (ts.map Tab.d)) → Q u H'
theorem has_Ltabs (F : Fn K mg "_law_tables_of" s_Ltables_of) : Has P w K mg base 1 "_law_tables_of" P_Ltables_of [] sp_Ltabs := by
  obtain ⟨⟨fd, F⟩, g⟩ := F
  refine ⟨⟨fd, [], ?_, F.kp, .nil, F.bindsN fun _ _ _ _ _ _ us hl => match us, hl with | [_, _], _ => rfl⟩, g⟩
  refine F.ok sc_Ltables_of (fun vs H Q E h => ?_) (fun cdv A outer s H vs Q E hr h' => ?_)
  · obtain ⟨F, v, p, lab, ts, rfl, _⟩ := h
    rfl
  · obtain ⟨F, v, p, lab, ts, rfl, hd, few, hm, nd, hq⟩ := h'
    refine ⟨_, PSs.nox (pss_one (ps_ret (pe_ix (ix_list (X := (cxOf CX0 P w K mg base N_Ltables_of "_law_tables_of" (defScope s_Ltables_of) (He.ga K "_law_tables_of") cdv A outer s H E).nox)) (pe_lc (own := [("_law_name", 2), ("_law_some_here", 3)]) (g := gTup K 2 (gCons (gName 2) (gCons (gName 3) gNil))) (tt := tTest (tOp rEq (tVar 2) (tVar 1))) (te := tVar 3) rfl sc_Ltables_of.nd (pi_list (pe_dget (hu_of hr) (pv 0) pe_str (fun _ _ => rfl))) (blkOk_by (N := N_Ltables_of) (sc := defScope s_Ltables_of) (by decide +kernel))
      (fun _ _ _ _ _ => pg_tup rfl (pgs_cons (pg_name (i := 2) sc_Ltables_of.nd rfl (Or.inl rfl)) (pgs_cons (pg_name (i := 3) sc_Ltables_of.nd rfl (Or.inl rfl)) pgs_nil))) (fun _ _ _ _ _ => pts_one (pt_cmpR op_eq (pv 2) (pv 1) (nomark _))) (fun _ _ _ _ _ => pv 3)) pe_int (fun _ _ => rfl)))), ?_⟩
    obtain ⟨a, a1, a2, a3, a4, x1, x2, x3, x4, rfl, L⟩ := lore_inv hd
    have ll : x2.length = p.labs.length := by rw [L.d2.len, List.length_map]
    refine ⟨_, rfl, a, .ref a2, rfl, (get4 L.e).2.1, a2, rfl, ⟨_, SqL.of L.e2⟩, fun D nD => ?_⟩
    have sD := same_new (o := .lst []) nD
    refine lc_list (K := K) (a := a2) (xs := x2) (fun i Hc => Same H Hc ∧ ∃ acc : List V, Hc D = some (.lst acc) ∧ acc.length ≤ i ∧ (∀ u ∈ acc, Dq F H u (.list (ts.map Tab.d))) ∧ ((∃ (j : Nat) (l : Str × List Tab), j < i ∧ p.labs[j]? = some l ∧ l.1 = lab) → acc ≠ [])) ⟨sD, [], upd_same, Nat.le_refl _, fun u hu => (by cases hu), fun ⟨j, _, z, _⟩ => absurd z (Nat.not_lt_zero j)⟩ (fun i Hc _ h => SqL.of (h.1 _ _ L.e2)) ?_ ?_
    · rintro i x Hc hx ⟨sc, acc, eD, la, al, ne⟩
      obtain ⟨l, b, u, hl, rfl, fb, eb, du⟩ := lab_at L.d2 hx
      have ilt : i < x2.length := (List.getElem?_eq_some_iff.mp hx).1
      refine ⟨b, _, rfl, SqT.of (sc _ _ eb), rfl, _, _, rfl, _, _, rfl, rfl, rfl, _, rfl, _, rfl, rfl, _, rfl, ?_⟩
      by_cases c : l.1 = lab
      · rw [c, decide_eq_true rfl]
        refine iteT ?_
        have el : l.2 = ts := by
          have := key_one nd (List.mem_of_getElem? hl) hm c
          rw [this]
        rw [el] at du
        refine ⟨_, rfl, acc, eD, by rw [sizeLine_eq]; omega, ?_, acc ++ [u], upd_same, by rw [List.length_append]; exact Nat.succ_le_succ la, ?_, fun _ z => ?_⟩
        · intro b o z
          rw [upd_ne (ne_of_none z nD)]
          exact sc _ _ z
        · intro v hv
          rcases List.mem_append.mp hv with h | h
          · exact al v h
          · cases List.mem_singleton.mp h
            exact du
        · simp at z
      · rw [decide_eq_false (fun z => c (V.str.inj z))]
        refine iteF ?_
        refine ⟨sc, acc, eD, by omega, al, fun ⟨j, l', hj, h1, h2⟩ => ?_⟩
        rcases Nat.lt_or_eq_of_le (Nat.le_of_lt_succ hj) with q | q
        · exact ne ⟨j, l', q, h1, h2⟩
        · subst q
          rw [hl] at h1
          cases h1
          exact absurd h2 c
    · rintro H3 ⟨s3, acc, eD, la, al, ne⟩
      obtain ⟨j, hj⟩ := List.mem_iff_getElem?.mp hm
      have nn : acc ≠ [] := ne ⟨j, _, by rw [ll]; exact (List.getElem?_eq_some_iff.mp hj).1, hj, rfl⟩
      cases acc with
      | nil => exact absurd rfl nn
      | cons u us =>
        refine ⟨D, _, _, u, rfl, rfl, SqL.of eD, atI_nat (j := 0) rfl, ?_⟩
        exact hq u H3 s3 ((al u (List.mem_cons_self)).move (fun _ f => f) fun b o _ z => s3 _ _ z)
end
end G

set_option Elab.async false
set_option linter.all false
set_option maxRecDepth 100000
set_option maxHeartbeats 4000000
namespace G
open PySem PySem.Spec PyProof.Rows L2 U
open PySem.W (Frag)
theorem Pot.up {H : Hp} {p : Addr} {n m : Nat} (h : Pot H p n) (l : n ≤ m) : Pot H p m := by
  obtain ⟨a, b, c, e, k1, k2, k3, k4, k5⟩ := h
  exact ⟨a, b, c, e, k1, k2, k3, k4, by omega⟩
theorem Pot.in {H : Hp} {p : Addr} {n : Nat} (h : Pot H p n) : ∃ ys, H p = some (.lst ys) := by
  obtain ⟨a, b, c, e, _⟩ := h
  exact ⟨_, e⟩
theorem Pot.sm {H H' : Hp} {p : Addr} {n : Nat} (h : Pot H p n) (s : Same H H') : Pot H' p n := by
  obtain ⟨a, b, c, e, k⟩ := h
  exact ⟨a, b, c, s _ _ e, k⟩
/-- what is not the pot stands elsewhere -/
theorem Pot.tup {H : Hp} {p a : Addr} {n : Nat} {xs : List V} (h : Pot H p n) (e : H a = some (.tup xs)) : a ≠ p := by
  obtain ⟨ys, ey⟩ := h.in
  exact ne_of e ey fun z => by cases z
theorem Pot.new {H : Hp} {p a : Addr} {n : Nat} (h : Pot H p n) (e : H a = none) : a ≠ p := by
  obtain ⟨ys, ey⟩ := h.in
  exact Ne.symm (ne_of_none ey e)
abbrev tkS : Sp := fun vs H Q E => ∃ n, spTake n vs H Q E
abbrev ofS : Sp := fun vs H Q E => ∃ n, spOf n vs H Q E
abbrev tbS : Sp := fun vs H Q E => ∃ n, spTable n vs H Q E
abbrev nmS : Sp := fun vs H Q E => ∃ n, spNames n vs H Q E
/-- a print whose number is at most so much -/
def PrnB (k : Int) : Prn → Prop
  | .num i => -k ≤ i ∧ i ≤ k
  | .word s => s ∈ wPrn
theorem ite_two {c : Bool} {a b : Prop} (ha : a) (hb : b) : if c = true then a else b := by
  cases c
  · exact hb
  · exact ha
section
variable {P : Program} {w : World} {K : Frag} {mg : Str → Option Value} {base : Heap}
theorem has_take (F : Fn K mg "_law_take" s_Ltake) (gI : mg "int" = none) : Has P w K mg base 1 "_law_take" P_Ltake [] tkS := by
  obtain ⟨⟨fd, F⟩, g⟩ := F
  exact ⟨⟨fd, [], anyN fun n => ok_take F gI n, F.kp, .nil, F.bindsN fun _ _ _ _ _ _ us hl => match us, hl with | [_, _], _ => rfl⟩, g⟩
theorem has_of (F : Fn K mg "_law_of" s_Lof) (FT : Fn K mg "_law_take" s_Ltake) (gI : mg "int" = none) (gL : mg "len" = none) : Has P w K mg base 2 "_law_of" P_Lof [] ofS := by
  obtain ⟨⟨fd, F⟩, g⟩ := F
  obtain ⟨⟨fdT, FT⟩, gT⟩ := FT
  exact ⟨⟨fd, [], anyN fun n => ok_of F FT gT gI gL n, F.kp, .nil, F.bindsN fun _ _ _ _ _ _ us hl => match us, hl with | [_, _], _ => rfl⟩, g⟩
theorem has_table (F : Fn K mg "_law_table" s_Ltable) (FT : Fn K mg "_law_take" s_Ltake) (FO : Fn K mg "_law_of" s_Lof) (gI : mg "int" = none) (gL : mg "len" = none) : Has P w K mg base 3 "_law_table" P_Ltable [] tbS := by
  obtain ⟨⟨fd, F⟩, g⟩ := F
  obtain ⟨⟨fdT, FT⟩, gT⟩ := FT
  obtain ⟨⟨fdO, FO⟩, gO⟩ := FO
  exact ⟨⟨fd, [], anyN fun n => ok_table F FT FO gT gO gI gL n, F.kp, .nil, F.bindsN fun _ _ _ _ _ _ us hl => match us, hl with | [_], _ => rfl⟩, g⟩
theorem has_names (F : Fn K mg "_law_names" s_Lnames) (FS : Fn K mg "_law_some" s_Lsome) (FT : Fn K mg "_law_take" s_Ltake) (gI : mg "int" = none) (gL : mg "len" = none) (gLi : mg "list" = none) (gR : mg "range" = none) : Has P w K mg base 3 "_law_names" P_Lnames [] nmS := by
  obtain ⟨⟨fd, F⟩, g⟩ := F
  obtain ⟨⟨fdS, FS⟩, gS⟩ := FS
  obtain ⟨⟨fdT, FT⟩, gT⟩ := FT
  exact ⟨⟨fd, [], anyN fun n => ok_names F (ok_some FS FT gT gI gL gLi gR n) FS gS, F.kp, .nil, F.bindsN fun _ _ _ _ _ _ us hl => match us, hl with | [_, _], _ => rfl⟩, g⟩
/-! ### _law_shown -/
def sp_Lshown : Sp := fun vs H Q _ => ∃ (n : Nat) (p a : Addr) (t : Tab) (x : Int), vs = [.ref p, .ref a, .int x] ∧ Pot H p n ∧ n ≤ 100000 ∧ H a = some (.tup t.vs) ∧ TabSm t ∧ -10000 ≤ x ∧ x ≤ 10000 ∧
  ∀ (pr : Prn) (H' : Hp), PrnB 20000 pr → Pot H' p (n + 1) → Ext p H H' → Q pr.v H'
theorem has_Lshown (F : Fn K mg "_law_shown" s_Lshown) (hT : Has P w K mg base 1 "_law_take" P_Ltake [] tkS) (gI : mg "int" = none) : Has P w K mg base 2 "_law_shown" P_Lshown [] sp_Lshown := by
  obtain ⟨⟨fd, F⟩, g⟩ := F
  refine ⟨⟨fd, [], ?_, F.kp, .nil, F.bindsN fun _ _ _ _ _ _ us hl => match us, hl with | [_, _, _], _ => rfl⟩, g⟩
  refine F.ok sc_Lshown (fun vs H Q E h => ?_) (fun cdv A outer s H vs Q E hr h' => ?_)
  · obtain ⟨n, p, a, t, x, rfl, _⟩ := h
    rfl
  · obtain ⟨n, p, a, t, x, rfl, hp, hn, ha, ht, x0, x1, hq⟩ := h'
    refine ⟨_, PSs.nox (pss_cons (ps_asg (pv 1) (pg_tup rfl (pgs_cons (pg_name (i := 3) sc_Lshown.nd rfl (Or.inl rfl)) (pgs_cons (pg_name (i := 4) sc_Lshown.nd rfl (Or.inl rfl)) (pgs_cons (pg_name (i := 5) sc_Lshown.nd rfl (Or.inl rfl)) (pgs_cons (pg_name (i := 6) sc_Lshown.nd rfl (Or.inl rfl)) (pgs_cons (pg_name (i := 7) sc_Lshown.nd rfl (Or.inl rfl)) pgs_nil)))))))
      (pss_cons (ps_if (pt_cmpR op_eq (pe_has hT hr (pa_cons (pv 0) (pa_cons pe_int pa_nil))) pe_int (nomark _))
        (pss_cons (ps_if (pt_cmpR op_le (pv 2) (pe_add (pe_mul (pv 3) (pv 6)) (pv 4)) (nomark _)) (pss_one (ps_ret pe_str)) pss_nil)
          (pss_one (ps_ret (pe_ifExp (pt_cmpR op_ge (pv 2) (pe_add (pe_mul (pv 3) (pv 7)) (pv 4)) (nomark _)) pe_str pe_str)))) pss_nil)
      (pss_one (ps_ret (pe_op op_fdiv (pe_callTy call_int1 (by rfl) gI PyProof.Rows.boot_int (pa_cons (pe_sub (pv 2) (pv 4)) pa_nil)) (pv 3)))))), ?_⟩
    have tm := tab_mul ht.ok
    refine ⟨_, rfl, a, t.vs, rfl, SqT.of ha, rfl, ?_⟩
    refine ⟨_, _, rfl, _, _, rfl, _, _, rfl, _, _, rfl, _, _, rfl, rfl, ?_⟩
    refine ⟨_, rfl, n, p, 4, rfl, by decide, by decide, hn, hp, fun d H1 d0 d1 p1 e1 => ?_⟩
    refine ⟨rfl, _, rfl, ?_⟩
    obtain ⟨f0, f1, s0, s1, _⟩ := ht
    by_cases c : d = 0
    · rw [c, decide_eq_true rfl]
      refine iteT ?_
      refine ⟨_, rfl, _, rfl, _, rfl, _, _, rfl, rfl, tm, _, rfl, _, _, rfl, rfl, _, _, rfl, rfl, _, rfl, ?_⟩
      have wd : ∀ x : Str, x ∈ wPrn → Q (Prn.word x).v H1 := fun x hx => hq (.word x) H1 hx p1 e1
      refine ite_two ?_ ?_
      · exact wd "low" (by unfold wPrn; simp)
      · refine ⟨_, rfl, _, rfl, _, rfl, _, _, rfl, rfl, tm, _, rfl, _, _, rfl, rfl, _, _, rfl, rfl, _, rfl, ?_⟩
        refine ite_two ?_ ?_
        · exact wd "high" (by unfold wPrn; simp)
        · exact wd "normal" (by unfold wPrn; simp)
    · rw [decide_eq_false (fun z => c (V.int.inj z))]
      refine iteF ?_
      refine ⟨_, rfl, _, rfl, _, _, rfl, rfl, .inl ⟨_, rfl, ?_⟩⟩
      refine ⟨_, rfl, _, _, rfl, rfl, ⟨by omega, by omega⟩, ?_⟩
      refine hq (.num ((x - t.sh) / t.fa)) H1 ?_ p1 e1
      have k0 : (x - t.sh) / t.fa * t.fa ≤ x - t.sh := Int.ediv_mul_le _ (by omega)
      have k1 : x - t.sh < ((x - t.sh) / t.fa + 1) * t.fa := Int.lt_ediv_add_one_mul_self _ (by omega)
      generalize (x - t.sh) / t.fa = y at *
      have f3 : t.fa = 1 ∨ t.fa = 2 ∨ t.fa = 3 := by omega
      show -20000 ≤ y ∧ y ≤ 20000
      rcases f3 with e | e | e <;> rw [e] at k0 k1 <;> constructor <;> omega
/-! ### _law_hidden -/
def sp_Lhidden : Sp := fun vs H Q _ => ∃ (n m : Nat) (p a : Addr) (x : Str × Int × Int), vs = [.ref p, .int m, .ref a] ∧ Pot H p n ∧ 1 ≤ m ∧ m ≤ 100 ∧ n + m ≤ 100000 ∧ H a = some (.tup [.str x.1, .int x.2.1, .int x.2.2]) ∧ 0 ≤ x.2.1 ∧ x.2.1 ≤ 5 ∧ 0 ≤ x.2.2 ∧ x.2.2 ≤ 5 ∧
  ∀ (q : Addr) (ys : List Int) (H' : Hp), H q = none → H' q = some (.lst (ys.map V.int)) → ys.length = m → (∀ y ∈ ys, -10000 ≤ y ∧ y ≤ 10000) → Pot H' p (n + m) → Ext p H H' → Q (.ref q) H'
theorem has_Lhidden (F : Fn K mg "_law_hidden" s_Lhidden) (hT : Has P w K mg base 1 "_law_take" P_Ltake [] tkS) (gR : mg "range" = none) : Has P w K mg base 2 "_law_hidden" P_Lhidden [] sp_Lhidden := by
  obtain ⟨⟨fd, F⟩, g⟩ := F
  refine ⟨⟨fd, [], ?_, F.kp, .nil, F.bindsN fun _ _ _ _ _ _ us hl => match us, hl with | [_, _, _], _ => rfl⟩, g⟩
  refine F.ok sc_Lhidden (fun vs H Q E h => ?_) (fun cdv A outer s H vs Q E hr h' => ?_)
  · obtain ⟨n, m, p, a, x, rfl, _⟩ := h
    rfl
  · obtain ⟨n, m, p, a, x, rfl, hp, m1, m2, hn, ha, u0, u1, d0, d1, hq⟩ := h'
    refine ⟨_, PSs.nox (pss_cons (ps_asg (pv 2) (pg_tup rfl (pgs_cons (pg_name (i := 3) sc_Lhidden.nd rfl (Or.inl rfl)) (pgs_cons (pg_name (i := 4) sc_Lhidden.nd rfl (Or.inl rfl)) (pgs_cons (pg_name (i := 5) sc_Lhidden.nd rfl (Or.inl rfl)) pgs_nil)))))
      (pss_cons (ps_set (i := 6) sc_Lhidden.nd rfl (Or.inl rfl) (pe_lst (pa_cons (pe_has hT hr (pa_cons (pv 0) (pa_cons pe_int pa_nil))) pa_nil)))
      (pss_cons (ps_for PassesOwn.never rfl (pi_range1 (by rfl) gR (pa_cons (pe_op op_sub (pv 1) pe_int) pa_nil)) (pg_name (i := 7) sc_Lhidden.nd rfl (Or.inl rfl))
        (pss_one (ps_expr (pe_bm PySem.F.plainAttrs_list PySem.F.slot_list_append PySem.F.type_list_append mt_append (pv 6) (pa_cons (pe_op op_sub (pe_op op_add (pe_ix ix_list (pv 6) (pe_un un_neg pe_int) (fun _ _ => rfl)) (pe_has hT hr (pa_cons (pv 0) (pa_cons (pe_op op_add (pe_op op_add (pv 4) (pv 5)) pe_int) pa_nil)))) (pv 5)) pa_nil)))))
      (pss_one (ps_ret (pv 6)))))), ?_⟩
    refine ⟨_, rfl, a, _, rfl, SqT.of ha, rfl, _, _, rfl, _, _, rfl, _, _, rfl, rfl, ?_⟩
    refine ⟨_, rfl, n, p, 30, rfl, by decide, by decide, by omega, hp, fun f H1 f0 f1 p1 e1 => ?_⟩
    refine ⟨(show 1 ≤ sizeLine by decide), fun q nq => ?_⟩
    have s1 := same_new (o := .lst [.int f]) nq
    have qp := p1.new nq
    have nH : H q = none := by
      cases z : H q with
      | none => rfl
      | some o => rw [e1 _ _ qp z] at nq; cases nq
    refine ⟨_, rfl, _, _, rfl, rfl, (m : Int) - 1, rfl, by omega, by omega, ?_⟩
    have ei : ((m : Int) - 1).toNat = m - 1 := by omega
    rw [ei]
    refine for_range (lo := 0) (n := m - 1) (fun i σ Hc => ∃ (o7 : Option V) (ys : List Int) (y : Int), σ = [some (.ref p), some (.int m), some (.ref a), some (.str x.1), some (.int x.2.1), some (.int x.2.2), some (.ref q), o7] ∧ Hc q = some (.lst ((ys ++ [y]).map V.int)) ∧ ys.length = i ∧ (∀ z ∈ ys ++ [y], -(30 + 5 * (i : Int)) ≤ z ∧ z ≤ 30 + 5 * (i : Int)) ∧ Pot Hc p (n + 1 + i) ∧ Ext p H Hc)
      ⟨none, [], f, rfl, upd_same, rfl, (fun z hz => by cases List.mem_singleton.mp hz; omega), p1.sm s1, e1.trans (.of s1)⟩ ?_ ?_
    · rintro i σ Hc hi ⟨o7, ys, y, rfl, eq, hl, bd, hpc, xc⟩
      have eq' : Hc q = some (.lst (ys.map V.int ++ [V.int y])) := by rw [eq, List.map_append]; rfl
      have by_ := bd y (by simp)
      refine ⟨_, rfl, .inl ⟨rfl, _, SqL.of eq⟩, _, rfl, 1, rfl, q, _, -1, .int y, rfl, rfl, SqL.of eq', atI_last _ _, _, rfl, _, rfl, _, rfl, _, _, rfl, rfl, _, _, rfl, rfl, n + 1 + i, p, _, rfl, by omega, by omega, by omega, hpc, fun d H2 c0 c1 p2 x2 => ?_⟩
      refine ⟨_, _, rfl, rfl, _, rfl, _, _, rfl, rfl, ?_⟩
      refine ⟨q, _, _, rfl, rfl, x2 _ _ qp eq, by rw [sizeLine_eq, List.length_map, List.length_append, hl]; show i + 1 < _; omega, ?_⟩
      refine ⟨_, ys ++ [y], y + d - x.2.2, rfl, ?_, by rw [List.length_append, hl]; rfl, ?_, ?_, ?_⟩
      · rw [upd_same, List.map_append (l₁ := ys ++ [y])]
        rfl
      · intro z hz
        rcases List.mem_append.mp hz with h | h
        · have := bd z h
          omega
        · cases List.mem_singleton.mp h
          omega
      · obtain ⟨o1, m1, c1', e1', k1⟩ := p2
        exact ⟨o1, m1, c1', by rw [upd_ne (Ne.symm qp)]; exact e1', k1⟩
      · intro b o hb z
        by_cases bq : b = q
        · rw [bq, nH] at z
          cases z
        · rw [upd_ne bq]
          exact x2 _ _ hb (xc _ _ hb z)
    · rintro σ Hc ⟨o7, ys, y, rfl, eq, hl, bd, hpc, xc⟩
      refine ⟨_, rfl, hq q (ys ++ [y]) Hc nH eq (by rw [List.length_append, hl]; show m - 1 + 1 = m; omega) (fun z hz => ?_) (hpc.up (by omega)) xc⟩
      have := bd z hz
      omega
end
end G

set_option Elab.async false
set_option linter.all false
set_option maxRecDepth 100000
set_option maxHeartbeats 4000000
namespace G
open PySem PySem.Spec PyProof.Rows L2 U
open PySem.W (Frag)
/-! ### _law_a_claim -/
inductive Clm where
  | bnd (most : Bool) (x : Str) (d n : Int)
  | rose (x : Str) (d e n : Int)
  | lit (from_ : Bool) (x : Str) (d k : Int)
def Clm.vs : Clm → List V
  | .bnd m x d n => [.str (if m then "most" else "least"), .str x, .int d, .int n]
  | .rose x d e n => [.str "rose", .str x, .int d, .int e, .int n]
  | .lit f x d k => [.str (if f then "from" else "before"), .str x, .int d, .int k]
def Clm.d : Clm → PyData
  | .bnd m x d n => .tuple [.str (if m then "most" else "least"), .str x, .int d, .int n]
  | .rose x d e n => .tuple [.str "rose", .str x, .int d, .int e, .int n]
  | .lit f x d k => .tuple [.str (if f then "from" else "before"), .str x, .int d, .int k]
def Clm.ok (p : Parts) (m : Int) : Clm → Prop
  | .bnd _ x d n => x ∈ p.people.map (·.1) ∧ 0 ≤ d ∧ d < m ∧ -1000 ≤ n ∧ n ≤ 1000
  | .rose x d e n => x ∈ p.people.map (·.1) ∧ 0 ≤ d ∧ d < m ∧ 0 ≤ e ∧ e < m ∧ d ≠ e ∧ -1000 ≤ n ∧ n ≤ 1000
  | .lit _ x d k => ∃ ts : List Tab, (x, ts) ∈ p.labs ∧ 0 ≤ d ∧ d < m ∧ 1 ≤ k ∧ k < ts.length
theorem Clm.dq {F : Addr → Prop} {H : Hp} {q : Addr} {c : Clm} (f : F q) (e : H q = some (.tup c.vs)) : Dq F H (.ref q) c.d := by
  cases c with
  | bnd m x d n => exact .tup f e (.cons (.str _) (.cons (.str _) (.cons (.int _) (.cons (.int _) .nil))))
  | rose x d e' n => exact .tup f e (.cons (.str _) (.cons (.str _) (.cons (.int _) (.cons (.int _) (.cons (.int _) .nil)))))
  | lit g x d k => exact .tup f e (.cons (.str _) (.cons (.str _) (.cons (.int _) (.cons (.int _) .nil))))
/-- what a lore must be for draws -/
structure LoreD (p : Parts) : Prop where
  pe : p.people ≠ []
  pl : p.people.length ≤ 3
  lb : p.labs ≠ []
  ll : p.labs.length ≤ 6
  nd : (p.labs.map (·.1)).Nodup
  so : ∀ l ∈ p.labs, PyData.strOk l.1 = true
  t4 : ∀ l ∈ p.labs, l.2.length ≤ 4
theorem sh_strs : ∀ {ns : List Str}, (∀ n ∈ ns, PyData.strOk n = true) → SeqAt.shaped (.list (ns.map PyData.str)) = true := by
  intro ns h
  have h1 : PyData.canLayAll0 (ns.map PyData.str) = true := by
    induction ns with
    | nil => rfl
    | cons n ns ih =>
      rw [List.map_cons, PyData.canLayAll0, PyData.canLay0, h n List.mem_cons_self, ih fun x hx => h x (List.mem_cons_of_mem _ hx)]
      rfl
  have h2 : PyData.depthAll (ns.map PyData.str) ≤ 1 := by
    clear h h1
    induction ns with
    | nil => show PyData.depthAll [] ≤ 1; rw [PyData.depthAll]; omega
    | cons n ns ih =>
      rw [List.map_cons, PyData.depthAll]
      have : PyData.depth (.str n) ≤ 1 := by rw [PyData.depth]; omega
      omega
  unfold SeqAt.shaped
  rw [PyData.canLay0, h1, PyData.depth, Bool.true_and, decide_eq_true_eq]
  omega
theorem dp_strs {K : Frag} {H : Hp} {a : Addr} {ns : List Str} (h : SqL K H a (ns.map V.str)) : Dp K H (.ref a) (.list (ns.map PyData.str)) := by
  refine .lst h ?_
  clear h
  induction ns with
  | nil => exact .nil
  | cons n ns ih => exact .cons (.str _) ih
theorem hr64 {k : Nat} {B : Around} (h : Room k B) : B.units + 64 < cLine := by
  have := h.un
  omega
theorem in_fb {x : Str} (h : inV (.str x) [.str "from", .str "before"] = true) : x = "from" ∨ x = "before" := by
  unfold inV at h
  simp [L2.eqV] at h
  rcases h with h | h
  · exact .inl h.symm
  · exact .inr h.symm
section
variable {P : Program} {w : World} {K : Frag} {mg : Str → Option Value} {base : Heap}
def sp_La_claim : Sp := fun vs H Q _ => ∃ (n m : Nat) (p : Addr) (F : Addr → Prop) (v : V) (pa : Parts), vs = [.ref p, v, .int m] ∧ Pot H p n ∧ n + 6 ≤ 100000 ∧ 2 ≤ m ∧ m ≤ 100 ∧ (∀ a, F a → a ≠ p) ∧ Dq F H v (loreD pa) ∧ LoreD pa ∧
  ∀ (q : Addr) (c : Clm) (H' : Hp), H q = none → H' q = some (.tup c.vs) → c.ok pa m → Pot H' p (n + 6) → Ext p H H' → Q (.ref q) H'
def tS3 (K : Frag) : TS := tAsg (tCall ofS [] E0 (tCons (tVar 0) (tCons (tCall (sp_Lcalled K) [] E0 (tCons (tDGet (tVar 1) (tC (.str "people"))) tNil)) tNil))) (gName 8)
def tS4 : TS := tIfS (tTest (tOp rEq (tVar 3) (tC (.str "rose")))) (tRet (tTup (tCons (tVar 3) (tCons (tVar 8) (tCons (tVar 4) (tCons (tOp (rI (fun x j => 0 < j) fun i j => V.int (i % j)) (tCB (fun xs H Q => (∃ i, xs = [V.int i] ∧ Q (V.int i) H) ∨ ∃ k, xs = [V.bl k] ∧ Q (V.int (if k = true then 1 else 0)) H)
  (tCons (tOp (rI0 fun i j => V.int (i + j)) (tOp (rI0 fun i j => V.int (i + j)) (tVar 4) (tC (V.int 1))) (tCall tkS [] E0 (tCons (tVar 0) (tCons (tOp (rI0 fun i j => V.int (i - j)) (tVar 2) (tC (V.int 1))) tNil)))) tNil)) (tVar 2))
  (tCons (tOp (rI0 fun i j => V.int (i - j)) (tCall tkS [] E0 (tCons (tVar 0) (tCons (tC (V.int 15)) tNil))) (tC (V.int 9))) tNil))))))) tNext
def tS5 : TS := tRet (tTup (tCons (tIf (tTest (tOp rEq (tVar 3) (tC (.str "most")))) (tC (.str "most")) (tC (.str "least"))) (tCons (tVar 8) (tCons (tVar 4) (tCons (tOp (rI0 fun i j => V.int (i - j)) (tCall tkS [] E0 (tCons (tVar 0) (tCons (tC (V.int 50)) tNil))) (tC (V.int 5))) tNil)))))
theorem a_rest {p a D : Addr} {n m : Nat} {wd : Str} {d : Int} {H H5 : Hp} {F : Addr → Prop} {pa : Parts} {Q : VK} (hp : Pot H5 p (n + 2)) (hn : n + 6 ≤ 100000) (m2 : 2 ≤ m) (m1 : m ≤ 100) (hF : ∀ a, F a → a ≠ p) (hd : Dq F H5 (.ref a) (loreD pa)) (lo : LoreD pa) (d0 : 0 ≤ d) (d1 : d < m) (X : Ext p H H5)
    (hq : ∀ (q : Addr) (c : Clm) (H' : Hp), H q = none → H' q = some (.tup c.vs) → c.ok pa m → Pot H' p (n + 6) → Ext p H H' → Q (.ref q) H') :
    tSeq (tS3 K) (tSeq tS4 tS5) { nx := fun _ H' => Q .non H', rt := Q } [some (.ref p), some (.ref a), some (.int m), some (.str wd), some (.int d), some (.ref D), none, none, none] H5 := by
  obtain ⟨a', a1, a2, a3, a4, y1, y2, y3, y4, ea, L⟩ := lore_inv hd
  cases ea
  have pl := lo.pl
  have ll : y1.length = pa.people.length := by rw [L.d1.len, List.length_map]
  have lp : 0 < pa.people.length := List.length_pos_iff.mpr lo.pe
  refine ⟨_, rfl, _, rfl, a, .ref a1, rfl, (get4 L.e).1, a1, y1, pa.people.map (·.1), rfl, SqL.of L.e1, by omega, by rw [List.length_map, ll], fun i x hx => ?_, fun r H6 nr s6 er => ?_⟩
  · obtain ⟨pe, b, h1, rfl, fb, eb⟩ := per_at L.d1 hx
    exact ⟨b, pe.1, _, by rw [List.getElem?_map, h1]; rfl, rfl, eb⟩
  have p6 := hp.sm s6
  refine ⟨n + 2, p, r, _, rfl, p6, by omega, er, hp.new nr, by rw [List.length_map, List.length_map]; exact lp, by rw [List.length_map, List.length_map]; omega, fun i pv H7 hi p7 x7 => ?_⟩
  rw [List.getElem?_map, Option.map_eq_some_iff] at hi
  obtain ⟨per, hi, rfl⟩ := hi
  have hper : per ∈ pa.people.map (·.1) := List.mem_of_getElem? hi
  have X7 : Ext p H H7 := X.trans ((Ext.of s6).trans x7)
  have fresh : ∀ {H8 : Hp} {q : Addr}, Ext p H H8 → Pot H8 p (n + 6) → H8 q = none → H q = none := fun {H8 q} e pp nq => by
    cases z : H q with
    | none => rfl
    | some o =>
      rw [e _ _ (pp.new nq) z] at nq
      cases nq
  refine ⟨_, rfl, rfl, _, rfl, ?_⟩
  by_cases c : wd = "rose"
  · rw [c, decide_eq_true rfl]
    refine iteT ?_
    refine ⟨_, rfl, _, rfl, _, rfl, _, rfl, _, _, rfl, rfl, _, rfl, _, rfl, _, _, rfl, rfl, n + 3, p, (m : Int) - 1, rfl, by omega, by omega, by omega, p7, fun g H8 g0 g1 p8 x8 => ?_⟩
    refine ⟨_, _, rfl, rfl, .inl ⟨_, rfl, _, rfl, _, _, rfl, rfl, by omega, ?_⟩⟩
    refine ⟨_, rfl, n + 4, p, 15, rfl, by decide, by decide, by omega, p8, fun h H9 h0 h1 p9 x9 => ?_⟩
    refine ⟨_, _, rfl, rfl, (show 5 ≤ sizeLine by decide), fun q nq => ?_⟩
    have sq := same_new (o := .tup [.str "rose", .str per, .int d, .int ((d + 1 + g) % (m : Int)), .int (h - 9)]) nq
    have X9 : Ext p H H9 := X7.trans (x8.trans x9)
    have k0 := Int.emod_nonneg (d + 1 + g) (show (m : Int) ≠ 0 by omega)
    have k1 := Int.emod_lt_of_pos (d + 1 + g) (show (0 : Int) < m by omega)
    have k2 : (d + 1 + g) % (m : Int) ≠ d := by
      intro z
      by_cases c1 : d + 1 + g < m
      · rw [Int.emod_eq_of_lt (by omega) c1] at z
        omega
      · have z2 : (d + 1 + g) % (m : Int) = (d + 1 + g - m) % (m : Int) := by rw [Int.sub_emod_right]
        rw [z2, Int.emod_eq_of_lt (by omega) (by omega)] at z
        omega
    exact hq q (.rose per d ((d + 1 + g) % (m : Int)) (h - 9)) _ (fresh X9 (p9.up (by omega)) nq) upd_same ⟨hper, d0, d1, k0, k1, Ne.symm k2, by omega, by omega⟩ ((p9.up (by omega)).sm sq) (X9.trans (.of sq))
  · rw [decide_eq_false (fun z => c (V.str.inj z))]
    refine iteF ?_
    refine ⟨_, rfl, rfl, _, rfl, ?_⟩
    have fin : ∀ b : Bool, tCons (tVar 8) (tCons (tVar 4) (tCons (tOp (rI0 fun i j => V.int (i - j)) (tCall tkS [] E0 (tCons (tVar 0) (tCons (tC (V.int 50)) tNil))) (tC (V.int 5))) tNil)) [some (.ref p), some (.ref a), some (.int m), some (.str wd), some (.int d), some (.ref D), none, none, some (.str per)] H7 (fun vs H8 => (V.str (if b then "most" else "least") :: vs).length ≤ sizeLine ∧ ∀ q, H8 q = none → Q (.ref q) (upd H8 q (.tup (V.str (if b then "most" else "least") :: vs)))) := fun b => by
      refine ⟨_, rfl, _, rfl, _, rfl, n + 3, p, 50, rfl, by decide, by decide, by omega, p7, fun h H9 h0 h1 p9 x9 => ?_⟩
      refine ⟨_, _, rfl, rfl, (show 4 ≤ sizeLine by decide), fun q nq => ?_⟩
      have sq := same_new (o := .tup [.str (if b then "most" else "least"), .str per, .int d, .int (h - 5)]) nq
      have X9 : Ext p H H9 := X7.trans x9
      exact hq q (.bnd b per d (h - 5)) _ (fresh X9 (p9.up (by omega)) nq) upd_same ⟨hper, d0, d1, by omega, by omega⟩ ((p9.up (by omega)).sm sq) (X9.trans (.of sq))
    cases hc : decide (V.str wd = V.str (Str.ofString "most")) with
    | true => exact fin true
    | false => exact fin false
abbrev cxA (P : Program) (w : World) (K : Frag) (mg : Str → Option Value) (base : Heap) (cdv : Value) (A : Around) (outer : List Env) (s : Shared) (HX : Hp) (E : XK) : Cx := (cxOf CX0 P w K mg base N_La_claim "_law_a_claim" (defScope s_La_claim) (He.ga K "_law_a_claim") cdv A outer s HX E).nox
theorem has_La_claim (F : Fn K mg "_law_a_claim" s_La_claim) (hT : Has P w K mg base 1 "_law_take" P_Ltake [] tkS) (hO : Has P w K mg base 2 "_law_of" P_Lof [] ofS) (hC : Has P w K mg base 1 "_law_called" P_Lcalled [] (sp_Lcalled K)) (hTa : Has P w K mg base 1 "_law_tables_of" P_Ltables_of [] sp_Ltabs) (gI : mg "int" = none) (gL : mg "len" = none) : Has P w K mg base 3 "_law_a_claim" P_La_claim [] sp_La_claim := by
  obtain ⟨⟨fd, F⟩, g⟩ := F
  refine ⟨⟨fd, [], ?_, F.kp, .nil, F.bindsN fun _ _ _ _ _ _ us hl => match us, hl with | [_, _, _], _ => rfl⟩, g⟩
  refine F.ok sc_La_claim (fun vs H Q E h => ?_) (fun cdv A outer s H vs Q E hr h' => ?_)
  · obtain ⟨n, m, p, F, v, pa, rfl, _⟩ := h
    rfl
  · obtain ⟨n, m, p, F, v, pa, rfl, hp, hn, m2, m1, hF, hd, lo, hq⟩ := h'
    have hr1 := hr.mono (show 1 ≤ 2 by omega)
    have e0 : PS (cxA P w K mg base cdv A outer s H E) ((defBody s_La_claim).getD 0 (.Pass ⟨0, 0, 0, 0⟩)) _ := ps_par (i := 3) (j := 4) (by rfl) sc_La_claim.nd rfl rfl (by decide) rfl rfl (pa_cons (pe_has hO hr (pa_cons (pv 0) (pa_cons (pe_lst (pa_cons pe_str (pa_cons pe_str (pa_cons pe_str (pa_cons pe_str (pa_cons pe_str (pa_cons pe_str pa_nil))))))) pa_nil))) (pa_cons (pe_has hT hr1 (pa_cons (pv 0) (pa_cons (pv 2) pa_nil))) pa_nil)) (by rfl)
    have e1 : PS (cxA P w K mg base cdv A outer s H E) ((defBody s_La_claim).getD 1 (.Pass ⟨0, 0, 0, 0⟩)) _ := ps_setLc (i := 5) (own := [("_law_lab", 6), ("_law_some_here", 7)]) (g := gTup K 2 (gCons (gName 6) (gCons (gName 7) gNil))) (tt := tTest (tOp (rI0 fun i j => .bl (decide (j < i))) (tCB (fun xs H Q => ∃ p ys, xs = [.ref p] ∧ (SqL K H p ys ∨ SqT K H p ys) ∧ Q (.int ys.length) H) (tCons (tVar 7) tNil)) (tC (.int 1)))) (te := tVar 6) rfl sc_La_claim.nd rfl rfl rfl (pi_list (pe_dget (hu_of hr) (pv 1) pe_str (fun _ _ => rfl))) (blkOk_by (N := N_La_claim) (sc := defScope s_La_claim) (by decide +kernel))
      (fun _ _ _ _ _ => pg_tup rfl (pgs_cons (pg_name (i := 6) sc_La_claim.nd rfl (Or.inl rfl)) (pgs_cons (pg_name (i := 7) sc_La_claim.nd rfl (Or.inl rfl)) pgs_nil))) (fun _ _ _ _ _ => pts_one (pt_cmpR op_gt (pe_callB call_len_seq (by rfl) gL PySem.boot_len (pa_cons (pv 7) pa_nil)) pe_int (nomark _))) (fun _ _ _ _ _ => pv 6)
    have e2 : PS (cxA P w K mg base cdv A outer s H E) ((defBody s_La_claim).getD 2 (.Pass ⟨0, 0, 0, 0⟩)) _ := ps_if (PW.pt (pw_and (pt_cmpR (op_in_seq (X := cxA P w K mg base cdv A outer s H E)) (pv 3) (pe_tup (pa_cons pe_str (pa_cons pe_str pa_nil))) (by rfl)) (pw_and1 (pt_cmpR (op_neD (X := cxA P w K mg base cdv A outer s H E) (hr64 hr)) (pv 5) (pe_lst pa_nil) (nomark _)))))
      (pss_cons (ps_set (i := 6) sc_La_claim.nd rfl (Or.inl rfl) (pe_has hO hr (pa_cons (pv 0) (pa_cons (pv 5) pa_nil))))
        (pss_one (ps_ret (pe_tup (pa_cons (pv 3) (pa_cons (pv 6) (pa_cons (pv 4) (pa_cons (pe_op op_add pe_int (pe_has hT hr1 (pa_cons (pv 0) (pa_cons (pe_op op_sub (pe_callB (call_len_seq (X := cxA P w K mg base cdv A outer s H E)) (by rfl) gL PySem.boot_len (pa_cons (pe_has hTa hr1 (pa_cons (pv 1) (pa_cons (pv 6) pa_nil))) pa_nil)) pe_int) pa_nil)))) pa_nil)))))))) pss_nil
    have e3 : PS (cxA P w K mg base cdv A outer s H E) ((defBody s_La_claim).getD 3 (.Pass ⟨0, 0, 0, 0⟩)) _ := ps_set (i := 8) sc_La_claim.nd rfl (Or.inl rfl) (pe_has hO hr (pa_cons (pv 0) (pa_cons (pe_has hC hr1 (pa_cons (pe_dget (hu_of hr) (pv 1) pe_str (fun _ _ => rfl)) pa_nil)) pa_nil)))
    have e4 : PS (cxA P w K mg base cdv A outer s H E) ((defBody s_La_claim).getD 4 (.Pass ⟨0, 0, 0, 0⟩)) _ := ps_if (pt_cmpR op_eq (pv 3) pe_str (nomark _)) (pss_one (ps_ret (pe_tup (pa_cons (pv 3) (pa_cons (pv 8) (pa_cons (pv 4) (pa_cons (pe_op op_mod (pe_callTy call_int1 (by rfl) gI PyProof.Rows.boot_int (pa_cons (pe_op op_add (pe_op op_add (pv 4) pe_int) (pe_has hT hr1 (pa_cons (pv 0) (pa_cons (pe_op op_sub (pv 2) pe_int) pa_nil)))) pa_nil)) (pv 2)) (pa_cons (pe_op op_sub (pe_has hT hr1 (pa_cons (pv 0) (pa_cons pe_int pa_nil))) pe_int) pa_nil)))))))) pss_nil
    have e5 : PS (cxA P w K mg base cdv A outer s H E) ((defBody s_La_claim).getD 5 (.Pass ⟨0, 0, 0, 0⟩)) _ := ps_ret (pe_tup (pa_cons (pe_ifExp (pt_cmpR op_eq (pv 3) pe_str (nomark _)) pe_str pe_str) (pa_cons (pv 8) (pa_cons (pv 4) (pa_cons (pe_op op_sub (pe_has hT hr1 (pa_cons (pv 0) (pa_cons pe_int pa_nil))) pe_int) pa_nil)))))
    refine ⟨_, PSs.nox (pss_cons e0 (pss_cons e1 (pss_cons e2 (pss_cons e3 (pss_cons e4 (pss_one e5)))))), ?_⟩
    clear e0 e1 e2 e3 e4 e5
    refine ⟨_, rfl, (show 6 ≤ sizeLine by decide), fun l nl => ?_⟩
    have s0 := same_new (o := .lst [.str "least", .str "most", .str "rose", .str "from", .str "before", .str "from"]) nl
    refine ⟨n, p, l, _, rfl, hp.sm s0, by omega, upd_same, hp.new nl, (show 0 < 6 by decide), (show 6 < 1000000 by decide), fun i wv H1 hw p1 x1 => ?_⟩
    obtain ⟨wd, rfl⟩ : ∃ x : Str, wv = .str x := by
      match i, hw with
      | 0, hw => exact ⟨_, (Option.some.inj hw).symm⟩
      | 1, hw => exact ⟨_, (Option.some.inj hw).symm⟩
      | 2, hw => exact ⟨_, (Option.some.inj hw).symm⟩
      | 3, hw => exact ⟨_, (Option.some.inj hw).symm⟩
      | 4, hw => exact ⟨_, (Option.some.inj hw).symm⟩
      | 5, hw => exact ⟨_, (Option.some.inj hw).symm⟩
    refine ⟨_, rfl, _, rfl, n + 1, p, m, rfl, by omega, by omega, by omega, p1, fun d H2 d0 d1 p2 x2 => ?_⟩
    refine ⟨_, _, rfl, ?_⟩
    have X2 : Ext p H H2 := (Ext.of s0).trans (x1.trans x2)
    have hd2 : Dq F H2 v (loreD pa) := hd.move (fun _ f => f) fun b o f z => X2 _ _ (hF b f) z
    obtain ⟨a, a1, a2, a3, a4, y1, y2, y3, y4, rfl, L⟩ := lore_inv hd2
    have ll : y2.length = pa.labs.length := by rw [L.d2.len, List.length_map]
    have l6 := lo.ll
    refine ⟨_, rfl, a, .ref a2, rfl, (get4 L.e).2.1, a2, rfl, ⟨_, SqL.of L.e2⟩, fun D nD => ?_⟩
    have sD := same_new (o := .lst []) nD
    refine lc_list (K := K) (a := a2) (xs := y2) (fun i Hc => Same H2 Hc ∧ ∃ ns : List Str, Hc D = some (.lst (ns.map V.str)) ∧ ns.length ≤ i ∧ ∀ x ∈ ns, ∃ ts : List Tab, (x, ts) ∈ pa.labs ∧ 1 < ts.length) ⟨sD, [], upd_same, Nat.le_refl _, fun x hx => by cases hx⟩ (fun i Hc _ h => SqL.of (h.1 _ _ L.e2)) ?_ ?_
    · rintro i x Hc hx ⟨sc, ns, eD, la, al⟩
      obtain ⟨lb, b, u, hl, rfl, fb, eb, du⟩ := lab_at L.d2 hx
      have ilt : i < y2.length := (List.getElem?_eq_some_iff.mp hx).1
      cases du with
      | @lst b2 zs _ fb2 eb2 alz =>
      have lz : zs.length = lb.2.length := by rw [alz.len, List.length_map]
      refine ⟨b, _, rfl, SqT.of (sc _ _ eb), rfl, _, _, rfl, _, _, rfl, rfl, rfl, _, rfl, b2, zs, rfl, .inl (SqL.of (sc _ _ eb2)), _, _, rfl, rfl, _, rfl, ?_⟩
      by_cases c : (1 : Int) < zs.length
      · rw [decide_eq_true c]
        refine iteT ?_
        refine ⟨_, rfl, _, eD, by rw [sizeLine_eq, List.length_map]; omega, ?_, ns ++ [lb.1], ?_, by rw [List.length_append]; exact Nat.succ_le_succ la, ?_⟩
        · intro b o z
          rw [upd_ne (ne_of_none z nD)]
          exact sc _ _ z
        · rw [upd_same, List.map_append]
          rfl
        · intro x hx
          rcases List.mem_append.mp hx with h | h
          · exact al x h
          · cases List.mem_singleton.mp h
            exact ⟨lb.2, List.mem_of_getElem? hl, by omega⟩
      · rw [decide_eq_false c]
        exact iteF ⟨sc, ns, eD, by omega, al⟩
    rintro H3 ⟨s3, ns, eD, la, al⟩
    have p3 := p2.sm s3
    have Dp_ := p2.new nD
    refine ⟨_, rfl, (show 2 ≤ sizeLine by decide), fun t nt => ?_⟩
    have s4 := same_new (o := .tup [.str "from", .str "before"]) nt
    refine ⟨t, _, rfl, .inr (SqT.of upd_same), rfl, rfl, _, rfl, ?_⟩
    have hd3 : Dq F H3 (.ref a) (loreD pa) := L.mk'.move (fun _ f => f) fun b o f z => s3 _ _ z
    have hd4 : Dq F (upd H3 t (.tup [.str "from", .str "before"])) (.ref a) (loreD pa) := hd3.move (fun _ f => f) fun b o f z => s4 _ _ z
    have X4 : Ext p H (upd H3 t (.tup [.str "from", .str "before"])) := X2.trans ((Ext.of s3).trans (.of s4))
    have p4 := p3.sm s4
    cases hc : inV (V.str wd) [V.str (Str.ofString "from"), V.str (Str.ofString "before")] with
    | false => exact a_rest p4 hn m2 m1 hF hd4 lo d0 d1 X4 hq
    | true =>
      have fb := in_fb hc
      have eD4 : upd H3 t (.tup [.str "from", .str "before"]) D = some (.lst (ns.map V.str)) := s4 _ _ eD
      refine ⟨_, rfl, (show 0 ≤ sizeLine by decide), fun e ne => ?_⟩
      have s5 := same_new (o := .lst []) ne
      have eD5 := s5 _ _ eD4
      have so : ∀ x ∈ ns, PyData.strOk x = true := fun x hx => by
        obtain ⟨ts, h1, _⟩ := al x hx
        exact lo.so _ h1
      refine ⟨_, _, dp_strs (SqL.of eD5), dp_strs (ns := []) (SqL.of upd_same), sh_strs so, by decide +kernel, _, rfl, ?_⟩
      cases ns with
      | nil => exact a_rest (p4.sm s5) hn m2 m1 hF (hd4.move (fun _ f => f) fun b o f z => s5 _ _ z) lo d0 d1 (X4.trans (.of s5)) hq
      | cons n0 ns' =>
        show if true = true then _ else _
        refine iteT ?_
        have p5 := p4.sm s5
        refine ⟨_, rfl, _, rfl, n + 2, p, D, _, rfl, p5, by omega, eD5, Dp_, by simp, by rw [List.length_map]; omega, fun i lv H6 hi p6 x6 => ?_⟩
        rw [List.getElem?_map, Option.map_eq_some_iff] at hi
        obtain ⟨lab, hi, rfl⟩ := hi
        obtain ⟨ts, hm, h1t⟩ := al lab (List.mem_of_getElem? hi)
        have X6 : Ext p H H6 := X4.trans ((Ext.of s5).trans x6)
        have hd6 : Dq F H6 (.ref a) (loreD pa) := hd4.move (fun _ f => f) fun b o f z => x6 _ _ (hF b f) (s5 _ _ z)
        refine ⟨_, rfl, _, rfl, _, rfl, _, rfl, _, rfl, _, rfl, F, _, pa, lab, ts, rfl, hd6, by omega, hm, lo.nd, fun u H7 s7 du => ?_⟩
        have t4 := lo.t4 _ hm
        cases du with
        | @lst b2 zs _ fb2 eb2 alz =>
        have lz : zs.length = ts.length := by rw [alz.len, List.length_map]
        refine ⟨b2, zs, rfl, .inl (SqL.of eb2), _, _, rfl, rfl, n + 3, p, (zs.length : Int) - 1, rfl, by omega, by show (zs.length : Int) - 1 < 1000000; have : ts.length ≤ 4 := t4; omega, by omega, p6.sm s7, fun g H8 g0 g1 p8 x8 => ?_⟩
        refine ⟨_, _, rfl, rfl, (show 4 ≤ sizeLine by decide), fun q nq => ?_⟩
        have X8 : Ext p H H8 := X6.trans ((Ext.of s7).trans x8)
        have nH : H q = none := by
          cases z : H q with
          | none => rfl
          | some o =>
            rw [X8 _ _ (p8.new nq) z] at nq
            cases nq
        have sq := same_new (o := .tup [.str wd, .str lab, .int d, .int (1 + g)]) nq
        have ok : ∀ f, (Clm.lit f lab d (1 + g)).ok pa m := fun f => ⟨ts, hm, d0, d1, by omega, by omega⟩
        rcases fb with rfl | rfl
        · exact hq q (.lit true lab d (1 + g)) _ nH upd_same (ok _) ((p8.up (by omega)).sm sq) (X8.trans (.of sq))
        · exact hq q (.lit false lab d (1 + g)) _ nH upd_same (ok _) ((p8.up (by omega)).sm sq) (X8.trans (.of sq))
end
end G

set_option Elab.async false
set_option linter.all false
set_option maxRecDepth 100000
set_option maxHeartbeats 4000000
namespace G
open PySem PySem.Spec PyProof.Rows L2 U
open PySem.W (Frag)
theorem valV_at {κ : Type} [DecidableEq κ] : ∀ {kvs : List (κ × V)} {i : Nat} {k : κ} {v : V}, (kvs.map (·.1)).Nodup → kvs[i]? = some (k, v) → valV kvs k = some v
  | x :: xs, 0, k, v, _, h => by
    cases h
    exact valV_pos rfl
  | x :: xs, i + 1, k, v, nd, h => by
    rw [List.map_cons, List.nodup_cons] at nd
    have h' : xs[i]? = some (k, v) := h
    rw [valV_neg (fun e => nd.1 (by rw [e]; exact List.mem_map.mpr ⟨_, List.mem_of_getElem? h', rfl⟩))]
    exact valV_at nd.2 h'
theorem paired_map {α β γ : Type} {R : α → β → Prop} {g : γ → β} : ∀ {ts : List α} {xs : List γ}, Paired R ts (xs.map g) → Paired (fun t x => R t (g x)) ts xs
  | _, [], .nil => .nil
  | _, _ :: _, .cons h t => .cons h (paired_map t)
theorem paired_imp {α β : Type} {R S : α → β → Prop} (f : ∀ a b, R a b → S a b) : ∀ {ts : List α} {xs : List β}, Paired R ts xs → Paired S ts xs
  | _, _, .nil => .nil
  | _, _, .cons h t => .cons (f _ _ h) (paired_imp f t)
/-- the entries of dict(enumerate(xs)) -/
def kvN (xs : List V) : List (Key × V) := ((List.range xs.length).map fun i : Nat => (Sum.inl (i : Int) : Key)).zip xs
theorem kvN_numbered (xs : List V) : U.numbered xs = (kvN xs).map fun kv => (kV kv.1, kv.2) := by
  unfold U.numbered kvN
  rw [List.zip_map_left, List.zip_map_left, List.map_map]
  rfl
theorem kvN_keys (xs : List V) : (kvN xs).map (·.1) = (List.range xs.length).map fun i : Nat => (Sum.inl (i : Int) : Key) := by
  unfold kvN
  exact List.map_fst_zip (by rw [List.length_map, List.length_range]; omega)
theorem kvN_nodup (xs : List V) : ((kvN xs).map (·.1)).Nodup := by
  rw [kvN_keys]
  refine List.Pairwise.map _ (fun a b h z => h ?_) (List.nodup_range (n := xs.length))
  have := Sum.inl.inj z
  omega
theorem kvN_val {xs : List V} {i : Nat} {v : V} (h : xs[i]? = some v) : valV (kvN xs) (Sum.inl (i : Int)) = some v := by
  refine valV_at (i := i) (kvN_nodup xs) ?_
  unfold kvN
  rw [List.getElem?_zip_eq_some]
  refine ⟨?_, h⟩
  rw [List.getElem?_map, List.getElem?_range (List.getElem?_eq_some_iff.mp h).1]
  rfl
theorem iteT' {c : Bool} {a b : Prop} (h : c = true) (ha : a) : if c = true then a else b := by rw [if_pos h]; exact ha
theorem iteF' {c : Bool} {a b : Prop} (h : c = false) (hb : b) : if c = true then a else b := by rw [h, if_neg (fun z => by cases z)]; exact hb
section
variable {P : Program} {w : World} {K : Frag} {mg : Str → Option Value} {base : Heap}
/-! ### _law_is_worth_so -/
def isWorth : Clm → Bool
  | .lit _ _ _ _ => false
  | _ => true
def sp_Lworth (K : Frag) : Sp := fun vs H Q _ => ∃ (a b : Addr) (m : Int) (kvs : List (Key × V)) (c : Clm) (pa : Parts), vs = [.ref a, .ref b] ∧ H a = some (.dK kvs) ∧ (∀ d : Int, 0 ≤ d → d < m → ∃ y : Int, valV kvs (Sum.inl d) = some (.int y)) ∧ SqT K H b c.vs ∧ c.ok pa m ∧ isWorth c = true ∧ ∀ t, Q (.bl t) H
theorem has_Lworth (F : Fn K mg "_law_is_worth_so" s_Lis_worth_so) : Has P w K mg base 1 "_law_is_worth_so" P_Lis_worth_so [] (sp_Lworth K) := by
  obtain ⟨⟨fd, F⟩, g⟩ := F
  refine ⟨⟨fd, [], ?_, F.kp, .nil, F.bindsN fun _ _ _ _ _ _ us hl => match us, hl with | [_, _], _ => rfl⟩, g⟩
  refine F.ok sc_Lis_worth_so (fun vs H Q E h => ?_) (fun cdv A outer s H vs Q E hr h' => ?_)
  · obtain ⟨a, b, m, kvs, c, pa, rfl, _⟩ := h
    rfl
  · obtain ⟨a, b, m, kvs, c, pa, rfl, ha, hk, hb, ok, wc, hq⟩ := h'
    refine ⟨_, PSs.nox (pss_cons (ps_if (pt_cmpR op_eq (pe_ix (ix_tupK rfl) (pv 1) pe_int (fun _ _ => rfl)) pe_str (nomark _)) (pss_one (ps_ret (pe_cmpR op_ge (pe_dget (hu_of hr) (pv 0) (pe_ix (ix_tupK rfl) (pv 1) pe_int (fun _ _ => rfl)) (fun _ _ => rfl)) (pe_ix (ix_tupK rfl) (pv 1) pe_int (fun _ _ => rfl)) (nomark _)))) pss_nil)
      (pss_cons (ps_if (pt_cmpR op_eq (pe_ix (ix_tupK rfl) (pv 1) pe_int (fun _ _ => rfl)) pe_str (nomark _)) (pss_one (ps_ret (pe_cmpR op_le (pe_dget (hu_of hr) (pv 0) (pe_ix (ix_tupK rfl) (pv 1) pe_int (fun _ _ => rfl)) (fun _ _ => rfl)) (pe_ix (ix_tupK rfl) (pv 1) pe_int (fun _ _ => rfl)) (nomark _)))) pss_nil)
      (pss_one (ps_ret (pe_cmpR op_ge (pe_op op_sub (pe_dget (hu_of hr) (pv 0) (pe_ix (ix_tupK rfl) (pv 1) pe_int (fun _ _ => rfl)) (fun _ _ => rfl)) (pe_dget (hu_of hr) (pv 0) (pe_ix (ix_tupK rfl) (pv 1) pe_int (fun _ _ => rfl)) (fun _ _ => rfl))) (pe_ix (ix_tupK rfl) (pv 1) pe_int (fun _ _ => rfl)) (nomark _)))))), ?_⟩
    have ix : ∀ (j : Nat) (x : V), c.vs[j]? = some x → atI c.vs (j : Int) = some x := fun j x h => atI_nat h
    have get : ∀ {d : Int} {y : Int}, valV kvs (Sum.inl d) = some (.int y) → DGet H a (.int d) (some (.int y)) := fun h => .inl ⟨kvs, .inl _, .inl ha, rfl, h.symm⟩
    cases c with
    | lit f x d k => cases wc
    | bnd mo x d n =>
      obtain ⟨_, d0, d1, _⟩ := ok
      obtain ⟨y, hy⟩ := hk d d0 d1
      refine ⟨_, rfl, b, _, _, _, rfl, rfl, hb, ix 0 _ rfl, rfl, _, rfl, ?_⟩
      cases mo with
      | false =>
        refine iteT' (show decide (V.str (if false = true then "most" else "least") = V.str "least") = true from decide_eq_true rfl) ?_
        refine ⟨_, rfl, _, rfl, b, _, _, .int d, rfl, rfl, hb, ix 2 _ rfl, a, .int y, rfl, get hy, _, rfl, b, _, _, .int n, rfl, rfl, hb, ix 3 _ rfl, _, _, rfl, rfl, hq _⟩
      | true =>
        refine iteF' (show decide (V.str (if true = true then "most" else "least") = V.str "least") = false from by decide +kernel) ?_
        refine ⟨_, rfl, b, _, _, _, rfl, rfl, hb, ix 0 _ rfl, rfl, _, rfl, ?_⟩
        refine iteT' (show decide (V.str (if true = true then "most" else "least") = V.str "most") = true from decide_eq_true rfl) ?_
        refine ⟨_, rfl, _, rfl, b, _, _, .int d, rfl, rfl, hb, ix 2 _ rfl, a, .int y, rfl, get hy, _, rfl, b, _, _, .int n, rfl, rfl, hb, ix 3 _ rfl, _, _, rfl, rfl, hq _⟩
    | rose x d e n =>
      obtain ⟨_, d0, d1, e0, e1, _⟩ := ok
      obtain ⟨y, hy⟩ := hk d d0 d1
      obtain ⟨z, hz⟩ := hk e e0 e1
      refine ⟨_, rfl, b, _, _, _, rfl, rfl, hb, ix 0 _ rfl, rfl, _, rfl, ?_⟩
      refine iteF' (show decide (V.str "rose" = V.str "least") = false from by decide +kernel) ?_
      refine ⟨_, rfl, b, _, _, _, rfl, rfl, hb, ix 0 _ rfl, rfl, _, rfl, ?_⟩
      refine iteF' (show decide (V.str "rose" = V.str "most") = false from by decide +kernel) ?_
      refine ⟨_, rfl, _, rfl, b, _, _, .int e, rfl, rfl, hb, ix 3 _ rfl, a, .int z, rfl, get hz, _, rfl, _, rfl, b, _, _, .int d, rfl, rfl, hb, ix 2 _ rfl, a, .int y, rfl, get hy, _, _, rfl, rfl, _, rfl, b, _, _, .int n, rfl, rfl, hb, ix 4 _ rfl, _, _, rfl, rfl, hq _⟩
/-! ### _law_is_true -/
structure Hid (H : Hp) (pa : Parts) (m : Nat) (aT aW : Addr) (kT : List (List Key × V)) (kW : List (Key × V)) : Prop where
  eT : H aT = some (.dT kT)
  eW : H aW = some (.dK kW)
  tab : ∀ l ∈ pa.labs, ∀ d : Int, 0 ≤ d → d < m → ∃ y : Int, valV kT [Sum.inr l.1, Sum.inl d] = some (.int y)
  wor : ∀ x ∈ pa.people.map (·.1), ∃ (b : Addr) (ys : List Int), valV kW (Sum.inr x) = some (.ref b) ∧ H b = some (.lst (ys.map V.int)) ∧ ys.length = m
def sp_Ltrue (K : Frag) : Sp := fun vs H Q _ => ∃ (v : V) (aT aW b : Addr) (m : Nat) (kT : List (List Key × V)) (kW : List (Key × V)) (c : Clm) (pa : Parts), vs = [v, .ref aT, .ref aW, .ref b] ∧ Hid H pa m aT aW kT kW ∧ m ≤ 100 ∧ SqT K H b c.vs ∧ c.ok pa m ∧ ∀ t H', Same H H' → Q (.bl t) H'
theorem has_Ltrue (F : Fn K mg "_law_is_true" s_Lis_true) (hW : Has P w K mg base 1 "_law_is_worth_so" P_Lis_worth_so [] (sp_Lworth K)) (gD : mg "dict" = none) (gLi : mg "list" = none) (gE : mg "enumerate" = none) : Has P w K mg base 2 "_law_is_true" P_Lis_true [] (sp_Ltrue K) := by
  obtain ⟨⟨fd, F⟩, g⟩ := F
  refine ⟨⟨fd, [], ?_, F.kp, .nil, F.bindsN fun _ _ _ _ _ _ us hl => match us, hl with | [_, _, _, _], _ => rfl⟩, g⟩
  refine F.ok sc_Lis_true (fun vs H Q E h => ?_) (fun cdv A outer s H vs Q E hr h' => ?_)
  · obtain ⟨v, aT, aW, b, m, kT, kW, c, pa, rfl, _⟩ := h
    rfl
  · obtain ⟨v, aT, aW, b, m, kT, kW, c, pa, rfl, hi, m1, hb, ok, hq⟩ := h'
    have e0 : PS (cxOf CX0 P w K mg base N_Lis_true "_law_is_true" (defScope s_Lis_true) (He.ga K "_law_is_true") cdv A outer s H E).nox ((defBody s_Lis_true).getD 0 (.Pass ⟨0, 0, 0, 0⟩)) _ := ps_if (pt_cmpR (op_in_seq (X := (cxOf CX0 P w K mg base N_Lis_true "_law_is_true" (defScope s_Lis_true) (He.ga K "_law_is_true") cdv A outer s H E).nox)) (pe_ix (ix_tupK (K := K) rfl) (pv 3) pe_int (fun _ _ => rfl)) (pe_tup (pa_cons pe_str (pa_cons pe_str pa_nil))) (by rfl))
      (pss_one (ps_ret (pe_cmpR op_eq (pe_cmpR op_ge (pe_dget (hu_of hr) (pv 1) (pe_tup (pa_cons (pe_ix (ix_tupK (K := K) rfl) (pv 3) pe_int (fun _ _ => rfl)) (pa_cons (pe_ix (ix_tupK (K := K) rfl) (pv 3) pe_int (fun _ _ => rfl)) pa_nil))) (fun _ _ => rfl)) (pe_ix (ix_tupK (K := K) rfl) (pv 3) pe_int (fun _ _ => rfl)) (nomark _)) (pe_cmpR op_eq (pe_ix (ix_tupK (K := K) rfl) (pv 3) pe_int (fun _ _ => rfl)) pe_str (nomark _)) (nomark _)))) pss_nil
    have e1 : PS (cxOf CX0 P w K mg base N_Lis_true "_law_is_true" (defScope s_Lis_true) (He.ga K "_law_is_true") cdv A outer s H E).nox ((defBody s_Lis_true).getD 1 (.Pass ⟨0, 0, 0, 0⟩)) _ := ps_set (i := 4) sc_Lis_true.nd rfl (Or.inl rfl) (pe_dget (hu_of hr) (pv 2) (pe_ix (ix_tupK (K := K) rfl) (pv 3) pe_int (fun _ _ => rfl)) (fun _ _ => rfl))
    have e2 : PS (cxOf CX0 P w K mg base N_Lis_true "_law_is_true" (defScope s_Lis_true) (He.ga K "_law_is_true") cdv A outer s H E).nox ((defBody s_Lis_true).getD 2 (.Pass ⟨0, 0, 0, 0⟩)) _ := ps_ret (pe_has hW hr (pa_cons (pe_callTy (call_dictP (X := (cxOf CX0 P w K mg base N_Lis_true "_law_is_true" (defScope s_Lis_true) (He.ga K "_law_is_true") cdv A outer s H E).nox) rfl) (by rfl) gD (by decide +kernel) (pa_cons (pe_listEnum rfl (by rfl) gLi (by decide +kernel) (by rfl) gE (by decide +kernel) (pa_cons (pv 4) pa_nil)) pa_nil)) (pa_cons (pv 3) pa_nil)))
    refine ⟨_, PSs.nox (pss_cons e0 (pss_cons e1 (pss_one e2))), ?_⟩
    clear e0 e1 e2
    have ix : ∀ (j : Nat) (x : V), c.vs[j]? = some x → atI c.vs (j : Int) = some x := fun j x h => atI_nat h
    obtain ⟨w0, w1, h0, h1⟩ : ∃ w0 w1 : Str, c.vs[0]? = some (.str w0) ∧ c.vs[1]? = some (.str w1) := by
      cases c with
      | bnd mo x d n => exact ⟨_, _, rfl, rfl⟩
      | rose x d e n => exact ⟨_, _, rfl, rfl⟩
      | lit f x d k => exact ⟨_, _, rfl, rfl⟩
    refine ⟨_, rfl, b, _, _, _, rfl, rfl, hb, ix 0 _ h0, (show 2 ≤ sizeLine by decide), fun t nt => ?_⟩
    have s1 := same_new (o := .tup [.str "from", .str "before"]) nt
    refine ⟨t, _, rfl, .inr (SqT.of upd_same), rfl, rfl, _, rfl, ?_⟩
    have hb1 := sqT_same hb s1
    have worth : isWorth c = true → w1 ∈ pa.people.map (·.1) := fun wc => by
      cases c with
      | bnd mo x d n => cases h1; exact ok.1
      | rose x d e n => cases h1; exact ok.1
      | lit f x d k => cases wc
    have in_is : inV (V.str w0) [V.str (Str.ofString "from"), V.str (Str.ofString "before")] = !isWorth c := by
      cases c with
      | bnd mo x d n =>
        cases h0
        show inV _ _ = false
        clear hb ix ok worth hb1
        cases mo <;> decide +kernel
      | rose x d e n =>
        cases h0
        show inV _ _ = false
        decide +kernel
      | lit f x d k =>
        cases h0
        show inV _ _ = true
        cases f <;> decide +kernel
    show if (inV (V.str w0) [V.str (Str.ofString "from"), V.str (Str.ofString "before")]) = true then _ else _
    rw [in_is]
    cases hw : isWorth c with
    | false =>
      refine iteT ?_
      cases c with
      | bnd mo x d n => cases hw
      | rose x d e n => cases hw
      | lit f x d k =>
        obtain ⟨ts, hm, d0, d1, k0, k1⟩ := ok
        obtain rfl := V.str.inj (Option.some.inj h0)
        obtain rfl : x = w1 := V.str.inj (Option.some.inj h1)
        obtain ⟨y, hy⟩ := hi.tab _ hm d d0 d1
        refine ⟨_, rfl, _, rfl, b, _, _, _, rfl, rfl, hb1, ix 1 _ rfl, _, rfl, b, _, _, _, rfl, rfl, hb1, ix 2 _ rfl, (show 2 ≤ sizeLine by decide), fun r nr => ?_⟩
        have s2 := same_new (o := .tup [.str x, .int d]) nr
        refine ⟨aT, .int y, rfl, ?_, _, rfl, b, _, _, _, rfl, rfl, sqT_same hb1 s2, ix 3 _ rfl, _, _, rfl, rfl, _, rfl, b, _, _, _, rfl, rfl, sqT_same hb1 s2, ix 0 _ rfl, rfl, rfl, ?_⟩
        · have z := DGet.t (b := r) (k := [Sum.inr x, Sum.inl d]) (s2 _ _ (s1 _ _ hi.eT)) upd_same
          rw [hy] at z
          exact z
        · exact hq _ _ fun b o z => s2 _ _ (s1 _ _ z)
    | true =>
      refine iteF ?_
      obtain ⟨bw, ys, v1, v2, v3⟩ := hi.wor w1 (worth hw)
      refine ⟨_, rfl, _, rfl, b, _, _, _, rfl, rfl, hb1, ix 1 _ h1, aW, .ref bw, rfl, .inl ⟨kW, .inr w1, .inl (s1 _ _ hi.eW), rfl, v1.symm⟩, ?_⟩
      refine ⟨_, rfl, bw, _, rfl, SqL.of (s1 _ _ v2), fun H2 p2 ts s2 np2 nts np e2 pr2 => ?_⟩
      rw [kvN_numbered] at pr2
      refine ⟨p2, ts, kvN (ys.map V.int), rfl, SqL.of e2, paired_imp (fun _ _ h => SqT.of h) (paired_map (R := fun t q => H2 t = some (HO.tup [q.1, q.2])) (g := fun kv : Key × V => (kV kv.1, kv.2)) pr2), fun r nr => ?_⟩
      have s3 := same_new (o := .dK (mergeK [] (kvN (ys.map V.int)))) nr
      refine ⟨_, rfl, r, b, m, kvN (ys.map V.int), c, pa, rfl, ?_, fun d d0 d1 => ?_, sqT_same (sqT_same hb1 s2) s3, ok, hw, fun t => hq t _ fun b o z => s3 _ _ (s2 _ _ (s1 _ _ z))⟩
      · rw [upd_same, mergeK_new (kvN_nodup _) (fun x _ z => by cases z)]
        rfl
      · have hd : d.toNat < ys.length := by omega
        have e : (ys.map V.int)[d.toNat]? = some (.int ys[d.toNat]) := by rw [List.getElem?_map, List.getElem?_eq_getElem hd]; rfl
        have z := kvN_val e
        rw [show ((d.toNat : Nat) : Int) = d by omega] at z
        exact ⟨_, z⟩
end
end G

set_option Elab.async false
set_option linter.all false
set_option maxRecDepth 100000
set_option maxHeartbeats 4000000
namespace U
open PySem PySem.Spec PyProof.Rows L2
open PySem.W (Frag)
/-! ### statements from one state to the next -/
abbrev StP := L2.St → Hp → Prop
def tTo (A B : StP) : TS := fun D σ H => A σ H ∧ ∀ σ' H', B σ' H' → D.nx σ' H'
theorem ps_up {X : Cx} {st : Stmt} {t t' : TS} (h : PS X st t) (k : ∀ D σ H, t' D σ H → t D σ H) : PS X st t' := ⟨fun pins s σ H D I q => h.run pins s σ H D I (k D σ H q)⟩
theorem pss_up {X : Cx} {ss : List Stmt} {t t' : TS} (h : PSs X ss t) (k : ∀ D σ H, t' D σ H → t D σ H) : PSs X ss t' := ⟨fun pins s σ H D I q => h.run pins s σ H D I (k D σ H q)⟩
theorem pss_to {X : Cx} {st : Stmt} {ss : List Stmt} {A B C : StP} (h : PS X st (tTo A B)) (hs : PSs X ss (tTo B C)) : PSs X (st :: ss) (tTo A C) := pss_up (pss_cons h hs) fun D σ H q => ⟨q.1, fun σ' H' b => ⟨b, q.2⟩⟩
theorem pss_to1 {X : Cx} {st : Stmt} {A B : StP} (h : PS X st (tTo A B)) : PSs X [st] (tTo A B) := pss_up (pss_one h) fun D σ H q => q
theorem pss_some {X : Cx} {ι : Type} {ss : List Stmt} {t : ι → TS} (h : ∀ i, PSs X ss (t i)) : PSs X ss (fun D σ H => ∃ i, t i D σ H) := ⟨fun pins s σ H D I ⟨i, q⟩ => (h i).run pins s σ H D I q⟩
/-! ### slots that are known -/
structure Sg (N : Nat) (fs : List (Nat × V)) (σ : L2.St) : Prop where
  len : σ.length = N
  at_ : ∀ x ∈ fs, σ[x.1]? = some (some x.2)
theorem Sg.get {N : Nat} {fs : List (Nat × V)} {σ : L2.St} {i : Nat} {v : V} (h : Sg N fs σ) (m : (i, v) ∈ fs) : σ[i]? = some (some v) := h.at_ _ m
theorem Sg.set {N : Nat} {fs : List (Nat × V)} {σ : L2.St} {i : Nat} {v : V} (h : Sg N fs σ) (l : i < N) (m : ∀ x ∈ fs, x.1 ≠ i) : Sg N ((i, v) :: fs) (σ.set i (some v)) := by
  refine ⟨by rw [List.length_set]; exact h.len, fun x hx => ?_⟩
  rcases List.mem_cons.mp hx with rfl | hx
  · exact List.getElem?_set_self (by rw [h.len]; exact l)
  · rw [List.getElem?_set_ne (Ne.symm (m x hx))]
    exact h.at_ x hx
theorem Sg.off {N : Nat} {fs : List (Nat × V)} {σ : L2.St} {i : Nat} {v : Option V} (h : Sg N fs σ) (m : ∀ x ∈ fs, x.1 ≠ i) : Sg N fs (σ.set i v) := by
  refine ⟨by rw [List.length_set]; exact h.len, fun x hx => ?_⟩
  rw [List.getElem?_set_ne (Ne.symm (m x hx))]
  exact h.at_ x hx
theorem Sg.sub {N : Nat} {fs gs : List (Nat × V)} {σ : L2.St} (h : Sg N fs σ) (m : ∀ x ∈ gs, x ∈ fs) : Sg N gs σ := ⟨h.len, fun x hx => h.at_ x (m x hx)⟩
/-! ### data that stands -/
mutual
theorem Dq.here {F : Addr → Prop} {H : Hp} : ∀ {v : V} {d : PyData}, Dq F H v d → Dq (fun a => F a ∧ H a ≠ none) H v d
  | _, _, .non => .non
  | _, _, .bl b => .bl b
  | _, _, .int i => .int i
  | _, _, .str x => .str x
  | _, _, .lst f e h => .lst ⟨f, by rw [e]; exact Option.some_ne_none _⟩ e (DqAll.here h)
  | _, _, .tup f e h => .tup ⟨f, by rw [e]; exact Option.some_ne_none _⟩ e (DqAll.here h)
  | _, _, .dk f e h => .dk ⟨f, by rw [e]; exact Option.some_ne_none _⟩ e (DqAll.here h)
theorem DqAll.here {F : Addr → Prop} {H : Hp} : ∀ {vs : List V} {ds : List PyData}, DqAll F H vs ds → DqAll (fun a => F a ∧ H a ≠ none) H vs ds
  | _, _, .nil => .nil
  | _, _, .cons h t => .cons (Dq.here h) (DqAll.here t)
end
end U
namespace G
open PySem PySem.Spec PyProof.Rows L2 U
open PySem.W (Frag)
theorem pool_ok : ∀ n ∈ pool, isName n = true ∧ PyData.strOk n = true := by
  have : pool.all (fun n => isName n && PyData.strOk n) = true := by decide +kernel
  intro n h
  have z := List.all_eq_true.mp this n h
  rw [Bool.and_eq_true] at z
  exact z
theorem pool_nd : pool.Nodup := by decide +kernel
/-- drawn names: unlike, each a name -/
structure Nms (ns : List Str) : Prop where
  nd : ns.Nodup
  ok : ∀ n ∈ ns, isName n = true ∧ PyData.strOk n = true
  pl : ∀ n ∈ ns, n ∈ pool
theorem Nms.of {ns rest : List Str} (h : (ns ++ rest).Perm pool) : Nms ns := by
  refine ⟨?_, fun n hn => pool_ok n (h.mem_iff.mp (List.mem_append_left _ hn)), fun n hn => h.mem_iff.mp (List.mem_append_left _ hn)⟩
  have := h.nodup_iff.mpr pool_nd
  exact (List.nodup_append.mp this).1
theorem Nms.take {ns : List Str} (h : Nms ns) (k : Nat) : Nms (ns.take k) := ⟨h.nd.sublist (List.take_sublist _ _), fun n hn => h.ok n (List.mem_of_mem_take hn), fun n hn => h.pl n (List.mem_of_mem_take hn)⟩
theorem Nms.drop {ns : List Str} (h : Nms ns) (k : Nat) : Nms (ns.drop k) := ⟨h.nd.sublist (List.drop_sublist _ _), fun n hn => h.ok n (List.mem_of_mem_drop hn), fun n hn => h.pl n (List.mem_of_mem_drop hn)⟩
/-- what a drawn chart is asked with -/
structure Cf where
  p : Addr
  aS : Addr
  s0 : Nat
  s1 : Nat
  s2 : Nat
  s3 : Nat
  s4 : Nat
  s5 : Nat
  kept : Bool
  n : Nat
  H0 : Hp
structure Cf.Ok (c : Cf) : Prop where
  a0 : 1 ≤ c.s0
  b0 : c.s0 ≤ 3
  a1 : 1 ≤ c.s1
  b1 : c.s1 ≤ 6
  a2 : 1 ≤ c.s2
  b2 : c.s2 ≤ 4
  a3 : 1 ≤ c.s3
  b3 : c.s3 ≤ 24
  b4 : c.s4 ≤ 8
  a5 : 2 ≤ c.s5
  b5 : c.s5 ≤ 100
  nn : c.n + 3000 ≤ 100000
  ap : c.aS ≠ c.p
def Cf.szs (c : Cf) : List V := [.int c.s0, .int c.s1, .int c.s2, .int c.s3, .int c.s4, .int c.s5]
/-- what holds of the heap all along -/
structure Hb (K : Frag) (c : Cf) (k : Nat) (H : Hp) : Prop where
  pot : Pot H c.p (c.n + k)
  ext : Ext c.p c.H0 H
  siz : SqT K H c.aS c.szs
theorem Hb.take {K : Frag} {c : Cf} {k : Nat} {H H' : Hp} (h : Hb K c k H) (ok : c.Ok) (e : Ext c.p H H') {j : Nat} (hp : Pot H' c.p j) (l : j ≤ c.n + (k + 1)) : Hb K c (k + 1) H' := ⟨hp.up l, h.ext.trans e, e.seqT h.siz ok.ap⟩
theorem Hb.to {K : Frag} {c : Cf} {k m : Nat} {H H' : Hp} (h : Hb K c k H) (ok : c.Ok) (e : Ext c.p H H') {j : Nat} (hp : Pot H' c.p j) (l : j ≤ c.n + m) : Hb K c m H' := ⟨hp.up l, h.ext.trans e, e.seqT h.siz ok.ap⟩
theorem Hb.up {K : Frag} {c : Cf} {k m : Nat} {H : Hp} (h : Hb K c k H) (l : k ≤ m) : Hb K c m H := ⟨h.pot.up (by omega), h.ext, h.siz⟩
theorem Hb.same {K : Frag} {c : Cf} {k : Nat} {H H' : Hp} (h : Hb K c k H) (s : Same H H') : Hb K c k H' := ⟨h.pot.sm s, h.ext.trans (.of s), sqT_same h.siz s⟩
/-- a thing of one's own is changed -/
theorem Hb.own {K : Frag} {c : Cf} {k : Nat} {H : Hp} {a : Addr} {o o' : HO} (h : Hb K c k H) (n0 : c.H0 a = none ∧ a ≠ c.p) (e0 : H a = some o) (nt : ∀ xs, o ≠ .tup xs) (nf : ∀ u xs, o ≠ .frz u (.tup xs)) : Hb K c k (upd H a o') := by
  refine ⟨?_, ?_, ?_⟩
  · obtain ⟨x, y, z, e, q⟩ := h.pot
    exact ⟨x, y, z, by rw [upd_ne (Ne.symm n0.2)]; exact e, q⟩
  · intro b u hb e
    have : b ≠ a := fun z => by rw [z, n0.1] at e; cases e
    rw [upd_ne this]
    exact h.ext b u hb e
  · rcases h.siz with (e | ⟨u, e⟩) | e
    · exact .inl (.inl (by rw [upd_ne (fun z => by rw [z, e0] at e; exact nt _ (Option.some.inj e))]; exact e))
    · exact .inl (.inr ⟨u, by rw [upd_ne (fun z => by rw [z, e0] at e; exact nf _ _ (Option.some.inj e))]; exact e⟩)
    · exact .inr e
theorem Hb.lst {K : Frag} {c : Cf} {k : Nat} {H : Hp} {a : Addr} {xs : List V} {o' : HO} (h : Hb K c k H) (n0 : c.H0 a = none ∧ a ≠ c.p) (e0 : H a = some (.lst xs)) : Hb K c k (upd H a o') := h.own n0 e0 (fun _ z => by cases z) (fun _ _ z => by cases z)
theorem Hb.fresh {K : Frag} {c : Cf} {k : Nat} {H : Hp} {a : Addr} (h : Hb K c k H) (e : H a = none) : c.H0 a = none ∧ a ≠ c.p := by
  have ap := h.pot.new e
  refine ⟨?_, ap⟩
  cases z : c.H0 a with
  | none => rfl
  | some o => rw [h.ext _ _ ap z] at e; cases e
abbrev Own (c : Cf) (a : Addr) : Prop := c.H0 a = none ∧ a ≠ c.p
abbrev sN0 : Stmt := .Pass ⟨0, 0, 0, 0⟩
abbrev cSt (i : Nat) : Stmt := (defBody s_Lchart).getD i sN0
abbrev f3 (c : Cf) : List (Nat × V) := [(0, .ref c.p), (1, .ref c.aS), (2, .bl c.kept)]
section
variable {P : Program} {w : World} {K : Frag} {mg : Str → Option Value} {base : Heap} {cdv : Value} {A : Around} {outer : List Env} {s : Shared} {HX : Hp} {E : XK} {c : Cf}
abbrev cxC (P : Program) (w : World) (K : Frag) (mg : Str → Option Value) (base : Heap) (cdv : Value) (A : Around) (outer : List Env) (s : Shared) (HX : Hp) (E : XK) : Cx := (cxOf CX0 P w K mg base N_Lchart "_law_chart" (defScope s_Lchart) (He.ga K "_law_chart") cdv A outer s HX E).nox
abbrev RmC (K : Frag) (cdv : Value) (A : Around) (s : Shared) : Prop := Room 4 (A.deeper (envOfC "_law_chart" (defScope s_Lchart) s.heap.objs.size (He.ga K "_law_chart") cdv))
def J0 (K : Frag) (c : Cf) : StP := fun σ H => Sg 20 (f3 c) σ ∧ Hb K c 0 H
structure Z1 (c : Cf) (aN : Addr) (ns : List Str) (H : Hp) : Prop where
  o : Own c aN
  e : H aN = some (.lst (ns.map V.str))
  l : ns.length = 13
  ok : Nms ns
def J1 (K : Frag) (c : Cf) : StP := fun σ H => ∃ aN ns, Sg 20 ((3, .ref aN) :: f3 c) σ ∧ Hb K c 13 H ∧ Z1 c aN ns H
theorem ch0 (hr : RmC K cdv A s) (ok : c.Ok) (hN : Has P w K mg base 3 "_law_names" P_Lnames [] nmS) : PS (cxC P w K mg base cdv A outer s HX E) (cSt 0) (tTo (J0 K c) (J1 K c)) := by
  refine ps_up (ps_set (i := 3) sc_Lchart.nd rfl (Or.inl rfl) (pe_has hN (hr.mono (by decide)) (pa_cons (pv 0) (pa_cons pe_int pa_nil)))) fun D σ H h => ?_
  obtain ⟨⟨sg, hb⟩, nx⟩ := h
  have := ok.nn
  refine ⟨_, sg.get (by simp), c.n + 0, c.p, 13, rfl, hb.pot, by omega, by decide, fun q ns rest H1 nq eq hl hpm p1 x1 => ?_⟩
  exact nx _ _ ⟨q, ns, sg.set (by decide) (by simp), hb.to ok x1 p1 (by omega), hb.fresh nq, eq, hl, .of hpm⟩
end
end G

set_option Elab.async false
set_option linter.all false
set_option maxRecDepth 100000
set_option maxHeartbeats 4000000
namespace G
open PySem PySem.Spec PyProof.Rows L2 U
open PySem.W (Frag)
def Rt (x : Str × Int × Int) : Prop := 0 ≤ x.2.1 ∧ x.2.1 ≤ 5 ∧ 0 ≤ x.2.2 ∧ x.2.2 ≤ 5
theorem Z1.ext {c : Cf} {aN : Addr} {ns : List Str} {H H' : Hp} (z : Z1 c aN ns H) (e : Ext c.p H H') : Z1 c aN ns H' := ⟨z.o, e _ _ z.o.2 z.e, z.l, z.ok⟩
structure Z2 (c : Cf) (F : Addr → Prop) (ns : List Str) (aP : Addr) (x1 : List V) (ps : List (Str × Int × Int)) (H : Hp) : Prop where
  o : F aP
  e : H aP = some (.lst x1)
  d : DqAll F H x1 (ps.map perD)
  nm : ∃ k, ps.map (·.1) = ns.take k ∧ 1 ≤ k ∧ k ≤ c.s0
  rt : ∀ x ∈ ps, Rt x
theorem Z2.move {c : Cf} {F F' : Addr → Prop} {ns : List Str} {aP : Addr} {x1 : List V} {ps : List (Str × Int × Int)} {H H' : Hp} (z : Z2 c F ns aP x1 ps H) (f : ∀ a, F a → F' a) (e : ∀ b o, F b → H b = some o → H' b = some o) : Z2 c F' ns aP x1 ps H' := ⟨f _ z.o, e _ _ z.o z.e, z.d.move f e, z.nm, z.rt⟩
theorem Z2.here {c : Cf} {F : Addr → Prop} {ns : List Str} {aP : Addr} {x1 : List V} {ps : List (Str × Int × Int)} {H : Hp} (z : Z2 c F ns aP x1 ps H) : Z2 c (fun a => F a ∧ H a ≠ none) ns aP x1 ps H := ⟨⟨z.o, by rw [z.e]; exact Option.some_ne_none _⟩, z.e, z.d.here, z.nm, z.rt⟩
structure Z3 (c : Cf) (F : Addr → Prop) (ns : List Str) (aL : Addr) (x2 : List V) (ls : List (Str × List Tab)) (H : Hp) : Prop where
  o : F aL
  e : H aL = some (.lst x2)
  d : DqAll F H x2 (ls.map labD)
  nm : ∃ k, ls.map (·.1) = (ns.drop 3).take k ∧ 1 ≤ k ∧ k ≤ c.s1
  tb : ∀ l ∈ ls, 1 ≤ l.2.length ∧ l.2.length ≤ c.s2 ∧ ∀ t ∈ l.2, TabSm t
theorem Z3.move {c : Cf} {F F' : Addr → Prop} {ns : List Str} {aL : Addr} {x2 : List V} {ls : List (Str × List Tab)} {H H' : Hp} (z : Z3 c F ns aL x2 ls H) (f : ∀ a, F a → F' a) (e : ∀ b o, F b → H b = some o → H' b = some o) : Z3 c F' ns aL x2 ls H' := ⟨f _ z.o, e _ _ z.o z.e, z.d.move f e, z.nm, z.tb⟩
theorem Z3.here {c : Cf} {F : Addr → Prop} {ns : List Str} {aL : Addr} {x2 : List V} {ls : List (Str × List Tab)} {H : Hp} (z : Z3 c F ns aL x2 ls H) : Z3 c (fun a => F a ∧ H a ≠ none) ns aL x2 ls H := ⟨⟨z.o, by rw [z.e]; exact Option.some_ne_none _⟩, z.e, z.d.here, z.nm, z.tb⟩
theorem wipe_one (σ : L2.St) (i : Nat) (x : Option V) : wipe ((wipe σ [i]).set i x) [i] = wipe σ [i] := by
  show ((σ.set i none).set i x).set i none = σ.set i none
  rw [List.set_set, List.set_set]
section
variable {P : Program} {w : World} {K : Frag} {mg : Str → Option Value} {base : Heap} {cdv : Value} {A : Around} {outer : List Env} {s : Shared} {HX : Hp} {E : XK} {c : Cf}
abbrev f5 (c : Cf) (aN aP : Addr) : List (Nat × V) := (4, .ref aP) :: (3, .ref aN) :: f3 c
def J2 (K : Frag) (c : Cf) : StP := fun σ H => ∃ aN ns aP x1 ps, Sg 20 (f5 c aN aP) σ ∧ Hb K c 20 H ∧ Z1 c aN ns H ∧ Z2 c (Own c) ns aP x1 ps H
abbrev tTake (k : Int) : TE := tCall tkS [] E0 (tCons (tVar 0) (tCons (tC (.int k)) tNil))
theorem ch1 (hr : RmC K cdv A s) (ok : c.Ok) (hT : Has P w K mg base 1 "_law_take" P_Ltake [] tkS) : PS (cxC P w K mg base cdv A outer s HX E) (cSt 1) (tTo (J1 K c) (J2 K c)) := by
  have hr1 := hr.mono (show 1 ≤ 4 by omega)
  refine ps_up (ps_setLc (i := 4) (own := [("_law_name", 5)]) (g := gName 5) (tt := tYes) (te := tTup (tCons (tVar 5) (tCons (tTake 6) (tCons (tTake 6) tNil)))) rfl sc_Lchart.nd rfl rfl rfl
    (pi_list (pe_slice sl_list (pv 3) po_none (po_some (pe_op op_add pe_int (pe_has hT hr1 (pa_cons (pv 0) (pa_cons (pe_ix (ix_tupK (K := K) rfl) (pv 1) pe_int (fun _ _ => rfl)) pa_nil))))))) (blkOk_by (N := N_Lchart) (sc := defScope s_Lchart) (by decide +kernel))
    (fun _ _ _ _ _ => pg_name (i := 5) sc_Lchart.nd rfl (Or.inl rfl)) (fun _ _ _ _ _ => pts_nil) (fun _ _ _ _ _ => pe_tup (pa_cons (pv 5) (pa_cons (pe_has hT hr1 (pa_cons (pv 0) (pa_cons pe_int pa_nil))) (pa_cons (pe_has hT hr1 (pa_cons (pv 0) (pa_cons pe_int pa_nil))) pa_nil))))) fun D σ H h => ?_
  obtain ⟨⟨aN, ns, sg, hb, z1⟩, nx⟩ := h
  have nn := ok.nn
  have a0 := ok.a0
  have b0 := ok.b0
  refine ⟨.ref aN, sg.get (by simp), .ref c.p, sg.get (by simp), .ref c.aS, sg.get (by simp), c.aS, _, _, _, rfl, rfl, hb.siz, atI_nat (j := 0) rfl, c.n + 13, c.p, c.s0, rfl, by omega, by omega, by omega, hb.pot, fun d H1 d0 d1 p1 e1 => ?_⟩
  have hb1 : Hb K c 14 H1 := hb.to ok e1 p1 (by omega)
  have z11 := z1.ext e1
  refine ⟨_, _, rfl, rfl, _, rfl, aN, _, rfl, SqL.of z11.e, fun q nq => ?_⟩
  obtain ⟨k, rfl⟩ : ∃ k : Nat, d = (k : Int) := ⟨d.toNat, by omega⟩
  have hk : k < c.s0 := by omega
  have ec : cutV (ns.map V.str) none (some (1 + (k : Int))) = (ns.take (1 + k)).map V.str := by
    have := cut_to (ns.map V.str) (1 + k)
    rw [show ((1 + k : Nat) : Int) = 1 + (k : Int) by omega] at this
    rw [this, List.map_take]
  rw [ec]
  have s2 := same_new (o := .lst ((ns.take (1 + k)).map V.str)) nq
  have oq := hb1.fresh nq
  have hb2 := hb1.same s2
  have z12 := z11.ext (.of s2)
  have lq : (ns.take (1 + k)).length = 1 + k := by rw [List.length_take, z1.l]; omega
  refine ⟨q, rfl, ⟨_, SqL.of upd_same⟩, fun L nL => ?_⟩
  have s3 := same_new (o := .lst []) nL
  have oL := hb2.fresh nL
  have qL : q ≠ L := ne_of_none upd_same nL
  have NL : aN ≠ L := ne_of_none z12.e nL
  refine lc_list (K := K) (a := q) (xs := (ns.take (1 + k)).map V.str) (fun i Hc => Hb K c (14 + 2 * i) Hc ∧ Hc q = some (.lst ((ns.take (1 + k)).map V.str)) ∧ Z1 c aN ns Hc ∧ ∃ (x1 : List V) (ps : List (Str × Int × Int)), Hc L = some (.lst x1) ∧ x1.length = i ∧ ps.length = i ∧ DqAll (fun a => Own c a ∧ a ≠ L) Hc x1 (ps.map perD) ∧ ps.map (·.1) = (ns.take (1 + k)).take i ∧ ∀ x ∈ ps, Rt x)
    ⟨hb2.same s3, s3 _ _ upd_same, z12.ext (.of s3), [], [], upd_same, rfl, rfl, .nil, by rw [List.take_zero]; rfl, fun x hx => by cases hx⟩ (fun i Hc _ h => SqL.of h.2.1) ?_ ?_
  · rintro i x Hc hx ⟨hbc, eq, z1c, x1, ps, eL, lx, lp, al, nm, rt⟩
    rw [List.getElem?_map, Option.map_eq_some_iff] at hx
    obtain ⟨nm0, hx, rfl⟩ := hx
    have ilt : i < 1 + k := by rw [← lq]; exact (List.getElem?_eq_some_iff.mp hx).1
    refine ⟨wipe_one _ _ _, yes_if ?_⟩
    have sg' : Sg 20 ((5, .str nm0) :: (3, .ref aN) :: f3 c) ((wipe σ [5]).set 5 (some (.str nm0))) := Sg.set (Sg.off sg (by simp)) (by decide) (by simp)
    refine ⟨.str nm0, sg'.get (by simp), .ref c.p, sg'.get (by simp), c.n + (14 + 2 * i), c.p, 6, rfl, by decide, by decide, by omega, hbc.pot, fun u H4 u0 u1 p4 e4 => ?_⟩
    have hb4 : Hb K c (14 + 2 * i + 1) H4 := hbc.to ok e4 p4 (by omega)
    refine ⟨.ref c.p, sg'.get (by simp), c.n + (14 + 2 * i + 1), c.p, 6, rfl, by decide, by decide, by omega, hb4.pot, fun v H5 v0 v1 p5 e5 => ?_⟩
    have hb5 : Hb K c (14 + 2 * i + 2) H5 := hb4.to ok e5 p5 (by omega)
    have e45 := e4.trans e5
    refine ⟨(show 3 ≤ sizeLine by decide), fun r nr => ?_⟩
    have sr := same_new (o := .tup [.str nm0, .int u, .int v]) nr
    have or_ := hb5.fresh nr
    have eL5 := e45 _ _ oL.2 eL
    have rL : r ≠ L := Ne.symm (ne_of_none eL5 nr)
    have eL6 := sr _ _ eL5
    refine ⟨x1, eL6, by rw [sizeLine_eq]; omega, ?_, ?_, ?_, x1 ++ [.ref r], ps ++ [(nm0, u, v)], upd_same, by rw [List.length_append, lx]; rfl, by rw [List.length_append, lp]; rfl, ?_, ?_, ?_⟩
    · exact (hb5.same sr).lst oL eL6
    · rw [upd_ne qL]
      exact sr _ _ (e45 _ _ oq.2 eq)
    · exact ⟨z1c.o, by rw [upd_ne NL]; exact sr _ _ (e45 _ _ z1c.o.2 z1c.e), z1c.l, z1c.ok⟩
    · rw [List.map_append]
      refine DqAll.app (al.move (fun _ f => f) fun b o f z => ?_) (.cons (.tup ⟨or_, rL⟩ (by rw [upd_ne rL]; exact upd_same) (.cons (.str _) (.cons (.int _) (.cons (.int _) .nil)))) .nil)
      rw [upd_ne f.2]
      exact sr _ _ (e45 _ _ f.1.2 z)
    · rw [List.map_append, nm, List.take_add_one, hx]
      rfl
    · intro y hy
      rcases List.mem_append.mp hy with h | h
      · exact rt y h
      · cases List.mem_singleton.mp h
        exact ⟨u0, by show u ≤ 5; omega, v0, by show v ≤ 5; omega⟩
  · rintro H3 ⟨hbc, eq, z1c, x1, ps, eL, lx, lp, al, nm, rt⟩
    rw [List.length_map, lq] at hbc lx lp nm
    refine nx _ _ ⟨aN, ns, L, x1, ps, sg.set (by decide) (by simp), hbc.up (by omega), z1c, oL, eL, al.move (fun _ f => f.1) fun _ _ _ z => z, ⟨1 + k, ?_, by omega, by omega⟩, rt⟩
    rw [nm, List.take_of_length_le (by rw [lq]; exact Nat.le_refl _)]
abbrev f6 (c : Cf) (aN aP aL : Addr) : List (Nat × V) := (6, .ref aL) :: f5 c aN aP
def J3 (K : Frag) (c : Cf) : StP := fun σ H => ∃ aN ns aP x1 ps aL, Sg 20 (f6 c aN aP aL) σ ∧ Hb K c 20 H ∧ Z1 c aN ns H ∧ aN ≠ aL ∧ Z2 c (fun a => Own c a ∧ a ≠ aL) ns aP x1 ps H ∧ Own c aL ∧ H aL = some (.lst [])
theorem ch2 (hr : RmC K cdv A s) (ok : c.Ok) : PS (cxC P w K mg base cdv A outer s HX E) (cSt 2) (tTo (J2 K c) (J3 K c)) := by
  refine ps_up (ps_set (i := 6) sc_Lchart.nd rfl (Or.inl rfl) (pe_lst pa_nil)) fun D σ H h => ?_
  obtain ⟨⟨aN, ns, aP, x1, ps, sg, hb, z1, z2⟩, nx⟩ := h
  refine ⟨(show 0 ≤ sizeLine by decide), fun L nL => ?_⟩
  have s1 := same_new (o := .lst []) nL
  refine nx _ _ ⟨aN, ns, aP, x1, ps, L, sg.set (by decide) (by simp), hb.same s1, z1.ext (.of s1), ne_of_none z1.e nL, z2.here.move (fun a f => ⟨f.1, fun z => f.2 (by rw [z]; exact nL)⟩) (fun b o _ z => s1 _ _ z), hb.fresh nL, upd_same⟩
def J4 (K : Frag) (c : Cf) : StP := fun σ H => ∃ aN ns aP x1 ps aL x2 ls, Sg 20 (f6 c aN aP aL) σ ∧ Hb K c 150 H ∧ Nms ns ∧ ns.length = 13 ∧ Z2 c (Own c) ns aP x1 ps H ∧ Z3 c (Own c) ns aL x2 ls H
theorem ch3 (hr : RmC K cdv A s) (ok : c.Ok) (hT : Has P w K mg base 1 "_law_take" P_Ltake [] tkS) (hTb : Has P w K mg base 3 "_law_table" P_Ltable [] tbS) (gR : mg "range" = none) : PS (cxC P w K mg base cdv A outer s HX E) (cSt 3) (tTo (J3 K c) (J4 K c)) := by
  have hr1 := hr.mono (show 1 ≤ 4 by omega)
  have hr3 := hr.mono (show 3 ≤ 4 by omega)
  refine ps_up (ps_for PassesOwn.never rfl (pi_list (pe_slice sl_list (pv 3) (po_some pe_int) (po_some (pe_op op_add pe_int (pe_has hT hr1 (pa_cons (pv 0) (pa_cons (pe_ix (ix_tupK (K := K) rfl) (pv 1) pe_int (fun _ _ => rfl)) pa_nil))))))) (pg_name (i := 5) sc_Lchart.nd rfl (Or.inl rfl))
    (pss_one (ps_expr (pe_bm PySem.F.plainAttrs_list PySem.F.slot_list_append PySem.F.type_list_append mt_append (pv 6) (pa_cons (pe_tup (pa_cons (pv 5) (pa_cons (pe_lc (own := [("_law_lap", 7)]) (g := gName 7) (tt := tYes) (te := tCall tbS [] E0 (tCons (tVar 0) tNil)) rfl sc_Lchart.nd
      (pi_range1 (by rfl) gR (pa_cons (pe_op op_add pe_int (pe_has hT hr1 (pa_cons (pv 0) (pa_cons (pe_ix (ix_tupK (K := K) rfl) (pv 1) pe_int (fun _ _ => rfl)) pa_nil)))) pa_nil)) (blkOk_by (N := N_Lchart) (sc := defScope s_Lchart) (by decide +kernel)) (fun _ _ _ _ _ => pg_name (i := 7) sc_Lchart.nd rfl (Or.inl rfl)) (fun _ _ _ _ _ => pts_nil) (fun _ _ _ _ _ => pe_has hTb hr3 (pa_cons (pv 0) pa_nil))) pa_nil))) pa_nil))))) fun D σ H h => ?_
  obtain ⟨⟨aN, ns, aP, x1, ps, aL, sg, hb, z1, NL, z2, oL, eL⟩, nx⟩ := h
  have nn := ok.nn
  have a1 := ok.a1
  have b1 := ok.b1
  have a2 := ok.a2
  have b2 := ok.b2
  refine ⟨.ref aN, sg.get (by simp), _, rfl, .ref c.p, sg.get (by simp), .ref c.aS, sg.get (by simp), c.aS, _, _, _, rfl, rfl, hb.siz, atI_nat (j := 1) rfl, c.n + 20, c.p, c.s1, rfl, by omega, by omega, by omega, hb.pot, fun d H1 d0 d1 p1 e1 => ?_⟩
  have hb1 : Hb K c 21 H1 := hb.to ok e1 p1 (by omega)
  have z11 := z1.ext e1
  refine ⟨_, _, rfl, rfl, _, rfl, aN, _, rfl, SqL.of z11.e, fun q nq => ?_⟩
  obtain ⟨k, rfl⟩ : ∃ k : Nat, d = (k : Int) := ⟨d.toNat, by omega⟩
  have hk : k < c.s1 := by omega
  have ec : cutV (ns.map V.str) (some 3) (some (4 + (k : Int))) = ((ns.drop 3).take (1 + k)).map V.str := by
    have := cut_mid (ns.map V.str) (k := 3) (j := 4 + k) (by omega) (by rw [List.length_map, z1.l]; omega)
    rw [show ((4 + k : Nat) : Int) = 4 + (k : Int) by omega, show 4 + k - 3 = 1 + k by omega] at this
    rw [show (3 : Int) = ((3 : Nat) : Int) from rfl, this, List.map_take, List.map_drop]
  rw [ec]
  have s2 := same_new (o := .lst (((ns.drop 3).take (1 + k)).map V.str)) nq
  have oq := hb1.fresh nq
  have lq : ((ns.drop 3).take (1 + k)).length = 1 + k := by rw [List.length_take, List.length_drop, z1.l]; omega
  have eL1 := e1 _ _ oL.2 eL
  have qL : q ≠ aL := Ne.symm (ne_of_none eL1 nq)
  have z21 : Z2 c (fun a => Own c a ∧ a ≠ aL) ns aP x1 ps (upd H1 q (.lst (((ns.drop 3).take (1 + k)).map V.str))) := z2.move (fun _ f => f) fun b o f z => s2 _ _ (e1 _ _ f.1.2 z)
  refine ⟨q, rfl, ⟨_, SqL.of upd_same⟩, ?_⟩
  refine for_list (K := K) (a := q) (xs := ((ns.drop 3).take (1 + k)).map V.str) (fun i σ Hc => Sg 20 (f6 c aN aP aL) σ ∧ Hb K c (21 + 21 * i) Hc ∧ Hc q = some (.lst (((ns.drop 3).take (1 + k)).map V.str)) ∧ Z2 c (fun a => Own c a ∧ a ≠ aL) ns aP x1 ps Hc ∧ ∃ (x2 : List V) (ls : List (Str × List Tab)), Hc aL = some (.lst x2) ∧ x2.length = i ∧ DqAll (fun a => Own c a ∧ a ≠ aL) Hc x2 (ls.map labD) ∧ ls.map (·.1) = ((ns.drop 3).take (1 + k)).take i ∧ ∀ l ∈ ls, 1 ≤ l.2.length ∧ l.2.length ≤ c.s2 ∧ ∀ t ∈ l.2, TabSm t)
    ⟨sg, hb1.same s2, upd_same, z21, [], [], s2 _ _ eL1, rfl, .nil, by rw [List.take_zero]; rfl, fun l hl => by cases hl⟩ (fun i σ Hc _ h => SqL.of h.2.2.1) ?_ ?_
  · rintro i x σ Hc hx ⟨sgc, hbc, eq, z2c, x2, ls, eLc, lx, al, nm, tb⟩
    rw [List.getElem?_map, Option.map_eq_some_iff] at hx
    obtain ⟨nm0, hx, rfl⟩ := hx
    have ilt : i < 1 + k := by rw [← lq]; exact (List.getElem?_eq_some_iff.mp hx).1
    have sg' : Sg 20 ((5, .str nm0) :: f6 c aN aP aL) (σ.set 5 (some (.str nm0))) := Sg.set sgc (by decide) (by simp)
    refine ⟨.ref aL, sg'.get (by simp), .inl ⟨rfl, _, SqL.of eLc⟩, .str nm0, sg'.get (by simp), .ref c.p, sg'.get (by simp), .ref c.aS, sg'.get (by simp), c.aS, _, _, _, rfl, rfl, hbc.siz, atI_nat (j := 2) rfl, c.n + (21 + 21 * i), c.p, c.s2, rfl, by omega, by omega, by omega, hbc.pot, fun d H4 d0 d1 p4 e4 => ?_⟩
    have hb4 : Hb K c (22 + 21 * i) H4 := hbc.to ok e4 p4 (by omega)
    refine ⟨_, _, rfl, rfl, 1 + d, rfl, by omega, by omega, fun L nL => ?_⟩
    have s4 := same_new (o := .lst []) nL
    have oL' := hb4.fresh nL
    refine lc_range (lo := 0) (n := (1 + d).toNat) (fun j Hd => Hb K c (22 + 21 * i + 5 * j) Hd ∧ Ext c.p H4 Hd ∧ ∃ (ts : List Tab) (acc : List V), ts.length = j ∧ acc.length = j ∧ Hd L = some (.lst acc) ∧ DqAll (fun a => H4 a = none ∧ Own c a ∧ a ≠ L) Hd acc (ts.map Tab.d) ∧ ∀ t ∈ ts, TabSm t)
      ⟨hb4.same s4, .of s4, [], [], rfl, rfl, upd_same, .nil, fun t ht => by cases ht⟩ ?_ ?_
    · rintro j Hd hj ⟨hbd, xd, ts, acc, lt, la, eLd, ald, tm⟩
      refine ⟨wipe_one _ _ _, yes_if ?_⟩
      have sg7 : Sg 20 ((5, .str nm0) :: f6 c aN aP aL) ((wipe (σ.set 5 (some (.str nm0))) [7]).set 7 (some (.int (0 + j)))) := Sg.off (Sg.off sg' (by simp)) (by simp)
      refine ⟨.ref c.p, sg7.get (by simp), c.n + (22 + 21 * i + 5 * j), c.p, rfl, hbd.pot, by omega, fun r t H5 nr er tsm p5 x5 => ?_⟩
      have hb5 : Hb K c (22 + 21 * i + 5 * (j + 1)) H5 := hbd.to ok x5 p5 (by omega)
      have or_ := hbd.fresh nr
      have rL : r ≠ L := Ne.symm (ne_of_none eLd nr)
      have eL5 := x5 _ _ oL'.2 eLd
      have nr4 : H4 r = none := by
        cases z : H4 r with
        | none => rfl
        | some o => rw [xd _ _ or_.2 z] at nr; cases nr
      refine ⟨acc, eL5, by rw [sizeLine_eq]; omega, hb5.lst oL' eL5, ?_, ts ++ [t], acc ++ [.ref r], by rw [List.length_append, lt]; rfl, by rw [List.length_append, la]; rfl, upd_same, ?_, ?_⟩
      · intro b o hb z
        have bL : b ≠ L := fun q => by rw [q, nL] at z; cases z
        rw [upd_ne bL]
        exact x5 _ _ hb (xd _ _ hb z)
      · rw [List.map_append]
        refine DqAll.app (ald.move (fun _ f => f) fun b o f z => ?_) (.cons (.tup ⟨nr4, or_, rL⟩ (by rw [upd_ne rL]; exact er) (.cons (.int _) (.cons (.int _) (.cons (.int _) (.cons (.int _) (.cons (.int _) .nil)))))) .nil)
        rw [upd_ne f.2.2]
        exact x5 _ _ f.2.1.2 z
      · intro z hz
        rcases List.mem_append.mp hz with h | h
        · exact tm z h
        · cases List.mem_singleton.mp h
          exact tsm
    · rintro Hd ⟨hbd, xd, ts, acc, lt, la, eLd, ald, tm⟩
      refine ⟨(show 2 ≤ sizeLine by decide), fun r nr => ?_⟩
      have sr := same_new (o := .tup [.str nm0, .ref L]) nr
      have or_ := hbd.fresh nr
      have eL4 := e4 _ _ oL.2 eLc
      have eLd2 := xd _ _ oL.2 eL4
      have rL : r ≠ aL := Ne.symm (ne_of_none eLd2 nr)
      have LL : L ≠ aL := Ne.symm (ne_of_none eL4 nL)
      have qd := xd _ _ oq.2 (e4 _ _ oq.2 eq)
      refine ⟨aL, x2, _, rfl, rfl, sr _ _ eLd2, by rw [sizeLine_eq]; omega, ?_⟩
      refine ⟨sg'.sub (by simp), ((hbd.same sr).lst oL (sr _ _ eLd2)).up (by omega), ?_, ?_, x2 ++ [.ref r], ls ++ [(nm0, ts)], upd_same, by rw [List.length_append, lx]; rfl, ?_, ?_, ?_⟩
      · rw [upd_ne qL]
        exact sr _ _ qd
      · exact z2c.move (fun _ f => f) fun b o f z => by
          rw [upd_ne f.2]
          exact sr _ _ (xd _ _ f.1.2 (e4 _ _ f.1.2 z))
      · rw [List.map_append]
        have aL4 : ∀ a, H4 a = none → a ≠ aL := fun a h z => by rw [z, eL4] at h; cases h
        refine DqAll.app (al.move (fun _ f => f) fun b o f z => ?_) (.cons (.tup ⟨or_, rL⟩ (by rw [upd_ne rL]; exact upd_same) (.cons (.str _) (.cons (.lst ⟨oL', LL⟩ (by rw [upd_ne LL]; exact sr _ _ eLd) (ald.move (fun a f => ⟨f.2.1, aL4 a f.1⟩) fun b o f z => ?_)) .nil))) .nil)
        · rw [upd_ne f.2]
          exact sr _ _ (xd _ _ f.1.2 (e4 _ _ f.1.2 z))
        · rw [upd_ne (aL4 b f.1)]
          exact sr _ _ z
      · rw [List.map_append, nm, List.take_add_one, hx]
        rfl
      · intro y hy
        rcases List.mem_append.mp hy with h | h
        · exact tb y h
        · cases List.mem_singleton.mp h
          exact ⟨by show 1 ≤ ts.length; omega, by show ts.length ≤ c.s2; omega, tm⟩
  · rintro σ Hc ⟨sgc, hbc, eq, z2c, x2, ls, eLc, lx, al, nm, tb⟩
    rw [List.length_map, lq] at hbc nm
    refine nx _ _ ⟨aN, ns, aP, x1, ps, aL, x2, ls, sgc, hbc.up (by omega), z1.ok, z1.l, z2c.move (fun _ f => f.1) (fun _ _ _ z => z), oL, eLc, al.move (fun _ f => f.1) fun _ _ _ z => z, ⟨1 + k, ?_, by omega, by omega⟩, tb⟩
    rw [nm, List.take_of_length_le (by rw [lq]; exact Nat.le_refl _)]
end
end G

set_option Elab.async false
set_option linter.all false
set_option maxRecDepth 100000
set_option maxHeartbeats 4000000
namespace G
open PySem PySem.Spec PyProof.Rows L2 U
open PySem.W (Frag)
theorem merge4' (u1 u2 u3 u4 : V) : mergeK [] [((Sum.inr ("people" : Str) : Key), u1), (.inr "labs", u2), (.inr "results", u3), (.inr "facts", u4)] = [(.inr "people", u1), (.inr "labs", u2), (.inr "results", u3), (.inr "facts", u4)] :=
  mergeK_new (show ([Sum.inr "people", Sum.inr "labs", Sum.inr "results", Sum.inr "facts"] : List Key).Nodup by decide +kernel) (fun x _ z => by cases z)
/-- what is neither the pot's nor one of the two lists that grow -/
abbrev Fd (c : Cf) (aR aF : Addr) (a : Addr) : Prop := Own c a ∧ a ≠ aR ∧ a ≠ aF
/-- a lore in the making -/
structure Lo (c : Cf) (ns : List Str) (aD aP aL aR aF : Addr) (x1 x2 x3 x4 : List V) (pa : Parts) (H : Hp) : Prop where
  z2 : Z2 c (Fd c aR aF) ns aP x1 pa.people H
  z3 : Z3 c (Fd c aR aF) ns aL x2 pa.labs H
  fD : Fd c aR aF aD
  eD : H aD = some (dK4 (.ref aP) (.ref aL) (.ref aR) (.ref aF))
  oR : Own c aR
  oF : Own c aF
  RF : aR ≠ aF
  e3 : H aR = some (.lst x3)
  e4 : H aF = some (.lst x4)
  d3 : DqAll (Fd c aR aF) H x3 (pa.rows.map resD)
  d4 : DqAll (Fd c aR aF) H x4 pa.facts
theorem Lo.ext {c : Cf} {ns : List Str} {aD aP aL aR aF : Addr} {x1 x2 x3 x4 : List V} {pa : Parts} {H H' : Hp} (l : Lo c ns aD aP aL aR aF x1 x2 x3 x4 pa H) (e : Ext c.p H H') : Lo c ns aD aP aL aR aF x1 x2 x3 x4 pa H' :=
  have mv : ∀ b o, Fd c aR aF b → H b = some o → H' b = some o := fun b o f z => e _ _ f.1.2 z
  ⟨l.z2.move (fun _ f => f) mv, l.z3.move (fun _ f => f) mv, l.fD, mv _ _ l.fD l.eD, l.oR, l.oF, l.RF, e _ _ l.oR.2 l.e3, e _ _ l.oF.2 l.e4, l.d3.move (fun _ f => f) mv, l.d4.move (fun _ f => f) mv⟩
/-- .. an own thing that is none of the lore's is changed -/
theorem Lo.off {c : Cf} {ns : List Str} {aD aP aL aR aF : Addr} {x1 x2 x3 x4 : List V} {pa : Parts} {H H' : Hp} {F : Addr → Prop} (l : Lo c ns aD aP aL aR aF x1 x2 x3 x4 pa H) (e : ∀ b o, b ≠ c.p → H b = some o → H' b = some o) : Lo c ns aD aP aL aR aF x1 x2 x3 x4 pa H' := l.ext e
/-- .. as data -/
theorem Lo.lore {c : Cf} {ns : List Str} {aD aP aL aR aF : Addr} {x1 x2 x3 x4 : List V} {pa : Parts} {H : Hp} (l : Lo c ns aD aP aL aR aF x1 x2 x3 x4 pa H) : Dq (Own c) H (.ref aD) (loreD pa) :=
  LoreF.mk' ⟨l.fD.1, l.z2.o.1, l.z3.o.1, l.oR, l.oF, l.eD, l.z2.e, l.z3.e, l.e3, l.e4, l.z2.d.move (fun _ f => f.1) (fun _ _ _ z => z), l.z3.d.move (fun _ f => f.1) (fun _ _ _ z => z), l.d3.move (fun _ f => f.1) (fun _ _ _ z => z), l.d4.move (fun _ f => f.1) (fun _ _ _ z => z)⟩
section
variable {P : Program} {w : World} {K : Frag} {mg : Str → Option Value} {base : Heap} {cdv : Value} {A : Around} {outer : List Env} {s : Shared} {HX : Hp} {E : XK} {c : Cf}
abbrev f9 (c : Cf) (aN aP aL aD : Addr) : List (Nat × V) := (9, .int c.s5) :: (8, .ref aD) :: f6 c aN aP aL
structure B5 (c : Cf) (ns : List Str) : Prop where
  ok : Nms ns
  l : ns.length = 13
def J5 (K : Frag) (c : Cf) : StP := fun σ H => ∃ aN ns aD aP aL aR aF x1 x2 pe lb, Sg 20 (f9 c aN aP aL aD) σ ∧ Hb K c 150 H ∧ B5 c ns ∧ Lo c ns aD aP aL aR aF x1 x2 [] [] ⟨pe, lb, [], []⟩ H
theorem ch4 (hr : RmC K cdv A s) (ok : c.Ok) : PS (cxC P w K mg base cdv A outer s HX E) (cSt 4) (tTo (J4 K c) (J5 K c)) := by
  refine ps_up (ps_asg (pe_tup (pa_cons (pe_disp (pps_cons pe_str (pv 4) (pps_cons pe_str (pv 6) (pps_cons pe_str (pe_lst pa_nil) (pps_cons pe_str (pe_lst pa_nil) pps_nil)))) rfl rfl (by simp) (by decide)) (pa_cons (pe_ix (ix_tupK (K := K) rfl) (pv 1) pe_int (fun _ _ => rfl)) pa_nil))) (pg_tup rfl (pgs_cons (pg_name (i := 8) sc_Lchart.nd rfl (Or.inl rfl)) (pgs_cons (pg_name (i := 9) sc_Lchart.nd rfl (Or.inr rfl)) pgs_nil)))) fun D σ H h => ?_
  obtain ⟨⟨aN, ns, aP, x1, ps, aL, x2, ls, sg, hb, nms, ln, z2, z3⟩, nx⟩ := h
  intro pd npd
  have u0 := same_new (o := .dK []) npd
  refine ⟨.ref aP, sg.get (by simp), .ref aL, sg.get (by simp), (show 0 ≤ sizeLine by decide), fun aR m1 => ?_⟩
  have u1 := same_new (o := .lst []) m1
  refine ⟨(show 0 ≤ sizeLine by decide), fun aF m2 => ?_⟩
  have u2 := same_new (o := .lst []) m2
  have eP0 := u2 _ _ (u1 _ _ (upd_same (H := H) (a := pd) (o := .dK [])))
  refine ⟨eP0, [(.inr "people", .ref aP), (.inr "labs", .ref aL), (.inr "results", .ref aR), (.inr "facts", .ref aF)], rfl, (show 4 ≤ 15 by decide), ?_⟩
  rw [merge4']
  have hb0 := hb.same u0
  have hb1 := hb0.same u1
  have hb2 := hb1.same u2
  have oD := hb.fresh npd
  have oR := hb0.fresh m1
  have oF := hb1.fresh m2
  have RF : aR ≠ aF := ne_of_none (upd_same (H := upd H pd (.dK [])) (a := aR) (o := .lst [])) m2
  have DR : pd ≠ aR := ne_of_none (upd_same (H := H) (a := pd) (o := .dK [])) m1
  have DF : pd ≠ aF := ne_of_none (u1 _ _ (upd_same (H := H) (a := pd) (o := .dK []))) m2
  have nR : ∀ a, H a ≠ none → a ≠ aR ∧ a ≠ aF ∧ a ≠ pd := fun a h => by
    cases e : H a with
    | none => exact absurd e h
    | some o => exact ⟨ne_of_none (u0 _ _ e) m1, ne_of_none (u1 _ _ (u0 _ _ e)) m2, ne_of_none e npd⟩
  have eR := u2 _ _ (upd_same (H := upd H pd (.dK [])) (a := aR) (o := .lst []))
  have eF := upd_same (H := upd (upd H pd (.dK [])) aR (.lst [])) (a := aF) (o := .lst [])
  have hb3 : Hb K c 150 (upd (upd (upd (upd H pd (.dK [])) aR (.lst [])) aF (.lst [])) pd (dK4 (.ref aP) (.ref aL) (.ref aR) (.ref aF))) := hb2.own oD eP0 (fun _ z => by cases z) (fun _ _ z => by cases z)
  have mv : ∀ b o, (Own c b ∧ H b ≠ none) → H b = some o → upd (upd (upd (upd H pd (.dK [])) aR (.lst [])) aF (.lst [])) pd (dK4 (.ref aP) (.ref aL) (.ref aR) (.ref aF)) b = some o := fun b o f z => by
    rw [upd_ne (nR b f.2).2.2]
    exact u2 _ _ (u1 _ _ (u0 _ _ z))
  refine ⟨.ref c.aS, sg.get (by simp), c.aS, _, _, _, rfl, rfl, hb3.siz, atI_nat (j := 5) rfl, (show 2 ≤ sizeLine by decide), fun t nt => ?_⟩
  have st := same_new (o := .tup [.ref pd, .int c.s5]) nt
  refine ⟨t, _, rfl, SqT.of upd_same, rfl, _, _, rfl, _, _, rfl, rfl, ?_⟩
  refine nx _ _ ⟨aN, ns, pd, aP, aL, aR, aF, x1, x2, ps, ls, (sg.set (by decide) (by simp)).set (by decide) (by simp), hb3.same st, ⟨nms, ln⟩, ?_⟩
  refine Lo.ext ?_ (.of st)
  exact ⟨z2.here.move (fun a f => ⟨f.1, (nR a f.2).1, (nR a f.2).2.1⟩) mv, z3.here.move (fun a f => ⟨f.1, (nR a f.2).1, (nR a f.2).2.1⟩) mv, ⟨oD, DR, DF⟩, upd_same, oR, oF, RF, by rw [upd_ne (Ne.symm DR)]; exact eR, by rw [upd_ne (Ne.symm DF)]; exact eF, .nil, .nil⟩
end
end G

set_option Elab.async false
set_option linter.all false
set_option maxRecDepth 100000
set_option maxHeartbeats 4000000
namespace G
open PySem PySem.Spec PyProof.Rows L2 U
open PySem.W (Frag)
theorem paired_snoc {α β : Type} {R : α → β → Prop} {a : α} {b : β} (h : R a b) : ∀ {ts : List α} {xs : List β}, Paired R ts xs → Paired R (ts ++ [a]) (xs ++ [b])
  | _, _, .nil => .cons h .nil
  | _, _, .cons x t => .cons x (paired_snoc h t)
/-- the hidden worths -/
structure Wo (c : Cf) (F : Addr → Prop) (nm : List Str) (aW : Addr) (kW : List (Key × V)) (H : Hp) : Prop where
  o : F aW
  e : H aW = some (.dK kW)
  wor : ∀ x ∈ nm, ∃ (b : Addr) (ys : List Int), valV kW (Sum.inr x) = some (.ref b) ∧ F b ∧ H b = some (.lst (ys.map V.int)) ∧ ys.length = c.s5 ∧ ∀ y ∈ ys, -10000 ≤ y ∧ y ≤ 10000
theorem Wo.move {c : Cf} {F F' : Addr → Prop} {nm : List Str} {aW : Addr} {kW : List (Key × V)} {H H' : Hp} (z : Wo c F nm aW kW H) (f : ∀ a, F a → F' a) (e : ∀ b o, F b → H b = some o → H' b = some o) : Wo c F' nm aW kW H' :=
  ⟨f _ z.o, e _ _ z.o z.e, fun x hx => by
    obtain ⟨b, ys, h1, h2, h3, h4⟩ := z.wor x hx
    exact ⟨b, ys, h1, f _ h2, e _ _ h2 h3, h4⟩⟩
theorem Z2.per {c : Cf} {F : Addr → Prop} {ns : List Str} {aP : Addr} {x1 : List V} {ps : List (Str × Int × Int)} {H : Hp} (z : Z2 c F ns aP x1 ps H) (nd : Nms ns) : (ps.map (·.1)).Nodup := by
  obtain ⟨k, e, _⟩ := z.nm
  rw [e]
  exact (nd.take k).nd
theorem Z2.len {c : Cf} {F : Addr → Prop} {ns : List Str} {aP : Addr} {x1 : List V} {ps : List (Str × Int × Int)} {H : Hp} (z : Z2 c F ns aP x1 ps H) (l : ns.length = 13) (ok : c.Ok) : 1 ≤ ps.length ∧ ps.length ≤ c.s0 := by
  obtain ⟨k, e, h1, h2⟩ := z.nm
  have := congrArg List.length e
  rw [List.length_map, List.length_take, l] at this
  have := ok.b0
  omega
theorem Z3.len {c : Cf} {F : Addr → Prop} {ns : List Str} {aL : Addr} {x2 : List V} {ls : List (Str × List Tab)} {H : Hp} (z : Z3 c F ns aL x2 ls H) (l : ns.length = 13) (ok : c.Ok) : 1 ≤ ls.length ∧ ls.length ≤ c.s1 := by
  obtain ⟨k, e, h1, h2⟩ := z.nm
  have := congrArg List.length e
  rw [List.length_map, List.length_take, List.length_drop, l] at this
  have := ok.b1
  omega
section
variable {P : Program} {w : World} {K : Frag} {mg : Str → Option Value} {base : Heap} {cdv : Value} {A : Around} {outer : List Env} {s : Shared} {HX : Hp} {E : XK} {c : Cf}
abbrev f10 (c : Cf) (aN aP aL aD aW : Addr) : List (Nat × V) := (10, .ref aW) :: f9 c aN aP aL aD
def J6 (K : Frag) (c : Cf) : StP := fun σ H => ∃ aN ns aD aP aL aR aF x1 x2 pe lb aW kW, Sg 20 (f10 c aN aP aL aD aW) σ ∧ Hb K c 450 H ∧ B5 c ns ∧ Lo c ns aD aP aL aR aF x1 x2 [] [] ⟨pe, lb, [], []⟩ H ∧ Wo c (Fd c aR aF) (pe.map (·.1)) aW kW H
theorem ch5 (hr : RmC K cdv A s) (ok : c.Ok) (hH : Has P w K mg base 2 "_law_hidden" P_Lhidden [] sp_Lhidden) (gD : mg "dict" = none) : PS (cxC P w K mg base cdv A outer s HX E) (cSt 5) (tTo (J5 K c) (J6 K c)) := by
  have hr2 := hr.mono (show 2 ≤ 4 by omega)
  refine ps_up (ps_set (i := 10) sc_Lchart.nd rfl (Or.inl rfl) (pe_callTy (call_dictP (X := cxC P w K mg base cdv A outer s HX E) rfl) (by rfl) gD (by decide +kernel) (pa_cons (pe_lc (own := [("_law_person", 11)]) (g := gName 11) (tt := tYes) (te := tTup (tCons (tOp (rIxT K) (tVar 11) (tC (.int 0))) (tCons (tCall sp_Lhidden [] E0 (tCons (tVar 0) (tCons (tVar 9) (tCons (tVar 11) tNil)))) tNil))) rfl sc_Lchart.nd (pi_list (pv 4)) (blkOk_by (N := N_Lchart) (sc := defScope s_Lchart) (by decide +kernel))
    (fun _ _ _ _ _ => pg_name (i := 11) sc_Lchart.nd rfl (Or.inl rfl)) (fun _ _ _ _ _ => pts_nil) (fun _ _ _ _ _ => pe_tup (pa_cons (pe_ix (ix_tupK (K := K) rfl) (pv 11) pe_int (fun _ _ => rfl)) (pa_cons (pe_has hH hr2 (pa_cons (pv 0) (pa_cons (pv 9) (pa_cons (pv 11) pa_nil)))) pa_nil)))) pa_nil))) fun D σ H h => ?_
  obtain ⟨⟨aN, ns, aD, aP, aL, aR, aF, x1, x2, pe, lb, sg, hb, b5, lo⟩, nx⟩ := h
  have nn := ok.nn
  have a5 := ok.a5
  have b5' := ok.b5
  have b0 := ok.b0
  have lpe : 1 ≤ pe.length ∧ pe.length ≤ c.s0 := lo.z2.len b5.l ok
  have lx1 : x1.length = pe.length := by rw [lo.z2.d.len, List.length_map]
  refine ⟨.ref aP, sg.get (by simp), aP, rfl, ⟨_, SqL.of lo.z2.e⟩, fun L nL => ?_⟩
  have s0 := same_new (o := .lst []) nL
  have oL := hb.fresh nL
  have out : ∀ {a : Addr} {o : HO}, H a = some o → a ≠ L := fun e => ne_of_none e nL
  have loL : ∀ a, Fd c aR aF a → True := fun _ _ => trivial
  have z2L := lo.z2.here
  refine lc_list (K := K) (a := aP) (xs := x1) (fun i Hc => Hb K c (150 + c.s5 * i) Hc ∧ Ext c.p H Hc ∧ ∃ (ts : List Addr) (kvs : List (Key × V)), Hc L = some (.lst (ts.map V.ref)) ∧ ts.length = i ∧ kvs.map (·.1) = ((pe.map (·.1)).take i).map Sum.inr ∧ Paired (fun (t : Addr) (kv : Key × V) => Hc t = some (.tup [kV kv.1, kv.2]) ∧ t ≠ L ∧ t ≠ c.p) ts kvs ∧
      ∀ kv ∈ kvs, ∃ (b : Addr) (ys : List Int), kv.2 = .ref b ∧ Fd c aR aF b ∧ b ≠ L ∧ Hc b = some (.lst (ys.map V.int)) ∧ ys.length = c.s5 ∧ ∀ y ∈ ys, -10000 ≤ y ∧ y ≤ 10000)
    ⟨hb.same s0, .of s0, [], [], upd_same, rfl, rfl, .nil, fun kv h => by cases h⟩ (fun i Hc _ h => SqL.of (h.2.1 _ _ lo.z2.o.1.2 lo.z2.e)) ?_ ?_
  · rintro i x Hc hx ⟨hbc, xc, ts, kvs, eL, lt, hk, pr, wk⟩
    obtain ⟨pn, b, hpn, rfl, fb, eb⟩ := per_at lo.z2.d hx
    have ilt : i < pe.length := (List.getElem?_eq_some_iff.mp hpn).1
    have rt := lo.z2.rt pn (List.mem_of_getElem? hpn)
    have sg' : Sg 20 ((11, .ref b) :: f9 c aN aP aL aD) ((wipe σ [11]).set 11 (some (.ref b))) := Sg.set (Sg.off sg (by simp)) (by decide) (by simp)
    have ebc := xc _ _ fb.1.2 eb
    have mle : c.s5 * i + c.s5 ≤ 300 := by
      have h1 : c.s5 * (i + 1) ≤ c.s5 * 3 := Nat.mul_le_mul_left _ (by omega)
      rw [Nat.mul_add] at h1
      omega
    refine ⟨wipe_one _ _ _, yes_if ?_⟩
    refine ⟨.ref b, sg'.get (by simp), b, _, _, _, rfl, rfl, SqT.of ebc, atI_nat (j := 0) rfl, .ref c.p, sg'.get (by simp), .int c.s5, sg'.get (by simp), .ref b, sg'.get (by simp), c.n + (150 + c.s5 * i), c.s5, c.p, b, pn, rfl, hbc.pot, by omega, by omega, by omega, ebc, rt.1, rt.2.1, rt.2.2.1, rt.2.2.2, fun q ys H4 nq eq ly by_ p4 x4 => ?_⟩
    have hb4 : Hb K c (150 + c.s5 * (i + 1)) H4 := hbc.to ok x4 p4 (by rw [Nat.mul_add]; omega)
    have oq := hbc.fresh nq
    have qL : q ≠ L := Ne.symm (ne_of_none eL nq)
    have qR : q ≠ aR := Ne.symm (ne_of_none (xc _ _ lo.oR.2 lo.e3) nq)
    have qF : q ≠ aF := Ne.symm (ne_of_none (xc _ _ lo.oF.2 lo.e4) nq)
    refine ⟨(show 2 ≤ sizeLine by decide), fun r nr => ?_⟩
    have sr := same_new (o := .tup [.str pn.1, .ref q]) nr
    have or_ := hb4.fresh nr
    have eL4 := x4 _ _ oL.2 eL
    have rL : r ≠ L := Ne.symm (ne_of_none eL4 nr)
    refine ⟨_, sr _ _ eL4, by rw [sizeLine_eq, List.length_map]; omega, (hb4.same sr).lst oL (sr _ _ eL4), ?_, ts ++ [r], kvs ++ [(.inr pn.1, .ref q)], ?_, by rw [List.length_append, lt]; rfl, ?_, ?_, ?_⟩
    · intro b o hb z
      rw [upd_ne (out z)]
      exact sr _ _ (x4 _ _ hb (xc _ _ hb z))
    · rw [upd_same, List.map_append]
      rfl
    · rw [List.map_append, hk, List.take_add_one, List.getElem?_map, hpn, List.map_append]
      rfl
    · refine paired_snoc ⟨by rw [upd_ne rL]; exact upd_same, rL, or_.2⟩ (paired_imp (fun t kv h => ⟨?_, h.2⟩) pr)
      rw [upd_ne h.2.1]
      exact sr _ _ (x4 _ _ h.2.2 h.1)
    · intro kv hkv
      rcases List.mem_append.mp hkv with h | h
      · obtain ⟨b, zs, h1, h2, h3, h4, h5⟩ := wk kv h
        exact ⟨b, zs, h1, h2, h3, by rw [upd_ne h3]; exact sr _ _ (x4 _ _ h2.1.2 h4), h5⟩
      · cases List.mem_singleton.mp h
        exact ⟨q, ys, rfl, ⟨oq, qR, qF⟩, qL, by rw [upd_ne qL]; exact sr _ _ eq, ly, by_⟩
  · rintro H3 ⟨hbc, xc, ts, kvs, eL, lt, hk, pr, wk⟩
    have kd : (kvs.map (·.1)).Nodup := by
      rw [hk, List.take_of_length_le (by rw [List.length_map, lx1]; exact Nat.le_refl _)]
      exact List.Pairwise.map _ (fun a b h z => h (Sum.inr.inj z)) (lo.z2.per b5.ok)
    refine ⟨L, ts, kvs, rfl, SqL.of eL, paired_imp (fun t kv h => SqT.of h.1) pr, fun r nr => ?_⟩
    rw [mergeK_new kd (fun x _ z => by cases z), List.nil_append]
    have sr := same_new (o := .dK kvs) nr
    have or_ := hbc.fresh nr
    have rR : r ≠ aR := Ne.symm (ne_of_none (xc _ _ lo.oR.2 lo.e3) nr)
    have rF : r ≠ aF := Ne.symm (ne_of_none (xc _ _ lo.oF.2 lo.e4) nr)
    have mle : c.s5 * x1.length ≤ 300 := Nat.le_trans (Nat.mul_le_mul b5' (show x1.length ≤ 3 by omega)) (by omega)
    refine nx _ _ ⟨aN, ns, aD, aP, aL, aR, aF, x1, x2, pe, lb, r, kvs, sg.set (by decide) (by simp), (hbc.same sr).up (by omega), b5, lo.ext (xc.trans (.of sr)), ⟨or_, rR, rF⟩, upd_same, fun x hx => ?_⟩
    obtain ⟨i, hi⟩ := List.mem_iff_getElem?.mp hx
    have hki : (kvs.map (·.1))[i]? = some (Sum.inr x) := by
      rw [hk, List.take_of_length_le (by rw [List.length_map, lx1]; exact Nat.le_refl _), List.getElem?_map, hi]
      rfl
    rw [List.getElem?_map, Option.map_eq_some_iff] at hki
    obtain ⟨kv, h1, h2⟩ := hki
    obtain ⟨b, ys, w1, w2, w3, w4, w5⟩ := wk kv (List.mem_of_getElem? h1)
    refine ⟨b, ys, valV_at kd (i := i) ?_, w2, sr _ _ w4, w5⟩
    rw [h1, ← h2, ← w1]
end
end G

set_option Elab.async false
set_option linter.all false
set_option maxRecDepth 100000
set_option maxHeartbeats 4000000
namespace G
open PySem PySem.Spec PyProof.Rows L2 U
open PySem.W (Frag)
theorem put_len {κ : Type} [DecidableEq κ] (kvs : List (κ × V)) (k : κ) (v : V) : (putK kvs k v).length ≤ kvs.length + 1 := by
  unfold putK
  split
  · rw [List.length_map]
    omega
  · rw [List.length_append]
    exact Nat.le_refl _
theorem Z3.nd {c : Cf} {F : Addr → Prop} {ns : List Str} {aL : Addr} {x2 : List V} {ls : List (Str × List Tab)} {H : Hp} (z : Z3 c F ns aL x2 ls H) (nd : Nms ns) : (ls.map (·.1)).Nodup := by
  obtain ⟨k, e, _⟩ := z.nm
  rw [e]
  exact ((nd.drop 3).take k).nd
/-- the hidden tables -/
structure Tbs (c : Cf) (F : Addr → Prop) (ls : List (Str × List Tab)) (aT : Addr) (kT : List (List Key × V)) (H : Hp) : Prop where
  o : F aT
  e : H aT = some (.dT kT)
  tab : ∀ l ∈ ls, ∀ d : Int, 0 ≤ d → d < c.s5 → ∃ y : Int, valV kT [Sum.inr l.1, Sum.inl d] = some (.int y) ∧ 0 ≤ y ∧ y < l.2.length
theorem Tbs.move {c : Cf} {F F' : Addr → Prop} {ls : List (Str × List Tab)} {aT : Addr} {kT : List (List Key × V)} {H H' : Hp} (z : Tbs c F ls aT kT H) (f : ∀ a, F a → F' a) (e : ∀ b o, F b → H b = some o → H' b = some o) : Tbs c F' ls aT kT H' := ⟨f _ z.o, e _ _ z.o z.e, z.tab⟩
section
variable {P : Program} {w : World} {K : Frag} {mg : Str → Option Value} {base : Heap} {cdv : Value} {A : Around} {outer : List Env} {s : Shared} {HX : Hp} {E : XK} {c : Cf}
abbrev f12 (c : Cf) (aN aP aL aD aW aT : Addr) : List (Nat × V) := (12, .ref aT) :: f10 c aN aP aL aD aW
def J7 (K : Frag) (c : Cf) : StP := fun σ H => ∃ aN ns aD aP aL aR aF x1 x2 pe lb aW kW aT Hin, Sg 20 (f12 c aN aP aL aD aW aT) σ ∧ Hb K c 450 H ∧ B5 c ns ∧ Lo c ns aD aP aL aR aF x1 x2 [] [] ⟨pe, lb, [], []⟩ Hin ∧ Wo c (Fd c aR aF) (pe.map (·.1)) aW kW Hin ∧ Hin aT = none ∧ Own c aT ∧ Ext c.p Hin H ∧ H aT = some (.dT [])
theorem ch6 (hr : RmC K cdv A s) (ok : c.Ok) : PS (cxC P w K mg base cdv A outer s HX E) (cSt 6) (tTo (J6 K c) (J7 K c)) := by
  refine ps_up (ps_set (i := 12) sc_Lchart.nd rfl (Or.inl rfl) pe_dnewT) fun D σ H h => ?_
  obtain ⟨⟨aN, ns, aD, aP, aL, aR, aF, x1, x2, pe, lb, aW, kW, sg, hb, b5, lo, wo⟩, nx⟩ := h
  intro aT nT
  have s1 := same_new (o := .dT []) nT
  exact nx _ _ ⟨aN, ns, aD, aP, aL, aR, aF, x1, x2, pe, lb, aW, kW, aT, H, sg.set (by decide) (by simp), hb.same s1, b5, lo, wo, nT, hb.fresh nT, .of s1, upd_same⟩
def J8 (K : Frag) (c : Cf) : StP := fun σ H => ∃ aN ns aD aP aL aR aF x1 x2 pe lb aW kW aT kT, Sg 20 (f12 c aN aP aL aD aW aT) σ ∧ Hb K c 1050 H ∧ B5 c ns ∧ Lo c ns aD aP aL aR aF x1 x2 [] [] ⟨pe, lb, [], []⟩ H ∧ Wo c (Fd c aR aF) (pe.map (·.1)) aW kW H ∧ Tbs c (Fd c aR aF) lb aT kT H
theorem ch7 (hr : RmC K cdv A s) (ok : c.Ok) (hT : Has P w K mg base 1 "_law_take" P_Ltake [] tkS) (gR : mg "range" = none) (gM : mg "min" = none) (gL : mg "len" = none) (gI : mg "int" = none) : PS (cxC P w K mg base cdv A outer s HX E) (cSt 7) (tTo (J7 K c) (J8 K c)) := by
  have hr1 := hr.mono (show 1 ≤ 4 by omega)
  refine ps_up (ps_for PassesOwn.never rfl (pi_list (pv 6)) (pg_tup rfl (pgs_cons (pg_name (i := 13) sc_Lchart.nd rfl (Or.inl rfl)) (pgs_cons (pg_name (i := 14) sc_Lchart.nd rfl (Or.inl rfl)) pgs_nil)))
    (pss_cons (ps_set (i := 15) sc_Lchart.nd rfl (Or.inl rfl) pe_int) (pss_one (ps_for PassesOwn.never rfl (pi_range1 (by rfl) gR (pa_cons (pv 9) pa_nil)) (pg_name (i := 16) sc_Lchart.nd rfl (Or.inl rfl))
      (pss_cons (ps_set (i := 15) sc_Lchart.nd rfl (Or.inl rfl) (pe_callB (call_min2 rfl) (by rfl) gM (by decide +kernel) (pa_cons (pe_op op_sub (pe_callB (call_len_seq (X := cxC P w K mg base cdv A outer s HX E)) (by rfl) gL PySem.boot_len (pa_cons (pv 14) pa_nil)) pe_int) (pa_cons (pe_op op_add (pv 15) (pe_callTy call_int1 (by rfl) gI PyProof.Rows.boot_int (pa_cons (pe_cmpR op_eq (pe_has hT hr1 (pa_cons (pv 0) (pa_cons pe_int pa_nil))) pe_int (nomark _)) pa_nil))) pa_nil))))
        (pss_one (ps_asg (pv 15) (pg_sub (pv 12) (pe_tup (pa_cons (pv 13) (pa_cons (pv 16) pa_nil))) (set_dict (hu_of hr1)))))))))) fun D σ H h => ?_
  obtain ⟨⟨aN, ns, aD, aP, aL, aR, aF, x1, x2, pe, lb, aW, kW, aT, Hin, sg, hb, b5, lo, wo, nT, oT, xi, eT⟩, nx⟩ := h
  have nn := ok.nn
  have a5 := ok.a5
  have b5' := ok.b5
  have b1 := ok.b1
  have llb : 1 ≤ lb.length ∧ lb.length ≤ c.s1 := lo.z3.len b5.l ok
  have lx2 : x2.length = lb.length := by rw [lo.z3.d.len, List.length_map]
  have TR : aT ≠ aR := Ne.symm (ne_of_none lo.e3 nT)
  have TF : aT ≠ aF := Ne.symm (ne_of_none lo.e4 nT)
  have nd := lo.z3.nd b5.ok
  refine ⟨.ref aL, sg.get (by simp), aL, rfl, ⟨_, SqL.of (xi _ _ lo.z3.o.1.2 lo.z3.e)⟩, ?_⟩
  refine for_list (K := K) (a := aL) (xs := x2) (fun i σ Hc => Sg 20 (f12 c aN aP aL aD aW aT) σ ∧ Hb K c (450 + 100 * i) Hc ∧ Ext c.p Hin Hc ∧ ∃ kT : List (List Key × V), Hc aT = some (.dT kT) ∧ kT.length ≤ 100 * i ∧ ∀ (j : Nat) (l : Str × List Tab), j < i → lb[j]? = some l → ∀ d : Int, 0 ≤ d → d < c.s5 → ∃ y : Int, valV kT [Sum.inr l.1, Sum.inl d] = some (.int y) ∧ 0 ≤ y ∧ y < l.2.length)
    ⟨sg, hb, xi, [], eT, Nat.le_refl _, fun j l hj => absurd hj (Nat.not_lt_zero j)⟩ (fun i σ Hc _ h => SqL.of (h.2.2.1 _ _ lo.z3.o.1.2 lo.z3.e)) ?_ ?_
  · rintro i x σ Hc hx ⟨sgc, hbc, xc, kT, eTc, lk, tab⟩
    obtain ⟨l, b, u, hl, rfl, fb, eb, du⟩ := lab_at lo.z3.d hx
    have ilt : i < lb.length := (List.getElem?_eq_some_iff.mp hl).1
    have tbl := lo.z3.tb l (List.mem_of_getElem? hl)
    cases du with
    | @lst b2 zs _ fb2 eb2 alz =>
    have lz : zs.length = l.2.length := by rw [alz.len, List.length_map]
    refine ⟨b, _, rfl, SqT.of (xc _ _ fb.1.2 eb), rfl, _, _, rfl, _, _, rfl, rfl, ?_⟩
    have sg2 : Sg 20 ((15, .int 0) :: (14, .ref b2) :: (13, .str l.1) :: f12 c aN aP aL aD aW aT) (((σ.set 13 (some (.str l.1))).set 14 (some (.ref b2))).set 15 (some (.int 0))) := Sg.set (Sg.set (Sg.set sgc (by decide) (by simp)) (by decide) (by simp)) (by decide) (by simp)
    refine ⟨.int c.s5, sg2.get (by simp), c.s5, rfl, by omega, by omega, ?_⟩
    rw [show ((c.s5 : Nat) : Int).toNat = c.s5 by omega]
    refine for_range (lo := 0) (n := c.s5) (fun e σ Hd => ∃ sp : Int, Sg 20 ((15, .int sp) :: (14, .ref b2) :: (13, .str l.1) :: f12 c aN aP aL aD aW aT) σ ∧ 0 ≤ sp ∧ sp < l.2.length ∧ Hb K c (450 + 100 * i + e) Hd ∧ Ext c.p Hin Hd ∧ ∃ kT : List (List Key × V), Hd aT = some (.dT kT) ∧ kT.length ≤ 100 * i + e ∧ ∀ (j : Nat) (l' : Str × List Tab) (d : Int), lb[j]? = some l' → 0 ≤ d → d < c.s5 → (j < i ∨ (j = i ∧ d < e)) → ∃ y : Int, valV kT [Sum.inr l'.1, Sum.inl d] = some (.int y) ∧ 0 ≤ y ∧ y < l'.2.length)
      ⟨0, sg2, Int.le_refl _, by omega, hbc, xc, kT, eTc, by omega, fun j l' d hl' d0 d1 h => ?_⟩ ?_ ?_
    · rcases h with h | ⟨_, h⟩
      · exact tab j l' h hl' d d0 d1
      · exact absurd h (by omega)
    · rintro e σ' Hd he ⟨sp, sgd, sp0, sp1, hbd, xd, kT', eTd, lk', tab'⟩
      have sg3 : Sg 20 ((16, .int (0 + (e : Int))) :: (15, .int sp) :: (14, .ref b2) :: (13, .str l.1) :: f12 c aN aP aL aD aW aT) (σ'.set 16 (some (.int (0 + (e : Int))))) := Sg.set sgd (by decide) (by simp)
      refine ⟨.ref b2, sg3.get (by simp), b2, zs, rfl, .inl (SqL.of (xd _ _ fb2.1.2 eb2)), _, _, rfl, rfl, .int sp, sg3.get (by simp), .ref c.p, sg3.get (by simp), c.n + (450 + 100 * i + e), c.p, 4, rfl, by decide, by decide, by omega, hbd.pot, fun d H4 d0 d1 p4 x4 => ?_⟩
      have hb4 : Hb K c (450 + 100 * i + (e + 1)) H4 := hbd.to ok x4 p4 (by omega)
      refine ⟨rfl, .inr ⟨_, rfl, _, _, rfl, rfl, _, _, rfl, ?_⟩⟩
      obtain ⟨sp', esp, s0', s1'⟩ : ∃ sp' : Int, (if sp + (if decide (V.int d = V.int 0) = true then (1 : Int) else 0) < (zs.length : Int) - 1 then sp + (if decide (V.int d = V.int 0) = true then (1 : Int) else 0) else (zs.length : Int) - 1) = sp' ∧ 0 ≤ sp' ∧ sp' < l.2.length := by
        refine ⟨_, rfl, ?_⟩
        have t1 := tbl.1
        have hbit : (0 : Int) ≤ (if decide (V.int d = V.int 0) = true then (1 : Int) else 0) := by split <;> omega
        split <;> omega
      rw [esp]
      have sg4 : Sg 20 ((15, .int sp') :: (16, .int (0 + (e : Int))) :: (14, .ref b2) :: (13, .str l.1) :: f12 c aN aP aL aD aW aT) ((σ'.set 16 (some (.int (0 + (e : Int))))).set 15 (some (.int sp'))) := Sg.set (sg3.sub (by simp)) (by decide) (by simp)
      refine ⟨.int sp', sg4.get (by simp), .ref aT, sg4.get (by simp), .str l.1, sg4.get (by simp), .int (0 + (e : Int)), sg4.get (by simp), (show 2 ≤ sizeLine by decide), fun r nr => ?_⟩
      have sr := same_new (o := .tup [.str l.1, .int (0 + (e : Int))]) nr
      have eT4 := x4 _ _ oT.2 eTd
      refine ⟨aT, _, rfl, DPut.t (b := r) (k := [Sum.inr l.1, Sum.inl (0 + (e : Int))]) (v := .int sp') (sr _ _ eT4) upd_same (by rw [sizeLine_eq]; omega), ?_⟩
      refine ⟨sp', sg4.sub (by simp), s0', s1', (hb4.same sr).own oT (sr _ _ eT4) (fun _ z => by cases z) (fun _ _ z => by cases z), ?_, putK kT' [Sum.inr l.1, Sum.inl (0 + (e : Int))] (.int sp'), upd_same, ?_, ?_⟩
      · intro b o hb z
        have bT : b ≠ aT := fun q => by rw [q, nT] at z; cases z
        rw [upd_ne bT]
        exact sr _ _ (x4 _ _ hb (xd _ _ hb z))
      · have := length_putK kT' [Sum.inr l.1, Sum.inl (0 + (e : Int))] (.int sp')
        omega
      · intro j l' d' hl' d0' d1' h
        rw [valV_put]
        by_cases q : ([Sum.inr l'.1, Sum.inl d'] : List Key) = [Sum.inr l.1, Sum.inl (0 + (e : Int))]
        · rw [if_pos q]
          injection q with q1 q2
          have e1 : l' = l := key_one nd (List.mem_of_getElem? hl') (List.mem_of_getElem? hl) (Sum.inr.inj q1)
          rw [e1]
          exact ⟨sp', rfl, s0', s1'⟩
        · rw [if_neg q]
          refine tab' j l' d' hl' d0' d1' ?_
          rcases h with h | ⟨h1, h2⟩
          · exact .inl h
          · refine .inr ⟨h1, ?_⟩
            subst h1
            rw [hl] at hl'
            cases hl'
            have : d' ≠ e := fun z => q (by rw [z, Int.zero_add])
            omega
    · rintro σ' Hd ⟨sp, sgd, sp0, sp1, hbd, xd, kT', eTd, lk', tab'⟩
      refine ⟨sgd.sub (by simp), hbd.up (by omega), xd, kT', eTd, by omega, fun j l' hj hl' d d0 d1 => tab' j l' d hl' d0 d1 ?_⟩
      omega
  · rintro σ Hc ⟨sgc, hbc, xc, kT, eTc, lk, tab⟩
    rw [lx2] at hbc tab
    refine nx _ _ ⟨aN, ns, aD, aP, aL, aR, aF, x1, x2, pe, lb, aW, kW, aT, kT, sgc, hbc.up (by omega), b5, lo.ext xc, wo.move (fun _ f => f) (fun b o f z => xc _ _ f.1.2 z), ⟨oT, TR, TF⟩, eTc, fun l hl d d0 d1 => ?_⟩
    obtain ⟨j, hj⟩ := List.mem_iff_getElem?.mp hl
    exact tab j l (List.getElem?_eq_some_iff.mp hj).1 hj d d0 d1
end
end G

set_option Elab.async false
set_option linter.all false
set_option maxRecDepth 100000
set_option maxHeartbeats 4000000
namespace G
open PySem PySem.Spec PyProof.Rows L2 U
open PySem.W (Frag)
/-- where the things of a drawn chart lie -/
structure En where
  aN : Addr
  aD : Addr
  aP : Addr
  aL : Addr
  aR : Addr
  aF : Addr
  aW : Addr
  aT : Addr
  aG : Addr
  ns : List Str
  gs : List Str
  x1 : List V
  x2 : List V
  pe : List (Str × Int × Int)
  lb : List (Str × List Tab)
  kW : List (Key × V)
  kT : List (List Key × V)
structure Es (K : Frag) (c : Cf) (e : En) (k : Nat) (x3 x4 : List V) (rows : Rows) (facts : List PyData) (H : Hp) : Prop where
  hb : Hb K c k H
  b5 : B5 c e.ns
  lo : Lo c e.ns e.aD e.aP e.aL e.aR e.aF e.x1 e.x2 x3 x4 ⟨e.pe, e.lb, rows, facts⟩ H
  wo : Wo c (Fd c e.aR e.aF) (e.pe.map (·.1)) e.aW e.kW H
  tb : Tbs c (Fd c e.aR e.aF) e.lb e.aT e.kT H
  fG : Fd c e.aR e.aF e.aG
  eG : H e.aG = some (.lst (e.gs.map V.str))
  lG : e.gs.length = c.s3
  nG : Nms e.gs
theorem Es.to {K : Frag} {c : Cf} {e : En} {k m : Nat} {x3 x4 : List V} {rows : Rows} {facts : List PyData} {H H' : Hp} (h : Es K c e k x3 x4 rows facts H) (ok : c.Ok) (x : Ext c.p H H') {j : Nat} (hp : Pot H' c.p j) (l : j ≤ c.n + m) : Es K c e m x3 x4 rows facts H' :=
  have mv : ∀ b o, Fd c e.aR e.aF b → H b = some o → H' b = some o := fun b o f z => x _ _ f.1.2 z
  ⟨h.hb.to ok x hp l, h.b5, h.lo.ext x, h.wo.move (fun _ f => f) mv, h.tb.move (fun _ f => f) mv, h.fG, mv _ _ h.fG h.eG, h.lG, h.nG⟩
theorem Es.same {K : Frag} {c : Cf} {e : En} {k : Nat} {x3 x4 : List V} {rows : Rows} {facts : List PyData} {H H' : Hp} (h : Es K c e k x3 x4 rows facts H) (s : Same H H') : Es K c e k x3 x4 rows facts H' :=
  have mv : ∀ b o, Fd c e.aR e.aF b → H b = some o → H' b = some o := fun b o f z => s _ _ z
  ⟨h.hb.same s, h.b5, h.lo.ext (.of s), h.wo.move (fun _ f => f) mv, h.tb.move (fun _ f => f) mv, h.fG, mv _ _ h.fG h.eG, h.lG, h.nG⟩
theorem Es.up {K : Frag} {c : Cf} {e : En} {k m : Nat} {x3 x4 : List V} {rows : Rows} {facts : List PyData} {H : Hp} (h : Es K c e k x3 x4 rows facts H) (l : k ≤ m) : Es K c e m x3 x4 rows facts H := ⟨h.hb.up l, h.b5, h.lo, h.wo, h.tb, h.fG, h.eG, h.lG, h.nG⟩
/-- a result more -/
theorem Es.row {K : Frag} {c : Cf} {e : En} {k : Nat} {x3 x4 : List V} {rows : Rows} {facts : List PyData} {H : Hp} {v : V} {r : Str × Row} (h : Es K c e k x3 x4 rows facts H) (d : Dq (Fd c e.aR e.aF) H v (resD r)) : Es K c e k (x3 ++ [v]) x4 (rows ++ [r]) facts (upd H e.aR (.lst (x3 ++ [v]))) := by
  have mv : ∀ b o, Fd c e.aR e.aF b → H b = some o → upd H e.aR (.lst (x3 ++ [v])) b = some o := fun b o f z => by rw [upd_ne f.2.1]; exact z
  refine ⟨h.hb.lst h.lo.oR h.lo.e3, h.b5, ⟨h.lo.z2.move (fun _ f => f) mv, h.lo.z3.move (fun _ f => f) mv, h.lo.fD, mv _ _ h.lo.fD h.lo.eD, h.lo.oR, h.lo.oF, h.lo.RF, upd_same, by rw [upd_ne (Ne.symm h.lo.RF)]; exact h.lo.e4, ?_, h.lo.d4.move (fun _ f => f) mv⟩, h.wo.move (fun _ f => f) mv, h.tb.move (fun _ f => f) mv, h.fG, mv _ _ h.fG h.eG, h.lG, h.nG⟩
  show DqAll _ _ _ ((rows ++ [r]).map resD)
  rw [List.map_append]
  exact DqAll.app (h.lo.d3.move (fun _ f => f) mv) (.cons (d.move (fun _ f => f) mv) .nil)
/-- a fact more -/
theorem Es.fact {K : Frag} {c : Cf} {e : En} {k : Nat} {x3 x4 : List V} {rows : Rows} {facts : List PyData} {H : Hp} {v : V} {f : PyData} (h : Es K c e k x3 x4 rows facts H) (d : Dq (Fd c e.aR e.aF) H v f) : Es K c e k x3 (x4 ++ [v]) rows (facts ++ [f]) (upd H e.aF (.lst (x4 ++ [v]))) := by
  have mv : ∀ b o, Fd c e.aR e.aF b → H b = some o → upd H e.aF (.lst (x4 ++ [v])) b = some o := fun b o f z => by rw [upd_ne f.2.2]; exact z
  exact ⟨h.hb.lst h.lo.oF h.lo.e4, h.b5, ⟨h.lo.z2.move (fun _ f => f) mv, h.lo.z3.move (fun _ f => f) mv, h.lo.fD, mv _ _ h.lo.fD h.lo.eD, h.lo.oR, h.lo.oF, h.lo.RF, by rw [upd_ne h.lo.RF]; exact h.lo.e3, upd_same, h.lo.d3.move (fun _ f => f) mv, DqAll.app (h.lo.d4.move (fun _ f => f) mv) (.cons (d.move (fun _ f => f) mv) .nil)⟩, h.wo.move (fun _ f => f) mv, h.tb.move (fun _ f => f) mv, h.fG, mv _ _ h.fG h.eG, h.lG, h.nG⟩
/-- a new thing is none of the lists that grow -/
theorem Es.new {K : Frag} {c : Cf} {e : En} {k : Nat} {x3 x4 : List V} {rows : Rows} {facts : List PyData} {H : Hp} {a : Addr} (h : Es K c e k x3 x4 rows facts H) (n : H a = none) : Fd c e.aR e.aF a := ⟨h.hb.fresh n, Ne.symm (ne_of_none h.lo.e3 n), Ne.symm (ne_of_none h.lo.e4 n)⟩
section
variable {P : Program} {w : World} {K : Frag} {mg : Str → Option Value} {base : Heap} {cdv : Value} {A : Around} {outer : List Env} {s : Shared} {HX : Hp} {E : XK} {c : Cf}
abbrev f17 (c : Cf) (e : En) : List (Nat × V) := (17, .ref e.aG) :: f12 c e.aN e.aP e.aL e.aD e.aW e.aT
def J9 (K : Frag) (c : Cf) : StP := fun σ H => ∃ e : En, Sg 20 (f17 c e) σ ∧ Es K c e 1080 [] [] [] [] H
theorem ch8 (hr : RmC K cdv A s) (ok : c.Ok) (hN : Has P w K mg base 3 "_law_names" P_Lnames [] nmS) : PS (cxC P w K mg base cdv A outer s HX E) (cSt 8) (tTo (J8 K c) (J9 K c)) := by
  refine ps_up (ps_set (i := 17) sc_Lchart.nd rfl (Or.inl rfl) (pe_has hN (hr.mono (by decide)) (pa_cons (pv 0) (pa_cons (pe_ix (ix_tupK (K := K) rfl) (pv 1) pe_int (fun _ _ => rfl)) pa_nil)))) fun D σ H h => ?_
  obtain ⟨⟨aN, ns, aD, aP, aL, aR, aF, x1, x2, pe, lb, aW, kW, aT, kT, sg, hb, b5, lo, wo, tb⟩, nx⟩ := h
  have nn := ok.nn
  have b3 := ok.b3
  refine ⟨.ref c.p, sg.get (by simp), .ref c.aS, sg.get (by simp), c.aS, _, _, _, rfl, rfl, hb.siz, atI_nat (j := 3) rfl, c.n + 1050, c.p, c.s3, rfl, hb.pot, by omega, by omega, fun q gs rest H1 nq eq hl hpm p1 x => ?_⟩
  have oq := hb.fresh nq
  have mv : ∀ b o, Fd c aR aF b → H b = some o → H1 b = some o := fun b o f z => x _ _ f.1.2 z
  exact nx _ _ ⟨⟨aN, aD, aP, aL, aR, aF, aW, aT, q, ns, gs, x1, x2, pe, lb, kW, kT⟩, sg.set (by decide) (by simp), hb.to ok x p1 (by omega), b5, lo.ext x, wo.move (fun _ f => f) mv, tb.move (fun _ f => f) mv, ⟨oq, Ne.symm (ne_of_none lo.e3 nq), Ne.symm (ne_of_none lo.e4 nq)⟩, eq, hl, .of hpm⟩
end
end G

set_option Elab.async false
set_option linter.all false
set_option maxRecDepth 100000
set_option maxHeartbeats 4000000
namespace G
open PySem PySem.Spec PyProof.Rows L2 U
open PySem.W (Frag)
abbrev rBody : List Stmt := match cSt 9 with
  | .For _ _ b _ _ => b
  | _ => []
abbrev rSt (i : Nat) : Stmt := rBody.getD i sN0
/-- a turn of the loop of results: what stays -/
structure Tr where
  e : En
  q : Addr
  xs : List Str
  nm : Str
  x3 : List V
  rows : Rows
structure Rr (K : Frag) (c : Cf) (t : Tr) (k : Nat) (H : Hp) : Prop where
  es : Es K c t.e k t.x3 [] t.rows [] H
  eq : H t.q = some (.lst (t.xs.map V.str))
  oq : Fd c t.e.aR t.e.aF t.q
theorem Rr.to {K : Frag} {c : Cf} {t : Tr} {k m : Nat} {H H' : Hp} (h : Rr K c t k H) (ok : c.Ok) (x : Ext c.p H H') {j : Nat} (hp : Pot H' c.p j) (l : j ≤ c.n + m) : Rr K c t m H' := ⟨h.es.to ok x hp l, x _ _ h.oq.1.2 h.eq, h.oq⟩
theorem Rr.same {K : Frag} {c : Cf} {t : Tr} {k : Nat} {H H' : Hp} (h : Rr K c t k H) (s : Same H H') : Rr K c t k H' := ⟨h.es.same s, s _ _ h.eq, h.oq⟩
theorem Rr.up {K : Frag} {c : Cf} {t : Tr} {k m : Nat} {H : Hp} (h : Rr K c t k H) (l : k ≤ m) : Rr K c t m H := ⟨h.es.up l, h.eq, h.oq⟩
section
variable {P : Program} {w : World} {K : Frag} {mg : Str → Option Value} {base : Heap} {cdv : Value} {A : Around} {outer : List Env} {s : Shared} {HX : Hp} {E : XK} {c : Cf} {t : Tr} {k : Nat}
abbrev g5 (c : Cf) (t : Tr) : List (Nat × V) := (5, .str t.nm) :: f17 c t.e
def R0 (K : Frag) (c : Cf) (t : Tr) (k : Nat) : StP := fun σ H => Sg 20 (g5 c t) σ ∧ Rr K c t k H
structure Pk (c : Cf) (t : Tr) (per lab : Str) (ts : List Tab) (b2 : Addr) (H : Hp) : Prop where
  pe : per ∈ t.e.pe.map (·.1)
  lb : (lab, ts) ∈ t.e.lb
  d : Dq (Fd c t.e.aR t.e.aF) H (.ref b2) (.list (ts.map Tab.d))
theorem Pk.mv {c : Cf} {t : Tr} {per lab : Str} {ts : List Tab} {b2 : Addr} {H H' : Hp} (h : Pk c t per lab ts b2 H) (x : Ext c.p H H') : Pk c t per lab ts b2 H' := ⟨h.pe, h.lb, h.d.move (fun _ f => f) fun b o f z => x _ _ f.1.2 z⟩
abbrev g14 (c : Cf) (t : Tr) (per lab : Str) (b2 : Addr) : List (Nat × V) := (14, .ref b2) :: (13, .str lab) :: (11, .str per) :: g5 c t
def R1 (K : Frag) (c : Cf) (t : Tr) (k : Nat) : StP := fun σ H => ∃ per lab ts b2, Sg 20 (g14 c t per lab b2) σ ∧ Rr K c t k H ∧ Pk c t per lab ts b2 H
theorem rw0 (hr : RmC K cdv A s) (ok : c.Ok) (hk : k + 100 ≤ 3000) (hO : Has P w K mg base 2 "_law_of" P_Lof [] ofS) : PS (cxC P w K mg base cdv A outer s HX E) (rSt 0) (tTo (R0 K c t k) (R1 K c t (k + 2))) := by
  have hr2 := hr.mono (show 2 ≤ 4 by omega)
  refine ps_up (ps_asg (pe_tup (pa_cons (pe_ix (ix_tupK (K := K) rfl) (pe_has hO hr2 (pa_cons (pv 0) (pa_cons (pv 4) pa_nil))) pe_int (fun _ _ => rfl)) (pa_cons (pe_has hO hr2 (pa_cons (pv 0) (pa_cons (pv 6) pa_nil))) pa_nil)))
    (pg_tup rfl (pgs_cons (pg_name (i := 11) sc_Lchart.nd rfl (Or.inl rfl)) (pgs_cons (pg_tup rfl (pgs_cons (pg_name (i := 13) sc_Lchart.nd rfl (Or.inl rfl)) (pgs_cons (pg_name (i := 14) sc_Lchart.nd rfl (Or.inl rfl)) pgs_nil))) pgs_nil)))) fun D σ H h => ?_
  obtain ⟨⟨sg, rr⟩, nx⟩ := h
  have nn := ok.nn
  have b0 := ok.b0
  have b1 := ok.b1
  have lo := rr.es.lo
  have l1 : 1 ≤ t.e.pe.length ∧ t.e.pe.length ≤ c.s0 := lo.z2.len rr.es.b5.l ok
  have l2 : 1 ≤ t.e.lb.length ∧ t.e.lb.length ≤ c.s1 := lo.z3.len rr.es.b5.l ok
  have lx1 : t.e.x1.length = t.e.pe.length := by rw [lo.z2.d.len, List.length_map]
  have lx2 : t.e.x2.length = t.e.lb.length := by rw [lo.z3.d.len, List.length_map]
  refine ⟨.ref c.p, sg.get (by simp), .ref t.e.aP, sg.get (by simp), c.n + k, c.p, t.e.aP, t.e.x1, rfl, rr.es.hb.pot, by omega, lo.z2.e, lo.z2.o.1.2, by omega, by omega, fun i v H1 hi p1 x1 => ?_⟩
  have r1 : Rr K c t (k + 1) H1 := rr.to ok x1 p1 (by omega)
  obtain ⟨pn, b, hpn, rfl, fb, eb⟩ := per_at lo.z2.d hi
  refine ⟨b, _, _, .str pn.1, rfl, rfl, SqT.of (x1 _ _ fb.1.2 eb), atI_nat (j := 0) rfl, .ref c.p, sg.get (by simp), .ref t.e.aL, sg.get (by simp), c.n + (k + 1), c.p, t.e.aL, t.e.x2, rfl, r1.es.hb.pot, by omega, r1.es.lo.z3.e, lo.z3.o.1.2, by omega, by omega, fun j u H2 hj p2 x2 => ?_⟩
  have r2 : Rr K c t (k + 2) H2 := r1.to ok x2 p2 (by omega)
  obtain ⟨l, bl, ul, hl, rfl, fbl, ebl, dl⟩ := lab_at r2.es.lo.z3.d hj
  refine ⟨(show 2 ≤ sizeLine by decide), fun r nr => ?_⟩
  have sr := same_new (o := .tup [.str pn.1, .ref bl]) nr
  cases dl with
  | @lst b2 zs _ fb2 eb2 alz =>
  refine ⟨r, _, rfl, SqT.of upd_same, rfl, _, _, rfl, _, _, rfl, bl, _, rfl, SqT.of (sr _ _ ebl), rfl, _, _, rfl, _, _, rfl, rfl, rfl, ?_⟩
  refine nx _ _ ⟨pn.1, l.1, l.2, b2, ((sg.set (by decide) (by simp)).set (by decide) (by simp)).set (by decide) (by simp), r2.same sr, List.mem_map.mpr ⟨pn, List.mem_of_getElem? hpn, rfl⟩, List.mem_of_getElem? hl, ?_⟩
  exact .lst fb2 (sr _ _ eb2) (alz.move (fun _ f => f) fun b o _ z => sr _ _ z)
def R2 (K : Frag) (c : Cf) (t : Tr) (k : Nat) : StP := fun σ H => ∃ per lab ts b2 day, Sg 20 ((16, .int day) :: g14 c t per lab b2) σ ∧ Rr K c t k H ∧ Pk c t per lab ts b2 H ∧ 0 ≤ day ∧ day < c.s5
theorem rw1 (hr : RmC K cdv A s) (ok : c.Ok) (hk : k + 100 ≤ 3000) (hT : Has P w K mg base 1 "_law_take" P_Ltake [] tkS) : PS (cxC P w K mg base cdv A outer s HX E) (rSt 1) (tTo (R1 K c t k) (R2 K c t (k + 1))) := by
  have hr1 := hr.mono (show 1 ≤ 4 by omega)
  refine ps_up (ps_set (i := 16) sc_Lchart.nd rfl (Or.inl rfl) (pe_has hT hr1 (pa_cons (pv 0) (pa_cons (pv 9) pa_nil)))) fun D σ H h => ?_
  obtain ⟨⟨per, lab, ts, b2, sg, rr, pk⟩, nx⟩ := h
  have nn := ok.nn
  have a5 := ok.a5
  have b5 := ok.b5
  refine ⟨.ref c.p, sg.get (by simp), .int c.s5, sg.get (by simp), c.n + k, c.p, c.s5, rfl, by omega, by omega, by omega, rr.es.hb.pot, fun d H1 d0 d1 p1 x1 => ?_⟩
  exact nx _ _ ⟨per, lab, ts, b2, d, sg.set (by decide) (by simp), rr.to ok x1 p1 (by omega), pk.mv x1, d0, d1⟩
def R3 (K : Frag) (c : Cf) (m : Int) (t : Tr) (k : Nat) : StP := fun σ H => ∃ per lab ts b2 day pr, Sg 20 ((18, pr.v) :: (16, .int day) :: g14 c t per lab b2) σ ∧ Rr K c t k H ∧ Pk c t per lab ts b2 H ∧ 0 ≤ day ∧ day < c.s5 ∧ PrnB m pr
theorem rw2 (hr : RmC K cdv A s) (ok : c.Ok) (hk : k + 100 ≤ 3000) (hS : Has P w K mg base 2 "_law_shown" P_Lshown [] sp_Lshown) : PS (cxC P w K mg base cdv A outer s HX E) (rSt 2) (tTo (R2 K c t k) (R3 K c 20000 t (k + 1))) := by
  have hr2 := hr.mono (show 2 ≤ 4 by omega)
  refine ps_up (ps_set (i := 18) sc_Lchart.nd rfl (Or.inl rfl) (pe_has hS hr2 (pa_cons (pv 0) (pa_cons (pe_ix (ix_list (X := cxC P w K mg base cdv A outer s HX E)) (pv 14) (pe_dget (hu_of hr2) (pv 12) (pe_tup (pa_cons (pv 13) (pa_cons (pv 16) pa_nil))) (fun _ _ => rfl)) (fun _ _ => rfl)) (pa_cons (pe_ix (ix_list (X := cxC P w K mg base cdv A outer s HX E)) (pe_dget (hu_of hr2) (pv 10) (pv 11) (fun _ _ => rfl)) (pv 16) (fun _ _ => rfl)) pa_nil))))) fun D σ H h => ?_
  obtain ⟨⟨per, lab, ts, b2, day, sg, rr, pk, d0, d1⟩, nx⟩ := h
  have nn := ok.nn
  have b5 := ok.b5
  obtain ⟨y, hy, y0, y1⟩ := rr.es.tb.tab _ pk.lb day d0 d1
  have y1 : y < ts.length := y1
  have tbs := (rr.es.lo.z3.tb _ pk.lb).2.2
  refine ⟨.ref c.p, sg.get (by simp), .ref b2, sg.get (by simp), .ref t.e.aT, sg.get (by simp), .str lab, sg.get (by simp), .int day, sg.get (by simp), (show 2 ≤ sizeLine by decide), fun r nr => ?_⟩
  have sr := same_new (o := .tup [.str lab, .int day]) nr
  have r1 := rr.same sr
  have pk1 := pk.mv (.of sr)
  have dg : DGet (upd H r (.tup [.str lab, .int day])) t.e.aT (.ref r) (some (.int y)) := by
    have z := DGet.t (b := r) (k := [Sum.inr lab, Sum.inl day]) (sr _ _ rr.es.tb.e) upd_same
    rw [hy] at z
    exact z
  obtain ⟨bw, ys, w1, fw, w2, w3, w4⟩ := r1.es.wo.wor per pk.pe
  obtain ⟨yn, rfl⟩ : ∃ n : Nat, y = (n : Int) := ⟨y.toNat, by omega⟩
  obtain ⟨dn, rfl⟩ : ∃ n : Nat, day = (n : Int) := ⟨day.toNat, by omega⟩
  have hd := pk1.d
  generalize hts : ts.map Tab.d = td at hd
  cases hd with
  | @lst _ zs _ fb2 eb2 alz =>
  subst hts
  have lz : zs.length = ts.length := by rw [alz.len, List.length_map]
  have hz : zs[yn]? = some zs[yn] := List.getElem?_eq_getElem (by omega)
  obtain ⟨d', hd', dq⟩ := alz.get hz
  rw [List.getElem?_map, Option.map_eq_some_iff] at hd'
  obtain ⟨tt, htt, rfl⟩ := hd'
  have hyw : (ys.map V.int)[dn]? = some (.int ys[dn]) := by rw [List.getElem?_map, List.getElem?_eq_getElem (by omega)]; rfl
  have bw' := w4 ys[dn] (List.getElem_mem _)
  generalize hzy : zs[yn] = zv at hz dq
  generalize hdt : Tab.d tt = td2 at dq
  cases dq with
  | @tup b3 vs ds fb3 eb3 al3 =>
    have evs : vs = tt.vs := by
      unfold Tab.d at hdt
      cases hdt
      cases al3 with
      | cons q1 al3 =>
      cases al3 with
      | cons q2 al3 =>
      cases al3 with
      | cons q3 al3 =>
      cases al3 with
      | cons q4 al3 =>
      cases al3 with
      | cons q5 al3 =>
      cases al3
      cases q1
      cases q2
      cases q3
      cases q4
      cases q5
      rfl
    subst evs
    refine ⟨t.e.aT, .int yn, rfl, dg, b2, zs, yn, .ref b3, rfl, rfl, SqL.of eb2, atI_nat hz, .ref t.e.aW, sg.get (by simp), .str per, sg.get (by simp), t.e.aW, .ref bw, rfl, .inl ⟨_, .inr per, .inl r1.es.wo.e, rfl, w1.symm⟩, .int dn, sg.get (by simp), bw, _, _, .int ys[dn], rfl, rfl, SqL.of w2, atI_nat hyw, c.n + k, c.p, b3, tt, ys[dn], rfl, r1.es.hb.pot, by omega, eb3, tbs tt (List.mem_of_getElem? htt), bw'.1, bw'.2, fun pr H1 hpr p1 x1 => ?_⟩
    exact nx _ _ ⟨per, lab, ts, b2, dn, pr, sg.set (by decide) (by simp), r1.to ok x1 p1 (by omega), pk1.mv x1, d0, d1, hpr⟩
  | _ => unfold Tab.d at hdt; cases hdt
end
end G

set_option Elab.async false
set_option linter.all false
set_option maxRecDepth 100000
set_option maxHeartbeats 4000000
namespace G
open PySem PySem.Spec PyProof.Rows L2 U
open PySem.W (Frag)
theorem PrnB.up {k m : Int} {p : Prn} (h : PrnB k p) (l : k ≤ m) : PrnB m p := by
  cases p with
  | num i => exact ⟨by have := h.1; omega, by have := h.2; omega⟩
  | word x => exact h
section
variable {P : Program} {w : World} {K : Frag} {mg : Str → Option Value} {base : Heap} {cdv : Value} {A : Around} {outer : List Env} {s : Shared} {HX : Hp} {E : XK} {c : Cf} {t : Tr} {k : Nat}
theorem rw3 (hr : RmC K cdv A s) (ok : c.Ok) (hk : k + 100 ≤ 3000) (hT : Has P w K mg base 1 "_law_take" P_Ltake [] tkS) (hO : Has P w K mg base 2 "_law_of" P_Lof [] ofS) (gI : mg "isinstance" = none) (gS : mg "str" = none) : PS (cxC P w K mg base cdv A outer s HX E) (rSt 3) (tTo (R3 K c 20000 t k) (R3 K c 30000 t (k + 2))) := by
  have hr1 := hr.mono (show 1 ≤ 4 by omega)
  have hr2 := hr.mono (show 2 ≤ 4 by omega)
  refine ps_up (ps_if (PW.pt (pw_and (pt_not (pt_val (pv 2))) (pw_and (pt_cmpR op_eq (pe_has hT hr1 (pa_cons (pv 0) (pa_cons pe_int pa_nil))) pe_int (nomark _)) (pw_and1 (pt_not (pt_val (pe_callB call_isiD (by rfl) gI (by decide +kernel) (pa_cons (pv 18) (pa_cons (pe_bltn (by rfl) gS (v := .ty "str") (u := .type "str") (by decide +kernel) rfl) pa_nil)))))))))
    (pss_one (ps_set (i := 18) sc_Lchart.nd rfl (Or.inl rfl) (pe_op op_add (pv 18) (pe_has hO hr2 (pa_cons (pv 0) (pa_cons (pe_lst (pa_cons (pe_un un_neg pe_int) (pa_cons (pe_un un_neg pe_int) (pa_cons pe_int (pa_cons pe_int pa_nil))))) pa_nil)))))) pss_nil) fun D σ H h => ?_
  obtain ⟨⟨per, lab, ts, b2, day, pr, sg, rr, pk, d0, d1, hp⟩, nx⟩ := h
  have nn := ok.nn
  refine ⟨.bl c.kept, sg.get (by simp), _, rfl, ?_⟩
  cases hc : c.kept with
  | true => exact nx _ _ ⟨per, lab, ts, b2, day, pr, sg, rr.up (by omega), pk, d0, d1, hp.up (by decide)⟩
  | false =>
    refine ⟨.ref c.p, sg.get (by simp), c.n + k, c.p, 4, rfl, by decide, by decide, by omega, rr.es.hb.pot, fun d H1 e0 e1 p1 x1 => ?_⟩
    have r1 : Rr K c t (k + 1) H1 := rr.to ok x1 p1 (by omega)
    refine ⟨rfl, _, rfl, ?_⟩
    cases hd : decide (V.int d = V.int 0) with
    | false => exact nx _ _ ⟨per, lab, ts, b2, day, pr, sg, r1.up (by omega), pk.mv x1, d0, d1, hp.up (by decide)⟩
    | true =>
      refine ⟨pr.v, sg.get (by simp), ?_⟩
      cases pr with
      | word x =>
        refine ⟨fun _ => True, _, .str x, "str", true, rfl, .str x, (show kitB "str" "str" = some true by decide +kernel), true, rfl, ?_⟩
        exact nx _ _ ⟨per, lab, ts, b2, day, .word x, sg, r1.up (by omega), pk.mv x1, d0, d1, hp.up (by decide)⟩
      | num i =>
        refine ⟨fun _ => True, _, .int i, "str", false, rfl, .int i, (show kitB "int" "str" = some false by decide +kernel), false, rfl, ?_⟩
        refine ⟨.int i, sg.get (by simp [Prn.v]), .ref c.p, sg.get (by simp), 5, rfl, 2, rfl, (show 4 ≤ sizeLine by decide), fun l nl => ?_⟩
        have sl := same_new (o := .lst [.int (-5), .int (-2), .int 2, .int 5]) nl
        have r2 := r1.same sl
        refine ⟨c.n + (k + 1), c.p, l, _, rfl, r2.es.hb.pot, by omega, upd_same, r1.es.hb.pot.new nl, (show 0 < 4 by decide), (show 4 < 1000000 by decide), fun j v H2 hj p2 x2 => ?_⟩
        obtain ⟨g, rfl, g0, g1⟩ : ∃ g : Int, v = .int g ∧ -5 ≤ g ∧ g ≤ 5 := by
          match j, hj with
          | 0, hj => exact ⟨-5, (Option.some.inj hj).symm, by decide, by decide⟩
          | 1, hj => exact ⟨-2, (Option.some.inj hj).symm, by decide, by decide⟩
          | 2, hj => exact ⟨2, (Option.some.inj hj).symm, by decide, by decide⟩
          | 3, hj => exact ⟨5, (Option.some.inj hj).symm, by decide, by decide⟩
        refine ⟨_, _, rfl, rfl, ?_⟩
        have h0 := hp.1
        have h1 := hp.2
        exact nx _ _ ⟨per, lab, ts, b2, day, .num (i + g), Sg.set (fs := (16, .int day) :: g14 c t per lab b2) (sg.sub (fun x hx => List.mem_cons_of_mem _ hx)) (by decide) (by simp), r2.to ok x2 p2 (by omega), (pk.mv x1).mv ((Ext.of sl).trans x2), d0, d1, by omega, by omega⟩
/-- a drawn result -/
structure RowD (c : Cf) (e : En) (r : Str × Row) : Prop where
  pe : r.2.person ∈ e.pe.map (·.1)
  lb : ∃ ts, (r.2.lab, ts) ∈ e.lb ∧ canTell ts r.2.pr = true
  d0 : 0 ≤ r.2.day
  d1 : r.2.day < c.s5
  pr : PrnB 30000 r.2.pr
def R5 (K : Frag) (c : Cf) (t : Tr) (k : Nat) : StP := fun σ H => Sg 20 (f17 c t.e) σ ∧ ∃ x3 rows, Rr K c { t with x3 := x3, rows := rows } k H ∧ (rows = t.rows ∨ ∃ r, rows = t.rows ++ [r] ∧ r.1 = t.nm ∧ RowD c t.e r)
theorem rw4 (hr : RmC K cdv A s) (ok : c.Ok) (hl : t.rows.length ≤ 100) (hTu : Has P w K mg base 2 "_law_turns_back" P_Lturns_back [] sp_Lturns) : PS (cxC P w K mg base cdv A outer s HX E) (rSt 4) (tTo (R3 K c 30000 t k) (R5 K c t k)) := by
  have hr2 := hr.mono (show 2 ≤ 4 by omega)
  refine ps_up (ps_if (pt_not (pt_val (pe_has hTu hr2 (pa_cons (pv 14) (pa_cons (pv 18) pa_nil))))) (pss_one (ps_expr (pe_bm PySem.F.plainAttrs_list PySem.F.slot_list_append PySem.F.type_list_append mt_append (pe_dget (hu_of hr2) (pv 8) pe_str (fun _ _ => rfl)) (pa_cons (pe_tup (pa_cons (pv 5) (pa_cons (pv 11) (pa_cons (pv 13) (pa_cons (pv 16) (pa_cons (pv 18) pa_nil)))))) pa_nil)))) pss_nil) fun D σ H h => ?_
  obtain ⟨⟨per, lab, ts, b2, day, pr, sg, rr, pk, d0, d1, hp⟩, nx⟩ := h
  have tbs := rr.es.lo.z3.tb _ pk.lb
  have b2' := ok.b2
  have t4 : ts.length ≤ c.s2 := tbs.2.1
  have pok : PrnOk pr := by
    cases pr with
    | num i => exact True.intro
    | word x => exact hp
  refine ⟨.ref b2, sg.get (by simp), pr.v, sg.get (by simp), .ref b2, ts, pr, rfl, pk.d.da, by omega, fun x hx => (tbs.2.2 x hx).ok, pok, fun H1 s1 => ?_⟩
  have r1 := rr.same s1
  refine ⟨_, rfl, ?_⟩
  cases hc : canTell ts pr with
  | false => exact nx _ _ ⟨sg.sub (by simp), t.x3, t.rows, r1, .inl rfl⟩
  | true =>
    refine ⟨.ref t.e.aD, sg.get (by simp), t.e.aD, .ref t.e.aR, rfl, (get4 r1.es.lo.eD).2.2.1, .inl ⟨rfl, _, SqL.of r1.es.lo.e3⟩, .str t.nm, sg.get (by simp), .str per, sg.get (by simp), .str lab, sg.get (by simp), .int day, sg.get (by simp), pr.v, sg.get (by simp), (show 5 ≤ sizeLine by decide), fun r nr => ?_⟩
    have sr := same_new (o := .tup [.str t.nm, .str per, .str lab, .int day, pr.v]) nr
    have r2 := r1.same sr
    have fr := r1.es.new nr
    have lx : t.x3.length = t.rows.length := by rw [r1.es.lo.d3.len, List.length_map]
    refine ⟨t.e.aR, t.x3, _, rfl, rfl, r2.es.lo.e3, by rw [sizeLine_eq]; omega, ?_⟩
    have dq : Dq (Fd c t.e.aR t.e.aF) (upd H1 r (.tup [.str t.nm, .str per, .str lab, .int day, pr.v])) (.ref r) (resD (t.nm, ⟨per, lab, day, pr⟩)) := by
      refine .tup fr upd_same (.cons (.str _) (.cons (.str _) (.cons (.str _) (.cons (.int _) (.cons ?_ .nil)))))
      cases pr with
      | num i => exact .int _
      | word x => exact .str _
    exact nx _ _ ⟨sg.sub (by simp), t.x3 ++ [.ref r], t.rows ++ [(t.nm, ⟨per, lab, day, pr⟩)], ⟨r2.es.row dq, by rw [upd_ne r2.oq.2.1]; exact r2.eq, r2.oq⟩, .inr ⟨_, rfl, rfl, pk.pe, ⟨ts, pk.lb, hc⟩, d0, d1, hp⟩⟩
end
end G

set_option Elab.async false
set_option linter.all false
set_option maxRecDepth 100000
set_option maxHeartbeats 4000000
namespace G
open PySem PySem.Spec PyProof.Rows L2 U
open PySem.W (Frag)
section
variable {P : Program} {w : World} {K : Frag} {mg : Str → Option Value} {base : Heap} {cdv : Value} {A : Around} {outer : List Env} {s : Shared} {HX : Hp} {E : XK} {c : Cf} {t : Tr} {k : Nat}
abbrev TrX : Type := {x : Tr × Nat // x.2 + 110 ≤ 3000 ∧ x.1.rows.length ≤ 100}
theorem rturn (hr : RmC K cdv A s) (ok : c.Ok) (hT : Has P w K mg base 1 "_law_take" P_Ltake [] tkS) (hO : Has P w K mg base 2 "_law_of" P_Lof [] ofS) (hS : Has P w K mg base 2 "_law_shown" P_Lshown [] sp_Lshown) (hTu : Has P w K mg base 2 "_law_turns_back" P_Lturns_back [] sp_Lturns) (gI : mg "isinstance" = none) (gS : mg "str" = none) :
    PSs (cxC P w K mg base cdv A outer s HX E) rBody (fun D σ H => ∃ x : TrX, tTo (R0 K c x.1.1 x.1.2) (R5 K c x.1.1 (x.1.2 + 6)) D σ H) := by
  refine pss_some fun x => ?_
  obtain ⟨⟨t, k⟩, h1, h2⟩ := x
  have h1 : k + 110 ≤ 3000 := h1
  have h2 : t.rows.length ≤ 100 := h2
  show PSs _ _ (tTo (R0 K c t k) (R5 K c t (k + 6)))
  exact pss_to (rw0 (k := k) hr ok (by omega) hO) (pss_to (rw1 (k := k + 2) hr ok (by omega) hT) (pss_to (rw2 (k := k + 3) hr ok (by omega) hS) (pss_to (rw3 (k := k + 4) hr ok (by omega) hT hO gI gS) (pss_to1 (rw4 (k := k + 6) hr ok h2 hTu)))))
def J10 (K : Frag) (c : Cf) : StP := fun σ H => ∃ (e : En) (x3 : List V) (rows : Rows), Sg 20 (f17 c e) σ ∧ Es K c e 1300 x3 [] rows [] H ∧ (rows.map (·.1)).Sublist e.gs ∧ ∀ r ∈ rows, RowD c e r
theorem ch9 (hr : RmC K cdv A s) (ok : c.Ok) (hT : Has P w K mg base 1 "_law_take" P_Ltake [] tkS) (hO : Has P w K mg base 2 "_law_of" P_Lof [] ofS) (hS : Has P w K mg base 2 "_law_shown" P_Lshown [] sp_Lshown) (hTu : Has P w K mg base 2 "_law_turns_back" P_Lturns_back [] sp_Lturns) (gI : mg "isinstance" = none) (gS : mg "str" = none) :
    PS (cxC P w K mg base cdv A outer s HX E) (cSt 9) (tTo (J9 K c) (J10 K c)) := by
  have hr1 := hr.mono (show 1 ≤ 4 by omega)
  refine ps_up (ps_for PassesOwn.never rfl (pi_list (pe_slice sl_list (pv 17) po_none (po_some (pe_has hT hr1 (pa_cons (pv 0) (pa_cons (pe_op op_add (pe_ix (ix_tupK (K := K) rfl) (pv 1) pe_int (fun _ _ => rfl)) pe_int) pa_nil)))))) (pg_name (i := 5) sc_Lchart.nd rfl (Or.inl rfl)) (rturn hr ok hT hO hS hTu gI gS)) fun D σ H h => ?_
  obtain ⟨⟨e, sg, es⟩, nx⟩ := h
  have nn := ok.nn
  have b3 := ok.b3
  refine ⟨.ref e.aG, sg.get (by simp), .ref c.p, sg.get (by simp), .ref c.aS, sg.get (by simp), c.aS, _, _, _, rfl, rfl, es.hb.siz, atI_nat (j := 3) rfl, _, _, rfl, rfl, c.n + 1080, c.p, (c.s3 : Int) + 1, rfl, by omega, by omega, by omega, es.hb.pot, fun d H1 d0 d1 p1 x1 => ?_⟩
  have es1 : Es K c e 1081 [] [] [] [] H1 := es.to ok x1 p1 (by omega)
  refine ⟨_, rfl, e.aG, _, rfl, SqL.of es1.eG, fun q nq => ?_⟩
  obtain ⟨m, rfl⟩ : ∃ m : Nat, d = (m : Int) := ⟨d.toNat, by omega⟩
  have ec : cutV (e.gs.map V.str) none (some (m : Int)) = (e.gs.take m).map V.str := by rw [cut_to, List.map_take]
  rw [ec]
  have s2 := same_new (o := .lst ((e.gs.take m).map V.str)) nq
  have fq := es1.new nq
  have lq : (e.gs.take m).length ≤ 24 := by rw [List.length_take, es.lG]; omega
  refine ⟨q, rfl, ⟨_, SqL.of upd_same⟩, ?_⟩
  refine for_list (K := K) (a := q) (xs := (e.gs.take m).map V.str) (g := gName 5) (tb := fun D σ H => ∃ x : TrX, tTo (R0 K c x.1.1 x.1.2) (R5 K c x.1.1 (x.1.2 + 6)) D σ H) (D := D) (fun i σ Hc => Sg 20 (f17 c e) σ ∧ ∃ (x3 : List V) (rows : Rows), Rr K c ⟨e, q, e.gs.take m, "", x3, rows⟩ (1081 + 6 * i) Hc ∧ rows.length ≤ i ∧ (rows.map (·.1)).Sublist ((e.gs.take m).take i) ∧ ∀ r ∈ rows, RowD c e r)
    ⟨sg, [], [], ⟨es1.same s2, upd_same, fq⟩, Nat.le_refl _, by simp, fun r hr => by cases hr⟩ (fun i σ Hc _ h => by obtain ⟨_, x3, rows, rr, _⟩ := h; exact SqL.of rr.eq) ?_ ?_
  · rintro i x σ Hc hx ⟨sgc, x3, rows, rr, lr, sub, rd⟩
    rw [List.getElem?_map, Option.map_eq_some_iff] at hx
    obtain ⟨nm, hx, rfl⟩ := hx
    have ilt : i < 24 := Nat.lt_of_lt_of_le (List.getElem?_eq_some_iff.mp hx).1 lq
    refine ⟨⟨(⟨e, q, e.gs.take m, nm, x3, rows⟩, 1081 + 6 * i), by show 1081 + 6 * i + 110 ≤ 3000; omega, by show rows.length ≤ 100; omega⟩, ⟨sgc.set (by decide) (by simp), ⟨rr.es, rr.eq, rr.oq⟩⟩, fun σ' H' h => ?_⟩
    obtain ⟨sg', x3', rows', rr', hrow⟩ := h
    have tk : (e.gs.take m).take (i + 1) = (e.gs.take m).take i ++ [nm] := by rw [List.take_add_one, hx]; rfl
    refine ⟨sg', x3', rows', ⟨rr'.es.up (by show 1081 + 6 * i + 6 ≤ _; omega), rr'.eq, rr'.oq⟩, ?_⟩
    rcases hrow with h | ⟨r, h1, h2, h3⟩
    · have h : rows' = rows := h
      subst h
      refine ⟨by omega, ?_, rd⟩
      rw [tk]
      exact sub.trans (List.sublist_append_left _ _)
    · have h1 : rows' = rows ++ [r] := h1
      have h2 : r.1 = nm := h2
      subst h1
      refine ⟨by rw [List.length_append]; show rows.length + 1 ≤ i + 1; omega, ?_, fun y hy => ?_⟩
      · rw [tk, List.map_append, List.map_singleton, h2]
        exact sub.append (List.Sublist.refl _)
      · rcases List.mem_append.mp hy with h | h
        · exact rd y h
        · cases List.mem_singleton.mp h
          exact h3
  · rintro σ Hc ⟨sgc, x3, rows, rr, lr, sub, rd⟩
    rw [List.length_map] at rr sub
    refine nx _ _ ⟨e, x3, rows, sgc, rr.es.up (by omega), (sub.trans (List.take_sublist _ _)).trans (List.take_sublist _ _), rd⟩
end
end G

set_option Elab.async false
set_option linter.all false
set_option maxRecDepth 100000
set_option maxHeartbeats 4000000
namespace G
open PySem PySem.Spec PyProof.Rows L2 U
open PySem.W (Frag)
abbrev fBod : List Stmt := match cSt 10 with
  | .For _ _ b _ _ => b
  | _ => []
abbrev fSt (i : Nat) : Stmt := fBod.getD i sN0
/-- a turn of the loop of facts: what stays -/
structure Tf where
  e : En
  x3 : List V
  rows : Rows
  x4 : List V
  cs : List Clm
abbrev Tf.pa (t : Tf) : Parts := ⟨t.e.pe, t.e.lb, t.rows, t.cs.map Clm.d⟩
section
variable {P : Program} {w : World} {K : Frag} {mg : Str → Option Value} {base : Heap} {cdv : Value} {A : Around} {outer : List Env} {s : Shared} {HX : Hp} {E : XK} {c : Cf} {t : Tf} {k : Nat}
abbrev Ef (K : Frag) (c : Cf) (t : Tf) (k : Nat) (H : Hp) : Prop := Es K c t.e k t.x3 t.x4 t.rows (t.cs.map Clm.d) H
def F0 (K : Frag) (c : Cf) (t : Tf) (k : Nat) : StP := fun σ H => Sg 20 (f17 c t.e) σ ∧ Ef K c t k H
def F1 (K : Frag) (c : Cf) (t : Tf) (k : Nat) : StP := fun σ H => ∃ (b : Addr) (cl : Clm), Sg 20 ((19, .ref b) :: f17 c t.e) σ ∧ Ef K c t k H ∧ H b = some (.tup cl.vs) ∧ Fd c t.e.aR t.e.aF b ∧ cl.ok t.pa c.s5
theorem Es.loreD {K : Frag} {c : Cf} {e : En} {k : Nat} {x3 x4 : List V} {rows : Rows} {facts : List PyData} {H : Hp} (h : Es K c e k x3 x4 rows facts H) (ok : c.Ok) : LoreD ⟨e.pe, e.lb, rows, facts⟩ := by
  have l1 : 1 ≤ e.pe.length ∧ e.pe.length ≤ c.s0 := h.lo.z2.len h.b5.l ok
  have l2 : 1 ≤ e.lb.length ∧ e.lb.length ≤ c.s1 := h.lo.z3.len h.b5.l ok
  have b0 := ok.b0
  have b1 := ok.b1
  have b2 := ok.b2
  refine ⟨fun z => ?_, by show e.pe.length ≤ 3; omega, fun z => ?_, by show e.lb.length ≤ 6; omega, h.lo.z3.nd h.b5.ok, fun l hl => ?_, fun l hl => ?_⟩
  · have z : e.pe = [] := z
    rw [z] at l1
    exact absurd l1.1 (by decide)
  · have z : e.lb = [] := z
    rw [z] at l2
    exact absurd l2.1 (by decide)
  · obtain ⟨m, em, _⟩ := h.lo.z3.nm
    have : l.1 ∈ e.ns := by
      have h1 : l.1 ∈ e.lb.map (·.1) := List.mem_map.mpr ⟨l, hl, rfl⟩
      have em : e.lb.map (·.1) = (e.ns.drop 3).take m := em
      rw [em] at h1
      exact List.mem_of_mem_drop (List.mem_of_mem_take h1)
    exact (h.b5.ok.ok _ this).2
  · have : l.2.length ≤ c.s2 := (h.lo.z3.tb l hl).2.1
    omega
theorem fc0 (hr : RmC K cdv A s) (ok : c.Ok) (hk : k + 100 ≤ 3000) (hA : Has P w K mg base 3 "_law_a_claim" P_La_claim [] sp_La_claim) : PS (cxC P w K mg base cdv A outer s HX E) (fSt 0) (tTo (F0 K c t k) (F1 K c t (k + 6))) := by
  have hr3 := hr.mono (show 3 ≤ 4 by omega)
  refine ps_up (ps_set (i := 19) sc_Lchart.nd rfl (Or.inl rfl) (pe_has hA hr3 (pa_cons (pv 0) (pa_cons (pv 8) (pa_cons (pv 9) pa_nil))))) fun D σ H h => ?_
  obtain ⟨⟨sg, es⟩, nx⟩ := h
  have nn := ok.nn
  refine ⟨.ref c.p, sg.get (by simp), .ref t.e.aD, sg.get (by simp), .int c.s5, sg.get (by simp), c.n + k, c.s5, c.p, Own c, _, t.pa, rfl, es.hb.pot, by omega, ok.a5, ok.b5, fun a f => f.2, es.lo.lore, es.loreD ok, fun q cl H1 nq eq okc p1 x1 => ?_⟩
  exact nx _ _ ⟨q, cl, sg.set (by decide) (by simp), es.to ok x1 p1 (by omega), eq, es.new nq, okc⟩
theorem Es.hid {K : Frag} {c : Cf} {e : En} {k : Nat} {x3 x4 : List V} {rows : Rows} {facts : List PyData} {H : Hp} (h : Es K c e k x3 x4 rows facts H) : Hid H ⟨e.pe, e.lb, rows, facts⟩ c.s5 e.aT e.aW e.kT e.kW :=
  ⟨h.tb.e, h.wo.e, fun l hl d d0 d1 => by
    obtain ⟨y, h1, _⟩ := h.tb.tab l hl d d0 d1
    exact ⟨y, h1⟩, fun x hx => by
    obtain ⟨b, ys, h1, _, h2, h3, _⟩ := h.wo.wor x hx
    exact ⟨b, ys, h1, h2, h3⟩⟩
def F2 (K : Frag) (c : Cf) (t : Tf) (k : Nat) : StP := fun σ H => Sg 20 (f17 c t.e) σ ∧ ∃ x4 cs, Ef K c { t with x4 := x4, cs := cs } k H ∧ (cs = t.cs ∨ ∃ cl, cs = t.cs ++ [cl] ∧ cl.ok t.pa c.s5)
theorem fc1 (hr : RmC K cdv A s) (ok : c.Ok) (hk : k + 100 ≤ 3000) (hl : t.cs.length ≤ 100) (hTr : Has P w K mg base 2 "_law_is_true" P_Lis_true [] (sp_Ltrue K)) (hT : Has P w K mg base 1 "_law_take" P_Ltake [] tkS) : PS (cxC P w K mg base cdv A outer s HX E) (fSt 1) (tTo (F1 K c t k) (F2 K c t (k + 1))) := by
  have hr1 := hr.mono (show 1 ≤ 4 by omega)
  have hr2 := hr.mono (show 2 ≤ 4 by omega)
  refine ps_up (ps_if (PW.pt (pw_or (pt_val (pe_has hTr hr2 (pa_cons (pv 8) (pa_cons (pv 12) (pa_cons (pv 10) (pa_cons (pv 19) pa_nil)))))) (pw_or1 (PW.pt (pw_and (pt_not (pt_val (pv 2))) (pw_and1 (pt_cmpR op_eq (pe_has hT hr1 (pa_cons (pv 0) (pa_cons pe_int pa_nil))) pe_int (nomark _))))))))
    (pss_one (ps_expr (pe_bm PySem.F.plainAttrs_list PySem.F.slot_list_append PySem.F.type_list_append mt_append (pe_dget (hu_of hr2) (pv 8) pe_str (fun _ _ => rfl)) (pa_cons (pv 19) pa_nil)))) pss_nil) fun D σ H h => ?_
  obtain ⟨⟨b, cl, sg, es, eb, fb, okc⟩, nx⟩ := h
  have nn := ok.nn
  refine ⟨.ref t.e.aD, sg.get (by simp), .ref t.e.aT, sg.get (by simp), .ref t.e.aW, sg.get (by simp), .ref b, sg.get (by simp), _, t.e.aT, t.e.aW, b, c.s5, t.e.kT, t.e.kW, cl, t.pa, rfl, es.hid, ok.b5, SqT.of eb, okc, fun r H1 s1 => ?_⟩
  have es1 := es.same s1
  have eb1 := s1 _ _ eb
  have stay : ∀ {H2 : Hp}, Ef K c t (k + 1) H2 → D.nx σ H2 := fun e2 => nx _ _ ⟨sg.sub (by simp), t.x4, t.cs, e2, .inl rfl⟩
  have put : ∀ {H2 : Hp}, Ef K c t (k + 1) H2 → H2 b = some (.tup cl.vs) → tDrop (tBM K "list" rAppend (tDGet (tVar 8) (tC (.str "facts"))) (tCons (tVar 19) tNil)) D σ H2 := fun {H2} e2 eb2 => by
    have lx : t.x4.length = t.cs.length := by rw [e2.lo.d4.len, List.length_map]
    refine ⟨.ref t.e.aD, sg.get (by simp), t.e.aD, .ref t.e.aF, rfl, (get4 e2.lo.eD).2.2.2, .inl ⟨rfl, _, SqL.of e2.lo.e4⟩, .ref b, sg.get (by simp), t.e.aF, t.x4, _, rfl, rfl, e2.lo.e4, by rw [sizeLine_eq]; omega, ?_⟩
    refine nx _ _ ⟨sg.sub (by simp), t.x4 ++ [.ref b], t.cs ++ [cl], ?_, .inr ⟨cl, rfl, okc⟩⟩
    show Es K c t.e (k + 1) t.x3 (t.x4 ++ [.ref b]) t.rows ((t.cs ++ [cl]).map Clm.d) _
    rw [List.map_append]
    exact e2.fact (Clm.dq fb eb2)
  refine ⟨_, rfl, ?_⟩
  cases r with
  | true => exact put (es1.up (by omega)) eb1
  | false =>
    refine ⟨.bl c.kept, sg.get (by simp), _, rfl, ?_⟩
    cases hc : c.kept with
    | true => exact stay (es1.up (by omega))
    | false =>
      refine ⟨.ref c.p, sg.get (by simp), c.n + k, c.p, 2, rfl, by decide, by decide, by omega, es1.hb.pot, fun d H2 d0 d1 p2 x2 => ?_⟩
      have es2 : Ef K c t (k + 1) H2 := es1.to ok x2 p2 (by omega)
      refine ⟨rfl, _, rfl, ?_⟩
      cases hd : decide (V.int d = V.int 0) with
      | true => exact put es2 (x2 _ _ fb.1.2 eb1)
      | false => exact stay es2
end
end G

set_option Elab.async false
set_option linter.all false
set_option maxRecDepth 100000
set_option maxHeartbeats 4000000
namespace G
open PySem PySem.Spec PyProof.Rows L2 U
open PySem.W (Frag)
theorem Clm.ok_of {p p' : Parts} {m : Int} {cl : Clm} (h : cl.ok p m) (e1 : p.people = p'.people) (e2 : p.labs = p'.labs) : cl.ok p' m := by
  cases cl with
  | bnd a x d n =>
    show x ∈ p'.people.map (·.1) ∧ _
    rw [← e1]
    exact h
  | rose x d e n =>
    show x ∈ p'.people.map (·.1) ∧ _
    rw [← e1]
    exact h
  | lit f x d k =>
    show ∃ ts : List Tab, (x, ts) ∈ p'.labs ∧ _
    rw [← e2]
    exact h
section
variable {P : Program} {w : World} {K : Frag} {mg : Str → Option Value} {base : Heap} {cdv : Value} {A : Around} {outer : List Env} {s : Shared} {HX : Hp} {E : XK} {c : Cf} {t : Tf} {k : Nat}
abbrev TfX : Type := {x : Tf × Nat // x.2 + 110 ≤ 3000 ∧ x.1.cs.length ≤ 100}
theorem fturn (hr : RmC K cdv A s) (ok : c.Ok) (hT : Has P w K mg base 1 "_law_take" P_Ltake [] tkS) (hA : Has P w K mg base 3 "_law_a_claim" P_La_claim [] sp_La_claim) (hTr : Has P w K mg base 2 "_law_is_true" P_Lis_true [] (sp_Ltrue K)) :
    PSs (cxC P w K mg base cdv A outer s HX E) fBod (fun D σ H => ∃ x : TfX, tTo (F0 K c x.1.1 x.1.2) (F2 K c x.1.1 (x.1.2 + 7)) D σ H) := by
  refine pss_some fun x => ?_
  obtain ⟨⟨t, k⟩, h1, h2⟩ := x
  have h1 : k + 110 ≤ 3000 := h1
  have h2 : t.cs.length ≤ 100 := h2
  show PSs _ _ (tTo (F0 K c t k) (F2 K c t (k + 7)))
  exact pss_to (fc0 (k := k) hr ok (by omega) hA) (pss_to1 (fc1 (k := k + 6) hr ok (by omega) h2 hTr hT))
def J11 (K : Frag) (c : Cf) : StP := fun σ H => ∃ (e : En) (x3 : List V) (rows : Rows) (x4 : List V) (cs : List Clm), Sg 20 (f17 c e) σ ∧ Es K c e 1400 x3 x4 rows (cs.map Clm.d) H ∧ (rows.map (·.1)).Sublist e.gs ∧ (∀ r ∈ rows, RowD c e r) ∧ cs.length ≤ c.s4 ∧ ∀ cl ∈ cs, cl.ok ⟨e.pe, e.lb, rows, []⟩ c.s5
theorem ch10 (hr : RmC K cdv A s) (ok : c.Ok) (hT : Has P w K mg base 1 "_law_take" P_Ltake [] tkS) (hA : Has P w K mg base 3 "_law_a_claim" P_La_claim [] sp_La_claim) (hTr : Has P w K mg base 2 "_law_is_true" P_Lis_true [] (sp_Ltrue K)) (gR : mg "range" = none) :
    PS (cxC P w K mg base cdv A outer s HX E) (cSt 10) (tTo (J10 K c) (J11 K c)) := by
  have hr1 := hr.mono (show 1 ≤ 4 by omega)
  refine ps_up (ps_for PassesOwn.never rfl (pi_range1 (by rfl) gR (pa_cons (pe_has hT hr1 (pa_cons (pv 0) (pa_cons (pe_op op_add (pe_ix (ix_tupK (K := K) rfl) (pv 1) pe_int (fun _ _ => rfl)) pe_int) pa_nil))) pa_nil)) (pg_name (i := 7) sc_Lchart.nd rfl (Or.inl rfl)) (fturn hr ok hT hA hTr)) fun D σ H h => ?_
  obtain ⟨⟨e, x3, rows, sg, es, sub, rd⟩, nx⟩ := h
  have nn := ok.nn
  have b4 := ok.b4
  refine ⟨.ref c.p, sg.get (by simp), .ref c.aS, sg.get (by simp), c.aS, _, _, _, rfl, rfl, es.hb.siz, atI_nat (j := 4) rfl, _, _, rfl, rfl, c.n + 1300, c.p, (c.s4 : Int) + 1, rfl, by omega, by omega, by omega, es.hb.pot, fun d H1 d0 d1 p1 x1 => ?_⟩
  have es1 : Es K c e 1301 x3 [] rows [] H1 := es.to ok x1 p1 (by omega)
  obtain ⟨m, rfl⟩ : ∃ m : Nat, d = (m : Int) := ⟨d.toNat, by omega⟩
  refine ⟨(m : Int), rfl, by omega, by omega, ?_⟩
  rw [show ((m : Nat) : Int).toNat = m by omega]
  refine for_range (lo := 0) (n := m) (g := gName 7) (tb := fun D σ H => ∃ x : TfX, tTo (F0 K c x.1.1 x.1.2) (F2 K c x.1.1 (x.1.2 + 7)) D σ H) (D := D) (fun i σ Hc => Sg 20 (f17 c e) σ ∧ ∃ (x4 : List V) (cs : List Clm), Es K c e (1301 + 7 * i) x3 x4 rows (cs.map Clm.d) Hc ∧ cs.length ≤ i ∧ ∀ cl ∈ cs, cl.ok ⟨e.pe, e.lb, rows, []⟩ c.s5)
    ⟨sg, [], [], es1, Nat.le_refl _, fun cl h => by cases h⟩ ?_ ?_
  · rintro i σ Hc hi ⟨sgc, x4, cs, esc, lc, okc⟩
    refine ⟨⟨(⟨e, x3, rows, x4, cs⟩, 1301 + 7 * i), by show 1301 + 7 * i + 110 ≤ 3000; omega, by show cs.length ≤ 100; omega⟩, ⟨sgc.off (by simp), esc⟩, fun σ' H' h => ?_⟩
    obtain ⟨sg', x4', cs', es', hcs⟩ := h
    refine ⟨sg', x4', cs', es'.up (by show 1301 + 7 * i + 7 ≤ _; omega), ?_⟩
    rcases hcs with h | ⟨cl, h1, h2⟩
    · have h : cs' = cs := h
      subst h
      exact ⟨by omega, okc⟩
    · have h1 : cs' = cs ++ [cl] := h1
      subst h1
      refine ⟨by rw [List.length_append]; show cs.length + 1 ≤ i + 1; omega, fun y hy => ?_⟩
      rcases List.mem_append.mp hy with h | h
      · exact okc y h
      · cases List.mem_singleton.mp h
        exact Clm.ok_of h2 rfl rfl
  · rintro σ Hc ⟨sgc, x4, cs, esc, lc, okc⟩
    exact nx _ _ ⟨e, x3, rows, x4, cs, sgc, esc.up (by omega), sub, rd, by omega, okc⟩
end
end G

set_option Elab.async false
set_option linter.all false
set_option maxRecDepth 100000
set_option maxHeartbeats 4000000
namespace U
open PySem PySem.Spec PyProof.Rows L2
/-- statements that end by a return -/
def tEnd (A : StP) (R : V → Hp → Prop) : TS := fun D σ H => A σ H ∧ ∀ v H', R v H' → D.rt v H'
theorem pss_end {X : Cx} {st : Stmt} {ss : List Stmt} {A B : StP} {R : V → Hp → Prop} (h : PS X st (tTo A B)) (hs : PSs X ss (tEnd B R)) : PSs X (st :: ss) (tEnd A R) := pss_up (pss_cons h hs) fun D σ H q => ⟨q.1, fun σ' H' b => ⟨b, q.2⟩⟩
theorem pss_end1 {X : Cx} {st : Stmt} {A : StP} {R : V → Hp → Prop} {te : TE} (h : PS X st (tRet te)) (k : ∀ σ H (Q : VK), A σ H → (∀ v H', R v H' → Q v H') → te σ H Q) : PSs X [st] (tEnd A R) := pss_up (pss_one h) fun D σ H q => k σ H D.rt q.1 q.2
end U
namespace G
open PySem PySem.Spec PyProof.Rows L2 U
open PySem.W (Frag)
theorem sm_b {i : Int} (h : -100000 ≤ i) (h2 : i ≤ 100000) : Sm i := by
  have e : (10 : Int) ^ 11 = 100000000000 := by decide
  unfold Sm
  rw [e]
  omega
theorem TabSm.toS {t : Tab} (h : TabSm t) : TabS t := by
  have ok := h.ok
  obtain ⟨h1, h2, h3, h4, h5, h6, h7, h8, h9, h10⟩ := h
  exact ⟨ok, sm_b (by omega) (by omega), sm_b (by omega) (by omega), sm_b (by omega) (by omega), sm_b (by omega) (by omega), sm_b (by omega) (by omega)⟩
theorem tabsOf_nd : ∀ {ls : Labs} {s : Str} {ts : List Tab}, (ls.map (·.1)).Nodup → (s, ts) ∈ ls → tabsOf ls s = some ts := by
  intro ls s ts nd h
  cases hz : tabsOf ls s with
  | none => exact absurd (List.mem_map.mpr ⟨_, h, rfl⟩) (tabsOf_none hz)
  | some us =>
    have h2 := tabsOf_mem hz
    have : (s, us) = (s, ts) := key_one nd h2 h rfl
    cases this
    rfl
/-- a drawn chart -/
structure Drawn (c : Cf) (pa : Parts) (cs : List Clm) : Prop where
  ok : PaOk pa
  lo : LoreD pa
  rt : ∀ x ∈ pa.people, Rt x
  ts : ∀ l ∈ pa.labs, ∀ t ∈ l.2, TabSm t
  nd : (pa.rows.map (·.1)).Nodup
  rw_ : ∀ r ∈ pa.rows, RwS pa r ∧ ∀ ts, tabsOf pa.labs r.2.lab = some ts → canTell ts r.2.pr = true
  pl : ∀ r ∈ pa.rows, r.1 ∈ pool
  pb : ∀ r ∈ pa.rows, PrnB 30000 r.2.pr
  rl : pa.rows.length ≤ c.s3
  fs : pa.facts = cs.map Clm.d
  fl : cs.length ≤ c.s4
  fk : ∀ cl ∈ cs, cl.ok pa c.s5
section
variable {P : Program} {w : World} {K : Frag} {mg : Str → Option Value} {base : Heap} {cdv : Value} {A : Around} {outer : List Env} {s : Shared} {HX : Hp} {E : XK} {c : Cf}
theorem Es.drawn {e : En} {k : Nat} {x3 x4 : List V} {rows : Rows} {cs : List Clm} {H : Hp} (ok : c.Ok) (h : Es K c e k x3 x4 rows (cs.map Clm.d) H) (sub : (rows.map (·.1)).Sublist e.gs) (rd : ∀ r ∈ rows, RowD c e r) (lc : cs.length ≤ c.s4) (okc : ∀ cl ∈ cs, cl.ok ⟨e.pe, e.lb, rows, []⟩ c.s5) : Drawn c ⟨e.pe, e.lb, rows, cs.map Clm.d⟩ cs := by
  have lo := h.loreD ok
  have a5 := ok.a5
  have b5 := ok.b5
  have b0 := ok.b0
  have b1 := ok.b1
  have b2 := ok.b2
  have ndl : (e.lb.map (·.1)).Nodup := h.lo.z3.nd h.b5.ok
  have pk : PaOk ⟨e.pe, e.lb, rows, cs.map Clm.d⟩ := by
    refine ⟨lo.pe, lo.pl, h.lo.z2.per h.b5.ok, fun x hx => ?_, lo.lb, lo.ll, ndl, fun l hl => ?_⟩
    · obtain ⟨m, em, _⟩ := h.lo.z2.nm
      have hx : x ∈ e.pe := hx
      have : x.1 ∈ e.ns := by
        have h1 : x.1 ∈ e.pe.map (·.1) := List.mem_map.mpr ⟨x, hx, rfl⟩
        have em : e.pe.map (·.1) = e.ns.take m := em
        rw [em] at h1
        exact List.mem_of_mem_take h1
      obtain ⟨r1, r2, r3, r4⟩ := h.lo.z2.rt x hx
      exact ⟨(h.b5.ok.ok _ this).1, r1, r3, sm_b (by omega) (by omega), sm_b (by omega) (by omega)⟩
    · obtain ⟨m, em, _⟩ := h.lo.z3.nm
      have hl : l ∈ e.lb := hl
      have : l.1 ∈ e.ns := by
        have h1 : l.1 ∈ e.lb.map (·.1) := List.mem_map.mpr ⟨l, hl, rfl⟩
        have em : e.lb.map (·.1) = (e.ns.drop 3).take m := em
        rw [em] at h1
        exact List.mem_of_mem_drop (List.mem_of_mem_take h1)
      obtain ⟨t1, t2, t3⟩ := h.lo.z3.tb l hl
      exact ⟨(h.b5.ok.ok _ this).1, t1, by omega, fun t ht => (t3 t ht).toS⟩
  have mem : ∀ r ∈ rows, r.1 ∈ e.gs := fun r hr => sub.subset (List.mem_map.mpr ⟨r, hr, rfl⟩)
  refine ⟨pk, lo, h.lo.z2.rt, fun l hl => (h.lo.z3.tb l hl).2.2, h.nG.nd.sublist sub, fun r hr => ?_, fun r hr => h.nG.pl _ (mem r hr), fun r hr => (rd r hr).pr, ?_, rfl, lc, fun cl hcl => Clm.ok_of (okc cl hcl) rfl rfl⟩
  · have d := rd r hr
    obtain ⟨ts, h1, h2⟩ := d.lb
    have d0 := d.d0
    have d1 := d.d1
    refine ⟨⟨(h.nG.ok _ (mem r hr)).1, d.pe, List.mem_map.mpr ⟨_, h1, rfl⟩, ?_, d0, by omega⟩, fun us hu => ?_⟩
    · have := d.pr
      cases hp : r.2.pr with
      | num i =>
        rw [hp] at this
        obtain ⟨q1, q2⟩ := this
        exact sm_b (by omega) (by omega)
      | word x =>
        rw [hp] at this
        exact this
    · rw [tabsOf_nd ndl h1] at hu
      cases hu
      exact h2
  · have := sub.length_le
    rw [List.length_map, h.lG] at this
    exact this
def sp_Lchart (K : Frag) : Sp := fun vs H Q _ => ∃ c : Cf, vs = [.ref c.p, .ref c.aS, .bl c.kept] ∧ c.Ok ∧ c.H0 = H ∧ Pot H c.p c.n ∧ SqT K H c.aS c.szs ∧
  ∀ (v : V) (pa : Parts) (cs : List Clm) (H' : Hp), Drawn c pa cs → Dq (Own c) H' v (loreD pa) → Pot H' c.p (c.n + 1400) → Ext c.p H H' → Q v H'
theorem has_Lchart (F : Fn K mg "_law_chart" s_Lchart) (hT : Has P w K mg base 1 "_law_take" P_Ltake [] tkS) (hO : Has P w K mg base 2 "_law_of" P_Lof [] ofS) (hN : Has P w K mg base 3 "_law_names" P_Lnames [] nmS) (hTb : Has P w K mg base 3 "_law_table" P_Ltable [] tbS)
    (hH : Has P w K mg base 2 "_law_hidden" P_Lhidden [] sp_Lhidden) (hS : Has P w K mg base 2 "_law_shown" P_Lshown [] sp_Lshown) (hTu : Has P w K mg base 2 "_law_turns_back" P_Lturns_back [] sp_Lturns) (hA : Has P w K mg base 3 "_law_a_claim" P_La_claim [] sp_La_claim) (hTr : Has P w K mg base 2 "_law_is_true" P_Lis_true [] (sp_Ltrue K))
    (gI : mg "isinstance" = none) (gS : mg "str" = none) (gR : mg "range" = none) (gM : mg "min" = none) (gL : mg "len" = none) (gN : mg "int" = none) (gD : mg "dict" = none) : Has P w K mg base 5 "_law_chart" P_Lchart [] (sp_Lchart K) := by
  obtain ⟨⟨fd, F⟩, g⟩ := F
  refine ⟨⟨fd, [], ?_, F.kp, .nil, F.bindsN fun _ _ _ _ _ _ us hl => match us, hl with | [_, _, _], _ => rfl⟩, g⟩
  refine F.ok sc_Lchart (fun vs H Q E h => ?_) (fun cdv A outer s H vs Q E hr h' => ?_)
  · obtain ⟨c, rfl, _⟩ := h
    rfl
  · obtain ⟨c, rfl, ok, rfl, hp, hz, hq⟩ := h'
    have eR : PSs (cxC P w K mg base cdv A outer s c.H0 E) [cSt 11] (tEnd (J11 K c) fun v H' => ∃ pa cs, Drawn c pa cs ∧ Dq (Own c) H' v (loreD pa) ∧ Pot H' c.p (c.n + 1400) ∧ Ext c.p c.H0 H') := pss_end1 (ps_ret (pv 8)) fun σ H Q h k => by
      obtain ⟨e, x3, rows, x4, cs, sg, es, sub, rd, lc, okc⟩ := h
      exact ⟨_, sg.get (by simp), k _ _ ⟨_, cs, es.drawn ok sub rd lc okc, es.lo.lore, es.hb.pot, es.hb.ext⟩⟩
    have all := pss_end (ch0 (outer := outer) (HX := c.H0) (E := E) hr ok hN) (pss_end (ch1 hr ok hT) (pss_end (ch2 hr ok) (pss_end (ch3 hr ok hT hTb gR) (pss_end (ch4 hr ok) (pss_end (ch5 hr ok hH gD) (pss_end (ch6 hr ok) (pss_end (ch7 hr ok hT gR gM gL gN) (pss_end (ch8 hr ok hN) (pss_end (ch9 hr ok hT hO hS hTu gI gS) (pss_end (ch10 hr ok hT hA hTr gR) eR))))))))))
    refine ⟨_, PSs.nox all, ?_⟩
    refine ⟨⟨⟨rfl, fun x hx => ?_⟩, hp, fun _ _ _ z => z, hz⟩, fun v H' h => ?_⟩
    · simp only [f3, List.mem_cons, List.not_mem_nil, or_false] at hx
      rcases hx with rfl | rfl | rfl <;> rfl
    · obtain ⟨pa, cs, h1, h2, h3, h4⟩ := h
      exact hq v pa cs H' h1 h2 h3 h4
end
end G

set_option Elab.async false
set_option linter.all false
set_option maxRecDepth 100000
set_option maxHeartbeats 4000000
namespace G
open PySem PySem.Spec PyProof.Rows L2 U
open PySem.W (Frag)
/-! ### charts with facts, told and read again -/
def wf (c : Clm) : List Str := (factW c.d).map wordS
theorem int_read {i : Int} (h : Sm i) : integerIn (wordS (.int i)) = some i := integer_str h.1 h.2
theorem claim_read {p : Parts} (h : PaOk p) {cl : Clm} (hc : cl.ok p 100) : claimIn p.people p.labs ((wf cl).drop 1) = some cl.d := by
  cases cl with
  | bnd m x d n =>
    obtain ⟨hx, d0, d1, n0, n1⟩ := hc
    have e : (((wf (.bnd m x d n)).drop 1).drop 2).map integerIn = [some d, some n] := by
      show [integerIn (wordS (.int d)), integerIn (wordS (.int n))] = _
      rw [int_read (sm_b (by omega) (by omega)), int_read (sm_b (by omega) (by omega))]
    unfold claimIn
    rw [e, if_neg (show ¬ (List.any [some d, some n] (·.isNone)) = true by simp)]
    refine if_pos ?_
    show isClaimD p.people p.labs (.tuple [.str (if m then "most" else "least"), .str x, .int d, .int n]) = true
    have hw : (if m then ("most" : Str) else "least") ∈ wBnd := by cases m <;> decide +kernel
    show (isLitD _ _ || (decide ((if m then ("most" : Str) else "least") ∈ wBnd) && (decide (x ∈ p.people.map (·.1)) && ((decide (0 ≤ d) && decide (d ≤ 99)) && true)))) = true
    rw [decide_eq_true hw, decide_eq_true hx, decide_eq_true d0, decide_eq_true (show d ≤ 99 by omega)]
    exact Bool.or_true _
  | rose x d f n =>
    obtain ⟨hx, d0, d1, f0, f1, df, n0, n1⟩ := hc
    have e : (((wf (.rose x d f n)).drop 1).drop 2).map integerIn = [some d, some f, some n] := by
      show [integerIn (wordS (.int d)), integerIn (wordS (.int f)), integerIn (wordS (.int n))] = _
      rw [int_read (sm_b (by omega) (by omega)), int_read (sm_b (by omega) (by omega)), int_read (sm_b (by omega) (by omega))]
    unfold claimIn
    rw [e, if_neg (show ¬ (List.any [some d, some f, some n] (·.isNone)) = true by simp)]
    refine if_pos ?_
    show isClaimD p.people p.labs (.tuple [.str "rose", .str x, .int d, .int f, .int n]) = true
    have hw : ("rose" : Str) ∈ (["rose"] : List Str) := List.mem_singleton.mpr rfl
    show (false || (decide (("rose" : Str) ∈ (["rose"] : List Str)) && (decide (x ∈ p.people.map (·.1)) && ((decide (0 ≤ d) && decide (d ≤ 99)) && ((decide (0 ≤ f) && decide (f ≤ 99)) && (!(decide (d = f)) && true)))))) = true
    rw [decide_eq_true hw, decide_eq_true hx, decide_eq_true d0, decide_eq_true (show d ≤ 99 by omega), decide_eq_true f0, decide_eq_true (show f ≤ 99 by omega), decide_eq_false df]
    rfl
  | lit g x d k =>
    obtain ⟨ts, hx, d0, d1, k0, k1⟩ := hc
    have t4 := (h.ls _ hx).2.2.1
    have t4 : ts.length ≤ 4 := t4
    have e : (((wf (.lit g x d k)).drop 1).drop 2).map integerIn = [some d, some k] := by
      show [integerIn (wordS (.int d)), integerIn (wordS (.int k))] = _
      rw [int_read (sm_b (by omega) (by omega)), int_read (sm_b (by omega) (by omega))]
    unfold claimIn
    rw [e, if_neg (show ¬ (List.any [some d, some k] (·.isNone)) = true by simp)]
    refine if_pos ?_
    show isClaimD p.people p.labs (.tuple [.str (if g then "from" else "before"), .str x, .int d, .int k]) = true
    have hw : (if g then ("from" : Str) else "before") ∈ wLit := by cases g <;> decide +kernel
    have hm : manyT p.labs (.str x) = ts.length := by
      show (match tabsOf p.labs x with
        | some ts => ((ts.length : Nat) : Int)
        | none => 0) = _
      rw [tabsOf_nd h.ln hx]
    have hx' : x ∈ p.labs.map (·.1) := List.mem_map.mpr ⟨_, hx, rfl⟩
    have hl : isLitD p.labs (.tuple [.str (if g then "from" else "before"), .str x, .int d, .int k]) = true := by
      show (decide ((if g then ("from" : Str) else "before") ∈ wLit) && (decide (x ∈ p.labs.map (·.1)) && ((decide (0 ≤ d) && decide (d ≤ 99)) && (decide (1 ≤ k) && decide (k ≤ manyT p.labs (.str x) - 1))))) = true
      rw [hm, decide_eq_true hw, decide_eq_true hx', decide_eq_true d0, decide_eq_true (show d ≤ 99 by omega), decide_eq_true k0, decide_eq_true (show k ≤ (ts.length : Int) - 1 by omega)]
      rfl
    unfold isClaimD
    rw [hl]
    exact Bool.true_or _
theorem wd_cw {s : Str} (h : s = "least" ∨ s = "most" ∨ s = "rose" ∨ s = "from" ∨ s = "before") : Wd s := by
  rcases h with rfl | rfl | rfl | rfl | rfl
  all_goals exact ⟨by decide +kernel, by decide +kernel, by decide +kernel⟩
theorem wd_int {i : Int} (h : Sm i) : Wd (wordS (.int i)) := wd_str h.1 h.2
theorem ln_f {p : Parts} (h : PaOk p) {cl : Clm} (hc : cl.ok p 100) : Ln (wf cl) := by
  cases cl with
  | bnd m x d n =>
    obtain ⟨hx, d0, d1, n0, n1⟩ := hc
    obtain ⟨y, hy, e⟩ := List.mem_map.mp hx
    refine ⟨(fun z => by cases z), by show 5 ≤ 30; decide, ?_⟩
    intro w hw
    have hw : w ∈ [("fact" : Str), (if m then "most" else "least"), x, wordS (.int d), wordS (.int n)] := hw
    simp only [List.mem_cons, List.not_mem_nil, or_false] at hw
    rcases hw with rfl | rfl | rfl | rfl | rfl
    · exact wd_kw (.inr (.inr (.inr rfl)))
    · cases m
      · exact wd_cw (.inl rfl)
      · exact wd_cw (.inr (.inl rfl))
    · rw [← e]
      exact wd_name (h.ps y hy).1
    · exact wd_int (sm_b (by omega) (by omega))
    · exact wd_int (sm_b (by omega) (by omega))
  | rose x d f n =>
    obtain ⟨hx, d0, d1, f0, f1, df, n0, n1⟩ := hc
    obtain ⟨y, hy, e⟩ := List.mem_map.mp hx
    refine ⟨(fun z => by cases z), by show 6 ≤ 30; decide, ?_⟩
    intro w hw
    have hw : w ∈ [("fact" : Str), "rose", x, wordS (.int d), wordS (.int f), wordS (.int n)] := hw
    simp only [List.mem_cons, List.not_mem_nil, or_false] at hw
    rcases hw with rfl | rfl | rfl | rfl | rfl | rfl
    · exact wd_kw (.inr (.inr (.inr rfl)))
    · exact wd_cw (.inr (.inr (.inl rfl)))
    · rw [← e]
      exact wd_name (h.ps y hy).1
    · exact wd_int (sm_b (by omega) (by omega))
    · exact wd_int (sm_b (by omega) (by omega))
    · exact wd_int (sm_b (by omega) (by omega))
  | lit g x d k =>
    obtain ⟨ts, hx, d0, d1, k0, k1⟩ := hc
    have t4 := (h.ls _ hx).2.2.1
    have t4 : ts.length ≤ 4 := t4
    refine ⟨(fun z => by cases z), by show 5 ≤ 30; decide, ?_⟩
    intro w hw
    have hw : w ∈ [("fact" : Str), (if g then "from" else "before"), x, wordS (.int d), wordS (.int k)] := hw
    simp only [List.mem_cons, List.not_mem_nil, or_false] at hw
    rcases hw with rfl | rfl | rfl | rfl | rfl
    · exact wd_kw (.inr (.inr (.inr rfl)))
    · cases g
      · exact wd_cw (.inr (.inr (.inr (.inr rfl))))
      · exact wd_cw (.inr (.inr (.inr (.inl rfl))))
    · exact wd_name (h.ls _ hx).1
    · exact wd_int (sm_b (by omega) (by omega))
    · exact wd_int (sm_b (by omega) (by omega))
theorem atoms_f {p : Parts} (h : PaOk p) {cl : Clm} (hc : cl.ok p 100) : ∀ d ∈ factW cl.d, isAtom d = true := by
  intro w hw
  cases cl with
  | bnd m x d n =>
    obtain ⟨hx, d0, d1, n0, n1⟩ := hc
    have hw : w ∈ [PyData.str "fact", .str (if m then "most" else "least"), .str x, .int d, .int n] := hw
    simp only [List.mem_cons, List.not_mem_nil, or_false] at hw
    rcases hw with rfl | rfl | rfl | rfl | rfl
    · rfl
    · rfl
    · rfl
    · exact atom_int (sm_b (by omega) (by omega))
    · exact atom_int (sm_b (by omega) (by omega))
  | rose x d f n =>
    obtain ⟨hx, d0, d1, f0, f1, df, n0, n1⟩ := hc
    have hw : w ∈ [PyData.str "fact", .str "rose", .str x, .int d, .int f, .int n] := hw
    simp only [List.mem_cons, List.not_mem_nil, or_false] at hw
    rcases hw with rfl | rfl | rfl | rfl | rfl | rfl
    · rfl
    · rfl
    · rfl
    · exact atom_int (sm_b (by omega) (by omega))
    · exact atom_int (sm_b (by omega) (by omega))
    · exact atom_int (sm_b (by omega) (by omega))
  | lit g x d k =>
    obtain ⟨ts, hx, d0, d1, k0, k1⟩ := hc
    have t4 := (h.ls _ hx).2.2.1
    have t4 : ts.length ≤ 4 := t4
    have hw : w ∈ [PyData.str "fact", .str (if g then "from" else "before"), .str x, .int d, .int k] := hw
    simp only [List.mem_cons, List.not_mem_nil, or_false] at hw
    rcases hw with rfl | rfl | rfl | rfl | rfl
    · rfl
    · rfl
    · rfl
    · exact atom_int (sm_b (by omega) (by omega))
    · exact atom_int (sm_b (by omega) (by omega))
/-- a chart that is told and read again as it is -/
structure ChOk (p : Parts) (cs : List Clm) : Prop where
  ok : PaOk p
  nd : (p.rows.map (·.1)).Nodup
  rw_ : ∀ r ∈ p.rows, RwS p r ∧ ∀ ts, tabsOf p.labs r.2.lab = some ts → canTell ts r.2.pr = true
  rl : p.rows.length ≤ 24
  fs : p.facts = cs.map Clm.d
  fl : cs.length ≤ 8
  fk : ∀ cl ∈ cs, cl.ok p 100
abbrev wss (p : Parts) (cs : List Clm) : List (List Str) := p.people.map wp ++ (p.labs.map wl ++ (p.rows.map wr ++ (cs.map wf ++ [])))
theorem ChOk.lines {p : Parts} {cs : List Clm} (h : ChOk p cs) : (linesW p).map lineS = (wss p cs).map J := by
  unfold linesW
  rw [h.fs]
  simp only [List.map_append, List.map_map, List.map_nil, List.append_nil, List.append_assoc]
  rfl
theorem ChOk.text {p : Parts} {cs : List Clm} (h : ChOk p cs) : textOf p = textR ((wss p cs).map J) := by
  unfold textOf textR
  rw [h.lines]
theorem ChOk.tx {p : Parts} {cs : List Clm} (h : ChOk p cs) : Tx (wss p cs) := by
  refine ⟨?_, ?_, ?_⟩
  · intro z
    exact h.ok.p1 (List.map_eq_nil_iff.mp (List.append_eq_nil_iff.mp z).1)
  · simp only [List.length_append, List.length_map, List.length_nil]
    have := h.ok.p3
    have := h.ok.l6
    have := h.rl
    have := h.fl
    omega
  · intro ws hw
    simp only [List.mem_append, List.not_mem_nil, or_false] at hw
    rcases hw with hw | hw | hw | hw
    · exact ln_p h.ok ws hw
    · exact ln_l h.ok ws hw
    · obtain ⟨r, hr', rfl⟩ := List.mem_map.mp hw
      exact ln_r h.ok (h.rw_ r hr').1
    · obtain ⟨c, hc, rfl⟩ := List.mem_map.mp hw
      exact ln_f h.ok (h.fk c hc)
theorem ChOk.fits {p : Parts} {cs : List Clm} (h : ChOk p cs) : Fits p := by
  have tx := h.tx
  have lm : ∀ l ∈ linesW p, l.map wordS ∈ wss p cs ∧ ∀ d ∈ l, isAtom d = true := by
    intro l hl
    unfold linesW at hl
    rw [h.fs] at hl
    simp only [wss, List.append_nil, List.mem_append] at hl ⊢
    rcases hl with ((hl | hl) | hl) | hl
    · refine ⟨.inl ?_, atoms_p h.ok l hl⟩
      obtain ⟨x, hx, rfl⟩ := List.mem_map.mp hl
      exact List.mem_map_of_mem (f := wp) hx
    · refine ⟨.inr (.inl ?_), atoms_l h.ok l hl⟩
      obtain ⟨x, hx, rfl⟩ := List.mem_map.mp hl
      exact List.mem_map_of_mem (f := wl) hx
    · obtain ⟨x, hx, rfl⟩ := List.mem_map.mp hl
      exact ⟨.inr (.inr (.inl (List.mem_map_of_mem (f := wr) hx))), atoms_r (h.rw_ x hx).1⟩
    · rw [List.map_map] at hl
      obtain ⟨x, hx, rfl⟩ := List.mem_map.mp hl
      exact ⟨.inr (.inr (.inr (List.mem_map_of_mem (f := wf) hx))), atoms_f h.ok (h.fk x hx)⟩
  have ll : (linesW p).length ≤ 60 := by
    have e := congrArg List.length h.lines
    rw [List.length_map, List.length_map] at e
    rw [e]
    exact tx.few
  refine ⟨by omega, fun l hl => ?_, fun d hd => ?_, ?_⟩
  · obtain ⟨h1, h2⟩ := lm l hl
    have L := tx.all _ h1
    have f := L.few
    rw [List.length_map] at f
    refine ⟨by omega, h2, ?_⟩
    have := sum_le (xs := (l.map wordS).map (·.length)) (m := 12) (fun x hx => by
      obtain ⟨w, hw, rfl⟩ := List.mem_map.mp hx
      exact (L.all w hw).l)
    rw [List.length_map, List.length_map] at this
    omega
  · rw [h.fs] at hd
    obtain ⟨c, _, rfl⟩ := List.mem_map.mp hd
    cases c <;> exact ⟨_, rfl⟩
  · have := sum_ok tx
    rw [← h.lines, List.length_map] at this
    exact this
theorem ChOk.textOk {p : Parts} {cs : List Clm} (h : ChOk p cs) : TextOk (textOf p) := by
  rw [h.text]
  exact text_ok h.tx
theorem ChOk.lore {p : Parts} {cs : List Clm} (h : ChOk p cs) : LoreOk p := by
  refine ⟨h.fits, fun l hl z => ?_, fun d hd => ?_⟩
  · have := (h.ok.ls l hl).2.1
    rw [z] at this
    cases this
  · rw [h.fs] at hd
    obtain ⟨c, _, rfl⟩ := List.mem_map.mp hd
    cases c <;> exact ⟨_, rfl, fun z => by cases z⟩
theorem rws_day {p : Parts} {r : Str × Row} (hr : RwS p r) : isDayD (.int r.2.day) = true := by
  show (decide (0 ≤ r.2.day) && decide (r.2.day ≤ 99)) = true
  rw [decide_eq_true hr.d0, decide_eq_true hr.d1]
  rfl
theorem lab_tabs {p : Parts} {s : Str} (h : s ∈ p.labs.map (·.1)) : ∃ ts, tabsOf p.labs s = some ts := by
  cases hz : tabsOf p.labs s with
  | none => exact absurd h (tabsOf_none hz)
  | some ts => exact ⟨ts, rfl⟩
theorem rows_read {p : Parts} {r : Str × Row} (h : RwS p r ∧ ∀ ts, tabsOf p.labs r.2.lab = some ts → canTell ts r.2.pr = true) : resultIn p.people p.labs (wr r) = some r.2 := by
  obtain ⟨h1, h2⟩ := h
  obtain ⟨ts, ht⟩ := lab_tabs h1.la
  show resultIn _ _ ((rowW r).map wordS) = _
  rw [row_read h1.n h1.pe ht h1.pr (sm_day h1.d0 h1.d1) (rws_day h1), if_pos (h2 ts ht)]
theorem ChOk.read {p : Parts} {cs : List Clm} (h : ChOk p cs) : readText (textOf p) = .inr p := by
  have Rd : Reads (p.people.map wp) (p.labs.map wl) (p.rows.map wr) (cs.map wf) [] p.people p.labs p.rows (cs.map Clm.d) := by
    refine ⟨?_, labs_stop h.ok _, ?_, ?_, ?_, ?_, ?_, True.intro⟩
    · exact steps_pairs (found := []) (fun x hx => ⟨person_read (h.ok.ps x hx).1 (h.ok.ps x hx).2.1 (h.ok.ps x hx).2.2.1 (h.ok.ps x hx).2.2.2.1 (h.ok.ps x hx).2.2.2.2, rfl, rfl⟩) h.ok.pn (fun x _ z => by cases z) (by show 0 + _ ≤ _; have := h.ok.p3; omega)
    · exact steps_pairs (found := []) (fun x hx => ⟨lab_read (h.ok.ls x hx).1 (h.ok.ls x hx).2.1 (h.ok.ls x hx).2.2.1 (h.ok.ls x hx).2.2.2, rfl, rfl⟩) h.ok.ln (fun x _ z => by cases z) (by show 0 + _ ≤ _; have := h.ok.l6; omega)
    · cases hr : p.rows with
      | nil =>
        cases cs with
        | nil => exact True.intro
        | cons x xs => cases x <;> exact stops_kw (kw_ne (by decide +kernel))
      | cons x xs => exact stops_kw (kw_ne (by decide +kernel))
    · exact steps_pairs (found := []) (fun x hx => ⟨rows_read (h.rw_ x hx), rfl, rfl⟩) h.nd (fun x _ z => by cases z) (by show 0 + _ ≤ _; have := h.rl; omega)
    · cases cs with
      | nil => exact True.intro
      | cons x xs => cases x <;> exact stops_kw (kw_ne (by decide +kernel))
    · exact stepsF_map (W := wf) (t := Clm.d) (found := []) (fun x hx => ⟨claim_read h.ok (h.fk x hx), by cases x <;> rfl⟩) (by show 0 + _ ≤ _; have := h.fl; omega)
  have r := read_by h.tx Rd h.ok.p1 h.ok.l1
  rw [if_pos rfl] at r
  rw [h.text]
  refine r.trans ?_
  have := h.fs
  cases p
  cases this
  rfl
theorem Drawn.ch {c : Cf} {pa : Parts} {cs : List Clm} (h : Drawn c pa cs) (ok : c.Ok) : ChOk pa cs := by
  have b3 := ok.b3
  have b4 := ok.b4
  have b5 := ok.b5
  have rl := h.rl
  have fl := h.fl
  refine ⟨h.ok, h.nd, h.rw_, by omega, h.fs, by omega, fun cl hc => ?_⟩
  have q := h.fk cl hc
  cases cl with
  | bnd m x d n => exact ⟨q.1, q.2.1, by have := q.2.2.1; omega, q.2.2.2⟩
  | rose x d f n => exact ⟨q.1, q.2.1, by have := q.2.2.1; omega, q.2.2.2.1, by have := q.2.2.2.2.1; omega, q.2.2.2.2.2⟩
  | lit g x d k =>
    obtain ⟨ts, h1, h2, h3, h4⟩ := q
    exact ⟨ts, h1, h2, by omega, h4⟩
end G

set_option Elab.async false
set_option linter.all false
set_option maxRecDepth 100000
set_option maxHeartbeats 4000000
namespace G
open PySem PySem.Spec PyProof.Rows L2 U
open PySem.W (Frag)
theorem paired_app {α β : Type} {R : α → β → Prop} : ∀ {as : List α} {bs : List β} {cs : List α} {ds : List β}, Paired R as bs → Paired R cs ds → Paired R (as ++ cs) (bs ++ ds)
  | _, _, _, _, .nil, h => h
  | _, _, _, _, .cons r t, h => .cons r (paired_app t h)
abbrev kv4 (u1 u2 u3 u4 : V) : List (Key × V) := [(.inr "people", u1), (.inr "labs", u2), (.inr "results", u3), (.inr "facts", u4)]
def wLore : List Str := ["people", "labs", "results", "facts"]
theorem set4 {w : Str} (hw : w ∈ wLore) (x u1 u2 u3 u4 : V) : mergeK [] (kv4 u1 u2 u3 u4 ++ [(Sum.inr w, x)]) = kv4 (if w = "people" then x else u1) (if w = "labs" then x else u2) (if w = "results" then x else u3) (if w = "facts" then x else u4) := by
  have e : mergeK [] (kv4 u1 u2 u3 u4 ++ [(Sum.inr w, x)]) = putK (mergeK [] (kv4 u1 u2 u3 u4)) (Sum.inr w) x := by
    unfold mergeK
    rw [List.foldl_append]
    rfl
  rw [e, merge4']
  have n1 : Str.ofString "people" ≠ Str.ofString "labs" := by decide +kernel
  have n2 : Str.ofString "people" ≠ Str.ofString "results" := by decide +kernel
  have n3 : Str.ofString "people" ≠ Str.ofString "facts" := by decide +kernel
  have n4 : Str.ofString "labs" ≠ Str.ofString "results" := by decide +kernel
  have n5 : Str.ofString "labs" ≠ Str.ofString "facts" := by decide +kernel
  have n6 : Str.ofString "results" ≠ Str.ofString "facts" := by decide +kernel
  have hw : w = "people" ∨ w = "labs" ∨ w = "results" ∨ w = "facts" := by simpa [wLore] using hw
  rcases hw with rfl | rfl | rfl | rfl
  all_goals simp [putK, n1, n2, n3, n4, n5, n6, n1.symm, n2.symm, n3.symm, n4.symm, n5.symm, n6.symm]
section
variable {P : Program} {w : World} {K : Frag} {mg : Str → Option Value} {base : Heap} {C fN g : Addr} {fdN fdg : FuncData}
/-! ### _law_with -/
def sp_Lwith : Sp := fun vs H Q _ => ∃ (a : Addr) (wd : Str) (x u1 u2 u3 u4 : V), vs = [.ref a, .str wd, x] ∧ wd ∈ wLore ∧ H a = some (dK4 u1 u2 u3 u4) ∧
  ∀ q H', Same H H' → H q = none → H' q = some (dK4 (if wd = "people" then x else u1) (if wd = "labs" then x else u2) (if wd = "results" then x else u3) (if wd = "facts" then x else u4)) → Q (.ref q) H'
abbrev cxW (P : Program) (w : World) (K : Frag) (mg : Str → Option Value) (base : Heap) (cdv : Value) (A : Around) (outer : List Env) (s : Shared) (HX : Hp) (E : XK) : Cx := (cxOf CX0 P w K mg base N_Lwith "_law_with" (defScope s_Lwith) (He.ga K "_law_with") cdv A outer s HX E).nox
theorem has_Lwith (F : Fn K mg "_law_with" s_Lwith) (gD : mg "dict" = none) (gL : mg "list" = none) : Has P w K mg base 1 "_law_with" P_Lwith [] sp_Lwith := by
  obtain ⟨⟨fd, F⟩, g⟩ := F
  refine ⟨⟨fd, [], ?_, F.kp, .nil, F.bindsN fun _ _ _ _ _ _ us hl => match us, hl with | [_, _, _], _ => rfl⟩, g⟩
  refine F.ok sc_Lwith (fun vs H Q E h => ?_) (fun cdv A outer s H vs Q E hr h' => ?_)
  · obtain ⟨a, wd, x, u1, u2, u3, u4, rfl, _⟩ := h
    rfl
  · obtain ⟨a, wd, x, u1, u2, u3, u4, rfl, hw, ea, hq⟩ := h'
    have e0 : PS (cxW P w K mg base cdv A outer s H E) ((defBody s_Lwith).getD 0 sN0) _ := ps_ret (pe_callTy (call_dictP (X := cxW P w K mg base cdv A outer s H E) rfl) (by rfl) gD (by decide +kernel) (pa_cons (pe_op op_cat (LiI.pe_listItems rfl (pv 0) (by rfl) gL (by decide +kernel)) (pe_lst (pa_cons (pe_tup (pa_cons (pv 1) (pa_cons (pv 2) pa_nil))) pa_nil))) pa_nil))
    refine ⟨_, PSs.nox (pss_one e0), ?_⟩
    clear e0
    refine ⟨_, rfl, a, _, rfl, ea, fun H1 p ts s1 np nts pts e1 pair => ?_⟩
    refine ⟨_, rfl, _, rfl, (show 2 ≤ sizeLine by decide), fun t nt => ?_⟩
    refine ⟨(show 1 ≤ sizeLine by decide), fun l nl => ?_⟩
    have s2 := same_new (o := .tup [.str wd, x]) nt
    have s3 := same_new (o := .lst [.ref t]) nl
    have lt : ts.length = 4 := Paired.length pair
    refine ⟨p, l, _, _, rfl, rfl, s3 _ _ (s2 _ _ e1), upd_same, by rw [List.length_map, lt]; show 5 ≤ sizeLine; decide, fun q nq => ?_⟩
    have s4 := same_new (o := .lst (ts.map V.ref ++ [.ref t])) nq
    generalize hH4 : upd (upd (upd H1 t (.tup [.str wd, x])) l (.lst [.ref t])) q (.lst (ts.map V.ref ++ [.ref t])) = H4 at s4
    have e4 : H4 q = some (.lst (ts.map V.ref ++ [.ref t])) := by rw [← hH4]; exact upd_same
    have sB : Same H1 H4 := fun b o z => s4 _ _ (s3 _ _ (s2 _ _ z))
    have sA : Same H H4 := fun b o z => sB _ _ (s1 _ _ z)
    have et : H4 t = some (.tup [.str wd, x]) := s4 _ _ (s3 _ _ upd_same)
    refine ⟨q, ts ++ [t], kv4 u1 u2 u3 u4 ++ [(Sum.inr wd, x)], rfl, ?_, ?_, fun r nr => ?_⟩
    · rw [List.map_append]
      exact SqL.of e4
    · exact paired_app (paired_imp (fun t kv h => SqT.of (sB _ _ h)) pair) (.cons (SqT.of et) .nil)
    · rw [set4 hw]
      exact hq r _ (fun b o z => same_new nr _ _ (sA _ _ z)) (none_of_same sA nr) upd_same
/-! ### _law_is_made -/
def sp_Lmade (C : Addr) : Sp := fun vs H Q _ => ∃ (v lv : V) (p : Parts), vs = [v, lv] ∧ ChartIs C H v p ∧ Da H lv (loreD p) ∧ LoreOk p ∧ ∀ H', Same H H' → Q (.bl true) H'
theorem has_Lmade (F : Fn K mg "_law_is_made" s_Lis_made) (TC : ChartT K mg C fN fdN) (TT : TextT K C g fdg) (IC : IsCh K C) (hX : Has P w K mg base 1 "text_of" P_text_of [] sp_text_of) (hT : Has P w K mg base 3 "_law_text" P_Ltext [] sp_Ltext) (gI : mg "isinstance" = none) : Has P w K mg base 4 "_law_is_made" P_Lis_made [] (sp_Lmade C) := by
  have bg : Binds K fdg P_Chart_text [] := TT.fn.bindsN fun _ _ _ _ _ _ us hl => match us, hl with | [_], _ => rfl
  obtain ⟨pp, hp⟩ := TT.prop
  obtain ⟨⟨fd, F⟩, g⟩ := F
  refine ⟨⟨fd, [], ?_, F.kp, .nil, F.bindsN fun _ _ _ _ _ _ us hl => match us, hl with | [_, _], _ => rfl⟩, g⟩
  refine F.ok sc_Lis_made (fun vs H Q E h => ?_) (fun cdv A outer s H vs Q E hr h' => ?_)
  · obtain ⟨v, u, p, rfl, _⟩ := h
    rfl
  · obtain ⟨v, lv, p, rfl, hc, hd, lo, hq⟩ := h'
    refine ⟨_, PSs.nox (pss_one (ps_ret (pe_and (pe_callB call_isi (by rfl) gI (by decide +kernel) (pa_cons (pv 0) (pa_cons (pe_glob (by rfl) TC.g (v := .ref C) rfl) pa_nil)))
      (pe_one (pe_cmpR op_eq (pe_prop (pv 0) TC.cls hp (ok_Chart_text TC TT hX) (hr.mono (by omega)) bg .nil pass0 rfl) (pe_has hT hr (pa_cons (pv 1) pa_nil)) (nomark _)))))), ?_⟩
    have hc0 := hc
    obtain ⟨a, dx, v1, v2, v3, v4, rfl, ea, _⟩ := hc
    refine ⟨_, rfl, .ref a, .ref C, .ref C, .ref C, true, rfl, .own C, .base (.ins ea TC.cls IC.ha IC.hn IC.htk IC.hm), IC.kit, true, rfl, ?_⟩
    refine iteT ?_
    refine ⟨_, rfl, a, dx, _, rfl, ea, .ref a, p, rfl, hc0, lo.fit, fun H1 s1 => ?_⟩
    refine ⟨_, rfl, lv, p, rfl, hd.same s1, lo, fun H2 s2 => ⟨rfl, ?_⟩⟩
    rw [decide_eq_true rfl]
    exact hq H2 fun x o z => s2 _ _ (s1 _ _ z)
end
end G

set_option Elab.async false
set_option linter.all false
set_option maxRecDepth 100000
set_option maxHeartbeats 4000000
namespace G
open PySem PySem.Spec PyProof.Rows L2 U
open PySem.W (Frag)
/-! ### charts that are changed stay charts -/
theorem claim_is {p : Parts} (h : PaOk p) {cl : Clm} (hc : cl.ok p 100) : isClaimD p.people p.labs cl.d = true := by
  have e := claim_read h hc
  unfold claimIn at e
  split at e
  · cases e
  · split at e
    · rename_i h2
      rw [← Option.some.inj e]
      exact h2
    · cases e
theorem PaOk.rows {p : Parts} (h : PaOk p) (rows : Rows) (facts : List PyData) : PaOk { p with rows := rows, facts := facts } := ⟨h.p1, h.p3, h.pn, h.ps, h.l1, h.l6, h.ln, h.ls⟩
theorem RwS.of {p p' : Parts} {r : Str × Row} (h : RwS p r) (e1 : p.people.map (·.1) = p'.people.map (·.1)) (e2 : p.labs.map (·.1) = p'.labs.map (·.1)) : RwS p' r := ⟨h.n, e1 ▸ h.pe, e2 ▸ h.la, h.pr, h.d0, h.d1⟩
theorem Clm.ok_nm {p p' : Parts} {m : Int} {cl : Clm} (h : cl.ok p m) (e1 : p.people.map (·.1) = p'.people.map (·.1)) (e2 : p.labs = p'.labs) : cl.ok p' m := by
  cases cl with
  | bnd a x d n =>
    show x ∈ p'.people.map (·.1) ∧ _
    rw [← e1]
    exact h
  | rose x d e n =>
    show x ∈ p'.people.map (·.1) ∧ _
    rw [← e1]
    exact h
  | lit f x d k =>
    show ∃ ts : List Tab, (x, ts) ∈ p'.labs ∧ _
    rw [← e2]
    exact h
theorem filter_at {α : Type} : ∀ {xs : List (Str × α)} {i : Nat} {x : Str × α}, (xs.map (·.1)).Nodup → xs[i]? = some x → xs.filter (fun y => !decide (y.1 = x.1)) = xs.take i ++ xs.drop (i + 1)
  | [], i, x, _, h => by cases h
  | y :: ys, 0, x, nd, h => by
    cases h
    rw [List.filter_cons_of_neg (by simp)]
    rw [List.map_cons, List.nodup_cons] at nd
    show _ = ys
    refine List.filter_eq_self.mpr fun z hz => ?_
    have : z.1 ≠ y.1 := fun e => nd.1 (List.mem_map.mpr ⟨z, hz, e⟩)
    simp [this]
  | y :: ys, i + 1, x, nd, h => by
    rw [List.map_cons, List.nodup_cons] at nd
    have h : ys[i]? = some x := h
    have : y.1 ≠ x.1 := fun e => nd.1 (List.mem_map.mpr ⟨x, List.mem_of_getElem? h, e.symm⟩)
    rw [List.filter_cons_of_pos (by simp [this]), filter_at nd.2 h]
    rfl
theorem ChOk.less {p : Parts} {cs : List Clm} (h : ChOk p cs) (n : Str) : ChOk (p.less n) cs := by
  refine ⟨h.ok.rows _ _, ?_, fun r hr => ?_, ?_, h.fs, h.fl, fun cl hc => Clm.ok_of (h.fk cl hc) rfl rfl⟩
  · exact h.nd.sublist ((List.filter_sublist).map _)
  · have := h.rw_ r (List.mem_filter.mp hr).1
    exact ⟨this.1.of rfl rfl, this.2⟩
  · exact Nat.le_trans (List.length_filter_le _ _) h.rl
theorem ChOk.facts {p : Parts} {cs : List Clm} (h : ChOk p cs) {fs : List Clm} (hl : fs.length ≤ 8) (hf : ∀ cl ∈ fs, cl.ok p 100) : ChOk { p with facts := fs.map Clm.d } fs :=
  ⟨h.ok.rows _ _, h.nd, fun r hr => ⟨(h.rw_ r hr).1.of rfl rfl, (h.rw_ r hr).2⟩, h.rl, rfl, hl, fun cl hc => Clm.ok_of (hf cl hc) rfl rfl⟩
theorem setAt_names {α : Type} (xs : List (Str × α)) (n : Str) (y : α) : (setAt xs n y).map (·.1) = xs.map (·.1) := by
  unfold setAt
  rw [List.map_map]
  refine List.map_congr_left fun x _ => ?_
  show (if x.1 = n then (x.1, y) else x).1 = x.1
  split <;> rfl
theorem ChOk.rate {p : Parts} {cs : List Clm} (h : ChOk p cs) (n : Str) {y : Int × Int} (h1 : 0 ≤ y.1) (h2 : 0 ≤ y.2) (s1 : Sm y.1) (s2 : Sm y.2) : ChOk { p with people := setAt p.people n y } cs := by
  have e1 : p.people.map (·.1) = (setAt p.people n y).map (·.1) := (setAt_names _ _ _).symm
  refine ⟨⟨fun z => ?_, ?_, ?_, fun x hx => ?_, h.ok.l1, h.ok.l6, h.ok.ln, h.ok.ls⟩, h.nd, fun r hr => ⟨(h.rw_ r hr).1.of e1 rfl, (h.rw_ r hr).2⟩, h.rl, h.fs, h.fl, fun cl hc => Clm.ok_nm (h.fk cl hc) e1 rfl⟩
  · have z : setAt p.people n y = [] := z
    exact h.ok.p1 (List.map_eq_nil_iff.mp z)
  · show (setAt p.people n y).length ≤ 3
    unfold setAt
    rw [List.length_map]
    exact h.ok.p3
  · show ((setAt p.people n y).map (·.1)).Nodup
    rw [← e1]
    exact h.ok.pn
  · have hx : x ∈ setAt p.people n y := hx
    unfold setAt at hx
    obtain ⟨z, hz, rfl⟩ := List.mem_map.mp hx
    have hp := h.ok.ps z hz
    show isName (if z.1 = n then (z.1, y) else z).1 = true ∧ _
    split
    · exact ⟨hp.1, h1, h2, s1, s2⟩
    · exact hp
theorem ChOk.more {p : Parts} {cs : List Clm} (h : ChOk p cs) {r : Str × Row} (hl : p.rows.length ≤ 23) (hn : r.1 ∉ p.rows.map (·.1)) (hr : RwS p r) (ht : ∀ ts, tabsOf p.labs r.2.lab = some ts → canTell ts r.2.pr = true) : ChOk { p with rows := p.rows ++ [r] } cs := by
  refine ⟨h.ok.rows _ _, ?_, fun x hx => ?_, ?_, h.fs, h.fl, fun cl hc => Clm.ok_of (h.fk cl hc) rfl rfl⟩
  · show ((p.rows ++ [r]).map (·.1)).Nodup
    rw [List.map_append, List.nodup_append]
    refine ⟨h.nd, by simp, fun a ha b hb => ?_⟩
    have : b = r.1 := by simpa using hb
    subst this
    exact fun z => hn (z ▸ ha)
  · rcases List.mem_append.mp hx with hx | hx
    · exact ⟨(h.rw_ x hx).1.of rfl rfl, (h.rw_ x hx).2⟩
    · cases List.mem_singleton.mp hx
      exact ⟨hr.of rfl rfl, ht⟩
  · show (p.rows ++ [r]).length ≤ 24
    rw [List.length_append]
    exact Nat.succ_le_succ hl
theorem put_out {p : Parts} {cs : List Clm} (h : ChOk p cs) {r : Str × Row} (hl : p.rows.length ≤ 23) (hn : r.1 ∉ p.rows.map (·.1)) (hr : RwS p r) (ht : ∀ ts, tabsOf p.labs r.2.lab = some ts → canTell ts r.2.pr = true) : putOut p (putWords (.str (J (wr r)))) = .inr r := by
  rw [put_words (ln_r h.ok hr)]
  have e : putTold p (wr r) = some r.2 := by
    unfold putTold
    rw [if_pos (show (wr r)[0]? = some ("result" : Str) from rfl)]
    exact rows_read ⟨hr, ht⟩
  unfold putOut
  rw [e]
  show (if r.1 ∈ p.rows.map (·.1) then _ else if p.rows.length = 24 then _ else _) = _
  rw [if_neg hn, if_neg (by omega)]
  rfl
theorem ChOk.made {p : Parts} {cs : List Clm} {H : Hp} {C CB : Addr} {Q : VK} {E : XK} (h : ChOk p cs) (k : ∀ a H', Same H H' → H a = none → ChartIs C H' (.ref a) p → Q (.ref a) H') : MadeTo H C CB p Q E := by
  refine ⟨h.fits, h.textOk, ?_⟩
  rw [h.read]
  exact k
theorem clm_nl (cs : List Clm) : noLists (cs.map Clm.d) = true := noLists_map (fun c => by cases c <;> simp [Clm.d, noList, noLists]) cs
theorem ChartIs.ext {C p : Addr} {H H' : Hp} {v : V} {q : Parts} {cs : List Clm} {n : Nat} (h : ChartIs C H v q) (hf : q.facts = cs.map Clm.d) (hp : Pot H p n) (e : Ext p H H') : ChartIs C H' v q := by
  obtain ⟨ys, hy⟩ := hp.in
  exact h.moveP (by rw [hf]; exact clm_nl cs) hy (fun c o hc z _ => e c o hc z)
end G

set_option Elab.async false
set_option linter.all false
set_option maxRecDepth 100000
set_option maxHeartbeats 4000000
namespace G
open PySem PySem.Spec PyProof.Rows L2 U
open PySem.W (Frag)
/-- where classes and methods lie -/
structure RE where
  C : Addr
  CB : Addr
  CR : Addr
  CC : Addr
  CF : Addr
  CN : Addr
  CP : Addr
  CS : Addr
  CE : Addr
  CL : Addr
  fN : Addr
  g : Addr
  fW : Addr
  fT : Addr
  fU : Addr
  fR : Addr
  fP : Addr
  dN : FuncData
  dg : FuncData
  dW : FuncData
  dT : FuncData
  dU : FuncData
  dR : FuncData
  dP : FuncData
/-- all that _law_right leans on -/
structure RE.Ok (P : Program) (w : World) (K : Frag) (mg : Str → Option Value) (base : Heap) (e : RE) : Prop where
  TC : ChartT K mg e.C e.fN e.dN
  TT : TextT K e.C e.g e.dg
  hT : Has P w K mg base 1 "_law_take" P_Ltake [] tkS
  hO : Has P w K mg base 2 "_law_of" P_Lof [] ofS
  hA : Has P w K mg base 3 "_law_a_claim" P_La_claim [] sp_La_claim
  hCh : Has P w K mg base 5 "_law_chart" P_Lchart [] (sp_Lchart K)
  hL : Has P w K mg base 3 "_law_text" P_Ltext [] sp_Ltext
  hMd : Has P w K mg base 4 "_law_is_made" P_Lis_made [] (sp_Lmade e.C)
  hWi : Has P w K mg base 1 "_law_with" P_Lwith [] sp_Lwith
  hPr : Has P w K mg base 1 "_law_print_text" P_Lprint_text [] sp_Lprint
  hTu : Has P w K mg base 2 "_law_turns_back" P_Lturns_back [] sp_Lturns
  hRT : HasX P w K mg base 7 "read_text" P_read_text (sp_read_text e.CB)
  hX : Has P w K mg base 1 "text_of" P_text_of [] sp_text_of
  mW : Meth K e.C "without" e.fW
  GW : FnOk P w K mg base (L2.CX P w) 11 e.fW e.dW P_Chart_without (sp_without e.C e.CB e.CR)
  bW : Binds K e.dW P_Chart_without []
  mT : Meth K e.C "told" e.fT
  GT : FnOk P w K mg base (L2.CX P w) 11 e.fT e.dT P_Chart_told (sp_told e.C e.CB e.CC e.CF)
  bT : Binds K e.dT P_Chart_told []
  mU : Meth K e.C "untold" e.fU
  GU : FnOk P w K mg base (L2.CX P w) 11 e.fU e.dU P_Chart_untold (sp_untold e.C e.CB e.CN)
  bU : Binds K e.dU P_Chart_untold []
  mR : Meth K e.C "rated" e.fR
  GR : FnOk P w K mg base (L2.CX P w) 11 e.fR e.dR P_Chart_rated (sp_rated e.C e.CB e.CP e.CS e.CE)
  bR : Binds K e.dR P_Chart_rated []
  mP : Meth K e.C "put" e.fP
  GP : FnOk P w K mg base (L2.CX P w) 11 e.fP e.dP P_Chart_put (sp_put e.C e.CB e.CL e.CF)
  bP : Binds K e.dP P_Chart_put []
  gE : mg "enumerate" = none
  gR : mg "range" = none
  gL : mg "len" = none
/-- what _law_right is called with -/
structure Rb where
  p : Addr
  n : Nat
  H0 : Hp
structure Rg where
  lv : Addr
  cv : Addr
  pa : Parts
  cs : List Clm
structure Rg.Ok (b : Rb) (g : Rg) : Prop where
  nn : b.n + 6000 ≤ 100000
  lo : LoreD g.pa
  ck : ChOk g.pa g.cs
  r6 : g.pa.rows.length ≤ 6
  c4 : g.cs.length ≤ 4
  fr : ("fresh" : Str) ∉ g.pa.rows.map (·.1)
  rt : ∀ x ∈ g.pa.people, Rt x
  ts : ∀ l ∈ g.pa.labs, ∀ t ∈ l.2, TabSm t
structure Lx (b : Rb) (g : Rg) (k : Nat) (H : Hp) : Prop where
  pot : Pot H b.p (b.n + k)
  ext : Ext b.p b.H0 H
  lo : Dq (fun a => a ≠ b.p) H (.ref g.lv) (loreD g.pa)
structure Rx (C : Addr) (b : Rb) (g : Rg) (k : Nat) (H : Hp) : Prop extends Lx b g k H where
  ch : ChartIs C H (.ref g.cv) g.pa
theorem Lx.to {b : Rb} {g : Rg} {k m : Nat} {H H' : Hp} (h : Lx b g k H) (e : Ext b.p H H') {j : Nat} (hp : Pot H' b.p j) (l : j ≤ b.n + m) : Lx b g m H' := ⟨hp.up l, h.ext.trans e, h.lo.move (fun _ f => f) fun a o f z => e _ _ f z⟩
theorem Lx.same {b : Rb} {g : Rg} {k : Nat} {H H' : Hp} (h : Lx b g k H) (s : Same H H') : Lx b g k H' := h.to (.of s) (h.pot.sm s) (Nat.le_refl _)
theorem Rx.to {C : Addr} {b : Rb} {g : Rg} {k m : Nat} {H H' : Hp} (h : Rx C b g k H) (ok : g.Ok b) (e : Ext b.p H H') {j : Nat} (hp : Pot H' b.p j) (l : j ≤ b.n + m) : Rx C b g m H' := ⟨h.toLx.to e hp l, h.ch.ext ok.ck.fs h.pot e⟩
theorem Rx.same {C : Addr} {b : Rb} {g : Rg} {k : Nat} {H H' : Hp} (h : Rx C b g k H) (s : Same H H') : Rx C b g k H' := ⟨h.toLx.same s, h.ch.same s⟩
theorem Rx.up {C : Addr} {b : Rb} {g : Rg} {k m : Nat} {H : Hp} (h : Rx C b g k H) (l : k ≤ m) : Rx C b g m H := ⟨⟨h.pot.up (by omega), h.ext, h.lo⟩, h.ch⟩
abbrev rS (i : Nat) : Stmt := (defBody s_Lright).getD i sN0
theorem fresh_pool : ("fresh" : Str) ∉ pool := by decide +kernel
section
variable {P : Program} {w : World} {K : Frag} {mg : Str → Option Value} {base : Heap} {cdv : Value} {A : Around} {outer : List Env} {s : Shared} {HX : Hp} {E : XK} {e : RE} {b : Rb} {g : Rg}
abbrev cxG (P : Program) (w : World) (K : Frag) (mg : Str → Option Value) (base : Heap) (cdv : Value) (A : Around) (outer : List Env) (s : Shared) (HX : Hp) (E : XK) : Cx := (cxOf CX0 P w K mg base N_Lright "_law_right" (defScope s_Lright) (He.ga K "_law_right") cdv A outer s HX E).nox
abbrev RmG (K : Frag) (cdv : Value) (A : Around) (s : Shared) : Prop := Room 12 (A.deeper (envOfC "_law_right" (defScope s_Lright) s.heap.objs.size (He.ga K "_law_right") cdv))
abbrev q0 (b : Rb) : List (Nat × V) := [(0, .ref b.p)]
abbrev q2 (b : Rb) (g : Rg) : List (Nat × V) := (2, .ref g.cv) :: (1, .ref g.lv) :: q0 b
def S0 (b : Rb) : StP := fun σ H => Sg 19 (q0 b) σ ∧ b.n + 6000 ≤ 100000 ∧ Pot H b.p b.n ∧ Ext b.p b.H0 H
def S1 (b : Rb) : StP := fun σ H => ∃ g : Rg, Sg 19 ((1, .ref g.lv) :: q0 b) σ ∧ g.Ok b ∧ Lx b g 1402 H
def S2 (C : Addr) (b : Rb) : StP := fun σ H => ∃ g : Rg, Sg 19 (q2 b g) σ ∧ g.Ok b ∧ Rx C b g 1402 H
theorem rg0 (R : e.Ok P w K mg base) (hr : RmG K cdv A s) : PS (cxG P w K mg base cdv A outer s HX E) (rS 0) (tTo (S0 b) (S1 b)) := by
  refine ps_up (ps_set (i := 1) sc_Lright.nd rfl (Or.inl rfl) (pe_has R.hCh (hr.mono (by decide)) (pa_cons (pv 0) (pa_cons (pe_tup (pa_cons pe_int (pa_cons pe_int (pa_cons pe_int (pa_cons pe_int (pa_cons pe_int (pa_cons pe_int pa_nil))))))) (pa_cons (pe_cmpR op_eq (pe_has R.hT (hr.mono (by decide)) (pa_cons (pv 0) (pa_cons pe_int pa_nil))) pe_int (nomark _)) pa_nil))))) fun D σ H h => ?_
  obtain ⟨⟨sg, nn, hp, hx⟩, nx⟩ := h
  refine ⟨.ref b.p, sg.get (by simp), (show 6 ≤ sizeLine by decide), fun a na => ?_⟩
  have s0 := same_new (o := .tup [.int 2, .int 3, .int 3, .int 6, .int 4, .int 15]) na
  have ap := hp.new na
  refine ⟨.ref b.p, sg.get (by simp), b.n, b.p, 2, rfl, by decide, by decide, by omega, hp.sm s0, fun d H1 d0 d1 p1 x1 => ?_⟩
  refine ⟨rfl, ?_⟩
  have ok : Cf.Ok ⟨b.p, a, 2, 3, 3, 6, 4, 15, decide (V.int d = V.int 0), b.n + 1, H1⟩ := ⟨(show 1 ≤ 2 by decide), (show 2 ≤ 3 by decide), (show 1 ≤ 3 by decide), (show 3 ≤ 6 by decide), (show 1 ≤ 3 by decide), (show 3 ≤ 4 by decide), (show 1 ≤ 6 by decide), (show 6 ≤ 24 by decide), (show 4 ≤ 8 by decide), (show 2 ≤ 15 by decide), (show 15 ≤ 100 by decide), by show b.n + 1 + 3000 ≤ 100000; omega, ap⟩
  refine ⟨⟨b.p, a, 2, 3, 3, 6, 4, 15, decide (V.int d = V.int 0), b.n + 1, H1⟩, rfl, ok, rfl, p1, SqT.of (x1 _ _ ap upd_same), fun v pa cs H2 dr dq p2 x2 => ?_⟩
  obtain ⟨lv, _, _, _, _, _, _, _, _, rfl, _⟩ := lore_inv dq
  refine nx _ _ ⟨⟨lv, 0, pa, cs⟩, sg.set (by decide) (by simp), ⟨nn, dr.lo, dr.ch ok, dr.rl, dr.fl, fun z => ?_, dr.rt, dr.ts⟩, ⟨p2.up (by show b.n + 1 + 1400 ≤ b.n + 1402; omega), hx.trans ((Ext.of s0).trans (x1.trans x2)), dq.move (fun _ f => f.2) fun _ _ _ z => z⟩⟩
  obtain ⟨r, h1, h2⟩ := List.mem_map.mp z
  exact fresh_pool (h2 ▸ dr.pl r h1)
theorem rg1 (R : e.Ok P w K mg base) (hr : RmG K cdv A s) : PS (cxG P w K mg base cdv A outer s HX E) (rS 1) (tTo (S1 b) (S2 e.C b)) := by
  have bN : Binds K e.dN P_Chart_init [] := R.TC.fn.bindsN fun _ _ _ _ _ _ us hl => match us, hl with | [_, _], _ => rfl
  refine ps_up (ps_set (i := 2) sc_Lright.nd rfl (Or.inl rfl) (pe_make (E := E0) R.TC.makes (ok_Chart_init R.TC R.hRT) (hr.mono (by decide)) (by rfl) R.TC.g bN .nil passN (pa_cons (pe_has R.hL (hr.mono (by decide)) (pa_cons (pv 1) pa_nil)) pa_nil))) fun D σ H h => ?_
  obtain ⟨⟨g, sg, ok, lx⟩, nx⟩ := h
  refine ⟨.ref g.lv, sg.get (by simp), .ref g.lv, g.pa, rfl, lx.lo.da, ok.ck.lore, fun H1 s1 => ?_⟩
  intro x dx nx' ndx nxd
  have s2 : Same H1 (upd (upd H1 dx (.own x)) x (.ins e.C dx [])) := fun b o z => by
    rw [upd_ne (ne_of_none z nx'), upd_ne (ne_of_none z ndx)]
    exact z
  refine ⟨fun _ => True, x, dx, _, .str (textOf g.pa), rfl, upd_same, .str _, ok.ck.textOk, ?_⟩
  rw [ok.ck.read]
  intro H3 sb ch
  have sA : Same H H3 := fun b o z => sb b o (ne_of_none (s1 _ _ z) nx') (s2 _ _ (s1 _ _ z))
  refine ⟨rfl, nx _ _ ⟨{ g with cv := x }, ?_, ⟨ok.nn, ok.lo, ok.ck, ok.r6, ok.c4, ok.fr, ok.rt, ok.ts⟩, ⟨⟨(lx.pot.sm sA), lx.ext.trans (.of sA), lx.lo.move (fun _ f => f) fun b o _ z => sA _ _ z⟩, ch⟩⟩⟩
  exact sg.set (by decide) (by simp)
end
end G

set_option Elab.async false
set_option linter.all false
set_option maxRecDepth 100000
set_option maxHeartbeats 4000000
namespace G
open PySem PySem.Spec PyProof.Rows L2 U
open PySem.W (Frag)
theorem e4p (x u1 u2 u3 u4 : V) : dK4 (if ("people" : Str) = "people" then x else u1) (if ("people" : Str) = "labs" then x else u2) (if ("people" : Str) = "results" then x else u3) (if ("people" : Str) = "facts" then x else u4) = dK4 x u2 u3 u4 := by
  rw [if_pos rfl, if_neg (by decide +kernel), if_neg (by decide +kernel), if_neg (by decide +kernel)]
theorem e4r (x u1 u2 u3 u4 : V) : dK4 (if ("results" : Str) = "people" then x else u1) (if ("results" : Str) = "labs" then x else u2) (if ("results" : Str) = "results" then x else u3) (if ("results" : Str) = "facts" then x else u4) = dK4 u1 u2 x u4 := by
  rw [if_neg (by decide +kernel), if_neg (by decide +kernel), if_pos rfl, if_neg (by decide +kernel)]
theorem e4f (x u1 u2 u3 u4 : V) : dK4 (if ("facts" : Str) = "people" then x else u1) (if ("facts" : Str) = "labs" then x else u2) (if ("facts" : Str) = "results" then x else u3) (if ("facts" : Str) = "facts" then x else u4) = dK4 u1 u2 u3 x := by
  rw [if_neg (by decide +kernel), if_neg (by decide +kernel), if_neg (by decide +kernel), if_pos rfl]
theorem LoreF.same {F : Addr → Prop} {H H' : Hp} {a a1 a2 a3 a4 : Addr} {x1 x2 x3 x4 : List V} {p : Parts} (h : LoreF F H a a1 a2 a3 a4 x1 x2 x3 x4 p) (s : Same H H') : LoreF F H' a a1 a2 a3 a4 x1 x2 x3 x4 p :=
  ⟨h.f, h.f1, h.f2, h.f3, h.f4, s _ _ h.e, s _ _ h.e1, s _ _ h.e2, s _ _ h.e3, s _ _ h.e4, h.d1.move (fun _ f => f) fun _ _ _ z => s _ _ z, h.d2.move (fun _ f => f) fun _ _ _ z => s _ _ z, h.d3.move (fun _ f => f) fun _ _ _ z => s _ _ z, h.d4.move (fun _ f => f) fun _ _ _ z => s _ _ z⟩
theorem LoreF.any {F : Addr → Prop} {H : Hp} {a a1 a2 a3 a4 : Addr} {x1 x2 x3 x4 : List V} {p : Parts} (h : LoreF F H a a1 a2 a3 a4 x1 x2 x3 x4 p) : LoreF (fun _ => True) H a a1 a2 a3 a4 x1 x2 x3 x4 p :=
  ⟨True.intro, True.intro, True.intro, True.intro, True.intro, h.e, h.e1, h.e2, h.e3, h.e4, h.d1.move (fun _ _ => True.intro) fun _ _ _ z => z, h.d2.move (fun _ _ => True.intro) fun _ _ _ z => z, h.d3.move (fun _ _ => True.intro) fun _ _ _ z => z, h.d4.move (fun _ _ => True.intro) fun _ _ _ z => z⟩
theorem res_at {F : Addr → Prop} {H : Hp} {x3 : List V} {rows : Rows} (h : DqAll F H x3 (rows.map resD)) {i : Nat} {x : V} (hx : x3[i]? = some x) : ∃ r b, rows[i]? = some r ∧ x = .ref b ∧ F b ∧ H b = some (.tup [.str r.1, .str r.2.person, .str r.2.lab, .int r.2.day, r.2.pr.v]) := by
  obtain ⟨d, hd, dq⟩ := h.get hx
  rw [List.getElem?_map, Option.map_eq_some_iff] at hd
  obtain ⟨r, hr, rfl⟩ := hd
  obtain ⟨b, vs, rfl, fb, eb, al⟩ := tup_inv dq
  refine ⟨r, b, hr, rfl, fb, ?_⟩
  cases al with
  | cons q1 al =>
  cases al with
  | cons q2 al =>
  cases al with
  | cons q3 al =>
  cases al with
  | cons q4 al =>
  cases al with
  | cons q5 al =>
  cases al
  cases q1
  cases q2
  cases q3
  cases q4
  rw [eb]
  cases hp : r.2.pr with
  | num i =>
    rw [hp] at q5
    cases q5
    rfl
  | word s =>
    rw [hp] at q5
    cases q5
    rfl
section
variable {P : Program} {w : World} {K : Frag} {mg : Str → Option Value} {base : Heap} {cdv : Value} {A : Around} {outer : List Env} {s : Shared} {HX : Hp} {E : XK} {e : RE} {b : Rb} {g : Rg}
theorem rg2 (R : e.Ok P w K mg base) (hr : RmG K cdv A s) : PS (cxG P w K mg base cdv A outer s HX E) (rS 2) (tTo (S2 e.C b) (S2 e.C b)) := by
  have hr1 := hr.mono (show 1 ≤ 12 by omega)
  refine ps_up (ps_for PassesOwn.never rfl (pi_enum (by rfl) R.gE (pa_cons (pe_dget (hu_of hr1) (pv 1) pe_str (fun _ _ => rfl)) pa_nil)) (pg_tup rfl (pgs_cons (pg_name (i := 3) sc_Lright.nd rfl (Or.inl rfl)) (pgs_cons (pg_name (i := 4) sc_Lright.nd rfl (Or.inl rfl)) pgs_nil)))
    (pss_cons (ps_set (i := 5) sc_Lright.nd rfl (Or.inl rfl) (pe_op op_cat (pe_slice sl_list (pe_dget (hu_of hr1) (pv 1) pe_str (fun _ _ => rfl)) po_none (po_some (pv 3))) (pe_slice sl_list (pe_dget (hu_of hr1) (pv 1) pe_str (fun _ _ => rfl)) (po_some (pe_op op_add (pv 3) pe_int)) po_none)))
      (pss_one (ps_if (pt_not (pt_val (pe_has R.hMd (hr.mono (by decide)) (pa_cons (pe_meth (pv 2) R.TC.cls R.mW R.GW (hr.mono (by decide)) R.bW .nil (passN (X := cxG P w K mg base cdv A outer s HX E)) (pa_cons (pe_ix (ix_tupK (K := K) rfl) (pv 4) pe_int (fun _ _ => rfl)) pa_nil)) (pa_cons (pe_has R.hWi hr1 (pa_cons (pv 1) (pa_cons pe_str (pa_cons (pv 5) pa_nil)))) pa_nil))))) (pss_one (ps_ret pe_bl)) pss_nil)))) fun D σ H h => ?_
  obtain ⟨⟨g, sg, ok, rx⟩, nx⟩ := h
  obtain ⟨a, a1, a2, a3, a4, x1, x2, x3, x4, ea, L⟩ := lore_inv rx.lo
  cases ea
  have L := L.any
  have l3 : x3.length = g.pa.rows.length := by rw [L.d3.len, List.length_map]
  have r6 := ok.r6
  obtain ⟨ca, dx, v1, v2, v3, v4, ec, eca, _⟩ := id rx.ch
  cases ec
  refine ⟨.ref g.lv, sg.get (by simp), g.lv, .ref a3, rfl, (get4 L.e).2.2.1, a3, x3, rfl, SqL.of L.e3, for_it (walk_enum (xs := x3)) (fun i σ Hc => Sg 19 (q2 b g) σ ∧ Same H Hc) ⟨sg, Same.refl H⟩ (fun i σ Hc _ h => SqL.of (h.2 _ _ L.e3)) ?_ ?_⟩
  · rintro i x σ Hc Hc' hi ⟨sgc, sc⟩ ⟨T, y1, y2, rfl, nT, rfl, h1, h2⟩
    cases h1
    have sT := same_new (o := .tup [.int (i : Nat), y2]) nT
    obtain ⟨r, rb, hr', rfl, _, erb⟩ := res_at L.d3 h2
    have hrm : r ∈ g.pa.rows := List.mem_of_getElem? hr'
    refine ⟨T, _, rfl, SqT.of upd_same, rfl, _, _, rfl, _, _, rfl, rfl, ?_⟩
    have sg3 : Sg 19 ((4, .ref rb) :: (3, .int (i : Nat)) :: q2 b g) ((σ.set 3 (some (.int (i : Nat)))).set 4 (some (.ref rb))) := (sgc.set (by decide) (by simp)).set (by decide) (by simp)
    have sA : Same H (upd Hc T (.tup [.int (i : Nat), .ref rb])) := fun b o z => sT _ _ (sc _ _ z)
    generalize upd Hc T (.tup [.int (i : Nat), .ref rb]) = H1 at sA
    have L1 := L.same sA
    refine ⟨.ref g.lv, sg3.get (by simp), g.lv, .ref a3, rfl, (get4 L1.e).2.2.1, .int (i : Nat), sg3.get (by simp), _, rfl, a3, _, rfl, SqL.of L1.e3, fun q1 n1 => ?_⟩
    have ec1 : cutV x3 none (some ((i : Nat) : Int)) = x3.take i := cut_to x3 i
    rw [ec1]
    have s1 := same_new (o := .lst (x3.take i)) n1
    refine ⟨.ref g.lv, sg3.get (by simp), g.lv, .ref a3, rfl, (get4 (s1 _ _ L1.e)).2.2.1, .int (i : Nat), sg3.get (by simp), _, _, rfl, rfl, _, rfl, a3, _, rfl, SqL.of (s1 _ _ L1.e3), fun q2' n2 => ?_⟩
    have ec2 : cutV x3 (some (((i : Nat) : Int) + 1)) none = x3.drop (i + 1) := cut_from x3 (i + 1)
    rw [ec2]
    have s2 := same_new (o := .lst (x3.drop (i + 1))) n2
    refine ⟨q1, q2', _, _, rfl, rfl, s2 _ _ upd_same, upd_same, by rw [sizeLine_eq, List.length_take, List.length_drop]; omega, fun q3 n3 => ?_⟩
    have s3 := same_new (o := .lst (x3.take i ++ x3.drop (i + 1))) n3
    have sB : Same H1 (upd (upd (upd H1 q1 (.lst (x3.take i))) q2' (.lst (x3.drop (i + 1)))) q3 (.lst (x3.take i ++ x3.drop (i + 1)))) := fun b o z => s3 _ _ (s2 _ _ (s1 _ _ z))
    have e3 : upd (upd (upd H1 q1 (.lst (x3.take i))) q2' (.lst (x3.drop (i + 1)))) q3 (.lst (x3.take i ++ x3.drop (i + 1))) q3 = some (.lst (x3.take i ++ x3.drop (i + 1))) := upd_same
    generalize upd (upd (upd H1 q1 (.lst (x3.take i))) q2' (.lst (x3.drop (i + 1)))) q3 (.lst (x3.take i ++ x3.drop (i + 1))) = H4 at sB e3
    have sC : Same H H4 := fun b o z => sB _ _ (sA _ _ z)
    have sg5 : Sg 19 ((5, .ref q3) :: (4, .ref rb) :: (3, .int (i : Nat)) :: q2 b g) (((σ.set 3 (some (.int (i : Nat)))).set 4 (some (.ref rb))).set 5 (some (.ref q3))) := sg3.set (by decide) (by simp)
    refine ⟨.ref g.cv, sg5.get (by simp), g.cv, dx, _, rfl, sC _ _ eca, by rfl, .ref rb, sg5.get (by simp), rb, _, _, .str r.1, rfl, rfl, SqT.of (sC _ _ erb), atI_nat (j := 0) rfl, ?_⟩
    refine ⟨fun _ => True, _, _, g.pa, .str r.1, rfl, rx.ch.same sC, .str _, ok.ck.nd, ok.ck.rl, ?_⟩
    show if r.1 ∈ g.pa.rows.map (·.1) then _ else _
    rw [if_pos (List.mem_map.mpr ⟨r, hrm, rfl⟩)]
    refine (ok.ck.less r.1).made fun ch H5 s5 nch hch => ?_
    have L5 := (L.same sC).same s5
    refine ⟨.ref g.lv, sg5.get (by simp), .ref q3, sg5.get (by simp), g.lv, "results", .ref q3, _, _, _, _, rfl, by decide +kernel, L5.e, fun q6 H6 s6 n6 e6 => ?_⟩
    rw [e4r] at e6
    have L6 := L5.same s6
    have er : (g.pa.less r.1).rows = g.pa.rows.take i ++ g.pa.rows.drop (i + 1) := filter_at ok.ck.nd hr'
    have d3 : DqAll (fun _ => True) H6 (x3.take i ++ x3.drop (i + 1)) ((g.pa.less r.1).rows.map resD) := by
      rw [er, List.map_append, List.map_take, List.map_drop]
      exact DqAll.app (DqAll.take i L6.d3) (DqAll.drop (i + 1) L6.d3)
    have LF : LoreF (fun _ => True) H6 q6 a1 a2 q3 a4 x1 x2 (x3.take i ++ x3.drop (i + 1)) x4 (g.pa.less r.1) := ⟨True.intro, True.intro, True.intro, True.intro, True.intro, e6, L6.e1, L6.e2, s6 _ _ (s5 _ _ e3), L6.e4, L6.d1, L6.d2, d3, L6.d4⟩
    refine ⟨_, _, g.pa.less r.1, rfl, hch.same s6, LF.mk', (ok.ck.less r.1).lore, fun H7 s7 => ?_⟩
    refine ⟨_, rfl, ?_⟩
    refine iteF ?_
    exact ⟨sg5.sub (by simp), fun b o z => s7 _ _ (s6 _ _ (s5 _ _ (sC _ _ z)))⟩
  · rintro σ Hc ⟨sgc, sc⟩
    exact nx _ _ ⟨g, sgc, ok, rx.same sc⟩
theorem rg3 (R : e.Ok P w K mg base) (hr : RmG K cdv A s) : PS (cxG P w K mg base cdv A outer s HX E) (rS 3) (tTo (S2 e.C b) (S2 e.C b)) := by
  have hr1 := hr.mono (show 1 ≤ 12 by omega)
  refine ps_up (ps_for PassesOwn.never rfl (pi_range1 (by rfl) R.gR (pa_cons (pe_callB (call_len_seq (X := cxG P w K mg base cdv A outer s HX E)) (by rfl) R.gL PySem.boot_len (pa_cons (pe_dget (hu_of hr1) (pv 1) pe_str (fun _ _ => rfl)) pa_nil)) pa_nil)) (pg_name (i := 3) sc_Lright.nd rfl (Or.inl rfl))
    (pss_cons (ps_set (i := 5) sc_Lright.nd rfl (Or.inl rfl) (pe_op op_cat (pe_slice sl_list (pe_dget (hu_of hr1) (pv 1) pe_str (fun _ _ => rfl)) po_none (po_some (pv 3))) (pe_slice sl_list (pe_dget (hu_of hr1) (pv 1) pe_str (fun _ _ => rfl)) (po_some (pe_op op_add (pv 3) pe_int)) po_none)))
      (pss_one (ps_if (pt_not (pt_val (pe_has R.hMd (hr.mono (by decide)) (pa_cons (pe_meth (pv 2) R.TC.cls R.mU R.GU (hr.mono (by decide)) R.bU .nil (passN (X := cxG P w K mg base cdv A outer s HX E)) (pa_cons (pv 3) pa_nil)) (pa_cons (pe_has R.hWi hr1 (pa_cons (pv 1) (pa_cons pe_str (pa_cons (pv 5) pa_nil)))) pa_nil))))) (pss_one (ps_ret pe_bl)) pss_nil)))) fun D σ H h => ?_
  obtain ⟨⟨g, sg, ok, rx⟩, nx⟩ := h
  obtain ⟨a, a1, a2, a3, a4, x1, x2, x3, x4, ea, L⟩ := lore_inv rx.lo
  cases ea
  have L := L.any
  have l4 : x4.length = g.cs.length := by rw [L.d4.len, ok.ck.fs, List.length_map]
  have lf : g.pa.facts.length = g.cs.length := by rw [ok.ck.fs, List.length_map]
  have c4 := ok.c4
  obtain ⟨ca, dx, v1, v2, v3, v4, ec, eca, _⟩ := id rx.ch
  cases ec
  refine ⟨.ref g.lv, sg.get (by simp), g.lv, .ref a4, rfl, (get4 L.e).2.2.2, a4, x4, rfl, .inl (SqL.of L.e4), (x4.length : Int), rfl, by omega, by omega, ?_⟩
  rw [show ((x4.length : Nat) : Int).toNat = x4.length by omega]
  refine for_range (lo := 0) (n := x4.length) (fun i σ Hc => Sg 19 (q2 b g) σ ∧ Same H Hc) ⟨sg, Same.refl H⟩ ?_ ?_
  · rintro i σ Hc hi ⟨sgc, sA⟩
    have sg3 : Sg 19 ((3, .int (0 + (i : Nat))) :: q2 b g) (σ.set 3 (some (.int (0 + (i : Nat))))) := sgc.set (by decide) (by simp)
    rw [Int.zero_add] at sg3 ⊢
    have L1 := L.same sA
    refine ⟨.ref g.lv, sg3.get (by simp), g.lv, .ref a4, rfl, (get4 L1.e).2.2.2, .int (i : Nat), sg3.get (by simp), _, rfl, a4, _, rfl, SqL.of L1.e4, fun q1 n1 => ?_⟩
    have ec1 : cutV x4 none (some ((i : Nat) : Int)) = x4.take i := cut_to x4 i
    rw [ec1]
    have s1 := same_new (o := .lst (x4.take i)) n1
    refine ⟨.ref g.lv, sg3.get (by simp), g.lv, .ref a4, rfl, (get4 (s1 _ _ L1.e)).2.2.2, .int (i : Nat), sg3.get (by simp), _, _, rfl, rfl, _, rfl, a4, _, rfl, SqL.of (s1 _ _ L1.e4), fun q2' n2 => ?_⟩
    have ec2 : cutV x4 (some (((i : Nat) : Int) + 1)) none = x4.drop (i + 1) := cut_from x4 (i + 1)
    rw [ec2]
    have s2 := same_new (o := .lst (x4.drop (i + 1))) n2
    refine ⟨q1, q2', _, _, rfl, rfl, s2 _ _ upd_same, upd_same, by rw [sizeLine_eq, List.length_take, List.length_drop]; omega, fun q3 n3 => ?_⟩
    have s3 := same_new (o := .lst (x4.take i ++ x4.drop (i + 1))) n3
    have sB : Same Hc (upd (upd (upd Hc q1 (.lst (x4.take i))) q2' (.lst (x4.drop (i + 1)))) q3 (.lst (x4.take i ++ x4.drop (i + 1)))) := fun b o z => s3 _ _ (s2 _ _ (s1 _ _ z))
    have e3 : upd (upd (upd Hc q1 (.lst (x4.take i))) q2' (.lst (x4.drop (i + 1)))) q3 (.lst (x4.take i ++ x4.drop (i + 1))) q3 = some (.lst (x4.take i ++ x4.drop (i + 1))) := upd_same
    generalize upd (upd (upd Hc q1 (.lst (x4.take i))) q2' (.lst (x4.drop (i + 1)))) q3 (.lst (x4.take i ++ x4.drop (i + 1))) = H4 at sB e3
    have sC : Same H H4 := fun b o z => sB _ _ (sA _ _ z)
    have sg5 : Sg 19 ((5, .ref q3) :: (3, .int (i : Nat)) :: q2 b g) ((σ.set 3 (some (.int (i : Nat)))).set 5 (some (.ref q3))) := sg3.set (by decide) (by simp)
    refine ⟨.ref g.cv, sg5.get (by simp), g.cv, dx, _, rfl, sC _ _ eca, by rfl, .int (i : Nat), sg5.get (by simp), ?_⟩
    refine ⟨fun _ => True, _, _, g.pa, .int (i : Nat), rfl, rx.ch.same sC, .int _, by omega, ?_⟩
    show if 0 ≤ ((i : Nat) : Int) ∧ ((i : Nat) : Int) < g.pa.facts.length then _ else _
    rw [if_pos ⟨by omega, by omega⟩, Int.toNat_natCast]
    have ef : g.pa.facts.take i ++ g.pa.facts.drop (i + 1) = (g.cs.take i ++ g.cs.drop (i + 1)).map Clm.d := by
      rw [ok.ck.fs, List.map_append, List.map_take, List.map_drop]
    rw [ef]
    have ck : ChOk { g.pa with facts := (g.cs.take i ++ g.cs.drop (i + 1)).map Clm.d } (g.cs.take i ++ g.cs.drop (i + 1)) := by
      refine ok.ck.facts (by rw [List.length_append, List.length_take, List.length_drop]; omega) fun cl hc => ok.ck.fk cl ?_
      rcases List.mem_append.mp hc with h | h
      · exact List.mem_of_mem_take h
      · exact List.mem_of_mem_drop h
    refine ck.made fun ch H5 s5 nch hch => ?_
    have L5 := (L.same sC).same s5
    refine ⟨.ref g.lv, sg5.get (by simp), .ref q3, sg5.get (by simp), g.lv, "facts", .ref q3, _, _, _, _, rfl, by decide +kernel, L5.e, fun q6 H6 s6 n6 e6 => ?_⟩
    rw [e4f] at e6
    have L6 := L5.same s6
    have d4 : DqAll (fun _ => True) H6 (x4.take i ++ x4.drop (i + 1)) ((g.cs.take i ++ g.cs.drop (i + 1)).map Clm.d) := by
      rw [← ef]
      exact DqAll.app (DqAll.take i L6.d4) (DqAll.drop (i + 1) L6.d4)
    have LF : LoreF (fun _ => True) H6 q6 a1 a2 a3 q3 x1 x2 x3 (x4.take i ++ x4.drop (i + 1)) { g.pa with facts := (g.cs.take i ++ g.cs.drop (i + 1)).map Clm.d } := ⟨True.intro, True.intro, True.intro, True.intro, True.intro, e6, L6.e1, L6.e2, L6.e3, s6 _ _ (s5 _ _ e3), L6.d1, L6.d2, L6.d3, d4⟩
    refine ⟨_, _, _, rfl, hch.same s6, LF.mk', ck.lore, fun H7 s7 => ?_⟩
    refine ⟨_, rfl, ?_⟩
    refine iteF ?_
    exact ⟨sg5.sub (by simp), fun b o z => s7 _ _ (s6 _ _ (s5 _ _ (sC _ _ z)))⟩
  · rintro σ Hc ⟨sgc, sc⟩
    exact nx _ _ ⟨g, sgc, ok, rx.same sc⟩
end
end G

set_option Elab.async false
set_option linter.all false
set_option maxRecDepth 100000
set_option maxHeartbeats 4000000
namespace G
open PySem PySem.Spec PyProof.Rows L2 U
open PySem.W (Frag)
abbrev lBody : List Stmt := match rS 4 with
  | .For _ _ b _ _ => b
  | _ => []
abbrev lS (i : Nat) : Stmt := lBody.getD i sN0
theorem Clm.ok_up {p : Parts} {m m' : Int} {cl : Clm} (h : cl.ok p m) (l : m ≤ m') : cl.ok p m' := by
  cases cl with
  | bnd a x d n => exact ⟨h.1, h.2.1, by have := h.2.2.1; omega, h.2.2.2⟩
  | rose x d f n => exact ⟨h.1, h.2.1, by have := h.2.2.1; omega, h.2.2.2.1, by have := h.2.2.2.2.1; omega, h.2.2.2.2.2⟩
  | lit g x d k =>
    obtain ⟨ts, h1, h2, h3, h4⟩ := h
    exact ⟨ts, h1, h2, by omega, h4⟩
section
variable {P : Program} {w : World} {K : Frag} {mg : Str → Option Value} {base : Heap} {cdv : Value} {A : Around} {outer : List Env} {s : Shared} {HX : Hp} {E : XK} {e : RE} {b : Rb} {g : Rg} {k : Nat}
def T0 (C : Addr) (b : Rb) (g : Rg) (k : Nat) : StP := fun σ H => Sg 19 (q2 b g) σ ∧ Rx C b g k H
def T1 (C : Addr) (b : Rb) (g : Rg) (k : Nat) : StP := fun σ H => ∃ (q : Addr) (cl : Clm), Sg 19 ((7, .ref q) :: q2 b g) σ ∧ Rx C b g k H ∧ H q = some (.tup cl.vs) ∧ cl.ok g.pa 15
theorem lp0 (R : e.Ok P w K mg base) (hr : RmG K cdv A s) (ok : g.Ok b) (hk : k + 100 ≤ 6000) : PS (cxG P w K mg base cdv A outer s HX E) (lS 0) (tTo (T0 e.C b g k) (T1 e.C b g (k + 6))) := by
  refine ps_up (ps_set (i := 7) sc_Lright.nd rfl (Or.inl rfl) (pe_has R.hA (hr.mono (by decide)) (pa_cons (pv 0) (pa_cons (pv 1) (pa_cons pe_int pa_nil))))) fun D σ H h => ?_
  obtain ⟨⟨sg, rx⟩, nx⟩ := h
  have nn := ok.nn
  refine ⟨.ref b.p, sg.get (by simp), .ref g.lv, sg.get (by simp), b.n + k, 15, b.p, fun a => a ≠ b.p, _, g.pa, rfl, rx.pot, by omega, by decide, by decide, fun a f => f, rx.lo, ok.lo, fun q cl H1 nq eq okc p1 x1 => ?_⟩
  exact nx _ _ ⟨q, cl, sg.set (by decide) (by simp), rx.to ok x1 p1 (by omega), eq, okc⟩
theorem lp1 (R : e.Ok P w K mg base) (hr : RmG K cdv A s) (ok : g.Ok b) : PS (cxG P w K mg base cdv A outer s HX E) (lS 1) (tTo (T1 e.C b g k) (T0 e.C b g k)) := by
  have hr1 := hr.mono (show 1 ≤ 12 by omega)
  refine ps_up (ps_if (pt_not (pt_val (pe_has R.hMd (hr.mono (by decide)) (pa_cons (pe_meth (pv 2) R.TC.cls R.mT R.GT (hr.mono (by decide)) R.bT .nil (passN (X := cxG P w K mg base cdv A outer s HX E)) (pa_cons (pv 7) pa_nil)) (pa_cons (pe_has R.hWi hr1 (pa_cons (pv 1) (pa_cons pe_str (pa_cons (pe_op op_cat (pe_dget (hu_of hr1) (pv 1) pe_str (fun _ _ => rfl)) (pe_lst (pa_cons (pv 7) pa_nil))) pa_nil)))) pa_nil))))) (pss_one (ps_ret pe_bl)) pss_nil) fun D σ H h => ?_
  obtain ⟨⟨q, cl, sg, rx, eq, okc⟩, nx⟩ := h
  obtain ⟨a, a1, a2, a3, a4, x1, x2, x3, x4, ea, L⟩ := lore_inv rx.lo
  cases ea
  have L := L.any
  have l4 : x4.length = g.cs.length := by rw [L.d4.len, ok.ck.fs, List.length_map]
  have lf : g.pa.facts.length = g.cs.length := by rw [ok.ck.fs, List.length_map]
  have c4 := ok.c4
  obtain ⟨ca, dx, v1, v2, v3, v4, ec, eca, _⟩ := id rx.ch
  cases ec
  have ok100 : cl.ok g.pa 100 := Clm.ok_up okc (by decide)
  refine ⟨.ref g.cv, sg.get (by simp), g.cv, dx, _, rfl, eca, by rfl, .ref q, sg.get (by simp), ?_⟩
  refine ⟨fun _ => True, _, _, g.pa, cl.d, rfl, rx.ch, Clm.dq True.intro eq, by omega, ?_⟩
  rw [if_pos (claim_is ok.ck.ok ok100), if_neg (by omega)]
  have ef : g.pa.facts ++ [cl.d] = (g.cs ++ [cl]).map Clm.d := by rw [ok.ck.fs, List.map_append]; rfl
  rw [ef]
  have ck : ChOk { g.pa with facts := (g.cs ++ [cl]).map Clm.d } (g.cs ++ [cl]) := by
    refine ok.ck.facts (by rw [List.length_append]; show g.cs.length + 1 ≤ 8; omega) fun x hx => ?_
    rcases List.mem_append.mp hx with h | h
    · exact ok.ck.fk x h
    · cases List.mem_singleton.mp h
      exact ok100
  refine ck.made fun ch H5 s5 nch hch => ?_
  have L5 := L.same s5
  refine ⟨.ref g.lv, sg.get (by simp), .ref g.lv, sg.get (by simp), g.lv, .ref a4, rfl, (get4 L5.e).2.2.2, .ref q, sg.get (by simp), (show 1 ≤ sizeLine by decide), fun l nl => ?_⟩
  have s6 := same_new (o := .lst [.ref q]) nl
  refine ⟨a4, l, _, _, rfl, rfl, s6 _ _ L5.e4, upd_same, by rw [sizeLine_eq]; show x4.length + 1 ≤ _; omega, fun q3 n3 => ?_⟩
  have s7 := same_new (o := .lst (x4 ++ [.ref q])) n3
  have sB : Same H5 (upd (upd H5 l (.lst [.ref q])) q3 (.lst (x4 ++ [.ref q]))) := fun b o z => s7 _ _ (s6 _ _ z)
  have e3 : upd (upd H5 l (.lst [.ref q])) q3 (.lst (x4 ++ [.ref q])) q3 = some (.lst (x4 ++ [.ref q])) := upd_same
  generalize upd (upd H5 l (.lst [.ref q])) q3 (.lst (x4 ++ [.ref q])) = H7 at sB e3
  have L7 := L5.same sB
  refine ⟨g.lv, "facts", .ref q3, _, _, _, _, rfl, by decide +kernel, L7.e, fun q8 H8 s8 n8 e8 => ?_⟩
  rw [e4f] at e8
  have L8 := L7.same s8
  have sC : Same H H8 := fun b o z => s8 _ _ (sB _ _ (s5 _ _ z))
  have d4 : DqAll (fun _ => True) H8 (x4 ++ [.ref q]) ((g.cs ++ [cl]).map Clm.d) := by
    rw [← ef]
    exact DqAll.app L8.d4 (.cons (Clm.dq True.intro (sC _ _ eq)) .nil)
  have LF : LoreF (fun _ => True) H8 q8 a1 a2 a3 q3 x1 x2 x3 (x4 ++ [.ref q]) { g.pa with facts := (g.cs ++ [cl]).map Clm.d } := ⟨True.intro, True.intro, True.intro, True.intro, True.intro, e8, L8.e1, L8.e2, L8.e3, s8 _ _ e3, L8.d1, L8.d2, L8.d3, d4⟩
  refine ⟨_, _, _, rfl, (hch.same sB).same s8, LF.mk', ck.lore, fun H9 s9 => ?_⟩
  refine ⟨_, rfl, ?_⟩
  refine iteF ?_
  exact nx _ _ ⟨sg.sub (by simp), rx.same fun b o z => s9 _ _ (sC _ _ z)⟩
abbrev q11 (b : Rb) (g : Rg) (nm : Str) (up dn rate : Int) : List (Nat × V) := (11, .int rate) :: (10, .int dn) :: (9, .int up) :: (8, .str nm) :: q2 b g
def T2 (C : Addr) (b : Rb) (g : Rg) (k : Nat) : StP := fun σ H => ∃ nm up dn rate, Sg 19 (q11 b g nm up dn rate) σ ∧ Rx C b g k H ∧ (nm, up, dn) ∈ g.pa.people ∧ 0 ≤ rate ∧ rate < 40
theorem lp2 (R : e.Ok P w K mg base) (hr : RmG K cdv A s) (ok : g.Ok b) (hk : k + 100 ≤ 6000) : PS (cxG P w K mg base cdv A outer s HX E) (lS 2) (tTo (T0 e.C b g k) (T2 e.C b g (k + 2))) := by
  have hr1 := hr.mono (show 1 ≤ 12 by omega)
  have hr2 := hr.mono (show 2 ≤ 12 by omega)
  refine ps_up (ps_asg (pe_tup (pa_cons (pe_has R.hO hr2 (pa_cons (pv 0) (pa_cons (pe_dget (hu_of hr1) (pv 1) pe_str (fun _ _ => rfl)) pa_nil))) (pa_cons (pe_has R.hT hr1 (pa_cons (pv 0) (pa_cons pe_int pa_nil))) pa_nil)))
    (pg_tup rfl (pgs_cons (pg_tup rfl (pgs_cons (pg_name (i := 8) sc_Lright.nd rfl (Or.inr rfl)) (pgs_cons (pg_name (i := 9) sc_Lright.nd rfl (Or.inl rfl)) (pgs_cons (pg_name (i := 10) sc_Lright.nd rfl (Or.inl rfl)) pgs_nil)))) (pgs_cons (pg_name (i := 11) sc_Lright.nd rfl (Or.inl rfl)) pgs_nil)))) fun D σ H h => ?_
  obtain ⟨⟨sg, rx⟩, nx⟩ := h
  have nn := ok.nn
  obtain ⟨a, a1, a2, a3, a4, x1, x2, x3, x4, ea, L⟩ := lore_inv rx.lo
  cases ea
  have pl := ok.lo.pl
  have l1 : x1.length = g.pa.people.length := by rw [L.d1.len, List.length_map]
  have lp : 0 < g.pa.people.length := List.length_pos_iff.mpr ok.lo.pe
  refine ⟨.ref b.p, sg.get (by simp), .ref g.lv, sg.get (by simp), g.lv, .ref a1, rfl, (get4 L.e).1, b.n + k, b.p, a1, x1, rfl, rx.pot, by omega, L.e1, L.f1, by omega, by omega, fun i v H1 hi p1 e1 => ?_⟩
  have rx1 : Rx e.C b g (k + 1) H1 := rx.to ok e1 p1 (by omega)
  obtain ⟨⟨nm, up, dn⟩, pb, hper, rfl, fpb, epb⟩ := per_at L.d1 hi
  refine ⟨.ref b.p, sg.get (by simp), b.n + (k + 1), b.p, 40, rfl, by decide, by decide, by omega, rx1.pot, fun d H2 d0 d1 p2 e2 => ?_⟩
  have rx2 : Rx e.C b g (k + 2) H2 := rx1.to ok e2 p2 (by omega)
  refine ⟨(show 2 ≤ sizeLine by decide), fun r nr => ?_⟩
  have sr := same_new (o := .tup [.ref pb, .int d]) nr
  refine ⟨r, _, rfl, SqT.of upd_same, rfl, _, _, rfl, pb, _, rfl, SqT.of (sr _ _ (e2 _ _ fpb (e1 _ _ fpb epb))), rfl, _, _, rfl, _, _, rfl, _, _, rfl, rfl, _, _, rfl, rfl, ?_⟩
  exact nx _ _ ⟨nm, up, dn, d, (((sg.set (by decide) (by simp)).set (by decide) (by simp)).set (by decide) (by simp)).set (by decide) (by simp), rx2.same sr, List.mem_of_getElem? hper, d0, d1⟩
end
end G

set_option Elab.async false
set_option linter.all false
set_option maxRecDepth 100000
set_option maxHeartbeats 4000000
namespace G
open PySem PySem.Spec PyProof.Rows L2 U
open PySem.W (Frag)
/-- the people of a lore, one exchanged -/
def swapV (nm : Str) (fr : Addr) (x1 : List V) (ps : List (Str × Int × Int)) : List V := (x1.zip ps).map fun z => if z.2.1 = nm then V.ref fr else z.1
theorem swap_dq {F : Addr → Prop} {H : Hp} {nm : Str} {fr : Addr} {y : Int × Int} (ff : F fr) (ef : H fr = some (.tup [.str nm, .int y.1, .int y.2])) : ∀ {x1 : List V} {ps : List (Str × Int × Int)}, DqAll F H x1 (ps.map perD) → DqAll F H (swapV nm fr x1 ps) ((setAt ps nm y).map perD)
  | [], [], _ => .nil
  | [], _ :: _, h => by cases h
  | _ :: _, [], h => by cases h
  | x :: xs, p :: ps, h => by
    cases h with
    | cons q al =>
    have ih := swap_dq ff ef al
    unfold swapV setAt at ih ⊢
    rw [List.zip_cons_cons, List.map_cons, List.map_cons, List.map_cons]
    refine .cons ?_ ih
    by_cases hn : p.1 = nm
    · rw [if_pos hn, if_pos hn]
      subst hn
      exact .tup ff ef (.cons (.str _) (.cons (.int _) (.cons (.int _) .nil)))
    · rw [if_neg hn, if_neg hn]
      exact q
theorem swap_len {nm : Str} {fr : Addr} {x1 : List V} {ps : List (Str × Int × Int)} (h : x1.length = ps.length) : (swapV nm fr x1 ps).length = x1.length := by
  unfold swapV
  rw [List.length_map, List.length_zip]
  omega
section
variable {P : Program} {w : World} {K : Frag} {mg : Str → Option Value} {base : Heap} {cdv : Value} {A : Around} {outer : List Env} {s : Shared} {HX : Hp} {E : XK} {e : RE} {b : Rb} {g : Rg} {k : Nat}
theorem lp3 (R : e.Ok P w K mg base) (hr : RmG K cdv A s) (ok : g.Ok b) : PS (cxG P w K mg base cdv A outer s HX E) (lS 3) (tTo (T2 e.C b g k) (T2 e.C b g k)) := by
  have hr1 := hr.mono (show 1 ≤ 12 by omega)
  refine ps_up (ps_for PassesOwn.never rfl (pi_tup (pe_tup (pa_cons (pe_tup (pa_cons pe_str (pa_cons (pe_tup (pa_cons (pv 8) (pa_cons (pv 11) (pa_cons (pv 10) pa_nil)))) pa_nil))) (pa_cons (pe_tup (pa_cons pe_str (pa_cons (pe_tup (pa_cons (pv 8) (pa_cons (pv 9) (pa_cons (pv 11) pa_nil)))) pa_nil))) pa_nil))))
    (pg_tup rfl (pgs_cons (pg_name (i := 12) sc_Lright.nd rfl (Or.inl rfl)) (pgs_cons (pg_name (i := 13) sc_Lright.nd rfl (Or.inr rfl)) pgs_nil)))
    (pss_cons (ps_setLc (i := 14) (own := [("_law_row", 4)]) (g := gName 4) (tt := tYes) (te := tIf (tTest (tOp rEq (tOp (rIxT K) (tVar 4) (tC (.int 0))) (tVar 8))) (tVar 13) (tVar 4)) rfl sc_Lright.nd rfl rfl rfl (pi_list (pe_dget (hu_of hr1) (pv 1) pe_str (fun _ _ => rfl))) (blkOk_by (N := N_Lright) (sc := defScope s_Lright) (by decide +kernel))
        (fun _ _ _ _ _ => pg_name (i := 4) sc_Lright.nd rfl (Or.inl rfl)) (fun _ _ _ _ _ => pts_nil) (fun _ _ _ _ _ => pe_ifExp (pt_cmpR op_eq (pe_ix (ix_tupK (K := K) rfl) (pv 4) pe_int (fun _ _ => rfl)) (pv 8) (nomark _)) (pv 13) (pv 4)))
      (pss_one (ps_if (pt_not (pt_val (pe_has R.hMd (hr.mono (by decide)) (pa_cons (pe_meth (pv 2) R.TC.cls R.mR R.GR (hr.mono (by decide)) R.bR .nil (passN (X := cxG P w K mg base cdv A outer s HX E)) (pa_cons (pv 8) (pa_cons (pv 12) (pa_cons (pv 11) pa_nil)))) (pa_cons (pe_has R.hWi hr1 (pa_cons (pv 1) (pa_cons pe_str (pa_cons (pv 14) pa_nil)))) pa_nil))))) (pss_one (ps_ret pe_bl)) pss_nil)))) fun D σ H h => ?_
  obtain ⟨⟨nm, up, dn, rate, sg, rx, hper, r0, r1⟩, nx⟩ := h
  obtain ⟨a, a1, a2, a3, a4, x1, x2, x3, x4, ea, L⟩ := lore_inv rx.lo
  cases ea
  have L := L.any
  have pl := ok.lo.pl
  have l1 : x1.length = g.pa.people.length := by rw [L.d1.len, List.length_map]
  obtain ⟨ca, dx, v1, v2, v3, v4, ec, eca, _⟩ := id rx.ch
  cases ec
  obtain ⟨u0, u1, w0, w1⟩ := ok.rt _ hper
  have u0 : 0 ≤ up := u0
  have u1 : up ≤ 5 := u1
  have w0 : 0 ≤ dn := w0
  have w1 : dn ≤ 5 := w1
  refine ⟨.str nm, sg.get (by simp), .int rate, sg.get (by simp), .int dn, sg.get (by simp), (show 3 ≤ sizeLine by decide), fun t1 n1 => ?_⟩
  have s1 := same_new (o := .tup [.str nm, .int rate, .int dn]) n1
  have e1 : upd H t1 (.tup [.str nm, .int rate, .int dn]) t1 = some (.tup [.str nm, .int rate, .int dn]) := upd_same
  generalize upd H t1 (.tup [.str nm, .int rate, .int dn]) = H1 at s1 e1
  refine ⟨(show 2 ≤ sizeLine by decide), fun t2 n2 => ?_⟩
  have s2 := same_new (o := .tup [.str "up", .ref t1]) n2
  have e2 : upd H1 t2 (.tup [.str "up", .ref t1]) t2 = some (.tup [.str "up", .ref t1]) := upd_same
  generalize upd H1 t2 (.tup [.str "up", .ref t1]) = H2 at s2 e2
  refine ⟨.str nm, sg.get (by simp), .int up, sg.get (by simp), .int rate, sg.get (by simp), (show 3 ≤ sizeLine by decide), fun t3 n3 => ?_⟩
  have s3 := same_new (o := .tup [.str nm, .int up, .int rate]) n3
  have e3 : upd H2 t3 (.tup [.str nm, .int up, .int rate]) t3 = some (.tup [.str nm, .int up, .int rate]) := upd_same
  generalize upd H2 t3 (.tup [.str nm, .int up, .int rate]) = H3 at s3 e3
  refine ⟨(show 2 ≤ sizeLine by decide), fun t4 n4 => ?_⟩
  have s4 := same_new (o := .tup [.str "down", .ref t3]) n4
  have e4 : upd H3 t4 (.tup [.str "down", .ref t3]) t4 = some (.tup [.str "down", .ref t3]) := upd_same
  generalize upd H3 t4 (.tup [.str "down", .ref t3]) = H4 at s4 e4
  refine ⟨(show 2 ≤ sizeLine by decide), fun t5 n5 => ?_⟩
  have s5 := same_new (o := .tup [.ref t2, .ref t4]) n5
  have e5 : upd H4 t5 (.tup [.ref t2, .ref t4]) t5 = some (.tup [.ref t2, .ref t4]) := upd_same
  generalize upd H4 t5 (.tup [.ref t2, .ref t4]) = H5 at s5 e5
  have e4' := s5 _ _ e4
  have e3' := s5 _ _ (s4 _ _ e3)
  have e2' := s5 _ _ (s4 _ _ (s3 _ _ e2))
  have e1' := s5 _ _ (s4 _ _ (s3 _ _ (s2 _ _ e1)))
  have sH : Same H H5 := fun b o z => s5 _ _ (s4 _ _ (s3 _ _ (s2 _ _ (s1 _ _ z))))
  refine ⟨t5, rfl, ⟨_, SqT.of e5⟩, for_tup (K := K) (a := t5) (xs := [.ref t2, .ref t4]) (fun i σ Hc => Sg 19 (q11 b g nm up dn rate) σ ∧ Same H5 Hc) ⟨sg, Same.refl H5⟩ (fun i σ Hc _ h => SqT.of (h.2 _ _ e5)) ?_ ?_⟩
  · rintro i x σ Hc hx ⟨sgc, sc⟩
    obtain ⟨t, sd, fr, y, rfl, et, ef, hy, hsd⟩ : ∃ (t : Addr) (sd : Str) (fr : Addr) (y : Int × Int), x = .ref t ∧ H5 t = some (.tup [.str sd, .ref fr]) ∧ H5 fr = some (.tup [.str nm, .int y.1, .int y.2]) ∧ y = newRate (isUp (.str sd)) rate (up, dn) ∧ isWordD (.str sd) wSide = true := by
      match i, hx with
      | 0, hx => exact ⟨t2, "up", t1, (rate, dn), (Option.some.inj hx).symm, e2', e1', rfl, by decide +kernel⟩
      | 1, hx => exact ⟨t4, "down", t3, (up, rate), (Option.some.inj hx).symm, e4', e3', by
          have : isUp (.str "down") = false := by decide +kernel
          rw [this]
          rfl, by decide +kernel⟩
    refine ⟨t, _, rfl, SqT.of (sc _ _ et), rfl, _, _, rfl, _, _, rfl, rfl, ?_⟩
    have sg3 : Sg 19 ((13, .ref fr) :: (12, .str sd) :: q11 b g nm up dn rate) ((σ.set 12 (some (.str sd))).set 13 (some (.ref fr))) := (sgc.set (by decide) (by simp)).set (by decide) (by simp)
    generalize (σ.set 12 (some (.str sd))).set 13 (some (.ref fr)) = σ3 at sg3
    have sA : Same H Hc := fun b o z => sc _ _ (sH _ _ z)
    have Lc := L.same sA
    have efc := sc _ _ ef
    refine ⟨.ref g.lv, sg3.get (by simp), g.lv, .ref a1, rfl, (get4 Lc.e).1, a1, rfl, ⟨_, SqL.of Lc.e1⟩, fun D nD => ?_⟩
    refine lc_vals (walk_list (K := K) (a := a1) (xs := x1)) nD (swapV nm fr x1 g.pa.people) (swap_len l1) (by omega) (fun Hd sd' => SqL.of (sd' _ _ Lc.e1)) ?_ ?_
    · rintro j x z Hd Hd' kk hz sd' ⟨rfl, hxj⟩ hk
      obtain ⟨pr, pb, hp, rfl, _, epb⟩ := per_at Lc.d1 hxj
      have hz : z = if pr.1 = nm then V.ref fr else V.ref pb := by
        unfold swapV at hz
        rw [List.getElem?_map, Option.map_eq_some_iff] at hz
        obtain ⟨zz, h1, h2⟩ := hz
        rw [List.getElem?_zip_eq_some, hxj, hp] at h1
        obtain ⟨h1a, h1b⟩ := h1
        rw [← h2, ← Option.some.inj h1a, ← Option.some.inj h1b]
      refine ⟨wipe_one _ _ _, ?_⟩
      have sg4 : Sg 19 ((4, .ref pb) :: (13, .ref fr) :: (12, .str sd) :: q11 b g nm up dn rate) ((wipe σ3 [4]).set 4 (some (.ref pb))) := Sg.set (Sg.off sg3 (by simp)) (by decide) (by simp)
      refine ⟨.ref pb, sg4.get (by simp), pb, _, _, .str pr.1, rfl, rfl, SqT.of (sd' _ _ epb), atI_nat (j := 0) rfl, .str nm, sg4.get (by simp), rfl, _, rfl, ?_⟩
      by_cases hn : pr.1 = nm
      · rw [show decide (V.str pr.1 = V.str nm) = true from decide_eq_true (by rw [hn])]
        rw [if_pos hn] at hz
        subst hz
        exact iteT ⟨_, sg4.get (by simp), hk _ (Same.refl _)⟩
      · rw [show decide (V.str pr.1 = V.str nm) = false from decide_eq_false (fun z => hn (V.str.inj z))]
        rw [if_neg hn] at hz
        subst hz
        exact iteF ⟨_, sg4.get (by simp), hk _ (Same.refl _)⟩
    · intro Hd sd' eD
      have sB : Same H Hd := fun b o z => sd' _ _ (sA _ _ z)
      have sg5 : Sg 19 ((14, .ref D) :: (13, .ref fr) :: (12, .str sd) :: q11 b g nm up dn rate) (σ3.set 14 (some (.ref D))) := sg3.set (by decide) (by simp)
      have hin : nm ∈ g.pa.people.map (·.1) := List.mem_map.mpr ⟨_, hper, rfl⟩
      refine ⟨.ref g.cv, sg5.get (by simp), g.cv, dx, _, rfl, sB _ _ eca, by rfl, .str nm, sg5.get (by simp), .str sd, sg5.get (by simp), .int rate, sg5.get (by simp), ?_⟩
      refine ⟨fun _ => True, fun _ => True, fun _ => True, _, _, _, _, g.pa, .str nm, .str sd, .int rate, rfl, rx.ch.same sB, .str _, .str _, .int _, ok.ck.ok.pn, pl, ?_⟩
      rw [if_pos (show isWordD (.str nm) (g.pa.people.map (·.1)) = true from decide_eq_true hin), if_pos hsd, if_pos (show isIntD (.int rate) (some 0) none = true by show (decide (0 ≤ rate) && true) = true; rw [decide_eq_true r0]; rfl)]
      intro rr hrr
      have hrr : rr = (up, dn) := by
        have := key_one ok.ck.ok.pn hrr hper rfl
        cases this
        rfl
      subst hrr
      rw [← hy]
      have y01 : 0 ≤ y.1 ∧ y.1 ≤ 100 ∧ 0 ≤ y.2 ∧ y.2 ≤ 100 := by
        rw [hy]
        unfold newRate
        split
        · exact ⟨r0, by show rate ≤ 100; omega, w0, by show dn ≤ 100; omega⟩
        · exact ⟨u0, by show up ≤ 100; omega, r0, by show rate ≤ 100; omega⟩
      have ck : ChOk { g.pa with people := setAt g.pa.people nm y } g.cs := ok.ck.rate nm y01.1 y01.2.2.1 (sm_b (by omega) (by omega)) (sm_b (by omega) (by omega))
      refine ck.made fun ch H6 s6 nch hch => ?_
      have L6 := (L.same sB).same s6
      refine ⟨.ref g.lv, sg5.get (by simp), .ref D, sg5.get (by simp), g.lv, "people", .ref D, _, _, _, _, rfl, by decide +kernel, L6.e, fun q7 H7 s7 n7 e7 => ?_⟩
      rw [e4p] at e7
      have L7 := L6.same s7
      have d1 : DqAll (fun _ => True) H7 (swapV nm fr x1 g.pa.people) ((setAt g.pa.people nm y).map perD) := swap_dq True.intro (s7 _ _ (s6 _ _ (sd' _ _ efc))) L7.d1
      have LF : LoreF (fun _ => True) H7 q7 D a2 a3 a4 (swapV nm fr x1 g.pa.people) x2 x3 x4 { g.pa with people := setAt g.pa.people nm y } := ⟨True.intro, True.intro, True.intro, True.intro, True.intro, e7, s7 _ _ (s6 _ _ eD), L7.e2, L7.e3, L7.e4, d1, L7.d2, L7.d3, L7.d4⟩
      refine ⟨_, _, _, rfl, hch.same s7, LF.mk', ck.lore, fun H8 s8 => ?_⟩
      refine ⟨_, rfl, ?_⟩
      refine iteF ?_
      exact ⟨sg5.sub (by simp), fun b o z => s8 _ _ (s7 _ _ (s6 _ _ (sd' _ _ (sc _ _ z))))⟩
  · rintro σ Hc ⟨sgc, sc⟩
    exact nx _ _ ⟨nm, up, dn, rate, sgc, rx.same fun b o z => sc _ _ (sH _ _ z), hper, r0, r1⟩
end
end G

set_option Elab.async false
set_option linter.all false
set_option maxRecDepth 100000
set_option maxHeartbeats 4000000
namespace G
open PySem PySem.Spec PyProof.Rows L2 U
open PySem.W (Frag)
section
variable {P : Program} {w : World} {K : Frag} {mg : Str → Option Value} {base : Heap} {cdv : Value} {A : Around} {outer : List Env} {s : Shared} {HX : Hp} {E : XK} {e : RE} {b : Rb} {g : Rg} {k : Nat}
abbrev q16 (b : Rb) (g : Rg) (nm lab : Str) (b2 : Addr) : List (Nat × V) := (16, .ref b2) :: (15, .str lab) :: (8, .str nm) :: q2 b g
structure Lk (b : Rb) (g : Rg) (nm lab : Str) (ts : List Tab) (b2 : Addr) (H : Hp) : Prop where
  nm : nm ∈ g.pa.people.map (·.1)
  lb : (lab, ts) ∈ g.pa.labs
  d : Dq (fun a => a ≠ b.p) H (.ref b2) (.list (ts.map Tab.d))
theorem Lk.mv {b : Rb} {g : Rg} {nm lab : Str} {ts : List Tab} {b2 : Addr} {H H' : Hp} (h : Lk b g nm lab ts b2 H) (x : Ext b.p H H') : Lk b g nm lab ts b2 H' := ⟨h.nm, h.lb, h.d.move (fun _ f => f) fun b o f z => x _ _ f z⟩
def T3 (C : Addr) (b : Rb) (g : Rg) (k : Nat) : StP := fun σ H => ∃ nm lab ts b2, Sg 19 (q16 b g nm lab b2) σ ∧ Rx C b g k H ∧ Lk b g nm lab ts b2 H
theorem lp4 (R : e.Ok P w K mg base) (hr : RmG K cdv A s) (ok : g.Ok b) (hk : k + 100 ≤ 6000) : PS (cxG P w K mg base cdv A outer s HX E) (lS 4) (tTo (T2 e.C b g k) (T3 e.C b g (k + 1))) := by
  have hr1 := hr.mono (show 1 ≤ 12 by omega)
  have hr2 := hr.mono (show 2 ≤ 12 by omega)
  refine ps_up (ps_asg (pe_has R.hO hr2 (pa_cons (pv 0) (pa_cons (pe_dget (hu_of hr1) (pv 1) pe_str (fun _ _ => rfl)) pa_nil))) (pg_tup rfl (pgs_cons (pg_name (i := 15) sc_Lright.nd rfl (Or.inl rfl)) (pgs_cons (pg_name (i := 16) sc_Lright.nd rfl (Or.inl rfl)) pgs_nil)))) fun D σ H h => ?_
  obtain ⟨⟨nm, up, dn, rate, sg, rx, hper, r0, r1⟩, nx⟩ := h
  have nn := ok.nn
  obtain ⟨a, a1, a2, a3, a4, x1, x2, x3, x4, ea, L⟩ := lore_inv rx.lo
  cases ea
  have ll := ok.lo.ll
  have l2 : x2.length = g.pa.labs.length := by rw [L.d2.len, List.length_map]
  have lp : 0 < g.pa.labs.length := List.length_pos_iff.mpr ok.lo.lb
  refine ⟨.ref b.p, sg.get (by simp), .ref g.lv, sg.get (by simp), g.lv, .ref a2, rfl, (get4 L.e).2.1, b.n + k, b.p, a2, x2, rfl, rx.pot, by omega, L.e2, L.f2, by omega, by omega, fun i v H1 hi p1 e1 => ?_⟩
  have rx1 : Rx e.C b g (k + 1) H1 := rx.to ok e1 p1 (by omega)
  obtain ⟨l, lb, u, hl, rfl, flb, elb, du⟩ := lab_at L.d2 hi
  have du1 : Dq (fun a => a ≠ b.p) H1 u (.list (l.2.map Tab.d)) := du.move (fun _ f => f) fun b o f z => e1 _ _ f z
  obtain ⟨b2, rfl⟩ : ∃ b2, u = .ref b2 := by
    cases du with
    | lst => exact ⟨_, rfl⟩
  refine ⟨lb, _, rfl, SqT.of (e1 _ _ flb elb), rfl, _, _, rfl, _, _, rfl, rfl, ?_⟩
  exact nx _ _ ⟨nm, l.1, l.2, b2, (Sg.set (Sg.set (fs := (8, .str nm) :: q2 b g) (sg.sub (by simp)) (by decide) (by simp)) (by decide) (by simp)), rx1, List.mem_map.mpr ⟨_, hper, rfl⟩, List.mem_of_getElem? hl, du1⟩
/-- the row that is put -/
abbrev frow (nm lab : Str) (day : Int) (pr : Prn) : Str × Row := ("fresh", ⟨nm, lab, day, pr⟩)
def T4 (C : Addr) (b : Rb) (g : Rg) (k : Nat) : StP := fun σ H => ∃ nm lab ts b2 rb day pr, Sg 19 ((4, .ref rb) :: q16 b g nm lab b2) σ ∧ Rx C b g k H ∧ Lk b g nm lab ts b2 H ∧ H rb = some (.tup [.str "fresh", .str nm, .str lab, .int day, pr.v]) ∧ 0 ≤ day ∧ day ≤ 99 ∧ PrnB 1000 pr
theorem lp5 (R : e.Ok P w K mg base) (hr : RmG K cdv A s) (ok : g.Ok b) (hk : k + 100 ≤ 6000) : PS (cxG P w K mg base cdv A outer s HX E) (lS 5) (tTo (T3 e.C b g k) (T4 e.C b g (k + 3))) := by
  have hr1 := hr.mono (show 1 ≤ 12 by omega)
  have hr2 := hr.mono (show 2 ≤ 12 by omega)
  refine ps_up (ps_set (i := 4) sc_Lright.nd rfl (Or.inl rfl) (pe_tup (pa_cons pe_str (pa_cons (pv 8) (pa_cons (pv 15) (pa_cons (pe_has R.hT hr1 (pa_cons (pv 0) (pa_cons pe_int pa_nil))) (pa_cons (pe_has R.hO hr2 (pa_cons (pv 0) (pa_cons (pe_lst (pa_cons pe_str (pa_cons pe_str (pa_cons (pe_has R.hT hr1 (pa_cons (pv 0) (pa_cons pe_int pa_nil))) pa_nil)))) pa_nil))) pa_nil))))))) fun D σ H h => ?_
  obtain ⟨⟨nm, lab, ts, b2, sg, rx, lk⟩, nx⟩ := h
  have nn := ok.nn
  refine ⟨.str nm, sg.get (by simp), .str lab, sg.get (by simp), .ref b.p, sg.get (by simp), b.n + k, b.p, 100, rfl, by decide, by decide, by omega, rx.pot, fun day H1 d0 d1 p1 e1 => ?_⟩
  have rx1 : Rx e.C b g (k + 1) H1 := rx.to ok e1 p1 (by omega)
  refine ⟨.ref b.p, sg.get (by simp), .ref b.p, sg.get (by simp), b.n + (k + 1), b.p, 20, rfl, by decide, by decide, by omega, rx1.pot, fun c H2 c0 c1 p2 e2 => ?_⟩
  have rx2 : Rx e.C b g (k + 2) H2 := rx1.to ok e2 p2 (by omega)
  refine ⟨(show 3 ≤ sizeLine by decide), fun l nl => ?_⟩
  have sl := same_new (o := .lst [.str "low", .str "high", .int c]) nl
  have rx3 := rx2.same sl
  refine ⟨b.n + (k + 2), b.p, l, _, rfl, rx3.pot, by omega, upd_same, rx2.pot.new nl, (show 0 < 3 by decide), (show 3 < 1000000 by decide), fun j v H4 hj p4 e4 => ?_⟩
  have rx4 : Rx e.C b g (k + 3) H4 := rx3.to ok e4 p4 (by omega)
  obtain ⟨pr, rfl, hpr⟩ : ∃ pr : Prn, v = pr.v ∧ PrnB 1000 pr := by
    match j, hj with
    | 0, hj => exact ⟨.word "low", (Option.some.inj hj).symm, show ("low" : Str) ∈ wPrn by decide +kernel⟩
    | 1, hj => exact ⟨.word "high", (Option.some.inj hj).symm, show ("high" : Str) ∈ wPrn by decide +kernel⟩
    | 2, hj => exact ⟨.num c, (Option.some.inj hj).symm, by omega, by omega⟩
  refine ⟨(show 5 ≤ sizeLine by decide), fun rb nrb => ?_⟩
  have sr := same_new (o := .tup [.str "fresh", .str nm, .str lab, .int day, pr.v]) nrb
  exact nx _ _ ⟨nm, lab, ts, b2, rb, day, pr, sg.set (by decide) (by simp), rx4.same sr, lk.mv (e1.trans (e2.trans ((Ext.of sl).trans (e4.trans (.of sr))))), upd_same, d0, by omega, hpr⟩
theorem join_bd {ws : List Str} (h : Ln ws) : (ws.map (·.length)).sum + ws.length * sBlank.length ≤ 16777216 := by
  have := sum_le (xs := ws.map (·.length)) (m := 12) (fun x hx => by
    obtain ⟨w, hw, rfl⟩ := List.mem_map.mp hx
    exact (h.all w hw).l)
  rw [List.length_map] at this
  have f := h.few
  rw [show sBlank.length = 1 from rfl]
  omega
theorem lp6 (R : e.Ok P w K mg base) (hr : RmG K cdv A s) (ok : g.Ok b) : PS (cxG P w K mg base cdv A outer s HX E) (lS 6) (tTo (T4 e.C b g k) (T0 e.C b g k)) := by
  have hr1 := hr.mono (show 1 ≤ 12 by omega)
  have hr2 := hr.mono (show 2 ≤ 12 by omega)
  refine ps_up (ps_if (pt_not (pt_val (pe_has R.hTu hr2 (pa_cons (pv 16) (pa_cons (pe_ix (ix_tupK (K := K) rfl) (pv 4) pe_int (fun _ _ => rfl)) pa_nil)))))
    (pss_cons (ps_set (i := 17) sc_Lright.nd rfl (Or.inl rfl) (pe_join pe_str (pe_op op_cat (pe_lst (pa_cons pe_str pa_nil)) (pe_lc (own := [("_law_word", 18)]) (g := gName 18) (tt := tYes) (te := tCall sp_Lprint [] E0 (tCons (tVar 18) tNil)) rfl sc_Lright.nd (pi_tup (pv 4)) (blkOk_by (N := N_Lright) (sc := defScope s_Lright) (by decide +kernel)) (fun _ _ _ _ _ => pg_name (i := 18) sc_Lright.nd rfl (Or.inl rfl)) (fun _ _ _ _ _ => pts_nil)
        (fun _ _ _ _ _ => pe_has R.hPr hr1 (pa_cons (pv 18) pa_nil))))))
      (pss_one (ps_if (pt_not (pt_val (pe_has R.hMd (hr.mono (by decide)) (pa_cons (pe_meth (pv 2) R.TC.cls R.mP R.GP (hr.mono (by decide)) R.bP .nil (passN (X := cxG P w K mg base cdv A outer s HX E)) (pa_cons (pv 17) pa_nil)) (pa_cons (pe_has R.hWi hr1 (pa_cons (pv 1) (pa_cons pe_str (pa_cons (pe_op op_cat (pe_dget (hu_of hr1) (pv 1) pe_str (fun _ _ => rfl)) (pe_lst (pa_cons (pv 4) pa_nil))) pa_nil)))) pa_nil))))) (pss_one (ps_ret pe_bl)) pss_nil))) pss_nil) fun D σ H h => ?_
  obtain ⟨⟨nm, lab, ts, b2, rb, day, pr, sg, rx, lk, erb, d0, d1, hpr⟩, nx⟩ := h
  have tsm := ok.ts _ lk.lb
  have tl := (ok.ck.ok.ls _ lk.lb).2.2.1
  have tl : ts.length ≤ 4 := tl
  have pok : PrnOk pr := by
    cases pr with
    | num i => exact True.intro
    | word x => exact hpr
  have prs : PrnS pr := by
    cases pr with
    | num i =>
      obtain ⟨h1, h2⟩ := hpr
      exact sm_b (by omega) (by omega)
    | word x => exact hpr
  refine ⟨.ref b2, sg.get (by simp), .ref rb, sg.get (by simp), rb, _, _, pr.v, rfl, rfl, SqT.of erb, atI_nat (j := 4) rfl, .ref b2, ts, pr, rfl, lk.d.da, by omega, fun x hx => (tsm x hx).ok, pok, fun H1 s1 => ?_⟩
  have rx1 := rx.same s1
  refine ⟨_, rfl, ?_⟩
  cases hc : canTell ts pr with
  | false => exact nx _ _ ⟨sg.sub (by simp), rx1⟩
  | true =>
  have hrw : RwS g.pa (frow nm lab day pr) := ⟨(show isName ("fresh" : Str) = true by decide +kernel), lk.nm, List.mem_map.mpr ⟨_, lk.lb, rfl⟩, prs, d0, d1⟩
  have htt : ∀ us, tabsOf g.pa.labs lab = some us → canTell us pr = true := fun us hu => by
    rw [tabsOf_nd ok.ck.ok.ln lk.lb] at hu
    cases hu
    exact hc
  have r6 := ok.r6
  have fit := ln_r ok.ck.ok hrw
  have atoms := atoms_r hrw
  have ck : ChOk { g.pa with rows := g.pa.rows ++ [frow nm lab day pr] } g.cs := ok.ck.more (by omega) ok.fr hrw htt
  refine ⟨⟨_, rfl⟩, (show 1 ≤ sizeLine by decide), fun l nl => ?_⟩
  have sl := same_new (o := .lst [.str "result"]) nl
  have el : upd H1 l (.lst [.str "result"]) l = some (.lst [.str "result"]) := upd_same
  generalize upd H1 l (.lst [.str "result"]) = H2 at sl el
  have sA : Same H H2 := fun b o z => sl _ _ (s1 _ _ z)
  have ew : ([.str "fresh", .str nm, .str lab, .int day, pr.v] : List V) = ((rowW (frow nm lab day pr)).drop 1).map wordV := by
    cases pr <;> rfl
  rw [ew] at erb
  refine ⟨.ref rb, sg.get (by simp), rb, rfl, ⟨_, SqT.of (sA _ _ erb)⟩, fun D nD => lc_vals (walk_tup (xs := ((rowW (frow nm lab day pr)).drop 1).map wordV)) nD ((((rowW (frow nm lab day pr)).drop 1).map wordS).map V.str) (by rw [List.length_map, List.length_map, List.length_map]) (by rw [List.length_map]; show 5 ≤ 16000000; decide) (fun Hc sc => SqT.of (sc _ _ (sA _ _ erb))) ?_ fun H3 s3 e3 => ?_⟩
  · rintro i x y Hc Hc' kk hy sc ⟨rfl, hx⟩ hk
    rw [List.getElem?_map, Option.map_eq_some_iff] at hx
    obtain ⟨d, hd, rfl⟩ := hx
    rw [List.getElem?_map, List.getElem?_map, hd] at hy
    have hy : V.str (wordS d) = y := Option.some.inj hy
    subst hy
    have sg' : Sg 19 ((18, wordV d) :: (4, .ref rb) :: q16 b g nm lab b2) ((wipe σ [18]).set 18 (some (wordV d))) := Sg.set (Sg.off sg (by simp)) (by decide) (by simp)
    exact ⟨wipe_one _ _ _, _, sg'.get (by simp), d, rfl, atoms d (List.mem_of_mem_drop (List.mem_of_getElem? hd)), hk _ (Same.refl _)⟩
  refine ⟨l, D, _, _, rfl, rfl, s3 _ _ el, e3, by rw [List.length_map, List.length_map]; show 6 ≤ sizeLine; decide, fun q nq => ?_⟩
  have sq := same_new (o := .lst ([V.str "result"] ++ (((rowW (frow nm lab day pr)).drop 1).map wordS).map V.str)) nq
  have sB : Same H (upd H3 q (.lst ([V.str "result"] ++ (((rowW (frow nm lab day pr)).drop 1).map wordS).map V.str))) := fun b o z => sq _ _ (s3 _ _ (sA _ _ z))
  refine ⟨sBlank, q, wr (frow nm lab day pr), rfl, rfl, .inl (SqL.of upd_same), join_bd fit, ?_⟩
  generalize upd H3 q (.lst ([V.str "result"] ++ (((rowW (frow nm lab day pr)).drop 1).map wordS).map V.str)) = H4 at sB
  have sg7 : Sg 19 ((17, .str (J (wr (frow nm lab day pr)))) :: (4, .ref rb) :: q16 b g nm lab b2) (σ.set 17 (some (.str (J (wr (frow nm lab day pr)))))) := sg.set (by decide) (by simp)
  obtain ⟨a, a1, a2, a3, a4, x1, x2, x3, x4, ea, L⟩ := lore_inv rx.lo
  cases ea
  have L := L.any
  have l3 : x3.length = g.pa.rows.length := by rw [L.d3.len, List.length_map]
  obtain ⟨ca, dx, v1, v2, v3, v4, ec, eca, _⟩ := id rx.ch
  cases ec
  refine ⟨.ref g.cv, sg7.get (by simp), g.cv, dx, _, rfl, sB _ _ eca, by rfl, .str (J (wr (frow nm lab day pr))), sg7.get (by simp), ?_⟩
  refine ⟨fun _ => True, _, _, g.pa, .str (J (wr (frow nm lab day pr))), rfl, rx.ch.same sB, fun z hz => ⟨(ok.ck.ok.ls z hz).2.2.1, fun t ht => ((ok.ck.ok.ls z hz).2.2.2 t ht).ok⟩, .str _, fun t z => ?_, ok.ck.nd, ok.ck.rl, ?_⟩
  · cases z
    exact Nat.le_trans (J_len fit) (by decide)
  rw [put_out ok.ck (by omega) ok.fr hrw htt]
  refine ck.made fun ch H5 s5 nch hch => ?_
  have L5 := (L.same sB).same s5
  refine ⟨.ref g.lv, sg7.get (by simp), .ref g.lv, sg7.get (by simp), g.lv, .ref a3, rfl, (get4 L5.e).2.2.1, .ref rb, sg7.get (by simp), (show 1 ≤ sizeLine by decide), fun m nm' => ?_⟩
  have s6 := same_new (o := .lst [.ref rb]) nm'
  refine ⟨a3, m, _, _, rfl, rfl, s6 _ _ L5.e3, upd_same, by rw [sizeLine_eq]; show x3.length + 1 ≤ _; omega, fun q3 n3 => ?_⟩
  have s7 := same_new (o := .lst (x3 ++ [.ref rb])) n3
  have sC : Same H5 (upd (upd H5 m (.lst [.ref rb])) q3 (.lst (x3 ++ [.ref rb]))) := fun b o z => s7 _ _ (s6 _ _ z)
  have e3' : upd (upd H5 m (.lst [.ref rb])) q3 (.lst (x3 ++ [.ref rb])) q3 = some (.lst (x3 ++ [.ref rb])) := upd_same
  generalize upd (upd H5 m (.lst [.ref rb])) q3 (.lst (x3 ++ [.ref rb])) = H7 at sC e3'
  have L7 := L5.same sC
  refine ⟨g.lv, "results", .ref q3, _, _, _, _, rfl, by decide +kernel, L7.e, fun q8 H8 s8 n8 e8 => ?_⟩
  rw [e4r] at e8
  have L8 := L7.same s8
  have sD : Same H H8 := fun b o z => s8 _ _ (sC _ _ (s5 _ _ (sB _ _ z)))
  have drow : Dq (fun _ => True) H8 (.ref rb) (resD (frow nm lab day pr)) := by
    have erb' := sD _ _ erb
    rw [← ew] at erb'
    refine .tup True.intro erb' (.cons (.str _) (.cons (.str _) (.cons (.str _) (.cons (.int _) (.cons ?_ .nil)))))
    cases pr with
    | num i => exact .int _
    | word x => exact .str _
  have d3 : DqAll (fun _ => True) H8 (x3 ++ [.ref rb]) ((g.pa.rows ++ [frow nm lab day pr]).map resD) := by
    rw [List.map_append]
    exact DqAll.app L8.d3 (.cons drow .nil)
  have LF : LoreF (fun _ => True) H8 q8 a1 a2 q3 a4 x1 x2 (x3 ++ [.ref rb]) x4 { g.pa with rows := g.pa.rows ++ [frow nm lab day pr] } := ⟨True.intro, True.intro, True.intro, True.intro, True.intro, e8, L8.e1, L8.e2, s8 _ _ e3', L8.e4, L8.d1, L8.d2, d3, L8.d4⟩
  refine ⟨_, _, _, rfl, (hch.same sC).same s8, LF.mk', ck.lore, fun H9 s9 => ?_⟩
  refine ⟨_, rfl, ?_⟩
  refine iteF ?_
  exact nx _ _ ⟨sg7.sub (by simp), rx.same fun b o z => s9 _ _ (sD _ _ z)⟩
end
end G

set_option Elab.async false
set_option linter.all false
set_option maxRecDepth 100000
set_option maxHeartbeats 4000000
namespace G
open PySem PySem.Spec PyProof.Rows L2 U
open PySem.W (Frag)
section
variable {P : Program} {w : World} {K : Frag} {mg : Str → Option Value} {base : Heap} {cdv : Value} {A : Around} {outer : List Env} {s : Shared} {HX : Hp} {E : XK} {e : RE} {b : Rb} {g : Rg} {k : Nat}
abbrev LtX (b : Rb) : Type := {x : Rg × Nat // x.1.Ok b ∧ x.2 + 200 ≤ 6000}
theorem lturn (R : e.Ok P w K mg base) (hr : RmG K cdv A s) : PSs (cxG P w K mg base cdv A outer s HX E) lBody (fun D σ H => ∃ x : LtX b, tTo (T0 e.C b x.1.1 x.1.2) (T0 e.C b x.1.1 (x.1.2 + 12)) D σ H) := by
  refine pss_some fun x => ?_
  obtain ⟨⟨g, k⟩, ok, h1⟩ := x
  have ok : g.Ok b := ok
  have h1 : k + 200 ≤ 6000 := h1
  show PSs _ _ (tTo (T0 e.C b g k) (T0 e.C b g (k + 12)))
  exact pss_to (lp0 R hr ok (by omega)) (pss_to (lp1 R hr ok) (pss_to (lp2 R hr ok (by omega)) (pss_to (lp3 R hr ok) (pss_to (lp4 R hr ok (by omega)) (pss_to (lp5 R hr ok (by omega)) (pss_to1 (lp6 R hr ok)))))))
def S3 (C : Addr) (b : Rb) : StP := fun σ H => ∃ g : Rg, Sg 19 (q2 b g) σ ∧ g.Ok b ∧ Rx C b g 1500 H
theorem rg4 (R : e.Ok P w K mg base) (hr : RmG K cdv A s) : PS (cxG P w K mg base cdv A outer s HX E) (rS 4) (tTo (S2 e.C b) (S3 e.C b)) := by
  refine ps_up (ps_for PassesOwn.never rfl (pi_range1 (by rfl) R.gR (pa_cons pe_int pa_nil)) (pg_name (i := 6) sc_Lright.nd rfl (Or.inl rfl)) (lturn (b := b) R hr)) fun D σ H h => ?_
  obtain ⟨⟨g, sg, ok, rx⟩, nx⟩ := h
  refine ⟨4, rfl, by decide, by decide, ?_⟩
  refine for_range (lo := 0) (n := (4 : Int).toNat) (g := gName 6) (tb := fun D σ H => ∃ x : LtX b, tTo (T0 e.C b x.1.1 x.1.2) (T0 e.C b x.1.1 (x.1.2 + 12)) D σ H) (D := D) (fun i σ Hc => Sg 19 (q2 b g) σ ∧ Rx e.C b g (1402 + 12 * i) Hc) ⟨sg, rx⟩ ?_ ?_
  · rintro i σ Hc hi ⟨sgc, rxc⟩
    have hi : i < 4 := hi
    refine ⟨⟨(g, 1402 + 12 * i), ok, by show 1402 + 12 * i + 200 ≤ 6000; omega⟩, ⟨sgc.off (by simp), rxc⟩, fun σ' H' h => ?_⟩
    exact ⟨h.1, h.2.up (by show 1402 + 12 * i + 12 ≤ _; omega)⟩
  · rintro σ Hc ⟨sgc, rxc⟩
    exact nx _ _ ⟨g, sgc, ok, rxc.up (by decide)⟩
def spRight : Sp := fun vs H Q _ => ∃ (p : Addr) (n : Nat), vs = [.ref p] ∧ Pot H p n ∧ n + 6000 ≤ 100000 ∧ ∀ H', Pot H' p (n + 1500) → Ext p H H' → Q (.bl true) H'
theorem has_Lright (F : Fn K mg "_law_right" s_Lright) (R : e.Ok P w K mg base) : Has P w K mg base 13 "_law_right" P_Lright [] spRight := by
  have bg : Binds K e.dg P_Chart_text [] := R.TT.fn.bindsN fun _ _ _ _ _ _ us hl => match us, hl with | [_], _ => rfl
  obtain ⟨pp, hp'⟩ := R.TT.prop
  obtain ⟨⟨fd, F⟩, g⟩ := F
  refine ⟨⟨fd, [], ?_, F.kp, .nil, F.bindsN fun _ _ _ _ _ _ us hl => match us, hl with | [_], _ => rfl⟩, g⟩
  refine F.ok sc_Lright (fun vs H Q E h => ?_) (fun cdv A outer s H vs Q E hr h' => ?_)
  · obtain ⟨p, n, rfl, _⟩ := h
    rfl
  · obtain ⟨p, n, rfl, hp, nn, hq⟩ := h'
    have e5 : PSs (cxG P w K mg base cdv A outer s H E) [rS 5] (tEnd (S3 e.C ⟨p, n, H⟩) fun v H' => v = .bl true ∧ Pot H' p (n + 1500) ∧ Ext p H H') := pss_end1 (ps_ret (pe_cmpR op_eq (pe_prop (pv 2) R.TC.cls hp' (ok_Chart_text R.TC R.TT R.hX) (hr.mono (by decide)) bg .nil pass0 rfl) (pe_has R.hL (hr.mono (by decide)) (pa_cons (pv 1) pa_nil)) (nomark _))) fun σ H1 Q h k => by
      obtain ⟨g, sg, ok, rx⟩ := h
      obtain ⟨ca, dx, v1, v2, v3, v4, ec, eca, _⟩ := id rx.ch
      cases ec
      refine ⟨.ref g.cv, sg.get (by simp), g.cv, dx, _, rfl, eca, .ref g.cv, g.pa, rfl, rx.ch, ok.ck.fits, fun H2 s2 => ?_⟩
      refine ⟨.ref g.lv, sg.get (by simp), .ref g.lv, g.pa, rfl, rx.lo.da.same s2, ok.ck.lore, fun H3 s3 => ⟨rfl, ?_⟩⟩
      have rx3 := rx.same fun b o z => s3 _ _ (s2 _ _ z)
      rw [decide_eq_true rfl]
      exact k _ _ ⟨rfl, rx3.pot, rx3.ext⟩
    have all := pss_end (rg0 (outer := outer) (HX := H) (E := E) (b := ⟨p, n, H⟩) R hr) (pss_end (rg1 R hr) (pss_end (rg2 R hr) (pss_end (rg3 R hr) (pss_end (rg4 R hr) e5))))
    refine ⟨_, PSs.nox all, ?_⟩
    refine ⟨⟨⟨rfl, fun x hx => ?_⟩, nn, hp, Ext.refl _ _⟩, fun v H' h => ?_⟩
    · cases List.mem_singleton.mp hx
      rfl
    · obtain ⟨rfl, h2, h3⟩ := h
      exact hq H' h2 h3
/-! ### law -/
def spLaw (K : Frag) : Sp := fun vs H Q _ => ∃ (a : Addr) (ns : List Int), vs = [.ref a] ∧ SqL K H a (ns.map V.int) ∧ ∀ H', Q (.bl true) H'
theorem pot_int {H : Hp} {p l : Addr} {n : Nat} {xs : List V} (hp : Pot H p n) (h : H l = some (.lst xs)) (no : ∀ i, V.int i ∉ xs) : l ≠ p := fun z => by
  obtain ⟨o, m, c, e, _⟩ := hp
  rw [z, e] at h
  cases h
  exact no _ List.mem_cons_self
theorem ok_law {f fS : Addr} {fd fdS : FuncData} (F : FnP K "law" s_law f fd) (hR : Has P w K mg base 13 "_law_right" P_Lright [] spRight) (GS : FnOk P w K mg base CX0 2 fS fdS ["_law_script", "_law_limit"] (spPots K)) (FS : FnP K "_law_pots" s_Lpots fS fdS) (gS : mg "_law_pots" = some (.ref fS)) (gA : mg "all" = none) (gR : mg "range" = none) :
    FnOk P w K mg base CX0 14 f fd ["_law_script"] (spLaw K) := by
  have bS : Binds K fdS ["_law_script", "_law_limit"] [] := FS.bindsN fun _ _ _ _ _ _ us hl => match us, hl with | [_, _], _ => rfl
  refine F.ok sc_law (fun vs H Q E h => ?_) (fun cdv A outer s H vs Q E hr h => ?_)
  · obtain ⟨a, ns, rfl, _⟩ := h
    rfl
  · obtain ⟨a, ns, rfl, hs, hq⟩ := h
    have hr2 : Room 2 _ := hr.mono (by decide)
    have e0 : PS (cxOf CX0 P w K mg base N_law "law" (defScope s_law) f cdv A outer s H E).nox ((defBody s_law).getD 0 sN0) _ := ps_for PassesOwn.never rfl (pi_list (pe_call GS hr2 (by rfl) gS FS.kp bS .nil pass0 (pa_cons (pv 0) (pa_cons pe_int pa_nil)))) (pg_name (i := 1) sc_law.nd rfl (Or.inr rfl))
      (pss_one (ps_if (pt_not (pt_val (pe_callB (cr_all rfl) (by rfl) gA (by decide +kernel) (pa_cons (pe_lc (own := [("_law_lap", 2)]) (g := gName 2) (tt := tYes) (te := tCall spRight [] E0 (tCons (tVar 1) tNil)) rfl sc_law.nd (pi_range1 (by rfl) gR (pa_cons pe_int pa_nil)) (blkOk_by (N := N_law) (sc := defScope s_law) (by decide +kernel)) (fun _ _ _ _ _ => pg_name (i := 2) sc_law.nd rfl (Or.inl rfl)) (fun _ _ _ _ _ => pts_nil)
        (fun _ _ _ _ _ => pe_has hR hr (pa_cons (pv 1) pa_nil))) pa_nil)))) (pss_one (ps_ret pe_bl)) pss_nil))
    have e1 : PS (cxOf CX0 P w K mg base N_law "law" (defScope s_law) f cdv A outer s H E).nox ((defBody s_law).getD 1 sN0) _ := ps_ret pe_bl
    refine ⟨_, PSs.nox (pss_cons e0 (pss_one e1)), ?_⟩
    clear e0 e1
    refine ⟨_, rfl, a, ns, 4, rfl, hs, by decide, by decide, fun l ps H1 s1 hl nd hlen hps => ?_⟩
    have noI : ∀ i, V.int i ∉ ps.map V.ref := fun i z => by
      obtain ⟨q, _, e⟩ := List.mem_map.mp z
      cases e
    refine ⟨l, rfl, ⟨_, SqL.of hl⟩, for_list (K := K) (a := l) (xs := ps.map V.ref) (fun i σ Hc => Sg 3 [(0, .ref a)] σ ∧ Hc l = some (.lst (ps.map V.ref)) ∧ ∀ j, i ≤ j → ∀ p, ps[j]? = some p → Pot Hc p 0)
      ⟨⟨rfl, fun x hx => by cases List.mem_singleton.mp hx; rfl⟩, hl, fun j _ p hp => hps p (List.mem_of_getElem? hp)⟩ (fun i σ Hc _ h => SqL.of h.2.1) ?_ ?_⟩
    · rintro i x σ Hc hi ⟨sg, h1, h2⟩
      rw [List.getElem?_map, Option.map_eq_some_iff] at hi
      obtain ⟨p, ep, rfl⟩ := hi
      have hp := h2 i (Nat.le_refl _) p ep
      have nl : l ≠ p := pot_int hp h1 noI
      have sg1 : Sg 3 ((1, .ref p) :: [(0, .ref a)]) (σ.set 1 (some (.ref p))) := sg.set (by decide) (by simp)
      refine ⟨2, rfl, by decide, by decide, fun L nL => ?_⟩
      have sL := same_new (o := .lst []) nL
      have Lp : L ≠ p := hp.new nL
      refine lc_range (lo := 0) (n := (2 : Int).toNat) (fun j Hd => Ext p Hc Hd ∧ Pot Hd p (1500 * j) ∧ Hd L = some (.lst ((List.replicate j true).map V.bl))) ⟨.of sL, hp.sm sL, upd_same⟩ ?_ ?_
      · rintro j Hd hj ⟨xd, pd, eL⟩
        have hj : j < 2 := hj
        refine ⟨wipe_one _ _ _, yes_if ?_⟩
        have sg2 : Sg 3 ((2, .int (0 + (j : Nat))) :: (1, .ref p) :: [(0, .ref a)]) ((wipe (σ.set 1 (some (.ref p))) [2]).set 2 (some (.int (0 + (j : Nat))))) := Sg.set (Sg.off sg1 (by simp)) (by decide) (by simp)
        refine ⟨.ref p, sg2.get (by simp), p, 1500 * j, rfl, pd, by omega, fun H4 p4 x4 => ?_⟩
        have eL4 := x4 _ _ Lp eL
        refine ⟨_, eL4, by rw [List.length_map, List.length_replicate, sizeLine_eq]; omega, ?_, ?_, ?_⟩
        · intro b o hb z
          rw [upd_ne (ne_of_none z nL)]
          exact x4 _ _ hb (xd _ _ hb z)
        · obtain ⟨o1, m1, c1, e1, k1⟩ := p4
          exact Pot.up ⟨o1, m1, c1, by rw [upd_ne (Ne.symm Lp)]; exact e1, k1⟩ (by omega)
        · rw [upd_same, List.replicate_succ', List.map_append]
          rfl
      · rintro Hd ⟨xd, pd, eL⟩
        refine ⟨L, _, rfl, SqL.of eL, ?_⟩
        refine ⟨_, rfl, ?_⟩
        refine iteF' (by decide) ?_
        refine ⟨sg1.sub (by simp), xd _ _ nl h1, fun j hj q hq' => ?_⟩
        obtain ⟨o1, m1, c1, e1, k1⟩ := h2 j (by omega) q hq'
        have qp : q ≠ p := fun z => by
          subst z
          obtain ⟨l1, f1⟩ := List.getElem?_eq_some_iff.mp hq'
          obtain ⟨l2, f2⟩ := List.getElem?_eq_some_iff.mp ep
          have := (List.getElem_inj nd).mp (f1.trans f2.symm)
          omega
        exact ⟨o1, m1, c1, xd _ _ qp e1, k1⟩
    · rintro σ Hc _
      exact hq Hc
end
end G

set_option Elab.async false
set_option linter.all false
set_option maxRecDepth 100000
set_option maxHeartbeats 0
namespace G
open PySem PySem.Spec PyProof.Rows L2 U
open PySem.W (Frag)
def names0 : List PySem.Str := ["is_integer", "is_tuple", "is_word", "is_day", "is_name", "integer_in", "is_table", "stretch_by", "do_turn_back", "can_tell", "turned_table", "turned_print", "other_word", "is_literal", "is_claim", "check_claim", "claim_in", "person_of", "lab_of", "days_in", "turned_claim", "back_claim", "person_in", "lab_in", "result_in", "read_people", "read_labs", "read_results", "read_facts", "read_text"]
def names1 : List PySem.Str := ["text_of", "chart_of", "check_result", "check_person", "check_lab", "check_side", "person_days", "lab_days", "_law_pot", "_law_take", "_law_of", "_law_some", "_law_pots", "_law_names", "_law_print_text", "_law_claim_text", "_law_table_text", "_law_text", "_law_called", "_law_tables_of", "_law_ends", "_law_turns_back", "_law_is_worth_so", "_law_table", "_law_shown", "_law_hidden", "_law_a_claim", "_law_is_true", "_law_chart", "_law_is_made"]
def names2 : List PySem.Str := ["_law_with", "_law_right", "TableError", "BadChart", "NoResult", "NoPerson", "NoLab", "NoName", "BadLine", "Full", "BadClaim", "NoFact", "BadSide", "BadRate", "Ground", "Chart", "MOST_LETTERS", "LAST_DAY", "PAIR", "MOST_FACTOR", "MOST_TABLES", "TABLE_NUMBERS", "FOUR", "FIVE", "PERSON_WORDS", "RESULT_WORDS", "BLANK", "FEED", "LETTERS", "FIGURES"]
def names3 : List PySem.Str := ["MINUS", "LEAST", "MOST_words", "ROSE", "FROM", "BEFORE", "UP", "DOWN", "LOW", "NORMAL", "HIGH", "PERSON", "LAB", "RESULT", "FACT", "PRINTS", "BOUNDS", "LITERALS", "TURNED_PRINTS", "MOST_charts"]
def loose : List PySem.Str := names0 ++ names1 ++ names2 ++ names3
def fa0 : List He.Fa := [.glo "is_integer", .glo "is_tuple", .glo "is_word", .glo "is_day", .glo "is_name", .glo "integer_in", .glo "is_table", .glo "stretch_by", .glo "do_turn_back", .glo "can_tell", .glo "turned_table", .glo "turned_print", .glo "other_word", .glo "is_literal", .glo "is_claim", .glo "check_claim", .glo "claim_in", .glo "person_of", .glo "lab_of", .glo "days_in"]
def fa1 : List He.Fa := [.glo "turned_claim", .glo "back_claim", .glo "person_in", .glo "lab_in", .glo "result_in", .glo "read_people", .glo "read_labs", .glo "read_results", .glo "read_facts", .glo "read_text", .glo "text_of", .glo "chart_of", .glo "check_result", .glo "check_person", .glo "check_lab", .glo "check_side", .glo "person_days", .glo "lab_days", .glo "_law_pot", .glo "_law_take"]
def fa2 : List He.Fa := [.glo "_law_of", .glo "_law_some", .glo "_law_pots", .glo "_law_names", .glo "_law_print_text", .glo "_law_claim_text", .glo "_law_table_text", .glo "_law_text", .glo "_law_called", .glo "_law_tables_of", .glo "_law_ends", .glo "_law_turns_back", .glo "_law_is_worth_so", .glo "_law_table", .glo "_law_shown", .glo "_law_hidden", .glo "_law_a_claim", .glo "_law_is_true", .glo "_law_chart", .glo "_law_is_made"]
def fa3 : List He.Fa := [.glo "_law_with", .glo "_law_right", .glo "law", .glo "TableError", .glo "BadChart", .glo "NoResult", .glo "NoPerson", .glo "NoLab", .glo "NoName", .glo "BadLine", .glo "Full", .glo "BadClaim", .glo "NoFact", .glo "BadSide", .glo "BadRate", .glo "Ground", .glo "Chart", .glo "PRINTS", .glo "BOUNDS", .glo "LITERALS"]
def fa4 : List He.Fa := [.glo "TURNED_PRINTS", .glo "MOST_charts", .free "len", .free "abs", .free "int", .free "str", .free "bool", .free "repr", .free "isinstance", .free "range", .free "max", .free "min", .free "enumerate", .free "any", .free "all", .free "tuple", .free "list", .free "zip", .free "set", .free "sorted"]
def fa5 : List He.Fa := [.free "sum", .free "dict", .free "ValueError", .free "TypeError", .free "type", .int "MOST_LETTERS" 8, .int "LAST_DAY" 99, .int "PAIR" 2, .int "MOST_FACTOR" 1000, .int "MOST_TABLES" 4, .int "TABLE_NUMBERS" 5, .int "FOUR" 4, .int "FIVE" 5, .int "PERSON_WORDS" 4, .int "RESULT_WORDS" 6, .str "BLANK" " ", .str "FEED" "\n", .str "LETTERS" "abcdefghijklmnopqrstuvwxyz", .str "FIGURES" "0123456789", .str "MINUS" "-"]
def fa6 : List He.Fa := [.str "LEAST" "least", .str "MOST_words" "most", .str "ROSE" "rose", .str "FROM" "from", .str "BEFORE" "before", .str "UP" "up", .str "DOWN" "down", .str "LOW" "low", .str "NORMAL" "normal", .str "HIGH" "high", .str "PERSON" "person", .str "LAB" "lab", .str "RESULT" "result", .str "FACT" "fact", .cls "Chart", .mkr "Chart", .noat "Chart" "own_people", .noat "Chart" "own_labs", .noat "Chart" "own_rows", .noat "Chart" "own_facts"]
def fa7 : List He.Fa := [.mkr "Ground", .exm "BadChart" "TableError" true, .meth "Chart" "put", .meth "Chart" "without", .meth "Chart" "told", .meth "Chart" "untold", .meth "Chart" "rated"]
def fa : List He.Fa := fa0 ++ fa1 ++ fa2 ++ fa3 ++ fa4 ++ fa5 ++ fa6 ++ fa7
def d_is_integer : He.DefD := ⟨("is_integer", none), "is_integer", "is_integer", defArgs s_is_integer, defBody s_is_integer, defScope s_is_integer, [.non, .non], []⟩
def d_is_tuple : He.DefD := ⟨("is_tuple", none), "is_tuple", "is_tuple", defArgs s_is_tuple, defBody s_is_tuple, defScope s_is_tuple, [], []⟩
def d_is_word : He.DefD := ⟨("is_word", none), "is_word", "is_word", defArgs s_is_word, defBody s_is_word, defScope s_is_word, [], []⟩
def d_is_day : He.DefD := ⟨("is_day", none), "is_day", "is_day", defArgs s_is_day, defBody s_is_day, defScope s_is_day, [], []⟩
def d_is_name : He.DefD := ⟨("is_name", none), "is_name", "is_name", defArgs s_is_name, defBody s_is_name, defScope s_is_name, [], []⟩
def d_integer_in : He.DefD := ⟨("integer_in", none), "integer_in", "integer_in", defArgs s_integer_in, defBody s_integer_in, defScope s_integer_in, [], []⟩
def d_is_table : He.DefD := ⟨("is_table", none), "is_table", "is_table", defArgs s_is_table, defBody s_is_table, defScope s_is_table, [], []⟩
def d_stretch_by : He.DefD := ⟨("stretch_by", none), "stretch_by", "stretch_by", defArgs s_stretch_by, defBody s_stretch_by, defScope s_stretch_by, [], []⟩
def d_do_turn_back : He.DefD := ⟨("do_turn_back", none), "do_turn_back", "do_turn_back", defArgs s_do_turn_back, defBody s_do_turn_back, defScope s_do_turn_back, [], []⟩
def d_can_tell : He.DefD := ⟨("can_tell", none), "can_tell", "can_tell", defArgs s_can_tell, defBody s_can_tell, defScope s_can_tell, [], []⟩
def d_turned_table : He.DefD := ⟨("turned_table", none), "turned_table", "turned_table", defArgs s_turned_table, defBody s_turned_table, defScope s_turned_table, [], []⟩
def d_turned_print : He.DefD := ⟨("turned_print", none), "turned_print", "turned_print", defArgs s_turned_print, defBody s_turned_print, defScope s_turned_print, [], []⟩
def d_other_word : He.DefD := ⟨("other_word", none), "other_word", "other_word", defArgs s_other_word, defBody s_other_word, defScope s_other_word, [], []⟩
def d_is_literal : He.DefD := ⟨("is_literal", none), "is_literal", "is_literal", defArgs s_is_literal, defBody s_is_literal, defScope s_is_literal, [], []⟩
def d_is_claim : He.DefD := ⟨("is_claim", none), "is_claim", "is_claim", defArgs s_is_claim, defBody s_is_claim, defScope s_is_claim, [], []⟩
def d_check_claim : He.DefD := ⟨("check_claim", none), "check_claim", "check_claim", defArgs s_check_claim, defBody s_check_claim, defScope s_check_claim, [], []⟩
def d_claim_in : He.DefD := ⟨("claim_in", none), "claim_in", "claim_in", defArgs s_claim_in, defBody s_claim_in, defScope s_claim_in, [], []⟩
def d_person_of : He.DefD := ⟨("person_of", none), "person_of", "person_of", defArgs s_person_of, defBody s_person_of, defScope s_person_of, [], []⟩
def d_lab_of : He.DefD := ⟨("lab_of", none), "lab_of", "lab_of", defArgs s_lab_of, defBody s_lab_of, defScope s_lab_of, [], []⟩
def d_days_in : He.DefD := ⟨("days_in", none), "days_in", "days_in", defArgs s_days_in, defBody s_days_in, defScope s_days_in, [], []⟩
def d_turned_claim : He.DefD := ⟨("turned_claim", none), "turned_claim", "turned_claim", defArgs s_turned_claim, defBody s_turned_claim, defScope s_turned_claim, [], []⟩
def d_back_claim : He.DefD := ⟨("back_claim", none), "back_claim", "back_claim", defArgs s_back_claim, defBody s_back_claim, defScope s_back_claim, [], []⟩
def d_person_in : He.DefD := ⟨("person_in", none), "person_in", "person_in", defArgs s_person_in, defBody s_person_in, defScope s_person_in, [], []⟩
def d_lab_in : He.DefD := ⟨("lab_in", none), "lab_in", "lab_in", defArgs s_lab_in, defBody s_lab_in, defScope s_lab_in, [], []⟩
def d_result_in : He.DefD := ⟨("result_in", none), "result_in", "result_in", defArgs s_result_in, defBody s_result_in, defScope s_result_in, [], []⟩
def d_read_people : He.DefD := ⟨("read_people", none), "read_people", "read_people", defArgs s_read_people, defBody s_read_people, defScope s_read_people, [], []⟩
def d_read_labs : He.DefD := ⟨("read_labs", none), "read_labs", "read_labs", defArgs s_read_labs, defBody s_read_labs, defScope s_read_labs, [], []⟩
def d_read_results : He.DefD := ⟨("read_results", none), "read_results", "read_results", defArgs s_read_results, defBody s_read_results, defScope s_read_results, [], []⟩
def d_read_facts : He.DefD := ⟨("read_facts", none), "read_facts", "read_facts", defArgs s_read_facts, defBody s_read_facts, defScope s_read_facts, [], []⟩
def d_read_text : He.DefD := ⟨("read_text", none), "read_text", "read_text", defArgs s_read_text, defBody s_read_text, defScope s_read_text, [], []⟩
def d_text_of : He.DefD := ⟨("text_of", none), "text_of", "text_of", defArgs s_text_of, defBody s_text_of, defScope s_text_of, [], []⟩
def d_chart_of : He.DefD := ⟨("chart_of", none), "chart_of", "chart_of", defArgs s_chart_of, defBody s_chart_of, defScope s_chart_of, [], []⟩
def d_check_result : He.DefD := ⟨("check_result", none), "check_result", "check_result", defArgs s_check_result, defBody s_check_result, defScope s_check_result, [], []⟩
def d_check_person : He.DefD := ⟨("check_person", none), "check_person", "check_person", defArgs s_check_person, defBody s_check_person, defScope s_check_person, [], []⟩
def d_check_lab : He.DefD := ⟨("check_lab", none), "check_lab", "check_lab", defArgs s_check_lab, defBody s_check_lab, defScope s_check_lab, [], []⟩
def d_check_side : He.DefD := ⟨("check_side", none), "check_side", "check_side", defArgs s_check_side, defBody s_check_side, defScope s_check_side, [], []⟩
def d_person_days : He.DefD := ⟨("person_days", none), "person_days", "person_days", defArgs s_person_days, defBody s_person_days, defScope s_person_days, [], []⟩
def d_lab_days : He.DefD := ⟨("lab_days", none), "lab_days", "lab_days", defArgs s_lab_days, defBody s_lab_days, defScope s_lab_days, [], []⟩
def d_Lpot : He.DefD := ⟨("_law_pot", none), "_law_pot", "_law_pot", defArgs s_Lpot, defBody s_Lpot, defScope s_Lpot, [], []⟩
def d_Ltake : He.DefD := ⟨("_law_take", none), "_law_take", "_law_take", defArgs s_Ltake, defBody s_Ltake, defScope s_Ltake, [], []⟩
def d_Lof : He.DefD := ⟨("_law_of", none), "_law_of", "_law_of", defArgs s_Lof, defBody s_Lof, defScope s_Lof, [], []⟩
def d_Lsome : He.DefD := ⟨("_law_some", none), "_law_some", "_law_some", defArgs s_Lsome, defBody s_Lsome, defScope s_Lsome, [], []⟩
def d_Lpots : He.DefD := ⟨("_law_pots", none), "_law_pots", "_law_pots", defArgs s_Lpots, defBody s_Lpots, defScope s_Lpots, [], []⟩
def d_Lnames : He.DefD := ⟨("_law_names", none), "_law_names", "_law_names", defArgs s_Lnames, defBody s_Lnames, defScope s_Lnames, [], []⟩
def d_Lprint_text : He.DefD := ⟨("_law_print_text", none), "_law_print_text", "_law_print_text", defArgs s_Lprint_text, defBody s_Lprint_text, defScope s_Lprint_text, [], []⟩
def d_Lclaim_text : He.DefD := ⟨("_law_claim_text", none), "_law_claim_text", "_law_claim_text", defArgs s_Lclaim_text, defBody s_Lclaim_text, defScope s_Lclaim_text, [], []⟩
def d_Ltable_text : He.DefD := ⟨("_law_table_text", none), "_law_table_text", "_law_table_text", defArgs s_Ltable_text, defBody s_Ltable_text, defScope s_Ltable_text, [], []⟩
def d_Ltext : He.DefD := ⟨("_law_text", none), "_law_text", "_law_text", defArgs s_Ltext, defBody s_Ltext, defScope s_Ltext, [], []⟩
def d_Lcalled : He.DefD := ⟨("_law_called", none), "_law_called", "_law_called", defArgs s_Lcalled, defBody s_Lcalled, defScope s_Lcalled, [], []⟩
def d_Ltables_of : He.DefD := ⟨("_law_tables_of", none), "_law_tables_of", "_law_tables_of", defArgs s_Ltables_of, defBody s_Ltables_of, defScope s_Ltables_of, [], []⟩
def d_Lends : He.DefD := ⟨("_law_ends", none), "_law_ends", "_law_ends", defArgs s_Lends, defBody s_Lends, defScope s_Lends, [], []⟩
def d_Lturns_back : He.DefD := ⟨("_law_turns_back", none), "_law_turns_back", "_law_turns_back", defArgs s_Lturns_back, defBody s_Lturns_back, defScope s_Lturns_back, [], []⟩
def d_Lis_worth_so : He.DefD := ⟨("_law_is_worth_so", none), "_law_is_worth_so", "_law_is_worth_so", defArgs s_Lis_worth_so, defBody s_Lis_worth_so, defScope s_Lis_worth_so, [], []⟩
def d_Ltable : He.DefD := ⟨("_law_table", none), "_law_table", "_law_table", defArgs s_Ltable, defBody s_Ltable, defScope s_Ltable, [], []⟩
def d_Lshown : He.DefD := ⟨("_law_shown", none), "_law_shown", "_law_shown", defArgs s_Lshown, defBody s_Lshown, defScope s_Lshown, [], []⟩
def d_Lhidden : He.DefD := ⟨("_law_hidden", none), "_law_hidden", "_law_hidden", defArgs s_Lhidden, defBody s_Lhidden, defScope s_Lhidden, [], []⟩
def d_La_claim : He.DefD := ⟨("_law_a_claim", none), "_law_a_claim", "_law_a_claim", defArgs s_La_claim, defBody s_La_claim, defScope s_La_claim, [], []⟩
def d_Lis_true : He.DefD := ⟨("_law_is_true", none), "_law_is_true", "_law_is_true", defArgs s_Lis_true, defBody s_Lis_true, defScope s_Lis_true, [], []⟩
def d_Lchart : He.DefD := ⟨("_law_chart", none), "_law_chart", "_law_chart", defArgs s_Lchart, defBody s_Lchart, defScope s_Lchart, [], []⟩
def d_Lis_made : He.DefD := ⟨("_law_is_made", none), "_law_is_made", "_law_is_made", defArgs s_Lis_made, defBody s_Lis_made, defScope s_Lis_made, [], []⟩
def d_Lwith : He.DefD := ⟨("_law_with", none), "_law_with", "_law_with", defArgs s_Lwith, defBody s_Lwith, defScope s_Lwith, [], []⟩
def d_Lright : He.DefD := ⟨("_law_right", none), "_law_right", "_law_right", defArgs s_Lright, defBody s_Lright, defScope s_Lright, [], []⟩
def d_law : He.DefD := ⟨("law", none), "law", "law", defArgs s_law, defBody s_law, defScope s_law, [], []⟩
def d_Ground_init : He.DefD := ⟨("Ground", some "__init__"), "__init__", "Ground.__init__", defArgs s_Ground_init, defBody s_Ground_init, defScope s_Ground_init, [], []⟩
def d_Chart_init : He.DefD := ⟨("Chart", some "__init__"), "__init__", "Chart.__init__", defArgs s_Chart_init, defBody s_Chart_init, defScope s_Chart_init, [], []⟩
def d_Chart_put : He.DefD := ⟨("Chart", some "put"), "put", "Chart.put", defArgs s_Chart_put, defBody s_Chart_put, defScope s_Chart_put, [], []⟩
def d_Chart_without : He.DefD := ⟨("Chart", some "without"), "without", "Chart.without", defArgs s_Chart_without, defBody s_Chart_without, defScope s_Chart_without, [], []⟩
def d_Chart_told : He.DefD := ⟨("Chart", some "told"), "told", "Chart.told", defArgs s_Chart_told, defBody s_Chart_told, defScope s_Chart_told, [], []⟩
def d_Chart_untold : He.DefD := ⟨("Chart", some "untold"), "untold", "Chart.untold", defArgs s_Chart_untold, defBody s_Chart_untold, defScope s_Chart_untold, [], []⟩
def d_Chart_rated : He.DefD := ⟨("Chart", some "rated"), "rated", "Chart.rated", defArgs s_Chart_rated, defBody s_Chart_rated, defScope s_Chart_rated, [], []⟩
def fn0 : List He.DefD := [d_is_integer, d_is_tuple, d_is_word, d_is_day, d_is_name, d_integer_in, d_is_table, d_stretch_by, d_do_turn_back, d_can_tell, d_turned_table, d_turned_print, d_other_word, d_is_literal, d_is_claim, d_check_claim, d_claim_in, d_person_of, d_lab_of, d_days_in, d_turned_claim, d_back_claim, d_person_in, d_lab_in, d_result_in]
def fn1 : List He.DefD := [d_read_people, d_read_labs, d_read_results, d_read_facts, d_read_text, d_text_of, d_chart_of, d_check_result, d_check_person, d_check_lab, d_check_side, d_person_days, d_lab_days, d_Lpot, d_Ltake, d_Lof, d_Lsome, d_Lpots, d_Lnames, d_Lprint_text, d_Lclaim_text, d_Ltable_text, d_Ltext, d_Lcalled, d_Ltables_of]
def fn2 : List He.DefD := [d_Lends, d_Lturns_back, d_Lis_worth_so, d_Ltable, d_Lshown, d_Lhidden, d_La_claim, d_Lis_true, d_Lchart, d_Lis_made, d_Lwith, d_Lright, d_law, d_Ground_init, d_Chart_init, d_Chart_put, d_Chart_without, d_Chart_told, d_Chart_untold, d_Chart_rated]
def fn : List He.DefD := fn0 ++ fn1 ++ fn2
theorem at_d_is_integer : fn[0]? = some d_is_integer := rfl
theorem at_d_is_tuple : fn[1]? = some d_is_tuple := rfl
theorem at_d_is_word : fn[2]? = some d_is_word := rfl
theorem at_d_is_day : fn[3]? = some d_is_day := rfl
theorem at_d_is_name : fn[4]? = some d_is_name := rfl
theorem at_d_integer_in : fn[5]? = some d_integer_in := rfl
theorem at_d_is_table : fn[6]? = some d_is_table := rfl
theorem at_d_stretch_by : fn[7]? = some d_stretch_by := rfl
theorem at_d_do_turn_back : fn[8]? = some d_do_turn_back := rfl
theorem at_d_can_tell : fn[9]? = some d_can_tell := rfl
theorem at_d_turned_table : fn[10]? = some d_turned_table := rfl
theorem at_d_turned_print : fn[11]? = some d_turned_print := rfl
theorem at_d_other_word : fn[12]? = some d_other_word := rfl
theorem at_d_is_literal : fn[13]? = some d_is_literal := rfl
theorem at_d_is_claim : fn[14]? = some d_is_claim := rfl
theorem at_d_check_claim : fn[15]? = some d_check_claim := rfl
theorem at_d_claim_in : fn[16]? = some d_claim_in := rfl
theorem at_d_person_of : fn[17]? = some d_person_of := rfl
theorem at_d_lab_of : fn[18]? = some d_lab_of := rfl
theorem at_d_days_in : fn[19]? = some d_days_in := rfl
theorem at_d_turned_claim : fn[20]? = some d_turned_claim := rfl
theorem at_d_back_claim : fn[21]? = some d_back_claim := rfl
theorem at_d_person_in : fn[22]? = some d_person_in := rfl
theorem at_d_lab_in : fn[23]? = some d_lab_in := rfl
theorem at_d_result_in : fn[24]? = some d_result_in := rfl
theorem at_d_read_people : fn[25]? = some d_read_people := rfl
theorem at_d_read_labs : fn[26]? = some d_read_labs := rfl
theorem at_d_read_results : fn[27]? = some d_read_results := rfl
theorem at_d_read_facts : fn[28]? = some d_read_facts := rfl
theorem at_d_read_text : fn[29]? = some d_read_text := rfl
theorem at_d_text_of : fn[30]? = some d_text_of := rfl
theorem at_d_chart_of : fn[31]? = some d_chart_of := rfl
theorem at_d_check_result : fn[32]? = some d_check_result := rfl
theorem at_d_check_person : fn[33]? = some d_check_person := rfl
theorem at_d_check_lab : fn[34]? = some d_check_lab := rfl
theorem at_d_check_side : fn[35]? = some d_check_side := rfl
theorem at_d_person_days : fn[36]? = some d_person_days := rfl
theorem at_d_lab_days : fn[37]? = some d_lab_days := rfl
theorem at_d_Lpot : fn[38]? = some d_Lpot := rfl
theorem at_d_Ltake : fn[39]? = some d_Ltake := rfl
theorem at_d_Lof : fn[40]? = some d_Lof := rfl
theorem at_d_Lsome : fn[41]? = some d_Lsome := rfl
theorem at_d_Lpots : fn[42]? = some d_Lpots := rfl
theorem at_d_Lnames : fn[43]? = some d_Lnames := rfl
theorem at_d_Lprint_text : fn[44]? = some d_Lprint_text := rfl
theorem at_d_Lclaim_text : fn[45]? = some d_Lclaim_text := rfl
theorem at_d_Ltable_text : fn[46]? = some d_Ltable_text := rfl
theorem at_d_Ltext : fn[47]? = some d_Ltext := rfl
theorem at_d_Lcalled : fn[48]? = some d_Lcalled := rfl
theorem at_d_Ltables_of : fn[49]? = some d_Ltables_of := rfl
theorem at_d_Lends : fn[50]? = some d_Lends := rfl
theorem at_d_Lturns_back : fn[51]? = some d_Lturns_back := rfl
theorem at_d_Lis_worth_so : fn[52]? = some d_Lis_worth_so := rfl
theorem at_d_Ltable : fn[53]? = some d_Ltable := rfl
theorem at_d_Lshown : fn[54]? = some d_Lshown := rfl
theorem at_d_Lhidden : fn[55]? = some d_Lhidden := rfl
theorem at_d_La_claim : fn[56]? = some d_La_claim := rfl
theorem at_d_Lis_true : fn[57]? = some d_Lis_true := rfl
theorem at_d_Lchart : fn[58]? = some d_Lchart := rfl
theorem at_d_Lis_made : fn[59]? = some d_Lis_made := rfl
theorem at_d_Lwith : fn[60]? = some d_Lwith := rfl
theorem at_d_Lright : fn[61]? = some d_Lright := rfl
theorem at_d_law : fn[62]? = some d_law := rfl
theorem at_d_Ground_init : fn[63]? = some d_Ground_init := rfl
theorem at_d_Chart_init : fn[64]? = some d_Chart_init := rfl
theorem at_d_Chart_put : fn[65]? = some d_Chart_put := rfl
theorem at_d_Chart_without : fn[66]? = some d_Chart_without := rfl
theorem at_d_Chart_told : fn[67]? = some d_Chart_told := rfl
theorem at_d_Chart_untold : fn[68]? = some d_Chart_untold := rfl
theorem at_d_Chart_rated : fn[69]? = some d_Chart_rated := rfl
def ts : List He.Tab := [(fun K => He.ga K "MOST_charts", ["person", "lab", "result", "fact"])]
abbrev s_Tinit : Stmt := inClass (top 1) 0
def aD (K : Frag) : Addr := He.ga K "TableError"
def aI (K : Frag) : Addr := He.ma K (aD K) "__init__"
def pText (K : Frag) : Addr := (propA K (He.ga K "Chart") "text").2
def ex0 (K : Frag) : Bool := initB R.prog.main.file K (aD K) (aI K)
def ex1 (K : Frag) : Bool := errB K (aD K) (aI K) (He.ga K "BadChart")
def ex2 (K : Frag) : Bool := eqB (PySem.W.kitOne K (.ref (He.ga K "BadChart")) (.ref (He.ga K "BadChart"))) (some true)
def ex3 (K : Frag) : Bool := He.tupB K "PRINTS" [.str "low", .str "normal", .str "high"]
def ex4 (K : Frag) : Bool := He.tupB K "BOUNDS" [.str "least", .str "most"]
def ex5 (K : Frag) : Bool := He.tupB K "LITERALS" [.str "from", .str "before"]
def ex6 (K : Frag) : Bool := He.valsB K (He.ga K "MOST_charts") [("person", .int 3), ("lab", .int 6), ("result", .int 24), ("fact", .int 8)]
def ex7 (K : Frag) : Bool := propB K (He.ga K "Chart") "text"
def ex8 (K : Frag) : Bool := okAt K (pText K) "Chart.text"
def ex9 (K : Frag) : Bool := sclsB K (He.ga K "Ground")
def ex10 (K : Frag) : Bool := slotB K (He.ga K "Ground") "own_labs" 0
def ex11 (K : Frag) : Bool := slotB K (He.ga K "Ground") "own_people" 1
def ex12 (K : Frag) : Bool := errB K (aD K) (aI K) (He.ga K "BadLine")
def ex13 (K : Frag) : Bool := eqB (PySem.W.kitOne K (.ref (He.ga K "BadLine")) (.ref (He.ga K "BadLine"))) (some true)
def ex14 (K : Frag) : Bool := errB K (aD K) (aI K) (He.ga K "Full")
def ex15 (K : Frag) : Bool := eqB (PySem.W.kitOne K (.ref (He.ga K "Full")) (.ref (He.ga K "Full"))) (some true)
def ex16 (K : Frag) : Bool := errB K (aD K) (aI K) (He.ga K "NoResult")
def ex17 (K : Frag) : Bool := eqB (PySem.W.kitOne K (.ref (He.ga K "NoResult")) (.ref (He.ga K "NoResult"))) (some true)
def ex18 (K : Frag) : Bool := errB K (aD K) (aI K) (He.ga K "BadClaim")
def ex19 (K : Frag) : Bool := eqB (PySem.W.kitOne K (.ref (He.ga K "BadClaim")) (.ref (He.ga K "BadClaim"))) (some true)
def ex20 (K : Frag) : Bool := errB K (aD K) (aI K) (He.ga K "NoFact")
def ex21 (K : Frag) : Bool := eqB (PySem.W.kitOne K (.ref (He.ga K "NoFact")) (.ref (He.ga K "NoFact"))) (some true)
def ex22 (K : Frag) : Bool := errB K (aD K) (aI K) (He.ga K "BadSide")
def ex23 (K : Frag) : Bool := eqB (PySem.W.kitOne K (.ref (He.ga K "BadSide")) (.ref (He.ga K "BadSide"))) (some true)
def ex24 (K : Frag) : Bool := errB K (aD K) (aI K) (He.ga K "BadRate")
def ex25 (K : Frag) : Bool := eqB (PySem.W.kitOne K (.ref (He.ga K "BadRate")) (.ref (He.ga K "BadRate"))) (some true)
def ex26 (K : Frag) : Bool := errB K (aD K) (aI K) (He.ga K "NoPerson")
def ex27 (K : Frag) : Bool := eqB (PySem.W.kitOne K (.ref (He.ga K "NoPerson")) (.ref (He.ga K "NoPerson"))) (some true)
def ex28 (K : Frag) : Bool := isChB K (He.ga K "Chart")
def ex (K : Frag) : Bool := ex0 K && (ex1 K && (ex2 K && (ex3 K && (ex4 K && (ex5 K && (ex6 K && (ex7 K && (ex8 K && (ex9 K && (ex10 K && (ex11 K && (ex12 K && (ex13 K && (ex14 K && (ex15 K && (ex16 K && (ex17 K && (ex18 K && (ex19 K && (ex20 K && (ex21 K && (ex22 K && (ex23 K && (ex24 K && (ex25 K && (ex26 K && (ex27 K && (ex28 K))))))))))))))))))))))))))))
def fc (K : Frag) : FnC := fnC K (aI K)
def vc : FnC := some (("__init__" : Str), ("TableError.__init__" : Str), defArgs s_Tinit, FuncBody.stmts (defBody s_Tinit), defScope s_Tinit, mainGlobals, [("__class__" : Str)], builtinsNs)
def gf : List (Frag → Addr) := [pText]
def gv : List He.FnW := [some ("text", "Chart.text", defArgs s_Chart_text, FuncBody.stmts (defBody s_Chart_text), defScope s_Chart_text, mainGlobals, [], builtinsNs)]
def lams : List Str := []
abbrev hk : PySem.W.Hook := hookV 6 fa fn ts ex fc vc gf gv lams
def ob (s : PySem.W.SharedT) : AlV := obsV 6 fa fn ts ex fc gf lams (HandSHeadRun.getT s)
theorem ob_eq (s : PySem.W.SharedT) : ob s = hk.obs s.abs := obsV_eq (HandSHeadRun.getT_eq s)
def nLaw : Nat := 116
theorem runF (w : World) : HandSHeadRun.RunEq R (PySem.W.view R.prog [116]) hk ob 60000 loose (w.withFollow "special-get-raises" false) := by
  intro os
  kernel_rfl
theorem runT (w : World) : HandSHeadRun.RunEq R (PySem.W.view R.prog [116]) hk ob 60000 loose (w.withFollow "special-get-raises" true) := by
  intro os
  kernel_rfl
theorem run (w : World) : HandSHeadRun.RunEq R (PySem.W.view R.prog [116]) hk ob 60000 loose w := PySem.W.byRow2 "special-get-raises" (P := fun w => HandSHeadRun.RunEq R (PySem.W.view R.prog [116]) hk ob 60000 loose w) runF runT w
end G

set_option Elab.async false
set_option linter.all false
set_option maxRecDepth 100000
set_option maxHeartbeats 0
namespace G
open PySem PySem.Spec PyProof.Rows L2 U
open PySem.W (Frag)
def isGlo (x : Str) : He.Fa → Bool
  | .glo y => decide (y = x)
  | _ => false
def isFree (x : Str) : He.Fa → Bool
  | .free y => decide (y = x)
  | _ => false
def isInt (x : Str) (i : Int) : He.Fa → Bool
  | .int y j => decide (y = x) && decide (j = i)
  | _ => false
def isStr (x z : Str) : He.Fa → Bool
  | .str y u => decide (y = x) && decide (u = z)
  | _ => false
def isCls (x : Str) : He.Fa → Bool
  | .cls y => decide (y = x)
  | _ => false
def isMkr (x : Str) : He.Fa → Bool
  | .mkr y => decide (y = x)
  | _ => false
def isNoat (x f : Str) : He.Fa → Bool
  | .noat y g => decide (y = x) && decide (g = f)
  | _ => false
def isExm (x y : Str) : He.Fa → Bool
  | .exm a b c => decide (a = x) && (decide (b = y) && c)
  | _ => false
def isMeth (x m : Str) : He.Fa → Bool
  | .meth y g => decide (y = x) && decide (g = m)
  | _ => false
section
variable {K : Frag} (c : He.SaysD fa fn K)
include c
theorem glo_in {x : Str} (h : fa.any (isGlo x) = true) : (He.Fa.glo x).ok K = true := by
  obtain ⟨f, hf, hx⟩ := List.any_eq_true.mp h
  cases f with
  | glo y => exact of_decide_eq_true hx ▸ c.facts hf
  | _ => cases hx
theorem free_in {x : Str} (h : fa.any (isFree x) = true) : (He.Fa.free x).ok K = true := by
  obtain ⟨f, hf, hx⟩ := List.any_eq_true.mp h
  cases f with
  | free y => exact of_decide_eq_true hx ▸ c.facts hf
  | _ => cases hx
theorem int_in {x : Str} {i : Int} (h : fa.any (isInt x i) = true) : (He.Fa.int x i).ok K = true := by
  obtain ⟨f, hf, hx⟩ := List.any_eq_true.mp h
  cases f with
  | int y j =>
    obtain ⟨h1, h2⟩ := He.ba hx
    cases of_decide_eq_true h1
    cases of_decide_eq_true h2
    exact c.facts hf
  | _ => cases hx
theorem str_in {x z : Str} (h : fa.any (isStr x z) = true) : (He.Fa.str x z).ok K = true := by
  obtain ⟨f, hf, hx⟩ := List.any_eq_true.mp h
  cases f with
  | str y j =>
    obtain ⟨h1, h2⟩ := He.ba hx
    cases of_decide_eq_true h1
    cases of_decide_eq_true h2
    exact c.facts hf
  | _ => cases hx
theorem cls_in {x : Str} (h : fa.any (isCls x) = true) : (He.Fa.cls x).ok K = true := by
  obtain ⟨f, hf, hx⟩ := List.any_eq_true.mp h
  cases f with
  | cls y => exact of_decide_eq_true hx ▸ c.facts hf
  | _ => cases hx
theorem mkr_in {x : Str} (h : fa.any (isMkr x) = true) : (He.Fa.mkr x).ok K = true := by
  obtain ⟨f, hf, hx⟩ := List.any_eq_true.mp h
  cases f with
  | mkr y => exact of_decide_eq_true hx ▸ c.facts hf
  | _ => cases hx
theorem noat_in {x g : Str} (h : fa.any (isNoat x g) = true) : (He.Fa.noat x g).ok K = true := by
  obtain ⟨f, hf, hx⟩ := List.any_eq_true.mp h
  cases f with
  | noat y j =>
    obtain ⟨h1, h2⟩ := He.ba hx
    cases of_decide_eq_true h1
    cases of_decide_eq_true h2
    exact c.facts hf
  | _ => cases hx
theorem meth_in {x g : Str} (h : fa.any (isMeth x g) = true) : (He.Fa.meth x g).ok K = true := by
  obtain ⟨f, hf, hx⟩ := List.any_eq_true.mp h
  cases f with
  | meth y j =>
    obtain ⟨h1, h2⟩ := He.ba hx
    cases of_decide_eq_true h1
    cases of_decide_eq_true h2
    exact c.facts hf
  | _ => cases hx
theorem exm_in {x y : Str} (h : fa.any (isExm x y) = true) : (He.Fa.exm x y true).ok K = true := by
  obtain ⟨f, hf, hx⟩ := List.any_eq_true.mp h
  cases f with
  | exm a b v =>
    obtain ⟨h1, h2⟩ := He.ba hx
    obtain ⟨h2, h3⟩ := He.ba h2
    cases of_decide_eq_true h1
    cases of_decide_eq_true h2
    cases h3
    exact c.facts hf
  | _ => cases hx
end
theorem kd_of {K : Frag} {w : World} {mg : Str → Option Value} {x k : Str} {kvs : List (Str × He.Dv)} {d : He.Dv} (hm : mg x = some (.ref (He.ga K x))) (D : ∃ es n, KDict K w (He.ga K x) es n) (v : He.valsB K (He.ga K x) kvs = true) (hk : (k, d) ∈ kvs) : CD K w mg x k (d.v K) := by
  obtain ⟨es, n, D⟩ := D
  obtain ⟨u, h1, h2⟩ := He.valsB_ok v hk
  exact ⟨_, hm, es, n, u, D.at_, D.lit, h1, h2⟩
end G

set_option Elab.async false
set_option linter.all false
set_option maxRecDepth 100000
set_option maxHeartbeats 0
namespace G
open PySem PySem.Spec PyProof.Rows L2 U
open PySem.W (Frag)
theorem vc_is : vc = initV ⟨4, 17, 4, 21⟩ ⟨4, 23, 4, 28⟩ ⟨5, 8, 5, 13⟩ ⟨5, 8, 5, 15⟩ ⟨5, 8, 5, 24⟩ ⟨5, 25, 5, 30⟩ ⟨5, 8, 5, 31⟩ ⟨5, 8, 5, 31⟩ ⟨6, 8, 6, 12⟩ ⟨6, 8, 6, 18⟩ ⟨6, 21, 6, 26⟩ ⟨6, 8, 6, 26⟩ := by rfl
theorem lawFacts {w : World} {K : Frag} {h : Heap} {mg : Str → Option Value} {f : Addr} (c : SaysV fa fn ts ex fc vc gf gv lams w h K) (G : h.Ns mainGlobals mg) (hfa : mg ("law" : Str) = some (.ref f)) :
    LamX.LawAtS PySem.Challenge.rw_unnotedtables_k05_charts_changed w K CX0 14 63 "_law_script" mg f h := by
  have X := c.in_
  have cd := c.t.d
  have e := c.ex
  obtain ⟨e0, e⟩ := He.ba e
  obtain ⟨e1, e⟩ := He.ba e
  obtain ⟨e2, e⟩ := He.ba e
  obtain ⟨e3, e⟩ := He.ba e
  obtain ⟨e4, e⟩ := He.ba e
  obtain ⟨e5, e⟩ := He.ba e
  obtain ⟨e6, e⟩ := He.ba e
  obtain ⟨e7, e⟩ := He.ba e
  obtain ⟨e8, e⟩ := He.ba e
  obtain ⟨e9, e⟩ := He.ba e
  obtain ⟨e10, e⟩ := He.ba e
  obtain ⟨e11, e⟩ := He.ba e
  obtain ⟨e12, e⟩ := He.ba e
  obtain ⟨e13, e⟩ := He.ba e
  obtain ⟨e14, e⟩ := He.ba e
  obtain ⟨e15, e⟩ := He.ba e
  obtain ⟨e16, e⟩ := He.ba e
  obtain ⟨e17, e⟩ := He.ba e
  obtain ⟨e18, e⟩ := He.ba e
  obtain ⟨e19, e⟩ := He.ba e
  obtain ⟨e20, e⟩ := He.ba e
  obtain ⟨e21, e⟩ := He.ba e
  obtain ⟨e22, e⟩ := He.ba e
  obtain ⟨e23, e⟩ := He.ba e
  obtain ⟨e24, e⟩ := He.ba e
  obtain ⟨e25, e⟩ := He.ba e
  obtain ⟨e26, e⟩ := He.ba e
  obtain ⟨e27, e28⟩ := He.ba e
  have eCh := isChB_ok e28
  have T : InitTxt R.prog K (aD K) (aI K) := init_of (prog := R.prog) (by rfl) (by decide +kernel) (c.fc.trans vc_is) e0
  have TB : ErrC K (aD K) (aI K) (He.ga K "BadChart") := errB_ok e1
  have T_BadLine : ErrC K (aD K) (aI K) (He.ga K "BadLine") := errB_ok e12
  have T_Full : ErrC K (aD K) (aI K) (He.ga K "Full") := errB_ok e14
  have T_NoResult : ErrC K (aD K) (aI K) (He.ga K "NoResult") := errB_ok e16
  have T_BadClaim : ErrC K (aD K) (aI K) (He.ga K "BadClaim") := errB_ok e18
  have T_NoFact : ErrC K (aD K) (aI K) (He.ga K "NoFact") := errB_ok e20
  have T_BadSide : ErrC K (aD K) (aI K) (He.ga K "BadSide") := errB_ok e22
  have T_BadRate : ErrC K (aD K) (aI K) (He.ga K "BadRate") := errB_ok e24
  have T_NoPerson : ErrC K (aD K) (aI K) (He.ga K "NoPerson") := errB_ok e26
  have gl : ∀ x : Str, fa.any (isGlo x) = true → mg x = some (.ref (He.ga K x)) := fun x hx => He.glo_ok X G (glo_in cd hx)
  have fr : ∀ x : Str, fa.any (isFree x) = true → mg x = none := fun x hx => He.free_ok X G (free_in cd hx)
  have ci : ∀ (x : Str) (i : Int), fa.any (isInt x i) = true → CI mg x i := fun x i hx => He.int_ok X G (int_in cd hx)
  have cs : ∀ (x z : Str), fa.any (isStr x z) = true → CS mg x z := fun x z hx => He.str_ok X G (str_in cd hx)
  have fnd : ∀ (x : Str) (d : He.DefD) (i : Nat), fn[i]? = some d → fa.any (isGlo x) = true → d.at_ = (x, none) → (∃ fd, FunD K d.name d.qual d.params d.body d.scope (d.dvs K) (d.kws K) (He.ga K x) fd) ∧ mg x = some (.ref (He.ga K x)) := fun x d i hi hx ha => by
    have z := cd.def_ i hi
    rw [ha] at z
    exact ⟨z, gl x hx⟩
  have gI := fr "isinstance" (by decide +kernel)
  have gi := fr "int" (by decide +kernel)
  have gb := fr "bool" (by decide +kernel)
  have gS := fr "str" (by decide +kernel)
  have gL := fr "len" (by decide +kernel)
  have gT := fr "tuple" (by decide +kernel)
  have gA := fr "all" (by decide +kernel)
  have gN := fr "any" (by decide +kernel)
  have gR := fr "range" (by decide +kernel)
  have gM := fr "min" (by decide +kernel)
  have gX := fr "max" (by decide +kernel)
  have gE := fr "enumerate" (by decide +kernel)
  have gLi := fr "list" (by decide +kernel)
  have gZ := fr "zip" (by decide +kernel)
  have gP := fr "repr" (by decide +kernel)
  have gD := fr "dict" (by decide +kernel)
  have gAb := fr "abs" (by decide +kernel)
  have cB := cs "BLANK" sBlank (by decide +kernel)
  have cF := cs "FEED" sFeed (by decide +kernel)
  have cPe := cs "PERSON" "person" (by decide +kernel)
  have cLa := cs "LAB" "lab" (by decide +kernel)
  have cRe := cs "RESULT" "result" (by decide +kernel)
  have cFa := cs "FACT" "fact" (by decide +kernel)
  have cPair := ci "PAIR" 2 (by decide +kernel)
  have c4 := ci "FOUR" 4 (by decide +kernel)
  have tPr : CT K mg "PRINTS" (wPrn.map V.str) := ⟨_, gl "PRINTS" (by decide +kernel), fun H => He.tupB_ok e3 H⟩
  have tBo : CT K mg "BOUNDS" (wBnd.map V.str) := ⟨_, gl "BOUNDS" (by decide +kernel), fun H => He.tupB_ok e4 H⟩
  have tLi : CT K mg "LITERALS" (wLit.map V.str) := ⟨_, gl "LITERALS" (by decide +kernel), fun H => He.tupB_ok e5 H⟩
  have mM := gl "MOST_charts" (by decide +kernel)
  have dM := c.t.tab 0 rfl
  have k1 : CD K w mg "MOST_charts" "person" (.int 3) := kd_of mM dM e6 (k := "person") (d := .int 3) (by simp)
  have k2 : CD K w mg "MOST_charts" "lab" (.int 6) := kd_of mM dM e6 (k := "lab") (d := .int 6) (by simp)
  have k3 : CD K w mg "MOST_charts" "result" (.int 24) := kd_of mM dM e6 (k := "result") (d := .int 24) (by simp)
  have k4 : CD K w mg "MOST_charts" "fact" (.int 8) := kd_of mM dM e6 (k := "fact") (d := .int 8) (by simp)
  obtain ⟨fdG, FG⟩ := cd.def_ _ at_d_Ground_init
  have TG : GroundT K mg (He.ga K "Ground") (He.ma K (He.ga K "Ground") "__init__") fdG := ⟨He.mkr_ok (mkr_in cd (by decide +kernel)), FG, gl "Ground" (by decide +kernel), sclsB_ok e9, ⟨_, slotB_ok e10⟩, ⟨_, slotB_ok e11⟩⟩
  obtain ⟨fdC, FCh⟩ := cd.def_ _ at_d_Chart_init
  have TC : ChartT K mg (He.ga K "Chart") (He.ma K (He.ga K "Chart") "__init__") fdC := ⟨He.mkr_ok (mkr_in cd (by decide +kernel)), FCh, gl "Chart" (by decide +kernel), He.cls_ok (cls_in cd (by decide +kernel)), He.noat_ok (noat_in cd (by decide +kernel)), He.noat_ok (noat_in cd (by decide +kernel)), He.noat_ok (noat_in cd (by decide +kernel)), He.noat_ok (noat_in cd (by decide +kernel))⟩
  have egv : fnAt K (pText K) = some (("text" : Str), ("Chart.text" : Str), defArgs s_Chart_text, FuncBody.stmts (defBody s_Chart_text), defScope s_Chart_text, mainGlobals, [], builtinsNs) := by
    have z := c.gf
    exact (List.cons.inj z).1
  obtain ⟨fdx, Fx⟩ := funAt egv e8
  have TT : TextT K (He.ga K "Chart") (pText K) fdx := ⟨Fx, _, propB_ok e7⟩
  cases hfa.symm.trans (gl "law" (by decide +kernel))
  have F_law := fnd "law" d_law _ at_d_law (by decide +kernel) rfl
  obtain ⟨⟨fd, Fl⟩, _⟩ := F_law
  have b := FunD.bindsA (ps := ["_law_script"]) Fl fun _ _ _ _ _ _ us hl => match us, hl with | [_], _ => rfl
  refine ⟨fd, [], spLaw K, ?_, ?_, ?_, fun s v => b s [v] rfl, ?_, fun base kb nb tb => ?_⟩
  · intro p hp
    cases hp
  · intro p hp
    cases hp
  · intro p hp
    cases hp
  · intro H a ns _ _ hT hS
    exact ⟨a, ns, rfl, hS, fun _ => rfl⟩
  · obtain ⟨hInt, hInt2⟩ := has_is_integer (P := R.prog) (w := w) (base := base) (fnd "is_integer" d_is_integer _ at_d_is_integer (by decide +kernel) rfl) gI gi gb
    have hDay := has_is_day (fnd "is_day" d_is_day _ at_d_is_day (by decide +kernel) rfl) hInt (ci "LAST_DAY" 99 (by decide +kernel))
    have hTup := has_is_tuple (P := R.prog) (w := w) (base := base) (fnd "is_tuple" d_is_tuple _ at_d_is_tuple (by decide +kernel) rfl) gI gT gL
    have hWord := has_is_word (P := R.prog) (w := w) (base := base) (fnd "is_word" d_is_word _ at_d_is_word (by decide +kernel) rfl) gI gS
    have hName := has_is_name (P := R.prog) (w := w) (base := base) (fnd "is_name" d_is_name _ at_d_is_name (by decide +kernel) rfl) gL gA (ci "MOST_LETTERS" 8 (by decide +kernel)) (cs "LETTERS" sLetters (by decide +kernel))
    have hII := has_integer_in (P := R.prog) (w := w) (base := base) (fnd "integer_in" d_integer_in _ at_d_integer_in (by decide +kernel) rfl) gA gi (cs "MINUS" "-" (by decide +kernel)) (cs "FIGURES" sFigures (by decide +kernel))
    have hTab := has_is_table (P := R.prog) (w := w) (base := base) (fnd "is_table" d_is_table _ at_d_is_table (by decide +kernel) rfl) (ci "MOST_FACTOR" 1000 (by decide +kernel))
    have hStr := has_stretch_by (fnd "stretch_by" d_stretch_by _ at_d_stretch_by (by decide +kernel) rfl) hInt2 (cs "NORMAL" "normal" (by decide +kernel)) (cs "LOW" "low" (by decide +kernel))
    have hTurn := has_do_turn_back (P := R.prog) (w := w) (base := base) (fnd "do_turn_back" d_do_turn_back _ at_d_do_turn_back (by decide +kernel) rfl) gLi gZ gN
    have hCan := has_can_tell (fnd "can_tell" d_can_tell _ at_d_can_tell (by decide +kernel) rfl) hStr hTurn gR gN cPair
    have hLit := has_is_literal (fnd "is_literal" d_is_literal _ at_d_is_literal (by decide +kernel) rfl) hTup hWord hDay hInt gL c4 tLi
    have hCl := has_is_claim (fnd "is_claim" d_is_claim _ at_d_is_claim (by decide +kernel) rfl) hLit hTup hWord hDay hInt2 c4 (ci "FIVE" 5 (by decide +kernel)) (cs "ROSE" "rose" (by decide +kernel)) tBo
    have hCI := has_claim_in (fnd "claim_in" d_claim_in _ at_d_claim_in (by decide +kernel) rfl) hCl hII
    have hPI := has_person_in (fnd "person_in" d_person_in _ at_d_person_in (by decide +kernel) rfl) hName hII gL gT gM (ci "PERSON_WORDS" 4 (by decide +kernel)) cPair
    have hLI := has_lab_in (fnd "lab_in" d_lab_in _ at_d_lab_in (by decide +kernel) rfl) hName hII hTab gL gT gA gR (ci "TABLE_NUMBERS" 5 (by decide +kernel)) cPair (ci "MOST_TABLES" 4 (by decide +kernel))
    have hRI := has_result_in (fnd "result_in" d_result_in _ at_d_result_in (by decide +kernel) rfl) hName hII hDay hCan gL (ci "RESULT_WORDS" 6 (by decide +kernel)) cPair tPr
    have hRP := has_read_people (fnd "read_people" d_read_people _ at_d_read_people (by decide +kernel) rfl) hPI gL gE cB cPe k1
    have hRL := has_read_labs (fnd "read_labs" d_read_labs _ at_d_read_labs (by decide +kernel) rfl) hLI gL gE cB cLa k2
    have hRR := has_read_results (fnd "read_results" d_read_results _ at_d_read_results (by decide +kernel) rfl) hRI gL gE cB cRe k3
    have hRF := has_read_facts (fnd "read_facts" d_read_facts _ at_d_read_facts (by decide +kernel) rfl) hCI gL gE cB cFa k4
    have mBad := gl "BadChart" (by decide +kernel)
    have hRT := has_read_text (fnd "read_text" d_read_text _ at_d_read_text (by decide +kernel) rfl) T TB mBad TG hRP hRL hRR hRF gI gS gL gT cF
    have hTO := has_text_of (P := R.prog) (w := w) (base := base) (fnd "text_of" d_text_of _ at_d_text_of (by decide +kernel) rfl) gS cPe cLa cRe cFa cB cF
    have hCO := has_chart_of (fnd "chart_of" d_chart_of _ at_d_chart_of (by decide +kernel) rfl) TC hRT hTO
    obtain ⟨fd_put, F_put⟩ := cd.def_ _ at_d_Chart_put
    obtain ⟨fd_without, F_without⟩ := cd.def_ _ at_d_Chart_without
    obtain ⟨fd_told, F_told⟩ := cd.def_ _ at_d_Chart_told
    obtain ⟨fd_untold, F_untold⟩ := cd.def_ _ at_d_Chart_untold
    obtain ⟨fd_rated, F_rated⟩ := cd.def_ _ at_d_Chart_rated
    have hPt := has_Lprint (P := R.prog) (w := w) (base := base) (fnd "_law_print_text" d_Lprint_text _ at_d_Lprint_text (by decide +kernel) rfl) gI gS
    have hClT := has_Lclaim (fnd "_law_claim_text" d_Lclaim_text _ at_d_Lclaim_text (by decide +kernel) rfl) hPt
    have hTaT := has_Ltable (P := R.prog) (w := w) (base := base) (fnd "_law_table_text" d_Ltable_text _ at_d_Ltable_text (by decide +kernel) rfl) gS
    have hLT := has_Ltext (fnd "_law_text" d_Ltext _ at_d_Ltext (by decide +kernel) rfl) hPt hClT hTaT gS
    have hEn := has_Lends (P := R.prog) (w := w) (base := base) (fnd "_law_ends" d_Lends _ at_d_Lends (by decide +kernel) rfl)
    have hTu := has_Lturns (fnd "_law_turns_back" d_Lturns_back _ at_d_Lturns_back (by decide +kernel) rfl) hEn gLi gZ gN
    have F_take := fnd "_law_take" d_Ltake _ at_d_Ltake (by decide +kernel) rfl
    have F_of := fnd "_law_of" d_Lof _ at_d_Lof (by decide +kernel) rfl
    have hTk := has_take (P := R.prog) (w := w) (base := base) F_take gi
    have hOf := has_of (P := R.prog) (w := w) (base := base) F_of F_take gi gL
    have hTbl := has_table (P := R.prog) (w := w) (base := base) (fnd "_law_table" d_Ltable _ at_d_Ltable (by decide +kernel) rfl) F_take F_of gi gL
    have hNm := has_names (P := R.prog) (w := w) (base := base) (fnd "_law_names" d_Lnames _ at_d_Lnames (by decide +kernel) rfl) (fnd "_law_some" d_Lsome _ at_d_Lsome (by decide +kernel) rfl) F_take gi gL gLi gR
    have hCa := has_Lcalled (P := R.prog) (w := w) (base := base) (fnd "_law_called" d_Lcalled _ at_d_Lcalled (by decide +kernel) rfl)
    have hTs := has_Ltabs (P := R.prog) (w := w) (base := base) (fnd "_law_tables_of" d_Ltables_of _ at_d_Ltables_of (by decide +kernel) rfl)
    have hAC := has_La_claim (fnd "_law_a_claim" d_La_claim _ at_d_La_claim (by decide +kernel) rfl) hTk hOf hCa hTs gi gL
    have hWo := has_Lworth (P := R.prog) (w := w) (base := base) (fnd "_law_is_worth_so" d_Lis_worth_so _ at_d_Lis_worth_so (by decide +kernel) rfl)
    have hTr := has_Ltrue (fnd "_law_is_true" d_Lis_true _ at_d_Lis_true (by decide +kernel) rfl) hWo gD gLi gE
    have hSh := has_Lshown (fnd "_law_shown" d_Lshown _ at_d_Lshown (by decide +kernel) rfl) hTk gi
    have hHi := has_Lhidden (fnd "_law_hidden" d_Lhidden _ at_d_Lhidden (by decide +kernel) rfl) hTk gR
    have hChart := has_Lchart (fnd "_law_chart" d_Lchart _ at_d_Lchart (by decide +kernel) rfl) hTk hOf hNm hTbl hHi hSh hTu hAC hTr gI gS gR gM gL gi gD
    obtain ⟨⟨fdP, FP⟩, mP⟩ := fnd "_law_pot" d_Lpot _ at_d_Lpot (by decide +kernel) rfl
    obtain ⟨⟨fdPs, FPs⟩, mPs⟩ := fnd "_law_pots" d_Lpots _ at_d_Lpots (by decide +kernel) rfl
    have GPo := ok_pots (P := R.prog) (w := w) (base := base) FPs FP mP gi gL gAb gR gX gM
    have hCR := has_check_result (fnd "check_result" d_check_result _ at_d_check_result (by decide +kernel) rfl) TC hWord T T_NoResult (gl "NoResult" (by decide +kernel))
    have hCP := has_check_person (fnd "check_person" d_check_person _ at_d_check_person (by decide +kernel) rfl) TC hWord T T_NoPerson (gl "NoPerson" (by decide +kernel))
    have hCS := has_check_side (fnd "check_side" d_check_side _ at_d_check_side (by decide +kernel) rfl) hWord T T_BadSide (gl "BadSide" (by decide +kernel)) (cs "UP" "up" (by decide +kernel)) (cs "DOWN" "down" (by decide +kernel))
    have hCC := has_check_claim (fnd "check_claim" d_check_claim _ at_d_check_claim (by decide +kernel) rfl) TC hCl T T_BadClaim (gl "BadClaim" (by decide +kernel))
    have hI2 := has_is_integer2 (P := R.prog) (w := w) (base := base) (fnd "is_integer" d_is_integer _ at_d_is_integer (by decide +kernel) rfl) gI gi gb
    have G_put := ok_put F_put TC T T_BadLine (gl "BadLine" (by decide +kernel)) T_Full (gl "Full" (by decide +kernel)) hCO hRI gI gS gL cF cB cRe k3
    have G_without := ok_without F_without TC hCR hCO
    have G_told := ok_told F_told TC T T_Full (gl "Full" (by decide +kernel)) hCC hCO gL cFa k4
    have G_untold := ok_untold F_untold TC T T_NoFact (gl "NoFact" (by decide +kernel)) hInt hCO gL
    have G_rated := ok_rated F_rated TC T T_BadRate (gl "BadRate" (by decide +kernel)) hCP hCS hI2 hCO (cs "UP" "up" (by decide +kernel))
    have hMd := has_Lmade (fnd "_law_is_made" d_Lis_made _ at_d_Lis_made (by decide +kernel) rfl) TC TT eCh hTO hLT gI
    have hWi := has_Lwith (P := R.prog) (w := w) (base := base) (fnd "_law_with" d_Lwith _ at_d_Lwith (by decide +kernel) rfl) gD gLi
    have RW : RE.Ok R.prog w K mg base ⟨He.ga K "Chart", He.ga K "BadChart", He.ga K "NoResult", He.ga K "BadClaim", He.ga K "Full", He.ga K "NoFact", He.ga K "NoPerson", He.ga K "BadSide", He.ga K "BadRate", He.ga K "BadLine", He.ma K (He.ga K "Chart") "__init__", pText K, He.ma K (He.ga K "Chart") "without", He.ma K (He.ga K "Chart") "told", He.ma K (He.ga K "Chart") "untold", He.ma K (He.ga K "Chart") "rated", He.ma K (He.ga K "Chart") "put", fdC, fdx, fd_without, fd_told, fd_untold, fd_rated, fd_put⟩ :=
      { TC := TC, TT := TT, hT := hTk, hO := hOf, hA := hAC, hCh := hChart, hL := hLT, hMd := hMd, hWi := hWi, hPr := hPt, hTu := hTu, hRT := hRT, hX := hTO
        mW := He.meth_ok (meth_in cd (by decide +kernel)), GW := G_without, bW := F_without.bindsN fun _ _ _ _ _ _ us hl => match us, hl with | [_, _], _ => rfl
        mT := He.meth_ok (meth_in cd (by decide +kernel)), GT := G_told, bT := F_told.bindsN fun _ _ _ _ _ _ us hl => match us, hl with | [_, _], _ => rfl
        mU := He.meth_ok (meth_in cd (by decide +kernel)), GU := G_untold, bU := F_untold.bindsN fun _ _ _ _ _ _ us hl => match us, hl with | [_, _], _ => rfl
        mR := He.meth_ok (meth_in cd (by decide +kernel)), GR := G_rated, bR := F_rated.bindsN fun _ _ _ _ _ _ us hl => match us, hl with | [_, _, _, _], _ => rfl
        mP := He.meth_ok (meth_in cd (by decide +kernel)), GP := G_put, bP := F_put.bindsN fun _ _ _ _ _ _ us hl => match us, hl with | [_, _], _ => rfl
        gE := gE, gR := gR, gL := gL }
    have hRi := has_Lright (fnd "_law_right" d_Lright _ at_d_Lright (by decide +kernel) rfl) RW
    exact ok_law Fl hRi GPo FPs mPs gA gR
end G
open PySem PySem.W PySem.Calls PyProof.Rows
theorem PySem.Challenge.cw_unnotedtables_k05_charts_changed_holds : PySem.Challenge.rw_unnotedtables_k05_charts_changed.Holds := by
  w_on; o_law
  refine HandSHeadRun.head_any (r := G.R) (q := view G.R.prog [116]) (H := G.hk) (ob := G.ob) (M := 60000) (loose := G.loose) (d := HandSHeadRun.topDef G.R.prog 116) (kwd := []) G.ob_eq
    (by kernel_rfl) (fun s => by kernel_rfl) G.run (by kernel_rfl) (by kernel_rfl) (by kernel_rfl) (by rfl) (by first | assumption | decide +kernel) (by decide +kernel) ⟨rfl, rfl, rfl, rfl, rfl, by decide +kernel⟩ ?hw ?hc
  case hw => w_witness2
  case hc =>
    refine LamX.walk_ofTsE (l := PySem.Challenge.rw_unnotedtables_k05_charts_changed) (n := 63) (k := 14) (x := "_law_script") (CX := fun _ => L2.CX0) rfl (by decide) (by kernel_rfl) ⟨rfl, by decide, by decide⟩ ?F (fun _ _ _ _ _ h => h)
    intro w mg fa h Y G0 hmg0
    obtain ⟨K, c⟩ := Y
    have hmg : mg ("law" : PySem.Str) = some (.ref fa) := by
      have z : (HandSHeadRun.topDef G.R.prog 116).name = ("law" : PySem.Str) := by kernel_rfl
      rw [← z]
      exact hmg0
    exact ⟨K, c.in_, G.lawFacts c G0 hmg⟩
#print axioms PySem.Challenge.cw_unnotedtables_k05_charts_changed_holds

