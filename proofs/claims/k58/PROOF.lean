import PyProof.Rows.All
import Wide.All
import OpenK.AllK
import Wide.FinOn
import HandS.Head2
import PyProof.EqAt
import PyProof.EqKinds
import PyProof.TupleCall
import Open.SpecLaws
import KE.OsGo
import KE.KExcSuper
import KE.KSuperObj
import HandS.ForSpec
import HandS.ExcCtx
import HandS.HotCalls
import HandS.ForMost
import HandS.Wide
import HandS.TupMul
import KE.KTupSum
import KE.GoesMore
import KE.GoesEnum
import KE.DatumOrd
import HandS.ForExc
import HandS.Walk
import HandS.IsInst
import HandS.TupAny
import HandS.CallSlots
import HandS.Style
import HandS.TupSets
import HandS.More
import HandS.Deep
import HandS.SortInts
import HandS.Flow
import HandS.Zip
import HandS.ExcField
import HandS.ExcIs
import KE.KExcIs
import HandS.Conv
import HandS.Comp
import HandS.NoneIn
import HandS.DictComp
import HandS.Defaults
import HandS.ExcOwn
import HandS.HeadHook2
import HandS.HeadEnd
import PyProof.ReprLen
import PySem.Challenge.RW_nosurewin_k58_whole_balance_of_chains
set_option Elab.async false
set_option linter.all false
set_option maxRecDepth 100000
set_option maxHeartbeats 4000000
/-! X1: an own exception class whose __init__ calls super().__init__(f"..{reason}") and keeps the reason -/
namespace PySem
namespace AxX
open PySem.W PySem.Calls PyProof.Rows PySem.HandSPX
/-! ### the text of __init__ -/
def iA (p1 p2 : Pos) : Arguments := { posonlyargs := [], args := [{ arg := "self", annotation := none, pos := p1 }, { arg := "reason", annotation := none, pos := p2 }], vararg := none, kwonlyargs := [], kw_defaults := [], kwarg := none, defaults := [] }
def iB (tx : Str) (q0 q1 q2 q3 q4 q5 q6 q7 q8 r1 r2 r3 r4 : Pos) : List Stmt :=
  [.Expr (.Call (.Attribute (.Call (.Name "super" q0) [] [] q1) "__init__" q2) [.JoinedStr [.Constant (.str tx) 0 q3, .FormattedValue (.Name "reason" q4) (-1) none q5] q6] [] q7) q8,
   .Assign [.Attribute (.Name "self" r1) "reason" r2] (.Name "reason" r3) r4]
def iS : Scope := { kind := .function, names := [(PySem.Str.ofString "self", .local), (PySem.Str.ofString "reason", .local), (PySem.Str.ofString "__class__", .free), (PySem.Str.ofString "super", .globalImplicit)], isGenerator := false, isCoroutine := false, more := [] }
/-- what the written part says of the class at C and of its __init__, at fI -/
structure AxTxt (P : Program) (K : Frag) (mg : Str → Option Value) (tx : Str) (C fI cc cda : Addr) : Prop where
  cls : ∃ nm q N bs bm sn sub ab col dd k0 k1 k2 k3 k5, K.lookup C = some (excClassObj nm q C N bs bm true sn sub ab col dd k0 k1 k2 k3 k5 "ValueError.__new__") ∧ refsVE bm = true
  sa : findIn K (.ref C) "__setattr__" = some (some (.builtin "object.__setattr__"))
  noN : findIn K (.ref C) "reason" = some none
  iC : findIn K (.ref C) "__init__" = some (some (.ref fI))
  tC : typeIn K (.ref fI) = some (.type "function")
  kC : keepIn K (.ref C) = true
  exC : subIn K (.ref C) (.type "BaseException") = some true
  tyC : typeIn K (.ref C) = some (.type "type")
  hdC : hasDictIn K C = true
  fn : ∃ (qn : Str) (oc : Value) (od : Option Addr) (doc pm : Value) (an : Option Addr) (ct : Value) (osl : Array (Option Value)) (p1 p2 q0 q1 q2 q3 q4 q5 q6 q7 q8 r1 r2 r3 r4 : Pos),
    K.lookup fI = some ⟨oc, od, .func (ksFn "__init__" qn (iA p1 p2) (iB tx q0 q1 q2 q3 q4 q5 q6 q7 q8 r1 r2 r3 r4) iS .none .none doc pm an (.ref cda) ct cc), osl⟩ ∧ codeIn K (.ref cda) qn = true ∧ (q2.endLine == q7.line) = true
  code : ∃ (ccl : Value) (cdd : Option Addr) (vs : Array Value) (ccs : Array (Option Value)) (file : Str) (tf : Tok), K.lookup cda = some ⟨ccl, cdd, .fields vs, ccs⟩ ∧ vs[2]? = some (.str file tf) ∧ ((P.main.file : Str) == file) = true
  cell : ∃ (cl : Value) (cld : Option Addr) (csl : Array (Option Value)), K.lookup cc = some ⟨cl, cld, .cell (some (.ref C)), csl⟩
  sup : mg "super" = none
  top : (P.main.scope.names.lookup ("super" : Str)).isSome = false
  sub : mroIn K C (.ref C) = some true
  supI : ks_superIn K C C "__init__" = some (some (.builtin "ValueError.__init__"))
  subV : subIn K (.ref C) (.type "ValueError") = some true
  anyN : nsIn K cStatics "thirdparty.any" = some none
/-- what __init__ leaves of a fresh exception at x -/
structure InitEnd (h h' : Heap) (x C dx : Addr) (v : Value) : Prop where
  keep : ∀ b o, b ≠ x → h.get? b = some o → h'.get? b = some o
  obj : ∃ t1, h'.get? x = some { cls := .ref C, dict := some dx, data := .fields #[.ref t1, .none, .none, .none, .bool false, .none] }
  dbig : h.objs.size ≤ dx
  dne : dx ≠ x
  ns : h'.Ns1 dx (fun y => if y = "reason" then some v else none)
theorem ax_he (o : Expr) (name : Str) (apos pos : Pos) (a : Expr) (env : Env) (hl : (apos.endLine == pos.line) = true) (hs : starEach [a] env = [(false, eval a env)]) : eval (.Call (.Attribute o name apos) [a] [] pos) env = (do
      let ov ← attributeBase o name env (eval o env)
      standAt apos.atName
      let (f, first) ← holding [ov] (getMethod ov name (do return (← importBound o env).getD true))
      callWith pos f first (backTo pos (starEach [a] env)) []) := by
  rw [arm_eval_Call, hs]
  unfold methodCall methodCallPos
  rw [hl]
  rfl
section
variable {prog : Program} {w : World} {A : Around} {E : Value → Shared → Prop} {R : Result → Shared → Prop} {s : Shared} {K : Frag} {mg : Str → Option Value} {base : Heap} {C fI cc cda : Addr} {tx : Str}
theorem ax_sinit {h : Heap} {g : Array GenState} {d : Drawn} {t : Nat} {os : OsState} {u x t0 : Addr} {rest : List Value} {Q : Value → Shared → Prop} {nm q : Str} {N : Addr} {bs bm : List Value} {sn : List Str} {sub : List Value} {ab : Bool} {col : Option Bool} {dd : Option Addr} {k0 k1 k2 k3 k5 : Option Value}
    (hu : h.get? u = some (kxs_mw "ValueError.__init__" x)) (hC : h.get? C = some (excClassObj nm q C N bs bm true sn sub ab col dd k0 k1 k2 k3 k5 "ValueError.__new__")) (he : h.get? x = some (excO C t0)) (hz : rest.length ≤ sizeLine)
    (hq : ∀ h' t', (∀ b o, b ≠ x → h.get? b = some o → h'.get? b = some o) → h'.get? x = some (excO C t') → Q .none ⟨h', g, d, t, os⟩) :
    wpAny (model prog w) A (call (.ref u) rest) Q E ⟨h, g, d, t, os⟩ := by
  refine wpAny_call (codeAny_of_tree ?_)
  show wpAny _ A.in1 (callAny (.ref u) ⟨rest, []⟩) _ _ _
  simp only [callAny]
  refine wpAny_bind (wpAny_load hu ?_)
  simp only [kxs_mw, show (Value.type "method-wrapper" == Value.type "method" || Value.type "method-wrapper" == Value.type "builtin_function_or_method" || Value.type "method-wrapper" == Value.type "method-wrapper") = true by decide, if_true]
  refine KFB.if_so (by decide) ?_
  refine wpAny_bind (check_bound_init F.excBase_ValueError.toExcCallFacts hC he rfl ?_)
  refine wpAny_bind (wpAny_pure (wpAny_pure ?_))
  refine ⟨plainId_quiet F.excBase_ValueError.init.plain _, codeAny_builtin F.excBase_ValueError.initEntry ?_⟩
  exact exc_init_tree (cls := .ref C) (t0 := t0) (dv := none) (c2 := .none) (c3 := .none) (b4 := .bool false) he hz fun h' k e' _ => hq h' _ k e'
theorem ax_init (T : AxTxt prog K mg tx C fI cc cda) (M : L2.Mod K mg base) (kb : ∀ b o, base.get? b = some o → s.heap.get? b = some o) {x t0 : Addr} {rs : Str} {tk : Tok} (hz : tx.length + rs.length ≤ sizeLine) (hlim : s.heap.NoLimit) (hx : s.heap.get? x = some (excO C t0)) (hnx : K.lookup x = none) (hroom : A.depth < recursionLimit)
    (hq : ∀ h' tk' dx, InitEnd s.heap h' x C dx (.str rs tk) → R (.ok (.ret .none)) { s with heap := h', toks := tk' }) :
    codeAny (model prog w) A (.call (.ref fI) ⟨[.ref x, .str rs tk], []⟩) R s := by
  obtain ⟨qn, oc, od, doc, pm, an, ct, osl, p1, p2, q0, q1, q2, q3, q4, q5, q6, q7, q8, r1, r2, r3, r4, ho, hcd, hln⟩ := T.fn
  obtain ⟨nm, q, N, bs, bm, sn, sub, ab, col, dd, k0, k1, k2, k3, k5, hC, hbm⟩ := T.cls
  obtain ⟨ccl, cdd, vs, ccs, file, tf, hcode, hvs, hfile⟩ := T.code
  obtain ⟨cl, cld, csl, hcell⟩ := T.cell
  have hcl : clsIn K C = some { name := nm, bases := bs, mro := .ref C :: bm, ns := N, qualname := q, hasDict := true, slotNames := sn, subclasses := sub, abstract := ab, collection := col, hasDel := false } := by unfold clsIn; rw [hC] <;> rfl
  have X : K.In s.heap := M.kin.keeps kb
  have hxC : x ≠ C := fun z => by rw [z, hC] at hnx; cases hnx
  refine ks_codeAny_call_defAt (fd := ksFn "__init__" qn (iA p1 p2) (iB tx q0 q1 q2 q3 q4 q5 q6 q7 q8 r1 r2 r3 r4) iS .none .none doc pm an (.ref cda) ct cc) (body := iB tx q0 q1 q2 q3 q4 q5 q6 q7 q8 r1 r2 r3 r4) (binds := [("self", .ref x), ("reason", .str rs tk)]) hroom (X _ _ ho) rfl hlim (codeRec_of X hcd) rfl
    (BindsTo.of_eq (by first | rfl | with_unfolding_all rfl)) (by intro y hy; simp [ksFn, fnX, iS] at hy; rcases hy with rfl | rfl | rfl | rfl <;> (intro z; cases z)) (by intro y hy; simp at hy; rcases hy with rfl | rfl <;> rfl) (fun h₁ hns k => ?_) rfl rfl rfl
  have X₁ : K.In h₁ := X.keeps k
  have hx₁ := k _ _ hx
  have I₁ : InstAt h₁ x (excO C t0) C none := ⟨hx₁, rfl, rfl, trivial⟩
  refine ks_wpAt_execs_cons (ks_wpAt_Expr_any (ks_wpAt_MethodCall ?_ (ax_he _ _ _ _ _ _ hln rfl)))
  refine ks_wpAt_super_base rfl rfl rfl rfl (X₁ _ _ ho) rfl rfl rfl (X₁ _ _ hcode) rfl hvs hfile T.top ?_
  obtain ⟨mb, hb1, hb2⟩ := M.blt
  have kb₁ : ∀ b o, base.get? b = some o → h₁.get? b = some o := fun b o e => k b o (kb b o e)
  refine ks_loadName_global rfl rfl (loadGlobal_builtin (M.glob.keeps kb₁) T.sup (hb1.keeps kb₁) ((hb2 _ (by decide)).trans (by first | boot_by_name | rfl | kernel_rfl)) ⟨rfl, ?_⟩)
  refine wpAny_loadName_free rfl rfl rfl ⟨_, X₁ _ _ hcell, rfl⟩ ?_
  refine wpAny_loadName_local rfl rfl hns rfl ?_
  refine ks_wpAny_isType_cls (X₁ _ _ hC) rfl ⟨rfl, ?_⟩
  refine ks_wpAny_call_super (X₁ _ _ hC) rfl hx₁ rfl (fun c e => by cases e) (looks_mroIn X₁ T.sub) (fun h₂ hso k₂ => ?_)
  have X₂ : K.In h₂ := X₁.keeps k₂
  have hx₂ := k₂ _ _ hx₁
  have I₂ : InstAt h₂ x (excO C t0) C none := ⟨hx₂, rfl, rfl, trivial⟩
  refine kxs_getMethod kxs_ValueError hso (looks_opaque X₂ T.anyN) (l₀ := .ref C :: bm) (fun A Q E s k q => wpAny_bind ((looks_clsIn X₂ hcl) A _ E s k (wpAny_pure q))) rfl X₂ (by have := T.supI; unfold ks_superIn at this; rw [hcl] at this; exact this) (I₂.type.andThen (looks_subIn X₂ T.subV)) hxC (by decide) ?_
  have hxn : h₂.objs.size ≠ x := Nat.ne_of_gt (Heap.lt_size hx₂)
  have hu : (h₂.push (kxs_mw "ValueError.__init__" x)).get? h₂.objs.size = some (kxs_mw "ValueError.__init__" x) := Heap.get?_push_at rfl rfl
  refine kxs_callWith (i := "ValueError.__init__") (x := x) rfl (evalArgs_plain (spliced_cons ?_))
  have eb : ∀ b o, h₁.get? b = some o → (h₂.push (kxs_mw "ValueError.__init__" x)).get? b = some o := fun b o e => Heap.get?_push_of_some _ (k₂ _ _ e)
  have hC₂ := eb _ _ (X₁ _ _ hC)
  have hx₃ := eb _ _ hx₁
  refine wpAny_JoinedStr (pos := q6) ?_
  have lz1 : (Str.empty ++ tx).length ≤ sizeLine := by
    have e : (Str.empty ++ tx).length = tx.length := by rw [strLen_append]; exact Nat.zero_add _
    omega
  have lz2 : (Str.empty ++ tx ++ rs).length ≤ sizeLine := by
    have e : (Str.empty ++ tx ++ rs).length = tx.length + rs.length := by rw [strLen_append, strLen_append]; show 0 + _ + _ = _; omega
    omega
  refine wpAny_Constant_str ⟨tx, _, rfl, lz1, ?_⟩
  refine wpAny_FormattedValue_plain (wpAny_Name (wpAny_loadName_local rfl rfl (hns.keeps eb) rfl ?_))
  refine wpAny_formatField_str ⟨rs, _, rfl, lz2, lz2, spliced_nil ⟨hu, ax_sinit hu hC₂ hx₃ (by rw [sizeLine_eq]; exact (by decide : 1 ≤ 16777216)) fun h₄ t' k₄ hx₄ => ?_⟩⟩ ⟨rs, _, rfl, lz2, lz2, spliced_nil ⟨hu, ax_sinit hu hC₂ hx₃ (by rw [sizeLine_eq]; exact (by decide : 1 ≤ 16777216)) fun h₄ t' k₄ hx₄ => ?_⟩⟩ (by omega)
  all_goals
    have up : ∀ b o, b ≠ x → s.heap.get? b = some o → h₄.get? b = some o := fun b o hb e => k₄ b o hb (eb _ _ (k b o e))
    have xB : ∀ b o, K.lookup b = some o → b ≠ x := fun b o e z => by rw [z, hnx] at e; cases e
    have X₄ : K.In h₄ := fun b o e => up b o (xB b o e) (X b o e)
    have hL : s.heap.objs.size ≠ x := Nat.ne_of_gt (Heap.lt_size hx)
    have hn₄ := (hns.keeps eb).at fun o e => k₄ _ o hL e
    show wpAt _ _ _ (execs _ _) _ _ _
    refine wpAt_of_wpAny (wpAny_execs_cons (plainObj_wpAny_Assign_Attribute ?_))
    refine wpAny_Name (wpAny_loadName_local rfl rfl hn₄ rfl (wpAny_Name (wpAny_loadName_local rfl rfl hn₄ rfl ?_)))
    refine set_plain X₄ (ox := excO C t') (od := none) ⟨hx₄, rfl, rfl, trivial⟩ T.sa ?_
    refine exc_osa X₄ hx₄ hcl (show refsVE (.ref C :: bm) = true from hbm) rfl T.noN (fun h₅ tk₅ dx k₅ dn dne hx₅ hn₅ => ?_)
    show wpAny _ _ (execs _ _) _ _ _
    have z : s.heap.objs.size ≤ dx := Nat.le_of_lt (Nat.lt_of_lt_of_le hn₄.lt dn)
    exact wpAny_execs_nil (hq h₅ tk₅ dx ⟨fun b o hb e => k₅ b o hb (up b o hb e), ⟨_, hx₅⟩, z, dne, hn₅⟩)
/-- a made exception -/
structure OwnMade (h h' : Heap) (e C d : Addr) (v : Value) : Prop where
  keep : ∀ b o, h.get? b = some o → h'.get? b = some o
  new : h.objs.size ≤ e
  obj : ∃ oe vs, h'.get? e = some oe ∧ oe.cls = .ref C ∧ oe.dict = some d ∧ oe.data = .fields vs ∧ vs[1]? = some .none
  dbig : h.objs.size ≤ d
  dne : d ≠ e
  ns : h'.Ns1 d (fun y => if y = "reason" then some v else none)
theorem ax_made (T : AxTxt prog K mg tx C fI cc cda) (M : L2.Mod K mg base) (kb : ∀ b o, base.get? b = some o → s.heap.get? b = some o) {rs : Str} {tk : Tok} (hz : tx.length + rs.length ≤ sizeLine) (hlim : s.heap.NoLimit) (hroom : A.depth + 1 < recursionLimit)
    (hq : ∀ h' tk' e d, OwnMade s.heap h' e C d (.str rs tk) → R (.ok (.ret (.ref e))) { s with heap := h', toks := tk' }) :
    codeAny (model prog w) A (.call (.ref C) ⟨[.str rs tk], []⟩) R s := by
  obtain ⟨nm, q, N, bs, bm, sn, sub, ab, col, dd, k0, k1, k2, k3, k5, hC, hbm⟩ := T.cls
  have X : K.In s.heap := M.kin.keeps kb
  obtain ⟨hp, g, dr, tt, os⟩ := s
  have k : ∀ b o, hp.get? b = some o → ((hp.push (kdv_tup [.str rs tk])).push (excO C hp.objs.size)).get? b = some o := fun b o e => Heap.get?_push_of_some _ (Heap.get?_push_of_some _ e)
  have hget : ((hp.push (kdv_tup [.str rs tk])).push (excO C hp.objs.size)).get? (hp.objs.size + 1) = some (excO C hp.objs.size) := by heap_get
  have hnx : K.lookup (hp.objs.size + 1) = none := by
    cases e : K.lookup (hp.objs.size + 1) with
    | none => rfl
    | some o =>
      have z : hp.get? (hp.objs.size + 1) = some o := X _ _ e
      exact absurd (Nat.lt_of_succ_lt (Heap.lt_size z)) (Nat.lt_irrefl _)
  refine call_own F.excBase_ValueError (fun X => refsVE_contains X bm hbm) (X _ _ hC) (looks_findIn X T.iC) (fun self => bind_fn X self T.tC) (by rw [sizeLine_eq]; exact (by decide : 1 ≤ 16777216)) ?_
  refine ax_init (s := ⟨(hp.push (kdv_tup [.str rs tk])).push (excO C hp.objs.size), g, dr, tt, os⟩) T M (fun b o e => k b o (kb b o e)) hz (hlim.keeps k) hget hnx ?_ fun h' tk' dx ⟨k', hx, dn, dne, hns⟩ => ?_
  · show A.depth + 1 < recursionLimit
    exact hroom
  · have old : ∀ b o, hp.get? b = some o → h'.get? b = some o := fun b o e => k' b o (Nat.ne_of_lt (Nat.lt_succ_of_lt (Heap.lt_size e))) (k b o e)
    have z : hp.objs.size + 1 + 1 ≤ dx := by
      first
        | (simpa only [Heap.size_push] using dn)
        | exact dn
        | (have q := dn; rw [Heap.size_push, Heap.size_push] at q; exact q)
    obtain ⟨t1, hx⟩ := hx
    exact ⟨rfl, hq h' tk' (hp.objs.size + 1) dx ⟨old, Nat.le_succ _, ⟨_, _, hx, rfl, rfl, rfl, rfl⟩, Nat.le_trans (Nat.le_trans (Nat.le_succ _) (Nat.le_succ _)) z, dne, hns⟩⟩
end
end AxX
end PySem
/-! X2: C(reason), raise C(reason), error.reason -/
namespace L2
open PySem PySem.Spec PyProof.Rows
theorem relO_ax {v : V} {v' : Value} (r : RelV v v') (f : Str) : RelO (List.lookup f [(("reason" : Str), v)]) (if f = "reason" then some v' else none) := by
  by_cases hw : f = "reason"
  · subst hw
    rw [if_pos rfl]
    have q : List.lookup ("reason" : Str) [(("reason" : Str), v)] = some v := by simp [List.lookup]
    rw [q]
    exact r
  · rw [if_neg hw]
    have qw : (f == ("reason" : Str)) = false := by simpa using hw
    have q2 : List.lookup f [(("reason" : Str), v)] = none := by simp [List.lookup, qw]
    rw [q2]
    trivial
section
variable {X : Cx} {C fI cc cda : Addr} {tx : Str}
/-- C(e), e a text -/
def tMkAx (tx : Str) (C : Addr) (ta : TA) : St → Hp → XK → Prop := fun σ H Q => ta σ H fun vs H1 => ∃ x : Str, vs = [.str x] ∧ tx.length + x.length ≤ sizeLine ∧ ∀ d, H1 d = none → Q (.ref C) (some d) (upd H1 d (.xd [(("reason" : Str), .str x)]))
theorem pmk_ax {nm : Str} {a : Expr} {ta : TA} {p pos : Pos} (T : PySem.AxX.AxTxt X.prog X.K X.mg tx C fI cc cda) (gC : X.mg nm = some (.ref C)) (hdp : X.A.depth + 1 < recursionLimit) (ha : PA X [a] ta) (hg : Gl X nm) (hdb : (nm == ("__debug__" : Str)) = false)
    (he : starEach (a :: []) X.env = (false, eval a X.env) :: starEach [] X.env := by rfl) (hpl : (backTo pos (starEach [] X.env)).any (·.1) = false := by rfl) :
    PMk X (.Call (.Name nm p) [a] [] pos) (tMkAx tx C ta) := by
  intro pins s σ H Q I h
  refine wpAny_Call_Name_kw (ld_glob I hg gC ?_ hdb)
  refine PySem.W.callWith_K (h₀ := X.base) I.ok.mod.kin T.kC (thn (ha.run pos pins s σ H _ I h) fun us s1 hh => ?_) he hpl
  obtain ⟨vs, H1, I1, r1, x, ev, hz, q1⟩ := hh
  subst ev
  refine ⟨I1.kIn, ?_⟩
  cases r1 with
  | cons rv rn =>
    rename_i v' us'
    cases rn
    obtain ⟨tk0, rfl⟩ : ∃ tk0, v' = .str x tk0 := rv
    show wpAny _ _ (call (.ref C) [.str x tk0]) _ _ _
    have hlim := I1.nolimit
    have hbk := I1.bk
    have hmod := I1.mod
    obtain ⟨hp, g, dr, tk, os⟩ := s1
    refine wpAny_call (PySem.AxX.ax_made T hmod hbk hz hlim hdp fun h' tk' e d M => ?_)
    show MkP X pins σ Q (.ref e) ⟨h', g, dr, tk', os⟩
    obtain ⟨oe, fv, hoe, hc, hd, hdat, h1⟩ := M.obj
    have hns := M.ns
    obtain ⟨G', g1, g2⟩ := restrict h' fun b => decide (b ≠ e)
    have gk : ∀ b, b ≠ e → G'.get? b = h'.get? b := fun b hb => g1 b (decide_eq_true hb)
    have ge : G'.get? e = none := g2 e (by simp)
    have old : ∀ b o, hp.get? b = some o → G'.get? b = some o := fun b o q => (gk b (Nat.ne_of_lt (Nat.lt_of_lt_of_le (Heap.lt_size q) M.new))).trans (M.keep b o q)
    have ob : ObjOk X.prog X.w (upd H1 d (.xd [(("reason" : Str), .str x)])) G' d (.xd [(("reason" : Str), .str x)]) :=
      ⟨_, hns.at (fun o q => (gk d M.dne).trans q), fun f => relO_ax (v := .str x) (v' := .str x tk0) ⟨tk0, rfl⟩ f⟩
    have J : Inv X pins σ (upd H1 d (.xd [(("reason" : Str), .str x)])) ⟨G', g, dr, tk', os⟩ := I1.laid (t' := tk') old M.dbig ob
    refine ⟨e, oe, fv, ⟨G', g, dr, tk', os⟩, _, .ref C, some d, rfl, J, fun b o q => ?_, ge, hoe, ⟨hc, hd⟩, hdat, h1, ?_, rfl, I1.bare, raises_own T.exC T.tyC, q1 d (I1.hok.fresh M.dbig)⟩
    · by_cases hb : b = e
      · have q' : G'.get? b = some o := q
        rw [hb, ge] at q'; cases q'
      · exact (gk b hb).symm.trans q
    · rw [upd_ne (Ne.symm M.dne)]
      exact I1.hok.fresh M.new
/-- raise C(e) -/
def tRaiseAx (tx : Str) (C : Addr) (W : WX) (ta : TA) : TS := fun _ σ H => tMkAx tx C ta σ H fun cls d H' => W cls d σ H'
theorem ps_raiseAx {nm : Str} {a : Expr} {ta : TA} {W : WX} {p pos pos2 : Pos} (hc : X.calm = true) (T : PySem.AxX.AxTxt X.prog X.K X.mg tx C fI cc cda) (gC : X.mg nm = some (.ref C)) (hdp : X.A.depth + 1 < recursionLimit) (tk : Takes X W) (ha : PA X [a] ta) (hg : Gl X nm) (hdb : (nm == ("__debug__" : Str)) = false)
    (he : starEach (a :: []) X.env = (false, eval a X.env) :: starEach [] X.env := by rfl) (hpl : (backTo pos (starEach [] X.env)).any (·.1) = false := by rfl) :
    PS X (.Raise (some (.Call (.Name nm p) [a] [] pos)) none pos2) (tRaiseAx tx C W ta) := ps_raise hc tk (pmk_ax T gC hdp ha hg hdb he hpl)
end
end L2
/-! J1: data, stores, the small language and what it does -/
namespace J
open PySem L2

/-- data: immutable trees, places of mutable things, own functions, exceptions -/
inductive D where
  | non | bl (b : Bool) | int (i : Int) | str (s : Str) | tup (ds : List D) | lst (ds : List D) | flst (ds : List D) | loc (l : Nat) | fn (f : Nat) | exc (c : Nat) (d : D)
inductive Cell where
  | lst (ds : List D) | dct (kvs : List (D × D)) | obj (c : Nat) (fs : List (Str × D))
abbrev Store := List Cell
inductive R (α : Type) where
  | ok (a : α) (S : Store) | exn (c : Nat) (d : D) (S : Store)
def M (α : Type) : Type := Store → Option (R α)
def M.ret {α : Type} (a : α) : M α := fun S => some (.ok a S)
def M.bind {α β : Type} (m : M α) (f : α → M β) : M β := fun S => match m S with
  | none => none
  | some (.exn c d S1) => some (.exn c d S1)
  | some (.ok a S1) => f a S1
/-- a partial value, the store as it is -/
def M.opt {α : Type} (o : Option α) : M α := fun S => match o with
  | none => none
  | some a => some (.ok a S)
def M.optS {α : Type} (o : Store → Option α) : M α := fun S => match o S with
  | none => none
  | some a => some (.ok a S)
def alloc (c : Cell) : M D := fun S => some (.ok (.loc S.length) (S ++ [c]))

/-- nothing of the places from n on -/
inductive Cl (n : Nat) : D → Prop where
  | non : Cl n .non
  | bl {b} : Cl n (.bl b)
  | int {i} : Cl n (.int i)
  | str {s} : Cl n (.str s)
  | tup {ds : List D} (h : ∀ d ∈ ds, Cl n d) : Cl n (.tup ds)
  | lst {ds : List D} (h : ∀ d ∈ ds, Cl n d) : Cl n (.lst ds)
  | flst {ds : List D} (h : ∀ d ∈ ds, Cl n d) : Cl n (.flst ds)
  | loc {l} (h : l < n) : Cl n (.loc l)
  | fn {f} : Cl n (.fn f)
  | exc {c d} (h : Cl n d) : Cl n (.exc c d)

/-! ### data as the library's data -/
mutual
def toPy : D → Option PyData
  | .non => some .none
  | .bl b => some (.bool b)
  | .int i => some (.int i)
  | .str s => some (.str s)
  | .tup ds => match toPys ds with
    | some ps => some (.tuple ps)
    | none => none
  | .lst ds => match toPys ds with
    | some ps => some (.list ps)
    | none => none
  | .flst ds => match toPys ds with
    | some ps => some (.list ps)
    | none => none
  | .loc _ => none
  | .fn _ => none
  | .exc _ _ => none
def toPys : List D → Option (List PyData)
  | [] => some []
  | d :: ds => match toPy d, toPys ds with
    | some p, some ps => some (p :: ps)
    | _, _ => none
end
/-- == of data -/
def eqD (d e : D) : Option Bool := match toPy d, toPy e with
  | some p, some q => if SeqAt.shaped p = true ∧ SeqAt.shaped q = true then some (PyData.eqv p q) else none
  | _, _ => none
/-- x in ds -/
def inD (x : D) (ds : List D) : Option Bool := match toPy x, toPys ds with
  | some p, some qs => if SeqAt.shaped p = true ∧ SeqAt.shaped (.list qs) = true then some (qs.any fun q => PyData.eqv q p) else none
  | _, _ => none

/-! ### operations -/
inductive BO where
  | add | sub | mul | fdiv | mod | pow | shl | shr | band | bor
inductive CO where
  | eq | ne | lt | le | gt | ge | isin | nin
/-- a list's place seen as its items -/
def res (S : Store) : D → Option D
  | .loc l => match S[l]? with
    | some (.lst ds) => some (.lst ds)
    | _ => none
  | d => some d
def divOk (i j : Int) : Prop := j ≠ 0 ∧ Builtin.divisionGoesByPylong i j = false
instance : Decidable (divOk i j) := by unfold divOk; infer_instance
instance : Decidable (IntMulOk i j) := by unfold IntMulOk; infer_instance
def repOk (n : Nat) (k : Int) : Prop := n ≤ 2000 ∧ -8000 ≤ k ∧ k ≤ 8000
instance : Decidable (repOk n k) := by unfold repOk; infer_instance
def powOk (i j : Int) : Prop := 0 ≤ j ∧ j ≤ 1000000 ∧ i.natAbs < 2 ^ 64
instance : Decidable (powOk i j) := by unfold powOk; infer_instance
def binD : BO → D → D → Option D
  | .add, .int a, .int b => some (.int (a + b))
  | .add, .str a, .str b => if a.length + b.length ≤ sizeLine then some (.str (a ++ b)) else none
  | .add, .tup a, .tup b => if a.length + b.length ≤ sizeLine then some (.tup (a ++ b)) else none
  | .add, .lst a, .lst b => if a.length + b.length ≤ sizeLine then some (.lst (a ++ b)) else none
  | .sub, .int a, .int b => some (.int (a - b))
  | .mul, .int a, .int b => if IntMulOk a b then some (.int (a * b)) else none
  | .mul, .tup a, .int k => if repOk a.length k then some (.tup (List.replicate k.toNat a).flatten) else none
  | .mul, .lst a, .int k => if repOk a.length k then some (.lst (List.replicate k.toNat a).flatten) else none
  | .fdiv, .int a, .int b => if divOk a b then some (.int (a.fdiv b)) else none
  | .mod, .int a, .int b => if b ≠ 0 then some (.int (a.fmod b)) else none
  | .pow, .int a, .int b => if powOk a b then some (.int (a ^ b.toNat)) else none
  | .shl, .int a, .int b => if powOk a b then some (.int (a * 2 ^ b.toNat)) else none
  | .shr, .int a, .int b => if 0 ≤ b then some (.int (a / 2 ^ b.toNat)) else none
  | .band, .int a, .int b => some (.int (Builtin.bitAnd a b))
  | .bor, .int a, .int b => some (.int (Builtin.bitOr a b))
  | _, _, _ => none
def binS (op : BO) (a b : D) (S : Store) : Option D := match res S a, res S b with
  | some x, some y => binD op x y
  | _, _ => none
/-- a dict's look-up; keys are told apart by eqD -/
def dget (k : D) : List (D × D) → Option (Option D)
  | [] => some none
  | (k', v) :: r => match eqD k' k with
    | none => none
    | some true => some (some v)
    | some false => dget k r
def dmap (k v : D) : List (D × D) → Option (List (D × D))
  | [] => some []
  | (k', v') :: r => match eqD k' k, dmap k v r with
    | some b, some r' => some ((k', if b = true then v else v') :: r')
    | _, _ => none
def dput (k v : D) (kvs : List (D × D)) : Option (List (D × D)) := match dget k kvs with
  | none => none
  | some none => some (kvs ++ [(k, v)])
  | some (some _) => dmap k v kvs
/-- what may be a key -/
def isKey : D → Bool
  | .int _ => true
  | .str _ => true
  | _ => false
def cmpD : CO → D → D → Option Bool
  | .eq, a, b => eqD a b
  | .ne, a, b => (eqD a b).map (!·)
  | .lt, .int a, .int b => some (decide (a < b))
  | .le, .int a, .int b => some (decide (a ≤ b))
  | .gt, .int a, .int b => some (decide (b < a))
  | .ge, .int a, .int b => some (decide (b ≤ a))
  | .isin, x, .tup ds => inD x ds
  | .isin, x, .lst ds => inD x ds
  | .nin, x, .tup ds => (inD x ds).map (!·)
  | .nin, x, .lst ds => (inD x ds).map (!·)
  | _, _, _ => none
def cmpS (op : CO) (a b : D) (S : Store) : Option Bool :=
  match op, b with
  | .isin, .loc l => match S[l]? with
    | some (.dct kvs) => if isKey a then (dget a kvs).map (·.isSome) else none
    | some (.lst ds) => inD a ds
    | _ => none
  | .nin, .loc l => match S[l]? with
    | some (.dct kvs) => if isKey a then (dget a kvs).map (fun o => !o.isSome) else none
    | some (.lst ds) => (inD a ds).map (!·)
    | _ => none
  | _, _ => match res S a, res S b with
    | some x, some y => cmpD op x y
    | _, _ => none
def truS (d : D) (S : Store) : Option Bool := match d with
  | .non => some false
  | .bl b => some b
  | .int i => some (i != 0)
  | .str s => if s.length ≤ sizeLine then some (s.length != 0) else none
  | .tup ds => some (!ds.isEmpty)
  | .lst ds => some (!ds.isEmpty)
  | .flst ds => some (!ds.isEmpty)
  | .loc l => match S[l]? with
    | some (.lst ds) => some (!ds.isEmpty)
    | some (.dct kvs) => some (!kvs.isEmpty)
    | _ => none
  | _ => none
def idxS (o i : D) (S : Store) : Option D := match o, i with
  | .tup ds, .int i => atI ds i
  | .lst ds, .int i => atI ds i
  | .flst ds, .int i => atI ds i
  | .loc l, .int i => match S[l]? with
    | some (.lst ds) => atI ds i
    | some (.dct kvs) => (dget (.int i) kvs).bind id
    | _ => none
  | .loc l, .str i => match S[l]? with
    | some (.dct kvs) => (dget (.str i) kvs).bind id
    | _ => none
  | _, _ => none
def cutD (xs : List D) (lo hi : Option Int) : List D := (xs.drop (HT.sIx xs.length 0 lo)).take (HT.sIx xs.length xs.length hi - HT.sIx xs.length 0 lo)
/-- a part of a slice: written (true) or left out -/
def partD : Bool → D → Option (Option Int)
  | true, .int i => some (some i)
  | false, .non => some none
  | _, _ => none
def slcS (o : D) (l h : Option Int) (S : Store) : Option D := match res S o with
  | some (.tup ds) => some (.tup (cutD ds l h))
  | some (.lst ds) => some (.lst (cutD ds l h))
  | _ => none
/-- o[i] = v -/
def setS (o i v : D) (S : Store) : Option Store := match o with
  | .loc l => match S[l]?, i with
    | some (.lst ds), .int k => match ixN ds.length k with
      | some j => some (S.set l (.lst (ds.set j v)))
      | none => none
    | some (.dct kvs), k => if isKey k ∧ kvs.length < 1000000 then match dput k v kvs with
      | some kvs' => some (S.set l (.dct kvs'))
      | none => none
      else none
    | _, _ => none
  | _ => none

/-! ### built-in calls -/
inductive Ty where
  | int | bool | str | tuple | list | valueError | exc (c : Nat) | base
def isiS (d : D) (t : Ty) (S : Store) : Option Bool := match d, t with
  | .non, .int => some false | .non, .bool => some false | .non, .str => some false | .non, .tuple => some false | .non, .list => some false
  | .bl _, .int => some true | .bl _, .bool => some true | .bl _, .str => some false | .bl _, .tuple => some false | .bl _, .list => some false
  | .int _, .int => some true | .int _, .bool => some false | .int _, .str => some false | .int _, .tuple => some false | .int _, .list => some false
  | .str _, .int => some false | .str _, .bool => some false | .str _, .str => some true | .str _, .tuple => some false | .str _, .list => some false
  | .tup _, .int => some false | .tup _, .bool => some false | .tup _, .str => some false | .tup _, .tuple => some true | .tup _, .list => some false
  | .lst _, .int => some false | .lst _, .bool => some false | .lst _, .str => some false | .lst _, .tuple => some false | .lst _, .list => some true
  | .loc l, t => match S[l]? with
    | some (.lst _) => (match t with
      | .int => some false | .bool => some false | .str => some false | .tuple => some false | .list => some true
      | _ => none)
    | _ => none
  | .exc _ _, .valueError => some true
  | .exc c _, .exc c' => some (c == c')
  | .exc _ _, .base => some true
  | _, _ => none
inductive Pr where
  | len | abs | min1 | max1 | min2 | max2 | sum | all | any | tuple | list | int | sorted | repr | cnt | index
/-- the items of a list or a tuple -/
def itemsS (d : D) (S : Store) : Option (List D) := match d with
  | .tup ds => some ds
  | .lst ds => some ds
  | .flst ds => some ds
  | .loc l => match S[l]? with
    | some (.lst ds) => some ds
    | _ => none
  | _ => none
def intsD : List D → Option (List Int)
  | [] => some []
  | .int i :: r => match intsD r with
    | some is => some (i :: is)
    | none => none
  | _ => none
def boolsD : List D → Option (List Bool)
  | [] => some []
  | .bl i :: r => match boolsD r with
    | some is => some (i :: is)
    | none => none
  | _ => none
def minL : Int → List Int → Int
  | a, [] => a
  | a, b :: r => minL (if b < a then b else a) r
def maxL : Int → List Int → Int
  | a, [] => a
  | a, b :: r => maxL (if a < b then b else a) r
def isList (d : D) (S : Store) : Bool := match d with
  | .lst _ => true
  | .flst _ => true
  | .loc l => match S[l]? with
    | some (.lst _) => true
    | _ => false
  | _ => false
def insI (a : Int) : List Int → List Int
  | [] => [a]
  | b :: r => if a ≤ b then a :: b :: r else b :: insI a r
/-- the numbers in order -/
def sortI : List Int → List Int
  | [] => []
  | a :: r => insI a (sortI r)
/-- a dict's keys, ints -/
def dictI (d : D) (S : Store) : Option (List Int) := match d with
  | .loc l => match S[l]? with
    | some (.dct kvs) => intsD (kvs.map (·.1))
    | _ => none
  | _ => none
def pairI : D → Option (Int × Int)
  | .tup [.int a, .int b] => some (a, b)
  | _ => none
def lexI (p q : Int × Int) : Bool := decide (p.1 < q.1) || (decide (p.1 = q.1) && decide (p.2 < q.2))
def inB (p : Int × Int) : Bool := decide (0 ≤ p.1 ∧ p.1 < 1000 ∧ 0 ≤ p.2 ∧ p.2 < 1000)
/-- pairs of small ints that rise -/
def ascD : List D → Bool
  | [] => true
  | x :: r => (match pairI x with
    | some p => inB p && r.all fun y => match pairI y with
      | some q => lexI p q
      | none => false
    | none => false) && ascD r
/-- sorted of a dict; of pairs that stand in order -/
def srtS (d : D) (S : Store) : Option D := match dictI d S with
  | some is => if is.length < 64 then some (.lst ((sortI is).map .int)) else none
  | none => match isList d S, itemsS d S with
    | true, some ds => if ds.length < 64 ∧ ascD ds = true then some (.lst ds) else none
    | _, _ => none
/-- what repr is served for -/
def reprOk (p : PyData) : Prop := p.showable = true ∧ p.hasDict = false ∧ p.depth ≤ 60 ∧ p.shown.length ≤ sizeLine
instance : Decidable (reprOk p) := by unfold reprOk; infer_instance
def primS : Pr → List D → Store → Option D
  | .len, [.str s], _ => if s.length ≤ sizeLine then some (.int s.length) else none
  | .len, [.loc l], S => match S[l]? with
    | some (.lst ds) => some (.int ds.length)
    | some (.dct kvs) => some (.int kvs.length)
    | _ => none
  | .len, [d], S => match itemsS d S with
    | some ds => some (.int ds.length)
    | none => none
  | .abs, [.int i], _ => some (.int (if i < 0 then -i else i))
  | .min2, [.int i, .int j], _ => some (.int (if j < i then j else i))
  | .max2, [.int i, .int j], _ => some (.int (if j > i then j else i))
  | .min1, [d], S => match (itemsS d S).bind intsD with
    | some (i :: is) => some (.int (minL i is))
    | _ => none
  | .max1, [d], S => match (itemsS d S).bind intsD with
    | some (i :: is) => some (.int (maxL i is))
    | _ => none
  | .sum, [d], S => match (itemsS d S).bind intsD with
    | some is => some (.int is.sum)
    | none => none
  | .all, [d], S => match isList d S, (itemsS d S).bind boolsD with
    | true, some bs => some (.bl (bs.all id))
    | _, _ => none
  | .any, [d], S => match isList d S, (itemsS d S).bind boolsD with
    | true, some bs => some (.bl (bs.any id))
    | _, _ => none
  | .tuple, [d], S => match itemsS d S with
    | some ds => some (.tup ds)
    | none => none
  | .sorted, [d], S => match isList d S, (itemsS d S).bind intsD with
    | true, some is => some (.lst ((sortI is).map .int))
    | _, _ => srtS d S
  | .repr, [d], S => match (res S d).bind toPy with
    | some p => if reprOk p then some (.str p.shown) else none
    | none => none
  | .int, [.int i], _ => some (.int i)
  | .int, [.bl b], _ => some (.int (if b then 1 else 0))
  | _, _, _ => none

/-! ### what is walked -/
inductive Ik where
  | val | rng1 | rng2 | rng3 | enu | zip
abbrev Guard := Option (Nat × List D)
def okG : Guard → Store → Prop
  | none, _ => True
  | some (l, ds), S => S[l]? = some (.lst ds)
def rngOk (i : Int) : Prop := -(2 ^ 62) ≤ i ∧ i < 2 ^ 62
instance : Decidable (rngOk i) := by unfold rngOk; infer_instance
def rngL (lo : Int) (n : Nat) : List D := (List.range n).map fun (i : Nat) => .int (lo + (i : Int))
def enuL : Nat → List D → List D
  | _, [] => []
  | i, d :: ds => .tup [.int (i : Int), d] :: enuL (i + 1) ds
def zipL : List D → List D → List D
  | a :: as, b :: bs => .tup [a, b] :: zipL as bs
  | _, _ => []
def stepOk (i j c : Int) : Prop := c ≠ 0 ∧ c.natAbs < 1073741824 ∧ Builtin.Range.small i j c = true ∧ 0 ≤ Builtin.Range.rangeSize i j c
instance : Decidable (stepOk i j c) := by unfold stepOk; infer_instance
def stepL (lo c : Int) (n : Nat) : List D := (List.range n).map fun (i : Nat) => .int (lo + (i : Int) * c)
def guardOf (d : D) (S : Store) : Guard := match d with
  | .loc l => match S[l]? with
    | some (.lst ds) => some (l, ds)
    | _ => none
  | _ => none
def iterS : Ik → List D → Store → Option (List D × List Guard)
  | .val, [d], S => match itemsS d S with
    | some ds => some (ds, [guardOf d S])
    | none => none
  | .rng1, [.int j], _ => if rngOk j then some (rngL 0 j.toNat, []) else none
  | .rng2, [.int i, .int j], _ => if rngOk i ∧ rngOk j then some (rngL i (j - i).toNat, []) else none
  | .rng3, [.int i, .int j, .int c], _ => if stepOk i j c then some (stepL i c (Builtin.Range.rangeSize i j c).toNat, []) else none
  | .enu, [d], S => match itemsS d S with
    | some ds => some (enuL 0 ds, [guardOf d S])
    | none => none
  | .zip, [d, e], S => if isList d S = isList e S then match itemsS d S, itemsS e S with
    | some ds, some es => some (zipL ds es, [guardOf d S, guardOf e S])
    | _, _ => none
    else none
  | _, _, _ => none

/-- list(range(..)), tuple(range(..)) -/
def lrgOk (a b : Int) : Prop := rngOk a ∧ rngOk b ∧ (b - a).toNat ≤ 1000000
instance (a b : Int) : Decidable (lrgOk a b) := by unfold lrgOk; infer_instance
def lrgD (t : Bool) : List D → Option D
  | [.int j] => if lrgOk 0 j then some (if t then .tup (rngL 0 (j - 0).toNat) else .lst (rngL 0 (j - 0).toNat)) else none
  | [.int i, .int j] => if lrgOk i j then some (if t then .tup (rngL i (j - i).toNat) else .lst (rngL i (j - i).toNat)) else none
  | _ => none
/-! ### methods of lists and tuples -/
inductive Me where
  | index | count
deriving DecidableEq
/-- the first place of an equal one -/
def idxD (x : PyData) : List PyData → Nat → Option Nat
  | [], _ => none
  | y :: r, i => if PyData.eqv y x = true then some i else idxD x r (i + 1)
def meD : Me → PyData → List PyData → Option D
  | .index, x, ys => (idxD x ys 0).map fun (i : Nat) => .int (i : Int)
  | .count, x, ys => some (.int ((ys.countP fun y => PyData.eqv y x) : Nat))
def meS (m : Me) (o x : D) (S : Store) : Option D := match itemsS o S with
  | some ds => match toPys ds, (res S x).bind toPy with
    | some ys, some p => if SeqAt.shaped (.list ys) = true ∧ SeqAt.shaped p = true then meD m p ys else none
    | _, _ => none
  | none => none
/-! ### dicts of pairs, look-ups -/
def pairsD : List D → Option (List (D × D))
  | [] => some []
  | .tup [k, v] :: r => if isKey k = true then match pairsD r with
    | some kvs => some ((k, v) :: kvs)
    | none => none
    else none
  | _ => none
def pairsS (d : D) (S : Store) : Option (List (D × D)) := match isList d S, itemsS d S with
  | true, some ds => if ds.length < 1000000 then pairsD ds else none
  | _, _ => none
def dputs : List (D × D) → List (D × D) → Option (List (D × D))
  | [], acc => some acc
  | (k, v) :: r, acc => match dput k v acc with
    | some acc' => dputs r acc'
    | none => none
def isDct (d : D) (S : Store) : Bool := match d with
  | .loc l => match S[l]? with
    | some (.dct _) => true
    | _ => false
  | _ => false
/-- d.get(k, z) -/
def dgtS (d k z : D) (S : Store) : Option D := match d with
  | .loc l => match S[l]? with
    | some (.dct kvs) => if isKey k = true then (dget k kvs).map fun o => o.getD z else none
    | _ => none
  | _ => none
/-! ### expressions -/
inductive E where
  | var (i : Nat)
  | con (d : D)
  | glob (x : Str) (n : Int)
  | gtup (x : Str) (ds : List Str)
  | fnv (f : Nat)
  | bin (op : BO) (a b : E)
  | neg (a : E)
  | not (a : E)
  | and (a b : E)
  | or (a b : E)
  | cmp (op : CO) (a b : E)
  | chn (o1 o2 : CO) (a b c : E)
  | chn3 (o1 o2 o3 : CO) (a b c d : E)
  | isn (a : E)
  | isnn (a : E)
  | ite (c a b : E)
  | tup (as : E)
  | nil
  | cons (a r : E)
  | idx (a i : E)
  | slc (a : E) (bl : Bool) (lo : E) (bh : Bool) (hi : E)
  | rev (a : E)
  | call (f : Nat) (keep : Bool) (as : E)
  | callv (ars : List (List Nat)) (f : E) (keep : Bool) (as : E)
  | prim (p : Pr) (as : E)
  | isi (a : E) (t : Ty)
  | isx (a : E) (t : Ty)
  | disp (as : E)
  | plist (a : E)
  | lrg1 (t : Bool) (a : E)
  | lrg2 (t : Bool) (a b : E)
  | comp (tg : E) (k : Ik) (as c elt : E) (own : List Nat)
  | mut (e : E)
  | ddisp (as : E)
  | attr (a : E) (x : Str)
  | meth (m : Me) (o a : E)
  | dcomp (tg : E) (k : Ik) (as c kx vx : E) (own : List Nat)
  | dictp (a : E)
  | dgt (o k d : E)
abbrev Env := List (Option D)
/-- the number of arguments -/
def lenA : E → Nat
  | .cons _ r => lenA r + 1
  | _ => 0
/-- the i-th def takes so many -/
def arOf (ars : List (List Nat)) (as : E) (i : Nat) : Bool := match ars[i]? with
  | some ar => decide (lenA as ∈ ar)
  | none => false
/-- the slots of a target -/
def varsT : E → List Nat
  | .var i => [i]
  | .tup es => varsT es
  | .cons t r => varsT t ++ varsT r
  | _ => []
mutual
def bindT : E → D → Env → Option Env
  | .var i, d, env => if i < env.length then some (env.set i (some d)) else none
  | .tup es, .tup ds, env => bindTs es ds env
  | .tup es, .lst ds, env => bindTs es ds env
  | _, _, _ => none
def bindTs : E → List D → Env → Option Env
  | .nil, [], env => some env
  | .cons t r, d :: ds, env => match bindT t d env with
    | some env' => bindTs r ds env'
    | none => none
  | _, _, _ => none
end
/-- a place's items unpacked -/
def bindU (tg : E) (d : D) (S : Store) (env : Env) : Option Env := match d with
  | .loc l => match tg, S[l]? with
    | .tup es, some (.lst ds) => bindTs es ds env
    | tg, _ => bindT tg (.loc l) env
  | d => bindT tg d env
def wipeE (env : Env) : List Nat → Env
  | [] => env
  | v :: vs => (wipeE env vs).set v none
open Classical in
noncomputable def compL (gs : List Guard) (f : D → M (Option D)) : List D → M (List D)
  | [] => fun S => if (∀ g ∈ gs, okG g S) then some (.ok [] S) else none
  | d :: ds => fun S => if (∀ g ∈ gs, okG g S) then match f d S with
    | some (.ok none S1) => compL gs f ds S1
    | some (.ok (some y) S1) => match compL gs f ds S1 with
      | some (.ok ys S2) => some (.ok (y :: ys) S2)
      | _ => none
    | _ => none
    else none
open Classical in
noncomputable def dcompL (gs : List Guard) (f : D → M (Option (D × D))) : List D → List (D × D) → M (List (D × D))
  | [], acc => fun S => if (∀ g ∈ gs, okG g S) then some (.ok acc S) else none
  | d :: ds, acc => fun S => if (∀ g ∈ gs, okG g S) then match f d S with
    | some (.ok none S1) => dcompL gs f ds acc S1
    | some (.ok (some p) S1) => if isKey p.1 ∧ acc.length < 1000000 then match dput p.1 p.2 acc with
      | some acc' => dcompL gs f ds acc' S1
      | none => none
      else none
    | _ => none
    else none
/-- what lies outside: whether an exception is handled; the own functions -/
structure Ctx where
  hot : Bool
  call : Nat → List D → M D
open Classical in
/-- the places from n on told as they are -/
noncomputable def snap (S : Store) (n : Nat) : Nat → D → Option D
  | 0, d => if Cl n d then some d else none
  | k + 1, d => if Cl n d then some d else match d with
    | .loc l => match S[l]? with
      | some (.lst ds) => match ds.mapM (snap S n k) with
        | some es => some (.lst es)
        | none => none
      | _ => none
    | .tup ds => match ds.mapM (snap S n k) with
      | some es => some (.tup es)
      | none => none
    | .lst ds => match ds.mapM (snap S n k) with
      | some es => some (.lst es)
      | none => none
    | _ => none
open Classical in
/-- behind a call whose own places are given up -/
noncomputable def frz (S : Store) : R D → Option (R D)
  | .ok d S' => if S'.take S.length = S then match snap S' S.length 3 d with
    | some d' => some (.ok d' S)
    | none => none
    else none
  | .exn c d S' => if S'.take S.length = S ∧ Cl 0 d then some (.exn c d S) else none
noncomputable def callF (G : Ctx) (keep : Bool) (f : Nat) (ds : List D) : M D := fun S => match G.call f ds S with
  | none => none
  | some r => if keep then some r else frz S r
def isNon : D → Bool
  | .non => true
  | _ => false
def tups : D → Option (List D)
  | .tup ds => some ds
  | _ => none
def lsts : D → Option (List D)
  | .lst ds => some ds
  | _ => none
noncomputable def ev (G : Ctx) : E → Env → M D
  | .var i, env => M.opt (env[i]?.bind id)
  | .con d, _ => M.ret d
  | .glob _ n, _ => M.ret (.int n)
  | .gtup _ ds, _ => M.ret (.tup (ds.map .str))
  | .fnv f, _ => M.ret (.fn f)
  | .bin op a b, env => (ev G a env).bind fun x => (ev G b env).bind fun y => M.optS (binS op x y)
  | .neg a, env => (ev G a env).bind fun x => M.opt (match x with | .int i => some (.int (-i)) | _ => none)
  | .not a, env => (ev G a env).bind fun x => (M.optS (truS x)).bind fun b => M.ret (.bl (!b))
  | .and a b, env => (ev G a env).bind fun x => (M.optS (truS x)).bind fun t => if t then ev G b env else M.ret x
  | .or a b, env => (ev G a env).bind fun x => (M.optS (truS x)).bind fun t => if t then M.ret x else ev G b env
  | .cmp op a b, env => (ev G a env).bind fun x => (ev G b env).bind fun y => (M.optS (cmpS op x y)).bind fun t => M.ret (.bl t)
  | .chn o1 o2 a b c, env => (ev G a env).bind fun x => (ev G b env).bind fun y => (M.optS (cmpS o1 x y)).bind fun t =>
      if t then (ev G c env).bind fun z => (M.optS (cmpS o2 y z)).bind fun t2 => M.ret (.bl t2) else M.ret (.bl false)
  | .chn3 o1 o2 o3 a b c d, env => (ev G a env).bind fun x => (ev G b env).bind fun y => (M.optS (cmpS o1 x y)).bind fun t =>
      if t then (ev G c env).bind fun z => (M.optS (cmpS o2 y z)).bind fun t2 =>
        if t2 then (ev G d env).bind fun w => (M.optS (cmpS o3 z w)).bind fun t3 => M.ret (.bl t3) else M.ret (.bl false) else M.ret (.bl false)
  | .isn a, env => (ev G a env).bind fun x => M.ret (.bl (isNon x))
  | .isnn a, env => (ev G a env).bind fun x => M.ret (.bl (!isNon x))
  | .ite c a b, env => (ev G c env).bind fun x => (M.optS (truS x)).bind fun t => if t then ev G a env else ev G b env
  | .tup as, env => (ev G as env).bind fun a => (M.opt (tups a)).bind fun ds => M.opt (if ds.length ≤ 1000 then some (.tup ds) else none)
  | .nil, _ => M.ret (.tup [])
  | .cons a r, env => (ev G a env).bind fun x => (ev G r env).bind fun y => (M.opt (tups y)).bind fun ds => M.ret (.tup (x :: ds))
  | .idx a i, env => (ev G a env).bind fun x => (ev G i env).bind fun y => M.optS (idxS x y)
  | .slc a bl lo bh hi, env => (ev G a env).bind fun x => (ev G lo env).bind fun l => (M.opt (partD bl l)).bind fun l' => (ev G hi env).bind fun h => (M.opt (partD bh h)).bind fun h' => M.optS (slcS x l' h')
  | .rev a, env => (ev G a env).bind fun x => M.optS fun S => match res S x with | some (.tup ds) => some (.tup ds.reverse) | some (.lst ds) => some (.lst ds.reverse) | _ => none
  | .call f keep as, env => (ev G as env).bind fun a => (M.opt (tups a)).bind fun ds => callF G keep f ds
  | .callv ars f keep as, env => (ev G f env).bind fun g => match g with
      | .fn i => if arOf ars as i then (ev G as env).bind fun a => (M.opt (tups a)).bind fun ds => callF G keep i ds else M.opt none
      | _ => M.opt none
  | .prim p as, env => (ev G as env).bind fun a => (M.opt (tups a)).bind fun ds => if G.hot then M.opt none else M.optS (primS p ds)
  | .isi a t, env => (ev G a env).bind fun x => (M.optS (isiS x t)).bind fun b => M.ret (.bl b)
  | .isx a t, env => (ev G a env).bind fun x => (M.optS (isiS x t)).bind fun b => M.ret (.bl b)
  | .disp as, env => (ev G as env).bind fun a => (M.opt (tups a)).bind fun ds => M.opt (if ds.length ≤ 1000 then some (.lst ds) else none)
  | .plist a, env => (ev G a env).bind fun x => (M.optS (itemsS x)).bind fun ds => M.ret (.lst ds)
  | .lrg1 t a, env => if G.hot then M.opt none else (ev G a env).bind fun x => M.opt (lrgD t [x])
  | .lrg2 t a b, env => if G.hot then M.opt none else (ev G a env).bind fun x => (ev G b env).bind fun y => M.opt (lrgD t [x, y])
  | .comp tg k as c elt own, env => if G.hot then M.opt none else (ev G as env).bind fun a => (M.opt (tups a)).bind fun ds => (M.optS (iterS k ds)).bind fun p =>
      (compL p.2 (fun d => match bindT tg d (wipeE env own) with
        | none => M.opt none
        | some env' => (ev G c env').bind fun x => (M.optS (truS x)).bind fun t => if t then (ev G elt env').bind fun y => M.ret (some y) else M.ret none) p.1).bind fun ys =>
      if ys.length < 1000000 then M.ret (.lst ys) else M.opt none
  | .mut e, env => (ev G e env).bind fun x => (M.opt (lsts x)).bind fun ds => alloc (.lst ds)
  | .ddisp as, env => alloc (.dct [])
  | .dcomp tg k as c kx vx own, env => if G.hot then M.opt none else (ev G as env).bind fun a => (M.opt (tups a)).bind fun ds => (M.optS (iterS k ds)).bind fun p =>
      (dcompL p.2 (fun d => match bindT tg d (wipeE env own) with
        | none => M.opt none
        | some env' => (ev G c env').bind fun x => (M.optS (truS x)).bind fun t => if t then (ev G kx env').bind fun y => (ev G vx env').bind fun z => M.ret (some (y, z)) else M.ret none) p.1 []).bind fun kvs => alloc (.dct kvs)
  | .dictp a, env => if G.hot then M.opt none else (ev G a env).bind fun x => (M.optS (pairsS x)).bind fun kvs => (M.opt (dputs kvs [])).bind fun kvs' => alloc (.dct kvs')
  | .dgt o k d, env => (ev G o env).bind fun x => (M.optS fun S => if isDct x S = true then some () else none).bind fun _ => (ev G k env).bind fun y => (ev G d env).bind fun z => M.optS (dgtS x y z)
  | .meth m o a, env => (ev G o env).bind fun x => (M.optS fun S => if isList x S = true then some () else none).bind fun _ => (ev G a env).bind fun y => M.optS (meS m x y)
  | .attr a x, env => (ev G a env).bind fun v => M.optS fun S => match v with
      | .exc _ d => some d
      | _ => none

/-! ### statements -/
inductive C where
  | nil
  | seq (s r : C)
  | set (tg e : E)
  | seti (o i e : E)
  | aug (op : BO) (i : Nat) (e : E)
  | augi (op : BO) (o i e : E)
  | exp (e : E)
  | app (o e : E)
  | ext (o e : E)
  | ifs (c : E) (a b : C)
  | forr (tg : E) (k : Ik) (as : E) (b : C)
  | whl (c : E) (b : C)
  | ret (e : E)
  | retn
  | pass
  | brk
  | cont
  | raise (c : Nat) (e : E)
  | tryx (b : C) (n : Nat) (i : Nat) (h : C)
  | tryn (b : C)
  | dead
inductive F where
  | nx (env : Env) | bk (env : Env) | ct (env : Env) | rt (d : D) | ex (c : Nat) (d : D) (env : Env)
abbrev P := Option (F × Store)
/-- a place's item -/
def idxM (o i : D) (S : Store) : Option D := match o with
  | .loc _ => idxS o i S
  | _ => none
theorem idxM_inv {o i d : D} {S : Store} (h : idxM o i S = some d) : (∃ l, o = .loc l) ∧ idxS o i S = some d := by
  cases o <;> first
    | exact ⟨⟨_, rfl⟩, h⟩
    | cases h
/-- a list's place -/
def isLoc (a : D) (S : Store) : Bool := match a with
  | .loc l => match S[l]? with
    | some (.lst _) => true
    | _ => false
  | _ => false
/-- a.append(x) -/
def appS (a x : D) (S : Store) : Option Store := match a with
  | .loc l => match S[l]? with
    | some (.lst ds) => if ds.length < 1000000 then some (S.set l (.lst (ds ++ [x]))) else none
    | _ => none
  | _ => none
/-- a.extend(x), x a list -/
def extS (a x : D) (S : Store) : Option Store := match a, x with
  | .loc l, .lst es => match S[l]? with
    | some (.lst ds) => if ds.length < 1000000 ∧ es.length < 1000000 then some (S.set l (.lst (ds ++ es))) else none
    | _ => none
  | .loc l, .loc m => match S[l]?, S[m]? with
    | some (.lst ds), some (.lst es) => if ds.length < 1000000 ∧ es.length < 1000000 then some (S.set l (.lst (ds ++ es))) else none
    | _, _ => none
  | _, _ => none
/-- op= of ints -/
def augD : BO → D → D → Option D
  | op, .int i, .int j => binD op (.int i) (.int j)
  | _, _, _ => none
/-- what an own exception is raised with -/
def rsnB : D → Bool
  | .str x => decide (x.length ≤ 1000)
  | _ => false
def isVar : E → Bool
  | .var _ => true
  | _ => false
/-- an expression within a statement -/
def withE (m : M D) (env : Env) (S : Store) (f : D → Store → P) : P := match m S with
  | none => none
  | some (.exn c d S1) => some (.ex c d env, S1)
  | some (.ok d S1) => f d S1
open Classical in
noncomputable def forL (gs : List Guard) (f : D → Env → Store → P) : List D → Env → Store → P
  | [], env, S => if (∀ g ∈ gs, okG g S) then some (.nx env, S) else none
  | d :: ds, env, S => if (∀ g ∈ gs, okG g S) then match f d env S with
    | none => none
    | some (.nx env', S') => forL gs f ds env' S'
    | some (.ct env', S') => forL gs f ds env' S'
    | some (.bk env', S') => some (.nx env', S')
    | some (.rt v, S') => some (.rt v, S')
    | some (.ex c v env', S') => some (.ex c v env', S')
    else none
def whlL (c : Env → M D) (b : Env → Store → P) (env : Env) (S : Store) : P :=
  match c env S with
  | none => none
  | some (.exn e d S1) => some (.ex e d env, S1)
  | some (.ok x S1) => match truS x S1 with
    | none => none
    | some false => some (.nx env, S1)
    | some true => match b env S1 with
      | none => none
      | some (.nx env', S') => whlL c b env' S'
      | some (.ct env', S') => whlL c b env' S'
      | some (.bk env', S') => some (.nx env', S')
      | some (.rt v, S') => some (.rt v, S')
      | some (.ex e d env', S') => some (.ex e d env', S')
partial_fixpoint
/-- data without places -/
def flatD : D → Bool
  | .non => true
  | .bl _ => true
  | .int _ => true
  | .str _ => true
  | _ => false
open Classical in
/-- what a handler leaves: an answer, the store as it was -/
noncomputable def ansH (S : Store) : P → P
  | some (.rt d, S2) => if S2 = S ∧ flatD d = true then some (.rt d, S2) else none
  | _ => none
noncomputable def exec (G : Bool → Ctx) : C → Bool → Env → Store → P
  | .nil, _, env, S => some (.nx env, S)
  | .seq s r, h, env, S => match exec G s h env S with
    | some (.nx env', S') => exec G r h env' S'
    | p => p
  | .set tg e, h, env, S => if h && !isVar tg then none else withE (ev (G h) e env) env S fun d S1 => match bindU tg d S1 env with
    | some env' => some (.nx env', S1)
    | none => none
  | .seti o i e, h, env, S => withE (ev (G h) e env) env S fun d S1 => withE (ev (G h) o env) env S1 fun a S2 => withE (ev (G h) i env) env S2 fun k S3 =>
    match setS a k d S3 with
    | some S4 => some (.nx env, S4)
    | none => none
  | .aug op i e, h, env, S => match env[i]?.bind id with
    | none => none
    | some x => withE (ev (G h) e env) env S fun y S1 => match augD op x y with
      | some z => some (.nx (env.set i (some z)), S1)
      | none => none
  | .augi op o i e, h, env, S => withE (ev (G h) o env) env S fun a S1 => withE (ev (G h) i env) env S1 fun k S2 => match idxM a k S2 with
    | none => none
    | some x => withE (ev (G h) e env) env S2 fun y S3 => match augD op x y with
      | some z => match setS a k z S3 with
        | some S4 => some (.nx env, S4)
        | none => none
      | none => none
  | .exp e, h, env, S => withE (ev (G h) e env) env S fun _ S1 => some (.nx env, S1)
  | .app o e, h, env, S => withE (ev (G h) o env) env S fun a S1 => if isLoc a S1 = true then withE (ev (G h) e env) env S1 fun x S2 => match appS a x S2 with
    | some S3 => some (.nx env, S3)
    | none => none
    else none
  | .ext o e, h, env, S => withE (ev (G h) o env) env S fun a S1 => if isLoc a S1 = true then withE (ev (G h) e env) env S1 fun x S2 => match extS a x S2 with
    | some S3 => some (.nx env, S3)
    | none => none
    else none
  | .ifs c a b, h, env, S => withE (ev (G h) c env) env S fun x S1 => match truS x S1 with
    | none => none
    | some true => exec G a h env S1
    | some false => exec G b h env S1
  | .forr tg k as b, h, env, S => if h then none else withE (ev (G h) as env) env S fun a S1 => match (tups a).bind fun ds => iterS k ds S1 with
    | none => none
    | some p => forL p.2 (fun d env S => match bindT tg d env with
      | none => none
      | some env' => exec G b h env' S) p.1 env S1
  | .whl c b, h, env, S => whlL (ev (G h) c) (exec G b h) env S
  | .ret e, h, env, S => withE (ev (G h) e env) env S fun d S1 => some (.rt d, S1)
  | .retn, _, _, S => some (.rt .non, S)
  | .pass, _, env, S => some (.nx env, S)
  | .brk, _, env, S => some (.bk env, S)
  | .cont, _, env, S => some (.ct env, S)
  | .raise c e, h, env, S => if h then none else withE (ev (G h) e env) env S fun d S1 => if rsnB d then some (.ex c d env, S1) else none
  | .tryx b n i hd, h, env, S => if h then none else match exec G b h env S with
    | some (.ex e d env', S') => if e < n then ansH S' (exec G hd true (env'.set i (some (.exc e d))) S') else none
    | p => p
  | .tryn b, h, env, S => if h then none else match exec G b h env S with
    | some (.ex _ _ _, _) => none
    | p => p
  | .dead, _, _, _ => none

/-! ### own functions -/
structure Fn where
  name : Str
  ps : List Str
  dfl : List D
  N : List Str
  ar : List Nat
  body : C
def fill (f : Fn) (ds : List D) : List D := ds ++ f.dfl.drop (f.dfl.length - (f.ps.length - ds.length))
def startE (f : Fn) (ds : List D) : Env := ds.map some ++ List.replicate (f.N.length - ds.length) none
noncomputable def run (T : List Fn) : Nat → Bool → Nat → List D → M D
  | 0, _, _, _ => fun _ => none
  | k + 1, h, i, ds => fun S => match T[i]? with
    | none => none
    | some f => if (fill f ds).length = f.ps.length then
        match exec (fun h' => ⟨h', run T k h'⟩) f.body h (startE f (fill f ds)) S with
        | none => none
        | some (.nx _, S') => some (.ok .non S')
        | some (.rt d, S') => some (.ok d S')
        | some (.ex c d _, S') => some (.exn c d S')
        | some _ => none
      else none
end J
/-! J0: rules of the machine that the layer lacks -/
namespace L2
open PySem PySem.Spec PyProof.Rows PySem.W
theorem tupMul1 (l : Addr) (items : Array Value) (n : Nat) (dd : Option Addr) (sl : Array (Option Value)) (x : Int) (u : Tok) (c0 : (decide (x < -(2 ^ 63)) || decide (x ≥ 2 ^ 63)) = false) (c1 : (items.isEmpty || x == 1) = true) :
    Meets (Builtin.«tuple.__mul__» ⟨[.ref l, .int x u], []⟩) (fun _ R s => s.heap.get? l = some { cls := .type "tuple", dict := dd, data := .seq items n, slots := sl } ∧ R (.ok (.ret (Value.ref l))) s) :=
  .of_wp fun prog w A R s h => by
    obtain ⟨hp, g, d, tk, os⟩ := s
    obtain ⟨hl, h⟩ := h
    have f1 := AutoSeq1.idx_int
    wp_walk using wpAny_loadPart' hl
    repeat (first
      | (refine wpAny_ite_false (decide_eq_false (by rw [c0]; exact Bool.false_ne_true)) ?_; wp_walk using wpAny_loadPart' hl)
      | (refine wpAny_ite_true (decide_eq_true (by rw [c1])) ?_; wp_walk using wpAny_loadPart' hl))
    exact ⟨_, rfl, h⟩
theorem tupMul0 (l : Addr) (items : Array Value) (n : Nat) (dd : Option Addr) (sl : Array (Option Value)) (x : Int) (u : Tok) (c0 : (decide (x < -(2 ^ 63)) || decide (x ≥ 2 ^ 63)) = false) (c1 : (items.isEmpty || x == 1) = false) (c2 : (decide (x ≤ 0) || items.isEmpty) = true) :
    Meets (Builtin.«tuple.__mul__» ⟨[.ref l, .int x u], []⟩) (fun _ R s => s.heap.get? l = some { cls := .type "tuple", dict := dd, data := .seq items n, slots := sl } ∧
      R (.ok (.ret (Value.ref s.heap.objs.size))) { s with heap := s.heap.push { cls := Value.type "tuple", data := Data.seq #[] }, toks := s.toks }) :=
  .of_wp fun prog w A R s h => by
    obtain ⟨hp, g, d, tk, os⟩ := s
    obtain ⟨hl, h⟩ := h
    have f1 := AutoSeq1.idx_int
    wp_walk using wpAny_loadPart' hl
    repeat (first
      | (refine wpAny_ite_false (decide_eq_false (by rw [c0]; exact Bool.false_ne_true)) ?_; (wp_walk using wpAny_loadPart' hl))
      | (refine wpAny_ite_false (decide_eq_false (by rw [c1]; exact Bool.false_ne_true)) ?_; (wp_walk using wpAny_loadPart' hl))
      | (refine wpAny_ite_true (decide_eq_true (by rw [c2])) ?_; wp_walk using wpAny_loadPart' hl))
    exact ⟨_, rfl, h⟩
def rRepT2 (K : PySem.W.Frag) : R2 := fun x y H Q => ∃ l k xs, x = .ref l ∧ y = .int k ∧ SqT K H l xs ∧ xs ≠ [] ∧ 2 ≤ k ∧ k ≤ 8000 ∧ xs.length ≤ 2000 ∧ ∀ p, H p = none → Q (.ref p) (upd H p (.tup (List.replicate k.toNat xs).flatten))
/-- a tuple, 2 to 8000 times -/
theorem op_repT2 {X : Cx} : OpR X (binaryOp .Mult) (rRepT2 X.K) := by
  rintro pins s σ H x y v u Q I rx ry ⟨l, k, xs, ex, ey, sq, some_, lo, hi, short, fin⟩
  subst ex ey
  cases rx
  obtain ⟨tok, rfl⟩ := ry
  obtain ⟨us, rv, ⟨⟨oc, od, dat, osl⟩, at_, e1, m, e2⟩, _⟩ := I.tuple sq
  simp only at e1 e2
  subst e1 e2
  have len : us.length = xs.length := rv.length.symm
  have full : us.toArray.isEmpty = false := by
    rcases us with _ | ⟨a, b⟩
    · exact absurd (List.eq_nil_of_length_eq_zero len.symm) some_
    · rfl
  have most : k.toNat * us.length ≤ 16000000 := by
    rw [len]
    exact Nat.le_trans (Nat.mul_le_mul (show k.toNat ≤ 8000 by omega) short) (by decide)
  have mostI : ((us.toArray.size : Nat) : Int) * k ≤ 16000000 := by
    have ek : k = (k.toNat : Int) := by omega
    rw [List.size_toArray, ek, Int.mul_comm]
    have := Int.ofNat_le.mpr most
    rw [Int.natCast_mul] at this
    exact this
  have q0 : (decide (k < -(2 ^ 63)) || decide (k ≥ 2 ^ 63)) = false := by simp; omega
  have q1 : (us.toArray.isEmpty || k == 1) = false := by rw [full]; simp; omega
  have q2 : (decide (k ≤ 0) || us.toArray.isEmpty) = false := by rw [full]; simp; omega
  have q3 : Builtin.Tuple.tupleTooMany (((us.toArray.size : Nat) : Int) * k) = false := by
    unfold Builtin.Tuple.tupleTooMany
    rw [sizeLine_eq]
    exact decide_eq_false (by omega)
  have rows : (List.replicate k.toNat us).flatten.length ≤ sizeLine := by
    rw [PyProof.Rows.lm_len_rep_flat, sizeLine_eq]
    omega
  have room : (List.foldl (fun x1 x2 => x1 ++ x2) #[] (List.replicate k.toNat us.toArray)).size ≤ sizeLine := by
    rw [size_rep, List.size_toArray]
    exact rows
  refine wpAny_binaryOp_repeat_ref (T := "tuple") (U := "int") (by decide) ⟨_, at_, rfl⟩ (fun z => typeIs_int z k tok) noFill_tuple_mul F.fills_int_mul F.slot_int_rmul repeat_tuple F.slot_int_index.lookup ?_
  refine call_meets F.slot_int_rmul (typeIs_int s k tok) F.entry_int_rmul (F.args_int_rmul_2 _ _) (int_rmul_tuple k tok l us.toArray m od osl) ⟨at_, rfl, ⟨_, at_, rfl⟩, ?_⟩
  refine call_meets F.slot_tuple_mul ⟨_, at_, rfl⟩ F.entry_tuple_mul (F.args_tuple_mul_2 _ _) (tuple_mulW l us.toArray m od osl k tok q0 q1 q2 (by omega) q3 room) ⟨at_, ?_⟩
  rw [size_rep]
  have new := I.hok.fresh (Nat.le_refl s.heap.objs.size)
  refine ⟨.ref s.heap.objs.size, _, I.laid (t' := s.toks) (o := .tup (List.replicate k.toNat xs).flatten) (fun b ob z => Heap.get?_push_of_some _ z) (Nat.le_refl _) ⟨?_, _, rv.rep k.toNat, IsTup.new _ _⟩, rfl, fin _ new⟩
  rw [PyProof.Rows.lm_len_rep_flat, sizeLine_eq, ← len]
  omega
/-- t * k, the tuple and the number any -/
def rMulT (K : PySem.W.Frag) : R2 := fun x y H Q => ∃ l k xs, x = .ref l ∧ y = .int k ∧ SqT K H l xs ∧ -8000 ≤ k ∧ k ≤ 8000 ∧ xs.length ≤ 2000 ∧
  (xs = [] ∨ k = 1 → Q (.ref l) H) ∧ (¬ (xs = [] ∨ k = 1) → ∀ p, H p = none → Q (.ref p) (upd H p (.tup (List.replicate k.toNat xs).flatten)))
theorem op_mulT {X : Cx} : OpR X (binaryOp .Mult) (rMulT X.K) := by
  intro pins s σ H x y v u Q I rx ry h
  obtain ⟨l, k, xs, rfl, rfl, hT, k1, k2, hz, q1, q2⟩ := h
  by_cases hc : xs = [] ∨ k = 1
  · cases rx
    obtain ⟨t, rfl⟩ := ry
    obtain ⟨its, r, ⟨⟨cls, dd, data, sl⟩, ho, hcl, n, hd⟩, hs⟩ := I.tuple hT
    simp only at hcl hd
    subst hcl hd
    have c0 : (decide (k < -(2 ^ 63)) || decide (k ≥ 2 ^ 63)) = false := by simp; omega
    have c1 : (its.toArray.isEmpty || k == 1) = true := by
      rcases hc with e | e
      · subst e; cases r; rfl
      · subst e; simp
    refine wpAny_binaryOp_repeat_ref (T := "tuple") (U := "int") (by decide) ⟨_, ho, rfl⟩ (fun s2 => typeIs_int s2 k t) noFill_tuple_mul F.fills_int_mul F.slot_int_rmul repeat_tuple F.slot_int_index.lookup ?_
    refine call_meets F.slot_int_rmul (typeIs_int s k t) F.entry_int_rmul (F.args_int_rmul_2 _ _) (int_rmul_tuple k t l its.toArray n dd sl) ⟨ho, rfl, ⟨_, ho, rfl⟩, ?_⟩
    exact call_meets F.slot_tuple_mul ⟨_, ho, rfl⟩ F.entry_tuple_mul (F.args_tuple_mul_2 _ _) (tupMul1 l its.toArray n dd sl k t c0 c1) ⟨ho, ⟨.ref l, H, I, rfl, q1 hc⟩⟩
  · by_cases hk : 2 ≤ k
    · exact op_repT2 pins s σ H _ _ v u Q I rx ry ⟨l, k, xs, rfl, rfl, hT, fun e => hc (.inl e), hk, k2, hz, q2 hc⟩
    · cases rx
      obtain ⟨t, rfl⟩ := ry
      obtain ⟨its, r, ⟨⟨cls, dd, data, sl⟩, ho, hcl, n, hd⟩, hs⟩ := I.tuple hT
      simp only at hcl hd
      subst hcl hd
      have c0 : (decide (k < -(2 ^ 63)) || decide (k ≥ 2 ^ 63)) = false := by simp; omega
      have hk0 : k ≤ 0 := by
        have : k ≠ 1 := fun e => hc (.inr e)
        omega
      have c1 : (its.toArray.isEmpty || k == 1) = false := by
        have a : its ≠ [] := fun e => hc (.inl (by subst e; cases r; rfl))
        simp [a]; omega
      have c2 : (decide (k ≤ 0) || its.toArray.isEmpty) = true := by simp [hk0]
      refine wpAny_binaryOp_repeat_ref (T := "tuple") (U := "int") (by decide) ⟨_, ho, rfl⟩ (fun s2 => typeIs_int s2 k t) noFill_tuple_mul F.fills_int_mul F.slot_int_rmul repeat_tuple F.slot_int_index.lookup ?_
      refine call_meets F.slot_int_rmul (typeIs_int s k t) F.entry_int_rmul (F.args_int_rmul_2 _ _) (int_rmul_tuple k t l its.toArray n dd sl) ⟨ho, rfl, ⟨_, ho, rfl⟩, ?_⟩
      refine call_meets F.slot_tuple_mul ⟨_, ho, rfl⟩ F.entry_tuple_mul (F.args_tuple_mul_2 _ _) (tupMul0 l its.toArray n dd sl k t c0 c1 c2) ⟨ho, ?_⟩
      have e0 : k.toNat = 0 := by omega
      have q := q2 hc s.heap.objs.size (I.hok.fresh (Nat.le_refl _))
      rw [e0] at q
      refine ⟨.ref s.heap.objs.size, _, I.laid (t' := s.toks) (o := .tup []) (fun b ob q => Heap.get?_push_of_some _ q) (Nat.le_refl _) ?_, rfl, q⟩
      exact ⟨by rw [sizeLine_eq]; decide, [], .nil, IsTup.new _ _⟩
/-- a < b <= c < d -/
def tChain3 (r r' r2 : R2) (ta tb tc td : TE) : TE := fun σ H Q => ta σ H fun x H1 => tb σ H1 fun y H2 => r x y H2 fun z H3 => ∃ k, z = .bl k ∧
  (if k = true then tc σ H3 fun w' H4 => r' y w' H4 fun z H5 => ∃ k, z = .bl k ∧ (if k = true then td σ H5 fun w2 H6 => r2 w' w2 H6 Q else Q (.bl false) H5) else Q (.bl false) H3)
section
variable {X : Cx} {a b c d : Expr} {ta tb tc td : TE} {pos : Pos}
theorem pe_chain3 {op op' op2 : CmpOp} {r r' r2 : R2} (ho : OpR X (compareOp op) r) (ho' : OpR X (compareOp op') r') (ho2 : OpR X (compareOp op2) r2) (ha : PE X a ta) (hb : PE X b tb) (hc : PE X c tc) (hd : PE X d td)
    (hm : lastMarks [op, op', op2] [b, c, d] = false) : PE X (.Compare a [op, op', op2] [b, c, d] pos) (tChain3 r r' r2 ta tb tc td) := by
  refine ⟨fun pins s σ H Q I h => ?_⟩
  refine Compare_chain (thn (ha.run pins s σ H _ I h) fun v s1 ⟨x, H1, I1, r1, q1⟩ => chain_link (thn (hb.run pins s1 σ H1 _ I1 q1) fun u s2 ⟨y, H2, I2, r2, q2⟩ => ?_)) hm
  refine thn (ho pins s2 σ H2 x y v u _ I2 r1 r2 q2) fun d s3 ⟨z, H3, I3, r3, k, e, q3⟩ => ?_
  subst e
  cases r3
  refine wpAny_truthy_bool ?_
  cases k with
  | false => exact ite_ff ⟨.bl false, H3, I3, rfl, q3⟩
  | true =>
    refine ite_tt (chain_link (thn (hc.run pins s3 σ H3 _ I3 q3) fun w' s4 ⟨z', H4, I4, r4, q4⟩ => ?_))
    refine thn (ho' pins s4 σ H4 y z' u w' _ I4 r2 r4 q4) fun d s5 ⟨z, H5, I5, r5, k, e, q5⟩ => ?_
    subst e
    cases r5
    refine wpAny_truthy_bool ?_
    cases k with
    | false => exact ite_ff ⟨.bl false, H5, I5, rfl, q5⟩
    | true => exact ite_tt (chain_last (thn (hd.run pins s5 σ H5 _ I5 q5) fun w2 s6 ⟨z2, H6, I6, r6, q6⟩ => ho2 pins s6 σ H6 z' z2 w' w2 Q I6 r4 r6 q6))
theorem pt_chain3 {op op' op2 : CmpOp} {r r' r2 : R2} (ho : OpR X (compareOp op) r) (ho' : OpR X (compareOp op') r') (ho2 : OpR X (compareOp op2) r2) (ha : PE X a ta) (hb : PE X b tb) (hc : PE X c tc) (hd : PE X d td)
    (hm : lastMarks [op, op', op2] [b, c, d] = false) : PT X (.Compare a [op, op', op2] [b, c, d] pos) (tTest (tChain3 r r' r2 ta tb tc td)) := by
  refine ⟨fun pins s σ H Q I h => ?_⟩
  refine isTrue_chain (thn (ha.run pins s σ H _ I h) fun v s1 ⟨x, H1, I1, r1, q1⟩ => test_link (thn (hb.run pins s1 σ H1 _ I1 q1) fun u s2 ⟨y, H2, I2, r2, q2⟩ => ?_)) hm
  refine thn (ho pins s2 σ H2 x y v u _ I2 r1 r2 q2) fun d s3 ⟨z, H3, I3, r3, k, e, q3⟩ => ?_
  subst e
  cases r3
  refine wpAny_truthy_bool ?_
  cases k with
  | false =>
    obtain ⟨k', e', q'⟩ := q3
    cases e'
    exact ite_ff ⟨H3, I3, q'⟩
  | true =>
    refine ite_tt (test_link (thn (hc.run pins s3 σ H3 _ I3 q3) fun w' s4 ⟨z', H4, I4, r4, q4⟩ => ?_))
    refine thn (ho' pins s4 σ H4 y z' u w' _ I4 r2 r4 q4) fun d s5 ⟨z, H5, I5, r5, k, e, q5⟩ => ?_
    subst e
    cases r5
    refine wpAny_truthy_bool ?_
    cases k with
    | false =>
      obtain ⟨k', e', q'⟩ := q5
      cases e'
      exact ite_ff ⟨H5, I5, q'⟩
    | true =>
      refine ite_tt (test_last (thn (hd.run pins s5 σ H5 _ I5 q5) fun w2 s6 ⟨z2, H6, I6, r6, q6⟩ => ?_))
      refine thn (ho2 pins s6 σ H6 z' z2 w' w2 _ I6 r4 r6 q6) fun d' s7 ⟨z3, H7, I7, r7, k2, e2, q7⟩ => ?_
      subst e2
      cases r7
      exact wpAny_truthy_bool ⟨H7, I7, q7⟩
end
/-- o[i] of a built-in type, by its own __getitem__ -/
theorem tail_of {prog : Program} {w : World} {A : Around} {E : Value → Shared → Prop} {s : Shared} {value slice : Expr} {o i : Value} {T id : String} {Q : Value → Shared → Prop} (hT : s.TypeIs o T)
    (hl : typeLookup (.type T) "__getitem__" = pure (some (.builtin id))) (hs : subscripted slice false o i = operate [o, i] (getItem o i)) (h : wpAny (model prog w) A (getItem o i) Q E s) :
    wpAny (model prog w) A (subscriptTail value slice o i) Q E s := by
  have fin : wpAny (model prog w) A (subscripted slice false o i) (fun r s1 => wpAny (model prog w) A (letTemporaryGo value o r >>= fun _ => pure r) Q E s1) E s := by
    rw [hs]
    refine wpAny_operating (wpAny_mono h (fun r s1 h1 => wpAny_bind (wpAny_letTemporaryGo (wpAny_pure h1))) fun _ _ x => x)
  unfold subscriptTail
  refine wpAny_bind ?_
  rw [getitemInPython_of_ne hT.not_modules]
  refine wpAny_bind (wpAny_specialOf hT hl ?_)
  first | exact wpAny_pure (wpAny_bind fin) | exact wpAny_bind (wpAny_pure (wpAny_bind fin)) | exact wpAny_bind fin
/-- a list or a tuple is walked -/
def iSeq (K : PySem.W.Frag) (tl : TE) : TI := fun σ H R => tl σ H fun x H1 => ∃ a, x = .ref a ∧ (((∃ xs, SqL K H1 a xs) ∧ R (Itl K a) H1) ∨ ((∃ xs, SqT K H1 a xs) ∧ R (Itt K a) H1))
theorem pi_seq {X : Cx} {tg l : Expr} {tl : TE} (hl : PE X l tl) : PI X tg l (iSeq X.K tl) := by
  constructor
  intro pins s σ H R I h
  refine thn (hl.run pins s σ H _ I h) fun v s1 ⟨x, H1, I1, r1, a, e, q⟩ => ?_
  subst e
  cases r1
  have fp : ∀ b ∈ [s1.heap.objs.size], FpOk X pins H1 b := fun b hb => by
    rw [List.mem_singleton.mp hb]
    exact I1.fpOk (Nat.le_refl _) (I1.hok.fresh (Nat.le_refl _))
  have keep : ∀ o, Inv X pins σ H1 { s1 with heap := s1.heap.push o } := fun o => I1.kept (t' := s1.toks) fun b u e => Heap.get?_push_of_some o e
  rcases q with ⟨⟨xs, hq⟩, q⟩ | ⟨⟨xs, hq⟩, q⟩
  · obtain ⟨its, rv, p, hz⟩ := I1.list hq
    exact wpAny_pyIter_list p.isList ⟨s1.heap.objs.size, [s1.heap.objs.size], _, _, H1, rfl, keep _, turn_list a _, ⟨_, Heap.get?_push_size _ rfl, rfl, rfl⟩, fp, q⟩
  · obtain ⟨its, rv, p, hz⟩ := I1.tuple hq
    exact wpAny_pyIter_tuple p ⟨s1.heap.objs.size, [s1.heap.objs.size], _, _, H1, rfl, keep _, turn_tuple a _, ⟨_, Heap.get?_push_size _ rfl, rfl, rfl⟩, fp, q⟩
/-- a plain test: the value, then its truth -/
def plainT : Expr → Bool
  | .UnaryOp .Not _ _ => false
  | .BoolOp _ _ _ => false
  | .IfExp _ _ _ _ => false
  | .Compare _ _ _ _ => false
  | _ => true
theorem isTrue_of {env : Env} (e : Expr) (h : plainT e = true) : ∀ whole, isTrue e env whole = (do let v ← whole; standAt e.pos; holding [v] (truthy v)) := by
  intro whole
  cases e <;> first | rfl | (cases h; done) | skip
  rename_i op x p
  cases op <;> first | rfl | (cases h; done)
theorem pt_ifExp {X : Cx} {c a b : Expr} {tc ta tb : TT} {pos : Pos} (hc : PT X c tc) (ha : PT X a ta) (hb : PT X b tb) : PT X (.IfExp c a b pos) (fun σ H Q => tc σ H fun t H1 => if t = true then ta σ H1 Q else tb σ H1 Q) := by
  constructor
  intro pins s σ H Q I h
  show wpAny _ _ (do if ← isTrue c X.env (eval c X.env) then isTrue a X.env (eval a X.env) else isTrue b X.env (eval b X.env)) _ _ _
  refine wpAny_bind (thn (hc.run pins s σ H _ I h) fun d s1 ⟨H1, I1, q1⟩ => ?_)
  cases d with
  | true => rw [if_pos rfl] at q1 ⊢; exact ha.run pins s1 σ H1 Q I1 q1
  | false => rw [if_neg Bool.false_ne_true] at q1 ⊢; exact hb.run pins s1 σ H1 Q I1 q1
end L2
/-! J0c: enumerate of a tuple -/
namespace L2
open PySem PySem.Spec PyProof.Rows
/-- enumerate(v) alone: the counter begins at 0 -/
theorem enumNew1 {v : Value} {o : Obj} {H : Heap → Prop} (B : Begins v o H) :
    Meets (Builtin.«enumerate.__new__» ⟨[.type "enumerate", v], []⟩) (fun _ R s => H s.heap ∧
      R (.ok (.ret (.ref (s.heap.push o).objs.size))) { s with heap := (s.heap.push o).push { cls := .type "enumerate", data := .fields #[.none, .bool false, .ref s.heap.objs.size, rawInt 0, .none, .none] } }) :=
  .of_wp fun prog w A R s hh => by
    obtain ⟨hp, gg, dr, tk, os⟩ := s
    obtain ⟨h1, h2⟩ := hh
    have sub0 := sub_enumerate
    have step : ∀ {A' : Around} {E : Value → Shared → Prop} {Q : Value → Shared → Prop}, Q (.ref hp.objs.size) ⟨hp.push o, gg, dr, tk, os⟩ → wpAny (model prog w) A' (pyIter v) Q E ⟨hp, gg, dr, tk, os⟩ := fun q => B.iter prog w _ _ ⟨hp, gg, dr, tk, os⟩ _ h1 q
    wp_walk using step
    refine wpAny_stack_any fun st => wpAny_pure ?_
    split
    · rename_i c _ _ _ _ _
      cases (c == Value.type "enumerate")
      · (wp_walk using step)
        exact ⟨_, rfl, h2⟩
      · (wp_walk using step)
        exact ⟨_, rfl, h2⟩
    · (wp_walk using step)
      exact ⟨_, rfl, h2⟩
/-- the tuple at a, each item in a new pair with its number -/
def IteT (K : PySem.W.Frag) (a : Addr) : It :=
  ⟨fun i H => ∃ (xs : List V) (x : V), SqT K H a xs ∧ xs[i]? = some x, fun i H v H' => ∃ P x, v = .ref P ∧ H P = none ∧ H' = upd H P (.tup [.int (i : Nat), x]) ∧ ∀ xs, SqT K H a xs → xs[i]? = some x, fun i H => ∃ xs : List V, SqT K H a xs ∧ xs.length ≤ i⟩
theorem turn_enumT {Pg : Program} {w : World} {K : PySem.W.Frag} {elts : List Expr} {kk : Nat} {tpos : Pos} (a e it : Addr) :
    Turn Pg w K (.Tuple elts kk tpos) (IteT K a) [e, it] e (fun i h => (∃ old, IsEnum h e it ((i : Nat) : Int) old) ∧ h.IsTupleIter it a i ∧ e ≠ it ∧ a ≠ it ∧ e ≠ a) where
  mem := by simp
  obj := fun i h st b hb => by
    obtain ⟨⟨old, he⟩, ⟨o, ho, hc, hd⟩, _⟩ := st
    rcases List.mem_cons.mp hb with z | hb
    · rw [z]; exact ⟨_, he, fun v q => nomatch q⟩
    · rw [List.mem_singleton.mp hb]; exact ⟨o, ho, fun v q => by rw [hd] at q; cases q⟩
  keep := fun i h h' st k => by
    obtain ⟨⟨old, he⟩, hi, hne, hna, hea⟩ := st
    exact ⟨⟨old, k e (by simp) _ he⟩, hi.at fun o q => k it (by simp) o q, hne, hna, hea⟩
  item := by
    intro X hP hw hK hc i pins s σ H E I hf st hg
    subst hP hw hK
    obtain ⟨⟨old, he⟩, hit, hne, hna, hea⟩ := st
    obtain ⟨xs, x, hq, hx⟩ := hg
    obtain ⟨its, rv, p, hz⟩ := I.tuple hq
    obtain ⟨u, hu, ru⟩ := rv.get hx
    have hel : e < s.heap.objs.size := Heap.lt_size he
    have hil : it < s.heap.objs.size := by obtain ⟨_, q, _⟩ := hit; exact Heap.lt_size q
    have hlt : i < its.toArray.size := by
      have := (List.getElem?_eq_some_iff.mp hu).1
      simpa using this
    have DR := Draws.tuple (prog := X.prog) (w := X.w) (A := X.A.in1) (show X.A.in1.handled = none from I.ok.hd hc) it a hna its.toArray
    refine wpAny_pyNext_enum_itemD DR he ⟨hit, p⟩ hlt hne (by simp [hne, hea]) fun y h' tk hy ho hst' hT hsz hk => ?_
    have ey : y = u := by
      have hu' : its.toArray[i]? = some u := by simpa using hu
      rw [hu'] at hy
      exact (Option.some.inj hy).symm
    subst ey
    refine ⟨_, rfl, wpAny_letOwnedTupleGo_enum (s := { s with heap := h', toks := tk + 1 }) ho fun h'' he' sb => ?_⟩
    have hT2 : h''.get? s.heap.objs.size = some { cls := .type "tuple", data := .seq #[.int i tk, y] } := (sb.2 _ (Nat.ne_of_gt hel)).trans hT
    have new : ObjOk X.prog X.w (upd H s.heap.objs.size (.tup [.int (i : Nat), x])) h'' s.heap.objs.size (.tup [.int (i : Nat), x]) :=
      ⟨by show 2 ≤ sizeLine; decide, [.int i tk, y], .cons ⟨_, rfl⟩ (.cons ru .nil), ⟨_, hT2, rfl, _, rfl⟩⟩
    have I1 : Inv X pins σ (upd H s.heap.objs.size (.tup [.int (i : Nat), x])) { s with heap := h'', toks := tk + 1 } :=
      I.turnedNew (ch := [e, it]) (fun b ob hb q => (sb.2 b (fun z => hb (by simp [z]))).trans (hk b ob (fun z => hb (by simp [z])) (fun z => hb (by simp [z])) q)) hf (Nat.le_refl _) new
    refine ⟨.ref s.heap.objs.size, _, I1, rfl, ⟨_, x, rfl, I.hok.fresh (Nat.le_refl _), rfl, fun ys hy => by rw [I.tuple_inj hy hq]; exact hx⟩, ⟨⟨y, ?_⟩, hst'.1.at fun o q => (sb.2 it (Ne.symm hne)).trans q, hne, hna, hea⟩, fun b hb => ?_⟩
    · have e1 : ((i + 1 : Nat) : Int) = (i : Int) + 1 := by omega
      rw [e1]; exact he'
    · have hb' : b < s.heap.objs.size := by
        rcases List.mem_cons.mp hb with z | hb
        · rw [z]; exact hel
        · rw [List.mem_singleton.mp hb]; exact hil
      rw [upd_ne (Nat.ne_of_lt hb')]
      exact (hf b hb).1
  done := by
    intro X hP hw hK hc i pins s σ H E I hf st hg
    subst hP hw hK
    obtain ⟨⟨old, he⟩, hit, hne, hna, hea⟩ := st
    obtain ⟨xs, hq, hx⟩ := hg
    obtain ⟨its, rv, p, hz⟩ := I.tuple hq
    obtain ⟨f0, f1, f2, f3, f4, f5⟩ := hf it (by simp)
    have hl := rv.length
    have hn : its.toArray[i]? = none := by simp; omega
    have hh : X.A.in1.handled = none := I.ok.hd hc
    have D : Draws X.prog X.w X.A.in1 it [it, a] i (fun _ _ => False) (fun j h => j = i ∧ h.IsTupleIter it a i ∧ h.IsTuple a its.toArray) :=
      { live := fun _ _ st => let ⟨o, ho, _⟩ := st.2.1; ⟨o, ho⟩
        frame := fun _ _ _ st hk => ⟨st.1, st.2.1.at fun o e => hk it (by simp) o e, st.2.2.at fun o e => hk a (by simp) o e⟩
        item := fun j s Q E hj st _ => absurd hj (by rw [st.1]; exact Nat.lt_irrefl _)
        done := fun s Q E st hE => wpAny_nextOf_tuple_end hh st.2.1 st.2.2 hn hE }
    exact wpAny_pyNext_enum_endD D he ⟨rfl, hit, p⟩ fun h' eb => ⟨rfl, I.turned (t' := s.toks) (fun b o hb q => eb b o hb q) f0 f1 f3 f4 f5⟩
  self := fun A i s Q E st h => let ⟨⟨_, he⟩, _⟩ := st; wpAny_pyIter_enum he h
section
variable {prog : Program} {w : World} {A : Around} {E : Value → Shared → Prop} {s : Shared}
theorem call_enumerate_B {v : Value} {o : Obj} {H : Heap → Prop} {Q : Value → Shared → Prop} (B : Begins v o H) (h1 : H s.heap)
    (h : ∀ h', IsEnum h' (s.heap.objs.size + 1) s.heap.objs.size 0 .none → h'.get? s.heap.objs.size = some o → h'.objs.size = s.heap.objs.size + 2 →
      (∀ b o, s.heap.get? b = some o → h'.get? b = some o) → Q (.ref (s.heap.objs.size + 1)) { s with heap := h' }) :
    wpAny (model prog w) A (call (.type "enumerate") [v]) Q E s := by
  refine callType_new F.called_enumerate (by decide) (F.typeCall_enumerate_1 _) (F.newCall_enumerate_1 _) (fun obj => F.args_object_init_2 obj _) F.entry_enumerate_new
    (enumNew1 B) ⟨h1, ?_⟩
  have hz : (s.heap.push o).objs.size = s.heap.objs.size + 1 := Heap.size_push ..
  show _ ∧ _
  rw [hz]
  have he : IsEnum ((s.heap.push o).push { cls := .type "enumerate", data := .fields #[.none, .bool false, .ref s.heap.objs.size, rawInt 0, .none, .none] }) (s.heap.objs.size + 1) s.heap.objs.size 0 .none := by
    have := Heap.get?_push_size (s.heap.push o) (o := { cls := .type "enumerate", data := .fields #[.none, .bool false, .ref s.heap.objs.size, rawInt 0, .none, .none] }) rfl
    rw [hz] at this; exact this
  refine ⟨⟨_, he, rfl⟩, h _ he (Heap.get?_push_of_some _ (Heap.get?_push_size _ B.free)) (by rw [Heap.size_push, hz]) fun b o x => Heap.get?_push_of_some _ (Heap.get?_push_of_some _ x)⟩
end
/-- enumerate of a list or a tuple -/
def iEnumA (K : PySem.W.Frag) (ta : TA) : TI := fun σ H R => ta σ H fun vs H1 => ∃ a xs, vs = [.ref a] ∧ ((SqL K H1 a xs ∧ R (Ite K a) H1) ∨ (SqT K H1 a xs ∧ R (IteT K a) H1))
theorem pi_enumA {X : Cx} {e : Expr} {ta : TA} {p pos tpos : Pos} {elts : List Expr} {kk : Nat} (hg : Gl X "enumerate") (hm : X.mg "enumerate" = none) (ha : PA X [e] ta) (hs : starEach [e] X.env = [(false, eval e X.env)] := by rfl) :
    PI X (.Tuple elts kk tpos) (.Call (.Name "enumerate" p) [e] [] pos) (iEnumA X.K ta) := by
  refine ⟨fun pins s σ H R I h => ?_⟩
  refine Call_ (ld_blt I hg hm boot_enumerate (PyProof.Rows.callWith_type1 (thn (ha.run pos pins s σ H _ I h) fun us s1 ⟨vs, H1, I1, r1, q1⟩ => ?_) hs rfl))
  obtain ⟨a, xs, ex, hq⟩ := q1
  subst ex
  cases r1 with
  | cons r rr =>
    cases rr
    cases r
    have ap : ∀ b ∈ [s1.heap.objs.size + 1, s1.heap.objs.size], s1.heap.objs.size ≤ b := fun b hb => by
      have e' : b = s1.heap.objs.size + 1 ∨ b = s1.heap.objs.size := by simpa using hb
      rcases e' with z | z
      · rw [z]; exact Nat.le_add_right _ _
      · rw [z]; exact Nat.le_refl _
    rcases hq with ⟨hq, q⟩ | ⟨hq, q⟩
    · obtain ⟨its, rv, p', hz⟩ := I1.list hq
      refine call_enumerate_list p'.isList fun h' he hit hsz hk => wpAny_pyIter_enum he ?_
      have I2 : Inv X pins σ H1 { s1 with heap := h' } := I1.kept (t' := s1.toks) hk
      exact ⟨s1.heap.objs.size + 1, [s1.heap.objs.size + 1, s1.heap.objs.size], _, _, H1, rfl, I2, turn_enum a (s1.heap.objs.size + 1) s1.heap.objs.size, ⟨⟨.none, he⟩, hit, Nat.succ_ne_self _⟩, fun b hb => I1.fpOk (ap b hb) (I1.hok.fresh (ap b hb)), q⟩
    · obtain ⟨its, rv, p', hz⟩ := I1.tuple hq
      refine call_enumerate_B (begins_tuple a its.toArray) p' fun h' he hit hsz hk => wpAny_pyIter_enum he ?_
      have I2 : Inv X pins σ H1 { s1 with heap := h' } := I1.kept (t' := s1.toks) hk
      have hal : a < s1.heap.objs.size := by obtain ⟨o, ho, _⟩ := p'; exact Heap.lt_size ho
      exact ⟨s1.heap.objs.size + 1, [s1.heap.objs.size + 1, s1.heap.objs.size], _, _, H1, rfl, I2, turn_enumT a (s1.heap.objs.size + 1) s1.heap.objs.size, ⟨⟨.none, he⟩, ⟨_, hit, rfl, rfl⟩, Nat.succ_ne_self _, Nat.ne_of_lt hal, Nat.ne_of_gt (Nat.lt_succ_of_lt hal)⟩, fun b hb => I1.fpOk (ap b hb) (I1.hok.fresh (ap b hb)), q⟩
section
variable {X : Cx}
/-- sum(t) of a tuple of ints -/
def rSumT (K : PySem.W.Frag) : List V → Hp → VK → Prop := fun vs H Q => ∃ (a : Addr) (ns : List Int), vs = [V.ref a] ∧ SqT K H a (ns.map V.int) ∧ Q (.int ns.sum) H
theorem cr_sumT (hc : X.calm = true) : CallR X (.builtin "sum") (rSumT X.K) := by
  intro pins s σ H vs us Q I r h
  obtain ⟨a, ns, rfl, hs, q⟩ := h
  obtain ⟨its, rv, hl, _⟩ := I.tuple hs
  rw [Vals.ref1 r]
  have hi := rv.ints
  obtain ⟨xs, hx⟩ := hi.allInts.items
  have hn : numsOf its.toArray.toList = ns := by rw [show its.toArray.toList = its from rfl, hi.numsOf]
  rw [hx] at hn
  rw [nums_intItems] at hn
  have hl' : s.heap.IsTuple a (intItems xs) := by rw [← hx]; exact hl
  refine PySem.W.ktm_sumG (I.ok.hd hc) hl' fun h' tk t' hk => ⟨.int _, H, I.kept hk, ⟨_, rfl⟩, ?_⟩
  rw [preSum_eq, List.take_of_length_le (by simp), hn]
  exact q
end
end L2
/-! J0r: t[::-1] of a tuple -/
namespace L2
open PySem PySem.Spec PyProof.Rows HT
section
variable {prog : Program} {w : World} {A : Around} {E : Value → Shared → Prop} {s : Shared}
theorem adjust_back (n : Nat) : Builtin.Slice.sliceAdjust none none (-1) (n : Int) = ((n : Int) - 1, -1) := by
  unfold Builtin.Slice.sliceAdjust
  simp
theorem places_back (n : Nat) : Builtin.Slice.slicePlaces ((n : Int) - 1) (-1) (-1) = n := by
  unfold Builtin.Slice.slicePlaces
  rw [if_neg (by decide)]
  by_cases h : (n : Int) - 1 > -1
  · rw [if_pos h, show (-(-1 : Int)) = 1 from rfl, Int.ediv_one]; omega
  · rw [if_neg h]; omega
theorem pick_back (xs : List Value) : ((List.range xs.length).filterMap fun (k : Nat) => xs.toArray[((xs.length : Int) - 1 + (k : Int) * (-1)).toNat]?) = xs.reverse := by
  refine List.ext_getElem? fun i => ?_
  have e : ((List.range xs.length).filterMap fun (k : Nat) => xs.toArray[((xs.length : Int) - 1 + (k : Int) * (-1)).toNat]?) = (List.range xs.length).map fun k => (xs.reverse).getD k .none := by
    have key : ∀ l : List Nat, (∀ k ∈ l, k < xs.length) → (l.filterMap fun (k : Nat) => xs.toArray[((xs.length : Int) - 1 + (k : Int) * (-1)).toNat]?) = l.map fun k => (xs.reverse).getD k .none := by
      intro l
      induction l with
      | nil => intro _; rfl
      | cons k l ih =>
        intro hl
        have hk := hl k (List.mem_cons_self ..)
        have e1 : ((xs.length : Int) - 1 + (k : Int) * (-1)).toNat = xs.length - 1 - k := by omega
        have e2 : xs.toArray[((xs.length : Int) - 1 + (k : Int) * (-1)).toNat]? = some ((xs.reverse).getD k .none) := by
          rw [e1]
          simp only [List.getElem?_toArray]
          rw [List.getElem?_eq_getElem (by omega), List.getD_eq_getElem?_getD, List.getElem?_eq_getElem (by simpa using hk)]
          simp
        rw [List.filterMap_cons, e2, List.map_cons, ← ih fun x hx => hl x (List.mem_cons_of_mem _ hx)]
    exact key _ fun k hk => List.mem_range.mp hk
  rw [e]
  by_cases hi : i < xs.length
  · rw [List.getElem?_map, List.getElem?_range hi, Option.map_some, List.getD_eq_getElem?_getD, List.getElem?_eq_getElem (by simpa using hi)]
    rfl
  · rw [List.getElem?_eq_none (by simp; omega), List.getElem?_eq_none (by simp; omega)]
theorem back_applied {sl : Addr} {vl vu vs : Value} {n : Nat} {Q : Int × Int × Nat → Shared → Prop} (hs : s.heap.IsSliceOf sl vl vu vs) (pl : IsPart vl none) (pu : IsPart vu none) (ps : IsPart vs (some (-1)))
    (h : Q ((n : Int) - 1, -1, n) s) : wpAny (model prog w) A (Builtin.Slice.sliceApplied (.ref sl) (pure (n : Int))) Q E s := by
  obtain ⟨os, look, hc, hd⟩ := id hs
  unfold Builtin.Slice.sliceApplied Builtin.Slice.sliceFields
  refine wpAny_bind (wpAny_bind (wpAny_field look hd (x := vl) rfl (wpAny_bind (wpAny_field look hd (x := vu) rfl (wpAny_bind (wpAny_field look hd (x := vs) rfl (wpAny_pure ?_)))))))
  refine wpAny_bind (slicePart_ ps ?_)
  show wpAny _ _ (if ((-1 : Int) == 0) = true then _ else _) _ _ s
  rw [if_neg (by decide)]
  refine wpAny_bind (slicePart_ pl (wpAny_bind (slicePart_ pu (wpAny_bind (wpAny_pure ?_)))))
  show wpAny _ _ (match Builtin.Slice.sliceAdjust none none (-1) (n : Int) with | (lo, hi) => pure (lo, (-1 : Int), Builtin.Slice.slicePlaces lo hi (-1))) _ _ s
  rw [adjust_back]
  show wpAny _ _ (pure ((n : Int) - 1, (-1 : Int), Builtin.Slice.slicePlaces ((n : Int) - 1) (-1) (-1))) _ _ s
  rw [places_back]
  exact wpAny_pure h
theorem tuple_back {t sl : Addr} {its : List Value} {vl vu vs : Value} {Q : Value → Shared → Prop} (ht : IsTup s.heap t its.toArray) (hs : s.heap.IsSliceOf sl vl vu vs) (pl : IsPart vl none) (pu : IsPart vu none) (ps : IsPart vs (some (-1))) (hz : its.length ≤ sizeLine)
    (h : Q (.ref s.heap.objs.size) { s with heap := s.heap.push { cls := .type "tuple", data := .seq its.reverse.toArray } }) : wpAny (model prog w) A (getItem (.ref t) (.ref sl)) Q E s := by
  obtain ⟨os, look, hc, hd⟩ := id hs
  have tys : s.TypeIs (.ref sl) "slice" := ⟨os, look, hc⟩
  have fits : sizeOk (.seq its.reverse.toArray) := by
    show its.reverse.toArray.size ≤ sizeLine
    simpa using hz
  unfold getItem
  try with_reducible refine wpAny_holding ?_
  first | refine wpAny_bind (wpAny_pure ?_) | skip
  refine wpAny_bind (wpAny_sequenceKey ht.typeIs (by decide) ?_)
  refine wpAny_bind (wpAny_callSpecial?_slot (name := Str.ofString "__getitem__") ht.typeIs PyProof.Rows.slot_tuple_getitem (wpAny_call_entry PyProof.Rows.slot_tuple_getitem ht.typeIs entry_tuple_getitem ?_ (args_tuple_getitem _ _)))
  show wpAny _ _ (Builtin.Tuple.tupleItemsOf (.ref t) >>= _) _ _ s
  refine wpAny_bind (tupleItemsOf_ ht (wpAny_bind (wpAny_typeOf tys ?_)))
  rw [if_pos (by decide)]
  have sz : its.toArray.size = its.length := by simp
  refine wpAny_bind (back_applied (n := its.toArray.size) hs pl pu ps ?_)
  have no : ¬ ((((its.toArray.size : Nat) : Int) - 1 == 0 && (-1 : Int) == 1 && its.toArray.size == its.toArray.size) = true) := by simp
  show wpAny _ _ (if (((its.toArray.size : Nat) : Int) - 1 == 0 && (-1 : Int) == 1 && its.toArray.size == its.toArray.size) = true then _ else _) _ _ s
  rw [if_neg no, sz, pick_back]
  first
    | exact wpAny_bind (m := Builtin.Tuple.tupleExact _) (wpAny_newObj_type (wpAny_pure ⟨_, rfl, wpAny_pure h⟩) fits)
    | exact wpAny_bind (m := Builtin.Tuple.tupleExact _) (wpAny_newObj_type (wpAny_bind (wpAny_pure (wpAny_pure ⟨_, rfl, wpAny_pure h⟩))) fits)
    | exact wpAny_bind (wpAny_bind (m := Builtin.Tuple.tupleExact _) (wpAny_newObj_type (wpAny_pure (wpAny_pure ⟨_, rfl, wpAny_pure h⟩)) fits))
    | exact wpAny_bind (wpAny_bind (m := Builtin.Tuple.tupleExact _) (wpAny_newObj_type (wpAny_pure ⟨_, rfl, wpAny_pure h⟩) fits))
end
section
variable {X : Cx}
/-- x[::-1], a list or a tuple -/
def tRevA (K : PySem.W.Frag) (te : TE) : TE := fun σ H Q => te σ H fun x H1 => (∃ a xs, x = .ref a ∧ SqL K H1 a xs ∧ ∀ p, H1 p = none → Q (.ref p) (upd H1 p (.lst xs.reverse))) ∨ (∃ a xs, x = .ref a ∧ SqT K H1 a xs ∧ ∀ p, H1 p = none → Q (.ref p) (upd H1 p (.tup xs.reverse)))
theorem pe_revA {e : Expr} {te : TE} {k : Nat} {p1 p2 p3 pos : Pos} (he : PE X e te) : PE X (.Subscript e (.Slice none none (some (.UnaryOp .USub (.Constant (.int 1) k p1) p2)) p3) pos) (tRevA X.K te) := by
  refine ⟨fun pins s σ H Q I h => ?_⟩
  refine Subscript_ (thn (he.run pins s σ H _ I h) fun v s1 ⟨x, H1, I1, r1, q1⟩ => ?_)
  have neg : PO X (some (.UnaryOp .USub (.Constant (.int 1) k p1) p2)) (tPart (tUn (rU fun i => .int (-i)) (tC (.int 1)))) := po_some (pe_un un_neg pe_int)
  have obj : ∃ a, x = .ref a := by rcases q1 with ⟨a, _, e, _⟩ | ⟨a, _, e, _⟩ <;> exact ⟨a, e⟩
  obtain ⟨a, rfl⟩ := obj
  cases r1
  refine wpAny_Slice (thn (po_none.run pins s1 σ H1 (fun o H2 => o = none ∧ H2 = H1) I1 ⟨rfl, rfl⟩) fun vl s2 ⟨l, H2, I2, pl, el, e2⟩ => ?_)
  subst el e2
  refine thn (po_none.run pins s2 σ H2 (fun o H3 => o = none ∧ H3 = H2) I2 ⟨rfl, rfl⟩) fun vu s3 ⟨u, H3, I3, pu, eu, e3⟩ => ?_
  subst eu e3
  refine thn (neg.run pins s3 σ H3 (fun o H4 => o = some (-1) ∧ H4 = H3) I3 ⟨1, rfl, -1, rfl, rfl, rfl⟩) fun vs s4 ⟨o, H4, I4, ps, eo, e4⟩ => ?_
  subst eo e4
  have I5 : Inv X pins σ H4 { s4 with heap := s4.heap.push { cls := .type "slice", data := .fields #[vl, vu, vs] } } := I4.kept (t' := s4.toks) fun b ob q => Heap.get?_push_of_some _ q
  show wpAny (model X.prog X.w) X.A (subscriptTail e (.Slice none none (some (.UnaryOp .USub (.Constant (.int 1) k p1) p2)) p3) (.ref a) (.ref s4.heap.objs.size)) (EP X pins σ Q) X.xe { s4 with heap := s4.heap.push { cls := .type "slice", data := .fields #[vl, vu, vs] } }
  rcases q1 with ⟨_, xs, ea, sq, q⟩ | ⟨_, xs, ea, sq, q⟩
  · cases ea
    obtain ⟨its, rv, hl, hz⟩ := I5.list sq
    have len := rv.length
    refine tail_any (ops := [.ref a, .ref s4.heap.objs.size]) hl.isList.typeIs (PySem.slot_list_getitem.lookup) ?_ (by with_unfolding_all rfl)
    refine wpAny_getItem_list_slice hl.isList (Heap.IsSliceOf.new _ vl vu vs) pl pu ps (by decide) ?_ (by rw [List.size_toArray]; omega)
    rw [PySem.W.krv_pick]
    refine ⟨.ref _, _, I5.laid (t' := s4.toks) (o := .lst xs.reverse) (fun b ob z => Heap.get?_push_of_some _ z) (Nat.le_refl _) ⟨by rw [List.length_reverse]; exact hz, _, 0, rv.reverse, Heap.get?_push_size _ rfl⟩, rfl, q _ (I5.hok.fresh (Nat.le_refl _))⟩
  · cases ea
    obtain ⟨its, rv, ht, hz⟩ := I5.tuple sq
    have len := rv.length
    refine tail_any (ops := [.ref a, .ref s4.heap.objs.size]) ht.typeIs (PyProof.Rows.slot_tuple_getitem.lookup) ?_ (by with_unfolding_all rfl)
    refine tuple_back ht (Heap.IsSliceOf.new _ vl vu vs) pl pu ps (by omega) ?_
    refine ⟨.ref _, _, I5.laid (t' := s4.toks) (o := .tup xs.reverse) (fun b ob z => Heap.get?_push_of_some _ z) (Nat.le_refl _) ⟨by rw [List.length_reverse]; exact hz, _, rv.reverse, IsTup.new _ _⟩, rfl, q _ (I5.hok.fresh (Nat.le_refl _))⟩
end
end L2
/-! J0d: min and max of a tuple of ints -/
namespace J
open PySem L2 PySem.Spec
theorem minOf_L : ∀ (is : List Int) (i : Int), PySem.W.minOf i is = minL i is
  | [], i => rfl
  | j :: is, i => by
    show PySem.W.minOf (if PySem.W.DatumOrd.lt j i = true then j else i) is = minL (if j < i then j else i) is
    rw [minOf_L is]
    congr 1
    show (if decide (j < i) = true then j else i) = _
    simp
theorem maxOf_L : ∀ (is : List Int) (i : Int), PySem.W.maxOf i is = maxL i is
  | [], i => rfl
  | j :: is, i => by
    show PySem.W.maxOf (if PySem.W.DatumOrd.lt i j = true then j else i) is = maxL (if i < j then j else i) is
    rw [maxOf_L is]
    congr 1
    show (if decide (i < j) = true then j else i) = _
    simp
section
variable {X : Cx}
def rMinT (K : PySem.W.Frag) : List V → Hp → VK → Prop := fun vs H Q => ∃ (a : Addr) (i : Int) (is : List Int), vs = [V.ref a] ∧ SqT K H a ((i :: is).map V.int) ∧ Q (.int (minL i is)) H
def rMaxT (K : PySem.W.Frag) : List V → Hp → VK → Prop := fun vs H Q => ∃ (a : Addr) (i : Int) (is : List Int), vs = [V.ref a] ∧ SqT K H a ((i :: is).map V.int) ∧ Q (.int (maxL i is)) H
theorem holds_inv {h : Heap} {v : Value} {n : Int} (r : PySem.W.Holds h v n) : ∃ t, v = .int n t := by
  obtain ⟨as, r⟩ := r
  cases r
  exact ⟨_, rfl⟩
theorem cr_minT (hc : X.calm = true) (hu : X.A.units + 1 < cLine) : CallR X (.builtin "min") (rMinT X.K) := by
  intro pins s σ H vs us Q I r h
  obtain ⟨a, i, is, rfl, hs, q⟩ := h
  obtain ⟨its, rv, hl, _⟩ := I.tuple hs
  rw [Vals.ref1 r]
  refine PySem.W.min_tuple_datum (x := i) (xs := is) (I.ok.hd hc) hl (PySem.W.HoldAll.of_ints rv.ints) (by show X.A.units + 1 + 0 < cLine; omega) fun j v h' tk hv hh hk => ?_
  obtain ⟨t, rfl⟩ := holds_inv hh
  refine ⟨.int _, H, I.kept hk, ⟨_, rfl⟩, ?_⟩
  rw [minOf_L]
  exact q
theorem cr_maxT (hc : X.calm = true) (hu : X.A.units + 1 < cLine) : CallR X (.builtin "max") (rMaxT X.K) := by
  intro pins s σ H vs us Q I r h
  obtain ⟨a, i, is, rfl, hs, q⟩ := h
  obtain ⟨its, rv, hl, _⟩ := I.tuple hs
  rw [Vals.ref1 r]
  refine PySem.W.max_tuple_datum (x := i) (xs := is) (I.ok.hd hc) hl (PySem.W.HoldAll.of_ints rv.ints) (by show X.A.units + 1 + 0 < cLine; omega) fun j v h' tk hv hh hk => ?_
  obtain ⟨t, rfl⟩ := holds_inv hh
  refine ⟨.int _, H, I.kept hk, ⟨_, rfl⟩, ?_⟩
  rw [maxOf_L]
  exact q
end
end J
/-! J2: data in the abstract heap; what an expression's evaluation means there -/
namespace J
open PySem L2

/-- where own functions and own exception classes stand; the field of an exception; the exception that is handled -/
structure Sit where
  K : PySem.W.Frag
  fa : Nat → Addr
  ca : Nat → Addr
  cb : Addr
  at_ : Nat → Str
  xq : Option (Addr × Nat × Addr)
  bad : List Addr

mutual
inductive RelD (Z : Sit) (H : Hp) (ι : List Addr) : D → V → Prop where
  | non : RelD Z H ι .non .non
  | bl {b} : RelD Z H ι (.bl b) (.bl b)
  | int {i} : RelD Z H ι (.int i) (.int i)
  | str {s} : RelD Z H ι (.str s) (.str s)
  | tup {a : Addr} {vs : List V} {ds : List D} (h : SqT Z.K H a vs) (r : RelDs Z H ι ds vs) : RelD Z H ι (.tup ds) (.ref a)
  | lst {a : Addr} {vs : List V} {ds : List D} (h : H a = some (.lst vs)) (n : a ∉ ι) (b : a ∉ Z.bad) (r : RelDs Z H ι ds vs) : RelD Z H ι (.lst ds) (.ref a)
  | flst {a : Addr} {vs : List V} {ds : List D} (h : H a = some (.lst vs)) (n : a ∉ ι) (b : a ∉ Z.bad) (r : RelDs Z H ι ds vs) : RelD Z H ι (.flst ds) (.ref a)
  | flstF {a : Addr} {vs : List V} {ds : List D} (h : (∃ o, H a = some (.frz o (.lst vs))) ∨ ∀ H, SqL Z.K H a vs) (r : RelDs Z H ι ds vs) : RelD Z H ι (.flst ds) (.ref a)
  | loc {a : Addr} {l : Nat} (h : ι[l]? = some a) : RelD Z H ι (.loc l) (.ref a)
  | fn {f : Nat} : RelD Z H ι (.fn f) (.ref (Z.fa f))
  | exc {a dd : Addr} {c : Nat} {d : D} {v : V} (q : Z.xq = some (a, c, dd)) (h : H dd = some (.xd [(Z.at_ c, v)])) (r : RelD Z H ι d v) : RelD Z H ι (.exc c d) (.ref a)
inductive RelDs (Z : Sit) (H : Hp) (ι : List Addr) : List D → List V → Prop where
  | nil : RelDs Z H ι [] []
  | cons {d : D} {v : V} {ds : List D} {vs : List V} (r : RelD Z H ι d v) (t : RelDs Z H ι ds vs) : RelDs Z H ι (d :: ds) (v :: vs)
end

/-- the heap has grown; only the places' own objects may have changed -/
structure Grow (H : Hp) (ι : List Addr) (H' : Hp) (ι' : List Addr) : Prop where
  keep : ∀ a o, H a = some o → (a ∉ ι ∨ ¬ Mut (some o)) → H' a = some o
  dom : ∀ a, H' a = none → H a = none
  pre : ∃ more, ι' = ι ++ more ∧ ∀ a ∈ more, H a = none
section
variable {Z : Sit} {H H' H1 H2 : Hp} {ι ι' ι1 ι2 : List Addr}
theorem Grow.refl : Grow H ι H ι := ⟨fun _ _ h _ => h, fun _ h => h, [], by simp, fun _ h => nomatch h⟩
theorem Grow.sub (g : Grow H ι H' ι') {a : Addr} {o : HO} (h : H a = some o) (n : a ∉ ι) : a ∉ ι' := by
  obtain ⟨more, rfl, hm⟩ := g.pre
  intro hh
  rcases List.mem_append.mp hh with q | q
  · exact n q
  · rw [hm a q] at h; cases h
theorem Grow.trans (g : Grow H ι H1 ι1) (k : Grow H1 ι1 H2 ι2) : Grow H ι H2 ι2 := by
  refine ⟨fun a o h c => k.keep a o (g.keep a o h c) ?_, fun a h => g.dom a (k.dom a h), ?_⟩
  · rcases c with c | c
    · exact .inl (g.sub h c)
    · exact .inr c
  · obtain ⟨m1, rfl, h1⟩ := g.pre
    obtain ⟨m2, rfl, h2⟩ := k.pre
    refine ⟨m1 ++ m2, by simp, fun a ha => ?_⟩
    rcases List.mem_append.mp ha with q | q
    · exact h1 a q
    · exact g.dom a (h2 a q)
/-- a new object -/
theorem Grow.new {p : Addr} {o : HO} (h : H p = none) : Grow H ι (upd H p o) ι :=
  ⟨fun a u e _ => by rw [upd_ne (ne_of_none e h)]; exact e, fun a e => by
    by_cases q : a = p
    · rw [q]; exact h
    · rw [upd_ne q] at e; exact e, [], by simp, fun _ h => nomatch h⟩
/-- a new place -/
theorem Grow.place {p : Addr} (h : H p = none) {o : HO} : Grow H ι (upd H p o) (ι ++ [p]) :=
  ⟨(Grow.new (ι := ι) h).keep, (Grow.new (ι := ι) h).dom, [p], rfl, fun a ha => by rw [List.mem_singleton.mp ha]; exact h⟩
/-- a place's object changes -/
theorem Grow.chg {p : Addr} {o : HO} (m : p ∈ ι) (hm : Mut (H p)) : Grow H ι (upd H p o) ι :=
  ⟨fun a u e c => by
    have q : a ≠ p := by
      rintro rfl
      rcases c with c | c
      · exact c m
      · rw [e] at hm; exact c hm
    rw [upd_ne q]; exact e, fun a e => by
    by_cases q : a = p
    · rw [q, upd_same] at e; cases e
    · rw [upd_ne q] at e; exact e, [], by simp, fun _ h => nomatch h⟩
theorem Rd.grow {a : Addr} {u : HO} (g : Grow H ι H' ι') (h : Rd H a u) (c : a ∉ ι ∨ ¬ Mut (some u)) : Rd H' a u := by
  rcases h with h | ⟨o, h⟩
  · exact .inl (g.keep a u h c)
  · exact .inr ⟨o, g.keep a _ h (.inr fun z => z)⟩
mutual
theorem RelD.mono (g : Grow H ι H' ι') : ∀ {d : D} {v : V}, RelD Z H ι d v → RelD Z H' ι' d v
  | _, _, .non => .non
  | _, _, .bl => .bl
  | _, _, .int => .int
  | _, _, .str => .str
  | _, _, .tup h r => .tup (by
      rcases h with h | h
      · exact .inl (Rd.grow g h (.inr fun z => z))
      · exact .inr h) (RelDs.mono g r)
  | _, _, .lst h n b r => .lst (g.keep _ _ h (.inl n)) (g.sub h n) b (RelDs.mono g r)
  | _, _, .flst h n b r => .flst (g.keep _ _ h (.inl n)) (g.sub h n) b (RelDs.mono g r)
  | _, _, .flstF h r => .flstF (by
      rcases h with ⟨o, h⟩ | h
      · exact .inl ⟨o, g.keep _ _ h (.inr fun z => z)⟩
      · exact .inr h) (RelDs.mono g r)
  | _, _, .loc h => .loc (by
      obtain ⟨more, rfl, _⟩ := g.pre
      rw [List.getElem?_append_left (List.getElem?_eq_some_iff.mp h).1]; exact h)
  | _, _, .fn => .fn
  | _, _, .exc q h r => .exc q (g.keep _ _ h (.inr fun z => z)) (RelD.mono g r)
theorem RelDs.mono (g : Grow H ι H' ι') : ∀ {ds : List D} {vs : List V}, RelDs Z H ι ds vs → RelDs Z H' ι' ds vs
  | _, _, .nil => .nil
  | _, _, .cons r t => .cons (RelD.mono g r) (RelDs.mono g t)
end

/-! ### stores, slots -/
inductive RelK (Z : Sit) (H : Hp) (ι : List Addr) : List (D × D) → List (Key × V) → Prop where
  | nil : RelK Z H ι [] []
  | int {i : Int} {d : D} {v : V} {r : List (D × D)} {s : List (Key × V)} (h : RelD Z H ι d v) (t : RelK Z H ι r s) : RelK Z H ι ((.int i, d) :: r) ((.inl i, v) :: s)
  | str {i : Str} {d : D} {v : V} {r : List (D × D)} {s : List (Key × V)} (h : RelD Z H ι d v) (t : RelK Z H ι r s) : RelK Z H ι ((.str i, d) :: r) ((.inr i, v) :: s)
theorem RelK.mono (g : Grow H ι H' ι') {r : List (D × D)} {s : List (Key × V)} (h : RelK Z H ι r s) : RelK Z H' ι' r s := by
  induction h with
  | nil => exact .nil
  | int h _ ih => exact .int (h.mono g) ih
  | str h _ ih => exact .str (h.mono g) ih
inductive RelC (Z : Sit) (H : Hp) (ι : List Addr) : Cell → HO → Prop where
  | lst {ds : List D} {vs : List V} (r : RelDs Z H ι ds vs) : RelC Z H ι (.lst ds) (.lst vs)
  | dct {kvs : List (D × D)} {kws : List (Key × V)} (r : RelK Z H ι kvs kws) : RelC Z H ι (.dct kvs) (.dK kws)
theorem RelC.mut {c : Cell} {o : HO} (h : RelC Z H ι c o) : Mut (some o) := by cases h <;> trivial
theorem RelC.mono (g : Grow H ι H' ι') {c : Cell} {o : HO} (h : RelC Z H ι c o) : RelC Z H' ι' c o := by
  cases h with
  | lst r => exact .lst (RelDs.mono g r)
  | dct r => exact .dct (r.mono g)
structure RelS (Z : Sit) (H : Hp) (ι : List Addr) (S : Store) : Prop where
  len : ι.length = S.length
  nd : ι.Nodup
  bad : ∀ a ∈ Z.bad, H a ≠ none
  at_ : ∀ (l : Nat) (c : Cell) (a : Addr), S[l]? = some c → ι[l]? = some a → ∃ o, H a = some o ∧ RelC Z H ι c o
structure RelE (Z : Sit) (H : Hp) (ι : List Addr) (env : Env) (σ : L2.St) : Prop where
  len : env.length = σ.length
  at_ : ∀ (i : Nat) (d : D), env[i]? = some (some d) → ∃ v, σ[i]? = some (some v) ∧ RelD Z H ι d v
theorem RelE.mono (g : Grow H ι H' ι') {env : Env} {σ : L2.St} (h : RelE Z H ι env σ) : RelE Z H' ι' env σ :=
  ⟨h.len, fun i d e => let ⟨v, e1, r⟩ := h.at_ i d e; ⟨v, e1, r.mono g⟩⟩
/-- the store stays while only new objects come -/
theorem RelS.mono {S : Store} (g : Grow H ι H' ι) (k : ∀ a ∈ ι, H' a = H a) (h : RelS Z H ι S) : RelS Z H' ι S :=
  ⟨h.len, h.nd, fun a m z => h.bad a m (g.dom a z), fun l c a e1 e2 => by
    obtain ⟨o, e, r⟩ := h.at_ l c a e1 e2
    exact ⟨o, by rw [k a (List.mem_of_getElem? e2)]; exact e, r.mono g⟩⟩
theorem RelS.there {S : Store} (h : RelS Z H ι S) {a : Addr} (m : a ∈ ι) : ∃ o, H a = some o ∧ Mut (some o) := by
  obtain ⟨l, e⟩ := List.getElem?_of_mem m
  have hl := (List.getElem?_eq_some_iff.mp e).1
  rw [h.len] at hl
  obtain ⟨o, q, r⟩ := h.at_ l S[l] a (List.getElem?_eq_getElem hl) e
  exact ⟨o, q, r.mut⟩
theorem RelS.new {S : Store} {p : Addr} {o : HO} (hp : H p = none) (h : RelS Z H ι S) : RelS Z (upd H p o) ι S :=
  h.mono (Grow.new hp) fun a m => by
    obtain ⟨u, q, _⟩ := h.there m
    rw [upd_ne (ne_of_none q hp)]
/-- a new place -/
theorem RelS.place {S : Store} {p : Addr} {c : Cell} {o : HO} (hp : H p = none) (h : RelS Z H ι S) (r : RelC Z H ι c o) : RelS Z (upd H p o) (ι ++ [p]) (S ++ [c]) := by
  have np : p ∉ ι := fun m => by
    obtain ⟨u, q, _⟩ := h.there m
    rw [hp] at q; cases q
  have g : Grow H ι (upd H p o) (ι ++ [p]) := Grow.place hp
  refine ⟨by simp [h.len], by
    rw [List.nodup_append]
    exact ⟨h.nd, by simp, fun a ha b hb => by rw [List.mem_singleton.mp hb]; rintro rfl; exact np ha⟩, fun a m z => h.bad a m (g.dom a z), fun l c' a e1 e2 => ?_⟩
  by_cases hl : l < S.length
  · rw [List.getElem?_append_left hl] at e1
    rw [List.getElem?_append_left (by rw [h.len]; exact hl)] at e2
    obtain ⟨u, q, rr⟩ := h.at_ l c' a e1 e2
    exact ⟨u, by rw [upd_ne (ne_of_none q hp)]; exact q, rr.mono g⟩
  · rw [List.getElem?_append_right (by omega)] at e1
    rw [List.getElem?_append_right (by rw [h.len]; omega)] at e2
    have z : l - S.length = 0 := by
      cases q : l - S.length with
      | zero => rfl
      | succ n => rw [q] at e1; simp at e1
    rw [z] at e1
    rw [h.len, z] at e2
    simp at e1 e2
    subst e1 e2
    exact ⟨o, upd_same, r.mono g⟩
/-- a place changes -/
theorem RelS.chg {S : Store} {l : Nat} {p : Addr} {c : Cell} {o : HO} (e : ι[l]? = some p) (h : RelS Z H ι S) (r : RelC Z H ι c o) : RelS Z (upd H p o) ι (S.set l c) := by
  have mp := List.mem_of_getElem? e
  obtain ⟨u0, q0, m0⟩ := h.there mp
  have g : Grow H ι (upd H p o) ι := Grow.chg mp (by rw [q0]; exact m0)
  refine ⟨by simp [h.len], h.nd, fun a m z => h.bad a m (g.dom a z), fun k c' a e1 e2 => ?_⟩
  by_cases hk : k = l
  · subst hk
    rw [e] at e2; cases e2
    have hl : k < S.length := by rw [← h.len]; exact (List.getElem?_eq_some_iff.mp e).1
    rw [List.getElem?_set_self hl] at e1; cases e1
    exact ⟨o, upd_same, r.mono g⟩
  · rw [List.getElem?_set_ne (Ne.symm hk)] at e1
    obtain ⟨u, q, rr⟩ := h.at_ k c' a e1 e2
    have na : a ≠ p := by
      rintro rfl
      exact hk ((List.getElem?_inj (List.getElem?_eq_some_iff.mp e2).1 h.nd).mp (e2.trans e.symm))
    exact ⟨u, by rw [upd_ne na]; exact q, rr.mono g⟩
end

/-! ### what an evaluation's end means -/
/-- r the end of an evaluation that began in H -/
def Pst (Z : Sit) (W : WX) (σ : L2.St) (H : Hp) (ι : List Addr) (Q : D → Store → V → Hp → List Addr → Prop) : Option (R D) → Prop
  | none => False
  | some (.ok d S) => ∀ v H' ι', Grow H ι H' ι' → RelS Z H' ι' S → RelD Z H' ι' d v → Q d S v H' ι'
  | some (.exn c d S) => ∀ v H' ι' dd, Grow H ι H' ι' → RelS Z H' ι' S → H' dd = some (.xd [(Z.at_ c, v)]) → RelD Z H' ι' d v → W (.ref (Z.ca c)) (some dd) σ H'
section
variable {Z : Sit} {W : WX} {σ : L2.St} {H H' : Hp} {ι ι' : List Addr} {Q Q' : D → Store → V → Hp → List Addr → Prop}
theorem Pst.mono (g : Grow H ι H' ι') (hq : ∀ d S v H2 ι2, Grow H' ι' H2 ι2 → Q d S v H2 ι2 → Q' d S v H2 ι2) : ∀ {r : Option (R D)}, Pst Z W σ H ι Q r → Pst Z W σ H' ι' Q' r
  | none, h => h
  | some (.ok _ _), h => fun v H2 ι2 k s r => hq _ _ _ _ _ k (h v H2 ι2 (g.trans k) s r)
  | some (.exn _ _ _), h => fun v H2 ι2 dd k s e r => h v H2 ι2 dd (g.trans k) s e r
theorem Pst.imp (hq : ∀ d S v H2 ι2, Grow H ι H2 ι2 → RelS Z H2 ι2 S → RelD Z H2 ι2 d v → Q d S v H2 ι2 → Q' d S v H2 ι2) : ∀ {r : Option (R D)}, Pst Z W σ H ι Q r → Pst Z W σ H ι Q' r
  | none, h => h
  | some (.ok _ _), h => fun v H2 ι2 k s r => hq _ _ _ _ _ k s r (h v H2 ι2 k s r)
  | some (.exn _ _ _), h => fun v H2 ι2 dd k s e r => h v H2 ι2 dd k s e r
/-- first m, then f -/
theorem Pst.split {m : M D} {f : D → M D} {S : Store} (h : Pst Z W σ H ι Q ((m.bind f) S)) :
    Pst Z W σ H ι (fun d S1 v H1 ι1 => Grow H ι H1 ι1 ∧ RelS Z H1 ι1 S1 ∧ RelD Z H1 ι1 d v ∧ Pst Z W σ H1 ι1 Q (f d S1)) (m S) := by
  unfold M.bind at h
  cases e : m S with
  | none => rw [e] at h; exact h
  | some r =>
    rw [e] at h
    cases r with
    | exn c d S1 => exact h
    | ok d S1 => exact fun v H1 ι1 g s r => ⟨g, s, r, h.mono g fun _ _ _ _ _ _ q => q⟩
end
/-- the evaluation of m from a state that env and S tell -/
def tE (Z : Sit) (W : WX) (m : Env → M D) : TE := fun σ H Q => ∃ env S ι, RelE Z H ι env σ ∧ RelS Z H ι S ∧ Pst Z W σ H ι (fun _ _ v H' _ => Q v H') (m env S)
end J
/-! J3: the operations on values -/
namespace J
open PySem L2
section
variable {Z : Sit} {H H' : Hp} {ι ι' : List Addr} {S : Store}

/-- the heap has grown, the places' objects stand as they stood -/
structure GrowK (H : Hp) (ι : List Addr) (H' : Hp) : Prop where
  grow : Grow H ι H' ι
  same : ∀ a ∈ ι, H' a = H a
theorem GrowK.refl : GrowK H ι H := ⟨.refl, fun _ _ => rfl⟩
theorem GrowK.new {p : Addr} {o : HO} (s : RelS Z H ι S) (h : H p = none) : GrowK H ι (upd H p o) :=
  ⟨.new h, fun a m => by
    obtain ⟨u, q, _⟩ := s.there m
    rw [upd_ne (ne_of_none q h)]⟩
theorem RelS.newB (s : RelS Z H ι S) {p : Addr} (h : H p = none) : p ∉ Z.bad := fun m => s.bad p m h
theorem RelS.keep (s : RelS Z H ι S) (g : GrowK H ι H') : RelS Z H' ι S := s.mono g.grow g.same

theorem RelDs.length {ds : List D} {vs : List V} (h : RelDs Z H ι ds vs) : ds.length = vs.length := by
  have : ∀ {ds : List D} {vs : List V}, RelDs Z H ι ds vs → ds.length = vs.length := by
    intro ds
    induction ds with
    | nil => intro vs h; cases h; rfl
    | cons d ds ih => intro vs h; cases h with | cons r t => simp [ih t]
  exact this h
theorem RelDs.get : ∀ {ds : List D} {vs : List V} {i : Nat} {d : D}, RelDs Z H ι ds vs → ds[i]? = some d → ∃ v, vs[i]? = some v ∧ RelD Z H ι d v
  | _, _, _, _, .nil, e => by simp at e
  | _, _, 0, _, .cons r _, e => by simp at e; subst e; exact ⟨_, rfl, r⟩
  | _, _, i + 1, d, .cons _ t, e => by
    obtain ⟨v, h1, h2⟩ := RelDs.get (i := i) (d := d) t (by simpa using e)
    exact ⟨v, by simpa using h1, h2⟩
theorem RelDs.append : ∀ {xs ys : List D} {us ws : List V}, RelDs Z H ι xs us → RelDs Z H ι ys ws → RelDs Z H ι (xs ++ ys) (us ++ ws)
  | _, _, _, _, .nil, s => s
  | _, _, _, _, .cons r t, s => .cons r (RelDs.append t s)
theorem RelDs.take : ∀ {xs : List D} {us : List V} (n : Nat), RelDs Z H ι xs us → RelDs Z H ι (xs.take n) (us.take n)
  | _, _, 0, _ => .nil
  | _, _, _ + 1, .nil => .nil
  | _, _, n + 1, .cons r t => .cons r (RelDs.take n t)
theorem RelDs.drop : ∀ {xs : List D} {us : List V} (n : Nat), RelDs Z H ι xs us → RelDs Z H ι (xs.drop n) (us.drop n)
  | _, _, 0, r => r
  | _, _, _ + 1, .nil => .nil
  | _, _, n + 1, .cons _ t => RelDs.drop n t
theorem RelDs.set {d : D} {v : V} (r : RelD Z H ι d v) : ∀ {xs : List D} {us : List V} (i : Nat), RelDs Z H ι xs us → RelDs Z H ι (xs.set i d) (us.set i v)
  | _, _, _, .nil => .nil
  | _, _, 0, .cons _ t => .cons r t
  | _, _, i + 1, .cons q t => .cons q (RelDs.set r i t)
theorem RelDs.one {d : D} {v : V} (r : RelD Z H ι d v) : RelDs Z H ι [d] [v] := .cons r .nil
theorem RelDs.reverse {xs : List D} {us : List V} (h : RelDs Z H ι xs us) : RelDs Z H ι xs.reverse us.reverse := by
  have : ∀ {xs : List D} {us : List V}, RelDs Z H ι xs us → RelDs Z H ι xs.reverse us.reverse := by
    intro xs
    induction xs with
    | nil => intro us h; cases h; exact .nil
    | cons d xs ih => intro us h; cases h with | cons r t => simp only [List.reverse_cons]; exact (ih t).append (.one r)
  exact this h
theorem RelDs.rep {xs : List D} {us : List V} (h : RelDs Z H ι xs us) : ∀ k : Nat, RelDs Z H ι (List.replicate k xs).flatten (List.replicate k us).flatten
  | 0 => .nil
  | k + 1 => by simp only [List.replicate_succ, List.flatten_cons]; exact h.append (h.rep k)

/-- d read of v: a list wherever it stands -/
def Rdd (Z : Sit) (H : Hp) (ι : List Addr) : D → V → Prop
  | .lst ds, v => ∃ a vs, v = .ref a ∧ H a = some (.lst vs) ∧ RelDs Z H ι ds vs
  | d, v => RelD Z H ι d v
theorem res_ok (s : RelS Z H ι S) {d d' : D} {v : V} (r : RelD Z H ι d v) (e : res S d = some d') : Rdd Z H ι d' v := by
  cases r with
  | loc h =>
    rename_i a l
    cases hl : S[l]? with
    | none => simp [res, hl] at e
    | some c =>
      cases c with
      | lst ds =>
        simp only [res, hl, Option.some.injEq] at e
        subst e
        obtain ⟨o, q, rc⟩ := s.at_ _ _ _ hl h
        cases rc with
        | lst rr => exact ⟨a, _, rfl, q, rr⟩
      | dct kvs => simp [res, hl] at e
      | obj c fs => simp [res, hl] at e
  | lst h n b rr => cases e; exact ⟨_, _, rfl, h, rr⟩
  | non => cases e; exact .non
  | bl => cases e; exact .bl
  | int => cases e; exact .int
  | str => cases e; exact .str
  | tup h rr => cases e; exact .tup h rr
  | flst h n b rr => cases e; exact .flst h n b rr
  | flstF h rr => cases e; exact .flstF h rr
  | fn => cases e; exact .fn
  | exc q h rr => cases e; exact .exc q h rr
/-- the items of a list or tuple -/
inductive Seq (Z : Sit) (H : Hp) : V → List V → Prop where
  | l {a vs} (h : SqL Z.K H a vs) : Seq Z H (.ref a) vs
  | t {a vs} (h : SqT Z.K H a vs) : Seq Z H (.ref a) vs
theorem items_ok (s : RelS Z H ι S) {d : D} {v : V} {ds : List D} (r : RelD Z H ι d v) (e : itemsS d S = some ds) : ∃ a vs, v = .ref a ∧ RelDs Z H ι ds vs ∧
    ((SqL Z.K H a vs ∧ isList d S = true) ∨ (SqT Z.K H a vs ∧ isList d S = false)) := by
  cases r with
  | loc h =>
    rename_i a l
    cases hl : S[l]? with
    | none => simp [itemsS, hl] at e
    | some c =>
      cases c with
      | lst ds' =>
        simp only [itemsS, hl, Option.some.injEq] at e
        subst e
        obtain ⟨o, q, rc⟩ := s.at_ _ _ _ hl h
        cases rc with
        | lst rr => exact ⟨a, _, rfl, rr, .inl ⟨.inl (.inl q), by simp [isList, hl]⟩⟩
      | dct kvs => simp [itemsS, hl] at e
      | obj c fs => simp [itemsS, hl] at e
  | lst h n b rr => cases e; exact ⟨_, _, rfl, rr, .inl ⟨.inl (.inl h), rfl⟩⟩
  | tup h rr => cases e; exact ⟨_, _, rfl, rr, .inr ⟨h, rfl⟩⟩
  | flst h n b rr => cases e; exact ⟨_, _, rfl, rr, .inl ⟨.inl (.inl h), rfl⟩⟩
  | flstF h rr =>
    cases e
    refine ⟨_, _, rfl, rr, .inl ⟨?_, rfl⟩⟩
    rcases h with ⟨o, h⟩ | h
    · exact .inl (.inr ⟨o, h⟩)
    · exact h _
  | non => cases e
  | bl => cases e
  | int => cases e
  | str => cases e
  | fn => cases e
  | exc q h rr => cases e
end

/-! ### two-place operations -/
def rOp (Z : Sit) (f : D → D → Store → Option D) : R2 := fun x y H Q => ∃ dx dy S ι d, RelS Z H ι S ∧ RelD Z H ι dx x ∧ RelD Z H ι dy y ∧ f dx dy S = some d ∧ ∀ v H', GrowK H ι H' → RelD Z H' ι d v → Q v H'
def toOp : BO → Operator
  | .add => .Add | .sub => .Sub | .mul => .Mult | .fdiv => .FloorDiv | .mod => .Mod | .pow => .Pow | .shl => .LShift | .shr => .RShift | .band => .BitAnd | .bor => .BitOr
section
variable {Z : Sit} {X : Cx}
theorem flat_len {α : Type} (k : Nat) (xs : List α) : (List.replicate k xs).flatten.length = k * xs.length := by simp
theorem op_bin (hK : X.K = Z.K) (op : BO) : OpR X (binaryOp (toOp op)) (rOp Z (binS op)) := by
  intro pins s σ H x y v u Q I rx ry h
  obtain ⟨dx, dy, S, ι, d, hS, r1, r2, e, q⟩ := h
  unfold binS at e
  split at e
  · rename_i x' y' e1 e2
    have p1 := res_ok hS r1 e1
    have p2 := res_ok hS r2 e2
    have fin : ∀ {z : D} {w : V}, some z = some d → RelD Z H ι z w → Q w H := fun e r => by cases e; exact q _ _ .refl r
    have finN : ∀ {z : D} {p : Addr} {o : HO}, some z = some d → H p = none → RelD Z (upd H p o) ι z (.ref p) → Q (.ref p) (upd H p o) := fun e hp r => by cases e; exact q _ _ (.new hS hp) r
    have new : ∀ {p : Addr}, H p = none → p ∉ ι := fun hp m => by
      obtain ⟨o, q, _⟩ := hS.there m
      rw [hp] at q; cases q
    unfold binD at e
    split at e
    · -- int + int
      cases p1; cases p2
      exact op_add pins s σ H _ _ v u Q I rx ry ⟨_, _, rfl, rfl, fin e .int⟩
    · cases p1; cases p2
      split at e
      · rename_i hl
        exact op_add_str pins s σ H _ _ v u Q I rx ry ⟨_, _, rfl, rfl, hl, fin e .str⟩
      · cases e
    · split at e
      · rename_i hl
        cases p1 with
        | @tup a us _ h1 t1 =>
          cases p2 with
          | @tup b ws _ h2 t2 =>
            refine op_catA pins s σ H _ _ v u Q I rx ry ⟨_, _, _, _, rfl, rfl, by rw [hK]; exact h1, by rw [hK]; exact h2, by rw [← t1.length, ← t2.length]; exact hl, fun z => ?_, fun z z2 => ?_, fun z z2 p hp => ?_⟩
            · subst z
              cases t1
              exact fin e (.tup h2 t2)
            · subst z2
              cases t2
              rw [List.append_nil] at e
              exact fin e (.tup h1 t1)
            · have g := Grow.new (ι := ι) (o := .tup (us ++ ws)) hp
              exact finN e hp (.tup (.inl (.inl upd_same)) (RelDs.mono g (t1.append t2)))
      · cases e
    · split at e
      · rename_i hl
        obtain ⟨a1, vs1, rfl, h1, t1⟩ := p1
        obtain ⟨a2, vs2, rfl, h2, t2⟩ := p2
        refine op_cat pins s σ H _ _ v u Q I rx ry ⟨_, _, _, _, rfl, rfl, h1, h2, by rw [← t1.length, ← t2.length]; exact hl, fun p hp => ?_⟩
        have g := Grow.new (ι := ι) (o := .lst (vs1 ++ vs2)) hp
        exact finN e hp (.lst upd_same (new hp) (hS.newB hp) (RelDs.mono g (t1.append t2)))
      · cases e
    · cases p1; cases p2
      exact op_sub pins s σ H _ _ v u Q I rx ry ⟨_, _, rfl, rfl, fin e .int⟩
    · cases p1; cases p2
      split at e
      · rename_i hl
        have : OpR X (binaryOp .Mult) (rI IntMulOk fun i j => .int (i * j)) := opI fun _ _ _ _ _ _ _ hc q => PyProof.Rows.mul_int q hc
        exact this pins s σ H _ _ v u Q I rx ry ⟨_, _, rfl, rfl, hl, fin e .int⟩
      · cases e
    · split at e
      · rename_i hl
        cases p2
        rename_i k
        obtain ⟨l1, l2, l3⟩ := hl
        cases p1 with
        | @tup a us _ h1 t1 =>
          have tl := t1.length
          refine op_mulT pins s σ H _ _ v u Q I rx ry ⟨_, _, _, rfl, rfl, by rw [hK]; exact h1, l2, l3, by omega, fun z => ?_, fun z p hp => ?_⟩
          · have e2 : ∀ xs : List D, xs = [] ∨ k = 1 → (List.replicate k.toNat xs).flatten = xs := fun xs h => by
              rcases h with h | h
              · subst h; simp
              · subst h; simp
            rw [e2] at e
            · exact fin e (.tup h1 t1)
            · rcases z with z | z
              · subst z; cases t1; exact .inl rfl
              · exact .inr z
          · have g := Grow.new (ι := ι) (o := .tup (List.replicate k.toNat us).flatten) hp
            exact finN e hp (.tup (.inl (.inl upd_same)) (RelDs.mono g (t1.rep _)))
      · cases e
    · split at e
      · rename_i hl
        cases p2
        obtain ⟨a1, vs1, rfl, h1, t1⟩ := p1
        rename_i k
        obtain ⟨l1, l2, l3⟩ := hl
        refine op_rep pins s σ H _ _ v u Q I rx ry ⟨_, _, _, rfl, rfl, h1, by omega, by omega, ?_, fun p hp => ?_⟩
        · rw [sizeLine_eq, ← t1.length]
          exact Nat.le_trans (Nat.mul_le_mul l1 (show k.toNat ≤ 8000 by omega)) (by decide)
        · have g := Grow.new (ι := ι) (o := .lst (List.replicate k.toNat vs1).flatten) hp
          exact finN e hp (.lst upd_same (new hp) (hS.newB hp) (RelDs.mono g (t1.rep _)))
      · cases e
    · cases p1; cases p2
      split at e
      · rename_i hl
        have : OpR X (binaryOp .FloorDiv) (rI divOk fun i j => .int (i.fdiv j)) := opI fun _ _ _ _ _ _ _ hc q => PyProof.Rows.floordiv_int hc.1 q (.inl hc.2)
        exact this pins s σ H _ _ v u Q I rx ry ⟨_, _, rfl, rfl, hl, fin e .int⟩
      · cases e
    · cases p1; cases p2
      split at e
      · rename_i hl
        exact op_modN pins s σ H _ _ v u Q I rx ry ⟨_, _, rfl, rfl, hl, fin e .int⟩
      · cases e
    · cases p1; cases p2
      split at e
      · rename_i hl
        exact op_pow pins s σ H _ _ v u Q I rx ry ⟨_, _, rfl, rfl, hl, fin e .int⟩
      · cases e
    · cases p1; cases p2
      split at e
      · rename_i hl
        exact op_shl pins s σ H _ _ v u Q I rx ry ⟨_, _, rfl, rfl, hl, fin e .int⟩
      · cases e
    · cases p1; cases p2
      split at e
      · rename_i hl
        exact op_shr pins s σ H _ _ v u Q I rx ry ⟨_, _, rfl, rfl, hl, fin e .int⟩
      · cases e
    · cases p1; cases p2
      exact op_and pins s σ H _ _ v u Q I rx ry ⟨_, _, rfl, rfl, fin e .int⟩
    · cases p1; cases p2
      exact op_or pins s σ H _ _ v u Q I rx ry ⟨_, _, rfl, rfl, fin e .int⟩
    · cases e
  · cases e
end

/-! ### comparisons -/
def toCmp : CO → CmpOp
  | .eq => .Eq | .ne => .NotEq | .lt => .Lt | .le => .LtE | .gt => .Gt | .ge => .GtE | .isin => .In | .nin => .NotIn
section
variable {Z : Sit} {X : Cx} {H : Hp} {ι : List Addr} {S : Store}
mutual
theorem dp_of : ∀ (d : D) {p : PyData} {v : V}, RelD Z H ι d v → toPy d = some p → Dp Z.K H v p
  | .non, _, _, .non, e => by cases e; exact .non
  | .bl _, _, _, .bl, e => by cases e; exact .bl _
  | .int _, _, _, .int, e => by cases e; exact .int _
  | .str _, _, _, .str, e => by cases e; exact .str _
  | .tup ds, p, _, .tup h r, e => by
    simp only [toPy] at e
    cases q : toPys ds with
    | none => simp [q] at e
    | some ps => simp only [q, Option.some.injEq] at e; subst e; exact .tup h (dps_of ds r q)
  | .lst ds, p, _, .lst h _ _ r, e => by
    simp only [toPy] at e
    cases q : toPys ds with
    | none => simp [q] at e
    | some ps => simp only [q, Option.some.injEq] at e; subst e; exact .lst (.inl (.inl h)) (dps_of ds r q)
  | .flst ds, p, _, .flst h _ _ r, e => by
    simp only [toPy] at e
    cases q : toPys ds with
    | none => simp [q] at e
    | some ps => simp only [q, Option.some.injEq] at e; subst e; exact .lst (.inl (.inl h)) (dps_of ds r q)
  | .flst ds, p, _, .flstF h r, e => by
    simp only [toPy] at e
    cases q : toPys ds with
    | none => simp [q] at e
    | some ps =>
      simp only [q, Option.some.injEq] at e
      subst e
      refine .lst ?_ (dps_of ds r q)
      rcases h with ⟨o, h⟩ | h
      · exact .inl (.inr ⟨o, h⟩)
      · exact h _
  | .loc _, _, _, _, e => by cases e
  | .fn _, _, _, _, e => by cases e
  | .exc _ _, _, _, _, e => by cases e
theorem dps_of : ∀ (ds : List D) {ps : List PyData} {vs : List V}, RelDs Z H ι ds vs → toPys ds = some ps → DpAll Z.K H vs ps
  | [], _, _, .nil, e => by cases e; exact .nil
  | d :: ds, ps, _, .cons r t, e => by
    simp only [toPys] at e
    cases q : toPy d with
    | none => simp [q] at e
    | some p =>
      cases q2 : toPys ds with
      | none => simp [q, q2] at e
      | some ps' => simp only [q, q2, Option.some.injEq] at e; subst e; exact .cons (dp_of d r q) (dps_of ds t q2)
end
/-- the same of a thing read, a list wherever it stands -/
theorem dp_rdd {d : D} {p : PyData} {v : V} (r : Rdd Z H ι d v) (e : toPy d = some p) : Dp Z.K H v p := by
  cases d with
  | lst ds =>
    obtain ⟨a, vs, rfl, h, rr⟩ := r
    simp only [toPy] at e
    cases q : toPys ds with
    | none => simp [q] at e
    | some ps => simp only [q, Option.some.injEq] at e; subst e; exact .lst (.inl (.inl h)) (dps_of ds rr q)
  | non => exact dp_of _ r e
  | bl _ => exact dp_of _ r e
  | int _ => exact dp_of _ r e
  | str _ => exact dp_of _ r e
  | tup _ => exact dp_of _ r e
  | flst _ => exact dp_of _ r e
  | loc _ => exact dp_of _ r e
  | fn _ => exact dp_of _ r e
  | exc _ _ => exact dp_of _ r e
theorem eqD_inv {d e : D} {b : Bool} (h : eqD d e = some b) : ∃ p q, toPy d = some p ∧ toPy e = some q ∧ SeqAt.shaped p = true ∧ SeqAt.shaped q = true ∧ b = PyData.eqv p q := by
  unfold eqD at h
  split at h
  · rename_i p q e1 e2
    split at h
    · rename_i c
      cases h
      exact ⟨p, q, e1, e2, c.1, c.2, rfl⟩
    · cases h
  · cases h
theorem inD_inv {x : D} {ds : List D} {b : Bool} (h : inD x ds = some b) : ∃ p qs, toPy x = some p ∧ toPys ds = some qs ∧ SeqAt.shaped p = true ∧ SeqAt.shaped (.list qs) = true ∧ b = qs.any fun q => PyData.eqv q p := by
  unfold inD at h
  split at h
  · rename_i p q e1 e2
    split at h
    · rename_i c
      cases h
      exact ⟨p, q, e1, e2, c.1, c.2, rfl⟩
    · cases h
  · cases h
theorem shaped_tup {qs : List PyData} : SeqAt.shaped (.tuple qs) = SeqAt.shaped (.list qs) := rfl
theorem in_room {A : Around} {d : PyData} {ds : List PyData} (sd : SeqAt.shaped d = true) (hu : A.units + 65 < cLine) : A.units + 1 + min (PyData.depthAll ds) d.depth < cLine := by
  have h1 := SeqAt.depth_of_shaped sd
  have h2 : min (PyData.depthAll ds) d.depth ≤ d.depth := Nat.min_le_right _ _
  omega
/-- x in a tuple of data -/
theorem op_inT (hu : X.A.units + 65 < cLine) : OpR X (compareOp .In) (fun x y H Q => ∃ d ds, Dp X.K H x d ∧ Dp X.K H y (.tuple ds) ∧ SeqAt.shaped d = true ∧ SeqAt.shaped (.tuple ds) = true ∧ Q (.bl (ds.any fun z => PyData.eqv z d)) H) := by
  intro pins s σ H x y v u Q I rx ry h
  obtain ⟨d, ds, hd, he, sd, se, q⟩ := h
  obtain ⟨as, r1⟩ := Dp.reads I d x v hd rx
  obtain ⟨bs, r2⟩ := Dp.reads I (.tuple ds) y u he ry
  exact SeqAt.in_tuple_reads r2 r1 (SeqAt.canLay_of_shaped se) (SeqAt.canLay_of_shaped sd) (in_room sd hu) ⟨.bl _, H, I, rfl, q⟩
theorem op_ninT (hu : X.A.units + 65 < cLine) : OpR X (compareOp .NotIn) (fun x y H Q => ∃ d ds, Dp X.K H x d ∧ Dp X.K H y (.tuple ds) ∧ SeqAt.shaped d = true ∧ SeqAt.shaped (.tuple ds) = true ∧ Q (.bl (!ds.any fun z => PyData.eqv z d)) H) := by
  intro pins s σ H x y v u Q I rx ry h
  obtain ⟨d, ds, hd, he, sd, se, q⟩ := h
  obtain ⟨as, r1⟩ := Dp.reads I d x v hd rx
  obtain ⟨bs, r2⟩ := Dp.reads I (.tuple ds) y u he ry
  exact SeqAt.notIn_tuple_reads r2 r1 (SeqAt.canLay_of_shaped se) (SeqAt.canLay_of_shaped sd) (in_room sd hu) ⟨.bl _, H, I, rfl, q⟩
/-! dicts -/
theorem key_eq {k k' : D} {b : Bool} (h : eqD k' k = some b) : (∀ i j, k' = .int i → k = .int j → b = (i == j)) ∧ (∀ i j, k' = .str i → k = .str j → b = (i == j)) ∧
    (∀ i j, k' = .int i → k = .str j → b = false) ∧ (∀ i j, k' = .str i → k = .int j → b = false) := by
  obtain ⟨p, q, e1, e2, _, _, rfl⟩ := eqD_inv h
  refine ⟨?_, ?_, ?_, ?_⟩ <;> (intro i j z1 z2; subst z1 z2; cases e1; cases e2; simp [PyData.eqv])
theorem valV_nil (k : Key) : valV ([] : List (Key × V)) k = none := rfl
theorem dget_ok {kvs : List (D × D)} {kws : List (Key × V)} (r : RelK Z H ι kvs kws) : ∀ {k : D} {o : Option D}, dget k kvs = some o →
    (∀ i, k = .int i → match o with | none => valV kws (.inl i) = none | some d => ∃ v, valV kws (.inl i) = some v ∧ RelD Z H ι d v) ∧
    (∀ i, k = .str i → match o with | none => valV kws (.inr i) = none | some d => ∃ v, valV kws (.inr i) = some v ∧ RelD Z H ι d v) := by
  induction r with
  | nil => intro k o e; cases e; exact ⟨fun _ _ => rfl, fun _ _ => rfl⟩
  | @int i d v r s h t ih =>
    intro k o e
    simp only [dget] at e
    cases q : eqD (.int i) k with
    | none => simp [q] at e
    | some b =>
      obtain ⟨h1, h2, h3, h4⟩ := key_eq q
      cases b with
      | true =>
        simp only [q, Option.some.injEq] at e
        subst e
        refine ⟨fun j z => ?_, fun j z => ?_⟩
        · have := h1 i j rfl z
          have e : i = j := by simpa using this.symm
          subst e
          exact ⟨v, by simp [valV], h⟩
        · have := h3 i j rfl z
          cases this
      | false =>
        simp only [q] at e
        obtain ⟨i1, i2⟩ := ih e
        refine ⟨fun j z => ?_, fun j z => ?_⟩
        · have := h1 i j rfl z
          have ne : ¬ i = j := by simpa using this.symm
          have : valV ((.inl i, v) :: s) (.inl j) = valV s (.inl j) := by simp [valV, ne]
          rw [this]
          exact i1 j z
        · have : valV ((.inl i, v) :: s) (.inr j) = valV s (.inr j) := by simp [valV]
          rw [this]
          exact i2 j z
  | @str i d v r s h t ih =>
    intro k o e
    simp only [dget] at e
    cases q : eqD (.str i) k with
    | none => simp [q] at e
    | some b =>
      obtain ⟨h1, h2, h3, h4⟩ := key_eq q
      cases b with
      | true =>
        simp only [q, Option.some.injEq] at e
        subst e
        refine ⟨fun j z => ?_, fun j z => ?_⟩
        · have := h4 i j rfl z
          cases this
        · have := h2 i j rfl z
          have e : i = j := by simpa using this.symm
          subst e
          exact ⟨v, by simp [valV], h⟩
      | false =>
        simp only [q] at e
        obtain ⟨i1, i2⟩ := ih e
        refine ⟨fun j z => ?_, fun j z => ?_⟩
        · have : valV ((.inr i, v) :: s) (.inl j) = valV s (.inl j) := by simp [valV]
          rw [this]
          exact i1 j z
        · have := h2 i j rfl z
          have ne : ¬ i = j := by simpa using this.symm
          have : valV ((.inr i, v) :: s) (.inr j) = valV s (.inr j) := by simp [valV, ne]
          rw [this]
          exact i2 j z
theorem not_inv {o : Option Bool} {b : Bool} (h : o.map (!·) = some b) : ∃ b', o = some b' ∧ b = !b' := by
  cases o with
  | none => cases h
  | some b' => cases h; exact ⟨b', rfl, rfl⟩
/-- the dict at a place -/
theorem dct_at (s : RelS Z H ι S) {l : Nat} {kvs : List (D × D)} {v : V} (r : RelD Z H ι (.loc l) v) (e : S[l]? = some (.dct kvs)) : ∃ a kws, v = .ref a ∧ H a = some (.dK kws) ∧ RelK Z H ι kvs kws ∧ ι[l]? = some a := by
  cases r with
  | @loc a _ h =>
    obtain ⟨o, q, rc⟩ := s.at_ _ _ _ e h
    cases rc with
    | dct rr => exact ⟨a, _, rfl, q, rr, h⟩
theorem lst_at (s : RelS Z H ι S) {l : Nat} {ds : List D} {v : V} (r : RelD Z H ι (.loc l) v) (e : S[l]? = some (.lst ds)) : ∃ a vs, v = .ref a ∧ H a = some (.lst vs) ∧ RelDs Z H ι ds vs ∧ ι[l]? = some a := by
  cases r with
  | @loc a _ h =>
    obtain ⟨o, q, rc⟩ := s.at_ _ _ _ e h
    cases rc with
    | lst rr => exact ⟨a, _, rfl, q, rr, h⟩
/-- a key's look-up in the abstract dict -/
theorem dget_at {kvs : List (D × D)} {kws : List (Key × V)} (r : RelK Z H ι kvs kws) {k : D} {x : V} {o : Option D} (rx : RelD Z H ι k x) (hk : isKey k = true) (e : dget k kvs = some o) {a : Addr} (ha : H a = some (.dK kws)) :
    ∃ ov, DGet H a x ov ∧ ov.isSome = o.isSome ∧ ∀ d, o = some d → ∃ v, ov = some v ∧ RelD Z H ι d v := by
  obtain ⟨h1, h2⟩ := dget_ok r e
  cases rx with
  | @int i =>
    have := h1 i rfl
    cases o with
    | none => exact ⟨none, by have g := DGet.k (k := .inl i) ha; rw [this] at g; exact g, rfl, fun d z => by cases z⟩
    | some d =>
      obtain ⟨v, e1, r1⟩ := this
      exact ⟨some v, by have g := DGet.k (k := .inl i) ha; rw [e1] at g; exact g, rfl, fun d' z => by cases z; exact ⟨v, rfl, r1⟩⟩
  | @str i =>
    have := h2 i rfl
    cases o with
    | none => exact ⟨none, by have g := DGet.k (k := .inr i) ha; rw [this] at g; exact g, rfl, fun d z => by cases z⟩
    | some d =>
      obtain ⟨v, e1, r1⟩ := this
      exact ⟨some v, by have g := DGet.k (k := .inr i) ha; rw [e1] at g; exact g, rfl, fun d' z => by cases z; exact ⟨v, rfl, r1⟩⟩
  | _ => cases hk
theorem op_cmp (hK : X.K = Z.K) (hu : X.A.units + 65 < cLine) (op : CO) : OpR X (compareOp (toCmp op)) (rOp Z fun a b S => (cmpS op a b S).map .bl) := by
  intro pins s σ H x y v u Q I rx ry h
  obtain ⟨dx, dy, S, ι, d, hS, r1, r2, e, q⟩ := h
  have hu64 : X.A.units + 64 < cLine := by omega
  have hu1 : X.A.units + 1 < cLine := by omega
  have fin : ∀ {b : Bool}, d = .bl b → Q (.bl b) H := fun e => by subst e; exact q _ _ .refl .bl
  obtain ⟨b, e1, rfl⟩ : ∃ b, cmpS op dx dy S = some b ∧ d = .bl b := by
    cases q : cmpS op dx dy S with
    | none => simp [q] at e
    | some b => simp [q] at e; exact ⟨b, rfl, e.symm⟩
  clear e
  have inL : ∀ {ds : List D} {b : Bool} {a : Addr} {vs : List V}, y = .ref a → SqL Z.K H a vs → RelDs Z H ι ds vs → inD dx ds = some b →
      ∃ p qs, Dp X.K H x p ∧ Dp X.K H y (.list qs) ∧ SeqAt.shaped p = true ∧ SeqAt.shaped (.list qs) = true ∧ b = qs.any fun q => PyData.eqv q p := fun ey hl hr e => by
    obtain ⟨p, qs, t1, t2, s1, s2, rfl⟩ := inD_inv e
    subst ey
    exact ⟨p, qs, by rw [hK]; exact dp_of _ r1 t1, by rw [hK]; exact .lst hl (dps_of _ hr t2), s1, s2, rfl⟩
  have inT : ∀ {ds : List D} {b : Bool} {a : Addr} {vs : List V}, y = .ref a → SqT Z.K H a vs → RelDs Z H ι ds vs → inD dx ds = some b →
      ∃ p qs, Dp X.K H x p ∧ Dp X.K H y (.tuple qs) ∧ SeqAt.shaped p = true ∧ SeqAt.shaped (.tuple qs) = true ∧ b = qs.any fun q => PyData.eqv q p := fun ey hl hr e => by
    obtain ⟨p, qs, t1, t2, s1, s2, rfl⟩ := inD_inv e
    subst ey
    exact ⟨p, qs, by rw [hK]; exact dp_of _ r1 t1, by rw [hK]; exact .tup hl (dps_of _ hr t2), s1, s2, rfl⟩
  unfold cmpS at e1
  split at e1
  · -- in a place
    rename_i l
    split at e1
    · rename_i kvs hl
      split at e1
      · rename_i hk
        obtain ⟨a, kws, rfl, ha, rk, _⟩ := dct_at hS r2 hl
        cases hg : dget dx kvs with
        | none => simp [hg] at e1
        | some o =>
          simp only [hg, Option.map_some, Option.some.injEq] at e1
          subst e1
          obtain ⟨ov, g, hs, _⟩ := dget_at rk r1 hk hg ha
          cases ry
          exact d_in hu1 I g rx fun s' I' => ⟨.bl ov.isSome, H, I', rfl, by rw [hs]; exact fin rfl⟩
      · cases e1
    · rename_i ds hl
      obtain ⟨a, vs, rfl, ha, rr, _⟩ := lst_at hS r2 hl
      obtain ⟨p, qs, d1, d2, s1, s2, rfl⟩ := inL rfl (.inl (.inl ha)) rr e1
      exact op_inD hu pins s σ H _ _ v u Q I rx ry ⟨p, qs, d1, d2, s1, s2, fin rfl⟩
    · cases e1
  · rename_i l
    split at e1
    · rename_i kvs hl
      split at e1
      · rename_i hk
        obtain ⟨a, kws, rfl, ha, rk, _⟩ := dct_at hS r2 hl
        cases hg : dget dx kvs with
        | none => simp [hg] at e1
        | some o =>
          simp only [hg, Option.map_some, Option.some.injEq] at e1
          subst e1
          obtain ⟨ov, g, hs, _⟩ := dget_at rk r1 hk hg ha
          cases ry
          exact d_notIn hu1 I g rx fun s' I' => ⟨.bl (!ov.isSome), H, I', rfl, by rw [hs]; exact fin rfl⟩
      · cases e1
    · rename_i ds hl
      obtain ⟨a, vs, rfl, ha, rr, _⟩ := lst_at hS r2 hl
      cases hi : inD dx ds with
      | none => simp [hi] at e1
      | some b' =>
        simp only [hi, Option.map_some, Option.some.injEq] at e1
        subst e1
        obtain ⟨p, qs, d1, d2, s1, s2, rfl⟩ := inL rfl (.inl (.inl ha)) rr hi
        exact op_notInD hu pins s σ H _ _ v u Q I rx ry ⟨p, qs, d1, d2, s1, s2, fin rfl⟩
    · cases e1
  · split at e1
    · rename_i x' y' q1 q2
      have p1 := res_ok hS r1 q1
      have p2 := res_ok hS r2 q2
      unfold cmpD at e1
      split at e1
      · obtain ⟨p', q', t1, t2, s1, s2, rfl⟩ := eqD_inv e1
        exact op_eqD hu64 pins s σ H _ _ v u Q I rx ry ⟨p', q', by rw [hK]; exact dp_rdd p1 t1, by rw [hK]; exact dp_rdd p2 t2, s1, s2, fin rfl⟩
      · cases hi : eqD x' y' with
        | none => simp [hi] at e1
        | some b' =>
          simp only [hi, Option.map_some, Option.some.injEq] at e1
          subst e1
          obtain ⟨p', q', t1, t2, s1, s2, rfl⟩ := eqD_inv hi
          exact op_neD hu64 pins s σ H _ _ v u Q I rx ry ⟨p', q', by rw [hK]; exact dp_rdd p1 t1, by rw [hK]; exact dp_rdd p2 t2, s1, s2, fin rfl⟩
      · cases p1; cases p2; cases e1
        exact op_lt pins s σ H _ _ v u Q I rx ry ⟨_, _, rfl, rfl, fin rfl⟩
      · cases p1; cases p2; cases e1
        exact op_le pins s σ H _ _ v u Q I rx ry ⟨_, _, rfl, rfl, fin rfl⟩
      · cases p1; cases p2; cases e1
        exact op_gt pins s σ H _ _ v u Q I rx ry ⟨_, _, rfl, rfl, fin rfl⟩
      · cases p1; cases p2; cases e1
        exact op_ge pins s σ H _ _ v u Q I rx ry ⟨_, _, rfl, rfl, fin rfl⟩
      · obtain ⟨p', q', t1, t2, s1, s2, rfl⟩ := inD_inv e1
        exact op_inT hu pins s σ H _ _ v u Q I rx ry ⟨p', q', by rw [hK]; exact dp_rdd p1 t1, by rw [hK]; exact dp_rdd (d := .tup _) p2 (by simp [toPy, t2]), s1, s2, fin rfl⟩
      · obtain ⟨p', q', t1, t2, s1, s2, rfl⟩ := inD_inv e1
        exact op_inD hu pins s σ H _ _ v u Q I rx ry ⟨p', q', by rw [hK]; exact dp_rdd p1 t1, by rw [hK]; exact dp_rdd (d := .lst _) p2 (by simp [toPy, t2]), s1, s2, fin rfl⟩
      · obtain ⟨b', hi, rfl⟩ := not_inv e1
        obtain ⟨p', q', t1, t2, s1, s2, rfl⟩ := inD_inv hi
        exact op_ninT hu pins s σ H _ _ v u Q I rx ry ⟨p', q', by rw [hK]; exact dp_rdd p1 t1, by rw [hK]; exact dp_rdd (d := .tup _) p2 (by simp [toPy, t2]), s1, s2, fin rfl⟩
      · obtain ⟨b', hi, rfl⟩ := not_inv e1
        obtain ⟨p', q', t1, t2, s1, s2, rfl⟩ := inD_inv hi
        exact op_notInD hu pins s σ H _ _ v u Q I rx ry ⟨p', q', by rw [hK]; exact dp_rdd p1 t1, by rw [hK]; exact dp_rdd (d := .lst _) p2 (by simp [toPy, t2]), s1, s2, fin rfl⟩
      · cases e1
    · cases e1

/-! ### truth, places, slices -/
theorem isEmpty_rel {ds : List D} {vs : List V} (h : RelDs Z H ι ds vs) : vs.isEmpty = ds.isEmpty := by cases h <;> rfl
theorem tru_rel (hS : RelS Z H ι S) {d : D} {x : V} {b : Bool} (r : RelD Z H ι d x) (e : truS d S = some b) : TruV Z.K x H b := by
  cases r with
  | non => cases e; rfl
  | bl => cases e; rfl
  | int => cases e; rfl
  | str =>
    simp only [truS] at e
    split at e
    · rename_i hl
      cases e
      refine ⟨hl, ?_⟩
      rename_i s
      rw [Bool.eq_iff_iff]
      simp
    · cases e
  | tup h rr => cases e; exact .inr (.inl ⟨_, h, by rw [isEmpty_rel rr]⟩)
  | lst h n b rr => cases e; exact .inl ⟨_, .inl (.inl h), by rw [isEmpty_rel rr]⟩
  | flst h n b rr => cases e; exact .inl ⟨_, .inl (.inl h), by rw [isEmpty_rel rr]⟩
  | flstF h rr =>
    cases e
    refine .inl ⟨_, ?_, by rw [isEmpty_rel rr]⟩
    rcases h with ⟨o, h⟩ | h
    · exact .inl (.inr ⟨o, h⟩)
    · exact h _
  | @loc a l h =>
    cases hl : S[l]? with
    | none => simp [truS, hl] at e
    | some c =>
      obtain ⟨o, q, rc⟩ := hS.at_ _ _ _ hl h
      cases rc with
      | lst rr => simp only [truS, hl, Option.some.injEq] at e; subst e; exact .inl ⟨_, .inl (.inl q), by rw [isEmpty_rel rr]⟩
      | dct rr =>
        simp only [truS, hl, Option.some.injEq] at e; subst e
        refine .inr (.inr ⟨_, q, ?_⟩)
        cases rr <;> rfl
  | fn => cases e
  | exc q h rr => cases e
theorem ixN_rel {ds : List D} {vs : List V} (h : RelDs Z H ι ds vs) {i : Int} {d : D} (e : atI ds i = some d) : ∃ v, atI vs i = some v ∧ RelD Z H ι d v := by
  unfold atI at e ⊢
  rw [← h.length]
  cases q : ixN ds.length i with
  | none => rw [q] at e; cases e
  | some j =>
    rw [q] at e
    exact h.get e
/-- a subscript by values, dicts too -/
theorem ix_ok (hK : X.K = Z.K) (hu : X.A.units + 1 < cLine) : IxR X (rOp Z idxS) := by
  intro value slice pins s σ H x y v u Q I rx ry h hs
  obtain ⟨dx, dy, S, ι, d, hS, r1, r2, e, q⟩ := h
  have seqL : ∀ {ds : List D} {a : Addr} {vs : List V} {i : Int}, x = .ref a → dy = .int i → SqL Z.K H a vs → RelDs Z H ι ds vs → atI ds i = some d → wpAny (model X.prog X.w) X.A (PyProof.Rows.subscriptTail value slice v u) (EP X pins σ Q) X.xe s := fun ex ey hl rr e => by
    obtain ⟨w, e1, r⟩ := ixN_rel rr e
    subst ex ey
    cases r2
    exact ix_list value slice pins s σ H _ _ v u Q I rx ry ⟨_, _, _, w, rfl, rfl, by rw [hK]; exact hl, e1, q _ _ .refl r⟩ hs
  have dctG : ∀ {l : Nat} {kvs : List (D × D)}, dx = .loc l → S[l]? = some (.dct kvs) → isKey dy = true → (dget dy kvs).bind id = some d → wpAny (model X.prog X.w) X.A (PyProof.Rows.subscriptTail value slice v u) (EP X pins σ Q) X.xe s := fun {l kvs} ex hl hk e2 => by
    subst ex
    obtain ⟨a, kws, rfl, ha, rk, _⟩ := dct_at hS r1 hl
    cases hg : dget dy kvs with
    | none => simp [hg] at e2
    | some o =>
      simp only [hg, Option.bind_some, id_eq] at e2
      subst e2
      obtain ⟨ov, g, _, hv⟩ := dget_at rk r2 hk hg ha
      obtain ⟨w, rfl, rw'⟩ := hv d rfl
      cases rx
      exact tail_of (dict_typeIs I g) PySem.F.slot_dict_getitem.lookup hs (d_getItem hu I g ry fun w' s3 I3 r3 => ⟨w, H, I3, r3, q _ _ .refl rw'⟩)
  unfold idxS at e
  split at e
  · cases r2
    cases r1 with
    | @tup a us _ h1 t1 =>
      obtain ⟨w, e1, r⟩ := ixN_rel t1 e
      exact ix_tup value slice pins s σ H _ _ v u Q I rx ry ⟨_, _, _, w, rfl, rfl, by rw [hK]; exact h1, e1, q _ _ .refl r⟩ hs
  · cases r1 with
    | lst h1 n b t1 => exact seqL rfl rfl (.inl (.inl h1)) t1 e
  · cases r1 with
    | flst h1 n b t1 => exact seqL rfl rfl (.inl (.inl h1)) t1 e
    | flstF h1 t1 =>
      refine seqL rfl rfl ?_ t1 e
      rcases h1 with ⟨o, h⟩ | h
      · exact .inl (.inr ⟨o, h⟩)
      · exact h _
  · rename_i l i
    split at e
    · rename_i ds hl
      obtain ⟨a, vs, rfl, ha, rr, _⟩ := lst_at hS r1 hl
      exact seqL rfl rfl (.inl (.inl ha)) rr e
    · rename_i kvs hl
      exact dctG rfl hl rfl e
    · cases e
  · rename_i l i
    split at e
    · rename_i kvs hl
      exact dctG rfl hl rfl e
    · cases e
  · cases e
theorem cut_rel {ds : List D} {vs : List V} (h : RelDs Z H ι ds vs) (lo hi : Option Int) : RelDs Z H ι (cutD ds lo hi) (cutV vs lo hi) := by
  unfold cutD cutV
  rw [h.length]
  exact (h.drop _).take _
theorem cut_whole {α : Type} (xs : List α) (lo hi : Option Int) (h : HT.sIx xs.length 0 lo = 0 ∧ HT.sIx xs.length xs.length hi = xs.length) : (xs.drop (HT.sIx xs.length 0 lo)).take (HT.sIx xs.length xs.length hi - HT.sIx xs.length 0 lo) = xs := by
  rw [h.1, h.2]; simp
/-- a slice by values -/
def rSlc (Z : Sit) : V → Option Int → Option Int → Hp → VK → Prop := fun x lo hi H Q => ∃ dx S ι d, RelS Z H ι S ∧ RelD Z H ι dx x ∧ slcS dx lo hi S = some d ∧ ∀ v H', GrowK H ι H' → RelD Z H' ι d v → Q v H'
theorem sl_ok (hK : X.K = Z.K) : SlR X (rSlc Z) := by
  intro pins s σ H x v vl vu lo hi sl Q I rx hs pl pu h
  obtain ⟨dx, S, ι, d, hS, r1, e, q⟩ := h
  have new : ∀ {p : Addr}, H p = none → p ∉ ι := fun hp m => by
    obtain ⟨o, q, _⟩ := hS.there m
    rw [hp] at q; cases q
  unfold slcS at e
  split at e
  · rename_i ds hr
    cases e
    have p1 := res_ok hS r1 hr
    cases p1 with
    | @tup a us _ h1 t1 =>
      refine sl_tupA pins s σ H _ v vl vu lo hi sl Q I rx hs pl pu ⟨a, us, rfl, by rw [hK]; exact h1, fun z => ?_, fun z p hp => ?_⟩
      · rw [← t1.length] at z
        exact q _ _ .refl (by unfold cutD; rw [cut_whole ds lo hi z]; exact .tup h1 t1)
      · have g := Grow.new (ι := ι) (o := .tup (cutV us lo hi)) hp
        exact q _ _ (.new hS hp) (.tup (.inl (.inl upd_same)) (RelDs.mono g (cut_rel t1 lo hi)))
  · rename_i ds hr
    cases e
    obtain ⟨a, us, rfl, h1, t1⟩ := res_ok hS r1 hr
    refine sl_list pins s σ H _ v vl vu lo hi sl Q I rx hs pl pu ⟨a, us, rfl, .inl (.inl h1), fun p hp => ?_⟩
    have g := Grow.new (ι := ι) (o := .lst (cutV us lo hi)) hp
    exact q _ _ (.new hS hp) (.lst upd_same (new hp) (hS.newB hp) (RelDs.mono g (cut_rel t1 lo hi)))
  · cases e

/-! ### built-in calls -/
def rCall (Z : Sit) (f : List D → Store → Option D) : List V → Hp → VK → Prop := fun vs H Q => ∃ ds S ι d, RelS Z H ι S ∧ RelDs Z H ι ds vs ∧ f ds S = some d ∧ ∀ v H', GrowK H ι H' → RelD Z H' ι d v → Q v H'
theorem intsD_rel : ∀ {ds : List D} {is : List Int} {vs : List V}, RelDs Z H ι ds vs → intsD ds = some is → vs = is.map V.int
  | [], _, _, .nil, e => by cases e; rfl
  | .int i :: ds, is, _, .cons .int t, e => by
    simp only [intsD] at e
    cases q : intsD ds with
    | none => simp [q] at e
    | some js => simp only [q, Option.some.injEq] at e; subst e; rw [intsD_rel t q]; rfl
  | .non :: _, _, _, _, e => by cases e
  | .bl _ :: _, _, _, _, e => by cases e
  | .str _ :: _, _, _, _, e => by cases e
  | .tup _ :: _, _, _, _, e => by cases e
  | .lst _ :: _, _, _, _, e => by cases e
  | .flst _ :: _, _, _, _, e => by cases e
  | .loc _ :: _, _, _, _, e => by cases e
  | .fn _ :: _, _, _, _, e => by cases e
  | .exc _ _ :: _, _, _, _, e => by cases e
theorem boolsD_rel : ∀ {ds : List D} {is : List Bool} {vs : List V}, RelDs Z H ι ds vs → boolsD ds = some is → vs = is.map V.bl
  | [], _, _, .nil, e => by cases e; rfl
  | .bl i :: ds, is, _, .cons .bl t, e => by
    simp only [boolsD] at e
    cases q : boolsD ds with
    | none => simp [q] at e
    | some js => simp only [q, Option.some.injEq] at e; subst e; rw [boolsD_rel t q]; rfl
  | .non :: _, _, _, _, e => by cases e
  | .int _ :: _, _, _, _, e => by cases e
  | .str _ :: _, _, _, _, e => by cases e
  | .tup _ :: _, _, _, _, e => by cases e
  | .lst _ :: _, _, _, _, e => by cases e
  | .flst _ :: _, _, _, _, e => by cases e
  | .loc _ :: _, _, _, _, e => by cases e
  | .fn _ :: _, _, _, _, e => by cases e
  | .exc _ _ :: _, _, _, _, e => by cases e
theorem minL_mem : ∀ (is : List Int) (a : Int), minL a is = a ∨ minL a is ∈ is
  | [], _ => .inl rfl
  | b :: r, a => by
    unfold minL
    rcases minL_mem r (if b < a then b else a) with h | h
    · rw [h]; split <;> simp
    · exact .inr (.tail _ h)
theorem minL_le : ∀ (is : List Int) (a : Int), minL a is ≤ a ∧ ∀ y ∈ is, minL a is ≤ y
  | [], a => ⟨Int.le_refl a, fun _ h => nomatch h⟩
  | b :: r, a => by
    unfold minL
    obtain ⟨h1, h2⟩ := minL_le r (if b < a then b else a)
    have h3 : (if b < a then b else a) ≤ a ∧ (if b < a then b else a) ≤ b := by split <;> omega
    refine ⟨Int.le_trans h1 h3.1, fun y hy => ?_⟩
    rcases List.mem_cons.mp hy with rfl | hy
    · exact Int.le_trans h1 h3.2
    · exact h2 y hy
theorem maxL_mem : ∀ (is : List Int) (a : Int), maxL a is = a ∨ maxL a is ∈ is
  | [], _ => .inl rfl
  | b :: r, a => by
    unfold maxL
    rcases maxL_mem r (if a < b then b else a) with h | h
    · rw [h]; split <;> simp
    · exact .inr (.tail _ h)
theorem maxL_ge : ∀ (is : List Int) (a : Int), a ≤ maxL a is ∧ ∀ y ∈ is, y ≤ maxL a is
  | [], a => ⟨Int.le_refl a, fun _ h => nomatch h⟩
  | b :: r, a => by
    unfold maxL
    obtain ⟨h1, h2⟩ := maxL_ge r (if a < b then b else a)
    have h3 : a ≤ (if a < b then b else a) ∧ b ≤ (if a < b then b else a) := by split <;> omega
    refine ⟨Int.le_trans h3.1 h1, fun y hy => ?_⟩
    rcases List.mem_cons.mp hy with rfl | hy
    · exact Int.le_trans h3.2 h1
    · exact h2 y hy
theorem RelK.length {kvs : List (D × D)} {kws : List (Key × V)} (rk : RelK Z H ι kvs kws) : kvs.length = kws.length := by
  induction rk with
  | nil => rfl
  | int _ _ ih => simp [ih]
  | str _ _ ih => simp [ih]
theorem RelDs.inv1 {d : D} {vs : List V} (h : RelDs Z H ι [d] vs) : ∃ v, vs = [v] ∧ RelD Z H ι d v := by
  cases h with | cons r t => cases t; exact ⟨_, rfl, r⟩
theorem RelDs.inv2 {d e : D} {vs : List V} (h : RelDs Z H ι [d, e] vs) : ∃ v w, vs = [v, w] ∧ RelD Z H ι d v ∧ RelD Z H ι e w := by
  cases h with | cons r t => cases t with | cons r2 t => cases t; exact ⟨_, _, rfl, r, r2⟩
/-- the items of a list that are ints | bools -/
theorem list_ints (hS : RelS Z H ι S) {d : D} {v : V} {is : List Int} (r : RelD Z H ι d v) (hl : isList d S = true) (e : (itemsS d S).bind intsD = some is) : ∃ a, v = .ref a ∧ SqL Z.K H a (is.map V.int) := by
  cases q : itemsS d S with
  | none => simp [q] at e
  | some ds =>
    simp only [q, Option.bind_some] at e
    obtain ⟨a, vs, rfl, rr, h⟩ := items_ok hS r q
    rcases h with ⟨h, _⟩ | ⟨_, h⟩
    · exact ⟨a, rfl, by rw [← intsD_rel rr e]; exact h⟩
    · rw [hl] at h; cases h
theorem seq_ints (hS : RelS Z H ι S) {d : D} {v : V} {is : List Int} (r : RelD Z H ι d v) (e : (itemsS d S).bind intsD = some is) : ∃ a, v = .ref a ∧ (SqL Z.K H a (is.map V.int) ∨ SqT Z.K H a (is.map V.int)) := by
  cases q : itemsS d S with
  | none => simp [q] at e
  | some ds =>
    simp only [q, Option.bind_some] at e
    obtain ⟨a, vs, rfl, rr, h⟩ := items_ok hS r q
    rcases h with ⟨h, _⟩ | ⟨h, _⟩
    · exact ⟨a, rfl, .inl (by rw [← intsD_rel rr e]; exact h)⟩
    · exact ⟨a, rfl, .inr (by rw [← intsD_rel rr e]; exact h)⟩
theorem list_bools (hS : RelS Z H ι S) {d : D} {v : V} {is : List Bool} (r : RelD Z H ι d v) (hl : isList d S = true) (e : (itemsS d S).bind boolsD = some is) : ∃ a, v = .ref a ∧ SqL Z.K H a (is.map V.bl) := by
  cases q : itemsS d S with
  | none => simp [q] at e
  | some ds =>
    simp only [q, Option.bind_some] at e
    obtain ⟨a, vs, rfl, rr, h⟩ := items_ok hS r q
    rcases h with ⟨h, _⟩ | ⟨_, h⟩
    · exact ⟨a, rfl, by rw [← boolsD_rel rr e]; exact h⟩
    · rw [hl] at h; cases h
/-- how a built-in stands behind its name -/
inductive Bi where
  | fn (id : String) | ty (T : String)
def biOf : Pr → String × Bi
  | .len => ("len", .fn "len") | .abs => ("abs", .fn "abs") | .min1 => ("min", .fn "min") | .max1 => ("max", .fn "max") | .min2 => ("min", .fn "min") | .max2 => ("max", .fn "max")
  | .sum => ("sum", .fn "sum") | .all => ("all", .fn "all") | .any => ("any", .fn "any") | .tuple => ("tuple", .ty "tuple") | .list => ("list", .ty "list") | .int => ("int", .ty "int")
  | .sorted => ("sorted", .fn "sorted") | .repr => ("repr", .fn "repr") | .cnt => ("", .fn "") | .index => ("", .fn "")
def Bi.val : Bi → Value
  | .fn id => .builtin id
  | .ty T => .type T
theorem rel_ints : ∀ ns : List Int, RelDs Z H ι (ns.map .int) (ns.map V.int)
  | [] => .nil
  | _ :: r => .cons .int (rel_ints r)
theorem insI_perm (a : Int) : ∀ l : List Int, (insI a l).Perm (a :: l)
  | [] => .refl _
  | b :: r => by
    unfold insI
    split
    · exact .refl _
    · exact ((insI_perm a r).cons b).trans (.swap a b r)
theorem sortI_perm : ∀ l : List Int, (sortI l).Perm l
  | [] => .refl _
  | a :: r => (insI_perm a (sortI r)).trans ((sortI_perm r).cons a)
theorem insI_sorted {a : Int} : ∀ {l : List Int}, l.Pairwise (· ≤ ·) → (insI a l).Pairwise (· ≤ ·)
  | [], _ => by simp [insI]
  | b :: r, h => by
    unfold insI
    rw [List.pairwise_cons] at h
    split
    · rename_i hab
      rw [List.pairwise_cons]
      refine ⟨fun x hx => ?_, List.pairwise_cons.mpr h⟩
      rcases List.mem_cons.mp hx with rfl | hx
      · exact hab
      · exact Int.le_trans hab (h.1 x hx)
    · rename_i hab
      rw [List.pairwise_cons]
      refine ⟨fun x hx => ?_, insI_sorted h.2⟩
      rcases List.mem_cons.mp ((insI_perm a r).mem_iff.mp hx) with rfl | hx
      · omega
      · exact h.1 x hx
theorem sortI_sorted : ∀ l : List Int, (sortI l).Pairwise (· ≤ ·)
  | [] => .nil
  | a :: r => insI_sorted (sortI_sorted r)
theorem sorted_unique : ∀ {l m : List Int}, l.Perm m → l.Pairwise (· ≤ ·) → m.Pairwise (· ≤ ·) → l = m
  | [], m, p, _, _ => by rw [List.nil_perm.mp p]
  | a :: l, [], p, _, _ => by have := p.length_eq; simp at this
  | a :: l, b :: m, p, h1, h2 => by
    rw [List.pairwise_cons] at h1 h2
    have e : a = b := by
      have m1 : a ∈ b :: m := p.mem_iff.mp (List.mem_cons_self ..)
      have m2 : b ∈ a :: l := p.mem_iff.mpr (List.mem_cons_self ..)
      rcases List.mem_cons.mp m1 with h | h
      · exact h
      · rcases List.mem_cons.mp m2 with h' | h'
        · exact h'.symm
        · have := h2.1 a h
          have := h1.1 b h'
          omega
    subst e
    rw [sorted_unique (List.Perm.cons_inv p) h1.2 h2.2]
theorem call_reprD (hgd : X.A.guards = some []) (hu : X.A.units + 65 < cLine) : CallR X (.builtin "repr") (fun xs H Q => ∃ (v : V) (p : PyData), xs = [v] ∧ Dp X.K H v p ∧ reprOk p ∧ Q (.str p.shown) H) := by
  intro pins s σ H xs us Q I r h
  obtain ⟨v, p, rfl, dp, ok, q⟩ := h
  obtain ⟨u, rfl, ru⟩ := vals1 r
  obtain ⟨o1, o2, o3, o4⟩ := ok
  obtain ⟨as, rd⟩ := Dp.reads I p v u dp ru
  have fin : ∀ tk tk', EP X pins σ Q (.str p.shown tk) { s with toks := tk' } := fun tk tk' => ⟨.str _, H, I.tok _, ⟨tk, rfl⟩, q⟩
  cases rd with
  | none => exact PySem.P.repr_of_none (fin _ _)
  | bool b => exact PySem.P.repr_of_bool (fin _ _)
  | int i t => exact PySem.P.repr_of_int (of_decide_eq_true o1) (fin _ _)
  | str x t => exact PySem.P.repr_of_str (fin _ _) o4
  | list h1 h2 h3 h4 => exact repr_of_reads' (.list h1 h2 h3 h4) o1 (PyData.noDict_hsm o2) hgd (by omega) (fun _ _ e => e) (fun h' u tk hk => ⟨.str _, H, I.kept (t' := tk) hk, ⟨u, rfl⟩, q⟩) o4
  | tuple h1 h2 h3 h4 => exact repr_of_reads' (.tuple h1 h2 h3 h4) o1 (PyData.noDict_hsm o2) hgd (by omega) (fun _ _ e => e) (fun h' u tk hk => ⟨.str _, H, I.kept (t' := tk) hk, ⟨u, rfl⟩, q⟩) o4
  | dict h1 h2 h3 h4 h5 => simp [PyData.hasDict] at o2
theorem relK_ints {kvs : List (D × D)} {kws : List (Key × V)} (r : RelK Z H ι kvs kws) : ∀ {is : List Int}, intsD (kvs.map (·.1)) = some is → kws.map (·.1) = is.map Sum.inl := by
  induction r with
  | nil => intro is h; cases h; rfl
  | @int i d v r s h t ih =>
    intro is e
    simp only [List.map_cons, intsD] at e
    cases q : intsD (r.map (·.1)) with
    | none => simp [q] at e
    | some js =>
      simp only [q, Option.some.injEq] at e
      subst e
      simp only [List.map_cons, ih q]
  | @str i d v r s h t ih =>
    intro is e
    simp [intsD] at e
theorem pairI_eq {d : D} {p : Int × Int} (h : pairI d = some p) : d = .tup [.int p.1, .int p.2] := by
  unfold pairI at h
  split at h
  · cases h; rfl
  · cases h
theorem pair_tupI {d : D} {v : V} {p : Int × Int} (h : pairI d = some p) (r : RelD Z H ι d v) : TupI Z.K H v [p.1, p.2] := by
  have := pairI_eq h
  subst this
  cases r with
  | @tup a vs ds h r =>
    cases r with
    | cons r1 t =>
      cases r1
      cases t with
      | cons r2 t =>
        cases r2
        cases t
        exact ⟨_, rfl, h⟩
def ltV (K : PySem.W.Frag) (H : Hp) (x y : V) : Prop := ∃ n m, TupI K H x n ∧ TupI K H y m ∧ TS.code 1000 n < TS.code 1000 m
theorem inB_bd {p : Int × Int} (h : inB p = true) : TS.Bd 1000 [p.1, p.2] := by
  have h := of_decide_eq_true h
  intro m hm
  simp only [List.mem_cons, List.not_mem_nil, or_false] at hm
  rcases hm with rfl | rfl <;> omega
theorem lexI_code {p q : Int × Int} (hp : inB p = true) (hq : inB q = true) (h : lexI p q = true) : TS.code 1000 [p.1, p.2] < TS.code 1000 [q.1, q.2] := by
  refine Int.not_le.mp fun hle => ?_
  have := L2.code_lex (inB_bd hq) (inB_bd hp) hle
  unfold lexI at h
  simp only [Bool.or_eq_true, Bool.and_eq_true, decide_eq_true_eq] at h
  omega
theorem asc_ok : ∀ {ds : List D} {vs : List V}, RelDs Z H ι ds vs → ascD ds = true → (∀ x ∈ vs, ∃ ns, TupI Z.K H x ns ∧ ns.length = 2 ∧ TS.Bd 1000 ns) ∧ vs.Pairwise (ltV Z.K H) ∧ (∀ (d : D) (v : V), (d, v) ∈ ds.zip vs → ∃ p, pairI d = some p ∧ inB p = true ∧ TupI Z.K H v [p.1, p.2])
  | _, _, .nil, _ => ⟨fun _ h => (nomatch h), List.Pairwise.nil, fun _ _ h => by simp at h⟩
  | _, _, .cons (d := d) (v := v) (ds := ds) (vs := vs) r t, h => by
    simp only [ascD, Bool.and_eq_true] at h
    obtain ⟨h1, h2⟩ := h
    obtain ⟨i1, i2, i3⟩ := asc_ok t h2
    cases hp : pairI d with
    | none => simp [hp] at h1
    | some p =>
      simp only [hp, Bool.and_eq_true] at h1
      obtain ⟨hb, hall⟩ := h1
      have tv := pair_tupI hp r
      refine ⟨fun x hx => ?_, List.pairwise_cons.mpr ⟨fun y hy => ?_, i2⟩, fun d' v' hm => ?_⟩
      · rcases List.mem_cons.mp hx with rfl | hx
        · exact ⟨_, tv, rfl, inB_bd hb⟩
        · exact i1 x hx
      · obtain ⟨j, hj, rfl⟩ := List.mem_iff_getElem.mp hy
        have hl := t.length
        have hj' : j < ds.length := by rw [hl]; exact hj
        have hz : (ds[j], vs[j]) ∈ ds.zip vs := by
          have e : (ds.zip vs)[j]'(by simp; omega) = (ds[j], vs[j]) := by simp
          rw [← e]
          exact List.getElem_mem _
        obtain ⟨q, q1, q2, q3⟩ := i3 _ _ hz
        have hlx := List.all_eq_true.mp hall ds[j] (List.getElem_mem hj')
        simp only [q1] at hlx
        exact ⟨_, _, tv, q3, lexI_code hb q2 hlx⟩
      · rw [List.zip_cons_cons] at hm
        rcases List.mem_cons.mp hm with e | hm
        · cases e
          exact ⟨p, hp, hb, tv⟩
        · exact i3 _ _ hm
theorem asc_unique {K : PySem.W.Frag} : ∀ {xs ys : List V}, ys.Perm xs → xs.Pairwise (ltV K H) → ys.Pairwise (fun x y => ∀ n m, TupI K H x n → TupI K H y m → TS.code 1000 n ≤ TS.code 1000 m) → ys = xs
  | [], ys, p, _, _ => List.perm_nil.mp p
  | x :: xs, [], p, _, _ => by have := p.length_eq; simp at this
  | x :: xs, y :: ys, p, h1, h2 => by
    rw [List.pairwise_cons] at h1 h2
    have e : y = x := by
      have m1 : y ∈ x :: xs := p.mem_iff.mp (List.mem_cons_self ..)
      have m2 : x ∈ y :: ys := p.mem_iff.mpr (List.mem_cons_self ..)
      rcases List.mem_cons.mp m1 with h | h
      · exact h
      · rcases List.mem_cons.mp m2 with h' | h'
        · exact h'.symm
        · obtain ⟨n, m, tn, tm, lt⟩ := h1.1 y h
          have := h2.1 x h' m n tm tn
          omega
    subst e
    rw [asc_unique (List.Perm.cons_inv p) h1.2 h2.2]
theorem srt_ok (hK : X.K = Z.K) (hc : X.calm = true) {S : Store} {dx d : D} {x : V} (hS : RelS Z H ι S) (rv : RelD Z H ι dx x) (e : srtS dx S = some d) :
    ∀ (pins : List (Addr × Obj)) (s : Shared) (σ : L2.St) (H' : Hp) (vs : List V) (us : List Value) (Q : VK), Inv X pins σ H' s → Vals vs us → vs = [x] → H' = H → (∀ v H', GrowK H ι H' → RelD Z H' ι d v → Q v H') → (∀ {p : Addr}, H p = none → p ∉ ι) →
      wpAny (model X.prog X.w) X.A (call (.builtin "sorted") us) (EP X pins σ Q) X.xe s := by
  intro pins s σ H' vs us Q I r ev eH q new
  subst ev eH
  unfold srtS at e
  cases hd : dictI dx S with
  | some is =>
    simp only [hd] at e
    by_cases h64 : is.length < 64
    · rw [if_pos h64] at e
      cases e
      cases dx with
      | loc l =>
        simp only [dictI] at hd
        cases hl : S[l]? with
        | none => simp [hl] at hd
        | some c =>
          cases c with
          | dct kvs =>
            simp only [hl] at hd
            obtain ⟨a, kws, rfl, ha, rk, _⟩ := dct_at hS rv hl
            refine call_sortedDI hc pins s σ H' _ us Q I r ⟨a, kws, is, rfl, .inl ha, relK_ints rk hd, h64, fun ys p h1 h2 hp => ?_⟩
            have e1 : ys = sortI is := sorted_unique (h1.trans (sortI_perm is).symm) h2 (sortI_sorted is)
            subst e1
            exact q _ _ (.new hS hp) (.lst upd_same (new hp) (hS.newB hp) (rel_ints _))
          | lst _ => simp [hl] at hd
          | obj _ _ => simp [hl] at hd
      | _ => simp [dictI] at hd
    · rw [if_neg h64] at e; cases e
  | none =>
    simp only [hd] at e
    split at e
    · rename_i ds hl hi
      by_cases hc2 : ds.length < 64 ∧ ascD ds = true
      · rw [if_pos hc2] at e
        cases e
        obtain ⟨a, vs, rfl, rr, hq⟩ := items_ok hS rv hi
        rcases hq with ⟨hq, _⟩ | ⟨_, z⟩
        · obtain ⟨i1, i2, _⟩ := asc_ok rr hc2.2
          refine cr_sortT (d := 2) (B := 1000) (by omega) pins s σ H' _ us Q I r ⟨a, vs, rfl, by rw [hK]; exact hq, by rw [← rr.length]; exact hc2.1, by rw [hK]; exact i1, fun ys p h1 h2 hp => ?_⟩
          rw [hK] at h2
          have e1 := asc_unique h1 i2 h2
          subst e1
          exact q _ _ (.new hS hp) (.lst upd_same (new hp) (hS.newB hp) (RelDs.mono (Grow.new hp) rr))
        · rw [hl] at z; cases z
      · rw [if_neg hc2] at e; cases e
    · cases e
theorem call_prim (hK : X.K = Z.K) (hc : X.calm = true) (hgd : X.A.guards = some []) (hu : X.A.units + 65 < cLine) (p : Pr) : CallR X (biOf p).2.val (rCall Z (primS p)) := by
  intro pins s σ H vs us Q I r h
  obtain ⟨ds, S, ι, d, hS, rr, e, q⟩ := h
  have new : ∀ {p : Addr}, H p = none → p ∉ ι := fun hp m => by
    obtain ⟨o, q, _⟩ := hS.there m
    rw [hp] at q; cases q
  unfold primS at e
  split at e
  · -- len of a text
    obtain ⟨v, rfl, rv⟩ := rr.inv1
    cases rv
    split at e
    · rename_i hl
      cases e
      exact call_len pins s σ H _ us Q I r ⟨_, _, rfl, ⟨hl, rfl⟩, q _ _ .refl .int⟩
    · cases e
  · obtain ⟨v, rfl, rv⟩ := rr.inv1
    split at e
    · rename_i ds' hl
      obtain ⟨a, vs, rfl, ha, rr, _⟩ := lst_at hS rv hl
      cases e
      exact call_len pins s σ H _ us Q I r ⟨_, _, rfl, .inl ⟨_, .inl (.inl ha), rfl⟩, by rw [← rr.length]; exact q _ _ .refl .int⟩
    · rename_i kvs hl
      obtain ⟨a, kws, rfl, ha, rk, _⟩ := dct_at hS rv hl
      cases e
      have hlen := rk.length
      cases r with
      | cons r1 t1 =>
        cases t1
        cases r1
        exact d_len I (.inl ha) fun t s' I' => ⟨.int kws.length, H, I', ⟨_, rfl⟩, by rw [← hlen]; exact q _ _ .refl .int⟩
    · cases e
  · obtain ⟨v, rfl, rv⟩ := rr.inv1
    split at e
    · rename_i ds' hi
      cases e
      obtain ⟨a, vs, rfl, rr, h⟩ := items_ok hS rv hi
      rcases h with ⟨h, _⟩ | ⟨h, _⟩
      · exact call_len pins s σ H _ us Q I r ⟨_, _, rfl, .inl ⟨_, by rw [hK]; exact h, rfl⟩, by rw [← rr.length]; exact q _ _ .refl .int⟩
      · exact call_len pins s σ H _ us Q I r ⟨_, _, rfl, .inr ⟨_, by rw [hK]; exact h, rfl⟩, by rw [← rr.length]; exact q _ _ .refl .int⟩
    · cases e
  · obtain ⟨v, rfl, rv⟩ := rr.inv1
    cases rv; cases e
    exact call_abs pins s σ H _ us Q I r ⟨_, rfl, q _ _ .refl .int⟩
  · obtain ⟨v, w, rfl, r1, r2⟩ := rr.inv2
    cases r1; cases r2; cases e
    exact call_min2 hc pins s σ H _ us Q I r ⟨_, _, rfl, q _ _ .refl .int⟩
  · obtain ⟨v, w, rfl, r1, r2⟩ := rr.inv2
    cases r1; cases r2; cases e
    exact call_max2 hc pins s σ H _ us Q I r ⟨_, _, rfl, q _ _ .refl .int⟩
  · obtain ⟨v, rfl, rv⟩ := rr.inv1
    split at e
    · rename_i i is hi
      cases e
      obtain ⟨a, rfl, h | h⟩ := seq_ints hS rv hi
      · refine cr_min hc pins s σ H _ us Q I r ⟨a, i :: is, rfl, by rw [hK]; exact h, by simp, fun m hm hle => ?_⟩
        have e1 : m = minL i is := by
          obtain ⟨h1, h2⟩ := minL_le is i
          have h3 : minL i is ∈ i :: is := by rcases minL_mem is i with z | z; · rw [z]; simp
                                              · exact .tail _ z
          have h4 := hle _ h3
          rcases List.mem_cons.mp hm with z | z
          · subst z; omega
          · have := h2 m z; omega
        rw [e1]
        exact q _ _ .refl .int
      · exact cr_minT hc (by omega) pins s σ H _ us Q I r ⟨a, i, is, rfl, by rw [hK]; exact h, q _ _ .refl .int⟩
    · cases e
  · obtain ⟨v, rfl, rv⟩ := rr.inv1
    split at e
    · rename_i i is hi
      cases e
      obtain ⟨a, rfl, h | h⟩ := seq_ints hS rv hi
      · refine cr_max hc pins s σ H _ us Q I r ⟨a, i :: is, rfl, by rw [hK]; exact h, by simp, fun m hm hle => ?_⟩
        have e1 : m = maxL i is := by
          obtain ⟨h1, h2⟩ := maxL_ge is i
          have h3 : maxL i is ∈ i :: is := by rcases maxL_mem is i with z | z; · rw [z]; simp
                                              · exact .tail _ z
          have h4 := hle _ h3
          rcases List.mem_cons.mp hm with z | z
          · subst z; omega
          · have := h2 m z; omega
        rw [e1]
        exact q _ _ .refl .int
      · exact cr_maxT hc (by omega) pins s σ H _ us Q I r ⟨a, i, is, rfl, by rw [hK]; exact h, q _ _ .refl .int⟩
    · cases e
  · obtain ⟨v, rfl, rv⟩ := rr.inv1
    split at e
    · rename_i is hi
      cases e
      obtain ⟨a, rfl, h | h⟩ := seq_ints hS rv hi
      · exact cr_sum hc pins s σ H _ us Q I r ⟨a, is, rfl, by rw [hK]; exact h, q _ _ .refl .int⟩
      · exact cr_sumT hc pins s σ H _ us Q I r ⟨a, is, rfl, by rw [hK]; exact h, q _ _ .refl .int⟩
    · cases e
  · obtain ⟨v, rfl, rv⟩ := rr.inv1
    split at e
    · rename_i is hl hi
      cases e
      obtain ⟨a, rfl, h⟩ := list_bools hS rv hl hi
      exact cr_all hc pins s σ H _ us Q I r ⟨a, is, rfl, by rw [hK]; exact h, q _ _ .refl .bl⟩
    · cases e
  · obtain ⟨v, rfl, rv⟩ := rr.inv1
    split at e
    · rename_i is hl hi
      cases e
      obtain ⟨a, rfl, h⟩ := list_bools hS rv hl hi
      exact cr_any hc pins s σ H _ us Q I r ⟨a, is, rfl, by rw [hK]; exact h, q _ _ .refl .bl⟩
    · cases e
  · obtain ⟨v, rfl, rv⟩ := rr.inv1
    split at e
    · rename_i ds' hi
      cases e
      obtain ⟨a, vs, rfl, rr, h⟩ := items_ok hS rv hi
      rcases h with ⟨h, _⟩ | ⟨h, _⟩
      · refine call_tuple_of pins s σ H _ us Q I r ⟨_, _, rfl, .inl ⟨by rw [hK]; exact h, fun l hl => ?_⟩⟩
        have g := Grow.new (ι := ι) (o := .tup vs) hl
        exact q _ _ (.new hS hl) (.tup (.inl (.inl upd_same)) (RelDs.mono g rr))
      · exact call_tuple_of pins s σ H _ us Q I r ⟨_, _, rfl, .inr ⟨by rw [hK]; exact h, q _ _ .refl (.tup h rr)⟩⟩
    · cases e
  · obtain ⟨v, rfl, rv⟩ := rr.inv1
    split at e
    · rename_i is hl hi
      cases e
      obtain ⟨a, rfl, h⟩ := list_ints hS rv hl hi
      refine cr_sortedI pins s σ H _ us Q I r ⟨a, is, rfl, by rw [hK]; exact h, fun ns' p h1 h2 hp => ?_⟩
      have e1 : ns' = sortI is := sorted_unique (h1.trans (sortI_perm is).symm) h2 (sortI_sorted is)
      subst e1
      exact q _ _ (.new hS hp) (.lst upd_same (new hp) (hS.newB hp) (rel_ints _))
    · exact srt_ok hK hc hS rv e pins s σ H _ us Q I r rfl rfl (fun v H' g r => q v H' g r) new
  · obtain ⟨v, rfl, rv⟩ := rr.inv1
    split at e
    · rename_i p hp
      split at e
      · rename_i ok
        cases e
        have key : ∀ {dd : D}, RelD Z H ι dd v → (res S dd).bind toPy = some p → Dp Z.K H v p := fun {dd} rv hp => by
          cases h1 : res S dd with
          | none => simp [h1] at hp
          | some d1 =>
            simp only [h1, Option.bind_some] at hp
            exact dp_rdd (res_ok hS rv h1) hp
        exact call_reprD hgd hu pins s σ H _ us Q I r ⟨v, p, rfl, by rw [hK]; exact key rv hp, ok, q _ _ .refl .str⟩
      · cases e
    · cases e
  · obtain ⟨v, rfl, rv⟩ := rr.inv1
    cases rv; cases e
    exact call_int1 pins s σ H _ us Q I r (.inl ⟨_, rfl, q _ _ .refl .int⟩)
  · obtain ⟨v, rfl, rv⟩ := rr.inv1
    cases rv; cases e
    exact call_int1 pins s σ H _ us Q I r (.inr ⟨_, rfl, q _ _ .refl .int⟩)
  · cases e
end
end J
/-! J4: expressions: when the small language's text is the program's text, and what that gives -/
namespace J
open PySem L2

/-! ### the check -/
/-- what the text's names stand for -/
structure Tab where
  fns : List Fn
  gints : List (Str × Int)
  gtups : List (Str × List Str)
  excs : List (Str × Str)
  base : Str := ""
/-- the scope at hand; within a comprehension its own -/
structure CS where
  sc : Scope
  fo : Option Scope
def visB (sc : Scope) (x : Str) : Bool := match sc.names.lookup x with
  | some .local => true
  | some .cell => true
  | some .free => true
  | _ => false
def globB (sc : Scope) (x : Str) : Bool := match sc.names.lookup x with
  | some .globalImplicit => true
  | _ => false
def locB (cs : CS) (x : Str) : Bool := match cs.sc.names.lookup x with
  | some .local => true
  | some .cell => (match cs.fo with
    | none => true
    | some s => s.names.lookup x == some .cell)
  | _ => false
def constB : Const → D → Bool
  | .none, .non => true
  | .bool b, .bl c => b == c
  | .int i, .int j => decide (i = j)
  | .str x, .str y => decide (x = y)
  | _, _ => false
def starB : Expr → Bool
  | .Starred _ _ => true
  | _ => false
def setB : Expr → Bool
  | .Set _ _ _ => true
  | _ => false
def opB (a b : Operator) : Bool := decide (a = b)
def tyB : Ty → Bool
  | .valueError => false
  | .exc _ => false
  | .base => false
  | _ => true
def noName (x : Str) : Bool := decide (x ≠ ("__debug__" : Str)) && decide (x ≠ ("__classdict__" : Str)) && decide (x ≠ ("__name__" : Str))
def tyName : Ty → String
  | .int => "int" | .bool => "bool" | .str => "str" | .tuple => "tuple" | .list => "list" | .valueError => "ValueError" | .exc _ => "" | .base => ""
def excB (T : Tab) (c : Nat) (nm : Str) : Bool := match T.excs[c]? with
  | some (n, _) => decide (n = nm)
  | none => false
def plainO : Expr → Bool
  | .Name _ _ => true
  | .Subscript _ _ _ => true
  | _ => false
def meName : Me → Str
  | .index => "index" | .count => "count"
section
variable (T : Tab) (N : List Str)
mutual
def chkT (cs : CS) : E → Expr → Bool
  | .var i, .Name x _ => decide (N[i]? = some x) && locB cs x
  | .tup es, .Tuple xs _ _ => chkTs cs es xs
  | _, _ => false
def chkTs (cs : CS) : E → List Expr → Bool
  | .nil, [] => true
  | .cons t r, x :: xs => chkT cs t x && chkTs cs r xs
  | _, _ => false
end
/-- what makes a list -/
def isF : E → Bool
  | .disp _ => true
  | .plist _ => true
  | .lrg1 t _ => !t
  | .lrg2 t _ _ => !t
  | .comp _ _ _ _ _ _ => true
  | .bin op a _ => (match op with
    | .add => true
    | .mul => true
    | _ => false) && isF a
  | _ => false
/-- a part of a slice -/
def isNonE : E → Bool
  | .con .non => true
  | _ => false
def prtB (b : Bool) (e : E) (f : Expr → Bool) (o : Option Expr) : Bool := match b, o with
  | false, none => isNonE e
  | true, some x => f x
  | _, _ => false
def tstB (ifs : List Expr) (c : E) (f : Expr → Bool) : Bool := match ifs, c with
  | [], .con (.bl true) => true
  | [e], _ => f e
  | _, _ => false
def biB (cs : CS) (x : Str) (n : String) : Bool := decide (x = Str.ofString n) && globB cs.sc x && noName x
def ownS (own : List Nat) : List (Str × Nat) := own.filterMap fun i => (N[i]?).map fun x => (x, i)
/-- a class of exceptions by its name -/
def clsB (cs : CS) (t : Ty) (y : Str) : Bool := match t with
  | .valueError => biB cs y "ValueError"
  | .exc c => excB T c y && globB cs.sc y && noName y
  | .base => decide (T.base = y) && decide (T.excs ≠ []) && globB cs.sc y && noName y
  | _ => false
/-- an iterable -/
def itB (cs : CS) (k : Ik) (A : List Expr → Bool) (t it : Expr) : Bool := match k, t, it with
  | .val, _, it => A [it]
  | .rng1, _, .Call (.Name x _) [a] [] _ => biB cs x "range" && A [a]
  | .rng2, _, .Call (.Name x _) [a, b] [] _ => biB cs x "range" && A [a, b]
  | .rng3, _, .Call (.Name x _) [a, b, c] [] _ => biB cs x "range" && A [a, b, c]
  | .enu, .Tuple _ _ _, .Call (.Name x _) [a] [] _ => biB cs x "enumerate" && A [a]
  | .zip, .Tuple _ _ _, .Call (.Name x _) [a, b] [] _ => biB cs x "zip" && A [a, b]
  | _, _, _ => false
/-- a local name -/
def chkV (cs : CS) (f : E) (x : Str) : Bool := match f with
  | .var i => decide (N[i]? = some x) && visB cs.sc x && noName x
  | _ => false
mutual
def chkE : E → CS → Expr → Bool
  | .var i, cs, .Name x _ => decide (N[i]? = some x) && visB cs.sc x && noName x
  | .con d, _, .Constant c _ _ => constB c d
  | .glob x n, cs, .Name y _ => decide (x = y) && decide ((x, n) ∈ T.gints) && globB cs.sc x && noName x
  | .gtup x ws, cs, .Name y _ => decide (x = y) && decide ((x, ws) ∈ T.gtups) && globB cs.sc x && noName x
  | .fnv f, cs, .Name y _ => (match T.fns[f]? with
    | some fn => decide (fn.name = y)
    | none => false) && globB cs.sc y && noName y
  | .bin op a b, cs, .BinOp l o r _ => opB o (toOp op) && (chkE a cs l && chkE b cs r)
  | .neg a, cs, .UnaryOp .USub x _ => chkE a cs x
  | .not a, cs, .UnaryOp .Not x _ => chkE a cs x
  | .and a b, cs, .BoolOp .And [x, y] _ => chkE a cs x && chkE b cs y
  | .and a b, cs, .BoolOp .And (x :: y :: z :: r) p => chkE a cs x && chkE b cs (.BoolOp .And (y :: z :: r) p)
  | .or a b, cs, .BoolOp .Or [x, y] _ => chkE a cs x && chkE b cs y
  | .or a b, cs, .BoolOp .Or (x :: y :: z :: r) p => chkE a cs x && chkE b cs (.BoolOp .Or (y :: z :: r) p)
  | .cmp op a b, cs, .Compare l [o] [r] _ => decide (o = toCmp op) && !setB r && (chkE a cs l && chkE b cs r)
  | .chn o1 o2 a b c, cs, .Compare l [p1, p2] [r1, r2] _ => decide (p1 = toCmp o1) && decide (p2 = toCmp o2) && !setB r2 && (chkE a cs l && chkE b cs r1 && chkE c cs r2)
  | .chn3 o1 o2 o3 a b c d, cs, .Compare l [p1, p2, p3] [r1, r2, r3] _ => decide (p1 = toCmp o1) && decide (p2 = toCmp o2) && decide (p3 = toCmp o3) && !setB r3 && (chkE a cs l && chkE b cs r1 && chkE c cs r2 && chkE d cs r3)
  | .isn a, cs, .Compare l [.Is] [.Constant .none _ _] _ => chkE a cs l
  | .isnn a, cs, .Compare l [.IsNot] [.Constant .none _ _] _ => chkE a cs l
  | .ite c a b, cs, .IfExp x y z _ => chkE c cs x && chkE a cs y && chkE b cs z
  | .tup as, cs, .Tuple es _ _ => chkA as cs es
  | .disp as, cs, .List es _ => chkA as cs es
  | .idx a i, cs, .Subscript x y _ => chkE a cs x && chkE i cs y && !setB y
  | .slc a bl lo bh hi, cs, .Subscript x (.Slice l h none _) _ => chkE a cs x && prtB bl lo (chkE lo cs) l && prtB bh hi (chkE hi cs) h
  | .call f _ as, cs, .Call (.Name x _) es [] _ => (match T.fns[f]? with
    | some fn => decide (fn.name = x) && decide (es.length ∈ fn.ar)
    | none => false) && globB cs.sc x && noName x && !es.isEmpty && chkA as cs es
  | .callv ars f _ as, cs, .Call (.Name x _) es [] _ => decide (ars = T.fns.map (·.ar)) && chkV N cs f x && !es.isEmpty && chkA as cs es
  | .prim p as, cs, .Call (.Name x _) es [] _ => biB cs x (biOf p).1 && decide ((biOf p).1 ≠ "") && !es.isEmpty && chkA as cs es
  | .isi a t, cs, .Call (.Name x _) [e, .Name y _] [] _ => biB cs x "isinstance" && biB cs y (tyName t) && tyB t && !starB e && chkE a cs e
  | .isx a t, cs, .Call (.Name x _) [e, .Name y _] [] _ => biB cs x "isinstance" && clsB T cs t y && !starB e && chkE a cs e
  | .attr a x, cs, .Attribute e n _ => decide (n = ("reason" : Str)) && decide (x = n) && plainO e && chkE a cs e
  | .meth m o a, cs, .Call (.Attribute e n ap) [v] [] cp => decide (n = meName m) && plainO e && (ap.endLine == cp.line) && chkE o cs e && chkE a cs v && !starB v
  | .dictp a, cs, .Call (.Name x _) [e] [] _ => biB cs x "dict" && chkE a cs e && !starB e
  | .dgt o k d, cs, .Call (.Attribute e n ap) [v, w] [] cp => decide (n = ("get" : Str)) && plainO e && (ap.endLine == cp.line) && chkE o cs e && chkE k cs v && chkE d cs w && !starB v && !starB w
  | .lrg1 t a, cs, .Call (.Name x _) [.Call (.Name y _) [e] [] _] [] _ => biB cs x (if t then "tuple" else "list") && biB cs y "range" && chkE a cs e && !starB e
  | .lrg2 t a b, cs, .Call (.Name x _) [.Call (.Name y _) [e, f] [] _] [] _ => biB cs x (if t then "tuple" else "list") && biB cs y "range" && chkE a cs e && !starB e && chkE b cs f && !starB f
  | .rev a, cs, .Subscript x (.Slice none none (some (.UnaryOp .USub (.Constant (.int i) _ _) _)) _) _ => decide (i = 1) && chkE a cs x
  | .plist a, cs, .Call (.Name x _) [e] [] _ => biB cs x "list" && chkE a cs e && !starB e
  | .comp tg k as c elt own, cs, .ListComp el [⟨t, it, ifs, az⟩] scope _ => decide (az = 0) && itB cs k (chkA as cs) t it && !setB it && (blkC N cs.sc scope (ownS N own) && decide ((ownS N own).map (·.2) = own)) && chkT N ⟨relS scope cs.sc, some scope⟩ tg t && (varsT tg).all (fun i => decide (i ∈ own)) &&
      tstB ifs c (chkE c ⟨relS scope cs.sc, some scope⟩) && chkE elt ⟨relS scope cs.sc, some scope⟩ el
  | .mut e, cs, x => isF e && chkE e cs x
  | .ddisp _, _, .Dict [] [] _ => true
  | .dcomp tg k as c kx vx own, cs, .DictComp ka va [⟨t, it, ifs, az⟩] scope _ => decide (az = 0) && itB cs k (chkA as cs) t it && !setB it && (blkC N cs.sc scope (ownS N own) && decide ((ownS N own).map (·.2) = own)) && chkT N ⟨relS scope cs.sc, some scope⟩ tg t && (varsT tg).all (fun i => decide (i ∈ own)) &&
      tstB ifs c (chkE c ⟨relS scope cs.sc, some scope⟩) && chkE kx ⟨relS scope cs.sc, some scope⟩ ka && chkE vx ⟨relS scope cs.sc, some scope⟩ va
  | _, _, _ => false
termination_by structural x => x
def chkA : E → CS → List Expr → Bool
  | .nil, _, [] => true
  | .cons a r, cs, e :: es => chkE a cs e && !starB e && chkA r cs es
  | _, _, _ => false
termination_by structural x => x
end
abbrev chkP (b : Bool) (e : E) (cs : CS) (o : Option Expr) : Bool := prtB b e (chkE T N e cs) o
abbrev chkI (k : Ik) (as : E) (cs : CS) (t it : Expr) : Bool := itB cs k (chkA T N as cs) t it
end

/-! ### the ground -/
def freeN : List Str := ["len", "abs", "min", "max", "sum", "all", "any", "tuple", "list", "int", "sorted", "repr", "range", "enumerate", "zip", "isinstance", "bool", "str", "ValueError", "dict", "set", "super"]
def never : WX := fun _ _ _ _ => False
/-- f(..) of the values -/
def CallOk (Z : Sit) (T : Tab) (G : Ctx) (X : Cx) (W : WX) : Prop := ∀ (f : Nat) (fn : Fn) (keep : Bool), T.fns[f]? = some fn →
  ∀ (pins : List (Addr × Obj)) (s : Shared) (σ : L2.St) (H : Hp) (vs : List V) (us : List Value) (Q : VK), vs.length ∈ fn.ar → Inv X pins σ H s → Vals vs us →
    (∃ ds S ι, RelS Z H ι S ∧ RelDs Z H ι ds vs ∧ Pst Z W σ H ι (fun _ _ v H' _ => Q v H') (callF G keep f ds S)) →
    wpAny (model X.prog X.w) X.A (call (.ref (Z.fa f)) us) (EP X pins σ Q) X.xe s
structure Like (X X' : Cx) : Prop where
  prog : X'.prog = X.prog
  w : X'.w = X.w
  K : X'.K = X.K
  mg : X'.mg = X.mg
  base : X'.base = X.base
  A : X'.A = X.A
/-- the own classes of exceptions -/
structure ExcsOk (P : Program) (K : PySem.W.Frag) (mg : Str → Option Value) (Z : Sit) (T : Tab) : Prop where
  cls : ∀ c nm tx, T.excs[c]? = some (nm, tx) → (∃ fI cc cda, PySem.AxX.AxTxt P K mg tx (Z.ca c) fI cc cda) ∧ mg nm = some (.ref (Z.ca c)) ∧ Z.at_ c = ("reason" : Str) ∧ tx.length ≤ 1000
  fld : ∀ c p, T.excs[c]? = some p → XfC K (Z.ca c) ∧ ExcC K (Z.ca c) ∧ PySem.W.findIn K (.ref (Z.ca c)) "reason" = some none
  val : ∀ c p, T.excs[c]? = some p → PySem.W.kitOne K (.ref (Z.ca c)) (.type "ValueError") = some true
  one : ∀ c c' p p', T.excs[c]? = some p → T.excs[c']? = some p' → PySem.W.kitOne K (.ref (Z.ca c)) (.ref (Z.ca c')) = some (c == c')
  base : ∀ c p, T.excs[c]? = some p → mg T.base = some (.ref Z.cb) ∧ PySem.W.kitOne K (.ref (Z.ca c)) (.ref Z.cb) = some true ∧ PySem.W.exmOne K (.ref (Z.ca c)) (.ref Z.cb) = some true
structure Good (Z : Sit) (T : Tab) (G : Ctx) (cs : CS) (X : Cx) (W : WX) : Prop where
  K : X.K = Z.K
  sc : X.env.scope = cs.sc
  fn : ∀ x, locB cs x = true → X.fn x = true ∨ X.env.scope.names.lookup x = some .local
  nd : X.N.Nodup
  units : X.A.units + 65 < cLine
  grd : G.hot = false → X.A.guards = some []
  calm : G.hot = false → X.calm = true
  free : ∀ x ∈ freeN, X.mg x = none
  gints : ∀ x n, (x, n) ∈ T.gints → ∃ t, X.mg x = some (.int n t)
  gtups : ∀ x ws, (x, ws) ∈ T.gtups → ∃ a, X.mg x = some (.ref a) ∧ ∀ H, SqT Z.K H a (ws.map V.str)
  glo : ∀ f fn, T.fns[f]? = some fn → X.mg fn.name = some (.ref (Z.fa f)) ∧ PySem.W.keepIn X.K (.ref (Z.fa f)) = true
  dep : X.A.depth + 1 < recursionLimit
  excs : ExcsOk X.prog X.K X.mg Z T
  xq : ∀ a c dd, Z.xq = some (a, c, dd) → (∃ p, T.excs[c]? = some p) ∧ ∃ oe : Obj, (a, oe) ∈ X.pn ∧ Zc (.ref (Z.ca c)) (some dd) oe ∧ ∃ vs, oe.data = .fields vs
  xq0 : G.hot = false → Z.xq = none
  takes : Takes X W
  calls : ∀ X' W' bad, Like X X' → (G.hot = true → X' = X) → Takes X' W' → CallOk { Z with bad := bad } T G X' W'

section
variable {Z : Sit} {W : WX} {σ : L2.St} {H H' : Hp} {ι ι' : List Addr} {X : Cx} {e : Expr} {S : Store}
theorem peImp {t t' : TE} (h : PE X e t) (f : ∀ σ H Q, t' σ H Q → t σ H Q) : PE X e t' := ⟨fun pins s σ H Q I q => h.run pins s σ H Q I (f σ H Q q)⟩
theorem ptImp {t t' : TT} (h : PT X e t) (f : ∀ σ H Q, t' σ H Q → t σ H Q) : PT X e t' := ⟨fun pins s σ H Q I q => h.run pins s σ H Q I (f σ H Q q)⟩
theorem pwImp {t t' : TT} (h : PW X e t) (f : ∀ σ H Q, t' σ H Q → t σ H Q) : PW X e t' := ⟨fun wh pins s σ H Q I q => h.run wh pins s σ H Q I (f σ H Q q)⟩
theorem paImp {es : List Expr} {t t' : TA} (h : PA X es t) (f : ∀ σ H Q, t' σ H Q → t σ H Q) : PA X es t' := ⟨fun pos pins s σ H Q I q => h.run pos pins s σ H Q I (f σ H Q q)⟩

/-- the evaluation of an argument list -/
def PstA (Z : Sit) (W : WX) (σ : L2.St) (H : Hp) (ι : List Addr) (Q : List D → Store → List V → Hp → List Addr → Prop) : Option (R D) → Prop
  | none => False
  | some (.ok d S) => ∀ ds, tups d = some ds → ∀ vs H' ι', Grow H ι H' ι' → RelS Z H' ι' S → RelDs Z H' ι' ds vs → Q ds S vs H' ι'
  | some (.exn c d S) => ∀ v H' ι' dd, Grow H ι H' ι' → RelS Z H' ι' S → H' dd = some (.xd [(Z.at_ c, v)]) → RelD Z H' ι' d v → W (.ref (Z.ca c)) (some dd) σ H'
def tA (Z : Sit) (W : WX) (m : Env → M D) : TA := fun σ H Q => ∃ env S ι, RelE Z H ι env σ ∧ RelS Z H ι S ∧ PstA Z W σ H ι (fun _ _ vs H' _ => Q vs H') (m env S)
def tT (Z : Sit) (W : WX) (m : Env → M D) : TT := fun σ H Q => ∃ env S ι, RelE Z H ι env σ ∧ RelS Z H ι S ∧ Pst Z W σ H ι (fun d S1 _ H' _ => ∃ b, truS d S1 = some b ∧ Q b H') (m env S)
theorem PstA.mono (g : Grow H ι H' ι') {Q Q' : List D → Store → List V → Hp → List Addr → Prop} (hq : ∀ d S v H2 ι2, Grow H' ι' H2 ι2 → Q d S v H2 ι2 → Q' d S v H2 ι2) : ∀ {r : Option (R D)}, PstA Z W σ H ι Q r → PstA Z W σ H' ι' Q' r
  | none, h => h
  | some (.ok _ _), h => fun ds e v H2 ι2 k s r => hq _ _ _ _ _ k (h ds e v H2 ι2 (g.trans k) s r)
  | some (.exn _ _ _), h => fun v H2 ι2 dd k s e r => h v H2 ι2 dd (g.trans k) s e r

variable {Q : D → Store → V → Hp → List Addr → Prop}
theorem Pst.optS {o : Store → Option D} (hS : RelS Z H ι S) (h : Pst Z W σ H ι Q (M.optS o S)) : ∃ d, o S = some d ∧ ∀ v H', GrowK H ι H' → RelD Z H' ι d v → Q d S v H' ι := by
  unfold M.optS at h
  cases e : o S with
  | none => simp only [e] at h; exact h.elim
  | some d => simp only [e] at h; exact ⟨d, rfl, fun v H' g r => h v H' ι g.grow (hS.keep g) r⟩
theorem Pst.opt {o : Option D} (hS : RelS Z H ι S) (h : Pst Z W σ H ι Q (M.opt o S)) : ∃ d, o = some d ∧ ∀ v H', GrowK H ι H' → RelD Z H' ι d v → Q d S v H' ι := by
  unfold M.opt at h
  cases o with
  | none => exact h.elim
  | some d => exact ⟨d, rfl, fun v H' g r => h v H' ι g.grow (hS.keep g) r⟩
theorem Pst.ret {d : D} (hS : RelS Z H ι S) (h : Pst Z W σ H ι Q (M.ret d S)) : ∀ v H', GrowK H ι H' → RelD Z H' ι d v → Q d S v H' ι := fun v H' g r => h v H' ι g.grow (hS.keep g) r
theorem Pst.bindOptS {α : Type} {o : Store → Option α} {f : α → M D} (h : Pst Z W σ H ι Q (((M.optS o).bind f) S)) : ∃ a, o S = some a ∧ Pst Z W σ H ι Q (f a S) := by
  unfold M.bind M.optS at h
  cases e : o S with
  | none => simp only [e] at h; exact h.elim
  | some d => simp only [e] at h; exact ⟨d, rfl, h⟩
theorem Pst.bindOpt {α : Type} {o : Option α} {f : α → M D} (h : Pst Z W σ H ι Q (((M.opt o).bind f) S)) : ∃ a, o = some a ∧ Pst Z W σ H ι Q (f a S) := by
  unfold M.bind M.opt at h
  cases o with
  | none => exact h.elim
  | some d => exact ⟨d, rfl, h⟩
/-- one part, then f -/
theorem tE1 {ma : Env → M D} {f : D → M D} {env : Env} (hE : RelE Z H ι env σ) (hS : RelS Z H ι S) (h : Pst Z W σ H ι Q (((ma env).bind f) S)) :
    tE Z W ma σ H fun x H1 => ∃ dx S1 ι1, Grow H ι H1 ι1 ∧ RelE Z H1 ι1 env σ ∧ RelS Z H1 ι1 S1 ∧ RelD Z H1 ι1 dx x ∧ Pst Z W σ H1 ι1 Q (f dx S1) :=
  ⟨env, S, ι, hE, hS, h.split.imp fun d S1 v H1 ι1 g s r q => ⟨d, S1, ι1, g, hE.mono g, s, r, q.2.2.2⟩⟩
theorem tT1 {ma : Env → M D} {f : Bool → M D} {env : Env} (hE : RelE Z H ι env σ) (hS : RelS Z H ι S) (h : Pst Z W σ H ι Q (((ma env).bind fun x => (M.optS (truS x)).bind f) S)) :
    tT Z W ma σ H fun b H1 => ∃ S1 ι1, Grow H ι H1 ι1 ∧ RelE Z H1 ι1 env σ ∧ RelS Z H1 ι1 S1 ∧ Pst Z W σ H1 ι1 Q (f b S1) :=
  ⟨env, S, ι, hE, hS, h.split.imp fun d S1 v H1 ι1 g s r q => by
    obtain ⟨b, e, q2⟩ := q.2.2.2.bindOptS
    exact ⟨b, e, S1, ι1, g, hE.mono g, s, q2⟩⟩
theorem Pst.splitA {m : M D} {f : List D → M D} (h : Pst Z W σ H ι Q ((m.bind fun a => (M.opt (tups a)).bind f) S)) :
    PstA Z W σ H ι (fun ds S1 vs H1 ι1 => Grow H ι H1 ι1 ∧ RelS Z H1 ι1 S1 ∧ RelDs Z H1 ι1 ds vs ∧ Pst Z W σ H1 ι1 Q (f ds S1)) (m S) := by
  unfold M.bind at h
  cases e : m S with
  | none => rw [e] at h; exact h
  | some r =>
    rw [e] at h
    cases r with
    | exn c d S1 => exact h
    | ok d S1 =>
      intro ds hd vs H1 ι1 g s r
      simp only [hd, M.opt] at h
      exact ⟨g, s, r, h.mono g fun _ _ _ _ _ _ q => q⟩
theorem tA1 {ma : Env → M D} {f : List D → M D} {env : Env} (hE : RelE Z H ι env σ) (hS : RelS Z H ι S) (h : Pst Z W σ H ι Q (((ma env).bind fun a => (M.opt (tups a)).bind f) S)) :
    tA Z W ma σ H fun xs H1 => ∃ ds S1 ι1, Grow H ι H1 ι1 ∧ RelE Z H1 ι1 env σ ∧ RelS Z H1 ι1 S1 ∧ RelDs Z H1 ι1 ds xs ∧ Pst Z W σ H1 ι1 Q (f ds S1) := by
  refine ⟨env, S, ι, hE, hS, ?_⟩
  have q := h.splitA
  cases e : ma env S with
  | none => rw [e] at q; exact q
  | some r =>
    rw [e] at q
    cases r with
    | exn c d S1 => exact q
    | ok d S1 => exact fun ds hd vs H1 ι1 g s r => ⟨ds, S1, ι1, g, hE.mono g, s, r, (q ds hd vs H1 ι1 g s r).2.2.2⟩
end
section
variable {Z : Sit} {T : Tab} {G : Ctx} {cs : CS} {X : Cx} {W : WX}
theorem vis_of (g : Good Z T G cs X W) {x : Str} (h : visB cs.sc x = true) : Vis X.env.scope x := by
  unfold visB at h
  unfold Vis
  rw [g.sc]
  split at h
  · exact .inl (by assumption)
  · exact .inr (.inl (by assumption))
  · exact .inr (.inr (by assumption))
  · cases h
theorem gl_of (g : Good Z T G cs X W) {x : Str} (h : globB cs.sc x = true) : Gl X x := by
  unfold globB at h
  show X.env.scope.names.lookup x = _
  rw [g.sc]
  split at h
  · assumption
  · cases h
theorem loc_of (g : Good Z T G cs X W) {x : Str} (h : locB cs x = true) : L2.Loc X.env.scope x := by
  unfold locB at h
  unfold L2.Loc
  rw [g.sc]
  split at h
  · exact .inl (by assumption)
  · exact .inr (by assumption)
  · cases h
theorem noName_dbg {x : Str} (h : noName x = true) : (x == ("__debug__" : Str)) = false ∧ (x == ("__classdict__" : Str)) = false ∧ x ≠ "__name__" := by
  unfold noName at h
  simp only [Bool.and_eq_true, decide_eq_true_eq] at h
  exact ⟨beq_eq_false_iff_ne.mpr h.1.1, beq_eq_false_iff_ne.mpr h.1.2, h.2⟩
theorem starEach_of {e : Expr} (h : starB e = false) (es : List Expr) (env : PySem.Env) : starEach (e :: es) env = (false, eval e env) :: starEach es env := by
  cases e <;> first | rfl | (cases h; done)
theorem marks_of {e : Expr} (h : setB e = false) (op : CmpOp) : behindInMarks op e = false := by
  cases e <;> first | rfl | (cases h; done)
theorem plain_star : ∀ {es : List Expr}, (∀ e ∈ es, starB e = false) → ∀ (pos : Pos) (env : PySem.Env), (backTo pos (starEach es env)).any (·.1) = false
  | [], _, _, _ => rfl
  | e :: es, h, pos, env => by
    rw [starEach_of (h e (List.mem_cons_self ..))]
    show (false || (backTo pos (starEach es env)).any (·.1)) = false
    rw [plain_star (fun x hx => h x (List.mem_cons_of_mem _ hx))]
    rfl

/-! ### the constructs -/
section
variable {x y z p q : Expr} {a b c d : E} {pos : Pos}
theorem pe_J_var (g : Good Z T G cs X W) {i : Nat} {n : Str} (hi : X.N[i]? = some n) (hv : visB cs.sc n = true) (hn : noName n = true) : PE X (.Name n pos) (tE Z W (ev G (.var i))) := by
  obtain ⟨h1, h2, _⟩ := noName_dbg hn
  refine peImp (pe_var hi (vis_of g hv) h1 h2) fun σ H Q ⟨env, S, ι, hE, hS, h⟩ => ?_
  obtain ⟨d, e, h⟩ := Pst.opt hS (show Pst Z W σ H ι _ (M.opt (env[i]?.bind id) S) from h)
  have e1 : env[i]? = some (some d) := by
    cases q : env[i]? with
    | none => simp [q] at e
    | some o => simp [q] at e; rw [e]
  obtain ⟨v, e2, r⟩ := hE.at_ i d e1
  exact ⟨v, e2, h v H .refl r⟩
theorem pe_J_con {c : Const} {k : Nat} {d : D} (h : constB c d = true) : PE X (.Constant c k pos) (tE Z W (ev G (.con d))) := by
  cases c <;> cases d <;> first
    | (cases h; done)
    | (refine peImp pe_non fun σ H Q ⟨env, S, ι, hE, hS, q⟩ => ?_; exact Pst.ret hS q _ H .refl .non)
    | (refine peImp pe_bl fun σ H Q ⟨env, S, ι, hE, hS, q⟩ => ?_; have e := eq_of_beq h; subst e; exact Pst.ret hS q _ H .refl .bl)
    | (refine peImp pe_int fun σ H Q ⟨env, S, ι, hE, hS, q⟩ => ?_; have e := of_decide_eq_true h; subst e; exact Pst.ret hS q _ H .refl .int)
    | (refine peImp pe_str fun σ H Q ⟨env, S, ι, hE, hS, q⟩ => ?_; have e := of_decide_eq_true h; subst e; exact Pst.ret hS q _ H .refl .str)
theorem pe_J_glob (g : Good Z T G cs X W) {n : Str} {i : Int} (h : (n, i) ∈ T.gints) (hg : globB cs.sc n = true) (hn : noName n = true) : PE X (.Name n pos) (tE Z W (ev G (.glob n i))) := by
  obtain ⟨t, e⟩ := g.gints n i h
  refine peImp (pe_glob (v := .int i) (gl_of g hg) e ⟨t, rfl⟩ (noName_dbg hn).1) fun σ H Q ⟨env, S, ι, hE, hS, q⟩ => ?_
  exact Pst.ret hS q _ H .refl .int
theorem rel_strs {H : Hp} {ι : List Addr} : ∀ ws : List Str, RelDs Z H ι (ws.map .str) (ws.map V.str)
  | [] => .nil
  | _ :: r => .cons .str (rel_strs r)
theorem pe_J_gtup (g : Good Z T G cs X W) {n : Str} {ws : List Str} (h : (n, ws) ∈ T.gtups) (hg : globB cs.sc n = true) (hn : noName n = true) : PE X (.Name n pos) (tE Z W (ev G (.gtup n ws))) := by
  obtain ⟨a, e, ht⟩ := g.gtups n ws h
  refine peImp (pe_glob (v := .ref a) (gl_of g hg) e rfl (noName_dbg hn).1) fun σ H Q ⟨env, S, ι, hE, hS, q⟩ => ?_
  exact Pst.ret hS q _ H .refl (.tup (ht H) (rel_strs ws))
theorem pe_J_fnv (g : Good Z T G cs X W) {f : Nat} {fn : Fn} (h : T.fns[f]? = some fn) (hg : globB cs.sc fn.name = true) (hn : noName fn.name = true) : PE X (.Name fn.name pos) (tE Z W (ev G (.fnv f))) := by
  refine peImp (pe_glob (v := .ref (Z.fa f)) (gl_of g hg) (g.glo f fn h).1 rfl (noName_dbg hn).1) fun σ H Q ⟨env, S, ι, hE, hS, q⟩ => ?_
  exact Pst.ret hS q _ H .refl .fn
theorem pe_J_bin (g : Good Z T G cs X W) {op : BO} {o : Operator} (ho : opB o (toOp op) = true) (ha : PE X x (tE Z W (ev G a))) (hb : PE X y (tE Z W (ev G b))) : PE X (.BinOp x o y pos) (tE Z W (ev G (.bin op a b))) := by
  have e := of_decide_eq_true ho
  subst e
  refine peImp (pe_op (op_bin g.K op) ha hb) fun σ H Q ⟨env, S, ι, hE, hS, h⟩ => ?_
  obtain ⟨env', S', ι', q1, q2, q3⟩ := tE1 (ma := ev G a) (f := fun x => (ev G b env).bind fun y => M.optS (binS op x y)) hE hS h
  refine ⟨env', S', ι', q1, q2, q3.imp fun _ _ v H1 ι1 _ _ _ ⟨dx, S1, ι1', g1, hE1, hS1, r1, h1⟩ => ?_⟩
  obtain ⟨env2, S2, ι2, p1, p2, p3⟩ := tE1 (ma := ev G b) hE1 hS1 h1
  refine ⟨env2, S2, ι2, p1, p2, p3.imp fun _ _ w H2 _ _ _ _ ⟨dy, S3, ι3, g2, hE2, hS2, r2, h2⟩ => ?_⟩
  obtain ⟨d, e, k⟩ := Pst.optS hS2 h2
  exact ⟨dx, dy, S3, ι3, d, hS2, r1.mono g2, r2, e, fun v H' gk r => k v H' gk r⟩
theorem pe_J_neg (g : Good Z T G cs X W) (ha : PE X x (tE Z W (ev G a))) : PE X (.UnaryOp .USub x pos) (tE Z W (ev G (.neg a))) := by
  refine peImp (pe_un un_neg ha) fun σ H Q ⟨env, S, ι, hE, hS, h⟩ => ?_
  obtain ⟨env', S', ι', q1, q2, q3⟩ := tE1 (ma := ev G a) hE hS h
  refine ⟨env', S', ι', q1, q2, q3.imp fun _ _ v H1 ι1 _ _ _ ⟨dx, S1, ι1', g1, hE1, hS1, r1, h1⟩ => ?_⟩
  obtain ⟨d, e, k⟩ := Pst.opt hS1 h1
  cases r1 <;> first
    | (cases e; done)
    | (cases e; exact ⟨_, rfl, k _ _ .refl .int⟩)
theorem truV_of (g : Good Z T G cs X W) {H : Hp} {ι : List Addr} {S : Store} {d : D} {v : V} {t : Bool} (hS : RelS Z H ι S) (r : RelD Z H ι d v) (e : truS d S = some t) : TruV X.K v H t := by
  rw [g.K]; exact tru_rel hS r e
theorem pe_J_not (g : Good Z T G cs X W) (ha : PE X x (tE Z W (ev G a))) : PE X (.UnaryOp .Not x pos) (tE Z W (ev G (.not a))) := by
  refine peImp (pe_notT ha) fun σ H Q ⟨env, S, ι, hE, hS, h⟩ => ?_
  obtain ⟨env', S', ι', q1, q2, q3⟩ := tE1 (ma := ev G a) hE hS h
  refine ⟨env', S', ι', q1, q2, q3.imp fun _ _ v H1 ι1 _ _ _ ⟨dx, S1, ι1', g1, hE1, hS1, r1, h1⟩ => ?_⟩
  obtain ⟨t, e, h2⟩ := h1.bindOptS
  exact ⟨t, truV_of g hS1 r1 e, Pst.ret hS1 h2 _ _ .refl .bl⟩
theorem pe_J_and (g : Good Z T G cs X W) {r : List Expr} (ha : PE X x (tE Z W (ev G a))) (hb : PE X (.BoolOp .And (y :: r) pos) (tE Z W (ev G b))) : PE X (.BoolOp .And (x :: y :: r) pos) (tE Z W (ev G (.and a b))) := by
  refine peImp (pe_andT ha hb) fun σ H Q ⟨env, S, ι, hE, hS, h⟩ => ?_
  obtain ⟨env', S', ι', q1, q2, q3⟩ := tE1 (ma := ev G a) hE hS h
  refine ⟨env', S', ι', q1, q2, q3.imp fun _ _ v H1 ι1 _ _ _ ⟨dx, S1, ι1', g1, hE1, hS1, r1, h1⟩ => ?_⟩
  obtain ⟨t, e, h2⟩ := h1.bindOptS
  refine ⟨t, truV_of g hS1 r1 e, ?_⟩
  cases t with
  | true => rw [if_pos rfl] at h2 ⊢; exact ⟨env, S1, ι1', hE1, hS1, h2⟩
  | false => rw [if_neg Bool.false_ne_true] at h2 ⊢; exact Pst.ret hS1 h2 _ _ .refl r1
theorem pe_J_or (g : Good Z T G cs X W) {r : List Expr} (ha : PE X x (tE Z W (ev G a))) (hb : PE X (.BoolOp .Or (y :: r) pos) (tE Z W (ev G b))) : PE X (.BoolOp .Or (x :: y :: r) pos) (tE Z W (ev G (.or a b))) := by
  refine peImp (pe_orT ha hb) fun σ H Q ⟨env, S, ι, hE, hS, h⟩ => ?_
  obtain ⟨env', S', ι', q1, q2, q3⟩ := tE1 (ma := ev G a) hE hS h
  refine ⟨env', S', ι', q1, q2, q3.imp fun _ _ v H1 ι1 _ _ _ ⟨dx, S1, ι1', g1, hE1, hS1, r1, h1⟩ => ?_⟩
  obtain ⟨t, e, h2⟩ := h1.bindOptS
  refine ⟨t, truV_of g hS1 r1 e, ?_⟩
  cases t with
  | true => rw [if_pos rfl] at h2 ⊢; exact Pst.ret hS1 h2 _ _ .refl r1
  | false => rw [if_neg Bool.false_ne_true] at h2 ⊢; exact ⟨env, S1, ι1', hE1, hS1, h2⟩
/-- a comparison's wish -/
theorem cmp_step {op : CO} {σ : L2.St} {H : Hp} {ι : List Addr} {S : Store} {dx dy : D} {v w : V} {k : Bool → M D} {Q : VK} (hS : RelS Z H ι S) (r1 : RelD Z H ι dx v) (r2 : RelD Z H ι dy w)
    (h : Pst Z W σ H ι (fun _ _ v H' _ => Q v H') (((M.optS (cmpS op dx dy)).bind k) S)) :
    rOp Z (fun a b S => (cmpS op a b S).map .bl) v w H fun z H' => ∃ t, z = .bl t ∧ Grow H ι H' ι ∧ RelS Z H' ι S ∧ Pst Z W σ H' ι (fun _ _ v H' _ => Q v H') (k t S) := by
  obtain ⟨t, e, h2⟩ := h.bindOptS
  refine ⟨dx, dy, S, ι, .bl t, hS, r1, r2, by show Option.map D.bl (cmpS op dx dy S) = _; rw [e]; rfl, fun z H' gk r => ?_⟩
  cases r
  exact ⟨t, rfl, gk.grow, hS.keep gk, h2.mono gk.grow fun _ _ _ _ _ _ q => q⟩
theorem cmp_imp {op : CO} : ∀ σ H Q, tE Z W (ev G (.cmp op a b)) σ H Q → tOp (rOp Z fun a b S => (cmpS op a b S).map .bl) (tE Z W (ev G a)) (tE Z W (ev G b)) σ H Q := by
  intro σ H Q ⟨env, S, ι, hE, hS, h⟩
  obtain ⟨env', S', ι', q1, q2, q3⟩ := tE1 (ma := ev G a) (f := fun x => (ev G b env).bind fun y => (M.optS (cmpS op x y)).bind fun t => M.ret (.bl t)) hE hS h
  refine ⟨env', S', ι', q1, q2, q3.imp fun _ _ v H1 ι1 _ _ _ ⟨dx, S1, ι1', g1, hE1, hS1, r1, h1⟩ => ?_⟩
  obtain ⟨env2, S2, ι2, p1, p2, p3⟩ := tE1 (ma := ev G b) hE1 hS1 h1
  refine ⟨env2, S2, ι2, p1, p2, p3.imp fun _ _ w H2 _ _ _ _ ⟨dy, S3, ι3, g2, hE2, hS2, r2, h2⟩ => ?_⟩
  obtain ⟨ex, ey, S5, ι5, d5, k1, k2, k3, k4, k5⟩ := cmp_step hS2 (r1.mono g2) r2 h2
  refine ⟨ex, ey, S5, ι5, d5, k1, k2, k3, k4, fun v H' gk r => ?_⟩
  obtain ⟨t, rfl, g3, hS3, h3⟩ := k5 v H' gk r
  exact Pst.ret hS3 h3 _ _ .refl .bl

/-- rOp's wish, weakened -/
theorem pe_J_cmp (g : Good Z T G cs X W) {op : CO} {o : CmpOp} (ho : o = toCmp op) (hm : setB y = false) (ha : PE X x (tE Z W (ev G a))) (hb : PE X y (tE Z W (ev G b))) : PE X (.Compare x [o] [y] pos) (tE Z W (ev G (.cmp op a b))) := by
  subst ho
  exact peImp (pe_cmpR (op_cmp g.K g.units op) ha hb (marks_of hm _)) cmp_imp
theorem rOp.imp {f : D → D → Store → Option D} {v w : V} {H : Hp} {Q Q' : VK} (h : rOp Z f v w H Q) (k : ∀ z H', Q z H' → Q' z H') : rOp Z f v w H Q' := by
  obtain ⟨a, b, S, ι, d, h1, h2, h3, h4, h5⟩ := h
  exact ⟨a, b, S, ι, d, h1, h2, h3, h4, fun v H' g r => k _ _ (h5 v H' g r)⟩
theorem lm2 {p1 p2 : CmpOp} {r1 r2 : Expr} (h : setB r2 = false) : lastMarks [p1, p2] [r1, r2] = false := by
  show behindInMarks p2 r2 = false
  exact marks_of h _
theorem lm3 {p1 p2 p3 : CmpOp} {r1 r2 r3 : Expr} (h : setB r3 = false) : lastMarks [p1, p2, p3] [r1, r2, r3] = false := by
  show behindInMarks p3 r3 = false
  exact marks_of h _
theorem chn_imp {o1 o2 : CO} : ∀ σ H Q, tE Z W (ev G (.chn o1 o2 a b c)) σ H Q → tChain (rOp Z fun a b S => (cmpS o1 a b S).map .bl) (rOp Z fun a b S => (cmpS o2 a b S).map .bl) (tE Z W (ev G a)) (tE Z W (ev G b)) (tE Z W (ev G c)) σ H Q := by
  intro σ H Q ⟨env, S, ι, hE, hS, h⟩
  obtain ⟨env', S', ι', q1, q2, q3⟩ := tE1 (ma := ev G a) (f := fun x => (ev G b env).bind fun y => (M.optS (cmpS o1 x y)).bind fun t =>
      if t then (ev G c env).bind fun z => (M.optS (cmpS o2 y z)).bind fun t2 => M.ret (.bl t2) else M.ret (.bl false)) hE hS h
  refine ⟨env', S', ι', q1, q2, q3.imp fun _ _ v H1 ι1 _ _ _ ⟨dx, S1, ι1', g1, hE1, hS1, r1, h1⟩ => ?_⟩
  obtain ⟨env2, S2, ι2, p1, p2, p3⟩ := tE1 (ma := ev G b) hE1 hS1 h1
  refine ⟨env2, S2, ι2, p1, p2, p3.imp fun _ _ w H2 _ _ _ _ ⟨dy, S3, ι3, g2, hE2, hS2, r2, h2⟩ => ?_⟩
  refine (cmp_step hS2 (r1.mono g2) r2 h2).imp fun z H3 ⟨t, e, g3, hS3, h3⟩ => ⟨t, e, ?_⟩
  cases t with
  | false => rw [if_neg Bool.false_ne_true] at h3 ⊢; exact Pst.ret hS3 h3 _ _ .refl .bl
  | true =>
    rw [if_pos rfl] at h3 ⊢
    obtain ⟨env4, S4, ι4, p1, p2, p3⟩ := tE1 (ma := ev G c) (hE2.mono g3) hS3 h3
    refine ⟨env4, S4, ι4, p1, p2, p3.imp fun _ _ w H4 _ _ _ _ ⟨dz, S5, ι5, g4, hE4, hS4, r4, h4⟩ => ?_⟩
    refine (cmp_step hS4 ((r2.mono g3).mono g4) r4 h4).imp fun z H3 ⟨t, e, g5, hS5, h5⟩ => ?_
    subst e
    exact Pst.ret hS5 h5 _ _ .refl .bl
theorem pe_J_chn (g : Good Z T G cs X W) {o1 o2 : CO} (hm : setB z = false) (ha : PE X x (tE Z W (ev G a))) (hb : PE X y (tE Z W (ev G b))) (hc : PE X z (tE Z W (ev G c))) :
    PE X (.Compare x [toCmp o1, toCmp o2] [y, z] pos) (tE Z W (ev G (.chn o1 o2 a b c))) := by
  exact peImp (pe_chain (op_cmp g.K g.units o1) (op_cmp g.K g.units o2) ha hb hc (lm2 hm)) chn_imp
theorem chn3_imp {o1 o2 o3 : CO} : ∀ σ H Q, tE Z W (ev G (.chn3 o1 o2 o3 a b c d)) σ H Q → tChain3 (rOp Z fun a b S => (cmpS o1 a b S).map .bl) (rOp Z fun a b S => (cmpS o2 a b S).map .bl) (rOp Z fun a b S => (cmpS o3 a b S).map .bl) (tE Z W (ev G a)) (tE Z W (ev G b)) (tE Z W (ev G c)) (tE Z W (ev G d)) σ H Q := by
  intro σ H Q ⟨env, S, ι, hE, hS, h⟩
  obtain ⟨env', S', ι', q1, q2, q3⟩ := tE1 (ma := ev G a) (f := fun x => (ev G b env).bind fun y => (M.optS (cmpS o1 x y)).bind fun t =>
      if t then (ev G c env).bind fun z => (M.optS (cmpS o2 y z)).bind fun t2 =>
        if t2 then (ev G d env).bind fun w => (M.optS (cmpS o3 z w)).bind fun t3 => M.ret (.bl t3) else M.ret (.bl false) else M.ret (.bl false)) hE hS h
  refine ⟨env', S', ι', q1, q2, q3.imp fun _ _ v H1 ι1 _ _ _ ⟨dx, S1, ι1', g1, hE1, hS1, r1, h1⟩ => ?_⟩
  obtain ⟨env2, S2, ι2, p1, p2, p3⟩ := tE1 (ma := ev G b) hE1 hS1 h1
  refine ⟨env2, S2, ι2, p1, p2, p3.imp fun _ _ w H2 _ _ _ _ ⟨dy, S3, ι3, g2, hE2, hS2, r2, h2⟩ => ?_⟩
  refine (cmp_step hS2 (r1.mono g2) r2 h2).imp fun z H3 ⟨t, e, g3, hS3, h3⟩ => ⟨t, e, ?_⟩
  cases t with
  | false => rw [if_neg Bool.false_ne_true] at h3 ⊢; exact Pst.ret hS3 h3 _ _ .refl .bl
  | true =>
    rw [if_pos rfl] at h3 ⊢
    obtain ⟨env4, S4, ι4, p1, p2, p3⟩ := tE1 (ma := ev G c) (hE2.mono g3) hS3 h3
    refine ⟨env4, S4, ι4, p1, p2, p3.imp fun _ _ w H4 _ _ _ _ ⟨dz, S5, ι5, g4, hE4, hS4, r4, h4⟩ => ?_⟩
    refine (cmp_step hS4 ((r2.mono g3).mono g4) r4 h4).imp fun z H3 ⟨t, e, g5, hS5, h5⟩ => ⟨t, e, ?_⟩
    cases t with
    | false => rw [if_neg Bool.false_ne_true] at h5 ⊢; exact Pst.ret hS5 h5 _ _ .refl .bl
    | true =>
      rw [if_pos rfl] at h5 ⊢
      obtain ⟨env6, S6, ι6, p1, p2, p3⟩ := tE1 (ma := ev G d) (hE4.mono g5) hS5 h5
      refine ⟨env6, S6, ι6, p1, p2, p3.imp fun _ _ w H4 _ _ _ _ ⟨dw, S7, ι7, g6, hE6, hS6, r6, h6⟩ => ?_⟩
      refine (cmp_step hS6 ((r4.mono g5).mono g6) r6 h6).imp fun z H3 ⟨t, e, g7, hS7, h7⟩ => ?_
      subst e
      exact Pst.ret hS7 h7 _ _ .refl .bl
theorem pe_J_chn3 (g : Good Z T G cs X W) {o1 o2 o3 : CO} (hm : setB p = false) (ha : PE X x (tE Z W (ev G a))) (hb : PE X y (tE Z W (ev G b))) (hc : PE X z (tE Z W (ev G c))) (hd : PE X p (tE Z W (ev G d))) :
    PE X (.Compare x [toCmp o1, toCmp o2, toCmp o3] [y, z, p] pos) (tE Z W (ev G (.chn3 o1 o2 o3 a b c d))) := by
  exact peImp (pe_chain3 (op_cmp g.K g.units o1) (op_cmp g.K g.units o2) (op_cmp g.K g.units o3) ha hb hc hd (lm3 hm)) chn3_imp
theorem isN_rel {H : Hp} {ι : List Addr} {d : D} {v : V} (r : RelD Z H ι d v) : isNon d = decide (v = .non) := by
  cases r <;> simp [isNon]
theorem isn_imp : ∀ σ H Q, tE Z W (ev G (.isn a)) σ H Q → tIsN (tE Z W (ev G a)) σ H Q := by
  intro σ H Q ⟨env, S, ι, hE, hS, h⟩
  obtain ⟨env', S', ι', q1, q2, q3⟩ := tE1 (ma := ev G a) hE hS h
  refine ⟨env', S', ι', q1, q2, q3.imp fun _ _ v H1 ι1 _ _ _ ⟨dx, S1, ι1', g1, hE1, hS1, r1, h1⟩ => ?_⟩
  show Q (V.bl (decide (v = V.non))) H1
  rw [← isN_rel r1]
  exact Pst.ret hS1 h1 _ _ .refl .bl
theorem pe_J_isn (g : Good Z T G cs X W) {k : Nat} {p2 : Pos} (ha : PE X x (tE Z W (ev G a))) : PE X (.Compare x [.Is] [.Constant .none k p2] pos) (tE Z W (ev G (.isn a))) := by
  exact peImp (pe_cmp (pc_isN ha) rfl) isn_imp
theorem isnn_imp : ∀ σ H Q, tE Z W (ev G (.isnn a)) σ H Q → tNotN (tE Z W (ev G a)) σ H Q := by
  intro σ H Q ⟨env, S, ι, hE, hS, h⟩
  obtain ⟨env', S', ι', q1, q2, q3⟩ := tE1 (ma := ev G a) hE hS h
  refine ⟨env', S', ι', q1, q2, q3.imp fun _ _ v H1 ι1 _ _ _ ⟨dx, S1, ι1', g1, hE1, hS1, r1, h1⟩ => ?_⟩
  show Q (V.bl (!decide (v = V.non))) H1
  rw [← isN_rel r1]
  exact Pst.ret hS1 h1 _ _ .refl .bl
theorem pe_J_isnn (g : Good Z T G cs X W) {k : Nat} {p2 : Pos} (ha : PE X x (tE Z W (ev G a))) : PE X (.Compare x [.IsNot] [.Constant .none k p2] pos) (tE Z W (ev G (.isnn a))) := by
  exact peImp (pe_cmp (pc_notN ha) rfl) isnn_imp
theorem pe_J_ite (g : Good Z T G cs X W) (hc : PT X x (tT Z W (ev G c))) (ha : PE X y (tE Z W (ev G a))) (hb : PE X z (tE Z W (ev G b))) : PE X (.IfExp x y z pos) (tE Z W (ev G (.ite c a b))) := by
  refine peImp (pe_ifExp hc ha hb) fun σ H Q ⟨env, S, ι, hE, hS, h⟩ => ?_
  obtain ⟨env', S', ι', q1, q2, q3⟩ := tT1 (ma := ev G c) (f := fun t => if t then ev G a env else ev G b env) hE hS h
  refine ⟨env', S', ι', q1, q2, q3.imp fun d S9 v H1 ι1 _ _ _ ⟨t, e, S1, ι1', g1, hE1, hS1, h1⟩ => ⟨t, e, ?_⟩⟩
  cases t with
  | true => rw [if_pos rfl] at h1 ⊢; exact ⟨env, S1, ι1', hE1, hS1, h1⟩
  | false => rw [if_neg Bool.false_ne_true] at h1 ⊢; exact ⟨env, S1, ι1', hE1, hS1, h1⟩
theorem le_line {n : Nat} (h : n ≤ 1000) : n ≤ sizeLine := by rw [sizeLine_eq]; omega
theorem pe_J_tup (g : Good Z T G cs X W) {es : List Expr} {k : Nat} (ha : PA X es (tA Z W (ev G a))) : PE X (.Tuple es k pos) (tE Z W (ev G (.tup a))) := by
  refine peImp (pe_tup ha) fun σ H Q ⟨env, S, ι, hE, hS, h⟩ => ?_
  obtain ⟨env', S', ι', q1, q2, q3⟩ := tA1 (ma := ev G a) hE hS h
  refine ⟨env', S', ι', q1, q2, q3.mono .refl fun _ _ vs H1 _ _ ⟨ds, S1, ι1, g1, hE1, hS1, rr, h1⟩ => ?_⟩
  obtain ⟨d, e, k⟩ := Pst.opt hS1 h1
  split at e
  · rename_i hl
    cases e
    refine ⟨by rw [← rr.length]; exact le_line hl, fun p hp => ?_⟩
    have gg := Grow.new (ι := ι1) (o := .tup vs) hp
    exact k _ _ (.new hS1 hp) (.tup (.inl (.inl upd_same)) (RelDs.mono gg rr))
  · cases e
/-- what makes a new list: its place was free -/
def PstF (Z : Sit) (W : WX) (σ : L2.St) (H : Hp) (ι : List Addr) (Q : List D → Store → Addr → List V → Hp → List Addr → Prop) : Option (R D) → Prop
  | none => False
  | some (.ok d S) => ∀ ds, lsts d = some ds → ∀ p vs H0 ι', Grow H ι H0 ι' → RelS Z H0 ι' S → RelDs Z H0 ι' ds vs → H0 p = none → Q ds S p vs H0 ι'
  | some (.exn c d S) => ∀ v H' ι' dd, Grow H ι H' ι' → RelS Z H' ι' S → H' dd = some (.xd [(Z.at_ c, v)]) → RelD Z H' ι' d v → W (.ref (Z.ca c)) (some dd) σ H'
def tF (Z : Sit) (W : WX) (m : Env → M D) : TE := fun σ H Q => ∃ env S ι, RelE Z H ι env σ ∧ RelS Z H ι S ∧ PstF Z W σ H ι (fun _ _ p vs H0 _ => Q (.ref p) (upd H0 p (.lst vs))) (m env S)
theorem F_of_E {m : Env → M D} (hl : ∀ env S d S1, m env S = some (.ok d S1) → ∃ ds, d = .lst ds) : ∀ σ H Q, tE Z W m σ H Q → tF Z W m σ H Q := by
  refine fun σ H Q ⟨env, S, ι, hE, hS, h⟩ => ⟨env, S, ι, hE, hS, ?_⟩
  cases e : m env S with
  | none => rw [e] at h; exact h
  | some r =>
    rw [e] at h
    cases r with
    | exn c d S1 => exact h
    | ok d S1 =>
      intro ds hd p vs H0 ι' g s r hp
      obtain ⟨ds', rfl⟩ := hl env S d S1 e
      cases hd
      have gg := Grow.new (ι := ι') (o := .lst vs) hp
      have np : p ∉ ι' := fun m => by
        obtain ⟨o, q, _⟩ := s.there m
        rw [hp] at q; cases q
      exact h _ _ ι' (g.trans gg) (s.new hp) (.lst upd_same np (s.newB hp) (RelDs.mono gg r))
theorem pe_of_F {m : Env → M D} (h : PE X x (tF Z W m)) (hl : ∀ env S d S1, m env S = some (.ok d S1) → ∃ ds, d = .lst ds) : PE X x (tE Z W m) := peImp h (F_of_E hl)
theorem F_of_mut {m : Env → M D} : ∀ σ H Q, tE Z W (fun env => (m env).bind fun d => (M.opt (lsts d)).bind fun ds => alloc (.lst ds)) σ H Q → tF Z W m σ H Q := by
  refine fun σ H Q ⟨env, S, ι, hE, hS, h⟩ => ⟨env, S, ι, hE, hS, ?_⟩
  have h : Pst Z W σ H ι (fun _ _ v H' _ => Q v H') (((m env).bind fun d => (M.opt (lsts d)).bind fun ds => alloc (.lst ds)) S) := h
  unfold M.bind at h
  cases e : m env S with
  | none => rw [e] at h; exact h
  | some r =>
    rw [e] at h
    cases r with
    | exn c d S1 => exact h
    | ok d S1 =>
      intro ds hd p vs H0 ι' g s r hp
      simp only [hd, M.opt, alloc] at h
      have gg := Grow.place (ι := ι') (o := .lst vs) hp
      refine h _ _ (ι' ++ [p]) (g.trans gg) (s.place hp (.lst r)) (.loc ?_)
      rw [← s.len, List.getElem?_append_right (Nat.le_refl _)]
      simp
theorem pe_J_mut {m : Env → M D} (h : PE X x (tF Z W m)) : PE X x (tE Z W fun env => (m env).bind fun d => (M.opt (lsts d)).bind fun ds => alloc (.lst ds)) := peImp h F_of_mut
theorem pe_J_disp {es : List Expr} (ha : PA X es (tA Z W (ev G a))) : PE X (.List es pos) (tF Z W (ev G (.disp a))) := by
  refine peImp (pe_lst ha) fun σ H Q ⟨env, S, ι, hE, hS, h⟩ => ⟨env, S, ι, hE, hS, ?_⟩
  have h : PstF Z W σ H ι (fun _ _ p vs H0 _ => Q (.ref p) (upd H0 p (.lst vs))) (((ev G a env).bind fun d => (M.opt (tups d)).bind fun ds => M.opt (if ds.length ≤ 1000 then some (.lst ds) else none)) S) := h
  unfold M.bind at h
  cases e : ev G a env S with
  | none => rw [e] at h; exact h
  | some r =>
    rw [e] at h
    cases r with
    | exn c d S1 => exact h
    | ok d S1 =>
      intro ds hd vs H1 ι1 g s r
      simp only [hd, M.opt] at h
      by_cases hl : ds.length ≤ 1000
      · rw [if_pos hl] at h
        exact ⟨by rw [← r.length]; exact le_line hl, fun p hp => h ds rfl p vs H1 ι1 g s r hp⟩
      · rw [if_neg hl] at h; exact h.elim
theorem disp_lst {env : Env} {S S1 : Store} {d : D} (h : ev G (.disp a) env S = some (.ok d S1)) : ∃ ds, d = .lst ds := by
  simp only [ev, M.bind, M.opt] at h
  split at h
  · cases h
  · cases h
  · split at h
    · cases h
    · cases h
    · rename_i e
      split at h
      · cases h
      · rename_i q
        split at q
        · cases q; cases h; exact ⟨_, rfl⟩
        · cases q
theorem ne_any {p pos2 : Pos} {n : Str} {es : List Expr} : True := trivial
theorem biB_of (g : Good Z T G cs X W) {n : Str} {b : String} (h : biB cs n b = true) : n = Str.ofString b ∧ Gl X n ∧ (n == ("__debug__" : Str)) = false ∧ n ≠ "__name__" := by
  unfold biB at h
  simp only [Bool.and_eq_true, decide_eq_true_eq] at h
  exact ⟨h.1.1, gl_of g h.1.2, (noName_dbg h.2).1, (noName_dbg h.2).2.2⟩
theorem pe_J_plist (g : Good Z T G cs X W) {n : Str} {p : Pos} (hb : biB cs n "list" = true) (hs : starB x = false) (ha : PE X x (tE Z W (ev G a))) : PE X (.Call (.Name n p) [x] [] pos) (tF Z W (ev G (.plist a))) := by
  obtain ⟨e, h1, h2, h3⟩ := biB_of g hb
  subst e
  refine peImp (pe_callTy call_list_of h1 (g.free _ (by decide +kernel)) (by decide +kernel) (pa_cons ha pa_nil (starEach_of hs _ _)) h3 h2 (starEach_of hs _ _)) fun σ H Q ⟨env, S, ι, hE, hS, h⟩ => ⟨env, S, ι, hE, hS, ?_⟩
  have h : PstF Z W σ H ι (fun _ _ p vs H0 _ => Q (.ref p) (upd H0 p (.lst vs))) (((ev G a env).bind fun d => (M.optS (itemsS d)).bind fun ds => M.ret (.lst ds)) S) := h
  unfold M.bind at h
  cases e : ev G a env S with
  | none => rw [e] at h; exact h
  | some r =>
    rw [e] at h
    cases r with
    | exn c d S1 => exact h
    | ok d S1 =>
      intro v H1 ι1 gr s r
      simp only [M.optS] at h
      cases hi : itemsS d S1 with
      | none => simp only [hi] at h; exact h.elim
      | some ds =>
        simp only [hi, M.ret] at h
        obtain ⟨a', vs, rfl, rr, hq⟩ := items_ok s r hi
        refine ⟨a', vs, rfl, ?_, fun l hl => h ds rfl l vs H1 ι1 gr s rr hl⟩
        rcases hq with ⟨hq, _⟩ | ⟨hq, _⟩
        · exact .inl (by rw [g.K]; exact hq)
        · exact .inr (by rw [g.K]; exact hq)
theorem plist_lst {env : Env} {S S1 : Store} {d : D} (h : ev G (.plist a) env S = some (.ok d S1)) : ∃ ds, d = .lst ds := by
  simp only [ev, M.bind, M.optS, M.ret] at h
  split at h
  · cases h
  · cases h
  · split at h
    · cases h
    · cases h
    · cases h; exact ⟨_, rfl⟩
theorem pe_J_idx (g : Good Z T G cs X W) (hp : PlainIx y) (ha : PE X x (tE Z W (ev G a))) (hb : PE X y (tE Z W (ev G b))) : PE X (.Subscript x y pos) (tE Z W (ev G (.idx a b))) := by
  refine peImp (pe_ix (ix_ok g.K (by have := g.units; omega)) ha hb hp) fun σ H Q ⟨env, S, ι, hE, hS, h⟩ => ?_
  obtain ⟨env', S', ι', q1, q2, q3⟩ := tE1 (ma := ev G a) (f := fun x => (ev G b env).bind fun y => M.optS (idxS x y)) hE hS h
  refine ⟨env', S', ι', q1, q2, q3.imp fun _ _ v H1 ι1 _ _ _ ⟨dx, S1, ι1', g1, hE1, hS1, r1, h1⟩ => ?_⟩
  obtain ⟨env2, S2, ι2, p1, p2, p3⟩ := tE1 (ma := ev G b) hE1 hS1 h1
  refine ⟨env2, S2, ι2, p1, p2, p3.imp fun _ _ w H2 _ _ _ _ ⟨dy, S3, ι3, g2, hE2, hS2, r2, h2⟩ => ?_⟩
  obtain ⟨d, e, k⟩ := Pst.optS hS2 h2
  exact ⟨dx, dy, S3, ι3, d, hS2, r1.mono g2, r2, e, fun v H' gk r => k v H' gk r⟩
theorem ty_of (g : Good Z T G cs X W) {H : Hp} {ι : List Addr} {S : Store} {d : D} {v : V} {t : Ty} {b : Bool} (hS : RelS Z H ι S) (r : RelD Z H ι d v) (e : isiS d t S = some b) (ht : tyB t = true) :
    ∃ T, TyX X.K H v (.type T) ∧ kitB T (tyName t) = some b := by
  have seqT : ∀ {a vs}, SqT Z.K H a vs → TyX X.K H (.ref a) (.type "tuple") := fun h => by
    rcases h with (h | ⟨o, h⟩) | ⟨o, its, n, hk, hc, _⟩
    · exact .base (.tup h)
    · exact .fTuple h
    · exact .kTuple (by rw [g.K]; exact hk) hc
  have seqL : ∀ {a vs}, SqL Z.K H a vs → TyX X.K H (.ref a) (.type "list") := fun h => by
    rcases h with (h | ⟨o, h⟩) | ⟨o, its, n, hk, hc, _⟩
    · exact .base (.lst h)
    · exact .base (.frz h)
    · exact .kList (by rw [g.K]; exact hk) hc
  have fin : ∀ {T : String}, TyX X.K H v (.type T) → kitB T (tyName t) = some b → ∃ T, TyX X.K H v (.type T) ∧ kitB T (tyName t) = some b := fun h1 h2 => ⟨_, h1, h2⟩
  cases r with
  | non => cases t <;> first | (cases e; exact fin (.base .non) (by decide +kernel)) | (cases e; done)
  | bl => cases t <;> first | (cases e; exact fin (.base (.bl _)) (by decide +kernel)) | (cases e; done)
  | int => cases t <;> first | (cases e; exact fin (.base (.int _)) (by decide +kernel)) | (cases e; done)
  | str => cases t <;> first | (cases e; exact fin (.base (.str _)) (by decide +kernel)) | (cases e; done)
  | tup h rr => cases t <;> first | (cases e; exact fin (seqT h) (by decide +kernel)) | (cases e; done)
  | lst h n b rr => cases t <;> first | (cases e; exact fin (seqL (.inl (.inl h))) (by decide +kernel)) | (cases e; done)
  | flst h n b rr => cases t <;> cases e
  | flstF h rr => cases t <;> cases e
  | @loc a l h =>
    cases hl : S[l]? with
    | none => simp [isiS, hl] at e
    | some c =>
      obtain ⟨o, q, rc⟩ := hS.at_ _ _ _ hl h
      cases rc with
      | lst rr =>
        cases t <;> first
          | (simp only [isiS, hl, Option.some.injEq] at e; subst e; exact fin (seqL (.inl (.inl q))) (by decide +kernel))
          | (simp [isiS, hl] at e; done)
      | dct rr => simp [isiS, hl] at e
  | fn => cases t <;> cases e
  | exc q h rr => cases t <;> first | (cases e; done) | (cases ht; done)
theorem pe_J_isi (g : Good Z T G cs X W) {n m : Str} {t : Ty} {p1 p2 : Pos} (hb : biB cs n "isinstance" = true) (hm : biB cs m (tyName t) = true) (ht : tyB t = true) (hs : starB x = false) (ha : PE X x (tE Z W (ev G a))) :
    PE X (.Call (.Name n p1) [x, .Name m p2] [] pos) (tE Z W (ev G (.isi a t))) := by
  obtain ⟨e, h1, h2, h3⟩ := biB_of g hb
  obtain ⟨e', h4, h5, h6⟩ := biB_of g hm
  subst e e'
  have hT : bootBuiltins (Str.ofString (tyName t)) = some (.type (tyName t)) ∧ X.mg (Str.ofString (tyName t)) = none := by
    cases t <;> first | (cases ht; done) | exact ⟨by decide +kernel, g.free _ (by decide +kernel)⟩
  have hpa := pa_cons ha (pa_cons (pe_bltn (pos := p2) (v := .ty (tyName t)) h4 hT.2 hT.1 rfl h6 h5) pa_nil (starEach_of (e := .Name _ p2) rfl _ _)) (starEach_of hs _ _)
  refine peImp (pe_callB call_isi h1 (g.free _ (by decide +kernel)) (by decide +kernel) hpa h3 h2 (starEach_of hs _ _) (plain_star (es := [.Name _ p2]) (fun e he => by rw [List.mem_singleton.mp he]; rfl) pos X.env)) fun σ H Q ⟨env, S, ι, hE, hS, h⟩ => ?_
  obtain ⟨env', S', ι', q1, q2, q3⟩ := tE1 (ma := ev G a) hE hS h
  refine ⟨env', S', ι', q1, q2, q3.imp fun _ _ v H1 ι1 _ _ _ ⟨dx, S1, ι1', g1, hE1, hS1, r1, hq⟩ => ?_⟩
  obtain ⟨b, e, hq2⟩ := hq.bindOptS
  obtain ⟨T', t1, t2⟩ := ty_of g hS1 r1 e ht
  exact ⟨v, _, _, _, b, rfl, .ty _, t1, kit_ty t2, Pst.ret hS1 hq2 _ _ .refl .bl⟩
theorem pe_J_prim (g : Good Z T G cs X W) {n : Str} {pr : Pr} {p1 : Pos} {es : List Expr} (hb : biB cs n (biOf pr).1 = true) (hne : (biOf pr).1 ≠ "") (hs : ∀ e ∈ x :: es, starB e = false) (ha : PA X (x :: es) (tA Z W (ev G a))) :
    PE X (.Call (.Name n p1) (x :: es) [] pos) (tE Z W (ev G (.prim pr a))) := by
  obtain ⟨e, h1, h2, h3⟩ := biB_of g hb
  have key : PE X (.Call (.Name n p1) (x :: es) [] pos) (tCB (fun vs H Q => (X.calm = true ∧ G.hot = false) ∧ rCall Z (primS pr) vs H Q) (tA Z W (ev G a))) := by
    subst e
    have hr : CallR X (biOf pr).2.val (fun vs H Q => (X.calm = true ∧ G.hot = false) ∧ rCall Z (primS pr) vs H Q) := fun pins s σ H vs us Q I r h => call_prim (Z := Z) g.K h.1.1 (g.grd h.1.2) g.units pr pins s σ H vs us Q I r h.2
    have he := starEach_of (hs x (List.mem_cons_self ..)) es X.env
    have hpl := plain_star (es := es) (fun e he => hs e (List.mem_cons_of_mem _ he)) pos X.env
    cases pr <;> first
      | exact pe_callB hr h1 (g.free _ (by decide +kernel)) (by decide +kernel) ha h3 h2 he hpl
      | exact pe_callTy hr h1 (g.free _ (by decide +kernel)) (by decide +kernel) ha h3 h2 he hpl
      | exact absurd rfl hne
  refine peImp key fun σ H Q ⟨env, S, ι, hE, hS, h⟩ => ?_
  obtain ⟨env', S', ι', q1, q2, q3⟩ := tA1 (ma := ev G a) hE hS h
  refine ⟨env', S', ι', q1, q2, q3.mono .refl fun _ _ vs H1 _ _ ⟨ds, S1, ι1, g1, hE1, hS1, rr, hq⟩ => ?_⟩
  by_cases hh : G.hot = true
  · rw [if_pos hh] at hq; exact hq.elim
  · have hc : X.calm = true := g.calm (by simpa using hh)
    rw [if_neg hh] at hq
    obtain ⟨d, e, k⟩ := Pst.optS hS1 hq
    exact ⟨⟨hc, by simpa using hh⟩, ds, S1, ι1, d, hS1, rr, e, fun v H' gk r => k v H' gk r⟩
theorem pe_J_call (g : Good Z T G cs X W) {f : Nat} {fn : Fn} {keep : Bool} {p1 : Pos} {es : List Expr} (hf : T.fns[f]? = some fn) (hl : (x :: es).length ∈ fn.ar) (hg : globB cs.sc fn.name = true) (hn : noName fn.name = true) (hs : ∀ e ∈ x :: es, starB e = false) (ha : PA X (x :: es) (tA Z W (ev G a)))
    (hlen : ∀ σ H Q, tA Z W (ev G a) σ H Q → tA Z W (ev G a) σ H fun vs H' => vs.length = (x :: es).length ∧ Q vs H') : PE X (.Call (.Name fn.name p1) (x :: es) [] pos) (tE Z W (ev G (.call f keep a))) := by
  obtain ⟨hm, hk⟩ := g.glo f fn hf
  refine ⟨fun pins s σ H Q I ⟨env, S, ι, hE, hS, h⟩ => ?_⟩
  have hq := tA1 (ma := ev G a) hE hS h
  have he := starEach_of (hs x (List.mem_cons_self ..)) es X.env
  have hpl := plain_star (es := es) (fun e he => hs e (List.mem_cons_of_mem _ he)) pos X.env
  refine wpAny_Call_Name_kw (ld_glob I (gl_of g hg) hm ?_ (noName_dbg hn).1)
  refine PySem.W.callWith_K (h₀ := X.base) I.ok.mod.kin hk (thn (ha.run pos pins s σ H _ I (hlen _ _ _ hq)) fun us s1 ⟨vs, H1, I1, r, hvl, ds, S1, ι1, g1, hE1, hS1, rr, hp⟩ => ⟨I1.kIn, ?_⟩) he hpl
  have hc := g.calls X W Z.bad ⟨rfl, rfl, rfl, rfl, rfl, rfl⟩ (fun _ => rfl) g.takes
  exact hc f fn keep hf pins s1 σ H1 vs us Q (by rw [hvl]; exact hl) I1 r ⟨ds, S1, ι1, hS1, rr, hp⟩
theorem chkA_lenA {T : Tab} {N : List Str} : ∀ {a : E} {es : List Expr} {cs : CS}, chkA T N a cs es = true → es.length = lenA a := by
  intro a
  induction a with
  | nil =>
    intro es cs h
    cases es with
    | nil => rfl
    | cons _ _ => simp [chkA] at h
  | cons a r _ ih =>
    intro es cs h
    cases es with
    | nil => simp [chkA] at h
    | cons e es =>
      simp only [chkA, Bool.and_eq_true] at h
      simp [lenA, ih h.2]
  | _ => intro es cs h; cases es <;> simp [chkA] at h
theorem pe_J_callv (g : Good Z T G cs X W) {ars : List (List Nat)} {f : E} {n : Str} {keep : Bool} {p1 : Pos} {es : List Expr} (hr : ars = T.fns.map (·.ar)) (hv : chkV X.N cs f n = true) (hal : (x :: es).length = lenA a) (hs : ∀ e ∈ x :: es, starB e = false) (ha : PA X (x :: es) (tA Z W (ev G a)))
    (hlen : ∀ σ H Q, tA Z W (ev G a) σ H Q → tA Z W (ev G a) σ H fun vs H' => vs.length = (x :: es).length ∧ Q vs H') : PE X (.Call (.Name n p1) (x :: es) [] pos) (tE Z W (ev G (.callv ars f keep a))) := by
  cases f <;> first
    | (simp [chkV] at hv; done)
    | skip
  rename_i i
  simp only [chkV, Bool.and_eq_true, decide_eq_true_eq] at hv
  obtain ⟨⟨hv1, hv2⟩, hv3⟩ := hv
  refine ⟨fun pins s σ H Q I ⟨env, S, ι, hE, hS, h⟩ => ?_⟩
  have h : Pst Z W σ H ι (fun _ _ v H' _ => Q v H') (((ev G (.var i) env).bind fun g => match g with
      | .fn i => if arOf ars a i then (ev G a env).bind fun a => (M.opt (tups a)).bind fun ds => callF G keep i ds else M.opt none
      | _ => M.opt none) S) := h
  have he := starEach_of (hs x (List.mem_cons_self ..)) es X.env
  have hpl := plain_star (es := es) (fun e he => hs e (List.mem_cons_of_mem _ he)) pos X.env
  refine wpAny_Call_Name_kw (thn ((pe_J_var (G := G) (pos := p1) g hv1 hv2 hv3).run pins s σ H _ I (tE1 (ma := ev G (.var i)) hE hS h)) fun u s0 ⟨v, H0, I0, rv, dx, S0, ι0, g0, hE0, hS0, rd, hp⟩ => ?_)
  cases rd <;> first
    | (exact hp.elim)
    | skip
  rename_i fi
  obtain rfl : u = Value.ref (Z.fa fi) := rv
  cases hq : arOf ars a fi with
  | false => simp only [hq, Bool.false_eq_true, if_false] at hp; exact hp.elim
  | true =>
    simp only [hq, if_true] at hp
    unfold arOf at hq
    subst hr
    cases hf : T.fns[fi]? with
    | none => simp [hf] at hq
    | some fn =>
      simp only [List.getElem?_map, hf, Option.map_some, decide_eq_true_eq] at hq
      obtain ⟨hm, hk⟩ := g.glo fi fn hf
      have hq2 := tA1 (ma := ev G a) hE0 hS0 hp
      refine PySem.W.callWith_K (h₀ := X.base) I0.ok.mod.kin hk (thn (ha.run pos pins s0 σ H0 _ I0 (hlen _ _ _ hq2)) fun us s1 ⟨vs, H1, I1, r, hvl, ds, S1, ι1, g1, hE1, hS1, rr, hp⟩ => ⟨I1.kIn, ?_⟩) he hpl
      have hc := g.calls X W Z.bad ⟨rfl, rfl, rfl, rfl, rfl, rfl⟩ (fun _ => rfl) g.takes
      exact hc fi fn keep hf pins s1 σ H1 vs us Q (by rw [hvl, hal]; exact hq) I1 r ⟨ds, S1, ι1, hS1, rr, hp⟩

/-! ### parts of a slice, argument lists, tests -/
def tO (Z : Sit) (W : WX) (b : Bool) (m : Env → M D) : TO := fun σ H Q => ∃ env S ι, RelE Z H ι env σ ∧ RelS Z H ι S ∧ Pst Z W σ H ι (fun d _ _ H' _ => ∃ o, partD b d = some o ∧ Q o H') (m env S)
theorem poImp {e : Option Expr} {t t' : TO} (h : PO X e t) (f : ∀ σ H Q, t' σ H Q → t σ H Q) : PO X e t' := by
  constructor
  intro pins s σ H Q I q
  exact h.run pins s σ H Q I (f σ H Q q)
theorem po_J_none : PO X none (tO Z W false (ev G (.con .non))) := by
  refine poImp po_none fun σ H Q ⟨env, S, ι, hE, hS, h⟩ => ?_
  obtain ⟨o, e, q⟩ := Pst.ret (d := .non) hS h .non H .refl .non
  cases e
  exact q
theorem po_J_some (ha : PE X x (tE Z W (ev G a))) : PO X (some x) (tO Z W true (ev G a)) := by
  refine poImp (po_some ha) fun σ H Q ⟨env, S, ι, hE, hS, h⟩ => ⟨env, S, ι, hE, hS, h.imp fun d S1 v H1 ι1 _ _ r ⟨o, e, q⟩ => ?_⟩
  cases r <;> first
    | (cases e; done)
    | (cases e; exact ⟨_, rfl, q⟩)
theorem tO1 {ma : Env → M D} {Q : D → Store → V → Hp → List Addr → Prop} {f : Option Int → M D} {bb : Bool} {env : Env} {S : Store} {ι : List Addr} {H : Hp} {σ : L2.St} (hE : RelE Z H ι env σ) (hS : RelS Z H ι S) (h : Pst Z W σ H ι Q (((ma env).bind fun x => (M.opt (partD bb x)).bind f) S)) :
    tO Z W bb ma σ H fun o H1 => ∃ S1 ι1, Grow H ι H1 ι1 ∧ RelE Z H1 ι1 env σ ∧ RelS Z H1 ι1 S1 ∧ Pst Z W σ H1 ι1 Q (f o S1) :=
  ⟨env, S, ι, hE, hS, h.split.imp fun d S1 v H1 ι1 g s r q => by
    obtain ⟨o, e, q2⟩ := q.2.2.2.bindOpt
    exact ⟨o, e, S1, ι1, g, hE.mono g, s, q2⟩⟩
theorem pe_J_slc (g : Good Z T G cs X W) {l u : Option Expr} {b1 b2 : Bool} {p2 : Pos} (ha : PE X x (tE Z W (ev G a))) (hl : PO X l (tO Z W b1 (ev G b))) (hu : PO X u (tO Z W b2 (ev G c))) : PE X (.Subscript x (.Slice l u none p2) pos) (tE Z W (ev G (.slc a b1 b b2 c))) := by
  refine peImp (pe_slice (sl_ok (Z := Z) g.K) ha hl hu) fun σ H Q ⟨env, S, ι, hE, hS, h⟩ => ?_
  obtain ⟨env', S', ι', q1, q2, q3⟩ := tE1 (ma := ev G a) (f := fun x => (ev G b env).bind fun l => (M.opt (partD b1 l)).bind fun l' => (ev G c env).bind fun h => (M.opt (partD b2 h)).bind fun h' => M.optS (slcS x l' h')) hE hS h
  refine ⟨env', S', ι', q1, q2, q3.imp fun _ _ v H1 ι1 _ _ _ ⟨dx, S1, ι1', g1, hE1, hS1, r1, h1⟩ => ?_⟩
  obtain ⟨env2, S2, ι2, p1, p2, p3⟩ := tO1 (ma := ev G b) (f := fun l' => (ev G c env).bind fun h => (M.opt (partD b2 h)).bind fun h' => M.optS (slcS dx l' h')) hE1 hS1 h1
  refine ⟨env2, S2, ι2, p1, p2, p3.imp fun _ _ w H2 _ _ _ _ ⟨o, eo, S3, ι3, g2, hE2, hS2, h2⟩ => ⟨o, eo, ?_⟩⟩
  obtain ⟨env3, S4, ι4, p1, p2, p3⟩ := tO1 (ma := ev G c) (f := fun h' => M.optS (slcS dx o h')) hE2 hS2 h2
  refine ⟨env3, S4, ι4, p1, p2, p3.imp fun _ _ w H2 _ _ _ _ ⟨o2, eo2, S5, ι5, g3, hE3, hS3, h3⟩ => ⟨o2, eo2, ?_⟩⟩
  obtain ⟨d, e, k⟩ := Pst.optS hS3 h3
  exact ⟨dx, S5, ι5, d, hS3, (r1.mono g2).mono g3, e, fun v H' gk r => k v H' gk r⟩
theorem pa_J_nil : PA X [] (tA Z W (ev G .nil)) := by
  refine paImp pa_nil fun σ H Q ⟨env, S, ι, hE, hS, h⟩ => ?_
  exact h [] rfl [] H ι .refl hS .nil
theorem pa_J_cons {es : List Expr} (hs : starB x = false) (ha : PE X x (tE Z W (ev G a))) (hb : PA X es (tA Z W (ev G b))) : PA X (x :: es) (tA Z W (ev G (.cons a b))) := by
  refine paImp (pa_cons ha hb (starEach_of hs _ _)) fun σ H Q ⟨env, S, ι, hE, hS, h⟩ => ⟨env, S, ι, hE, hS, ?_⟩
  have h : PstA Z W σ H ι (fun _ _ vs H' _ => Q vs H') (((ev G a env).bind fun x => (ev G b env).bind fun y => (M.opt (tups y)).bind fun ds => M.ret (.tup (x :: ds))) S) := h
  unfold M.bind at h
  cases e : ev G a env S with
  | none => rw [e] at h; exact h
  | some r =>
    rw [e] at h
    cases r with
    | exn c d S1 => exact h
    | ok d S1 =>
      intro v H1 ι1 g1 s1 r1
      refine ⟨env, S1, ι1, hE.mono g1, s1, ?_⟩
      simp only at h
      cases e2 : ev G b env S1 with
      | none => simp only [e2] at h; exact h.elim
      | some r2 =>
        simp only [e2] at h
        cases r2 with
        | exn c d S1 => exact fun v H2 ι2 dd g2 s2 e r => h v H2 ι2 dd (g1.trans g2) s2 e r
        | ok d2 S2 =>
          intro ds hd vs H2 ι2 g2 s2 r2
          simp only [hd, M.opt, M.ret] at h
          exact h (d :: ds) rfl (v :: vs) H2 ι2 (g1.trans g2) s2 (.cons (r1.mono g2) r2)
/-- how many values an argument list has -/
theorem args_len : ∀ {a : E} {es : List Expr} {cs : CS} {T : Tab} {N : List Str}, chkA T N a cs es = true → ∀ {G : Ctx} {env : Env} {S S1 : Store} {d : D}, ev G a env S = some (.ok d S1) → ∃ ds, d = .tup ds ∧ ds.length = es.length := by
  intro a
  induction a with
  | nil =>
    intro es cs T N h G env S S1 d e
    cases es with
    | nil => cases e; exact ⟨[], rfl, rfl⟩
    | cons _ _ => simp [chkA] at h
  | cons a r _ ih =>
    intro es cs T N h G env S S1 d e
    cases es with
    | nil => simp [chkA] at h
    | cons x es =>
      simp only [chkA, Bool.and_eq_true] at h
      have e : ((ev G a env).bind fun x => (ev G r env).bind fun y => (M.opt (tups y)).bind fun ds => M.ret (.tup (x :: ds))) S = some (.ok d S1) := e
      unfold M.bind at e
      cases e1 : ev G a env S with
      | none => simp [e1] at e
      | some q =>
        cases q with
        | exn c d S1 => simp [e1] at e
        | ok d1 S2 =>
          simp only [e1] at e
          cases e2 : ev G r env S2 with
          | none => simp [e2] at e
          | some q =>
            cases q with
            | exn c d S1 => simp [e2] at e
            | ok d2 S3 =>
              simp only [e2] at e
              obtain ⟨ds, rfl, hl⟩ := ih h.2 e2
              simp only [tups, M.opt, M.ret, Option.some.injEq, R.ok.injEq] at e
              exact ⟨d1 :: ds, e.1.symm, by simp [hl]⟩
  | _ => intro es cs T N h; cases es <;> simp [chkA] at h
theorem tA_len {es : List Expr} {T : Tab} {N : List Str} (h : chkA T N a cs es = true) (σ : L2.St) (H : Hp) (Q : List V → Hp → Prop) (q : tA Z W (ev G a) σ H Q) : tA Z W (ev G a) σ H fun vs H' => vs.length = es.length ∧ Q vs H' := by
  obtain ⟨env, S, ι, hE, hS, q⟩ := q
  refine ⟨env, S, ι, hE, hS, ?_⟩
  cases e : ev G a env S with
  | none => rw [e] at q; exact q
  | some r =>
    rw [e] at q
    cases r with
    | exn c d S1 => exact q
    | ok d S1 =>
      intro ds hd vs H1 ι1 g1 s1 r1
      obtain ⟨ds', rfl, hl⟩ := args_len h e
      cases hd
      exact ⟨by rw [← r1.length]; exact hl, q ds rfl vs H1 ι1 g1 s1 r1⟩
/-! tests -/
theorem pt_of_pe (g : Good Z T G cs X W) (hp : plainT x = true) (ha : PE X x (tE Z W (ev G a))) : PT X x (tT Z W (ev G a)) := by
  refine ptImp (pt_truth ha (isTrue_of x hp)) fun σ H Q ⟨env, S, ι, hE, hS, h⟩ => ?_
  exact ⟨env, S, ι, hE, hS, h.imp fun d S1 v H1 ι1 _ s r ⟨b, e, q⟩ => ⟨b, truV_of g s r e, q⟩⟩
/-- a and b from truths -/
theorem pw_J_and (g : Good Z T G cs X W) {r : List Expr} (ha : PT X x (tT Z W (ev G a))) (hb : PW X (.BoolOp .And (y :: r) pos) (tT Z W (ev G b))) : PW X (.BoolOp .And (x :: y :: r) pos) (tT Z W (ev G (.and a b))) := by
  refine pwImp (pw_and ha hb) fun σ H Q ⟨env, S, ι, hE, hS, h⟩ => ?_
  have h : Pst Z W σ H ι (fun d S1 _ H' _ => ∃ b, truS d S1 = some b ∧ Q b H') (((ev G a env).bind fun x => (M.optS (truS x)).bind fun t => if t then ev G b env else M.ret x) S) := h
  refine ⟨env, S, ι, hE, hS, h.split.imp fun d S1 v H1 ι1 g1 s1 r1 q => ?_⟩
  obtain ⟨t, e, h2⟩ := q.2.2.2.bindOptS
  refine ⟨t, e, ?_⟩
  cases t with
  | true => rw [if_pos rfl] at h2 ⊢; exact ⟨env, S1, ι1, hE.mono g1, s1, h2⟩
  | false =>
    rw [if_neg Bool.false_ne_true] at h2 ⊢
    obtain ⟨t, e2, q2⟩ := Pst.ret s1 h2 v H1 .refl r1
    rw [e] at e2
    cases e2
    exact q2
theorem pw_J_or (g : Good Z T G cs X W) {r : List Expr} (ha : PT X x (tT Z W (ev G a))) (hb : PW X (.BoolOp .Or (y :: r) pos) (tT Z W (ev G b))) : PW X (.BoolOp .Or (x :: y :: r) pos) (tT Z W (ev G (.or a b))) := by
  refine pwImp (pw_or ha hb) fun σ H Q ⟨env, S, ι, hE, hS, h⟩ => ?_
  have h : Pst Z W σ H ι (fun d S1 _ H' _ => ∃ b, truS d S1 = some b ∧ Q b H') (((ev G a env).bind fun x => (M.optS (truS x)).bind fun t => if t then M.ret x else ev G b env) S) := h
  refine ⟨env, S, ι, hE, hS, h.split.imp fun d S1 v H1 ι1 g1 s1 r1 q => ?_⟩
  obtain ⟨t, e, h2⟩ := q.2.2.2.bindOptS
  refine ⟨t, e, ?_⟩
  cases t with
  | false => rw [if_neg Bool.false_ne_true] at h2 ⊢; exact ⟨env, S1, ι1, hE.mono g1, s1, h2⟩
  | true =>
    rw [if_pos rfl] at h2 ⊢
    obtain ⟨t, e2, q2⟩ := Pst.ret s1 h2 v H1 .refl r1
    rw [e] at e2
    cases e2
    exact q2
theorem pt_J_not (g : Good Z T G cs X W) (ha : PT X x (tT Z W (ev G a))) : PT X (.UnaryOp .Not x pos) (tT Z W (ev G (.not a))) := by
  refine ptImp (pt_not ha) fun σ H Q ⟨env, S, ι, hE, hS, h⟩ => ?_
  have h : Pst Z W σ H ι (fun d S1 _ H' _ => ∃ b, truS d S1 = some b ∧ Q b H') (((ev G a env).bind fun x => (M.optS (truS x)).bind fun b => M.ret (.bl (!b))) S) := h
  refine ⟨env, S, ι, hE, hS, h.split.imp fun d S1 v H1 ι1 g1 s1 r1 q => ?_⟩
  obtain ⟨t, e, h2⟩ := q.2.2.2.bindOptS
  refine ⟨t, e, ?_⟩
  obtain ⟨t2, e2, q2⟩ := Pst.ret s1 h2 (.bl (!t)) H1 .refl .bl
  cases e2
  exact q2
theorem pt_J_ite (g : Good Z T G cs X W) (hc : PT X x (tT Z W (ev G c))) (ha : PT X y (tT Z W (ev G a))) (hb : PT X z (tT Z W (ev G b))) : PT X (.IfExp x y z pos) (tT Z W (ev G (.ite c a b))) := by
  refine ptImp (pt_ifExp hc ha hb) fun σ H Q ⟨env, S, ι, hE, hS, h⟩ => ?_
  obtain ⟨env', S', ι', q1, q2, q3⟩ := tT1 (ma := ev G c) (f := fun t => if t then ev G a env else ev G b env) hE hS h
  refine ⟨env', S', ι', q1, q2, q3.imp fun d S9 v H1 ι1 _ _ _ ⟨t, e, S1, ι1', g1, hE1, hS1, h1⟩ => ⟨t, e, ?_⟩⟩
  cases t with
  | true => rw [if_pos rfl] at h1 ⊢; exact ⟨env, S1, ι1', hE1, hS1, h1⟩
  | false => rw [if_neg Bool.false_ne_true] at h1 ⊢; exact ⟨env, S1, ι1', hE1, hS1, h1⟩
/-- a comparison as a test, from a comparison as a value whose rule is known -/
theorem tT_bl {m : Env → M D} {t : TE} (hb : ∀ env S d S1, m env S = some (.ok d S1) → ∃ b, d = .bl b) (h : ∀ σ H Q, tE Z W m σ H Q → t σ H Q) (σ : L2.St) (H : Hp) (Q : Bool → Hp → Prop) (q : tT Z W m σ H Q) : t σ H fun x H' => ∃ k, x = .bl k ∧ Q k H' := by
  refine h _ _ _ ?_
  obtain ⟨env, S, ι, hE, hS, q⟩ := q
  refine ⟨env, S, ι, hE, hS, ?_⟩
  cases e : m env S with
  | none => rw [e] at q; exact q
  | some r =>
    rw [e] at q
    cases r with
    | exn c d S1 => exact q
    | ok d S1 =>
      obtain ⟨b, rfl⟩ := hb env S d S1 e
      intro v H1 ι1 g1 s1 r1
      obtain ⟨b2, e2, q2⟩ := q v H1 ι1 g1 s1 r1
      cases e2
      cases r1
      exact ⟨_, rfl, q2⟩
theorem bl_bind {m : M D} {f : D → M D} {S S1 : Store} {d : D} (e : (m.bind f) S = some (.ok d S1)) : ∃ a S2, m S = some (.ok a S2) ∧ f a S2 = some (.ok d S1) := by
  unfold M.bind at e
  cases q : m S with
  | none => simp [q] at e
  | some r =>
    simp only [q] at e
    cases r with
    | exn c d S1 => simp at e
    | ok a S2 => exact ⟨a, S2, rfl, e⟩
theorem bl_bindS {α : Type} {o : Store → Option α} {f : α → M D} {S S1 : Store} {d : D} (e : ((M.optS o).bind f) S = some (.ok d S1)) : ∃ a, f a S = some (.ok d S1) := by
  unfold M.bind M.optS at e
  cases q : o S with
  | none => simp [q] at e
  | some a => simp only [q] at e; exact ⟨a, e⟩
theorem cmp_bl {op : CO} (env : Env) (S : Store) (v : D) (S1 : Store) (e : ev G (.cmp op a b) env S = some (.ok v S1)) : ∃ t, v = .bl t := by
  obtain ⟨_, _, _, e⟩ := bl_bind e
  obtain ⟨_, _, _, e⟩ := bl_bind e
  obtain ⟨t, e⟩ := bl_bindS e
  cases e
  exact ⟨_, rfl⟩
theorem chn_bl {o1 o2 : CO} (env : Env) (S : Store) (v : D) (S1 : Store) (e : ev G (.chn o1 o2 a b c) env S = some (.ok v S1)) : ∃ t, v = .bl t := by
  obtain ⟨_, _, _, e⟩ := bl_bind e
  obtain ⟨_, _, _, e⟩ := bl_bind e
  obtain ⟨t, e⟩ := bl_bindS e
  cases t with
  | false => cases e; exact ⟨_, rfl⟩
  | true =>
    obtain ⟨_, _, _, e⟩ := bl_bind e
    obtain ⟨t, e⟩ := bl_bindS e
    cases e
    exact ⟨_, rfl⟩
theorem chn3_bl {o1 o2 o3 : CO} (env : Env) (S : Store) (v : D) (S1 : Store) (e : ev G (.chn3 o1 o2 o3 a b c d) env S = some (.ok v S1)) : ∃ t, v = .bl t := by
  obtain ⟨_, _, _, e⟩ := bl_bind e
  obtain ⟨_, _, _, e⟩ := bl_bind e
  obtain ⟨t, e⟩ := bl_bindS e
  cases t with
  | false => cases e; exact ⟨_, rfl⟩
  | true =>
    obtain ⟨_, _, _, e⟩ := bl_bind e
    obtain ⟨t, e⟩ := bl_bindS e
    cases t with
    | false => cases e; exact ⟨_, rfl⟩
    | true =>
      obtain ⟨_, _, _, e⟩ := bl_bind e
      obtain ⟨t, e⟩ := bl_bindS e
      cases e
      exact ⟨_, rfl⟩
theorem pt_J_cmp (g : Good Z T G cs X W) {op : CO} (hm : setB y = false) (ha : PE X x (tE Z W (ev G a))) (hb : PE X y (tE Z W (ev G b))) : PT X (.Compare x [toCmp op] [y] pos) (tT Z W (ev G (.cmp op a b))) :=
  ptImp (pt_cmpR (op_cmp g.K g.units op) ha hb (marks_of hm _)) (tT_bl cmp_bl cmp_imp)
theorem pt_J_chn (g : Good Z T G cs X W) {o1 o2 : CO} (hm : setB z = false) (ha : PE X x (tE Z W (ev G a))) (hb : PE X y (tE Z W (ev G b))) (hc : PE X z (tE Z W (ev G c))) : PT X (.Compare x [toCmp o1, toCmp o2] [y, z] pos) (tT Z W (ev G (.chn o1 o2 a b c))) :=
  ptImp (pt_chain (op_cmp g.K g.units o1) (op_cmp g.K g.units o2) ha hb hc (lm2 hm)) (tT_bl chn_bl chn_imp)
theorem pt_J_chn3 (g : Good Z T G cs X W) {o1 o2 o3 : CO} (hm : setB p = false) (ha : PE X x (tE Z W (ev G a))) (hb : PE X y (tE Z W (ev G b))) (hc : PE X z (tE Z W (ev G c))) (hd : PE X p (tE Z W (ev G d))) : PT X (.Compare x [toCmp o1, toCmp o2, toCmp o3] [y, z, p] pos) (tT Z W (ev G (.chn3 o1 o2 o3 a b c d))) :=
  ptImp (pt_chain3 (op_cmp g.K g.units o1) (op_cmp g.K g.units o2) (op_cmp g.K g.units o3) ha hb hc hd (lm3 hm)) (tT_bl chn3_bl chn3_imp)
theorem isn_bl (env : Env) (S : Store) (v : D) (S1 : Store) (e : ev G (.isn a) env S = some (.ok v S1)) : ∃ t, v = .bl t := by
  obtain ⟨_, _, _, e⟩ := bl_bind e
  cases e
  exact ⟨_, rfl⟩
theorem isnn_bl (env : Env) (S : Store) (v : D) (S1 : Store) (e : ev G (.isnn a) env S = some (.ok v S1)) : ∃ t, v = .bl t := by
  obtain ⟨_, _, _, e⟩ := bl_bind e
  cases e
  exact ⟨_, rfl⟩
theorem pt_J_isn (g : Good Z T G cs X W) {k : Nat} {p2 : Pos} (ha : PE X x (tE Z W (ev G a))) : PT X (.Compare x [.Is] [.Constant .none k p2] pos) (tT Z W (ev G (.isn a))) :=
  ptImp (pt_cmp (pc_isN ha) rfl) (tT_bl isn_bl isn_imp)
theorem pt_J_isnn (g : Good Z T G cs X W) {k : Nat} {p2 : Pos} (ha : PE X x (tE Z W (ev G a))) : PT X (.Compare x [.IsNot] [.Constant .none k p2] pos) (tT Z W (ev G (.isnn a))) :=
  ptImp (pt_cmp (pc_notN ha) rfl) (tT_bl isnn_bl isnn_imp)

/-! ### what is walked -/
/-- more places out of reach -/
def Sit.add (Z : Sit) (bs : List Addr) : Sit := { Z with bad := bs ++ Z.bad }
/-- the sources stand as they stood at H1 -/
def GdOf (Z : Sit) (H1 : Hp) (ι1 : List Addr) (gs : List Guard) : Hp → List Addr → Prop := fun H ι => ∃ S, Grow H1 ι1 H ι ∧ RelS Z H ι S ∧ ∀ g ∈ gs, okG g S
/-- J walks the data items while the sources stand -/
structure WalkD (Z : Sit) (J : It) (items : List D) (H1 : Hp) (ι1 : List Addr) (gs : List Guard) : Prop where
  goes : ∀ i H ι, i < items.length → GdOf Z H1 ι1 gs H ι → J.go i H
  stops : ∀ H ι, GdOf Z H1 ι1 gs H ι → J.stop items.length H
  yields : ∀ bs i H ι x H' d, (∀ b ∈ bs, H1 b = none) → items[i]? = some d → GdOf (Z.add bs) H1 ι1 gs H ι → J.yld i H x H' → GrowK H ι H' ∧ RelD (Z.add bs) H' ι d x
mutual
theorem RelD.toBad {bs : List Addr} {H : Hp} {ι : List Addr} (hb : ∀ b ∈ bs, H b = none) : ∀ {d : D} {v : V}, RelD Z H ι d v → RelD (Z.add bs) H ι d v
  | _, _, .non => .non
  | _, _, .bl => .bl
  | _, _, .int => .int
  | _, _, .str => .str
  | _, _, .tup h r => .tup (Z := Z.add bs) h (RelDs.toBad hb r)
  | _, _, .lst h n b r => .lst h n (fun m => by
      rcases List.mem_append.mp m with m | m
      · rw [hb _ m] at h; cases h
      · exact b m) (RelDs.toBad hb r)
  | _, _, .flst h n b r => .flst h n (fun m => by
      rcases List.mem_append.mp m with m | m
      · rw [hb _ m] at h; cases h
      · exact b m) (RelDs.toBad hb r)
  | _, _, .flstF h r => .flstF (Z := Z.add bs) h (RelDs.toBad hb r)
  | _, _, .loc h => .loc h
  | _, _, .fn => .fn (Z := Z.add bs)
  | _, _, .exc q h r => .exc (Z := Z.add bs) q h (RelD.toBad hb r)
theorem RelDs.toBad {bs : List Addr} {H : Hp} {ι : List Addr} (hb : ∀ b ∈ bs, H b = none) : ∀ {ds : List D} {vs : List V}, RelDs Z H ι ds vs → RelDs (Z.add bs) H ι ds vs
  | _, _, .nil => .nil
  | _, _, .cons r t => .cons (RelD.toBad hb r) (RelDs.toBad hb t)
end
/-- an iterable -/
def tI (Z : Sit) (W : WX) (k : Ik) (m : Env → M D) : TI := fun σ H R => ∃ env S ι, RelE Z H ι env σ ∧ RelS Z H ι S ∧ PstA Z W σ H ι (fun ds S1 _ H1 ι1 => Grow H ι H1 ι1 ∧ RelS Z H1 ι1 S1 ∧
  ∃ p, iterS k ds S1 = some p ∧ ∀ J, WalkD Z J p.1 H1 ι1 p.2 → R J H1) (m env S)
/-- a source read again later -/
theorem src_later {H1 H2 : Hp} {ι1 ι2 : List Addr} {S1 S2 : Store} {d : D} {v : V} {ds : List D} (r : RelD Z H1 ι1 d v) (e : itemsS d S1 = some ds) (gr : Grow H1 ι1 H2 ι2) (s2 : RelS Z H2 ι2 S2) (ok : okG (guardOf d S1) S2) :
    ∃ a vs, v = .ref a ∧ RelDs Z H2 ι2 ds vs ∧ ((SqL Z.K H2 a vs ∧ isList d S1 = true) ∨ (SqT Z.K H2 a vs ∧ isList d S1 = false)) := by
  have r2 := r.mono gr
  cases d with
  | loc l =>
    cases hl : S1[l]? with
    | none => simp [itemsS, hl] at e
    | some c =>
      cases c with
      | lst ds' =>
        simp only [itemsS, hl, Option.some.injEq] at e
        subst e
        simp only [guardOf, hl, okG] at ok
        obtain ⟨a, vs, e, h, rr, _⟩ := lst_at s2 r2 ok
        exact ⟨a, vs, e, rr, .inl ⟨.inl (.inl h), by simp [isList, hl]⟩⟩
      | dct kvs => simp [itemsS, hl] at e
      | obj c fs => simp [itemsS, hl] at e
  | _ => exact items_ok s2 r2 e
/-- the source's items at a later time -/
theorem later_of {H1 : Hp} {ι1 : List Addr} {S1 : Store} {d : D} {a : Addr} {ds : List D} {gs : List Guard} (r : RelD Z H1 ι1 d (.ref a)) (e : itemsS d S1 = some ds) (hm : guardOf d S1 ∈ gs) (bs : List Addr) (hb : ∀ b ∈ bs, H1 b = none) :
    ∀ H ι, GdOf (Z.add bs) H1 ι1 gs H ι → ∃ vs, RelDs (Z.add bs) H ι ds vs ∧ ((SqL Z.K H a vs ∧ isList d S1 = true) ∨ (SqT Z.K H a vs ∧ isList d S1 = false)) := fun H ι ⟨S, gr, s, ok⟩ => by
  obtain ⟨a', vs, e', rr, h⟩ := src_later (r.toBad hb) e gr s (ok _ hm)
  cases e'
  exact ⟨vs, rr, h⟩
theorem noBad : ∀ b ∈ ([] : List Addr), (fun _ => none : Hp) b = none := fun _ h => nomatch h
theorem walk_val {H1 : Hp} {ι1 : List Addr} {S1 : Store} {d : D} {a : Addr} {ds : List D} (hK : X.K = Z.K) (r : RelD Z H1 ι1 d (.ref a)) (s1 : RelS Z H1 ι1 S1) (e : itemsS d S1 = some ds) :
    ((∃ xs, SqL X.K H1 a xs) ∧ WalkD Z (Itl X.K a) ds H1 ι1 [guardOf d S1]) ∨ ((∃ xs, SqT X.K H1 a xs) ∧ WalkD Z (Itt X.K a) ds H1 ι1 [guardOf d S1]) := by
  have later := later_of (gs := [guardOf d S1]) r e (List.mem_singleton.mpr rfl)
  have lat0 := later [] fun _ h => nomatch h
  obtain ⟨a', vs, e', rr, h⟩ := items_ok s1 r e
  cases e'
  rcases h with ⟨h, hl⟩ | ⟨h, hl⟩
  · refine .inl ⟨⟨vs, by rw [hK]; exact h⟩, ⟨fun i H ι hi gd => ?_, fun H ι gd => ?_, fun bs i H ι x H' d' hb hd gd y => ?_⟩⟩
    · obtain ⟨vs2, rr2, h2⟩ := lat0 H ι gd
      rcases h2 with ⟨h2, _⟩ | ⟨_, z⟩
      · rw [rr2.length] at hi
        exact ⟨vs2, vs2[i], by rw [hK]; exact h2, by simp [hi]⟩
      · rw [hl] at z; cases z
    · obtain ⟨vs2, rr2, h2⟩ := lat0 H ι gd
      rcases h2 with ⟨h2, _⟩ | ⟨_, z⟩
      · exact ⟨vs2, by rw [hK]; exact h2, by rw [rr2.length]; exact Nat.le_refl _⟩
      · rw [hl] at z; cases z
    · obtain ⟨vs2, rr2, h2⟩ := later bs hb H ι gd
      obtain ⟨rfl, y⟩ := y
      rcases h2 with ⟨h2, _⟩ | ⟨_, z⟩
      · obtain ⟨v, e1, rv⟩ := rr2.get hd
        have := y vs2 (by rw [hK]; exact h2)
        rw [e1] at this
        cases this
        exact ⟨.refl, rv⟩
      · rw [hl] at z; cases z
  · refine .inr ⟨⟨vs, by rw [hK]; exact h⟩, ⟨fun i H ι hi gd => ?_, fun H ι gd => ?_, fun bs i H ι x H' d' hb hd gd y => ?_⟩⟩
    · obtain ⟨vs2, rr2, h2⟩ := lat0 H ι gd
      rcases h2 with ⟨_, z⟩ | ⟨h2, _⟩
      · rw [hl] at z; cases z
      · rw [rr2.length] at hi
        exact ⟨vs2, vs2[i], by rw [hK]; exact h2, by simp [hi]⟩
    · obtain ⟨vs2, rr2, h2⟩ := lat0 H ι gd
      rcases h2 with ⟨_, z⟩ | ⟨h2, _⟩
      · rw [hl] at z; cases z
      · exact ⟨vs2, by rw [hK]; exact h2, by rw [rr2.length]; exact Nat.le_refl _⟩
    · obtain ⟨vs2, rr2, h2⟩ := later bs hb H ι gd
      obtain ⟨rfl, y⟩ := y
      rcases h2 with ⟨_, z⟩ | ⟨h2, _⟩
      · rw [hl] at z; cases z
      · obtain ⟨v, e1, rv⟩ := rr2.get hd
        have := y vs2 (by rw [hK]; exact h2)
        rw [e1] at this
        cases this
        exact ⟨.refl, rv⟩
theorem piImp {tg it : Expr} {t t' : TI} (h : PI X tg it t) (f : ∀ σ H R, t' σ H R → t σ H R) : PI X tg it t' := by
  constructor
  intro pins s σ H R I q
  exact h.run pins s σ H R I (f σ H R q)
theorem pi_J_val (g : Good Z T G cs X W) {tg : Expr} (ha : PE X x (tE Z W (ev G a))) : PI X tg x (tI Z W .val (ev G (.cons a .nil))) := by
  refine piImp (pi_seq ha) fun σ H R ⟨env, S, ι, hE, hS, h⟩ => ⟨env, S, ι, hE, hS, ?_⟩
  have h : PstA Z W σ H ι _ (((ev G a env).bind fun x => (ev G .nil env).bind fun y => (M.opt (tups y)).bind fun ds => M.ret (.tup (x :: ds))) S) := h
  unfold M.bind at h
  cases e : ev G a env S with
  | none => rw [e] at h; exact h
  | some r =>
    rw [e] at h
    cases r with
    | exn c d S1 => exact h
    | ok d S1 =>
      intro v H1 ι1 gr s r
      obtain ⟨_, _, p, hp, hR⟩ := h [d] rfl [v] H1 ι1 gr s (.one r)
      simp only [iterS] at hp
      cases hi : itemsS d S1 with
      | none => simp [hi] at hp
      | some ds =>
        simp only [hi, Option.some.injEq] at hp
        subst hp
        obtain ⟨a', vs, rfl, rr, hq⟩ := items_ok s r hi
        refine ⟨a', rfl, ?_⟩
        rcases walk_val g.K r s hi with ⟨h1, h2⟩ | ⟨h1, h2⟩
        · exact .inl ⟨h1, hR _ h2⟩
        · exact .inr ⟨h1, hR _ h2⟩
theorem walk_rng {H1 : Hp} {ι1 : List Addr} {lo : Int} {n : Nat} {gs : List Guard} : WalkD Z (Itr lo n) (rngL lo n) H1 ι1 gs := by
  have hl : (rngL lo n).length = n := by simp [rngL]
  refine ⟨fun i H ι hi _ => by rw [hl] at hi; exact hi, fun H ι _ => by rw [hl]; exact Nat.le_refl _, fun bs i H ι x H' d hb hd _ y => ?_⟩
  obtain ⟨rfl, rfl⟩ := y
  simp only [rngL, List.getElem?_map] at hd
  cases q : (List.range n)[i]? with
  | none => simp [q] at hd
  | some j =>
    simp only [q, Option.map_some, Option.some.injEq] at hd
    have : j = i := by
      have := List.getElem?_eq_some_iff.mp q
      obtain ⟨h1, h2⟩ := this
      simpa using h2.symm
    subst hd this
    exact ⟨.refl, .int⟩
theorem walk_step {H1 : Hp} {ι1 : List Addr} {lo c : Int} {n : Nat} {gs : List Guard} : WalkD Z (Itc lo c n) (stepL lo c n) H1 ι1 gs := by
  have hl : (stepL lo c n).length = n := by simp [stepL]
  refine ⟨fun i H ι hi _ => by rw [hl] at hi; exact hi, fun H ι _ => by rw [hl]; exact Nat.le_refl _, fun bs i H ι x H' d hb hd _ y => ?_⟩
  obtain ⟨rfl, rfl⟩ := y
  simp only [stepL, List.getElem?_map] at hd
  cases q : (List.range n)[i]? with
  | none => simp [q] at hd
  | some j =>
    simp only [q, Option.map_some, Option.some.injEq] at hd
    have : j = i := by
      have := List.getElem?_eq_some_iff.mp q
      obtain ⟨h1, h2⟩ := this
      simpa using h2.symm
    subst hd this
    exact ⟨.refl, .int⟩
/-- an iterable's wish, from the values of its arguments -/
theorem tI_args {k : Ik} {σ : L2.St} {H : Hp} {R : It → Hp → Prop} (h : tI Z W k (ev G a) σ H R) : tA Z W (ev G a) σ H fun vs H1 => ∃ ds S1 ι1, RelS Z H1 ι1 S1 ∧ RelDs Z H1 ι1 ds vs ∧
    ∃ p, iterS k ds S1 = some p ∧ ∀ J, WalkD Z J p.1 H1 ι1 p.2 → R J H1 := by
  obtain ⟨env, S, ι, hE, hS, h⟩ := h
  refine ⟨env, S, ι, hE, hS, ?_⟩
  cases e : ev G a env S with
  | none => rw [e] at h; exact h
  | some r =>
    rw [e] at h
    cases r with
    | exn c d S1 => exact h
    | ok d S1 => exact fun ds hd vs H1 ι1 g s r => ⟨ds, S1, ι1, s, r, (h ds hd vs H1 ι1 g s r).2.2⟩
theorem pi_J_rng1 (g : Good Z T G cs X W) {tg : Expr} {n : Str} {p1 : Pos} (hb : biB cs n "range" = true) (hs : starB x = false) (ha : PA X [x] (tA Z W (ev G a))) : PI X tg (.Call (.Name n p1) [x] [] pos) (tI Z W .rng1 (ev G a)) := by
  obtain ⟨e, h1, h2, h3⟩ := biB_of g hb
  subst e
  refine piImp (pi_range1 h1 (g.free _ (by decide +kernel)) ha (starEach_of hs _ _)) fun σ H R h => ?_
  obtain ⟨env, S, ι, hE, hS, h⟩ := tI_args h
  refine ⟨env, S, ι, hE, hS, h.mono .refl fun ds0 _ vs H1 _ _ hh => ?_⟩
  obtain ⟨ds, S1, ι1, s1, rr, p, hp, hR⟩ := hh
  cases rr with
  | nil => simp [iterS] at hp
  | cons r t =>
    cases t with
    | cons r2 t => cases r <;> simp [iterS] at hp
    | nil =>
      cases r <;> first
        | (simp [iterS] at hp; done)
        | skip
      rename_i j
      simp only [iterS] at hp
      by_cases hj : rngOk j
      · rw [if_pos hj] at hp
        cases hp
        exact ⟨j, rfl, hj.1, hj.2, hR _ walk_rng⟩
      · rw [if_neg hj] at hp; cases hp
theorem pi_J_rng2 (g : Good Z T G cs X W) {tg : Expr} {n : Str} {p1 : Pos} (hb : biB cs n "range" = true) (hs : starB x = false) (hs2 : starB y = false) (ha : PA X [x, y] (tA Z W (ev G a))) : PI X tg (.Call (.Name n p1) [x, y] [] pos) (tI Z W .rng2 (ev G a)) := by
  obtain ⟨e, h1, h2, h3⟩ := biB_of g hb
  subst e
  refine piImp (pi_range2 h1 (g.free _ (by decide +kernel)) ha (by rw [starEach_of hs, starEach_of hs2] <;> rfl) (starEach_of hs2 _ _)) fun σ H R h => ?_
  obtain ⟨env, S, ι, hE, hS, h⟩ := tI_args h
  refine ⟨env, S, ι, hE, hS, h.mono .refl fun ds0 _ vs H1 _ _ hh => ?_⟩
  obtain ⟨ds, S1, ι1, s1, rr, p, hp, hR⟩ := hh
  cases rr with
  | nil => simp [iterS] at hp
  | cons r t =>
    cases t with
    | nil => cases r <;> simp [iterS] at hp
    | cons r2 t =>
      cases t with
      | cons r3 t => cases r <;> cases r2 <;> simp [iterS] at hp
      | nil =>
        cases r <;> cases r2 <;> first
          | (simp [iterS] at hp; done)
          | skip
        rename_i i j
        simp only [iterS] at hp
        by_cases hj : rngOk i ∧ rngOk j
        · rw [if_pos hj] at hp
          cases hp
          exact ⟨i, j, rfl, ⟨hj.1.1, hj.1.2, hj.2.1, hj.2.2⟩, hR _ walk_rng⟩
        · rw [if_neg hj] at hp; cases hp
theorem pi_J_rng3 (g : Good Z T G cs X W) {tg : Expr} {n : Str} {p1 : Pos} (hb : biB cs n "range" = true) (hs : starB x = false) (hs2 : starB y = false) (hs3 : starB z = false) (ha : PA X [x, y, z] (tA Z W (ev G a))) : PI X tg (.Call (.Name n p1) [x, y, z] [] pos) (tI Z W .rng3 (ev G a)) := by
  obtain ⟨e, h1, h2, h3⟩ := biB_of g hb
  subst e
  refine piImp (pi_range3 h1 (g.free _ (by decide +kernel)) ha (starEach_of hs _ _) (plain_star (es := [y, z]) (fun e he => by simp at he; rcases he with rfl | rfl <;> assumption) pos X.env)) fun σ H R h => ?_
  obtain ⟨env, S, ι, hE, hS, h⟩ := tI_args h
  refine ⟨env, S, ι, hE, hS, h.mono .refl fun ds0 _ vs H1 _ _ hh => ?_⟩
  obtain ⟨ds, S1, ι1, s1, rr, p, hp, hR⟩ := hh
  cases rr with
  | nil => simp [iterS] at hp
  | cons r t =>
    cases t with
    | nil => cases r <;> simp [iterS] at hp
    | cons r2 t =>
      cases t with
      | nil => cases r <;> cases r2 <;> simp [iterS] at hp
      | cons r3 t =>
        cases t with
        | cons r4 t => cases r <;> cases r2 <;> cases r3 <;> simp [iterS] at hp
        | nil =>
          cases r <;> first
            | (simp [iterS] at hp; done)
            | skip
          cases r2 <;> first
            | (simp [iterS] at hp; done)
            | skip
          cases r3 <;> first
            | (simp [iterS] at hp; done)
            | skip
          rename_i i j k
          simp only [iterS] at hp
          by_cases hj : stepOk i j k
          · rw [if_pos hj] at hp
            cases hp
            exact ⟨i, j, k, _, rfl, ⟨hj.1, hj.2.1, hj.2.2.1, (Int.toNat_of_nonneg hj.2.2.2).symm⟩, hR _ walk_step⟩
          · rw [if_neg hj] at hp; cases hp
theorem enu_get : ∀ (ds : List D) (k i : Nat) (d : D), (enuL k ds)[i]? = some d → ∃ e, ds[i]? = some e ∧ d = .tup [.int ((k + i : Nat) : Int), e]
  | [], _, _, _, h => by simp [enuL] at h
  | x :: ds, k, 0, d, h => by
    simp only [enuL, List.getElem?_cons_zero, Option.some.injEq] at h
    exact ⟨x, rfl, by simpa using h.symm⟩
  | x :: ds, k, i + 1, d, h => by
    simp only [enuL, List.getElem?_cons_succ] at h
    obtain ⟨e, h1, h2⟩ := enu_get ds (k + 1) i d h
    exact ⟨e, by simpa using h1, by rw [h2]; congr 3; omega⟩
theorem enu_len : ∀ (ds : List D) (k : Nat), (enuL k ds).length = ds.length
  | [], _ => rfl
  | _ :: ds, k => by simp [enuL, enu_len ds (k + 1)]
theorem tupN {H : Hp} {ι : List Addr} {S : Store} {p : Addr} {ds : List D} {vs : List V} (s : RelS Z H ι S) (hp : H p = none) (r : RelDs Z H ι ds vs) : GrowK H ι (upd H p (.tup vs)) ∧ RelD Z (upd H p (.tup vs)) ι (.tup ds) (.ref p) := by
  have gg := Grow.new (ι := ι) (o := .tup vs) hp
  exact ⟨GrowK.new s hp, .tup (.inl (.inl upd_same)) (RelDs.mono gg r)⟩
theorem pi_J_enu (g : Good Z T G cs X W) {n : Str} {p1 tpos : Pos} {elts : List Expr} {kk : Nat} (hb : biB cs n "enumerate" = true) (hs : starB x = false) (ha : PA X [x] (tA Z W (ev G a))) : PI X (.Tuple elts kk tpos) (.Call (.Name n p1) [x] [] pos) (tI Z W .enu (ev G a)) := by
  obtain ⟨e, h1, h2, h3⟩ := biB_of g hb
  subst e
  refine piImp (pi_enumA h1 (g.free _ (by decide +kernel)) ha (starEach_of hs _ _)) fun σ H R h => ?_
  obtain ⟨env, S, ι, hE, hS, h⟩ := tI_args h
  refine ⟨env, S, ι, hE, hS, h.mono .refl fun ds0 _ vs H1 _ _ hh => ?_⟩
  obtain ⟨ds, S1, ι1, s1, rr, p, hp, hR⟩ := hh
  cases rr with
  | nil => simp [iterS] at hp
  | cons r t =>
    cases t with
    | cons r2 t => simp [iterS] at hp
    | nil =>
      rename_i d v
      simp only [iterS] at hp
      cases hi : itemsS d S1 with
      | none => simp [hi] at hp
      | some es =>
        simp only [hi, Option.some.injEq] at hp
        subst hp
        obtain ⟨a', vs, rfl, rr, hq⟩ := items_ok s1 r hi
        have lats := later_of (gs := [guardOf d S1]) r hi (List.mem_singleton.mpr rfl)
        have lat := lats [] fun _ h => nomatch h
        refine ⟨a', vs, rfl, ?_⟩
        rcases hq with ⟨hq1, hl⟩ | ⟨hq1, hl⟩
        · refine .inl ⟨by rw [g.K]; exact hq1, hR _ ⟨fun i H ι hi gd => ?_, fun H ι gd => ?_, fun bs i H ι w H' d' hb hd gd y => ?_⟩⟩
          · obtain ⟨vs2, rr2, h2⟩ := lat H ι gd
            rcases h2 with ⟨h2, _⟩ | ⟨_, z⟩
            · rw [enu_len, rr2.length] at hi
              exact ⟨vs2, vs2[i], by rw [g.K]; exact h2, by simp [hi]⟩
            · rw [hl] at z; cases z
          · obtain ⟨vs2, rr2, h2⟩ := lat H ι gd
            rcases h2 with ⟨h2, _⟩ | ⟨_, z⟩
            · exact ⟨vs2, by rw [g.K]; exact h2, by rw [enu_len, rr2.length]; exact Nat.le_refl _⟩
            · rw [hl] at z; cases z
          · obtain ⟨vs2, rr2, h2⟩ := lats bs hb H ι gd
            obtain ⟨S', _, hs, _⟩ := gd
            obtain ⟨P, u, rfl, hP, rfl, y⟩ := y
            rcases h2 with ⟨h2, _⟩ | ⟨_, z⟩
            · obtain ⟨e, he, rfl⟩ := enu_get es 0 i d' hd
              obtain ⟨v, e1, rv⟩ := rr2.get he
              have := y vs2 (by rw [g.K]; exact h2)
              rw [e1] at this
              cases this
              obtain ⟨g1, g2⟩ := tupN hs hP (.cons (.int (i := ((0 + i : Nat) : Int))) (.cons rv .nil))
              rw [Nat.zero_add] at g1 g2 ⊢
              exact ⟨g1, g2⟩
            · rw [hl] at z; cases z
        · refine .inr ⟨by rw [g.K]; exact hq1, hR _ ⟨fun i H ι hi gd => ?_, fun H ι gd => ?_, fun bs i H ι w H' d' hb hd gd y => ?_⟩⟩
          · obtain ⟨vs2, rr2, h2⟩ := lat H ι gd
            rcases h2 with ⟨_, z⟩ | ⟨h2, _⟩
            · rw [hl] at z; cases z
            · rw [enu_len, rr2.length] at hi
              exact ⟨vs2, vs2[i], by rw [g.K]; exact h2, by simp [hi]⟩
          · obtain ⟨vs2, rr2, h2⟩ := lat H ι gd
            rcases h2 with ⟨_, z⟩ | ⟨h2, _⟩
            · rw [hl] at z; cases z
            · exact ⟨vs2, by rw [g.K]; exact h2, by rw [enu_len, rr2.length]; exact Nat.le_refl _⟩
          · obtain ⟨vs2, rr2, h2⟩ := lats bs hb H ι gd
            obtain ⟨S', _, hs, _⟩ := gd
            obtain ⟨P, u, rfl, hP, rfl, y⟩ := y
            rcases h2 with ⟨_, z⟩ | ⟨h2, _⟩
            · rw [hl] at z; cases z
            · obtain ⟨e, he, rfl⟩ := enu_get es 0 i d' hd
              obtain ⟨v, e1, rv⟩ := rr2.get he
              have := y vs2 (by rw [g.K]; exact h2)
              rw [e1] at this
              cases this
              obtain ⟨g1, g2⟩ := tupN hs hP (.cons (.int (i := ((0 + i : Nat) : Int))) (.cons rv .nil))
              rw [Nat.zero_add] at g1 g2 ⊢
              exact ⟨g1, g2⟩
theorem zip_get : ∀ (ds es : List D) (i : Nat) (d : D), (zipL ds es)[i]? = some d → ∃ x y, ds[i]? = some x ∧ es[i]? = some y ∧ d = .tup [x, y]
  | [], _, _, _, h => by simp [zipL] at h
  | _ :: _, [], _, _, h => by simp [zipL] at h
  | x :: ds, y :: es, 0, d, h => by
    simp only [zipL, List.getElem?_cons_zero, Option.some.injEq] at h
    exact ⟨x, y, rfl, rfl, h.symm⟩
  | x :: ds, y :: es, i + 1, d, h => by
    simp only [zipL, List.getElem?_cons_succ] at h
    obtain ⟨e, f, h1, h2, h3⟩ := zip_get ds es i d h
    exact ⟨e, f, by simpa using h1, by simpa using h2, h3⟩
theorem zip_len : ∀ (ds es : List D), (zipL ds es).length = min ds.length es.length
  | [], _ => by simp [zipL]
  | _ :: _, [] => by simp [zipL]
  | _ :: ds, _ :: es => by simp [zipL, zip_len ds es]
theorem pi_J_zip (g : Good Z T G cs X W) {n : Str} {p1 tpos : Pos} {elts : List Expr} {kk : Nat} (hb : biB cs n "zip" = true) (hs : starB x = false) (hs2 : starB y = false) (ha : PA X [x, y] (tA Z W (ev G a))) : PI X (.Tuple elts kk tpos) (.Call (.Name n p1) [x, y] [] pos) (tI Z W .zip (ev G a)) := by
  obtain ⟨e, h1, h2, h3⟩ := biB_of g hb
  subst e
  refine piImp (RZ.pi_zipA h1 (g.free _ (by decide +kernel)) ha (starEach_of hs _ _) (plain_star (es := [y]) (fun e he => by rw [List.mem_singleton.mp he]; exact hs2) pos X.env)) fun σ H R h => ?_
  obtain ⟨env, S, ι, hE, hS, h⟩ := tI_args h
  refine ⟨env, S, ι, hE, hS, h.mono .refl fun ds0 _ vs H1 _ _ hh => ?_⟩
  obtain ⟨ds, S1, ι1, s1, rr, p, hp, hR⟩ := hh
  cases rr with
  | nil => simp [iterS] at hp
  | cons r t =>
    cases t with
    | nil => simp [iterS] at hp
    | cons r' t =>
      cases t with
      | cons r3 t => simp [iterS] at hp
      | nil =>
        rename_i d v d' v'
        simp only [iterS] at hp
        by_cases hll : isList d S1 = isList d' S1
        · rw [if_pos hll] at hp
          cases hi : itemsS d S1 with
          | none => simp [hi] at hp
          | some es =>
            cases hi' : itemsS d' S1 with
            | none => simp [hi, hi'] at hp
            | some es' =>
              simp only [hi, hi', Option.some.injEq] at hp
              subst hp
              obtain ⟨a1, vs, rfl, rr, hq⟩ := items_ok s1 r hi
              obtain ⟨a2, vs', rfl, rr', hq'⟩ := items_ok s1 r' hi'
              have lat := later_of (gs := [guardOf d S1, guardOf d' S1]) r hi (by simp)
              have lat' := later_of (gs := [guardOf d S1, guardOf d' S1]) r' hi' (by simp)
              have none_bad : ∀ b ∈ ([] : List Addr), H1 b = none := fun _ h => nomatch h
              refine ⟨a1, a2, vs, vs', rfl, ?_⟩
              rcases hq with ⟨hq, hl⟩ | ⟨hq, hl⟩
              · have hl' : isList d' S1 = true := by rw [← hll]; exact hl
                have hq2 : SqL Z.K H1 a2 vs' := by
                  rcases hq' with ⟨q, _⟩ | ⟨_, z⟩
                  · exact q
                  · rw [hl'] at z; cases z
                refine .inl ⟨by rw [g.K]; exact hq, by rw [g.K]; exact hq2, hR _ ⟨fun i H ι hi gd => ?_, fun H ι gd => ?_, fun bs i H ι w H' dd hb hd gd y => ?_⟩⟩
                · obtain ⟨ws, rw1, k1⟩ := lat [] none_bad H ι gd
                  obtain ⟨ws', rw2, k2⟩ := lat' [] none_bad H ι gd
                  replace k1 : SqL Z.K H a1 ws := k1.elim (fun q => q.1) fun q => by rw [hl] at q; cases q.2
                  replace k2 : SqL Z.K H a2 ws' := k2.elim (fun q => q.1) fun q => by rw [hl'] at q; cases q.2
                  rw [← g.K] at k1 k2
                  rw [zip_len, rw1.length, rw2.length] at hi
                  have i1 : i < ws.length := by omega
                  have i2 : i < ws'.length := by omega
                  exact ⟨ws, ws', ws[i], ws'[i], k1, k2, by simp [i1], by simp [i2]⟩
                · obtain ⟨ws, rw1, k1⟩ := lat [] none_bad H ι gd
                  obtain ⟨ws', rw2, k2⟩ := lat' [] none_bad H ι gd
                  replace k1 : SqL Z.K H a1 ws := k1.elim (fun q => q.1) fun q => by rw [hl] at q; cases q.2
                  replace k2 : SqL Z.K H a2 ws' := k2.elim (fun q => q.1) fun q => by rw [hl'] at q; cases q.2
                  rw [← g.K] at k1 k2
                  exact ⟨ws, ws', k1, k2, by rw [zip_len, rw1.length, rw2.length]; omega⟩
                · obtain ⟨ws, rw1, k1⟩ := lat bs hb H ι gd
                  obtain ⟨ws', rw2, k2⟩ := lat' bs hb H ι gd
                  replace k1 : SqL Z.K H a1 ws := k1.elim (fun q => q.1) fun q => by rw [hl] at q; cases q.2
                  replace k2 : SqL Z.K H a2 ws' := k2.elim (fun q => q.1) fun q => by rw [hl'] at q; cases q.2
                  rw [← g.K] at k1 k2
                  obtain ⟨S', _, hs, _⟩ := gd
                  obtain ⟨P, u, u', rfl, hP, rfl, y1, y2⟩ := y
                  obtain ⟨e1, e2, h5, h6, rfl⟩ := zip_get es es' i dd hd
                  obtain ⟨v1, q1, rv1⟩ := rw1.get h5
                  obtain ⟨v2, q2, rv2⟩ := rw2.get h6
                  have z1 := y1 ws k1
                  have z2 := y2 ws' k2
                  rw [q1] at z1
                  rw [q2] at z2
                  cases z1
                  cases z2
                  exact tupN hs hP (.cons rv1 (.cons rv2 .nil))
              · have hl' : isList d' S1 = false := by rw [← hll]; exact hl
                have hq2 : SqT Z.K H1 a2 vs' := by
                  rcases hq' with ⟨_, z⟩ | ⟨q, _⟩
                  · rw [hl'] at z; cases z
                  · exact q
                refine .inr ⟨by rw [g.K]; exact hq, by rw [g.K]; exact hq2, hR _ ⟨fun i H ι hi gd => ?_, fun H ι gd => ?_, fun bs i H ι w H' dd hb hd gd y => ?_⟩⟩
                · obtain ⟨ws, rw1, k1⟩ := lat [] none_bad H ι gd
                  obtain ⟨ws', rw2, k2⟩ := lat' [] none_bad H ι gd
                  replace k1 : SqT Z.K H a1 ws := k1.elim (fun q => by rw [hl] at q; cases q.2) fun q => q.1
                  replace k2 : SqT Z.K H a2 ws' := k2.elim (fun q => by rw [hl'] at q; cases q.2) fun q => q.1
                  rw [← g.K] at k1 k2
                  rw [zip_len, rw1.length, rw2.length] at hi
                  have i1 : i < ws.length := by omega
                  have i2 : i < ws'.length := by omega
                  exact ⟨ws, ws', ws[i], ws'[i], k1, k2, by simp [i1], by simp [i2]⟩
                · obtain ⟨ws, rw1, k1⟩ := lat [] none_bad H ι gd
                  obtain ⟨ws', rw2, k2⟩ := lat' [] none_bad H ι gd
                  replace k1 : SqT Z.K H a1 ws := k1.elim (fun q => by rw [hl] at q; cases q.2) fun q => q.1
                  replace k2 : SqT Z.K H a2 ws' := k2.elim (fun q => by rw [hl'] at q; cases q.2) fun q => q.1
                  rw [← g.K] at k1 k2
                  exact ⟨ws, ws', k1, k2, by rw [zip_len, rw1.length, rw2.length]; omega⟩
                · obtain ⟨ws, rw1, k1⟩ := lat bs hb H ι gd
                  obtain ⟨ws', rw2, k2⟩ := lat' bs hb H ι gd
                  replace k1 : SqT Z.K H a1 ws := k1.elim (fun q => by rw [hl] at q; cases q.2) fun q => q.1
                  replace k2 : SqT Z.K H a2 ws' := k2.elim (fun q => by rw [hl'] at q; cases q.2) fun q => q.1
                  rw [← g.K] at k1 k2
                  obtain ⟨S', _, hs, _⟩ := gd
                  obtain ⟨P, u, u', rfl, hP, rfl, y1, y2⟩ := y
                  obtain ⟨e1, e2, h5, h6, rfl⟩ := zip_get es es' i dd hd
                  obtain ⟨v1, q1, rv1⟩ := rw1.get h5
                  obtain ⟨v2, q2, rv2⟩ := rw2.get h6
                  have z1 := y1 ws k1
                  have z2 := y2 ws' k2
                  rw [q1] at z1
                  rw [q2] at z2
                  cases z1
                  cases z2
                  exact tupN hs hP (.cons rv1 (.cons rv2 .nil))
        · rw [if_neg hll] at hp; cases hp
end
end
end J
/-! J4x: isinstance of the exception at hand, its reason; index, count -/
namespace J
open PySem L2
section
variable {X : Cx}
/-- isinstance(e, c), e an exception that is pinned -/
def rIsX (X : Cx) : List V → Hp → VK → Prop := fun xs H Q => ∃ (a C dd : Addr) (oe : Obj) (c : V) (cv : Value) (fs : List (Str × V)) (b : Bool), xs = [.ref a, c] ∧ (a, oe) ∈ X.pn ∧ Zc (.ref C) (some dd) oe ∧ (∃ vs, oe.data = .fields vs) ∧ ExcC X.K C ∧ H dd = some (.xd fs) ∧ (∀ u, RelV c u → u = cv) ∧ PySem.W.kitOne X.K (.ref C) cv = some b ∧ Q (.bl b) H
theorem inst_pin {pins : List (Addr × Obj)} {σ : L2.St} {H : Hp} {s : Shared} {a C dd : Addr} {oe : Obj} {fs : List (Str × V)} (I : Inv X pins σ H s) (hp : (a, oe) ∈ X.pn) (hz : Zc (.ref C) (some dd) oe) (hv : ∃ vs, oe.data = .fields vs) (hd : H dd = some (.xd fs)) :
    ∃ od, PySem.W.InstAt s.heap a oe C (some od) ∧ ∀ n v, fs.lookup n = some v → ∃ u, PySem.W.lookIn n od = some (some u) ∧ RelV v u := by
  obtain ⟨hget, _⟩ := I.pin (a, oe) (List.mem_append.mpr (.inl hp))
  obtain ⟨vs, hv⟩ := hv
  have hx : ObjOk X.prog X.w H s.heap dd (.xd fs) := I.hok dd _ hd
  obtain ⟨mA, hns, hr⟩ := hx
  obtain ⟨od, ho, hl⟩ := lookIn_ns hns
  refine ⟨od, ⟨hget, hz.1, by unfold PySem.W.notCls; rw [hv] <;> rfl, by rw [hz.2]; exact ho⟩, fun n v e => ?_⟩
  obtain ⟨u, hu, ru⟩ := RelO.some_of (v := v) (o := mA n) (by rw [← e]; exact hr n)
  exact ⟨u, by rw [hl, hu], ru⟩
theorem call_isX : CallR X (.builtin "isinstance") (rIsX X) := by
  intro pins s σ H xs us Q I r h
  obtain ⟨a, C, dd, oe, c, cv, fs, b, rfl, hp, hz, hv, EC, hd, hcv, e, q⟩ := h
  cases r with
  | cons rx rr =>
    cases rr with
    | cons rt rr =>
      cases rr
      cases rx
      have ec := hcv _ rt
      subst ec
      obtain ⟨od, J, _⟩ := inst_pin I hp hz hv hd
      have hcl : (PySem.W.clsIn X.K C).isSome = true := by
        obtain ⟨cd, hc, _⟩ := PySem.W.any_some EC.hd
        rw [hc]; rfl
      exact PySem.W.kia_one (PySem.W.kitx_exc hcl EC.hg EC.hk EC.hs EC.ha EC.hn EC.ht EC.hm) I.kIn J e (fun z => nomatch z) fun tk => ⟨.bl b, H, I.kept (t' := tk) fun _ _ z => z, rfl, q⟩
/-- the reason of the exception at hand -/
def tXJ (X : Cx) (f : Str) (te : TE) : TE := fun σ H Q => te σ H fun x H1 => ∃ (a C dd : Addr) (oe : Obj) (fs : List (Str × V)) (v : V), x = .ref a ∧ (a, oe) ∈ X.pn ∧ Zc (.ref C) (some dd) oe ∧ (∃ vs, oe.data = .fields vs) ∧ XfC X.K C ∧ PySem.W.findIn X.K (.ref C) f = some none ∧
  H1 dd = some (.xd fs) ∧ fs.lookup f = some v ∧ Q v H1
theorem pe_xJ {e : Expr} {te : TE} {pos : Pos} {n : Str} (he : PE X e te) (hb : attributeBase e n X.env (eval e X.env) = eval e X.env) : PE X (.Attribute e n pos) (tXJ X n te) := by
  refine ⟨fun pins s σ H Q I h => ?_⟩
  refine attr_of hb (thn (he.run pins s σ H _ I h) fun u s1 hh => ?_)
  obtain ⟨x, H1, I1, rx, a, C, dd, oe, fs, v, ex, hp, hz, hv, T, hno, hd, l, q⟩ := hh
  subst ex
  obtain rfl : u = Value.ref a := rx
  obtain ⟨od, J, hl⟩ := inst_pin I1 hp hz hv hd
  obtain ⟨u, hu, ru⟩ := hl n v l
  exact HandSPX.exc_get I1.kIn J T.ga T.gg T.exC (PySem.W.findObj_own T.hdC hno rfl hu) (handed_of ru) ⟨v, H1, I1.tok _, ru, q⟩
end
section
variable {Z : Sit} {T : Tab} {G : Ctx} {cs : CS} {X : Cx} {W : WX} {x y : Expr} {a b : E} {pos : Pos}
theorem attrBase_of {a : Expr} {n : Str} (h0 : plainO a = true) : attributeBase a n X.env (eval a X.env) = eval a X.env := by
  cases a <;> first
    | rfl
    | (cases h0; done)
theorem pe_J_attr (g : Good Z T G cs X W) (h0 : plainO x = true) (ha : PE X x (tE Z W (ev G a))) : PE X (.Attribute x "reason" pos) (tE Z W (ev G (.attr a "reason"))) := by
  refine peImp (pe_xJ ha (attrBase_of h0)) fun σ H Q ⟨env, S, ι, hE, hS, h⟩ => ?_
  obtain ⟨env', S', ι', q1, q2, q3⟩ := tE1 (ma := ev G a) hE hS h
  refine ⟨env', S', ι', q1, q2, q3.imp fun _ _ v H1 ι1 _ _ _ ⟨dx, S1, ι1', g1, hE1, hS1, r1, hq⟩ => ?_⟩
  obtain ⟨d, e, k⟩ := Pst.optS hS1 hq
  cases dx <;> first
    | (cases e; done)
    | skip
  rename_i c d0
  cases e
  cases r1 with
  | @exc a0 dd _ _ v0 q hd r =>
    obtain ⟨⟨p, hp⟩, oe, hpn, hz, hv⟩ := g.xq _ _ _ q
    obtain ⟨h1, h2, h3⟩ := g.excs.fld _ _ hp
    obtain ⟨_, _, h4, _⟩ := g.excs.cls _ _ _ hp
    refine ⟨a0, _, dd, oe, _, v0, rfl, hpn, hz, hv, h1, h3, hd, ?_, k v0 H1 .refl r⟩
    rw [h4]; simp [List.lookup]
theorem pe_J_isx (g : Good Z T G cs X W) {n m : Str} {t : Ty} {p1 p2 : Pos} (hb : biB cs n "isinstance" = true) (hm : clsB T cs t m = true) (hs : starB x = false) (ha : PE X x (tE Z W (ev G a))) :
    PE X (.Call (.Name n p1) [x, .Name m p2] [] pos) (tE Z W (ev G (.isx a t))) := by
  obtain ⟨e, h1, h2, h3⟩ := biB_of g hb
  subst e
  -- the class, and what isinstance tells of it
  have key : ∃ (c : V) (cv : Value), PE X (.Name m p2) (tC c) ∧ (∀ u, RelV c u → u = cv) ∧ ∀ k p d b, T.excs[k]? = some p → isiS (.exc k d) t [] = some b → PySem.W.kitOne X.K (.ref (Z.ca k)) cv = some b := by
    cases t <;> first
      | (simp [clsB] at hm; done)
      | skip
    · -- ValueError
      simp only [clsB] at hm
      obtain ⟨e', h4, h5, h6⟩ := biB_of g hm
      subst e'
      refine ⟨.ty "ValueError", .type "ValueError", pe_bltn (v := .ty "ValueError") h4 (g.free _ (by decide +kernel)) (by decide +kernel) rfl h6 h5, fun u h => h, fun k p d b hp e => ?_⟩
      cases e
      exact g.excs.val k p hp
    · -- an own class
      rename_i c'
      simp only [clsB, Bool.and_eq_true] at hm
      obtain ⟨⟨h0, h4⟩, h5⟩ := hm
      unfold excB at h0
      split at h0
      · rename_i n' tx hx
        obtain rfl := of_decide_eq_true h0
        obtain ⟨_, gm, _⟩ := g.excs.cls _ _ _ hx
        refine ⟨.ref (Z.ca c'), .ref (Z.ca c'), pe_glob (v := .ref (Z.ca c')) (gl_of g h4) gm rfl (noName_dbg h5).1, fun u h => h, fun k p d b hp e => ?_⟩
        cases e
        exact g.excs.one k c' p _ hp hx
      · cases h0
    · -- the base
      simp only [clsB, Bool.and_eq_true, decide_eq_true_eq] at hm
      obtain ⟨⟨⟨rfl, h0⟩, h4⟩, h5⟩ := hm
      obtain ⟨p0, hp0⟩ : ∃ p0, T.excs[0]? = some p0 := by
        cases q : T.excs with
        | nil => exact absurd q h0
        | cons p r => exact ⟨p, rfl⟩
      refine ⟨.ref Z.cb, .ref Z.cb, pe_glob (v := .ref Z.cb) (gl_of g h4) (g.excs.base 0 p0 hp0).1 rfl (noName_dbg h5).1, fun u h => h, fun k p d b hp e => ?_⟩
      cases e
      exact (g.excs.base k p hp).2.1
  obtain ⟨c, cv, hpe, hcv, hk⟩ := key
  have hpa := pa_cons ha (pa_cons hpe pa_nil (starEach_of (e := .Name _ p2) rfl _ _)) (starEach_of hs _ _)
  refine peImp (pe_callB call_isX h1 (g.free _ (by decide +kernel)) (by decide +kernel) hpa h3 h2 (starEach_of hs _ _) (plain_star (es := [.Name _ p2]) (fun e he => by rw [List.mem_singleton.mp he]; rfl) pos X.env)) fun σ H Q ⟨env, S, ι, hE, hS, h⟩ => ?_
  obtain ⟨env', S', ι', q1, q2, q3⟩ := tE1 (ma := ev G a) hE hS h
  refine ⟨env', S', ι', q1, q2, q3.imp fun _ _ v H1 ι1 _ _ _ ⟨dx, S1, ι1', g1, hE1, hS1, r1, hq⟩ => ?_⟩
  obtain ⟨b, e, hq2⟩ := hq.bindOptS
  have hx : ∃ k d, dx = .exc k d ∧ isiS (.exc k d) t [] = some b := by
    cases t <;> first
      | (simp [clsB] at hm; done)
      | (cases dx <;> first
          | (cases e; done)
          | exact ⟨_, _, rfl, e⟩
          | (rename_i l; simp only [isiS] at e; split at e <;> cases e; done))
  obtain ⟨k, d, rfl, ei⟩ := hx
  cases r1 with
  | @exc a0 dd _ _ v0 q hd r =>
    obtain ⟨⟨p, hp⟩, oe, hpn, hz, hv⟩ := g.xq _ _ _ q
    obtain ⟨_, h8, _⟩ := g.excs.fld _ _ hp
    exact ⟨a0, Z.ca k, dd, oe, c, cv, _, b, rfl, hpn, hz, hv, h8, hd, hcv, hk k p d b hp ei, Pst.ret hS1 hq2 (.bl b) _ .refl .bl⟩
/-! ### x[::-1] -/
theorem pe_J_rev (g : Good Z T G cs X W) {k : Nat} {p1 p2 p3 : Pos} (ha : PE X x (tE Z W (ev G a))) : PE X (.Subscript x (.Slice none none (some (.UnaryOp .USub (.Constant (.int 1) k p1) p2)) p3) pos) (tE Z W (ev G (.rev a))) := by
  refine peImp (pe_revA ha) fun σ H Q ⟨env, S, ι, hE, hS, h⟩ => ?_
  obtain ⟨env', S', ι', q1, q2, q3⟩ := tE1 (ma := ev G a) hE hS h
  refine ⟨env', S', ι', q1, q2, q3.imp fun _ _ v H1 ι1 _ _ _ ⟨dx, S1, ι1', g1, hE1, hS1, r1, hq⟩ => ?_⟩
  obtain ⟨d, e, kk⟩ := Pst.optS hS1 hq
  cases hr : res S1 dx with
  | none => simp [hr] at e
  | some dx' =>
    have rd := res_ok hS1 r1 hr
    simp only [hr] at e
    cases dx' <;> first
      | (cases e; done)
      | skip
    · cases e
      cases rd with
      | @tup a vs _ hh rr =>
        refine .inr ⟨a, vs, rfl, by rw [g.K]; exact hh, fun p hp => ?_⟩
        have gk : GrowK H1 ι1' (upd H1 p (.tup vs.reverse)) := .new hS1 hp
        exact kk _ _ gk (.tup (.inl (.inl upd_same)) (RelDs.mono gk.grow rr.reverse))
    · cases e
      obtain ⟨a, vs, rfl, hh, rr⟩ := rd
      refine .inl ⟨a, vs, rfl, .inl (.inl hh), fun p hp => ?_⟩
      have gk : GrowK H1 ι1' (upd H1 p (.lst vs.reverse)) := .new hS1 hp
      exact kk _ _ gk (.lst upd_same (fun m => by obtain ⟨u, z, _⟩ := hS1.there m; rw [hp] at z; cases z) (hS1.newB hp) (RelDs.mono gk.grow rr.reverse))
/-! ### list(range(..)) -/
theorem lrgD_lst {ds : List D} {d : D} (h : lrgD false ds = some d) : ∃ es, d = .lst es := by
  unfold lrgD at h
  split at h
  · split at h
    · cases h; exact ⟨_, rfl⟩
    · cases h
  · split at h
    · cases h; exact ⟨_, rfl⟩
    · cases h
  · cases h
theorem lrg1_lst {t : Bool} {a : E} {env : Env} {S S1 : Store} {d : D} (hf : isF (.lrg1 t a) = true) (h : ev G (.lrg1 t a) env S = some (.ok d S1)) : ∃ ds, d = .lst ds := by
  cases t with
  | true => simp [isF] at hf
  | false =>
    simp only [ev] at h
    split at h
    · cases h
    · simp only [M.bind, M.opt] at h
      split at h
      · cases h
      · cases h
      · split at h
        · cases h
        · rename_i e
          cases h
          exact lrgD_lst e
theorem lrg2_lst {t : Bool} {a b : E} {env : Env} {S S1 : Store} {d : D} (hf : isF (.lrg2 t a b) = true) (h : ev G (.lrg2 t a b) env S = some (.ok d S1)) : ∃ ds, d = .lst ds := by
  cases t with
  | true => simp [isF] at hf
  | false =>
    simp only [ev] at h
    split at h
    · cases h
    · simp only [M.bind, M.opt] at h
      split at h
      · cases h
      · cases h
      · split at h
        · cases h
        · cases h
        · split at h
          · cases h
          · rename_i e
            cases h
            exact lrgD_lst e
theorem rng_rel {Z : Sit} {H : Hp} {ι : List Addr} (i j : Int) : RelDs Z H ι (rngL i (j - i).toNat) (rgV i j) := by
  unfold rngL rgV
  have : ∀ l : List Nat, RelDs Z H ι (l.map fun (k : Nat) => D.int (i + (k : Int))) (l.map fun (k : Nat) => V.int (i + (k : Nat))) := by
    intro l
    induction l with
    | nil => exact .nil
    | cons k l ih => exact .cons .int ih
  exact this _
theorem rg_ok {i j : Int} (h : lrgOk i j) : RgOk i j := by
  obtain ⟨⟨a, b⟩, ⟨c, d⟩, e⟩ := h
  exact ⟨a, b, c, d, by omega⟩
theorem lrgD_1 {t : Bool} {x d : D} (h : lrgD t [x] = some d) : ∃ j, x = .int j ∧ lrgOk 0 j ∧ d = if t then .tup (rngL 0 (j - 0).toNat) else .lst (rngL 0 (j - 0).toNat) := by
  cases x <;> first
    | (cases h; done)
    | skip
  rename_i j
  simp only [lrgD] at h
  split at h
  · cases h; exact ⟨j, rfl, by assumption, rfl⟩
  · cases h
theorem lrgD_2 {t : Bool} {x y d : D} (h : lrgD t [x, y] = some d) : ∃ i j, x = .int i ∧ y = .int j ∧ lrgOk i j ∧ d = if t then .tup (rngL i (j - i).toNat) else .lst (rngL i (j - i).toNat) := by
  cases x <;> first
    | (cases h; done)
    | skip
  cases y <;> first
    | (cases h; done)
    | skip
  rename_i i j
  simp only [lrgD] at h
  split at h
  · cases h; exact ⟨i, j, rfl, rfl, by assumption, rfl⟩
  · cases h
theorem pe_stuck {e : Expr} {m : Env → M D} (h : ∀ env S, m env S = none) : PE X e (tE Z W m) := ⟨fun pins s σ H Q I ⟨env, S, ι, hE, hS, q⟩ => by rw [h] at q; exact q.elim⟩
theorem pf_stuck {e : Expr} {m : Env → M D} (h : ∀ env S, m env S = none) : PE X e (tF Z W m) := ⟨fun pins s σ H Q I ⟨env, S, ι, hE, hS, q⟩ => by rw [h] at q; exact q.elim⟩
theorem pstF_bind {m : M D} {f : D → M D} {S : Store} {σ : L2.St} {H : Hp} {ι : List Addr} {Q : List D → Store → Addr → List V → Hp → List Addr → Prop} (h : PstF Z W σ H ι Q ((m.bind f) S)) :
    Pst Z W σ H ι (fun d S1 v H1 ι1 => Grow H ι H1 ι1 ∧ RelS Z H1 ι1 S1 ∧ RelD Z H1 ι1 d v ∧ PstF Z W σ H1 ι1 Q (f d S1)) (m S) := by
  unfold M.bind at h
  cases e : m S with
  | none => rw [e] at h; exact h
  | some r =>
    rw [e] at h
    cases r with
    | exn c d S1 => exact h
    | ok d S1 =>
      intro v H1 ι1 g s r
      refine ⟨g, s, r, ?_⟩
      have h : PstF Z W σ H ι Q (f d S1) := h
      cases e2 : f d S1 with
      | none => rw [e2] at h; exact h
      | some r2 =>
        rw [e2] at h
        cases r2 with
        | ok d2 S2 => exact fun ds hd p vs H0 ι' g2 s2 r2 hp => h ds hd p vs H0 ι' (g.trans g2) s2 r2 hp
        | exn c d2 S2 => exact fun v2 H2 ι2 dd g2 s2 e3 r2 => h v2 H2 ι2 dd (g.trans g2) s2 e3 r2
theorem pe_J_lrgL1 (g : Good Z T G cs X W) {n m : Str} {p1 p2 p3 : Pos} (hb : biB cs n "list" = true) (hm : biB cs m "range" = true) (hs : starB x = false) (ha : PE X x (tE Z W (ev G a))) :
    PE X (.Call (.Name n p1) [.Call (.Name m p2) [x] [] p3] [] pos) (tF Z W (ev G (.lrg1 false a))) := by
  cases hh : G.hot with
  | true => exact pf_stuck fun env S => by simp only [ev, hh, if_true]; rfl
  | false =>
    obtain ⟨e, h1, h2, h3⟩ := biB_of g hb
    obtain ⟨e', h4, h5, h6⟩ := biB_of g hm
    subst e e'
    refine peImp (pe_listRg (g.calm hh) h1 (g.free _ (by decide +kernel)) (prg_1 h4 (g.free _ (by decide +kernel)) ha (starEach_of hs _ _))) fun σ H Q ⟨env, S, ι, hE, hS, h⟩ => ⟨env, S, ι, hE, hS, ?_⟩
    simp only [ev, hh, Bool.false_eq_true, if_false] at h
    refine (pstF_bind h).imp fun d S1 v H1 ι1 _ _ _ ⟨g1, hS1, r1, q⟩ => ?_
    cases e : lrgD false [d] with
    | none => simp only [M.opt, e] at q; exact q.elim
    | some d' =>
      simp only [M.opt, e] at q
      obtain ⟨j, rfl, ok, rfl⟩ := lrgD_1 e
      cases r1
      exact ⟨j, rfl, rg_ok ok, fun p hp => q _ rfl p (rgV 0 j) H1 ι1 .refl hS1 (rng_rel 0 j) hp⟩
theorem pe_J_lrgT1 (g : Good Z T G cs X W) {n m : Str} {p1 p2 p3 : Pos} (hb : biB cs n "tuple" = true) (hm : biB cs m "range" = true) (hs : starB x = false) (ha : PE X x (tE Z W (ev G a))) :
    PE X (.Call (.Name n p1) [.Call (.Name m p2) [x] [] p3] [] pos) (tE Z W (ev G (.lrg1 true a))) := by
  cases hh : G.hot with
  | true => exact pe_stuck fun env S => by simp only [ev, hh, if_true]; rfl
  | false =>
    obtain ⟨e, h1, h2, h3⟩ := biB_of g hb
    obtain ⟨e', h4, h5, h6⟩ := biB_of g hm
    subst e e'
    refine peImp (pe_tupRg (g.calm hh) h1 (g.free _ (by decide +kernel)) (prg_1 h4 (g.free _ (by decide +kernel)) ha (starEach_of hs _ _))) fun σ H Q ⟨env, S, ι, hE, hS, h⟩ => ?_
    simp only [ev, hh, Bool.false_eq_true, if_false] at h
    refine ⟨env, S, ι, hE, hS, h.split.imp fun d S1 v H1 ι1 _ _ _ ⟨g1, hS1, r1, q⟩ => ?_⟩
    obtain ⟨d', e, k⟩ := Pst.opt hS1 q
    obtain ⟨j, rfl, ok, rfl⟩ := lrgD_1 e
    cases r1
    exact ⟨j, rfl, rg_ok ok, fun p hp => k _ _ (.new hS1 hp) (.tup (.inl (.inl upd_same)) (rng_rel 0 j))⟩
theorem pe_J_lrgL2 (g : Good Z T G cs X W) {n m : Str} {p1 p2 p3 : Pos} (hb : biB cs n "list" = true) (hm : biB cs m "range" = true) (hs : starB x = false) (hs2 : starB y = false) (ha : PE X x (tE Z W (ev G a))) (hy : PE X y (tE Z W (ev G b))) :
    PE X (.Call (.Name n p1) [.Call (.Name m p2) [x, y] [] p3] [] pos) (tF Z W (ev G (.lrg2 false a b))) := by
  cases hh : G.hot with
  | true => exact pf_stuck fun env S => by simp only [ev, hh, if_true]; rfl
  | false =>
    obtain ⟨e, h1, h2, h3⟩ := biB_of g hb
    obtain ⟨e', h4, h5, h6⟩ := biB_of g hm
    subst e e'
    refine peImp (pe_listRg (g.calm hh) h1 (g.free _ (by decide +kernel)) (prg_2 h4 (g.free _ (by decide +kernel)) ha hy (starEach_of hs _ _) (starEach_of hs2 _ _) (plain_star (es := [y]) (fun e he => by rw [List.mem_singleton.mp he]; exact hs2) _ _))) fun σ H Q ⟨env, S, ι, hE, hS, h⟩ => ⟨env, S, ι, hE, hS, ?_⟩
    simp only [ev, hh, Bool.false_eq_true, if_false] at h
    refine (pstF_bind h).imp fun d S1 v H1 ι1 _ _ _ ⟨g1, hS1, r1, q⟩ => ?_
    refine ⟨env, S1, ι1, hE.mono g1, hS1, (pstF_bind q).imp fun d2 S2 v2 H2 ι2 _ _ _ ⟨g2, hS2, r2, q2⟩ => ?_⟩
    cases e : lrgD false [d, d2] with
    | none => simp only [M.opt, e] at q2; exact q2.elim
    | some d' =>
      simp only [M.opt, e] at q2
      obtain ⟨i, j, rfl, rfl, ok, rfl⟩ := lrgD_2 e
      cases r1
      cases r2
      exact ⟨i, j, rfl, rfl, rg_ok ok, fun p hp => q2 _ rfl p (rgV i j) H2 ι2 .refl hS2 (rng_rel i j) hp⟩
theorem pe_J_lrgT2 (g : Good Z T G cs X W) {n m : Str} {p1 p2 p3 : Pos} (hb : biB cs n "tuple" = true) (hm : biB cs m "range" = true) (hs : starB x = false) (hs2 : starB y = false) (ha : PE X x (tE Z W (ev G a))) (hy : PE X y (tE Z W (ev G b))) :
    PE X (.Call (.Name n p1) [.Call (.Name m p2) [x, y] [] p3] [] pos) (tE Z W (ev G (.lrg2 true a b))) := by
  cases hh : G.hot with
  | true => exact pe_stuck fun env S => by simp only [ev, hh, if_true]; rfl
  | false =>
    obtain ⟨e, h1, h2, h3⟩ := biB_of g hb
    obtain ⟨e', h4, h5, h6⟩ := biB_of g hm
    subst e e'
    refine peImp (pe_tupRg (g.calm hh) h1 (g.free _ (by decide +kernel)) (prg_2 h4 (g.free _ (by decide +kernel)) ha hy (starEach_of hs _ _) (starEach_of hs2 _ _) (plain_star (es := [y]) (fun e he => by rw [List.mem_singleton.mp he]; exact hs2) _ _))) fun σ H Q ⟨env, S, ι, hE, hS, h⟩ => ?_
    simp only [ev, hh, Bool.false_eq_true, if_false] at h
    refine ⟨env, S, ι, hE, hS, h.split.imp fun d S1 v H1 ι1 _ _ _ ⟨g1, hS1, r1, q⟩ => ?_⟩
    refine ⟨env, S1, ι1, hE.mono g1, hS1, q.split.imp fun d2 S2 v2 H2 ι2 _ _ _ ⟨g2, hS2, r2, q2⟩ => ?_⟩
    obtain ⟨d', e, k⟩ := Pst.opt hS2 q2
    obtain ⟨i, j, rfl, rfl, ok, rfl⟩ := lrgD_2 e
    cases r1
    cases r2
    exact ⟨i, j, rfl, rfl, rg_ok ok, fun p hp => k _ _ (.new hS2 hp) (.tup (.inl (.inl upd_same)) (rng_rel i j))⟩
/-! ### index, count -/
def rMe (K : PySem.W.Frag) (m : Me) : V → List V → Hp → VK → Prop := fun x xs H Q => ∃ (a : Addr) (y : V) (p : PyData) (ys : List PyData) (k : Nat), x = V.ref a ∧ xs = [y] ∧ Dp K H (V.ref a) (.list ys) ∧ Dp K H y p ∧
  SeqAt.shaped (.list ys) = true ∧ SeqAt.shaped p = true ∧ (match m with | .index => idxD p ys 0 = some k | .count => k = ys.countP fun z => PyData.eqv z p) ∧ Q (.int (k : Int)) H
theorem idxD_at {p : PyData} : ∀ {ys : List PyData} {i j : Nat}, idxD p ys i = some j → ∃ k z, j = i + k ∧ ys[k]? = some z ∧ PyData.eqv z p = true ∧ ∀ (m : Nat) (z' : PyData), m < k → ys[m]? = some z' → PyData.eqv z' p = false
  | [], _, _, h => by cases h
  | y :: r, i, j, h => by
    simp only [idxD] at h
    by_cases q : PyData.eqv y p = true
    · rw [if_pos q] at h
      cases h
      exact ⟨0, y, rfl, rfl, q, fun m z' hm => absurd hm (Nat.not_lt_zero _)⟩
    · rw [if_neg q] at h
      obtain ⟨k, z, e, h1, h2, h3⟩ := idxD_at h
      refine ⟨k + 1, z, by omega, h1, h2, fun m z' hm hz => ?_⟩
      cases m with
      | zero =>
        cases hz
        simpa using q
      | succ m => exact h3 m z' (by omega) hz
theorem mt_countD (hu : X.A.units + 65 < cLine) : MtR X "list.count" (rMe X.K .count) := by
  rintro pins s σ H x xs v us Q I rx rxs ⟨a, y, p, ys, k, ex, exs, dl, dy, sl, sp, hk, fin⟩
  subst ex exs
  cases rx
  obtain ⟨uy, rfl, ry⟩ := rxs.one
  obtain ⟨bs, rdY⟩ := Dp.reads I p y uy dy ry
  cases dl with
  | lst sq all =>
    obtain ⟨its, rv, ⟨⟨oc, od, dat, osl⟩, m, at_, e1, e2, e3⟩, _⟩ := I.list sq
    simp only at e1 e3
    subst e1 e3
    obtain ⟨as, rdI⟩ := Dp.readsAll I ys _ its all rv
    have lay := SeqAt.canLay_of_shaped (d := .list ys) sl
    have same : its.map (SeqAt.readOf s.heap) = ys := SeqAt.readsAll_map ys its as lay rdI
    have each := SeqAt.items_eqAt (A := X.A) (vs := its.toArray) (by simpa using rdI) rdY lay (SeqAt.canLay_of_shaped sp) (PyProof.Rows.room_in_shaped sp hu)
    refine call_meets PySem.F.slot_list_count ⟨_, at_, rfl⟩ PySem.F.entry_list_count (PySem.F.args_list_count_2 _ _) (SeqAt.list_countAt a its.toArray m od osl uy fun z => PyData.eqv (SeqAt.readOf s.heap z) p) ⟨at_, each, ?_⟩
    have cnt : its.toArray.toList.countP (fun z => PyData.eqv (SeqAt.readOf s.heap z) p) = k := by
      have hk : k = ys.countP fun z => PyData.eqv z p := hk
      rw [hk, ← same, List.countP_map]
      rfl
    refine ⟨.int (k : Nat), H, I.tok _, ⟨s.toks, ?_⟩, fin⟩
    show Value.int ((its.toArray.toList.countP _ : Nat) : Int) s.toks = Value.int (k : Int) s.toks
    rw [cnt]
theorem mt_indexJ (hu : X.A.units + 65 < cLine) : MtR X "list.index" (rMe X.K .index) := by
  intro pins s σ H x xs v us Q I rx rxs h
  obtain ⟨a, y, d, ds, k, rfl, rfl, hl, hy, sl, sd, hk, q⟩ := h
  obtain ⟨j, z, e, h1, h2, h3⟩ := idxD_at hk
  have e : k = j := by omega
  subst e
  exact mt_indexD hu pins s σ H _ _ v us Q I rx rxs ⟨a, y, d, ds, k, z, rfl, rfl, hl, hy, sl, sd, h1, h2, h3, q⟩
theorem pe_J_meth (g : Good Z T G cs X W) {m : Me} {ap : Pos} (h0 : plainO x = true) (hl : (ap.endLine == pos.line) = true) (hs : starB y = false) (ha : PE X x (tE Z W (ev G a))) (hb : PE X y (tE Z W (ev G b))) :
    PE X (.Call (.Attribute x (meName m) ap) [y] [] pos) (tE Z W (ev G (.meth m a b))) := by
  have hst := starEach_of hs [] X.env
  have hfew : ((backTo pos (starEach [y] X.env)).all (fun x => !x.1) && (backToKw pos (keywordEach [] X.env)).all (fun x => x.1.isSome) && decide ([y].length + ([] : List Keyword).length + (if ([] : List Keyword).isEmpty then 0 else 1) < 30)) = true := by
    rw [hst]; rfl
  have key : PE X (.Call (.Attribute x (meName m) ap) [y] [] pos) (tBM X.K "list" (rMe X.K m) (tE Z W (ev G a)) (tCons (tE Z W (ev G b)) tNil)) := by
    cases m with
    | index => exact pe_bm PySem.F.plainAttrs_list PySem.F.slot_list_index PySem.F.type_list_index (mt_indexJ (by have := g.units; exact this)) ha (pa_cons hb pa_nil hst) (attrBase_of h0) hfew hl hst rfl
    | count => exact pe_bm PySem.F.plainAttrs_list PySem.F.slot_list_count PySem.F.type_list_count (mt_countD (by have := g.units; exact this)) ha (pa_cons hb pa_nil hst) (attrBase_of h0) hfew hl hst rfl
  refine peImp key fun σ H Q ⟨env, S, ι, hE, hS, h⟩ => ?_
  obtain ⟨env', S', ι', q1, q2, q3⟩ := tE1 (ma := ev G a) hE hS h
  refine ⟨env', S', ι', q1, q2, q3.imp fun _ _ v H1 ι1 _ _ _ ⟨dx, S1, ι1', g1, hE1, hS1, r1, hq⟩ => ?_⟩
  obtain ⟨u, eu, hq⟩ := hq.bindOptS
  have il : isList dx S1 = true := by
    by_cases z : isList dx S1 = true
    · exact z
    · rw [if_neg z] at eu; cases eu
  have ref : ∃ r, v = .ref r ∧ ∃ vs, SqL X.K H1 r vs := by
    cases r1 with
    | lst h n b r => exact ⟨_, rfl, _, .inl (.inl h)⟩
    | flst h n b r => exact ⟨_, rfl, _, .inl (.inl h)⟩
    | flstF h r =>
      rcases h with ⟨o, h⟩ | h
      · exact ⟨_, rfl, _, .inl (.inr ⟨o, h⟩)⟩
      · exact ⟨_, rfl, _, by rw [g.K]; exact h H1⟩
    | @loc r0 l hh =>
      cases hc : S1[l]? with
      | none => simp [isList, hc] at il
      | some c =>
        obtain ⟨o, ho, rc⟩ := hS1.at_ l c r0 hc hh
        cases rc with
        | lst rr => exact ⟨_, rfl, _, .inl (.inl ho)⟩
        | dct rr => simp [isList, hc] at il
    | _ => simp [isList] at il
  obtain ⟨r, rfl, vs0, sq0⟩ := ref
  obtain ⟨env2, S2, ι2, p1, p2, p3⟩ := tE1 (ma := ev G b) hE1 hS1 hq
  refine ⟨.inl ⟨rfl, vs0, sq0⟩, ⟨env2, S2, ι2, p1, p2, p3.imp fun _ _ v2 H2 ι3 gg _ _ ⟨dy, S3, ι4, g2, hE2, hS2, r2, hq2⟩ => ?_⟩⟩
  show rMe X.K m (.ref r) [v2] H2 Q
  obtain ⟨d, e, k⟩ := Pst.optS hS2 hq2
  have r1' := r1.mono g2
  unfold meS at e
  cases hi : itemsS dx S3 with
  | none => simp [hi] at e
  | some ds =>
    simp only [hi] at e
    cases hys : toPys ds with
    | none => simp [hys] at e
    | some ys =>
      cases hp : (res S3 dy).bind toPy with
      | none => simp [hys, hp] at e
      | some p =>
        simp only [hys, hp] at e
        by_cases hs : SeqAt.shaped (.list ys) = true ∧ SeqAt.shaped p = true
        · rw [if_pos hs] at e
          have d1 : Dp X.K H2 (.ref r) (.list ys) := by
            rw [g.K]
            have fin : ∀ {dd : D}, res S3 dx = some dd → toPy dd = some (.list ys) → Dp Z.K H2 (.ref r) (.list ys) := fun e1 e2 => dp_rdd (res_ok hS2 r1' e1) e2
            cases dx with
            | loc l =>
              simp only [itemsS] at hi
              cases hc : S3[l]? with
              | none => simp [hc] at hi
              | some c =>
                cases c with
                | lst ds' =>
                  simp only [hc, Option.some.injEq] at hi
                  subst hi
                  exact fin (dd := .lst ds') (by simp [res, hc]) (by simp [toPy, hys])
                | dct _ => simp [hc] at hi
                | obj _ _ => simp [hc] at hi
            | lst ds' => simp only [itemsS, Option.some.injEq] at hi; subst hi; exact fin rfl (by simp [toPy, hys])
            | flst ds' => simp only [itemsS, Option.some.injEq] at hi; subst hi; exact fin rfl (by simp [toPy, hys])
            | _ => simp [isList] at il
          have d2 : Dp X.K H2 v2 p := by
            rw [g.K]
            cases hr : res S3 dy with
            | none => simp [hr] at hp
            | some dy' =>
              rw [hr] at hp
              exact dp_rdd (res_ok hS2 r2 hr) hp
          cases m with
          | index =>
            simp only [meD] at e
            cases q : idxD p ys 0 with
            | none => simp [q] at e
            | some j =>
              simp only [q, Option.map_some, Option.some.injEq] at e
              subst e
              exact ⟨r, v2, p, ys, j, rfl, rfl, d1, d2, hs.1, hs.2, q, k _ _ .refl .int⟩
          | count =>
            simp only [meD, Option.some.injEq] at e
            subst e
            exact ⟨r, v2, p, ys, _, rfl, rfl, d1, d2, hs.1, hs.2, rfl, k _ _ .refl .int⟩
        · rw [if_neg hs] at e; cases e
end
end J
/-! J5: comprehensions; all expressions -/
namespace J
open PySem L2
section
variable {Z : Sit} {H H' : Hp} {ι : List Addr} {p : Addr}
mutual
theorem RelD.off (hb : p ∈ Z.bad) (hn : p ∉ ι) (hD : Mut (H p)) (he : ∀ a, a ≠ p → H' a = H a) : ∀ {d : D} {v : V}, RelD Z H ι d v → RelD Z H' ι d v
  | _, _, .non => .non
  | _, _, .bl => .bl
  | _, _, .int => .int
  | _, _, .str => .str
  | _, _, .tup h r => .tup (by
      rcases h with (h | ⟨o, h⟩) | h
      · exact .inl (.inl (by rw [he _ (by rintro rfl; rw [h] at hD; exact hD)]; exact h))
      · exact .inl (.inr ⟨o, by rw [he _ (by rintro rfl; rw [h] at hD; exact hD)]; exact h⟩)
      · exact .inr h) (RelDs.off hb hn hD he r)
  | _, _, .lst h n b r => .lst (by rw [he _ (by rintro rfl; exact b hb)]; exact h) n b (RelDs.off hb hn hD he r)
  | _, _, .flst h n b r => .flst (by rw [he _ (by rintro rfl; exact b hb)]; exact h) n b (RelDs.off hb hn hD he r)
  | _, _, .flstF h r => .flstF (by
      rcases h with ⟨o, h⟩ | h
      · exact .inl ⟨o, by rw [he _ (by rintro rfl; rw [h] at hD; exact hD)]; exact h⟩
      · exact .inr h) (RelDs.off hb hn hD he r)
  | _, _, .loc h => .loc h
  | _, _, .fn => .fn
  | _, _, .exc q h r => .exc q (by rw [he _ (by rintro rfl; rw [h] at hD; exact hD)]; exact h) (RelD.off hb hn hD he r)
theorem RelDs.off (hb : p ∈ Z.bad) (hn : p ∉ ι) (hD : Mut (H p)) (he : ∀ a, a ≠ p → H' a = H a) : ∀ {ds : List D} {vs : List V}, RelDs Z H ι ds vs → RelDs Z H' ι ds vs
  | _, _, .nil => .nil
  | _, _, .cons r t => .cons (RelD.off hb hn hD he r) (RelDs.off hb hn hD he t)
end
mutual
theorem RelD.ofBad {bs : List Addr} : ∀ {d : D} {v : V}, RelD (Z.add bs) H ι d v → RelD Z H ι d v
  | _, _, .non => .non
  | _, _, .bl => .bl
  | _, _, .int => .int
  | _, _, .str => .str
  | _, _, .tup h r => .tup h (RelDs.ofBad r)
  | _, _, .lst h n b r => .lst h n (fun m => b (List.mem_append_right _ m)) (RelDs.ofBad r)
  | _, _, .flst h n b r => .flst h n (fun m => b (List.mem_append_right _ m)) (RelDs.ofBad r)
  | _, _, .flstF h r => .flstF h (RelDs.ofBad r)
  | _, _, .loc h => .loc h
  | _, _, .fn => .fn (Z := Z)
  | _, _, .exc q h r => .exc (Z := Z) q h (RelD.ofBad r)
theorem RelDs.ofBad {bs : List Addr} : ∀ {ds : List D} {vs : List V}, RelDs (Z.add bs) H ι ds vs → RelDs Z H ι ds vs
  | _, _, .nil => .nil
  | _, _, .cons r t => .cons (RelD.ofBad r) (RelDs.ofBad t)
end
theorem RelK.map {Z' : Sit} {ι' : List Addr} (h : ∀ {d : D} {v : V}, RelD Z H ι d v → RelD Z' H' ι' d v) {r : List (D × D)} {s : List (Key × V)} (k : RelK Z H ι r s) : RelK Z' H' ι' r s := by
  induction k with
  | nil => exact .nil
  | int q _ ih => exact .int (h q) ih
  | str q _ ih => exact .str (h q) ih
theorem RelDs.map {Z' : Sit} {ι' : List Addr} (h : ∀ {d : D} {v : V}, RelD Z H ι d v → RelD Z' H' ι' d v) : ∀ {ds : List D} {vs : List V}, RelDs Z H ι ds vs → RelDs Z' H' ι' ds vs
  | _, _, .nil => .nil
  | _, _, .cons r t => .cons (h r) (RelDs.map h t)
theorem RelC.map {Z' : Sit} {ι' : List Addr} (h : ∀ {d : D} {v : V}, RelD Z H ι d v → RelD Z' H' ι' d v) {c : Cell} {o : HO} (k : RelC Z H ι c o) : RelC Z' H' ι' c o := by
  cases k with
  | lst r => exact .lst (RelDs.map h r)
  | dct r => exact .dct (r.map h)
variable {S : Store}
theorem RelS.ofBad {bs : List Addr} (s : RelS (Z.add bs) H ι S) : RelS Z H ι S :=
  ⟨s.len, s.nd, fun a m => s.bad a (List.mem_append_right _ m), fun l c a e1 e2 => by
    obtain ⟨o, q, r⟩ := s.at_ l c a e1 e2
    exact ⟨o, q, r.map RelD.ofBad⟩⟩
theorem RelS.notin (s : RelS Z H ι S) (hp : H p = none) : p ∉ ι := fun m => by
  obtain ⟨o, q, _⟩ := s.there m
  rw [hp] at q; cases q
theorem one_bad (hp : H p = none) : ∀ b ∈ [p], H b = none := fun b hb => by rw [List.mem_singleton.mp hb]; exact hp
theorem RelS.addNew {o : HO} (s : RelS Z H ι S) (hp : H p = none) : RelS (Z.add [p]) (upd H p o) ι S :=
  ⟨s.len, s.nd, fun a m z => by
    rcases List.mem_append.mp m with m | m
    · rw [List.mem_singleton.mp m, upd_same] at z; cases z
    · exact (s.new hp).bad a m z, fun l c a e1 e2 => by
    obtain ⟨u, q, r⟩ := s.at_ l c a e1 e2
    exact ⟨u, by rw [upd_ne (ne_of_none q hp)]; exact q, r.map fun r => (r.toBad (one_bad hp)).mono (Grow.new hp)⟩⟩
/-- the out of reach place changes -/
theorem RelS.off {o : HO} (s : RelS Z H ι S) (hb : p ∈ Z.bad) (hn : p ∉ ι) (hD : Mut (H p)) : RelS Z (upd H p o) ι S :=
  ⟨s.len, s.nd, fun a m z => by
    by_cases q : a = p
    · rw [q, upd_same] at z; cases z
    · rw [upd_ne q] at z; exact s.bad a m z, fun l c a e1 e2 => by
    obtain ⟨u, q, r⟩ := s.at_ l c a e1 e2
    exact ⟨u, by rw [upd_ne (by rintro rfl; exact hn (List.mem_of_getElem? e2))]; exact q, r.map (RelD.off hb hn hD fun a ha => upd_ne ha)⟩⟩
def del (H : Hp) (p : Addr) : Hp := fun a => if a = p then none else H a
theorem del_ne {a : Addr} (h : a ≠ p) : del H p a = H a := if_neg h
theorem del_self : del H p p = none := if_pos rfl
theorem upd_del {o : HO} (h : H p = some o) : upd (del H p) p o = H := by
  funext a
  by_cases q : a = p
  · subst q; rw [upd_same, h]
  · rw [upd_ne q, del_ne q]
theorem RelS.drop (s : RelS (Z.add [p]) H ι S) (hb : p ∉ Z.bad) (hn : p ∉ ι) (hD : Mut (H p)) : RelS Z (del H p) ι S :=
  ⟨s.len, s.nd, fun a m z => by
    rw [del_ne (by rintro rfl; exact hb m)] at z
    exact s.bad a (List.mem_append_right _ m) z, fun l c a e1 e2 => by
    obtain ⟨u, q, r⟩ := s.at_ l c a e1 e2
    exact ⟨u, by rw [del_ne (by rintro rfl; exact hn (List.mem_of_getElem? e2))]; exact q, r.map fun r => (r.off (List.mem_append_left _ (List.mem_singleton.mpr rfl)) hn hD fun a ha => del_ne ha).ofBad⟩⟩
theorem Grow.setNew {H1 : Hp} {ι1 : List Addr} {o : HO} (g : Grow H1 ι1 H ι) (hp : H1 p = none) : Grow H1 ι1 (upd H p o) ι :=
  ⟨fun a u e c => by rw [upd_ne (ne_of_none e hp)]; exact g.keep a u e c, fun a e => by
    by_cases q : a = p
    · rw [q]; exact hp
    · rw [upd_ne q] at e; exact g.dom a e, g.pre⟩
theorem Grow.del {H1 : Hp} {ι1 : List Addr} (g : Grow H1 ι1 H ι) (hp : H1 p = none) : Grow H1 ι1 (del H p) ι :=
  ⟨fun a u e c => by rw [del_ne (ne_of_none e hp)]; exact g.keep a u e c, fun a e => by
    by_cases q : a = p
    · rw [q]; exact hp
    · rw [del_ne q] at e; exact g.dom a e, g.pre⟩
theorem RelE.toBad {env : Env} {σ : L2.St} {bs : List Addr} (hb : ∀ b ∈ bs, H b = none) (h : RelE Z H ι env σ) : RelE (Z.add bs) H ι env σ :=
  ⟨h.len, fun i d e => let ⟨v, e1, r⟩ := h.at_ i d e; ⟨v, e1, r.toBad hb⟩⟩
theorem wipeE_len (env : Env) : ∀ vs : List Nat, (wipeE env vs).length = env.length
  | [] => rfl
  | v :: vs => by unfold wipeE; rw [List.length_set, wipeE_len env vs]
theorem RelE.wipe {env : Env} {σ : L2.St} (h : RelE Z H ι env σ) : ∀ vs : List Nat, RelE Z H ι (wipeE env vs) (wipe σ vs)
  | [] => h
  | v :: vs => by
    have ih := h.wipe vs
    unfold wipeE L2.wipe
    refine ⟨by rw [List.length_set, List.length_set]; exact ih.len, fun i d e => ?_⟩
    by_cases q : v = i
    · subst q
      by_cases hv : v < (wipeE env vs).length
      · rw [List.getElem?_set_self hv] at e; cases e
      · rw [List.getElem?_eq_none (by simpa using hv)] at e; cases e
    · rw [List.getElem?_set_ne q] at e ⊢
      exact ih.at_ i d e
theorem wipe_same {σ σ' : L2.St} (hl : σ'.length = σ.length) : ∀ vs : List Nat, (∀ j, j ∉ vs → σ'[j]? = σ[j]?) → L2.wipe σ' vs = L2.wipe σ vs := by
  have key : ∀ (vs : List Nat) (σ : L2.St) (j : Nat), (L2.wipe σ vs)[j]? = if j ∈ vs ∧ j < σ.length then some none else σ[j]? := by
    intro vs σ j
    induction vs with
    | nil => simp [L2.wipe]
    | cons v vs ih =>
      unfold L2.wipe
      by_cases q : v = j
      · subst q
        by_cases hv : v < σ.length
        · rw [List.getElem?_set_self (by rw [wipe_length]; exact hv)]
          simp [hv]
        · rw [List.getElem?_eq_none (by rw [List.length_set, wipe_length]; omega)]
          simp [hv]
      · rw [List.getElem?_set_ne q, ih]
        have : j ≠ v := fun e => q e.symm
        simp [this]
  intro vs h
  refine List.ext_getElem? fun j => ?_
  rw [key, key]
  by_cases hj : j ∈ vs
  · by_cases hv : j < σ.length
    · simp [hj, hv, hl]
    · simp [hj, hv, hl]
  · simp [hj, h j hj]
end

/-! ### targets -/
def isTupT : E → Bool
  | .tup _ => true
  | _ => false
/-- a value, or the items of a list to be unpacked -/
def RelU (Z : Sit) (H : Hp) (ι : List Addr) (tg : E) (d : D) (v : V) : Prop := RelD Z H ι d v ∨ (isTupT tg = true ∧ ∃ ds a vs, d = .lst ds ∧ v = .ref a ∧ H a = some (.lst vs) ∧ RelDs Z H ι ds vs)
def gJ (Z : Sit) (tg : E) : TG := fun v σ H Q => ∃ bs env d ι env', RelE (Z.add bs) H ι env σ ∧ RelU (Z.add bs) H ι tg d v ∧ bindT tg d env = some env' ∧
  ∀ σ', RelE (Z.add bs) H ι env' σ' → σ'.length = σ.length → (∀ j, j ∉ varsT tg → σ'[j]? = σ[j]?) → Q σ' H
def gJs (Z : Sit) (tg : E) : TGs := fun vs σ H Q => ∃ bs env ds ι env', RelE (Z.add bs) H ι env σ ∧ RelDs (Z.add bs) H ι ds vs ∧ bindTs tg ds env = some env' ∧
  ∀ σ', RelE (Z.add bs) H ι env' σ' → σ'.length = σ.length → (∀ j, j ∉ varsT tg → σ'[j]? = σ[j]?) → Q σ' H
theorem RelE.set {Z : Sit} {H : Hp} {ι : List Addr} {env : Env} {σ : L2.St} {i : Nat} {d : D} {v : V} (h : RelE Z H ι env σ) (r : RelD Z H ι d v) : RelE Z H ι (env.set i (some d)) (σ.set i (some v)) := by
  refine ⟨by simp [h.len], fun j e he => ?_⟩
  by_cases q : i = j
  · subst q
    by_cases hv : i < env.length
    · rw [List.getElem?_set_self hv] at he
      rw [List.getElem?_set_self (by rw [← h.len]; exact hv)]
      cases he
      exact ⟨v, rfl, r⟩
    · rw [List.getElem?_eq_none (by simpa using hv)] at he; cases he
  · rw [List.getElem?_set_ne q] at he ⊢
    exact h.at_ j e he
theorem assign_each {x : Expr} (xs : List Expr) (env : PySem.Env) (h : (∃ n p, x = .Name n p) ∨ ∃ es k p, x = .Tuple es k p) : assignEach (x :: xs) env = (false, assign x env) :: assignEach xs env := by
  rcases h with ⟨n, p, rfl⟩ | ⟨es, k, p, rfl⟩ <;> rfl
theorem chkT_form {N : List Str} {cs : CS} : ∀ {tg : E} {x : Expr}, chkT N cs tg x = true → (∃ n p, x = .Name n p) ∨ ∃ es k p, x = .Tuple es k p := by
  intro tg x h
  cases tg <;> cases x <;> first
    | exact .inl ⟨_, _, rfl⟩
    | exact .inr ⟨_, _, _, rfl⟩
    | (simp [chkT] at h; done)
theorem chkTs_each {N : List Str} {cs : CS} : ∀ {tg : E} {xs : List Expr}, chkTs N cs tg xs = true → ∀ env, (assignEach xs env).length = xs.length ∧ (assignEach xs env).findIdx? (·.1) = none := by
  intro tg
  induction tg with
  | nil =>
    intro xs h env
    cases xs with
    | nil => exact ⟨rfl, rfl⟩
    | cons _ _ => simp [chkTs] at h
  | cons t r _ ih =>
    intro xs h env
    cases xs with
    | nil => simp [chkTs] at h
    | cons x xs =>
      simp only [chkTs, Bool.and_eq_true] at h
      obtain ⟨h1, h2⟩ := ih h.2 env
      rw [assign_each xs env (chkT_form h.1)]
      exact ⟨by simp [h1], by rw [List.findIdx?_cons]; simp [h2]⟩
  | _ => intro xs h; cases xs <;> simp [chkTs] at h
theorem bindTs_len : ∀ {tg : E} {ds : List D} {env env' : Env}, bindTs tg ds env = some env' → ∀ {N : List Str} {cs : CS} {xs : List Expr}, chkTs N cs tg xs = true → ds.length = xs.length := by
  intro tg
  induction tg with
  | nil =>
    intro ds env env' h N cs xs hx
    cases xs with
    | cons _ _ => simp [chkTs] at hx
    | nil =>
      cases ds with
      | nil => rfl
      | cons _ _ => simp [bindTs] at h
  | cons t r _ ih =>
    intro ds env env' h N cs xs hx
    cases xs with
    | nil => simp [chkTs] at hx
    | cons x xs =>
      cases ds with
      | nil => simp [bindTs] at h
      | cons d ds =>
        simp only [bindTs] at h
        split at h
        · simp only [chkTs, Bool.and_eq_true] at hx
          simp [ih h hx.2]
        · cases h
  | _ => intro ds env env' h N cs xs hx; cases xs <;> simp [chkTs] at hx
section
variable {Z : Sit} {T : Tab} {G : Ctx} {cs : CS} {X : Cx} {W : WX}
theorem pg_J (g : Good Z T G cs X W) : ∀ tg : E, (∀ x, chkT X.N cs tg x = true → (X.calm = true ∨ ∃ i, tg = .var i) → PG X x (gJ Z tg)) ∧ (∀ xs, chkTs X.N cs tg xs = true → X.calm = true → PGs X xs (gJs Z tg)) := by
  intro tg
  induction tg with
  | var i =>
    refine ⟨fun x h hc => ?_, fun xs h => by cases xs <;> simp [chkTs] at h⟩
    cases x <;> first
      | (simp [chkT] at h; done)
      | skip
    simp only [chkT, Bool.and_eq_true, decide_eq_true_eq] at h
    refine ⟨fun pins s σ H v u Q I r ⟨bs, env, d, ι, env', hE, rd, hb, k⟩ => ?_⟩
    have rd : RelD (Z.add bs) H ι d v := rd.elim id fun z => nomatch z.1
    refine (pg_name g.nd h.1 (loc_of g h.2) (g.fn _ h.2)).run pins s σ H v u Q I r ?_
    simp only [bindT] at hb
    split at hb
    · cases hb
      refine k _ (hE.set rd) (by simp) fun j hj => ?_
      rw [List.getElem?_set_ne]
      intro e
      exact hj (by simp [varsT, e])
    · cases hb
  | tup es ih =>
    refine ⟨fun x h hc => ?_, fun xs h => by cases xs <;> simp [chkTs] at h⟩
    cases x <;> first
      | (simp [chkT] at h; done)
      | skip
    simp only [chkT] at h
    have hc : X.calm = true := hc.elim id fun ⟨_, e⟩ => nomatch e
    have p := ih.2 _ h hc
    refine ⟨fun pins s σ H v u Q I r hh => ?_⟩
    obtain ⟨bs, env, d, ι, env', hE, rd, hb, k⟩ := hh
    rcases rd with rd | ⟨_, ds, a, vs, rfl, rfl, hq, rr⟩
    case inr =>
      refine (pg_unl hc p (chkTs_each h X.env).1 (chkTs_each h X.env).2).run pins s σ H _ u Q I r ?_
      simp only [bindT] at hb
      exact ⟨a, vs, rfl, .inl (.inl hq), by rw [← rr.length]; exact bindTs_len hb h, bs, env, ds, ι, env', hE, rr, hb, k⟩
    cases rd <;> first
      | (simp [bindT] at hb; done)
      | skip
    · rename_i a vs ds hq rr
      refine (pg_tup hc p (chkTs_each h X.env).1 (chkTs_each h X.env).2).run pins s σ H _ u Q I r ?_
      simp only [bindT] at hb
      exact ⟨a, vs, rfl, by rw [g.K]; exact hq, by rw [← rr.length]; exact bindTs_len hb h, bs, env, ds, ι, env', hE, rr, hb, k⟩
    · rename_i a vs ds hq hn hbad rr
      refine (pg_unl hc p (chkTs_each h X.env).1 (chkTs_each h X.env).2).run pins s σ H _ u Q I r ?_
      simp only [bindT] at hb
      exact ⟨a, vs, rfl, .inl (.inl hq), by rw [← rr.length]; exact bindTs_len hb h, bs, env, ds, ι, env', hE, rr, hb, k⟩
  | nil =>
    refine ⟨fun x h => by cases x <;> simp [chkT] at h, fun xs h hc => ?_⟩
    cases xs with
    | cons _ _ => simp [chkTs] at h
    | nil =>
      refine ⟨fun pins s σ H vs us Q I r ⟨bs, env, ds, ι, env', hE, rd, hb, k⟩ => ?_⟩
      refine pgs_nil.run pins s σ H vs us Q I r ?_
      cases rd with
      | cons _ _ => simp [bindTs] at hb
      | nil =>
        cases hb
        exact ⟨rfl, k _ hE rfl fun _ _ => rfl⟩
  | cons t r iht ihr =>
    refine ⟨fun x h => by cases x <;> simp [chkT] at h, fun xs h hc => ?_⟩
    cases xs with
    | nil => simp [chkTs] at h
    | cons x xs =>
      simp only [chkTs, Bool.and_eq_true] at h
      have p1 := iht.1 x h.1 (.inl hc)
      have p2 := ihr.2 xs h.2 hc
      refine ⟨fun pins s σ H vs us Q I r ⟨bs, env, ds, ι, env', hE, rd, hb, k⟩ => ?_⟩
      refine (pgs_cons p1 p2 (by rw [assign_each xs X.env (chkT_form h.1)]; rfl)).run pins s σ H vs us Q I r ?_
      cases rd with
      | nil => simp [bindTs] at hb
      | @cons d v ds vs rd rr =>
        simp only [bindTs] at hb
        split at hb
        · rename_i env1 h1
          refine ⟨v, vs, rfl, bs, env, d, ι, env1, hE, .inl rd, h1, fun σ1 hE1 hl1 hs1 => ?_⟩
          refine ⟨bs, env1, ds, ι, env', hE1, rr, hb, fun σ' hE' hl hs => k σ' hE' (hl.trans hl1) fun j hj => ?_⟩
          simp only [varsT, List.mem_append, not_or] at hj
          rw [hs j hj.2, hs1 j hj.1]
        · cases hb
  | _ => exact ⟨fun x h => by cases x <;> simp [chkT] at h, fun xs h => by cases xs <;> simp [chkTs] at h⟩
/-! ### comprehensions -/
theorem good_blk (g : Good Z T G cs X W) (hh : G.hot = false) (bs : List Addr) (s : Shared) (H : Hp) (scope : Scope) (C : Addr) (cl : List (Str × Addr)) (fp : List Addr) :
    Good (Z.add bs) T G ⟨relS scope cs.sc, some scope⟩ (X.blk s H scope (compEnvC scope cl C X.env) fp) never where
  K := g.K
  sc := by rw [← g.sc]; rfl
  fn := fun x h => by
    have e : (X.blk s H scope (compEnvC scope cl C X.env) fp).env.scope = relS scope cs.sc := by rw [← g.sc]; rfl
    unfold locB at h
    rw [e]
    simp only at h
    split at h
    · exact .inr (by assumption)
    · exact .inl h
    · cases h
  nd := g.nd
  units := g.units
  grd := g.grd
  calm := g.calm
  free := g.free
  gints := g.gints
  gtups := g.gtups
  glo := g.glo
  dep := g.dep
  excs := ⟨g.excs.cls, g.excs.fld, g.excs.val, g.excs.one, g.excs.base⟩
  xq := fun a c dd e => by rw [show (Z.add bs).xq = Z.xq from rfl, g.xq0 hh] at e; cases e
  xq0 := g.xq0
  takes := fun u s' ⟨a, B, sI, pins, σ, H, cls, d, e, I, nb, up, sky, na, os, ag, w⟩ => False.elim w
  calls := fun X' W' bad l h t => g.calls X' W' bad ⟨l.prog, l.w, l.K, l.mg, l.base, l.A⟩ (fun z => by rw [hh] at z; cases z) t
theorem compL_ok {gs : List Guard} {f : D → M (Option D)} {ds : List D} {S : Store} {r : R (List D)} (h : compL gs f ds S = some r) : ∃ ys S', r = .ok ys S' := by
  cases ds with
  | nil =>
    unfold compL at h
    split at h
    · cases h; exact ⟨_, _, rfl⟩
    · cases h
  | cons d ds =>
    unfold compL at h
    split at h
    · split at h
      · rename_i S1 e
        exact compL_ok h
      · split at h
        · cases h; exact ⟨_, _, rfl⟩
        · cases h
      · cases h
    · cases h
theorem compL_guard {gs : List Guard} {f : D → M (Option D)} {ds : List D} {S : Store} {r : R (List D)} (h : compL gs f ds S = some r) : ∀ g ∈ gs, okG g S := by
  cases ds with
  | nil =>
    unfold compL at h
    split at h
    · assumption
    · cases h
  | cons d ds =>
    unfold compL at h
    split at h
    · assumption
    · cases h
theorem compL_cons {gs : List Guard} {f : D → M (Option D)} {d : D} {ds zs : List D} {S Sf : Store} (h : compL gs f (d :: ds) S = some (.ok zs Sf)) :
    (∃ S1, f d S = some (.ok none S1) ∧ compL gs f ds S1 = some (.ok zs Sf)) ∨ ∃ y ys S1, f d S = some (.ok (some y) S1) ∧ compL gs f ds S1 = some (.ok ys Sf) ∧ zs = y :: ys := by
  unfold compL at h
  split at h
  · split at h
    · rename_i S1 e
      exact .inl ⟨S1, e, h⟩
    · rename_i y S1 e
      split at h
      · rename_i ys S2 e2
        cases h
        exact .inr ⟨y, ys, S1, e, e2, rfl⟩
      · cases h
    · cases h
  · cases h
theorem bind_inv {α β : Type} {m : M α} {f : α → M β} {S S1 : Store} {d : β} (e : (m.bind f) S = some (.ok d S1)) : ∃ a S2, m S = some (.ok a S2) ∧ f a S2 = some (.ok d S1) := by
  unfold M.bind at e
  cases q : m S with
  | none => simp [q] at e
  | some r =>
    simp only [q] at e
    cases r with
    | exn c d S1 => simp at e
    | ok a S2 => exact ⟨a, S2, rfl, e⟩
theorem bindS_inv {α β : Type} {o : Store → Option α} {f : α → M β} {S S1 : Store} {d : β} (e : ((M.optS o).bind f) S = some (.ok d S1)) : ∃ a, o S = some a ∧ f a S = some (.ok d S1) := by
  unfold M.bind M.optS at e
  cases q : o S with
  | none => simp [q] at e
  | some a => simp only [q] at e; exact ⟨a, rfl, e⟩
/-- what one turn of a comprehension does -/
noncomputable def turnF (G : Ctx) (tg c elt : E) (own : List Nat) (env : Env) : D → M (Option D) := fun d => match bindT tg d (wipeE env own) with
  | none => M.opt none
  | some env' => (ev G c env').bind fun x => (M.optS (truS x)).bind fun t => if t then (ev G elt env').bind fun y => M.ret (some y) else M.ret none
theorem turnF_inv {tg c elt : E} {own : List Nat} {env : Env} {d : D} {S S2 : Store} {o : Option D} (h : turnF G tg c elt own env d S = some (.ok o S2)) :
    ∃ env' x t S1, bindT tg d (wipeE env own) = some env' ∧ ev G c env' S = some (.ok x S1) ∧ truS x S1 = some t ∧ ((t = false ∧ o = none ∧ S2 = S1) ∨ (t = true ∧ ∃ y, o = some y ∧ ev G elt env' S1 = some (.ok y S2))) := by
  unfold turnF at h
  cases hb : bindT tg d (wipeE env own) with
  | none => simp [hb, M.opt] at h
  | some env' =>
    simp only [hb] at h
    obtain ⟨x, S1, h1, h⟩ := bind_inv h
    obtain ⟨t, h2, h⟩ := bindS_inv h
    cases t with
    | false =>
      rw [if_neg Bool.false_ne_true] at h
      cases h
      exact ⟨env', x, false, _, rfl, h1, h2, .inl ⟨rfl, rfl, rfl⟩⟩
    | true =>
      rw [if_pos rfl] at h
      obtain ⟨y, S3, h3, h⟩ := bind_inv h
      cases h
      exact ⟨env', x, true, S1, rfl, h1, h2, .inr ⟨rfl, y, rfl, h3⟩⟩
theorem peEx {e : Expr} {B : Type} {t : B → TE} (h : ∀ b, PE X e (t b)) : PE X e (fun σ H Q => ∃ b, t b σ H Q) := ⟨fun pins s σ H Q I ⟨b, q⟩ => (h b).run pins s σ H Q I q⟩
theorem ptsEx {es : List Expr} {B : Type} {t : B → TT} (h : ∀ b, PTs X es (t b)) : PTs X es (fun σ H Q => ∃ b, t b σ H Q) := ⟨fun pins s σ H Q I ⟨b, q⟩ => (h b).run pins s σ H Q I q⟩
theorem big_line {n : Nat} (h : n < 1000000) : n < sizeLine := by rw [sizeLine_eq]; omega
theorem setB_hs {it : Expr} (h : setB it = false) (env : PySem.Env) : ∀ x, foldedSetIterable it env x = pure x := by
  intro x
  cases it <;> first
    | rfl
    | (cases h; done)
theorem comp_imp {tg as c elt : E} {k : Ik} {own : List Nat} (hh : G.hot = false) (hv : (varsT tg).all (fun i => decide (i ∈ own)) = true) : ∀ σ H Q, tF Z W (ev G (.comp tg k as c elt own)) σ H Q →
    tLc (tI Z W k (ev G as)) (gJ Z tg) (fun σ H Q => ∃ bs, tT (Z.add bs) never (ev G c) σ H Q) (fun σ H Q => ∃ bs, tE (Z.add bs) never (ev G elt) σ H Q) own σ H Q := by
  refine fun σ H Q ⟨env, S, ι, hE, hS, h⟩ => ⟨env, S, ι, hE, hS, ?_⟩
  have h : PstF Z W σ H ι (fun _ _ p vs H0 _ => Q (.ref p) (upd H0 p (.lst vs))) (((ev G as env).bind fun a => (M.opt (tups a)).bind fun ds => (M.optS (iterS k ds)).bind fun p =>
    (compL p.2 (turnF G tg c elt own env) p.1).bind fun ys => if ys.length < 1000000 then M.ret (.lst ys) else M.opt none) S) := by
    have e : ev G (.comp tg k as c elt own) env S = ((ev G as env).bind fun a => (M.opt (tups a)).bind fun ds => (M.optS (iterS k ds)).bind fun p =>
      (compL p.2 (turnF G tg c elt own env) p.1).bind fun ys => if ys.length < 1000000 then M.ret (.lst ys) else M.opt none) S := by
      simp only [ev, hh, Bool.false_eq_true, if_false]
      rfl
    rw [← e]; exact h
  unfold M.bind at h
  cases e : ev G as env S with
  | none => rw [e] at h; exact h
  | some r =>
    rw [e] at h
    cases r with
    | exn c d S1 => exact h
    | ok d S1 =>
      intro ds hd vs H1 ι1 g1 s1 r1
      simp only [hd, M.opt, M.optS] at h
      cases hp : iterS k ds S1 with
      | none => simp only [hp] at h; exact h.elim
      | some p =>
        refine ⟨g1, s1, p, rfl, fun J wd D hD => ?_⟩
        simp only [hp] at h
        cases hc : compL p.2 (turnF G tg c elt own env) p.1 S1 with
        | none => simp only [hc] at h; exact h.elim
        | some r =>
          obtain ⟨full, Sf, rfl⟩ := compL_ok hc
          simp only [hc] at h
          by_cases hlen : full.length < 1000000
          · simp only [if_pos hlen, M.ret] at h
            have hQ := h full rfl D
            have hb1 := one_bad hD
            have nb : D ∉ Z.bad := s1.newB hD
            refine ⟨fun i m Hc => m = p.1.length - i ∧ i ≤ p.1.length ∧ ∃ S' ι' acc ys zs, Grow H1 ι1 Hc ι' ∧ RelS (Z.add [D]) Hc ι' S' ∧ D ∉ ι' ∧ Hc D = some (.lst acc) ∧ RelDs (Z.add [D]) Hc ι' ys acc ∧
              compL p.2 (turnF G tg c elt own env) (p.1.drop i) S' = some (.ok zs Sf) ∧ ys ++ zs = full, ⟨p.1.length, rfl, Nat.zero_le _, S1, ι1, [], [], full, Grow.new hD, s1.addNew hD, s1.notin hD, upd_same, .nil, hc, rfl⟩, ?_⟩
            rintro i m Hc ⟨rfl, hi, S', ι', acc, ys, zs, gr, s', nD, hcD, rr, hcl, hf⟩
            have gd : GdOf Z H1 ι1 p.2 Hc ι' := ⟨S', gr, s'.ofBad, compL_guard hcl⟩
            have gd' : GdOf (Z.add [D]) H1 ι1 p.2 Hc ι' := ⟨S', gr, s', compL_guard hcl⟩
            by_cases hlt : i < p.1.length
            · refine .inr ⟨wd.goes i Hc ι' hlt gd, fun H' => p.1.length - (i + 1) = p.1.length - (i + 1) ∧ i + 1 ≤ p.1.length ∧ ∃ S' ι' acc ys zs, Grow H1 ι1 H' ι' ∧ RelS (Z.add [D]) H' ι' S' ∧ D ∉ ι' ∧ H' D = some (.lst acc) ∧ RelDs (Z.add [D]) H' ι' ys acc ∧
                compL p.2 (turnF G tg c elt own env) (p.1.drop (i + 1)) S' = some (.ok zs Sf) ∧ ys ++ zs = full, fun H' nx => ⟨p.1.length - (i + 1), by omega, nx⟩, fun x H' y => ?_⟩
              obtain ⟨gk, rx⟩ := wd.yields [D] i Hc ι' x H' p.1[i] hb1 (List.getElem?_eq_getElem hlt) gd' y
              rw [List.drop_eq_getElem_cons hlt] at hcl
              have hE' : RelE (Z.add [D]) H' ι' (wipeE env own) (L2.wipe σ own) := RelE.wipe (RelE.mono gk.grow (RelE.mono gr (RelE.toBad hb1 (RelE.mono g1 hE)))) own
              -- the two ways of a turn
              have fin : ∀ o S2, turnF G tg c elt own env p.1[i] S' = some (.ok o S2) → (∀ H3 ι3 acc3 ys3, Grow H1 ι1 H3 ι3 → RelS (Z.add [D]) H3 ι3 S2 → D ∉ ι3 → H3 D = some (.lst acc3) → RelDs (Z.add [D]) H3 ι3 ys3 acc3 → ys3 = ys ++ o.toList →
                  (i + 1 ≤ p.1.length ∧ ∃ S' ι' acc ys zs, Grow H1 ι1 H3 ι' ∧ RelS (Z.add [D]) H3 ι' S' ∧ D ∉ ι' ∧ H3 D = some (.lst acc) ∧ RelDs (Z.add [D]) H3 ι' ys acc ∧ compL p.2 (turnF G tg c elt own env) (p.1.drop (i + 1)) S' = some (.ok zs Sf) ∧ ys ++ zs = full)) := by
                intro o S2 hT2 H3 ι3 acc3 ys3 k1 k2 k3 k4 k5 k6
                rcases compL_cons hcl with ⟨S3, q1, q2⟩ | ⟨y', ys', S3, q1, q2, q3⟩
                · rw [hT2] at q1
                  cases q1
                  exact ⟨hlt, S2, ι3, acc3, ys3, zs, k1, k2, k3, k4, k5, q2, by rw [k6]; simpa using hf⟩
                · rw [hT2] at q1
                  cases q1
                  exact ⟨hlt, S2, ι3, acc3, ys3, ys', k1, k2, k3, k4, k5, q2, by rw [k6, ← hf, q3]; simp⟩
              have some_o : ∃ o S2, turnF G tg c elt own env p.1[i] S' = some (.ok o S2) := by
                rcases compL_cons hcl with ⟨S3, q1, _⟩ | ⟨y', ys', S3, q1, _, _⟩
                · exact ⟨_, _, q1⟩
                · exact ⟨_, _, q1⟩
              obtain ⟨o, S2, hT2⟩ := some_o
              have fin := fin o S2 hT2
              obtain ⟨env', xc, tt, Sc, hbind, hev, htru, hcase⟩ := turnF_inv hT2
              have lenacc : acc.length < 1000000 := by
                rw [← rr.length]
                have : ys.length ≤ full.length := by rw [← hf]; simp
                omega
              refine ⟨[D], wipeE env own, p.1[i], ι', env', hE', .inl rx, hbind, fun σ2 hE2 hl2 hs2 => ⟨?_, ?_⟩⟩
              · rw [wipe_same (by rw [hl2]) own fun j hj => hs2 j fun hj2 => hj (by have := List.all_eq_true.mp hv j hj2; simpa using this)]
                rw [wipe_same (σ := σ) (by rw [wipe_length]) own fun j hj => ?_]
                have key : ∀ vs : List Nat, j ∉ vs → (L2.wipe σ vs)[j]? = σ[j]? := by
                  intro vs hjv
                  induction vs with
                  | nil => rfl
                  | cons v vs ih =>
                    simp only [List.mem_cons, not_or] at hjv
                    unfold L2.wipe
                    rw [List.getElem?_set_ne (fun e => hjv.1 e.symm)]
                    exact ih hjv.2
                exact key own hj
              · refine ⟨[D], env', S', ι', hE2, s'.keep gk, ?_⟩
                rw [hev]
                intro v H3 ι3 g3 s3 r3
                have gr3 : Grow H1 ι1 H3 ι3 := (gr.trans gk.grow).trans g3
                have hD' : H' D = some (.lst acc) := gk.grow.keep D _ hcD (.inl nD)
                have hD3 : H3 D = some (.lst acc) := g3.keep D _ hD' (.inl nD)
                have nD3 : D ∉ ι3 := g3.sub hD' nD
                have rr3 := RelDs.mono g3 (RelDs.mono gk.grow rr)
                refine ⟨tt, htru, ?_⟩
                rcases hcase with ⟨rfl, rfl, rfl⟩ | ⟨rfl, y', rfl, hev2⟩
                · rw [if_neg Bool.false_ne_true]
                  obtain ⟨q1, q2⟩ := fin H3 ι3 acc ys gr3 s3 nD3 hD3 rr3 (by simp)
                  exact ⟨rfl, q1, q2⟩
                · rw [if_pos rfl]
                  refine ⟨[D], env', Sc, ι3, hE2.mono g3, s3, ?_⟩
                  rw [hev2]
                  intro w H4 ι4 g4 s4 r4
                  have hD4 : H4 D = some (.lst acc) := g4.keep D _ hD3 (.inl nD3)
                  have nD4 : D ∉ ι4 := g4.sub hD3 nD3
                  have mb : D ∈ (Z.add [D]).bad := List.mem_append_left _ (List.mem_singleton.mpr rfl)
                  have off : ∀ {d : _root_.J.D} {v : V}, RelD (Z.add [D]) H4 ι4 d v → RelD (Z.add [D]) (upd H4 D (.lst (acc ++ [w]))) ι4 d v := fun r => r.off mb nD4 (by rw [hD4]; trivial) fun a ha => upd_ne ha
                  refine ⟨acc, hD4, big_line lenacc, ?_⟩
                  obtain ⟨q1, q2⟩ := fin (upd H4 D (.lst (acc ++ [w]))) ι4 (acc ++ [w]) (ys ++ [y']) ((gr3.trans g4).setNew hD) (s4.off mb nD4 (by rw [hD4]; trivial)) nD4 upd_same (RelDs.map off ((RelDs.mono g4 rr3).append (.one r4))) rfl
                  exact ⟨rfl, q1, q2⟩
            · have ei : i = p.1.length := by omega
              subst ei
              rw [List.drop_length] at hcl
              unfold compL at hcl
              split at hcl
              · cases hcl
                simp only [List.append_nil] at hf
                subst hf
                refine .inl ⟨wd.stops Hc ι' gd, ?_⟩
                have q : Q (.ref D) (upd (del Hc D) D (.lst acc)) := hQ acc (del Hc D) ι' (g1.trans (gr.del hD)) (s'.drop nb nD (by rw [hcD]; trivial)) (RelDs.map (fun r => (r.off (List.mem_append_left _ (List.mem_singleton.mpr rfl)) nD (by rw [hcD]; trivial) fun a ha => del_ne ha).ofBad) rr) del_self
                rw [upd_del hcD] at q
                exact q
              · cases hcl
          · simp only [if_neg hlen] at h
            exact h.elim
theorem pe_J_comp (g : Good Z T G cs X W) {tg as c elt : E} {k : Ik} {own : List Nat} {t it el : Expr} {ifs : List Expr} {scope : Scope} {pos : Pos} (hi : PI X t it (tI Z W k (ev G as))) (hset : setB it = false) (hblk : blkC X.N cs.sc scope (ownS X.N own) = true) (hown : (ownS X.N own).map (·.2) = own)
    (hT : chkT X.N ⟨relS scope cs.sc, some scope⟩ tg t = true) (hv : (varsT tg).all (fun i => decide (i ∈ own)) = true)
    (hif : G.hot = false → ∀ Z' X', Good Z' T G ⟨relS scope cs.sc, some scope⟩ X' never → X'.N = X.N → PTs X' ifs (tT Z' never (ev G c)))
    (hel : G.hot = false → ∀ Z' X', Good Z' T G ⟨relS scope cs.sc, some scope⟩ X' never → X'.N = X.N → PE X' el (tE Z' never (ev G elt))) :
    PE X (.ListComp el [⟨t, it, ifs, 0⟩] scope pos) (tF Z W (ev G (.comp tg k as c elt own))) := by
  cases hh : G.hot with
  | true =>
    refine ⟨fun pins s σ H Q I ⟨env, S, ι, hE, hS, h⟩ => ?_⟩
    simp only [ev, hh, if_true] at h
    exact h.elim
  | false =>
    have P := pe_lc (X := X) (pos := pos) (g := gJ Z tg) (tt := fun σ H Q => ∃ bs, tT (Z.add bs) never (ev G c) σ H Q) (te := fun σ H Q => ∃ bs, tE (Z.add bs) never (ev G elt) σ H Q)
      (g.calm hh) g.nd hi (blkOk_by (by rw [g.sc]; exact hblk))
      (fun s H C cl fp => (pg_J (good_blk g hh [] s H scope C cl fp) tg).1 t hT (.inl (g.calm hh)))
      (fun s H C cl fp => ptsEx fun bs => hif hh _ _ (good_blk g hh bs s H scope C cl fp) rfl)
      (fun s H C cl fp => peEx fun bs => hel hh _ _ (good_blk g hh bs s H scope C cl fp) rfl) (setB_hs hset X.env)
    rw [hown] at P
    exact peImp P (comp_imp hh hv)
end
end J
/-! J5b: dict comprehensions -/
namespace J
open PySem L2
section
variable {Z : Sit} {H : Hp} {ι : List Addr}
theorem RelK.append {r r' : List (_root_.J.D × _root_.J.D)} {s s' : List (Key × V)} (h : RelK Z H ι r s) (h' : RelK Z H ι r' s') : RelK Z H ι (r ++ r') (s ++ s') := by
  induction h with
  | nil => exact h'
  | int q _ ih => exact .int q ih
  | str q _ ih => exact .str q ih
theorem dmap_ok {kvs : List (_root_.J.D × _root_.J.D)} {kws : List (Key × V)} (r : RelK Z H ι kvs kws) {d : _root_.J.D} {v : V} (rv : RelD Z H ι d v) : ∀ {k : _root_.J.D} {kvs' : List (_root_.J.D × _root_.J.D)}, dmap k d kvs = some kvs' →
    (∀ i, k = .int i → RelK Z H ι kvs' (kws.map fun kv => if kv.1 = .inl i then (kv.1, v) else kv)) ∧ (∀ i, k = .str i → RelK Z H ι kvs' (kws.map fun kv => if kv.1 = .inr i then (kv.1, v) else kv)) := by
  induction r with
  | nil =>
    intro k kvs' e
    cases e
    exact ⟨fun _ _ => .nil, fun _ _ => .nil⟩
  | @int i d' v' r s h t ih =>
    intro k kvs' e
    simp only [dmap] at e
    split at e
    · rename_i b r' q q2
      obtain ⟨h1, h2, h3, h4⟩ := key_eq q
      obtain ⟨i1, i2⟩ := ih q2
      simp only [Option.some.injEq] at e
      subst e
      refine ⟨fun j z => ?_, fun j z => ?_⟩
      · have := h1 i j rfl z
        subst this
        rw [List.map_cons]
        by_cases e : i = j
        · subst e
          rw [if_pos rfl, if_pos (by simp)]
          exact .int rv (i1 _ z)
        · rw [if_neg (by simpa using e), if_neg (by simpa using e)]
          exact .int h (i1 _ z)
      · have := h3 i j rfl z
        subst this
        rw [List.map_cons, if_neg (by simp), if_neg (by simp)]
        exact .int h (i2 _ z)
    · cases e
  | @str i d' v' r s h t ih =>
    intro k kvs' e
    simp only [dmap] at e
    split at e
    · rename_i b r' q q2
      obtain ⟨h1, h2, h3, h4⟩ := key_eq q
      obtain ⟨i1, i2⟩ := ih q2
      simp only [Option.some.injEq] at e
      subst e
      refine ⟨fun j z => ?_, fun j z => ?_⟩
      · have := h4 i j rfl z
        subst this
        rw [List.map_cons, if_neg (by simp), if_neg (by simp)]
        exact .str h (i1 _ z)
      · have := h2 i j rfl z
        subst this
        rw [List.map_cons]
        by_cases e : i = j
        · subst e
          rw [if_pos rfl, if_pos (by simp)]
          exact .str rv (i2 _ z)
        · rw [if_neg (by simpa using e), if_neg (by simpa using e)]
          exact .str h (i2 _ z)
    · cases e
theorem dput_ok {kvs : List (_root_.J.D × _root_.J.D)} {kws : List (Key × V)} (r : RelK Z H ι kvs kws) {d : _root_.J.D} {v : V} (rv : RelD Z H ι d v) {k : _root_.J.D} {kvs' : List (_root_.J.D × _root_.J.D)} (e : dput k d kvs = some kvs') :
    (∀ i, k = .int i → RelK Z H ι kvs' (putK kws (.inl i) v)) ∧ (∀ i, k = .str i → RelK Z H ι kvs' (putK kws (.inr i) v)) := by
  unfold dput at e
  cases q : dget k kvs with
  | none => simp [q] at e
  | some o =>
    obtain ⟨h1, h2⟩ := dget_ok r q
    cases o with
    | none =>
      simp only [q, Option.some.injEq] at e
      subst e
      refine ⟨fun i z => ?_, fun i z => ?_⟩
      · have := h1 i z
        simp only at this
        unfold putK
        rw [L2.valV_any, this, z]
        exact r.append (.int rv .nil)
      · have := h2 i z
        simp only at this
        unfold putK
        rw [L2.valV_any, this, z]
        exact r.append (.str rv .nil)
    | some d0 =>
      simp only [q] at e
      obtain ⟨m1, m2⟩ := dmap_ok r rv e
      refine ⟨fun i z => ?_, fun i z => ?_⟩
      · have := h1 i z
        simp only at this
        obtain ⟨v0, e0, _⟩ := this
        unfold putK
        rw [L2.valV_any, e0]
        exact m1 i z
      · have := h2 i z
        simp only at this
        obtain ⟨v0, e0, _⟩ := this
        unfold putK
        rw [L2.valV_any, e0]
        exact m2 i z
end
section
variable {Z : Sit} {T : Tab} {G : Ctx} {cs : CS} {X : Cx} {W : WX}
theorem dcompL_ok {gs : List Guard} {f : D → M (Option (D × D))} : ∀ {ds : List D} {acc : List (D × D)} {S : Store} {r : R (List (D × D))}, dcompL gs f ds acc S = some r → ∃ ys S', r = .ok ys S'
  | [], acc, S, r, h => by
    unfold dcompL at h
    split at h
    · cases h; exact ⟨_, _, rfl⟩
    · cases h
  | d :: ds, acc, S, r, h => by
    unfold dcompL at h
    split at h
    · split at h
      · exact dcompL_ok h
      · split at h
        · split at h
          · exact dcompL_ok h
          · cases h
        · cases h
      · cases h
    · cases h
theorem dcompL_guard {gs : List Guard} {f : D → M (Option (D × D))} {ds : List D} {acc : List (D × D)} {S : Store} {r : R (List (D × D))} (h : dcompL gs f ds acc S = some r) : ∀ g ∈ gs, okG g S := by
  cases ds with
  | nil =>
    unfold dcompL at h
    split at h
    · assumption
    · cases h
  | cons d ds =>
    unfold dcompL at h
    split at h
    · assumption
    · cases h
theorem dcompL_cons {gs : List Guard} {f : D → M (Option (D × D))} {d : D} {ds : List D} {acc zs : List (D × D)} {S Sf : Store} (h : dcompL gs f (d :: ds) acc S = some (.ok zs Sf)) :
    ∃ o S1, f d S = some (.ok o S1) ∧ ((o = none ∧ dcompL gs f ds acc S1 = some (.ok zs Sf)) ∨ ∃ k v acc', o = some (k, v) ∧ isKey k = true ∧ acc.length < 1000000 ∧ dput k v acc = some acc' ∧ dcompL gs f ds acc' S1 = some (.ok zs Sf)) := by
  unfold dcompL at h
  split at h
  · split at h
    · rename_i S1 e
      exact ⟨none, S1, e, .inl ⟨rfl, h⟩⟩
    · rename_i p S1 e
      split at h
      · rename_i hk
        split at h
        · rename_i acc' hp
          exact ⟨some p, S1, e, .inr ⟨p.1, p.2, acc', rfl, hk.1, hk.2, hp, h⟩⟩
        · cases h
      · cases h
    · cases h
  · cases h
noncomputable def turnD (G : Ctx) (tg c kx vx : E) (own : List Nat) (env : Env) : D → M (Option (D × D)) := fun d => match bindT tg d (wipeE env own) with
  | none => M.opt none
  | some env' => (ev G c env').bind fun x => (M.optS (truS x)).bind fun t => if t then (ev G kx env').bind fun y => (ev G vx env').bind fun z => M.ret (some (y, z)) else M.ret none
theorem turnD_inv {tg c kx vx : E} {own : List Nat} {env : Env} {d : D} {S S2 : Store} {o : Option (D × D)} (h : turnD G tg c kx vx own env d S = some (.ok o S2)) :
    ∃ env' x t S1, bindT tg d (wipeE env own) = some env' ∧ ev G c env' S = some (.ok x S1) ∧ truS x S1 = some t ∧
      ((t = false ∧ o = none ∧ S2 = S1) ∨ (t = true ∧ ∃ y z S3, o = some (y, z) ∧ ev G kx env' S1 = some (.ok y S3) ∧ ev G vx env' S3 = some (.ok z S2))) := by
  unfold turnD at h
  cases hb : bindT tg d (wipeE env own) with
  | none => simp [hb, M.opt] at h
  | some env' =>
    simp only [hb] at h
    obtain ⟨x, S1, h1, h⟩ := bind_inv h
    obtain ⟨t, h2, h⟩ := bindS_inv h
    cases t with
    | false =>
      rw [if_neg Bool.false_ne_true] at h
      cases h
      exact ⟨env', x, false, _, rfl, h1, h2, .inl ⟨rfl, rfl, rfl⟩⟩
    | true =>
      rw [if_pos rfl] at h
      obtain ⟨y, S3, h3, h⟩ := bind_inv h
      obtain ⟨z, S4, h4, h⟩ := bind_inv h
      cases h
      exact ⟨env', x, true, S1, rfl, h1, h2, .inr ⟨rfl, y, z, S3, rfl, h3, h4⟩⟩
theorem dcomp_imp {tg as c kx vx : E} {k : Ik} {own : List Nat} (hh : G.hot = false) (hv : (varsT tg).all (fun i => decide (i ∈ own)) = true) : ∀ σ H Q, tE Z W (ev G (.dcomp tg k as c kx vx own)) σ H Q →
    tDc (tI Z W k (ev G as)) (gJ Z tg) (fun σ H Q => ∃ bs, tT (Z.add bs) never (ev G c) σ H Q) (fun σ H Q => ∃ bs, tE (Z.add bs) never (ev G kx) σ H Q) (fun σ H Q => ∃ bs, tE (Z.add bs) never (ev G vx) σ H Q) own σ H Q := by
  refine fun σ H Q ⟨env, S, ι, hE, hS, h⟩ => ⟨env, S, ι, hE, hS, ?_⟩
  have h : Pst Z W σ H ι (fun _ _ v H' _ => Q v H') (((ev G as env).bind fun a => (M.opt (tups a)).bind fun ds => (M.optS (iterS k ds)).bind fun p =>
    (dcompL p.2 (turnD G tg c kx vx own env) p.1 []).bind fun kvs => alloc (.dct kvs)) S) := by
    have e : ev G (.dcomp tg k as c kx vx own) env S = ((ev G as env).bind fun a => (M.opt (tups a)).bind fun ds => (M.optS (iterS k ds)).bind fun p =>
      (dcompL p.2 (turnD G tg c kx vx own env) p.1 []).bind fun kvs => alloc (.dct kvs)) S := by
      simp only [ev, hh, Bool.false_eq_true, if_false]
      rfl
    rw [← e]; exact h
  unfold M.bind at h
  cases e : ev G as env S with
  | none => rw [e] at h; exact h
  | some r =>
    rw [e] at h
    cases r with
    | exn c d S1 => exact h
    | ok d S1 =>
      intro ds hd vs H1 ι1 g1 s1 r1
      simp only [hd, M.opt, M.optS] at h
      cases hp : iterS k ds S1 with
      | none => simp only [hp] at h; exact h.elim
      | some p =>
        refine ⟨g1, s1, p, rfl, fun J wd D hD => ?_⟩
        simp only [hp] at h
        cases hc : dcompL p.2 (turnD G tg c kx vx own env) p.1 [] S1 with
        | none => simp only [hc] at h; exact h.elim
        | some r =>
          obtain ⟨full, Sf, rfl⟩ := dcompL_ok hc
          simp only [hc, alloc] at h
          have hb1 := one_bad hD
          have nb : D ∉ Z.bad := s1.newB hD
          -- what stands behind i turns
          let At : Nat → Hp → Prop := fun i Hc => i ≤ p.1.length ∧ ∃ S' ι' acc kvs, Grow H1 ι1 Hc ι' ∧ RelS (Z.add [D]) Hc ι' S' ∧ D ∉ ι' ∧ Hc D = some (.dK acc) ∧ RelK (Z.add [D]) Hc ι' kvs acc ∧ dcompL p.2 (turnD G tg c kx vx own env) (p.1.drop i) kvs S' = some (.ok full Sf)
          refine ⟨fun i m Hc => m = p.1.length - i ∧ At i Hc, ⟨p.1.length, rfl, Nat.zero_le _, S1, ι1, [], [], Grow.new hD, s1.addNew hD, s1.notin hD, upd_same, .nil, hc⟩, ?_⟩
          rintro i m Hc ⟨rfl, hi, S', ι', acc, kvs, gr, s', nD, hcD, rr, hcl⟩
          have gd : GdOf Z H1 ι1 p.2 Hc ι' := ⟨S', gr, s'.ofBad, dcompL_guard hcl⟩
          have gd' : GdOf (Z.add [D]) H1 ι1 p.2 Hc ι' := ⟨S', gr, s', dcompL_guard hcl⟩
          by_cases hlt : i < p.1.length
          · refine .inr ⟨wd.goes i Hc ι' hlt gd, At (i + 1), fun H' nx => ⟨p.1.length - (i + 1), by omega, rfl, nx⟩, fun x H' y => ?_⟩
            obtain ⟨gk, rx⟩ := wd.yields [D] i Hc ι' x H' p.1[i] hb1 (List.getElem?_eq_getElem hlt) gd' y
            rw [List.drop_eq_getElem_cons hlt] at hcl
            have hE' : RelE (Z.add [D]) H' ι' (wipeE env own) (L2.wipe σ own) := RelE.wipe (RelE.mono gk.grow (RelE.mono gr (RelE.toBad hb1 (RelE.mono g1 hE)))) own
            obtain ⟨o, S2, hT2, hway⟩ := dcompL_cons hcl
            obtain ⟨env', xc, tt, Sc, hbind, hev, htru, hcase⟩ := turnD_inv hT2
            refine ⟨[D], wipeE env own, p.1[i], ι', env', hE', .inl rx, hbind, fun σ2 hE2 hl2 hs2 => ⟨?_, ?_⟩⟩
            · rw [wipe_same (by rw [hl2]) own fun j hj => hs2 j fun hj2 => hj (by have := List.all_eq_true.mp hv j hj2; simpa using this)]
              rw [wipe_same (σ := σ) (by rw [wipe_length]) own fun j hj => ?_]
              have key : ∀ vs : List Nat, j ∉ vs → (L2.wipe σ vs)[j]? = σ[j]? := by
                intro vs hjv
                induction vs with
                | nil => rfl
                | cons v vs ih =>
                  simp only [List.mem_cons, not_or] at hjv
                  unfold L2.wipe
                  rw [List.getElem?_set_ne (fun e => hjv.1 e.symm)]
                  exact ih hjv.2
              exact key own hj
            · refine ⟨[D], env', S', ι', hE2, s'.keep gk, ?_⟩
              rw [hev]
              intro v H3 ι3 g3 s3 r3
              have gr3 : Grow H1 ι1 H3 ι3 := (gr.trans gk.grow).trans g3
              have hD' : H' D = some (.dK acc) := gk.grow.keep D _ hcD (.inl nD)
              have hD3 : H3 D = some (.dK acc) := g3.keep D _ hD' (.inl nD)
              have nD3 : D ∉ ι3 := g3.sub hD' nD
              have rr3 := (rr.mono gk.grow).mono g3
              refine ⟨tt, htru, ?_⟩
              rcases hcase with ⟨rfl, rfl, rfl⟩ | ⟨rfl, y1, z1, S3, rfl, hev2, hev3⟩
              · rw [if_neg Bool.false_ne_true]
                rcases hway with ⟨_, hw⟩ | ⟨_, _, _, z, _⟩
                · exact ⟨hlt, _, ι3, acc, kvs, gr3, s3, nD3, hD3, rr3, hw⟩
                · cases z
              · rw [if_pos rfl]
                rcases hway with ⟨z, _⟩ | ⟨k1, v1, acc', z, hk1, hl1, hput, hw⟩
                · cases z
                cases z
                refine ⟨[D], env', Sc, ι3, hE2.mono g3, s3, ?_⟩
                rw [hev2]
                intro w H4 ι4 g4 s4 r4
                refine ⟨[D], env', S3, ι4, (hE2.mono g3).mono g4, s4, ?_⟩
                rw [hev3]
                intro u H5 ι5 g5 s5 r5
                have hD4 : H4 D = some (.dK acc) := g4.keep D _ hD3 (.inl nD3)
                have nD4 : D ∉ ι4 := g4.sub hD3 nD3
                have hD5 : H5 D = some (.dK acc) := g5.keep D _ hD4 (.inl nD4)
                have nD5 : D ∉ ι5 := g5.sub hD4 nD4
                have mb : D ∈ (Z.add [D]).bad := List.mem_append_left _ (List.mem_singleton.mpr rfl)
                have hM : Mut (H5 D) := by rw [hD5]; trivial
                have rr5 := (rr3.mono g4).mono g5
                have r4' := r4.mono g5
                obtain ⟨p1, p2⟩ := dput_ok rr5 r5 hput
                have off : ∀ {o : HO} {d : _root_.J.D} {v : V}, RelD (Z.add [D]) H5 ι5 d v → RelD (Z.add [D]) (upd H5 D o) ι5 d v := fun r => r.off mb nD5 hM fun a ha => upd_ne ha
                have fin : ∀ key, w = kV key → RelK (Z.add [D]) H5 ι5 acc' (putK acc key u) → ∃ kvs k, w = kV k ∧ H5 D = some (.dK kvs) ∧ kvs.length < sizeLine ∧ At (i + 1) (upd H5 D (.dK (putK kvs k u))) := fun key ek rk =>
                  ⟨acc, key, ek, hD5, by rw [← rr5.length]; exact big_line hl1, hlt, S2, ι5, putK acc key u, acc', (((gr3.trans g4).trans g5)).setNew hD, s5.off mb nD5 hM, nD5, upd_same, rk.map off, hw⟩
                cases r4' <;> first
                  | (cases hk1; done)
                  | exact fin (.inl _) rfl (p1 _ rfl)
                  | exact fin (.inr _) rfl (p2 _ rfl)
          · have ei : i = p.1.length := by omega
            subst ei
            rw [List.drop_length] at hcl
            unfold dcompL at hcl
            split at hcl
            · cases hcl
              refine .inl ⟨wd.stops Hc ι' gd, ?_⟩
              have hM : Mut (Hc D) := by rw [hcD]; trivial
              have gp : Grow (del Hc D) ι' (upd (del Hc D) D (.dK acc)) (ι' ++ [D]) := Grow.place del_self
              have sd := s'.drop nb nD hM
              have rk : RelK Z (del Hc D) ι' _ acc := rr.map fun r => (r.off (List.mem_append_left _ (List.mem_singleton.mpr rfl)) nD hM fun a ha => del_ne ha).ofBad
              have q : Q (.ref D) (upd (del Hc D) D (.dK acc)) := h (.ref D) (upd (del Hc D) D (.dK acc)) (ι' ++ [D]) ((g1.trans (gr.del hD)).trans gp) (sd.place del_self (.dct rk)) (.loc (by
                rw [← sd.len, List.getElem?_append_right (Nat.le_refl _)]
                simp))
              rw [upd_del hcD] at q
              exact q
            · cases hcl
theorem pe_J_dcomp (g : Good Z T G cs X W) {tg as c kx vx : E} {k : Ik} {own : List Nat} {t it ka va : Expr} {ifs : List Expr} {scope : Scope} {pos : Pos} (hi : PI X t it (tI Z W k (ev G as))) (hset : setB it = false) (hblk : blkC X.N cs.sc scope (ownS X.N own) = true) (hown : (ownS X.N own).map (·.2) = own)
    (hT : chkT X.N ⟨relS scope cs.sc, some scope⟩ tg t = true) (hv : (varsT tg).all (fun i => decide (i ∈ own)) = true)
    (hif : G.hot = false → ∀ Z' X', Good Z' T G ⟨relS scope cs.sc, some scope⟩ X' never → X'.N = X.N → PTs X' ifs (tT Z' never (ev G c)))
    (hka : G.hot = false → ∀ Z' X', Good Z' T G ⟨relS scope cs.sc, some scope⟩ X' never → X'.N = X.N → PE X' ka (tE Z' never (ev G kx)))
    (hva : G.hot = false → ∀ Z' X', Good Z' T G ⟨relS scope cs.sc, some scope⟩ X' never → X'.N = X.N → PE X' va (tE Z' never (ev G vx))) :
    PE X (.DictComp ka va [⟨t, it, ifs, 0⟩] scope pos) (tE Z W (ev G (.dcomp tg k as c kx vx own))) := by
  cases hh : G.hot with
  | true =>
    refine ⟨fun pins s σ H Q I ⟨env, S, ι, hE, hS, h⟩ => ?_⟩
    simp only [ev, hh, if_true] at h
    exact h.elim
  | false =>
    have P := pe_dc (X := X) (pos := pos) (g := gJ Z tg) (tt := fun σ H Q => ∃ bs, tT (Z.add bs) never (ev G c) σ H Q) (tk := fun σ H Q => ∃ bs, tE (Z.add bs) never (ev G kx) σ H Q) (tv := fun σ H Q => ∃ bs, tE (Z.add bs) never (ev G vx) σ H Q)
      (g.calm hh) g.nd hi (blkOk_by (by rw [g.sc]; exact hblk))
      (fun s H C cl fp => (pg_J (good_blk g hh [] s H scope C cl fp) tg).1 t hT (.inl (g.calm hh)))
      (fun s H C cl fp => ptsEx fun bs => hif hh _ _ (good_blk g hh bs s H scope C cl fp) rfl)
      (fun s H C cl fp => peEx fun bs => hka hh _ _ (good_blk g hh bs s H scope C cl fp) rfl)
      (fun s H C cl fp => peEx fun bs => hva hh _ _ (good_blk g hh bs s H scope C cl fp) rfl) (setB_hs hset X.env)
    rw [hown] at P
    exact peImp P (dcomp_imp hh hv)
theorem pe_J_dnew {as : E} {pos : Pos} : PE X (.Dict [] [] pos) (tE Z W (ev G (.ddisp as))) := by
  refine peImp pe_dnewK fun σ H Q ⟨env, S, ι, hE, hS, h⟩ => ?_
  intro p hp
  have h : Pst Z W σ H ι (fun _ _ v H' _ => Q v H') (some (.ok (.loc S.length) (S ++ [.dct []]))) := h
  refine h (.ref p) (upd H p (.dK [])) (ι ++ [p]) (Grow.place hp) (hS.place hp (.dct .nil)) (.loc ?_)
  rw [← hS.len, List.getElem?_append_right (Nat.le_refl _)]
  simp
end
end J
/-! J5c: sums and multiples of lists, made new -/
namespace J
open PySem L2
section
variable {Z : Sit} {X : Cx} {W : WX} {T : Tab} {G : Ctx} {cs : CS} {σ : L2.St} {H : Hp} {ι : List Addr} {S : Store} {a b : E} {x y : Expr} {pos : Pos}
theorem binS_lst {op : BO} {xs : List D} {dy d : D} (ho : op = .add ∨ op = .mul) (h : binS op (.lst xs) dy S = some d) : ∃ ds, d = .lst ds := by
  unfold binS at h
  have e1 : res S (.lst xs) = some (.lst xs) := rfl
  rw [e1] at h
  cases e2 : res S dy with
  | none => rw [e2] at h; cases h
  | some y' =>
    rw [e2] at h
    rcases ho with rfl | rfl
    · cases y' <;> first
        | (simp [binD] at h; done)
        | (simp only [binD] at h; split at h <;> cases h; exact ⟨_, rfl⟩)
    · cases y' <;> first
        | (simp [binD] at h; done)
        | (simp only [binD] at h; split at h <;> cases h; exact ⟨_, rfl⟩)
theorem isF_bin {op : BO} (h : isF (.bin op a b) = true) : (op = .add ∨ op = .mul) ∧ isF a = true := by
  simp only [isF, Bool.and_eq_true] at h
  refine ⟨?_, h.2⟩
  cases op <;> simp at h ⊢
theorem comp_lst {tg as c elt : E} {k : Ik} {own : List Nat} {env : Env} {S S1 : Store} {d : D} (h : ev G (.comp tg k as c elt own) env S = some (.ok d S1)) : ∃ ds, d = .lst ds := by
  simp only [ev] at h
  split at h
  · cases h
  · obtain ⟨_, _, _, h⟩ := bind_inv h
    obtain ⟨_, _, _, h⟩ := bind_inv h
    obtain ⟨_, _, _, h⟩ := bind_inv h
    obtain ⟨_, _, _, h⟩ := bind_inv h
    split at h
    · cases h; exact ⟨_, rfl⟩
    · cases h
theorem F_lst : ∀ {e : E}, isF e = true → ∀ {env : Env} {S : Store} {d : D} {S1 : Store}, ev G e env S = some (.ok d S1) → ∃ ds, d = .lst ds := by
  intro e
  induction e with
  | bin op a b iha ihb =>
    intro hf env S d S1 h
    obtain ⟨ho, ha⟩ := isF_bin hf
    simp only [ev, M.bind, M.optS] at h
    cases e1 : ev G a env S with
    | none => simp [e1] at h
    | some r =>
      cases r with
      | exn c d S1 => simp [e1] at h
      | ok dx S2 =>
        obtain ⟨xs, rfl⟩ := iha ha e1
        simp only [e1] at h
        cases e2 : ev G b env S2 with
        | none => simp [e2] at h
        | some r =>
          cases r with
          | exn c d S1 => simp [e2] at h
          | ok dy S3 =>
            simp only [e2] at h
            cases e3 : binS op (.lst xs) dy S3 with
            | none => simp [e3] at h
            | some d' =>
              simp only [e3, Option.some.injEq, R.ok.injEq] at h
              rw [← h.1]
              exact binS_lst ho e3
  | disp _ => exact fun _ _ _ _ _ h => disp_lst h
  | plist _ => exact fun _ _ _ _ _ h => plist_lst h
  | lrg1 t _ => exact fun hf _ _ _ _ h => lrg1_lst hf h
  | lrg2 t _ _ => exact fun hf _ _ _ _ h => lrg2_lst hf h
  | comp _ _ _ _ _ _ => exact fun _ _ _ _ _ h => comp_lst h
  | _ => exact fun hf => by cases hf
theorem PstF.mono {ι' : List Addr} {H' : Hp} {Q : List D → Store → Addr → List V → Hp → List Addr → Prop} (g : Grow H ι H' ι') : ∀ {r : Option (R D)}, PstF Z W σ H ι Q r → PstF Z W σ H' ι' Q r
  | none, h => h
  | some (.ok _ _), h => fun ds hd p vs H0 ι0 k s r hp => h ds hd p vs H0 ι0 (g.trans k) s r hp
  | some (.exn _ _ _), h => fun v H2 ι2 dd k s q r => h v H2 ι2 dd (g.trans k) s q r
theorem tF1 {ma : Env → M D} {f : D → M D} {env : Env} {Q : List D → Store → Addr → List V → Hp → List Addr → Prop} (hE : RelE Z H ι env σ) (hS : RelS Z H ι S) (h : PstF Z W σ H ι Q (((ma env).bind f) S)) :
    tE Z W ma σ H fun x H1 => ∃ dx S1 ι1, ma env S = some (.ok dx S1) ∧ Grow H ι H1 ι1 ∧ RelE Z H1 ι1 env σ ∧ RelS Z H1 ι1 S1 ∧ RelD Z H1 ι1 dx x ∧ PstF Z W σ H1 ι1 Q (f dx S1) := by
  refine ⟨env, S, ι, hE, hS, ?_⟩
  unfold M.bind at h
  cases e : ma env S with
  | none => rw [e] at h; exact h
  | some r =>
    rw [e] at h
    cases r with
    | exn c d S1 => exact h
    | ok d S1 =>
      intro v H1 ι1 g s r
      exact ⟨d, S1, ι1, rfl, g, hE.mono g, s, r, PstF.mono g h⟩
/-- a list made by + or * -/
def rOpF (Z : Sit) (op : BO) : R2 := fun x y H Q => ∃ xs dy S ι ds, RelS Z H ι S ∧ RelD Z H ι (.lst xs) x ∧ RelD Z H ι dy y ∧ binS op (.lst xs) dy S = some (.lst ds) ∧ ∀ p vs, RelDs Z H ι ds vs → H p = none → Q (.ref p) (upd H p (.lst vs))
theorem op_binL (hK : X.K = Z.K) {op : BO} (ho : op = .add ∨ op = .mul) : OpR X (binaryOp (toOp op)) (rOpF Z op) := by
  intro pins s σ H x y v u Q I rx ry h
  obtain ⟨xs, dy, S, ι, ds, hS, r1, r2, e, q⟩ := h
  unfold binS at e
  have e1 : res S (.lst xs) = some (.lst xs) := rfl
  rw [e1] at e
  cases e2 : res S dy with
  | none => rw [e2] at e; cases e
  | some y' =>
    rw [e2] at e
    have p1 := res_ok hS r1 e1
    have p2 := res_ok hS r2 e2
    obtain ⟨a1, vs1, rfl, h1, t1⟩ := p1
    rcases ho with rfl | rfl
    · cases y' with
      | lst ys =>
        simp only [binD] at e
        split at e
        · rename_i hl
          cases e
          obtain ⟨a2, vs2, rfl, h2, t2⟩ := p2
          exact op_cat pins s σ H _ _ v u Q I rx ry ⟨_, _, _, _, rfl, rfl, h1, h2, by rw [← t1.length, ← t2.length]; exact hl, fun p hp => q p _ (t1.append t2) hp⟩
        · cases e
      | _ => simp [binD] at e
    · cases y' with
      | int k =>
        simp only [binD] at e
        split at e
        · rename_i hl
          cases e
          cases p2
          obtain ⟨l1, l2, l3⟩ := hl
          refine op_rep pins s σ H _ _ v u Q I rx ry ⟨_, _, _, rfl, rfl, h1, by omega, by omega, ?_, fun p hp => q p _ (t1.rep _) hp⟩
          rw [sizeLine_eq, ← t1.length]
          exact Nat.le_trans (Nat.mul_le_mul l1 (show k.toNat ≤ 8000 by omega)) (by decide)
        · cases e
      | _ => simp [binD] at e
theorem pe_J_binF (g : Good Z T G cs X W) {op : BO} {o : Operator} (hf : isF (.bin op a b) = true) (ho : opB o (toOp op) = true) (ha : PE X x (tE Z W (ev G a))) (hb : PE X y (tE Z W (ev G b))) : PE X (.BinOp x o y pos) (tF Z W (ev G (.bin op a b))) := by
  have e := of_decide_eq_true ho
  subst e
  obtain ⟨hop, hfa⟩ := isF_bin hf
  refine peImp (pe_op (op_binL g.K hop) ha hb) fun σ H Q ⟨env, S, ι, hE, hS, h⟩ => ?_
  obtain ⟨env', S', ι', q1, q2, q3⟩ := tF1 (ma := ev G a) (f := fun x => (ev G b env).bind fun y => M.optS (binS op x y)) hE hS h
  refine ⟨env', S', ι', q1, q2, q3.imp fun _ _ v H1 ι1 _ _ _ ⟨dx, S1, ι1', ea, g1, hE1, hS1, r1, h1⟩ => ?_⟩
  obtain ⟨xs, rfl⟩ := F_lst hfa ea
  obtain ⟨env2, S2, ι2, p1, p2, p3⟩ := tF1 (ma := ev G b) hE1 hS1 h1
  refine ⟨env2, S2, ι2, p1, p2, p3.imp fun _ _ w H2 _ _ _ _ ⟨dy, S3, ι3, eb, g2, hE2, hS2, r2, h2⟩ => ?_⟩
  simp only [M.optS] at h2
  cases e : binS op (.lst xs) dy S3 with
  | none => rw [e] at h2; exact h2.elim
  | some d =>
    obtain ⟨ds, rfl⟩ := binS_lst hop e
    rw [e] at h2
    exact ⟨xs, dy, S3, ι3, ds, hS2, r1.mono g2, r2, e, fun p vs rr hp => h2 ds rfl p vs H2 ι3 .refl hS2 rr hp⟩
end
end J
/-! J5d: dicts of pairs; look-ups with a default -/
namespace J
open PySem L2
section
variable {Z : Sit} {T : Tab} {G : Ctx} {cs : CS} {X : Cx} {W : WX} {x y z : Expr} {a b c : E} {pos : Pos}
theorem pairs_ok {H : Hp} {ι : List Addr} : ∀ {ds : List _root_.J.D} {vs : List V} {kvs : List (_root_.J.D × _root_.J.D)}, RelDs Z H ι ds vs → pairsD ds = some kvs →
    ∃ (ps : List Addr) (kws : List (Key × V)), vs = ps.map V.ref ∧ Paired (fun p kv => SqT Z.K H p [kV kv.1, kv.2]) ps kws ∧ RelK Z H ι kvs kws
  | _, _, _, .nil, h => by
    simp only [pairsD, Option.some.injEq] at h
    subst h
    exact ⟨[], [], rfl, .nil, .nil⟩
  | _, _, _, .cons (d := d) (v := v) (ds := ds) (vs := vs) r t, h => by
    unfold pairsD at h
    split at h
    · cases ‹_ :: _ = []›
    · rename_i k w r' e
      cases e
      by_cases hk : isKey k = true
      · rw [if_pos hk] at h
        cases hp : pairsD ds with
        | none => simp [hp] at h
        | some kvs' =>
          simp only [hp, Option.some.injEq] at h
          subst h
          obtain ⟨ps, kws, e1, e2, e3⟩ := pairs_ok t hp
          subst e1
          cases r with
          | @tup ad ws _ hsq rr =>
            cases rr with
            | cons rk t1 =>
              cases t1 with
              | cons rw' t2 =>
                cases t2
                cases rk with
                | @int i => exact ⟨ad :: ps, (.inl i, _) :: kws, rfl, .cons hsq e2, .int rw' e3⟩
                | @str i => exact ⟨ad :: ps, (.inr i, _) :: kws, rfl, .cons hsq e2, .str rw' e3⟩
                | _ => cases hk
      · rw [if_neg hk] at h; cases h
    · cases h
theorem dputs_ok {H : Hp} {ι : List Addr} : ∀ {more : List (_root_.J.D × _root_.J.D)} {morew : List (Key × V)} {acc res : List (_root_.J.D × _root_.J.D)} {accw : List (Key × V)}, RelK Z H ι more morew → RelK Z H ι acc accw → dputs more acc = some res → RelK Z H ι res (mergeK accw morew) := by
  intro more morew acc res accw r
  induction r generalizing acc accw with
  | nil =>
    intro ra h
    simp only [dputs, Option.some.injEq] at h
    subst h
    exact ra
  | @int i d v r s h t ih =>
    intro ra e
    simp only [dputs] at e
    cases q : dput (.int i) d acc with
    | none => simp [q] at e
    | some acc' =>
      simp only [q] at e
      exact ih ((dput_ok ra h q).1 i rfl) e
  | @str i d v r s h t ih =>
    intro ra e
    simp only [dputs] at e
    cases q : dput (.str i) d acc with
    | none => simp [q] at e
    | some acc' =>
      simp only [q] at e
      exact ih ((dput_ok ra h q).2 i rfl) e
theorem pe_J_dictp (g : Good Z T G cs X W) {n : Str} {p : Pos} (hb : biB cs n "dict" = true) (hs : starB x = false) (ha : PE X x (tE Z W (ev G a))) : PE X (.Call (.Name n p) [x] [] pos) (tE Z W (ev G (.dictp a))) := by
  cases hh : G.hot with
  | true =>
    refine ⟨fun pins s σ H Q I ⟨env, S, ι, hE, hS, h⟩ => ?_⟩
    simp only [ev, hh, if_true] at h
    exact h.elim
  | false =>
    obtain ⟨e, h1, h2, h3⟩ := biB_of g hb
    subst e
    refine peImp (pe_callTy (call_dictP (g.calm hh)) h1 (g.free _ (by decide +kernel)) (by decide +kernel) (pa_cons ha pa_nil (starEach_of hs _ _)) h3 h2 (starEach_of hs _ _)) fun σ H Q ⟨env, S, ι, hE, hS, h⟩ => ?_
    have h : Pst Z W σ H ι (fun _ _ v H' _ => Q v H') (((ev G a env).bind fun x => (M.optS (pairsS x)).bind fun kvs => (M.opt (dputs kvs [])).bind fun kvs' => alloc (.dct kvs')) S) := by
      have e : ev G (.dictp a) env S = ((ev G a env).bind fun x => (M.optS (pairsS x)).bind fun kvs => (M.opt (dputs kvs [])).bind fun kvs' => alloc (.dct kvs')) S := by
        simp only [ev, hh, Bool.false_eq_true, if_false]
      rw [← e]
      exact h
    obtain ⟨env', S', ι', q1, q2, q3⟩ := tE1 (ma := ev G a) hE hS h
    refine ⟨env', S', ι', q1, q2, q3.imp fun _ _ v H1 ι1 _ _ _ ⟨dx, S1, ι1', g1, hE1, hS1, r1, hq⟩ => ?_⟩
    obtain ⟨kvs, e1, hq⟩ := hq.bindOptS
    obtain ⟨kvs', e2, hq⟩ := hq.bindOpt
    unfold pairsS at e1
    split at e1
    · rename_i ds hl hi
      by_cases hlen : ds.length < 1000000
      · rw [if_pos hlen] at e1
        obtain ⟨ad, vs, rfl, rr, hsq⟩ := items_ok hS1 r1 hi
        rcases hsq with ⟨hsq, _⟩ | ⟨_, z⟩
        · obtain ⟨ps, kws, rfl, pp, rk⟩ := pairs_ok rr e1
          refine ⟨ad, ps, kws, rfl, by rw [g.K]; exact hsq, by rw [g.K]; exact pp, fun pnew hp => ?_⟩
          have rk' := dputs_ok rk .nil e2
          have hq : Pst Z W σ H1 ι1' (fun _ _ v H' _ => Q v H') (some (.ok (.loc S1.length) (S1 ++ [.dct kvs']))) := hq
          refine hq (.ref pnew) (upd H1 pnew (.dK (mergeK [] kws))) (ι1' ++ [pnew]) (Grow.place hp) (hS1.place hp (.dct rk')) (.loc ?_)
          rw [← hS1.len, List.getElem?_append_right (Nat.le_refl _)]
          simp
        · rw [hl] at z; cases z
      · rw [if_neg hlen] at e1; cases e1
    · cases e1
theorem pe_J_dgt (g : Good Z T G cs X W) {ap : Pos} (h0 : plainO x = true) (hl : (ap.endLine == pos.line) = true) (hs : starB y = false) (hs2 : starB z = false) (ha : PE X x (tE Z W (ev G a))) (hb : PE X y (tE Z W (ev G b))) (hc : PE X z (tE Z W (ev G c))) :
    PE X (.Call (.Attribute x "get" ap) [y, z] [] pos) (tE Z W (ev G (.dgt a b c))) := by
  have hst : starEach [y, z] X.env = [(false, eval y X.env), (false, eval z X.env)] := by
    rw [starEach_of hs, starEach_of hs2]
    rfl
  have hm : M2 X x "get" ap y z pos := ⟨attrBase_of h0, by rw [hst]; rfl, hl, by rw [hst]; rfl⟩
  have hu : X.A.units + 1 < cLine := by have := g.units; omega
  refine peImp (pe_dget2 hu ha hb hc hm) fun σ H Q ⟨env, S, ι, hE, hS, h⟩ => ?_
  obtain ⟨env', S', ι', q1, q2, q3⟩ := tE1 (ma := ev G a) hE hS h
  refine ⟨env', S', ι', q1, q2, q3.imp fun _ _ v H1 ι1 _ _ _ ⟨dx, S1, ι1', g1, hE1, hS1, r1, hq⟩ => ?_⟩
  obtain ⟨u, eu, hq⟩ := hq.bindOptS
  have isd : ∃ l kvs, dx = .loc l ∧ S1[l]? = some (.dct kvs) := by
    cases dx with
    | loc l =>
      cases hl : S1[l]? with
      | none => simp [isDct, hl] at eu
      | some cc =>
        cases cc with
        | dct kvs => exact ⟨l, kvs, rfl, hl⟩
        | lst _ => simp [isDct, hl] at eu
        | obj _ _ => simp [isDct, hl] at eu
    | _ => simp [isDct] at eu
  obtain ⟨l, kvs0, rfl, hl0⟩ := isd
  obtain ⟨ad, kws0, rfl, ha0, rk0, hι⟩ := dct_at hS1 r1 hl0
  refine ⟨ad, rfl, .inl ⟨kws0, .inl ha0⟩, ?_⟩
  obtain ⟨env2, S2, ι2, p1, p2, p3⟩ := tE1 (ma := ev G b) hE1 hS1 hq
  refine ⟨env2, S2, ι2, p1, p2, p3.imp fun _ _ v2 H2 ι3 _ _ _ ⟨dy, S3, ι3', g2, hE2, hS2, r2, hq2⟩ => ?_⟩
  obtain ⟨env3, S4, ι4, t1, t2, t3⟩ := tE1 (ma := ev G c) hE2 hS2 hq2
  refine ⟨env3, S4, ι4, t1, t2, t3.imp fun _ _ v3 H3 ι5 _ _ _ ⟨dz, S5, ι5', g3, hE3, hS3, r3, hq3⟩ => ?_⟩
  obtain ⟨d, e, k⟩ := Pst.optS hS3 hq3
  have r1' := (r1.mono g2).mono g3
  have r2' := r2.mono g3
  simp only [dgtS] at e
  cases hl5 : S5[l]? with
  | none => simp [hl5] at e
  | some cc =>
    cases cc with
    | dct kvs =>
      simp only [hl5] at e
      by_cases hk : isKey dy = true
      · rw [if_pos hk] at e
        cases hg : dget dy kvs with
        | none => simp [hg] at e
        | some o =>
          simp only [hg, Option.map_some, Option.some.injEq] at e
          obtain ⟨ad', kws, ev, ha5, rk, _⟩ := dct_at hS3 r1' hl5
          cases ev
          obtain ⟨ov, gg, hso, hv⟩ := dget_at rk r2' hk hg ha5
          refine ⟨ov, gg, ?_⟩
          subst e
          refine k _ _ .refl ?_
          cases o with
          | none =>
            cases ov with
            | none => exact r3
            | some _ => cases hso
          | some d0 =>
            obtain ⟨w, ew, rw'⟩ := hv d0 rfl
            subst ew
            exact rw'
      · rw [if_neg hk] at e; cases e
    | lst _ => simp [hl5] at e
    | obj _ _ => simp [hl5] at e
end
end J
/-! J6: the check read; every expression's text does what the small language says -/
namespace J
open PySem L2
section
variable {T : Tab} {N : List Str} {cs : CS} {x : Expr}
theorem chk_var {i : Nat} (h : chkE T N (.var i) cs x = true) : ∃ n p, x = .Name n p ∧ N[i]? = some n ∧ visB cs.sc n = true ∧ noName n = true := by
  cases x <;> first
    | (simp only [chkE, Bool.false_eq_true] at h; done)
    | skip
  simp only [chkE, Bool.and_eq_true, decide_eq_true_eq] at h
  exact ⟨_, _, rfl, h.1.1, h.1.2, h.2⟩
theorem chk_con {d : D} (h : chkE T N (.con d) cs x = true) : ∃ c k p, x = .Constant c k p ∧ constB c d = true := by
  cases x <;> first
    | (simp only [chkE, Bool.false_eq_true] at h; done)
    | skip
  simp only [chkE] at h
  exact ⟨_, _, _, rfl, h⟩
theorem chk_glob {n : Str} {i : Int} (h : chkE T N (.glob n i) cs x = true) : ∃ p, x = .Name n p ∧ (n, i) ∈ T.gints ∧ globB cs.sc n = true ∧ noName n = true := by
  cases x <;> first
    | (simp only [chkE, Bool.false_eq_true] at h; done)
    | skip
  simp only [chkE, Bool.and_eq_true, decide_eq_true_eq] at h
  obtain ⟨⟨⟨rfl, h2⟩, h3⟩, h4⟩ := h
  exact ⟨_, rfl, h2, h3, h4⟩
theorem chk_gtup {n : Str} {ws : List Str} (h : chkE T N (.gtup n ws) cs x = true) : ∃ p, x = .Name n p ∧ (n, ws) ∈ T.gtups ∧ globB cs.sc n = true ∧ noName n = true := by
  cases x <;> first
    | (simp only [chkE, Bool.false_eq_true] at h; done)
    | skip
  simp only [chkE, Bool.and_eq_true, decide_eq_true_eq] at h
  obtain ⟨⟨⟨rfl, h2⟩, h3⟩, h4⟩ := h
  exact ⟨_, rfl, h2, h3, h4⟩
theorem chk_fnv {f : Nat} (h : chkE T N (.fnv f) cs x = true) : ∃ fn p, x = .Name fn.name p ∧ T.fns[f]? = some fn ∧ globB cs.sc fn.name = true ∧ noName fn.name = true := by
  cases x <;> first
    | (simp only [chkE, Bool.false_eq_true] at h; done)
    | skip
  simp only [chkE, Bool.and_eq_true] at h
  obtain ⟨⟨h1, h2⟩, h3⟩ := h
  cases e : T.fns[f]? with
  | none => simp [e] at h1
  | some fn =>
    simp only [e, decide_eq_true_eq] at h1
    subst h1
    exact ⟨fn, _, rfl, rfl, h2, h3⟩
theorem chk_bin {op : BO} {a b : E} (h : chkE T N (.bin op a b) cs x = true) : ∃ l o r p, x = .BinOp l o r p ∧ opB o (toOp op) = true ∧ chkE T N a cs l = true ∧ chkE T N b cs r = true := by
  cases x <;> first
    | (simp only [chkE, Bool.false_eq_true] at h; done)
    | skip
  simp only [chkE, Bool.and_eq_true] at h
  exact ⟨_, _, _, _, rfl, h⟩
theorem chk_neg {a : E} (h : chkE T N (.neg a) cs x = true) : ∃ l p, x = .UnaryOp .USub l p ∧ chkE T N a cs l = true := by
  cases x <;> first
    | (simp only [chkE, Bool.false_eq_true] at h; done)
    | skip
  rename_i op _ _
  cases op <;> first
    | (simp only [chkE, Bool.false_eq_true] at h; done)
    | skip
  simp only [chkE] at h
  exact ⟨_, _, rfl, h⟩
theorem chk_not {a : E} (h : chkE T N (.not a) cs x = true) : ∃ l p, x = .UnaryOp .Not l p ∧ chkE T N a cs l = true := by
  cases x <;> first
    | (simp only [chkE, Bool.false_eq_true] at h; done)
    | skip
  rename_i op _ _
  cases op <;> first
    | (simp only [chkE, Bool.false_eq_true] at h; done)
    | skip
  simp only [chkE] at h
  exact ⟨_, _, rfl, h⟩
theorem chk_and {a b : E} (h : chkE T N (.and a b) cs x = true) : ∃ y z r p, x = .BoolOp .And (y :: z :: r) p ∧ chkE T N a cs y = true ∧ ((r = [] ∧ chkE T N b cs z = true) ∨ chkE T N b cs (.BoolOp .And (z :: r) p) = true) := by
  cases x <;> first
    | (simp only [chkE, Bool.false_eq_true] at h; done)
    | skip
  rename_i op es p
  cases op <;> first
    | (simp only [chkE, Bool.false_eq_true] at h; done)
    | skip
  rcases es with _ | ⟨y, _ | ⟨z, _ | ⟨w, r⟩⟩⟩ <;> first
    | (simp only [chkE, Bool.false_eq_true] at h; done)
    | skip
  · simp only [chkE, Bool.and_eq_true] at h
    exact ⟨y, z, [], p, rfl, h.1, .inl ⟨rfl, h.2⟩⟩
  · simp only [chkE, Bool.and_eq_true] at h
    exact ⟨y, z, w :: r, p, rfl, h.1, .inr h.2⟩
theorem chk_or {a b : E} (h : chkE T N (.or a b) cs x = true) : ∃ y z r p, x = .BoolOp .Or (y :: z :: r) p ∧ chkE T N a cs y = true ∧ ((r = [] ∧ chkE T N b cs z = true) ∨ chkE T N b cs (.BoolOp .Or (z :: r) p) = true) := by
  cases x <;> first
    | (simp only [chkE, Bool.false_eq_true] at h; done)
    | skip
  rename_i op es p
  cases op <;> first
    | (simp only [chkE, Bool.false_eq_true] at h; done)
    | skip
  rcases es with _ | ⟨y, _ | ⟨z, _ | ⟨w, r⟩⟩⟩ <;> first
    | (simp only [chkE, Bool.false_eq_true] at h; done)
    | skip
  · simp only [chkE, Bool.and_eq_true] at h
    exact ⟨y, z, [], p, rfl, h.1, .inl ⟨rfl, h.2⟩⟩
  · simp only [chkE, Bool.and_eq_true] at h
    exact ⟨y, z, w :: r, p, rfl, h.1, .inr h.2⟩
theorem chk_cmp {op : CO} {a b : E} (h : chkE T N (.cmp op a b) cs x = true) : ∃ l r p, x = .Compare l [toCmp op] [r] p ∧ setB r = false ∧ chkE T N a cs l = true ∧ chkE T N b cs r = true := by
  cases x <;> first
    | (simp only [chkE, Bool.false_eq_true] at h; done)
    | skip
  rename_i l os rs p
  rcases os with _ | ⟨o, _ | ⟨o2, os⟩⟩ <;> rcases rs with _ | ⟨r, _ | ⟨r2, rs⟩⟩ <;> first
    | (simp only [chkE, Bool.false_eq_true] at h; done)
    | skip
  simp only [chkE, Bool.and_eq_true, decide_eq_true_eq, Bool.not_eq_true'] at h
  obtain ⟨⟨rfl, h2⟩, h3⟩ := h
  exact ⟨_, _, _, rfl, h2, h3⟩
theorem chk_chn {o1 o2 : CO} {a b c : E} (h : chkE T N (.chn o1 o2 a b c) cs x = true) : ∃ l r1 r2 p, x = .Compare l [toCmp o1, toCmp o2] [r1, r2] p ∧ setB r2 = false ∧ chkE T N a cs l = true ∧ chkE T N b cs r1 = true ∧ chkE T N c cs r2 = true := by
  cases x <;> first
    | (simp only [chkE, Bool.false_eq_true] at h; done)
    | skip
  rename_i l os rs p
  rcases os with _ | ⟨o, _ | ⟨o2, _ | ⟨o3, os⟩⟩⟩ <;> rcases rs with _ | ⟨r, _ | ⟨r2, _ | ⟨r3, rs⟩⟩⟩ <;> first
    | (simp only [chkE, Bool.false_eq_true] at h; done)
    | skip
  simp only [chkE, Bool.and_eq_true, decide_eq_true_eq, Bool.not_eq_true'] at h
  obtain ⟨⟨⟨rfl, rfl⟩, h2⟩, ⟨h3, h4⟩, h5⟩ := h
  exact ⟨_, _, _, _, rfl, h2, h3, h4, h5⟩
theorem chk_chn3 {o1 o2 o3 : CO} {a b c d : E} (h : chkE T N (.chn3 o1 o2 o3 a b c d) cs x = true) : ∃ l r1 r2 r3 p, x = .Compare l [toCmp o1, toCmp o2, toCmp o3] [r1, r2, r3] p ∧ setB r3 = false ∧ chkE T N a cs l = true ∧ chkE T N b cs r1 = true ∧ chkE T N c cs r2 = true ∧ chkE T N d cs r3 = true := by
  cases x <;> first
    | (simp only [chkE, Bool.false_eq_true] at h; done)
    | skip
  rename_i l os rs p
  rcases os with _ | ⟨o, _ | ⟨o2, _ | ⟨o3, _ | ⟨o4, os⟩⟩⟩⟩ <;> rcases rs with _ | ⟨r, _ | ⟨r2, _ | ⟨r3, _ | ⟨r4, rs⟩⟩⟩⟩ <;> first
    | (simp only [chkE, Bool.false_eq_true] at h; done)
    | skip
  simp only [chkE, Bool.and_eq_true, decide_eq_true_eq, Bool.not_eq_true'] at h
  obtain ⟨⟨⟨⟨rfl, rfl⟩, rfl⟩, h2⟩, ⟨⟨h3, h4⟩, h5⟩, h6⟩ := h
  exact ⟨_, _, _, _, _, rfl, h2, h3, h4, h5, h6⟩
theorem chk_isn {a : E} (h : chkE T N (.isn a) cs x = true) : ∃ l k p p2, x = .Compare l [.Is] [.Constant .none k p2] p ∧ chkE T N a cs l = true := by
  cases x <;> first
    | (simp only [chkE, Bool.false_eq_true] at h; done)
    | skip
  rename_i l os rs p
  rcases os with _ | ⟨o, _ | ⟨o2, os⟩⟩ <;> rcases rs with _ | ⟨r, _ | ⟨r2, rs⟩⟩ <;> first
    | (simp only [chkE, Bool.false_eq_true] at h; done)
    | skip
  all_goals cases o <;> first
    | (simp only [chkE, Bool.false_eq_true] at h; done)
    | skip
  all_goals cases r <;> first
    | (simp only [chkE, Bool.false_eq_true] at h; done)
    | skip
  all_goals rename_i c _ _; cases c <;> first
    | (simp only [chkE, Bool.false_eq_true] at h; done)
    | skip
  simp only [chkE] at h
  exact ⟨_, _, _, _, rfl, h⟩
theorem chk_isnn {a : E} (h : chkE T N (.isnn a) cs x = true) : ∃ l k p p2, x = .Compare l [.IsNot] [.Constant .none k p2] p ∧ chkE T N a cs l = true := by
  cases x <;> first
    | (simp only [chkE, Bool.false_eq_true] at h; done)
    | skip
  rename_i l os rs p
  rcases os with _ | ⟨o, _ | ⟨o2, os⟩⟩ <;> rcases rs with _ | ⟨r, _ | ⟨r2, rs⟩⟩ <;> first
    | (simp only [chkE, Bool.false_eq_true] at h; done)
    | skip
  all_goals cases o <;> first
    | (simp only [chkE, Bool.false_eq_true] at h; done)
    | skip
  all_goals cases r <;> first
    | (simp only [chkE, Bool.false_eq_true] at h; done)
    | skip
  all_goals rename_i c _ _; cases c <;> first
    | (simp only [chkE, Bool.false_eq_true] at h; done)
    | skip
  simp only [chkE] at h
  exact ⟨_, _, _, _, rfl, h⟩
theorem chk_ite {a b c : E} (h : chkE T N (.ite c a b) cs x = true) : ∃ l m r p, x = .IfExp l m r p ∧ chkE T N c cs l = true ∧ chkE T N a cs m = true ∧ chkE T N b cs r = true := by
  cases x <;> first
    | (simp only [chkE, Bool.false_eq_true] at h; done)
    | skip
  simp only [chkE, Bool.and_eq_true] at h
  exact ⟨_, _, _, _, rfl, h.1.1, h.1.2, h.2⟩
theorem chk_tup {a : E} (h : chkE T N (.tup a) cs x = true) : ∃ es k p, x = .Tuple es k p ∧ chkA T N a cs es = true := by
  cases x <;> first
    | (simp only [chkE, Bool.false_eq_true] at h; done)
    | skip
  simp only [chkE] at h
  exact ⟨_, _, _, rfl, h⟩
theorem chk_disp {a : E} (h : chkE T N (.disp a) cs x = true) : ∃ es p, x = .List es p ∧ chkA T N a cs es = true := by
  cases x <;> first
    | (simp only [chkE, Bool.false_eq_true] at h; done)
    | skip
  simp only [chkE] at h
  exact ⟨_, _, rfl, h⟩
theorem chk_idx {a i : E} (h : chkE T N (.idx a i) cs x = true) : ∃ l r p, x = .Subscript l r p ∧ chkE T N a cs l = true ∧ chkE T N i cs r = true := by
  cases x <;> first
    | (simp only [chkE, Bool.false_eq_true] at h; done)
    | skip
  simp only [chkE, Bool.and_eq_true] at h
  exact ⟨_, _, _, rfl, h.1.1, h.1.2⟩
theorem chk_slc {a lo hi : E} {bl bh : Bool} (h : chkE T N (.slc a bl lo bh hi) cs x = true) : ∃ l u v p p2, x = .Subscript l (.Slice u v none p2) p ∧ chkE T N a cs l = true ∧ chkP T N bl lo cs u = true ∧ chkP T N bh hi cs v = true := by
  cases x <;> first
    | (simp only [chkE, Bool.false_eq_true] at h; done)
    | skip
  rename_i l r p
  cases r <;> first
    | (simp only [chkE, Bool.false_eq_true] at h; done)
    | skip
  rename_i u v st p2
  cases st <;> first
    | (simp only [chkE, Bool.false_eq_true] at h; done)
    | skip
  simp only [chkE, Bool.and_eq_true] at h
  exact ⟨_, _, _, _, _, rfl, h.1.1, h.1.2, h.2⟩
theorem chk_call {f : Nat} {keep : Bool} {a : E} (h : chkE T N (.call f keep a) cs x = true) : ∃ fn y es p p1, x = .Call (.Name fn.name p1) (y :: es) [] p ∧ T.fns[f]? = some fn ∧ (y :: es).length ∈ fn.ar ∧ globB cs.sc fn.name = true ∧ noName fn.name = true ∧ chkA T N a cs (y :: es) = true := by
  cases x <;> first
    | (simp only [chkE, Bool.false_eq_true] at h; done)
    | skip
  rename_i l es ks p
  cases l <;> first
    | (simp only [chkE, Bool.false_eq_true] at h; done)
    | skip
  cases ks <;> first
    | (simp only [chkE, Bool.false_eq_true] at h; done)
    | skip
  cases es with
  | nil => simp [chkE] at h
  | cons y es =>
  simp only [chkE, Bool.and_eq_true] at h
  obtain ⟨⟨⟨⟨h1, h2⟩, h3⟩, _⟩, h4⟩ := h
  cases e : T.fns[f]? with
  | none => simp [e] at h1
  | some fn =>
    simp only [e, Bool.and_eq_true, decide_eq_true_eq] at h1
    obtain ⟨rfl, h1⟩ := h1
    exact ⟨fn, _, _, _, _, rfl, rfl, h1, h2, h3, h4⟩
theorem chk_callv {ars : List (List Nat)} {f : E} {keep : Bool} {a : E} (h : chkE T N (.callv ars f keep a) cs x = true) : ∃ n y es p p1, x = .Call (.Name n p1) (y :: es) [] p ∧ ars = T.fns.map (·.ar) ∧ chkV N cs f n = true ∧ chkA T N a cs (y :: es) = true := by
  cases x <;> first
    | (simp only [chkE, Bool.false_eq_true] at h; done)
    | skip
  rename_i l es ks p
  cases l <;> first
    | (simp only [chkE, Bool.false_eq_true] at h; done)
    | skip
  cases ks <;> first
    | (simp only [chkE, Bool.false_eq_true] at h; done)
    | skip
  cases es with
  | nil => simp [chkE] at h
  | cons y es =>
  simp only [chkE, Bool.and_eq_true, decide_eq_true_eq] at h
  obtain ⟨⟨⟨h1, h2⟩, _⟩, h4⟩ := h
  exact ⟨_, _, _, _, _, rfl, h1, h2, h4⟩
theorem chk_prim {pr : Pr} {a : E} (h : chkE T N (.prim pr a) cs x = true) : ∃ n y es p p1, x = .Call (.Name n p1) (y :: es) [] p ∧ biB cs n (biOf pr).1 = true ∧ (biOf pr).1 ≠ "" ∧ chkA T N a cs (y :: es) = true := by
  cases x <;> first
    | (simp only [chkE, Bool.false_eq_true] at h; done)
    | skip
  rename_i l es ks p
  cases l <;> first
    | (simp only [chkE, Bool.false_eq_true] at h; done)
    | skip
  cases ks <;> first
    | (simp only [chkE, Bool.false_eq_true] at h; done)
    | skip
  cases es with
  | nil => simp [chkE] at h
  | cons y es =>
  simp only [chkE, Bool.and_eq_true, decide_eq_true_eq] at h
  obtain ⟨⟨⟨h1, h2⟩, _⟩, h4⟩ := h
  exact ⟨_, _, _, _, _, rfl, h1, h2, h4⟩
theorem chk_isi {t : Ty} {a : E} (h : chkE T N (.isi a t) cs x = true) : ∃ n m e p p1 p2, x = .Call (.Name n p1) [e, .Name m p2] [] p ∧ biB cs n "isinstance" = true ∧ biB cs m (tyName t) = true ∧ tyB t = true ∧ starB e = false ∧ chkE T N a cs e = true := by
  cases x <;> first
    | (simp only [chkE, Bool.false_eq_true] at h; done)
    | skip
  rename_i l es ks p
  cases l <;> first
    | (simp only [chkE, Bool.false_eq_true] at h; done)
    | skip
  rcases es with _ | ⟨e, _ | ⟨y, _ | ⟨z, es⟩⟩⟩ <;> cases ks <;> first
    | (simp only [chkE, Bool.false_eq_true] at h; done)
    | skip
  all_goals cases y <;> first
    | (simp only [chkE, Bool.false_eq_true] at h; done)
    | skip
  simp only [chkE, Bool.and_eq_true, Bool.not_eq_true'] at h
  obtain ⟨⟨⟨⟨h1, h2⟩, h3⟩, h4⟩, h5⟩ := h
  exact ⟨_, _, _, _, _, _, rfl, h1, h2, h3, h4, h5⟩
theorem chk_isx {t : Ty} {a : E} (h : chkE T N (.isx a t) cs x = true) : ∃ n m e p p1 p2, x = .Call (.Name n p1) [e, .Name m p2] [] p ∧ biB cs n "isinstance" = true ∧ clsB T cs t m = true ∧ starB e = false ∧ chkE T N a cs e = true := by
  cases x <;> first
    | (simp only [chkE, Bool.false_eq_true] at h; done)
    | skip
  rename_i f es ks p
  cases f <;> first
    | (simp only [chkE, Bool.false_eq_true] at h; done)
    | skip
  rcases es with _ | ⟨e, _ | ⟨e2, _ | ⟨e3, es⟩⟩⟩ <;> cases ks <;> first
    | (simp only [chkE, Bool.false_eq_true] at h; done)
    | skip
  cases e2 <;> first
    | (simp only [chkE, Bool.false_eq_true] at h; done)
    | skip
  simp only [chkE, Bool.and_eq_true, Bool.not_eq_true'] at h
  exact ⟨_, _, _, _, _, _, rfl, h.1.1.1, h.1.1.2, h.1.2, h.2⟩
theorem chk_attr {a : E} {y : Str} (h : chkE T N (.attr a y) cs x = true) : ∃ e p, x = .Attribute e "reason" p ∧ y = "reason" ∧ plainO e = true ∧ chkE T N a cs e = true := by
  cases x <;> first
    | (simp only [chkE, Bool.false_eq_true] at h; done)
    | skip
  simp only [chkE, Bool.and_eq_true, decide_eq_true_eq] at h
  obtain ⟨⟨⟨rfl, rfl⟩, h2⟩, h3⟩ := h
  exact ⟨_, _, rfl, rfl, h2, h3⟩
theorem chk_meth {m : Me} {a b : E} (h : chkE T N (.meth m a b) cs x = true) : ∃ e ap v p, x = .Call (.Attribute e (meName m) ap) [v] [] p ∧ plainO e = true ∧ (ap.endLine == p.line) = true ∧ chkE T N a cs e = true ∧ chkE T N b cs v = true ∧ starB v = false := by
  cases x <;> first
    | (simp only [chkE, Bool.false_eq_true] at h; done)
    | skip
  rename_i f es ks p
  cases f <;> first
    | (simp only [chkE, Bool.false_eq_true] at h; done)
    | skip
  rcases es with _ | ⟨e, _ | ⟨e2, es⟩⟩ <;> cases ks <;> first
    | (simp only [chkE, Bool.false_eq_true] at h; done)
    | skip
  simp only [chkE, Bool.and_eq_true, decide_eq_true_eq, Bool.not_eq_true'] at h
  obtain ⟨⟨⟨⟨⟨rfl, h1⟩, h2⟩, h3⟩, h4⟩, h5⟩ := h
  exact ⟨_, _, _, _, rfl, h1, h2, h3, h4, h5⟩
theorem chk_dictp {a : E} (h : chkE T N (.dictp a) cs x = true) : ∃ n e p p1, x = .Call (.Name n p1) [e] [] p ∧ biB cs n "dict" = true ∧ starB e = false ∧ chkE T N a cs e = true := by
  cases x <;> first
    | (simp only [chkE, Bool.false_eq_true] at h; done)
    | skip
  rename_i f es ks p
  cases f <;> first
    | (simp only [chkE, Bool.false_eq_true] at h; done)
    | skip
  rcases es with _ | ⟨e, _ | ⟨e2, es⟩⟩ <;> cases ks <;> first
    | (simp only [chkE, Bool.false_eq_true] at h; done)
    | skip
  simp only [chkE, Bool.and_eq_true, Bool.not_eq_true'] at h
  exact ⟨_, _, _, _, rfl, h.1.1, h.2, h.1.2⟩
theorem chk_dgt {a b c : E} (h : chkE T N (.dgt a b c) cs x = true) : ∃ e ap v w p, x = .Call (.Attribute e "get" ap) [v, w] [] p ∧ plainO e = true ∧ (ap.endLine == p.line) = true ∧ chkE T N a cs e = true ∧ chkE T N b cs v = true ∧ chkE T N c cs w = true ∧ starB v = false ∧ starB w = false := by
  cases x <;> first
    | (simp only [chkE, Bool.false_eq_true] at h; done)
    | skip
  rename_i f es ks p
  cases f <;> first
    | (simp only [chkE, Bool.false_eq_true] at h; done)
    | skip
  rcases es with _ | ⟨e, _ | ⟨e2, _ | ⟨e3, es⟩⟩⟩ <;> cases ks <;> first
    | (simp only [chkE, Bool.false_eq_true] at h; done)
    | skip
  simp only [chkE, Bool.and_eq_true, decide_eq_true_eq, Bool.not_eq_true'] at h
  obtain ⟨⟨⟨⟨⟨⟨⟨rfl, h1⟩, h2⟩, h3⟩, h4⟩, h5⟩, h6⟩, h7⟩ := h
  exact ⟨_, _, _, _, _, rfl, h1, h2, h3, h4, h5, h6, h7⟩
theorem chk_lrg1 {t : Bool} {a : E} (h : chkE T N (.lrg1 t a) cs x = true) : ∃ n m e p p1 p2 p3, x = .Call (.Name n p1) [.Call (.Name m p2) [e] [] p3] [] p ∧ biB cs n (if t then "tuple" else "list") = true ∧ biB cs m "range" = true ∧ chkE T N a cs e = true ∧ starB e = false := by
  cases x <;> first
    | (simp only [chkE, Bool.false_eq_true] at h; done)
    | skip
  rename_i f es ks p
  cases f <;> first
    | (simp only [chkE, Bool.false_eq_true] at h; done)
    | skip
  rcases es with _ | ⟨e, _ | ⟨e2, es⟩⟩ <;> cases ks <;> first
    | (simp only [chkE, Bool.false_eq_true] at h; done)
    | skip
  cases e <;> first
    | (simp only [chkE, Bool.false_eq_true] at h; done)
    | skip
  rename_i f es ks p
  cases f <;> first
    | (simp only [chkE, Bool.false_eq_true] at h; done)
    | skip
  rcases es with _ | ⟨e, _ | ⟨e2, es⟩⟩ <;> cases ks <;> first
    | (simp only [chkE, Bool.false_eq_true] at h; done)
    | skip
  simp only [chkE, Bool.and_eq_true, Bool.not_eq_true'] at h
  exact ⟨_, _, _, _, _, _, _, rfl, h.1.1.1, h.1.1.2, h.1.2, h.2⟩
theorem chk_lrg2 {t : Bool} {a b : E} (h : chkE T N (.lrg2 t a b) cs x = true) : ∃ n m e f p p1 p2 p3, x = .Call (.Name n p1) [.Call (.Name m p2) [e, f] [] p3] [] p ∧ biB cs n (if t then "tuple" else "list") = true ∧ biB cs m "range" = true ∧ chkE T N a cs e = true ∧ starB e = false ∧ chkE T N b cs f = true ∧ starB f = false := by
  cases x <;> first
    | (simp only [chkE, Bool.false_eq_true] at h; done)
    | skip
  rename_i f es ks p
  cases f <;> first
    | (simp only [chkE, Bool.false_eq_true] at h; done)
    | skip
  rcases es with _ | ⟨e, _ | ⟨e2, es⟩⟩ <;> cases ks <;> first
    | (simp only [chkE, Bool.false_eq_true] at h; done)
    | skip
  cases e <;> first
    | (simp only [chkE, Bool.false_eq_true] at h; done)
    | skip
  rename_i f es ks p
  cases f <;> first
    | (simp only [chkE, Bool.false_eq_true] at h; done)
    | skip
  rcases es with _ | ⟨e, _ | ⟨e2, _ | ⟨e3, es⟩⟩⟩ <;> cases ks <;> first
    | (simp only [chkE, Bool.false_eq_true] at h; done)
    | skip
  simp only [chkE, Bool.and_eq_true, Bool.not_eq_true'] at h
  obtain ⟨⟨⟨⟨⟨h1, h2⟩, h3⟩, h4⟩, h5⟩, h6⟩ := h
  exact ⟨_, _, _, _, _, _, _, _, rfl, h1, h2, h3, h4, h5, h6⟩
theorem chk_rev {a : E} (h : chkE T N (.rev a) cs x = true) : ∃ l k p1 p2 p3 p, x = .Subscript l (.Slice none none (some (.UnaryOp .USub (.Constant (.int 1) k p1) p2)) p3) p ∧ chkE T N a cs l = true := by
  cases x <;> first
    | (simp only [chkE, Bool.false_eq_true] at h; done)
    | skip
  rename_i l sl p
  cases sl <;> first
    | (simp only [chkE, Bool.false_eq_true] at h; done)
    | skip
  rename_i lo hi st p3
  cases lo <;> cases hi <;> cases st <;> first
    | (simp only [chkE, Bool.false_eq_true] at h; done)
    | skip
  rename_i st
  cases st <;> first
    | (simp only [chkE, Bool.false_eq_true] at h; done)
    | skip
  rename_i op c p2
  cases op <;> first
    | (simp only [chkE, Bool.false_eq_true] at h; done)
    | skip
  cases c <;> first
    | (simp only [chkE, Bool.false_eq_true] at h; done)
    | skip
  rename_i c k p1
  cases c <;> first
    | (simp only [chkE, Bool.false_eq_true] at h; done)
    | skip
  simp only [chkE, Bool.and_eq_true, decide_eq_true_eq] at h
  obtain ⟨rfl, h⟩ := h
  exact ⟨_, _, _, _, _, _, rfl, h⟩
theorem chk_plist {a : E} (h : chkE T N (.plist a) cs x = true) : ∃ n e p p1, x = .Call (.Name n p1) [e] [] p ∧ biB cs n "list" = true ∧ starB e = false ∧ chkE T N a cs e = true := by
  cases x <;> first
    | (simp only [chkE, Bool.false_eq_true] at h; done)
    | skip
  rename_i l es ks p
  cases l <;> first
    | (simp only [chkE, Bool.false_eq_true] at h; done)
    | skip
  rcases es with _ | ⟨e, _ | ⟨y, es⟩⟩ <;> cases ks <;> first
    | (simp only [chkE, Bool.false_eq_true] at h; done)
    | skip
  simp only [chkE, Bool.and_eq_true, Bool.not_eq_true'] at h
  exact ⟨_, _, _, _, rfl, h.1.1, h.2, h.1.2⟩
theorem chk_comp {tg as c elt : E} {k : Ik} {own : List Nat} (h : chkE T N (.comp tg k as c elt own) cs x = true) : ∃ el t it ifs scope p, x = .ListComp el [⟨t, it, ifs, 0⟩] scope p ∧ chkI T N k as cs t it = true ∧ setB it = false ∧
    blkC N cs.sc scope (ownS N own) = true ∧ (ownS N own).map (·.2) = own ∧ chkT N ⟨relS scope cs.sc, some scope⟩ tg t = true ∧ (varsT tg).all (fun i => decide (i ∈ own)) = true ∧
    ((ifs = [] ∧ c = .con (.bl true)) ∨ ∃ e, ifs = [e] ∧ chkE T N c ⟨relS scope cs.sc, some scope⟩ e = true) ∧ chkE T N elt ⟨relS scope cs.sc, some scope⟩ el = true := by
  cases x <;> first
    | (simp only [chkE, Bool.false_eq_true] at h; done)
    | skip
  rename_i el gs scope p
  rcases gs with _ | ⟨⟨t, it, ifs, a⟩, _ | ⟨g2, gs⟩⟩ <;> first
    | (simp only [chkE, Bool.false_eq_true] at h; done)
    | skip
  simp only [chkE, Bool.and_eq_true, Bool.not_eq_true', decide_eq_true_eq] at h
  obtain ⟨⟨⟨⟨⟨⟨⟨rfl, h1⟩, h2⟩, h3, h4⟩, h5⟩, h6⟩, h7⟩, h8⟩ := h
  refine ⟨el, t, it, ifs, scope, p, rfl, h1, h2, h3, h4, h5, h6, ?_, h8⟩
  unfold tstB at h7
  split at h7
  · exact .inl ⟨rfl, rfl⟩
  · exact .inr ⟨_, rfl, h7⟩
  · cases h7
theorem chk_mut {e : E} (h : chkE T N (.mut e) cs x = true) : isF e = true ∧ chkE T N e cs x = true := by
  unfold chkE at h
  simp only [Bool.and_eq_true] at h
  exact h
theorem chk_dnew {as : E} (h : chkE T N (.ddisp as) cs x = true) : ∃ p, x = .Dict [] [] p := by
  cases x <;> first
    | (simp only [chkE, Bool.false_eq_true] at h; done)
    | skip
  rename_i ks vs p
  cases ks <;> cases vs <;> first
    | (simp only [chkE, Bool.false_eq_true] at h; done)
    | exact ⟨p, rfl⟩
theorem chk_dcomp {tg as c kx vx : E} {k : Ik} {own : List Nat} (h : chkE T N (.dcomp tg k as c kx vx own) cs x = true) : ∃ ka va t it ifs scope p, x = .DictComp ka va [⟨t, it, ifs, 0⟩] scope p ∧ chkI T N k as cs t it = true ∧ setB it = false ∧
    blkC N cs.sc scope (ownS N own) = true ∧ (ownS N own).map (·.2) = own ∧ chkT N ⟨relS scope cs.sc, some scope⟩ tg t = true ∧ (varsT tg).all (fun i => decide (i ∈ own)) = true ∧
    ((ifs = [] ∧ c = .con (.bl true)) ∨ ∃ e, ifs = [e] ∧ chkE T N c ⟨relS scope cs.sc, some scope⟩ e = true) ∧ chkE T N kx ⟨relS scope cs.sc, some scope⟩ ka = true ∧ chkE T N vx ⟨relS scope cs.sc, some scope⟩ va = true := by
  cases x <;> first
    | (simp only [chkE, Bool.false_eq_true] at h; done)
    | skip
  rename_i ka va gs scope p
  rcases gs with _ | ⟨⟨t, it, ifs, a⟩, _ | ⟨g2, gs⟩⟩ <;> first
    | (simp only [chkE, Bool.false_eq_true] at h; done)
    | skip
  simp only [chkE, Bool.and_eq_true, Bool.not_eq_true', decide_eq_true_eq] at h
  obtain ⟨⟨⟨⟨⟨⟨⟨⟨rfl, h1⟩, h2⟩, h3, h4⟩, h5⟩, h6⟩, h7⟩, h8⟩, h9⟩ := h
  refine ⟨ka, va, t, it, ifs, scope, p, rfl, h1, h2, h3, h4, h5, h6, ?_, h8, h9⟩
  unfold tstB at h7
  split at h7
  · exact .inl ⟨rfl, rfl⟩
  · exact .inr ⟨_, rfl, h7⟩
  · cases h7
end
end J
/-! J7: every expression -/
namespace J
open PySem L2
section
variable {T : Tab} {N : List Str} {G : Ctx}
/-- what the text of e does -/
structure Snd (T : Tab) (N : List Str) (G : Ctx) (e : E) : Prop where
  pe : ∀ Z cs X W, Good Z T G cs X W → X.N = N → ∀ x, chkE T N e cs x = true → PE X x (tE Z W (ev G e))
  pf : isF e = true → ∀ Z cs X W, Good Z T G cs X W → X.N = N → ∀ x, chkE T N e cs x = true → PE X x (tF Z W (ev G e))
  pt : ∀ Z cs X W, Good Z T G cs X W → X.N = N → ∀ x, chkE T N e cs x = true → PT X x (tT Z W (ev G e))
  pw : ∀ Z cs X W, Good Z T G cs X W → X.N = N → ∀ op es pos, chkE T N e cs (.BoolOp op es pos) = true → PW X (.BoolOp op es pos) (tT Z W (ev G e))
  pa : ∀ Z cs X W, Good Z T G cs X W → X.N = N → ∀ es, chkA T N e cs es = true → PA X es (tA Z W (ev G e))
  hd : ∀ a r, e = .cons a r → ∀ Z cs X W, Good Z T G cs X W → X.N = N → ∀ x, chkE T N a cs x = true → PE X x (tE Z W (ev G a))
theorem noA {e : E} (h1 : e ≠ .nil) (h2 : ∀ a r, e ≠ .cons a r) (cs : CS) (es : List Expr) : chkA T N e cs es = false := by
  cases e <;> first
    | exact absurd rfl h1
    | exact absurd rfl (h2 _ _)
    | (cases es <;> simp only [chkA])
theorem noBool {e : E} (h1 : ∀ a b, e ≠ .and a b) (h2 : ∀ a b, e ≠ .or a b) (h3 : ∀ a, e ≠ .mut a) (cs : CS) (op es pos) : chkE T N e cs (.BoolOp op es pos) = false := by
  cases e <;> first
    | exact absurd rfl (h1 _ _)
    | exact absurd rfl (h2 _ _)
    | exact absurd rfl (h3 _)
    | simp only [chkE]
/-- a construct whose test is plain -/
theorem Snd.leaf {e : E} (h1 : ∀ a b, e ≠ .and a b) (h2 : ∀ a b, e ≠ .or a b) (h3 : ∀ a, e ≠ .mut a) (h4 : e ≠ .nil) (h5 : ∀ a r, e ≠ .cons a r) (hf : isF e = false)
    (hp : ∀ cs x, chkE T N e cs x = true → plainT x = true) (pe : ∀ Z cs X W, Good Z T G cs X W → X.N = N → ∀ x, chkE T N e cs x = true → PE X x (tE Z W (ev G e))) : Snd T N G e where
  pe := pe
  pf := fun h => by rw [hf] at h; cases h
  pt := fun Z cs X W g n x h => pt_of_pe g (hp cs x h) (pe Z cs X W g n x h)
  pw := fun Z cs X W g n op es pos h => by rw [noBool h1 h2 h3] at h; cases h
  pa := fun Z cs X W g n es h => by rw [noA h4 h5] at h; cases h
  hd := fun a r e => absurd e (h5 a r)
/-- a construct whose test has a rule of its own -/
theorem Snd.test {e : E} (h1 : ∀ a b, e ≠ .and a b) (h2 : ∀ a b, e ≠ .or a b) (h3 : ∀ a, e ≠ .mut a) (h4 : e ≠ .nil) (h5 : ∀ a r, e ≠ .cons a r) (hf : isF e = false)
    (pe : ∀ Z cs X W, Good Z T G cs X W → X.N = N → ∀ x, chkE T N e cs x = true → PE X x (tE Z W (ev G e)))
    (pt : ∀ Z cs X W, Good Z T G cs X W → X.N = N → ∀ x, chkE T N e cs x = true → PT X x (tT Z W (ev G e))) : Snd T N G e where
  pe := pe
  pf := fun h => by rw [hf] at h; cases h
  pt := pt
  pw := fun Z cs X W g n op es pos h => by rw [noBool h1 h2 h3] at h; cases h
  pa := fun Z cs X W g n es h => by rw [noA h4 h5] at h; cases h
  hd := fun a r e => absurd e (h5 a r)
/-- what makes a list -/
theorem Snd.list {e : E} (h1 : ∀ a b, e ≠ .and a b) (h2 : ∀ a b, e ≠ .or a b) (h3 : ∀ a, e ≠ .mut a) (h4 : e ≠ .nil) (h5 : ∀ a r, e ≠ .cons a r)
    (hp : ∀ cs x, chkE T N e cs x = true → plainT x = true) (hl : ∀ env S d S1, ev G e env S = some (.ok d S1) → ∃ ds, d = .lst ds)
    (pf : ∀ Z cs X W, Good Z T G cs X W → X.N = N → ∀ x, chkE T N e cs x = true → PE X x (tF Z W (ev G e))) : Snd T N G e where
  pe := fun Z cs X W g n x h => pe_of_F (pf Z cs X W g n x h) hl
  pf := fun _ => pf
  pt := fun Z cs X W g n x h => pt_of_pe g (hp cs x h) (pe_of_F (pf Z cs X W g n x h) hl)
  pw := fun Z cs X W g n op es pos h => by rw [noBool h1 h2 h3] at h; cases h
  pa := fun Z cs X W g n es h => by rw [noA h4 h5] at h; cases h
  hd := fun a r e => absurd e (h5 a r)
theorem po_of {e : E} {b : Bool} {Z : Sit} {cs : CS} {X : Cx} {W : WX} (g : Good Z T G cs X W) (hN : X.N = N) (s : Snd T N G e) {l : Option Expr} (h : chkP T N b e cs l = true) : PO X l (tO Z W b (ev G e)) := by
  unfold chkP prtB at h
  split at h
  · cases e <;> first
      | (cases h; done)
      | skip
    rename_i d
    cases d <;> first
      | (cases h; done)
      | skip
    exact po_J_none
  · exact po_J_some (s.pe Z cs X W g hN _ h)
  · cases h
theorem starA : ∀ {a : E} {es : List Expr} {cs : CS}, chkA T N a cs es = true → ∀ e ∈ es, starB e = false := by
  intro a
  induction a with
  | nil =>
    intro es cs h
    cases es with
    | nil => intro e he; cases he
    | cons _ _ => simp [chkA] at h
  | cons a r _ ih =>
    intro es cs h
    cases es with
    | nil => simp [chkA] at h
    | cons x es =>
      simp only [chkA, Bool.and_eq_true, Bool.not_eq_true'] at h
      intro e he
      rcases List.mem_cons.mp he with rfl | he
      · exact h.1.2
      · exact ih h.2 e he
  | _ => intro es cs h; rw [noA (by simp) (by simp)] at h; cases h
theorem as_one {as : E} {cs : CS} {x : Expr} (h : chkA T N as cs [x] = true) : ∃ a, as = .cons a .nil ∧ chkE T N a cs x = true := by
  cases as <;> first
    | (simp only [chkA, Bool.false_eq_true] at h; done)
    | skip
  rename_i a r
  simp only [chkA, Bool.and_eq_true] at h
  cases r <;> first
    | (simp only [chkA, Bool.false_eq_true] at h; exact h.2.elim)
    | skip
  exact ⟨a, rfl, h.1.1⟩
theorem pi_of {k : Ik} {as : E} {Z : Sit} {cs : CS} {X : Cx} {W : WX} (g : Good Z T G cs X W) (hN : X.N = N) (s : Snd T N G as) {t it : Expr} (h : chkI T N k as cs t it = true) : PI X t it (tI Z W k (ev G as)) := by
  unfold chkI itB at h
  split at h
  · obtain ⟨a, rfl, h1⟩ := as_one h
    exact pi_J_val g (s.hd a .nil rfl Z cs X W g hN _ h1)
  · simp only [Bool.and_eq_true] at h
    exact pi_J_rng1 g h.1 (starA h.2 _ (by simp)) (s.pa Z cs X W g hN _ h.2)
  · simp only [Bool.and_eq_true] at h
    exact pi_J_rng2 g h.1 (starA h.2 _ (by simp)) (starA h.2 _ (by simp)) (s.pa Z cs X W g hN _ h.2)
  · simp only [Bool.and_eq_true] at h
    exact pi_J_rng3 g h.1 (starA h.2 _ (by simp)) (starA h.2 _ (by simp)) (starA h.2 _ (by simp)) (s.pa Z cs X W g hN _ h.2)
  · simp only [Bool.and_eq_true] at h
    exact pi_J_enu g h.1 (starA h.2 _ (by simp)) (s.pa Z cs X W g hN _ h.2)
  · simp only [Bool.and_eq_true] at h
    exact pi_J_zip g h.1 (starA h.2 _ (by simp)) (starA h.2 _ (by simp)) (s.pa Z cs X W g hN _ h.2)
  · cases h
theorem mut_eq {e : E} : ev G (.mut e) = fun env => (ev G e env).bind fun d => (M.opt (lsts d)).bind fun ds => alloc (.lst ds) := by
  funext env
  simp only [ev]
theorem plain_F {e : E} (hf : isF e = true) {cs : CS} {x : Expr} (h : chkE T N e cs x = true) : plainT x = true := by
  cases e <;> first
    | (cases hf; done)
    | (obtain ⟨_, _, rfl, _⟩ := chk_disp h; rfl)
    | (obtain ⟨_, _, _, _, rfl, _⟩ := chk_plist h; rfl)
    | (obtain ⟨_, _, _, _, _, _, _, rfl, _⟩ := chk_lrg1 h; rfl)
    | (obtain ⟨_, _, _, _, _, _, _, _, rfl, _⟩ := chk_lrg2 h; rfl)
    | (obtain ⟨_, _, _, _, _, _, rfl, _⟩ := chk_comp h; rfl)
    | (obtain ⟨_, _, _, _, rfl, _⟩ := chk_bin h; rfl)
/-- the constructs that no text is checked for -/
theorem Snd.none {e : E} (hE : ∀ cs x, chkE T N e cs x = false) (hA : ∀ cs es, chkA T N e cs es = false) (h5 : ∀ a r, e ≠ .cons a r) : Snd T N G e where
  pe := fun Z cs X W g n x h => by rw [hE] at h; cases h
  pf := fun _ Z cs X W g n x h => by rw [hE] at h; cases h
  pt := fun Z cs X W g n x h => by rw [hE] at h; cases h
  pw := fun Z cs X W g n op es pos h => by rw [hE] at h; cases h
  pa := fun Z cs X W g n es h => by rw [hA] at h; cases h
  hd := fun a r e => absurd e (h5 a r)
theorem no_slice {e : E} {cs : CS} {u v w : Option Expr} {p : Pos} : chkE T N e cs (.Slice u v w p) = false := by
  have base : ∀ e, (∀ a, e ≠ .mut a) → chkE T N e cs (.Slice u v w p) = false := fun e h => by
    cases e <;> first
      | exact absurd rfl (h _)
      | simp only [chkE]
  by_cases h : ∃ a, e = .mut a
  · obtain ⟨a, rfl⟩ := h
    cases q : chkE T N (.mut a) cs (.Slice u v w p) with
    | false => rfl
    | true =>
      obtain ⟨h1, h2⟩ := chk_mut q
      rw [base a (fun b e => by subst e; cases h1)] at h2
      cases h2
  · exact base e fun a e => h ⟨a, e⟩
theorem plain_ix {e : E} {cs : CS} {x : Expr} (h : chkE T N e cs x = true) : PlainIx x := by
  cases x <;> first
    | (intro o i; rfl)
    | (rw [no_slice] at h; cases h)
theorem snd : ∀ e : E, Snd T N G e := by
  intro e
  induction e with
  | var i =>
    exact .leaf (by simp) (by simp) (by simp) (by simp) (by simp) rfl (fun cs x h => by obtain ⟨n, p, rfl, _⟩ := chk_var h; rfl) fun Z cs X W g hN x h => by
      subst hN
      obtain ⟨n, p, rfl, h1, h2, h3⟩ := chk_var h
      exact pe_J_var g h1 h2 h3
  | con d =>
    exact .leaf (by simp) (by simp) (by simp) (by simp) (by simp) rfl (fun cs x h => by obtain ⟨c, k, p, rfl, _⟩ := chk_con h; rfl) fun Z cs X W g hN x h => by
      obtain ⟨c, k, p, rfl, h1⟩ := chk_con h
      exact pe_J_con h1
  | glob n i =>
    exact .leaf (by simp) (by simp) (by simp) (by simp) (by simp) rfl (fun cs x h => by obtain ⟨p, rfl, _⟩ := chk_glob h; rfl) fun Z cs X W g hN x h => by
      obtain ⟨p, rfl, h1, h2, h3⟩ := chk_glob h
      exact pe_J_glob g h1 h2 h3
  | gtup n ws =>
    exact .leaf (by simp) (by simp) (by simp) (by simp) (by simp) rfl (fun cs x h => by obtain ⟨p, rfl, _⟩ := chk_gtup h; rfl) fun Z cs X W g hN x h => by
      obtain ⟨p, rfl, h1, h2, h3⟩ := chk_gtup h
      exact pe_J_gtup g h1 h2 h3
  | fnv f =>
    exact .leaf (by simp) (by simp) (by simp) (by simp) (by simp) rfl (fun cs x h => by obtain ⟨fn, p, rfl, _⟩ := chk_fnv h; rfl) fun Z cs X W g hN x h => by
      obtain ⟨fn, p, rfl, h1, h2, h3⟩ := chk_fnv h
      exact pe_J_fnv g h1 h2 h3
  | bin op a b iha ihb =>
    cases hf : isF (.bin op a b) with
    | true =>
      exact .list (by simp) (by simp) (by simp) (by simp) (by simp) (fun cs x h => by obtain ⟨l, o, r, p, rfl, _⟩ := chk_bin h; rfl) (fun env S d S1 h => F_lst hf h) fun Z cs X W g hN x h => by
        obtain ⟨l, o, r, p, rfl, h1, h2, h3⟩ := chk_bin h
        exact pe_J_binF g hf h1 (iha.pe Z cs X W g hN l h2) (ihb.pe Z cs X W g hN r h3)
    | false =>
      exact .leaf (by simp) (by simp) (by simp) (by simp) (by simp) hf (fun cs x h => by obtain ⟨l, o, r, p, rfl, _⟩ := chk_bin h; rfl) fun Z cs X W g hN x h => by
        obtain ⟨l, o, r, p, rfl, h1, h2, h3⟩ := chk_bin h
        exact pe_J_bin g h1 (iha.pe Z cs X W g hN l h2) (ihb.pe Z cs X W g hN r h3)
  | neg a iha =>
    exact .leaf (by simp) (by simp) (by simp) (by simp) (by simp) rfl (fun cs x h => by obtain ⟨l, p, rfl, _⟩ := chk_neg h; rfl) fun Z cs X W g hN x h => by
      obtain ⟨l, p, rfl, h1⟩ := chk_neg h
      exact pe_J_neg g (iha.pe Z cs X W g hN l h1)
  | not a iha =>
    exact .test (by simp) (by simp) (by simp) (by simp) (by simp) rfl (fun Z cs X W g hN x h => by
      obtain ⟨l, p, rfl, h1⟩ := chk_not h
      exact pe_J_not g (iha.pe Z cs X W g hN l h1)) fun Z cs X W g hN x h => by
      obtain ⟨l, p, rfl, h1⟩ := chk_not h
      exact pt_J_not g (iha.pt Z cs X W g hN l h1)
  | and a b iha ihb =>
    have key : ∀ Z cs X W, Good Z T G cs X W → X.N = N → ∀ x, chkE T N (.and a b) cs x = true → ∃ y z r p, x = .BoolOp .And (y :: z :: r) p ∧ PE X x (tE Z W (ev G (.and a b))) ∧ PW X x (tT Z W (ev G (.and a b))) := fun Z cs X W g hN x h => by
      obtain ⟨y, z, r, p, rfl, h1, h2⟩ := chk_and h
      refine ⟨y, z, r, p, rfl, ?_⟩
      rcases h2 with ⟨rfl, h2⟩ | h2
      · exact ⟨pe_J_and g (iha.pe Z cs X W g hN y h1) (pe_one (ihb.pe Z cs X W g hN z h2)), pw_J_and g (iha.pt Z cs X W g hN y h1) (pw_and1 (ihb.pt Z cs X W g hN z h2))⟩
      · exact ⟨pe_J_and g (iha.pe Z cs X W g hN y h1) (ihb.pe Z cs X W g hN _ h2), pw_J_and g (iha.pt Z cs X W g hN y h1) (ihb.pw Z cs X W g hN _ _ _ h2)⟩
    exact ⟨fun Z cs X W g hN x h => (by obtain ⟨y, z, r, p, rfl, h1, h2⟩ := key Z cs X W g hN x h; exact h1), fun h => (nomatch h),
      fun Z cs X W g hN x h => (by obtain ⟨y, z, r, p, rfl, h1, h2⟩ := key Z cs X W g hN x h; exact h2.pt), fun Z cs X W g hN op es pos h => (key Z cs X W g hN _ h).choose_spec.choose_spec.choose_spec.choose_spec.2.2,
      fun Z cs X W g hN es h => (by rw [noA (by simp) (by simp)] at h; cases h), fun a r e => by cases e⟩
  | or a b iha ihb =>
    have key : ∀ Z cs X W, Good Z T G cs X W → X.N = N → ∀ x, chkE T N (.or a b) cs x = true → ∃ y z r p, x = .BoolOp .Or (y :: z :: r) p ∧ PE X x (tE Z W (ev G (.or a b))) ∧ PW X x (tT Z W (ev G (.or a b))) := fun Z cs X W g hN x h => by
      obtain ⟨y, z, r, p, rfl, h1, h2⟩ := chk_or h
      refine ⟨y, z, r, p, rfl, ?_⟩
      rcases h2 with ⟨rfl, h2⟩ | h2
      · exact ⟨pe_J_or g (iha.pe Z cs X W g hN y h1) (pe_one (ihb.pe Z cs X W g hN z h2)), pw_J_or g (iha.pt Z cs X W g hN y h1) (pw_or1 (ihb.pt Z cs X W g hN z h2))⟩
      · exact ⟨pe_J_or g (iha.pe Z cs X W g hN y h1) (ihb.pe Z cs X W g hN _ h2), pw_J_or g (iha.pt Z cs X W g hN y h1) (ihb.pw Z cs X W g hN _ _ _ h2)⟩
    exact ⟨fun Z cs X W g hN x h => (by obtain ⟨y, z, r, p, rfl, h1, h2⟩ := key Z cs X W g hN x h; exact h1), fun h => (nomatch h),
      fun Z cs X W g hN x h => (by obtain ⟨y, z, r, p, rfl, h1, h2⟩ := key Z cs X W g hN x h; exact h2.pt), fun Z cs X W g hN op es pos h => (key Z cs X W g hN _ h).choose_spec.choose_spec.choose_spec.choose_spec.2.2,
      fun Z cs X W g hN es h => (by rw [noA (by simp) (by simp)] at h; cases h), fun a r e => by cases e⟩
  | cmp op a b iha ihb =>
    exact .test (by simp) (by simp) (by simp) (by simp) (by simp) rfl (fun Z cs X W g hN x h => by
      obtain ⟨l, r, p, rfl, h1, h2, h3⟩ := chk_cmp h
      exact pe_J_cmp g rfl h1 (iha.pe Z cs X W g hN l h2) (ihb.pe Z cs X W g hN r h3)) fun Z cs X W g hN x h => by
      obtain ⟨l, r, p, rfl, h1, h2, h3⟩ := chk_cmp h
      exact pt_J_cmp g h1 (iha.pe Z cs X W g hN l h2) (ihb.pe Z cs X W g hN r h3)
  | chn o1 o2 a b c iha ihb ihc =>
    exact .test (by simp) (by simp) (by simp) (by simp) (by simp) rfl (fun Z cs X W g hN x h => by
      obtain ⟨l, r1, r2, p, rfl, h1, h2, h3, h4⟩ := chk_chn h
      exact pe_J_chn g h1 (iha.pe Z cs X W g hN l h2) (ihb.pe Z cs X W g hN r1 h3) (ihc.pe Z cs X W g hN r2 h4)) fun Z cs X W g hN x h => by
      obtain ⟨l, r1, r2, p, rfl, h1, h2, h3, h4⟩ := chk_chn h
      exact pt_J_chn g h1 (iha.pe Z cs X W g hN l h2) (ihb.pe Z cs X W g hN r1 h3) (ihc.pe Z cs X W g hN r2 h4)
  | chn3 o1 o2 o3 a b c d iha ihb ihc ihd =>
    exact .test (by simp) (by simp) (by simp) (by simp) (by simp) rfl (fun Z cs X W g hN x h => by
      obtain ⟨l, r1, r2, r3, p, rfl, h1, h2, h3, h4, h5⟩ := chk_chn3 h
      exact pe_J_chn3 g h1 (iha.pe Z cs X W g hN l h2) (ihb.pe Z cs X W g hN r1 h3) (ihc.pe Z cs X W g hN r2 h4) (ihd.pe Z cs X W g hN r3 h5)) fun Z cs X W g hN x h => by
      obtain ⟨l, r1, r2, r3, p, rfl, h1, h2, h3, h4, h5⟩ := chk_chn3 h
      exact pt_J_chn3 g h1 (iha.pe Z cs X W g hN l h2) (ihb.pe Z cs X W g hN r1 h3) (ihc.pe Z cs X W g hN r2 h4) (ihd.pe Z cs X W g hN r3 h5)
  | isn a iha =>
    exact .test (by simp) (by simp) (by simp) (by simp) (by simp) rfl (fun Z cs X W g hN x h => by
      obtain ⟨l, k, p, p2, rfl, h1⟩ := chk_isn h
      exact pe_J_isn g (iha.pe Z cs X W g hN l h1)) fun Z cs X W g hN x h => by
      obtain ⟨l, k, p, p2, rfl, h1⟩ := chk_isn h
      exact pt_J_isn g (iha.pe Z cs X W g hN l h1)
  | isnn a iha =>
    exact .test (by simp) (by simp) (by simp) (by simp) (by simp) rfl (fun Z cs X W g hN x h => by
      obtain ⟨l, k, p, p2, rfl, h1⟩ := chk_isnn h
      exact pe_J_isnn g (iha.pe Z cs X W g hN l h1)) fun Z cs X W g hN x h => by
      obtain ⟨l, k, p, p2, rfl, h1⟩ := chk_isnn h
      exact pt_J_isnn g (iha.pe Z cs X W g hN l h1)
  | ite c a b ihc iha ihb =>
    exact .test (by simp) (by simp) (by simp) (by simp) (by simp) rfl (fun Z cs X W g hN x h => by
      obtain ⟨l, m, r, p, rfl, h1, h2, h3⟩ := chk_ite h
      exact pe_J_ite g (ihc.pt Z cs X W g hN l h1) (iha.pe Z cs X W g hN m h2) (ihb.pe Z cs X W g hN r h3)) fun Z cs X W g hN x h => by
      obtain ⟨l, m, r, p, rfl, h1, h2, h3⟩ := chk_ite h
      exact pt_J_ite g (ihc.pt Z cs X W g hN l h1) (iha.pt Z cs X W g hN m h2) (ihb.pt Z cs X W g hN r h3)
  | tup a iha =>
    exact .leaf (by simp) (by simp) (by simp) (by simp) (by simp) rfl (fun cs x h => by obtain ⟨es, k, p, rfl, _⟩ := chk_tup h; rfl) fun Z cs X W g hN x h => by
      obtain ⟨es, k, p, rfl, h1⟩ := chk_tup h
      exact pe_J_tup g (iha.pa Z cs X W g hN es h1)
  | nil =>
    exact ⟨fun Z cs X W g hN x h => (by simp [chkE] at h), fun h => (nomatch h), fun Z cs X W g hN x h => (by simp [chkE] at h), fun Z cs X W g hN op es pos h => (by simp [chkE] at h), fun Z cs X W g hN es h => (by
      cases es with
      | nil => exact pa_J_nil
      | cons _ _ => simp [chkA] at h), fun a r e => by cases e⟩
  | cons a r iha ihr =>
    exact ⟨fun Z cs X W g hN x h => (by simp [chkE] at h), fun h => (nomatch h), fun Z cs X W g hN x h => (by simp [chkE] at h), fun Z cs X W g hN op es pos h => (by simp [chkE] at h), fun Z cs X W g hN es h => (by
      cases es with
      | nil => simp [chkA] at h
      | cons x es =>
        simp only [chkA, Bool.and_eq_true, Bool.not_eq_true'] at h
        exact pa_J_cons h.1.2 (iha.pe Z cs X W g hN x h.1.1) (ihr.pa Z cs X W g hN es h.2)), fun a' r' e => by cases e; exact iha.pe⟩
  | idx a i iha ihi =>
    exact .leaf (by simp) (by simp) (by simp) (by simp) (by simp) rfl (fun cs x h => by obtain ⟨l, r, p, rfl, _⟩ := chk_idx h; rfl) fun Z cs X W g hN x h => by
      obtain ⟨l, r, p, rfl, h1, h2⟩ := chk_idx h
      exact pe_J_idx g (plain_ix h2) (iha.pe Z cs X W g hN l h1) (ihi.pe Z cs X W g hN r h2)
  | slc a bl lo bh hi iha ihl ihh =>
    exact .leaf (by simp) (by simp) (by simp) (by simp) (by simp) rfl (fun cs x h => by obtain ⟨l, u, v, p, p2, rfl, _⟩ := chk_slc h; rfl) fun Z cs X W g hN x h => by
      obtain ⟨l, u, v, p, p2, rfl, h1, h2, h3⟩ := chk_slc h
      exact pe_J_slc g (iha.pe Z cs X W g hN l h1) (po_of g hN ihl h2) (po_of g hN ihh h3)
  | rev a iha =>
    exact .leaf (by simp) (by simp) (by simp) (by simp) (by simp) rfl (fun cs x h => by obtain ⟨l, k, p1, p2, p3, p, rfl, _⟩ := chk_rev h; rfl) fun Z cs X W g hN x h => by
      obtain ⟨l, k, p1, p2, p3, p, rfl, h1⟩ := chk_rev h
      exact pe_J_rev g (iha.pe Z cs X W g hN l h1)
  | lrg1 t a iha =>
    cases t with
    | true =>
      exact .leaf (by simp) (by simp) (by simp) (by simp) (by simp) rfl (fun cs x h => by obtain ⟨n, m, e, p, p1, p2, p3, rfl, _⟩ := chk_lrg1 h; rfl) fun Z cs X W g hN x h => by
        obtain ⟨n, m, e, p, p1, p2, p3, rfl, h1, h2, h3, h4⟩ := chk_lrg1 h
        exact pe_J_lrgT1 g h1 h2 h4 (iha.pe Z cs X W g hN e h3)
    | false =>
      exact .list (by simp) (by simp) (by simp) (by simp) (by simp) (fun cs x h => plain_F rfl h) (fun env S d S1 h => lrg1_lst rfl h) fun Z cs X W g hN x h => by
        obtain ⟨n, m, e, p, p1, p2, p3, rfl, h1, h2, h3, h4⟩ := chk_lrg1 h
        exact pe_J_lrgL1 g h1 h2 h4 (iha.pe Z cs X W g hN e h3)
  | lrg2 t a b iha ihb =>
    cases t with
    | true =>
      exact .leaf (by simp) (by simp) (by simp) (by simp) (by simp) rfl (fun cs x h => by obtain ⟨n, m, e, f, p, p1, p2, p3, rfl, _⟩ := chk_lrg2 h; rfl) fun Z cs X W g hN x h => by
        obtain ⟨n, m, e, f, p, p1, p2, p3, rfl, h1, h2, h3, h4, h5, h6⟩ := chk_lrg2 h
        exact pe_J_lrgT2 g h1 h2 h4 h6 (iha.pe Z cs X W g hN e h3) (ihb.pe Z cs X W g hN f h5)
    | false =>
      exact .list (by simp) (by simp) (by simp) (by simp) (by simp) (fun cs x h => plain_F rfl h) (fun env S d S1 h => lrg2_lst rfl h) fun Z cs X W g hN x h => by
        obtain ⟨n, m, e, f, p, p1, p2, p3, rfl, h1, h2, h3, h4, h5, h6⟩ := chk_lrg2 h
        exact pe_J_lrgL2 g h1 h2 h4 h6 (iha.pe Z cs X W g hN e h3) (ihb.pe Z cs X W g hN f h5)
  | call f keep as ih =>
    exact .leaf (by simp) (by simp) (by simp) (by simp) (by simp) rfl (fun cs x h => by obtain ⟨fn, y, es, p, p1, rfl, _⟩ := chk_call h; rfl) fun Z cs X W g hN x h => by
      obtain ⟨fn, y, es, p, p1, rfl, h1, h2, h3, h4, h5⟩ := chk_call h
      exact pe_J_call g h1 h2 h3 h4 (starA h5) (ih.pa Z cs X W g hN _ h5) (tA_len h5)
  | callv ars f keep as _ ih =>
    exact .leaf (by simp) (by simp) (by simp) (by simp) (by simp) rfl (fun cs x h => by obtain ⟨n, y, es, p, p1, rfl, _⟩ := chk_callv h; rfl) fun Z cs X W g hN x h => by
      obtain ⟨n, y, es, p, p1, rfl, h1, h2, h3⟩ := chk_callv h
      subst hN
      exact pe_J_callv g h1 h2 (chkA_lenA h3) (starA h3) (ih.pa Z cs X W g rfl _ h3) (tA_len h3)
  | prim pr as ih =>
    exact .leaf (by simp) (by simp) (by simp) (by simp) (by simp) rfl (fun cs x h => by obtain ⟨n, y, es, p, p1, rfl, _⟩ := chk_prim h; rfl) fun Z cs X W g hN x h => by
      obtain ⟨n, y, es, p, p1, rfl, h1, h2, h3⟩ := chk_prim h
      exact pe_J_prim g h1 h2 (starA h3) (ih.pa Z cs X W g hN _ h3)
  | isi a t iha =>
    exact .leaf (by simp) (by simp) (by simp) (by simp) (by simp) rfl (fun cs x h => by obtain ⟨n, m, e, p, p1, p2, rfl, _⟩ := chk_isi h; rfl) fun Z cs X W g hN x h => by
      obtain ⟨n, m, e, p, p1, p2, rfl, h1, h2, h3, h4, h5⟩ := chk_isi h
      exact pe_J_isi g h1 h2 h3 h4 (iha.pe Z cs X W g hN e h5)
  | disp as ih =>
    exact .list (by simp) (by simp) (by simp) (by simp) (by simp) (fun cs x h => plain_F rfl h) (fun env S d S1 h => disp_lst h) fun Z cs X W g hN x h => by
      obtain ⟨es, p, rfl, h1⟩ := chk_disp h
      exact pe_J_disp (ih.pa Z cs X W g hN es h1)
  | plist a ih =>
    exact .list (by simp) (by simp) (by simp) (by simp) (by simp) (fun cs x h => plain_F rfl h) (fun env S d S1 h => plist_lst h) fun Z cs X W g hN x h => by
      obtain ⟨n, e, p, p1, rfl, h1, h2, h3⟩ := chk_plist h
      exact pe_J_plist g h1 h2 (ih.pe Z cs X W g hN e h3)
  | comp tg k as c elt own iht iha ihc ihe =>
    exact .list (by simp) (by simp) (by simp) (by simp) (by simp) (fun cs x h => plain_F rfl h) (fun env S d S1 h => comp_lst h) fun Z cs X W g hN x h => by
      subst hN
      obtain ⟨el, t, it, ifs, scope, p, rfl, h1, h2, h3, h4, h5, h6, h7, h8⟩ := chk_comp h
      refine pe_J_comp g (pi_of g rfl iha h1) h2 h3 h4 h5 h6 (fun hh Z' X' g' hN' => ?_) fun hh Z' X' g' hN' => ihe.pe Z' _ X' never g' hN' el h8
      rcases h7 with ⟨rfl, rfl⟩ | ⟨e, rfl, h7⟩
      · refine ⟨fun pins s σ H Q I ⟨env, S, ι, hE, hS, hq⟩ => pts_nil.run pins s σ H Q I ?_⟩
        obtain ⟨b, e, q⟩ := Pst.ret (d := .bl true) hS hq (.bl true) H .refl .bl
        cases e
        exact q
      · exact pts_one (ihc.pt Z' _ X' never g' hN' e h7)
  | «mut» e ih =>
    have pe : ∀ Z cs X W, Good Z T G cs X W → X.N = N → ∀ x, chkE T N (.mut e) cs x = true → PE X x (tE Z W (ev G (.mut e))) := fun Z cs X W g hN x h => by
      obtain ⟨h1, h2⟩ := chk_mut h
      rw [mut_eq]
      exact pe_J_mut (ih.pf h1 Z cs X W g hN x h2)
    exact ⟨pe, fun h => (nomatch h), fun Z cs X W g hN x h => pt_of_pe g (plain_F (chk_mut h).1 (chk_mut h).2) (pe Z cs X W g hN x h), fun Z cs X W g hN op es pos h => (by
      have := plain_F (chk_mut h).1 (chk_mut h).2
      cases this), fun Z cs X W g hN es h => (by rw [noA (by simp) (by simp)] at h; cases h), fun a r e => by cases e⟩
  | ddisp as ih =>
    exact .leaf (by simp) (by simp) (by simp) (by simp) (by simp) rfl (fun cs x h => by obtain ⟨p, rfl⟩ := chk_dnew h; rfl) fun Z cs X W g hN x h => by
      obtain ⟨p, rfl⟩ := chk_dnew h
      exact pe_J_dnew
  | dcomp tg k as c kx vx own iht iha ihc ihk ihv =>
    exact .leaf (by simp) (by simp) (by simp) (by simp) (by simp) rfl (fun cs x h => by obtain ⟨_, _, _, _, _, _, _, rfl, _⟩ := chk_dcomp h; rfl) fun Z cs X W g hN x h => by
      subst hN
      obtain ⟨ka, va, t, it, ifs, scope, p, rfl, h1, h2, h3, h4, h5, h6, h7, h8, h9⟩ := chk_dcomp h
      refine pe_J_dcomp g (pi_of g rfl iha h1) h2 h3 h4 h5 h6 (fun hh Z' X' g' hN' => ?_) (fun hh Z' X' g' hN' => ihk.pe Z' _ X' never g' hN' ka h8) fun hh Z' X' g' hN' => ihv.pe Z' _ X' never g' hN' va h9
      rcases h7 with ⟨rfl, rfl⟩ | ⟨e, rfl, h7⟩
      · refine ⟨fun pins s σ H Q I ⟨env, S, ι, hE, hS, hq⟩ => pts_nil.run pins s σ H Q I ?_⟩
        obtain ⟨b, e, q⟩ := Pst.ret (d := .bl true) hS hq (.bl true) H .refl .bl
        cases e
        exact q
      · exact pts_one (ihc.pt Z' _ X' never g' hN' e h7)
  | attr a y iha =>
    exact .leaf (by simp) (by simp) (by simp) (by simp) (by simp) rfl (fun cs x h => by obtain ⟨e, p, rfl, _⟩ := chk_attr h; rfl) fun Z cs X W g hN x h => by
      obtain ⟨e, p, rfl, rfl, h1, h2⟩ := chk_attr h
      exact pe_J_attr g h1 (iha.pe Z cs X W g hN e h2)
  | isx a t iha =>
    exact .leaf (by simp) (by simp) (by simp) (by simp) (by simp) rfl (fun cs x h => by obtain ⟨n, m, e, p, p1, p2, rfl, _⟩ := chk_isx h; rfl) fun Z cs X W g hN x h => by
      obtain ⟨n, m, e, p, p1, p2, rfl, h1, h2, h3, h4⟩ := chk_isx h
      exact pe_J_isx g h1 h2 h3 (iha.pe Z cs X W g hN e h4)
  | dictp a iha =>
    exact .leaf (by simp) (by simp) (by simp) (by simp) (by simp) rfl (fun cs x h => by obtain ⟨n, e, p, p1, rfl, _⟩ := chk_dictp h; rfl) fun Z cs X W g hN x h => by
      obtain ⟨n, e, p, p1, rfl, h1, h2, h3⟩ := chk_dictp h
      exact pe_J_dictp g h1 h2 (iha.pe Z cs X W g hN e h3)
  | dgt a b c iha ihb ihc =>
    exact .leaf (by simp) (by simp) (by simp) (by simp) (by simp) rfl (fun cs x h => by obtain ⟨e, ap, v, w, p, rfl, _⟩ := chk_dgt h; rfl) fun Z cs X W g hN x h => by
      obtain ⟨e, ap, v, w, p, rfl, h1, h2, h3, h4, h5, h6, h7⟩ := chk_dgt h
      exact pe_J_dgt g h1 h2 h6 h7 (iha.pe Z cs X W g hN e h3) (ihb.pe Z cs X W g hN v h4) (ihc.pe Z cs X W g hN w h5)
  | meth m a b iha ihb =>
    exact .leaf (by simp) (by simp) (by simp) (by simp) (by simp) rfl (fun cs x h => by obtain ⟨e, ap, v, p, rfl, _⟩ := chk_meth h; rfl) fun Z cs X W g hN x h => by
      obtain ⟨e, ap, v, p, rfl, h1, h2, h3, h4, h5⟩ := chk_meth h
      exact pe_J_meth g h1 h2 h5 (iha.pe Z cs X W g hN e h3) (ihb.pe Z cs X W g hN v h4)
end
end J
/-! J8: statements -/
namespace J
open PySem L2
/-- what an execution's end means -/
def PstS (Z : Sit) (W : WX) (H : Hp) (ι : List Addr) (D : Ends) : P → Prop
  | none => False
  | some (.nx env, S) => ∀ σ' H' ι', Grow H ι H' ι' → RelS Z H' ι' S → RelE Z H' ι' env σ' → D.nx σ' H'
  | some (.bk env, S) => ∀ σ' H' ι', Grow H ι H' ι' → RelS Z H' ι' S → RelE Z H' ι' env σ' → D.bk σ' H'
  | some (.ct env, S) => ∀ σ' H' ι', Grow H ι H' ι' → RelS Z H' ι' S → RelE Z H' ι' env σ' → D.ct σ' H'
  | some (.rt d, S) => ∀ v H' ι', Grow H ι H' ι' → RelS Z H' ι' S → RelD Z H' ι' d v → D.rt v H'
  | some (.ex c d env, S) => ∀ σ' v H' ι' dd, Grow H ι H' ι' → RelS Z H' ι' S → RelE Z H' ι' env σ' → H' dd = some (.xd [(Z.at_ c, v)]) → RelD Z H' ι' d v → W (.ref (Z.ca c)) (some dd) σ' H'
def tS (Z : Sit) (W : WX) (m : Env → Store → P) : TS := fun D σ H => ∃ env S ι, RelE Z H ι env σ ∧ RelS Z H ι S ∧ PstS Z W H ι D (m env S)
section
variable {Z : Sit} {W : WX} {σ : L2.St} {H H' : Hp} {ι ι' : List Addr} {D : Ends} {S : Store} {env : Env} {X : Cx} {st : Stmt}
theorem psImp {t t' : TS} (h : PS X st t) (f : ∀ D σ H, t' D σ H → t D σ H) : PS X st t' := ⟨fun pins s σ H D I q => h.run pins s σ H D I (f D σ H q)⟩
theorem pssImp {sts : List Stmt} {t t' : TS} (h : PSs X sts t) (f : ∀ D σ H, t' D σ H → t D σ H) : PSs X sts t' := ⟨fun pins s σ H D I q => h.run pins s σ H D I (f D σ H q)⟩
theorem PstS.mono (g : Grow H ι H' ι') : ∀ {r : P}, PstS Z W H ι D r → PstS Z W H' ι' D r
  | none, h => h
  | some (.nx _, _), h => fun σ' H2 ι2 k s r => h σ' H2 ι2 (g.trans k) s r
  | some (.bk _, _), h => fun σ' H2 ι2 k s r => h σ' H2 ι2 (g.trans k) s r
  | some (.ct _, _), h => fun σ' H2 ι2 k s r => h σ' H2 ι2 (g.trans k) s r
  | some (.rt _, _), h => fun v H2 ι2 k s r => h v H2 ι2 (g.trans k) s r
  | some (.ex _ _ _, _), h => fun σ' v H2 ι2 dd k s r e q => h σ' v H2 ι2 dd (g.trans k) s r e q
/-- an expression, then f -/
theorem tSE {m : M _root_.J.D} {f : _root_.J.D → Store → P} (hE : RelE Z H ι env σ) (h : PstS Z W H ι D (withE m env S f)) :
    Pst Z W σ H ι (fun d S1 v H1 ι1 => Grow H ι H1 ι1 ∧ RelE Z H1 ι1 env σ ∧ RelS Z H1 ι1 S1 ∧ RelD Z H1 ι1 d v ∧ PstS Z W H1 ι1 D (f d S1)) (m S) := by
  unfold withE at h
  cases e : m S with
  | none => rw [e] at h; exact h
  | some r =>
    rw [e] at h
    cases r with
    | exn c d S1 => exact fun v H1 ι1 dd g s e r => h σ v H1 ι1 dd g s (hE.mono g) e r
    | ok d S1 => exact fun v H1 ι1 g s r => ⟨g, hE.mono g, s, r, h.mono g⟩
theorem tSA {m : M _root_.J.D} {f : List _root_.J.D → Store → P} (hE : RelE Z H ι env σ) (h : PstS Z W H ι D (withE m env S fun a S1 => match tups a with
    | some ds => f ds S1
    | none => none)) : PstA Z W σ H ι (fun ds S1 vs H1 ι1 => Grow H ι H1 ι1 ∧ RelE Z H1 ι1 env σ ∧ RelS Z H1 ι1 S1 ∧ RelDs Z H1 ι1 ds vs ∧ PstS Z W H1 ι1 D (f ds S1)) (m S) := by
  unfold withE at h
  cases e : m S with
  | none => rw [e] at h; exact h
  | some r =>
    rw [e] at h
    cases r with
    | exn c d S1 => exact fun v H1 ι1 dd g s e r => h σ v H1 ι1 dd g s (hE.mono g) e r
    | ok d S1 =>
      intro ds hd vs H1 ι1 g s r
      simp only [hd] at h
      exact ⟨g, hE.mono g, s, r, h.mono g⟩
/-- op= of ints -/
def ipJ (op : BO) : TIp := fun x y H Q => ∃ i j k, x = .int i ∧ y = .int j ∧ binD op (.int i) (.int j) = some (.int k) ∧ Q (.int k) H
theorem ip_J (op : BO) : PIp X (toOp op) (ipJ op) := by
  intro pins s σ H x y v u Q I rx ry hh
  obtain ⟨i, j, k, e1, e2, e, q⟩ := hh
  subst e1 e2
  cases op <;> simp only [binD] at e
  · cases e; exact iop_add pins s σ H _ _ v u Q I rx ry ⟨_, _, rfl, rfl, q⟩
  · cases e; exact iop_sub pins s σ H _ _ v u Q I rx ry ⟨_, _, rfl, rfl, q⟩
  · split at e
    · rename_i hl
      cases e
      have : OpR X (inplaceOp .Mult) (rI IntMulOk fun i j => .int (i * j)) := opI fun _ _ _ _ _ _ _ hc q => PyProof.Rows.imul_int q hc
      exact this pins s σ H _ _ v u Q I rx ry ⟨_, _, rfl, rfl, hl, q⟩
    · cases e
  · split at e
    · rename_i hl
      cases e
      have : OpR X (inplaceOp .FloorDiv) (rI divOk fun i j => .int (i.fdiv j)) := opI fun _ _ _ _ _ _ _ hc q => PyProof.Rows.ifloordiv_int hc.1 q (.inl hc.2)
      exact this pins s σ H _ _ v u Q I rx ry ⟨_, _, rfl, rfl, hl, q⟩
    · cases e
  · split at e
    · rename_i hl
      cases e
      have : OpR X (inplaceOp .Mod) (rI (fun _ j => j ≠ 0) fun i j => .int (i.fmod j)) := opI fun _ _ _ _ _ _ _ hc q => PyProof.Rows.imod_int hc q
      exact this pins s σ H _ _ v u Q I rx ry ⟨_, _, rfl, rfl, hl, q⟩
    · cases e
  · split at e
    · rename_i hl
      cases e
      have : OpR X (inplaceOp .Pow) (rI CPow fun i j => .int (i ^ j.toNat)) := opI fun _ _ _ _ _ _ _ hc q => PyProof.Rows.ipow_int_small hc.1 hc.2.1 hc.2.2 q
      exact this pins s σ H _ _ v u Q I rx ry ⟨_, _, rfl, rfl, hl, q⟩
    · cases e
  · split at e
    · rename_i hl
      cases e
      exact iop_shl pins s σ H _ _ v u Q I rx ry ⟨_, _, rfl, rfl, hl, q⟩
    · cases e
  · split at e
    · rename_i hl
      cases e
      exact iop_shr pins s σ H _ _ v u Q I rx ry ⟨_, _, rfl, rfl, hl, q⟩
    · cases e
  · cases e; exact iop_and pins s σ H _ _ v u Q I rx ry ⟨_, _, rfl, rfl, q⟩
  · cases e; exact iop_or pins s σ H _ _ v u Q I rx ry ⟨_, _, rfl, rfl, q⟩
theorem bin_int {op : BO} {i j : Int} {d : _root_.J.D} (h : binD op (.int i) (.int j) = some d) : ∃ k, d = .int k := by
  cases op <;> simp only [binD] at h <;> first
    | (cases h; exact ⟨_, rfl⟩)
    | (split at h <;> first
        | (cases h; exact ⟨_, rfl⟩)
        | cases h)
/-- o[i] = v -/
def rSet (Z : Sit) : TSet := fun o i v H Q => ∃ do_ di dv S ι S', RelS Z H ι S ∧ RelD Z H ι do_ o ∧ RelD Z H ι di i ∧ RelD Z H ι dv v ∧ setS do_ di dv S = some S' ∧ ∀ H', Grow H ι H' ι → RelS Z H' ι S' → Q H'
theorem set_J (hu : X.A.units + 1 < cLine) : PSet X (rSet Z) := by
  intro pins s σ H o i v ov iv u Q I ro ri rv hh
  obtain ⟨do_, di, dv, S, ι, S', hS, r1, r2, r3, e, q⟩ := hh
  unfold setS at e
  cases do_ <;> first
    | (cases e; done)
    | skip
  rename_i l
  simp only at e
  cases hl : S[l]? with
  | none => simp [hl] at e
  | some c =>
    cases c with
    | obj c fs => simp [hl] at e
    | lst ds =>
      cases di <;> first
        | (simp [hl] at e; done)
        | skip
      rename_i k
      simp only [hl] at e
      cases hk : ixN ds.length k with
      | none => simp [hk] at e
      | some j =>
        simp only [hk, Option.some.injEq] at e
        subst e
        obtain ⟨a, vs, rfl, ha, rr, hι⟩ := lst_at hS r1 hl
        cases r2
        refine set_list pins s σ H _ _ v ov iv u Q I ro ri rv ⟨a, vs, k, j, rfl, rfl, ha, by rw [← rr.length]; exact hk, ?_⟩
        exact q _ (Grow.chg (List.mem_of_getElem? hι) (by rw [ha]; trivial)) (hS.chg hι (.lst (RelDs.set r3 _ rr)))
    | dct kvs =>
      have e : (if isKey di ∧ kvs.length < 1000000 then match dput di dv kvs with
        | some kvs' => some (S.set l (.dct kvs'))
        | none => none
        else none) = some S' := by
        rw [hl] at e
        cases di <;> exact e
      split at e
      · rename_i hk
        cases hp : dput di dv kvs with
        | none => simp [hp] at e
        | some kvs' =>
          simp only [hp, Option.some.injEq] at e
          subst e
          obtain ⟨a, kws, rfl, ha, rr, hι⟩ := dct_at hS r1 hl
          obtain ⟨p1, p2⟩ := dput_ok rr r3 hp
          have hlen : kws.length < sizeLine := by rw [← rr.length]; exact big_line hk.2
          obtain rfl : ov = Value.ref a := ro
          have fin : ∀ key, i = kV key → RelK Z H ι kvs' (putK kws key v) → wpAny (model X.prog X.w) X.A (setItem (.ref a) iv u) (fun _ s' => ∃ H', L2.Inv X pins σ H' s' ∧ Q H') X.xe s := fun key ek rk => by
            refine d_setItem hu I (.inl ⟨kws, key, ha, ek, hlen, rfl⟩) ri rv fun s' I' => ⟨_, I', ?_⟩
            exact q _ (Grow.chg (List.mem_of_getElem? hι) (by rw [ha]; trivial)) (hS.chg hι (.dct rk))
          cases r2 <;> first
            | (cases hk.1; done)
            | exact fin (.inl _) rfl (p1 _ rfl)
            | exact fin (.inr _) rfl (p2 _ rfl)
      · cases e
end
end J
/-! J9: statements, the check and what it gives -/
namespace J
open PySem L2

/-! ### the check -/
/-- a comprehension's value goes to a name by a swap -/
def swapF (sc : Scope) (scope : Scope) (y : Str) (py pos : Pos) : Bool :=
  sc.names.lookup y == some .local && py.line == pos.line && !(scope.names.any fun (n, k) => n == y && (k == .local || k == .cell))
/-- a, b = x, y: the names if they are stored from the right; none: not served -/
def parK (sc : Scope) (ts vs : List Expr) : Option (Option (List Str)) :=
  if (!(ts.length == 2 || ts.length == 3) || vs.length != ts.length) = true then some none
  else if (vs.any fun | .Starred .. => true | _ => false) = true then some none
  else
    let line := (ts.head?.map (·.pos.line)).getD 0
    let names := ts.filterMap fun
      | .Name id pos => if (sc.names.lookup id == some .local && pos.line == line) = true then some id else none
      | _ => none
    if (names.length != ts.length || names.eraseDups.length != names.length) = true then some none
    else if (vs.all (foldedForSure 8)) = true then some none
    else if (vs.all (constantsAlone 8)) = true then none
    else some (some names)
def isLocal (sc : Scope) (x : Str) : Bool := sc.names.lookup x == some .local
section
variable (T : Tab) (N : List Str)
def parB (cs : CS) : E → E → List Expr → List Expr → Bool
  | .tup (.cons (.var i) (.cons (.var j) .nil)), .tup as, [.Name x _, .Name y _], [v, w] => decide (N[i]? = some x) && decide (N[j]? = some y) && decide (i ≠ j) && isLocal cs.sc x && isLocal cs.sc y && chkA T N as cs [v, w]
  | .tup (.cons (.var i) (.cons (.var j) (.cons (.var k) .nil))), .tup as, [.Name x _, .Name y _, .Name z _], [v, w, u] =>
    decide (N[i]? = some x) && decide (N[j]? = some y) && decide (N[k]? = some z) && decide (i ≠ j) && decide (i ≠ k) && decide (j ≠ k) && isLocal cs.sc x && isLocal cs.sc y && isLocal cs.sc z && chkA T N as cs [v, w, u]
  | _, _, _, _ => false
def isTupE : Expr → Bool
  | .Tuple _ _ _ => true
  | .List _ _ => true
  | _ => false
def noComp : Expr → Bool
  | .ListComp _ _ _ _ => false
  | .DictComp _ _ _ _ _ => false
  | _ => true
/-- target = value -/
def setK (cs : CS) (tg e : E) (t v : Expr) : Bool := match t, v with
  | .Name y py, .ListComp el gs scope pos => if swapF cs.sc scope y py pos = true then (match tg with
      | .var i => decide (N[i]? = some y)
      | _ => false) && chkE T N e cs (.ListComp el gs scope pos)
    else chkT N cs tg (.Name y py) && chkE T N e cs (.ListComp el gs scope pos)
  | .Name y py, v => chkT N cs tg (.Name y py) && chkE T N e cs v && noComp v
  | .Tuple ts k p, .Tuple vs k2 p2 => (match parK cs.sc ts vs with
    | some (some ns) => decide (ts.filterMap (fun | .Name id _ => some id | _ => none) = ns) && parB T N cs tg e ts vs
    | some none => chkT N cs tg (.Tuple ts k p) && chkE T N e cs (.Tuple vs k2 p2)
    | none => false)
  | .Tuple ts k p, v => chkT N cs tg (.Tuple ts k p) && chkE T N e cs v && !isTupE v
  | _, _ => false
def setL (cs : CS) (tg e : E) (ts : List Expr) (v : Expr) : Bool := match ts with
  | [t] => setK T N cs tg e t v
  | _ => false
def setiL (cs : CS) (o i e : E) (ts : List Expr) (v : Expr) : Bool := match ts with
  | [.Subscript a b _] => chkE T N o cs a && chkE T N i cs b && chkE T N e cs v
  | _ => false
def raiseL (c : Nat) (e : E) (cs : CS) (a b : Option Expr) : Bool := match a, b with
  | some (.Call (.Name nm _) [v] [] _), none => excB T c nm && globB cs.sc nm && noName nm && chkE T N e cs v && !starB v
  | _, _ => false
/-- except base as n: suite -/
def hdB (cs : CS) (k i : Nat) (f : List Stmt → Bool) (hs : List ExceptHandler) : Bool := match hs with
  | [.ExceptHandler (some (.Name x _)) (some n) suite _] => decide (x = T.base) && globB cs.sc x && noName x && decide (N[i]? = some n) && isLocal cs.sc n && decide (k = T.excs.length) && decide (T.excs ≠ []) && !suite.isEmpty && f suite
  | _ => false
mutual
def chkS : C → CS → Stmt → Bool
  | .set tg e, cs, .Assign ts v _ => setL T N cs tg e ts v
  | .seti o i e, cs, .Assign ts v _ => setiL T N cs o i e ts v
  | .aug op i e, cs, .AugAssign (.Name x _) o v _ => decide (N[i]? = some x) && locB cs x && opB o (toOp op) && chkE T N e cs v
  | .augi op o i e, cs, .AugAssign (.Subscript a b _) p v _ => opB p (toOp op) && chkE T N o cs a && chkE T N i cs b && chkE T N e cs v
  | .exp e, cs, .Expr v _ => chkE T N e cs v && noComp v
  | .app o e, cs, .Expr (.Call (.Attribute a m ap) [v] [] cp) _ => decide (m = ("append" : Str)) && plainO a && (ap.endLine == cp.line) && chkE T N o cs a && chkE T N e cs v && !starB v
  | .ext o e, cs, .Expr (.Call (.Attribute a m ap) [v] [] cp) _ => decide (m = ("extend" : Str)) && plainO a && (ap.endLine == cp.line) && chkE T N o cs a && chkE T N e cs v && !starB v
  | .ifs c a b, cs, .If t p q _ => chkE T N c cs t && chkB a cs p && chkB b cs q
  | .forr tg k as b, cs, .For t it body [] _ => chkI T N k as cs t it && !setB it && chkT N cs tg t && chkB b cs body
  | .whl c b, cs, .While t body [] _ => chkE T N c cs t && chkB b cs body
  | .ret e, cs, .Return (some v) _ => chkE T N e cs v
  | .retn, _, .Return none _ => true
  | .pass, _, .Pass _ => true
  | .brk, _, .Break _ => true
  | .cont, _, .Continue _ => true
  | .tryn b, cs, .Try body (_ :: _) [] [] _ => chkB b cs body
  | .tryx b k i h, cs, .Try body hs [] [] _ => chkB b cs body && hdB T N cs k i (chkB h cs) hs
  | .raise c e, cs, .Raise a b _ => raiseL T N c e cs a b
  | .dead, _, _ => true
  | _, _, _ => false
def chkB : C → CS → List Stmt → Bool
  | .nil, _, [] => true
  | .seq s r, cs, st :: sts => chkS s cs st && chkB r cs sts
  | _, _, _ => false
end
end

theorem raiseL_inv {T : Tab} {N : List Str} {c : Nat} {e : E} {cs : CS} {a b : Option Expr} (h : raiseL T N c e cs a b = true) :
    ∃ nm p v pos tx, a = some (.Call (.Name nm p) [v] [] pos) ∧ b = none ∧ T.excs[c]? = some (nm, tx) ∧ globB cs.sc nm = true ∧ noName nm = true ∧ chkE T N e cs v = true ∧ starB v = false := by
  unfold raiseL at h
  split at h
  · rename_i nm p v pos
    simp only [Bool.and_eq_true, Bool.not_eq_true'] at h
    obtain ⟨⟨⟨⟨h0, h1⟩, h2⟩, h3⟩, h4⟩ := h
    unfold excB at h0
    split at h0
    · rename_i n tx hx
      obtain rfl := of_decide_eq_true h0
      exact ⟨_, _, _, _, tx, rfl, rfl, hx, h1, h2, h3, h4⟩
    · cases h0
  · cases h
theorem hdB_inv {T : Tab} {N : List Str} {cs : CS} {k i : Nat} {f : List Stmt → Bool} {hs : List ExceptHandler} (h : hdB T N cs k i f hs = true) :
    ∃ x np n b0 suite pos', hs = [.ExceptHandler (some (.Name x np)) (some n) (b0 :: suite) pos'] ∧ x = T.base ∧ globB cs.sc x = true ∧ noName x = true ∧ N[i]? = some n ∧ isLocal cs.sc n = true ∧ k = T.excs.length ∧ T.excs ≠ [] ∧ f (b0 :: suite) = true := by
  unfold hdB at h
  split at h
  · rename_i x np n suite pos'
    simp only [Bool.and_eq_true, decide_eq_true_eq, Bool.not_eq_true'] at h
    obtain ⟨⟨⟨⟨⟨⟨⟨⟨h1, h2⟩, h3⟩, h4⟩, h5⟩, h6⟩, h6'⟩, h7⟩, h8⟩ := h
    cases suite with
    | nil => simp at h7
    | cons b0 suite => exact ⟨x, np, n, b0, suite, pos', rfl, h1, h2, h3, h4, h5, h6, h6', h8⟩
  · cases h
/-! ### the ground of statements -/
structure GoodS (Z : Sit) (T : Tab) (G Gh : Ctx) (cs : CS) (X : Cx) (W : WX) : Prop extends Good Z T G cs X W where
  kind : X.env.scope.kind = .function
  own : PassesOwn (model X.prog X.w) X.A X.env X.xe
  fo : cs.fo = none
  stk : X.stack = X.env :: X.outer
  frm : X.env.frame = some X.env.locals
  hots : G.hot = false → ∀ a c dd (oe : Obj) pn W' bad, (∃ p, T.excs[c]? = some p) → Zc (.ref (Z.ca c)) (some dd) oe → (∃ vs, oe.data = .fields vs) → Takes (X.suite a ((a, oe) :: pn)) W' → CallOk { Z with bad := bad, xq := some (a, c, dd) } T Gh (X.suite a ((a, oe) :: pn)) W'
section
variable {Z : Sit} {T : Tab} {G : Bool → Ctx} {hh : Bool} {cs : CS} {X : Cx} {W : WX}
theorem isLocal_of {sc : Scope} {x : Str} (h : isLocal sc x = true) : sc.names.lookup x = some .local := by
  unfold isLocal at h
  revert h
  cases sc.names.lookup x with
  | none => intro h; cases h
  | some k => intro h; cases k <;> first | rfl | (cases h; done)
theorem sw_eq {el : Expr} {gs : List Comprehension} {scope : Scope} {pos py : Pos} {y : Str} {l : Nat} {env : PySem.Env} (hk : env.scope.kind = .function) :
    swapsWith (.ListComp el gs scope pos) (some (.Name y py)) l env = pure (swapF env.scope scope y py pos) := by
  unfold swapsWith swapF Env.blockKind Env.kindOf
  rw [hk]
  rfl
theorem sw_no {v : Expr} {l : Nat} {env : PySem.Env} {e : E} {N : List Str} (h : chkE T N e cs v = true) (hc : noComp v = true) (t : Option Expr) : swapsWith v t l env = pure false := by
  cases v <;> first
    | rfl
    | (cases hc; done)
    | skip
  all_goals
    exfalso
    cases e <;> first
      | (simp only [chkE, Bool.false_eq_true] at h; done)
      | (obtain ⟨h1, h2⟩ := chk_mut h
         rename_i e
         cases e <;> first
           | (cases h1; done)
           | (simp only [chkE, Bool.false_eq_true] at h2; done))
theorem swapped_eq {ts vs : List Expr} {k k2 : Nat} {p p2 : Pos} {env : PySem.Env} {o : Option (List Str)} (hk : env.scope.kind = .function) (h : parK env.scope ts vs = some o) :
    swappedStores [.Tuple ts k p] (.Tuple vs k2 p2) env = pure o := by
  have hb : (env.blockKind != ScopeKind.function) = false := by
    unfold Env.blockKind
    rw [hk]
    rfl
  unfold parK at h
  unfold swappedStores
  simp only [hb, Bool.or_false]
  split at h
  · rename_i c
    cases h
    exact if_pos c
  · rename_i c
    refine (if_neg c).trans ?_
    split at h
    · rename_i c
      cases h
      exact if_pos c
    · rename_i c
      refine (if_neg c).trans ?_
      simp only at h
      split at h
      · rename_i c
        cases h
        exact if_pos c
      · rename_i c
        refine (if_neg c).trans ?_
        split at h
        · rename_i c
          cases h
          exact if_pos c
        · rename_i c
          refine (if_neg c).trans ?_
          split at h
          · cases h
          · rename_i c
            cases h
            exact if_neg c
theorem swapped_no {t v : Expr} {env : PySem.Env} (h : isTupE t = false ∨ isTupE v = false) : swappedStores [t] v env = pure none := by
  rcases h with h | h
  · cases t <;> first
      | rfl
      | (cases h; done)
  · cases v <;> first
      | (cases t <;> rfl)
      | (cases h; done)
end
end J
/-! J10: what each statement's text does -/
namespace J
open PySem L2
section
variable {Z : Sit} {T : Tab} {N : List Str} {G : Bool → Ctx} {hh : Bool} {cs : CS} {X : Cx} {W : WX}
theorem bindU_inv {tg : E} {d : _root_.J.D} {S : Store} {env env' : Env} {H : Hp} {ι : List Addr} {v : V} (hS : RelS Z H ι S) (r : RelD Z H ι d v) (h : bindU tg d S env = some env') : ∃ d', RelU (Z.add []) H ι tg d' v ∧ bindT tg d' env = some env' := by
  unfold bindU at h
  split at h
  · rename_i l
    split at h
    · rename_i es ds hl
      obtain ⟨a, vs, rfl, ha, rr, _⟩ := lst_at hS r hl
      exact ⟨.lst ds, .inr ⟨rfl, ds, a, vs, rfl, rfl, ha, rr⟩, h⟩
    · exact ⟨_, .inl r, h⟩
  · exact ⟨d, .inl r, h⟩
theorem set_imp {tg e : E} : ∀ D σ H, tS Z W (exec G (.set tg e) hh) D σ H → tE Z W (ev (G hh) e) σ H (fun x H1 => gJ Z tg x σ H1 D.nx) ∧ (hh = false ∨ isVar tg = true) := by
  intro D σ H ⟨env, S, ι, hE, hS, h⟩
  have h : PstS Z W H ι D (if (hh && !isVar tg) = true then none else withE (ev (G hh) e env) env S fun d S1 => match bindU tg d S1 env with
    | some env' => some (.nx env', S1)
    | none => none) := h
  by_cases c : (hh && !isVar tg) = true
  · rw [if_pos c] at h; exact h.elim
  · rw [if_neg c] at h
    refine ⟨⟨env, S, ι, hE, hS, (tSE hE h).imp fun d S1 v H1 ι1 _ _ _ q => ?_⟩, ?_⟩
    · obtain ⟨g1, hE1, hS1, r1, q⟩ := q
      cases hb : bindU tg d S1 env with
      | none => rw [hb] at q; exact q.elim
      | some env' =>
        rw [hb] at q
        obtain ⟨d', r2, hb2⟩ := bindU_inv (Z := Z) hS1 r1 hb
        exact ⟨[], env, d', ι1, env', hE1, r2, hb2, fun σ' hE' _ _ => q σ' H1 ι1 .refl hS1 hE'⟩
    · cases hh with
      | false => exact .inl rfl
      | true =>
        right
        cases hv : isVar tg with
        | true => rfl
        | false => rw [hv] at c; exact absurd rfl c
/-- a comprehension's list to a name -/
theorem gName_of {i : Nat} {x : V} {σ : L2.St} {H : Hp} {Q : L2.St → Hp → Prop} (h : gJ Z (.var i) x σ H Q) : gName i x σ H Q := by
  obtain ⟨bs, env, d, ι, env', hE, rd, hb, k⟩ := h
  have rd : RelD (Z.add bs) H ι d x := rd.elim id fun z => nomatch z.1
  simp only [bindT] at hb
  split at hb
  · cases hb
    refine k _ (hE.set rd) (by simp) fun j hj => ?_
    rw [List.getElem?_set_ne]
    intro e
    exact hj (by simp [varsT, e])
  · cases hb
theorem tE_imp {m : Env → M _root_.J.D} {σ : L2.St} {H : Hp} {Q Q' : VK} (h : tE Z W m σ H Q) (f : ∀ v H', Q v H' → Q' v H') : tE Z W m σ H Q' := by
  obtain ⟨env, S, ι, hE, hS, h⟩ := h
  exact ⟨env, S, ι, hE, hS, h.imp fun _ _ v H' _ _ _ _ q => f v H' q⟩
theorem tg_form {cs : CS} {tg : E} {t : Expr} (h : chkT N cs tg t = true) (env : PySem.Env) : (assignEach [t] env).map (·.2) = [assign t env] := by
  rw [assign_each [] env (chkT_form h)]
  rfl
theorem comp_set_imp {i : Nat} {e : E} (hl : isF e = true) : ∀ D σ H, tS Z W (exec G (.set (.var i) e) hh) D σ H → tF Z W (ev (G hh) e) σ H (fun x H1 => gName i x σ H1 D.nx) := fun D σ H q => by
  have q := tE_imp (set_imp D σ H q).1 fun v H' => gName_of
  refine F_of_E ?_ σ H _ q
  exact fun env S d S1 h => F_lst hl h
theorem comp_mut_imp {i : Nat} {e : E} : ∀ D σ H, tS Z W (exec G (.set (.var i) (.mut e)) hh) D σ H → tF Z W (ev (G hh) e) σ H (fun x H1 => gName i x σ H1 D.nx) := fun D σ H q => by
  have q := tE_imp (set_imp D σ H q).1 fun v H' => gName_of
  rw [mut_eq] at q
  exact F_of_mut σ H _ q
theorem beq_local {o : Option NameKind} (h : (o == some NameKind.local) = true) : o = some .local := by
  cases o with
  | none => cases h
  | some k => cases k <;> first | rfl | (cases h; done)
theorem ps_J_lc (g : GoodS Z T (G hh) (G true) cs X W) (hG : ∀ h, (G h).hot = h) {i : Nat} {e : E} {y : Str} {py pos spos : Pos} {el t it : Expr} {ifs : List Expr} {scope : Scope} {tg as c elt : E} {k : Ik} {own : List Nat} (hy : X.N[i]? = some y) (hs : swapF cs.sc scope y py pos = true)
    (hc : chkE T X.N (.comp tg k as c elt own) cs (.ListComp el [⟨t, it, ifs, 0⟩] scope pos) = true) (he : e = .comp tg k as c elt own ∨ e = .mut (.comp tg k as c elt own)) :
    PS X (.Assign [.Name y py] (.ListComp el [⟨t, it, ifs, 0⟩] scope pos) spos) (tS Z W (exec G (.set (.var i) e) hh)) := by
  cases hb : hh with
  | true =>
    refine ⟨fun pins s σ H D I q => ?_⟩
    have hot : (G true).hot = true := hG true
    obtain ⟨env, S, ι, hE, hS, h⟩ := q
    have h : PstS Z W H ι D (withE (ev (G true) e env) env S fun d S1 => match bindU (.var i) d S1 env with
      | some env' => some (.nx env', S1)
      | none => none) := h
    have e0 : ev (G true) e env S = none := by
      rcases he with rfl | rfl
      · simp only [ev, hot, if_true]; rfl
      · simp only [ev, hot, if_true]; rfl
    unfold withE at h
    rw [e0] at h
    exact h.elim
  | false =>
    subst hb
    have hot : (G false).hot = false := hG false
    obtain ⟨el', t', it', ifs', scope', p', e1, h1, h2, h3, h4, h5, h6, h7, h8⟩ := chk_comp hc
    cases e1
    have calm := g.calm hot
    have hyl : X.env.scope.names.lookup y = some .local := by
      rw [g.sc]
      unfold swapF at hs
      simp only [Bool.and_eq_true] at hs
      exact beq_local hs.1.1
    have P := ps_setLc (X := X) (ifs := ifs) (i := i) (y := y) (py := py) (pos := pos) (spos := spos) (g := gJ Z tg) (tt := fun σ H Q => ∃ bs, tT (Z.add bs) never (ev (G false) c) σ H Q) (te := fun σ H Q => ∃ bs, tE (Z.add bs) never (ev (G false) elt) σ H Q)
      calm g.nd hy hyl (by rw [sw_eq g.kind, g.sc, hs]) (pi_of g.toGood rfl (snd as) h1) (blkOk_by (by rw [g.sc]; exact h3))
      (fun s H C cl fp => (pg_J (good_blk g.toGood hot [] s H scope C cl fp) tg).1 t h5 (.inl calm))
      (fun s H C cl fp => ptsEx fun bs => by
        rcases h7 with ⟨rfl, rfl⟩ | ⟨e, rfl, h7⟩
        · refine ⟨fun pins s σ H Q I ⟨env, S, ι, hE, hS, hq⟩ => pts_nil.run pins s σ H Q I ?_⟩
          obtain ⟨b, e, q⟩ := Pst.ret (d := .bl true) hS hq (.bl true) H .refl .bl
          cases e
          exact q
        · exact pts_one ((snd c).pt _ _ _ never (good_blk g.toGood hot bs s H scope C cl fp) rfl e h7))
      (fun s H C cl fp => peEx fun bs => (snd elt).pe _ _ _ never (good_blk g.toGood hot bs s H scope C cl fp) rfl el h8) (setB_hs h2 X.env)
    rw [h4] at P
    refine psImp P fun D σ H q => ?_
    refine comp_imp hot h6 σ H _ ?_
    rcases he with rfl | rfl
    · exact comp_set_imp rfl D σ H q
    · exact comp_mut_imp D σ H q
/-- two or three values to two or three names -/
theorem set_par {tg as : E} : ∀ D σ H, tS Z W (exec G (.set tg (.tup as)) hh) D σ H → tA Z W (ev (G hh) as) σ H (fun vs H1 => ∃ env ds ι S1 env', RelE Z H1 ι env σ ∧ RelS Z H1 ι S1 ∧ RelDs Z H1 ι ds vs ∧ bindT tg (.tup ds) env = some env' ∧ ∀ σ', RelE Z H1 ι env' σ' → D.nx σ' H1) := by
  intro D σ H ⟨env, S, ι, hE, hS, h⟩
  have h : PstS Z W H ι D (if (hh && !isVar tg) = true then none else withE (ev (G hh) (.tup as) env) env S fun d S1 => match bindU tg d S1 env with
    | some env' => some (.nx env', S1)
    | none => none) := h
  split at h
  · exact h.elim
  · refine ⟨env, S, ι, hE, hS, ?_⟩
    have h : PstS Z W H ι D (withE ((ev (G hh) as env).bind fun a => (M.opt (tups a)).bind fun ds => M.opt (if ds.length ≤ 1000 then some (.tup ds) else none)) env S fun d S1 => match bindU tg d S1 env with
      | some env' => some (.nx env', S1)
      | none => none) := h
    unfold withE M.bind at h
    cases e : ev (G hh) as env S with
    | none => rw [e] at h; exact h
    | some r =>
      rw [e] at h
      cases r with
      | exn c d S1 => exact fun v H1 ι1 dd g s e r => h σ v H1 ι1 dd g s (hE.mono g) e r
      | ok d S1 =>
        intro ds hd vs H1 ι1 g1 s1 r1
        simp only [hd, M.opt] at h
        by_cases hl : ds.length ≤ 1000
        · simp only [if_pos hl] at h
          have h : PstS Z W H ι D (match bindT tg (.tup ds) env with | some env' => some (.nx env', S1) | none => none) := h
          cases hb : bindT tg (.tup ds) env with
          | none => rw [hb] at h; exact h.elim
          | some env' =>
            rw [hb] at h
            exact ⟨env, ds, ι1, S1, env', hE.mono g1, s1, r1, hb, fun σ' hE' => h σ' H1 ι1 g1 s1 hE'⟩
        · simp only [if_neg hl] at h
          exact h.elim
theorem set_at {H : Hp} {ι : List Addr} {env env' : Env} {σ : L2.St} {i : Nat} {r : E} {d : _root_.J.D} {ds : List _root_.J.D} (hb : bindTs (.cons (.var i) r) (d :: ds) env = some env') : bindTs r ds (env.set i (some d)) = some env' := by
  simp only [bindTs, bindT] at hb
  split at hb
  · rename_i e
    split at e
    · cases e; exact hb
    · cases e
  · cases hb
theorem ps_J_par (g : GoodS Z T (G hh) (G true) cs X W) (hG : ∀ h, (G h).hot = h) {tg e : E} {ts vs : List Expr} {k k2 : Nat} {p p2 pos : Pos} (hp : parK cs.sc ts vs = some (some (ts.filterMap fun | .Name id _ => some id | _ => none))) (h : parB T X.N cs tg e ts vs = true) :
    PS X (.Assign [.Tuple ts k p] (.Tuple vs k2 p2) pos) (tS Z W (exec G (.set tg e) hh)) := by
  unfold parB at h
  split at h
  · rename_i i j as x px y py v w
    simp only [Bool.and_eq_true, decide_eq_true_eq] at h
    obtain ⟨⟨⟨⟨⟨h1, h2⟩, h3⟩, h4⟩, h5⟩, h6⟩ := h
    cases hb : hh with
    | true => exact ⟨fun pins s σ H D I ⟨env, S, ι, hE, hS, q⟩ => False.elim q⟩
    | false =>
      subst hb
      have sc := g.sc
      refine psImp (ps_par (g.calm (hG false)) g.nd h1 h2 h3 (by rw [sc]; exact isLocal_of h4) (by rw [sc]; exact isLocal_of h5) ((snd as).pa Z cs X W g.toGood rfl _ h6) (swapped_eq g.kind (by rw [sc]; exact hp)) ) fun D σ H q => ?_
      obtain ⟨env, S, ι, hE, hS, q⟩ := set_par D σ H q
      refine ⟨env, S, ι, hE, hS, q.mono .refl fun ds0 S0 us H1 ι0 _ q => ?_⟩
      obtain ⟨env1, ds, ι1, S1, env', hE1, s1, r1, hb, q⟩ := q
      cases r1 with
      | nil => simp [bindT, bindTs] at hb
      | cons r1 t1 =>
        cases t1 with
        | nil => 
          simp only [bindT] at hb
          have hb := set_at (H := H1) (ι := ι1) (σ := σ) hb
          simp [bindTs] at hb
        | cons r2 t2 =>
          simp only [bindT] at hb
          have hb := set_at (H := H1) (ι := ι1) (σ := σ) (set_at (H := H1) (ι := ι1) (σ := σ) hb)
          cases t2 with
          | cons _ _ => simp [bindTs] at hb
          | nil =>
            simp only [bindTs, Option.some.injEq] at hb
            subst hb
            exact ⟨_, _, rfl, q _ ((hE1.set r1).set r2)⟩
  · rename_i i j l as x px y py z pz v w u
    simp only [Bool.and_eq_true, decide_eq_true_eq] at h
    obtain ⟨⟨⟨⟨⟨⟨⟨⟨⟨h1, h2⟩, h3⟩, h4⟩, h5⟩, h6⟩, h7⟩, h8⟩, h9⟩, h10⟩ := h
    cases hb : hh with
    | true => exact ⟨fun pins s σ H D I ⟨env, S, ι, hE, hS, q⟩ => False.elim q⟩
    | false =>
      subst hb
      have sc := g.sc
      refine psImp (ps_par3 (g.calm (hG false)) g.nd h1 h2 h3 h4 h5 h6 (by rw [sc]; exact isLocal_of h7) (by rw [sc]; exact isLocal_of h8) (by rw [sc]; exact isLocal_of h9) ((snd as).pa Z cs X W g.toGood rfl _ h10) (swapped_eq g.kind (by rw [sc]; exact hp)) ) fun D σ H q => ?_
      obtain ⟨env, S, ι, hE, hS, q⟩ := set_par D σ H q
      refine ⟨env, S, ι, hE, hS, q.mono .refl fun ds0 S0 us H1 ι0 _ q => ?_⟩
      obtain ⟨env1, ds, ι1, S1, env', hE1, s1, r1, hb, q⟩ := q
      simp only [bindT] at hb
      cases r1 with
      | nil => simp [bindTs] at hb
      | cons r1 t1 =>
        have hb := set_at (H := H1) (ι := ι1) (σ := σ) hb
        cases t1 with
        | nil => simp [bindTs] at hb
        | cons r2 t2 =>
          have hb := set_at (H := H1) (ι := ι1) (σ := σ) hb
          cases t2 with
          | nil => simp [bindTs] at hb
          | cons r3 t3 =>
            have hb := set_at (H := H1) (ι := ι1) (σ := σ) hb
            cases t3 with
            | cons _ _ => simp [bindTs] at hb
            | nil =>
              simp only [bindTs, Option.some.injEq] at hb
              subst hb
              exact ⟨_, _, _, rfl, q _ (((hE1.set r1).set r2).set r3)⟩
  · cases h
theorem chk_lc {e : E} {el : Expr} {gs : List Comprehension} {scope : Scope} {pos : Pos} (h : chkE T N e cs (.ListComp el gs scope pos) = true) :
    ∃ tg k as c elt own t it ifs, gs = [⟨t, it, ifs, 0⟩] ∧ chkE T N (.comp tg k as c elt own) cs (.ListComp el [⟨t, it, ifs, 0⟩] scope pos) = true ∧ (e = .comp tg k as c elt own ∨ e = .mut (.comp tg k as c elt own)) := by
  have base : ∀ e', isF e' = true → chkE T N e' cs (.ListComp el gs scope pos) = true → ∃ tg k as c elt own t it ifs, gs = [⟨t, it, ifs, 0⟩] ∧ chkE T N (.comp tg k as c elt own) cs (.ListComp el [⟨t, it, ifs, 0⟩] scope pos) = true ∧ e' = .comp tg k as c elt own := by
    intro e' hf h
    cases e' <;> first
      | (cases hf; done)
      | (simp only [chkE, Bool.false_eq_true] at h; done)
      | skip
    obtain ⟨_, t, it, ifs, _, _, e, _⟩ := chk_comp h
    cases e
    exact ⟨_, _, _, _, _, _, t, it, ifs, rfl, h, rfl⟩
  cases e <;> first
    | (simp only [chkE, Bool.false_eq_true] at h; done)
    | skip
  · obtain ⟨tg, k, as, c, elt, own, t, it, ifs, h1, h2, h3⟩ := base _ rfl h
    exact ⟨tg, k, as, c, elt, own, t, it, ifs, h1, h2, .inl h3⟩
  · obtain ⟨q1, q2⟩ := chk_mut h
    obtain ⟨tg, k, as, c, elt, own, t, it, ifs, h1, h2, h3⟩ := base _ q1 q2
    exact ⟨tg, k, as, c, elt, own, t, it, ifs, h1, h2, .inr (by rw [h3])⟩
theorem ps_J_set (g : GoodS Z T (G hh) (G true) cs X W) (hG : ∀ h, (G h).hot = h) {tg e : E} {t v : Expr} {pos : Pos} (h : setK T X.N cs tg e t v = true) : PS X (.Assign [t] v pos) (tS Z W (exec G (.set tg e) hh)) := by
  by_cases hc : hh = false ∨ isVar tg = true
  · have calm : X.calm = true ∨ ∃ i, tg = .var i := by
      rcases hc with h1 | h1
      · exact .inl (g.calm (by rw [hG, h1]))
      · right
        cases tg <;> first
          | exact ⟨_, rfl⟩
          | (cases h1; done)
    -- the plain way
    have plain : ∀ {t v : Expr}, chkT X.N cs tg t = true → chkE T X.N e cs v = true → swapsWith v (some t) pos.line X.env = pure false → swappedStores [t] v X.env = pure none → PS X (.Assign [t] v pos) (tS Z W (exec G (.set tg e) hh)) := fun {t v} h1 h2 h3 h4 =>
      psImp (ps_asg ((snd e).pe Z cs X W g.toGood rfl v h2) ((pg_J g.toGood tg).1 t h1 calm) h3 h4 (tg_form h1 X.env)) fun D σ H q => (set_imp D σ H q).1
    unfold setK at h
    split at h
    · rename_i y py el gs scope p
      split at h
      · rename_i hs
        simp only [Bool.and_eq_true] at h
        obtain ⟨h1, h2⟩ := h
        cases tg <;> first
          | (cases h1; done)
          | skip
        obtain ⟨tg, k, as, c, elt, own, t, it, ifs, rfl, h3, h4⟩ := chk_lc h2
        exact ps_J_lc g hG (of_decide_eq_true h1) hs h3 h4
      · rename_i hs
        simp only [Bool.and_eq_true] at h
        refine plain h.1 h.2 ?_ (swapped_no (.inl rfl))
        rw [sw_eq g.kind, g.sc]
        simp only [Bool.not_eq_true] at hs
        rw [hs]
    · rename_i hn
      simp only [Bool.and_eq_true] at h
      exact plain h.1.1 h.1.2 (sw_no h.1.2 h.2 _) (swapped_no (.inl rfl))
    · rename_i ts k p vs k2 p2
      split at h
      · rename_i ns hp
        simp only [Bool.and_eq_true, decide_eq_true_eq] at h
        obtain ⟨rfl, h⟩ := h
        exact ps_J_par g hG hp h
      · rename_i hp
        simp only [Bool.and_eq_true] at h
        exact plain h.1 h.2 (sw_no h.2 rfl _) (swapped_eq g.kind (by rw [g.sc]; exact hp))
      · cases h
    · simp only [Bool.and_eq_true, Bool.not_eq_true'] at h
      refine plain h.1.1 h.1.2 ?_ (swapped_no (.inr h.2))
      -- a comprehension to a tuple of names does not swap
      cases hv : noComp v with
      | true => exact sw_no h.1.2 hv _
      | false => cases v <;> first | rfl | (cases hv; done)
    · cases h
  · exact ⟨fun pins s σ H D I q => absurd (set_imp D σ H q).2 hc⟩
theorem no_sl {e : E} {v : Expr} (h : chkE T N e cs v = true) : (∀ ov iv new, augStore v ov iv new = (do holding [new, ov, iv] (setItem ov iv new); release [new, ov, iv] []; pure .next)) ∧
    ∀ (o : Expr) (pos : Pos) (env : PySem.Env) (u : Value), assign (.Subscript o v pos) env u = (do
      let ov ← holding [u] (eval o env)
      let iv ← holding [u, ov] (eval v env)
      standAt pos
      holding [u, ov, iv] (setItem ov iv u)
      release [u, ov, iv] []) := by
  cases v <;> first
    | exact ⟨fun _ _ _ => rfl, fun _ _ _ _ => rfl⟩
    | (rw [no_slice] at h; cases h)
theorem ps_J_seti (g : GoodS Z T (G hh) (G true) cs X W) {o i e : E} {a b v : Expr} {p pos : Pos} (h1 : chkE T X.N o cs a = true) (h2 : chkE T X.N i cs b = true) (h3 : chkE T X.N e cs v = true) : PS X (.Assign [.Subscript a b p] v pos) (tS Z W (exec G (.seti o i e) hh)) := by
  have hsw : swapsWithSole [.Subscript a b p] v pos.line X.env = pure false := by
    show swapsWith v (some (.Subscript a b p)) pos.line X.env = pure false
    cases hv : noComp v with
    | true => exact sw_no h3 hv _
    | false => cases v <;> first | rfl | (cases hv; done)
  refine psImp (ps_asg ((snd e).pe Z cs X W g.toGood rfl v h3) (pg_sub ((snd o).pe Z cs X W g.toGood rfl a h1) ((snd i).pe Z cs X W g.toGood rfl b h2) (set_J (Z := Z) (by have := g.units; omega)) (fun u => (no_sl h2).2 a p X.env u)) hsw (swapped_no (.inl rfl)) rfl) fun D σ H ⟨env, S, ι, hE, hS, h⟩ => ?_
  have h : PstS Z W H ι D (withE (ev (G hh) e env) env S fun d S1 => withE (ev (G hh) o env) env S1 fun a S2 => withE (ev (G hh) i env) env S2 fun k S3 =>
    match setS a k d S3 with
    | some S4 => some (.nx env, S4)
    | none => none) := h
  refine ⟨env, S, ι, hE, hS, (tSE hE h).imp fun d S1 v H1 ι1 _ _ _ q => ?_⟩
  obtain ⟨g1, hE1, hS1, r1, h⟩ := q
  refine ⟨env, S1, ι1, hE1, hS1, (tSE hE1 h).imp fun d2 S2 v2 H2 ι2 _ _ _ q => ?_⟩
  obtain ⟨g2, hE2, hS2, r2, h⟩ := q
  refine ⟨env, S2, ι2, hE2, hS2, (tSE hE2 h).imp fun d3 S3 v3 H3 ι3 _ _ _ q => ?_⟩
  obtain ⟨g3, hE3, hS3, r3, h⟩ := q
  cases hs : setS d2 d3 d S3 with
  | none => rw [hs] at h; exact h.elim
  | some S4 =>
    rw [hs] at h
    exact ⟨d2, d3, d, S3, ι3, S4, hS3, r2.mono g3, r3, (r1.mono g2).mono g3, hs, fun H' gr hS' => h σ H' ι3 gr hS' (hE3.mono gr)⟩
theorem ps_J_aug (g : GoodS Z T (G hh) (G true) cs X W) {op : BO} {o : Operator} {i : Nat} {e : E} {x : Str} {v : Expr} {p pos : Pos} (hi : X.N[i]? = some x) (hl : locB cs x = true) (ho : opB o (toOp op) = true) (h : chkE T X.N e cs v = true) : PS X (.AugAssign (.Name x p) o v pos) (tS Z W (exec G (.aug op i e) hh)) := by
  have e := of_decide_eq_true ho
  subst e
  refine psImp (ps_aug g.nd hi (loc_of g.toGood hl) ((snd e).pe Z cs X W g.toGood rfl v h) (ip_J op) (g.fn _ hl)) fun D σ H ⟨env, S, ι, hE, hS, h⟩ => ?_
  have h : PstS Z W H ι D (match env[i]?.bind id with
    | none => none
    | some x => withE (ev (G hh) e env) env S fun y S1 => match augD op x y with
      | some z => some (.nx (env.set i (some z)), S1)
      | none => none) := h
  cases hx : env[i]?.bind id with
  | none => rw [hx] at h; exact h.elim
  | some dx =>
    rw [hx] at h
    have e1 : env[i]? = some (some dx) := by
      cases q : env[i]? with
      | none => simp [q] at hx
      | some o => simp [q] at hx; rw [hx]
    obtain ⟨vx, e2, rx⟩ := hE.at_ i dx e1
    refine ⟨vx, e2, env, S, ι, hE, hS, (tSE hE h).imp fun d S1 v H1 ι1 _ _ _ q => ?_⟩
    obtain ⟨g1, hE1, hS1, r1, h⟩ := q
    cases hz : augD op dx d with
    | none => rw [hz] at h; exact h.elim
    | some z =>
      rw [hz] at h
      unfold augD at hz
      split at hz
      · cases rx
        cases r1
        obtain ⟨k, rfl⟩ := bin_int hz
        exact ⟨_, _, k, rfl, rfl, hz, h _ H1 ι1 .refl hS1 (hE1.set .int)⟩
      · cases hz
/-- a place's item by values -/
def rGetM (Z : Sit) : V → V → Hp → VK → Prop := fun o i H Q => ∃ do_ di d S ι, RelS Z H ι S ∧ RelD Z H ι do_ o ∧ RelD Z H ι di i ∧ (∃ l, do_ = .loc l) ∧ idxS do_ di S = some d ∧ ∀ v, RelD Z H ι d v → Q v H
theorem get_J (hu : X.A.units + 1 < cLine) : PGet X (rGetM Z) := by
  intro pins s σ H o i ov iv Q I ro ri hh
  obtain ⟨do_, di, d, S, ι, hS, r1, r2, ⟨l, rfl⟩, e, q⟩ := hh
  have dct : ∀ {kvs : List (_root_.J.D × _root_.J.D)}, S[l]? = some (.dct kvs) → isKey di = true → (dget di kvs).bind id = some d → wpAny (model X.prog X.w) X.A (getItem ov iv) (EP X pins σ Q) X.xe s := fun {kvs} hl hk e2 => by
    obtain ⟨a, kws, rfl, ha, rk, _⟩ := dct_at hS r1 hl
    cases hg : dget di kvs with
    | none => simp [hg] at e2
    | some o =>
      simp only [hg, Option.bind_some, id_eq] at e2
      subst e2
      obtain ⟨ov', g, _, hv⟩ := dget_at rk r2 hk hg ha
      obtain ⟨w, rfl, rw'⟩ := hv d rfl
      obtain rfl : ov = Value.ref a := ro
      exact d_getItem hu I g ri fun w' s3 I3 r3 => ⟨w, H, I3, r3, q _ rw'⟩
  unfold idxS at e
  cases di <;> first
    | (simp at e; done)
    | skip
  · rename_i k
    simp only at e
    split at e
    · rename_i ds hl
      obtain ⟨a, vs, rfl, ha, rr, _⟩ := lst_at hS r1 hl
      obtain rfl : ov = Value.ref a := ro
      cases r2
      obtain ⟨t, rfl⟩ := ri
      obtain ⟨w, e1, r⟩ := ixN_rel rr e
      obtain ⟨its, n, rv, hob, hz⟩ := I.lst ha
      obtain ⟨j, h1, h2, h3, h4, h5⟩ := atI_get e1
      obtain ⟨u, eu, ru⟩ := rv.get h2
      have hl := rv.length
      have hn := line63
      have fin : EP X pins σ Q u s := ⟨w, H, I, ru, q _ r⟩
      have IL : s.heap.IsList a its.toArray := ⟨_, hob, rfl, n, rfl⟩
      by_cases h0 : 0 ≤ k
      · have hj : k.toNat = j := by
          rw [seqIndex_of h0 h5] at h1
          exact Option.some.inj h1
        exact PyProof.Rows.getItem_listL IL h0 (by omega) (by rw [hj]; exact eu) fin
      · have hj : (k + (its.toArray.size : Int)).toNat = j := by
          rw [seqIndex_neg (by omega) h4] at h1
          rw [List.size_toArray, ← hl]
          exact Option.some.inj h1
        exact wpAny_getItem_list_neg IL (by omega) (by rw [List.size_toArray] <;> omega) (by omega) (by rw [hj]; simpa using eu) fin
    · rename_i kvs hl
      exact dct hl rfl e
    · cases e
  · simp only at e
    split at e
    · rename_i kvs hl
      exact dct hl rfl e
    · cases e
theorem ps_J_augi (g : GoodS Z T (G hh) (G true) cs X W) {op : BO} {p : Operator} {o i e : E} {a b v : Expr} {p1 pos : Pos} (ho : opB p (toOp op) = true) (h1 : chkE T X.N o cs a = true) (h2 : chkE T X.N i cs b = true) (h3 : chkE T X.N e cs v = true) : PS X (.AugAssign (.Subscript a b p1) p v pos) (tS Z W (exec G (.augi op o i e) hh)) := by
  have e' := of_decide_eq_true ho
  subst e'
  refine psImp (ps_augS ((snd o).pe Z cs X W g.toGood rfl a h1) ((snd i).pe Z cs X W g.toGood rfl b h2) (get_J (Z := Z) (by have := g.units; omega)) ((snd e).pe Z cs X W g.toGood rfl v h3) (ip_J op) (set_J (Z := Z) (by have := g.units; omega)) (no_sl h2).1) fun D σ H ⟨env, S, ι, hE, hS, h⟩ => ?_
  have h : PstS Z W H ι D (withE (ev (G hh) o env) env S fun a S1 => withE (ev (G hh) i env) env S1 fun k S2 => match idxM a k S2 with
    | none => none
    | some x => withE (ev (G hh) e env) env S2 fun y S3 => match augD op x y with
      | some z => match setS a k z S3 with
        | some S4 => some (.nx env, S4)
        | none => none
      | none => none) := h
  refine ⟨env, S, ι, hE, hS, (tSE hE h).imp fun d S1 v H1 ι1 _ _ _ q => ?_⟩
  obtain ⟨g1, hE1, hS1, r1, h⟩ := q
  refine ⟨env, S1, ι1, hE1, hS1, (tSE hE1 h).imp fun d2 S2 v2 H2 ι2 _ _ _ q => ?_⟩
  obtain ⟨g2, hE2, hS2, r2, h⟩ := q
  split at h
  · exact h.elim
  · rename_i x hx
    obtain ⟨hl, hx⟩ := idxM_inv hx
    refine ⟨d, d2, x, S2, ι2, hS2, r1.mono g2, r2, hl, hx, fun vx rx => ?_⟩
    refine ⟨env, S2, ι2, hE2, hS2, (tSE hE2 h).imp fun d3 S3 v3 H3 ι3 _ _ _ q => ?_⟩
    obtain ⟨g3, hE3, hS3, r3, h⟩ := q
    cases hz : augD op x d3 with
    | none => rw [hz] at h; exact h.elim
    | some z =>
      rw [hz] at h
      simp only at h
      cases hs : setS d d2 z S3 with
      | none => rw [hs] at h; exact h.elim
      | some S4 =>
        rw [hs] at h
        have hk : ∀ H', Grow H3 ι3 H' ι3 → RelS Z H' ι3 S4 → D.nx σ H' := fun H' gr hS' => h σ H' ι3 gr hS' (hE3.mono gr)
        clear h
        unfold augD at hz
        split at hz
        · cases rx
          cases r3
          obtain ⟨k, rfl⟩ := bin_int hz
          exact ⟨_, _, k, rfl, rfl, hz, d, d2, .int k, S3, ι3, S4, hS3, (r1.mono g2).mono g3, r2.mono g3, .int, hs, hk⟩
        · cases hz
theorem ps_J_exp (g : GoodS Z T (G hh) (G true) cs X W) {e : E} {v : Expr} {pos : Pos} (h1 : chkE T X.N e cs v = true) (h2 : noComp v = true) : PS X (.Expr v pos) (tS Z W (exec G (.exp e) hh)) := by
  refine psImp (ps_expr ((snd e).pe Z cs X W g.toGood rfl v h1) (sw_no h1 h2 _)) fun D σ H ⟨env, S, ι, hE, hS, h⟩ => ?_
  have h : PstS Z W H ι D (withE (ev (G hh) e env) env S fun _ S1 => some (.nx env, S1)) := h
  refine ⟨env, S, ι, hE, hS, (tSE hE h).imp fun d S1 v H1 ι1 _ _ _ q => ?_⟩
  obtain ⟨g1, hE1, hS1, r1, q⟩ := q
  exact q σ H1 ι1 .refl hS1 hE1
theorem ps_J_ret (g : GoodS Z T (G hh) (G true) cs X W) {e : E} {v : Expr} {pos : Pos} (h1 : chkE T X.N e cs v = true) : PS X (.Return (some v) pos) (tS Z W (exec G (.ret e) hh)) := by
  refine psImp (ps_ret ((snd e).pe Z cs X W g.toGood rfl v h1)) fun D σ H ⟨env, S, ι, hE, hS, h⟩ => ?_
  have h : PstS Z W H ι D (withE (ev (G hh) e env) env S fun d S1 => some (.rt d, S1)) := h
  refine ⟨env, S, ι, hE, hS, (tSE hE h).imp fun d S1 v H1 ι1 _ _ _ q => ?_⟩
  obtain ⟨g1, hE1, hS1, r1, q⟩ := q
  exact q v H1 ι1 .refl hS1 r1
theorem ps_J_raise (g : GoodS Z T (G hh) (G true) cs X W) (hG : ∀ h, (G h).hot = h) {c : Nat} {e : E} {v : Expr} {nm tx : Str} {p pos pos2 : Pos} (hx : T.excs[c]? = some (nm, tx)) (hgb : globB cs.sc nm = true) (hn : noName nm = true) (h1 : chkE T X.N e cs v = true) (hs : starB v = false) :
    PS X (.Raise (some (.Call (.Name nm p) [v] [] pos)) none pos2) (tS Z W (exec G (.raise c e) hh)) := by
  have hot : (G hh).hot = hh := hG hh
  cases hh with
  | true => exact ⟨fun pins s σ H D I ⟨env, S, ι, hE, hS, q⟩ => by
      have q : PstS Z W H ι D (exec G (.raise c e) true env S) := q
      simp only [exec, if_true] at q
      exact q.elim⟩
  | false =>
    obtain ⟨⟨fI, cc, cda, hT⟩, gC, hat, htx⟩ := g.excs.cls c nm tx hx
    refine psImp (ps_raiseAx (g.calm hot) hT gC g.dep g.takes (pa_cons ((snd e).pe Z cs X W g.toGood rfl v h1) pa_nil (starEach_of hs [] X.env)) (gl_of g.toGood hgb) (noName_dbg hn).1 (starEach_of hs [] X.env)) fun D σ H ⟨env, S, ι, hE, hS, h⟩ => ?_
    have h : PstS Z W H ι D (exec G (.raise c e) false env S) := h
    simp only [exec, Bool.false_eq_true, if_false] at h
    refine ⟨env, S, ι, hE, hS, (tSE hE h).imp fun d S1 v H1 ι1 _ _ _ q => ?_⟩
    obtain ⟨g1, hE1, hS1, r1, q⟩ := q
    by_cases hr : rsnB d = true
    · rw [if_pos hr] at q
      obtain ⟨x, rfl⟩ : ∃ x, d = .str x := by
        cases d <;> first
          | (cases hr; done)
          | exact ⟨_, rfl⟩
      cases r1
      have hl : x.length ≤ 1000 := of_decide_eq_true hr
      refine ⟨x, rfl, by rw [sizeLine_eq]; omega, fun dd hd => ?_⟩
      exact q σ (.str x) _ ι1 dd (Grow.new hd) (hS1.new hd) (hE1.mono (Grow.new hd)) (by rw [hat]; exact upd_same) .str
    · rw [if_neg hr] at q
      exact q.elim
theorem ext_at {d x : _root_.J.D} {S S3 : Store} {H : Hp} {ι : List Addr} {v w : V} (hS : RelS Z H ι S) (r1 : RelD Z H ι d v) (r2 : RelD Z H ι x w) (h : extS d x S = some S3) : ∃ l a b ds es vs ws, v = .ref a ∧ w = .ref b ∧ H a = some (.lst vs) ∧ H b = some (.lst ws) ∧ RelDs Z H ι ds vs ∧ RelDs Z H ι es ws ∧ ι[l]? = some a ∧ ds.length < 1000000 ∧ es.length < 1000000 ∧ S3 = S.set l (.lst (ds ++ es)) := by
  unfold extS at h
  split at h
  · rename_i l es
    split at h
    · rename_i ds hl
      split at h
      · rename_i hz
        cases h
        obtain ⟨a, vs, rfl, ha, rr, hι⟩ := lst_at hS r1 hl
        cases r2 with
        | @lst b ws _ hb _ _ r2 => exact ⟨l, a, b, ds, es, vs, ws, rfl, rfl, ha, hb, rr, r2, hι, hz.1, hz.2, rfl⟩
      · cases h
    · cases h
  · rename_i l m
    split at h
    · rename_i ds es hl hm
      split at h
      · rename_i hz
        cases h
        obtain ⟨a, vs, rfl, ha, rr, hι⟩ := lst_at hS r1 hl
        obtain ⟨b, ws, rfl, hb, rr2, _⟩ := lst_at hS r2 hm
        exact ⟨l, a, b, ds, es, vs, ws, rfl, rfl, ha, hb, rr, rr2, hι, hz.1, hz.2, rfl⟩
      · cases h
    · cases h
  · cases h
theorem ps_J_ext (g : GoodS Z T (G hh) (G true) cs X W) {o e : E} {a v : Expr} {ap cp pos : Pos} (h0 : plainO a = true) (hl : (ap.endLine == cp.line) = true) (h1 : chkE T X.N o cs a = true) (h2 : chkE T X.N e cs v = true) (hs : starB v = false) :
    PS X (.Expr (.Call (.Attribute a "extend" ap) [v] [] cp) pos) (tS Z W (exec G (.ext o e) hh)) := by
  have hst := starEach_of hs [] X.env
  have hfew : ((backTo cp (starEach [v] X.env)).all (fun x => !x.1) && (backToKw cp (keywordEach [] X.env)).all (fun x => x.1.isSome) && decide ([v].length + ([] : List Keyword).length + (if ([] : List Keyword).isEmpty then 0 else 1) < 30)) = true := by
    rw [hst]; rfl
  refine psImp (ps_expr (pe_bm PySem.F.plainAttrs_list PySem.F.slot_list_extend PySem.F.type_list_extend mt_extend ((snd o).pe Z cs X W g.toGood rfl a h1) (pa_cons ((snd e).pe Z cs X W g.toGood rfl v h2) pa_nil hst) (attrBase_of h0) hfew hl hst rfl) rfl) fun D σ H ⟨env, S, ι, hE, hS, h⟩ => ?_
  have h : PstS Z W H ι D (withE (ev (G hh) o env) env S fun a S1 => if isLoc a S1 = true then withE (ev (G hh) e env) env S1 fun x S2 => match extS a x S2 with
    | some S3 => some (.nx env, S3)
    | none => none
    else none) := h
  refine ⟨env, S, ι, hE, hS, (tSE hE h).imp fun d S1 v H1 ι1 _ _ _ q => ?_⟩
  obtain ⟨g1, hE1, hS1, r1, h⟩ := q
  by_cases hL : isLoc d S1 = true
  · rw [if_pos hL] at h
    have hty : tyV X.K "list" v H1 := by
      unfold isLoc at hL
      split at hL
      · rename_i l
        split at hL
        · rename_i ds hl
          obtain ⟨a, vs, rfl, ha, _⟩ := lst_at hS1 r1 hl
          exact .inl ⟨rfl, vs, .inl (.inl ha)⟩
        · cases hL
      · cases hL
    refine ⟨hty, env, S1, ι1, hE1, hS1, (tSE hE1 h).imp fun x S2 w H2 ι2 _ _ _ q => ?_⟩
    obtain ⟨g2, hE2, hS2, r2, h⟩ := q
    cases hp : extS d x S2 with
    | none => rw [hp] at h; exact h.elim
    | some S3 =>
      rw [hp] at h
      obtain ⟨l, a, b, ds, es, vs, ws, rfl, rfl, ha, hb, rr, rr2, hι, z1, z2, rfl⟩ := ext_at hS2 (r1.mono g2) r2 hp
      refine ⟨a, b, vs, ws, rfl, rfl, ha, hb, by rw [← rr.length, ← rr2.length, sizeLine_eq]; omega, ?_⟩
      have gr : Grow H2 ι2 (upd H2 a (.lst (vs ++ ws))) ι2 := Grow.chg (List.mem_of_getElem? hι) (by rw [ha]; trivial)
      exact h σ _ ι2 gr (hS2.chg hι (.lst (rr.append rr2))) (hE2.mono gr)
  · rw [if_neg hL] at h
    exact h.elim
theorem ps_J_app (g : GoodS Z T (G hh) (G true) cs X W) {o e : E} {a v : Expr} {ap cp pos : Pos} (h0 : plainO a = true) (hl : (ap.endLine == cp.line) = true) (h1 : chkE T X.N o cs a = true) (h2 : chkE T X.N e cs v = true) (hs : starB v = false) :
    PS X (.Expr (.Call (.Attribute a "append" ap) [v] [] cp) pos) (tS Z W (exec G (.app o e) hh)) := by
  have hst := starEach_of hs [] X.env
  have hb : attributeBase a "append" X.env (eval a X.env) = eval a X.env := by
    cases a <;> first
      | rfl
      | (cases h0; done)
  have hfew : ((backTo cp (starEach [v] X.env)).all (fun x => !x.1) && (backToKw cp (keywordEach [] X.env)).all (fun x => x.1.isSome) && decide ([v].length + ([] : List Keyword).length + (if ([] : List Keyword).isEmpty then 0 else 1) < 30)) = true := by
    rw [hst]; rfl
  refine psImp (ps_expr (pe_bm PySem.F.plainAttrs_list PySem.F.slot_list_append PySem.F.type_list_append mt_append ((snd o).pe Z cs X W g.toGood rfl a h1) (pa_cons ((snd e).pe Z cs X W g.toGood rfl v h2) pa_nil hst) hb hfew hl hst rfl) rfl) fun D σ H ⟨env, S, ι, hE, hS, h⟩ => ?_
  have h : PstS Z W H ι D (withE (ev (G hh) o env) env S fun a S1 => if isLoc a S1 = true then withE (ev (G hh) e env) env S1 fun x S2 => match appS a x S2 with
    | some S3 => some (.nx env, S3)
    | none => none
    else none) := h
  refine ⟨env, S, ι, hE, hS, (tSE hE h).imp fun d S1 v H1 ι1 _ _ _ q => ?_⟩
  obtain ⟨g1, hE1, hS1, r1, h⟩ := q
  by_cases hL : isLoc d S1 = true
  · rw [if_pos hL] at h
    have hty : tyV X.K "list" v H1 := by
      unfold isLoc at hL
      split at hL
      · rename_i l
        split at hL
        · rename_i ds hl
          obtain ⟨a, vs, rfl, ha, _⟩ := lst_at hS1 r1 hl
          exact .inl ⟨rfl, vs, .inl (.inl ha)⟩
        · cases hL
      · cases hL
    refine ⟨hty, env, S1, ι1, hE1, hS1, (tSE hE1 h).imp fun x S2 w H2 ι2 _ _ _ q => ?_⟩
    obtain ⟨g2, hE2, hS2, r2, h⟩ := q
    cases hp : appS d x S2 with
    | none => rw [hp] at h; exact h.elim
    | some S3 =>
      rw [hp] at h
      unfold appS at hp
      split at hp
      · rename_i l
        split at hp
        · rename_i ds hl
          split at hp
          · rename_i hz
            simp only [Option.some.injEq] at hp
            subst hp
            obtain ⟨a, vs, rfl, ha, rr, hι⟩ := lst_at hS2 (r1.mono g2) hl
            refine ⟨a, vs, w, rfl, rfl, ha, by rw [← rr.length]; exact big_line hz, ?_⟩
            have gr : Grow H2 ι2 (upd H2 a (.lst (vs ++ [w]))) ι2 := Grow.chg (List.mem_of_getElem? hι) (by rw [ha]; trivial)
            exact h σ _ ι2 gr (hS2.chg hι (.lst (rr.append (.one r2)))) (hE2.mono gr)
          · cases hp
        · cases hp
      · cases hp
  · rw [if_neg hL] at h
    exact h.elim
end
end J
/-! J11: loops; all statements -/
namespace J
open PySem L2
section
variable {Z : Sit} {T : Tab} {N : List Str} {G : Bool → Ctx} {hh : Bool} {cs : CS} {X : Cx} {W : WX}
theorem ps_J_if (g : GoodS Z T (G hh) (G true) cs X W) {c : E} {a b : C} {t : Expr} {p q : List Stmt} {pos : Pos} (h1 : chkE T X.N c cs t = true) (ha : PSs X p (tS Z W (exec G a hh))) (hb : PSs X q (tS Z W (exec G b hh))) : PS X (.If t p q pos) (tS Z W (exec G (.ifs c a b) hh)) := by
  refine psImp (ps_if ((snd c).pt Z cs X W g.toGood rfl t h1) ha hb) fun D σ H ⟨env, S, ι, hE, hS, h⟩ => ?_
  have h : PstS Z W H ι D (withE (ev (G hh) c env) env S fun x S1 => match truS x S1 with
    | none => none
    | some true => exec G a hh env S1
    | some false => exec G b hh env S1) := h
  refine ⟨env, S, ι, hE, hS, (tSE hE h).imp fun d S1 v H1 ι1 _ _ _ q => ?_⟩
  obtain ⟨g1, hE1, hS1, r1, q⟩ := q
  cases ht : truS d S1 with
  | none => rw [ht] at q; exact q.elim
  | some t =>
    rw [ht] at q
    refine ⟨t, rfl, ?_⟩
    cases t with
    | true => rw [if_pos rfl]; exact ⟨env, S1, ι1, hE1, hS1, q⟩
    | false => rw [if_neg Bool.false_ne_true]; exact ⟨env, S1, ι1, hE1, hS1, q⟩
theorem pss_J_nil : PSs X [] (tS Z W (exec G .nil hh)) := by
  refine pssImp pss_nil fun D σ H ⟨env, S, ι, hE, hS, h⟩ => ?_
  have h : PstS Z W H ι D (some (.nx env, S)) := h
  exact h σ H ι .refl hS hE
theorem pss_J_cons {s r : C} {st : Stmt} {sts : List Stmt} (h1 : PS X st (tS Z W (exec G s hh))) (h2 : PSs X sts (tS Z W (exec G r hh))) : PSs X (st :: sts) (tS Z W (exec G (.seq s r) hh)) := by
  refine pssImp (pss_cons h1 h2) fun D σ H ⟨env, S, ι, hE, hS, h⟩ => ⟨env, S, ι, hE, hS, ?_⟩
  have h : PstS Z W H ι D (match exec G s hh env S with
    | some (.nx env', S') => exec G r hh env' S'
    | p => p) := h
  cases e : exec G s hh env S with
  | none => rw [e] at h; exact h
  | some q =>
    obtain ⟨f, S'⟩ := q
    rw [e] at h
    cases f with
    | nx env' => exact fun σ' H' ι' g s r => ⟨env', S', ι', r, s, h.mono g⟩
    | bk env' => exact h
    | ct env' => exact h
    | rt d => exact h
    | ex c d env' => exact h
/-- the ends within a loop's body -/
theorem loop_end {H : Hp} {ι : List Addr} {D : Ends} {Nx : L2.St → Hp → Prop} {k : Env → Store → P} : ∀ {r : P}, PstS Z W H ι D (match r with
    | none => none
    | some (.nx env', S') => k env' S'
    | some (.ct env', S') => k env' S'
    | some (.bk env', S') => some (.nx env', S')
    | some (.rt v, S') => some (.rt v, S')
    | some (.ex c v env', S') => some (.ex c v env', S')) → (∀ env' S' σ' H' ι', r = some (.nx env', S') ∨ r = some (.ct env', S') → Grow H ι H' ι' → RelS Z H' ι' S' → RelE Z H' ι' env' σ' → PstS Z W H ι D (k env' S') → Nx σ' H') → PstS Z W H ι { D with nx := Nx, ct := Nx, bk := D.nx } r
  | none, h, _ => h
  | some (.nx env', S'), h, n => fun σ' H' ι' g s r => n env' S' σ' H' ι' (.inl rfl) g s r h
  | some (.ct env', S'), h, n => fun σ' H' ι' g s r => n env' S' σ' H' ι' (.inr rfl) g s r h
  | some (.bk _, _), h, _ => h
  | some (.rt _, _), h, _ => h
  | some (.ex _ _ _, _), h, _ => h
theorem forL_guard {gs : List Guard} {f : _root_.J.D → Env → Store → P} {ds : List _root_.J.D} {env : Env} {S : Store} {H : Hp} {ι : List Addr} {D : Ends} (h : PstS Z W H ι D (forL gs f ds env S)) : ∀ g ∈ gs, okG g S := by
  cases ds with
  | nil =>
    unfold forL at h
    split at h
    · assumption
    · exact h.elim
  | cons d ds =>
    unfold forL at h
    split at h
    · assumption
    · exact h.elim
theorem ps_J_for (g : GoodS Z T (G hh) (G true) cs X W) (hG : ∀ h, (G h).hot = h) {tg as : E} {k : Ik} {b : C} {t it : Expr} {body : List Stmt} {pos : Pos} (h1 : chkI T X.N k as cs t it = true) (h2 : setB it = false) (h3 : chkT X.N cs tg t = true) (hb : PSs X body (tS Z W (exec G b hh))) :
    PS X (.For t it body [] pos) (tS Z W (exec G (.forr tg k as b) hh)) := by
  cases e0 : hh with
  | true => exact ⟨fun pins s σ H D I ⟨env, S, ι, hE, hS, q⟩ => False.elim q⟩
  | false =>
    subst e0
    have calm := g.calm (hG false)
    refine psImp (ps_for g.own calm (pi_of g.toGood rfl (snd as) h1) ((pg_J g.toGood tg).1 t h3 (.inl calm)) hb (setB_hs h2 X.env)) fun D σ H ⟨env, S, ι, hE, hS, h⟩ => ?_
    have h : PstS Z W H ι D (withE (ev (G false) as env) env S fun a S1 => match (tups a).bind fun ds => iterS k ds S1 with
      | none => none
      | some p => forL p.2 (fun d env S => match bindT tg d env with
        | none => none
        | some env' => exec G b false env' S) p.1 env S1) := h
    generalize hf : (fun d env S => match bindT tg d env with
        | none => none
        | some env' => exec G b false env' S) = f at h
    refine ⟨env, S, ι, hE, hS, ?_⟩
    unfold withE at h
    cases e : ev (G false) as env S with
    | none => rw [e] at h; exact h
    | some r =>
      rw [e] at h
      cases r with
      | exn c d S1 => exact fun v H1 ι1 dd g s e r => h σ v H1 ι1 dd g s (hE.mono g) e r
      | ok a S1 =>
        intro ds hd vs H1 ι1 g1 s1 r1
        simp only [hd, Option.bind_some] at h
        cases hp : iterS k ds S1 with
        | none => rw [hp] at h; exact h.elim
        | some p =>
          rw [hp] at h
          refine ⟨g1, s1, p, rfl, fun J wd => ?_⟩
          refine ⟨fun i m σ Hc => m = p.1.length - i ∧ i ≤ p.1.length ∧ ∃ env' S' ι', Grow H1 ι1 Hc ι' ∧ RelE Z Hc ι' env' σ ∧ RelS Z Hc ι' S' ∧ PstS Z W Hc ι' D (forL p.2 f (p.1.drop i) env' S'),
            ⟨p.1.length, rfl, Nat.zero_le _, env, S1, ι1, .refl, hE.mono g1, s1, h.mono g1⟩, ?_⟩
          rintro i m σ' Hc ⟨rfl, hi, env', S', ι', gr, hE', s', hq⟩
          have gd : GdOf Z H1 ι1 p.2 Hc ι' := ⟨S', gr, s', forL_guard hq⟩
          by_cases hlt : i < p.1.length
          · refine .inr ⟨wd.goes i Hc ι' hlt gd, fun σ2 H2 => p.1.length - (i + 1) = p.1.length - (i + 1) ∧ i + 1 ≤ p.1.length ∧ ∃ env' S' ι', Grow H1 ι1 H2 ι' ∧ RelE Z H2 ι' env' σ2 ∧ RelS Z H2 ι' S' ∧ PstS Z W H2 ι' D (forL p.2 f (p.1.drop (i + 1)) env' S'),
              fun σ2 H2 nx => ⟨p.1.length - (i + 1), by omega, nx⟩, fun x H2 y => ?_⟩
            obtain ⟨gk, rx⟩ := wd.yields [] i Hc ι' x H2 p.1[i] (fun _ hb => nomatch hb) (List.getElem?_eq_getElem hlt) gd y
            rw [List.drop_eq_getElem_cons hlt] at hq
            unfold forL at hq
            split at hq
            · cases hbd : bindT tg p.1[i] env' with
              | none =>
                have e1 : f p.1[i] env' S' = none := by rw [← hf]; simp only [hbd]
                rw [e1] at hq
                exact hq.elim
              | some env2 =>
                have e1 : f p.1[i] env' S' = exec G b false env2 S' := by rw [← hf]; simp only [hbd]
                rw [e1] at hq
                refine ⟨[], env', p.1[i], ι', env2, hE'.mono gk.grow, .inl rx, hbd, fun σ3 hE3 _ _ => ⟨env2, S', ι', hE3, s'.keep gk, ?_⟩⟩
                refine loop_end (hq.mono gk.grow) fun env4 S4 σ4 H4 ι4 _ g4 s4 r4 q4 => ?_
                exact ⟨rfl, hlt, env4, S4, ι4, (gr.trans gk.grow).trans g4, r4, s4, q4.mono g4⟩
            · exact hq.elim
          · have ei : i = p.1.length := by omega
            subst ei
            refine .inl ⟨wd.stops Hc ι' gd, ?_⟩
            rw [List.drop_length] at hq
            unfold forL at hq
            split at hq
            · exact hq σ' Hc ι' .refl s' hE'
            · exact hq.elim
/-! while: by the number of turns -/
def whlN (c : Env → M _root_.J.D) (b : Env → Store → P) : Nat → Env → Store → P
  | 0, _, _ => none
  | n + 1, env, S => match c env S with
    | none => none
    | some (.exn e d S1) => some (.ex e d env, S1)
    | some (.ok x S1) => match truS x S1 with
      | none => none
      | some false => some (.nx env, S1)
      | some true => match b env S1 with
        | none => none
        | some (.nx env', S') => whlN c b n env' S'
        | some (.ct env', S') => whlN c b n env' S'
        | some (.bk env', S') => some (.nx env', S')
        | some (.rt v, S') => some (.rt v, S')
        | some (.ex e d env', S') => some (.ex e d env', S')
theorem whl_fuel (c : Env → M _root_.J.D) (b : Env → Store → P) : ∀ env S r, whlL c b env S = some r → ∃ n, whlN c b n env S = some r := by
  refine whlL.partial_correctness c b (fun env S r => ∃ n, whlN c b n env S = some r) ?_
  intro rec ih env S r h
  cases e : c env S with
  | none => simp [e] at h
  | some q =>
    simp only [e] at h
    cases q with
    | exn x d S1 => exact ⟨1, by simp only [whlN, e]; exact h⟩
    | ok x S1 =>
      simp only at h
      cases ht : truS x S1 with
      | none => simp [ht] at h
      | some t =>
        simp only [ht] at h
        cases t with
        | false => exact ⟨1, by simp only [whlN, e, ht]; exact h⟩
        | true =>
          simp only at h
          cases hb : b env S1 with
          | none => simp [hb] at h
          | some q =>
            obtain ⟨f, S'⟩ := q
            simp only [hb] at h
            cases f with
            | nx env' =>
              obtain ⟨n, hn⟩ := ih env' S' r h
              exact ⟨n + 1, by simp only [whlN, e, ht, hb]; exact hn⟩
            | ct env' =>
              obtain ⟨n, hn⟩ := ih env' S' r h
              exact ⟨n + 1, by simp only [whlN, e, ht, hb]; exact hn⟩
            | bk env' => exact ⟨1, by simp only [whlN, e, ht, hb]; exact h⟩
            | rt v => exact ⟨1, by simp only [whlN, e, ht, hb]; exact h⟩
            | ex x d env' => exact ⟨1, by simp only [whlN, e, ht, hb]; exact h⟩
theorem ps_J_whl (g : GoodS Z T (G hh) (G true) cs X W) {c : E} {b : C} {t : Expr} {body : List Stmt} {pos : Pos} (h1 : chkE T X.N c cs t = true) (hb : PSs X body (tS Z W (exec G b hh))) : PS X (.While t body [] pos) (tS Z W (exec G (.whl c b) hh)) := by
  refine psImp (ps_while g.own ((snd c).pt Z cs X W g.toGood rfl t h1) hb) fun D σ H ⟨env, S, ι, hE, hS, h⟩ => ?_
  have h : PstS Z W H ι D (whlL (ev (G hh) c) (exec G b hh) env S) := h
  have ⟨n0, hn0⟩ : ∃ n, PstS Z W H ι D (whlN (ev (G hh) c) (exec G b hh) n env S) := by
    cases e : whlL (ev (G hh) c) (exec G b hh) env S with
    | none => rw [e] at h; exact h.elim
    | some r =>
      obtain ⟨n, hn⟩ := whl_fuel _ _ env S r e
      rw [e] at h
      exact ⟨n, by rw [hn]; exact h⟩
  refine ⟨fun n σ Hc => ∃ env' S' ι', RelE Z Hc ι' env' σ ∧ RelS Z Hc ι' S' ∧ PstS Z W Hc ι' D (whlN (ev (G hh) c) (exec G b hh) n env' S'), ⟨n0, env, S, ι, hE, hS, hn0⟩, ?_⟩
  rintro n σ' Hc ⟨env', S', ι', hE', hS', hq⟩
  cases n with
  | zero => exact hq.elim
  | succ n =>
    refine ⟨env', S', ι', hE', hS', ?_⟩
    simp only [whlN] at hq
    cases e : ev (G hh) c env' S' with
    | none => rw [e] at hq; exact hq
    | some r =>
      rw [e] at hq
      cases r with
      | exn x d S1 => exact fun v H1 ι1 dd g s e r => hq σ' v H1 ι1 dd g s (hE'.mono g) e r
      | ok x S1 =>
        intro v H1 ι1 g1 s1 r1
        simp only at hq
        cases ht : truS x S1 with
        | none => rw [ht] at hq; exact hq.elim
        | some t =>
          rw [ht] at hq
          refine ⟨t, rfl, ?_⟩
          cases t with
          | false => rw [if_neg Bool.false_ne_true]; exact hq σ' H1 ι1 g1 s1 (hE'.mono g1)
          | true =>
            rw [if_pos rfl]
            refine ⟨fun σ2 H2 => ∃ env' S' ι', RelE Z H2 ι' env' σ2 ∧ RelS Z H2 ι' S' ∧ PstS Z W H2 ι' D (whlN (ev (G hh) c) (exec G b hh) n env' S'), fun σ2 H2 nx => ⟨n, Nat.lt_succ_self n, nx⟩, env', S1, ι1, hE'.mono g1, s1, ?_⟩
            exact loop_end (hq.mono g1) fun env4 S4 σ4 H4 ι4 _ g4 s4 r4 q4 => ⟨env4, S4, ι4, r4, s4, q4.mono g4⟩
end
end J
/-! J11x: from outside a handler into it, and back -/
namespace J
open PySem L2
def Sit.hot (Z : Sit) (q : Addr × Nat × Addr) : Sit := { Z with xq := some q }
section
variable {Z : Sit} {H H' : Hp} {ι ι' : List Addr} {q : Addr × Nat × Addr}
mutual
theorem RelD.hot (hz : Z.xq = none) : ∀ {d : D} {v : V}, RelD Z H ι d v → RelD (Z.hot q) H ι d v
  | _, _, .non => .non
  | _, _, .bl => .bl
  | _, _, .int => .int
  | _, _, .str => .str
  | _, _, .tup h r => .tup (Z := Z.hot q) h (RelDs.hot hz r)
  | _, _, .lst h n b r => .lst (Z := Z.hot q) h n b (RelDs.hot hz r)
  | _, _, .flst h n b r => .flst (Z := Z.hot q) h n b (RelDs.hot hz r)
  | _, _, .flstF h r => .flstF (Z := Z.hot q) h (RelDs.hot hz r)
  | _, _, .loc h => .loc h
  | _, _, .fn => .fn (Z := Z.hot q)
  | _, _, .exc q h r => by rw [hz] at q; cases q
theorem RelDs.hot (hz : Z.xq = none) : ∀ {ds : List D} {vs : List V}, RelDs Z H ι ds vs → RelDs (Z.hot q) H ι ds vs
  | _, _, .nil => .nil
  | _, _, .cons r t => .cons (RelD.hot hz r) (RelDs.hot hz t)
end
mutual
theorem RelD.cool (hz : Z.xq = none) : ∀ {d : D} {v0 v : V}, RelD Z H ι d v0 → RelD (Z.hot q) H' ι' d v → RelD Z H' ι' d v
  | _, _, _, .non, r => by cases r; exact .non
  | _, _, _, .bl, r => by cases r; exact .bl
  | _, _, _, .int, r => by cases r; exact .int
  | _, _, _, .str, r => by cases r; exact .str
  | _, _, _, .tup h r, r' => by
    cases r' with
    | tup h' rr => exact .tup (Z := Z) h' (RelDs.cool hz r rr)
  | _, _, _, .lst h n b r, r' => by
    cases r' with
    | lst h' n' b' rr => exact .lst (Z := Z) h' n' b' (RelDs.cool hz r rr)
  | _, _, _, .flst h n b r, r' => by
    cases r' with
    | flst h' n' b' rr => exact .flst (Z := Z) h' n' b' (RelDs.cool hz r rr)
    | flstF h' rr => exact .flstF (Z := Z) h' (RelDs.cool hz r rr)
  | _, _, _, .flstF h r, r' => by
    cases r' with
    | flst h' n' b' rr => exact .flst (Z := Z) h' n' b' (RelDs.cool hz r rr)
    | flstF h' rr => exact .flstF (Z := Z) h' (RelDs.cool hz r rr)
  | _, _, _, .loc h, r' => by
    cases r' with
    | loc h' => exact .loc h'
  | _, _, _, .fn, r' => by
    cases r'
    exact .fn (Z := Z)
  | _, _, _, .exc e h r, _ => by rw [hz] at e; cases e
theorem RelDs.cool (hz : Z.xq = none) : ∀ {ds : List D} {vs0 vs : List V}, RelDs Z H ι ds vs0 → RelDs (Z.hot q) H' ι' ds vs → RelDs Z H' ι' ds vs
  | _, _, _, .nil, r => by cases r; exact .nil
  | _, _, _, .cons r t, r' => by
    cases r' with
    | cons a b => exact .cons (RelD.cool hz r a) (RelDs.cool hz t b)
end
theorem RelK.hot (hz : Z.xq = none) {r : List (D × D)} {s : List (Key × V)} (h : RelK Z H ι r s) : RelK (Z.hot q) H ι r s := by
  induction h with
  | nil => exact .nil
  | int h _ ih => exact .int (h.hot hz) ih
  | str h _ ih => exact .str (h.hot hz) ih
theorem RelK.cool (hz : Z.xq = none) {r : List (D × D)} {s0 : List (Key × V)} (h : RelK Z H ι r s0) : ∀ {s : List (Key × V)}, RelK (Z.hot q) H' ι' r s → RelK Z H' ι' r s := by
  induction h with
  | nil => intro s h; cases h; exact .nil
  | int h0 _ ih => intro s h; cases h with | int a b => exact .int (h0.cool hz a) (ih b)
  | str h0 _ ih => intro s h; cases h with | str a b => exact .str (h0.cool hz a) (ih b)
theorem RelC.hot (hz : Z.xq = none) {c : Cell} {o : HO} (h : RelC Z H ι c o) : RelC (Z.hot q) H ι c o := by
  cases h with
  | lst r => exact .lst (r.hot hz)
  | dct r => exact .dct (r.hot hz)
theorem RelC.cool (hz : Z.xq = none) {c : Cell} {o0 o : HO} (h0 : RelC Z H ι c o0) (h : RelC (Z.hot q) H' ι' c o) : RelC Z H' ι' c o := by
  cases h0 with
  | lst r => cases h with | lst r' => exact .lst (r.cool hz r')
  | dct r => cases h with | dct r' => exact .dct (r.cool hz r')
theorem RelS.hot (hz : Z.xq = none) {S : Store} (h : RelS Z H ι S) : RelS (Z.hot q) H ι S :=
  ⟨h.len, h.nd, h.bad, fun l c a e1 e2 => by
    obtain ⟨o, e, r⟩ := h.at_ l c a e1 e2
    exact ⟨o, e, r.hot hz⟩⟩
theorem RelS.cool (hz : Z.xq = none) {S : Store} (h0 : RelS Z H ι S) (h : RelS (Z.hot q) H' ι' S) : RelS Z H' ι' S :=
  ⟨h.len, h.nd, h.bad, fun l c a e1 e2 => by
    obtain ⟨o, e, r⟩ := h.at_ l c a e1 e2
    have hl : l < S.length := (List.getElem?_eq_some_iff.mp e1).1
    obtain ⟨o0, _, r0⟩ := h0.at_ l c ι[l]! e1 (by rw [List.getElem!_eq_getElem?_getD, List.getElem?_eq_getElem (by rw [h0.len]; exact hl)]; rfl)
    exact ⟨o, e, r0.cool hz r⟩⟩
theorem RelE.hot (hz : Z.xq = none) {env : Env} {σ : L2.St} (h : RelE Z H ι env σ) : RelE (Z.hot q) H ι env σ :=
  ⟨h.len, fun i d e => let ⟨v, e1, r⟩ := h.at_ i d e; ⟨v, e1, r.hot hz⟩⟩
theorem RelE.set2 {env : Env} {σ : L2.St} {d : D} {v : V} {i : Nat} (h : RelE Z H ι env σ) (r : RelD Z H ι d v) : RelE Z H ι (env.set i (some d)) (σ.set i (some v)) := by
  refine ⟨by simp [h.len], fun j d' e => ?_⟩
  by_cases hj : j = i
  · subst hj
    have hl : j < env.length := by
      have := (List.getElem?_eq_some_iff.mp e).1
      simpa using this
    rw [List.getElem?_set_self hl] at e
    cases e
    exact ⟨v, List.getElem?_set_self (by rw [← h.len]; exact hl), r⟩
  · rw [List.getElem?_set_ne (Ne.symm hj)] at e ⊢
    exact h.at_ j d' e
theorem flat_cool {d : D} {v : V} (hf : flatD d = true) (r : RelD (Z.hot q) H ι d v) : RelD Z H ι d v := by
  cases d <;> first
    | (cases hf; done)
    | (cases r; first | exact .non | exact .bl | exact .int | exact .str)
end
end J
/-! J12: all statements -/
namespace J
open PySem L2
section
variable {T : Tab} {N : List Str} {G : Bool → Ctx}
structure SndS (T : Tab) (N : List Str) (G : Bool → Ctx) (hh : Bool) (c : C) : Prop where
  one : ∀ Z cs X W, GoodS Z T (G hh) (G true) cs X W → X.N = N → ∀ st, chkS T N c cs st = true → PS X st (tS Z W (exec G c hh))
  all : ∀ Z cs X W, GoodS Z T (G hh) (G true) cs X W → X.N = N → ∀ sts, chkB T N c cs sts = true → PSs X sts (tS Z W (exec G c hh))
theorem noB {c : C} (h1 : c ≠ .nil) (h2 : ∀ a r, c ≠ .seq a r) (cs : CS) (sts : List Stmt) : chkB T N c cs sts = false := by
  cases c <;> first
    | exact absurd rfl h1
    | exact absurd rfl (h2 _ _)
    | (cases sts <;> simp only [chkB])
theorem SndS.of {hh : Bool} {c : C} (h1 : c ≠ .nil) (h2 : ∀ a r, c ≠ .seq a r) (h : ∀ Z cs X W, GoodS Z T (G hh) (G true) cs X W → X.N = N → ∀ st, chkS T N c cs st = true → PS X st (tS Z W (exec G c hh))) : SndS T N G hh c :=
  ⟨h, fun Z cs X W g hN sts q => by rw [noB h1 h2] at q; cases q⟩
/-- try: .. except base as n: .. -/
theorem ps_J_try {Z : Sit} {cs : CS} {X : Cx} {W : WX} (g : GoodS Z T (G false) (G true) cs X W) (hG : ∀ h, (G h).hot = h) (hN : X.N = N) {b : C} {i : Nat} {hd : C} {body suite : List Stmt} {b0 : Stmt} {nm : Str} {np pos pos' : Pos} (e0 : T.excs ≠ []) (e1 : globB cs.sc T.base = true) (e2 : noName T.base = true) (e3 : N[i]? = some nm) (e4 : isLocal cs.sc nm = true)
    (hb : ∀ (W' : WX) (pn : List (Addr × Obj)) (xe : Value → Shared → Prop), GoodS Z T (G false) (G true) cs (X.tr pn xe) W' → PSs (X.tr pn xe) body (tS Z W' (exec G b false)))
    (hh : ∀ (Z' : Sit) (X' : Cx), GoodS Z' T (G true) (G true) cs X' never → X'.N = N → PSs X' (b0 :: suite) (tS Z' never (exec G hd true))) :
    PS X (.Try body [.ExceptHandler (some (.Name T.base np)) (some nm) (b0 :: suite) pos'] [] [] pos) (tS Z W (exec G (.tryx b T.excs.length i hd) false)) := by
  subst hN
  have hot : (G false).hot = false := hG false
  have hotT : (G true).hot = true := hG true
  have hz : Z.xq = none := g.xq0 hot
  obtain ⟨p0, hp0⟩ : ∃ p0, T.excs[0]? = some p0 := by
    cases q : T.excs with
    | nil => exact absurd q e0
    | cons p r => exact ⟨p, rfl⟩
  refine psImp (ps_try_as (c := .ref Z.cb) (tb := fun W' => tS Z W' (exec G b false)) (ts := fun a cls d => fun D σ H => ∃ c dd, (∃ p, T.excs[c]? = some p) ∧ cls = .ref (Z.ca c) ∧ d = some dd ∧ tS (Z.hot (a, c, dd)) never (exec G hd true) D σ H) (Wout := W)
    g.stk g.frm g.nd e3 (by show X.env.scope.names.lookup nm = _; rw [g.sc]; exact isLocal_of e4) ⟨gl_of g.toGood e1, (noName_dbg e2).1, .inl (g.excs.base 0 p0 hp0).1⟩ g.takes (fun W' pn xe tk own => hb W' pn xe ?_) fun a oe cls d pn hzc hv => ?_) fun D σ H ⟨env, S, ι, hE, hS, q⟩ => ⟨env, S, ι, hE, hS, ?_⟩
  · exact { K := g.K, sc := g.sc, fn := g.fn, nd := g.nd, units := g.units, grd := g.grd, calm := g.calm, free := g.free, gints := g.gints, gtups := g.gtups, glo := g.glo, dep := g.dep, excs := g.excs, xq := (fun a c dd e => by rw [hz] at e; cases e), xq0 := g.xq0, takes := tk,
            calls := fun X' W' bad l hx t => g.calls X' W' bad ⟨l.prog, l.w, l.K, l.mg, l.base, l.A⟩ (fun z => by rw [hot] at z; cases z) t, kind := g.kind, own := own, fo := g.fo, stk := g.stk, frm := g.frm, hots := g.hots }
  · refine ⟨fun pins s σ H D I ⟨c, dd, hp, ec, ed, hq⟩ => ?_⟩
    subst ec ed
    have good' : GoodS (Z.hot (a, c, dd)) T (G true) (G true) cs (X.suite a ((a, oe) :: pn)) never :=
      { K := g.K, sc := g.sc, fn := g.fn, nd := g.nd, units := g.units, grd := (fun z => by rw [hotT] at z; cases z), calm := (fun z => by rw [hotT] at z; cases z), free := g.free, gints := g.gints, gtups := g.gtups, glo := g.glo, dep := g.dep,
        excs := ⟨g.excs.cls, g.excs.fld, g.excs.val, g.excs.one, g.excs.base⟩, xq := (fun a' c' dd' e => by cases e; exact ⟨hp, oe, List.mem_cons_self, hzc, hv⟩), xq0 := (fun z => by rw [hotT] at z; cases z), takes := takes0,
        calls := (fun X' W' bad l hx t => by have e := hx hotT; subst e; exact g.hots hot a c dd oe pn W' bad hp hzc hv t),
        kind := g.kind, own := PassesOwn.never, fo := g.fo, stk := g.stk, frm := g.frm, hots := (fun z => by rw [hotT] at z; cases z) }
    exact (hh _ _ good' rfl).run pins s σ H D I hq
  · have q : PstS Z W H ι D (exec G (.tryx b T.excs.length i hd) false env S) := q
    simp only [exec, Bool.false_eq_true, if_false] at q
    cases e : exec G b false env S with
    | none => rw [e] at q; exact q
    | some r =>
      obtain ⟨f, S'⟩ := r
      rw [e] at q
      cases f <;> first
        | exact q
        | skip
      rename_i c d env'
      simp only at q
      by_cases hc : c < T.excs.length
      · rw [if_pos hc] at q
        have hp : T.excs[c]? = some T.excs[c] := List.getElem?_eq_getElem hc
        intro σ' v H' ι' dd g1 hS' hE' hd' r'
        refine ⟨true, by rw [g.K]; have := (g.excs.base c _ hp).2.2; rw [g.K] at this; exact this, fun _ a ha => ?_, fun z => nomatch z⟩
        refine ⟨c, dd, ⟨_, hp⟩, rfl, rfl, env'.set i (some (.exc c d)), S', ι', RelE.set2 (hE'.hot hz) (.exc (Z := Z.hot (a, c, dd)) rfl hd' (r'.hot hz)), hS'.hot hz, ?_⟩
        unfold ansH at q
        cases e2 : exec G hd true (env'.set i (some (.exc c d))) S' with
        | none => rw [e2] at q; exact q.elim
        | some r2 =>
          obtain ⟨f2, S2⟩ := r2
          rw [e2] at q
          cases f2 <;> first
            | exact q.elim
            | skip
          rename_i d2
          simp only at q
          by_cases hf : S2 = S' ∧ flatD d2 = true
          · rw [if_pos hf] at q
            obtain ⟨rfl, hf⟩ := hf
            exact fun v2 H2 ι2 g2 s2 r2 => q v2 H2 ι2 (g1.trans g2) (hS'.cool hz s2) (flat_cool hf r2)
          · rw [if_neg hf] at q; exact q.elim
      · rw [if_neg hc] at q; exact q.elim
theorem sndS (hG : ∀ h, (G h).hot = h) : ∀ (c : C) (hh : Bool), SndS T N G hh c := by
  intro c
  induction c with
  | nil =>
    intro hh
    refine ⟨fun Z cs X W g hN st h => by cases st <;> simp [chkS] at h, fun Z cs X W g hN sts h => ?_⟩
    cases sts with
    | nil => exact pss_J_nil
    | cons _ _ => simp [chkB] at h
  | seq s r ih1 ih2 =>
    intro hh
    have ih1 := ih1 hh
    have ih2 := ih2 hh
    refine ⟨fun Z cs X W g hN st h => by cases st <;> simp [chkS] at h, fun Z cs X W g hN sts h => ?_⟩
    cases sts with
    | nil => simp [chkB] at h
    | cons st sts =>
      simp only [chkB, Bool.and_eq_true] at h
      exact pss_J_cons (ih1.one Z cs X W g hN st h.1) (ih2.all Z cs X W g hN sts h.2)
  | set tg e =>
    intro hh
    refine .of (by simp) (by simp) fun Z cs X W g hN st h => ?_
    subst hN
    cases st <;> first
      | (simp only [chkS, Bool.false_eq_true] at h; done)
      | skip
    simp only [chkS] at h
    unfold setL at h
    split at h
    · exact ps_J_set g hG h
    · cases h
  | seti o i e =>
    intro hh
    refine .of (by simp) (by simp) fun Z cs X W g hN st h => ?_
    subst hN
    cases st <;> first
      | (simp only [chkS, Bool.false_eq_true] at h; done)
      | skip
    simp only [chkS] at h
    unfold setiL at h
    split at h
    · simp only [Bool.and_eq_true] at h
      exact ps_J_seti g h.1.1 h.1.2 h.2
    · cases h
  | aug op i e =>
    intro hh
    refine .of (by simp) (by simp) fun Z cs X W g hN st h => ?_
    subst hN
    cases st <;> first
      | (simp only [chkS, Bool.false_eq_true] at h; done)
      | skip
    rename_i t o v p
    cases t <;> first
      | (simp only [chkS, Bool.false_eq_true] at h; done)
      | skip
    simp only [chkS, Bool.and_eq_true, decide_eq_true_eq] at h
    exact ps_J_aug g h.1.1.1 h.1.1.2 h.1.2 h.2
  | augi op o i e =>
    intro hh
    refine .of (by simp) (by simp) fun Z cs X W g hN st h => ?_
    subst hN
    cases st <;> first
      | (simp only [chkS, Bool.false_eq_true] at h; done)
      | skip
    rename_i t o v p
    cases t <;> first
      | (simp only [chkS, Bool.false_eq_true] at h; done)
      | skip
    simp only [chkS, Bool.and_eq_true] at h
    exact ps_J_augi g h.1.1.1 h.1.1.2 h.1.2 h.2
  | exp e =>
    intro hh
    refine .of (by simp) (by simp) fun Z cs X W g hN st h => ?_
    subst hN
    cases st <;> first
      | (simp only [chkS, Bool.false_eq_true] at h; done)
      | skip
    simp only [chkS, Bool.and_eq_true] at h
    exact ps_J_exp g h.1 h.2
  | app o e =>
    intro hh
    refine .of (by simp) (by simp) fun Z cs X W g hN st h => ?_
    subst hN
    cases st <;> first
      | (simp only [chkS, Bool.false_eq_true] at h; done)
      | skip
    rename_i v p
    cases v <;> first
      | (simp only [chkS, Bool.false_eq_true] at h; done)
      | skip
    rename_i f es ks p2
    cases f <;> first
      | (simp only [chkS, Bool.false_eq_true] at h; done)
      | skip
    rcases es with _ | ⟨e, _ | ⟨e2, es⟩⟩ <;> cases ks <;> first
      | (simp only [chkS, Bool.false_eq_true] at h; done)
      | skip
    simp only [chkS, Bool.and_eq_true, decide_eq_true_eq, Bool.not_eq_true'] at h
    obtain ⟨⟨⟨⟨⟨rfl, h1⟩, h2⟩, h3⟩, h4⟩, h5⟩ := h
    exact ps_J_app g h1 h2 h3 h4 h5
  | ext o e =>
    intro hh
    refine .of (by simp) (by simp) fun Z cs X W g hN st h => ?_
    subst hN
    cases st <;> first
      | (simp only [chkS, Bool.false_eq_true] at h; done)
      | skip
    rename_i v p
    cases v <;> first
      | (simp only [chkS, Bool.false_eq_true] at h; done)
      | skip
    rename_i f es ks p2
    cases f <;> first
      | (simp only [chkS, Bool.false_eq_true] at h; done)
      | skip
    rcases es with _ | ⟨e, _ | ⟨e2, es⟩⟩ <;> cases ks <;> first
      | (simp only [chkS, Bool.false_eq_true] at h; done)
      | skip
    simp only [chkS, Bool.and_eq_true, decide_eq_true_eq, Bool.not_eq_true'] at h
    obtain ⟨⟨⟨⟨⟨rfl, h1⟩, h2⟩, h3⟩, h4⟩, h5⟩ := h
    exact ps_J_ext g h1 h2 h3 h4 h5
  | ifs c a b iha ihb =>
    intro hh
    have iha := iha hh
    have ihb := ihb hh
    refine .of (by simp) (by simp) fun Z cs X W g hN st h => ?_
    cases st <;> first
      | (simp only [chkS, Bool.false_eq_true] at h; done)
      | skip
    simp only [chkS, Bool.and_eq_true] at h
    have h1 := iha.all Z cs X W g hN _ h.1.2
    have h2 := ihb.all Z cs X W g hN _ h.2
    subst hN
    exact ps_J_if g h.1.1 h1 h2
  | forr tg k as b ih =>
    intro hh
    have ih := ih hh
    refine .of (by simp) (by simp) fun Z cs X W g hN st h => ?_
    cases st <;> first
      | (simp only [chkS, Bool.false_eq_true] at h; done)
      | skip
    rename_i t it body orelse p
    cases orelse <;> first
      | (simp only [chkS, Bool.false_eq_true] at h; done)
      | skip
    simp only [chkS, Bool.and_eq_true, Bool.not_eq_true'] at h
    have h1 := ih.all Z cs X W g hN _ h.2
    subst hN
    exact ps_J_for g hG h.1.1.1 h.1.1.2 h.1.2 h1
  | whl c b ih =>
    intro hh
    have ih := ih hh
    refine .of (by simp) (by simp) fun Z cs X W g hN st h => ?_
    cases st <;> first
      | (simp only [chkS, Bool.false_eq_true] at h; done)
      | skip
    rename_i t body orelse p
    cases orelse <;> first
      | (simp only [chkS, Bool.false_eq_true] at h; done)
      | skip
    simp only [chkS, Bool.and_eq_true] at h
    have h1 := ih.all Z cs X W g hN _ h.2
    subst hN
    exact ps_J_whl g h.1 h1
  | ret e =>
    intro hh
    refine .of (by simp) (by simp) fun Z cs X W g hN st h => ?_
    subst hN
    cases st <;> first
      | (simp only [chkS, Bool.false_eq_true] at h; done)
      | skip
    rename_i v p
    cases v <;> first
      | (simp only [chkS, Bool.false_eq_true] at h; done)
      | skip
    simp only [chkS] at h
    exact ps_J_ret g h
  | retn =>
    intro hh
    refine .of (by simp) (by simp) fun Z cs X W g hN st h => ?_
    cases st <;> first
      | (simp only [chkS, Bool.false_eq_true] at h; done)
      | skip
    rename_i v p
    cases v <;> first
      | (simp only [chkS, Bool.false_eq_true] at h; done)
      | skip
    refine psImp ps_retN fun D σ H ⟨env, S, ι, hE, hS, h⟩ => ?_
    have h : PstS Z W H ι D (some (.rt .non, S)) := h
    exact h .non H ι .refl hS .non
  | pass =>
    intro hh
    refine .of (by simp) (by simp) fun Z cs X W g hN st h => ?_
    cases st <;> first
      | (simp only [chkS, Bool.false_eq_true] at h; done)
      | skip
    refine psImp ps_pass fun D σ H ⟨env, S, ι, hE, hS, h⟩ => ?_
    have h : PstS Z W H ι D (some (.nx env, S)) := h
    exact h σ H ι .refl hS hE
  | brk =>
    intro hh
    refine .of (by simp) (by simp) fun Z cs X W g hN st h => ?_
    cases st <;> first
      | (simp only [chkS, Bool.false_eq_true] at h; done)
      | skip
    refine psImp ps_break fun D σ H ⟨env, S, ι, hE, hS, h⟩ => ?_
    have h : PstS Z W H ι D (some (.bk env, S)) := h
    exact h σ H ι .refl hS hE
  | cont =>
    intro hh
    refine .of (by simp) (by simp) fun Z cs X W g hN st h => ?_
    cases st <;> first
      | (simp only [chkS, Bool.false_eq_true] at h; done)
      | skip
    refine psImp ps_continue fun D σ H ⟨env, S, ι, hE, hS, h⟩ => ?_
    have h : PstS Z W H ι D (some (.ct env, S)) := h
    exact h σ H ι .refl hS hE
  | «raise» c e =>
    intro hh
    refine .of (by simp) (by simp) fun Z cs X W g hN st h => ?_
    subst hN
    cases st <;> first
      | (simp only [chkS, Bool.false_eq_true] at h; done)
      | skip
    simp only [chkS] at h
    obtain ⟨nm, p, v, pos, tx, rfl, rfl, hx, h1, h2, h3, h4⟩ := raiseL_inv h
    exact ps_J_raise g hG hx h1 h2 h3 h4
  | tryx b k i hd ihb ihh =>
    intro hh
    refine .of (by simp) (by simp) fun Z cs X W g hN st h => ?_
    cases st <;> first
      | (simp only [chkS, Bool.false_eq_true] at h; done)
      | skip
    rename_i body hs orelse fin p
    cases orelse <;> cases fin <;> first
      | (simp only [chkS, Bool.false_eq_true] at h; done)
      | skip
    simp only [chkS, Bool.and_eq_true] at h
    obtain ⟨h1, h2⟩ := h
    obtain ⟨x, np, n, b0, suite, pos', rfl, rfl, e1, e2, e3, e4, rfl, e5, e6⟩ := hdB_inv h2
    cases hh with
    | true => exact ⟨fun pins s σ H D I ⟨env, S, ι, hE, hS, q⟩ => by
        have q : PstS Z W H ι D (exec G (.tryx b T.excs.length i hd) true env S) := q
        simp only [exec, if_true] at q
        exact q.elim⟩
    | false => exact ps_J_try g hG hN e5 e1 e2 e3 e4 (fun W' pn xe g' => (ihb false).all Z cs _ W' g' hN _ h1) (fun Z' X' g' hN' => (ihh true).all Z' cs X' never g' hN' _ e6)
  | tryn b ih =>
    intro hh
    have ih := ih hh
    refine .of (by simp) (by simp) fun Z cs X W g hN st h => ?_
    cases st <;> first
      | (simp only [chkS, Bool.false_eq_true] at h; done)
      | skip
    rename_i body hs orelse fin p
    rcases hs with _ | ⟨h0, hs⟩ <;> cases orelse <;> cases fin <;> first
      | (simp only [chkS, Bool.false_eq_true] at h; done)
      | skip
    simp only [chkS] at h
    have hot : (G hh).hot = hh := hG hh
    cases hh with
    | true => exact ⟨fun pins s σ H D I ⟨env, S, ι, hE, hS, q⟩ => by
        have q : PstS Z W H ι D (exec G (.tryn b) true env S) := q
        simp only [exec, if_true] at q
        exact q.elim⟩
    | false =>
      have g' : GoodS Z T (G false) (G true) cs X.nox never :=
        { K := g.K, sc := g.sc, fn := g.fn, nd := g.nd, units := g.units, grd := g.grd, calm := g.calm, free := g.free, gints := g.gints, gtups := g.gtups, glo := g.glo, dep := g.dep, excs := g.excs, takes := takes0,
          calls := fun X' W' bad l hx t => g.calls X' W' bad ⟨l.prog, l.w, l.K, l.mg, l.base, l.A⟩ (fun z => by rw [hot] at z; cases z) t, xq := (fun a c dd e => by rw [g.xq0 hot] at e; cases e), xq0 := g.xq0, stk := g.stk, frm := g.frm, hots := g.hots,
          kind := g.kind, own := PassesOwn.never, fo := g.fo }
      refine psImp (ps_try_thru0 (ih.all Z cs X.nox never g' hN _ h)) fun D σ H ⟨env, S, ι, hE, hS, q⟩ => ⟨env, S, ι, hE, hS, ?_⟩
      have q : PstS Z W H ι D (exec G (.tryn b) false env S) := q
      simp only [exec, Bool.false_eq_true, if_false] at q
      cases e : exec G b false env S with
      | none => rw [e] at q; exact q
      | some r =>
        obtain ⟨f, S'⟩ := r
        rw [e] at q
        cases f <;> first
          | exact q
          | exact q.elim
  | dead =>
    intro hh
    exact .of (by simp) (by simp) fun Z cs X W g hN st h => ⟨fun pins s σ H D I ⟨env, S, ι, hE, hS, q⟩ => False.elim q⟩
end
end J
/-! J13: own functions -/
namespace J
open PySem L2
section
variable {Z : Sit} {H H' : Hp} {ι ι' : List Addr} {S S' : Store}
/-- data that speaks of old places only -/
theorem cl_rel {n : Nat} {m : List Addr} (hm : m = ι'.take n) (hn : n ≤ ι'.length) : ∀ {d : D} {v : V}, Cl n d → RelD Z H ι' d v → RelD Z H m d v := by
  have key : ∀ N : Nat, (∀ {d : D} {v : V}, sizeOf d < N → Cl n d → RelD Z H ι' d v → RelD Z H m d v) := by
    intro N
    induction N with
    | zero => intro d v h; exact absurd h (Nat.not_lt_zero _)
    | succ N ih =>
      intro d v hN hc hr
      have lists : ∀ {ds : List D} {vs : List V}, (∀ d ∈ ds, sizeOf d < N) → (∀ d ∈ ds, Cl n d) → RelDs Z H ι' ds vs → RelDs Z H m ds vs := by
        intro ds
        induction ds with
        | nil => intro vs _ _ h; cases h; exact .nil
        | cons d ds ih2 =>
          intro vs h1 h2 h
          cases h with
          | cons r t => exact .cons (ih (h1 d (List.mem_cons_self ..)) (h2 d (List.mem_cons_self ..)) r) (ih2 (fun x hx => h1 x (List.mem_cons_of_mem _ hx)) (fun x hx => h2 x (List.mem_cons_of_mem _ hx)) t)
      have sub : ∀ {a : Addr}, a ∉ ι' → a ∉ m := fun h z => h (by rw [hm] at z; exact List.mem_of_mem_take z)
      have szl : ∀ {ds : List D} {f : List D → D}, (∀ ds, sizeOf (f ds) = 1 + sizeOf ds) → sizeOf (f ds) < N + 1 → ∀ d ∈ ds, sizeOf d < N := fun hf h d hd => by
        have := List.sizeOf_lt_of_mem hd
        rw [hf] at h
        omega
      cases hr with
      | non => exact .non
      | bl => exact .bl
      | int => exact .int
      | str => exact .str
      | tup h r => cases hc with | tup hc => exact .tup h (lists (szl (f := .tup) (fun _ => by simp) hN) hc r)
      | lst h q b r => cases hc with | lst hc => exact .lst h (sub q) b (lists (szl (f := .lst) (fun _ => by simp) hN) hc r)
      | flst h q b r => cases hc with | flst hc => exact .flst h (sub q) b (lists (szl (f := .flst) (fun _ => by simp) hN) hc r)
      | flstF h r => cases hc with | flst hc => exact .flstF h (lists (szl (f := .flst) (fun _ => by simp) hN) hc r)
      | loc h =>
        cases hc with
        | loc hl => exact .loc (by rw [hm, List.getElem?_take, if_pos hl]; exact h)
      | fn => exact .fn
      | exc q h r =>
        cases hc with
        | exc hc => exact .exc q h (ih (by simp at hN; omega) hc r)
  intro d v
  exact key (sizeOf d + 1) (Nat.lt_succ_self _)
theorem rel_cl {n : Nat} (hn : ι.length ≤ n) : ∀ {d : D} {v : V}, RelD Z H ι d v → Cl n d := by
  have key : ∀ N : Nat, (∀ {d : D} {v : V}, sizeOf d < N → RelD Z H ι d v → Cl n d) := by
    intro N
    induction N with
    | zero => intro d v h; exact absurd h (Nat.not_lt_zero _)
    | succ N ih =>
      intro d v hN hr
      have lists : ∀ {ds : List D} {vs : List V}, (∀ d ∈ ds, sizeOf d < N) → RelDs Z H ι ds vs → ∀ d ∈ ds, Cl n d := by
        intro ds
        induction ds with
        | nil => intro vs _ _ d hd; cases hd
        | cons d ds ih2 =>
          intro vs h1 h
          cases h with
          | cons r t =>
            intro x hx
            rcases List.mem_cons.mp hx with rfl | hx
            · exact ih (h1 _ (List.mem_cons_self ..)) r
            · exact ih2 (fun x hx => h1 x (List.mem_cons_of_mem _ hx)) t x hx
      have szl : ∀ {ds : List D} {f : List D → D}, (∀ ds, sizeOf (f ds) = 1 + sizeOf ds) → sizeOf (f ds) < N + 1 → ∀ d ∈ ds, sizeOf d < N := fun hf h d hd => by
        have := List.sizeOf_lt_of_mem hd
        rw [hf] at h
        omega
      cases hr with
      | non => exact .non
      | bl => exact .bl
      | int => exact .int
      | str => exact .str
      | tup h r => exact .tup (lists (szl (f := .tup) (fun _ => by simp) hN) r)
      | lst h q b r => exact .lst (lists (szl (f := .lst) (fun _ => by simp) hN) r)
      | flst h q b r => exact .flst (lists (szl (f := .flst) (fun _ => by simp) hN) r)
      | flstF h r => exact .flst (lists (szl (f := .flst) (fun _ => by simp) hN) r)
      | loc h => exact .loc (by have := (List.getElem?_eq_some_iff.mp h).1; omega)
      | fn => exact .fn
      | exc q h r => exact .exc (ih (by simp at hN; omega) r)
  intro d v
  exact key (sizeOf d + 1) (Nat.lt_succ_self _)
theorem mapM_cons {α β : Type} {f : α → Option β} {a : α} {r : List α} {ys : List β} (h : (a :: r).mapM f = some ys) : ∃ b s, f a = some b ∧ r.mapM f = some s ∧ ys = b :: s := by
  rw [List.mapM_cons] at h
  cases e : f a with
  | none => simp [e] at h
  | some b =>
    cases e2 : r.mapM f with
    | none => simp [e, e2] at h
    | some s =>
      simp [e, e2] at h
      exact ⟨b, s, rfl, rfl, h.symm⟩
/-- behind a call: its own places told as they are -/
theorem snap_rel {n : Nat} (hl : n ≤ ι'.length) (hS : RelS Z H ι' S') (hnb : ∀ l a, ι'[l]? = some a → n ≤ l → a ∉ Z.bad) : ∀ (k : Nat) {d d' : D} {v : V}, snap S' n k d = some d' → RelD Z H ι' d v → RelD Z H (ι'.take n) d' v := by
  have sub : ∀ {a : Addr}, a ∉ ι' → a ∉ ι'.take n := fun h z => h (List.mem_of_mem_take z)
  intro k
  induction k with
  | zero =>
    intro d d' v e r
    unfold snap at e
    split at e
    · cases e; exact cl_rel rfl hl (by assumption) r
    · cases e
  | succ k ih =>
    intro d d' v e r
    have lists : ∀ {ds es : List D} {vs : List V}, ds.mapM (snap S' n k) = some es → RelDs Z H ι' ds vs → RelDs Z H (ι'.take n) es vs := by
      intro ds
      induction ds with
      | nil => intro es vs e h; cases h; simp at e; subst e; exact .nil
      | cons d ds ih2 =>
        intro es vs e h
        cases h with
        | cons r t =>
          obtain ⟨b, s, e1, e2, rfl⟩ := mapM_cons e
          exact .cons (ih e1 r) (ih2 e2 t)
    unfold snap at e
    split at e
    · cases e; exact cl_rel rfl hl (by assumption) r
    · rename_i nc
      split at e
      · rename_i l
        split at e
        · rename_i ds hd
          cases q : ds.mapM (snap S' n k) with
          | none => rw [q] at e; cases e
          | some es =>
            rw [q] at e
            cases e
            cases r with
            | @loc a _ hh =>
              obtain ⟨o, ho, rc⟩ := hS.at_ l _ a hd hh
              have hge : n ≤ l := by
                apply Classical.byContradiction
                intro z
                exact nc (.loc (by omega))
              cases rc with
              | lst rr =>
                refine .lst ho (fun z => ?_) (hnb l a hh hge) (lists q rr)
                obtain ⟨j, hj⟩ := List.getElem?_of_mem z
                rw [List.getElem?_take] at hj
                split at hj
                · have := (List.getElem?_inj (List.getElem?_eq_some_iff.mp hj).1 hS.nd).mp (hj.trans hh.symm)
                  omega
                · cases hj
        · cases e
      · rename_i ds
        cases q : ds.mapM (snap S' n k) with
        | none => rw [q] at e; cases e
        | some es =>
          rw [q] at e
          cases e
          cases r with
          | tup h rr => exact .tup h (lists q rr)
      · rename_i ds
        cases q : ds.mapM (snap S' n k) with
        | none => rw [q] at e; cases e
        | some es =>
          rw [q] at e
          cases e
          cases r with
          | lst h n b rr => exact .lst h (sub n) b (lists q rr)
      · cases e
/-- the store behind a call whose places are given up -/
theorem frz_S (hg : Grow H ι H' ι') (hS : RelS Z H ι S) (hS' : RelS Z H' ι' S') (ht : S'.take S.length = S) : ι'.take S.length = ι ∧ RelS Z H' ι S ∧ Grow H ι H' ι := by
  obtain ⟨more, rfl, hm⟩ := hg.pre
  have e : (ι ++ more).take S.length = ι := by rw [← hS.len]; simp
  refine ⟨e, ⟨hS.len, hS.nd, hS'.bad, fun l c a e1 e2 => ?_⟩, ⟨hg.keep, hg.dom, [], by simp, fun _ h => nomatch h⟩⟩
  have e1' : S'[l]? = some c := by
    have hl := (List.getElem?_eq_some_iff.mp e1).1
    rw [← ht, List.getElem?_take, if_pos hl] at e1
    exact e1
  have e2' : (ι ++ more)[l]? = some a := by
    rw [List.getElem?_append_left (List.getElem?_eq_some_iff.mp e2).1]; exact e2
  obtain ⟨o, q, rc⟩ := hS'.at_ l c a e1' e2'
  refine ⟨o, q, ?_⟩
  -- the cell speaks of old places only
  obtain ⟨o0, _, rc0⟩ := hS.at_ l c a e1 e2
  have hlen : S.length ≤ (ι ++ more).length := by rw [← hS.len]; simp
  have cl : ∀ {d : D} {v v0 : V}, RelD Z H ι d v0 → RelD Z H' (ι ++ more) d v → RelD Z H' ι d v := fun r0 r => cl_rel e.symm hlen (rel_cl (by rw [hS.len]; exact Nat.le_refl _) r0) r
  cases rc0 with
  | lst r0 =>
    cases rc with
    | lst r =>
      refine .lst ?_
      clear q e1 e2 e1' e2'
      rename_i ds vs0 vs
      have : ∀ {ds : List D} {vs0 vs : List V}, RelDs Z H ι ds vs0 → RelDs Z H' (ι ++ more) ds vs → RelDs Z H' ι ds vs := by
        intro ds
        induction ds with
        | nil => intro vs0 vs _ h; cases h; exact .nil
        | cons d ds ih =>
          intro vs0 vs h0 h
          cases h0 with
          | cons a0 t0 => cases h with | cons a t => exact .cons (cl a0 a) (ih t0 t)
      exact this r0 r
  | dct r0 =>
    cases rc with
    | dct r =>
      refine .dct ?_
      have : ∀ {kvs : List (D × D)} {s0 s : List (Key × V)}, RelK Z H ι kvs s0 → RelK Z H' (ι ++ more) kvs s → RelK Z H' ι kvs s := by
        intro kvs
        induction kvs with
        | nil => intro s0 s _ h; cases h; exact .nil
        | cons kv kvs ih =>
          intro s0 s h0 h
          cases h0 with
          | int a0 t0 => cases h with | int a t => exact .int (cl a0 a) (ih t0 t)
          | str a0 t0 => cases h with | str a t => exact .str (cl a0 a) (ih t0 t)
      exact this r0 r
theorem frz_pst {W : WX} {σ : L2.St} {Q : D → Store → V → Hp → List Addr → Prop} {r : R D} (hS : RelS Z H ι S) (hq : ∀ d S1 d' S1' v H' ι1 ι2, Q d S1 v H' ι1 → Q d' S1' v H' ι2) (h : Pst Z W σ H ι Q (frz S r)) : Pst Z W σ H ι Q (some r) := by
  cases r with
  | ok d S' =>
    unfold frz at h
    simp only at h
    split at h
    · rename_i ht
      cases hs : snap S' S.length 3 d with
      | none => simp only [hs] at h; exact h.elim
      | some d' =>
        simp only [hs] at h
        intro v H' ι' g s r
        obtain ⟨e, s2, g2⟩ := frz_S g hS s ht
        have hl : S.length ≤ ι'.length := by
          obtain ⟨more, rfl, _⟩ := g.pre
          rw [← hS.len]; simp
        have nb : ∀ l a, ι'[l]? = some a → S.length ≤ l → a ∉ Z.bad := fun l a ha hge => by
          obtain ⟨more, rfl, hm⟩ := g.pre
          rw [List.getElem?_append_right (by rw [hS.len]; exact hge)] at ha
          exact hS.newB (hm a (List.mem_of_getElem? ha))
        have r2 := snap_rel hl s nb 3 hs r
        rw [e] at r2
        exact hq _ _ _ _ _ _ _ _ (h v H' ι g2 s2 r2)
    · exact h.elim
  | exn c d S' =>
    unfold frz at h
    simp only at h
    split at h
    · rename_i ht
      intro v H' ι' dd g s e r
      obtain ⟨e2, s2, g2⟩ := frz_S g hS s ht.1
      have hl : S.length ≤ ι'.length := by
        obtain ⟨more, rfl, _⟩ := g.pre
        rw [← hS.len]; simp
      have cl : Cl S.length d := by
        have : ∀ {n : Nat} {d : D}, Cl 0 d → Cl n d := by
          intro n
          have key : ∀ N : Nat, ∀ d : D, sizeOf d < N → Cl 0 d → Cl n d := by
            intro N
            induction N with
            | zero => intro d h; exact absurd h (Nat.not_lt_zero _)
            | succ N ih =>
              intro d hN hc
              cases hc with
              | non => exact .non
              | bl => exact .bl
              | int => exact .int
              | str => exact .str
              | tup h => exact .tup fun x hx => ih x (by have := List.sizeOf_lt_of_mem hx; simp at hN; omega) (h x hx)
              | lst h => exact .lst fun x hx => ih x (by have := List.sizeOf_lt_of_mem hx; simp at hN; omega) (h x hx)
              | flst h => exact .flst fun x hx => ih x (by have := List.sizeOf_lt_of_mem hx; simp at hN; omega) (h x hx)
              | loc h => exact absurd h (Nat.not_lt_zero _)
              | fn => exact .fn
              | exc h => exact .exc (ih _ (by simp at hN; omega) h)
          intro d h
          exact key (sizeOf d + 1) d (Nat.lt_succ_self _) h
        exact this ht.2
      exact h v H' ι dd g2 s2 e (cl_rel e2.symm hl cl r)
    · exact h.elim
end
end J
/-! J14: each def does what run says -/
namespace J
open PySem L2
/-- a def's promise where no repr is under way -/
structure FnG (P : Program) (w : World) (K : PySem.W.Frag) (mg : Str → Option Value) (base : Heap) (CX : CXT) (k : Nat) (f : Addr) (fd : FuncData) (ps : List Str) (sp : Sp) : Prop where
  lenG : ∀ vs H Q E, sp vs H Q E → vs.length = ps.length
  runG : ∀ (A : Around) (below : List PySem.Env) (s : Shared) (H : Hp) (args : Args) (us : List Value) (vs : List V) (Q : VK) (E : XK), Room k A → A.guards = some [] → Env0 P w K mg base A below s H → BindsTo s fd args (ps.zip us) → Vals vs us → sp vs H Q E →
    codeAny (model P w) A (.call (.ref f) args) (CR CX below P w H s Q E) s
section
open PyProof.Rows
theorem fnG_of {CX : CXT} {P : Program} {w : World} {K : PySem.W.Frag} {mg : Str → Option Value} {base : Heap} {N ps : List Str} {k : Nat} {sp : Sp} {name qual : Str} {params : Arguments} {body : List Stmt} {scope : Scope} {dvs : List V} {kws : List (Str × V)} {f : Addr} {fd : FuncData}
    (F : FunD K name qual params body scope dvs kws f fd) (SC : FnScope N ps scope) (ln : ∀ vs H Q E, sp vs H Q E → vs.length = ps.length)
    (bodyOk : ∀ (cdv : Value) (A : Around) (below : List PySem.Env) (s : Shared) (H : Hp) (vs : List V) (Q : VK) (E : XK), Room k (A.deeper (envOfC qual scope s.heap.objs.size f cdv)) → A.guards = some [] → sp vs H Q E →
      ∃ t, PSs (cxOf CX P w K mg base N qual scope f cdv A below s H E) body t ∧ t { nx := fun _ H' => Q .non H', rt := Q } (L2.start N vs) H) : FnG P w K mg base CX (k + 1) f fd ps sp := by
  obtain ⟨oc, od, dV, kV, doc, pm, an, cdv, ct, osl, rfl, lk, hcd, _, _⟩ := F.ex
  refine ⟨ln, fun A below s H args us vs Q E room hg ev bt rv hsp => ?_⟩
  have inK : K.In s.heap := ev.mod.kin.keeps fun b o e => (ev.bs b o e).1
  have nolim : s.heap.NoLimit := ev.mod.nolimit.keeps fun b o e => (ev.bs b o e).1
  have kinds : ∀ y ∈ ps.zip us, scope.names.lookup y.1 = some .local ∨ (scope.names.lookup y.1 = some .cell ∧ ((cellsFrom (s.heap.objs.size + 1) scope.names []).lookup y.1).isSome = true) := by
    rintro ⟨n, v⟩ hy
    cases SC.par n (List.of_mem_zip hy).1 with
    | inl q => exact .inl q
    | inr q => exact .inr ⟨q, PySem.W.cellsFrom_some _ _ _ (.inl q)⟩
  refine codeAny_call_function room.depth (inK _ _ lk) rfl SC.co SC.gen rfl (PySem.W.codeRec_of inK hcd) (bt _ _ _ _ ?_)
  refine wpAny_newFunctionEnv_cells SC.kind kinds fun env he s1 x => ?_
  subst he
  refine ⟨nolim.keeps x.toInCall.keep, codeAny_func ?_⟩
  obtain ⟨t, ht, hq⟩ := bodyOk cdv A below s H vs Q E (room.deeper _) hg hsp
  have I0 : L2.Inv (cxOf CX P w K mg base N qual scope f cdv A below s H E) [] (L2.start N vs) H s1 := inv_start SC room.hd ev (ln _ _ _ _ hsp) rv x
  refine wpAny_mono (ht.run [] s1 (L2.start N vs) H _ I0 hq) (fun fl s' hs => ?_) fun _ _ hs => hs
  cases fl with
  | ret u =>
    obtain ⟨v, _, H', J, rv', q⟩ := hs
    exact ⟨v, H', J.os, J.bare, J.base, J.hok, rv', q⟩
  | next =>
    obtain ⟨_, H', J, q⟩ := hs
    exact ⟨V.non, H', J.os, J.bare, J.base, J.hok, rfl, q⟩
  | brk => exact False.elim hs.choose_spec.choose_spec.2
  | cont => exact False.elim hs.choose_spec.choose_spec.2
theorem run_fnG {X : Cx} {CX : CXT} {k : Nat} {f : Addr} {fd : FuncData} {ps : List Str} {sp : Sp} {dvs : List V} {ds : List Value} {E : L2.St → XK} {pins : List (Addr × Obj)} {σ : L2.St} {H : Hp} {s : Shared} {Q : VK} {us : List Value} {vs : List V}
    (F : FnG X.prog X.w X.K X.mg X.base CX k f fd ps sp) (room : Room k X.A) (hg : X.A.guards = some []) (bn : Binds X.K fd ps ds) (hd : Vals dvs ds) (px : PassesAt CX X σ (E σ)) (I : L2.Inv X pins σ H s) (r : Vals vs us) (h : sp (vs ++ dvs) H Q (E σ)) :
    wpAny (model X.prog X.w) X.A (call (.ref f) us) (EP X pins σ Q) X.xe s := by
  have both : Vals (vs ++ dvs) (us ++ ds) := r.append hd
  have ln : (us ++ ds).length = ps.length := by rw [← both.length]; exact F.lenG _ _ _ _ h
  refine wpAny_call (codeAny_mono (F.runG X.A X.stack s H ⟨us, []⟩ (us ++ ds) (vs ++ dvs) Q (E σ) room hg I.env0 (bn s us I.kIn ln) both h) fun r s' hq => ?_)
  cases r with
  | error e => exact px pins H s e s' I hq
  | ok fl => cases fl <;> first
      | exact I.after hq
      | exact False.elim hq
end
/-- a def's promise where an exception (at a, of class C, its dict at dd) is handled -/
structure FnHJ (P : Program) (w : World) (K : PySem.W.Frag) (mg : Str → Option Value) (base : Heap) (CX : CXT) (k : Nat) (f : Addr) (fd : FuncData) (ps : List Str) (sp : Sp) (a : Addr) (C : Value) (dd : Addr) : Prop where
  lenH : ∀ vs H Q E, sp vs H Q E → vs.length = ps.length
  runH : ∀ (A : Around) (outer : List PySem.Env) (s : Shared) (H : Hp) (args : Args) (us : List Value) (vs : List V) (Q : VK) (E : XK) (oe : Obj), L2H.RoomH k A → L2H.PinOk outer H s (a, oe) → Zc C (some dd) oe → (∃ vs, oe.data = .fields vs) → Env0 P w K mg base A outer s H → BindsTo s fd args (ps.zip us) → Vals vs us → sp vs H Q E →
    codeAny (model P w) A (.call (.ref f) args) (CR CX outer P w H s Q E) s
section
open PyProof.Rows
theorem fnHJ_of {CX : CXT} {P : Program} {w : World} {K : PySem.W.Frag} {mg : Str → Option Value} {base : Heap} {N ps : List Str} {k : Nat} {sp : Sp} {a dd : Addr} {C : Value} {name qual : Str} {params : Arguments} {body : List Stmt} {scope : Scope} {dvs : List V} {kws : List (Str × V)} {f : Addr} {fd : FuncData}
    (F : FunD K name qual params body scope dvs kws f fd) (SC : FnScope N ps scope) (ln : ∀ vs H Q E, sp vs H Q E → vs.length = ps.length)
    (bodyOk : ∀ (cdv : Value) (A : Around) (below : List PySem.Env) (s : Shared) (H : Hp) (vs : List V) (Q : VK) (E : XK) (oe : Obj), Zc C (some dd) oe → (∃ vs, oe.data = .fields vs) → L2H.RoomH k (A.deeper (envOfC qual scope s.heap.objs.size f cdv)) → sp vs H Q E →
      ∃ t, PSs (L2H.cxH CX P w K mg base N qual scope f cdv A below s H E (a, oe)) body t ∧ t { nx := fun _ H' => Q .non H', rt := Q } (L2.start N vs) H) : FnHJ P w K mg base CX (k + 1) f fd ps sp a C dd := by
  obtain ⟨oc, od, dV, kV, doc, pm, an, cdv, ct, osl, rfl, lk, hcd, _, _⟩ := F.ex
  refine ⟨ln, fun A below s H args us vs Q E oe room hpin hz hv e0 bt rv hsp => ?_⟩
  have inK : K.In s.heap := e0.mod.kin.keeps fun b o e => (e0.bs b o e).1
  have nolim : s.heap.NoLimit := e0.mod.nolimit.keeps fun b o e => (e0.bs b o e).1
  have kinds : ∀ y ∈ ps.zip us, scope.names.lookup y.1 = some .local ∨ (scope.names.lookup y.1 = some .cell ∧ ((cellsFrom (s.heap.objs.size + 1) scope.names []).lookup y.1).isSome = true) := by
    rintro ⟨n, v⟩ hy
    cases SC.par n (List.of_mem_zip hy).1 with
    | inl q => exact .inl q
    | inr q => exact .inr ⟨q, PySem.W.cellsFrom_some _ _ _ (.inl q)⟩
  refine codeAny_call_function room.depth (inK _ _ lk) rfl SC.co SC.gen rfl (PySem.W.codeRec_of inK hcd) (bt _ _ _ _ ?_)
  refine wpAny_newFunctionEnv_cells SC.kind kinds fun env he s1 x => ?_
  subst he
  refine ⟨nolim.keeps x.toInCall.keep, codeAny_func ?_⟩
  obtain ⟨t, ht, hq⟩ := bodyOk cdv A below s H vs Q E oe hz hv (room.deeper _) hsp
  have I0 : L2.Inv (L2H.cxH CX P w K mg base N qual scope f cdv A below s H E (a, oe)) [] (L2.start N vs) H s1 := L2H.inv_startH SC hpin e0 (ln _ _ _ _ hsp) rv x
  refine wpAny_mono (ht.run [] s1 (L2.start N vs) H _ I0 hq) (fun fl s' hs => ?_) fun _ _ hs => hs
  cases fl with
  | ret u =>
    obtain ⟨v, _, H', J, rv', q⟩ := hs
    exact ⟨v, H', J.os, J.bare, J.base, J.hok, rv', q⟩
  | next =>
    obtain ⟨_, H', J, q⟩ := hs
    exact ⟨V.non, H', J.os, J.bare, J.base, J.hok, rfl, q⟩
  | brk => exact False.elim hs.choose_spec.choose_spec.2
  | cont => exact False.elim hs.choose_spec.choose_spec.2
theorem run_fnHJ {X : Cx} {CX : CXT} {k : Nat} {f : Addr} {fd : FuncData} {ps : List Str} {sp : Sp} {a dd : Addr} {C : Value} {oe : Obj} {dvs : List V} {ds : List Value} {E : L2.St → XK} {pins : List (Addr × Obj)} {σ : L2.St} {H : Hp} {s : Shared} {Q : VK} {us : List Value} {vs : List V}
    (F : FnHJ X.prog X.w X.K X.mg X.base CX k f fd ps sp a C dd) (room : L2H.RoomH k X.A) (hp : (a, oe) ∈ X.pn) (hz : Zc C (some dd) oe) (hv : ∃ vs, oe.data = .fields vs) (bn : Binds X.K fd ps ds) (hd : Vals dvs ds) (px : PassesAt CX X σ (E σ)) (I : L2.Inv X pins σ H s) (r : Vals vs us) (h : sp (vs ++ dvs) H Q (E σ)) :
    wpAny (model X.prog X.w) X.A (call (.ref f) us) (EP X pins σ Q) X.xe s := by
  have both : Vals (vs ++ dvs) (us ++ ds) := r.append hd
  have ln : (us ++ ds).length = ps.length := by rw [← both.length]; exact F.lenH _ _ _ _ h
  have P1 := I.pin (a, oe) (List.mem_append_left _ hp)
  have hpin : L2H.PinOk X.stack H s (a, oe) := ⟨P1.1, P1.2.1, fun hm => (List.mem_cons.mp (I.stkSub a hm)).elim P1.2.2.1 P1.2.2.2.1, P1.2.2.2.2⟩
  refine wpAny_call (codeAny_mono (F.runH X.A X.stack s H ⟨us, []⟩ (us ++ ds) (vs ++ dvs) Q (E σ) oe room hpin hz hv I.env0 (bn s us I.kIn ln) both h) fun r s' hq => ?_)
  cases r with
  | error e => exact px pins H s e s' I hq
  | ok fl => cases fl <;> first
      | exact I.after hq
      | exact False.elim hq
end
/-- a default's value -/
def immV : D → V
  | .int i => .int i
  | .str s => .str s
  | .bl b => .bl b
  | _ => .non
def immB : D → Bool
  | .int _ => true
  | .str _ => true
  | .bl _ => true
  | .non => true
  | _ => false
/-- what stands behind the top for a def -/
structure FnTie (T : Tab) (K : PySem.W.Frag) (fn : Fn) (f : Addr) : Prop where
  ex : ∃ (qual : Str) (params : Arguments) (body : List Stmt) (scope : Scope) (fd : FuncData), FunD K fn.name qual params body scope (fn.dfl.map immV) [] f fd ∧ FnScope fn.N fn.ps scope ∧ chkB T fn.N fn.body ⟨scope, none⟩ body = true ∧
    ∀ n ∈ fn.ar, n + (fn.dfl.drop (fn.dfl.length - (fn.ps.length - n))).length = fn.ps.length ∧ ∃ ds, Vals ((fn.dfl.drop (fn.dfl.length - (fn.ps.length - n))).map immV) ds ∧ Binds K fd fn.ps ds
  imm : ∀ d ∈ fn.dfl, immB d = true
/-- all that stands behind the top -/
structure Ties (P : Program) (Z : Sit) (T : Tab) (mg : Str → Option Value) : Prop where
  fns : ∀ (i : Nat) (fn : Fn), T.fns[i]? = some fn → FnTie T Z.K fn (Z.fa i) ∧ mg fn.name = some (.ref (Z.fa i)) ∧ PySem.W.keepIn Z.K (.ref (Z.fa i)) = true
  free : ∀ x ∈ freeN, mg x = none
  gints : ∀ x n, (x, n) ∈ T.gints → ∃ t, mg x = some (.int n t)
  gtups : ∀ x ws, (x, ws) ∈ T.gtups → ∃ a, mg x = some (.ref a) ∧ ∀ H, SqT Z.K H a (ws.map V.str)
  excs : ExcsOk P Z.K mg Z T
/-- what a def promises -/
def spJ (Z : Sit) (T : Tab) (k : Nat) (h : Bool) (i : Nat) (fn : Fn) : Sp := fun vs H Q E => vs.length = fn.ps.length ∧ ∃ bad ds S ι, RelS { Z with bad := bad } H ι S ∧ RelDs { Z with bad := bad } H ι ds vs ∧
  Pst { Z with bad := bad } (fun c d _ H => E c d H) [] H ι (fun _ _ v H' _ => Q v H') (run T.fns k h i ds S)
section
variable {Z : Sit} {T : Tab} {mg : Str → Option Value} {P : Program} {w : World} {base : Heap}
theorem imm_rel {H : Hp} {ι : List Addr} {d : D} (h : immB d = true) : RelD Z H ι d (immV d) := by
  cases d <;> first
    | (cases h; done)
    | exact .non
    | exact .bl
    | exact .int
    | exact .str
theorem imm_rels {H : Hp} {ι : List Addr} : ∀ {ds : List D}, (∀ d ∈ ds, immB d = true) → RelDs Z H ι ds (ds.map immV)
  | [], _ => .nil
  | d :: ds, h => .cons (imm_rel (h d (List.mem_cons_self ..))) (imm_rels fun x hx => h x (List.mem_cons_of_mem _ hx))
theorem fill_full {fn : Fn} {ds : List D} (h : ds.length = fn.ps.length) : fill fn ds = ds := by
  unfold fill
  rw [h]
  simp
theorem run_fill {F : List Fn} {k : Nat} {h : Bool} {i : Nat} {fn : Fn} {ds : List D} {S : Store} (hf : F[i]? = some fn) (hl : (fill fn ds).length = fn.ps.length) : run F k h i ds S = run F k h i (fill fn ds) S := by
  cases k with
  | zero => rfl
  | succ k => simp only [run, hf, fill_full hl]
theorem start_rel {H : Hp} {ι : List Addr} {fn : Fn} {ds : List D} {vs : List V} (r : RelDs Z H ι ds vs) : RelE Z H ι (startE fn ds) (L2.start fn.N vs) := by
  have hl := r.length
  refine ⟨by simp [startE, L2.start, hl], fun i d e => ?_⟩
  unfold startE at e
  by_cases hi : i < ds.length
  · rw [List.getElem?_append_left (by simpa using hi), List.getElem?_map] at e
    cases q : ds[i]? with
    | none => simp [q] at e
    | some d' =>
      simp [q] at e
      subst e
      obtain ⟨v, e1, rv⟩ := r.get q
      refine ⟨v, ?_, rv⟩
      unfold L2.start
      rw [List.getElem?_append_left (by rw [List.length_map, ← hl]; exact hi), List.getElem?_map, e1]
      rfl
  · rw [List.getElem?_append_right (by simpa using hi), List.getElem?_replicate] at e
    split at e <;> cases e
/-- calls, from what the defs promise -/
theorem callOk_of (hT : Ties P Z T mg) {k : Nat} {h : Bool} {X : Cx} {W : WX} (hK : X.K = Z.K) (tk : Takes X W) (hr : Room k X.A) (bad : List Addr)
    (F : ∀ i fn, T.fns[i]? = some fn → ∀ fd, (∃ (qual : Str) (params : Arguments) (body : List Stmt) (scope : Scope), FunD Z.K fn.name qual params body scope (fn.dfl.map immV) [] (Z.fa i) fd ∧ FnScope fn.N fn.ps scope ∧ chkB T fn.N fn.body ⟨scope, none⟩ body = true) → FnG X.prog X.w X.K X.mg X.base (L2.CX X.prog X.w) k (Z.fa i) fd fn.ps (spJ Z T k h i fn)) (hgd : X.A.guards = some []) :
    CallOk { Z with bad := bad } T ⟨h, run T.fns k h⟩ X W := by
  intro f fn keep hf pins s σ H vs us Q har I rv ⟨ds, S, ι, hS, rr, hp⟩
  obtain ⟨⟨⟨qual, params, body, scope, fd, hF, hSc, hchk, hb⟩, himm⟩, _, _⟩ := hT.fns f fn hf
  obtain ⟨hlen, dvs, hdv, hbi⟩ := hb _ har
  have FF := F f fn hf fd ⟨qual, params, body, scope, hF, hSc, hchk⟩
  have hfl : (fill fn ds).length = fn.ps.length := by
    unfold fill
    rw [List.length_append, rr.length]
    exact hlen
  refine run_fnG FF hr hgd (by rw [hK]; exact hbi) hdv (passAt tk σ) I rv ⟨?_, bad, fill fn ds, S, ι, hS, ?_, ?_⟩
  · rw [List.length_append, List.length_map]
    exact hlen
  · unfold fill
    have e : fn.ps.length - ds.length = fn.ps.length - vs.length := by rw [rr.length]
    rw [e]
    exact rr.append (imm_rels fun d hd => himm d (List.mem_of_mem_drop hd))
  · rw [← run_fill hf hfl]
    have hp : Pst { Z with bad := bad } W σ H ι (fun _ _ v H' _ => Q v H') (match run T.fns k h f ds S with
      | none => none
      | some r => if keep = true then some r else frz S r) := hp
    cases e : run T.fns k h f ds S with
    | none => rw [e] at hp; exact hp
    | some r =>
      rw [e] at hp
      have hp : Pst { Z with bad := bad } W σ H ι (fun _ _ v H' _ => Q v H') (some r) := by
        cases keep with
        | true => exact hp
        | false => exact frz_pst hS (fun _ _ _ _ _ _ _ _ q => q) hp
      cases r with
      | ok d S1 => exact hp
      | exn c d S1 => exact fun v H' ι' dd g s e r => hp v H' ι' dd g s e r
/-- calls where an exception is handled -/
theorem callOk_ofH (hT : Ties P Z T mg) {k : Nat} {X : Cx} {W : WX} {a dd : Addr} {c : Nat} {oe : Obj} (hK : X.K = Z.K) (tk : Takes X W) (hr : L2H.RoomH k X.A) (hp : (a, oe) ∈ X.pn) (hz : Zc (.ref (Z.ca c)) (some dd) oe) (hv : ∃ vs, oe.data = .fields vs) (bad : List Addr)
    (F : ∀ i fn, T.fns[i]? = some fn → ∀ fd, (∃ (qual : Str) (params : Arguments) (body : List Stmt) (scope : Scope), FunD Z.K fn.name qual params body scope (fn.dfl.map immV) [] (Z.fa i) fd ∧ FnScope fn.N fn.ps scope ∧ chkB T fn.N fn.body ⟨scope, none⟩ body = true) → FnHJ X.prog X.w X.K X.mg X.base (L2.CX X.prog X.w) k (Z.fa i) fd fn.ps (spJ (Z.hot (a, c, dd)) T k true i fn) a (.ref (Z.ca c)) dd) :
    CallOk { Z.hot (a, c, dd) with bad := bad } T ⟨true, run T.fns k true⟩ X W := by
  intro f fn keep hf pins s σ H vs us Q har I rv ⟨ds, S, ι, hS, rr, hp'⟩
  obtain ⟨⟨⟨qual, params, body, scope, fd, hF, hSc, hchk, hb⟩, himm⟩, _, _⟩ := hT.fns f fn hf
  obtain ⟨hlen, dvs, hdv, hbi⟩ := hb _ har
  have FF := F f fn hf fd ⟨qual, params, body, scope, hF, hSc, hchk⟩
  have hfl : (fill fn ds).length = fn.ps.length := by
    unfold fill
    rw [List.length_append, rr.length]
    exact hlen
  refine run_fnHJ FF hr hp hz hv (by rw [hK]; exact hbi) hdv (passAt tk σ) I rv ⟨?_, bad, fill fn ds, S, ι, hS, ?_, ?_⟩
  · rw [List.length_append, List.length_map]
    exact hlen
  · unfold fill
    have e : fn.ps.length - ds.length = fn.ps.length - vs.length := by rw [rr.length]
    rw [e]
    exact rr.append (imm_rels fun d hd => himm d (List.mem_of_mem_drop hd))
  · rw [← run_fill hf hfl]
    have hp : Pst { Z.hot (a, c, dd) with bad := bad } W σ H ι (fun _ _ v H' _ => Q v H') (match run T.fns k true f ds S with
      | none => none
      | some r => if keep = true then some r else frz S r) := hp'
    cases e : run T.fns k true f ds S with
    | none => rw [e] at hp; exact hp
    | some r =>
      rw [e] at hp
      have hp : Pst { Z.hot (a, c, dd) with bad := bad } W σ H ι (fun _ _ v H' _ => Q v H') (some r) := by
        cases keep with
        | true => exact hp
        | false => exact frz_pst hS (fun _ _ _ _ _ _ _ _ q => q) hp
      cases r with
      | ok d S1 => exact hp
      | exn c d S1 => exact fun v H' ι' dd g s e r => hp v H' ι' dd g s e r
theorem fn_okH (hT : Ties P Z T mg) (a dd : Addr) (c : Nat) (hc : ∃ p, T.excs[c]? = some p) : ∀ (k i : Nat) (fn : Fn), T.fns[i]? = some fn → ∀ fd, (∃ (qual : Str) (params : Arguments) (body : List Stmt) (scope : Scope), FunD Z.K fn.name qual params body scope (fn.dfl.map immV) [] (Z.fa i) fd ∧ FnScope fn.N fn.ps scope ∧ chkB T fn.N fn.body ⟨scope, none⟩ body = true) →
    FnHJ P w Z.K mg base (L2.CX P w) k (Z.fa i) fd fn.ps (spJ (Z.hot (a, c, dd)) T k true i fn) a (.ref (Z.ca c)) dd := by
  intro k
  induction k with
  | zero =>
    intro i fn hf fd _
    refine ⟨fun vs H Q E h => h.1, fun A outer s H args us vs Q E oe hr hpin hz hv e0 hb hvl hs => ?_⟩
    obtain ⟨_, bad, ds, S, ι, _, _, hp⟩ := hs
    exact hp.elim
  | succ k ih =>
    intro i fn hf fd ⟨qual, params, body, scope, hF, hSc, hchk⟩
    refine fnHJ_of hF hSc (fun vs H Q E h => h.1) fun cdv A outer s H vs Q E oe hz hv hr hs => ?_
    obtain ⟨hl, bad, ds, S, ι, hS, rr, hp⟩ := hs
    have tk : Takes (L2H.cxH (L2.CX P w) P w Z.K mg base fn.N qual scope (Z.fa i) cdv A outer s H E (a, oe)) (fun c d _ H => E c d H) := takes_of rfl rfl rfl rfl
    have hG : ∀ h, ((fun h' => ⟨h', run T.fns k h'⟩ : Bool → Ctx) h).hot = h := fun _ => rfl
    have good : GoodS { Z.hot (a, c, dd) with bad := bad } T ((fun h' => ⟨h', run T.fns k h'⟩ : Bool → Ctx) true) ((fun h' => ⟨h', run T.fns k h'⟩ : Bool → Ctx) true) ⟨scope, none⟩ (L2H.cxH (L2.CX P w) P w Z.K mg base fn.N qual scope (Z.fa i) cdv A outer s H E (a, oe)) (fun c d _ H => E c d H) := by
      refine { K := rfl, sc := rfl, fn := fun x _ => .inl rfl, nd := hSc.nd, units := ?_, grd := (fun z => by cases z), calm := (fun z => by cases z), free := hT.free, gints := hT.gints, gtups := hT.gtups, glo := fun f fn hf => (hT.fns f fn hf).2, dep := (by have := hr.dp; show (A.deeper (PyProof.Rows.envOfC qual scope s.heap.objs.size (Z.fa i) cdv)).depth + 1 < _; omega),
               excs := ⟨hT.excs.cls, hT.excs.fld, hT.excs.val, hT.excs.one, hT.excs.base⟩, xq := (fun a' c' dd' e => by cases e; exact ⟨hc, oe, List.mem_cons_self, hz, hv⟩), xq0 := (fun z => by cases z), takes := tk, calls := fun X' W' bad l hx t => ?_, kind := hSc.kind, own := passes_of (X := L2H.cxH (L2.CX P w) P w Z.K mg base fn.N qual scope (Z.fa i) cdv A outer s H E (a, oe)) rfl, fo := rfl, stk := rfl, frm := rfl, hots := (fun z => by cases z) }
      · have := hr.un
        show (A.deeper (PyProof.Rows.envOfC qual scope s.heap.objs.size (Z.fa i) cdv)).units + 65 < cLine
        omega
      · have e := hx rfl
        subst e
        exact callOk_ofH hT rfl t hr List.mem_cons_self hz hv bad fun i fn hf fd hx => ih i fn hf fd hx
    refine ⟨_, (sndS hG fn.body true).all _ _ _ _ good rfl body hchk, startE fn ds, S, ι, start_rel rr, hS, ?_⟩
    have hfl : fill fn ds = ds := fill_full (by rw [rr.length]; exact hl)
    simp only [run, hf, hfl, rr.length, hl, if_true] at hp
    cases e : exec (fun h' => ⟨h', run T.fns k h'⟩) fn.body true (startE fn ds) S with
    | none => rw [e] at hp; exact hp
    | some q =>
      obtain ⟨f, S'⟩ := q
      rw [e] at hp
      cases f with
      | nx env => exact fun σ' H' ι' g s _ => hp .non H' ι' g s .non
      | bk env => exact hp.elim
      | ct env => exact hp.elim
      | rt d => exact hp
      | ex c d env => exact fun σ' v H' ι' dd g s _ e r => hp v H' ι' dd g s e r
theorem fn_ok (hT : Ties P Z T mg) (hz : Z.xq = none) : ∀ (k i : Nat) (fn : Fn), T.fns[i]? = some fn → ∀ fd, (∃ (qual : Str) (params : Arguments) (body : List Stmt) (scope : Scope), FunD Z.K fn.name qual params body scope (fn.dfl.map immV) [] (Z.fa i) fd ∧ FnScope fn.N fn.ps scope ∧ chkB T fn.N fn.body ⟨scope, none⟩ body = true) →
    FnG P w Z.K mg base (L2.CX P w) k (Z.fa i) fd fn.ps (spJ Z T k false i fn) := by
  intro k
  induction k with
  | zero =>
    intro i fn hf fd _
    refine ⟨fun vs H Q E h => h.1, fun A outer s H args us vs Q E hr hgd e0 hb hv hs => ?_⟩
    obtain ⟨_, bad, ds, S, ι, _, _, hp⟩ := hs
    exact hp.elim
  | succ k ih =>
    intro i fn hf fd ⟨qual, params, body, scope, hF, hSc, hchk⟩
    refine fnG_of hF hSc (fun vs H Q E h => h.1) fun cdv A outer s H vs Q E hr hgd hs => ?_
    obtain ⟨hl, bad, ds, S, ι, hS, rr, hp⟩ := hs
    have tk : Takes (cxOf (L2.CX P w) P w Z.K mg base fn.N qual scope (Z.fa i) cdv A outer s H E) (fun c d _ H => E c d H) := takes_of rfl rfl rfl rfl
    have hG : ∀ h, ((fun h' => ⟨h', run T.fns k h'⟩ : Bool → Ctx) h).hot = h := fun _ => rfl
    have good : GoodS { Z with bad := bad } T ((fun h' => ⟨h', run T.fns k h'⟩ : Bool → Ctx) false) ((fun h' => ⟨h', run T.fns k h'⟩ : Bool → Ctx) true) ⟨scope, none⟩ (cxOf (L2.CX P w) P w Z.K mg base fn.N qual scope (Z.fa i) cdv A outer s H E) (fun c d _ H => E c d H) := by
      refine { K := rfl, sc := rfl, fn := fun x _ => .inl rfl, nd := hSc.nd, units := ?_, grd := fun _ => hgd, calm := fun _ => rfl, free := hT.free, gints := hT.gints, gtups := hT.gtups, glo := fun f fn hf => (hT.fns f fn hf).2, dep := (by have := hr.dp; show (A.deeper (PyProof.Rows.envOfC qual scope s.heap.objs.size (Z.fa i) cdv)).depth + 1 < _; omega), excs := ⟨hT.excs.cls, hT.excs.fld, hT.excs.val, hT.excs.one, hT.excs.base⟩, xq := (fun a c dd e => by rw [show ({ Z with bad := bad } : Sit).xq = Z.xq from rfl, hz] at e; cases e), xq0 := fun _ => hz, takes := tk, calls := fun X' W' bad l hx t => ?_, kind := hSc.kind, own := passes_of (X := cxOf (L2.CX P w) P w Z.K mg base fn.N qual scope (Z.fa i) cdv A outer s H E) rfl, fo := rfl, stk := rfl, frm := rfl, hots := fun _ a c dd oe pn W' bad hp hz hv t => callOk_ofH hT rfl t ⟨hr.dp, hr.un⟩ List.mem_cons_self hz hv bad fun i fn hf fd hx => fn_okH hT a dd c hp k i fn hf fd hx }
      · have := hr.un
        show (A.deeper (PyProof.Rows.envOfC qual scope s.heap.objs.size (Z.fa i) cdv)).units + 65 < cLine
        omega
      · obtain ⟨l1, l2, l3, l4, l5, l6⟩ := l
        refine callOk_of hT l3 t (by rw [l6]; exact hr) bad (fun i fn hf fd hx => ?_) (by rw [l6]; exact hgd)
        have := ih i fn hf fd hx
        rw [l1, l2, l3, l4, l5]
        exact this
    refine ⟨_, (sndS hG fn.body false).all _ _ _ _ good rfl body hchk, startE fn ds, S, ι, start_rel rr, hS, ?_⟩
    have hfl : fill fn ds = ds := fill_full (by rw [rr.length]; exact hl)
    simp only [run, hf, hfl, rr.length, hl, if_true] at hp
    cases e : exec (fun h' => ⟨h', run T.fns k h'⟩) fn.body false (startE fn ds) S with
    | none => rw [e] at hp; exact hp
    | some q =>
      obtain ⟨f, S'⟩ := q
      rw [e] at hp
      cases f with
      | nx env => exact fun σ' H' ι' g s _ => hp .non H' ι' g s .non
      | bk env => exact hp.elim
      | ct env => exact hp.elim
      | rt d => exact hp
      | ex c d env => exact fun σ' v H' ι' dd g s _ e r => hp v H' ι' dd g s e r
end
end J
/-! J14x: what the top says of own classes of exceptions -/
namespace J
open PySem L2
open PySem.AxX in
/-- __init__'s parameters and body -/
def initB (tx : Str) (ps : Arguments) (body : List Stmt) : Bool := match ps, body with
  | ⟨[], [⟨s1, none, _⟩, ⟨s2, none, _⟩], none, [], [], none, []⟩, [.Expr (.Call (.Attribute (.Call (.Name x0 _) [] [] _) x1 q2) [.JoinedStr [.Constant (.str t) j _, .FormattedValue (.Name x2 _) k none _] _] [] q7) _, .Assign [.Attribute (.Name y0 _) y1 _] (.Name y2 _) _] =>
    decide (s1 = ("self" : Str)) && decide (s2 = ("reason" : Str)) && decide (x0 = ("super" : Str)) && decide (x1 = ("__init__" : Str)) && decide (t = tx) && decide (j = 0) && decide (x2 = ("reason" : Str)) && decide (k = -1) && decide (y0 = ("self" : Str)) && decide (y1 = ("reason" : Str)) && decide (y2 = ("reason" : Str)) && (q2.endLine == q7.line)
  | _, _ => false
open PySem.AxX in
theorem initB_inv {tx : Str} {ps : Arguments} {body : List Stmt} (h : initB tx ps body = true) :
    ∃ p1 p2 q0 q1 q2 q3 q4 q5 q6 q7 q8 r1 r2 r3 r4, ps = iA p1 p2 ∧ body = iB tx q0 q1 q2 q3 q4 q5 q6 q7 q8 r1 r2 r3 r4 ∧ (q2.endLine == q7.line) = true := by
  unfold initB at h
  split at h
  · simp only [Bool.and_eq_true, decide_eq_true_eq] at h
    obtain ⟨⟨⟨⟨⟨⟨⟨⟨⟨⟨⟨rfl, rfl⟩, rfl⟩, rfl⟩, rfl⟩, rfl⟩, rfl⟩, rfl⟩, rfl⟩, rfl⟩, rfl⟩, h⟩ := h
    exact ⟨_, _, _, _, _, _, _, _, _, _, _, _, _, _, _, rfl, rfl, h⟩
  · cases h
/-- an own class -/
structure ExcD where
  nm : Str
  tx : Str
  qual : Str
  params : Arguments
  body : List Stmt
  scope : Scope
abbrev FnZ : Type := Option (Str × Str × Arguments × FuncBody × Scope × Addr × Addr)
def fnZ (K : PySem.W.Frag) (a : Addr) : FnZ := match K.lookup a with
  | some ⟨_, _, .func fd, _⟩ => some (fd.name, fd.qualname, fd.params, fd.body, fd.scope, fd.globals, fd.builtins)
  | _ => none
def ExcD.fI (K : PySem.W.Frag) (x : ExcD) : Addr := He.ma K (He.ga K x.nm) "__init__"
def ExcD.val (x : ExcD) : FnZ := some ("__init__", x.qual, x.params, .stmts x.body, x.scope, mainGlobals, builtinsNs)
def clsOkB (K : PySem.W.Frag) (C : Addr) : Bool := match K.lookup C with
  | some ⟨.type t, _, .cls cd, sl⟩ => decide (t = "type") && (match cd.mro, sl.toList with
    | .ref C' :: bm, [_, _, _, _, some (.builtin n), _] => decide (C' = C) && decide (n = "ValueError.__new__") && !cd.hasDel && cd.hasDict && HandSPX.refsVE bm
    | _, _ => false)
  | _ => false
def codeFileB (K : PySem.W.Frag) (file : Str) (cda : Addr) : Bool := match K.lookup cda with
  | some ⟨_, _, .fields vs, _⟩ => (match (vs[2]? : Option Value) with
    | some (Value.str f _) => decide (f = file)
    | _ => false)
  | _ => false
def cellB (K : PySem.W.Frag) (C cc : Addr) : Bool := match K.lookup cc with
  | some ⟨_, _, .cell (some (.ref C')), _⟩ => decide (C' = C)
  | _ => false
/-- the function's other parts -/
def fnRestB (K : PySem.W.Frag) (file qual : Str) (C f : Addr) : Bool := match K.lookup f with
  | some ⟨_, _, .func fd, _⟩ => (match fd.closure, fd.defaults, fd.kwdefaults, fd.code with
    | [(n, cc)], .none, .none, .ref cda => decide (n = ("__class__" : Str)) && cellB K C cc && PySem.W.codeIn K (.ref cda) qual && codeFileB K file cda
    | _, _, _, _ => false)
  | _ => false
def vb (a : Option (Option Value)) (b : Option (Option Value)) : Bool := decide (a = b)
def ExcD.okB (K : PySem.W.Frag) (file : Str) (x : ExcD) : Bool :=
  let C := He.ga K x.nm
  clsOkB K C && vb (PySem.W.findIn K (.ref C) "__setattr__") (some (some (.builtin "object.__setattr__"))) && vb (PySem.W.findIn K (.ref C) "reason") (some none) &&
  vb (PySem.W.findIn K (.ref C) "__init__") (some (some (.ref (x.fI K)))) && decide (PySem.W.typeIn K (.ref (x.fI K)) = some (.type "function")) && PySem.W.keepIn K (.ref C) &&
  decide (PySem.W.subIn K (.ref C) (.type "BaseException") = some true) && decide (PySem.W.typeIn K (.ref C) = some (.type "type")) && PySem.W.hasDictIn K C &&
  fnRestB K file x.qual C (x.fI K) && decide (PySem.W.mroIn K C (.ref C) = some true) && vb (PySem.W.ks_superIn K C C "__init__") (some (some (.builtin "ValueError.__init__"))) &&
  decide (PySem.W.subIn K (.ref C) (.type "ValueError") = some true) && vb (PySem.W.nsIn K cStatics "thirdparty.any") (some none) &&
  vb (PySem.W.findIn K (.ref C) "__getattribute__") (some (some (.builtin "BaseException.__getattribute__"))) && vb (PySem.W.findIn K (.ref C) "__getattr__") (some none) &&
  vb (PySem.W.findIn K (.ref C) "__class__") (some (some (.builtin "object.__class__"))) && vb (PySem.W.specialIn K (.builtin "object.__class__") "__get__") (some (some (.builtin "getset_descriptor.__get__"))) &&
  decide (PySem.W.takesIn K (.builtin "object.__class__") = some true) && decide (PySem.W.mroIn K C (.type "object") = some true)
/-- the classes beside each other -/
def pairsB (K : PySem.W.Frag) (xs : List ExcD) (base : Str) : Bool := xs.all fun x =>
  decide (PySem.W.kitOne K (.ref (He.ga K x.nm)) (.type "ValueError") = some true) && decide (PySem.W.kitOne K (.ref (He.ga K x.nm)) (.ref (He.ga K base)) = some true) && decide (PySem.W.exmOne K (.ref (He.ga K x.nm)) (.ref (He.ga K base)) = some true) &&
  xs.all fun y => decide (PySem.W.kitOne K (.ref (He.ga K x.nm)) (.ref (He.ga K y.nm)) = some (decide (x.nm = y.nm)))
def exTxtB (x : ExcD) : Bool := initB x.tx x.params x.body && (match x.scope with
  | ⟨.function, [(n1, .local), (n2, .local), (n3, .free), (n4, .globalImplicit)], false, false, []⟩ => decide (n1 = PySem.Str.ofString "self") && decide (n2 = PySem.Str.ofString "reason") && decide (n3 = PySem.Str.ofString "__class__") && decide (n4 = PySem.Str.ofString "super")
  | _ => false) && decide (x.tx.length ≤ 1000)
theorem clsOkB_inv {K : PySem.W.Frag} {C : Addr} (h : clsOkB K C = true) : ∃ nm q N bs bm sn sub ab col dd k0 k1 k2 k3 k5, K.lookup C = some (excClassObj nm q C N bs bm true sn sub ab col dd k0 k1 k2 k3 k5 "ValueError.__new__") ∧ HandSPX.refsVE bm = true := by
  unfold clsOkB at h
  split at h
  · rename_i t dd cd sl ho
    simp only [Bool.and_eq_true, decide_eq_true_eq] at h
    obtain ⟨rfl, h⟩ := h
    split at h
    · rename_i C' bm k0 k1 k2 k3 n k5 hm hs
      simp only [Bool.and_eq_true, decide_eq_true_eq, Bool.not_eq_true'] at h
      obtain ⟨⟨⟨⟨rfl, rfl⟩, h1⟩, h2⟩, h3⟩ := h
      obtain ⟨nm, bs, mro, N, q, hdct, sn, sub, ab, col, hdl⟩ := cd
      simp only at hm h1 h2
      subst hm h1 h2
      obtain ⟨sl⟩ := sl
      simp only at hs
      subst hs
      exact ⟨nm, q, N, bs, bm, sn, sub, ab, col, dd, k0, k1, k2, k3, k5, ho, h3⟩
    · cases h
  · cases h
theorem vb_ok {a b : Option (Option Value)} (h : vb a b = true) : a = b := of_decide_eq_true h
theorem axTxt_of {P : Program} {K : PySem.W.Frag} {mg : Str → Option Value} {file : Str} {x : ExcD} (hf : P.main.file = file) (ht : (P.main.scope.names.lookup ("super" : Str)).isSome = false) (hs : mg "super" = none) (h1 : exTxtB x = true) (h2 : x.okB K file = true) (h3 : fnZ K (x.fI K) = x.val) :
    (∃ fI cc cda, PySem.AxX.AxTxt P K mg x.tx (He.ga K x.nm) fI cc cda) ∧ x.tx.length ≤ 1000 ∧ XfC K (He.ga K x.nm) ∧ ExcC K (He.ga K x.nm) ∧ PySem.W.findIn K (.ref (He.ga K x.nm)) "reason" = some none := by
  unfold exTxtB at h1
  simp only [Bool.and_eq_true, decide_eq_true_eq] at h1
  obtain ⟨⟨hi, hsc⟩, hlen⟩ := h1
  obtain ⟨p1, p2, q0, q1, q2, q3, q4, q5, q6, q7, q8, r1, r2, r3, r4, hp, hb, hq⟩ := initB_inv hi
  have hsc' : x.scope = PySem.AxX.iS := by
    split at hsc
    · rename_i n1 n2 n3 n4 e
      simp only [Bool.and_eq_true, decide_eq_true_eq] at hsc
      obtain ⟨⟨⟨rfl, rfl⟩, rfl⟩, rfl⟩ := hsc
      exact e
    · cases hsc
  unfold ExcD.okB at h2
  simp only [Bool.and_eq_true, decide_eq_true_eq] at h2
  obtain ⟨⟨⟨⟨⟨⟨⟨⟨⟨⟨⟨⟨⟨⟨⟨⟨⟨⟨⟨c1, c2⟩, c3⟩, c4⟩, c5⟩, c6⟩, c7⟩, c8⟩, c9⟩, c10⟩, c11⟩, c12⟩, c13⟩, c14⟩, c15⟩, c16⟩, c17⟩, c18⟩, c19⟩, c20⟩ := h2
  have c2 := vb_ok c2
  have c3 := vb_ok c3
  have c4 := vb_ok c4
  have c12 := vb_ok c12
  have c14 := vb_ok c14
  have c15 := vb_ok c15
  have c16 := vb_ok c16
  have c17 := vb_ok c17
  have c18 := vb_ok c18
  -- __init__
  unfold fnRestB at c10
  unfold fnZ at h3
  split at c10
  · rename_i oc od fd osl ho
    rw [ho] at h3
    obtain ⟨n1, n2, n3, n4, n5, n6, n7, n8, n9, n10, n11, n12, n13, n14, n15⟩ := fd
    have e2 : (some (n1, n2, n3, n4, n5, n6, n15) : FnZ) = some (("__init__" : Str), x.qual, x.params, FuncBody.stmts x.body, x.scope, mainGlobals, builtinsNs) := h3
    simp only [Option.some.injEq, Prod.mk.injEq] at e2
    obtain ⟨g1, g2, g3, g4, g5, g6, g7⟩ := e2
    subst g1 g2 g3 g4 g5 g6 g7
    simp only at c10
    split at c10
    · rename_i n cc cda
      simp only [Bool.and_eq_true, decide_eq_true_eq] at c10
      obtain ⟨⟨⟨rfl, d1⟩, d2⟩, d3⟩ := c10
      refine ⟨⟨x.fI K, cc, cda, { cls := clsOkB_inv c1, sa := c2, noN := c3, iC := c4, tC := c5, kC := c6, exC := c7, tyC := c8, hdC := c9, fn := ⟨x.qual, oc, od, n10, n11, n12, n14, osl, p1, p2, q0, q1, q2, q3, q4, q5, q6, q7, q8, r1, r2, r3, r4, ?_, d2, hq⟩, code := ?_, cell := ?_, sup := hs, top := ht, sub := c11, supI := c12, subV := c13, anyN := c14 }⟩,
        hlen, ⟨c15, c16, c7, c9⟩, ⟨c15, c16, c7, c9, c17, c18, c19, c20⟩, c3⟩
      · rw [ho, hp, hb, hsc']
      · unfold codeFileB at d3
        split at d3
        · rename_i ccl cdd vs ccs hc
          split at d3
          · rename_i f tf hv
            have d3 := of_decide_eq_true d3
            subst d3
            exact ⟨ccl, cdd, vs, ccs, f, tf, hc, hv, by rw [hf]; exact beq_self_eq_true _⟩
          · cases d3
        · cases d3
      · unfold cellB at d1
        split at d1
        · rename_i cl cld C' csl hc
          have d1 := of_decide_eq_true d1
          subst d1
          exact ⟨cl, cld, csl, hc⟩
        · cases d1
    · cases c10
  · cases c10
/-! ### the hook -/
abbrev AlX : Type := He.AlD × Bool × List FnZ
def obsX (fa : List He.Fa) (fn : List He.DefD) (file base : Str) (xs : List ExcD) (K : PySem.W.Frag) : AlX := (He.obsD fa fn K, (xs.all fun x => x.okB K file) && pairsB K xs base, xs.map fun x => fnZ K (x.fI K))
def valX (fn : List He.DefD) (xs : List ExcD) : AlX := (He.valD fn, true, xs.map ExcD.val)
def SaysX (fa : List He.Fa) (fn : List He.DefD) (file base : Str) (xs : List ExcD) (K : PySem.W.Frag) : Prop := obsX fa fn file base xs K = valX fn xs
def asX (g : Addr → Option Obj) (n : Nat) : List Addr := He.asD g n ++ [cStatics]
def obsXG (n : Nat) (fa : List He.Fa) (fn : List He.DefD) (file base : Str) (xs : List ExcD) (g : Addr → Option Obj) : AlX := obsX fa fn file base xs (He.frG g (asX g n))
def hookX (n : Nat) (fa : List He.Fa) (fn : List He.DefD) (file base : Str) (xs : List ExcD) : PySem.W.Hook where
  α := AlX
  obs := fun s => obsXG n fa fn file base xs s.heap.get?
  val := fun _ => valX fn xs
  says := fun _ h => ∃ K : PySem.W.Frag, K.In h ∧ SaysX fa fn file base xs K
  of := fun _ _ e => ⟨_, He.frG_in, e⟩
  keeps := fun _ _ _ ⟨K, hK, c⟩ k => ⟨K, PySem.W.Frag.In.keeps hK k, c⟩
theorem obsXG_eq {n : Nat} {fa : List He.Fa} {fn : List He.DefD} {file base : Str} {xs : List ExcD} {g : Addr → Option Obj} {s : Shared} (h : ∀ a, g a = s.heap.get? a) : obsXG n fa fn file base xs g = (hookX n fa fn file base xs).obs s := by
  have e : g = s.heap.get? := funext h
  rw [e] <;> rfl
theorem SaysX.d {fa : List He.Fa} {fn : List He.DefD} {file base : Str} {xs : List ExcD} {K : PySem.W.Frag} (c : SaysX fa fn file base xs K) : He.SaysD fa fn K := congrArg (fun z : AlX => z.1) c
theorem SaysX.b {fa : List He.Fa} {fn : List He.DefD} {file base : Str} {xs : List ExcD} {K : PySem.W.Frag} (c : SaysX fa fn file base xs K) : (∀ x ∈ xs, x.okB K file = true ∧ fnZ K (x.fI K) = x.val) ∧ pairsB K xs base = true := by
  have c1 : ((xs.all fun x => x.okB K file) && pairsB K xs base) = true := congrArg (fun z : AlX => z.2.1) c
  have c2 : (xs.map fun x => fnZ K (x.fI K)) = xs.map ExcD.val := congrArg (fun z : AlX => z.2.2) c
  rw [Bool.and_eq_true] at c1
  refine ⟨fun x hx => ⟨List.all_eq_true.mp c1.1 x hx, ?_⟩, c1.2⟩
  exact List.map_inj_left.mp c2 x hx
end J
/-! J15: the law's end -/
namespace J
open PySem L2
/-- the facts asked of the top -/
def faOf (T : Tab) : List He.Fa := T.fns.map (fun f => .glo f.name) ++ freeN.map .free ++ T.gints.map (fun p => .int p.1 p.2) ++ (if T.excs.isEmpty then [] else (T.excs.map fun p => .glo p.1) ++ [.glo T.base])
def dvB : List He.Dv → List D → Bool
  | [], [] => true
  | .non :: a, .non :: b => dvB a b
  | .bl x :: a, .bl y :: b => (x == y) && dvB a b
  | .int x :: a, .int y :: b => decide (x = y) && dvB a b
  | .str x :: a, .str y :: b => decide (x = y) && dvB a b
  | _, _ => false
def scopeB (N P : List Str) (sc : Scope) : Bool :=
  (match sc.kind with | .function => true | _ => false) && !sc.isCoroutine && !sc.isGenerator && decide N.Nodup && decide (N.take P.length = P) &&
    (P.all fun x => match sc.names.lookup x with | some .local => true | some .cell => true | _ => false) && sc.names.all fun y => match y.2 with | .free => false | _ => true
def noKw : List (Str × He.Dv) → Bool
  | [] => true
  | _ => false
def okD (T : Tab) (fn : Fn) (d : He.DefD) : Bool := decide (d.at_ = (fn.name, none)) && decide (d.name = fn.name) && noKw d.kwd && dvB d.dfl fn.dfl && scopeB fn.N fn.ps d.scope && chkB T fn.N fn.body ⟨d.scope, none⟩ d.body
/-- one def of the text and its term -/
structure FnDat (T : Tab) (fn : Fn) (d : He.DefD) : Prop where
  ok : okD T fn d = true
  bd : ∀ (K : PySem.W.Frag) (f : Addr) (fd : FuncData), FunD K d.name d.qual d.params d.body d.scope (fn.dfl.map immV) [] f fd → ∀ n ∈ fn.ar, n + (fn.dfl.drop (fn.dfl.length - (fn.ps.length - n))).length = fn.ps.length ∧
    ∃ ds, Vals ((fn.dfl.drop (fn.dfl.length - (fn.ps.length - n))).map immV) ds ∧ Binds K fd fn.ps ds
def faJ (T : Tab) (K : PySem.W.Frag) (i : Nat) : Addr := match T.fns[i]? with
  | some fn => He.ga K fn.name
  | none => 0
def sitOf (T : Tab) (K : PySem.W.Frag) : Sit := { K := K, fa := faJ T K, ca := fun c => match T.excs[c]? with | some p => He.ga K p.1 | none => 0, cb := He.ga K T.base, at_ := fun _ => ("reason" : Str), xq := none, bad := [] }
theorem dv_imm {K : PySem.W.Frag} : ∀ {a : List He.Dv} {b : List D}, dvB a b = true → a.map (He.Dv.v K) = b.map immV ∧ ∀ d ∈ b, immB d = true := by
  intro a
  induction a with
  | nil =>
    intro b h
    cases b with
    | nil => exact ⟨rfl, fun _ h => nomatch h⟩
    | cons _ _ => simp [dvB] at h
  | cons x a ih =>
    intro b h
    cases b with
    | nil => cases x <;> simp [dvB] at h
    | cons y b =>
      cases x <;> cases y <;> first
        | (simp only [dvB, Bool.false_eq_true] at h; done)
        | skip
      · simp only [dvB] at h
        obtain ⟨h1, h2⟩ := ih h
        exact ⟨by rw [List.map_cons, List.map_cons, h1]; rfl, fun d hd => by rcases List.mem_cons.mp hd with rfl | hd; exact rfl; exact h2 d hd⟩
      · simp only [dvB, Bool.and_eq_true] at h
        obtain ⟨h0, h⟩ := h
        obtain rfl := eq_of_beq h0
        obtain ⟨h1, h2⟩ := ih h
        exact ⟨by rw [List.map_cons, List.map_cons, h1]; rfl, fun d hd => by rcases List.mem_cons.mp hd with rfl | hd; exact rfl; exact h2 d hd⟩
      · simp only [dvB, Bool.and_eq_true, decide_eq_true_eq] at h
        obtain ⟨rfl, h⟩ := h
        obtain ⟨h1, h2⟩ := ih h
        exact ⟨by rw [List.map_cons, List.map_cons, h1]; rfl, fun d hd => by rcases List.mem_cons.mp hd with rfl | hd; exact rfl; exact h2 d hd⟩
      · simp only [dvB, Bool.and_eq_true, decide_eq_true_eq] at h
        obtain ⟨rfl, h⟩ := h
        obtain ⟨h1, h2⟩ := ih h
        exact ⟨by rw [List.map_cons, List.map_cons, h1]; rfl, fun d hd => by rcases List.mem_cons.mp hd with rfl | hd; exact rfl; exact h2 d hd⟩
theorem scope_of {N P : List Str} {sc : Scope} (h : scopeB N P sc = true) : FnScope N P sc := by
  unfold scopeB at h
  simp only [Bool.and_eq_true, Bool.not_eq_true', decide_eq_true_eq, List.all_eq_true] at h
  obtain ⟨⟨⟨⟨⟨⟨h1, h2⟩, h3⟩, h4⟩, h5⟩, h6⟩, h7⟩ := h
  refine ⟨?_, h2, h3, h4, h5, fun x hx => ?_, fun y hy e => ?_⟩
  · split at h1
    · assumption
    · cases h1
  · have := h6 x hx
    split at this
    · exact .inl (by assumption)
    · exact .inr (by assumption)
    · cases this
  · have := h7 y hy
    rw [e] at this
    cases this
theorem ties_of {P : Program} {T : Tab} {ds : List He.DefD} {file : Str} {xs : List ExcD} {K : PySem.W.Frag} {h : Heap} {mg : Str → Option Value} (X : K.In h) (G : h.Ns mainGlobals mg) (cx : SaysX (faOf T) ds file T.base xs K) (hd : ∀ (i : Nat) (fn : Fn), T.fns[i]? = some fn → ∃ d, ds[i]? = some d ∧ FnDat T fn d) (ht : T.gtups = [])
    (hxc : T.excs = xs.map fun x => (x.nm, x.tx)) (hnd : (xs.map (·.nm)).Nodup) (hxt : xs.all exTxtB = true) (hfile : P.main.file = file) (htop : (P.main.scope.names.lookup ("super" : Str)).isSome = false) :
    Ties P (sitOf T K) T mg := by
  have c := cx.d
  have fact : ∀ f ∈ faOf T, f.ok K = true := fun f hf => by
    obtain ⟨i, hi⟩ := List.getElem?_of_mem hf
    exact c.fact i hi
  refine ⟨fun i fn hf => ?_, fun x hx => ?_, fun x n hx => ?_, fun x ws hx => ?_, ?_⟩
  · obtain ⟨d, hdi, hok, hbd⟩ := hd i fn hf
    unfold okD at hok
    simp only [Bool.and_eq_true, decide_eq_true_eq] at hok
    obtain ⟨⟨⟨⟨⟨h1, h2⟩, h3⟩, h4⟩, h5⟩, h6⟩ := hok
    have efa : (sitOf T K).fa i = He.ga K fn.name := by
      show faJ T K i = _
      unfold faJ
      rw [hf]
    obtain ⟨fd, F⟩ := c.def_ i hdi
    obtain ⟨e1, e2⟩ := dv_imm (K := K) h4
    have ek : d.kws K = [] := by
      unfold He.DefD.kws
      revert h3
      cases d.kwd with
      | nil => intro _; rfl
      | cons _ _ => intro h; cases h
    have ed : d.dvs K = fn.dfl.map immV := e1
    have ea : He.fAd K d.at_ = He.ga K fn.name := by rw [h1]; rfl
    rw [ek, ed, ea] at F
    have F' := F
    rw [h2] at F'
    refine ⟨⟨⟨d.qual, d.params, d.body, d.scope, fd, by rw [efa]; exact F', scope_of h5, h6, hbd K _ fd F⟩, e2⟩, ?_, ?_⟩
    · rw [efa]
      exact He.glo_ok X G (fact _ (List.mem_append_left _ (List.mem_append_left _ (List.mem_append_left _ (List.mem_map.mpr ⟨fn, List.mem_of_getElem? hf, rfl⟩)))))
    · rw [efa]
      exact F.kp
  · exact He.free_ok X G (fact _ (List.mem_append_left _ (List.mem_append_left _ (List.mem_append_right _ (List.mem_map.mpr ⟨x, hx, rfl⟩)))))
  · exact He.int_ok X G (fact _ (List.mem_append_left _ (List.mem_append_right _ (List.mem_map.mpr ⟨(x, n), hx, rfl⟩))))
  · rw [ht] at hx; cases hx
  · -- the classes
    have hsup : mg "super" = none := He.free_ok X G (fact _ (List.mem_append_left _ (List.mem_append_left _ (List.mem_append_right _ (List.mem_map.mpr ⟨"super", by decide +kernel, rfl⟩)))))
    obtain ⟨hb, hpr⟩ := cx.b
    have get : ∀ (c : Nat) (p : Str × Str), T.excs[c]? = some p → ∃ x, xs[c]? = some x ∧ p = (x.nm, x.tx) ∧ (sitOf T K).ca c = He.ga K x.nm := fun c p hp => by
      have hp0 := hp
      rw [hxc, List.getElem?_map] at hp
      cases q : xs[c]? with
      | none => simp [q] at hp
      | some x =>
        simp only [q, Option.map_some, Option.some.injEq] at hp
        subst hp
        refine ⟨x, rfl, rfl, ?_⟩
        show (match T.excs[c]? with | some p => He.ga K p.1 | none => 0) = _
        rw [hp0]
    have glo : ∀ (c : Nat) (p : Str × Str), T.excs[c]? = some p → (∀ q ∈ T.excs, mg q.1 = some (.ref (He.ga K q.1))) ∧ mg T.base = some (.ref (He.ga K T.base)) := fun c p hp => by
      have ne : T.excs.isEmpty = false := by
        cases q : T.excs with
        | nil =>
          have z := (List.getElem?_eq_some_iff.mp hp).1
          rw [q] at z
          exact absurd z (Nat.not_lt_zero _)
        | cons _ _ => rfl
      have mem : ∀ f ∈ (T.excs.map fun p => He.Fa.glo p.1) ++ [.glo T.base], f ∈ faOf T := fun f hf => by
        unfold faOf
        rw [ne]
        exact List.mem_append_right _ hf
      exact ⟨fun q hq => He.glo_ok X G (fact _ (mem _ (List.mem_append_left _ (List.mem_map.mpr ⟨q, hq, rfl⟩)))), He.glo_ok X G (fact _ (mem _ (List.mem_append_right _ (List.mem_singleton.mpr rfl))))⟩
    have mem : ∀ {c : Nat} {x : ExcD}, xs[c]? = some x → x ∈ xs := fun h => List.mem_of_getElem? h
    have ax : ∀ {c : Nat} {x : ExcD}, xs[c]? = some x → (∃ fI cc cda, PySem.AxX.AxTxt P K mg x.tx (He.ga K x.nm) fI cc cda) ∧ x.tx.length ≤ 1000 ∧ XfC K (He.ga K x.nm) ∧ ExcC K (He.ga K x.nm) ∧ PySem.W.findIn K (.ref (He.ga K x.nm)) "reason" = some none := fun h =>
      axTxt_of hfile htop hsup (List.all_eq_true.mp hxt _ (mem h)) (hb _ (mem h)).1 (hb _ (mem h)).2
    have pr : ∀ {c : Nat} {x : ExcD}, xs[c]? = some x → PySem.W.kitOne K (.ref (He.ga K x.nm)) (.type "ValueError") = some true ∧ PySem.W.kitOne K (.ref (He.ga K x.nm)) (.ref (He.ga K T.base)) = some true ∧ PySem.W.exmOne K (.ref (He.ga K x.nm)) (.ref (He.ga K T.base)) = some true ∧
        ∀ y ∈ xs, PySem.W.kitOne K (.ref (He.ga K x.nm)) (.ref (He.ga K y.nm)) = some (decide (x.nm = y.nm)) := fun h => by
      have := List.all_eq_true.mp hpr _ (mem h)
      simp only [Bool.and_eq_true, decide_eq_true_eq, List.all_eq_true] at this
      exact ⟨this.1.1.1, this.1.1.2, this.1.2, this.2⟩
    refine ⟨fun c nm tx hp => ?_, fun c p hp => ?_, fun c p hp => ?_, fun c c' p p' hp hp' => ?_, fun c p hp => ?_⟩
    · obtain ⟨x, hx, e, ec⟩ := get c _ hp
      cases e
      have a := ax hx
      rw [ec]
      exact ⟨a.1, (glo c _ hp).1 _ (List.mem_of_getElem? hp), rfl, a.2.1⟩
    · obtain ⟨x, hx, e, ec⟩ := get c _ hp
      have a := ax hx
      rw [ec]
      exact ⟨a.2.2.1, a.2.2.2.1, a.2.2.2.2⟩
    · obtain ⟨x, hx, e, ec⟩ := get c _ hp
      rw [ec]
      exact (pr hx).1
    · obtain ⟨x, hx, e, ec⟩ := get c _ hp
      obtain ⟨y, hy, e', ec'⟩ := get c' _ hp'
      rw [ec, ec']
      have := (pr hx).2.2.2 y (mem hy)
      rw [show (sitOf T K).K = K from rfl, this]
      congr 1
      by_cases q : c = c'
      · subst q
        rw [hx] at hy; cases hy
        simp
      · have nq : x.nm ≠ y.nm := fun z => q (by
          have h1 : (xs.map (·.nm))[c]? = some x.nm := by rw [List.getElem?_map, hx]; rfl
          have h2 : (xs.map (·.nm))[c']? = some y.nm := by rw [List.getElem?_map, hy]; rfl
          rw [← z] at h2
          exact (List.getElem?_inj (List.getElem?_eq_some_iff.mp h1).1 hnd).mp (h1.trans h2.symm))
        simp [nq, q]
    · obtain ⟨x, hx, e, ec⟩ := get c _ hp
      rw [ec]
      exact ⟨(glo c _ hp).2, (pr hx).2.1, (pr hx).2.2.1⟩
/-- a script as data -/
def scriptD (ns : List Int) : D := .flst (ns.map .int)
theorem ints_rel {Z : Sit} {H : Hp} {ι : List Addr} : ∀ ns : List Int, RelDs Z H ι (ns.map .int) (ns.map V.int)
  | [] => .nil
  | _ :: r => .cons .int (ints_rel r)
section
open PyProof.Rows
/-- the law's call, from a promise where no repr is under way -/
theorem law_callG {P : Program} {w : World} {K : PySem.W.Frag} {mg mb : Str → Option Value} {k : Nat} {fa a : Addr} {fd : FuncData} {x : Str} {sp : Sp} {s₁ : Shared} {vs : List Value} {ns : List Int} (inK : K.In s₁.heap) (nsM : s₁.heap.Ns mainGlobals mg) (nsB : s₁.heap.Ns builtinsNs mb)
    (mbB : ∀ x : Str, x ≠ "__name__" → mb x = bootBuiltins x) (nolim : s₁.heap.NoLimit) (gens0 : s₁.gens = #[]) (ha : s₁.heap.get? a = some { cls := .type "list", data := .seq vs.toArray }) (itv : IntsAre vs ns) (hl : ns.length ≤ sizeLine) (room : Room k callerA)
    (F : ∀ base : Heap, K.In base → base.Ns mainGlobals mg → FnG P w K mg base (L2.CX P w) k fa fd [x] sp) (bnd : ∀ (s : Shared) (u : Value), BindsTo s fd ⟨[u], []⟩ [(x, u)])
    (hsp : ∀ H : Hp, Only H → SqL K H a (ns.map V.int) → sp [.ref a] H (fun v _ => v = .bl true) fun _ _ _ => False) :
    codeAny (model P w) callerA (.call (.ref fa) ⟨[.ref a], []⟩) (fun r s' => r = .ok (.ret (.bool true)) ∧ OldK s₁.heap s'.heap ∧ s'.os = s₁.os ∧ AllBare s'.gens) s₁ := by
  have rv := vals_ints itv
  have lenV := itv.length
  have core : ∀ H : Hp, Only H ∧ SqL K H a (ns.map V.int) ∧ HOk P w H s₁.heap ∧ (∀ b, H b ≠ none → b = a) ∧ (H a ≠ none → K.lookup a = none) →
      codeAny (model P w) callerA (.call (.ref fa) ⟨[.ref a], []⟩) (fun r s' => r = .ok (.ret (.bool true)) ∧ OldK s₁.heap s'.heap ∧ s'.os = s₁.os ∧ AllBare s'.gens) s₁ := by
    rintro H ⟨only, sq, hok, hA, hKa⟩
    have notA : ∀ {b : Addr}, b ≠ a → H b = none := fun {b} hb => Classical.byContradiction fun z => hb (hA b z)
    have nodict : ∀ {b : Addr} {o : Obj} {es : Array DictEntry} {ep : Nat}, s₁.heap.get? b = some o → o.data = .dict es ep → H b = none := fun {b o es ep} e d => notA fun eb => by
      subst eb
      rw [ha] at e
      cases e
      have d' : Data.seq vs.toArray _ = Data.dict es ep := d
      cases d'
    have keepNs : ∀ {b : Addr} {m : Str → Option Value}, s₁.heap.Ns b m → (hidT s₁.heap H).Ns b m := by
      rintro b m ⟨o, es, ep, e, d, r⟩
      exact ⟨o, es, ep, hidT_get e (nodict e d), d, r⟩
    have KB : K.In (hidT s₁.heap H) := fun b o e => hidT_get (inK b o e) (by
      by_cases eb : b = a
      · subst eb
        cases q : H b with
        | none => rfl
        | some u =>
          rw [hKa (by rw [q]; simp)] at e
          cases e
      · exact notA eb)
    obtain ⟨mc, h1, h2⟩ := nolim
    have M0 : Mod K mg (hidT s₁.heap H) := ⟨KB, keepNs nsM, ⟨mb, keepNs nsB, mbB⟩, ⟨mc, keepNs h1, h2⟩⟩
    have ev : Env0 P w K mg (hidT s₁.heap H) callerA [] s₁ H := ⟨rfl, M0, fun b o e => of_hidT e, Nat.le_of_eq (hidT_size _ _), trivial, (fun b hb => nomatch hb), hok, .of_eq gens0⟩
    refine codeAny_mono ((F _ KB (keepNs nsM)).runG callerA [] s₁ H ⟨[.ref a], []⟩ [.ref a] [.ref a] _ _ room rfl ev (bnd s₁ (.ref a)) (.cons rfl .nil) (hsp H only sq)) fun r s' h => ?_
    cases r with
    | error e =>
      obtain ⟨_, _, _, _, _, _, _, _, _, _, _, _, z⟩ := h
      exact z.elim
    | ok fl =>
      cases fl <;> first
        | exact False.elim h
        | skip
      obtain ⟨v, H', os, bare, un, hok', r', q⟩ := h
      have q' : v = .bl true := q
      subst q'
      obtain rfl : _ = Value.bool true := r'
      refine ⟨rfl, OldK.of_keep fun b o e => ?_, os, bare⟩
      cases q : H b with
      | none => exact un.keep b o e q (fun z => nomatch z) (by simp)
      | some u =>
        rcases only b with z | ⟨ob, xs, z⟩
        · rw [q] at z; cases z
        · obtain ⟨e1, _⟩ := hok b _ z
          obtain ⟨e2, _⟩ := hok' b _ (un.frzs b ob _ z)
          rw [e] at e1
          cases e1
          exact e2
  cases hk : K.lookup a with
  | some o =>
    have e := inK a o hk
    rw [ha] at e
    cases e
    exact core (fun _ => none) ⟨fun _ => .inl rfl, .inr ⟨_, vs.toArray, _, hk, rfl, rfl, rfl, by rw [List.size_toArray, lenV]; exact hl, by simpa using rv⟩, (fun _ _ z => nomatch z), fun b z => absurd rfl z, fun z => absurd rfl z⟩
  | none =>
    have at_a : ∀ {b : Addr} {u : HO}, (if b = a then some (HO.frz { cls := .type "list", data := .seq vs.toArray } (.lst (ns.map V.int))) else none) = some u → b = a ∧ u = .frz { cls := .type "list", data := .seq vs.toArray } (.lst (ns.map V.int)) := fun {b u} z => by
      split at z
      · cases z; exact ⟨by assumption, rfl⟩
      · cases z
    refine core (fun b => if b = a then some (.frz { cls := .type "list", data := .seq vs.toArray } (.lst (ns.map V.int))) else none) ⟨fun b => ?_, .inl (.inr ⟨{ cls := .type "list", data := .seq vs.toArray }, if_pos rfl⟩), fun b u z => ?_, fun b z => ?_, fun _ => hk⟩
    · by_cases eb : b = a
      · exact .inr ⟨_, _, if_pos eb⟩
      · exact .inl (if_neg eb)
    · obtain ⟨rfl, rfl⟩ := at_a z
      exact ⟨ha, by rw [List.length_map]; exact hl, vs, _, rv, ha⟩
    · exact Classical.byContradiction fun eb => z (if_neg eb)
theorem walk_ofG {l : PySem.W.OpenLaw} {n k : Nat} {q : Program} {loose : List Str} {XP : (Str → Option Value) → Heap → Prop} {YP : World → Heap → Prop} {d : DefRec} {x : Str} (hn : l.most = some n) (hn2 : n ≤ sizeLine) (hdf : d.params.defaults = []) (room : Room k callerA)
    (F : ∀ (w : World) (mg : Str → Option Value) (fa : Addr) (h : Heap), YP w h → h.Ns mainGlobals mg → mg d.name = some (.ref fa) → ∃ (K : PySem.W.Frag) (fd : FuncData) (sp : Sp), K.In h ∧ (∀ (s : Shared) (u : Value), BindsTo s fd ⟨[u], []⟩ [(x, u)]) ∧
        (∀ (H : Hp) (a : Addr) (ns : List Int), ns.length ≤ n → Only H → SqL K H a (ns.map V.int) → sp [.ref a] H (fun v _ => v = .bl true) fun _ _ _ => False) ∧ ∀ base : Heap, K.In base → base.Ns mainGlobals mg → FnG l.prog w K mg base (L2.CX l.prog w) k fa fd [x] sp) :
    PySem.W.WalkO q loose XP YP l.row.toRowW d [] (fun f vs => PySem.call f vs) := by
  refine Att.attach_call hn hdf fun w s₀ s₁ mg mb fa o pm cd doc a vs ns G Y ho hd hcd hmg hobj hints hlen hg => ?_
  obtain ⟨K, fd, sp, KX, hb, hsp, hF⟩ := F w mg fa _ Y G.T.g hmg
  exact law_callG KX G.T.g G.T.b G.T.builtins G.T.nolimit hg hobj hints (Nat.le_trans hlen hn2) room hF hb fun H ho hs => hsp H a ns hlen ho hs
end
/-- the law's def: what the walk asks -/
theorem law_J {T : Tab} {ds : List He.DefD} {file : Str} {xs : List ExcD} {k i : Nat} {P : Program} {w : World} {K : PySem.W.Frag} {h : Heap} {mg : Str → Option Value} {f : Addr} {fn : Fn} {d : He.DefD} (X : K.In h) (G : h.Ns mainGlobals mg) (cx : SaysX (faOf T) ds file T.base xs K) (hd : ∀ (i : Nat) (fn : Fn), T.fns[i]? = some fn → ∃ d, ds[i]? = some d ∧ FnDat T fn d) (ht : T.gtups = [])
    (hxc : T.excs = xs.map fun x => (x.nm, x.tx)) (hnd : (xs.map (·.nm)).Nodup) (hxt : xs.all exTxtB = true) (hfile : P.main.file = file) (htop : (P.main.scope.names.lookup ("super" : Str)).isSome = false)
    (hi : T.fns[i]? = some fn) (hdi : ds[i]? = some d) (hx : fn.ps = ([("script" : Str)] : List Str)) (hdf : fn.dfl = []) (hfa : mg fn.name = some (.ref f))
    (hb : ∀ (kV doc pm : Value) (an : Option Addr) (cdv ct : Value) (us : List Value), us.length = ([("script" : Str)] : List Str).length → bindArgs (PySem.W.fnOf d.name d.qual d.params d.body d.scope .none kV doc pm an cdv ct) ⟨us, []⟩ = pure (([("script" : Str)] : List Str).zip us))
    (hrun : ∀ ns : List Int, ns.length ≤ 63 → ∃ S, run T.fns k false i [scriptD ns] [] = some (.ok (.bl true) S)) :
    ∃ (fd : FuncData) (sp : Sp), (∀ (s : Shared) (u : Value), BindsTo s fd ⟨[u], []⟩ [(("script" : Str), u)]) ∧
      (∀ (H : Hp) (a : Addr) (ns : List Int), ns.length ≤ 63 → Only H → SqL K H a (ns.map V.int) → sp [.ref a] H (fun v _ => v = .bl true) fun _ _ _ => False) ∧
      ∀ base : Heap, K.In base → base.Ns mainGlobals mg → FnG P w K mg base (L2.CX P w) k f fd ([("script" : Str)] : List Str) sp := by
  have ties := ties_of (P := P) X G cx hd ht hxc hnd hxt hfile htop
  have c := cx.d
  obtain ⟨d', hd', hok, _⟩ := hd i fn hi
  rw [hdi] at hd'
  cases hd'
  unfold okD at hok
  simp only [Bool.and_eq_true, decide_eq_true_eq] at hok
  obtain ⟨⟨⟨⟨⟨h1, h2⟩, h3⟩, h4⟩, h5⟩, h6⟩ := hok
  obtain ⟨_, hm, _⟩ := ties.fns i fn hi
  rw [hfa] at hm
  cases hm
  obtain ⟨fd, F⟩ := c.def_ i hdi
  obtain ⟨e1, e2⟩ := dv_imm (K := K) h4
  have ek : d.kws K = [] := by
    unfold He.DefD.kws
    revert h3
    cases d.kwd with
    | nil => intro _; rfl
    | cons _ _ => intro h; cases h
  have ed : d.dvs K = [] := by
    have : d.dvs K = fn.dfl.map immV := e1
    rw [this, hdf]; rfl
  have efa : (sitOf T K).fa i = He.ga K fn.name := by
    show faJ T K i = _
    unfold faJ
    rw [hi]
  have ea : He.fAd K d.at_ = (sitOf T K).fa i := by rw [efa, h1]; rfl
  rw [ek, ed, ea] at F
  have F' := F
  rw [h2] at F'
  refine ⟨fd, spJ (sitOf T K) T k false i fn, fun s u => F.bindsA hb s [u] rfl, fun H a ns hl ho hs => ?_, fun base _ _ => ?_⟩
  · obtain ⟨S, hS⟩ := hrun ns hl
    refine ⟨by rw [hx]; rfl, [], [scriptD ns], [], [], ⟨rfl, .nil, (fun _ h => nomatch h), fun l c a e => by cases e⟩, .one ?_, ?_⟩
    · rcases hs with (h | ⟨o, h⟩) | h
      · exact .flst h (by simp) (by simp) (ints_rel ns)
      · exact .flstF (.inl ⟨o, h⟩) (ints_rel ns)
      · exact .flstF (.inr fun _ => .inr h) (ints_rel ns)
    · rw [hS]
      intro v H' ι' _ _ r
      cases r
      rfl
  · have := fn_ok (P := P) (w := w) (base := base) ties rfl k i fn hi fd ⟨d.qual, d.params, d.body, d.scope, by rw [hdf]; exact F', scope_of h5, h6⟩
    rw [hx] at this
    exact this
end J
/-! L1: the small language computed: lemmas for the plain laws (no machine in sight) -/
namespace J
open PySem
section
variable {T : List Fn} {k : Nat} {i : Nat} {f : Fn} {ds : List D} {S : Store}
/-- how a def's body ends -/
def done : P → Option (R D)
  | none => none
  | some (.nx _, S') => some (.ok .non S')
  | some (.rt d, S') => some (.ok d S')
  | some (.ex c d _, S') => some (.exn c d S')
  | some _ => none
theorem run_eq (hf : T[i]? = some f) (hl : (fill f ds).length = f.ps.length) : run T (k + 1) false i ds S = done (exec (fun h' => ⟨h', run T k h'⟩) f.body false (startE f (fill f ds)) S) := by
  simp only [run, hf, hl, if_true]
  cases exec (fun h' => ⟨h', run T k h'⟩) f.body false (startE f (fill f ds)) S with
  | none => rfl
  | some q =>
    obtain ⟨q, S'⟩ := q
    cases q <;> rfl
/-- a result that speaks of no place, the store as it was -/
theorem frz_id {d : D} (h : Cl S.length d) : frz S (.ok d S) = some (.ok d S) := by
  have e : snap S S.length 3 d = some d := by
    unfold snap
    rw [if_pos h]
  unfold frz
  simp [e]
theorem compL_map {gs : List Guard} {F : D → M (Option D)} {g : D → Option D} : ∀ {ds : List D}, (∀ q ∈ gs, okG q S) → (∀ d ∈ ds, F d S = some (.ok (g d) S)) → compL gs F ds S = some (.ok (ds.filterMap g) S)
  | [], hg, _ => by unfold compL; rw [if_pos hg]; rfl
  | d :: ds, hg, hf => by
    unfold compL
    rw [if_pos hg, hf d (List.mem_cons_self ..)]
    have ih := compL_map (ds := ds) hg fun x hx => hf x (List.mem_cons_of_mem _ hx)
    cases e : g d with
    | none => simp only [List.filterMap_cons, e]; exact ih
    | some y => simp only [List.filterMap_cons, e, ih]
/-- a loop whose turns are told by a step -/
theorem forL_fold {gs : List Guard} {F : D → Env → Store → P} {α : Type} (st : α → Env × Store) (step : D → α → α) (ok : α → Prop) : ∀ (ds : List D) (a : α), (∀ a, ok a → ∀ q ∈ gs, okG q (st a).2) → (∀ d ∈ ds, ∀ a, ok a → ok (step d a) ∧ F d (st a).1 (st a).2 = some (.nx (st (step d a)).1, (st (step d a)).2)) → ok a →
    forL gs F ds (st a).1 (st a).2 = some (.nx (st (ds.foldl (fun a d => step d a) a)).1, (st (ds.foldl (fun a d => step d a) a)).2)
  | [], a, hg, _, ha => by unfold forL; rw [if_pos (hg a ha)]; rfl
  | d :: ds, a, hg, hs, ha => by
    obtain ⟨h1, h2⟩ := hs d (List.mem_cons_self ..) a ha
    unfold forL
    rw [if_pos (hg a ha), h2]
    exact forL_fold st step ok ds (step d a) hg (fun x hx => hs x (List.mem_cons_of_mem _ hx)) h1
end
/-! ### the loop of greatest divisors -/
/-- the common loop: while b > 0: a, b = b, a % b -/
theorem whl_gcd {c : Env → M D} {b : Env → Store → P} {mk : Int → Int → Env} {S : Store} (hc : ∀ x y, c (mk x y) S = some (.ok (.bl (decide (y > 0))) S)) (hb : ∀ x y, 0 < y → b (mk x y) S = some (.nx (mk y (x.fmod y)), S)) :
    ∀ (n : Nat) (x y : Int), 0 ≤ x → 0 ≤ y → y.toNat ≤ n → whlL c b (mk x y) S = some (.nx (mk (Int.gcd x y) 0), S) := by
  intro n
  induction n with
  | zero =>
    intro x y hx hy hn
    have e : y = 0 := by omega
    subst e
    rw [whlL, hc]
    simp [truS, Int.gcd, Int.natAbs_of_nonneg hx]
  | succ n ih =>
    intro x y hx hy hn
    by_cases e : y = 0
    · subst e
      rw [whlL, hc]
      simp [truS, Int.gcd, Int.natAbs_of_nonneg hx]
    · have hy' : 0 < y := by omega
      have e0 : decide (y > 0) = true := decide_eq_true hy'
      rw [whlL, hc, e0]
      simp only [truS]
      rw [hb x y hy']
      simp only
      have e1 : x.fmod y = x % y := by rw [Int.fmod_eq_emod_of_nonneg x hy]
      rw [e1]
      have h1 := Int.emod_nonneg x e
      have h2 := Int.emod_lt_of_pos x hy'
      rw [ih y (x % y) hy h1 (by omega)]
      have e2 : Int.gcd y (x % y) = Int.gcd x y := by
        have e3 : x % y = x + y * -(x / y) := by rw [Int.emod_def, Int.mul_neg, Int.sub_eq_add_neg]
        rw [e3, Int.gcd_add_mul_left_right, Int.gcd_comm]
      rw [e2]
/-! ### steps -/
section
variable {G : Bool → Ctx} {h : Bool} {env env' : Env} {S S' : Store} {s r : C} {e : E} {d : D}
theorem x_seq (q : exec G s h env S = some (.nx env', S')) : exec G (.seq s r) h env S = exec G r h env' S' := by simp only [exec, q]
theorem x_seq_rt (q : exec G s h env S = some (.rt d, S')) : exec G (.seq s r) h env S = some (.rt d, S') := by simp only [exec, q]
theorem x_ret (q : ev (G h) e env S = some (.ok d S')) : exec G (.ret e) h env S = some (.rt d, S') := by simp only [exec, withE, q]
theorem x_set {tg : E} (q : ev (G h) e env S = some (.ok d S')) (b : bindU tg d S' env = some env') (v : (h && !isVar tg) = false) : exec G (.set tg e) h env S = some (.nx env', S') := by simp only [exec, withE, q, b, v, Bool.false_eq_true, if_false]
theorem x_if {c : E} {a b : C} {t : Bool} (q : ev (G h) c env S = some (.ok d S')) (ht : truS d S' = some t) : exec G (.ifs c a b) h env S = if t = true then exec G a h env S' else exec G b h env S' := by
  simp only [exec, withE, q, ht]
  cases t <;> rfl
end
/-! ### fractions in lowest terms -/
/-- a fraction as the programs write it -/
def qD (r : Rat) : D := .tup [.int r.num, .int r.den]
def absI (u : Int) : Int := if u < 0 then -u else u
theorem absI_eq (u : Int) : absI u = (u.natAbs : Int) := by unfold absI; split <;> omega
theorem quo_num {u d : Int} (hd : 0 < d) : u.fdiv (Int.gcd (absI u) d : Nat) = (mkRat u d.toNat).num := by
  have e : Int.gcd (absI u) d = Nat.gcd d.toNat u.natAbs := by
    rw [absI_eq]
    unfold Int.gcd
    rw [Int.natAbs_natCast, Nat.gcd_comm]
    congr 1
    omega
  rw [Rat.num_mkRat, if_neg (by omega), e, Int.fdiv_eq_ediv_of_nonneg _ (by omega)]
theorem quo_den {u d : Int} (hd : 0 < d) : d.fdiv (Int.gcd (absI u) d : Nat) = ((mkRat u d.toNat).den : Int) := by
  have e : Int.gcd (absI u) d = Nat.gcd d.toNat u.natAbs := by
    rw [absI_eq]
    unfold Int.gcd
    rw [Int.natAbs_natCast, Nat.gcd_comm]
    congr 1
    omega
  rw [Rat.den_mkRat, if_neg (by omega), e, Int.fdiv_eq_ediv_of_nonneg _ (by omega), Int.natCast_ediv]
  congr 1
  omega
/-- a divisor of a usual size -/
theorem divOk_small {x y : Int} (h0 : y ≠ 0) (h : y.natAbs < 2 ^ 9000) : divOk x y := by
  refine ⟨h0, ?_⟩
  have hl : y.natAbs.log2 < 9000 := (Nat.log2_lt (by omega)).mpr h
  unfold Builtin.divisionGoesByPylong
  have : ¬ (y == 0) = true := by simpa using h0
  simp only [this, Bool.false_eq_true, if_false]
  have h2 : ¬ (y.natAbs.log2 / 30 + 1 > 300) := by omega
  simp [h2]
theorem bits_small {x : Int} {n : Nat} (h : x.natAbs < 2 ^ n) (hn : 0 < n) : Builtin.Int.intBits x ≤ n := by
  unfold Builtin.Int.intBits
  split
  · omega
  · rename_i z
    have z : x ≠ 0 := by simpa using z
    have := (Nat.log2_lt (n := x.natAbs) (by omega)).mpr h
    omega
/-- a product of usual sizes -/
theorem mulOk_small {x y : Int} (hx : x.natAbs < 2 ^ 100000) (hy : y.natAbs < 2 ^ 100000) : IntMulOk x y := by
  have h1 := bits_small hx (by decide)
  have h2 := bits_small hy (by decide)
  unfold IntMulOk
  have : Builtin.Int.intTooBig ((Builtin.Int.intBits x : Int) + (Builtin.Int.intBits y : Int)) = false := by
    unfold Builtin.Int.intTooBig
    have : (200000 : Int) ≤ (bitsLine : Int) := by decide +kernel
    exact decide_eq_false (by omega)
  rw [this]
  simp
/-! ### comprehensions -/
theorem ev_comp {G : Ctx} {tg as c elt : E} {k : Ik} {own : List Nat} {env : Env} {S : Store} {ds items : List D} {gs : List Guard} {g : D → Option D} (hh : G.hot = false) (ha : ev G as env S = some (.ok (.tup ds) S)) (hi : iterS k ds S = some (items, gs)) (hg : ∀ q ∈ gs, okG q S)
    (hs : ∀ d ∈ items, turnF G tg c elt own env d S = some (.ok (g d) S)) (hl : items.length < 1000000) : ev G (.comp tg k as c elt own) env S = some (.ok (.lst (items.filterMap g)) S) := by
  have e : ev G (.comp tg k as c elt own) env S = ((ev G as env).bind fun a => (M.opt (tups a)).bind fun ds => (M.optS (iterS k ds)).bind fun p =>
    (compL p.2 (turnF G tg c elt own env) p.1).bind fun ys => if ys.length < 1000000 then M.ret (.lst ys) else M.opt none) S := by
    simp only [ev, hh, Bool.false_eq_true, if_false]
    rfl
  have hl2 : (items.filterMap g).length < 1000000 := Nat.lt_of_le_of_lt (List.length_filterMap_le ..) hl
  rw [e]
  simp [M.bind, M.opt, M.optS, ha, tups, hi, compL_map hg hs, hl2, M.ret]
/-- one turn without a condition -/
theorem turn_all {G : Ctx} {tg elt : E} {own : List Nat} {env env' : Env} {S : Store} {d y : D} (hb : bindT tg d (wipeE env own) = some env') (he : ev G elt env' S = some (.ok y S)) : turnF G tg (.con (.bl true)) elt own env d S = some (.ok (some y) S) := by
  simp [turnF, hb, ev, M.bind, M.ret, M.optS, truS, he]
/-! ### expressions, one by one (a comprehension stays folded) -/
section
variable {G : Ctx} {env : Env} {S S1 S2 : Store} {a b : E} {d x y : D}
theorem v_or_t (h : ev G a env S = some (.ok x S1)) (t : truS x S1 = some true) : ev G (.or a b) env S = some (.ok x S1) := by simp [ev, M.bind, M.optS, M.ret, h, t]
theorem v_or_f (h : ev G a env S = some (.ok x S1)) (t : truS x S1 = some false) : ev G (.or a b) env S = ev G b env S1 := by simp [ev, M.bind, M.optS, M.ret, h, t]
theorem v_and_t (h : ev G a env S = some (.ok x S1)) (t : truS x S1 = some true) : ev G (.and a b) env S = ev G b env S1 := by simp [ev, M.bind, M.optS, M.ret, h, t]
theorem v_and_f (h : ev G a env S = some (.ok x S1)) (t : truS x S1 = some false) : ev G (.and a b) env S = some (.ok x S1) := by simp [ev, M.bind, M.optS, M.ret, h, t]
theorem v_not {t : Bool} (h : ev G a env S = some (.ok x S1)) (e : truS x S1 = some t) : ev G (.not a) env S = some (.ok (.bl (!t)) S1) := by simp [ev, M.bind, M.optS, M.ret, h, e]
theorem v_prim1 {p : Pr} (hh : G.hot = false) (h : ev G a env S = some (.ok x S1)) (e : primS p [x] S1 = some d) : ev G (.prim p (.cons a .nil)) env S = some (.ok d S1) := by simp [ev, M.bind, M.opt, M.optS, M.ret, tups, hh, h, e]
theorem v_cmp {op : CO} {t : Bool} (h : ev G a env S = some (.ok x S1)) (h2 : ev G b env S1 = some (.ok y S2)) (e : cmpS op x y S2 = some t) : ev G (.cmp op a b) env S = some (.ok (.bl t) S2) := by simp [ev, M.bind, M.opt, M.optS, M.ret, h, h2, e]
theorem v_chn {o1 o2 : CO} {c : E} {z : D} {S3 : Store} {t : Bool} (h : ev G a env S = some (.ok x S1)) (h2 : ev G b env S1 = some (.ok y S2)) (e : cmpS o1 x y S2 = some true) (h3 : ev G c env S2 = some (.ok z S3)) (e2 : cmpS o2 y z S3 = some t) : ev G (.chn o1 o2 a b c) env S = some (.ok (.bl t) S3) := by
  simp [ev, M.bind, M.opt, M.optS, M.ret, h, h2, e, h3, e2]
end
end J
/-! A1: the evaluator as rewriting rules -/
namespace J
open PySem L2
section
variable {α β : Type}
def bnd (r : Option (R α)) (f : α → Store → Option (R β)) : Option (R β) := match r with
  | none => none
  | some (.exn c d S) => some (.exn c d S)
  | some (.ok a S) => f a S
def opt (o : Option α) (S : Store) : Option (R α) := match o with
  | none => none
  | some a => some (.ok a S)
def tst (o : Option Bool) (f : Bool → Option α) : Option α := match o with
  | none => none
  | some t => f t
def obnd (o : Option α) (f : α → Option β) : Option β := match o with
  | none => none
  | some t => f t
variable {f : α → Store → Option (R β)} {S : Store}
@[simp] theorem bnd_ok {a : α} : bnd (some (.ok a S)) f = f a S := Eq.trans rfl rfl
@[simp] theorem bnd_none : bnd (none : Option (R α)) f = none := Eq.trans rfl rfl
@[simp] theorem bnd_exn {c : Nat} {d : D} : bnd (some (.exn c d S) : Option (R α)) f = some (.exn c d S) := Eq.trans rfl rfl
@[simp] theorem bnd_ite {p : Prop} [Decidable p] {a b : Option (R α)} : bnd (if p then a else b) f = if p then bnd a f else bnd b f := by split <;> rfl
@[simp] theorem opt_some {a : α} : opt (some a) S = some (.ok a S) := Eq.trans rfl rfl
@[simp] theorem opt_none : opt (none : Option α) S = none := Eq.trans rfl rfl
@[simp] theorem opt_ite {p : Prop} [Decidable p] {a b : Option α} : opt (if p then a else b) S = if p then opt a S else opt b S := by split <;> rfl
@[simp] theorem tst_some {t : Bool} {f : Bool → Option α} : tst (some t) f = f t := Eq.trans rfl rfl
@[simp] theorem tst_none {f : Bool → Option α} : tst none f = none := Eq.trans rfl rfl
@[simp] theorem obnd_some {a : α} {f : α → Option β} : obnd (some a) f = f a := Eq.trans rfl rfl
@[simp] theorem obnd_none {f : α → Option β} : obnd none f = none := Eq.trans rfl rfl
end
/-! ### operations at known kinds -/
section
variable {S : Store} {a b : Int} {ds es : List D} {s : Str} {t u : Bool}
@[simp] theorem bin_add : binS .add (.int a) (.int b) S = some (.int (a + b)) := Eq.trans rfl rfl
@[simp] theorem bin_sub : binS .sub (.int a) (.int b) S = some (.int (a - b)) := Eq.trans rfl rfl
@[simp] theorem bin_mul : binS .mul (.int a) (.int b) S = if IntMulOk a b then some (.int (a * b)) else none := Eq.trans rfl rfl
@[simp] theorem bin_fdiv : binS .fdiv (.int a) (.int b) S = if divOk a b then some (.int (a.fdiv b)) else none := Eq.trans rfl rfl
@[simp] theorem bin_mod : binS .mod (.int a) (.int b) S = if b ≠ 0 then some (.int (a.fmod b)) else none := Eq.trans rfl rfl
@[simp] theorem bin_pow : binS .pow (.int a) (.int b) S = if powOk a b then some (.int (a ^ b.toNat)) else none := Eq.trans rfl rfl
@[simp] theorem bin_shl : binS .shl (.int a) (.int b) S = if powOk a b then some (.int (a * 2 ^ b.toNat)) else none := Eq.trans rfl rfl
@[simp] theorem bin_addT : binS .add (.tup ds) (.tup es) S = if ds.length + es.length ≤ sizeLine then some (.tup (ds ++ es)) else none := Eq.trans rfl rfl
@[simp] theorem bin_addL : binS .add (.lst ds) (.lst es) S = if ds.length + es.length ≤ sizeLine then some (.lst (ds ++ es)) else none := Eq.trans rfl rfl
@[simp] theorem bin_mulT : binS .mul (.tup ds) (.int a) S = if repOk ds.length a then some (.tup (List.replicate a.toNat ds).flatten) else none := Eq.trans rfl rfl
@[simp] theorem bin_mulL : binS .mul (.lst ds) (.int a) S = if repOk ds.length a then some (.lst (List.replicate a.toNat ds).flatten) else none := Eq.trans rfl rfl
@[simp] theorem cmp_lt : cmpS .lt (.int a) (.int b) S = some (decide (a < b)) := Eq.trans rfl rfl
@[simp] theorem cmp_le : cmpS .le (.int a) (.int b) S = some (decide (a ≤ b)) := Eq.trans rfl rfl
@[simp] theorem cmp_gt : cmpS .gt (.int a) (.int b) S = some (decide (b < a)) := Eq.trans rfl rfl
@[simp] theorem cmp_ge : cmpS .ge (.int a) (.int b) S = some (decide (b ≤ a)) := Eq.trans rfl rfl
theorem eqD_int : eqD (.int a) (.int b) = some (decide (a = b)) := by
  simp only [eqD, toPy]
  have h1 : SeqAt.shaped (.int a) = true := rfl
  have h2 : SeqAt.shaped (.int b) = true := rfl
  rw [if_pos ⟨h1, h2⟩]
  rfl
@[simp] theorem cmp_eq : cmpS .eq (.int a) (.int b) S = some (decide (a = b)) := by simp only [cmpS, res, cmpD, eqD_int]
@[simp] theorem cmp_ne : cmpS .ne (.int a) (.int b) S = some (decide (a ≠ b)) := by
  simp only [cmpS, res, cmpD, eqD_int, Option.map_some]
  by_cases h : a = b <;> simp [h]
@[simp] theorem tru_bl : truS (.bl t) S = some t := Eq.trans rfl rfl
@[simp] theorem tru_int : truS (.int a) S = some (a != 0) := Eq.trans rfl rfl
@[simp] theorem tru_tup : truS (.tup ds) S = some (!ds.isEmpty) := Eq.trans rfl rfl
@[simp] theorem tru_lst : truS (.lst ds) S = some (!ds.isEmpty) := Eq.trans rfl rfl
@[simp] theorem tru_non : truS .non S = some false := Eq.trans rfl rfl
@[simp] theorem idx_tup : idxS (.tup ds) (.int a) S = atI ds a := Eq.trans rfl rfl
@[simp] theorem idx_lst : idxS (.lst ds) (.int a) S = atI ds a := Eq.trans rfl rfl
@[simp] theorem idx_flst : idxS (.flst ds) (.int a) S = atI ds a := Eq.trans rfl rfl
@[simp] theorem its_tup : itemsS (.tup ds) S = some ds := Eq.trans rfl rfl
@[simp] theorem its_lst : itemsS (.lst ds) S = some ds := Eq.trans rfl rfl
@[simp] theorem its_flst : itemsS (.flst ds) S = some ds := Eq.trans rfl rfl
@[simp] theorem isl_tup : isList (.tup ds) S = false := Eq.trans rfl rfl
@[simp] theorem isl_lst : isList (.lst ds) S = true := Eq.trans rfl rfl
@[simp] theorem isl_flst : isList (.flst ds) S = true := Eq.trans rfl rfl
@[simp] theorem tups_tup : tups (.tup ds) = some ds := Eq.trans rfl rfl
@[simp] theorem lsts_lst : lsts (.lst ds) = some ds := Eq.trans rfl rfl
@[simp] theorem isNon_non : isNon .non = true := Eq.trans rfl rfl
@[simp] theorem isNon_int : isNon (.int a) = false := Eq.trans rfl rfl
@[simp] theorem isNon_tup : isNon (.tup ds) = false := Eq.trans rfl rfl
@[simp] theorem isNon_lst : isNon (.lst ds) = false := Eq.trans rfl rfl
@[simp] theorem len_tup : primS .len [.tup ds] S = some (.int ds.length) := Eq.trans rfl rfl
@[simp] theorem len_lst : primS .len [.lst ds] S = some (.int ds.length) := Eq.trans rfl rfl
@[simp] theorem len_flst : primS .len [.flst ds] S = some (.int ds.length) := Eq.trans rfl rfl
@[simp] theorem prim_abs : primS .abs [.int a] S = some (.int (if a < 0 then -a else a)) := Eq.trans rfl rfl
@[simp] theorem prim_min2 : primS .min2 [.int a, .int b] S = some (.int (if b < a then b else a)) := Eq.trans rfl rfl
@[simp] theorem prim_max2 : primS .max2 [.int a, .int b] S = some (.int (if b > a then b else a)) := Eq.trans rfl rfl
@[simp] theorem prim_int : primS .int [.int a] S = some (.int a) := Eq.trans rfl rfl
@[simp] theorem prim_intb : primS .int [.bl t] S = some (.int (if t then 1 else 0)) := Eq.trans rfl rfl
@[simp] theorem prim_tupT : primS .tuple [.tup ds] S = some (.tup ds) := Eq.trans rfl rfl
@[simp] theorem prim_tupL : primS .tuple [.lst ds] S = some (.tup ds) := Eq.trans rfl rfl
@[simp] theorem intsD_map {is : List Int} : intsD (is.map .int) = some is := by
  induction is with
  | nil => rfl
  | cons i is ih => simp only [List.map_cons, intsD, ih]
@[simp] theorem boolsD_map {is : List Bool} : boolsD (is.map .bl) = some is := by
  induction is with
  | nil => rfl
  | cons i is ih => simp only [List.map_cons, boolsD, ih]
@[simp] theorem intsD_mapf {α : Type} {f : α → Int} {is : List α} : intsD (is.map fun x => .int (f x)) = some (is.map f) := by
  induction is with
  | nil => rfl
  | cons i is ih => simp only [List.map_cons, intsD, ih]
@[simp] theorem boolsD_mapf {α : Type} {f : α → Bool} {is : List α} : boolsD (is.map fun x => .bl (f x)) = some (is.map f) := by
  induction is with
  | nil => rfl
  | cons i is ih => simp only [List.map_cons, boolsD, ih]
@[simp] theorem prim_sumT {is : List Int} : primS .sum [.tup (is.map .int)] S = some (.int is.sum) := by simp [primS]
@[simp] theorem prim_sumL {is : List Int} : primS .sum [.lst (is.map .int)] S = some (.int is.sum) := by simp [primS]
@[simp] theorem prim_sumLf {α : Type} {f : α → Int} {is : List α} : primS .sum [.lst (is.map fun x => .int (f x))] S = some (.int (is.map f).sum) := by simp [primS]
@[simp] theorem prim_allf {α : Type} {f : α → Bool} {is : List α} : primS .all [.lst (is.map fun x => .bl (f x))] S = some (.bl (is.all f)) := by simp [primS, List.all_map]
@[simp] theorem prim_anyf {α : Type} {f : α → Bool} {is : List α} : primS .any [.lst (is.map fun x => .bl (f x))] S = some (.bl (is.any f)) := by simp [primS, List.any_map]
@[simp] theorem isi_ii : isiS (.int a) .int S = some true := Eq.trans rfl rfl
@[simp] theorem isi_ib : isiS (.int a) .bool S = some false := Eq.trans rfl rfl
@[simp] theorem isi_it : isiS (.int a) .tuple S = some false := Eq.trans rfl rfl
@[simp] theorem isi_bi : isiS (.bl t) .int S = some true := Eq.trans rfl rfl
@[simp] theorem isi_bb : isiS (.bl t) .bool S = some true := Eq.trans rfl rfl
@[simp] theorem isi_bt : isiS (.bl t) .tuple S = some false := Eq.trans rfl rfl
@[simp] theorem isi_tt : isiS (.tup ds) .tuple S = some true := Eq.trans rfl rfl
@[simp] theorem isi_ti : isiS (.tup ds) .int S = some false := Eq.trans rfl rfl
@[simp] theorem isi_ni : isiS .non .int S = some false := Eq.trans rfl rfl
@[simp] theorem isi_nt : isiS .non .tuple S = some false := Eq.trans rfl rfl
@[simp] theorem isi_si : isiS (.str s) .int S = some false := Eq.trans rfl rfl
@[simp] theorem isi_st : isiS (.str s) .tuple S = some false := Eq.trans rfl rfl
@[simp] theorem isi_ss : isiS (.str s) .str S = some true := Eq.trans rfl rfl
@[simp] theorem aug_int {op : BO} : augD op (.int a) (.int b) = binD op (.int a) (.int b) := Eq.trans rfl rfl
end
/-! ### expressions -/
section
variable {G : Ctx} {env : Env} {S : Store} {a b c d : E}
@[simp] theorem e_var {i : Nat} : ev G (.var i) env S = opt (env[i]?.bind id) S := by
  simp only [ev, M.opt]; cases env[i]?.bind id <;> rfl
@[simp] theorem e_con {d : D} : ev G (.con d) env S = some (.ok d S) := Eq.trans rfl rfl
@[simp] theorem e_glob {x : Str} {n : Int} : ev G (.glob x n) env S = some (.ok (.int n) S) := Eq.trans rfl rfl
@[simp] theorem e_fnv {f : Nat} : ev G (.fnv f) env S = some (.ok (.fn f) S) := Eq.trans rfl rfl
theorem mb {α β : Type} (m : M α) (f : α → M β) : M.bind m f S = bnd (m S) fun a S => f a S := rfl
theorem mo {α : Type} {o : Option α} : M.opt o S = opt o S := by cases o <;> rfl
theorem mos {α : Type} {o : Store → Option α} : M.optS o S = opt (o S) S := rfl
theorem mr {α : Type} {o : α} : M.ret o S = some (.ok o S) := rfl
@[simp] theorem e_bin {op : BO} : ev G (.bin op a b) env S = bnd (ev G a env S) fun x S => bnd (ev G b env S) fun y S => opt (binS op x y S) S := by
  simp only [ev, mb, mos]
@[simp] theorem e_neg : ev G (.neg a) env S = bnd (ev G a env S) fun x S => opt (match x with | .int i => some (.int (-i)) | _ => none) S := by
  simp only [ev, mb, mo]
  all_goals rfl
theorem ob {β : Type} {o : Option Bool} {f : Bool → Store → Option (R β)} : bnd (opt o S) f = tst o fun t => f t S := by cases o <;> rfl
@[simp] theorem e_not : ev G (.not a) env S = bnd (ev G a env S) fun x S => tst (truS x S) fun t => some (.ok (.bl (!t)) S) := by
  simp only [ev, mb, mos, mr, ob]
@[simp] theorem e_and : ev G (.and a b) env S = bnd (ev G a env S) fun x S => tst (truS x S) fun t => if t then ev G b env S else some (.ok x S) := by
  simp only [ev, mb, mos, ob]
  congr 1; funext x S; congr 1; funext t; cases t <;> rfl
@[simp] theorem e_or : ev G (.or a b) env S = bnd (ev G a env S) fun x S => tst (truS x S) fun t => if t then some (.ok x S) else ev G b env S := by
  simp only [ev, mb, mos, ob]
  congr 1; funext x S; congr 1; funext t; cases t <;> rfl
@[simp] theorem e_cmp {op : CO} : ev G (.cmp op a b) env S = bnd (ev G a env S) fun x S => bnd (ev G b env S) fun y S => tst (cmpS op x y S) fun t => some (.ok (.bl t) S) := by
  simp only [ev, mb, mos, mr, ob]
@[simp] theorem e_chn {o1 o2 : CO} : ev G (.chn o1 o2 a b c) env S = bnd (ev G a env S) fun x S => bnd (ev G b env S) fun y S => tst (cmpS o1 x y S) fun t =>
    if t then bnd (ev G c env S) fun z S => tst (cmpS o2 y z S) fun t2 => some (.ok (.bl t2) S) else some (.ok (.bl false) S) := by
  simp only [ev, mb, mos, ob]
  congr 1; funext x S; congr 1; funext y S; congr 1; funext t; cases t <;> simp [mb, mos, mr, ob]
@[simp] theorem e_chn3 {o1 o2 o3 : CO} : ev G (.chn3 o1 o2 o3 a b c d) env S = bnd (ev G a env S) fun x S => bnd (ev G b env S) fun y S => tst (cmpS o1 x y S) fun t =>
    if t then bnd (ev G c env S) fun z S => tst (cmpS o2 y z S) fun t2 => if t2 then bnd (ev G d env S) fun w S => tst (cmpS o3 z w S) fun t3 => some (.ok (.bl t3) S) else some (.ok (.bl false) S) else some (.ok (.bl false) S) := by
  simp only [ev, mb, mos, ob]
  congr 1; funext x S; congr 1; funext y S; congr 1; funext t; cases t <;> simp [mb, mos, mr, ob]
  congr 1; funext x S; congr 1; funext t; cases t <;> simp [mb, mos, mr, ob]
@[simp] theorem e_isn : ev G (.isn a) env S = bnd (ev G a env S) fun x S => some (.ok (.bl (isNon x)) S) := by simp only [ev, mb, mr]
@[simp] theorem e_isnn : ev G (.isnn a) env S = bnd (ev G a env S) fun x S => some (.ok (.bl (!isNon x)) S) := by simp only [ev, mb, mr]
@[simp] theorem e_ite : ev G (.ite c a b) env S = bnd (ev G c env S) fun x S => tst (truS x S) fun t => if t then ev G a env S else ev G b env S := by
  simp only [ev, mb, mos, ob]
  congr 1; funext x S; congr 1; funext t; cases t <;> rfl
@[simp] theorem e_nil : ev G .nil env S = some (.ok (.tup []) S) := Eq.trans rfl rfl
@[simp] theorem e_cons : ev G (.cons a b) env S = bnd (ev G a env S) fun x S => bnd (ev G b env S) fun y S => bnd (opt (tups y) S) fun ds S => some (.ok (.tup (x :: ds)) S) := by
  simp only [ev, mb, mo, mr]
@[simp] theorem e_tup : ev G (.tup a) env S = bnd (ev G a env S) fun x S => bnd (opt (tups x) S) fun ds S => opt (if ds.length ≤ 1000 then some (.tup ds) else none) S := by
  simp only [ev, mb, mo]
@[simp] theorem e_disp : ev G (.disp a) env S = bnd (ev G a env S) fun x S => bnd (opt (tups x) S) fun ds S => opt (if ds.length ≤ 1000 then some (.lst ds) else none) S := by
  simp only [ev, mb, mo]
@[simp] theorem e_idx : ev G (.idx a b) env S = bnd (ev G a env S) fun x S => bnd (ev G b env S) fun y S => opt (idxS x y S) S := by
  simp only [ev, mb, mos]
@[simp] theorem e_slc {bl bh : Bool} : ev G (.slc a bl b bh c) env S = bnd (ev G a env S) fun x S => bnd (ev G b env S) fun l S => bnd (opt (partD bl l) S) fun l' S => bnd (ev G c env S) fun h S => bnd (opt (partD bh h) S) fun h' S => opt (slcS x l' h' S) S := by
  simp only [ev, mb, mo, mos]
@[simp] theorem e_call {f : Nat} {keep : Bool} : ev G (.call f keep a) env S = bnd (ev G a env S) fun x S => bnd (opt (tups x) S) fun ds S => callF G keep f ds S := by
  simp only [ev, mb, mo]
@[simp] theorem e_callv {ars : List (List Nat)} {f : E} {keep : Bool} : ev G (.callv ars f keep a) env S = bnd (ev G f env S) fun g S => match g with | .fn i => if arOf ars a i = true then bnd (ev G a env S) fun x S => bnd (opt (tups x) S) fun ds S => callF G keep i ds S else none | _ => none := by
  simp only [ev, mb]
  congr 1; funext g S
  cases g <;> first
    | rfl
    | (simp only; split <;> simp [mb, mo])
theorem e_prim {p : Pr} (h : G.hot = false) : ev G (.prim p a) env S = bnd (ev G a env S) fun x S => bnd (opt (tups x) S) fun ds S => opt (primS p ds S) S := by
  simp only [ev, mb, mo, mos, h, Bool.false_eq_true, if_false]
@[simp] theorem e_prim' {cl : Nat → List D → M D} {p : Pr} : ev ⟨false, cl⟩ (.prim p a) env S = bnd (ev ⟨false, cl⟩ a env S) fun x S => bnd (opt (tups x) S) fun ds S => opt (primS p ds S) S := e_prim rfl
@[simp] theorem e_isi {t : Ty} : ev G (.isi a t) env S = bnd (ev G a env S) fun x S => tst (isiS x t S) fun b => some (.ok (.bl b) S) := by
  simp only [ev, mb, mos, mr, ob]
@[simp] theorem e_plist : ev G (.plist a) env S = bnd (ev G a env S) fun x S => bnd (opt (itemsS x S) S) fun ds S => some (.ok (.lst ds) S) := by
  simp only [ev, mb, mos, mr]
@[simp] theorem e_mut : ev G (.mut a) env S = bnd (ev G a env S) fun x S => bnd (opt (lsts x) S) fun ds S => some (.ok (.loc S.length) (S ++ [.lst ds])) := by
  simp only [ev, mb, mo]; rfl
@[simp] theorem part_t {i : Int} : partD true (.int i) = some (some i) := Eq.trans rfl rfl
@[simp] theorem part_f : partD false .non = some none := Eq.trans rfl rfl
@[simp] theorem slc_tup {ds : List D} {l h : Option Int} : slcS (.tup ds) l h S = some (.tup (cutD ds l h)) := Eq.trans rfl rfl
@[simp] theorem slc_lst {ds : List D} {l h : Option Int} : slcS (.lst ds) l h S = some (.lst (cutD ds l h)) := Eq.trans rfl rfl
/-! calls -/
noncomputable def frzO (S : Store) (r : Option (R D)) : Option (R D) := match r with
  | none => none
  | some r => frz S r
@[simp] theorem callF_keep {f : Nat} {ds : List D} : callF G true f ds S = G.call f ds S := by
  simp only [callF]; cases G.call f ds S <;> rfl
@[simp] theorem callF_frz {f : Nat} {ds : List D} : callF G false f ds S = frzO S (G.call f ds S) := by
  simp only [callF, frzO]; cases G.call f ds S <;> rfl
@[simp] theorem frzO_id {d : D} (h : Cl S.length d) : frzO S (some (.ok d S)) = some (.ok d S) := frz_id h
@[simp] theorem cl_non {n : Nat} : Cl n .non := .non
@[simp] theorem cl_bl {n : Nat} {t : Bool} : Cl n (.bl t) := .bl
@[simp] theorem cl_int {n : Nat} {t : Int} : Cl n (.int t) := .int
@[simp] theorem cl_str {n : Nat} {t : Str} : Cl n (.str t) := .str
@[simp] theorem cl_fn {n : Nat} {t : Nat} : Cl n (.fn t) := .fn
@[simp] theorem cl_tup {n : Nat} {ds : List D} : Cl n (.tup ds) ↔ ∀ d ∈ ds, Cl n d := ⟨fun h => by cases h; assumption, .tup⟩
@[simp] theorem cl_lst {n : Nat} {ds : List D} : Cl n (.lst ds) ↔ ∀ d ∈ ds, Cl n d := ⟨fun h => by cases h; assumption, .lst⟩
@[simp] theorem cl_loc {n l : Nat} : Cl n (.loc l) ↔ l < n := ⟨fun h => by cases h; assumption, .loc⟩
/-- a list that the call made is told as it is -/
theorem frzO_list {ds : List D} (h : ∀ d ∈ ds, Cl S.length d) : frzO S (some (.ok (.loc S.length) (S ++ [.lst ds]))) = some (.ok (.lst ds) S) := by
  have e0 : ∀ k d, Cl S.length d → snap (S ++ [.lst ds]) S.length k d = some d := fun k d hd => by
    cases k <;> (unfold snap; rw [if_pos hd])
  have e1 : ds.mapM (snap (S ++ [.lst ds]) S.length 2) = some ds := by
    have : ∀ es : List D, (∀ d ∈ es, Cl S.length d) → es.mapM (snap (S ++ [.lst ds]) S.length 2) = some es := by
      intro es
      induction es with
      | nil => intro _; rfl
      | cons d es ih =>
        intro he
        rw [List.mapM_cons, e0 2 d (he d (List.mem_cons_self ..)), ih fun x hx => he x (List.mem_cons_of_mem _ hx)]
        rfl
    exact this ds h
  have e : snap (S ++ [.lst ds]) S.length 3 (.loc S.length) = some (.lst ds) := by
    unfold snap
    rw [if_neg (by simp)]
    simp [e1]
  simp only [frzO, frz]
  rw [if_pos (by simp), e]
/-- a result that speaks of no place, behind whatever the call put into the store -/
theorem frzO_more {d : D} {S' : Store} (h : Cl S.length d) (ht : S'.take S.length = S) : frzO S (some (.ok d S')) = some (.ok d S) := by
  have e : snap S' S.length 3 d = some d := by unfold snap; rw [if_pos h]
  simp only [frzO, frz]
  rw [if_pos ht, e]
@[simp] theorem frzO_app {d : D} {S' : Store} (h : Cl S.length d) : frzO S (some (.ok d (S ++ S'))) = some (.ok d S) := frzO_more h (by simp)
theorem frz_same {r : Option (R D)} {d : D} (e : r = some (.ok d S)) (h : Cl S.length d) : frzO S r = some (.ok d S) := by rw [e]; exact frzO_id h
theorem frz_of {r : Option (R D)} {d : D} {S' : Store} (e : r = some (.ok d (S ++ S'))) (h : Cl S.length d) : frzO S r = some (.ok d S) := by rw [e]; exact frzO_app h
end
/-! ### statements -/
section
variable {G : Bool → Ctx} {env : Env} {S : Store} {s r : C} {e : E}
def thn (p : P) (f : Env → Store → P) : P := match p with
  | some (.nx env', S') => f env' S'
  | p => p
@[simp] theorem thn_nx {f : Env → Store → P} : thn (some (.nx env, S)) f = f env S := Eq.trans rfl rfl
@[simp] theorem thn_rt {f : Env → Store → P} {d : D} : thn (some (.rt d, S)) f = some (.rt d, S) := Eq.trans rfl rfl
@[simp] theorem thn_ex {f : Env → Store → P} {c : Nat} {d : D} : thn (some (.ex c d env, S)) f = some (.ex c d env, S) := Eq.trans rfl rfl
@[simp] theorem thn_none {f : Env → Store → P} : thn none f = none := Eq.trans rfl rfl
@[simp] theorem thn_ite {f : Env → Store → P} {p : Prop} [Decidable p] {a b : P} : thn (if p then a else b) f = if p then thn a f else thn b f := by split <;> rfl
def wE (r : Option (R D)) (env : Env) (f : D → Store → P) : P := match r with
  | none => none
  | some (.exn c d S1) => some (.ex c d env, S1)
  | some (.ok d S1) => f d S1
@[simp] theorem wE_ok {f : D → Store → P} {d : D} : wE (some (.ok d S)) env f = f d S := Eq.trans rfl rfl
@[simp] theorem wE_exn {f : D → Store → P} {c : Nat} {d : D} : wE (some (.exn c d S)) env f = some (.ex c d env, S) := Eq.trans rfl rfl
@[simp] theorem wE_none {f : D → Store → P} : wE none env f = none := Eq.trans rfl rfl
@[simp] theorem wE_ite {f : D → Store → P} {p : Prop} [Decidable p] {a b : Option (R D)} : wE (if p then a else b) env f = if p then wE a env f else wE b env f := by split <;> rfl
theorem withE_eq {m : M D} {f : D → Store → P} : withE m env S f = wE (m S) env f := rfl
@[simp] theorem c_nil {h : Bool} : exec G .nil h env S = some (.nx env, S) := Eq.trans rfl rfl
@[simp] theorem c_seq {h : Bool} : exec G (.seq s r) h env S = thn (exec G s h env S) fun env S => exec G r h env S := by
  simp only [exec, thn]
  all_goals rfl
@[simp] theorem c_set {tg : E} : exec G (.set tg e) false env S = wE (ev (G false) e env S) env fun d S1 => obnd (bindU tg d S1 env) fun env' => some (.nx env', S1) := by
  simp only [exec, Bool.false_and, Bool.false_eq_true, if_false, withE_eq]
  congr 1; funext d S1; cases bindU tg d S1 env <;> rfl
@[simp] theorem bindU_var {i : Nat} {d : D} : bindU (.var i) d S env = bindT (.var i) d env := by cases d <;> rfl
@[simp] theorem bindU_tup {tg : E} {ds : List D} : bindU tg (.tup ds) S env = bindT tg (.tup ds) env := Eq.trans rfl rfl
@[simp] theorem bindU_lst {tg : E} {ds : List D} : bindU tg (.lst ds) S env = bindT tg (.lst ds) env := Eq.trans rfl rfl
theorem bindU_loc {es : E} {l : Nat} {ds : List D} (h : S[l]? = some (.lst ds)) : bindU (.tup es) (.loc l) S env = bindTs es ds env := by simp only [bindU, h]
@[simp] theorem c_seti {o i : E} : exec G (.seti o i e) false env S = wE (ev (G false) e env S) env fun d S1 => wE (ev (G false) o env S1) env fun a S2 => wE (ev (G false) i env S2) env fun k S3 => obnd (setS a k d S3) fun S4 => some (.nx env, S4) := by
  simp only [exec, withE_eq]
  congr 1; funext d S1; congr 1; funext a S2; congr 1; funext k S3; cases setS a k d S3 <;> rfl
@[simp] theorem c_aug {op : BO} {i : Nat} : exec G (.aug op i e) false env S = obnd (env[i]?.bind id) fun x => wE (ev (G false) e env S) env fun y S1 => obnd (augD op x y) fun z => some (.nx (env.set i (some z)), S1) := by
  simp only [exec, withE_eq]
  cases env[i]?.bind id with
  | none => rfl
  | some x => simp only [obnd_some]; congr 1; funext y S1; cases augD op x y <;> rfl
@[simp] theorem c_augi {op : BO} {o i : E} : exec G (.augi op o i e) false env S = wE (ev (G false) o env S) env fun a S1 => wE (ev (G false) i env S1) env fun k S2 => obnd (idxM a k S2) fun x => wE (ev (G false) e env S2) env fun y S3 => obnd (augD op x y) fun z => obnd (setS a k z S3) fun S4 => some (.nx env, S4) := by
  simp only [exec, withE_eq]
  congr 1; funext a S1; congr 1; funext k S2
  cases idxM a k S2 with
  | none => rfl
  | some x =>
    simp only [obnd_some]; congr 1; funext y S3
    cases augD op x y with
    | none => rfl
    | some z => simp only [obnd_some]; cases setS a k z S3 <;> rfl
@[simp] theorem c_exp : exec G (.exp e) false env S = wE (ev (G false) e env S) env fun _ S1 => some (.nx env, S1) := by simp only [exec, withE_eq]
@[simp] theorem c_app {o : E} : exec G (.app o e) false env S = wE (ev (G false) o env S) env fun a S1 => if isLoc a S1 = true then wE (ev (G false) e env S1) env fun x S2 => obnd (appS a x S2) fun S3 => some (.nx env, S3) else none := by
  simp only [exec, withE_eq]
  congr 1; funext a S1
  split
  · congr 1; funext x S2; cases appS a x S2 <;> rfl
  · rfl
@[simp] theorem c_ifs {c : E} {a b : C} : exec G (.ifs c a b) false env S = wE (ev (G false) c env S) env fun x S1 => tst (truS x S1) fun t => if t then exec G a false env S1 else exec G b false env S1 := by
  simp only [exec, withE_eq]
  congr 1; funext x S1
  cases truS x S1 with
  | none => rfl
  | some t => cases t <;> rfl
@[simp] theorem c_ret : exec G (.ret e) false env S = wE (ev (G false) e env S) env fun d S1 => some (.rt d, S1) := by simp only [exec, withE_eq]
@[simp] theorem c_retn {h : Bool} : exec G .retn h env S = some (.rt .non, S) := Eq.trans rfl rfl
@[simp] theorem c_pass {h : Bool} : exec G .pass h env S = some (.nx env, S) := Eq.trans rfl rfl
@[simp] theorem c_tryn {b : C} : exec G (.tryn b) false env S = match exec G b false env S with | some (.ex _ _ _, _) => none | p => p := by
  simp only [exec, Bool.false_eq_true, if_false]
  all_goals rfl
@[simp] theorem c_dead {h : Bool} : exec G .dead h env S = none := Eq.trans rfl rfl
@[simp] theorem done_nx : done (some (.nx env, S)) = some (.ok .non S) := Eq.trans rfl rfl
@[simp] theorem done_rt {d : D} : done (some (.rt d, S)) = some (.ok d S) := Eq.trans rfl rfl
@[simp] theorem done_ex {c : Nat} {d : D} : done (some (.ex c d env, S)) = some (.exn c d S) := Eq.trans rfl rfl
@[simp] theorem done_none : done none = none := Eq.trans rfl rfl
@[simp] theorem done_ite {p : Prop} [Decidable p] {a b : P} : done (if p then a else b) = if p then done a else done b := by split <;> rfl
@[simp] theorem bind_var {i : Nat} {d : D} : bindT (.var i) d env = if i < env.length then some (env.set i (some d)) else none := Eq.trans rfl rfl
@[simp] theorem bind_tup {es : E} {ds : List D} : bindT (.tup es) (.tup ds) env = bindTs es ds env := Eq.trans rfl rfl
@[simp] theorem bind_tupL {es : E} {ds : List D} : bindT (.tup es) (.lst ds) env = bindTs es ds env := Eq.trans rfl rfl
@[simp] theorem binds_nil : bindTs .nil [] env = some env := Eq.trans rfl rfl
@[simp] theorem binds_cons {t r : E} {d : D} {ds : List D} : bindTs (.cons t r) (d :: ds) env = obnd (bindT t d env) fun env' => bindTs r ds env' := by
  simp only [bindTs]
  cases bindT t d env <;> rfl
/-- a walk's turn -/
noncomputable def turnL (G : Bool → Ctx) (tg : E) (b : C) : D → Env → Store → P := fun d env S => match bindT tg d env with
  | none => none
  | some env' => exec G b false env' S
theorem c_for {tg as : E} {k : Ik} {b : C} : exec G (.forr tg k as b) false env S = wE (ev (G false) as env S) env fun a S1 => obnd ((tups a).bind fun ds => iterS k ds S1) fun p => forL p.2 (turnL G tg b) p.1 env S1 := by
  simp only [exec, withE_eq, Bool.false_eq_true, if_false]
  congr 1; funext a S1
  cases (tups a).bind fun ds => iterS k ds S1 <;> rfl
end
end J
/-! A2: data that == and repr take; walks, comprehensions -/
namespace J
open PySem L2
/-! ### data that == and repr take -/
theorem ok_app {a b : Str} (ha : PyData.strOk a = true) (hb : PyData.strOk b = true) : PyData.strOk (a ++ b) = true := by
  have e : (a ++ b).cps = a.cps ++ b.cps := rfl
  simp only [PyData.strOk, e, Array.all_append, Bool.and_eq_true] at *
  exact ⟨ha, hb⟩
theorem ok_of (s : String) : PyData.strOk (Str.ofString s) = true := by
  simp only [PyData.strOk, Str.ofString_eq_toList]
  simp only [List.all_toArray, List.all_map, List.all_eq_true, Function.comp]
  intro c _
  refine decide_eq_true ?_
  rcases c.valid with h | ⟨_, h⟩
  · have : c.toNat < 55296 := h
    omega
  · exact h
theorem ok_join : ∀ {ts : List Str}, (∀ t ∈ ts, PyData.strOk t = true) → PyData.strOk (Str.join ", " ts) = true
  | [], _ => by simp [Str.join, Str.empty, PyData.strOk]
  | [x], h => h x (by simp)
  | x :: y :: r, h => by
    show PyData.strOk (x ++ ", " ++ Str.join ", " (y :: r)) = true
    exact ok_app (ok_app (h x (by simp)) (ok_of _)) (ok_join fun t ht => h t (List.mem_cons_of_mem _ ht))
theorem ok_from : ∀ {ts : List Str} {k : Nat} {acc : Str}, PyData.strOk acc = true → (∀ t ∈ ts, PyData.strOk t = true) → PyData.strOk (textFrom k acc ts) = true
  | [], _, _, h, _ => h
  | t :: ts, k, acc, h, ht => ok_from (ts := ts) (ok_app (ok_app h (ok_of _)) (ht t (by simp))) fun x hx => ht x (List.mem_cons_of_mem _ hx)
structure NcP (k n : Nat) (p : PyData) : Prop where
  lay : p.canLay0 = true
  eqv : PyData.eqv p p = true
  shw : p.showable = true
  dep : p.depth ≤ k
  len : p.shown.length ≤ n
  ok : PyData.strOk p.shown = true
def Nc (k n : Nat) (d : D) : Prop := ∃ p, toPy d = some p ∧ NcP k n p
theorem Nc.mono {k n k' n' : Nat} {d : D} (h : Nc k n d) (hk : k ≤ k') (hn : n ≤ n') : Nc k' n' d := by
  obtain ⟨p, e, h⟩ := h
  exact ⟨p, e, h.lay, h.eqv, h.shw, Nat.le_trans h.dep hk, Nat.le_trans h.len hn, h.ok⟩
theorem Nc.non : Nc 0 580 .non := ⟨.none, rfl, rfl, rfl, rfl, Nat.le_refl _, by show 4 ≤ 580; omega, ok_of _⟩
theorem Nc.bl {b : Bool} : Nc 0 580 (.bl b) := ⟨.bool b, rfl, rfl, by cases b <;> rfl, rfl, Nat.le_refl _, by cases b <;> decide, by cases b <;> exact ok_of _⟩
theorem Nc.int {i : Int} (h : i.natAbs < 2 ^ 1920) : Nc 0 580 (.int i) := by
  refine ⟨.int i, rfl, rfl, by simp [PyData.eqv], ?_, Nat.le_refl _, ?_, ok_of _⟩
  · simp only [PyData.showable]
    refine decide_eq_true ?_
    by_cases z : i.natAbs = 0
    · rw [z]; decide
    · exact (Nat.log2_lt z).mpr h
  · have e := int_text_length_le10 (a := i) (k := 579) (by decide) (Nat.lt_of_lt_of_le h (by decide +kernel))
    simp only [PyData.shown]
    show (Str.ofString (toString i)).length ≤ 580
    rw [ofString_length]
    exact e
theorem Nc.str {s : Str} (h1 : PyData.strOk s = true) (h2 : (reprText s).length ≤ 580) (h3 : PyData.strOk (reprText s) = true) : Nc 0 580 (.str s) :=
  ⟨.str s, rfl, by simpa [PyData.canLay0] using h1, by simp [PyData.eqv], rfl, Nat.le_refl _, h2, h3⟩
theorem Nc.all {k n : Nat} : ∀ {ds : List D}, (∀ d ∈ ds, Nc k n d) → ∃ ps, toPys ds = some ps ∧ PyData.canLayAll0 ps = true ∧ PyData.eqvAll ps ps = true ∧ PyData.showableAll ps = true ∧ PyData.depthAll ps ≤ k ∧ ((PyData.shownAll ps).map (·.length)).sum + 2 * (PyData.shownAll ps).length ≤ ds.length * (n + 2) ∧ ∀ t ∈ PyData.shownAll ps, PyData.strOk t = true
  | [], _ => ⟨[], rfl, rfl, rfl, rfl, Nat.zero_le _, by simp [PyData.shownAll], fun _ h => by simp [PyData.shownAll] at h⟩
  | d :: ds, h => by
    obtain ⟨p, e, q⟩ := h d (List.mem_cons_self ..)
    obtain ⟨ps, e1, q1, q2, q3, q4, q5, q6⟩ := Nc.all (ds := ds) fun x hx => h x (List.mem_cons_of_mem _ hx)
    refine ⟨p :: ps, by simp only [toPys, e, e1], by simp [PyData.canLayAll0, q.lay, q1], by simp [PyData.eqvAll, q.eqv, q2], by simp [PyData.showableAll, q.shw, q3], by simp only [PyData.depthAll]; have := q.dep; omega, ?_, fun t ht => by
      simp only [PyData.shownAll] at ht
      rcases List.mem_cons.mp ht with rfl | ht
      · exact q.ok
      · exact q6 t ht⟩
    simp only [PyData.shownAll, List.map_cons, List.sum_cons, List.length_cons]
    have := q.len
    rw [Nat.add_mul]
    omega
theorem Nc.tup {k n : Nat} {ds : List D} (h : ∀ d ∈ ds, Nc k n d) : Nc (k + 1) (ds.length * (n + 2) + 3) (.tup ds) := by
  obtain ⟨ps, e1, q1, q2, q3, q4, q5, q6⟩ := Nc.all h
  refine ⟨.tuple ps, by simp only [toPy, e1], by simpa [PyData.canLay0] using q1, by simpa [PyData.eqv] using q2, by simpa [PyData.showable] using q3, by simp only [PyData.depth]; omega, ?_, ?_⟩
  rotate_left
  · simp only [PyData.shown, tupleText]
    exact ok_app (ok_app (ok_of _) (ok_join q6)) (ok_of _)
  have := tupleText_len_le (PyData.shownAll ps)
  simp only [PyData.shown]
  omega
theorem Nc.lst {k n : Nat} {ds : List D} (h : ∀ d ∈ ds, Nc k n d) : Nc (k + 1) (ds.length * (n + 2) + 3) (.lst ds) := by
  obtain ⟨ps, e1, q1, q2, q3, q4, q5, q6⟩ := Nc.all h
  refine ⟨.list ps, by simp only [toPy, e1], by simpa [PyData.canLay0] using q1, by simpa [PyData.eqv] using q2, by simpa [PyData.showable] using q3, by simp only [PyData.depth]; omega, ?_, ?_⟩
  rotate_left
  · simp only [PyData.shown, listText]
    exact ok_app (ok_from (ok_of _) q6) (ok_of _)
  have := listText_len_le (PyData.shownAll ps)
  simp only [PyData.shown]
  omega
theorem Nc.eq {k n : Nat} {d : D} (h : Nc k n d) (hk : k ≤ 60) : eqD d d = some true := by
  obtain ⟨p, e, q⟩ := h
  have hs : SeqAt.shaped p = true := by
    unfold SeqAt.shaped
    rw [q.lay, Bool.true_and]
    exact decide_eq_true (by have := q.dep; omega)
  simp only [eqD, e]
  rw [if_pos ⟨hs, hs⟩, q.eqv]
/-- what a comparison and repr ask: no place -/
def noLoc : D → Bool
  | .loc _ => false
  | _ => true
theorem Nc.res {k n : Nat} {d : D} (h : Nc k n d) (S : Store) : res S d = some d := by
  obtain ⟨p, e, q⟩ := h
  cases d <;> first | rfl | (simp [toPy] at e)
theorem Nc.cmpEq {k n : Nat} {d : D} (h : Nc k n d) (hk : k ≤ 60) (S : Store) : cmpS .eq d d S = some true := by
  simp only [cmpS, h.res S, cmpD, h.eq hk]
theorem Nc.repr {k n : Nat} {d : D} (h : Nc k n d) (hk : k ≤ 60) (hn : n ≤ 16777216) (S : Store) : ∃ s, primS .repr [d] S = some (.str s) ∧ PyData.strOk s = true := by
  obtain ⟨p, e, q⟩ := id h
  have ok : reprOk p := ⟨q.shw, PyData.hasDict_of_canLay p q.lay, Nat.le_trans q.dep hk, by rw [sizeLine_eq]; exact Nat.le_trans q.len hn⟩
  refine ⟨p.shown, ?_, q.ok⟩
  simp only [primS, h.res S, Option.bind_some, e]
  rw [if_pos ok]
theorem eqD_str (s : Str) (h : PyData.strOk s = true) : eqD (.str s) (.str s) = some true := by
  simp only [eqD, toPy]
  have hs : SeqAt.shaped (.str s) = true := by
    show (PyData.strOk s && decide (0 ≤ 64)) = true
    rw [h]
    rfl
  rw [if_pos ⟨hs, hs⟩]
  simp [PyData.eqv]
/-! ### walks -/
section
variable {α : Type} {emb : α → D} {gs : List Guard} {F : D → Env → Store → P}
/-- a walk by its invariant -/
theorem forL_inv (I : List α → Env → Store → Prop) (hg : ∀ pre env S, I pre env S → ∀ q ∈ gs, okG q S) : ∀ (post pre : List α) {env : Env} {S : Store},
    (∀ p x r env S, pre ++ post = p ++ x :: r → I p env S → ∃ env' S', (F (emb x) env S = some (.nx env', S') ∨ F (emb x) env S = some (.ct env', S')) ∧ I (p ++ [x]) env' S') → I pre env S →
    ∃ env' S', forL gs F (post.map emb) env S = some (.nx env', S') ∧ I (pre ++ post) env' S'
  | [], pre, env, S, _, h => ⟨env, S, by rw [List.map_nil]; unfold forL; rw [if_pos (hg _ _ _ h)], by rw [List.append_nil]; exact h⟩
  | x :: post, pre, env, S, hs, h => by
    obtain ⟨env1, S1, e1, h1⟩ := hs pre x post env S rfl h
    have a : pre ++ [x] ++ post = pre ++ x :: post := by simp
    obtain ⟨env2, S2, e2, h2⟩ := forL_inv I hg post (pre ++ [x]) (fun p y r env S he => hs p y r env S (by rw [← he, a])) h1
    refine ⟨env2, S2, ?_, by rw [← a]; exact h2⟩
    rw [List.map_cons]
    unfold forL
    rw [if_pos (hg _ _ _ h)]
    rcases e1 with e1 | e1 <;> rw [e1] <;> exact e2
/-- .. which may end by a return -/
theorem forL_ret (I : List α → Env → Store → Prop) (Rt : D → Store → Prop) (hg : ∀ pre env S, I pre env S → ∀ q ∈ gs, okG q S) : ∀ (post pre : List α) {env : Env} {S : Store},
    (∀ p x r env S, pre ++ post = p ++ x :: r → I p env S → (∃ env' S', (F (emb x) env S = some (.nx env', S') ∨ F (emb x) env S = some (.ct env', S')) ∧ I (p ++ [x]) env' S') ∨ ∃ d S', F (emb x) env S = some (.rt d, S') ∧ Rt d S') → I pre env S →
    (∃ env' S', forL gs F (post.map emb) env S = some (.nx env', S') ∧ I (pre ++ post) env' S') ∨ ∃ d S', forL gs F (post.map emb) env S = some (.rt d, S') ∧ Rt d S'
  | [], pre, env, S, _, h => .inl ⟨env, S, by rw [List.map_nil]; unfold forL; rw [if_pos (hg _ _ _ h)], by rw [List.append_nil]; exact h⟩
  | x :: post, pre, env, S, hs, h => by
    have a : pre ++ [x] ++ post = pre ++ x :: post := by simp
    rcases hs pre x post env S rfl h with ⟨env1, S1, e1, h1⟩ | ⟨d, S', e1, h1⟩
    · rcases forL_ret I Rt hg post (pre ++ [x]) (fun p y r env S he => hs p y r env S (by rw [← he, a])) h1 with ⟨env2, S2, e2, h2⟩ | ⟨d, S', e2, h2⟩
      · refine .inl ⟨env2, S2, ?_, by rw [← a]; exact h2⟩
        rw [List.map_cons]
        unfold forL
        rw [if_pos (hg _ _ _ h)]
        rcases e1 with e1 | e1 <;> rw [e1] <;> exact e2
      · refine .inr ⟨d, S', ?_, h2⟩
        rw [List.map_cons]
        unfold forL
        rw [if_pos (hg _ _ _ h)]
        rcases e1 with e1 | e1 <;> rw [e1] <;> exact e2
    · refine .inr ⟨d, S', ?_, h1⟩
      rw [List.map_cons]
      unfold forL
      rw [if_pos (hg _ _ _ h), e1]
end
/-! ### comprehensions -/
section
variable {G : Ctx} {env : Env} {S : Store} {tg as c elt : E} {k : Ik} {own : List Nat}
theorem t_turn {d : D} : turnF G tg c elt own env d S = match bindT tg d (wipeE env own) with
    | none => none
    | some env' => bnd (ev G c env' S) fun x S => tst (truS x S) fun t => if t then bnd (ev G elt env' S) fun y S => some (.ok (some y) S) else some (.ok none S) := by
  unfold turnF
  cases bindT tg d (wipeE env own) with
  | none => rfl
  | some env' =>
    simp only [mb, mos, ob]
    congr 1; funext x S; congr 1; funext t; cases t <;> simp [mb, mr]
theorem e_comp (h : G.hot = false) : ev G (.comp tg k as c elt own) env S = bnd (ev G as env S) fun a S => bnd (opt (tups a) S) fun ds S => bnd (opt (iterS k ds S) S) fun p S => bnd (compL p.2 (turnF G tg c elt own env) p.1 S) fun ys S => if ys.length < 1000000 then some (.ok (.lst ys) S) else none := by
  have e : ev G (.comp tg k as c elt own) env S = ((ev G as env).bind fun a => (M.opt (tups a)).bind fun ds => (M.optS (iterS k ds)).bind fun p =>
    (compL p.2 (turnF G tg c elt own env) p.1).bind fun ys => if ys.length < 1000000 then M.ret (.lst ys) else M.opt none) S := by
    simp only [ev, h, Bool.false_eq_true, if_false]
    rfl
  rw [e]
  simp only [mb, mo, mos]
  congr 1; funext a S; congr 1; funext ds S; congr 1; funext p S; congr 1; funext ys S
  split <;> rfl
variable {α : Type} {emb : α → D} {gs : List Guard} {ds : List D} {xs : List α}
/-- a comprehension that leaves the store -/
theorem comp_pure {g : α → Option D} (hh : G.hot = false) (ha : ev G as env S = some (.ok (.tup ds) S)) (hi : iterS k ds S = some (xs.map emb, gs)) (hg : ∀ q ∈ gs, okG q S) (hl : xs.length < 1000000)
    (ht : ∀ x ∈ xs, turnF G tg c elt own env (emb x) S = some (.ok (g x) S)) : ev G (.comp tg k as c elt own) env S = some (.ok (.lst (xs.filterMap g)) S) := by
  have hc : compL gs (turnF G tg c elt own env) (xs.map emb) S = some (.ok (xs.filterMap g) S) := by
    clear hi hl
    induction xs with
    | nil => rw [List.map_nil]; unfold compL; rw [if_pos hg]; rfl
    | cons x xs ih =>
      have ih := ih fun y hy => ht y (List.mem_cons_of_mem _ hy)
      rw [List.map_cons]
      unfold compL
      rw [if_pos hg, ht x (List.mem_cons_self ..)]
      cases e : g x with
      | none => simp only [List.filterMap_cons, e]; exact ih
      | some y => simp only [List.filterMap_cons, e, ih]
  have hl2 : (xs.filterMap g).length < 1000000 := Nat.lt_of_le_of_lt (List.length_filterMap_le ..) hl
  rw [e_comp hh]
  simp [ha, hi, hc, hl2]
theorem comp_map {g : α → D} (hh : G.hot = false) (ha : ev G as env S = some (.ok (.tup ds) S)) (hi : iterS k ds S = some (xs.map emb, gs)) (hg : ∀ q ∈ gs, okG q S) (hl : xs.length < 1000000)
    (ht : ∀ x ∈ xs, turnF G tg c elt own env (emb x) S = some (.ok (some (g x)) S)) : ev G (.comp tg k as c elt own) env S = some (.ok (.lst (xs.map g)) S) := by
  have := comp_pure (g := fun x => some (g x)) hh ha hi hg hl ht
  rw [this]
  congr 3
  induction xs with
  | nil => rfl
  | cons x xs _ => simp
theorem comp_filter {p : α → Bool} {g : α → D} (hh : G.hot = false) (ha : ev G as env S = some (.ok (.tup ds) S)) (hi : iterS k ds S = some (xs.map emb, gs)) (hg : ∀ q ∈ gs, okG q S) (hl : xs.length < 1000000)
    (ht : ∀ x ∈ xs, turnF G tg c elt own env (emb x) S = some (.ok (if p x then some (g x) else none) S)) : ev G (.comp tg k as c elt own) env S = some (.ok (.lst ((xs.filter p).map g)) S) := by
  have := comp_pure (g := fun x => if p x then some (g x) else none) hh ha hi hg hl ht
  rw [this]
  congr 3
  clear this hi hl ht
  induction xs with
  | nil => rfl
  | cons x xs ih => by_cases h : p x <;> simp [List.filterMap_cons, List.filter_cons, h, ih]
/-- a comprehension whose turns change a part of the store -/
theorem compL_st {σT : Type} {st : σT → Store} {P : α → D → Prop} {F : D → M (Option D)} (hg : ∀ σ, ∀ q ∈ gs, okG q (st σ)) : ∀ (xs : List α) (σ : σT), (∀ x ∈ xs, ∀ σ, ∃ o σ', F (emb x) (st σ) = some (.ok o (st σ')) ∧ ∀ y, o = some y → P x y) →
    ∃ ys σ', compL gs F (xs.map emb) (st σ) = some (.ok ys (st σ')) ∧ ys.length ≤ xs.length ∧ ∀ y ∈ ys, ∃ x ∈ xs, P x y
  | [], σ, _ => ⟨[], σ, by rw [List.map_nil]; unfold compL; rw [if_pos (hg σ)], Nat.le_refl _, fun _ h => nomatch h⟩
  | x :: xs, σ, h => by
    obtain ⟨o, σ1, e1, hP⟩ := h x (List.mem_cons_self ..) σ
    obtain ⟨ys, σ2, e2, hl, hy⟩ := compL_st hg xs σ1 fun y hy => h y (List.mem_cons_of_mem _ hy)
    cases o with
    | none =>
      refine ⟨ys, σ2, ?_, by simp; omega, fun y hh => let ⟨x, hx, q⟩ := hy y hh; ⟨x, List.mem_cons_of_mem _ hx, q⟩⟩
      rw [List.map_cons]; unfold compL; rw [if_pos (hg σ), e1]; exact e2
    | some y =>
      refine ⟨y :: ys, σ2, ?_, by simp; omega, fun z hz => ?_⟩
      · rw [List.map_cons]; unfold compL; rw [if_pos (hg σ), e1]; simp only [e2]
      · rcases List.mem_cons.mp hz with rfl | hz
        · exact ⟨x, List.mem_cons_self .., hP _ rfl⟩
        · obtain ⟨w, hw, q⟩ := hy z hz
          exact ⟨w, List.mem_cons_of_mem _ hw, q⟩
/-- .. of which each turn gives an item -/
theorem compL_all {σT : Type} {st : σT → Store} {P : α → D → Prop} {F : D → M (Option D)} (hg : ∀ σ, ∀ q ∈ gs, okG q (st σ)) : ∀ (xs : List α) (σ : σT), (∀ x ∈ xs, ∀ σ, ∃ y σ', F (emb x) (st σ) = some (.ok (some y) (st σ')) ∧ P x y) →
    ∃ ys σ', compL gs F (xs.map emb) (st σ) = some (.ok ys (st σ')) ∧ ys.length = xs.length ∧ ∀ y ∈ ys, ∃ x ∈ xs, P x y
  | [], σ, _ => ⟨[], σ, by rw [List.map_nil]; unfold compL; rw [if_pos (hg σ)], rfl, fun _ h => nomatch h⟩
  | x :: xs, σ, h => by
    obtain ⟨y, σ1, e1, hP⟩ := h x (List.mem_cons_self ..) σ
    obtain ⟨ys, σ2, e2, hl, hy⟩ := compL_all hg xs σ1 fun y hy => h y (List.mem_cons_of_mem _ hy)
    refine ⟨y :: ys, σ2, ?_, by simp [hl], fun z hz => ?_⟩
    · rw [List.map_cons]; unfold compL; rw [if_pos (hg σ), e1]; simp only [e2]
    · rcases List.mem_cons.mp hz with rfl | hz
      · exact ⟨x, List.mem_cons_self .., hP⟩
      · obtain ⟨w, hw, q⟩ := hy z hz
        exact ⟨w, List.mem_cons_of_mem _ hw, q⟩
/-- .. of which each turn gives its own item or none -/
theorem compL_sub {σT : Type} {st : σT → Store} {F : D → M (Option D)} (hg : ∀ σ, ∀ q ∈ gs, okG q (st σ)) : ∀ (xs : List α) (σ : σT), (∀ x ∈ xs, ∀ σ, ∃ b σ', F (emb x) (st σ) = some (.ok (if b = true then some (emb x) else none) (st σ'))) →
    ∃ (ys : List α) (σ' : σT), compL gs F (xs.map emb) (st σ) = some (.ok (ys.map emb) (st σ')) ∧ ys.Sublist xs
  | [], σ, _ => ⟨[], σ, by rw [List.map_nil]; unfold compL; rw [if_pos (hg σ)], .refl _⟩
  | x :: xs, σ, h => by
    obtain ⟨b, σ1, e1⟩ := h x (List.mem_cons_self ..) σ
    obtain ⟨ys, σ2, e2, hy⟩ := compL_sub hg xs σ1 fun y hy => h y (List.mem_cons_of_mem _ hy)
    cases b with
    | false => exact ⟨ys, σ2, by rw [List.map_cons]; unfold compL; rw [if_pos (hg σ), e1]; exact e2, .cons _ hy⟩
    | true => exact ⟨x :: ys, σ2, by rw [List.map_cons]; unfold compL; rw [if_pos (hg σ), e1]; simp only [if_true, e2, List.map_cons], .cons_cons _ hy⟩
theorem ex_map {β : Type} {emb : β → D} {P : β → Prop} : ∀ {ys : List D}, (∀ y ∈ ys, ∃ b, y = emb b ∧ P b) → ∃ bs : List β, ys = bs.map emb ∧ ∀ b ∈ bs, P b
  | [], _ => ⟨[], rfl, fun _ h => nomatch h⟩
  | y :: ys, h => by
    obtain ⟨b, rfl, hb⟩ := h y (List.mem_cons_self ..)
    obtain ⟨bs, rfl, hbs⟩ := ex_map fun z hz => h z (List.mem_cons_of_mem _ hz)
    exact ⟨b :: bs, rfl, fun c hc => by rcases List.mem_cons.mp hc with rfl | hc; exact hb; exact hbs c hc⟩
end
/-! ### dicts that a comprehension makes -/
section
variable {G : Ctx} {env : Env} {S : Store} {tg as c kx vx : E} {k : Ik} {own : List Nat}
theorem t_turnD {d : D} : turnD G tg c kx vx own env d S = match bindT tg d (wipeE env own) with
    | none => none
    | some env' => bnd (ev G c env' S) fun x S => tst (truS x S) fun t => if t then bnd (ev G kx env' S) fun y S => bnd (ev G vx env' S) fun z S => some (.ok (some (y, z)) S) else some (.ok none S) := by
  unfold turnD
  cases bindT tg d (wipeE env own) with
  | none => rfl
  | some env' =>
    simp only [mb, mos, ob]
    congr 1; funext x S; congr 1; funext t; cases t <;> simp [mb, mr]
theorem e_dcomp (h : G.hot = false) : ev G (.dcomp tg k as c kx vx own) env S = bnd (ev G as env S) fun a S => bnd (opt (tups a) S) fun ds S => bnd (opt (iterS k ds S) S) fun p S => bnd (dcompL p.2 (turnD G tg c kx vx own env) p.1 [] S) fun kvs S => some (.ok (.loc S.length) (S ++ [.dct kvs])) := by
  have e : ev G (.dcomp tg k as c kx vx own) env S = ((ev G as env).bind fun a => (M.opt (tups a)).bind fun ds => (M.optS (iterS k ds)).bind fun p =>
    (dcompL p.2 (turnD G tg c kx vx own env) p.1 []).bind fun kvs => alloc (.dct kvs)) S := by
    simp only [ev, h, Bool.false_eq_true, if_false]
    rfl
  rw [e]
  simp only [mb, mo, mos]
  rfl
/-- each turn puts the same pair -/
theorem dcompL_same {α : Type} {emb : α → D} {gs : List Guard} {F : D → M (Option (D × D))} {m : Int} {v : D} (hg : ∀ q ∈ gs, okG q S) : ∀ (xs : List α) {acc : List (D × D)}, (acc = [] ∨ acc = [(.int m, v)]) → (∀ x ∈ xs, F (emb x) S = some (.ok (some (.int m, v)) S)) →
    dcompL gs F (xs.map emb) acc S = some (.ok (if xs = [] then acc else [(.int m, v)]) S)
  | [], acc, _, _ => by rw [List.map_nil]; unfold dcompL; rw [if_pos hg]; rfl
  | x :: xs, acc, ha, h => by
    have e1 : dput (.int m) v acc = some [(.int m, v)] := by
      rcases ha with rfl | rfl
      · rfl
      · simp [dput, dget, dmap, eqD_int]
    have hk : isKey (.int m) = true ∧ acc.length < 1000000 := ⟨rfl, by rcases ha with rfl | rfl <;> simp⟩
    have ih := dcompL_same hg xs (acc := [(.int m, v)]) (.inr rfl) fun y hy => h y (List.mem_cons_of_mem _ hy)
    rw [List.map_cons]
    unfold dcompL
    rw [if_pos hg, h x (List.mem_cons_self ..)]
    simp only [if_pos hk, e1, ih]
    simp
@[simp] theorem len_dct {kvs : List (D × D)} : primS .len [.loc S.length] (S ++ [.dct kvs]) = some (.int kvs.length) := by simp [primS]
end
/-! ### items -/
@[simp] theorem rngL_eq {lo : Int} {n : Nat} : rngL lo n = (List.range n).map fun (i : Nat) => .int (lo + (i : Int)) := Eq.trans rfl rfl
section
variable {S : Store} {ds es : List D}
@[simp] theorem it_tup : iterS .val [.tup ds] S = some (ds, [none]) := Eq.trans rfl rfl
@[simp] theorem it_lst : iterS .val [.lst ds] S = some (ds, [none]) := Eq.trans rfl rfl
@[simp] theorem it_flst : iterS .val [.flst ds] S = some (ds, [none]) := Eq.trans rfl rfl
theorem it_rng1 {j : Int} (h : rngOk j) : iterS .rng1 [.int j] S = some ((List.range j.toNat).map fun (i : Nat) => .int ((i : Int)), []) := by
  simp only [iterS]
  rw [if_pos h]
  simp [rngL]
theorem it_rng2 {i j : Int} (h : rngOk i) (h2 : rngOk j) : iterS .rng2 [.int i, .int j] S = some ((List.range (j - i).toNat).map fun (n : Nat) => .int (i + (n : Int)), []) := by
  simp only [iterS]
  rw [if_pos ⟨h, h2⟩]
  rfl
@[simp] theorem it_enuT : iterS .enu [.tup ds] S = some (enuL 0 ds, [none]) := Eq.trans rfl rfl
@[simp] theorem it_enuL : iterS .enu [.lst ds] S = some (enuL 0 ds, [none]) := Eq.trans rfl rfl
@[simp] theorem it_zipT : iterS .zip [.tup ds, .tup es] S = some (zipL ds es, [none, none]) := Eq.trans rfl rfl
@[simp] theorem it_zipL : iterS .zip [.lst ds, .lst es] S = some (zipL ds es, [none, none]) := Eq.trans rfl rfl
theorem zipL_map {α β : Type} {f : α → D} {g : β → D} : ∀ (xs : List α) (ys : List β), zipL (xs.map f) (ys.map g) = (xs.zip ys).map fun p => .tup [f p.1, g p.2]
  | [], _ => by cases ‹List β› <;> rfl
  | _ :: _, [] => rfl
  | x :: xs, y :: ys => by simp only [List.map_cons, zipL, zipL_map xs ys, List.zip_cons_cons]
theorem gN : ∀ q ∈ ([none] : List Guard), okG q S := fun q hq => by rw [List.mem_singleton.mp hq]; trivial
theorem gNN : ∀ q ∈ ([none, none] : List Guard), okG q S := fun q hq => by
  simp at hq; rw [hq]; trivial
theorem g0 : ∀ q ∈ ([] : List Guard), okG q S := fun q hq => nomatch hq
theorem atI_map {α : Type} {f : α → D} {xs : List α} {i : Int} {x : α} (h0 : 0 ≤ i) (h : xs[i.toNat]? = some x) : atI (xs.map f) i = some (f x) := by
  have hl : i.toNat < xs.length := (List.getElem?_eq_some_iff.mp h).1
  simp only [atI, ixN, List.length_map]
  rw [if_pos h0, if_pos (by omega)]
  simp [h]
theorem ex_get {α : Type} {xs : List α} {i : Int} (h0 : 0 ≤ i) (h : i < xs.length) : ∃ x, xs[i.toNat]? = some x ∧ x ∈ xs := by
  have hl : i.toNat < xs.length := by omega
  exact ⟨xs[i.toNat], List.getElem?_eq_getElem hl, List.getElem_mem hl⟩
end
end J
/-! A3: the defs that many laws share: draws, ==, greatest divisors -/
namespace J
open PySem L2
/-- the table's i-th def: its number of parameters, of names, its body -/
def Is (T : List Fn) (i p n : Nat) (b : C) : Prop := ∃ f, T[i]? = some f ∧ f.dfl = [] ∧ f.ps.length = p ∧ f.N.length = n ∧ f.body = b
section
variable {T : List Fn} {i p n : Nat} {b : C}
theorem Is.run (h : Is T i p n b) {ds : List D} (hl : ds.length = p) (k : Nat) (S : Store) : run T (k + 1) false i ds S = done (exec (fun h' => ⟨h', J.run T k h'⟩) b false (ds.map some ++ List.replicate (n - ds.length) none) S) := by
  obtain ⟨f, h1, h2, h3, h4, h5⟩ := h
  have e : fill f ds = ds := by unfold fill; rw [h2]; simp
  rw [run_eq h1 (by rw [e, hl, h3]), e, ← h4, ← h5]
  rfl
end
/-! ### sizes -/
theorem mulOk {x y : Int} (hx : x.natAbs < 2 ^ 9000) (hy : y.natAbs < 2 ^ 9000) : IntMulOk x y :=
  mulOk_small (Nat.lt_of_lt_of_le hx (Nat.pow_le_pow_right (by decide) (by decide))) (Nat.lt_of_lt_of_le hy (Nat.pow_le_pow_right (by decide) (by decide)))
theorem two64 : (1000000000000000000000000000000000000000000000000000000000000 : Nat) ≤ 2 ^ 9000 := by decide +kernel
theorem mulOkS {x y : Int} (hx : x.natAbs < 1000000000000000000000000000000000000000000000000000000000000) (hy : y.natAbs < 1000000000000000000000000000000000000000000000000000000000000) : IntMulOk x y := by
  have := two64
  exact mulOk (by omega) (by omega)
theorem divOkS {x y : Int} (h0 : 0 < y) (hy : y.natAbs < 1000000000000000000000000000000000000000000000000000000000000) : divOk x y := by
  have := two64
  exact divOk_small (by omega) (by omega)
theorem rngOkS {x : Int} (h1 : -1000000000 ≤ x) (h2 : x ≤ 1000000000) : rngOk x := ⟨by omega, by omega⟩
theorem Nc.i {x : Int} (h : x.natAbs < 1000000000000000000000000000000000000000000000000000000000000) : Nc 0 580 (.int x) := by
  have : (1000000000000000000000000000000000000000000000000000000000000 : Nat) ≤ 2 ^ 1920 := by decide +kernel
  exact Nc.int (by omega)
/-! ### the state of draws -/
structure LS where
  ns : List Int
  a : Int
  b : Int
  seed : Int
  ha : 0 ≤ a
  hb : 0 ≤ b
  hs : 0 ≤ seed ∧ seed < 4294967296
def st (σ : LS) : Cell := .lst [.lst (σ.ns.map .int), .int σ.a, .int σ.b, .int σ.seed]
def nextS (x : Int) : Int := (x * 48271 + 69621).fmod 2147483629
theorem fmod_pos {x m : Int} (h : 0 < m) : 0 ≤ x.fmod m ∧ x.fmod m < m := by
  rw [Int.fmod_eq_emod_of_nonneg x (by omega)]
  exact ⟨Int.emod_nonneg x (by omega), Int.emod_lt_of_pos x h⟩
theorem fdiv_nonneg {x m : Int} (h : 0 ≤ x) (hm : 0 < m) : 0 ≤ x.fdiv m := by
  rw [Int.fdiv_eq_ediv_of_nonneg _ (by omega)]
  exact Int.ediv_nonneg h (by omega)
theorem next_ok (x : Int) : 0 ≤ nextS x ∧ nextS x < 4294967296 := by
  have := fmod_pos (x := x * 48271 + 69621) (m := 2147483629) (by omega)
  unfold nextS
  omega
def absI' (x : Int) : Int := if x < 0 then -x else x
theorem absI'_nn (x : Int) : 0 ≤ absI' x := by unfold absI'; split <;> omega
/-- the amount that a draw takes from -/
def cur (σ : LS) : Int := if σ.a = 0 then absI' (σ.ns.getD σ.b.toNat 0) else σ.a
theorem cur_nn (σ : LS) : 0 ≤ cur σ := by
  unfold cur
  split
  · exact absI'_nn _
  · exact σ.ha
/-- a draw: its value, the state behind it -/
def dv (σ : LS) (m : Int) : Int := if σ.a = 0 ∧ (σ.ns.length : Int) ≤ σ.b then ((nextS σ.seed).fdiv 13).fmod m else (cur σ).fmod m
def dn (σ : LS) (m : Int) : LS := if h : 0 < m then (if σ.a = 0 ∧ (σ.ns.length : Int) ≤ σ.b then { σ with seed := nextS σ.seed, hs := next_ok _ } else
  { ns := σ.ns, a := (cur σ).fdiv m, b := if σ.a = 0 then σ.b + 1 else σ.b, seed := σ.seed, ha := fdiv_nonneg (cur_nn σ) h, hb := by have := σ.hb; split <;> omega, hs := σ.hs }) else σ
theorem dv_lo {σ : LS} {m : Int} (h : 0 < m) : 0 ≤ dv σ m := by unfold dv; split <;> exact (fmod_pos h).1
theorem dv_hi {σ : LS} {m : Int} (h : 0 < m) : dv σ m < m := by unfold dv; split <;> exact (fmod_pos h).2
def drawB : C := (.seq (.ifs (.and (.cmp .eq (.idx (.var 0) (.con (.int 1))) (.con (.int 0))) (.cmp .ge (.idx (.var 0) (.con (.int 2))) (.prim .len (.cons (.idx (.var 0) (.con (.int 0))) .nil)))) (.seq (.seti (.var 0) (.con (.int 3)) (.bin .mod (.prim .int (.cons (.bin .add (.bin .mul (.idx (.var 0) (.con (.int 3))) (.con (.int 48271))) (.con (.int 69621))) .nil)) (.con (.int 2147483629)))) (.seq (.ret (.bin .mod (.prim .int (.cons (.bin .fdiv (.idx (.var 0) (.con (.int 3))) (.con (.int 13))) .nil)) (.var 1))) .nil)) .nil) (.seq (.ifs (.cmp .eq (.idx (.var 0) (.con (.int 1))) (.con (.int 0))) (.seq (.seti (.var 0) (.con (.int 1)) (.prim .abs (.cons (.idx (.idx (.var 0) (.con (.int 0))) (.idx (.var 0) (.con (.int 2)))) .nil))) (.seq (.seti (.var 0) (.con (.int 2)) (.bin .add (.idx (.var 0) (.con (.int 2))) (.con (.int 1)))) .nil)) .nil) (.seq (.set (.var 2) (.bin .mod (.prim .int (.cons (.idx (.var 0) (.con (.int 1))) .nil)) (.var 1))) (.seq (.seti (.var 0) (.con (.int 1)) (.bin .fdiv (.idx (.var 0) (.con (.int 1))) (.var 1))) (.seq (.ret (.var 2)) .nil)))))
@[simp] theorem idx_loc0 {ds : List D} {rest : Store} {j : Int} : idxS (.loc 0) (.int j) (.lst ds :: rest) = atI ds j := Eq.trans rfl rfl
theorem atI4 {a b c d : D} : atI [a, b, c, d] 0 = some a ∧ atI [a, b, c, d] 1 = some b ∧ atI [a, b, c, d] 2 = some c ∧ atI [a, b, c, d] 3 = some d := ⟨rfl, rfl, rfl, rfl⟩
theorem setS0 {ds : List D} {rest : Store} {v : D} {j : Nat} (h : j < ds.length) : setS (.loc 0) (.int j) v (.lst ds :: rest) = some (.lst (ds.set j v) :: rest) := by
  simp only [setS, List.getElem?_cons_zero, ixN]
  rw [if_pos (by omega), if_pos (by omega)]
  simp
theorem r_draw {T : List Fn} {i : Nat} (h : Is T i 2 3 drawB) (k : Nat) (σ : LS) (rest : Store) (m : Int) (hm : 0 < m) (hz : m < 18446744073709551616) : run T (k + 1) false i [.loc 0, .int m] (st σ :: rest) = some (.ok (.int (dv σ m)) (st (dn σ m) :: rest)) := by
  rw [h.run rfl]
  obtain ⟨ns, a, b, seed, ha, hb, hs⟩ := σ
  have s0 : ∀ {w x y z v : D}, setS (.loc 0) (.int 3) v (.lst [w, x, y, z] :: rest) = some (.lst [w, x, y, v] :: rest) := rfl
  have s1 : ∀ {w x y z v : D}, setS (.loc 0) (.int 1) v (.lst [w, x, y, z] :: rest) = some (.lst [w, v, y, z] :: rest) := rfl
  have s2 : ∀ {w x y z v : D}, setS (.loc 0) (.int 2) v (.lst [w, x, y, z] :: rest) = some (.lst [w, x, v, z] :: rest) := rfl
  obtain ⟨i0, i1, i2, i3⟩ : (∀ {w x y z : D}, atI [w, x, y, z] 0 = some w) ∧ (∀ {w x y z : D}, atI [w, x, y, z] 1 = some x) ∧ (∀ {w x y z : D}, atI [w, x, y, z] 2 = some y) ∧ (∀ {w x y z : D}, atI [w, x, y, z] 3 = some z) := ⟨rfl, rfl, rfl, rfl⟩
  have m1 : IntMulOk seed 48271 := mulOkS (by omega) (by decide)
  have d1 : ∀ x : Int, divOk x 13 := fun x => divOkS (by omega) (by decide)
  have d2 : ∀ x : Int, divOk x m := fun x => divOkS hm (by omega)
  have m0 : m ≠ 0 := by omega
  by_cases c0 : a = 0
  · subst c0
    by_cases c1 : (ns.length : Int) ≤ b
    · simp [drawB, st, i0, i1, i2, i3, s0, c1, m1, d1, m0, dv, dn, hm, nextS]
    · obtain ⟨x, hx, hm2⟩ := ex_get (xs := ns) hb (by omega)
      have hx2 : atI (ns.map D.int) b = some (.int x) := atI_map hb hx
      have hx3 : ns[b.toNat]?.getD 0 = x := by rw [hx]; rfl
      simp [drawB, st, i0, i1, i2, i3, s1, s2, c1, d2, m0, dv, dn, hm, cur, hx2, hx3, absI']
  · simp [drawB, st, i0, i1, i2, i3, s1, c0, d2, m0, dv, dn, hm, cur]
/-- the draw's callers: some[_law_draw(state, len(some))] -/
def pickB (i : Nat) : C := (.seq (.ret (.idx (.var 1) (.call i true (.cons (.var 0) (.cons (.prim .len (.cons (.var 1) .nil)) .nil))))) .nil)
def pk (σ : LS) (ds : List D) : D := ds.getD (dv σ ds.length).toNat .non
theorem pk_mem {σ : LS} {ds : List D} (h : ds ≠ []) : pk σ ds ∈ ds := by
  have hl : 0 < (ds.length : Int) := by have := List.length_pos_iff.mpr h; omega
  have h1 := dv_lo (σ := σ) hl
  have h2 := dv_hi (σ := σ) hl
  have h3 : (dv σ ds.length).toNat < ds.length := by omega
  unfold pk
  rw [List.getD_eq_getElem?_getD, List.getElem?_eq_getElem h3]
  exact List.getElem_mem h3
theorem r_pick {T : List Fn} {i j : Nat} (h : Is T i 2 3 drawB) (hp : Is T j 2 2 (pickB i)) (k : Nat) (σ : LS) (rest : Store) (ds : List D) (h0 : ds ≠ []) (hz : ds.length < 1000000) : run T (k + 2) false j [.loc 0, .lst ds] (st σ :: rest) = some (.ok (pk σ ds) (st (dn σ ds.length) :: rest)) := by
  rw [hp.run rfl]
  have hl : 0 < (ds.length : Int) := by have := List.length_pos_iff.mpr h0; omega
  have h1 := dv_lo (σ := σ) hl
  have h2 := dv_hi (σ := σ) hl
  have hat : atI ds (dv σ ds.length) = some (pk σ ds) := by
    simp only [atI, ixN]
    rw [if_pos h1, if_pos h2]
    have h3 : (dv σ ds.length).toNat < ds.length := by omega
    simp only [Option.bind_some]
    unfold pk
    rw [List.getD_eq_getElem?_getD, List.getElem?_eq_getElem h3]
    rfl
  have hr := r_draw h k σ rest ds.length hl (by omega)
  simp [pickB, hr, hat]
theorem r_pickT {T : List Fn} {i j : Nat} (h : Is T i 2 3 drawB) (hp : Is T j 2 2 (pickB i)) (k : Nat) (σ : LS) (rest : Store) (ds : List D) (h0 : ds ≠ []) (hz : ds.length < 1000000) : run T (k + 2) false j [.loc 0, .tup ds] (st σ :: rest) = some (.ok (pk σ ds) (st (dn σ ds.length) :: rest)) := by
  rw [hp.run rfl]
  have hl : 0 < (ds.length : Int) := by have := List.length_pos_iff.mpr h0; omega
  have h1 := dv_lo (σ := σ) hl
  have h2 := dv_hi (σ := σ) hl
  have hat : atI ds (dv σ ds.length) = some (pk σ ds) := by
    simp only [atI, ixN]
    rw [if_pos h1, if_pos h2]
    have h3 : (dv σ ds.length).toNat < ds.length := by omega
    simp only [Option.bind_some]
    unfold pk
    rw [List.getD_eq_getElem?_getD, List.getElem?_eq_getElem h3]
    rfl
  have hr := r_draw h k σ rest ds.length hl (by omega)
  simp [pickB, hr, hat]
def startW : C := (.seq (.set (.var 1) (.bin .add (.bin .mod (.prim .int (.cons (.bin .add (.bin .mul (.var 1) (.con (.int 48271))) (.var 2)) .nil)) (.con (.int 2147483629))) (.con (.int 1)))) .nil)
def startL : C := .forr (.var 2) .val (.cons (.var 0) .nil) startW
def startB : C := (.seq (.set (.var 1) (.con (.int 7))) (.seq startL (.seq (.ret (.mut (.disp (.cons (.plist (.var 0)) (.cons (.con (.int 0)) (.cons (.con (.int 0)) (.cons (.var 1) .nil))))))) .nil)))
theorem r_start {T : List Fn} {i : Nat} (h : Is T i 1 3 startB) (k : Nat) (ns : List Int) : ∃ σ : LS, run T (k + 1) false i [.flst (ns.map .int)] [] = some (.ok (.loc 0) [st σ]) := by
  rw [h.run rfl]
  have loop : ∃ env' S', forL [none] (turnL (fun h' => ⟨h', run T k h'⟩) (.var 2) startW) (ns.map D.int) [some (.flst (ns.map .int)), some (.int 7), none] [] = some (.nx env', S') ∧ ∃ (x : Int) (o : Option D), 0 ≤ x ∧ x < 4294967296 ∧ env' = [some (.flst (ns.map .int)), some (.int x), o] ∧ S' = [] := by
    refine forL_inv (emb := D.int) (fun _ env' S' => ∃ (x : Int) (o : Option D), 0 ≤ x ∧ x < 4294967296 ∧ env' = [some (.flst (ns.map .int)), some (.int x), o] ∧ S' = []) (fun _ _ _ _ => gN) ns [] ?_ ⟨7, none, by omega, by omega, rfl, rfl⟩
    rintro p y r env S _ ⟨x, o, h1, h2, rfl, rfl⟩
    have hm : IntMulOk x 48271 := mulOkS (by omega) (by decide)
    have hf := fmod_pos (x := x * 48271 + y) (m := 2147483629) (by omega)
    refine ⟨_, _, .inl ?_, (x * 48271 + y).fmod 2147483629 + 1, some (.int y), by omega, by omega, rfl, rfl⟩
    simp [turnL, startW, hm]
  obtain ⟨env', S', e, x, o, h1, h2, rfl, rfl⟩ := loop
  refine ⟨⟨ns, 0, 0, x, by omega, by omega, h1, h2⟩, ?_⟩
  have e' : exec (fun h' => ⟨h', run T k h'⟩) startL false [some (.flst (ns.map .int)), some (.int 7), none] [] = some (.nx [some (.flst (ns.map .int)), some (.int x), o], []) := by
    unfold startL
    rw [c_for]
    simp
    exact e
  simp [startB, e', st]
/-! ### == and repr -/
def sameB : C := (.seq (.ret (.and (.cmp .eq (.var 0) (.var 1)) (.cmp .eq (.prim .repr (.cons (.var 0) .nil)) (.prim .repr (.cons (.var 1) .nil))))) .nil)
theorem r_same {T : List Fn} {i : Nat} (h : Is T i 2 2 sameB) (k : Nat) {d : D} {S : Store} {m n : Nat} (hd : Nc m n d) (hm : m ≤ 60) (hn : n ≤ 16777216) : run T (k + 1) false i [d, d] S = some (.ok (.bl true) S) := by
  rw [h.run rfl]
  obtain ⟨s, e, hs⟩ := hd.repr hm hn S
  have e2 : cmpS .eq (.str s) (.str s) S = some true := by simp only [cmpS, res, cmpD, eqD_str s hs]
  simp [sameB, hd.cmpEq hm, e, e2]
end J
/-! A4: lists that a def fills; greatest divisors; is_integer, is_quotient, is_chance -/
namespace J
open PySem L2
section
variable {S : Store} {ds : List D} {x : D}
@[simp] theorem app_last (h : ds.length < 1000000) : appS (.loc S.length) x (S ++ [.lst ds]) = some (S ++ [.lst (ds ++ [x])]) := by
  simp [appS, h]
@[simp] theorem isLoc_last : isLoc (.loc S.length) (S ++ [.lst ds]) = true := by simp [isLoc]
@[simp] theorem its_last : itemsS (.loc S.length) (S ++ [.lst ds]) = some ds := by simp [itemsS]
@[simp] theorem tup_last : primS .tuple [.loc S.length] (S ++ [.lst ds]) = some (.tup ds) := by simp [primS]
@[simp] theorem len_last : primS .len [.loc S.length] (S ++ [.lst ds]) = some (.int ds.length) := by simp [primS]
@[simp] theorem tru_last : truS (.loc S.length) (S ++ [.lst ds]) = some (!ds.isEmpty) := by simp [truS]
end
theorem cut_lo {xs : List D} {r : Int} (h0 : 0 ≤ r) : cutD xs none (some r) = xs.take r.toNat := by
  unfold cutD
  simp only [HT.sIx, Nat.sub_zero, List.drop_zero]
  rw [if_neg (by omega)]
  rcases Nat.le_total r.toNat xs.length with h | h
  · rw [Nat.min_eq_left h]
  · rw [Nat.min_eq_right h, List.take_of_length_le (Nat.le_refl _), List.take_of_length_le h]
theorem cut_hi {xs : List D} {r : Int} (h0 : 0 ≤ r) : cutD xs (some r) none = xs.drop r.toNat := by
  unfold cutD
  simp only [HT.sIx]
  rw [if_neg (by omega)]
  rcases Nat.le_total r.toNat xs.length with h | h
  · rw [Nat.min_eq_left h, List.take_of_length_le (by simp)]
  · rw [Nat.min_eq_right h, List.drop_of_length_le h, List.drop_of_length_le (Nat.le_refl _)]
    simp
theorem range_at {n : Nat} {p r : List Nat} {x : Nat} (h : List.range n = p ++ x :: r) : x = p.length ∧ x < n := by
  have e : (List.range n)[p.length]? = some x := by rw [h]; simp
  have hl : p.length < n := by
    have := congrArg List.length h
    simp at this
    omega
  rw [List.getElem?_range hl] at e
  simp at e
  omega
/-! ### walks as statements -/
section
variable {G : Bool → Ctx} {env : Env} {S : Store} {tg as : E} {b p : C} {kk : Ik} {α : Type} {emb : α → D} {gs : List Guard} {ds : List D}
theorem for_inv (hp : p = .forr tg kk as b) (I : List α → Env → Store → Prop) (xs : List α) (h0 : I [] env S) (ha : ev (G false) as env S = some (.ok (.tup ds) S)) (hi : iterS kk ds S = some (xs.map emb, gs)) (hg : ∀ pre env S, I pre env S → ∀ q ∈ gs, okG q S)
    (hs : ∀ p x r env S, xs = p ++ x :: r → I p env S → ∃ env' S', (turnL G tg b (emb x) env S = some (.nx env', S') ∨ turnL G tg b (emb x) env S = some (.ct env', S')) ∧ I (p ++ [x]) env' S') :
    ∃ env' S', exec G p false env S = some (.nx env', S') ∧ I xs env' S' := by
  subst hp
  rw [c_for, ha]
  simp only [wE_ok, tups_tup, Option.bind_some, hi, obnd_some]
  exact forL_inv I hg xs [] (fun p x r env S he => hs p x r env S (by simpa using he)) h0
theorem for_ret (hp : p = .forr tg kk as b) (I : List α → Env → Store → Prop) (Rt : D → Store → Prop) (xs : List α) (h0 : I [] env S) (ha : ev (G false) as env S = some (.ok (.tup ds) S)) (hi : iterS kk ds S = some (xs.map emb, gs)) (hg : ∀ pre env S, I pre env S → ∀ q ∈ gs, okG q S)
    (hs : ∀ p x r env S, xs = p ++ x :: r → I p env S → (∃ env' S', (turnL G tg b (emb x) env S = some (.nx env', S') ∨ turnL G tg b (emb x) env S = some (.ct env', S')) ∧ I (p ++ [x]) env' S') ∨ ∃ d S', turnL G tg b (emb x) env S = some (.rt d, S') ∧ Rt d S') :
    (∃ env' S', exec G p false env S = some (.nx env', S') ∧ I xs env' S') ∨ ∃ d S', exec G p false env S = some (.rt d, S') ∧ Rt d S' := by
  subst hp
  rw [c_for, ha]
  simp only [wE_ok, tups_tup, Option.bind_some, hi, obnd_some]
  exact forL_ret I Rt hg xs [] (fun p x r env S he => hs p x r env S (by simpa using he)) h0
end
/-! ### items of written lists -/
section
variable {α : Type} {a b c d e f : α} {l : List α}
@[simp] theorem at_0 : atI (a :: l) 0 = some a := by simp only [atI, ixN, List.length_cons]; rw [if_pos (by omega), if_pos (by omega)]; rfl
@[simp] theorem at_1 : atI (a :: b :: l) 1 = some b := by simp only [atI, ixN, List.length_cons]; rw [if_pos (by omega), if_pos (by omega)]; rfl
@[simp] theorem at_2 : atI (a :: b :: c :: l) 2 = some c := by simp only [atI, ixN, List.length_cons]; rw [if_pos (by omega), if_pos (by omega)]; rfl
@[simp] theorem at_3 : atI (a :: b :: c :: d :: l) 3 = some d := by simp only [atI, ixN, List.length_cons]; rw [if_pos (by omega), if_pos (by omega)]; rfl
@[simp] theorem at_4 : atI (a :: b :: c :: d :: e :: l) 4 = some e := by simp only [atI, ixN, List.length_cons]; rw [if_pos (by omega), if_pos (by omega)]; rfl
@[simp] theorem at_5 : atI (a :: b :: c :: d :: e :: f :: l) 5 = some f := by simp only [atI, ixN, List.length_cons]; rw [if_pos (by omega), if_pos (by omega)]; rfl
end
/-- what a pick among ints gives -/
theorem pkI (σ : LS) (ns : List Int) (h : ns ≠ []) : ∃ x, x ∈ ns ∧ pk σ (ns.map .int) = .int x := by
  obtain ⟨x, hx, e⟩ := List.mem_map.mp (pk_mem (σ := σ) (ds := ns.map D.int) (by simpa using h))
  exact ⟨x, hx, e.symm⟩
theorem pk_map {α : Type} {f : α → D} (σ : LS) (xs : List α) (h : xs ≠ []) : ∃ x, x ∈ xs ∧ pk σ (xs.map f) = f x := by
  obtain ⟨x, hx, e⟩ := List.mem_map.mp (pk_mem (σ := σ) (ds := xs.map f) (by simpa using h))
  exact ⟨x, hx, e.symm⟩
/-! ### greatest divisors -/
def gcdW : E := (.cmp .gt (.var 1) (.con (.int 0)))
def gcdA : C := (.seq (.set (.tup (.cons (.var 0) (.cons (.var 1) .nil))) (.tup (.cons (.var 1) (.cons (.bin .mod (.var 0) (.var 1)) .nil)))) .nil)
def gcdI : C := (.seq (.set (.tup (.cons (.var 0) (.cons (.var 1) .nil))) (.tup (.cons (.var 1) (.cons (.bin .mod (.prim .int (.cons (.var 0) .nil)) (.var 1)) .nil)))) .nil)
def gcdB : C := (.seq (.whl gcdW gcdA) (.seq (.ret (.var 0)) .nil))
def gcdC : C := (.seq (.whl gcdW gcdI) (.seq (.ret (.var 0)) .nil))
theorem c_whl {G : Bool → Ctx} {env : Env} {S : Store} {c : E} {b : C} : exec G (.whl c b) false env S = whlL (ev (G false) c) (exec G b false) env S := by simp only [exec]
theorem r_gcdB {T : List Fn} {i : Nat} (h : Is T i 2 2 gcdB) (k : Nat) (S : Store) {x y : Int} (hx : 0 ≤ x) (hy : 0 ≤ y) : run T (k + 1) false i [.int x, .int y] S = some (.ok (.int (Int.gcd x y)) S) := by
  rw [h.run rfl]
  have e := whl_gcd (S := S) (mk := fun a b => [some (.int a), some (.int b)]) (c := ev ⟨false, run T k false⟩ gcdW) (b := exec (fun h' => ⟨h', run T k h'⟩) gcdA false)
    (fun x y => by simp [gcdW]) (fun x y h => by
      have : y ≠ 0 := by omega
      simp [gcdA, this]) y.toNat x y hx hy (Nat.le_refl _)
  simp [gcdB, c_whl, e]
theorem r_gcdC {T : List Fn} {i : Nat} (h : Is T i 2 2 gcdC) (k : Nat) (S : Store) {x y : Int} (hx : 0 ≤ x) (hy : 0 ≤ y) : run T (k + 1) false i [.int x, .int y] S = some (.ok (.int (Int.gcd x y)) S) := by
  rw [h.run rfl]
  have e := whl_gcd (S := S) (mk := fun a b => [some (.int a), some (.int b)]) (c := ev ⟨false, run T k false⟩ gcdW) (b := exec (fun h' => ⟨h', run T k h'⟩) gcdI false)
    (fun x y => by simp [gcdW]) (fun x y h => by
      have : y ≠ 0 := by omega
      simp [gcdI, this]) y.toNat x y hx hy (Nat.le_refl _)
  simp [gcdC, c_whl, e]
/-- a fraction in lowest terms -/
theorem low {x y : Int} (hx : 0 ≤ x) (hy : 0 < y) : 0 < (Int.gcd x y : Int) ∧ 0 ≤ x.fdiv (Int.gcd x y) ∧ 0 < y.fdiv (Int.gcd x y) ∧ y.fdiv (Int.gcd x y) ≤ y ∧ Int.gcd (x.fdiv (Int.gcd x y)) (y.fdiv (Int.gcd x y)) = 1 ∧ (x ≤ y → x.fdiv (Int.gcd x y) ≤ y.fdiv (Int.gcd x y)) := by
  have g0 : 0 < Int.gcd x y := Int.gcd_pos_of_ne_zero_right x (by omega)
  have g1 : 0 < (Int.gcd x y : Int) := by omega
  have dx : (Int.gcd x y : Int) ∣ x := Int.gcd_dvd_left ..
  have dy : (Int.gcd x y : Int) ∣ y := Int.gcd_dvd_right ..
  rw [Int.fdiv_eq_ediv_of_nonneg _ (by omega), Int.fdiv_eq_ediv_of_nonneg _ (by omega)]
  refine ⟨g1, Int.ediv_nonneg hx (by omega), Int.ediv_pos_of_pos_of_dvd hy (by omega) dy, Int.ediv_le_self _ (by omega), Int.gcd_ediv_gcd_ediv_gcd g0, fun h => Int.ediv_le_ediv g1 h⟩
/-! ### is_integer, is_quotient, is_chance -/
def isIntB : C := (.seq (.ret (.and (.isi (.var 0) .int) (.not (.isi (.var 0) .bool)))) .nil)
theorem r_isInt {T : List Fn} {i : Nat} (h : Is T i 1 1 isIntB) (k : Nat) (S : Store) (x : Int) : run T (k + 1) false i [.int x] S = some (.ok (.bl true) S) := by
  rw [h.run rfl]
  simp [isIntB]
def isQuoQ (i : Nat) : E := .comp (.var 1) .val (.cons (.var 0) .nil) (.con (.bl true)) (.call i false (.cons (.var 1) .nil)) [1]
def isQuoB (i j : Nat) : C := (.seq (.ifs (.or (.not (.isi (.var 0) .tuple)) (.or (.cmp .ne (.prim .len (.cons (.var 0) .nil)) (.con (.int 2))) (.not (.prim .all (.cons (isQuoQ i) .nil))))) (.seq (.ret (.con (.bl false))) .nil) .nil) (.seq (.ret (.and (.cmp .ge (.idx (.var 0) (.con (.int 1))) (.con (.int 1))) (.cmp .eq (.call j false (.cons (.prim .abs (.cons (.idx (.var 0) (.con (.int 0))) .nil)) (.cons (.idx (.var 0) (.con (.int 1))) .nil))) (.con (.int 1))))) .nil))
theorem gcd_abs (x y : Int) : Int.gcd (if x < 0 then -x else x) y = Int.gcd x y := by
  split
  · exact Int.neg_gcd
  · rfl
theorem r_isQuo {T : List Fn} {i j m : Nat} (h1 : Is T i 1 1 isIntB) (h2 : Is T j 2 2 gcdB) (h3 : Is T m 1 2 (isQuoB i j)) (k : Nat) (S : Store) {x y : Int} (hy : 0 < y) : run T (k + 2) false m [.tup [.int x, .int y]] S = some (.ok (.bl (decide (Int.gcd x y = 1))) S) := by
  rw [h3.run rfl]
  have e1 : ev ⟨false, run T (k + 1) false⟩ (isQuoQ i) [some (.tup [.int x, .int y]), none] S = some (.ok (.lst ([x, y].map fun _ => .bl true)) S) := by
    refine comp_map (emb := D.int) (xs := [x, y]) (gs := [none]) (g := fun _ => .bl true) rfl rfl rfl gN (by simp) fun z _ => ?_
    simp [t_turn, wipeE, r_isInt h1]
  have e2 := r_gcdB h2 k S (x := if x < 0 then -x else x) (y := y) (by split <;> omega) (by omega)
  rw [gcd_abs] at e2
  have e3 : primS .all [.lst [.bl true, .bl true]] S = some (.bl true) := rfl
  have hy1 : 1 ≤ y := by omega
  have e4 : ((Int.gcd x y : Nat) : Int) = 1 ↔ Int.gcd x y = 1 := by omega
  simp [isQuoB, e1, e2, e3, hy1, e4]
def isChaB (i : Nat) : C := (.seq (.ret (.and (.call i false (.cons (.var 0) .nil)) (.chn3 .le .le .le (.con (.int 0)) (.idx (.var 0) (.con (.int 0))) (.idx (.var 0) (.con (.int 1))) (.glob "MAX_AMOUNT" 1000000)))) .nil)
theorem r_isCha {T : List Fn} {i j m n : Nat} (h1 : Is T i 1 1 isIntB) (h2 : Is T j 2 2 gcdB) (h3 : Is T m 1 2 (isQuoB i j)) (h4 : Is T n 1 1 (isChaB m)) (k : Nat) (S : Store) {x y : Int} (hx : 0 ≤ x) (hxy : x ≤ y) (hy : 0 < y) (hz : y ≤ 1000000) (hg : Int.gcd x y = 1) : run T (k + 3) false n [.tup [.int x, .int y]] S = some (.ok (.bl true) S) := by
  rw [h4.run rfl]
  simp [isChaB, r_isQuo h1 h2 h3 (k := k) S hy, hg, hx, hxy, hz]
end J
/-! A5: quotients in lowest terms: the defs that many laws share -/
namespace J
open PySem L2
@[simp] theorem cl_qD {n : Nat} {r : Rat} : Cl n (qD r) := by simp [qD]
/-- sizes: both parts below 2^n -/
@[simp] theorem bindU_q {tg : E} {r : Rat} {S : Store} {env : Env} : bindU tg (qD r) S env = bindT tg (qD r) env := Eq.trans rfl rfl
def Ft (n : Nat) (r : Rat) : Prop := r.num.natAbs < 2 ^ n ∧ r.den < 2 ^ n
theorem p9 {n : Nat} (h : n ≤ 9000) : (2 : Nat) ^ n ≤ 2 ^ 9000 := Nat.pow_le_pow_right (by decide) h
theorem Ft.mono {n m : Nat} {r : Rat} (h : Ft n r) (hm : n ≤ m) : Ft m r := ⟨Nat.lt_of_lt_of_le h.1 (Nat.pow_le_pow_right (by decide) hm), Nat.lt_of_lt_of_le h.2 (Nat.pow_le_pow_right (by decide) hm)⟩
theorem mulOkP {x y : Int} {n m : Nat} (hx : x.natAbs < 2 ^ n) (hy : y.natAbs < 2 ^ m) (h : n ≤ 9000) (h2 : m ≤ 9000) : IntMulOk x y := mulOk (Nat.lt_of_lt_of_le hx (p9 h)) (Nat.lt_of_lt_of_le hy (p9 h2))
theorem natAbs_mul_lt {x y : Int} {n m : Nat} (hx : x.natAbs < 2 ^ n) (hy : y.natAbs < 2 ^ m) : (x * y).natAbs < 2 ^ (n + m) := by
  rw [Int.natAbs_mul, Nat.pow_add]
  exact Nat.mul_lt_mul'' hx hy
/-! ### quotient -/
def quoB (i : Nat) : C := (.seq (.ifs (.cmp .lt (.var 1) (.con (.int 0))) (.seq (.set (.tup (.cons (.var 0) (.cons (.var 1) .nil))) (.tup (.cons (.neg (.var 0)) (.cons (.neg (.var 1)) .nil)))) .nil) .nil) (.seq (.set (.var 2) (.call i false (.cons (.prim .abs (.cons (.var 0) .nil)) (.cons (.var 1) .nil)))) (.seq (.ret (.tup (.cons (.bin .fdiv (.var 0) (.var 2)) (.cons (.bin .fdiv (.var 1) (.var 2)) .nil)))) .nil)))
/-- the fraction u / d -/
def fr (u d : Int) : Rat := Rat.divInt u d
theorem fr_pos {u d : Int} (hd : 0 < d) : fr u d = mkRat u d.toNat := by
  unfold fr
  obtain ⟨n, rfl⟩ := Int.eq_ofNat_of_zero_le (Int.le_of_lt hd)
  simp [Rat.divInt_ofNat]
theorem fr_neg {u d : Int} : fr (-u) (-d) = fr u d := by
  unfold fr
  exact Rat.neg_divInt_neg u d
theorem quo_gcd {u d : Int} (hd : 0 < d) : u.fdiv (Int.gcd u d : Nat) = (fr u d).num ∧ d.fdiv (Int.gcd u d : Nat) = ((fr u d).den : Int) := by
  have a := quo_num (u := u) hd
  have b := quo_den (u := u) hd
  have e : Int.gcd (absI u) d = Int.gcd u d := gcd_abs u d
  rw [e] at a b
  rw [fr_pos hd]
  exact ⟨a, b⟩
theorem gcd_lt {u d : Int} {n : Nat} (h0 : 0 < d) (hd : d.natAbs < 2 ^ n) : 0 < (Int.gcd u d : Int) ∧ (Int.gcd u d : Int).natAbs < 2 ^ n := by
  have h1 := Int.gcd_pos_of_ne_zero_right u (by omega : d ≠ 0)
  have h2 : (Int.gcd u d : Int) ≤ d := Int.le_of_dvd h0 (Int.gcd_dvd_right ..)
  exact ⟨by omega, by omega⟩
theorem r_quoB {T : List Fn} {i j : Nat} (h1 : Is T i 2 2 gcdB) (h2 : Is T j 2 3 (quoB i)) (k : Nat) (S : Store) {u d : Int} (hd : d ≠ 0) (hz : d.natAbs < 2 ^ 9000) : run T (k + 2) false j [.int u, .int d] S = some (.ok (qD (fr u d)) S) := by
  have key : ∀ u d : Int, 0 < d → d.natAbs < 2 ^ 9000 → run T (k + 1) false i [.int (if u < 0 then -u else u), .int d] S = some (.ok (.int (Int.gcd u d)) S) := fun u d hd _ => by
    rw [r_gcdB h1 k S (by split <;> omega) (by omega), gcd_abs]
  rw [h2.run rfl]
  by_cases c : d < 0
  · have hd' : 0 < -d := by omega
    have hz' : (-d).natAbs < 2 ^ 9000 := by rw [Int.natAbs_neg]; exact hz
    have e := key (-u) (-d) hd' hz'
    obtain ⟨q1, q2⟩ := quo_gcd (u := -u) hd'
    rw [fr_neg] at q1 q2
    have g := gcd_lt (u := -u) hd' hz'
    have dd : ∀ x, divOk x (Int.gcd (-u) (-d) : Int) := fun x => divOk_small (by omega) g.2
    simp [quoB, c] 
    simp at e
    rw [e]
    simp at dd q1 q2
    simp [dd, q1, q2, qD]
  · have hd' : 0 < d := by omega
    have e := key u d hd' hz
    obtain ⟨q1, q2⟩ := quo_gcd (u := u) hd'
    have g := gcd_lt (u := u) hd' hz
    have dd : ∀ x, divOk x (Int.gcd u d : Int) := fun x => divOk_small (by omega) g.2
    simp [quoB, c, e, dd, q1, q2, qD]
theorem fr_add (a b : Rat) : fr (a.num * b.den + b.num * a.den) (a.den * b.den) = a + b := by
  have h : (0 : Int) < (a.den : Int) * b.den := by have := a.den_pos; have := b.den_pos; exact Int.mul_pos (by omega) (by omega)
  rw [fr_pos h, Rat.add_def']
  congr 1
theorem fr_sub (a b : Rat) : fr (a.num * b.den - b.num * a.den) (a.den * b.den) = a - b := by
  have h : (0 : Int) < (a.den : Int) * b.den := by have := a.den_pos; have := b.den_pos; exact Int.mul_pos (by omega) (by omega)
  rw [fr_pos h, Rat.sub_def']
  congr 1
theorem fr_mul (a b : Rat) : fr (a.num * b.num) (a.den * b.den) = a * b := by
  have h : (0 : Int) < (a.den : Int) * b.den := by have := a.den_pos; have := b.den_pos; exact Int.mul_pos (by omega) (by omega)
  rw [fr_pos h, Rat.mul_def']
  congr 1
theorem fr_self (a : Rat) : fr a.num a.den = a := by unfold fr; exact Rat.num_divInt_den a
theorem fr_eq (u d : Int) : fr u d = (u : Rat) / (d : Rat) := by unfold fr; exact Rat.divInt_eq_div u d
theorem fr_div (a b : Rat) (h : b.num ≠ 0) : fr (a.num * b.den) (a.den * b.num) = a / b := by
  have hb : b⁻¹ = Rat.divInt b.den b.num := by
    conv => lhs; rw [← Rat.num_divInt_den b]
    exact Rat.inv_divInt ..
  rw [Rat.div_def, hb]
  conv => rhs; rw [← Rat.num_divInt_den a]
  rw [Rat.divInt_mul_divInt]
  rfl
theorem den_ne {a b : Rat} : (a.den : Int) * b.den ≠ 0 := by
  have := a.den_pos
  have := b.den_pos
  exact Int.ne_of_gt (Int.mul_pos (by omega) (by omega))
theorem den_sz {a b : Rat} {n m : Nat} (ha : Ft n a) (hb : Ft m b) (h : n + m ≤ 9000) : ((a.den : Int) * b.den).natAbs < 2 ^ 9000 :=
  Nat.lt_of_lt_of_le (natAbs_mul_lt (n := n) (m := m) (by simpa using ha.2) (by simpa using hb.2)) (p9 h)
section
variable {T : List Fn} {i j m : Nat} {a b : Rat}
def plusB (j : Nat) : C := (.seq (.ret (.call j false (.cons (.bin .add (.bin .mul (.idx (.var 0) (.con (.int 0))) (.idx (.var 1) (.con (.int 1)))) (.bin .mul (.idx (.var 1) (.con (.int 0))) (.idx (.var 0) (.con (.int 1))))) (.cons (.bin .mul (.idx (.var 0) (.con (.int 1))) (.idx (.var 1) (.con (.int 1)))) .nil)))) .nil)
def minusB (j : Nat) : C := (.seq (.ret (.call j false (.cons (.bin .sub (.bin .mul (.idx (.var 0) (.con (.int 0))) (.idx (.var 1) (.con (.int 1)))) (.bin .mul (.idx (.var 1) (.con (.int 0))) (.idx (.var 0) (.con (.int 1))))) (.cons (.bin .mul (.idx (.var 0) (.con (.int 1))) (.idx (.var 1) (.con (.int 1)))) .nil)))) .nil)
def timesB (j : Nat) : C := (.seq (.ret (.call j false (.cons (.bin .mul (.idx (.var 0) (.con (.int 0))) (.idx (.var 1) (.con (.int 0)))) (.cons (.bin .mul (.idx (.var 0) (.con (.int 1))) (.idx (.var 1) (.con (.int 1)))) .nil)))) .nil)
def overB (j : Nat) : C := (.seq (.ret (.call j false (.cons (.bin .mul (.idx (.var 0) (.con (.int 0))) (.idx (.var 1) (.con (.int 1)))) (.cons (.bin .mul (.idx (.var 0) (.con (.int 1))) (.idx (.var 1) (.con (.int 0)))) .nil)))) .nil)
def lessB : C := (.seq (.ret (.cmp .lt (.bin .mul (.idx (.var 0) (.con (.int 0))) (.idx (.var 1) (.con (.int 1)))) (.bin .mul (.idx (.var 1) (.con (.int 0))) (.idx (.var 0) (.con (.int 1)))))) .nil)
/-- products of parts -/
theorem ft_ok {n m : Nat} (ha : Ft n a) (hb : Ft m b) (h : n + m ≤ 9000) : IntMulOk a.num b.num ∧ IntMulOk a.num (b.den : Int) ∧ IntMulOk b.num (a.den : Int) ∧ IntMulOk (a.den : Int) (b.den : Int) ∧ IntMulOk (a.den : Int) b.num :=
  ⟨mulOkP ha.1 hb.1 (by omega) (by omega), mulOkP ha.1 (by simpa using hb.2) (by omega) (by omega), mulOkP hb.1 (by simpa using ha.2) (by omega) (by omega), mulOkP (by simpa using ha.2) (by simpa using hb.2) (by omega) (by omega), mulOkP (by simpa using ha.2) hb.1 (by omega) (by omega)⟩
theorem r_plus' {p n1 n2 : Nat} (h1 : Is T i 2 2 gcdB) (h2 : Is T j 2 3 (quoB i)) (h3 : Is T p 2 2 (plusB j)) (k : Nat) (S : Store) (ha : Ft n1 a) (hb : Ft n2 b) (h : n1 + n2 ≤ 9000) : run T (k + 3) false p [qD a, qD b] S = some (.ok (qD (a + b)) S) := by
  rw [h3.run rfl]
  obtain ⟨m1, m2, m3, m4, m5⟩ := ft_ok ha hb h
  have e := r_quoB h1 h2 k S (u := a.num * b.den + b.num * a.den) (d := a.den * b.den) den_ne (den_sz ha hb h)
  rw [fr_add] at e
  simp [plusB, qD, m1, m2, m3, m4]
  simp [qD] at e
  simp [e]
theorem r_minus {p n1 n2 : Nat} (h1 : Is T i 2 2 gcdB) (h2 : Is T j 2 3 (quoB i)) (h3 : Is T p 2 2 (minusB j)) (k : Nat) (S : Store) (ha : Ft n1 a) (hb : Ft n2 b) (h : n1 + n2 ≤ 9000) : run T (k + 3) false p [qD a, qD b] S = some (.ok (qD (a - b)) S) := by
  rw [h3.run rfl]
  obtain ⟨m1, m2, m3, m4, m5⟩ := ft_ok ha hb h
  have e := r_quoB h1 h2 k S (u := a.num * b.den - b.num * a.den) (d := a.den * b.den) den_ne (den_sz ha hb h)
  rw [fr_sub] at e
  simp [minusB, qD, m1, m2, m3, m4]
  simp [qD] at e
  simp [e]
theorem r_times' {p n1 n2 : Nat} (h1 : Is T i 2 2 gcdB) (h2 : Is T j 2 3 (quoB i)) (h3 : Is T p 2 2 (timesB j)) (k : Nat) (S : Store) (ha : Ft n1 a) (hb : Ft n2 b) (h : n1 + n2 ≤ 9000) : run T (k + 3) false p [qD a, qD b] S = some (.ok (qD (a * b)) S) := by
  rw [h3.run rfl]
  obtain ⟨m1, m2, m3, m4, m5⟩ := ft_ok ha hb h
  have e := r_quoB h1 h2 k S (u := a.num * b.num) (d := a.den * b.den) den_ne (den_sz ha hb h)
  rw [fr_mul] at e
  simp [timesB, qD, m1, m2, m3, m4]
  simp [qD] at e
  simp [e]
theorem r_over' {p n1 n2 : Nat} (h1 : Is T i 2 2 gcdB) (h2 : Is T j 2 3 (quoB i)) (h3 : Is T p 2 2 (overB j)) (k : Nat) (S : Store) (ha : Ft n1 a) (hb : Ft n2 b) (h : n1 + n2 ≤ 9000) (h0 : b ≠ 0) : run T (k + 3) false p [qD a, qD b] S = some (.ok (qD (a / b)) S) := by
  rw [h3.run rfl]
  obtain ⟨m1, m2, m3, m4, m5⟩ := ft_ok ha hb h
  have hn : b.num ≠ 0 := fun z => h0 (Rat.num_eq_zero.mp z)
  have hdn : (a.den : Int) * b.num ≠ 0 := Int.mul_ne_zero (by have := a.den_pos; omega) hn
  have e := r_quoB h1 h2 k S (u := a.num * b.den) (d := a.den * b.num) hdn (Nat.lt_of_lt_of_le (natAbs_mul_lt (n := n1) (m := n2) (by simpa using ha.2) hb.1) (p9 h))
  rw [fr_div _ _ hn] at e
  simp [overB, qD, m1, m2, m3, m4, m5]
  simp [qD] at e
  simp [e]
theorem r_less' {p n1 n2 : Nat} (h3 : Is T p 2 2 lessB) (k : Nat) (S : Store) (ha : Ft n1 a) (hb : Ft n2 b) (h : n1 + n2 ≤ 9000) : run T (k + 1) false p [qD a, qD b] S = some (.ok (.bl (decide (a < b))) S) := by
  rw [h3.run rfl]
  obtain ⟨m1, m2, m3, m4, m5⟩ := ft_ok ha hb h
  have e : (a.num * (b.den : Int) < b.num * (a.den : Int)) ↔ a < b := by rw [Rat.lt_iff]
  simp [lessB, qD, m1, m2, m3, m4, e]
end
/-! ### the laws' own quotients -/
def lqW : E := (.cmp .gt (.var 3) (.con (.int 0)))
def lqB : C := (.seq (.set (.tup (.cons (.var 2) (.cons (.var 3) .nil))) (.tup (.cons (.var 3) (.cons (.bin .mod (.prim .int (.cons (.var 2) .nil)) (.var 3)) .nil)))) .nil)
def lqP : C := .whl lqW lqB
def lquoB : C := (.seq (.set (.tup (.cons (.var 2) (.cons (.var 3) .nil))) (.tup (.cons (.prim .abs (.cons (.var 0) .nil)) (.cons (.var 1) .nil)))) (.seq lqP (.seq (.ret (.tup (.cons (.bin .fdiv (.var 0) (.var 2)) (.cons (.bin .fdiv (.var 1) (.var 2)) .nil)))) .nil)))
theorem r_lquo {T : List Fn} {i : Nat} (h : Is T i 2 4 lquoB) (k : Nat) (S : Store) {u d : Int} (hd : 0 < d) (hz : d.natAbs < 2 ^ 9000) : run T (k + 1) false i [.int u, .int d] S = some (.ok (qD (fr u d)) S) := by
  rw [h.run rfl]
  have e := whl_gcd (S := S) (mk := fun a b => [some (.int u), some (.int d), some (.int a), some (.int b)]) (c := ev ⟨false, run T k false⟩ lqW) (b := exec (fun h' => ⟨h', run T k h'⟩) lqB false)
    (fun x y => by simp [lqW]) (fun x y h => by
      have : y ≠ 0 := by omega
      simp [lqB, this]) d.toNat (if u < 0 then -u else u) d (by split <;> omega) (by omega) (Nat.le_refl _)
  rw [gcd_abs] at e
  have e' : exec (fun h' => ⟨h', run T k h'⟩) lqP false [some (.int u), some (.int d), some (.int (if u < 0 then -u else u)), some (.int d)] S = some (.nx [some (.int u), some (.int d), some (.int (Int.gcd u d)), some (.int 0)], S) := by
    unfold lqP
    rw [c_whl]
    exact e
  obtain ⟨q1, q2⟩ := quo_gcd (u := u) hd
  have g := gcd_lt (u := u) hd hz
  have dd : ∀ x, divOk x (Int.gcd u d : Int) := fun x => divOk_small (by omega) g.2
  simp [lquoB, e', dd, q1, q2, qD]
def lplusB (j : Nat) : C := plusB j
theorem r_lplus {T : List Fn} {i j n1 n2 : Nat} {a b : Rat} (h : Is T i 2 4 lquoB) (h2 : Is T j 2 2 (plusB i)) (k : Nat) (S : Store) (ha : Ft n1 a) (hb : Ft n2 b) (hz : n1 + n2 ≤ 9000) : run T (k + 2) false j [qD a, qD b] S = some (.ok (qD (a + b)) S) := by
  rw [h2.run rfl]
  obtain ⟨m1, m2, m3, m4, m5⟩ := ft_ok ha hb hz
  have e := r_lquo h k S (u := a.num * b.den + b.num * a.den) (d := a.den * b.den) (Int.mul_pos (by have := a.den_pos; omega) (by have := b.den_pos; omega)) (den_sz ha hb hz)
  rw [fr_add] at e
  simp [plusB, qD, m1, m2, m3, m4]
  simp [qD] at e
  simp [e]
theorem fr_step (u d : Int) (a : Rat) : fr (u * a.num) (d * a.den) = fr u d * a := by
  conv => rhs; rw [← fr_self a]
  unfold fr
  rw [Rat.divInt_mul_divInt]
end J
/-! A6: sums, products, powers of quotients; rows of chances -/
namespace J
open PySem L2
def accW (p : Nat) : C := (.seq (.set (.var 1) (.call p false (.cons (.var 1) (.cons (.var 2) .nil)))) .nil)
def accL (p : Nat) : C := .forr (.var 2) .val (.cons (.var 0) .nil) (accW p)
def accB (z : Int) (p : Nat) : C := (.seq (.set (.var 1) (.tup (.cons (.con (.int z)) (.cons (.con (.int 1)) .nil)))) (.seq (accL p) (.seq (.ret (.var 1)) .nil)))
theorem r_acc {T : List Fn} {i p : Nat} {z : Int} (h : Is T i 1 3 (accB z p)) (k : Nat) (S : Store) (op : Rat → Rat → Rat) (z0 : Rat) (hz : qD z0 = .tup [.int z, .int 1]) {rs : List Rat} {rows : D} (hr : rows = .tup (rs.map qD) ∨ rows = .lst (rs.map qD))
    (hop : ∀ pre r post, rs = pre ++ r :: post → run T k false p [qD (pre.foldl op z0), qD r] S = some (.ok (qD (op (pre.foldl op z0) r)) S)) : run T (k + 1) false i [rows] S = some (.ok (qD (rs.foldl op z0)) S) := by
  rw [h.run rfl]
  have it : iterS .val [rows] S = some (rs.map qD, [none]) := by rcases hr with rfl | rfl <;> rfl
  obtain ⟨_, _, e, o, rfl, rfl⟩ := for_inv (p := accL p) (G := fun h' => ⟨h', run T k h'⟩) (emb := qD) (gs := [none]) (ds := [rows]) rfl (fun pre env' S' => ∃ o, env' = [some rows, some (qD (pre.foldl op z0)), o] ∧ S = S') rs ⟨none, rfl, rfl⟩ rfl it (fun _ _ _ _ => gN) (by
    rintro pre r post env S1 he ⟨o, rfl, rfl⟩
    refine ⟨_, _, .inl ?_, some (qD r), rfl, rfl⟩
    have e := frz_same (hop pre r post he) (by simp)
    simp [turnL, accW, e])
  rw [List.foldl_nil, hz] at e
  simp [accB, e]
/-- range(many) times the same -/
def powW (p : Nat) : C := (.seq (.set (.var 2) (.call p false (.cons (.var 2) (.cons (.var 0) .nil)))) .nil)
def powL (p : Nat) : C := .forr (.var 3) .rng1 (.cons (.var 1) .nil) (powW p)
def powB (p : Nat) : C := (.seq (.set (.var 2) (.tup (.cons (.con (.int 1)) (.cons (.con (.int 1)) .nil)))) (.seq (powL p) (.seq (.ret (.var 2)) .nil)))
/-- a chance as the programs take it -/
structure Cha (r : Rat) : Prop where
  lo : 0 ≤ r.num
  hi : r.num ≤ r.den
  dn : r.den ≤ 1000000
theorem Cha.ft {r : Rat} (h : Cha r) : Ft 20 r := by
  obtain ⟨h1, h2, h3⟩ := h
  exact ⟨by omega, by omega⟩
theorem rat_gcd (r : Rat) : Int.gcd r.num r.den = 1 := by
  have := r.reduced
  unfold Int.gcd
  simpa using this
theorem r_isChaQ {T : List Fn} {i j m n : Nat} (h1 : Is T i 1 1 isIntB) (h2 : Is T j 2 2 gcdB) (h3 : Is T m 1 2 (isQuoB i j)) (h4 : Is T n 1 1 (isChaB m)) (k : Nat) (S : Store) {r : Rat} (h : Cha r) : run T (k + 3) false n [qD r] S = some (.ok (.bl true) S) :=
  r_isCha h1 h2 h3 h4 k S h.lo h.hi (by have := r.den_pos; omega) (by have := h.dn; omega) (rat_gcd r)
theorem r_isQuoQ {T : List Fn} {i j m : Nat} (h1 : Is T i 1 1 isIntB) (h2 : Is T j 2 2 gcdB) (h3 : Is T m 1 2 (isQuoB i j)) (k : Nat) (S : Store) (r : Rat) : run T (k + 2) false m [qD r] S = some (.ok (.bl true) S) := by
  have := r_isQuo h1 h2 h3 k S (x := r.num) (y := r.den) (by have := r.den_pos; omega)
  rw [rat_gcd] at this
  simpa [qD] using this
def qsum (rs : List Rat) : Rat := rs.foldl (· + ·) 0
theorem foldl_add (rs : List Rat) (z : Rat) : rs.foldl (· + ·) z = z + qsum rs := by
  unfold qsum
  induction rs generalizing z with
  | nil => simp [Rat.add_zero]
  | cons r rs ih =>
    rw [List.foldl_cons, List.foldl_cons, ih (z + r), ih (0 + r), Rat.zero_add, Rat.add_assoc]
theorem qsum_cons (r : Rat) (rs : List Rat) : qsum (r :: rs) = r + qsum rs := by
  rw [qsum, List.foldl_cons, foldl_add, Rat.zero_add]
theorem qsum_append (as bs : List Rat) : qsum (as ++ bs) = qsum as + qsum bs := by
  rw [qsum, List.foldl_append, foldl_add]
  rfl
theorem qsum_nn {rs : List Rat} (h : ∀ r ∈ rs, 0 ≤ r) : 0 ≤ qsum rs := by
  induction rs with
  | nil => exact Rat.le_refl
  | cons r rs ih =>
    rw [qsum_cons]
    exact Rat.add_nonneg (h r (by simp)) (ih fun x hx => h x (by simp [hx]))
/-- a whole number of parts of L -/
def Ov (L : Nat) (r : Rat) : Prop := ∃ n : Int, r * (L : Rat) = (n : Rat)
section
variable {L M : Nat} {a b r : Rat}
theorem Ov.add (ha : Ov L a) (hb : Ov L b) : Ov L (a + b) := by
  obtain ⟨x, hx⟩ := ha
  obtain ⟨y, hy⟩ := hb
  exact ⟨x + y, by rw [Rat.add_mul, hx, hy, Rat.intCast_add]⟩
theorem Ov.sub (ha : Ov L a) (hb : Ov L b) : Ov L (a - b) := by
  obtain ⟨x, hx⟩ := ha
  obtain ⟨y, hy⟩ := hb
  exact ⟨x - y, by rw [Rat.sub_eq_add_neg, Rat.add_mul, hx, Rat.neg_mul, hy, ← Rat.sub_eq_add_neg, Rat.intCast_sub]⟩
theorem Ov.mul (ha : Ov L a) (hb : Ov M b) : Ov (L * M) (a * b) := by
  obtain ⟨x, hx⟩ := ha
  obtain ⟨y, hy⟩ := hb
  refine ⟨x * y, ?_⟩
  rw [Rat.intCast_mul, ← hx, ← hy, Rat.natCast_mul]
  grind
theorem Ov.zero : Ov L 0 := ⟨0, by simp⟩
theorem Ov.one : Ov L 1 := ⟨(L : Int), by rw [Rat.one_mul, Rat.intCast_natCast]⟩
theorem Ov.sum {rs : List Rat} (h : ∀ r ∈ rs, Ov L r) : Ov L (qsum rs) := by
  induction rs with
  | nil => exact Ov.zero
  | cons r rs ih =>
    rw [qsum_cons]
    exact (h r (by simp)).add (ih fun x hx => h x (by simp [hx]))
theorem num_den (r : Rat) : r * (r.den : Rat) = (r.num : Rat) := by
  have e : (r.num : Rat) / (r.den : Rat) = r := by
    have := fr_self r
    rw [fr_eq, Rat.intCast_natCast] at this
    exact this
  have hd : (r.den : Rat) ≠ 0 := fun z => r.den_nz (Rat.natCast_eq_zero_iff.mp z)
  have := Rat.div_mul_cancel (a := (r.num : Rat)) hd
  rw [e] at this
  exact this
theorem Ov.dvd (h : Ov L r) : r.den ∣ L := by
  obtain ⟨n, hn⟩ := h
  have e : r.num * L = n * r.den := by
    have h1 := (num_den r).symm
    have h2 : ((r.num * L : Int) : Rat) = ((n * r.den : Int) : Rat) := by
      rw [Rat.intCast_mul, Rat.intCast_mul, h1, ← hn]
      rw [Rat.intCast_natCast, Rat.intCast_natCast]
      grind
    exact Rat.intCast_inj.mp h2
  have d1 : r.den ∣ r.num.natAbs * L := by
    have : (r.den : Int) ∣ r.num * L := ⟨n, by rw [e, Int.mul_comm]⟩
    have := Int.natAbs_dvd_natAbs.mpr this
    simpa [Int.natAbs_mul] using this
  exact (Nat.Coprime.dvd_of_dvd_mul_left r.reduced.symm d1)
theorem Ov.of_dvd (h : r.den ∣ L) : Ov L r := by
  obtain ⟨c, rfl⟩ := h
  refine ⟨r.num * c, ?_⟩
  rw [Rat.natCast_mul, ← Rat.mul_assoc, num_den, Rat.intCast_mul, Rat.intCast_natCast]
end
/-! ### sizes -/
theorem le_of_sum {as bs : List Rat} (h : ∀ r ∈ bs, 0 ≤ r) : qsum as ≤ qsum (as ++ bs) := by
  rw [qsum_append]
  have := qsum_nn h
  grind
theorem mem_le_qsum {rs : List Rat} (h : ∀ r ∈ rs, 0 ≤ r) {r : Rat} (hr : r ∈ rs) : r ≤ qsum rs := by
  obtain ⟨a, b, rfl⟩ := List.append_of_mem hr
  rw [qsum_append, qsum_cons]
  have h1 := qsum_nn (rs := a) fun x hx => h x (by simp [hx])
  have h2 := qsum_nn (rs := b) fun x hx => h x (by simp [hx])
  grind
theorem ft_of {M n c : Nat} {r : Rat} (h : Ov M r) (hM : 0 < M) (hn : M < 2 ^ n) (h0 : 0 ≤ r) (h1 : r ≤ ((2 ^ c : Nat) : Rat)) : Ft (n + c) r := by
  have hd : r.den ≤ M := Nat.le_of_dvd hM h.dvd
  have hnn : 0 ≤ r.num := Rat.num_nonneg.mpr h0
  have hle : r.num ≤ ((2 ^ c : Nat) : Int) * r.den := by
    have := (Rat.le_iff _ _).mp h1
    simpa using this
  have e1 : (2 : Nat) ^ c * r.den < 2 ^ (n + c) := by
    rw [Nat.add_comm, Nat.pow_add]
    exact Nat.mul_lt_mul_of_pos_left (Nat.lt_of_le_of_lt hd hn) (Nat.two_pow_pos c)
  refine ⟨?_, ?_⟩
  · have : (r.num.natAbs : Int) ≤ ((2 ^ c * r.den : Nat) : Int) := by
      rw [Int.natCast_mul]
      omega
    omega
  · exact Nat.lt_of_lt_of_le (Nat.lt_of_le_of_lt hd hn) (Nat.pow_le_pow_right (by decide) (by omega))
theorem r_sumQ {T : List Fn} {i j p q : Nat} (h1 : Is T i 2 2 gcdB) (h2 : Is T j 2 3 (quoB i)) (h3 : Is T p 2 2 (plusB j)) (h4 : Is T q 1 3 (accB 0 p)) (k : Nat) (S : Store) {M n c : Nat} {rs : List Rat} {rows : D} (hr : rows = .tup (rs.map qD) ∨ rows = .lst (rs.map qD))
    (hov : ∀ r ∈ rs, Ov M r) (hnn : ∀ r ∈ rs, 0 ≤ r) (hs : qsum rs ≤ ((2 ^ c : Nat) : Rat)) (hM : 0 < M) (hn : M < 2 ^ n) (hz : 2 * (n + c) ≤ 9000) : run T (k + 4) false q [rows] S = some (.ok (qD (qsum rs)) S) := by
  refine r_acc h4 (k + 3) S (· + ·) 0 rfl hr fun pre r post he => ?_
  have hm : r ∈ rs := by rw [he]; simp
  have hp : ∀ x ∈ pre, x ∈ rs := fun x hx => by rw [he]; simp [hx]
  have f1 : Ft (n + c) r := ft_of (hov r hm) hM hn (hnn r hm) (Rat.le_trans (mem_le_qsum hnn hm) hs)
  have f2 : Ft (n + c) (qsum pre) := ft_of (Ov.sum fun x hx => hov x (hp x hx)) hM hn (qsum_nn fun x hx => hnn x (hp x hx)) (Rat.le_trans (by rw [he]; exact le_of_sum fun x hx => hnn x (by rw [he]; simp [List.mem_cons.mp hx])) hs)
  exact r_plus' h1 h2 h3 k S f2 f1 (by omega)
def qprod (rs : List Rat) : Rat := rs.foldl (· * ·) 1
theorem foldl_mul (rs : List Rat) (z : Rat) : rs.foldl (· * ·) z = z * qprod rs := by
  unfold qprod
  induction rs generalizing z with
  | nil => simp [Rat.mul_one]
  | cons r rs ih =>
    rw [List.foldl_cons, List.foldl_cons, ih (z * r), ih (1 * r), Rat.one_mul, Rat.mul_assoc]
theorem qprod_cons (r : Rat) (rs : List Rat) : qprod (r :: rs) = r * qprod rs := by
  rw [qprod, List.foldl_cons, foldl_mul, Rat.one_mul]
theorem qprod_append (as bs : List Rat) : qprod (as ++ bs) = qprod as * qprod bs := by
  rw [qprod, List.foldl_append, foldl_mul]
  rfl
theorem qprod_u {rs : List Rat} (h : ∀ r ∈ rs, 0 ≤ r ∧ r ≤ 1) : 0 ≤ qprod rs ∧ qprod rs ≤ 1 := by
  induction rs with
  | nil => exact ⟨by decide, Rat.le_refl⟩
  | cons r rs ih =>
    obtain ⟨h1, h2⟩ := ih fun x hx => h x (by simp [hx])
    obtain ⟨h3, h4⟩ := h r (by simp)
    rw [qprod_cons]
    refine ⟨Rat.mul_nonneg h3 h1, ?_⟩
    have a := Rat.mul_le_mul_of_nonneg_left h2 h3
    rw [Rat.mul_one] at a
    exact Rat.le_trans a h4
theorem Ov.prod {L : Nat} : ∀ {rs : List Rat}, (∀ r ∈ rs, Ov L r) → Ov (L ^ rs.length) (qprod rs)
  | [], _ => Ov.one
  | r :: rs, h => by
    rw [qprod_cons, List.length_cons, Nat.pow_succ, Nat.mul_comm]
    exact (h r (by simp)).mul (Ov.prod fun x hx => h x (by simp [hx]))
theorem r_prodQ {T : List Fn} {i j p q : Nat} (h1 : Is T i 2 2 gcdB) (h2 : Is T j 2 3 (quoB i)) (h3 : Is T p 2 2 (timesB j)) (h4 : Is T q 1 3 (accB 1 p)) (k : Nat) (S : Store) {L l : Nat} {rs : List Rat} {rows : D} (hr : rows = .tup (rs.map qD) ∨ rows = .lst (rs.map qD))
    (hov : ∀ r ∈ rs, Ov L r) (hu : ∀ r ∈ rs, 0 ≤ r ∧ r ≤ 1) (hL : 0 < L) (hl : L < 2 ^ l) (hz : 2 * (l * (rs.length + 1)) ≤ 9000) (hl0 : 0 < l) : run T (k + 4) false q [rows] S = some (.ok (qD (qprod rs)) S) := by
  refine r_acc h4 (k + 3) S (· * ·) 1 rfl hr fun pre r post he => ?_
  have hm : r ∈ rs := by rw [he]; simp
  have hp : ∀ x ∈ pre, x ∈ rs := fun x hx => by rw [he]; simp [hx]
  have one : ((2 ^ 0 : Nat) : Rat) = 1 := by simp
  have f1 : Ft (l + 0) r := ft_of (hov r hm) hL hl (hu r hm).1 (by rw [one]; exact (hu r hm).2)
  have hpl : pre.length + 1 ≤ rs.length := by rw [he]; simp
  have f2 : Ft (l * pre.length + 1 + 0) (qprod pre) := by
    have u := qprod_u fun x hx => hu x (hp x hx)
    refine ft_of (Ov.prod fun x hx => hov x (hp x hx)) (Nat.pow_pos hL) ?_ u.1 (by rw [one]; exact u.2)
    have : L ^ pre.length ≤ (2 ^ l) ^ pre.length := Nat.pow_le_pow_left (Nat.le_of_lt hl) _
    rw [← Nat.pow_mul] at this
    exact Nat.lt_of_le_of_lt this (Nat.pow_lt_pow_right (by decide) (by omega))
  have sz : l * pre.length + l ≤ l * rs.length := by rw [← Nat.mul_succ]; exact Nat.mul_le_mul_left _ hpl
  have sz2 : l * (rs.length + 1) = l * rs.length + l := Nat.mul_succ ..
  exact r_times' h1 h2 h3 k S f2 f1 (by omega)
theorem r_lsumQ {T : List Fn} {i p q : Nat} (h1 : Is T i 2 4 lquoB) (h2 : Is T p 2 2 (plusB i)) (h4 : Is T q 1 3 (accB 0 p)) (k : Nat) (S : Store) {M n c : Nat} {rs : List Rat} {rows : D} (hr : rows = .tup (rs.map qD) ∨ rows = .lst (rs.map qD))
    (hov : ∀ r ∈ rs, Ov M r) (hnn : ∀ r ∈ rs, 0 ≤ r) (hs : qsum rs ≤ ((2 ^ c : Nat) : Rat)) (hM : 0 < M) (hn : M < 2 ^ n) (hz : 2 * (n + c) ≤ 9000) : run T (k + 3) false q [rows] S = some (.ok (qD (qsum rs)) S) := by
  refine r_acc h4 (k + 2) S (· + ·) 0 rfl hr fun pre r post he => ?_
  have hm : r ∈ rs := by rw [he]; simp
  have hp : ∀ x ∈ pre, x ∈ rs := fun x hx => by rw [he]; simp [hx]
  have f1 : Ft (n + c) r := ft_of (hov r hm) hM hn (hnn r hm) (Rat.le_trans (mem_le_qsum hnn hm) hs)
  have f2 : Ft (n + c) (qsum pre) := ft_of (Ov.sum fun x hx => hov x (hp x hx)) hM hn (qsum_nn fun x hx => hnn x (hp x hx)) (Rat.le_trans (by rw [he]; exact le_of_sum fun x hx => hnn x (by rw [he]; simp [List.mem_cons.mp hx])) hs)
  exact r_lplus h1 h2 k S f2 f1 (by omega)
/-! ### rows of chances -/
def areQ (n : Nat) : E := .comp (.var 2) .val (.cons (.var 0) .nil) (.con (.bl true)) (.call n false (.cons (.var 2) .nil)) [2]
def areB (n q : Nat) : C := (.seq (.ifs (.or (.not (.isi (.var 0) .tuple)) (.or (.not (.chn .le .le (.con (.int 1)) (.prim .len (.cons (.var 0) .nil)) (.var 1))) (.not (.prim .all (.cons (areQ n) .nil))))) (.seq (.ret (.con (.bl false))) .nil) .nil) (.seq (.ret (.cmp .eq (.call q false (.cons (.var 0) .nil)) (.tup (.cons (.con (.int 1)) (.cons (.con (.int 1)) .nil))))) .nil))
theorem Cha.u {r : Rat} (h : Cha r) : 0 ≤ r ∧ r ≤ 1 := by
  refine ⟨Rat.num_nonneg.mp h.lo, ?_⟩
  rw [Rat.le_iff]
  have := h.hi
  simpa using this
theorem eq_one (S : Store) : cmpS .eq (qD 1) (.tup [.int 1, .int 1]) S = some true := by
  have : Nc 1 2000 (qD 1) := (Nc.tup (k := 0) (n := 580) (ds := [.int 1, .int 1]) fun x hx => by
    simp at hx
    rw [hx]
    exact Nc.i (by decide)).mono (Nat.le_refl _) (by decide)
  exact this.cmpEq (by omega) S
theorem r_areQ {T : List Fn} {ii i j p q mq mc ma : Nat} (h0 : Is T ii 1 1 isIntB) (h1 : Is T i 2 2 gcdB) (h2 : Is T j 2 3 (quoB i)) (h3 : Is T p 2 2 (plusB j)) (h4 : Is T q 1 3 (accB 0 p)) (h5 : Is T mq 1 2 (isQuoB ii i)) (h6 : Is T mc 1 1 (isChaB mq)) (h7 : Is T ma 2 3 (areB mc q))
    (k : Nat) (S : Store) {M n : Nat} {rs : List Rat} {m : Int} (hl1 : 1 ≤ rs.length) (hl2 : (rs.length : Int) ≤ m) (hl3 : rs.length < 1000000) (hc : ∀ r ∈ rs, Cha r) (hov : ∀ r ∈ rs, Ov M r) (hs : qsum rs = 1) (hM : 0 < M) (hn : M < 2 ^ n) (hz : 2 * n ≤ 9000) :
    run T (k + 5) false ma [.tup (rs.map qD), .int m] S = some (.ok (.bl true) S) := by
  rw [h7.run rfl]
  have e1 : ev ⟨false, run T (k + 4) false⟩ (areQ mc) [some (.tup (rs.map qD)), some (.int m), none] S = some (.ok (.lst (rs.map fun _ => .bl true)) S) := by
    refine comp_map (emb := qD) (xs := rs) (gs := [none]) rfl rfl rfl gN hl3 fun r hr => ?_
    have e := frz_same (r_isChaQ h0 h1 h5 h6 (k + 1) S (hc r hr)) (by simp)
    simp [t_turn, wipeE, e]
  have e2 := frz_same (r_sumQ h1 h2 h3 h4 k S (c := 0) (rows := .tup (rs.map qD)) (.inl rfl) hov (fun r hr => (hc r hr).u.1) (by rw [hs]; decide) hM hn hz) (by simp)
  rw [hs] at e2
  have l1 : (1 : Int) ≤ rs.length := by omega
  simp [areB, e1, e2, eq_one, hl2]
  omega
/-! ### items by place -/
/-- the i-th item, or d -/
def nth {α : Type} (xs : List α) (i : Nat) (d : α) : α := xs.getD i d
theorem nth_eq {α : Type} {xs : List α} {i : Nat} {d : α} (h : i < xs.length) : xs[i]? = some (nth xs i d) := by
  simp [nth, h]
theorem nth_mem {α : Type} {xs : List α} {i : Nat} {d : α} (h : i < xs.length) : nth xs i d ∈ xs := List.mem_of_getElem? (nth_eq h)
theorem atN {α : Type} {xs : List α} {f : α → D} {i : Nat} {d : α} (h : i < xs.length) : atI (xs.map f) (i : Int) = some (f (nth xs i d)) := atI_map (by omega) (by rw [Int.toNat_natCast]; exact nth_eq h)
theorem nth_map {α β : Type} {xs : List α} {f : α → β} {i : Nat} {d : α} {e : β} (h : i < xs.length) : nth (xs.map f) i e = f (nth xs i d) := by
  simp [nth, h]
theorem nth_range {β : Type} {n i : Nat} {f : Nat → β} {e : β} (h : i < n) : nth ((List.range n).map f) i e = f i := by
  simp [nth, h]
theorem enu_map {α : Type} {f : α → D} {d : α} (xs : List α) : enuL 0 (xs.map f) = (List.range xs.length).map fun (i : Nat) => .tup [.int (i : Int), f (nth xs i d)] := by
  refine List.ext_getElem? fun i => ?_
  by_cases h : i < xs.length
  · have hl : i < (enuL 0 (xs.map f)).length := by rw [enu_len]; simpa using h
    obtain ⟨e, h1, h2⟩ := enu_get (xs.map f) 0 i (enuL 0 (xs.map f))[i] (List.getElem?_eq_getElem hl)
    rw [List.getElem?_eq_getElem hl, h2]
    rw [List.getElem?_map, nth_eq (d := d) h] at h1
    simp at h1
    simp [h, ← h1]
  · rw [List.getElem?_eq_none (by rw [enu_len]; simpa using h), List.getElem?_eq_none (by simpa using h)]
theorem map_nth {α : Type} (xs : List α) (d : α) : (List.range xs.length).map (fun i => nth xs i d) = xs := by
  refine List.ext_getElem? fun i => ?_
  by_cases h : i < xs.length
  · simp [h, nth]
  · simp [h]
end J
/-! A7: rows of chances drawn by sorted cuts, sizes, comparing of data -/
namespace J
open PySem L2
theorem one0 : ((2 ^ 0 : Nat) : Rat) = 1 := by simp
theorem Ov.up {M : Nat} {r : Rat} (h : Ov M r) (c : Nat) : Ov (M * c) r := by
  obtain ⟨n, hn⟩ := h
  exact ⟨n * c, by rw [Rat.natCast_mul, ← Rat.mul_assoc, hn, Rat.intCast_mul, Rat.intCast_natCast]⟩
theorem qsum_le {α : Type} {f g : α → Rat} : ∀ {l : List α}, (∀ x ∈ l, f x ≤ g x) → qsum (l.map f) ≤ qsum (l.map g)
  | [], _ => Rat.le_refl
  | x :: l, h => by
    rw [List.map_cons, List.map_cons, qsum_cons, qsum_cons]
    have a := h x (by simp)
    have b := qsum_le (l := l) fun y hy => h y (by simp [hy])
    grind
theorem qsum_mul {α : Type} {f : α → Rat} {c : Rat} : ∀ {l : List α}, qsum (l.map fun x => f x * c) = qsum (l.map f) * c
  | [] => by simp [qsum]
  | x :: l => by
    rw [List.map_cons, List.map_cons, qsum_cons, qsum_cons, qsum_mul, Rat.add_mul]
theorem ftw {M n : Nat} {r : Rat} (h : Ov M r) (hM : 0 < M) (hn : M < 2 ^ n) (h0 : 0 ≤ r) (h1 : r ≤ 1) : Ft n r := ft_of (c := 0) h hM hn h0 (by rw [one0]; exact h1)
theorem num0 {r : Rat} : r.num = 0 ↔ r = 0 := Rat.num_eq_zero
section
variable {L : Nat}
theorem fr_ov {x d : Int} {D : Nat} (hd : 0 < d) (hD : d.toNat ∣ D) : Ov D (fr x d) := by
  obtain ⟨c, rfl⟩ := hD
  refine ⟨x * c, ?_⟩
  have e : ((d.toNat : Nat) : Rat) = (d : Rat) := by rw [← Rat.intCast_natCast]; congr 1; omega
  have hd' : (d : Rat) ≠ 0 := fun z => by have := Rat.intCast_eq_zero_iff.mp z; omega
  rw [fr_eq, Rat.natCast_mul, e, ← Rat.mul_assoc, Rat.div_mul_cancel hd', Rat.intCast_mul, Rat.intCast_natCast]
theorem fr_cha {x d : Int} (hx : 0 ≤ x) (hxd : x ≤ d) (hd : 0 < d) (hz : d ≤ 1000000) : Cha (fr x d) := by
  obtain ⟨h1, h2, h3, h4, h5, h6⟩ := low hx hd
  obtain ⟨q1, q2⟩ := quo_gcd (u := x) hd
  rw [q1] at h2
  rw [q2] at h3 h4
  rw [q1, q2] at h6
  exact ⟨h2, h6 hxd, by omega⟩
theorem fr_plus {x y d : Int} : fr x d + fr y d = fr (x + y) d := by
  rw [fr_eq, fr_eq, fr_eq, Rat.intCast_add, Rat.div_def, Rat.div_def, Rat.div_def, Rat.add_mul]
theorem fr_one {d : Int} (hd : 0 < d) : fr d d = 1 := by
  have hd' : (d : Rat) ≠ 0 := fun z => by have := Rat.intCast_eq_zero_iff.mp z; omega
  rw [fr_eq, Rat.div_def, Rat.mul_inv_cancel _ hd']
theorem fr_zero {d : Int} : fr 0 d = 0 := by
  rw [fr_eq, Rat.div_def]
  simp
def cutP (C : List Int) (d : Int) (n : Nat) : List Rat := (List.range n).map fun k => fr (nth C (k + 1) 0 - nth C k 0) d
theorem cut_sum (C : List Int) (d : Int) (h0 : nth C 0 0 = 0) : ∀ n, qsum (cutP C d n) = fr (nth C n 0) d
  | 0 => by simp [cutP, qsum, h0, fr_zero]
  | n + 1 => by
    unfold cutP
    rw [List.range_succ, List.map_append, qsum_append, List.map_singleton, qsum_cons]
    have := cut_sum C d h0 n
    unfold cutP at this
    rw [this]
    have e : qsum [] = 0 := rfl
    rw [e, Rat.add_zero, fr_plus]
    congr 1
    omega
theorem qsum_rep (r : Rat) : ∀ n : Nat, qsum (List.replicate n r) = (n : Rat) * r
  | 0 => by simp [qsum]
  | n + 1 => by
    rw [List.replicate_succ, qsum_cons, qsum_rep r n, Rat.natCast_add]
    have : ((1 : Nat) : Rat) = 1 := rfl
    rw [this]
    grind
theorem ins_len (a : Int) : ∀ l : List Int, (insI a l).length = l.length + 1
  | [] => rfl
  | b :: l => by
    unfold insI
    split
    · rfl
    · simp [ins_len a l]
theorem sort_len : ∀ l : List Int, (sortI l).length = l.length
  | [] => rfl
  | a :: l => by simp [sortI, ins_len, sort_len l]
theorem ins_mem {a x : Int} : ∀ {l : List Int}, x ∈ insI a l → x = a ∨ x ∈ l
  | [], h => by simpa [insI] using h
  | b :: l, h => by
    unfold insI at h
    split at h
    · simpa using h
    · rcases List.mem_cons.mp h with rfl | h
      · exact .inr (by simp)
      · rcases ins_mem h with q | q
        · exact .inl q
        · exact .inr (by simp [q])
theorem sort_mem {x : Int} : ∀ {l : List Int}, x ∈ sortI l → x ∈ l
  | [], h => h
  | a :: l, h => by
    rcases ins_mem (by simpa [sortI] using h) with q | q
    · simp [q]
    · simp [sort_mem q]
theorem ins_up {a : Int} : ∀ {l : List Int}, l.Pairwise (· ≤ ·) → (insI a l).Pairwise (· ≤ ·)
  | [], _ => by simp [insI]
  | b :: l, h => by
    unfold insI
    cases h with
    | cons h1 h2 =>
      split
      · rename_i c
        exact .cons (fun x hx => by
          rcases List.mem_cons.mp hx with rfl | hx
          · exact c
          · exact Int.le_trans c (h1 x hx)) (.cons h1 h2)
      · rename_i c
        exact .cons (fun x hx => by
          rcases ins_mem hx with rfl | hx
          · omega
          · exact h1 x hx) (ins_up h2)
theorem sort_up : ∀ l : List Int, (sortI l).Pairwise (· ≤ ·)
  | [] => .nil
  | a :: l => ins_up (sort_up l)
/-- 0, the cuts in order, d -/
def cutC (is : List Int) (d : Int) : List Int := 0 :: (sortI is ++ [d])
theorem cutC_ok {is : List Int} {d : Int} (h : ∀ x ∈ is, 0 ≤ x ∧ x ≤ d) (hd : 0 ≤ d) : (cutC is d).length = is.length + 2 ∧ nth (cutC is d) 0 0 = 0 ∧ nth (cutC is d) (is.length + 1) 0 = d ∧ ∀ i j, i ≤ j → j ≤ is.length + 1 → nth (cutC is d) i 0 ≤ nth (cutC is d) j 0 := by
  have hl : (cutC is d).length = is.length + 2 := by simp [cutC, sort_len]
  have pw : (cutC is d).Pairwise (· ≤ ·) := by
    unfold cutC
    refine .cons (fun x hx => ?_) ?_
    · rcases List.mem_append.mp hx with q | q
      · exact (h x (sort_mem q)).1
      · rw [List.mem_singleton.mp q]; exact hd
    · refine List.pairwise_append.mpr ⟨sort_up is, by simp, fun a ha b hb => ?_⟩
      rw [List.mem_singleton.mp hb]
      exact (h a (sort_mem ha)).2
  refine ⟨hl, rfl, ?_, fun i j hij hj => ?_⟩
  · have e : (sortI is).length = is.length := sort_len is
    simp [nth, cutC, ← e]
  · rcases Nat.eq_or_lt_of_le hij with rfl | hlt
    · exact Int.le_refl _
    · have h1 : i < (cutC is d).length := by omega
      have h2 : j < (cutC is d).length := by omega
      have e1 : nth (cutC is d) i 0 = (cutC is d)[i] := by simp [nth, h1]
      have e2 : nth (cutC is d) j 0 = (cutC is d)[j] := by simp [nth, h2]
      rw [e1, e2]
      exact List.pairwise_iff_getElem.mp pw i j h1 h2 hlt
end
theorem div_u {a b : Rat} (h0 : 0 ≤ a) (hb : 0 < b) (hab : a ≤ b) : 0 ≤ a / b ∧ a / b ≤ 1 := by
  constructor
  · rw [Rat.div_def]
    exact Rat.mul_nonneg h0 (Rat.le_of_lt (Rat.inv_pos.mpr hb))
  · have : a / b * b = a := Rat.div_mul_cancel (by grind)
    apply Classical.byContradiction
    intro z
    have z : 1 < a / b := by grind
    have := Rat.mul_lt_mul_of_pos_right z hb
    grind
theorem mul_u {a b : Rat} (ha : 0 ≤ a ∧ a ≤ 1) (hb : 0 ≤ b ∧ b ≤ 1) : 0 ≤ a * b ∧ a * b ≤ 1 := by
  refine ⟨Rat.mul_nonneg ha.1 hb.1, ?_⟩
  have := Rat.mul_le_mul_of_nonneg_left hb.2 ha.1
  rw [Rat.mul_one] at this
  exact Rat.le_trans this ha.2
/-- == of data as it comes out -/
def eqB (d e : D) : Bool := (eqD d e).getD false
theorem eqB_ok {k n k' n' : Nat} {d e : D} (h : Nc k n d) (h' : Nc k' n' e) (hk : k ≤ 60) (hk' : k' ≤ 60) (S : Store) : cmpS .eq d e S = some (eqB d e) ∧ cmpS .ne d e S = some (!eqB d e) := by
  have key : eqD d e = some (eqB d e) := by
    obtain ⟨p, e1, q⟩ := id h
    obtain ⟨p', e2, q'⟩ := id h'
    have hs : SeqAt.shaped p = true := by
      unfold SeqAt.shaped
      rw [q.lay, Bool.true_and]
      exact decide_eq_true (by have := q.dep; omega)
    have hs' : SeqAt.shaped p' = true := by
      unfold SeqAt.shaped
      rw [q'.lay, Bool.true_and]
      exact decide_eq_true (by have := q'.dep; omega)
    unfold eqB
    simp only [eqD, e1, e2]
    rw [if_pos ⟨hs, hs'⟩]
    rfl
  constructor
  · simp only [cmpS, h.res S, h'.res S, cmpD, key]
  · simp only [cmpS, h.res S, h'.res S, cmpD, key, Option.map_some]
theorem ne_one (S : Store) : cmpS .ne (qD 1) (.tup [.int 1, .int 1]) S = some false := by
  have h : Nc 1 2000 (qD 1) := (Nc.tup (k := 0) (n := 580) (ds := [.int 1, .int 1]) fun x hx => by
    simp at hx
    rw [hx]
    exact Nc.i (by decide)).mono (Nat.le_refl _) (by decide)
  have e1 := h.cmpEq (by omega) S
  obtain ⟨a, b⟩ := eqB_ok h h (by omega) (by omega) S
  rw [e1] at a
  rw [show (D.tup [.int 1, .int 1]) = qD 1 from rfl, b]
  simp at a
  rw [a]
  rfl
abbrev N2 (d : D) : Prop := Nc 2 20000 d
theorem nx_q {r : Rat} (h : Ft 1919 r) : Nc 1 1200 (qD r) := by
  refine (Nc.tup (k := 0) (n := 580) fun x hx => ?_).mono (Nat.le_refl _) (by simp)
  have : (2 : Nat) ^ 1919 ≤ 2 ^ 1920 := Nat.pow_le_pow_right (by decide) (by decide)
  simp at hx
  rcases hx with rfl | rfl
  · exact Nc.int (Nat.lt_of_lt_of_le h.1 this)
  · exact Nc.int (by have := h.2; simp; omega)
theorem nx_2 {k n : Nat} {d : D} (h : Nc k n d) (hk : k ≤ 2) (hn : n ≤ 20000) : N2 d := h.mono hk hn
theorem nx_R {l : List D} (h : ∀ x ∈ l, Nc 1 1200 x) (hl : l.length ≤ 8) : N2 (.tup l) := by
  have : l.length * (1200 + 2) ≤ 8 * (1200 + 2) := Nat.mul_le_mul_right _ hl
  exact (Nc.tup (k := 1) (n := 1200) h).mono (Nat.le_refl _) (by omega)
theorem nx_p {a b : D} (ha : N2 a) (hb : N2 b) : Nc 3 50000 (.lst [a, b]) := by
  refine (Nc.lst (k := 2) (n := 20000) fun x hx => ?_).mono (Nat.le_refl _) (by simp)
  simp at hx
  rcases hx with rfl | rfl
  · exact ha
  · exact hb
theorem idx_q0 (r : Rat) (S : Store) : idxS (qD r) (.int 0) S = some (.int r.num) := by simp [qD]
theorem idx_q1 (r : Rat) (S : Store) : idxS (qD r) (.int 1) S = some (.int r.den) := by simp [qD]
theorem app_last1 {σ : LS} {rest : Store} {ds : List D} {x : D} (h : ds.length < 1000000) : appS (.loc (rest.length + 1)) x (st σ :: (rest ++ [.lst ds])) = some (st σ :: (rest ++ [.lst (ds ++ [x])])) := by
  simp [appS, h]
theorem isLoc_last1 {σ : LS} {rest : Store} {ds : List D} : isLoc (.loc (rest.length + 1)) (st σ :: (rest ++ [.lst ds])) = true := by simp [isLoc]
theorem tup_last1 {σ : LS} {rest : Store} {ds : List D} : primS .tuple [.loc (rest.length + 1)] (st σ :: (rest ++ [.lst ds])) = some (.tup ds) := by simp [primS, itemsS]
end J
/-! A8: exceptions in the evaluator; arguments of any kind; is_integer, is_quotient, is_chance, are_chances of them -/
namespace J
open PySem L2
section
variable {G : Ctx} {env : Env} {S : Store} {a b : E}
@[simp] theorem e_isx {t : Ty} : ev G (.isx a t) env S = bnd (ev G a env S) fun x S => tst (isiS x t S) fun b => some (.ok (.bl b) S) := by
  simp only [ev, mb, mos, mr, ob]
def rsnD : D → Option D
  | .exc _ d => some d
  | _ => none
@[simp] theorem rsn_exc {c : Nat} {d : D} : rsnD (.exc c d) = some d := Eq.trans rfl rfl
@[simp] theorem e_attr {y : Str} : ev G (.attr a y) env S = bnd (ev G a env S) fun x S => opt (rsnD x) S := by
  simp only [ev, mb, mos]
  congr 1
@[simp] theorem e_meth {m : Me} : ev G (.meth m a b) env S = bnd (ev G a env S) fun x S => if isList x S = true then bnd (ev G b env S) fun y S => opt (meS m x y S) S else none := by
  simp only [ev, mb, mos]
  congr 1; funext x S
  by_cases h : isList x S = true
  · simp [h]
  · simp [h]
@[simp] theorem isx_v {c : Nat} {d : D} : isiS (.exc c d) .valueError S = some true := Eq.trans rfl rfl
@[simp] theorem isx_e {c c' : Nat} {d : D} : isiS (.exc c d) (.exc c') S = some (c == c') := Eq.trans rfl rfl
@[simp] theorem isx_b {c : Nat} {d : D} : isiS (.exc c d) .base S = some true := Eq.trans rfl rfl
@[simp] theorem frzO_exn {c : Nat} {s : Str} {S' : Store} : frzO S (some (.exn c (.str s) (S ++ S'))) = some (.exn c (.str s) S) := by
  simp only [frzO, frz]
  rw [if_pos ⟨by simp, .str⟩]
@[simp] theorem frzO_exn0 {c : Nat} {s : Str} : frzO S (some (.exn c (.str s) S)) = some (.exn c (.str s) S) := by
  simp only [frzO, frz]
  rw [if_pos ⟨by simp, .str⟩]
theorem frz_exn {r : Option (R D)} {c : Nat} {s : Str} (e : r = some (.exn c (.str s) S)) : frzO S r = some (.exn c (.str s) S) := by rw [e]; exact frzO_exn0
@[simp] theorem isNon_str {s : Str} : isNon (.str s) = false := Eq.trans rfl rfl
@[simp] theorem isNon_bl {s : Bool} : isNon (.bl s) = false := Eq.trans rfl rfl
end
section
variable {G : Bool → Ctx} {env : Env} {S : Store} {e : E}
@[simp] theorem c_raise {c : Nat} : exec G (.raise c e) false env S = wE (ev (G false) e env S) env fun d S1 => if rsnB d then some (.ex c d env, S1) else none := by
  simp only [exec, withE_eq, Bool.false_eq_true, if_false]
noncomputable def tryP (G : Bool → Ctx) (n i : Nat) (hd : C) : P → P
  | some (.ex e d env', S') => if e < n then ansH S' (exec G hd true (env'.set i (some (.exc e d))) S') else none
  | p => p
@[simp] theorem try_ex {n i c : Nat} {hd : C} {d : D} : tryP G n i hd (some (.ex c d env, S)) = if c < n then ansH S (exec G hd true (env.set i (some (.exc c d))) S) else none := Eq.trans rfl rfl
@[simp] theorem try_nx {n i : Nat} {hd : C} : tryP G n i hd (some (.nx env, S)) = some (.nx env, S) := Eq.trans rfl rfl
@[simp] theorem try_rt {n i : Nat} {hd : C} {d : D} : tryP G n i hd (some (.rt d, S)) = some (.rt d, S) := Eq.trans rfl rfl
@[simp] theorem try_none {n i : Nat} {hd : C} : tryP G n i hd none = none := Eq.trans rfl rfl
@[simp] theorem try_ite {n i : Nat} {hd : C} {p : Prop} [Decidable p] {a b : P} : tryP G n i hd (if p then a else b) = if p then tryP G n i hd a else tryP G n i hd b := by split <;> rfl
@[simp] theorem c_tryx {b hd : C} {n i : Nat} : exec G (.tryx b n i hd) false env S = tryP G n i hd (exec G b false env S) := by
  simp only [exec, tryP, Bool.false_eq_true, if_false]
  all_goals rfl
@[simp] theorem ans_str {s : Str} : ansH S (some (.rt (.str s), S)) = some (.rt (.str s), S) := by
  simp [ansH, flatD]
@[simp] theorem ans_bl {s : Bool} : ansH S (some (.rt (.bl s), S)) = some (.rt (.bl s), S) := by
  simp [ansH, flatD]
@[simp] theorem c_retH : exec G (.ret e) true env S = wE (ev (G true) e env S) env fun d S1 => some (.rt d, S1) := by simp only [exec, withE_eq]
@[simp] theorem c_ifsH {c : E} {a b : C} : exec G (.ifs c a b) true env S = wE (ev (G true) c env S) env fun x S1 => tst (truS x S1) fun t => if t then exec G a true env S1 else exec G b true env S1 := by
  simp only [exec, withE_eq]
  congr 1; funext x S1
  cases truS x S1 with
  | none => rfl
  | some t => cases t <;> rfl
@[simp] theorem c_setH {i : Nat} : exec G (.set (.var i) e) true env S = wE (ev (G true) e env S) env fun d S1 => obnd (bindT (.var i) d env) fun env' => some (.nx env', S1) := by
  simp only [exec, isVar, Bool.not_true, Bool.and_false, Bool.false_eq_true, if_false, withE_eq, bindU_var]
  congr 1; funext d S1; cases bindT (.var i) d env <;> rfl
end
section
variable {env : Env} {S : Store} {a b : E}
def revD : Option D → Option D
  | some (.tup ds) => some (.tup ds.reverse)
  | some (.lst ds) => some (.lst ds.reverse)
  | _ => none
@[simp] theorem rev_tup {ds : List D} : revD (some (.tup ds)) = some (.tup ds.reverse) := Eq.trans rfl rfl
@[simp] theorem rev_lst {ds : List D} : revD (some (.lst ds)) = some (.lst ds.reverse) := Eq.trans rfl rfl
@[simp] theorem e_rev {G : Ctx} : ev G (.rev a) env S = bnd (ev G a env S) fun x S => opt (revD (res S x)) S := by
  simp only [ev, mb, mos]
  congr 1
@[simp] theorem res_tup {ds : List D} : res S (.tup ds) = some (.tup ds) := Eq.trans rfl rfl
@[simp] theorem res_lst {ds : List D} : res S (.lst ds) = some (.lst ds) := Eq.trans rfl rfl
@[simp] theorem e_lrg1 {cl : Nat → List D → M D} {t : Bool} : ev ⟨false, cl⟩ (.lrg1 t a) env S = bnd (ev ⟨false, cl⟩ a env S) fun x S => opt (lrgD t [x]) S := by
  simp only [ev, Bool.false_eq_true, if_false, mb, mo]
@[simp] theorem e_lrg2 {cl : Nat → List D → M D} {t : Bool} : ev ⟨false, cl⟩ (.lrg2 t a b) env S = bnd (ev ⟨false, cl⟩ a env S) fun x S => bnd (ev ⟨false, cl⟩ b env S) fun y S => opt (lrgD t [x, y]) S := by
  simp only [ev, Bool.false_eq_true, if_false, mb, mo]
end
section
variable {G : Bool → Ctx} {env : Env} {S : Store} {o e : E}
@[simp] theorem c_ext : exec G (.ext o e) false env S = wE (ev (G false) o env S) env fun a S1 => if isLoc a S1 = true then wE (ev (G false) e env S1) env fun x S2 => obnd (extS a x S2) fun S3 => some (.nx env, S3) else none := by
  simp only [exec, withE_eq]
  congr 1; funext a S1
  split
  · congr 1; funext x S2; cases extS a x S2 <;> rfl
  · rfl
end
/-! the words -/
@[simp] theorem rsn_w_added : rsnB (.str "added") = true := Eq.trans rfl rfl
@[simp] theorem rsn_w_against : rsnB (.str "against") = true := Eq.trans rfl rfl
@[simp] theorem rsn_w_balls : rsnB (.str "balls") = true := Eq.trans rfl rfl
@[simp] theorem rsn_w_beat : rsnB (.str "beat") = true := Eq.trans rfl rfl
@[simp] theorem rsn_w_bet : rsnB (.str "bet") = true := Eq.trans rfl rfl
@[simp] theorem rsn_w_bets : rsnB (.str "bets") = true := Eq.trans rfl rfl
@[simp] theorem rsn_w_book : rsnB (.str "book") = true := Eq.trans rfl rfl
@[simp] theorem rsn_w_boxes : rsnB (.str "boxes") = true := Eq.trans rfl rfl
@[simp] theorem rsn_w_called : rsnB (.str "called") = true := Eq.trans rfl rfl
@[simp] theorem rsn_w_calls : rsnB (.str "calls") = true := Eq.trans rfl rfl
@[simp] theorem rsn_w_card : rsnB (.str "card") = true := Eq.trans rfl rfl
@[simp] theorem rsn_w_cards : rsnB (.str "cards") = true := Eq.trans rfl rfl
@[simp] theorem rsn_w_chain : rsnB (.str "chain") = true := Eq.trans rfl rfl
@[simp] theorem rsn_w_chance : rsnB (.str "chance") = true := Eq.trans rfl rfl
@[simp] theorem rsn_w_chances : rsnB (.str "chances") = true := Eq.trans rfl rfl
@[simp] theorem rsn_w_claim : rsnB (.str "claim") = true := Eq.trans rfl rfl
@[simp] theorem rsn_w_claims : rsnB (.str "claims") = true := Eq.trans rfl rfl
@[simp] theorem rsn_w_colour : rsnB (.str "colour") = true := Eq.trans rfl rfl
@[simp] theorem rsn_w_column : rsnB (.str "column") = true := Eq.trans rfl rfl
@[simp] theorem rsn_w_columns : rsnB (.str "columns") = true := Eq.trans rfl rfl
@[simp] theorem rsn_w_cost : rsnB (.str "cost") = true := Eq.trans rfl rfl
@[simp] theorem rsn_w_counts : rsnB (.str "counts") = true := Eq.trans rfl rfl
@[simp] theorem rsn_w_cover : rsnB (.str "cover") = true := Eq.trans rfl rfl
@[simp] theorem rsn_w_deposits : rsnB (.str "deposits") = true := Eq.trans rfl rfl
@[simp] theorem rsn_w_dice : rsnB (.str "dice") = true := Eq.trans rfl rfl
@[simp] theorem rsn_w_dividends : rsnB (.str "dividends") = true := Eq.trans rfl rfl
@[simp] theorem rsn_w_draw : rsnB (.str "draw") = true := Eq.trans rfl rfl
@[simp] theorem rsn_w_draws : rsnB (.str "draws") = true := Eq.trans rfl rfl
@[simp] theorem rsn_w_end : rsnB (.str "end") = true := Eq.trans rfl rfl
@[simp] theorem rsn_w_event : rsnB (.str "event") = true := Eq.trans rfl rfl
@[simp] theorem rsn_w_eyes : rsnB (.str "eyes") = true := Eq.trans rfl rfl
@[simp] theorem rsn_w_faces : rsnB (.str "faces") = true := Eq.trans rfl rfl
@[simp] theorem rsn_w_forecasts : rsnB (.str "forecasts") = true := Eq.trans rfl rfl
@[simp] theorem rsn_w_form : rsnB (.str "form") = true := Eq.trans rfl rfl
@[simp] theorem rsn_w_game : rsnB (.str "game") = true := Eq.trans rfl rfl
@[simp] theorem rsn_w_gap : rsnB (.str "gap") = true := Eq.trans rfl rfl
@[simp] theorem rsn_w_gaps : rsnB (.str "gaps") = true := Eq.trans rfl rfl
@[simp] theorem rsn_w_goal : rsnB (.str "goal") = true := Eq.trans rfl rfl
@[simp] theorem rsn_w_hand : rsnB (.str "hand") = true := Eq.trans rfl rfl
@[simp] theorem rsn_w_height : rsnB (.str "height") = true := Eq.trans rfl rfl
@[simp] theorem rsn_w_held : rsnB (.str "held") = true := Eq.trans rfl rfl
@[simp] theorem rsn_w_hit : rsnB (.str "hit") = true := Eq.trans rfl rfl
@[simp] theorem rsn_w_hits : rsnB (.str "hits") = true := Eq.trans rfl rfl
@[simp] theorem rsn_w_kept : rsnB (.str "kept") = true := Eq.trans rfl rfl
@[simp] theorem rsn_w_kind : rsnB (.str "kind") = true := Eq.trans rfl rfl
@[simp] theorem rsn_w_kinds : rsnB (.str "kinds") = true := Eq.trans rfl rfl
@[simp] theorem rsn_w_lead : rsnB (.str "lead") = true := Eq.trans rfl rfl
@[simp] theorem rsn_w_legs : rsnB (.str "legs") = true := Eq.trans rfl rfl
@[simp] theorem rsn_w_letters : rsnB (.str "letters") = true := Eq.trans rfl rfl
@[simp] theorem rsn_w_levels : rsnB (.str "levels") = true := Eq.trans rfl rfl
@[simp] theorem rsn_w_line : rsnB (.str "line") = true := Eq.trans rfl rfl
@[simp] theorem rsn_w_lottery : rsnB (.str "lottery") = true := Eq.trans rfl rfl
@[simp] theorem rsn_w_many : rsnB (.str "many") = true := Eq.trans rfl rfl
@[simp] theorem rsn_w_market : rsnB (.str "market") = true := Eq.trans rfl rfl
@[simp] theorem rsn_w_mean : rsnB (.str "mean") = true := Eq.trans rfl rfl
@[simp] theorem rsn_w_money : rsnB (.str "money") = true := Eq.trans rfl rfl
@[simp] theorem rsn_w_most : rsnB (.str "most") = true := Eq.trans rfl rfl
@[simp] theorem rsn_w_moves : rsnB (.str "moves") = true := Eq.trans rfl rfl
@[simp] theorem rsn_w_name : rsnB (.str "name") = true := Eq.trans rfl rfl
@[simp] theorem rsn_w_none : rsnB (.str "none") = true := Eq.trans rfl rfl
@[simp] theorem rsn_w_number : rsnB (.str "number") = true := Eq.trans rfl rfl
@[simp] theorem rsn_w_numbers : rsnB (.str "numbers") = true := Eq.trans rfl rfl
@[simp] theorem rsn_w_offer : rsnB (.str "offer") = true := Eq.trans rfl rfl
@[simp] theorem rsn_w_offers : rsnB (.str "offers") = true := Eq.trans rfl rfl
@[simp] theorem rsn_w_order : rsnB (.str "order") = true := Eq.trans rfl rfl
@[simp] theorem rsn_w_other : rsnB (.str "other") = true := Eq.trans rfl rfl
@[simp] theorem rsn_w_pattern : rsnB (.str "pattern") = true := Eq.trans rfl rfl
@[simp] theorem rsn_w_patterns : rsnB (.str "patterns") = true := Eq.trans rfl rfl
@[simp] theorem rsn_w_pay : rsnB (.str "pay") = true := Eq.trans rfl rfl
@[simp] theorem rsn_w_pays : rsnB (.str "pays") = true := Eq.trans rfl rfl
@[simp] theorem rsn_w_place : rsnB (.str "place") = true := Eq.trans rfl rfl
@[simp] theorem rsn_w_places : rsnB (.str "places") = true := Eq.trans rfl rfl
@[simp] theorem rsn_w_points : rsnB (.str "points") = true := Eq.trans rfl rfl
@[simp] theorem rsn_w_price : rsnB (.str "price") = true := Eq.trans rfl rfl
@[simp] theorem rsn_w_prices : rsnB (.str "prices") = true := Eq.trans rfl rfl
@[simp] theorem rsn_w_prizes : rsnB (.str "prizes") = true := Eq.trans rfl rfl
@[simp] theorem rsn_w_question : rsnB (.str "question") = true := Eq.trans rfl rfl
@[simp] theorem rsn_w_questions : rsnB (.str "questions") = true := Eq.trans rfl rfl
@[simp] theorem rsn_w_ranks : rsnB (.str "ranks") = true := Eq.trans rfl rfl
@[simp] theorem rsn_w_reports : rsnB (.str "reports") = true := Eq.trans rfl rfl
@[simp] theorem rsn_w_riffles : rsnB (.str "riffles") = true := Eq.trans rfl rfl
@[simp] theorem rsn_w_ring : rsnB (.str "ring") = true := Eq.trans rfl rfl
@[simp] theorem rsn_w_rounds : rsnB (.str "rounds") = true := Eq.trans rfl rfl
@[simp] theorem rsn_w_row : rsnB (.str "row") = true := Eq.trans rfl rfl
@[simp] theorem rsn_w_rows : rsnB (.str "rows") = true := Eq.trans rfl rfl
@[simp] theorem rsn_w_runner : rsnB (.str "runner") = true := Eq.trans rfl rfl
@[simp] theorem rsn_w_scale : rsnB (.str "scale") = true := Eq.trans rfl rfl
@[simp] theorem rsn_w_score : rsnB (.str "score") = true := Eq.trans rfl rfl
@[simp] theorem rsn_w_second : rsnB (.str "second") = true := Eq.trans rfl rfl
@[simp] theorem rsn_w_seen : rsnB (.str "seen") = true := Eq.trans rfl rfl
@[simp] theorem rsn_w_share : rsnB (.str "share") = true := Eq.trans rfl rfl
@[simp] theorem rsn_w_side : rsnB (.str "side") = true := Eq.trans rfl rfl
@[simp] theorem rsn_w_sizes : rsnB (.str "sizes") = true := Eq.trans rfl rfl
@[simp] theorem rsn_w_sort : rsnB (.str "sort") = true := Eq.trans rfl rfl
@[simp] theorem rsn_w_stake : rsnB (.str "stake") = true := Eq.trans rfl rfl
@[simp] theorem rsn_w_stakes : rsnB (.str "stakes") = true := Eq.trans rfl rfl
@[simp] theorem rsn_w_start : rsnB (.str "start") = true := Eq.trans rfl rfl
@[simp] theorem rsn_w_state : rsnB (.str "state") = true := Eq.trans rfl rfl
@[simp] theorem rsn_w_states : rsnB (.str "states") = true := Eq.trans rfl rfl
@[simp] theorem rsn_w_step : rsnB (.str "step") = true := Eq.trans rfl rfl
@[simp] theorem rsn_w_steps : rsnB (.str "steps") = true := Eq.trans rfl rfl
@[simp] theorem rsn_w_suits : rsnB (.str "suits") = true := Eq.trans rfl rfl
@[simp] theorem rsn_w_target : rsnB (.str "target") = true := Eq.trans rfl rfl
@[simp] theorem rsn_w_text : rsnB (.str "text") = true := Eq.trans rfl rfl
@[simp] theorem rsn_w_thrown : rsnB (.str "thrown") = true := Eq.trans rfl rfl
@[simp] theorem rsn_w_throws : rsnB (.str "throws") = true := Eq.trans rfl rfl
@[simp] theorem rsn_w_tickets : rsnB (.str "tickets") = true := Eq.trans rfl rfl
@[simp] theorem rsn_w_told : rsnB (.str "told") = true := Eq.trans rfl rfl
@[simp] theorem rsn_w_undo : rsnB (.str "undo") = true := Eq.trans rfl rfl
@[simp] theorem rsn_w_ups : rsnB (.str "ups") = true := Eq.trans rfl rfl
@[simp] theorem rsn_w_urn : rsnB (.str "urn") = true := Eq.trans rfl rfl
@[simp] theorem rsn_w_value : rsnB (.str "value") = true := Eq.trans rfl rfl
@[simp] theorem rsn_w_walk : rsnB (.str "walk") = true := Eq.trans rfl rfl
@[simp] theorem rsn_w_wanted : rsnB (.str "wanted") = true := Eq.trans rfl rfl
@[simp] theorem rsn_w_way : rsnB (.str "way") = true := Eq.trans rfl rfl
@[simp] theorem rsn_w_weights : rsnB (.str "weights") = true := Eq.trans rfl rfl
@[simp] theorem rsn_w_winners : rsnB (.str "winners") = true := Eq.trans rfl rfl
@[simp] theorem rsn_w_word : rsnB (.str "word") = true := Eq.trans rfl rfl
@[simp] theorem rsn_w_words : rsnB (.str "words") = true := Eq.trans rfl rfl
@[simp] theorem rsn_w_world : rsnB (.str "world") = true := Eq.trans rfl rfl
@[simp] theorem rsn_w_worlds : rsnB (.str "worlds") = true := Eq.trans rfl rfl
@[simp] theorem rsn_w_worth : rsnB (.str "worth") = true := Eq.trans rfl rfl
/-! ### arguments of any kind -/
inductive Pl : Nat → D → Prop
  | non {n : Nat} : Pl n .non
  | bl {n : Nat} {b : Bool} : Pl n (.bl b)
  | int {n : Nat} {i : Int} : Pl n (.int i)
  | str {n : Nat} {s : Str} : Pl n (.str s)
  | tup {n : Nat} {ds : List D} (h : ∀ d ∈ ds, Pl n d) (hl : ds.length < 1000000) : Pl (n + 1) (.tup ds)
theorem Pl.mono {n m : Nat} {d : D} (h : Pl n d) (hm : n ≤ m) : Pl m d := by
  induction h generalizing m with
  | non => exact .non
  | bl => exact .bl
  | int => exact .int
  | str => exact .str
  | tup h hl ih =>
    obtain ⟨m, rfl⟩ : ∃ j, m = j + 1 := ⟨m - 1, by omega⟩
    exact .tup (fun d hd => ih d hd (by omega)) hl
@[simp] theorem Pl.cl {n m : Nat} {d : D} (h : Pl n d) : Cl m d := by
  induction h with
  | non => exact .non
  | bl => exact .bl
  | int => exact .int
  | str => exact .str
  | tup h hl ih => exact .tup ih
theorem Pl.q {n : Nat} (r : Rat) : Pl (n + 1) (qD r) := .tup (fun d hd => by
  simp at hd
  rcases hd with rfl | rfl <;> exact .int) (by simp)
def intP : D → Bool
  | .int _ => true
  | _ => false
def tupP : D → Bool
  | .tup _ => true
  | _ => false
def quoP : D → Bool
  | .tup [.int x, .int y] => decide (1 ≤ y) && decide (Int.gcd x y = 1)
  | _ => false
def chaP : D → Bool
  | .tup [.int x, .int y] => decide (1 ≤ y) && decide (Int.gcd x y = 1) && decide (0 ≤ x ∧ x ≤ y ∧ y ≤ 1000000)
  | _ => false
theorem quoP_tup {ds : List D} (h : quoP (.tup ds) = true) : ∃ x y, ds = [.int x, .int y] ∧ 1 ≤ y ∧ Int.gcd x y = 1 := by
  unfold quoP at h
  split at h
  · rename_i x y e
    cases e
    simp at h
    exact ⟨x, y, rfl, h⟩
  · cases h
theorem pair_q {x y : Int} (hy : 1 ≤ y) (hg : Int.gcd x y = 1) : ∃ r : Rat, qD r = .tup [.int x, .int y] ∧ r.num = x ∧ (r.den : Int) = y := by
  refine ⟨⟨x, y.toNat, by omega, ?_⟩, ?_, rfl, ?_⟩
  · have : y.toNat = y.natAbs := by omega
    rw [this]
    exact hg
  · simp only [qD]
    have : ((y.toNat : Nat) : Int) = y := by omega
    rw [this]
  · show ((y.toNat : Nat) : Int) = y
    omega
theorem quoP_q {d : D} (h : quoP d = true) : ∃ r : Rat, d = qD r := by
  cases d with
  | tup ds =>
    obtain ⟨x, y, rfl, h1, h2⟩ := quoP_tup h
    obtain ⟨r, e, _⟩ := pair_q h1 h2
    exact ⟨r, e.symm⟩
  | _ => simp [quoP] at h
theorem quoP_of (r : Rat) : quoP (qD r) = true := by
  have := r.den_pos
  have h := rat_gcd r
  simp [qD, quoP, h]
  omega
theorem chaP_tup {ds : List D} (h : chaP (.tup ds) = true) : ∃ x y, ds = [.int x, .int y] ∧ 1 ≤ y ∧ Int.gcd x y = 1 ∧ 0 ≤ x ∧ x ≤ y ∧ y ≤ 1000000 := by
  unfold chaP at h
  split at h
  · rename_i x y e
    cases e
    simp at h
    exact ⟨x, y, rfl, h.1.1, h.1.2, h.2⟩
  · cases h
theorem chaP_q {d : D} (h : chaP d = true) : ∃ r : Rat, d = qD r ∧ Cha r := by
  cases d with
  | tup ds =>
    obtain ⟨x, y, rfl, h1, h2, h3, h4, h5⟩ := chaP_tup h
    obtain ⟨r, e, e1, e2⟩ := pair_q h1 h2
    exact ⟨r, e.symm, ⟨by omega, by omega, by omega⟩⟩
  | _ => simp [chaP] at h
theorem chaP_of {r : Rat} (h : Cha r) : chaP (qD r) = true := by
  have := r.den_pos
  have h1 := rat_gcd r
  obtain ⟨a, b, c⟩ := h
  simp [qD, chaP, h1, a, b]
  omega
theorem chaP_quo {d : D} (h : quoP d = false) : chaP d = false := by
  cases hc : chaP d with
  | false => rfl
  | true =>
    obtain ⟨r, rfl, _⟩ := chaP_q hc
    rw [quoP_of] at h
    cases h
section
variable {T : List Fn} {d : D} {n : Nat}
theorem r_isIntP {i : Nat} (h : Is T i 1 1 isIntB) (k : Nat) (S : Store) (hp : Pl n d) : run T (k + 1) false i [d] S = some (.ok (.bl (intP d)) S) := by
  rw [h.run rfl]
  cases hp <;> simp [isIntB, intP]
theorem all2 {ds : List D} (hl : ds.length = 2) (h : ds.all intP = true) : ∃ x y, ds = [.int x, .int y] := by
  match ds, hl with
  | [a, b], _ =>
    simp at h
    cases a <;> first
      | (simp [intP] at h; done)
      | skip
    cases b <;> first
      | (simp [intP] at h; done)
      | skip
    exact ⟨_, _, rfl⟩
theorem r_isQuoP {i j m : Nat} (h1 : Is T i 1 1 isIntB) (h2 : Is T j 2 2 gcdB) (h3 : Is T m 1 2 (isQuoB i j)) (k : Nat) (S : Store) (hp : Pl n d) : run T (k + 2) false m [d] S = some (.ok (.bl (quoP d)) S) := by
  cases hp with
  | @tup n ds h hl =>
    by_cases hq : ds.length = 2 ∧ ds.all intP = true
    · obtain ⟨x, y, rfl⟩ := all2 hq.1 hq.2
      by_cases hy : 0 < y
      · rw [r_isQuo h1 h2 h3 k S hy]
        have : 1 ≤ y := by omega
        simp [quoP, this]
      · rw [h3.run rfl]
        have e1 : ev ⟨false, run T (k + 1) false⟩ (isQuoQ i) [some (.tup [.int x, .int y]), none] S = some (.ok (.lst ([x, y].map fun _ => .bl true)) S) := by
          refine comp_map (emb := D.int) (xs := [x, y]) (gs := [none]) (g := fun _ => .bl true) rfl rfl rfl gN (by simp) fun z _ => ?_
          simp [t_turn, wipeE, r_isInt h1]
        have e3 : primS .all [.lst [.bl true, .bl true]] S = some (.bl true) := rfl
        have hy1 : ¬ 1 ≤ y := by omega
        simp [isQuoB, e1, e3, hy1, quoP]
    · have e1 : ev ⟨false, run T (k + 1) false⟩ (isQuoQ i) [some (.tup ds), none] S = some (.ok (.lst (ds.map fun d => .bl (intP d))) S) := by
        refine comp_map (emb := id) (xs := ds) (gs := [none]) (g := fun d => .bl (intP d)) rfl rfl (by simp [iterS, guardOf]) gN hl fun z hz => ?_
        simp [t_turn, wipeE, r_isIntP h1 k S (h z hz)]
      have eq : quoP (.tup ds) = false := by
        cases hc : quoP (.tup ds) with
        | false => rfl
        | true =>
          obtain ⟨x, y, rfl, _⟩ := quoP_tup hc
          exact absurd ⟨rfl, by simp [intP]⟩ hq
      rw [h3.run rfl, eq]
      by_cases hl2 : (ds.length : Int) = 2
      · have ha : ds.all intP = false := by
          cases hc : ds.all intP with
          | false => rfl
          | true => exact absurd ⟨by omega, hc⟩ hq
        simp [isQuoB, e1, hl2, ha]
      · simp [isQuoB, hl2]
  | _ =>
    rw [h3.run rfl]
    simp [isQuoB, quoP]
theorem r_isChaP {i j m c : Nat} (h1 : Is T i 1 1 isIntB) (h2 : Is T j 2 2 gcdB) (h3 : Is T m 1 2 (isQuoB i j)) (h4 : Is T c 1 1 (isChaB m)) (k : Nat) (S : Store) (hp : Pl n d) : run T (k + 3) false c [d] S = some (.ok (.bl (chaP d)) S) := by
  rw [h4.run rfl]
  have e := frz_same (r_isQuoP h1 h2 h3 k S hp) (by simp)
  have no : ∀ r : Rat, ¬ (0 ≤ r.num ∧ r.num ≤ (r.den : Int) ∧ (r.den : Int) ≤ 1000000) → chaP (qD r) = false := fun r h => by
    cases hc : chaP (qD r) with
    | false => rfl
    | true =>
      obtain ⟨x, y, e, _, _, h3⟩ := chaP_tup hc
      simp at e
      rw [← e.1, ← e.2] at h3
      exact absurd h3 h
  cases hq : quoP d with
  | false =>
    rw [hq] at e
    rw [chaP_quo hq]
    simp [isChaB, e]
  | true =>
    rw [hq] at e
    obtain ⟨r, rfl⟩ := quoP_q hq
    have h1 := rat_gcd r
    have h2 := r.den_pos
    by_cases c1 : 0 ≤ r.num
    · by_cases c2 : r.num ≤ (r.den : Int)
      · by_cases c3 : (r.den : Int) ≤ 1000000
        · rw [chaP_of ⟨c1, c2, by omega⟩]
          simp [isChaB, e, idx_q0, idx_q1, c1, c2, c3]
        · have : chaP (qD r) = false := no r fun z => c3 z.2.2
          rw [this]
          simp [isChaB, e, idx_q0, idx_q1, c1, c2, c3]
      · have : chaP (qD r) = false := no r fun z => c2 z.2.1
        rw [this]
        simp [isChaB, e, idx_q0, idx_q1, c1, c2]
    · have : chaP (qD r) = false := no r fun z => c1 z.1
      rw [this]
      simp [isChaB, e, idx_q0, idx_q1, c1]
end
/-! ### rows of chances -/
theorem all_q {P : Rat → Prop} {f : D → Bool} (hf : ∀ d, f d = true → ∃ r, d = qD r ∧ P r) : ∀ {ds : List D}, ds.all f = true → ∃ rs : List Rat, ds = rs.map qD ∧ ∀ r ∈ rs, P r
  | [], _ => ⟨[], rfl, by simp⟩
  | d :: ds, h => by
    simp only [List.all_cons, Bool.and_eq_true] at h
    obtain ⟨r, rfl, hr⟩ := hf d h.1
    obtain ⟨rs, rfl, hs⟩ := all_q hf h.2
    exact ⟨r :: rs, rfl, fun x hx => by
      rcases List.mem_cons.mp hx with rfl | hx
      · exact hr
      · exact hs x hx⟩
def ratP : D → Rat
  | .tup [.int x, .int y] => fr x y
  | _ => 0
theorem ratP_q (r : Rat) : ratP (qD r) = r := by simp only [qD, ratP]; exact fr_self r
theorem ratP_map {rs : List Rat} : (rs.map qD).map ratP = rs := by
  rw [List.map_map]
  have : (ratP ∘ qD) = id := by funext r; exact ratP_q r
  rw [this, List.map_id]
/-- are_chances(value, most) -/
def chasP (m : Int) : D → Bool
  | .tup ds => decide (1 ≤ (ds.length : Int) ∧ (ds.length : Int) ≤ m) && ds.all chaP && decide (qsum (ds.map ratP) = 1)
  | _ => false
theorem chasP_q {m : Int} {d : D} (h : chasP m d = true) : ∃ rs : List Rat, d = .tup (rs.map qD) ∧ (∀ r ∈ rs, Cha r) ∧ 1 ≤ rs.length ∧ (rs.length : Int) ≤ m ∧ qsum rs = 1 := by
  cases d with
  | tup ds =>
    simp only [chasP, Bool.and_eq_true, decide_eq_true_eq] at h
    obtain ⟨⟨h1, h2⟩, h3⟩ := h
    obtain ⟨rs, rfl, hc⟩ := all_q (fun d hd => chaP_q hd) h2
    rw [ratP_map] at h3
    simp only [List.length_map] at h1
    exact ⟨rs, rfl, hc, by omega, h1.2, h3⟩
  | _ => simp [chasP] at h
theorem chasP_of {m : Int} {rs : List Rat} (hc : ∀ r ∈ rs, Cha r) (h1 : 1 ≤ rs.length) (hm : (rs.length : Int) ≤ m) (hs : qsum rs = 1) : chasP m (.tup (rs.map qD)) = true := by
  simp only [chasP, ratP_map, List.length_map, hs]
  have : (rs.map qD).all chaP = true := by
    rw [List.all_map, List.all_eq_true]
    exact fun r hr => chaP_of (hc r hr)
  rw [this]
  simp
  omega
theorem ov_prod : ∀ rs : List Rat, (∀ r ∈ rs, Cha r) → ∃ M, 0 < M ∧ M ≤ 1000000 ^ rs.length ∧ ∀ r ∈ rs, Ov M r
  | [], _ => ⟨1, by decide, by simp, by simp⟩
  | r :: rs, h => by
    obtain ⟨M, h1, h2, h3⟩ := ov_prod rs fun x hx => h x (List.mem_cons_of_mem _ hx)
    have hd := (h r (List.mem_cons_self ..)).dn
    refine ⟨r.den * M, Nat.mul_pos r.den_pos h1, ?_, fun x hx => ?_⟩
    · rw [List.length_cons, Nat.pow_succ, Nat.mul_comm]
      exact Nat.mul_le_mul h2 hd
    · rcases List.mem_cons.mp hx with rfl | hx
      · exact Ov.of_dvd (Nat.dvd_mul_right _ _)
      · have := (h3 x hx).up r.den
        rwa [Nat.mul_comm] at this
theorem qsum_len : ∀ {rs : List Rat}, (∀ r ∈ rs, Cha r) → qsum rs ≤ ((rs.length : Nat) : Rat)
  | [], _ => by simp [qsum]
  | r :: rs, h => by
    have h1 := (h r (List.mem_cons_self ..)).u.2
    have h2 := qsum_len (rs := rs) fun x hx => h x (List.mem_cons_of_mem _ hx)
    rw [qsum_cons, List.length_cons]
    have : ((rs.length + 1 : Nat) : Rat) = (rs.length : Rat) + 1 := by simp [Rat.natCast_add]
    rw [this, Rat.add_comm]
    exact Rat.le_trans (Rat.add_le_add_right.mpr h2) (Rat.add_le_add_left.mpr h1)
open Classical in
theorem cmpOne (r : Rat) (S : Store) : cmpS .eq (qD r) (.tup [.int 1, .int 1]) S = some (decide (r = 1)) := by
  have hs : ∀ x y : Int, SeqAt.shaped (.tuple [.int x, .int y]) = true := fun _ _ => rfl
  have e : eqD (.tup [.int r.num, .int r.den]) (.tup [.int 1, .int 1]) = some (decide (r.num = 1) && decide ((r.den : Int) = 1)) := by
    simp only [eqD, toPy, toPys]
    rw [if_pos ⟨hs _ _, hs _ _⟩]
    congr 1
    show (decide (r.num = 1) && (decide ((r.den : Int) = 1) && true)) = _
    rw [Bool.and_true]
  have e2 : (decide (r.num = 1) && decide ((r.den : Int) = 1)) = decide (r = 1) := by
    rw [← Bool.decide_and]
    refine decide_eq_decide.mpr ⟨fun ⟨a, b⟩ => ?_, fun h => by rw [h]; decide⟩
    have b' : r.den = 1 := by omega
    apply Rat.ext
    · rw [a]; rfl
    · rw [b']; rfl
  have r1 : ∀ x y : Int, res S (D.tup [.int x, .int y]) = some (D.tup [.int x, .int y]) := fun _ _ => rfl
  simp only [cmpS, qD, r1, cmpD]
  rw [e, e2]
section
variable {T : List Fn} {d : D} {n : Nat}
open Classical in
theorem r_areP {ii i j p q mq mc ma : Nat} (h0 : Is T ii 1 1 isIntB) (h1 : Is T i 2 2 gcdB) (h2 : Is T j 2 3 (quoB i)) (h3 : Is T p 2 2 (plusB j)) (h4 : Is T q 1 3 (accB 0 p)) (h5 : Is T mq 1 2 (isQuoB ii i)) (h6 : Is T mc 1 1 (isChaB mq)) (h7 : Is T ma 2 3 (areB mc q))
    (k : Nat) (S : Store) {m : Int} (hm : m ≤ 200) (hp : Pl n d) : run T (k + 5) false ma [d, .int m] S = some (.ok (.bl (chasP m d)) S) := by
  cases hp with
  | @tup n ds h hl =>
    have e1 : ev ⟨false, run T (k + 4) false⟩ (areQ mc) [some (.tup ds), some (.int m), none] S = some (.ok (.lst (ds.map fun d => .bl (chaP d))) S) := by
      refine comp_map (emb := id) (xs := ds) (gs := [none]) (g := fun d => .bl (chaP d)) rfl rfl (by simp [iterS, guardOf]) gN hl fun z hz => ?_
      have e := frz_same (r_isChaP h0 h1 h5 h6 (k + 1) S (h z hz)) (by simp)
      simp [t_turn, wipeE, e]
    rw [h7.run rfl]
    by_cases c1 : (1 : Int) ≤ ds.length
    · by_cases c2 : (ds.length : Int) ≤ m
      · cases ha : ds.all chaP with
        | false => simp [areB, e1, c1, c2, ha, chasP]
        | true =>
          obtain ⟨rs, hrs, hc⟩ := all_q (fun d hd => chaP_q hd) ha
          have hlen : ds.length = rs.length := by rw [hrs, List.length_map]
          have hl2 : rs.length ≤ 200 := by omega
          obtain ⟨M, m1, m2, m3⟩ := ov_prod rs hc
          have hz : M < 2 ^ (20 * rs.length + 1) := by
            have e : (1000000 : Nat) ^ rs.length ≤ (2 ^ 20) ^ rs.length := Nat.pow_le_pow_left (by decide) _
            rw [← Nat.pow_mul] at e
            have : 2 ^ (20 * rs.length) < 2 ^ (20 * rs.length + 1) := Nat.pow_lt_pow_right (by decide) (by omega)
            omega
          have hs : qsum rs ≤ ((2 ^ 8 : Nat) : Rat) := Rat.le_trans (qsum_len hc) (by
            have : rs.length ≤ 2 ^ 8 := by omega
            exact Rat.natCast_le_natCast.mpr this)
          have e2 := frz_same (r_sumQ h1 h2 h3 h4 k S (rows := .tup (rs.map qD)) (.inl rfl) m3 (fun r hr => (hc r hr).u.1) hs m1 hz (by omega)) (by simp)
          rw [← hrs] at e2
          have e3 : ds.map ratP = rs := by rw [hrs, ratP_map]
          simp [areB, e1, e2, cmpOne, c1, c2, ha, chasP, e3]
      · simp [areB, c1, c2, chasP]
    · simp [areB, c1, chasP]
  | _ =>
    rw [h7.run rfl]
    simp [areB, chasP]
end
end J
/-! A9: whole numbers within bounds; small chances; arguments with bounded numbers; walks that may end by anything; defs run where an exception is handled -/
namespace J
open PySem L2
/-! ### a whole number within bounds -/
def whP (a b : Int) : D → Bool
  | .int i => decide (a ≤ i ∧ i ≤ b)
  | _ => false
theorem whP_int {a b : Int} {d : D} (h : whP a b d = true) : ∃ i, d = .int i ∧ a ≤ i ∧ i ≤ b := by
  cases d with
  | int i => simp [whP] at h; exact ⟨i, rfl, h⟩
  | _ => simp [whP] at h
@[simp] theorem whP_i {a b i : Int} : whP a b (.int i) = decide (a ≤ i ∧ i ≤ b) := Eq.trans rfl rfl
theorem whP_no {m : Nat} {a b : Int} {o : D} (ho : Pl m o) (h : whP a b o = false) : intP o = false ∨ ∃ i, o = .int i ∧ (¬ a ≤ i ∨ (a ≤ i ∧ ¬ i ≤ b)) := by
  cases ho with
  | @int _ i =>
    refine .inr ⟨i, rfl, ?_⟩
    simp [whP] at h
    by_cases c : a ≤ i
    · exact .inr ⟨c, by have := h c; omega⟩
    · exact .inl c
  | _ => exact .inl rfl
def wholeB : C := (.seq (.ret (.and (.isi (.var 0) .int) (.and (.not (.isi (.var 0) .bool)) (.chn .le .le (.var 1) (.var 0) (.var 2))))) .nil)
theorem r_whole {T : List Fn} {i n : Nat} {d : D} (h : Is T i 3 3 wholeB) (k : Nat) (S : Store) (hp : Pl n d) (a b : Int) : run T (k + 1) false i [d, .int a, .int b] S = some (.ok (.bl (whP a b d)) S) := by
  rw [h.run rfl]
  cases hp with
  | @int n i =>
    by_cases c1 : a ≤ i
    · by_cases c2 : i ≤ b <;> simp [wholeB, whP, c1, c2]
    · simp [wholeB, whP, c1]
  | _ => simp [wholeB, whP]
theorem wh_ints {a b : Int} : ∀ {ds : List D}, ds.all (whP a b) = true → ∃ is : List Int, ds = is.map .int ∧ ∀ i ∈ is, a ≤ i ∧ i ≤ b
  | [], _ => ⟨[], rfl, by simp⟩
  | d :: ds, h => by
    simp only [List.all_cons, Bool.and_eq_true] at h
    obtain ⟨i, rfl, hi⟩ := whP_int h.1
    obtain ⟨is, rfl, hs⟩ := wh_ints h.2
    exact ⟨i :: is, rfl, fun x hx => by
      rcases List.mem_cons.mp hx with e | hx
      · rw [e]; exact hi
      · exact hs x hx⟩
theorem all_wh {a b : Int} {is : List Int} (h : ∀ i ∈ is, a ≤ i ∧ i ≤ b) : (is.map D.int).all (whP a b) = true := by
  rw [List.all_map, List.all_eq_true]
  exact fun i hi => by simpa [whP] using h i hi
/-! ### small chances -/
def smP : D → Bool
  | .tup [.int x, .int y] => decide (1 ≤ y) && decide (Int.gcd x y = 1) && decide (0 ≤ x ∧ x ≤ y ∧ y ≤ 1000)
  | _ => false
theorem smP_tup {ds : List D} (h : smP (.tup ds) = true) : ∃ x y, ds = [.int x, .int y] ∧ 1 ≤ y ∧ Int.gcd x y = 1 ∧ 0 ≤ x ∧ x ≤ y ∧ y ≤ 1000 := by
  unfold smP at h
  split at h
  · rename_i x y e
    cases e
    simp at h
    exact ⟨x, y, rfl, h.1.1, h.1.2, h.2⟩
  · cases h
theorem smP_q {d : D} (h : smP d = true) : ∃ r : Rat, d = qD r ∧ Cha r ∧ r.den ≤ 1000 := by
  cases d with
  | tup ds =>
    obtain ⟨x, y, rfl, h1, h2, h3, h4, h5⟩ := smP_tup h
    obtain ⟨r, e, e1, e2⟩ := pair_q h1 h2
    exact ⟨r, e.symm, ⟨by omega, by omega, by omega⟩, by omega⟩
  | _ => simp [smP] at h
theorem smP_of {r : Rat} (h : Cha r) (hd : r.den ≤ 1000) : smP (qD r) = true := by
  have := r.den_pos
  have h1 := rat_gcd r
  obtain ⟨a, b, c⟩ := h
  simp [qD, smP, h1, a, b]
  omega
theorem smP_cha {d : D} (h : chaP d = false) : smP d = false := by
  cases hc : smP d with
  | false => rfl
  | true =>
    obtain ⟨r, rfl, hr, _⟩ := smP_q hc
    rw [chaP_of hr] at h
    cases h
theorem smP_big {r : Rat} (h : 1000 < (r.den : Int)) : smP (qD r) = false := by
  cases hc : smP (qD r) with
  | false => rfl
  | true =>
    obtain ⟨x, y, e, _, _, _, _, h5⟩ := smP_tup hc
    simp at e
    omega
/-! ### arguments with bounded numbers -/
inductive PlI (B : Int) : Nat → D → Prop
  | non {n : Nat} : PlI B n .non
  | bl {n : Nat} {b : Bool} : PlI B n (.bl b)
  | int {n : Nat} {i : Int} (h1 : -B ≤ i) (h2 : i ≤ B) : PlI B n (.int i)
  | str {n : Nat} {s : Str} : PlI B n (.str s)
  | tup {n : Nat} {ds : List D} (h : ∀ d ∈ ds, PlI B n d) (hl : (ds.length : Int) * 50000 ≤ B) : PlI B (n + 1) (.tup ds)
theorem PlI.pl {B : Int} {n : Nat} {d : D} (h : PlI B n d) (hB : B ≤ 10000000000) : Pl n d := by
  induction h with
  | non => exact .non
  | bl => exact .bl
  | int => exact .int
  | str => exact .str
  | tup h hl ih => exact .tup ih (by omega)
theorem PlI.mono {B C : Int} {n m : Nat} {d : D} (h : PlI B n d) (hB : B ≤ C) (hm : n ≤ m) : PlI C m d := by
  induction h generalizing m with
  | non => exact .non
  | bl => exact .bl
  | int h1 h2 => exact .int (by omega) (by omega)
  | str => exact .str
  | tup h hl ih =>
    obtain ⟨m, rfl⟩ : ∃ j, m = j + 1 := ⟨m - 1, by omega⟩
    exact .tup (fun d hd => ih d hd (by omega)) (by omega)
mutual
def plI (B : Int) : Nat → D → Bool
  | _, .non => true
  | _, .bl _ => true
  | _, .int i => decide (-B ≤ i ∧ i ≤ B)
  | _, .str _ => true
  | n + 1, .tup ds => plIs B n ds && decide ((ds.length : Int) * 50000 ≤ B)
  | _, _ => false
def plIs (B : Int) : Nat → List D → Bool
  | _, [] => true
  | n, d :: ds => plI B n d && plIs B n ds
end
mutual
theorem plI_ok {B : Int} : ∀ {n : Nat} {d : D}, plI B n d = true → PlI B n d
  | _, .non, _ => .non
  | _, .bl _, _ => .bl
  | _, .int _, h => by
    simp only [plI, decide_eq_true_eq] at h
    exact .int h.1 h.2
  | _, .str _, _ => .str
  | n + 1, .tup ds, h => by
    simp only [plI, Bool.and_eq_true, decide_eq_true_eq] at h
    exact .tup (plIs_ok h.1) h.2
  | 0, .tup ds, h => by simp [plI] at h
  | _, .lst _, h => by simp [plI] at h
  | _, .flst _, h => by simp [plI] at h
  | _, .loc _, h => by simp [plI] at h
  | _, .fn _, h => by simp [plI] at h
  | _, .exc _ _, h => by simp [plI] at h
theorem plIs_ok {B : Int} : ∀ {n : Nat} {ds : List D}, plIs B n ds = true → ∀ d ∈ ds, PlI B n d
  | _, [], _ => fun d hd => nomatch hd
  | n, d :: ds, h => by
    simp only [plIs, Bool.and_eq_true] at h
    have h1 : PlI B n d := plI_ok h.1
    have h2 := plIs_ok h.2
    intro x hx
    rcases List.mem_cons.mp hx with e | hx
    · rw [e]; exact h1
    · exact h2 x hx
end
theorem cut_mid {xs : List D} {a b : Int} (h0 : 0 ≤ a) (h1 : a ≤ b) (hb : b ≤ xs.length) : cutD xs (some a) (some b) = (xs.drop a.toNat).take (b.toNat - a.toNat) := by
  unfold cutD
  simp only [HT.sIx]
  rw [if_neg (by omega), if_neg (by omega), Nat.min_eq_left (by omega), Nat.min_eq_left (by omega)]
/-! ### a walk that may end by anything -/
section
variable {G : Bool → Ctx} {env : Env} {S : Store} {tg as : E} {b p : C} {kk : Ik} {α : Type} {emb : α → D} {gs : List Guard} {ds : List D}
def leaves : F → Prop
  | .rt _ => True
  | .ex _ _ _ => True
  | _ => False
theorem forL_out {F' : D → Env → Store → P} (I : List α → Env → Store → Prop) (O : F → Store → Prop) (hg : ∀ pre env S, I pre env S → ∀ q ∈ gs, okG q S) : ∀ (post pre : List α) {env : Env} {S : Store},
    (∀ p x r env S, pre ++ post = p ++ x :: r → I p env S → (∃ env' S', (F' (emb x) env S = some (.nx env', S') ∨ F' (emb x) env S = some (.ct env', S')) ∧ I (p ++ [x]) env' S') ∨ ∃ o S', F' (emb x) env S = some (o, S') ∧ leaves o ∧ O o S') → I pre env S →
    (∃ env' S', forL gs F' (post.map emb) env S = some (.nx env', S') ∧ I (pre ++ post) env' S') ∨ ∃ o S', forL gs F' (post.map emb) env S = some (o, S') ∧ leaves o ∧ O o S'
  | [], pre, env, S, _, h => .inl ⟨env, S, by rw [List.map_nil]; unfold forL; rw [if_pos (hg _ _ _ h)], by rw [List.append_nil]; exact h⟩
  | x :: post, pre, env, S, hs, h => by
    have a : pre ++ [x] ++ post = pre ++ x :: post := by simp
    rcases hs pre x post env S rfl h with ⟨env1, S1, e1, h1⟩ | ⟨o, S', e1, h0, h1⟩
    · rcases forL_out I O hg post (pre ++ [x]) (fun p y r env S he => hs p y r env S (by rw [← he, a])) h1 with ⟨env2, S2, e2, h2⟩ | ⟨o, S', e2, h2⟩
      · refine .inl ⟨env2, S2, ?_, by rw [← a]; exact h2⟩
        rw [List.map_cons]
        unfold forL
        rw [if_pos (hg _ _ _ h)]
        rcases e1 with e1 | e1 <;> rw [e1] <;> exact e2
      · refine .inr ⟨o, S', ?_, h2⟩
        rw [List.map_cons]
        unfold forL
        rw [if_pos (hg _ _ _ h)]
        rcases e1 with e1 | e1 <;> rw [e1] <;> exact e2
    · refine .inr ⟨o, S', ?_, h0, h1⟩
      rw [List.map_cons]
      unfold forL
      rw [if_pos (hg _ _ _ h), e1]
      cases o <;> first | rfl | exact h0.elim
theorem for_out (hp : p = .forr tg kk as b) (I : List α → Env → Store → Prop) (O : F → Store → Prop) (xs : List α) (h0 : I [] env S) (ha : ev (G false) as env S = some (.ok (.tup ds) S)) (hi : iterS kk ds S = some (xs.map emb, gs)) (hg : ∀ pre env S, I pre env S → ∀ q ∈ gs, okG q S)
    (hs : ∀ p x r env S, xs = p ++ x :: r → I p env S → (∃ env' S', (turnL G tg b (emb x) env S = some (.nx env', S') ∨ turnL G tg b (emb x) env S = some (.ct env', S')) ∧ I (p ++ [x]) env' S') ∨ ∃ o S', turnL G tg b (emb x) env S = some (o, S') ∧ leaves o ∧ O o S') :
    (∃ env' S', exec G p false env S = some (.nx env', S') ∧ I xs env' S') ∨ ∃ o S', exec G p false env S = some (o, S') ∧ leaves o ∧ O o S' := by
  subst hp
  rw [c_for, ha]
  simp only [wE_ok, tups_tup, Option.bind_some, hi, obnd_some]
  exact forL_out I O hg xs [] (fun p x r env S he => hs p x r env S (by simpa using he)) h0
end
/-! ### defs run where an exception is handled -/
theorem Is.runH {T : List Fn} {i p n : Nat} {b : C} (h : Is T i p n b) {ds : List D} (hl : ds.length = p) (k : Nat) (S : Store) : J.run T (k + 1) true i ds S = done (exec (fun h' => ⟨h', J.run T k h'⟩) b true (ds.map some ++ List.replicate (n - ds.length) none) S) := by
  obtain ⟨f, h1, h2, h3, h4, h5⟩ := h
  have e : fill f ds = ds := by unfold fill; rw [h2]; simp
  have e2 : (fill f ds).length = f.ps.length := by rw [e, hl, h3]
  simp only [J.run, h1]
  rw [if_pos e2, e, h5]
  unfold startE
  rw [h4]
  cases exec (fun h' => ⟨h', J.run T k h'⟩) b true (ds.map some ++ List.replicate (n - ds.length) none) S with
  | none => rfl
  | some q =>
    obtain ⟨f, S'⟩ := q
    cases f <;> rfl
end J
/-! A10: arguments with bounded numbers and bounded lengths -/
namespace J
open PySem L2
inductive PlL (B : Int) (L : Nat) : Nat → D → Prop
  | non {n : Nat} : PlL B L n .non
  | bl {n : Nat} {b : Bool} : PlL B L n (.bl b)
  | int {n : Nat} {i : Int} (h1 : -B ≤ i) (h2 : i ≤ B) : PlL B L n (.int i)
  | str {n : Nat} {s : Str} : PlL B L n (.str s)
  | tup {n : Nat} {ds : List D} (h : ∀ d ∈ ds, PlL B L n d) (hl : ds.length ≤ L) : PlL B L (n + 1) (.tup ds)
section
variable {B C : Int} {L M : Nat}
theorem PlL.pl {n : Nat} {d : D} (h : PlL B L n d) (hL : L < 1000000) : Pl n d := by
  induction h with
  | non => exact .non
  | bl => exact .bl
  | int => exact .int
  | str => exact .str
  | tup h hl ih => exact .tup ih (by omega)
theorem PlL.mono {n m : Nat} {d : D} (h : PlL B L n d) (hB : B ≤ C) (hL : L ≤ M) (hm : n ≤ m) : PlL C M m d := by
  induction h generalizing m with
  | non => exact .non
  | bl => exact .bl
  | int h1 h2 => exact .int (by omega) (by omega)
  | str => exact .str
  | tup h hl ih =>
    obtain ⟨m, rfl⟩ : ∃ j, m = j + 1 := ⟨m - 1, by omega⟩
    exact .tup (fun d hd => ih d hd (by omega)) (by omega)
theorem PlL.int' {n : Nat} {i : Int} (h : PlL B L n (.int i)) : -B ≤ i ∧ i ≤ B := by cases h; exact ⟨by assumption, by assumption⟩
theorem PlL.ch {n : Nat} {ds : List D} (h : PlL B L n (.tup ds)) : ∃ m, n = m + 1 ∧ (∀ d ∈ ds, PlL B L m d) ∧ ds.length ≤ L := by cases h with | tup h hl => exact ⟨_, rfl, h, hl⟩
mutual
def plL (B : Int) (L : Nat) : Nat → D → Bool
  | _, .non => true
  | _, .bl _ => true
  | _, .int i => decide (-B ≤ i ∧ i ≤ B)
  | _, .str _ => true
  | n + 1, .tup ds => plLs B L n ds && decide (ds.length ≤ L)
  | _, _ => false
def plLs (B : Int) (L : Nat) : Nat → List D → Bool
  | _, [] => true
  | n, d :: ds => plL B L n d && plLs B L n ds
end
mutual
theorem plL_ok : ∀ {n : Nat} {d : D}, plL B L n d = true → PlL B L n d
  | _, .non, _ => .non
  | _, .bl _, _ => .bl
  | _, .int _, h => by
    simp only [plL, decide_eq_true_eq] at h
    exact .int h.1 h.2
  | _, .str _, _ => .str
  | n + 1, .tup ds, h => by
    simp only [plL, Bool.and_eq_true, decide_eq_true_eq] at h
    exact .tup (plLs_ok h.1) h.2
  | 0, .tup ds, h => by simp [plL] at h
  | _, .lst _, h => by simp [plL] at h
  | _, .flst _, h => by simp [plL] at h
  | _, .loc _, h => by simp [plL] at h
  | _, .fn _, h => by simp [plL] at h
  | _, .exc _ _, h => by simp [plL] at h
theorem plLs_ok : ∀ {n : Nat} {ds : List D}, plLs B L n ds = true → ∀ d ∈ ds, PlL B L n d
  | _, [], _ => fun d hd => nomatch hd
  | n, d :: ds, h => by
    simp only [plLs, Bool.and_eq_true] at h
    have h1 : PlL B L n d := plL_ok h.1
    have h2 := plLs_ok h.2
    intro x hx
    rcases List.mem_cons.mp hx with e | hx
    · rw [e]; exact h1
    · exact h2 x hx
end
end
section
variable {α : Type} {a b c d e f g h i j : α} {l : List α}
@[simp] theorem at_6 : atI (a :: b :: c :: d :: e :: f :: g :: l) 6 = some g := by simp only [atI, ixN, List.length_cons]; rw [if_pos (by omega), if_pos (by omega)]; rfl
@[simp] theorem at_7 : atI (a :: b :: c :: d :: e :: f :: g :: h :: l) 7 = some h := by simp only [atI, ixN, List.length_cons]; rw [if_pos (by omega), if_pos (by omega)]; rfl
@[simp] theorem at_8 : atI (a :: b :: c :: d :: e :: f :: g :: h :: i :: l) 8 = some i := by simp only [atI, ixN, List.length_cons]; rw [if_pos (by omega), if_pos (by omega)]; rfl
@[simp] theorem at_9 : atI (a :: b :: c :: d :: e :: f :: g :: h :: i :: j :: l) 9 = some j := by simp only [atI, ixN, List.length_cons]; rw [if_pos (by omega), if_pos (by omega)]; rfl
end
@[simp] theorem isl_l {ds : List D} {S : Store} : isiS (.lst ds) .list S = some true := Eq.trans rfl rfl
@[simp] theorem isl_s {s : Str} {S : Store} : isiS (.str s) .list S = some false := Eq.trans rfl rfl
@[simp] theorem iss_l {ds : List D} {S : Store} : isiS (.lst ds) .str S = some false := Eq.trans rfl rfl
@[simp] theorem iss_s {s : Str} {S : Store} : isiS (.str s) .str S = some true := Eq.trans rfl rfl
theorem allB {α : Type} {l : List α} {f : α → Bool} (S : Store) : primS .all [.lst (l.map fun d => .bl (f d))] S = some (.bl (l.all f)) := by simp
theorem str_add {a s : Str} (S : Store) (h : s.length ≤ 1000) (ha : a.length ≤ 1000) : binS .add (.str a) (.str s) S = some (.str (a ++ s)) := by
  have : binS .add (.str a) (.str s) S = if a.length + s.length ≤ sizeLine then some (.str (a ++ s)) else none := rfl
  rw [this, if_pos (by rw [sizeLine_eq]; omega)]
theorem eqD_ss {a b : Str} (ha : PyData.strOk a = true) (hb : PyData.strOk b = true) : eqD (.str a) (.str b) = some (a == b) := by
  have hs : ∀ s : Str, PyData.strOk s = true → SeqAt.shaped (.str s) = true := fun s h => by
    show (PyData.strOk s && decide (0 ≤ 64)) = true
    rw [h]
    rfl
  simp only [eqD, toPy]
  rw [if_pos ⟨hs a ha, hs b hb⟩]
  simp [PyData.eqv]
theorem ne_ss {a b : Str} (ha : PyData.strOk a = true) (hb : PyData.strOk b = true) (S : Store) : cmpS .ne (.str a) (.str b) S = some (!(a == b)) := by
  have r1 : ∀ s, res S (.str s) = some (.str s) := fun _ => rfl
  simp only [cmpS, r1, cmpD, eqD_ss ha hb]
  rfl
section
variable {G : Bool → Ctx} {env : Env} {S S1 : Store} {tg as : E} {b p : C} {kk : Ik} {α : Type} {emb : α → D} {gs : List Guard} {ds : List D}
/-- as for_inv; what is walked over may change the store first -/
theorem for_invS (hp : p = .forr tg kk as b) (I : List α → Env → Store → Prop) (xs : List α) (ha : ev (G false) as env S = some (.ok (.tup ds) S1)) (h0 : I [] env S1) (hi : iterS kk ds S1 = some (xs.map emb, gs)) (hg : ∀ pre env S, I pre env S → ∀ q ∈ gs, okG q S)
    (hs : ∀ p x r env S, xs = p ++ x :: r → I p env S → ∃ env' S', (turnL G tg b (emb x) env S = some (.nx env', S') ∨ turnL G tg b (emb x) env S = some (.ct env', S')) ∧ I (p ++ [x]) env' S') :
    ∃ env' S', exec G p false env S = some (.nx env', S') ∧ I xs env' S' := by
  subst hp
  rw [c_for, ha]
  simp only [wE_ok, tups_tup, Option.bind_some, hi, obnd_some]
  exact forL_inv I hg xs [] (fun p x r env S he => hs p x r env S (by simpa using he)) h0
end
end J
/-! A11: sizes of quotients under the four operations; rows of quotients as numbers told by their place -/
namespace J
open PySem L2
theorem ft_fr' {z d : Int} {n m : Nat} (hd : 0 < d) (h1 : z.natAbs < 2 ^ n) (h2 : d.natAbs < 2 ^ n) : Ft n (fr z d) := by
  obtain ⟨e1, e2⟩ := quo_gcd (u := z) hd
  obtain ⟨g0, _⟩ := gcd_lt (u := z) hd h2
  constructor
  · rw [← e1]
    refine Nat.lt_of_le_of_lt ?_ h1
    have hdv : ((Int.gcd z d : Nat) : Int) ∣ z := Int.gcd_dvd_left ..
    rw [Int.fdiv_eq_ediv_of_nonneg _ (by omega), Int.natAbs_ediv_of_dvd hdv]
    exact Nat.div_le_self ..
  · have : (fr z d).den = (d.fdiv (Int.gcd z d : Nat)).natAbs := by rw [e2]; rfl
    rw [this]
    refine Nat.lt_of_le_of_lt ?_ h2
    have hdv : ((Int.gcd z d : Nat) : Int) ∣ d := Int.gcd_dvd_right ..
    rw [Int.fdiv_eq_ediv_of_nonneg _ (by omega), Int.natAbs_ediv_of_dvd hdv]
    exact Nat.div_le_self ..
section
variable {n m : Nat} {a b : Rat}
theorem den_lt {n : Nat} {a : Rat} (h : Ft n a) : ((a.den : Int)).natAbs < 2 ^ n := by simpa using h.2
theorem dd_pos : (0 : Int) < (a.den : Int) * b.den := Int.mul_pos (by have := a.den_pos; omega) (by have := b.den_pos; omega)
theorem Ft.mul (ha : Ft n a) (hb : Ft m b) : Ft (n + m) (a * b) := by
  rw [← fr_mul]
  exact ft_fr' (m := 0) dd_pos (natAbs_mul_lt ha.1 hb.1) (natAbs_mul_lt (den_lt ha) (den_lt hb))
theorem Ft.neg (ha : Ft n a) : Ft n (-a) := by
  obtain ⟨h1, h2⟩ := ha
  exact ⟨by simpa using h1, by simpa using h2⟩
theorem add_lt' {x y : Int} {k : Nat} (hx : x.natAbs < 2 ^ k) (hy : y.natAbs < 2 ^ k) : (x + y).natAbs < 2 ^ (k + 1) := by
  rw [Nat.pow_succ]
  generalize (2 : Nat) ^ k = M at *
  omega
theorem up_lt {x : Int} {i j : Nat} (h : x.natAbs < 2 ^ i) (hij : i ≤ j) : x.natAbs < 2 ^ j := Nat.lt_of_lt_of_le h (Nat.pow_le_pow_right (by decide) hij)
theorem Ft.add (ha : Ft n a) (hb : Ft m b) : Ft (n + m + 1) (a + b) := by
  rw [← fr_add]
  refine ft_fr' (m := 0) dd_pos (add_lt' (natAbs_mul_lt ha.1 (den_lt hb)) ?_) (up_lt (natAbs_mul_lt (den_lt ha) (den_lt hb)) (by omega))
  have := natAbs_mul_lt hb.1 (den_lt ha)
  rwa [Nat.add_comm] at this
theorem Ft.sub (ha : Ft n a) (hb : Ft m b) : Ft (n + m + 1) (a - b) := by
  rw [Rat.sub_eq_add_neg]
  exact ha.add hb.neg
theorem Ft.div (ha : Ft n a) (hb : Ft m b) (h : 0 < b) : Ft (n + m) (a / b) := by
  have hb0 : b.num ≠ 0 := fun e => by
    have := Rat.num_eq_zero.mp e
    rw [this] at h
    exact absurd h (by decide)
  have hp : 0 < b.num := by
    have h1 : 0 ≤ b.num := Rat.num_nonneg.mpr (Rat.le_of_lt h)
    omega
  rw [← fr_div a b hb0]
  exact ft_fr' (m := 0) (Int.mul_pos (by have := a.den_pos; omega) hp) (natAbs_mul_lt ha.1 (den_lt hb)) (natAbs_mul_lt (den_lt ha) hb.1)
theorem ft_one : Ft 1 1 := ⟨by decide, by decide⟩
theorem ft_zero : Ft 1 0 := ⟨by decide, by decide⟩
end
/-! ### lists and their places -/
/-- rd is, or is the place of, the list ds -/
def Holds (S : Store) (rd : D) (ds : List D) : Prop := rd = .lst ds ∨ ∃ l, rd = .loc l ∧ S[l]? = some (.lst ds) ∧ l < S.length
section
variable {S T : Store} {rd : D} {ds : List D}
theorem Holds.items (h : Holds S rd ds) : itemsS rd S = some ds := by
  rcases h with rfl | ⟨l, rfl, e, _⟩
  · rfl
  · simp [itemsS, e]
theorem Holds.mono (h : Holds S rd ds) : Holds (S ++ T) rd ds := by
  rcases h with h | ⟨l, h, e, hl⟩
  · exact .inl h
  · exact .inr ⟨l, h, by rw [List.getElem?_append_left hl]; exact e, by simp; omega⟩
theorem Holds.guard {S' : Store} (h : Holds S rd ds) (h' : Holds S' rd ds) : ∀ q ∈ [guardOf rd S], okG q S' := by
  intro q hq
  rw [List.mem_singleton] at hq
  subst hq
  rcases h with rfl | ⟨l, rfl, e, _⟩
  · trivial
  · rcases h' with h' | ⟨l', h', e', _⟩
    · cases h'
    · cases h'
      simp [guardOf, e, okG, e']
theorem Holds.enu (h : Holds S rd ds) : iterS .enu [rd] S = some (enuL 0 ds, [guardOf rd S]) := by
  simp only [iterS, h.items]
theorem Holds.val (h : Holds S rd ds) : iterS .val [rd] S = some (ds, [guardOf rd S]) := by
  simp only [iterS, h.items]
theorem Holds.idx (h : Holds S rd ds) (i : Int) : idxS rd (.int i) S = atI ds i := by
  rcases h with rfl | ⟨l, rfl, e, _⟩
  · rfl
  · simp [idxS, e]
theorem Holds.len (h : Holds S rd ds) : primS .len [rd] S = some (.int ds.length) := by
  rcases h with rfl | ⟨l, rfl, e, _⟩
  · rfl
  · simp [primS, e]
theorem Holds.tup (h : Holds S rd ds) : primS .tuple [rd] S = some (.tup ds) := by
  rcases h with rfl | ⟨l, rfl, e, _⟩
  · simp [primS, itemsS]
  · simp [primS, itemsS, e]
theorem frzO_holds (h : Holds (S ++ T) rd ds) (hl : ∀ l, rd = .loc l → S.length ≤ l) (hc : ∀ d ∈ ds, Cl S.length d) : frzO S (some (.ok rd (S ++ T))) = some (.ok (.lst ds) S) := by
  rcases h with rfl | ⟨l, rfl, e, _⟩
  · exact frzO_app (by simpa using hc)
  · have hl := hl l rfl
    have e0 : ∀ k d, Cl S.length d → snap (S ++ T) S.length k d = some d := fun k d hd => by
      cases k <;> (unfold snap; rw [if_pos hd])
    have e1 : ds.mapM (snap (S ++ T) S.length 2) = some ds := by
      have : ∀ es : List D, (∀ d ∈ es, Cl S.length d) → es.mapM (snap (S ++ T) S.length 2) = some es := by
        intro es
        induction es with
        | nil => intro _; rfl
        | cons d es ih =>
          intro he
          rw [List.mapM_cons, e0 2 d (he d (List.mem_cons_self ..)), ih fun x hx => he x (List.mem_cons_of_mem _ hx)]
          rfl
      exact this ds hc
    have e2 : snap (S ++ T) S.length 3 (.loc l) = some (.lst ds) := by
      unfold snap
      rw [if_neg (by simp; omega)]
      simp only [e, e1]
    simp only [frzO, frz]
    rw [if_pos (by simp), e2]
theorem Holds.last : Holds (S ++ [.lst ds]) (.loc S.length) ds := .inr ⟨_, rfl, by simp, by simp⟩
theorem set_last {i : Int} {v : D} (h0 : 0 ≤ i) (h1 : i < ds.length) : setS (.loc S.length) (.int i) v (S ++ [.lst ds]) = some (S ++ [.lst (ds.set i.toNat v)]) := by
  have : ixN ds.length i = some i.toNat := by
    unfold ixN
    rw [if_pos (by omega), if_pos (by omega)]
  simp [setS, this]
theorem idx_last {i : Int} : idxS (.loc S.length) (.int i) (S ++ [.lst ds]) = atI ds i := by simp [idxS]
theorem set_range {α : Type} {n i : Nat} {f : Nat → α} {v : α} : ((List.range n).map f).set i v = (List.range n).map fun j => if j = i then v else f j := by
  apply List.ext_getElem
  · simp
  · intro j h1 h2
    simp [List.getElem_set]
    by_cases c : i = j
    · subst c; simp
    · have : ¬ j = i := fun e => c e.symm
      simp [c, this]
end
theorem idx_neg1 {i : Nat} {f : Nat → D} : atI ((List.range (i + 1)).map f) (-1) = some (f i) := by
  have : atI ((List.range (i + 1)).map f) (-1) = ((List.range (i + 1)).map f)[i]? := by
    unfold atI ixN
    rw [if_neg (by omega), if_pos (by simp; omega)]
    have : (-1 + ((List.map f (List.range (i + 1))).length : Int)).toNat = i := by simp; omega
    simp only [Option.bind_some, this]
  rw [this]
  simp
end J
/-! A12: the laws' own quotients, bent values, picks: for any table -/
namespace J
open PySem L2
theorem one_q : D.tup [.int 1, .int 1] = qD 1 := rfl
theorem zero_q : D.tup [.int 0, .int 1] = qD 0 := rfl
theorem int_q (i : Int) : D.tup [.int i, .int 1] = qD (i : Rat) := rfl
/-- a tuple of quotients -/
abbrev tQ (ws : List Rat) : D := .tup (ws.map qD)
@[simp] theorem isi_ns {S : Store} : isiS .non .str S = some false := Eq.trans rfl rfl
@[simp] theorem isi_is {S : Store} {i : Int} : isiS (.int i) .str S = some false := Eq.trans rfl rfl
@[simp] theorem isi_bs {S : Store} {b : Bool} : isiS (.bl b) .str S = some false := Eq.trans rfl rfl
@[simp] theorem isi_ts {S : Store} {ds : List D} : isiS (.tup ds) .str S = some false := Eq.trans rfl rfl
/-! ### equality -/
theorem eqD_bb (a b : Bool) : eqD (.bl a) (.bl b) = some (a == b) := by
  simp only [eqD, toPy]
  have h1 : SeqAt.shaped (.bool a) = true := rfl
  have h2 : SeqAt.shaped (.bool b) = true := rfl
  rw [if_pos ⟨h1, h2⟩]
  cases a <;> cases b <;> rfl
@[simp] theorem cmp_eqb (a b : Bool) (S : Store) : cmpS .eq (.bl a) (.bl b) S = some (a == b) := by simp only [cmpS, res, cmpD, eqD_bb]
theorem nes {s : Str} (h : PyData.strOk s = true) (S : Store) : cmpS .ne (.str s) (.str s) S = some false := by
  rw [ne_ss h h]
  simp
theorem eqs {s : Str} (h : PyData.strOk s = true) (S : Store) : cmpS .eq (.str s) (.str s) S = some true := by
  have e : cmpS .eq (.str s) (.str s) S = eqD (.str s) (.str s) := rfl
  rw [e, eqD_str s h]
theorem Nc.cmpNe {k n : Nat} {d : D} (h : Nc k n d) (hk : k ≤ 60) (S : Store) : cmpS .ne d d S = some false := by
  simp only [cmpS, h.res S, cmpD, h.eq hk]
  rfl
theorem eqD_two (a b c e : Int) : eqD (.tup [.int a, .int b]) (.tup [.int c, .int e]) = some (decide (a = c) && decide (b = e)) := by
  have s : ∀ x y : Int, SeqAt.shaped (.tuple [.int x, .int y]) = true := fun x y => rfl
  simp only [eqD, toPy, toPys]
  simp only [s]
  simp
  show (decide (a = c) && (decide (b = e) && true)) = _
  simp
open Classical in
theorem q_eqD (a b : Rat) : eqD (.tup [.int a.num, .int (a.den : Int)]) (.tup [.int b.num, .int (b.den : Int)]) = some (decide (a = b)) := by
  rw [eqD_two, ← Bool.decide_and]
  congr 1
  refine decide_eq_decide.mpr ⟨fun ⟨h1, h2⟩ => Rat.ext h1 (by omega), fun h => by rw [h]; exact ⟨rfl, rfl⟩⟩
open Classical in
theorem q_ne (a b : Rat) (S : Store) : cmpS .ne (qD a) (qD b) S = some (!decide (a = b)) := by
  have r1 : ∀ x y : Int, res S (D.tup [.int x, .int y]) = some (D.tup [.int x, .int y]) := fun _ _ => rfl
  simp only [cmpS, qD, r1, cmpD, q_eqD]
  rfl
open Classical in
theorem q_eq (a b : Rat) (S : Store) : cmpS .eq (qD a) (qD b) S = some (decide (a = b)) := by
  have r1 : ∀ x y : Int, res S (D.tup [.int x, .int y]) = some (D.tup [.int x, .int y]) := fun _ _ => rfl
  simp only [cmpS, qD, r1, cmpD, q_eqD]
theorem in_two (a b c : Int) (S : Store) : cmpS .isin (.int a) (.tup [.int b, .int c]) S = some (decide (b = a) || decide (c = a)) := by
  have h1 : SeqAt.shaped (.int a) = true := rfl
  have h2 : SeqAt.shaped (.list [.int b, .int c]) = true := rfl
  have e : cmpS .isin (.int a) (.tup [.int b, .int c]) S = inD (.int a) [.int b, .int c] := rfl
  rw [e]
  simp only [inD, toPys, toPy]
  rw [if_pos ⟨h1, h2⟩]
  have q : ∀ y : Int, PyData.eqv (.int y) (.int a) = decide (y = a) := fun y => by by_cases c : y = a <;> simp [PyData.eqv, c]
  simp [q]
/-- a text in two texts -/
theorem in_strs {a b c : Str} (ha : PyData.strOk a = true) (hb : PyData.strOk b = true) (hc : PyData.strOk c = true) (S : Store) : cmpS .nin (.str a) (.tup [.str b, .str c]) S = some (!(b == a || c == a)) ∧ cmpS .isin (.str a) (.tup [.str b, .str c]) S = some (b == a || c == a) := by
  have sh : ∀ s : Str, PyData.strOk s = true → SeqAt.shaped (.str s) = true := fun s h => by
    show (PyData.strOk s && decide (0 ≤ 64)) = true
    rw [h]
    rfl
  have h2 : SeqAt.shaped (.list [.str b, .str c]) = true := by
    show (PyData.canLay0 (.list [.str b, .str c]) && decide _) = true
    have : PyData.canLay0 (.list [.str b, .str c]) = true := by
      simp [PyData.canLay0, PyData.canLayAll0, hb, hc]
    rw [this]
    rfl
  have e : inD (.str a) [.str b, .str c] = some (b == a || c == a) := by
    simp only [inD, toPys, toPy]
    rw [if_pos ⟨sh a ha, h2⟩]
    simp [PyData.eqv]
  have e1 : cmpS .isin (.str a) (.tup [.str b, .str c]) S = inD (.str a) [.str b, .str c] := rfl
  have e2 : cmpS .nin (.str a) (.tup [.str b, .str c]) S = (inD (.str a) [.str b, .str c]).map (!·) := rfl
  rw [e1, e2, e]
  exact ⟨rfl, rfl⟩
/-! ### while -/
theorem whl_t {c : Env → M D} {b : Env → Store → P} {env env' : Env} {S S' : Store} (h1 : c env S = some (.ok (.bl true) S)) (h2 : b env S = some (.nx env', S')) : whlL c b env S = whlL c b env' S' := by
  rw [whlL]
  simp [h1, h2]
theorem whl_f {c : Env → M D} {b : Env → Store → P} {env : Env} {S : Store} (h1 : c env S = some (.ok (.bl false) S)) : whlL c b env S = some (.nx env, S) := by
  rw [whlL]
  simp [h1]
/-! ### fractions -/
theorem fr_g {x d : Int} (hd : 0 < d) : ∃ G : Int, 0 < G ∧ (fr x d).num * G = x ∧ ((fr x d).den : Int) * G = d := by
  obtain ⟨a, b⟩ := quo_gcd (u := x) hd
  have g : 0 < (Int.gcd x d : Int) := by
    have := Int.gcd_pos_of_ne_zero_right x (show d ≠ 0 by omega)
    omega
  have d1 : (Int.gcd x d : Int) ∣ x := Int.gcd_dvd_left ..
  have d2 : (Int.gcd x d : Int) ∣ d := Int.gcd_dvd_right ..
  refine ⟨Int.gcd x d, g, ?_, ?_⟩
  · rw [← a, Int.fdiv_eq_ediv_of_dvd d1]
    exact Int.ediv_mul_cancel d1
  · rw [← b, Int.fdiv_eq_ediv_of_dvd d2]
    exact Int.ediv_mul_cancel d2
theorem fr_den {x d : Int} (hd : 0 < d) : ((fr x d).den : Int) ≤ d := by
  obtain ⟨G, g, _, e2⟩ := fr_g (x := x) hd
  have : ((fr x d).den : Int) * 1 ≤ ((fr x d).den : Int) * G := Int.mul_le_mul_of_nonneg_left (by omega) (by omega)
  omega
theorem fr_num_le {x d : Int} (hx : 0 ≤ x) (hd : 0 < d) : 0 ≤ (fr x d).num ∧ (fr x d).num ≤ x := by
  obtain ⟨G, g, e1, e2⟩ := fr_g (x := x) hd
  have h0 : 0 ≤ (fr x d).num := by
    refine Int.not_lt.mp fun h => ?_
    have := Int.mul_neg_of_neg_of_pos h g
    omega
  refine ⟨h0, ?_⟩
  have : (fr x d).num * 1 ≤ (fr x d).num * G := Int.mul_le_mul_of_nonneg_left (by omega) h0
  omega
theorem fr_num_pos {x d : Int} (hx : 0 < x) (hd : 0 < d) : 0 < (fr x d).num := by
  obtain ⟨G, g, e1, e2⟩ := fr_g (x := x) hd
  exact Int.pos_of_mul_pos_left (by omega) g
/-- a written quotient -/
theorem lit_q {x d : Int} (hd : 0 < d) (hg : Int.gcd x d = 1) : D.tup [.int x, .int d] = qD (fr x d) := by
  obtain ⟨a, b⟩ := quo_gcd (u := x) hd
  rw [hg] at a b
  have h1 : x.fdiv ((1 : Nat) : Int) = x := by simp
  have h2 : d.fdiv ((1 : Nat) : Int) = d := by simp
  rw [h1] at a
  rw [h2] at b
  rw [qD, ← a, ← b]
/-! ### draws -/
section
variable {T : List Fn} {i : Nat}
theorem drwT (h : Is T i 2 3 drawB) (k : Nat) (σ : LS) (rest : Store) (m : Int) (h0 : 0 < m) (h1 : m < 1000000000) : ∃ (v : Int) (σ' : LS), 0 ≤ v ∧ v < m ∧ run T (k + 1) false i [.loc 0, .int m] (st σ :: rest) = some (.ok (.int v) (st σ' :: rest)) :=
  ⟨_, _, dv_lo h0, dv_hi h0, r_draw h k σ rest m h0 (by omega)⟩
theorem at_mem {ds : List D} {v : Int} (h0 : 0 ≤ v) (h1 : v < ds.length) : ∃ x, x ∈ ds ∧ atI ds v = some x := by
  obtain ⟨x, e, hx⟩ := ex_get (xs := ds) h0 h1
  refine ⟨x, hx, ?_⟩
  have := atI_map (f := id) (xs := ds) h0 e
  simpa using this
/-- a draw that picks out of a list -/
theorem pickT (h : Is T i 2 3 drawB) (k : Nat) (σ : LS) (rest : Store) (ds : List D) {m : Int} (hm : m = ds.length) (h0 : 0 < m) (h1 : m < 1000000) : ∃ (v : Int) (σ' : LS) (x : D), x ∈ ds ∧ atI ds v = some x ∧ run T (k + 1) false i [.loc 0, .int m] (st σ :: rest) = some (.ok (.int v) (st σ' :: rest)) := by
  obtain ⟨v, σ', a, b, e⟩ := drwT h k σ rest m h0 (by omega)
  obtain ⟨x, hx, q⟩ := at_mem (ds := ds) a (by omega)
  exact ⟨v, σ', x, hx, q, e⟩
end
/-! ### places behind the state -/
section
variable {rest : Store} {σ : LS} {vs : List D}
theorem app_pl {x : D} (h : vs.length < 1000000) : appS (.loc (rest.length + 1)) x (st σ :: (rest ++ [.lst vs])) = some (st σ :: (rest ++ [.lst (vs ++ [x])])) := by
  have e := app_last (S := st σ :: rest) (ds := vs) (x := x) h
  simpa using e
theorem isLoc_pl : isLoc (.loc (rest.length + 1)) (st σ :: (rest ++ [.lst vs])) = true := by simp [isLoc]
theorem tup_pl : primS .tuple [.loc (rest.length + 1)] (st σ :: (rest ++ [.lst vs])) = some (.tup vs) := by simp [primS, itemsS]
theorem at_pl : (st σ :: (rest ++ [Cell.lst vs]))[rest.length + 1]? = some (.lst vs) := by simp
theorem set_pl {i : Int} {v : D} (h0 : 0 ≤ i) (h1 : i < vs.length) : setS (.loc (rest.length + 1)) (.int i) v (st σ :: (rest ++ [.lst vs])) = some (st σ :: (rest ++ [.lst (vs.set i.toNat v)])) := by
  simp only [setS, at_pl]
  have : ixN vs.length i = some i.toNat := by
    unfold ixN
    rw [if_pos (by omega), if_pos (by omega)]
  simp [this]
theorem idx_pl {i : Int} : idxS (.loc (rest.length + 1)) (.int i) (st σ :: (rest ++ [.lst vs])) = atI vs i := by
  simp only [idxS, at_pl]
end
/-! ### the laws' own quotients -/
def ldivW : E := (.cmp .gt (.var 1) (.con (.int 0)))
def ldivA : C := (.seq (.set (.tup (.cons (.var 0) (.cons (.var 1) .nil))) (.tup (.cons (.var 1) (.cons (.bin .mod (.var 0) (.prim .int (.cons (.var 1) .nil))) .nil)))) .nil)
def ldivB : C := (.seq (.whl ldivW ldivA) (.seq (.ret (.var 0)) .nil))
def lquoC (i : Nat) : C := (.seq (.ifs (.cmp .lt (.var 1) (.con (.int 0))) (.seq (.set (.tup (.cons (.var 0) (.cons (.var 1) .nil))) (.tup (.cons (.bin .sub (.con (.int 0)) (.var 0)) (.cons (.bin .sub (.con (.int 0)) (.var 1)) .nil)))) .nil) .nil) (.seq (.set (.var 2) (.call i false (.cons (.prim .abs (.cons (.var 0) .nil)) (.cons (.var 1) .nil)))) (.seq (.ret (.tup (.cons (.bin .fdiv (.var 0) (.var 2)) (.cons (.bin .fdiv (.var 1) (.var 2)) .nil)))) .nil)))
def lminC (p : Nat) : C := (.seq (.ret (.call p false (.cons (.var 0) (.cons (.tup (.cons (.bin .sub (.con (.int 0)) (.idx (.var 1) (.con (.int 0)))) (.cons (.idx (.var 1) (.con (.int 1))) .nil))) .nil)))) .nil)
def lisqC (w d : Nat) : C := (.seq (.ifs (.or (.not (.isi (.var 0) .tuple)) (.or (.cmp .ne (.prim .len (.cons (.var 0) .nil)) (.con (.int 2))) (.or (.not (.call w false (.cons (.idx (.var 0) (.con (.int 0))) .nil))) (.not (.call w false (.cons (.idx (.var 0) (.con (.int 1))) .nil)))))) (.seq (.ret (.con (.bl false))) .nil) .nil) (.seq (.ret (.and (.cmp .ge (.idx (.var 0) (.con (.int 1))) (.con (.int 1))) (.cmp .eq (.call d false (.cons (.prim .abs (.cons (.idx (.var 0) (.con (.int 0))) .nil)) (.cons (.idx (.var 0) (.con (.int 1))) .nil))) (.con (.int 1))))) .nil))
section
variable {T : List Fn} {i j p : Nat} {S : Store} {a b : Rat} {n m : Nat}
theorem rl_div (h : Is T i 2 2 ldivB) (k : Nat) (S : Store) {x y : Int} (hx : 0 ≤ x) (hy : 0 ≤ y) : run T (k + 1) false i [.int x, .int y] S = some (.ok (.int (Int.gcd x y)) S) := by
  rw [h.run rfl]
  have e := whl_gcd (S := S) (mk := fun a b => [some (.int a), some (.int b)]) (c := ev ⟨false, run T k false⟩ ldivW) (b := exec (fun h' => ⟨h', run T k h'⟩) ldivA false)
    (fun x y => by simp [ldivW]) (fun x y h => by
      have : y ≠ 0 := by omega
      simp [ldivA, this]) y.toNat x y hx hy (Nat.le_refl _)
  simp [ldivB, c_whl, e]
theorem rl_quo (h : Is T i 2 2 ldivB) (h2 : Is T j 2 3 (lquoC i)) (k : Nat) (S : Store) {u d : Int} (hd : 0 < d) (hz : d.natAbs < 2 ^ 9000) : run T (k + 2) false j [.int u, .int d] S = some (.ok (qD (fr u d)) S) := by
  rw [h2.run rfl]
  have c1 : ¬ d < 0 := by omega
  obtain ⟨e1, e2⟩ := quo_gcd (u := u) hd
  have g := gcd_lt (u := u) hd hz
  have eg := rl_div h k S (x := if u < 0 then -u else u) (y := d) (by split <;> omega) (by omega)
  rw [gcd_abs] at eg
  have dd : ∀ x, divOk x (Int.gcd u d : Int) := fun x => divOk_small (by omega) g.2
  simp [lquoC, c1, eg, dd, e1, e2, qD]
theorem ql_quo (h : Is T i 2 2 ldivB) (h2 : Is T j 2 3 (lquoC i)) (k : Nat) (S : Store) {u d : Int} (hd : 0 < d) (hz : d ≤ 1000000000000) : frzO S (run T (k + 2) false j [.int u, .int d] S) = some (.ok (qD (fr u d)) S) := by
  have := two64
  exact frz_same (rl_quo h h2 k S hd (by omega)) (by simp [qD])
theorem rl_plus (h : Is T i 2 2 ldivB) (h2 : Is T j 2 3 (lquoC i)) (h3 : Is T p 2 2 (plusB j)) (k : Nat) (S : Store) (ha : Ft n a) (hb : Ft m b) (hs : n + m ≤ 8900) : run T (k + 3) false p [qD a, qD b] S = some (.ok (qD (a + b)) S) := by
  rw [h3.run rfl]
  obtain ⟨m1, m2, m3, m4, m5⟩ := ft_ok ha hb (by omega)
  have e := frz_same (rl_quo h h2 k S (u := a.num * b.den + b.num * a.den) (d := (a.den : Int) * b.den) dd_pos (up_lt (natAbs_mul_lt (den_lt ha) (den_lt hb)) (by omega))) (by simp [qD])
  rw [fr_add] at e
  simp [plusB, idx_q0, idx_q1, m2, m3, m4, e]
theorem rl_times (h : Is T i 2 2 ldivB) (h2 : Is T j 2 3 (lquoC i)) (h3 : Is T p 2 2 (timesB j)) (k : Nat) (S : Store) (ha : Ft n a) (hb : Ft m b) (hs : n + m ≤ 8900) : run T (k + 3) false p [qD a, qD b] S = some (.ok (qD (a * b)) S) := by
  rw [h3.run rfl]
  obtain ⟨m1, m2, m3, m4, m5⟩ := ft_ok ha hb (by omega)
  have e := frz_same (rl_quo h h2 k S (u := a.num * b.num) (d := (a.den : Int) * b.den) dd_pos (up_lt (natAbs_mul_lt (den_lt ha) (den_lt hb)) (by omega))) (by simp [qD])
  rw [fr_mul] at e
  simp [timesB, idx_q0, idx_q1, m1, m4, e]
theorem rl_over (h : Is T i 2 2 ldivB) (h2 : Is T j 2 3 (lquoC i)) (h3 : Is T p 2 2 (overB j)) (k : Nat) (S : Store) (ha : Ft n a) (hb : Ft m b) (hs : n + m ≤ 8900) (h0 : 0 < b) : run T (k + 3) false p [qD a, qD b] S = some (.ok (qD (a / b)) S) := by
  rw [h3.run rfl]
  obtain ⟨m1, m2, m3, m4, m5⟩ := ft_ok ha hb (by omega)
  have hb0 : b.num ≠ 0 := fun e => by
    have := Rat.num_eq_zero.mp e
    rw [this] at h0
    exact absurd h0 (by decide)
  have hp : 0 < b.num := by
    have h1 : 0 ≤ b.num := Rat.num_nonneg.mpr (Rat.le_of_lt h0)
    omega
  have e := frz_same (rl_quo h h2 k S (u := a.num * b.den) (d := (a.den : Int) * b.num) (Int.mul_pos (by have := a.den_pos; omega) hp) (up_lt (natAbs_mul_lt (den_lt ha) hb.1) (by omega))) (by simp [qD])
  rw [fr_div a b hb0] at e
  simp [overB, idx_q0, idx_q1, m2, m5, e]
theorem rl_minus {q : Nat} (h : Is T i 2 2 ldivB) (h2 : Is T j 2 3 (lquoC i)) (h3 : Is T p 2 2 (plusB j)) (h4 : Is T q 2 2 (lminC p)) (k : Nat) (S : Store) (ha : Ft n a) (hb : Ft m b) (hs : n + m ≤ 8900) : run T (k + 4) false q [qD a, qD b] S = some (.ok (qD (a - b)) S) := by
  rw [h4.run rfl]
  have e := frz_same (rl_plus h h2 h3 k S ha hb.neg hs) (by simp [qD])
  rw [← Rat.sub_eq_add_neg] at e
  have en : qD (-b) = .tup [.int (-b.num), .int (b.den : Int)] := by simp [qD]
  rw [en] at e
  simp [lminC, idx_q0, idx_q1, e]
theorem rl_isq {w d q : Nat} {x : D} {l : Nat} (hw : Is T w 1 1 isIntB) (hd : Is T d 2 2 ldivB) (hq : Is T q 1 1 (lisqC w d)) (k : Nat) (hp : Pl l x) : run T (k + 2) false q [x] S = some (.ok (.bl (quoP x)) S) := by
  rw [hq.run rfl]
  cases hp with
  | @tup n ds h hl =>
    by_cases hn : (ds.length : Int) = 2
    · match ds, hn, h with
      | [x, y], _, h =>
        have ex := frz_same (r_isIntP hw k S (h x (by simp))) (by simp)
        have ey := frz_same (r_isIntP hw k S (h y (by simp))) (by simp)
        cases kx : intP x with
        | false =>
          rw [kx] at ex
          have : quoP (.tup [x, y]) = false := by
            cases hq : quoP (.tup [x, y]) with
            | false => rfl
            | true =>
              obtain ⟨_, _, e, _⟩ := quoP_tup hq
              cases e
              cases kx
          rw [this]
          simp [lisqC, ex]
        | true =>
          rw [kx] at ex
          cases ky : intP y with
          | false =>
            rw [ky] at ey
            have : quoP (.tup [x, y]) = false := by
              cases hq : quoP (.tup [x, y]) with
              | false => rfl
              | true =>
                obtain ⟨_, _, e, _⟩ := quoP_tup hq
                cases e
                cases ky
            rw [this]
            simp [lisqC, ex, ey]
          | true =>
            rw [ky] at ey
            obtain ⟨u, v, e⟩ := all2 (ds := [x, y]) rfl (by simp [kx, ky])
            cases e
            by_cases c : 1 ≤ v
            · have eg := rl_div hd k S (x := if u < 0 then -u else u) (y := v) (by split <;> omega) (by omega)
              rw [gcd_abs] at eg
              by_cases c2 : Int.gcd u v = 1
              · simp [lisqC, ex, ey, c, eg, c2, quoP]
              · have c3 : ¬ (Int.gcd u v : Int) = 1 := by omega
                simp [lisqC, ex, ey, c, eg, c2, c3, quoP]
            · simp [lisqC, ex, ey, c, quoP]
    · have : quoP (.tup ds) = false := by
        cases hq : quoP (.tup ds) with
        | false => rfl
        | true =>
          obtain ⟨_, _, e, _⟩ := quoP_tup hq
          rw [e] at hn
          simp at hn
      rw [this]
      simp [lisqC, hn]
  | _ => simp [lisqC, quoP]
/-- all of a tuple's items pass a def's look -/
theorem all_comp {f : Nat} {v : Nat} {src : E} {env : Env} {k : Nat} {ds : List D} {g : D → Bool} (hsrc : ev ⟨false, run T k false⟩ (.cons src .nil) env S = some (.ok (.tup [.tup ds]) S)) (hv : v < env.length) (hl : ds.length < 1000000)
    (h : ∀ d ∈ ds, frzO S (run T k false f [d] S) = some (.ok (.bl (g d)) S)) :
    ev ⟨false, run T k false⟩ (.comp (.var v) .val (.cons src .nil) (.con (.bl true)) (.call f false (.cons (.var v) .nil)) [v]) env S = some (.ok (.lst (ds.map fun d => .bl (g d))) S) := by
  refine comp_map (emb := id) (xs := ds) (gs := [none]) (g := fun d => .bl (g d)) rfl hsrc (by simp [iterS, guardOf]) gN hl fun z hz => ?_
  have e := h z hz
  simp [t_turn, wipeE, hv, e]
end
/-! ### bent values -/
def deltas : List D := [.int 1, .int (-1), .int 1, .int (-1), .int 2, .int (-7)]
def T30 : Int := 1000000000000000000000000000000
def oddB : List D := [.non, .bl true, .str "0", .int (-1), .int 0, .tup [], .tup [.int 0], .int 1000000000000000000000000000000]
theorem oddB_pl : ∀ d ∈ oddB, PlL T30 2 1 d := plLs_ok (by rfl)
theorem pw30 : powOk 10 30 := by decide
theorem p30 : (10 : Int) ^ 30 = 1000000000000000000000000000000 := by decide
def bentC (dr wh me : Nat) : C := (.seq (.ifs (.or (.not (.isi (.var 1) .tuple)) (.or (.not (.var 1)) (.cmp .eq (.var 2) (.con (.int 0))))) (.seq (.ifs (.and (.call wh false (.cons (.var 1) .nil)) (.cmp .gt (.call dr true (.cons (.var 0) (.cons (.con (.int 5)) .nil))) (.con (.int 0)))) (.seq (.ret (.bin .add (.var 1) (.idx (.disp (.cons (.con (.int 1)) (.cons (.neg (.con (.int 1))) (.cons (.con (.int 1)) (.cons (.neg (.con (.int 1))) (.cons (.con (.int 2)) (.cons (.neg (.con (.int 7))) .nil))))))) (.call dr true (.cons (.var 0) (.cons (.con (.int 6)) .nil)))))) .nil) .nil) (.seq (.ret (.idx (.disp (.cons (.con .non) (.cons (.con (.bl true)) (.cons (.con (.str "0")) (.cons (.neg (.con (.int 1))) (.cons (.con (.int 0)) (.cons (.tup .nil) (.cons (.tup (.cons (.con (.int 0)) .nil)) (.cons (.bin .pow (.con (.int 10)) (.con (.int 30))) .nil))))))))) (.call dr true (.cons (.var 0) (.cons (.con (.int 8)) .nil))))) .nil)) .nil) (.seq (.set (.var 3) (.call dr true (.cons (.var 0) (.cons (.prim .len (.cons (.var 1) .nil)) .nil)))) (.seq (.ifs (.cmp .eq (.call dr true (.cons (.var 0) (.cons (.con (.int 10)) .nil))) (.con (.int 0))) (.seq (.ret (.idx (.disp (.cons (.bin .add (.slc (.var 1) false (.con .non) true (.var 3)) (.slc (.var 1) true (.bin .add (.var 3) (.con (.int 1))) false (.con .non))) (.cons (.bin .add (.var 1) (.slc (.var 1) true (.var 3) true (.bin .add (.var 3) (.con (.int 1))))) (.cons (.rev (.var 1)) (.cons (.con .non) (.cons (.con (.str "none")) .nil)))))) (.call dr true (.cons (.var 0) (.cons (.con (.int 5)) .nil))))) .nil) .nil) (.seq (.ret (.bin .add (.bin .add (.slc (.var 1) false (.con .non) true (.var 3)) (.tup (.cons (.call me true (.cons (.var 0) (.cons (.idx (.var 1) (.var 3)) (.cons (.bin .sub (.var 2) (.con (.int 1))) .nil)))) .nil))) (.slc (.var 1) true (.bin .add (.var 3) (.con (.int 1))) false (.con .non)))) .nil))))
section
variable {T : List Fn} {dr wh me : Nat} {B : Int} {L : Nat} {v : D}
theorem odd_e (hd : Is T dr 2 3 drawB) (k : Nat) (σ : LS) (rest : Store) : ∃ (i : Int) (x : D) (σ' : LS), PlL T30 2 1 x ∧ atI oddB i = some x ∧ run T (k + 1) false dr [.loc 0, .int 8] (st σ :: rest) = some (.ok (.int i) (st σ' :: rest)) := by
  obtain ⟨i, σ', x, hx, q, e⟩ := pickT hd k σ rest oddB (m := 8) (by simp [oddB]) (by omega) (by omega)
  exact ⟨i, x, σ', oddB_pl x hx, q, e⟩
theorem delta_e (hd : Is T dr 2 3 drawB) (k : Nat) (σ : LS) (rest : Store) : ∃ (i x : Int) (σ' : LS), -7 ≤ x ∧ x ≤ 7 ∧ atI deltas i = some (.int x) ∧ run T (k + 1) false dr [.loc 0, .int 6] (st σ :: rest) = some (.ok (.int i) (st σ' :: rest)) := by
  obtain ⟨i, σ', x, hx, q, e⟩ := pickT hd k σ rest deltas (m := 6) (by simp [deltas]) (by omega) (by omega)
  simp only [deltas, List.mem_cons, List.not_mem_nil, or_false] at hx
  rcases hx with rfl | rfl | rfl | rfl | rfl | rfl <;> exact ⟨i, _, σ', by omega, by omega, q, e⟩
/-- what is no tuple, or an empty one, or lies too deep -/
theorem bent_flat (hdr : Is T dr 2 3 drawB) (hwh : Is T wh 1 1 isIntB) (hme : Is T me 3 4 (bentC dr wh me)) (k : Nat) (σ : LS) (rest : Store) {n : Nat} (dd : Int) (h : PlL B L n v) (hB : T30 ≤ B) (hL1 : 2 ≤ L) (hL : L < 1000) (hn : 1 ≤ n) (hc : v = .tup [] ∨ tupP v = false ∨ dd = 0) : ∃ x σ', PlL (B + 7) (L + 1) n x ∧ run T (k + 3) false me [.loc 0, v, .int dd] (st σ :: rest) = some (.ok x (st σ' :: rest)) := by
  rw [hme.run rfl]
  have up : ∀ {x}, PlL T30 2 1 x → PlL (B + 7) (L + 1) n x := fun h => h.mono (by omega) (by omega) (by omega)
  have w := frz_same (r_isIntP hwh (k + 1) (st σ :: rest) (h.pl (by omega))) (by simp)
  cases h with
  | @int _ i h1 h2 =>
    simp only [intP] at w
    obtain ⟨d, σ1, w0, w1, e1⟩ := drwT hdr (k + 1) σ rest 5 (by omega) (by omega)
    by_cases c : 0 < d
    · obtain ⟨i2, x, σ2, x1, x2, q, e2⟩ := delta_e hdr (k + 1) σ1 rest
      refine ⟨.int (i + x), σ2, .int (by omega) (by omega), ?_⟩
      unfold deltas at q
      simp [bentC, w, e1, c, e2, q]
    · obtain ⟨i2, x, σ2, hx, q, e2⟩ := odd_e hdr (k + 1) σ1 rest
      refine ⟨x, σ2, up hx, ?_⟩
      unfold oddB at q
      simp [bentC, w, e1, c, pw30, p30, e2, q]
  | @tup n ds hd hl =>
    simp only [intP] at w
    obtain ⟨i2, x, σ2, hx, q, e2⟩ := odd_e hdr (k + 1) σ rest
    refine ⟨x, σ2, up hx, ?_⟩
    unfold oddB at q
    rcases hc with hc | hc | hc
    · cases hc
      simp [bentC, w, pw30, p30, e2, q]
    · cases hc
    · subst hc
      by_cases hn : ds = []
      · subst hn
        simp [bentC, w, pw30, p30, e2, q]
      · simp [bentC, w, pw30, p30, e2, q, hn]
  | _ =>
    simp only [intP] at w
    obtain ⟨i2, x, σ2, hx, q, e2⟩ := odd_e hdr (k + 1) σ rest
    refine ⟨x, σ2, up hx, ?_⟩
    unfold oddB at q
    simp [bentC, w, pw30, p30, e2, q]
theorem bentT (hdr : Is T dr 2 3 drawB) (hwh : Is T wh 1 1 isIntB) (hme : Is T me 3 4 (bentC dr wh me)) (k : Nat) : ∀ (δ : Nat) (σ : LS) (rest : Store) {v : D}, T30 ≤ B → 2 ≤ L → L < 1000 → PlL B L (1 + δ) v → ∃ x σ', PlL (B + 7) (L + 1) (1 + δ) x ∧ run T (k + 3 + δ) false me [.loc 0, v, .int (δ : Int)] (st σ :: rest) = some (.ok x (st σ' :: rest)) := by
  intro δ
  induction δ with
  | zero => exact fun σ rest v hB hL1 hL h => bent_flat hdr hwh hme k σ rest 0 h hB hL1 hL (by omega) (.inr (.inr rfl))
  | succ δ ih =>
    intro σ rest v hB hL1 hL h
    have hfu : k + 3 + (δ + 1) = (k + δ + 1) + 3 := by omega
    have hd0 : ¬ ((δ + 1 : Nat) : Int) = 0 := by omega
    have hd1 : ((δ + 1 : Nat) : Int) - 1 = (δ : Int) := by omega
    rw [hfu]
    by_cases hc : v = .tup [] ∨ tupP v = false
    · exact bent_flat hdr hwh hme (k + δ + 1) σ rest _ h hB hL1 hL (by omega) (by rcases hc with hc | hc <;> simp [hc])
    cases h with
    | @tup n ds hd hl =>
      have hn : ds ≠ [] := fun e => hc (.inl (by rw [e]))
      rw [show k + δ + 1 + 3 = (k + 3 + δ) + 1 by omega, hme.run rfl]
      obtain ⟨kk, hkk⟩ : ∃ kk, k + 3 + δ = kk + 3 := ⟨k + δ, by omega⟩
      rw [hkk] at ih ⊢
      generalize hdd : ((δ + 1 : Nat) : Int) = dd at *
      have hl1 : 1 ≤ ds.length := List.length_pos_iff.mpr hn
      obtain ⟨a, σ2, a0, a1, e2⟩ := drwT hdr (kk + 2) σ rest ds.length (by omega) (by omega)
      obtain ⟨w, σ1, w0, w1, e1⟩ := drwT hdr (kk + 2) σ2 rest 10 (by omega) (by omega)
      obtain ⟨i, rfl⟩ := Int.eq_ofNat_of_zero_le a0
      have hi : i < ds.length := by omega
      have c1 : cutD ds none (some (i : Int)) = ds.take i := by rw [cut_lo (by omega), Int.toNat_natCast]
      have c2 : cutD ds (some ((i : Int) + 1)) none = ds.drop (i + 1) := by rw [cut_hi (by omega)]; rfl
      have c3 : cutD ds (some (i : Int)) (some ((i : Int) + 1)) = [ds[i]] := by
        rw [cut_mid (by omega) (by omega) (by omega)]
        have : ((i : Int) + 1).toNat - (i : Int).toNat = 1 := by omega
        rw [this, Int.toNat_natCast, List.drop_eq_getElem_cons hi]
        rfl
      have a3 : atI ds (i : Int) = some ds[i] := by
        have := atI_map (f := id) (xs := ds) (i := (i : Int)) (x := ds[i]) (by omega) (by rw [Int.toNat_natCast]; exact List.getElem?_eq_getElem hi)
        simpa using this
      have up : ∀ d ∈ ds, PlL (B + 7) (L + 1) (1 + δ) d := fun d hx => (hd d hx).mono (by omega) (by omega) (Nat.le_refl _)
      have mt : ∀ {d}, d ∈ ds.take i → d ∈ ds := fun h => List.mem_of_mem_take h
      have md : ∀ {d j}, d ∈ ds.drop j → d ∈ ds := fun h => List.mem_of_mem_drop h
      have s1 : (ds.take i).length + (ds.drop (i + 1)).length ≤ sizeLine := by rw [sizeLine_eq]; simp; omega
      have s2 : ds.length + 1 ≤ sizeLine := by rw [sizeLine_eq]; omega
      by_cases c : w = 0
      · subst c
        have s3 : ds.length + [ds[i]].length ≤ sizeLine := by simpa using s2
        obtain ⟨j, σ3, x, hx, q, e3⟩ := pickT hdr (kk + 2) σ1 rest [.tup (ds.take i ++ ds.drop (i + 1)), .tup (ds ++ [ds[i]]), .tup ds.reverse, .non, .str "none"] (m := 5) (by simp) (by omega) (by omega)
        refine ⟨x, σ3, ?_, ?_⟩
        · simp only [List.mem_cons, List.not_mem_nil, or_false] at hx
          rcases hx with rfl | rfl | rfl | rfl | rfl
          · refine .tup (fun d hx => ?_) (by simp; omega)
            rcases List.mem_append.mp hx with hx | hx
            · exact up d (mt hx)
            · exact up d (md hx)
          · refine .tup (fun d hx => ?_) (by simp; omega)
            rcases List.mem_append.mp hx with hx | hx
            · exact up d hx
            · simp at hx
              subst hx
              exact up _ (List.getElem_mem hi)
          · exact .tup (fun d hx => up d (by simpa using hx)) (by simp; omega)
          · exact .non
          · exact plL_ok (by rfl)
        · generalize hX : ds.take i = X at *
          generalize hY : ds.drop (i + 1) = Y at *
          generalize hZ : ds[i] = Z at *
          simp only [List.length_cons, List.length_nil, Nat.zero_add] at s3
          simp [bentC, hn, hd0, e2, e1, c1, c2, c3, s1, s3, e3, q]
      · obtain ⟨x, σ4, hx, e4⟩ := ih σ1 rest hB hL1 hL (hd ds[i] (List.getElem_mem hi))
        have s3 : (ds.take i).length + 1 ≤ sizeLine := by rw [sizeLine_eq]; simp; omega
        have s4 : (ds.take i).length + 1 + (ds.drop (i + 1)).length ≤ sizeLine := by rw [sizeLine_eq]; simp; omega
        refine ⟨.tup (ds.take i ++ (x :: ds.drop (i + 1))), σ4, .tup (fun d hx' => ?_) (by simp; omega), ?_⟩
        · rcases List.mem_append.mp hx' with hx' | hx'
          · exact up d (mt hx')
          · rcases List.mem_cons.mp hx' with rfl | hx'
            · exact hx
            · exact up d (md hx')
        · generalize hX : ds.take i = X at *
          generalize hY : ds.drop (i + 1) = Y at *
          generalize hZ : ds[i] = Z at *
          simp [bentC, hn, hd0, hd1, e2, e1, c, c1, c2, a3, e4, s3, s4]
    | _ => exact absurd (.inr rfl) hc
end
end J
/-! A13: comprehensions that draw -/
namespace J
open PySem L2
/-- a comprehension whose turns draw -/
theorem comp_st {cl : Nat → List D → M D} {tg : E} {k : Ik} {as c elt : E} {own : List Nat} {env : Env} {α : Type} {xs : List α} {emb : α → D} {ds : List D} {gs : List Guard} {σ0 σ1 : LS} {rest : Store} {P : α → D → Prop}
    (ha : ev ⟨false, cl⟩ as env (st σ0 :: rest) = some (.ok (.tup ds) (st σ1 :: rest))) (hi : iterS k ds (st σ1 :: rest) = some (xs.map emb, gs)) (hg : ∀ σ, ∀ q ∈ gs, okG q (st σ :: rest)) (hl : xs.length < 1000000)
    (h : ∀ x ∈ xs, ∀ σ, ∃ y σ', turnF ⟨false, cl⟩ tg c elt own env (emb x) (st σ :: rest) = some (.ok (some y) (st σ' :: rest)) ∧ P x y) :
    ∃ ys σ', ev ⟨false, cl⟩ (.comp tg k as c elt own) env (st σ0 :: rest) = some (.ok (.lst ys) (st σ' :: rest)) ∧ ys.length = xs.length ∧ ∀ y ∈ ys, ∃ x ∈ xs, P x y := by
  obtain ⟨ys, σ', e, hlen, hy⟩ := compL_all (α := α) (emb := emb) (gs := gs) (st := fun σ => st σ :: rest) (P := P) (F := turnF ⟨false, cl⟩ tg c elt own env) hg xs σ1 h
  refine ⟨ys, σ', ?_, hlen, hy⟩
  rw [e_comp rfl, ha, bnd_ok, tups_tup, opt_some, bnd_ok, hi, opt_some, bnd_ok]
  show bnd (compL gs (turnF ⟨false, cl⟩ tg c elt own env) (xs.map emb) (st σ1 :: rest)) _ = _
  rw [e, bnd_ok, if_pos (by omega)]
theorem gE {σ : LS} {rest : Store} : ∀ q ∈ ([] : List Guard), okG q (st σ :: rest) := fun q hq => nomatch hq
end J
namespace J.Law
open PySem J
def ars : List (List Nat) := [[1], [2], [2], [2], [2], [2], [1], [1], [2], [1], [1], [3], [2], [2], [1], [2], [2], [2], [2], [1], [1], [2], [2], [2], [1], [2], [2], [1]]
/-! 0: is_integer(value) 0:value -/
def f0 : Fn := { name := "is_integer", ps := ["value"], dfl := [], N := ["value"], ar := [1], body := (.seq (.ret (.and (.isi (.var 0) .int) (.not (.isi (.var 0) .bool)))) .nil) }
/-! 1: greatest_divisor(first, second) 0:first 1:second -/
def w1_0 : E := (.cmp .gt (.var 1) (.con (.int 0)))
def b1_0 : C := (.seq (.set (.tup (.cons (.var 0) (.cons (.var 1) .nil))) (.tup (.cons (.var 1) (.cons (.bin .mod (.var 0) (.var 1)) .nil)))) .nil)
def p1_0 : C := .whl w1_0 b1_0
def f1 : Fn := { name := "greatest_divisor", ps := ["first", "second"], dfl := [], N := ["first", "second"], ar := [2], body := (.seq p1_0 (.seq (.ret (.var 0)) .nil)) }
/-! 2: quotient(up, down) 0:up 1:down 2:divisor -/
def f2 : Fn := { name := "quotient", ps := ["up", "down"], dfl := [], N := ["up", "down", "divisor"], ar := [2], body := (.seq (.ifs (.cmp .lt (.var 1) (.con (.int 0))) (.seq (.set (.tup (.cons (.var 0) (.cons (.var 1) .nil))) (.tup (.cons (.neg (.var 0)) (.cons (.neg (.var 1)) .nil)))) .nil) .nil) (.seq (.set (.var 2) (.call 1 false (.cons (.prim .abs (.cons (.var 0) .nil)) (.cons (.var 1) .nil)))) (.seq (.ret (.tup (.cons (.bin .fdiv (.var 0) (.var 2)) (.cons (.bin .fdiv (.var 1) (.var 2)) .nil)))) .nil))) }
/-! 3: plus(first, second) 0:first 1:second -/
def f3 : Fn := { name := "plus", ps := ["first", "second"], dfl := [], N := ["first", "second"], ar := [2], body := (.seq (.ret (.call 2 false (.cons (.bin .add (.bin .mul (.idx (.var 0) (.con (.int 0))) (.idx (.var 1) (.con (.int 1)))) (.bin .mul (.idx (.var 1) (.con (.int 0))) (.idx (.var 0) (.con (.int 1))))) (.cons (.bin .mul (.idx (.var 0) (.con (.int 1))) (.idx (.var 1) (.con (.int 1)))) .nil)))) .nil) }
/-! 4: times(first, second) 0:first 1:second -/
def f4 : Fn := { name := "times", ps := ["first", "second"], dfl := [], N := ["first", "second"], ar := [2], body := (.seq (.ret (.call 2 false (.cons (.bin .mul (.idx (.var 0) (.con (.int 0))) (.idx (.var 1) (.con (.int 0)))) (.cons (.bin .mul (.idx (.var 0) (.con (.int 1))) (.idx (.var 1) (.con (.int 1)))) .nil)))) .nil) }
/-! 5: over(first, second) 0:first 1:second -/
def f5 : Fn := { name := "over", ps := ["first", "second"], dfl := [], N := ["first", "second"], ar := [2], body := (.seq (.ret (.call 2 false (.cons (.bin .mul (.idx (.var 0) (.con (.int 0))) (.idx (.var 1) (.con (.int 1)))) (.cons (.bin .mul (.idx (.var 0) (.con (.int 1))) (.idx (.var 1) (.con (.int 0)))) .nil)))) .nil) }
/-! 6: sum_of(rows) 0:rows 1:total 2:row -/
def b6_0 : C := (.seq (.set (.var 1) (.call 3 false (.cons (.var 1) (.cons (.var 2) .nil)))) .nil)
def p6_0 : C := .forr (.var 2) .val (.cons (.var 0) .nil) b6_0
def f6 : Fn := { name := "sum_of", ps := ["rows"], dfl := [], N := ["rows", "total", "row"], ar := [1], body := (.seq (.set (.var 1) (.tup (.cons (.con (.int 0)) (.cons (.con (.int 1)) .nil)))) (.seq p6_0 (.seq (.ret (.var 1)) .nil))) }
/-! 7: is_quotient(value) 0:value 1:part -/
def q7_0 : E := .comp (.var 1) .val (.cons (.var 0) .nil) (.con (.bl true)) (.call 0 false (.cons (.var 1) .nil)) [1]
def f7 : Fn := { name := "is_quotient", ps := ["value"], dfl := [], N := ["value", "part"], ar := [1], body := (.seq (.ifs (.or (.not (.isi (.var 0) .tuple)) (.or (.cmp .ne (.prim .len (.cons (.var 0) .nil)) (.con (.int 2))) (.not (.prim .all (.cons q7_0 .nil))))) (.seq (.ret (.con (.bl false))) .nil) .nil) (.seq (.ret (.and (.cmp .ge (.idx (.var 0) (.con (.int 1))) (.con (.int 1))) (.cmp .eq (.call 1 false (.cons (.prim .abs (.cons (.idx (.var 0) (.con (.int 0))) .nil)) (.cons (.idx (.var 0) (.con (.int 1))) .nil))) (.con (.int 1))))) .nil)) }
/-! 8: are_shares(value, many) 0:value 1:many 2:part -/
def q8_0 : E := .comp (.var 2) .val (.cons (.var 0) .nil) (.con (.bl true)) (.and (.call 7 false (.cons (.var 2) .nil)) (.cmp .ge (.idx (.var 2) (.con (.int 0))) (.con (.int 0)))) [2]
def f8 : Fn := { name := "are_shares", ps := ["value", "many"], dfl := [], N := ["value", "many", "part"], ar := [2], body := (.seq (.ifs (.or (.not (.isi (.var 0) .tuple)) (.cmp .ne (.prim .len (.cons (.var 0) .nil)) (.var 1))) (.seq (.ret (.con (.bl false))) .nil) .nil) (.seq (.ifs (.not (.prim .all (.cons q8_0 .nil))) (.seq (.ret (.con (.bl false))) .nil) .nil) (.seq (.ret (.cmp .eq (.call 6 false (.cons (.var 0) .nil)) (.tup (.cons (.con (.int 1)) (.cons (.con (.int 1)) .nil))))) .nil))) }
/-! 9: check_chain(chain) 0:chain 1:row 2:part -/
def q9_0 : E := .comp (.var 2) .val (.cons (.var 1) .nil) (.con (.bl true)) (.cmp .gt (.idx (.var 2) (.con (.int 1))) (.glob "MAX_PART" 1000)) [2]
def b9_0 : C := (.seq (.ifs (.or (.not (.call 8 false (.cons (.var 1) (.cons (.prim .len (.cons (.var 0) .nil)) .nil)))) (.prim .any (.cons q9_0 .nil))) (.seq (.raise 0 (.con (.str "chain"))) .nil) .nil) .nil)
def p9_0 : C := .forr (.var 1) .val (.cons (.var 0) .nil) b9_0
def f9 : Fn := { name := "check_chain", ps := ["chain"], dfl := [], N := ["chain", "row", "part"], ar := [1], body := (.seq (.ifs (.or (.not (.isi (.var 0) .tuple)) (.not (.chn .le .le (.con (.int 1)) (.prim .len (.cons (.var 0) .nil)) (.glob "MAX_STATES" 8)))) (.seq (.raise 0 (.con (.str "chain"))) .nil) .nil) (.seq p9_0 .nil)) }
/-! 10: judge_balance(chain) 0:chain 1:one 2:weights 3:before 4:root 5:other 6:queue 7:at 8:here 9:state 10:weight -/
def q10_0 : E := .comp (.var 9) .rng1 (.cons (.prim .len (.cons (.var 0) .nil)) .nil) (.con (.bl true)) (.idx (.var 2) (.var 9)) [9]
def w10_0 : E := (.cmp .lt (.var 7) (.prim .len (.cons (.var 6) .nil)))
def b10_0 : C := (.seq (.ifs (.and (.cmp .gt (.idx (.idx (.idx (.var 0) (.var 8)) (.var 5)) (.con (.int 0))) (.con (.int 0))) (.cmp .ne (.var 5) (.var 8))) (.seq (.set (.var 10) (.call 4 false (.cons (.idx (.var 2) (.var 8)) (.cons (.call 5 false (.cons (.idx (.idx (.var 0) (.var 8)) (.var 5)) (.cons (.idx (.idx (.var 0) (.var 5)) (.var 8)) .nil))) .nil)))) (.seq (.ifs (.cmp .nin (.var 5) (.var 2)) (.seq (.seti (.var 2) (.var 5) (.var 10)) (.seq (.seti (.var 3) (.var 5) (.var 8)) (.seq (.app (.var 6) (.var 5)) .nil))) (.seq (.ifs (.cmp .ne (.idx (.var 2) (.var 5)) (.var 10)) (.seq (.ret (.tup (.cons (.con (.str "ring")) (.cons (.call 11 false (.cons (.var 3) (.cons (.var 8) (.cons (.var 5) .nil)))) .nil)))) .nil) .nil) .nil)) .nil)) .nil) .nil)
def p10_0 : C := .forr (.var 5) .rng1 (.cons (.prim .len (.cons (.var 0) .nil)) .nil) b10_0
def b10_1 : C := (.seq (.set (.var 8) (.idx (.var 6) (.var 7))) (.seq p10_0 (.seq (.aug .add 7 (.con (.int 1))) .nil)))
def p10_1 : C := .whl w10_0 b10_1
def b10_2 : C := (.seq (.ifs (.cmp .nin (.var 4) (.var 2)) (.seq (.seti (.var 2) (.var 4) (.tup (.cons (.con (.int 1)) (.cons (.con (.int 1)) .nil)))) (.seq (.seti (.var 3) (.var 4) (.con .non)) (.seq (.set (.var 6) (.mut (.disp (.cons (.var 4) .nil)))) (.seq (.set (.var 7) (.con (.int 0))) (.seq p10_1 .nil))))) .nil) .nil)
def p10_2 : C := .forr (.var 4) .rng1 (.cons (.prim .len (.cons (.var 0) .nil)) .nil) b10_2
def b10_3 : C := (.seq (.ifs (.and (.cmp .gt (.idx (.idx (.idx (.var 0) (.var 1)) (.var 5)) (.con (.int 0))) (.con (.int 0))) (.cmp .eq (.idx (.idx (.idx (.var 0) (.var 5)) (.var 1)) (.con (.int 0))) (.con (.int 0)))) (.seq (.ret (.tup (.cons (.con (.str "one")) (.cons (.tup (.cons (.var 1) (.cons (.var 5) .nil))) .nil)))) .nil) .nil) .nil)
def p10_3 : C := .forr (.var 5) .rng1 (.cons (.prim .len (.cons (.var 0) .nil)) .nil) b10_3
def b10_4 : C := (.seq p10_3 .nil)
def p10_4 : C := .forr (.var 1) .rng1 (.cons (.prim .len (.cons (.var 0) .nil)) .nil) b10_4
def f10 : Fn := { name := "judge_balance", ps := ["chain"], dfl := [], N := ["chain", "one", "weights", "before", "root", "other", "queue", "at", "here", "state", "weight"], ar := [1], body := (.seq (.exp (.call 9 false (.cons (.var 0) .nil))) (.seq p10_4 (.seq (.set (.var 2) (.ddisp .nil)) (.seq (.set (.var 3) (.ddisp .nil)) (.seq p10_2 (.seq (.ret (.tup (.cons (.con (.str "balanced")) (.cons (.prim .tuple (.cons q10_0 .nil)) .nil)))) .nil)))))) }
/-! 11: ring_of(before, one, other) 0:before 1:one 2:other 3:first 4:second -/
def w11_0 : E := (.and (.cmp .gt (.prim .len (.cons (.var 3) .nil)) (.con (.int 1))) (.and (.cmp .gt (.prim .len (.cons (.var 4) .nil)) (.con (.int 1))) (.cmp .eq (.idx (.var 3) (.neg (.con (.int 2)))) (.idx (.var 4) (.neg (.con (.int 2)))))))
def b11_0 : C := (.seq (.set (.var 3) (.slc (.var 3) false (.con .non) true (.neg (.con (.int 1))))) (.seq (.set (.var 4) (.slc (.var 4) false (.con .non) true (.neg (.con (.int 1))))) .nil))
def p11_0 : C := .whl w11_0 b11_0
def w11_1 : E := (.isnn (.idx (.var 0) (.idx (.var 4) (.neg (.con (.int 1))))))
def b11_1 : C := (.seq (.app (.var 4) (.idx (.var 0) (.idx (.var 4) (.neg (.con (.int 1)))))) .nil)
def p11_1 : C := .whl w11_1 b11_1
def w11_2 : E := (.isnn (.idx (.var 0) (.idx (.var 3) (.neg (.con (.int 1))))))
def b11_2 : C := (.seq (.app (.var 3) (.idx (.var 0) (.idx (.var 3) (.neg (.con (.int 1)))))) .nil)
def p11_2 : C := .whl w11_2 b11_2
def f11 : Fn := { name := "ring_of", ps := ["before", "one", "other"], dfl := [], N := ["before", "one", "other", "first", "second"], ar := [3], body := (.seq (.set (.var 3) (.mut (.disp (.cons (.var 1) .nil)))) (.seq p11_2 (.seq (.set (.var 4) (.mut (.disp (.cons (.var 2) .nil)))) (.seq p11_1 (.seq p11_0 (.seq (.ret (.prim .tuple (.cons (.bin .add (.rev (.var 3)) (.slc (.var 4) false (.con .non) true (.neg (.con (.int 1))))) .nil))) .nil)))))) }
/-! 12: accept_balance(chain, weights) 0:chain 1:weights 2:one 3:row 4:other 5:chance 6:weight -/
def b12_0 : C := (.seq (.ifs (.cmp .ne (.call 4 false (.cons (.idx (.var 1) (.var 2)) (.cons (.var 5) .nil))) (.call 4 false (.cons (.idx (.var 1) (.var 4)) (.cons (.idx (.idx (.var 0) (.var 4)) (.var 2)) .nil)))) (.seq (.raise 1 (.con (.str "step"))) .nil) .nil) .nil)
def p12_0 : C := .forr (.tup (.cons (.var 4) (.cons (.var 5) .nil))) .enu (.cons (.var 3) .nil) b12_0
def b12_1 : C := (.seq p12_0 .nil)
def p12_1 : C := .forr (.tup (.cons (.var 2) (.cons (.var 3) .nil))) .enu (.cons (.var 0) .nil) b12_1
def q12_0 : E := .comp (.var 6) .val (.cons (.var 1) .nil) (.con (.bl true)) (.and (.call 7 false (.cons (.var 6) .nil)) (.cmp .gt (.idx (.var 6) (.con (.int 0))) (.con (.int 0)))) [6]
def f12 : Fn := { name := "accept_balance", ps := ["chain", "weights"], dfl := [], N := ["chain", "weights", "one", "row", "other", "chance", "weight"], ar := [2], body := (.seq (.exp (.call 9 false (.cons (.var 0) .nil))) (.seq (.ifs (.or (.not (.isi (.var 1) .tuple)) (.cmp .ne (.prim .len (.cons (.var 1) .nil)) (.prim .len (.cons (.var 0) .nil)))) (.seq (.raise 1 (.con (.str "form"))) .nil) .nil) (.seq (.ifs (.not (.prim .all (.cons q12_0 .nil))) (.seq (.raise 1 (.con (.str "form"))) .nil) .nil) (.seq p12_1 .nil)))) }
/-! 13: accept_ring(chain, ring) 0:chain 1:ring 2:there 3:back 4:at 5:state -/
def b13_0 : C := (.seq (.set (.var 2) (.call 4 false (.cons (.var 2) (.cons (.idx (.idx (.var 0) (.idx (.var 1) (.bin .sub (.var 4) (.con (.int 1))))) (.var 5)) .nil)))) (.seq (.set (.var 3) (.call 4 false (.cons (.var 3) (.cons (.idx (.idx (.var 0) (.var 5)) (.idx (.var 1) (.bin .sub (.var 4) (.con (.int 1))))) .nil)))) .nil))
def p13_0 : C := .forr (.tup (.cons (.var 4) (.cons (.var 5) .nil))) .enu (.cons (.var 1) .nil) b13_0
def q13_0 : E := .dcomp (.var 5) .val (.cons (.var 1) .nil) (.con (.bl true)) (.var 5) (.con (.bl true)) [5]
def q13_1 : E := .comp (.var 5) .val (.cons (.var 1) .nil) (.con (.bl true)) (.and (.call 0 false (.cons (.var 5) .nil)) (.chn .le .lt (.con (.int 0)) (.var 5) (.prim .len (.cons (.var 0) .nil)))) [5]
def f13 : Fn := { name := "accept_ring", ps := ["chain", "ring"], dfl := [], N := ["chain", "ring", "there", "back", "at", "state"], ar := [2], body := (.seq (.exp (.call 9 false (.cons (.var 0) .nil))) (.seq (.ifs (.or (.not (.isi (.var 1) .tuple)) (.not (.prim .all (.cons q13_1 .nil)))) (.seq (.raise 1 (.con (.str "form"))) .nil) .nil) (.seq (.ifs (.or (.cmp .lt (.prim .len (.cons (.var 1) .nil)) (.con (.int 2))) (.cmp .ne (.prim .len (.cons q13_0 .nil)) (.prim .len (.cons (.var 1) .nil)))) (.seq (.raise 1 (.con (.str "form"))) .nil) .nil) (.seq (.set (.tup (.cons (.var 2) (.cons (.var 3) .nil))) (.tup (.cons (.tup (.cons (.con (.int 1)) (.cons (.con (.int 1)) .nil))) (.cons (.tup (.cons (.con (.int 1)) (.cons (.con (.int 1)) .nil))) .nil)))) (.seq p13_0 (.seq (.ifs (.cmp .eq (.var 2) (.var 3)) (.seq (.raise 1 (.con (.str "ring"))) .nil) .nil) .nil)))))) }
/-! 14: _law_start(script) 0:script 1:seed 2:cell -/
def b14_0 : C := (.seq (.set (.var 1) (.bin .add (.bin .mod (.prim .int (.cons (.bin .add (.bin .mul (.var 1) (.con (.int 48271))) (.var 2)) .nil)) (.con (.int 2147483629))) (.con (.int 1)))) .nil)
def p14_0 : C := .forr (.var 2) .val (.cons (.var 0) .nil) b14_0
def f14 : Fn := { name := "_law_start", ps := ["script"], dfl := [], N := ["script", "seed", "cell"], ar := [1], body := (.seq (.set (.var 1) (.con (.int 7))) (.seq p14_0 (.seq (.ret (.mut (.disp (.cons (.plist (.var 0)) (.cons (.con (.int 0)) (.cons (.con (.int 0)) (.cons (.var 1) .nil))))))) .nil))) }
/-! 15: _law_draw(state, many) 0:state 1:many 2:value -/
def f15 : Fn := { name := "_law_draw", ps := ["state", "many"], dfl := [], N := ["state", "many", "value"], ar := [2], body := (.seq (.ifs (.and (.cmp .eq (.idx (.var 0) (.con (.int 1))) (.con (.int 0))) (.cmp .ge (.idx (.var 0) (.con (.int 2))) (.prim .len (.cons (.idx (.var 0) (.con (.int 0))) .nil)))) (.seq (.seti (.var 0) (.con (.int 3)) (.bin .mod (.prim .int (.cons (.bin .add (.bin .mul (.idx (.var 0) (.con (.int 3))) (.con (.int 48271))) (.con (.int 69621))) .nil)) (.con (.int 2147483629)))) (.seq (.ret (.bin .mod (.prim .int (.cons (.bin .fdiv (.idx (.var 0) (.con (.int 3))) (.con (.int 13))) .nil)) (.var 1))) .nil)) .nil) (.seq (.ifs (.cmp .eq (.idx (.var 0) (.con (.int 1))) (.con (.int 0))) (.seq (.seti (.var 0) (.con (.int 1)) (.prim .abs (.cons (.idx (.idx (.var 0) (.con (.int 0))) (.idx (.var 0) (.con (.int 2)))) .nil))) (.seq (.seti (.var 0) (.con (.int 2)) (.bin .add (.idx (.var 0) (.con (.int 2))) (.con (.int 1)))) .nil)) .nil) (.seq (.set (.var 2) (.bin .mod (.prim .int (.cons (.idx (.var 0) (.con (.int 1))) .nil)) (.var 1))) (.seq (.seti (.var 0) (.con (.int 1)) (.bin .fdiv (.idx (.var 0) (.con (.int 1))) (.var 1))) (.seq (.ret (.var 2)) .nil))))) }
/-! 16: _law_divisor(one, other) 0:one 1:other -/
def w16_0 : E := (.cmp .gt (.var 1) (.con (.int 0)))
def b16_0 : C := (.seq (.set (.tup (.cons (.var 0) (.cons (.var 1) .nil))) (.tup (.cons (.var 1) (.cons (.bin .mod (.var 0) (.prim .int (.cons (.var 1) .nil))) .nil)))) .nil)
def p16_0 : C := .whl w16_0 b16_0
def f16 : Fn := { name := "_law_divisor", ps := ["one", "other"], dfl := [], N := ["one", "other"], ar := [2], body := (.seq p16_0 (.seq (.ret (.var 0)) .nil)) }
/-! 17: _law_quotient(up, down) 0:up 1:down 2:common -/
def f17 : Fn := { name := "_law_quotient", ps := ["up", "down"], dfl := [], N := ["up", "down", "common"], ar := [2], body := (.seq (.ifs (.cmp .lt (.var 1) (.con (.int 0))) (.seq (.set (.tup (.cons (.var 0) (.cons (.var 1) .nil))) (.tup (.cons (.bin .sub (.con (.int 0)) (.var 0)) (.cons (.bin .sub (.con (.int 0)) (.var 1)) .nil)))) .nil) .nil) (.seq (.set (.var 2) (.call 16 false (.cons (.prim .abs (.cons (.var 0) .nil)) (.cons (.var 1) .nil)))) (.seq (.ret (.tup (.cons (.bin .fdiv (.var 0) (.var 2)) (.cons (.bin .fdiv (.var 1) (.var 2)) .nil)))) .nil))) }
/-! 18: _law_times(one, other) 0:one 1:other -/
def f18 : Fn := { name := "_law_times", ps := ["one", "other"], dfl := [], N := ["one", "other"], ar := [2], body := (.seq (.ret (.call 17 false (.cons (.bin .mul (.idx (.var 0) (.con (.int 0))) (.idx (.var 1) (.con (.int 0)))) (.cons (.bin .mul (.idx (.var 0) (.con (.int 1))) (.idx (.var 1) (.con (.int 1)))) .nil)))) .nil) }
/-! 19: _law_whole(value) 0:value -/
def f19 : Fn := { name := "_law_whole", ps := ["value"], dfl := [], N := ["value"], ar := [1], body := (.seq (.ret (.and (.isi (.var 0) .int) (.not (.isi (.var 0) .bool)))) .nil) }
/-! 20: _law_is_quotient(value) 0:value -/
def f20 : Fn := { name := "_law_is_quotient", ps := ["value"], dfl := [], N := ["value"], ar := [1], body := (.seq (.ifs (.or (.not (.isi (.var 0) .tuple)) (.or (.cmp .ne (.prim .len (.cons (.var 0) .nil)) (.con (.int 2))) (.or (.not (.call 19 false (.cons (.idx (.var 0) (.con (.int 0))) .nil))) (.not (.call 19 false (.cons (.idx (.var 0) (.con (.int 1))) .nil)))))) (.seq (.ret (.con (.bl false))) .nil) .nil) (.seq (.ret (.and (.cmp .ge (.idx (.var 0) (.con (.int 1))) (.con (.int 1))) (.cmp .eq (.call 16 false (.cons (.prim .abs (.cons (.idx (.var 0) (.con (.int 0))) .nil)) (.cons (.idx (.var 0) (.con (.int 1))) .nil))) (.con (.int 1))))) .nil)) }
/-! 21: _law_chain(state, most) 0:state 1:most 2:many 3:rows 4:one 5:weights 6:other 7:part -/
def q21_0 : E := .comp (.var 7) .val (.cons (.var 5) .nil) (.con (.bl true)) (.call 17 false (.cons (.var 7) (.cons (.prim .sum (.cons (.var 5) .nil)) .nil))) [7]
def q21_1 : E := .comp (.var 6) .rng1 (.cons (.var 2) .nil) (.con (.bl true)) (.idx (.disp (.cons (.con (.int 0)) (.cons (.con (.int 0)) (.cons (.con (.int 1)) (.cons (.call 15 true (.cons (.var 0) (.cons (.con (.int 5)) .nil))) .nil))))) (.call 15 true (.cons (.var 0) (.cons (.con (.int 4)) .nil)))) [6]
def b21_0 : C := (.seq (.set (.var 5) (.mut q21_1)) (.seq (.seti (.var 5) (.call 15 true (.cons (.var 0) (.cons (.var 2) .nil))) (.bin .add (.con (.int 1)) (.call 15 true (.cons (.var 0) (.cons (.idx (.disp (.cons (.con (.int 1)) (.cons (.con (.int 60)) .nil))) (.call 15 true (.cons (.var 0) (.cons (.con (.int 2)) .nil)))) .nil))))) (.seq (.ifs (.cmp .eq (.call 15 true (.cons (.var 0) (.cons (.con (.int 4)) .nil))) (.con (.int 0))) (.seq (.set (.var 5) (.mut (.bin .mul (.disp (.cons (.con (.int 0)) .nil)) (.var 2)))) (.seq (.seti (.var 5) (.idx (.disp (.cons (.var 4) (.cons (.bin .mod (.bin .add (.var 4) (.con (.int 1))) (.prim .int (.cons (.var 2) .nil))) (.cons (.call 15 true (.cons (.var 0) (.cons (.var 2) .nil))) .nil)))) (.call 15 true (.cons (.var 0) (.cons (.con (.int 3)) .nil)))) (.con (.int 1))) .nil)) .nil) (.seq (.app (.var 3) (.prim .tuple (.cons q21_0 .nil))) .nil))))
def p21_0 : C := .forr (.var 4) .rng1 (.cons (.var 2) .nil) b21_0
def f21 : Fn := { name := "_law_chain", ps := ["state", "most"], dfl := [], N := ["state", "most", "many", "rows", "one", "weights", "other", "part"], ar := [2], body := (.seq (.set (.var 2) (.bin .add (.con (.int 1)) (.call 15 true (.cons (.var 0) (.cons (.var 1) .nil))))) (.seq (.set (.var 3) (.mut (.disp .nil))) (.seq p21_0 (.seq (.ret (.prim .tuple (.cons (.var 3) .nil))) .nil)))) }
/-! 22: _law_same_as(first, second) 0:first 1:second -/
def f22 : Fn := { name := "_law_same_as", ps := ["first", "second"], dfl := [], N := ["first", "second"], ar := [2], body := (.seq (.ret (.and (.cmp .eq (.var 0) (.var 1)) (.cmp .eq (.prim .repr (.cons (.var 0) .nil)) (.prim .repr (.cons (.var 1) .nil))))) .nil) }
/-! 23: _law_even(state, many) 0:state 1:many 2:cells 3:thick 4:one 5:k 6:other 7:part 8:row -/
def q23_0 : E := .comp (.var 7) .val (.cons (.var 8) .nil) (.con (.bl true)) (.call 17 false (.cons (.var 7) (.cons (.prim .sum (.cons (.var 8) .nil)) .nil))) [7]
def q23_1 : E := .comp (.var 8) .val (.cons (.var 2) .nil) (.con (.bl true)) (.prim .tuple (.cons q23_0 .nil)) [8]
def b23_0 : C := (.seq (.seti (.idx (.var 2) (.var 4)) (.var 4) (.bin .add (.idx (.idx (.var 2) (.var 4)) (.var 4)) (.prim .int (.cons (.cmp .eq (.prim .sum (.cons (.idx (.var 2) (.var 4)) .nil)) (.con (.int 0))) .nil)))) .nil)
def p23_0 : C := .forr (.var 4) .rng1 (.cons (.var 1) .nil) b23_0
def b23_1 : C := (.seq (.set (.tup (.cons (.var 4) (.cons (.var 6) .nil))) (.tup (.cons (.call 15 true (.cons (.var 0) (.cons (.var 1) .nil))) (.cons (.call 15 true (.cons (.var 0) (.cons (.var 1) .nil))) .nil)))) (.seq (.seti (.idx (.var 2) (.var 4)) (.var 6) (.bin .add (.idx (.idx (.var 2) (.var 4)) (.var 6)) (.idx (.disp (.cons (.prim .int (.cons (.cmp .gt (.idx (.idx (.var 2) (.var 4)) (.var 6)) (.con (.int 0))) .nil)) (.cons (.con (.int 1)) .nil))) (.call 15 true (.cons (.var 0) (.cons (.con (.int 2)) .nil)))))) .nil))
def p23_1 : C := .forr (.var 5) .rng1 (.cons (.idx (.disp (.cons (.con (.int 0)) (.cons (.con (.int 0)) (.cons (.con (.int 1)) (.cons (.con (.int 3)) .nil))))) (.call 15 true (.cons (.var 0) (.cons (.con (.int 4)) .nil)))) .nil) b23_1
def b23_2 : C := (.seq (.set (.var 7) (.ite (.cmp .lt (.call 15 true (.cons (.var 0) (.cons (.con (.int 4)) .nil))) (.var 3)) (.idx (.disp (.cons (.con (.int 0)) (.cons (.con (.int 1)) (.cons (.bin .add (.con (.int 1)) (.call 15 true (.cons (.var 0) (.cons (.con (.int 4)) .nil)))) (.cons (.bin .add (.con (.int 1)) (.call 15 true (.cons (.var 0) (.cons (.con (.int 20)) .nil)))) .nil))))) (.call 15 true (.cons (.var 0) (.cons (.con (.int 4)) .nil)))) (.con (.int 0)))) (.seq (.seti (.idx (.var 2) (.var 4)) (.var 6) (.var 7)) (.seq (.seti (.idx (.var 2) (.var 6)) (.var 4) (.var 7)) .nil)))
def p23_2 : C := .forr (.var 6) .rng1 (.cons (.bin .add (.var 4) (.con (.int 1))) .nil) b23_2
def b23_3 : C := (.seq p23_2 .nil)
def p23_3 : C := .forr (.var 4) .rng1 (.cons (.var 1) .nil) b23_3
def q23_2 : E := .comp (.var 4) .rng1 (.cons (.var 1) .nil) (.con (.bl true)) (.mut (.bin .mul (.disp (.cons (.con (.int 0)) .nil)) (.var 1))) [4]
def f23 : Fn := { name := "_law_even", ps := ["state", "many"], dfl := [], N := ["state", "many", "cells", "thick", "one", "k", "other", "part", "row"], ar := [2], body := (.seq (.set (.var 2) (.mut q23_2)) (.seq (.set (.var 3) (.bin .add (.con (.int 1)) (.call 15 true (.cons (.var 0) (.cons (.con (.int 3)) .nil))))) (.seq p23_3 (.seq p23_1 (.seq p23_0 (.seq (.ret (.prim .tuple (.cons q23_1 .nil))) .nil)))))) }
/-! 24: _law_first(chain) 0:chain 1:one 2:other -/
def b24_0 : C := (.seq (.ifs (.and (.cmp .gt (.idx (.idx (.idx (.var 0) (.var 1)) (.var 2)) (.con (.int 0))) (.con (.int 0))) (.cmp .eq (.idx (.idx (.idx (.var 0) (.var 2)) (.var 1)) (.con (.int 0))) (.con (.int 0)))) (.seq (.ret (.tup (.cons (.var 1) (.cons (.var 2) .nil)))) .nil) .nil) .nil)
def p24_0 : C := .forr (.var 2) .rng1 (.cons (.prim .len (.cons (.var 0) .nil)) .nil) b24_0
def b24_1 : C := (.seq p24_0 .nil)
def p24_1 : C := .forr (.var 1) .rng1 (.cons (.prim .len (.cons (.var 0) .nil)) .nil) b24_1
def f24 : Fn := { name := "_law_first", ps := ["chain"], dfl := [], N := ["chain", "one", "other"], ar := [1], body := (.seq p24_1 (.seq (.ret (.con .non)) .nil)) }
/-! 25: _law_weights_hold(chain, weights) 0:chain 1:weights 2:rows 3:one 4:other 5:part -/
def q25_0 : E := .comp (.var 4) .rng1 (.cons (.var 3) .nil) (.con (.bl true)) (.cmp .eq (.call 18 false (.cons (.idx (.var 1) (.var 3)) (.cons (.idx (.idx (.var 0) (.var 3)) (.var 4)) .nil))) (.call 18 false (.cons (.idx (.var 1) (.var 4)) (.cons (.idx (.idx (.var 0) (.var 4)) (.var 3)) .nil)))) [4]
def b25_0 : C := (.seq (.ext (.var 2) q25_0) .nil)
def p25_0 : C := .forr (.var 3) .rng1 (.cons (.prim .len (.cons (.var 0) .nil)) .nil) b25_0
def q25_1 : E := .comp (.var 5) .val (.cons (.var 1) .nil) (.con (.bl true)) (.and (.call 20 false (.cons (.var 5) .nil)) (.cmp .gt (.idx (.var 5) (.con (.int 0))) (.con (.int 0)))) [5]
def f25 : Fn := { name := "_law_weights_hold", ps := ["chain", "weights"], dfl := [], N := ["chain", "weights", "rows", "one", "other", "part"], ar := [2], body := (.seq (.ifs (.or (.not (.isi (.var 1) .tuple)) (.or (.cmp .ne (.prim .len (.cons (.var 1) .nil)) (.prim .len (.cons (.var 0) .nil))) (.not (.prim .all (.cons q25_1 .nil))))) (.seq (.ret (.con (.bl false))) .nil) .nil) (.seq (.set (.var 2) (.mut (.disp .nil))) (.seq p25_0 (.seq (.ret (.prim .all (.cons (.var 2) .nil))) .nil)))) }
/-! 26: _law_ring_holds(chain, ring) 0:chain 1:ring 2:at 3:there 4:back 5:one -/
def q26_0 : E := .comp (.var 5) .val (.cons (.var 1) .nil) (.con (.bl true)) (.tup (.cons (.var 5) (.cons (.con (.bl true)) .nil))) [5]
def b26_0 : C := (.seq (.set (.var 3) (.call 18 false (.cons (.var 3) (.cons (.idx (.idx (.var 0) (.idx (.var 1) (.bin .sub (.var 2) (.con (.int 1))))) (.idx (.var 1) (.var 2))) .nil)))) (.seq (.set (.var 4) (.call 18 false (.cons (.var 4) (.cons (.idx (.idx (.var 0) (.idx (.var 1) (.var 2))) (.idx (.var 1) (.bin .sub (.var 2) (.con (.int 1))))) .nil)))) .nil))
def p26_0 : C := .forr (.var 2) .rng1 (.cons (.prim .len (.cons (.var 1) .nil)) .nil) b26_0
def q26_1 : E := .comp (.var 5) .val (.cons (.var 1) .nil) (.con (.bl true)) (.and (.call 19 false (.cons (.var 5) .nil)) (.chn .le .lt (.con (.int 0)) (.var 5) (.prim .len (.cons (.var 0) .nil)))) [5]
def f26 : Fn := { name := "_law_ring_holds", ps := ["chain", "ring"], dfl := [], N := ["chain", "ring", "at", "there", "back", "one"], ar := [2], body := (.seq (.ifs (.or (.not (.isi (.var 1) .tuple)) (.or (.cmp .lt (.prim .len (.cons (.var 1) .nil)) (.con (.int 2))) (.not (.prim .all (.cons q26_1 .nil))))) (.seq (.ret (.con (.bl false))) .nil) .nil) (.seq (.set (.tup (.cons (.var 3) (.cons (.var 4) .nil))) (.tup (.cons (.tup (.cons (.con (.int 1)) (.cons (.con (.int 1)) .nil))) (.cons (.tup (.cons (.con (.int 1)) (.cons (.con (.int 1)) .nil))) .nil)))) (.seq p26_0 (.seq (.ret (.and (.cmp .ne (.var 3) (.var 4)) (.cmp .eq (.prim .len (.cons (.dictp q26_0) .nil)) (.prim .len (.cons (.var 1) .nil))))) .nil)))) }
/-! 27: law(script) 0:script 1:state 2:turn 3:chain 4:told 5:first -/
def b27_0 : C := (.seq (.set (.var 3) (.idx (.disp (.cons (.call 23 true (.cons (.var 1) (.cons (.bin .add (.con (.int 1)) (.call 15 true (.cons (.var 1) (.cons (.idx (.disp (.cons (.con (.int 3)) (.cons (.con (.int 8)) .nil))) (.call 15 true (.cons (.var 1) (.cons (.con (.int 2)) .nil)))) .nil)))) .nil))) (.cons (.call 21 true (.cons (.var 1) (.cons (.con (.int 8)) .nil))) .nil))) (.prim .int (.cons (.cmp .eq (.call 15 true (.cons (.var 1) (.cons (.con (.int 4)) .nil))) (.con (.int 0))) .nil)))) (.seq (.set (.var 4) (.call 10 false (.cons (.var 3) .nil))) (.seq (.set (.var 5) (.call 24 false (.cons (.var 3) .nil))) (.seq (.ifs (.or (.not (.isi (.var 4) .tuple)) (.cmp .ne (.prim .len (.cons (.var 4) .nil)) (.con (.int 2)))) (.seq (.ret (.con (.bl false))) .nil) .nil) (.seq (.ifs (.isnn (.var 5)) (.seq (.ifs (.not (.call 22 false (.cons (.var 4) (.cons (.tup (.cons (.con (.str "one")) (.cons (.var 5) .nil))) .nil)))) (.seq (.ret (.con (.bl false))) .nil) .nil) .nil) (.seq (.ifs (.cmp .eq (.idx (.var 4) (.con (.int 0))) (.con (.str "balanced"))) (.seq (.ifs (.or (.not (.call 25 false (.cons (.var 3) (.cons (.idx (.var 4) (.con (.int 1))) .nil)))) (.isnn (.call 12 false (.cons (.var 3) (.cons (.idx (.var 4) (.con (.int 1))) .nil))))) (.seq (.ret (.con (.bl false))) .nil) .nil) .nil) (.seq (.ifs (.or (.cmp .ne (.idx (.var 4) (.con (.int 0))) (.con (.str "ring"))) (.or (.not (.call 26 false (.cons (.var 3) (.cons (.idx (.var 4) (.con (.int 1))) .nil)))) (.isnn (.call 13 false (.cons (.var 3) (.cons (.idx (.var 4) (.con (.int 1))) .nil)))))) (.seq (.ret (.con (.bl false))) .nil) .nil) .nil)) .nil)) .nil)))))
def p27_0 : C := .forr (.var 2) .rng1 (.cons (.con (.int 4)) .nil) b27_0
def f27 : Fn := { name := "law", ps := ["script"], dfl := [], N := ["script", "state", "turn", "chain", "told", "first"], ar := [1], body := (.seq (.set (.var 1) (.call 14 true (.cons (.var 0) .nil))) (.seq p27_0 (.seq (.ret (.con (.bl true))) .nil))) }
def fns : List Fn := [f0, f1, f2, f3, f4, f5, f6, f7, f8, f9, f10, f11, f12, f13, f14, f15, f16, f17, f18, f19, f20, f21, f22, f23, f24, f25, f26, f27]
end J.Law
namespace J.Law
open PySem J L2
theorem i0 : Is fns 0 1 1 isIntB := ⟨f0, rfl, rfl, rfl, rfl, rfl⟩
theorem i1 : Is fns 1 2 2 gcdB := ⟨f1, rfl, rfl, rfl, rfl, rfl⟩
theorem i2 : Is fns 2 2 3 (quoB 1) := ⟨f2, rfl, rfl, rfl, rfl, rfl⟩
theorem i3 : Is fns 3 2 2 (plusB 2) := ⟨f3, rfl, rfl, rfl, rfl, rfl⟩
theorem i4 : Is fns 4 2 2 (timesB 2) := ⟨f4, rfl, rfl, rfl, rfl, rfl⟩
theorem i5 : Is fns 5 2 2 (overB 2) := ⟨f5, rfl, rfl, rfl, rfl, rfl⟩
theorem i6 : Is fns 6 1 3 (accB 0 3) := ⟨f6, rfl, rfl, rfl, rfl, rfl⟩
theorem i7 : Is fns 7 1 2 (isQuoB 0 1) := ⟨f7, rfl, rfl, rfl, rfl, rfl⟩
theorem i14 : Is fns 14 1 3 startB := ⟨f14, rfl, rfl, rfl, rfl, rfl⟩
theorem i15 : Is fns 15 2 3 drawB := ⟨f15, rfl, rfl, rfl, rfl, rfl⟩
theorem i16 : Is fns 16 2 2 ldivB := ⟨f16, rfl, rfl, rfl, rfl, rfl⟩
theorem i17 : Is fns 17 2 3 (lquoC 16) := ⟨f17, rfl, rfl, rfl, rfl, rfl⟩
theorem i18 : Is fns 18 2 2 (timesB 17) := ⟨f18, rfl, rfl, rfl, rfl, rfl⟩
theorem i19 : Is fns 19 1 1 isIntB := ⟨f19, rfl, rfl, rfl, rfl, rfl⟩
theorem i20 : Is fns 20 1 1 (lisqC 19 16) := ⟨f20, rfl, rfl, rfl, rfl, rfl⟩
theorem i22 : Is fns 22 2 2 sameB := ⟨f22, rfl, rfl, rfl, rfl, rfl⟩
abbrev rwF (n : Nat) (f : Nat → Rat) : D := .tup ((List.range n).map fun j => qD (f j))
abbrev chD (n : Nat) (C : Nat → Nat → Rat) : D := .tup ((List.range n).map fun i => rwF n (C i))
structure ChOk (n : Nat) (C : Nat → Nat → Rat) : Prop where
  l1 : 1 ≤ n
  l2 : n ≤ 8
  ov : ∀ i, i < n → ∃ M, 0 < M ∧ M ≤ 1000 ∧ ∀ j, j < n → Ov M (C i j)
  nn : ∀ i j, i < n → j < n → 0 ≤ C i j
  su : ∀ i, i < n → qsum ((List.range n).map (C i)) = 1
section
variable {S : Store} {n : Nat} {C : Nat → Nat → Rat}
theorem ChOk.le (h : ChOk n C) {i j : Nat} (hi : i < n) (hj : j < n) : C i j ≤ 1 := by
  rw [← h.su i hi]
  refine mem_le_qsum (fun r hr => ?_) (List.mem_map.mpr ⟨j, List.mem_range.mpr hj, rfl⟩)
  obtain ⟨k, hk, rfl⟩ := List.mem_map.mp hr
  exact h.nn i k hi (List.mem_range.mp hk)
theorem ChOk.ft (h : ChOk n C) {i j : Nat} (hi : i < n) (hj : j < n) : Ft 10 (C i j) := by
  obtain ⟨M, h0, h1, h2⟩ := h.ov i hi
  exact ft_of (c := 0) (h2 j hj) h0 (by omega) (h.nn i j hi hj) (h.le hi hj)
theorem ChOk.den (h : ChOk n C) {i j : Nat} (hi : i < n) (hj : j < n) : (C i j).den ≤ 1000 := by
  obtain ⟨M, h0, h1, h2⟩ := h.ov i hi
  exact Nat.le_trans (Nat.le_of_dvd h0 (h2 j hj).dvd) h1
/-- is_quotient of a quotient -/
theorem isq (k : Nat) (r : Rat) : frzO S (run fns (k + 2) false 7 [qD r] S) = some (.ok (.bl true) S) := frz_same (r_isQuoQ i0 i1 i7 k S r) (by simp)
theorem r8 (k : Nat) (h : ChOk n C) {i : Nat} (hi : i < n) : run fns (k + 6) false 8 [rwF n (C i), .int (n : Int)] S = some (.ok (.bl true) S) := by
  rw [Is.run (⟨f8, rfl, rfl, rfl, rfl, rfl⟩ : Is fns 8 2 3 _) rfl]
  have l2 := h.l2
  obtain ⟨M, h0, h1, h2⟩ := h.ov i hi
  have e1 : ev ⟨false, run fns (k + 5) false⟩ q8_0 [some (rwF n (C i)), some (.int (n : Int)), none] S = some (.ok (.lst ((List.range n).map fun _ => .bl true)) S) := by
    refine comp_map (emb := fun j => qD (C i j)) (xs := List.range n) (ds := [rwF n (C i)]) (gs := [none]) (g := fun _ => .bl true) rfl (by simp) (by simp [iterS, guardOf]) gN (by simp; omega) fun j hj => ?_
    have hj := List.mem_range.mp hj
    have q := isq (S := S) (k + 3) (C i j)
    have nn : (0 : Int) ≤ (C i j).num := Rat.num_nonneg.mpr (h.nn i j hi hj)
    have ix : idxS (qD (C i j)) (.int 0) S = some (.int (C i j).num) := rfl
    generalize qD (C i j) = Q at *
    simp [t_turn, wipeE, q, ix, nn]
  have e2 := frz_same (r_sumQ i1 i2 i3 i6 (k + 1) S (M := M) (n := 10) (c := 0) (rs := (List.range n).map (C i)) (rows := rwF n (C i)) (.inl (by simp [rwF])) (fun r hr => by
    obtain ⟨j, hj, rfl⟩ := List.mem_map.mp hr
    exact h2 j (List.mem_range.mp hj)) (fun r hr => by
    obtain ⟨j, hj, rfl⟩ := List.mem_map.mp hr
    exact h.nn i j hi (List.mem_range.mp hj)) (by rw [h.su i hi]; decide) h0 (by omega) (by omega)) (by simp)
  rw [h.su i hi] at e2
  have hn : cmpS .ne (.int (n : Int)) (.int (n : Int)) S = some false := by simp
  have ln : primS .len [rwF n (C i)] S = some (.int (n : Int)) := by simp
  have hb : isiS (rwF n (C i)) .tuple S = some true := rfl
  generalize rwF n (C i) = R at *
  simp [f8, e1, e2, eq_one, ln, hb]
theorem all_t {n : Nat} : ((List.range n).map fun _ => D.bl true) = (List.range n).map fun _ => D.bl true := rfl
theorem it_ch : iterS .val [chD n C] S = some ((List.range n).map fun i => rwF n (C i), [none]) := by simp
/-- check_chain -/
theorem r9 (k : Nat) (h : ChOk n C) : run fns (k + 7) false 9 [chD n C] S = some (.ok .non S) := by
  rw [Is.run (⟨f9, rfl, rfl, rfl, rfl, rfl⟩ : Is fns 9 1 3 _) rfl]
  have l1 := h.l1
  have l2 := h.l2
  obtain ⟨_, _, e, o1, rfl, rfl⟩ := for_inv (p := p9_0) (G := fun h' => ⟨h', run fns (k + 6) h'⟩) (emb := fun (i : Nat) => rwF n (C i)) (gs := [none]) (ds := [chD n C]) (env := [some (chD n C), none, none]) (S := S) rfl
    (fun pre env' S' => ∃ o1, env' = [some (chD n C), o1, none] ∧ S = S') (List.range n) ⟨none, rfl, rfl⟩ (by simp) it_ch (fun _ _ _ _ => gN) (by
      rintro p i r env S1 he ⟨o1, rfl, rfl⟩
      obtain ⟨rfl, hi⟩ := range_at he
      have e8 := frz_same (r8 (S := S) k h hi) (by simp)
      have ea : ev ⟨false, run fns (k + 6) false⟩ q9_0 [some (chD n C), some (rwF n (C p.length)), none] S = some (.ok (.lst ((List.range n).map fun _ => .bl false)) S) := by
        refine comp_map (emb := fun j => qD (C p.length j)) (xs := List.range n) (ds := [rwF n (C p.length)]) (gs := [none]) (g := fun _ => .bl false) rfl (by simp) (by simp [iterS, guardOf]) gN (by simp; omega) fun j hj => ?_
        have hj := List.mem_range.mp hj
        have hd := h.den hi hj
        have ix : idxS (qD (C p.length j)) (.int 1) S = some (.int ((C p.length j).den : Int)) := rfl
        have hd2 : ¬ (1000 : Int) < ((C p.length j).den : Int) := by omega
        generalize qD (C p.length j) = Q at *
        generalize rwF n (C p.length) = R at *
        simp [t_turn, wipeE, ix, hd2]
      have ln : primS .len [chD n C] S = some (.int (n : Int)) := by simp
      generalize chD n C = CH at *
      generalize rwF n (C p.length) = R at *
      refine ⟨_, _, .inl ?_, some R, rfl, rfl⟩
      simp [turnL, b9_0, ln, e8, ea])
  have ln : primS .len [chD n C] S = some (.int (n : Int)) := by simp
  have hb : isiS (chD n C) .tuple S = some true := rfl
  have h1 : (1 : Int) ≤ n := by omega
  have h2 : (n : Int) ≤ 8 := by omega
  generalize chD n C = CH at *
  simp [f9, ln, hb, h1, h2, e]
/-! ### the first one-way step -/
theorem find_step {α : Type} {f : Nat → Option α} {p r : List Nat} {x n : Nat} (he : List.range n = p ++ x :: r) (hp : p.findSome? f = none) : ((p ++ [x]).findSome? f = f x) ∧ (∀ s, f x = some s → (List.range n).findSome? f = some s) := by
  have e1 : (p ++ [x]).findSome? f = f x := by
    rw [List.findSome?_append, hp]
    simp [List.findSome?_cons]
    cases f x <;> rfl
  refine ⟨e1, fun s hs => ?_⟩
  rw [he, List.findSome?_append, hp, List.findSome?_cons, hs]
  rfl
def fB (C : Nat → Nat → Rat) (i j : Nat) : Bool := decide (0 < (C i j).num) && decide ((C j i).num = 0)
def fP (C : Nat → Nat → Rat) (i j : Nat) : Option (Nat × Nat) := if fB C i j then some (i, j) else none
def fR (C : Nat → Nat → Rat) (n i : Nat) : Option (Nat × Nat) := (List.range n).findSome? (fP C i)
def fst (C : Nat → Nat → Rat) (n : Nat) : Option (Nat × Nat) := (List.range n).findSome? (fR C n)
abbrev prD (p : Nat × Nat) : D := .tup [.int (p.1 : Int), .int (p.2 : Int)]
theorem ch_at (i j : Nat) (hi : i < n) (hj : j < n) : atI ((List.range n).map fun i => rwF n (C i)) (i : Int) = some (rwF n (C i)) ∧ atI ((List.range n).map fun j => qD (C i j)) (j : Int) = some (qD (C i j)) :=
  ⟨atI_map (f := fun i => rwF n (C i)) (xs := List.range n) (by omega) (by rw [Int.toNat_natCast]; exact List.getElem?_range hi), atI_map (f := fun j => qD (C i j)) (xs := List.range n) (by omega) (by rw [Int.toNat_natCast]; exact List.getElem?_range hj)⟩
/-- chain[i][j] -/
theorem ch_ix (i j : Nat) (hi : i < n) (hj : j < n) : idxS (chD n C) (.int (i : Int)) S = some (rwF n (C i)) ∧ idxS (rwF n (C i)) (.int (j : Int)) S = some (qD (C i j)) := by
  obtain ⟨a, b⟩ := ch_at (C := C) i j hi hj
  exact ⟨by simpa using a, by simpa using b⟩
theorem in10 (k : Nat) (i : Nat) (hi : i < n) (hn : n ≤ 8) {e2 e3 e4 e5 e6 e7 e8 e9 e10 : Option D} :
    (fR C n i = none ∧ ∃ o5, exec (fun h' => ⟨h', run fns k h'⟩) p10_3 false [some (chD n C), some (.int (i : Int)), e2, e3, e4, e5, e6, e7, e8, e9, e10] S = some (.nx [some (chD n C), some (.int (i : Int)), e2, e3, e4, o5, e6, e7, e8, e9, e10], S)) ∨
    ∃ p, fR C n i = some p ∧ exec (fun h' => ⟨h', run fns k h'⟩) p10_3 false [some (chD n C), some (.int (i : Int)), e2, e3, e4, e5, e6, e7, e8, e9, e10] S = some (.rt (.tup [.str "one", prD p]), S) := by
  have := for_ret (p := p10_3) (G := fun h' => ⟨h', run fns k h'⟩) (emb := fun (j : Nat) => D.int (j : Int)) (gs := []) (ds := [.int (n : Int)]) (env := [some (chD n C), some (.int (i : Int)), e2, e3, e4, e5, e6, e7, e8, e9, e10]) (S := S) rfl
    (fun pre env' S' => pre.findSome? (fP C i) = none ∧ ∃ o5, env' = [some (chD n C), some (.int (i : Int)), e2, e3, e4, o5, e6, e7, e8, e9, e10] ∧ S' = S) (fun d S' => ∃ p, fR C n i = some p ∧ d = .tup [.str "one", prD p] ∧ S' = S) (List.range n) ⟨rfl, e5, rfl, rfl⟩ (by simp) (by
      rw [it_rng1 (rngOkS (by omega) (by omega))]
      simp) (fun _ _ _ _ => g0) (by
      rintro p j r env S1 he ⟨hp, o5, rfl, rfl⟩
      obtain ⟨hs, hf⟩ := find_step he hp
      obtain ⟨rfl, hj⟩ := range_at he
      obtain ⟨a1, a2⟩ := ch_ix (S := S1) (C := C) i p.length hi hj
      obtain ⟨b1, b2⟩ := ch_ix (S := S1) (C := C) p.length i hj hi
      have c1 : idxS (qD (C i p.length)) (.int 0) S1 = some (.int (C i p.length).num) := rfl
      have c2 : idxS (qD (C p.length i)) (.int 0) S1 = some (.int (C p.length i).num) := rfl
      generalize qD (C i p.length) = Q1 at *
      generalize qD (C p.length i) = Q2 at *
      generalize chD n C = CH at *
      generalize rwF n (C i) = R1 at *
      generalize rwF n (C p.length) = R2 at *
      by_cases h1 : 0 < (C i p.length).num
      · by_cases h2 : (C p.length i).num = 0
        · have e : fP C i p.length = some (i, p.length) := by unfold fP fB; simp [h1, h2]
          refine .inr ⟨_, _, ?_, _, hf _ e, rfl, rfl⟩
          simp [turnL, b10_3, a1, a2, b1, b2, c1, c2, h1, h2]
        · have e : fP C i p.length = none := by unfold fP fB; simp [h1, h2]
          refine .inl ⟨_, _, .inl ?_, hs.trans e, some (.int (p.length : Int)), rfl, rfl⟩
          simp [turnL, b10_3, a1, a2, b1, b2, c1, c2, h1, h2]
      · have e : fP C i p.length = none := by unfold fP fB; simp [h1]
        refine .inl ⟨_, _, .inl ?_, hs.trans e, some (.int (p.length : Int)), rfl, rfl⟩
        simp [turnL, b10_3, a1, a2, b1, b2, c1, c2, h1])
  rcases this with ⟨_, _, e, hp, o5, rfl, rfl⟩ | ⟨_, _, e, p, hf, rfl, rfl⟩
  · exact .inl ⟨hp, o5, e⟩
  · exact .inr ⟨p, hf, e⟩
theorem out10 (k : Nat) (hn : n ≤ 8) {e1 e2 e3 e4 e5 e6 e7 e8 e9 e10 : Option D} :
    (fst C n = none ∧ ∃ o1 o5, exec (fun h' => ⟨h', run fns k h'⟩) p10_4 false [some (chD n C), e1, e2, e3, e4, e5, e6, e7, e8, e9, e10] S = some (.nx [some (chD n C), o1, e2, e3, e4, o5, e6, e7, e8, e9, e10], S)) ∨
    ∃ p, fst C n = some p ∧ exec (fun h' => ⟨h', run fns k h'⟩) p10_4 false [some (chD n C), e1, e2, e3, e4, e5, e6, e7, e8, e9, e10] S = some (.rt (.tup [.str "one", prD p]), S) := by
  have := for_ret (p := p10_4) (G := fun h' => ⟨h', run fns k h'⟩) (emb := fun (j : Nat) => D.int (j : Int)) (gs := []) (ds := [.int (n : Int)]) (env := [some (chD n C), e1, e2, e3, e4, e5, e6, e7, e8, e9, e10]) (S := S) rfl
    (fun pre env' S' => pre.findSome? (fR C n) = none ∧ ∃ o1 o5, env' = [some (chD n C), o1, e2, e3, e4, o5, e6, e7, e8, e9, e10] ∧ S' = S) (fun d S' => ∃ p, fst C n = some p ∧ d = .tup [.str "one", prD p] ∧ S' = S) (List.range n) ⟨rfl, e1, e5, rfl, rfl⟩ (by simp) (by
      rw [it_rng1 (rngOkS (by omega) (by omega))]
      simp) (fun _ _ _ _ => g0) (by
      rintro p i r env S1 he ⟨hp, o1, o5, rfl, rfl⟩
      obtain ⟨hs, hf⟩ := find_step he hp
      obtain ⟨rfl, hi⟩ := range_at he
      rcases in10 (S := S1) (C := C) k p.length hi hn (e2 := e2) (e3 := e3) (e4 := e4) (e5 := o5) (e6 := e6) (e7 := e7) (e8 := e8) (e9 := e9) (e10 := e10) with ⟨hr, c5, e⟩ | ⟨q, hr, e⟩
      · refine .inl ⟨_, _, .inl ?_, hs.trans hr, some (.int (p.length : Int)), c5, rfl, rfl⟩
        generalize chD n C = CH at *
        simp [turnL, b10_4, e]
      · refine .inr ⟨_, _, ?_, q, hf _ hr, rfl, rfl⟩
        generalize chD n C = CH at *
        simp [turnL, b10_4, e])
  rcases this with ⟨_, _, e, hp, o1, o5, rfl, rfl⟩ | ⟨_, _, e, p, hf, rfl, rfl⟩
  · exact .inl ⟨hp, o1, o5, e⟩
  · exact .inr ⟨p, hf, e⟩
end
end J.Law
namespace J.Law
open PySem J L2
/-! ### the search, plain -/
structure En where
  s : Nat
  w : Rat
  b : Option Nat
def en0 : En := ⟨0, 1, none⟩
abbrev kS (K : List En) (i : Nat) : Nat := (nth K i en0).s
abbrev kW (K : List En) (i : Nat) : Rat := (nth K i en0).w
abbrev kB (K : List En) (i : Nat) : Option Nat := (nth K i en0).b
/-- weights stand as the step asks -/
def rel (C : Nat → Nat → Rat) (h o : Nat) (wh wo : Rat) : Prop := wo = wh * (C h o / C o h)
structure Ks (C : Nat → Nat → Rat) (n : Nat) (K : List En) : Prop where
  nd : ∀ i j, i < K.length → j < K.length → kS K i = kS K j → i = j
  lt : ∀ i, i < K.length → kS K i < n
  pos : ∀ i, i < K.length → 0 < kW K i
  ft : ∀ i, i < K.length → Ft (20 * i + 1) (kW K i)
/-- the parents from r on: r itself has none -/
structure Pr (C : Nat → Nat → Rat) (K : List En) (r : Nat) : Prop where
  r0 : kB K r = none
  up : ∀ i, r < i → i < K.length → ∃ j, r ≤ j ∧ j < i ∧ kB K i = some (kS K j) ∧ 0 < C (kS K j) (kS K i) ∧ kW K i = kW K j * (C (kS K j) (kS K i) / C (kS K i) (kS K j))
/-- the states before q are done, within the first b -/
def Dn (C : Nat → Nat → Rat) (n : Nat) (K : List En) (q b : Nat) : Prop := ∀ i, i < q → ∀ o, o < n → 0 < C (kS K i) o → o ≠ kS K i → ∃ j, j < b ∧ kS K j = o ∧ rel C (kS K i) o (kW K i) (kW K j)
/-- where a step is possible the way back is too -/
def Two (C : Nat → Nat → Rat) (n : Nat) : Prop := ∀ i j, i < n → j < n → 0 < C i j → 0 < C j i
/-- from i up to the root -/
inductive Pa (K : List En) : Nat → List Nat → Prop
  | root {i : Nat} (h : kB K i = none) : Pa K i [i]
  | up {i j : Nat} {l : List Nat} (h : kB K i = some (kS K j)) (hj : j < i) (hi : i < K.length) (p : Pa K j l) : Pa K i (i :: l)
section
variable {C : Nat → Nat → Rat} {n : Nat} {K : List En} {r : Nat}
theorem Pa.head {i : Nat} {l : List Nat} (h : Pa K i l) : ∃ t, l = i :: t := by
  cases h with
  | root _ => exact ⟨_, rfl⟩
  | up _ _ _ _ => exact ⟨_, rfl⟩
theorem Pa.next {i : Nat} {l : List Nat} (h : Pa K i l) : l = [i] ∨ ∃ j l', l = i :: l' ∧ kB K i = some (kS K j) ∧ j < i ∧ i < K.length ∧ Pa K j l' := by
  cases h with
  | root _ => exact .inl rfl
  | up a b c d => exact .inr ⟨_, _, rfl, a, b, c, d⟩
theorem pa_ex (hp : Pr C K r) : ∀ i, r ≤ i → i < K.length → ∃ l, Pa K i l ∧ (∀ x ∈ l, r ≤ x ∧ x ≤ i) ∧ ∃ a, l = a ++ [r] := by
  intro i
  induction i using Nat.strongRecOn with
  | ind i ih =>
    intro h1 h2
    by_cases hr : i = r
    · subst hr
      exact ⟨[i], .root hp.r0, by simp, [], rfl⟩
    · obtain ⟨j, a, b, c, _, _⟩ := hp.up i (by omega) h2
      obtain ⟨l, p, q, z, hz⟩ := ih j b a (by omega)
      refine ⟨i :: l, .up c b h2 p, fun x hx => ?_, i :: z, by rw [hz]; rfl⟩
      rcases List.mem_cons.mp hx with e | e
      · omega
      · have := q x e
        omega
theorem Pa.uniq (nd : ∀ i j, i < K.length → j < K.length → kS K i = kS K j → i = j) {i : Nat} {l l' : List Nat} (h : Pa K i l) (h' : Pa K i l') : l = l' := by
  induction h generalizing l' with
  | root h =>
    cases h' with
    | root _ => rfl
    | up g _ _ _ => rw [h] at g; cases g
  | up h hj hi p ih =>
    cases h' with
    | root g => rw [h] at g; cases g
    | up g gj gi p' =>
      have e := h.symm.trans g
      have e := Option.some.inj e
      have := nd _ _ (by omega) (by omega) e
      subst this
      rw [ih p']
theorem Pa.suf {i x : Nat} {l a t : List Nat} (h : Pa K i l) (e : l = a ++ x :: t) : Pa K x (x :: t) := by
  induction h generalizing a with
  | root g =>
    cases a with
    | nil => cases e; exact .root g
    | cons y a =>
      exfalso
      have := congrArg List.length e
      simp at this
  | up g hj hi p ih =>
    cases a with
    | nil =>
      cases e
      exact .up g hj hi p
    | cons y a =>
      cases e
      exact ih rfl
theorem Pa.dec {i : Nat} {l : List Nat} (h : Pa K i l) : l.Pairwise (· > ·) ∧ ∀ x ∈ l, x ≤ i := by
  induction h with
  | root g => exact ⟨by simp, by simp⟩
  | up g hj hi p ih =>
    obtain ⟨a, b⟩ := ih
    refine ⟨List.pairwise_cons.mpr ⟨fun x hx => by have := b x hx; omega, a⟩, fun x hx => ?_⟩
    rcases List.mem_cons.mp hx with e | e
    · omega
    · have := b x e
      omega
/-- the product of the steps along a walk -/
def Fp (C : Nat → Nat → Rat) : List Nat → Rat
  | a :: b :: l => C a b * Fp C (b :: l)
  | _ => 1
abbrev Bp (C : Nat → Nat → Rat) (l : List Nat) : Rat := Fp (fun a b => C b a) l
theorem Fp.app (C : Nat → Nat → Rat) (a b : Nat) (m : List Nat) : ∀ l : List Nat, Fp C (l ++ a :: b :: m) = Fp C (l ++ [a]) * C a b * Fp C (b :: m)
  | [] => by
    simp only [List.nil_append, Fp]
    grind
  | [x] => by
    simp only [List.cons_append, List.nil_append, Fp]
    grind
  | x :: y :: l => by
    have ih := Fp.app C a b m (y :: l)
    simp only [List.cons_append, Fp] at ih ⊢
    rw [ih]
    grind
theorem Fp.rev (C : Nat → Nat → Rat) : ∀ l : List Nat, Fp C l.reverse = Bp C l
  | [] => rfl
  | [x] => rfl
  | x :: y :: l => by
    have ih := Fp.rev C (y :: l)
    rw [List.reverse_cons, List.reverse_cons, List.append_assoc]
    have := Fp.app C y x [] l.reverse
    have e : [y] ++ [x] = [y, x] := rfl
    rw [e, this]
    rw [List.reverse_cons] at ih
    rw [ih]
    simp only [Bp, Fp]
    grind
theorem Fp.pos {C : Nat → Nat → Rat} : ∀ l : List Nat, (∀ p a b q, l = p ++ a :: b :: q → 0 < C a b) → 0 < Fp C l
  | [], _ => by show (0 : Rat) < 1; decide
  | [x], _ => by show (0 : Rat) < 1; decide
  | x :: y :: l, h => by
    have a := h [] x y l rfl
    have b := Fp.pos (y :: l) fun p a b q e => h (x :: p) a b q (by rw [e]; rfl)
    exact Rat.mul_pos a b
/-- along a way up -/
theorem pa_prod (hk : Ks C n K) (hp : Pr C K r) (h2 : Two C n) : ∀ (a : List Nat) (i c : Nat) (t : List Nat), Pa K i (a ++ c :: t) → (∀ x ∈ a ++ [c], r ≤ x ∧ x < K.length) →
    0 < Fp C ((a ++ [c]).map (kS K)) ∧ 0 < Bp C ((a ++ [c]).map (kS K)) ∧ kW K i * Fp C ((a ++ [c]).map (kS K)) = kW K c * Bp C ((a ++ [c]).map (kS K))
  | [], i, c, t, h, hx => by
    obtain ⟨s, hs⟩ := h.head
    cases hs
    refine ⟨by show (0 : Rat) < 1; decide, by show (0 : Rat) < 1; decide, rfl⟩
  | x :: a, i, c, t, h, hx => by
    obtain ⟨s, hs⟩ := h.head
    have hxi : x = i := by
      have := congrArg List.head? hs
      simpa using this
    subst hxi
    have hxr := hx x (by simp)
    rcases h.next with q | ⟨j, l, q, g, hj, hi, p⟩
    · exfalso
      have := congrArg List.length q
      simp at this
    · have ht : Pa K j (a ++ c :: t) := by
        have : a ++ c :: t = l := by simpa using q
        rw [this]
        exact p
      have hx' : ∀ y ∈ a ++ [c], r ≤ y ∧ y < K.length := fun y hy => hx y (by simp at hy ⊢; right; exact hy)
      obtain ⟨p1, p2, p3⟩ := pa_prod hk hp h2 a j c t ht hx'
      -- the step from x to its parent j
      have hjr : r ≤ j ∧ j < K.length := by
        obtain ⟨u, hu⟩ := ht.head
        refine hx' j ?_
        cases a with
        | nil => cases hu; simp
        | cons y a => cases hu; simp
      have hrx : r < x := by omega
      obtain ⟨j', a1, a2, a3, a4, a5⟩ := hp.up x hrx hi
      have ej : j' = j := hk.nd _ _ (by omega) hjr.2 (Option.some.inj (a3.symm.trans g))
      subst ej
      have b4 := h2 _ _ (hk.lt _ hjr.2) (hk.lt _ hi) a4
      have hd : ∃ m, (a ++ [c]).map (kS K) = kS K j' :: m := by
        obtain ⟨u, hu⟩ := ht.head
        cases a with
        | nil => cases hu; exact ⟨[], rfl⟩
        | cons y a => cases hu; exact ⟨_, rfl⟩
      obtain ⟨m, hm⟩ := hd
      have e1 : ((x :: a) ++ [c]).map (kS K) = kS K x :: kS K j' :: m := by rw [List.cons_append, List.map_cons, hm]
      rw [e1]
      rw [hm] at p1 p2 p3
      have f1 : Fp C (kS K x :: kS K j' :: m) = C (kS K x) (kS K j') * Fp C (kS K j' :: m) := rfl
      have f2 : Bp C (kS K x :: kS K j' :: m) = C (kS K j') (kS K x) * Bp C (kS K j' :: m) := rfl
      rw [f1, f2]
      refine ⟨Rat.mul_pos b4 p1, Rat.mul_pos a4 p2, ?_⟩
      have ne : C (kS K x) (kS K j') ≠ 0 := fun e => by rw [e] at b4; exact absurd b4 (Rat.lt_irrefl)
      have key : kW K x * C (kS K x) (kS K j') = kW K j' * C (kS K j') (kS K x) := by
        rw [a5, Rat.mul_assoc, Rat.div_mul_cancel ne]
      have : kW K x * (C (kS K x) (kS K j') * Fp C (kS K j' :: m)) = (kW K x * C (kS K x) (kS K j')) * Fp C (kS K j' :: m) := by grind
      rw [this, key]
      have : kW K j' * C (kS K j') (kS K x) * Fp C (kS K j' :: m) = C (kS K j') (kS K x) * (kW K j' * Fp C (kS K j' :: m)) := by grind
      rw [this, p3]
      grind
end
end J.Law
namespace J.Law
open PySem J L2
section
variable {C : Nat → Nat → Rat} {n : Nat} {K : List En} {r : Nat}
theorem rat_ne' {r : Rat} (h : 0 < r) : r ≠ 0 := fun e => by
  rw [e] at h
  exact absurd h Rat.lt_irrefl
theorem rat_can {z a b : Rat} (hz : z ≠ 0) (h : z * a = z * b) : a = b := by
  have e1 : ∀ x, z⁻¹ * (z * x) = x := fun x => by rw [← Rat.mul_assoc, Rat.inv_mul_cancel _ hz, Rat.one_mul]
  rw [← e1 a, h, e1]
theorem last_app {α : Type} {a b : List α} {x : α} : (a ++ x :: b).getLast? = (x :: b).getLast? := by
  rw [List.getLast?_append]
  cases h : (x :: b).getLast? with
  | none => simp at h
  | some y => rfl
theorem ring_nd (hk : Ks C n K) {q j c : Nat} {A B t : List Nat} (p1 : Pa K q (A ++ c :: t)) (p2 : Pa K j (B ++ c :: t)) (cut : A = [] ∨ B = [] ∨ A.getLast? ≠ B.getLast?) : ((A ++ [c]).reverse ++ B).Nodup := by
  have d1 := p1.dec.1
  have d2 := p2.dec.1
  rw [List.pairwise_append] at d1 d2
  obtain ⟨a1, _, a3⟩ := d1
  obtain ⟨b1, _, b3⟩ := d2
  rw [List.nodup_append]
  refine ⟨?_, b1.imp fun h => by omega, ?_⟩
  · rw [List.reverse_append]
    show ([c].reverse ++ A.reverse).Nodup
    rw [List.nodup_append]
    refine ⟨by simp, ?_, ?_⟩
    · show A.reverse.Pairwise (· ≠ ·)
      rw [List.pairwise_reverse]
      exact a1.imp fun h => by omega
    · intro x hx y hy
      have : x = c := by simpa using hx
      subst this
      have := a3 y (by simpa using hy) x (by simp)
      omega
  · intro x hx y hy e
    subst e
    have hx : x ∈ A ∨ x = c := by
      have := List.mem_reverse.mp hx
      simpa using this
    rcases hx with hx | rfl
    · obtain ⟨A1, A2, eA⟩ := List.append_of_mem hx
      obtain ⟨B1, B2, eB⟩ := List.append_of_mem hy
      have s1 := p1.suf (x := x) (a := A1) (t := A2 ++ c :: t) (by rw [eA]; simp)
      have s2 := p2.suf (x := x) (a := B1) (t := B2 ++ c :: t) (by rw [eB]; simp)
      have u := s1.uniq hk.nd s2
      have u := (List.cons.inj u).2
      have u := List.append_cancel_right u
      rcases cut with rfl | rfl | h
      · cases hx
      · cases hy
      · apply h
        rw [eA, eB, last_app, last_app, u]
    · have := b3 x hy x (by simp)
      omega
theorem ring_law (hk : Ks C n K) (hp : Pr C K r) (h2 : Two C n) {q j c : Nat} {A B t : List Nat} (p1 : Pa K q (A ++ c :: t)) (p2 : Pa K j (B ++ c :: t)) (bA : ∀ x ∈ A ++ [c], r ≤ x ∧ x < K.length) (bB : ∀ x ∈ B ++ [c], r ≤ x ∧ x < K.length)
    (hq : q < K.length) (hj : j < K.length) (hne : kS K j ≠ kS K q) (pos : 0 < C (kS K q) (kS K j)) (hw : ¬ rel C (kS K q) (kS K j) (kW K q) (kW K j)) :
    2 ≤ ((A ++ [c]).reverse ++ B).length ∧ Fp C (((A ++ [c]).reverse ++ B ++ [c]).map (kS K)) ≠ Bp C (((A ++ [c]).reverse ++ B ++ [c]).map (kS K)) := by
  obtain ⟨u, hu⟩ : ∃ u, A ++ [c] = q :: u := by
    obtain ⟨s, hs⟩ := p1.head
    cases A with
    | nil => cases hs; exact ⟨[], rfl⟩
    | cons y a => cases hs; exact ⟨_, rfl⟩
  obtain ⟨v, hv⟩ : ∃ v, B ++ [c] = j :: v := by
    obtain ⟨s, hs⟩ := p2.head
    cases B with
    | nil => cases hs; exact ⟨[], rfl⟩
    | cons y a => cases hs; exact ⟨_, rfl⟩
  constructor
  · rw [List.length_append, List.length_reverse, List.length_append]
    rcases A with _ | ⟨x, A⟩
    · rcases B with _ | ⟨y, B⟩
      · exfalso
        cases hu
        cases hv
        exact hne rfl
      · simp
        omega
    · simp
      omega
  · obtain ⟨x1, x2, x3⟩ := pa_prod hk hp h2 A q c t p1 bA
    obtain ⟨y1, y2, y3⟩ := pa_prod hk hp h2 B j c t p2 bB
    have hc : c < K.length := (bA c (by simp)).2
    have wq := hk.pos q hq
    have wj := hk.pos j hj
    have wc := hk.pos c hc
    have back := h2 _ _ (hk.lt q hq) (hk.lt j hj) pos
    have ne : C (kS K j) (kS K q) ≠ 0 := fun e => by rw [e] at back; exact absurd back (Rat.lt_irrefl)
    have eW : ((A ++ [c]).reverse ++ B ++ [c]).map (kS K) = (u.reverse).map (kS K) ++ kS K q :: kS K j :: v.map (kS K) := by
      rw [List.append_assoc, hu, hv]
      simp
    have eA : (u.reverse).map (kS K) ++ [kS K q] = ((A ++ [c]).map (kS K)).reverse := by
      rw [hu]
      simp
    have eB : kS K j :: v.map (kS K) = (B ++ [c]).map (kS K) := by
      rw [hv]
      rfl
    have fW : Fp C (((A ++ [c]).reverse ++ B ++ [c]).map (kS K)) = Bp C ((A ++ [c]).map (kS K)) * C (kS K q) (kS K j) * Fp C ((B ++ [c]).map (kS K)) := by
      rw [eW, Fp.app, eA, eB, Fp.rev]
    have bW : Bp C (((A ++ [c]).reverse ++ B ++ [c]).map (kS K)) = Fp C ((A ++ [c]).map (kS K)) * C (kS K j) (kS K q) * Bp C ((B ++ [c]).map (kS K)) := by
      show Fp (fun a b => C b a) _ = _
      rw [eW, Fp.app, eA, eB, Fp.rev]
    intro e
    rw [fW, bW] at e
    apply hw
    unfold rel
    generalize Fp C ((A ++ [c]).map (kS K)) = F1 at *
    generalize Bp C ((A ++ [c]).map (kS K)) = B1 at *
    generalize Fp C ((B ++ [c]).map (kS K)) = F2 at *
    generalize Bp C ((B ++ [c]).map (kS K)) = B2 at *
    generalize kW K q = Wq at *
    generalize kW K j = Wj at *
    generalize kW K c = Wc at *
    generalize C (kS K q) (kS K j) = X at *
    generalize C (kS K j) (kS K q) = Y at *
    -- Wq F1 = Wc B1, Wj F2 = Wc B2, B1 X F2 = F1 Y B2
    have k1 : (B1 * X * F2) * (Wc * Wj) = (F1 * Y * B2) * (Wc * Wj) := by rw [e]
    have k2 : (B1 * X * F2) * (Wc * Wj) = (Wc * B1) * X * (Wj * F2) := by grind
    have k3 : (F1 * Y * B2) * (Wc * Wj) = F1 * Y * (Wc * B2) * Wj := by grind
    rw [k2, k3, ← x3, y3] at k1
    have k4 : (F1 * (Wc * B2)) * (Wq * X) = (F1 * (Wc * B2)) * (Wj * Y) := by grind
    have k5 : Wq * X = Wj * Y := by
      have z : F1 * (Wc * B2) ≠ 0 := rat_ne' (Rat.mul_pos x1 (Rat.mul_pos wc y2))
      exact rat_can z k4
    rw [Rat.div_def, ← Rat.mul_assoc, k5, Rat.mul_assoc, Rat.mul_inv_cancel _ ne, Rat.mul_one]
end
end J.Law
namespace J.Law
open PySem J L2
/-! ### dicts keyed by states -/
abbrev mp (f : En → D) (K : List En) : List (D × D) := K.map fun e => (.int (e.s : Int), f e)
abbrev wE1 (e : En) : D := qD e.w
def oI : Option Nat → D
  | none => .non
  | some p => .int (p : Int)
abbrev bE1 (e : En) : D := oI e.b
def fnd (K : List En) (o : Nat) : Option En := K.find? fun e => decide (e.s = o)
theorem mp_cons (f : En → D) (e : En) (K : List En) : mp f (e :: K) = (.int (e.s : Int), f e) :: mp f K := rfl
theorem dget_mp (f : En → D) (o : Nat) : ∀ K : List En, dget (.int (o : Int)) (mp f K) = some ((fnd K o).map f)
  | [] => rfl
  | e :: K => by
    have ih := dget_mp f o K
    rw [mp_cons]
    unfold dget
    rw [eqD_int]
    by_cases h : e.s = o
    · have : ((e.s : Int) = (o : Int)) := by omega
      simp [this, fnd, h]
    · have : ¬ ((e.s : Int) = (o : Int)) := by omega
      have e2 : fnd (e :: K) o = fnd K o := by simp [fnd, h]
      rw [e2]
      simp only [decide_eq_false this, ih]
theorem dput_mp (f : En → D) {K : List En} {o : Nat} {v : D} (h : fnd K o = none) : dput (.int (o : Int)) v (mp f K) = some (mp f K ++ [(.int (o : Int), v)]) := by
  unfold dput
  rw [dget_mp, h]
  rfl
theorem fnd_none {K : List En} {o : Nat} : fnd K o = none ↔ ∀ i, i < K.length → kS K i ≠ o := by
  unfold fnd
  rw [List.find?_eq_none]
  constructor
  · intro h i hi
    have := h _ (nth_mem (d := en0) hi)
    simpa using this
  · intro h e he
    obtain ⟨i, hi, q⟩ := List.getElem_of_mem he
    have := h i hi
    have e2 := nth_eq (xs := K) (d := en0) hi
    rw [List.getElem?_eq_getElem hi, q] at e2
    have e2 := Option.some.inj e2
    unfold kS at this
    rw [← e2] at this
    simpa using this
theorem fnd_at {K : List En} (nd : ∀ i j, i < K.length → j < K.length → kS K i = kS K j → i = j) {i : Nat} (hi : i < K.length) : fnd K (kS K i) = some (nth K i en0) := by
  unfold fnd
  cases h : K.find? (fun e => decide (e.s = kS K i)) with
  | none =>
    have := fnd_none.mp h i hi
    exact absurd rfl this
  | some e =>
    have h1 := List.mem_of_find?_eq_some h
    have h2 := List.find?_some h
    have h2 : e.s = kS K i := by simpa using h2
    obtain ⟨j, hj, q⟩ := List.getElem_of_mem h1
    have e2 := nth_eq (xs := K) (d := en0) hj
    rw [List.getElem?_eq_getElem hj, q] at e2
    have e2 := Option.some.inj e2
    have : j = i := nd j i hj hi (by unfold kS at h2 ⊢; rw [← e2]; exact h2)
    subst this
    rw [e2]
section
variable {S : Store} {l : Nat} {f : En → D} {K : List En}
theorem idx_dct (h : S[l]? = some (.dct (mp f K))) (o : Nat) : idxS (.loc l) (.int (o : Int)) S = (fnd K o).map f := by
  simp only [idxS, h, dget_mp]
  rfl
theorem nin_dct (h : S[l]? = some (.dct (mp f K))) (o : Nat) : cmpS .nin (.int (o : Int)) (.loc l) S = some (!(fnd K o).isSome) := by
  have hk : isKey (.int (o : Int)) = true := rfl
  simp only [cmpS, h, dget_mp]
  rw [if_pos hk]
  cases fnd K o <;> rfl
end
/-! ### the way up -/
abbrev nsD (xs : List Nat) : List D := xs.map fun (u : Nat) => .int (u : Int)
theorem at_snoc' {xs : List D} {x : D} : atI (xs ++ [x]) (-1) = some x := by
  have e : xs ++ [x] = (List.range (xs.length + 1)).map fun j => nth (xs ++ [x]) j .non := by
    conv => lhs; rw [← map_nth (xs ++ [x]) .non]
    simp
  conv => lhs; rw [e]
  refine Eq.trans idx_neg1 ?_
  unfold nth
  rw [List.getD_eq_getElem?_getD]
  simp
theorem hslc {S : Store} {rd : D} {ds : List D} (h : Holds S rd ds) (a b : Option Int) : slcS rd a b S = some (.lst (cutD ds a b)) := by
  rcases h with rfl | ⟨l, rfl, e, _⟩
  · rfl
  · simp [slcS, res, e]
theorem hrs {S : Store} {rd : D} {ds : List D} (h : Holds S rd ds) : res S rd = some (.lst ds) := by
  rcases h with rfl | ⟨l, rfl, e, _⟩
  · rfl
  · simp [res, e]
theorem cut_m1 {xs : List D} {x : D} : cutD (xs ++ [x]) none (some (-1)) = xs := by
  unfold cutD HT.sIx
  simp only
  rw [if_pos (by omega)]
  have : (-1 + ((xs ++ [x]).length : Int)).toNat = xs.length := by simp; omega
  rw [this]
  simp
section
variable {S : Store} {bl : Nat} {K : List En}
theorem up_first (G : Nat → List D → M D) (nd : ∀ i j, i < K.length → j < K.length → kS K i = kS K j → i = j) (hb : S[bl]? = some (.dct (mp bE1 K))) {i : Nat} {l : List Nat} (h : Pa K i l) (hi : i < K.length) {e1 e2 e4 : Option D} : ∀ acc : List Nat, acc.length + l.length < 1000000 →
    whlL (ev ⟨false, G⟩ w11_2) (exec (fun h' => ⟨h', G⟩) b11_2 false) [some (.loc bl), e1, e2, some (.loc S.length), e4] (S ++ [.lst (nsD (acc ++ [kS K i]))]) = some (.nx [some (.loc bl), e1, e2, some (.loc S.length), e4], S ++ [.lst (nsD (acc ++ l.map (kS K)))]) := by
  have hb' : ∀ T, (S ++ T)[bl]? = some (.dct (mp bE1 K)) := fun T => by
    have := (List.getElem?_eq_some_iff.mp hb).1
    rw [List.getElem?_append_left this, hb]
  have ix : ∀ acc : List Nat, ∀ x : Nat, idxS (.loc S.length) (.int (-1)) (S ++ [.lst (nsD (acc ++ [x]))]) = some (.int (x : Int)) := fun acc x => by
    rw [idx_last]
    have : nsD (acc ++ [x]) = nsD acc ++ [.int (x : Int)] := by simp
    rw [this]
    exact at_snoc'
  have id : ∀ T, ∀ i, i < K.length → idxS (.loc bl) (.int (kS K i : Int)) (S ++ T) = some (oI (kB K i)) := fun T i hi => by
    rw [idx_dct (hb' T), fnd_at nd hi]
    rfl
  induction h with
  | @root i g =>
    intro acc _
    have d1 := id [.lst (nsD (acc ++ [kS K i]))] i hi
    rw [g] at d1
    have d1 : idxS (.loc bl) (.int (kS K i : Int)) (S ++ [.lst (nsD (acc ++ [kS K i]))]) = some .non := d1
    have d2 := ix acc (kS K i)
    refine whl_f ?_
    generalize S ++ [.lst (nsD (acc ++ [kS K i]))] = W at *
    simp [w11_2, d1, d2]
  | @up i j l g hj hi' p ih =>
    intro acc hacc
    have d1 := id [.lst (nsD (acc ++ [kS K i]))] i hi
    rw [g] at d1
    have d1 : idxS (.loc bl) (.int (kS K i : Int)) (S ++ [.lst (nsD (acc ++ [kS K i]))]) = some (.int (kS K j : Int)) := d1
    have d2 := ix acc (kS K i)
    have ap : appS (.loc S.length) (.int (kS K j : Int)) (S ++ [.lst (nsD (acc ++ [kS K i]))]) = some (S ++ [.lst (nsD (acc ++ [kS K i] ++ [kS K j]))]) := by
      rw [app_last (by simp at hacc ⊢; omega)]
      simp
    have il : isLoc (.loc S.length) (S ++ [.lst (nsD (acc ++ [kS K i]))]) = true := isLoc_last
    have e := ih (by omega) (acc ++ [kS K i]) (by simp at hacc ⊢; omega)
    have el : acc ++ (i :: l).map (kS K) = acc ++ [kS K i] ++ l.map (kS K) := by simp
    rw [el, ← e]
    refine whl_t ?_ ?_
    · generalize S ++ [.lst (nsD (acc ++ [kS K i]))] = W at *
      simp [w11_2, d1, d2]
    · generalize S ++ [.lst (nsD (acc ++ [kS K i]))] = W at *
      generalize S ++ [.lst (nsD (acc ++ [kS K i] ++ [kS K j]))] = W2 at *
      simp [b11_2, d1, d2, il, ap]
end
end J.Law
namespace J.Law
open PySem J L2
section
variable {S : Store} {bl : Nat} {K : List En}
theorem up_second (G : Nat → List D → M D) (nd : ∀ i j, i < K.length → j < K.length → kS K i = kS K j → i = j) (hb : S[bl]? = some (.dct (mp bE1 K))) {i : Nat} {l : List Nat} (h : Pa K i l) (hi : i < K.length) {e1 e2 e3 : Option D} : ∀ acc : List Nat, acc.length + l.length < 1000000 →
    whlL (ev ⟨false, G⟩ w11_1) (exec (fun h' => ⟨h', G⟩) b11_1 false) [some (.loc bl), e1, e2, e3, some (.loc S.length)] (S ++ [.lst (nsD (acc ++ [kS K i]))]) = some (.nx [some (.loc bl), e1, e2, e3, some (.loc S.length)], S ++ [.lst (nsD (acc ++ l.map (kS K)))]) := by
  have hb' : ∀ T, (S ++ T)[bl]? = some (.dct (mp bE1 K)) := fun T => by
    have := (List.getElem?_eq_some_iff.mp hb).1
    rw [List.getElem?_append_left this, hb]
  have ix : ∀ acc : List Nat, ∀ x : Nat, idxS (.loc S.length) (.int (-1)) (S ++ [.lst (nsD (acc ++ [x]))]) = some (.int (x : Int)) := fun acc x => by
    rw [idx_last]
    have : nsD (acc ++ [x]) = nsD acc ++ [.int (x : Int)] := by simp
    rw [this]
    exact at_snoc'
  have id : ∀ T, ∀ i, i < K.length → idxS (.loc bl) (.int (kS K i : Int)) (S ++ T) = some (oI (kB K i)) := fun T i hi => by
    rw [idx_dct (hb' T), fnd_at nd hi]
    rfl
  induction h with
  | @root i g =>
    intro acc _
    have d1 := id [.lst (nsD (acc ++ [kS K i]))] i hi
    rw [g] at d1
    have d1 : idxS (.loc bl) (.int (kS K i : Int)) (S ++ [.lst (nsD (acc ++ [kS K i]))]) = some .non := d1
    have d2 := ix acc (kS K i)
    refine whl_f ?_
    generalize S ++ [.lst (nsD (acc ++ [kS K i]))] = W at *
    simp [w11_1, d1, d2]
  | @up i j l g hj hi' p ih =>
    intro acc hacc
    have d1 := id [.lst (nsD (acc ++ [kS K i]))] i hi
    rw [g] at d1
    have d1 : idxS (.loc bl) (.int (kS K i : Int)) (S ++ [.lst (nsD (acc ++ [kS K i]))]) = some (.int (kS K j : Int)) := d1
    have d2 := ix acc (kS K i)
    have ap : appS (.loc S.length) (.int (kS K j : Int)) (S ++ [.lst (nsD (acc ++ [kS K i]))]) = some (S ++ [.lst (nsD (acc ++ [kS K i] ++ [kS K j]))]) := by
      rw [app_last (by simp at hacc ⊢; omega)]
      simp
    have il : isLoc (.loc S.length) (S ++ [.lst (nsD (acc ++ [kS K i]))]) = true := isLoc_last
    have e := ih (by omega) (acc ++ [kS K i]) (by simp at hacc ⊢; omega)
    have el : acc ++ (i :: l).map (kS K) = acc ++ [kS K i] ++ l.map (kS K) := by simp
    rw [el, ← e]
    refine whl_t ?_ ?_
    · generalize S ++ [.lst (nsD (acc ++ [kS K i]))] = W at *
      simp [w11_1, d1, d2]
    · generalize S ++ [.lst (nsD (acc ++ [kS K i]))] = W at *
      generalize S ++ [.lst (nsD (acc ++ [kS K i] ++ [kS K j]))] = W2 at *
      simp [b11_1, d1, d2, il, ap]
theorem at_m2 {xs : List D} {x c : D} : atI (xs ++ [x] ++ [c]) (-2) = some x := by
  have hl : (xs ++ [x] ++ [c]).length = xs.length + 2 := by simp
  unfold atI
  have : ixN (xs ++ [x] ++ [c]).length (-2) = some xs.length := by
    rw [hl]
    unfold ixN
    rw [if_neg (by omega), if_pos (by omega)]
    congr 1
    omega
  rw [this]
  simp
theorem nil_snoc {α : Type} (l : List α) : l = [] ∨ ∃ a x, l = a ++ [x] := by
  rcases List.eq_nil_or_concat l with h | ⟨a, x, h⟩
  · exact .inl h
  · exact .inr ⟨a, x, by rw [h, List.concat_eq_append]⟩
theorem cutL (G : Nat → List D → M D) (nd : ∀ i j, i < K.length → j < K.length → kS K i = kS K j → i = j) {e0 e1 e2 : Option D} : ∀ (k : Nat) (A B : List Nat) (c : Nat) (rd1 rd2 : D), A.length = k → A.length + B.length < 1000 → (∀ x ∈ A ++ B, x < K.length) → Holds S rd1 (nsD ((A ++ [c]).map (kS K))) → Holds S rd2 (nsD ((B ++ [c]).map (kS K))) →
    ∃ A' B' c' t rd1' rd2', A ++ [c] = A' ++ c' :: t ∧ B ++ [c] = B' ++ c' :: t ∧ (A' = [] ∨ B' = [] ∨ A'.getLast? ≠ B'.getLast?) ∧ Holds S rd1' (nsD ((A' ++ [c']).map (kS K))) ∧ Holds S rd2' (nsD ((B' ++ [c']).map (kS K))) ∧
      whlL (ev ⟨false, G⟩ w11_0) (exec (fun h' => ⟨h', G⟩) b11_0 false) [e0, e1, e2, some rd1, some rd2] S = some (.nx [e0, e1, e2, some rd1', some rd2'], S) := by
  intro k
  induction k with
  | zero =>
    intro A B c rd1 rd2 hA hs hx h1 h2
    have hA := List.length_eq_zero_iff.mp hA
    subst hA
    refine ⟨[], B, c, [], rd1, rd2, rfl, rfl, .inl rfl, h1, h2, whl_f ?_⟩
    have l1 := h1.len
    simp at l1
    simp [w11_0, l1]
  | succ k ih =>
    intro A B c rd1 rd2 hA hs hx h1 h2
    obtain ⟨A0, x, rfl⟩ : ∃ A0 x, A = A0 ++ [x] := by
      rcases nil_snoc A with rfl | ⟨a, x, e⟩
      · simp at hA
      · exact ⟨a, x, e⟩
    have l1 := h1.len
    rcases nil_snoc B with rfl | ⟨B0, y, rfl⟩
    · refine ⟨A0 ++ [x], [], c, [], rd1, rd2, rfl, rfl, .inr (.inl rfl), h1, h2, whl_f ?_⟩
      have l2 := h2.len
      have g1 : (1 : Int) < ((nsD ((A0 ++ [x] ++ [c]).map (kS K))).length : Int) := by simp; omega
      simp at l2
      simp [w11_0, l1, l2]
    · have l2 := h2.len
      have e1 : nsD ((A0 ++ [x] ++ [c]).map (kS K)) = nsD (A0.map (kS K)) ++ [.int (kS K x : Int)] ++ [.int (kS K c : Int)] := by simp
      have e2 : nsD ((B0 ++ [y] ++ [c]).map (kS K)) = nsD (B0.map (kS K)) ++ [.int (kS K y : Int)] ++ [.int (kS K c : Int)] := by simp
      have x1 : idxS rd1 (.int (-2)) S = some (.int (kS K x : Int)) := by rw [h1.idx, e1, at_m2]
      have x2 : idxS rd2 (.int (-2)) S = some (.int (kS K y : Int)) := by rw [h2.idx, e2, at_m2]
      have g1 : (1 : Int) < ((nsD ((A0 ++ [x] ++ [c]).map (kS K))).length : Int) := by simp; omega
      have g2 : (1 : Int) < ((nsD ((B0 ++ [y] ++ [c]).map (kS K))).length : Int) := by simp; omega
      have s1 := hslc h1 none (some (-1))
      rw [e1, cut_m1] at s1
      have s2 := hslc h2 none (some (-1))
      rw [e2, cut_m1] at s2
      generalize ((nsD ((A0 ++ [x] ++ [c]).map (kS K))).length : Int) = L1 at *
      generalize ((nsD ((B0 ++ [y] ++ [c]).map (kS K))).length : Int) = L2 at *
      by_cases hxy : x = y
      · subst hxy
        have f1 : nsD (A0.map (kS K)) ++ [.int (kS K x : Int)] = nsD ((A0 ++ [x]).map (kS K)) := by simp
        have f2 : nsD (B0.map (kS K)) ++ [.int (kS K x : Int)] = nsD ((B0 ++ [x]).map (kS K)) := by simp
        rw [f1] at s1
        rw [f2] at s2
        obtain ⟨A', B', c', t, r1, r2, p1, p2, p3, p4, p5, p6⟩ := ih A0 B0 x (.lst (nsD ((A0 ++ [x]).map (kS K)))) (.lst (nsD ((B0 ++ [x]).map (kS K)))) (by simpa using hA) (by simp at hs; omega) (fun z hz => hx z (by simp at hz ⊢; rcases hz with q | q <;> simp [q])) (.inl rfl) (.inl rfl)
        refine ⟨A', B', c', t ++ [c], r1, r2, by rw [p1]; simp, by rw [p2]; simp, p3, p4, p5, ?_⟩
        rw [← p6]
        generalize nsD ((A0 ++ [x]).map (kS K)) = Q1 at *
        generalize nsD ((B0 ++ [x]).map (kS K)) = Q2 at *
        refine whl_t ?_ ?_
        · simp [w11_0, l1, l2, g1, g2, x1, x2]
        · simp [b11_0, s1, s2]
      · have hk : ¬ ((kS K x : Int) = (kS K y : Int)) := fun e => hxy (nd x y (hx x (by simp)) (hx y (by simp)) (by omega))
        refine ⟨A0 ++ [x], B0 ++ [y], c, [], rd1, rd2, rfl, rfl, .inr (.inr ?_), h1, h2, whl_f ?_⟩
        · simp
          exact hxy
        · simp [w11_0, l1, l2, g1, g2, x1, x2, hk]
end
end J.Law
namespace J.Law
open PySem J L2
theorem dec_len : ∀ (l : List Nat) (i : Nat), l.Pairwise (· > ·) → (∀ x ∈ l, x ≤ i) → l.length ≤ i + 1
  | [], _, _, _ => Nat.zero_le _
  | [x], _, _, _ => by simp
  | x :: y :: l, i, h, hb => by
    have h' := List.pairwise_cons.mp h
    have hx := hb x (by simp)
    have hy := h'.1 y (by simp)
    have := dec_len (y :: l) (x - 1) h'.2 fun z hz => by have := h'.1 z hz; omega
    rw [List.length_cons]
    omega
structure RingOk (C : Nat → Nat → Rat) (n : Nat) (R : List Nat) : Prop where
  nd : R.Nodup
  lt : ∀ x ∈ R, x < n
  l : 2 ≤ R.length
  h : Fp C (R ++ [nth R 0 0]) ≠ Bp C (R ++ [nth R 0 0])
theorem nodup_map {f : Nat → Nat} : ∀ {l : List Nat}, l.Nodup → (∀ x ∈ l, ∀ y ∈ l, f x = f y → x = y) → (l.map f).Nodup
  | [], _, _ => List.nodup_nil
  | x :: l, h, hi => by
    have h' := List.nodup_cons.mp h
    rw [List.map_cons, List.nodup_cons]
    refine ⟨fun hm => ?_, nodup_map h'.2 fun a ha b hb => hi a (List.mem_cons_of_mem _ ha) b (List.mem_cons_of_mem _ hb)⟩
    obtain ⟨y, hy, e⟩ := List.mem_map.mp hm
    have := hi y (List.mem_cons_of_mem _ hy) x (List.mem_cons_self ..) e
    subst this
    exact h'.1 hy
section
variable {S : Store} {bl : Nat} {C : Nat → Nat → Rat} {n : Nat} {K : List En} {r : Nat}
/-- ring_of -/
theorem r11 (k : Nat) (hk : Ks C n K) (hp : Pr C K r) (h2 : Two C n) (hK : K.length ≤ 8) (hb : S[bl]? = some (.dct (mp bE1 K))) {q j : Nat} (hq : q < K.length) (hj : j < K.length) (rq : r ≤ q) (rj : r ≤ j) (hne : kS K j ≠ kS K q) (pos : 0 < C (kS K q) (kS K j)) (hw : ¬ rel C (kS K q) (kS K j) (kW K q) (kW K j)) :
    ∃ R U, RingOk C n R ∧ run fns (k + 1) false 11 [.loc bl, .int (kS K q : Int), .int (kS K j : Int)] S = some (.ok (.tup (nsD R)) (S ++ U)) := by
  obtain ⟨l1, p1, b1, a1, e1⟩ := pa_ex hp q rq hq
  obtain ⟨l2, p2, b2, a2, e2⟩ := pa_ex hp j rj hj
  have n1 : l1.length ≤ 8 := Nat.le_trans (dec_len _ _ p1.dec.1 p1.dec.2) (by omega)
  have n2 : l2.length ≤ 8 := Nat.le_trans (dec_len _ _ p2.dec.1 p2.dec.2) (by omega)
  have u1 := up_first (S := S) (bl := bl) (run fns k false) hk.nd hb p1 hq (e1 := some (.int (kS K q : Int))) (e2 := some (.int (kS K j : Int))) (e4 := none) [] (by simp; omega)
  have hb' : (S ++ [.lst (nsD (l1.map (kS K)))])[bl]? = some (.dct (mp bE1 K)) := by
    have := (List.getElem?_eq_some_iff.mp hb).1
    rw [List.getElem?_append_left this, hb]
  have u2 := up_second (S := S ++ [.lst (nsD (l1.map (kS K)))]) (bl := bl) (run fns k false) hk.nd hb' p2 hj (e1 := some (.int (kS K q : Int))) (e2 := some (.int (kS K j : Int))) (e3 := some (.loc S.length)) [] (by simp; omega)
  rw [List.nil_append, List.nil_append] at u1 u2
  obtain ⟨T, hT⟩ : ∃ T, T = S ++ [.lst (nsD (l1.map (kS K)))] ++ [.lst (nsD (l2.map (kS K)))] := ⟨_, rfl⟩
  have o1 : Holds T (.loc S.length) (nsD ((a1 ++ [r]).map (kS K))) := by
    rw [hT, ← e1]
    exact .inr ⟨_, rfl, by simp, by simp⟩
  have o2 : Holds T (.loc (S ++ [Cell.lst (nsD (l1.map (kS K)))]).length) (nsD ((a2 ++ [r]).map (kS K))) := by
    rw [hT, ← e2]
    exact Holds.last
  have m1 : a1.length + 1 ≤ 8 := by
    have := congrArg List.length e1
    simp at this
    omega
  have m2 : a2.length + 1 ≤ 8 := by
    have := congrArg List.length e2
    simp at this
    omega
  have in1 : ∀ x ∈ l1, x < K.length := fun x hx => by have := (b1 x hx).2; omega
  have in2 : ∀ x ∈ l2, x < K.length := fun x hx => by have := (b2 x hx).2; omega
  obtain ⟨A, B, c, t, rd1, rd2, q1, q2, cut, g1, g2, u3⟩ := cutL (S := T) (run fns k false) hk.nd (e0 := some (.loc bl)) (e1 := some (.int (kS K q : Int))) (e2 := some (.int (kS K j : Int))) a1.length a1 a2 r _ _ rfl (by omega) (fun x hx => by
    rcases List.mem_append.mp hx with h | h
    · exact in1 x (by rw [e1]; simp [h])
    · exact in2 x (by rw [e2]; simp [h])) o1 o2
  rw [e1, q1] at p1
  rw [e2, q2] at p2
  have bA : ∀ x ∈ A ++ [c], r ≤ x ∧ x < K.length := fun x hx => by
    have hm : x ∈ l1 := by
      rw [e1, q1]
      rcases List.mem_append.mp hx with h | h
      · simp [h]
      · have : x = c := by simpa using h
        simp [this]
    exact ⟨(b1 x hm).1, in1 x hm⟩
  have bB : ∀ x ∈ B ++ [c], r ≤ x ∧ x < K.length := fun x hx => by
    have hm : x ∈ l2 := by
      rw [e2, q2]
      rcases List.mem_append.mp hx with h | h
      · simp [h]
      · have : x = c := by simpa using h
        simp [this]
    exact ⟨(b2 x hm).1, in2 x hm⟩
  obtain ⟨z1, z2⟩ := ring_law hk hp h2 p1 p2 bA bB hq hj hne pos hw
  have z0 := ring_nd hk p1 p2 cut
  have inR : ∀ x ∈ (A ++ [c]).reverse ++ B, x < K.length := fun x hx => by
    rcases List.mem_append.mp hx with h | h
    · exact (bA x (List.mem_reverse.mp h)).2
    · exact (bB x (by simp [h])).2
  refine ⟨((A ++ [c]).reverse ++ B).map (kS K), [.lst (nsD (l1.map (kS K)))] ++ [.lst (nsD (l2.map (kS K)))], ⟨nodup_map z0 fun x hx y hy e => hk.nd x y (inR x hx) (inR y hy) e, fun x hx => ?_, by simpa using z1, ?_⟩, ?_⟩
  · obtain ⟨y, hy, rfl⟩ := List.mem_map.mp hx
    exact hk.lt y (inR y hy)
  · have hh : nth (((A ++ [c]).reverse ++ B).map (kS K)) 0 0 = kS K c := by simp [nth]
    rw [hh]
    have : ((A ++ [c]).reverse ++ B).map (kS K) ++ [kS K c] = ((A ++ [c]).reverse ++ B ++ [c]).map (kS K) := by simp
    rw [this]
    exact z2
  · rw [Is.run (⟨f11, rfl, rfl, rfl, rfl, rfl⟩ : Is fns 11 3 5 _) rfl]
    rw [← List.append_assoc, ← hT]
    rw [← hT] at u2
    have rv := hrs g1
    have sl := hslc g2 none (some (-1))
    have es : nsD ((B ++ [c]).map (kS K)) = nsD (B.map (kS K)) ++ [.int (kS K c : Int)] := by simp
    rw [es, cut_m1] at sl
    have fin : nsD (((A ++ [c]).reverse ++ B).map (kS K)) = (nsD ((A ++ [c]).map (kS K))).reverse ++ nsD (B.map (kS K)) := by
      simp
    have sz : (nsD ((A ++ [c]).map (kS K))).reverse.length + (nsD (B.map (kS K))).length ≤ sizeLine := by
      rw [sizeLine_eq]
      have h1 := congrArg List.length q1
      have h2 := congrArg List.length q2
      simp at h1 h2 ⊢
      omega
    rw [fin]
    have v1 : nsD [kS K q] = [.int (kS K q : Int)] := rfl
    have v2 : nsD [kS K j] = [.int (kS K j : Int)] := rfl
    rw [v1] at u1
    rw [v2] at u2
    have u1' : exec (fun h' => ⟨h', run fns k h'⟩) p11_2 false [some (.loc bl), some (.int (kS K q : Int)), some (.int (kS K j : Int)), some (.loc S.length), none] (S ++ [.lst [.int (kS K q : Int)]]) = _ := (c_whl (G := fun h' => ⟨h', run fns k h'⟩)).trans u1
    have u2' : exec (fun h' => ⟨h', run fns k h'⟩) p11_1 false _ _ = _ := (c_whl (G := fun h' => ⟨h', run fns k h'⟩)).trans u2
    have u3' : exec (fun h' => ⟨h', run fns k h'⟩) p11_0 false _ _ = _ := (c_whl (G := fun h' => ⟨h', run fns k h'⟩)).trans u3
    generalize nsD ((A ++ [c]).map (kS K)) = Q1 at *
    generalize nsD (B.map (kS K)) = Q2 at *
    generalize nsD (l1.map (kS K)) = L1 at *
    generalize nsD (l2.map (kS K)) = L2 at *
    generalize S ++ [.lst L1] = S1 at *
    simp at sz
    simp [f11, u1', u2', u3', rv, sl, sz]
end
end J.Law
namespace J.Law
open PySem J L2
theorem pig : ∀ (n : Nat) (l : List Nat), l.Nodup → (∀ x ∈ l, x < n) → l.length ≤ n
  | 0, l, _, h => by
    cases l with
    | nil => simp
    | cons x l => exact absurd (h x (by simp)) (by omega)
  | n + 1, l, h, hb => by
    by_cases hm : n ∈ l
    · have := pig n (l.erase n) (h.erase n) fun x hx => by
        have := (List.Nodup.mem_erase_iff h).mp hx
        have := hb x this.2
        omega
      rw [List.length_erase_of_mem hm] at this
      omega
    · have := pig n l h fun x hx => by
        have := hb x hx
        have : x ≠ n := fun e => hm (e ▸ hx)
        omega
      omega
section
variable {C : Nat → Nat → Rat} {n m : Nat} {K : List En} {r q : Nat}
theorem ks_map (K : List En) : K.map (·.s) = (List.range K.length).map (kS K) := by
  conv => lhs; rw [← map_nth K en0]
  rw [List.map_map]
  rfl
theorem Ks.len (h : Ks C n K) : K.length ≤ n := by
  have hn : ((List.range K.length).map (kS K)).Nodup := nodup_map (List.nodup_range) fun x hx y hy e => h.nd x y (List.mem_range.mp hx) (List.mem_range.mp hy) e
  have := pig n _ hn fun x hx => by
    obtain ⟨i, hi, rfl⟩ := List.mem_map.mp hx
    exact h.lt i (List.mem_range.mp hi)
  simpa using this
theorem nth_old {e : En} {i : Nat} (h : i < K.length) : nth (K ++ [e]) i en0 = nth K i en0 := by
  unfold nth
  rw [List.getD_eq_getElem?_getD, List.getD_eq_getElem?_getD, List.getElem?_append_left h]
theorem nth_new {e : En} : nth (K ++ [e]) K.length en0 = e := by
  unfold nth
  rw [List.getD_eq_getElem?_getD]
  simp
structure Bf (C : Nat → Nat → Rat) (n m : Nat) (K : List En) (r q : Nat) : Prop where
  ks : Ks C n K
  pr : Pr C K r
  cl : Dn C n K r r
  dn : Dn C n K q K.length
  rq : r ≤ q
  hs : ∀ x, x < m → ∃ i, i < K.length ∧ kS K i = x
/-- of q's steps those below o are done -/
def Pt (C : Nat → Nat → Rat) (K : List En) (q o : Nat) : Prop := ∀ o', o' < o → 0 < C (kS K q) o' → o' ≠ kS K q → ∃ j, j < K.length ∧ kS K j = o' ∧ rel C (kS K q) o' (kW K q) (kW K j)
theorem dn_ext {e : En} {q b b' : Nat} (h : Dn C n K q b) (hq : q ≤ K.length) (hb : b ≤ K.length) (hbb : b ≤ b') : Dn C n (K ++ [e]) q b' := by
  intro i hi o ho
  have e1 := nth_old (K := K) (e := e) (i := i) (by omega)
  unfold kS kW
  rw [e1]
  intro h1 h2
  obtain ⟨j, a, b1, c⟩ := h i hi o ho h1 h2
  have e2 := nth_old (K := K) (e := e) (i := j) (by omega)
  refine ⟨j, by omega, ?_, ?_⟩
  · show (nth (K ++ [e]) j en0).s = o
    rw [e2]
    exact b1
  · rw [e2]
    exact c
theorem pt_ext {e : En} {q o : Nat} (h : Pt C K q o) (hq : q < K.length) : Pt C (K ++ [e]) q o := by
  intro o' ho
  have e1 := nth_old (K := K) (e := e) (i := q) hq
  unfold kS kW
  rw [e1]
  intro h1 h2
  obtain ⟨j, a, b1, c⟩ := h o' ho h1 h2
  have e2 := nth_old (K := K) (e := e) (i := j) a
  refine ⟨j, by simp; omega, ?_, ?_⟩
  · show (nth (K ++ [e]) j en0).s = o'
    rw [e2]
    exact b1
  · rw [e2]
    exact c
theorem bf_ext (h : Bf C n m K r q) (hq : q < K.length) {o : Nat} (ho : o < n) (hn : fnd K o = none) (pos : 0 < C (kS K q) o) (back : 0 < C o (kS K q)) (f1 : Ft 10 (C (kS K q) o)) (f2 : Ft 10 (C o (kS K q))) :
    Bf C n m (K ++ [⟨o, kW K q * (C (kS K q) o / C o (kS K q)), some (kS K q)⟩]) r q := by
  obtain ⟨e, he⟩ : ∃ e : En, e = ⟨o, kW K q * (C (kS K q) o / C o (kS K q)), some (kS K q)⟩ := ⟨_, rfl⟩
  rw [← he]
  have new := fnd_none.mp hn
  have hl : (K ++ [e]).length = K.length + 1 := by simp
  have es : ∀ i, i < K.length → kS (K ++ [e]) i = kS K i := fun i hi => by unfold kS; rw [nth_old hi]
  have ew : ∀ i, i < K.length → kW (K ++ [e]) i = kW K i := fun i hi => by unfold kW; rw [nth_old hi]
  have eb : ∀ i, i < K.length → kB (K ++ [e]) i = kB K i := fun i hi => by unfold kB; rw [nth_old hi]
  have ns : kS (K ++ [e]) K.length = o := by unfold kS; rw [nth_new, he]
  have nw : kW (K ++ [e]) K.length = kW K q * (C (kS K q) o / C o (kS K q)) := by unfold kW; rw [nth_new, he]
  have nb : kB (K ++ [e]) K.length = some (kS K q) := by unfold kB; rw [nth_new, he]
  have rq := h.rq
  refine ⟨⟨?_, ?_, ?_, ?_⟩, ⟨?_, ?_⟩, dn_ext h.cl (by omega) (by omega) (Nat.le_refl _), dn_ext h.dn (by omega) (Nat.le_refl _) (by omega), rq, ?_⟩
  · intro i j hi hj
    rw [hl] at hi hj
    by_cases h1 : i < K.length
    · by_cases h2 : j < K.length
      · rw [es i h1, es j h2]
        exact h.ks.nd i j h1 h2
      · have : j = K.length := by omega
        subst this
        rw [es i h1, ns]
        exact fun x => absurd x (new i h1)
    · have : i = K.length := by omega
      subst this
      by_cases h2 : j < K.length
      · rw [es j h2, ns]
        exact fun x => absurd x.symm (new j h2)
      · omega
  · intro i hi
    rw [hl] at hi
    by_cases h1 : i < K.length
    · rw [es i h1]
      exact h.ks.lt i h1
    · have : i = K.length := by omega
      subst this
      rw [ns]
      exact ho
  · intro i hi
    rw [hl] at hi
    by_cases h1 : i < K.length
    · rw [ew i h1]
      exact h.ks.pos i h1
    · have : i = K.length := by omega
      subst this
      rw [nw]
      have : 0 < C (kS K q) o / C o (kS K q) := by
        rw [Rat.div_def]
        exact Rat.mul_pos pos (Rat.inv_pos.mpr back)
      exact Rat.mul_pos (h.ks.pos q hq) this
  · intro i hi
    rw [hl] at hi
    by_cases h1 : i < K.length
    · rw [ew i h1]
      exact h.ks.ft i h1
    · have : i = K.length := by omega
      subst this
      rw [nw]
      exact ((h.ks.ft q hq).mul (f1.div f2 back)).mono (by omega)
  · rw [eb r (by omega)]
    exact h.pr.r0
  · intro i hr hi
    rw [hl] at hi
    by_cases h1 : i < K.length
    · obtain ⟨j, a, b, c, d, f⟩ := h.pr.up i hr h1
      refine ⟨j, a, b, ?_, ?_, ?_⟩
      · rw [eb i h1, es j (by omega)]
        exact c
      · rw [es i h1, es j (by omega)]
        exact d
      · rw [es i h1, es j (by omega), ew i h1, ew j (by omega)]
        exact f
    · have : i = K.length := by omega
      subst this
      refine ⟨q, rq, hq, ?_, ?_, ?_⟩
      · rw [nb, es q hq]
      · rw [ns, es q hq]
        exact pos
      · rw [ns, nw, es q hq, ew q hq]
  · intro x hx
    obtain ⟨i, a, b⟩ := h.hs x hx
    exact ⟨i, by rw [hl]; omega, by rw [es i a]; exact b⟩
end
end J.Law
namespace J.Law
open PySem J L2
section
variable {S U : Store} {C : Nat → Nat → Rat} {n m : Nat} {K : List En} {r q : Nat}
/-- the store of the search -/
abbrev Zs (S : Store) (W B : List (D × D)) (V : Store) : Store := S ++ .dct W :: .dct B :: V
theorem z_w {W B : List (D × D)} {V : Store} : (Zs S W B V)[S.length]? = some (.dct W) := by simp
theorem z_b {W B : List (D × D)} {V : Store} : (Zs S W B V)[S.length + 1]? = some (.dct B) := by simp
theorem z_len {W B : List (D × D)} {V : Store} : (Zs S W B V).length = S.length + 2 + V.length := by simp; omega
theorem setW {f : En → D} {B : List (D × D)} {V : Store} {o : Nat} {v : D} (h : fnd K o = none) (hl : K.length < 1000) : setS (.loc S.length) (.int (o : Int)) v (Zs S (mp f K) B V) = some (Zs S (mp f K ++ [(.int (o : Int), v)]) B V) := by
  have e := z_w (S := S) (W := mp f K) (B := B) (V := V)
  have hk : isKey (.int (o : Int)) ∧ (mp f K).length < 1000000 := ⟨rfl, by simp; omega⟩
  simp only [setS, e]
  rw [if_pos hk, dput_mp f h]
  simp
theorem setB {f : En → D} {W : List (D × D)} {V : Store} {o : Nat} {v : D} (h : fnd K o = none) (hl : K.length < 1000) : setS (.loc (S.length + 1)) (.int (o : Int)) v (Zs S W (mp f K) V) = some (Zs S W (mp f K ++ [(.int (o : Int), v)]) V) := by
  have e := z_b (S := S) (W := W) (B := mp f K) (V := V)
  have hk : isKey (.int (o : Int)) ∧ (mp f K).length < 1000000 := ⟨rfl, by simp; omega⟩
  simp only [setS, e]
  rw [if_pos hk, dput_mp f h]
  simp
theorem appQ {W B : List (D × D)} {Q : List D} {x : D} (h : Q.length < 1000000) : appS (.loc (S.length + 2 + U.length)) x (Zs S W B (U ++ [.lst Q])) = some (Zs S W B (U ++ [.lst (Q ++ [x])])) ∧ isLoc (.loc (S.length + 2 + U.length)) (Zs S W B (U ++ [.lst Q])) = true := by
  have e := app_last (S := Zs S W B U) (ds := Q) (x := x) h
  have i := isLoc_last (S := Zs S W B U) (ds := Q)
  rw [z_len] at e i
  have ea : ∀ Q : List D, Zs S W B (U ++ [.lst Q]) = Zs S W B U ++ [.lst Q] := fun Q => by simp
  rw [ea, ea]
  exact ⟨e, i⟩
/-- the states from r on: the queue -/
abbrev quD (K : List En) (r : Nat) : List D := nsD ((K.drop r).map (·.s))
abbrev Zk (S U : Store) (K : List En) (r : Nat) : Store := Zs S (mp wE1 K) (mp bE1 K) (U ++ [.lst (quD K r)])
/-- what the search tells when it finds a ring -/
def RingD (C : Nat → Nat → Rat) (n : Nat) (d : D) : Prop := ∃ R, RingOk C n R ∧ d = .tup [.str "ring", .tup (nsD R)]
theorem pos_num {x : Rat} : 0 < x.num ↔ 0 < x := by
  have a : 0 ≤ x.num ↔ 0 ≤ x := Rat.num_nonneg
  have b : x.num = 0 ↔ x = 0 := Rat.num_eq_zero
  constructor
  · intro h
    have h1 := a.mp (by omega)
    have h2 : x ≠ 0 := fun e => by have := b.mpr e; omega
    grind
  · intro h
    have h1 := a.mpr (by grind)
    have h2 : x.num ≠ 0 := fun e => by have := b.mp e; grind
    omega
theorem turn10 (k : Nat) (hC : ChOk n C) (h2 : Two C n) (h : Bf C n m K r q) (hq : q < K.length) {o : Nat} (ho : o < n) (hp : Pt C K q o) {e1 e4 e5 e7 e9 e10 : Option D} :
    (∃ K' o10, Bf C n m K' r q ∧ q < K'.length ∧ kS K' q = kS K q ∧ Pt C K' q (o + 1) ∧ turnL (fun h' => ⟨h', run fns (k + 4) h'⟩) (.var 5) b10_0 (.int (o : Int)) [some (chD n C), e1, some (.loc S.length), some (.loc (S.length + 1)), e4, e5, some (.loc (S.length + 2 + U.length)), e7, some (.int (kS K q : Int)), e9, e10] (Zk S U K r) =
      some (.nx [some (chD n C), e1, some (.loc S.length), some (.loc (S.length + 1)), e4, some (.int (o : Int)), some (.loc (S.length + 2 + U.length)), e7, some (.int (kS K q : Int)), e9, o10], Zk S U K' r)) ∨
    ∃ d S', RingD C n d ∧ turnL (fun h' => ⟨h', run fns (k + 4) h'⟩) (.var 5) b10_0 (.int (o : Int)) [some (chD n C), e1, some (.loc S.length), some (.loc (S.length + 1)), e4, e5, some (.loc (S.length + 2 + U.length)), e7, some (.int (kS K q : Int)), e9, e10] (Zk S U K r) = some (.rt d, S') ∧ ∃ V, S' = S ++ V := by
  have hkn := h.ks.len
  have n8 := hC.l2
  have hs := h.ks.lt q hq
  obtain ⟨a1, a2⟩ := ch_ix (S := Zk S U K r) (C := C) (kS K q) o hs ho
  obtain ⟨b1, b2⟩ := ch_ix (S := Zk S U K r) (C := C) o (kS K q) ho hs
  have c1 : idxS (qD (C (kS K q) o)) (.int 0) (Zk S U K r) = some (.int (C (kS K q) o).num) := rfl
  by_cases h1 : 0 < C (kS K q) o
  · have h1' : 0 < (C (kS K q) o).num := pos_num.mpr h1
    by_cases he : o = kS K q
    · have hne : (o : Int) = (kS K q : Int) := by omega
      refine .inl ⟨K, e10, h, hq, rfl, ?_, ?_⟩
      · intro o' ho' p1 p2
        by_cases x : o' < o
        · exact hp o' x p1 p2
        · exact absurd (show o' = kS K q by omega) p2
      · generalize chD n C = CH at *
        generalize Zk S U K r = Z at *
        generalize rwF n (C (kS K q)) = R1 at *
        generalize qD (C (kS K q) o) = Q1 at *
        rw [← hne] at a1 ⊢
        simp [turnL, b10_0, a1, a2, c1, h1']
    · have hne : ¬ (o : Int) = (kS K q : Int) := by omega
      have back := h2 _ _ hs ho h1
      have f1 := hC.ft hs ho
      have f2 := hC.ft ho hs
      have fw := h.ks.ft q hq
      have d5 := frz_same (r_over' i1 i2 i5 (k + 1) (Zk S U K r) f1 f2 (by omega) (rat_ne' back)) (by simp [qD])
      have d4 := frz_same (r_times' i1 i2 i4 (k + 1) (Zk S U K r) fw (f1.div f2 back) (by omega)) (by simp [qD])
      have wh : idxS (.loc S.length) (.int (kS K q : Int)) (Zk S U K r) = some (qD (kW K q)) := by
        rw [idx_dct z_w, fnd_at h.ks.nd hq]
        rfl
      have ni := nin_dct (S := Zk S U K r) (f := wE1) (K := K) z_w o
      cases hf : fnd K o with
      | none =>
        obtain ⟨e, hee⟩ : ∃ e : En, e = ⟨o, kW K q * (C (kS K q) o / C o (kS K q)), some (kS K q)⟩ := ⟨_, rfl⟩
        have hx := bf_ext h hq ho hf h1 back f1 f2
        rw [← hee] at hx
        have s1 := setW (S := S) (f := wE1) (B := mp bE1 K) (V := U ++ [.lst (quD K r)]) (v := qD (kW K q * (C (kS K q) o / C o (kS K q)))) hf (by omega)
        have s2 := setB (S := S) (f := bE1) (W := mp wE1 K ++ [(.int (o : Int), qD (kW K q * (C (kS K q) o / C o (kS K q))))]) (V := U ++ [.lst (quD K r)]) (v := .int (kS K q : Int)) hf (by omega)
        obtain ⟨s3, s4⟩ := appQ (S := S) (U := U) (W := mp wE1 K ++ [(.int (o : Int), qD (kW K q * (C (kS K q) o / C o (kS K q))))]) (B := mp bE1 K ++ [(.int (o : Int), .int (kS K q : Int))]) (Q := quD K r) (x := .int (o : Int)) (by simp; omega)
        have eZ : Zk S U (K ++ [e]) r = Zs S (mp wE1 K ++ [(.int (o : Int), qD (kW K q * (C (kS K q) o / C o (kS K q))))]) (mp bE1 K ++ [(.int (o : Int), .int (kS K q : Int))]) (U ++ [.lst (quD K r ++ [.int (o : Int)])]) := by
          have rl : r ≤ K.length := by have := h.rq; omega
          have x1 : mp wE1 (K ++ [e]) = mp wE1 K ++ [(.int (o : Int), qD (kW K q * (C (kS K q) o / C o (kS K q))))] := by simp [hee]
          have x2 : mp bE1 (K ++ [e]) = mp bE1 K ++ [(.int (o : Int), .int (kS K q : Int))] := by
            simp [hee]
            rfl
          have x3 : quD (K ++ [e]) r = quD K r ++ [.int (o : Int)] := by
            unfold quD
            rw [List.drop_append_of_le_length rl]
            simp [hee]
          unfold Zk
          rw [x1, x2, x3]
        rw [hf] at ni
        refine .inl ⟨K ++ [e], some (qD (kW K q * (C (kS K q) o / C o (kS K q)))), hx, by simp; omega, by unfold kS; rw [nth_old hq], ?_, ?_⟩
        · intro o' ho' p1 p2
          by_cases x : o' < o
          · exact pt_ext hp hq o' x p1 p2
          · have : o' = o := by omega
            subst this
            refine ⟨K.length, by simp, by unfold kS; rw [nth_new, hee], ?_⟩
            unfold rel kS kW
            rw [nth_new, nth_old hq, hee]
        · rw [eZ]
          have eZk : Zs S (mp wE1 K) (mp bE1 K) (U ++ [.lst (quD K r)]) = Zk S U K r := rfl
          rw [eZk] at s1
          generalize chD n C = CH at *
          generalize Zk S U K r = Z at *
          generalize rwF n (C (kS K q)) = R1 at *
          generalize rwF n (C o) = R2 at *
          generalize qD (C (kS K q) o) = Q1 at *
          generalize qD (C o (kS K q)) = Q2 at *
          generalize kW K q * (C (kS K q) o / C o (kS K q)) = WW at *
          generalize Zs S (mp wE1 K ++ [(.int (o : Int), qD WW)]) (mp bE1 K) (U ++ [.lst (quD K r)]) = Z1 at *
          generalize Zs S (mp wE1 K ++ [(.int (o : Int), qD WW)]) (mp bE1 K ++ [(.int (o : Int), .int (kS K q : Int))]) (U ++ [.lst (quD K r)]) = Z2 at *
          generalize Zs S (mp wE1 K ++ [(.int (o : Int), qD WW)]) (mp bE1 K ++ [(.int (o : Int), .int (kS K q : Int))]) (U ++ [.lst (quD K r ++ [.int (o : Int)])]) = Z3 at *
          simp [turnL, b10_0, a1, a2, b1, b2, c1, h1', hne, wh, d5, d4, ni, s1, s2, s3, s4]
      | some e =>
        obtain ⟨j, hj, ej⟩ : ∃ j, j < K.length ∧ kS K j = o := by
          refine Classical.byContradiction fun hno => ?_
          have : fnd K o = none := fnd_none.mpr fun i hi hh => hno ⟨i, hi, hh⟩
          rw [this] at hf
          cases hf
        rw [hf] at ni
        have wo : idxS (.loc S.length) (.int (o : Int)) (Zk S U K r) = some (qD (kW K j)) := by
          rw [idx_dct z_w, ← ej, fnd_at h.ks.nd hj]
          rfl
        have cne := q_ne (kW K j) (kW K q * (C (kS K q) o / C o (kS K q))) (Zk S U K r)
        by_cases hw : kW K j = kW K q * (C (kS K q) o / C o (kS K q))
        · rw [decide_eq_true hw] at cne
          refine .inl ⟨K, some (qD (kW K q * (C (kS K q) o / C o (kS K q)))), h, hq, rfl, ?_, ?_⟩
          · intro o' ho' p1 p2
            by_cases x : o' < o
            · exact hp o' x p1 p2
            · have : o' = o := by omega
              subst this
              exact ⟨j, hj, ej, hw⟩
          · generalize chD n C = CH at *
            generalize Zk S U K r = Z at *
            generalize rwF n (C (kS K q)) = R1 at *
            generalize rwF n (C o) = R2 at *
            generalize qD (C (kS K q) o) = Q1 at *
            generalize qD (C o (kS K q)) = Q2 at *
            generalize kW K q * (C (kS K q) o / C o (kS K q)) = WW at *
            generalize qD (kW K j) = Q3 at *
            generalize qD WW = Q4 at *
            simp [turnL, b10_0, a1, a2, b1, b2, c1, h1', hne, wh, d5, d4, ni, wo, cne]
        · rw [decide_eq_false hw] at cne
          have rj : r ≤ j := by
            refine Classical.byContradiction fun hlt => ?_
            have hlt : j < r := by omega
            obtain ⟨j', x1, x2, _⟩ := h.cl j hlt (kS K q) hs (by rw [ej]; exact back) (by rw [ej]; exact fun e => he e.symm)
            have rq := h.rq
            have := h.ks.nd j' q (by omega) hq x2
            omega
          obtain ⟨R, V, ro, e11⟩ := r11 (S := Zk S U K r) (bl := S.length + 1) (k + 3) h.ks h.pr h2 (by omega) z_b hq hj h.rq rj (by rw [ej]; exact he) (by rw [ej]; exact h1) (by unfold rel; rw [ej]; exact hw)
          rw [ej] at e11
          have e11 := frz_of e11 (by
            rw [cl_tup]
            intro d hd
            obtain ⟨x, _, rfl⟩ := List.mem_map.mp hd
            simp)
          refine .inr ⟨.tup [.str "ring", .tup (nsD R)], Zk S U K r, ⟨R, ro, rfl⟩, ?_, ⟨_, rfl⟩⟩
          generalize chD n C = CH at *
          generalize Zk S U K r = Z at *
          generalize rwF n (C (kS K q)) = R1 at *
          generalize rwF n (C o) = R2 at *
          generalize qD (C (kS K q) o) = Q1 at *
          generalize qD (C o (kS K q)) = Q2 at *
          generalize kW K q * (C (kS K q) o / C o (kS K q)) = WW at *
          generalize qD (kW K j) = Q3 at *
          generalize qD WW = Q4 at *
          generalize nsD R = NR at *
          simp [turnL, b10_0, a1, a2, b1, b2, c1, h1', hne, wh, d5, d4, ni, wo, cne, e11]
  · have h1' : ¬ 0 < (C (kS K q) o).num := fun x => h1 (pos_num.mp x)
    refine .inl ⟨K, e10, h, hq, rfl, ?_, ?_⟩
    · intro o' ho' p1 p2
      by_cases x : o' < o
      · exact hp o' x p1 p2
      · have : o' = o := by omega
        subst this
        exact absurd p1 h1
    · generalize chD n C = CH at *
      generalize Zk S U K r = Z at *
      generalize rwF n (C (kS K q)) = R1 at *
      generalize qD (C (kS K q) o) = Q1 at *
      simp [turnL, b10_0, a1, a2, c1, h1']
end
end J.Law
namespace J.Law
open PySem J L2
theorem whl_r {c : Env → M D} {b : Env → Store → J.P} {env : Env} {S S' : Store} {d : D} (h1 : c env S = some (.ok (.bl true) S)) (h2 : b env S = some (.rt d, S')) : whlL c b env S = some (.rt d, S') := by
  rw [whlL]
  simp [h1, h2]
section
variable {S U : Store} {C : Nat → Nat → Rat} {n m : Nat} {K : List En} {r q : Nat}
theorem for10 (k : Nat) (hC : ChOk n C) (h2 : Two C n) (h : Bf C n m K r q) (hq : q < K.length) {e1 e4 e5 e7 e9 e10 : Option D} :
    (∃ K' o5 o10, Bf C n m K' r (q + 1) ∧ q < K'.length ∧ exec (fun h' => ⟨h', run fns (k + 4) h'⟩) p10_0 false [some (chD n C), e1, some (.loc S.length), some (.loc (S.length + 1)), e4, e5, some (.loc (S.length + 2 + U.length)), e7, some (.int (kS K q : Int)), e9, e10] (Zk S U K r) =
      some (.nx [some (chD n C), e1, some (.loc S.length), some (.loc (S.length + 1)), e4, o5, some (.loc (S.length + 2 + U.length)), e7, some (.int (kS K q : Int)), e9, o10], Zk S U K' r)) ∨
    ∃ d S', RingD C n d ∧ exec (fun h' => ⟨h', run fns (k + 4) h'⟩) p10_0 false [some (chD n C), e1, some (.loc S.length), some (.loc (S.length + 1)), e4, e5, some (.loc (S.length + 2 + U.length)), e7, some (.int (kS K q : Int)), e9, e10] (Zk S U K r) = some (.rt d, S') ∧ ∃ V, S' = S ++ V := by
  have n8 := hC.l2
  have := for_ret (p := p10_0) (G := fun h' => ⟨h', run fns (k + 4) h'⟩) (emb := fun (j : Nat) => D.int (j : Int)) (gs := []) (ds := [.int (n : Int)]) (env := [some (chD n C), e1, some (.loc S.length), some (.loc (S.length + 1)), e4, e5, some (.loc (S.length + 2 + U.length)), e7, some (.int (kS K q : Int)), e9, e10]) (S := Zk S U K r) rfl
    (fun pre env' S' => ∃ K' o5 o10, Bf C n m K' r q ∧ q < K'.length ∧ kS K' q = kS K q ∧ Pt C K' q pre.length ∧ env' = [some (chD n C), e1, some (.loc S.length), some (.loc (S.length + 1)), e4, o5, some (.loc (S.length + 2 + U.length)), e7, some (.int (kS K q : Int)), e9, o10] ∧ S' = Zk S U K' r) (fun d S' => RingD C n d ∧ ∃ V, S' = S ++ V) (List.range n) ⟨K, e5, e10, h, hq, rfl, fun o' ho' => absurd ho' (by simp), rfl, rfl⟩ (by simp) (by
      rw [it_rng1 (rngOkS (by omega) (by omega))]
      simp) (fun _ _ _ _ => g0) (by
      rintro p o r' env S1 he ⟨K', o5, o10, hb, hq', ek, hp, rfl, rfl⟩
      obtain ⟨rfl, ho⟩ := range_at he
      have hpl : (p ++ [p.length]).length = p.length + 1 := by simp
      rcases turn10 (S := S) (U := U) k hC h2 hb hq' ho hp (e1 := e1) (e4 := e4) (e5 := o5) (e7 := e7) (e9 := e9) (e10 := o10) with ⟨K2, c10, b2, q2, k2, p2, e⟩ | ⟨d, S', rd, e, V⟩
      · rw [ek] at e
        exact .inl ⟨_, _, .inl e, K2, _, c10, b2, q2, k2.trans ek, by rw [hpl]; exact p2, rfl, rfl⟩
      · rw [ek] at e
        exact .inr ⟨d, S', e, rd, V⟩)
  rcases this with ⟨_, _, e, K', o5, o10, hb, hq', ek, hp, rfl, rfl⟩ | ⟨d, S', e, rd, V⟩
  · refine .inl ⟨K', o5, o10, ⟨hb.ks, hb.pr, hb.cl, ?_, by have := hb.rq; omega, hb.hs⟩, hq', e⟩
    intro i hi o ho h1 h2'
    by_cases hiq : i < q
    · exact hb.dn i hiq o ho h1 h2'
    · have : i = q := by omega
      subst this
      exact hp o (by simpa using ho) h1 h2'
  · exact .inr ⟨d, S', rd, e, V⟩
theorem qu_len : (quD K r).length = K.length - r := by simp
theorem whl10 (k : Nat) (hC : ChOk n C) (h2 : Two C n) {e1 e4 e9 : Option D} : ∀ (f q : Nat) (K : List En) (e5 e8 e10 : Option D), n - q ≤ f → Bf C n m K r q → q ≤ K.length →
    (∃ K' o5 o7 o8 o10, Bf C n m K' r K'.length ∧ whlL (ev ⟨false, run fns (k + 4) false⟩ w10_0) (exec (fun h' => ⟨h', run fns (k + 4) h'⟩) b10_1 false) [some (chD n C), e1, some (.loc S.length), some (.loc (S.length + 1)), e4, e5, some (.loc (S.length + 2 + U.length)), some (.int ((q - r : Nat) : Int)), e8, e9, e10] (Zk S U K r) =
      some (.nx [some (chD n C), e1, some (.loc S.length), some (.loc (S.length + 1)), e4, o5, some (.loc (S.length + 2 + U.length)), o7, o8, e9, o10], Zk S U K' r)) ∨
    ∃ d S', RingD C n d ∧ whlL (ev ⟨false, run fns (k + 4) false⟩ w10_0) (exec (fun h' => ⟨h', run fns (k + 4) h'⟩) b10_1 false) [some (chD n C), e1, some (.loc S.length), some (.loc (S.length + 1)), e4, e5, some (.loc (S.length + 2 + U.length)), some (.int ((q - r : Nat) : Int)), e8, e9, e10] (Zk S U K r) = some (.rt d, S') ∧ ∃ V, S' = S ++ V := by
  intro f
  induction f with
  | zero =>
    intro q K e5 e8 e10 hf h hq
    have hl := h.ks.len
    have : q = K.length := by omega
    subst this
    refine .inl ⟨K, e5, _, e8, e10, h, whl_f ?_⟩
    have hH : (Zk S U K r)[S.length + 2 + U.length]? = some (.lst (quD K r)) := by
      have : Zk S U K r = Zs S (mp wE1 K) (mp bE1 K) U ++ [.lst (quD K r)] := by simp
      rw [this, List.getElem?_append_right (by rw [z_len]; omega), z_len, Nat.sub_self]
      rfl
    have ln : primS .len [.loc (S.length + 2 + U.length)] (Zk S U K r) = some (.int ((K.length - r : Nat) : Int)) := by
      simp only [primS, hH, qu_len]
    generalize Zk S U K r = Z at *
    generalize chD n C = CH at *
    simp [w10_0, ln]
  | succ f ih =>
    intro q K e5 e8 e10 hf h hq
    have rq := h.rq
    have hH : (Zk S U K r)[S.length + 2 + U.length]? = some (.lst (quD K r)) := by
      have : Zk S U K r = Zs S (mp wE1 K) (mp bE1 K) U ++ [.lst (quD K r)] := by simp
      rw [this, List.getElem?_append_right (by rw [z_len]; omega), z_len, Nat.sub_self]
      rfl
    have ln : primS .len [.loc (S.length + 2 + U.length)] (Zk S U K r) = some (.int ((K.length - r : Nat) : Int)) := by
      simp only [primS, hH, qu_len]
    by_cases hlt : q < K.length
    · have ix : idxS (.loc (S.length + 2 + U.length)) (.int ((q - r : Nat) : Int)) (Zk S U K r) = some (.int (kS K q : Int)) := by
        have e : idxS (.loc (S.length + 2 + U.length)) (.int ((q - r : Nat) : Int)) (Zk S U K r) = atI (quD K r) ((q - r : Nat) : Int) := by
          simp only [idxS, hH]
        rw [e]
        have hg : ((K.drop r).map (·.s))[(((q - r : Nat) : Int)).toNat]? = some (kS K q) := by
          rw [Int.toNat_natCast, List.getElem?_map, List.getElem?_drop]
          have : r + (q - r) = q := by omega
          rw [this, nth_eq (d := en0) hlt]
          rfl
        exact atI_map (f := fun (u : Nat) => D.int (u : Int)) (xs := (K.drop r).map (·.s)) (i := ((q - r : Nat) : Int)) (by omega) hg
      have g1 : (((q - r : Nat) : Int) < ((K.length - r : Nat) : Int)) := by omega
      have tt : ev ⟨false, run fns (k + 4) false⟩ w10_0 [some (chD n C), e1, some (.loc S.length), some (.loc (S.length + 1)), e4, e5, some (.loc (S.length + 2 + U.length)), some (.int ((q - r : Nat) : Int)), e8, e9, e10] (Zk S U K r) = some (.ok (.bl true) (Zk S U K r)) := by
        generalize Zk S U K r = Z at *
        generalize chD n C = CH at *
        generalize ((q - r : Nat) : Int) = A at *
        generalize ((K.length - r : Nat) : Int) = B at *
        simp [w10_0, ln, g1]
      rcases for10 (S := S) (U := U) k hC h2 h hlt (e1 := e1) (e4 := e4) (e5 := e5) (e7 := some (.int ((q - r : Nat) : Int))) (e9 := e9) (e10 := e10) with ⟨K', o5, o10, b, q', e⟩ | ⟨d, S', rd, e, V⟩
      · have nx : (((q - r : Nat) : Int) + 1) = ((q + 1 - r : Nat) : Int) := by omega
        have bb : exec (fun h' => ⟨h', run fns (k + 4) h'⟩) b10_1 false [some (chD n C), e1, some (.loc S.length), some (.loc (S.length + 1)), e4, e5, some (.loc (S.length + 2 + U.length)), some (.int ((q - r : Nat) : Int)), e8, e9, e10] (Zk S U K r) = some (.nx [some (chD n C), e1, some (.loc S.length), some (.loc (S.length + 1)), e4, o5, some (.loc (S.length + 2 + U.length)), some (.int ((q + 1 - r : Nat) : Int)), some (.int (kS K q : Int)), e9, o10], Zk S U K' r) := by
          rw [← nx]
          generalize Zk S U K r = Z at *
          generalize Zk S U K' r = Z' at *
          generalize chD n C = CH at *
          generalize ((q - r : Nat) : Int) = A at *
          have ba : binD .add (.int A) (.int 1) = some (.int (A + 1)) := rfl
          simp [b10_1, ix, e, ba]
        rw [whl_t tt bb]
        exact ih (q + 1) K' o5 _ o10 (by omega) b (by omega)
      · refine .inr ⟨d, S', rd, whl_r tt ?_, V⟩
        generalize Zk S U K r = Z at *
        generalize chD n C = CH at *
        generalize ((q - r : Nat) : Int) = A at *
        simp [b10_1, ix, e]
    · have : q = K.length := by omega
      subst this
      refine .inl ⟨K, e5, _, e8, e10, h, whl_f ?_⟩
      generalize Zk S U K r = Z at *
      generalize chD n C = CH at *
      simp [w10_0, ln]
end
end J.Law
namespace J.Law
open PySem J L2
@[simp] theorem e_ddisp {G : Ctx} {env : Env} {as : E} {S : Store} : ev G (.ddisp as) env S = some (.ok (.loc S.length) (S ++ [.dct []])) := by
  simp only [ev]
  rfl
section
variable {S U : Store} {C : Nat → Nat → Rat} {n m : Nat} {K : List En} {r q : Nat}
/-- all is done -/
structure Al (C : Nat → Nat → Rat) (n m : Nat) (K : List En) : Prop where
  ks : Ks C n K
  dn : Dn C n K K.length K.length
  hs : ∀ x, x < m → ∃ i, i < K.length ∧ kS K i = x
theorem al_root (h : Al C n m K) {o : Nat} (ho : o < n) (hm : o = m) (hn : fnd K o = none) : Bf C n (o + 1) (K ++ [⟨o, 1, none⟩]) K.length K.length := by
  obtain ⟨e, he⟩ : ∃ e : En, e = ⟨o, 1, none⟩ := ⟨_, rfl⟩
  rw [← he]
  have new := fnd_none.mp hn
  have hl : (K ++ [e]).length = K.length + 1 := by simp
  have es : ∀ i, i < K.length → kS (K ++ [e]) i = kS K i := fun i hi => by unfold kS; rw [nth_old hi]
  have ew : ∀ i, i < K.length → kW (K ++ [e]) i = kW K i := fun i hi => by unfold kW; rw [nth_old hi]
  have ns : kS (K ++ [e]) K.length = o := by unfold kS; rw [nth_new, he]
  have nw : kW (K ++ [e]) K.length = 1 := by unfold kW; rw [nth_new, he]
  have nb : kB (K ++ [e]) K.length = none := by unfold kB; rw [nth_new, he]
  refine ⟨⟨?_, ?_, ?_, ?_⟩, ⟨nb, fun i hr hi => by rw [hl] at hi; omega⟩, dn_ext h.dn (Nat.le_refl _) (Nat.le_refl _) (Nat.le_refl _), dn_ext h.dn (Nat.le_refl _) (Nat.le_refl _) (by omega), Nat.le_refl _, ?_⟩
  · intro i j hi hj
    rw [hl] at hi hj
    by_cases h1 : i < K.length
    · by_cases h2 : j < K.length
      · rw [es i h1, es j h2]
        exact h.ks.nd i j h1 h2
      · have : j = K.length := by omega
        subst this
        rw [es i h1, ns]
        exact fun x => absurd x (new i h1)
    · have : i = K.length := by omega
      subst this
      by_cases h2 : j < K.length
      · rw [es j h2, ns]
        exact fun x => absurd x.symm (new j h2)
      · omega
  · intro i hi
    rw [hl] at hi
    by_cases h1 : i < K.length
    · rw [es i h1]
      exact h.ks.lt i h1
    · have : i = K.length := by omega
      subst this
      rw [ns]
      exact ho
  · intro i hi
    rw [hl] at hi
    by_cases h1 : i < K.length
    · rw [ew i h1]
      exact h.ks.pos i h1
    · have : i = K.length := by omega
      subst this
      rw [nw]
      decide
  · intro i hi
    rw [hl] at hi
    by_cases h1 : i < K.length
    · rw [ew i h1]
      exact h.ks.ft i h1
    · have : i = K.length := by omega
      subst this
      rw [nw]
      exact ft_one.mono (by omega)
  · intro x hx
    by_cases hxo : x = o
    · exact ⟨K.length, by rw [hl]; omega, by rw [ns, hxo]⟩
    · obtain ⟨i, a, b⟩ := h.hs x (by omega)
      exact ⟨i, by rw [hl]; omega, by rw [es i a]; exact b⟩
theorem root10 (k : Nat) (hC : ChOk n C) (h2 : Two C n) {o : Nat} (ho : o < n) (h : Al C n o K) {e1 e4 e5 e6 e7 e8 e9 e10 : Option D} :
    (∃ K' U' o5 o6 o7 o8 o10, Al C n (o + 1) K' ∧ turnL (fun h' => ⟨h', run fns (k + 4) h'⟩) (.var 4) b10_2 (.int (o : Int)) [some (chD n C), e1, some (.loc S.length), some (.loc (S.length + 1)), e4, e5, e6, e7, e8, e9, e10] (Zs S (mp wE1 K) (mp bE1 K) U) =
      some (.nx [some (chD n C), e1, some (.loc S.length), some (.loc (S.length + 1)), some (.int (o : Int)), o5, o6, o7, o8, e9, o10], Zs S (mp wE1 K') (mp bE1 K') U')) ∨
    ∃ d S', RingD C n d ∧ turnL (fun h' => ⟨h', run fns (k + 4) h'⟩) (.var 4) b10_2 (.int (o : Int)) [some (chD n C), e1, some (.loc S.length), some (.loc (S.length + 1)), e4, e5, e6, e7, e8, e9, e10] (Zs S (mp wE1 K) (mp bE1 K) U) = some (.rt d, S') ∧ ∃ V, S' = S ++ V := by
  have hkn := h.ks.len
  have n8 := hC.l2
  have ni := nin_dct (S := Zs S (mp wE1 K) (mp bE1 K) U) (f := wE1) (K := K) z_w o
  cases hf : fnd K o with
  | some e =>
    rw [hf] at ni
    refine .inl ⟨K, U, e5, e6, e7, e8, e10, ⟨h.ks, h.dn, fun x hx => ?_⟩, ?_⟩
    · by_cases hxo : x = o
      · subst hxo
        refine Classical.byContradiction fun hno => ?_
        have : fnd K x = none := fnd_none.mpr fun i hi hh => hno ⟨i, hi, hh⟩
        rw [this] at hf
        cases hf
      · exact h.hs x (by omega)
    · generalize Zs S (mp wE1 K) (mp bE1 K) U = Z at *
      generalize chD n C = CH at *
      simp [turnL, b10_2, ni]
  | none =>
    rw [hf] at ni
    have b0 := al_root h ho rfl hf
    obtain ⟨e, he⟩ : ∃ e : En, e = ⟨o, 1, none⟩ := ⟨_, rfl⟩
    rw [← he] at b0
    have s1 := setW (S := S) (f := wE1) (B := mp bE1 K) (V := U) (v := .tup [.int 1, .int 1]) hf (by omega)
    have s2 := setB (S := S) (f := bE1) (W := mp wE1 K ++ [(.int (o : Int), .tup [.int 1, .int 1])]) (V := U) (v := .non) hf (by omega)
    have zl := z_len (S := S) (W := mp wE1 K ++ [(.int (o : Int), .tup [.int 1, .int 1])]) (B := mp bE1 K ++ [(.int (o : Int), .non)]) (V := U)
    have eZ : Zk S U (K ++ [e]) K.length = Zs S (mp wE1 K ++ [(.int (o : Int), .tup [.int 1, .int 1])]) (mp bE1 K ++ [(.int (o : Int), .non)]) U ++ [.lst [.int (o : Int)]] := by
      have x1 : mp wE1 (K ++ [e]) = mp wE1 K ++ [(.int (o : Int), .tup [.int 1, .int 1])] := by
        rw [he]
        simp
        rfl
      have x2 : mp bE1 (K ++ [e]) = mp bE1 K ++ [(.int (o : Int), .non)] := by
        rw [he]
        simp
        rfl
      have x3 : quD (K ++ [e]) K.length = [.int (o : Int)] := by
        unfold quD
        rw [List.drop_left]
        simp [he]
      unfold Zk
      rw [x1, x2, x3]
      simp
    have hz : ((K.length - K.length : Nat) : Int) = 0 := by omega
    rcases whl10 (S := S) (U := U) k hC h2 (e1 := e1) (e4 := some (.int (o : Int))) (e9 := e9) (n - K.length) K.length (K ++ [e]) e5 e8 e10 (by omega) b0 (by simp) with ⟨K', o5, o7, o8, o10, b, w⟩ | ⟨d, S', rd, w, V⟩
    · rw [hz] at w
      have w' : exec (fun h' => ⟨h', run fns (k + 4) h'⟩) p10_1 false _ _ = _ := (c_whl (G := fun h' => ⟨h', run fns (k + 4) h'⟩)).trans w
      rw [eZ] at w'
      refine .inl ⟨K', U ++ [.lst (quD K' K.length)], o5, some (.loc (S.length + 2 + U.length)), o7, o8, o10, ⟨b.ks, b.dn, b.hs⟩, ?_⟩
      have eo : Zs S (mp wE1 K') (mp bE1 K') (U ++ [.lst (quD K' K.length)]) = Zk S U K' K.length := rfl
      rw [eo]
      generalize Zk S U K' K.length = Z3 at *
      generalize Zs S (mp wE1 K ++ [(.int (o : Int), .tup [.int 1, .int 1])]) (mp bE1 K ++ [(.int (o : Int), .non)]) U = Z2 at *
      generalize Zs S (mp wE1 K ++ [(.int (o : Int), .tup [.int 1, .int 1])]) (mp bE1 K) U = Z1 at *
      generalize Zs S (mp wE1 K) (mp bE1 K) U = Z at *
      generalize chD n C = CH at *
      simp [turnL, b10_2, ni, s1, s2, zl, w']
    · rw [hz] at w
      have w' : exec (fun h' => ⟨h', run fns (k + 4) h'⟩) p10_1 false _ _ = _ := (c_whl (G := fun h' => ⟨h', run fns (k + 4) h'⟩)).trans w
      rw [eZ] at w'
      refine .inr ⟨d, S', rd, ?_, V⟩
      generalize Zs S (mp wE1 K ++ [(.int (o : Int), .tup [.int 1, .int 1])]) (mp bE1 K ++ [(.int (o : Int), .non)]) U = Z2 at *
      generalize Zs S (mp wE1 K ++ [(.int (o : Int), .tup [.int 1, .int 1])]) (mp bE1 K) U = Z1 at *
      generalize Zs S (mp wE1 K) (mp bE1 K) U = Z at *
      generalize chD n C = CH at *
      simp [turnL, b10_2, ni, s1, s2, zl, w']
/-- what is told of a chain in balance -/
structure BalOk (C : Nat → Nat → Rat) (n : Nat) (w : Nat → Rat) : Prop where
  pos : ∀ i, i < n → 0 < w i
  ft : ∀ i, i < n → Ft 161 (w i)
  st : ∀ i j, i < n → j < n → w i * C i j = w j * C j i
def BalD (C : Nat → Nat → Rat) (n : Nat) (d : D) : Prop := ∃ w, BalOk C n w ∧ d = .tup [.str "balanced", rwF n w]
def wtF (K : List En) (s : Nat) : Rat := match fnd K s with
  | some e => e.w
  | none => 0
theorem wt_at (h : Ks C n K) {i : Nat} (hi : i < K.length) : wtF K (kS K i) = kW K i := by
  unfold wtF
  rw [fnd_at h.nd hi]
theorem al_bal (hC : ChOk n C) (h2 : Two C n) (h : Al C n n K) : BalOk C n (wtF K) := by
  have hl := h.ks.len
  have n8 := hC.l2
  refine ⟨fun i hi => ?_, fun i hi => ?_, fun i j hi hj => ?_⟩
  · obtain ⟨x, hx, rfl⟩ := h.hs i hi
    rw [wt_at h.ks hx]
    exact h.ks.pos x hx
  · obtain ⟨x, hx, rfl⟩ := h.hs i hi
    rw [wt_at h.ks hx]
    exact (h.ks.ft x hx).mono (by omega)
  · obtain ⟨x, hx, rfl⟩ := h.hs i hi
    obtain ⟨y, hy, rfl⟩ := h.hs j hj
    rw [wt_at h.ks hx, wt_at h.ks hy]
    by_cases hxy : x = y
    · subst hxy
      rfl
    · by_cases hc : 0 < C (kS K x) (kS K y)
      · have back := h2 _ _ hi hj hc
        obtain ⟨z, hz, ez, re⟩ := h.dn x hx (kS K y) hj hc fun e => hxy (h.ks.nd y x hy hx e).symm
        have : z = y := h.ks.nd z y hz hy ez
        subst this
        unfold rel at re
        rw [re, Rat.mul_assoc, Rat.div_mul_cancel (rat_ne' back)]
      · have z1 : C (kS K x) (kS K y) = 0 := by
          have := hC.nn _ _ hi hj
          grind
        have hc2 : ¬ 0 < C (kS K y) (kS K x) := fun e => hc (h2 _ _ hj hi e)
        have z2 : C (kS K y) (kS K x) = 0 := by
          have := hC.nn _ _ hj hi
          grind
        rw [z1, z2]
        grind
theorem two_of (hC : ChOk n C) (h : fst C n = none) : Two C n := by
  intro i j hi hj hp
  unfold fst at h
  rw [List.findSome?_eq_none_iff] at h
  have h1 := h i (List.mem_range.mpr hi)
  unfold fR at h1
  rw [List.findSome?_eq_none_iff] at h1
  have h2 := h1 j (List.mem_range.mpr hj)
  unfold fP at h2
  by_cases hb : fB C i j = true
  · rw [if_pos hb] at h2
    cases h2
  · have nn := hC.nn j i hj hi
    have : C j i ≠ 0 := fun e => by
      apply hb
      unfold fB
      have a := pos_num.mpr hp
      have b : (C j i).num = 0 := by rw [e]; rfl
      simp [a, b]
    grind
/-- judge_balance -/
theorem r10 (k : Nat) (hC : ChOk n C) : ∃ d, frzO S (run fns (k + 8) false 10 [chD n C] S) = some (.ok d S) ∧
    ((∃ p, fst C n = some p ∧ d = .tup [.str "one", prD p]) ∨ (fst C n = none ∧ (BalD C n d ∨ RingD C n d))) := by
  have n8 := hC.l2
  have q9 := frz_same (r9 (S := S) k hC) (by simp)
  have hc := out10 (S := S) (C := C) (k + 7) n8 (e1 := none) (e2 := none) (e3 := none) (e4 := none) (e5 := none) (e6 := none) (e7 := none) (e8 := none) (e9 := none) (e10 := none)
  rw [Is.run (⟨f10, rfl, rfl, rfl, rfl, rfl⟩ : Is fns 10 1 11 _) rfl]
  rcases hc with ⟨hn, o1, o5, e⟩ | ⟨p, hp, e⟩
  · have h2 := two_of hC hn
    have al0 : Al C n 0 ([] : List En) := ⟨⟨fun i j hi => by simp at hi, fun i hi => by simp at hi, fun i hi => by simp at hi, fun i hi => by simp at hi⟩, fun i hi => by simp at hi, fun x hx => by omega⟩
    have := for_ret (p := p10_2) (G := fun h' => ⟨h', run fns (k + 7) h'⟩) (emb := fun (j : Nat) => D.int (j : Int)) (gs := []) (ds := [.int (n : Int)]) (env := [some (chD n C), o1, some (.loc S.length), some (.loc (S.length + 1)), none, o5, none, none, none, none, none]) (S := Zs S [] [] []) rfl
      (fun pre env' S' => ∃ K' U' o4 o5 o6 o7 o8 o10, Al C n pre.length K' ∧ env' = [some (chD n C), o1, some (.loc S.length), some (.loc (S.length + 1)), o4, o5, o6, o7, o8, none, o10] ∧ S' = Zs S (mp wE1 K') (mp bE1 K') U') (fun d S' => RingD C n d ∧ ∃ V, S' = S ++ V) (List.range n) ⟨[], [], _, _, _, _, _, _, al0, rfl, rfl⟩ (by simp) (by
        rw [it_rng1 (rngOkS (by omega) (by omega))]
        simp) (fun _ _ _ _ => g0) (by
        rintro p o r' env S1 he ⟨K', U', o4, o5, o6, o7, o8, o10, al, rfl, rfl⟩
        obtain ⟨rfl, ho⟩ := range_at he
        have hpl : (p ++ [p.length]).length = p.length + 1 := by simp
        rcases root10 (S := S) (U := U') (k + 3) hC h2 ho al (e1 := o1) (e4 := o4) (e5 := o5) (e6 := o6) (e7 := o7) (e8 := o8) (e9 := none) (e10 := o10) with ⟨K2, U2, c5, c6, c7, c8, c10, al2, e⟩ | ⟨d, S', rd, e, V⟩
        · exact .inl ⟨_, _, .inl e, K2, U2, _, c5, c6, c7, c8, c10, by rw [hpl]; exact al2, rfl, rfl⟩
        · exact .inr ⟨d, S', e, rd, V⟩)
    have z1 : S ++ [Cell.dct []] ++ [Cell.dct []] = Zs S [] [] [] := by simp
    have zl : (S ++ [Cell.dct []]).length = S.length + 1 := by simp
    rcases this with ⟨_, _, e2, K', U', o4, c5, o6, o7, o8, o10, al, rfl, rfl⟩ | ⟨d, S', e2, rd, V, rfl⟩
    · rw [List.length_range] at al
      refine ⟨.tup [.str "balanced", rwF n (wtF K')], ?_, .inr ⟨hn, .inl ⟨_, al_bal hC h2 al, rfl⟩⟩⟩
      have ec : ev ⟨false, run fns (k + 7) false⟩ q10_0 [some (chD n C), o1, some (.loc S.length), some (.loc (S.length + 1)), o4, c5, o6, o7, o8, none, o10] (Zs S (mp wE1 K') (mp bE1 K') U') = some (.ok (.lst ((List.range n).map fun s => qD (wtF K' s))) (Zs S (mp wE1 K') (mp bE1 K') U')) := by
        refine comp_map (emb := fun (j : Nat) => D.int (j : Int)) (xs := List.range n) (ds := [.int (n : Int)]) (gs := []) (g := fun s => qD (wtF K' s)) rfl (by simp) (by
          rw [it_rng1 (rngOkS (by omega) (by omega))]
          simp) g0 (by simp; omega) fun s hs => ?_
        obtain ⟨x, hx, rfl⟩ := al.hs s (List.mem_range.mp hs)
        have ix : idxS (.loc S.length) (.int (kS K' x : Int)) (Zs S (mp wE1 K') (mp bE1 K') U') = some (qD (wtF K' (kS K' x))) := by
          rw [idx_dct z_w, fnd_at al.ks.nd hx, wt_at al.ks hx]
          rfl
        generalize Zs S (mp wE1 K') (mp bE1 K') U' = Z at *
        generalize qD (wtF K' (kS K' x)) = Q at *
        generalize chD n C = CH at *
        simp [t_turn, wipeE, ix]
      have cl : Cl S.length (.tup [.str "balanced", rwF n (wtF K')]) := by simp [qD]
      have rn : rwF n (wtF K') = .tup ((List.range n).map fun s => qD (wtF K' s)) := rfl
      rw [rn] at cl ⊢
      generalize ((List.range n).map fun s => qD (wtF K' s)) = L at *
      refine frz_of (S' := .dct (mp wE1 K') :: .dct (mp bE1 K') :: U') ?_ cl
      have ez : S ++ .dct (mp wE1 K') :: .dct (mp bE1 K') :: U' = Zs S (mp wE1 K') (mp bE1 K') U' := rfl
      rw [ez]
      generalize Zs S (mp wE1 K') (mp bE1 K') U' = Z2 at *
      generalize Zs S [] [] [] = Z1 at *
      generalize chD n C = CH at *
      simp at z1
      simp [f10, q9, e, z1, e2, ec]
    · refine ⟨d, ?_, .inr ⟨hn, .inr rd⟩⟩
      have cl : Cl S.length d := by
        obtain ⟨R, _, rfl⟩ := rd
        rw [cl_tup]
        intro x hx
        simp only [List.mem_cons, List.not_mem_nil, or_false] at hx
        rcases hx with rfl | rfl
        · simp
        · rw [cl_tup]
          intro y hy
          obtain ⟨z, _, rfl⟩ := List.mem_map.mp hy
          simp
      refine frz_of (S' := V) ?_ cl
      generalize S ++ V = Z2 at *
      generalize Zs S [] [] [] = Z1 at *
      generalize chD n C = CH at *
      simp at z1
      simp [f10, q9, e, z1, e2]
  · refine ⟨_, ?_, .inl ⟨p, hp, rfl⟩⟩
    refine frz_same ?_ (by simp)
    generalize chD n C = CH at *
    simp [f10, q9, e]
end
end J.Law
namespace J.Law
open PySem J L2
section
variable {S : Store} {n : Nat} {C : Nat → Nat → Rat}
theorem in24 (k : Nat) (i : Nat) (hi : i < n) (hn : n ≤ 8) {e2 : Option D} :
    (fR C n i = none ∧ ∃ o5, exec (fun h' => ⟨h', run fns k h'⟩) p24_0 false [some (chD n C), some (.int (i : Int)), e2] S = some (.nx [some (chD n C), some (.int (i : Int)), o5], S)) ∨
    ∃ p, fR C n i = some p ∧ exec (fun h' => ⟨h', run fns k h'⟩) p24_0 false [some (chD n C), some (.int (i : Int)), e2] S = some (.rt (prD p), S) := by
  have := for_ret (p := p24_0) (G := fun h' => ⟨h', run fns k h'⟩) (emb := fun (j : Nat) => D.int (j : Int)) (gs := []) (ds := [.int (n : Int)]) (env := [some (chD n C), some (.int (i : Int)), e2]) (S := S) rfl
    (fun pre env' S' => pre.findSome? (fP C i) = none ∧ ∃ o5, env' = [some (chD n C), some (.int (i : Int)), o5] ∧ S' = S) (fun d S' => ∃ p, fR C n i = some p ∧ d = prD p ∧ S' = S) (List.range n) ⟨rfl, e2, rfl, rfl⟩ (by simp) (by
      rw [it_rng1 (rngOkS (by omega) (by omega))]
      simp) (fun _ _ _ _ => g0) (by
      rintro p j r env S1 he ⟨hp, o5, rfl, rfl⟩
      obtain ⟨hs, hf⟩ := find_step he hp
      obtain ⟨rfl, hj⟩ := range_at he
      obtain ⟨a1, a2⟩ := ch_ix (S := S1) (C := C) i p.length hi hj
      obtain ⟨b1, b2⟩ := ch_ix (S := S1) (C := C) p.length i hj hi
      have c1 : idxS (qD (C i p.length)) (.int 0) S1 = some (.int (C i p.length).num) := rfl
      have c2 : idxS (qD (C p.length i)) (.int 0) S1 = some (.int (C p.length i).num) := rfl
      generalize qD (C i p.length) = Q1 at *
      generalize qD (C p.length i) = Q2 at *
      generalize chD n C = CH at *
      generalize rwF n (C i) = R1 at *
      generalize rwF n (C p.length) = R2 at *
      by_cases h1 : 0 < (C i p.length).num
      · by_cases h2 : (C p.length i).num = 0
        · have e : fP C i p.length = some (i, p.length) := by unfold fP fB; simp [h1, h2]
          refine .inr ⟨_, _, ?_, _, hf _ e, rfl, rfl⟩
          simp [turnL, b24_0, a1, a2, b1, b2, c1, c2, h1, h2]
        · have e : fP C i p.length = none := by unfold fP fB; simp [h1, h2]
          refine .inl ⟨_, _, .inl ?_, hs.trans e, some (.int (p.length : Int)), rfl, rfl⟩
          simp [turnL, b24_0, a1, a2, b1, b2, c1, c2, h1, h2]
      · have e : fP C i p.length = none := by unfold fP fB; simp [h1]
        refine .inl ⟨_, _, .inl ?_, hs.trans e, some (.int (p.length : Int)), rfl, rfl⟩
        simp [turnL, b24_0, a1, a2, b1, b2, c1, c2, h1])
  rcases this with ⟨_, _, e, hp, o5, rfl, rfl⟩ | ⟨_, _, e, p, hf, rfl, rfl⟩
  · exact .inl ⟨hp, o5, e⟩
  · exact .inr ⟨p, hf, e⟩
theorem out24 (k : Nat) (hn : n ≤ 8) {e1 e2 : Option D} :
    (fst C n = none ∧ ∃ o1 o5, exec (fun h' => ⟨h', run fns k h'⟩) p24_1 false [some (chD n C), e1, e2] S = some (.nx [some (chD n C), o1, o5], S)) ∨
    ∃ p, fst C n = some p ∧ exec (fun h' => ⟨h', run fns k h'⟩) p24_1 false [some (chD n C), e1, e2] S = some (.rt (prD p), S) := by
  have := for_ret (p := p24_1) (G := fun h' => ⟨h', run fns k h'⟩) (emb := fun (j : Nat) => D.int (j : Int)) (gs := []) (ds := [.int (n : Int)]) (env := [some (chD n C), e1, e2]) (S := S) rfl
    (fun pre env' S' => pre.findSome? (fR C n) = none ∧ ∃ o1 o5, env' = [some (chD n C), o1, o5] ∧ S' = S) (fun d S' => ∃ p, fst C n = some p ∧ d = prD p ∧ S' = S) (List.range n) ⟨rfl, e1, e2, rfl, rfl⟩ (by simp) (by
      rw [it_rng1 (rngOkS (by omega) (by omega))]
      simp) (fun _ _ _ _ => g0) (by
      rintro p i r env S1 he ⟨hp, o1, o5, rfl, rfl⟩
      obtain ⟨hs, hf⟩ := find_step he hp
      obtain ⟨rfl, hi⟩ := range_at he
      rcases in24 (S := S1) (C := C) k p.length hi hn (e2 := o5) with ⟨hr, c5, e⟩ | ⟨q, hr, e⟩
      · refine .inl ⟨_, _, .inl ?_, hs.trans hr, some (.int (p.length : Int)), c5, rfl, rfl⟩
        generalize chD n C = CH at *
        simp [turnL, b24_1, e]
      · refine .inr ⟨_, _, ?_, q, hf _ hr, rfl, rfl⟩
        generalize chD n C = CH at *
        simp [turnL, b24_1, e])
  rcases this with ⟨_, _, e, hp, o1, o5, rfl, rfl⟩ | ⟨_, _, e, p, hf, rfl, rfl⟩
  · exact .inl ⟨hp, o1, o5, e⟩
  · exact .inr ⟨p, hf, e⟩
/-- _law_first -/
theorem r24 (k : Nat) (hC : ChOk n C) : run fns (k + 1) false 24 [chD n C] S = some (.ok (match fst C n with | some p => prD p | none => .non) S) := by
  have n8 := hC.l2
  rw [Is.run (⟨f24, rfl, rfl, rfl, rfl, rfl⟩ : Is fns 24 1 3 _) rfl]
  rcases out24 (S := S) (C := C) k n8 (e1 := none) (e2 := none) with ⟨hn, o1, o5, e⟩ | ⟨p, hp, e⟩
  · rw [hn]
    generalize chD n C = CH at *
    simp [f24, e]
  · rw [hp]
    generalize chD n C = CH at *
    simp [f24, e]
theorem enu_rg {n : Nat} (f : Nat → D) : enuL 0 ((List.range n).map f) = (List.range n).map fun j => .tup [.int (j : Int), f j] := by
  have := enu_map (f := f) (d := 0) (List.range n)
  rw [this, List.length_range]
  apply List.map_congr_left
  intro j hj
  have hj := List.mem_range.mp hj
  have : nth (List.range n) j 0 = j := by
    unfold nth
    rw [List.getD_eq_getElem?_getD, List.getElem?_range hj]
    rfl
  rw [this]
variable {w : Nat → Rat}
theorem rw_ix (w : Nat → Rat) (i : Nat) (hi : i < n) : idxS (rwF n w) (.int (i : Int)) S = some (qD (w i)) := by
  have : atI ((List.range n).map fun j => qD (w j)) (i : Int) = some (qD (w i)) := atI_map (f := fun j => qD (w j)) (xs := List.range n) (by omega) (by rw [Int.toNat_natCast]; exact List.getElem?_range hi)
  simpa using this
theorem q12 (k : Nat) (hb : BalOk C n w) (hn : n ≤ 8) {e0 e2 e3 e4 e5 : Option D} : ev ⟨false, run fns (k + 2) false⟩ q12_0 [e0, some (rwF n w), e2, e3, e4, e5, none] S = some (.ok (.lst ((List.range n).map fun _ => .bl true)) S) := by
  refine comp_map (emb := fun j => qD (w j)) (xs := List.range n) (ds := [rwF n w]) (gs := [none]) (g := fun _ => .bl true) rfl (by simp) (by simp [iterS, guardOf]) gN (by simp; omega) fun j hj => ?_
  have hj := List.mem_range.mp hj
  have q := isq (S := S) k (w j)
  have p := pos_num.mpr (hb.pos j hj)
  have ix : idxS (qD (w j)) (.int 0) S = some (.int (w j).num) := rfl
  generalize qD (w j) = Q at *
  generalize rwF n w = R at *
  simp [t_turn, wipeE, q, ix, p]
theorem step_eq (hC : ChOk n C) (hb : BalOk C n w) (k : Nat) {i j : Nat} (hi : i < n) (hj : j < n) : frzO S (run fns (k + 3) false 4 [qD (w i), qD (C i j)] S) = some (.ok (qD (w i * C i j)) S) ∧ frzO S (run fns (k + 3) false 4 [qD (w j), qD (C j i)] S) = some (.ok (qD (w i * C i j)) S) ∧ cmpS .ne (qD (w i * C i j)) (qD (w i * C i j)) S = some false := by
  refine ⟨frz_same (r_times' i1 i2 i4 k S (hb.ft i hi) (hC.ft hi hj) (by omega)) (by simp [qD]), ?_, ?_⟩
  · have := frz_same (r_times' i1 i2 i4 k S (hb.ft j hj) (hC.ft hj hi) (by omega)) (by simp [qD])
    rw [hb.st i j hi hj]
    exact this
  · rw [q_ne]
    simp
/-- accept_balance -/
theorem r12 (k : Nat) (hC : ChOk n C) (hb : BalOk C n w) : run fns (k + 8) false 12 [chD n C, rwF n w] S = some (.ok .non S) := by
  have n8 := hC.l2
  have q9 := frz_same (r9 (S := S) k hC) (by simp)
  have qc := q12 (S := S) (k + 5) hb n8 (e0 := some (chD n C)) (e2 := none) (e3 := none) (e4 := none) (e5 := none)
  rw [Is.run (⟨f12, rfl, rfl, rfl, rfl, rfl⟩ : Is fns 12 2 7 _) rfl]
  have hit : iterS .enu [chD n C] S = some ((List.range n).map fun i => .tup [.int (i : Int), rwF n (C i)], [none]) := by
    have : iterS .enu [chD n C] S = some (enuL 0 ((List.range n).map fun i => rwF n (C i)), [none]) := rfl
    rw [this, enu_rg]
  obtain ⟨_, _, e, o2, o3, o4, o5, rfl, rfl⟩ := for_inv (p := p12_1) (G := fun h' => ⟨h', run fns (k + 7) h'⟩) (emb := fun (i : Nat) => D.tup [.int (i : Int), rwF n (C i)]) (gs := [none]) (ds := [chD n C]) (env := [some (chD n C), some (rwF n w), none, none, none, none, none]) (S := S) rfl
    (fun pre env' S' => ∃ o2 o3 o4 o5, env' = [some (chD n C), some (rwF n w), o2, o3, o4, o5, none] ∧ S = S') (List.range n) ⟨none, none, none, none, rfl, rfl⟩ (by simp) hit (fun _ _ _ _ => gN) (by
      rintro p i r env S1 he ⟨o2, o3, o4, o5, rfl, rfl⟩
      obtain ⟨rfl, hi⟩ := range_at he
      have hit2 : iterS .enu [rwF n (C p.length)] S = some ((List.range n).map fun j => .tup [.int (j : Int), qD (C p.length j)], [none]) := by
        have : iterS .enu [rwF n (C p.length)] S = some (enuL 0 ((List.range n).map fun j => qD (C p.length j)), [none]) := rfl
        rw [this, enu_rg]
      obtain ⟨_, _, e, o4', o5', rfl, rfl⟩ := for_inv (p := p12_0) (G := fun h' => ⟨h', run fns (k + 7) h'⟩) (emb := fun (j : Nat) => D.tup [.int (j : Int), qD (C p.length j)]) (gs := [none]) (ds := [rwF n (C p.length)]) (env := [some (chD n C), some (rwF n w), some (.int (p.length : Int)), some (rwF n (C p.length)), o4, o5, none]) (S := S) rfl
        (fun pre env' S' => ∃ o4 o5, env' = [some (chD n C), some (rwF n w), some (.int (p.length : Int)), some (rwF n (C p.length)), o4, o5, none] ∧ S = S') (List.range n) ⟨o4, o5, rfl, rfl⟩ (by simp) hit2 (fun _ _ _ _ => gN) (by
          rintro p' j r' env S1 he' ⟨o4, o5, rfl, rfl⟩
          obtain ⟨rfl, hj⟩ := range_at he'
          obtain ⟨x1, x2, x3⟩ := step_eq (S := S) hC hb (k + 4) hi hj
          have y1 := rw_ix (S := S) w p.length hi
          have y2 := rw_ix (S := S) w p'.length hj
          obtain ⟨z1, z2⟩ := ch_ix (S := S) (C := C) p'.length p.length hj hi
          refine ⟨_, _, .inl ?_, some (.int (p'.length : Int)), some (qD (C p.length p'.length)), rfl, rfl⟩
          generalize chD n C = CH at *
          generalize rwF n w = R at *
          generalize rwF n (C p'.length) = R2 at *
          generalize rwF n (C p.length) = R3 at *
          generalize qD (C p.length p'.length) = Q1 at *
          generalize qD (C p'.length p.length) = Q2 at *
          generalize qD (w p.length) = W1 at *
          generalize qD (w p'.length) = W2 at *
          generalize qD (w p.length * C p.length p'.length) = Q3 at *
          simp [turnL, b12_0, x1, x2, x3, y1, y2, z1, z2])
      refine ⟨_, _, .inl ?_, some (.int (p.length : Int)), some (rwF n (C p.length)), o4', o5', rfl, rfl⟩
      generalize chD n C = CH at *
      generalize rwF n w = R at *
      generalize rwF n (C p.length) = R3 at *
      simp [turnL, b12_1, e])
  have l1 : primS .len [rwF n w] S = some (.int (n : Int)) := by simp
  have l2 : primS .len [chD n C] S = some (.int (n : Int)) := by simp
  have ti : isiS (rwF n w) .tuple S = some true := rfl
  generalize chD n C = CH at *
  generalize rwF n w = R at *
  simp [f12, q9, l1, l2, ti, qc, e]
end
end J.Law
namespace J.Law
open PySem J L2
theorem ext_end {W : Store} {xs : List D} {es : List D} (h : xs.length < 1000000) (he : es.length < 1000000) : extS (.loc W.length) (.lst es) (W ++ [.lst xs]) = some (W ++ [.lst (xs ++ es)]) := by
  have e : (W ++ [Cell.lst xs])[W.length]? = some (.lst xs) := by simp
  simp only [extS, e]
  rw [if_pos ⟨h, he⟩]
  simp
theorem all_end {W : Store} {xs : List D} (h : ∀ d ∈ xs, d = .bl true) : primS .all [.loc W.length] (W ++ [.lst xs]) = some (.bl true) := by
  have e1 : isList (.loc W.length) (W ++ [.lst xs]) = true := by simp [isList]
  have e2 : itemsS (.loc W.length) (W ++ [.lst xs]) = some xs := by simp [itemsS]
  have e3 : xs = xs.map fun _ => D.bl true := by
    conv => lhs; rw [← List.map_id xs]
    exact List.map_congr_left fun x hx => h x hx
  have e4 : boolsD xs = some (xs.map fun _ => true) := by
    conv => lhs; rw [e3]
    rw [boolsD_mapf]
  simp only [primS, e1, e2, Option.bind_some, e4]
  simp
section
variable {S : Store} {n : Nat} {C : Nat → Nat → Rat} {w : Nat → Rat}
theorem lisq (k : Nat) (r : Rat) : frzO S (run fns (k + 2) false 20 [qD r] S) = some (.ok (.bl true) S) := by
  have hp : Pl 1 (qD r) := .tup (fun d hd => by
    simp only [List.mem_cons, List.not_mem_nil, or_false] at hd
    rcases hd with rfl | rfl <;> exact .int) (by simp)
  have := frz_same (rl_isq i19 i16 i20 k hp (S := S)) (by simp)
  rw [this, quoP_of]
theorem q25b (k : Nat) (hb : BalOk C n w) (hn : n ≤ 8) {e0 e2 e3 e4 : Option D} : ev ⟨false, run fns (k + 2) false⟩ q25_1 [e0, some (rwF n w), e2, e3, e4, none] S = some (.ok (.lst ((List.range n).map fun _ => .bl true)) S) := by
  refine comp_map (emb := fun j => qD (w j)) (xs := List.range n) (ds := [rwF n w]) (gs := [none]) (g := fun _ => .bl true) rfl (by simp) (by simp [iterS, guardOf]) gN (by simp; omega) fun j hj => ?_
  have hj := List.mem_range.mp hj
  have q := lisq (S := S) k (w j)
  have p := pos_num.mpr (hb.pos j hj)
  have ix : idxS (qD (w j)) (.int 0) S = some (.int (w j).num) := rfl
  generalize qD (w j) = Q at *
  generalize rwF n w = R at *
  simp [t_turn, wipeE, q, ix, p]
theorem lstep_eq (hC : ChOk n C) (hb : BalOk C n w) (k : Nat) {i j : Nat} (hi : i < n) (hj : j < n) : frzO S (run fns (k + 3) false 18 [qD (w i), qD (C i j)] S) = some (.ok (qD (w i * C i j)) S) ∧ frzO S (run fns (k + 3) false 18 [qD (w j), qD (C j i)] S) = some (.ok (qD (w i * C i j)) S) ∧ cmpS .eq (qD (w i * C i j)) (qD (w i * C i j)) S = some true := by
  refine ⟨frz_same (rl_times i16 i17 i18 k S (hb.ft i hi) (hC.ft hi hj) (by omega)) (by simp [qD]), ?_, ?_⟩
  · have := frz_same (rl_times i16 i17 i18 k S (hb.ft j hj) (hC.ft hj hi) (by omega)) (by simp [qD])
    rw [hb.st i j hi hj]
    exact this
  · rw [q_eq]
    simp
/-- _law_weights_hold -/
theorem r25 (k : Nat) (hC : ChOk n C) (hb : BalOk C n w) : ∃ U, run fns (k + 4) false 25 [chD n C, rwF n w] S = some (.ok (.bl true) (S ++ U)) := by
  have n8 := hC.l2
  have qc := q25b (S := S) (k + 1) hb n8 (e0 := some (chD n C)) (e2 := none) (e3 := none) (e4 := none)
  rw [Is.run (⟨f25, rfl, rfl, rfl, rfl, rfl⟩ : Is fns 25 2 6 _) rfl]
  obtain ⟨_, _, e, o3, xs, hx, hl, rfl, rfl⟩ := for_inv (p := p25_0) (G := fun h' => ⟨h', run fns (k + 3) h'⟩) (emb := fun (i : Nat) => D.int (i : Int)) (gs := []) (ds := [.int (n : Int)]) (env := [some (chD n C), some (rwF n w), some (.loc S.length), none, none, none]) (S := S ++ [.lst []]) rfl
    (fun pre env' S' => ∃ o3 xs, (∀ d ∈ xs, d = .bl true) ∧ xs.length ≤ 8 * pre.length ∧ env' = [some (chD n C), some (rwF n w), some (.loc S.length), o3, none, none] ∧ S' = S ++ [.lst xs]) (List.range n) ⟨none, [], by simp, by simp, rfl, rfl⟩ (by simp) (by
      rw [it_rng1 (rngOkS (by omega) (by omega))]
      simp) (fun _ _ _ _ => g0) (by
      rintro p i r env S1 he ⟨o3, xs, hx, hl, rfl, rfl⟩
      obtain ⟨rfl, hi⟩ := range_at he
      have ec : ev ⟨false, run fns (k + 3) false⟩ q25_0 [some (chD n C), some (rwF n w), some (.loc S.length), some (.int (p.length : Int)), none, none] (S ++ [.lst xs]) = some (.ok (.lst ((List.range p.length).map fun _ => .bl true)) (S ++ [.lst xs])) := by
        refine comp_map (emb := fun (j : Nat) => D.int (j : Int)) (xs := List.range p.length) (ds := [.int (p.length : Int)]) (gs := []) (g := fun _ => .bl true) rfl (by simp) (by
          rw [it_rng1 (rngOkS (by omega) (by omega))]
          simp) g0 (by simp; omega) fun j hj => ?_
        have hj := List.mem_range.mp hj
        obtain ⟨x1, x2, x3⟩ := lstep_eq (S := S ++ [.lst xs]) hC hb k hi (j := j) (by omega)
        have y1 := rw_ix (S := S ++ [.lst xs]) w p.length hi
        have y2 := rw_ix (S := S ++ [.lst xs]) w j (n := n) (by omega)
        obtain ⟨z1, z2⟩ := ch_ix (S := S ++ [.lst xs]) (C := C) j p.length (n := n) (by omega) hi
        obtain ⟨v1, v2⟩ := ch_ix (S := S ++ [.lst xs]) (C := C) p.length j hi (by omega)
        generalize S ++ [.lst xs] = Z at *
        generalize chD n C = CH at *
        generalize rwF n w = R at *
        generalize rwF n (C j) = R2 at *
        generalize rwF n (C p.length) = R3 at *
        generalize qD (C p.length j) = Q1 at *
        generalize qD (C j p.length) = Q2 at *
        generalize qD (w p.length) = W1 at *
        generalize qD (w j) = W2 at *
        generalize qD (w p.length * C p.length j) = Q3 at *
        simp [t_turn, wipeE, x1, x2, x3, y1, y2, z1, z2, v1, v2]
      have hp8 : p.length < 8 := by omega
      have ex := ext_end (W := S) (xs := xs) (es := (List.range p.length).map fun _ => .bl true) (by omega) (by simp; omega)
      have il : isLoc (.loc S.length) (S ++ [.lst xs]) = true := isLoc_last
      refine ⟨_, _, .inl ?_, some (.int (p.length : Int)), xs ++ (List.range p.length).map fun _ => .bl true, fun d hd => ?_, ?_, rfl, rfl⟩
      · generalize (List.range p.length).map (fun _ => D.bl true) = L at *
        generalize S ++ [.lst (xs ++ L)] = Z2 at *
        generalize S ++ [.lst xs] = Z at *
        generalize chD n C = CH at *
        generalize rwF n w = R at *
        simp [turnL, b25_0, ec, ex, il]
      · rcases List.mem_append.mp hd with h | h
        · exact hx d h
        · obtain ⟨_, _, rfl⟩ := List.mem_map.mp h
          rfl
      · rw [List.length_append, List.length_map, List.length_range, List.length_append]
        show _ ≤ 8 * (p.length + 1)
        omega)
  have l1 : primS .len [rwF n w] S = some (.int (n : Int)) := by simp
  have l2 : primS .len [chD n C] S = some (.int (n : Int)) := by simp
  have ti : isiS (rwF n w) .tuple S = some true := rfl
  have al := all_end (W := S) hx
  refine ⟨[.lst xs], ?_⟩
  generalize S ++ [.lst xs] = Z at *
  generalize chD n C = CH at *
  generalize rwF n w = R at *
  simp [f25, l1, l2, ti, qc, e, al]
end
end J.Law
namespace J.Law
open PySem J L2
def insK (ks : List Nat) (k : Nat) : List Nat := if k ∈ ks then ks else ks ++ [k]
/-! ### dicts with such keys -/
abbrev dK (ks : List Nat) : List (D × D) := ks.map fun (k : Nat) => (.int (k : Int), .bl true)
theorem dK_cons (x : Nat) (ks : List Nat) : dK (x :: ks) = (.int (x : Int), .bl true) :: dK ks := rfl
theorem dget_dK (k : Nat) : ∀ ks : List Nat, dget (.int (k : Int)) (dK ks) = some (if k ∈ ks then some (.bl true) else none)
  | [] => rfl
  | x :: ks => by
    have ih := dget_dK k ks
    rw [dK_cons]
    unfold dget
    rw [eqD_int]
    by_cases h : x = k
    · subst h
      simp
    · have : ¬ ((x : Int) = (k : Int)) := by omega
      simp only [decide_eq_false this, ih]
      congr 1
      by_cases hk : k ∈ ks
      · simp [hk]
      · have : k ≠ x := fun e => h e.symm
        simp [hk, this]
theorem dmap_dK (k : Nat) : ∀ ks : List Nat, dmap (.int (k : Int)) (.bl true) (dK ks) = some (dK ks)
  | [] => rfl
  | x :: ks => by
    have ih := dmap_dK k ks
    rw [dK_cons]
    unfold dmap
    rw [eqD_int, ih]
    simp
theorem dput_dK (k : Nat) (ks : List Nat) : dput (.int (k : Int)) (.bl true) (dK ks) = some (dK (insK ks k)) := by
  unfold dput
  rw [dget_dK]
  unfold insK
  split <;> rename_i heq
  · simp at heq
  · have : k ∉ ks := by
      intro hm
      rw [if_pos hm] at heq
      simp at heq
    rw [if_neg this]
    simp
  · have : k ∈ ks := by
      by_cases hm : k ∈ ks
      · exact hm
      · rw [if_neg hm] at heq
        simp at heq
    rw [if_pos this, dmap_dK]
theorem dputs_dK : ∀ (xs ks : List Nat), dputs (dK xs) (dK ks) = some (dK (xs.foldl insK ks))
  | [], _ => rfl
  | x :: xs, ks => by
    rw [dK_cons]
    unfold dputs
    rw [dput_dK]
    exact dputs_dK xs _
theorem pairs_dK : ∀ xs : List Nat, pairsD (xs.map fun (k : Nat) => .tup [.int (k : Int), .bl true]) = some (dK xs)
  | [] => rfl
  | x :: xs => by
    have ih := pairs_dK xs
    rw [List.map_cons]
    unfold pairsD
    have hk : isKey (.int (x : Int)) = true := rfl
    simp only [ih, if_pos hk]
    rfl
theorem e_dictp_of {cl : Nat → List D → M D} {env : Env} {a : E} {S S1 : Store} {xs : List Nat} (ha : ev ⟨false, cl⟩ a env S = some (.ok (.lst (xs.map fun (k : Nat) => .tup [.int (k : Int), .bl true])) S1)) (hl : xs.length < 1000000) : ev ⟨false, cl⟩ (.dictp a) env S = some (.ok (.loc S1.length) (S1 ++ [.dct (dK (xs.foldl insK []))])) := by
  have hp : pairsS (.lst (xs.map fun (k : Nat) => .tup [.int (k : Int), .bl true])) S1 = some (dK xs) := by
    have h1 : isList (.lst (xs.map fun (k : Nat) => .tup [.int (k : Int), .bl true])) S1 = true := rfl
    have h2 : itemsS (.lst (xs.map fun (k : Nat) => .tup [.int (k : Int), .bl true])) S1 = some (xs.map fun (k : Nat) => .tup [.int (k : Int), .bl true]) := rfl
    simp only [pairsS, h1, h2, List.length_map, if_pos hl]
    exact pairs_dK xs
  have hd := dputs_dK xs []
  simp only [ev, Bool.false_eq_true, if_false, mb, ha, bnd_ok]
  have hd : dputs (dK xs) [] = some (dK (xs.foldl insK [])) := hd
  have o1 : opt (some (dK xs)) S1 = some (.ok (dK xs) S1) := rfl
  simp only [mos, hp, o1, bnd_ok, hd]
  rfl
theorem ins_nd : ∀ (l acc : List Nat), (acc ++ l).Nodup → l.foldl insK acc = acc ++ l
  | [], acc, _ => by simp
  | x :: l, acc, h => by
    have hx : x ∉ acc := fun hm => by
      rw [List.nodup_append] at h
      exact h.2.2 x hm x (by simp) rfl
    rw [List.foldl_cons]
    have : insK acc x = acc ++ [x] := by unfold insK; rw [if_neg hx]
    rw [this, ins_nd l (acc ++ [x]) (by simpa using h)]
    simp
theorem dcompL_K {S : Store} {gs : List Guard} {F : D → M (Option (D × D))} (hg : ∀ q ∈ gs, okG q S) : ∀ (xs acc : List Nat), (∀ x ∈ xs, F (.int (x : Int)) S = some (.ok (some (.int (x : Int), .bl true)) S)) → acc.length + xs.length < 1000000 →
    dcompL gs F (nsD xs) (dK acc) S = some (.ok (dK (xs.foldl insK acc)) S)
  | [], acc, _, _ => by
    show dcompL gs F [] (dK acc) S = _
    unfold dcompL
    rw [if_pos hg]
    rfl
  | x :: xs, acc, h, hl => by
    have hk : isKey (.int (x : Int)) = true ∧ (dK acc).length < 1000000 := ⟨rfl, by rw [List.length_map]; omega⟩
    have hi : (insK acc x).length ≤ acc.length + 1 := by unfold insK; split <;> simp
    have ih := dcompL_K hg xs (insK acc x) (fun y hy => h y (List.mem_cons_of_mem _ hy)) (by simp at hl; omega)
    show dcompL gs F (.int (x : Int) :: nsD xs) (dK acc) S = _
    unfold dcompL
    rw [if_pos hg, h x (List.mem_cons_self ..)]
    simp only [if_pos hk, dput_dK]
    exact ih
/-! ### the ring's products -/
def pmK (R : List Nat) : Nat → Nat
  | 0 => nth R (R.length - 1) 0
  | k + 1 => nth R k 0
def cyF (C : Nat → Nat → Rat) (R : List Nat) : Nat → Rat
  | 0 => 1
  | k + 1 => cyF C R k * C (pmK R k) (nth R k 0)
theorem take_snoc {R : List Nat} {k : Nat} (h : k < R.length) : R.take (k + 1) = R.take k ++ [nth R k 0] := by
  rw [List.take_add_one, nth_eq (d := 0) h]
  rfl
theorem cy_take (C : Nat → Nat → Rat) (R : List Nat) : ∀ k, k < R.length → cyF C R (k + 1) = C (nth R (R.length - 1) 0) (nth R 0 0) * Fp C (R.take (k + 1))
  | 0, h => by
    rw [take_snoc h]
    show 1 * C (nth R (R.length - 1) 0) (nth R 0 0) = C _ _ * 1
    grind
  | k + 1, h => by
    have ih := cy_take C R k (by omega)
    have e : cyF C R (k + 1 + 1) = cyF C R (k + 1) * C (nth R k 0) (nth R (k + 1) 0) := rfl
    rw [e, ih, take_snoc h, take_snoc (show k < R.length by omega), List.append_assoc]
    have f := Fp.app C (nth R k 0) (nth R (k + 1) 0) [] (R.take k)
    have e2 : [nth R k 0] ++ [nth R (k + 1) 0] = [nth R k 0, nth R (k + 1) 0] := rfl
    rw [e2, f]
    have f1 : Fp C [nth R (k + 1) 0] = 1 := rfl
    rw [f1]
    grind
theorem cy_all (C : Nat → Nat → Rat) {R : List Nat} (h : 1 ≤ R.length) : cyF C R R.length = Fp C (R ++ [nth R 0 0]) := by
  have e := cy_take C R (R.length - 1) (by omega)
  rw [Nat.sub_add_cancel h, List.take_length] at e
  rw [e]
  have s := take_snoc (R := R) (k := R.length - 1) (by omega)
  rw [Nat.sub_add_cancel h, List.take_length] at s
  have f := Fp.app C (nth R (R.length - 1) 0) (nth R 0 0) [] (R.take (R.length - 1))
  have e3 : ∀ x, R ++ [x] = R.take (R.length - 1) ++ [nth R (R.length - 1) 0, x] := fun x => by
    conv => lhs; rw [s]
    simp
  have e2 := e3 (nth R 0 0)
  rw [e2, f, ← s]
  have f1 : Fp C [nth R 0 0] = 1 := rfl
  rw [f1]
  grind
theorem cy_ne {C : Nat → Nat → Rat} {n : Nat} {R : List Nat} (h : RingOk C n R) : cyF C R R.length ≠ cyF (fun a b => C b a) R R.length := by
  have l := h.l
  rw [cy_all C (by omega), cy_all (fun a b => C b a) (by omega)]
  exact h.h
section
variable {S : Store} {n : Nat} {C : Nat → Nat → Rat} {R : List Nat}
theorem pm_lt (h : RingOk C n R) {k : Nat} (hk : k < R.length) : pmK R k < n := by
  have l := h.l
  cases k with
  | zero => exact h.lt _ (nth_mem (by omega))
  | succ k => exact h.lt _ (nth_mem (by omega))
theorem cy_ft (hC : ChOk n C) (h : RingOk C n R) : ∀ k, k ≤ R.length → Ft (10 * k + 1) (cyF C R k) ∧ Ft (10 * k + 1) (cyF (fun a b => C b a) R k)
  | 0, _ => ⟨ft_one, ft_one⟩
  | k + 1, hk => by
    obtain ⟨a, b⟩ := cy_ft hC h k (by omega)
    have p := pm_lt h (k := k) (by omega)
    have q := h.lt _ (nth_mem (d := 0) (show k < R.length by omega))
    exact ⟨(a.mul (hC.ft p q)).mono (by omega), (b.mul (hC.ft q p)).mono (by omega)⟩
theorem ring_len (hC : ChOk n C) (h : RingOk C n R) : R.length ≤ 8 := Nat.le_trans (pig n R h.nd h.lt) hC.l2
theorem rg_ix (h : RingOk C n R) {k : Nat} (hk : k < R.length) : idxS (.tup (nsD R)) (.int (k : Int)) S = some (.int ((nth R k 0 : Nat) : Int)) ∧ idxS (.tup (nsD R)) (.int ((k : Int) - 1)) S = some (.int ((pmK R k : Nat) : Int)) := by
  have l := h.l
  have a : ∀ j, j < R.length → atI (nsD R) (j : Int) = some (.int ((nth R j 0 : Nat) : Int)) := fun j hj => atI_map (f := fun (u : Nat) => D.int (u : Int)) (xs := R) (i := (j : Int)) (by omega) (by rw [Int.toNat_natCast]; exact nth_eq hj)
  refine ⟨a k hk, ?_⟩
  cases k with
  | zero =>
    have e : nsD R = nsD (R.take (R.length - 1)) ++ [.int ((nth R (R.length - 1) 0 : Nat) : Int)] := by
      have s := take_snoc (R := R) (k := R.length - 1) (by omega)
      rw [Nat.sub_add_cancel (by omega), List.take_length] at s
      conv => lhs; rw [s]
      simp
    show atI (nsD R) (((0 : Nat) : Int) - 1) = _
    rw [e]
    exact at_snoc'
  | succ k =>
    have := a k (by omega)
    show atI (nsD R) (((k + 1 : Nat) : Int) - 1) = _
    have e : ((k + 1 : Nat) : Int) - 1 = (k : Int) := by omega
    rw [e]
    exact this
end
end J.Law
namespace J.Law
open PySem J L2
section
variable {S : Store} {n : Nat} {C : Nat → Nat → Rat} {R : List Nat}
/-- accept_ring -/
theorem r13 (k : Nat) (hC : ChOk n C) (h : RingOk C n R) : ∃ U, run fns (k + 8) false 13 [chD n C, .tup (nsD R)] S = some (.ok .non (S ++ U)) := by
  have n8 := hC.l2
  have r8 := ring_len hC h
  have l2 := h.l
  have q9 := frz_same (r9 (S := S) k hC) (by simp)
  rw [Is.run (⟨f13, rfl, rfl, rfl, rfl, rfl⟩ : Is fns 13 2 6 _) rfl]
  have ln : primS .len [chD n C] S = some (.int (n : Int)) := by simp
  have e1 : ev ⟨false, run fns (k + 7) false⟩ q13_1 [some (chD n C), some (.tup (nsD R)), none, none, none, none] S = some (.ok (.lst (R.map fun _ => .bl true)) S) := by
    refine comp_map (emb := fun (x : Nat) => D.int (x : Int)) (xs := R) (ds := [.tup (nsD R)]) (gs := [none]) (g := fun _ => .bl true) rfl (by simp) (by simp [iterS, guardOf]) gN (by omega) fun x hx => ?_
    have hx' := h.lt x hx
    have q := frz_same (r_isInt i0 (k + 6) S (x : Int)) (by simp)
    have g0 : (0 : Int) ≤ (x : Int) := by omega
    have g1 : (x : Int) < (n : Int) := by omega
    generalize chD n C = CH at *
    generalize D.tup (nsD R) = NR at *
    simp [t_turn, wipeE, q, ln, g0, g1]
  have e2 : ev ⟨false, run fns (k + 7) false⟩ q13_0 [some (chD n C), some (.tup (nsD R)), none, none, none, none] S = some (.ok (.loc S.length) (S ++ [.dct (dK R)])) := by
    have d := dcompL_K (S := S) (gs := [none]) (F := turnD ⟨false, run fns (k + 7) false⟩ (.var 5) (.con (.bl true)) (.var 5) (.con (.bl true)) [5] [some (chD n C), some (.tup (nsD R)), none, none, none, none]) gN R [] (fun x hx => by
      generalize chD n C = CH at *
      generalize D.tup (nsD R) = NR at *
      simp [t_turnD, wipeE]) (by simp; omega)
    rw [ins_nd R [] (by simpa using h.nd)] at d
    have e : q13_0 = .dcomp (.var 5) .val (.cons (.var 1) .nil) (.con (.bl true)) (.var 5) (.con (.bl true)) [5] := rfl
    rw [e, e_dcomp rfl]
    have dk : dK [] = [] := rfl
    rw [dk, List.nil_append] at d
    generalize chD n C = CH at *
    generalize nsD R = NR at *
    simp [d]
  have ld : primS .len [.loc S.length] (S ++ [.dct (dK R)]) = some (.int (R.length : Int)) := by
    rw [len_dct]
    simp
  have lr : ∀ T, primS .len [.tup (nsD R)] T = some (.int (R.length : Int)) := fun T => by simp
  obtain ⟨T, hT⟩ : ∃ T, T = S ++ [Cell.dct (dK R)] := ⟨_, rfl⟩
  rw [← hT] at e2 ld
  have hit : iterS .enu [.tup (nsD R)] T = some ((List.range R.length).map fun i => .tup [.int (i : Int), .int ((nth R i 0 : Nat) : Int)], [none]) := by
    have : iterS .enu [.tup (nsD R)] T = some (enuL 0 (R.map fun (u : Nat) => D.int (u : Int)), [none]) := rfl
    rw [this, enu_map (d := 0)]
  obtain ⟨_, _, e, o4, o5, rfl, rfl⟩ := for_inv (p := p13_0) (G := fun h' => ⟨h', run fns (k + 7) h'⟩) (emb := fun (i : Nat) => D.tup [.int (i : Int), .int ((nth R i 0 : Nat) : Int)]) (gs := [none]) (ds := [.tup (nsD R)]) (env := [some (chD n C), some (.tup (nsD R)), some (qD (cyF C R 0)), some (qD (cyF (fun a b => C b a) R 0)), none, none]) (S := T) rfl
    (fun pre env' S' => ∃ o4 o5, env' = [some (chD n C), some (.tup (nsD R)), some (qD (cyF C R pre.length)), some (qD (cyF (fun a b => C b a) R pre.length)), o4, o5] ∧ T = S') (List.range R.length) ⟨none, none, rfl, rfl⟩ (by simp) hit (fun _ _ _ _ => gN) (by
      rintro p i r env S1 he ⟨o4, o5, rfl, rfl⟩
      obtain ⟨rfl, hi⟩ := range_at he
      have hpl : (p ++ [p.length]).length = p.length + 1 := by simp
      obtain ⟨x1, x2⟩ := rg_ix (S := T) h hi
      have pl := pm_lt h hi
      have ql := h.lt _ (nth_mem (d := 0) hi)
      obtain ⟨c1, c2⟩ := cy_ft hC h p.length (by omega)
      have t1 := frz_same (r_times' i1 i2 i4 (k + 4) T c1 (hC.ft pl ql) (by omega)) (by simp [qD])
      have t2 := frz_same (r_times' i1 i2 i4 (k + 4) T c2 (hC.ft ql pl) (by omega)) (by simp [qD])
      obtain ⟨a1, a2⟩ := ch_ix (S := T) (C := C) (pmK R p.length) (nth R p.length 0) pl ql
      obtain ⟨b1, b2⟩ := ch_ix (S := T) (C := C) (nth R p.length 0) (pmK R p.length) ql pl
      have s1 : cyF C R (p.length + 1) = cyF C R p.length * C (pmK R p.length) (nth R p.length 0) := rfl
      have s2 : cyF (fun a b => C b a) R (p.length + 1) = cyF (fun a b => C b a) R p.length * C (nth R p.length 0) (pmK R p.length) := rfl
      rw [hpl, s1, s2]
      refine ⟨_, _, .inl ?_, some (.int (p.length : Int)), some (.int ((nth R p.length 0 : Nat) : Int)), rfl, rfl⟩
      generalize cyF C R p.length = F1 at *
      generalize cyF (fun a b => C b a) R p.length = F2 at *
      generalize chD n C = CH at *
      generalize D.tup (nsD R) = NR at *
      generalize rwF n (C (pmK R p.length)) = R1 at *
      generalize rwF n (C (nth R p.length 0)) = R2 at *
      generalize nth R p.length 0 = Y at *
      generalize pmK R p.length = X at *
      generalize F1 * C X Y = G1 at *
      generalize F2 * C Y X = G2 at *
      generalize qD (C X Y) = Q1 at *
      generalize qD (C Y X) = Q2 at *
      simp [turnL, b13_0, x1, x2, t1, t2, a1, a2, b1, b2])
  rw [List.length_range] at e
  have ne := q_eq (cyF C R R.length) (cyF (fun a b => C b a) R R.length) T
  rw [decide_eq_false (cy_ne h)] at ne
  have z1 : qD (cyF C R 0) = .tup [.int 1, .int 1] := rfl
  have z2 : qD (cyF (fun a b => C b a) R 0) = .tup [.int 1, .int 1] := rfl
  rw [z1, z2] at e
  have ti : isiS (.tup (nsD R)) .tuple S = some true := rfl
  have l2' : ¬ (R.length : Int) < 2 := by omega
  have al : ((R.map fun _ => D.bl true)) = R.map fun _ => D.bl true := rfl
  have cn : cmpS .ne (.int (R.length : Int)) (.int (R.length : Int)) T = some false := by simp
  refine ⟨[Cell.dct (dK R)], ?_⟩
  rw [← hT]
  have lr0 := lr S
  have lrT := lr T
  generalize qD (cyF C R R.length) = Q1 at *
  generalize qD (cyF (fun a b => C b a) R R.length) = Q2 at *
  generalize chD n C = CH at *
  generalize D.tup (nsD R) = NR at *
  simp [f13, q9, ti, e1, e2, ld, lr0, lrT, l2', cn, e, ne]
/-- _law_ring_holds -/
theorem r26 (k : Nat) (hC : ChOk n C) (h : RingOk C n R) : ∃ U, run fns (k + 4) false 26 [chD n C, .tup (nsD R)] S = some (.ok (.bl true) (S ++ U)) := by
  have n8 := hC.l2
  have r8 := ring_len hC h
  have l2 := h.l
  rw [Is.run (⟨f26, rfl, rfl, rfl, rfl, rfl⟩ : Is fns 26 2 6 _) rfl]
  have ln : primS .len [chD n C] S = some (.int (n : Int)) := by simp
  have e1 : ev ⟨false, run fns (k + 3) false⟩ q26_1 [some (chD n C), some (.tup (nsD R)), none, none, none, none] S = some (.ok (.lst (R.map fun _ => .bl true)) S) := by
    refine comp_map (emb := fun (x : Nat) => D.int (x : Int)) (xs := R) (ds := [.tup (nsD R)]) (gs := [none]) (g := fun _ => .bl true) rfl (by simp) (by simp [iterS, guardOf]) gN (by omega) fun x hx => ?_
    have hx' := h.lt x hx
    have q := frz_same (r_isInt i19 (k + 2) S (x : Int)) (by simp)
    have g0 : (0 : Int) ≤ (x : Int) := by omega
    have g1 : (x : Int) < (n : Int) := by omega
    generalize chD n C = CH at *
    generalize D.tup (nsD R) = NR at *
    simp [t_turn, wipeE, q, ln, g0, g1]
  obtain ⟨_, _, e, o2, rfl, rfl⟩ := for_inv (p := p26_0) (G := fun h' => ⟨h', run fns (k + 3) h'⟩) (emb := fun (i : Nat) => D.int (i : Int)) (gs := []) (ds := [.int (R.length : Int)]) (env := [some (chD n C), some (.tup (nsD R)), none, some (qD (cyF C R 0)), some (qD (cyF (fun a b => C b a) R 0)), none]) (S := S) rfl
    (fun pre env' S' => ∃ o2, env' = [some (chD n C), some (.tup (nsD R)), o2, some (qD (cyF C R pre.length)), some (qD (cyF (fun a b => C b a) R pre.length)), none] ∧ S = S') (List.range R.length) ⟨none, rfl, rfl⟩ (by simp) (by
      rw [it_rng1 (rngOkS (by omega) (by omega))]
      simp) (fun _ _ _ _ => g0) (by
      rintro p i r env S1 he ⟨o2, rfl, rfl⟩
      obtain ⟨rfl, hi⟩ := range_at he
      have hpl : (p ++ [p.length]).length = p.length + 1 := by simp
      obtain ⟨x1, x2⟩ := rg_ix (S := S) h hi
      have pl := pm_lt h hi
      have ql := h.lt _ (nth_mem (d := 0) hi)
      obtain ⟨c1, c2⟩ := cy_ft hC h p.length (by omega)
      have t1 := frz_same (rl_times i16 i17 i18 k S c1 (hC.ft pl ql) (by omega)) (by simp [qD])
      have t2 := frz_same (rl_times i16 i17 i18 k S c2 (hC.ft ql pl) (by omega)) (by simp [qD])
      obtain ⟨a1, a2⟩ := ch_ix (S := S) (C := C) (pmK R p.length) (nth R p.length 0) pl ql
      obtain ⟨b1, b2⟩ := ch_ix (S := S) (C := C) (nth R p.length 0) (pmK R p.length) ql pl
      have s1 : cyF C R (p.length + 1) = cyF C R p.length * C (pmK R p.length) (nth R p.length 0) := rfl
      have s2 : cyF (fun a b => C b a) R (p.length + 1) = cyF (fun a b => C b a) R p.length * C (nth R p.length 0) (pmK R p.length) := rfl
      rw [hpl, s1, s2]
      refine ⟨_, _, .inl ?_, some (.int (p.length : Int)), rfl, rfl⟩
      generalize cyF C R p.length = F1 at *
      generalize cyF (fun a b => C b a) R p.length = F2 at *
      generalize chD n C = CH at *
      generalize D.tup (nsD R) = NR at *
      generalize rwF n (C (pmK R p.length)) = R1 at *
      generalize rwF n (C (nth R p.length 0)) = R2 at *
      generalize nth R p.length 0 = Y at *
      generalize pmK R p.length = X at *
      generalize F1 * C X Y = G1 at *
      generalize F2 * C Y X = G2 at *
      generalize qD (C X Y) = Q1 at *
      generalize qD (C Y X) = Q2 at *
      simp [turnL, b26_0, x1, x2, t1, t2, a1, a2, b1, b2])
  rw [List.length_range] at e
  have ne := q_ne (cyF C R R.length) (cyF (fun a b => C b a) R R.length) S
  rw [decide_eq_false (cy_ne h)] at ne
  have z1 : qD (cyF C R 0) = .tup [.int 1, .int 1] := rfl
  have z2 : qD (cyF (fun a b => C b a) R 0) = .tup [.int 1, .int 1] := rfl
  rw [z1, z2] at e
  have e3 : ∀ o2 a b, ev ⟨false, run fns (k + 3) false⟩ q26_0 [some (chD n C), some (.tup (nsD R)), o2, a, b, none] S = some (.ok (.lst (R.map fun (x : Nat) => .tup [.int (x : Int), .bl true])) S) := fun o2 a b => by
    refine comp_map (emb := fun (x : Nat) => D.int (x : Int)) (xs := R) (ds := [.tup (nsD R)]) (gs := [none]) (g := fun (x : Nat) => .tup [.int (x : Int), .bl true]) rfl (by simp) (by simp [iterS, guardOf]) gN (by omega) fun x hx => ?_
    generalize chD n C = CH at *
    generalize D.tup (nsD R) = NR at *
    simp [t_turn, wipeE]
  have e4 := fun o2 a b => e_dictp_of (e3 o2 a b) (by omega)
  rw [ins_nd R [] (by simpa using h.nd), List.nil_append] at e4
  have ld : primS .len [.loc S.length] (S ++ [.dct (dK R)]) = some (.int (R.length : Int)) := by
    rw [len_dct]
    simp
  have lr : ∀ T, primS .len [.tup (nsD R)] T = some (.int (R.length : Int)) := fun T => by simp
  have lr0 := lr S
  have lrT := lr (S ++ [.dct (dK R)])
  have ti : isiS (.tup (nsD R)) .tuple S = some true := rfl
  have l2' : ¬ (R.length : Int) < 2 := by omega
  refine ⟨[Cell.dct (dK R)], ?_⟩
  generalize S ++ [Cell.dct (dK R)] = T at *
  generalize qD (cyF C R R.length) = Q1 at *
  generalize qD (cyF (fun a b => C b a) R R.length) = Q2 at *
  generalize chD n C = CH at *
  generalize D.tup (nsD R) = NR at *
  simp [f26, ti, e1, e4, ld, lr0, lrT, l2', e, ne]
end
end J.Law
namespace J.Law
open PySem J L2
/-! ### rows of whole numbers -/
structure Wt (n : Nat) (ws : List Int) : Prop where
  l : ws.length = n
  nn : ∀ x ∈ ws, 0 ≤ x
  s0 : 0 < ws.sum
  s1 : ws.sum ≤ 1000
abbrev rowQ (ws : List Int) : D := .tup (ws.map fun x => qD (fr x ws.sum))
def cF (rl : List (List Int)) (i j : Nat) : Rat := fr (nth (nth rl i []) j 0) (nth rl i []).sum
theorem sum_le {B : Int} : ∀ {l : List Int}, (∀ x ∈ l, x ≤ B) → l.sum ≤ B * l.length
  | [], _ => by simp
  | x :: l, h => by
    have a := h x (by simp)
    have b := sum_le (l := l) fun y hy => h y (List.mem_cons_of_mem _ hy)
    rw [List.sum_cons, List.length_cons]
    have : B * ((l.length + 1 : Nat) : Int) = B * l.length + B := by
      rw [Int.natCast_add, Int.mul_add]
      simp
    omega
theorem sum_nn : ∀ {l : List Int}, (∀ x ∈ l, 0 ≤ x) → 0 ≤ l.sum
  | [], _ => by simp
  | x :: l, h => by
    have a := h x (by simp)
    have b := sum_nn (l := l) fun y hy => h y (List.mem_cons_of_mem _ hy)
    rw [List.sum_cons]
    omega
theorem mem_sum {z : Int} : ∀ {l : List Int}, (∀ x ∈ l, 0 ≤ x) → z ∈ l → z ≤ l.sum
  | x :: l, h, hz => by
    have a := h x (by simp)
    have h' : ∀ y ∈ l, 0 ≤ y := fun y hy => h y (List.mem_cons_of_mem _ hy)
    have b := sum_nn h'
    rw [List.sum_cons]
    rcases List.mem_cons.mp hz with rfl | hz
    · omega
    · have := mem_sum h' hz
      omega
theorem qsum_frs (d : Int) : ∀ ws : List Int, qsum (ws.map fun x => fr x d) = fr ws.sum d
  | [] => by
    rw [List.map_nil, List.sum_nil, fr_zero]
    rfl
  | x :: ws => by
    rw [List.map_cons, qsum_cons, qsum_frs d ws, List.sum_cons, fr_plus]
theorem fr_nn {x d : Int} (hx : 0 ≤ x) (hd : 0 < d) : 0 ≤ fr x d := by
  have := (fr_num_le hx hd).1
  exact Rat.num_nonneg.mp this
theorem ch_of {rl : List (List Int)} (h1 : 1 ≤ rl.length) (h8 : rl.length ≤ 8) (h : ∀ ws ∈ rl, Wt rl.length ws) : D.tup (rl.map rowQ) = chD rl.length (cF rl) ∧ ChOk rl.length (cF rl) := by
  have row : ∀ i, i < rl.length → rowQ (nth rl i []) = rwF rl.length (cF rl i) := fun i hi => by
    have w := h _ (nth_mem (d := []) hi)
    unfold rowQ rwF
    congr 1
    have : (List.range rl.length).map (fun j => qD (cF rl i j)) = ((List.range (nth rl i []).length).map fun j => nth (nth rl i []) j 0).map fun x => qD (fr x (nth rl i []).sum) := by
      rw [List.map_map, w.l]
      rfl
    rw [this, map_nth]
  constructor
  · congr 1
    have : (List.range rl.length).map (fun i => rwF rl.length (cF rl i)) = ((List.range rl.length).map fun i => nth rl i []).map rowQ := by
      rw [List.map_map]
      apply List.map_congr_left
      intro i hi
      exact (row i (List.mem_range.mp hi)).symm
    rw [this, map_nth]
  · refine ⟨h1, h8, fun i hi => ?_, fun i j hi hj => ?_, fun i hi => ?_⟩
    · have w := h _ (nth_mem (d := []) hi)
      have s0 := w.s0
      have s1 := w.s1
      exact ⟨(nth rl i []).sum.toNat, by omega, by omega, fun j hj => fr_ov s0 (Nat.dvd_refl _)⟩
    · have w := h _ (nth_mem (d := []) hi)
      exact fr_nn (w.nn _ (nth_mem (by rw [w.l]; exact hj))) w.s0
    · have w := h _ (nth_mem (d := []) hi)
      have : (List.range rl.length).map (cF rl i) = ((List.range (nth rl i []).length).map fun j => nth (nth rl i []) j 0).map fun x => fr x (nth rl i []).sum := by
        rw [List.map_map, w.l]
        rfl
      rw [this, map_nth, qsum_frs, fr_one w.s0]
theorem ints_of {p : Int → Prop} : ∀ {ys : List D}, (∀ y ∈ ys, ∃ z, y = .int z ∧ p z) → ∃ ws : List Int, ys = ws.map .int ∧ ∀ z ∈ ws, p z
  | [], _ => ⟨[], rfl, by simp⟩
  | y :: ys, h => by
    obtain ⟨z, rfl, hz⟩ := h y (by simp)
    obtain ⟨ws, e, hw⟩ := ints_of (ys := ys) fun x hx => h x (List.mem_cons_of_mem _ hx)
    refine ⟨z :: ws, by rw [e]; rfl, fun x hx => ?_⟩
    rcases List.mem_cons.mp hx with rfl | hx
    · exact hz
    · exact hw x hx
theorem set_wt {n : Nat} {ws : List Int} {v : Nat} {z : Int} (hl : ws.length = n) (h8 : n ≤ 8) (hv : v < n) (h : ∀ x ∈ ws, 0 ≤ x ∧ x ≤ 60) (z1 : 1 ≤ z) (z60 : z ≤ 60) : Wt n (ws.set v z) := by
  have hm : ∀ x ∈ ws.set v z, 0 ≤ x ∧ x ≤ 60 := fun x hx => by
    rcases List.mem_or_eq_of_mem_set hx with q | q
    · exact h x q
    · subst q
      exact ⟨by omega, z60⟩
  have hl' : (ws.set v z).length = n := by rw [List.length_set, hl]
  have mz : z ∈ ws.set v z := List.mem_of_getElem? (i := v) (by rw [List.getElem?_set_self (by omega)])
  refine ⟨hl', fun x hx => (hm x hx).1, ?_, ?_⟩
  · have := mem_sum (fun x hx => (hm x hx).1) mz
    omega
  · have := sum_le (B := 60) fun x hx => (hm x hx).2
    rw [hl'] at this
    omega
section
variable {rest : Store}
theorem app_midS {σ : LS} {RL : List D} {U : Store} {x : D} (h : RL.length < 1000000) : appS (.loc (rest.length + 1)) x (st σ :: (rest ++ .lst RL :: U)) = some (st σ :: (rest ++ .lst (RL ++ [x]) :: U)) ∧ isLoc (.loc (rest.length + 1)) (st σ :: (rest ++ .lst RL :: U)) = true := by
  constructor
  · simp [appS, h]
  · simp [isLoc]
theorem rowC (k : Nat) {S : Store} {rd : D} {ws : List Int} {n : Nat} (h : Holds S rd (ws.map .int)) (hw : Wt n ws) (h8 : n ≤ 8) {e0 e1 e2 e3 e4 e6 : Option D} : ev ⟨false, run fns (k + 2) false⟩ q21_0 [e0, e1, e2, e3, e4, some rd, e6, none] S = some (.ok (.lst (ws.map fun x => qD (fr x ws.sum))) S) := by
  have hl := hw.l
  refine comp_map (emb := fun x => D.int x) (xs := ws) (ds := [rd]) (gs := [guardOf rd S]) (g := fun x => qD (fr x ws.sum)) rfl (by simp) h.val (h.guard h) (by omega) fun x hx => ?_
  have q := ql_quo i16 i17 k S (u := x) (d := ws.sum) hw.s0 (by have := hw.s1; omega)
  have su : primS .sum [rd] S = some (.int ws.sum) := by
    simp only [primS, h.items, Option.bind_some]
    have : intsD (ws.map .int) = some ws := by simp
    rw [this]
  generalize ws.sum = s at *
  simp [t_turn, wipeE, q, su]
theorem turn21 (k : Nat) (σ : LS) {n i : Nat} (h1 : 1 ≤ n) (h8 : n ≤ 8) (hi : i < n) (rl : List (List Int)) (hr : rl.length < 1000) (U : Store) {e1 e4 e5 : Option D} : ∃ σ' U' ws o5, Wt n ws ∧ turnL (fun h' => ⟨h', run fns (k + 2) h'⟩) (.var 4) b21_0 (.int (i : Int)) [some (.loc 0), e1, some (.int (n : Int)), some (.loc (rest.length + 1)), e4, e5, none, none] (st σ :: (rest ++ .lst (rl.map rowQ) :: U)) =
    some (.nx [some (.loc 0), e1, some (.int (n : Int)), some (.loc (rest.length + 1)), some (.int (i : Int)), o5, none, none], st σ' :: (rest ++ .lst ((rl ++ [ws]).map rowQ) :: U')) := by
  obtain ⟨W0, hW⟩ : ∃ W0, W0 = rest ++ Cell.lst (rl.map rowQ) :: U := ⟨_, rfl⟩
  obtain ⟨ys, σ1, ec, hlen, hy⟩ := comp_st (cl := run fns (k + 2) false) (tg := .var 6) (k := .rng1) (as := .cons (.var 2) .nil) (c := .con (.bl true)) (elt := (.idx (.disp (.cons (.con (.int 0)) (.cons (.con (.int 0)) (.cons (.con (.int 1)) (.cons (.call 15 true (.cons (.var 0) (.cons (.con (.int 5)) .nil))) .nil))))) (.call 15 true (.cons (.var 0) (.cons (.con (.int 4)) .nil))))) (own := [6])
    (env := [some (.loc 0), e1, some (.int (n : Int)), some (.loc (rest.length + 1)), some (.int (i : Int)), e5, none, none]) (xs := List.range n) (emb := fun (i : Nat) => D.int (i : Int)) (ds := [.int (n : Int)]) (gs := []) (σ0 := σ) (σ1 := σ) (rest := W0) (P := fun _ y => ∃ z, y = .int z ∧ (0 ≤ z ∧ z ≤ 60)) (by simp) (by
      rw [it_rng1 (rngOkS (by omega) (by omega))]
      simp) (fun σ => gE) (by simp; omega) (fun x hx σ => by
      obtain ⟨v, σ1, v0, v1, q1⟩ := drwT i15 (k + 1) σ W0 5 (by omega) (by omega)
      obtain ⟨u, σ2, y, hy, a, q2⟩ := pickT i15 (k + 1) σ1 W0 [.int 0, .int 0, .int 1, .int v] (m := 4) (by simp) (by omega) (by omega)
      refine ⟨y, σ2, by simp [t_turn, wipeE, q1, q2, a], ?_⟩
      simp only [List.mem_cons, List.not_mem_nil, or_false] at hy
      rcases hy with rfl | rfl | rfl | rfl
      · exact ⟨0, rfl, by omega⟩
      · exact ⟨0, rfl, by omega⟩
      · exact ⟨1, rfl, by omega⟩
      · exact ⟨v, rfl, by omega⟩)
  obtain ⟨ws, rfl, hws⟩ := ints_of fun y hyy => by
    obtain ⟨_, _, z⟩ := hy y hyy
    exact z
  have hwl : ws.length = n := by simpa using hlen
  have ec' : ev ⟨false, run fns (k + 2) false⟩ q21_1 _ _ = _ := ec
  -- weights[draw] = 1 + draw
  obtain ⟨v2, σ2, y2, hy2, a2, q2⟩ := pickT i15 (k + 1) σ1 (W0 ++ [.lst (ws.map .int)]) [.int 1, .int 60] (m := 2) (by simp) (by omega) (by omega)
  obtain ⟨t, rfl, t0, t1⟩ : ∃ t : Int, y2 = .int t ∧ 1 ≤ t ∧ t ≤ 60 := by
    simp only [List.mem_cons, List.not_mem_nil, or_false] at hy2
    rcases hy2 with rfl | rfl
    · exact ⟨1, rfl, by omega, by omega⟩
    · exact ⟨60, rfl, by omega, by omega⟩
  obtain ⟨v3, σ3, v30, v31, q3⟩ := drwT i15 (k + 1) σ2 (W0 ++ [.lst (ws.map .int)]) t (by omega) (by omega)
  obtain ⟨v4, σ4, v40, v41, q4⟩ := drwT i15 (k + 1) σ3 (W0 ++ [.lst (ws.map .int)]) (n : Int) (by omega) (by omega)
  have s4 := set_pl (σ := σ4) (rest := W0) (vs := ws.map .int) (i := v4) (v := .int (1 + v3)) v40 (by simp; omega)
  have em : (ws.map D.int).set v4.toNat (.int (1 + v3)) = (ws.set v4.toNat (1 + v3)).map .int := by rw [List.map_set]
  rw [em] at s4
  have w1 := set_wt (v := v4.toNat) (z := 1 + v3) hwl h8 (by omega) hws (by omega) (by omega)
  generalize ws.set v4.toNat (1 + v3) = ws1 at *
  obtain ⟨v5, σ5, v50, v51, q5⟩ := drwT i15 (k + 1) σ4 (W0 ++ [.lst (ws1.map .int)]) 4 (by omega) (by omega)
  have wl : (st σ1 :: W0).length = W0.length + 1 := by simp
  by_cases h5 : v5 = 0
  · -- anew
    have hn0 : (n : Int) ≠ 0 := by omega
    obtain ⟨W1, hW1⟩ : ∃ W1, W1 = W0 ++ [Cell.lst (ws1.map .int)] := ⟨_, rfl⟩
    rw [← hW1] at q5 s4
    have rep : repOk 1 (n : Int) := by
      unfold repOk
      omega
    have m0 : 0 ≤ ((i : Int) + 1).fmod (n : Int) ∧ ((i : Int) + 1).fmod (n : Int) < n := by
      rw [Int.fmod_eq_emod_of_nonneg _ (by omega)]
      exact ⟨Int.emod_nonneg _ hn0, Int.emod_lt_of_pos _ (by omega)⟩
    obtain ⟨v6, σ6, v60, v61, q6⟩ := drwT i15 (k + 1) σ5 (W1 ++ [.lst (List.replicate n (.int 0))]) (n : Int) (by omega) (by omega)
    obtain ⟨v7, σ7, y7, hy7, a7, q7⟩ := pickT i15 (k + 1) σ6 (W1 ++ [.lst (List.replicate n (.int 0))]) [.int (i : Int), .int (((i : Int) + 1).fmod (n : Int)), .int v6] (m := 3) (by simp) (by omega) (by omega)
    obtain ⟨z, rfl, z0, z1⟩ : ∃ z : Int, y7 = .int z ∧ 0 ≤ z ∧ z < n := by
      simp only [List.mem_cons, List.not_mem_nil, or_false] at hy7
      rcases hy7 with rfl | rfl | rfl
      · exact ⟨_, rfl, by omega, by omega⟩
      · exact ⟨_, rfl, m0.1, m0.2⟩
      · exact ⟨_, rfl, v60, v61⟩
    have s7 := set_pl (σ := σ7) (rest := W1) (vs := List.replicate n (.int 0)) (i := z) (v := .int 1) z0 (by simp; omega)
    have em2 : (List.replicate n (D.int 0)).set z.toNat (.int 1) = ((List.replicate n (0 : Int)).set z.toNat 1).map .int := by rw [List.map_set, List.map_replicate]
    rw [em2] at s7
    have w2 := set_wt (n := n) (ws := List.replicate n 0) (v := z.toNat) (z := 1) (by simp) h8 (by omega) (fun x hx => by
      have := List.eq_of_mem_replicate hx
      omega) (by omega) (by omega)
    generalize (List.replicate n (0 : Int)).set z.toNat 1 = ws2 at *
    have hH : Holds (st σ7 :: (W1 ++ [Cell.lst (ws2.map .int)])) (.loc (W1.length + 1)) (ws2.map .int) := .inr ⟨_, rfl, by simp, by simp⟩
    have rc := rowC k hH w2 h8 (e0 := some (.loc 0)) (e1 := e1) (e2 := some (.int (n : Int))) (e3 := some (.loc (rest.length + 1))) (e4 := some (.int (i : Int))) (e6 := none)
    have eW : W1 ++ [Cell.lst (ws2.map .int)] = rest ++ Cell.lst (rl.map rowQ) :: (U ++ [.lst (ws1.map .int)] ++ [.lst (ws2.map .int)]) := by rw [hW1, hW]; simp
    obtain ⟨ap, il⟩ := app_midS (rest := rest) (σ := σ7) (RL := rl.map rowQ) (U := U ++ [.lst (ws1.map .int)] ++ [.lst (ws2.map .int)]) (x := rowQ ws2) (by simp; omega)
    rw [← eW] at ap il
    refine ⟨σ7, U ++ [.lst (ws1.map .int)] ++ [.lst (ws2.map .int)], ws2, some (.loc (W1.length + 1)), w2, ?_⟩
    have er : (rl ++ [ws2]).map rowQ = rl.map rowQ ++ [rowQ ws2] := by simp
    have wl2 : (st σ5 :: W1).length = W1.length + 1 := by simp
    rw [er, ← hW]
    generalize st σ7 :: (rest ++ Cell.lst (rl.map rowQ ++ [rowQ ws2]) :: (U ++ [Cell.lst (ws1.map .int)] ++ [.lst (ws2.map .int)])) = Z1 at *
    have ho : rowQ ws2 = .tup (ws2.map fun x => qD (fr x ws2.sum)) := rfl
    rw [ho] at ap
    generalize (ws2.map fun x => qD (fr x ws2.sum)) = L1 at *
    have hn0' : ¬ n = 0 := by omega
    simp [turnL, b21_0, ec', wl, q2, a2, q3, q4, s4, q5, h5, rep, wl2, hn0', q6, q7, a7, s7, rc, ap, il]
  · have hH : Holds (st σ5 :: (W0 ++ [Cell.lst (ws1.map .int)])) (.loc (W0.length + 1)) (ws1.map .int) := .inr ⟨_, rfl, by simp, by simp⟩
    have rc := rowC k hH w1 h8 (e0 := some (.loc 0)) (e1 := e1) (e2 := some (.int (n : Int))) (e3 := some (.loc (rest.length + 1))) (e4 := some (.int (i : Int))) (e6 := none)
    have eW : W0 ++ [Cell.lst (ws1.map .int)] = rest ++ Cell.lst (rl.map rowQ) :: (U ++ [.lst (ws1.map .int)]) := by rw [hW]; simp
    obtain ⟨ap, il⟩ := app_midS (rest := rest) (σ := σ5) (RL := rl.map rowQ) (U := U ++ [.lst (ws1.map .int)]) (x := rowQ ws1) (by simp; omega)
    rw [← eW] at ap il
    refine ⟨σ5, U ++ [.lst (ws1.map .int)], ws1, some (.loc (W0.length + 1)), w1, ?_⟩
    have er : (rl ++ [ws1]).map rowQ = rl.map rowQ ++ [rowQ ws1] := by simp
    rw [er, ← hW]
    generalize st σ5 :: (rest ++ Cell.lst (rl.map rowQ ++ [rowQ ws1]) :: (U ++ [Cell.lst (ws1.map .int)])) = Z1 at *
    have ho : rowQ ws1 = .tup (ws1.map fun x => qD (fr x ws1.sum)) := rfl
    rw [ho] at ap
    generalize (ws1.map fun x => qD (fr x ws1.sum)) = L1 at *
    simp [turnL, b21_0, ec', wl, q2, a2, q3, q4, s4, q5, h5, rc, ap, il]
end
end J.Law
namespace J.Law
open PySem J L2
section
variable {rest : Store}
/-- _law_chain -/
theorem r21 (k : Nat) (σ : LS) : ∃ n C σ' U, ChOk n C ∧ run fns (k + 3) false 21 [.loc 0, .int 8] (st σ :: rest) = some (.ok (chD n C) (st σ' :: (rest ++ U))) := by
  obtain ⟨v, σ1, v0, v1, q1⟩ := drwT i15 (k + 1) σ rest 8 (by omega) (by omega)
  obtain ⟨n, hn⟩ : ∃ n : Nat, (n : Int) = 1 + v := ⟨(1 + v).toNat, by omega⟩
  have h1 : 1 ≤ n := by omega
  have h8 : n ≤ 8 := by omega
  obtain ⟨_, _, e, σ2, U, rl, o4, o5, hl, hw, rfl, rfl⟩ := for_inv (p := p21_0) (G := fun h' => ⟨h', run fns (k + 2) h'⟩) (emb := fun (i : Nat) => D.int (i : Int)) (gs := []) (ds := [.int (n : Int)]) (env := [some (.loc 0), some (.int 8), some (.int (n : Int)), some (.loc (rest.length + 1)), none, none, none, none]) (S := st σ1 :: (rest ++ [.lst []])) rfl
    (fun pre env' S' => ∃ (σ2 : LS) (U : Store) (rl : List (List Int)) (o4 o5 : Option D), rl.length = pre.length ∧ (∀ ws ∈ rl, Wt n ws) ∧ env' = [some (.loc 0), some (.int 8), some (.int (n : Int)), some (.loc (rest.length + 1)), o4, o5, none, none] ∧ S' = st σ2 :: (rest ++ .lst (rl.map rowQ) :: U)) (List.range n) ⟨σ1, [], [], none, none, rfl, by simp, rfl, rfl⟩ (by simp) (by
      rw [it_rng1 (rngOkS (by omega) (by omega))]
      simp) (fun _ _ _ _ => g0) (by
      rintro p i r env S1 he ⟨σ2, U, rl, o4, o5, hl, hw, rfl, rfl⟩
      obtain ⟨rfl, hi⟩ := range_at he
      obtain ⟨σ3, U', ws, c5, w, e⟩ := turn21 (rest := rest) k σ2 h1 h8 hi rl (by omega) U (e1 := some (.int 8)) (e4 := o4) (e5 := o5)
      refine ⟨_, _, .inl e, σ3, U', rl ++ [ws], _, c5, by simp [hl], fun x hx => ?_, rfl, rfl⟩
      rcases List.mem_append.mp hx with h | h
      · exact hw x h
      · have : x = ws := by simpa using h
        rw [this]
        exact w)
  rw [List.length_range] at hl
  subst hl
  obtain ⟨ec, hC⟩ := ch_of h1 h8 hw
  refine ⟨rl.length, cF rl, σ2, .lst (rl.map rowQ) :: U, hC, ?_⟩
  rw [Is.run (⟨f21, rfl, rfl, rfl, rfl, rfl⟩ : Is fns 21 2 8 _) rfl]
  have tp : primS .tuple [.loc (rest.length + 1)] (st σ2 :: (rest ++ .lst (rl.map rowQ) :: U)) = some (.tup (rl.map rowQ)) := by simp [primS, itemsS]
  rw [ec] at tp
  have wl : (st σ1 :: rest).length = rest.length + 1 := by simp
  have ws : st σ1 :: (rest ++ [Cell.lst []]) = (st σ1 :: rest) ++ [.lst []] := rfl
  rw [ws] at e
  generalize st σ2 :: (rest ++ Cell.lst (rl.map rowQ) :: U) = Z2 at *
  generalize chD rl.length (cF rl) = CH at *
  generalize st σ1 :: rest = Z1 at *
  rw [hn] at e
  simp [f21, q1, wl, e, tp]
/-! ### rows in places -/
def Rn (n : Nat) (M : Nat → Nat → Int) (i : Nat) : Cell := .lst ((List.range n).map fun j => .int (M i j))
def Yn (n : Nat) (M : Nat → Nat → Int) : Store := (List.range n).map (Rn n M)
def locs (b n : Nat) : List D := (List.range n).map fun i => .loc (b + i)
/-- the store: rest, the rows, the list of their places -/
abbrev Ew (rest : Store) (n : Nat) (M : Nat → Nat → Int) : Store := rest ++ Yn n M ++ [.lst (locs (rest.length + 1) n)]
def upd (M : Nat → Nat → Int) (i j : Nat) (v : Int) (a b : Nat) : Int := if a = i ∧ b = j then v else M a b
variable {n : Nat} {M : Nat → Nat → Int} {σ : LS}
theorem ew_eq : Ew rest n M = rest ++ (Yn n M ++ [.lst (locs (rest.length + 1) n)]) := List.append_assoc ..
theorem en_row {i : Nat} (hi : i < n) : (st σ :: Ew rest n M)[rest.length + 1 + i]? = some (Rn n M i) := by
  have e : rest.length + 1 + i = (rest.length + i) + 1 := by omega
  rw [e, List.getElem?_cons_succ, ew_eq, List.getElem?_append_right (by omega), Nat.add_sub_cancel_left, List.getElem?_append_left (by unfold Yn; simp; omega)]
  unfold Yn
  rw [List.getElem?_map, List.getElem?_range hi]
  rfl
theorem en_cells : (st σ :: Ew rest n M)[rest.length + 1 + n]? = some (.lst (locs (rest.length + 1) n)) := by
  have e : rest.length + 1 + n = (rest.length + n) + 1 := by omega
  rw [e, List.getElem?_cons_succ, List.getElem?_append_right (by unfold Yn; simp)]
  unfold Yn
  simp
theorem en_c {i : Nat} (hi : i < n) : idxS (.loc (rest.length + 1 + n)) (.int (i : Int)) (st σ :: Ew rest n M) = some (.loc (rest.length + 1 + i)) := by
  simp only [idxS, en_cells]
  unfold locs
  exact atI_map (f := fun i => D.loc (rest.length + 1 + i)) (xs := List.range n) (i := (i : Int)) (by omega) (by rw [Int.toNat_natCast]; exact List.getElem?_range hi)
theorem en_x {i j : Nat} (hi : i < n) (hj : j < n) : idxS (.loc (rest.length + 1 + i)) (.int (j : Int)) (st σ :: Ew rest n M) = some (.int (M i j)) := by
  simp only [idxS, en_row hi]
  unfold Rn
  exact atI_map (f := fun j => D.int (M i j)) (xs := List.range n) (i := (j : Int)) (by omega) (by rw [Int.toNat_natCast]; exact List.getElem?_range hj)
theorem en_s {i j : Nat} (hi : i < n) (hj : j < n) (v : Int) : setS (.loc (rest.length + 1 + i)) (.int (j : Int)) (.int v) (st σ :: Ew rest n M) = some (st σ :: Ew rest n (upd M i j v)) := by
  have hx : ixN ((List.range n).map fun j => D.int (M i j)).length (j : Int) = some j := by
    unfold ixN
    rw [List.length_map, List.length_range, if_pos (by omega), if_pos (by omega), Int.toNat_natCast]
  simp only [setS, en_row hi]
  unfold Rn
  simp only [hx]
  congr 1
  have e : rest.length + 1 + i = (rest.length + i) + 1 := by omega
  have ey : (Yn n M).length = n := by unfold Yn; simp
  rw [e, List.set_cons_succ, ew_eq, ew_eq, List.set_append_right _ _ (by omega), Nat.add_sub_cancel_left, List.set_append_left _ _ (by omega)]
  congr 3
  unfold Yn
  rw [set_range, set_range]
  apply List.map_congr_left
  intro a ha
  by_cases h : a = i
  · subst h
    rw [if_pos rfl]
    unfold Rn
    congr 1
    apply List.map_congr_left
    intro b hb
    unfold upd
    by_cases h2 : b = j <;> simp [h2]
  · rw [if_neg h]
    unfold Rn
    congr 1
    apply List.map_congr_left
    intro b hb
    unfold upd
    simp [h]
abbrev rsum (n : Nat) (M : Nat → Nat → Int) (i : Nat) : Int := ((List.range n).map (M i)).sum
theorem en_h {i : Nat} (hi : i < n) : Holds (st σ :: Ew rest n M) (.loc (rest.length + 1 + i)) (((List.range n).map (M i)).map .int) := by
  refine .inr ⟨_, rfl, ?_, ?_⟩
  · rw [en_row hi]
    unfold Rn
    rw [List.map_map]
    rfl
  · have := (List.getElem?_eq_some_iff.mp (en_row (rest := rest) (M := M) (σ := σ) hi)).1
    exact this
theorem en_sum {i : Nat} (hi : i < n) : primS .sum [.loc (rest.length + 1 + i)] (st σ :: Ew rest n M) = some (.int (rsum n M i)) := by
  have h := en_h (rest := rest) (M := M) (σ := σ) hi
  simp only [primS, h.items, Option.bind_some]
  unfold rsum
  generalize (List.range n).map (M i) = ws
  have : intsD (ws.map .int) = some ws := by simp
  rw [this]
/-- a comprehension that makes places -/
theorem compL_al {F : D → J.M (Option D)} {c : Cell} : ∀ (xs : List D) (W : Store), (∀ x ∈ xs, ∀ W, F x W = some (.ok (some (.loc W.length)) (W ++ [c]))) → compL [] F xs W = some (.ok ((List.range xs.length).map fun i => .loc (W.length + i)) (W ++ List.replicate xs.length c))
  | [], W, _ => by
    unfold compL
    simp
  | x :: xs, W, h => by
    have ih := compL_al xs (W ++ [c]) fun y hy => h y (List.mem_cons_of_mem _ hy)
    unfold compL
    rw [if_pos (by simp), h x (List.mem_cons_self ..)]
    simp only [ih]
    congr 2
    · rw [List.length_cons, List.range_succ_eq_map, List.map_cons, List.map_map]
      congr 1
      apply List.map_congr_left
      intro a _
      simp
      omega
    · rw [List.length_cons, List.replicate_succ]
      simp
end
end J.Law
namespace J.Law
open PySem J L2
def Mb (B : Int) (M : Nat → Nat → Int) : Prop := ∀ i j, 0 ≤ M i j ∧ M i j ≤ B
theorem Mb.upd {B : Int} {M : Nat → Nat → Int} (h : Mb B M) {i j : Nat} {v : Int} (h0 : 0 ≤ v) (h1 : v ≤ B) : Mb B (upd M i j v) := by
  intro a b
  unfold J.Law.upd
  split
  · exact ⟨h0, h1⟩
  · exact h a b
theorem Mb.mono {B B' : Int} {M : Nat → Nat → Int} (h : Mb B M) (hB : B ≤ B') : Mb B' M := fun a b => ⟨(h a b).1, by have := (h a b).2; omega⟩
section
variable {rest : Store} {n : Nat} {M : Nat → Nat → Int}
theorem turn23a (k : Nat) (σ : LS) {t : Int} {i j : Nat} (hi : i < n) (hj : j < n) (hM : Mb 20 M) {e5 e6 e7 e8 : Option D} : ∃ σ' M' o7, Mb 20 M' ∧ turnL (fun h' => ⟨h', run fns (k + 2) h'⟩) (.var 6) b23_2 (.int (j : Int)) [some (.loc 0), some (.int (n : Int)), some (.loc (rest.length + 1 + n)), some (.int t), some (.int (i : Int)), e5, e6, e7, e8] (st σ :: Ew rest n M) =
    some (.nx [some (.loc 0), some (.int (n : Int)), some (.loc (rest.length + 1 + n)), some (.int t), some (.int (i : Int)), e5, some (.int (j : Int)), o7, e8], st σ' :: Ew rest n M') := by
  obtain ⟨c, σ1, c0, c1, q1⟩ := drwT i15 (k + 1) σ (Ew rest n M) 4 (by omega) (by omega)
  have fin : ∀ (σ' : LS) (z : Int), 0 ≤ z → z ≤ 20 → Mb 20 (upd (upd M i j z) j i z) := fun σ' z h0 h1 => (hM.upd h0 h1).upd h0 h1
  by_cases hc : c < t
  · obtain ⟨v1, σ2, v10, v11, q2⟩ := drwT i15 (k + 1) σ1 (Ew rest n M) 4 (by omega) (by omega)
    obtain ⟨v2, σ3, v20, v21, q3⟩ := drwT i15 (k + 1) σ2 (Ew rest n M) 20 (by omega) (by omega)
    obtain ⟨v4, σ4, y, hy, a4, q4⟩ := pickT i15 (k + 1) σ3 (Ew rest n M) [.int 0, .int 1, .int (1 + v1), .int (1 + v2)] (m := 4) (by simp) (by omega) (by omega)
    obtain ⟨z, rfl, z0, z1⟩ : ∃ z : Int, y = .int z ∧ 0 ≤ z ∧ z ≤ 20 := by
      simp only [List.mem_cons, List.not_mem_nil, or_false] at hy
      rcases hy with rfl | rfl | rfl | rfl
      · exact ⟨0, rfl, by omega, by omega⟩
      · exact ⟨1, rfl, by omega, by omega⟩
      · exact ⟨_, rfl, by omega, by omega⟩
      · exact ⟨_, rfl, by omega, by omega⟩
    have x1 := en_c (rest := rest) (M := M) (σ := σ4) hi
    have s1 := en_s (rest := rest) (M := M) (σ := σ4) hi hj z
    have x2 := en_c (rest := rest) (M := upd M i j z) (σ := σ4) hj
    have s2 := en_s (rest := rest) (M := upd M i j z) (σ := σ4) hj hi z
    refine ⟨σ4, upd (upd M i j z) j i z, some (.int z), fin σ4 z z0 z1, ?_⟩
    generalize Ew rest n (upd (upd M i j z) j i z) = W3 at *
    generalize Ew rest n (upd M i j z) = W2 at *
    generalize Ew rest n M = W1 at *
    simp [turnL, b23_2, q1, hc, q2, q3, q4, a4, x1, s1, x2, s2]
  · have x1 := en_c (rest := rest) (M := M) (σ := σ1) hi
    have s1 := en_s (rest := rest) (M := M) (σ := σ1) hi hj 0
    have x2 := en_c (rest := rest) (M := upd M i j 0) (σ := σ1) hj
    have s2 := en_s (rest := rest) (M := upd M i j 0) (σ := σ1) hj hi 0
    refine ⟨σ1, upd (upd M i j 0) j i 0, some (.int 0), fin σ1 0 (by omega) (by omega), ?_⟩
    generalize Ew rest n (upd (upd M i j 0) j i 0) = W3 at *
    generalize Ew rest n (upd M i j 0) = W2 at *
    generalize Ew rest n M = W1 at *
    simp [turnL, b23_2, q1, hc, x1, s1, x2, s2]
theorem turn23b (k : Nat) (σ : LS) {t : Int} {i : Nat} (hi : i < n) (hn : n ≤ 8) (hM : Mb 20 M) {e4 e5 e6 e7 e8 : Option D} : ∃ σ' M' o6 o7, Mb 20 M' ∧ turnL (fun h' => ⟨h', run fns (k + 2) h'⟩) (.var 4) b23_3 (.int (i : Int)) [some (.loc 0), some (.int (n : Int)), some (.loc (rest.length + 1 + n)), some (.int t), e4, e5, e6, e7, e8] (st σ :: Ew rest n M) =
    some (.nx [some (.loc 0), some (.int (n : Int)), some (.loc (rest.length + 1 + n)), some (.int t), some (.int (i : Int)), e5, o6, o7, e8], st σ' :: Ew rest n M') := by
  obtain ⟨_, _, e, σ2, M2, o6, o7, hM2, rfl, rfl⟩ := for_inv (p := p23_2) (G := fun h' => ⟨h', run fns (k + 2) h'⟩) (emb := fun (i : Nat) => D.int (i : Int)) (gs := []) (ds := [.int ((i : Int) + 1)]) (env := [some (.loc 0), some (.int (n : Int)), some (.loc (rest.length + 1 + n)), some (.int t), some (.int (i : Int)), e5, e6, e7, e8]) (S := st σ :: Ew rest n M) rfl
    (fun pre env' S' => ∃ (σ2 : LS) (M2 : Nat → Nat → Int) (o6 o7 : Option D), Mb 20 M2 ∧ env' = [some (.loc 0), some (.int (n : Int)), some (.loc (rest.length + 1 + n)), some (.int t), some (.int (i : Int)), e5, o6, o7, e8] ∧ S' = st σ2 :: Ew rest n M2) (List.range (i + 1)) ⟨σ, M, e6, e7, hM, rfl, rfl⟩ (by simp) (by
      rw [it_rng1 (rngOkS (by omega) (by omega))]
      have : ((i : Int) + 1).toNat = i + 1 := by omega
      rw [this]) (fun _ _ _ _ => g0) (by
      rintro p j r env S1 he ⟨σ2, M2, o6, o7, hM2, rfl, rfl⟩
      obtain ⟨rfl, hj⟩ := range_at he
      obtain ⟨σ3, M3, c7, hM3, e⟩ := turn23a (rest := rest) k σ2 hi (j := p.length) (by omega) hM2 (t := t) (e5 := e5) (e6 := o6) (e7 := o7) (e8 := e8)
      exact ⟨_, _, .inl e, σ3, M3, _, c7, hM3, rfl, rfl⟩)
  refine ⟨σ2, M2, o6, o7, hM2, ?_⟩
  generalize Ew rest n M2 = W2 at *
  generalize Ew rest n M = W1 at *
  simp [turnL, b23_3, e]
theorem turn23c (k : Nat) (σ : LS) {B : Int} (h1 : 1 ≤ n) (hn : n ≤ 8) (hB : 0 ≤ B) (hM : Mb B M) (x : D) {e3 e4 e5 e6 e7 e8 : Option D} : ∃ σ' M' o4 o6, Mb (B + 1) M' ∧ turnL (fun h' => ⟨h', run fns (k + 2) h'⟩) (.var 5) b23_1 x [some (.loc 0), some (.int (n : Int)), some (.loc (rest.length + 1 + n)), e3, e4, e5, e6, e7, e8] (st σ :: Ew rest n M) =
    some (.nx [some (.loc 0), some (.int (n : Int)), some (.loc (rest.length + 1 + n)), e3, o4, some x, o6, e7, e8], st σ' :: Ew rest n M') := by
  obtain ⟨v1, σ1, v10, v11, q1⟩ := drwT i15 (k + 1) σ (Ew rest n M) (n : Int) (by omega) (by omega)
  obtain ⟨i, rfl⟩ : ∃ i : Nat, v1 = (i : Int) := ⟨v1.toNat, by omega⟩
  obtain ⟨v2, σ2, v20, v21, q2⟩ := drwT i15 (k + 1) σ1 (Ew rest n M) (n : Int) (by omega) (by omega)
  obtain ⟨j, rfl⟩ : ∃ j : Nat, v2 = (j : Int) := ⟨v2.toNat, by omega⟩
  obtain ⟨b, hb⟩ : ∃ b : Int, b = if decide (0 < M i j) = true then 1 else 0 := ⟨_, rfl⟩
  obtain ⟨v3, σ3, y, hy, a3, q3⟩ := pickT i15 (k + 1) σ2 (Ew rest n M) [.int b, .int 1] (m := 2) (by simp) (by omega) (by omega)
  obtain ⟨z, rfl, z0, z1⟩ : ∃ z : Int, y = .int z ∧ 0 ≤ z ∧ z ≤ 1 := by
    simp only [List.mem_cons, List.not_mem_nil, or_false] at hy
    rcases hy with rfl | rfl
    · refine ⟨b, rfl, ?_⟩
      rw [hb]
      split <;> omega
    · exact ⟨1, rfl, by omega, by omega⟩
  have hi : i < n := by omega
  have hj : j < n := by omega
  have x1 := fun σ => en_c (rest := rest) (M := M) (σ := σ) hi
  have x2 := fun σ => en_x (rest := rest) (M := M) (σ := σ) hi hj
  have s1 := en_s (rest := rest) (M := M) (σ := σ3) hi hj (M i j + z)
  have pb : ∀ S, primS .int [.bl (decide (0 < M i j))] S = some (.int b) := fun S => by rw [hb]; rfl
  have hm := hM i j
  refine ⟨σ3, upd M i j (M i j + z), some (.int (i : Int)), some (.int (j : Int)), (hM.mono (by omega)).upd (by omega) (by omega), ?_⟩
  generalize Ew rest n (upd M i j (M i j + z)) = W2 at *
  generalize Ew rest n M = W1 at *
  by_cases hp : 0 < M i j
  · simp only [decide_eq_true hp] at pb
    simp [turnL, b23_1, q1, q2, x1, x2, hp, pb, q3, a3, s1]
  · simp only [decide_eq_false hp] at pb
    simp [turnL, b23_1, q1, q2, x1, x2, hp, pb, q3, a3, s1]
/-- a row that would be empty gets a part -/
theorem turn23d (k : Nat) (σ : LS) {i : Nat} (hi : i < n) (hn : n ≤ 8) (hM : Mb 24 M) (hr : ∀ a, a < i → 0 < rsum n M a) (hl : ∀ a b, i ≤ a → M a b ≤ 23) {e3 e4 e5 e6 e7 e8 : Option D} : ∃ M', Mb 24 M' ∧ (∀ a, a < i + 1 → 0 < rsum n M' a) ∧ (∀ a b, i + 1 ≤ a → M' a b ≤ 23) ∧ turnL (fun h' => ⟨h', run fns (k + 2) h'⟩) (.var 4) b23_0 (.int (i : Int)) [some (.loc 0), some (.int (n : Int)), some (.loc (rest.length + 1 + n)), e3, e4, e5, e6, e7, e8] (st σ :: Ew rest n M) =
    some (.nx [some (.loc 0), some (.int (n : Int)), some (.loc (rest.length + 1 + n)), e3, some (.int (i : Int)), e5, e6, e7, e8], st σ :: Ew rest n M') := by
  obtain ⟨b, hb⟩ : ∃ b : Int, b = if decide (rsum n M i = 0) = true then 1 else 0 := ⟨_, rfl⟩
  have b01 : 0 ≤ b ∧ b ≤ 1 := by rw [hb]; split <;> omega
  have x1 := en_c (rest := rest) (M := M) (σ := σ) hi
  have x2 := en_x (rest := rest) (M := M) (σ := σ) hi hi
  have su := en_sum (rest := rest) (M := M) (σ := σ) hi
  have s1 := en_s (rest := rest) (M := M) (σ := σ) hi hi (M i i + b)
  have hm := hM i i
  have hm2 := hl i i (Nat.le_refl _)
  have pb : ∀ S, primS .int [.bl (decide (rsum n M i = 0))] S = some (.int b) := fun S => by rw [hb]; rfl
  have nnr : ∀ M' : Nat → Nat → Int, Mb 24 M' → ∀ a, ∀ x ∈ (List.range n).map (M' a), 0 ≤ x := fun M' h a x hx => by
    obtain ⟨c, _, rfl⟩ := List.mem_map.mp hx
    exact (h a c).1
  have hM' : Mb 24 (upd M i i (M i i + b)) := hM.upd (by omega) (by omega)
  refine ⟨upd M i i (M i i + b), hM', fun a ha => ?_, fun a c hac => ?_, ?_⟩
  · by_cases hai : a = i
    · subst hai
      by_cases hz : rsum n M a = 0
      · have b1 : b = 1 := by rw [hb]; simp [hz]
        have mem : M a a + b ∈ (List.range n).map (upd M a a (M a a + b) a) := List.mem_map.mpr ⟨a, List.mem_range.mpr hi, by unfold upd; simp⟩
        have := mem_sum (nnr _ hM' a) mem
        show 0 < ((List.range n).map (upd M a a (M a a + b) a)).sum
        omega
      · have b0 : b = 0 := by rw [hb]; simp [hz]
        have e : upd M a a (M a a + b) a = M a := by
          funext c
          unfold upd
          rw [b0]
          by_cases h : c = a <;> simp [h]
        show 0 < ((List.range n).map (upd M a a (M a a + b) a)).sum
        rw [e]
        have := sum_nn (nnr M hM a)
        have hz' : ((List.range n).map (M a)).sum ≠ 0 := hz
        omega
    · have e : upd M i i (M i i + b) a = M a := by
        funext c
        unfold upd
        simp [hai]
      show 0 < ((List.range n).map (upd M i i (M i i + b) a)).sum
      rw [e]
      exact hr a (by omega)
  · unfold upd
    have : a ≠ i := by omega
    simp [this]
    exact hl a c (by omega)
  · generalize Ew rest n (upd M i i (M i i + b)) = W2 at *
    generalize Ew rest n M = W1 at *
    generalize rsum n M i = RS at *
    by_cases hp : RS = 0
    · simp only [decide_eq_true hp] at pb
      rw [hp] at su
      simp [turnL, b23_0, x1, x2, su, pb, s1]
    · simp only [decide_eq_false hp] at pb
      simp [turnL, b23_0, x1, x2, su, hp, pb, s1]
end
end J.Law
namespace J.Law
open PySem J L2
section
variable {rest : Store}
theorem yn_zero (n : Nat) : List.replicate n (Cell.lst (List.replicate n (.int 0))) = Yn n fun _ _ => 0 := by
  unfold Yn Rn
  rw [List.map_const', List.map_const', List.length_range]
theorem rowC2 (k : Nat) {S : Store} {rd : D} {ws : List Int} {n : Nat} (h : Holds S rd (ws.map .int)) (hw : Wt n ws) (h8 : n ≤ 8) {e0 e1 e2 e3 e4 e5 e6 e7 : Option D} : ev ⟨false, run fns (k + 2) false⟩ q23_0 [e0, e1, e2, e3, e4, e5, e6, e7, some rd] S = some (.ok (.lst (ws.map fun x => qD (fr x ws.sum))) S) := by
  have hl := hw.l
  refine comp_map (emb := fun x => D.int x) (xs := ws) (ds := [rd]) (gs := [guardOf rd S]) (g := fun x => qD (fr x ws.sum)) rfl (by simp) h.val (h.guard h) (by omega) fun x hx => ?_
  have q := ql_quo i16 i17 k S (u := x) (d := ws.sum) hw.s0 (by have := hw.s1; omega)
  have su : primS .sum [rd] S = some (.int ws.sum) := by
    simp only [primS, h.items, Option.bind_some]
    have : intsD (ws.map .int) = some ws := by simp
    rw [this]
  generalize ws.sum = s at *
  simp [t_turn, wipeE, q, su]
/-- _law_even -/
theorem r23 (k : Nat) (σ : LS) {n : Nat} (h1 : 1 ≤ n) (h8 : n ≤ 8) : ∃ C σ' U, ChOk n C ∧ run fns (k + 3) false 23 [.loc 0, .int (n : Int)] (st σ :: rest) = some (.ok (chD n C) (st σ' :: (rest ++ U))) := by
  -- the rows
  have rep : repOk 1 (n : Int) := by
    unfold repOk
    omega
  have eq : ev ⟨false, run fns (k + 2) false⟩ q23_2 [some (.loc 0), some (.int (n : Int)), none, none, none, none, none, none, none] (st σ :: rest) = some (.ok (.lst (locs (rest.length + 1) n)) (st σ :: (rest ++ Yn n fun _ _ => 0))) := by
    have al := compL_al (F := turnF ⟨false, run fns (k + 2) false⟩ (.var 4) (.con (.bl true)) (.mut (.bin .mul (.disp (.cons (.con (.int 0)) .nil)) (.var 1))) [4] [some (.loc 0), some (.int (n : Int)), none, none, none, none, none, none, none]) (c := .lst (List.replicate n (.int 0))) ((List.range n).map fun (i : Nat) => D.int (i : Int)) (st σ :: rest) (fun x hx W => by
      obtain ⟨i, _, rfl⟩ := List.mem_map.mp hx
      simp [t_turn, wipeE, rep])
    rw [List.length_map, List.length_range, yn_zero] at al
    have e : q23_2 = .comp (.var 4) .rng1 (.cons (.var 1) .nil) (.con (.bl true)) (.mut (.bin .mul (.disp (.cons (.con (.int 0)) .nil)) (.var 1))) [4] := rfl
    have it : iterS .rng1 [.int (n : Int)] (st σ :: rest) = some ((List.range n).map fun (i : Nat) => D.int (i : Int), []) := by
      rw [it_rng1 (rngOkS (by omega) (by omega))]
      simp
    have as : ev ⟨false, run fns (k + 2) false⟩ (.cons (.var 1) .nil) [some (.loc 0), some (.int (n : Int)), none, none, none, none, none, none, none] (st σ :: rest) = some (.ok (.tup [.int (n : Int)]) (st σ :: rest)) := by simp
    have hl : ((List.range n).map fun (i : Nat) => D.loc ((st σ :: rest).length + i)) = locs (rest.length + 1) n := by
      unfold locs
      simp
    rw [e, e_comp rfl, as, bnd_ok, tups_tup, opt_some, bnd_ok, it, opt_some, bnd_ok]
    show bnd (compL [] _ ((List.range n).map fun (i : Nat) => D.int (i : Int)) (st σ :: rest)) _ = _
    rw [al, bnd_ok, hl, if_pos (by unfold locs; simp; omega)]
    rfl
  obtain ⟨v, σ1, v0, v1, q1⟩ := drwT i15 (k + 1) σ (Ew rest n fun _ _ => 0) 3 (by omega) (by omega)
  obtain ⟨_, _, e1, σ2, M2, o4, o6, o7, hM2, rfl, rfl⟩ := for_inv (p := p23_3) (G := fun h' => ⟨h', run fns (k + 2) h'⟩) (emb := fun (i : Nat) => D.int (i : Int)) (gs := []) (ds := [.int (n : Int)]) (env := [some (.loc 0), some (.int (n : Int)), some (.loc (rest.length + 1 + n)), some (.int (1 + v)), none, none, none, none, none]) (S := st σ1 :: Ew rest n fun _ _ => 0) rfl
    (fun pre env' S' => ∃ (σ2 : LS) (M2 : Nat → Nat → Int) (o4 o6 o7 : Option D), Mb 20 M2 ∧ env' = [some (.loc 0), some (.int (n : Int)), some (.loc (rest.length + 1 + n)), some (.int (1 + v)), o4, none, o6, o7, none] ∧ S' = st σ2 :: Ew rest n M2) (List.range n) ⟨σ1, fun _ _ => 0, none, none, none, fun _ _ => ⟨by show (0 : Int) ≤ 0; omega, by show (0 : Int) ≤ 20; omega⟩, rfl, rfl⟩ (by simp) (by
      rw [it_rng1 (rngOkS (by omega) (by omega))]
      simp) (fun _ _ _ _ => g0) (by
      rintro p i r env S1 he ⟨σ2, M2, o4, o6, o7, hM2, rfl, rfl⟩
      obtain ⟨rfl, hi⟩ := range_at he
      obtain ⟨σ3, M3, c6, c7, hM3, e⟩ := turn23b (rest := rest) k σ2 hi h8 hM2 (t := 1 + v) (e4 := o4) (e5 := none) (e6 := o6) (e7 := o7) (e8 := none)
      exact ⟨_, _, .inl e, σ3, M3, _, c6, c7, hM3, rfl, rfl⟩)
  obtain ⟨v3, σ3, y, hy, a3, q3⟩ := pickT i15 (k + 1) σ2 (Ew rest n M2) [.int 0, .int 0, .int 1, .int 3] (m := 4) (by simp) (by omega) (by omega)
  obtain ⟨t, rfl, t3⟩ : ∃ t : Nat, y = .int (t : Int) ∧ t ≤ 3 := by
    simp only [List.mem_cons, List.not_mem_nil, or_false] at hy
    rcases hy with rfl | rfl | rfl | rfl
    · exact ⟨0, rfl, by omega⟩
    · exact ⟨0, rfl, by omega⟩
    · exact ⟨1, rfl, by omega⟩
    · exact ⟨3, rfl, by omega⟩
  obtain ⟨_, _, e2, σ4, M4, p4, p5, p6, hM4, rfl, rfl⟩ := for_invS (p := p23_1) (G := fun h' => ⟨h', run fns (k + 2) h'⟩) (emb := fun (i : Nat) => D.int (i : Int)) (gs := []) (ds := [.int (t : Int)]) (env := [some (.loc 0), some (.int (n : Int)), some (.loc (rest.length + 1 + n)), some (.int (1 + v)), o4, none, o6, o7, none]) (S := st σ2 :: Ew rest n M2) (S1 := st σ3 :: Ew rest n M2) rfl
    (fun pre env' S' => ∃ (σ4 : LS) (M4 : Nat → Nat → Int) (p4 p5 p6 : Option D), Mb (20 + (pre.length : Int)) M4 ∧ env' = [some (.loc 0), some (.int (n : Int)), some (.loc (rest.length + 1 + n)), some (.int (1 + v)), p4, p5, p6, o7, none] ∧ S' = st σ4 :: Ew rest n M4) (List.range t) (by
      generalize Ew rest n M2 = W at *
      simp [q3, a3]) ⟨σ3, M2, o4, none, o6, by simpa using hM2, rfl, rfl⟩ (by
      rw [it_rng1 (rngOkS (by omega) (by omega))]
      simp) (fun _ _ _ _ => g0) (by
      rintro p i r env S1 he ⟨σ4, M4, p4, p5, p6, hM4, rfl, rfl⟩
      obtain ⟨rfl, hi⟩ := range_at he
      have hpl : (p ++ [p.length]).length = p.length + 1 := by simp
      obtain ⟨σ5, M5, c4, c6, hM5, e⟩ := turn23c (rest := rest) k σ4 h1 h8 (by omega) hM4 (.int (p.length : Int)) (e3 := some (.int (1 + v))) (e4 := p4) (e5 := p5) (e6 := p6) (e7 := o7) (e8 := none)
      refine ⟨_, _, .inl e, σ5, M5, c4, _, c6, ?_, rfl, rfl⟩
      rw [hpl]
      exact hM5.mono (by omega))
  rw [List.length_range] at hM4
  have hM4 : Mb 23 M4 := hM4.mono (by omega)
  obtain ⟨_, _, e3, M5, r4, hM5, hs5, hl5, rfl, rfl⟩ := for_inv (p := p23_0) (G := fun h' => ⟨h', run fns (k + 2) h'⟩) (emb := fun (i : Nat) => D.int (i : Int)) (gs := []) (ds := [.int (n : Int)]) (env := [some (.loc 0), some (.int (n : Int)), some (.loc (rest.length + 1 + n)), some (.int (1 + v)), p4, p5, p6, o7, none]) (S := st σ4 :: Ew rest n M4) rfl
    (fun pre env' S' => ∃ (M5 : Nat → Nat → Int) (r4 : Option D), Mb 24 M5 ∧ (∀ a, a < pre.length → 0 < rsum n M5 a) ∧ (∀ a b, pre.length ≤ a → M5 a b ≤ 23) ∧ env' = [some (.loc 0), some (.int (n : Int)), some (.loc (rest.length + 1 + n)), some (.int (1 + v)), r4, p5, p6, o7, none] ∧ S' = st σ4 :: Ew rest n M5) (List.range n) ⟨M4, p4, hM4.mono (by omega), fun a ha => by simp at ha, fun a b _ => (hM4 a b).2, rfl, rfl⟩ (by simp) (by
      rw [it_rng1 (rngOkS (by omega) (by omega))]
      simp) (fun _ _ _ _ => g0) (by
      rintro p i r env S1 he ⟨M5, r4, hM5, hs5, hl5, rfl, rfl⟩
      obtain ⟨rfl, hi⟩ := range_at he
      have hpl : (p ++ [p.length]).length = p.length + 1 := by simp
      obtain ⟨M6, a, b, c, e⟩ := turn23d (rest := rest) k σ4 hi h8 hM5 hs5 hl5 (e3 := some (.int (1 + v))) (e4 := r4) (e5 := p5) (e6 := p6) (e7 := o7) (e8 := none)
      exact ⟨_, _, .inl e, M6, _, a, by rw [hpl]; exact b, by rw [hpl]; exact c, rfl, rfl⟩)
  rw [List.length_range] at hs5
  obtain ⟨rl, hrl⟩ : ∃ rl, rl = (List.range n).map fun i => (List.range n).map (M5 i) := ⟨_, rfl⟩
  have wt : ∀ i, i < n → Wt n ((List.range n).map (M5 i)) := fun i hi => by
    refine ⟨by simp, fun x hx => ?_, hs5 i hi, ?_⟩
    · obtain ⟨c, _, rfl⟩ := List.mem_map.mp hx
      exact (hM5 i c).1
    · have := sum_le (l := (List.range n).map (M5 i)) (B := 24) fun x hx => by
        obtain ⟨c, _, rfl⟩ := List.mem_map.mp hx
        exact (hM5 i c).2
      simp at this
      omega
  have rll : rl.length = n := by rw [hrl]; simp
  obtain ⟨ec, hC⟩ := ch_of (rl := rl) (by omega) (by omega) (fun ws hw => by
    rw [hrl] at hw
    obtain ⟨i, hi, rfl⟩ := List.mem_map.mp hw
    rw [rll]
    exact wt i (List.mem_range.mp hi))
  rw [rll] at ec hC
  have hH : Holds (st σ4 :: Ew rest n M5) (.loc (rest.length + 1 + n)) (locs (rest.length + 1) n) := .inr ⟨_, rfl, en_cells, (List.getElem?_eq_some_iff.mp (en_cells (rest := rest) (M := M5) (σ := σ4) (n := n))).1⟩
  have e4 : ev ⟨false, run fns (k + 2) false⟩ q23_1 [some (.loc 0), some (.int (n : Int)), some (.loc (rest.length + 1 + n)), some (.int (1 + v)), r4, p5, p6, o7, none] (st σ4 :: Ew rest n M5) = some (.ok (.lst ((List.range n).map fun i => rowQ ((List.range n).map (M5 i)))) (st σ4 :: Ew rest n M5)) := by
    refine comp_map (emb := fun (i : Nat) => D.loc (rest.length + 1 + i)) (xs := List.range n) (ds := [.loc (rest.length + 1 + n)]) (gs := [guardOf (.loc (rest.length + 1 + n)) (st σ4 :: Ew rest n M5)]) (g := fun i => rowQ ((List.range n).map (M5 i))) rfl (by simp) hH.val (hH.guard hH) (by simp; omega) fun i hi => ?_
    have hi := List.mem_range.mp hi
    have rc := fun e7 => rowC2 k (en_h (rest := rest) (M := M5) (σ := σ4) hi) (wt i hi) h8 (e0 := some (.loc 0)) (e1 := some (.int (n : Int))) (e2 := some (.loc (rest.length + 1 + n))) (e3 := some (.int (1 + v))) (e4 := r4) (e5 := p5) (e6 := p6) (e7 := e7)
    have ho : rowQ ((List.range n).map (M5 i)) = .tup (((List.range n).map (M5 i)).map fun x => qD (fr x ((List.range n).map (M5 i)).sum)) := rfl
    rw [ho]
    generalize (((List.range n).map (M5 i)).map fun x => qD (fr x ((List.range n).map (M5 i)).sum)) = L at *
    generalize Ew rest n M5 = W at *
    simp [t_turn, wipeE, rc]
  have em : (List.range n).map (fun i => rowQ ((List.range n).map (M5 i))) = rl.map rowQ := by
    rw [hrl, List.map_map]
    rfl
  rw [em] at e4
  refine ⟨cF rl, σ4, Yn n M5 ++ [.lst (locs (rest.length + 1) n)], hC, ?_⟩
  rw [Is.run (⟨f23, rfl, rfl, rfl, rfl, rfl⟩ : Is fns 23 2 9 _) rfl, ← ec]
  have ew : st σ4 :: (rest ++ (Yn n M5 ++ [.lst (locs (rest.length + 1) n)])) = st σ4 :: Ew rest n M5 := by rw [ew_eq]
  rw [ew]
  have w0 : (st σ :: (rest ++ Yn n fun _ _ => 0)).length = rest.length + 1 + n := by
    unfold Yn
    simp
    omega
  have w1 : st σ :: (rest ++ Yn n fun _ _ => 0) ++ [.lst (locs (rest.length + 1) n)] = st σ :: Ew rest n fun _ _ => 0 := rfl
  generalize rl.map rowQ = RL at *
  generalize locs (rest.length + 1) n = LC at *
  generalize Ew rest n M5 = W5 at *
  generalize Ew rest n M4 = W4 at *
  generalize Ew rest n M2 = W2 at *
  generalize (Ew rest n fun _ _ => 0) = W6 at *
  generalize st σ :: (rest ++ Yn n fun _ _ => 0) = W7 at *
  simp [f23, eq, w0, w1, q1, e1, e2, e3, e4]
end
end J.Law
namespace J.Law
open PySem J L2
theorem st_lit {a b : Str} (ha : PyData.strOk a = true) (hb : PyData.strOk b = true) (S : Store) : cmpS .eq (.str a) (.str b) S = some (a == b) ∧ cmpS .ne (.str a) (.str b) S = some (!(a == b)) := by
  have e : cmpS .eq (.str a) (.str b) S = eqD (.str a) (.str b) := rfl
  exact ⟨by rw [e, eqD_ss ha hb], ne_ss ha hb S⟩
section
variable {rest : Store} {e0 e2 e3 e4 e5 : Option D}
theorem nc_one (p : Nat × Nat) (h1 : p.1 < 100) (h2 : p.2 < 100) : Nc 2 2341 (.tup [.str "one", prD p]) :=
  Nc.tup (k := 1) (n := 1167) (ds := [.str "one", prD p]) fun d hd => by
    simp only [List.mem_cons, List.not_mem_nil, or_false] at hd
    rcases hd with rfl | rfl
    · exact (Nc.str (by decide +kernel) (by decide +kernel) (by decide +kernel)).mono (by omega) (by omega)
    · exact Nc.tup (k := 0) (n := 580) (ds := [.int (p.1 : Int), .int (p.2 : Int)]) fun d hd => by
        simp only [List.mem_cons, List.not_mem_nil, or_false] at hd
        rcases hd with rfl | rfl <;> exact Nc.i (by omega)
theorem fst_lt {C : Nat → Nat → Rat} {n : Nat} {p : Nat × Nat} (h : fst C n = some p) : p.1 < n ∧ p.2 < n := by
  unfold fst at h
  obtain ⟨i, hi, h⟩ := List.exists_of_findSome?_eq_some h
  unfold fR at h
  obtain ⟨j, hj, h⟩ := List.exists_of_findSome?_eq_some h
  unfold fP at h
  split at h
  · cases h
    exact ⟨List.mem_range.mp hi, List.mem_range.mp hj⟩
  · cases h
/-- what the law asks of a chain -/
theorem asked (k : Nat) (σ : LS) {n : Nat} {C : Nat → Nat → Rat} (hC : ChOk n C) {e0 e2 : Option D} : ∃ d f, frzO (st σ :: rest) (run fns (k + 8) false 10 [chD n C] (st σ :: rest)) = some (.ok d (st σ :: rest)) ∧ frzO (st σ :: rest) (run fns (k + 8) false 24 [chD n C] (st σ :: rest)) = some (.ok f (st σ :: rest)) ∧
    exec (fun h' => ⟨h', run fns (k + 8) h'⟩) (.seq (.ifs (.or (.not (.isi (.var 4) .tuple)) (.cmp .ne (.prim .len (.cons (.var 4) .nil)) (.con (.int 2)))) (.seq (.ret (.con (.bl false))) .nil) .nil) (.seq (.ifs (.isnn (.var 5)) (.seq (.ifs (.not (.call 22 false (.cons (.var 4) (.cons (.tup (.cons (.con (.str "one")) (.cons (.var 5) .nil))) .nil)))) (.seq (.ret (.con (.bl false))) .nil) .nil) .nil) (.seq (.ifs (.cmp .eq (.idx (.var 4) (.con (.int 0))) (.con (.str "balanced"))) (.seq (.ifs (.or (.not (.call 25 false (.cons (.var 3) (.cons (.idx (.var 4) (.con (.int 1))) .nil)))) (.isnn (.call 12 false (.cons (.var 3) (.cons (.idx (.var 4) (.con (.int 1))) .nil))))) (.seq (.ret (.con (.bl false))) .nil) .nil) .nil) (.seq (.ifs (.or (.cmp .ne (.idx (.var 4) (.con (.int 0))) (.con (.str "ring"))) (.or (.not (.call 26 false (.cons (.var 3) (.cons (.idx (.var 4) (.con (.int 1))) .nil)))) (.isnn (.call 13 false (.cons (.var 3) (.cons (.idx (.var 4) (.con (.int 1))) .nil)))))) (.seq (.ret (.con (.bl false))) .nil) .nil) .nil)) .nil)) .nil)) false [e0, some (.loc 0), e2, some (chD n C), some d, some f] (st σ :: rest) = some (.nx [e0, some (.loc 0), e2, some (chD n C), some d, some f], st σ :: rest) := by
  have n8 := hC.l2
  obtain ⟨d, q10, h⟩ := r10 (S := st σ :: rest) k hC
  have q24 := r24 (S := st σ :: rest) (k + 7) hC
  rcases h with ⟨p, hp, rfl⟩ | ⟨hn, hb⟩
  · rw [hp] at q24
    obtain ⟨l1, l2⟩ := fst_lt hp
    have sm := frz_same (r_same i22 (k + 7) (S := st σ :: rest) (nc_one p (by omega) (by omega)) (by omega) (by omega)) (by simp)
    refine ⟨_, prD p, q10, frz_same q24 (by simp), ?_⟩
    generalize chD n C = CH at *
    simp [sm]
  · rw [hn] at q24
    rcases hb with ⟨w, hw, rfl⟩ | ⟨R, hR, rfl⟩
    · obtain ⟨U, q25⟩ := r25 (S := st σ :: rest) (k + 4) hC hw
      have q25 := frz_of q25 (by simp)
      have q12 := frz_same (r12 (S := st σ :: rest) k hC hw) (by simp)
      have s1 := (st_lit (a := "balanced") (b := "balanced") (by decide +kernel) (by decide +kernel) (st σ :: rest)).1
      refine ⟨_, .non, q10, frz_same q24 (by simp), ?_⟩
      generalize chD n C = CH at *
      generalize rwF n w = RW at *
      simp [s1, q25, q12]
    · obtain ⟨U, q26⟩ := r26 (S := st σ :: rest) (k + 4) hC hR
      have q26 := frz_of q26 (by simp)
      obtain ⟨U2, q13⟩ := r13 (S := st σ :: rest) k hC hR
      have q13 := frz_of q13 (by simp)
      have s1 := (st_lit (a := "ring") (b := "balanced") (by decide +kernel) (by decide +kernel) (st σ :: rest)).1
      have s2 := (st_lit (a := "ring") (b := "ring") (by decide +kernel) (by decide +kernel) (st σ :: rest)).2
      have ne : (("ring" : Str) == ("balanced" : Str)) = false := by decide +kernel
      have eqq : (("ring" : Str) == ("ring" : Str)) = true := by decide +kernel
      rw [ne] at s1
      rw [eqq] at s2
      refine ⟨_, .non, q10, frz_same q24 (by simp), ?_⟩
      generalize chD n C = CH at *
      generalize D.tup (nsD R) = RW at *
      simp [s1, s2, q26, q13]
theorem turn27 (k : Nat) (i : Nat) (σ : LS) : ∃ (σ' : LS) (rest' : Store) (b3 b4 b5 : Option D), turnL (fun h' => ⟨h', run fns (k + 8) h'⟩) (.var 2) b27_0 (.int (i : Int)) [e0, some (.loc 0), e2, e3, e4, e5] (st σ :: rest) =
    some (.nx [e0, some (.loc 0), some (.int (i : Int)), b3, b4, b5], st σ' :: rest') := by
  obtain ⟨v1, σ1, y1, hy1, a1, q1⟩ := pickT i15 (k + 7) σ rest [.int 3, .int 8] (m := 2) (by simp) (by omega) (by omega)
  obtain ⟨z, rfl, z0, z1⟩ : ∃ z : Int, y1 = .int z ∧ 0 < z ∧ z ≤ 8 := by
    simp only [List.mem_cons, List.not_mem_nil, or_false] at hy1
    rcases hy1 with rfl | rfl
    · exact ⟨3, rfl, by omega, by omega⟩
    · exact ⟨8, rfl, by omega, by omega⟩
  obtain ⟨v2, σ2, v20, v21, q2⟩ := drwT i15 (k + 7) σ1 rest z z0 (by omega)
  obtain ⟨m, hm⟩ : ∃ m : Nat, 1 + v2 = (m : Int) := ⟨(1 + v2).toNat, by omega⟩
  obtain ⟨C1, σ3, U1, hC1, q3⟩ := r23 (rest := rest) (k + 5) σ2 (n := m) (by omega) (by omega)
  obtain ⟨n, C2, σ4, U2, hC2, q4⟩ := r21 (rest := rest ++ U1) (k + 5) σ3
  rw [List.append_assoc] at q4
  obtain ⟨R, hR⟩ : ∃ R, R = rest ++ (U1 ++ U2) := ⟨_, rfl⟩
  rw [← hR] at q4
  obtain ⟨v5, σ5, v50, v51, q5⟩ := drwT i15 (k + 7) σ4 R 4 (by omega) (by omega)
  by_cases h5 : v5 = 0
  · obtain ⟨d, f, x1, x2, x3⟩ := asked (rest := R) k σ5 hC2 (e0 := e0) (e2 := some (.int (i : Int)))
    refine ⟨σ5, R, some (chD n C2), some d, some f, ?_⟩
    rw [← hm] at q3
    generalize chD n C2 = CH at *
    generalize chD m C1 = CH1 at *
    simp [turnL, b27_0, q1, a1, q2, q3, q4, q5, h5, x1, x2]
    simpa using x3
  · obtain ⟨d, f, x1, x2, x3⟩ := asked (rest := R) k σ5 hC1 (e0 := e0) (e2 := some (.int (i : Int)))
    refine ⟨σ5, R, some (chD m C1), some d, some f, ?_⟩
    rw [← hm] at q3
    generalize chD n C2 = CH at *
    generalize chD m C1 = CH1 at *
    simp [turnL, b27_0, q1, a1, q2, q3, q4, q5, h5, x1, x2]
    simpa using x3
end
def depth : Nat := 30
theorem law_run (ns : List Int) (hl : ns.length ≤ 63) : ∃ S, run fns depth false 27 [scriptD ns] [] = some (.ok (.bl true) S) := by
  show ∃ S, run fns (21 + 8 + 1) false 27 [.flst (ns.map .int)] [] = _
  obtain ⟨σ, e⟩ := r_start i14 (21 + 7) ns
  obtain ⟨_, _, e2, σ2, rest, b2, b3, b4, b5, rfl, rfl⟩ := for_inv (p := p27_0) (G := fun h' => ⟨h', run fns (21 + 8) h'⟩) (emb := fun (i : Nat) => D.int (i : Int)) (gs := []) (ds := [.int 4]) rfl
    (fun _ env' S' => ∃ (σ' : LS) (rest : Store) (b2 b3 b4 b5 : Option D), env' = [some (.flst (ns.map .int)), some (.loc 0), b2, b3, b4, b5] ∧ S' = st σ' :: rest) (List.range 4) (env := [some (.flst (ns.map .int)), some (.loc 0), none, none, none, none]) (S := [st σ]) ⟨σ, [], none, none, none, none, rfl, rfl⟩ (by simp) (it_rng1 (j := 4) (rngOkS (by omega) (by omega))) (fun _ _ _ _ => g0) (by
    rintro p j r env S1 he ⟨σ', rest, b2, b3, b4, b5, rfl, rfl⟩
    obtain ⟨σ2, rest2, c3, c4, c5, e⟩ := turn27 (e0 := some (.flst (ns.map .int))) (e2 := b2) (e3 := b3) (e4 := b4) (e5 := b5) (rest := rest) 21 j σ'
    exact ⟨_, _, .inl e, σ2, rest2, _, _, _, _, rfl, rfl⟩)
  refine ⟨st σ2 :: rest, ?_⟩
  rw [Is.run (⟨f27, rfl, rfl, rfl, rfl, rfl⟩ : Is fns 27 1 6 _) rfl]
  simp [f27, e, e2]
end J.Law
/-! the text of law_k58_whole_balance_of_chains -/
namespace J.Law
open PySem PySem.Spec PyProof.Rows L2 J
def top (i : Nat) : Stmt := PySem.Challenge.pw_nosurewin_k58_whole_balance_of_chains.main.body.getD i (.Pass ⟨0, 0, 0, 0⟩)
def d0 : He.DefD := ⟨("is_integer", none), "is_integer", "is_integer", defArgs (top 5), defBody (top 5), defScope (top 5), [], []⟩
def d1 : He.DefD := ⟨("greatest_divisor", none), "greatest_divisor", "greatest_divisor", defArgs (top 9), defBody (top 9), defScope (top 9), [], []⟩
def d2 : He.DefD := ⟨("quotient", none), "quotient", "quotient", defArgs (top 10), defBody (top 10), defScope (top 10), [], []⟩
def d3 : He.DefD := ⟨("plus", none), "plus", "plus", defArgs (top 11), defBody (top 11), defScope (top 11), [], []⟩
def d4 : He.DefD := ⟨("times", none), "times", "times", defArgs (top 12), defBody (top 12), defScope (top 12), [], []⟩
def d5 : He.DefD := ⟨("over", none), "over", "over", defArgs (top 13), defBody (top 13), defScope (top 13), [], []⟩
def d6 : He.DefD := ⟨("sum_of", none), "sum_of", "sum_of", defArgs (top 14), defBody (top 14), defScope (top 14), [], []⟩
def d7 : He.DefD := ⟨("is_quotient", none), "is_quotient", "is_quotient", defArgs (top 15), defBody (top 15), defScope (top 15), [], []⟩
def d8 : He.DefD := ⟨("are_shares", none), "are_shares", "are_shares", defArgs (top 17), defBody (top 17), defScope (top 17), [], []⟩
def d9 : He.DefD := ⟨("check_chain", none), "check_chain", "check_chain", defArgs (top 19), defBody (top 19), defScope (top 19), [], []⟩
def d10 : He.DefD := ⟨("judge_balance", none), "judge_balance", "judge_balance", defArgs (top 20), defBody (top 20), defScope (top 20), [], []⟩
def d11 : He.DefD := ⟨("ring_of", none), "ring_of", "ring_of", defArgs (top 21), defBody (top 21), defScope (top 21), [], []⟩
def d12 : He.DefD := ⟨("accept_balance", none), "accept_balance", "accept_balance", defArgs (top 22), defBody (top 22), defScope (top 22), [], []⟩
def d13 : He.DefD := ⟨("accept_ring", none), "accept_ring", "accept_ring", defArgs (top 23), defBody (top 23), defScope (top 23), [], []⟩
def d14 : He.DefD := ⟨("_law_start", none), "_law_start", "_law_start", defArgs (top 25), defBody (top 25), defScope (top 25), [], []⟩
def d15 : He.DefD := ⟨("_law_draw", none), "_law_draw", "_law_draw", defArgs (top 26), defBody (top 26), defScope (top 26), [], []⟩
def d16 : He.DefD := ⟨("_law_divisor", none), "_law_divisor", "_law_divisor", defArgs (top 27), defBody (top 27), defScope (top 27), [], []⟩
def d17 : He.DefD := ⟨("_law_quotient", none), "_law_quotient", "_law_quotient", defArgs (top 28), defBody (top 28), defScope (top 28), [], []⟩
def d18 : He.DefD := ⟨("_law_times", none), "_law_times", "_law_times", defArgs (top 29), defBody (top 29), defScope (top 29), [], []⟩
def d19 : He.DefD := ⟨("_law_whole", none), "_law_whole", "_law_whole", defArgs (top 30), defBody (top 30), defScope (top 30), [], []⟩
def d20 : He.DefD := ⟨("_law_is_quotient", none), "_law_is_quotient", "_law_is_quotient", defArgs (top 31), defBody (top 31), defScope (top 31), [], []⟩
def d21 : He.DefD := ⟨("_law_chain", none), "_law_chain", "_law_chain", defArgs (top 32), defBody (top 32), defScope (top 32), [], []⟩
def d22 : He.DefD := ⟨("_law_same_as", none), "_law_same_as", "_law_same_as", defArgs (top 33), defBody (top 33), defScope (top 33), [], []⟩
def d23 : He.DefD := ⟨("_law_even", none), "_law_even", "_law_even", defArgs (top 34), defBody (top 34), defScope (top 34), [], []⟩
def d24 : He.DefD := ⟨("_law_first", none), "_law_first", "_law_first", defArgs (top 35), defBody (top 35), defScope (top 35), [], []⟩
def d25 : He.DefD := ⟨("_law_weights_hold", none), "_law_weights_hold", "_law_weights_hold", defArgs (top 36), defBody (top 36), defScope (top 36), [], []⟩
def d26 : He.DefD := ⟨("_law_ring_holds", none), "_law_ring_holds", "_law_ring_holds", defArgs (top 37), defBody (top 37), defScope (top 37), [], []⟩
def d27 : He.DefD := ⟨("law", none), "law", "law", defArgs (top 38), defBody (top 38), defScope (top 38), [], []⟩
def ds : List He.DefD := [d0, d1, d2, d3, d4, d5, d6, d7, d8, d9, d10, d11, d12, d13, d14, d15, d16, d17, d18, d19, d20, d21, d22, d23, d24, d25, d26, d27]
def tab : Tab := { fns := fns, gints := [("MAX_PART", 1000), ("MAX_STATES", 8)], gtups := [], excs := [("ArgumentError", "the argument is refused: "), ("PaperError", "the paper is not accepted: ")], base := "OddsError" }
def inCls (s : Stmt) (j : Nat) : Stmt := match s with | .ClassDef _ _ _ b _ _ _ _ _ _ _ => b.getD j (.Pass ⟨0, 0, 0, 0⟩) | _ => .Pass ⟨0, 0, 0, 0⟩
def xcl0 : ExcD := ⟨"ArgumentError", "the argument is refused: ", "ArgumentError.__init__", defArgs (inCls (top 2) 0), defBody (inCls (top 2) 0), defScope (inCls (top 2) 0)⟩
def xcl1 : ExcD := ⟨"PaperError", "the paper is not accepted: ", "PaperError.__init__", defArgs (inCls (top 3) 0), defBody (inCls (top 3) 0), defScope (inCls (top 3) 0)⟩
def xs : List ExcD := [xcl0, xcl1]
def file : Str := PySem.Challenge.pw_nosurewin_k58_whole_balance_of_chains.main.file
theorem xs_ok : xs.all exTxtB = true := by decide +kernel
theorem top_ok : (PySem.Challenge.pw_nosurewin_k58_whole_balance_of_chains.main.scope.names.lookup ("super" : Str)).isSome = false := by decide +kernel
theorem xs_nd : (xs.map (·.nm)).Nodup := by decide +kernel
theorem xs_tab : tab.excs = xs.map fun x => (x.nm, x.tx) := by rfl
theorem t0 : FnDat tab f0 d0 := by
  refine ⟨by decide +kernel, fun K f fd F n hn => ?_⟩
  obtain rfl : n = 1 := List.mem_singleton.mp hn
  exact ⟨rfl, [], .nil, FunD.bindsN (ps := f0.ps) F fun _ _ _ _ _ _ us hl => match us, hl with | [_], _ => rfl⟩
theorem t1 : FnDat tab f1 d1 := by
  refine ⟨by decide +kernel, fun K f fd F n hn => ?_⟩
  obtain rfl : n = 2 := List.mem_singleton.mp hn
  exact ⟨rfl, [], .nil, FunD.bindsN (ps := f1.ps) F fun _ _ _ _ _ _ us hl => match us, hl with | [_, _], _ => rfl⟩
theorem t2 : FnDat tab f2 d2 := by
  refine ⟨by decide +kernel, fun K f fd F n hn => ?_⟩
  obtain rfl : n = 2 := List.mem_singleton.mp hn
  exact ⟨rfl, [], .nil, FunD.bindsN (ps := f2.ps) F fun _ _ _ _ _ _ us hl => match us, hl with | [_, _], _ => rfl⟩
theorem t3 : FnDat tab f3 d3 := by
  refine ⟨by decide +kernel, fun K f fd F n hn => ?_⟩
  obtain rfl : n = 2 := List.mem_singleton.mp hn
  exact ⟨rfl, [], .nil, FunD.bindsN (ps := f3.ps) F fun _ _ _ _ _ _ us hl => match us, hl with | [_, _], _ => rfl⟩
theorem t4 : FnDat tab f4 d4 := by
  refine ⟨by decide +kernel, fun K f fd F n hn => ?_⟩
  obtain rfl : n = 2 := List.mem_singleton.mp hn
  exact ⟨rfl, [], .nil, FunD.bindsN (ps := f4.ps) F fun _ _ _ _ _ _ us hl => match us, hl with | [_, _], _ => rfl⟩
theorem t5 : FnDat tab f5 d5 := by
  refine ⟨by decide +kernel, fun K f fd F n hn => ?_⟩
  obtain rfl : n = 2 := List.mem_singleton.mp hn
  exact ⟨rfl, [], .nil, FunD.bindsN (ps := f5.ps) F fun _ _ _ _ _ _ us hl => match us, hl with | [_, _], _ => rfl⟩
theorem t6 : FnDat tab f6 d6 := by
  refine ⟨by decide +kernel, fun K f fd F n hn => ?_⟩
  obtain rfl : n = 1 := List.mem_singleton.mp hn
  exact ⟨rfl, [], .nil, FunD.bindsN (ps := f6.ps) F fun _ _ _ _ _ _ us hl => match us, hl with | [_], _ => rfl⟩
theorem t7 : FnDat tab f7 d7 := by
  refine ⟨by decide +kernel, fun K f fd F n hn => ?_⟩
  obtain rfl : n = 1 := List.mem_singleton.mp hn
  exact ⟨rfl, [], .nil, FunD.bindsN (ps := f7.ps) F fun _ _ _ _ _ _ us hl => match us, hl with | [_], _ => rfl⟩
theorem t8 : FnDat tab f8 d8 := by
  refine ⟨by decide +kernel, fun K f fd F n hn => ?_⟩
  obtain rfl : n = 2 := List.mem_singleton.mp hn
  exact ⟨rfl, [], .nil, FunD.bindsN (ps := f8.ps) F fun _ _ _ _ _ _ us hl => match us, hl with | [_, _], _ => rfl⟩
theorem t9 : FnDat tab f9 d9 := by
  refine ⟨by decide +kernel, fun K f fd F n hn => ?_⟩
  obtain rfl : n = 1 := List.mem_singleton.mp hn
  exact ⟨rfl, [], .nil, FunD.bindsN (ps := f9.ps) F fun _ _ _ _ _ _ us hl => match us, hl with | [_], _ => rfl⟩
theorem t10 : FnDat tab f10 d10 := by
  refine ⟨by decide +kernel, fun K f fd F n hn => ?_⟩
  obtain rfl : n = 1 := List.mem_singleton.mp hn
  exact ⟨rfl, [], .nil, FunD.bindsN (ps := f10.ps) F fun _ _ _ _ _ _ us hl => match us, hl with | [_], _ => rfl⟩
theorem t11 : FnDat tab f11 d11 := by
  refine ⟨by decide +kernel, fun K f fd F n hn => ?_⟩
  obtain rfl : n = 3 := List.mem_singleton.mp hn
  exact ⟨rfl, [], .nil, FunD.bindsN (ps := f11.ps) F fun _ _ _ _ _ _ us hl => match us, hl with | [_, _, _], _ => rfl⟩
theorem t12 : FnDat tab f12 d12 := by
  refine ⟨by decide +kernel, fun K f fd F n hn => ?_⟩
  obtain rfl : n = 2 := List.mem_singleton.mp hn
  exact ⟨rfl, [], .nil, FunD.bindsN (ps := f12.ps) F fun _ _ _ _ _ _ us hl => match us, hl with | [_, _], _ => rfl⟩
theorem t13 : FnDat tab f13 d13 := by
  refine ⟨by decide +kernel, fun K f fd F n hn => ?_⟩
  obtain rfl : n = 2 := List.mem_singleton.mp hn
  exact ⟨rfl, [], .nil, FunD.bindsN (ps := f13.ps) F fun _ _ _ _ _ _ us hl => match us, hl with | [_, _], _ => rfl⟩
theorem t14 : FnDat tab f14 d14 := by
  refine ⟨by decide +kernel, fun K f fd F n hn => ?_⟩
  obtain rfl : n = 1 := List.mem_singleton.mp hn
  exact ⟨rfl, [], .nil, FunD.bindsN (ps := f14.ps) F fun _ _ _ _ _ _ us hl => match us, hl with | [_], _ => rfl⟩
theorem t15 : FnDat tab f15 d15 := by
  refine ⟨by decide +kernel, fun K f fd F n hn => ?_⟩
  obtain rfl : n = 2 := List.mem_singleton.mp hn
  exact ⟨rfl, [], .nil, FunD.bindsN (ps := f15.ps) F fun _ _ _ _ _ _ us hl => match us, hl with | [_, _], _ => rfl⟩
theorem t16 : FnDat tab f16 d16 := by
  refine ⟨by decide +kernel, fun K f fd F n hn => ?_⟩
  obtain rfl : n = 2 := List.mem_singleton.mp hn
  exact ⟨rfl, [], .nil, FunD.bindsN (ps := f16.ps) F fun _ _ _ _ _ _ us hl => match us, hl with | [_, _], _ => rfl⟩
theorem t17 : FnDat tab f17 d17 := by
  refine ⟨by decide +kernel, fun K f fd F n hn => ?_⟩
  obtain rfl : n = 2 := List.mem_singleton.mp hn
  exact ⟨rfl, [], .nil, FunD.bindsN (ps := f17.ps) F fun _ _ _ _ _ _ us hl => match us, hl with | [_, _], _ => rfl⟩
theorem t18 : FnDat tab f18 d18 := by
  refine ⟨by decide +kernel, fun K f fd F n hn => ?_⟩
  obtain rfl : n = 2 := List.mem_singleton.mp hn
  exact ⟨rfl, [], .nil, FunD.bindsN (ps := f18.ps) F fun _ _ _ _ _ _ us hl => match us, hl with | [_, _], _ => rfl⟩
theorem t19 : FnDat tab f19 d19 := by
  refine ⟨by decide +kernel, fun K f fd F n hn => ?_⟩
  obtain rfl : n = 1 := List.mem_singleton.mp hn
  exact ⟨rfl, [], .nil, FunD.bindsN (ps := f19.ps) F fun _ _ _ _ _ _ us hl => match us, hl with | [_], _ => rfl⟩
theorem t20 : FnDat tab f20 d20 := by
  refine ⟨by decide +kernel, fun K f fd F n hn => ?_⟩
  obtain rfl : n = 1 := List.mem_singleton.mp hn
  exact ⟨rfl, [], .nil, FunD.bindsN (ps := f20.ps) F fun _ _ _ _ _ _ us hl => match us, hl with | [_], _ => rfl⟩
theorem t21 : FnDat tab f21 d21 := by
  refine ⟨by decide +kernel, fun K f fd F n hn => ?_⟩
  obtain rfl : n = 2 := List.mem_singleton.mp hn
  exact ⟨rfl, [], .nil, FunD.bindsN (ps := f21.ps) F fun _ _ _ _ _ _ us hl => match us, hl with | [_, _], _ => rfl⟩
theorem t22 : FnDat tab f22 d22 := by
  refine ⟨by decide +kernel, fun K f fd F n hn => ?_⟩
  obtain rfl : n = 2 := List.mem_singleton.mp hn
  exact ⟨rfl, [], .nil, FunD.bindsN (ps := f22.ps) F fun _ _ _ _ _ _ us hl => match us, hl with | [_, _], _ => rfl⟩
theorem t23 : FnDat tab f23 d23 := by
  refine ⟨by decide +kernel, fun K f fd F n hn => ?_⟩
  obtain rfl : n = 2 := List.mem_singleton.mp hn
  exact ⟨rfl, [], .nil, FunD.bindsN (ps := f23.ps) F fun _ _ _ _ _ _ us hl => match us, hl with | [_, _], _ => rfl⟩
theorem t24 : FnDat tab f24 d24 := by
  refine ⟨by decide +kernel, fun K f fd F n hn => ?_⟩
  obtain rfl : n = 1 := List.mem_singleton.mp hn
  exact ⟨rfl, [], .nil, FunD.bindsN (ps := f24.ps) F fun _ _ _ _ _ _ us hl => match us, hl with | [_], _ => rfl⟩
theorem t25 : FnDat tab f25 d25 := by
  refine ⟨by decide +kernel, fun K f fd F n hn => ?_⟩
  obtain rfl : n = 2 := List.mem_singleton.mp hn
  exact ⟨rfl, [], .nil, FunD.bindsN (ps := f25.ps) F fun _ _ _ _ _ _ us hl => match us, hl with | [_, _], _ => rfl⟩
theorem t26 : FnDat tab f26 d26 := by
  refine ⟨by decide +kernel, fun K f fd F n hn => ?_⟩
  obtain rfl : n = 2 := List.mem_singleton.mp hn
  exact ⟨rfl, [], .nil, FunD.bindsN (ps := f26.ps) F fun _ _ _ _ _ _ us hl => match us, hl with | [_, _], _ => rfl⟩
theorem t27 : FnDat tab f27 d27 := by
  refine ⟨by decide +kernel, fun K f fd F n hn => ?_⟩
  obtain rfl : n = 1 := List.mem_singleton.mp hn
  exact ⟨rfl, [], .nil, FunD.bindsN (ps := f27.ps) F fun _ _ _ _ _ _ us hl => match us, hl with | [_], _ => rfl⟩
theorem dats : ∀ (i : Nat) (fn : Fn), fns[i]? = some fn → ∃ d, ds[i]? = some d ∧ FnDat tab fn d := by
  intro i fn h
  match i, h with
  | 0, h => cases h; exact ⟨d0, rfl, t0⟩
  | 1, h => cases h; exact ⟨d1, rfl, t1⟩
  | 2, h => cases h; exact ⟨d2, rfl, t2⟩
  | 3, h => cases h; exact ⟨d3, rfl, t3⟩
  | 4, h => cases h; exact ⟨d4, rfl, t4⟩
  | 5, h => cases h; exact ⟨d5, rfl, t5⟩
  | 6, h => cases h; exact ⟨d6, rfl, t6⟩
  | 7, h => cases h; exact ⟨d7, rfl, t7⟩
  | 8, h => cases h; exact ⟨d8, rfl, t8⟩
  | 9, h => cases h; exact ⟨d9, rfl, t9⟩
  | 10, h => cases h; exact ⟨d10, rfl, t10⟩
  | 11, h => cases h; exact ⟨d11, rfl, t11⟩
  | 12, h => cases h; exact ⟨d12, rfl, t12⟩
  | 13, h => cases h; exact ⟨d13, rfl, t13⟩
  | 14, h => cases h; exact ⟨d14, rfl, t14⟩
  | 15, h => cases h; exact ⟨d15, rfl, t15⟩
  | 16, h => cases h; exact ⟨d16, rfl, t16⟩
  | 17, h => cases h; exact ⟨d17, rfl, t17⟩
  | 18, h => cases h; exact ⟨d18, rfl, t18⟩
  | 19, h => cases h; exact ⟨d19, rfl, t19⟩
  | 20, h => cases h; exact ⟨d20, rfl, t20⟩
  | 21, h => cases h; exact ⟨d21, rfl, t21⟩
  | 22, h => cases h; exact ⟨d22, rfl, t22⟩
  | 23, h => cases h; exact ⟨d23, rfl, t23⟩
  | 24, h => cases h; exact ⟨d24, rfl, t24⟩
  | 25, h => cases h; exact ⟨d25, rfl, t25⟩
  | 26, h => cases h; exact ⟨d26, rfl, t26⟩
  | 27, h => cases h; exact ⟨d27, rfl, t27⟩
  | n + 28, h => cases h
def oth0 : List Str := ["OddsError", "ArgumentError", "PaperError", "is_integer", "MAX_PART", "MAX_STATES", "greatest_divisor", "quotient", "plus", "times", "over", "sum_of", "is_quotient", "are_shares", "check_chain", "judge_balance", "ring_of", "accept_balance", "accept_ring", "_law_start", "_law_draw", "_law_divisor", "_law_quotient", "_law_times", "_law_whole", "_law_is_quotient", "_law_chain", "_law_same_as", "_law_even", "_law_first"]
def oth1 : List Str := ["_law_weights_hold", "_law_ring_holds"]
abbrev others : List Str := oth0 ++ oth1
abbrev R : PySem.W.OpenRow := PySem.W.OpenLaw.row PySem.Challenge.rw_nosurewin_k58_whole_balance_of_chains
abbrev hk : PySem.W.Hook := hookX 4 (faOf tab) ds file tab.base xs
def ob (s : PySem.W.SharedT) : AlX := obsXG 4 (faOf tab) ds file tab.base xs (HandSHeadRun.getT s)
theorem ob_eq (s : PySem.W.SharedT) : ob s = hk.obs s.abs := obsXG_eq (HandSHeadRun.getT_eq s)
theorem top_run (w : World) : HandSHeadRun.RunEq R (PySem.W.view R.prog [38]) hk ob 6000 others w := by
  intro os
  kernel_rfl
end J.Law
open PySem PySem.W PySem.Calls PyProof.Rows
theorem PySem.Challenge.cw_nosurewin_k58_whole_balance_of_chains_holds : PySem.Challenge.rw_nosurewin_k58_whole_balance_of_chains.Holds := by
  w_on; o_law
  refine HandSHeadRun.head_any (r := OpenLaw.row PySem.Challenge.rw_nosurewin_k58_whole_balance_of_chains) (q := view (OpenLaw.row PySem.Challenge.rw_nosurewin_k58_whole_balance_of_chains).prog [38]) (H := J.Law.hk) (ob := J.Law.ob) (M := 6000) (loose := J.Law.others) (d := HandSHeadRun.topDef (OpenLaw.row PySem.Challenge.rw_nosurewin_k58_whole_balance_of_chains).prog 38) (kwd := []) J.Law.ob_eq
    (by kernel_rfl) (fun s => by kernel_rfl) J.Law.top_run (by kernel_rfl) (by kernel_rfl) (by kernel_rfl) (by rfl) (by first | assumption | decide +kernel) (by decide +kernel) ⟨rfl, rfl, rfl, rfl, rfl, by decide +kernel⟩ ?hw ?hc
  case hw => w_witness2
  case hc =>
    refine J.walk_ofG (l := PySem.Challenge.rw_nosurewin_k58_whole_balance_of_chains) (n := 63) (k := J.Law.depth) (x := "script") rfl (by decide) (by kernel_rfl) ⟨rfl, by decide, by decide⟩ ?F
    intro w mg fa h Y G hmg0
    obtain ⟨K, KX, c⟩ := Y
    have hmg : mg ("law" : PySem.Str) = some (.ref fa) := by
      have e : (HandSHeadRun.topDef (OpenLaw.row PySem.Challenge.rw_nosurewin_k58_whole_balance_of_chains).prog 38).name = ("law" : PySem.Str) := by kernel_rfl
      rw [← e]
      exact hmg0
    obtain ⟨fd, sp, h1, h2, h3⟩ := J.law_J (P := (PySem.Challenge.rw_nosurewin_k58_whole_balance_of_chains).prog) (w := w) (i := 27) (T := J.Law.tab) (ds := J.Law.ds) (k := J.Law.depth) (fn := J.Law.f27) (d := J.Law.d27) KX G c J.Law.dats rfl J.Law.xs_tab J.Law.xs_nd J.Law.xs_ok rfl J.Law.top_ok rfl rfl rfl rfl hmg (fun _ _ _ _ _ _ us hl => match us, hl with | [_], _ => rfl) J.Law.law_run
    exact ⟨K, fd, sp, KX, h1, h2, h3⟩
